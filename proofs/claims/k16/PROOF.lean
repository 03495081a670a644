import PyProof.Rows.All
import Wide.All
import OpenK.AllK
import Wide.FinOn
import HandS.ForMost
import HandS.Exc
import HandS.TryOnly
import HandS.TupAny
import HandS.TupMul
import HandS.Style
import HandS.Deep
import HandS.IsInst
import KE.KEqDict
import HandS.Flow
import HandS.SetKeys
import HandS.SortInts
import HandS.Iter
import HandS.More
import HandS.Small
import HandS.List
import PyProof.AutoSeq1
import HandS.Ends
import HandS.Comp
import KE.GoesEnum
import PyProof.ReprRoads
import HandS.SortOrd
import HandS.SortRule
import HandS.TupSets
import KE.KSortTupAny
import PyProof.Rows.FactsT3
import HandS.SetFor
import PyProof.Rows.SetFrom
import PyProof.Rows.SortStr
import HandS.Zip
import KE.KDictZip
import PySem.Challenge.RW_nearestpattern_k16_whole_matching_by_own
set_option Elab.async false
set_option linter.all false
set_option maxRecDepth 100000
set_option autoImplicit false
/-! A small interpreter over trees, and what it has to do with the abstract heap. -/
namespace VM
open PySem L2

/-! ### 1. values, cells, outcomes -/
/-- a value as a tree; a list or dict in it stands still for ever -/
inductive D where
  | non | bl (b : Bool) | int (i : Int) | str (x : Str)
  | tup (ds : List D) | lst (ds : List D) | dic (ks : List Key) (ds : List D)
  /-- the script -/
  | scr (ns : List Int)
  deriving Inhabited
/-- what a cell holds -/
inductive CV where
  | lst (ds : List D) | dic (ks : List Key) (ds : List D)
  deriving Inhabited
structure Cell where
  live : Bool
  val : CV
  deriving Inhabited
abbrev Sto := List Cell
/-- what a slot holds -/
inductive SV where
  | dat (d : D) | cel (k : Nat)
  deriving Inhabited
abbrev Env := List (Option SV)
/-- what an expression gives: data, a cell, or a new object that nobody else holds -/
inductive EV where
  | dat (d : D) | cel (k : Nat) | new (c : CV)
  deriving Inhabited
structure Exc where
  cls : Nat
  fs : List (Str × D)
  deriving Inhabited
inductive Res (α : Type) where
  | ok (a : α) (μ : Sto) | exc (x : Exc) (μ : Sto) | bad
  deriving Inhabited
abbrev Fns := Nat → List SV → Sto → Res EV
abbrev SE := Fns → Env → Sto → Res EV
/-- a test -/
abbrev SB := Fns → Env → Sto → Res Bool
inductive SO where
  | nx (ρ : Env) | rt (v : EV) | bk (ρ : Env) | ct (ρ : Env)
  deriving Inhabited
abbrev SS := Fns → Env → Sto → Res SO

def Res.bind {α β : Type} (r : Res α) (f : α → Sto → Res β) : Res β := match r with
  | .ok a μ => f a μ
  | .exc x μ => .exc x μ
  | .bad => .bad

def CV.toD : CV → D
  | .lst ds => .lst ds
  | .dic ks ds => .dic ks ds
/-- what is seen of a value -/
def EV.see (v : EV) (μ : Sto) : Option D := match v with
  | .dat d => some d
  | .new c => some c.toD
  | .cel k => match μ[k]? with
    | some c => some c.val.toD
    | none => none
/-- made still, for ever -/
def EV.frz (v : EV) (μ : Sto) : Option (D × Sto) := match v with
  | .dat d => some (d, μ)
  | .new c => some (c.toD, μ)
  | .cel k => match μ[k]? with
    | some c => some (c.val.toD, μ.set k ⟨false, c.val⟩)
    | none => none
def frzs : List EV → Sto → Option (List D × Sto)
  | [], μ => some ([], μ)
  | v :: vs, μ => match v.frz μ with
    | some (d, μ1) => match frzs vs μ1 with
      | some (ds, μ2) => some (d :: ds, μ2)
      | none => none
    | none => none
def SV.ev : SV → EV
  | .dat d => .dat d
  | .cel k => .cel k

/-! ### 2. what stands for what -/
section
variable (K : PySem.W.Frag) (L : Addr → Prop) (H : Hp)
def WrT (a : Addr) (vs : List V) : Prop := ∃ (o : Obj) (its : Array Value) (n : Nat), K.lookup a = some o ∧ o.cls = .type "tuple" ∧ o.data = .seq its n ∧ its.size ≤ sizeLine ∧ Vals vs its.toList
def WrL (a : Addr) (vs : List V) : Prop := ∃ (o : Obj) (its : Array Value) (n : Nat), K.lookup a = some o ∧ o.cls = .type "list" ∧ o.dict = none ∧ o.data = .seq its n ∧ its.size ≤ sizeLine ∧ Vals vs its.toList
def TupN (a : Addr) (vs : List V) : Prop := (Rd H a (.tup vs) ∧ ¬ L a) ∨ WrT K a vs
def LstN (a : Addr) (vs : List V) : Prop := (Rd H a (.lst vs) ∧ ¬ L a) ∨ WrL K a vs
mutual
def Rep : D → V → Prop
  | .non, v => v = .non
  | .bl b, v => v = .bl b
  | .int i, v => v = .int i
  | .str x, v => v = .str x
  | .tup ds, v => ∃ a vs, v = .ref a ∧ TupN K L H a vs ∧ Reps ds vs
  | .lst ds, v => ∃ a vs, v = .ref a ∧ H a = some (.lst vs) ∧ ¬ L a ∧ Reps ds vs
  | .dic ks ds, v => ∃ a vs, v = .ref a ∧ Rd H a (.dK (ks.zip vs)) ∧ ¬ L a ∧ ks.length = ds.length ∧ Reps ds vs
  | .scr ns, v => ∃ a, v = .ref a ∧ LstN K L H a (ns.map V.int)
def Reps : List D → List V → Prop
  | [], vs => vs = []
  | d :: ds, vs => ∃ v r, vs = v :: r ∧ Rep d v ∧ Reps ds r
end
end
section
variable {K : PySem.W.Frag} {L L' : Addr → Prop} {H H' : Hp}
theorem TupN.sq {a : Addr} {vs : List V} (h : TupN K L H a vs) : SqT K H a vs := by
  rcases h with h | h
  · exact .inl h.1
  · exact .inr h
theorem LstN.sq {a : Addr} {vs : List V} (h : LstN K L H a vs) : SqL K H a vs := by
  rcases h with h | h
  · exact .inl h.1
  · exact .inr h
/-- what does not live stays -/
def Mv (L : Addr → Prop) (H : Hp) (L' : Addr → Prop) (H' : Hp) : Prop := ∀ a o, H a = some o → ¬ L a → H' a = some o ∧ ¬ L' a
theorem rd_mv {a : Addr} {u : HO} (m : Mv L H L' H') (h : Rd H a u) (n : ¬ L a) : Rd H' a u ∧ ¬ L' a := by
  rcases h with h | ⟨o, h⟩
  · exact ⟨.inl (m a _ h n).1, (m a _ h n).2⟩
  · exact ⟨.inr ⟨o, (m a _ h n).1⟩, (m a _ h n).2⟩
theorem TupN.mv {a : Addr} {vs : List V} (m : Mv L H L' H') (h : TupN K L H a vs) : TupN K L' H' a vs := by
  rcases h with ⟨h, n⟩ | h
  · exact .inl (rd_mv m h n)
  · exact .inr h
theorem LstN.mv {a : Addr} {vs : List V} (m : Mv L H L' H') (h : LstN K L H a vs) : LstN K L' H' a vs := by
  rcases h with ⟨h, n⟩ | h
  · exact .inl (rd_mv m h n)
  · exact .inr h
mutual
theorem Rep.mv (m : Mv L H L' H') : ∀ (d : D) (v : V), Rep K L H d v → Rep K L' H' d v
  | .non, v, h => by simpa only [Rep] using h
  | .bl _, v, h => by simpa only [Rep] using h
  | .int _, v, h => by simpa only [Rep] using h
  | .str _, v, h => by simpa only [Rep] using h
  | .tup ds, v, h => by
    simp only [Rep] at h ⊢
    obtain ⟨a, vs, e, t, r⟩ := h
    exact ⟨a, vs, e, t.mv m, Reps.mv m ds vs r⟩
  | .lst ds, v, h => by
    simp only [Rep] at h ⊢
    obtain ⟨a, vs, e, t, n, r⟩ := h
    exact ⟨a, vs, e, (m a _ t n).1, (m a _ t n).2, Reps.mv m ds vs r⟩
  | .scr ns, v, h => by
    simp only [Rep] at h ⊢
    obtain ⟨a, e, t⟩ := h
    exact ⟨a, e, t.mv m⟩
  | .dic ks ds, v, h => by
    simp only [Rep] at h ⊢
    obtain ⟨a, vs, e, t, n, l, r⟩ := h
    exact ⟨a, vs, e, (rd_mv m t n).1, (rd_mv m t n).2, l, Reps.mv m ds vs r⟩
theorem Reps.mv (m : Mv L H L' H') : ∀ (ds : List D) (vs : List V), Reps K L H ds vs → Reps K L' H' ds vs
  | [], vs, h => by simpa only [Reps] using h
  | d :: ds, vs, h => by
    simp only [Reps] at h ⊢
    obtain ⟨v, r, e, h1, h2⟩ := h
    exact ⟨v, r, e, Rep.mv m d v h1, Reps.mv m ds r h2⟩
end
theorem Reps.len : ∀ {ds : List D} {vs : List V}, Reps K L H ds vs → vs.length = ds.length
  | [], vs, h => by
    have h : vs = [] := by simpa only [Reps] using h
    rw [h] <;> rfl
  | d :: ds, vs, h => by
    simp only [Reps] at h
    obtain ⟨v, r, e, h1, h2⟩ := h
    rw [e, List.length_cons, List.length_cons, Reps.len h2]
theorem Reps.nil : Reps K L H [] [] := by simp only [Reps]
theorem Reps.cons {d : D} {v : V} {ds : List D} {vs : List V} (h : Rep K L H d v) (t : Reps K L H ds vs) : Reps K L H (d :: ds) (v :: vs) := by
  simp only [Reps]
  exact ⟨v, vs, rfl, h, t⟩
theorem Reps.inv {d : D} {ds : List D} {vs : List V} (h : Reps K L H (d :: ds) vs) : ∃ v r, vs = v :: r ∧ Rep K L H d v ∧ Reps K L H ds r := by
  simpa only [Reps] using h
theorem Reps.invN {vs : List V} (h : Reps K L H [] vs) : vs = [] := by simpa only [Reps] using h
theorem Reps.app : ∀ {ds es : List D} {vs ws : List V}, Reps K L H ds vs → Reps K L H es ws → Reps K L H (ds ++ es) (vs ++ ws)
  | [], es, vs, ws, h, g => by
    rw [h.invN]; exact g
  | d :: ds, es, vs, ws, h, g => by
    obtain ⟨v, r, e, h1, h2⟩ := h.inv
    subst e
    exact Reps.cons h1 (Reps.app h2 g)
theorem Reps.get : ∀ {ds : List D} {vs : List V} {i : Nat} {d : D}, Reps K L H ds vs → ds[i]? = some d → ∃ v, vs[i]? = some v ∧ Rep K L H d v
  | [], vs, i, d, h, e => by simp at e
  | x :: ds, vs, 0, d, h, e => by
    obtain ⟨v, r, e1, h1, h2⟩ := h.inv
    subst e1
    simp at e; subst e
    exact ⟨v, rfl, h1⟩
  | x :: ds, vs, i + 1, d, h, e => by
    obtain ⟨v, r, e1, h1, h2⟩ := h.inv
    subst e1
    obtain ⟨w, q1, q2⟩ := Reps.get (i := i) h2 (by simpa using e)
    exact ⟨w, by simpa using q1, q2⟩
theorem Reps.get' : ∀ {ds : List D} {vs : List V} {i : Nat} {v : V}, Reps K L H ds vs → vs[i]? = some v → ∃ d, ds[i]? = some d ∧ Rep K L H d v
  | [], vs, i, d, h, e => by rw [h.invN] at e; simp at e
  | x :: ds, vs, 0, d, h, e => by
    obtain ⟨v, r, e1, h1, h2⟩ := h.inv
    subst e1
    simp at e; subst e
    exact ⟨x, rfl, h1⟩
  | x :: ds, vs, i + 1, d, h, e => by
    obtain ⟨v, r, e1, h1, h2⟩ := h.inv
    subst e1
    obtain ⟨w, q1, q2⟩ := Reps.get' (i := i) h2 (by simpa using e)
    exact ⟨w, by simpa using q1, q2⟩
theorem Reps.set : ∀ {ds : List D} {vs : List V} {d : D} {v : V} (i : Nat), Reps K L H ds vs → Rep K L H d v → Reps K L H (ds.set i d) (vs.set i v)
  | [], vs, d, v, i, h, g => by rw [h.invN]; exact Reps.nil
  | x :: ds, vs, d, v, 0, h, g => by
    obtain ⟨w, r, e1, h1, h2⟩ := h.inv
    subst e1
    exact Reps.cons g h2
  | x :: ds, vs, d, v, i + 1, h, g => by
    obtain ⟨w, r, e1, h1, h2⟩ := h.inv
    subst e1
    exact Reps.cons h1 (Reps.set i h2 g)
theorem Reps.take : ∀ {ds : List D} {vs : List V} (n : Nat), Reps K L H ds vs → Reps K L H (ds.take n) (vs.take n)
  | ds, vs, 0, h => by rw [List.take_zero, List.take_zero]; exact Reps.nil
  | [], vs, n + 1, h => by rw [h.invN]; exact Reps.nil
  | x :: ds, vs, n + 1, h => by
    obtain ⟨w, r, e1, h1, h2⟩ := h.inv
    subst e1
    exact Reps.cons h1 (Reps.take n h2)
theorem Reps.drop : ∀ {ds : List D} {vs : List V} (n : Nat), Reps K L H ds vs → Reps K L H (ds.drop n) (vs.drop n)
  | ds, vs, 0, h => h
  | [], vs, n + 1, h => by rw [h.invN]; exact Reps.nil
  | x :: ds, vs, n + 1, h => by
    obtain ⟨w, r, e1, h1, h2⟩ := h.inv
    subst e1
    exact Reps.drop n h2
theorem Reps.rev : ∀ {ds : List D} {vs : List V}, Reps K L H ds vs → Reps K L H ds.reverse vs.reverse
  | [], vs, h => by rw [h.invN]; exact Reps.nil
  | x :: ds, vs, h => by
    obtain ⟨w, r, e1, h1, h2⟩ := h.inv
    subst e1
    rw [List.reverse_cons, List.reverse_cons]
    exact Reps.app (Reps.rev h2) (Reps.cons h1 Reps.nil)
end

/-! ### 3. the store and the heap -/
/-- the live cells' addresses -/
def Cel (μ : Sto) (ι : List Addr) (a : Addr) : Prop := ∃ (k : Nat) (c : Cell), μ[k]? = some c ∧ c.live = true ∧ ι[k]? = some a
def Liv (Acc : Addr → Prop) (μ : Sto) (ι : List Addr) (a : Addr) : Prop := Cel μ ι a ∨ Acc a
def CvR (K : PySem.W.Frag) (L : Addr → Prop) (H : Hp) (c : CV) (a : Addr) : Prop := match c with
  | .lst ds => ∃ vs, H a = some (.lst vs) ∧ Reps K L H ds vs
  | .dic ks ds => ∃ vs, Rd H a (.dK (ks.zip vs)) ∧ ks.length = ds.length ∧ Reps K L H ds vs
/-- no locked dict -/
def Hot (H : Hp) (a : Addr) : Prop := ∀ o kvs, H a ≠ some (.frz o (.dK kvs))
structure Sim (K : PySem.W.Frag) (Acc : Addr → Prop) (μ : Sto) (ι : List Addr) (H : Hp) : Prop where
  len : ι.length = μ.length
  nd : ι.Nodup
  acc : ∀ a, Acc a → a ∉ ι ∧ H a ≠ none
  cell : ∀ (k : Nat) (c : Cell), μ[k]? = some c → ∃ a, ι[k]? = some a ∧ CvR K (Liv Acc μ ι) H c.val a
  hot : ∀ a, Liv Acc μ ι a → Hot H a
/-- how a run goes on: from (ι, μ, H) to (ι', μ', H') -/
structure Stp (K : PySem.W.Frag) (Acc : Addr → Prop) (ι : List Addr) (μ : Sto) (H : Hp) (ι' : List Addr) (μ' : Sto) (H' : Hp) : Prop where
  sim : Sim K Acc μ' ι' H'
  pre : ∃ ex, ι' = ι ++ ex ∧ ∀ a ∈ ex, H a = none
  keep : ∀ a o, H a = some o → ¬ Cel μ ι a → H' a = some o
  trk : ∀ a, H a ≠ none → H' a ≠ none
  liv : ∀ a, Cel μ' ι' a → Cel μ ι a ∨ H a = none
def SvR (K : PySem.W.Frag) (L : Addr → Prop) (ι : List Addr) (H : Hp) (s : SV) (v : V) : Prop := match s with
  | .dat d => Rep K L H d v
  | .cel k => ∃ a, ι[k]? = some a ∧ v = .ref a
def EnvR (K : PySem.W.Frag) (L : Addr → Prop) (ι : List Addr) (H : Hp) (ρ : Env) (σ : L2.St) : Prop :=
  ρ.length = σ.length ∧ ∀ (i : Nat) s, ρ[i]? = some (some s) → ∃ v, σ[i]? = some (some v) ∧ SvR K L ι H s v
/-- H0: the heap ahead -/
def EvR (K : PySem.W.Frag) (L : Addr → Prop) (ι : List Addr) (H0 H : Hp) (e : EV) (v : V) : Prop := match e with
  | .dat d => Rep K L H d v
  | .cel k => ∃ a, ι[k]? = some a ∧ v = .ref a
  | .new c => ∃ p, v = .ref p ∧ H0 p = none ∧ CvR K L H c p
/-- a new object: nothing still leads to it -/
def OwnR (K : PySem.W.Frag) (Acc : Addr → Prop) (μ : Sto) (ι : List Addr) (H : Hp) (e : EV) (v : V) : Prop := match e with
  | .new c => ∀ p, v = .ref p → Sim K (fun a => Acc a ∨ a = p) μ ι H ∧ CvR K (Liv (fun a => Acc a ∨ a = p) μ ι) H c p
  | _ => True
def EvsR (K : PySem.W.Frag) (L : Addr → Prop) (ι : List Addr) (H0 H : Hp) : List EV → List V → Prop
  | [], vs => vs = []
  | e :: es, vs => ∃ v r, vs = v :: r ∧ EvR K L ι H0 H e v ∧ EvsR K L ι H0 H es r
/-- an exception: its class's address, its own dict's, what lies there -/
structure XI where
  cls : Nat → Addr
def ExcR (K : PySem.W.Frag) (XC : Nat → Addr) (L : Addr → Prop) (H0 H : Hp) (x : Exc) (c : Value) (da : Option Addr) : Prop :=
  c = .ref (XC x.cls) ∧ match da with
    | none => x.fs = []
    | some d => H0 d = none ∧ ∃ vs, H d = some (.xd ((x.fs.map (·.1)).zip vs)) ∧ Reps K L H (x.fs.map (·.2)) vs

section
variable {K : PySem.W.Frag} {Acc : Addr → Prop} {ι ι1 ι2 ι' : List Addr} {μ μ1 μ2 μ' : Sto} {H H0 H1 H2 H' : Hp}
theorem Cel.mem {a : Addr} (h : Cel μ ι a) : a ∈ ι := by
  obtain ⟨k, c, _, _, e⟩ := h
  exact List.mem_of_getElem? e
theorem CvR.trk {L : Addr → Prop} {c : CV} {a : Addr} (h : CvR K L H c a) : H a ≠ none := by
  cases c with
  | lst ds => obtain ⟨vs, e, _⟩ := h; rw [e]; simp
  | dic ks ds => obtain ⟨vs, e | ⟨o, e⟩, _⟩ := h <;> rw [e] <;> simp
theorem Sim.trk (S : Sim K Acc μ ι H) {a : Addr} (h : a ∈ ι) : H a ≠ none := by
  obtain ⟨k, hk⟩ := List.getElem?_of_mem h
  have hl : k < μ.length := by rw [← S.len]; exact (List.getElem?_eq_some_iff.mp hk).1
  obtain ⟨b, e, r⟩ := S.cell k _ (List.getElem?_eq_getElem hl)
  rw [hk] at e; cases e
  exact r.trk
theorem Sim.live_ne (S : Sim K Acc μ ι H) {a p : Addr} (h : Liv Acc μ ι a) (n : H p = none) : a ≠ p := by
  rintro rfl
  rcases h with h | h
  · exact S.trk h.mem n
  · exact (S.acc a h).2 n
theorem Stp.mv (t : Stp K Acc ι μ H ι' μ' H') (S : Sim K Acc μ ι H) : Mv (Liv Acc μ ι) H (Liv Acc μ' ι') H' := fun a o h n => by
  refine ⟨t.keep a o h fun z => n (.inl z), fun z => ?_⟩
  rcases z with z | z
  · rcases t.liv a z with z | z
    · exact n (.inl z)
    · rw [h] at z; cases z
  · exact n (.inr z)
theorem Stp.refl (S : Sim K Acc μ ι H) : Stp K Acc ι μ H ι μ H := ⟨S, ⟨[], by simp, by simp⟩, fun _ _ h _ => h, fun _ h => h, fun _ h => .inl h⟩
theorem Stp.back (t : Stp K Acc ι μ H ι' μ' H') {p : Addr} (h : H' p = none) : H p = none := by
  cases e : H p with
  | none => rfl
  | some o => exact absurd h (t.trk p (by rw [e]; simp))
theorem Stp.trans (a : Stp K Acc ι μ H ι1 μ1 H1) (b : Stp K Acc ι1 μ1 H1 ι2 μ2 H2) : Stp K Acc ι μ H ι2 μ2 H2 := by
  refine ⟨b.sim, ?_, fun x o h n => ?_, fun x h => b.trk x (a.trk x h), fun x h => ?_⟩
  · obtain ⟨e1, h1, n1⟩ := a.pre
    obtain ⟨e2, h2, n2⟩ := b.pre
    refine ⟨e1 ++ e2, by rw [h2, h1, List.append_assoc], fun x hx => ?_⟩
    rcases List.mem_append.mp hx with hx | hx
    · exact n1 x hx
    · exact a.back (n2 x hx)
  · refine b.keep x o (a.keep x o h n) fun z => ?_
    rcases a.liv x z with z | z
    · exact n z
    · rw [h] at z; cases z
  · rcases b.liv x h with z | z
    · exact a.liv x z
    · exact .inr (a.back z)
theorem Stp.get (t : Stp K Acc ι μ H ι' μ' H') {k : Nat} {a : Addr} (h : ι[k]? = some a) : ι'[k]? = some a := by
  obtain ⟨ex, e, _⟩ := t.pre
  rw [e, List.getElem?_append_left (List.getElem?_eq_some_iff.mp h).1]
  exact h
theorem CvR.mv {L L' : Addr → Prop} {c : CV} {a : Addr} (m : Mv L H L' H') (h : CvR K L H c a) (ha : ∀ o, H a = some o → H' a = some o) : CvR K L' H' c a := by
  cases c with
  | lst ds => obtain ⟨vs, e, r⟩ := h; exact ⟨vs, ha _ e, Reps.mv m _ _ r⟩
  | dic ks ds => obtain ⟨vs, e, l, r⟩ := h; exact ⟨vs, e.imp (ha _) (fun ⟨o, e⟩ => ⟨o, ha _ e⟩), l, Reps.mv m _ _ r⟩
theorem SvR.mv {s : SV} {v : V} (t : Stp K Acc ι μ H ι' μ' H') (S : Sim K Acc μ ι H) (h : SvR K (Liv Acc μ ι) ι H s v) : SvR K (Liv Acc μ' ι') ι' H' s v := by
  cases s with
  | dat d => exact Rep.mv (t.mv S) _ _ h
  | cel k => obtain ⟨a, e, r⟩ := h; exact ⟨a, t.get e, r⟩
theorem EnvR.mv {ρ : Env} {σ : L2.St} (t : Stp K Acc ι μ H ι' μ' H') (S : Sim K Acc μ ι H) (h : EnvR K (Liv Acc μ ι) ι H ρ σ) : EnvR K (Liv Acc μ' ι') ι' H' ρ σ :=
  ⟨h.1, fun i s e => let ⟨v, e1, r⟩ := h.2 i s e; ⟨v, e1, r.mv t S⟩⟩
/-- a value found by a step, carried over the next one -/
theorem EvR.mv {e : EV} {v : V} (a : Stp K Acc ι μ H ι1 μ1 H1) (S : Sim K Acc μ ι H) (b : Stp K Acc ι1 μ1 H1 ι2 μ2 H2) (h : EvR K (Liv Acc μ1 ι1) ι1 H H1 e v) (hi : ι1 = ι) : EvR K (Liv Acc μ2 ι2) ι2 H H2 e v := by
  subst hi
  cases e with
  | dat d => exact Rep.mv (b.mv a.sim) _ _ h
  | cel k => obtain ⟨x, e, r⟩ := h; exact ⟨x, b.get e, r⟩
  | new c =>
    obtain ⟨p, e, n, r⟩ := h
    refine ⟨p, e, n, r.mv (b.mv a.sim) fun o ho => b.keep p o ho fun z => ?_⟩
    exact S.trk z.mem n
theorem EvR.back {e : EV} {v : V} {L : Addr → Prop} (a : Stp K Acc ι μ H ι1 μ1 H1) (h : EvR K L ι2 H1 H2 e v) : EvR K L ι2 H H2 e v := by
  cases e with
  | dat d => exact h
  | cel k => exact h
  | new c => obtain ⟨p, e, n, r⟩ := h; exact ⟨p, e, a.back n, r⟩
end
end VM
/-! The readings by the interpreter, and the rules of plain expressions. -/
namespace VM
open PySem L2

/-! ### 1. readings -/
/-- what a run's outcome r asks of what follows; base: (ι, μ, H) ahead -/
def wp {α β : Type} (Rel : (Addr → Prop) → Sto → List Addr → Hp → Hp → α → β → Prop) (K : PySem.W.Frag) (XC : Nat → Addr) (W : WX) (Acc : Addr → Prop) (ι : List Addr) (μ : Sto) (H : Hp) (σ : L2.St) (r : Res α) (Q : β → Hp → Prop) : Prop := match r with
  | .ok a μ' => ∀ b H', Stp K Acc ι μ H ι μ' H' → Rel Acc μ' ι H H' a b → Q b H'
  | .exc x μ' => ∀ c d H', Stp K Acc ι μ H ι μ' H' → ExcR K XC (Liv Acc μ' ι) H H' x c d → W c d σ H'
  | .bad => False
/-- the relations used -/
abbrev relE (K : PySem.W.Frag) : (Addr → Prop) → Sto → List Addr → Hp → Hp → EV → V → Prop := fun Acc μ ι H H' e v => EvR K (Liv Acc μ ι) ι H H' e v ∧ OwnR K Acc μ ι H' e v
abbrev relB : (Addr → Prop) → Sto → List Addr → Hp → Hp → Bool → Bool → Prop := fun _ _ _ _ _ a b => b = a
abbrev relA (K : PySem.W.Frag) : (Addr → Prop) → Sto → List Addr → Hp → Hp → List EV → List V → Prop := fun Acc μ ι H H' e v => EvsR K (Liv Acc μ ι) ι H H' e v
/-- parts of a slice -/
abbrev relO : (Addr → Prop) → Sto → List Addr → Hp → Hp → Option Int → Option Int → Prop := fun _ _ _ _ _ a b => b = a
abbrev SA := Fns → Env → Sto → Res (List EV)
abbrev SOp := Fns → Env → Sto → Res (Option Int)

section
variable (K : PySem.W.Frag) (XC : Nat → Addr) (F : Fns) (W : WX)
def rd {α β : Type} (Rel : (Addr → Prop) → Sto → List Addr → Hp → Hp → α → β → Prop) (f : Fns → Env → Sto → Res α) (σ : L2.St) (H : Hp) (Q : β → Hp → Prop) : Prop :=
  ∃ (Acc : Addr → Prop) (ι : List Addr) (ρ : Env) (μ : Sto), Sim K Acc μ ι H ∧ EnvR K (Liv Acc μ ι) ι H ρ σ ∧ wp Rel K XC W Acc ι μ H σ (f F ρ μ) Q
abbrev rdE (f : SE) : TE := fun σ H Q => rd K XC F W (relE K) f σ H Q
abbrev rdB (f : SB) : TT := fun σ H Q => rd K XC F W relB f σ H Q
abbrev rdA (f : SA) : TA := fun σ H Q => rd K XC F W (relA K) f σ H Q
abbrev rdO (f : SOp) : TO := fun σ H Q => rd K XC F W relO f σ H Q
end

section
variable {K : PySem.W.Frag} {XC : Nat → Addr} {F : Fns} {W : WX} {Acc : Addr → Prop} {ι ι1 ι2 : List Addr} {μ μ1 μ2 : Sto} {H H0 H1 H2 : Hp} {σ : L2.St}
theorem EvsR.back {L : Addr → Prop} {ι' : List Addr} {μ' : Sto} : ∀ {es : List EV} {vs : List V}, Stp K Acc ι μ H ι' μ' H1 → EvsR K L ι2 H1 H2 es vs → EvsR K L ι2 H H2 es vs
  | [], vs, a, h => h
  | e :: es, vs, a, h => by
    obtain ⟨v, r, e1, h1, h2⟩ := h
    exact ⟨v, r, e1, EvR.back a h1, EvsR.back a h2⟩
theorem EvsR.mv : ∀ {es : List EV} {vs : List V}, Stp K Acc ι μ H ι μ1 H1 → Sim K Acc μ ι H → Stp K Acc ι μ1 H1 ι μ2 H2 → EvsR K (Liv Acc μ1 ι) ι H H1 es vs → EvsR K (Liv Acc μ2 ι) ι H H2 es vs
  | [], vs, a, S, b, h => h
  | e :: es, vs, a, S, b, h => by
    obtain ⟨v, r, e1, h1, h2⟩ := h
    exact ⟨v, r, e1, EvR.mv a S b h1 rfl, EvsR.mv a S b h2⟩
/-- what carries back a relation to an earlier base -/
class Back {α β : Type} (Rel : (Addr → Prop) → Sto → List Addr → Hp → Hp → α → β → Prop) (K : PySem.W.Frag) : Prop where
  back : ∀ {Acc : Addr → Prop} {ι ι' ι2 : List Addr} {μ μ' : Sto} {H H1 H2 : Hp} {Acc2 : Addr → Prop} {μ2 : Sto} {a : α} {b : β}, Stp K Acc ι μ H ι' μ' H1 → Rel Acc2 μ2 ι2 H1 H2 a b → Rel Acc2 μ2 ι2 H H2 a b
instance : Back (relE K) K := ⟨fun s h => ⟨EvR.back s h.1, h.2⟩⟩
instance : Back (relA K) K := ⟨fun s h => EvsR.back s h⟩
instance : Back relB K := ⟨fun _ h => h⟩
instance : Back relO K := ⟨fun _ h => h⟩
theorem ExcR.back {L : Addr → Prop} {ι' : List Addr} {μ' : Sto} {x : Exc} {c : Value} {d : Option Addr} (a : Stp K Acc ι μ H ι' μ' H1) (h : ExcR K XC L H1 H2 x c d) : ExcR K XC L H H2 x c d := by
  refine ⟨h.1, ?_⟩
  have h2 := h.2
  cases d with
  | none => exact h2
  | some d => exact ⟨a.back h2.1, h2.2⟩
/-- a run's wish, asked from a later base -/
theorem wp.shift {α β : Type} {Rel : (Addr → Prop) → Sto → List Addr → Hp → Hp → α → β → Prop} [Back Rel K] {r : Res α} {Q : β → Hp → Prop} (t : Stp K Acc ι μ H ι μ1 H1) (h : wp Rel K XC W Acc ι μ H σ r Q) : wp Rel K XC W Acc ι μ1 H1 σ r Q := by
  cases r with
  | ok a μ' => exact fun b H' t' rl => h b H' (t.trans t') (Back.back t rl)
  | exc x μ' => exact fun c d H' t' rl => h c d H' (t.trans t') (rl.back t)
  | bad => exact h
theorem wp.imp {α β : Type} {Rel : (Addr → Prop) → Sto → List Addr → Hp → Hp → α → β → Prop} {r : Res α} {Q Q' : β → Hp → Prop} (h : wp Rel K XC W Acc ι μ H σ r Q) (q : ∀ b H', Q b H' → Q' b H') : wp Rel K XC W Acc ι μ H σ r Q' := by
  cases r with
  | ok a μ' => exact fun b H' t' rl => q _ _ (h b H' t' rl)
  | exc x μ' => exact h
  | bad => exact h
/-- one run, then another: the first reading; the wish is told from an earlier base -/
theorem rd.bind {α β γ δ : Type} {Rel : (Addr → Prop) → Sto → List Addr → Hp → Hp → α → β → Prop} {Rel2 : (Addr → Prop) → Sto → List Addr → Hp → Hp → γ → δ → Prop} {f : Fns → Env → Sto → Res α} {ρ : Env} {g : α → Sto → Res γ} {Q : δ → Hp → Prop} {P : β → Hp → Prop}
    (t : Stp K Acc ι μ1 H1 ι μ H) (E : EnvR K (Liv Acc μ ι) ι H ρ σ) (h : wp Rel2 K XC W Acc ι μ1 H1 σ ((f F ρ μ).bind g) Q)
    (k : ∀ a μ' b H', f F ρ μ = .ok a μ' → Stp K Acc ι μ H ι μ' H' → Rel Acc μ' ι H H' a b → wp Rel2 K XC W Acc ι μ1 H1 σ (g a μ') Q → P b H') : rd K XC F W Rel f σ H P := by
  refine ⟨Acc, ι, ρ, μ, t.sim, E, ?_⟩
  cases e : f F ρ μ with
  | ok a μ' => rw [e] at h; exact fun b H' t' rl => k a μ' b H' e t' rl h
  | exc x μ' => rw [e] at h; exact fun c d H' t' rl => h c d H' (t.trans t') (rl.back t)
  | bad => rw [e] at h; exact h
/-- the last run -/
theorem rd.last {α β : Type} {Rel : (Addr → Prop) → Sto → List Addr → Hp → Hp → α → β → Prop} [Back Rel K] {f : Fns → Env → Sto → Res α} {ρ : Env} {Q : β → Hp → Prop}
    (t : Stp K Acc ι μ1 H1 ι μ H) (E : EnvR K (Liv Acc μ ι) ι H ρ σ) (h : wp Rel K XC W Acc ι μ1 H1 σ (f F ρ μ) Q) : rd K XC F W Rel f σ H Q := ⟨Acc, ι, ρ, μ, t.sim, E, wp.shift t h⟩
end

theorem PEimp {X : Cx} {e : Expr} {t t' : TE} (h : PE X e t) (i : ∀ σ H Q, t' σ H Q → t σ H Q) : PE X e t' := ⟨fun pins s σ H Q I q => h.run pins s σ H Q I (i σ H Q q)⟩
theorem PTimp {X : Cx} {e : Expr} {t t' : TT} (h : PT X e t) (i : ∀ σ H Q, t' σ H Q → t σ H Q) : PT X e t' := ⟨fun pins s σ H Q I q => h.run pins s σ H Q I (i σ H Q q)⟩
theorem PWimp {X : Cx} {e : Expr} {t t' : TT} (h : PW X e t) (i : ∀ σ H Q, t' σ H Q → t σ H Q) : PW X e t' := ⟨fun wh pins s σ H Q I q => h.run wh pins s σ H Q I (i σ H Q q)⟩
theorem PAimp {X : Cx} {e : List Expr} {t t' : TA} (h : PA X e t) (i : ∀ σ H Q, t' σ H Q → t σ H Q) : PA X e t' := ⟨fun pos pins s σ H Q I q => h.run pos pins s σ H Q I (i σ H Q q)⟩
theorem PSimp {X : Cx} {e : Stmt} {t t' : TS} (h : PS X e t) (i : ∀ D σ H, t' D σ H → t D σ H) : PS X e t' := ⟨fun pins s σ H D I q => h.run pins s σ H D I (i D σ H q)⟩
theorem PSsimp {X : Cx} {e : List Stmt} {t t' : TS} (h : PSs X e t) (i : ∀ D σ H, t' D σ H → t D σ H) : PSs X e t' := ⟨fun pins s σ H D I q => h.run pins s σ H D I (i D σ H q)⟩

/-! ### 2. new objects, views -/
section
variable {K : PySem.W.Frag} {Acc : Addr → Prop} {ι : List Addr} {μ : Sto} {H : Hp}
theorem Sim.up (S : Sim K Acc μ ι H) {p : Addr} (n : H p = none) (o : HO) : Stp K Acc ι μ H ι μ (upd H p o) := by
  have kp : ∀ a u, H a = some u → upd H p o a = some u := fun a u e => by rw [upd_ne (ne_of_none e n)]; exact e
  have m : Mv (Liv Acc μ ι) H (Liv Acc μ ι) (upd H p o) := fun a u e l => ⟨kp a u e, l⟩
  refine ⟨⟨S.len, S.nd, fun a h => ⟨(S.acc a h).1, ?_⟩, fun k c e => ?_, fun a h o' kvs => by rw [upd_ne (S.live_ne h n)]; exact S.hot a h o' kvs⟩, ⟨[], by simp, by simp⟩, fun a u e _ => kp a u e, fun a h => ?_, fun a h => .inl h⟩
  · cases e : H a with
    | none => exact absurd e (S.acc a h).2
    | some u => rw [kp a u e]; simp
  · obtain ⟨a, e1, r⟩ := S.cell k c e
    exact ⟨a, e1, r.mv m fun u e => kp a u e⟩
  · cases e : H a with
    | none => exact absurd e h
    | some u => rw [kp a u e]; simp
theorem Sim.noLive (S : Sim K Acc μ ι H) {p : Addr} (n : H p = none) : ¬ Liv Acc μ ι p := fun h => S.live_ne h n rfl
/-- a new tuple -/
theorem Sim.newT (S : Sim K Acc μ ι H) {p : Addr} (n : H p = none) {ds : List D} {vs : List V} (r : Reps K (Liv Acc μ ι) H ds vs) : Rep K (Liv Acc μ ι) (upd H p (.tup vs)) (.tup ds) (.ref p) := by
  simp only [Rep]
  exact ⟨p, vs, rfl, .inl ⟨.inl upd_same, S.noLive n⟩, Reps.mv ((S.up n _).mv S) _ _ r⟩
theorem Sim.newL (S : Sim K Acc μ ι H) {p : Addr} (n : H p = none) {ds : List D} {vs : List V} (r : Reps K (Liv Acc μ ι) H ds vs) : CvR K (Liv Acc μ ι) (upd H p (.lst vs)) (.lst ds) p :=
  ⟨vs, upd_same, Reps.mv ((S.up n _).mv S) _ _ r⟩
/-- one more that must not be touched -/
theorem Sim.more (S : Sim K Acc μ ι H) {p : Addr} (n : H p = none) (o : HO) (ho : ∀ o' kvs, o ≠ .frz o' (.dK kvs) := by intro _ _ z; cases z) : Sim K (fun a => Acc a ∨ a = p) μ ι (upd H p o) := by
  have t := S.up n o
  have m : Mv (Liv Acc μ ι) H (Liv (fun a => Acc a ∨ a = p) μ ι) (upd H p o) := fun a u e l => by
    refine ⟨by rw [upd_ne (ne_of_none e n)]; exact e, fun z => ?_⟩
    rcases z with z | z | z
    · exact l (.inl z)
    · exact l (.inr z)
    · subst z; rw [n] at e; cases e
  refine ⟨S.len, S.nd, fun a h => ?_, fun k c e => ?_, fun a h o' kvs => ?_⟩
  rotate_left 2
  · rcases h with h | h | rfl
    · exact t.sim.hot a (.inl h) o' kvs
    · exact t.sim.hot a (.inr h) o' kvs
    · rw [upd_same]; exact fun z => ho o' kvs (by cases z; rfl)
  · rcases h with h | rfl
    · exact t.sim.acc a h
    · exact ⟨fun z => S.trk z n, by rw [upd_same]; simp⟩
  · obtain ⟨a, e1, r⟩ := S.cell k c e
    exact ⟨a, e1, r.mv m fun u hu => by rw [upd_ne (ne_of_none hu n)]; exact hu⟩
theorem Sim.mvMore (S : Sim K Acc μ ι H) {p : Addr} (n : H p = none) (o : HO) : Mv (Liv Acc μ ι) H (Liv (fun a => Acc a ∨ a = p) μ ι) (upd H p o) := fun a u e l => by
  refine ⟨by rw [upd_ne (ne_of_none e n)]; exact e, fun z => ?_⟩
  rcases z with z | z | z
  · exact l (.inl z)
  · exact l (.inr z)
  · subst z; rw [n] at e; cases e
theorem Sim.ownN (S : Sim K Acc μ ι H) {p : Addr} (n : H p = none) {ds : List D} {vs : List V} (r : Reps K (Liv Acc μ ι) H ds vs) : OwnR K Acc μ ι (upd H p (.lst vs)) (.new (.lst ds)) (.ref p) := fun q e => by
  cases e
  exact ⟨S.more n _, vs, upd_same, Reps.mv (S.mvMore n _) _ _ r⟩
theorem Sim.ownD (S : Sim K Acc μ ι H) {p : Addr} (n : H p = none) {ks : List Key} {ds : List D} {vs : List V} (l : ks.length = ds.length) (r : Reps K (Liv Acc μ ι) H ds vs) : OwnR K Acc μ ι (upd H p (.dK (ks.zip vs))) (.new (.dic ks ds)) (.ref p) := fun q e => by
  cases e
  exact ⟨S.more n _, vs, .inl upd_same, l, Reps.mv (S.mvMore n _) _ _ r⟩
/-- what a value is seen as: a value with the content of a cell too -/
def SeeR (K : PySem.W.Frag) (L : Addr → Prop) (H : Hp) (d : D) (v : V) : Prop := match d with
  | .lst ds => ∃ a vs, v = .ref a ∧ H a = some (.lst vs) ∧ Reps K L H ds vs
  | .dic ks ds => ∃ a vs, v = .ref a ∧ Rd H a (.dK (ks.zip vs)) ∧ ks.length = ds.length ∧ Reps K L H ds vs
  | d => Rep K L H d v
theorem SeeR.of {L : Addr → Prop} {d : D} {v : V} (h : Rep K L H d v) : SeeR K L H d v := by
  cases d with
  | lst ds => simp only [Rep] at h; obtain ⟨a, vs, e, t, n, r⟩ := h; exact ⟨a, vs, e, t, r⟩
  | dic ks ds => simp only [Rep] at h; obtain ⟨a, vs, e, t, n, l, r⟩ := h; exact ⟨a, vs, e, t, l, r⟩
  | _ => exact h
theorem SeeR.ofC {L : Addr → Prop} {c : CV} {a : Addr} (h : CvR K L H c a) : SeeR K L H c.toD (.ref a) := by
  cases c with
  | lst ds => obtain ⟨vs, e, r⟩ := h; exact ⟨a, vs, rfl, e, r⟩
  | dic ks ds => obtain ⟨vs, e, l, r⟩ := h; exact ⟨a, vs, rfl, e, l, r⟩
theorem see_ok {H0 : Hp} {e : EV} {d : D} {v : V} (S : Sim K Acc μ ι H) (r : EvR K (Liv Acc μ ι) ι H0 H e v) (h : e.see μ = some d) : SeeR K (Liv Acc μ ι) H d v := by
  cases e with
  | dat x => cases h; exact .of r
  | new c => cases h; obtain ⟨p, e, n, r⟩ := r; subst e; exact .ofC r
  | cel k =>
    obtain ⟨a, e, ev⟩ := r
    subst ev
    simp only [EV.see] at h
    cases hc : μ[k]? with
    | none => rw [hc] at h; cases h
    | some c =>
      rw [hc] at h
      cases h
      obtain ⟨b, e1, r⟩ := S.cell k c hc
      rw [e] at e1; cases e1
      exact .ofC r
end

/-! ### 3. names, constants -/
section
variable {K : PySem.W.Frag} {L : Addr → Prop} {H : Hp}
theorem rep_int {i : Int} : Rep K L H (.int i) (.int i) := by simp only [Rep]
theorem rep_bl {i : Bool} : Rep K L H (.bl i) (.bl i) := by simp only [Rep]
theorem rep_non : Rep K L H .non .non := by simp only [Rep]
theorem rep_str {x : Str} : Rep K L H (.str x) (.str x) := by simp only [Rep]
end
def eC (d : D) : SE := fun _ _ μ => .ok (.dat d) μ
def eV (i : Nat) : SE := fun _ ρ μ => match ρ[i]? with
  | some (some s) => .ok s.ev μ
  | _ => .bad
section
variable {X : Cx} {XC : Nat → Addr} {F : Fns} {W : WX}
theorem c_int {i : Int} {j pos} : PE X (.Constant (.int i) j pos) (rdE X.K XC F W (eC (.int i))) := PEimp pe_int fun σ H Q ⟨Acc, ι, ρ, μ, S, E, h⟩ =>
  h (V.int i) H (.refl S) ⟨rfl, trivial⟩
theorem c_bl {i : Bool} {j pos} : PE X (.Constant (.bool i) j pos) (rdE X.K XC F W (eC (.bl i))) := PEimp pe_bl fun σ H Q ⟨Acc, ι, ρ, μ, S, E, h⟩ =>
  h (V.bl i) H (.refl S) ⟨rfl, trivial⟩
theorem c_non {j pos} : PE X (.Constant .none j pos) (rdE X.K XC F W (eC .non)) := PEimp pe_non fun σ H Q ⟨Acc, ι, ρ, μ, S, E, h⟩ =>
  h (V.non) H (.refl S) ⟨rfl, trivial⟩
theorem c_str {x : Str} {j pos} : PE X (.Constant (.str x) j pos) (rdE X.K XC F W (eC (.str x))) := PEimp pe_str fun σ H Q ⟨Acc, ι, ρ, μ, S, E, h⟩ =>
  h (V.str x) H (.refl S) ⟨rfl, trivial⟩
theorem SvR.ev {K : PySem.W.Frag} {L : Addr → Prop} {ι : List Addr} {H0 H : Hp} {s : SV} {v : V} (h : SvR K L ι H s v) : EvR K L ι H0 H s.ev v := by
  cases s with
  | dat d => exact h
  | cel k => exact h
theorem SV.own {K : PySem.W.Frag} {Acc : Addr → Prop} {μ : Sto} {ι : List Addr} {H : Hp} (s : SV) {v : V} : OwnR K Acc μ ι H s.ev v := by
  cases s <;> trivial
theorem c_var {i : Nat} {x : Str} {pos : Pos} (hN : X.N[i]? = some x) (hv : Vis X.env.scope x) (hd : (x == ("__debug__" : Str)) = false) (hcd : (x == ("__classdict__" : Str)) = false) : PE X (.Name x pos) (rdE X.K XC F W (eV i)) :=
  PEimp (pe_var hN hv hd hcd) fun σ H Q ⟨Acc, ι, ρ, μ, S, E, h⟩ => by
    unfold eV at h
    cases e : ρ[i]? with
    | none => rw [e] at h; exact h.elim
    | some o =>
      cases o with
      | none => rw [e] at h; exact h.elim
      | some s =>
        rw [e] at h
        obtain ⟨v, e1, r⟩ := E.2 i s e
        exact ⟨v, e1, h v H (Stp.refl S) ⟨r.ev, s.own⟩⟩
/-- a constant of the module -/
theorem c_glob {x : Str} {v : V} {u : Value} {d : D} {pos : Pos} (hg : Gl X x) (hm : X.mg x = some u) (r : RelV v u) (rp : ∀ L H, Rep X.K L H d v) (hd : (x == ("__debug__" : Str)) = false) : PE X (.Name x pos) (rdE X.K XC F W (eC d)) :=
  PEimp (pe_glob hg hm r hd) fun σ H Q ⟨Acc, ι, ρ, μ, S, E, h⟩ => h v H (.refl S) ⟨rp _ _, trivial⟩
end

/-! ### 4. argument lists, displays -/
def evs : List SE → SA
  | [] => fun _ _ μ => .ok [] μ
  | f :: fs => fun F ρ μ => (f F ρ μ).bind fun v μ1 => (evs fs F ρ μ1).bind fun vs μ2 => .ok (v :: vs) μ2
def LIM : Nat := 1000000
theorem lim_ok {n : Nat} (h : n ≤ LIM) : n ≤ sizeLine := Nat.le_trans h (by decide)
def eTup (f : SA) : SE := fun F ρ μ => (f F ρ μ).bind fun vs μ1 => match frzs vs μ1 with
  | some (ds, μ2) => if ds.length ≤ LIM then .ok (.dat (.tup ds)) μ2 else .bad
  | none => .bad
def eLst (f : SA) : SE := fun F ρ μ => (f F ρ μ).bind fun vs μ1 => match frzs vs μ1 with
  | some (ds, μ2) => if ds.length ≤ LIM then .ok (.new (.lst ds)) μ2 else .bad
  | none => .bad
section
variable {K : PySem.W.Frag} {Acc : Addr → Prop} {ι : List Addr} {μ μ' : Sto} {H H0 : Hp}
/-- a cell is made still -/
theorem Sim.still (S : Sim K Acc μ ι H) {k : Nat} {c : Cell} (hc : μ[k]? = some c) : Stp K Acc ι μ H ι (μ.set k ⟨false, c.val⟩) H ∧ ∀ a, ι[k]? = some a → ¬ Liv Acc (μ.set k ⟨false, c.val⟩) ι a := by
  have hk : k < μ.length := (List.getElem?_eq_some_iff.mp hc).1
  have cl : ∀ a, Cel (μ.set k ⟨false, c.val⟩) ι a → Cel μ ι a := fun a ⟨j, c', e, l, h⟩ => by
    by_cases hj : k = j
    · subst hj
      rw [List.getElem?_set_self hk] at e
      cases e; cases l
    · rw [List.getElem?_set_ne hj] at e
      exact ⟨j, c', e, l, h⟩
  have m : Mv (Liv Acc μ ι) H (Liv Acc (μ.set k ⟨false, c.val⟩) ι) H := fun a o e n => ⟨e, fun z => n (z.elim (fun z => .inl (cl a z)) .inr)⟩
  refine ⟨⟨⟨by rw [List.length_set]; exact S.len, S.nd, S.acc, fun j c' e => ?_, fun a h => S.hot a (h.elim (fun z => .inl (cl a z)) .inr)⟩, ⟨[], by simp, by simp⟩, fun a o e _ => e, fun a h => h, fun a h => .inl (cl a h)⟩, fun a ha z => ?_⟩
  · by_cases hj : k = j
    · subst hj
      rw [List.getElem?_set_self hk] at e
      cases e
      obtain ⟨a, e1, r⟩ := S.cell k c hc
      exact ⟨a, e1, r.mv m fun _ e => e⟩
    · rw [List.getElem?_set_ne hj] at e
      obtain ⟨a, e1, r⟩ := S.cell j c' e
      exact ⟨a, e1, r.mv m fun _ e => e⟩
  · rcases z with ⟨j, c', e, l, h⟩ | z
    · by_cases hj : k = j
      · subst hj
        rw [List.getElem?_set_self hk] at e
        cases e; cases l
      · have hi : k < ι.length := (List.getElem?_eq_some_iff.mp ha).1
        have : k = j := (List.getElem?_inj hi S.nd).mp (ha.trans h.symm)
        exact hj this
    · exact (S.acc a z).1 (List.mem_of_getElem? ha)
theorem CvR.rep {L : Addr → Prop} {c : CV} {a : Addr} (h : CvR K L H c a) (n : ¬ L a) : Rep K L H c.toD (.ref a) := by
  cases c with
  | lst ds => obtain ⟨vs, e, r⟩ := h; simp only [CV.toD, Rep]; exact ⟨a, vs, rfl, e, n, r⟩
  | dic ks ds => obtain ⟨vs, e, l, r⟩ := h; simp only [CV.toD, Rep]; exact ⟨a, vs, rfl, e, n, l, r⟩
theorem frz_ok {e : EV} {d : D} {v : V} {Hb : Hp} (S : Sim K Acc μ ι H) (hb : ∀ a ∈ ι, Hb a ≠ none) (hq : ∀ a, Acc a → Hb a ≠ none) (r : EvR K (Liv Acc μ ι) ι Hb H e v) (h : e.frz μ = some (d, μ')) :
    Stp K Acc ι μ H ι μ' H ∧ Rep K (Liv Acc μ' ι) H d v := by
  cases e with
  | dat x => cases h; exact ⟨.refl S, r⟩
  | new c =>
    cases h
    obtain ⟨p, e, n, r⟩ := r
    subst e
    refine ⟨.refl S, r.rep fun z => ?_⟩
    rcases z with z | z
    · exact hb p z.mem n
    · exact hq p z n
  | cel k =>
    obtain ⟨a, e, ev⟩ := r
    subst ev
    simp only [EV.frz] at h
    cases hc : μ[k]? with
    | none => rw [hc] at h; cases h
    | some c =>
      rw [hc] at h
      cases h
      obtain ⟨st, nl⟩ := S.still hc
      obtain ⟨b, e1, r⟩ := st.sim.cell k ⟨false, c.val⟩ (List.getElem?_set_self (List.getElem?_eq_some_iff.mp hc).1)
      rw [e] at e1; cases e1
      exact ⟨st, r.rep (nl a e)⟩
end
section
variable {K : PySem.W.Frag} {Acc : Addr → Prop} {ι : List Addr} {H Hb : Hp}
theorem EvsR.stay {μ μ' : Sto} (S : Sim K Acc μ ι H) (hb : ∀ a ∈ ι, Hb a ≠ none) (t : Stp K Acc ι μ H ι μ' H) : ∀ {es : List EV} {vs : List V}, EvsR K (Liv Acc μ ι) ι Hb H es vs → EvsR K (Liv Acc μ' ι) ι Hb H es vs
  | [], vs, h => h
  | e :: es, vs, h => by
    obtain ⟨v, r, e1, h1, h2⟩ := h
    refine ⟨v, r, e1, ?_, EvsR.stay S hb t h2⟩
    cases e with
    | dat d => exact Rep.mv (t.mv S) _ _ h1
    | cel k => exact h1
    | new c => obtain ⟨p, e, n, r⟩ := h1; exact ⟨p, e, n, r.mv (t.mv S) fun o ho => ho⟩
theorem frzs_ok : ∀ {es : List EV} {ds : List D} {vs : List V} {μ μ' : Sto}, Sim K Acc μ ι H → (∀ a ∈ ι, Hb a ≠ none) → (∀ a, Acc a → Hb a ≠ none) → EvsR K (Liv Acc μ ι) ι Hb H es vs → frzs es μ = some (ds, μ') →
    Stp K Acc ι μ H ι μ' H ∧ Reps K (Liv Acc μ' ι) H ds vs
  | [], ds, vs, μ, μ', S, hb, hq, r, h => by
    cases h
    have r : vs = [] := r
    subst r
    exact ⟨.refl S, Reps.nil⟩
  | e :: es, ds, vs, μ, μ', S, hb, hq, r, h => by
    obtain ⟨v, rs, e1, h1, h2⟩ := r
    subst e1
    unfold frzs at h
    cases hf : e.frz μ with
    | none => rw [hf] at h; cases h
    | some p =>
      obtain ⟨d, μ1⟩ := p
      rw [hf] at h
      simp only at h
      cases hg : frzs es μ1 with
      | none => rw [hg] at h; cases h
      | some q =>
        obtain ⟨ds', μ2⟩ := q
        rw [hg] at h
        cases h
        obtain ⟨t1, r1⟩ := frz_ok S hb hq h1 hf
        obtain ⟨t2, r2⟩ := frzs_ok t1.sim hb hq (h2.stay S hb t1) hg
        exact ⟨t1.trans t2, Reps.cons (Rep.mv (t2.mv t1.sim) _ _ r1) r2⟩
theorem Sim.accT {μ : Sto} (S : Sim K Acc μ ι H) : ∀ a, Acc a → H a ≠ none := fun a h => (S.acc a h).2
end
section
variable {X : Cx} {XC : Nat → Addr} {F : Fns} {W : WX} {e : Expr} {es : List Expr} {f : SE} {fs : List SE} {pos : Pos}
theorem ca_nil : PA X [] (rdA X.K XC F W (evs [])) := PAimp pa_nil fun σ H Q ⟨Acc, ι, ρ, μ, S, E, h⟩ => h [] H (.refl S) rfl
theorem ca_cons (ha : PE X e (rdE X.K XC F W f)) (hr : PA X es (rdA X.K XC F W (evs fs))) (hs : starEach (e :: es) X.env = (false, eval e X.env) :: starEach es X.env) : PA X (e :: es) (rdA X.K XC F W (evs (f :: fs))) :=
  PAimp (pa_cons ha hr hs) fun σ H Q ⟨Acc, ι, ρ, μ, S, E, h⟩ => by
    refine rd.bind (.refl S) E h fun v μ1 x H1 _ t1 r1 h1 => ?_
    refine rd.bind t1 (E.mv t1 S) h1 fun vs μ2 xs H2 _ t2 r2 h2 => ?_
    exact h2 (x :: xs) H2 (t1.trans t2) ⟨x, xs, rfl, EvR.mv t1 S t2 r1.1 rfl, EvsR.back t1 r2⟩

theorem c_tup {x1 : Nat} {fa : SA} (h : PA X es (rdA X.K XC F W fa)) : PE X (.Tuple es x1 pos) (rdE X.K XC F W (eTup fa)) :=
  PEimp (pe_tup h) fun σ H Q ⟨Acc, ι, ρ, μ, S, E, h⟩ => by
    refine rd.bind (.refl S) E h fun vs μ1 xs H1 _ t1 r1 h1 => ?_
    cases hf : frzs vs μ1 with
    | none => rw [hf] at h1; exact h1.elim
    | some p =>
      obtain ⟨ds, μ2⟩ := p
      rw [hf] at h1
      simp only at h1
      obtain ⟨t2, r2⟩ := frzs_ok t1.sim (fun a ha => S.trk ha) S.accT r1 hf
      by_cases hl : ds.length ≤ LIM
      · rw [if_pos hl] at h1
        refine ⟨by rw [r2.len]; exact lim_ok hl, fun p hp => h1 (.ref p) _ (t1.trans (t2.trans (t2.sim.up hp _))) ⟨t2.sim.newT hp r2, trivial⟩⟩
      · rw [if_neg hl] at h1; exact h1.elim
theorem c_lst {fa : SA} (h : PA X es (rdA X.K XC F W fa)) : PE X (.List es pos) (rdE X.K XC F W (eLst fa)) :=
  PEimp (pe_lst h) fun σ H Q ⟨Acc, ι, ρ, μ, S, E, h⟩ => by
    refine rd.bind (.refl S) E h fun vs μ1 xs H1 _ t1 r1 h1 => ?_
    cases hf : frzs vs μ1 with
    | none => rw [hf] at h1; exact h1.elim
    | some p =>
      obtain ⟨ds, μ2⟩ := p
      rw [hf] at h1
      simp only at h1
      obtain ⟨t2, r2⟩ := frzs_ok t1.sim (fun a ha => S.trk ha) S.accT r1 hf
      by_cases hl : ds.length ≤ LIM
      · rw [if_pos hl] at h1
        exact ⟨by rw [r2.len]; exact lim_ok hl, fun p hp => h1 (.ref p) _ (t1.trans (t2.trans (t2.sim.up hp _))) ⟨⟨p, rfl, (t1.trans t2).back hp, t2.sim.newL hp r2⟩, t2.sim.ownN hp r2⟩⟩
      · rw [if_neg hl] at h1; exact h1.elim
end

/-! ### 5. operators -/
def smallI (i : Int) : Bool := decide (-(2 ^ 64) < i) && decide (i < 2 ^ 64)
def opBin (op : Operator) (a b : D) : Option EV := match op, a, b with
  | .Add, .int i, .int j => some (.dat (.int (i + j)))
  | .Add, .str x, .str y => if x.length + y.length ≤ LIM then some (.dat (.str (x ++ y))) else none
  | .Add, .tup xs, .tup ys => if xs.length + ys.length ≤ LIM then some (.dat (.tup (xs ++ ys))) else none
  | .Add, .lst xs, .lst ys => if xs.length + ys.length ≤ LIM then some (.new (.lst (xs ++ ys))) else none
  | .Sub, .int i, .int j => some (.dat (.int (i - j)))
  | .Mult, .int i, .int j => if smallI i || smallI j then some (.dat (.int (i * j))) else none
  | .Mult, .lst xs, .int k => if 0 ≤ k ∧ k ≤ 1000000 ∧ xs.length * k.toNat ≤ LIM then some (.new (.lst (List.replicate k.toNat xs).flatten)) else none
  | .FloorDiv, .int i, .int j => if 0 < j ∧ j < 1073741824 then some (.dat (.int (i / j))) else none
  | .Mod, .int i, .int j => if 0 < j then some (.dat (.int (i % j))) else none
  | .Pow, .int i, .int j => if 0 ≤ j ∧ j ≤ 1000000 ∧ i.natAbs < 2 ^ 64 then some (.dat (.int (i ^ j.toNat))) else none
  | _, _, _ => none
def lift2 (f : D → D → Option EV) (a b : EV) (μ : Sto) : Res EV := match a.see μ, b.see μ with
  | some x, some y => match f x y with
    | some e => .ok e μ
    | none => .bad
  | _, _ => .bad
def eBin (op : Operator) (f g : SE) : SE := fun F ρ μ => (f F ρ μ).bind fun a μ1 => (g F ρ μ1).bind fun b μ2 => lift2 (opBin op) a b μ2
/-- what an operation on two values must give -/
def Op2 (K : PySem.W.Frag) (f : D → D → Option EV) (r : R2) : Prop :=
  ∀ (Acc : Addr → Prop) (ι : List Addr) (μ : Sto) (H : Hp) (a b : D) (x y : V) (e : EV) (Q : VK), Sim K Acc μ ι H → SeeR K (Liv Acc μ ι) H a x → SeeR K (Liv Acc μ ι) H b y → f a b = some e →
    (∀ v H', Stp K Acc ι μ H ι μ H' → relE K Acc μ ι H H' e v → Q v H') → r x y H Q
theorem lift2_ok {K : PySem.W.Frag} {XC : Nat → Addr} {W : WX} {Acc : Addr → Prop} {ι : List Addr} {μ μ0 : Sto} {H H0 : Hp} {σ : L2.St} {f : D → D → Option EV} {r : R2} {a b : EV} {x y : V} {Q : VK} (ho : Op2 K f r) (S0 : Sim K Acc μ0 ι H0) (t : Stp K Acc ι μ0 H0 ι μ H)
    (ra : EvR K (Liv Acc μ ι) ι H0 H a x) (rb : EvR K (Liv Acc μ ι) ι H0 H b y) (h : wp (relE K) K XC W Acc ι μ0 H0 σ (lift2 f a b μ) Q) : r x y H Q := by
  unfold lift2 at h
  cases ea : a.see μ with
  | none => rw [ea] at h; exact h.elim
  | some da =>
    cases eb : b.see μ with
    | none => rw [ea, eb] at h; exact h.elim
    | some db =>
      rw [ea, eb] at h
      simp only at h
      cases ef : f da db with
      | none => rw [ef] at h; exact h.elim
      | some e =>
        rw [ef] at h
        exact ho Acc ι μ H da db x y e Q t.sim (see_ok t.sim ra ea) (see_ok t.sim rb eb) ef fun v H' t' rv => h v H' (t.trans t') ⟨EvR.back t rv.1, rv.2⟩
section
variable {X : Cx} {XC : Nat → Addr} {F : Fns} {W : WX} {ea eb : Expr} {fa fb : SE} {pos : Pos}
theorem two_ok {K : PySem.W.Frag} {σ : L2.St} {H : Hp} {Q : VK} {f : D → D → Option EV} {r : R2} (ho : Op2 K f r)
    (h : rdE K XC F W (fun F ρ μ => (fa F ρ μ).bind fun a μ1 => (fb F ρ μ1).bind fun b μ2 => lift2 f a b μ2) σ H Q) : tOp r (rdE K XC F W fa) (rdE K XC F W fb) σ H Q := by
  obtain ⟨Acc, ι, ρ, μ, S, E, h⟩ := h
  refine rd.bind (.refl S) E h fun a μ1 x H1 _ t1 r1 h1 => ?_
  refine rd.bind t1 (E.mv t1 S) h1 fun b μ2 y H2 _ t2 r2 h2 => ?_
  exact lift2_ok ho S (t1.trans t2) (EvR.mv t1 S t2 r1.1 rfl) (EvR.back t1 r2.1) h2
theorem c_bin {op : Operator} {r : R2} (hr : OpR X (binaryOp op) r) (ho : Op2 X.K (opBin op) r) (ha : PE X ea (rdE X.K XC F W fa)) (hb : PE X eb (rdE X.K XC F W fb)) : PE X (.BinOp ea op eb pos) (rdE X.K XC F W (eBin op fa fb)) :=
  PEimp (pe_op hr ha hb) fun _ _ _ h => two_ok ho h
/-- a comparison as a value -/
def eCmp (f : D → D → Option Bool) (fa fb : SE) : SE := fun F ρ μ => (fa F ρ μ).bind fun a μ1 => (fb F ρ μ1).bind fun b μ2 => lift2 (fun x y => (f x y).map fun k => .dat (.bl k)) a b μ2
abbrev Cmp2 (K : PySem.W.Frag) (f : D → D → Option Bool) (r : R2) : Prop := Op2 K (fun x y => (f x y).map fun k => .dat (.bl k)) r
theorem c_cmp {op : CmpOp} {f : D → D → Option Bool} {r : R2} (hr : OpR X (compareOp op) r) (ho : Cmp2 X.K f r) (ha : PE X ea (rdE X.K XC F W fa)) (hb : PE X eb (rdE X.K XC F W fb)) (hm : behindInMarks op eb = false) : PE X (.Compare ea [op] [eb] pos) (rdE X.K XC F W (eCmp f fa fb)) :=
  PEimp (pe_cmpR hr ha hb hm) fun _ _ _ h => two_ok ho h
/-- a comparison as a test -/
def lift2B (f : D → D → Option Bool) (a b : EV) (μ : Sto) : Res Bool := match a.see μ, b.see μ with
  | some x, some y => match f x y with
    | some e => .ok e μ
    | none => .bad
  | _, _ => .bad
def bCmp (f : D → D → Option Bool) (fa fb : SE) : SB := fun F ρ μ => (fa F ρ μ).bind fun a μ1 => (fb F ρ μ1).bind fun b μ2 => lift2B f a b μ2
theorem lift2B_ok {K : PySem.W.Frag} {Acc : Addr → Prop} {ι : List Addr} {μ μ0 : Sto} {H H0 : Hp} {σ : L2.St} {f : D → D → Option Bool} {r : R2} {a b : EV} {x y : V} {Q : Bool → Hp → Prop} (ho : Cmp2 K f r) (S0 : Sim K Acc μ0 ι H0) (t : Stp K Acc ι μ0 H0 ι μ H)
    (ra : EvR K (Liv Acc μ ι) ι H0 H a x) (rb : EvR K (Liv Acc μ ι) ι H0 H b y) (h : wp relB K XC W Acc ι μ0 H0 σ (lift2B f a b μ) Q) : r x y H fun z H' => ∃ k, z = .bl k ∧ Q k H' := by
  unfold lift2B at h
  cases ea : a.see μ with
  | none => rw [ea] at h; exact h.elim
  | some da =>
    cases eb : b.see μ with
    | none => rw [ea, eb] at h; exact h.elim
    | some db =>
      rw [ea, eb] at h
      simp only at h
      cases ef : f da db with
      | none => rw [ef] at h; exact h.elim
      | some e =>
        rw [ef] at h
        exact ho Acc ι μ H da db x y (.dat (.bl e)) _ t.sim (see_ok t.sim ra ea) (see_ok t.sim rb eb) (by show Option.map _ (f da db) = _; rw [ef]; rfl) fun v H' t' rv => ⟨e, rv.1, h e H' (t.trans t') rfl⟩
theorem ct_cmp {op : CmpOp} {f : D → D → Option Bool} {r : R2} (hr : OpR X (compareOp op) r) (ho : Cmp2 X.K f r) (ha : PE X ea (rdE X.K XC F W fa)) (hb : PE X eb (rdE X.K XC F W fb)) (hm : behindInMarks op eb = false) : PT X (.Compare ea [op] [eb] pos) (rdB X.K XC F W (bCmp f fa fb)) :=
  PTimp (pt_cmpR hr ha hb hm) fun σ H Q ⟨Acc, ι, ρ, μ, S, E, h⟩ => by
    refine rd.bind (.refl S) E h fun a μ1 x H1 _ t1 r1 h1 => ?_
    refine rd.bind t1 (E.mv t1 S) h1 fun b μ2 y H2 _ t2 r2 h2 => ?_
    exact lift2B_ok ho S (t1.trans t2) (EvR.mv t1 S t2 r1.1 rfl) (EvR.back t1 r2.1) h2
end
end VM
/-! Operators on data: what the interpreter reckons, and that the machine does so. -/
namespace VM
open PySem L2

/-! ### 1. arithmetic -/
section
variable {K : PySem.W.Frag} {Acc : Addr → Prop} {ι : List Addr} {μ : Sto} {H : Hp}
theorem fin_dat {d : D} {v : V} {Q : VK} (S : Sim K Acc μ ι H) (q : ∀ v H', Stp K Acc ι μ H ι μ H' → relE K Acc μ ι H H' (.dat d) v → Q v H') (r : Rep K (Liv Acc μ ι) H d v) : Q v H := q v H (.refl S) ⟨r, trivial⟩
theorem fin_tup {ds : List D} {vs : List V} {Q : VK} (S : Sim K Acc μ ι H) (q : ∀ v H', Stp K Acc ι μ H ι μ H' → relE K Acc μ ι H H' (.dat (.tup ds)) v → Q v H') (r : Reps K (Liv Acc μ ι) H ds vs) {p : Addr} (n : H p = none) : Q (.ref p) (upd H p (.tup vs)) :=
  q _ _ (S.up n _) ⟨S.newT n r, trivial⟩
theorem fin_lst {ds : List D} {vs : List V} {Q : VK} (S : Sim K Acc μ ι H) (q : ∀ v H', Stp K Acc ι μ H ι μ H' → relE K Acc μ ι H H' (.new (.lst ds)) v → Q v H') (r : Reps K (Liv Acc μ ι) H ds vs) {p : Addr} (n : H p = none) : Q (.ref p) (upd H p (.lst vs)) :=
  q _ _ (S.up n _) ⟨⟨p, rfl, n, S.newL n r⟩, S.ownN n r⟩
theorem seeT {L : Addr → Prop} {ds : List D} {x : V} (h : SeeR K L H (.tup ds) x) : ∃ a vs, x = .ref a ∧ TupN K L H a vs ∧ Reps K L H ds vs := by
  have h : Rep K L H (.tup ds) x := h
  simpa only [Rep] using h
theorem seeL {L : Addr → Prop} {ds : List D} {x : V} (h : SeeR K L H (.lst ds) x) : ∃ a vs, x = .ref a ∧ H a = some (.lst vs) ∧ Reps K L H ds vs := h
theorem seeI {L : Addr → Prop} {i : Int} {x : V} (h : SeeR K L H (.int i) x) : x = .int i := h
theorem seeS {L : Addr → Prop} {i : Str} {x : V} (h : SeeR K L H (.str i) x) : x = .str i := h
theorem seeB {L : Addr → Prop} {i : Bool} {x : V} (h : SeeR K L H (.bl i) x) : x = .bl i := h
theorem seeN {L : Addr → Prop} {x : V} (h : SeeR K L H .non x) : x = .non := h
theorem Reps.flat {L : Addr → Prop} {ds : List D} {vs : List V} (r : Reps K L H ds vs) : ∀ k : Nat, Reps K L H (List.replicate k ds).flatten (List.replicate k vs).flatten
  | 0 => Reps.nil
  | k + 1 => by
    rw [List.replicate_succ, List.replicate_succ, List.flatten_cons, List.flatten_cons]
    exact r.app (Reps.flat r k)
end

def rAdd (K : PySem.W.Frag) : R2 := fun x y H Q => ((rI0 fun i j => .int (i + j)) x y H Q ∨ (∃ i j, x = .str i ∧ y = .str j ∧ i.length + j.length ≤ sizeLine ∧ Q (.str (i ++ j)) H)) ∨ rCatA K x y H Q ∨ rCat x y H Q
section
variable {X : Cx}
theorem or_add : OpR X (binaryOp .Add) (rAdd X.K) := by
  refine OpR.or (OpR.or op_add ?_) (OpR.or op_catA op_cat)
  intro pins s σ H x y v u Q I rx ry h
  obtain ⟨i, j, rfl, rfl, hz, q⟩ := h
  exact op_add_str pins s σ H _ _ v u Q I rx ry ⟨i, j, rfl, rfl, hz, q⟩
theorem o2_add : Op2 X.K (opBin .Add) (rAdd X.K) := by
  intro Acc ι μ H a b x y e Q S ra rb h q
  cases a <;> cases b <;> simp only [opBin, reduceCtorEq] at h
  · cases h
    rw [seeI ra, seeI rb]
    exact .inl (.inl ⟨_, _, rfl, rfl, fin_dat S q rep_int⟩)
  · rename_i i j
    split at h
    · rename_i hl
      cases h
      rw [seeS ra, seeS rb]
      exact .inl (.inr ⟨_, _, rfl, rfl, lim_ok hl, fin_dat S q rep_str⟩)
    · cases h
  · rename_i xs ys
    split at h
    · rename_i hl
      cases h
      obtain ⟨p, vs, rfl, tp, rp⟩ := seeT ra
      obtain ⟨p', ws, rfl, tp', rp'⟩ := seeT rb
      have r := rp.app rp'
      refine .inr (.inl ⟨p, p', vs, ws, rfl, rfl, tp.sq, tp'.sq, by rw [rp.len, rp'.len]; exact lim_ok hl, fun e => ?_, fun _ e => ?_, fun _ _ p2 n => fin_tup S q r n⟩)
      · subst e
        refine fin_dat S q ?_
        simp only [Rep]
        exact ⟨p', ws, rfl, tp', by simpa using r⟩
      · subst e
        refine fin_dat S q ?_
        simp only [Rep]
        exact ⟨p, vs, rfl, tp, by simpa using r⟩
    · cases h
  · rename_i xs ys
    split at h
    · rename_i hl
      cases h
      obtain ⟨p, vs, rfl, tp, rp⟩ := seeL ra
      obtain ⟨p', ws, rfl, tp', rp'⟩ := seeL rb
      exact .inr (.inr ⟨p, p', vs, ws, rfl, rfl, tp, tp', by rw [rp.len, rp'.len]; exact lim_ok hl, fun p2 n => fin_lst S q (rp.app rp') n⟩)
    · cases h
theorem o2_sub : Op2 X.K (opBin .Sub) (rI0 fun i j => .int (i - j)) := by
  intro Acc ι μ H a b x y e Q S ra rb h q
  cases a <;> cases b <;> simp only [opBin, reduceCtorEq] at h
  cases h
  rw [seeI ra, seeI rb]
  exact ⟨_, _, rfl, rfl, fin_dat S q rep_int⟩
def rMul : R2 := fun x y H Q => (rI CMul fun i j => .int (i * j)) x y H Q ∨ rRep x y H Q
theorem or_mul : OpR X (binaryOp .Mult) rMul := OpR.or op_mul op_rep
theorem smallI_iff {i : Int} : smallI i = true ↔ -(2 ^ 64) < i ∧ i < 2 ^ 64 := by
  unfold smallI
  simp
theorem o2_mul : Op2 X.K (opBin .Mult) rMul := by
  intro Acc ι μ H a b x y e Q S ra rb h q
  cases a <;> cases b <;> simp only [opBin, reduceCtorEq] at h
  · rename_i i j
    split at h
    · rename_i hs
      cases h
      rw [seeI ra, seeI rb]
      refine .inl ⟨_, _, rfl, rfl, ?_, fin_dat S q rep_int⟩
      rw [Bool.or_eq_true] at hs
      rcases hs with hs | hs
      · exact .inl (smallI_iff.mp hs)
      · exact .inr (smallI_iff.mp hs)
    · cases h
  · rename_i xs k
    split at h
    · rename_i hs
      cases h
      obtain ⟨h0, h1, h2⟩ := hs
      obtain ⟨p, vs, rfl, tp, rp⟩ := seeL ra
      rw [seeI rb]
      exact .inr ⟨p, k, vs, rfl, rfl, tp, by omega, by omega, by rw [rp.len]; exact lim_ok h2, fun p2 n => fin_lst S q (rp.flat _) n⟩
    · cases h
theorem o2_fdiv : Op2 X.K (opBin .FloorDiv) (rI CDiv fun i j => .int (i / j)) := by
  intro Acc ι μ H a b x y e Q S ra rb h q
  cases a <;> cases b <;> simp only [opBin, reduceCtorEq] at h
  split at h
  · rename_i hs
    cases h
    rw [seeI ra, seeI rb]
    exact ⟨_, _, rfl, rfl, hs, fin_dat S q rep_int⟩
  · cases h
theorem o2_mod : Op2 X.K (opBin .Mod) (rI (fun _ j => 0 < j) fun i j => .int (i % j)) := by
  intro Acc ι μ H a b x y e Q S ra rb h q
  cases a <;> cases b <;> simp only [opBin, reduceCtorEq] at h
  split at h
  · rename_i hs
    cases h
    rw [seeI ra, seeI rb]
    exact ⟨_, _, rfl, rfl, hs, fin_dat S q rep_int⟩
  · cases h
theorem o2_pow : Op2 X.K (opBin .Pow) (rI CPow fun i j => .int (i ^ j.toNat)) := by
  intro Acc ι μ H a b x y e Q S ra rb h q
  cases a <;> cases b <;> simp only [opBin, reduceCtorEq] at h
  split at h
  · rename_i hs
    cases h
    rw [seeI ra, seeI rb]
    exact ⟨_, _, rfl, rfl, hs, fin_dat S q rep_int⟩
  · cases h
end
/-- the operators that are served -/
theorem bin_ok (X : Cx) (op : Operator) : ∃ r, OpR X (binaryOp op) r ∧ Op2 X.K (opBin op) r := by
  cases op with
  | Add => exact ⟨_, or_add, o2_add⟩
  | Sub => exact ⟨_, op_sub, o2_sub⟩
  | Mult => exact ⟨_, or_mul, o2_mul⟩
  | FloorDiv => exact ⟨_, op_fdiv, o2_fdiv⟩
  | Mod => exact ⟨_, op_mod, o2_mod⟩
  | Pow => exact ⟨_, op_pow, o2_pow⟩
  | _ => exact ⟨fun _ _ _ _ => False, fun _ _ _ _ _ _ _ _ _ _ _ _ h => h.elim, fun _ _ _ _ a b _ _ _ _ _ _ _ h _ => by cases a <;> cases b <;> simp [opBin] at h⟩

/-! ### 2. == -/
mutual
def eqv : D → D → Bool
  | .non, .non => true
  | .bl a, .bl b => a == b
  | .bl a, .int j => (if a then 1 else 0) == j
  | .int i, .bl b => i == (if b then 1 else 0)
  | .int i, .int j => i == j
  | .str x, .str y => x.cps.toList == y.cps.toList
  | .lst xs, .lst ys => eqvs xs ys
  | .tup xs, .tup ys => eqvs xs ys
  | _, _ => false
def eqvs : List D → List D → Bool
  | [], [] => true
  | x :: xs, y :: ys => eqv x y && eqvs xs ys
  | _, _ => false
end
mutual
/-- what == may be asked of: nested at most n deep, texts of signs, no dict -/
def fits : Nat → D → Bool
  | _, .non => true
  | _, .bl _ => true
  | _, .int _ => true
  | _, .str x => x.cps.toList.all (· < 0x110000)
  | n + 1, .tup ds => fitsAll n ds
  | n + 1, .lst ds => fitsAll n ds
  | _, _ => false
def fitsAll : Nat → List D → Bool
  | _, [] => true
  | n, d :: ds => fits n d && fitsAll n ds
end
mutual
def D.py : D → PyData
  | .non => .none
  | .bl b => .bool b
  | .int i => .int i
  | .str x => .str x
  | .tup ds => .tuple (pys ds)
  | .lst ds => .list (pys ds)
  | .dic _ _ => .none
  | .scr _ => .none
def pys : List D → List PyData
  | [] => []
  | d :: ds => d.py :: pys ds
end
theorem str_beq {x y : Str} : (x == y) = (x.cps.toList == y.cps.toList) := by
  rw [Bool.eq_iff_iff, beq_iff_eq, beq_iff_eq]
  constructor
  · rintro rfl; rfl
  · intro h
    cases x; cases y
    congr 1
    exact Array.toList_inj.mp h
mutual
theorem eqv_py : ∀ (n m : Nat) (a b : D), fits n a = true → fits m b = true → PyData.eqv a.py b.py = eqv a b
  | n, m, a, b, ha, hb => by
    cases a with
    | dic _ _ => cases n <;> simp [fits] at ha
    | scr _ => cases n <;> simp [fits] at ha
    | tup xs =>
      cases b with
      | dic _ _ => cases m <;> simp [fits] at hb
      | scr _ => cases m <;> simp [fits] at hb
      | tup ys =>
        cases n with
        | zero => simp [fits] at ha
        | succ n =>
          cases m with
          | zero => simp [fits] at hb
          | succ m =>
            simp only [D.py, PyData.eqv, eqv]
            exact eqvs_py n m xs ys (by simpa [fits] using ha) (by simpa [fits] using hb)
      | _ => simp [D.py, PyData.eqv, eqv]
    | lst xs =>
      cases b with
      | dic _ _ => cases m <;> simp [fits] at hb
      | scr _ => cases m <;> simp [fits] at hb
      | lst ys =>
        cases n with
        | zero => simp [fits] at ha
        | succ n =>
          cases m with
          | zero => simp [fits] at hb
          | succ m =>
            simp only [D.py, PyData.eqv, eqv]
            exact eqvs_py n m xs ys (by simpa [fits] using ha) (by simpa [fits] using hb)
      | _ => simp [D.py, PyData.eqv, eqv]
    | str x =>
      cases b with
      | dic _ _ => cases m <;> simp [fits] at hb
      | scr _ => cases m <;> simp [fits] at hb
      | str y => simp only [D.py, PyData.eqv, eqv]; exact str_beq
      | _ => simp [D.py, PyData.eqv, eqv]
    | _ =>
      cases b with
      | dic _ _ => cases m <;> simp [fits] at hb
      | scr _ => cases m <;> simp [fits] at hb
      | _ => simp [D.py, PyData.eqv, eqv]
theorem eqvs_py : ∀ (n m : Nat) (a b : List D), fitsAll n a = true → fitsAll m b = true → PyData.eqvAll (pys a) (pys b) = eqvs a b
  | n, m, [], [], _, _ => by simp [pys, PyData.eqvAll, eqvs]
  | n, m, [], _ :: _, _, _ => by simp [pys, PyData.eqvAll, eqvs]
  | n, m, _ :: _, [], _, _ => by simp [pys, PyData.eqvAll, eqvs]
  | n, m, a :: as, b :: bs, ha, hb => by
    simp only [fitsAll, Bool.and_eq_true] at ha hb
    simp only [pys, PyData.eqvAll, eqvs, eqv_py n m a b ha.1 hb.1, eqvs_py n m as bs ha.2 hb.2]
end
mutual
theorem fits_lay : ∀ (n : Nat) (a : D), fits n a = true → a.py.canLay0 = true ∧ a.py.depth ≤ n
  | n, .non, h => by simp [D.py, PyData.canLay0, PyData.depth]
  | n, .bl _, h => by simp [D.py, PyData.canLay0, PyData.depth]
  | n, .int _, h => by simp [D.py, PyData.canLay0, PyData.depth]
  | n, .str x, h => by
    simp only [D.py, PyData.canLay0, PyData.depth, PyData.strOk]
    refine ⟨?_, Nat.zero_le _⟩
    have h' : x.cps.toList.all (fun c => decide (c < 0x110000)) = true := by cases n <;> simpa [fits] using h
    simpa [← Array.all_toList] using h'
  | 0, .tup ds, h => by simp [fits] at h
  | 0, .lst ds, h => by simp [fits] at h
  | n + 1, .tup ds, h => by
    obtain ⟨h1, h2⟩ := fitsAll_lay n ds (by simpa [fits] using h)
    simp only [D.py, PyData.canLay0, PyData.depth]
    exact ⟨h1, by omega⟩
  | n + 1, .lst ds, h => by
    obtain ⟨h1, h2⟩ := fitsAll_lay n ds (by simpa [fits] using h)
    simp only [D.py, PyData.canLay0, PyData.depth]
    exact ⟨h1, by omega⟩
  | n, .dic _ _, h => by cases n <;> simp [fits] at h
  | n, .scr _, h => by cases n <;> simp [fits] at h
theorem fitsAll_lay : ∀ (n : Nat) (a : List D), fitsAll n a = true → PyData.canLayAll0 (pys a) = true ∧ PyData.depthAll (pys a) ≤ n
  | n, [], h => by simp [pys, PyData.canLayAll0, PyData.depthAll]
  | n, a :: as, h => by
    simp only [fitsAll, Bool.and_eq_true] at h
    obtain ⟨h1, h2⟩ := fits_lay n a h.1
    obtain ⟨h3, h4⟩ := fitsAll_lay n as h.2
    simp only [pys, PyData.canLayAll0, PyData.depthAll, h1, h3, Bool.and_self, true_and]
    exact Nat.max_le.mpr ⟨h2, h4⟩
end
theorem fits_shaped {a : D} (h : fits 64 a = true) : SeqAt.shaped a.py = true := by
  obtain ⟨h1, h2⟩ := fits_lay 64 a h
  unfold SeqAt.shaped
  rw [h1, decide_eq_true h2]
  rfl
mutual
theorem Rep.dp {K : PySem.W.Frag} {L : Addr → Prop} {H : Hp} : ∀ (n : Nat) (d : D) (v : V), fits n d = true → Rep K L H d v → Dp K H v d.py
  | n, .non, v, h, r => by simp only [Rep] at r; subst r; simp only [D.py]; exact .non
  | n, .bl b, v, h, r => by simp only [Rep] at r; subst r; simp only [D.py]; exact .bl b
  | n, .int b, v, h, r => by simp only [Rep] at r; subst r; simp only [D.py]; exact .int b
  | n, .str b, v, h, r => by simp only [Rep] at r; subst r; simp only [D.py]; exact .str b
  | 0, .tup ds, v, h, r => by simp [fits] at h
  | 0, .lst ds, v, h, r => by simp [fits] at h
  | n + 1, .tup ds, v, h, r => by
    simp only [Rep] at r
    obtain ⟨a, vs, rfl, t, r⟩ := r
    simp only [D.py]
    exact .tup t.sq (Reps.dp n ds vs (by simpa [fits] using h) r)
  | n + 1, .lst ds, v, h, r => by
    simp only [Rep] at r
    obtain ⟨a, vs, rfl, t, _, r⟩ := r
    simp only [D.py]
    exact .lst (SqL.of t) (Reps.dp n ds vs (by simpa [fits] using h) r)
  | n, .dic _ _, v, h, r => by cases n <;> simp [fits] at h
  | n, .scr _, v, h, r => by cases n <;> simp [fits] at h
theorem Reps.dp {K : PySem.W.Frag} {L : Addr → Prop} {H : Hp} : ∀ (n : Nat) (ds : List D) (vs : List V), fitsAll n ds = true → Reps K L H ds vs → DpAll K H vs (pys ds)
  | n, [], vs, h, r => by rw [r.invN]; simp only [pys]; exact .nil
  | n, d :: ds, vs, h, r => by
    obtain ⟨v, rs, rfl, h1, h2⟩ := r.inv
    simp only [fitsAll, Bool.and_eq_true] at h
    simp only [pys]
    exact .cons (Rep.dp n d v h.1 h1) (Reps.dp n ds rs h.2 h2)
end
theorem SeeR.dp {K : PySem.W.Frag} {L : Addr → Prop} {H : Hp} {d : D} {v : V} (h : fits 64 d = true) (r : SeeR K L H d v) : Dp K H v d.py := by
  cases d with
  | lst ds =>
    obtain ⟨a, vs, rfl, t, r⟩ := r
    simp only [D.py]
    exact .lst (SqL.of t) (Reps.dp 63 ds vs (by simpa [fits] using h) r)
  | dic _ _ => simp [fits] at h
  | _ => exact Rep.dp (L := L) 64 _ v h r
/-- two texts -/
def txEq (a b : D) : Option Bool := match a, b with
  | .str x, .str y => some (x.cps.toList == y.cps.toList)
  | _, _ => none
/-- ==: texts at once, the rest where it fits -/
def lenNe (a b : D) : Bool := match a, b with
  | .lst x, .lst y => x.length != y.length
  | _, _ => false
def opEq0 (a b : D) : Option Bool := match txEq a b with
  | some k => some k
  | none => if fits 64 a && fits 64 b then some (eqv a b) else if lenNe a b then some false else none
section
variable {X : Cx}
theorem txEq_ok {K : PySem.W.Frag} {L : Addr → Prop} {H : Hp} {a b : D} {x y : V} {k : Bool} (h : txEq a b = some k) (ra : SeeR K L H a x) (rb : SeeR K L H b y) : scal x y = true ∧ k = decide (x = y) := by
  cases a <;> cases b <;> simp only [txEq, reduceCtorEq] at h
  cases h
  rename_i i j
  rw [seeS ra, seeS rb]
  refine ⟨rfl, ?_⟩
  rw [dec_str, str_beq]
/-- two lists of unlike lengths -/
def rLens (K : PySem.W.Frag) (b : Bool) : R2 := fun x y H Q => ∃ (p q : Addr) (xs ys : List V), x = .ref p ∧ y = .ref q ∧ SqL K H p xs ∧ SqL K H q ys ∧ xs.length ≠ ys.length ∧ Q (.bl b) H
theorem len_eq (hu : X.A.units + 64 < cLine) : OpR X (compareOp .Eq) (rLens X.K false) := by
  intro pins s σ H x y v u Q I rx ry h
  obtain ⟨p, q, xs, ys, rfl, rfl, hp, hq, hn, hQ⟩ := h
  obtain rfl : v = Value.ref p := rx
  obtain rfl : u = Value.ref q := ry
  obtain ⟨its, r1, l1, _⟩ := I.list hp
  obtain ⟨its2, r2, l2, _⟩ := I.list hq
  refine SeqAt.RcAt.lists_lengths l1.isList l2.isList ?_ (by omega) X.prog X.w _ _ ⟨.bl false, H, I, rfl, hQ⟩
  rw [bne_iff_ne, List.size_toArray, List.size_toArray, ← r1.length, ← r2.length]
  exact hn
theorem len_ne (hu : X.A.units + 64 < cLine) : OpR X (compareOp .NotEq) (rLens X.K true) := by
  intro pins s σ H x y v u Q I rx ry h
  obtain ⟨p, q, xs, ys, rfl, rfl, hp, hq, hn, hQ⟩ := h
  obtain rfl : v = Value.ref p := rx
  obtain rfl : u = Value.ref q := ry
  obtain ⟨its, r1, l1, _⟩ := I.list hp
  obtain ⟨its2, r2, l2, _⟩ := I.list hq
  refine SeqAt.RcNeAt.lists_lengths l1.isList l2.isList ?_ (by omega) X.prog X.w _ _ ⟨.bl true, H, I, rfl, hQ⟩
  rw [bne_iff_ne, List.size_toArray, List.size_toArray, ← r1.length, ← r2.length]
  exact hn
theorem lenNe_ok {K : PySem.W.Frag} {L : Addr → Prop} {H : Hp} {a b : D} {x y : V} (h : lenNe a b = true) (ra : SeeR K L H a x) (rb : SeeR K L H b y) : ∃ (p q : Addr) (xs ys : List V), x = .ref p ∧ y = .ref q ∧ SqL K H p xs ∧ SqL K H q ys ∧ xs.length ≠ ys.length := by
  cases a <;> cases b <;> simp only [lenNe, reduceCtorEq] at h
  obtain ⟨p, xs, rfl, tp, rp⟩ := seeL ra
  obtain ⟨q, ys, rfl, tq, rq⟩ := seeL rb
  refine ⟨p, q, xs, ys, rfl, rfl, SqL.of tp, SqL.of tq, ?_⟩
  rw [rp.len, rq.len]
  simpa using h
theorem o2_eq0 : Cmp2 X.K opEq0 (fun x y H Q => rEq x y H Q ∨ (rEqD X.K x y H Q ∨ rLens X.K false x y H Q)) := by
  intro Acc ι μ H a b x y e Q S ra rb h q
  simp only [opEq0] at h
  cases ht : txEq a b with
  | some k =>
    rw [ht] at h
    cases h
    obtain ⟨h1, h2⟩ := txEq_ok ht ra rb
    refine .inl ⟨h1, ?_⟩
    rw [← h2]
    exact fin_dat S q rep_bl
  | none =>
    rw [ht] at h
    simp only at h
    by_cases hf : (fits 64 a && fits 64 b) = true
    · rw [if_pos hf] at h
      cases h
      rw [Bool.and_eq_true] at hf
      refine .inr (.inl ⟨a.py, b.py, ra.dp hf.1, rb.dp hf.2, fits_shaped hf.1, fits_shaped hf.2, ?_⟩)
      rw [eqv_py 64 64 a b hf.1 hf.2]
      exact fin_dat S q rep_bl
    · rw [if_neg hf] at h
      by_cases hl : lenNe a b = true
      · rw [if_pos hl] at h
        cases h
        obtain ⟨p, p', xs, ys, e1, e2, t1, t2, ne⟩ := lenNe_ok hl ra rb
        exact .inr (.inr ⟨p, p', xs, ys, e1, e2, t1, t2, ne, fin_dat S q rep_bl⟩)
      · rw [if_neg hl] at h; cases h
theorem o2_ne0 : Cmp2 X.K (fun a b => (opEq0 a b).map (!·)) (fun x y H Q => rNe x y H Q ∨ (rNeD X.K x y H Q ∨ rLens X.K true x y H Q)) := by
  intro Acc ι μ H a b x y e Q S ra rb h q
  simp only [opEq0] at h
  cases ht : txEq a b with
  | some k =>
    rw [ht] at h
    cases h
    obtain ⟨h1, h2⟩ := txEq_ok ht ra rb
    refine .inl ⟨h1, ?_⟩
    rw [← h2]
    exact fin_dat S q rep_bl
  | none =>
    rw [ht] at h
    simp only at h
    by_cases hf : (fits 64 a && fits 64 b) = true
    · rw [if_pos hf] at h
      cases h
      rw [Bool.and_eq_true] at hf
      refine .inr (.inl ⟨a.py, b.py, ra.dp hf.1, rb.dp hf.2, fits_shaped hf.1, fits_shaped hf.2, ?_⟩)
      rw [eqv_py 64 64 a b hf.1 hf.2]
      exact fin_dat S q rep_bl
    · rw [if_neg hf] at h
      by_cases hl : lenNe a b = true
      · rw [if_pos hl] at h
        cases h
        obtain ⟨p, p', xs, ys, e1, e2, t1, t2, ne⟩ := lenNe_ok hl ra rb
        exact .inr (.inr ⟨p, p', xs, ys, e1, e2, t1, t2, ne, fin_dat S q rep_bl⟩)
      · rw [if_neg hl] at h; cases h
end
end VM
/-! Comparisons, truth, and/or, subscripts. -/
namespace VM
open PySem L2 PyProof.Rows

/-! ### 1. comparisons of ints; is; in -/
def opI (f : Int → Int → Bool) (a b : D) : Option Bool := match a, b with
  | .int i, .int j => some (f i j)
  | _, _ => none
section
variable {X : Cx}
theorem o2_int {f : Int → Int → Bool} : Cmp2 X.K (opI f) (rI0 fun i j => .bl (f i j)) := by
  intro Acc ι μ H a b x y e Q S ra rb h q
  cases a <;> cases b <;> simp only [opI, Option.map_none, Option.map_some, reduceCtorEq] at h
  cases h
  rw [seeI ra, seeI rb]
  exact ⟨_, _, rfl, rfl, fin_dat S q rep_bl⟩
/-- x is None, True, False -/
def D.isNon : D → Bool
  | .non => true
  | _ => false
def opIs (a b : D) : Option Bool := match b with
  | .non => some a.isNon
  | .bl j => match a with
    | .bl i => some (i == j)
    | .int _ => some false
    | .str _ => some false
    | .non => some false
    | _ => none
  | _ => none
def rIs1 : R2 := fun x y H Q => y = .non ∧ Q (.bl (decide (x = .non))) H
def rIs2 : R2 := fun x y H Q => ∃ j, y = .bl j ∧ ((∃ i, x = .bl i) ∨ (∃ i, x = .int i) ∨ (∃ i, x = .str i) ∨ x = .non) ∧ Q (.bl (decide (x = .bl j))) H
def rNot2 : R2 := fun x y H Q => ∃ j, y = .bl j ∧ ((∃ i, x = .bl i) ∨ (∃ i, x = .int i) ∨ (∃ i, x = .str i) ∨ x = .non) ∧ Q (.bl (!decide (x = .bl j))) H
theorem op_is2 : OpR X (compareOp .Is) rIs2 := by
  intro pins s σ H x y v u Q I rx ry h
  obtain ⟨j, rfl, hx, q⟩ := h
  cases (show u = Value.bool j from ry)
  rcases hx with ⟨i, rfl⟩ | ⟨i, rfl⟩ | ⟨i, rfl⟩ | rfl
  · cases (show v = Value.bool i from rx)
    by_cases e : i = j
    · subst e
      exact wpAny_is_self rfl ⟨.bl true, H, I, rfl, by simpa using q⟩
    · exact wpAny_is_other rfl (fun z => e (Value.bool.inj z)) ⟨.bl false, H, I, rfl, by simpa [e] using q⟩
  · obtain ⟨t, rfl⟩ := rx
    exact wpAny_is_other rfl (fun z => by cases z) ⟨.bl false, H, I, rfl, by simpa using q⟩
  · obtain ⟨t, rfl⟩ := rx
    exact wpAny_is_other rfl (fun z => by cases z) ⟨.bl false, H, I, rfl, by simpa using q⟩
  · cases (show v = Value.none from rx)
    exact wpAny_is_other rfl (fun z => by cases z) ⟨.bl false, H, I, rfl, by simpa using q⟩
theorem op_not2 : OpR X (compareOp .IsNot) rNot2 := by
  intro pins s σ H x y v u Q I rx ry h
  obtain ⟨j, rfl, hx, q⟩ := h
  cases (show u = Value.bool j from ry)
  rcases hx with ⟨i, rfl⟩ | ⟨i, rfl⟩ | ⟨i, rfl⟩ | rfl
  · cases (show v = Value.bool i from rx)
    by_cases e : i = j
    · subst e
      exact wpAny_isNot_self rfl ⟨.bl false, H, I, rfl, by simpa using q⟩
    · exact wpAny_isNot_other rfl (fun z => e (Value.bool.inj z)) ⟨.bl true, H, I, rfl, by simpa [e] using q⟩
  · obtain ⟨t, rfl⟩ := rx
    exact wpAny_isNot_other rfl (fun z => by cases z) ⟨.bl true, H, I, rfl, by simpa using q⟩
  · obtain ⟨t, rfl⟩ := rx
    exact wpAny_isNot_other rfl (fun z => by cases z) ⟨.bl true, H, I, rfl, by simpa using q⟩
  · cases (show v = Value.none from rx)
    exact wpAny_isNot_other rfl (fun z => by cases z) ⟨.bl true, H, I, rfl, by simpa using q⟩
theorem see_none {K : PySem.W.Frag} {L : Addr → Prop} {H : Hp} {d : D} {x : V} (r : SeeR K L H d x) : decide (x = .non) = d.isNon := by
  cases d with
  | non => rw [seeN r]; rfl
  | bl _ => rw [seeB r]; rfl
  | int _ => rw [seeI r]; rfl
  | str _ => rw [seeS r]; rfl
  | tup _ => obtain ⟨a, vs, rfl, _⟩ := seeT r; rfl
  | lst _ => obtain ⟨a, vs, rfl, _⟩ := r; rfl
  | dic _ _ => obtain ⟨a, vs, rfl, _⟩ := r; rfl
  | scr _ => obtain ⟨a, rfl, _⟩ := (by simpa only [SeeR, Rep] using r : ∃ a, x = .ref a ∧ _); rfl
theorem o2_is : Cmp2 X.K opIs (fun x y H Q => (y = .non ∧ Q (.bl (decide (x = .non))) H) ∨ rIs2 x y H Q) := by
  intro Acc ι μ H a b x y e Q S ra rb h q
  cases b <;> simp only [opIs, Option.map_none, reduceCtorEq] at h
  · cases h
    refine .inl ⟨seeN rb, ?_⟩
    rw [see_none ra]
    exact fin_dat S q rep_bl
  · rename_i j
    refine .inr ⟨j, seeB rb, ?_⟩
    cases a <;> simp only [Option.map_none, Option.map_some, reduceCtorEq] at h
    · cases h; rw [seeN ra]; exact ⟨.inr (.inr (.inr rfl)), by simpa using fin_dat S q rep_bl⟩
    · rename_i i
      cases h; rw [seeB ra]; refine ⟨.inl ⟨_, rfl⟩, ?_⟩
      have z : decide (V.bl i = V.bl j) = (i == j) := by rw [Bool.eq_iff_iff]; simp
      rw [z]; exact fin_dat S q rep_bl
    · cases h; rw [seeI ra]; exact ⟨.inr (.inl ⟨_, rfl⟩), by simpa using fin_dat S q rep_bl⟩
    · cases h; rw [seeS ra]; exact ⟨.inr (.inr (.inl ⟨_, rfl⟩)), by simpa using fin_dat S q rep_bl⟩
theorem o2_isnot : Cmp2 X.K (fun a b => (opIs a b).map (!·)) (fun x y H Q => (y = .non ∧ Q (.bl (!decide (x = .non))) H) ∨ rNot2 x y H Q) := by
  intro Acc ι μ H a b x y e Q S ra rb h q
  cases b <;> simp only [opIs, Option.map_none, reduceCtorEq] at h
  · cases h
    refine .inl ⟨seeN rb, ?_⟩
    rw [see_none ra]
    exact fin_dat S q rep_bl
  · rename_i j
    refine .inr ⟨j, seeB rb, ?_⟩
    cases a <;> simp only [Option.map_none, Option.map_some, reduceCtorEq] at h
    · cases h; rw [seeN ra]; exact ⟨.inr (.inr (.inr rfl)), by simpa using fin_dat S q rep_bl⟩
    · rename_i i
      cases h; rw [seeB ra]; refine ⟨.inl ⟨_, rfl⟩, ?_⟩
      have z : decide (V.bl i = V.bl j) = (i == j) := by rw [Bool.eq_iff_iff]; simp
      rw [z]; exact fin_dat S q rep_bl
    · cases h; rw [seeI ra]; exact ⟨.inr (.inl ⟨_, rfl⟩), by simpa using fin_dat S q rep_bl⟩
    · cases h; rw [seeS ra]; exact ⟨.inr (.inr (.inl ⟨_, rfl⟩)), by simpa using fin_dat S q rep_bl⟩
end

/-! ### 2. keys, dicts looked up -/
def D.key : D → Option Key
  | .int i => some (.inl i)
  | .str x => some (.inr x)
  | _ => none
def keyEq (a b : Key) : Bool := match a, b with
  | .inl i, .inl j => i == j
  | .inr x, .inr y => x.cps.toList == y.cps.toList
  | _, _ => false
theorem keyEq_iff {a b : Key} : keyEq a b = true ↔ a = b := by
  cases a with
  | inl i => cases b with
    | inl j => simp [keyEq]
    | inr y => simp [keyEq]
  | inr x => cases b with
    | inl j => simp [keyEq]
    | inr y =>
      show (x.cps.toList == y.cps.toList) = true ↔ _
      rw [← str_beq, beq_iff_eq]
      simp
def dget : List Key → List D → Key → Option D
  | k :: ks, d :: ds, j => if keyEq k j then some d else dget ks ds j
  | _, _, _ => none
def dhas (ks : List Key) (j : Key) : Bool := ks.any fun k => keyEq k j
def dput : List Key → List D → Key → D → List Key × List D
  | k :: ks, d :: ds, j, e => if keyEq k j then (k :: ks, e :: ds) else ((k :: (dput ks ds j e).1), (d :: (dput ks ds j e).2))
  | _, _, j, e => ([j], [e])
section
variable {K : PySem.W.Frag} {L : Addr → Prop} {H : Hp}
theorem key_rep {d : D} {k : Key} {v : V} (h : d.key = some k) (r : SeeR K L H d v) : v = kV k := by
  cases d <;> simp only [D.key, reduceCtorEq] at h
  · cases h; exact seeI r
  · cases h; exact seeS r
theorem val_get : ∀ {ks : List Key} {ds : List D} {vs : List V} {k : Key}, ks.length = ds.length → Reps K L H ds vs → match dget ks ds k with
    | some d => ∃ v, valV (ks.zip vs) k = some v ∧ Rep K L H d v
    | none => valV (ks.zip vs) k = none
  | [], [], vs, k, hl, r => by rw [r.invN]; rfl
  | [], _ :: _, vs, k, hl, r => by cases hl
  | _ :: _, [], vs, k, hl, r => by cases hl
  | a :: ks, d :: ds, vs, k, hl, r => by
    obtain ⟨v, rs, rfl, h1, h2⟩ := r.inv
    rw [List.zip_cons_cons]
    unfold dget
    by_cases e : keyEq a k = true
    · rw [if_pos e]
      exact ⟨v, valV_pos (keyEq_iff.mp e), h1⟩
    · rw [if_neg e, valV_neg (fun z => e (keyEq_iff.mpr z))]
      exact val_get (by simpa using hl) h2
theorem val_has {ks : List Key} {ds : List D} {vs : List V} {k : Key} (hl : ks.length = ds.length) (r : Reps K L H ds vs) : (valV (ks.zip vs) k).isSome = dhas ks k := by
  rw [← valV_any]
  have hv : vs.length = ks.length := by rw [r.len, hl]
  unfold dhas
  have e : ∀ (ks : List Key) (vs : List V), vs.length = ks.length → ((ks.zip vs).any fun kv => decide (kv.1 = k)) = ks.any fun a => keyEq a k := by
    intro ks
    induction ks with
    | nil => intro vs _; rfl
    | cons a ks ih =>
      intro vs hv
      cases vs with
      | nil => cases hv
      | cons v vs =>
        rw [List.zip_cons_cons, List.any_cons, List.any_cons, ih vs (by simpa using hv)]
        congr 1
        rw [Bool.eq_iff_iff, decide_eq_true_iff, keyEq_iff]
  exact e ks vs hv
theorem dput_len : ∀ {ks : List Key} {ds : List D} {k : Key} {d : D}, ks.length = ds.length → (dput ks ds k d).1.length = (dput ks ds k d).2.length
  | [], [], k, d, _ => rfl
  | [], _ :: _, k, d, h => by cases h
  | _ :: _, [], k, d, h => by cases h
  | a :: ks, b :: ds, k, d, h => by
    unfold dput
    by_cases e : keyEq a k = true
    · rw [if_pos e]; simpa using h
    · rw [if_neg e]
      simpa using dput_len (k := k) (d := d) (by simpa using h)
/-- no key twice: what the store of a key does -/
theorem val_put : ∀ {ks : List Key} {ds : List D} {vs : List V} {k : Key} {d : D} {v : V}, ks.Nodup → ks.length = ds.length → Reps K L H ds vs → Rep K L H d v →
    ∃ ws, putK (ks.zip vs) k v = (dput ks ds k d).1.zip ws ∧ Reps K L H (dput ks ds k d).2 ws
  | [], [], vs, k, d, v, _, hl, r, rd => by
    rw [r.invN]
    exact ⟨[v], rfl, Reps.cons rd Reps.nil⟩
  | [], _ :: _, vs, k, d, v, _, hl, r, rd => by cases hl
  | _ :: _, [], vs, k, d, v, _, hl, r, rd => by cases hl
  | a :: ks, b :: ds, vs, k, d, v, nd, hl, r, rd => by
    obtain ⟨w, rs, rfl, h1, h2⟩ := r.inv
    rw [List.zip_cons_cons]
    obtain ⟨na, nks⟩ := List.nodup_cons.mp nd
    unfold dput
    by_cases e : keyEq a k = true
    · rw [if_pos e]
      have e' := keyEq_iff.mp e
      refine ⟨v :: rs, ?_, Reps.cons rd h2⟩
      unfold putK
      have ha : (((a, w) :: ks.zip rs).any fun kv => decide (kv.1 = k)) = true := by rw [List.any_cons, decide_eq_true e']; rfl
      rw [if_pos ha, List.map_cons, if_pos e', List.zip_cons_cons]
      congr 1
      have : ∀ p ∈ ks.zip rs, (if p.1 = k then (p.1, v) else p) = p := fun p hp => by
        rw [if_neg]
        intro z
        refine na ?_
        rw [e', ← z]
        exact (List.of_mem_zip (a := p.1) (b := p.2) hp).1
      calc (ks.zip rs).map _ = (ks.zip rs).map id := List.map_congr_left this
        _ = ks.zip rs := List.map_id _
    · rw [if_neg e]
      have e' : ¬ a = k := fun z => e (keyEq_iff.mpr z)
      obtain ⟨ws, h3, h4⟩ := val_put (k := k) nks (by simpa using hl) h2 rd
      refine ⟨w :: ws, ?_, Reps.cons h1 h4⟩
      show _ = (a, w) :: ((dput ks ds k d).1.zip ws)
      rw [← h3]
      unfold putK
      rw [List.any_cons, decide_eq_false e', Bool.false_or]
      by_cases z : ((ks.zip rs).any fun kv => decide (kv.1 = k)) = true
      · rw [if_pos z, if_pos z, List.map_cons, if_neg e']
      · rw [if_neg z, if_neg z, List.cons_append]
end
def ndK (ks : List Key) : Bool := match ks with
  | [] => true
  | k :: r => !(dhas r k) && ndK r
theorem ndK_ok : ∀ {ks : List Key}, ndK ks = true → ks.Nodup
  | [], _ => List.nodup_nil
  | k :: r, h => by
    unfold ndK at h
    rw [Bool.and_eq_true, Bool.not_eq_true'] at h
    refine List.nodup_cons.mpr ⟨fun hm => ?_, ndK_ok h.2⟩
    have : dhas r k = true := by
      unfold dhas
      rw [List.any_eq_true]
      exact ⟨k, hm, keyEq_iff.mpr rfl⟩
    rw [this] at h
    exact absurd h.1 (by simp)

/-! ### 3. in -/
def sgnIn (x z : Str) : Option Bool := match x.cps.toList with
  | [c] => some (z.cps.toList.contains c)
  | _ => none
def opIn (a b : D) : Option Bool := match b with
  | .str z => match a with
    | .str x => sgnIn x z
    | _ => none
  | .lst ds => if fits 64 a && fitsAll 63 ds then some (ds.any fun d => eqv d a) else none
  | .tup ds => if fits 0 a && fitsAll 0 ds then some (ds.any fun d => eqv d a) else none
  | .dic ks _ => match a.key with
    | some k => some (dhas ks k)
    | none => none
  | _ => none
section
variable {X : Cx}
def rInDic : R2 := fun x y H Q => ∃ a o, y = .ref a ∧ DGet H a x o ∧ Q (.bl o.isSome) H
def rNotInDic : R2 := fun x y H Q => ∃ a o, y = .ref a ∧ DGet H a x o ∧ Q (.bl (!o.isSome)) H
theorem op_inDic (hu : X.A.units + 1 < cLine) : OpR X (compareOp .In) rInDic := by
  intro pins s σ H x y v u Q I rx ry h
  obtain ⟨a, o, rfl, g, q⟩ := h
  cases (show u = Value.ref a from ry)
  exact d_in hu I g rx fun s' I' => ⟨.bl _, H, I', rfl, q⟩
theorem op_notInDic (hu : X.A.units + 1 < cLine) : OpR X (compareOp .NotIn) rNotInDic := by
  intro pins s σ H x y v u Q I rx ry h
  obtain ⟨a, o, rfl, g, q⟩ := h
  cases (show u = Value.ref a from ry)
  exact d_notIn hu I g rx fun s' I' => ⟨.bl _, H, I', rfl, q⟩
def rSgn (neg : Bool) : R2 := fun x y H Q => ∃ (c : Nat) (z : Str), x = .str ⟨#[c]⟩ ∧ y = .str z ∧ Q (.bl (if neg then !decide (c ∈ z.cps.toList) else decide (c ∈ z.cps.toList))) H
def rInAll (K : PySem.W.Frag) : R2 := fun x y H Q => (rSgn false x y H Q ∨ rInD K x y H Q) ∨ (rIn K false x y H Q ∨ rInDic x y H Q)
def rNotInAll (K : PySem.W.Frag) : R2 := fun x y H Q => (rSgn true x y H Q ∨ rNotInD K x y H Q) ∨ (rIn K true x y H Q ∨ rNotInDic x y H Q)
theorem or_in (hu : X.A.units + 65 < cLine) : OpR X (compareOp .In) (rInAll X.K) :=
  OpR.or (OpR.or (fun pins s σ H x y v u Q I rx ry ⟨c, z, e1, e2, q⟩ => op_in_sign pins s σ H x y v u Q I rx ry ⟨c, z, e1, e2, q⟩) (op_inD hu)) (OpR.or op_in_seq (op_inDic (by omega)))
theorem or_notIn (hu : X.A.units + 65 < cLine) : OpR X (compareOp .NotIn) (rNotInAll X.K) :=
  OpR.or (OpR.or (fun pins s σ H x y v u Q I rx ry ⟨c, z, e1, e2, q⟩ => op_notIn_sign pins s σ H x y v u Q I rx ry ⟨c, z, e1, e2, q⟩) (op_notInD hu)) (OpR.or op_notIn_seq (op_notInDic (by omega)))
theorem flat_of {K : PySem.W.Frag} {L : Addr → Prop} {H : Hp} {d : D} {v : V} (h : fits 0 d = true) (r : Rep K L H d v) : flatV v = true := by
  cases d <;> simp [fits] at h <;> (simp only [Rep] at r; subst r; rfl)
theorem flats_of {K : PySem.W.Frag} {L : Addr → Prop} {H : Hp} : ∀ {ds : List D} {vs : List V}, fitsAll 0 ds = true → Reps K L H ds vs → vs.all flatV = true
  | [], vs, _, r => by rw [r.invN]; rfl
  | d :: ds, vs, h, r => by
    obtain ⟨v, rs, rfl, h1, h2⟩ := r.inv
    simp only [fitsAll, Bool.and_eq_true] at h
    rw [List.all_cons, flat_of h.1 h1, flats_of h.2 h2]
    rfl
theorem eqV_eqv {K : PySem.W.Frag} {L : Addr → Prop} {H : Hp} {a b : D} {x y : V} (ha : fits 0 a = true) (hb : fits 0 b = true) (ra : Rep K L H a x) (rb : Rep K L H b y) : eqV x y = eqv a b := by
  cases a <;> simp [fits] at ha <;> simp only [Rep] at ra <;> subst ra <;> cases b <;> simp [fits] at hb <;> simp only [Rep] at rb <;> subst rb <;> simp only [eqV, eqv]
  exact str_beq
theorem any_eqv {K : PySem.W.Frag} {L : Addr → Prop} {H : Hp} {a : D} {x : V} (ha : fits 0 a = true) (ra : Rep K L H a x) : ∀ {ds : List D} {vs : List V}, fitsAll 0 ds = true → Reps K L H ds vs → inV x vs = ds.any fun d => eqv d a
  | [], vs, _, r => by rw [r.invN]; rfl
  | d :: ds, vs, h, r => by
    obtain ⟨v, rs, rfl, h1, h2⟩ := r.inv
    simp only [fitsAll, Bool.and_eq_true] at h
    have := any_eqv ha ra h.2 h2
    unfold inV at this ⊢
    rw [List.any_cons, List.any_cons, this, eqV_eqv h.1 ha h1 ra]
theorem any_py {a : D} (ha : fits 64 a = true) : ∀ {ds : List D}, fitsAll 63 ds = true → ((pys ds).any fun z => PyData.eqv z a.py) = ds.any fun d => eqv d a
  | [], _ => rfl
  | d :: ds, h => by
    simp only [fitsAll, Bool.and_eq_true] at h
    simp only [pys, List.any_cons, any_py ha h.2, eqv_py 63 64 d a h.1 ha]
theorem seeR_rep {K : PySem.W.Frag} {L : Addr → Prop} {H : Hp} {d : D} {v : V} (h : fits 0 d = true) (r : SeeR K L H d v) : Rep K L H d v := by
  cases d <;> simp [fits] at h <;> exact r
theorem sgn_ok {x z : Str} {b : Bool} (h : sgnIn x z = some b) : ∃ c, x = ⟨#[c]⟩ ∧ b = decide (c ∈ z.cps.toList) := by
  unfold sgnIn at h
  split at h
  · rename_i c e
    cases h
    refine ⟨c, ?_, ?_⟩
    · cases x; congr 1; exact Array.toList_inj.mp e
    · rw [Bool.eq_iff_iff]; simp
  · cases h
theorem o2_in : Cmp2 X.K opIn (rInAll X.K) := by
  intro Acc ι μ H a b x y e Q S ra rb h q
  cases b <;> simp only [opIn, Option.map_none, reduceCtorEq] at h
  · rename_i z
    cases a <;> simp only [Option.map_none, reduceCtorEq] at h
    rename_i w
    cases hs : sgnIn w z with
    | none => rw [hs] at h; cases h
    | some k =>
      rw [hs] at h; cases h
      obtain ⟨c, rfl, rfl⟩ := sgn_ok hs
      exact .inl (.inl ⟨c, z, seeS ra, seeS rb, fin_dat S q rep_bl⟩)
  · rename_i ds
    split at h
    · rename_i hf
      cases h
      rw [Bool.and_eq_true] at hf
      obtain ⟨p, vs, rfl, tp, rp⟩ := seeT rb
      have ra' := seeR_rep hf.1 ra
      refine .inr (.inl ⟨p, vs, rfl, .inr tp.sq, flat_of hf.1 ra', flats_of hf.2 rp, ?_⟩)
      show Q (.bl (inV x vs)) H
      rw [any_eqv hf.1 ra' hf.2 rp]
      exact fin_dat S q rep_bl
    · cases h
  · rename_i ds
    split at h
    · rename_i hf
      cases h
      rw [Bool.and_eq_true] at hf
      have fl : fits 64 (.lst ds) = true := by simpa [fits] using hf.2
      refine .inl (.inr ⟨a.py, pys ds, ra.dp hf.1, by simpa only [D.py] using rb.dp fl, fits_shaped hf.1, by simpa only [D.py] using fits_shaped fl, ?_⟩)
      rw [any_py hf.1 hf.2]
      exact fin_dat S q rep_bl
    · cases h
  · rename_i ks ds
    cases hk : a.key with
    | none => rw [hk] at h; cases h
    | some k =>
      rw [hk] at h; cases h
      obtain ⟨p, vs, rfl, tp, hl, rp⟩ := rb
      refine .inr (.inr ⟨p, _, rfl, by rw [key_rep hk ra]; exact .inl ⟨_, _, tp, rfl, rfl⟩, ?_⟩)
      rw [val_has hl rp]
      exact fin_dat S q rep_bl
theorem o2_notin : Cmp2 X.K (fun a b => (opIn a b).map (!·)) (rNotInAll X.K) := by
  intro Acc ι μ H a b x y e Q S ra rb h q
  cases b <;> simp only [opIn, Option.map_none, reduceCtorEq] at h
  · rename_i z
    cases a <;> simp only [Option.map_none, reduceCtorEq] at h
    rename_i w
    cases hs : sgnIn w z with
    | none => rw [hs] at h; cases h
    | some k =>
      rw [hs] at h; cases h
      obtain ⟨c, rfl, rfl⟩ := sgn_ok hs
      exact .inl (.inl ⟨c, z, seeS ra, seeS rb, fin_dat S q rep_bl⟩)
  · rename_i ds
    split at h
    · rename_i hf
      cases h
      rw [Bool.and_eq_true] at hf
      obtain ⟨p, vs, rfl, tp, rp⟩ := seeT rb
      have ra' := seeR_rep hf.1 ra
      refine .inr (.inl ⟨p, vs, rfl, .inr tp.sq, flat_of hf.1 ra', flats_of hf.2 rp, ?_⟩)
      show Q (.bl (!inV x vs)) H
      rw [any_eqv hf.1 ra' hf.2 rp]
      exact fin_dat S q rep_bl
    · cases h
  · rename_i ds
    split at h
    · rename_i hf
      cases h
      rw [Bool.and_eq_true] at hf
      have fl : fits 64 (.lst ds) = true := by simpa [fits] using hf.2
      refine .inl (.inr ⟨a.py, pys ds, ra.dp hf.1, by simpa only [D.py] using rb.dp fl, fits_shaped hf.1, by simpa only [D.py] using fits_shaped fl, ?_⟩)
      rw [any_py hf.1 hf.2]
      exact fin_dat S q rep_bl
    · cases h
  · rename_i ks ds
    cases hk : a.key with
    | none => rw [hk] at h; cases h
    | some k =>
      rw [hk] at h; cases h
      obtain ⟨p, vs, rfl, tp, hl, rp⟩ := rb
      refine .inr (.inr ⟨p, _, rfl, by rw [key_rep hk ra]; exact .inl ⟨_, _, tp, rfl, rfl⟩, ?_⟩)
      rw [val_has hl rp]
      exact fin_dat S q rep_bl
end
/-! ### == of dicts -/
def hitsD (js : List Key) (es : List D) : List Key → List D → Bool
  | k :: ks, d :: ds => (match dget js es k with
    | some e => eqv d e
    | none => false) && hitsD js es ks ds
  | _, _ => true
def dicEq : D → D → Option Bool
  | .dic ks ds, .dic js es => if fitsAll 64 ds && fitsAll 64 es then some (ks.length == js.length && hitsD js es ks ds) else none
  | _, _ => none
/-- ==: of dicts, too -/
def opEq (a b : D) : Option Bool := match opEq0 a b with
  | some k => some k
  | none => dicEq a b
inductive DHits (K : PySem.W.Frag) (H : Hp) (kws : List (Key × V)) : List (Key × V) → Bool → Prop where
  | nil : DHits K H kws [] true
  | miss {k : Key} {v : V} {r : List (Key × V)} : valV kws k = none → DHits K H kws ((k, v) :: r) false
  | hit {k : Key} {v w : V} {r : List (Key × V)} {d e : PyData} {b : Bool} : valV kws k = some w → Dp K H v d → Dp K H w e → SeqAt.shaped d = true → SeqAt.shaped e = true → DHits K H kws r b → DHits K H kws ((k, v) :: r) (PyData.eqv d e && b)
section
variable {X : Cx}
theorem DHits.keq {pins : List (Addr × Obj)} {σ : L2.St} {H : Hp} {s : Shared} (I : Inv X pins σ H s) {kws : List (Key × V)} {ws : List (Key × Value)} (hw : KV kws ws) (hu : X.A.in1.units + 64 < cLine) : ∀ {kvs : List (Key × V)} {vs : List (Key × Value)} {r : Bool}, KV kvs vs → DHits X.K H kws kvs r → PySem.W.KeqHits X.A.in1 s ws vs r
  | [], vs, r, hv, h => by
    cases hv
    cases h
    exact .nil
  | (k, v) :: kvs, vs, r, hv, h => by
    cases hv with
    | cons h1 h2 =>
      rename_i q qs
      obtain ⟨k', u⟩ := q
      obtain ⟨e1, r1⟩ := h1
      have e1 : k = k' := e1
      subst e1
      cases h with
      | miss hn => exact .miss (RelO.none_of (by rw [← hn]; exact hw.val k))
      | hit hs d1 d2 s1 s2 hr =>
        obtain ⟨u', hu', ru⟩ := RelO.some_of (o := valueAt ws k) (by rw [← hs]; exact hw.val k)
        obtain ⟨as, q1⟩ := Dp.reads I _ _ _ d1 r1
        obtain ⟨bs, q2⟩ := Dp.reads I _ _ _ d2 ru
        exact .hit hu' (PySem.W.keq_at q1 q2 s1 s2 hu) (DHits.keq I hw hu h2 hr)
def rDicB (K : PySem.W.Frag) (f : Bool → Bool) : R2 := fun x y H Q => ∃ a b kvs kws r, x = .ref a ∧ y = .ref b ∧ Rd H a (.dK kvs) ∧ Rd H b (.dK kws) ∧ DHits K H kws kvs r ∧ Q (.bl (f (kvs.length == kws.length && r))) H
theorem dic_eq (hu : X.A.units + 65 < cLine) : OpR X (compareOp .Eq) (rDicB X.K id) := by
  intro pins s σ H x y v u Q I rx ry h
  obtain ⟨a, b, kvs, kws, r, rfl, rfl, ha, hb, hh, q⟩ := h
  obtain rfl : v = Value.ref a := rx
  obtain rfl : u = Value.ref b := ry
  obtain ⟨z1, n1, vs, rel1, dd1⟩ := dk_rd I.hok ha
  obtain ⟨z2, n2, ws, rel2, dd2⟩ := dk_rd I.hok hb
  have hi : X.A.in1.units + 64 < cLine := by
    have : X.A.in1.units = X.A.units + 1 := rfl
    omega
  refine PySem.W.keq_eq n1 n2 dd1 dd2 (by omega) (fun _ => hh.keq I rel2 hi rel1) ⟨.bl _, H, I, rfl, ?_⟩
  rw [← rel1.length, ← rel2.length]
  exact q
theorem dic_ne (hu : X.A.units + 65 < cLine) : OpR X (compareOp .NotEq) (rDicB X.K (!·)) := by
  intro pins s σ H x y v u Q I rx ry h
  obtain ⟨a, b, kvs, kws, r, rfl, rfl, ha, hb, hh, q⟩ := h
  obtain rfl : v = Value.ref a := rx
  obtain rfl : u = Value.ref b := ry
  obtain ⟨z1, n1, vs, rel1, dd1⟩ := dk_rd I.hok ha
  obtain ⟨z2, n2, ws, rel2, dd2⟩ := dk_rd I.hok hb
  have hi : X.A.in1.units + 64 < cLine := by
    have : X.A.in1.units = X.A.units + 1 := rfl
    omega
  refine PySem.W.keq_ne n1 n2 dd1 dd2 (by omega) (fun _ => hh.keq I rel2 hi rel1) ⟨.bl _, H, I, rfl, ?_⟩
  rw [← rel1.length, ← rel2.length]
  exact q
theorem hits_ok {K : PySem.W.Frag} {L : Addr → Prop} {H : Hp} {js : List Key} {es : List D} {ws : List V} (hj : js.length = es.length) (rw' : Reps K L H es ws) (hf : fitsAll 64 es = true) : ∀ (ks : List Key) (ds : List D) (vs : List V), ks.length = ds.length → Reps K L H ds vs → fitsAll 64 ds = true → DHits K H (js.zip ws) (ks.zip vs) (hitsD js es ks ds)
  | [], [], vs, _, r, _ => by rw [r.invN]; exact .nil
  | [], _ :: _, vs, h, _, _ => by simp at h
  | _ :: _, [], vs, h, _, _ => by simp at h
  | k :: ks, d :: ds, vs, h, r, hf' => by
    obtain ⟨v, rs, rfl, h1, h2⟩ := r.inv
    simp only [fitsAll, Bool.and_eq_true] at hf'
    have ih := hits_ok hj rw' hf ks ds rs (by simpa using h) h2 hf'.2
    have hg := val_get (k := k) hj rw'
    simp only [hitsD, List.zip_cons_cons]
    cases e : dget js es k with
    | none =>
      rw [e] at hg
      simp only [Bool.false_and]
      exact .miss hg
    | some e' =>
      rw [e] at hg
      obtain ⟨w, hw, rw2⟩ := hg
      have fe : fits 64 e' = true := by
        have : ∀ (es : List D) (js : List Key), fitsAll 64 es = true → dget js es k = some e' → fits 64 e' = true := by
          intro es
          induction es with
          | nil => intro js _ h; cases js <;> simp [dget] at h
          | cons x es ih =>
            intro js hf h
            simp only [fitsAll, Bool.and_eq_true] at hf
            cases js with
            | nil => simp [dget] at h
            | cons j js =>
              simp only [dget] at h
              split at h
              · cases h; exact hf.1
              · exact ih js hf.2 h
        exact this es js hf e
      have := DHits.hit (K := K) (H := H) (kws := js.zip ws) hw (Rep.dp 64 d v hf'.1 h1) (Rep.dp 64 e' w fe rw2) (fits_shaped hf'.1) (fits_shaped fe) ih
      rw [eqv_py 64 64 d e' hf'.1 fe] at this
      exact this
theorem dicEq_ok {K : PySem.W.Frag} {L : Addr → Prop} {H : Hp} {a b : D} {x y : V} {k : Bool} (h : dicEq a b = some k) (ra : SeeR K L H a x) (rb : SeeR K L H b y) : ∃ a b kvs kws r, x = .ref a ∧ y = .ref b ∧ Rd H a (.dK kvs) ∧ Rd H b (.dK kws) ∧ DHits K H kws kvs r ∧ k = (kvs.length == kws.length && r) := by
  cases a <;> try (simp only [dicEq, reduceCtorEq] at h; done)
  cases b <;> try (simp only [dicEq, reduceCtorEq] at h; done)
  rename_i ks ds js es
  simp only [dicEq] at h
  split at h
  case isFalse => cases h
  case isTrue hf =>
    rw [Bool.and_eq_true] at hf
    cases h
    obtain ⟨p, vs, rfl, tp, l1, rp⟩ := ra
    obtain ⟨q, ws, rfl, tq, l2, rq⟩ := rb
    refine ⟨p, q, _, _, _, rfl, rfl, tp, tq, hits_ok l2 rq hf.2 ks ds vs l1 rp hf.1, ?_⟩
    rw [List.length_zip, List.length_zip, rp.len, rq.len, ← l1, ← l2, Nat.min_self, Nat.min_self]
theorem o2_eq : Cmp2 X.K opEq (fun x y H Q => (rEq x y H Q ∨ (rEqD X.K x y H Q ∨ rLens X.K false x y H Q)) ∨ rDicB X.K id x y H Q) := by
  intro Acc ι μ H a b x y e Q S ra rb h q
  simp only [opEq] at h
  cases h0 : opEq0 a b with
  | some k =>
    rw [h0] at h
    exact .inl (o2_eq0 Acc ι μ H a b x y e Q S ra rb (by simp only [h0]; exact h) q)
  | none =>
    rw [h0] at h
    simp only at h
    cases hd : dicEq a b with
    | none => rw [hd] at h; cases h
    | some k =>
      rw [hd] at h
      cases h
      obtain ⟨p, p', kvs, kws, r, e1, e2, t1, t2, hh, ek⟩ := dicEq_ok hd ra rb
      refine .inr ⟨p, p', kvs, kws, r, e1, e2, t1, t2, hh, ?_⟩
      show Q (.bl (kvs.length == kws.length && r)) H
      rw [← ek]
      exact fin_dat S q rep_bl
theorem o2_ne : Cmp2 X.K (fun a b => (opEq a b).map (!·)) (fun x y H Q => (rNe x y H Q ∨ (rNeD X.K x y H Q ∨ rLens X.K true x y H Q)) ∨ rDicB X.K (!·) x y H Q) := by
  intro Acc ι μ H a b x y e Q S ra rb h q
  simp only [opEq] at h
  cases h0 : opEq0 a b with
  | some k =>
    rw [h0] at h
    exact .inl (o2_ne0 Acc ι μ H a b x y e Q S ra rb (by simp only [h0]; exact h) q)
  | none =>
    rw [h0] at h
    simp only at h
    cases hd : dicEq a b with
    | none => rw [hd] at h; cases h
    | some k =>
      rw [hd] at h
      cases h
      obtain ⟨p, p', kvs, kws, r, e1, e2, t1, t2, hh, ek⟩ := dicEq_ok hd ra rb
      refine .inr ⟨p, p', kvs, kws, r, e1, e2, t1, t2, hh, ?_⟩
      show Q (.bl (!(kvs.length == kws.length && r))) H
      rw [← ek]
      exact fin_dat S q rep_bl
end
/-- all comparisons -/
def opCmp (op : CmpOp) (a b : D) : Option Bool := match op with
  | .Eq => opEq a b
  | .NotEq => (opEq a b).map (!·)
  | .Lt => opI (fun i j => decide (i < j)) a b
  | .LtE => opI (fun i j => decide (i ≤ j)) a b
  | .Gt => opI (fun i j => decide (j < i)) a b
  | .GtE => opI (fun i j => decide (j ≤ i)) a b
  | .Is => opIs a b
  | .IsNot => (opIs a b).map (!·)
  | .In => opIn a b
  | .NotIn => (opIn a b).map (!·)
theorem cmp_ok (X : Cx) (hu : X.A.units + 65 < cLine) (op : CmpOp) : ∃ r, OpR X (compareOp op) r ∧ Cmp2 X.K (opCmp op) r := by
  cases op with
  | Eq => exact ⟨_, OpR.or (OpR.or op_eq (OpR.or (op_eqD (by omega)) (len_eq (by omega)))) (dic_eq (by omega)), o2_eq⟩
  | NotEq => exact ⟨_, OpR.or (OpR.or op_ne (OpR.or (op_neD (by omega)) (len_ne (by omega)))) (dic_ne (by omega)), o2_ne⟩
  | Lt => exact ⟨_, op_lt, o2_int⟩
  | LtE => exact ⟨_, op_le, o2_int⟩
  | Gt => exact ⟨_, op_gt, o2_int⟩
  | GtE => exact ⟨_, op_ge, o2_int⟩
  | Is => exact ⟨_, OpR.or op_isN op_is2, o2_is⟩
  | IsNot => exact ⟨_, OpR.or op_notN op_not2, o2_isnot⟩
  | In => exact ⟨_, or_in hu, o2_in⟩
  | NotIn => exact ⟨_, or_notIn hu, o2_notin⟩
end VM
/-! Truth, and/or/not, conditionals, chains; subscripts and slices. -/
namespace VM
open PySem L2 PyProof.Rows

/-! ### 1. truth -/
def tru (d : D) : Option Bool := match d with
  | .non => some false
  | .bl b => some b
  | .int i => some (i != 0)
  | .str x => if x.length ≤ LIM then some ((x.length : Int) != 0) else none
  | .tup ds => some (!ds.isEmpty)
  | .lst ds => some (!ds.isEmpty)
  | .dic _ _ => none
  | .scr ns => some (!ns.isEmpty)
theorem tru_ok' {K : PySem.W.Frag} {L : Addr → Prop} {H : Hp} {d : D} {v : V} {k : Bool} (r : SeeR K L H d v) (h : tru d = some k) : TruV K v H k := by
  have emp : ∀ {ds : List D} {vs : List V}, Reps K L H ds vs → (!ds.isEmpty) = !vs.isEmpty := fun {ds vs} r => by
    cases ds with
    | nil => rw [r.invN]; rfl
    | cons d ds => obtain ⟨v, rs, rfl, _⟩ := r.inv; rfl
  cases d with
  | non => cases h; rw [seeN r]; rfl
  | bl b => cases h; rw [seeB r]; rfl
  | int i => cases h; rw [seeI r]; rfl
  | str x =>
    simp only [tru] at h
    split at h
    · rename_i hl
      cases h
      rw [seeS r]
      exact ⟨lim_ok hl, rfl⟩
    · cases h
  | tup ds =>
    cases h
    obtain ⟨a, vs, rfl, t, r⟩ := seeT r
    exact .inr (.inl ⟨vs, t.sq, emp r⟩)
  | lst ds =>
    cases h
    obtain ⟨a, vs, rfl, t, r⟩ := r
    exact .inl ⟨vs, SqL.of t, emp r⟩
  | dic ks ds => cases h
  | scr ns =>
    cases h
    obtain ⟨a, rfl, t⟩ := (by simpa only [SeeR, Rep] using r : ∃ a, v = .ref a ∧ LstN K L H a (ns.map V.int))
    refine .inl ⟨_, t.sq, ?_⟩
    cases ns <;> rfl
def truR (a : EV) (μ : Sto) : Res Bool := match a.see μ with
  | some d => match tru d with
    | some k => .ok k μ
    | none => .bad
  | none => .bad
def bTru (f : SE) : SB := fun F ρ μ => (f F ρ μ).bind truR
section
variable {K : PySem.W.Frag} {XC : Nat → Addr} {W : WX} {Acc : Addr → Prop} {ι : List Addr} {μ μ0 : Sto} {H H0 : Hp} {σ : L2.St}
theorem truR_ok {a : EV} {x : V} {Q : Bool → Hp → Prop} (t : Stp K Acc ι μ0 H0 ι μ H) (ra : EvR K (Liv Acc μ ι) ι H0 H a x) (h : wp relB K XC W Acc ι μ0 H0 σ (truR a μ) Q) : ∃ k, TruV K x H k ∧ Q k H := by
  unfold truR at h
  cases ea : a.see μ with
  | none => rw [ea] at h; exact h.elim
  | some d =>
    rw [ea] at h
    simp only at h
    cases et : tru d with
    | none => rw [et] at h; exact h.elim
    | some k =>
      rw [et] at h
      exact ⟨k, tru_ok' (see_ok t.sim ra ea) et, h k H t rfl⟩
end
section
variable {X : Cx} {XC : Nat → Addr} {F : Fns} {W : WX} {a b c : Expr} {rest : List Expr} {fa fb fc : SE} {ga gb gc : SB} {pos : Pos}
theorem ct_tru (ha : PE X a (rdE X.K XC F W fa)) (he : ∀ whole, isTrue a X.env whole = (do let v ← whole; standAt a.pos; holding [v] (truthy v))) : PT X a (rdB X.K XC F W (bTru fa)) :=
  PTimp (pt_truth ha he) fun σ H Q ⟨Acc, ι, ρ, μ, S, E, h⟩ => by
    refine rd.bind (.refl S) E h fun v μ1 x H1 _ t1 r1 h1 => ?_
    exact truR_ok t1 r1.1 h1
def bNot (g : SB) : SB := fun F ρ μ => (g F ρ μ).bind fun k μ1 => .ok (!k) μ1
theorem ct_not (ha : PT X a (rdB X.K XC F W ga)) : PT X (.UnaryOp .Not a pos) (rdB X.K XC F W (bNot ga)) :=
  PTimp (pt_not ha) fun σ H Q ⟨Acc, ι, ρ, μ, S, E, h⟩ => by
    refine rd.bind (.refl S) E h fun v μ1 x H1 _ t1 r1 h1 => ?_
    have e : x = v := r1
    subst e
    exact h1 _ H1 t1 rfl
def bAnd (f g : SB) : SB := fun F ρ μ => (f F ρ μ).bind fun k μ1 => match k with
  | true => g F ρ μ1
  | false => .ok false μ1
def bOr (f g : SB) : SB := fun F ρ μ => (f F ρ μ).bind fun k μ1 => match k with
  | true => .ok true μ1
  | false => g F ρ μ1
theorem cw_and1 (ha : PT X a (rdB X.K XC F W ga)) : PW X (.BoolOp .And [a] pos) (rdB X.K XC F W ga) := pw_and1 ha
theorem cw_or1 (ha : PT X a (rdB X.K XC F W ga)) : PW X (.BoolOp .Or [a] pos) (rdB X.K XC F W ga) := pw_or1 ha
theorem cw_and (ha : PT X a (rdB X.K XC F W ga)) (hb : PW X (.BoolOp .And (b :: rest) pos) (rdB X.K XC F W gb)) : PW X (.BoolOp .And (a :: b :: rest) pos) (rdB X.K XC F W (bAnd ga gb)) :=
  PWimp (pw_and ha hb) fun σ H Q ⟨Acc, ι, ρ, μ, S, E, h⟩ => by
    refine rd.bind (.refl S) E h fun k μ1 x H1 _ t1 r1 h1 => ?_
    have e : x = k := r1
    subst e
    cases x with
    | true => exact rd.last t1 (E.mv t1 S) h1
    | false => exact h1 false H1 t1 rfl
theorem cw_or (ha : PT X a (rdB X.K XC F W ga)) (hb : PW X (.BoolOp .Or (b :: rest) pos) (rdB X.K XC F W gb)) : PW X (.BoolOp .Or (a :: b :: rest) pos) (rdB X.K XC F W (bOr ga gb)) :=
  PWimp (pw_or ha hb) fun σ H Q ⟨Acc, ι, ρ, μ, S, E, h⟩ => by
    refine rd.bind (.refl S) E h fun k μ1 x H1 _ t1 r1 h1 => ?_
    have e : x = k := r1
    subst e
    cases x with
    | true => exact h1 true H1 t1 rfl
    | false => exact rd.last t1 (E.mv t1 S) h1
/-! ### 2. and, or, not as values; a if t else b -/
def eAnd (f g : SE) : SE := fun F ρ μ => (f F ρ μ).bind fun v μ1 => (truR v μ1).bind fun k μ2 => match k with
  | true => g F ρ μ2
  | false => .ok v μ2
def eOr (f g : SE) : SE := fun F ρ μ => (f F ρ μ).bind fun v μ1 => (truR v μ1).bind fun k μ2 => match k with
  | true => .ok v μ2
  | false => g F ρ μ2
theorem truR_bind {γ δ : Type} {K : PySem.W.Frag} {Rel2 : (Addr → Prop) → Sto → List Addr → Hp → Hp → γ → δ → Prop} {Acc : Addr → Prop} {ι : List Addr} {μ μ0 : Sto} {H H0 : Hp} {σ : L2.St} {v : EV} {x : V} {g : Bool → Sto → Res γ} {Q : δ → Hp → Prop} (t : Stp K Acc ι μ0 H0 ι μ H) (ra : EvR K (Liv Acc μ ι) ι H0 H v x)
    (h : wp Rel2 K XC W Acc ι μ0 H0 σ ((truR v μ).bind g) Q) : ∃ k, TruV K x H k ∧ wp Rel2 K XC W Acc ι μ0 H0 σ (g k μ) Q := by
  cases ea : v.see μ with
  | none => simp only [truR, ea, Res.bind] at h; exact h.elim
  | some d =>
    cases et : tru d with
    | none => simp only [truR, ea, et, Res.bind] at h; exact h.elim
    | some k =>
      simp only [truR, ea, et, Res.bind] at h
      exact ⟨k, tru_ok' (see_ok t.sim ra ea) et, h⟩
theorem c_and (ha : PE X a (rdE X.K XC F W fa)) (hb : PE X (.BoolOp .And (b :: rest) pos) (rdE X.K XC F W fb)) : PE X (.BoolOp .And (a :: b :: rest) pos) (rdE X.K XC F W (eAnd fa fb)) :=
  PEimp (pe_andT ha hb) fun σ H Q ⟨Acc, ι, ρ, μ, S, E, h⟩ => by
    refine rd.bind (.refl S) E h fun v μ1 x H1 _ t1 r1 h1 => ?_
    obtain ⟨k, e, h2⟩ := truR_bind t1 r1.1 h1
    refine ⟨k, e, ?_⟩
    cases k with
    | true => exact rd.last t1 (E.mv t1 S) h2
    | false => exact h2 x H1 t1 r1
theorem c_or (ha : PE X a (rdE X.K XC F W fa)) (hb : PE X (.BoolOp .Or (b :: rest) pos) (rdE X.K XC F W fb)) : PE X (.BoolOp .Or (a :: b :: rest) pos) (rdE X.K XC F W (eOr fa fb)) :=
  PEimp (pe_orT ha hb) fun σ H Q ⟨Acc, ι, ρ, μ, S, E, h⟩ => by
    refine rd.bind (.refl S) E h fun v μ1 x H1 _ t1 r1 h1 => ?_
    obtain ⟨k, e, h2⟩ := truR_bind t1 r1.1 h1
    refine ⟨k, e, ?_⟩
    cases k with
    | true => exact h2 x H1 t1 r1
    | false => exact rd.last t1 (E.mv t1 S) h2
def eNot (f : SE) : SE := fun F ρ μ => (f F ρ μ).bind fun v μ1 => (truR v μ1).bind fun k μ2 => .ok (.dat (.bl (!k))) μ2
theorem c_not (ha : PE X a (rdE X.K XC F W fa)) : PE X (.UnaryOp .Not a pos) (rdE X.K XC F W (eNot fa)) :=
  PEimp (pe_notT ha) fun σ H Q ⟨Acc, ι, ρ, μ, S, E, h⟩ => by
    refine rd.bind (.refl S) E h fun v μ1 x H1 _ t1 r1 h1 => ?_
    obtain ⟨k, e, h2⟩ := truR_bind t1 r1.1 h1
    exact ⟨k, e, h2 (.bl (!k)) H1 t1 ⟨rfl, trivial⟩⟩
def eNeg (f : SE) : SE := fun F ρ μ => (f F ρ μ).bind fun v μ1 => match v with
  | .dat (.int i) => .ok (.dat (.int (-i))) μ1
  | _ => .bad
theorem c_neg (ha : PE X a (rdE X.K XC F W fa)) : PE X (.UnaryOp .USub a pos) (rdE X.K XC F W (eNeg fa)) :=
  PEimp (pe_un un_neg ha) fun σ H Q ⟨Acc, ι, ρ, μ, S, E, h⟩ => by
    refine rd.bind (.refl S) E h fun v μ1 x H1 _ t1 r1 h1 => ?_
    split at h1
    · rename_i i _
      have e : x = .int i := r1.1
      subst e
      exact ⟨i, rfl, h1 (.int (-i)) H1 t1 ⟨rfl, trivial⟩⟩
    · exact h1.elim
def eIf (t : SB) (f g : SE) : SE := fun F ρ μ => (t F ρ μ).bind fun k μ1 => match k with
  | true => f F ρ μ1
  | false => g F ρ μ1
theorem c_if (ht : PT X c (rdB X.K XC F W gc)) (ha : PE X a (rdE X.K XC F W fa)) (hb : PE X b (rdE X.K XC F W fb)) : PE X (.IfExp c a b pos) (rdE X.K XC F W (eIf gc fa fb)) :=
  PEimp (pe_ifExp ht ha hb) fun σ H Q ⟨Acc, ι, ρ, μ, S, E, h⟩ => by
    refine rd.bind (.refl S) E h fun k μ1 x H1 _ t1 r1 h1 => ?_
    have e : x = k := r1
    subst e
    cases x with
    | true => exact rd.last t1 (E.mv t1 S) h1
    | false => exact rd.last t1 (E.mv t1 S) h1
def bIf (t f g : SB) : SB := fun F ρ μ => (t F ρ μ).bind fun k μ1 => match k with
  | true => f F ρ μ1
  | false => g F ρ μ1
theorem ct_if (ht : PT X c (rdB X.K XC F W gc)) (ha : PT X a (rdB X.K XC F W ga)) (hb : PT X b (rdB X.K XC F W gb)) : PT X (.IfExp c a b pos) (rdB X.K XC F W (bIf gc ga gb)) := by
  refine ⟨fun pins s σ H Q I ⟨Acc, ι, ρ, μ, S, E, h⟩ => ?_⟩
  have h' : rdB X.K XC F W gc σ H fun k H1 => if k = true then rdB X.K XC F W ga σ H1 Q else rdB X.K XC F W gb σ H1 Q := by
    refine rd.bind (.refl S) E h fun k μ1 x H1 _ t1 r1 h1 => ?_
    have e : x = k := r1
    subst e
    cases x with
    | true => exact rd.last t1 (E.mv t1 S) h1
    | false => exact rd.last t1 (E.mv t1 S) h1
  refine PyProof.Rows.isTrue_IfExp (thn (ht.run pins s σ H _ I h') fun d s1 ⟨H1, I1, q1⟩ => ?_)
  cases d with
  | true => exact ha.run pins s1 σ H1 Q I1 q1
  | false => exact hb.run pins s1 σ H1 Q I1 q1
end

/-! ### 3. a op b op' c -/
def eChain (f g : D → D → Option Bool) (fa fb fc : SE) : SE := fun F ρ μ => (fa F ρ μ).bind fun a μ1 => (fb F ρ μ1).bind fun b μ2 => (lift2B f a b μ2).bind fun k μ3 => match k with
  | true => (fc F ρ μ3).bind fun c μ4 => lift2 (fun x y => (g x y).map fun k => .dat (.bl k)) b c μ4
  | false => .ok (.dat (.bl false)) μ3
def bChain (f g : D → D → Option Bool) (fa fb fc : SE) : SB := fun F ρ μ => (fa F ρ μ).bind fun a μ1 => (fb F ρ μ1).bind fun b μ2 => (lift2B f a b μ2).bind fun k μ3 => match k with
  | true => (fc F ρ μ3).bind fun c μ4 => lift2B g b c μ4
  | false => .ok false μ3
section
variable {K : PySem.W.Frag} {XC : Nat → Addr} {W : WX} {Acc : Addr → Prop} {ι : List Addr} {μ μ0 : Sto} {H H0 : Hp} {σ : L2.St}
theorem lift2B_bind {γ δ : Type} {Rel2 : (Addr → Prop) → Sto → List Addr → Hp → Hp → γ → δ → Prop} {f : D → D → Option Bool} {r : R2} {a b : EV} {x y : V} {g : Bool → Sto → Res γ} {Q : δ → Hp → Prop} {P : V → Hp → Prop} (ho : Cmp2 K f r) (t : Stp K Acc ι μ0 H0 ι μ H)
    (ra : EvR K (Liv Acc μ ι) ι H0 H a x) (rb : EvR K (Liv Acc μ ι) ι H0 H b y) (h : wp Rel2 K XC W Acc ι μ0 H0 σ ((lift2B f a b μ).bind g) Q)
    (k : ∀ c H', Stp K Acc ι μ H ι μ H' → wp Rel2 K XC W Acc ι μ0 H0 σ (g c μ) Q → P (.bl c) H') : r x y H P := by
  cases ea : a.see μ with
  | none => simp only [lift2B, ea, Res.bind] at h; exact h.elim
  | some da =>
    cases eb : b.see μ with
    | none => simp only [lift2B, ea, eb, Res.bind] at h; exact h.elim
    | some db =>
      cases ef : f da db with
      | none => simp only [lift2B, ea, eb, ef, Res.bind] at h; exact h.elim
      | some e =>
        simp only [lift2B, ea, eb, ef, Res.bind] at h
        exact ho Acc ι μ H da db x y (.dat (.bl e)) _ t.sim (see_ok t.sim ra ea) (see_ok t.sim rb eb) (by show Option.map _ (f da db) = _; rw [ef]; rfl) fun v H' t' rv => by
          have e' : v = .bl e := rv.1
          subst e'
          exact k e H' t' h
end
section
variable {X : Cx} {XC : Nat → Addr} {F : Fns} {W : WX} {a b c : Expr} {fa fb fc : SE} {pos : Pos} {op op' : CmpOp} {f g : D → D → Option Bool} {r r' : R2}
theorem c_chain (hr : OpR X (compareOp op) r) (ho : Cmp2 X.K f r) (hr' : OpR X (compareOp op') r') (ho' : Cmp2 X.K g r') (ha : PE X a (rdE X.K XC F W fa)) (hb : PE X b (rdE X.K XC F W fb)) (hc : PE X c (rdE X.K XC F W fc)) (hm : lastMarks [op, op'] [b, c] = false) :
    PE X (.Compare a [op, op'] [b, c] pos) (rdE X.K XC F W (eChain f g fa fb fc)) :=
  PEimp (pe_chain hr hr' ha hb hc hm) fun σ H Q ⟨Acc, ι, ρ, μ, S, E, h⟩ => by
    refine rd.bind (.refl S) E h fun va μ1 x H1 _ t1 r1 h1 => ?_
    refine rd.bind t1 (E.mv t1 S) h1 fun vb μ2 y H2 _ t2 r2 h2 => ?_
    refine lift2B_bind ho (t1.trans t2) (EvR.mv t1 S t2 r1.1 rfl) (EvR.back t1 r2.1) h2 fun k H3 t3 h3 => ⟨k, rfl, ?_⟩
    have t03 := (t1.trans t2).trans t3
    cases k with
    | false => exact h3 (.bl false) H3 t03 ⟨rfl, trivial⟩
    | true =>
      refine rd.bind t03 (E.mv t03 S) h3 fun vc μ4 z H4 _ t4 r4 h4 => ?_
      exact lift2_ok ho' S (t03.trans t4) (EvR.back t1 (EvR.mv t2 t1.sim (t3.trans t4) r2.1 rfl)) (EvR.back t03 r4.1) h4
theorem ct_chain (hr : OpR X (compareOp op) r) (ho : Cmp2 X.K f r) (hr' : OpR X (compareOp op') r') (ho' : Cmp2 X.K g r') (ha : PE X a (rdE X.K XC F W fa)) (hb : PE X b (rdE X.K XC F W fb)) (hc : PE X c (rdE X.K XC F W fc)) (hm : lastMarks [op, op'] [b, c] = false) :
    PT X (.Compare a [op, op'] [b, c] pos) (rdB X.K XC F W (bChain f g fa fb fc)) :=
  PTimp (pt_chain hr hr' ha hb hc hm) fun σ H Q ⟨Acc, ι, ρ, μ, S, E, h⟩ => by
    refine rd.bind (.refl S) E h fun va μ1 x H1 _ t1 r1 h1 => ?_
    refine rd.bind t1 (E.mv t1 S) h1 fun vb μ2 y H2 _ t2 r2 h2 => ?_
    refine lift2B_bind ho (t1.trans t2) (EvR.mv t1 S t2 r1.1 rfl) (EvR.back t1 r2.1) h2 fun k H3 t3 h3 => ⟨k, rfl, ?_⟩
    have t03 := (t1.trans t2).trans t3
    cases k with
    | false => exact ⟨false, rfl, h3 false H3 t03 rfl⟩
    | true =>
      refine rd.bind t03 (E.mv t03 S) h3 fun vc μ4 z H4 _ t4 r4 h4 => ?_
      exact lift2B_ok ho' S (t03.trans t4) (EvR.back t1 (EvR.mv t2 t1.sim (t3.trans t4) r2.1 rfl)) (EvR.back t03 r4.1) h4
end

/-! ### 4. subscripts -/
def opIx (a b : D) : Option EV := match a, b with
  | .lst ds, .int i => (atI ds i).map .dat
  | .tup ds, .int i => (atI ds i).map .dat
  | .str x, .int i => if x.length ≤ LIM then (atI x.cps.toList i).map fun c => .dat (.str ⟨#[c]⟩) else none
  | .scr ns, .int i => (atI ns i).map fun n => .dat (.int n)
  | .dic ks ds, b => match b.key with
    | some k => (dget ks ds k).map .dat
    | none => none
  | _, _ => none
section
variable {K : PySem.W.Frag} {L : Addr → Prop} {H : Hp}
theorem Reps.atI {ds : List D} {vs : List V} {i : Int} {d : D} (r : Reps K L H ds vs) (h : L2.atI ds i = some d) : ∃ v, L2.atI vs i = some v ∧ Rep K L H d v := by
  unfold L2.atI at h ⊢
  rw [r.len]
  cases e : ixN ds.length i with
  | none => rw [e] at h; cases h
  | some j =>
    rw [e] at h
    exact r.get h
theorem atI_map {α β : Type} {f : α → β} {xs : List α} {i : Int} {a : α} (h : L2.atI xs i = some a) : L2.atI (xs.map f) i = some (f a) := by
  unfold L2.atI at h ⊢
  rw [List.length_map]
  cases e : ixN xs.length i with
  | none => rw [e] at h; cases h
  | some j =>
    rw [e] at h
    show (xs.map f)[j]? = _
    rw [List.getElem?_map, (show xs[j]? = some a from h)] <;> rfl
end
def rIxD : R2 := fun x y H Q => ∃ a v, x = .ref a ∧ DGet H a y (some v) ∧ Q v H
section
variable {X : Cx}
theorem ix_dic (hu : X.A.units + 1 < cLine) : IxR X rIxD := by
  intro value slice pins s σ H x y v u Q I rx ry h hs
  obtain ⟨a, w', rfl, g, q⟩ := h
  cases (show v = Value.ref a from rx)
  exact tail_any (dict_typeIs I g) PySem.F.slot_dict_getitem.lookup (d_getItem hu I g ry fun w2 s' I' rw' => ⟨w', H, I', rw', q⟩) hs
theorem or_ix (hu : X.A.units + 1 < cLine) : IxR X (fun x y H Q => rIx X.K x y H Q ∨ rIxD x y H Q) := IxR.or ix_seq (ix_dic hu)
theorem o2_ix : Op2 X.K opIx (fun x y H Q => rIx X.K x y H Q ∨ rIxD x y H Q) := by
  intro Acc ι μ H a b x y e Q S ra rb h q
  cases a <;> simp only [opIx, reduceCtorEq] at h
  · rename_i z
    cases b <;> simp only [reduceCtorEq] at h
    rename_i i
    split at h
    · rename_i hl
      cases hc : atI z.cps.toList i with
      | none => rw [hc] at h; cases h
      | some c =>
        rw [hc] at h; cases h
        exact .inl (.inr (.inr ⟨z, i, c, seeS ra, seeI rb, lim_ok hl, hc, fin_dat S q rep_str⟩))
    · cases h
  · rename_i ds
    cases b <;> simp only [reduceCtorEq] at h
    rename_i i
    obtain ⟨p, vs, rfl, tp, rp⟩ := seeT ra
    cases hc : atI ds i with
    | none => rw [hc] at h; cases h
    | some c =>
      rw [hc] at h; cases h
      obtain ⟨v, e1, rv⟩ := rp.atI hc
      exact .inl (.inr (.inl ⟨p, vs, i, v, rfl, seeI rb, tp.sq, e1, fin_dat S q rv⟩))
  · rename_i ds
    cases b <;> simp only [reduceCtorEq] at h
    rename_i i
    obtain ⟨p, vs, rfl, tp, rp⟩ := seeL ra
    cases hc : atI ds i with
    | none => rw [hc] at h; cases h
    | some c =>
      rw [hc] at h; cases h
      obtain ⟨v, e1, rv⟩ := rp.atI hc
      exact .inl (.inl ⟨p, vs, i, v, rfl, seeI rb, SqL.of tp, e1, fin_dat S q rv⟩)
  · rename_i ks ds
    cases hk : b.key with
    | none => rw [hk] at h; cases h
    | some k =>
      rw [hk] at h
      simp only at h
      obtain ⟨p, vs, rfl, tp, hl, rp⟩ := ra
      have hg := val_get (k := k) hl rp
      cases hd : dget ks ds k with
      | none => rw [hd] at h; cases h
      | some d =>
        rw [hd] at h hg; cases h
        obtain ⟨v, e1, rv⟩ := hg
        exact .inr ⟨p, v, rfl, by rw [key_rep hk rb, ← e1]; exact (.inl ⟨_, _, tp, rfl, rfl⟩), fin_dat S q rv⟩
  · rename_i ns
    cases b <;> simp only [reduceCtorEq] at h
    rename_i i
    obtain ⟨p, rfl, tp⟩ := (by simpa only [SeeR, Rep] using ra : ∃ a, x = .ref a ∧ LstN X.K (Liv Acc μ ι) H a (ns.map V.int))
    cases hc : atI ns i with
    | none => rw [hc] at h; cases h
    | some c =>
      rw [hc] at h; cases h
      exact .inl (.inl ⟨p, _, i, .int c, rfl, seeI rb, tp.sq, atI_map hc, fin_dat S q rep_int⟩)
end
def eIx (f g : SE) : SE := fun F ρ μ => (f F ρ μ).bind fun a μ1 => (g F ρ μ1).bind fun b μ2 => lift2 opIx a b μ2
section
variable {X : Cx} {XC : Nat → Addr} {F : Fns} {W : WX} {a b : Expr} {fa fb : SE} {pos : Pos}
theorem c_ix (hu : X.A.units + 1 < cLine) (ha : PE X a (rdE X.K XC F W fa)) (hb : PE X b (rdE X.K XC F W fb)) (hs : PlainIx b) : PE X (.Subscript a b pos) (rdE X.K XC F W (eIx fa fb)) :=
  PEimp (pe_ix (or_ix hu) ha hb hs) fun _ _ _ h => two_ok o2_ix h
end

/-! ### 5. slices -/
def cutD (ds : List D) (lo hi : Option Int) : List D := (ds.drop (HT.sIx ds.length 0 lo)).take (HT.sIx ds.length ds.length hi - HT.sIx ds.length 0 lo)
def opSl (a : D) (lo hi : Option Int) : Option EV := match a with
  | .lst ds => some (.new (.lst (cutD ds lo hi)))
  | .tup ds => some (.dat (.tup (cutD ds lo hi)))
  | .str z => if z.length ≤ LIM then some (.dat (.str (cutS z lo hi))) else none
  | _ => none
theorem Reps.cut {K : PySem.W.Frag} {L : Addr → Prop} {H : Hp} {ds : List D} {vs : List V} (r : Reps K L H ds vs) (lo hi : Option Int) : Reps K L H (cutD ds lo hi) (cutV vs lo hi) := by
  unfold cutD cutV
  rw [r.len]
  exact (r.drop _).take _
def oNone : SOp := fun _ _ μ => .ok none μ
def oSome (f : SE) : SOp := fun F ρ μ => (f F ρ μ).bind fun v μ1 => match v with
  | .dat (.int i) => .ok (some i) μ1
  | _ => .bad
def slR (lo hi : Option Int) (a : EV) (μ : Sto) : Res EV := match a.see μ with
  | some d => match opSl d lo hi with
    | some e => .ok e μ
    | none => .bad
  | none => .bad
def eSl (f : SE) (l h : SOp) : SE := fun F ρ μ => (f F ρ μ).bind fun a μ1 => (l F ρ μ1).bind fun lo μ2 => (h F ρ μ2).bind fun hi μ3 => slR lo hi a μ3
section
variable {X : Cx} {XC : Nat → Addr} {F : Fns} {W : WX} {a e : Expr} {lo hi : Option Expr} {fa : SE} {fl fh : SOp} {pos p2 : Pos}
theorem POimp {e : Option Expr} {t t' : TO} (h : PO X e t) (i : ∀ σ H Q, t' σ H Q → t σ H Q) : PO X e t' := ⟨fun pins s σ H Q I q => h.run pins s σ H Q I (i σ H Q q)⟩
theorem co_none : PO X none (rdO X.K XC F W oNone) := POimp po_none fun σ H Q ⟨Acc, ι, ρ, μ, S, E, h⟩ => h none H (.refl S) rfl
theorem co_some (he : PE X e (rdE X.K XC F W fa)) : PO X (some e) (rdO X.K XC F W (oSome fa)) := POimp (po_some he) fun σ H Q ⟨Acc, ι, ρ, μ, S, E, h⟩ => by
  refine rd.bind (.refl S) E h fun v μ1 x H1 _ t1 r1 h1 => ?_
  split at h1
  · rename_i i _
    exact ⟨i, r1.1, h1 (some i) H1 t1 rfl⟩
  · exact h1.elim
def rSlAll (K : PySem.W.Frag) : V → Option Int → Option Int → Hp → VK → Prop := fun x lo hi H Q => (rSlL K x lo hi H Q ∨ rSlA K x lo hi H Q) ∨ rSlS x lo hi H Q
theorem or_sl : SlR X (rSlAll X.K) := SlR.or (SlR.or sl_list sl_tupA) sl_str
theorem slR_ok {K : PySem.W.Frag} {Acc : Addr → Prop} {ι : List Addr} {μ μ0 : Sto} {H H0 : Hp} {σ : L2.St} {v : EV} {x : V} {lo hi : Option Int} {Q : VK} (t : Stp K Acc ι μ0 H0 ι μ H) (ra : EvR K (Liv Acc μ ι) ι H0 H v x)
    (h : wp (relE K) K XC W Acc ι μ0 H0 σ (slR lo hi v μ) Q) : rSlAll K x lo hi H Q := by
  unfold slR at h
  cases ea : v.see μ with
  | none => rw [ea] at h; exact h.elim
  | some d =>
    rw [ea] at h
    simp only at h
    have r := see_ok t.sim ra ea
    cases d <;> simp only [opSl] at h
    · exact h.elim
    · exact h.elim
    · exact h.elim
    · rename_i z
      by_cases hl : z.length ≤ LIM
      · rw [if_pos hl] at h
        exact .inr ⟨z, seeS r, lim_ok hl, h (.str (cutS z lo hi)) H t ⟨rfl, trivial⟩⟩
      · rw [if_neg hl] at h; exact h.elim
    · rename_i ds
      obtain ⟨p, vs, rfl, tp, rp⟩ := seeT r
      refine .inl (.inr ⟨p, vs, rfl, tp.sq, fun e => ?_, fun _ p2 n => h (.ref p2) _ (t.trans (t.sim.up n _)) ⟨t.sim.newT n (rp.cut lo hi), trivial⟩⟩)
      refine h (.ref p) H t ⟨?_, trivial⟩
      have ec : cutD ds lo hi = ds := by
        unfold cutD
        rw [← rp.len, e.1, e.2, List.drop_zero, Nat.sub_zero, rp.len, List.take_length]
      show Rep K _ H (.tup (cutD ds lo hi)) (.ref p)
      rw [ec]
      simp only [Rep]
      exact ⟨p, vs, rfl, tp, rp⟩
    · rename_i ds
      obtain ⟨p, vs, rfl, tp, rp⟩ := r
      exact .inl (.inl ⟨p, vs, rfl, SqL.of tp, fun p2 n => h (.ref p2) _ (t.trans (t.sim.up n _)) ⟨⟨p2, rfl, t.back n, t.sim.newL n (rp.cut lo hi)⟩, t.sim.ownN n (rp.cut lo hi)⟩⟩)
    · exact h.elim
    · exact h.elim
theorem c_sl (ha : PE X a (rdE X.K XC F W fa)) (hl : PO X lo (rdO X.K XC F W fl)) (hh : PO X hi (rdO X.K XC F W fh)) : PE X (.Subscript a (.Slice lo hi none p2) pos) (rdE X.K XC F W (eSl fa fl fh)) :=
  PEimp (pe_slice or_sl ha hl hh) fun σ H Q ⟨Acc, ι, ρ, μ, S, E, h⟩ => by
    refine rd.bind (.refl S) E h fun v μ1 x H1 _ t1 r1 h1 => ?_
    refine rd.bind t1 (E.mv t1 S) h1 fun l μ2 y H2 _ t2 r2 h2 => ?_
    have t02 := t1.trans t2
    refine rd.bind t02 (E.mv t02 S) h2 fun u μ3 z H3 _ t3 r3 h3 => ?_
    have e1 : y = l := r2
    have e2 : z = u := r3
    subst e1 e2
    exact slR_ok (t02.trans t3) (EvR.mv t1 S (t2.trans t3) r1.1 rfl) h3
end
end VM
/-! Calls of built-ins. -/
namespace VM
open PySem L2 PyProof.Rows

/-! ### 1. the general form -/
def sees : List EV → Sto → Option (List D)
  | [], _ => some []
  | v :: vs, μ => match v.see μ, sees vs μ with
    | some d, some ds => some (d :: ds)
    | _, _ => none
def SeesR (K : PySem.W.Frag) (L : Addr → Prop) (H : Hp) : List D → List V → Prop
  | [], vs => vs = []
  | d :: ds, vs => ∃ v r, vs = v :: r ∧ SeeR K L H d v ∧ SeesR K L H ds r
theorem sees_ok {K : PySem.W.Frag} {Acc : Addr → Prop} {ι : List Addr} {μ : Sto} {H H0 : Hp} (S : Sim K Acc μ ι H) : ∀ {es : List EV} {ds : List D} {vs : List V}, EvsR K (Liv Acc μ ι) ι H0 H es vs → sees es μ = some ds → SeesR K (Liv Acc μ ι) H ds vs
  | [], ds, vs, r, h => by cases h; exact r
  | e :: es, ds, vs, r, h => by
    obtain ⟨v, rs, rfl, h1, h2⟩ := r
    simp only [sees] at h
    cases ea : e.see μ with
    | none => rw [ea] at h; simp at h
    | some d =>
      cases eb : sees es μ with
      | none => rw [ea, eb] at h; simp at h
      | some ds' =>
        rw [ea, eb] at h
        simp only at h
        cases h
        exact ⟨v, rs, rfl, see_ok S h1 ea, sees_ok S h2 eb⟩
def liftN (f : List D → Option EV) (vs : List EV) (μ : Sto) : Res EV := match sees vs μ with
  | some ds => match f ds with
    | some e => .ok e μ
    | none => .bad
  | none => .bad
def eCb (f : List D → Option EV) (fa : SA) : SE := fun F ρ μ => (fa F ρ μ).bind fun vs μ1 => liftN f vs μ1
/-- what a call on values must give -/
def OpN (K : PySem.W.Frag) (f : List D → Option EV) (r : List V → Hp → VK → Prop) : Prop :=
  ∀ (Acc : Addr → Prop) (ι : List Addr) (μ : Sto) (H : Hp) (ds : List D) (xs : List V) (e : EV) (Q : VK), Sim K Acc μ ι H → SeesR K (Liv Acc μ ι) H ds xs → f ds = some e →
    (∀ v H', Stp K Acc ι μ H ι μ H' → relE K Acc μ ι H H' e v → Q v H') → r xs H Q
section
variable {X : Cx} {XC : Nat → Addr} {F : Fns} {W : WX} {x : Str} {p pos : Pos} {e : Expr} {es : List Expr} {fa : SA} {id T : String} {f : List D → Option EV} {r : List V → Hp → VK → Prop}
theorem liftN_ok {K : PySem.W.Frag} {Acc : Addr → Prop} {ι : List Addr} {μ μ0 : Sto} {H H0 : Hp} {σ : L2.St} {vs : List EV} {xs : List V} {Q : VK} (ho : OpN K f r) (t : Stp K Acc ι μ0 H0 ι μ H) (ra : EvsR K (Liv Acc μ ι) ι H0 H vs xs)
    (h : wp (relE K) K XC W Acc ι μ0 H0 σ (liftN f vs μ) Q) : r xs H Q := by
  unfold liftN at h
  cases ea : sees vs μ with
  | none => rw [ea] at h; exact h.elim
  | some ds =>
    rw [ea] at h
    simp only at h
    cases ef : f ds with
    | none => rw [ef] at h; exact h.elim
    | some e =>
      rw [ef] at h
      exact ho Acc ι μ H ds xs e Q t.sim (sees_ok t.sim ra ea) ef fun v H' t' rv => h v H' (t.trans t') ⟨EvR.back t rv.1, rv.2⟩
theorem callN_ok {K : PySem.W.Frag} {σ : L2.St} {H : Hp} {Q : VK} (ho : OpN K f r) (h : rdE K XC F W (eCb f fa) σ H Q) : tCB r (rdA K XC F W fa) σ H Q := by
  obtain ⟨Acc, ι, ρ, μ, S, E, h⟩ := h
  refine rd.bind (.refl S) E h fun vs μ1 xs H1 _ t1 r1 h1 => ?_
  exact liftN_ok ho t1 r1 h1
theorem c_callB (hc : CallR X (.builtin id) r) (ho : OpN X.K f r) (hg : Gl X x) (hm : X.mg x = none) (hv : bootBuiltins x = some (.builtin id)) (ha : PA X (e :: es) (rdA X.K XC F W fa)) (hn : x ≠ "__name__") (hdb : (x == ("__debug__" : Str)) = false)
    (he : starEach (e :: es) X.env = (false, eval e X.env) :: starEach es X.env) (hpl : (backTo pos (starEach es X.env)).any (·.1) = false) : PE X (.Call (.Name x p) (e :: es) [] pos) (rdE X.K XC F W (eCb f fa)) :=
  PEimp (pe_callB hc hg hm hv ha hn hdb he hpl) fun _ _ _ h => callN_ok ho h
theorem c_callTy (hc : CallR X (.type T) r) (ho : OpN X.K f r) (hg : Gl X x) (hm : X.mg x = none) (hv : bootBuiltins x = some (.type T)) (ha : PA X (e :: es) (rdA X.K XC F W fa)) (hn : x ≠ "__name__") (hdb : (x == ("__debug__" : Str)) = false)
    (he : starEach (e :: es) X.env = (false, eval e X.env) :: starEach es X.env) (hpl : (backTo pos (starEach es X.env)).any (·.1) = false) : PE X (.Call (.Name x p) (e :: es) [] pos) (rdE X.K XC F W (eCb f fa)) :=
  PEimp (pe_callTy hc hg hm hv ha hn hdb he hpl) fun _ _ _ h => callN_ok ho h
end

/-! ### 2. isinstance of a built-in type -/
inductive Ty where
  | int | bool | str | tuple | list | dict
def Ty.name : Ty → String
  | .int => "int" | .bool => "bool" | .str => "str" | .tuple => "tuple" | .list => "list" | .dict => "dict"
def isi (T : Ty) (d : D) : Bool := match T, d with
  | .int, .int _ => true
  | .int, .bl _ => true
  | .bool, .bl _ => true
  | .str, .str _ => true
  | .tuple, .tup _ => true
  | .list, .lst _ => true
  | .list, .scr _ => true
  | .dict, .dic _ _ => true
  | _, _ => false
def tyD : D → String
  | .non => "NoneType" | .bl _ => "bool" | .int _ => "int" | .str _ => "str" | .tup _ => "tuple" | .lst _ => "list" | .dic _ _ => "dict" | .scr _ => "list"
theorem isi_kit (K : PySem.W.Frag) (T : Ty) (d : D) : PySem.W.kitOne K (.type (tyD d)) (.type T.name) = some (isi T d) := by
  have t : ∀ T : Ty, kitB "NoneType" T.name = some (isi T .non) ∧ kitB "bool" T.name = some (isi T (.bl true)) ∧ kitB "int" T.name = some (isi T (.int 0)) ∧ kitB "str" T.name = some (isi T (.str ⟨#[]⟩)) ∧
      kitB "tuple" T.name = some (isi T (.tup [])) ∧ kitB "list" T.name = some (isi T (.lst [])) ∧ kitB "dict" T.name = some (isi T (.dic [] [])) ∧ kitB "list" T.name = some (isi T (.scr [])) := by
    intro T
    cases T <;> decide +kernel
  obtain ⟨h1, h2, h3, h4, h5, h6, h7, h8⟩ := t T
  cases d with
  | non => exact kit_ty h1
  | bl _ => cases T <;> exact kit_ty h2
  | int _ => cases T <;> exact kit_ty h3
  | str _ => cases T <;> exact kit_ty h4
  | tup _ => cases T <;> exact kit_ty h5
  | lst _ => cases T <;> exact kit_ty h6
  | dic _ _ => cases T <;> exact kit_ty h7
  | scr _ => cases T <;> exact kit_ty h8
section
variable {K : PySem.W.Frag} {L : Addr → Prop} {H : Hp}
theorem tyx_rd {a : Addr} {u : HO} {vs : List V} (h : TupN K L H a vs) : TyX K H (.ref a) (.type "tuple") := by
  rcases h with ⟨h, _⟩ | ⟨o, its, n, h, c, _⟩
  · rcases h with h | ⟨o, h⟩
    · exact .base (.tup h)
    · exact .fTuple h
  · exact .kTuple h c
theorem tyx_of {d : D} {v : V} (r : SeeR K L H d v) : TyX K H v (.type (tyD d)) := by
  cases d with
  | non => rw [seeN r]; exact .base .non
  | bl b => rw [seeB r]; exact .base (.bl b)
  | int b => rw [seeI r]; exact .base (.int b)
  | str b => rw [seeS r]; exact .base (.str b)
  | tup ds => obtain ⟨a, vs, rfl, t, _⟩ := seeT r; exact tyx_rd (u := .tup vs) t
  | lst ds => obtain ⟨a, vs, rfl, t, _⟩ := r; exact .base (.lst t)
  | dic ks ds => obtain ⟨a, vs, rfl, t | ⟨o, t⟩, _⟩ := r <;> first | exact .base (.dK t) | exact .fDict t
  | scr ns =>
    obtain ⟨a, rfl, t⟩ := (by simpa only [SeeR, Rep] using r : ∃ a, v = .ref a ∧ LstN K L H a (ns.map V.int))
    rcases t with ⟨h, _⟩ | ⟨o, its, n, h, c, _⟩
    · rcases h with h | ⟨o, h⟩
      · exact .base (.lst h)
      · exact .base (.frz h)
    · exact .kList h c
end
def eIsi (T : Ty) (fa : SE) : SE := fun F ρ μ => (fa F ρ μ).bind fun v μ1 => match v.see μ1 with
  | some d => .ok (.dat (.bl (isi T d))) μ1
  | none => .bad
/-- isinstance(a, (T1, T2, ..)) -/
def eIsiT (Ts : List Ty) (fa : SE) : SE := fun F ρ μ => (fa F ρ μ).bind fun v μ1 => match v.see μ1 with
  | some d => .ok (.dat (.bl (Ts.any fun T => isi T d))) μ1
  | none => .bad
section
variable {X : Cx} {XC : Nat → Addr} {F : Fns} {W : WX} {x t : Str} {p p1 p2 pos : Pos} {e : Expr} {fa : SE} {T : Ty}
theorem ty_bltn (hg : Gl X t) (hm : X.mg t = none) (hv : bootBuiltins t = some (.type T.name)) (hn : t ≠ "__name__") (hdb : (t == ("__debug__" : Str)) = false) : PE X (.Name t p) (tC (.ty T.name)) := pe_bltn hg hm hv rfl hn hdb
theorem c_isi (hg : Gl X "isinstance") (hm : X.mg "isinstance" = none) (ht : PE X (.Name t p1) (tC (.ty T.name))) (ha : PE X e (rdE X.K XC F W fa)) (he : starEach [e, .Name t p1] X.env = (false, eval e X.env) :: starEach [.Name t p1] X.env)
    : PE X (.Call (.Name "isinstance" p) [e, .Name t p1] [] pos) (rdE X.K XC F W (eIsi T fa)) :=
  PEimp (pe_callB call_isi hg hm (by decide +kernel) (pa_cons ha (pa_cons ht pa_nil) he) (by decide) (by decide) he (by rfl)) fun σ H Q ⟨Acc, ι, ρ, μ, S, E, h⟩ => by
    refine rd.bind (.refl S) E h fun v μ1 x H1 _ t1 r1 h1 => ?_
    cases ea : v.see μ1 with
    | none => rw [ea] at h1; exact h1.elim
    | some d =>
      rw [ea] at h1
      exact ⟨x, .ty T.name, .type (tyD d), .type T.name, isi T d, rfl, .ty _, tyx_of (see_ok t1.sim r1.1 ea), isi_kit X.K T d, h1 (.bl (isi T d)) H1 t1 ⟨rfl, trivial⟩⟩
/-- the tuple of types -/
def tyVs (Ts : List Ty) : List V := Ts.map fun T => .ty T.name
def tyUs (Ts : List Ty) : List Value := Ts.map fun T => .type T.name
theorem cls_ts : ∀ Ts : List Ty, Paired ClsV (tyVs Ts) (tyUs Ts)
  | [] => .nil
  | T :: Ts => .cons (.ty _) (cls_ts Ts)
theorem kit_ts (K : PySem.W.Frag) (d : D) : ∀ Ts : List Ty, PySem.W.kitAny K (.type (tyD d)) (tyUs Ts) = some (Ts.any fun T => isi T d)
  | [] => kitAny_nil
  | T :: Ts => by
    refine kitAny_cons (b := isi T d) (isi_kit K T d) (fun h => ?_) (fun h => ?_)
    · rw [List.any_cons, h, Bool.false_or]; exact kit_ts K d Ts
    · rw [List.any_cons, h, Bool.true_or]
def tTys (Ts : List Ty) : TA := fun _ H Q => Q (tyVs Ts) H
theorem c_isiT {elts : List Expr} {k : Nat} {Ts : List Ty} (hg : Gl X "isinstance") (hm : X.mg "isinstance" = none) (ht : PA X elts (tTys Ts)) (hl : Ts.length ≤ 20) (ha : PE X e (rdE X.K XC F W fa)) (he : starEach [e, .Tuple elts k p1] X.env = (false, eval e X.env) :: starEach [.Tuple elts k p1] X.env)
    : PE X (.Call (.Name "isinstance" p) [e, .Tuple elts k p1] [] pos) (rdE X.K XC F W (eIsiT Ts fa)) :=
  PEimp (pe_callB call_isiT hg hm (by decide +kernel) (pa_cons ha (pa_cons (pe_tup ht) pa_nil) he) (by decide) (by decide) he (by rfl)) fun σ H Q ⟨Acc, ι, ρ, μ, S, E, h⟩ => by
    refine rd.bind (.refl S) E h fun v μ1 x H1 _ t1 r1 h1 => ?_
    cases ea : v.see μ1 with
    | none => rw [ea] at h1; exact h1.elim
    | some d =>
      rw [ea] at h1
      refine ⟨by show (tyVs Ts).length ≤ sizeLine; unfold tyVs; rw [List.length_map]; exact Nat.le_trans hl (by decide), fun p2 n => ?_⟩
      have tu := t1.sim.up n (.tup (tyVs Ts))
      have r2 : SeeR X.K (Liv Acc μ1 ι) (upd H1 p2 (.tup (tyVs Ts))) d x := see_ok tu.sim (EvR.mv t1 S tu r1.1 rfl) ea
      exact ⟨x, p2, tyVs Ts, .type (tyD d), tyUs Ts, _, rfl, upd_same, cls_ts Ts, tyx_of r2, kit_ts X.K d Ts, h1 (.bl _) _ (t1.trans tu) ⟨rfl, trivial⟩⟩
end

/-! ### 3. len, all, any, max, min, sum, abs, int, str, list, tuple, divmod -/
def bLen : List D → Option EV
  | [.str x] => if x.length ≤ LIM then some (.dat (.int x.length)) else none
  | [.tup ds] => some (.dat (.int ds.length))
  | [.lst ds] => some (.dat (.int ds.length))
  | [.dic ks _] => some (.dat (.int ks.length))
  | [.scr ns] => some (.dat (.int ns.length))
  | _ => none
def bls : List D → Option (List Bool)
  | [] => some []
  | .bl b :: ds => (bls ds).map (b :: ·)
  | _ => none
def toInts : List D → Option (List Int)
  | [] => some []
  | .int b :: ds => (toInts ds).map (b :: ·)
  | _ => none
def bAll : List D → Option EV
  | [.lst ds] => (bls ds).map fun bs => .dat (.bl (bs.all id))
  | _ => none
def bAny : List D → Option EV
  | [.lst ds] => (bls ds).map fun bs => .dat (.bl (bs.any id))
  | _ => none
def maxI : Int → List Int → Int
  | m, [] => m
  | m, n :: ns => maxI (if m < n then n else m) ns
def minI : Int → List Int → Int
  | m, [] => m
  | m, n :: ns => minI (if n < m then n else m) ns
def bMax : List D → Option EV
  | [.int i, .int j] => some (.dat (.int (if j > i then j else i)))
  | [.lst ds] => match toInts ds with
    | some (n :: ns) => some (.dat (.int (maxI n ns)))
    | _ => none
  | _ => none
def bMin : List D → Option EV
  | [.int i, .int j] => some (.dat (.int (if j < i then j else i)))
  | [.lst ds] => match toInts ds with
    | some (n :: ns) => some (.dat (.int (minI n ns)))
    | _ => none
  | _ => none
def bSum : List D → Option EV
  | [.lst ds] => (toInts ds).map fun ns => .dat (.int ns.sum)
  | [.scr ns] => some (.dat (.int ns.sum))
  | _ => none
def bAbs : List D → Option EV
  | [.int i] => some (.dat (.int (if i < 0 then -i else i)))
  | _ => none
def bInt : List D → Option EV
  | [.int i] => some (.dat (.int i))
  | [.bl b] => some (.dat (.int (if b then 1 else 0)))
  | _ => none
def bList : List D → Option EV
  | [.lst ds] => some (.new (.lst ds))
  | [.tup ds] => some (.new (.lst ds))
  | _ => none
def bTuple : List D → Option EV
  | [.lst ds] => some (.dat (.tup ds))
  | [.tup ds] => some (.dat (.tup ds))
  | _ => none
def bDivmod : List D → Option EV
  | [.int i, .int j] => if 0 < j ∧ j < 1073741824 then some (.dat (.tup [.int (i / j), .int (i % j)])) else none
  | _ => none
section
variable {K : PySem.W.Frag} {L : Addr → Prop} {H : Hp}
theorem sees1 {d : D} {xs : List V} (h : SeesR K L H [d] xs) : ∃ x, xs = [x] ∧ SeeR K L H d x := by
  obtain ⟨v, r, rfl, h1, h2⟩ := h
  have h2 : r = [] := h2
  subst h2
  exact ⟨v, rfl, h1⟩
theorem sees2 {d e : D} {xs : List V} (h : SeesR K L H [d, e] xs) : ∃ x y, xs = [x, y] ∧ SeeR K L H d x ∧ SeeR K L H e y := by
  obtain ⟨v, r, rfl, h1, h2⟩ := h
  obtain ⟨y, rfl, h3⟩ := sees1 h2
  exact ⟨v, y, rfl, h1, h3⟩
theorem bls_rep : ∀ {ds : List D} {bs : List Bool} {vs : List V}, bls ds = some bs → Reps K L H ds vs → vs = bs.map V.bl
  | [], bs, vs, h, r => by cases h; exact r.invN
  | d :: ds, bs, vs, h, r => by
    obtain ⟨v, rs, rfl, h1, h2⟩ := r.inv
    cases d <;> simp only [bls, reduceCtorEq] at h
    cases e : bls ds with
    | none => rw [e] at h; cases h
    | some cs =>
      rw [e] at h; cases h
      simp only [Rep] at h1
      rw [h1, bls_rep e h2] <;> rfl
theorem ints_rep : ∀ {ds : List D} {bs : List Int} {vs : List V}, toInts ds = some bs → Reps K L H ds vs → vs = bs.map V.int
  | [], bs, vs, h, r => by cases h; exact r.invN
  | d :: ds, bs, vs, h, r => by
    obtain ⟨v, rs, rfl, h1, h2⟩ := r.inv
    cases d <;> simp only [toInts, reduceCtorEq] at h
    cases e : toInts ds with
    | none => rw [e] at h; cases h
    | some cs =>
      rw [e] at h; cases h
      simp only [Rep] at h1
      rw [h1, ints_rep e h2] <;> rfl
theorem maxI_ge : ∀ (ns : List Int) (m : Int), m ≤ maxI m ns ∧ (∀ n ∈ ns, n ≤ maxI m ns) ∧ (maxI m ns = m ∨ maxI m ns ∈ ns)
  | [], m => ⟨Int.le_refl _, by simp, .inl rfl⟩
  | n :: ns, m => by
    by_cases e : m < n
    · obtain ⟨h1, h2, h3⟩ := maxI_ge ns n
      simp only [maxI, if_pos e]
      refine ⟨by omega, fun k hk => ?_, ?_⟩
      · rcases List.mem_cons.mp hk with rfl | hk
        · exact h1
        · exact h2 k hk
      · rcases h3 with h3 | h3
        · rw [h3]; exact .inr List.mem_cons_self
        · exact .inr (List.mem_cons_of_mem _ h3)
    · obtain ⟨h1, h2, h3⟩ := maxI_ge ns m
      simp only [maxI, if_neg e]
      refine ⟨h1, fun k hk => ?_, ?_⟩
      · rcases List.mem_cons.mp hk with rfl | hk
        · omega
        · exact h2 k hk
      · rcases h3 with h3 | h3
        · exact .inl h3
        · exact .inr (List.mem_cons_of_mem _ h3)
theorem minI_le : ∀ (ns : List Int) (m : Int), minI m ns ≤ m ∧ (∀ n ∈ ns, minI m ns ≤ n) ∧ (minI m ns = m ∨ minI m ns ∈ ns)
  | [], m => ⟨Int.le_refl _, by simp, .inl rfl⟩
  | n :: ns, m => by
    by_cases e : n < m
    · obtain ⟨h1, h2, h3⟩ := minI_le ns n
      simp only [minI, if_pos e]
      refine ⟨by omega, fun k hk => ?_, ?_⟩
      · rcases List.mem_cons.mp hk with rfl | hk
        · exact h1
        · exact h2 k hk
      · rcases h3 with h3 | h3
        · rw [h3]; exact .inr List.mem_cons_self
        · exact .inr (List.mem_cons_of_mem _ h3)
    · obtain ⟨h1, h2, h3⟩ := minI_le ns m
      simp only [minI, if_neg e]
      refine ⟨h1, fun k hk => ?_, ?_⟩
      · rcases List.mem_cons.mp hk with rfl | hk
        · omega
        · exact h2 k hk
      · rcases h3 with h3 | h3
        · exact .inl h3
        · exact .inr (List.mem_cons_of_mem _ h3)
theorem max_uniq {ns : List Int} {n m : Int} (h1 : m ∈ n :: ns) (h2 : ∀ y, y ∈ n :: ns → y ≤ m) : m = maxI n ns := by
  obtain ⟨a, b, c⟩ := maxI_ge ns n
  have h3 : maxI n ns ∈ n :: ns := by
    rcases c with c | c
    · rw [c]; exact List.mem_cons_self
    · exact List.mem_cons_of_mem _ c
  have h4 := h2 _ h3
  rcases List.mem_cons.mp h1 with e | h1
  · omega
  · have := b m h1; omega
theorem min_uniq {ns : List Int} {n m : Int} (h1 : m ∈ n :: ns) (h2 : ∀ y, y ∈ n :: ns → m ≤ y) : m = minI n ns := by
  obtain ⟨a, b, c⟩ := minI_le ns n
  have h3 : minI n ns ∈ n :: ns := by
    rcases c with c | c
    · rw [c]; exact List.mem_cons_self
    · exact List.mem_cons_of_mem _ c
  have h4 := h2 _ h3
  rcases List.mem_cons.mp h1 with e | h1
  · omega
  · have := b m h1; omega
end
section
variable {X : Cx}
def rLen (K : PySem.W.Frag) : List V → Hp → VK → Prop := fun xs H Q => ((∃ p ys, xs = [.ref p] ∧ (SqL K H p ys ∨ SqT K H p ys) ∧ Q (.int ys.length) H) ∨ (∃ z, xs = [.str z] ∧ z.length ≤ sizeLine ∧ Q (.int z.length) H)) ∨ (∃ a kvs, xs = [V.ref a] ∧ Rd H a (.dK kvs) ∧ Q (.int kvs.length) H)
/-- len of a dict, locked or not -/
theorem call_lenR : CallR X (.builtin "len") (fun xs H Q => ∃ a kvs, xs = [V.ref a] ∧ Rd H a (.dK kvs) ∧ Q (.int kvs.length) H) := by
  intro pins s σ H xs us Q I r h
  obtain ⟨a, kvs, rfl, ha, q⟩ := h
  obtain ⟨u, rfl, ru⟩ := vals1 r
  cases ru
  exact d_len I ha fun t s' I' => ⟨.int kvs.length, H, I', ⟨t, rfl⟩, q⟩
theorem or_len : CallR X (.builtin "len") (rLen X.K) := CallR.or (CallR.or call_len_seq call_len_str) call_lenR
theorem on_len : OpN X.K bLen (rLen X.K) := by
  intro Acc ι μ H ds xs e Q S r h q
  unfold bLen at h
  split at h
  · replace r := sees1 r; obtain ⟨x, rfl, r⟩ := r
    split at h
    · rename_i hl
      cases h
      rw [seeS r]
      exact .inl (.inr ⟨_, rfl, lim_ok hl, fin_dat S q rep_int⟩)
    · cases h
  · replace r := sees1 r; obtain ⟨x, rfl, r⟩ := r
    cases h
    obtain ⟨a, vs, rfl, t, r⟩ := seeT r
    rw [← r.len] at q
    exact .inl (.inl ⟨a, vs, rfl, .inr t.sq, fin_dat S q rep_int⟩)
  · replace r := sees1 r; obtain ⟨x, rfl, r⟩ := r
    cases h
    obtain ⟨a, vs, rfl, t, r⟩ := r
    rw [← r.len] at q
    exact .inl (.inl ⟨a, vs, rfl, .inl (SqL.of t), fin_dat S q rep_int⟩)
  · replace r := sees1 r; obtain ⟨x, rfl, r⟩ := r
    cases h
    obtain ⟨a, vs, rfl, t, hl, r⟩ := r
    rename_i ks ds'
    have e : (ks.zip vs).length = ks.length := by rw [List.length_zip, r.len, ← hl, Nat.min_self]
    rw [← e] at q
    exact .inr ⟨a, _, rfl, t, fin_dat S q rep_int⟩
  · replace r := sees1 r; obtain ⟨x, rfl, r⟩ := r
    cases h
    rename_i ns
    obtain ⟨a, rfl, t⟩ := (by simpa only [SeeR, Rep] using r : ∃ a, x = .ref a ∧ LstN X.K (Liv Acc μ ι) H a (ns.map V.int))
    have e : (ns.map V.int).length = ns.length := List.length_map _
    rw [← e] at q
    exact .inl (.inl ⟨a, _, rfl, .inl t.sq, fin_dat S q rep_int⟩)
  · cases h
theorem on_all : OpN X.K bAll (rAll X.K) := by
  intro Acc ι μ H ds xs e Q S r h q
  unfold bAll at h
  split at h
  · rename_i ds'
    cases hb : bls ds' with
    | none => rw [hb] at h; cases h
    | some bs =>
      rw [hb] at h; cases h
      obtain ⟨x, rfl, a, vs, rfl, t, r⟩ := sees1 r
      rw [bls_rep hb r] at t
      exact ⟨a, bs, rfl, SqL.of t, fin_dat S q rep_bl⟩
  · cases h
theorem on_any : OpN X.K bAny (rAny X.K) := by
  intro Acc ι μ H ds xs e Q S r h q
  unfold bAny at h
  split at h
  · rename_i ds'
    cases hb : bls ds' with
    | none => rw [hb] at h; cases h
    | some bs =>
      rw [hb] at h; cases h
      obtain ⟨x, rfl, a, vs, rfl, t, r⟩ := sees1 r
      rw [bls_rep hb r] at t
      exact ⟨a, bs, rfl, SqL.of t, fin_dat S q rep_bl⟩
  · cases h
theorem on_sum : OpN X.K bSum (rSum X.K) := by
  intro Acc ι μ H ds xs e Q S r h q
  unfold bSum at h
  split at h
  · rename_i ds'
    cases hb : toInts ds' with
    | none => rw [hb] at h; cases h
    | some bs =>
      rw [hb] at h; cases h
      obtain ⟨x, rfl, a, vs, rfl, t, r⟩ := sees1 r
      rw [ints_rep hb r] at t
      exact ⟨a, bs, rfl, SqL.of t, fin_dat S q rep_int⟩
  · rename_i ns
    cases h
    replace r := sees1 r; obtain ⟨x, rfl, r⟩ := r
    obtain ⟨a, rfl, t⟩ := (by simpa only [SeeR, Rep] using r : ∃ a, x = .ref a ∧ LstN X.K (Liv Acc μ ι) H a (ns.map V.int))
    exact ⟨a, ns, rfl, t.sq, fin_dat S q rep_int⟩
  · cases h
def rMaxAll (K : PySem.W.Frag) : List V → Hp → VK → Prop := fun xs H Q => (∃ i j, xs = [.int i, .int j] ∧ Q (.int (if j > i then j else i)) H) ∨ rMax K xs H Q
def rMinAll (K : PySem.W.Frag) : List V → Hp → VK → Prop := fun xs H Q => (∃ i j, xs = [.int i, .int j] ∧ Q (.int (if j < i then j else i)) H) ∨ rMin K xs H Q
theorem or_max (hc : X.calm = true) : CallR X (.builtin "max") (rMaxAll X.K) := CallR.or (call_max2 hc) (cr_max hc)
theorem or_min (hc : X.calm = true) : CallR X (.builtin "min") (rMinAll X.K) := CallR.or (call_min2 hc) (cr_min hc)
theorem on_max : OpN X.K bMax (rMaxAll X.K) := by
  intro Acc ι μ H ds xs e Q S r h q
  unfold bMax at h
  split at h
  · cases h
    obtain ⟨x, y, rfl, r1, r2⟩ := sees2 r
    rw [seeI r1, seeI r2]
    exact .inl ⟨_, _, rfl, fin_dat S q rep_int⟩
  · rename_i ds'
    split at h
    · rename_i n ns hb
      cases h
      obtain ⟨x, rfl, a, vs, rfl, t, r⟩ := sees1 r
      rw [ints_rep hb r] at t
      refine .inr ⟨a, n :: ns, rfl, SqL.of t, by simp, fun m h1 h2 => ?_⟩
      rw [max_uniq h1 h2]
      exact fin_dat S q rep_int
    · cases h
  · cases h
theorem on_min : OpN X.K bMin (rMinAll X.K) := by
  intro Acc ι μ H ds xs e Q S r h q
  unfold bMin at h
  split at h
  · cases h
    obtain ⟨x, y, rfl, r1, r2⟩ := sees2 r
    rw [seeI r1, seeI r2]
    exact .inl ⟨_, _, rfl, fin_dat S q rep_int⟩
  · rename_i ds'
    split at h
    · rename_i n ns hb
      cases h
      obtain ⟨x, rfl, a, vs, rfl, t, r⟩ := sees1 r
      rw [ints_rep hb r] at t
      refine .inr ⟨a, n :: ns, rfl, SqL.of t, by simp, fun m h1 h2 => ?_⟩
      rw [min_uniq h1 h2]
      exact fin_dat S q rep_int
    · cases h
  · cases h
theorem on_abs : OpN X.K bAbs (fun xs H Q => ∃ i, xs = [.int i] ∧ Q (.int (if i < 0 then -i else i)) H) := by
  intro Acc ι μ H ds xs e Q S r h q
  unfold bAbs at h
  split at h
  · cases h
    replace r := sees1 r; obtain ⟨x, rfl, r⟩ := r
    rw [seeI r]
    exact ⟨_, rfl, fin_dat S q rep_int⟩
  · cases h
theorem on_int : OpN X.K bInt (fun xs H Q => (∃ i, xs = [.int i] ∧ Q (.int i) H) ∨ ∃ k, xs = [.bl k] ∧ Q (.int (if k then 1 else 0)) H) := by
  intro Acc ι μ H ds xs e Q S r h q
  unfold bInt at h
  split at h
  · cases h
    replace r := sees1 r; obtain ⟨x, rfl, r⟩ := r
    rw [seeI r]
    exact .inl ⟨_, rfl, fin_dat S q rep_int⟩
  · cases h
    replace r := sees1 r; obtain ⟨x, rfl, r⟩ := r
    rw [seeB r]
    exact .inr ⟨_, rfl, fin_dat S q rep_int⟩
  · cases h
theorem on_list : OpN X.K bList (fun xs H Q => ∃ p ys, xs = [.ref p] ∧ (SqL X.K H p ys ∨ SqT X.K H p ys) ∧ ∀ l, H l = none → Q (.ref l) (upd H l (.lst ys))) := by
  intro Acc ι μ H ds xs e Q S r h q
  unfold bList at h
  split at h
  · cases h
    obtain ⟨x, rfl, a, vs, rfl, t, r⟩ := sees1 r
    exact ⟨a, vs, rfl, .inl (SqL.of t), fun l n => fin_lst S q r n⟩
  · cases h
    replace r := sees1 r; obtain ⟨x, rfl, r⟩ := r
    obtain ⟨a, vs, rfl, t, r⟩ := seeT r
    exact ⟨a, vs, rfl, .inr t.sq, fun l n => fin_lst S q r n⟩
  · cases h
theorem on_tuple : OpN X.K bTuple (fun xs H Q => ∃ p ys, xs = [.ref p] ∧ ((SqL X.K H p ys ∧ ∀ l, H l = none → Q (.ref l) (upd H l (.tup ys))) ∨ (SqT X.K H p ys ∧ Q (.ref p) H))) := by
  intro Acc ι μ H ds xs e Q S r h q
  unfold bTuple at h
  split at h
  · cases h
    obtain ⟨x, rfl, a, vs, rfl, t, r⟩ := sees1 r
    exact ⟨a, vs, rfl, .inl ⟨SqL.of t, fun l n => fin_tup S q r n⟩⟩
  · cases h
    replace r := sees1 r; obtain ⟨x, rfl, r⟩ := r
    obtain ⟨a, vs, rfl, t, r⟩ := seeT r
    exact ⟨a, vs, rfl, .inr ⟨t.sq, fin_dat S q (by simp only [Rep]; exact ⟨a, vs, rfl, t, r⟩)⟩⟩
  · cases h
theorem on_divmod : OpN X.K bDivmod (fun xs H Q => ∃ i j, xs = [.int i, .int j] ∧ CDiv i j ∧ ∀ p, H p = none → Q (.ref p) (upd H p (.tup [.int (i / j), .int (i % j)]))) := by
  intro Acc ι μ H ds xs e Q S r h q
  unfold bDivmod at h
  split at h
  · split at h
    · rename_i hc
      cases h
      obtain ⟨x, y, rfl, r1, r2⟩ := sees2 r
      rw [seeI r1, seeI r2]
      exact ⟨_, _, rfl, hc, fun p n => fin_tup S q (Reps.cons rep_int (Reps.cons rep_int Reps.nil)) n⟩
    · cases h
  · cases h
end
end VM
/-! What is walked: sources; targets; list comprehensions. -/
namespace VM
open PySem L2 PyProof.Rows

/-! ### 1. sources -/
inductive Src where
  /-- told items -/
  | vals (ds : List D)
  /-- a cell's items, as they stand at each turn -/
  | cell (k : Nat)
  /-- the same, numbered -/
  | ecell (k : Nat)
def enumD (ds : List D) : List D := ds.zipIdx.map fun p => .tup [.int (p.2 : Nat), p.1]
def Src.at (s : Src) (μ : Sto) : Option (List D) := match s with
  | .vals ds => some ds
  | .ecell k => match μ[k]? with
    | some c => match c.val with
      | .lst ds => some (enumD ds)
      | _ => none
    | none => none
  | .cell k => match μ[k]? with
    | some c => match c.val with
      | .lst ds => some ds
      | _ => none
    | none => none
abbrev SI := Fns → Env → Sto → Res Src
/-- an iterator walks a source, from (ι0, μ0, H0) on -/
def JR (K : PySem.W.Frag) (J : It) (s : Src) (Acc : Addr → Prop) (ι0 : List Addr) (μ0 : Sto) (H0 : Hp) : Prop :=
  ∀ (Acc' : Addr → Prop) (ι : List Addr) (μ : Sto) (H : Hp), Sim K Acc' μ ι H → Mv (Liv Acc μ0 ι0) H0 (Liv Acc' μ ι) H → (∀ (k : Nat) a, ι0[k]? = some a → ι[k]? = some a) → ∀ ds, s.at μ = some ds → ∀ i : Nat,
    (∀ d, ds[i]? = some d → J.go i H ∧ ∀ x H', J.yld i H x H' → Stp K Acc' ι μ H ι μ H' ∧ Rep K (Liv Acc' μ ι) H' d x) ∧ (ds.length ≤ i → J.stop i H)
def rdI (K : PySem.W.Frag) (XC : Nat → Addr) (F : Fns) (W : WX) (f : SI) : TI := fun σ H R =>
  ∃ (Acc : Addr → Prop) (ι : List Addr) (ρ : Env) (μ : Sto), Sim K Acc μ ι H ∧ EnvR K (Liv Acc μ ι) ι H ρ σ ∧ match f F ρ μ with
    | .ok s μ' => ∀ J H', Stp K Acc ι μ H ι μ' H' → JR K J s Acc ι μ' H' → R J H'
    | .exc x μ' => ∀ c d H', Stp K Acc ι μ H ι μ' H' → ExcR K XC (Liv Acc μ' ι) H H' x c d → W c d σ H'
    | .bad => False
/-- the items of a value -/
def srcOf (v : EV) (μ : Sto) : Option Src := match v with
  | .dat (.tup ds) => some (.vals ds)
  | .dat (.lst ds) => some (.vals ds)
  | .dat (.scr ns) => some (.vals (ns.map .int))
  | .dat (.str x) => some (.vals (x.cps.toList.map fun c => .str ⟨#[c]⟩))
  | .new (.lst ds) => some (.vals ds)
  | .cel k => match μ[k]? with
    | some c => match c.val with
      | .lst _ => some (.cell k)
      | _ => none
    | none => none
  | _ => none
def iOf (f : SE) : SI := fun F ρ μ => (f F ρ μ).bind fun v μ1 => match srcOf v μ1 with
  | some s => .ok s μ1
  | none => .bad
theorem PIimp {X : Cx} {tg e : Expr} {t t' : TI} (h : PI X tg e t) (i : ∀ σ H Q, t' σ H Q → t σ H Q) : PI X tg e t' := ⟨fun pins s σ H Q I q => h.run pins s σ H Q I (i σ H Q q)⟩
section
variable {K : PySem.W.Frag} {Acc : Addr → Prop} {ι : List Addr} {μ : Sto} {H : Hp}
theorem Reps.ints : ∀ (ns : List Int), Reps K (Liv Acc μ ι) H (ns.map .int) (ns.map V.int)
  | [] => Reps.nil
  | n :: ns => Reps.cons rep_int (Reps.ints ns)
/-- a list that stands still -/
theorem jr_still {a : Addr} {ds : List D} {vs : List V} (h : LstN K (Liv Acc μ ι) H a vs) (r : Reps K (Liv Acc μ ι) H ds vs) : JR K (Itl K a) (.vals ds) Acc ι μ H := by
  intro Acc' ι' μ' H' S m _ es he i
  cases he
  have h' := h.mv m
  have r' := Reps.mv m _ _ r
  refine ⟨fun d hd => ?_, fun hl => ⟨vs, h'.sq, by rw [r'.len]; exact hl⟩⟩
  obtain ⟨v, hv, rv⟩ := r'.get hd
  refine ⟨⟨vs, v, h'.sq, hv⟩, fun x H'' y => ?_⟩
  obtain ⟨e, y⟩ := y
  subst e
  have e2 := y vs h'.sq
  rw [hv] at e2
  cases e2
  exact ⟨.refl S, rv⟩
theorem jr_tup {a : Addr} {ds : List D} {vs : List V} (h : TupN K (Liv Acc μ ι) H a vs) (r : Reps K (Liv Acc μ ι) H ds vs) : JR K (Itt K a) (.vals ds) Acc ι μ H := by
  intro Acc' ι' μ' H' S m _ es he i
  cases he
  have h' := h.mv m
  have r' := Reps.mv m _ _ r
  refine ⟨fun d hd => ?_, fun hl => ⟨vs, h'.sq, by rw [r'.len]; exact hl⟩⟩
  obtain ⟨v, hv, rv⟩ := r'.get hd
  refine ⟨⟨vs, v, h'.sq, hv⟩, fun x H'' y => ?_⟩
  obtain ⟨e, y⟩ := y
  subst e
  have e2 := y vs h'.sq
  rw [hv] at e2
  cases e2
  exact ⟨.refl S, rv⟩
theorem jr_cell {k : Nat} {a : Addr} (e : ι[k]? = some a) : JR K (Itl K a) (.cell k) Acc ι μ H := by
  intro Acc' ι' μ' H' S m pr es he i
  have e' := pr k a e
  simp only [Src.at] at he
  cases hc : μ'[k]? with
  | none => rw [hc] at he; cases he
  | some c =>
    rw [hc] at he
    simp only at he
    obtain ⟨b, e1, r⟩ := S.cell k c hc
    rw [e'] at e1; cases e1
    cases hv : c.val with
    | dic ks ds => rw [hv] at he; cases he
    | lst ds =>
      rw [hv] at he r
      cases he
      obtain ⟨vs, hl, rr⟩ := r
      refine ⟨fun d hd => ?_, fun hle => ⟨vs, SqL.of hl, by rw [rr.len]; exact hle⟩⟩
      obtain ⟨v, hv, rv⟩ := rr.get hd
      refine ⟨⟨vs, v, SqL.of hl, hv⟩, fun x H'' y => ?_⟩
      obtain ⟨e, y⟩ := y
      subst e
      have e2 := y vs (SqL.of hl)
      rw [hv] at e2
      cases e2
      exact ⟨.refl S, rv⟩
theorem jr_str {x : Str} : JR K (Its x) (.vals (x.cps.toList.map fun c => .str ⟨#[c]⟩)) Acc ι μ H := by
  intro Acc' ι' μ' H' S m _ es he i
  cases he
  refine ⟨fun d hd => ?_, fun hl => ?_⟩
  · rw [List.getElem?_map] at hd
    cases hc : x.cps.toList[i]? with
    | none => rw [hc] at hd; cases hd
    | some c =>
      rw [hc] at hd; cases hd
      refine ⟨?_, fun v H'' y => ?_⟩
      · have := (List.getElem?_eq_some_iff.mp hc).1
        show i < x.cps.size
        simpa using this
      · obtain ⟨e, c', hc', rfl⟩ := y
        subst e
        rw [← Array.getElem?_toList, hc] at hc'
        cases hc'
        exact ⟨.refl S, rep_str⟩
  · rw [List.length_map, Array.length_toList] at hl
    exact hl
theorem jr_range {lo c : Int} {n : Nat} : JR K (Itc lo c n) (.vals ((List.range n).map fun i => .int (lo + (i : Nat) * c))) Acc ι μ H := by
  intro Acc' ι' μ' H' S m _ es he i
  cases he
  refine ⟨fun d hd => ?_, fun hl => ?_⟩
  · rw [List.getElem?_map] at hd
    cases hc : (List.range n)[i]? with
    | none => rw [hc] at hd; cases hd
    | some j =>
      rw [hc] at hd; cases hd
      obtain ⟨hi, e⟩ := List.getElem?_eq_some_iff.mp hc
      rw [List.length_range] at hi
      rw [List.getElem_range] at e
      subst e
      refine ⟨hi, fun v H'' y => ?_⟩
      obtain ⟨e, rfl⟩ := y
      subst e
      exact ⟨.refl S, rep_int⟩
  · rw [List.length_map, List.length_range] at hl
    exact hl
theorem jr_range1 {lo : Int} {n : Nat} : JR K (Itr lo n) (.vals ((List.range n).map fun i => .int (lo + (i : Nat)))) Acc ι μ H := by
  intro Acc' ι' μ' H' S m _ es he i
  cases he
  refine ⟨fun d hd => ?_, fun hl => ?_⟩
  · rw [List.getElem?_map] at hd
    cases hc : (List.range n)[i]? with
    | none => rw [hc] at hd; cases hd
    | some j =>
      rw [hc] at hd; cases hd
      obtain ⟨hi, e⟩ := List.getElem?_eq_some_iff.mp hc
      rw [List.length_range] at hi
      rw [List.getElem_range] at e
      subst e
      refine ⟨hi, fun v H'' y => ?_⟩
      obtain ⟨e, rfl⟩ := y
      subst e
      exact ⟨.refl S, rep_int⟩
  · rw [List.length_map, List.length_range] at hl
    exact hl
end
section
variable {X : Cx} {XC : Nat → Addr} {F : Fns} {W : WX} {tg e a b c : Expr} {fe : SE} {fa : SA} {pos p : Pos}
theorem rdI_of {K : PySem.W.Frag} {σ : L2.St} {H : Hp} {R : It → Hp → Prop} (h : rdI K XC F W (iOf fe) σ H R) : rdE K XC F W fe σ H fun v H1 => (∃ a, v = .ref a ∧ (∃ xs, SqL K H1 a xs) ∧ R (Itl K a) H1) ∨ (∃ a, v = .ref a ∧ (∃ xs, SqT K H1 a xs) ∧ R (Itt K a) H1) ∨ ∃ x, v = .str x ∧ R (Its x) H1 := by
  obtain ⟨Acc, ι, ρ, μ, S, E, h⟩ := h
  refine ⟨Acc, ι, ρ, μ, S, E, ?_⟩
  unfold iOf at h
  cases er : fe F ρ μ with
  | bad => rw [er] at h; exact h
  | exc x μ1 => rw [er] at h; exact h
  | ok v μ1 =>
    rw [er] at h
    simp only [Res.bind] at h
    intro u H1 t1 r1
    replace r1 := r1.1
    cases es : srcOf v μ1 with
    | none => rw [es] at h; exact h.elim
    | some s =>
      rw [es] at h
      simp only at h
      unfold srcOf at es
      split at es
      · cases es
        rename_i ds
        obtain ⟨a, vs, rfl, tp, rp⟩ := (by simpa only [EvR, Rep] using r1 : ∃ a vs, u = .ref a ∧ TupN K _ H1 a vs ∧ Reps K _ H1 ds vs)
        exact .inr (.inl ⟨a, rfl, ⟨vs, tp.sq⟩, h _ H1 t1 (jr_tup tp rp)⟩)
      · cases es
        rename_i ds
        obtain ⟨a, vs, rfl, tp, n, rp⟩ := (by simpa only [EvR, Rep] using r1 : ∃ a vs, u = .ref a ∧ H1 a = some (.lst vs) ∧ ¬ Liv Acc μ1 ι a ∧ Reps K _ H1 ds vs)
        exact .inl ⟨a, rfl, ⟨vs, SqL.of tp⟩, h _ H1 t1 (jr_still (.inl ⟨.inl tp, n⟩) rp)⟩
      · cases es
        rename_i ns
        obtain ⟨a, rfl, tp⟩ := (by simpa only [EvR, Rep] using r1 : ∃ a, u = .ref a ∧ LstN K _ H1 a (ns.map V.int))
        exact .inl ⟨a, rfl, ⟨_, tp.sq⟩, h _ H1 t1 (jr_still tp (Reps.ints ns))⟩
      · cases es
        rename_i x
        have e : u = .str x := r1
        exact .inr (.inr ⟨x, e, h _ H1 t1 jr_str⟩)
      · cases es
        rename_i ds
        obtain ⟨p, rfl, n, vs, hv, rp⟩ := r1
        have nl : ¬ Liv Acc μ1 ι p := fun z => by
          rcases z with z | z
          · exact S.trk z.mem n
          · exact (S.acc p z).2 n
        exact .inl ⟨p, rfl, ⟨vs, SqL.of hv⟩, h _ H1 t1 (jr_still (.inl ⟨.inl hv, nl⟩) rp)⟩
      · rename_i k
        obtain ⟨a, ea, rfl⟩ := r1
        cases hc : μ1[k]? with
        | none => rw [hc] at es; cases es
        | some c =>
          rw [hc] at es
          simp only at es
          cases hv : c.val with
          | dic ks ds => rw [hv] at es; cases es
          | lst ds =>
            rw [hv] at es
            cases es
            obtain ⟨b, e1, r⟩ := t1.sim.cell k c hc
            rw [ea] at e1; cases e1
            rw [hv] at r
            obtain ⟨vs, hl, rp⟩ := r
            exact .inl ⟨a, rfl, ⟨vs, SqL.of hl⟩, h _ H1 t1 (jr_cell ea)⟩
      · cases es
theorem ci_of (he : PE X e (rdE X.K XC F W fe)) : PI X tg e (rdI X.K XC F W (iOf fe)) := by
  refine ⟨fun pins s σ H R I h => ?_⟩
  have key : ∀ P : V → Hp → Prop, rdE X.K XC F W fe σ H P → wpAny (model X.prog X.w) X.A (eval e X.env) (EP X pins σ P) X.xe s := fun P q => he.run pins s σ H P I q
  have h' := rdI_of h
  refine thn (key _ h') fun v s1 ⟨x, H1, I1, r1, q1⟩ => ?_
  -- each way by the layer's own rule, at the value that has come
  rcases q1 with ⟨a, rfl, ⟨xs, hq⟩, q⟩ | ⟨a, rfl, ⟨xs, hq⟩, q⟩ | ⟨x, rfl, q⟩
  · cases r1
    obtain ⟨its, rv, p, hz⟩ := I1.list hq
    refine wpAny_pyIter_list p.isList ?_
    refine ⟨s1.heap.objs.size, [s1.heap.objs.size], _, _, H1, rfl, I1.kept (t' := s1.toks) fun b o e => Heap.get?_push_of_some _ e, turn_list a _, ⟨_, Heap.get?_push_size _ rfl, rfl, rfl⟩, fun b hb => ?_, q⟩
    have e : b = s1.heap.objs.size := by simpa using hb
    subst e
    exact I1.fpOk (Nat.le_refl _) (I1.hok.fresh (Nat.le_refl _))
  · cases r1
    obtain ⟨its, rv, p, hz⟩ := I1.tuple hq
    refine wpAny_pyIter_tuple (show s1.heap.IsTuple a its.toArray from p) ?_
    refine ⟨s1.heap.objs.size, [s1.heap.objs.size], _, _, H1, rfl, I1.kept (t' := s1.toks) fun b o e => Heap.get?_push_of_some _ e, turn_tuple a _, ⟨_, Heap.get?_push_size _ rfl, rfl, rfl⟩, fun b hb => ?_, q⟩
    have e : b = s1.heap.objs.size := by simpa using hb
    subst e
    exact I1.fpOk (Nat.le_refl _) (I1.hok.fresh (Nat.le_refl _))
  · obtain ⟨t, rfl⟩ := r1
    cases ha : x.cps.all (· < 128)
    · exact wpAny_pyIter_wide ha (pi_one (tk := s1.toks) I1 _ (turn_str _ x t "str_iterator" (.inr rfl)) ⟨_, Heap.get?_push_size _ rfl, rfl, rfl⟩ q)
    · exact wpAny_pyIter_ascii ha (pi_one (tk := s1.toks) I1 _ (turn_str _ x t "str_ascii_iterator" (.inl rfl)) ⟨_, Heap.get?_push_size _ rfl, rfl, rfl⟩ q)
/-- ranges -/
def rangeOf : List EV → Option Src
  | [.dat (.int n)] => if -1000000 ≤ n ∧ n ≤ 1000000 then some (.vals ((List.range n.toNat).map fun i => .int ((0 : Int) + (i : Nat)))) else none
  | [.dat (.int m), .dat (.int n)] => if -1000000 ≤ n ∧ n ≤ 1000000 ∧ -1000000 ≤ m ∧ m ≤ 1000000 then some (.vals ((List.range (n - m).toNat).map fun i => .int (m + (i : Nat)))) else none
  | [.dat (.int m), .dat (.int n), .dat (.int c)] => if c = -1 ∧ -1000000 ≤ n ∧ n ≤ 1000000 ∧ -1000000 ≤ m ∧ m ≤ 1000000 then some (.vals ((List.range (m - n).toNat).map fun i => .int (m + (i : Nat) * (-1)))) else none
  | _ => none
def iRange (fa : SA) : SI := fun F ρ μ => (fa F ρ μ).bind fun vs μ1 => match rangeOf vs with
  | some s => .ok s μ1
  | none => .bad
theorem evs1 {K : PySem.W.Frag} {L : Addr → Prop} {ι : List Addr} {H0 H : Hp} {e : EV} {xs : List V} (h : EvsR K L ι H0 H [e] xs) : ∃ x, xs = [x] ∧ EvR K L ι H0 H e x := by
  obtain ⟨v, r, rfl, h1, h2⟩ := h
  have h2 : r = [] := h2
  subst h2
  exact ⟨v, rfl, h1⟩
theorem evs2 {K : PySem.W.Frag} {L : Addr → Prop} {ι : List Addr} {H0 H : Hp} {e f : EV} {xs : List V} (h : EvsR K L ι H0 H [e, f] xs) : ∃ x y, xs = [x, y] ∧ EvR K L ι H0 H e x ∧ EvR K L ι H0 H f y := by
  obtain ⟨v, r, rfl, h1, h2⟩ := h
  obtain ⟨y, rfl, h3⟩ := evs1 h2
  exact ⟨v, y, rfl, h1, h3⟩
theorem evs3 {K : PySem.W.Frag} {L : Addr → Prop} {ι : List Addr} {H0 H : Hp} {e f g : EV} {xs : List V} (h : EvsR K L ι H0 H [e, f, g] xs) : ∃ x y z, xs = [x, y, z] ∧ EvR K L ι H0 H e x ∧ EvR K L ι H0 H f y ∧ EvR K L ι H0 H g z := by
  obtain ⟨v, r, rfl, h1, h2⟩ := h
  obtain ⟨y, z, rfl, h3, h4⟩ := evs2 h2
  exact ⟨v, y, z, rfl, h1, h3, h4⟩
theorem ci_range1 (hg : Gl X "range") (hm : X.mg "range" = none) (ha : PA X [a] (rdA X.K XC F W fa)) (hs : starEach [a] X.env = [(false, eval a X.env)]) (h1 : ∀ F ρ μ vs μ', fa F ρ μ = .ok vs μ' → vs.length = 1) :
    PI X tg (.Call (.Name "range" p) [a] [] pos) (rdI X.K XC F W (iRange fa)) :=
  PIimp (pi_range1 hg hm ha hs) fun σ H R ⟨Acc, ι, ρ, μ, S, E, h⟩ => by
    refine ⟨Acc, ι, ρ, μ, S, E, ?_⟩
    unfold iRange at h
    cases er : fa F ρ μ with
    | bad => rw [er] at h; exact h
    | exc x μ1 => rw [er] at h; exact h
    | ok vs μ1 =>
      rw [er] at h
      simp only [Res.bind] at h
      intro u H1 t1 r1
      have hl := h1 _ _ _ _ _ er
      cases es : rangeOf vs with
      | none => rw [es] at h; exact h.elim
      | some s =>
        rw [es] at h
        simp only at h
        unfold rangeOf at es
        split at es
        · split at es
          · rename_i n hn
            cases es
            obtain ⟨x, rfl, rx⟩ := evs1 r1
            have e : x = .int n := rx
            subst e
            exact ⟨n, rfl, by omega, by omega, h _ H1 t1 jr_range1⟩
          · cases es
        · cases hl
        · cases hl
        · cases es
theorem ci_range2 (hg : Gl X "range") (hm : X.mg "range" = none) (ha : PA X [a, b] (rdA X.K XC F W fa)) (hs : starEach [a, b] X.env = [(false, eval a X.env), (false, eval b X.env)]) (hs2 : starEach [b] X.env = [(false, eval b X.env)]) (h1 : ∀ F ρ μ vs μ', fa F ρ μ = .ok vs μ' → vs.length = 2) :
    PI X tg (.Call (.Name "range" p) [a, b] [] pos) (rdI X.K XC F W (iRange fa)) :=
  PIimp (pi_range2 hg hm ha hs hs2) fun σ H R ⟨Acc, ι, ρ, μ, S, E, h⟩ => by
    refine ⟨Acc, ι, ρ, μ, S, E, ?_⟩
    unfold iRange at h
    cases er : fa F ρ μ with
    | bad => rw [er] at h; exact h
    | exc x μ1 => rw [er] at h; exact h
    | ok vs μ1 =>
      rw [er] at h
      simp only [Res.bind] at h
      intro u H1 t1 r1
      have hl := h1 _ _ _ _ _ er
      cases es : rangeOf vs with
      | none => rw [es] at h; exact h.elim
      | some s =>
        rw [es] at h
        simp only at h
        unfold rangeOf at es
        split at es
        · cases hl
        · split at es
          · rename_i m n hn
            cases es
            obtain ⟨x, y, rfl, rx, ry⟩ := evs2 r1
            have e : x = .int m := rx
            have e2 : y = .int n := ry
            subst e e2
            exact ⟨m, n, rfl, ⟨by omega, by omega, by omega, by omega⟩, h _ H1 t1 jr_range1⟩
          · cases es
        · cases hl
        · cases es
theorem ci_range3 (hg : Gl X "range") (hm : X.mg "range" = none) (ha : PA X [a, b, c] (rdA X.K XC F W fa)) (hs : starEach [a, b, c] X.env = (false, eval a X.env) :: starEach [b, c] X.env) (hpl : (backTo pos (starEach [b, c] X.env)).any (·.1) = false) (h1 : ∀ F ρ μ vs μ', fa F ρ μ = .ok vs μ' → vs.length = 3) :
    PI X tg (.Call (.Name "range" p) [a, b, c] [] pos) (rdI X.K XC F W (iRange fa)) :=
  PIimp (pi_range3 hg hm ha hs hpl) fun σ H R ⟨Acc, ι, ρ, μ, S, E, h⟩ => by
    refine ⟨Acc, ι, ρ, μ, S, E, ?_⟩
    unfold iRange at h
    cases er : fa F ρ μ with
    | bad => rw [er] at h; exact h
    | exc x μ1 => rw [er] at h; exact h
    | ok vs μ1 =>
      rw [er] at h
      simp only [Res.bind] at h
      intro u H1 t1 r1
      have hl := h1 _ _ _ _ _ er
      cases es : rangeOf vs with
      | none => rw [es] at h; exact h.elim
      | some s =>
        rw [es] at h
        simp only at h
        unfold rangeOf at es
        split at es
        · cases hl
        · cases hl
        · split at es
          · rename_i m n c hn
            cases es
            obtain ⟨x, y, z, rfl, rx, ry, rz⟩ := evs3 r1
            have e : x = .int m := rx
            have e2 : y = .int n := ry
            have e3 : z = .int c := rz
            subst e e2 e3
            obtain ⟨hc, _⟩ := hn
            subst hc
            exact ⟨m, n, -1, (m - n).toNat, rfl, RgC.neg (by omega) (by omega) (by omega) (by omega), h _ H1 t1 jr_range⟩
          · cases es
        · cases es
theorem evs_len : ∀ (fs : List SE) (F : Fns) (ρ : Env) (μ : Sto) (vs : List EV) (μ' : Sto), evs fs F ρ μ = .ok vs μ' → vs.length = fs.length
  | [], F, ρ, μ, vs, μ', h => by cases h; rfl
  | f :: fs, F, ρ, μ, vs, μ', h => by
    simp only [evs] at h
    cases e : f F ρ μ with
    | bad => rw [e] at h; cases h
    | exc x μ1 => rw [e] at h; cases h
    | ok v μ1 =>
      rw [e] at h
      simp only [Res.bind] at h
      cases e2 : evs fs F ρ μ1 with
      | bad => rw [e2] at h; cases h
      | exc x μ2 => rw [e2] at h; cases h
      | ok ws μ2 =>
        rw [e2] at h
        cases h
        rw [List.length_cons, List.length_cons, evs_len fs F ρ μ1 ws _ e2]
end
end VM
/-! Targets of names; list comprehensions; the for loop. -/
namespace VM
open PySem L2 PyProof.Rows

/-! ### 1. targets -/
inductive Tgt where
  | nm (i : Nat) | tup (ts : List Tgt)
mutual
def asg : Tgt → D → Env → Option Env
  | .nm i, d, ρ => if i < ρ.length then some (ρ.set i (some (.dat d))) else none
  | .tup ts, .tup ds, ρ => asgs ts ds ρ
  | .tup _, _, _ => none
def asgs : List Tgt → List D → Env → Option Env
  | [], [], ρ => some ρ
  | t :: ts, d :: ds, ρ => match asg t d ρ with
    | some ρ1 => asgs ts ds ρ1
    | none => none
  | _, _, _ => none
end
mutual
def gT (K : PySem.W.Frag) : Tgt → TG
  | .nm i => gName i
  | .tup ts => gTup K ts.length (gTs K ts)
def gTs (K : PySem.W.Frag) : List Tgt → TGs
  | [] => gNil
  | t :: ts => gCons (gT K t) (gTs K ts)
end
mutual
def Tgt.slots : Tgt → List Nat
  | .nm i => [i]
  | .tup ts => slotsL ts
def slotsL : List Tgt → List Nat
  | [] => []
  | t :: ts => t.slots ++ slotsL ts
end
section
variable {K : PySem.W.Frag} {L : Addr → Prop} {ι : List Addr} {H : Hp}
theorem EnvR.set {ρ : Env} {σ : L2.St} {i : Nat} {s : SV} {v : V} (E : EnvR K L ι H ρ σ) (r : SvR K L ι H s v) : EnvR K L ι H (ρ.set i (some s)) (σ.set i (some v)) := by
  refine ⟨by rw [List.length_set, List.length_set]; exact E.1, fun j s' e => ?_⟩
  by_cases hj : i = j
  · subst hj
    by_cases hl : i < ρ.length
    · rw [List.getElem?_set_self hl] at e
      cases e
      exact ⟨v, List.getElem?_set_self (by rw [← E.1]; exact hl), r⟩
    · rw [List.getElem?_eq_none (by rw [List.length_set]; omega)] at e
      cases e
  · rw [List.getElem?_set_ne hj] at e
    obtain ⟨w, e1, r1⟩ := E.2 j s' e
    exact ⟨w, by rw [List.getElem?_set_ne hj]; exact e1, r1⟩
theorem EnvR.clr {ρ : Env} {σ : L2.St} {i : Nat} (E : EnvR K L ι H ρ σ) : EnvR K L ι H (ρ.set i none) (σ.set i none) := by
  refine ⟨by rw [List.length_set, List.length_set]; exact E.1, fun j s' e => ?_⟩
  by_cases hj : i = j
  · subst hj
    by_cases hl : i < ρ.length
    · rw [List.getElem?_set_self hl] at e
      cases e
    · rw [List.getElem?_eq_none (by rw [List.length_set]; omega)] at e
      cases e
  · rw [List.getElem?_set_ne hj] at e
    obtain ⟨w, e1, r1⟩ := E.2 j s' e
    exact ⟨w, by rw [List.getElem?_set_ne hj]; exact e1, r1⟩
def wipeE (ρ : Env) : List Nat → Env
  | [] => ρ
  | v :: vs => (wipeE ρ vs).set v none
theorem EnvR.wiped {ρ : Env} {σ : L2.St} (E : EnvR K L ι H ρ σ) : ∀ vs, EnvR K L ι H (wipeE ρ vs) (wipe σ vs)
  | [] => E
  | v :: vs => by
    unfold wipeE wipe
    exact (EnvR.wiped E vs).clr
theorem wipe_set {σ : L2.St} {i : Nat} {x : Option V} : ∀ {vs : List Nat}, i ∈ vs → wipe (σ.set i x) vs = wipe σ vs
  | [], h => absurd h (by simp)
  | v :: vs, h => by
    unfold wipe
    by_cases hv : i ∈ vs
    · rw [wipe_set hv]
    · have e : i = v := by
        rcases List.mem_cons.mp h with e | h
        · exact e
        · exact absurd h hv
      subst e
      have e2 : ∀ (ws : List Nat), i ∉ ws → wipe (σ.set i x) ws = (wipe σ ws).set i x := by
        intro ws
        induction ws with
        | nil => intro _; rfl
        | cons w ws ih =>
          intro hn
          unfold wipe
          rw [ih (fun z => hn (List.mem_cons_of_mem _ z))]
          exact List.set_comm _ _ (fun z => hn (z ▸ List.mem_cons_self))
      rw [e2 vs hv, List.set_set]
mutual
theorem gT_ok {Q : L2.St → Hp → Prop} : ∀ (t : Tgt) (d : D) (v : V) (ρ ρ' : Env) (σ : L2.St), asg t d ρ = some ρ' → Rep K L H d v → EnvR K L ι H ρ σ →
    (∀ σ', EnvR K L ι H ρ' σ' → (∀ vs : List Nat, (∀ i ∈ t.slots, i ∈ vs) → wipe σ' vs = wipe σ vs) → Q σ' H) → gT K t v σ H Q
  | .nm i, d, v, ρ, ρ', σ, h, r, E, q => by
    simp only [asg] at h
    split at h
    · cases h
      simp only [gT]
      exact q _ (E.set (s := .dat d) r) fun vs hv => wipe_set (hv i (by simp only [Tgt.slots]; exact List.mem_singleton.mpr rfl))
    · cases h
  | .tup ts, d, v, ρ, ρ', σ, h, r, E, q => by
    cases d <;> simp only [asg, reduceCtorEq] at h
    rename_i ds
    simp only [Rep] at r
    obtain ⟨a, vs, rfl, t, r⟩ := r
    have hl : ts.length = ds.length := asgs_len ts ds ρ ρ' h
    simp only [gT]
    exact ⟨a, vs, rfl, t.sq, by rw [r.len, hl], gTs_ok ts ds vs ρ ρ' σ h r E fun σ' E' w => q σ' E' fun ws hw => w ws fun i hi => hw i (by simp only [Tgt.slots]; exact hi)⟩
theorem gTs_ok {Q : L2.St → Hp → Prop} : ∀ (ts : List Tgt) (ds : List D) (vs : List V) (ρ ρ' : Env) (σ : L2.St), asgs ts ds ρ = some ρ' → Reps K L H ds vs → EnvR K L ι H ρ σ →
    (∀ σ', EnvR K L ι H ρ' σ' → (∀ ws : List Nat, (∀ i ∈ slotsL ts, i ∈ ws) → wipe σ' ws = wipe σ ws) → Q σ' H) → gTs K ts vs σ H Q
  | [], [], vs, ρ, ρ', σ, h, r, E, q => by
    simp only [asgs] at h
    cases h
    simp only [gTs]
    exact ⟨r.invN, q σ E fun _ _ => rfl⟩
  | [], _ :: _, vs, ρ, ρ', σ, h, r, E, q => by simp [asgs] at h
  | _ :: _, [], vs, ρ, ρ', σ, h, r, E, q => by simp [asgs] at h
  | t :: ts, d :: ds, vs, ρ, ρ', σ, h, r, E, q => by
    simp only [asgs] at h
    cases e : asg t d ρ with
    | none => rw [e] at h; cases h
    | some ρ1 =>
      rw [e] at h
      simp only at h
      obtain ⟨v, rs, rfl, h1, h2⟩ := r.inv
      simp only [gTs]
      refine ⟨v, rs, rfl, gT_ok t d v ρ ρ1 σ e h1 E fun σ1 E1 w1 => gTs_ok ts ds rs ρ1 ρ' σ1 h h2 E1 fun σ2 E2 w2 => q σ2 E2 fun ws hw => ?_⟩
      rw [w2 ws fun i hi => hw i (by simp only [slotsL]; exact List.mem_append_right _ hi), w1 ws fun i hi => hw i (by simp only [slotsL]; exact List.mem_append_left _ hi)]
theorem asgs_len : ∀ (ts : List Tgt) (ds : List D) (ρ ρ' : Env), asgs ts ds ρ = some ρ' → ts.length = ds.length
  | [], [], ρ, ρ', h => rfl
  | [], _ :: _, ρ, ρ', h => by simp [asgs] at h
  | _ :: _, [], ρ, ρ', h => by simp [asgs] at h
  | t :: ts, d :: ds, ρ, ρ', h => by
    simp only [asgs] at h
    cases e : asg t d ρ with
    | none => rw [e] at h; cases h
    | some ρ1 =>
      rw [e] at h
      rw [List.length_cons, List.length_cons, asgs_len ts ds ρ1 ρ' h]
end
end

/-! ### 2. list comprehensions -/
def bYes : SB := fun _ _ μ => .ok true μ
/-- nothing is raised out of a comprehension -/
def Res.nox {α : Type} (r : Res α) : Res α := match r with
  | .ok a μ => .ok a μ
  | _ => .bad
def lcStep (F : Fns) (t : Tgt) (ifs : SB) (elt : SE) (ρ0 : Env) (d : D) (μ : Sto) : Res (Option D) := match asg t d ρ0 with
  | none => .bad
  | some ρ => (ifs F ρ μ).nox.bind fun b μ1 => match b with
    | true => (elt F ρ μ1).nox.bind fun v μ2 => match v.frz μ2 with
      | some (x, μ3) => .ok (some x) μ3
      | none => .bad
    | false => .ok none μ1
def lcLoop (s : Src) (step : D → Sto → Res (Option D)) : Nat → Nat → Sto → Res (List D)
  | 0, _, _ => .bad
  | n + 1, i, μ => match s.at μ with
    | none => .bad
    | some ds => match ds[i]? with
      | none => .ok [] μ
      | some d => if i < LIM then (step d μ).bind fun o μ1 => (lcLoop s step n (i + 1) μ1).bind fun r μ2 => match o with
        | some x => .ok (x :: r) μ2
        | none => .ok r μ2
        else .bad
def Src.len (s : Src) (μ : Sto) : Nat := match s.at μ with
  | some ds => ds.length
  | none => 0
def eLc (it : SI) (t : Tgt) (ifs : SB) (elt : SE) (own : List Nat) : SE := fun F ρ μ => (it F ρ μ).bind fun s μ1 =>
  (lcLoop s (lcStep F t ifs elt (wipeE ρ own)) (s.len μ1 + 1) 0 μ1).bind fun ds μ2 => if ds.length ≤ LIM then .ok (.new (.lst ds)) μ2 else .bad

section
variable {K : PySem.W.Frag} {Acc : Addr → Prop} {ι : List Addr} {μ : Sto} {H : Hp}
theorem Sim.less {Acc' : Addr → Prop} (S : Sim K Acc' μ ι H) (h : ∀ a, Acc a → Acc' a) : Sim K Acc μ ι H := by
  refine ⟨S.len, S.nd, fun a ha => S.acc a (h a ha), fun k c e => ?_, fun a ha => S.hot a (ha.imp id (h a))⟩
  obtain ⟨a, e1, r⟩ := S.cell k c e
  exact ⟨a, e1, r.mv (fun a o e n => ⟨e, fun z => n (z.imp id (h a))⟩) fun _ e => e⟩
theorem Stp.less {Acc' : Addr → Prop} {ι' : List Addr} {μ' : Sto} {H' : Hp} (t : Stp K Acc' ι μ H ι' μ' H') (h : ∀ a, Acc a → Acc' a) : Stp K Acc ι μ H ι' μ' H' := ⟨t.sim.less h, t.pre, t.keep, t.trk, t.liv⟩
/-- the touched one is written -/
theorem Sim.wr (S : Sim K Acc μ ι H) {p : Addr} (hp : Acc p) (o : HO) (ho : ∀ o' kvs, o ≠ .frz o' (.dK kvs) := by intro _ _ z; cases z) : Sim K Acc μ ι (upd H p o) ∧ Mv (Liv Acc μ ι) H (Liv Acc μ ι) (upd H p o) := by
  have m : Mv (Liv Acc μ ι) H (Liv Acc μ ι) (upd H p o) := fun a u e l => ⟨by
    have ne : a ≠ p := fun z => l (.inr (z ▸ hp))
    rw [upd_ne ne]; exact e, l⟩
  refine ⟨⟨S.len, S.nd, fun a h => ⟨(S.acc a h).1, ?_⟩, fun k c e => ?_, fun a h o' kvs => ?_⟩, m⟩
  rotate_left 2
  · by_cases e : a = p
    · subst e; rw [upd_same]; exact fun z => ho o' kvs (by cases z; rfl)
    · rw [upd_ne e]; exact S.hot a h o' kvs
  · by_cases e : a = p
    · subst e; rw [upd_same]; simp
    · rw [upd_ne e]; exact (S.acc a h).2
  · obtain ⟨a, e1, r⟩ := S.cell k c e
    refine ⟨a, e1, r.mv m fun u hu => ?_⟩
    have ne : a ≠ p := fun z => (S.acc p hp).1 (z ▸ List.mem_of_getElem? e1)
    rw [upd_ne ne]; exact hu
end
abbrev W0 : WX := fun _ _ _ _ => False
section
variable {K : PySem.W.Frag} {XC : Nat → Addr} {F : Fns} {W : WX} {Acc : Addr → Prop} {ι : List Addr} {μ : Sto} {H : Hp} {σ : L2.St}
theorem SvR.mvM {L L' : Addr → Prop} {H H' : Hp} {s : SV} {v : V} (m : Mv L H L' H') (h : SvR K L ι H s v) : SvR K L' ι H' s v := by
  cases s with
  | dat d => exact Rep.mv m _ _ h
  | cel k => exact h
theorem EnvR.mvM {L L' : Addr → Prop} {H H' : Hp} {ρ : Env} (m : Mv L H L' H') (E : EnvR K L ι H ρ σ) : EnvR K L' ι H' ρ σ := ⟨E.1, fun i s e => let ⟨v, e1, r⟩ := E.2 i s e; ⟨v, e1, r.mvM m⟩⟩
theorem Mv.trans {L L1 L2 : Addr → Prop} {H H1 H2 : Hp} (a : Mv L H L1 H1) (b : Mv L1 H1 L2 H2) : Mv L H L2 H2 := fun x o h n => let ⟨h1, n1⟩ := a x o h n; b x o h1 n1
/-- an inner run, of which no exception comes -/
theorem rd.inner {α β γ δ : Type} {Rel : (Addr → Prop) → Sto → List Addr → Hp → Hp → α → β → Prop} {Rel2 : (Addr → Prop) → Sto → List Addr → Hp → Hp → γ → δ → Prop} {Acc' : Addr → Prop} {f : Fns → Env → Sto → Res α} {ρ : Env} {μ0 : Sto} {H0 : Hp} {σ0 : L2.St} {g : α → Sto → Res γ} {Q : δ → Hp → Prop} {P : β → Hp → Prop}
    (S : Sim K Acc' μ ι H) (E : EnvR K (Liv Acc' μ ι) ι H ρ σ) (h : wp Rel2 K XC W Acc ι μ0 H0 σ0 ((f F ρ μ).nox.bind g) Q)
    (k : ∀ a μ' b H', Stp K Acc' ι μ H ι μ' H' → Rel Acc' μ' ι H H' a b → wp Rel2 K XC W Acc ι μ0 H0 σ0 (g a μ') Q → P b H') : rd K XC F W0 Rel f σ H P := by
  refine ⟨Acc', ι, ρ, μ, S, E, ?_⟩
  cases e : f F ρ μ with
  | ok a μ' => rw [e] at h; exact fun b H' t' rl => k a μ' b H' t' rl h
  | exc x μ' => rw [e] at h; exact h.elim
  | bad => rw [e] at h; exact h.elim
theorem lc_read {it : SI} {t : Tgt} {fi : SB} {fe : SE} {vs : List Nat} {Q : VK} (hsl : ∀ i ∈ t.slots, i ∈ vs) (h : rdE K XC F W (eLc it t fi fe vs) σ H Q) : tLc (rdI K XC F W it) (gT K t) (rdB K XC F W0 fi) (rdE K XC F W0 fe) vs σ H Q := by
  obtain ⟨Acc, ι, ρ, μ, S, E, h⟩ := h
  refine ⟨Acc, ι, ρ, μ, S, E, ?_⟩
  unfold eLc at h
  cases er : it F ρ μ with
  | bad => rw [er] at h; exact h
  | exc x μ1 => rw [er] at h; exact h
  | ok s μ1 =>
    rw [er] at h
    simp only [Res.bind] at h
    intro J H1 t1 jr Dl hD
    have S1 := t1.sim.more hD (.lst [])
    have m1 : Mv (Liv Acc μ1 ι) H1 (Liv (fun a => Acc a ∨ a = Dl) μ1 ι) (upd H1 Dl (.lst [])) := fun a u e l => by
      refine ⟨by rw [upd_ne (ne_of_none e hD)]; exact e, fun z => ?_⟩
      rcases z with z | z | z
      · exact l (.inl z)
      · exact l (.inr z)
      · subst z; rw [hD] at e; cases e
    have E1 : EnvR K (Liv Acc μ1 ι) ι H1 ρ σ := E.mv t1 S
    refine ⟨fun i m Hc => ∃ (μi : Sto) (accD : List D) (accV : List V), Stp K Acc ι μ H ι μi Hc ∧ Sim K (fun a => Acc a ∨ a = Dl) μi ι Hc ∧ Mv (Liv Acc μ1 ι) H1 (Liv (fun a => Acc a ∨ a = Dl) μi ι) Hc ∧ Hc Dl = some (.lst accV) ∧ accD.length ≤ i ∧
      Reps K (Liv (fun a => Acc a ∨ a = Dl) μi ι) Hc accD accV ∧ wp (relE K) K XC W Acc ι μ H σ ((lcLoop s (lcStep F t fi fe (wipeE ρ vs)) m i μi).bind fun ds μ2 => if (accD ++ ds).length ≤ LIM then .ok (.new (.lst (accD ++ ds))) μ2 else .bad) Q,
      ⟨s.len μ1 + 1, μ1, [], [], t1.trans (t1.sim.up hD _), S1, m1, upd_same, Nat.le_refl _, Reps.nil, h⟩, ?_⟩
    rintro i m Hc ⟨μi, accD, accV, tc, Sc, mc, hDl, hlen, racc, hw⟩
    cases m with
    | zero => exact hw.elim
    | succ m =>
      unfold lcLoop at hw
      cases ea : s.at μi with
      | none => rw [ea] at hw; exact hw.elim
      | some ds =>
        rw [ea] at hw
        simp only at hw
        have j := jr (fun a => Acc a ∨ a = Dl) ι μi Hc Sc mc (fun k a e => e) ds ea i
        cases ei : ds[i]? with
        | none =>
          rw [ei] at hw
          have hl : ds.length ≤ i := List.getElem?_eq_none_iff.mp ei
          refine .inl ⟨j.2 hl, ?_⟩
          simp only [Res.bind, List.append_nil] at hw
          by_cases hz : accD.length ≤ LIM
          · rw [if_pos hz] at hw
            refine hw (.ref Dl) Hc tc ⟨⟨Dl, rfl, t1.back hD, accV, hDl, ?_⟩, fun q e => by cases e; exact ⟨Sc, accV, hDl, racc⟩⟩
            exact Reps.mv (fun a o e n => ⟨e, fun z => n (z.imp id .inl)⟩) _ _ racc
          · rw [if_neg hz] at hw; exact hw.elim
        | some d =>
          rw [ei] at hw
          simp only at hw
          by_cases hLi : i < LIM
          case neg => rw [if_neg hLi] at hw; exact hw.elim
          rw [if_pos hLi] at hw
          obtain ⟨jg, jy⟩ := j.1 d ei
          refine .inr ⟨jg, fun Hn => ∃ (μn : Sto) (accD' : List D) (accV' : List V), Stp K Acc ι μ H ι μn Hn ∧ Sim K (fun a => Acc a ∨ a = Dl) μn ι Hn ∧ Mv (Liv Acc μ1 ι) H1 (Liv (fun a => Acc a ∨ a = Dl) μn ι) Hn ∧ Hn Dl = some (.lst accV') ∧ accD'.length ≤ i + 1 ∧
            Reps K (Liv (fun a => Acc a ∨ a = Dl) μn ι) Hn accD' accV' ∧ wp (relE K) K XC W Acc ι μ H σ ((lcLoop s (lcStep F t fi fe (wipeE ρ vs)) m (i + 1) μn).bind fun ds μ2 => if (accD' ++ ds).length ≤ LIM then .ok (.new (.lst (accD' ++ ds))) μ2 else .bad) Q,
            fun H' hn => ⟨m, Nat.lt_succ_self m, hn⟩, fun x Hy hy => ?_⟩
          obtain ⟨ty, ry⟩ := jy x Hy hy
          have my := ty.mv Sc
          have mcy := mc.trans my
          unfold lcStep at hw
          cases easg : asg t d (wipeE ρ vs) with
          | none => rw [easg] at hw; exact hw.elim
          | some ρ2 =>
            rw [easg] at hw
            simp only at hw
            refine gT_ok t d x (wipeE ρ vs) ρ2 (wipe σ vs) easg ry ((E1.wiped vs).mvM mcy) fun σ2 E2 w2 => ⟨?_, ?_⟩
            · rw [w2 vs hsl]
              have ww : ∀ (us : List Nat), (∀ i ∈ us, i ∈ vs) → wipe (wipe σ vs) us = wipe σ vs := by
                intro us
                induction us with
                | nil => intro _; rfl
                | cons u us ih =>
                  intro hu
                  show (wipe (wipe σ vs) us).set u none = _
                  rw [ih fun i hi => hu i (List.mem_cons_of_mem _ hi)]
                  have hm := hu u List.mem_cons_self
                  have : ∀ (xs : List Nat), u ∈ xs → (wipe σ xs).set u none = wipe σ xs := by
                    intro xs
                    induction xs with
                    | nil => intro h; exact absurd h (by simp)
                    | cons y ys ihy =>
                      intro h
                      show ((wipe σ ys).set y none).set u none = (wipe σ ys).set y none
                      by_cases e : y = u
                      · subst e; rw [List.set_set]
                      · rw [List.set_comm _ _ e, ihy (by rcases List.mem_cons.mp h with z | z; exact absurd z.symm e; exact z)]
                  exact this vs hm
              exact ww vs fun _ h => h
            · -- the tests
              have hw2 : wp (relE K) K XC W Acc ι μ H σ ((fi F ρ2 μi).nox.bind fun b μa => (match b with
                  | true => (fe F ρ2 μa).nox.bind fun v μ2 => match v.frz μ2 with
                    | some (x, μ3) => .ok (some x) μ3
                    | none => .bad
                  | false => .ok none μa : Res (Option D)).bind fun o μb => (lcLoop s (lcStep F t fi fe (wipeE ρ vs)) m (i + 1) μb).bind fun r μ2 => (match o with
                    | some x => .ok (x :: r) μ2
                    | none => .ok r μ2 : Res (List D)).bind fun ds μ2 => if (accD ++ ds).length ≤ LIM then .ok (.new (.lst (accD ++ ds))) μ2 else .bad) Q := by
                have bb : ∀ {α β γ : Type} (r : Res α) (f : α → Sto → Res β) (g : β → Sto → Res γ), (r.bind f).bind g = r.bind fun a μ => (f a μ).bind g := fun r f g => by cases r <;> rfl
                rw [bb, bb] at hw
                simp only [bb] at hw ⊢
                exact hw
              refine rd.inner ty.sim E2 hw2 fun b μa b' Ha ta ra ha => ?_
              have eb : b' = b := ra
              subst eb
              have tya := ty.trans ta
              have DL : ∀ {μx : Sto} {Hx : Hp}, Stp K (fun a => Acc a ∨ a = Dl) ι μi Hc ι μx Hx → Hx Dl = some (.lst accV) := fun {μx Hx} tx => tx.keep Dl _ hDl fun z => (Sc.acc Dl (.inr rfl)).1 z.mem
              cases b' with
              | false =>
                refine ⟨μa, accD, accV, tc.trans (tya.less fun a h => .inl h), tya.sim, mc.trans (tya.mv Sc), DL tya, Nat.le_succ_of_le hlen, Reps.mv (tya.mv Sc) _ _ racc, ?_⟩
                simp only [Res.bind] at ha ⊢
                cases el : lcLoop s (lcStep F t fi fe (wipeE ρ vs)) m (i + 1) μa with
                | bad => rw [el] at ha; exact ha
                | exc x μb => rw [el] at ha; exact ha
                | ok r μb => rw [el] at ha; exact ha
              | true =>
                simp only at ha
                have bb : ∀ {α β γ : Type} (r : Res α) (f : α → Sto → Res β) (g : β → Sto → Res γ), (r.bind f).bind g = r.bind fun a μ => (f a μ).bind g := fun r f g => by cases r <;> rfl
                rw [bb] at ha
                simp only [if_true]
                refine rd.inner ta.sim (E2.mv ta ty.sim) ha fun v μb y Hb tb rb hb => ?_
                have tyb := tya.trans tb
                cases ef : v.frz μb with
                | none => rw [ef] at hb; exact hb.elim
                | some p =>
                  obtain ⟨xd, μc⟩ := p
                  rw [ef] at hb
                  simp only [Res.bind] at hb
                  obtain ⟨tf, rx⟩ := frz_ok tb.sim (fun a ha => ta.sim.trk ha) ta.sim.accT rb.1 ef
                  have tyf := tyb.trans tf
                  refine ⟨accV, DL tyb, ?_, ?_⟩
                  · have := racc.len
                    rw [this]
                    have h2 : (LIM : Nat) ≤ sizeLine := by decide
                    omega
                  · obtain ⟨Sw, mw⟩ := tyf.sim.wr (.inr rfl : (fun a => Acc a ∨ a = Dl) Dl) (.lst (accV ++ [y]))
                    refine ⟨μc, accD ++ [xd], accV ++ [y], ?_, Sw, (mc.trans (tyf.mv Sc)).trans mw, upd_same, by rw [List.length_append]; exact Nat.succ_le_succ hlen, (Reps.mv ((tyf.mv Sc).trans mw) _ _ racc).app (Reps.cons (Rep.mv mw _ _ rx) Reps.nil), ?_⟩
                    · have tl := tc.trans (tyf.less (Acc := Acc) fun a h => .inl h)
                      refine ⟨Sw.less fun a h => .inl h, tl.pre, fun a o e n => ?_, fun a n => ?_, fun a z => tl.liv a z⟩
                      · have ne : a ≠ Dl := fun z => by subst z; rw [t1.back hD] at e; cases e
                        rw [upd_ne ne]
                        exact tl.keep a o e n
                      · by_cases e : a = Dl
                        · subst e; rw [upd_same]; simp
                        · rw [upd_ne e]; exact tl.trk a n
                    · cases el : lcLoop s (lcStep F t fi fe (wipeE ρ vs)) m (i + 1) μc with
                      | bad => rw [el] at hb; exact hb
                      | exc x μb => rw [el] at hb; exact hb
                      | ok r μd =>
                        rw [el] at hb
                        simp only [Res.bind, List.append_assoc, List.singleton_append] at hb ⊢
                        exact hb
end
end VM
/-! Statements. -/
namespace VM
open PySem L2 PyProof.Rows

def wpS (K : PySem.W.Frag) (XC : Nat → Addr) (W : WX) (Acc : Addr → Prop) (ι : List Addr) (μ : Sto) (H : Hp) (r : Res SO) (D : Ends) : Prop := match r with
  | .ok (.nx ρ') μ' => ∀ ι' H' σ', Stp K Acc ι μ H ι' μ' H' → EnvR K (Liv Acc μ' ι') ι' H' ρ' σ' → D.nx σ' H'
  | .ok (.bk ρ') μ' => ∀ ι' H' σ', Stp K Acc ι μ H ι' μ' H' → EnvR K (Liv Acc μ' ι') ι' H' ρ' σ' → D.bk σ' H'
  | .ok (.ct ρ') μ' => ∀ ι' H' σ', Stp K Acc ι μ H ι' μ' H' → EnvR K (Liv Acc μ' ι') ι' H' ρ' σ' → D.ct σ' H'
  | .ok (.rt v) μ' => ∀ ι' H' u, Stp K Acc ι μ H ι' μ' H' → EvR K (Liv Acc μ' ι') ι' H H' v u → OwnR K Acc μ' ι' H' v u → D.rt u H'
  | .exc x μ' => ∀ ι' H' c d σ', Stp K Acc ι μ H ι' μ' H' → ExcR K XC (Liv Acc μ' ι') H H' x c d → W c d σ' H'
  | .bad => False
def rdS (K : PySem.W.Frag) (XC : Nat → Addr) (F : Fns) (W : WX) (f : SS) : TS := fun D σ H =>
  ∃ (Acc : Addr → Prop) (ι : List Addr) (ρ : Env) (μ : Sto), Sim K Acc μ ι H ∧ EnvR K (Liv Acc μ ι) ι H ρ σ ∧ wpS K XC W Acc ι μ H (f F ρ μ) D

section
variable {K : PySem.W.Frag} {XC : Nat → Addr} {F : Fns} {W : WX} {Acc : Addr → Prop} {ι ι1 ι2 : List Addr} {μ μ1 μ2 : Sto} {H H0 H1 H2 : Hp} {σ : L2.St} {D : Ends}
theorem wpS.shift {r : Res SO} (t : Stp K Acc ι μ H ι1 μ1 H1) (h : wpS K XC W Acc ι μ H r D) : wpS K XC W Acc ι1 μ1 H1 r D := by
  cases r with
  | bad => exact h
  | exc x μ' => exact fun ι' H' c d σ' t' e => h ι' H' c d σ' (t.trans t') (e.back t)
  | ok o μ' =>
    cases o with
    | nx ρ' => exact fun ι' H' σ' t' e => h ι' H' σ' (t.trans t') e
    | bk ρ' => exact fun ι' H' σ' t' e => h ι' H' σ' (t.trans t') e
    | ct ρ' => exact fun ι' H' σ' t' e => h ι' H' σ' (t.trans t') e
    | rt v => exact fun ι' H' u t' e o => h ι' H' u (t.trans t') (EvR.back t e) o
theorem rdS.last {f : SS} {ρ : Env} (t : Stp K Acc ι μ H ι1 μ1 H1) (E : EnvR K (Liv Acc μ1 ι1) ι1 H1 ρ σ) (h : wpS K XC W Acc ι μ H (f F ρ μ1) D) : rdS K XC F W f D σ H1 := ⟨Acc, ι1, ρ, μ1, t.sim, E, wpS.shift t h⟩
/-- an expression at a statement's head -/
theorem rd.stm {α β : Type} {Rel : (Addr → Prop) → Sto → List Addr → Hp → Hp → α → β → Prop} {f : Fns → Env → Sto → Res α} {ρ : Env} {g : α → Sto → Res SO} {P : β → Hp → Prop}
    (t : Stp K Acc ι μ H ι1 μ1 H1) (E : EnvR K (Liv Acc μ1 ι1) ι1 H1 ρ σ) (h : wpS K XC W Acc ι μ H ((f F ρ μ1).bind g) D)
    (k : ∀ a μ' b H', Stp K Acc ι1 μ1 H1 ι1 μ' H' → Rel Acc μ' ι1 H1 H' a b → wpS K XC W Acc ι μ H (g a μ') D → P b H') : rd K XC F W Rel f σ H1 P := by
  refine ⟨Acc, ι1, ρ, μ1, t.sim, E, ?_⟩
  cases e : f F ρ μ1 with
  | ok a μ' => rw [e] at h; exact fun b H' t' rl => k a μ' b H' t' rl h
  | exc x μ' => rw [e] at h; exact fun c d H' t' rl => h ι1 H' c d σ (t.trans t') (rl.back t)
  | bad => rw [e] at h; exact h
/-- a new object becomes a cell -/
theorem Sim.grow (S0 : Sim K Acc μ ι H) (t : Stp K Acc ι μ H ι1 μ1 H1) {c : CV} {p : Addr} (n : H p = none) (ow : Sim K (fun a => Acc a ∨ a = p) μ1 ι1 H1) (r : CvR K (Liv (fun a => Acc a ∨ a = p) μ1 ι1) H1 c p) : Stp K Acc ι μ H (ι1 ++ [p]) (μ1 ++ [⟨true, c⟩]) H1 := by
  have pn : p ∉ ι1 := (ow.acc p (.inr rfl)).1
  have hl : ι1.length = μ1.length := t.sim.len
  have cl : ∀ a, Cel (μ1 ++ [⟨true, c⟩]) (ι1 ++ [p]) a → Cel μ1 ι1 a ∨ a = p := fun a ⟨k, c', e, l, h⟩ => by
    by_cases hk : k < μ1.length
    · rw [List.getElem?_append_left hk] at e
      rw [List.getElem?_append_left (by omega)] at h
      exact .inl ⟨k, c', e, l, h⟩
    · by_cases hk2 : k = μ1.length
      · subst hk2
        rw [← hl, List.getElem?_append_right (Nat.le_refl _), Nat.sub_self] at h
        exact .inr (by simpa using h.symm)
      · rw [List.getElem?_eq_none (by rw [List.length_append, List.length_singleton]; omega)] at e
        cases e
  have m : Mv (Liv (fun a => Acc a ∨ a = p) μ1 ι1) H1 (Liv Acc (μ1 ++ [⟨true, c⟩]) (ι1 ++ [p])) H1 := fun a o e nl => ⟨e, fun z => nl (by
    rcases z with z | z
    · rcases cl a z with z | z
      · exact .inl z
      · exact .inr (.inr z)
    · exact .inr (.inl z))⟩
  refine ⟨⟨by rw [List.length_append, List.length_append, hl] <;> rfl, ?_, fun a ha => ⟨fun z => ?_, (t.sim.acc a ha).2⟩, fun k c' e => ?_, fun a z => ow.hot a (z.elim (fun z => (cl a z).elim .inl fun e => .inr (.inr e)) fun z => .inr (.inl z))⟩, ?_, t.keep, t.trk, fun a z => ?_⟩
  · exact List.nodup_append.mpr ⟨t.sim.nd, by simp, fun a ha b hb e => pn (by rw [List.mem_singleton.mp hb] at e; rw [← e]; exact ha)⟩
  · rcases List.mem_append.mp z with z | z
    · exact (t.sim.acc a ha).1 z
    · have e : a = p := List.mem_singleton.mp z
      subst e
      exact (S0.acc a ha).2 n
  · by_cases hk : k < μ1.length
    · rw [List.getElem?_append_left hk] at e
      obtain ⟨a, e1, r1⟩ := ow.cell k c' e
      exact ⟨a, by rw [List.getElem?_append_left (by omega)]; exact e1, r1.mv m fun _ e => e⟩
    · by_cases hk2 : k = μ1.length
      · subst hk2
        rw [List.getElem?_append_right (Nat.le_refl _), Nat.sub_self] at e
        have e' : c' = ⟨true, c⟩ := by simpa using e.symm
        subst e'
        refine ⟨p, by rw [← hl, List.getElem?_append_right (Nat.le_refl _), Nat.sub_self]; rfl, ?_⟩
        exact r.mv m fun _ e => e
      · rw [List.getElem?_eq_none (by rw [List.length_append, List.length_singleton]; omega)] at e
        cases e
  · obtain ⟨ex, e, ne⟩ := t.pre
    refine ⟨ex ++ [p], by rw [e, List.append_assoc], fun a ha => ?_⟩
    rcases List.mem_append.mp ha with ha | ha
    · exact ne a ha
    · rw [List.mem_singleton.mp ha]; exact n
  · rcases cl a z with z | z
    · exact t.liv a z
    · subst z; exact .inr n
end

/-! ### 2. what a slot gets -/
/-- a value is bound: a new object becomes a cell -/
def EV.bnd (v : EV) (μ : Sto) : SV × Sto := match v with
  | .dat d => (.dat d, μ)
  | .cel k => (.cel k, μ)
  | .new c => (.cel μ.length, μ ++ [⟨true, c⟩])
section
variable {K : PySem.W.Frag} {XC : Nat → Addr} {F : Fns} {W : WX} {Acc : Addr → Prop} {ι ι1 ι2 : List Addr} {μ μ1 μ2 : Sto} {H H0 H1 H2 : Hp} {σ : L2.St} {D : Ends}
theorem bnd_ok {v : EV} {x : V} (S : Sim K Acc μ ι H) (t : Stp K Acc ι μ H ι μ1 H1) (r : EvR K (Liv Acc μ1 ι) ι H H1 v x) (o : OwnR K Acc μ1 ι H1 v x) :
    ∃ ι', Stp K Acc ι μ H ι' (v.bnd μ1).2 H1 ∧ SvR K (Liv Acc (v.bnd μ1).2 ι') ι' H1 (v.bnd μ1).1 x := by
  cases v with
  | dat d => exact ⟨ι, t, r⟩
  | cel k => exact ⟨ι, t, r⟩
  | new c =>
    obtain ⟨p, e, n, _⟩ := r
    subst e
    obtain ⟨ow, rr⟩ := o p rfl
    refine ⟨ι ++ [p], Sim.grow S t n ow rr, p, ?_, rfl⟩
    show (ι ++ [p])[μ1.length]? = some p
    rw [← t.sim.len, List.getElem?_append_right (Nat.le_refl _), Nat.sub_self]; rfl

/-! ### 3. statements -/
def sSeq (a b : SS) : SS := fun F ρ μ => match a F ρ μ with
  | .ok (.nx ρ1) μ1 => b F ρ1 μ1
  | r => r
def sPass : SS := fun _ ρ μ => .ok (.nx ρ) μ
def sBrk : SS := fun _ ρ μ => .ok (.bk ρ) μ
def sCnt : SS := fun _ ρ μ => .ok (.ct ρ) μ
def sNever : SS := fun _ _ _ => .bad
def sDrop (e : SE) : SS := fun F ρ μ => (e F ρ μ).bind fun _ μ1 => .ok (.nx ρ) μ1
def sRet (e : SE) : SS := fun F ρ μ => (e F ρ μ).bind fun v μ1 => .ok (.rt v) μ1
def sRetN : SS := fun _ _ μ => .ok (.rt (.dat .non)) μ
def sIf (c : SB) (a b : SS) : SS := fun F ρ μ => (c F ρ μ).bind fun t μ1 => match t with
  | true => a F ρ μ1
  | false => b F ρ μ1
def sSet (i : Nat) (e : SE) : SS := fun F ρ μ => (e F ρ μ).bind fun v μ1 => .ok (.nx (ρ.set i (some (v.bnd μ1).1))) (v.bnd μ1).2
def sPar (i j : Nat) (a b : SE) : SS := fun F ρ μ => (a F ρ μ).bind fun v μ1 => (b F ρ (v.bnd μ1).2).bind fun w μ2 =>
  .ok (.nx ((ρ.set i (some (v.bnd μ1).1)).set j (some (w.bnd μ2).1))) (w.bnd μ2).2
def sPar3 (i j l : Nat) (a b c : SE) : SS := fun F ρ μ => (a F ρ μ).bind fun v μ1 => (b F ρ (v.bnd μ1).2).bind fun w μ2 => (c F ρ (w.bnd μ2).2).bind fun u μ3 =>
  .ok (.nx (((ρ.set i (some (v.bnd μ1).1)).set j (some (w.bnd μ2).1)).set l (some (u.bnd μ3).1))) (u.bnd μ3).2
def whL (c : Env → Sto → Res Bool) (b : Env → Sto → Res SO) : Nat → Env → Sto → Res SO
  | 0, _, _ => .bad
  | n + 1, ρ, μ => (c ρ μ).bind fun t μ1 => match t with
    | true => match b ρ μ1 with
      | .ok (.nx ρ1) μ2 => whL c b n ρ1 μ2
      | .ok (.ct ρ1) μ2 => whL c b n ρ1 μ2
      | .ok (.bk ρ1) μ2 => .ok (.nx ρ1) μ2
      | r => r
    | false => .ok (.nx ρ) μ1
def sWhile (c : SB) (b : SS) : SS := fun F ρ μ => whL (c F) (b F) LIM ρ μ
end
section
variable {X : Cx} {XC : Nat → Addr} {F : Fns} {W : WX} {st : Stmt} {rest : List Stmt} {pos : Pos}
theorem wpS.k {K : PySem.W.Frag} {Acc : Addr → Prop} {ι ι1 : List Addr} {μ μ1 : Sto} {H H1 : Hp} {D : Ends} {f : SS} {ρ : Env} {σ : L2.St} (t : Stp K Acc ι μ H ι1 μ1 H1) (E : EnvR K (Liv Acc μ1 ι1) ι1 H1 ρ σ) (h : wpS K XC W Acc ι μ H (f F ρ μ1) D) : rdS K XC F W f D σ H1 := rdS.last t E h
theorem s_seq {a b : SS} (h1 : PS X st (rdS X.K XC F W a)) (h2 : PSs X rest (rdS X.K XC F W b)) : PSs X (st :: rest) (rdS X.K XC F W (sSeq a b)) :=
  PSsimp (pss_cons h1 h2) fun D σ H ⟨Acc, ι, ρ, μ, S, E, h⟩ => by
    refine ⟨Acc, ι, ρ, μ, S, E, ?_⟩
    unfold sSeq at h
    cases e : a F ρ μ with
    | bad => rw [e] at h; exact h
    | exc x μ1 => rw [e] at h; exact h
    | ok o μ1 =>
      rw [e] at h
      cases o with
      | nx ρ1 => exact fun ι' H' σ' t E' => wpS.k t E' h
      | rt v => exact h
      | bk ρ1 => exact h
      | ct ρ1 => exact h
theorem s_one {a : SS} (h1 : PS X st (rdS X.K XC F W a)) : PSs X [st] (rdS X.K XC F W a) := pss_one h1
theorem s_nil : PSs X [] (rdS X.K XC F W sPass) := PSsimp pss_nil fun D σ H ⟨Acc, ι, ρ, μ, S, E, h⟩ => h ι H σ (.refl S) E
theorem s_pass : PS X (.Pass pos) (rdS X.K XC F W sPass) := PSimp ps_pass fun D σ H ⟨Acc, ι, ρ, μ, S, E, h⟩ => h ι H σ (.refl S) E
theorem s_brk : PS X (.Break pos) (rdS X.K XC F W sBrk) := PSimp ps_break fun D σ H ⟨Acc, ι, ρ, μ, S, E, h⟩ => h ι H σ (.refl S) E
theorem s_cnt : PS X (.Continue pos) (rdS X.K XC F W sCnt) := PSimp ps_continue fun D σ H ⟨Acc, ι, ρ, μ, S, E, h⟩ => h ι H σ (.refl S) E
theorem s_never : PS X st (rdS X.K XC F W sNever) := PSimp ps_never fun D σ H ⟨Acc, ι, ρ, μ, S, E, h⟩ => h
theorem ss_never {sts : List Stmt} : PSs X sts (rdS X.K XC F W sNever) := PSsimp pss_never fun D σ H ⟨Acc, ι, ρ, μ, S, E, h⟩ => h
theorem s_doc {x j pos pos'} : PS X (.Expr (.Constant (.str x) j pos) pos') (rdS X.K XC F W sPass) := PSimp ps_doc fun D σ H ⟨Acc, ι, ρ, μ, S, E, h⟩ => h ι H σ (.refl S) E
theorem s_drop {e : Expr} {fe : SE} (he : PE X e (rdE X.K XC F W fe)) (hs : swapsWith e none pos.line X.env = pure false := by rfl) : PS X (.Expr e pos) (rdS X.K XC F W (sDrop fe)) :=
  PSimp (ps_expr he hs) fun D σ H ⟨Acc, ι, ρ, μ, S, E, h⟩ => by
    refine rd.stm (Stp.refl S) E h fun v μ1 b H1 t1 r1 h1 => ?_
    exact h1 ι H1 σ t1 (E.mv t1 S)
theorem s_ret {e : Expr} {fe : SE} (he : PE X e (rdE X.K XC F W fe)) : PS X (.Return (some e) pos) (rdS X.K XC F W (sRet fe)) :=
  PSimp (ps_ret he) fun D σ H ⟨Acc, ι, ρ, μ, S, E, h⟩ => by
    refine rd.stm (Stp.refl S) E h fun v μ1 b H1 t1 r1 h1 => ?_
    exact h1 ι H1 b t1 r1.1 r1.2
theorem s_retN : PS X (.Return none pos) (rdS X.K XC F W sRetN) := PSimp ps_retN fun D σ H ⟨Acc, ι, ρ, μ, S, E, h⟩ => h ι H V.non (.refl S) rfl trivial
theorem s_if {c : Expr} {a b : List Stmt} {fc : SB} {fa fb : SS} (hc : PT X c (rdB X.K XC F W fc)) (ha : PSs X a (rdS X.K XC F W fa)) (hb : PSs X b (rdS X.K XC F W fb)) : PS X (.If c a b pos) (rdS X.K XC F W (sIf fc fa fb)) :=
  PSimp (ps_if hc ha hb) fun D σ H ⟨Acc, ι, ρ, μ, S, E, h⟩ => by
    refine rd.stm (Stp.refl S) E h fun v μ1 b H1 t1 r1 h1 => ?_
    have r1 : b = v := r1
    subst r1
    cases b with
    | true => rw [if_pos rfl]; exact wpS.k t1 (E.mv t1 S) h1
    | false => rw [if_neg Bool.false_ne_true]; exact wpS.k t1 (E.mv t1 S) h1
theorem s_set {i : Nat} {x : Str} {e : Expr} {fe : SE} {pos' : Pos} (hN : X.N.Nodup) (hi : X.N[i]? = some x) (hx : Loc X.env.scope x) (he : PE X e (rdE X.K XC F W fe)) (hs : swapsWith e (some (.Name x pos')) pos.line X.env = pure false := by rfl) (hf : X.fn x = true ∨ X.env.scope.names.lookup x = some .local := by first | exact .inl rfl | exact .inr rfl | assumption) :
    PS X (.Assign [.Name x pos'] e pos) (rdS X.K XC F W (sSet i fe)) :=
  PSimp (ps_set hN hi hx he hs hf) fun D σ H ⟨Acc, ι, ρ, μ, S, E, h⟩ => by
    refine rd.stm (Stp.refl S) E h fun v μ1 b H1 t1 r1 h1 => ?_
    obtain ⟨ι', t', r'⟩ := bnd_ok S t1 r1.1 r1.2
    exact h1 ι' H1 _ t' ((E.mv t' S).set r')
theorem s_par {i j : Nat} {x y : Str} {a b : Expr} {fa fb : SE} {px py pt : Pos} {kt k2 pt2} (hc : X.calm = true) (hN : X.N.Nodup) (hi : X.N[i]? = some x) (hj : X.N[j]? = some y) (hij : i ≠ j)
    (hx : X.env.scope.names.lookup x = some .local) (hy : X.env.scope.names.lookup y = some .local) (ha : PE X a (rdE X.K XC F W fa)) (hb : PE X b (rdE X.K XC F W fb))
    (hw : swappedStores [.Tuple [.Name x px, .Name y py] kt pt] (.Tuple [a, b] k2 pt2) X.env = pure (some [x, y]))
    (h1 : starEach [a, b] X.env = (false, eval a X.env) :: starEach [b] X.env := by rfl) (h2 : starEach [b] X.env = (false, eval b X.env) :: starEach [] X.env := by rfl)
    (hs : swapsWithSole [.Tuple [.Name x px, .Name y py] kt pt] (.Tuple [a, b] k2 pt2) pos.line X.env = pure false := by rfl) :
    PS X (.Assign [.Tuple [.Name x px, .Name y py] kt pt] (.Tuple [a, b] k2 pt2) pos) (rdS X.K XC F W (sPar i j fa fb)) :=
  PSimp (ps_par hc hN hi hj hij hx hy (pa_cons ha (pa_cons hb pa_nil h2) h1) hw hs) fun D σ H ⟨Acc, ι, ρ, μ, S, E, h⟩ => by
    refine rd.stm (Stp.refl S) E h fun v μ1 c1 H1 t1 r1 h1 => ?_
    obtain ⟨ι1, t1', s1⟩ := bnd_ok S t1 r1.1 r1.2
    refine rd.stm t1' (E.mv t1' S) h1 fun w μ2 c2 H2 t2 r2 h2 => ?_
    obtain ⟨ι2, t2', s2⟩ := bnd_ok t1'.sim t2 r2.1 r2.2
    refine ⟨c1, c2, rfl, h2 ι2 H2 _ (t1'.trans t2') ?_⟩
    exact ((E.mv (t1'.trans t2') S).set (s1.mv t2' t1'.sim)).set s2
theorem s_par3 {i j l : Nat} {x y z : Str} {a b c : Expr} {fa fb fc : SE} {px py pz pt : Pos} {kt k2 pt2} (hc : X.calm = true) (hN : X.N.Nodup) (hi : X.N[i]? = some x) (hj : X.N[j]? = some y) (hl : X.N[l]? = some z) (hij : i ≠ j) (hil : i ≠ l) (hjl : j ≠ l)
    (hx : X.env.scope.names.lookup x = some .local) (hy : X.env.scope.names.lookup y = some .local) (hz : X.env.scope.names.lookup z = some .local) (ha : PE X a (rdE X.K XC F W fa)) (hb : PE X b (rdE X.K XC F W fb)) (hcc : PE X c (rdE X.K XC F W fc))
    (hw : swappedStores [.Tuple [.Name x px, .Name y py, .Name z pz] kt pt] (.Tuple [a, b, c] k2 pt2) X.env = pure (some [x, y, z]))
    (h1 : starEach [a, b, c] X.env = (false, eval a X.env) :: starEach [b, c] X.env := by rfl) (h2 : starEach [b, c] X.env = (false, eval b X.env) :: starEach [c] X.env := by rfl) (h3 : starEach [c] X.env = (false, eval c X.env) :: starEach [] X.env := by rfl)
    (hs : swapsWithSole [.Tuple [.Name x px, .Name y py, .Name z pz] kt pt] (.Tuple [a, b, c] k2 pt2) pos.line X.env = pure false := by rfl) :
    PS X (.Assign [.Tuple [.Name x px, .Name y py, .Name z pz] kt pt] (.Tuple [a, b, c] k2 pt2) pos) (rdS X.K XC F W (sPar3 i j l fa fb fc)) :=
  PSimp (ps_par3 hc hN hi hj hl hij hil hjl hx hy hz (pa_cons ha (pa_cons hb (pa_cons hcc pa_nil h3) h2) h1) hw hs) fun D σ H ⟨Acc, ι, ρ, μ, S, E, h⟩ => by
    refine rd.stm (Stp.refl S) E h fun v μ1 c1 H1 t1 r1 h1 => ?_
    obtain ⟨ι1, t1', s1⟩ := bnd_ok S t1 r1.1 r1.2
    refine rd.stm t1' (E.mv t1' S) h1 fun w μ2 c2 H2 t2 r2 h2 => ?_
    obtain ⟨ι2, t2', s2⟩ := bnd_ok t1'.sim t2 r2.1 r2.2
    have t12 := t1'.trans t2'
    refine rd.stm t12 (E.mv t12 S) h2 fun u μ3 c3 H3 t3 r3 h3 => ?_
    obtain ⟨ι3, t3', s3⟩ := bnd_ok t2'.sim t3 r3.1 r3.2
    refine ⟨c1, c2, c3, rfl, h3 ι3 H3 _ (t12.trans t3') ?_⟩
    exact (((E.mv (t12.trans t3') S).set (s1.mv (t2'.trans t3') t1'.sim)).set (s2.mv t3' t2'.sim)).set s3
theorem s_while {c : Expr} {body : List Stmt} {fc : SB} {fb : SS} (hp : PassesOwn (model X.prog X.w) X.A X.env X.xe) (hc : PT X c (rdB X.K XC F W fc)) (hb : PSs X body (rdS X.K XC F W fb)) : PS X (.While c body [] pos) (rdS X.K XC F W (sWhile fc fb)) :=
  PSimp (ps_while hp hc hb) fun D σ H ⟨Acc, ι, ρ, μ, S, E, h⟩ => by
    refine ⟨fun m σ H => ∃ (Acc : Addr → Prop) (ι : List Addr) (ρ : Env) (μ : Sto), Sim X.K Acc μ ι H ∧ EnvR X.K (Liv Acc μ ι) ι H ρ σ ∧ wpS X.K XC W Acc ι μ H (whL (fc F) (fb F) m ρ μ) D, ⟨LIM, Acc, ι, ρ, μ, S, E, h⟩, ?_⟩
    rintro m σ H ⟨Acc, ι, ρ, μ, S, E, h⟩
    cases m with
    | zero => exact h.elim
    | succ m =>
      unfold whL at h
      refine rd.stm (f := fc) (Stp.refl S) E h fun v μ1 b H1 t1 r1 h1 => ?_
      have r1 : b = v := r1
      subst r1
      cases b with
      | false => rw [if_neg Bool.false_ne_true]; exact h1 ι H1 σ t1 (E.mv t1 S)
      | true =>
        rw [if_pos rfl]
        refine ⟨fun σ' H' => ∃ (Acc : Addr → Prop) (ι : List Addr) (ρ : Env) (μ : Sto), Sim X.K Acc μ ι H' ∧ EnvR X.K (Liv Acc μ ι) ι H' ρ σ' ∧ wpS X.K XC W Acc ι μ H' (whL (fc F) (fb F) m ρ μ) D, fun σ' H' q => ⟨m, Nat.lt_succ_self m, q⟩, ?_⟩
        refine ⟨Acc, ι, ρ, μ1, t1.sim, E.mv t1 S, ?_⟩
        replace h1 := wpS.shift t1 h1
        simp only at h1
        cases e : fb F ρ μ1 with
        | bad => rw [e] at h1; exact h1
        | exc x μ2 => rw [e] at h1; exact h1
        | ok o μ2 =>
          rw [e] at h1
          cases o with
          | rt v => exact h1
          | bk ρ2 => exact fun ι' H' σ' t' E' => h1 ι' H' σ' t' E'
          | nx ρ2 => exact fun ι' H' σ' t' E' => ⟨Acc, ι', ρ2, μ2, t'.sim, E', wpS.shift t' h1⟩
          | ct ρ2 => exact fun ι' H' σ' t' E' => ⟨Acc, ι', ρ2, μ2, t'.sim, E', wpS.shift t' h1⟩
end
end VM
/-! Stores into cells; targets; the for loop; methods of lists and dicts. -/
namespace VM
open PySem L2 PyProof.Rows

/-! ### 1. a live cell is written -/
section
variable {K : PySem.W.Frag} {Acc : Addr → Prop} {ι : List Addr} {μ : Sto} {H : Hp}
theorem Sim.put (S : Sim K Acc μ ι H) {k : Nat} {c : Cell} {a : Addr} {c' : CV} {o : HO} (hc : μ[k]? = some c) (hl : c.live = true) (ha : ι[k]? = some a)
    (r : ∀ H', Mv (Liv Acc μ ι) H (Liv Acc μ ι) H' → H' a = some o → CvR K (Liv Acc μ ι) H' c' a) (ho : ∀ o' kvs, o ≠ .frz o' (.dK kvs) := by intro _ _ z; cases z) : Stp K Acc ι μ H ι (μ.set k ⟨true, c'⟩) (upd H a o) := by
  have hk : k < μ.length := (List.getElem?_eq_some_iff.mp hc).1
  have la : Cel μ ι a := ⟨k, c, hc, hl, ha⟩
  have le : ∀ b, Cel (μ.set k ⟨true, c'⟩) ι b ↔ Cel μ ι b := fun b => by
    constructor
    · rintro ⟨j, d, e, l, h⟩
      by_cases hj : k = j
      · subst hj
        exact ⟨k, c, hc, hl, h⟩
      · rw [List.getElem?_set_ne hj] at e
        exact ⟨j, d, e, l, h⟩
    · rintro ⟨j, d, e, l, h⟩
      by_cases hj : k = j
      · subst hj
        exact ⟨k, _, List.getElem?_set_self hk, rfl, h⟩
      · exact ⟨j, d, by rw [List.getElem?_set_ne hj]; exact e, l, h⟩
  have kp : ∀ b u, H b = some u → b ≠ a → upd H a o b = some u := fun b u e n => by rw [upd_ne n]; exact e
  have m : Mv (Liv Acc μ ι) H (Liv Acc μ ι) (upd H a o) := fun b u e n => ⟨kp b u e fun z => n (.inl (z ▸ la)), n⟩
  have m' : Mv (Liv Acc μ ι) (upd H a o) (Liv Acc (μ.set k ⟨true, c'⟩) ι) (upd H a o) := fun b u e n => ⟨e, fun z => n (z.imp (fun z => (le b).mp z) id)⟩
  have tk : ∀ b, H b ≠ none → upd H a o b ≠ none := fun b h => by
    by_cases e : b = a
    · subst e; rw [upd_same]; simp
    · rw [upd_ne e]; exact h
  refine ⟨⟨by rw [List.length_set]; exact S.len, S.nd, fun b h => ⟨(S.acc b h).1, tk b (S.acc b h).2⟩, fun j d e => ?_, fun b h o' kvs => ?_⟩, ⟨[], by simp, by simp⟩, fun b u e n => kp b u e fun z => n (z ▸ la), tk, fun b h => .inl ((le b).mp h)⟩
  rotate_left
  · by_cases e : b = a
    · subst e; rw [upd_same]; exact fun z => ho o' kvs (by cases z; rfl)
    · rw [upd_ne e]; exact S.hot b (h.imp (fun z => (le b).mp z) id) o' kvs
  by_cases hj : k = j
  · subst hj
    rw [List.getElem?_set_self hk] at e
    cases e
    exact ⟨a, ha, (r _ m upd_same).mv m' fun _ e => e⟩
  · rw [List.getElem?_set_ne hj] at e
    obtain ⟨b, e1, r1⟩ := S.cell j d e
    refine ⟨b, e1, (r1.mv m fun u hu => kp b u hu ?_).mv m' fun _ e => e⟩
    rintro rfl
    have hi : k < ι.length := (List.getElem?_eq_some_iff.mp ha).1
    exact hj ((List.getElem?_inj hi S.nd).mp (ha.trans e1.symm))
end

/-! ### 2. targets -/
abbrev SG := D → Fns → Env → Sto → Res Env
def wpG (K : PySem.W.Frag) (XC : Nat → Addr) (W : WX) (Acc : Addr → Prop) (ι : List Addr) (μ : Sto) (H : Hp) (r : Res Env) (Q : L2.St → Hp → Prop) : Prop := match r with
  | .ok ρ' μ' => ∀ σ' H', Stp K Acc ι μ H ι μ' H' → EnvR K (Liv Acc μ' ι) ι H' ρ' σ' → Q σ' H'
  | .exc x μ' => ∀ c d σ' H', Stp K Acc ι μ H ι μ' H' → ExcR K XC (Liv Acc μ' ι) H H' x c d → W c d σ' H'
  | .bad => False
def rdG (K : PySem.W.Frag) (XC : Nat → Addr) (F : Fns) (W : WX) (g : SG) : TG := fun v σ H Q =>
  ∃ (Acc : Addr → Prop) (ι : List Addr) (ρ : Env) (μ : Sto) (d : D), Sim K Acc μ ι H ∧ EnvR K (Liv Acc μ ι) ι H ρ σ ∧ Rep K (Liv Acc μ ι) H d v ∧ wpG K XC W Acc ι μ H (g d F ρ μ) Q
def sgs : List SG → List D → Fns → Env → Sto → Res Env
  | [], [], _, ρ, μ => .ok ρ μ
  | g :: gs, d :: ds, F, ρ, μ => (g d F ρ μ).bind fun ρ1 μ1 => sgs gs ds F ρ1 μ1
  | _, _, _, _, _ => .bad
def rdGs (K : PySem.W.Frag) (XC : Nat → Addr) (F : Fns) (W : WX) (gs : List SG) : TGs := fun vs σ H Q =>
  ∃ (Acc : Addr → Prop) (ι : List Addr) (ρ : Env) (μ : Sto) (ds : List D), Sim K Acc μ ι H ∧ EnvR K (Liv Acc μ ι) ι H ρ σ ∧ Reps K (Liv Acc μ ι) H ds vs ∧ wpG K XC W Acc ι μ H (sgs gs ds F ρ μ) Q
def gNm (i : Nat) : SG := fun d _ ρ μ => .ok (ρ.set i (some (.dat d))) μ
def gTp (gs : List SG) : SG := fun d F ρ μ => match d with
  | .tup ds => if ds.length = gs.length then sgs gs ds F ρ μ else .bad
  | _ => .bad
/-- the store of one place -/
def putAt (c : CV) (i d : D) : Option CV := match c, i with
  | .lst ds, .int k => match ixN ds.length k with
    | some j => some (.lst (ds.set j d))
    | none => none
  | .dic ks ds, i => match i.key with
    | some k => if ndK ks && decide (ks.length < LIM) then some (.dic (dput ks ds k d).1 (dput ks ds k d).2) else none
    | none => none
  | _, _ => none
def gSb (o i : SE) : SG := fun d F ρ μ => (o F ρ μ).bind fun v μ1 => (i F ρ μ1).bind fun w μ2 => match v with
  | .cel k => match w.see μ2, μ2[k]? with
    | some iv, some c => match c.live, putAt c.val iv d with
      | true, some c' => .ok ρ (μ2.set k ⟨true, c'⟩)
      | _, _ => .bad
    | _, _ => .bad
  | _ => .bad
def sAsg (e : SE) (g : SG) : SS := fun F ρ μ => (e F ρ μ).bind fun v μ1 => match v.frz μ1 with
  | some (d, μ2) => (g d F ρ μ2).bind fun ρ1 μ3 => .ok (.nx ρ1) μ3
  | none => .bad

def rSetLD : TSet := fun o i v H Q => rSetL o i v H Q ∨ rSetD o i v H Q
theorem set_ld {X : Cx} (hu : X.A.units + 1 < cLine) : PSet X rSetLD := fun pins s σ H o i v ov iv u Q I ro ri rv h =>
  h.elim (fun h => set_list pins s σ H o i v ov iv u Q I ro ri rv h) fun h => set_dict hu pins s σ H o i v ov iv u Q I ro ri rv h
theorem putAt_ok {K : PySem.W.Frag} {L : Addr → Prop} {H : Hp} {c c' : CV} {i d : D} {a : Addr} {y v : V} (h : putAt c i d = some c') (r : CvR K L H c a) (hot : Hot H a) (ry : SeeR K L H i y) (rv : Rep K L H d v) :
    ∃ o', (∀ o'' kvs, o' ≠ .frz o'' (.dK kvs)) ∧ (∀ Q : Hp → Prop, Q (upd H a o') → rSetLD (.ref a) y v H Q) ∧ ∀ H', Mv L H L H' → H' a = some o' → CvR K L H' c' a := by
  cases c with
  | lst ds =>
    obtain ⟨vs, e, rr⟩ := r
    cases i <;> simp only [putAt, reduceCtorEq] at h
    rename_i k
    cases hj : ixN ds.length k with
    | none => rw [hj] at h; cases h
    | some j =>
      rw [hj] at h
      cases h
      have ey : y = .int k := by simpa only [SeeR, Rep] using ry
      subst ey
      exact ⟨.lst (vs.set j v), fun _ _ z => (by cases z), fun Q q => .inl ⟨a, vs, k, j, rfl, rfl, e, by rw [rr.len]; exact hj, q⟩, fun H' m e' => ⟨_, e', Reps.mv m _ _ (Reps.set j rr rv)⟩⟩
  | dic ks ds =>
    obtain ⟨vs, e, l, rr⟩ := r
    simp only [putAt] at h
    cases hk : i.key with
    | none => rw [hk] at h; cases h
    | some k =>
      rw [hk] at h
      simp only at h
      split at h
      case isFalse => cases h
      case isTrue hz =>
        cases h
        rw [Bool.and_eq_true, decide_eq_true_eq] at hz
        have ey := key_rep hk ry
        subst ey
        obtain ⟨ws, e1, r1⟩ := val_put (ndK_ok hz.1) l rr rv
        have e : H a = some (.dK (ks.zip vs)) := e.elim id fun ⟨o, e⟩ => absurd e (hot o _)
        refine ⟨.dK (putK (ks.zip vs) k v), fun _ _ z => (by cases z), fun Q q => .inr ⟨a, _, rfl, DPut.k e ?_, q⟩, fun H' m e' => ⟨ws, .inl (by rw [e', e1]), dput_len l, Reps.mv m _ _ r1⟩⟩
        rw [List.length_zip]
        have := lim_ok (Nat.le_of_lt hz.2)
        have h2 : LIM < sizeLine := by decide
        omega
section
variable {K : PySem.W.Frag} {XC : Nat → Addr} {F : Fns} {W : WX} {Acc : Addr → Prop} {ι ι1 ι2 : List Addr} {μ μ1 μ2 : Sto} {H H0 H1 H2 : Hp} {σ : L2.St}
/-- an expression in a target -/
theorem rd.tgt {α β : Type} {Rel : (Addr → Prop) → Sto → List Addr → Hp → Hp → α → β → Prop} {f : Fns → Env → Sto → Res α} {ρ : Env} {g : α → Sto → Res Env} {P : β → Hp → Prop} {Q : L2.St → Hp → Prop}
    (t : Stp K Acc ι μ H ι μ1 H1) (E : EnvR K (Liv Acc μ1 ι) ι H1 ρ σ) (h : wpG K XC W Acc ι μ H ((f F ρ μ1).bind g) Q)
    (k : ∀ a μ' b H', Stp K Acc ι μ1 H1 ι μ' H' → Rel Acc μ' ι H1 H' a b → wpG K XC W Acc ι μ H (g a μ') Q → P b H') : rd K XC F W Rel f σ H1 P := by
  refine ⟨Acc, ι, ρ, μ1, t.sim, E, ?_⟩
  cases e : f F ρ μ1 with
  | ok a μ' => rw [e] at h; exact fun b H' t' rl => k a μ' b H' t' rl h
  | exc x μ' => rw [e] at h; exact fun c d H' t' rl => h c d σ H' (t.trans t') (rl.back t)
  | bad => rw [e] at h; exact h
theorem wpG.shift {r : Res Env} {Q : L2.St → Hp → Prop} (t : Stp K Acc ι μ H ι μ1 H1) (h : wpG K XC W Acc ι μ H r Q) : wpG K XC W Acc ι μ1 H1 r Q := by
  cases r with
  | bad => exact h
  | exc x μ' => exact fun c d σ' H' t' e => h c d σ' H' (t.trans t') (e.back t)
  | ok o μ' => exact fun σ' H' t' e => h σ' H' (t.trans t') e
end
theorem PGimp {X : Cx} {e : Expr} {t t' : TG} (h : PG X e t) (i : ∀ v σ H Q, t' v σ H Q → t v σ H Q) : PG X e t' := ⟨fun pins s σ H v u Q I r q => h.run pins s σ H v u Q I r (i v σ H Q q)⟩
theorem PGsimp {X : Cx} {e : List Expr} {t t' : TGs} (h : PGs X e t) (i : ∀ v σ H Q, t' v σ H Q → t v σ H Q) : PGs X e t' := ⟨fun pins s σ H v u Q I r q => h.run pins s σ H v u Q I r (i v σ H Q q)⟩
section
variable {X : Cx} {XC : Nat → Addr} {F : Fns} {W : WX} {pos : Pos}
theorem g_nm {i : Nat} {x : Str} (hN : X.N.Nodup) (hi : X.N[i]? = some x) (hx : Loc X.env.scope x) (hf : X.fn x = true ∨ X.env.scope.names.lookup x = some .local := by first | exact .inl rfl | exact .inr rfl | assumption) : PG X (.Name x pos) (rdG X.K XC F W (gNm i)) :=
  PGimp (pg_name hN hi hx hf) fun v σ H Q ⟨Acc, ι, ρ, μ, d, S, E, r, h⟩ => h _ H (.refl S) (E.set (s := .dat d) r)
theorem gs_nil : PGs X [] (rdGs X.K XC F W []) :=
  PGsimp pgs_nil fun vs σ H Q ⟨Acc, ι, ρ, μ, ds, S, E, r, h⟩ => by
    cases ds with
    | nil => exact ⟨r.invN, h σ H (.refl S) E⟩
    | cons d ds => exact h.elim
theorem gs_cons {e : Expr} {es : List Expr} {g : SG} {gs : List SG} (h1 : PG X e (rdG X.K XC F W g)) (h2 : PGs X es (rdGs X.K XC F W gs))
    (hs : (assignEach (e :: es) X.env).map (·.2) = assign e X.env :: (assignEach es X.env).map (·.2) := by rfl) : PGs X (e :: es) (rdGs X.K XC F W (g :: gs)) :=
  PGsimp (pgs_cons h1 h2 hs) fun vs σ H Q ⟨Acc, ι, ρ, μ, ds, S, E, r, h⟩ => by
    cases ds with
    | nil => exact h.elim
    | cons d ds =>
      obtain ⟨v, rs, rfl, r1, r2⟩ := r.inv
      refine ⟨v, rs, rfl, Acc, ι, ρ, μ, d, S, E, r1, ?_⟩
      unfold sgs at h
      cases e : g d F ρ μ with
      | bad => rw [e] at h; exact h
      | exc x μ1 => rw [e] at h; exact h
      | ok ρ1 μ1 =>
        rw [e] at h
        exact fun σ' H' t' E' => ⟨Acc, ι, ρ1, μ1, ds, t'.sim, E', Reps.mv (t'.mv S) _ _ r2, wpG.shift t' h⟩
theorem g_tp {es : List Expr} {k : Nat} {gs : List SG} {n : Nat} (hc : X.calm = true) (h : PGs X es (rdGs X.K XC F W gs)) (hl : gs.length = n := by rfl)
    (hn : (assignEach es X.env).length = n := by rfl) (hst : (assignEach es X.env).findIdx? (·.1) = none := by rfl) : PG X (.Tuple es k pos) (rdG X.K XC F W (gTp gs)) :=
  PGimp (pg_tup hc h hn hst) fun v σ H Q ⟨Acc, ι, ρ, μ, d, S, E, r, h⟩ => by
    cases d <;> try exact h.elim
    rename_i ds
    simp only [gTp] at h
    split at h
    case isFalse => exact h.elim
    case isTrue hz =>
      simp only [Rep] at r
      obtain ⟨a, vs, rfl, t, r⟩ := r
      exact ⟨a, vs, rfl, t.sq, by rw [r.len, hz, hl], Acc, ι, ρ, μ, ds, S, E, r, h⟩
theorem g_sb {o i : Expr} {fo fi : SE} (hu : X.A.units + 1 < cLine) (ho : PE X o (rdE X.K XC F W fo)) (hi : PE X i (rdE X.K XC F W fi))
    (ha : ∀ v, assign (.Subscript o i pos) X.env v = (do
      let ov ← holding [v] (eval o X.env)
      let iv ← holding [v, ov] (eval i X.env)
      standAt pos
      holding [v, ov, iv] (setItem ov iv v)
      release [v, ov, iv] []) := by intro _; rfl) : PG X (.Subscript o i pos) (rdG X.K XC F W (gSb fo fi)) :=
  PGimp (pg_sub ho hi (set_ld hu) ha) fun v σ H Q ⟨Acc, ι, ρ, μ, d, S, E, r, h⟩ => by
    refine rd.tgt (Stp.refl S) E h fun a μ1 x H1 t1 r1 h1 => ?_
    refine rd.tgt t1 (E.mv t1 S) h1 fun b μ2 y H2 t2 r2 h2 => ?_
    have t12 := t1.trans t2
    cases a with
    | dat _ => exact h2.elim
    | new _ => exact h2.elim
    | cel k =>
      obtain ⟨ad, ek, ex⟩ := r1.1
      subst ex
      simp only at h2
      cases hs : b.see μ2 with
      | none => rw [hs] at h2; exact h2.elim
      | some iv =>
        cases hc : μ2[k]? with
        | none => rw [hs, hc] at h2; exact h2.elim
        | some c =>
          rw [hs, hc] at h2
          simp only at h2
          cases hl : c.live with
          | false => rw [hl] at h2; exact h2.elim
          | true =>
            cases hp : putAt c.val iv d with
            | none => rw [hl, hp] at h2; exact h2.elim
            | some c' =>
              rw [hl, hp] at h2
              simp only at h2
              obtain ⟨b2, e2, rc⟩ := t2.sim.cell k c hc
              rw [ek] at e2; cases e2
              obtain ⟨o', q0, q1, q2⟩ := putAt_ok hp rc (t2.sim.hot _ (.inl ⟨k, c, hc, hl, ek⟩)) (see_ok t2.sim r2.1 hs) (Rep.mv (t12.mv S) _ _ r)
              have tp := t2.sim.put hc hl ek q2 q0
              exact q1 _ (h2 σ _ (t12.trans tp) (E.mv (t12.trans tp) S))
theorem s_asg {tg e : Expr} {fe : SE} {g : SG} (he : PE X e (rdE X.K XC F W fe)) (hg : PG X tg (rdG X.K XC F W g)) (hs : swapsWithSole [tg] e pos.line X.env = pure false := by rfl) (hw : swappedStores [tg] e X.env = pure none := by rfl)
    (h1 : (assignEach [tg] X.env).map (·.2) = [assign tg X.env] := by rfl) : PS X (.Assign [tg] e pos) (rdS X.K XC F W (sAsg fe g)) :=
  PSimp (ps_asg he hg hs hw h1) fun D σ H ⟨Acc, ι, ρ, μ, S, E, h⟩ => by
    refine rd.stm (Stp.refl S) E h fun v μ1 x H1 t1 r1 h1 => ?_
    cases hz : v.frz μ1 with
    | none => rw [hz] at h1; exact h1.elim
    | some p =>
      obtain ⟨d, μ2⟩ := p
      rw [hz] at h1
      simp only at h1
      obtain ⟨t2, rd⟩ := frz_ok t1.sim (fun a h => S.trk h) (fun a h => (S.acc a h).2) r1.1 hz
      have t12 := t1.trans t2
      refine ⟨Acc, ι, ρ, μ2, d, t2.sim, E.mv t12 S, rd, ?_⟩
      cases e : g d F ρ μ2 with
      | bad => rw [e] at h1; exact h1
      | exc x μ3 => rw [e] at h1; exact fun c da σ' H' t' e' => h1 ι H' c da σ' (t12.trans t') (e'.back t12)
      | ok ρ1 μ3 => rw [e] at h1; exact fun σ' H' t' E' => h1 ι H' σ' (t12.trans t') E'
end
end VM
/-! The for loop; methods of lists and dicts. -/
namespace VM
open PySem L2 PyProof.Rows

def forL (F : Fns) (s : Src) (g : SG) (b : SS) : Nat → Nat → Env → Sto → Res SO
  | 0, _, _, _ => .bad
  | n + 1, i, ρ, μ => match s.at μ with
    | none => .bad
    | some ds => match ds[i]? with
      | none => .ok (.nx ρ) μ
      | some d => (g d F ρ μ).bind fun ρ1 μ1 => match b F ρ1 μ1 with
        | .ok (.nx ρ2) μ2 => forL F s g b n (i + 1) ρ2 μ2
        | .ok (.ct ρ2) μ2 => forL F s g b n (i + 1) ρ2 μ2
        | .ok (.bk ρ2) μ2 => .ok (.nx ρ2) μ2
        | r => r
def sFor (it : SI) (g : SG) (b : SS) : SS := fun F ρ μ => (it F ρ μ).bind fun s μ1 => forL F s g b (s.len μ1 + 1) 0 ρ μ1
section
variable {X : Cx} {XC : Nat → Addr} {F : Fns} {W : WX} {pos : Pos}
theorem s_for {tg iter : Expr} {body : List Stmt} {fi : SI} {g : SG} {fb : SS} (hp : PassesOwn (model X.prog X.w) X.A X.env X.xe) (hc : X.calm = true) (hi : PI X tg iter (rdI X.K XC F W fi)) (hg : PG X tg (rdG X.K XC F W g)) (hb : PSs X body (rdS X.K XC F W fb))
    (hs : ∀ x, foldedSetIterable iter X.env x = pure x := by intro _; rfl) : PS X (.For tg iter body [] pos) (rdS X.K XC F W (sFor fi g fb)) :=
  PSimp (ps_for hp hc hi hg hb hs) fun D σ H ⟨Acc, ι, ρ, μ, S, E, h⟩ => by
    refine ⟨Acc, ι, ρ, μ, S, E, ?_⟩
    unfold sFor at h
    cases e0 : fi F ρ μ with
    | bad => rw [e0] at h; exact h
    | exc x μ1 => rw [e0] at h; exact fun c d H' t e => h ι H' c d σ t e
    | ok s μ1 =>
      rw [e0] at h
      simp only [Res.bind] at h
      intro J H1 t1 jr
      refine ⟨fun i m σ H => ∃ (Acc' : Addr → Prop) (ι' : List Addr) (ρ' : Env) (μ' : Sto), Sim X.K Acc' μ' ι' H ∧ EnvR X.K (Liv Acc' μ' ι') ι' H ρ' σ ∧ Mv (Liv Acc μ1 ι) H1 (Liv Acc' μ' ι') H ∧ (∀ (k : Nat) a, ι[k]? = some a → ι'[k]? = some a) ∧
        wpS X.K XC W Acc' ι' μ' H (forL F s g fb m i ρ' μ') D, ⟨s.len μ1 + 1, Acc, ι, ρ, μ1, t1.sim, E.mv t1 S, fun a o e n => ⟨e, n⟩, fun k a e => e, wpS.shift t1 h⟩, ?_⟩
      rintro i m σ' H' ⟨Acc', ι', ρ', μ', S', E', m', pr, h'⟩
      cases m with
      | zero => exact h'.elim
      | succ m =>
        unfold forL at h'
        cases ea : s.at μ' with
        | none => rw [ea] at h'; exact h'.elim
        | some ds =>
          rw [ea] at h'
          simp only at h'
          have j := jr Acc' ι' μ' H' S' m' pr ds ea i
          cases ei : ds[i]? with
          | none =>
            rw [ei] at h'
            exact .inl ⟨j.2 (List.getElem?_eq_none_iff.mp ei), h' ι' H' σ' (.refl S') E'⟩
          | some d =>
            rw [ei] at h'
            simp only at h'
            obtain ⟨jg, jy⟩ := j.1 d ei
            refine .inr ⟨jg, fun σ H => ∃ (Acc' : Addr → Prop) (ι' : List Addr) (ρ' : Env) (μ' : Sto), Sim X.K Acc' μ' ι' H ∧ EnvR X.K (Liv Acc' μ' ι') ι' H ρ' σ ∧ Mv (Liv Acc μ1 ι) H1 (Liv Acc' μ' ι') H ∧ (∀ (k : Nat) a, ι[k]? = some a → ι'[k]? = some a) ∧
              wpS X.K XC W Acc' ι' μ' H (forL F s g fb m (i + 1) ρ' μ') D, fun σ2 H2 q => ⟨m, Nat.lt_succ_self m, q⟩, fun x Hy hy => ?_⟩
            obtain ⟨ty, ry⟩ := jy x Hy hy
            refine ⟨Acc', ι', ρ', μ', d, ty.sim, E'.mv ty S', ry, ?_⟩
            replace h' := wpS.shift ty h'
            have my := m'.trans (ty.mv S')
            cases eg : g d F ρ' μ' with
            | bad => rw [eg] at h'; exact h'
            | exc x2 μ2 => rw [eg] at h'; exact fun c d σ2 H2 t2 e2 => h' ι' H2 c d σ2 t2 e2
            | ok ρ2 μ2 =>
              rw [eg] at h'
              simp only [Res.bind] at h'
              intro σ2 H2 t2 E2
              refine ⟨Acc', ι', ρ2, μ2, t2.sim, E2, ?_⟩
              replace h' := wpS.shift t2 h'
              have my2 := my.trans (t2.mv ty.sim)
              cases eb : fb F ρ2 μ2 with
              | bad => rw [eb] at h'; exact h'
              | exc x3 μ3 => rw [eb] at h'; exact h'
              | ok o μ3 =>
                rw [eb] at h'
                cases o with
                | rt v => exact h'
                | bk ρ3 => exact fun ι3 H3 σ3 t3 E3 => h' ι3 H3 σ3 t3 E3
                | nx ρ3 => exact fun ι3 H3 σ3 t3 E3 => ⟨Acc', ι3, ρ3, μ3, t3.sim, E3, my2.trans (t3.mv t2.sim), fun k a e => t3.get (pr k a e), wpS.shift t3 h'⟩
                | ct ρ3 => exact fun ι3 H3 σ3 t3 E3 => ⟨Acc', ι3, ρ3, μ3, t3.sim, E3, my2.trans (t3.mv t2.sim), fun k a e => t3.get (pr k a e), wpS.shift t3 h'⟩
end

/-! ### methods of a list that change it -/
abbrev Act := List D → List D → Option (D × List D)
def MtSpec (K : PySem.W.Frag) (r : V → List V → Hp → VK → Prop) (act : Act) : Prop :=
  ∀ (L : Addr → Prop) (H : Hp) (a : Addr) (ds args : List D) (xs vs : List V) (rd : D) (ds' : List D), H a = some (.lst xs) → Reps K L H ds xs → Reps K L H args vs → act ds args = some (rd, ds') →
    ∃ rv xs', Reps K L H ds' xs' ∧ Rep K L H rd rv ∧ ∀ Q : VK, Q rv (upd H a (.lst xs')) → r (.ref a) vs H Q
def eCM (act : Act) (o : SE) (a : SA) : SE := fun F ρ μ => (o F ρ μ).bind fun v μ1 => match v with
  | .cel k => match μ1[k]? with
    | some c0 => match c0.val with
      | .lst _ => (a F ρ μ1).bind fun vs μ2 => match frzs vs μ2 with
        | some (args, μ3) => match μ3[k]? with
          | some c => match c.live, c.val with
            | true, .lst ds => match act ds args with
              | some (r, ds') => .ok (.dat r) (μ3.set k ⟨true, .lst ds'⟩)
              | none => .bad
            | _, _ => .bad
          | none => .bad
        | none => .bad
      | _ => .bad
    | none => .bad
  | _ => .bad
def aAppend : Act := fun ds args => match args with
  | [d] => if ds.length < LIM then some (.non, ds ++ [d]) else none
  | _ => none
def aPop : Act := fun ds args => match args with
  | [] => match ds[ds.length - 1]? with
    | some d => some (d, ds.dropLast)
    | none => none
  | _ => none
def aPopAt : Act := fun ds args => match args with
  | [.int i] => match ixN ds.length i with
    | some j => match ds[j]? with
      | some d => if ds.length ≤ LIM then some (d, ds.eraseIdx j) else none
      | none => none
    | none => none
  | _ => none
def aInsert : Act := fun ds args => match args with
  | [.int i, d] => if 0 ≤ i ∧ i < LIM ∧ ds.length < LIM then some (.non, ds.take i.toNat ++ [d] ++ ds.drop i.toNat) else none
  | _ => none
def aExtend : Act := fun ds args => match args with
  | [.lst es] => if ds.length + es.length ≤ LIM then some (.non, ds ++ es) else none
  | [.tup es] => if ds.length + es.length ≤ LIM then some (.non, ds ++ es) else none
  | _ => none
section
open PySem.Spec
theorem extend_tuple (l : Addr) (items : Array Value) (n : Nat) (b : Addr) (dd : Option Addr) (sl : Array (Option Value)) (items2 : Array Value) (n2 : Nat) (hs0 : ¬(!items.isEmpty && Builtin.List.listTooLong (items.size + items2.size)) = true) (hs1 : items.size ≤ sizeLine) (hs2 : items.size + items2.size ≤ sizeLine + 1) :
    Meets (Builtin.«list.extend» ⟨[.ref l, .ref b], []⟩) (fun _ R s => s.heap.get? l = some { cls := .type "list", dict := none, data := .seq items n, slots := #[] } ∧ s.heap.get? b = some { cls := .type "tuple", dict := dd, data := .seq items2 n2, slots := sl } ∧ R (.ok (.ret Value.none)) { s with heap := s.heap.update l (Obj.mapSeq fun x => x ++ items2), toks := s.toks }) :=
  .of_wp fun prog w A R s h => by
    obtain ⟨hp, g, d, tk, os⟩ := s; obtain ⟨hl, hb, h⟩ := h; have f1 := AutoSeq1.idx_int; have f2 := AutoSeq1.sub_tuple_tuple; have f3 := AutoSeq1.sub_list_list; have f4 := AutoSeq1.sub_tuple_list; have f5 := AutoSeq1.sub_list_tuple;
    have hz' : (items ++ items2).size ≤ sizeLine + 1 := by rw [Array.size_append]; exact hs2
    wp_walk using (wpAny_updateSeq hl rfl (hz := hs1) (_hz' := hz')), AutoSeq1.wpAny_loadPart' hl, AutoSeq1.wpAny_loadPart' hb; exact ⟨_, rfl, h⟩
/-- x.extend of a list, of a tuple -/
def rExtB (K : PySem.W.Frag) : V → List V → Hp → VK → Prop := fun x vs H Q => rExtend x vs H Q ∨ ∃ l b xs zs, x = .ref l ∧ vs = [.ref b] ∧ H l = some (.lst xs) ∧ SqT K H b zs ∧ xs.length + zs.length ≤ sizeLine ∧ Q .non (upd H l (.lst (xs ++ zs)))
theorem mt_extB {X : Cx} : MtM X "list.extend" (rExtB X.K) := by
  intro pins s σ H x vs v us Q I rx rv h
  rcases h with h | ⟨l, b, xs, zs, rfl, rfl, hH, hB, hz, q⟩
  · exact mt_extend pins s σ H x vs v us Q I rx rv h
  · cases rx
    obtain ⟨u, rfl, ru⟩ := rv.one
    cases ru
    obtain ⟨z, its, n, r, hl, e⟩ := I.lstM hH
    obtain ⟨its2, r2, ⟨o, ho, hc, n2, hd⟩, z2⟩ := I.tuple hB
    obtain ⟨cls, dd, data, sl⟩ := o
    simp only at hc hd
    subst hc
    subst hd
    have l2 := r2.length
    have l1 := r.length
    have hsz : its.toArray.size + its2.toArray.size ≤ sizeLine := by rw [List.size_toArray, List.size_toArray]; omega
    have hlong : ¬ (!its.toArray.isEmpty && Builtin.List.listTooLong (its.toArray.size + its2.toArray.size)) = true := by
      rw [notLongL hsz, Bool.and_false]
      exact Bool.false_ne_true
    refine call_meets PySem.F.slot_list_extend ⟨_, e, rfl⟩ PySem.F.entry_list_extend (PySem.F.args_list_extend_2 _ _)
      (extend_tuple l its.toArray n b dd sl its2.toArray n2 hlong (by rw [List.size_toArray]; omega) (by omega)) ⟨e, ho, ?_⟩
    refine ⟨.non, _, I.lset (its' := its ++ its2) hH e (by simp) (r.append r2) ?_, rfl, q⟩
    rw [List.length_append]
    omega
end
section
variable {K : PySem.W.Frag}
theorem Reps.dropLast {L : Addr → Prop} {H : Hp} {ds : List D} {vs : List V} (h : Reps K L H ds vs) : Reps K L H ds.dropLast vs.dropLast := by
  rw [List.dropLast_eq_take, List.dropLast_eq_take, h.len]
  exact Reps.take _ h
theorem Reps.eraseIdx {L : Addr → Prop} {H : Hp} {ds : List D} {vs : List V} (i : Nat) (h : Reps K L H ds vs) : Reps K L H (ds.eraseIdx i) (vs.eraseIdx i) := by
  rw [List.eraseIdx_eq_take_drop_succ, List.eraseIdx_eq_take_drop_succ]
  exact (Reps.take _ h).app (Reps.drop _ h)
theorem Reps.one {L : Addr → Prop} {H : Hp} {d : D} {vs : List V} (h : Reps K L H [d] vs) : ∃ v, vs = [v] ∧ Rep K L H d v := by
  obtain ⟨v, r, e, h1, h2⟩ := h.inv
  exact ⟨v, by rw [e, h2.invN], h1⟩
theorem ms_append : MtSpec K rAppend aAppend := by
  intro L H a ds args xs vs rd ds' ha r ra h
  cases args with
  | nil => cases h
  | cons d t =>
    cases t with
    | cons _ _ => cases h
    | nil =>
      simp only [aAppend] at h
      split at h
      case isFalse => cases h
      case isTrue hz =>
        cases h
        obtain ⟨v, rfl, rv⟩ := ra.one
        refine ⟨.non, xs ++ [v], r.app (Reps.cons rv Reps.nil), rep_non, fun Q q => ⟨a, xs, v, rfl, rfl, ha, ?_, q⟩⟩
        rw [r.len]
        have h2 : LIM < sizeLine := by decide
        omega
theorem ms_pop : MtSpec K rPop aPop := by
  intro L H a ds args xs vs rd ds' ha r ra h
  cases args with
  | cons d t => cases h
  | nil =>
    simp only [aPop] at h
    cases hd : ds[ds.length - 1]? with
    | none => rw [hd] at h; cases h
    | some d =>
      rw [hd] at h
      cases h
      obtain ⟨v, hv, rv⟩ := r.get hd
      refine ⟨v, xs.dropLast, r.dropLast, rv, fun Q q => ⟨a, xs, v, rfl, ra.invN, ha, ?_, q⟩⟩
      rw [r.len]; exact hv
theorem ms_popAt : MtSpec K rPopAt aPopAt := by
  intro L H a ds args xs vs rd ds' ha r ra h
  cases args with
  | nil => cases h
  | cons d t =>
    cases t with
    | cons _ _ => cases d <;> cases h
    | nil =>
      cases d <;> try (cases h; done)
      rename_i i
      simp only [aPopAt] at h
      cases hi : ixN ds.length i with
      | none => rw [hi] at h; cases h
      | some j =>
        rw [hi] at h
        simp only at h
        cases hd : ds[j]? with
        | none => rw [hd] at h; cases h
        | some d =>
          rw [hd] at h
          simp only at h
          split at h
          case isFalse => cases h
          case isTrue hz =>
            cases h
            obtain ⟨v, hv, rv⟩ := r.get hd
            obtain ⟨w, rfl, rw'⟩ := ra.one
            have ew : w = .int i := by simpa only [Rep] using rw'
            subst ew
            obtain ⟨h1, h2, h3, h4⟩ := ixN_seq hi
            have hL : (LIM : Int) < 2 ^ 63 := by decide
            have hz2 : (ds.length : Int) ≤ LIM := by exact_mod_cast hz
            refine ⟨v, xs.eraseIdx j, r.eraseIdx j, rv, fun Q q => ⟨a, xs, i, j, v, rfl, rfl, ha, by omega, by omega, by rw [r.len]; exact h1, hv, q⟩⟩
theorem ms_insert : MtSpec K (fun x vs H Q => ∃ (l : Addr) (xs : List V) (i : Int) (y : V), x = .ref l ∧ vs = [.int i, y] ∧ H l = some (.lst xs) ∧ xs.length < sizeLine ∧ 0 ≤ i ∧ i < 2 ^ 63 ∧
    Q .non (upd H l (.lst (xs.take i.toNat ++ [y] ++ xs.drop i.toNat)))) aInsert := by
  intro L H a ds args xs vs rd ds' ha r ra h
  cases args with
  | nil => cases h
  | cons d0 t =>
    cases d0 <;> try (cases h; done)
    rename_i i
    cases t with
    | nil => cases h
    | cons d t =>
      cases t with
      | cons _ _ => cases h
      | nil =>
        simp only [aInsert] at h
        split at h
        case isFalse => cases h
        case isTrue hz =>
          cases h
          obtain ⟨w, rs, rfl, rw', r2⟩ := ra.inv
          obtain ⟨v, rfl, rv⟩ := r2.one
          have ew : w = .int i := by simpa only [Rep] using rw'
          subst ew
          have hL : (LIM : Int) < 2 ^ 63 := by decide
          have hL2 : LIM < sizeLine := by decide
          refine ⟨.non, _, ((Reps.take i.toNat r).app (Reps.cons rv Reps.nil)).app (Reps.drop i.toNat r), rep_non, fun Q q => ⟨a, xs, i, v, rfl, rfl, ha, ?_, hz.1, ?_, q⟩⟩
          · rw [r.len]; have := hz.2.2; omega
          · have := hz.2.1; omega
theorem ms_extend : MtSpec K (rExtB K) aExtend := by
  intro L H a ds args xs vs rd ds' ha r ra h
  cases args with
  | nil => cases h
  | cons d0 t =>
    cases t with
    | cons _ _ => cases d0 <;> cases h
    | nil =>
      cases d0 <;> try (cases h; done)
      · rename_i es
        simp only [aExtend] at h
        split at h
        case isFalse => cases h
        case isTrue hz =>
          cases h
          obtain ⟨v, rfl, rv⟩ := ra.one
          simp only [Rep] at rv
          obtain ⟨b, zs, rfl, hb, rz⟩ := rv
          refine ⟨.non, xs ++ zs, r.app rz, rep_non, fun Q q => .inr ⟨a, b, xs, zs, rfl, rfl, ha, hb.sq, ?_, q⟩⟩
          rw [r.len, rz.len]
          exact lim_ok hz
      · rename_i es
        simp only [aExtend] at h
        split at h
        case isFalse => cases h
        case isTrue hz =>
          cases h
          obtain ⟨v, rfl, rv⟩ := ra.one
          simp only [Rep] at rv
          obtain ⟨b, zs, rfl, hb, nb, rz⟩ := rv
          refine ⟨.non, xs ++ zs, r.app rz, rep_non, fun Q q => .inl ⟨a, b, xs, zs, rfl, rfl, ha, hb, ?_, q⟩⟩
          rw [r.len, rz.len]
          exact lim_ok hz
end
section
variable {K : PySem.W.Frag} {XC : Nat → Addr} {F : Fns} {W : WX} {H : Hp} {σ : L2.St} {fo : SE} {fa : SA} {act : Act} {r : V → List V → Hp → VK → Prop} {Q : VK}
theorem cm_read (ms : MtSpec K r act) (h : rdE K XC F W (eCM act fo fa) σ H Q) : tBM K "list" r (rdE K XC F W fo) (rdA K XC F W fa) σ H Q := by
  obtain ⟨Acc, ι, ρ, μ, S, E, h⟩ := h
  refine rd.bind (Stp.refl S) E h fun a μ1 x H1 e1 t1 r1 h1 => ?_
  cases a with
  | dat _ => exact h1.elim
  | new _ => exact h1.elim
  | cel k =>
    obtain ⟨ad, ek, ex⟩ := r1.1
    subst ex
    simp only at h1
    cases hc0 : μ1[k]? with
    | none => rw [hc0] at h1; exact h1.elim
    | some c0 =>
      rw [hc0] at h1
      simp only at h1
      cases hv0 : c0.val with
      | dic _ _ => rw [hv0] at h1; exact h1.elim
      | lst ds0 =>
        rw [hv0] at h1
        simp only at h1
        obtain ⟨b0, e0, rc0⟩ := t1.sim.cell k c0 hc0
        rw [ek] at e0; cases e0
        rw [hv0] at rc0
        obtain ⟨xs0, hx0, _⟩ := rc0
        refine ⟨.inl ⟨rfl, xs0, SqL.of hx0⟩, ?_⟩
        refine rd.bind t1 (E.mv t1 S) h1 fun vs μ2 ys H2 e2 t2 r2 h2 => ?_
        have t12 := t1.trans t2
        cases hf : frzs vs μ2 with
        | none => rw [hf] at h2; exact h2.elim
        | some p =>
          obtain ⟨args, μ3⟩ := p
          rw [hf] at h2
          simp only at h2
          obtain ⟨t3, r3⟩ := frzs_ok t2.sim (fun a h => t1.sim.trk h) (fun a h => (t1.sim.acc a h).2) r2 hf
          cases hc : μ3[k]? with
          | none => rw [hc] at h2; exact h2.elim
          | some c =>
            rw [hc] at h2
            simp only at h2
            cases hl : c.live with
            | false => rw [hl] at h2; exact h2.elim
            | true =>
              cases hv : c.val with
              | dic _ _ => rw [hl, hv] at h2; exact h2.elim
              | lst ds =>
                rw [hl, hv] at h2
                simp only at h2
                cases hact : act ds args with
                | none => rw [hact] at h2; exact h2.elim
                | some p =>
                  obtain ⟨rd, ds'⟩ := p
                  rw [hact] at h2
                  simp only at h2
                  obtain ⟨b, eb, rc⟩ := t3.sim.cell k c hc
                  rw [ek] at eb; cases eb
                  rw [hv] at rc
                  obtain ⟨xs, hx, rx⟩ := rc
                  obtain ⟨rv, xs', q1, q2, q3⟩ := ms _ _ ad ds args xs ys rd ds' hx rx r3 hact
                  have tp := t3.sim.put (c' := .lst ds') hc hl ek (o := .lst xs') fun H' m e => ⟨xs', e, Reps.mv m _ _ q1⟩
                  refine q3 Q (h2 rv _ (t12.trans (t3.trans tp)) ⟨?_, trivial⟩)
                  exact Rep.mv (tp.mv t3.sim) _ _ q2
theorem cm_read0 (ms : MtSpec K r act) (h : rdE K XC F W (eCM act fo (evs [])) σ H Q) : tBM0 K "list" r (rdE K XC F W fo) σ H Q := by
  obtain ⟨Acc, ι, ρ, μ, S, E, h⟩ := h
  refine rd.bind (Stp.refl S) E h fun a μ1 x H1 e1 t1 r1 h1 => ?_
  cases a with
  | dat _ => exact h1.elim
  | new _ => exact h1.elim
  | cel k =>
    obtain ⟨ad, ek, ex⟩ := r1.1
    subst ex
    simp only at h1
    cases hc0 : μ1[k]? with
    | none => rw [hc0] at h1; exact h1.elim
    | some c0 =>
      rw [hc0] at h1
      simp only at h1
      cases hv0 : c0.val with
      | dic _ _ => rw [hv0] at h1; exact h1.elim
      | lst ds0 =>
        obtain ⟨b0, e0, rc0⟩ := t1.sim.cell k c0 hc0
        rw [ek] at e0; cases e0
        rw [hv0] at rc0
        obtain ⟨xs0, hx0, rx0⟩ := rc0
        refine ⟨.inl ⟨rfl, xs0, SqL.of hx0⟩, ?_⟩
        simp only [hv0, evs, Res.bind, frzs, hc0] at h1
        cases hl : c0.live with
        | false => rw [hl] at h1; exact h1.elim
        | true =>
          rw [hl] at h1
          simp only at h1
          cases hact : act ds0 [] with
          | none => rw [hact] at h1; exact h1.elim
          | some p =>
            obtain ⟨rd, ds'⟩ := p
            rw [hact] at h1
            simp only at h1
            obtain ⟨rv, xs', q1, q2, q3⟩ := ms _ _ ad ds0 [] xs0 [] rd ds' hx0 rx0 Reps.nil hact
            have tp := t1.sim.put (c' := .lst ds') hc0 hl ek (o := .lst xs') fun H' m e => ⟨xs', e, Reps.mv m _ _ q1⟩
            exact q3 Q (h1 rv _ (t1.trans tp) ⟨Rep.mv (tp.mv t1.sim) _ _ q2, trivial⟩)
end
end VM
/-! Methods: the rules. -/
namespace VM
open PySem L2 PyProof.Rows
section
variable {X : Cx} {XC : Nat → Addr} {F : Fns} {W : WX} {o e f : Expr} {fo fe ff : SE} {apos cpos pos : Pos}
theorem c_append (ho : PE X o (rdE X.K XC F W fo)) (he : PE X e (rdE X.K XC F W fe))
    (hbase : attributeBase o "append" X.env (eval o X.env) = eval o X.env := by rfl)
    (hfew : ((backTo cpos (starEach [e] X.env)).all (fun x => !x.1) && (backToKw cpos (keywordEach [] X.env)).all (fun x => x.1.isSome)
      && decide ([e].length + ([] : List Keyword).length + (if ([] : List Keyword).isEmpty then 0 else 1) < 30)) = true := by rfl)
    (hline : (apos.endLine == cpos.line) = true := by rfl) (hs : starEach [e] X.env = (false, eval e X.env) :: starEach [] X.env := by rfl) (hplain : (backTo cpos (starEach [] X.env)).any (·.1) = false := by rfl) :
    PE X (.Call (.Attribute o "append" apos) [e] [] cpos) (rdE X.K XC F W (eCM aAppend fo (evs [fe]))) :=
  PEimp (pe_bm PySem.F.plainAttrs_list PySem.F.slot_list_append PySem.F.type_list_append mt_append ho (ca_cons he ca_nil hs) hbase hfew hline hs hplain) fun σ H Q h => cm_read ms_append h
theorem c_extend (ho : PE X o (rdE X.K XC F W fo)) (he : PE X e (rdE X.K XC F W fe))
    (hbase : attributeBase o "extend" X.env (eval o X.env) = eval o X.env := by rfl)
    (hfew : ((backTo cpos (starEach [e] X.env)).all (fun x => !x.1) && (backToKw cpos (keywordEach [] X.env)).all (fun x => x.1.isSome)
      && decide ([e].length + ([] : List Keyword).length + (if ([] : List Keyword).isEmpty then 0 else 1) < 30)) = true := by rfl)
    (hline : (apos.endLine == cpos.line) = true := by rfl) (hs : starEach [e] X.env = (false, eval e X.env) :: starEach [] X.env := by rfl) (hplain : (backTo cpos (starEach [] X.env)).any (·.1) = false := by rfl) :
    PE X (.Call (.Attribute o "extend" apos) [e] [] cpos) (rdE X.K XC F W (eCM aExtend fo (evs [fe]))) :=
  PEimp (pe_bm PySem.F.plainAttrs_list PySem.F.slot_list_extend PySem.F.type_list_extend mt_extB ho (ca_cons he ca_nil hs) hbase hfew hline hs hplain) fun σ H Q h => cm_read ms_extend h
theorem c_popAt (ho : PE X o (rdE X.K XC F W fo)) (he : PE X e (rdE X.K XC F W fe))
    (hbase : attributeBase o "pop" X.env (eval o X.env) = eval o X.env := by rfl)
    (hfew : ((backTo cpos (starEach [e] X.env)).all (fun x => !x.1) && (backToKw cpos (keywordEach [] X.env)).all (fun x => x.1.isSome)
      && decide ([e].length + ([] : List Keyword).length + (if ([] : List Keyword).isEmpty then 0 else 1) < 30)) = true := by rfl)
    (hline : (apos.endLine == cpos.line) = true := by rfl) (hs : starEach [e] X.env = (false, eval e X.env) :: starEach [] X.env := by rfl) (hplain : (backTo cpos (starEach [] X.env)).any (·.1) = false := by rfl) :
    PE X (.Call (.Attribute o "pop" apos) [e] [] cpos) (rdE X.K XC F W (eCM aPopAt fo (evs [fe]))) :=
  PEimp (pe_bm PySem.F.plainAttrs_list PySem.F.slot_list_pop PySem.F.type_list_pop mt_popAt ho (ca_cons he ca_nil hs) hbase hfew hline hs hplain) fun σ H Q h => cm_read ms_popAt h
theorem c_pop (ho : PE X o (rdE X.K XC F W fo)) (hbase : attributeBase o "pop" X.env (eval o X.env) = eval o X.env := by rfl) (hline : (apos.endLine == cpos.line) = true := by rfl) :
    PE X (.Call (.Attribute o "pop" apos) [] [] cpos) (rdE X.K XC F W (eCM aPop fo (evs []))) :=
  PEimp (pe_bm0 PySem.F.plainAttrs_list PySem.F.slot_list_pop PySem.F.type_list_pop mt_pop ho hbase hline) fun σ H Q h => cm_read0 ms_pop h
theorem c_insert (ho : PE X o (rdE X.K XC F W fo)) (he : PE X e (rdE X.K XC F W fe)) (hf : PE X f (rdE X.K XC F W ff))
    (hbase : attributeBase o "insert" X.env (eval o X.env) = eval o X.env := by rfl)
    (hfew : ((backTo cpos (starEach [e, f] X.env)).all (fun x => !x.1) && (backToKw cpos (keywordEach [] X.env)).all (fun x => x.1.isSome)
      && decide ([e, f].length + ([] : List Keyword).length + (if ([] : List Keyword).isEmpty then 0 else 1) < 30)) = true := by rfl)
    (hline : (apos.endLine == cpos.line) = true := by rfl) (hs : starEach [e, f] X.env = (false, eval e X.env) :: starEach [f] X.env := by rfl) (hs2 : starEach [f] X.env = (false, eval f X.env) :: starEach [] X.env := by rfl) (hplain : (backTo cpos (starEach [f] X.env)).any (·.1) = false := by rfl) :
    PE X (.Call (.Attribute o "insert" apos) [e, f] [] cpos) (rdE X.K XC F W (eCM aInsert fo (evs [fe, ff]))) :=
  PEimp (pe_bm PySem.F.plainAttrs_list PySem.F.slot_list_insert PySem.F.type_list_insert mt_insert ho (ca_cons he (ca_cons hf ca_nil hs2) hs) hbase hfew hline hs hplain) fun σ H Q h => cm_read ms_insert h
end
end VM
/-! The promises of functions once more, where no repr is under way ahead (guards). -/
namespace VM
open PySem PySem.Spec L2 PyProof.Rows

structure FnG (P : Program) (w : World) (K : PySem.W.Frag) (mg : Str → Option Value) (base : Heap) (CX : CXT) (k : Nat) (f : Addr) (fd : FuncData) (ps : List Str) (sp : Sp) : Prop where
  lg : ∀ vs H Q E, sp vs H Q E → vs.length = ps.length
  go : ∀ (A : Around) (outer : List PySem.Env) (s : Shared) (H : Hp) (args : Args) (us : List Value) (vs : List V) (Q : VK) (E : XK), Room k A → A.guards = some [] → Env0 P w K mg base A outer s H → BindsTo s fd args (ps.zip us) → Vals vs us → sp vs H Q E → codeAny (model P w) A (.call (.ref f) args) (CR CX outer P w H s Q E) s

section
variable {X : Cx} {CX : CXT} {k : Nat} {f C : Addr} {fd : FuncData} {ps ks : List Str} {sp : Sp} {dvs : List V} {ds : List Value} {E : XK} {x m : Str} {p pos apos : Pos} {e o : Expr} {es : List Expr} {kws : List Keyword} {ta : TE} {t tk : TA} {g : List Value → List Value → List Value} {gV : List V → List V → List V}
theorem cr_ep {pins : List (Addr × Obj)} {σ : L2.St} {H : Hp} {s : Shared} {Q : VK} (hx : Passes CX X E) (I : Inv X pins σ H s) : ∀ (r : Result) (s' : Shared), CR CX X.stack X.prog X.w H s Q E r s' → match r with
    | .ok (.ret u) => EP X pins σ Q u s'
    | .ok _ => False
    | .error e => X.xe e s' := fun r s' hq => by
  cases r with
  | error e => exact hx pins σ H s e s' I hq
  | ok fl => cases fl <;> first | exact I.after hq | exact hq
theorem run_g {pins : List (Addr × Obj)} {σ : L2.St} {H : Hp} {s : Shared} {Q : VK} {us : List Value} {kw : List (Str × Value)} {ws : List Value} {vs : List V} (F : FnG X.prog X.w X.K X.mg X.base CX k f fd ps sp) (hr : Room k X.A) (hG : X.A.guards = some []) (hx : Passes CX X E)
    (I : Inv X pins σ H s) (hb : BindsTo s fd ⟨us, kw⟩ (ps.zip ws)) (r : Vals vs ws) (h : sp vs H Q E) : wpAny (model X.prog X.w) X.A (call (.ref f) us kw) (EP X pins σ Q) X.xe s :=
  wpAny_call (codeAny_mono (F.go X.A X.stack s H ⟨us, kw⟩ ws vs Q E hr hG I.env0 hb r h) fun r s' hq => by
    have z := cr_ep hx I r s' hq
    cases r with
    | error e => exact z
    | ok fl => cases fl <;> exact z)
theorem run_gp {pins : List (Addr × Obj)} {σ : L2.St} {H : Hp} {s : Shared} {Q : VK} {us : List Value} {vs : List V} (F : FnG X.prog X.w X.K X.mg X.base CX k f fd ps sp) (hr : Room k X.A) (hG : X.A.guards = some []) (hb : Binds X.K fd ps ds) (hd : Vals dvs ds) (hx : Passes CX X E)
    (I : Inv X pins σ H s) (r : Vals vs us) (h : sp (vs ++ dvs) H Q E) : wpAny (model X.prog X.w) X.A (call (.ref f) us) (EP X pins σ Q) X.xe s :=
  run_g F hr hG hx I (hb s us I.kIn (by rw [← (r.append hd).length]; exact F.lg _ _ _ _ h)) (r.append hd) h
theorem pe_g (F : FnG X.prog X.w X.K X.mg X.base CX k f fd ps sp) (hr : Room k X.A) (hG : X.A.guards = some []) (hg : Gl X x) (hm : X.mg x = some (.ref f)) (hk : PySem.W.keepIn X.K (.ref f) = true) (hb : Binds X.K fd ps ds) (hd : Vals dvs ds) (hx : Passes CX X E)
    (ha : PA X (e :: es) t) (hdb : (x == ("__debug__" : Str)) = false) (he : starEach (e :: es) X.env = (false, eval e X.env) :: starEach es X.env) (hpl : (backTo pos (starEach es X.env)).any (·.1) = false) :
    PE X (.Call (.Name x p) (e :: es) [] pos) (tCall sp dvs E t) := ⟨fun pins s σ H Q I h => wpAny_Call_Name_kw (ld_glob I hg hm (PySem.W.callWith_K (h₀ := X.base) I.ok.mod.kin hk
      (thn (ha.run pos pins s σ H _ I h) fun us s1 ⟨vs, H1, I1, r, q⟩ => ⟨I1.kIn, run_gp F hr hG hb hd hx I1 r q⟩) he hpl) hdb)⟩
theorem pe_g0 (F : FnG X.prog X.w X.K X.mg X.base CX k f fd ps sp) (hr : Room k X.A) (hG : X.A.guards = some []) (hg : Gl X x) (hm : X.mg x = some (.ref f)) (hk : PySem.W.keepIn X.K (.ref f) = true) (hb : Binds X.K fd ps ds) (hd : Vals dvs ds) (hx : Passes CX X E)
    (hdb : (x == ("__debug__" : Str)) = false) : PE X (.Call (.Name x p) [] [] pos) (tCall sp dvs E tNil) :=
  ⟨fun pins s σ H Q I h => wpAny_Call_Name_kw (ld_glob I hg hm (PySem.W.callWith_K0 I.kIn hk (run_gp (us := []) F hr hG hb hd hx I .nil h)) hdb)⟩
theorem pe_gK (F : FnG X.prog X.w X.K X.mg X.base CX k f fd ps sp) (hr : Room k X.A) (hG : X.A.guards = some []) (hg : Gl X x) (hm : X.mg x = some (.ref f)) (hk : PySem.W.keepIn X.K (.ref f) = true) (hb : KBinds X.K fd ps ks g gV) (hx : Passes CX X E)
    (ha : PA X (e :: es) t) (hkw : PK X kws tk) (hall : (backToKw pos (keywordEach kws X.env)).all (·.1.isSome) = true) (hks : (backToKw pos (keywordEach kws X.env)).filterMap (·.1) = ks)
    (hdb : (x == ("__debug__" : Str)) = false) (he : starEach (e :: es) X.env = (false, eval e X.env) :: starEach es X.env)
    (hpl : ((backTo pos (starEach (e :: es) X.env)).any (·.1) || (backToKw pos (keywordEach kws X.env)).any (·.1.isNone)) = false) : PE X (.Call (.Name x p) (e :: es) kws pos) (tCallK sp gV E t tk) :=
  ⟨fun pins s σ H Q I h => wpAny_Call_Name_kw (ld_glob I hg hm (PySem.W.callWith_KW (h₀ := X.base) I.ok.mod.kin hk hall (thn (ha.run pos pins s σ H _ I h) fun us s1 ⟨vs, H1, I1, r, q⟩ =>
    thn (hkw.run pos pins s1 σ H1 _ I1 q) fun ws s2 ⟨zs, H2, I2, rz, q2⟩ => ⟨I2.kIn, by
      rw [hks]
      exact run_g F hr hG hx I2 (hb.to s2 us ws I2.kIn (by rw [← (hb.rel r rz).length]; exact F.lg _ _ _ _ q2)) (hb.rel r rz) q2⟩) hpl he) hdb)⟩
theorem pe_gKz (F : FnG X.prog X.w X.K X.mg X.base CX k f fd ps sp) (hr : Room k X.A) (hG : X.A.guards = some []) (hg : Gl X x) (hm : X.mg x = some (.ref f)) (hk : PySem.W.keepIn X.K (.ref f) = true) (hb : KBinds X.K fd ps ks g gV) (hx : Passes CX X E)
    (hkw : PK X kws tk) (hall : (backToKw pos (keywordEach kws X.env)).all (·.1.isSome) = true) (hks : (backToKw pos (keywordEach kws X.env)).filterMap (·.1) = ks)
    (hdb : (x == ("__debug__" : Str)) = false) (hpl : ((backTo pos (starEach [] X.env)).any (·.1) || (backToKw pos (keywordEach kws X.env)).any (·.1.isNone)) = false) : PE X (.Call (.Name x p) [] kws pos) (tCallK sp gV E tNil tk) :=
  ⟨fun pins s σ H Q I h => wpAny_Call_Name_kw (ld_glob I hg hm (PySem.W.callWith_KW0 (h₀ := X.base) I.ok.mod.kin hk hall (thn (hkw.run pos pins s σ H _ I h) fun ws s2 ⟨zs, H2, I2, rz, q2⟩ => ⟨I2.kIn, by
      rw [hks]
      exact run_g F hr hG hx I2 (hb.to s2 [] ws I2.kIn (by rw [← (hb.rel .nil rz).length]; exact F.lg _ _ _ _ q2)) (hb.rel .nil rz) q2⟩) hpl) hdb)⟩
end

/-- a def, by its body, with the guards known -/
theorem fnG_of {CX : CXT} {P : Program} {w : World} {K : PySem.W.Frag} {mg : Str → Option Value} {base : Heap} {k : Nat} {x qual : Str} {st : Stmt} {f : Addr} {fd : FuncData} {N ps : List Str} {sp : Sp} (F : Fun K x qual st f fd) (S : FnScope N ps (defScope st))
    (len : ∀ vs H Q E, sp vs H Q E → vs.length = ps.length)
    (hbody : ∀ (cdv : Value) (A : Around) (outer : List PySem.Env) (s : Shared) (H : Hp) (vs : List V) (Q : VK) (E : XK), Room k (A.deeper (envOfC qual (defScope st) s.heap.objs.size f cdv)) → A.guards = some [] → sp vs H Q E →
      ∃ t, PSs (cxOf CX P w K mg base N qual (defScope st) f cdv A outer s H E) (defBody st) t ∧ t { nx := fun _ H' => Q .non H', rt := Q } (L2.start N vs) H) : FnG P w K mg base CX (k + 1) f fd ps sp := by
  obtain ⟨oc, od, kV, doc, pm, an, cdv, ct, osl, rfl, lk, hcd⟩ := F.ex
  refine ⟨len, fun A outer s H args us vs Q E hr hG e0 hb r hsp => ?_⟩
  have hl := len _ _ _ _ hsp
  have inH : K.In s.heap := e0.mod.kin.keeps fun b o e => (e0.bs b o e).1
  have nol : s.heap.NoLimit := e0.mod.nolimit.keeps fun b o e => (e0.bs b o e).1
  refine codeAny_call_function hr.depth (inH _ _ lk) rfl S.co S.gen rfl (PySem.W.codeRec_of inH hcd) (hb _ _ _ _ (wpAny_newFunctionEnv_cells S.kind (fun ⟨n, v⟩ hy => ?_) fun env he s1 x => ?_))
  · exact (S.par n (List.of_mem_zip hy).1).elim .inl fun q => .inr ⟨q, PySem.W.cellsFrom_some _ _ _ (.inl q)⟩
  subst he
  refine ⟨nol.keeps x.toInCall.keep, codeAny_func ?_⟩
  obtain ⟨t, ht, hq⟩ := hbody cdv A outer s H vs Q E (hr.deeper _) hG hsp
  have I := inv_start (CX := CX) (E := E) S hr.hd e0 hl r x
  refine wpAny_mono (ht.run [] s1 (L2.start N vs) H _ I hq) (fun fl s' hs => ?_) fun e s' hs => hs
  cases fl with
  | ret u =>
    obtain ⟨v, σ', H', J, rv, q⟩ := hs
    exact ⟨v, H', J.os, J.bare, J.base, J.hok, rv, q⟩
  | next =>
    obtain ⟨σ', H', J, q⟩ := hs
    exact ⟨.non, H', J.os, J.bare, J.base, J.hok, rfl, q⟩
  | brk =>
    obtain ⟨_, _, _, q⟩ := hs
    exact q.elim
  | cont =>
    obtain ⟨_, _, _, q⟩ := hs
    exact q.elim

/-! ### the law's own head -/
/-- a promise at the place from which the law is called -/
theorem top_call {P : Program} {w : World} {K : PySem.W.Frag} {mg mb : Str → Option Value} {CX : CXT} {k : Nat} {fa a : Addr} {fd : FuncData} {x : Str} {sp : Sp} {s₁ : Shared} {vs : List Value} {ns : List Int}
    (KX : K.In s₁.heap) (hns : s₁.heap.Ns mainGlobals mg) (hb : s₁.heap.Ns builtinsNs mb) (hbb : ∀ x : Str, x ≠ "__name__" → mb x = bootBuiltins x) (hlim : s₁.heap.NoLimit) (hg : s₁.gens = #[])
    (ha : s₁.heap.get? a = some { cls := .type "list", data := .seq vs.toArray }) (hi : IntsAre vs ns) (hl : ns.length ≤ sizeLine) (hr : Room k callerA)
    (F : ∀ base : Heap, K.In base → base.Ns mainGlobals mg → FnG P w K mg base CX k fa fd [x] sp) (hbind : ∀ (s : Shared) (u : Value), BindsTo s fd ⟨[u], []⟩ [(x, u)])
    (hsp : ∀ H : Hp, Only H → SqL K H a (ns.map V.int) → sp [.ref a] H (fun v _ => v = .bl true) fun _ _ _ => False)
    (hCX : ∀ H e s', CX [] H s₁ (fun _ _ _ => False) e s' → False) :
    codeAny (model P w) callerA (.call (.ref fa) ⟨[.ref a], []⟩) (fun r s' => r = .ok (.ret (.bool true)) ∧ OldK s₁.heap s'.heap ∧ s'.os = s₁.os ∧ AllBare s'.gens) s₁ := by
  have lenV := hi.length
  -- the heap without the script
  have main : ∀ H : Hp, Only H → SqL K H a (ns.map V.int) → HOk P w H s₁.heap → (∀ b, H b ≠ none → b = a) → (H a ≠ none → K.lookup a = none) → codeAny (model P w) callerA (.call (.ref fa) ⟨[.ref a], []⟩) (fun r s' => r = .ok (.ret (.bool true)) ∧ OldK s₁.heap s'.heap ∧ s'.os = s₁.os ∧ AllBare s'.gens) s₁ := by
    intro H hO hS hok hA hK
    have isA : ∀ {b : Addr}, H b ≠ none → b = a := fun {b} z => hA b z
    have hid : ∀ {b : Addr} {o : Obj}, s₁.heap.get? b = some o → H b = none → (hidT s₁.heap H).get? b = some o := fun e n => hidT_get e n
    have out : ∀ {b : Addr} {o : Obj} {es : Array DictEntry} {ep : Nat}, s₁.heap.get? b = some o → o.data = .dict es ep → H b = none := by
      intro b o es ep e d
      by_cases q : H b = none
      · exact q
      · have e' := isA q
        subst e'
        rw [ha] at e
        cases e
        exact nomatch (show Data.seq vs.toArray _ = Data.dict es ep from d)
    have ns' : ∀ {b : Addr} {m : Str → Option Value}, s₁.heap.Ns b m → (hidT s₁.heap H).Ns b m := by
      rintro b m ⟨o, es, ep, e, d, r⟩
      exact ⟨o, es, ep, hid e (out e d), d, r⟩
    have inb : K.In (hidT s₁.heap H) := by
      intro b o e
      refine hid (KX b o e) ?_
      by_cases q : H b = none
      · exact q
      · have e' := isA q
        subst e'
        rw [hK q] at e
        cases e
    have hM : Mod K mg (hidT s₁.heap H) := ⟨inb, ns' hns, ⟨mb, ns' hb, hbb⟩, let ⟨mc, h1, h2⟩ := hlim; ⟨mc, ns' h1, h2⟩⟩
    have e0 : Env0 P w K mg (hidT s₁.heap H) callerA [] s₁ H := ⟨rfl, hM, fun b o e => of_hidT e, Nat.le_of_eq (hidT_size _ _), trivial, fun b hb => absurd (show b ∈ ([] : List Addr) from hb) (by simp), hok, .of_eq hg⟩
    refine codeAny_mono ((F _ inb (ns' hns)).go callerA [] s₁ H ⟨[.ref a], []⟩ [.ref a] [.ref a] _ _ hr rfl e0 (hbind s₁ (.ref a)) (.cons rfl .nil) (hsp H hO hS)) fun r s' h => ?_
    cases r with
    | error e => exact (hCX H e s' h).elim
    | ok fl =>
      cases fl with
      | next => exact h.elim
      | brk => exact h.elim
      | cont => exact h.elim
      | ret u =>
        obtain ⟨v, H', os, bare, un, hok', r', q⟩ := h
        have q : v = .bl true := q
        subst q
        obtain rfl : u = Value.bool true := r'
        refine ⟨rfl, OldK.of_keep fun b o e => ?_, os, bare⟩
        by_cases q : H b = none
        · exact un.keep b o e q (by intro z; exact absurd (show b ∈ ([] : List Addr) from z) (by simp)) (by simp)
        · rcases hO b with z | ⟨ob, xs, z⟩
          · exact absurd z q
          · obtain ⟨e1, _⟩ := hok b _ z
            obtain ⟨e2, _⟩ := hok' b _ (un.frzs b ob _ z)
            rw [e] at e1
            cases e1
            exact e2
  cases hk : K.lookup a with
  | some o =>
    have e := KX a o hk
    rw [ha] at e
    cases e
    exact main (fun _ => none) (fun _ => .inl rfl) (.inr ⟨_, vs.toArray, _, hk, rfl, rfl, rfl, by rw [List.size_toArray, lenV]; exact hl, by simpa using vals_ints hi⟩) (fun b u z => nomatch (show (none : Option HO) = some u from z)) (fun b z => absurd rfl z) fun z => absurd rfl z
  | none =>
    have at1 : ∀ b, b = a → (if b = a then some (HO.frz { cls := .type "list", data := .seq vs.toArray } (.lst (ns.map V.int))) else none) = some (HO.frz { cls := .type "list", data := .seq vs.toArray } (.lst (ns.map V.int))) := fun b h => if_pos h
    have at0 : ∀ b, ¬ b = a → (if b = a then some (HO.frz { cls := .type "list", data := .seq vs.toArray } (.lst (ns.map V.int))) else none) = none := fun b h => if_neg h
    refine main (fun b => if b = a then some (.frz { cls := .type "list", data := .seq vs.toArray } (.lst (ns.map V.int))) else none) (fun b => ?_) (.inl (.inr ⟨_, at1 a rfl⟩)) (fun b u z => ?_) (fun b z => ?_) fun _ => hk
    · by_cases h : b = a
      · exact .inr ⟨_, _, at1 b h⟩
      · exact .inl (at0 b h)
    · by_cases h : b = a
      · have z' := (at1 b h).symm.trans z
        cases z'
        subst h
        exact ⟨ha, by rw [List.length_map]; exact hl, vs, _, vals_ints hi, ha⟩
      · exact nomatch (at0 b h).symm.trans z
    · by_cases h : b = a
      · exact h
      · exact absurd (at0 b h) z
theorem top_walk {l : PySem.W.OpenLaw} {n k : Nat} {q : Program} {loose : List Str} {XP : (Str → Option Value) → Heap → Prop} {YP : World → Heap → Prop} {d : DefRec} {K : Params → PySem.W.Frag} {CX : World → CXT} {sp : World → Sp} {x : Str}
    (hn : l.most = some n) (hn2 : n ≤ sizeLine) (hdf : d.params.defaults = []) (hr : Room k callerA) (hY : ∀ (w : World) (h : Heap), YP w h → (K w.params).In h)
    (F : ∀ (w : World) (mg : Str → Option Value) (fa : Addr) (h : Heap), (K w.params).In h → h.Ns mainGlobals mg → mg d.name = some (.ref fa) →
      ∃ fd : FuncData, (∀ (s : Shared) (u : Value), BindsTo s fd ⟨[u], []⟩ [(x, u)]) ∧ ∀ base : Heap, (K w.params).In base → base.Ns mainGlobals mg → FnG l.prog w (K w.params) mg base (CX w) k fa fd [x] (sp w))
    (hsp : ∀ (w : World) (H : Hp) (a : Addr) (ns : List Int), ns.length ≤ n → Only H → SqL (K w.params) H a (ns.map V.int) → sp w [.ref a] H (fun v _ => v = .bl true) fun _ _ _ => False)
    (hCX : ∀ (w : World) (H : Hp) (s : Shared) (e : Value) (s' : Shared), CX w [] H s (fun _ _ _ => False) e s' → False) :
    PySem.W.WalkO q loose XP YP l.row.toRowW d [] (fun f vs => PySem.call f vs) :=
  Att.attach_call hn hdf fun w s₀ s₁ mg mb fa o pm cd doc a vs ns G Y ho hd hcd hmg hobj hints hlen hg =>
    let ⟨fd, hb, hF⟩ := F w mg fa _ (hY w _ Y) G.T.g hmg
    top_call (hY w _ Y) G.T.g G.T.b G.T.builtins G.T.nolimit hg hobj hints (Nat.le_trans hlen hn2) hr hF hb (fun H hO hS => hsp w H a ns hlen hO hS) fun H e s' => hCX w H s₁ e s'
end VM
/-! Functions: what a call computes, and that each def keeps it. -/
namespace VM
open PySem L2 PyProof.Rows

/-! ### 1. the end of a call -/
/-- the callee's own cells are dropped -/
def EV.out (v : EV) (n : Nat) (μ : Sto) : Option EV := match v with
  | .cel k => if k < n then some (.cel k) else match μ[k]? with
    | some c => match c.live with
      | true => some (.new c.val)
      | false => some (.dat c.val.toD)
    | none => none
  | v => some v
def callEnd (n : Nat) (r : Res SO) : Res EV := match r with
  | .ok (.nx _) μ => .ok (.dat .non) (μ.take n)
  | .ok (.rt v) μ => match v.out n μ with
    | some v' => .ok v' (μ.take n)
    | none => .bad
  | .ok _ _ => .bad
  | .exc x μ => .exc x (μ.take n)
  | .bad => .bad
def startE (n : Nat) (vs : List SV) : Env := vs.map some ++ List.replicate (n - vs.length) none
def callF (nl : Nat) (b : SS) (F : Fns) (vs : List SV) (μ : Sto) : Res EV := callEnd μ.length (b F (startE nl vs) μ)
/-- the functions: how many slots, the body -/
abbrev Tab := List (Nat × SS)
def run (T : Tab) : Nat → Fns
  | 0 => fun _ _ _ => .bad
  | n + 1 => fun i vs μ => match T[i]? with
    | some (nl, b) => callF nl b (run T n) vs μ
    | none => .bad
section
variable {K : PySem.W.Frag} {XC : Nat → Addr} {F : Fns} {W : WX} {Acc : Addr → Prop} {ι ι' : List Addr} {μ μ' : Sto} {H H' : Hp}
theorem Cel.take {n : Nat} {a : Addr} (h : Cel (μ'.take n) ι a) (e : ∀ (k : Nat) (b : Addr), k < n → ι[k]? = some b → ι'[k]? = some b) : Cel μ' ι' a := by
  obtain ⟨k, c, h1, h2, h3⟩ := h
  have hk : k < n := by
    have := (List.getElem?_eq_some_iff.mp h1).1
    rw [List.length_take] at this; omega
  exact ⟨k, c, by rw [List.getElem?_take_of_lt hk] at h1; exact h1, h2, e k a hk h3⟩
theorem Stp.cut (S : Sim K Acc μ ι H) (t : Stp K Acc ι μ H ι' μ' H') : Stp K Acc ι μ H ι (μ'.take μ.length) H' ∧ Mv (Liv Acc μ' ι') H' (Liv Acc (μ'.take μ.length) ι) H' := by
  obtain ⟨ex, e, nx⟩ := t.pre
  have hl : ι'.length = μ'.length := t.sim.len
  have hl2 : μ.length ≤ μ'.length := by rw [← hl, e, List.length_append, S.len]; omega
  have eq : ∀ (k : Nat), k < μ.length → ι'[k]? = ι[k]? := fun k hk => by rw [e, List.getElem?_append_left (by rw [S.len]; exact hk)]
  have c : ∀ a, Cel (μ'.take μ.length) ι a → Cel μ' ι' a := fun a h => h.take fun k b hk hb => by rw [eq k hk]; exact hb
  have m : Mv (Liv Acc μ' ι') H' (Liv Acc (μ'.take μ.length) ι) H' := fun a o h n => ⟨h, fun z => n (z.imp (c a) id)⟩
  refine ⟨⟨⟨by rw [List.length_take, S.len]; omega, S.nd, fun a h => ⟨(S.acc a h).1, t.trk a (S.acc a h).2⟩, fun k d h => ?_, fun a h => t.sim.hot a (h.imp (c a) id)⟩, ⟨[], by simp, by simp⟩, t.keep, t.trk, fun a h => t.liv a (c a h)⟩, m⟩
  have hk : k < μ.length := by
    have := (List.getElem?_eq_some_iff.mp h).1
    rw [List.length_take] at this; omega
  rw [List.getElem?_take_of_lt hk] at h
  obtain ⟨a, e1, r⟩ := t.sim.cell k d h
  exact ⟨a, by rw [← eq k hk]; exact e1, r.mv m fun _ h => h⟩
/-- what the value is, behind the call -/
theorem out_ok (S : Sim K Acc μ ι H) (t : Stp K Acc ι μ H ι' μ' H') {v v' : EV} {u : V} (r : EvR K (Liv Acc μ' ι') ι' H H' v u) (o : OwnR K Acc μ' ι' H' v u) (h : v.out μ.length μ' = some v') :
    relE K Acc (μ'.take μ.length) ι H H' v' u := by
  obtain ⟨tc, m⟩ := t.cut S
  obtain ⟨ex, e, nx⟩ := t.pre
  have eq : ∀ (k : Nat), k < μ.length → ι'[k]? = ι[k]? := fun k hk => by rw [e, List.getElem?_append_left (by rw [S.len]; exact hk)]
  have hl : ι'.length = μ'.length := t.sim.len
  have c : ∀ a, Cel (μ'.take μ.length) ι a → Cel μ' ι' a := fun a h => h.take fun k b hk hb => by rw [eq k hk]; exact hb
  have pre : ∀ (k : Nat) (a : Addr), ι'[k]? = some a → ¬ k < μ.length → a ∈ ex := fun k a ha hk => by
    rw [e, List.getElem?_append_right (by rw [S.len]; omega)] at ha
    exact List.mem_of_getElem? ha
  cases v with
  | dat d => cases h; exact ⟨Rep.mv m _ _ r, trivial⟩
  | new c0 =>
    cases h
    obtain ⟨p, ep, np, rp⟩ := r
    subst ep
    refine ⟨⟨p, rfl, np, rp.mv m fun _ h => h⟩, fun q eq' => ?_⟩
    cases eq'
    obtain ⟨ow, rr⟩ := o p rfl
    have m3 : Mv (Liv (fun a => Acc a ∨ a = p) μ' ι') H' (Liv (fun a => Acc a ∨ a = p) (μ'.take μ.length) ι) H' := fun b o h n => ⟨h, fun z => n (z.imp (c b) id)⟩
    have pn : p ∉ ι' := (ow.acc p (.inr rfl)).1
    refine ⟨⟨tc.sim.len, tc.sim.nd, fun b hb => ?_, fun j d hj => ?_, fun b hb => ow.hot b (hb.imp (c b) id)⟩, rr.mv m3 fun _ h => h⟩
    · rcases hb with hb | rfl
      · exact tc.sim.acc b hb
      · exact ⟨fun z => pn (by rw [e]; exact List.mem_append_left _ z), (ow.acc b (.inr rfl)).2⟩
    · have hj2 : j < μ.length := by
        have := (List.getElem?_eq_some_iff.mp hj).1
        rw [List.length_take] at this; omega
      rw [List.getElem?_take_of_lt hj2] at hj
      obtain ⟨b, e1, r⟩ := ow.cell j d hj
      exact ⟨b, by rw [← eq j hj2]; exact e1, r.mv m3 fun _ h => h⟩
  | cel k =>
    obtain ⟨a, ea, eu⟩ := r
    subst eu
    simp only [EV.out] at h
    by_cases hk : k < μ.length
    · rw [if_pos hk] at h
      cases h
      exact ⟨⟨a, by rw [← eq k hk]; exact ea, rfl⟩, trivial⟩
    · rw [if_neg hk] at h
      cases hc : μ'[k]? with
      | none => rw [hc] at h; cases h
      | some cc =>
        rw [hc] at h
        simp only at h
        obtain ⟨b, eb, rb⟩ := t.sim.cell k cc hc
        rw [ea] at eb; cases eb
        have na := nx a (pre k a ea hk)
        have nι : a ∉ ι := fun z => S.trk z na
        have nA : ¬ Acc a := fun z => (S.acc a z).2 na
        cases hlv : cc.live with
        | false =>
          rw [hlv] at h
          cases h
          refine ⟨(rb.mv m fun _ h => h).rep fun z => ?_, trivial⟩
          rcases z with z | z
          · exact nι z.mem
          · exact nA z
        | true =>
          rw [hlv] at h
          cases h
          have la : Cel μ' ι' a := ⟨k, cc, hc, hlv, ea⟩
          have m2 : Mv (Liv Acc μ' ι') H' (Liv (fun b => Acc b ∨ b = a) (μ'.take μ.length) ι) H' := fun b o h n => ⟨h, fun z => n (by
            rcases z with z | z | z
            · exact .inl (c b z)
            · exact .inr z
            · subst z; exact .inl la)⟩
          refine ⟨⟨a, rfl, na, rb.mv m fun _ h => h⟩, fun q eq' => ?_⟩
          cases eq'
          refine ⟨⟨tc.sim.len, tc.sim.nd, fun b hb => ?_, fun j d hj => ?_, fun b hb => t.sim.hot b (hb.elim (fun z => .inl (c b z)) fun z => z.elim .inr fun e => .inl (by rw [e]; exact la))⟩, rb.mv m2 fun _ h => h⟩
          · rcases hb with hb | rfl
            · exact tc.sim.acc b hb
            · exact ⟨nι, rb.trk⟩
          · have hj2 : j < μ.length := by
              have := (List.getElem?_eq_some_iff.mp hj).1
              rw [List.length_take] at this; omega
            rw [List.getElem?_take_of_lt hj2] at hj
            obtain ⟨b, e1, r⟩ := t.sim.cell j d hj
            exact ⟨b, by rw [← eq j hj2]; exact e1, r.mv m2 fun _ h => h⟩
end

/-! ### 2. arguments -/
/-- what is handed over: a new object stands still from then on -/
def EV.arg : EV → SV
  | .dat d => .dat d
  | .cel k => .cel k
  | .new c => .dat c.toD
def SvsR (K : PySem.W.Frag) (L : Addr → Prop) (ι : List Addr) (H : Hp) : List SV → List V → Prop
  | [], vs => vs = []
  | s :: ss, vs => ∃ v r, vs = v :: r ∧ SvR K L ι H s v ∧ SvsR K L ι H ss r
section
variable {K : PySem.W.Frag} {L : Addr → Prop} {ι : List Addr} {H : Hp}
theorem SvsR.len : ∀ {ss : List SV} {vs : List V}, SvsR K L ι H ss vs → vs.length = ss.length
  | [], vs, h => by
    have h : vs = [] := h
    rw [h] <;> rfl
  | s :: ss, vs, h => by
    obtain ⟨v, r, rfl, _, h2⟩ := h
    rw [List.length_cons, List.length_cons, SvsR.len h2]
theorem SvsR.get : ∀ {ss : List SV} {vs : List V} {i : Nat} {s : SV}, SvsR K L ι H ss vs → ss[i]? = some s → ∃ v, vs[i]? = some v ∧ SvR K L ι H s v
  | [], vs, i, s, h, e => by simp at e
  | x :: ss, vs, 0, s, h, e => by
    obtain ⟨v, r, rfl, h1, _⟩ := h
    simp at e; subst e
    exact ⟨v, rfl, h1⟩
  | x :: ss, vs, i + 1, s, h, e => by
    obtain ⟨v, r, rfl, h1, h2⟩ := h
    obtain ⟨w, q1, q2⟩ := SvsR.get (i := i) h2 (by simpa using e)
    exact ⟨w, by simpa using q1, q2⟩
theorem start_ok {N : List Str} {ss : List SV} {vs : List V} (h : SvsR K L ι H ss vs) : EnvR K L ι H (startE N.length ss) (L2.start N vs) := by
  have hl := h.len
  unfold startE L2.start
  refine ⟨by simp [hl], fun i s e => ?_⟩
  by_cases hi : i < ss.length
  · rw [List.getElem?_append_left (by simpa using hi), List.getElem?_map] at e
    cases hs : ss[i]? with
    | none => rw [hs] at e; cases e
    | some t =>
      rw [hs] at e
      cases e
      obtain ⟨v, hv, r⟩ := h.get hs
      exact ⟨v, by rw [List.getElem?_append_left (by simpa [hl] using hi), List.getElem?_map, hv]; rfl, r⟩
  · rw [List.getElem?_append_right (by simpa using hi), List.getElem?_replicate] at e
    split at e <;> cases e
theorem args_ok {Acc : Addr → Prop} {μ : Sto} {Hb : Hp} (hb : ∀ a ∈ ι, Hb a ≠ none) (hq : ∀ a, Acc a → Hb a ≠ none) : ∀ {es : List EV} {vs : List V}, EvsR K (Liv Acc μ ι) ι Hb H es vs → SvsR K (Liv Acc μ ι) ι H (es.map EV.arg) vs
  | [], vs, h => h
  | e :: es, vs, h => by
    obtain ⟨v, r, rfl, h1, h2⟩ := h
    refine ⟨v, r, rfl, ?_, args_ok hb hq h2⟩
    cases e with
    | dat d => exact h1
    | cel k => exact h1
    | new c =>
      obtain ⟨p, rfl, n, rp⟩ := h1
      exact rp.rep fun z => z.elim (fun z => hb p z.mem n) fun z => hq p z n
end

/-! ### 3. the promise -/
/-- what a call of the i-th function gives -/
def spF (K : PySem.W.Frag) (XC : Nat → Addr) (F : Fns) (i np : Nat) : Sp := fun vs H Q _ => vs.length = np ∧
  ∃ (Acc : Addr → Prop) (ι : List Addr) (μ : Sto) (ss : List SV), Sim K Acc μ ι H ∧ SvsR K (Liv Acc μ ι) ι H ss vs ∧ wp (relE K) K XC W0 Acc ι μ H [] (F i ss μ) Q
/-- a function of the table: the name, the parameters -/
structure FnR (P : Program) (w : World) (K : PySem.W.Frag) (mg : Str → Option Value) (base : Heap) (XC : Nat → Addr) (F : Fns) (n : Nat) (i : Nat) (x : Str) (ps : List Str) (st : Stmt) : Prop where
  ex : ∃ (f : Addr) (fd : FuncData), Fun K x x st f fd ∧ mg x = some (.ref f) ∧ Binds K fd ps [] ∧ FnG P w K mg base CX0 n f fd ps (spF K XC F i ps.length)
theorem fn_rd {P : Program} {w : World} {K : PySem.W.Frag} {mg : Str → Option Value} {base : Heap} {XC : Nat → Addr} {T : Tab} {n i : Nat} {x : Str} {st : Stmt} {f : Addr} {fd : FuncData} {N ps : List Str} {b : SS} {nl : Nat} (F : Fun K x x st f fd) (S : FnScope N ps (defScope st)) (hT : T[i]? = some (nl, b)) (hn : N.length = nl)
    (hb : ∀ (cdv : Value) (A : Around) (outer : List PySem.Env) (s : Shared) (H : Hp) (E : XK), Room n (A.deeper (envOfC x (defScope st) s.heap.objs.size f cdv)) → A.guards = some [] →
      PSs (cxOf CX0 P w K mg base N x (defScope st) f cdv A outer s H E).nox (defBody st) (rdS K XC (run T n) W0 b)) :
    FnG P w K mg base CX0 (n + 1) f fd ps (spF K XC (run T (n + 1)) i ps.length) := by
  refine fnG_of F S (fun vs H Q E h => h.1) fun cdv A outer s H vs Q E hr hG ⟨hl, Acc, ι, μ, ss, S0, R, h⟩ => ?_
  refine ⟨_, (hb cdv A outer s H E hr hG).nox, Acc, ι, startE nl ss, μ, S0, by rw [← hn]; exact start_ok R, ?_⟩
  have h : wp (relE K) K XC W0 Acc ι μ H [] (callEnd μ.length (b (run T n) (startE nl ss) μ)) Q := by
    unfold run at h
    rw [hT] at h
    exact h
  cases e : b (run T n) (startE nl ss) μ with
  | bad => rw [e] at h; exact h
  | exc x μ' => rw [e] at h; exact fun ι' H' c d σ' t r => h c d H' (t.cut S0).1 ⟨r.1, by
      have r2 := r.2
      cases d with
      | none => exact r2
      | some d => exact ⟨r2.1, let ⟨vs, q1, q2⟩ := r2.2; ⟨vs, q1, Reps.mv (t.cut S0).2 _ _ q2⟩⟩⟩
  | ok o μ' =>
    rw [e] at h
    cases o with
    | bk _ => exact h.elim
    | ct _ => exact h.elim
    | nx ρ' => exact fun ι' H' σ' t E' => h .non H' (t.cut S0).1 ⟨rfl, trivial⟩
    | rt v =>
      intro ι' H' u t r o
      simp only [callEnd] at h
      cases ev : v.out μ.length μ' with
      | none => rw [ev] at h; exact h.elim
      | some v' =>
        rw [ev] at h
        exact h u H' (t.cut S0).1 (out_ok S0 t r o ev)
/-- with no calls left nothing is promised -/
theorem fn_zero {P : Program} {w : World} {K : PySem.W.Frag} {mg : Str → Option Value} {base : Heap} {XC : Nat → Addr} {T : Tab} {i : Nat} {f : Addr} {fd : FuncData} {ps : List Str} :
    FnG P w K mg base CX0 0 f fd ps (spF K XC (run T 0) i ps.length) :=
  ⟨fun vs H Q E h => h.1, fun A outer s H args us vs Q E _ _ _ _ _ ⟨_, _, _, _, _, _, _, h⟩ => h.elim⟩

/-! ### 4. calls -/
def eCall (i : Nat) (a : SA) : SE := fun F ρ μ => (a F ρ μ).bind fun vs μ1 => F i (vs.map EV.arg) μ1
section
variable {X : Cx} {XC : Nat → Addr} {F : Fns} {n i : Nat} {x : Str} {ps : List Str} {st : Stmt} {p pos : Pos} {e : Expr} {es : List Expr}
theorem call_rd {K : PySem.W.Frag} {fa : SA} {σ : L2.St} {H : Hp} {Q : VK} {np : Nat} (h : rdE K XC F W0 (eCall i fa) σ H Q) (hl : ∀ ρ μ vs μ', fa F ρ μ = .ok vs μ' → vs.length = np) : tCall (spF K XC F i np) [] E0 (rdA K XC F W0 fa) σ H Q := by
  obtain ⟨Acc, ι, ρ, μ, S, E, h⟩ := h
  refine rd.bind (Stp.refl S) E h fun vs μ1 xs H1 e1 t1 r1 h1 => ?_
  rw [List.append_nil]
  have hlx : xs.length = vs.length := by
    clear h1 e1
    induction vs generalizing xs with
    | nil =>
      have r1 : xs = [] := r1
      rw [r1] <;> rfl
    | cons v vs ih =>
      obtain ⟨y, r, rfl, _, h2⟩ := r1
      rw [List.length_cons, List.length_cons, ih r h2]
  have ra := args_ok (fun a h => S.trk h) (fun a h => (S.acc a h).2) r1
  refine ⟨by rw [hlx]; exact hl _ _ _ _ e1, Acc, ι, μ1, _, t1.sim, ra, ?_⟩
  replace h1 := wp.shift t1 h1
  cases hc : F i (vs.map EV.arg) μ1 with
  | bad => rw [hc] at h1; exact h1
  | exc x μ' => rw [hc] at h1; exact h1
  | ok v μ' => rw [hc] at h1; exact h1
theorem c_call {fs : List SE} (G : FnR X.prog X.w X.K X.mg X.base XC F n i x ps st) (hr : Room n X.A) (hG : X.A.guards = some []) (hg : Gl X x) (ha : PA X (e :: es) (rdA X.K XC F W0 (evs fs))) (hl : fs.length = ps.length := by rfl)
    (hdb : (x == ("__debug__" : Str)) = false := by decide) (he : starEach (e :: es) X.env = (false, eval e X.env) :: starEach es X.env := by rfl) (hpl : (backTo pos (starEach es X.env)).any (·.1) = false := by rfl) :
    PE X (.Call (.Name x p) (e :: es) [] pos) (rdE X.K XC F W0 (eCall i (evs fs))) := by
  obtain ⟨f, fd, FF, hm, hb, G⟩ := G.ex
  exact PEimp (pe_g (E := E0) G hr hG hg hm FF.kp hb .nil pass0 ha hdb he hpl) fun σ H Q h => call_rd h fun ρ μ vs μ' h => by rw [evs_len _ _ _ _ _ _ h, hl]
theorem c_call0 (G : FnR X.prog X.w X.K X.mg X.base XC F n i x [] st) (hr : Room n X.A) (hG : X.A.guards = some []) (hg : Gl X x) (hdb : (x == ("__debug__" : Str)) = false := by decide) :
    PE X (.Call (.Name x p) [] [] pos) (rdE X.K XC F W0 (eCall i (evs []))) := by
  obtain ⟨f, fd, FF, hm, hb, G⟩ := G.ex
  refine PEimp (pe_g0 (E := E0) G hr hG hg hm FF.kp hb .nil pass0 hdb) fun σ H Q h => ?_
  obtain ⟨Acc, ι, ρ, μ, S, E, h⟩ := h
  refine ⟨rfl, Acc, ι, μ, [], S, rfl, ?_⟩
  simp only [eCall, evs, Res.bind, List.map_nil] at h
  cases hc : F i [] μ with
  | bad => rw [hc] at h; exact h
  | exc x μ' => rw [hc] at h; exact h
  | ok v μ' => rw [hc] at h; exact h
end

/-! ### 5. keywords -/
def gP {α : Type} (nu nk : Nat) (perm : List Nat) (us ws : List α) : List α := if us.length = nu ∧ ws.length = nk then perm.filterMap fun i => (us ++ ws)[i]? else []
theorem vals_pick {vs : List V} {us : List Value} (h : Vals vs us) : ∀ perm : List Nat, Vals (perm.filterMap fun i => vs[i]?) (perm.filterMap fun i => us[i]?)
  | [] => .nil
  | i :: perm => by
    rw [List.filterMap_cons, List.filterMap_cons]
    cases e : vs[i]? with
    | some v =>
      obtain ⟨u, hu, r⟩ := h.get e
      rw [hu]
      exact .cons r (vals_pick h perm)
    | none =>
      have : us[i]? = none := by
        rw [List.getElem?_eq_none_iff] at e ⊢
        rw [← h.length]; exact e
      rw [this]
      exact vals_pick h perm
theorem Fun.kbinds {K : PySem.W.Frag} {x qual : Str} {st : Stmt} {f : Addr} {fd : FuncData} {ps ks : List Str} (F : Fun K x qual st f fd) (nu nk : Nat) (perm : List Nat) (hp : ps.isEmpty = false)
    (h : ∀ (kV doc pm : Value) (an : Option Addr) (cdv ct : Value) (us ws : List Value), us.length = nu → ws.length = nk → bindArgs (PySem.W.fnOf x qual (defArgs st) (defBody st) (defScope st) .none kV doc pm an cdv ct) ⟨us, ks.zip ws⟩ = pure (ps.zip (perm.filterMap fun i => (us ++ ws)[i]?))) :
    KBinds K fd ps ks (gP nu nk perm) (gP nu nk perm) := by
  obtain ⟨oc, od, kV, doc, pm, an, cdv, ct, osl, rfl, lk, hcd⟩ := F.ex
  refine ⟨fun s us ws _ hl => ?_, fun {vs us zs ws} r rz => ?_⟩
  · unfold gP at hl ⊢
    by_cases c : us.length = nu ∧ ws.length = nk
    · rw [if_pos c]
      exact .of_eq (h kV doc pm an cdv ct us ws c.1 c.2)
    · rw [if_neg c] at hl
      cases ps with
      | nil => cases hp
      | cons _ _ => cases hl
  · unfold gP
    rw [r.length, rz.length]
    by_cases c : us.length = nu ∧ ws.length = nk
    · rw [if_pos c, if_pos c]
      exact vals_pick (r.append rz) perm
    · rw [if_neg c, if_neg c]
      exact .nil
def eCallK (i : Nat) (a k : SA) (perm : List Nat) : SE := fun F ρ μ => (a F ρ μ).bind fun vs μ1 => (k F ρ μ1).bind fun zs μ2 => F i ((perm.filterMap fun i => (vs ++ zs)[i]?).map EV.arg) μ2
theorem EvsR.app {K : PySem.W.Frag} {L : Addr → Prop} {ι : List Addr} {H0 H : Hp} : ∀ {es fs : List EV} {vs ws : List V}, EvsR K L ι H0 H es vs → EvsR K L ι H0 H fs ws → EvsR K L ι H0 H (es ++ fs) (vs ++ ws)
  | [], fs, vs, ws, h, g => by
    have h : vs = [] := h
    subst h; exact g
  | e :: es, fs, vs, ws, h, g => by
    obtain ⟨v, r, rfl, h1, h2⟩ := h
    exact ⟨v, r ++ ws, rfl, h1, EvsR.app h2 g⟩
theorem EvsR.len {K : PySem.W.Frag} {L : Addr → Prop} {ι : List Addr} {H0 H : Hp} : ∀ {es : List EV} {vs : List V}, EvsR K L ι H0 H es vs → vs.length = es.length
  | [], vs, h => by
    have h : vs = [] := h
    subst h; rfl
  | e :: es, vs, h => by
    obtain ⟨v, r, rfl, h1, h2⟩ := h
    rw [List.length_cons, List.length_cons, EvsR.len h2]
theorem EvsR.get {K : PySem.W.Frag} {L : Addr → Prop} {ι : List Addr} {H0 H : Hp} : ∀ {es : List EV} {vs : List V} {i : Nat} {e : EV}, EvsR K L ι H0 H es vs → es[i]? = some e → ∃ v, vs[i]? = some v ∧ EvR K L ι H0 H e v
  | [], vs, i, e, h, q => by simp at q
  | x :: es, vs, 0, e, h, q => by
    obtain ⟨v, r, rfl, h1, h2⟩ := h
    simp at q; subst q
    exact ⟨v, rfl, h1⟩
  | x :: es, vs, i + 1, e, h, q => by
    obtain ⟨v, r, rfl, h1, h2⟩ := h
    obtain ⟨w, q1, q2⟩ := EvsR.get (i := i) h2 (by simpa using q)
    exact ⟨w, by simpa using q1, q2⟩
theorem EvsR.pick {K : PySem.W.Frag} {L : Addr → Prop} {ι : List Addr} {H0 H : Hp} {es : List EV} {vs : List V} (h : EvsR K L ι H0 H es vs) : ∀ perm : List Nat, EvsR K L ι H0 H (perm.filterMap fun i => es[i]?) (perm.filterMap fun i => vs[i]?)
  | [] => rfl
  | i :: perm => by
    rw [List.filterMap_cons, List.filterMap_cons]
    cases e : es[i]? with
    | some v =>
      obtain ⟨u, hu, r⟩ := h.get e
      rw [hu]
      exact ⟨u, _, rfl, r, EvsR.pick h perm⟩
    | none =>
      have : vs[i]? = none := by
        rw [List.getElem?_eq_none_iff] at e ⊢
        rw [h.len]; exact e
      rw [this]
      exact EvsR.pick h perm
theorem callK_rd {K : PySem.W.Frag} {XC : Nat → Addr} {F : Fns} {i : Nat} {fa fk : SA} {σ : L2.St} {H : Hp} {Q : VK} {nu nk np : Nat} {perm : List Nat} (h : rdE K XC F W0 (eCallK i fa fk perm) σ H Q) (hl : ∀ ρ μ vs μ', fa F ρ μ = .ok vs μ' → vs.length = nu) (hk : ∀ ρ μ vs μ', fk F ρ μ = .ok vs μ' → vs.length = nk)
    (hp : perm.length = np) (hb : ∀ i ∈ perm, i < nu + nk) : tCallK (spF K XC F i np) (gP nu nk perm) E0 (rdA K XC F W0 fa) (rdA K XC F W0 fk) σ H Q := by
  obtain ⟨Acc, ι, ρ, μ, S, E, h⟩ := h
  refine rd.bind (Stp.refl S) E h fun vs μ1 xs H1 e1 t1 r1 h1 => ?_
  refine rd.bind t1 (E.mv t1 S) h1 fun zs μ2 ys H2 e2 t2 r2 h2 => ?_
  have t12 := t1.trans t2
  have r12 := (EvsR.mv t1 S t2 r1).app (EvsR.back t1 r2)
  have l1 : xs.length = nu := by rw [r1.len]; exact hl _ _ _ _ e1
  have l2 : ys.length = nk := by rw [r2.len]; exact hk _ _ _ _ e2
  have eg : gP nu nk perm xs ys = perm.filterMap fun i => (xs ++ ys)[i]? := if_pos ⟨l1, l2⟩
  rw [eg]
  have ra := args_ok (fun a h => S.trk h) (fun a h => (S.acc a h).2) (r12.pick perm)
  have len : ∀ perm : List Nat, (∀ i ∈ perm, i < nu + nk) → (perm.filterMap fun i => (xs ++ ys)[i]?).length = perm.length := by
    intro perm
    induction perm with
    | nil => intro _; rfl
    | cons j perm ih =>
      intro hb
      have hj := hb j List.mem_cons_self
      have : j < (xs ++ ys).length := by rw [List.length_append]; omega
      rw [List.filterMap_cons, List.getElem?_eq_getElem this, List.length_cons, List.length_cons, ih fun i hi => hb i (List.mem_cons_of_mem _ hi)]
  refine ⟨by rw [len perm hb, hp], Acc, ι, μ2, _, t2.sim, ra, ?_⟩
  replace h2 := wp.shift t12 h2
  cases hc : F i ((perm.filterMap fun i => (vs ++ zs)[i]?).map EV.arg) μ2 with
  | bad => rw [hc] at h2; exact h2
  | exc x μ' => rw [hc] at h2; exact h2
  | ok v μ' => rw [hc] at h2; exact h2
theorem PKimp {X : Cx} {k : List Keyword} {t t' : TA} (h : PK X k t) (i : ∀ σ H Q, t' σ H Q → t σ H Q) : PK X k t' := ⟨fun pos pins s σ H Q I q => h.run pos pins s σ H Q I (i σ H Q q)⟩
section
variable {X : Cx} {XC : Nat → Addr} {F : Fns} {W : WX} {n i : Nat} {x : Str} {ps ks : List Str} {st : Stmt} {p pos kpos : Pos} {e : Expr} {es : List Expr} {kws : List Keyword} {nm : Option Str} {fe : SE} {fs fk : List SE}
theorem ck_nil : PK X [] (rdA X.K XC F W (evs [])) := PKimp pk_nil fun σ H Q ⟨Acc, ι, ρ, μ, S, E, h⟩ => h [] H (.refl S) rfl
theorem ck_cons (ha : PE X e (rdE X.K XC F W fe)) (hr : PK X kws (rdA X.K XC F W (evs fs))) : PK X (⟨nm, e, kpos⟩ :: kws) (rdA X.K XC F W (evs (fe :: fs))) :=
  PKimp (pk_cons ha hr) fun σ H Q ⟨Acc, ι, ρ, μ, S, E, h⟩ => by
    refine rd.bind (.refl S) E h fun v μ1 x H1 _ t1 r1 h1 => ?_
    refine rd.bind t1 (E.mv t1 S) h1 fun vs μ2 xs H2 _ t2 r2 h2 => ?_
    exact h2 (x :: xs) H2 (t1.trans t2) ⟨x, xs, rfl, EvR.mv t1 S t2 r1.1 rfl, EvsR.back t1 r2⟩
theorem c_callK (G : FnR X.prog X.w X.K X.mg X.base XC F n i x ps st) (nu nk : Nat) (perm : List Nat) (hr : Room n X.A) (hG : X.A.guards = some []) (hg : Gl X x)
    (kb : ∀ (f : Addr) (fd : FuncData), Fun X.K x x st f fd → KBinds X.K fd ps ks (gP nu nk perm) (gP nu nk perm)) (ha : PA X (e :: es) (rdA X.K XC F W0 (evs fs))) (hkw : PK X kws (rdA X.K XC F W0 (evs fk)))
    (hl : fs.length = nu := by rfl) (hk : fk.length = nk := by rfl) (hp : perm.length = ps.length := by rfl) (hbd : ∀ i ∈ perm, i < nu + nk := by decide)
    (hall : (backToKw pos (keywordEach kws X.env)).all (·.1.isSome) = true := by rfl) (hks : (backToKw pos (keywordEach kws X.env)).filterMap (·.1) = ks := by rfl)
    (hdb : (x == ("__debug__" : Str)) = false := by decide) (he : starEach (e :: es) X.env = (false, eval e X.env) :: starEach es X.env := by rfl)
    (hpl : ((backTo pos (starEach (e :: es) X.env)).any (·.1) || (backToKw pos (keywordEach kws X.env)).any (·.1.isNone)) = false := by rfl) :
    PE X (.Call (.Name x p) (e :: es) kws pos) (rdE X.K XC F W0 (eCallK i (evs fs) (evs fk) perm)) := by
  obtain ⟨f, fd, FF, hm, hb, G⟩ := G.ex
  exact PEimp (pe_gK (E := E0) G hr hG hg hm FF.kp (kb f fd FF) pass0 ha hkw hall hks hdb he hpl) fun σ H Q h => callK_rd h (fun ρ μ vs μ' h => by rw [evs_len _ _ _ _ _ _ h, hl]) (fun ρ μ vs μ' h => by rw [evs_len _ _ _ _ _ _ h, hk]) hp hbd
theorem c_callKz (G : FnR X.prog X.w X.K X.mg X.base XC F n i x ps st) (nk : Nat) (perm : List Nat) (hr : Room n X.A) (hG : X.A.guards = some []) (hg : Gl X x)
    (kb : ∀ (f : Addr) (fd : FuncData), Fun X.K x x st f fd → KBinds X.K fd ps ks (gP 0 nk perm) (gP 0 nk perm)) (hkw : PK X kws (rdA X.K XC F W0 (evs fk)))
    (hk : fk.length = nk := by rfl) (hp : perm.length = ps.length := by rfl) (hbd : ∀ i ∈ perm, i < 0 + nk := by decide)
    (hall : (backToKw pos (keywordEach kws X.env)).all (·.1.isSome) = true := by rfl) (hks : (backToKw pos (keywordEach kws X.env)).filterMap (·.1) = ks := by rfl)
    (hdb : (x == ("__debug__" : Str)) = false := by decide) (hpl : ((backTo pos (starEach [] X.env)).any (·.1) || (backToKw pos (keywordEach kws X.env)).any (·.1.isNone)) = false := by rfl) :
    PE X (.Call (.Name x p) [] kws pos) (rdE X.K XC F W0 (eCallK i (evs []) (evs fk) perm)) := by
  obtain ⟨f, fd, FF, hm, hb, G⟩ := G.ex
  refine PEimp (pe_gKz (E := E0) G hr hG hg hm FF.kp (kb f fd FF) pass0 hkw hall hks hdb hpl) fun σ H Q h => ?_
  have z := callK_rd (nu := 0) h (fun ρ μ vs μ' h => by cases h; rfl) (fun ρ μ vs μ' h => by rw [evs_len _ _ _ _ _ _ h, hk]) hp hbd
  obtain ⟨Acc, ι, ρ, μ, S, E, hz⟩ := z
  exact hz [] H (.refl S) rfl
end
end VM
/-! enumerate over a tuple: the machine's side. -/
namespace PySem
open Sem (wp)
set_option maxHeartbeats 1000000 in
theorem vm_enumNew {v : Value} {o : Obj} {H : Heap → Prop} (B : Begins v o H) :
    Meets (Builtin.«enumerate.__new__» ⟨[.type "enumerate", v], []⟩) (fun _ R s => H s.heap ∧
      R (.ok (.ret (.ref (s.heap.push o).objs.size))) { s with heap := (s.heap.push o).push { cls := .type "enumerate", data := .fields #[.none, .bool false, .ref s.heap.objs.size, rawInt 0, .none, .none] } }) := by
  refine .of_wp fun prog w A R s h => ?_
  obtain ⟨hp, g, d, tk, os⟩ := s
  obtain ⟨h1, h⟩ := h
  have hsub := sub_enumerate
  have q1 : ∀ {A' : Around} {E : Value → Shared → Prop} {Q : Value → Shared → Prop}, Q (.ref hp.objs.size) ⟨hp.push o, g, d, tk, os⟩ → wpAny (model prog w) A' (pyIter v) Q E ⟨hp, g, d, tk, os⟩ := fun q => B.iter prog w _ _ ⟨hp, g, d, tk, os⟩ _ h1 q
  wp_walk using q1
  refine wpAny_stack_any fun st => wpAny_pure ?_
  split
  · rename_i c _ _ _ _ _
    cases (c == Value.type "enumerate")
    · wp_walk using q1
      exact ⟨_, rfl, h⟩
    · wp_walk using q1
      exact ⟨_, rfl, h⟩
  · wp_walk using q1
    exact ⟨_, rfl, h⟩
theorem vm_enumCall {prog : Program} {w : World} {A : Around} {E : Value → Shared → Prop} {s : Shared} {v : Value} {o : Obj} {H : Heap → Prop} {Q : Value → Shared → Prop} (B : Begins v o H) (h1 : H s.heap)
    (h : ∀ h', IsEnum h' (s.heap.objs.size + 1) s.heap.objs.size 0 .none → h'.get? s.heap.objs.size = some o → (∀ b o, s.heap.get? b = some o → h'.get? b = some o) → Q (.ref (s.heap.objs.size + 1)) { s with heap := h' }) :
    wpAny (model prog w) A (call (.type "enumerate") [v]) Q E s := by
  refine callType_new F.called_enumerate (by decide) (F.typeCall_enumerate_1 _) (F.newCall_enumerate_1 _) (fun obj => F.args_object_init_2 obj _) F.entry_enumerate_new (vm_enumNew B) ⟨h1, ?_⟩
  have hz : (s.heap.push o).objs.size = s.heap.objs.size + 1 := Heap.size_push ..
  show _ ∧ _
  rw [hz]
  have he : IsEnum ((s.heap.push o).push { cls := .type "enumerate", data := .fields #[.none, .bool false, .ref s.heap.objs.size, rawInt 0, .none, .none] }) (s.heap.objs.size + 1) s.heap.objs.size 0 .none := by
    have := Heap.get?_push_size (s.heap.push o) (o := { cls := .type "enumerate", data := .fields #[.none, .bool false, .ref s.heap.objs.size, rawInt 0, .none, .none] }) rfl
    rw [hz] at this
    exact this
  exact ⟨⟨_, he, rfl⟩, h _ he (Heap.get?_push_of_some _ (Heap.get?_push_size _ B.free)) fun b o x => Heap.get?_push_of_some _ (Heap.get?_push_of_some _ x)⟩
end PySem
namespace VM
open PySem L2 PyProof.Rows
/-- the tuple at a, each item in a new pair -/
def Itet (K : PySem.W.Frag) (a : Addr) : It :=
  ⟨fun i H => ∃ (xs : List V) (x : V), SqT K H a xs ∧ xs[i]? = some x, fun i H v H' => ∃ T x, v = .ref T ∧ H T = none ∧ H' = upd H T (.tup [.int (i : Nat), x]) ∧ ∀ xs, SqT K H a xs → xs[i]? = some x, fun i H => ∃ xs : List V, SqT K H a xs ∧ xs.length ≤ i⟩
theorem turn_enumT {P : Program} {w : World} {K : PySem.W.Frag} {elts : List Expr} {kk : Nat} {tpos : Pos} (a e it : Addr) :
    Turn P w K (.Tuple elts kk tpos) (Itet K a) [e, it] e (fun i h => (∃ old, IsEnum h e it ((i : Nat) : Int) old) ∧ h.IsTupleIter it a i ∧ e ≠ it) where
  mem := by simp
  obj := fun i h st b hb => by
    obtain ⟨⟨old, he⟩, ⟨o, ho, hc, hd⟩, _⟩ := st
    have e' : b = e ∨ b = it := by simpa using hb
    rcases e' with z | z
    · rw [z]; exact ⟨_, he, fun v q => nomatch q⟩
    · rw [z]; exact ⟨o, ho, fun v q => by rw [hd] at q; cases q⟩
  keep := fun i h h' st k => let ⟨⟨old, he⟩, hi, hne⟩ := st; ⟨⟨old, k e (by simp) _ he⟩, hi.at fun o q => k it (by simp) o q, hne⟩
  item := by
    intro X hP hw hK hc i pins s σ H E I hf st hg
    subst hP hw hK
    obtain ⟨⟨old, he⟩, hit, hne⟩ := st
    obtain ⟨xs, x, hq, hx⟩ := hg
    obtain ⟨its, rv, p, hz⟩ := I.tuple hq
    have p : s.heap.IsTuple a its.toArray := p
    obtain ⟨u, hu, ru⟩ := rv.get hx
    have hel : e < s.heap.objs.size := Heap.lt_size he
    have hil : it < s.heap.objs.size := by obtain ⟨_, q, _⟩ := hit; exact Heap.lt_size q
    have hai : a ≠ it := by
      rintro rfl
      obtain ⟨o1, q1, c1, _⟩ := hit
      obtain ⟨o2, q2, c2, _⟩ := p
      rw [q1] at q2; cases q2
      rw [c1] at c2; exact absurd (Value.type.inj c2) (by decide)
    have hea : e ∉ [it, a] := by
      intro z
      rcases List.mem_cons.mp z with z | z
      · exact hne z
      · have z : e = a := by simpa using z
        subst z
        obtain ⟨o2, q2, c2, _⟩ := p
        rw [he] at q2; cases q2
        exact absurd (Value.type.inj c2) (by decide)
    have hl := rv.length
    have hi : i < its.toArray.size := by
      have := (List.getElem?_eq_some_iff.mp hu).1
      simpa using this
    refine wpAny_pyNext_enum_itemD (Draws.tuple (A := X.A.in1) (I.ok.hd hc) it a hai its.toArray) he ⟨hit, p⟩ hi hne hea fun x' h' tk hP ho st' hT hsz hk => ?_
    have ex : x' = u := by
      have h1 : its.toArray[i]? = some u := by simpa using hu
      rw [h1] at hP
      exact (Option.some.inj hP).symm
    subst ex
    refine ⟨_, rfl, wpAny_letOwnedTupleGo_enum (s := { s with heap := h', toks := tk + 1 }) ho fun h'' he' sb => ?_⟩
    have hT2 : h''.get? s.heap.objs.size = some { cls := .type "tuple", data := .seq #[.int i tk, x'] } := (sb.2 _ (Nat.ne_of_gt hel)).trans hT
    have new : ObjOk X.prog X.w (upd H s.heap.objs.size (.tup [.int (i : Nat), x])) h'' s.heap.objs.size (.tup [.int (i : Nat), x]) :=
      ⟨by show 2 ≤ sizeLine; decide, [.int i tk, x'], .cons ⟨_, rfl⟩ (.cons ru .nil), ⟨_, hT2, rfl, _, rfl⟩⟩
    have I1 : Inv X pins σ (upd H s.heap.objs.size (.tup [.int (i : Nat), x])) { s with heap := h'', toks := tk + 1 } :=
      I.turnedNew (ch := [e, it]) (fun b ob hb q => (sb.2 b (fun z => hb (by simp [z]))).trans (hk b ob (fun z => hb (by simp [z])) (fun z => hb (by simp [z])) q)) hf (Nat.le_refl _) new
    refine ⟨.ref s.heap.objs.size, _, I1, rfl, ⟨_, x, rfl, I.hok.fresh (Nat.le_refl _), rfl, fun ys hy => by rw [I.tuple_inj hy hq]; exact hx⟩, ⟨⟨x', ?_⟩, st'.1.at fun o q => (sb.2 it (Ne.symm hne)).trans q, hne⟩, fun b hb => ?_⟩
    · have e1 : ((i + 1 : Nat) : Int) = (i : Int) + 1 := by omega
      rw [e1]; exact he'
    · have hb' : b < s.heap.objs.size := by
        have e' : b = e ∨ b = it := by simpa using hb
        rcases e' with z | z
        · rw [z]; exact hel
        · rw [z]; exact hil
      rw [upd_ne (Nat.ne_of_lt hb')]
      exact (hf b hb).1
  done := by
    intro X hP hw hK hc i pins s σ H E I hf st hg
    subst hP hw hK
    obtain ⟨⟨old, he⟩, hit, hne⟩ := st
    obtain ⟨xs, hq, hx⟩ := hg
    obtain ⟨its, rv, p, hz⟩ := I.tuple hq
    have p : s.heap.IsTuple a its.toArray := p
    obtain ⟨f0, f1, f2, f3, f4, f5⟩ := hf it (by simp)
    have hl := rv.length
    have hai : a ≠ it := by
      rintro rfl
      obtain ⟨o1, q1, c1, _⟩ := hit
      obtain ⟨o2, q2, c2, _⟩ := p
      rw [q1] at q2; cases q2
      rw [c1] at c2; exact absurd (Value.type.inj c2) (by decide)
    have D : Draws X.prog X.w X.A.in1 it [it, a] i (fun _ _ => True) (fun j h => j = i ∧ h.IsTupleIter it a i ∧ h.IsTuple a its.toArray) :=
      { live := fun _ _ st => let ⟨_, ⟨o, ho, _⟩, _⟩ := st; ⟨o, ho⟩
        frame := fun _ _ _ st hk => ⟨st.1, st.2.1.at fun o e => hk it (by simp) o e, st.2.2.at fun o e => hk a (by simp) o e⟩
        item := fun j s Q E hj st _ => absurd st.1 (Nat.ne_of_lt hj)
        done := fun s Q E st hE => wpAny_nextOf_tuple_end (A := X.A.in1) (I.ok.hd hc) st.2.1 st.2.2 (by simp; omega) hE }
    exact wpAny_pyNext_enum_endD D he ⟨rfl, hit, p⟩ fun h' eb => ⟨rfl, I.turned (t' := s.toks) (fun b o hb q => eb b o hb q) f0 f1 f3 f4 f5⟩
  self := fun A i s Q E st h => let ⟨⟨_, he⟩, _⟩ := st; wpAny_pyIter_enum he h

def iEnumT (K : PySem.W.Frag) (ta : TA) : TI := fun σ H R => ta σ H fun vs H1 => ∃ a xs, vs = [.ref a] ∧ SqT K H1 a xs ∧ R (Itet K a) H1
theorem pi_enumT {X : Cx} {e : Expr} {ta : TA} {p pos tpos : Pos} {elts : List Expr} {kk : Nat} (hg : Gl X "enumerate") (hm : X.mg "enumerate" = none) (ha : PA X [e] ta) (hs : starEach [e] X.env = [(false, eval e X.env)] := by rfl) :
    PI X (.Tuple elts kk tpos) (.Call (.Name "enumerate" p) [e] [] pos) (iEnumT X.K ta) := by
  refine ⟨fun pins s σ H R I h => ?_⟩
  refine Call_ (ld_blt I hg hm boot_enumerate (PyProof.Rows.callWith_type1 (thn (ha.run pos pins s σ H _ I h) fun us s1 ⟨vs, H1, I1, r1, q1⟩ => ?_) hs rfl))
  obtain ⟨a, xs, ex, hq, q⟩ := q1
  subst ex
  cases r1 with
  | cons r rr =>
    cases rr
    cases r
    obtain ⟨its, rv, p', hz⟩ := I1.tuple hq
    refine vm_enumCall (begins_tuple a its.toArray) p' fun h' he hit hk => wpAny_pyIter_enum he ?_
    have I2 : Inv X pins σ H1 { s1 with heap := h' } := I1.kept (t' := s1.toks) hk
    refine ⟨s1.heap.objs.size + 1, [s1.heap.objs.size + 1, s1.heap.objs.size], _, _, H1, rfl, I2, turn_enumT a (s1.heap.objs.size + 1) s1.heap.objs.size, ⟨⟨.none, he⟩, ⟨_, hit, rfl, rfl⟩, Nat.succ_ne_self _⟩, fun b hb => ?_, q⟩
    have e' : b = s1.heap.objs.size + 1 ∨ b = s1.heap.objs.size := by simpa using hb
    have hle : s1.heap.objs.size ≤ b := by
      rcases e' with z | z
      · rw [z]; exact Nat.le_add_right _ _
      · rw [z]; exact Nat.le_refl _
    exact I1.fpOk hle (I1.hok.fresh hle)
/-- either, by what it is -/
theorem pi_or {X : Cx} {tg e : Expr} {t t' : TI} (h : PI X tg e t) (h' : PI X tg e t') : PI X tg e (fun σ H R => t σ H R ∨ t' σ H R) := ⟨fun pins s σ H R I q => q.elim (fun q => h.run pins s σ H R I q) fun q => h'.run pins s σ H R I q⟩
end VM
/-! enumerate, dicts, comprehensions: the rules. -/
namespace VM
open PySem L2 PyProof.Rows
def Src.enum : Src → Src
  | .vals ds => .vals (enumD ds)
  | .cell k => .ecell k
  | .ecell k => .ecell k
def Src.plain : Src → Bool
  | .ecell _ => false
  | _ => true
theorem enumD_len {ds : List D} : (enumD ds).length = ds.length := by unfold enumD; simp
theorem enumD_get {ds : List D} {i : Nat} : (enumD ds)[i]? = (ds[i]?).map fun d => .tup [.int (i : Nat), d] := by
  unfold enumD
  rw [List.getElem?_map, List.getElem?_zipIdx]
  cases ds[i]? with
  | none => rfl
  | some d => simp
theorem enum_at {s : Src} {μ : Sto} (h : s.plain = true) : s.enum.at μ = (s.at μ).map enumD := by
  cases s with
  | vals ds => rfl
  | ecell k => cases h
  | cell k =>
    simp only [Src.enum, Src.at]
    cases μ[k]? with
    | none => rfl
    | some c =>
      cases hv : c.val <;> simp [hv]
section
variable {K : PySem.W.Frag} {Acc : Addr → Prop} {ι : List Addr} {μ : Sto} {H : Hp}
theorem jr_enumL {a : Addr} {s : Src} (hs : s.plain = true) (h : JR K (Itl K a) s Acc ι μ H) : JR K (Ite K a) s.enum Acc ι μ H := by
  intro Acc' ι' μ' H' S m pr es he i
  rw [enum_at hs] at he
  cases e0 : s.at μ' with
  | none => rw [e0] at he; cases he
  | some ds =>
    rw [e0] at he
    cases he
    have j := h Acc' ι' μ' H' S m pr ds e0 i
    rw [enumD_get, enumD_len]
    refine ⟨fun d hd => ?_, j.2⟩
    cases hd0 : ds[i]? with
    | none => rw [hd0] at hd; cases hd
    | some d0 =>
      rw [hd0] at hd
      cases hd
      obtain ⟨jg, jy⟩ := j.1 d0 hd0
      refine ⟨jg, fun v H'' y => ?_⟩
      obtain ⟨T, x, rfl, nT, rfl, hx⟩ := y
      obtain ⟨_, r⟩ := jy x H' ⟨rfl, hx⟩
      exact ⟨S.up nT _, S.newT nT (Reps.cons rep_int (Reps.cons r Reps.nil))⟩
theorem jr_enumT {a : Addr} {s : Src} (hs : s.plain = true) (h : JR K (Itt K a) s Acc ι μ H) : JR K (Itet K a) s.enum Acc ι μ H := by
  intro Acc' ι' μ' H' S m pr es he i
  rw [enum_at hs] at he
  cases e0 : s.at μ' with
  | none => rw [e0] at he; cases he
  | some ds =>
    rw [e0] at he
    cases he
    have j := h Acc' ι' μ' H' S m pr ds e0 i
    rw [enumD_get, enumD_len]
    refine ⟨fun d hd => ?_, j.2⟩
    cases hd0 : ds[i]? with
    | none => rw [hd0] at hd; cases hd
    | some d0 =>
      rw [hd0] at hd
      cases hd
      obtain ⟨jg, jy⟩ := j.1 d0 hd0
      refine ⟨jg, fun v H'' y => ?_⟩
      obtain ⟨T, x, rfl, nT, rfl, hx⟩ := y
      obtain ⟨_, r⟩ := jy x H' ⟨rfl, hx⟩
      exact ⟨S.up nT _, S.newT nT (Reps.cons rep_int (Reps.cons r Reps.nil))⟩
end
def isTx : EV → Bool
  | .dat (.str _) => true
  | _ => false
def iEnm (f : SE) : SI := fun F ρ μ => (f F ρ μ).bind fun v μ1 => match isTx v, srcOf v μ1 with
  | false, some s => .ok s.enum μ1
  | _, _ => .bad
section
variable {X : Cx} {XC : Nat → Addr} {F : Fns} {W : WX} {tg e a b c : Expr} {fe : SE} {fa : SA} {pos p tpos : Pos} {elts : List Expr} {kk : Nat}
theorem src_plain {v : EV} {μ : Sto} {s : Src} (h : srcOf v μ = some s) : s.plain = true := by
  unfold srcOf at h
  split at h <;> first | (cases h; rfl) | skip
  · split at h
    · split at h
      · cases h; rfl
      · cases h
    · cases h
  · cases h
theorem src_jr {K : PySem.W.Frag} {Acc : Addr → Prop} {ι : List Addr} {μ μ1 : Sto} {H H1 : Hp} {v : EV} {u : V} {s : Src} (S : Sim K Acc μ ι H) (t1 : Stp K Acc ι μ H ι μ1 H1) (r1 : EvR K (Liv Acc μ1 ι) ι H H1 v u) (es : srcOf v μ1 = some s) :
    (∃ a, u = .ref a ∧ (∃ xs, SqL K H1 a xs) ∧ JR K (Itl K a) s Acc ι μ1 H1) ∨ (∃ a, u = .ref a ∧ (∃ xs, SqT K H1 a xs) ∧ JR K (Itt K a) s Acc ι μ1 H1) ∨ isTx v = true := by
  unfold srcOf at es
  split at es
  · cases es
    rename_i ds
    obtain ⟨a, vs, rfl, tp, rp⟩ := (by simpa only [EvR, Rep] using r1 : ∃ a vs, u = .ref a ∧ TupN K _ H1 a vs ∧ Reps K _ H1 ds vs)
    exact .inr (.inl ⟨a, rfl, ⟨vs, tp.sq⟩, jr_tup tp rp⟩)
  · cases es
    rename_i ds
    obtain ⟨a, vs, rfl, tp, n, rp⟩ := (by simpa only [EvR, Rep] using r1 : ∃ a vs, u = .ref a ∧ H1 a = some (.lst vs) ∧ ¬ Liv Acc μ1 ι a ∧ Reps K _ H1 ds vs)
    exact .inl ⟨a, rfl, ⟨vs, SqL.of tp⟩, jr_still (.inl ⟨.inl tp, n⟩) rp⟩
  · cases es
    rename_i ns
    obtain ⟨a, rfl, tp⟩ := (by simpa only [EvR, Rep] using r1 : ∃ a, u = .ref a ∧ LstN K _ H1 a (ns.map V.int))
    exact .inl ⟨a, rfl, ⟨_, tp.sq⟩, jr_still tp (Reps.ints ns)⟩
  · exact .inr (.inr rfl)
  · cases es
    rename_i ds
    obtain ⟨p, rfl, n, vs, hv, rp⟩ := r1
    have nl : ¬ Liv Acc μ1 ι p := fun z => by
      rcases z with z | z
      · exact S.trk z.mem n
      · exact (S.acc p z).2 n
    exact .inl ⟨p, rfl, ⟨vs, SqL.of hv⟩, jr_still (.inl ⟨.inl hv, nl⟩) rp⟩
  · rename_i k
    obtain ⟨a, ea, rfl⟩ := r1
    cases hc : μ1[k]? with
    | none => rw [hc] at es; cases es
    | some c =>
      rw [hc] at es
      simp only at es
      cases hv : c.val with
      | dic ks ds => rw [hv] at es; cases es
      | lst ds =>
        rw [hv] at es
        cases es
        obtain ⟨b, e1, r⟩ := t1.sim.cell k c hc
        rw [ea] at e1; cases e1
        rw [hv] at r
        obtain ⟨vs, hl, rp⟩ := r
        exact .inl ⟨a, rfl, ⟨vs, SqL.of hl⟩, jr_cell ea⟩
  · cases es
/-- whatever a thing holds, its enumerated walk -/
theorem rdI_enm {K : PySem.W.Frag} {σ : L2.St} {H : Hp} {R : It → Hp → Prop} (h : rdI K XC F W (iEnm fe) σ H R) :
    rdE K XC F W fe σ H fun v H1 => (∃ a xs, v = .ref a ∧ SqL K H1 a xs ∧ R (Ite K a) H1) ∨ (∃ a xs, v = .ref a ∧ SqT K H1 a xs ∧ R (Itet K a) H1) := by
  obtain ⟨Acc, ι, ρ, μ, S, E, h⟩ := h
  refine ⟨Acc, ι, ρ, μ, S, E, ?_⟩
  unfold iEnm at h
  cases er : fe F ρ μ with
  | bad => rw [er] at h; exact h
  | exc x μ1 => rw [er] at h; exact h
  | ok v μ1 =>
    rw [er] at h
    simp only [Res.bind] at h
    intro u H1 t1 r1
    cases es : srcOf v μ1 with
    | none => rw [es] at h; cases hx : isTx v <;> (rw [hx] at h; exact h.elim)
    | some s =>
      have jr := src_jr S t1 r1.1 es
      have hp := src_plain es
      cases hx : isTx v with
      | true => rw [hx] at h; exact h.elim
      | false =>
        rw [hx, es] at h
        rw [hx] at jr
        rcases jr with ⟨a, rfl, ⟨xs, hq⟩, jr⟩ | ⟨a, rfl, ⟨xs, hq⟩, jr⟩ | jr
        · exact .inl ⟨a, xs, rfl, hq, h _ H1 t1 (jr_enumL hp jr)⟩
        · exact .inr ⟨a, xs, rfl, hq, h _ H1 t1 (jr_enumT hp jr)⟩
        · cases jr
theorem ci_enum (hg : Gl X "enumerate") (hm : X.mg "enumerate" = none) (he : PE X e (rdE X.K XC F W fe)) (hs : starEach [e] X.env = [(false, eval e X.env)] := by rfl) :
    PI X (.Tuple elts kk tpos) (.Call (.Name "enumerate" p) [e] [] pos) (rdI X.K XC F W (iEnm fe)) := by
  refine ⟨fun pins s σ H R I h => ?_⟩
  have h' := rdI_enm h
  have ha := pa_cons he pa_nil (show starEach [e] X.env = (false, eval e X.env) :: starEach [] X.env from hs)
  refine Call_ (ld_blt I hg hm boot_enumerate (PyProof.Rows.callWith_type1 (thn (ha.run pos pins s σ H (fun vs H1 => ∃ x, vs = [x] ∧ ((∃ a xs, x = .ref a ∧ SqL X.K H1 a xs ∧ R (Ite X.K a) H1) ∨ (∃ a xs, x = .ref a ∧ SqT X.K H1 a xs ∧ R (Itet X.K a) H1))) I ?_) fun us s1 ⟨vs, H1, I1, r1, q1⟩ => ?_) hs rfl))
  · obtain ⟨Acc, ι, ρ, μ, S, E, h2⟩ := h'
    exact ⟨Acc, ι, ρ, μ, S, E, wp.imp h2 fun b H' q => ⟨b, rfl, q⟩⟩
  obtain ⟨x, ex, q1⟩ := q1
  subst ex
  obtain ⟨u, rfl, ru⟩ := Vals.one r1
  have fp : ∀ b ∈ [s1.heap.objs.size + 1, s1.heap.objs.size], FpOk X pins H1 b := fun b hb => by
    have e' : b = s1.heap.objs.size + 1 ∨ b = s1.heap.objs.size := by simpa using hb
    have hle : s1.heap.objs.size ≤ b := by
      rcases e' with z | z
      · rw [z]; exact Nat.le_add_right _ _
      · rw [z]; exact Nat.le_refl _
    exact I1.fpOk hle (I1.hok.fresh hle)
  rcases q1 with ⟨a, xs, rfl, hq, q⟩ | ⟨a, xs, rfl, hq, q⟩
  · cases ru
    obtain ⟨its, rv, p', hz⟩ := I1.list hq
    refine call_enumerate_list p'.isList fun h' he hit hsz hk => wpAny_pyIter_enum he ?_
    exact ⟨s1.heap.objs.size + 1, [s1.heap.objs.size + 1, s1.heap.objs.size], _, _, H1, rfl, I1.kept (t' := s1.toks) hk, turn_enum a (s1.heap.objs.size + 1) s1.heap.objs.size, ⟨⟨.none, he⟩, hit, Nat.succ_ne_self _⟩, fp, q⟩
  · cases ru
    obtain ⟨its, rv, p', hz⟩ := I1.tuple hq
    refine vm_enumCall (begins_tuple a its.toArray) p' fun h' he hit hk => wpAny_pyIter_enum he ?_
    exact ⟨s1.heap.objs.size + 1, [s1.heap.objs.size + 1, s1.heap.objs.size], _, _, H1, rfl, I1.kept (t' := s1.toks) hk, turn_enumT a (s1.heap.objs.size + 1) s1.heap.objs.size, ⟨⟨.none, he⟩, ⟨_, hit, rfl, rfl⟩, Nat.succ_ne_self _⟩, fp, q⟩
end

/-! ### dicts -/
def eDict0 : SE := fun _ _ μ => .ok (.new (.dic [] [])) μ
/-- d.get(k, x) -/
def eGet2 (o k x : SE) : SE := fun F ρ μ => (o F ρ μ).bind fun v μ1 => match v.see μ1 with
  | some (.dic _ _) => (k F ρ μ1).bind fun w μ2 => (x F ρ μ2).bind fun u μ3 => match v.see μ3, w.see μ3 with
    | some (.dic ks ds), some kd => match kd.key with
      | some j => match dget ks ds j with
        | some d => .ok (.dat d) μ3
        | none => .ok u μ3
      | none => .bad
    | _, _ => .bad
  | _ => .bad
def eGet1 (o k : SE) : SE := eGet2 o k (eC .non)
/-- d.setdefault(k, x) -/
def eSetd (o k x : SE) : SE := fun F ρ μ => (o F ρ μ).bind fun v μ1 => match v, v.see μ1 with
  | .cel c, some (.dic _ _) => (k F ρ μ1).bind fun w μ2 => (x F ρ μ2).bind fun u μ3 => match u.frz μ3, w.see μ3 with
    | some (d, μ4), some kd => match μ4[c]?, kd.key with
      | some cc, some j => match cc.live, cc.val with
        | true, .dic ks ds => if ndK ks && decide (ks.length < LIM) then match dget ks ds j with
          | some d' => .ok (.dat d') μ4
          | none => .ok (.dat d) (μ4.set c ⟨true, .dic (dput ks ds j d).1 (dput ks ds j d).2⟩) else .bad
        | _, _ => .bad
      | _, _ => .bad
    | _, _ => .bad
  | _, _ => .bad
section
variable {X : Cx} {XC : Nat → Addr} {F : Fns} {W : WX} {o e f : Expr} {fo fe ff : SE} {apos cpos pos : Pos}
theorem c_dict0 : PE X (.Dict [] [] pos) (rdE X.K XC F W eDict0) := PEimp pe_dnewK fun σ H Q ⟨Acc, ι, ρ, μ, S, E, h⟩ p hp =>
  h (.ref p) _ (S.up hp _) ⟨⟨p, rfl, hp, [], .inl upd_same, rfl, Reps.nil⟩, S.ownD (ks := []) (ds := []) (vs := []) hp rfl Reps.nil⟩
theorem EvR.move {K : PySem.W.Frag} {Acc : Addr → Prop} {ι : List Addr} {μ μ1 μ2 : Sto} {H H1 H2 : Hp} {v : EV} {x : V} (t1 : Stp K Acc ι μ H ι μ1 H1) (S : Sim K Acc μ ι H) (t2 : Stp K Acc ι μ1 H1 ι μ2 H2) (h : EvR K (Liv Acc μ1 ι) ι H H1 v x) : EvR K (Liv Acc μ2 ι) ι H H2 v x := EvR.mv t1 S t2 h rfl
theorem c_get2 (hu : X.A.units + 1 < cLine) (ho : PE X o (rdE X.K XC F W fo)) (he : PE X e (rdE X.K XC F W fe)) (hf : PE X f (rdE X.K XC F W ff)) (m : M2 X o "get" apos e f cpos) : PE X (.Call (.Attribute o "get" apos) [e, f] [] cpos) (rdE X.K XC F W (eGet2 fo fe ff)) :=
  PEimp (pe_dget2 hu ho he hf m) fun σ H Q ⟨Acc, ι, ρ, μ, S, E, h⟩ => by
    refine rd.bind (Stp.refl S) E h fun v μ1 x H1 _ t1 r1 h1 => ?_
    cases hs1 : v.see μ1 with
    | none => rw [hs1] at h1; exact h1.elim
    | some d1 =>
      rw [hs1] at h1
      cases d1 <;> try exact h1.elim
      simp only at h1
      obtain ⟨a, vs1, rfl, ha1, _, _⟩ := see_ok t1.sim r1.1 hs1
      refine ⟨a, rfl, .inl ⟨_, ha1⟩, ?_⟩
      refine rd.bind t1 (E.mv t1 S) h1 fun w μ2 y H2 _ t2 r2 h2 => ?_
      have t12 := t1.trans t2
      refine rd.bind t12 (E.mv t12 S) h2 fun u μ3 z H3 _ t3 r3 h3 => ?_
      have t23 := t2.trans t3
      have r1' := EvR.move t1 S t23 r1.1
      have r2' := EvR.move t2 t1.sim t3 r2.1
      cases hs3 : v.see μ3 with
      | none => rw [hs3] at h3; exact h3.elim
      | some d3 =>
        rw [hs3] at h3
        cases d3 <;> try exact h3.elim
        rename_i ks ds
        cases hw : w.see μ3 with
        | none => rw [hw] at h3; exact h3.elim
        | some kd =>
          rw [hw] at h3
          simp only at h3
          cases hk : kd.key with
          | none => rw [hk] at h3; exact h3.elim
          | some j =>
            rw [hk] at h3
            simp only at h3
            obtain ⟨a3, vs, e3, ha, hl, rp⟩ := see_ok t3.sim r1' hs3
            cases e3
            have ey := key_rep hk (see_ok t3.sim r2' hw)
            subst ey
            refine ⟨_, (.inl ⟨_, _, ha, rfl, rfl⟩), ?_⟩
            have hg := val_get (k := j) hl rp
            cases hd : dget ks ds j with
            | some d =>
              rw [hd] at h3 hg
              obtain ⟨vv, e1, rv⟩ := hg
              rw [e1]
              exact h3 vv H3 (t12.trans t3) ⟨rv, trivial⟩
            | none =>
              rw [hd] at h3 hg
              have hg : valV (ks.zip vs) j = none := hg
              rw [hg]
              exact h3 z H3 (t12.trans t3) ⟨EvR.back t12 r3.1, r3.2⟩
theorem c_get1 (hu : X.A.units + 1 < cLine) (ho : PE X o (rdE X.K XC F W fo)) (he : PE X e (rdE X.K XC F W fe)) (m : M1 X o "get" apos e cpos) : PE X (.Call (.Attribute o "get" apos) [e] [] cpos) (rdE X.K XC F W (eGet1 fo fe)) :=
  PEimp (pe_dget1 hu ho he m) fun σ H Q ⟨Acc, ι, ρ, μ, S, E, h⟩ => by
    unfold eGet1 eGet2 at h
    refine rd.bind (Stp.refl S) E h fun v μ1 x H1 _ t1 r1 h1 => ?_
    cases hs1 : v.see μ1 with
    | none => rw [hs1] at h1; exact h1.elim
    | some d1 =>
      rw [hs1] at h1
      cases d1 <;> try exact h1.elim
      simp only at h1
      obtain ⟨a, vs1, rfl, ha1, _, _⟩ := see_ok t1.sim r1.1 hs1
      refine ⟨a, rfl, .inl ⟨_, ha1⟩, ?_⟩
      refine rd.bind t1 (E.mv t1 S) h1 fun w μ2 y H2 _ t2 r2 h2 => ?_
      simp only [eC, Res.bind] at h2
      have t12 := t1.trans t2
      have r1' := EvR.move t1 S t2 r1.1
      cases hs3 : v.see μ2 with
      | none => rw [hs3] at h2; exact h2.elim
      | some d3 =>
        rw [hs3] at h2
        cases d3 <;> try exact h2.elim
        rename_i ks ds
        cases hw : w.see μ2 with
        | none => rw [hw] at h2; exact h2.elim
        | some kd =>
          rw [hw] at h2
          simp only at h2
          cases hk : kd.key with
          | none => rw [hk] at h2; exact h2.elim
          | some j =>
            rw [hk] at h2
            simp only at h2
            obtain ⟨a3, vs, e3, ha, hl, rp⟩ := see_ok t2.sim r1' hs3
            cases e3
            have ey := key_rep hk (see_ok t2.sim r2.1 hw)
            subst ey
            refine ⟨_, (.inl ⟨_, _, ha, rfl, rfl⟩), ?_⟩
            have hg := val_get (k := j) hl rp
            cases hd : dget ks ds j with
            | some d =>
              rw [hd] at h2 hg
              obtain ⟨vv, e1, rv⟩ := hg
              rw [e1]
              exact h2 vv H2 t12 ⟨rv, trivial⟩
            | none =>
              rw [hd] at h2 hg
              have hg : valV (ks.zip vs) j = none := hg
              rw [hg]
              exact h2 V.non H2 t12 ⟨rfl, trivial⟩
theorem c_setd (ho : PE X o (rdE X.K XC F W fo)) (he : PE X e (rdE X.K XC F W fe)) (hf : PE X f (rdE X.K XC F W ff)) (m : M2 X o "setdefault" apos e f cpos) : PE X (.Call (.Attribute o "setdefault" apos) [e, f] [] cpos) (rdE X.K XC F W (eSetd fo fe ff)) :=
  PEimp (pe_dsetd ho he hf m) fun σ H Q ⟨Acc, ι, ρ, μ, S, E, h⟩ => by
    refine rd.bind (Stp.refl S) E h fun v μ1 x H1 _ t1 r1 h1 => ?_
    cases v with
    | dat _ => exact h1.elim
    | new _ => exact h1.elim
    | cel c =>
      cases hs1 : (EV.cel c).see μ1 with
      | none => rw [hs1] at h1; exact h1.elim
      | some d1 =>
        rw [hs1] at h1
        cases d1 <;> try exact h1.elim
        simp only at h1
        obtain ⟨a, vs1, ea, ha1, _, _⟩ := see_ok t1.sim r1.1 hs1
        subst ea
        refine ⟨a, rfl, .inl ⟨_, ha1⟩, ?_⟩
        obtain ⟨a', ek, e'⟩ := r1.1
        cases e'
        refine rd.bind t1 (E.mv t1 S) h1 fun w μ2 y H2 _ t2 r2 h2 => ?_
        have t12 := t1.trans t2
        refine rd.bind t12 (E.mv t12 S) h2 fun u μ3 z H3 _ t3 r3 h3 => ?_
        have r2' := EvR.move t2 t1.sim t3 r2.1
        cases hf : u.frz μ3 with
        | none => rw [hf] at h3; exact h3.elim
        | some p =>
          obtain ⟨d, μ4⟩ := p
          rw [hf] at h3
          cases hw : w.see μ3 with
          | none => rw [hw] at h3; exact h3.elim
          | some kd =>
            rw [hw] at h3
            simp only at h3
            obtain ⟨t4, rd⟩ := frz_ok t3.sim (fun a h => t2.sim.trk h) (fun a h => (t2.sim.acc a h).2) r3.1 hf
            have t14 := (t12.trans t3).trans t4
            cases hc : μ4[c]? with
            | none => rw [hc] at h3; exact h3.elim
            | some cc =>
              rw [hc] at h3
              cases hk : kd.key with
              | none => rw [hk] at h3; exact h3.elim
              | some j =>
                rw [hk] at h3
                simp only at h3
                have ey := key_rep hk (see_ok t3.sim r2' hw)
                subst ey
                cases hl : cc.live with
                | false => rw [hl] at h3; exact h3.elim
                | true =>
                  cases hv : cc.val with
                  | lst _ => rw [hl, hv] at h3; exact h3.elim
                  | dic ks ds =>
                    rw [hl, hv] at h3
                    simp only at h3
                    obtain ⟨b, eb, rc⟩ := t4.sim.cell c cc hc
                    rw [ek] at eb; cases eb
                    rw [hv] at rc
                    obtain ⟨vs, ha, ll, rp⟩ := rc
                    have ha := ha.elim id fun ⟨o, e⟩ => absurd e (t4.sim.hot _ (.inl ⟨c, cc, hc, hl, ek⟩) o _)
                    split at h3
                    case isFalse => exact h3.elim
                    case isTrue hz =>
                      rw [Bool.and_eq_true, decide_eq_true_eq] at hz
                      have hzl : (ks.zip vs).length < sizeLine := by
                        rw [List.length_zip]
                        have h2 : LIM < sizeLine := by decide
                        have := hz.2
                        omega
                      have hg := val_get (k := j) ll rp
                      cases hd : dget ks ds j with
                      | some d' =>
                        rw [hd] at h3 hg
                        obtain ⟨vv, e1, rv⟩ := hg
                        refine ⟨_, j, ha, rfl, hzl, fun v hv => ?_, fun hn => ?_⟩
                        · rw [e1] at hv
                          cases hv
                          exact h3 vv H3 t14 ⟨rv, trivial⟩
                        · rw [e1] at hn; cases hn
                      | none =>
                        rw [hd] at h3 hg
                        simp only at h3
                        have hg : valV (ks.zip vs) j = none := hg
                        obtain ⟨ws, e1, r1⟩ := val_put (ndK_ok hz.1) ll rp rd
                        refine ⟨_, j, ha, rfl, hzl, fun v hv => ?_, fun _ => ?_⟩
                        · rw [hg] at hv; cases hv
                        · have tp := t4.sim.put (c' := .dic (dput ks ds j d).1 (dput ks ds j d).2) hc hl ek (o := .dK (putK (ks.zip vs) j z)) fun H' m e => ⟨ws, .inl (by rw [e, e1]), dput_len ll, Reps.mv m _ _ r1⟩
                          exact h3 z _ (t14.trans tp) ⟨Rep.mv (tp.mv t4.sim) _ _ rd, trivial⟩
end
end VM
/-! Comprehensions: the rules. -/
namespace VM
open PySem L2 PyProof.Rows
example : asg (.tup [.nm 0, .tup [.nm 1]]) (.tup [.int 1, .tup [.non]]) [none, none] = some [some (.dat (.int 1)), some (.dat .non)] := rfl
section
variable {X : Cx} {XC : Nat → Addr} {F : Fns} {W : WX} {pos spos : Pos} {tg iter elt e : Expr} {ifs : List Expr} {es : List Expr} {x : Str}
theorem t_nm {i : Nat} (hN : X.N.Nodup) (hi : X.N[i]? = some x) (hx : Loc X.env.scope x) (hf : X.fn x = true ∨ X.env.scope.names.lookup x = some .local := by first | exact .inl rfl | exact .inr rfl | assumption) : PG X (.Name x pos) (gT X.K (.nm i)) := by
  simp only [gT]
  exact pg_name hN hi hx hf
theorem t_nil : PGs X [] (gTs X.K []) := by
  simp only [gTs]
  exact pgs_nil
theorem t_cons {t : Tgt} {ts : List Tgt} (h1 : PG X e (gT X.K t)) (h2 : PGs X es (gTs X.K ts)) (hs : (assignEach (e :: es) X.env).map (·.2) = assign e X.env :: (assignEach es X.env).map (·.2) := by rfl) : PGs X (e :: es) (gTs X.K (t :: ts)) := by
  simp only [gTs]
  exact pgs_cons h1 h2 hs
theorem t_tp {k : Nat} {ts : List Tgt} {n : Nat} (hc : X.calm = true) (h : PGs X es (gTs X.K ts)) (hl : ts.length = n := by rfl) (hn : (assignEach es X.env).length = n := by rfl) (hst : (assignEach es X.env).findIdx? (·.1) = none := by rfl) : PG X (.Tuple es k pos) (gT X.K (.tup ts)) := by
  simp only [gT]
  subst hl
  exact pg_tup hc h hn hst
theorem PTsimp {ifs : List Expr} {t t' : TT} (h : PTs X ifs t) (i : ∀ σ H Q, t' σ H Q → t σ H Q) : PTs X ifs t' := ⟨fun pins s σ H Q I q => h.run pins s σ H Q I (i σ H Q q)⟩
theorem q_yes : PTs X [] (rdB X.K XC F W bYes) := PTsimp pts_nil fun σ H Q ⟨Acc, ι, ρ, μ, S, E, h⟩ => h true H (.refl S) rfl
theorem q_one {c : Expr} {fc : SB} (h : PT X c (rdB X.K XC F W fc)) : PTs X [c] (rdB X.K XC F W fc) := pts_one h
theorem c_lc {scope : Scope} {own : List (Str × Nat)} {fi : SI} {t : Tgt} {fc : SB} {fe : SE} {vs : List Nat} (hc : X.calm = true) (hN : X.N.Nodup) (hi : PI X tg iter (rdI X.K XC F W fi)) (ok : BlkOk X.N X.env.scope scope own) (hsl : ∀ i ∈ t.slots, i ∈ vs) (hv : own.map (·.2) = vs)
    (hg : ∀ (s : Shared) (H : Hp) (C : Addr) (cl : List (Str × Addr)) (fp : List Addr), PG (X.blk s H scope (compEnvC scope cl C X.env) fp) tg (gT X.K t))
    (ht : ∀ (s : Shared) (H : Hp) (C : Addr) (cl : List (Str × Addr)) (fp : List Addr), PTs (X.blk s H scope (compEnvC scope cl C X.env) fp) ifs (rdB X.K XC F W0 fc))
    (he : ∀ (s : Shared) (H : Hp) (C : Addr) (cl : List (Str × Addr)) (fp : List Addr), PE (X.blk s H scope (compEnvC scope cl C X.env) fp) elt (rdE X.K XC F W0 fe)) (hs : ∀ x, foldedSetIterable iter X.env x = pure x := by intro _; rfl) :
    PE X (.ListComp elt [⟨tg, iter, ifs, 0⟩] scope pos) (rdE X.K XC F W (eLc fi t fc fe vs)) := by
  subst hv
  exact PEimp (pe_lc hc hN hi ok hg ht he hs) fun σ H Q h => lc_read hsl h
theorem s_lc {i : Nat} {y : Str} {py : Pos} {scope : Scope} {own : List (Str × Nat)} {fi : SI} {t : Tgt} {fc : SB} {fe : SE} {vs : List Nat} (hc : X.calm = true) (hN : X.N.Nodup) (hy : X.N[i]? = some y) (hyl : X.env.scope.names.lookup y = some .local)
    (hsw : swapsWith (.ListComp elt [⟨tg, iter, ifs, 0⟩] scope pos) (some (.Name y py)) spos.line X.env = pure true)
    (hi : PI X tg iter (rdI X.K XC F W fi)) (ok : BlkOk X.N X.env.scope scope own) (hsl : ∀ i ∈ t.slots, i ∈ vs) (hv : own.map (·.2) = vs)
    (hg : ∀ (s : Shared) (H : Hp) (C : Addr) (cl : List (Str × Addr)) (fp : List Addr), PG (X.blk s H scope (compEnvC scope cl C X.env) fp) tg (gT X.K t))
    (ht : ∀ (s : Shared) (H : Hp) (C : Addr) (cl : List (Str × Addr)) (fp : List Addr), PTs (X.blk s H scope (compEnvC scope cl C X.env) fp) ifs (rdB X.K XC F W0 fc))
    (he : ∀ (s : Shared) (H : Hp) (C : Addr) (cl : List (Str × Addr)) (fp : List Addr), PE (X.blk s H scope (compEnvC scope cl C X.env) fp) elt (rdE X.K XC F W0 fe)) (hs : ∀ x, foldedSetIterable iter X.env x = pure x := by intro _; rfl) :
    PS X (.Assign [.Name y py] (.ListComp elt [⟨tg, iter, ifs, 0⟩] scope pos) spos) (rdS X.K XC F W (sSet i (eLc fi t fc fe vs))) := by
  subst hv
  refine PSimp (ps_setLc hc hN hy hyl hsw hi ok hg ht he hs) fun D σ H ⟨Acc, ι, ρ, μ, S, E, h⟩ => ?_
  refine lc_read hsl (rd.stm (Stp.refl S) E h fun v μ1 b H1 t1 r1 h1 => ?_)
  obtain ⟨ι', t', r'⟩ := bnd_ok S t1 r1.1 r1.2
  exact h1 ι' H1 _ t' ((E.mv t' S).set r')
end
end VM
/-! t[::-1] of a tuple. -/
namespace HT
open PySem PySem.Spec PyProof.Rows
section
variable {prog : Program} {w : World} {A : Around} {E : Value → Shared → Prop} {s : Shared}
theorem adjust_rev (n : Nat) : Builtin.Slice.sliceAdjust none none (-1) (n : Int) = ((n : Int) - 1, -1) := by
  have h1 : (-1 : Int) < 0 := by omega
  unfold Builtin.Slice.sliceAdjust
  simp only [h1, if_true]
theorem places_rev (n : Nat) : Builtin.Slice.slicePlaces ((n : Int) - 1) (-1) (-1) = n := by
  unfold Builtin.Slice.slicePlaces
  have h1 : ¬ (-1 : Int) > 0 := by omega
  have e : - (-1 : Int) = 1 := by decide
  simp only [h1, if_false, e, Int.ediv_one]
  split <;> omega
theorem sliceApplied_rev {sl : Addr} {t : Tok} {n : Nat} {Q : Int × Int × Nat → Shared → Prop} (hs : s.heap.IsSliceOf sl .none .none (.int (-1) t))
    (h : Q ((n : Int) - 1, -1, n) s) : wpAny (model prog w) A (Builtin.Slice.sliceApplied (.ref sl) (pure (n : Int))) Q E s := by
  obtain ⟨os, hos, hcs, hds⟩ := id hs
  unfold Builtin.Slice.sliceApplied Builtin.Slice.sliceFields
  refine wpAny_bind (wpAny_bind (wpAny_field hos hds (x := .none) rfl (wpAny_bind (wpAny_field hos hds (x := .none) rfl (wpAny_bind (wpAny_field hos hds (x := .int (-1) t) rfl (wpAny_pure ?_)))))))
  refine wpAny_bind (slicePart_int ?_)
  show wpAny _ _ (if ((-1 : Int) == 0) = true then _ else _) _ _ s
  rw [if_neg (by decide)]
  refine wpAny_bind (slicePart_none (wpAny_bind (slicePart_none (wpAny_bind (wpAny_pure ?_)))))
  show wpAny _ _ (match Builtin.Slice.sliceAdjust none none (-1) (n : Int) with | (lo, hi) => pure (lo, (-1 : Int), Builtin.Slice.slicePlaces lo hi (-1))) _ _ s
  rw [adjust_rev n]
  show wpAny _ _ (pure ((n : Int) - 1, (-1 : Int), Builtin.Slice.slicePlaces ((n : Int) - 1) (-1) (-1))) _ _ s
  rw [places_rev]
  exact wpAny_pure h
theorem fm_map {α β : Type} {f : α → Option β} {g : α → β} : ∀ {l : List α}, (∀ x ∈ l, f x = some (g x)) → l.filterMap f = l.map g
  | [], _ => rfl
  | x :: l, h => by
    rw [List.filterMap_cons, h x List.mem_cons_self, List.map_cons, fm_map fun y hy => h y (List.mem_cons_of_mem _ hy)]
theorem pick_rev (xs : List Value) : ((List.range xs.length).filterMap fun (m : Nat) => xs.toArray[((xs.length : Int) - 1 + (m : Int) * (-1)).toNat]?) = xs.reverse := by
  have key : ∀ m ∈ List.range xs.length, xs.toArray[((xs.length : Int) - 1 + (m : Int) * (-1)).toNat]? = some (xs.reverse[m]?.getD .none) := fun m hm => by
    have hm : m < xs.length := by simpa using hm
    have e : ((xs.length : Int) - 1 + (m : Int) * (-1)).toNat = xs.length - 1 - m := by omega
    have hl : xs.length - 1 - m < xs.length := by omega
    rw [e, List.getElem?_reverse hm, List.getElem?_toArray, List.getElem?_eq_getElem hl]
    rfl
  rw [fm_map key]
  apply List.ext_getElem
  · simp
  · intro i h1 h2
    have hi : i < xs.reverse.length := h2
    rw [List.getElem_map, List.getElem_range, List.getElem?_eq_getElem hi]
    rfl
theorem getItem_tuple_rev {t sl : Addr} {its : List Value} {tk : Tok} {Q : Value → Shared → Prop} (ht : IsTup s.heap t its.toArray) (hs : s.heap.IsSliceOf sl .none .none (.int (-1) tk))
    (h : Q (.ref s.heap.objs.size) { s with heap := s.heap.push { cls := .type "tuple", data := .seq its.reverse.toArray } })
    (hsz : its.length ≤ sizeLine) : wpAny (model prog w) A (getItem (.ref t) (.ref sl)) Q E s := by
  have htake : sizeOk (.seq its.reverse.toArray) := by
    show its.reverse.toArray.size ≤ sizeLine
    rw [List.size_toArray, List.length_reverse]
    exact hsz
  obtain ⟨os, hos, hcs, hds⟩ := id hs
  have hTs : s.TypeIs (.ref sl) "slice" := ⟨os, hos, hcs⟩
  unfold getItem
  try with_reducible refine wpAny_holding ?_
  first | refine wpAny_bind (wpAny_pure ?_) | skip
  refine wpAny_bind (wpAny_sequenceKey ht.typeIs (by decide) ?_)
  refine wpAny_bind (wpAny_callSpecial?_slot (name := Str.ofString "__getitem__") ht.typeIs PyProof.Rows.slot_tuple_getitem
    (wpAny_call_entry PyProof.Rows.slot_tuple_getitem ht.typeIs entry_tuple_getitem ?_ (args_tuple_getitem _ _)))
  show wpAny _ _ (Builtin.Tuple.tupleItemsOf (.ref t) >>= _) _ _ s
  refine wpAny_bind (tupleItemsOf_ ht ?_)
  refine wpAny_bind (wpAny_typeOf hTs ?_)
  rw [if_pos (by decide)]
  refine wpAny_bind (sliceApplied_rev (n := its.toArray.size) hs ?_)
  have hno : ¬ ((((its.toArray.size : Int) - 1) == 0 && (-1 : Int) == 1 && its.toArray.size == its.toArray.size) = true) := by
    intro q
    rw [Bool.and_eq_true, Bool.and_eq_true] at q
    exact absurd (eq_of_beq q.1.2) (by decide)
  show wpAny _ _ (if (((its.toArray.size : Int) - 1) == 0 && (-1 : Int) == 1 && its.toArray.size == its.toArray.size) = true then _ else _) _ _ s
  rw [if_neg hno, List.size_toArray, pick_rev]
  first
    | exact wpAny_bind (m := Builtin.Tuple.tupleExact _) (wpAny_newObj_type (wpAny_pure ⟨_, rfl, wpAny_pure h⟩) htake)
    | exact wpAny_bind (m := Builtin.Tuple.tupleExact _) (wpAny_newObj_type (wpAny_bind (wpAny_pure (wpAny_pure ⟨_, rfl, wpAny_pure h⟩))) htake)
    | exact wpAny_bind (wpAny_bind (m := Builtin.Tuple.tupleExact _) (wpAny_newObj_type (wpAny_pure (wpAny_pure ⟨_, rfl, wpAny_pure h⟩)) htake))
    | exact wpAny_bind (wpAny_bind (m := Builtin.Tuple.tupleExact _) (wpAny_newObj_type (wpAny_pure ⟨_, rfl, wpAny_pure h⟩) htake))
end
end HT
namespace VM
open PySem L2 PyProof.Rows
def tRevT (K : PySem.W.Frag) (te : TE) : TE := fun σ H Q => te σ H fun x H1 => ∃ a xs, x = .ref a ∧ SqT K H1 a xs ∧ ∀ p, H1 p = none → Q (.ref p) (upd H1 p (.tup xs.reverse))
theorem pe_revT {X : Cx} {e : Expr} {te : TE} {k : Nat} {p1 p2 p3 pos : Pos} (he : PE X e te) : PE X (.Subscript e (.Slice none none (some (.UnaryOp .USub (.Constant (.int 1) k p1) p2)) p3) pos) (tRevT X.K te) := by
  refine ⟨fun pins s σ H Q I h => ?_⟩
  refine Subscript_ (thn (he.run pins s σ H _ I h) fun v s1 ⟨x, H1, I1, r1, q1⟩ => ?_)
  obtain ⟨a, xs, ex, hx, q⟩ := q1
  subst ex
  cases r1
  have hst : PO X (some (.UnaryOp .USub (.Constant (.int 1) k p1) p2)) (tPart (tUn (rU fun i => .int (-i)) (tC (.int 1)))) := po_some (pe_un un_neg pe_int)
  refine wpAny_Slice (thn (po_none.run pins s1 σ H1 (fun o H2 => o = none ∧ H2 = H1) I1 ⟨rfl, rfl⟩) fun vl s2 ⟨l, H2, I2, pl, el, e2⟩ => ?_)
  subst el e2
  refine thn (po_none.run pins s2 σ H2 (fun o H3 => o = none ∧ H3 = H2) I2 ⟨rfl, rfl⟩) fun vu s3 ⟨u, H3, I3, pu, eu, e3⟩ => ?_
  subst eu e3
  refine thn (hst.run pins s3 σ H3 (fun o H4 => o = some (-1) ∧ H4 = H3) I3 ⟨1, rfl, -1, rfl, rfl, rfl⟩) fun vs s4 ⟨o, H4, I4, ps, eo, e4⟩ => ?_
  subst eo e4
  cases pl
  cases pu
  obtain ⟨tk, evs⟩ : ∃ tk, vs = .int (-1) tk := by
    cases ps
    exact ⟨_, rfl⟩
  subst evs
  have I5 : Inv X pins σ H4 { s4 with heap := s4.heap.push { cls := .type "slice", data := .fields #[.none, .none, .int (-1) tk] } } := I4.kept (t' := s4.toks) fun b ob q => Heap.get?_push_of_some _ q
  obtain ⟨its, r, ht, hz⟩ := I5.tuple hx
  have hlen := r.length
  show wpAny (model X.prog X.w) X.A (subscriptTail e (.Slice none none (some (.UnaryOp .USub (.Constant (.int 1) k p1) p2)) p3) (.ref a) (.ref s4.heap.objs.size)) (EP X pins σ Q) X.xe { s4 with heap := s4.heap.push { cls := .type "slice", data := .fields #[.none, .none, .int (-1) tk] } }
  refine tail_any (ops := [.ref a, .ref s4.heap.objs.size]) ht.typeIs (PyProof.Rows.slot_tuple_getitem.lookup) ?_ (by with_unfolding_all rfl)
  refine HT.getItem_tuple_rev ht (Heap.IsSliceOf.new _ .none .none (.int (-1) tk)) ?_ (by rw [← hlen]; exact hz)
  refine ⟨.ref _, _, I5.laid (t' := s4.toks) (o := .tup xs.reverse) (fun b ob q => Heap.get?_push_of_some _ q) (Nat.le_refl _) ?_, rfl, q _ (I5.hok.fresh (Nat.le_refl _))⟩
  exact ⟨by rw [List.length_reverse]; exact hz, _, r.reverse, IsTup.new _ _⟩
/-- lists and tuples turned round -/
def eRev (f : SE) : SE := fun F ρ μ => (f F ρ μ).bind fun v μ1 => match v.see μ1 with
  | some (.lst ds) => .ok (.new (.lst ds.reverse)) μ1
  | some (.tup ds) => .ok (.dat (.tup ds.reverse)) μ1
  | _ => .bad
theorem pe_or {X : Cx} {e : Expr} {t t' : TE} (h : PE X e t) (h' : PE X e t') : PE X e (fun σ H Q => t σ H Q ∨ t' σ H Q) := ⟨fun pins s σ H Q I q => q.elim (fun q => h.run pins s σ H Q I q) fun q => h'.run pins s σ H Q I q⟩
section
variable {X : Cx} {XC : Nat → Addr} {F : Fns} {W : WX} {e : Expr} {fe : SE} {k : Nat} {p1 p2 p3 pos : Pos}
theorem c_rev (he : PE X e (rdE X.K XC F W fe)) : PE X (.Subscript e (.Slice none none (some (.UnaryOp .USub (.Constant (.int 1) k p1) p2)) p3) pos) (rdE X.K XC F W (eRev fe)) :=
  PEimp (pe_or (pe_revL he) (pe_revT he)) fun σ H Q ⟨Acc, ι, ρ, μ, S, E, h⟩ => by
    unfold eRev at h
    cases er : fe F ρ μ with
    | bad => rw [er] at h; exact h.elim
    | exc x μ1 => rw [er] at h; exact .inl ⟨Acc, ι, ρ, μ, S, E, by rw [er]; exact h⟩
    | ok v μ1 =>
      rw [er] at h
      simp only [Res.bind] at h
      cases hs : v.see μ1 with
      | none => rw [hs] at h; exact h.elim
      | some d =>
        rw [hs] at h
        cases d <;> try exact h.elim
        · rename_i ds
          refine .inr ⟨Acc, ι, ρ, μ, S, E, ?_⟩
          rw [er]
          intro u H1 t1 r1
          obtain ⟨a, vs, rfl, tp, rp⟩ := seeT (see_ok t1.sim r1.1 hs)
          exact ⟨a, vs, rfl, tp.sq, fun p hp => h (.ref p) _ (t1.trans (t1.sim.up hp _)) ⟨t1.sim.newT hp (Reps.rev rp), trivial⟩⟩
        · rename_i ds
          refine .inl ⟨Acc, ι, ρ, μ, S, E, ?_⟩
          rw [er]
          intro u H1 t1 r1
          obtain ⟨a, vs, rfl, tp, rp⟩ := seeL (see_ok t1.sim r1.1 hs)
          exact ⟨a, vs, rfl, SqL.of tp, fun p hp => h (.ref p) _ (t1.trans (t1.sim.up hp _)) ⟨⟨p, rfl, t1.back hp, t1.sim.newL hp (Reps.rev rp)⟩, t1.sim.ownN hp (Reps.rev rp)⟩⟩
end
end VM
/-! repr of lists and tuples. -/
namespace VM
open PySem L2 PyProof.Rows
mutual
def D.rp : D → PyData
  | .non => .none
  | .bl b => .bool b
  | .int i => .int i
  | .str x => .str x
  | .tup ds => .tuple (rps ds)
  | .lst ds => .list (rps ds)
  | .dic _ _ => .dict []
  | .scr ns => .list (ns.map .int)
def rps : List D → List PyData
  | [] => []
  | d :: ds => d.rp :: rps ds
end
mutual
def D.flat : D → Bool
  | .dic _ _ => false
  | .tup ds => flats ds
  | .lst ds => flats ds
  | _ => true
def flats : List D → Bool
  | [] => true
  | d :: ds => d.flat && flats ds
end
section
variable {X : Cx} {pins : List (Addr × Obj)} {σ : L2.St} {H : Hp} {s : Shared} {L : Addr → Prop}
theorem reads_ints {h : Heap} : ∀ {ns : List Int} {us : List Value}, Vals (ns.map V.int) us → ∃ as, ReadsAll h us (ns.map .int) as
  | [], us, r => by cases r; exact ⟨_, .nil⟩
  | n :: ns, us, r => by
    cases r with
    | cons r t =>
      obtain ⟨k, rfl⟩ := r
      obtain ⟨as, q⟩ := reads_ints t
      exact ⟨_, .cons (.int n k) q⟩
mutual
theorem reads_of (I : Inv X pins σ H s) : ∀ (d : D) (v : V) (u : Value), d.flat = true → Rep X.K L H d v → RelV v u → ∃ as, Reads s.heap u d.rp as
  | .non, v, u, hf, r, ru => by
    have e : v = .non := by simpa only [Rep] using r
    subst e
    have ru : u = .none := ru
    subst ru
    exact ⟨_, by simp only [D.rp]; exact .none⟩
  | .bl b, v, u, hf, r, ru => by
    have e : v = .bl b := by simpa only [Rep] using r
    subst e
    have ru : u = .bool b := ru
    subst ru
    exact ⟨_, by simp only [D.rp]; exact .bool b⟩
  | .int i, v, u, hf, r, ru => by
    have e : v = .int i := by simpa only [Rep] using r
    subst e
    obtain ⟨t, rfl⟩ := ru
    exact ⟨_, by simp only [D.rp]; exact .int i t⟩
  | .str x, v, u, hf, r, ru => by
    have e : v = .str x := by simpa only [Rep] using r
    subst e
    obtain ⟨t, rfl⟩ := ru
    exact ⟨_, by simp only [D.rp]; exact .str x t⟩
  | .tup ds, v, u, hf, r, ru => by
    obtain ⟨a, vs, rfl, tp, rp⟩ := (by simpa only [Rep] using r : ∃ a vs, v = .ref a ∧ TupN X.K L H a vs ∧ Reps X.K L H ds vs)
    obtain rfl : u = .ref a := ru
    obtain ⟨its, rv, ⟨o, h1, h2, n, h3⟩, hz⟩ := I.tuple tp.sq
    obtain ⟨as, q⟩ := readsAll_of I ds vs its (by simpa only [D.flat] using hf) rp rv
    exact ⟨_, by simp only [D.rp]; exact .tuple h1 h2 h3 (by simpa using q)⟩
  | .lst ds, v, u, hf, r, ru => by
    obtain ⟨a, vs, rfl, tp, n, rp⟩ := (by simpa only [Rep] using r : ∃ a vs, v = .ref a ∧ H a = some (.lst vs) ∧ ¬ L a ∧ Reps X.K L H ds vs)
    obtain rfl : u = .ref a := ru
    obtain ⟨its, n, rv, h1, hz⟩ := I.lst tp
    obtain ⟨as, q⟩ := readsAll_of I ds vs its (by simpa only [D.flat] using hf) rp rv
    exact ⟨_, by simp only [D.rp]; exact .list h1 rfl rfl (by simpa using q)⟩
  | .dic _ _, v, u, hf, r, ru => by simp only [D.flat] at hf; cases hf
  | .scr ns, v, u, hf, r, ru => by
    obtain ⟨a, rfl, tp⟩ := (by simpa only [Rep] using r : ∃ a, v = .ref a ∧ LstN X.K L H a (ns.map V.int))
    obtain rfl : u = .ref a := ru
    obtain ⟨its, rv, p, hz⟩ := I.list tp.sq
    obtain ⟨o, h1, h2, n, h3⟩ := p.isList
    obtain ⟨as, q⟩ := reads_ints (h := s.heap) rv
    exact ⟨_, by simp only [D.rp]; exact .list h1 h2 h3 (by simpa using q)⟩
theorem readsAll_of (I : Inv X pins σ H s) : ∀ (ds : List D) (vs : List V) (us : List Value), flats ds = true → Reps X.K L H ds vs → Vals vs us → ∃ as, ReadsAll s.heap us (rps ds) as
  | [], vs, us, hf, r, ru => by
    rw [r.invN] at ru
    cases ru
    exact ⟨_, by simp only [rps]; exact .nil⟩
  | d :: ds, vs, us, hf, r, ru => by
    obtain ⟨v, rs, rfl, h1, h2⟩ := r.inv
    cases ru with
    | cons ru rr =>
      rename_i u us
      simp only [flats, Bool.and_eq_true] at hf
      obtain ⟨as, q⟩ := reads_of I d v u hf.1 h1 ru
      obtain ⟨bs, p⟩ := readsAll_of I ds rs us hf.2 h2 rr
      exact ⟨_, by simp only [rps]; exact .cons q p⟩
end
mutual
theorem flat_nodict : ∀ d : D, d.flat = true → d.rp.hasDict = false
  | .non, _ => by simp only [D.rp, PyData.hasDict]
  | .bl _, _ => by simp only [D.rp, PyData.hasDict]
  | .int _, _ => by simp only [D.rp, PyData.hasDict]
  | .str _, _ => by simp only [D.rp, PyData.hasDict]
  | .tup ds, h => by simp only [D.rp, PyData.hasDict]; exact flats_nodict ds (by simpa only [D.flat] using h)
  | .lst ds, h => by simp only [D.rp, PyData.hasDict]; exact flats_nodict ds (by simpa only [D.flat] using h)
  | .dic _ _, h => by simp only [D.flat] at h; cases h
  | .scr ns, _ => by
    simp only [D.rp, PyData.hasDict]
    have z : ∀ ns : List Int, PyData.hasDictAll (ns.map PyData.int) = false := by
      intro ns
      induction ns with
      | nil => simp only [List.map_nil, PyData.hasDictAll]
      | cons n ns ih => rw [List.map_cons]; simp only [PyData.hasDictAll, PyData.hasDict, ih, Bool.or_false]
    exact z ns
theorem flats_nodict : ∀ ds : List D, flats ds = true → PyData.hasDictAll (rps ds) = false
  | [], _ => by simp only [rps, PyData.hasDictAll]
  | d :: ds, h => by
    simp only [flats, Bool.and_eq_true] at h
    simp only [rps, PyData.hasDictAll, flat_nodict d h.1, flats_nodict ds h.2, Bool.or_false]
end
end
def reprOk (d : D) : Bool := d.flat && d.rp.showable && decide (d.rp.depth ≤ 150) && decide (d.rp.shown.length ≤ LIM)
def isSeq : D → Bool
  | .tup _ => true
  | .lst _ => true
  | .scr _ => true
  | _ => false
/-- what repr gives -/
def fRepr : List D → Option EV
  | [.non] => some (.dat (.str "None"))
  | [.bl b] => some (.dat (.str (if b = true then ("True" : Str) else ("False" : Str))))
  | [.int i] => if i.natAbs.log2 < 1920 then some (.dat (.str (toString i))) else none
  | [.str x] => if (reprText x).length ≤ LIM then some (.dat (.str (reprText x))) else none
  | [d] => if isSeq d && reprOk d then some (.dat (.str d.rp.shown)) else none
  | _ => none
def rReprD (K : PySem.W.Frag) : List V → Hp → VK → Prop := fun xs H Q => (∃ (L : Addr → Prop) (d : D) (v : V), xs = [v] ∧ SeeR K L H d v ∧ isSeq d = true ∧ reprOk d = true ∧ Q (.str d.rp.shown) H) ∨
  ∃ (v : V) (x : Str), xs = [v] ∧ Q (.str x) H ∧ ((v = .non ∧ x = "None") ∨ (∃ b : Bool, v = .bl b ∧ x = (if b = true then ("True" : Str) else ("False" : Str))) ∨ (∃ i, v = .int i ∧ i.natAbs.log2 < 1920 ∧ x = toString i) ∨ ∃ y, v = .str y ∧ (reprText y).length ≤ LIM ∧ x = reprText y)
theorem call_reprD {X : Cx} (hG : X.A.guards = some []) (hu : X.A.units + 152 < cLine) : CallR X (.builtin "repr") (rReprD X.K) := by
  intro pins s σ H xs us Q I r h
  rcases h with h | ⟨v, x, rfl, q, h⟩
  rotate_left
  · obtain ⟨u, rfl, ru⟩ := Vals.one r
    rcases h with ⟨rfl, rfl⟩ | ⟨b, rfl, rfl⟩ | ⟨i, rfl, hz, rfl⟩ | ⟨y, rfl, hz, rfl⟩
    · obtain rfl : u = Value.none := ru
      exact PySem.P.repr_of_none ⟨.str _, H, I.tok _, ⟨_, rfl⟩, q⟩
    · obtain rfl : u = Value.bool b := ru
      refine PySem.P.repr_of_bool ⟨.str (if b = true then ("True" : Str) else ("False" : Str)), H, I.tok _, ?_, q⟩
      cases b <;> exact ⟨_, rfl⟩
    · obtain ⟨t, rfl⟩ := (show ∃ t, u = Value.int i t from ru)
      exact PySem.P.repr_of_int hz ⟨.str _, H, I.tok _, ⟨_, rfl⟩, q⟩
    · obtain ⟨t, rfl⟩ := (show ∃ t, u = Value.str y t from ru)
      exact PySem.P.repr_of_str ⟨.str _, H, I.tok _, ⟨_, rfl⟩, q⟩ (lim_ok hz)
  obtain ⟨L, d, v, rfl, rs, hq, hok, q⟩ := h
  obtain ⟨u, rfl, ru⟩ := Vals.one r
  simp only [reprOk, Bool.and_eq_true, decide_eq_true_eq] at hok
  obtain ⟨⟨⟨hf, hs⟩, hd⟩, hz⟩ := hok
  have fin : ∀ a : Addr, (∃ as, Reads s.heap (.ref a) d.rp as) → wpAny (model X.prog X.w) X.A (call (.builtin "repr") [.ref a]) (EP X pins σ Q) X.xe s := fun a ⟨as, rd⟩ =>
    repr_of_reads' rd hs (fun z => by rw [flat_nodict d hf] at z; cases z) hG (by omega) (fun b o e => e) (fun h' t tk hk => ⟨.str d.rp.shown, H, I.kept (t' := tk) hk, ⟨t, rfl⟩, q⟩) (lim_ok hz)
  cases d <;> try (cases hq; done)
  · rename_i ds
    obtain ⟨a, vs, rfl, tp, rp⟩ := seeT rs
    obtain rfl : u = .ref a := ru
    exact fin a (reads_of I (.tup ds) (.ref a) (.ref a) hf (by simp only [Rep]; exact ⟨a, vs, rfl, tp, rp⟩) rfl)
  · rename_i ds
    obtain ⟨a, vs, rfl, tp, rp⟩ := seeL rs
    obtain rfl : u = .ref a := ru
    refine fin a ?_
    obtain ⟨its, n, rv, h1, _⟩ := I.lst tp
    obtain ⟨as, q⟩ := readsAll_of I ds vs its (by simpa only [D.flat] using hf) rp rv
    exact ⟨_, by simp only [D.rp]; exact .list h1 rfl rfl (by simpa using q)⟩
  · rename_i ns
    obtain ⟨a, rfl, tp⟩ := (by simpa only [SeeR, Rep] using rs : ∃ a, v = .ref a ∧ LstN X.K L H a (ns.map V.int))
    obtain rfl : u = .ref a := ru
    exact fin a (reads_of I (.scr ns) (.ref a) (.ref a) hf (by simp only [Rep]; exact ⟨a, rfl, tp⟩) rfl)
theorem on_repr {K : PySem.W.Frag} : OpN K fRepr (rReprD K) := by
  intro Acc ι μ H ds xs e Q S r h q
  cases ds with
  | nil => cases h
  | cons d t =>
    cases t with
    | cons _ _ => simp [fRepr] at h
    | nil =>
      obtain ⟨v, rs, rfl, h1, h2⟩ := r
      have h2 : rs = [] := h2
      subst h2
      have seq : isSeq d = true → (if isSeq d && reprOk d then some (EV.dat (.str d.rp.shown)) else none) = some e → rReprD K [v] H Q := fun _ h => by
        split at h
        case isFalse => cases h
        case isTrue hz =>
          cases h
          rw [Bool.and_eq_true] at hz
          exact .inl ⟨_, d, v, rfl, h1, hz.1, hz.2, q _ H (.refl S) ⟨rfl, trivial⟩⟩
      have sca : ∀ x : Str, e = .dat (.str x) → Q (.str x) H := fun x z => by subst z; exact q _ H (.refl S) ⟨rfl, trivial⟩
      cases d with
      | non => cases h; exact .inr ⟨v, _, rfl, sca _ rfl, .inl ⟨seeN h1, rfl⟩⟩
      | bl b => cases h; exact .inr ⟨v, _, rfl, sca _ rfl, .inr (.inl ⟨b, seeB h1, rfl⟩)⟩
      | int i =>
        simp only [fRepr] at h
        split at h
        case isFalse => cases h
        case isTrue hz => cases h; exact .inr ⟨v, _, rfl, sca _ rfl, .inr (.inr (.inl ⟨i, seeI h1, hz, rfl⟩))⟩
      | str x =>
        simp only [fRepr] at h
        split at h
        case isFalse => cases h
        case isTrue hz => cases h; exact .inr ⟨v, _, rfl, sca _ rfl, .inr (.inr (.inr ⟨x, seeS h1, hz, rfl⟩))⟩
      | tup _ => exact seq rfl h
      | lst _ => exact seq rfl h
      | scr _ => exact seq rfl h
      | dic _ _ => simp only [fRepr, isSeq, Bool.false_and] at h; cases h
end VM
/-! sorted: lists of tuples of ints, of any lengths. -/
namespace VM
open PySem PySem.W L2 PyProof.Rows
open HT (lexLt)
theorem lex_asym : ∀ a b : List Int, lexLt a b = true → lexLt b a = false
  | [], [], h => by cases h
  | [], _ :: _, _ => rfl
  | _ :: _, [], h => by cases h
  | x :: xs, y :: ys, h => by
    rw [HT.lexLt_cons] at h ⊢
    by_cases e : x = y
    · subst e
      rw [if_pos rfl] at h ⊢
      exact lex_asym xs ys h
    · rw [if_neg e, decide_eq_true_eq] at h
      rw [if_neg (Ne.symm e)]
      exact decide_eq_false (by omega)
theorem lex_tr : ∀ a b c : List Int, lexLt b a = false → lexLt c b = false → lexLt c a = false
  | [], [], [], _, _ => rfl
  | [], [], _ :: _, _, _ => rfl
  | [], _ :: _, [], _, _ => rfl
  | [], _ :: _, _ :: _, _, _ => rfl
  | _ :: _, [], _, h, _ => by cases h
  | _ :: _, _ :: _, [], _, h => by cases h
  | x :: xs, y :: ys, z :: zs, h1, h2 => by
    rw [HT.lexLt_cons] at h1 h2 ⊢
    by_cases e1 : y = x
    · by_cases e2 : z = y
      · rw [if_pos e1] at h1
        rw [if_pos e2] at h2
        rw [if_pos (e2.trans e1)]
        exact lex_tr xs ys zs h1 h2
      · rw [if_neg e2] at h2
        have h2 := of_decide_eq_false h2
        rw [if_neg (by omega)]
        exact decide_eq_false (by omega)
    · rw [if_neg e1] at h1
      have h1 := of_decide_eq_false h1
      by_cases e2 : z = y
      · rw [if_neg (by omega)]
        exact decide_eq_false (by omega)
      · rw [if_neg e2] at h2
        have h2 := of_decide_eq_false h2
        rw [if_neg (by omega)]
        exact decide_eq_false (by omega)
theorem lex_eq : ∀ a b : List Int, lexLt a b = false → lexLt b a = false → a = b
  | [], [], _, _ => rfl
  | [], _ :: _, h, _ => by cases h
  | _ :: _, [], _, h => by cases h
  | x :: xs, y :: ys, h1, h2 => by
    rw [HT.lexLt_cons] at h1 h2
    by_cases e : x = y
    · subst e
      rw [if_pos rfl] at h1 h2
      rw [lex_eq xs ys h1 h2]
    · rw [if_neg e] at h1
      rw [if_neg (Ne.symm e)] at h2
      have h1 := of_decide_eq_false h1
      have h2 := of_decide_eq_false h2
      omega
theorem lex_swo (k : Value → List Int) : SrtO.Swo fun v u => lexLt (k v) (k u) := ⟨fun x y h => lex_asym _ _ h, fun x y z h1 h2 => lex_tr _ _ _ h1 h2⟩
section
variable {prog : Program} {w : World} {A : Around} {E : Value → Shared → Prop} {s : Shared}
theorem zip_lex {b : Bool} {Q : Bool → Shared → Prop} : ∀ (us vs : List Value) (ns ms : List Int) (i : Nat), IntsAre us ns → IntsAre vs ms → Q (lexLt ns ms) s → KatLex prog w A b (decide (us.length < vs.length)) Q (us.zip vs) i s
  | [], [], _, _, i, h1, h2, q => by
    cases h1; cases h2
    exact kat_nil q
  | [], _ :: _, _, _, i, h1, h2, q => by
    cases h1; cases h2
    exact kat_nil (by rw [decide_eq_true (by simp)]; exact q)
  | _ :: _, [], _, _, i, h1, h2, q => by
    cases h1; cases h2
    exact kat_nil (by rw [decide_eq_false (by simp)]; exact q)
  | u :: us, v :: vs, _, _, i, h1, h2, q => by
    cases h1 with
    | cons x t h1 =>
      cases h2 with
      | cons y t' h2 =>
        rw [HT.lexLt_cons] at q
        rw [List.zip_cons_cons]
        refine kat_cons (SeqAt.EqAt.int_int x t y t' prog w _ _ (kat_go (fun e => ?_) (fun e => ?_)))
        · have e : x = y := by simpa using e
          rw [if_pos e] at q
          refine kat_yes ?_
          have := zip_lex (b := b) us vs _ _ (i + 1) h1 h2 q
          rw [show decide ((Value.int x t :: us).length < (Value.int y t' :: vs).length) = decide (us.length < vs.length) from by simp]
          exact this
        · have e : ¬ x = y := by simpa using e
          rw [if_neg e] at q
          exact kat_no (oneLt_any_int q)
def TupsF (h : Heap) : List Value → List (Option Value) → Prop
  | [], [] => True
  | v :: vs, f :: fs => (∃ a o xs n, v = .ref a ∧ h.get? a = some o ∧ o.cls = .type "tuple" ∧ o.data = .seq xs n ∧ xs[0]? = f) ∧ TupsF h vs fs
  | _, _ => False
theorem firsts_any {M : Model} : ∀ (vs : List Value) (fs : List (Option Value)) {Q : List (Option Value) → Shared → Prop}, TupsF s.heap vs fs → Q fs s → wpAny M A (vs.mapM firstOfTuple') Q E s
  | [], [], _, _, h => by rw [List.mapM_nil]; exact wpAny_pure h
  | [], _ :: _, _, t, _ => t.elim
  | _ :: _, [], _, t, _ => t.elim
  | v :: vs, f :: fs, Q, t, h => by
    obtain ⟨⟨a, o, xs, n, rfl, ho, hc, hd, hf⟩, t⟩ := t
    rw [List.mapM_cons, kas_first_eq]
    refine wpAny_bind (wpAny_bind (Looks.here (show Looks M s.heap (typeOf (.ref a)) o.cls from (Looks.ld ho).andThen .now) ?_))
    rw [hc, if_neg (by first | decide | simp)]
    refine wpAny_bind (listItems_at ho hd (wpAny_pure ?_))
    rw [hf]
    exact wpAny_bind (firsts_any vs fs (Q := fun bs s' => wpAny M A (pure (f :: bs)) Q E s') t (wpAny_pure h))
theorem tupsF_of {h : Heap} {k : Value → List Int} : ∀ {vs : List Value}, (∀ v ∈ vs, TS.TupInts h v (k v)) → ∃ fs, TupsF h vs fs ∧ ∀ f ∈ fs, ∀ x, f = some x → ∃ i t, x = Value.int i t
  | [], _ => ⟨[], trivial, fun f hf => by simp at hf⟩
  | v :: vs, hv => by
    obtain ⟨a, xs, rfl, ⟨o, ho, hc, n, hd⟩, hi⟩ := hv v List.mem_cons_self
    obtain ⟨fs, h1, h2⟩ := tupsF_of fun u hu => hv u (List.mem_cons_of_mem _ hu)
    refine ⟨xs[0]? :: fs, ⟨⟨a, o, xs, n, rfl, ho, hc, hd, rfl⟩, h1⟩, fun f hf x e => ?_⟩
    rcases List.mem_cons.mp hf with rfl | hf
    · obtain ⟨l⟩ := xs
      cases l with
      | nil => simp at e
      | cons y l =>
        have e : y = x := by simpa using e
        subst e
        generalize k (Value.ref a) = ns at hi
        cases hi with
        | cons i t _ => exact ⟨_, _, rfl⟩
    · exact h2 f hf x e
theorem katTups_of {h : Heap} : ∀ {vs : List Value} {fs : List (Option Value)}, TupsF h vs fs → (fs.all fun x => x.isSome) = true → KatTups h vs (fs.filterMap id)
  | [], [], _, _ => trivial
  | [], _ :: _, t, _ => t.elim
  | _ :: _, [], t, _ => t.elim
  | v :: vs, f :: fs, t, hall => by
    rw [List.all_cons, Bool.and_eq_true] at hall
    cases f with
    | none => cases hall.1
    | some x => exact ⟨t.1, katTups_of t.2 hall.2⟩
theorem tup_at {v : Value} {ns : List Int} (h : TS.TupInts s.heap v ns) : ∃ a o xs n, v = .ref a ∧ s.heap.get? a = some o ∧ o.cls = .type "tuple" ∧ o.data = .seq xs n ∧ IntsAre xs.toList ns := by
  obtain ⟨a, xs, rfl, ⟨o, ho, hc, n, hd⟩, hi⟩ := h
  exact ⟨a, o, xs, n, rfl, ho, hc, hd, hi⟩
theorem lt_tuples {v u : Value} {ns ms : List Int} {b : Bool} {Q : Bool → Shared → Prop} (hv : TS.TupInts s.heap v ns) (hw : TS.TupInts s.heap u ms) (q : Q (lexLt ns ms) s) : wpAny (model prog w) A (keyLt' (tuples' b) v u) Q (fun _ _ => False) s := by
  obtain ⟨a, o, xs, n, rfl, ho, hc, hd, hi⟩ := tup_at hv
  obtain ⟨a2, o2, xs2, n2, rfl, ho2, hc2, hd2, hi2⟩ := tup_at hw
  refine kat_lt ho hd ho2 hd2 ?_
  rw [← Array.length_toList, ← Array.length_toList]
  exact zip_lex _ _ _ _ 0 hi hi2 q
theorem lt_general {v u : Value} {ns ms : List Int} {Q : Bool → Shared → Prop} (hu : A.units < cLine) (hv : TS.TupInts s.heap v ns) (hw : TS.TupInts s.heap u ms) (q : Q (lexLt ns ms) s) : wpAny (model prog w) A (keyLt' general' v u) Q (fun _ _ => False) s := by
  obtain ⟨a, xs, rfl, t, hi⟩ := hv
  obtain ⟨a2, xs2, rfl, t2, hi2⟩ := hw
  show wpAny (model prog w) A (oneLt' false (.ref a) (.ref a2)) Q (fun _ _ => False) s
  exact kat_one _ _ (HT.lt_tupInts t t2 hi hi2 hu q)
theorem lt_one {v u : Value} {ns ms : List Int} {Q : Bool → Shared → Prop} (hu : A.units < cLine) (hv : TS.TupInts s.heap v ns) (hw : TS.TupInts s.heap u ms) (q : Q (lexLt ns ms) s) : wpAny (model prog w) A (keyLt' oneType' v u) Q (fun _ _ => False) s := by
  obtain ⟨a, xs, rfl, ⟨⟨cls, dd, data, sl⟩, ho, hc, n, hd⟩, hi⟩ := hv
  obtain ⟨a2, xs2, rfl, ⟨⟨cls2, dd2, data2, sl2⟩, ho2, hc2, n2, hd2⟩, hi2⟩ := hw
  simp only at hc hd hc2 hd2
  subst hc hd hc2 hd2
  rw [keyLt'_oneType, oneLt'_eq]
  simp only [if_true]
  refine wpAny_bind (wpAny_cRoomFor hu ?_)
  refine wpAny_bind (wpAny_callSpecialIfBound?_slot ⟨_, ho, rfl⟩ PySem.F.slot_tuple_lt (call_meets PySem.F.slot_tuple_lt ⟨_, ho, rfl⟩ PySem.F.entry_tuple_lt (PySem.F.args_tuple_lt_2 _ _) (HT.tuple_lt_ints a a2 xs xs2 n n2 dd dd2 sl sl2 ns ms hi hi2) ⟨ho, ho2, ?_⟩))
  exact wpAny_truthy_bool q
end

section
variable {prog : Program} {w : World} {A : Around} {s : Shared}
theorem kind_tuples {vs : List Value} {k : Value → List Int} (h2 : 0 < vs.length) (hu : A.units < cLine) (hv : ∀ v ∈ vs, TS.TupInts s.heap v (k v)) : ∃ κ,
    (∀ (Q : SortKind → Shared → Prop) (E : Value → Shared → Prop), Q κ s → wpAny (model prog w) A (keyKind' vs.toArray) Q E s) ∧ SrtO.Cmp prog w A s κ (fun p => p.1 ∈ vs) (SrtO.lt2 fun v u => lexLt (k v) (k u)) := by
  obtain ⟨fs, tf, hf⟩ := tupsF_of hv
  by_cases hall : (fs.all fun x => x.isSome) = true
  · refine ⟨tuples' true, fun Q E q => ?_, fun p r hp hr => lt_tuples (hv _ hp) (hv _ hr) ⟨rfl, rfl⟩⟩
    have kt := katTups_of tf hall
    have hl : 0 < (fs.filterMap id).length := by
      cases vs with
      | nil => simp at h2
      | cons v vs =>
        cases fs with
        | nil => exact tf.elim
        | cons f fs =>
          rw [List.all_cons, Bool.and_eq_true] at hall
          cases f with
          | none => cases hall.1
          | some x => simp
    refine kat_kind (T := .type "int") kt hl (fun f hm => ?_) (by rfl) ?_
    · obtain ⟨o, ho, e⟩ := List.mem_filterMap.mp hm
      obtain ⟨i, t, rfl⟩ := hf o ho f e
      exact PySem.W.Looks.now
    · have e : (Value.type "int" != Value.type "tuple") = true := by first | decide +kernel | rfl | decide
      rw [e]
      exact q
  · have hall2 : ¬ (fs.toArray.all fun x => x.isSome) = true := by simpa using hall
    by_cases h0 : ((fs.toArray[0]?).bind id).isSome = true
    · refine ⟨general', fun Q E q => ?_, fun p r hp hr => lt_general hu (hv _ hp) (hv _ hr) ⟨rfl, rfl⟩⟩
      rw [kat_kind_eq, List.mapM_toArray, map_eq_pure_bind]
      refine wpAny_bind (wpAny_bind (firsts_any vs _ tf (wpAny_pure ?_)))
      rw [if_neg hall2, if_pos h0]
      exact wpAny_pure q
    · refine ⟨oneType', fun Q E q => ?_, fun p r hp hr => lt_one hu (hv _ hp) (hv _ hr) ⟨rfl, rfl⟩⟩
      rw [kat_kind_eq, List.mapM_toArray, map_eq_pure_bind]
      refine wpAny_bind (wpAny_bind (firsts_any vs _ tf (wpAny_pure ?_)))
      rw [if_neg hall2, if_neg h0]
      rw [oneTypeOnly'_eq, List.mapM_toArray, map_eq_pure_bind]
      refine wpAny_bind (wpAny_bind (wpAny_bind (kas_mapM (r := Value.type "tuple") _ (fun v hm Q' hq => ?_) (wpAny_pure ?_))))
      · obtain ⟨a, o, xs, n, rfl, ho, hc, _, _⟩ := tup_at (hv v hm)
        have lk : Looks (model prog w) s.heap (typeOf (.ref a)) o.cls := (Looks.ld ho).andThen .now
        rw [hc] at lk
        exact lk.here hq
      · obtain ⟨v, vr, rfl⟩ : ∃ v vr, vs = v :: vr := by
          cases vs with
          | nil => simp at h2
          | cons v vr => exact ⟨v, vr, rfl⟩
        have h00 : (List.map (fun _ => Value.type "tuple") (v :: vr)).toArray[0]? = some (Value.type "tuple") := by simp
        have ha : ((List.map (fun _ => Value.type "tuple") (v :: vr)).toArray.all fun x => x == Value.type "tuple") = true := by
          simp only [List.all_toArray, List.all_map, List.all_eq_true]
          intro _ _
          rfl
        rw [h00]
        simp only [ha, if_true]
        exact wpAny_pure (wpAny_pure q)
theorem tuples_sortable {a : Addr} {vs : List Value} {k : Value → List Int} (h2 : 0 < vs.length) (hu : A.units < cLine) (hv : ∀ v ∈ vs, TS.TupInts s.heap v (k v)) (ha : ∀ o, s.heap.get? a = some o → o.cls ≠ .type "tuple") :
    SrtO.SortableO prog w A s a vs fun v u => lexLt (k v) (k u) := by
  intro h' keep
  refine kind_tuples (s := { s with heap := h' }) h2 hu fun v hm => ?_
  obtain ⟨b, xs, e, ⟨o, ho, hc, hd⟩, hi⟩ := hv v hm
  exact ⟨b, xs, e, ⟨o, keep b o (fun z => by subst z; exact ha o ho hc) ho, hc, hd⟩, hi⟩
end
/-- sorted(xs), xs a list of tuples of ints, any number of them, of any lengths -/
def rSortT (K : PySem.W.Frag) : List V → Hp → VK → Prop := fun vs H Q => ∃ (a : Addr) (xs : List V), vs = [V.ref a] ∧ SqL K H a xs ∧ (∀ x ∈ xs, ∃ ns, TupI K H x ns) ∧
  ∀ (ys : List V) (p : Addr), (∀ x n m, TupI K H x n → TupI K H x m → n = m) → ys.Perm xs → ys.Pairwise (fun x y => ∀ n m, TupI K H x n → TupI K H y m → lexLt m n = false) → H p = none → Q (.ref p) (upd H p (.lst ys))
theorem call_sortT {X : Cx} (hu : X.A.units + 64 < cLine) : CallR X (.builtin "sorted") (rSortT X.K) := by
  intro pins s σ H vs us Q I r h
  obtain ⟨a, xs, rfl, hs, hx, q⟩ := h
  obtain ⟨its, rv, hl, hz⟩ := I.list hs
  obtain ⟨u, rfl, ru⟩ := vals1 r
  obtain rfl : u = Value.ref a := ru
  obtain ⟨e1, e2⟩ := refs_back rv fun x m => by
    obtain ⟨ns, t, e, _⟩ := hx x m
    exact ⟨t, e⟩
  have hT : ∀ v ∈ its, TS.TupInts s.heap v (TS.intsOf s.heap v) := fun v hm => by
    obtain ⟨t, rfl⟩ := e2 v hm
    have hm' : V.ref t ∈ xs := by rw [e1]; exact List.mem_map.mpr ⟨_, hm, rfl⟩
    obtain ⟨ns, t', e, ht⟩ := hx _ hm'
    cases e
    have z := tupI_raw I ht
    rw [z.ints]
    exact z
  refine SrtO.sorted_ord (lex_swo (TS.intsOf s.heap)) hl.isList (by rw [← rv.length]; exact hz) (fun h2 h₁ b hb kk => ?_) fun out h1 h2 => ?_
  · refine tuples_sortable (s := { s with heap := h₁ }) (by omega) (by show X.A.units + 1 + 1 < cLine; omega) (fun v hm => ?_) fun o e => ?_
    · obtain ⟨c, xs2, e, ⟨o, ho, hc, hd⟩, hi⟩ := hT v hm
      exact ⟨c, xs2, e, ⟨o, (kk c o ho).2, hc, hd⟩, hi⟩
    · have e' : some o = some (seqObj "list" its.toArray 0) := e.symm.trans hb
      cases e'
      intro c
      exact absurd (Value.type.inj c) (by decide)
  · have h3 : ∀ u ∈ out, ∃ a, u = Value.ref a := fun u hu => e2 u (h2.perm.mem_iff.mp hu)
    obtain ⟨n, hn⟩ := sortedAll_at s.heap its out.toArray
    have hp : (out.map backV).Perm xs := by
      rw [e1]
      exact h2.perm.map backV
    refine ⟨.ref _, upd H (s.heap.objs.size + 1) (.lst (out.map backV)), I.laid (t' := s.toks) (fun _ _ => sortedAll_old) (Nat.le_succ _) ⟨?_, out, n, vals_back h3, hn⟩, rfl, q _ _ (fun x n m h1 h2 => ?_) hp ?_ (I.hok.fresh (Nat.le_succ _))⟩
    · rw [hp.length_eq]
      exact hz
    · obtain ⟨t, rfl, z1⟩ := h1
      obtain ⟨t', e, z2⟩ := h2
      cases e
      exact (tupI_raw I z1).ints.symm.trans (tupI_raw I z2).ints
    · rw [List.pairwise_map]
      refine List.Pairwise.imp_of_mem (fun {u v} hu hv huv n m hn hm => ?_) h1
      obtain ⟨t, rfl⟩ := h3 u hu
      obtain ⟨t', rfl⟩ := h3 v hv
      obtain ⟨t1, e, ht⟩ := hn
      obtain ⟨t2, e', ht'⟩ := hm
      cases e
      cases e'
      have z1 := (tupI_raw I ht).ints
      have z2 := (tupI_raw I ht').ints
      rw [← z1, ← z2]
      exact huv

/-! ### on trees -/
def insL (x : List Int) : List (List Int) → List (List Int)
  | [] => [x]
  | y :: ys => if lexLt y x then y :: insL x ys else x :: y :: ys
def sortL : List (List Int) → List (List Int)
  | [] => []
  | x :: xs => insL x (sortL xs)
theorem insL_perm (x : List Int) : ∀ l, (insL x l).Perm (x :: l)
  | [] => .refl _
  | y :: ys => by
    unfold insL
    split
    · exact ((insL_perm x ys).cons y).trans (.swap x y ys)
    · exact .refl _
theorem sortL_perm : ∀ l, (sortL l).Perm l
  | [] => .refl _
  | x :: xs => by
    unfold sortL
    exact (insL_perm x _).trans ((sortL_perm xs).cons x)
abbrev SrtL (l : List (List Int)) : Prop := l.Pairwise fun a b => HT.lexLt b a = false
theorem insL_srt (x : List Int) : ∀ l, SrtL l → SrtL (insL x l)
  | [], _ => List.pairwise_singleton _ _
  | y :: ys, h => by
    obtain ⟨h1, h2⟩ := List.pairwise_cons.mp h
    unfold insL
    by_cases c : lexLt y x = true
    · rw [if_pos c]
      refine List.pairwise_cons.mpr ⟨fun z hz => ?_, insL_srt x ys h2⟩
      rcases List.mem_cons.mp ((insL_perm x ys).mem_iff.mp hz) with rfl | hz
      · exact lex_asym _ _ c
      · exact h1 z hz
    · rw [if_neg c]
      have c' : lexLt y x = false := by simpa using c
      refine List.pairwise_cons.mpr ⟨fun z hz => ?_, h⟩
      rcases List.mem_cons.mp hz with rfl | hz
      · exact c'
      · exact lex_tr _ _ _ c' (h1 z hz)
theorem sortL_srt : ∀ l, SrtL (sortL l)
  | [] => List.Pairwise.nil
  | x :: xs => insL_srt x _ (sortL_srt xs)
theorem srt_uniq : ∀ {l m : List (List Int)}, SrtL l → SrtL m → l.Perm m → l = m
  | [], m, _, _, p => by rw [List.Perm.nil_eq p]
  | x :: l, [], _, _, p => absurd p.symm.nil_eq (by simp)
  | x :: l, y :: m, h1, h2, p => by
    obtain ⟨a1, a2⟩ := List.pairwise_cons.mp h1
    obtain ⟨b1, b2⟩ := List.pairwise_cons.mp h2
    have e : x = y := by
      have c1 : lexLt y x = false := by
        rcases List.mem_cons.mp (p.mem_iff.mpr (List.mem_cons_self (a := y) (l := m))) with e | hy
        · rw [e]; exact (lex_swo (fun _ => x)).refl .none
        · exact a1 y hy
      have c2 : lexLt x y = false := by
        rcases List.mem_cons.mp (p.mem_iff.mp (List.mem_cons_self (a := x) (l := l))) with e | hy
        · rw [e]; exact (lex_swo (fun _ => y)).refl .none
        · exact b1 x hy
      exact lex_eq _ _ c2 c1
    subst e
    rw [srt_uniq a2 b2 p.cons_inv]
def intsD : List D → Option (List Int)
  | [] => some []
  | .int i :: ds => (intsD ds).map (i :: ·)
  | _ :: _ => none
def tupsD : List D → Option (List (List Int))
  | [] => some []
  | .tup es :: ds => match intsD es, tupsD ds with
    | some n, some r => some (n :: r)
    | _, _ => none
  | _ :: _ => none
def ofTup (ns : List Int) : D := .tup (ns.map .int)
theorem intsD_eq : ∀ {ds : List D} {ns : List Int}, intsD ds = some ns → ds = ns.map .int
  | [], ns, h => by cases h; rfl
  | d :: ds, ns, h => by
    cases d <;> simp only [intsD, reduceCtorEq] at h
    cases e : intsD ds with
    | none => rw [e] at h; cases h
    | some m =>
      rw [e] at h
      cases h
      rw [intsD_eq e]; rfl
theorem tupsD_eq : ∀ {ds : List D} {ns : List (List Int)}, tupsD ds = some ns → ds = ns.map ofTup
  | [], ns, h => by cases h; rfl
  | d :: ds, ns, h => by
    cases d <;> simp only [tupsD, reduceCtorEq] at h
    rename_i es
    cases e1 : intsD es with
    | none => rw [e1] at h; simp at h
    | some n =>
      cases e2 : tupsD ds with
      | none => rw [e1, e2] at h; simp at h
      | some r =>
        rw [e1, e2] at h
        simp only at h
        cases h
        rw [tupsD_eq e2, intsD_eq e1]; rfl
def fSorted : List D → Option EV
  | [.lst ds] => if ds.length ≤ LIM then (tupsD ds).map fun n => .new (.lst ((sortL n).map ofTup)) else none
  | _ => none
section
variable {K : PySem.W.Frag} {L : Addr → Prop} {H : Hp}
theorem rep_tupI {ns : List Int} {v : V} (r : Rep K L H (ofTup ns) v) : TupI K H v ns := by
  obtain ⟨a, vs, rfl, tp, rp⟩ := (by simpa only [ofTup, Rep] using r : ∃ a vs, v = .ref a ∧ TupN K L H a vs ∧ Reps K L H (ns.map D.int) vs)
  refine ⟨a, rfl, ?_⟩
  have : vs = ns.map V.int := by
    clear tp r
    induction ns generalizing vs with
    | nil => exact rp.invN
    | cons n ns ih =>
      obtain ⟨v, rs, rfl, h1, h2⟩ := rp.inv
      have : v = .int n := by simpa only [Rep] using h1
      rw [this, ih rs h2]; rfl
  rw [← this]
  exact tp.sq
theorem reps_all {ns : List (List Int)} {vs : List V} (r : Reps K L H (ns.map ofTup) vs) : ∀ x ∈ vs, ∃ n, TupI K H x n ∧ Rep K L H (ofTup n) x := by
  induction ns generalizing vs with
  | nil => rw [r.invN]; intro x hx; simp at hx
  | cons n ns ih =>
    obtain ⟨v, rs, rfl, h1, h2⟩ := r.inv
    intro x hx
    rcases List.mem_cons.mp hx with rfl | hx
    · exact ⟨n, rep_tupI h1, h1⟩
    · exact ih h2 x hx
theorem reps_fun {f : V → List Int} (hf : ∀ x n, TupI K H x n → f x = n) {ns : List (List Int)} {vs : List V} (r : Reps K L H (ns.map ofTup) vs) : vs.map f = ns := by
  induction ns generalizing vs with
  | nil => rw [r.invN]; rfl
  | cons n ns ih =>
    obtain ⟨v, rs, rfl, h1, h2⟩ := r.inv
    rw [List.map_cons, hf v n (rep_tupI h1), ih h2]
theorem of_fun {f : V → List Int} : ∀ {vs : List V}, (∀ x ∈ vs, Rep K L H (ofTup (f x)) x) → Reps K L H ((vs.map f).map ofTup) vs
  | [], _ => Reps.nil
  | v :: vs, h => Reps.cons (h v List.mem_cons_self) (of_fun fun x hx => h x (List.mem_cons_of_mem _ hx))
end
theorem on_sorted {K : PySem.W.Frag} : OpN K fSorted (rSortT K) := by
  intro Acc ι μ H ds xs e Q S r h q
  cases ds with
  | nil => cases h
  | cons d t =>
    cases t with
    | cons _ _ => cases d <;> cases h
    | nil =>
      obtain ⟨v, rs, rfl, h1, h2⟩ := r
      have h2 : rs = [] := h2
      subst h2
      cases d <;> try (cases h; done)
      rename_i ds
      obtain ⟨a, vs, rfl, tp, rp⟩ := seeL h1
      simp only [fSorted] at h
      split at h
      case isFalse => cases h
      case isTrue hz =>
        cases hT : tupsD ds with
        | none => rw [hT] at h; cases h
        | some ns =>
          rw [hT] at h
          cases h
          have ed := tupsD_eq hT
          subst ed
          refine ⟨a, vs, rfl, SqL.of tp, fun x hx => let ⟨n, h, _⟩ := reps_all rp x hx; ⟨n, h⟩, fun ys p uq hp hs np => ?_⟩
          -- each item's numbers
          let f : V → List Int := fun x => open Classical in if h : ∃ n, TupI K H x n then h.choose else []
          have hf : ∀ x n, TupI K H x n → f x = n := fun x n h => by
            have hx : ∃ n, TupI K H x n := ⟨n, h⟩
            show (open Classical in if h : ∃ n, TupI K H x n then h.choose else []) = n
            rw [dif_pos hx]
            exact uq x _ _ hx.choose_spec h
          have e1 : vs.map f = ns := reps_fun hf rp
          have hrep : ∀ x ∈ ys, Rep K (Liv Acc μ ι) H (ofTup (f x)) x := fun x hx => by
            obtain ⟨n, t, r⟩ := reps_all rp x (hp.mem_iff.mp hx)
            rw [hf x n t]; exact r
          have e2 : ys.map f = sortL ns := by
            refine srt_uniq ?_ (sortL_srt ns) ?_
            · rw [SrtL, List.pairwise_map]
              refine List.Pairwise.imp_of_mem (fun {x y} hx hy h => ?_) hs
              obtain ⟨n, t, _⟩ := reps_all rp x (hp.mem_iff.mp hx)
              obtain ⟨m, t', _⟩ := reps_all rp y (hp.mem_iff.mp hy)
              rw [hf x n t, hf y m t']
              exact h n m t t'
            · rw [← e1]
              exact (hp.map f).trans (by rw [e1]; exact (sortL_perm ns).symm)
          have rr := of_fun hrep
          rw [e2] at rr
          exact q (.ref p) _ (S.up np _) ⟨⟨p, rfl, np, S.newL np rr⟩, S.ownN np rr⟩
end VM
/-! Words for the printed walks. -/
namespace VM
open PySem L2 PyProof.Rows
section
variable {X : Cx} {XC : Nat → Addr} {F : Fns} {W : WX} {a b c e tg iter : Expr} {es : List Expr} {fa fb fc fe : SE} {pos p p1 : Pos} {x : Str}
theorem w_v (i : Nat) (hN : X.N[i]? = some x := by rfl) (hv : Vis X.env.scope x := by first | exact Or.inl rfl | exact Or.inr (Or.inl rfl) | exact Or.inr (Or.inr rfl)) (hd : (x == ("__debug__" : Str)) = false := by decide) (hcd : (x == ("__classdict__" : Str)) = false := by decide) : PE X (.Name x pos) (rdE X.K XC F W (eV i)) := c_var hN hv hd hcd
/-- a constant of the module, as the top holds it -/
def HasC (mg : Str → Option Value) (x : Str) (v : V) : Prop := ∃ u, mg x = some u ∧ RelV v u
theorem w_gs {y : Str} (h : HasC X.mg x (.str y)) (hg : Gl X x := by rfl) (hd : (x == ("__debug__" : Str)) = false := by decide) : PE X (.Name x pos) (rdE X.K XC F W (eC (.str y))) :=
  let ⟨_, h1, h2⟩ := h; c_glob hg h1 h2 (fun _ _ => by simp only [Rep]) hd
theorem w_gi {y : Int} (h : HasC X.mg x (.int y)) (hg : Gl X x := by rfl) (hd : (x == ("__debug__" : Str)) = false := by decide) : PE X (.Name x pos) (rdE X.K XC F W (eC (.int y))) :=
  let ⟨_, h1, h2⟩ := h; c_glob hg h1 h2 (fun _ _ => by simp only [Rep]) hd
theorem w_bin {op : Operator} (ha : PE X a (rdE X.K XC F W fa)) (hb : PE X b (rdE X.K XC F W fb)) : PE X (.BinOp a op b pos) (rdE X.K XC F W (eBin op fa fb)) := let ⟨_, h1, h2⟩ := bin_ok X op; c_bin h1 h2 ha hb
theorem w_cmp {op : CmpOp} (hu : X.A.units + 65 < cLine) (ha : PE X a (rdE X.K XC F W fa)) (hb : PE X b (rdE X.K XC F W fb)) (hm : behindInMarks op b = false := by rfl) : PE X (.Compare a [op] [b] pos) (rdE X.K XC F W (eCmp (opCmp op) fa fb)) := let ⟨_, h1, h2⟩ := cmp_ok X hu op; c_cmp h1 h2 ha hb hm
theorem wt_cmp {op : CmpOp} (hu : X.A.units + 65 < cLine) (ha : PE X a (rdE X.K XC F W fa)) (hb : PE X b (rdE X.K XC F W fb)) (hm : behindInMarks op b = false := by rfl) : PT X (.Compare a [op] [b] pos) (rdB X.K XC F W (bCmp (opCmp op) fa fb)) := let ⟨_, h1, h2⟩ := cmp_ok X hu op; ct_cmp h1 h2 ha hb hm
theorem w_chain {op op' : CmpOp} (hu : X.A.units + 65 < cLine) (ha : PE X a (rdE X.K XC F W fa)) (hb : PE X b (rdE X.K XC F W fb)) (hc : PE X c (rdE X.K XC F W fc)) (hm : lastMarks [op, op'] [b, c] = false := by rfl) : PE X (.Compare a [op, op'] [b, c] pos) (rdE X.K XC F W (eChain (opCmp op) (opCmp op') fa fb fc)) :=
  let ⟨_, h1, h2⟩ := cmp_ok X hu op; let ⟨_, h3, h4⟩ := cmp_ok X hu op'; c_chain h1 h2 h3 h4 ha hb hc hm
theorem wt_chain {op op' : CmpOp} (hu : X.A.units + 65 < cLine) (ha : PE X a (rdE X.K XC F W fa)) (hb : PE X b (rdE X.K XC F W fb)) (hc : PE X c (rdE X.K XC F W fc)) (hm : lastMarks [op, op'] [b, c] = false := by rfl) : PT X (.Compare a [op, op'] [b, c] pos) (rdB X.K XC F W (bChain (opCmp op) (opCmp op') fa fb fc)) :=
  let ⟨_, h1, h2⟩ := cmp_ok X hu op; let ⟨_, h3, h4⟩ := cmp_ok X hu op'; ct_chain h1 h2 h3 h4 ha hb hc hm
theorem wt_tru (ha : PE X a (rdE X.K XC F W fa)) (he : ∀ whole, isTrue a X.env whole = (do let v ← whole; standAt a.pos; holding [v] (truthy v)) := by intro _; rfl) : PT X a (rdB X.K XC F W (bTru fa)) := ct_tru ha he
theorem w_ix (hu : X.A.units + 65 < cLine) (ha : PE X a (rdE X.K XC F W fa)) (hb : PE X b (rdE X.K XC F W fb)) (hs : PlainIx b := by intro _ _; rfl) : PE X (.Subscript a b pos) (rdE X.K XC F W (eIx fa fb)) := c_ix (by omega) ha hb hs
theorem w_isi (T : Ty) {t : Str} (hm : X.mg "isinstance" = none) (ht : PE X (.Name t p1) (tC (.ty T.name))) (ha : PE X e (rdE X.K XC F W fa)) (hg : Gl X "isinstance" := by rfl) (he : starEach [e, .Name t p1] X.env = (false, eval e X.env) :: starEach [.Name t p1] X.env := by rfl) :
    PE X (.Call (.Name "isinstance" p) [e, .Name t p1] [] pos) (rdE X.K XC F W (eIsi T fa)) := c_isi hg hm ht ha he
theorem w_fn {id : String} {r : List V → Hp → VK → Prop} {f : List D → Option EV} {fs : SA} (hc : CallR X (.builtin id) r) (ho : OpN X.K f r) (hv : bootBuiltins x = some (.builtin id)) (hm : X.mg x = none) (ha : PA X (e :: es) (rdA X.K XC F W fs)) (hg : Gl X x := by rfl) (hn : x ≠ "__name__" := by decide) (hdb : (x == ("__debug__" : Str)) = false := by decide)
    (he : starEach (e :: es) X.env = (false, eval e X.env) :: starEach es X.env := by rfl) (hpl : (backTo pos (starEach es X.env)).any (·.1) = false := by rfl) : PE X (.Call (.Name x p) (e :: es) [] pos) (rdE X.K XC F W (eCb f fs)) := c_callB hc ho hg hm hv ha hn hdb he hpl
theorem w_ty {T : String} {r : List V → Hp → VK → Prop} {f : List D → Option EV} {fs : SA} (hc : CallR X (.type T) r) (ho : OpN X.K f r) (hv : bootBuiltins x = some (.type T)) (hm : X.mg x = none) (ha : PA X (e :: es) (rdA X.K XC F W fs)) (hg : Gl X x := by rfl) (hn : x ≠ "__name__" := by decide) (hdb : (x == ("__debug__" : Str)) = false := by decide)
    (he : starEach (e :: es) X.env = (false, eval e X.env) :: starEach es X.env := by rfl) (hpl : (backTo pos (starEach es X.env)).any (·.1) = false := by rfl) : PE X (.Call (.Name x p) (e :: es) [] pos) (rdE X.K XC F W (eCb f fs)) := c_callTy hc ho hg hm hv ha hn hdb he hpl
theorem c_and1 (ha : PE X a (rdE X.K XC F W fa)) : PE X (.BoolOp .And [a] pos) (rdE X.K XC F W fa) := ⟨fun pins s σ H Q I h => BoolOp_one (ha.run pins s σ H Q I h)⟩
theorem c_or1 (ha : PE X a (rdE X.K XC F W fa)) : PE X (.BoolOp .Or [a] pos) (rdE X.K XC F W fa) := ⟨fun pins s σ H Q I h => BoolOp_one (ha.run pins s σ H Q I h)⟩
theorem a0 : PA X [] (rdA X.K XC F W (evs [])) := ca_nil
theorem a1 {fs : List SE} (ha : PE X e (rdE X.K XC F W fe)) (hr : PA X es (rdA X.K XC F W (evs fs))) (hs : starEach (e :: es) X.env = (false, eval e X.env) :: starEach es X.env := by rfl) : PA X (e :: es) (rdA X.K XC F W (evs (fe :: fs))) := ca_cons ha hr hs
theorem w_r1 {fa : SE} (hm : X.mg "range" = none) (ha : PE X a (rdE X.K XC F W fa)) (hg : Gl X "range" := by rfl) (hs : starEach [a] X.env = [(false, eval a X.env)] := by rfl) : PI X tg (.Call (.Name "range" p) [a] [] pos) (rdI X.K XC F W (iRange (evs [fa]))) :=
  ci_range1 hg hm (ca_cons ha ca_nil hs) hs fun F ρ μ vs μ' h => evs_len _ _ _ _ _ _ h
theorem w_r2 {fa fb : SE} (hm : X.mg "range" = none) (ha : PE X a (rdE X.K XC F W fa)) (hb : PE X b (rdE X.K XC F W fb)) (hg : Gl X "range" := by rfl) (hs : starEach [a, b] X.env = [(false, eval a X.env), (false, eval b X.env)] := by rfl) (hs2 : starEach [b] X.env = [(false, eval b X.env)] := by rfl) : PI X tg (.Call (.Name "range" p) [a, b] [] pos) (rdI X.K XC F W (iRange (evs [fa, fb]))) :=
  ci_range2 hg hm (ca_cons ha (ca_cons hb ca_nil hs2) (by rw [hs, hs2])) hs hs2 fun F ρ μ vs μ' h => evs_len _ _ _ _ _ _ h
theorem w_r3 {fa fb fc : SE} (hm : X.mg "range" = none) (ha : PE X a (rdE X.K XC F W fa)) (hb : PE X b (rdE X.K XC F W fb)) (hc : PE X c (rdE X.K XC F W fc)) (hg : Gl X "range" := by rfl) (hs : starEach [a, b, c] X.env = (false, eval a X.env) :: starEach [b, c] X.env := by rfl) (hs2 : starEach [b, c] X.env = (false, eval b X.env) :: starEach [c] X.env := by rfl)
    (hs3 : starEach [c] X.env = (false, eval c X.env) :: starEach [] X.env := by rfl) (hpl : (backTo pos (starEach [b, c] X.env)).any (·.1) = false := by rfl) : PI X tg (.Call (.Name "range" p) [a, b, c] [] pos) (rdI X.K XC F W (iRange (evs [fa, fb, fc]))) :=
  ci_range3 hg hm (ca_cons ha (ca_cons hb (ca_cons hc ca_nil hs3) hs2) hs) hs hpl fun F ρ μ vs μ' h => evs_len _ _ _ _ _ _ h
end
theorem lt1 {a b : Nat} (h : a + 65 < b) : a + 1 < b := by omega
theorem lt64 {a b : Nat} (h : a + 65 < b) : a + 64 < b := by omega
theorem hu65 {A : Around} {k : Nat} (hr : Room k A) : A.units + 65 < cLine := by have := hr.un; omega
theorem hu152 {A : Around} {k : Nat} (hr : Room k A) : A.units + 152 < cLine := by have := hr.un; omega
theorem fn_same {K : PySem.W.Frag} {x : Str} {st : Stmt} {f : Addr} {fd fd' : FuncData} (F : Fun K x x st f fd) (F' : Fun K x x st f fd') : fd = fd' := by
  obtain ⟨oc, od, _, _, _, _, _, _, osl, _, h, _⟩ := F.ex
  obtain ⟨oc', od', _, _, _, _, _, _, osl', _, h', _⟩ := F'.ex
  rw [h] at h'
  cases h'
  rfl
/-- the promise of the law itself -/
theorem law_fn {P : Program} {w : World} {K : PySem.W.Frag} {mg : Str → Option Value} {base : Heap} {XC : Nat → Addr} {F : Fns} {n i : Nat} {x : Str} {ps : List Str} {st : Stmt} {f : Addr} {fd : FuncData} (G : FnR P w K mg base XC F n i x ps st) (FF : Fun K x x st f fd) (hm : mg x = some (.ref f)) :
    FnG P w K mg base CX0 n f fd ps (spF K XC F i ps.length) := by
  obtain ⟨f', fd', F', m', _, g⟩ := G.ex
  rw [hm] at m'
  cases m'
  rw [fn_same FF F']
  exact g
theorem law_sp {K : PySem.W.Frag} {XC : Nat → Addr} {F : Fns} {i : Nat} {H : Hp} {a : Addr} {ns : List Int} (hS : SqL K H a (ns.map V.int)) (h : ∃ μ, F i [.dat (.scr ns)] [] = .ok (.dat (.bl true)) μ) : spF K XC F i 1 [.ref a] H (fun v _ => v = .bl true) fun _ _ _ => False := by
  obtain ⟨μ, h⟩ := h
  have S : Sim K (fun _ => False) [] [] H := ⟨rfl, List.nodup_nil, fun a h => h.elim, fun k c h => by simp at h, fun a z => by
    rcases z with ⟨k, c, h, _⟩ | z
    · simp at h
    · exact z.elim⟩
  refine ⟨rfl, fun _ => False, [], [], [.dat (.scr ns)], S, ⟨.ref a, [], rfl, ?_, rfl⟩, ?_⟩
  · refine (?_ : ∃ a', V.ref a = .ref a' ∧ LstN K (Liv (fun _ => False) [] []) H a' (ns.map V.int))
    refine ⟨a, rfl, ?_⟩
    rcases hS with h | h
    · refine .inl ⟨h, fun z => ?_⟩
      rcases z with ⟨k, c, h, _⟩ | z
      · simp at h
      · exact z
    · exact .inr h
  · rw [h]
    intro b H' _ r
    exact r.1
end VM
/-! What the small programs compute, as rewriting rules. -/
namespace VM
section
variable {F : Fns} {ρ : Env} {μ : Sto} {f g h : SE} {t u : SB} {fs : List SE} {i j k l : Nat} {a b c : SS} {d : D} {e1 e2 : EV}
@[simp] theorem Res.bind_ok {α β : Type} {a : α} {f : α → Sto → Res β} : (Res.ok a μ).bind f = f a μ := rfl
@[simp] theorem Res.bind_bad {α β : Type} {f : α → Sto → Res β} : (Res.bad : Res α).bind f = .bad := rfl
@[simp] theorem Res.nox_ok {α : Type} {a : α} : (Res.ok a μ).nox = .ok a μ := rfl
@[simp] theorem see_dat : (EV.dat d).see μ = some d := rfl
@[simp] theorem see_new {c : CV} : (EV.new c).see μ = some c.toD := rfl
@[simp] theorem toD_lst {ds : List D} : (CV.lst ds).toD = .lst ds := rfl
@[simp] theorem toD_dic {ks : List L2.Key} {ds : List D} : (CV.dic ks ds).toD = .dic ks ds := rfl
@[simp] theorem frz_dat : (EV.dat d).frz μ = some (d, μ) := rfl
@[simp] theorem frz_new {c : CV} : (EV.new c).frz μ = some (c.toD, μ) := rfl
@[simp] theorem bnd_dat : (EV.dat d).bnd μ = (.dat d, μ) := rfl
@[simp] theorem bnd_cel : (EV.cel k).bnd μ = (.cel k, μ) := rfl
@[simp] theorem bnd_new {c : CV} : (EV.new c).bnd μ = (.cel μ.length, μ ++ [⟨true, c⟩]) := rfl
@[simp] theorem ev_dat : (SV.dat d).ev = .dat d := rfl
@[simp] theorem ev_cel : (SV.cel k).ev = .cel k := rfl
@[simp] theorem arg_dat : (EV.dat d).arg = .dat d := rfl
@[simp] theorem arg_cel : (EV.cel k).arg = .cel k := rfl
@[simp] theorem arg_new {c : CV} : (EV.new c).arg = .dat c.toD := rfl
theorem see_cel {c : Cell} (h : μ[k]? = some c) : (EV.cel k).see μ = some c.val.toD := by
  show (match μ[k]? with | some c => some c.val.toD | none => none) = _
  rw [h]
@[simp] theorem frzs_nil : frzs [] μ = some ([], μ) := rfl
@[simp] theorem frzs_cons {es : List EV} : frzs (e1 :: es) μ = match e1.frz μ with
  | some (d, μ1) => match frzs es μ1 with
    | some (ds, μ2) => some (d :: ds, μ2)
    | none => none
  | none => none := rfl
@[simp] theorem x_C : eC d F ρ μ = .ok (.dat d) μ := rfl
@[simp] theorem x_V : eV i F ρ μ = match ρ[i]? with
  | some (some s) => .ok s.ev μ
  | _ => .bad := rfl
@[simp] theorem x_evs0 : evs [] F ρ μ = .ok [] μ := rfl
@[simp] theorem x_evs : evs (f :: fs) F ρ μ = (f F ρ μ).bind fun v μ1 => (evs fs F ρ μ1).bind fun vs μ2 => .ok (v :: vs) μ2 := rfl
@[simp] theorem x_tup {fa : SA} : eTup fa F ρ μ = (fa F ρ μ).bind fun vs μ1 => match frzs vs μ1 with
  | some (ds, μ2) => if ds.length ≤ LIM then .ok (.dat (.tup ds)) μ2 else .bad
  | none => .bad := rfl
@[simp] theorem x_lst {fa : SA} : eLst fa F ρ μ = (fa F ρ μ).bind fun vs μ1 => match frzs vs μ1 with
  | some (ds, μ2) => if ds.length ≤ LIM then .ok (.new (.lst ds)) μ2 else .bad
  | none => .bad := rfl
@[simp] theorem x_bin {op : PySem.Operator} : eBin op f g F ρ μ = (f F ρ μ).bind fun a μ1 => (g F ρ μ1).bind fun b μ2 => lift2 (opBin op) a b μ2 := rfl
@[simp] theorem x_cmp {p : D → D → Option Bool} : eCmp p f g F ρ μ = (f F ρ μ).bind fun a μ1 => (g F ρ μ1).bind fun b μ2 => lift2 (fun a b => (p a b).map fun k => .dat (.bl k)) a b μ2 := rfl
@[simp] theorem xt_cmp {p : D → D → Option Bool} : bCmp p f g F ρ μ = (f F ρ μ).bind fun a μ1 => (g F ρ μ1).bind fun b μ2 => lift2B p a b μ2 := rfl
@[simp] theorem x_ix : eIx f g F ρ μ = (f F ρ μ).bind fun a μ1 => (g F ρ μ1).bind fun b μ2 => lift2 opIx a b μ2 := rfl
@[simp] theorem x_lift2 {p : D → D → Option EV} : lift2 p e1 e2 μ = match e1.see μ, e2.see μ with
  | some x, some y => match p x y with
    | some e => .ok e μ
    | none => .bad
  | _, _ => .bad := rfl
@[simp] theorem x_lift2B {p : D → D → Option Bool} : lift2B p e1 e2 μ = match e1.see μ, e2.see μ with
  | some x, some y => match p x y with
    | some e => .ok e μ
    | none => .bad
  | _, _ => .bad := rfl
@[simp] theorem x_cb {p : List D → Option EV} {fa : SA} : eCb p fa F ρ μ = (fa F ρ μ).bind fun vs μ1 => liftN p vs μ1 := rfl
@[simp] theorem x_liftN {p : List D → Option EV} {vs : List EV} : liftN p vs μ = match sees vs μ with
  | some ds => match p ds with
    | some e => .ok e μ
    | none => .bad
  | none => .bad := rfl
@[simp] theorem sees_nil : sees [] μ = some [] := rfl
@[simp] theorem sees_cons {es : List EV} : sees (e1 :: es) μ = match e1.see μ, sees es μ with
  | some d, some ds => some (d :: ds)
  | _, _ => none := rfl
@[simp] theorem x_isi {T : Ty} : eIsi T f F ρ μ = (f F ρ μ).bind fun v μ1 => match v.see μ1 with
  | some d => .ok (.dat (.bl (isi T d))) μ1
  | none => .bad := rfl
@[simp] theorem x_call {fa : SA} : eCall i fa F ρ μ = (fa F ρ μ).bind fun vs μ1 => F i (vs.map EV.arg) μ1 := rfl
@[simp] theorem x_callK {fa fk : SA} {perm : List Nat} : eCallK i fa fk perm F ρ μ = (fa F ρ μ).bind fun vs μ1 => (fk F ρ μ1).bind fun zs μ2 => F i ((perm.filterMap fun i => (vs ++ zs)[i]?).map EV.arg) μ2 := rfl
@[simp] theorem xt_tru : bTru f F ρ μ = (f F ρ μ).bind truR := rfl
@[simp] theorem x_truR : truR e1 μ = match e1.see μ with
  | some d => match tru d with
    | some k => .ok k μ
    | none => .bad
  | none => .bad := rfl
@[simp] theorem xt_not : bNot t F ρ μ = (t F ρ μ).bind fun k μ1 => .ok (!k) μ1 := rfl
@[simp] theorem xt_and : bAnd t u F ρ μ = (t F ρ μ).bind fun k μ1 => match k with
  | true => u F ρ μ1
  | false => .ok false μ1 := rfl
@[simp] theorem xt_or : bOr t u F ρ μ = (t F ρ μ).bind fun k μ1 => match k with
  | true => .ok true μ1
  | false => u F ρ μ1 := rfl
@[simp] theorem x_and : eAnd f g F ρ μ = (f F ρ μ).bind fun v μ1 => (truR v μ1).bind fun k μ2 => match k with
  | true => g F ρ μ2
  | false => .ok v μ2 := rfl
@[simp] theorem x_or : eOr f g F ρ μ = (f F ρ μ).bind fun v μ1 => (truR v μ1).bind fun k μ2 => match k with
  | true => .ok v μ2
  | false => g F ρ μ2 := rfl
@[simp] theorem x_not : eNot f F ρ μ = (f F ρ μ).bind fun v μ1 => (truR v μ1).bind fun k μ2 => .ok (.dat (.bl (!k))) μ2 := rfl
@[simp] theorem x_if : eIf t f g F ρ μ = (t F ρ μ).bind fun k μ1 => match k with
  | true => f F ρ μ1
  | false => g F ρ μ1 := rfl
@[simp] theorem x_yes : bYes F ρ μ = .ok true μ := rfl
@[simp] theorem xs_seq : sSeq a b F ρ μ = match a F ρ μ with
  | .ok (.nx ρ1) μ1 => b F ρ1 μ1
  | r => r := rfl
@[simp] theorem xs_pass : sPass F ρ μ = .ok (.nx ρ) μ := rfl
@[simp] theorem xs_drop : sDrop f F ρ μ = (f F ρ μ).bind fun _ μ1 => .ok (.nx ρ) μ1 := rfl
@[simp] theorem xs_ret : sRet f F ρ μ = (f F ρ μ).bind fun v μ1 => .ok (.rt v) μ1 := rfl
@[simp] theorem xs_if : sIf t a b F ρ μ = (t F ρ μ).bind fun k μ1 => match k with
  | true => a F ρ μ1
  | false => b F ρ μ1 := rfl
@[simp] theorem xs_set : sSet i f F ρ μ = (f F ρ μ).bind fun v μ1 => .ok (.nx (ρ.set i (some (v.bnd μ1).1))) (v.bnd μ1).2 := rfl
@[simp] theorem xs_par : sPar i j f g F ρ μ = (f F ρ μ).bind fun v μ1 => (g F ρ (v.bnd μ1).2).bind fun w μ2 => .ok (.nx ((ρ.set i (some (v.bnd μ1).1)).set j (some (w.bnd μ2).1))) (w.bnd μ2).2 := rfl
@[simp] theorem xs_asg {p : SG} : sAsg f p F ρ μ = (f F ρ μ).bind fun v μ1 => match v.frz μ1 with
  | some (d, μ2) => (p d F ρ μ2).bind fun ρ1 μ3 => .ok (.nx ρ1) μ3
  | none => .bad := rfl
@[simp] theorem xg_nm : gNm i d F ρ μ = .ok (ρ.set i (some (.dat d))) μ := rfl
@[simp] theorem xg_tp {gs : List SG} {ds : List D} : gTp gs (.tup ds) F ρ μ = if ds.length = gs.length then sgs gs ds F ρ μ else .bad := rfl
@[simp] theorem xg_nil : sgs [] [] F ρ μ = .ok ρ μ := rfl
@[simp] theorem xg_cons {p : SG} {gs : List SG} {ds : List D} : sgs (p :: gs) (d :: ds) F ρ μ = (p d F ρ μ).bind fun ρ1 μ1 => sgs gs ds F ρ1 μ1 := rfl
@[simp] theorem xs_while : sWhile t a F ρ μ = whL (t F) (a F) LIM ρ μ := rfl
@[simp] theorem xs_for {it : SI} {p : SG} : sFor it p a F ρ μ = (it F ρ μ).bind fun s μ1 => forL F s p a (s.len μ1 + 1) 0 ρ μ1 := rfl
@[simp] theorem xi_of : iOf f F ρ μ = (f F ρ μ).bind fun v μ1 => match srcOf v μ1 with
  | some s => .ok s μ1
  | none => .bad := rfl
@[simp] theorem xi_enm : iEnm f F ρ μ = (f F ρ μ).bind fun v μ1 => match isTx v, srcOf v μ1 with
  | false, some s => .ok s.enum μ1
  | _, _ => .bad := rfl
@[simp] theorem xi_rng {fa : SA} : iRange fa F ρ μ = (fa F ρ μ).bind fun vs μ1 => match rangeOf vs with
  | some s => .ok s μ1
  | none => .bad := rfl
@[simp] theorem x_lc {it : SI} {tg : Tgt} {own : List Nat} : eLc it tg t f own F ρ μ = (it F ρ μ).bind fun s μ1 => (lcLoop s (lcStep F tg t f (wipeE ρ own)) (s.len μ1 + 1) 0 μ1).bind fun ds μ2 => if ds.length ≤ LIM then .ok (.new (.lst ds)) μ2 else .bad := rfl
@[simp] theorem x_rev : eRev f F ρ μ = (f F ρ μ).bind fun v μ1 => match v.see μ1 with
  | some (.lst ds) => .ok (.new (.lst ds.reverse)) μ1
  | some (.tup ds) => .ok (.dat (.tup ds.reverse)) μ1
  | _ => .bad := rfl
@[simp] theorem x_sl {l h : SOp} : eSl f l h F ρ μ = (f F ρ μ).bind fun a μ1 => (l F ρ μ1).bind fun lo μ2 => (h F ρ μ2).bind fun hi μ3 => match a.see μ3 with
  | some d => match opSl d lo hi with
    | some e => .ok e μ3
    | none => .bad
  | none => .bad := rfl
@[simp] theorem x_dict0 : eDict0 F ρ μ = .ok (.new (.dic [] [])) μ := rfl
@[simp] theorem src_vals {ds : List D} : (Src.vals ds).at μ = some ds := rfl
@[simp] theorem src_len {ds : List D} : (Src.vals ds).len μ = ds.length := rfl
end

/-! ### stores -/
section
variable {μ r : Sto} {c d c' : Cell}
@[simp] theorem get_a0 : (μ ++ c :: r)[μ.length]? = some c := by rw [List.getElem?_append_right (Nat.le_refl _), Nat.sub_self]; rfl
@[simp] theorem get_a1 : (μ ++ c :: d :: r)[μ.length + 1]? = some d := by
  rw [List.getElem?_append_right (Nat.le_succ _), show μ.length + 1 - μ.length = 1 by omega]; rfl
@[simp] theorem set_a0 : (μ ++ c :: r).set μ.length c' = μ ++ c' :: r := by
  rw [List.set_append_right _ _ (Nat.le_refl _), Nat.sub_self]; rfl
@[simp] theorem set_a1 : (μ ++ c :: d :: r).set (μ.length + 1) c' = μ ++ c :: c' :: r := by
  rw [List.set_append_right _ _ (Nat.le_succ _), show μ.length + 1 - μ.length = 1 by omega]; rfl
@[simp] theorem take_a : (μ ++ r).take μ.length = μ := by simp
end

/-! ### loops -/
theorem lc_pure {s : List D} {step : D → Sto → Res (Option D)} {g : D → Option D} {μ : Sto} (h : ∀ d ∈ s, step d μ = .ok (g d) μ) : ∀ (n i : Nat), i ≤ s.length → s.length < i + n → s.length ≤ LIM → lcLoop (.vals s) step n i μ = .ok ((s.drop i).filterMap g) μ
  | 0, i, hi, hn, hl => by omega
  | n + 1, i, hi, hn, hl => by
    unfold lcLoop
    simp only [src_vals]
    cases e : s[i]? with
    | none =>
      have hi : s.length ≤ i := List.getElem?_eq_none_iff.mp e
      rw [List.drop_eq_nil_of_le hi]; rfl
    | some d =>
      have hi : i < s.length := (List.getElem?_eq_some_iff.mp e).1
      have hd : d ∈ s := List.mem_of_getElem? e
      simp only
      rw [if_pos (by omega), h d hd, Res.bind_ok, lc_pure h n (i + 1) (by omega) (by omega) hl, Res.bind_ok]
      have e2 : s.drop i = d :: s.drop (i + 1) := by
        rw [List.drop_eq_getElem_cons hi]
        congr 1
        exact (List.getElem?_eq_some_iff.mp e).2
      rw [e2, List.filterMap_cons]
      cases g d <;> rfl
end VM
namespace VM
section
variable {F : Fns} {ρ : Env} {μ : Sto} {f g : SE} {t : SB} {o : SE} {fa : SA} {act : Act}
@[simp] theorem x_cm : eCM act o fa F ρ μ = (o F ρ μ).bind fun v μ1 => match v with
  | .cel k => match μ1[k]? with
    | some c0 => match c0.val with
      | .lst _ => (fa F ρ μ1).bind fun vs μ2 => match frzs vs μ2 with
        | some (args, μ3) => match μ3[k]? with
          | some c => match c.live, c.val with
            | true, .lst ds => match act ds args with
              | some (r, ds') => .ok (.dat r) (μ3.set k ⟨true, .lst ds'⟩)
              | none => .bad
            | _, _ => .bad
          | none => .bad
        | none => .bad
      | _ => .bad
    | none => .bad
  | _ => .bad := rfl
@[simp] theorem aPop_c {l : List D} {d : D} : aPop (l ++ [d]) [] = some (d, l) := by
  unfold aPop
  simp
theorem aAppend_c {l : List D} {d : D} (h : l.length < LIM) : aAppend l [d] = some (.non, l ++ [d]) := if_pos h
theorem aExtend_t {l e : List D} (h : l.length + e.length ≤ LIM) : aExtend l [.tup e] = some (.non, l ++ e) := if_pos h
theorem aExtend_c {l e : List D} (h : l.length + e.length ≤ LIM) : aExtend l [.lst e] = some (.non, l ++ e) := if_pos h
@[simp] theorem x_step {tg : Tgt} {d : D} : lcStep F tg t f ρ d μ = match asg tg d ρ with
  | none => .bad
  | some ρ => (t F ρ μ).nox.bind fun b μ1 => match b with
    | true => (f F ρ μ1).nox.bind fun v μ2 => match v.frz μ2 with
      | some (x, μ3) => .ok (some x) μ3
      | none => .bad
    | false => .ok none μ1 := rfl
end
/-- a list of things still to be looked at, from the end on -/
def stk {α : Type} (enc : α → D) (μ : Sto) (Fd : List D) (L : List α) : Sto := μ ++ [⟨true, .lst Fd⟩, ⟨true, .lst (L.map enc).reverse⟩]
theorem stack_loop {α : Type} (enc : α → D) (out : α → List D) (kids : α → List α) (all : α → List D) (size : α → Nat) (good : α → Prop) (okρ : Env → Prop) (B : Nat) {c : Env → Sto → Res Bool} {b : Env → Sto → Res SO} {μ : Sto}
    (hall : ∀ x, good x → all x = out x ++ (kids x).flatMap all) (hsz : ∀ x, good x → 1 + ((kids x).map size).sum ≤ size x) (hout : ∀ x, good x → (out x).length + ((kids x).map size).sum ≤ size x) (hkid : ∀ x, good x → ∀ y ∈ kids x, good y)
    (hc : ∀ ρ Fd L, okρ ρ → (∀ x ∈ L, good x) → c ρ (stk enc μ Fd L) = .ok (!L.isEmpty) (stk enc μ Fd L))
    (hb : ∀ ρ Fd x L, okρ ρ → good x → (∀ y ∈ L, good y) → Fd.length + size x + (L.map size).sum ≤ B → ∃ ρ', okρ ρ' ∧ b ρ (stk enc μ Fd (x :: L)) = .ok (.nx ρ') (stk enc μ (Fd ++ out x) (kids x ++ L))) :
    ∀ (m fuel : Nat) (ρ : Env) (Fd : List D) (L : List α), okρ ρ → (∀ x ∈ L, good x) → (L.map size).sum ≤ m → m < fuel → Fd.length + (L.map size).sum ≤ B → ∃ ρ', okρ ρ' ∧ whL c b fuel ρ (stk enc μ Fd L) = .ok (.nx ρ') (stk enc μ (Fd ++ L.flatMap all) [])
  | m, 0, ρ, Fd, L, _, _, _, hf, _ => by omega
  | m, fuel + 1, ρ, Fd, [], ho, hg, hs, hf, hB => by
    refine ⟨ρ, ho, ?_⟩
    unfold whL
    rw [hc ρ Fd [] ho hg]
    simp
  | m, fuel + 1, ρ, Fd, x :: L, ho, hg, hs, hf, hB => by
    have gx := hg x List.mem_cons_self
    have gL : ∀ y ∈ L, good y := fun y hy => hg y (List.mem_cons_of_mem _ hy)
    rw [List.map_cons, List.sum_cons] at hs hB
    have h1 := hsz x gx
    have h2 := hout x gx
    obtain ⟨ρ', ho', e⟩ := hb ρ Fd x L ho gx gL (by omega)
    have hm : ((kids x ++ L).map size).sum = ((kids x).map size).sum + (L.map size).sum := by rw [List.map_append, List.sum_append]
    obtain ⟨ρ2, ho2, e2⟩ := stack_loop enc out kids all size good okρ B hall hsz hout hkid hc hb (m - 1) fuel ρ' (Fd ++ out x) (kids x ++ L) ho' (fun y hy => (List.mem_append.mp hy).elim (hkid x gx y) (gL y)) (by rw [hm]; omega) (by omega) (by rw [hm, List.length_append]; omega)
    refine ⟨ρ2, ho2, ?_⟩
    unfold whL
    rw [hc ρ Fd (x :: L) ho hg]
    simp only [List.isEmpty_cons, Bool.not_false, Res.bind_ok, e, e2]
    rw [List.flatMap_append, List.flatMap_cons, hall x gx, List.append_assoc, List.append_assoc]
end VM
namespace VM
@[simp] theorem lm0 : (0 ≤ LIM) = True := eq_true (by decide)
@[simp] theorem lm1 : (1 ≤ LIM) = True := eq_true (by decide)
@[simp] theorem lm2 : (2 ≤ LIM) = True := eq_true (by decide)
@[simp] theorem lm3 : (3 ≤ LIM) = True := eq_true (by decide)
@[simp] theorem lm4 : (4 ≤ LIM) = True := eq_true (by decide)
@[simp] theorem lm5 : (5 ≤ LIM) = True := eq_true (by decide)
@[simp] theorem lm9 : (9 ≤ LIM) = True := eq_true (by decide)
theorem ix0 {a : D} {l : List D} : opIx (.tup (a :: l)) (.int 0) = some (.dat a) := by
  unfold opIx L2.atI L2.ixN
  simp
theorem ix1 {a b : D} {l : List D} : opIx (.tup (a :: b :: l)) (.int 1) = some (.dat b) := by
  unfold opIx L2.atI L2.ixN
  simp only [List.length_cons]
  rw [if_pos (by omega), if_pos (by omega)]
  rfl
theorem addI {i j : Int} : opBin .Add (.int i) (.int j) = some (.dat (.int (i + j))) := rfl
end VM
namespace VM
@[simp] theorem tru_bl {b : Bool} : tru (.bl b) = some b := rfl
@[simp] theorem src_tup {l : List D} {μ : Sto} : srcOf (.dat (.tup l)) μ = some (.vals l) := rfl
@[simp] theorem src_lst {l : List D} {μ : Sto} : srcOf (.dat (.lst l)) μ = some (.vals l) := rfl
@[simp] theorem src_newl {l : List D} {μ : Sto} : srcOf (.new (.lst l)) μ = some (.vals l) := rfl
theorem asg_nm {i : Nat} {d : D} {ρ : Env} (h : i < ρ.length) : asg (.nm i) d ρ = some (ρ.set i (some (.dat d))) := if_pos h
/-- a comprehension over told items, each of which gives one -/
theorem lc_map {s : List D} {step : D → Sto → Res (Option D)} {g : D → D} {μ : Sto} (h : ∀ d ∈ s, step d μ = .ok (some (g d)) μ) (hl : s.length ≤ LIM) : lcLoop (.vals s) step (s.length + 1) 0 μ = .ok (s.map g) μ := by
  rw [lc_pure (g := fun d => some (g d)) h (s.length + 1) 0 (Nat.zero_le _) (by omega) hl, List.drop_zero]
  congr 1
  induction s with
  | nil => rfl
  | cons a s ih => simp [List.filterMap_cons]
end VM
/-! sorted(set(xs)), xs ints or texts. -/
namespace VM
open PySem PySem.Spec L2 PyProof.Rows

/-! ### 1. a kind of members: of one type, ordered -/
structure SKd (P : Program) (w : World) (K : Type) [DecidableEq K] where
  knd : PySem.KeyKind P w K
  bk : Value → K
  toV : K → V
  back : ∀ {k : K} {v : Value}, knd.is k v = true → bk v = k
  scn : ∀ {k : K} {v : Value}, knd.is k v = true → v.scannable = true
  rel : ∀ {k : K} {v : Value}, knd.is k v = true ↔ RelV (toV k) v
  lt : K → K → Bool
  irr : ∀ a, lt a a = false
  tra : ∀ a b c, lt a b = true → lt b c = true → lt a c = true
  tri : ∀ a b, lt a b = false → lt b a = false → a = b
  one : ∀ {A : Around} {E : Value → Shared → Prop} {s : Shared} {a b : K} {u v : Value} {Q : Bool → Shared → Prop}, knd.is a u = true → knd.is b v = true → Q (lt a b) s → wpAny (model P w) A (oneLt' true u v) Q E s
  kin : ∀ {v1 v2 : Value} {vs : List Value}, (∀ v ∈ v1 :: v2 :: vs, knd.is (bk v) v = true) → keyKind' (v1 :: v2 :: vs).toArray = pure oneType'

section
variable {P : Program} {w : World} {K : Type} [DecidableEq K] (D : SKd P w K)
def SKd.Good (e : Int × Value) : Prop := ∃ k, D.knd.is k e.2 = true ∧ e.1 = D.knd.hash k
def SKd.ky (e : Int × Value) : K := D.bk e.2
/-- the set at a: its members are S, at most n -/
def SKd.At (h : Heap) (a : Addr) (S : K → Prop) (n : Nat) : Prop :=
  ∃ o es ep t, (h.get? a = some o ∧ o.ExactSet ∧ o.data = .set es ep t) ∧ ((∀ e ∈ es.toList, D.Good e) ∧ (es.toList.map D.ky).Nodup ∧ ∀ k, S k ↔ k ∈ es.toList.map D.ky) ∧
    (es.size ≤ n ∧ n < scanBound) ∧ t.fits es.size = true ∧ Ris t.place.toList ∧ (w.params.followText "set-order" = true ∨ t.led = true)
variable {D}
theorem SKd.At.at {h h' : Heap} {a : Addr} {S : K → Prop} {n : Nat} (R : D.At h a S n) (k : ∀ o, h.get? a = some o → h'.get? a = some o) : D.At h' a S n := by
  obtain ⟨o, es, ep, t, ⟨ho, hx⟩, r⟩ := R
  exact ⟨o, es, ep, t, ⟨k o ho, hx⟩, r⟩
theorem SKd.At.congr {h : Heap} {a : Addr} {S S' : K → Prop} {n : Nat} (R : D.At h a S n) (e : ∀ k, S' k ↔ S k) : D.At h a S' n := by
  obtain ⟨o, es, ep, t, hx, ⟨g, nd, m⟩, r⟩ := R
  exact ⟨o, es, ep, t, hx, ⟨g, nd, fun k => (e k).trans (m k)⟩, r⟩
theorem SKd.elems {l : List (Int × Value)} (g : ∀ e ∈ l, D.Good e) : ElemsOf D.knd l := fun e he => let ⟨k, h1, h2⟩ := g e he; ⟨⟨k, h1, h2⟩, D.scn h1⟩
theorem SKd.is_iff {e : Int × Value} (g : D.Good e) (k : K) : D.knd.is k e.2 = true ↔ D.ky e = k := by
  obtain ⟨k0, h1, _⟩ := g
  refine ⟨fun h => D.back h, fun h => ?_⟩
  have : k0 = k := (D.back h1).symm.trans h
  rw [← this]; exact h1
theorem SKd.mem_iff {l : List (Int × Value)} (g : ∀ e ∈ l, D.Good e) (k : K) : k ∈ l.map D.ky ↔ ∃ e ∈ l, D.knd.is k e.2 = true := by
  refine List.mem_map.trans ⟨fun ⟨e, he, q⟩ => ⟨e, he, (SKd.is_iff (g e he) k).2 q⟩, fun ⟨e, he, q⟩ => ⟨e, he, (SKd.is_iff (g e he) k).1 q⟩⟩

/-! ### 2. a member more -/
variable {A : Around} {E : Value → Shared → Prop} {s : Shared} {a : Addr} {S : K → Prop} {n : Nat}
theorem SKd.tail {g : Bool → Sem Unit} (hg : ∀ (b : Bool) (z : Shared) (Q' : Unit → Shared → Prop), Q' () z → wpAny (model P w) A (g b) Q' E z)
    {o : Obj} {es xs : Array (Int × Value)} {ep : Nat} {t u : SetTable} {S' : K → Prop} {wd : Bool} {R : Option Bool → Shared → Prop}
    (ho : s.heap.get? a = some o) (hex : o.ExactSet) (hd : o.data = .set es ep t) (g1 : (∀ e ∈ xs.toList, D.Good e) ∧ (xs.toList.map D.ky).Nodup ∧ ∀ k, S' k ↔ k ∈ xs.toList.map D.ky)
    (hb : xs.size ≤ n ∧ n < scanBound) (hf : u.fits xs.size = true) (hr : Ris u.place.toList) (hl : w.params.followText "set-order" = true ∨ u.led = true)
    (hR : ∀ h', Heap.SameBut a s.heap h' → D.At h' a S' n → R (some true) { s with heap := h' }) :
    wpAny (model P w) A (do
        storeSet a xs u
        if (!wd && u.tooFull) = true then do
            g (relayAll u xs (SetTable.grown xs.size)).2.2
            storeSet a (relayAll u xs (SetTable.grown xs.size)).1 (relayAll u xs (SetTable.grown xs.size)).2.1
            pure (some true)
          else pure (some true)) R E s := by
  have hb1 : xs.size < scanBound := Nat.lt_of_le_of_lt hb.1 hb.2
  refine wpAny_bind (wpAny_storeSet_of ho hd ?_ (fits_of_scanBound hb1))
  have o1 := store_at (es' := xs) (t' := u) ho hd
  have b1 := Heap.SameBut.update s.heap a (Obj.putSet xs u)
  split
  · have c1 := relayAll_perm u xs (SetTable.grown xs.size)
    have c2 := relayAll_fits u xs (SetTable.grown xs.size)
    have c3 := relayAll_ris u xs (SetTable.grown xs.size)
    have c4 := relayAll_led u xs (SetTable.grown xs.size)
    generalize relayAll u xs (SetTable.grown xs.size) = Y at c1 c2 c3 c4 ⊢
    obtain ⟨ys, v, gv⟩ := Y
    dsimp only at c1 c2 c3 c4 ⊢
    have z : ys.size = xs.size := by rw [← Array.length_toList, c1.length_eq, Array.length_toList]
    refine wpAny_bind (hg _ _ _ (wpAny_bind (wpAny_storeSet_of o1 rfl ?_ (fits_of_scanBound (by rw [z]; exact hb1)))))
    have o2 := store_at (es' := ys) (t' := v) o1 rfl
    refine wpAny_pure (hR _ (b1.trans (Heap.SameBut.update _ a _)) ⟨_, ys, _, v, ⟨o2, hex, rfl⟩, ⟨fun e he => g1.1 e (c1.mem_iff.mp he), (c1.map D.ky).nodup_iff.mpr g1.2.1, fun k => (g1.2.2 k).trans (c1.map D.ky).mem_iff.symm⟩,
      ⟨by rw [z]; exact hb.1, hb.2⟩, c2, c3, hl.imp id fun q => by rw [c4]; exact q⟩)
  · exact wpAny_pure (hR _ b1 ⟨_, xs, _, u, ⟨o1, hex, rfl⟩, g1, hb, hf, hr, hl⟩)

theorem SKd.add {k : K} {x : Value} {Q : Bool → Shared → Prop} (hx : D.knd.is k x = true) (R : D.At s.heap a S n) (room : n + 1 < scanBound)
    (hQ : ∀ b h', Heap.SameBut a s.heap h' → D.At h' a (fun j => S j ∨ j = k) (n + 1) → Q b { s with heap := h' }) : wpAny (model P w) A (setAddHashed a x (D.knd.hash k)) Q E s := by
  obtain ⟨o, es, ep, t, ⟨ho, hex, hd⟩, ⟨g, nd, hm⟩, ⟨hn, hb⟩, hf, hr, hl⟩ := R
  have hsc := D.scn hx
  have hel := SKd.elems g
  have hbs : es.size < scanBound := Nat.lt_of_le_of_lt hn hb
  unfold setAddHashed setAddHashedIn
  refine wpAny_holding (wpAny_bind (wpAny_setState_of ho hd hf ?_))
  dsimp only
  rw [byScan_of hsc hbs hel]
  simp only [↓reduceIte]
  unfold setAddByScan
  refine wpAny_bind (wpAny_bind (wpAny_rule (wpAny_bind (wpAny_setScan_of hx ho hd hf hel ?_))))
  cases hfi : List.findIdx? (fun e => D.knd.is k e.2) es.toList with
  | some j =>
    dsimp only
    obtain ⟨hj, pj, _⟩ := List.findIdx?_eq_some_iff_getElem.mp hfi
    have hSk : S k := (hm k).2 ((SKd.mem_iff g k).2 ⟨es.toList[j], List.getElem_mem hj, pj⟩)
    exact wpAny_pure (wpAny_pure (hQ _ s.heap (Heap.SameBut.refl a s.heap) ⟨o, es, ep, t, ⟨ho, hex, hd⟩, ⟨g, nd, fun i => ⟨fun z => (hm i).1 (z.elim id fun e => e ▸ hSk), fun z => .inl ((hm i).2 z)⟩⟩, ⟨by omega, room⟩, hf, hr, hl⟩))
  | none =>
    dsimp only
    have hnk : k ∉ es.toList.map D.ky := fun z => by
      obtain ⟨e, he, q⟩ := (SKd.mem_iff g k).1 z
      have c := List.findIdx?_eq_none_iff.mp hfi e he
      rw [q] at c
      cases c
    have hgw : ∀ (b : Bool) {z : Shared} {Q' : Unit → Shared → Prop}, Q' () z → wpAny (model P w) A (match b with | true => rule "set.scan.the-table-gave-way" | false => pure ()) Q' E z :=
      fun b z Q' q => by cases b <;> first | exact wpAny_pure q | exact wpAny_rule q
    have pm := layNew_perm t es (D.knd.hash k) x
    have f1 := layNew_fits t es (D.knd.hash k) x
    have r1 := layNew_ris t es (D.knd.hash k) x hr
    have l1 := layNew_led t es (D.knd.hash k) x
    generalize layNew t es (D.knd.hash k) x = Y at pm f1 r1 l1 ⊢
    obtain ⟨xs, t1, wd, gv⟩ := Y
    dsimp only at pm f1 r1 l1 ⊢
    rw [Array.toList_push] at pm
    have pc : xs.toList.Perm ((D.knd.hash k, x) :: es.toList) := pm.trans (List.perm_append_singleton _ _)
    have pk : (xs.toList.map D.ky).Perm (k :: es.toList.map D.ky) := by
      have q := pc.map D.ky
      rw [List.map_cons, show D.ky (D.knd.hash k, x) = k from D.back hx] at q
      exact q
    have g1 : (∀ e ∈ xs.toList, D.Good e) ∧ (xs.toList.map D.ky).Nodup ∧ ∀ i, (S i ∨ i = k) ↔ i ∈ xs.toList.map D.ky := by
      refine ⟨fun e he => ?_, pk.nodup_iff.mpr (List.nodup_cons.mpr ⟨hnk, nd⟩), fun i => ?_⟩
      · rcases List.mem_cons.mp (pc.mem_iff.mp he) with z | z
        · rw [z]; exact ⟨k, hx, rfl⟩
        · exact g e z
      · rw [pk.mem_iff, List.mem_cons, hm i]; exact Or.comm
    have hsz : xs.size ≤ n + 1 := by rw [← Array.length_toList, pc.length_eq, List.length_cons, Array.length_toList]; omega
    have led1 : w.params.followText "set-order" = true ∨ t1.led = true := hl.imp id fun z => by rw [l1]; exact z
    refine wpAny_bind (hgw _ ?_)
    split
    · refine wpAny_bind ?_
      rw [hashByValue_scannable 8 hsc]
      refine wpAny_pure (SKd.tail (n := n + 1) (fun b z Q' q => by cases b <;> first | exact wpAny_pure q | exact wpAny_rule q) ho hex hd g1 ⟨hsz, room⟩ ?_ ?_ ?_ fun h' sb r => by dsimp only; exact wpAny_pure (hQ _ h' sb r))
      · first | (split <;> first | exact f1 | exact SetTable.fits_plain_off f1) | exact f1
      · first | (split <;> exact r1) | exact r1
      · first | (split <;> exact led1) | exact led1
    · refine wpAny_bind (wpAny_pure ?_)
      simp only [↓reduceIte]
      exact SKd.tail (n := n + 1) (fun b z Q' q => by cases b <;> first | exact wpAny_pure q | exact wpAny_rule q) ho hex hd g1 ⟨hsz, room⟩ f1 r1 led1 fun h' sb r => by dsimp only; exact wpAny_pure (hQ _ h' sb r)

/-! ### 3. set(xs) -/
theorem SKd.loop {I : Addr} {fp wr : List Addr} {G : Array GenState → Array GenState → Prop} {m : Nat} {Pv : Nat → Value → Prop} {St : Nat → Shared → Prop} {R : Result → Shared → Prop}
    (W : WalksS P w A.in1 I fp wr G m Pv St) (T : Addr) (hT : T ∉ fp) (ks : List K) (hm : m = ks.length) (hb : ks.length + 1 < scanBound) (hv : ∀ (i : Nat) (v : Value), Pv i v → ∃ k, ks[i]? = some k ∧ D.knd.is k v = true) :
    ∀ (c i : Nat) (s : Shared), m - i = c → i ≤ m → St i s → D.At s.heap T (fun j => j ∈ ks.take i) i →
      (∀ s', Moved (T :: wr) G s s' → D.At s'.heap T (fun j => j ∈ ks) m → R (.ok (.ret .none)) s') → codeAny (model P w) A (.builtin "set.update.loop" ⟨[.ref T, .ref I], []⟩) R s := by
  have nT : T ∉ wr := fun h => hT (W.sub _ h)
  have up : ∀ b ∈ wr, b ∈ T :: wr := fun b => List.mem_cons_of_mem _
  intro c
  induction c with
  | zero =>
    intro i s hc hi hst hS hR
    obtain rfl : i = m := by omega
    refine codeAny_builtin F.entry_set_update_loop ?_
    rw [Around.under_plainId F.plain_set_update_loop _]
    show wpAny _ A.in1 (pyNext (.ref I) >>= _) _ _ s
    refine wpAny_bind (W.done s _ _ hst fun s' mv => ?_)
    show wpAny _ A.in1 (ret Value.none) _ _ s'
    rw [List.take_of_length_le (by omega)] at hS
    exact wpAny_pure (hR s' (mv.mono up) (hS.at fun o e => mv.heap T o nT e))
  | succ c ih =>
    intro i s hc hi hst hS hR
    have hlt : i < m := by omega
    refine codeAny_builtin F.entry_set_update_loop ?_
    rw [Around.under_plainId F.plain_set_update_loop _]
    show wpAny _ A.in1 (pyNext (.ref I) >>= _) _ _ s
    refine wpAny_bind (W.item i s _ _ hlt hst fun v s' hP hst' mv => ?_)
    obtain ⟨k, hk, hi'⟩ := hv i v hP
    have hS' : D.At s'.heap T (fun j => j ∈ ks.take i) i := hS.at fun o e => mv.heap T o nT e
    show wpAny _ A.in1 (holding [v] (setAdd T v) >>= _) _ _ s'
    refine wpAny_bind (wpAny_holding ?_)
    unfold setAdd
    refine wpAny_holding (wpAny_bind (D.knd.pyHash hi' ?_))
    refine SKd.add (s := { s' with toks := s'.toks + 1 }) hi' hS' (by omega) fun b h' sb r => ?_
    have r' : D.At h' T (fun j => j ∈ ks.take (i + 1)) (i + 1) := r.congr fun j => by
      rw [List.take_add_one, hk]
      simp [List.mem_append]
    refine wpAny_pure ⟨plainId_quiet F.plain_set_update_loop _, ih (i + 1) _ (by omega) hlt (W.frame _ s' _ _ hst' (Nat.le_succ _) fun b hb o e => ?_) r' fun s'' mv' r'' => ?_⟩
    · exact (sb.2 b fun h : b = T => hT (h ▸ hb)).trans e
    · exact hR s'' (Moved.trans W.gtrans ((mv.mono up).then_heap (Nat.le_succ _) fun b o hb e => (sb.2 b fun h : b = T => hb (h ▸ List.mem_cons_self)).trans e) mv') r''

theorem SKd.fresh {h : Heap} {a : Addr} {ks : List K} (ho : h.get? a = some { cls := .type "set", dict := none, data := .set #[] 0 (.fresh 0 0 (!w.params.followText "set-order")) }) : D.At h a (fun j => j ∈ ks.take 0) 0 :=
  ⟨_, #[], 0, _, ⟨ho, ⟨rfl, rfl, rfl⟩, rfl⟩, ⟨fun e he => by simp at he, by simp, fun k => by simp⟩, ⟨Nat.le_refl _, by decide⟩, by rfl, List.Pairwise.nil, by
    cases e : w.params.followText "set-order"
    · exact .inr rfl
    · exact .inl rfl⟩
end
end VM
/-! sorted(set(xs)): the calls. -/
namespace VM
open PySem PySem.Spec L2 PyProof.Rows
/-! ### in plain words -/
def insU {K : Type} (lt : K → K → Bool) (x : K) : List K → List K
  | [] => [x]
  | y :: ys => if lt x y then x :: y :: ys else if lt y x then y :: insU lt x ys else y :: ys
def sortU {K : Type} (lt : K → K → Bool) : List K → List K
  | [] => []
  | x :: xs => insU lt x (sortU lt xs)
section
variable {P : Program} {w : World} {K : Type} [DecidableEq K] {D : SKd P w K} {A : Around} {E : Value → Shared → Prop} {s : Shared}
set_option maxRecDepth 100000 in
set_option maxHeartbeats 3200000 in
theorem SKd.make {l : Addr} {items : Array Value} (ks : List K) {Q : Value → Shared → Prop} (hh : A.handled = none) (hl : s.heap.IsList l items) (hit : ∀ (i : Nat) (v : Value), items[i]? = some v → ∃ k, ks[i]? = some k ∧ D.knd.is k v = true) (hz : items.size = ks.length) (hb : ks.length + 1 < scanBound)
    (h : ∀ (h' : Heap) (tk : Nat), D.At h' s.heap.objs.size (fun j => j ∈ ks) ks.length → (∀ b o, s.heap.get? b = some o → h'.get? b = some o) → Q (.ref s.heap.objs.size) { s with heap := h', toks := tk }) :
    wpAny (model P w) A (call (.type "set") [.ref l]) Q E s := by
  obtain ⟨c, tl, hmro⟩ := F.called_set.mro
  have made := F.called_set.made
  have sub := F.called_set.sub
  refine wpAny_call (codeAny_of_tree ?_)
  show wpAny _ _ (callAny (.type "set") _) _ _ _
  refine wpAny_pure ⟨Code.quiet_builtin _ (by decide +kernel), codeAny_builtin F.entry_type_call ?_⟩
  rw [Around.under_plain (weight_type_call_type "set" [.ref l] []) rfl]
  have h1 := F.called_set.notType
  have h2 := F.called_set.canCreate
  have hct := F.typeCall_set_1 (.ref l)
  repeat (any_goals (first | assumption | wp_step))
  generalize eN : ({ cls := .type "set", dict := none, data := .set #[] 0 (.fresh 0 0 (!w.params.followText "set-order")) } : Obj) = N
  have cN : N.cls = .type "set" := by rw [← eN]
  refine codeAny_mono (code_set_led1 (.ref l) (E := E) (Q₁ := fun obj z => obj = .ref s.heap.objs.size ∧ z = { s with heap := s.heap.push N }) (by rw [eN]; exact ⟨rfl, rfl⟩)) fun r z hr => ?_
  cases r with
  | error e => exact hr
  | ok fl =>
    cases fl with
    | ret obj =>
      obtain ⟨rfl, rfl⟩ := hr
      have hS : (s.heap.push N).get? s.heap.objs.size = some N := Heap.get?_push_size _ (by rw [← eN] <;> rfl)
      have hT : Shared.TypeIs { s with heap := s.heap.push N } (.ref s.heap.objs.size) "set" := ⟨_, hS, cN⟩
      have hli := F.called_set.init.lookup
      have hbi := F.called_set.init.bind (.ref s.heap.objs.size)
      repeat (any_goals (first | assumption | wp_step))
      refine codeAny_mono (codeAny_call_builtin (R := wants (fun r z => r = .none ∧ ∃ h' tk, z = { s with heap := h', toks := tk } ∧ D.At h' s.heap.objs.size (fun j => j ∈ ks) ks.length ∧
          ∀ b o, s.heap.get? b = some o → h'.get? b = some o) E) F.called_set.init.plain F.entry_set_init (check_set_init_1 hT ?_)) fun r₂ z₂ hr₂ => ?_
      · obtain ⟨ol, hol, hcl, nl, hdl⟩ := hl
        have hol' : (s.heap.push N).get? l = some ol := Heap.get?_push_of_some _ hol
        obtain ⟨ocls, odict, odata, oslots⟩ := ol
        simp only at hcl hdl
        subst hcl
        subst hdl
        have hsls := F.sub_list_set
        have hslf := F.sub_list_frozenset
        have hne : (Value.type "list" == Value.type "dict") = false := by decide
        have hlS : l < s.heap.objs.size := Heap.lt_size hol
        have hh3 : A.in1.in1.in1.handled = none := by simp [hh]
        have z1 : ∀ N : Obj, (s.heap.push N).objs.size = s.heap.objs.size + 1 := fun _ => Heap.size_push ..
        have nI : ∀ N : Obj, l ≠ (s.heap.push N).objs.size := fun N => by rw [z1]; exact Nat.ne_of_lt (Nat.lt_succ_of_lt hlS)
        have nS : ∀ N : Obj, s.heap.objs.size ∉ [(s.heap.push N).objs.size, l] := fun N => by
          rw [z1]
          simp only [List.mem_cons, List.not_mem_nil, or_false, not_or]
          exact ⟨Nat.ne_of_lt (Nat.lt_succ_self _), Nat.ne_of_gt hlS⟩
        have hl1 : (s.heap.push N).IsList l items := ⟨_, hol', rfl, nl, rfl⟩
        subst eN
        unfold Builtin.«set.__init__» noKeywords Builtin.Frozenset.updateFrom
        generalize hPI : pyIter = PI
        wp_walk
        subst hPI
        refine wpAny_pyIter_list hl1 ?_
        refine wpAny_bind (wpAny_runValue ?_)
        refine SKd.loop (D := D) ((Walks.list hh3 _ l (nI _) items).toS) s.heap.objs.size (nS _) ks hz hb hit (items.size - 0) 0 _ (by omega) (Nat.zero_le _) ⟨⟨_, Heap.get?_push_size _ rfl, rfl, rfl⟩, (hl1.push _)⟩ ?hS0 ?hR
        case hS0 =>
          exact SKd.fresh (Heap.get?_push_of_some _ hS)
        case hR =>
          intro s' hm hS'
          obtain ⟨h', g2, d', tk', os'⟩ := s'
          have eg : g2 = s.gens := hm.gens
          have ed : d' = s.drawn := hm.drawn
          have eo : os' = s.os := hm.os
          subst eg
          subst ed
          subst eo
          show wpAny _ _ _ _ _ _
          refine wpAny_pure ?_
          show wpAny _ _ (ret Value.none) _ _ _
          rw [hz] at hS'
          refine wpAny_pure ⟨rfl, h', tk', rfl, hS', fun b o e => ?_⟩
          have b0 : b < s.heap.objs.size := Heap.lt_size e
          refine hm.heap b o ?_ (Heap.get?_push_of_some _ (Heap.get?_push_of_some _ e))
          simp only [List.mem_cons, List.not_mem_nil, or_false, not_or]
          exact ⟨Nat.ne_of_lt b0, by rw [z1]; exact Nat.ne_of_lt (Nat.lt_succ_of_lt b0)⟩
      · cases r₂ with
        | error e => exact hr₂
        | ok fl₂ =>
          cases fl₂ with
          | ret r =>
            obtain ⟨rfl, h', tk, rfl, hS', hk'⟩ := hr₂
            repeat (any_goals (first | assumption | wp_step))
            exact h _ _ hS' hk'
          | _ => exact hr₂.elim
    | _ => exact hr.elim

/-! ### the order -/
def SKd.ltv (D : SKd P w K) (v u : Value) : Bool := D.lt (D.bk v) (D.bk u)
theorem SKd.swo (D : SKd P w K) : SrtO.Swo D.ltv := by
  refine ⟨fun x y h => ?_, fun x y z h1 h2 => ?_⟩
  · cases e : D.ltv y x with
    | false => rfl
    | true => exact absurd (D.tra _ _ _ h e) (by rw [D.irr]; simp)
  · cases e : D.ltv z x with
    | false => rfl
    | true =>
      have h1 : D.lt (D.bk y) (D.bk x) = false := h1
      have h2 : D.lt (D.bk z) (D.bk y) = false := h2
      have e : D.lt (D.bk z) (D.bk x) = true := e
      cases q : D.lt (D.bk x) (D.bk y) with
      | true => exact absurd (D.tra _ _ _ e q) (by rw [h2]; simp)
      | false =>
        rw [D.tri _ _ q h1] at e
        rw [h2] at e; cases e
theorem SKd.sortable {a : Addr} {vs : List Value} (hv : ∀ v ∈ vs, D.knd.is (D.bk v) v = true) (h2 : 2 ≤ vs.length) : SrtO.SortableO P w A s a vs D.ltv := by
  intro h' _
  refine ⟨oneType', fun Q E hq => ?_, fun p q hm hm' => ?_⟩
  · match vs, hv, h2 with
    | v1 :: v2 :: rest, hv, _ => rw [D.kin hv]; exact wpAny_pure hq
    | [], _, h => exact absurd h (by decide)
    | [v], _, h => exact absurd h (by simp)
  · show wpAny (model P w) A (keyLt' oneType' p.1 q.1) (fun r s' => s' = _ ∧ r = D.ltv p.1 q.1) (fun _ _ => False) _
    rw [keyLt'_oneType]
    exact D.one (hv _ hm) (hv _ hm') ⟨rfl, rfl⟩
theorem SKd.srtd {a : Addr} {S : K → Prop} {n : Nat} {Q : Value → Shared → Prop} (R : D.At s.heap a S n) (hh : A.handled = none)
    (hQ : ∀ s' p (out : Array Value) (c : Nat), (∀ b o, s.heap.get? b = some o → s'.heap.get? b = some o) → s'.gens = s.gens → s'.os = s.os → s.heap.objs.size ≤ p →
      s'.heap.get? p = some (seqObj "list" out c) → (∀ v ∈ out.toList, D.knd.is (D.bk v) v = true) → (out.toList.map D.bk).Pairwise (fun x y => D.lt x y = true) → (∀ k, k ∈ out.toList.map D.bk ↔ S k) → Q (.ref p) s') :
    wpAny (model P w) A (call (.builtin "sorted") [.ref a]) Q E s := by
  obtain ⟨o, es, ep, t, ⟨ho, hex, hd⟩, ⟨g, nd, hm⟩, ⟨hn, hb⟩, hf, hr, hl⟩ := R
  have hbs : es.size < scanBound := Nat.lt_of_le_of_lt hn hb
  refine Calls.call_function_entry kind_sorted plain_sorted entry_sorted (args_sorted1 _) ?_
  unfold Builtin.«sorted»
  refine wpAny_bind (m := checkCount "sorted" 1 1 _) (wpAny_pure ?_)
  refine wpAny_bind (collect_set (A := A.in1) hh ⟨o, ho, hex.1, hd⟩ hf hbs hr hl fun s1 vs k1 hz g1 o1 pm => ?_)
  have hvl : vs.length ≤ sizeLine := by
    rw [pm.length_eq, List.length_map, Array.length_toList]
    exact fits_of_scanBound hbs
  have hv : ∀ v ∈ vs, D.knd.is (D.bk v) v = true := fun v hv => by
    obtain ⟨e, he, rfl⟩ := List.mem_map.mp (pm.mem_iff.mp hv)
    exact (SKd.is_iff (g e he) _).2 rfl
  have pk : (vs.map D.bk).Perm (es.toList.map D.ky) := by
    have q := pm.map D.bk
    rw [List.map_map] at q
    exact q
  refine wpAny_bind (wpAny_newList ?_ hvl)
  have hoL : (s1.heap.push (seqObj "list" vs.toArray 0)).get? s1.heap.objs.size = some (seqObj "list" vs.toArray 0) := Heap.get?_push_size _ rfl
  refine wpAny_bind (wpAny_holding (wpAny_call_entry slot_list_sort ⟨_, hoL, rfl⟩ entry_list_sort (SrtO.list_sort_ord D.swo hoL hvl (fun h2 => SKd.sortable hv h2) fun out hs hb' => ⟨_, rfl, ?_⟩) (args_list_sort _)))
  obtain ⟨c, hc⟩ := sortedHeap_at (vs := vs) (out := out.toArray) hoL
  have pn : (out.map D.bk).Perm (es.toList.map D.ky) := (hb'.perm.map D.bk).trans pk
  refine wpAny_pure ⟨_, rfl, hQ _ s1.heap.objs.size out.toArray c (fun b u e => ?_) g1 o1 hz hc (fun v h => hv v (hb'.perm.mem_iff.mp (by simpa using h))) ?_ (fun k => ?_)⟩
  · have q := k1 b u e
    have hlt := Heap.lt_size q
    show (sortedHeap (s1.heap.push (seqObj "list" vs.toArray 0)) s1.heap.objs.size vs out.toArray).get? b = some u
    rw [sortedHeap_old (Nat.ne_of_lt hlt) (by rw [size_push']; exact Nat.lt_succ_of_lt hlt)]
    exact Heap.get?_push_of_some _ q
  · have nd' := pn.nodup_iff.mpr nd
    have hs' : (out.map D.bk).Pairwise fun x y => D.lt y x = false := List.pairwise_map.mpr hs
    show (out.map D.bk).Pairwise _
    refine (hs'.and nd').imp fun {x y} h => ?_
    cases q : D.lt x y with
    | true => rfl
    | false => exact absurd (D.tri _ _ q h.1) h.2
  · show k ∈ out.map D.bk ↔ S k
    rw [pn.mem_iff, ← hm k]

theorem SKd.mem_ins {k x : K} : ∀ {l : List K}, k ∈ insU D.lt x l ↔ k = x ∨ k ∈ l
  | [] => by simp [insU]
  | y :: ys => by
    unfold insU
    by_cases h1 : D.lt x y = true
    · rw [if_pos h1, List.mem_cons]
    · rw [if_neg h1]
      by_cases h2 : D.lt y x = true
      · rw [if_pos h2, List.mem_cons, SKd.mem_ins (l := ys), List.mem_cons]
        exact ⟨fun h => h.elim (fun h => .inr (.inl h)) fun h => h.elim .inl fun h => .inr (.inr h), fun h => h.elim (fun h => .inr (.inl h)) fun h => h.elim .inl fun h => .inr (.inr h)⟩
      · rw [if_neg h2]
        have e : x = y := D.tri _ _ (by simpa using h1) (by simpa using h2)
        subst e
        exact ⟨.inr, fun h => h.elim (fun h => h ▸ List.mem_cons_self) id⟩
theorem SKd.mem_sort {k : K} : ∀ {l : List K}, k ∈ sortU D.lt l ↔ k ∈ l
  | [] => by simp [sortU]
  | x :: l => by rw [sortU, SKd.mem_ins, SKd.mem_sort, List.mem_cons]
theorem SKd.ins_up {x : K} : ∀ {l : List K}, l.Pairwise (fun a b => D.lt a b = true) → (insU D.lt x l).Pairwise fun a b => D.lt a b = true
  | [], _ => List.pairwise_singleton _ _
  | y :: ys, h => by
    obtain ⟨a, b⟩ := List.pairwise_cons.mp h
    unfold insU
    by_cases h1 : D.lt x y = true
    · rw [if_pos h1]
      refine List.pairwise_cons.mpr ⟨fun z hz => ?_, h⟩
      rcases List.mem_cons.mp hz with rfl | hz
      · exact h1
      · exact D.tra _ _ _ h1 (a z hz)
    · rw [if_neg h1]
      by_cases h2 : D.lt y x = true
      · rw [if_pos h2]
        refine List.pairwise_cons.mpr ⟨fun z hz => ?_, SKd.ins_up b⟩
        rcases SKd.mem_ins.mp hz with rfl | hz
        · exact h2
        · exact a z hz
      · rw [if_neg h2]; exact h
theorem SKd.sort_up : ∀ {l : List K}, (sortU D.lt l).Pairwise fun a b => D.lt a b = true
  | [] => List.Pairwise.nil
  | x :: l => SKd.ins_up SKd.sort_up
theorem SKd.uniq : ∀ {l m : List K}, l.Pairwise (fun a b => D.lt a b = true) → m.Pairwise (fun a b => D.lt a b = true) → (∀ k, k ∈ l ↔ k ∈ m) → l = m
  | [], [], _, _, _ => rfl
  | [], y :: m, _, _, h => absurd ((h y).2 List.mem_cons_self) (by simp)
  | x :: l, [], _, _, h => absurd ((h x).1 List.mem_cons_self) (by simp)
  | x :: l, y :: m, h1, h2, h => by
    obtain ⟨a1, a2⟩ := List.pairwise_cons.mp h1
    obtain ⟨b1, b2⟩ := List.pairwise_cons.mp h2
    have no : ∀ k, D.lt k k = true → False := fun k q => by rw [D.irr] at q; cases q
    have e : x = y := by
      rcases List.mem_cons.mp ((h x).1 List.mem_cons_self) with e | hx
      · exact e
      · rcases List.mem_cons.mp ((h y).2 List.mem_cons_self) with e | hy
        · exact e.symm
        · exact (no x (D.tra _ _ _ (a1 y hy) (b1 x hx))).elim
    subst e
    rw [SKd.uniq a2 b2 fun k => ⟨fun hk => ?_, fun hk => ?_⟩]
    · rcases List.mem_cons.mp ((h k).1 (List.mem_cons_of_mem _ hk)) with e | q
      · subst e; exact (no _ (a1 _ hk)).elim
      · exact q
    · rcases List.mem_cons.mp ((h k).2 (List.mem_cons_of_mem _ hk)) with e | q
      · subst e; exact (no _ (b1 _ hk)).elim
      · exact q
end
end VM
/-! sorted(set(xs)) as a word of the VM. -/
namespace VM
open PySem PySem.Spec L2 PyProof.Rows
def kInt (P : Program) (w : World) : SKd P w Int where
  knd := PySem.intKind P w
  bk := fun v => match v with | .int k _ => k | _ => 0
  toV := V.int
  back := fun {k v} h => by obtain ⟨t, rfl⟩ := Value.isInt_shape (k := k) h; rfl
  scn := fun {k v} h => by obtain ⟨t, rfl⟩ := Value.isInt_shape (k := k) h; rfl
  rel := fun {k v} => ⟨fun h => Value.isInt_shape (k := k) h, fun ⟨t, h⟩ => by rw [h]; exact intKind_is P w k t⟩
  lt := fun a b => decide (a < b)
  irr := fun a => by simp
  tra := fun a b c h1 h2 => by simp only [decide_eq_true_eq] at *; omega
  tri := fun a b h1 h2 => by simp only [decide_eq_false_iff_not] at *; omega
  one := fun {A E s a b u v Q} hu hv h => by
    obtain ⟨t, rfl⟩ := Value.isInt_shape (k := a) hu
    obtain ⟨t', rfl⟩ := Value.isInt_shape (k := b) hv
    exact oneLt_int h
  kin := fun {v1 v2 vs} h => by
    refine keyKind_ints (ns := (v1 :: v2 :: vs).map SrtO.iv) (SrtO.ints_iv fun v hv => ?_)
    obtain ⟨t, e⟩ := Value.isInt_shape (h v hv)
    exact ⟨_, t, e⟩
def ltS (a b : Str) : Bool := decide (a.cps.toList < b.cps.toList)
def kStr (P : Program) (w : World) : SKd P w Str where
  knd := PySem.strKind P w
  bk := PyProof.Rows.strOf
  toV := V.str
  back := fun {k v} h => by obtain ⟨t, rfl⟩ := Value.isStrOf_shape (x := k) h; rfl
  scn := fun {k v} h => by obtain ⟨t, rfl⟩ := Value.isStrOf_shape (x := k) h; rfl
  rel := fun {k v} => ⟨fun h => Value.isStrOf_shape (x := k) h, fun ⟨t, h⟩ => by rw [h]; exact strKind_is P w k t⟩
  lt := ltS
  irr := fun a => PyProof.Rows.strKind.irrefl a.cps.toList
  tra := fun a b c h1 h2 => PyProof.Rows.strKind.trans a.cps.toList b.cps.toList c.cps.toList h1 h2
  tri := fun a b h1 h2 => by
    have e : a.cps.toList = b.cps.toList := PyProof.Rows.strKind.total a.cps.toList b.cps.toList h1 h2
    cases a; cases b
    exact congrArg Str.mk (Array.toList_inj.mp e)
  one := fun {A E s a b u v Q} hu hv h => by
    obtain ⟨t, rfl⟩ := Value.isStrOf_shape (x := a) hu
    obtain ⟨t', rfl⟩ := Value.isStrOf_shape (x := b) hv
    exact oneLt_str h
  kin := fun {v1 v2 vs} h => by
    refine keyKind_strs (ss := (v1 :: v2 :: vs).map PyProof.Rows.strOf) (strsAre_map _ fun v hv => ?_)
    obtain ⟨t, e⟩ := Value.isStrOf_shape (h v hv)
    exact ⟨_, t, e⟩
def ltI (a b : Int) : Bool := decide (a < b)

def rSS (K : PySem.W.Frag) : List V → Hp → VK → Prop := fun vs H Q => ∃ a, vs = [V.ref a] ∧
  ((∃ ks : List Int, SqL K H a (ks.map V.int) ∧ ks.length < 4000 ∧ ∀ p, H p = none → Q (.ref p) (upd H p (.lst ((sortU ltI ks).map V.int)))) ∨
   (∃ ks : List Str, SqL K H a (ks.map V.str) ∧ ks.length < 4000 ∧ ∀ p, H p = none → Q (.ref p) (upd H p (.lst ((sortU ltS ks).map V.str)))))
section
variable {X : Cx} {pins : List (Addr × Obj)} {σ : L2.St} {H : Hp} {s : Shared} {K : Type} [DecidableEq K]
theorem vals_keys (D : SKd X.prog X.w K) : ∀ {out : List Value}, (∀ v ∈ out, D.knd.is (D.bk v) v = true) → Vals ((out.map D.bk).map D.toV) out
  | [], _ => .nil
  | v :: out, h => .cons (D.rel.mp (h v List.mem_cons_self)) (vals_keys D fun u hu => h u (List.mem_cons_of_mem _ hu))
theorem keys_at (D : SKd X.prog X.w K) : ∀ {ks : List K} {us : List Value}, Vals (ks.map D.toV) us → ∀ (i : Nat) (v : Value), us[i]? = some v → ∃ k, ks[i]? = some k ∧ D.knd.is k v = true
  | [], _, .nil, i, v, h => by simp at h
  | k :: ks, _, .cons r t, 0, v, h => by simp at h; subst h; exact ⟨k, rfl, D.rel.mpr r⟩
  | k :: ks, _, .cons r t, i + 1, v, h => by simpa using keys_at D t i v (by simpa using h)
theorem len_ins {lt : K → K → Bool} {x : K} : ∀ {l : List K}, (insU lt x l).length ≤ l.length + 1
  | [] => by simp [insU]
  | y :: ys => by
    unfold insU
    split
    · simp
    · split
      · have := len_ins (lt := lt) (x := x) (l := ys); simp; omega
      · simp
theorem len_sort {lt : K → K → Bool} : ∀ {l : List K}, (sortU lt l).length ≤ l.length
  | [] => by simp [sortU]
  | x :: l => by
    have h1 := len_ins (lt := lt) (x := x) (l := sortU lt l)
    have h2 := len_sort (lt := lt) (l := l)
    rw [sortU, List.length_cons]; omega
/-- both calls -/
theorem sset_go (D : SKd X.prog X.w K) {a : Addr} {ks : List K} {Q : VK} {pos : Pos} (hc : X.calm = true) (I : Inv X pins σ H s) (hq : SqL X.K H a (ks.map D.toV)) (hl : ks.length < 4000)
    (q : ∀ p, H p = none → Q (.ref p) (upd H p (.lst ((sortU D.lt ks).map D.toV)))) :
    wpAny (model X.prog X.w) X.A (call (.type "set") [.ref a]) (fun v z => wpAny (model X.prog X.w) X.A (spliced (backTo pos (starEach [] X.env))) (fun vs z' => wpAny (model X.prog X.w) X.A (call (.builtin "sorted") (v :: vs)) (EP X pins σ Q) X.xe z') X.xe z) X.xe s := by
  obtain ⟨its, r, pl, hz⟩ := I.list hq
  refine SKd.make (D := D) ks (I.ok.hd hc) pl.isList (fun i v h => keys_at D r i v (by simpa using h)) (by rw [List.size_toArray, ← r.length, List.length_map]) (by unfold scanBound; omega) fun h' tk hS hk => ?_
  refine PyProof.Rows.args_nil ?_
  have I2 : Inv X pins σ H { s with heap := h', toks := tk } := I.kept hk
  refine SKd.srtd hS (I2.ok.hd hc) fun s' p out c k g o hp hg hv hs hm => ?_
  have e : out.toList.map D.bk = sortU D.lt ks := SKd.uniq (D := D) hs SKd.sort_up fun j => (hm j).trans (SKd.mem_sort (D := D)).symm
  have rv := vals_keys D hv
  rw [e] at rv
  have hlen : ((sortU D.lt ks).map D.toV).length ≤ sizeLine := by
    have := len_sort (lt := D.lt) (l := ks)
    rw [List.length_map, sizeLine_eq]; omega
  have hn : H p = none := I2.hok.fresh hp
  have J : Inv X pins σ (upd H p (.lst ((sortU D.lt ks).map D.toV))) s' := I2.call' (ch := []) o (Un.laid k hp hn) (I2.hok.laid k hp ⟨hlen, out.toList, c, rv, hg⟩) (by rw [g]; exact I2.bare) (fun _ z => nomatch z)
  exact ⟨.ref p, _, J, rfl, q p hn⟩
theorem pe_sset {e : Expr} {ta : TA} {p p2 q pos : Pos} (hc : X.calm = true) (hg : Gl X "sorted") (hm : X.mg "sorted" = none) (hg2 : Gl X "set") (hm2 : X.mg "set" = none) (ha : PA X [e] ta)
    (na : starEach [e] X.env = (false, eval e X.env) :: starEach [] X.env := by rfl) : PE X (.Call (.Name "sorted" p) [.Call (.Name "set" p2) [e] [] q] [] pos) (tCB (rSS X.K) ta) := by
  refine ⟨fun pins s σ H Q I h => ?_⟩
  refine Call_ (ld_blt I hg hm boot_sorted ?_)
  refine PyProof.Rows.callWith_builtin1 (PyProof.Rows.args_cons ?_ rfl) rfl rfl
  refine Call_ (ld_blt I hg2 hm2 boot_set ?_)
  refine PyProof.Rows.callWith_type1 (thn (ha.run q pins s σ H _ I h) fun us s1 ⟨vs, H1, I1, r1, q1⟩ => ?_) na rfl
  obtain ⟨a, rfl, q1⟩ := q1
  rw [Vals.ref1 r1]
  rcases q1 with ⟨ks, hq, hl, q⟩ | ⟨ks, hq, hl, q⟩
  · exact sset_go (kInt X.prog X.w) hc I1 hq hl q
  · exact sset_go (kStr X.prog X.w) hc I1 hq hl q
end
/-! on trees -/
def strsD : List D → Option (List Str)
  | [] => some []
  | .str i :: ds => (strsD ds).map (i :: ·)
  | _ :: _ => none
theorem strsD_eq : ∀ {ds : List D} {ns : List Str}, strsD ds = some ns → ds = ns.map .str
  | [], ns, h => by cases h; rfl
  | d :: ds, ns, h => by
    cases d <;> simp only [strsD, reduceCtorEq] at h
    cases e : strsD ds with
    | none => rw [e] at h; cases h
    | some m =>
      rw [e] at h
      cases h
      rw [strsD_eq e]; rfl
def fSset : List D → Option EV
  | [.lst ds] => if ds.length < 4000 then (match intsD ds with
    | some ns => some (.new (.lst ((sortU ltI ns).map .int)))
    | none => (strsD ds).map fun ns => .new (.lst ((sortU ltS ns).map .str))) else none
  | _ => none
section
variable {K : PySem.W.Frag} {L : Addr → Prop} {H : Hp}
theorem reps_flat {κ : Type} {f : κ → D} {g : κ → V} (hf : ∀ k v, Rep K L H (f k) v → v = g k) : ∀ {ks : List κ} {vs : List V}, Reps K L H (ks.map f) vs → vs = ks.map g
  | [], vs, r => r.invN
  | k :: ks, vs, r => by
    obtain ⟨v, rs, rfl, h1, h2⟩ := r.inv
    rw [List.map_cons, reps_flat hf h2, hf k v h1]
theorem flat_reps {κ : Type} {f : κ → D} {g : κ → V} (hf : ∀ k, Rep K L H (f k) (g k)) : ∀ ks : List κ, Reps K L H (ks.map f) (ks.map g)
  | [] => Reps.nil
  | k :: ks => Reps.cons (hf k) (flat_reps hf ks)
end
theorem on_sset {K : PySem.W.Frag} : OpN K fSset (rSS K) := by
  intro Acc ι μ H ds xs e Q S r h q
  cases ds with
  | nil => cases h
  | cons d t =>
    cases t with
    | cons _ _ => cases d <;> cases h
    | nil =>
      obtain ⟨v, rs, rfl, h1, h2⟩ := r
      have h2 : rs = [] := h2
      subst h2
      cases d <;> try (cases h; done)
      rename_i ds
      obtain ⟨a, vs, rfl, tp, rp⟩ := seeL h1
      simp only [fSset] at h
      split at h
      case isFalse => cases h
      case isTrue hz =>
        have fi : ∀ (k : Int) v, Rep K (Liv Acc μ ι) H (.int k) v → v = V.int k := fun k v r => by simpa only [Rep] using r
        have fs : ∀ (k : Str) v, Rep K (Liv Acc μ ι) H (.str k) v → v = V.str k := fun k v r => by simpa only [Rep] using r
        refine ⟨a, rfl, ?_⟩
        cases hT : intsD ds with
        | some ns =>
          rw [hT] at h
          cases h
          have ed := intsD_eq hT
          subst ed
          have ev := reps_flat fi rp
          subst ev
          refine .inl ⟨ns, SqL.of tp, by simpa using hz, fun p np => ?_⟩
          have rr : Reps K (Liv Acc μ ι) H ((sortU ltI ns).map D.int) ((sortU ltI ns).map V.int) := flat_reps (fun k => by simp only [Rep]) _
          exact q (.ref p) _ (S.up np _) ⟨⟨p, rfl, np, S.newL np rr⟩, S.ownN np rr⟩
        | none =>
          rw [hT] at h
          simp only at h
          cases hS : strsD ds with
          | none => rw [hS] at h; cases h
          | some ns =>
            rw [hS] at h
            cases h
            have ed := strsD_eq hS
            subst ed
            have ev := reps_flat fs rp
            subst ev
            refine .inr ⟨ns, SqL.of tp, by simpa using hz, fun p np => ?_⟩
            have rr : Reps K (Liv Acc μ ι) H ((sortU ltS ns).map D.str) ((sortU ltS ns).map V.str) := flat_reps (fun k => by simp only [Rep]) _
            exact q (.ref p) _ (S.up np _) ⟨⟨p, rfl, np, S.newL np rr⟩, S.ownN np rr⟩
section
variable {X : Cx} {XC : Nat → Addr} {F : Fns} {W : WX} {e : Expr} {fs : SA} {p p2 q pos : Pos}
theorem w_sset (hm : X.mg "sorted" = none) (hm2 : X.mg "set" = none) (ha : PA X [e] (rdA X.K XC F W fs)) (hc : X.calm = true := by rfl) (hg : Gl X "sorted" := by rfl) (hg2 : Gl X "set" := by rfl)
    (na : starEach [e] X.env = (false, eval e X.env) :: starEach [] X.env := by rfl) : PE X (.Call (.Name "sorted" p) [.Call (.Name "set" p2) [e] [] q] [] pos) (rdE X.K XC F W (eCb fSset fs)) :=
  PEimp (pe_sset hc hg hm hg2 hm2 ha na) fun _ _ _ h => callN_ok on_sset h
end
end VM
/-! list(zip(a, b)), a and b tuples: the machine's steps. -/
namespace VM
open PySem PySem.Spec L2 PyProof.Rows
section
variable {prog : Program} {w : World} {A : Around} {E : Value → Shared → Prop} {s : Shared}
theorem zt_item {z TI TO T i1 i2 l1 l2 : Addr} {f : Bool} {oT : Obj} {k1 k2 : Nat} {xs ys : Array Value} {x y : Value} {Q : Value → Shared → Prop} (D : ZipApart z TI TO i1 i2 l1 l2)
    (hz : IsZipHeld s.heap z TI TO T f) (hT : s.heap.get? T = some oT) (hTI : IsPair s.heap TI (.ref i1) (.ref i2)) (h1 : s.heap.IsTupleIter i1 l1 k1) (h2 : s.heap.IsTupleIter i2 l2 k2)
    (hl1 : s.heap.IsTuple l1 xs) (hl2 : s.heap.IsTuple l2 ys) (hx : xs[k1]? = some x) (hy : ys[k2]? = some y)
    (hQ : ∀ h', IsZipHeld h' z TI TO T true → h'.IsTupleIter i1 l1 (k1 + 1) → h'.IsTupleIter i2 l2 (k2 + 1) → IsPair h' s.heap.objs.size x y → h'.objs.size = s.heap.objs.size + 1 →
      (∀ c o, c ≠ z → c ≠ i1 → c ≠ i2 → s.heap.get? c = some o → h'.get? c = some o) → Q (.ref s.heap.objs.size) { s with heap := h' }) :
    wpAny (model prog w) A (Builtin.«zip.__next__» ⟨[.ref z], []⟩) (fun fin s' => ∃ v, fin = .done (.ret v) ∧ Q v s') E s := by
  show wpAny _ _ (field (.ref z) 2 >>= _) _ _ _
  refine wpAny_bind (wpAny_field hz rfl (x := .bool false) rfl ?_)
  show wpAny _ _ (field (.ref z) 3 >>= _) _ _ _
  refine wpAny_bind (wpAny_field hz rfl (x := .ref TI) rfl (wpAny_bind (wpAny_seqItems hTI rfl ?_)))
  show wpAny _ _ (Builtin.SmallTypes.ownedTupleIsFree (.ref z) >>= _) _ _ _
  refine wpAny_bind (wpAny_tupleHeld_zip hz hT fun g1 z1 b1 => ?_)
  simp only [Bool.false_eq_true, if_false]
  refine wpAny_bind ?_
  rw [← Array.forIn_toList]
  simp only [List.forIn_cons, List.forIn_nil]
  refine wpAny_bind (wpAny_bind (wpAny_holding ?_))
  show wpAny _ _ (Builtin.SmallTypes.nextOf (.ref i1) >>= _) _ _ _
  refine wpAny_bind (RZ.nextOf_tuple_item (s := { s with heap := g1 }) (h1.extBut b1.extBut D.i1z) (hl1.extBut b1.extBut D.l1z) hx fun g2 j1 b2 => wpAny_pure (wpAny_pure ?_))
  refine wpAny_bind (wpAny_bind (wpAny_holding ?_))
  show wpAny _ _ (Builtin.SmallTypes.nextOf (.ref i2) >>= _) _ _ _
  refine wpAny_bind (RZ.nextOf_tuple_item (s := { s with heap := g2 }) ((h2.extBut b1.extBut D.i2z).extBut b2.extBut D.i12.symm) ((hl2.extBut b1.extBut D.l2z).extBut b2.extBut D.l2i1) hy fun g3 j2 b3 => wpAny_pure (wpAny_pure (wpAny_pure ?_)))
  show wpAny _ _ (newTuple [x, y] >>= _) _ _ _
  refine wpAny_bind (wpAny_newTuple ?_)
  have sz : g3.objs.size = s.heap.objs.size := by rw [b3.1, b2.1, b1.1]
  have z3 : IsZipHeld g3 z TI TO T true := b3.extBut _ _ D.i2z.symm (b2.extBut _ _ D.i1z.symm z1)
  have kp : ∀ c o, c ≠ z → c ≠ i1 → c ≠ i2 → s.heap.get? c = some o → g3.get? c = some o := fun c o c1 c2 c3 e => b3.extBut _ _ c3 (b2.extBut _ _ c2 (b1.extBut _ _ c1 e))
  have j1' : g3.IsTupleIter i1 l1 (k1 + 1) := j1.extBut b3.extBut D.i12
  refine wpAny_pure ⟨_, rfl, ?_⟩
  show Q (.ref g3.objs.size) _
  have hp : IsPair (g3.push { cls := .type "tuple", data := .seq #[x, y] }) g3.objs.size x y := Heap.get?_push_size _ rfl
  have s4 : (g3.push { cls := .type "tuple", data := .seq #[x, y] }).objs.size = g3.objs.size + 1 := Heap.size_push ..
  rw [sz] at hp s4 ⊢
  exact hQ _ (Heap.get?_push_of_some _ z3) (j1'.at fun o e => Heap.get?_push_of_some _ e) (j2.at fun o e => Heap.get?_push_of_some _ e) hp s4 fun c o c1 c2 c3 e => Heap.get?_push_of_some _ (kp c o c1 c2 c3 e)

theorem zt_end {z TI TO T i1 i2 l1 l2 : Addr} {f : Bool} {oT : Obj} {k1 k2 : Nat} {xs ys : Array Value} {Q : Fin → Shared → Prop} (hh : A.handled = none) (D : ZipApart z TI TO i1 i2 l1 l2)
    (hz : IsZipHeld s.heap z TI TO T f) (hT : s.heap.get? T = some oT) (hTI : IsPair s.heap TI (.ref i1) (.ref i2)) (h1 : s.heap.IsTupleIter i1 l1 k1) (hl1 : s.heap.IsTuple l1 xs) (hx : xs[k1]? = none)
    (hE : ∀ h' e, (∀ c o, c ≠ z → c ≠ i1 → s.heap.get? c = some o → h'.get? c = some o) → (∃ o, h'.get? e = some o ∧ o.cls = .type "StopIteration") → E (.ref e) { s with heap := h' }) :
    wpAny (model prog w) A (Builtin.«zip.__next__» ⟨[.ref z], []⟩) Q E s := by
  show wpAny _ _ (field (.ref z) 2 >>= _) _ _ _
  refine wpAny_bind (wpAny_field hz rfl (x := .bool false) rfl ?_)
  show wpAny _ _ (field (.ref z) 3 >>= _) _ _ _
  refine wpAny_bind (wpAny_field hz rfl (x := .ref TI) rfl (wpAny_bind (wpAny_seqItems hTI rfl ?_)))
  show wpAny _ _ (Builtin.SmallTypes.ownedTupleIsFree (.ref z) >>= _) _ _ _
  refine wpAny_bind (wpAny_tupleHeld_zip hz hT fun g1 z1 b1 => ?_)
  simp only [Bool.false_eq_true, if_false]
  refine wpAny_bind ?_
  rw [← Array.forIn_toList]
  simp only [List.forIn_cons, List.forIn_nil]
  refine wpAny_bind (wpAny_bind (wpAny_holding ?_))
  show wpAny _ _ (Builtin.SmallTypes.nextOf (.ref i1) >>= _) _ _ _
  refine wpAny_bind (RZ.nextOf_tuple_end (s := { s with heap := g1 }) hh (h1.extBut b1.extBut D.i1z) (hl1.extBut b1.extBut D.l1z) hx fun g2 e b2 he => ?_)
  exact hE g2 e (fun c o c1 c2 q => b2 _ _ c2 (b1.extBut _ _ c1 q)) he

theorem zt_nextI {z TI TO T i1 i2 l1 l2 : Addr} {f : Bool} {oT : Obj} {k1 k2 : Nat} {xs ys : Array Value} {x y : Value} {Q : Option Value → Shared → Prop} (D : ZipApart z TI TO i1 i2 l1 l2)
    (hz : IsZipHeld s.heap z TI TO T f) (hT : s.heap.get? T = some oT) (hTI : IsPair s.heap TI (.ref i1) (.ref i2)) (h1 : s.heap.IsTupleIter i1 l1 k1) (h2 : s.heap.IsTupleIter i2 l2 k2)
    (hl1 : s.heap.IsTuple l1 xs) (hl2 : s.heap.IsTuple l2 ys) (hx : xs[k1]? = some x) (hy : ys[k2]? = some y)
    (hQ : ∀ h', IsZipHeld h' z TI TO T true → h'.IsTupleIter i1 l1 (k1 + 1) → h'.IsTupleIter i2 l2 (k2 + 1) → IsPair h' s.heap.objs.size x y → h'.objs.size = s.heap.objs.size + 1 →
      (∀ c o, c ≠ z → c ≠ i1 → c ≠ i2 → s.heap.get? c = some o → h'.get? c = some o) → Q (some (.ref s.heap.objs.size)) { s with heap := h' }) : wpAny (model prog w) A (pyNext (.ref z)) Q E s := by
  have ty : s.TypeIs (.ref z) "zip" := ⟨_, hz, rfl⟩
  unfold pyNext
  exact wpAny_bind (wpAny_attempt (wpAny_callSpecial?_slot (name := Str.ofString "__next__") ty F.slot_zip_next (wpAny_call_entry F.slot_zip_next ty F.entry_zip_next
    (zt_item D hz hT hTI h1 h2 hl1 hl2 hx hy fun h' a1 a3 a4 a5 a6 a7 => wpAny_pure (hQ h' a1 a3 a4 a5 a6 a7)) (F.args_zip_next_1 _))))
theorem zt_nextE {z TI TO T i1 i2 l1 l2 : Addr} {f : Bool} {oT : Obj} {k1 k2 : Nat} {xs ys : Array Value} {Q : Option Value → Shared → Prop} (hh : A.handled = none) (D : ZipApart z TI TO i1 i2 l1 l2)
    (hz : IsZipHeld s.heap z TI TO T f) (hT : s.heap.get? T = some oT) (hTI : IsPair s.heap TI (.ref i1) (.ref i2)) (h1 : s.heap.IsTupleIter i1 l1 k1) (hl1 : s.heap.IsTuple l1 xs) (hx : xs[k1]? = none)
    (hQ : ∀ h', (∀ c o, c ≠ z → c ≠ i1 → s.heap.get? c = some o → h'.get? c = some o) → Q none { s with heap := h' }) : wpAny (model prog w) A (pyNext (.ref z)) Q E s := by
  have ty : s.TypeIs (.ref z) "zip" := ⟨_, hz, rfl⟩
  unfold pyNext
  refine wpAny_bind (wpAny_attempt (wpAny_callSpecial?_slot (name := Str.ofString "__next__") ty F.slot_zip_next (wpAny_call_entry F.slot_zip_next ty F.entry_zip_next
    (zt_end (ys := ys) (k2 := k2) (i2 := i2) (l2 := l2) hh D hz hT hTI h1 hl1 hx fun h' e hk he => ?_) (F.args_zip_next_1 _))))
  obtain ⟨o, ho, hc⟩ := he
  exact wpAny_bind (wpAny_isInstance (T := "StopIteration") (b := true) ⟨o, ho, hc⟩ isSubtype_stop (wpAny_pure (hQ _ hk)))

theorem far {a b N : Nat} (h1 : a < N) (h2 : N ≤ b) : b ≠ a := fun e => absurd h1 (Nat.not_lt_of_le (e ▸ h2))
/-- the zip's own objects, i pairs on -/
structure Zs (h : Heap) (z TI TO i1 i2 l1 l2 : Addr) (xs ys : Array Value) (N0 i : Nat) : Prop where
  ti : IsPair h TI (.ref i1) (.ref i2)
  a : h.IsTupleIter i1 l1 i
  b : h.IsTupleIter i2 l2 i
  la : h.IsTuple l1 xs
  lb : h.IsTuple l2 ys
  out : (IsZip h z TI TO .none ∧ ∃ p q, IsPair h TO p q) ∨ ∃ T f oT, IsZipHeld h z TI TO T f ∧ h.get? T = some oT ∧ N0 ≤ T
structure Zl (h : Heap) (xs ys : Array Value) (N0 : Nat) (ts : List Addr) : Prop where
  up : ts.Pairwise (· < ·)
  at' : ∀ T ∈ ts, N0 ≤ T ∧ T < h.objs.size
  pr : ∀ (j : Nat) (T : Addr), ts[j]? = some T → ∃ x y, xs[j]? = some x ∧ ys[j]? = some y ∧ IsPair h T x y
theorem zt_loop {z TI TO i1 i2 l1 l2 S : Addr} {xs ys : Array Value} {N0 : Nat} {res : Value} {R : Result → Shared → Prop} (hh : A.in1.handled = none) (D : ZipApart z TI TO i1 i2 l1 l2)
    (nS : S ≠ z ∧ S ≠ TI ∧ S ≠ TO ∧ S ≠ i1 ∧ S ≠ i2 ∧ S ≠ l1 ∧ S ≠ l2) (lo : z < N0 ∧ TI < N0 ∧ TO < N0 ∧ i1 < N0 ∧ i2 < N0 ∧ S < N0) (hsz : xs.size = ys.size) (hn : xs.size ≤ 1000000) :
    ∀ (k i : Nat) (s : Shared) (ts : List Addr) (c : Nat), xs.size - i = k → i ≤ xs.size → Zs s.heap z TI TO i1 i2 l1 l2 xs ys N0 i → s.heap.get? S = some { cls := .type "list", data := .seq (ts.map Value.ref).toArray c } → ts.length = i → N0 ≤ s.heap.objs.size → Zl s.heap xs ys N0 ts →
      (∀ h' ts' c', ts'.length = xs.size → Zl h' xs ys N0 ts' → h'.get? S = some { cls := .type "list", data := .seq (ts'.map Value.ref).toArray c' } → (∀ b o, b < N0 → b ≠ S → b ≠ z → b ≠ TO → b ≠ i1 → b ≠ i2 → s.heap.get? b = some o → h'.get? b = some o) → R (.ok (.ret res)) { s with heap := h' }) →
      codeAny (model prog w) A (.builtin "list.extend.loop" ⟨[.ref S, .ref z, res], []⟩) R s := by
  obtain ⟨nz, nTI, nTO, n1, n2, nl1, nl2⟩ := nS
  obtain ⟨oz, oTI, oTO, o1, o2, oS⟩ := lo
  intro k
  induction k with
  | zero =>
    intro i s ts c hk hi Z hS hl hN L hR
    have hin : i = xs.size := by omega
    refine codeAny_builtin F.entry_extend_loop ?_
    rw [Around.under_plainId F.plain_extend_loop _]
    show wpAny _ A.in1 (pyNext (.ref z) >>= _) _ _ s
    have ex : xs[i]? = none := Array.getElem?_eq_none (by omega)
    have fin : ∀ h' : Heap, (∀ c o, c ≠ z → c ≠ TO → c ≠ i1 → c ≠ i2 → s.heap.get? c = some o → h'.get? c = some o) → R (.ok (.ret res)) { s with heap := h' } := fun h' hk' => by
      refine hR h' ts c (by omega) ⟨L.up, fun T hT => ?_, fun j T hj => ?_⟩ (hk' _ _ nz nTO n1 n2 hS) fun b o _ _ b1 b2 b3 b4 e => hk' b o b1 b2 b3 b4 e
      · obtain ⟨q1, q2⟩ := L.at' T hT
        obtain ⟨j, hj⟩ := List.getElem?_of_mem hT
        obtain ⟨x, y, _, _, p⟩ := L.pr j T hj
        exact ⟨q1, Heap.lt_size (hk' _ _ (far oz q1) (far oTO q1) (far o1 q1) (far o2 q1) p)⟩
      · obtain ⟨x, y, ex, ey, p⟩ := L.pr j T hj
        have q1 := (L.at' T (List.mem_of_getElem? hj)).1
        exact ⟨x, y, ex, ey, hk' _ _ (far oz q1) (far oTO q1) (far o1 q1) (far o2 q1) p⟩
    rcases Z.out with ⟨hz, p, q, hTO⟩ | ⟨T, f, oT, hz, hT, hTN⟩
    · exact wpAny_bind (RZ.pyNext_zipT_end hh D hz Z.ti hTO Z.a Z.b Z.la Z.lb (.inl ex) fun h' hk' => wpAny_pure (fin h' hk'))
    · exact wpAny_bind (zt_nextE (ys := ys) (k2 := i) hh D hz hT Z.ti Z.a Z.la ex fun h' hk' => wpAny_pure (fin h' fun c o c1 _ c3 _ e => hk' c o c1 c3 e))
  | succ k ih =>
    intro i s ts c hk hi Z hS hl hN L hR
    have hlt : i < xs.size := by omega
    have hlt2 : i < ys.size := by omega
    have ex := Array.getElem?_eq_getElem hlt
    have ey := Array.getElem?_eq_getElem hlt2
    refine codeAny_builtin F.entry_extend_loop ?_
    rw [Around.under_plainId F.plain_extend_loop _]
    show wpAny _ A.in1 (pyNext (.ref z) >>= _) _ _ s
    have go : ∀ h' : Heap, IsPair h' s.heap.objs.size xs[i] ys[i] → h'.objs.size = s.heap.objs.size + 1 → (∀ c o, c ≠ z → c ≠ TO → c ≠ i1 → c ≠ i2 → s.heap.get? c = some o → h'.get? c = some o) → h'.IsTupleIter i1 l1 (i + 1) → h'.IsTupleIter i2 l2 (i + 1) →
        (∃ T f oT, IsZipHeld h' z TI TO T f ∧ h'.get? T = some oT ∧ N0 ≤ T) →
        wpAny (model prog w) A.in1 (updateSeq S (·.push (.ref s.heap.objs.size)) >>= fun _ => again (.builtin "list.extend.loop" ⟨[.ref S, .ref z, res], []⟩)) (fun fin s' => match fin with | .done f => R (.ok f) s' | .again c' => c'.quiet = true ∧ codeAny (model prog w) A c' R s') (fun e s' => R (.error e) s') { s with heap := h' } := fun h' hp hs kp a1 a2 hz => by
      have hS' := kp _ _ nz nTO n1 n2 hS
      have lt : ts.length < xs.size := by omega
      refine wpAny_bind (wpAny_updateSeq hS' rfl (wpAny_pure ⟨plainId_quiet F.plain_extend_loop _, ?_⟩) (by rw [List.size_toArray, List.length_map, sizeLine_eq]; omega) (by show ((ts.map Value.ref).toArray.push _).size ≤ sizeLine + 1; rw [Array.size_push, List.size_toArray, List.length_map, sizeLine_eq]; omega))
      have oth : ∀ b o, b ≠ S → h'.get? b = some o → (h'.update S (Obj.mapSeq (·.push (.ref s.heap.objs.size)))).get? b = some o := fun b o hb e => (Heap.get?_update_other _ _ (Ne.symm hb)).trans e
      have nt : IsPair (h'.update S (Obj.mapSeq (·.push (.ref s.heap.objs.size)))) s.heap.objs.size xs[i] ys[i] := oth _ _ (far oS hN) hp
      refine ih (i + 1) { s with heap := h'.update S (Obj.mapSeq (·.push (.ref s.heap.objs.size))) } (ts ++ [s.heap.objs.size]) (c + 1) (by omega) hlt
        ⟨oth _ _ (Ne.symm nTI) (kp _ _ D.TIz D.TITO D.TIi1 D.TIi2 Z.ti), a1.at fun o e => oth _ o (Ne.symm n1) e, a2.at fun o e => oth _ o (Ne.symm n2) e, Z.la.at fun o e => oth _ o (Ne.symm nl1) (kp _ o D.l1z D.l1TO D.l1i1 D.l1i2 e), Z.lb.at fun o e => oth _ o (Ne.symm nl2) (kp _ o D.l2z D.l2TO D.l2i1 D.l2i2 e), ?_⟩
        ?_ (by rw [List.length_append, hl]; rfl) (by show N0 ≤ (Heap.update _ _ _).objs.size; rw [Heap.size_update, hs]; omega) ⟨?_, fun T hT => ?_, fun j T hj => ?_⟩ fun h2 ts' c' q1 q2 q3 q4 => ?_
      · obtain ⟨T, f, oT, z1, z2, z3⟩ := hz
        exact .inr ⟨T, f, oT, oth _ _ (Ne.symm nz) z1, oth _ _ (far oS z3) z2, z3⟩
      · have e := Heap.get?_update_self (Obj.mapSeq (·.push (.ref s.heap.objs.size))) hS' rfl
        show (h'.update S _).get? S = _
        rw [e]
        simp [Obj.mapSeq]
      · rw [List.pairwise_append]
        exact ⟨L.up, List.pairwise_singleton _ _, fun a ha b hb => by rw [List.mem_singleton.mp hb]; exact (L.at' a ha).2⟩
      · show N0 ≤ T ∧ T < (Heap.update _ _ _).objs.size
        rw [Heap.size_update, hs]
        rcases List.mem_append.mp hT with hT | hT
        · exact ⟨(L.at' T hT).1, Nat.lt_succ_of_lt (L.at' T hT).2⟩
        · rw [List.mem_singleton.mp hT]; exact ⟨hN, Nat.lt_succ_self _⟩
      · rcases Nat.lt_or_ge j ts.length with q | q
        · rw [List.getElem?_append_left q] at hj
          obtain ⟨x, y, e1, e2, p⟩ := L.pr j T hj
          have q1 := (L.at' T (List.mem_of_getElem? hj)).1
          exact ⟨x, y, e1, e2, oth _ _ (far oS q1) (kp _ _ (far oz q1) (far oTO q1) (far o1 q1) (far o2 q1) p)⟩
        · rw [List.getElem?_append_right q] at hj
          have ej : j = ts.length := by
            rcases Nat.eq_or_lt_of_le q with e | e
            · exact e.symm
            · rw [List.getElem?_eq_none (by simp; omega)] at hj; cases hj
          subst ej
          simp at hj
          subst hj
          exact ⟨xs[i], ys[i], by rw [hl]; exact ex, by rw [hl]; exact ey, nt⟩
      · exact hR h2 ts' c' q1 q2 q3 fun b o b0 bS b1 b2 b3 b4 e => q4 b o b0 bS b1 b2 b3 b4 (oth b o bS (kp b o b1 b2 b3 b4 e))
    rcases Z.out with ⟨hz, p, q, hTO⟩ | ⟨T, f, oT, hz, hT, hTN⟩
    · refine wpAny_bind (RZ.pyNext_zipT_item D hz Z.ti hTO Z.a Z.b Z.la Z.lb ex ey fun h' a1 a2 a3 a4 a5 a6 hk' => ?_)
      exact go h' a5 a6 hk' a3 a4 ⟨s.heap.objs.size, false, _, a1, a5, hN⟩
    · refine wpAny_bind (zt_nextI D hz hT Z.ti Z.a Z.b Z.la Z.lb ex ey fun h' a1 a3 a4 a5 a6 hk' => ?_)
      exact go h' a5 a6 (fun c o c1 _ c3 c4 e => hk' c o c1 c3 c4 e) a3 a4 ⟨T, true, oT, a1, hk' _ _ (far oz hTN) (far o1 hTN) (far o2 hTN) hT, hTN⟩
end
end VM
/-! list(zip(a, b)), a and b tuples of one length: the call, the rule. -/
namespace VM
open PySem PySem.Spec L2 PyProof.Rows
theorem zip_no_len : typeLookup (.type "zip") "__len__" = pure none := by rw [typeLookup_type, builtinLookup_eq_fast]; kernel_rfl
theorem zip_no_hint : typeLookup (.type "zip") "__length_hint__" = pure none := by rw [typeLookup_type, builtinLookup_eq_fast]; kernel_rfl
section
variable {prog : Program} {w : World} {A : Around} {E : Value → Shared → Prop} {s : Shared}
theorem zt_call {z TI TO i1 i2 l1 l2 : Addr} {xs ys : Array Value} {Q : Value → Shared → Prop} (hh : A.handled = none) (D : ZipApart z TI TO i1 i2 l1 l2)
    (hz : IsZip s.heap z TI TO .none) (hTI : IsPair s.heap TI (.ref i1) (.ref i2)) {p0 q0 : Value} (hTO : IsPair s.heap TO p0 q0) (h1 : s.heap.IsTupleIter i1 l1 0) (h2 : s.heap.IsTupleIter i2 l2 0)
    (hl1 : s.heap.IsTuple l1 xs) (hl2 : s.heap.IsTuple l2 ys) (hsz : xs.size = ys.size) (hn : xs.size ≤ 1000000)
    (hQ : ∀ h' ts c', ts.length = xs.size → Zl h' xs ys (s.heap.objs.size + 1) ts → h'.get? s.heap.objs.size = some { cls := .type "list", data := .seq (ts.map Value.ref).toArray c' } →
      (∀ b o, b < s.heap.objs.size → b ≠ z → b ≠ TO → b ≠ i1 → b ≠ i2 → s.heap.get? b = some o → h'.get? b = some o) → Q (.ref s.heap.objs.size) { s with heap := h' }) :
    wpAny (model prog w) A (call (.type "list") [.ref z]) Q E s := by
  have a1 : z < s.heap.objs.size := Heap.lt_size hz
  have a2 : TI < s.heap.objs.size := Heap.lt_size hTI
  have a3 : TO < s.heap.objs.size := Heap.lt_size hTO
  have a4 : i1 < s.heap.objs.size := let ⟨_, e, _⟩ := id h1; Heap.lt_size e
  have a5 : i2 < s.heap.objs.size := let ⟨_, e, _⟩ := id h2; Heap.lt_size e
  have a6 : l1 < s.heap.objs.size := let ⟨_, e, _⟩ := id hl1; Heap.lt_size e
  have a7 : l2 < s.heap.objs.size := let ⟨_, e, _⟩ := id hl2; Heap.lt_size e
  refine callType_codes (Q₁ := fun obj z₁ => obj = .ref s.heap.objs.size ∧ z₁ = { s with heap := s.heap.push { cls := .type "list", data := .seq #[] } }) PySem.F.called_list (PySem.F.typeCall_list_1 _) PySem.F.entry_list_init
    (code_list_new _ ⟨rfl, rfl⟩) fun obj s₁ h₁ => ?_
  obtain ⟨rfl, rfl⟩ := h₁
  have hS : (s.heap.push { cls := .type "list", data := .seq #[] }).get? s.heap.objs.size = some { cls := .type "list", data := .seq #[] } := Heap.get?_push_size _ rfl
  have z1 : (s.heap.push { cls := .type "list", data := .seq #[] }).objs.size = s.heap.objs.size + 1 := Heap.size_push ..
  refine ⟨⟨_, hS, rfl⟩, PySem.F.args_list_init_2 _ _, ?_⟩
  show wpAny _ _ (do let old ← Builtin.List.listItems (.ref s.heap.objs.size); Builtin.List.listUpdate (.ref s.heap.objs.size) (fun _ => #[]); letGo old.toList.reverse; Builtin.List.listExtendWith (.ref s.heap.objs.size) (.ref z) .none) _ _ _
  refine wpAny_bind ?_
  unfold Builtin.List.listItems
  refine wpAny_bind (wpAny_seqItems hS rfl (wpAny_pure ?_))
  show wpAny _ _ (updateSeq s.heap.objs.size (fun _ => #[]) >>= fun _ => letGo (#[] : Array Value).toList.reverse >>= fun _ => Builtin.List.listExtendWith (.ref s.heap.objs.size) (.ref z) .none) _ _ _
  refine wpAny_bind (wpAny_updateSeq hS rfl ?_)
  have hS2 := Heap.get?_update_self (Obj.mapSeq (fun _ => (#[] : Array Value))) hS rfl
  have oth1 : ∀ b o, b ≠ s.heap.objs.size → s.heap.get? b = some o → ((s.heap.push { cls := .type "list", data := .seq #[] }).update s.heap.objs.size (Obj.mapSeq (fun _ => (#[] : Array Value)))).get? b = some o :=
    fun b o hb e => (Heap.get?_update_other _ _ (Ne.symm hb)).trans (Heap.get?_push_of_some _ e)
  have sz2 : ((s.heap.push { cls := .type "list", data := .seq #[] }).update s.heap.objs.size (Obj.mapSeq (fun _ => (#[] : Array Value)))).objs.size = s.heap.objs.size + 1 := by rw [Heap.size_update, z1]
  generalize (s.heap.push { cls := .type "list", data := .seq #[] }).update s.heap.objs.size (Obj.mapSeq (fun _ => (#[] : Array Value))) = g at hS2 oth1 sz2 ⊢
  have ne : ∀ {b : Addr}, b < s.heap.objs.size → b ≠ s.heap.objs.size := fun h => Nat.ne_of_lt h
  refine wpAny_bind (wpAny_letGo ?_)
  unfold Builtin.List.listExtendWith
  have hT : Shared.TypeIs { s with heap := g } (.ref z) "zip" := ⟨_, oth1 _ _ (ne a1) hz, rfl⟩
  refine wpAny_bind (wpAny_typeOf hT ?_)
  have q1 : Builtin.List.listSameRef (.ref s.heap.objs.size) (.ref z) = false := by
    have : s.heap.objs.size ≠ z := Nat.ne_of_gt a1
    simp [Builtin.List.listSameRef, this]
  have q2 : (Value.type "zip" == Value.type "list") = false := by decide
  have q3 : (Value.type "zip" == Value.type "tuple") = false := by decide
  simp only [q1, q2, q3, Bool.or_false, Bool.false_eq_true, if_false]
  refine wpAny_bind (wpAny_pyIter_zip (s := { s with heap := g }) (oth1 _ _ (ne a1) hz) ?_)
  refine wpAny_bind (wpAny_holding ?_)
  unfold Builtin.List.listLengthHint
  refine wpAny_bind (wpAny_specialOf hT zip_no_len ?_)
  show wpAny _ _ (specialOf (Value.ref z) (Str.ofString "__length_hint__") >>= _) _ _ _
  refine wpAny_bind (wpAny_specialOf hT zip_no_hint (wpAny_pure ?_))
  show wpAny _ _ (rule "list.extend.makes-room" >>= fun _ => Builtin.List.listTouch (.ref s.heap.objs.size) >>= fun _ => again (.builtin "list.extend.loop" ⟨[.ref s.heap.objs.size, .ref z, .none], []⟩)) _ _ _
  refine wpAny_bind (wpAny_rule (wpAny_bind ?_))
  show wpAny _ _ (updateSeq s.heap.objs.size (·.push .none) >>= fun _ => updateSeq s.heap.objs.size (·.pop)) _ _ _
  refine wpAny_bind (wpAny_updateSeq hS2 rfl ?_)
  have hS3 := Heap.get?_update_self (Obj.mapSeq (·.push Value.none)) hS2 rfl
  refine wpAny_updateSeq hS3 rfl ?_
  have hS4 := Heap.get?_update_self (Obj.mapSeq (·.pop)) hS3 rfl
  have oth : ∀ b o, b ≠ s.heap.objs.size → s.heap.get? b = some o → ((g.update s.heap.objs.size (Obj.mapSeq (·.push Value.none))).update s.heap.objs.size (Obj.mapSeq (·.pop))).get? b = some o :=
    fun b o hb e => (Heap.get?_update_other _ _ (Ne.symm hb)).trans ((Heap.get?_update_other _ _ (Ne.symm hb)).trans (oth1 b o hb e))
  have sz4 : ((g.update s.heap.objs.size (Obj.mapSeq (·.push Value.none))).update s.heap.objs.size (Obj.mapSeq (·.pop))).objs.size = s.heap.objs.size + 1 := by rw [Heap.size_update, Heap.size_update, sz2]
  generalize (g.update s.heap.objs.size (Obj.mapSeq (·.push Value.none))).update s.heap.objs.size (Obj.mapSeq (·.pop)) = g2 at hS4 oth sz4 ⊢
  obtain ⟨c4, hS5⟩ : ∃ c, g2.get? s.heap.objs.size = some { cls := .type "list", data := .seq (([] : List Addr).map Value.ref).toArray c } := ⟨_, hS4⟩
  refine wpAny_pure ⟨plainId_quiet F.plain_extend_loop _, zt_loop (l1 := l1) (l2 := l2) (N0 := s.heap.objs.size + 1) (A := A.in1) (by simp [hh]) D ⟨(ne a1).symm, (ne a2).symm, (ne a3).symm, (ne a4).symm, (ne a5).symm, (ne a6).symm, (ne a7).symm⟩
    ⟨Nat.lt_succ_of_lt a1, Nat.lt_succ_of_lt a2, Nat.lt_succ_of_lt a3, Nat.lt_succ_of_lt a4, Nat.lt_succ_of_lt a5, Nat.lt_succ_self _⟩ hsz hn (xs.size - 0) 0 { s with heap := g2 } [] c4 rfl (Nat.zero_le _)
    ⟨oth _ _ (ne a2) hTI, h1.at fun o e => oth _ o (ne a4) e, h2.at fun o e => oth _ o (ne a5) e, hl1.at fun o e => oth _ o (ne a6) e, hl2.at fun o e => oth _ o (ne a7) e, .inl ⟨oth _ _ (ne a1) hz, p0, q0, oth _ _ (ne a3) hTO⟩⟩
    hS5 rfl (by show _ ≤ g2.objs.size; rw [sz4]; exact Nat.le_refl _) ⟨List.Pairwise.nil, fun T h => absurd h (by simp), fun j T h => by simp at h⟩ fun h' ts c' b1 b2 b3 b4 => ?_⟩
  exact ⟨rfl, hQ h' ts c' b1 b2 b3 fun b o b0 c1 c2 c3 c4 e => b4 b o (Nat.lt_succ_of_lt b0) (ne b0) c1 c2 c3 c4 (oth b o (ne b0) e)⟩
end

/-! ### many new objects at once -/
theorem inv_many {X : Cx} {pins : List (Addr × Obj)} {σ : L2.St} {H H' : Hp} {s : Shared} {h' : Heap} {t' : Nat} (I : Inv X pins σ H s) (k : ∀ b u, s.heap.get? b = some u → h'.get? b = some u) (old : ∀ b, b < s.heap.objs.size → H' b = H b)
    (new : ∀ b u, s.heap.objs.size ≤ b → H' b = some u → ObjOk X.prog X.w H' h' b u) : Inv X pins σ H' { s with heap := h', toks := t' } := by
  have some_lt : ∀ {b o}, H b = some o → b < s.heap.objs.size := fun e => I.hok.lt e
  have up : ∀ {b o}, H b = some o → H' b = some o := fun e => by rw [old _ (some_lt e)]; exact e
  refine I.un ⟨fun b o q _ _ _ => k b o q, fun b o q _ _ _ => ⟨o.slots, k b o q⟩, fun b o q n _ => by rw [old b (Heap.lt_size q)]; exact n, fun b o q _ => ⟨o, k b o q⟩, fun b xs q => up q, fun b o u q => up q, fun b ps q => ⟨#[], by rw [up q]; simp⟩⟩ fun b u e => ?_
  rcases Nat.lt_or_ge b s.heap.objs.size with q | q
  · rw [old b q] at e
    exact (I.hok b u e).stay (fun c v _ q => k c v q) (fun c q => up q) fun c xs q => up q
  · exact new b u q e
def layT : Hp → List (Addr × V × V) → Hp
  | H, [] => H
  | H, t :: r => layT (upd H t.1 (.tup [t.2.1, t.2.2])) r
theorem layT_no : ∀ (l : List (Addr × V × V)) (H : Hp) (b : Addr), b ∉ l.map (·.1) → layT H l b = H b
  | [], H, b, _ => rfl
  | t :: l, H, b, h => by
    rw [List.map_cons, List.mem_cons, not_or] at h
    show layT _ l b = H b
    rw [layT_no l _ b h.2, upd_ne h.1]
theorem layT_at : ∀ (l : List (Addr × V × V)) (H : Hp) (t : Addr × V × V), (l.map (·.1)).Nodup → t ∈ l → layT H l t.1 = some (.tup [t.2.1, t.2.2])
  | u :: l, H, t, nd, h => by
    rw [List.map_cons, List.nodup_cons] at nd
    show layT _ l t.1 = _
    rcases List.mem_cons.mp h with e | h
    · subst e
      rw [layT_no l _ _ nd.1, upd_same]
    · exact layT_at l _ t nd.2 h
/-- list(zip(a, b)) -/
def rLZ (K : PySem.W.Frag) : List V → Hp → VK → Prop := fun vs H Q => ∃ (a b : Addr) (xs ys : List V), vs = [V.ref a, V.ref b] ∧ SqT K H a xs ∧ SqT K H b ys ∧ xs.length = ys.length ∧ xs.length ≤ 1000000 ∧
  ∀ (ts : List Addr) (p : Addr), ts.length = xs.length → ts.Nodup → p ∉ ts → (∀ T ∈ ts, H T = none) → H p = none → Q (.ref p) (upd (layT H (ts.zip (xs.zip ys))) p (.lst (ts.map V.ref)))
theorem vals_refs : ∀ ts : List Addr, Vals (ts.map V.ref) (ts.map Value.ref)
  | [] => .nil
  | t :: ts => .cons rfl (vals_refs ts)
theorem pe_lzip {X : Cx} {e e2 : Expr} {ta : TA} {p p2 q pos : Pos} (hc : X.calm = true) (hg : Gl X "list") (hm : X.mg "list" = none) (hg2 : Gl X "zip") (hm2 : X.mg "zip" = none) (ha : PA X [e, e2] ta)
    (hs : starEach [e, e2] X.env = (false, eval e X.env) :: starEach [e2] X.env := by rfl) (hpl : (backTo q (starEach [e2] X.env)).any (·.1) = false := by rfl) :
    PE X (.Call (.Name "list" p) [.Call (.Name "zip" p2) [e, e2] [] q] [] pos) (tCB (rLZ X.K) ta) := by
  refine ⟨fun pins s σ H Q I h => ?_⟩
  refine Call_ (ld_blt I hg hm boot_list ?_)
  refine PyProof.Rows.callWith_type1 (PyProof.Rows.args_cons ?_ rfl) rfl rfl
  refine Call_ (ld_blt I hg2 hm2 boot_zip ?_)
  refine PyProof.Rows.callWith_type1 (thn (ha.run q pins s σ H _ I h) fun us s1 ⟨vs, H1, I1, r1, q1⟩ => ?_) hs hpl
  obtain ⟨a, b, xs, ys, rfl, hqx, hqy, hlen, hlim, q1⟩ := q1
  obtain ⟨u1, u2, rfl, ru1, ru2⟩ := vals2 r1
  obtain rfl : u1 = Value.ref a := ru1
  obtain rfl : u2 = Value.ref b := ru2
  obtain ⟨its, rv, pa, _⟩ := I1.tuple hqx
  obtain ⟨its2, rv2, pb, _⟩ := I1.tuple hqy
  have hla : a < s1.heap.objs.size := let ⟨_, e, _⟩ := id pa; Heap.lt_size e
  have hlb : b < s1.heap.objs.size := let ⟨_, e, _⟩ := id pb; Heap.lt_size e
  refine RZ.call_zipT (show s1.heap.IsTuple a its.toArray from pa) (show s1.heap.IsTuple b its2.toArray from pb) fun h' hz hTI hTO h1 h2 hsz hk => ?_
  refine PyProof.Rows.args_nil ?_
  have n1 : its.toArray.size = xs.length := by rw [List.size_toArray, ← rv.length]
  have n2 : its2.toArray.size = ys.length := by rw [List.size_toArray, ← rv2.length]
  have pa' : h'.IsTuple a its.toArray := Heap.IsTuple.at (show s1.heap.IsTuple a its.toArray from pa) fun o e => hk a o e
  have pb' : h'.IsTuple b its2.toArray := Heap.IsTuple.at (show s1.heap.IsTuple b its2.toArray from pb) fun o e => hk b o e
  refine zt_call (s := { s1 with heap := h' }) (I1.ok.hd hc) (PySem.W.ktu_apart s1.heap.objs.size a b hla hlb) hz hTI hTO h1 h2 pa' pb' (by rw [n1, n2, hlen]) (by rw [n1]; exact hlim) fun h2 ts c' b1 b2 b3 b4 => ?_
  have hsz' : h'.objs.size = s1.heap.objs.size + 5 := hsz
  have keep : ∀ b u, s1.heap.get? b = some u → h2.get? b = some u := fun c o e => by
    have lt : c < s1.heap.objs.size := Heap.lt_size e
    refine b4 c o (by show c < h'.objs.size; rw [hsz']; exact Nat.lt_of_lt_of_le lt (Nat.le_add_right _ _)) ?_ ?_ ?_ ?_ (hk c o e)
    · exact Nat.ne_of_lt (Nat.lt_of_lt_of_le lt (Nat.le_add_right _ _))
    · exact Nat.ne_of_lt (Nat.lt_of_lt_of_le lt (Nat.le_add_right _ _))
    · exact Nat.ne_of_lt lt
    · exact Nat.ne_of_lt (Nat.lt_of_lt_of_le lt (Nat.le_add_right _ _))
  have tN : ∀ T ∈ ts, s1.heap.objs.size ≤ T ∧ h'.objs.size < T := fun T hT => by
    have := (b2.at' T hT).1
    have e : h'.objs.size + 1 ≤ T := this
    exact ⟨Nat.le_trans (Nat.le_trans (by rw [hsz']; exact Nat.le_add_right _ _) (Nat.le_succ h'.objs.size)) e, e⟩
  have nd : ts.Nodup := b2.up.imp fun h => Nat.ne_of_lt h
  have pn : h'.objs.size ∉ ts := fun h => Nat.lt_irrefl _ (tN _ h).2
  have pge : s1.heap.objs.size ≤ h'.objs.size := by rw [hsz']; exact Nat.le_add_right _ _
  have tl : ts.length = xs.length := by rw [b1, n1]
  have zl : (ts.zip (xs.zip ys)).map (·.1) = ts := by
    rw [List.map_fst_zip]
    rw [List.length_zip, tl, ← hlen, Nat.min_self]
    exact Nat.le_refl _
  have J : Inv X pins σ (upd (layT H1 (ts.zip (xs.zip ys))) h'.objs.size (.lst (ts.map V.ref))) { s1 with heap := h2, toks := s1.toks } := by
    refine inv_many I1 keep (fun c lt => ?_) fun c u ge e => ?_
    · rw [upd_ne (Nat.ne_of_lt (Nat.lt_of_lt_of_le lt pge)), layT_no _ _ _ (by rw [zl]; exact fun h => absurd (Nat.lt_of_lt_of_le lt (tN c h).1) (Nat.lt_irrefl _))]
    · by_cases hb : c = h'.objs.size
      · subst hb
        rw [upd_same] at e
        cases e
        exact ⟨by rw [List.length_map, tl, sizeLine_eq]; omega, ts.map Value.ref, c', vals_refs ts, b3⟩
      · rw [upd_ne hb] at e
        by_cases hm : c ∈ ts
        · obtain ⟨j, hj⟩ := List.getElem?_of_mem hm
          obtain ⟨x, y, ex, ey, pr⟩ := b2.pr j c hj
          have hjl : j < ts.length := (List.getElem?_eq_some_iff.mp hj).1
          obtain ⟨vx, evx⟩ : ∃ vx, xs[j]? = some vx := ⟨_, List.getElem?_eq_getElem (by omega)⟩
          obtain ⟨vy, evy⟩ : ∃ vy, ys[j]? = some vy := ⟨_, List.getElem?_eq_getElem (by omega)⟩
          have mem : (c, vx, vy) ∈ ts.zip (xs.zip ys) := by
            refine List.mem_of_getElem? (i := j) ?_
            rw [List.getElem?_zip_eq_some]
            exact ⟨hj, by rw [List.getElem?_zip_eq_some]; exact ⟨evx, evy⟩⟩
          have la := layT_at _ H1 _ (by rw [zl]; exact nd) mem
          have e' : some u = some (HO.tup [vx, vy]) := e.symm.trans la
          cases e'
          obtain ⟨x', ex', rx⟩ := rv.get evx
          obtain ⟨y', ey', ry⟩ := rv2.get evy
          have h1 : x' = x := by
            have : its.toArray[j]? = some x' := by simpa using ex'
            rw [ex] at this; cases this; rfl
          have h2' : y' = y := by
            have : its2.toArray[j]? = some y' := by simpa using ey'
            rw [ey] at this; cases this; rfl
          subst h1
          subst h2'
          exact ⟨by show 2 ≤ sizeLine; decide, [x', y'], .cons rx (.cons ry .nil), ⟨_, pr, rfl, _, rfl⟩⟩
        · rw [layT_no _ _ _ (by rw [zl]; exact hm), I1.hok.fresh ge] at e
          cases e
  exact ⟨.ref h'.objs.size, _, J, rfl, q1 ts h'.objs.size tl nd pn (fun T hT => I1.hok.fresh (tN T hT).1) (I1.hok.fresh pge)⟩
end VM
/-! zip of tuples, copies of dicts: the words of the VM. -/
namespace VM
open PySem PySem.Spec L2 PyProof.Rows
def pairD (d e : D) : D := .tup [d, e]
def fLzip : List D → Option EV
  | [.tup ds, .tup es] => if ds.length = es.length ∧ ds.length ≤ 1000000 then some (.new (.lst (List.zipWith pairD ds es))) else none
  | _ => none
section
variable {K : PySem.W.Frag} {Acc : Addr → Prop} {ι : List Addr} {μ : Sto}
theorem lay_pairs : ∀ (ts : List Addr) (ds es : List D) (xs ys : List V) (H : Hp), Sim K Acc μ ι H → ts.length = ds.length → ds.length = es.length → ts.Nodup → (∀ T ∈ ts, H T = none) → Reps K (Liv Acc μ ι) H ds xs → Reps K (Liv Acc μ ι) H es ys →
    Stp K Acc ι μ H ι μ (layT H (ts.zip (xs.zip ys))) ∧ Reps K (Liv Acc μ ι) (layT H (ts.zip (xs.zip ys))) (List.zipWith pairD ds es) (ts.map V.ref)
  | [], ds, es, xs, ys, H, S, h1, h2, _, _, r1, r2 => by
    obtain rfl : ds = [] := List.eq_nil_of_length_eq_zero (by simpa using h1.symm)
    exact ⟨.refl S, Reps.nil⟩
  | T :: ts, [], es, xs, ys, H, S, h1, h2, _, _, r1, r2 => by simp at h1
  | T :: ts, d :: ds, [], xs, ys, H, S, h1, h2, _, _, r1, r2 => by simp at h2
  | T :: ts, d :: ds, e :: es, xs, ys, H, S, h1, h2, nd, hf, r1, r2 => by
    obtain ⟨x, xr, rfl, rx, rxs⟩ := r1.inv
    obtain ⟨y, yr, rfl, ry, rys⟩ := r2.inv
    have nT := hf T List.mem_cons_self
    have t1 := S.up nT (.tup [x, y])
    have q1 : Rep K (Liv Acc μ ι) (upd H T (.tup [x, y])) (pairD d e) (.ref T) := S.newT nT (Reps.cons rx (Reps.cons ry Reps.nil))
    have nd' := List.nodup_cons.mp nd
    obtain ⟨t2, q2⟩ := lay_pairs ts ds es xr yr (upd H T (.tup [x, y])) t1.sim (by simpa using h1) (by simpa using h2) nd'.2 (fun T' hT' => by
      rw [upd_ne (fun e : T' = T => nd'.1 (by rw [← e]; exact hT'))]
      exact hf T' (List.mem_cons_of_mem _ hT')) (Reps.mv (t1.mv S) _ _ rxs) (Reps.mv (t1.mv S) _ _ rys)
    exact ⟨t1.trans t2, Reps.cons (Rep.mv (t2.mv t1.sim) _ _ q1) q2⟩
end
theorem on_lzip {K : PySem.W.Frag} : OpN K fLzip (rLZ K) := by
  intro Acc ι μ H ds xs e Q S r h q
  match ds, r, h with
  | [], _, h => cases h
  | [d], _, h => cases d <;> cases h
  | d :: d2 :: d3 :: t, _, h => cases d <;> cases d2 <;> cases h
  | [d, d2], r, h =>
    obtain ⟨v, rs, rfl, h1, r2⟩ := r
    obtain ⟨v2, rs2, rfl, h2, r3⟩ := r2
    have r3 : rs2 = [] := r3
    subst r3
    cases d <;> cases d2 <;> try (cases h; done)
    rename_i ds es
    simp only [fLzip] at h
    split at h
    case isFalse => cases h
    case isTrue hz =>
      cases h
      obtain ⟨a, vs, rfl, tp, rp⟩ := seeT h1
      obtain ⟨b, ws, rfl, tq, rq⟩ := seeT h2
      have l1 := rp.len
      have l2 := rq.len
      refine ⟨a, b, vs, ws, rfl, tp.sq, tq.sq, by omega, by omega, fun ts p tl nd pn hf np => ?_⟩
      obtain ⟨t, rr⟩ := lay_pairs ts ds es vs ws H S (by omega) hz.1 nd hf rp rq
      have zl : (ts.zip (vs.zip ws)).map (·.1) = ts := by
        rw [List.map_fst_zip]
        rw [List.length_zip]; omega
      have np' : layT H (ts.zip (vs.zip ws)) p = none := by rw [layT_no _ _ _ (by rw [zl]; exact pn)]; exact np
      exact q (.ref p) _ (t.trans (t.sim.up np' _)) ⟨⟨p, rfl, np, t.sim.newL np' rr⟩, t.sim.ownN np' rr⟩
/-- dict(d) -/
def fDict : List D → Option EV
  | [.dic ks ds] => if ks.length ≤ LIM then some (.new (.dic ks ds)) else none
  | _ => none
theorem on_dict {K : PySem.W.Frag} : OpN K fDict (fun xs H Q => ∃ (a : Addr) (kvs : List (Key × V)), xs = [.ref a] ∧ Rd H a (.dK kvs) ∧ ∀ p, H p = none → Q (.ref p) (upd H p (.dK kvs))) := by
  intro Acc ι μ H ds xs e Q S r h q
  cases ds with
  | nil => cases h
  | cons d t =>
    cases t with
    | cons _ _ => cases d <;> cases h
    | nil =>
      obtain ⟨v, rs, rfl, h1, h2⟩ := r
      have h2 : rs = [] := h2
      subst h2
      cases d <;> try (cases h; done)
      rename_i ks ds
      simp only [fDict] at h
      split at h
      case isFalse => cases h
      case isTrue hz =>
        cases h
        obtain ⟨a, vs, rfl, tp, hl, rp⟩ := (h1 : ∃ a vs, v = .ref a ∧ Rd H a (.dK (ks.zip vs)) ∧ ks.length = ds.length ∧ Reps K (Liv Acc μ ι) H ds vs)
        exact ⟨a, ks.zip vs, rfl, tp, fun p np => q (.ref p) _ (S.up np _) ⟨⟨p, rfl, np, vs, .inl upd_same, hl, Reps.mv ((S.up np _).mv S) _ _ rp⟩, S.ownD np hl rp⟩⟩
/-! loops over zip -/
theorem jr_zip {K : PySem.W.Frag} {Acc : Addr → Prop} {ι : List Addr} {μ : Sto} {H : Hp} {a b : Addr} {ds es : List D} {xs ys : List V} (ha : TupN K (Liv Acc μ ι) H a xs) (hb : TupN K (Liv Acc μ ι) H b ys) (ra : Reps K (Liv Acc μ ι) H ds xs) (rb : Reps K (Liv Acc μ ι) H es ys) :
    JR K (RZ.ItzT K a b) (.vals (List.zipWith pairD ds es)) Acc ι μ H := by
  intro Acc' ι' μ' H' S m _ fs he i
  cases he
  have ha' := ha.mv m
  have hb' := hb.mv m
  have ra' := Reps.mv m _ _ ra
  have rb' := Reps.mv m _ _ rb
  refine ⟨fun d hd => ?_, fun hl => ⟨xs, ys, ha'.sq, hb'.sq, ?_⟩⟩
  · rw [List.getElem?_zipWith] at hd
    cases e1 : ds[i]? with
    | none => rw [e1] at hd; cases hd
    | some d1 =>
      cases e2 : es[i]? with
      | none => rw [e1, e2] at hd; cases hd
      | some d2 =>
        rw [e1, e2] at hd
        cases hd
        obtain ⟨x, hx, rx⟩ := ra'.get e1
        obtain ⟨y, hy, ry⟩ := rb'.get e2
        refine ⟨⟨xs, ys, x, y, ha'.sq, hb'.sq, hx, hy⟩, fun v H'' yl => ?_⟩
        obtain ⟨T, x', y', rfl, nT, rfl, fx, fy⟩ := yl
        have ex := fx xs ha'.sq
        have ey := fy ys hb'.sq
        rw [hx] at ex
        rw [hy] at ey
        cases ex
        cases ey
        exact ⟨S.up nT _, S.newT nT (Reps.cons rx (Reps.cons ry Reps.nil))⟩
  · rw [ra'.len, rb'.len]
    rw [List.length_zipWith] at hl
    omega
def zipSrc : List D → Option Src
  | [.tup ds, .tup es] => some (.vals (List.zipWith pairD ds es))
  | _ => none
theorem zipSrc_eq {l : List D} {s : Src} (h : zipSrc l = some s) : ∃ ds es, l = [.tup ds, .tup es] ∧ s = .vals (List.zipWith pairD ds es) := by
  unfold zipSrc at h
  split at h
  · cases h; exact ⟨_, _, rfl, rfl⟩
  · cases h
def iZip (f : SA) : SI := fun F ρ μ => (f F ρ μ).bind fun vs μ1 => match sees vs μ1 with
  | some l => match zipSrc l with
    | some s => .ok s μ1
    | none => .bad
  | none => .bad
section
variable {X : Cx} {XC : Nat → Addr} {F : Fns} {W : WX} {e e2 : Expr} {fs : SA} {p p2 pos tpos q : Pos} {elts : List Expr} {kk : Nat} {σ : L2.St} {H : Hp}
theorem rdI_zip {R : It → Hp → Prop} (h : rdI X.K XC F W (iZip fs) σ H R) : RZ.iZipA X.K (rdA X.K XC F W fs) σ H R := by
  obtain ⟨Acc, ι, ρ, μ, S, E, h⟩ := h
  refine ⟨Acc, ι, ρ, μ, S, E, ?_⟩
  unfold iZip at h
  cases hf : fs F ρ μ with
  | exc x μ1 => rw [hf] at h; exact h
  | bad => rw [hf] at h; exact h.elim
  | ok vs μ1 =>
    rw [hf] at h
    simp only [Res.bind] at h
    intro us H1 t1 r1
    cases es : sees vs μ1 with
    | none => rw [es] at h; exact h.elim
    | some dd =>
      rw [es] at h
      have sr := sees_ok t1.sim r1 es
      simp only at h
      cases ez : zipSrc dd with
      | none => rw [ez] at h; exact h.elim
      | some s0 =>
        rw [ez] at h
        obtain ⟨ds, es, rfl, rfl⟩ := zipSrc_eq ez
        obtain ⟨v, rs, rfl, h1, r2⟩ := sr
        obtain ⟨v2, rs2, rfl, h2, r3⟩ := r2
        have r3 : rs2 = [] := r3
        subst r3
        obtain ⟨a, vs, rfl, tp, rp⟩ := seeT h1
        obtain ⟨b, ws, rfl, tq, rq⟩ := seeT h2
        exact ⟨a, b, vs, ws, rfl, .inr ⟨tp.sq, tq.sq, h _ H1 t1 (jr_zip tp tq rp rq)⟩⟩
theorem wi_zip (hm : X.mg "zip" = none) (ha : PA X [e, e2] (rdA X.K XC F W fs)) (hg : Gl X "zip" := by rfl) (hs : starEach [e, e2] X.env = (false, eval e X.env) :: starEach [e2] X.env := by rfl) (hpl : (backTo pos (starEach [e2] X.env)).any (·.1) = false := by rfl) :
    PI X (.Tuple elts kk tpos) (.Call (.Name "zip" p) [e, e2] [] pos) (rdI X.K XC F W (iZip fs)) := PIimp (RZ.pi_zipA hg hm ha hs hpl) fun _ _ _ h => rdI_zip h
theorem w_lzip (hm : X.mg "list" = none) (hm2 : X.mg "zip" = none) (ha : PA X [e, e2] (rdA X.K XC F W fs)) (hc : X.calm = true := by rfl) (hg : Gl X "list" := by rfl) (hg2 : Gl X "zip" := by rfl)
    (hs : starEach [e, e2] X.env = (false, eval e X.env) :: starEach [e2] X.env := by rfl) (hpl : (backTo q (starEach [e2] X.env)).any (·.1) = false := by rfl) :
    PE X (.Call (.Name "list" p) [.Call (.Name "zip" p2) [e, e2] [] q] [] pos) (rdE X.K XC F W (eCb fLzip fs)) :=
  PEimp (pe_lzip hc hg hm hg2 hm2 ha hs hpl) fun _ _ _ h => callN_ok on_lzip h
end
end VM
/-! Comprehensions over a dict's keys: the dict is locked while they run, and stands still from then on. -/
namespace VM
open PySem L2 PyProof.Rows
def keyD : Key → D
  | .inl i => .int i
  | .inr x => .str x
def keysD (ks : List Key) : List D := ks.map keyD
def iKeyS (i : Nat) : SI := fun F ρ μ => match ρ[i]? with
  | some (some (.dat (.dic ks _))) => .ok (.vals (keysD ks)) μ
  | some (some (.cel k)) => match μ[k]? with
    | some c => match c.live, c.val with
      | false, .dic ks _ => .ok (.vals (keysD ks)) μ
      | _, _ => .bad
    | none => .bad
  | _ => .bad
def stillS (i : Nat) (ρ : Env) (μ : Sto) : Sto := match ρ[i]? with
  | some (some (.cel k)) => match μ[k]? with
    | some c => μ.set k ⟨false, c.val⟩
    | none => μ
  | _ => μ
def eLcK (i : Nat) (t : Tgt) (ifs : SB) (elt : SE) (own : List Nat) : SE := fun F ρ μ => (eLc (iKeyS i) t ifs elt own F ρ (stillS i ρ μ)).nox.bind fun v μ2 => match v with
  | .new (.lst r) => .ok (.new (.lst r)) μ2
  | _ => .bad
/-! ### locked and unlocked -/
/-- the same, but for the lock of the dict at d -/
structure Fq (H H' : Hp) (d : Addr) (kvs : List (Key × V)) : Prop where
  ne : ∀ a, a ≠ d → H' a = H a
  rd : Rd H d (.dK kvs)
  rd' : Rd H' d (.dK kvs)
section
variable {K : PySem.W.Frag} {L : Addr → Prop} {H H' : Hp} {d : Addr} {kvs : List (Key × V)}
theorem Fq.symm (q : Fq H H' d kvs) : Fq H' H d kvs := ⟨fun a h => (q.ne a h).symm, q.rd', q.rd⟩
theorem rd_some {a : Addr} {u : HO} (h : Rd H a u) : H a ≠ none := by
  rcases h with h | ⟨o, h⟩ <;> rw [h] <;> simp
theorem rd_un {a : Addr} {u v : HO} (h : Rd H a u) (g : Rd H a v) (hu : ∀ o w, u ≠ .frz o w) (hv : ∀ o w, v ≠ .frz o w) : u = v := by
  rcases h with h | ⟨o, h⟩ <;> rcases g with g | ⟨o', g⟩ <;> rw [h] at g <;> cases g
  · rfl
  · exact absurd rfl (hu _ _)
  · exact absurd rfl (hv _ _)
  · rfl
theorem Fq.rdO (q : Fq H H' d kvs) {a : Addr} {u : HO} (h : Rd H a u) (hu : ∀ o w, u ≠ .frz o w) : Rd H' a u := by
  by_cases e : a = d
  · subst e
    rw [rd_un h q.rd hu (fun _ _ z => by cases z)]
    exact q.rd'
  · rcases h with h | ⟨o, h⟩
    · exact .inl (by rw [q.ne a e]; exact h)
    · exact .inr ⟨o, by rw [q.ne a e]; exact h⟩
theorem Fq.ls (q : Fq H H' d kvs) {a : Addr} {vs : List V} (h : H a = some (.lst vs)) : H' a = some (.lst vs) := by
  have e : a ≠ d := fun z => by
    subst z
    have := rd_un (.inl h) q.rd (fun _ _ z => by cases z) (fun _ _ z => by cases z)
    cases this
  rw [q.ne a e]; exact h
theorem Fq.trk (q : Fq H H' d kvs) {a : Addr} (h : H a ≠ none) : H' a ≠ none := by
  by_cases e : a = d
  · subst e; exact rd_some q.rd'
  · rw [q.ne a e]; exact h
mutual
theorem Fq.rep (q : Fq H H' d kvs) : ∀ (x : D) (v : V), Rep K L H x v → Rep K L H' x v
  | .non, v, h => by simpa only [Rep] using h
  | .bl _, v, h => by simpa only [Rep] using h
  | .int _, v, h => by simpa only [Rep] using h
  | .str _, v, h => by simpa only [Rep] using h
  | .tup ds, v, h => by
    simp only [Rep] at h ⊢
    obtain ⟨a, vs, e, t, r⟩ := h
    exact ⟨a, vs, e, t.imp (fun ⟨h, n⟩ => ⟨q.rdO h fun _ _ z => (by cases z), n⟩) id, Fq.reps q ds vs r⟩
  | .lst ds, v, h => by
    simp only [Rep] at h ⊢
    obtain ⟨a, vs, e, t, n, r⟩ := h
    exact ⟨a, vs, e, q.ls t, n, Fq.reps q ds vs r⟩
  | .scr ns, v, h => by
    simp only [Rep] at h ⊢
    obtain ⟨a, e, t⟩ := h
    exact ⟨a, e, t.imp (fun ⟨h, n⟩ => ⟨q.rdO h fun _ _ z => (by cases z), n⟩) id⟩
  | .dic ks ds, v, h => by
    simp only [Rep] at h ⊢
    obtain ⟨a, vs, e, t, n, l, r⟩ := h
    exact ⟨a, vs, e, q.rdO t fun _ _ z => (by cases z), n, l, Fq.reps q ds vs r⟩
theorem Fq.reps (q : Fq H H' d kvs) : ∀ (ds : List D) (vs : List V), Reps K L H ds vs → Reps K L H' ds vs
  | [], vs, h => by simpa only [Reps] using h
  | x :: ds, vs, h => by
    simp only [Reps] at h ⊢
    obtain ⟨v, r, e, h1, h2⟩ := h
    exact ⟨v, r, e, Fq.rep q x v h1, Fq.reps q ds r h2⟩
end
theorem Fq.cv (q : Fq H H' d kvs) {c : CV} {a : Addr} (h : CvR K L H c a) : CvR K L H' c a := by
  cases c with
  | lst ds => obtain ⟨vs, e, r⟩ := h; exact ⟨vs, q.ls e, Fq.reps q _ _ r⟩
  | dic ks ds => obtain ⟨vs, e, l, r⟩ := h; exact ⟨vs, q.rdO e fun _ _ z => (by cases z), l, Fq.reps q _ _ r⟩
end
section
variable {K : PySem.W.Frag} {Acc : Addr → Prop} {ι : List Addr} {μ μ2 : Sto} {H H' : Hp} {d : Addr} {kvs : List (Key × V)}
theorem Sim.fq (S : Sim K Acc μ ι H) (q : Fq H H' d kvs) (nl : ¬ Liv Acc μ ι d) : Sim K Acc μ ι H' := by
  refine ⟨S.len, S.nd, fun a h => ⟨(S.acc a h).1, q.trk (S.acc a h).2⟩, fun k c e => ?_, fun a h o ks => ?_⟩
  · obtain ⟨a, e1, r⟩ := S.cell k c e
    exact ⟨a, e1, q.cv r⟩
  · rw [q.ne a fun z => nl (z ▸ h)]; exact S.hot a h o ks
theorem EnvR.fq {ρ : Env} {σ : L2.St} {L : Addr → Prop} (q : Fq H H' d kvs) (E : EnvR K L ι H ρ σ) : EnvR K L ι H' ρ σ := ⟨E.1, fun i s e => by
  obtain ⟨v, e1, r⟩ := E.2 i s e
  refine ⟨v, e1, ?_⟩
  cases s with
  | dat x => exact q.rep _ _ r
  | cel k => exact r⟩
/-- the lock is taken off -/
theorem Stp.unl {od : Obj} (S : Sim K Acc μ ι H) (hd : H d = some (.dK kvs)) (nl : ¬ Liv Acc μ ι d) (t : Stp K Acc ι μ (upd H d (.frz od (.dK kvs))) ι μ2 H') : H' d = some (.frz od (.dK kvs)) ∧ ¬ Liv Acc μ2 ι d ∧ Fq H' (upd H' d (.dK kvs)) d kvs ∧ Stp K Acc ι μ H ι μ2 (upd H' d (.dK kvs)) := by
  have q : Fq H (upd H d (.frz od (.dK kvs))) d kvs := ⟨fun a h => by rw [upd_ne h], .inl hd, .inr ⟨od, upd_same⟩⟩
  have mv := t.mv (S.fq q nl) d _ upd_same nl
  have q2 : Fq H' (upd H' d (.dK kvs)) d kvs := ⟨fun a h => by rw [upd_ne h], .inr ⟨od, mv.1⟩, .inl upd_same⟩
  refine ⟨mv.1, mv.2, q2, t.sim.fq q2 mv.2, ⟨[], by simp, by simp⟩, fun a o e n => ?_, fun a h => q2.trk (t.trk a (q.trk h)), fun a h => (t.liv a h).imp id fun z => ?_⟩
  · by_cases e2 : a = d
    · subst e2; rw [upd_same, ← hd, e]
    · rw [upd_ne e2]
      exact t.keep a o (by rw [upd_ne e2]; exact e) n
  · exact Classical.byContradiction fun z2 => q.trk z2 z
theorem relE.fq {Hb Hb' : Hp} {e : EV} {v : V} {r : List D} (he : e = .new (.lst r)) (q : Fq H H' d kvs) (hb : ∀ p, Hb p = none → Hb' p = none ∧ p ≠ d) (nl : ¬ Liv Acc μ ι d) (h : relE K Acc μ ι Hb H e v) : relE K Acc μ ι Hb' H' e v := by
  subst he
  obtain ⟨⟨p, e, n, c⟩, o⟩ := h
  refine ⟨⟨p, e, (hb p n).1, q.cv c⟩, fun p' e' => ?_⟩
  obtain ⟨s1, c1⟩ := o p' e'
  rw [e] at e'; cases e'
  have nl2 : ¬ Liv (fun a => Acc a ∨ a = p) μ ι d := fun z => by
    rcases z with z | z | z
    · exact nl (.inl z)
    · exact nl (.inr z)
    · exact (hb p n).2 z.symm
  exact ⟨s1.fq q nl2, q.cv c1⟩
end
theorem jr_keys {K : PySem.W.Frag} {Acc : Addr → Prop} {ι : List Addr} {μ : Sto} {H : Hp} {d : Addr} {o : Obj} {ks : List Key} {vs : List V} (hd : H d = some (.frz o (.dK (ks.zip vs)))) (nl : ¬ Liv Acc μ ι d) (hl : ks.length = vs.length) :
    JR K (Itk d o (ks.zip vs)) (.vals (keysD ks)) Acc ι μ H := by
  intro Acc' ι' μ' H' S m _ es he i
  cases he
  have hd' := (m d _ hd nl).1
  have hz : (ks.zip vs).length = ks.length := by rw [List.length_zip, hl, Nat.min_self]
  refine ⟨fun x hx => ?_, fun hle => ⟨hd', by rw [hz]; simpa [keysD] using hle⟩⟩
  unfold keysD at hx
  rw [List.getElem?_map] at hx
  cases e : ks[i]? with
  | none => rw [e] at hx; cases hx
  | some k =>
    rw [e] at hx
    cases hx
    have hi := (List.getElem?_eq_some_iff.mp e).1
    refine ⟨⟨hd', by rw [hz]; exact hi⟩, fun v H'' y => ?_⟩
    obtain ⟨rfl, k', w, e2, rfl⟩ := y
    have : k' = k := by
      rw [List.getElem?_zip_eq_some] at e2
      have := e2.1
      rw [e] at this
      cases this; rfl
    subst this
    refine ⟨.refl S, ?_⟩
    cases k' with
    | inl i => exact rep_int
    | inr x => simp only [keyD, Rep]; rfl
section
variable {K : PySem.W.Frag} {XC : Nat → Addr} {F : Fns} {W : WX} {σ : L2.St} {H : Hp} {i : Nat}
/-- what slot i holds is a locked dict -/
theorem rdI_keys {R : It → Hp → Prop} {d : Addr} {o : Obj} {kvs : List (Key × V)} (hσ : ∀ v, σ[i]? = some (some v) → v = .ref d) (hd : H d = some (.frz o (.dK kvs))) (h : rdI K XC F W (iKeyS i) σ H R) : iKeys (tVar i) σ H R := by
  obtain ⟨Acc, ι, ρ, μ, S, E, h⟩ := h
  unfold iKeyS at h
  have fin : ∀ (v : V) (ks : List Key) (vs : List V), σ[i]? = some (some v) → ¬ Liv Acc μ ι d → Rd H d (.dK (ks.zip vs)) → ks.length = vs.length →
      (∀ J H', Stp K Acc ι μ H ι μ H' → JR K J (.vals (keysD ks)) Acc ι μ H' → R J H') → iKeys (tVar i) σ H R := fun v ks vs e2 nl hrd hl h => by
    have ev := hσ v e2
    subst ev
    have ek : kvs = ks.zip vs := by
      have := rd_un (.inr ⟨o, hd⟩) hrd (fun _ _ z => by cases z) (fun _ _ z => by cases z)
      cases this; rfl
    subst ek
    exact ⟨_, e2, d, o, rfl, .inl ⟨_, hd, h _ H (.refl S) (jr_keys hd nl hl)⟩⟩
  cases e : ρ[i]? with
  | none => rw [e] at h; exact h.elim
  | some os =>
    cases os with
    | none => rw [e] at h; exact h.elim
    | some s =>
      obtain ⟨v, e2, rs⟩ := E.2 i s e
      rw [e] at h
      cases s with
      | dat x =>
        cases x with
        | dic ks ds =>
          simp only [SvR, Rep] at rs
          obtain ⟨a, vs, rfl, hrd, nl, l, r⟩ := rs
          have ev := hσ _ e2
          cases ev
          exact fin _ ks vs e2 nl hrd (by rw [l, r.len]) h
        | _ => exact h.elim
      | cel k =>
        simp only at h
        cases hc : μ[k]? with
        | none => rw [hc] at h; exact h.elim
        | some c =>
          rw [hc] at h
          obtain ⟨lv, cv⟩ := c
          cases lv with
          | true => exact h.elim
          | false =>
            cases cv with
            | lst _ => exact h.elim
            | dic ks ds =>
              obtain ⟨a, e3, rfl⟩ := id rs
              have ev := hσ _ e2
              cases ev
              obtain ⟨a', e4, r⟩ := S.cell k _ hc
              rw [e3] at e4; cases e4
              obtain ⟨vs, hrd, l, r⟩ := r
              refine fin _ ks vs e2 (fun z => ?_) hrd (by rw [l, r.len]) h
              rcases z with ⟨j, c', e5, l5, h5⟩ | z
              · have hi : k < ι.length := (List.getElem?_eq_some_iff.mp e3).1
                have : k = j := (List.getElem?_inj hi S.nd).mp (e3.trans h5.symm)
                subst this
                rw [hc] at e5; cases e5; cases l5
              · exact (S.acc _ z).1 (List.mem_of_getElem? e3)
/-- what slot i must be for the keys to be gone through -/
theorem key_slot {ρ : Env} {Acc : Addr → Prop} {ι : List Addr} {μ : Sto} (S : Sim K Acc μ ι H) (E : EnvR K (Liv Acc μ ι) ι H ρ σ) (h : ∀ r, iKeyS i F ρ (stillS i ρ μ) = r → r ≠ .bad) :
    ∃ (d : Addr) (kvs : List (Key × V)), (∀ v, σ[i]? = some (some v) → v = .ref d) ∧ Rd H d (.dK kvs) ∧ Stp K Acc ι μ H ι (stillS i ρ μ) H ∧ ¬ Liv Acc (stillS i ρ μ) ι d := by
  unfold iKeyS at h
  unfold stillS at h ⊢
  cases e : ρ[i]? with
  | none => rw [e] at h; exact absurd rfl (h _ rfl)
  | some os =>
    cases os with
    | none => rw [e] at h; exact absurd rfl (h _ rfl)
    | some s =>
      obtain ⟨v, e2, rs⟩ := E.2 i s e
      rw [e] at h
      cases s with
      | dat x =>
        cases x with
        | dic ks ds =>
          simp only [SvR, Rep] at rs
          obtain ⟨a, vs, rfl, hrd, nl, l, r⟩ := rs
          exact ⟨a, _, fun v z => by rw [e2] at z; cases z; rfl, hrd, .refl S, nl⟩
        | _ => exact absurd rfl (h _ rfl)
      | cel k =>
        simp only at h ⊢
        cases hc : μ[k]? with
        | none => rw [hc] at h; simp only [hc] at h; exact absurd rfl (h _ rfl)
        | some c =>
          rw [hc] at h
          have hk := (List.getElem?_eq_some_iff.mp hc).1
          simp only [List.getElem?_set_self hk] at h
          obtain ⟨lv, cv⟩ := c
          cases cv with
          | lst _ => exact absurd rfl (h _ rfl)
          | dic ks ds =>
            obtain ⟨a, e3, rfl⟩ := id rs
            obtain ⟨a', e4, r⟩ := S.cell k _ hc
            rw [e3] at e4; cases e4
            obtain ⟨vs, hrd, l, r⟩ := r
            obtain ⟨st, nl⟩ := S.still hc
            exact ⟨a, _, fun v z => by rw [e2] at z; cases z; rfl, hrd, st, nl a e3⟩
theorem lck_read {t : Tgt} {fi : SB} {fe : SE} {vs : List Nat} {Q : VK} (hsl : ∀ i ∈ t.slots, i ∈ vs) (h : rdE K XC F W (eLcK i t fi fe vs) σ H Q) :
    tLc (iKeys (tVar i)) (gT K t) (rdB K XC F W0 fi) (rdE K XC F W0 fe) vs σ H Q ∨ tLockE (tLc (iKeys (tVar i)) (gT K t) (rdB K XC F W0 fi) (rdE K XC F W0 fe) vs) σ H Q := by
  obtain ⟨Acc, ι, ρ, μ, S, E, h⟩ := h
  have hb : ∀ r, iKeyS i F ρ (stillS i ρ μ) = r → r ≠ .bad := fun r e z => by
    subst z
    unfold eLcK eLc at h
    rw [e] at h
    exact h
  obtain ⟨d, kvs, hσ, hrd, st, nl⟩ := key_slot S E hb
  have E1 := E.mv st S
  -- what the inner run gives
  have inner : ∀ (Hf : Hp) (Q' : VK), Sim K Acc (stillS i ρ μ) ι Hf → EnvR K (Liv Acc (stillS i ρ μ) ι) ι Hf ρ σ → (∀ r μ2 b H', Stp K Acc ι (stillS i ρ μ) Hf ι μ2 H' → relE K Acc μ2 ι Hf H' (.new (.lst r)) b →
      (∀ b H'', Stp K Acc ι μ H ι μ2 H'' → relE K Acc μ2 ι H H'' (.new (.lst r)) b → Q b H'') → Q' b H') → rdE K XC F W (eLc (iKeyS i) t fi fe vs) σ Hf Q' := fun Hf Q' Sf Ef hq => by
    refine ⟨Acc, ι, ρ, stillS i ρ μ, Sf, Ef, ?_⟩
    unfold eLcK at h
    cases el : eLc (iKeyS i) t fi fe vs F ρ (stillS i ρ μ) with
    | bad => rw [el] at h; exact h.elim
    | exc x μ2 => rw [el] at h; exact h.elim
    | ok v μ2 =>
      rw [el] at h
      cases v with
      | dat _ => exact h.elim
      | cel _ => exact h.elim
      | new c =>
        cases c with
        | dic _ _ => exact h.elim
        | lst r => exact fun b H' t' rl => hq r μ2 b H' t' rl h
  rcases hrd with hd | ⟨o, hd⟩
  · refine .inr ⟨d, .dK kvs, hd, True.intro, fun od => ?_⟩
    have q : Fq H (upd H d (.frz od (.dK kvs))) d kvs := ⟨fun a h => by rw [upd_ne h], .inl hd, .inr ⟨od, upd_same⟩⟩
    have rr := inner (upd H d (.frz od (.dK kvs))) (fun v H' => H' d = some (.frz od (.dK kvs)) ∧ Q v (upd H' d (.dK kvs))) (st.sim.fq q nl) (E1.fq q) fun r μ2 b H' t' rl h => by
      obtain ⟨u1, u2, u3, u4⟩ := Stp.unl st.sim hd nl t'
      refine ⟨u1, h b _ (st.trans u4) ?_⟩
      refine relE.fq rfl u3 (fun p hp => ?_) u2 rl
      have ne : p ≠ d := fun z => by rw [z, upd_same] at hp; cases hp
      rw [upd_ne ne] at hp
      exact ⟨hp, ne⟩
    have lr := lc_read hsl rr
    exact rdI_keys hσ upd_same lr
  · refine .inl ?_
    have rr := inner H Q st.sim E1 fun r μ2 b H' t' rl h => h b _ (st.trans t') rl
    exact rdI_keys hσ hd (lc_read hsl rr)
end
section
variable {X : Cx} {XC : Nat → Addr} {F : Fns} {W : WX} {elt tg : Expr} {ifs : List Expr} {pos ip : Pos}
theorem PE.or {e : Expr} {t t' : TE} (h : PE X e t) (g : PE X e t') : PE X e (fun σ H Q => t σ H Q ∨ t' σ H Q) := ⟨fun pins s σ H Q I z => z.elim (h.run pins s σ H Q I) (g.run pins s σ H Q I)⟩
theorem c_lck {i : Nat} {x : Str} {scope : Scope} {own : List (Str × Nat)} {t : Tgt} {fc : SB} {fe : SE} {vs : List Nat} (hc : X.calm = true) (hN : X.N.Nodup) (hi : PE X (.Name x ip) (tVar i)) (ok : BlkOk X.N X.env.scope scope own) (hsl : ∀ i ∈ t.slots, i ∈ vs) (hv : own.map (·.2) = vs)
    (hg : ∀ (s : Shared) (H : Hp) (C : Addr) (cl : List (Str × Addr)) (fp : List Addr), PG (X.blk s H scope (compEnvC scope cl C X.env) fp) tg (gT X.K t))
    (ht : ∀ (s : Shared) (H : Hp) (C : Addr) (cl : List (Str × Addr)) (fp : List Addr), PTs (X.blk s H scope (compEnvC scope cl C X.env) fp) ifs (rdB X.K XC F W0 fc))
    (he : ∀ (s : Shared) (H : Hp) (C : Addr) (cl : List (Str × Addr)) (fp : List Addr), PE (X.blk s H scope (compEnvC scope cl C X.env) fp) elt (rdE X.K XC F W0 fe)) (hs : ∀ x', foldedSetIterable (.Name x ip) X.env x' = pure x' := by intro _; rfl) :
    PE X (.ListComp elt [⟨tg, .Name x ip, ifs, 0⟩] scope pos) (rdE X.K XC F W (eLcK i t fc fe vs)) := by
  subst hv
  have p1 := pe_lc (pos := pos) hc hN (pi_keys hi) ok hg ht he hs
  exact PEimp (PE.or p1 (pe_lock p1)) fun σ H Q h => lck_read hsl h
theorem w_n (i : Nat) {x : Str} (hN : X.N[i]? = some x := by rfl) (hv : Vis X.env.scope x := by first | exact Or.inl rfl | exact Or.inr (Or.inl rfl) | exact Or.inr (Or.inr rfl)) (hd : (x == ("__debug__" : Str)) = false := by decide) (hcd : (x == ("__classdict__" : Str)) = false := by decide) : PE X (.Name x pos) (tVar i) := pe_var hN hv hd hcd
end
end VM
/-! Loops over a dict's keys. -/
namespace VM
open PySem L2 PyProof.Rows
section
variable {K : PySem.W.Frag} {XC : Nat → Addr} {F : Fns} {W : WX}
theorem for_read {fi : SI} {g : SG} {fb : SS} {D : Ends} {σ : L2.St} {H : Hp} (h : rdS K XC F W (sFor fi g fb) D σ H) : tFor (rdI K XC F W fi) (rdG K XC F W g) (rdS K XC F W fb) D σ H := by
  obtain ⟨Acc, ι, ρ, μ, S, E, h⟩ := h
  refine ⟨Acc, ι, ρ, μ, S, E, ?_⟩
  unfold sFor at h
  cases e0 : fi F ρ μ with
  | bad => rw [e0] at h; exact h
  | exc x μ1 => rw [e0] at h; exact fun c d H' t e => h ι H' c d σ t e
  | ok s μ1 =>
    rw [e0] at h
    simp only [Res.bind] at h
    intro J H1 t1 jr
    refine ⟨fun i m σ H => ∃ (Acc' : Addr → Prop) (ι' : List Addr) (ρ' : Env) (μ' : Sto), Sim K Acc' μ' ι' H ∧ EnvR K (Liv Acc' μ' ι') ι' H ρ' σ ∧ Mv (Liv Acc μ1 ι) H1 (Liv Acc' μ' ι') H ∧ (∀ (k : Nat) a, ι[k]? = some a → ι'[k]? = some a) ∧
      wpS K XC W Acc' ι' μ' H (forL F s g fb m i ρ' μ') D, ⟨s.len μ1 + 1, Acc, ι, ρ, μ1, t1.sim, E.mv t1 S, fun a o e n => ⟨e, n⟩, fun k a e => e, wpS.shift t1 h⟩, ?_⟩
    rintro i m σ' H' ⟨Acc', ι', ρ', μ', S', E', m', pr, h'⟩
    cases m with
    | zero => exact h'.elim
    | succ m =>
      unfold forL at h'
      cases ea : s.at μ' with
      | none => rw [ea] at h'; exact h'.elim
      | some ds =>
        rw [ea] at h'
        simp only at h'
        have j := jr Acc' ι' μ' H' S' m' pr ds ea i
        cases ei : ds[i]? with
        | none =>
          rw [ei] at h'
          exact .inl ⟨j.2 (List.getElem?_eq_none_iff.mp ei), h' ι' H' σ' (.refl S') E'⟩
        | some d =>
          rw [ei] at h'
          simp only at h'
          obtain ⟨jg, jy⟩ := j.1 d ei
          refine .inr ⟨jg, fun σ H => ∃ (Acc' : Addr → Prop) (ι' : List Addr) (ρ' : Env) (μ' : Sto), Sim K Acc' μ' ι' H ∧ EnvR K (Liv Acc' μ' ι') ι' H ρ' σ ∧ Mv (Liv Acc μ1 ι) H1 (Liv Acc' μ' ι') H ∧ (∀ (k : Nat) a, ι[k]? = some a → ι'[k]? = some a) ∧
            wpS K XC W Acc' ι' μ' H (forL F s g fb m (i + 1) ρ' μ') D, fun σ2 H2 q => ⟨m, Nat.lt_succ_self m, q⟩, fun x Hy hy => ?_⟩
          obtain ⟨ty, ry⟩ := jy x Hy hy
          refine ⟨Acc', ι', ρ', μ', d, ty.sim, E'.mv ty S', ry, ?_⟩
          replace h' := wpS.shift ty h'
          have my := m'.trans (ty.mv S')
          cases eg : g d F ρ' μ' with
          | bad => rw [eg] at h'; exact h'
          | exc x2 μ2 => rw [eg] at h'; exact fun c d σ2 H2 t2 e2 => h' ι' H2 c d σ2 t2 e2
          | ok ρ2 μ2 =>
            rw [eg] at h'
            simp only [Res.bind] at h'
            intro σ2 H2 t2 E2
            refine ⟨Acc', ι', ρ2, μ2, t2.sim, E2, ?_⟩
            replace h' := wpS.shift t2 h'
            have my2 := my.trans (t2.mv ty.sim)
            cases eb : fb F ρ2 μ2 with
            | bad => rw [eb] at h'; exact h'
            | exc x3 μ3 => rw [eb] at h'; exact h'
            | ok o μ3 =>
              rw [eb] at h'
              cases o with
              | rt v => exact h'
              | bk ρ3 => exact fun ι3 H3 σ3 t3 E3 => h' ι3 H3 σ3 t3 E3
              | nx ρ3 => exact fun ι3 H3 σ3 t3 E3 => ⟨Acc', ι3, ρ3, μ3, t3.sim, E3, my2.trans (t3.mv t2.sim), fun k a e => t3.get (pr k a e), wpS.shift t3 h'⟩
              | ct ρ3 => exact fun ι3 H3 σ3 t3 E3 => ⟨Acc', ι3, ρ3, μ3, t3.sim, E3, my2.trans (t3.mv t2.sim), fun k a e => t3.get (pr k a e), wpS.shift t3 h'⟩
end
section
variable {K : PySem.W.Frag} {XC : Nat → Addr} {F : Fns} {W : WX} {Acc : Addr → Prop} {ι ι' : List Addr} {μ μ2 : Sto} {H H' : Hp} {d : Addr} {kvs : List (Key × V)} {σ : L2.St}
theorem Stp.unl' {od : Obj} (S : Sim K Acc μ ι H) (hd : H d = some (.dK kvs)) (nl : ¬ Liv Acc μ ι d) (t : Stp K Acc ι μ (upd H d (.frz od (.dK kvs))) ι' μ2 H') : H' d = some (.frz od (.dK kvs)) ∧ ¬ Liv Acc μ2 ι' d ∧ Fq H' (upd H' d (.dK kvs)) d kvs ∧ Stp K Acc ι μ H ι' μ2 (upd H' d (.dK kvs)) := by
  have q : Fq H (upd H d (.frz od (.dK kvs))) d kvs := ⟨fun a h => by rw [upd_ne h], .inl hd, .inr ⟨od, upd_same⟩⟩
  have mv := t.mv (S.fq q nl) d _ upd_same nl
  have q2 : Fq H' (upd H' d (.dK kvs)) d kvs := ⟨fun a h => by rw [upd_ne h], .inr ⟨od, mv.1⟩, .inl upd_same⟩
  have back : ∀ a, upd H d (.frz od (.dK kvs)) a = none → H a = none := fun a z => Classical.byContradiction fun z2 => q.trk z2 z
  obtain ⟨ex, e1, e2⟩ := t.pre
  refine ⟨mv.1, mv.2, q2, t.sim.fq q2 mv.2, ⟨ex, e1, fun a ha => back a (e2 a ha)⟩, fun a o e n => ?_, fun a h => q2.trk (t.trk a (q.trk h)), fun a h => (t.liv a h).imp id (back a)⟩
  by_cases e3 : a = d
  · subst e3; rw [upd_same, ← hd, e]
  · rw [upd_ne e3]
    exact t.keep a o (by rw [upd_ne e3]; exact e) n
theorem EvR.fq {L : Addr → Prop} {Hb Hb' : Hp} {e : EV} {v : V} (q : Fq H H' d kvs) (hb : ∀ p, Hb p = none → Hb' p = none) (h : EvR K L ι Hb H e v) : EvR K L ι Hb' H' e v := by
  cases e with
  | dat x => exact q.rep _ _ h
  | cel k => exact h
  | new c => obtain ⟨p, e, n, r⟩ := h; exact ⟨p, e, hb p n, q.cv r⟩
theorem OwnR.fq {Hb : Hp} {e : EV} {v : V} (q : Fq H H' d kvs) (nl : ¬ Liv Acc μ ι d) (hb : ∀ p, Hb p = none → p ≠ d) (r : EvR K (Liv Acc μ ι) ι Hb H e v) (h : OwnR K Acc μ ι H e v) : OwnR K Acc μ ι H' e v := by
  cases e with
  | dat x => trivial
  | cel k => trivial
  | new c =>
    intro p' e'
    obtain ⟨s1, c1⟩ := h p' e'
    obtain ⟨p, e, n, _⟩ := r
    have ep : p = p' := by rw [e] at e'; injection e'
    have nl2 : ¬ Liv (fun a => Acc a ∨ a = p') μ ι d := fun z => by
      rcases z with z | z | z
      · exact nl (.inl z)
      · exact nl (.inr z)
      · exact hb p n (ep.trans z.symm)
    exact ⟨s1.fq q nl2, q.cv c1⟩
/-- the ends behind a lock -/
def lkE (d : Addr) (od : Obj) (u : HO) (D : Ends) : Ends := ⟨fun σ' H' => H' d = some (.frz od u) ∧ D.nx σ' (upd H' d u), fun v H' => H' d = some (.frz od u) ∧ D.rt v (upd H' d u), fun σ' H' => H' d = some (.frz od u) ∧ D.bk σ' (upd H' d u), fun σ' H' => H' d = some (.frz od u) ∧ D.ct σ' (upd H' d u)⟩
theorem wpS.lock {od : Obj} {r : Res SO} {D : Ends} (S : Sim K Acc μ ι H) (hd : H d = some (.dK kvs)) (nl : ¬ Liv Acc μ ι d) (hx : ∀ x μ', r ≠ .exc x μ') (h : wpS K XC W Acc ι μ H r D) : wpS K XC W Acc ι μ (upd H d (.frz od (.dK kvs))) r (lkE d od (.dK kvs) D) := by
  cases r with
  | bad => exact h
  | exc x μ' => exact absurd rfl (hx x μ')
  | ok o μ' =>
    cases o with
    | nx ρ' => exact fun ι' H' σ' t' e => let ⟨u1, u2, u3, u4⟩ := Stp.unl' S hd nl t'; ⟨u1, h ι' _ σ' u4 (e.fq u3)⟩
    | bk ρ' => exact fun ι' H' σ' t' e => let ⟨u1, u2, u3, u4⟩ := Stp.unl' S hd nl t'; ⟨u1, h ι' _ σ' u4 (e.fq u3)⟩
    | ct ρ' => exact fun ι' H' σ' t' e => let ⟨u1, u2, u3, u4⟩ := Stp.unl' S hd nl t'; ⟨u1, h ι' _ σ' u4 (e.fq u3)⟩
    | rt v =>
      intro ι' H' u t' e o
      obtain ⟨u1, u2, u3, u4⟩ := Stp.unl' S hd nl t'
      have hb : ∀ p, upd H d (.frz od (.dK kvs)) p = none → H p = none ∧ p ≠ d := fun p hp => by
        have ne : p ≠ d := fun z => by rw [z, upd_same] at hp; cases hp
        rw [upd_ne ne] at hp
        exact ⟨hp, ne⟩
      exact ⟨u1, h ι' _ u u4 (e.fq u3 fun p hp => (hb p hp).1) (OwnR.fq u3 u2 (fun p hp => (hb p hp).2) e o)⟩
end
def sForK (i : Nat) (g : SG) (b : SS) : SS := fun F ρ μ => match sFor (iKeyS i) g b F ρ (stillS i ρ μ) with
  | .exc _ _ => .bad
  | r => r
section
variable {K : PySem.W.Frag} {XC : Nat → Addr} {F : Fns} {W : WX} {σ : L2.St} {H : Hp} {i : Nat}
theorem fork_read {g : SG} {fb : SS} {D : Ends} (h : rdS K XC F W (sForK i g fb) D σ H) :
    tFor (iKeys (tVar i)) (rdG K XC F W g) (rdS K XC F W fb) D σ H ∨ tLock (tFor (iKeys (tVar i)) (rdG K XC F W g) (rdS K XC F W fb)) D σ H := by
  obtain ⟨Acc, ι, ρ, μ, S, E, h⟩ := h
  unfold sForK at h
  have hb : ∀ r, iKeyS i F ρ (stillS i ρ μ) = r → r ≠ .bad := fun r e z => by
    subst z
    unfold sFor at h
    rw [e] at h
    exact h
  obtain ⟨d, kvs, hσ, hrd, st, nl⟩ := key_slot S E hb
  have E1 := E.mv st S
  cases ef : sFor (iKeyS i) g fb F ρ (stillS i ρ μ) with
  | bad => rw [ef] at h; exact h.elim
  | exc x μ' => rw [ef] at h; exact h.elim
  | ok o μ' =>
    rw [ef] at h
    have h2 := wpS.shift st h
    rcases hrd with hd | ⟨od, hd⟩
    · refine .inr ⟨d, .dK kvs, hd, True.intro, fun od => ?_⟩
      have q : Fq H (upd H d (.frz od (.dK kvs))) d kvs := ⟨fun a h => by rw [upd_ne h], .inl hd, .inr ⟨od, upd_same⟩⟩
      have rr : rdS K XC F W (sFor (iKeyS i) g fb) (lkE d od (.dK kvs) D) σ (upd H d (.frz od (.dK kvs))) := ⟨Acc, ι, ρ, stillS i ρ μ, st.sim.fq q nl, E1.fq q, by
        rw [ef]
        exact wpS.lock st.sim hd nl (fun x m z => by cases z) h2⟩
      exact rdI_keys hσ upd_same (for_read rr)
    · refine .inl ?_
      have rr : rdS K XC F W (sFor (iKeyS i) g fb) D σ H := ⟨Acc, ι, ρ, stillS i ρ μ, st.sim, E1, by rw [ef]; exact h2⟩
      exact rdI_keys hσ hd (for_read rr)
end
section
variable {X : Cx} {XC : Nat → Addr} {F : Fns} {W : WX} {pos ip : Pos}
theorem PS.or {st : Stmt} {t t' : TS} (h : PS X st t) (g : PS X st t') : PS X st (fun D σ H => t D σ H ∨ t' D σ H) := ⟨fun pins s σ H D I z => z.elim (h.run pins s σ H D I) (g.run pins s σ H D I)⟩
theorem s_fork {tg : Expr} {x : Str} {body : List Stmt} {i : Nat} {g : SG} {fb : SS} (hp : PassesOwn (model X.prog X.w) X.A X.env X.xe) (hc : X.calm = true) (hi : PE X (.Name x ip) (tVar i)) (hg : PG X tg (rdG X.K XC F W g)) (hb : PSs X body (rdS X.K XC F W fb))
    (hs : ∀ x', foldedSetIterable (.Name x ip) X.env x' = pure x' := by intro _; rfl) : PS X (.For tg (.Name x ip) body [] pos) (rdS X.K XC F W (sForK i g fb)) := by
  have p1 := ps_for (pos := pos) hp hc (pi_keys hi) hg hb hs
  exact PSimp (PS.or p1 (ps_lock p1)) fun D σ H h => fork_read h
end
end VM
set_option maxHeartbeats 0
namespace Law
open PySem L2 VM PyProof.Rows
def top (i : Nat) : Stmt := PySem.Challenge.pw_nearestpattern_k16_whole_matching_by_own.main.body.getD i (.Pass ⟨0, 0, 0, 0⟩)
abbrev S_is_integer : Stmt := top 7
abbrev S_want_at_most : Stmt := top 8
abbrev S_is_name : Stmt := top 19
abbrev S_is_variable : Stmt := top 20
abbrev S_is_head : Stmt := top 21
abbrev S_is_rest : Stmt := top 22
abbrev S_is_applied : Stmt := top 23
abbrev S_standings : Stmt := top 24
abbrev S_have_one_sort : Stmt := top 25
abbrev S_pieces : Stmt := top 26
abbrev S_variables_of : Stmt := top 27
abbrev S_nodes_of : Stmt := top 28
abbrev S_is_term : Stmt := top 29
abbrev S_want_term : Stmt := top 30
abbrev S_filled_args : Stmt := top 31
abbrev S_fill : Stmt := top 32
abbrev S_are_args : Stmt := top 33
abbrev S_fits_sort : Stmt := top 34
abbrev S_is_filling_of : Stmt := top 35
abbrev S_filled : Stmt := top 36
abbrev S_is_held : Stmt := top 38
abbrev S_matched_args : Stmt := top 39
abbrev S_matching : Stmt := top 40
abbrev S_is_instance : Stmt := top 41
abbrev S_matched : Stmt := top 42
abbrev S_is_below : Stmt := top 43
abbrev S__law_pot : Stmt := top 45
abbrev S__law_draw : Stmt := top 46
abbrev S__law_pick : Stmt := top 47
abbrev S__law_term : Stmt := top 48
abbrev S__law_great : Stmt := top 49
abbrev S__law_nodes : Stmt := top 50
abbrev S__law_is_rest : Stmt := top 51
abbrev S__law_variables : Stmt := top 52
abbrev S__law_filling : Stmt := top 53
abbrev S__law_filled : Stmt := top 54
abbrev S__law_kept : Stmt := top 55
abbrev S__law_matched : Stmt := top 56
abbrev S__law_args_matched : Stmt := top 57
abbrev S__law_spoiled : Stmt := top 58
abbrev S__law_one_right : Stmt := top 59
abbrev S_law : Stmt := top 60
abbrev N_is_integer : List Str := ["value"]
abbrev N_want_at_most : List Str := ["what", "limit", "number"]
abbrev N_is_name : List Str := ["value", "sign"]
abbrev N_is_variable : List Str := ["value", "sign"]
abbrev N_is_head : List Str := ["value"]
abbrev N_is_rest : List Str := ["value"]
abbrev N_is_applied : List Str := ["value"]
abbrev N_standings : List Str := ["value", "found", "waiting", "here", "is_last", "last", "at"]
abbrev N_have_one_sort : List Str := ["found", "sorts", "sort", "variable"]
abbrev N_pieces : List Str := ["term", "found", "waiting", "here", "level", "arg"]
abbrev N_variables_of : List Str := ["term", "found", "known", "sort", "variable"]
abbrev N_nodes_of : List Str := ["term"]
abbrev N_is_term : List Str := ["value", "found"]
abbrev N_want_term : List Str := ["value"]
abbrev N_filled_args : List Str := ["args", "filling", "found", "arg"]
abbrev N_fill : List Str := ["term", "filling"]
abbrev N_are_args : List Str := ["value", "last", "at", "arg"]
abbrev N_fits_sort : List Str := ["sort", "value"]
abbrev N_is_filling_of : List Str := ["term", "value", "sorts", "sort", "variable", "key"]
abbrev N_filled : List Str := ["term", "filling", "found"]
abbrev N_is_held : List Str := ["found", "variable", "thing"]
abbrev N_matched_args : List Str := ["found", "near", "far", "many", "pairs", "one", "other"]
abbrev N_matching : List Str := ["pattern", "term", "found", "left", "near", "far", "is_same", "pairs"]
abbrev N_is_instance : List Str := ["term", "other"]
abbrev N_matched : List Str := ["pattern", "term"]
abbrev N_is_below : List Str := ["term", "other"]
abbrev N__law_pot : List Str := ["script", "k", "cell"]
abbrev N__law_draw : List Str := ["pot", "many", "digit"]
abbrev N__law_pick : List Str := ["pot", "some"]
abbrev N__law_term : List Str := ["pot", "deep", "way", "args", "turn"]
abbrev N__law_great : List Str := ["pot", "args", "found", "turn", "near"]
abbrev N__law_nodes : List Str := ["term", "arg"]
abbrev N__law_is_rest : List Str := ["arg"]
abbrev N__law_variables : List Str := ["term", "found", "arg"]
abbrev N__law_filling : List Str := ["pot", "term", "found", "variable", "some", "turn"]
abbrev N__law_filled : List Str := ["term", "filling", "args", "arg", "head"]
abbrev N__law_kept : List Str := ["found", "variable", "value", "late"]
abbrev N__law_matched : List Str := ["pattern", "term", "found"]
abbrev N__law_args_matched : List Str := ["args", "others", "found", "rest", "many", "one", "other"]
abbrev N__law_spoiled : List Str := ["pot", "term", "deep", "at", "way", "args"]
abbrev N__law_one_right : List Str := ["pattern", "term", "due", "told"]
abbrev N_law : List Str := ["script", "pot", "pattern", "filling", "term", "other"]
def P_is_integer : SS := sRet (eAnd (eIsi .int (eV 0)) (eNot (eIsi .bool (eV 0))))
def P_want_at_most : SS := sIf (bCmp (opCmp .Gt) (eV 2) (eV 1)) (sNever) (sPass)
def P_is_name : SS := sSeq (sIf (bOr (bNot (bTru (eIsi .str (eV 0)))) (bOr (bNot (bChain (opCmp .LtE) (opCmp .LtE) (eC (.int 1)) (eCb bLen (evs [eV 0])) (eC (.int 8)))) (bCmp (opCmp .NotIn) (eIx (eV 0) (eC (.int 0))) (eC (.str "abcdefghijklmnopqrstuvwxyz"))))) (sRet (eC (.bl false))) (sPass)) (sRet (eCb bAll (evs [eLc (iOf (eV 0)) (.nm 1) (bYes) (eOr (eCmp (opCmp .In) (eV 1) (eC (.str "abcdefghijklmnopqrstuvwxyz"))) (eCmp (opCmp .In) (eV 1) (eC (.str "0123456789")))) [1]])))
def P_is_variable : SS := sSeq (sIf (bOr (bNot (bTru (eIsi .str (eV 0)))) (bOr (bNot (bChain (opCmp .LtE) (opCmp .LtE) (eC (.int 1)) (eCb bLen (evs [eV 0])) (eBin .Add (eC (.int 2)) (eC (.int 1))))) (bCmp (opCmp .NotIn) (eIx (eV 0) (eC (.int 0))) (eC (.str "ABCDEFGHIJKLMNOPQRSTUVWXYZ"))))) (sRet (eC (.bl false))) (sPass)) (sRet (eCb bAll (evs [eLc (iOf (eSl (eV 0) (oSome (eC (.int 1))) (oNone))) (.nm 1) (bYes) (eCmp (opCmp .In) (eV 1) (eC (.str "0123456789"))) [1]])))
def P_is_head : SS := sRet (eOr (eCall 2 (evs [eV 0])) (eCall 3 (evs [eV 0])))
def P_is_rest : SS := sRet (eAnd (eIsi .str (eV 0)) (eAnd (eCmp (opCmp .Eq) (eSl (eV 0) (oNone) (oSome (eC (.int 1)))) (eC (.str "*"))) (eCall 3 (evs [eSl (eV 0) (oSome (eC (.int 1))) (oNone)]))))
def P_is_applied : SS := sRet (eAnd (eIsi .tuple (eV 0)) (eCmp (opCmp .Eq) (eCb bLen (evs [eV 0])) (eC (.int 2))))
def P_standings : SS := sSeq (sPar 1 2 (eLst (evs [])) (eLst (evs [eTup (evs [eV 0, eC (.bl false)])]))) (sSeq (sWhile (bCmp (opCmp .NotEq) (eV 2) (eLst (evs []))) (sSeq (sAsg (eCM aPop (eV 2) (evs [])) (gTp [gNm 3, gNm 4])) (sIf (bTru (eCall 3 (evs [eV 3]))) (sDrop (eCM aAppend (eV 1) (evs [eTup (evs [eC (.str "term"), eV 3])]))) (sIf (bAnd (bTru (eV 4)) (bTru (eCall 5 (evs [eV 3])))) (sDrop (eCM aAppend (eV 1) (evs [eTup (evs [eC (.str "rest"), eSl (eV 3) (oSome (eC (.int 1))) (oNone)])]))) (sIf (bAnd (bTru (eCall 6 (evs [eV 3]))) (bAnd (bTru (eCall 4 (evs [eIx (eV 3) (eC (.int 0))]))) (bTru (eIsi .tuple (eIx (eV 3) (eC (.int 1))))))) (sSeq (sIf (bTru (eCall 3 (evs [eIx (eV 3) (eC (.int 0))]))) (sDrop (eCM aAppend (eV 1) (evs [eTup (evs [eC (.str "head"), eIx (eV 3) (eC (.int 0))])]))) (sPass)) (sSeq (sSet 5 (eBin .Sub (eCb bLen (evs [eIx (eV 3) (eC (.int 1))])) (eC (.int 1)))) (sDrop (eCM aExtend (eV 2) (evs [eLc (iRange (evs [eV 5, eNeg (eC (.int 1)), eNeg (eC (.int 1))])) (.nm 6) (bYes) (eTup (evs [eIx (eIx (eV 3) (eC (.int 1))) (eV 6), eCmp (opCmp .Eq) (eV 6) (eV 5)])) [6]]))))) (sIf (bNot (bTru (eCall 0 (evs [eV 3])))) (sRet (eC .non)) (sPass))))))) (sRet (eV 1)))
def P_have_one_sort : SS := sSeq (sSet 1 (eDict0)) (sRet (eCb bAll (evs [eLc (iOf (eV 0)) (.tup [.nm 2, .nm 3]) (bYes) (eCmp (opCmp .Eq) (eSetd (eV 1) (eV 3) (eV 2)) (eV 2)) [2, 3]])))
def P_pieces : SS := sSeq (sPar 1 2 (eLst (evs [])) (eLst (evs [eTup (evs [eV 0, eC (.int 1)])]))) (sSeq (sWhile (bCmp (opCmp .NotEq) (eV 2) (eLst (evs []))) (sSeq (sAsg (eCM aPop (eV 2) (evs [])) (gTp [gNm 3, gNm 4])) (sSeq (sDrop (eCM aAppend (eV 1) (evs [eTup (evs [eV 3, eV 4])]))) (sIf (bTru (eCall 6 (evs [eV 3]))) (sDrop (eCM aExtend (eV 2) (evs [eLc (iOf (eRev (eIx (eV 3) (eC (.int 1))))) (.nm 5) (bYes) (eTup (evs [eV 5, eBin .Add (eV 4) (eC (.int 1))])) [5]]))) (sPass))))) (sRet (eV 1)))
def P_variables_of : SS := sSeq (sPar 1 2 (eLst (evs [])) (eDict0)) (sSeq (sFor (iOf (eCall 7 (evs [eV 0]))) (gTp [gNm 3, gNm 4]) (sIf (bCmp (opCmp .NotIn) (eV 4) (eV 2)) (sSeq (sDrop (eCM aAppend (eV 1) (evs [eTup (evs [eV 3, eV 4])]))) (sAsg (eC (.bl true)) (gSb (eV 2) (eV 4)))) (sPass))) (sRet (eV 1)))
def P_nodes_of : SS := sRet (eCb bLen (evs [eCall 9 (evs [eV 0])]))
def P_is_term : SS := sSeq (sSet 1 (eCall 7 (evs [eV 0]))) (sRet (eAnd (eCmp (opCmp .IsNot) (eV 1) (eC .non)) (eCall 8 (evs [eV 1]))))
def P_want_term : SS := sSeq (sIf (bNot (bTru (eCall 12 (evs [eV 0])))) (sNever) (sPass)) (sRet (eV 0))
def P_filled_args : SS := sSeq (sSet 2 (eLst (evs []))) (sSeq (sFor (iOf (eV 0)) (gNm 3) (sIf (bTru (eCall 5 (evs [eV 3]))) (sDrop (eCM aExtend (eV 2) (evs [eGet2 (eV 1) (eSl (eV 3) (oSome (eC (.int 1))) (oNone)) (eTup (evs [eV 3]))]))) (sDrop (eCM aAppend (eV 2) (evs [eCall 15 (evs [eV 3, eV 1])]))))) (sRet (eCb bTuple (evs [eV 2]))))
def P_fill : SS := sSeq (sIf (bTru (eCall 6 (evs [eV 0]))) (sRet (eTup (evs [eGet2 (eV 1) (eIx (eV 0) (eC (.int 0))) (eIx (eV 0) (eC (.int 0))), eCall 14 (evs [eIx (eV 0) (eC (.int 1)), eV 1])]))) (sPass)) (sRet (eIf (bTru (eIsi .str (eV 0))) (eGet2 (eV 1) (eV 0) (eV 0)) (eV 0)))
def P_are_args : SS := sSeq (sIf (bNot (bTru (eIsi .tuple (eV 0)))) (sRet (eC (.bl false))) (sPass)) (sSeq (sSet 1 (eBin .Sub (eCb bLen (evs [eV 0])) (eC (.int 1)))) (sRet (eCb bAll (evs [eLc (iEnm (eV 0)) (.tup [.nm 2, .nm 3]) (bYes) (eOr (eCall 12 (evs [eV 3])) (eAnd (eCmp (opCmp .Eq) (eV 2) (eV 1)) (eCall 5 (evs [eV 3])))) [2, 3]]))))
def P_fits_sort : SS := sSeq (sIf (bCmp (opCmp .Eq) (eV 0) (eC (.str "term"))) (sRet (eCall 12 (evs [eV 1]))) (sPass)) (sRet (eIf (bCmp (opCmp .Eq) (eV 0) (eC (.str "head"))) (eCall 4 (evs [eV 1])) (eCall 16 (evs [eV 1]))))
def P_is_filling_of : SS := sSeq (sIf (bNot (bTru (eIsi .dict (eV 1)))) (sRet (eC (.bl false))) (sPass)) (sSeq (sSet 2 (eDict0)) (sSeq (sFor (iOf (eCall 10 (evs [eV 0]))) (gTp [gNm 3, gNm 4]) (sAsg (eV 3) (gSb (eV 2) (eV 4)))) (sSeq (sForK 1 (gNm 5) (sIf (bOr (bNot (bTru (eCall 3 (evs [eV 5])))) (bOr (bCmp (opCmp .NotIn) (eV 5) (eV 2)) (bNot (bTru (eCall 17 (evs [eIx (eV 2) (eV 5), eIx (eV 1) (eV 5)])))))) (sRet (eC (.bl false))) (sPass))) (sRet (eCall 12 (evs [eCall 15 (evs [eV 0, eV 1])]))))))
def P_filled : SS := sSeq (sIf (bNot (bTru (eCall 18 (evs [eCall 13 (evs [eV 0]), eV 1])))) (sNever) (sPass)) (sSeq (sSet 2 (eCall 15 (evs [eV 0, eV 1]))) (sSeq (sDrop (eCall 1 (evs [eC (.str "nodes"), eC (.int 200), eCall 11 (evs [eV 2])]))) (sRet (eV 2))))
def P_is_held : SS := sSeq (sIf (bCmp (opCmp .In) (eV 1) (eV 0)) (sRet (eCmp (opCmp .Eq) (eIx (eV 0) (eV 1)) (eV 2))) (sPass)) (sSeq (sAsg (eV 2) (gSb (eV 0) (eV 1))) (sRet (eC (.bl true))))
def P_matched_args : SS := sSeq (sSet 3 (eCb bLen (evs [eV 1]))) (sSeq (sIf (bAnd (bCmp (opCmp .NotEq) (eV 1) (eTup (evs []))) (bTru (eCall 5 (evs [eIx (eV 1) (eNeg (eC (.int 1)))])))) (sSeq (sSet 3 (eBin .Sub (eV 3) (eC (.int 1)))) (sIf (bOr (bCmp (opCmp .Lt) (eCb bLen (evs [eV 2])) (eV 3)) (bNot (bTru (eCall 20 (evs [eV 0, eSl (eIx (eV 1) (eNeg (eC (.int 1)))) (oSome (eC (.int 1))) (oNone), eSl (eV 2) (oSome (eV 3)) (oNone)]))))) (sRet (eC .non)) (sPass))) (sIf (bCmp (opCmp .NotEq) (eCb bLen (evs [eV 2])) (eV 3)) (sRet (eC .non)) (sPass))) (sSeq (sSet 4 (eCb fLzip (evs [eSl (eV 1) (oNone) (oSome (eV 3)), eSl (eV 2) (oNone) (oSome (eV 3))]))) (sRet (eIf (bTru (eCb bAny (evs [eLc (iOf (eV 4)) (.tup [.nm 5, .nm 6]) (bYes) (eCall 5 (evs [eV 6])) [5, 6]]))) (eC .non) (eV 4)))))
def P_matching : SS := sSeq (sPar 2 3 (eDict0) (eLst (evs [eTup (evs [eV 0, eV 1])]))) (sSeq (sWhile (bCmp (opCmp .NotEq) (eV 3) (eLst (evs []))) (sSeq (sAsg (eCM aPop (eV 3) (evs [])) (gTp [gNm 4, gNm 5])) (sIf (bTru (eCall 3 (evs [eV 4]))) (sIf (bNot (bTru (eCall 20 (evs [eV 2, eV 4, eV 5])))) (sRet (eC .non)) (sPass)) (sIf (bOr (bNot (bTru (eCall 6 (evs [eV 4])))) (bNot (bTru (eCall 6 (evs [eV 5]))))) (sIf (bCmp (opCmp .NotEq) (eV 4) (eV 5)) (sRet (eC .non)) (sPass)) (sSeq (sSet 6 (eIf (bTru (eCall 3 (evs [eIx (eV 4) (eC (.int 0))]))) (eCall 20 (evs [eV 2, eIx (eV 4) (eC (.int 0)), eIx (eV 5) (eC (.int 0))])) (eCmp (opCmp .Eq) (eIx (eV 4) (eC (.int 0))) (eIx (eV 5) (eC (.int 0)))))) (sSeq (sSet 7 (eIf (bTru (eV 6)) (eCall 21 (evs [eV 2, eIx (eV 4) (eC (.int 1)), eIx (eV 5) (eC (.int 1))])) (eC .non))) (sSeq (sIf (bCmp (opCmp .Is) (eV 7) (eC .non)) (sRet (eC .non)) (sPass)) (sDrop (eCM aExtend (eV 3) (evs [eV 7])))))))))) (sRet (eV 2)))
def P_is_instance : SS := sRet (eCmp (opCmp .IsNot) (eCall 22 (evs [eV 1, eV 0])) (eC .non))
def P_matched : SS := sSeq (sDrop (eCall 13 (evs [eV 0]))) (sSeq (sDrop (eCall 13 (evs [eV 1]))) (sRet (eCall 22 (evs [eV 0, eV 1]))))
def P_is_below : SS := sSeq (sDrop (eCall 13 (evs [eV 0]))) (sSeq (sDrop (eCall 13 (evs [eV 1]))) (sRet (eCall 23 (evs [eV 0, eV 1]))))
def P__law_pot : SS := sSeq (sSet 2 (eIf (bCmp (opCmp .Lt) (eV 1) (eCb bLen (evs [eV 0]))) (eCb bAbs (evs [eIx (eV 0) (eV 1)])) (eBin .Add (eBin .Mult (eC (.int 257)) (eV 1)) (eC (.int 167))))) (sRet (eLst (evs [eCb bMax (evs [eC (.int 0), eBin .Sub (eV 2) (eBin .Pow (eC (.int 10)) (eC (.int 18)))]), eBin .Add (eBin .Mod (eCb bInt (evs [eBin .Add (eBin .Add (eBin .Mult (eBin .Mod (eCb bInt (evs [eV 2])) (eC (.int 2147483549))) (eC (.int 40014))) (eBin .Mult (eC (.int 5209)) (eV 1))) (eC (.int 101))])) (eC (.int 2147483563))) (eC (.int 1))])))
def P__law_draw : SS := sSeq (sIf (bCmp (opCmp .Gt) (eIx (eV 0) (eC (.int 0))) (eC (.int 0))) (sSeq (sAsg (eCb bDivmod (evs [eIx (eV 0) (eC (.int 0)), eV 1])) (gTp [gSb (eV 0) (eC (.int 0)), gNm 2])) (sRet (eV 2))) (sPass)) (sSeq (sAsg (eBin .Mod (eCb bInt (evs [eBin .Add (eBin .Mult (eIx (eV 0) (eC (.int 1))) (eC (.int 48271))) (eC (.int 7229))])) (eC (.int 2147483587))) (gSb (eV 0) (eC (.int 1)))) (sRet (eBin .Mod (eCb bInt (evs [eBin .FloorDiv (eBin .Mod (eCb bInt (evs [eBin .Mult (eIx (eV 0) (eC (.int 1))) (eIx (eV 0) (eC (.int 1)))])) (eC (.int 2147483549))) (eC (.int 17))])) (eV 1))))
def P__law_pick : SS := sRet (eIx (eV 1) (eCall 27 (evs [eV 0, eCb bLen (evs [eV 1])])))
def P__law_term : SS := sSeq (sSet 2 (eCall 27 (evs [eV 0, eC (.int 7)]))) (sSeq (sIf (bOr (bCmp (opCmp .Eq) (eV 2) (eC (.int 0))) (bAnd (bCmp (opCmp .Eq) (eV 1) (eC (.int 0))) (bCmp (opCmp .Gt) (eV 2) (eC (.int 3))))) (sRet (eCall 28 (evs [eV 0, eLst (evs [eC (.int 0), eC (.int 1), eNeg (eC (.int 3)), eC (.int 999), eC (.int 4000), eTup (evs [eC (.str "a0"), eTup (evs [])])])]))) (sPass)) (sSeq (sIf (bOr (bCmp (opCmp .Lt) (eV 2) (eC (.int 3))) (bCmp (opCmp .Eq) (eV 1) (eC (.int 0)))) (sRet (eCall 28 (evs [eV 0, eLst (evs [eC (.str "X"), eC (.str "Y"), eC (.str "Z1")])]))) (sPass)) (sSeq (sSet 3 (eLc (iRange (evs [eCall 27 (evs [eV 0, eC (.int 4)])])) (.nm 4) (bYes) (eCall 29 (evs [eV 0, eBin .Sub (eV 1) (eC (.int 1))])) [4])) (sSeq (sIf (bCmp (opCmp .Eq) (eCall 27 (evs [eV 0, eC (.int 3)])) (eC (.int 0))) (sDrop (eCM aAppend (eV 3) (evs [eCall 28 (evs [eV 0, eLst (evs [eC (.str "*S"), eC (.str "*T")])])]))) (sPass)) (sRet (eTup (evs [eCall 28 (evs [eV 0, eLst (evs [eC (.str "f"), eC (.str "f"), eC (.str "g"), eC (.str "H"), eC (.str "G")])]), eCb bTuple (evs [eV 3])])))))))
def P__law_great : SS := sSeq (sIf (bCmp (opCmp .Eq) (eCall 27 (evs [eV 0, eC (.int 2)])) (eC (.int 0))) (sSeq (sSet 1 (eLc (iRange (evs [eBin .Add (eC (.int 8)) (eCall 27 (evs [eV 0, eC (.int 13)]))])) (.nm 3) (bYes) (eCall 29 (evs [eV 0, eC (.int 1)])) [3])) (sSeq (sIf (bCmp (opCmp .Eq) (eCall 27 (evs [eV 0, eC (.int 2)])) (eC (.int 0))) (sDrop (eCM aAppend (eV 1) (evs [eCall 28 (evs [eV 0, eLst (evs [eC (.str "*S"), eC (.str "*T")])])]))) (sPass)) (sRet (eTup (evs [eCall 28 (evs [eV 0, eLst (evs [eC (.str "f"), eC (.str "H")])]), eCb bTuple (evs [eV 1])]))))) (sPass)) (sSeq (sSet 2 (eCall 29 (evs [eV 0, eC (.int 1)]))) (sSeq (sFor (iRange (evs [eBin .Add (eC (.int 4)) (eCall 27 (evs [eV 0, eC (.int 9)]))])) (gNm 3) (sSeq (sSet 1 (eBin .Add (eLc (iRange (evs [eCall 27 (evs [eV 0, eC (.int 3)])])) (.nm 4) (bYes) (eCall 29 (evs [eV 0, eC (.int 0)])) [4]) (eLst (evs [eV 2])))) (sSeq (sIf (bCmp (opCmp .Eq) (eCall 27 (evs [eV 0, eC (.int 3)])) (eC (.int 0))) (sDrop (eCM aAppend (eV 1) (evs [eCall 28 (evs [eV 0, eLst (evs [eC (.str "*S"), eC (.str "*T")])])]))) (sPass)) (sSet 2 (eTup (evs [eCall 28 (evs [eV 0, eLst (evs [eC (.str "f"), eC (.str "g"), eC (.str "H")])]), eCb bTuple (evs [eV 1])])))))) (sRet (eV 2))))
def P__law_nodes : SS := sRet (eIf (bTru (eIsi .tuple (eV 0))) (eBin .Add (eC (.int 1)) (eCb bSum (evs [eLc (iOf (eIx (eV 0) (eC (.int 1)))) (.nm 1) (bYes) (eCall 31 (evs [eV 1])) [1]]))) (eC (.int 1)))
def P__law_is_rest : SS := sRet (eAnd (eIsi .str (eV 0)) (eCmp (opCmp .Eq) (eSl (eV 0) (oNone) (oSome (eC (.int 1)))) (eC (.str "*"))))
def P__law_variables : SS := sSeq (sIf (bTru (eIsi .str (eV 0))) (sRet (eIf (bCmp (opCmp .In) (eV 0) (eV 1)) (eV 1) (eBin .Add (eV 1) (eLst (evs [eV 0]))))) (sPass)) (sSeq (sIf (bTru (eIsi .tuple (eV 0))) (sSeq (sIf (bAnd (bCmp (opCmp .In) (eIx (eV 0) (eC (.int 0))) (eLst (evs [eC (.str "G"), eC (.str "H")]))) (bCmp (opCmp .NotIn) (eIx (eV 0) (eC (.int 0))) (eV 1))) (sSet 1 (eBin .Add (eV 1) (eLst (evs [eIx (eV 0) (eC (.int 0))])))) (sPass)) (sFor (iOf (eIx (eV 0) (eC (.int 1)))) (gNm 2) (sSet 1 (eCall 33 (evs [eV 2, eV 1]))))) (sPass)) (sRet (eV 1)))
def P__law_filling : SS := sSeq (sSet 2 (eDict0)) (sSeq (sFor (iOf (eCall 33 (evs [eV 1, eLst (evs [])]))) (gNm 3) (sIf (bTru (eCall 32 (evs [eV 3]))) (sSeq (sSet 4 (eLc (iRange (evs [eCall 27 (evs [eV 0, eC (.int 3)])])) (.nm 5) (bYes) (eCall 29 (evs [eV 0, eC (.int 1)])) [5])) (sSeq (sIf (bCmp (opCmp .Eq) (eCall 27 (evs [eV 0, eC (.int 3)])) (eC (.int 0))) (sDrop (eCM aAppend (eV 4) (evs [eCall 28 (evs [eV 0, eLst (evs [eC (.str "*S"), eC (.str "*T")])])]))) (sPass)) (sAsg (eCb bTuple (evs [eV 4])) (gSb (eV 2) (eSl (eV 3) (oSome (eC (.int 1))) (oNone)))))) (sIf (bCmp (opCmp .In) (eV 3) (eLst (evs [eC (.str "G"), eC (.str "H")]))) (sAsg (eCall 28 (evs [eV 0, eLst (evs [eC (.str "f"), eC (.str "g"), eC (.str "zz3"), eC (.str "H"), eC (.str "G")])])) (gSb (eV 2) (eV 3))) (sAsg (eCall 29 (evs [eV 0, eC (.int 1)])) (gSb (eV 2) (eV 3)))))) (sRet (eV 2)))
def P__law_filled : SS := sSeq (sIf (bTru (eIsi .str (eV 0))) (sRet (eIx (eV 1) (eV 0))) (sPass)) (sSeq (sIf (bNot (bTru (eIsi .tuple (eV 0)))) (sRet (eV 0)) (sPass)) (sSeq (sSet 2 (eLst (evs []))) (sSeq (sFor (iOf (eIx (eV 0) (eC (.int 1)))) (gNm 3) (sIf (bTru (eCall 32 (evs [eV 3]))) (sDrop (eCM aExtend (eV 2) (evs [eCb bList (evs [eIx (eV 1) (eSl (eV 3) (oSome (eC (.int 1))) (oNone))])]))) (sDrop (eCM aAppend (eV 2) (evs [eCall 35 (evs [eV 3, eV 1])]))))) (sSeq (sSet 4 (eIf (bCmp (opCmp .In) (eIx (eV 0) (eC (.int 0))) (eLst (evs [eC (.str "G"), eC (.str "H")]))) (eIx (eV 1) (eIx (eV 0) (eC (.int 0)))) (eIx (eV 0) (eC (.int 0))))) (sRet (eTup (evs [eV 4, eCb bTuple (evs [eV 2])])))))))
def P__law_kept : SS := sSeq (sIf (bCmp (opCmp .In) (eV 1) (eV 0)) (sRet (eIf (bCmp (opCmp .Eq) (eIx (eV 0) (eV 1)) (eV 2)) (eV 0) (eC .non))) (sPass)) (sSeq (sSet 3 (eCb fDict (evs [eV 0]))) (sSeq (sAsg (eV 2) (gSb (eV 3) (eV 1))) (sRet (eV 3))))
def P__law_matched : SS := sSeq (sIf (bTru (eIsi .str (eV 0))) (sRet (eCall 36 (evs [eV 2, eV 0, eV 1]))) (sPass)) (sSeq (sIf (bNot (bTru (eIsi .tuple (eV 0)))) (sRet (eIf (bCmp (opCmp .Eq) (eV 0) (eV 1)) (eV 2) (eC .non))) (sPass)) (sSeq (sIf (bNot (bTru (eIsi .tuple (eV 1)))) (sRet (eC .non)) (sPass)) (sSeq (sIf (bCmp (opCmp .In) (eIx (eV 0) (eC (.int 0))) (eLst (evs [eC (.str "G"), eC (.str "H")]))) (sSet 2 (eCall 36 (evs [eV 2, eIx (eV 0) (eC (.int 0)), eIx (eV 1) (eC (.int 0))]))) (sIf (bCmp (opCmp .NotEq) (eIx (eV 0) (eC (.int 0))) (eIx (eV 1) (eC (.int 0)))) (sRet (eC .non)) (sPass))) (sRet (eIf (bCmp (opCmp .Is) (eV 2) (eC .non)) (eC .non) (eCall 38 (evs [eIx (eV 0) (eC (.int 1)), eIx (eV 1) (eC (.int 1)), eV 2])))))))
def P__law_args_matched : SS := sSeq (sSet 3 (eIf (bAnd (bCmp (opCmp .NotEq) (eV 0) (eTup (evs []))) (bTru (eCall 32 (evs [eIx (eV 0) (eNeg (eC (.int 1)))])))) (eIx (eV 0) (eNeg (eC (.int 1)))) (eC .non))) (sSeq (sSet 4 (eIf (bCmp (opCmp .Is) (eV 3) (eC .non)) (eCb bLen (evs [eV 0])) (eBin .Sub (eCb bLen (evs [eV 0])) (eC (.int 1))))) (sSeq (sIf (bOr (bCmp (opCmp .Lt) (eCb bLen (evs [eV 1])) (eV 4)) (bAnd (bCmp (opCmp .Is) (eV 3) (eC .non)) (bCmp (opCmp .Gt) (eCb bLen (evs [eV 1])) (eV 4)))) (sRet (eC .non)) (sPass)) (sSeq (sFor (iZip (evs [eSl (eV 0) (oNone) (oSome (eV 4)), eSl (eV 1) (oNone) (oSome (eV 4))])) (gTp [gNm 5, gNm 6]) (sSeq (sIf (bTru (eCall 32 (evs [eV 6]))) (sRet (eC .non)) (sPass)) (sSeq (sSet 2 (eCall 37 (evs [eV 5, eV 6, eV 2]))) (sIf (bCmp (opCmp .Is) (eV 2) (eC .non)) (sRet (eC .non)) (sPass))))) (sRet (eIf (bCmp (opCmp .Is) (eV 3) (eC .non)) (eV 2) (eCall 36 (evs [eV 2, eSl (eV 3) (oSome (eC (.int 1))) (oNone), eSl (eV 1) (oSome (eV 4)) (oNone)])))))))
def P__law_spoiled : SS := sSeq (sIf (bOr (bNot (bTru (eIsi .tuple (eV 1)))) (bOr (bCmp (opCmp .Eq) (eIx (eV 1) (eC (.int 1))) (eTup (evs []))) (bOr (bCmp (opCmp .Eq) (eV 2) (eC (.int 0))) (bCmp (opCmp .Eq) (eCall 27 (evs [eV 0, eC (.int 3)])) (eC (.int 0)))))) (sRet (eCall 28 (evs [eV 0, eLst (evs [eC (.int 5), eC (.str "Y"), eTup (evs [eC (.str "f"), eTup (evs [])]), eTup (evs [eC (.str "g"), eTup (evs [eV 1])]), eTup (evs [eC (.str "f"), eTup (evs [eC (.str "*T")])])])]))) (sPass)) (sSeq (sSet 3 (eCall 27 (evs [eV 0, eCb bLen (evs [eIx (eV 1) (eC (.int 1))])]))) (sSeq (sPar 4 5 (eCall 27 (evs [eV 0, eC (.int 4)])) (eCb bList (evs [eIx (eV 1) (eC (.int 1))]))) (sSeq (sIf (bCmp (opCmp .Eq) (eV 4) (eC (.int 0))) (sRet (eTup (evs [eIx (eV 1) (eC (.int 0)), eCb bTuple (evs [eBin .Add (eSl (eV 5) (oNone) (oSome (eV 3))) (eSl (eV 5) (oSome (eBin .Add (eV 3) (eC (.int 1)))) (oNone))])]))) (sPass)) (sSeq (sIf (bCmp (opCmp .Eq) (eV 4) (eC (.int 1))) (sRet (eTup (evs [eIx (eV 1) (eC (.int 0)), eCb bTuple (evs [eBin .Add (eBin .Add (eSl (eV 5) (oNone) (oSome (eV 3))) (eLst (evs [eC (.int 5)]))) (eSl (eV 5) (oSome (eV 3)) (oNone))])]))) (sPass)) (sSeq (sIf (bOr (bCmp (opCmp .Eq) (eV 4) (eC (.int 2))) (bTru (eCall 32 (evs [eIx (eV 5) (eV 3)])))) (sRet (eTup (evs [eCall 28 (evs [eV 0, eLst (evs [eC (.str "f"), eC (.str "g"), eC (.str "H")])]), eIx (eV 1) (eC (.int 1))]))) (sPass)) (sSeq (sAsg (eCall 39 (evs [eV 0, eIx (eV 5) (eV 3), eBin .Sub (eV 2) (eC (.int 1))])) (gSb (eV 5) (eV 3))) (sRet (eTup (evs [eIx (eV 1) (eC (.int 0)), eCb bTuple (evs [eV 5])])))))))))
def P__law_one_right : SS := sSeq (sPar 2 3 (eCall 37 (evs [eV 0, eV 1, eDict0])) (eCall 24 (evs [eV 0, eV 1]))) (sSeq (sIf (bOr (bCmp (opCmp .NotEq) (eV 3) (eV 2)) (bCmp (opCmp .NotEq) (eCmp (opCmp .Is) (eV 2) (eC .non)) (eCmp (opCmp .Is) (eV 3) (eC .non)))) (sRet (eC (.bl false))) (sPass)) (sSeq (sIf (bCmp (opCmp .NotEq) (eCb fRepr (evs [eCall 25 (evs [eV 1, eV 0])])) (eCb fRepr (evs [eCmp (opCmp .IsNot) (eV 2) (eC .non)]))) (sRet (eC (.bl false))) (sPass)) (sSeq (sIf (bCmp (opCmp .Is) (eV 2) (eC .non)) (sRet (eC (.bl true))) (sPass)) (sSeq (sAsg (eC (.int 5)) (gSb (eV 3) (eC (.str "Q9")))) (sRet (eAnd (eCmp (opCmp .Eq) (eCallK 24 (evs []) (evs [eV 1, eV 0]) [1, 0]) (eV 2)) (eCmp (opCmp .Eq) (eCall 19 (evs [eV 0, eV 2])) (eV 1))))))))
def P_law : SS := sSeq (sSet 1 (eCall 26 (evs [eV 0, eC (.int 0)]))) (sSeq (sSet 2 (eIf (bCmp (opCmp .Eq) (eCall 27 (evs [eV 1, eC (.int 6)])) (eC (.int 0))) (eCall 30 (evs [eV 1])) (eCall 29 (evs [eV 1, eC (.int 2)])))) (sSeq (sSet 3 (eCall 34 (evs [eV 1, eV 2]))) (sSeq (sSet 4 (eCall 35 (evs [eV 2, eV 3]))) (sSeq (sIf (bCmp (opCmp .Gt) (eCall 31 (evs [eV 4])) (eC (.int 180))) (sSeq (sSet 2 (eCall 29 (evs [eV 1, eC (.int 2)]))) (sSeq (sSet 3 (eCall 34 (evs [eV 1, eV 2]))) (sSet 4 (eCall 35 (evs [eV 2, eV 3]))))) (sPass)) (sSeq (sIf (bOr (bCmp (opCmp .NotEq) (eCall 24 (evs [eV 2, eV 4])) (eV 3)) (bCmp (opCmp .IsNot) (eCallK 25 (evs []) (evs [eV 2, eV 4]) [1, 0]) (eC (.bl true)))) (sRet (eC (.bl false))) (sPass)) (sSeq (sFor (iOf (eLst (evs [eV 4, eCall 39 (evs [eV 1, eV 4, eC (.int 3)]), eCall 29 (evs [eV 1, eC (.int 2)]), eV 2]))) (gNm 5) (sIf (bOr (bNot (bTru (eCall 40 (evs [eV 2, eV 5])))) (bNot (bTru (eCall 40 (evs [eV 5, eV 2]))))) (sRet (eC (.bl false))) (sPass))) (sRet (eCall 40 (evs [eCall 39 (evs [eV 1, eV 2, eC (.int 3)]), eV 4])))))))))
def T : Tab := [(1, P_is_integer), (3, P_want_at_most), (2, P_is_name), (2, P_is_variable), (1, P_is_head), (1, P_is_rest), (1, P_is_applied), (7, P_standings), (4, P_have_one_sort), (6, P_pieces), (5, P_variables_of), (1, P_nodes_of), (2, P_is_term), (1, P_want_term), (4, P_filled_args), (2, P_fill), (4, P_are_args), (2, P_fits_sort), (6, P_is_filling_of), (3, P_filled), (3, P_is_held), (7, P_matched_args), (8, P_matching), (2, P_is_instance), (2, P_matched), (2, P_is_below), (3, P__law_pot), (3, P__law_draw), (2, P__law_pick), (5, P__law_term), (5, P__law_great), (2, P__law_nodes), (1, P__law_is_rest), (3, P__law_variables), (6, P__law_filling), (5, P__law_filled), (4, P__law_kept), (3, P__law_matched), (7, P__law_args_matched), (6, P__law_spoiled), (4, P__law_one_right), (6, P_law)]
variable {P : Program} {w : World} {K : PySem.W.Frag} {mg : Str → Option Value} {base : Heap}
/-- what the top holds -/
structure GC (mg : Str → Option Value) : Prop where
  b_abs : mg "abs" = none
  b_all : mg "all" = none
  b_any : mg "any" = none
  b_bool : mg "bool" = none
  b_dict : mg "dict" = none
  b_divmod : mg "divmod" = none
  b_enumerate : mg "enumerate" = none
  b_int : mg "int" = none
  b_isinstance : mg "isinstance" = none
  b_len : mg "len" = none
  b_list : mg "list" = none
  b_max : mg "max" = none
  b_range : mg "range" = none
  b_repr : mg "repr" = none
  b_str : mg "str" = none
  b_sum : mg "sum" = none
  b_tuple : mg "tuple" = none
  b_zip : mg "zip" = none
  c_DIGITS : HasC mg "DIGITS" (.str "0123456789")
  c_GREAT : HasC mg "GREAT" (.str "ABCDEFGHIJKLMNOPQRSTUVWXYZ")
  c_HEAD : HasC mg "HEAD" (.str "head")
  c_MOST_DIGITS : HasC mg "MOST_DIGITS" (.int (2))
  c_MOST_NODES : HasC mg "MOST_NODES" (.int (200))
  c_MOST_SIGNS : HasC mg "MOST_SIGNS" (.int (8))
  c_REST : HasC mg "REST" (.str "rest")
  c_SMALL : HasC mg "SMALL" (.str "abcdefghijklmnopqrstuvwxyz")
  c_TERM : HasC mg "TERM" (.str "term")
structure G (P : Program) (w : World) (K : PySem.W.Frag) (mg : Str → Option Value) (base : Heap) (F : Fns) (n : Nat) : Prop extends GC mg where
  f_is_integer : FnR P w K mg base (fun _ => 0) F n 0 "is_integer" ["value"] S_is_integer
  f_want_at_most : FnR P w K mg base (fun _ => 0) F n 1 "want_at_most" ["what", "limit", "number"] S_want_at_most
  f_is_name : FnR P w K mg base (fun _ => 0) F n 2 "is_name" ["value"] S_is_name
  f_is_variable : FnR P w K mg base (fun _ => 0) F n 3 "is_variable" ["value"] S_is_variable
  f_is_head : FnR P w K mg base (fun _ => 0) F n 4 "is_head" ["value"] S_is_head
  f_is_rest : FnR P w K mg base (fun _ => 0) F n 5 "is_rest" ["value"] S_is_rest
  f_is_applied : FnR P w K mg base (fun _ => 0) F n 6 "is_applied" ["value"] S_is_applied
  f_standings : FnR P w K mg base (fun _ => 0) F n 7 "standings" ["value"] S_standings
  f_have_one_sort : FnR P w K mg base (fun _ => 0) F n 8 "have_one_sort" ["found"] S_have_one_sort
  f_pieces : FnR P w K mg base (fun _ => 0) F n 9 "pieces" ["term"] S_pieces
  f_variables_of : FnR P w K mg base (fun _ => 0) F n 10 "variables_of" ["term"] S_variables_of
  f_nodes_of : FnR P w K mg base (fun _ => 0) F n 11 "nodes_of" ["term"] S_nodes_of
  f_is_term : FnR P w K mg base (fun _ => 0) F n 12 "is_term" ["value"] S_is_term
  f_want_term : FnR P w K mg base (fun _ => 0) F n 13 "want_term" ["value"] S_want_term
  f_filled_args : FnR P w K mg base (fun _ => 0) F n 14 "filled_args" ["args", "filling"] S_filled_args
  f_fill : FnR P w K mg base (fun _ => 0) F n 15 "fill" ["term", "filling"] S_fill
  f_are_args : FnR P w K mg base (fun _ => 0) F n 16 "are_args" ["value"] S_are_args
  f_fits_sort : FnR P w K mg base (fun _ => 0) F n 17 "fits_sort" ["sort", "value"] S_fits_sort
  f_is_filling_of : FnR P w K mg base (fun _ => 0) F n 18 "is_filling_of" ["term", "value"] S_is_filling_of
  f_filled : FnR P w K mg base (fun _ => 0) F n 19 "filled" ["term", "filling"] S_filled
  f_is_held : FnR P w K mg base (fun _ => 0) F n 20 "is_held" ["found", "variable", "thing"] S_is_held
  f_matched_args : FnR P w K mg base (fun _ => 0) F n 21 "matched_args" ["found", "near", "far"] S_matched_args
  f_matching : FnR P w K mg base (fun _ => 0) F n 22 "matching" ["pattern", "term"] S_matching
  f_is_instance : FnR P w K mg base (fun _ => 0) F n 23 "is_instance" ["term", "other"] S_is_instance
  f_matched : FnR P w K mg base (fun _ => 0) F n 24 "matched" ["pattern", "term"] S_matched
  f_is_below : FnR P w K mg base (fun _ => 0) F n 25 "is_below" ["term", "other"] S_is_below
  f__law_pot : FnR P w K mg base (fun _ => 0) F n 26 "_law_pot" ["script", "k"] S__law_pot
  f__law_draw : FnR P w K mg base (fun _ => 0) F n 27 "_law_draw" ["pot", "many"] S__law_draw
  f__law_pick : FnR P w K mg base (fun _ => 0) F n 28 "_law_pick" ["pot", "some"] S__law_pick
  f__law_term : FnR P w K mg base (fun _ => 0) F n 29 "_law_term" ["pot", "deep"] S__law_term
  f__law_great : FnR P w K mg base (fun _ => 0) F n 30 "_law_great" ["pot"] S__law_great
  f__law_nodes : FnR P w K mg base (fun _ => 0) F n 31 "_law_nodes" ["term"] S__law_nodes
  f__law_is_rest : FnR P w K mg base (fun _ => 0) F n 32 "_law_is_rest" ["arg"] S__law_is_rest
  f__law_variables : FnR P w K mg base (fun _ => 0) F n 33 "_law_variables" ["term", "found"] S__law_variables
  f__law_filling : FnR P w K mg base (fun _ => 0) F n 34 "_law_filling" ["pot", "term"] S__law_filling
  f__law_filled : FnR P w K mg base (fun _ => 0) F n 35 "_law_filled" ["term", "filling"] S__law_filled
  f__law_kept : FnR P w K mg base (fun _ => 0) F n 36 "_law_kept" ["found", "variable", "value"] S__law_kept
  f__law_matched : FnR P w K mg base (fun _ => 0) F n 37 "_law_matched" ["pattern", "term", "found"] S__law_matched
  f__law_args_matched : FnR P w K mg base (fun _ => 0) F n 38 "_law_args_matched" ["args", "others", "found"] S__law_args_matched
  f__law_spoiled : FnR P w K mg base (fun _ => 0) F n 39 "_law_spoiled" ["pot", "term", "deep"] S__law_spoiled
  f__law_one_right : FnR P w K mg base (fun _ => 0) F n 40 "_law_one_right" ["pattern", "term"] S__law_one_right
  f_law : FnR P w K mg base (fun _ => 0) F n 41 "law" ["script"] S_law
theorem sc_is_integer : FnScope N_is_integer ["value"] (defScope S_is_integer) := ⟨rfl, rfl, rfl, by decide +kernel, rfl, by decide +kernel, by decide +kernel⟩
theorem sc_want_at_most : FnScope N_want_at_most ["what", "limit", "number"] (defScope S_want_at_most) := ⟨rfl, rfl, rfl, by decide +kernel, rfl, by decide +kernel, by decide +kernel⟩
theorem sc_is_name : FnScope N_is_name ["value"] (defScope S_is_name) := ⟨rfl, rfl, rfl, by decide +kernel, rfl, by decide +kernel, by decide +kernel⟩
theorem sc_is_variable : FnScope N_is_variable ["value"] (defScope S_is_variable) := ⟨rfl, rfl, rfl, by decide +kernel, rfl, by decide +kernel, by decide +kernel⟩
theorem sc_is_head : FnScope N_is_head ["value"] (defScope S_is_head) := ⟨rfl, rfl, rfl, by decide +kernel, rfl, by decide +kernel, by decide +kernel⟩
theorem sc_is_rest : FnScope N_is_rest ["value"] (defScope S_is_rest) := ⟨rfl, rfl, rfl, by decide +kernel, rfl, by decide +kernel, by decide +kernel⟩
theorem sc_is_applied : FnScope N_is_applied ["value"] (defScope S_is_applied) := ⟨rfl, rfl, rfl, by decide +kernel, rfl, by decide +kernel, by decide +kernel⟩
theorem sc_standings : FnScope N_standings ["value"] (defScope S_standings) := ⟨rfl, rfl, rfl, by decide +kernel, rfl, by decide +kernel, by decide +kernel⟩
theorem sc_have_one_sort : FnScope N_have_one_sort ["found"] (defScope S_have_one_sort) := ⟨rfl, rfl, rfl, by decide +kernel, rfl, by decide +kernel, by decide +kernel⟩
theorem sc_pieces : FnScope N_pieces ["term"] (defScope S_pieces) := ⟨rfl, rfl, rfl, by decide +kernel, rfl, by decide +kernel, by decide +kernel⟩
theorem sc_variables_of : FnScope N_variables_of ["term"] (defScope S_variables_of) := ⟨rfl, rfl, rfl, by decide +kernel, rfl, by decide +kernel, by decide +kernel⟩
theorem sc_nodes_of : FnScope N_nodes_of ["term"] (defScope S_nodes_of) := ⟨rfl, rfl, rfl, by decide +kernel, rfl, by decide +kernel, by decide +kernel⟩
theorem sc_is_term : FnScope N_is_term ["value"] (defScope S_is_term) := ⟨rfl, rfl, rfl, by decide +kernel, rfl, by decide +kernel, by decide +kernel⟩
theorem sc_want_term : FnScope N_want_term ["value"] (defScope S_want_term) := ⟨rfl, rfl, rfl, by decide +kernel, rfl, by decide +kernel, by decide +kernel⟩
theorem sc_filled_args : FnScope N_filled_args ["args", "filling"] (defScope S_filled_args) := ⟨rfl, rfl, rfl, by decide +kernel, rfl, by decide +kernel, by decide +kernel⟩
theorem sc_fill : FnScope N_fill ["term", "filling"] (defScope S_fill) := ⟨rfl, rfl, rfl, by decide +kernel, rfl, by decide +kernel, by decide +kernel⟩
theorem sc_are_args : FnScope N_are_args ["value"] (defScope S_are_args) := ⟨rfl, rfl, rfl, by decide +kernel, rfl, by decide +kernel, by decide +kernel⟩
theorem sc_fits_sort : FnScope N_fits_sort ["sort", "value"] (defScope S_fits_sort) := ⟨rfl, rfl, rfl, by decide +kernel, rfl, by decide +kernel, by decide +kernel⟩
theorem sc_is_filling_of : FnScope N_is_filling_of ["term", "value"] (defScope S_is_filling_of) := ⟨rfl, rfl, rfl, by decide +kernel, rfl, by decide +kernel, by decide +kernel⟩
theorem sc_filled : FnScope N_filled ["term", "filling"] (defScope S_filled) := ⟨rfl, rfl, rfl, by decide +kernel, rfl, by decide +kernel, by decide +kernel⟩
theorem sc_is_held : FnScope N_is_held ["found", "variable", "thing"] (defScope S_is_held) := ⟨rfl, rfl, rfl, by decide +kernel, rfl, by decide +kernel, by decide +kernel⟩
theorem sc_matched_args : FnScope N_matched_args ["found", "near", "far"] (defScope S_matched_args) := ⟨rfl, rfl, rfl, by decide +kernel, rfl, by decide +kernel, by decide +kernel⟩
theorem sc_matching : FnScope N_matching ["pattern", "term"] (defScope S_matching) := ⟨rfl, rfl, rfl, by decide +kernel, rfl, by decide +kernel, by decide +kernel⟩
theorem sc_is_instance : FnScope N_is_instance ["term", "other"] (defScope S_is_instance) := ⟨rfl, rfl, rfl, by decide +kernel, rfl, by decide +kernel, by decide +kernel⟩
theorem sc_matched : FnScope N_matched ["pattern", "term"] (defScope S_matched) := ⟨rfl, rfl, rfl, by decide +kernel, rfl, by decide +kernel, by decide +kernel⟩
theorem sc_is_below : FnScope N_is_below ["term", "other"] (defScope S_is_below) := ⟨rfl, rfl, rfl, by decide +kernel, rfl, by decide +kernel, by decide +kernel⟩
theorem sc__law_pot : FnScope N__law_pot ["script", "k"] (defScope S__law_pot) := ⟨rfl, rfl, rfl, by decide +kernel, rfl, by decide +kernel, by decide +kernel⟩
theorem sc__law_draw : FnScope N__law_draw ["pot", "many"] (defScope S__law_draw) := ⟨rfl, rfl, rfl, by decide +kernel, rfl, by decide +kernel, by decide +kernel⟩
theorem sc__law_pick : FnScope N__law_pick ["pot", "some"] (defScope S__law_pick) := ⟨rfl, rfl, rfl, by decide +kernel, rfl, by decide +kernel, by decide +kernel⟩
theorem sc__law_term : FnScope N__law_term ["pot", "deep"] (defScope S__law_term) := ⟨rfl, rfl, rfl, by decide +kernel, rfl, by decide +kernel, by decide +kernel⟩
theorem sc__law_great : FnScope N__law_great ["pot"] (defScope S__law_great) := ⟨rfl, rfl, rfl, by decide +kernel, rfl, by decide +kernel, by decide +kernel⟩
theorem sc__law_nodes : FnScope N__law_nodes ["term"] (defScope S__law_nodes) := ⟨rfl, rfl, rfl, by decide +kernel, rfl, by decide +kernel, by decide +kernel⟩
theorem sc__law_is_rest : FnScope N__law_is_rest ["arg"] (defScope S__law_is_rest) := ⟨rfl, rfl, rfl, by decide +kernel, rfl, by decide +kernel, by decide +kernel⟩
theorem sc__law_variables : FnScope N__law_variables ["term", "found"] (defScope S__law_variables) := ⟨rfl, rfl, rfl, by decide +kernel, rfl, by decide +kernel, by decide +kernel⟩
theorem sc__law_filling : FnScope N__law_filling ["pot", "term"] (defScope S__law_filling) := ⟨rfl, rfl, rfl, by decide +kernel, rfl, by decide +kernel, by decide +kernel⟩
theorem sc__law_filled : FnScope N__law_filled ["term", "filling"] (defScope S__law_filled) := ⟨rfl, rfl, rfl, by decide +kernel, rfl, by decide +kernel, by decide +kernel⟩
theorem sc__law_kept : FnScope N__law_kept ["found", "variable", "value"] (defScope S__law_kept) := ⟨rfl, rfl, rfl, by decide +kernel, rfl, by decide +kernel, by decide +kernel⟩
theorem sc__law_matched : FnScope N__law_matched ["pattern", "term", "found"] (defScope S__law_matched) := ⟨rfl, rfl, rfl, by decide +kernel, rfl, by decide +kernel, by decide +kernel⟩
theorem sc__law_args_matched : FnScope N__law_args_matched ["args", "others", "found"] (defScope S__law_args_matched) := ⟨rfl, rfl, rfl, by decide +kernel, rfl, by decide +kernel, by decide +kernel⟩
theorem sc__law_spoiled : FnScope N__law_spoiled ["pot", "term", "deep"] (defScope S__law_spoiled) := ⟨rfl, rfl, rfl, by decide +kernel, rfl, by decide +kernel, by decide +kernel⟩
theorem sc__law_one_right : FnScope N__law_one_right ["pattern", "term"] (defScope S__law_one_right) := ⟨rfl, rfl, rfl, by decide +kernel, rfl, by decide +kernel, by decide +kernel⟩
theorem sc_law : FnScope N_law ["script"] (defScope S_law) := ⟨rfl, rfl, rfl, by decide +kernel, rfl, by decide +kernel, by decide +kernel⟩
theorem k_is_integer {F : Fns} {n : Nat} (g : G P w K mg base F n) (f : Addr) (cdv : Value) (A : Around) (outer : List PySem.Env) (s : Shared) (H : Hp) (E : XK) (hr : Room n (A.deeper (envOfC "is_integer" (defScope S_is_integer) s.heap.objs.size f cdv))) (hG : A.guards = some []) :
    PSs (cxOf CX0 P w K mg base N_is_integer "is_integer" (defScope S_is_integer) f cdv A outer s H E).nox (defBody S_is_integer) (rdS K (fun _ => 0) F W0 P_is_integer) :=
  have nd := sc_is_integer.nd
  have hu := hu65 hr
  s_one (s_ret (c_and (w_isi .int g.b_isinstance (pe_bltn (by rfl) g.b_int boot_int rfl) (w_v 0)) (c_and1 (c_not (w_isi .bool g.b_isinstance (pe_bltn (by rfl) g.b_bool boot_bool rfl) (w_v 0))))))
theorem k_want_at_most {F : Fns} {n : Nat} (g : G P w K mg base F n) (f : Addr) (cdv : Value) (A : Around) (outer : List PySem.Env) (s : Shared) (H : Hp) (E : XK) (hr : Room n (A.deeper (envOfC "want_at_most" (defScope S_want_at_most) s.heap.objs.size f cdv))) (hG : A.guards = some []) :
    PSs (cxOf CX0 P w K mg base N_want_at_most "want_at_most" (defScope S_want_at_most) f cdv A outer s H E).nox (defBody S_want_at_most) (rdS K (fun _ => 0) F W0 P_want_at_most) :=
  have nd := sc_want_at_most.nd
  have hu := hu65 hr
  s_one (s_if (wt_cmp hu (w_v 2) (w_v 1)) (s_one (s_never)) (s_nil))
theorem k_is_name {F : Fns} {n : Nat} (g : G P w K mg base F n) (f : Addr) (cdv : Value) (A : Around) (outer : List PySem.Env) (s : Shared) (H : Hp) (E : XK) (hr : Room n (A.deeper (envOfC "is_name" (defScope S_is_name) s.heap.objs.size f cdv))) (hG : A.guards = some []) :
    PSs (cxOf CX0 P w K mg base N_is_name "is_name" (defScope S_is_name) f cdv A outer s H E).nox (defBody S_is_name) (rdS K (fun _ => 0) F W0 P_is_name) :=
  have nd := sc_is_name.nd
  have hu := hu65 hr
  s_seq (s_if ((cw_or (ct_not (wt_tru (w_isi .str g.b_isinstance (pe_bltn (by rfl) g.b_str boot_str rfl) (w_v 0)))) (cw_or (ct_not (wt_chain hu (c_int) (w_fn or_len on_len boot_len g.b_len (a1 (w_v 0) (a0))) (w_gi g.c_MOST_SIGNS))) (cw_or1 (wt_cmp hu (w_ix hu (w_v 0) (c_int)) (w_gs g.c_SMALL))))).pt) (s_one (s_ret (c_bl))) (s_nil)) (s_one (s_ret (w_fn (cr_all rfl) on_all boot_all g.b_all (a1 (c_lc rfl nd (ci_of (w_v 0)) (blkOk_by (own := [("sign", 1)]) (by rfl)) (by decide) (by rfl) (fun _ _ _ _ _ => t_nm nd (by rfl) (by first | exact Or.inl rfl | exact Or.inr rfl)) (fun _ _ _ _ _ => q_yes) (fun _ _ _ _ _ => c_or (w_cmp hu (w_v 1) (w_gs g.c_SMALL)) (c_or1 (w_cmp hu (w_v 1) (w_gs g.c_DIGITS))))) (a0)))))
theorem k_is_variable {F : Fns} {n : Nat} (g : G P w K mg base F n) (f : Addr) (cdv : Value) (A : Around) (outer : List PySem.Env) (s : Shared) (H : Hp) (E : XK) (hr : Room n (A.deeper (envOfC "is_variable" (defScope S_is_variable) s.heap.objs.size f cdv))) (hG : A.guards = some []) :
    PSs (cxOf CX0 P w K mg base N_is_variable "is_variable" (defScope S_is_variable) f cdv A outer s H E).nox (defBody S_is_variable) (rdS K (fun _ => 0) F W0 P_is_variable) :=
  have nd := sc_is_variable.nd
  have hu := hu65 hr
  s_seq (s_if ((cw_or (ct_not (wt_tru (w_isi .str g.b_isinstance (pe_bltn (by rfl) g.b_str boot_str rfl) (w_v 0)))) (cw_or (ct_not (wt_chain hu (c_int) (w_fn or_len on_len boot_len g.b_len (a1 (w_v 0) (a0))) (w_bin (w_gi g.c_MOST_DIGITS) (c_int)))) (cw_or1 (wt_cmp hu (w_ix hu (w_v 0) (c_int)) (w_gs g.c_GREAT))))).pt) (s_one (s_ret (c_bl))) (s_nil)) (s_one (s_ret (w_fn (cr_all rfl) on_all boot_all g.b_all (a1 (c_lc rfl nd (ci_of (c_sl (w_v 0) (co_some (c_int)) (co_none))) (blkOk_by (own := [("sign", 1)]) (by rfl)) (by decide) (by rfl) (fun _ _ _ _ _ => t_nm nd (by rfl) (by first | exact Or.inl rfl | exact Or.inr rfl)) (fun _ _ _ _ _ => q_yes) (fun _ _ _ _ _ => w_cmp hu (w_v 1) (w_gs g.c_DIGITS))) (a0)))))
theorem k_is_head {F : Fns} {n : Nat} (g : G P w K mg base F n) (f : Addr) (cdv : Value) (A : Around) (outer : List PySem.Env) (s : Shared) (H : Hp) (E : XK) (hr : Room n (A.deeper (envOfC "is_head" (defScope S_is_head) s.heap.objs.size f cdv))) (hG : A.guards = some []) :
    PSs (cxOf CX0 P w K mg base N_is_head "is_head" (defScope S_is_head) f cdv A outer s H E).nox (defBody S_is_head) (rdS K (fun _ => 0) F W0 P_is_head) :=
  have nd := sc_is_head.nd
  have hu := hu65 hr
  s_one (s_ret (c_or (c_call g.f_is_name hr hG (by rfl) (a1 (w_v 0) (a0))) (c_or1 (c_call g.f_is_variable hr hG (by rfl) (a1 (w_v 0) (a0))))))
theorem k_is_rest {F : Fns} {n : Nat} (g : G P w K mg base F n) (f : Addr) (cdv : Value) (A : Around) (outer : List PySem.Env) (s : Shared) (H : Hp) (E : XK) (hr : Room n (A.deeper (envOfC "is_rest" (defScope S_is_rest) s.heap.objs.size f cdv))) (hG : A.guards = some []) :
    PSs (cxOf CX0 P w K mg base N_is_rest "is_rest" (defScope S_is_rest) f cdv A outer s H E).nox (defBody S_is_rest) (rdS K (fun _ => 0) F W0 P_is_rest) :=
  have nd := sc_is_rest.nd
  have hu := hu65 hr
  s_one (s_ret (c_and (w_isi .str g.b_isinstance (pe_bltn (by rfl) g.b_str boot_str rfl) (w_v 0)) (c_and (w_cmp hu (c_sl (w_v 0) (co_none) (co_some (c_int))) (c_str)) (c_and1 (c_call g.f_is_variable hr hG (by rfl) (a1 (c_sl (w_v 0) (co_some (c_int)) (co_none)) (a0)))))))
theorem k_is_applied {F : Fns} {n : Nat} (g : G P w K mg base F n) (f : Addr) (cdv : Value) (A : Around) (outer : List PySem.Env) (s : Shared) (H : Hp) (E : XK) (hr : Room n (A.deeper (envOfC "is_applied" (defScope S_is_applied) s.heap.objs.size f cdv))) (hG : A.guards = some []) :
    PSs (cxOf CX0 P w K mg base N_is_applied "is_applied" (defScope S_is_applied) f cdv A outer s H E).nox (defBody S_is_applied) (rdS K (fun _ => 0) F W0 P_is_applied) :=
  have nd := sc_is_applied.nd
  have hu := hu65 hr
  s_one (s_ret (c_and (w_isi .tuple g.b_isinstance (pe_bltn (by rfl) g.b_tuple boot_tuple rfl) (w_v 0)) (c_and1 (w_cmp hu (w_fn or_len on_len boot_len g.b_len (a1 (w_v 0) (a0))) (c_int)))))
theorem k_standings {F : Fns} {n : Nat} (g : G P w K mg base F n) (f : Addr) (cdv : Value) (A : Around) (outer : List PySem.Env) (s : Shared) (H : Hp) (E : XK) (hr : Room n (A.deeper (envOfC "standings" (defScope S_standings) s.heap.objs.size f cdv))) (hG : A.guards = some []) :
    PSs (cxOf CX0 P w K mg base N_standings "standings" (defScope S_standings) f cdv A outer s H E).nox (defBody S_standings) (rdS K (fun _ => 0) F W0 P_standings) :=
  have nd := sc_standings.nd
  have hu := hu65 hr
  s_seq (s_par rfl nd (by rfl) (by rfl) (by decide) (by rfl) (by rfl) (c_lst (a0)) (c_lst (a1 (c_tup (a1 (w_v 0) (a1 (c_bl) (a0)))) (a0))) (by rfl)) (s_seq (s_while PassesOwn.never (wt_cmp hu (w_v 2) (c_lst (a0))) (s_seq (s_asg (c_pop (w_v 2)) (g_tp rfl (gs_cons (g_nm nd (by rfl) (by first | exact Or.inl rfl | exact Or.inr rfl)) (gs_cons (g_nm nd (by rfl) (by first | exact Or.inl rfl | exact Or.inr rfl)) (gs_nil))))) (s_one (s_if (wt_tru (c_call g.f_is_variable hr hG (by rfl) (a1 (w_v 3) (a0)))) (s_one (s_drop (c_append (w_v 1) (c_tup (a1 (w_gs g.c_TERM) (a1 (w_v 3) (a0))))))) (s_one (s_if ((cw_and (wt_tru (w_v 4)) (cw_and1 (wt_tru (c_call g.f_is_rest hr hG (by rfl) (a1 (w_v 3) (a0)))))).pt) (s_one (s_drop (c_append (w_v 1) (c_tup (a1 (w_gs g.c_REST) (a1 (c_sl (w_v 3) (co_some (c_int)) (co_none)) (a0))))))) (s_one (s_if ((cw_and (wt_tru (c_call g.f_is_applied hr hG (by rfl) (a1 (w_v 3) (a0)))) (cw_and (wt_tru (c_call g.f_is_head hr hG (by rfl) (a1 (w_ix hu (w_v 3) (c_int)) (a0)))) (cw_and1 (wt_tru (w_isi .tuple g.b_isinstance (pe_bltn (by rfl) g.b_tuple boot_tuple rfl) (w_ix hu (w_v 3) (c_int))))))).pt) (s_seq (s_if (wt_tru (c_call g.f_is_variable hr hG (by rfl) (a1 (w_ix hu (w_v 3) (c_int)) (a0)))) (s_one (s_drop (c_append (w_v 1) (c_tup (a1 (w_gs g.c_HEAD) (a1 (w_ix hu (w_v 3) (c_int)) (a0))))))) (s_nil)) (s_seq (s_set nd (by rfl) (by first | exact Or.inl rfl | exact Or.inr rfl) (w_bin (w_fn or_len on_len boot_len g.b_len (a1 (w_ix hu (w_v 3) (c_int)) (a0))) (c_int))) (s_one (s_drop (c_extend (w_v 2) (c_lc rfl nd (w_r3 g.b_range (w_v 5) (c_neg (c_int)) (c_neg (c_int))) (blkOk_by (own := [("at", 6)]) (by rfl)) (by decide) (by rfl) (fun _ _ _ _ _ => t_nm nd (by rfl) (by first | exact Or.inl rfl | exact Or.inr rfl)) (fun _ _ _ _ _ => q_yes) (fun _ _ _ _ _ => c_tup (a1 (w_ix hu (w_ix hu (w_v 3) (c_int)) (w_v 6)) (a1 (w_cmp hu (w_v 6) (w_v 5)) (a0)))))))))) (s_one (s_if (ct_not (wt_tru (c_call g.f_is_integer hr hG (by rfl) (a1 (w_v 3) (a0))))) (s_one (s_ret (c_non))) (s_nil))))))))))) (s_one (s_ret (w_v 1))))
theorem k_have_one_sort {F : Fns} {n : Nat} (g : G P w K mg base F n) (f : Addr) (cdv : Value) (A : Around) (outer : List PySem.Env) (s : Shared) (H : Hp) (E : XK) (hr : Room n (A.deeper (envOfC "have_one_sort" (defScope S_have_one_sort) s.heap.objs.size f cdv))) (hG : A.guards = some []) :
    PSs (cxOf CX0 P w K mg base N_have_one_sort "have_one_sort" (defScope S_have_one_sort) f cdv A outer s H E).nox (defBody S_have_one_sort) (rdS K (fun _ => 0) F W0 P_have_one_sort) :=
  have nd := sc_have_one_sort.nd
  have hu := hu65 hr
  s_seq (s_set nd (by rfl) (by first | exact Or.inl rfl | exact Or.inr rfl) (c_dict0)) (s_one (s_ret (w_fn (cr_all rfl) on_all boot_all g.b_all (a1 (c_lc rfl nd (ci_of (w_v 0)) (blkOk_by (own := [("sort", 2), ("variable", 3)]) (by rfl)) (by decide) (by rfl) (fun _ _ _ _ _ => t_tp rfl (t_cons (t_nm nd (by rfl) (by first | exact Or.inl rfl | exact Or.inr rfl)) (t_cons (t_nm nd (by rfl) (by first | exact Or.inl rfl | exact Or.inr rfl)) (t_nil)))) (fun _ _ _ _ _ => q_yes) (fun _ _ _ _ _ => w_cmp hu (c_setd (w_v 1) (w_v 3) (w_v 2) ⟨by rfl, by rfl, by rfl, by rfl⟩) (w_v 2))) (a0)))))
theorem k_pieces {F : Fns} {n : Nat} (g : G P w K mg base F n) (f : Addr) (cdv : Value) (A : Around) (outer : List PySem.Env) (s : Shared) (H : Hp) (E : XK) (hr : Room n (A.deeper (envOfC "pieces" (defScope S_pieces) s.heap.objs.size f cdv))) (hG : A.guards = some []) :
    PSs (cxOf CX0 P w K mg base N_pieces "pieces" (defScope S_pieces) f cdv A outer s H E).nox (defBody S_pieces) (rdS K (fun _ => 0) F W0 P_pieces) :=
  have nd := sc_pieces.nd
  have hu := hu65 hr
  s_seq (s_par rfl nd (by rfl) (by rfl) (by decide) (by rfl) (by rfl) (c_lst (a0)) (c_lst (a1 (c_tup (a1 (w_v 0) (a1 (c_int) (a0)))) (a0))) (by rfl)) (s_seq (s_while PassesOwn.never (wt_cmp hu (w_v 2) (c_lst (a0))) (s_seq (s_asg (c_pop (w_v 2)) (g_tp rfl (gs_cons (g_nm nd (by rfl) (by first | exact Or.inl rfl | exact Or.inr rfl)) (gs_cons (g_nm nd (by rfl) (by first | exact Or.inl rfl | exact Or.inr rfl)) (gs_nil))))) (s_seq (s_drop (c_append (w_v 1) (c_tup (a1 (w_v 3) (a1 (w_v 4) (a0)))))) (s_one (s_if (wt_tru (c_call g.f_is_applied hr hG (by rfl) (a1 (w_v 3) (a0)))) (s_one (s_drop (c_extend (w_v 2) (c_lc rfl nd (ci_of (c_rev (w_ix hu (w_v 3) (c_int)))) (blkOk_by (own := [("arg", 5)]) (by rfl)) (by decide) (by rfl) (fun _ _ _ _ _ => t_nm nd (by rfl) (by first | exact Or.inl rfl | exact Or.inr rfl)) (fun _ _ _ _ _ => q_yes) (fun _ _ _ _ _ => c_tup (a1 (w_v 5) (a1 (w_bin (w_v 4) (c_int)) (a0)))))))) (s_nil)))))) (s_one (s_ret (w_v 1))))
theorem k_variables_of {F : Fns} {n : Nat} (g : G P w K mg base F n) (f : Addr) (cdv : Value) (A : Around) (outer : List PySem.Env) (s : Shared) (H : Hp) (E : XK) (hr : Room n (A.deeper (envOfC "variables_of" (defScope S_variables_of) s.heap.objs.size f cdv))) (hG : A.guards = some []) :
    PSs (cxOf CX0 P w K mg base N_variables_of "variables_of" (defScope S_variables_of) f cdv A outer s H E).nox (defBody S_variables_of) (rdS K (fun _ => 0) F W0 P_variables_of) :=
  have nd := sc_variables_of.nd
  have hu := hu65 hr
  s_seq (s_par rfl nd (by rfl) (by rfl) (by decide) (by rfl) (by rfl) (c_lst (a0)) (c_dict0) (by rfl)) (s_seq (s_for PassesOwn.never rfl (ci_of (c_call g.f_standings hr hG (by rfl) (a1 (w_v 0) (a0)))) (g_tp rfl (gs_cons (g_nm nd (by rfl) (by first | exact Or.inl rfl | exact Or.inr rfl)) (gs_cons (g_nm nd (by rfl) (by first | exact Or.inl rfl | exact Or.inr rfl)) (gs_nil)))) (s_one (s_if (wt_cmp hu (w_v 4) (w_v 2)) (s_seq (s_drop (c_append (w_v 1) (c_tup (a1 (w_v 3) (a1 (w_v 4) (a0)))))) (s_one (s_asg (c_bl) (g_sb (lt1 hu) (w_v 2) (w_v 4))))) (s_nil)))) (s_one (s_ret (w_v 1))))
theorem k_nodes_of {F : Fns} {n : Nat} (g : G P w K mg base F n) (f : Addr) (cdv : Value) (A : Around) (outer : List PySem.Env) (s : Shared) (H : Hp) (E : XK) (hr : Room n (A.deeper (envOfC "nodes_of" (defScope S_nodes_of) s.heap.objs.size f cdv))) (hG : A.guards = some []) :
    PSs (cxOf CX0 P w K mg base N_nodes_of "nodes_of" (defScope S_nodes_of) f cdv A outer s H E).nox (defBody S_nodes_of) (rdS K (fun _ => 0) F W0 P_nodes_of) :=
  have nd := sc_nodes_of.nd
  have hu := hu65 hr
  s_one (s_ret (w_fn or_len on_len boot_len g.b_len (a1 (c_call g.f_pieces hr hG (by rfl) (a1 (w_v 0) (a0))) (a0))))
theorem k_is_term {F : Fns} {n : Nat} (g : G P w K mg base F n) (f : Addr) (cdv : Value) (A : Around) (outer : List PySem.Env) (s : Shared) (H : Hp) (E : XK) (hr : Room n (A.deeper (envOfC "is_term" (defScope S_is_term) s.heap.objs.size f cdv))) (hG : A.guards = some []) :
    PSs (cxOf CX0 P w K mg base N_is_term "is_term" (defScope S_is_term) f cdv A outer s H E).nox (defBody S_is_term) (rdS K (fun _ => 0) F W0 P_is_term) :=
  have nd := sc_is_term.nd
  have hu := hu65 hr
  s_seq (s_set nd (by rfl) (by first | exact Or.inl rfl | exact Or.inr rfl) (c_call g.f_standings hr hG (by rfl) (a1 (w_v 0) (a0)))) (s_one (s_ret (c_and (w_cmp hu (w_v 1) (c_non)) (c_and1 (c_call g.f_have_one_sort hr hG (by rfl) (a1 (w_v 1) (a0)))))))
theorem k_want_term {F : Fns} {n : Nat} (g : G P w K mg base F n) (f : Addr) (cdv : Value) (A : Around) (outer : List PySem.Env) (s : Shared) (H : Hp) (E : XK) (hr : Room n (A.deeper (envOfC "want_term" (defScope S_want_term) s.heap.objs.size f cdv))) (hG : A.guards = some []) :
    PSs (cxOf CX0 P w K mg base N_want_term "want_term" (defScope S_want_term) f cdv A outer s H E).nox (defBody S_want_term) (rdS K (fun _ => 0) F W0 P_want_term) :=
  have nd := sc_want_term.nd
  have hu := hu65 hr
  s_seq (s_if (ct_not (wt_tru (c_call g.f_is_term hr hG (by rfl) (a1 (w_v 0) (a0))))) (s_one (s_never)) (s_nil)) (s_one (s_ret (w_v 0)))
theorem k_filled_args {F : Fns} {n : Nat} (g : G P w K mg base F n) (f : Addr) (cdv : Value) (A : Around) (outer : List PySem.Env) (s : Shared) (H : Hp) (E : XK) (hr : Room n (A.deeper (envOfC "filled_args" (defScope S_filled_args) s.heap.objs.size f cdv))) (hG : A.guards = some []) :
    PSs (cxOf CX0 P w K mg base N_filled_args "filled_args" (defScope S_filled_args) f cdv A outer s H E).nox (defBody S_filled_args) (rdS K (fun _ => 0) F W0 P_filled_args) :=
  have nd := sc_filled_args.nd
  have hu := hu65 hr
  s_seq (s_set nd (by rfl) (by first | exact Or.inl rfl | exact Or.inr rfl) (c_lst (a0))) (s_seq (s_for PassesOwn.never rfl (ci_of (w_v 0)) (g_nm nd (by rfl) (by first | exact Or.inl rfl | exact Or.inr rfl)) (s_one (s_if (wt_tru (c_call g.f_is_rest hr hG (by rfl) (a1 (w_v 3) (a0)))) (s_one (s_drop (c_extend (w_v 2) (c_get2 (lt1 hu) (w_v 1) (c_sl (w_v 3) (co_some (c_int)) (co_none)) (c_tup (a1 (w_v 3) (a0))) ⟨by rfl, by rfl, by rfl, by rfl⟩)))) (s_one (s_drop (c_append (w_v 2) (c_call g.f_fill hr hG (by rfl) (a1 (w_v 3) (a1 (w_v 1) (a0)))))))))) (s_one (s_ret (w_ty call_tuple_of on_tuple boot_tuple g.b_tuple (a1 (w_v 2) (a0))))))
theorem k_fill {F : Fns} {n : Nat} (g : G P w K mg base F n) (f : Addr) (cdv : Value) (A : Around) (outer : List PySem.Env) (s : Shared) (H : Hp) (E : XK) (hr : Room n (A.deeper (envOfC "fill" (defScope S_fill) s.heap.objs.size f cdv))) (hG : A.guards = some []) :
    PSs (cxOf CX0 P w K mg base N_fill "fill" (defScope S_fill) f cdv A outer s H E).nox (defBody S_fill) (rdS K (fun _ => 0) F W0 P_fill) :=
  have nd := sc_fill.nd
  have hu := hu65 hr
  s_seq (s_if (wt_tru (c_call g.f_is_applied hr hG (by rfl) (a1 (w_v 0) (a0)))) (s_one (s_ret (c_tup (a1 (c_get2 (lt1 hu) (w_v 1) (w_ix hu (w_v 0) (c_int)) (w_ix hu (w_v 0) (c_int)) ⟨by rfl, by rfl, by rfl, by rfl⟩) (a1 (c_call g.f_filled_args hr hG (by rfl) (a1 (w_ix hu (w_v 0) (c_int)) (a1 (w_v 1) (a0)))) (a0)))))) (s_nil)) (s_one (s_ret (c_if (wt_tru (w_isi .str g.b_isinstance (pe_bltn (by rfl) g.b_str boot_str rfl) (w_v 0))) (c_get2 (lt1 hu) (w_v 1) (w_v 0) (w_v 0) ⟨by rfl, by rfl, by rfl, by rfl⟩) (w_v 0))))
theorem k_are_args {F : Fns} {n : Nat} (g : G P w K mg base F n) (f : Addr) (cdv : Value) (A : Around) (outer : List PySem.Env) (s : Shared) (H : Hp) (E : XK) (hr : Room n (A.deeper (envOfC "are_args" (defScope S_are_args) s.heap.objs.size f cdv))) (hG : A.guards = some []) :
    PSs (cxOf CX0 P w K mg base N_are_args "are_args" (defScope S_are_args) f cdv A outer s H E).nox (defBody S_are_args) (rdS K (fun _ => 0) F W0 P_are_args) :=
  have nd := sc_are_args.nd
  have hu := hu65 hr
  s_seq (s_if (ct_not (wt_tru (w_isi .tuple g.b_isinstance (pe_bltn (by rfl) g.b_tuple boot_tuple rfl) (w_v 0)))) (s_one (s_ret (c_bl))) (s_nil)) (s_seq (s_set nd (by rfl) (by first | exact Or.inl rfl | exact Or.inr rfl) (w_bin (w_fn or_len on_len boot_len g.b_len (a1 (w_v 0) (a0))) (c_int))) (s_one (s_ret (w_fn (cr_all rfl) on_all boot_all g.b_all (a1 (c_lc rfl nd (ci_enum (by rfl) g.b_enumerate (w_v 0)) (blkOk_by (own := [("at", 2), ("arg", 3)]) (by rfl)) (by decide) (by rfl) (fun _ _ _ _ _ => t_tp rfl (t_cons (t_nm nd (by rfl) (by first | exact Or.inl rfl | exact Or.inr rfl)) (t_cons (t_nm nd (by rfl) (by first | exact Or.inl rfl | exact Or.inr rfl)) (t_nil)))) (fun _ _ _ _ _ => q_yes) (fun _ _ _ _ _ => c_or (c_call g.f_is_term hr hG (by rfl) (a1 (w_v 3) (a0))) (c_or1 (c_and (w_cmp hu (w_v 2) (w_v 1)) (c_and1 (c_call g.f_is_rest hr hG (by rfl) (a1 (w_v 3) (a0)))))))) (a0))))))
theorem k_fits_sort {F : Fns} {n : Nat} (g : G P w K mg base F n) (f : Addr) (cdv : Value) (A : Around) (outer : List PySem.Env) (s : Shared) (H : Hp) (E : XK) (hr : Room n (A.deeper (envOfC "fits_sort" (defScope S_fits_sort) s.heap.objs.size f cdv))) (hG : A.guards = some []) :
    PSs (cxOf CX0 P w K mg base N_fits_sort "fits_sort" (defScope S_fits_sort) f cdv A outer s H E).nox (defBody S_fits_sort) (rdS K (fun _ => 0) F W0 P_fits_sort) :=
  have nd := sc_fits_sort.nd
  have hu := hu65 hr
  s_seq (s_if (wt_cmp hu (w_v 0) (w_gs g.c_TERM)) (s_one (s_ret (c_call g.f_is_term hr hG (by rfl) (a1 (w_v 1) (a0))))) (s_nil)) (s_one (s_ret (c_if (wt_cmp hu (w_v 0) (w_gs g.c_HEAD)) (c_call g.f_is_head hr hG (by rfl) (a1 (w_v 1) (a0))) (c_call g.f_are_args hr hG (by rfl) (a1 (w_v 1) (a0))))))
theorem k_is_filling_of {F : Fns} {n : Nat} (g : G P w K mg base F n) (f : Addr) (cdv : Value) (A : Around) (outer : List PySem.Env) (s : Shared) (H : Hp) (E : XK) (hr : Room n (A.deeper (envOfC "is_filling_of" (defScope S_is_filling_of) s.heap.objs.size f cdv))) (hG : A.guards = some []) :
    PSs (cxOf CX0 P w K mg base N_is_filling_of "is_filling_of" (defScope S_is_filling_of) f cdv A outer s H E).nox (defBody S_is_filling_of) (rdS K (fun _ => 0) F W0 P_is_filling_of) :=
  have nd := sc_is_filling_of.nd
  have hu := hu65 hr
  s_seq (s_if (ct_not (wt_tru (w_isi .dict g.b_isinstance (pe_bltn (by rfl) g.b_dict boot_dict rfl) (w_v 1)))) (s_one (s_ret (c_bl))) (s_nil)) (s_seq (s_set nd (by rfl) (by first | exact Or.inl rfl | exact Or.inr rfl) (c_dict0)) (s_seq (s_for PassesOwn.never rfl (ci_of (c_call g.f_variables_of hr hG (by rfl) (a1 (w_v 0) (a0)))) (g_tp rfl (gs_cons (g_nm nd (by rfl) (by first | exact Or.inl rfl | exact Or.inr rfl)) (gs_cons (g_nm nd (by rfl) (by first | exact Or.inl rfl | exact Or.inr rfl)) (gs_nil)))) (s_one (s_asg (w_v 3) (g_sb (lt1 hu) (w_v 2) (w_v 4))))) (s_seq (s_fork PassesOwn.never rfl (w_n 1) (g_nm nd (by rfl) (by first | exact Or.inl rfl | exact Or.inr rfl)) (s_one (s_if ((cw_or (ct_not (wt_tru (c_call g.f_is_variable hr hG (by rfl) (a1 (w_v 5) (a0))))) (cw_or (wt_cmp hu (w_v 5) (w_v 2)) (cw_or1 (ct_not (wt_tru (c_call g.f_fits_sort hr hG (by rfl) (a1 (w_ix hu (w_v 2) (w_v 5)) (a1 (w_ix hu (w_v 1) (w_v 5)) (a0))))))))).pt) (s_one (s_ret (c_bl))) (s_nil)))) (s_one (s_ret (c_call g.f_is_term hr hG (by rfl) (a1 (c_call g.f_fill hr hG (by rfl) (a1 (w_v 0) (a1 (w_v 1) (a0)))) (a0))))))))
theorem k_filled {F : Fns} {n : Nat} (g : G P w K mg base F n) (f : Addr) (cdv : Value) (A : Around) (outer : List PySem.Env) (s : Shared) (H : Hp) (E : XK) (hr : Room n (A.deeper (envOfC "filled" (defScope S_filled) s.heap.objs.size f cdv))) (hG : A.guards = some []) :
    PSs (cxOf CX0 P w K mg base N_filled "filled" (defScope S_filled) f cdv A outer s H E).nox (defBody S_filled) (rdS K (fun _ => 0) F W0 P_filled) :=
  have nd := sc_filled.nd
  have hu := hu65 hr
  s_seq (s_if (ct_not (wt_tru (c_call g.f_is_filling_of hr hG (by rfl) (a1 (c_call g.f_want_term hr hG (by rfl) (a1 (w_v 0) (a0))) (a1 (w_v 1) (a0)))))) (s_one (s_never)) (s_nil)) (s_seq (s_set nd (by rfl) (by first | exact Or.inl rfl | exact Or.inr rfl) (c_call g.f_fill hr hG (by rfl) (a1 (w_v 0) (a1 (w_v 1) (a0))))) (s_seq (s_drop (c_call g.f_want_at_most hr hG (by rfl) (a1 (c_str) (a1 (w_gi g.c_MOST_NODES) (a1 (c_call g.f_nodes_of hr hG (by rfl) (a1 (w_v 2) (a0))) (a0)))))) (s_one (s_ret (w_v 2)))))
theorem k_is_held {F : Fns} {n : Nat} (g : G P w K mg base F n) (f : Addr) (cdv : Value) (A : Around) (outer : List PySem.Env) (s : Shared) (H : Hp) (E : XK) (hr : Room n (A.deeper (envOfC "is_held" (defScope S_is_held) s.heap.objs.size f cdv))) (hG : A.guards = some []) :
    PSs (cxOf CX0 P w K mg base N_is_held "is_held" (defScope S_is_held) f cdv A outer s H E).nox (defBody S_is_held) (rdS K (fun _ => 0) F W0 P_is_held) :=
  have nd := sc_is_held.nd
  have hu := hu65 hr
  s_seq (s_if (wt_cmp hu (w_v 1) (w_v 0)) (s_one (s_ret (w_cmp hu (w_ix hu (w_v 0) (w_v 1)) (w_v 2)))) (s_nil)) (s_seq (s_asg (w_v 2) (g_sb (lt1 hu) (w_v 0) (w_v 1))) (s_one (s_ret (c_bl))))
theorem k_matched_args {F : Fns} {n : Nat} (g : G P w K mg base F n) (f : Addr) (cdv : Value) (A : Around) (outer : List PySem.Env) (s : Shared) (H : Hp) (E : XK) (hr : Room n (A.deeper (envOfC "matched_args" (defScope S_matched_args) s.heap.objs.size f cdv))) (hG : A.guards = some []) :
    PSs (cxOf CX0 P w K mg base N_matched_args "matched_args" (defScope S_matched_args) f cdv A outer s H E).nox (defBody S_matched_args) (rdS K (fun _ => 0) F W0 P_matched_args) :=
  have nd := sc_matched_args.nd
  have hu := hu65 hr
  s_seq (s_set nd (by rfl) (by first | exact Or.inl rfl | exact Or.inr rfl) (w_fn or_len on_len boot_len g.b_len (a1 (w_v 1) (a0)))) (s_seq (s_if ((cw_and (wt_cmp hu (w_v 1) (c_tup (a0))) (cw_and1 (wt_tru (c_call g.f_is_rest hr hG (by rfl) (a1 (w_ix hu (w_v 1) (c_neg (c_int))) (a0)))))).pt) (s_seq (s_set nd (by rfl) (by first | exact Or.inl rfl | exact Or.inr rfl) (w_bin (w_v 3) (c_int))) (s_one (s_if ((cw_or (wt_cmp hu (w_fn or_len on_len boot_len g.b_len (a1 (w_v 2) (a0))) (w_v 3)) (cw_or1 (ct_not (wt_tru (c_call g.f_is_held hr hG (by rfl) (a1 (w_v 0) (a1 (c_sl (w_ix hu (w_v 1) (c_neg (c_int))) (co_some (c_int)) (co_none)) (a1 (c_sl (w_v 2) (co_some (w_v 3)) (co_none)) (a0))))))))).pt) (s_one (s_ret (c_non))) (s_nil)))) (s_one (s_if (wt_cmp hu (w_fn or_len on_len boot_len g.b_len (a1 (w_v 2) (a0))) (w_v 3)) (s_one (s_ret (c_non))) (s_nil)))) (s_seq (s_set nd (by rfl) (by first | exact Or.inl rfl | exact Or.inr rfl) (w_lzip g.b_list g.b_zip (a1 (c_sl (w_v 1) (co_none) (co_some (w_v 3))) (a1 (c_sl (w_v 2) (co_none) (co_some (w_v 3))) (a0))))) (s_one (s_ret (c_if (wt_tru (w_fn (cr_any rfl) on_any boot_any g.b_any (a1 (c_lc rfl nd (ci_of (w_v 4)) (blkOk_by (own := [("one", 5), ("other", 6)]) (by rfl)) (by decide) (by rfl) (fun _ _ _ _ _ => t_tp rfl (t_cons (t_nm nd (by rfl) (by first | exact Or.inl rfl | exact Or.inr rfl)) (t_cons (t_nm nd (by rfl) (by first | exact Or.inl rfl | exact Or.inr rfl)) (t_nil)))) (fun _ _ _ _ _ => q_yes) (fun _ _ _ _ _ => c_call g.f_is_rest hr hG (by rfl) (a1 (w_v 6) (a0)))) (a0)))) (c_non) (w_v 4))))))
theorem k_matching {F : Fns} {n : Nat} (g : G P w K mg base F n) (f : Addr) (cdv : Value) (A : Around) (outer : List PySem.Env) (s : Shared) (H : Hp) (E : XK) (hr : Room n (A.deeper (envOfC "matching" (defScope S_matching) s.heap.objs.size f cdv))) (hG : A.guards = some []) :
    PSs (cxOf CX0 P w K mg base N_matching "matching" (defScope S_matching) f cdv A outer s H E).nox (defBody S_matching) (rdS K (fun _ => 0) F W0 P_matching) :=
  have nd := sc_matching.nd
  have hu := hu65 hr
  s_seq (s_par rfl nd (by rfl) (by rfl) (by decide) (by rfl) (by rfl) (c_dict0) (c_lst (a1 (c_tup (a1 (w_v 0) (a1 (w_v 1) (a0)))) (a0))) (by rfl)) (s_seq (s_while PassesOwn.never (wt_cmp hu (w_v 3) (c_lst (a0))) (s_seq (s_asg (c_pop (w_v 3)) (g_tp rfl (gs_cons (g_nm nd (by rfl) (by first | exact Or.inl rfl | exact Or.inr rfl)) (gs_cons (g_nm nd (by rfl) (by first | exact Or.inl rfl | exact Or.inr rfl)) (gs_nil))))) (s_one (s_if (wt_tru (c_call g.f_is_variable hr hG (by rfl) (a1 (w_v 4) (a0)))) (s_one (s_if (ct_not (wt_tru (c_call g.f_is_held hr hG (by rfl) (a1 (w_v 2) (a1 (w_v 4) (a1 (w_v 5) (a0))))))) (s_one (s_ret (c_non))) (s_nil))) (s_one (s_if ((cw_or (ct_not (wt_tru (c_call g.f_is_applied hr hG (by rfl) (a1 (w_v 4) (a0))))) (cw_or1 (ct_not (wt_tru (c_call g.f_is_applied hr hG (by rfl) (a1 (w_v 5) (a0))))))).pt) (s_one (s_if (wt_cmp hu (w_v 4) (w_v 5)) (s_one (s_ret (c_non))) (s_nil))) (s_seq (s_set nd (by rfl) (by first | exact Or.inl rfl | exact Or.inr rfl) (c_if (wt_tru (c_call g.f_is_variable hr hG (by rfl) (a1 (w_ix hu (w_v 4) (c_int)) (a0)))) (c_call g.f_is_held hr hG (by rfl) (a1 (w_v 2) (a1 (w_ix hu (w_v 4) (c_int)) (a1 (w_ix hu (w_v 5) (c_int)) (a0))))) (w_cmp hu (w_ix hu (w_v 4) (c_int)) (w_ix hu (w_v 5) (c_int))))) (s_seq (s_set nd (by rfl) (by first | exact Or.inl rfl | exact Or.inr rfl) (c_if (wt_tru (w_v 6)) (c_call g.f_matched_args hr hG (by rfl) (a1 (w_v 2) (a1 (w_ix hu (w_v 4) (c_int)) (a1 (w_ix hu (w_v 5) (c_int)) (a0))))) (c_non))) (s_seq (s_if (wt_cmp hu (w_v 7) (c_non)) (s_one (s_ret (c_non))) (s_nil)) (s_one (s_drop (c_extend (w_v 3) (w_v 7))))))))))))) (s_one (s_ret (w_v 2))))
theorem k_is_instance {F : Fns} {n : Nat} (g : G P w K mg base F n) (f : Addr) (cdv : Value) (A : Around) (outer : List PySem.Env) (s : Shared) (H : Hp) (E : XK) (hr : Room n (A.deeper (envOfC "is_instance" (defScope S_is_instance) s.heap.objs.size f cdv))) (hG : A.guards = some []) :
    PSs (cxOf CX0 P w K mg base N_is_instance "is_instance" (defScope S_is_instance) f cdv A outer s H E).nox (defBody S_is_instance) (rdS K (fun _ => 0) F W0 P_is_instance) :=
  have nd := sc_is_instance.nd
  have hu := hu65 hr
  s_one (s_ret (w_cmp hu (c_call g.f_matching hr hG (by rfl) (a1 (w_v 1) (a1 (w_v 0) (a0)))) (c_non)))
theorem k_matched {F : Fns} {n : Nat} (g : G P w K mg base F n) (f : Addr) (cdv : Value) (A : Around) (outer : List PySem.Env) (s : Shared) (H : Hp) (E : XK) (hr : Room n (A.deeper (envOfC "matched" (defScope S_matched) s.heap.objs.size f cdv))) (hG : A.guards = some []) :
    PSs (cxOf CX0 P w K mg base N_matched "matched" (defScope S_matched) f cdv A outer s H E).nox (defBody S_matched) (rdS K (fun _ => 0) F W0 P_matched) :=
  have nd := sc_matched.nd
  have hu := hu65 hr
  s_seq (s_drop (c_call g.f_want_term hr hG (by rfl) (a1 (w_v 0) (a0)))) (s_seq (s_drop (c_call g.f_want_term hr hG (by rfl) (a1 (w_v 1) (a0)))) (s_one (s_ret (c_call g.f_matching hr hG (by rfl) (a1 (w_v 0) (a1 (w_v 1) (a0)))))))
theorem k_is_below {F : Fns} {n : Nat} (g : G P w K mg base F n) (f : Addr) (cdv : Value) (A : Around) (outer : List PySem.Env) (s : Shared) (H : Hp) (E : XK) (hr : Room n (A.deeper (envOfC "is_below" (defScope S_is_below) s.heap.objs.size f cdv))) (hG : A.guards = some []) :
    PSs (cxOf CX0 P w K mg base N_is_below "is_below" (defScope S_is_below) f cdv A outer s H E).nox (defBody S_is_below) (rdS K (fun _ => 0) F W0 P_is_below) :=
  have nd := sc_is_below.nd
  have hu := hu65 hr
  s_seq (s_drop (c_call g.f_want_term hr hG (by rfl) (a1 (w_v 0) (a0)))) (s_seq (s_drop (c_call g.f_want_term hr hG (by rfl) (a1 (w_v 1) (a0)))) (s_one (s_ret (c_call g.f_is_instance hr hG (by rfl) (a1 (w_v 0) (a1 (w_v 1) (a0)))))))
theorem k__law_pot {F : Fns} {n : Nat} (g : G P w K mg base F n) (f : Addr) (cdv : Value) (A : Around) (outer : List PySem.Env) (s : Shared) (H : Hp) (E : XK) (hr : Room n (A.deeper (envOfC "_law_pot" (defScope S__law_pot) s.heap.objs.size f cdv))) (hG : A.guards = some []) :
    PSs (cxOf CX0 P w K mg base N__law_pot "_law_pot" (defScope S__law_pot) f cdv A outer s H E).nox (defBody S__law_pot) (rdS K (fun _ => 0) F W0 P__law_pot) :=
  have nd := sc__law_pot.nd
  have hu := hu65 hr
  s_seq (s_set nd (by rfl) (by first | exact Or.inl rfl | exact Or.inr rfl) (c_if (wt_cmp hu (w_v 1) (w_fn or_len on_len boot_len g.b_len (a1 (w_v 0) (a0)))) (w_fn call_abs on_abs boot_abs g.b_abs (a1 (w_ix hu (w_v 0) (w_v 1)) (a0))) (w_bin (w_bin (c_int) (w_v 1)) (c_int)))) (s_one (s_ret (c_lst (a1 (w_fn (or_max rfl) on_max boot_max g.b_max (a1 (c_int) (a1 (w_bin (w_v 2) (w_bin (c_int) (c_int))) (a0)))) (a1 (w_bin (w_bin (w_ty call_int1 on_int boot_int g.b_int (a1 (w_bin (w_bin (w_bin (w_bin (w_ty call_int1 on_int boot_int g.b_int (a1 (w_v 2) (a0))) (c_int)) (c_int)) (w_bin (c_int) (w_v 1))) (c_int)) (a0))) (c_int)) (c_int)) (a0))))))
theorem k__law_draw {F : Fns} {n : Nat} (g : G P w K mg base F n) (f : Addr) (cdv : Value) (A : Around) (outer : List PySem.Env) (s : Shared) (H : Hp) (E : XK) (hr : Room n (A.deeper (envOfC "_law_draw" (defScope S__law_draw) s.heap.objs.size f cdv))) (hG : A.guards = some []) :
    PSs (cxOf CX0 P w K mg base N__law_draw "_law_draw" (defScope S__law_draw) f cdv A outer s H E).nox (defBody S__law_draw) (rdS K (fun _ => 0) F W0 P__law_draw) :=
  have nd := sc__law_draw.nd
  have hu := hu65 hr
  s_seq (s_if (wt_cmp hu (w_ix hu (w_v 0) (c_int)) (c_int)) (s_seq (s_asg (w_fn call_divmod on_divmod boot_divmod g.b_divmod (a1 (w_ix hu (w_v 0) (c_int)) (a1 (w_v 1) (a0)))) (g_tp rfl (gs_cons (g_sb (lt1 hu) (w_v 0) (c_int)) (gs_cons (g_nm nd (by rfl) (by first | exact Or.inl rfl | exact Or.inr rfl)) (gs_nil))))) (s_one (s_ret (w_v 2)))) (s_nil)) (s_seq (s_asg (w_bin (w_ty call_int1 on_int boot_int g.b_int (a1 (w_bin (w_bin (w_ix hu (w_v 0) (c_int)) (c_int)) (c_int)) (a0))) (c_int)) (g_sb (lt1 hu) (w_v 0) (c_int))) (s_one (s_ret (w_bin (w_ty call_int1 on_int boot_int g.b_int (a1 (w_bin (w_bin (w_ty call_int1 on_int boot_int g.b_int (a1 (w_bin (w_ix hu (w_v 0) (c_int)) (w_ix hu (w_v 0) (c_int))) (a0))) (c_int)) (c_int)) (a0))) (w_v 1)))))
theorem k__law_pick {F : Fns} {n : Nat} (g : G P w K mg base F n) (f : Addr) (cdv : Value) (A : Around) (outer : List PySem.Env) (s : Shared) (H : Hp) (E : XK) (hr : Room n (A.deeper (envOfC "_law_pick" (defScope S__law_pick) s.heap.objs.size f cdv))) (hG : A.guards = some []) :
    PSs (cxOf CX0 P w K mg base N__law_pick "_law_pick" (defScope S__law_pick) f cdv A outer s H E).nox (defBody S__law_pick) (rdS K (fun _ => 0) F W0 P__law_pick) :=
  have nd := sc__law_pick.nd
  have hu := hu65 hr
  s_one (s_ret (w_ix hu (w_v 1) (c_call g.f__law_draw hr hG (by rfl) (a1 (w_v 0) (a1 (w_fn or_len on_len boot_len g.b_len (a1 (w_v 1) (a0))) (a0))))))
theorem k__law_term {F : Fns} {n : Nat} (g : G P w K mg base F n) (f : Addr) (cdv : Value) (A : Around) (outer : List PySem.Env) (s : Shared) (H : Hp) (E : XK) (hr : Room n (A.deeper (envOfC "_law_term" (defScope S__law_term) s.heap.objs.size f cdv))) (hG : A.guards = some []) :
    PSs (cxOf CX0 P w K mg base N__law_term "_law_term" (defScope S__law_term) f cdv A outer s H E).nox (defBody S__law_term) (rdS K (fun _ => 0) F W0 P__law_term) :=
  have nd := sc__law_term.nd
  have hu := hu65 hr
  s_seq (s_set nd (by rfl) (by first | exact Or.inl rfl | exact Or.inr rfl) (c_call g.f__law_draw hr hG (by rfl) (a1 (w_v 0) (a1 (c_int) (a0))))) (s_seq (s_if ((cw_or (wt_cmp hu (w_v 2) (c_int)) (cw_or1 ((cw_and (wt_cmp hu (w_v 1) (c_int)) (cw_and1 (wt_cmp hu (w_v 2) (c_int)))).pt))).pt) (s_one (s_ret (c_call g.f__law_pick hr hG (by rfl) (a1 (w_v 0) (a1 (c_lst (a1 (c_int) (a1 (c_int) (a1 (c_neg (c_int)) (a1 (c_int) (a1 (c_int) (a1 (c_tup (a1 (c_str) (a1 (c_tup (a0)) (a0)))) (a0)))))))) (a0)))))) (s_nil)) (s_seq (s_if ((cw_or (wt_cmp hu (w_v 2) (c_int)) (cw_or1 (wt_cmp hu (w_v 1) (c_int)))).pt) (s_one (s_ret (c_call g.f__law_pick hr hG (by rfl) (a1 (w_v 0) (a1 (c_lst (a1 (c_str) (a1 (c_str) (a1 (c_str) (a0))))) (a0)))))) (s_nil)) (s_seq (s_lc rfl nd (by rfl) (by rfl) (sw_true (by rfl) (by rfl) (by rfl) (by rfl)) (w_r1 g.b_range (c_call g.f__law_draw hr hG (by rfl) (a1 (w_v 0) (a1 (c_int) (a0))))) (blkOk_by (own := [("turn", 4)]) (by rfl)) (by decide) (by rfl) (fun _ _ _ _ _ => t_nm nd (by rfl) (by first | exact Or.inl rfl | exact Or.inr rfl)) (fun _ _ _ _ _ => q_yes) (fun _ _ _ _ _ => c_call g.f__law_term hr hG (by rfl) (a1 (w_v 0) (a1 (w_bin (w_v 1) (c_int)) (a0))))) (s_seq (s_if (wt_cmp hu (c_call g.f__law_draw hr hG (by rfl) (a1 (w_v 0) (a1 (c_int) (a0)))) (c_int)) (s_one (s_drop (c_append (w_v 3) (c_call g.f__law_pick hr hG (by rfl) (a1 (w_v 0) (a1 (c_lst (a1 (c_str) (a1 (c_str) (a0)))) (a0))))))) (s_nil)) (s_one (s_ret (c_tup (a1 (c_call g.f__law_pick hr hG (by rfl) (a1 (w_v 0) (a1 (c_lst (a1 (c_str) (a1 (c_str) (a1 (c_str) (a1 (c_str) (a1 (c_str) (a0))))))) (a0)))) (a1 (w_ty call_tuple_of on_tuple boot_tuple g.b_tuple (a1 (w_v 3) (a0))) (a0))))))))))
theorem k__law_great {F : Fns} {n : Nat} (g : G P w K mg base F n) (f : Addr) (cdv : Value) (A : Around) (outer : List PySem.Env) (s : Shared) (H : Hp) (E : XK) (hr : Room n (A.deeper (envOfC "_law_great" (defScope S__law_great) s.heap.objs.size f cdv))) (hG : A.guards = some []) :
    PSs (cxOf CX0 P w K mg base N__law_great "_law_great" (defScope S__law_great) f cdv A outer s H E).nox (defBody S__law_great) (rdS K (fun _ => 0) F W0 P__law_great) :=
  have nd := sc__law_great.nd
  have hu := hu65 hr
  s_seq (s_if (wt_cmp hu (c_call g.f__law_draw hr hG (by rfl) (a1 (w_v 0) (a1 (c_int) (a0)))) (c_int)) (s_seq (s_lc rfl nd (by rfl) (by rfl) (sw_true (by rfl) (by rfl) (by rfl) (by rfl)) (w_r1 g.b_range (w_bin (c_int) (c_call g.f__law_draw hr hG (by rfl) (a1 (w_v 0) (a1 (c_int) (a0)))))) (blkOk_by (own := [("turn", 3)]) (by rfl)) (by decide) (by rfl) (fun _ _ _ _ _ => t_nm nd (by rfl) (by first | exact Or.inl rfl | exact Or.inr rfl)) (fun _ _ _ _ _ => q_yes) (fun _ _ _ _ _ => c_call g.f__law_term hr hG (by rfl) (a1 (w_v 0) (a1 (c_int) (a0))))) (s_seq (s_if (wt_cmp hu (c_call g.f__law_draw hr hG (by rfl) (a1 (w_v 0) (a1 (c_int) (a0)))) (c_int)) (s_one (s_drop (c_append (w_v 1) (c_call g.f__law_pick hr hG (by rfl) (a1 (w_v 0) (a1 (c_lst (a1 (c_str) (a1 (c_str) (a0)))) (a0))))))) (s_nil)) (s_one (s_ret (c_tup (a1 (c_call g.f__law_pick hr hG (by rfl) (a1 (w_v 0) (a1 (c_lst (a1 (c_str) (a1 (c_str) (a0)))) (a0)))) (a1 (w_ty call_tuple_of on_tuple boot_tuple g.b_tuple (a1 (w_v 1) (a0))) (a0)))))))) (s_nil)) (s_seq (s_set nd (by rfl) (by first | exact Or.inl rfl | exact Or.inr rfl) (c_call g.f__law_term hr hG (by rfl) (a1 (w_v 0) (a1 (c_int) (a0))))) (s_seq (s_for PassesOwn.never rfl (w_r1 g.b_range (w_bin (c_int) (c_call g.f__law_draw hr hG (by rfl) (a1 (w_v 0) (a1 (c_int) (a0)))))) (g_nm nd (by rfl) (by first | exact Or.inl rfl | exact Or.inr rfl)) (s_seq (s_set nd (by rfl) (by first | exact Or.inl rfl | exact Or.inr rfl) (w_bin (c_lc rfl nd (w_r1 g.b_range (c_call g.f__law_draw hr hG (by rfl) (a1 (w_v 0) (a1 (c_int) (a0))))) (blkOk_by (own := [("near", 4)]) (by rfl)) (by decide) (by rfl) (fun _ _ _ _ _ => t_nm nd (by rfl) (by first | exact Or.inl rfl | exact Or.inr rfl)) (fun _ _ _ _ _ => q_yes) (fun _ _ _ _ _ => c_call g.f__law_term hr hG (by rfl) (a1 (w_v 0) (a1 (c_int) (a0))))) (c_lst (a1 (w_v 2) (a0))))) (s_seq (s_if (wt_cmp hu (c_call g.f__law_draw hr hG (by rfl) (a1 (w_v 0) (a1 (c_int) (a0)))) (c_int)) (s_one (s_drop (c_append (w_v 1) (c_call g.f__law_pick hr hG (by rfl) (a1 (w_v 0) (a1 (c_lst (a1 (c_str) (a1 (c_str) (a0)))) (a0))))))) (s_nil)) (s_one (s_set nd (by rfl) (by first | exact Or.inl rfl | exact Or.inr rfl) (c_tup (a1 (c_call g.f__law_pick hr hG (by rfl) (a1 (w_v 0) (a1 (c_lst (a1 (c_str) (a1 (c_str) (a1 (c_str) (a0))))) (a0)))) (a1 (w_ty call_tuple_of on_tuple boot_tuple g.b_tuple (a1 (w_v 1) (a0))) (a0))))))))) (s_one (s_ret (w_v 2)))))
theorem k__law_nodes {F : Fns} {n : Nat} (g : G P w K mg base F n) (f : Addr) (cdv : Value) (A : Around) (outer : List PySem.Env) (s : Shared) (H : Hp) (E : XK) (hr : Room n (A.deeper (envOfC "_law_nodes" (defScope S__law_nodes) s.heap.objs.size f cdv))) (hG : A.guards = some []) :
    PSs (cxOf CX0 P w K mg base N__law_nodes "_law_nodes" (defScope S__law_nodes) f cdv A outer s H E).nox (defBody S__law_nodes) (rdS K (fun _ => 0) F W0 P__law_nodes) :=
  have nd := sc__law_nodes.nd
  have hu := hu65 hr
  s_one (s_ret (c_if (wt_tru (w_isi .tuple g.b_isinstance (pe_bltn (by rfl) g.b_tuple boot_tuple rfl) (w_v 0))) (w_bin (c_int) (w_fn (cr_sum rfl) on_sum boot_sum g.b_sum (a1 (c_lc rfl nd (ci_of (w_ix hu (w_v 0) (c_int))) (blkOk_by (own := [("arg", 1)]) (by rfl)) (by decide) (by rfl) (fun _ _ _ _ _ => t_nm nd (by rfl) (by first | exact Or.inl rfl | exact Or.inr rfl)) (fun _ _ _ _ _ => q_yes) (fun _ _ _ _ _ => c_call g.f__law_nodes hr hG (by rfl) (a1 (w_v 1) (a0)))) (a0)))) (c_int)))
theorem k__law_is_rest {F : Fns} {n : Nat} (g : G P w K mg base F n) (f : Addr) (cdv : Value) (A : Around) (outer : List PySem.Env) (s : Shared) (H : Hp) (E : XK) (hr : Room n (A.deeper (envOfC "_law_is_rest" (defScope S__law_is_rest) s.heap.objs.size f cdv))) (hG : A.guards = some []) :
    PSs (cxOf CX0 P w K mg base N__law_is_rest "_law_is_rest" (defScope S__law_is_rest) f cdv A outer s H E).nox (defBody S__law_is_rest) (rdS K (fun _ => 0) F W0 P__law_is_rest) :=
  have nd := sc__law_is_rest.nd
  have hu := hu65 hr
  s_one (s_ret (c_and (w_isi .str g.b_isinstance (pe_bltn (by rfl) g.b_str boot_str rfl) (w_v 0)) (c_and1 (w_cmp hu (c_sl (w_v 0) (co_none) (co_some (c_int))) (c_str)))))
theorem k__law_variables {F : Fns} {n : Nat} (g : G P w K mg base F n) (f : Addr) (cdv : Value) (A : Around) (outer : List PySem.Env) (s : Shared) (H : Hp) (E : XK) (hr : Room n (A.deeper (envOfC "_law_variables" (defScope S__law_variables) s.heap.objs.size f cdv))) (hG : A.guards = some []) :
    PSs (cxOf CX0 P w K mg base N__law_variables "_law_variables" (defScope S__law_variables) f cdv A outer s H E).nox (defBody S__law_variables) (rdS K (fun _ => 0) F W0 P__law_variables) :=
  have nd := sc__law_variables.nd
  have hu := hu65 hr
  s_seq (s_if (wt_tru (w_isi .str g.b_isinstance (pe_bltn (by rfl) g.b_str boot_str rfl) (w_v 0))) (s_one (s_ret (c_if (wt_cmp hu (w_v 0) (w_v 1)) (w_v 1) (w_bin (w_v 1) (c_lst (a1 (w_v 0) (a0))))))) (s_nil)) (s_seq (s_if (wt_tru (w_isi .tuple g.b_isinstance (pe_bltn (by rfl) g.b_tuple boot_tuple rfl) (w_v 0))) (s_seq (s_if ((cw_and (wt_cmp hu (w_ix hu (w_v 0) (c_int)) (c_lst (a1 (c_str) (a1 (c_str) (a0))))) (cw_and1 (wt_cmp hu (w_ix hu (w_v 0) (c_int)) (w_v 1)))).pt) (s_one (s_set nd (by rfl) (by first | exact Or.inl rfl | exact Or.inr rfl) (w_bin (w_v 1) (c_lst (a1 (w_ix hu (w_v 0) (c_int)) (a0)))))) (s_nil)) (s_one (s_for PassesOwn.never rfl (ci_of (w_ix hu (w_v 0) (c_int))) (g_nm nd (by rfl) (by first | exact Or.inl rfl | exact Or.inr rfl)) (s_one (s_set nd (by rfl) (by first | exact Or.inl rfl | exact Or.inr rfl) (c_call g.f__law_variables hr hG (by rfl) (a1 (w_v 2) (a1 (w_v 1) (a0))))))))) (s_nil)) (s_one (s_ret (w_v 1))))
theorem k__law_filling {F : Fns} {n : Nat} (g : G P w K mg base F n) (f : Addr) (cdv : Value) (A : Around) (outer : List PySem.Env) (s : Shared) (H : Hp) (E : XK) (hr : Room n (A.deeper (envOfC "_law_filling" (defScope S__law_filling) s.heap.objs.size f cdv))) (hG : A.guards = some []) :
    PSs (cxOf CX0 P w K mg base N__law_filling "_law_filling" (defScope S__law_filling) f cdv A outer s H E).nox (defBody S__law_filling) (rdS K (fun _ => 0) F W0 P__law_filling) :=
  have nd := sc__law_filling.nd
  have hu := hu65 hr
  s_seq (s_set nd (by rfl) (by first | exact Or.inl rfl | exact Or.inr rfl) (c_dict0)) (s_seq (s_for PassesOwn.never rfl (ci_of (c_call g.f__law_variables hr hG (by rfl) (a1 (w_v 1) (a1 (c_lst (a0)) (a0))))) (g_nm nd (by rfl) (by first | exact Or.inl rfl | exact Or.inr rfl)) (s_one (s_if (wt_tru (c_call g.f__law_is_rest hr hG (by rfl) (a1 (w_v 3) (a0)))) (s_seq (s_lc rfl nd (by rfl) (by rfl) (sw_true (by rfl) (by rfl) (by rfl) (by rfl)) (w_r1 g.b_range (c_call g.f__law_draw hr hG (by rfl) (a1 (w_v 0) (a1 (c_int) (a0))))) (blkOk_by (own := [("turn", 5)]) (by rfl)) (by decide) (by rfl) (fun _ _ _ _ _ => t_nm nd (by rfl) (by first | exact Or.inl rfl | exact Or.inr rfl)) (fun _ _ _ _ _ => q_yes) (fun _ _ _ _ _ => c_call g.f__law_term hr hG (by rfl) (a1 (w_v 0) (a1 (c_int) (a0))))) (s_seq (s_if (wt_cmp hu (c_call g.f__law_draw hr hG (by rfl) (a1 (w_v 0) (a1 (c_int) (a0)))) (c_int)) (s_one (s_drop (c_append (w_v 4) (c_call g.f__law_pick hr hG (by rfl) (a1 (w_v 0) (a1 (c_lst (a1 (c_str) (a1 (c_str) (a0)))) (a0))))))) (s_nil)) (s_one (s_asg (w_ty call_tuple_of on_tuple boot_tuple g.b_tuple (a1 (w_v 4) (a0))) (g_sb (lt1 hu) (w_v 2) (c_sl (w_v 3) (co_some (c_int)) (co_none))))))) (s_one (s_if (wt_cmp hu (w_v 3) (c_lst (a1 (c_str) (a1 (c_str) (a0))))) (s_one (s_asg (c_call g.f__law_pick hr hG (by rfl) (a1 (w_v 0) (a1 (c_lst (a1 (c_str) (a1 (c_str) (a1 (c_str) (a1 (c_str) (a1 (c_str) (a0))))))) (a0)))) (g_sb (lt1 hu) (w_v 2) (w_v 3)))) (s_one (s_asg (c_call g.f__law_term hr hG (by rfl) (a1 (w_v 0) (a1 (c_int) (a0)))) (g_sb (lt1 hu) (w_v 2) (w_v 3))))))))) (s_one (s_ret (w_v 2))))
theorem k__law_filled {F : Fns} {n : Nat} (g : G P w K mg base F n) (f : Addr) (cdv : Value) (A : Around) (outer : List PySem.Env) (s : Shared) (H : Hp) (E : XK) (hr : Room n (A.deeper (envOfC "_law_filled" (defScope S__law_filled) s.heap.objs.size f cdv))) (hG : A.guards = some []) :
    PSs (cxOf CX0 P w K mg base N__law_filled "_law_filled" (defScope S__law_filled) f cdv A outer s H E).nox (defBody S__law_filled) (rdS K (fun _ => 0) F W0 P__law_filled) :=
  have nd := sc__law_filled.nd
  have hu := hu65 hr
  s_seq (s_if (wt_tru (w_isi .str g.b_isinstance (pe_bltn (by rfl) g.b_str boot_str rfl) (w_v 0))) (s_one (s_ret (w_ix hu (w_v 1) (w_v 0)))) (s_nil)) (s_seq (s_if (ct_not (wt_tru (w_isi .tuple g.b_isinstance (pe_bltn (by rfl) g.b_tuple boot_tuple rfl) (w_v 0)))) (s_one (s_ret (w_v 0))) (s_nil)) (s_seq (s_set nd (by rfl) (by first | exact Or.inl rfl | exact Or.inr rfl) (c_lst (a0))) (s_seq (s_for PassesOwn.never rfl (ci_of (w_ix hu (w_v 0) (c_int))) (g_nm nd (by rfl) (by first | exact Or.inl rfl | exact Or.inr rfl)) (s_one (s_if (wt_tru (c_call g.f__law_is_rest hr hG (by rfl) (a1 (w_v 3) (a0)))) (s_one (s_drop (c_extend (w_v 2) (w_ty call_list_of on_list boot_list g.b_list (a1 (w_ix hu (w_v 1) (c_sl (w_v 3) (co_some (c_int)) (co_none))) (a0)))))) (s_one (s_drop (c_append (w_v 2) (c_call g.f__law_filled hr hG (by rfl) (a1 (w_v 3) (a1 (w_v 1) (a0)))))))))) (s_seq (s_set nd (by rfl) (by first | exact Or.inl rfl | exact Or.inr rfl) (c_if (wt_cmp hu (w_ix hu (w_v 0) (c_int)) (c_lst (a1 (c_str) (a1 (c_str) (a0))))) (w_ix hu (w_v 1) (w_ix hu (w_v 0) (c_int))) (w_ix hu (w_v 0) (c_int)))) (s_one (s_ret (c_tup (a1 (w_v 4) (a1 (w_ty call_tuple_of on_tuple boot_tuple g.b_tuple (a1 (w_v 2) (a0))) (a0))))))))))
theorem k__law_kept {F : Fns} {n : Nat} (g : G P w K mg base F n) (f : Addr) (cdv : Value) (A : Around) (outer : List PySem.Env) (s : Shared) (H : Hp) (E : XK) (hr : Room n (A.deeper (envOfC "_law_kept" (defScope S__law_kept) s.heap.objs.size f cdv))) (hG : A.guards = some []) :
    PSs (cxOf CX0 P w K mg base N__law_kept "_law_kept" (defScope S__law_kept) f cdv A outer s H E).nox (defBody S__law_kept) (rdS K (fun _ => 0) F W0 P__law_kept) :=
  have nd := sc__law_kept.nd
  have hu := hu65 hr
  s_seq (s_if (wt_cmp hu (w_v 1) (w_v 0)) (s_one (s_ret (c_if (wt_cmp hu (w_ix hu (w_v 0) (w_v 1)) (w_v 2)) (w_v 0) (c_non)))) (s_nil)) (s_seq (s_set nd (by rfl) (by first | exact Or.inl rfl | exact Or.inr rfl) (w_ty call_dictD on_dict boot_dict g.b_dict (a1 (w_v 0) (a0)))) (s_seq (s_asg (w_v 2) (g_sb (lt1 hu) (w_v 3) (w_v 1))) (s_one (s_ret (w_v 3)))))
theorem k__law_matched {F : Fns} {n : Nat} (g : G P w K mg base F n) (f : Addr) (cdv : Value) (A : Around) (outer : List PySem.Env) (s : Shared) (H : Hp) (E : XK) (hr : Room n (A.deeper (envOfC "_law_matched" (defScope S__law_matched) s.heap.objs.size f cdv))) (hG : A.guards = some []) :
    PSs (cxOf CX0 P w K mg base N__law_matched "_law_matched" (defScope S__law_matched) f cdv A outer s H E).nox (defBody S__law_matched) (rdS K (fun _ => 0) F W0 P__law_matched) :=
  have nd := sc__law_matched.nd
  have hu := hu65 hr
  s_seq (s_if (wt_tru (w_isi .str g.b_isinstance (pe_bltn (by rfl) g.b_str boot_str rfl) (w_v 0))) (s_one (s_ret (c_call g.f__law_kept hr hG (by rfl) (a1 (w_v 2) (a1 (w_v 0) (a1 (w_v 1) (a0))))))) (s_nil)) (s_seq (s_if (ct_not (wt_tru (w_isi .tuple g.b_isinstance (pe_bltn (by rfl) g.b_tuple boot_tuple rfl) (w_v 0)))) (s_one (s_ret (c_if (wt_cmp hu (w_v 0) (w_v 1)) (w_v 2) (c_non)))) (s_nil)) (s_seq (s_if (ct_not (wt_tru (w_isi .tuple g.b_isinstance (pe_bltn (by rfl) g.b_tuple boot_tuple rfl) (w_v 1)))) (s_one (s_ret (c_non))) (s_nil)) (s_seq (s_if (wt_cmp hu (w_ix hu (w_v 0) (c_int)) (c_lst (a1 (c_str) (a1 (c_str) (a0))))) (s_one (s_set nd (by rfl) (by first | exact Or.inl rfl | exact Or.inr rfl) (c_call g.f__law_kept hr hG (by rfl) (a1 (w_v 2) (a1 (w_ix hu (w_v 0) (c_int)) (a1 (w_ix hu (w_v 1) (c_int)) (a0))))))) (s_one (s_if (wt_cmp hu (w_ix hu (w_v 0) (c_int)) (w_ix hu (w_v 1) (c_int))) (s_one (s_ret (c_non))) (s_nil)))) (s_one (s_ret (c_if (wt_cmp hu (w_v 2) (c_non)) (c_non) (c_call g.f__law_args_matched hr hG (by rfl) (a1 (w_ix hu (w_v 0) (c_int)) (a1 (w_ix hu (w_v 1) (c_int)) (a1 (w_v 2) (a0)))))))))))
theorem k__law_args_matched {F : Fns} {n : Nat} (g : G P w K mg base F n) (f : Addr) (cdv : Value) (A : Around) (outer : List PySem.Env) (s : Shared) (H : Hp) (E : XK) (hr : Room n (A.deeper (envOfC "_law_args_matched" (defScope S__law_args_matched) s.heap.objs.size f cdv))) (hG : A.guards = some []) :
    PSs (cxOf CX0 P w K mg base N__law_args_matched "_law_args_matched" (defScope S__law_args_matched) f cdv A outer s H E).nox (defBody S__law_args_matched) (rdS K (fun _ => 0) F W0 P__law_args_matched) :=
  have nd := sc__law_args_matched.nd
  have hu := hu65 hr
  s_seq (s_set nd (by rfl) (by first | exact Or.inl rfl | exact Or.inr rfl) (c_if ((cw_and (wt_cmp hu (w_v 0) (c_tup (a0))) (cw_and1 (wt_tru (c_call g.f__law_is_rest hr hG (by rfl) (a1 (w_ix hu (w_v 0) (c_neg (c_int))) (a0)))))).pt) (w_ix hu (w_v 0) (c_neg (c_int))) (c_non))) (s_seq (s_set nd (by rfl) (by first | exact Or.inl rfl | exact Or.inr rfl) (c_if (wt_cmp hu (w_v 3) (c_non)) (w_fn or_len on_len boot_len g.b_len (a1 (w_v 0) (a0))) (w_bin (w_fn or_len on_len boot_len g.b_len (a1 (w_v 0) (a0))) (c_int)))) (s_seq (s_if ((cw_or (wt_cmp hu (w_fn or_len on_len boot_len g.b_len (a1 (w_v 1) (a0))) (w_v 4)) (cw_or1 ((cw_and (wt_cmp hu (w_v 3) (c_non)) (cw_and1 (wt_cmp hu (w_fn or_len on_len boot_len g.b_len (a1 (w_v 1) (a0))) (w_v 4)))).pt))).pt) (s_one (s_ret (c_non))) (s_nil)) (s_seq (s_for PassesOwn.never rfl (wi_zip g.b_zip (a1 (c_sl (w_v 0) (co_none) (co_some (w_v 4))) (a1 (c_sl (w_v 1) (co_none) (co_some (w_v 4))) (a0)))) (g_tp rfl (gs_cons (g_nm nd (by rfl) (by first | exact Or.inl rfl | exact Or.inr rfl)) (gs_cons (g_nm nd (by rfl) (by first | exact Or.inl rfl | exact Or.inr rfl)) (gs_nil)))) (s_seq (s_if (wt_tru (c_call g.f__law_is_rest hr hG (by rfl) (a1 (w_v 6) (a0)))) (s_one (s_ret (c_non))) (s_nil)) (s_seq (s_set nd (by rfl) (by first | exact Or.inl rfl | exact Or.inr rfl) (c_call g.f__law_matched hr hG (by rfl) (a1 (w_v 5) (a1 (w_v 6) (a1 (w_v 2) (a0)))))) (s_one (s_if (wt_cmp hu (w_v 2) (c_non)) (s_one (s_ret (c_non))) (s_nil)))))) (s_one (s_ret (c_if (wt_cmp hu (w_v 3) (c_non)) (w_v 2) (c_call g.f__law_kept hr hG (by rfl) (a1 (w_v 2) (a1 (c_sl (w_v 3) (co_some (c_int)) (co_none)) (a1 (c_sl (w_v 1) (co_some (w_v 4)) (co_none)) (a0)))))))))))
theorem k__law_spoiled {F : Fns} {n : Nat} (g : G P w K mg base F n) (f : Addr) (cdv : Value) (A : Around) (outer : List PySem.Env) (s : Shared) (H : Hp) (E : XK) (hr : Room n (A.deeper (envOfC "_law_spoiled" (defScope S__law_spoiled) s.heap.objs.size f cdv))) (hG : A.guards = some []) :
    PSs (cxOf CX0 P w K mg base N__law_spoiled "_law_spoiled" (defScope S__law_spoiled) f cdv A outer s H E).nox (defBody S__law_spoiled) (rdS K (fun _ => 0) F W0 P__law_spoiled) :=
  have nd := sc__law_spoiled.nd
  have hu := hu65 hr
  s_seq (s_if ((cw_or (ct_not (wt_tru (w_isi .tuple g.b_isinstance (pe_bltn (by rfl) g.b_tuple boot_tuple rfl) (w_v 1)))) (cw_or (wt_cmp hu (w_ix hu (w_v 1) (c_int)) (c_tup (a0))) (cw_or (wt_cmp hu (w_v 2) (c_int)) (cw_or1 (wt_cmp hu (c_call g.f__law_draw hr hG (by rfl) (a1 (w_v 0) (a1 (c_int) (a0)))) (c_int)))))).pt) (s_one (s_ret (c_call g.f__law_pick hr hG (by rfl) (a1 (w_v 0) (a1 (c_lst (a1 (c_int) (a1 (c_str) (a1 (c_tup (a1 (c_str) (a1 (c_tup (a0)) (a0)))) (a1 (c_tup (a1 (c_str) (a1 (c_tup (a1 (w_v 1) (a0))) (a0)))) (a1 (c_tup (a1 (c_str) (a1 (c_tup (a1 (c_str) (a0))) (a0)))) (a0))))))) (a0)))))) (s_nil)) (s_seq (s_set nd (by rfl) (by first | exact Or.inl rfl | exact Or.inr rfl) (c_call g.f__law_draw hr hG (by rfl) (a1 (w_v 0) (a1 (w_fn or_len on_len boot_len g.b_len (a1 (w_ix hu (w_v 1) (c_int)) (a0))) (a0))))) (s_seq (s_par rfl nd (by rfl) (by rfl) (by decide) (by rfl) (by rfl) (c_call g.f__law_draw hr hG (by rfl) (a1 (w_v 0) (a1 (c_int) (a0)))) (w_ty call_list_of on_list boot_list g.b_list (a1 (w_ix hu (w_v 1) (c_int)) (a0))) (by rfl)) (s_seq (s_if (wt_cmp hu (w_v 4) (c_int)) (s_one (s_ret (c_tup (a1 (w_ix hu (w_v 1) (c_int)) (a1 (w_ty call_tuple_of on_tuple boot_tuple g.b_tuple (a1 (w_bin (c_sl (w_v 5) (co_none) (co_some (w_v 3))) (c_sl (w_v 5) (co_some (w_bin (w_v 3) (c_int))) (co_none))) (a0))) (a0)))))) (s_nil)) (s_seq (s_if (wt_cmp hu (w_v 4) (c_int)) (s_one (s_ret (c_tup (a1 (w_ix hu (w_v 1) (c_int)) (a1 (w_ty call_tuple_of on_tuple boot_tuple g.b_tuple (a1 (w_bin (w_bin (c_sl (w_v 5) (co_none) (co_some (w_v 3))) (c_lst (a1 (c_int) (a0)))) (c_sl (w_v 5) (co_some (w_v 3)) (co_none))) (a0))) (a0)))))) (s_nil)) (s_seq (s_if ((cw_or (wt_cmp hu (w_v 4) (c_int)) (cw_or1 (wt_tru (c_call g.f__law_is_rest hr hG (by rfl) (a1 (w_ix hu (w_v 5) (w_v 3)) (a0)))))).pt) (s_one (s_ret (c_tup (a1 (c_call g.f__law_pick hr hG (by rfl) (a1 (w_v 0) (a1 (c_lst (a1 (c_str) (a1 (c_str) (a1 (c_str) (a0))))) (a0)))) (a1 (w_ix hu (w_v 1) (c_int)) (a0)))))) (s_nil)) (s_seq (s_asg (c_call g.f__law_spoiled hr hG (by rfl) (a1 (w_v 0) (a1 (w_ix hu (w_v 5) (w_v 3)) (a1 (w_bin (w_v 2) (c_int)) (a0))))) (g_sb (lt1 hu) (w_v 5) (w_v 3))) (s_one (s_ret (c_tup (a1 (w_ix hu (w_v 1) (c_int)) (a1 (w_ty call_tuple_of on_tuple boot_tuple g.b_tuple (a1 (w_v 5) (a0))) (a0))))))))))))
theorem k__law_one_right {F : Fns} {n : Nat} (g : G P w K mg base F n) (f : Addr) (cdv : Value) (A : Around) (outer : List PySem.Env) (s : Shared) (H : Hp) (E : XK) (hr : Room n (A.deeper (envOfC "_law_one_right" (defScope S__law_one_right) s.heap.objs.size f cdv))) (hG : A.guards = some []) :
    PSs (cxOf CX0 P w K mg base N__law_one_right "_law_one_right" (defScope S__law_one_right) f cdv A outer s H E).nox (defBody S__law_one_right) (rdS K (fun _ => 0) F W0 P__law_one_right) :=
  have nd := sc__law_one_right.nd
  have hu := hu65 hr
  s_seq (s_par rfl nd (by rfl) (by rfl) (by decide) (by rfl) (by rfl) (c_call g.f__law_matched hr hG (by rfl) (a1 (w_v 0) (a1 (w_v 1) (a1 (c_dict0) (a0))))) (c_call g.f_matched hr hG (by rfl) (a1 (w_v 0) (a1 (w_v 1) (a0)))) (by rfl)) (s_seq (s_if ((cw_or (wt_cmp hu (w_v 3) (w_v 2)) (cw_or1 (wt_cmp hu (w_cmp hu (w_v 2) (c_non)) (w_cmp hu (w_v 3) (c_non))))).pt) (s_one (s_ret (c_bl))) (s_nil)) (s_seq (s_if (wt_cmp hu (w_fn (call_reprD hG (hu152 hr)) on_repr boot_repr g.b_repr (a1 (c_call g.f_is_below hr hG (by rfl) (a1 (w_v 1) (a1 (w_v 0) (a0)))) (a0))) (w_fn (call_reprD hG (hu152 hr)) on_repr boot_repr g.b_repr (a1 (w_cmp hu (w_v 2) (c_non)) (a0)))) (s_one (s_ret (c_bl))) (s_nil)) (s_seq (s_if (wt_cmp hu (w_v 2) (c_non)) (s_one (s_ret (c_bl))) (s_nil)) (s_seq (s_asg (c_int) (g_sb (lt1 hu) (w_v 3) (c_str))) (s_one (s_ret (c_and (w_cmp hu (c_callKz g.f_matched 2 [1, 0] hr hG (by rfl) (fun _ _ F => Fun.kbinds (ps := ["pattern", "term"]) (ks := ["term", "pattern"]) F 0 2 [1, 0] rfl fun _ _ _ _ _ _ us ws h1 h2 => match us, ws, h1, h2 with | [], [b0, b1], _, _ => rfl) (ck_cons (w_v 1) (ck_cons (w_v 0) (ck_nil)))) (w_v 2)) (c_and1 (w_cmp hu (c_call g.f_filled hr hG (by rfl) (a1 (w_v 0) (a1 (w_v 2) (a0)))) (w_v 1))))))))))
theorem k_law {F : Fns} {n : Nat} (g : G P w K mg base F n) (f : Addr) (cdv : Value) (A : Around) (outer : List PySem.Env) (s : Shared) (H : Hp) (E : XK) (hr : Room n (A.deeper (envOfC "law" (defScope S_law) s.heap.objs.size f cdv))) (hG : A.guards = some []) :
    PSs (cxOf CX0 P w K mg base N_law "law" (defScope S_law) f cdv A outer s H E).nox (defBody S_law) (rdS K (fun _ => 0) F W0 P_law) :=
  have nd := sc_law.nd
  have hu := hu65 hr
  s_seq (s_set nd (by rfl) (by first | exact Or.inl rfl | exact Or.inr rfl) (c_call g.f__law_pot hr hG (by rfl) (a1 (w_v 0) (a1 (c_int) (a0))))) (s_seq (s_set nd (by rfl) (by first | exact Or.inl rfl | exact Or.inr rfl) (c_if (wt_cmp hu (c_call g.f__law_draw hr hG (by rfl) (a1 (w_v 1) (a1 (c_int) (a0)))) (c_int)) (c_call g.f__law_great hr hG (by rfl) (a1 (w_v 1) (a0))) (c_call g.f__law_term hr hG (by rfl) (a1 (w_v 1) (a1 (c_int) (a0)))))) (s_seq (s_set nd (by rfl) (by first | exact Or.inl rfl | exact Or.inr rfl) (c_call g.f__law_filling hr hG (by rfl) (a1 (w_v 1) (a1 (w_v 2) (a0))))) (s_seq (s_set nd (by rfl) (by first | exact Or.inl rfl | exact Or.inr rfl) (c_call g.f__law_filled hr hG (by rfl) (a1 (w_v 2) (a1 (w_v 3) (a0))))) (s_seq (s_if (wt_cmp hu (c_call g.f__law_nodes hr hG (by rfl) (a1 (w_v 4) (a0))) (c_int)) (s_seq (s_set nd (by rfl) (by first | exact Or.inl rfl | exact Or.inr rfl) (c_call g.f__law_term hr hG (by rfl) (a1 (w_v 1) (a1 (c_int) (a0))))) (s_seq (s_set nd (by rfl) (by first | exact Or.inl rfl | exact Or.inr rfl) (c_call g.f__law_filling hr hG (by rfl) (a1 (w_v 1) (a1 (w_v 2) (a0))))) (s_one (s_set nd (by rfl) (by first | exact Or.inl rfl | exact Or.inr rfl) (c_call g.f__law_filled hr hG (by rfl) (a1 (w_v 2) (a1 (w_v 3) (a0)))))))) (s_nil)) (s_seq (s_if ((cw_or (wt_cmp hu (c_call g.f_matched hr hG (by rfl) (a1 (w_v 2) (a1 (w_v 4) (a0)))) (w_v 3)) (cw_or1 (wt_cmp hu (c_callKz g.f_is_below 2 [1, 0] hr hG (by rfl) (fun _ _ F => Fun.kbinds (ps := ["term", "other"]) (ks := ["other", "term"]) F 0 2 [1, 0] rfl fun _ _ _ _ _ _ us ws h1 h2 => match us, ws, h1, h2 with | [], [b0, b1], _, _ => rfl) (ck_cons (w_v 2) (ck_cons (w_v 4) (ck_nil)))) (c_bl)))).pt) (s_one (s_ret (c_bl))) (s_nil)) (s_seq (s_for PassesOwn.never rfl (ci_of (c_lst (a1 (w_v 4) (a1 (c_call g.f__law_spoiled hr hG (by rfl) (a1 (w_v 1) (a1 (w_v 4) (a1 (c_int) (a0))))) (a1 (c_call g.f__law_term hr hG (by rfl) (a1 (w_v 1) (a1 (c_int) (a0)))) (a1 (w_v 2) (a0))))))) (g_nm nd (by rfl) (by first | exact Or.inl rfl | exact Or.inr rfl)) (s_one (s_if ((cw_or (ct_not (wt_tru (c_call g.f__law_one_right hr hG (by rfl) (a1 (w_v 2) (a1 (w_v 5) (a0)))))) (cw_or1 (ct_not (wt_tru (c_call g.f__law_one_right hr hG (by rfl) (a1 (w_v 5) (a1 (w_v 2) (a0)))))))).pt) (s_one (s_ret (c_bl))) (s_nil)))) (s_one (s_ret (c_call g.f__law_one_right hr hG (by rfl) (a1 (c_call g.f__law_spoiled hr hG (by rfl) (a1 (w_v 1) (a1 (w_v 2) (a1 (c_int) (a0))))) (a1 (w_v 4) (a0))))))))))))
theorem g_all (gc : GC mg)
    (h_is_integer : ∃ (f : Addr) (fd : FuncData), Fun K "is_integer" "is_integer" S_is_integer f fd ∧ mg "is_integer" = some (.ref f) ∧ Binds K fd ["value"] [])
    (h_want_at_most : ∃ (f : Addr) (fd : FuncData), Fun K "want_at_most" "want_at_most" S_want_at_most f fd ∧ mg "want_at_most" = some (.ref f) ∧ Binds K fd ["what", "limit", "number"] [])
    (h_is_name : ∃ (f : Addr) (fd : FuncData), Fun K "is_name" "is_name" S_is_name f fd ∧ mg "is_name" = some (.ref f) ∧ Binds K fd ["value"] [])
    (h_is_variable : ∃ (f : Addr) (fd : FuncData), Fun K "is_variable" "is_variable" S_is_variable f fd ∧ mg "is_variable" = some (.ref f) ∧ Binds K fd ["value"] [])
    (h_is_head : ∃ (f : Addr) (fd : FuncData), Fun K "is_head" "is_head" S_is_head f fd ∧ mg "is_head" = some (.ref f) ∧ Binds K fd ["value"] [])
    (h_is_rest : ∃ (f : Addr) (fd : FuncData), Fun K "is_rest" "is_rest" S_is_rest f fd ∧ mg "is_rest" = some (.ref f) ∧ Binds K fd ["value"] [])
    (h_is_applied : ∃ (f : Addr) (fd : FuncData), Fun K "is_applied" "is_applied" S_is_applied f fd ∧ mg "is_applied" = some (.ref f) ∧ Binds K fd ["value"] [])
    (h_standings : ∃ (f : Addr) (fd : FuncData), Fun K "standings" "standings" S_standings f fd ∧ mg "standings" = some (.ref f) ∧ Binds K fd ["value"] [])
    (h_have_one_sort : ∃ (f : Addr) (fd : FuncData), Fun K "have_one_sort" "have_one_sort" S_have_one_sort f fd ∧ mg "have_one_sort" = some (.ref f) ∧ Binds K fd ["found"] [])
    (h_pieces : ∃ (f : Addr) (fd : FuncData), Fun K "pieces" "pieces" S_pieces f fd ∧ mg "pieces" = some (.ref f) ∧ Binds K fd ["term"] [])
    (h_variables_of : ∃ (f : Addr) (fd : FuncData), Fun K "variables_of" "variables_of" S_variables_of f fd ∧ mg "variables_of" = some (.ref f) ∧ Binds K fd ["term"] [])
    (h_nodes_of : ∃ (f : Addr) (fd : FuncData), Fun K "nodes_of" "nodes_of" S_nodes_of f fd ∧ mg "nodes_of" = some (.ref f) ∧ Binds K fd ["term"] [])
    (h_is_term : ∃ (f : Addr) (fd : FuncData), Fun K "is_term" "is_term" S_is_term f fd ∧ mg "is_term" = some (.ref f) ∧ Binds K fd ["value"] [])
    (h_want_term : ∃ (f : Addr) (fd : FuncData), Fun K "want_term" "want_term" S_want_term f fd ∧ mg "want_term" = some (.ref f) ∧ Binds K fd ["value"] [])
    (h_filled_args : ∃ (f : Addr) (fd : FuncData), Fun K "filled_args" "filled_args" S_filled_args f fd ∧ mg "filled_args" = some (.ref f) ∧ Binds K fd ["args", "filling"] [])
    (h_fill : ∃ (f : Addr) (fd : FuncData), Fun K "fill" "fill" S_fill f fd ∧ mg "fill" = some (.ref f) ∧ Binds K fd ["term", "filling"] [])
    (h_are_args : ∃ (f : Addr) (fd : FuncData), Fun K "are_args" "are_args" S_are_args f fd ∧ mg "are_args" = some (.ref f) ∧ Binds K fd ["value"] [])
    (h_fits_sort : ∃ (f : Addr) (fd : FuncData), Fun K "fits_sort" "fits_sort" S_fits_sort f fd ∧ mg "fits_sort" = some (.ref f) ∧ Binds K fd ["sort", "value"] [])
    (h_is_filling_of : ∃ (f : Addr) (fd : FuncData), Fun K "is_filling_of" "is_filling_of" S_is_filling_of f fd ∧ mg "is_filling_of" = some (.ref f) ∧ Binds K fd ["term", "value"] [])
    (h_filled : ∃ (f : Addr) (fd : FuncData), Fun K "filled" "filled" S_filled f fd ∧ mg "filled" = some (.ref f) ∧ Binds K fd ["term", "filling"] [])
    (h_is_held : ∃ (f : Addr) (fd : FuncData), Fun K "is_held" "is_held" S_is_held f fd ∧ mg "is_held" = some (.ref f) ∧ Binds K fd ["found", "variable", "thing"] [])
    (h_matched_args : ∃ (f : Addr) (fd : FuncData), Fun K "matched_args" "matched_args" S_matched_args f fd ∧ mg "matched_args" = some (.ref f) ∧ Binds K fd ["found", "near", "far"] [])
    (h_matching : ∃ (f : Addr) (fd : FuncData), Fun K "matching" "matching" S_matching f fd ∧ mg "matching" = some (.ref f) ∧ Binds K fd ["pattern", "term"] [])
    (h_is_instance : ∃ (f : Addr) (fd : FuncData), Fun K "is_instance" "is_instance" S_is_instance f fd ∧ mg "is_instance" = some (.ref f) ∧ Binds K fd ["term", "other"] [])
    (h_matched : ∃ (f : Addr) (fd : FuncData), Fun K "matched" "matched" S_matched f fd ∧ mg "matched" = some (.ref f) ∧ Binds K fd ["pattern", "term"] [])
    (h_is_below : ∃ (f : Addr) (fd : FuncData), Fun K "is_below" "is_below" S_is_below f fd ∧ mg "is_below" = some (.ref f) ∧ Binds K fd ["term", "other"] [])
    (h__law_pot : ∃ (f : Addr) (fd : FuncData), Fun K "_law_pot" "_law_pot" S__law_pot f fd ∧ mg "_law_pot" = some (.ref f) ∧ Binds K fd ["script", "k"] [])
    (h__law_draw : ∃ (f : Addr) (fd : FuncData), Fun K "_law_draw" "_law_draw" S__law_draw f fd ∧ mg "_law_draw" = some (.ref f) ∧ Binds K fd ["pot", "many"] [])
    (h__law_pick : ∃ (f : Addr) (fd : FuncData), Fun K "_law_pick" "_law_pick" S__law_pick f fd ∧ mg "_law_pick" = some (.ref f) ∧ Binds K fd ["pot", "some"] [])
    (h__law_term : ∃ (f : Addr) (fd : FuncData), Fun K "_law_term" "_law_term" S__law_term f fd ∧ mg "_law_term" = some (.ref f) ∧ Binds K fd ["pot", "deep"] [])
    (h__law_great : ∃ (f : Addr) (fd : FuncData), Fun K "_law_great" "_law_great" S__law_great f fd ∧ mg "_law_great" = some (.ref f) ∧ Binds K fd ["pot"] [])
    (h__law_nodes : ∃ (f : Addr) (fd : FuncData), Fun K "_law_nodes" "_law_nodes" S__law_nodes f fd ∧ mg "_law_nodes" = some (.ref f) ∧ Binds K fd ["term"] [])
    (h__law_is_rest : ∃ (f : Addr) (fd : FuncData), Fun K "_law_is_rest" "_law_is_rest" S__law_is_rest f fd ∧ mg "_law_is_rest" = some (.ref f) ∧ Binds K fd ["arg"] [])
    (h__law_variables : ∃ (f : Addr) (fd : FuncData), Fun K "_law_variables" "_law_variables" S__law_variables f fd ∧ mg "_law_variables" = some (.ref f) ∧ Binds K fd ["term", "found"] [])
    (h__law_filling : ∃ (f : Addr) (fd : FuncData), Fun K "_law_filling" "_law_filling" S__law_filling f fd ∧ mg "_law_filling" = some (.ref f) ∧ Binds K fd ["pot", "term"] [])
    (h__law_filled : ∃ (f : Addr) (fd : FuncData), Fun K "_law_filled" "_law_filled" S__law_filled f fd ∧ mg "_law_filled" = some (.ref f) ∧ Binds K fd ["term", "filling"] [])
    (h__law_kept : ∃ (f : Addr) (fd : FuncData), Fun K "_law_kept" "_law_kept" S__law_kept f fd ∧ mg "_law_kept" = some (.ref f) ∧ Binds K fd ["found", "variable", "value"] [])
    (h__law_matched : ∃ (f : Addr) (fd : FuncData), Fun K "_law_matched" "_law_matched" S__law_matched f fd ∧ mg "_law_matched" = some (.ref f) ∧ Binds K fd ["pattern", "term", "found"] [])
    (h__law_args_matched : ∃ (f : Addr) (fd : FuncData), Fun K "_law_args_matched" "_law_args_matched" S__law_args_matched f fd ∧ mg "_law_args_matched" = some (.ref f) ∧ Binds K fd ["args", "others", "found"] [])
    (h__law_spoiled : ∃ (f : Addr) (fd : FuncData), Fun K "_law_spoiled" "_law_spoiled" S__law_spoiled f fd ∧ mg "_law_spoiled" = some (.ref f) ∧ Binds K fd ["pot", "term", "deep"] [])
    (h__law_one_right : ∃ (f : Addr) (fd : FuncData), Fun K "_law_one_right" "_law_one_right" S__law_one_right f fd ∧ mg "_law_one_right" = some (.ref f) ∧ Binds K fd ["pattern", "term"] [])
    (h_law : ∃ (f : Addr) (fd : FuncData), Fun K "law" "law" S_law f fd ∧ mg "law" = some (.ref f) ∧ Binds K fd ["script"] [])
    : ∀ n : Nat, G P w K mg base (run T n) n
  | 0 => { toGC := gc
           f_is_integer := let ⟨f, fd, F, m, b⟩ := h_is_integer; ⟨f, fd, F, m, b, fn_zero⟩
           f_want_at_most := let ⟨f, fd, F, m, b⟩ := h_want_at_most; ⟨f, fd, F, m, b, fn_zero⟩
           f_is_name := let ⟨f, fd, F, m, b⟩ := h_is_name; ⟨f, fd, F, m, b, fn_zero⟩
           f_is_variable := let ⟨f, fd, F, m, b⟩ := h_is_variable; ⟨f, fd, F, m, b, fn_zero⟩
           f_is_head := let ⟨f, fd, F, m, b⟩ := h_is_head; ⟨f, fd, F, m, b, fn_zero⟩
           f_is_rest := let ⟨f, fd, F, m, b⟩ := h_is_rest; ⟨f, fd, F, m, b, fn_zero⟩
           f_is_applied := let ⟨f, fd, F, m, b⟩ := h_is_applied; ⟨f, fd, F, m, b, fn_zero⟩
           f_standings := let ⟨f, fd, F, m, b⟩ := h_standings; ⟨f, fd, F, m, b, fn_zero⟩
           f_have_one_sort := let ⟨f, fd, F, m, b⟩ := h_have_one_sort; ⟨f, fd, F, m, b, fn_zero⟩
           f_pieces := let ⟨f, fd, F, m, b⟩ := h_pieces; ⟨f, fd, F, m, b, fn_zero⟩
           f_variables_of := let ⟨f, fd, F, m, b⟩ := h_variables_of; ⟨f, fd, F, m, b, fn_zero⟩
           f_nodes_of := let ⟨f, fd, F, m, b⟩ := h_nodes_of; ⟨f, fd, F, m, b, fn_zero⟩
           f_is_term := let ⟨f, fd, F, m, b⟩ := h_is_term; ⟨f, fd, F, m, b, fn_zero⟩
           f_want_term := let ⟨f, fd, F, m, b⟩ := h_want_term; ⟨f, fd, F, m, b, fn_zero⟩
           f_filled_args := let ⟨f, fd, F, m, b⟩ := h_filled_args; ⟨f, fd, F, m, b, fn_zero⟩
           f_fill := let ⟨f, fd, F, m, b⟩ := h_fill; ⟨f, fd, F, m, b, fn_zero⟩
           f_are_args := let ⟨f, fd, F, m, b⟩ := h_are_args; ⟨f, fd, F, m, b, fn_zero⟩
           f_fits_sort := let ⟨f, fd, F, m, b⟩ := h_fits_sort; ⟨f, fd, F, m, b, fn_zero⟩
           f_is_filling_of := let ⟨f, fd, F, m, b⟩ := h_is_filling_of; ⟨f, fd, F, m, b, fn_zero⟩
           f_filled := let ⟨f, fd, F, m, b⟩ := h_filled; ⟨f, fd, F, m, b, fn_zero⟩
           f_is_held := let ⟨f, fd, F, m, b⟩ := h_is_held; ⟨f, fd, F, m, b, fn_zero⟩
           f_matched_args := let ⟨f, fd, F, m, b⟩ := h_matched_args; ⟨f, fd, F, m, b, fn_zero⟩
           f_matching := let ⟨f, fd, F, m, b⟩ := h_matching; ⟨f, fd, F, m, b, fn_zero⟩
           f_is_instance := let ⟨f, fd, F, m, b⟩ := h_is_instance; ⟨f, fd, F, m, b, fn_zero⟩
           f_matched := let ⟨f, fd, F, m, b⟩ := h_matched; ⟨f, fd, F, m, b, fn_zero⟩
           f_is_below := let ⟨f, fd, F, m, b⟩ := h_is_below; ⟨f, fd, F, m, b, fn_zero⟩
           f__law_pot := let ⟨f, fd, F, m, b⟩ := h__law_pot; ⟨f, fd, F, m, b, fn_zero⟩
           f__law_draw := let ⟨f, fd, F, m, b⟩ := h__law_draw; ⟨f, fd, F, m, b, fn_zero⟩
           f__law_pick := let ⟨f, fd, F, m, b⟩ := h__law_pick; ⟨f, fd, F, m, b, fn_zero⟩
           f__law_term := let ⟨f, fd, F, m, b⟩ := h__law_term; ⟨f, fd, F, m, b, fn_zero⟩
           f__law_great := let ⟨f, fd, F, m, b⟩ := h__law_great; ⟨f, fd, F, m, b, fn_zero⟩
           f__law_nodes := let ⟨f, fd, F, m, b⟩ := h__law_nodes; ⟨f, fd, F, m, b, fn_zero⟩
           f__law_is_rest := let ⟨f, fd, F, m, b⟩ := h__law_is_rest; ⟨f, fd, F, m, b, fn_zero⟩
           f__law_variables := let ⟨f, fd, F, m, b⟩ := h__law_variables; ⟨f, fd, F, m, b, fn_zero⟩
           f__law_filling := let ⟨f, fd, F, m, b⟩ := h__law_filling; ⟨f, fd, F, m, b, fn_zero⟩
           f__law_filled := let ⟨f, fd, F, m, b⟩ := h__law_filled; ⟨f, fd, F, m, b, fn_zero⟩
           f__law_kept := let ⟨f, fd, F, m, b⟩ := h__law_kept; ⟨f, fd, F, m, b, fn_zero⟩
           f__law_matched := let ⟨f, fd, F, m, b⟩ := h__law_matched; ⟨f, fd, F, m, b, fn_zero⟩
           f__law_args_matched := let ⟨f, fd, F, m, b⟩ := h__law_args_matched; ⟨f, fd, F, m, b, fn_zero⟩
           f__law_spoiled := let ⟨f, fd, F, m, b⟩ := h__law_spoiled; ⟨f, fd, F, m, b, fn_zero⟩
           f__law_one_right := let ⟨f, fd, F, m, b⟩ := h__law_one_right; ⟨f, fd, F, m, b, fn_zero⟩
           f_law := let ⟨f, fd, F, m, b⟩ := h_law; ⟨f, fd, F, m, b, fn_zero⟩
         }
  | n + 1 =>
    have ih := g_all gc h_is_integer h_want_at_most h_is_name h_is_variable h_is_head h_is_rest h_is_applied h_standings h_have_one_sort h_pieces h_variables_of h_nodes_of h_is_term h_want_term h_filled_args h_fill h_are_args h_fits_sort h_is_filling_of h_filled h_is_held h_matched_args h_matching h_is_instance h_matched h_is_below h__law_pot h__law_draw h__law_pick h__law_term h__law_great h__law_nodes h__law_is_rest h__law_variables h__law_filling h__law_filled h__law_kept h__law_matched h__law_args_matched h__law_spoiled h__law_one_right h_law n
    { toGC := gc
      f_is_integer := let ⟨f, fd, F, m, b⟩ := h_is_integer; ⟨f, fd, F, m, b, fn_rd F sc_is_integer rfl rfl fun cdv A outer s H E hr hG => k_is_integer ih f cdv A outer s H E hr hG⟩
      f_want_at_most := let ⟨f, fd, F, m, b⟩ := h_want_at_most; ⟨f, fd, F, m, b, fn_rd F sc_want_at_most rfl rfl fun cdv A outer s H E hr hG => k_want_at_most ih f cdv A outer s H E hr hG⟩
      f_is_name := let ⟨f, fd, F, m, b⟩ := h_is_name; ⟨f, fd, F, m, b, fn_rd F sc_is_name rfl rfl fun cdv A outer s H E hr hG => k_is_name ih f cdv A outer s H E hr hG⟩
      f_is_variable := let ⟨f, fd, F, m, b⟩ := h_is_variable; ⟨f, fd, F, m, b, fn_rd F sc_is_variable rfl rfl fun cdv A outer s H E hr hG => k_is_variable ih f cdv A outer s H E hr hG⟩
      f_is_head := let ⟨f, fd, F, m, b⟩ := h_is_head; ⟨f, fd, F, m, b, fn_rd F sc_is_head rfl rfl fun cdv A outer s H E hr hG => k_is_head ih f cdv A outer s H E hr hG⟩
      f_is_rest := let ⟨f, fd, F, m, b⟩ := h_is_rest; ⟨f, fd, F, m, b, fn_rd F sc_is_rest rfl rfl fun cdv A outer s H E hr hG => k_is_rest ih f cdv A outer s H E hr hG⟩
      f_is_applied := let ⟨f, fd, F, m, b⟩ := h_is_applied; ⟨f, fd, F, m, b, fn_rd F sc_is_applied rfl rfl fun cdv A outer s H E hr hG => k_is_applied ih f cdv A outer s H E hr hG⟩
      f_standings := let ⟨f, fd, F, m, b⟩ := h_standings; ⟨f, fd, F, m, b, fn_rd F sc_standings rfl rfl fun cdv A outer s H E hr hG => k_standings ih f cdv A outer s H E hr hG⟩
      f_have_one_sort := let ⟨f, fd, F, m, b⟩ := h_have_one_sort; ⟨f, fd, F, m, b, fn_rd F sc_have_one_sort rfl rfl fun cdv A outer s H E hr hG => k_have_one_sort ih f cdv A outer s H E hr hG⟩
      f_pieces := let ⟨f, fd, F, m, b⟩ := h_pieces; ⟨f, fd, F, m, b, fn_rd F sc_pieces rfl rfl fun cdv A outer s H E hr hG => k_pieces ih f cdv A outer s H E hr hG⟩
      f_variables_of := let ⟨f, fd, F, m, b⟩ := h_variables_of; ⟨f, fd, F, m, b, fn_rd F sc_variables_of rfl rfl fun cdv A outer s H E hr hG => k_variables_of ih f cdv A outer s H E hr hG⟩
      f_nodes_of := let ⟨f, fd, F, m, b⟩ := h_nodes_of; ⟨f, fd, F, m, b, fn_rd F sc_nodes_of rfl rfl fun cdv A outer s H E hr hG => k_nodes_of ih f cdv A outer s H E hr hG⟩
      f_is_term := let ⟨f, fd, F, m, b⟩ := h_is_term; ⟨f, fd, F, m, b, fn_rd F sc_is_term rfl rfl fun cdv A outer s H E hr hG => k_is_term ih f cdv A outer s H E hr hG⟩
      f_want_term := let ⟨f, fd, F, m, b⟩ := h_want_term; ⟨f, fd, F, m, b, fn_rd F sc_want_term rfl rfl fun cdv A outer s H E hr hG => k_want_term ih f cdv A outer s H E hr hG⟩
      f_filled_args := let ⟨f, fd, F, m, b⟩ := h_filled_args; ⟨f, fd, F, m, b, fn_rd F sc_filled_args rfl rfl fun cdv A outer s H E hr hG => k_filled_args ih f cdv A outer s H E hr hG⟩
      f_fill := let ⟨f, fd, F, m, b⟩ := h_fill; ⟨f, fd, F, m, b, fn_rd F sc_fill rfl rfl fun cdv A outer s H E hr hG => k_fill ih f cdv A outer s H E hr hG⟩
      f_are_args := let ⟨f, fd, F, m, b⟩ := h_are_args; ⟨f, fd, F, m, b, fn_rd F sc_are_args rfl rfl fun cdv A outer s H E hr hG => k_are_args ih f cdv A outer s H E hr hG⟩
      f_fits_sort := let ⟨f, fd, F, m, b⟩ := h_fits_sort; ⟨f, fd, F, m, b, fn_rd F sc_fits_sort rfl rfl fun cdv A outer s H E hr hG => k_fits_sort ih f cdv A outer s H E hr hG⟩
      f_is_filling_of := let ⟨f, fd, F, m, b⟩ := h_is_filling_of; ⟨f, fd, F, m, b, fn_rd F sc_is_filling_of rfl rfl fun cdv A outer s H E hr hG => k_is_filling_of ih f cdv A outer s H E hr hG⟩
      f_filled := let ⟨f, fd, F, m, b⟩ := h_filled; ⟨f, fd, F, m, b, fn_rd F sc_filled rfl rfl fun cdv A outer s H E hr hG => k_filled ih f cdv A outer s H E hr hG⟩
      f_is_held := let ⟨f, fd, F, m, b⟩ := h_is_held; ⟨f, fd, F, m, b, fn_rd F sc_is_held rfl rfl fun cdv A outer s H E hr hG => k_is_held ih f cdv A outer s H E hr hG⟩
      f_matched_args := let ⟨f, fd, F, m, b⟩ := h_matched_args; ⟨f, fd, F, m, b, fn_rd F sc_matched_args rfl rfl fun cdv A outer s H E hr hG => k_matched_args ih f cdv A outer s H E hr hG⟩
      f_matching := let ⟨f, fd, F, m, b⟩ := h_matching; ⟨f, fd, F, m, b, fn_rd F sc_matching rfl rfl fun cdv A outer s H E hr hG => k_matching ih f cdv A outer s H E hr hG⟩
      f_is_instance := let ⟨f, fd, F, m, b⟩ := h_is_instance; ⟨f, fd, F, m, b, fn_rd F sc_is_instance rfl rfl fun cdv A outer s H E hr hG => k_is_instance ih f cdv A outer s H E hr hG⟩
      f_matched := let ⟨f, fd, F, m, b⟩ := h_matched; ⟨f, fd, F, m, b, fn_rd F sc_matched rfl rfl fun cdv A outer s H E hr hG => k_matched ih f cdv A outer s H E hr hG⟩
      f_is_below := let ⟨f, fd, F, m, b⟩ := h_is_below; ⟨f, fd, F, m, b, fn_rd F sc_is_below rfl rfl fun cdv A outer s H E hr hG => k_is_below ih f cdv A outer s H E hr hG⟩
      f__law_pot := let ⟨f, fd, F, m, b⟩ := h__law_pot; ⟨f, fd, F, m, b, fn_rd F sc__law_pot rfl rfl fun cdv A outer s H E hr hG => k__law_pot ih f cdv A outer s H E hr hG⟩
      f__law_draw := let ⟨f, fd, F, m, b⟩ := h__law_draw; ⟨f, fd, F, m, b, fn_rd F sc__law_draw rfl rfl fun cdv A outer s H E hr hG => k__law_draw ih f cdv A outer s H E hr hG⟩
      f__law_pick := let ⟨f, fd, F, m, b⟩ := h__law_pick; ⟨f, fd, F, m, b, fn_rd F sc__law_pick rfl rfl fun cdv A outer s H E hr hG => k__law_pick ih f cdv A outer s H E hr hG⟩
      f__law_term := let ⟨f, fd, F, m, b⟩ := h__law_term; ⟨f, fd, F, m, b, fn_rd F sc__law_term rfl rfl fun cdv A outer s H E hr hG => k__law_term ih f cdv A outer s H E hr hG⟩
      f__law_great := let ⟨f, fd, F, m, b⟩ := h__law_great; ⟨f, fd, F, m, b, fn_rd F sc__law_great rfl rfl fun cdv A outer s H E hr hG => k__law_great ih f cdv A outer s H E hr hG⟩
      f__law_nodes := let ⟨f, fd, F, m, b⟩ := h__law_nodes; ⟨f, fd, F, m, b, fn_rd F sc__law_nodes rfl rfl fun cdv A outer s H E hr hG => k__law_nodes ih f cdv A outer s H E hr hG⟩
      f__law_is_rest := let ⟨f, fd, F, m, b⟩ := h__law_is_rest; ⟨f, fd, F, m, b, fn_rd F sc__law_is_rest rfl rfl fun cdv A outer s H E hr hG => k__law_is_rest ih f cdv A outer s H E hr hG⟩
      f__law_variables := let ⟨f, fd, F, m, b⟩ := h__law_variables; ⟨f, fd, F, m, b, fn_rd F sc__law_variables rfl rfl fun cdv A outer s H E hr hG => k__law_variables ih f cdv A outer s H E hr hG⟩
      f__law_filling := let ⟨f, fd, F, m, b⟩ := h__law_filling; ⟨f, fd, F, m, b, fn_rd F sc__law_filling rfl rfl fun cdv A outer s H E hr hG => k__law_filling ih f cdv A outer s H E hr hG⟩
      f__law_filled := let ⟨f, fd, F, m, b⟩ := h__law_filled; ⟨f, fd, F, m, b, fn_rd F sc__law_filled rfl rfl fun cdv A outer s H E hr hG => k__law_filled ih f cdv A outer s H E hr hG⟩
      f__law_kept := let ⟨f, fd, F, m, b⟩ := h__law_kept; ⟨f, fd, F, m, b, fn_rd F sc__law_kept rfl rfl fun cdv A outer s H E hr hG => k__law_kept ih f cdv A outer s H E hr hG⟩
      f__law_matched := let ⟨f, fd, F, m, b⟩ := h__law_matched; ⟨f, fd, F, m, b, fn_rd F sc__law_matched rfl rfl fun cdv A outer s H E hr hG => k__law_matched ih f cdv A outer s H E hr hG⟩
      f__law_args_matched := let ⟨f, fd, F, m, b⟩ := h__law_args_matched; ⟨f, fd, F, m, b, fn_rd F sc__law_args_matched rfl rfl fun cdv A outer s H E hr hG => k__law_args_matched ih f cdv A outer s H E hr hG⟩
      f__law_spoiled := let ⟨f, fd, F, m, b⟩ := h__law_spoiled; ⟨f, fd, F, m, b, fn_rd F sc__law_spoiled rfl rfl fun cdv A outer s H E hr hG => k__law_spoiled ih f cdv A outer s H E hr hG⟩
      f__law_one_right := let ⟨f, fd, F, m, b⟩ := h__law_one_right; ⟨f, fd, F, m, b, fn_rd F sc__law_one_right rfl rfl fun cdv A outer s H E hr hG => k__law_one_right ih f cdv A outer s H E hr hG⟩
      f_law := let ⟨f, fd, F, m, b⟩ := h_law; ⟨f, fd, F, m, b, fn_rd F sc_law rfl rfl fun cdv A outer s H E hr hG => k_law ih f cdv A outer s H E hr hG⟩
    }
def depth : Nat := 100
theorem all_mk {l : PySem.W.OpenLaw} {h : Heap} {fa : Addr} (X : K.In h) (G : h.Ns mainGlobals mg) (hfa : mg "law" = some (.ref fa))
    {f_is_integer : Addr} {od_is_integer an_is_integer : Option Addr} {sl_is_integer : Array (Option Value)} {oc_is_integer kV_is_integer dc_is_integer pm_is_integer cd_is_integer ct_is_integer : Value}
    (a_is_integer : PySem.W.nsIn K mainGlobals "is_integer" = some (some (.ref f_is_integer))) (l_is_integer : K.lookup f_is_integer = some ⟨oc_is_integer, od_is_integer, .func (PySem.W.fnOf "is_integer" "is_integer" (defArgs S_is_integer) (defBody S_is_integer) (defScope S_is_integer) .none kV_is_integer dc_is_integer pm_is_integer an_is_integer cd_is_integer ct_is_integer), sl_is_integer⟩) (e_is_integer : PySem.W.codeIn K cd_is_integer "is_integer" = true) (k_is_integer : PySem.W.keepIn K (.ref f_is_integer) = true)
    {f_want_at_most : Addr} {od_want_at_most an_want_at_most : Option Addr} {sl_want_at_most : Array (Option Value)} {oc_want_at_most kV_want_at_most dc_want_at_most pm_want_at_most cd_want_at_most ct_want_at_most : Value}
    (a_want_at_most : PySem.W.nsIn K mainGlobals "want_at_most" = some (some (.ref f_want_at_most))) (l_want_at_most : K.lookup f_want_at_most = some ⟨oc_want_at_most, od_want_at_most, .func (PySem.W.fnOf "want_at_most" "want_at_most" (defArgs S_want_at_most) (defBody S_want_at_most) (defScope S_want_at_most) .none kV_want_at_most dc_want_at_most pm_want_at_most an_want_at_most cd_want_at_most ct_want_at_most), sl_want_at_most⟩) (e_want_at_most : PySem.W.codeIn K cd_want_at_most "want_at_most" = true) (k_want_at_most : PySem.W.keepIn K (.ref f_want_at_most) = true)
    {f_is_name : Addr} {od_is_name an_is_name : Option Addr} {sl_is_name : Array (Option Value)} {oc_is_name kV_is_name dc_is_name pm_is_name cd_is_name ct_is_name : Value}
    (a_is_name : PySem.W.nsIn K mainGlobals "is_name" = some (some (.ref f_is_name))) (l_is_name : K.lookup f_is_name = some ⟨oc_is_name, od_is_name, .func (PySem.W.fnOf "is_name" "is_name" (defArgs S_is_name) (defBody S_is_name) (defScope S_is_name) .none kV_is_name dc_is_name pm_is_name an_is_name cd_is_name ct_is_name), sl_is_name⟩) (e_is_name : PySem.W.codeIn K cd_is_name "is_name" = true) (k_is_name : PySem.W.keepIn K (.ref f_is_name) = true)
    {f_is_variable : Addr} {od_is_variable an_is_variable : Option Addr} {sl_is_variable : Array (Option Value)} {oc_is_variable kV_is_variable dc_is_variable pm_is_variable cd_is_variable ct_is_variable : Value}
    (a_is_variable : PySem.W.nsIn K mainGlobals "is_variable" = some (some (.ref f_is_variable))) (l_is_variable : K.lookup f_is_variable = some ⟨oc_is_variable, od_is_variable, .func (PySem.W.fnOf "is_variable" "is_variable" (defArgs S_is_variable) (defBody S_is_variable) (defScope S_is_variable) .none kV_is_variable dc_is_variable pm_is_variable an_is_variable cd_is_variable ct_is_variable), sl_is_variable⟩) (e_is_variable : PySem.W.codeIn K cd_is_variable "is_variable" = true) (k_is_variable : PySem.W.keepIn K (.ref f_is_variable) = true)
    {f_is_head : Addr} {od_is_head an_is_head : Option Addr} {sl_is_head : Array (Option Value)} {oc_is_head kV_is_head dc_is_head pm_is_head cd_is_head ct_is_head : Value}
    (a_is_head : PySem.W.nsIn K mainGlobals "is_head" = some (some (.ref f_is_head))) (l_is_head : K.lookup f_is_head = some ⟨oc_is_head, od_is_head, .func (PySem.W.fnOf "is_head" "is_head" (defArgs S_is_head) (defBody S_is_head) (defScope S_is_head) .none kV_is_head dc_is_head pm_is_head an_is_head cd_is_head ct_is_head), sl_is_head⟩) (e_is_head : PySem.W.codeIn K cd_is_head "is_head" = true) (k_is_head : PySem.W.keepIn K (.ref f_is_head) = true)
    {f_is_rest : Addr} {od_is_rest an_is_rest : Option Addr} {sl_is_rest : Array (Option Value)} {oc_is_rest kV_is_rest dc_is_rest pm_is_rest cd_is_rest ct_is_rest : Value}
    (a_is_rest : PySem.W.nsIn K mainGlobals "is_rest" = some (some (.ref f_is_rest))) (l_is_rest : K.lookup f_is_rest = some ⟨oc_is_rest, od_is_rest, .func (PySem.W.fnOf "is_rest" "is_rest" (defArgs S_is_rest) (defBody S_is_rest) (defScope S_is_rest) .none kV_is_rest dc_is_rest pm_is_rest an_is_rest cd_is_rest ct_is_rest), sl_is_rest⟩) (e_is_rest : PySem.W.codeIn K cd_is_rest "is_rest" = true) (k_is_rest : PySem.W.keepIn K (.ref f_is_rest) = true)
    {f_is_applied : Addr} {od_is_applied an_is_applied : Option Addr} {sl_is_applied : Array (Option Value)} {oc_is_applied kV_is_applied dc_is_applied pm_is_applied cd_is_applied ct_is_applied : Value}
    (a_is_applied : PySem.W.nsIn K mainGlobals "is_applied" = some (some (.ref f_is_applied))) (l_is_applied : K.lookup f_is_applied = some ⟨oc_is_applied, od_is_applied, .func (PySem.W.fnOf "is_applied" "is_applied" (defArgs S_is_applied) (defBody S_is_applied) (defScope S_is_applied) .none kV_is_applied dc_is_applied pm_is_applied an_is_applied cd_is_applied ct_is_applied), sl_is_applied⟩) (e_is_applied : PySem.W.codeIn K cd_is_applied "is_applied" = true) (k_is_applied : PySem.W.keepIn K (.ref f_is_applied) = true)
    {f_standings : Addr} {od_standings an_standings : Option Addr} {sl_standings : Array (Option Value)} {oc_standings kV_standings dc_standings pm_standings cd_standings ct_standings : Value}
    (a_standings : PySem.W.nsIn K mainGlobals "standings" = some (some (.ref f_standings))) (l_standings : K.lookup f_standings = some ⟨oc_standings, od_standings, .func (PySem.W.fnOf "standings" "standings" (defArgs S_standings) (defBody S_standings) (defScope S_standings) .none kV_standings dc_standings pm_standings an_standings cd_standings ct_standings), sl_standings⟩) (e_standings : PySem.W.codeIn K cd_standings "standings" = true) (k_standings : PySem.W.keepIn K (.ref f_standings) = true)
    {f_have_one_sort : Addr} {od_have_one_sort an_have_one_sort : Option Addr} {sl_have_one_sort : Array (Option Value)} {oc_have_one_sort kV_have_one_sort dc_have_one_sort pm_have_one_sort cd_have_one_sort ct_have_one_sort : Value}
    (a_have_one_sort : PySem.W.nsIn K mainGlobals "have_one_sort" = some (some (.ref f_have_one_sort))) (l_have_one_sort : K.lookup f_have_one_sort = some ⟨oc_have_one_sort, od_have_one_sort, .func (PySem.W.fnOf "have_one_sort" "have_one_sort" (defArgs S_have_one_sort) (defBody S_have_one_sort) (defScope S_have_one_sort) .none kV_have_one_sort dc_have_one_sort pm_have_one_sort an_have_one_sort cd_have_one_sort ct_have_one_sort), sl_have_one_sort⟩) (e_have_one_sort : PySem.W.codeIn K cd_have_one_sort "have_one_sort" = true) (k_have_one_sort : PySem.W.keepIn K (.ref f_have_one_sort) = true)
    {f_pieces : Addr} {od_pieces an_pieces : Option Addr} {sl_pieces : Array (Option Value)} {oc_pieces kV_pieces dc_pieces pm_pieces cd_pieces ct_pieces : Value}
    (a_pieces : PySem.W.nsIn K mainGlobals "pieces" = some (some (.ref f_pieces))) (l_pieces : K.lookup f_pieces = some ⟨oc_pieces, od_pieces, .func (PySem.W.fnOf "pieces" "pieces" (defArgs S_pieces) (defBody S_pieces) (defScope S_pieces) .none kV_pieces dc_pieces pm_pieces an_pieces cd_pieces ct_pieces), sl_pieces⟩) (e_pieces : PySem.W.codeIn K cd_pieces "pieces" = true) (k_pieces : PySem.W.keepIn K (.ref f_pieces) = true)
    {f_variables_of : Addr} {od_variables_of an_variables_of : Option Addr} {sl_variables_of : Array (Option Value)} {oc_variables_of kV_variables_of dc_variables_of pm_variables_of cd_variables_of ct_variables_of : Value}
    (a_variables_of : PySem.W.nsIn K mainGlobals "variables_of" = some (some (.ref f_variables_of))) (l_variables_of : K.lookup f_variables_of = some ⟨oc_variables_of, od_variables_of, .func (PySem.W.fnOf "variables_of" "variables_of" (defArgs S_variables_of) (defBody S_variables_of) (defScope S_variables_of) .none kV_variables_of dc_variables_of pm_variables_of an_variables_of cd_variables_of ct_variables_of), sl_variables_of⟩) (e_variables_of : PySem.W.codeIn K cd_variables_of "variables_of" = true) (k_variables_of : PySem.W.keepIn K (.ref f_variables_of) = true)
    {f_nodes_of : Addr} {od_nodes_of an_nodes_of : Option Addr} {sl_nodes_of : Array (Option Value)} {oc_nodes_of kV_nodes_of dc_nodes_of pm_nodes_of cd_nodes_of ct_nodes_of : Value}
    (a_nodes_of : PySem.W.nsIn K mainGlobals "nodes_of" = some (some (.ref f_nodes_of))) (l_nodes_of : K.lookup f_nodes_of = some ⟨oc_nodes_of, od_nodes_of, .func (PySem.W.fnOf "nodes_of" "nodes_of" (defArgs S_nodes_of) (defBody S_nodes_of) (defScope S_nodes_of) .none kV_nodes_of dc_nodes_of pm_nodes_of an_nodes_of cd_nodes_of ct_nodes_of), sl_nodes_of⟩) (e_nodes_of : PySem.W.codeIn K cd_nodes_of "nodes_of" = true) (k_nodes_of : PySem.W.keepIn K (.ref f_nodes_of) = true)
    {f_is_term : Addr} {od_is_term an_is_term : Option Addr} {sl_is_term : Array (Option Value)} {oc_is_term kV_is_term dc_is_term pm_is_term cd_is_term ct_is_term : Value}
    (a_is_term : PySem.W.nsIn K mainGlobals "is_term" = some (some (.ref f_is_term))) (l_is_term : K.lookup f_is_term = some ⟨oc_is_term, od_is_term, .func (PySem.W.fnOf "is_term" "is_term" (defArgs S_is_term) (defBody S_is_term) (defScope S_is_term) .none kV_is_term dc_is_term pm_is_term an_is_term cd_is_term ct_is_term), sl_is_term⟩) (e_is_term : PySem.W.codeIn K cd_is_term "is_term" = true) (k_is_term : PySem.W.keepIn K (.ref f_is_term) = true)
    {f_want_term : Addr} {od_want_term an_want_term : Option Addr} {sl_want_term : Array (Option Value)} {oc_want_term kV_want_term dc_want_term pm_want_term cd_want_term ct_want_term : Value}
    (a_want_term : PySem.W.nsIn K mainGlobals "want_term" = some (some (.ref f_want_term))) (l_want_term : K.lookup f_want_term = some ⟨oc_want_term, od_want_term, .func (PySem.W.fnOf "want_term" "want_term" (defArgs S_want_term) (defBody S_want_term) (defScope S_want_term) .none kV_want_term dc_want_term pm_want_term an_want_term cd_want_term ct_want_term), sl_want_term⟩) (e_want_term : PySem.W.codeIn K cd_want_term "want_term" = true) (k_want_term : PySem.W.keepIn K (.ref f_want_term) = true)
    {f_filled_args : Addr} {od_filled_args an_filled_args : Option Addr} {sl_filled_args : Array (Option Value)} {oc_filled_args kV_filled_args dc_filled_args pm_filled_args cd_filled_args ct_filled_args : Value}
    (a_filled_args : PySem.W.nsIn K mainGlobals "filled_args" = some (some (.ref f_filled_args))) (l_filled_args : K.lookup f_filled_args = some ⟨oc_filled_args, od_filled_args, .func (PySem.W.fnOf "filled_args" "filled_args" (defArgs S_filled_args) (defBody S_filled_args) (defScope S_filled_args) .none kV_filled_args dc_filled_args pm_filled_args an_filled_args cd_filled_args ct_filled_args), sl_filled_args⟩) (e_filled_args : PySem.W.codeIn K cd_filled_args "filled_args" = true) (k_filled_args : PySem.W.keepIn K (.ref f_filled_args) = true)
    {f_fill : Addr} {od_fill an_fill : Option Addr} {sl_fill : Array (Option Value)} {oc_fill kV_fill dc_fill pm_fill cd_fill ct_fill : Value}
    (a_fill : PySem.W.nsIn K mainGlobals "fill" = some (some (.ref f_fill))) (l_fill : K.lookup f_fill = some ⟨oc_fill, od_fill, .func (PySem.W.fnOf "fill" "fill" (defArgs S_fill) (defBody S_fill) (defScope S_fill) .none kV_fill dc_fill pm_fill an_fill cd_fill ct_fill), sl_fill⟩) (e_fill : PySem.W.codeIn K cd_fill "fill" = true) (k_fill : PySem.W.keepIn K (.ref f_fill) = true)
    {f_are_args : Addr} {od_are_args an_are_args : Option Addr} {sl_are_args : Array (Option Value)} {oc_are_args kV_are_args dc_are_args pm_are_args cd_are_args ct_are_args : Value}
    (a_are_args : PySem.W.nsIn K mainGlobals "are_args" = some (some (.ref f_are_args))) (l_are_args : K.lookup f_are_args = some ⟨oc_are_args, od_are_args, .func (PySem.W.fnOf "are_args" "are_args" (defArgs S_are_args) (defBody S_are_args) (defScope S_are_args) .none kV_are_args dc_are_args pm_are_args an_are_args cd_are_args ct_are_args), sl_are_args⟩) (e_are_args : PySem.W.codeIn K cd_are_args "are_args" = true) (k_are_args : PySem.W.keepIn K (.ref f_are_args) = true)
    {f_fits_sort : Addr} {od_fits_sort an_fits_sort : Option Addr} {sl_fits_sort : Array (Option Value)} {oc_fits_sort kV_fits_sort dc_fits_sort pm_fits_sort cd_fits_sort ct_fits_sort : Value}
    (a_fits_sort : PySem.W.nsIn K mainGlobals "fits_sort" = some (some (.ref f_fits_sort))) (l_fits_sort : K.lookup f_fits_sort = some ⟨oc_fits_sort, od_fits_sort, .func (PySem.W.fnOf "fits_sort" "fits_sort" (defArgs S_fits_sort) (defBody S_fits_sort) (defScope S_fits_sort) .none kV_fits_sort dc_fits_sort pm_fits_sort an_fits_sort cd_fits_sort ct_fits_sort), sl_fits_sort⟩) (e_fits_sort : PySem.W.codeIn K cd_fits_sort "fits_sort" = true) (k_fits_sort : PySem.W.keepIn K (.ref f_fits_sort) = true)
    {f_is_filling_of : Addr} {od_is_filling_of an_is_filling_of : Option Addr} {sl_is_filling_of : Array (Option Value)} {oc_is_filling_of kV_is_filling_of dc_is_filling_of pm_is_filling_of cd_is_filling_of ct_is_filling_of : Value}
    (a_is_filling_of : PySem.W.nsIn K mainGlobals "is_filling_of" = some (some (.ref f_is_filling_of))) (l_is_filling_of : K.lookup f_is_filling_of = some ⟨oc_is_filling_of, od_is_filling_of, .func (PySem.W.fnOf "is_filling_of" "is_filling_of" (defArgs S_is_filling_of) (defBody S_is_filling_of) (defScope S_is_filling_of) .none kV_is_filling_of dc_is_filling_of pm_is_filling_of an_is_filling_of cd_is_filling_of ct_is_filling_of), sl_is_filling_of⟩) (e_is_filling_of : PySem.W.codeIn K cd_is_filling_of "is_filling_of" = true) (k_is_filling_of : PySem.W.keepIn K (.ref f_is_filling_of) = true)
    {f_filled : Addr} {od_filled an_filled : Option Addr} {sl_filled : Array (Option Value)} {oc_filled kV_filled dc_filled pm_filled cd_filled ct_filled : Value}
    (a_filled : PySem.W.nsIn K mainGlobals "filled" = some (some (.ref f_filled))) (l_filled : K.lookup f_filled = some ⟨oc_filled, od_filled, .func (PySem.W.fnOf "filled" "filled" (defArgs S_filled) (defBody S_filled) (defScope S_filled) .none kV_filled dc_filled pm_filled an_filled cd_filled ct_filled), sl_filled⟩) (e_filled : PySem.W.codeIn K cd_filled "filled" = true) (k_filled : PySem.W.keepIn K (.ref f_filled) = true)
    {f_is_held : Addr} {od_is_held an_is_held : Option Addr} {sl_is_held : Array (Option Value)} {oc_is_held kV_is_held dc_is_held pm_is_held cd_is_held ct_is_held : Value}
    (a_is_held : PySem.W.nsIn K mainGlobals "is_held" = some (some (.ref f_is_held))) (l_is_held : K.lookup f_is_held = some ⟨oc_is_held, od_is_held, .func (PySem.W.fnOf "is_held" "is_held" (defArgs S_is_held) (defBody S_is_held) (defScope S_is_held) .none kV_is_held dc_is_held pm_is_held an_is_held cd_is_held ct_is_held), sl_is_held⟩) (e_is_held : PySem.W.codeIn K cd_is_held "is_held" = true) (k_is_held : PySem.W.keepIn K (.ref f_is_held) = true)
    {f_matched_args : Addr} {od_matched_args an_matched_args : Option Addr} {sl_matched_args : Array (Option Value)} {oc_matched_args kV_matched_args dc_matched_args pm_matched_args cd_matched_args ct_matched_args : Value}
    (a_matched_args : PySem.W.nsIn K mainGlobals "matched_args" = some (some (.ref f_matched_args))) (l_matched_args : K.lookup f_matched_args = some ⟨oc_matched_args, od_matched_args, .func (PySem.W.fnOf "matched_args" "matched_args" (defArgs S_matched_args) (defBody S_matched_args) (defScope S_matched_args) .none kV_matched_args dc_matched_args pm_matched_args an_matched_args cd_matched_args ct_matched_args), sl_matched_args⟩) (e_matched_args : PySem.W.codeIn K cd_matched_args "matched_args" = true) (k_matched_args : PySem.W.keepIn K (.ref f_matched_args) = true)
    {f_matching : Addr} {od_matching an_matching : Option Addr} {sl_matching : Array (Option Value)} {oc_matching kV_matching dc_matching pm_matching cd_matching ct_matching : Value}
    (a_matching : PySem.W.nsIn K mainGlobals "matching" = some (some (.ref f_matching))) (l_matching : K.lookup f_matching = some ⟨oc_matching, od_matching, .func (PySem.W.fnOf "matching" "matching" (defArgs S_matching) (defBody S_matching) (defScope S_matching) .none kV_matching dc_matching pm_matching an_matching cd_matching ct_matching), sl_matching⟩) (e_matching : PySem.W.codeIn K cd_matching "matching" = true) (k_matching : PySem.W.keepIn K (.ref f_matching) = true)
    {f_is_instance : Addr} {od_is_instance an_is_instance : Option Addr} {sl_is_instance : Array (Option Value)} {oc_is_instance kV_is_instance dc_is_instance pm_is_instance cd_is_instance ct_is_instance : Value}
    (a_is_instance : PySem.W.nsIn K mainGlobals "is_instance" = some (some (.ref f_is_instance))) (l_is_instance : K.lookup f_is_instance = some ⟨oc_is_instance, od_is_instance, .func (PySem.W.fnOf "is_instance" "is_instance" (defArgs S_is_instance) (defBody S_is_instance) (defScope S_is_instance) .none kV_is_instance dc_is_instance pm_is_instance an_is_instance cd_is_instance ct_is_instance), sl_is_instance⟩) (e_is_instance : PySem.W.codeIn K cd_is_instance "is_instance" = true) (k_is_instance : PySem.W.keepIn K (.ref f_is_instance) = true)
    {f_matched : Addr} {od_matched an_matched : Option Addr} {sl_matched : Array (Option Value)} {oc_matched kV_matched dc_matched pm_matched cd_matched ct_matched : Value}
    (a_matched : PySem.W.nsIn K mainGlobals "matched" = some (some (.ref f_matched))) (l_matched : K.lookup f_matched = some ⟨oc_matched, od_matched, .func (PySem.W.fnOf "matched" "matched" (defArgs S_matched) (defBody S_matched) (defScope S_matched) .none kV_matched dc_matched pm_matched an_matched cd_matched ct_matched), sl_matched⟩) (e_matched : PySem.W.codeIn K cd_matched "matched" = true) (k_matched : PySem.W.keepIn K (.ref f_matched) = true)
    {f_is_below : Addr} {od_is_below an_is_below : Option Addr} {sl_is_below : Array (Option Value)} {oc_is_below kV_is_below dc_is_below pm_is_below cd_is_below ct_is_below : Value}
    (a_is_below : PySem.W.nsIn K mainGlobals "is_below" = some (some (.ref f_is_below))) (l_is_below : K.lookup f_is_below = some ⟨oc_is_below, od_is_below, .func (PySem.W.fnOf "is_below" "is_below" (defArgs S_is_below) (defBody S_is_below) (defScope S_is_below) .none kV_is_below dc_is_below pm_is_below an_is_below cd_is_below ct_is_below), sl_is_below⟩) (e_is_below : PySem.W.codeIn K cd_is_below "is_below" = true) (k_is_below : PySem.W.keepIn K (.ref f_is_below) = true)
    {f__law_pot : Addr} {od__law_pot an__law_pot : Option Addr} {sl__law_pot : Array (Option Value)} {oc__law_pot kV__law_pot dc__law_pot pm__law_pot cd__law_pot ct__law_pot : Value}
    (a__law_pot : PySem.W.nsIn K mainGlobals "_law_pot" = some (some (.ref f__law_pot))) (l__law_pot : K.lookup f__law_pot = some ⟨oc__law_pot, od__law_pot, .func (PySem.W.fnOf "_law_pot" "_law_pot" (defArgs S__law_pot) (defBody S__law_pot) (defScope S__law_pot) .none kV__law_pot dc__law_pot pm__law_pot an__law_pot cd__law_pot ct__law_pot), sl__law_pot⟩) (e__law_pot : PySem.W.codeIn K cd__law_pot "_law_pot" = true) (k__law_pot : PySem.W.keepIn K (.ref f__law_pot) = true)
    {f__law_draw : Addr} {od__law_draw an__law_draw : Option Addr} {sl__law_draw : Array (Option Value)} {oc__law_draw kV__law_draw dc__law_draw pm__law_draw cd__law_draw ct__law_draw : Value}
    (a__law_draw : PySem.W.nsIn K mainGlobals "_law_draw" = some (some (.ref f__law_draw))) (l__law_draw : K.lookup f__law_draw = some ⟨oc__law_draw, od__law_draw, .func (PySem.W.fnOf "_law_draw" "_law_draw" (defArgs S__law_draw) (defBody S__law_draw) (defScope S__law_draw) .none kV__law_draw dc__law_draw pm__law_draw an__law_draw cd__law_draw ct__law_draw), sl__law_draw⟩) (e__law_draw : PySem.W.codeIn K cd__law_draw "_law_draw" = true) (k__law_draw : PySem.W.keepIn K (.ref f__law_draw) = true)
    {f__law_pick : Addr} {od__law_pick an__law_pick : Option Addr} {sl__law_pick : Array (Option Value)} {oc__law_pick kV__law_pick dc__law_pick pm__law_pick cd__law_pick ct__law_pick : Value}
    (a__law_pick : PySem.W.nsIn K mainGlobals "_law_pick" = some (some (.ref f__law_pick))) (l__law_pick : K.lookup f__law_pick = some ⟨oc__law_pick, od__law_pick, .func (PySem.W.fnOf "_law_pick" "_law_pick" (defArgs S__law_pick) (defBody S__law_pick) (defScope S__law_pick) .none kV__law_pick dc__law_pick pm__law_pick an__law_pick cd__law_pick ct__law_pick), sl__law_pick⟩) (e__law_pick : PySem.W.codeIn K cd__law_pick "_law_pick" = true) (k__law_pick : PySem.W.keepIn K (.ref f__law_pick) = true)
    {f__law_term : Addr} {od__law_term an__law_term : Option Addr} {sl__law_term : Array (Option Value)} {oc__law_term kV__law_term dc__law_term pm__law_term cd__law_term ct__law_term : Value}
    (a__law_term : PySem.W.nsIn K mainGlobals "_law_term" = some (some (.ref f__law_term))) (l__law_term : K.lookup f__law_term = some ⟨oc__law_term, od__law_term, .func (PySem.W.fnOf "_law_term" "_law_term" (defArgs S__law_term) (defBody S__law_term) (defScope S__law_term) .none kV__law_term dc__law_term pm__law_term an__law_term cd__law_term ct__law_term), sl__law_term⟩) (e__law_term : PySem.W.codeIn K cd__law_term "_law_term" = true) (k__law_term : PySem.W.keepIn K (.ref f__law_term) = true)
    {f__law_great : Addr} {od__law_great an__law_great : Option Addr} {sl__law_great : Array (Option Value)} {oc__law_great kV__law_great dc__law_great pm__law_great cd__law_great ct__law_great : Value}
    (a__law_great : PySem.W.nsIn K mainGlobals "_law_great" = some (some (.ref f__law_great))) (l__law_great : K.lookup f__law_great = some ⟨oc__law_great, od__law_great, .func (PySem.W.fnOf "_law_great" "_law_great" (defArgs S__law_great) (defBody S__law_great) (defScope S__law_great) .none kV__law_great dc__law_great pm__law_great an__law_great cd__law_great ct__law_great), sl__law_great⟩) (e__law_great : PySem.W.codeIn K cd__law_great "_law_great" = true) (k__law_great : PySem.W.keepIn K (.ref f__law_great) = true)
    {f__law_nodes : Addr} {od__law_nodes an__law_nodes : Option Addr} {sl__law_nodes : Array (Option Value)} {oc__law_nodes kV__law_nodes dc__law_nodes pm__law_nodes cd__law_nodes ct__law_nodes : Value}
    (a__law_nodes : PySem.W.nsIn K mainGlobals "_law_nodes" = some (some (.ref f__law_nodes))) (l__law_nodes : K.lookup f__law_nodes = some ⟨oc__law_nodes, od__law_nodes, .func (PySem.W.fnOf "_law_nodes" "_law_nodes" (defArgs S__law_nodes) (defBody S__law_nodes) (defScope S__law_nodes) .none kV__law_nodes dc__law_nodes pm__law_nodes an__law_nodes cd__law_nodes ct__law_nodes), sl__law_nodes⟩) (e__law_nodes : PySem.W.codeIn K cd__law_nodes "_law_nodes" = true) (k__law_nodes : PySem.W.keepIn K (.ref f__law_nodes) = true)
    {f__law_is_rest : Addr} {od__law_is_rest an__law_is_rest : Option Addr} {sl__law_is_rest : Array (Option Value)} {oc__law_is_rest kV__law_is_rest dc__law_is_rest pm__law_is_rest cd__law_is_rest ct__law_is_rest : Value}
    (a__law_is_rest : PySem.W.nsIn K mainGlobals "_law_is_rest" = some (some (.ref f__law_is_rest))) (l__law_is_rest : K.lookup f__law_is_rest = some ⟨oc__law_is_rest, od__law_is_rest, .func (PySem.W.fnOf "_law_is_rest" "_law_is_rest" (defArgs S__law_is_rest) (defBody S__law_is_rest) (defScope S__law_is_rest) .none kV__law_is_rest dc__law_is_rest pm__law_is_rest an__law_is_rest cd__law_is_rest ct__law_is_rest), sl__law_is_rest⟩) (e__law_is_rest : PySem.W.codeIn K cd__law_is_rest "_law_is_rest" = true) (k__law_is_rest : PySem.W.keepIn K (.ref f__law_is_rest) = true)
    {f__law_variables : Addr} {od__law_variables an__law_variables : Option Addr} {sl__law_variables : Array (Option Value)} {oc__law_variables kV__law_variables dc__law_variables pm__law_variables cd__law_variables ct__law_variables : Value}
    (a__law_variables : PySem.W.nsIn K mainGlobals "_law_variables" = some (some (.ref f__law_variables))) (l__law_variables : K.lookup f__law_variables = some ⟨oc__law_variables, od__law_variables, .func (PySem.W.fnOf "_law_variables" "_law_variables" (defArgs S__law_variables) (defBody S__law_variables) (defScope S__law_variables) .none kV__law_variables dc__law_variables pm__law_variables an__law_variables cd__law_variables ct__law_variables), sl__law_variables⟩) (e__law_variables : PySem.W.codeIn K cd__law_variables "_law_variables" = true) (k__law_variables : PySem.W.keepIn K (.ref f__law_variables) = true)
    {f__law_filling : Addr} {od__law_filling an__law_filling : Option Addr} {sl__law_filling : Array (Option Value)} {oc__law_filling kV__law_filling dc__law_filling pm__law_filling cd__law_filling ct__law_filling : Value}
    (a__law_filling : PySem.W.nsIn K mainGlobals "_law_filling" = some (some (.ref f__law_filling))) (l__law_filling : K.lookup f__law_filling = some ⟨oc__law_filling, od__law_filling, .func (PySem.W.fnOf "_law_filling" "_law_filling" (defArgs S__law_filling) (defBody S__law_filling) (defScope S__law_filling) .none kV__law_filling dc__law_filling pm__law_filling an__law_filling cd__law_filling ct__law_filling), sl__law_filling⟩) (e__law_filling : PySem.W.codeIn K cd__law_filling "_law_filling" = true) (k__law_filling : PySem.W.keepIn K (.ref f__law_filling) = true)
    {f__law_filled : Addr} {od__law_filled an__law_filled : Option Addr} {sl__law_filled : Array (Option Value)} {oc__law_filled kV__law_filled dc__law_filled pm__law_filled cd__law_filled ct__law_filled : Value}
    (a__law_filled : PySem.W.nsIn K mainGlobals "_law_filled" = some (some (.ref f__law_filled))) (l__law_filled : K.lookup f__law_filled = some ⟨oc__law_filled, od__law_filled, .func (PySem.W.fnOf "_law_filled" "_law_filled" (defArgs S__law_filled) (defBody S__law_filled) (defScope S__law_filled) .none kV__law_filled dc__law_filled pm__law_filled an__law_filled cd__law_filled ct__law_filled), sl__law_filled⟩) (e__law_filled : PySem.W.codeIn K cd__law_filled "_law_filled" = true) (k__law_filled : PySem.W.keepIn K (.ref f__law_filled) = true)
    {f__law_kept : Addr} {od__law_kept an__law_kept : Option Addr} {sl__law_kept : Array (Option Value)} {oc__law_kept kV__law_kept dc__law_kept pm__law_kept cd__law_kept ct__law_kept : Value}
    (a__law_kept : PySem.W.nsIn K mainGlobals "_law_kept" = some (some (.ref f__law_kept))) (l__law_kept : K.lookup f__law_kept = some ⟨oc__law_kept, od__law_kept, .func (PySem.W.fnOf "_law_kept" "_law_kept" (defArgs S__law_kept) (defBody S__law_kept) (defScope S__law_kept) .none kV__law_kept dc__law_kept pm__law_kept an__law_kept cd__law_kept ct__law_kept), sl__law_kept⟩) (e__law_kept : PySem.W.codeIn K cd__law_kept "_law_kept" = true) (k__law_kept : PySem.W.keepIn K (.ref f__law_kept) = true)
    {f__law_matched : Addr} {od__law_matched an__law_matched : Option Addr} {sl__law_matched : Array (Option Value)} {oc__law_matched kV__law_matched dc__law_matched pm__law_matched cd__law_matched ct__law_matched : Value}
    (a__law_matched : PySem.W.nsIn K mainGlobals "_law_matched" = some (some (.ref f__law_matched))) (l__law_matched : K.lookup f__law_matched = some ⟨oc__law_matched, od__law_matched, .func (PySem.W.fnOf "_law_matched" "_law_matched" (defArgs S__law_matched) (defBody S__law_matched) (defScope S__law_matched) .none kV__law_matched dc__law_matched pm__law_matched an__law_matched cd__law_matched ct__law_matched), sl__law_matched⟩) (e__law_matched : PySem.W.codeIn K cd__law_matched "_law_matched" = true) (k__law_matched : PySem.W.keepIn K (.ref f__law_matched) = true)
    {f__law_args_matched : Addr} {od__law_args_matched an__law_args_matched : Option Addr} {sl__law_args_matched : Array (Option Value)} {oc__law_args_matched kV__law_args_matched dc__law_args_matched pm__law_args_matched cd__law_args_matched ct__law_args_matched : Value}
    (a__law_args_matched : PySem.W.nsIn K mainGlobals "_law_args_matched" = some (some (.ref f__law_args_matched))) (l__law_args_matched : K.lookup f__law_args_matched = some ⟨oc__law_args_matched, od__law_args_matched, .func (PySem.W.fnOf "_law_args_matched" "_law_args_matched" (defArgs S__law_args_matched) (defBody S__law_args_matched) (defScope S__law_args_matched) .none kV__law_args_matched dc__law_args_matched pm__law_args_matched an__law_args_matched cd__law_args_matched ct__law_args_matched), sl__law_args_matched⟩) (e__law_args_matched : PySem.W.codeIn K cd__law_args_matched "_law_args_matched" = true) (k__law_args_matched : PySem.W.keepIn K (.ref f__law_args_matched) = true)
    {f__law_spoiled : Addr} {od__law_spoiled an__law_spoiled : Option Addr} {sl__law_spoiled : Array (Option Value)} {oc__law_spoiled kV__law_spoiled dc__law_spoiled pm__law_spoiled cd__law_spoiled ct__law_spoiled : Value}
    (a__law_spoiled : PySem.W.nsIn K mainGlobals "_law_spoiled" = some (some (.ref f__law_spoiled))) (l__law_spoiled : K.lookup f__law_spoiled = some ⟨oc__law_spoiled, od__law_spoiled, .func (PySem.W.fnOf "_law_spoiled" "_law_spoiled" (defArgs S__law_spoiled) (defBody S__law_spoiled) (defScope S__law_spoiled) .none kV__law_spoiled dc__law_spoiled pm__law_spoiled an__law_spoiled cd__law_spoiled ct__law_spoiled), sl__law_spoiled⟩) (e__law_spoiled : PySem.W.codeIn K cd__law_spoiled "_law_spoiled" = true) (k__law_spoiled : PySem.W.keepIn K (.ref f__law_spoiled) = true)
    {f__law_one_right : Addr} {od__law_one_right an__law_one_right : Option Addr} {sl__law_one_right : Array (Option Value)} {oc__law_one_right kV__law_one_right dc__law_one_right pm__law_one_right cd__law_one_right ct__law_one_right : Value}
    (a__law_one_right : PySem.W.nsIn K mainGlobals "_law_one_right" = some (some (.ref f__law_one_right))) (l__law_one_right : K.lookup f__law_one_right = some ⟨oc__law_one_right, od__law_one_right, .func (PySem.W.fnOf "_law_one_right" "_law_one_right" (defArgs S__law_one_right) (defBody S__law_one_right) (defScope S__law_one_right) .none kV__law_one_right dc__law_one_right pm__law_one_right an__law_one_right cd__law_one_right ct__law_one_right), sl__law_one_right⟩) (e__law_one_right : PySem.W.codeIn K cd__law_one_right "_law_one_right" = true) (k__law_one_right : PySem.W.keepIn K (.ref f__law_one_right) = true)
    {f_law : Addr} {od_law an_law : Option Addr} {sl_law : Array (Option Value)} {oc_law kV_law dc_law pm_law cd_law ct_law : Value}
    (a_law : PySem.W.nsIn K mainGlobals "law" = some (some (.ref f_law))) (l_law : K.lookup f_law = some ⟨oc_law, od_law, .func (PySem.W.fnOf "law" "law" (defArgs S_law) (defBody S_law) (defScope S_law) .none kV_law dc_law pm_law an_law cd_law ct_law), sl_law⟩) (e_law : PySem.W.codeIn K cd_law "law" = true) (k_law : PySem.W.keepIn K (.ref f_law) = true)
    (z_abs : PySem.W.nsIn K mainGlobals "abs" = some none)
    (z_all : PySem.W.nsIn K mainGlobals "all" = some none)
    (z_any : PySem.W.nsIn K mainGlobals "any" = some none)
    (z_bool : PySem.W.nsIn K mainGlobals "bool" = some none)
    (z_dict : PySem.W.nsIn K mainGlobals "dict" = some none)
    (z_divmod : PySem.W.nsIn K mainGlobals "divmod" = some none)
    (z_enumerate : PySem.W.nsIn K mainGlobals "enumerate" = some none)
    (z_int : PySem.W.nsIn K mainGlobals "int" = some none)
    (z_isinstance : PySem.W.nsIn K mainGlobals "isinstance" = some none)
    (z_len : PySem.W.nsIn K mainGlobals "len" = some none)
    (z_list : PySem.W.nsIn K mainGlobals "list" = some none)
    (z_max : PySem.W.nsIn K mainGlobals "max" = some none)
    (z_range : PySem.W.nsIn K mainGlobals "range" = some none)
    (z_repr : PySem.W.nsIn K mainGlobals "repr" = some none)
    (z_str : PySem.W.nsIn K mainGlobals "str" = some none)
    (z_sum : PySem.W.nsIn K mainGlobals "sum" = some none)
    (z_tuple : PySem.W.nsIn K mainGlobals "tuple" = some none)
    (z_zip : PySem.W.nsIn K mainGlobals "zip" = some none)
    {t_DIGITS : Tok} (c_DIGITS : PySem.W.nsIn K mainGlobals "DIGITS" = some (some (.str "0123456789" t_DIGITS)))
    {t_GREAT : Tok} (c_GREAT : PySem.W.nsIn K mainGlobals "GREAT" = some (some (.str "ABCDEFGHIJKLMNOPQRSTUVWXYZ" t_GREAT)))
    {t_HEAD : Tok} (c_HEAD : PySem.W.nsIn K mainGlobals "HEAD" = some (some (.str "head" t_HEAD)))
    {t_MOST_DIGITS : Tok} (c_MOST_DIGITS : PySem.W.nsIn K mainGlobals "MOST_DIGITS" = some (some (.int (2) t_MOST_DIGITS)))
    {t_MOST_NODES : Tok} (c_MOST_NODES : PySem.W.nsIn K mainGlobals "MOST_NODES" = some (some (.int (200) t_MOST_NODES)))
    {t_MOST_SIGNS : Tok} (c_MOST_SIGNS : PySem.W.nsIn K mainGlobals "MOST_SIGNS" = some (some (.int (8) t_MOST_SIGNS)))
    {t_REST : Tok} (c_REST : PySem.W.nsIn K mainGlobals "REST" = some (some (.str "rest" t_REST)))
    {t_SMALL : Tok} (c_SMALL : PySem.W.nsIn K mainGlobals "SMALL" = some (some (.str "abcdefghijklmnopqrstuvwxyz" t_SMALL)))
    {t_TERM : Tok} (c_TERM : PySem.W.nsIn K mainGlobals "TERM" = some (some (.str "term" t_TERM)))
    : ∃ fd : FuncData, (∀ (s : Shared) (v : Value), BindsTo s fd ⟨[v], []⟩ [("script", v)]) ∧ ∀ base : Heap, K.In base → base.Ns mainGlobals mg → FnG l.prog w K mg base CX0 depth fa fd ["script"] (spF K (fun _ => 0) (run T depth) 41 1) := by
  have e := hfa.symm.trans (PySem.W.mg_of X G a_law)
  cases e
  have F_is_integer := fun_mk (st := S_is_integer) l_is_integer e_is_integer k_is_integer
  have b_is_integer := F_is_integer.binds (ps := ["value"]) fun _ _ _ _ _ _ us hl => match us, hl with | [_], _ => rfl
  have F_want_at_most := fun_mk (st := S_want_at_most) l_want_at_most e_want_at_most k_want_at_most
  have b_want_at_most := F_want_at_most.binds (ps := ["what", "limit", "number"]) fun _ _ _ _ _ _ us hl => match us, hl with | [_, _, _], _ => rfl
  have F_is_name := fun_mk (st := S_is_name) l_is_name e_is_name k_is_name
  have b_is_name := F_is_name.binds (ps := ["value"]) fun _ _ _ _ _ _ us hl => match us, hl with | [_], _ => rfl
  have F_is_variable := fun_mk (st := S_is_variable) l_is_variable e_is_variable k_is_variable
  have b_is_variable := F_is_variable.binds (ps := ["value"]) fun _ _ _ _ _ _ us hl => match us, hl with | [_], _ => rfl
  have F_is_head := fun_mk (st := S_is_head) l_is_head e_is_head k_is_head
  have b_is_head := F_is_head.binds (ps := ["value"]) fun _ _ _ _ _ _ us hl => match us, hl with | [_], _ => rfl
  have F_is_rest := fun_mk (st := S_is_rest) l_is_rest e_is_rest k_is_rest
  have b_is_rest := F_is_rest.binds (ps := ["value"]) fun _ _ _ _ _ _ us hl => match us, hl with | [_], _ => rfl
  have F_is_applied := fun_mk (st := S_is_applied) l_is_applied e_is_applied k_is_applied
  have b_is_applied := F_is_applied.binds (ps := ["value"]) fun _ _ _ _ _ _ us hl => match us, hl with | [_], _ => rfl
  have F_standings := fun_mk (st := S_standings) l_standings e_standings k_standings
  have b_standings := F_standings.binds (ps := ["value"]) fun _ _ _ _ _ _ us hl => match us, hl with | [_], _ => rfl
  have F_have_one_sort := fun_mk (st := S_have_one_sort) l_have_one_sort e_have_one_sort k_have_one_sort
  have b_have_one_sort := F_have_one_sort.binds (ps := ["found"]) fun _ _ _ _ _ _ us hl => match us, hl with | [_], _ => rfl
  have F_pieces := fun_mk (st := S_pieces) l_pieces e_pieces k_pieces
  have b_pieces := F_pieces.binds (ps := ["term"]) fun _ _ _ _ _ _ us hl => match us, hl with | [_], _ => rfl
  have F_variables_of := fun_mk (st := S_variables_of) l_variables_of e_variables_of k_variables_of
  have b_variables_of := F_variables_of.binds (ps := ["term"]) fun _ _ _ _ _ _ us hl => match us, hl with | [_], _ => rfl
  have F_nodes_of := fun_mk (st := S_nodes_of) l_nodes_of e_nodes_of k_nodes_of
  have b_nodes_of := F_nodes_of.binds (ps := ["term"]) fun _ _ _ _ _ _ us hl => match us, hl with | [_], _ => rfl
  have F_is_term := fun_mk (st := S_is_term) l_is_term e_is_term k_is_term
  have b_is_term := F_is_term.binds (ps := ["value"]) fun _ _ _ _ _ _ us hl => match us, hl with | [_], _ => rfl
  have F_want_term := fun_mk (st := S_want_term) l_want_term e_want_term k_want_term
  have b_want_term := F_want_term.binds (ps := ["value"]) fun _ _ _ _ _ _ us hl => match us, hl with | [_], _ => rfl
  have F_filled_args := fun_mk (st := S_filled_args) l_filled_args e_filled_args k_filled_args
  have b_filled_args := F_filled_args.binds (ps := ["args", "filling"]) fun _ _ _ _ _ _ us hl => match us, hl with | [_, _], _ => rfl
  have F_fill := fun_mk (st := S_fill) l_fill e_fill k_fill
  have b_fill := F_fill.binds (ps := ["term", "filling"]) fun _ _ _ _ _ _ us hl => match us, hl with | [_, _], _ => rfl
  have F_are_args := fun_mk (st := S_are_args) l_are_args e_are_args k_are_args
  have b_are_args := F_are_args.binds (ps := ["value"]) fun _ _ _ _ _ _ us hl => match us, hl with | [_], _ => rfl
  have F_fits_sort := fun_mk (st := S_fits_sort) l_fits_sort e_fits_sort k_fits_sort
  have b_fits_sort := F_fits_sort.binds (ps := ["sort", "value"]) fun _ _ _ _ _ _ us hl => match us, hl with | [_, _], _ => rfl
  have F_is_filling_of := fun_mk (st := S_is_filling_of) l_is_filling_of e_is_filling_of k_is_filling_of
  have b_is_filling_of := F_is_filling_of.binds (ps := ["term", "value"]) fun _ _ _ _ _ _ us hl => match us, hl with | [_, _], _ => rfl
  have F_filled := fun_mk (st := S_filled) l_filled e_filled k_filled
  have b_filled := F_filled.binds (ps := ["term", "filling"]) fun _ _ _ _ _ _ us hl => match us, hl with | [_, _], _ => rfl
  have F_is_held := fun_mk (st := S_is_held) l_is_held e_is_held k_is_held
  have b_is_held := F_is_held.binds (ps := ["found", "variable", "thing"]) fun _ _ _ _ _ _ us hl => match us, hl with | [_, _, _], _ => rfl
  have F_matched_args := fun_mk (st := S_matched_args) l_matched_args e_matched_args k_matched_args
  have b_matched_args := F_matched_args.binds (ps := ["found", "near", "far"]) fun _ _ _ _ _ _ us hl => match us, hl with | [_, _, _], _ => rfl
  have F_matching := fun_mk (st := S_matching) l_matching e_matching k_matching
  have b_matching := F_matching.binds (ps := ["pattern", "term"]) fun _ _ _ _ _ _ us hl => match us, hl with | [_, _], _ => rfl
  have F_is_instance := fun_mk (st := S_is_instance) l_is_instance e_is_instance k_is_instance
  have b_is_instance := F_is_instance.binds (ps := ["term", "other"]) fun _ _ _ _ _ _ us hl => match us, hl with | [_, _], _ => rfl
  have F_matched := fun_mk (st := S_matched) l_matched e_matched k_matched
  have b_matched := F_matched.binds (ps := ["pattern", "term"]) fun _ _ _ _ _ _ us hl => match us, hl with | [_, _], _ => rfl
  have F_is_below := fun_mk (st := S_is_below) l_is_below e_is_below k_is_below
  have b_is_below := F_is_below.binds (ps := ["term", "other"]) fun _ _ _ _ _ _ us hl => match us, hl with | [_, _], _ => rfl
  have F__law_pot := fun_mk (st := S__law_pot) l__law_pot e__law_pot k__law_pot
  have b__law_pot := F__law_pot.binds (ps := ["script", "k"]) fun _ _ _ _ _ _ us hl => match us, hl with | [_, _], _ => rfl
  have F__law_draw := fun_mk (st := S__law_draw) l__law_draw e__law_draw k__law_draw
  have b__law_draw := F__law_draw.binds (ps := ["pot", "many"]) fun _ _ _ _ _ _ us hl => match us, hl with | [_, _], _ => rfl
  have F__law_pick := fun_mk (st := S__law_pick) l__law_pick e__law_pick k__law_pick
  have b__law_pick := F__law_pick.binds (ps := ["pot", "some"]) fun _ _ _ _ _ _ us hl => match us, hl with | [_, _], _ => rfl
  have F__law_term := fun_mk (st := S__law_term) l__law_term e__law_term k__law_term
  have b__law_term := F__law_term.binds (ps := ["pot", "deep"]) fun _ _ _ _ _ _ us hl => match us, hl with | [_, _], _ => rfl
  have F__law_great := fun_mk (st := S__law_great) l__law_great e__law_great k__law_great
  have b__law_great := F__law_great.binds (ps := ["pot"]) fun _ _ _ _ _ _ us hl => match us, hl with | [_], _ => rfl
  have F__law_nodes := fun_mk (st := S__law_nodes) l__law_nodes e__law_nodes k__law_nodes
  have b__law_nodes := F__law_nodes.binds (ps := ["term"]) fun _ _ _ _ _ _ us hl => match us, hl with | [_], _ => rfl
  have F__law_is_rest := fun_mk (st := S__law_is_rest) l__law_is_rest e__law_is_rest k__law_is_rest
  have b__law_is_rest := F__law_is_rest.binds (ps := ["arg"]) fun _ _ _ _ _ _ us hl => match us, hl with | [_], _ => rfl
  have F__law_variables := fun_mk (st := S__law_variables) l__law_variables e__law_variables k__law_variables
  have b__law_variables := F__law_variables.binds (ps := ["term", "found"]) fun _ _ _ _ _ _ us hl => match us, hl with | [_, _], _ => rfl
  have F__law_filling := fun_mk (st := S__law_filling) l__law_filling e__law_filling k__law_filling
  have b__law_filling := F__law_filling.binds (ps := ["pot", "term"]) fun _ _ _ _ _ _ us hl => match us, hl with | [_, _], _ => rfl
  have F__law_filled := fun_mk (st := S__law_filled) l__law_filled e__law_filled k__law_filled
  have b__law_filled := F__law_filled.binds (ps := ["term", "filling"]) fun _ _ _ _ _ _ us hl => match us, hl with | [_, _], _ => rfl
  have F__law_kept := fun_mk (st := S__law_kept) l__law_kept e__law_kept k__law_kept
  have b__law_kept := F__law_kept.binds (ps := ["found", "variable", "value"]) fun _ _ _ _ _ _ us hl => match us, hl with | [_, _, _], _ => rfl
  have F__law_matched := fun_mk (st := S__law_matched) l__law_matched e__law_matched k__law_matched
  have b__law_matched := F__law_matched.binds (ps := ["pattern", "term", "found"]) fun _ _ _ _ _ _ us hl => match us, hl with | [_, _, _], _ => rfl
  have F__law_args_matched := fun_mk (st := S__law_args_matched) l__law_args_matched e__law_args_matched k__law_args_matched
  have b__law_args_matched := F__law_args_matched.binds (ps := ["args", "others", "found"]) fun _ _ _ _ _ _ us hl => match us, hl with | [_, _, _], _ => rfl
  have F__law_spoiled := fun_mk (st := S__law_spoiled) l__law_spoiled e__law_spoiled k__law_spoiled
  have b__law_spoiled := F__law_spoiled.binds (ps := ["pot", "term", "deep"]) fun _ _ _ _ _ _ us hl => match us, hl with | [_, _, _], _ => rfl
  have F__law_one_right := fun_mk (st := S__law_one_right) l__law_one_right e__law_one_right k__law_one_right
  have b__law_one_right := F__law_one_right.binds (ps := ["pattern", "term"]) fun _ _ _ _ _ _ us hl => match us, hl with | [_, _], _ => rfl
  have F_law := fun_mk (st := S_law) l_law e_law k_law
  have b_law := F_law.binds (ps := ["script"]) fun _ _ _ _ _ _ us hl => match us, hl with | [_], _ => rfl
  refine ⟨PySem.W.fnOf "law" "law" (defArgs S_law) (defBody S_law) (defScope S_law) .none kV_law dc_law pm_law an_law cd_law ct_law, fun s v => .of_eq rfl, fun base _ _ => ?_⟩
  have gc : GC mg := { b_abs := PySem.W.mg_none_of X G z_abs, b_all := PySem.W.mg_none_of X G z_all, b_any := PySem.W.mg_none_of X G z_any, b_bool := PySem.W.mg_none_of X G z_bool, b_dict := PySem.W.mg_none_of X G z_dict, b_divmod := PySem.W.mg_none_of X G z_divmod, b_enumerate := PySem.W.mg_none_of X G z_enumerate, b_int := PySem.W.mg_none_of X G z_int, b_isinstance := PySem.W.mg_none_of X G z_isinstance, b_len := PySem.W.mg_none_of X G z_len, b_list := PySem.W.mg_none_of X G z_list, b_max := PySem.W.mg_none_of X G z_max, b_range := PySem.W.mg_none_of X G z_range, b_repr := PySem.W.mg_none_of X G z_repr, b_str := PySem.W.mg_none_of X G z_str, b_sum := PySem.W.mg_none_of X G z_sum, b_tuple := PySem.W.mg_none_of X G z_tuple, b_zip := PySem.W.mg_none_of X G z_zip, c_DIGITS := ⟨_, PySem.W.mg_of X G c_DIGITS, ⟨_, rfl⟩⟩, c_GREAT := ⟨_, PySem.W.mg_of X G c_GREAT, ⟨_, rfl⟩⟩, c_HEAD := ⟨_, PySem.W.mg_of X G c_HEAD, ⟨_, rfl⟩⟩, c_MOST_DIGITS := ⟨_, PySem.W.mg_of X G c_MOST_DIGITS, ⟨_, rfl⟩⟩, c_MOST_NODES := ⟨_, PySem.W.mg_of X G c_MOST_NODES, ⟨_, rfl⟩⟩, c_MOST_SIGNS := ⟨_, PySem.W.mg_of X G c_MOST_SIGNS, ⟨_, rfl⟩⟩, c_REST := ⟨_, PySem.W.mg_of X G c_REST, ⟨_, rfl⟩⟩, c_SMALL := ⟨_, PySem.W.mg_of X G c_SMALL, ⟨_, rfl⟩⟩, c_TERM := ⟨_, PySem.W.mg_of X G c_TERM, ⟨_, rfl⟩⟩ }
  exact law_fn (g_all (P := l.prog) (w := w) (base := base) gc ⟨_, _, F_is_integer, PySem.W.mg_of X G a_is_integer, b_is_integer⟩ ⟨_, _, F_want_at_most, PySem.W.mg_of X G a_want_at_most, b_want_at_most⟩ ⟨_, _, F_is_name, PySem.W.mg_of X G a_is_name, b_is_name⟩ ⟨_, _, F_is_variable, PySem.W.mg_of X G a_is_variable, b_is_variable⟩ ⟨_, _, F_is_head, PySem.W.mg_of X G a_is_head, b_is_head⟩ ⟨_, _, F_is_rest, PySem.W.mg_of X G a_is_rest, b_is_rest⟩ ⟨_, _, F_is_applied, PySem.W.mg_of X G a_is_applied, b_is_applied⟩ ⟨_, _, F_standings, PySem.W.mg_of X G a_standings, b_standings⟩ ⟨_, _, F_have_one_sort, PySem.W.mg_of X G a_have_one_sort, b_have_one_sort⟩ ⟨_, _, F_pieces, PySem.W.mg_of X G a_pieces, b_pieces⟩ ⟨_, _, F_variables_of, PySem.W.mg_of X G a_variables_of, b_variables_of⟩ ⟨_, _, F_nodes_of, PySem.W.mg_of X G a_nodes_of, b_nodes_of⟩ ⟨_, _, F_is_term, PySem.W.mg_of X G a_is_term, b_is_term⟩ ⟨_, _, F_want_term, PySem.W.mg_of X G a_want_term, b_want_term⟩ ⟨_, _, F_filled_args, PySem.W.mg_of X G a_filled_args, b_filled_args⟩ ⟨_, _, F_fill, PySem.W.mg_of X G a_fill, b_fill⟩ ⟨_, _, F_are_args, PySem.W.mg_of X G a_are_args, b_are_args⟩ ⟨_, _, F_fits_sort, PySem.W.mg_of X G a_fits_sort, b_fits_sort⟩ ⟨_, _, F_is_filling_of, PySem.W.mg_of X G a_is_filling_of, b_is_filling_of⟩ ⟨_, _, F_filled, PySem.W.mg_of X G a_filled, b_filled⟩ ⟨_, _, F_is_held, PySem.W.mg_of X G a_is_held, b_is_held⟩ ⟨_, _, F_matched_args, PySem.W.mg_of X G a_matched_args, b_matched_args⟩ ⟨_, _, F_matching, PySem.W.mg_of X G a_matching, b_matching⟩ ⟨_, _, F_is_instance, PySem.W.mg_of X G a_is_instance, b_is_instance⟩ ⟨_, _, F_matched, PySem.W.mg_of X G a_matched, b_matched⟩ ⟨_, _, F_is_below, PySem.W.mg_of X G a_is_below, b_is_below⟩ ⟨_, _, F__law_pot, PySem.W.mg_of X G a__law_pot, b__law_pot⟩ ⟨_, _, F__law_draw, PySem.W.mg_of X G a__law_draw, b__law_draw⟩ ⟨_, _, F__law_pick, PySem.W.mg_of X G a__law_pick, b__law_pick⟩ ⟨_, _, F__law_term, PySem.W.mg_of X G a__law_term, b__law_term⟩ ⟨_, _, F__law_great, PySem.W.mg_of X G a__law_great, b__law_great⟩ ⟨_, _, F__law_nodes, PySem.W.mg_of X G a__law_nodes, b__law_nodes⟩ ⟨_, _, F__law_is_rest, PySem.W.mg_of X G a__law_is_rest, b__law_is_rest⟩ ⟨_, _, F__law_variables, PySem.W.mg_of X G a__law_variables, b__law_variables⟩ ⟨_, _, F__law_filling, PySem.W.mg_of X G a__law_filling, b__law_filling⟩ ⟨_, _, F__law_filled, PySem.W.mg_of X G a__law_filled, b__law_filled⟩ ⟨_, _, F__law_kept, PySem.W.mg_of X G a__law_kept, b__law_kept⟩ ⟨_, _, F__law_matched, PySem.W.mg_of X G a__law_matched, b__law_matched⟩ ⟨_, _, F__law_args_matched, PySem.W.mg_of X G a__law_args_matched, b__law_args_matched⟩ ⟨_, _, F__law_spoiled, PySem.W.mg_of X G a__law_spoiled, b__law_spoiled⟩ ⟨_, _, F__law_one_right, PySem.W.mg_of X G a__law_one_right, b__law_one_right⟩ ⟨_, _, F_law, PySem.W.mg_of X G a_law, b_law⟩ depth).f_law F_law (PySem.W.mg_of X G a_law)
theorem walk {l : PySem.W.OpenLaw} {q : Program} {loose : List Str} {XP : (Str → Option Value) → Heap → Prop} {YP : World → Heap → Prop} {d : DefRec} {K : Params → PySem.W.Frag} (hn : l.most = some 63) (hdf : d.params.defaults = [])
    (hrun : ∀ ns : List Int, ns.length ≤ 63 → ∃ μ, run T depth 41 [.dat (.scr ns)] [] = .ok (.dat (.bl true)) μ) (hY : ∀ (w : World) (h : Heap), YP w h → (K w.params).In h)
    (F : ∀ (w : World) (mg : Str → Option Value) (fa : Addr) (h : Heap), (K w.params).In h → h.Ns mainGlobals mg → mg d.name = some (.ref fa) →
      ∃ fd : FuncData, (∀ (s : Shared) (u : Value), BindsTo s fd ⟨[u], []⟩ [("script", u)]) ∧ ∀ base : Heap, (K w.params).In base → base.Ns mainGlobals mg → FnG l.prog w (K w.params) mg base CX0 depth fa fd ["script"] (spF (K w.params) (fun _ => 0) (run T depth) 41 1)) :
    PySem.W.WalkO q loose XP YP l.row.toRowW d [] (fun f vs => PySem.call f vs) :=
  top_walk (n := 63) (k := depth) (x := "script") (CX := fun _ => CX0) (sp := fun w => spF (K w.params) (fun _ => 0) (run T depth) 41 1) hn (by decide) hdf ⟨rfl, by decide, by decide⟩ hY F (fun _ _ a ns hl _ hS => law_sp hS (hrun ns hl)) fun _ _ _ _ _ z => z
end Law
set_option maxHeartbeats 0
/-! k16, the plain law: the drawn terms and the single tests. -/
namespace K16
open VM Law
open L2 (atI ixN)
inductive Tm where
  | num (i : Int)
  | var (x : Fin 4)
  | rst (x : Fin 2)
  | app (h : Fin 6) (as : List Tm)
def vS : Fin 4 → PySem.Str
  | 0 => "X" | 1 => "Y" | 2 => "Z1" | 3 => "V7"
def rS : Fin 2 → PySem.Str
  | 0 => "*S" | 1 => "*T"
def rV : Fin 2 → PySem.Str
  | 0 => "S" | 1 => "T"
def hS : Fin 6 → PySem.Str
  | 0 => "a0" | 1 => "f" | 2 => "g" | 3 => "H" | 4 => "G" | 5 => "zz3"
def hV : Fin 6 → Bool
  | 3 => true | 4 => true | _ => false
mutual
def Tm.d : Tm → D
  | .num i => .int i
  | .var x => .str (vS x)
  | .rst x => .str (rS x)
  | .app h as => .tup [.str (hS h), .tup (ds as)]
def ds : List Tm → List D
  | [] => []
  | t :: ts => t.d :: ds ts
end
def isV : Tm → Bool
  | .var _ => true
  | _ => false
def isR : Tm → Bool
  | .rst _ => true
  | _ => false
def isA : Tm → Bool
  | .app _ _ => true
  | _ => false
def isN : Tm → Bool
  | .num _ => true
  | _ => false
theorem ds_map : ∀ ts : List Tm, ds ts = ts.map Tm.d
  | [] => rfl
  | t :: ts => by unfold ds; rw [ds_map ts]; rfl
theorem ds_len (as : List Tm) : (ds as).length = as.length := by rw [ds_map, List.length_map]
theorem run_at {n i nl : Nat} {b : SS} {vs : List SV} {μ : Sto} (h : T[i]? = some (nl, b)) : VM.run T (n + 1) i vs μ = callEnd μ.length (b (VM.run T n) (startE nl vs) μ) := by
  show (match T[i]? with | some (nl, b) => callF nl b (VM.run T n) vs μ | none => .bad) = _
  rw [h]; rfl
theorem pure_of {n i : Nat} {vs : List SV} {μ : Sto} {v : EV} (h : VM.run T n i vs μ = .ok v (μ.take μ.length)) : VM.run T n i vs μ = .ok v μ := by
  rw [h, List.take_length]
theorem pure2 {n i : Nat} {vs : List SV} {μ : Sto} {v : EV} (h : VM.run T n i vs μ = .ok v ((μ.take μ.length).take μ.length)) : VM.run T n i vs μ = .ok v μ := by
  rw [h, List.take_length, List.take_length]
theorem pure3 {n i : Nat} {vs : List SV} {μ : Sto} {v : EV} (h : VM.run T n i vs μ = .ok v (((μ.take μ.length).take (μ.take μ.length).length).take μ.length)) : VM.run T n i vs μ = .ok v μ := by
  rw [h, List.take_length, List.take_length, List.take_length]
section
variable {n : Nat} {μ : Sto}
theorem s_isInt : ∀ t : Tm, VM.run T (n + 1) 0 [.dat t.d] μ = .ok (.dat (.bl (isN t))) μ
  | .num i => pure_of (by kernel_rfl)
  | .var x => pure_of (by kernel_rfl)
  | .rst x => pure_of (by kernel_rfl)
  | .app h as => pure_of (by kernel_rfl)
theorem s_isVar : ∀ t : Tm, VM.run T (n + 1) 3 [.dat t.d] μ = .ok (.dat (.bl (isV t))) μ
  | .num i => pure_of (by kernel_rfl)
  | .var 0 => pure_of (by kernel_rfl)
  | .var 1 => pure_of (by kernel_rfl)
  | .var 2 => pure_of (by kernel_rfl)
  | .var 3 => pure_of (by kernel_rfl)
  | .rst 0 => pure_of (by kernel_rfl)
  | .rst 1 => pure_of (by kernel_rfl)
  | .app h as => pure_of (by kernel_rfl)
theorem s_isRest : ∀ t : Tm, VM.run T (n + 2) 5 [.dat t.d] μ = .ok (.dat (.bl (isR t))) μ
  | .num i => pure_of (by kernel_rfl)
  | .var 0 => pure_of (by kernel_rfl)
  | .var 1 => pure_of (by kernel_rfl)
  | .var 2 => pure_of (by kernel_rfl)
  | .var 3 => pure_of (by kernel_rfl)
  | .rst 0 => pure2 (by kernel_rfl)
  | .rst 1 => pure2 (by kernel_rfl)
  | .app h as => pure_of (by kernel_rfl)
theorem s_isApp : ∀ t : Tm, VM.run T (n + 1) 6 [.dat t.d] μ = .ok (.dat (.bl (isA t))) μ
  | .num i => pure_of (by kernel_rfl)
  | .var x => pure_of (by kernel_rfl)
  | .rst x => pure_of (by kernel_rfl)
  | .app h as => pure_of (by kernel_rfl)
theorem s_isHead : ∀ h : Fin 6, VM.run T (n + 2) 4 [.dat (.str (hS h))] μ = .ok (.dat (.bl true)) μ
  | 0 => pure2 (by kernel_rfl)
  | 1 => pure2 (by kernel_rfl)
  | 2 => pure2 (by kernel_rfl)
  | 3 => pure3 (by kernel_rfl)
  | 4 => pure3 (by kernel_rfl)
  | 5 => pure2 (by kernel_rfl)
theorem s_headVar : ∀ h : Fin 6, VM.run T (n + 1) 3 [.dat (.str (hS h))] μ = .ok (.dat (.bl (hV h))) μ
  | 0 => pure_of (by kernel_rfl)
  | 1 => pure_of (by kernel_rfl)
  | 2 => pure_of (by kernel_rfl)
  | 3 => pure_of (by kernel_rfl)
  | 4 => pure_of (by kernel_rfl)
  | 5 => pure_of (by kernel_rfl)
theorem l_isRest : ∀ t : Tm, VM.run T (n + 1) 32 [.dat t.d] μ = .ok (.dat (.bl (isR t))) μ
  | .num i => pure_of (by kernel_rfl)
  | .var 0 => pure_of (by kernel_rfl)
  | .var 1 => pure_of (by kernel_rfl)
  | .var 2 => pure_of (by kernel_rfl)
  | .var 3 => pure_of (by kernel_rfl)
  | .rst 0 => pure_of (by kernel_rfl)
  | .rst 1 => pure_of (by kernel_rfl)
  | .app h as => pure_of (by kernel_rfl)
end
/-! sizes -/
mutual
def sz : Tm → Nat
  | .app _ as => 1 + szs as
  | _ => 1
def szs : List Tm → Nat
  | [] => 0
  | t :: ts => sz t + szs ts
end
mutual
def dep : Tm → Nat
  | .app _ as => 1 + deps as
  | _ => 1
def deps : List Tm → Nat
  | [] => 0
  | t :: ts => max (dep t) (deps ts)
end
mutual
/-- rests stand at the ends of rows alone -/
def okT : Tm → Bool
  | .app _ as => okA as
  | _ => true
def okA : List Tm → Bool
  | [] => true
  | t :: ts => okT t && (ts.isEmpty || !isR t) && okA ts
end
theorem sz_pos : ∀ t : Tm, 1 ≤ sz t
  | .app _ _ => by simp only [sz]; omega
  | .num _ => by simp [sz]
  | .var _ => by simp [sz]
  | .rst _ => by simp [sz]
theorem dep_pos : ∀ t : Tm, 1 ≤ dep t
  | .app _ _ => by simp only [dep]; omega
  | .num _ => by simp [dep]
  | .var _ => by simp [dep]
  | .rst _ => by simp [dep]
theorem szs_sum : ∀ ts : List Tm, szs ts = (ts.map sz).sum
  | [] => by simp [szs]
  | t :: ts => by simp only [szs, List.map_cons, List.sum_cons]; rw [szs_sum ts]
theorem szs_app (a b : List Tm) : szs (a ++ b) = szs a + szs b := by rw [szs_sum, szs_sum, szs_sum, List.map_append, List.sum_append]
theorem deps_app : ∀ (a b : List Tm), deps (a ++ b) = max (deps a) (deps b)
  | [], b => by simp [deps]
  | t :: a, b => by simp only [List.cons_append, deps, deps_app a b]; omega
theorem ds_app (a b : List Tm) : ds (a ++ b) = ds a ++ ds b := by rw [ds_map, ds_map, ds_map, List.map_append]
theorem len_szs : ∀ as : List Tm, as.length ≤ szs as
  | [] => by simp
  | t :: as => by
    have := sz_pos t
    have := len_szs as
    simp only [szs, List.length_cons]; omega
theorem deps_mem : ∀ {ts : List Tm} {t : Tm}, t ∈ ts → dep t ≤ deps ts
  | t' :: ts, t, h => by
    simp only [deps]
    rcases List.mem_cons.mp h with rfl | h
    · omega
    · have := deps_mem h; omega
theorem szs_mem : ∀ {ts : List Tm} {t : Tm}, t ∈ ts → sz t ≤ szs ts
  | t' :: ts, t, h => by
    simp only [szs]
    rcases List.mem_cons.mp h with rfl | h
    · omega
    · have := szs_mem h; omega
theorem okA_mem : ∀ {ts : List Tm} {t : Tm}, okA ts = true → t ∈ ts → okT t = true
  | t' :: ts, t, ho, h => by
    simp only [okA, Bool.and_eq_true] at ho
    rcases List.mem_cons.mp h with rfl | h
    · exact ho.1.1
    · exact okA_mem ho.2 h
theorem sum_len {α : Type} {f : α → Nat} (h : ∀ x, 1 ≤ f x) : ∀ L : List α, L.length ≤ (L.map f).sum
  | [] => by simp
  | x :: L => by
    have := h x
    have := sum_len h L
    simp only [List.map_cons, List.sum_cons, List.length_cons]; omega
theorem lim1 {n : Nat} (h : n ≤ 5000) : n ≤ LIM := Nat.le_trans h (by decide)
theorem lim2 {n : Nat} (h : n ≤ 5000) : n < LIM := Nat.lt_of_le_of_lt h (by decide)
theorem ne_nil (l : List D) : opCmp .NotEq (.lst l) (.lst []) = some (!l.isEmpty) := by
  cases l with
  | nil => rfl
  | cons a l =>
    simp only [opCmp, opEq, opEq0, txEq]
    have h2 : fits 64 (.lst []) = true := by simp [fits, fitsAll]
    by_cases h : fits 64 (.lst (a :: l)) = true
    · rw [if_pos (by rw [h, h2]; rfl)]
      simp [eqv, eqvs]
    · rw [if_neg (by simp [h])]
      simp [lenNe]
theorem opEq_int (i j : Int) : opEq (.int i) (.int j) = some (i == j) := by simp [opEq, opEq0, txEq, fits, eqv]
/-! what == may be asked of -/
theorem vS_fits (x : Fin 4) (n : Nat) : fits n (.str (vS x)) = true := by
  have : ((vS x).cps.toList.all fun c => decide (c < 0x110000)) = true := by revert x; decide +kernel
  cases n <;> simpa only [fits] using this
theorem rS_fits (x : Fin 2) (n : Nat) : fits n (.str (rS x)) = true := by
  have : ((rS x).cps.toList.all fun c => decide (c < 0x110000)) = true := by revert x; decide +kernel
  cases n <;> simpa only [fits] using this
theorem hS_fits (x : Fin 6) (n : Nat) : fits n (.str (hS x)) = true := by
  have : ((hS x).cps.toList.all fun c => decide (c < 0x110000)) = true := by revert x; decide +kernel
  cases n <;> simpa only [fits] using this
mutual
theorem d_fits : ∀ (t : Tm) (n : Nat), 2 * dep t ≤ n → fits n t.d = true
  | .num i, n, _ => by cases n <;> simp [Tm.d, fits]
  | .var x, n, _ => vS_fits x n
  | .rst x, n, _ => rS_fits x n
  | .app h as, n, hn => by
    simp only [dep] at hn
    obtain ⟨k, rfl⟩ : ∃ k, n = k + 2 := ⟨n - 2, by omega⟩
    have h1 := hS_fits h (k + 1)
    have h2 := ds_fits as k (by omega)
    simp only [fits] at h1
    simp only [Tm.d, fits, fitsAll, h1, h2, Bool.true_and, Bool.and_true]
theorem ds_fits : ∀ (ts : List Tm) (n : Nat), 2 * deps ts ≤ n → fitsAll n (ds ts) = true
  | [], n, _ => by simp [ds, fitsAll]
  | t :: ts, n, hn => by
    simp only [deps] at hn
    simp only [ds, fitsAll, Bool.and_eq_true]
    exact ⟨d_fits t n (by omega), ds_fits ts n (by omega)⟩
end
mutual
/-- equal as values, equal as terms -/
theorem eqv_tm : ∀ (t u : Tm), eqv t.d u.d = true → t = u
  | .num i, .num j, h => by simp [Tm.d, eqv] at h; rw [h]
  | .num i, .var x, h => by simp [Tm.d, eqv] at h
  | .num i, .rst x, h => by simp [Tm.d, eqv] at h
  | .num i, .app g bs, h => by simp [Tm.d, eqv] at h
  | .var x, .num j, h => by simp [Tm.d, eqv] at h
  | .var x, .var y, h => by
    have h : eqv (.str (vS x)) (.str (vS y)) = true := h
    rw [show x = y by revert h; revert x y; decide +kernel]
  | .var x, .rst y, h => by
    have h : eqv (.str (vS x)) (.str (rS y)) = true := h
    exact absurd h (by revert x y; decide +kernel)
  | .var x, .app g bs, h => by simp [Tm.d, eqv] at h
  | .rst x, .num j, h => by simp [Tm.d, eqv] at h
  | .rst x, .var y, h => by
    have h : eqv (.str (rS x)) (.str (vS y)) = true := h
    exact absurd h (by revert x y; decide +kernel)
  | .rst x, .rst y, h => by
    have h : eqv (.str (rS x)) (.str (rS y)) = true := h
    rw [show x = y by revert h; revert x y; decide +kernel]
  | .rst x, .app g bs, h => by simp [Tm.d, eqv] at h
  | .app h as, .num j, e => by simp [Tm.d, eqv] at e
  | .app h as, .var x, e => by simp [Tm.d, eqv] at e
  | .app h as, .rst x, e => by simp [Tm.d, eqv] at e
  | .app h as, .app g bs, e => by
    simp only [Tm.d, eqv, eqvs, Bool.and_eq_true, Bool.and_true] at e
    have e1 : eqv (.str (hS h)) (.str (hS g)) = true := by simpa only [eqv] using e.1
    have e2 := eqvs_tm as bs e.2
    rw [e2, show h = g by clear e e2; revert e1; revert h g; decide +kernel]
theorem eqvs_tm : ∀ (ts us : List Tm), eqvs (ds ts) (ds us) = true → ts = us
  | [], [], _ => rfl
  | [], u :: us, h => by simp [ds, eqvs] at h
  | t :: ts, [], h => by simp [ds, eqvs] at h
  | t :: ts, u :: us, h => by
    simp only [ds, eqvs, Bool.and_eq_true] at h
    rw [eqv_tm t u h.1, eqvs_tm ts us h.2]
end
end K16
set_option maxHeartbeats 0
/-! k16: standings. -/
namespace K16
open VM Law
open L2 (atI ixN)
theorem ix_app {h : Fin 6} {as : List Tm} : opIx (Tm.app h as).d (.int 1) = some (.dat (.tup (ds as))) := by simp only [Tm.d]; exact ix1
theorem ix_app0 {h : Fin 6} {as : List Tm} : opIx (Tm.app h as).d (.int 0) = some (.dat (.str (hS h))) := by simp only [Tm.d]; exact ix0
mutual
/-- what stands where, from the left -/
def stD : Tm → List D
  | .num _ => []
  | .var x => [.tup [.str "term", .str (vS x)]]
  | .rst x => [.tup [.str "rest", .str (rV x)]]
  | .app h as => (if hV h then [D.tup [.str "head", .str (hS h)]] else []) ++ stDs as
def stDs : List Tm → List D
  | [] => []
  | t :: ts => stD t ++ stDs ts
end
def flg : List Tm → List (Tm × Bool)
  | [] => []
  | t :: ts => (t, ts.isEmpty) :: flg ts
theorem stDs_flat : ∀ ts : List Tm, stDs ts = (flg ts).flatMap fun q => stD q.1
  | [] => by simp [stDs, flg]
  | t :: ts => by
    simp only [stDs, flg, List.flatMap_cons]
    rw [stDs_flat ts]
theorem flg_len : ∀ ts : List Tm, (flg ts).length = ts.length
  | [] => rfl
  | t :: ts => by simp only [flg, List.length_cons, flg_len ts]
theorem flg_sz : ∀ ts : List Tm, ((flg ts).map fun q => sz q.1).sum = szs ts
  | [] => by simp [szs, flg]
  | t :: ts => by
    simp only [szs, flg, List.map_cons, List.sum_cons]
    rw [flg_sz ts]
theorem flg_get : ∀ (ts : List Tm) (j : Nat), (flg ts)[j]? = (ts[j]?).map fun t => (t, decide (j + 1 = ts.length))
  | [], j => by simp [flg]
  | t :: ts, 0 => by
    simp only [flg, List.getElem?_cons_zero, Option.map_some, List.length_cons]
    cases ts <;> simp
  | t :: ts, j + 1 => by
    simp only [flg, List.getElem?_cons_succ, List.length_cons]
    rw [flg_get ts j]
    simp
theorem flg_mem : ∀ {ts : List Tm} {q : Tm × Bool}, q ∈ flg ts → okA ts = true → q.1 ∈ ts ∧ okT q.1 = true ∧ (isR q.1 = true → q.2 = true)
  | [], q, h, _ => by simp [flg] at h
  | t :: ts, q, h, ho => by
    simp only [okA, Bool.and_eq_true, Bool.or_eq_true] at ho
    simp only [flg] at h
    rcases List.mem_cons.mp h with rfl | h
    · refine ⟨List.mem_cons_self, ho.1.1, fun hr => ?_⟩
      rcases ho.1.2 with h | h
      · exact h
      · rw [hr] at h; cases h
    · obtain ⟨h1, h2⟩ := flg_mem h ho.2
      exact ⟨List.mem_cons_of_mem _ h1, h2⟩
def encF (q : Tm × Bool) : D := .tup [q.1.d, .bl q.2]
def kidF (q : Tm × Bool) : List (Tm × Bool) := match q.1 with
  | .app _ as => flg as
  | _ => []
def outF (q : Tm × Bool) : List D := match q.1 with
  | .num _ => []
  | .var x => [.tup [.str "term", (Tm.var x).d]]
  | .rst x => [.tup [.str "rest", .str (rV x)]]
  | .app h _ => if hV h then [.tup [.str "head", .str (hS h)]] else []
theorem rest_cut : ∀ x : Fin 2, opSl (.str (rS x)) (some 1) none = some (.dat (.str (rV x)))
  | 0 => by kernel_rfl
  | 1 => by kernel_rfl
section
variable {n : Nat} {μ : Sto}
theorem ds_get (as : List Tm) (j : Nat) (t : Tm) (h : as[j]? = some t) : opIx (.tup (ds as)) (.int (j : Nat)) = some (.dat t.d) := by
  have hj := (List.getElem?_eq_some_iff.mp h).1
  show (atI (ds as) (j : Nat)).map EV.dat = _
  unfold L2.atI L2.ixN
  rw [if_pos (by omega), if_pos (by rw [ds_len]; omega)]
  simp only [Int.toNat_natCast, Option.bind_some, ds_map, List.getElem?_map, h, Option.map_some]
theorem rest_cut' (x : Fin 2) : opSl (Tm.rst x).d (some 1) none = some (.dat (.str (rV x))) := by simp only [Tm.d]; exact rest_cut x
/-- the places, from the last one on -/
def backS (m : Nat) : List D := (List.range m).map fun i => .int (((m : Int) - 1) + (i : Nat) * (-1))
theorem backS_len (m : Nat) : (backS m).length = m := by unfold backS; rw [List.length_map, List.length_range]
/-- the children, from the last one on -/
theorem lc_back {step : D → Sto → Res (Option D)} {μ : Sto} {as : List Tm} (h : ∀ (j : Nat) (t : Tm), as[j]? = some t → step (.int (j : Nat)) μ = .ok (some (encF (t, decide (j + 1 = as.length)))) μ) (hl : as.length ≤ 900) :
    lcLoop (.vals (backS as.length)) step (as.length + 1) 0 μ = .ok (((flg as).map encF).reverse) μ := by
  unfold backS
  have key : ∀ i, i < as.length → step (.int (((as.length : Int) - 1) + (i : Nat) * (-1))) μ = .ok (((flg as).map encF).reverse[i]?) μ := fun i hi => by
    have e1 : ((as.length : Int) - 1) + (i : Nat) * (-1) = ((as.length - 1 - i : Nat) : Int) := by omega
    have hj : as.length - 1 - i < as.length := by omega
    rw [e1, h _ _ (List.getElem?_eq_getElem hj)]
    rw [List.getElem?_reverse (by rw [List.length_map, flg_len]; exact hi), List.length_map, flg_len, List.getElem?_map, flg_get, List.getElem?_eq_getElem hj]
    rfl
  have e := lc_pure (s := (List.range as.length).map fun i => D.int (((as.length : Int) - 1) + (i : Nat) * (-1))) (step := step) (g := fun d => match step d μ with | .ok o _ => o | _ => none) (μ := μ) (fun d hd => ?_) (as.length + 1) 0 (Nat.zero_le _)
    (by rw [List.length_map, List.length_range]; omega) (by rw [List.length_map, List.length_range]; exact lim1 (by omega))
  · rw [e, List.drop_zero, List.filterMap_map]
    congr 1
    apply List.ext_getElem?
    intro i
    have fm : ∀ (l : List Nat), (∀ i ∈ l, i < as.length) → l.filterMap ((fun d => match step d μ with | .ok o _ => o | _ => none) ∘ fun i => D.int (((as.length : Int) - 1) + (i : Nat) * (-1))) = l.filterMap fun i => ((flg as).map encF).reverse[i]? := by
      intro l
      induction l with
      | nil => intro _; rfl
      | cons a l ih =>
        intro hl
        rw [List.filterMap_cons, List.filterMap_cons, ih fun i hi => hl i (List.mem_cons_of_mem _ hi)]
        simp only [Function.comp]
        rw [key a (hl a List.mem_cons_self)]
    rw [fm _ fun i hi => List.mem_range.mp hi]
    have all : ∀ (ys : List D), (List.range ys.length).filterMap (fun i => ys[i]?) = ys := fun ys => by
      rw [HT.fm_map (g := fun i => ys[i]?.getD .non) fun i hi => ?_]
      · apply List.ext_getElem
        · simp
        · intro i h1 h2
          simp [List.getElem?_eq_getElem h2]
      · have := List.mem_range.mp hi
        rw [List.getElem?_eq_getElem this]; rfl
    have := all ((flg as).map encF).reverse
    rw [List.length_reverse, List.length_map, flg_len] at this
    rw [this]
  · obtain ⟨i, hi, rfl⟩ := List.mem_map.mp hd
    rw [key i (List.mem_range.mp hi)]
theorem s_standings (t : Tm) (ho : okT t = true) (hr : isR t = false) (hs : sz t ≤ 450) : VM.run T (n + 3) 7 [.dat t.d] μ = .ok (.new (.lst (stD t))) μ := by
  rw [run_at (nl := 7) (b := P_standings) (by rfl)]
  unfold P_standings
  have loop := stack_loop (μ := μ) encF outF kidF (fun q => stD q.1) (fun q => 2 * sz q.1) (fun q => okT q.1 = true ∧ (isR q.1 = true → q.2 = true)) (fun ρ => ∃ o0 o3 o4 o5 o6, ρ = [o0, some (.cel μ.length), some (.cel (μ.length + 1)), o3, o4, o5, o6]) 900
    (c := (bCmp (opCmp .NotEq) (eV 2) (eLst (evs []))) (VM.run T (n + 2)))
    (b := (sSeq (sAsg (eCM aPop (eV 2) (evs [])) (gTp [gNm 3, gNm 4])) (sIf (bTru (eCall 3 (evs [eV 3]))) (sDrop (eCM aAppend (eV 1) (evs [eTup (evs [eC (.str "term"), eV 3])]))) (sIf (bAnd (bTru (eV 4)) (bTru (eCall 5 (evs [eV 3])))) (sDrop (eCM aAppend (eV 1) (evs [eTup (evs [eC (.str "rest"), eSl (eV 3) (oSome (eC (.int 1))) (oNone)])]))) (sIf (bAnd (bTru (eCall 6 (evs [eV 3]))) (bAnd (bTru (eCall 4 (evs [eIx (eV 3) (eC (.int 0))]))) (bTru (eIsi .tuple (eIx (eV 3) (eC (.int 1))))))) (sSeq (sIf (bTru (eCall 3 (evs [eIx (eV 3) (eC (.int 0))]))) (sDrop (eCM aAppend (eV 1) (evs [eTup (evs [eC (.str "head"), eIx (eV 3) (eC (.int 0))])]))) (sPass)) (sSeq (sSet 5 (eBin .Sub (eCb bLen (evs [eIx (eV 3) (eC (.int 1))])) (eC (.int 1)))) (sDrop (eCM aExtend (eV 2) (evs [eLc (iRange (evs [eV 5, eNeg (eC (.int 1)), eNeg (eC (.int 1))])) (.nm 6) (bYes) (eTup (evs [eIx (eIx (eV 3) (eC (.int 1))) (eV 6), eCmp (opCmp .Eq) (eV 6) (eV 5)])) [6]]))))) (sIf (bNot (bTru (eCall 0 (evs [eV 3])))) (sRet (eC .non)) (sPass)))))) (VM.run T (n + 2)))
    ?_ ?_ ?_ ?_ ?_ ?_ (2 * sz t) LIM [some (.dat t.d), some (.cel μ.length), some (.cel (μ.length + 1)), none, none, none, none] [] [(t, false)] ⟨_, _, _, _, _, rfl⟩ (by simp [ho, hr]) (by simp) (lim2 (by omega)) (by simp; omega)
  · obtain ⟨ρ', ⟨o0, o3, o4, o5, o6, rfl⟩, e⟩ := loop
    simp [startE]
    simp [stk, encF] at e
    rw [e]
    simp [callEnd, EV.out]
  · rintro ⟨t, l⟩ _
    cases t <;> simp [stD, kidF, outF, stDs_flat, Tm.d]
  · rintro ⟨t, l⟩ _
    cases t <;> simp [sz, kidF]
    rename_i h as _
    have := flg_sz as
    have e : ((flg as).map fun q => 2 * sz q.1).sum = 2 * szs as := by
      rw [← flg_sz as]
      clear this
      generalize flg as = l
      induction l with
      | nil => rfl
      | cons a l ih => simp only [List.map_cons, List.sum_cons, ih]; omega
    omega
  · rintro ⟨t, l⟩ _
    have e : ∀ as : List Tm, ((flg as).map fun q => 2 * sz q.1).sum = 2 * szs as := fun as => by
      rw [← flg_sz as]
      generalize flg as = l
      induction l with
      | nil => rfl
      | cons a l ih => simp only [List.map_cons, List.sum_cons, ih]; omega
    cases t <;> simp [sz, kidF, outF, e]
    rename_i h as _
    split <;> simp <;> omega
  · rintro ⟨t, l⟩ h ⟨t', l'⟩ hy
    cases t <;> simp [kidF] at hy
    rename_i hh as
    obtain ⟨h1, h2⟩ := h
    have h1 : okT (.app hh as) = true := h1
    simp only [okT] at h1
    obtain ⟨m1, m2, m3⟩ := flg_mem hy h1
    exact ⟨m2, m3⟩
  · rintro ρ Fd L ⟨o0, o3, o4, o5, o6, rfl⟩ hg
    simp [stk, EV.see, ne_nil]
  · rintro ρ Fd ⟨t, fl⟩ L ⟨o0, o3, o4, o5, o6, rfl⟩ hg hgl hB
    have hF : Fd.length < LIM := lim2 (by have := sz_pos t; omega)
    cases t with
    | num i => exact ⟨[o0, some (.cel μ.length), some (.cel (μ.length + 1)), some (.dat (Tm.num i).d), some (.dat (.bl fl)), o5, o6], ⟨_, _, _, _, _, rfl⟩, by cases fl <;> simp [stk, encF, s_isVar, isV, s_isRest, isR, s_isApp, isA, s_isInt, isN, kidF, outF]⟩
    | var x => exact ⟨[o0, some (.cel μ.length), some (.cel (μ.length + 1)), some (.dat (Tm.var x).d), some (.dat (.bl fl)), o5, o6], ⟨_, _, _, _, _, rfl⟩, by simp [stk, encF, s_isVar, isV, aAppend_c hF, kidF, outF]⟩
    | rst x =>
      have : fl = true := hg.2 rfl
      subst this
      exact ⟨[o0, some (.cel μ.length), some (.cel (μ.length + 1)), some (.dat (Tm.rst x).d), some (.dat (.bl true)), o5, o6], ⟨_, _, _, _, _, rfl⟩, by simp [stk, encF, s_isVar, isV, s_isRest, isR, aAppend_c hF, kidF, outF, oSome, oNone, rest_cut']⟩
    | app h as =>
      have hB' : Fd.length + 2 * (1 + szs as) + (L.map fun q => 2 * sz q.1).sum ≤ 900 := by simpa only [sz] using hB
      have hl := len_szs as
      have hLl := sum_len (f := fun q : Tm × Bool => 2 * sz q.1) (fun q => by have := sz_pos q.1; omega) L
      have ex := aExtend_c (l := (L.map encF).reverse) (e := ((flg as).map encF).reverse) (by
        rw [List.length_reverse, List.length_reverse, List.length_map, List.length_map, flg_len]
        exact Nat.le_trans (Nat.add_le_add (by omega : L.length ≤ 900) (by omega : as.length ≤ 900)) (by decide))
      have lm : (flg as).length ≤ LIM := by rw [flg_len]; exact lim1 (by omega)
      have rg : rangeOf [.dat (.int ((as.length : Int) - 1)), .dat (.int (-1)), .dat (.int (-1))] = some (.vals (backS as.length)) := by
        have hc : (-1 : Int) = -1 ∧ -1000000 ≤ (-1 : Int) ∧ (-1 : Int) ≤ 1000000 ∧ -1000000 ≤ (as.length : Int) - 1 ∧ (as.length : Int) - 1 ≤ 1000000 := ⟨rfl, by decide, by decide, by omega, by omega⟩
        have hn : ((as.length : Int) - 1 - -1).toNat = as.length := by omega
        unfold rangeOf backS
        exact (if_pos hc).trans (by rw [hn])
      have lc : ∀ Fd', lcLoop (.vals (backS as.length)) (lcStep (VM.run T (n + 2)) (.nm 6) bYes (eTup (evs [eIx (eIx (eV 3) (eC (.int 1))) (eV 6), eCmp (opCmp .Eq) (eV 6) (eV 5)])) (wipeE [o0, some (.cel μ.length), some (.cel (μ.length + 1)), some (.dat (Tm.app h as).d), some (.dat (.bl fl)), some (.dat (.int ((as.length : Int) - 1))), o6] [6])) (as.length + 1) 0
          (μ ++ [⟨true, .lst Fd'⟩, ⟨true, .lst (L.map encF).reverse⟩]) = .ok (((flg as).map encF).reverse) (μ ++ [⟨true, .lst Fd'⟩, ⟨true, .lst (L.map encF).reverse⟩]) := fun Fd' => lc_back (fun j t hj => by
        have e : ((j : Int) == (as.length : Int) - 1) = decide (j + 1 = as.length) := by
          rw [Bool.eq_iff_iff, beq_iff_eq, decide_eq_true_iff]
          omega
        simp [wipeE, asg, ix_app, ds_get as j t hj, opCmp, opEq_int, e, encF]) (by omega)
      refine ⟨[o0, some (.cel μ.length), some (.cel (μ.length + 1)), some (.dat (Tm.app h as).d), some (.dat (.bl fl)), some (.dat (.int ((as.length : Int) - 1))), o6], ⟨_, _, _, _, _, rfl⟩, ?_⟩
      simp only [stk, kidF, List.map_append, List.reverse_append, List.map_cons, List.reverse_cons]
      have subI : ∀ a : Int, opBin .Sub (.int a) (.int 1) = some (.dat (.int (a - 1))) := fun a => rfl
      cases fl <;> cases hv : hV h <;> simp [encF, s_isVar, isV, s_isRest, isR, s_isApp, isA, ix_app, ix_app0, s_isHead, s_headVar, hv, isi, aAppend_c hF, outF, bLen, ds_len, eNeg, rg, backS_len, lc, lm, ex, subI]
end
end K16
set_option maxHeartbeats 0
/-! k16: one sort. -/
namespace K16
open VM Law
open L2 (atI ixN)
/-! one variable, one sort -/
/-- the sort of a name -/
def srt (v : PySem.Str) : PySem.Str := if [vS 0, vS 1, vS 2, vS 3].any (fun x => x.cps.toList == v.cps.toList) then "term" else if [rV 0, rV 1].any (fun x => x.cps.toList == v.cps.toList) then "rest" else "head"
def It (d : D) : Prop := ∃ v : PySem.Str, d = .tup [.str (srt v), .str v] ∧ fits 0 (.str v) = true
theorem srt_v : ∀ x : Fin 4, srt (vS x) = "term" := by decide +kernel
theorem srt_r : ∀ x : Fin 2, srt (rV x) = "rest" := by decide +kernel
theorem srt_h : ∀ x : Fin 6, hV x = true → srt (hS x) = "head" := by decide +kernel
theorem rV_fits (x : Fin 2) (n : Nat) : fits n (.str (rV x)) = true := by
  have : ((rV x).cps.toList.all fun c => decide (c < 0x110000)) = true := by revert x; decide +kernel
  cases n <;> simpa only [fits] using this
mutual
theorem st_it : ∀ (t : Tm) (d : D), d ∈ stD t → It d
  | .num _, d, h => by simp [stD] at h
  | .var x, d, h => by
    simp only [stD, List.mem_singleton] at h
    exact ⟨vS x, by rw [h, srt_v], vS_fits x 0⟩
  | .rst x, d, h => by
    simp only [stD, List.mem_singleton] at h
    exact ⟨rV x, by rw [h, srt_r], rV_fits x 0⟩
  | .app hh as, d, h => by
    simp only [stD] at h
    rcases List.mem_append.mp h with h | h
    · by_cases c : hV hh = true
      · rw [if_pos c, List.mem_singleton] at h
        exact ⟨hS hh, by rw [h, srt_h hh c], hS_fits hh 0⟩
      · rw [if_neg c] at h; simp at h
    · exact sts_it as d h
theorem sts_it : ∀ (ts : List Tm) (d : D), d ∈ stDs ts → It d
  | [], d, h => by simp [stDs] at h
  | t :: ts, d, h => by
    simp only [stDs] at h
    rcases List.mem_append.mp h with h | h
    · exact st_it t d h
    · exact sts_it ts d h
end
mutual
theorem st_len : ∀ t : Tm, (stD t).length ≤ sz t
  | .num _ => by simp [stD, sz]
  | .var x => by simp [stD, sz]
  | .rst x => by simp [stD, sz]
  | .app h as => by
    have := sts_len as
    simp only [stD, sz, List.length_append]
    split
    · simp only [List.length_singleton]; omega
    · simp only [List.length_nil]; omega
theorem sts_len : ∀ ts : List Tm, (stDs ts).length ≤ szs ts
  | [] => by simp [stDs]
  | t :: ts => by
    have h1 := st_len t
    have h2 := sts_len ts
    simp only [stDs, szs, List.length_append]
    omega
end
/-! a dict whose values are told by the keys -/
section
variable {g : L2.Key → D}
theorem dhas_cons (k : L2.Key) (ks : List L2.Key) (j : L2.Key) : dhas (k :: ks) j = (keyEq k j || dhas ks j) := rfl
theorem dget_g : ∀ (ks : List L2.Key) (j : L2.Key), dget ks (ks.map g) j = if dhas ks j = true then some (g j) else none
  | [], j => by simp [dget, dhas]
  | k :: ks, j => by
    have ih := dget_g ks j
    simp only [List.map_cons, dget]
    by_cases c : keyEq k j = true
    · have h : dhas (k :: ks) j = true := by rw [dhas_cons, c, Bool.true_or]
      rw [if_pos c, if_pos h, keyEq_iff.mp c]
    · have c' : keyEq k j = false := by simpa using c
      have h : dhas (k :: ks) j = dhas ks j := by rw [dhas_cons, c', Bool.false_or]
      rw [if_neg c, ih, h]
theorem dput_g : ∀ (ks : List L2.Key) (j : L2.Key), dhas ks j = false → dput ks (ks.map g) j (g j) = (ks ++ [j], (ks ++ [j]).map g)
  | [], j, _ => by simp [dput]
  | k :: ks, j, h => by
    simp only [dhas, List.any_cons, Bool.or_eq_false_iff] at h
    have ih := dput_g ks j (by simpa only [dhas] using h.2)
    simp only [List.map_cons, dput]
    rw [if_neg (by rw [h.1]; decide), ih]
    simp
theorem dhas_app (ks : List L2.Key) (a j : L2.Key) : dhas (ks ++ [a]) j = (dhas ks j || keyEq a j) := by simp [dhas, List.any_append]
theorem keyEq_symm (a b : L2.Key) : keyEq a b = keyEq b a := by
  rw [Bool.eq_iff_iff, keyEq_iff, keyEq_iff]
  exact ⟨Eq.symm, Eq.symm⟩
theorem ndK_app : ∀ (ks : List L2.Key) (j : L2.Key), ndK ks = true → dhas ks j = false → ndK (ks ++ [j]) = true
  | [], j, _, _ => by simp [ndK, dhas]
  | k :: ks, j, h, hj => by
    simp only [ndK, Bool.and_eq_true, Bool.not_eq_true'] at h
    simp only [dhas, List.any_cons, Bool.or_eq_false_iff] at hj
    have ih := ndK_app ks j h.2 (by simpa only [dhas] using hj.2)
    simp only [List.cons_append, ndK, Bool.and_eq_true, Bool.not_eq_true', ih, and_true]
    rw [dhas_app, h.1, Bool.false_or, keyEq_symm, hj.1]
end
def gS (k : L2.Key) : D := match k with
  | .inr v => .str (srt v)
  | _ => .non
section
variable {n : Nat} {μ : Sto}
/-- the loop of have_one_sort, over a list that stands in a cell below -/
theorem one_loop {F : Fns} {ρ : Env} {k : Nat} {Fd : List D} (hk : μ[k]? = some ⟨true, .lst Fd⟩) (hit : ∀ d ∈ Fd, It d) (hl : Fd.length ≤ 900) (o0 : Option SV) : ∀ (m i : Nat) (ks : List L2.Key), i ≤ Fd.length → Fd.length < i + m → ks.length ≤ i → ndK ks = true →
    ∃ ks' : List L2.Key, lcLoop (.cell k) (lcStep F (.tup [.nm 2, .nm 3]) bYes (eCmp (opCmp .Eq) (eSetd (eV 1) (eV 3) (eV 2)) (eV 2)) [o0, some (.cel μ.length), none, none]) m i (μ ++ [⟨true, .dic ks (ks.map gS)⟩]) = .ok (List.replicate (Fd.length - i) (.bl true)) (μ ++ [⟨true, .dic ks' (ks'.map gS)⟩])
  | 0, i, ks, h1, h2, _, _ => by omega
  | m + 1, i, ks, h1, h2, h3, h4 => by
    have hkl : k < μ.length := (List.getElem?_eq_some_iff.mp hk).1
    have hat : (Src.cell k).at (μ ++ [⟨true, .dic ks (ks.map gS)⟩]) = some Fd := by
      simp only [Src.at]
      rw [List.getElem?_append_left hkl, hk]
    unfold lcLoop
    rw [hat]
    simp only
    cases e : Fd[i]? with
    | none =>
      have : Fd.length ≤ i := List.getElem?_eq_none_iff.mp e
      refine ⟨ks, ?_⟩
      rw [show Fd.length - i = 0 by omega]; rfl
    | some d =>
      have hi : i < Fd.length := (List.getElem?_eq_some_iff.mp e).1
      obtain ⟨v, rfl, hv⟩ := hit d (List.mem_of_getElem? e)
      simp only
      rw [if_pos (show i < LIM from lim2 (by omega))]
      have hks : ks.length < LIM := lim2 (by omega)
      have eqs : ∀ s : PySem.Str, opEq (.str s) (.str s) = some true := fun s => by simp [opEq, opEq0, txEq]
      by_cases c : dhas ks (.inr v) = true
      · obtain ⟨ks', ih⟩ := one_loop (F := F) (ρ := ρ) hk hit hl o0 m (i + 1) ks (by omega) (by omega) (by omega) h4
        refine ⟨ks', ?_⟩
        have st : lcStep F (.tup [.nm 2, .nm 3]) bYes (eCmp (opCmp .Eq) (eSetd (eV 1) (eV 3) (eV 2)) (eV 2)) [o0, some (.cel μ.length), none, none] (.tup [.str (srt v), .str v]) (μ ++ [⟨true, .dic ks (ks.map gS)⟩]) = .ok (some (.bl true)) (μ ++ [⟨true, .dic ks (ks.map gS)⟩]) := by
          simp [asg, asgs, eSetd, EV.see, D.key, h4, hks, dget_g, c, gS, opCmp, eqs]
        rw [st, Res.bind_ok, ih, Res.bind_ok]
        rw [show Fd.length - i = (Fd.length - (i + 1)) + 1 by omega, List.replicate_succ]
      · have c' : dhas ks (.inr v) = false := by simpa using c
        obtain ⟨ks', ih⟩ := one_loop (F := F) (ρ := ρ) hk hit hl o0 m (i + 1) (ks ++ [.inr v]) (by omega) (by omega) (by rw [List.length_append]; simp; omega) (ndK_app ks _ h4 c')
        refine ⟨ks', ?_⟩
        have pg := dput_g (g := gS) ks (Sum.inr v : L2.Key) c'
        have pg1 : (dput ks (ks.map gS) (Sum.inr v : L2.Key) (.str (srt v))).1 = ks ++ [(Sum.inr v : L2.Key)] := by rw [show D.str (srt v) = gS (Sum.inr v : L2.Key) from rfl, pg]
        have pg2 : (dput ks (ks.map gS) (Sum.inr v : L2.Key) (.str (srt v))).2 = (ks ++ [(Sum.inr v : L2.Key)]).map gS := by rw [show D.str (srt v) = gS (Sum.inr v : L2.Key) from rfl, pg]
        have st : lcStep F (.tup [.nm 2, .nm 3]) bYes (eCmp (opCmp .Eq) (eSetd (eV 1) (eV 3) (eV 2)) (eV 2)) [o0, some (.cel μ.length), none, none] (.tup [.str (srt v), .str v]) (μ ++ [⟨true, .dic ks (ks.map gS)⟩]) = .ok (some (.bl true)) (μ ++ [⟨true, .dic (ks ++ [Sum.inr v]) ((ks ++ [(Sum.inr v : L2.Key)]).map gS)⟩]) := by
          simp only [x_step, asg, asgs, List.length_cons, List.length_nil]
          simp [eSetd, EV.see, D.key, h4, hks, dget_g, c', pg1, pg2, opCmp, eqs]
        rw [st, Res.bind_ok, ih, Res.bind_ok]
        rw [show Fd.length - i = (Fd.length - (i + 1)) + 1 by omega, List.replicate_succ]
theorem bls_rep (m : Nat) : bls (List.replicate m (.bl true)) = some (List.replicate m true) := by
  induction m with
  | zero => rfl
  | succ m ih => simp only [List.replicate_succ, bls, ih]; rfl
theorem s_oneSort {k : Nat} {Fd : List D} (hk : μ[k]? = some ⟨true, .lst Fd⟩) (hit : ∀ d ∈ Fd, It d) (hl : Fd.length ≤ 900) : VM.run T (n + 1) 8 [.cel k] μ = .ok (.dat (.bl true)) μ := by
  rw [run_at (nl := 4) (b := P_have_one_sort) (by rfl)]
  unfold P_have_one_sort
  have hkl : k < μ.length := (List.getElem?_eq_some_iff.mp hk).1
  obtain ⟨ks', e⟩ := one_loop (F := VM.run T n) (ρ := []) hk hit hl (some (.cel k)) (Fd.length + 1) 0 [] (Nat.zero_le _) (by omega) (Nat.zero_le _) rfl
  have sl : (Src.cell k).len (μ ++ [⟨true, .dic [] []⟩]) = Fd.length := by
    simp only [Src.len, Src.at]
    rw [List.getElem?_append_left hkl, hk]
  have so : srcOf (.cel k) (μ ++ [⟨true, .dic [] []⟩]) = some (.cell k) := by
    simp only [srcOf]
    rw [List.getElem?_append_left hkl, hk]
  have hr : Fd.length ≤ LIM := lim1 (by omega)
  simp only [List.map_nil, Nat.sub_zero] at e
  simp [startE, so, sl, wipeE, e, hr, bAll, bls_rep, callEnd, EV.out]
end
end K16
set_option maxHeartbeats 0
/-! k16: terms are wanted; their variables. -/
namespace K16
open VM Law
open L2 (atI ixN)
/-- a term -/
structure Good (t : Tm) : Prop where
  ok : okT t = true
  nr : isR t = false
  dp : dep t ≤ 25
  sz : K16.sz t ≤ 450
section
variable {n : Nat} {μ : Sto} {t : Tm}
theorem isnot_lst {l : List D} : opCmp .IsNot (.lst l) .non = some true := rfl
theorem s_isTerm (h : Good t) : VM.run T (n + 4) 12 [.dat t.d] μ = .ok (.dat (.bl true)) μ := by
  rw [run_at (nl := 2) (b := P_is_term) (by rfl)]
  unfold P_is_term
  have e := s_oneSort (n := n + 2) (μ := μ ++ [⟨true, .lst (stD t)⟩]) (k := μ.length) (Fd := stD t) (by simp) (fun d hd => st_it t d hd) (Nat.le_trans (st_len t) (Nat.le_trans h.sz (by decide)))
  simp [startE, s_standings t h.ok h.nr h.sz, EV.see, isnot_lst, e, callEnd, EV.out]
theorem s_want (h : Good t) : VM.run T (n + 5) 13 [.dat t.d] μ = .ok (.dat t.d) μ := by
  rw [run_at (nl := 1) (b := P_want_term) (by rfl)]
  unfold P_want_term
  simp [startE, s_isTerm h, callEnd, EV.out]
end
/-! variables, each once -/
def kOf : D → L2.Key
  | .tup [_, .str v] => .inr v
  | _ => .inl 0
def hasV (acc : List D) (d : D) : Bool := dhas (acc.map kOf) (kOf d)
def uq : List D → List D → List D
  | acc, [] => acc
  | acc, d :: l => if hasV acc d then uq acc l else uq (acc ++ [d]) l
section
variable {n : Nat} {μ : Sto}
def gT' (_ : L2.Key) : D := .bl true
def dicV (acc : List D) : CV := .dic (acc.map kOf) ((acc.map kOf).map gT')
theorem vars_loop {F : Fns} (o0 : Option SV) {Fd : List D} (hit : ∀ d ∈ Fd, It d) (hl : Fd.length ≤ 450) : ∀ (m i : Nat) (acc : List D) (o3 o4 : Option SV), i ≤ Fd.length → Fd.length < i + m → acc.length ≤ i → ndK (acc.map kOf) = true → (∀ d ∈ acc, It d) →
    ∃ o3' o4' ks', forL F (.vals Fd) (gTp [gNm 3, gNm 4]) (sIf (bCmp (opCmp .NotIn) (eV 4) (eV 2)) (sSeq (sDrop (eCM aAppend (eV 1) (evs [eTup (evs [eV 3, eV 4])]))) (sAsg (eC (.bl true)) (gSb (eV 2) (eV 4)))) (sPass)) m i [o0, some (.cel μ.length), some (.cel (μ.length + 1)), o3, o4] (μ ++ [⟨true, .lst acc⟩, ⟨true, dicV acc⟩]) =
      .ok (.nx [o0, some (.cel μ.length), some (.cel (μ.length + 1)), o3', o4']) (μ ++ [⟨true, .lst (uq acc (Fd.drop i))⟩, ks'])
  | 0, i, acc, o3, o4, h1, h2, _, _, _ => by omega
  | m + 1, i, acc, o3, o4, h1, h2, h3, h4, h5 => by
    unfold forL
    simp only [src_vals]
    cases e : Fd[i]? with
    | none =>
      have : Fd.length ≤ i := List.getElem?_eq_none_iff.mp e
      refine ⟨o3, o4, ⟨true, dicV acc⟩, ?_⟩
      rw [List.drop_eq_nil_of_le this]; rfl
    | some d =>
      have hi : i < Fd.length := (List.getElem?_eq_some_iff.mp e).1
      have hdi := hit d (List.mem_of_getElem? e)
      have ed : Fd.drop i = d :: Fd.drop (i + 1) := by
        rw [List.drop_eq_getElem_cons hi]
        congr 1
        exact (List.getElem?_eq_some_iff.mp e).2
      obtain ⟨v, rfl, hv⟩ := hdi
      rw [ed]
      by_cases c : hasV acc (.tup [.str (srt v), .str v]) = true
      · obtain ⟨o3', o4', ks', ih⟩ := vars_loop (F := F) o0 hit hl m (i + 1) acc (some (.dat (.str (srt v)))) (some (.dat (.str v))) (by omega) (by omega) (by omega) h4 h5
        refine ⟨o3', o4', ks', ?_⟩
        have c2 : opCmp .NotIn (.str v) (dicV acc).toD = some false := by
          have c' : dhas (acc.map kOf) (Sum.inr v) = true := c
          show (some (dhas (acc.map kOf) (Sum.inr v))).map (!·) = _
          rw [c']; rfl
        simp only [uq, c, if_true]
        simp [EV.see, c2, ih]
      · have c' : hasV acc (.tup [.str (srt v), .str v]) = false := by simpa using c
        have c3 : dhas (acc.map kOf) (Sum.inr v : L2.Key) = false := c'
        have em : (acc ++ [D.tup [.str (srt v), .str v]]).map kOf = acc.map kOf ++ [(Sum.inr v : L2.Key)] := by simp [kOf]
        obtain ⟨o3', o4', ks', ih⟩ := vars_loop (F := F) o0 hit hl m (i + 1) (acc ++ [.tup [.str (srt v), .str v]]) (some (.dat (.str (srt v)))) (some (.dat (.str v))) (by omega) (by omega) (by simp; omega)
          (by rw [em]; exact ndK_app _ _ h4 c3) (fun d hd => (List.mem_append.mp hd).elim (h5 d) fun hd => ⟨v, List.mem_singleton.mp hd, hv⟩)
        refine ⟨o3', o4', ks', ?_⟩
        have c2 : opCmp .NotIn (.str v) (dicV acc).toD = some true := by
          show (some (dhas (acc.map kOf) (Sum.inr v))).map (!·) = _
          rw [c3]; rfl
        have hF : acc.length < LIM := lim2 (by omega)
        have pg := dput_g (g := gT') (acc.map kOf) (Sum.inr v : L2.Key) c3
        have pt : putAt (dicV acc) (.str v) (.bl true) = some (dicV (acc ++ [.tup [.str (srt v), .str v]])) := by
          unfold dicV
          rw [em]
          have hk : (ndK (acc.map kOf) && decide ((acc.map kOf).length < LIM)) = true := by rw [h4, Bool.true_and, List.length_map]; exact decide_eq_true hF
          simp only [putAt, D.key, hk, if_true]
          show some (CV.dic (dput (acc.map kOf) ((acc.map kOf).map gT') (Sum.inr v) (gT' (Sum.inr v))).1 (dput (acc.map kOf) ((acc.map kOf).map gT') (Sum.inr v) (gT' (Sum.inr v))).2) = _
          rw [pg]
        simp only [uq, c', Bool.false_eq_true, if_false]
        simp [EV.see, c2, aAppend_c hF, gSb, pt, ih]
theorem s_vars_of0 {t : Tm} (h : Good t) : VM.run T (n + 4) 10 [.dat t.d] μ = .ok (.new (.lst (uq [] (stD t)))) μ := by
  rw [run_at (nl := 5) (b := P_variables_of) (by rfl)]
  unfold P_variables_of
  have hl := Nat.le_trans (st_len t) h.sz
  obtain ⟨o3', o4', ks', e⟩ := vars_loop (F := VM.run T (n + 3)) (μ := μ) (some (.dat t.d)) (fun d hd => st_it t d hd) hl ((stD t).length + 1) 0 [] none none (Nat.zero_le _) (by omega) (Nat.zero_le _) rfl (fun d hd => by simp at hd)
  simp only [List.drop_zero] at e
  have dv : CV.dic [] [] = dicV [] := rfl
  simp [startE, dv, s_standings t h.ok h.nr h.sz, e, callEnd, EV.out]
end
/-! the variables as keys -/
inductive Kv where
  | v (x : Fin 4) | h (x : Fin 6) | r (x : Fin 2)
  deriving DecidableEq
def pn : Kv → PySem.Str
  | .v x => vS x
  | .h x => hS x
  | .r x => rV x
def pS : Kv → PySem.Str
  | .v _ => "term"
  | .h _ => "head"
  | .r _ => "rest"
def kD (k : Kv) : D := .tup [.str (pS k), .str (pn k)]
mutual
/-- the variables as they stand -/
def ky : Tm → List Kv
  | .num _ => []
  | .var x => [.v x]
  | .rst x => [.r x]
  | .app h as => (if hV h then [.h h] else []) ++ kys as
def kys : List Tm → List Kv
  | [] => []
  | t :: ts => ky t ++ kys ts
end
mutual
theorem st_ky : ∀ t : Tm, stD t = (ky t).map kD
  | .num _ => by simp [stD, ky]
  | .var x => by simp [stD, ky, kD, pS, pn]
  | .rst x => by simp [stD, ky, kD, pS, pn]
  | .app h as => by
    simp only [stD, ky, List.map_append, sts_ky as]
    cases hV h <;> simp [kD, pS, pn]
theorem sts_ky : ∀ ts : List Tm, stDs ts = (kys ts).map kD
  | [] => by simp [stDs, kys]
  | t :: ts => by simp only [stDs, kys, List.map_append, st_ky t, sts_ky ts]
end
theorem pn_eq : ∀ a b : Kv, keyEq (.inr (pn a)) (.inr (pn b)) = decide (a = b)
  | .v x, .v y => by revert x y; decide +kernel
  | .v x, .h y => by revert x y; decide +kernel
  | .v x, .r y => by revert x y; decide +kernel
  | .h x, .v y => by revert x y; decide +kernel
  | .h x, .h y => by revert x y; decide +kernel
  | .h x, .r y => by revert x y; decide +kernel
  | .r x, .v y => by revert x y; decide +kernel
  | .r x, .h y => by revert x y; decide +kernel
  | .r x, .r y => by revert x y; decide +kernel
def uqK : List Kv → List Kv → List Kv
  | acc, [] => acc
  | acc, k :: l => if k ∈ acc then uqK acc l else uqK (acc ++ [k]) l
/-- the unlike variables, by first standing -/
def vars (t : Tm) : List Kv := uqK [] (ky t)
theorem kOf_kD (k : Kv) : kOf (kD k) = .inr (pn k) := rfl
theorem dhas_pn : ∀ (acc : List Kv) (k : Kv), dhas (acc.map fun a => (.inr (pn a) : L2.Key)) (.inr (pn k)) = decide (k ∈ acc)
  | [], k => by simp [dhas]
  | a :: acc, k => by
    rw [List.map_cons, dhas_cons, pn_eq, dhas_pn acc k]
    by_cases h : k = a
    · subst h; simp
    · have : ¬ a = k := fun e => h e.symm
      simp [h, this]
theorem uq_kD : ∀ (l acc : List Kv), uq (acc.map kD) (l.map kD) = (uqK acc l).map kD
  | [], acc => by simp [uq, uqK]
  | k :: l, acc => by
    have hh : hasV (acc.map kD) (kD k) = decide (k ∈ acc) := by
      unfold hasV
      rw [kOf_kD, List.map_map]
      exact dhas_pn acc k
    simp only [List.map_cons, uq, uqK, hh]
    by_cases c : k ∈ acc
    · simp only [c, decide_true, if_true]; exact uq_kD l acc
    · simp only [c, decide_false, Bool.false_eq_true, if_false]
      rw [show acc.map kD ++ [kD k] = (acc ++ [k]).map kD by simp]
      exact uq_kD l _
section
variable {n : Nat} {μ : Sto}
theorem s_vars_of {t : Tm} (h : Good t) : VM.run T (n + 4) 10 [.dat t.d] μ = .ok (.new (.lst ((vars t).map kD))) μ := by
  rw [s_vars_of0 h, st_ky, show ([] : List D) = ([] : List Kv).map kD from rfl, uq_kD]; rfl
end
mutual
theorem ky_len : ∀ t : Tm, (ky t).length ≤ sz t
  | .num _ => by simp [ky]
  | .var x => by simp [ky, sz]
  | .rst x => by simp [ky, sz]
  | .app h as => by
    have := kys_len as
    simp only [ky, sz, List.length_append]
    cases hV h <;> simp <;> omega
theorem kys_len : ∀ ts : List Tm, (kys ts).length ≤ szs ts
  | [] => by simp [kys]
  | t :: ts => by
    have := ky_len t
    have := kys_len ts
    simp only [kys, szs, List.length_append]; omega
end
theorem uqK_len : ∀ (l acc : List Kv), (uqK acc l).length ≤ acc.length + l.length
  | [], acc => by simp [uqK]
  | k :: l, acc => by
    unfold uqK
    split
    · have := uqK_len l acc; simp; omega
    · have := uqK_len l (acc ++ [k]); simp at this; simp; omega
theorem uqK_mem : ∀ (l acc : List Kv) (k : Kv), k ∈ uqK acc l ↔ k ∈ acc ∨ k ∈ l
  | [], acc, k => by simp [uqK]
  | a :: l, acc, k => by
    unfold uqK
    by_cases c : a ∈ acc
    · rw [if_pos c, uqK_mem l acc k, List.mem_cons]
      exact ⟨fun h => h.elim .inl fun h => .inr (.inr h), fun h => h.elim .inl fun h => h.elim (fun h => .inl (h ▸ c)) .inr⟩
    · rw [if_neg c, uqK_mem l _ k, List.mem_append, List.mem_singleton, List.mem_cons, or_assoc]
theorem uqK_nd : ∀ (l acc : List Kv), acc.Nodup → (uqK acc l).Nodup
  | [], acc, h => h
  | a :: l, acc, h => by
    unfold uqK
    by_cases c : a ∈ acc
    · rw [if_pos c]; exact uqK_nd l acc h
    · rw [if_neg c]
      refine uqK_nd l _ ?_
      rw [List.nodup_append]
      exact ⟨h, by simp, fun x hx y hy => by rw [List.mem_singleton.mp hy]; exact fun e => c (e ▸ hx)⟩
theorem vars_mem {t : Tm} {k : Kv} : k ∈ vars t ↔ k ∈ ky t := by unfold vars; rw [uqK_mem]; simp
theorem vars_nd (t : Tm) : (vars t).Nodup := uqK_nd _ _ List.nodup_nil
theorem vars_len (t : Tm) : (vars t).length ≤ sz t := by
  have := uqK_len (ky t) []
  have := ky_len t
  unfold vars
  simp at *
  omega
end K16
set_option maxHeartbeats 0
/-! k16: comprehensions, nodes. -/
namespace K16
open VM Law
open L2 (atI ixN)
def cL (l : List D) : Cell := ⟨true, .lst l⟩
theorem toInts_map : ∀ l : List Int, toInts (l.map .int) = some l
  | [] => rfl
  | a :: l => by simp only [List.map_cons, toInts, toInts_map l]; rfl
theorem sum_cast : ∀ l : List Nat, (l.map fun n : Nat => (n : Int)).sum = ((l.sum : Nat) : Int)
  | [] => rfl
  | a :: l => by simp only [List.map_cons, List.sum_cons, sum_cast l]; omega
theorem bSum_nat (l : List Nat) : bSum [.lst (l.map fun n : Nat => .int (n : Nat))] = some (.dat (.int ((l.sum : Nat) : Int))) := by
  have e : l.map (fun n : Nat => D.int (n : Nat)) = (l.map fun n : Nat => (n : Int)).map .int := by rw [List.map_map]; rfl
  rw [e]
  show (toInts _).map _ = _
  rw [toInts_map, ← sum_cast]; rfl
theorem lc_src {μ : Sto} {S : Src} {s : List D} {step : D → Sto → Res (Option D)} (h : S.at μ = some s) (hs : ∀ d ∈ s, ∃ o, step d μ = .ok o μ) : ∀ (m i : Nat), lcLoop S step m i μ = lcLoop (.vals s) step m i μ
  | 0, i => by unfold lcLoop; rfl
  | m + 1, i => by
    unfold lcLoop
    rw [h]
    simp only [src_vals]
    cases e : s[i]? with
    | none => rfl
    | some d =>
      obtain ⟨o, e1⟩ := hs d (List.mem_of_getElem? e)
      simp only [e1, Res.bind_ok]
      rw [lc_src h hs m (i + 1)]
theorem lc_enc {μ : Sto} {α : Type} {enc : α → D} {S : Src} {Q : List α} {step : D → Sto → Res (Option D)} {f : α → D} {c : α → Bool} (hS : S.at μ = some (Q.map enc)) (h : ∀ q ∈ Q, step (enc q) μ = .ok (if c q then some (f q) else none) μ) (hl : Q.length ≤ 5000) :
    lcLoop S step (Q.length + 1) 0 μ = .ok ((Q.filter c).map f) μ := by
  rw [lc_src hS (fun d hd => by
    obtain ⟨q, hq, rfl⟩ := List.mem_map.mp hd
    exact ⟨_, h q hq⟩)]
  have e := lc_pure (s := Q.map enc) (step := step) (g := fun d => match step d μ with | .ok o _ => o | _ => none) (μ := μ) (fun d hd => by
    obtain ⟨q, hq, rfl⟩ := List.mem_map.mp hd
    rw [h q hq]) (Q.length + 1) 0 (Nat.zero_le _) (by rw [List.length_map]; omega) (by rw [List.length_map]; exact lim1 (by omega))
  rw [e, List.drop_zero]
  congr 1
  clear e hl hS
  induction Q with
  | nil => rfl
  | cons q Q ih =>
    simp only [List.map_cons, List.filterMap_cons, h q List.mem_cons_self]
    rw [ih fun u hu => h u (List.mem_cons_of_mem _ hu)]
    cases hc : c q <;> simp [List.filter_cons, hc]
theorem flt_all {α : Type} (l : List α) : l.filter (fun _ => true) = l := List.filter_eq_self.mpr (by simp)
section
variable {n : Nat} {μ : Sto}
theorem take_set {X : Sto} {j : Nat} {c : Cell} : (X.set j c).take j = X.take j := by
  rw [List.take_set_of_le (Nat.le_refl _)]
theorem take_app {X E : Sto} {j : Nat} (h : j ≤ X.length) : (X ++ E).take j = X.take j := List.take_append_of_le_length h
theorem isT (t : Tm) : isi .tuple t.d = isA t := by cases t <;> rfl
theorem isS (t : Tm) : isi .str t.d = (isV t || isR t) := by cases t <;> rfl
/-! the law's own -/
theorem l_nodes : ∀ (m : Nat) (t : Tm) (μ : Sto), dep t ≤ m → sz t ≤ 2000 → VM.run T (m + n) 31 [.dat t.d] μ = .ok (.dat (.int (sz t : Nat))) μ
  | 0, t, μ, h, _ => by have := dep_pos t; omega
  | m + 1, t, μ, h, hs => by
    rw [show m + 1 + n = (m + n) + 1 by omega, run_at (nl := 2) (b := P__law_nodes) (by rfl)]
    unfold P__law_nodes
    cases t with
    | num i => simp [startE, isT, isA, sz, callEnd, EV.out]
    | var i => simp [startE, isT, isA, sz, callEnd, EV.out]
    | rst i => simp [startE, isT, isA, sz, callEnd, EV.out]
    | app hh as =>
      simp only [dep] at h
      simp only [sz] at hs
      have hl := len_szs as
      have lc := lc_enc (μ := μ) (S := .vals (ds as)) (enc := Tm.d) (Q := as) (step := lcStep (VM.run T (m + n)) (.nm 1) bYes (eCall 31 (evs [eV 1])) [some (.dat (Tm.app hh as).d), none]) (f := fun a => .int ((sz a : Nat) : Int)) (c := fun _ => true)
        (by rw [src_vals, ds_map]) (fun q hq => by
          have e := l_nodes m q μ (by have := deps_mem hq; omega) (by have := szs_mem hq; omega)
          simp [asg, e]) (by omega)
      rw [flt_all, ← ds_len as] at lc
      have lim : as.length ≤ LIM := lim1 (by omega)
      have bs := bSum_nat (as.map sz)
      rw [List.map_map, ← szs_sum] at bs
      have e2 : ((fun n : Nat => D.int (n : Nat)) ∘ sz) = fun a => D.int ((sz a : Nat) : Int) := rfl
      rw [e2] at bs
      have ic : ((sz (.app hh as) : Nat) : Int) = 1 + (szs as : Nat) := by simp only [sz]; omega
      rw [ic]
      simp [startE, isT, isA, ix_app, wipeE, lc, lim, bs, addI, callEnd, EV.out]
end
/-- what is put in for a variable -/
inductive Bv where
  | t (x : Tm) | h (x : Fin 6) | l (as : List Tm)
def Bv.d : Bv → D
  | .t x => x.d
  | .h x => .str (hS x)
  | .l as => .tup (ds as)
def sb : Kv → Bv → Bool
  | .v _, .t _ => true
  | .h _, .h _ => true
  | .r _, .l _ => true
  | _, _ => false
def zb : Bv → Nat
  | .t x => sz x
  | .h _ => 1
  | .l as => szs as
end K16
set_option maxHeartbeats 0
/-! k16: the law's variables and grade. -/
namespace K16
open VM Law
open L2 (atI ixN)
theorem for_inv {α : Type} {enc : α → D} {Q : List α} {F : Fns} {p : SG} {b : SS} (Inv : List α → Env → Sto → Prop) (Out : EV → Sto → Prop)
    (h : ∀ q Q' ρ X, q ∈ Q → Inv (q :: Q') ρ X → ∃ ρ1 X1, p (enc q) F ρ X = .ok ρ1 X1 ∧ ((∃ ρ2 X2, b F ρ1 X1 = .ok (.nx ρ2) X2 ∧ Inv Q' ρ2 X2) ∨ ∃ v X2, b F ρ1 X1 = .ok (.rt v) X2 ∧ Out v X2)) :
    ∀ (m i : Nat) (ρ : Env) (X : Sto), Inv (Q.drop i) ρ X → i ≤ Q.length → Q.length < i + m →
      (∃ ρ' X', forL F (.vals (Q.map enc)) p b m i ρ X = .ok (.nx ρ') X' ∧ Inv [] ρ' X') ∨ ∃ v X', forL F (.vals (Q.map enc)) p b m i ρ X = .ok (.rt v) X' ∧ Out v X'
  | 0, i, ρ, X, _, h1, h2 => by omega
  | m + 1, i, ρ, X, hI, h1, h2 => by
    unfold forL
    simp only [src_vals, List.getElem?_map]
    cases e : Q[i]? with
    | none =>
      have : Q.length ≤ i := List.getElem?_eq_none_iff.mp e
      rw [List.drop_eq_nil_of_le this] at hI
      exact .inl ⟨ρ, X, rfl, hI⟩
    | some q =>
      obtain ⟨hi, eq⟩ := List.getElem?_eq_some_iff.mp e
      have hdr : Q.drop i = q :: Q.drop (i + 1) := by rw [← eq]; exact (List.drop_eq_getElem_cons hi)
      rw [hdr] at hI
      obtain ⟨ρ1, X1, e1, h3⟩ := h q _ ρ X (List.mem_of_getElem? e) hI
      rcases h3 with ⟨ρ2, X2, e2, hI2⟩ | ⟨v, X2, e2, ho⟩
      · have ih := for_inv Inv Out h m (i + 1) ρ2 X2 hI2 (by omega) (by omega)
        simp only [Option.map_some, e1, Res.bind_ok, e2]
        exact ih
      · simp only [Option.map_some, e1, Res.bind_ok, e2]
        exact .inr ⟨v, X2, rfl, ho⟩
def ln : Kv → PySem.Str
  | .v x => vS x
  | .h x => hS x
  | .r x => rS x
def lD (k : Kv) : D := .str (ln k)
theorem ln_eqv : ∀ a b : Kv, eqv (lD a) (lD b) = decide (a = b)
  | .v x, .v y => by revert x y; decide +kernel
  | .v x, .h y => by revert x y; decide +kernel
  | .v x, .r y => by revert x y; decide +kernel
  | .h x, .v y => by revert x y; decide +kernel
  | .h x, .h y => by revert x y; decide +kernel
  | .h x, .r y => by revert x y; decide +kernel
  | .r x, .v y => by revert x y; decide +kernel
  | .r x, .h y => by revert x y; decide +kernel
  | .r x, .r y => by revert x y; decide +kernel
theorem ln_fits (k : Kv) (n : Nat) : fits n (lD k) = true := by
  cases k with
  | v x => exact vS_fits x n
  | h x => exact hS_fits x n
  | r x => exact rS_fits x n
theorem ln_fitsAll : ∀ (l : List Kv) (n : Nat), fitsAll n (l.map lD) = true
  | [], n => by simp [fitsAll]
  | k :: l, n => by simp only [List.map_cons, fitsAll, ln_fits k n, ln_fitsAll l n, Bool.and_self]
theorem any_ln (k : Kv) : ∀ l : List Kv, (l.map lD).any (fun d => eqv d (lD k)) = decide (k ∈ l)
  | [] => by simp
  | a :: l => by
    rw [List.map_cons, List.any_cons, ln_eqv, any_ln k l]
    by_cases h : a = k
    · subst h; simp
    · have : ¬ k = a := fun e => h e.symm
      simp [h, this]
theorem in_ln (k : Kv) (l : List Kv) : opCmp .In (lD k) (.lst (l.map lD)) = some (decide (k ∈ l)) := by
  have h1 := ln_fits k 64
  have h2 := ln_fitsAll l 63
  simp only [opCmp, VM.opIn]
  rw [h1, h2, if_pos (by rfl), any_ln]
theorem notin_ln (k : Kv) (l : List Kv) : opCmp .NotIn (lD k) (.lst (l.map lD)) = some (!decide (k ∈ l)) := by
  have := in_ln k l
  simp only [opCmp] at this ⊢
  rw [this]; rfl
theorem in_GH : ∀ h : Fin 6, opCmp .In (.str (hS h)) (.lst [.str "G", .str "H"]) = some (hV h) := by decide +kernel
/-- a told list, in a cell or not -/
def Sq (sv : SV) (L : List D) (μ : Sto) : Prop := sv = .dat (.lst L) ∨ ∃ k, sv = .cel k ∧ μ[k]? = some ⟨true, .lst L⟩
theorem Sq.see {sv : SV} {L : List D} {μ : Sto} (h : Sq sv L μ) : sv.ev.see μ = some (.lst L) := by
  rcases h with rfl | ⟨k, rfl, hk⟩
  · rfl
  · simp only [EV.see, ev_cel]
    rw [hk]; rfl
theorem Sq.app {sv : SV} {L : List D} {μ : Sto} (h : Sq sv L μ) (E : Sto) : Sq sv L (μ ++ E) := by
  rcases h with rfl | ⟨k, rfl, hk⟩
  · exact .inl rfl
  · have hkl : k < μ.length := (List.getElem?_eq_some_iff.mp hk).1
    exact .inr ⟨k, rfl, by rw [List.getElem?_append_left hkl, hk]⟩
def Rt (μ : Sto) (sv : SV) (L : List D) (r : EV) : Prop := (r = sv.ev ∧ Sq sv L μ) ∨ r = .new (.lst L)
theorem uqK_app : ∀ (a b acc : List Kv), uqK acc (a ++ b) = uqK (uqK acc a) b
  | [], b, acc => rfl
  | k :: a, b, acc => by
    simp only [List.cons_append, uqK]
    by_cases c : k ∈ acc
    · rw [if_pos c, if_pos c, uqK_app a b]
    · rw [if_neg c, if_neg c, uqK_app a b]
section
variable {n : Nat} {μ : Sto}
theorem addL {xs ys : List D} (h : xs.length + ys.length ≤ 5000) : opBin .Add (.lst xs) (.lst ys) = some (.new (.lst (xs ++ ys))) := if_pos (lim1 h)
/-- while the args are gone through: slot 1 holds the list -/
def VI (μ : Sto) (sv : SV) (o0 : Option SV) (acc : List Kv) (ts : List Tm) (ρ : Env) (X : Sto) : Prop :=
  ∃ (pre : List Kv) (sv1 : SV) (o2 : Option SV), ρ = [o0, some sv1, o2] ∧ X.take μ.length = μ ∧ μ.length ≤ X.length ∧ uqK pre (kys ts) = acc ∧ Sq sv1 (pre.map lD) X ∧ (sv1 = sv ∨ ∃ k, sv1 = .cel k ∧ μ.length ≤ k) ∧ pre.length + szs ts ≤ 900
theorem sq_old {sv : SV} {L L' : List D} {X : Sto} (tk : X.take μ.length = μ) (hs : ∃ L0, Sq sv L0 μ) (h : Sq sv L X) : Sq sv L μ := by
  obtain ⟨L0, h0⟩ := hs
  rcases h0 with rfl | ⟨k, rfl, hk⟩
  · rcases h with h | ⟨k, h, _⟩
    · exact .inl h
    · cases h
  · have hkl : k < μ.length := (List.getElem?_eq_some_iff.mp hk).1
    rcases h with h | ⟨k', h, hk'⟩
    · cases h
    · cases h
      refine .inr ⟨k, rfl, ?_⟩
      rw [← tk, List.getElem?_take, if_pos hkl, hk']
theorem l_vars : ∀ (m : Nat) (t : Tm) (μ : Sto) (sv : SV) (acc : List Kv), dep t ≤ m → Sq sv (acc.map lD) μ → acc.length + sz t ≤ 900 → ∃ r, VM.run T (m + n) 33 [.dat t.d, sv] μ = .ok r μ ∧ Rt μ sv ((uqK acc (ky t)).map lD) r
  | 0, t, μ, sv, acc, h, _, _ => by have := dep_pos t; omega
  | m + 1, t, μ, sv, acc, h, hq, hs => by
    rw [show m + 1 + n = (m + n) + 1 by omega, run_at (nl := 3) (b := P__law_variables) (by rfl)]
    unfold P__law_variables
    have out : ∀ (r : EV) (L : List D) (X : Sto), X.take μ.length = μ → (r = sv.ev ∧ Sq sv L μ ∨ r = .new (.lst L)) → callEnd μ.length (.ok (.rt r) X) = .ok r μ := fun r L X tk hr => by
      rcases hr with ⟨rfl, hq⟩ | rfl
      · rcases hq with rfl | ⟨k, rfl, hk⟩
        · simp [callEnd, EV.out, tk]
        · have hkl : k < μ.length := (List.getElem?_eq_some_iff.mp hk).1
          simp [callEnd, EV.out, tk, hkl]
      · simp [callEnd, EV.out, tk]
    have leaf : ∀ k : Kv, isi .str t.d = true → t.d = lD k → ky t = [k] → ∃ r, callEnd μ.length (P__law_variables (VM.run T (m + n)) (startE 3 [.dat t.d, sv]) μ) = .ok r μ ∧ Rt μ sv ((uqK acc (ky t)).map lD) r := fun k hst hd hk => by
      unfold P__law_variables
      have hin := in_ln k acc
      have he := hq.see
      rw [hk]
      simp only [uqK]
      rw [hd] at hst ⊢
      by_cases c : k ∈ acc
      · rw [if_pos c]
        have o := out sv.ev _ μ (by simp) (.inl ⟨rfl, hq⟩)
        refine ⟨sv.ev, ?_, .inl ⟨rfl, hq⟩⟩
        simp [startE, hst, he, hin, c, o]
      · rw [if_neg c]
        have ad := addL (xs := acc.map lD) (ys := [lD k]) (by rw [List.length_map]; simp; omega)
        refine ⟨.new (.lst ((acc ++ [k]).map lD)), ?_, .inr rfl⟩
        simp [startE, hst, he, hin, c, ad, callEnd, EV.out]
    cases t with
    | num i => exact ⟨sv.ev, by simp [startE, isT, isS, isV, isR, isA, out sv.ev _ μ (by simp) (.inl ⟨rfl, hq⟩)], .inl ⟨rfl, hq⟩⟩
    | var x => exact leaf (.v x) rfl rfl rfl
    | rst x => exact leaf (.r x) rfl rfl rfl
    | app hh as =>
      simp only [dep] at h
      simp only [sz] at hs
      clear leaf
      have loop : ∀ (pre : List Kv) (sv1 : SV) (X : Sto), X.take μ.length = μ → μ.length ≤ X.length → uqK pre (kys as) = uqK acc (ky (.app hh as)) → Sq sv1 (pre.map lD) X → (sv1 = sv ∨ ∃ k, sv1 = .cel k ∧ μ.length ≤ k) → pre.length + szs as ≤ 900 →
          ∃ r sv2 o2 X', forL (VM.run T (m + n)) (.vals (ds as)) (gNm 2) (sSet 1 (eCall 33 (evs [eV 2, eV 1]))) (as.length + 1) 0 [some (.dat (Tm.app hh as).d), some sv1, none] X = .ok (.nx [some (.dat (Tm.app hh as).d), some sv2, o2]) X' ∧
            callEnd μ.length (.ok (.rt sv2.ev) X') = .ok r μ ∧ Rt μ sv ((uqK acc (ky (.app hh as))).map lD) r := fun pre sv1 X h1 h2 h3 h4 h5 h6 => by
        have fi := for_inv (enc := Tm.d) (Q := as) (F := VM.run T (m + n)) (p := gNm 2) (b := sSet 1 (eCall 33 (evs [eV 2, eV 1]))) (VI μ sv (some (.dat (Tm.app hh as).d)) (uqK acc (ky (.app hh as)))) (fun _ _ => False) (fun q Q' ρ X hq' hI => by
          obtain ⟨pre, sv1, o2, rfl, g1, g2, g3, g4, g5, g6⟩ := hI
          simp only [kys] at g3
          simp only [szs] at g6
          obtain ⟨r, e, hr⟩ := l_vars m q X sv1 pre (by have := deps_mem hq'; omega) g4 (by omega)
          have ul := uqK_len (ky q) pre
          have kl := ky_len q
          refine ⟨[some (.dat (Tm.app hh as).d), some sv1, some (.dat q.d)], X, rfl, .inl ?_⟩
          rcases hr with ⟨rfl, hr⟩ | rfl
          · refine ⟨[some (.dat (Tm.app hh as).d), some sv1, some (.dat q.d)], X, ?_, uqK pre (ky q), sv1, _, rfl, g1, g2, by rw [← uqK_app]; exact g3, hr, g5, by omega⟩
            rcases hr with rfl | ⟨k, rfl, _⟩ <;> simp only [ev_dat, ev_cel] at e <;> simp [e]
          · refine ⟨[some (.dat (Tm.app hh as).d), some (.cel X.length), some (.dat q.d)], X ++ [cL ((uqK pre (ky q)).map lD)], ?_, uqK pre (ky q), .cel X.length, _, rfl, by rw [take_app g2, g1], by rw [List.length_append]; omega, by rw [← uqK_app]; exact g3, .inr ⟨_, rfl, by simp [cL]⟩, .inr ⟨_, rfl, g2⟩, by omega⟩
            rcases g4 with rfl | ⟨k, rfl, _⟩ <;> simp [e, cL]) (as.length + 1) 0 [some (.dat (Tm.app hh as).d), some sv1, none] X ⟨pre, sv1, none, rfl, h1, h2, by rw [List.drop_zero]; exact h3, h4, h5, h6⟩ (Nat.zero_le _) (by omega)
        rcases fi with ⟨ρ', X', e, pre', sv2, o2, rfl, g1, g2, g3, g4, g5, g6⟩ | ⟨v, X', e, hf⟩
        · rw [← ds_map] at e
          simp only [kys, uqK] at g3
          rw [g3] at g4
          rcases g5 with rfl | ⟨k, rfl, hk⟩
          · have hr := sq_old (L' := []) g1 ⟨_, hq⟩ g4
            exact ⟨sv2.ev, sv2, o2, X', e, out _ _ _ g1 (.inl ⟨rfl, hr⟩), .inl ⟨rfl, hr⟩⟩
          · rcases g4 with g4 | ⟨k', g4, hk'⟩
            · cases g4
            · cases g4
              exact ⟨.new (.lst ((uqK acc (ky (.app hh as))).map lD)), .cel k, o2, X', e, by simp [callEnd, EV.out, Nat.not_lt.mpr hk, hk', g1], .inr rfl⟩
        · exact hf.elim
      have gh := in_GH hh
      have ni := notin_ln (.h hh) acc
      have he := hq.see
      have kd : lD (Kv.h hh) = .str (hS hh) := rfl
      rw [kd] at ni
      by_cases c : hV hh = true ∧ Kv.h hh ∉ acc
      · have ad := addL (xs := acc.map lD) (ys := [lD (Kv.h hh)]) (by rw [List.length_map]; simp; omega)
        obtain ⟨r, sv2, o2, X', e, e2, hr⟩ := loop (acc ++ [Kv.h hh]) (.cel μ.length) (μ ++ [cL ((acc ++ [Kv.h hh]).map lD)]) (by simp) (by simp) (by simp [ky, c.1, uqK, c.2]) (.inr ⟨_, rfl, by simp [cL]⟩) (.inr ⟨_, rfl, Nat.le_refl _⟩) (by simp; omega)
        refine ⟨r, ?_, hr⟩
        simp only [kd] at ad
        simp only [cL, List.map_append, List.map_cons, List.map_nil, kd] at e
        simp [startE, isT, isS, isV, isR, isA, ix_app0, ix_app, gh, c.1, c.2, he, ni, ad, ds_len, e, e2]
      · have hu : uqK acc (kys as) = uqK acc (ky (.app hh as)) := by
          simp only [ky]
          by_cases c1 : hV hh = true
          · have : Kv.h hh ∈ acc := Classical.byContradiction fun c2 => c ⟨c1, c2⟩
            simp [c1, uqK, this]
          · simp [c1]
        obtain ⟨r, sv2, o2, X', e, e2, hr⟩ := loop acc sv μ (by simp) (Nat.le_refl _) hu hq (.inl rfl) (by omega)
        refine ⟨r, ?_, hr⟩
        by_cases c1 : hV hh = true
        · have c2 : Kv.h hh ∈ acc := Classical.byContradiction fun c2 => c ⟨c1, c2⟩
          simp [startE, isT, isS, isV, isR, isA, ix_app0, ix_app, gh, c1, c2, he, ni, ds_len, e, e2]
        · simp [startE, isT, isS, isV, isR, isA, ix_app0, ix_app, gh, c1, ds_len, e, e2]
theorem l_vars0 {m : Nat} {t : Tm} (h : dep t ≤ m) (hs : sz t ≤ 900) : ∃ r, VM.run T (m + n) 33 [.dat t.d, .dat (.lst [])] μ = .ok r μ ∧ (r = .dat (.lst ((vars t).map lD)) ∨ r = .new (.lst ((vars t).map lD))) := by
  obtain ⟨r, e, hr⟩ := l_vars (n := n) m t μ (.dat (.lst [])) [] h (.inl rfl) (by simpa using hs)
  refine ⟨r, e, ?_⟩
  rcases hr with ⟨rfl, h | ⟨k, h, _⟩⟩ | rfl
  · left
    injection h with h1
    injection h1 with h2
    rw [show vars t = uqK [] (ky t) from rfl, ← h2]; rfl
  · cases h
  · exact .inr rfl
end
end K16
set_option maxHeartbeats 0
/-! k16: what matching asks; fillings found. -/
namespace K16
open VM Law
open L2 (atI ixN)
abbrev AL := List (Kv × Bv)
mutual
/-- what a pattern asks of its variables -/
def cs : Tm → Tm → Option AL
  | .num i, .num j => if i = j then some [] else none
  | .num _, _ => none
  | .var x, t => some [(.v x, .t t)]
  | .rst x, t => none
  | .app h as, .app g bs => (if hV h then some [(Kv.h h, Bv.h g)] else if h = g then some [] else none).bind fun l => (csa as bs).map (l ++ ·)
  | .app _ _, _ => none
def csa : List Tm → List Tm → Option AL
  | [], bs => if bs.isEmpty then some [] else none
  | a :: as, bs => if isR a then (match a with
      | .rst x => some [(.r x, .l bs)]
      | _ => none) else match bs with
    | [] => none
    | b :: bs => if isR b then none else (cs a b).bind fun l => (csa as bs).map (l ++ ·)
end
def csz : List (Tm × Tm) → Option AL
  | [] => some []
  | (a, b) :: r => if isR b then none else (cs a b).bind fun l => (csz r).map (l ++ ·)
/-- args without a rest, or with one behind -/
theorem okA_split : ∀ {as : List Tm}, okA as = true → (∀ a ∈ as, isR a = false) ∨ ∃ ps x, as = ps ++ [.rst x] ∧ ∀ a ∈ ps, isR a = false
  | [], _ => .inl (by simp)
  | a :: as, h => by
    simp only [okA, Bool.and_eq_true] at h
    rcases okA_split h.2 with h1 | ⟨ps, x, rfl, h1⟩
    · cases ha : isR a with
      | false => exact .inl fun b hb => (List.mem_cons.mp hb).elim (fun e => e ▸ ha) (h1 b)
      | true =>
        have : as = [] := by
          have := h.1.2
          rw [ha] at this
          simpa using this
        subst this
        cases a <;> simp [isR] at ha
        exact .inr ⟨[], _, rfl, by simp⟩
    · refine .inr ⟨a :: ps, x, rfl, fun b hb => (List.mem_cons.mp hb).elim (fun e => ?_) (h1 b)⟩
      subst e
      have := h.1.2
      simpa using this
theorem csa_pl : ∀ (ps bs : List Tm), (∀ a ∈ ps, isR a = false) → csa ps bs = if bs.length = ps.length then csz (ps.zip bs) else none
  | [], [], _ => by simp [csa, csz]
  | [], b :: bs, _ => by simp [csa]
  | a :: as, [], h => by simp [csa, h a List.mem_cons_self]
  | a :: as, b :: bs, h => by
    have ih := csa_pl as bs fun c hc => h c (List.mem_cons_of_mem _ hc)
    simp only [csa, h a List.mem_cons_self, Bool.false_eq_true, if_false, List.zip_cons_cons, csz, List.length_cons, ih]
    by_cases c : bs.length = as.length
    · simp [c]
    · simp [c]
theorem csa_rs (x : Fin 2) : ∀ (ps bs : List Tm), (∀ a ∈ ps, isR a = false) → csa (ps ++ [.rst x]) bs = if bs.length < ps.length then none else (csz (ps.zip bs)).map (· ++ [(Kv.r x, Bv.l (bs.drop ps.length))])
  | [], bs, _ => by simp [csa, csz, isR]
  | a :: as, [], h => by simp [csa, h a List.mem_cons_self]
  | a :: as, b :: bs, h => by
    have ih := csa_rs x as bs fun c hc => h c (List.mem_cons_of_mem _ hc)
    simp only [List.cons_append, csa, h a List.mem_cons_self, Bool.false_eq_true, if_false, List.zip_cons_cons, csz, List.length_cons, ih, List.drop_succ_cons]
    by_cases c : bs.length < as.length
    · simp [c]
    · have : ¬ bs.length + 1 < as.length + 1 := by omega
      simp only [c, this, if_false]
      split
      · rfl
      · cases cs a b <;> simp
        cases csz (as.zip bs) <;> simp
/-! fillings found -/
def look : AL → Kv → Option Bv
  | [], _ => none
  | (a, b) :: A, k => if a = k then some b else look A k
def add1 (A : AL) (k : Kv) (b : Bv) : Option AL := match look A k with
  | some c => if eqv c.d b.d then some A else none
  | none => some (A ++ [(k, b)])
def addA : AL → AL → Option AL
  | A, [] => some A
  | A, (k, b) :: l => (add1 A k b).bind fun A => addA A l
theorem addA_app : ∀ (l l' A : AL), addA A (l ++ l') = (addA A l).bind fun A => addA A l'
  | [], l', A => rfl
  | (k, b) :: l, l', A => by
    simp only [List.cons_append, addA]
    cases add1 A k b with
    | none => rfl
    | some A1 => simp only [Option.bind_some]; exact addA_app l l' A1
theorem look_none : ∀ (A : AL) (k : Kv), look A k = none ↔ k ∉ A.map (·.1)
  | [], k => by simp [look]
  | (a, b) :: A, k => by
    have ih := look_none A k
    simp only [look, List.map_cons, List.mem_cons, not_or]
    by_cases c : a = k
    · simp [c]
    · have : ¬ k = a := fun e => c e.symm
      simp [c, ih, this]
theorem look_mem : ∀ {A : AL} {k : Kv} {b : Bv}, look A k = some b → (k, b) ∈ A
  | (a, b') :: A, k, b, h => by
    simp only [look] at h
    by_cases c : a = k
    · rw [if_pos c] at h; cases h; rw [c]; exact List.mem_cons_self
    · rw [if_neg c] at h; exact List.mem_cons_of_mem _ (look_mem h)
theorem look_of : ∀ {A : AL} {k : Kv} {b : Bv}, (A.map (·.1)).Nodup → (k, b) ∈ A → look A k = some b
  | (a, b') :: A, k, b, h, hm => by
    simp only [List.map_cons, List.nodup_cons] at h
    simp only [look]
    rcases List.mem_cons.mp hm with e | hm
    · cases e; simp
    · have : a ≠ k := fun e => h.1 (e ▸ List.mem_map.mpr ⟨_, hm, rfl⟩)
      rw [if_neg this]; exact look_of h.2 hm
/-- all is as it should be -/
structure GA (A : AL) : Prop where
  nd : (A.map (·.1)).Nodup
  sb : ∀ q ∈ A, sb q.1 q.2 = true
  ft : ∀ q ∈ A, fits 64 q.2.d = true
  zb : ∀ q ∈ A, zb q.2 ≤ 450
theorem GA.nil : GA [] := ⟨List.nodup_nil, by simp, by simp, by simp⟩
theorem nd_len {l : List Kv} (h : l.Nodup) : l.length ≤ 12 :=
  List.Nodup.length_le_of_subset (l₂ := [.v 0, .v 1, .v 2, .v 3, .h 0, .h 1, .h 2, .h 3, .h 4, .h 5, .r 0, .r 1]) h fun k _ => by
    have h1 : ∀ x : Fin 4, Kv.v x ∈ [Kv.v 0, .v 1, .v 2, .v 3, .h 0, .h 1, .h 2, .h 3, .h 4, .h 5, .r 0, .r 1] := by decide
    have h2 : ∀ x : Fin 6, Kv.h x ∈ [Kv.v 0, .v 1, .v 2, .v 3, .h 0, .h 1, .h 2, .h 3, .h 4, .h 5, .r 0, .r 1] := by decide
    have h3 : ∀ x : Fin 2, Kv.r x ∈ [Kv.v 0, .v 1, .v 2, .v 3, .h 0, .h 1, .h 2, .h 3, .h 4, .h 5, .r 0, .r 1] := by decide
    cases k with
    | v x => exact h1 x
    | h x => exact h2 x
    | r x => exact h3 x
theorem GA.len {A : AL} (h : GA A) : A.length ≤ 12 := by
  have := nd_len h.nd
  simpa using this
theorem GA.app {A : AL} {k : Kv} {b : Bv} (h : GA A) (hk : look A k = none) (h1 : K16.sb k b = true) (h2 : fits 64 b.d = true) (h3 : K16.zb b ≤ 450) : GA (A ++ [(k, b)]) := by
  refine ⟨?_, fun q hq => ?_, fun q hq => ?_, fun q hq => ?_⟩
  · rw [List.map_append, List.nodup_append]
    refine ⟨h.nd, by simp, fun x hx y hy e => ?_⟩
    have : y = k := by simpa using hy
    exact (look_none A k).mp hk (this ▸ e ▸ hx)
  all_goals rcases List.mem_append.mp hq with hq | hq
  · exact h.sb q hq
  · rw [List.mem_singleton.mp hq]; exact h1
  · exact h.ft q hq
  · rw [List.mem_singleton.mp hq]; exact h2
  · exact h.zb q hq
  · rw [List.mem_singleton.mp hq]; exact h3
theorem GA.add1 {A A' : AL} {k : Kv} {b : Bv} (h : GA A) (e : add1 A k b = some A') (h1 : K16.sb k b = true) (h2 : fits 64 b.d = true) (h3 : K16.zb b ≤ 450) : GA A' := by
  unfold K16.add1 at e
  cases c : look A k with
  | none => rw [c] at e; cases e; exact h.app c h1 h2 h3
  | some d =>
    rw [c] at e
    simp only at e
    split at e
    · cases e; exact h
    · cases e
/-- what is asked is of the right sort and size -/
def OC (l : AL) : Prop := ∀ q ∈ l, sb q.1 q.2 = true ∧ fits 64 q.2.d = true ∧ zb q.2 ≤ 450
theorem GA.addA : ∀ {l A A' : AL}, GA A → OC l → addA A l = some A' → GA A'
  | [], A, A', h, _, e => by cases e; exact h
  | (k, b) :: l, A, A', h, ho, e => by
    obtain ⟨h1, h2, h3⟩ := ho _ List.mem_cons_self
    simp only [K16.addA] at e
    cases c : K16.add1 A k b with
    | none => rw [c] at e; cases e
    | some A1 =>
      rw [c] at e
      exact GA.addA (h.add1 c h1 h2 h3) (fun q hq => ho q (List.mem_cons_of_mem _ hq)) e
/-- equal as values, equal -/
theorem bv_eq {k : Kv} {b c : Bv} (hb : sb k b = true) (hc : sb k c = true) (h : eqv b.d c.d = true) : b = c := by
  cases k <;> cases b <;> simp [sb] at hb <;> cases c <;> simp [sb] at hc
  · rw [eqv_tm _ _ h]
  · rename_i x y
    have : ∀ x y : Fin 6, eqv (.str (hS x)) (.str (hS y)) = true → x = y := by decide +kernel
    rw [this x y h]
  · rename_i x y
    simp only [Bv.d, eqv] at h
    rw [eqvs_tm _ _ h]
mutual
theorem eqv_refl_tm : ∀ t : Tm, eqv t.d t.d = true
  | .num i => by simp [Tm.d, eqv]
  | .var x => by have : ∀ x, eqv (.str (vS x)) (.str (vS x)) = true := by decide +kernel
                 exact this x
  | .rst x => by have : ∀ x, eqv (.str (rS x)) (.str (rS x)) = true := by decide +kernel
                 exact this x
  | .app h as => by
    have h1 : ∀ x : Fin 6, eqv (.str (hS x)) (.str (hS x)) = true := by decide +kernel
    simp only [Tm.d, eqv, eqvs, eqvs_refl_tm as, Bool.and_true]
    exact h1 h
theorem eqvs_refl_tm : ∀ ts : List Tm, eqvs (ds ts) (ds ts) = true
  | [] => by simp [ds, eqvs]
  | t :: ts => by simp only [ds, eqvs, eqv_refl_tm t, eqvs_refl_tm ts, Bool.and_true]
end
theorem bv_refl (b : Bv) : eqv b.d b.d = true := by
  cases b with
  | t x => exact eqv_refl_tm x
  | h x => revert x; decide +kernel
  | l as => simp only [Bv.d, eqv]; exact eqvs_refl_tm as
/-! no two values -/
def Cons (l : AL) : Prop := ∀ k b c, (k, b) ∈ l → (k, c) ∈ l → b = c
theorem add1_spec {A : AL} {k : Kv} {b : Bv} (h : GA A) (hb : sb k b = true) :
    (∃ A', add1 A k b = some A' ∧ (∀ q, q ∈ A' ↔ q ∈ A ∨ q = (k, b)) ∧ (A' = A ∨ A' = A ++ [(k, b)]) ∧ A'.map (·.1) = uqK (A.map (·.1)) [k]) ∨ (add1 A k b = none ∧ ∃ c, (k, c) ∈ A ∧ c ≠ b) := by
  unfold add1
  cases c : look A k with
  | none =>
    refine .inl ⟨_, rfl, fun q => by simp, .inr rfl, ?_⟩
    have := (look_none A k).mp c
    simp [uqK] at this ⊢
    simp [this]
  | some d =>
    have hm := look_mem c
    have hd := h.sb _ hm
    simp only
    by_cases e : eqv d.d b.d = true
    · have : d = b := bv_eq hd hb e
      subst this
      refine .inl ⟨A, by rw [if_pos e], fun q => ⟨.inl, fun hq => hq.elim id fun e => e ▸ hm⟩, .inl rfl, ?_⟩
      have : k ∈ A.map (·.1) := List.mem_map.mpr ⟨_, hm, rfl⟩
      simp [uqK] at this ⊢
      simp [this]
    · refine .inr ⟨by rw [if_neg e], d, hm, fun z => e ?_⟩
      rw [z]; exact bv_refl b
theorem addA_spec : ∀ (l A : AL), GA A → OC l →
    (∃ A', addA A l = some A' ∧ (∀ q, q ∈ A' ↔ q ∈ A ∨ q ∈ l) ∧ A'.map (·.1) = uqK (A.map (·.1)) (l.map (·.1))) ∨ (addA A l = none ∧ ¬ Cons (A ++ l))
  | [], A, h, _ => .inl ⟨A, rfl, by simp, rfl⟩
  | (k, b) :: l, A, h, ho => by
    obtain ⟨h1, h2, h3⟩ := ho _ List.mem_cons_self
    simp only [addA]
    rcases add1_spec (b := b) h h1 with ⟨A1, e1, m1, _, k1⟩ | ⟨e1, c, hc, hne⟩
    · rw [e1, Option.bind_some]
      rcases addA_spec l A1 (h.add1 e1 h1 h2 h3) (fun q hq => ho q (List.mem_cons_of_mem _ hq)) with ⟨A', e2, m2, k2⟩ | ⟨e2, hn⟩
      · refine .inl ⟨A', e2, fun q => by rw [m2, m1, List.mem_cons, or_assoc], ?_⟩
        rw [k2, k1, ← uqK_app]; rfl
      · refine .inr ⟨e2, fun hc => hn fun k' b' c' hb' hc' => hc k' b' c' ?_ ?_⟩
        · simp only [List.mem_append, m1, List.mem_cons] at hb' ⊢
          rcases hb' with (hb' | hb') | hb'
          · exact .inl hb'
          · exact .inr (.inl hb')
          · exact .inr (.inr hb')
        · simp only [List.mem_append, m1, List.mem_cons] at hc' ⊢
          rcases hc' with (hb' | hb') | hb'
          · exact .inl hb'
          · exact .inr (.inl hb')
          · exact .inr (.inr hb')
    · rw [e1]
      exact .inr ⟨rfl, fun hC => hne (hC k c b (List.mem_append.mpr (.inl hc)) (List.mem_append.mpr (.inr List.mem_cons_self)))⟩
theorem ga_cons {A : AL} (h : GA A) : Cons A := fun k b c hb hc => by
  have h1 := look_of h.nd hb
  have h2 := look_of h.nd hc
  rw [h1] at h2; cases h2; rfl
/-! what is asked stands within the term -/
theorem fit_t {t : Tm} (h : dep t ≤ 25) : fits 64 (Bv.t t).d = true := d_fits t 64 (by omega)
theorem fit_l {bs : List Tm} (h : deps bs ≤ 25) : fits 64 (Bv.l bs).d = true := by
  have := ds_fits bs 63 (by omega)
  simpa only [Bv.d, fits] using this
theorem fit_h (x : Fin 6) : fits 64 (Bv.h x).d = true := hS_fits x 64
mutual
theorem cs_oc : ∀ {p t : Tm} {l : AL}, cs p t = some l → dep t ≤ 25 → sz t ≤ 450 → OC l
  | .num i, .num j, l, e, _, _ => by
    simp only [cs] at e
    split at e
    · cases e; intro q hq; cases hq
    · cases e
  | .num _, .var _, l, e, _, _ => by cases e
  | .num _, .rst _, l, e, _, _ => by cases e
  | .num _, .app _ _, l, e, _, _ => by cases e
  | .var x, t, l, e, h1, h2 => by
    simp only [cs] at e
    cases e
    intro q hq
    rw [List.mem_singleton.mp hq]
    exact ⟨rfl, fit_t h1, h2⟩
  | .rst x, t, l, e, _, _ => by simp [cs] at e
  | .app h as, .num _, l, e, _, _ => by cases e
  | .app h as, .var _, l, e, _, _ => by cases e
  | .app h as, .rst _, l, e, _, _ => by cases e
  | .app h as, .app g bs, l, e, h1, h2 => by
    simp only [dep] at h1
    simp only [sz] at h2
    simp only [cs] at e
    cases e2 : csa as bs with
    | none => rw [e2] at e; split at e <;> simp at e
    | some l2 =>
      have o2 := csa_oc e2 (by omega) (by omega)
      rw [e2] at e
      split at e
      · simp at e
        cases e
        intro q hq
        rcases List.mem_cons.mp hq with rfl | hq
        · exact ⟨rfl, fit_h g, by show (1 : Nat) ≤ 450; omega⟩
        · exact o2 q hq
      · split at e
        · simp at e; cases e; exact o2
        · simp at e
theorem csa_oc : ∀ {ps ts : List Tm} {l : AL}, csa ps ts = some l → deps ts ≤ 25 → szs ts ≤ 450 → OC l
  | [], ts, l, e, _, _ => by
    simp only [csa] at e
    split at e
    · cases e; intro q hq; cases hq
    · cases e
  | a :: as, [], l, e, h1, h2 => by
    simp only [csa] at e
    split at e
    · cases a with
      | rst x =>
        simp at e
        cases e
        intro q hq
        rw [List.mem_singleton.mp hq]
        exact ⟨rfl, fit_l h1, h2⟩
      | _ => simp at e
    · cases e
  | a :: as, b :: bs, l, e, h1, h2 => by
    simp only [csa] at e
    split at e
    · cases a with
      | rst x =>
        simp at e
        cases e
        intro q hq
        rw [List.mem_singleton.mp hq]
        exact ⟨rfl, fit_l h1, h2⟩
      | _ => simp at e
    · simp only [deps] at h1
      simp only [szs] at h2
      split at e
      · cases e
      · cases e1 : cs a b with
        | none => rw [e1] at e; simp at e
        | some l1 =>
          cases e2 : csa as bs with
          | none => rw [e1, e2] at e; simp at e
          | some l2 =>
            rw [e1, e2] at e
            simp at e
            cases e
            have o1 := cs_oc e1 (by omega) (by omega)
            have o2 := csa_oc e2 (by omega) (by omega)
            intro q hq
            exact (List.mem_append.mp hq).elim (o1 q) (o2 q)
end
mutual
/-- the variables come in their sequence -/
theorem cs_ky : ∀ {p t : Tm} {l : AL}, cs p t = some l → okT p = true → l.map (·.1) = ky p
  | .num i, .num j, l, e, _ => by
    simp only [cs] at e
    split at e
    · cases e; rfl
    · cases e
  | .num _, .var _, l, e, _ => by cases e
  | .num _, .rst _, l, e, _ => by cases e
  | .num _, .app _ _, l, e, _ => by cases e
  | .var x, t, l, e, _ => by simp only [cs] at e; cases e; rfl
  | .rst x, t, l, e, _ => by simp [cs] at e
  | .app h as, .num _, l, e, _ => by cases e
  | .app h as, .var _, l, e, _ => by cases e
  | .app h as, .rst _, l, e, _ => by cases e
  | .app h as, .app g bs, l, e, ho => by
    simp only [okT] at ho
    simp only [cs] at e
    cases e2 : csa as bs with
    | none => rw [e2] at e; split at e <;> simp at e
    | some l2 =>
      have o2 := csa_ky e2 ho
      rw [e2] at e
      split at e
      · rename_i hv
        simp at e
        subst e
        simp [ky, hv, ← o2]
      · rename_i hv
        split at e
        · simp at e; subst e; simp [ky, hv, ← o2]
        · simp at e
theorem csa_ky : ∀ {ps ts : List Tm} {l : AL}, csa ps ts = some l → okA ps = true → l.map (·.1) = kys ps
  | [], ts, l, e, _ => by
    simp only [csa] at e
    split at e
    · cases e; simp [kys]
    · cases e
  | a :: as, [], l, e, ho => by
    simp only [csa] at e
    split at e
    · rename_i hr
      simp only [okA, Bool.and_eq_true, hr] at ho
      have : as = [] := by simpa using ho.1.2
      subst this
      cases a with
      | rst x =>
        simp at e
        cases e
        simp [kys, ky]
      | _ => simp at e
    · cases e
  | a :: as, b :: bs, l, e, ho => by
    simp only [csa] at e
    split at e
    · rename_i hr
      simp only [okA, Bool.and_eq_true, hr] at ho
      have : as = [] := by simpa using ho.1.2
      subst this
      cases a with
      | rst x =>
        simp at e
        cases e
        simp [kys, ky]
      | _ => simp at e
    · simp only [okA, Bool.and_eq_true] at ho
      split at e
      · cases e
      · cases e1 : cs a b with
        | none => rw [e1] at e; simp at e
        | some l1 =>
          cases e2 : csa as bs with
          | none => rw [e1, e2] at e; simp at e
          | some l2 =>
            rw [e1, e2] at e
            simp at e
            cases e
            have o1 := cs_ky e1 ho.1.1
            have o2 := csa_ky e2 ho.2
            simp only [kys, List.map_append, o1, o2]
end
/-- what matching finds -/
def Mt (p t : Tm) : Option AL := (cs p t).bind (addA [])
theorem mt_ga {p t : Tm} {A : AL} (h : Mt p t = some A) (h1 : dep t ≤ 25) (h2 : sz t ≤ 450) : GA A := by
  unfold Mt at h
  cases e : cs p t with
  | none => rw [e] at h; cases h
  | some l => rw [e] at h; exact GA.nil.addA (cs_oc e h1 h2) h
theorem mt_keys {p t : Tm} {A : AL} (h : Mt p t = some A) (ho : okT p = true) (h1 : dep t ≤ 25) (h2 : sz t ≤ 450) : A.map (·.1) = vars p := by
  unfold Mt at h
  cases e : cs p t with
  | none => rw [e] at h; cases h
  | some l =>
    rw [e] at h
    rcases addA_spec l [] GA.nil (cs_oc e h1 h2) with ⟨A', e2, _, k2⟩ | ⟨e2, _⟩
    · simp only [Option.bind_some] at h
      rw [h] at e2; cases e2
      rw [k2, cs_ky e ho]; rfl
    · simp only [Option.bind_some] at h
      rw [h] at e2; cases e2
theorem mt_mem {p t : Tm} {A : AL} (h : Mt p t = some A) (h1 : dep t ≤ 25) (h2 : sz t ≤ 450) : ∃ l, cs p t = some l ∧ Cons l ∧ ∀ q, q ∈ A ↔ q ∈ l := by
  have g := mt_ga h h1 h2
  unfold Mt at h
  cases e : cs p t with
  | none => rw [e] at h; cases h
  | some l =>
    rw [e] at h
    rcases addA_spec l [] GA.nil (cs_oc e h1 h2) with ⟨A', e2, m2, k2⟩ | ⟨e2, _⟩
    · simp only [Option.bind_some] at h
      rw [h] at e2; cases e2
      have m : ∀ q, q ∈ A ↔ q ∈ l := fun q => by rw [m2]; simp
      exact ⟨l, rfl, fun k b c hb hc => ga_cons g k b c ((m _).mpr hb) ((m _).mpr hc), m⟩
    · simp only [Option.bind_some] at h
      rw [h] at e2; cases e2
theorem mt_none {p t : Tm} (h : Mt p t = none) (h1 : dep t ≤ 25) (h2 : sz t ≤ 450) : ∀ l, cs p t = some l → ¬ Cons l := fun l e => by
  unfold Mt at h
  rw [e] at h
  rcases addA_spec l [] GA.nil (cs_oc e h1 h2) with ⟨A', e2, m2, k2⟩ | ⟨e2, hn⟩
  · simp only [Option.bind_some] at h
    rw [h] at e2; cases e2
  · exact hn
end K16
set_option maxHeartbeats 0
/-! k16: the law's own matching. -/
namespace K16
open VM Law
open L2 (atI ixN)
def Nm (f : Kv → PySem.Str) : Prop := ∀ a b, keyEq (.inr (f a)) (.inr (f b)) = decide (a = b)
theorem nm_pn : Nm pn := pn_eq
def dKs (f : Kv → PySem.Str) (A : AL) : List L2.Key := A.map fun q => .inr (f q.1)
def dVs (A : AL) : List D := A.map fun q => q.2.d
def dD (f : Kv → PySem.Str) (A : AL) : CV := .dic (dKs f A) (dVs A)
section
variable {f : Kv → PySem.Str}
theorem dhasA (hf : Nm f) (k : Kv) : ∀ A : AL, dhas (dKs f A) (.inr (f k)) = (look A k).isSome
  | [] => rfl
  | (a, b) :: A => by
    have ih := dhasA hf k A
    simp only [dKs, List.map_cons, look] at ih ⊢
    rw [dhas_cons, hf, ih]
    by_cases c : a = k <;> simp [c]
theorem dgetA (hf : Nm f) (k : Kv) : ∀ A : AL, dget (dKs f A) (dVs A) (.inr (f k)) = (look A k).map Bv.d
  | [] => rfl
  | (a, b) :: A => by
    have ih := dgetA hf k A
    simp only [dKs, dVs, List.map_cons, look, dget] at ih ⊢
    rw [hf, ih]
    by_cases c : a = k <;> simp [c]
theorem dputA (hf : Nm f) (k : Kv) (b : Bv) : ∀ A : AL, look A k = none → dput (dKs f A) (dVs A) (.inr (f k)) b.d = (dKs f (A ++ [(k, b)]), dVs (A ++ [(k, b)]))
  | [], _ => rfl
  | (a, c) :: A, h => by
    simp only [look] at h
    by_cases e : a = k
    · simp [e] at h
    · rw [if_neg e] at h
      have ih := dputA hf k b A h
      simp only [dKs, dVs, List.map_cons, List.cons_append, dput] at ih ⊢
      rw [hf, ih]
      simp [e]
theorem ndA (hf : Nm f) : ∀ A : AL, (A.map (·.1)).Nodup → ndK (dKs f A) = true
  | [], _ => rfl
  | (a, c) :: A, h => by
    simp only [List.map_cons, List.nodup_cons] at h
    have ih := ndA hf A h.2
    have hd := dhasA hf a A
    rw [(look_none A a).mpr h.1] at hd
    simp only [dKs, List.map_cons, ndK] at ih hd ⊢
    rw [hd, ih]; rfl
theorem putA (hf : Nm f) {A : AL} {k : Kv} {b : Bv} (g : GA A) (h : look A k = none) : putAt (dD f A) (.str (f k)) b.d = some (dD f (A ++ [(k, b)])) := by
  have hl := g.len
  have hk : (ndK (dKs f A) && decide ((dKs f A).length < LIM)) = true := by
    rw [ndA hf A g.nd, Bool.true_and]
    exact decide_eq_true (by unfold dKs; rw [List.length_map]; exact lim2 (by omega))
  simp only [dD, putAt, D.key, hk, if_true, dputA hf k b A h]
theorem inA (hf : Nm f) (A : AL) (k : Kv) : opCmp .In (.str (f k)) (.dic (dKs f A) (dVs A)) = some (look A k).isSome := by
  simp only [opCmp, VM.opIn, D.key, dhasA hf]
theorem ixA (hf : Nm f) {A : AL} {k : Kv} {c : Bv} (h : look A k = some c) : opIx (.dic (dKs f A) (dVs A)) (.str (f k)) = some (.dat c.d) := by
  simp only [opIx, D.key, dgetA hf, h, Option.map_some]
end
theorem opEq_fit {a b : D} (h1 : fits 64 a = true) (h2 : fits 64 b = true) : opEq a b = some (eqv a b) := by
  have el : (if (fits 64 a && fits 64 b) = true then some (eqv a b) else if lenNe a b = true then some false else none) = some (eqv a b) := by rw [h1, h2]; rfl
  have e0 : opEq0 a b = some (eqv a b) := by
    unfold opEq0
    cases a <;> first | exact el | skip
    cases b <;> first | exact el | skip
    rfl
  unfold opEq
  rw [e0]
theorem cut_to {ds : List D} {k : Nat} (h : k ≤ ds.length) : opSl (.tup ds) none (some (k : Nat)) = some (.dat (.tup (ds.take k))) := by
  have : cutD ds none (some (k : Nat)) = ds.take k := by
    unfold cutD
    rw [HT.sIx_nat, HT.sIx_none, Nat.min_eq_left h, Nat.sub_zero, List.drop_zero]
  simp only [opSl, this]
theorem cut_from {ds : List D} {k : Nat} (h : k ≤ ds.length) : opSl (.tup ds) (some (k : Nat)) none = some (.dat (.tup (ds.drop k))) := by
  have : cutD ds (some (k : Nat)) none = ds.drop k := by
    unfold cutD
    rw [HT.sIx_nat, HT.sIx_none, Nat.min_eq_left h, List.take_of_length_le (by rw [List.length_drop]; omega)]
  simp only [opSl, this]
theorem ne_unit {as : List Tm} (h : deps as ≤ 25) : opCmp .NotEq (.tup (ds as)) (.tup []) = some (!as.isEmpty) := by
  have h1 : fits 64 (.tup (ds as)) = true := fit_l h
  have h2 : fits 64 (.tup []) = true := by simp [fits, fitsAll]
  simp only [opCmp, opEq_fit h1 h2]
  cases as <;> simp [ds, eqv, eqvs]
/-- a dict, in a cell or not -/
def Sqd (f : Kv → PySem.Str) (sv : SV) (A : AL) (μ : Sto) : Prop := sv = .dat (dD f A).toD ∨ ∃ k, sv = .cel k ∧ μ[k]? = some ⟨true, dD f A⟩
theorem Sqd.see {f : Kv → PySem.Str} {sv : SV} {A : AL} {μ : Sto} (h : Sqd f sv A μ) : sv.ev.see μ = some (.dic (dKs f A) (dVs A)) := by
  rcases h with rfl | ⟨k, rfl, hk⟩
  · rfl
  · simp only [EV.see, ev_cel]
    rw [hk]; rfl
theorem Sqd.arg {f : Kv → PySem.Str} {sv : SV} {A : AL} {μ : Sto} (h : Sqd f sv A μ) : sv.ev.arg = sv := by
  rcases h with rfl | ⟨k, rfl, _⟩ <;> rfl
/-- what comes: None, what was there, or a new dict -/
def Rk (μ : Sto) (sv : SV) (o : Option AL) (r : EV) : Prop := match o with
  | none => r = .dat .non
  | some A => (r = sv.ev ∧ Sqd pn sv A μ) ∨ r = .new (dD pn A)
theorem Rk.out {μ X : Sto} {sv : SV} {o : Option AL} {r : EV} (h : Rk μ sv o r) (tk : X.take μ.length = μ) : callEnd μ.length (.ok (.rt r) X) = .ok r μ := by
  cases o with
  | none => simp only [Rk] at h; subst h; simp [callEnd, EV.out, tk]
  | some A =>
    rcases h with ⟨rfl, rfl | ⟨k, rfl, hk⟩⟩ | rfl
    · simp [callEnd, EV.out, tk]
    · have hkl : k < μ.length := (List.getElem?_eq_some_iff.mp hk).1
      simp [callEnd, EV.out, tk, hkl]
    · simp [callEnd, EV.out, tk]
section
variable {n : Nat} {μ : Sto}
theorem l_kept {sv : SV} {A : AL} {k : Kv} {b : Bv} (hq : Sqd pn sv A μ) (g : GA A) (hf : fits 64 b.d = true) : ∃ r, VM.run T (n + 1) 36 [sv, .dat (.str (pn k)), .dat b.d] μ = .ok r μ ∧ Rk μ sv (add1 A k b) r := by
  rw [run_at (nl := 4) (b := P__law_kept) (by rfl)]
  unfold P__law_kept
  have he := hq.see
  have hin := inA nm_pn A k
  cases c : look A k with
  | some v =>
    rw [c] at hin
    have ix := ixA nm_pn c
    have eq : opCmp .Eq v.d b.d = some (eqv v.d b.d) := opEq_fit (g.ft _ (look_mem c)) hf
    simp only [add1, c]
    by_cases e : eqv v.d b.d = true
    · have hr : Rk μ sv (some A) sv.ev := .inl ⟨rfl, hq⟩
      refine ⟨sv.ev, ?_, by rw [if_pos e]; exact hr⟩
      have o := hr.out (X := μ) (by simp)
      simp [startE, he, hin, ix, eq, e, o]
    · refine ⟨.dat .non, ?_, by rw [if_neg e]; rfl⟩
      have e' : eqv v.d b.d = false := by simpa using e
      simp [startE, he, hin, ix, eq, e', callEnd, EV.out]
  | none =>
    rw [c] at hin
    have pt := putA nm_pn (b := b) g c
    refine ⟨.new (dD pn (A ++ [(k, b)])), ?_, by simp only [add1, c]; exact .inr rfl⟩
    have hl := g.len
    have fd : fDict [.dic (dKs pn A) (dVs A)] = some (.new (dD pn A)) := if_pos (by unfold dKs; rw [List.length_map]; exact lim1 (by omega))
    simp [startE, he, hin, fd, gSb, pt, callEnd, EV.out]
end
end K16
set_option maxHeartbeats 0
/-! k16: the law's own matching, 2. -/
namespace K16
open VM Law
open L2 (atI ixN)
def MA : SS := (sSeq (sIf (bOr (bCmp (opCmp .Lt) (eCb bLen (evs [eV 1])) (eV 4)) (bAnd (bCmp (opCmp .Is) (eV 3) (eC .non)) (bCmp (opCmp .Gt) (eCb bLen (evs [eV 1])) (eV 4)))) (sRet (eC .non)) (sPass)) (sSeq (sFor (iZip (evs [eSl (eV 0) (oNone) (oSome (eV 4)), eSl (eV 1) (oNone) (oSome (eV 4))])) (gTp [gNm 5, gNm 6]) (sSeq (sIf (bTru (eCall 32 (evs [eV 6]))) (sRet (eC .non)) (sPass)) (sSeq (sSet 2 (eCall 37 (evs [eV 5, eV 6, eV 2]))) (sIf (bCmp (opCmp .Is) (eV 2) (eC .non)) (sRet (eC .non)) (sPass))))) (sRet (eIf (bCmp (opCmp .Is) (eV 3) (eC .non)) (eV 2) (eCall 36 (evs [eV 2, eSl (eV 3) (oSome (eC (.int 1))) (oNone), eSl (eV 1) (oSome (eV 4)) (oNone)]))))))
theorem Sqd.app {f : Kv → PySem.Str} {sv : SV} {A : AL} {μ : Sto} (h : Sqd f sv A μ) (E : Sto) : Sqd f sv A (μ ++ E) := by
  rcases h with rfl | ⟨k, rfl, hk⟩
  · exact .inl rfl
  · have hkl : k < μ.length := (List.getElem?_eq_some_iff.mp hk).1
    exact .inr ⟨k, rfl, by rw [List.getElem?_append_left hkl, hk]⟩
theorem sqd_old {f : Kv → PySem.Str} {sv : SV} {A : AL} {μ X : Sto} (tk : X.take μ.length = μ) (hs : ∃ A0, Sqd f sv A0 μ) (h : Sqd f sv A X) : Sqd f sv A μ := by
  obtain ⟨L0, h0⟩ := hs
  rcases h0 with rfl | ⟨k, rfl, hk⟩
  · rcases h with h | ⟨k, h, _⟩
    · exact .inl h
    · cases h
  · have hkl : k < μ.length := (List.getElem?_eq_some_iff.mp hk).1
    rcases h with h | ⟨k', h, hk'⟩
    · cases h
    · cases h
      refine .inr ⟨k, rfl, ?_⟩
      rw [← tk, List.getElem?_take, if_pos hkl, hk']
theorem Rk.chain {μ X : Sto} {sv sv1 : SV} {o : Option AL} {r : EV} (h : Rk X sv1 o r) (tk : X.take μ.length = μ) (h0 : ∃ A0, Sqd pn sv A0 μ) (h1 : sv1 = sv ∨ ∃ k, sv1 = .cel k ∧ μ.length ≤ k) : ∃ r', callEnd μ.length (.ok (.rt r) X) = .ok r' μ ∧ Rk μ sv o r' := by
  cases o with
  | none => simp only [Rk] at h; subst h; exact ⟨.dat .non, by simp [callEnd, EV.out, tk], rfl⟩
  | some A =>
    rcases h with ⟨rfl, hq⟩ | rfl
    · rcases h1 with rfl | ⟨k, rfl, hk⟩
      · have hr : Rk μ sv1 (some A) sv1.ev := .inl ⟨rfl, sqd_old tk h0 hq⟩
        exact ⟨_, hr.out tk, hr⟩
      · rcases hq with hq | ⟨k', hq, hk'⟩
        · cases hq
        · cases hq
          exact ⟨.new (dD pn A), by simp [callEnd, EV.out, Nat.not_lt.mpr hk, hk', tk], .inr rfl⟩
    · exact ⟨.new (dD pn A), by simp [callEnd, EV.out, tk], .inr rfl⟩
theorem Rk.bnd {X : Sto} {sv : SV} {A : AL} {r : EV} (h : Rk X sv (some A) r) : ∃ sv' E, r.bnd X = (sv', X ++ E) ∧ Sqd pn sv' A (X ++ E) ∧ (sv' = sv ∨ sv' = .cel X.length) ∧ opCmp .Is (.dic (dKs pn A) (dVs A)) .non = some false := by
  rcases h with ⟨rfl, hq⟩ | rfl
  · refine ⟨sv, [], ?_, by rw [List.append_nil]; exact hq, .inl rfl, rfl⟩
    rcases hq with rfl | ⟨k, rfl, _⟩ <;> simp
  · exact ⟨.cel X.length, [⟨true, dD pn A⟩], by simp, .inr ⟨_, rfl, by simp⟩, .inr rfl, rfl⟩
theorem is_dic {ks : List L2.Key} {vs : List D} : opCmp .Is (.dic ks vs) .non = some false := rfl
theorem is_non : opCmp .Is .non .non = some true := rfl
theorem is_str {s : PySem.Str} : opCmp .Is (.str s) .non = some false := rfl
theorem csz_step {a b : Tm} {Q : List (Tm × Tm)} {A : AL} (h : isR b = false) : (csz ((a, b) :: Q)).bind (addA A) = ((cs a b).bind (addA A)).bind fun A2 => (csz Q).bind (addA A2) := by
  simp only [csz, h, Bool.false_eq_true, if_false]
  cases cs a b with
  | none => rfl
  | some l =>
    simp only [Option.bind_some]
    cases csz Q with
    | none => simp
    | some l2 => simp [addA_app]
def encP (q : Tm × Tm) : D := pairD q.1.d q.2.d
theorem zip_enc : ∀ (ps bs : List Tm), List.zipWith pairD (ds ps) (ds bs) = (ps.zip bs).map encP
  | [], bs => by cases bs <;> rfl
  | p :: ps, [] => by simp [ds]
  | p :: ps, b :: bs => by simp only [ds, List.zipWith_cons_cons, List.zip_cons_cons, List.map_cons, zip_enc ps bs]; rfl
theorem zip_take : ∀ (ps bs : List Tm), ps.zip (bs.take ps.length) = ps.zip bs
  | [], bs => by simp
  | p :: ps, [] => by simp
  | p :: ps, b :: bs => by simp only [List.length_cons, List.take_succ_cons, List.zip_cons_cons, zip_take ps bs]
theorem ds_take (as : List Tm) (k : Nat) : (ds as).take k = ds (as.take k) := by rw [ds_map, ds_map, List.map_take]
theorem ds_drop (as : List Tm) (k : Nat) : (ds as).drop k = ds (as.drop k) := by rw [ds_map, ds_map, List.map_drop]
def rT : Option (Fin 2) → List Tm
  | none => []
  | some x => [.rst x]
def rD : Option (Fin 2) → D
  | none => .non
  | some x => .str (rS x)
theorem csa_all (ps bs : List Tm) (o : Option (Fin 2)) (h : ∀ a ∈ ps, isR a = false) : csa (ps ++ rT o) bs = if bs.length < ps.length ∨ (o = none ∧ ps.length < bs.length) then none else
    (csz (ps.zip bs)).map (· ++ match o with | none => [] | some x => [(Kv.r x, Bv.l (bs.drop ps.length))]) := by
  cases o with
  | none =>
    simp only [rT, List.append_nil]
    rw [csa_pl ps bs h]
    by_cases c : bs.length = ps.length
    · rw [if_pos c, if_neg (by omega)]; simp
    · rw [if_neg c, if_pos (by
        rcases Nat.lt_or_gt_of_ne c with z | z
        · exact .inl z
        · exact .inr ⟨by first | trivial | rfl, z⟩)]
  | some x =>
    simp only [rT]
    rw [csa_rs x ps bs h]
    by_cases c : bs.length < ps.length
    · rw [if_pos c, if_pos (.inl c)]
    · rw [if_neg c, if_neg (by simp [c])]
section
variable {n : Nat} {μ : Sto}
/-- within depth m the law's walk tells what matching finds -/
def LM (n m : Nat) : Prop := ∀ (p t : Tm) (A : AL) (sv : SV) (μ : Sto), dep p ≤ m → okT p = true → isR p = false → dep t ≤ 25 → sz t ≤ 450 → dep p ≤ 25 → sz p ≤ 450 → Sqd pn sv A μ → GA A →
  ∃ r, VM.run T (2 * m + 1 + n) 37 [.dat p.d, .dat t.d, sv] μ = .ok r μ ∧ Rk μ sv ((cs p t).bind (addA A)) r
def MI (μ : Sto) (sv : SV) (o0 o1 o3 o4 : Option SV) (Z : Option AL) (Q : List (Tm × Tm)) (ρ : Env) (X : Sto) : Prop :=
  ∃ (A1 : AL) (sv1 : SV) (o5 o6 : Option SV), ρ = [o0, o1, some sv1, o3, o4, o5, o6] ∧ X.take μ.length = μ ∧ μ.length ≤ X.length ∧ Sqd pn sv1 A1 X ∧ GA A1 ∧ (sv1 = sv ∨ ∃ k, sv1 = .cel k ∧ μ.length ≤ k) ∧ (csz Q).bind (addA A1) = Z
theorem l_core {m : Nat} (hLM : LM n m) {ps bs : List Tm} {o : Option (Fin 2)} {A : AL} {sv : SV} (h : ∀ a ∈ ps, isR a = false) (hd : deps ps ≤ m) (hd2 : deps ps ≤ 25) (hok : okA ps = true) (hsz : szs ps ≤ 450) (hb : deps bs ≤ 25) (hbs : szs bs ≤ 450) (hq : Sqd pn sv A μ) (g : GA A) :
    ∃ r, callEnd μ.length (MA (VM.run T (2 * m + 1 + n)) [some (.dat (.tup (ds (ps ++ rT o)))), some (.dat (.tup (ds bs))), some sv, some (.dat (rD o)), some (.dat (.int (ps.length : Nat))), none, none] μ) = .ok r μ ∧ Rk μ sv ((csa (ps ++ rT o) bs).bind (addA A)) r := by
  rw [csa_all ps bs o h]
  have hl := len_szs bs
  have hpl := len_szs ps
  have sb2 : opCmp .Lt (.int (bs.length : Nat)) (.int (ps.length : Nat)) = some (decide (bs.length < ps.length)) := by simp [opCmp, opI]
  have sb3 : opCmp .Gt (.int (bs.length : Nat)) (.int (ps.length : Nat)) = some (decide (ps.length < bs.length)) := by simp [opCmp, opI]
  have io : opCmp .Is (rD o) .non = some (decide (o = none)) := by cases o <;> rfl
  have bl : bLen [.tup (ds bs)] = some (.dat (.int (bs.length : Nat))) := by
    show some (EV.dat (.int ((ds bs).length : Nat))) = _
    rw [ds_len]
  unfold MA
  by_cases c : bs.length < ps.length ∨ (o = none ∧ ps.length < bs.length)
  · rw [if_pos c]
    refine ⟨.dat .non, ?_, rfl⟩
    by_cases c1 : bs.length < ps.length
    · simp [bl, sb2, c1, callEnd, EV.out]
    · obtain ⟨rfl, c2⟩ : o = none ∧ ps.length < bs.length := c.elim (fun z => absurd z c1) id
      simp [bl, sb2, c1, io, sb3, c2, callEnd, EV.out]
  · rw [if_neg c]
    have c1 : ¬ bs.length < ps.length := fun z => c (.inl z)
    have c2 : ¬ (o = none ∧ ps.length < bs.length) := fun z => c (.inr z)
    have cz : zipSrc [.tup ((ds (ps ++ rT o)).take ps.length), .tup ((ds bs).take ps.length)] = some (.vals ((ps.zip bs).map encP)) := by
      simp only [zipSrc]
      rw [ds_take, ds_take, zip_enc, List.take_left, zip_take]
    have ct1 := cut_to (ds := ds (ps ++ rT o)) (k := ps.length) (by rw [ds_len, List.length_append]; omega)
    have ct2 := cut_to (ds := ds bs) (k := ps.length) (by rw [ds_len]; omega)
    have ct3 := cut_from (ds := ds bs) (k := ps.length) (by rw [ds_len]; omega)
    rw [ds_drop] at ct3
    have zl : ((ps.zip bs).map encP).length = ps.length := by rw [List.length_map, List.length_zip]; omega
    have fi := for_inv (enc := encP) (Q := ps.zip bs) (F := VM.run T (2 * m + 1 + n)) (p := gTp [gNm 5, gNm 6]) (b := (sSeq (sIf (bTru (eCall 32 (evs [eV 6]))) (sRet (eC .non)) (sPass)) (sSeq (sSet 2 (eCall 37 (evs [eV 5, eV 6, eV 2]))) (sIf (bCmp (opCmp .Is) (eV 2) (eC .non)) (sRet (eC .non)) (sPass)))))
      (MI μ sv (some (.dat (.tup (ds (ps ++ rT o))))) (some (.dat (.tup (ds bs)))) (some (.dat (rD o))) (some (.dat (.int (ps.length : Nat)))) ((csz (ps.zip bs)).bind (addA A)))
      (fun v X => v = .dat .non ∧ X.take μ.length = μ ∧ (csz (ps.zip bs)).bind (addA A) = none) (fun q Q' ρ X hq' hI => by
        obtain ⟨A1, sv1, o5, o6, rfl, g1, g2, g3, g4, g5, g6⟩ := hI
        obtain ⟨a, b⟩ := q
        obtain ⟨ma, mb⟩ := List.of_mem_zip hq'
        refine ⟨[some (.dat (.tup (ds (ps ++ rT o)))), some (.dat (.tup (ds bs))), some sv1, some (.dat (rD o)), some (.dat (.int (ps.length : Nat))), some (.dat a.d), some (.dat b.d)], X, rfl, ?_⟩
        have lr : VM.run T (2 * m + 1 + n) 32 [.dat b.d] X = .ok (.dat (.bl (isR b))) X := by rw [show 2 * m + 1 + n = (2 * m + n) + 1 by omega]; exact l_isRest b
        cases hr : isR b with
        | true =>
          refine .inr ⟨.dat .non, X, by simp [lr, hr], rfl, g1, ?_⟩
          rw [← g6]; simp [csz, hr]
        | false =>
          rw [csz_step hr] at g6
          obtain ⟨r, e, hr2⟩ := hLM a b A1 sv1 X (Nat.le_trans (deps_mem ma) hd) (okA_mem hok ma) (h a ma) (Nat.le_trans (deps_mem mb) hb) (Nat.le_trans (szs_mem mb) hbs) (Nat.le_trans (deps_mem ma) hd2) (Nat.le_trans (szs_mem ma) hsz) g3 g4
          have ea := g3.arg
          cases hm : (cs a b).bind (addA A1) with
          | none =>
            rw [hm] at hr2 g6
            simp only [Rk] at hr2
            subst hr2
            exact .inr ⟨.dat .non, X, by simp [lr, hr, ea, e, is_non], rfl, g1, by rw [← g6]; rfl⟩
          | some A2 =>
            rw [hm] at hr2 g6
            simp only [Option.bind_some] at g6
            obtain ⟨sv', E, e1, e2, e3, _⟩ := hr2.bnd
            have g42 : GA A2 := by
              cases hc : cs a b with
              | none => rw [hc] at hm; cases hm
              | some l =>
                rw [hc] at hm
                exact g4.addA (cs_oc hc (Nat.le_trans (deps_mem mb) hb) (Nat.le_trans (szs_mem mb) hbs)) hm
            refine .inl ⟨[some (.dat (.tup (ds (ps ++ rT o)))), some (.dat (.tup (ds bs))), some sv', some (.dat (rD o)), some (.dat (.int (ps.length : Nat))), some (.dat a.d), some (.dat b.d)], X ++ E, ?_, A2, sv', _, _, rfl, by rw [take_app g2, g1], by rw [List.length_append]; omega, e2, g42, ?_, g6⟩
            · have es := e2.see
              simp [lr, hr, ea, e, e1, es, is_dic]
            · rcases e3 with rfl | rfl
              · exact g5
              · exact .inr ⟨_, rfl, g2⟩) (ps.length + 1) 0 [some (.dat (.tup (ds (ps ++ rT o)))), some (.dat (.tup (ds bs))), some sv, some (.dat (rD o)), some (.dat (.int (ps.length : Nat))), none, none] μ
      ⟨A, sv, none, none, rfl, by simp, Nat.le_refl _, hq, g, .inl rfl, rfl⟩ (Nat.zero_le _) (by rw [List.length_zip]; omega)
    rcases fi with ⟨ρ', X', e, A1, sv1, o5, o6, rfl, g1, g2, g3, g4, g5, g6⟩ | ⟨v, X', e, rfl, tk, hz⟩
    · have g6 : (csz (ps.zip bs)).bind (addA A) = some A1 := g6.symm
      have ea := g3.arg
      cases o with
      | none =>
        have c2' : ¬ ps.length < bs.length := fun z => c2 ⟨rfl, z⟩
        have hr : Rk X' sv1 (some A1) sv1.ev := .inl ⟨rfl, g3⟩
        obtain ⟨r', e1, e2⟩ := hr.chain g1 ⟨_, hq⟩ g5
        refine ⟨r', ?_, ?_⟩
        · simp only [rD] at e io
          simp [bl, sb2, c1, io, sb3, c2', oNone, oSome, iZip, ct1, ct2, cz, zl, e, rD, is_non, e1]
        · simp only [List.append_nil, Option.map_id']
          rw [g6]; exact e2
      | some x =>
        obtain ⟨r, e3, hr⟩ := l_kept (n := 2 * m + n) (μ := X') (k := .r x) (b := .l (bs.drop ps.length)) g3 g4 (fit_l (Nat.le_trans (by
          have := deps_app (bs.take ps.length) (bs.drop ps.length)
          rw [List.take_append_drop] at this
          omega) hb))
        obtain ⟨r', e1, e2⟩ := hr.chain g1 ⟨_, hq⟩ g5
        rw [show 2 * m + n + 1 = 2 * m + 1 + n by omega] at e3
        refine ⟨r', ?_, ?_⟩
        · simp only [rD] at e io
          simp only [pn, Bv.d] at e3
          simp [bl, sb2, c1, io, oNone, oSome, iZip, ct1, ct2, ct3, cz, zl, e, rD, is_str, rest_cut, ea, e3, e1]
        · have : ((csz (ps.zip bs)).map (· ++ [(Kv.r x, Bv.l (bs.drop ps.length))])).bind (addA A) = add1 A1 (.r x) (.l (bs.drop ps.length)) := by
            cases hc : csz (ps.zip bs) with
            | none => rw [hc] at g6; cases g6
            | some l =>
              rw [hc] at g6
              simp only [Option.bind_some] at g6
              simp only [Option.map_some, Option.bind_some, addA_app, g6, addA]
              cases add1 A1 (.r x) (.l (bs.drop ps.length)) <;> rfl
          simp only [this]
          exact e2
    · refine ⟨.dat .non, ?_, ?_⟩
      · by_cases ho : o = none
        · subst ho
          have c2' : ¬ ps.length < bs.length := fun z => c2 ⟨rfl, z⟩
          simp [bl, sb2, c1, io, sb3, c2', oNone, oSome, iZip, ct1, ct2, cz, zl, e, callEnd, EV.out, tk]
        · simp [bl, sb2, c1, io, ho, oNone, oSome, iZip, ct1, ct2, cz, zl, e, callEnd, EV.out, tk]
      · cases hc : csz (ps.zip bs) with
        | none => rfl
        | some l =>
          rw [hc] at hz
          simp only [Option.bind_some] at hz
          simp only [Option.map_some, Option.bind_some, addA_app, hz]; rfl
end
end K16
set_option maxHeartbeats 0
/-! k16: the law's own matching, 3. -/
namespace K16
open VM Law
open L2 (atI ixN)
theorem ds_last (ps : List Tm) (a : Tm) : opIx (.tup (ds (ps ++ [a]))) (.int (-1)) = some (.dat a.d) := by
  rw [ds_app]
  show (atI (ds ps ++ ds [a]) (-1)).map EV.dat = _
  have : atI (ds ps ++ ds [a]) (-1) = some a.d := by
    have hn : ixN (ds ps ++ ds [a]).length (-1) = some (ds ps).length := by
      unfold L2.ixN
      rw [List.length_append, show (ds [a]).length = 1 from rfl]
      rw [if_neg (by omega), if_pos (by omega)]
      congr 1
      omega
    unfold L2.atI
    rw [hn]
    simp [ds]
  rw [this]; rfl
theorem okA_of : ∀ {ps : List Tm}, (∀ a ∈ ps, isR a = false) → (∀ a ∈ ps, okT a = true) → okA ps = true
  | [], _, _ => rfl
  | p :: ps, h1, h2 => by
    simp only [okA, h2 p List.mem_cons_self, h1 p List.mem_cons_self, okA_of (fun a h => h1 a (List.mem_cons_of_mem _ h)) (fun a h => h2 a (List.mem_cons_of_mem _ h))]
    simp
theorem hS_ne (h g : Fin 6) : opCmp .NotEq (.str (hS h)) (.str (hS g)) = some (!decide (h = g)) := by revert h g; decide +kernel
theorem dnum_eq (i : Int) (t : Tm) : eqv (Tm.num i).d t.d = true ↔ t = .num i := by
  cases t with
  | num j =>
    simp only [Tm.d, eqv, beq_iff_eq, Tm.num.injEq]
    exact ⟨Eq.symm, Eq.symm⟩
  | var x => simp [Tm.d, eqv]
  | rst x => simp [Tm.d, eqv]
  | app h as => simp [Tm.d, eqv]
section
variable {n : Nat}
theorem l_args {m : Nat} (hLM : LM n m) {as bs : List Tm} {A : AL} {sv : SV} {μ : Sto} (hd : deps as ≤ m) (hd2 : deps as ≤ 25) (hok : okA as = true) (hsz : szs as ≤ 450) (hb : deps bs ≤ 25) (hbs : szs bs ≤ 450) (hq : Sqd pn sv A μ) (g : GA A) :
    ∃ r, VM.run T (2 * m + 2 + n) 38 [.dat (.tup (ds as)), .dat (.tup (ds bs)), sv] μ = .ok r μ ∧ Rk μ sv ((csa as bs).bind (addA A)) r := by
  rw [show 2 * m + 2 + n = (2 * m + 1 + n) + 1 by omega, run_at (nl := 7) (b := P__law_args_matched) (by rfl)]
  have hP : P__law_args_matched = sSeq ((sSet 3 (eIf (bAnd (bCmp (opCmp .NotEq) (eV 0) (eTup (evs []))) (bTru (eCall 32 (evs [eIx (eV 0) (eNeg (eC (.int 1)))])))) (eIx (eV 0) (eNeg (eC (.int 1)))) (eC .non)))) (sSeq ((sSet 4 (eIf (bCmp (opCmp .Is) (eV 3) (eC .non)) (eCb bLen (evs [eV 0])) (eBin .Sub (eCb bLen (evs [eV 0])) (eC (.int 1)))))) MA) := rfl
  rw [hP]
  have lr : ∀ a : Tm, VM.run T (2 * m + 1 + n) 32 [.dat a.d] μ = .ok (.dat (.bl (isR a))) μ := fun a => by rw [show 2 * m + 1 + n = (2 * m + n) + 1 by omega]; exact l_isRest a
  have ne := ne_unit hd2
  have bl : bLen [.tup (ds as)] = some (.dat (.int (as.length : Nat))) := by
    show some (EV.dat (.int ((ds as).length : Nat))) = _
    rw [ds_len]
  have subI : ∀ a : Int, opBin .Sub (.int a) (.int 1) = some (.dat (.int (a - 1))) := fun a => rfl
  rcases okA_split hok with h | ⟨ps, x, rfl, h⟩
  · obtain ⟨r, e, hr⟩ := l_core hLM (o := none) (ps := as) (bs := bs) h hd hd2 hok hsz hb hbs hq g
    simp only [rT, List.append_nil, rD] at e hr
    refine ⟨r, ?_, hr⟩
    rcases List.eq_nil_or_concat as with rfl | ⟨L, a, rfl⟩
    · have ne' : opCmp .NotEq (.tup (ds [])) (.tup []) = some false := ne
      have bl' : bLen [.tup (ds [])] = some (.dat (.int 0)) := bl
      have e' : callEnd μ.length (MA (VM.run T (2 * m + 1 + n)) [some (.dat (.tup (ds []))), some (.dat (.tup (ds bs))), some sv, some (.dat .non), some (.dat (.int 0)), none, none] μ) = .ok r μ := e
      simp [startE, ne', is_non, bl', e']
    · simp only [List.concat_eq_append] at *
      have ha := h a (by simp)
      have nl : (L ++ [a]).isEmpty = false := by simp
      rw [nl] at ne
      simp [startE, ne, eNeg, ds_last, lr, ha, is_non, bl] at e ⊢
      exact e
  · have hps : ∀ a ∈ ps, okT a = true := fun a ha => okA_mem hok (List.mem_append.mpr (.inl ha))
    have hda := deps_app ps [.rst x]
    have hsa := szs_app ps [.rst x]
    obtain ⟨r, e, hr⟩ := l_core hLM (o := some x) (ps := ps) (bs := bs) h (by omega) (by omega) (okA_of h hps) (by omega) hb hbs hq g
    simp only [rT, rD] at e hr
    refine ⟨r, ?_, hr⟩
    have nl : (ps ++ [Tm.rst x]).isEmpty = false := by simp
    rw [nl] at ne
    have dl : opIx (.tup (ds (ps ++ [Tm.rst x]))) (.int (-1)) = some (.dat (.str (rS x))) := ds_last ps (.rst x)
    have lx : VM.run T (2 * m + 1 + n) 32 [.dat (.str (rS x))] μ = .ok (.dat (.bl true)) μ := lr (.rst x)
    have ln1 : ((ps ++ [Tm.rst x]).length : Int) - 1 = (ps.length : Int) := by simp
    simp [startE, ne, eNeg, dl, lx, is_str, bl, subI] at e ⊢
    exact e
theorem cs_app {h g : Fin 6} {as bs : List Tm} {A : AL} : (cs (.app h as) (.app g bs)).bind (addA A) = (if hV h then add1 A (.h h) (.h g) else if h = g then some A else none).bind fun A2 => (csa as bs).bind (addA A2) := by
  simp only [cs]
  by_cases c : hV h = true
  · simp only [c, if_true, Option.bind_some]
    cases csa as bs with
    | none => simp
    | some l => simp [addA]
  · simp only [c, if_false]
    by_cases e : h = g
    · simp [e]
    · simp [e]
theorem l_matched : ∀ m : Nat, LM n m
  | 0 => fun p t A sv μ h => by have := dep_pos p; omega
  | m + 1 => fun p t A sv μ h hok hnr hdt hst hdp hsp hq g => by
    have hLM := l_matched m
    rw [show 2 * (m + 1) + 1 + n = (2 * m + 2 + n) + 1 by omega, run_at (nl := 3) (b := P__law_matched) (by rfl)]
    unfold P__law_matched
    have ea := hq.arg
    cases p with
    | rst x => cases hnr
    | num i =>
      have eq : opCmp .Eq (Tm.num i).d t.d = some (eqv (Tm.num i).d t.d) := by
        simp only [opCmp]
        exact opEq_fit (a := (Tm.num i).d) (b := t.d) (d_fits (.num i) 64 (by omega)) (d_fits t 64 (by omega))
      have hc : (cs (.num i) t).bind (addA A) = if eqv (Tm.num i).d t.d = true then some A else none := by
        by_cases c : eqv (Tm.num i).d t.d = true
        · have := (dnum_eq i t).mp c
          subst this
          rw [if_pos c]; simp [cs, addA]
        · rw [if_neg c]
          cases t with
          | num j =>
            have : i ≠ j := fun z => c (by rw [z]; exact eqv_refl_tm _)
            simp [cs, this]
          | _ => rfl
      rw [hc]
      by_cases c : eqv (Tm.num i).d t.d = true
      · have hr : Rk μ sv (some A) sv.ev := .inl ⟨rfl, hq⟩
        refine ⟨sv.ev, ?_, by rw [if_pos c]; exact hr⟩
        have o := hr.out (X := μ) (by simp)
        simp [startE, isS, isT, isV, isR, isA, eq, c, o]
      · have c' : eqv (Tm.num i).d t.d = false := by simpa using c
        refine ⟨.dat .non, ?_, by rw [if_neg c]; rfl⟩
        simp [startE, isS, isT, isV, isR, isA, eq, c', callEnd, EV.out]
    | var x =>
      obtain ⟨r, e, hr⟩ := l_kept (n := 2 * m + 1 + n) (μ := μ) (k := .v x) (b := .t t) hq g (fit_t hdt)
      have hc : (cs (.var x) t).bind (addA A) = add1 A (.v x) (.t t) := by
        simp only [cs, Option.bind_some, addA]
        cases add1 A (.v x) (.t t) <;> rfl
      rw [hc]
      refine ⟨r, ?_, hr⟩
      have o := hr.out (X := μ) (by simp)
      rw [show 2 * m + 1 + n + 1 = 2 * m + 2 + n by omega] at e
      simp only [pn, Bv.d] at e
      have hd : (Tm.var x).d = .str (vS x) := rfl
      simp [startE, isS, isV, isR, ea]
      rw [hd, e]
      simp [o]
    | app hh as =>
      simp only [okT] at hok
      simp only [dep] at h hdp
      simp only [sz] at hsp
      cases t with
      | num j => exact ⟨.dat .non, by simp [startE, isS, isT, isV, isR, isA, callEnd, EV.out], rfl⟩
      | var j => exact ⟨.dat .non, by simp [startE, isS, isT, isV, isR, isA, callEnd, EV.out], rfl⟩
      | rst j => exact ⟨.dat .non, by simp [startE, isS, isT, isV, isR, isA, callEnd, EV.out], rfl⟩
      | app gg bs =>
        simp only [dep] at hdt
        simp only [sz] at hst
        rw [cs_app]
        have gh := in_GH hh
        by_cases c : hV hh = true
        · rw [if_pos c]
          rw [c] at gh
          obtain ⟨r, e, hr⟩ := l_kept (n := 2 * m + 1 + n) (μ := μ) (k := .h hh) (b := .h gg) hq g (fit_h gg)
          rw [show 2 * m + 1 + n + 1 = 2 * m + 2 + n by omega] at e
          simp only [pn, Bv.d] at e
          cases ha : add1 A (.h hh) (.h gg) with
          | none =>
            rw [ha] at hr
            simp only [Rk] at hr
            subst hr
            exact ⟨.dat .non, by simp [startE, isS, isT, isV, isR, isA, ix_app0, gh, ea, e, is_non, callEnd, EV.out], rfl⟩
          | some A2 =>
            rw [ha] at hr
            obtain ⟨sv', E, e1, e2, e3, _⟩ := hr.bnd
            have g2 := g.add1 ha (by rfl) (fit_h gg) (by show (1 : Nat) ≤ 450; omega)
            obtain ⟨r2, e4, hr2⟩ := l_args hLM (as := as) (bs := bs) (by omega) (by omega) hok (by omega) (by omega) (by omega) e2 g2
            obtain ⟨r3, e5, hr3⟩ := hr2.chain (μ := μ) (by simp) ⟨_, hq⟩ (by
              rcases e3 with rfl | rfl
              · exact .inl rfl
              · exact .inr ⟨_, rfl, Nat.le_refl _⟩)
            refine ⟨r3, ?_, hr3⟩
            have es := e2.see
            have ea2 := e2.arg
            simp [startE, isS, isT, isV, isR, isA, ix_app0, ix_app, gh, ea, e, e1, es, is_dic, ea2, e4, e5]
        · have c' : hV hh = false := by simpa using c
          rw [if_neg c]
          rw [c'] at gh
          have ne := hS_ne hh gg
          by_cases eh : hh = gg
          · rw [if_pos eh]
            obtain ⟨r2, e4, hr2⟩ := l_args hLM (as := as) (bs := bs) (by omega) (by omega) hok (by omega) (by omega) (by omega) hq g
            refine ⟨r2, ?_, hr2⟩
            have o := hr2.out (X := μ) (by simp)
            have es := hq.see
            have ne' : opCmp .NotEq (.str (hS hh)) (.str (hS gg)) = some false := by rw [ne]; simp [eh]
            simp [startE, isS, isT, isV, isR, isA, ix_app0, ix_app, gh, ne', ea, es, is_dic, e4, o]
          · rw [if_neg eh]
            refine ⟨.dat .non, ?_, rfl⟩
            have ne' : opCmp .NotEq (.str (hS hh)) (.str (hS gg)) = some true := by rw [ne]; simp [eh]
            simp [startE, isS, isT, isV, isR, isA, ix_app0, ix_app, gh, ne', callEnd, EV.out]
end
end K16
set_option maxHeartbeats 0
/-! k16: the program's matching. -/
namespace K16
open VM Law
open L2 (atI ixN)
def dC (A : AL) : Cell := ⟨true, dD pn A⟩
section
variable {n : Nat}
theorem s_held {j : Nat} {A : AL} {k : Kv} {b : Bv} {μ : Sto} (hj : μ[j]? = some (dC A)) (g : GA A) (hf : fits 64 b.d = true) :
    (∃ A', add1 A k b = some A' ∧ VM.run T (n + 1) 20 [.cel j, .dat (.str (pn k)), .dat b.d] μ = .ok (.dat (.bl true)) (μ.set j (dC A'))) ∨ (add1 A k b = none ∧ VM.run T (n + 1) 20 [.cel j, .dat (.str (pn k)), .dat b.d] μ = .ok (.dat (.bl false)) μ) := by
  rw [run_at (nl := 3) (b := P_is_held) (by rfl)]
  unfold P_is_held
  have hjl := (List.getElem?_eq_some_iff.mp hj).1
  have he : (EV.cel j).see μ = some (.dic (dKs pn A) (dVs A)) := by
    simp only [EV.see]
    rw [hj]; rfl
  have hin := inA nm_pn A k
  cases c : look A k with
  | some v =>
    rw [c] at hin
    have ix := ixA nm_pn c
    have eq : opCmp .Eq v.d b.d = some (eqv v.d b.d) := opEq_fit (g.ft _ (look_mem c)) hf
    simp only [add1, c]
    by_cases e : eqv v.d b.d = true
    · refine .inl ⟨A, by rw [if_pos e], ?_⟩
      have hs : μ.set j (dC A) = μ := by
        apply List.ext_getElem?
        intro i
        by_cases hi : j = i
        · subst hi; rw [List.getElem?_set_self hjl, hj]
        · rw [List.getElem?_set_ne hi]
      rw [hs]
      simp [startE, he, hin, ix, eq, e, callEnd, EV.out]
    · have e' : eqv v.d b.d = false := by simpa using e
      refine .inr ⟨by rw [if_neg e], ?_⟩
      simp [startE, he, hin, ix, eq, e', callEnd, EV.out]
  | none =>
    rw [c] at hin
    have pt := putA nm_pn (b := b) g c
    refine .inl ⟨A ++ [(k, b)], by simp only [add1, c], ?_⟩
    have hj' : μ[j]? = some ⟨true, dD pn A⟩ := hj
    have tk : (μ.set j (dC (A ++ [(k, b)]))).take μ.length = μ.set j (dC (A ++ [(k, b)])) := List.take_of_length_le (by rw [List.length_set]; exact Nat.le_refl _)
    simp only [dC] at tk ⊢
    simp [startE, he, hin, gSb, hj', pt, callEnd, EV.out, tk]
theorem any_rests (ps bs : List Tm) (h : ps.length ≤ bs.length) : ((ps.zip bs).map fun q => isR q.2).all (!·) = true ∨ ∃ q ∈ ps.zip bs, isR q.2 = true := by
  by_cases c : ∃ q ∈ ps.zip bs, isR q.2 = true
  · exact .inr c
  · refine .inl ?_
    rw [List.all_eq_true]
    intro b hb
    obtain ⟨q, hq, rfl⟩ := List.mem_map.mp hb
    cases e : isR q.2 with
    | true => exact absurd ⟨q, hq, e⟩ c
    | false => rfl
theorem csz_rest {Q : List (Tm × Tm)} : (∃ q ∈ Q, isR q.2 = true) → csz Q = none := by
  rintro ⟨q, hq, h⟩
  induction Q with
  | nil => cases hq
  | cons a Q ih =>
    obtain ⟨x, y⟩ := a
    simp only [csz]
    rcases List.mem_cons.mp hq with rfl | hq
    · rw [if_pos h]
    · rw [ih hq]
      split
      · rfl
      · cases cs x y <;> rfl
theorem bls_mapB {α : Type} (f : α → Bool) : ∀ l : List α, bls (l.map fun p => .bl (f p)) = some (l.map f)
  | [] => rfl
  | a :: l => by
    have := bls_mapB f l
    simp only [List.map_cons, bls, this]; rfl
/-- the args' pairs, or None -/
theorem s_margs {j : Nat} {A : AL} {as bs ps : List Tm} {o : Option (Fin 2)} {μ : Sto} (has : as = ps ++ rT o) (hps : ∀ a ∈ ps, isR a = false) (hj : μ[j]? = some (dC A)) (g : GA A) (hd : deps as ≤ 25) (hsz : szs as ≤ 450) (hb : deps bs ≤ 25) (hbs : szs bs ≤ 450) :
    (∃ A' l, (∀ q ∈ ps.zip bs, isR q.2 = false) ∧ GA A' ∧ (∀ q, q ∈ A' ↔ q ∈ A ∨ q ∈ l) ∧ csa as bs = (csz (ps.zip bs)).map (· ++ l) ∧
      VM.run T (n + 3) 21 [.cel j, .dat (.tup (ds as)), .dat (.tup (ds bs))] μ = .ok (.new (.lst ((ps.zip bs).map encP))) (μ.set j (dC A'))) ∨
    ∃ μ', μ'.take j = μ.take j ∧ (∀ l, csa as bs = some l → ¬ Cons (A ++ l)) ∧ VM.run T (n + 3) 21 [.cel j, .dat (.tup (ds as)), .dat (.tup (ds bs))] μ = .ok (.dat .non) μ' := by
  subst has
  rw [run_at (nl := 7) (b := P_matched_args) (by rfl), csa_all ps bs o hps]
  have hjl := (List.getElem?_eq_some_iff.mp hj).1
  have hl := len_szs bs
  have hpl := len_szs ps
  have hal := szs_app ps (rT o)
  have ne := ne_unit hd
  have bla : bLen [.tup (ds (ps ++ rT o))] = some (.dat (.int ((ps ++ rT o).length : Nat))) := by
    show some (EV.dat (.int ((ds (ps ++ rT o)).length : Nat))) = _
    rw [ds_len]
  have blb : bLen [.tup (ds bs)] = some (.dat (.int (bs.length : Nat))) := by
    show some (EV.dat (.int ((ds bs).length : Nat))) = _
    rw [ds_len]
  have subI : ∀ a : Int, opBin .Sub (.int a) (.int 1) = some (.dat (.int (a - 1))) := fun a => rfl
  have slt : opCmp .Lt (.int (bs.length : Nat)) (.int (ps.length : Nat)) = some (decide (bs.length < ps.length)) := by simp [opCmp, opI]
  have sne : opCmp .NotEq (.int (bs.length : Nat)) (.int (ps.length : Nat)) = some (decide (bs.length ≠ ps.length)) := by
    simp only [opCmp, opEq_int, Option.map_some]
    congr 1
    rw [Bool.eq_iff_iff]
    simp
    omega
  have ct1 := cut_to (ds := ds (ps ++ rT o)) (k := ps.length) (by rw [ds_len, List.length_append]; omega)
  rw [ds_take, List.take_left] at ct1
  -- from the pairs on
  have tail : ∀ (A' : AL) (l : AL) (X : Sto), X.length = μ.length → ps.length ≤ bs.length → GA A' → (∀ q, q ∈ A' ↔ q ∈ A ∨ q ∈ l) → X = μ.set j (dC A') → ∀ (o3 o4 : Option SV),
      (∃ A' l', (∀ q ∈ ps.zip bs, isR q.2 = false) ∧ GA A' ∧ (∀ q, q ∈ A' ↔ q ∈ A ∨ q ∈ l') ∧ (csz (ps.zip bs)).map (· ++ l) = (csz (ps.zip bs)).map (· ++ l') ∧
        callEnd μ.length (((sSeq (sSet 4 (eCb fLzip (evs [eSl (eV 1) (oNone) (oSome (eV 3)), eSl (eV 2) (oNone) (oSome (eV 3))]))) (sRet (eIf (bTru (eCb bAny (evs [eLc (iOf (eV 4)) (.tup [.nm 5, .nm 6]) (bYes) (eCall 5 (evs [eV 6])) [5, 6]]))) (eC .non) (eV 4)))) : SS) (VM.run T (n + 2)) [some (.cel j), some (.dat (.tup (ds (ps ++ rT o)))), some (.dat (.tup (ds bs))), some (.dat (.int (ps.length : Nat))), none, none, none] X) = .ok (.new (.lst ((ps.zip bs).map encP))) (μ.set j (dC A'))) ∨
      ∃ μ', μ'.take j = μ.take j ∧ (∀ l', (csz (ps.zip bs)).map (· ++ l) = some l' → ¬ Cons (A ++ l')) ∧ callEnd μ.length (((sSeq (sSet 4 (eCb fLzip (evs [eSl (eV 1) (oNone) (oSome (eV 3)), eSl (eV 2) (oNone) (oSome (eV 3))]))) (sRet (eIf (bTru (eCb bAny (evs [eLc (iOf (eV 4)) (.tup [.nm 5, .nm 6]) (bYes) (eCall 5 (evs [eV 6])) [5, 6]]))) (eC .non) (eV 4)))) : SS) (VM.run T (n + 2)) [some (.cel j), some (.dat (.tup (ds (ps ++ rT o)))), some (.dat (.tup (ds bs))), some (.dat (.int (ps.length : Nat))), none, none, none] X) = .ok (.dat .non) μ' :=
    fun A' l X hX hle g' hm hXe o3 o4 => by
      have ct2 := cut_to (ds := ds bs) (k := ps.length) (by rw [ds_len]; omega)
      rw [ds_take] at ct2
      have lz : fLzip [.tup (ds ps), .tup (ds (bs.take ps.length))] = some (.new (.lst ((ps.zip bs).map encP))) := by
        have : (ds ps).length = (ds (bs.take ps.length)).length ∧ (ds ps).length ≤ 1000000 := by
          rw [ds_len, ds_len, List.length_take]
          constructor <;> omega
        simp only [fLzip]
        rw [if_pos this, zip_enc, zip_take]
      have zl : (ps.zip bs).length = ps.length := by rw [List.length_zip]; omega
      have lc := lc_enc (μ := X ++ [cL ((ps.zip bs).map encP)]) (S := .cell X.length) (enc := encP) (Q := ps.zip bs) (step := lcStep (VM.run T (n + 2)) (.tup [.nm 5, .nm 6]) bYes (eCall 5 (evs [eV 6])) [some (.cel j), some (.dat (.tup (ds (ps ++ rT o)))), some (.dat (.tup (ds bs))), some (.dat (.int (ps.length : Nat))), some (.cel X.length), none, none]) (f := fun q => .bl (isR q.2)) (c := fun _ => true)
        (by simp [Src.at, cL]) (fun q _ => by simp [asg, asgs, encP, pairD, s_isRest]) (by omega)
      rw [flt_all, zl] at lc
      have so : srcOf (.cel X.length) (X ++ [cL ((ps.zip bs).map encP)]) = some (.cell X.length) := by simp [srcOf, cL]
      have sl : (Src.cell X.length).len (X ++ [cL ((ps.zip bs).map encP)]) = ps.length := by rw [← zl]; simp [Src.len, Src.at, cL, -List.length_zip]
      have lim : min ps.length bs.length ≤ LIM := lim1 (by omega)
      have tkX : (X ++ [cL ((ps.zip bs).map encP)]).take μ.length = X := by rw [← hX]; simp
      have any : ∀ k, ((ps.zip bs).map fun q => isR q.2).any id = k → bAny [.lst ((ps.zip bs).map fun q => D.bl (isR q.2))] = some (.dat (.bl k)) := fun k hk => by
        subst hk
        show (bls _).map _ = _
        rw [bls_mapB]; rfl
      by_cases c : ∃ q ∈ ps.zip bs, isR q.2 = true
      · refine .inr ⟨X, ?_, fun l' h => ?_, ?_⟩
        · rw [hXe, take_set]
        · rw [csz_rest c] at h; cases h
        · have a1 := any true (by
            rw [List.any_eq_true]
            obtain ⟨q, hq, e⟩ := c
            exact ⟨_, List.mem_map.mpr ⟨q, hq, rfl⟩, e⟩)
          simp only [cL] at lc so sl tkX
          simp [oNone, oSome, ct1, ct2, lz, so, sl, wipeE, lc, lim, a1, callEnd, EV.out, tkX]
      · have c2 : ∀ q ∈ ps.zip bs, isR q.2 = false := fun q hq => by
          cases e : isR q.2 with
          | true => exact absurd ⟨q, hq, e⟩ c
          | false => rfl
        have a1 := any false (by
          rw [List.any_eq_false]
          intro x hx
          obtain ⟨q, hq, rfl⟩ := List.mem_map.mp hx
          simp [c2 q hq])
        refine .inl ⟨A', l, c2, g', hm, rfl, ?_⟩
        rw [← hXe]
        simp only [cL] at lc so sl tkX
        have hn : ¬ X.length < μ.length := by omega
        simp [oNone, oSome, ct1, ct2, lz, so, sl, wipeE, lc, lim, a1, callEnd, EV.out, tkX, hn]
  have whole : P_matched_args = P_matched_args := rfl
  by_cases c : bs.length < ps.length ∨ (o = none ∧ ps.length < bs.length)
  · rw [if_pos c]
    unfold P_matched_args
    refine .inr ⟨μ, rfl, fun l h => (by cases h), ?_⟩
    cases o with
    | none =>
      simp only [rT, List.append_nil] at *
      have hne : bs.length ≠ ps.length := by
        rcases c with c | ⟨_, c⟩ <;> omega
      rcases List.eq_nil_or_concat ps with rfl | ⟨L, a, rfl⟩
      · have ne' : opCmp .NotEq (.tup (ds [])) (.tup []) = some false := ne
        have bla' : bLen [.tup (ds [])] = some (.dat (.int 0)) := bla
        have sne' : opCmp .NotEq (.int (bs.length : Nat)) (.int 0) = some true := by
          have := sne
          simp only [List.length_nil] at this hne
          rw [decide_eq_true hne] at this
          exact this
        simp [startE, bla', ne', blb, sne', callEnd, EV.out]
      · simp only [List.concat_eq_append] at *
        have ha := hps a (by simp)
        have nl : (L ++ [a]).isEmpty = false := by simp
        rw [nl] at ne
        rw [decide_eq_true hne] at sne
        simp [startE, bla, ne, eNeg, ds_last, s_isRest, ha, blb] at sne ⊢
        simp [sne, callEnd, EV.out]
    | some x =>
      simp only [rT] at *
      have c1 : bs.length < ps.length := c.elim id fun z => by cases z.1
      have nl : (ps ++ [Tm.rst x]).isEmpty = false := by simp
      rw [nl] at ne
      have dl : opIx (.tup (ds (ps ++ [Tm.rst x]))) (.int (-1)) = some (.dat (Tm.rst x).d) := ds_last ps (.rst x)
      rw [decide_eq_true c1] at slt
      simp [startE, bla, ne, eNeg, dl, s_isRest, isR, subI, blb, slt, callEnd, EV.out]
  · rw [if_neg c]
    have c1 : ¬ bs.length < ps.length := fun z => c (.inl z)
    have hle : ps.length ≤ bs.length := by omega
    cases o with
    | none =>
      have c2 : ¬ ps.length < bs.length := fun z => c (.inr ⟨rfl, z⟩)
      have heq : bs.length = ps.length := by omega
      have hs : μ.set j (dC A) = μ := by
        apply List.ext_getElem?
        intro i
        by_cases hi : j = i
        · subst hi; rw [List.getElem?_set_self hjl, hj]
        · rw [List.getElem?_set_ne hi]
      have tl := tail A [] μ rfl hle g (by simp) hs.symm none none
      have sne' : opCmp .NotEq (.int (bs.length : Nat)) (.int (ps.length : Nat)) = some false := by rw [sne]; simp [heq]
      have red : ∀ r : Res EV, callEnd μ.length (((sSeq (sSet 4 (eCb fLzip (evs [eSl (eV 1) (oNone) (oSome (eV 3)), eSl (eV 2) (oNone) (oSome (eV 3))]))) (sRet (eIf (bTru (eCb bAny (evs [eLc (iOf (eV 4)) (.tup [.nm 5, .nm 6]) (bYes) (eCall 5 (evs [eV 6])) [5, 6]]))) (eC .non) (eV 4)))) : SS) (VM.run T (n + 2)) [some (.cel j), some (.dat (.tup (ds (ps ++ rT none)))), some (.dat (.tup (ds bs))), some (.dat (.int (ps.length : Nat))), none, none, none] μ) = r →
          callEnd μ.length (P_matched_args (VM.run T (n + 2)) (startE 7 [.cel j, .dat (.tup (ds (ps ++ rT none))), .dat (.tup (ds bs))]) μ) = r := fun r hr => by
        have hP : P_matched_args = sSeq ((sSet 3 (eCb bLen (evs [eV 1])))) (sSeq ((sIf (bAnd (bCmp (opCmp .NotEq) (eV 1) (eTup (evs []))) (bTru (eCall 5 (evs [eIx (eV 1) (eNeg (eC (.int 1)))])))) (sSeq (sSet 3 (eBin .Sub (eV 3) (eC (.int 1)))) (sIf (bOr (bCmp (opCmp .Lt) (eCb bLen (evs [eV 2])) (eV 3)) (bNot (bTru (eCall 20 (evs [eV 0, eSl (eIx (eV 1) (eNeg (eC (.int 1)))) (oSome (eC (.int 1))) (oNone), eSl (eV 2) (oSome (eV 3)) (oNone)]))))) (sRet (eC .non)) (sPass))) (sIf (bCmp (opCmp .NotEq) (eCb bLen (evs [eV 2])) (eV 3)) (sRet (eC .non)) (sPass)))) ((sSeq (sSet 4 (eCb fLzip (evs [eSl (eV 1) (oNone) (oSome (eV 3)), eSl (eV 2) (oNone) (oSome (eV 3))]))) (sRet (eIf (bTru (eCb bAny (evs [eLc (iOf (eV 4)) (.tup [.nm 5, .nm 6]) (bYes) (eCall 5 (evs [eV 6])) [5, 6]]))) (eC .non) (eV 4)))))) := rfl
        rw [hP]
        generalize ((sSeq (sSet 4 (eCb fLzip (evs [eSl (eV 1) (oNone) (oSome (eV 3)), eSl (eV 2) (oNone) (oSome (eV 3))]))) (sRet (eIf (bTru (eCb bAny (evs [eLc (iOf (eV 4)) (.tup [.nm 5, .nm 6]) (bYes) (eCall 5 (evs [eV 6])) [5, 6]]))) (eC .non) (eV 4)))) : SS) = TL at *
        simp only [rT, List.append_nil] at *
        rcases List.eq_nil_or_concat ps with rfl | ⟨L, a, rfl⟩
        · have ne' : opCmp .NotEq (.tup (ds [])) (.tup []) = some false := ne
          have bla' : bLen [.tup (ds [])] = some (.dat (.int 0)) := bla
          have sne2 : opCmp .NotEq (.int (bs.length : Nat)) (.int 0) = some false := sne'
          have hr' : callEnd μ.length (TL (VM.run T (n + 2)) [some (.cel j), some (.dat (.tup (ds []))), some (.dat (.tup (ds bs))), some (.dat (.int 0)), none, none, none] μ) = r := hr
          simp [startE, bla', ne', blb, sne2, hr']
        · simp only [List.concat_eq_append] at *
          have ha := hps a (by simp)
          have nl : (L ++ [a]).isEmpty = false := by simp
          rw [nl] at ne
          simp [startE, bla, ne, eNeg, ds_last, s_isRest, ha, blb] at sne' hr ⊢
          simp [sne', hr]
      rcases tl with ⟨A', l', h1, h2, h3, h4, h5⟩ | ⟨μ', h1, h2, h3⟩
      · exact .inl ⟨A', l', h1, h2, h3, h4, red _ h5⟩
      · exact .inr ⟨μ', h1, h2, red _ h3⟩
    | some x =>
      have dl : opIx (.tup (ds (ps ++ rT (some x)))) (.int (-1)) = some (.dat (Tm.rst x).d) := ds_last ps (.rst x)
      have nl : (ps ++ rT (some x)).isEmpty = false := by simp [rT]
      rw [nl] at ne
      have slt' : opCmp .Lt (.int (bs.length : Nat)) (.int (ps.length : Nat)) = some false := by rw [slt]; simp [c1]
      have ct3 := cut_from (ds := ds bs) (k := ps.length) (by rw [ds_len]; omega)
      rw [ds_drop] at ct3
      have ln1 : (ps.length : Int) + ((rT (some x)).length : Int) - 1 = (ps.length : Int) := by simp [rT]
      have hfit : fits 64 (Bv.l (bs.drop ps.length)).d = true := fit_l (by
        have := deps_app (bs.take ps.length) (bs.drop ps.length)
        rw [List.take_append_drop] at this
        omega)
      have hzb : zb (.l (bs.drop ps.length)) ≤ 450 := by
        have := szs_app (bs.take ps.length) (bs.drop ps.length)
        rw [List.take_append_drop] at this
        show szs _ ≤ _
        omega
      have hP : P_matched_args = sSeq ((sSet 3 (eCb bLen (evs [eV 1])))) (sSeq ((sIf (bAnd (bCmp (opCmp .NotEq) (eV 1) (eTup (evs []))) (bTru (eCall 5 (evs [eIx (eV 1) (eNeg (eC (.int 1)))])))) (sSeq (sSet 3 (eBin .Sub (eV 3) (eC (.int 1)))) (sIf (bOr (bCmp (opCmp .Lt) (eCb bLen (evs [eV 2])) (eV 3)) (bNot (bTru (eCall 20 (evs [eV 0, eSl (eIx (eV 1) (eNeg (eC (.int 1)))) (oSome (eC (.int 1))) (oNone), eSl (eV 2) (oSome (eV 3)) (oNone)]))))) (sRet (eC .non)) (sPass))) (sIf (bCmp (opCmp .NotEq) (eCb bLen (evs [eV 2])) (eV 3)) (sRet (eC .non)) (sPass)))) ((sSeq (sSet 4 (eCb fLzip (evs [eSl (eV 1) (oNone) (oSome (eV 3)), eSl (eV 2) (oNone) (oSome (eV 3))]))) (sRet (eIf (bTru (eCb bAny (evs [eLc (iOf (eV 4)) (.tup [.nm 5, .nm 6]) (bYes) (eCall 5 (evs [eV 6])) [5, 6]]))) (eC .non) (eV 4)))))) := rfl
      rw [hP]
      rcases s_held (n := n + 1) (k := .r x) (b := .l (bs.drop ps.length)) hj g hfit with ⟨A', e1, e2⟩ | ⟨e1, e2⟩
      · have g' := g.add1 e1 (by rfl) hfit hzb
        have hm : ∀ q, q ∈ A' ↔ q ∈ A ∨ q ∈ [(Kv.r x, Bv.l (bs.drop ps.length))] := fun q => by
          rcases add1_spec (k := .r x) (b := .l (bs.drop ps.length)) g (by rfl) with ⟨A2, f1, f2, _, _⟩ | ⟨f1, _⟩
          · rw [e1] at f1; cases f1; rw [f2]; simp
          · rw [e1] at f1; cases f1
        have tl := tail A' [(Kv.r x, Bv.l (bs.drop ps.length))] (μ.set j (dC A')) List.length_set hle g' hm rfl none none
        generalize ((sSeq (sSet 4 (eCb fLzip (evs [eSl (eV 1) (oNone) (oSome (eV 3)), eSl (eV 2) (oNone) (oSome (eV 3))]))) (sRet (eIf (bTru (eCb bAny (evs [eLc (iOf (eV 4)) (.tup [.nm 5, .nm 6]) (bYes) (eCall 5 (evs [eV 6])) [5, 6]]))) (eC .non) (eV 4)))) : SS) = TL at *
        simp only [pn, Bv.d] at e2
        rcases tl with ⟨A2, l', h1, h2, h3, h4, h5⟩ | ⟨μ', h1, h2, h3⟩
        · refine .inl ⟨A2, l', h1, h2, h3, h4, ?_⟩
          simp [startE, bla, ne, eNeg, dl, s_isRest, isR, subI, ln1, blb, slt', oSome, oNone, rest_cut', ct3, e2]
          exact h5
        · refine .inr ⟨μ', h1, h2, ?_⟩
          simp [startE, bla, ne, eNeg, dl, s_isRest, isR, subI, ln1, blb, slt', oSome, oNone, rest_cut', ct3, e2]
          exact h3
      · refine .inr ⟨μ, rfl, fun l' h hC => ?_, ?_⟩
        · rcases add1_spec (k := .r x) (b := .l (bs.drop ps.length)) g (by rfl) with ⟨A2, f1, _⟩ | ⟨f1, cc, hc, hne⟩
          · rw [e1] at f1; cases f1
          · cases hz : csz (ps.zip bs) with
            | none => rw [hz] at h; cases h
            | some l0 =>
              rw [hz] at h
              simp only [Option.map_some, Option.some.injEq] at h
              subst h
              exact hne (hC (.r x) cc _ (by simp [hc]) (by simp))
        · generalize ((sSeq (sSet 4 (eCb fLzip (evs [eSl (eV 1) (oNone) (oSome (eV 3)), eSl (eV 2) (oNone) (oSome (eV 3))]))) (sRet (eIf (bTru (eCb bAny (evs [eLc (iOf (eV 4)) (.tup [.nm 5, .nm 6]) (bYes) (eCall 5 (evs [eV 6])) [5, 6]]))) (eC .non) (eV 4)))) : SS) = TL at *
          simp only [pn, Bv.d] at e2
          simp [startE, bla, ne, eNeg, dl, s_isRest, isR, subI, ln1, blb, slt', oSome, oNone, rest_cut', ct3, e2, callEnd, EV.out]
end
end K16
set_option maxHeartbeats 0
/-! k16: the program's matching, 2. -/
namespace K16
open VM Law
open L2 (atI ixN)
def opl (x y : Option AL) : Option AL := x.bind fun l => y.map (l ++ ·)
def CE (x y : Option AL) : Prop := (x = none ∧ y = none) ∨ ∃ l l', x = some l ∧ y = some l' ∧ ∀ q, q ∈ l ↔ q ∈ l'
theorem CE.rfl' {x : Option AL} : CE x x := by
  cases x with
  | none => exact .inl ⟨rfl, rfl⟩
  | some l => exact .inr ⟨l, l, rfl, rfl, fun _ => Iff.rfl⟩
theorem CE.trans {x y z : Option AL} (a : CE x y) (b : CE y z) : CE x z := by
  rcases a with ⟨rfl, rfl⟩ | ⟨l, l', rfl, rfl, h⟩
  · rcases b with ⟨_, rfl⟩ | ⟨l, l', e, _⟩
    · exact .inl ⟨rfl, rfl⟩
    · cases e
  · rcases b with ⟨e, _⟩ | ⟨l2, l3, e, rfl, h2⟩
    · cases e
    · cases e
      exact .inr ⟨l, l3, rfl, rfl, fun q => (h q).trans (h2 q)⟩
theorem CE.congr {x x' y y' : Option AL} (a : CE x x') (b : CE y y') : CE (opl x y) (opl x' y') := by
  rcases a with ⟨rfl, rfl⟩ | ⟨l, l', rfl, rfl, h⟩
  · exact .inl ⟨rfl, rfl⟩
  · rcases b with ⟨rfl, rfl⟩ | ⟨l2, l3, rfl, rfl, h2⟩
    · exact .inl ⟨rfl, rfl⟩
    · refine .inr ⟨_, _, rfl, rfl, fun q => ?_⟩
      simp only [List.mem_append, h, h2]
theorem CE.comm (x y : Option AL) : CE (opl x y) (opl y x) := by
  cases x with
  | none => exact .inl ⟨rfl, by cases y <;> rfl⟩
  | some l =>
    cases y with
    | none => exact .inl ⟨rfl, rfl⟩
    | some l' => exact .inr ⟨_, _, rfl, rfl, fun q => by simp only [List.mem_append]; exact Or.comm⟩
theorem csz_app : ∀ P L : List (Tm × Tm), csz (P ++ L) = opl (csz P) (csz L)
  | [], L => by simp [csz, opl]
  | (a, b) :: P, L => by
    simp only [List.cons_append, csz, csz_app P L]
    by_cases h : isR b = true
    · simp [h, opl]
    · simp only [h, if_false, opl]
      cases cs a b with
      | none => simp
      | some l1 =>
        cases csz P with
        | none => simp
        | some l2 =>
          cases csz L with
          | none => simp
          | some l3 => simp
theorem csz_rev : ∀ P : List (Tm × Tm), CE (csz P.reverse) (csz P)
  | [] => CE.rfl'
  | q :: P => by
    rw [List.reverse_cons, csz_app]
    refine ((csz_rev P).congr CE.rfl').trans ((CE.comm _ _).trans ?_)
    rw [← csz_app]
    exact CE.rfl'
theorem csz_ext (P L : List (Tm × Tm)) : CE (csz (P.reverse ++ L)) (opl (csz P) (csz L)) := by
  rw [csz_app]
  exact (csz_rev P).congr CE.rfl'
def Tt (A : AL) (L : List (Tm × Tm)) : Option AL := opl (some A) (csz L)
def Sp (x : Option AL) : Option AL → Prop
  | some A' => GA A' ∧ ∃ l, x = some l ∧ ∀ q, q ∈ A' ↔ q ∈ l
  | none => ∀ l, x = some l → ¬ Cons l
theorem cons_iff {l l' : AL} (h : ∀ q, q ∈ l ↔ q ∈ l') (c : Cons l) : Cons l' := fun k b d hb hd => c k b d ((h _).mpr hb) ((h _).mpr hd)
theorem Sp.ce {x y : Option AL} {r : Option AL} (h : CE x y) (s : Sp x r) : Sp y r := by
  rcases h with ⟨rfl, rfl⟩ | ⟨l, l', rfl, rfl, h⟩
  · exact s
  · cases r with
    | none =>
      intro l2 e c
      cases e
      exact s l rfl (cons_iff (fun q => (h q).symm) c)
    | some A' =>
      obtain ⟨g, l2, e, m⟩ := s
      cases e
      exact ⟨g, l', rfl, fun q => (m q).trans (h q)⟩
/-- a pair on the stack -/
structure Pg (q : Tm × Tm) : Prop where
  ok : okT q.1 = true
  nr : isR q.1 = false
  dp : dep q.1 ≤ 25
  sz : sz q.1 ≤ 450
  nr2 : isR q.2 = false
  dp2 : dep q.2 ≤ 25
  sz2 : K16.sz q.2 ≤ 450
section
variable {n : Nat}
def MR (n j fuel : Nat) (o0 o1 a4 a5 a6 a7 : Option SV) (A : AL) (L : List (Tm × Tm)) (X : Sto) : Prop :=
  (∃ (A' : AL) (b4 b5 b6 b7 : Option SV) (Y : Sto), Sp (Tt A L) (some A') ∧ Y.take j = X.take j ∧ Y[j]? = some (dC A') ∧
    whL ((bCmp (opCmp .NotEq) (eV 3) (eLst (evs []))) (VM.run T (n + 4))) ((sSeq (sAsg (eCM aPop (eV 3) (evs [])) (gTp [gNm 4, gNm 5])) (sIf (bTru (eCall 3 (evs [eV 4]))) (sIf (bNot (bTru (eCall 20 (evs [eV 2, eV 4, eV 5])))) (sRet (eC .non)) (sPass)) (sIf (bOr (bNot (bTru (eCall 6 (evs [eV 4])))) (bNot (bTru (eCall 6 (evs [eV 5]))))) (sIf (bCmp (opCmp .NotEq) (eV 4) (eV 5)) (sRet (eC .non)) (sPass)) (sSeq (sSet 6 (eIf (bTru (eCall 3 (evs [eIx (eV 4) (eC (.int 0))]))) (eCall 20 (evs [eV 2, eIx (eV 4) (eC (.int 0)), eIx (eV 5) (eC (.int 0))])) (eCmp (opCmp .Eq) (eIx (eV 4) (eC (.int 0))) (eIx (eV 5) (eC (.int 0)))))) (sSeq (sSet 7 (eIf (bTru (eV 6)) (eCall 21 (evs [eV 2, eIx (eV 4) (eC (.int 1)), eIx (eV 5) (eC (.int 1))])) (eC .non))) (sSeq (sIf (bCmp (opCmp .Is) (eV 7) (eC .non)) (sRet (eC .non)) (sPass)) (sDrop (eCM aExtend (eV 3) (evs [eV 7]))))))))) (VM.run T (n + 4))) fuel [o0, o1, some (.cel j), some (.cel (j + 1)), a4, a5, a6, a7] X = .ok (.nx [o0, o1, some (.cel j), some (.cel (j + 1)), b4, b5, b6, b7]) Y) ∨
  ∃ Y : Sto, Sp (Tt A L) none ∧ Y.take j = X.take j ∧ whL ((bCmp (opCmp .NotEq) (eV 3) (eLst (evs []))) (VM.run T (n + 4))) ((sSeq (sAsg (eCM aPop (eV 3) (evs [])) (gTp [gNm 4, gNm 5])) (sIf (bTru (eCall 3 (evs [eV 4]))) (sIf (bNot (bTru (eCall 20 (evs [eV 2, eV 4, eV 5])))) (sRet (eC .non)) (sPass)) (sIf (bOr (bNot (bTru (eCall 6 (evs [eV 4])))) (bNot (bTru (eCall 6 (evs [eV 5]))))) (sIf (bCmp (opCmp .NotEq) (eV 4) (eV 5)) (sRet (eC .non)) (sPass)) (sSeq (sSet 6 (eIf (bTru (eCall 3 (evs [eIx (eV 4) (eC (.int 0))]))) (eCall 20 (evs [eV 2, eIx (eV 4) (eC (.int 0)), eIx (eV 5) (eC (.int 0))])) (eCmp (opCmp .Eq) (eIx (eV 4) (eC (.int 0))) (eIx (eV 5) (eC (.int 0)))))) (sSeq (sSet 7 (eIf (bTru (eV 6)) (eCall 21 (evs [eV 2, eIx (eV 4) (eC (.int 1)), eIx (eV 5) (eC (.int 1))])) (eC .non))) (sSeq (sIf (bCmp (opCmp .Is) (eV 7) (eC .non)) (sRet (eC .non)) (sPass)) (sDrop (eCM aExtend (eV 3) (evs [eV 7]))))))))) (VM.run T (n + 4))) fuel [o0, o1, some (.cel j), some (.cel (j + 1)), a4, a5, a6, a7] X = .ok (.rt (.dat .non)) Y
theorem MR.step {j fuel : Nat} {o0 o1 a4 a5 a6 a7 c4 c5 c6 c7 : Option SV} {A A1 : AL} {L L1 : List (Tm × Tm)} {X X1 : Sto} (ih : MR n j fuel o0 o1 c4 c5 c6 c7 A1 L1 X1) (ce : CE (Tt A1 L1) (Tt A L)) (tk : X1.take j = X.take j)
    (hw : whL ((bCmp (opCmp .NotEq) (eV 3) (eLst (evs []))) (VM.run T (n + 4))) ((sSeq (sAsg (eCM aPop (eV 3) (evs [])) (gTp [gNm 4, gNm 5])) (sIf (bTru (eCall 3 (evs [eV 4]))) (sIf (bNot (bTru (eCall 20 (evs [eV 2, eV 4, eV 5])))) (sRet (eC .non)) (sPass)) (sIf (bOr (bNot (bTru (eCall 6 (evs [eV 4])))) (bNot (bTru (eCall 6 (evs [eV 5]))))) (sIf (bCmp (opCmp .NotEq) (eV 4) (eV 5)) (sRet (eC .non)) (sPass)) (sSeq (sSet 6 (eIf (bTru (eCall 3 (evs [eIx (eV 4) (eC (.int 0))]))) (eCall 20 (evs [eV 2, eIx (eV 4) (eC (.int 0)), eIx (eV 5) (eC (.int 0))])) (eCmp (opCmp .Eq) (eIx (eV 4) (eC (.int 0))) (eIx (eV 5) (eC (.int 0)))))) (sSeq (sSet 7 (eIf (bTru (eV 6)) (eCall 21 (evs [eV 2, eIx (eV 4) (eC (.int 1)), eIx (eV 5) (eC (.int 1))])) (eC .non))) (sSeq (sIf (bCmp (opCmp .Is) (eV 7) (eC .non)) (sRet (eC .non)) (sPass)) (sDrop (eCM aExtend (eV 3) (evs [eV 7]))))))))) (VM.run T (n + 4))) (fuel + 1) [o0, o1, some (.cel j), some (.cel (j + 1)), a4, a5, a6, a7] X = whL ((bCmp (opCmp .NotEq) (eV 3) (eLst (evs []))) (VM.run T (n + 4))) ((sSeq (sAsg (eCM aPop (eV 3) (evs [])) (gTp [gNm 4, gNm 5])) (sIf (bTru (eCall 3 (evs [eV 4]))) (sIf (bNot (bTru (eCall 20 (evs [eV 2, eV 4, eV 5])))) (sRet (eC .non)) (sPass)) (sIf (bOr (bNot (bTru (eCall 6 (evs [eV 4])))) (bNot (bTru (eCall 6 (evs [eV 5]))))) (sIf (bCmp (opCmp .NotEq) (eV 4) (eV 5)) (sRet (eC .non)) (sPass)) (sSeq (sSet 6 (eIf (bTru (eCall 3 (evs [eIx (eV 4) (eC (.int 0))]))) (eCall 20 (evs [eV 2, eIx (eV 4) (eC (.int 0)), eIx (eV 5) (eC (.int 0))])) (eCmp (opCmp .Eq) (eIx (eV 4) (eC (.int 0))) (eIx (eV 5) (eC (.int 0)))))) (sSeq (sSet 7 (eIf (bTru (eV 6)) (eCall 21 (evs [eV 2, eIx (eV 4) (eC (.int 1)), eIx (eV 5) (eC (.int 1))])) (eC .non))) (sSeq (sIf (bCmp (opCmp .Is) (eV 7) (eC .non)) (sRet (eC .non)) (sPass)) (sDrop (eCM aExtend (eV 3) (evs [eV 7]))))))))) (VM.run T (n + 4))) fuel [o0, o1, some (.cel j), some (.cel (j + 1)), c4, c5, c6, c7] X1) :
    MR n j (fuel + 1) o0 o1 a4 a5 a6 a7 A L X := by
  rcases ih with ⟨A', b4, b5, b6, b7, Y, s, t, g, e⟩ | ⟨Y, s, t, e⟩
  · exact .inl ⟨A', b4, b5, b6, b7, Y, s.ce ce, t.trans tk, g, hw.trans e⟩
  · exact .inr ⟨Y, s.ce ce, t.trans tk, hw.trans e⟩
theorem MR.stop {j fuel : Nat} {o0 o1 a4 a5 a6 a7 : Option SV} {A : AL} {L : List (Tm × Tm)} {X Y : Sto} (s : Sp (Tt A L) none) (tk : Y.take j = X.take j)
    (hw : whL ((bCmp (opCmp .NotEq) (eV 3) (eLst (evs []))) (VM.run T (n + 4))) ((sSeq (sAsg (eCM aPop (eV 3) (evs [])) (gTp [gNm 4, gNm 5])) (sIf (bTru (eCall 3 (evs [eV 4]))) (sIf (bNot (bTru (eCall 20 (evs [eV 2, eV 4, eV 5])))) (sRet (eC .non)) (sPass)) (sIf (bOr (bNot (bTru (eCall 6 (evs [eV 4])))) (bNot (bTru (eCall 6 (evs [eV 5]))))) (sIf (bCmp (opCmp .NotEq) (eV 4) (eV 5)) (sRet (eC .non)) (sPass)) (sSeq (sSet 6 (eIf (bTru (eCall 3 (evs [eIx (eV 4) (eC (.int 0))]))) (eCall 20 (evs [eV 2, eIx (eV 4) (eC (.int 0)), eIx (eV 5) (eC (.int 0))])) (eCmp (opCmp .Eq) (eIx (eV 4) (eC (.int 0))) (eIx (eV 5) (eC (.int 0)))))) (sSeq (sSet 7 (eIf (bTru (eV 6)) (eCall 21 (evs [eV 2, eIx (eV 4) (eC (.int 1)), eIx (eV 5) (eC (.int 1))])) (eC .non))) (sSeq (sIf (bCmp (opCmp .Is) (eV 7) (eC .non)) (sRet (eC .non)) (sPass)) (sDrop (eCM aExtend (eV 3) (evs [eV 7]))))))))) (VM.run T (n + 4))) (fuel + 1) [o0, o1, some (.cel j), some (.cel (j + 1)), a4, a5, a6, a7] X = .ok (.rt (.dat .non)) Y) : MR n j (fuel + 1) o0 o1 a4 a5 a6 a7 A L X := .inr ⟨Y, s, tk, hw⟩
theorem sp_cs_none {A : AL} {p t : Tm} {L : List (Tm × Tm)} (h : cs p t = none) : Sp (Tt A ((p, t) :: L)) none := fun l e => by
  unfold Tt opl csz at e
  rw [h] at e
  split at e <;> simp at e
theorem sp_conf {A : AL} {p t : Tm} {L : List (Tm × Tm)} {k : Kv} {b c : Bv} (hc : (k, c) ∈ A) (hne : c ≠ b) (hcs : ∀ l, cs p t = some l → (k, b) ∈ l) : Sp (Tt A ((p, t) :: L)) none := fun l e hC => by
  unfold Tt opl csz at e
  cases h : cs p t with
  | none => rw [h] at e; split at e <;> simp at e
  | some l1 =>
    rw [h] at e
    have := hcs l1 h
    split at e
    · simp at e
    · cases hz : csz L with
      | none => rw [hz] at e; simp at e
      | some l2 =>
        rw [hz] at e
        simp at e
        subst e
        exact hne (hC k c b (by simp [hc]) (by simp [this]))
theorem sp_cons {A l : AL} {p t : Tm} {L : List (Tm × Tm)} (h : ∀ l, cs p t = some l → ¬ Cons (A ++ l)) : Sp (Tt A ((p, t) :: L)) none := fun l e hC => by
  unfold Tt opl csz at e
  cases hc : cs p t with
  | none => rw [hc] at e; split at e <;> simp at e
  | some l1 =>
    rw [hc] at e
    split at e
    · simp at e
    · cases hz : csz L with
      | none => rw [hz] at e; simp at e
      | some l2 =>
        rw [hz] at e
        simp at e
        subst e
        refine h l1 hc fun k b c hb hc' => hC k b c ?_ ?_
        · simp only [List.mem_append] at hb ⊢
          exact hb.elim .inl fun z => .inr (.inl z)
        · simp only [List.mem_append] at hc' ⊢
          exact hc'.elim .inl fun z => .inr (.inl z)
theorem tt_cons {A : AL} {p t : Tm} {L : List (Tm × Tm)} (h : isR t = false) : Tt A ((p, t) :: L) = opl (some A) (opl (cs p t) (csz L)) := by
  unfold Tt
  simp only [csz, h, Bool.false_eq_true, if_false]; rfl
end
end K16
set_option maxHeartbeats 0
/-! k16: the program's matching, 3. -/
namespace K16
open VM Law
open L2 (atI ixN)
section
variable {n : Nat}
theorem eq_app {p t : Tm} (hp : dep p ≤ 25) (ht : dep t ≤ 25) : opCmp .NotEq p.d t.d = some (!eqv p.d t.d) := by
  simp only [opCmp]
  rw [opEq_fit (d_fits p 64 (by omega)) (d_fits t 64 (by omega))]; rfl
theorem hS_eq (h g : Fin 6) : opCmp .Eq (.str (hS h)) (.str (hS g)) = some (decide (h = g)) := by revert h g; decide +kernel
theorem is_lst {l : List D} : opCmp .Is (.lst l) .non = some false := rfl
theorem nr_mem {ps bs : List Tm} (h : ∀ q ∈ ps.zip bs, isR q.2 = false) : True := trivial
theorem zip_sz : ∀ (ps bs : List Tm), ((ps.zip bs).map fun q => sz q.1).sum ≤ szs ps
  | [], bs => by simp
  | p :: ps, [] => by simp
  | p :: ps, b :: bs => by
    have := zip_sz ps bs
    simp only [List.zip_cons_cons, List.map_cons, List.sum_cons, szs]; omega
theorem m_loop (o0 o1 : Option SV) (j : Nat) : ∀ (m fuel : Nat) (L : List (Tm × Tm)) (A : AL) (a4 a5 a6 a7 : Option SV) (X : Sto), X[j]? = some (dC A) → X[j + 1]? = some (cL (L.map encP).reverse) → GA A → (∀ q ∈ L, Pg q) → (L.map fun q => sz q.1).sum ≤ m → m < fuel → (L.map fun q => sz q.1).sum ≤ 900 →
    MR n j fuel o0 o1 a4 a5 a6 a7 A L X
  | m, 0, L, A, a4, a5, a6, a7, X, _, _, _, _, _, h, _ => by omega
  | m, fuel + 1, [], A, a4, a5, a6, a7, X, hj, hj1, g, _, _, _, _ => by
    refine .inl ⟨A, a4, a5, a6, a7, X, ⟨g, A, by simp [Tt, opl, csz], fun _ => Iff.rfl⟩, rfl, hj, ?_⟩
    unfold whL
    simp only [cL] at hj1
    simp at hj1
    simp [EV.see, hj1, ne_nil]
  | m, fuel + 1, (p, t) :: L, A, a4, a5, a6, a7, X, hj, hj1, g, hg, h1, h2, h3 => by
    rw [List.map_cons, List.sum_cons] at h1 h3
    obtain ⟨ok, nr, dp, sp, nr2, dp2, sp2⟩ := hg _ List.mem_cons_self
    have hgL : ∀ q ∈ L, Pg q := fun q hq => hg q (List.mem_cons_of_mem _ hq)
    simp only at ok nr dp sp nr2 dp2 sp2 h1 h3
    have hs := sz_pos p
    have hjl : j + 1 < X.length := (List.getElem?_eq_some_iff.mp hj1).1
    have hX' : X[j + 1]? = some ⟨true, .lst ((L.map encP).reverse ++ [.tup [p.d, t.d]])⟩ := by rw [hj1]; simp [cL, encP, pairD]
    have hnn : opCmp .NotEq (.lst ((L.map encP).reverse ++ [.tup [p.d, t.d]])) (.lst []) = some true := by rw [ne_nil]; simp
    have pop : aPop ((L.map encP).reverse ++ [.tup [p.d, t.d]]) [] = some (.tup [p.d, t.d], (L.map encP).reverse) := aPop_c
    have pj : (X.set (j + 1) (cL (L.map encP).reverse))[j]? = some (dC A) := by rw [List.getElem?_set_ne (by omega)]; exact hj
    have pj1 : (X.set (j + 1) (cL (L.map encP).reverse))[j + 1]? = some (cL (L.map encP).reverse) := List.getElem?_set_self hjl
    have tkp : (X.set (j + 1) (cL (L.map encP).reverse)).take j = X.take j := by rw [List.take_set_of_le (by omega)]
    have hLl := sum_len (f := fun q : Tm × Tm => sz q.1) (fun q => sz_pos q.1) L
    generalize hXp : X.set (j + 1) (cL (L.map encP).reverse) = Xp at pj pj1 tkp
    have hXp' : X.set (j + 1) ⟨true, .lst (L.map encP).reverse⟩ = Xp := hXp
    have hXl : Xp.length = X.length := by rw [← hXp, List.length_set]
    cases p with
    | rst x => cases nr
    | var x =>
      rcases s_held (n := n + 3) (k := .v x) (b := .t t) pj g (fit_t dp2) with ⟨A1, e1, e2⟩ | ⟨e1, e2⟩
      · have g1 := g.add1 e1 (by rfl) (fit_t dp2) (by show sz t ≤ 450; omega)
        have pj2 : (Xp.set j (dC A1))[j]? = some (dC A1) := List.getElem?_set_self (by omega)
        have pj3 : (Xp.set j (dC A1))[j + 1]? = some (cL (L.map encP).reverse) := by rw [List.getElem?_set_ne (by omega)]; exact pj1
        have ih := m_loop o0 o1 j (m - 1) fuel L A1 (some (.dat (Tm.var x).d)) (some (.dat t.d)) a6 a7 (Xp.set j (dC A1)) pj2 pj3 g1 hgL (by omega) (by omega) (by omega)
        refine ih.step ?_ (by rw [take_set, tkp]) ?_
        · rw [tt_cons nr2]
          unfold Tt
          rcases add1_spec (k := .v x) (b := .t t) g (by rfl) with ⟨A2, f1, f2, _, _⟩ | ⟨f1, _⟩
          · rw [e1] at f1; cases f1
            simp only [cs]
            cases csz L with
            | none => exact .inl ⟨rfl, rfl⟩
            | some l =>
              refine .inr ⟨_, _, rfl, rfl, fun q => ?_⟩
              simp only [List.mem_append, f2, List.mem_singleton, or_assoc]
          · rw [e1] at f1; cases f1
        · have e2' : VM.run T (n + 4) 20 [.cel j, .dat (Tm.var x).d, .dat t.d] Xp = .ok (.dat (.bl true)) (Xp.set j (dC A1)) := e2
          conv => lhs; unfold whL
          simp [EV.see, hX', hnn, pop, hXp', s_isVar, isV, e2']
      · refine MR.stop (Y := Xp) ?_ tkp ?_
        · rcases add1_spec (k := .v x) (b := .t t) g (by rfl) with ⟨A2, f1, _⟩ | ⟨_, c, hc, hne⟩
          · rw [e1] at f1; cases f1
          · exact sp_conf hc hne fun l hl => by simp only [cs] at hl; cases hl; exact List.mem_singleton.mpr rfl
        · have e2' : VM.run T (n + 4) 20 [.cel j, .dat (Tm.var x).d, .dat t.d] Xp = .ok (.dat (.bl false)) Xp := e2
          unfold whL
          simp [EV.see, hX', hnn, pop, hXp', s_isVar, isV, e2']
    | num i =>
      have ne := eq_app (p := .num i) dp dp2
      by_cases c : eqv (Tm.num i).d t.d = true
      · have ht := (dnum_eq i t).mp c
        rw [c] at ne
        have ih := m_loop o0 o1 j (m - 1) fuel L A (some (.dat (Tm.num i).d)) (some (.dat t.d)) a6 a7 Xp pj pj1 g hgL (by omega) (by omega) (by omega)
        refine ih.step ?_ tkp ?_
        · rw [tt_cons nr2, ht]
          unfold Tt
          simp only [cs, if_true]
          cases csz L with
          | none => exact .inl ⟨rfl, rfl⟩
          | some l => exact .inr ⟨_, _, rfl, rfl, fun q => by simp [opl]⟩
        · conv => lhs; unfold whL
          simp [EV.see, hX', hnn, pop, hXp', s_isVar, isV, s_isApp, isA, ne]
      · have c' : eqv (Tm.num i).d t.d = false := by simpa using c
        rw [c'] at ne
        refine MR.stop (Y := Xp) (sp_cs_none ?_) tkp ?_
        · cases t with
          | num k =>
            have : i ≠ k := fun z => c (by rw [z]; exact eqv_refl_tm _)
            simp [cs, this]
          | _ => rfl
        · unfold whL
          simp [EV.see, hX', hnn, pop, hXp', s_isVar, isV, s_isApp, isA, ne]
    | app hh as =>
      by_cases ta : isA t = true
      · obtain ⟨gg, bs, rfl⟩ : ∃ gg bs, t = .app gg bs := by
          cases t <;> simp [isA] at ta
          exact ⟨_, _, rfl⟩
        simp only [okT] at ok
        simp only [dep] at dp dp2
        simp only [sz] at sp sp2 h1 h3
        -- the heads
        have head : (∃ (A1 l1 : AL), GA A1 ∧ (∀ q, q ∈ A1 ↔ q ∈ A ∨ q ∈ l1) ∧ cs (.app hh as) (.app gg bs) = (csa as bs).map (l1 ++ ·) ∧
            (eIf (bTru (eCall 3 (evs [eIx (eV 4) (eC (.int 0))]))) (eCall 20 (evs [eV 2, eIx (eV 4) (eC (.int 0)), eIx (eV 5) (eC (.int 0))])) (eCmp (opCmp .Eq) (eIx (eV 4) (eC (.int 0))) (eIx (eV 5) (eC (.int 0)))) : SE) (VM.run T (n + 4)) [o0, o1, some (.cel j), some (.cel (j + 1)), some (.dat (Tm.app hh as).d), some (.dat (Tm.app gg bs).d), a6, a7] Xp = .ok (.dat (.bl true)) (Xp.set j (dC A1))) ∨
            (Sp (Tt A ((.app hh as, .app gg bs) :: L)) none ∧ (eIf (bTru (eCall 3 (evs [eIx (eV 4) (eC (.int 0))]))) (eCall 20 (evs [eV 2, eIx (eV 4) (eC (.int 0)), eIx (eV 5) (eC (.int 0))])) (eCmp (opCmp .Eq) (eIx (eV 4) (eC (.int 0))) (eIx (eV 5) (eC (.int 0)))) : SE) (VM.run T (n + 4)) [o0, o1, some (.cel j), some (.cel (j + 1)), some (.dat (Tm.app hh as).d), some (.dat (Tm.app gg bs).d), a6, a7] Xp = .ok (.dat (.bl false)) Xp) := by
          by_cases c : hV hh = true
          · rcases s_held (n := n + 3) (k := .h hh) (b := .h gg) pj g (fit_h gg) with ⟨A1, e1, e2⟩ | ⟨e1, e2⟩
            · have g1 := g.add1 e1 (by rfl) (fit_h gg) (by show (1 : Nat) ≤ 450; omega)
              refine .inl ⟨A1, [(.h hh, .h gg)], g1, fun q => ?_, ?_, ?_⟩
              · rcases add1_spec (k := .h hh) (b := .h gg) g (by rfl) with ⟨A2, f1, f2, _, _⟩ | ⟨f1, _⟩
                · rw [e1] at f1; cases f1; rw [f2]; simp
                · rw [e1] at f1; cases f1
              · simp only [cs, c, if_true, Option.bind_some]
              · simp only [pn, Bv.d] at e2
                simp [ix_app0, s_headVar, c, e2]
            · refine .inr ⟨?_, ?_⟩
              · rcases add1_spec (k := .h hh) (b := .h gg) g (by rfl) with ⟨A2, f1, _⟩ | ⟨_, d, hd, hne⟩
                · rw [e1] at f1; cases f1
                · refine sp_conf hd hne fun l hl => ?_
                  simp only [cs, c, if_true, Option.bind_some] at hl
                  cases hcs : csa as bs with
                  | none => rw [hcs] at hl; cases hl
                  | some l2 => rw [hcs] at hl; simp at hl; subst hl; simp
              · simp only [pn, Bv.d] at e2
                simp [ix_app0, s_headVar, c, e2]
          · have c' : hV hh = false := by simpa using c
            have he := hS_eq hh gg
            by_cases eh : hh = gg
            · refine .inl ⟨A, [], g, fun q => by simp, ?_, ?_⟩
              · subst eh
                simp [cs, c']
              · have hs : Xp.set j (dC A) = Xp := by
                  apply List.ext_getElem?
                  intro i
                  by_cases hi : j = i
                  · subst hi; rw [List.getElem?_set_self (by omega), pj]
                  · rw [List.getElem?_set_ne hi]
                have he' : opCmp .Eq (.str (hS hh)) (.str (hS gg)) = some true := by rw [he]; simp [eh]
                simp [ix_app0, s_headVar, c', he', hs]
            · refine .inr ⟨sp_cs_none (by simp [cs, c', eh]), ?_⟩
              have he' : opCmp .Eq (.str (hS hh)) (.str (hS gg)) = some false := by rw [he]; simp [eh]
              simp [ix_app0, s_headVar, c', he']
        have sva : ∀ X : Sto, VM.run T (n + 4) 3 [.dat (Tm.app hh as).d] X = .ok (.dat (.bl false)) X := fun X => s_isVar (.app hh as)
        have spa : ∀ (h : Fin 6) (as : List Tm) (X : Sto), VM.run T (n + 4) 6 [.dat (Tm.app h as).d] X = .ok (.dat (.bl true)) X := fun h as X => s_isApp (.app h as)
        rcases head with ⟨A1, l1, g1, m1, c1, e1⟩ | ⟨s0, e1⟩
        · have pj2 : (Xp.set j (dC A1))[j]? = some (dC A1) := List.getElem?_set_self (by omega)
          have pj3 : (Xp.set j (dC A1))[j + 1]? = some (cL (L.map encP).reverse) := by rw [List.getElem?_set_ne (by omega)]; exact pj1
          obtain ⟨ps, o, has, hps⟩ : ∃ ps o, as = ps ++ rT o ∧ ∀ a ∈ ps, isR a = false := by
            rcases okA_split ok with h | ⟨ps, x, h, h'⟩
            · exact ⟨as, none, by simp [rT], h⟩
            · exact ⟨ps, some x, h, h'⟩
          rcases s_margs (n := n + 1) has hps pj2 g1 (by omega) (by omega) (by omega : deps bs ≤ 25) (by omega) with ⟨A2, l2, hnr, g2, m2, c2, e2⟩ | ⟨μ', tk2, hbad, e2⟩
          · have hXs : (Xp.set j (dC A1)).set j (dC A2) = Xp.set j (dC A2) := by rw [List.set_set]
            rw [hXs] at e2
            have zl := zip_sz ps bs
            have hsp : szs as = szs ps + szs (rT o) := by rw [has, szs_app]
            have hzl : (ps.zip bs).length ≤ 450 := by
              have := len_szs ps
              rw [List.length_zip]; omega
            have hPg : ∀ q ∈ ps.zip bs, Pg q := fun q hq => by
              obtain ⟨ma, mb⟩ := List.of_mem_zip hq
              have ma' : q.1 ∈ as := by rw [has]; exact List.mem_append.mpr (.inl ma)
              exact ⟨okA_mem ok ma', hps _ ma, by have := deps_mem ma'; omega, by have := szs_mem ma'; omega, hnr q hq, by have := deps_mem mb; omega, by have := szs_mem mb; omega⟩
            have sumr : (((ps.zip bs).reverse ++ L).map fun q => sz q.1).sum = ((ps.zip bs).map fun q => sz q.1).sum + (L.map fun q => sz q.1).sum := by
              rw [List.map_append, List.sum_append, List.map_reverse, List.sum_reverse]
            have hm2 : j + 1 < (Xp.set j (dC A2)).length := by rw [List.length_set]; omega
            have pj4 : (Xp.set j (dC A2))[j]? = some (dC A2) := List.getElem?_set_self (by omega)
            have pj5 : (Xp.set j (dC A2))[j + 1]? = some (cL (L.map encP).reverse) := by rw [List.getElem?_set_ne (by omega)]; exact pj1
            have tk4 : (Xp.set j (dC A2)).take j = X.take j := by rw [take_set, tkp]
            generalize Xp.set j (dC A2) = Xm at e2 hm2 pj4 pj5 tk4
            have e1' : ((((L.map encP).reverse ++ (ps.zip bs).map encP))) = ((((ps.zip bs).reverse ++ L).map encP).reverse) := by simp
            have gN : ∀ (lv : Bool) (d : List D), (Xm ++ [(⟨lv, .lst d⟩ : Cell)])[j + 1]? = some (cL (L.map encP).reverse) := fun lv d => by
              rw [List.getElem?_append_left (by omega)]; exact pj5
            have gx : (Xm ++ [cL ((ps.zip bs).map encP)])[Xm.length]? = some (cL ((ps.zip bs).map encP)) := by simp
            have fz : (EV.cel Xm.length).frz (Xm ++ [cL ((ps.zip bs).map encP)]) = some (.lst ((ps.zip bs).map encP), Xm ++ [(⟨false, .lst ((ps.zip bs).map encP)⟩ : Cell)]) := by
              simp only [EV.frz]
              rw [gx]
              simp [cL, List.set_append, CV.toD]
            have ex := aExtend_c (l := (L.map encP).reverse) (e := (ps.zip bs).map encP) (by rw [List.length_reverse, List.length_map, List.length_map]; exact Nat.le_trans (Nat.add_le_add (by omega : L.length ≤ 900) (by omega : (ps.zip bs).length ≤ 900)) (by decide))
            have ih := m_loop o0 o1 j (m - 1) fuel ((ps.zip bs).reverse ++ L) A2 (some (.dat (Tm.app hh as).d)) (some (.dat (Tm.app gg bs).d)) (some (.dat (.bl true))) (some (.cel Xm.length)) ((Xm ++ [(⟨false, .lst ((ps.zip bs).map encP)⟩ : Cell)]).set (j + 1) (cL (((ps.zip bs).reverse ++ L).map encP).reverse))
              (by rw [List.getElem?_set_ne (by omega), List.getElem?_append_left (by omega)]; exact pj4) (List.getElem?_set_self (by rw [List.length_append]; omega)) g2 (fun q hq => (List.mem_append.mp hq).elim (fun h => hPg q (List.mem_reverse.mp h)) (hgL q)) (by rw [sumr]; omega) (by omega) (by rw [sumr]; omega)
            refine ih.step ?_ ?_ ?_
            · rw [tt_cons nr2, c1, c2]
              unfold Tt
              refine (CE.rfl'.congr (csz_ext _ _)).trans ?_
              cases csz (ps.zip bs) with
              | none => exact .inl ⟨by simp [opl], by simp [opl]⟩
              | some l =>
                cases csz L with
                | none => exact .inl ⟨by simp [opl], by simp [opl]⟩
                | some l' =>
                  refine .inr ⟨_, _, by simp [opl]; rfl, by simp [opl]; rfl, fun q => ?_⟩
                  simp only [List.mem_append, m2, m1]
                  constructor
                  · rintro (((h | h) | h) | h | h)
                    · exact .inl h
                    · exact .inr (.inl h)
                    · exact .inr (.inr (.inr (.inl h)))
                    · exact .inr (.inr (.inl h))
                    · exact .inr (.inr (.inr (.inr h)))
                  · rintro (h | h | h | h | h)
                    · exact .inl (.inl (.inl h))
                    · exact .inl (.inl (.inr h))
                    · exact .inr (.inl h)
                    · exact .inl (.inr h)
                    · exact .inr (.inr h)
            · rw [List.take_set_of_le (by omega), List.take_append_of_le_length (by omega), tk4]
            · rw [← e1']
              conv => lhs; unfold whL
              generalize (eIf (bTru (eCall 3 (evs [eIx (eV 4) (eC (.int 0))]))) (eCall 20 (evs [eV 2, eIx (eV 4) (eC (.int 0)), eIx (eV 5) (eC (.int 0))])) (eCmp (opCmp .Eq) (eIx (eV 4) (eC (.int 0))) (eIx (eV 5) (eC (.int 0)))) : SE) = HE at e1 ⊢
              simp only [cL] at gx fz
              generalize (ps.zip bs).map encP = PL at *
              generalize hRL : (L.map encP).reverse = RL at *
              simp [EV.see, hX', hnn, pop, hXp', sva, spa, e1, ix_app, e2, gx, is_lst, gN, fz, ex, cL]
          · refine MR.stop (Y := μ') ?_ (by rw [tk2, take_set, tkp]) ?_
            · refine sp_cons (l := []) fun l hl hC => ?_
              rw [c1] at hl
              cases hcs : csa as bs with
              | none => rw [hcs] at hl; cases hl
              | some l2 =>
                rw [hcs] at hl
                simp at hl
                subst hl
                refine hbad l2 hcs (cons_iff (fun q => ?_) hC)
                simp only [List.mem_append, m1, or_assoc]
            · unfold whL
              generalize (eIf (bTru (eCall 3 (evs [eIx (eV 4) (eC (.int 0))]))) (eCall 20 (evs [eV 2, eIx (eV 4) (eC (.int 0)), eIx (eV 5) (eC (.int 0))])) (eCmp (opCmp .Eq) (eIx (eV 4) (eC (.int 0))) (eIx (eV 5) (eC (.int 0)))) : SE) = HE at e1 ⊢
              simp [EV.see, hX', hnn, pop, hXp', sva, spa, e1, ix_app, e2, is_non]
        · refine MR.stop (Y := Xp) s0 tkp ?_
          unfold whL
          generalize (eIf (bTru (eCall 3 (evs [eIx (eV 4) (eC (.int 0))]))) (eCall 20 (evs [eV 2, eIx (eV 4) (eC (.int 0)), eIx (eV 5) (eC (.int 0))])) (eCmp (opCmp .Eq) (eIx (eV 4) (eC (.int 0))) (eIx (eV 5) (eC (.int 0)))) : SE) = HE at e1 ⊢
          simp [EV.see, hX', hnn, pop, hXp', sva, spa, e1, is_non]
      · have ta' : isA t = false := by simpa using ta
        have ne := eq_app (p := .app hh as) dp dp2
        have nq : eqv (Tm.app hh as).d t.d = false := by
          cases e : eqv (Tm.app hh as).d t.d with
          | false => rfl
          | true => rw [← eqv_tm _ _ e] at ta'; cases ta'
        rw [nq] at ne
        refine MR.stop (Y := Xp) (sp_cs_none ?_) tkp ?_
        · cases t with
          | app _ _ => cases ta'
          | _ => rfl
        · have sva : ∀ X : Sto, VM.run T (n + 4) 3 [.dat (Tm.app hh as).d] X = .ok (.dat (.bl false)) X := fun X => s_isVar (.app hh as)
          have spa : ∀ (X : Sto), VM.run T (n + 4) 6 [.dat (Tm.app hh as).d] X = .ok (.dat (.bl true)) X := fun X => s_isApp (.app hh as)
          unfold whL
          simp [EV.see, hX', hnn, pop, hXp', sva, spa, s_isApp, ta', ne]
end
end K16
set_option maxHeartbeats 0
/-! k16: the program's steps. -/
namespace K16
open VM Law
open L2 (atI ixN)
section
variable {n : Nat} {μ : Sto}
theorem tt_one {p t : Tm} (h : isR t = false) : Tt [] [(p, t)] = cs p t := by
  rw [tt_cons h]
  simp only [csz, opl]
  cases cs p t <;> simp
theorem s_matching {p t : Tm} (hp : Good p) (ht : Good t) :
    (Mt p t = none ∧ VM.run T (n + 5) 22 [.dat p.d, .dat t.d] μ = .ok (.dat .non) μ) ∨ ∃ A A', Mt p t = some A ∧ GA A' ∧ (∀ q, q ∈ A' ↔ q ∈ A) ∧ VM.run T (n + 5) 22 [.dat p.d, .dat t.d] μ = .ok (.new (dD pn A')) μ := by
  rw [run_at (nl := 8) (b := P_matching) (by rfl)]
  unfold P_matching
  have ml := m_loop (n := n) (some (.dat p.d)) (some (.dat t.d)) μ.length (sz p) LIM [(p, t)] [] none none none none (μ ++ [dC [], cL [encP (p, t)]]) (by simp) (by simp) GA.nil (fun q hq => by
    rw [List.mem_singleton.mp hq]
    exact ⟨hp.ok, hp.nr, hp.dp, hp.sz, ht.nr, ht.dp, ht.sz⟩) (by simp) (lim2 (by have := hp.sz; omega)) (by have := hp.sz; simp; omega)
  have e0 : (D.tup [p.d, t.d]) = encP (p, t) := rfl
  have d0 : (⟨true, .dic [] []⟩ : Cell) = dC [] := rfl
  rcases ml with ⟨A', b4, b5, b6, b7, Y, s, tk, g, e⟩ | ⟨Y, s, tk, e⟩
  · rw [tt_one ht.nr] at s
    obtain ⟨ga, l, hl, hm⟩ := s
    refine .inr ?_
    cases hM : Mt p t with
    | none => exact absurd (cons_iff hm (ga_cons ga)) (mt_none hM ht.dp ht.sz l hl)
    | some A =>
      obtain ⟨l2, e2, _, m2⟩ := mt_mem hM ht.dp ht.sz
      rw [hl] at e2; cases e2
      refine ⟨A, A', rfl, ga, fun q => (hm q).trans (m2 q).symm, ?_⟩
      simp at tk
      simp only [dC] at g
      simp only [cL, List.map_cons, List.map_nil] at e
      have lt : ¬ μ.length < μ.length := Nat.lt_irrefl _
      simp [startE, e0, d0, e, callEnd, EV.out, tk, g]
  · rw [tt_one ht.nr] at s
    refine .inl ⟨?_, ?_⟩
    · cases hM : Mt p t with
      | none => rfl
      | some A =>
        obtain ⟨l, e2, hc, _⟩ := mt_mem hM ht.dp ht.sz
        exact absurd hc (s l e2)
    · simp at tk
      simp only [cL] at e
      simp [startE, e0, d0, e, callEnd, EV.out, tk]
end
end K16
set_option maxHeartbeats 0
/-! the draws -/
namespace K16
open VM Law
open L2 (atI ixN)
/-! the draws -/
def potC (a b : Int) : Cell := ⟨true, .lst [.int a, .int b]⟩
def PotAt (μ : Sto) (k : Nat) : Prop := ∃ a b : Int, μ[k]? = some (potC a b)
def Nxt (μ μ' : Sto) (k : Nat) : Prop := ∃ a b : Int, μ' = μ.set k (potC a b)
section
variable {n k : Nat} {μ μ' μ2 E : Sto}
theorem PotAt.lt (h : PotAt μ k) : k < μ.length := let ⟨_, _, h⟩ := h; (List.getElem?_eq_some_iff.mp h).1
theorem Nxt.refl (h : PotAt μ k) : Nxt μ μ k := by
  obtain ⟨a, b, h⟩ := h
  have hk := (List.getElem?_eq_some_iff.mp h).1
  have e := (List.getElem?_eq_some_iff.mp h).2
  exact ⟨a, b, by rw [← e, List.set_getElem_self]⟩
theorem Nxt.len (h : Nxt μ μ' k) : μ'.length = μ.length := by obtain ⟨a, b, rfl⟩ := h; exact List.length_set
theorem Nxt.pot (h : Nxt μ μ' k) (hk : k < μ.length) : PotAt μ' k := by obtain ⟨a, b, rfl⟩ := h; exact ⟨a, b, List.getElem?_set_self hk⟩
theorem Nxt.trans (h : Nxt μ μ' k) (g : Nxt μ' μ2 k) : Nxt μ μ2 k := by
  obtain ⟨a, b, rfl⟩ := h
  obtain ⟨c, d, rfl⟩ := g
  exact ⟨c, d, List.set_set ..⟩
theorem PotAt.app (h : PotAt μ k) : PotAt (μ ++ E) k := by
  have := h.lt
  obtain ⟨a, b, h⟩ := h
  exact ⟨a, b, by rw [List.getElem?_append_left this]; exact h⟩
theorem Nxt.app (hk : k < μ.length) (h : Nxt (μ ++ E) μ' k) : ∃ μ1, μ' = μ1 ++ E ∧ Nxt μ μ1 k := by
  obtain ⟨a, b, rfl⟩ := h
  exact ⟨μ.set k (potC a b), by rw [List.set_append_left _ _ hk], a, b, rfl⟩
theorem ixl0 {a b : Int} : opIx (.lst [.int a, .int b]) (.int 0) = some (.dat (.int a)) := by
  unfold opIx L2.atI L2.ixN
  simp
theorem ixl1 {a b : Int} : opIx (.lst [.int a, .int b]) (.int 1) = some (.dat (.int b)) := by
  unfold opIx L2.atI L2.ixN
  simp
theorem s_draw (hp : PotAt μ k) (m : Int) (h0 : 0 < m) (h1 : m < 1073741824) : ∃ (d : Nat) (μ' : Sto), (d : Int) < m ∧ Nxt μ μ' k ∧ VM.run T (n + 1) 27 [.cel k, .dat (.int m)] μ = .ok (.dat (.int d)) μ' := by
  have hk := hp.lt
  obtain ⟨a, b, h⟩ := hp
  unfold potC at h
  have tk : ∀ c : Cell, (μ.set k c).take μ.length = μ.set k c := fun c => List.take_of_length_le (by rw [List.length_set]; exact Nat.le_refl _)
  have fin : ∀ (d : Int) (μ' : Sto), 0 ≤ d → d < m → Nxt μ μ' k → VM.run T (n + 1) 27 [.cel k, .dat (.int m)] μ = .ok (.dat (.int d)) μ' → ∃ (d : Nat) (μ' : Sto), (d : Int) < m ∧ Nxt μ μ' k ∧ VM.run T (n + 1) 27 [.cel k, .dat (.int m)] μ = .ok (.dat (.int d)) μ' := fun d μ' e0 e1 nx e => by
    obtain ⟨d', rfl⟩ : ∃ d' : Nat, d = d' := ⟨d.toNat, by omega⟩
    exact ⟨d', μ', e1, nx, e⟩
  rw [run_at (nl := 3) (b := P__law_draw) (by rfl)] at fin ⊢
  unfold P__law_draw at fin ⊢
  by_cases ha : 0 < a
  · refine fin (a % m) (μ.set k (potC (a / m) b)) (Int.emod_nonneg _ (by omega)) (Int.emod_lt_of_pos _ h0) ⟨_, _, rfl⟩ ?_
    simp [startE, EV.see, h, ixl0, opCmp, VM.opI, ha, bDivmod, h0, h1, gSb, VM.putAt, ixN, VM.callEnd, EV.out, tk, potC]
  · let p : Int := (b * 48271 + 7229) % 2147483587
    have p0 : 0 ≤ p := Int.emod_nonneg _ (by decide)
    have p1 : p < 2147483587 := Int.emod_lt_of_pos _ (by decide)
    refine fin (p * p % 2147483549 / 17 % m) (μ.set k (potC a p)) (Int.emod_nonneg _ (by omega)) (Int.emod_lt_of_pos _ h0) ⟨_, _, rfl⟩ ?_
    have m1 : opBin .Mult (.int b) (.int 48271) = some (.dat (.int (b * 48271))) := by simp [opBin, smallI]
    have a1 : opBin .Add (.int (b * 48271)) (.int 7229) = some (.dat (.int (b * 48271 + 7229))) := rfl
    have d1 : opBin .Mod (.int (b * 48271 + 7229)) (.int 2147483587) = some (.dat (.int p)) := rfl
    have sp : smallI p = true := by simp [smallI]; omega
    have m2 : opBin .Mult (.int p) (.int p) = some (.dat (.int (p * p))) := by simp [opBin, sp]
    have d2 : opBin .Mod (.int (p * p)) (.int 2147483549) = some (.dat (.int (p * p % 2147483549))) := rfl
    have d3 : opBin .FloorDiv (.int (p * p % 2147483549)) (.int 17) = some (.dat (.int (p * p % 2147483549 / 17))) := rfl
    have d4 : opBin .Mod (.int (p * p % 2147483549 / 17)) (.int m) = some (.dat (.int (p * p % 2147483549 / 17 % m))) := if_pos h0
    have bi : ∀ i : Int, bInt [.int i] = some (.dat (.int i)) := fun i => rfl
    have g1 : (μ.set k ⟨true, .lst [.int a, .int p]⟩)[k]? = some ⟨true, .lst [.int a, .int p]⟩ := List.getElem?_set_self hk
    simp [startE, EV.see, h, ixl0, ixl1, opCmp, VM.opI, ha, gSb, VM.putAt, ixN, VM.callEnd, EV.out, tk, potC, bi, m1, a1, d1, m2, d2, d3, d4, g1]
theorem s_pick (hp : PotAt μ k) (xs : List D) (h0 : 0 < xs.length) (h1 : xs.length < 1000) : ∃ (x : D) (μ' : Sto), x ∈ xs ∧ Nxt μ μ' k ∧ VM.run T (n + 2) 28 [.cel k, .dat (.lst xs)] μ = .ok (.dat x) μ' := by
  obtain ⟨d, μ', hd, nx, e⟩ := s_draw (n := n) hp (xs.length : Nat) (by omega) (by omega)
  have hd' : d < xs.length := by omega
  refine ⟨xs[d], μ', List.getElem_mem hd', nx, ?_⟩
  rw [run_at (nl := 2) (b := P__law_pick) (by rfl)]
  unfold P__law_pick
  have bl : bLen [.lst xs] = some (.dat (.int xs.length)) := rfl
  have ix : opIx (.lst xs) (.int (d : Nat)) = some (.dat xs[d]) := by
    show (atI xs (d : Nat)).map EV.dat = _
    unfold L2.atI L2.ixN
    rw [if_pos (by omega), if_pos (by omega)]
    simp [List.getElem?_eq_getElem hd']
  have tk : μ'.take μ.length = μ' := List.take_of_length_le (by rw [nx.len]; exact Nat.le_refl _)
  simp [startE, bl, e, ix, VM.callEnd, EV.out, tk]
end

section
variable {n k : Nat} {μ : Sto}
theorem s_pot (ns : List Int) (h : ns.length ≤ 63) : ∃ a b : Int, VM.run T (n + 1) 26 [.dat (.scr ns), .dat (.int 0)] μ = .ok (.new (.lst [.int a, .int b])) μ := by
  rw [run_at (nl := 3) (b := P__law_pot) (by rfl)]
  have bl : bLen [.scr ns] = some (.dat (.int ns.length)) := by
    first | rfl | exact if_pos h
  have fin : ∀ x : Int, ∃ a b : Int, VM.callEnd μ.length (sRet (eLst (evs [eCb bMax (evs [eC (.int 0), eBin .Sub (eV 2) (eBin .Pow (eC (.int 10)) (eC (.int 18)))]), eBin .Add (eBin .Mod (eCb bInt (evs [eBin .Add (eBin .Add (eBin .Mult (eBin .Mod (eCb bInt (evs [eV 2])) (eC (.int 2147483549))) (eC (.int 40014))) (eBin .Mult (eC (.int 5209)) (eV 1))) (eC (.int 101))])) (eC (.int 2147483563))) (eC (.int 1))])) (VM.run T n) [some (.dat (.scr ns)), some (.dat (.int 0)), some (.dat (.int x))] μ) = .ok (.new (.lst [.int a, .int b])) μ := fun x => by
    obtain ⟨y, hy⟩ : ∃ y, y = x % 2147483549 := ⟨_, rfl⟩
    have y0 : 0 ≤ y := by rw [hy]; exact Int.emod_nonneg _ (by decide)
    have y1 : y < 2147483549 := by rw [hy]; exact Int.emod_lt_of_pos _ (by decide)
    have bi : ∀ i : Int, bInt [.int i] = some (.dat (.int i)) := fun i => rfl
    have pw : opBin .Pow (.int 10) (.int 18) = some (.dat (.int 1000000000000000000)) := by simp [opBin]
    have sb : opBin .Sub (.int x) (.int 1000000000000000000) = some (.dat (.int (x - 1000000000000000000))) := rfl
    obtain ⟨a, mx⟩ : ∃ a : Int, bMax [.int 0, .int (x - 1000000000000000000)] = some (.dat (.int a)) := ⟨_, rfl⟩
    have d1 : opBin .Mod (.int x) (.int 2147483549) = some (.dat (.int y)) := by rw [hy]; rfl
    have m1 : opBin .Mult (.int y) (.int 40014) = some (.dat (.int (y * 40014))) := by
      have sp : smallI y = true := by simp [smallI]; omega
      have sq : smallI 40014 = true := by decide
      simp [opBin, sp, sq]
    have m2 : opBin .Mult (.int 5209) (.int 0) = some (.dat (.int 0)) := by rfl
    obtain ⟨z, hz⟩ : ∃ z, z = (y * 40014 + 0 + 101) % 2147483563 := ⟨_, rfl⟩
    have d2 : opBin .Mod (.int (y * 40014 + 0 + 101)) (.int 2147483563) = some (.dat (.int z)) := by rw [hz]; rfl
    refine ⟨a, z + 1, ?_⟩
    generalize VM.run T n = F
    simp only [Int.add_zero] at d2
    simp [bi, pw, sb, mx, d1, m1, m2, addI, d2, VM.callEnd, EV.out]
  unfold P__law_pot
  have e0 : ∃ x : Int, sSet 2 (eIf (bCmp (opCmp .Lt) (eV 1) (eCb bLen (evs [eV 0]))) (eCb bAbs (evs [eIx (eV 0) (eV 1)])) (eBin .Add (eBin .Mult (eC (.int 257)) (eV 1)) (eC (.int 167)))) (VM.run T n) (startE 3 [.dat (.scr ns), .dat (.int 0)]) μ = .ok (.nx [some (.dat (.scr ns)), some (.dat (.int 0)), some (.dat (.int x))]) μ := by
    have m2 : opBin .Mult (.int 257) (.int 0) = some (.dat (.int 0)) := by rfl
    cases ns with
    | nil =>
      have lt : opCmp .Lt (.int 0) (.int 0) = some false := by rfl
      simp at bl
      exact ⟨167, by simp [startE, bl, lt, m2, addI]⟩
    | cons i ns =>
      have lt : opCmp .Lt (.int 0) (.int ((i :: ns).length : Nat)) = some true := by simp [opCmp, VM.opI]
      have ix : opIx (.scr (i :: ns)) (.int 0) = some (.dat (.int i)) := by
        unfold opIx L2.atI L2.ixN
        simp
      have ab : bAbs [.int i] = some (.dat (.int (if i < 0 then -i else i))) := rfl
      generalize ((i :: ns).length : Nat) = len at bl lt
      exact ⟨_, by simp [startE, bl, lt, ix, ab]; rfl⟩
  obtain ⟨x, e0⟩ := e0
  obtain ⟨a, b, e⟩ := fin x
  exact ⟨a, b, by rw [xs_seq, e0]; exact e⟩
end
end K16
set_option maxHeartbeats 0
/-! k16: drawn terms. -/
namespace K16
open VM Law
open L2 (atI ixN)
mutual
/-- V7 does not stand in it -/
def n7 : Tm → Bool
  | .var x => decide (x ≠ 3)
  | .app _ as => n7s as
  | _ => true
def n7s : List Tm → Bool
  | [] => true
  | t :: ts => n7 t && n7s ts
end
theorem n7s_mem : ∀ {ts : List Tm} {t : Tm}, n7s ts = true → t ∈ ts → n7 t = true
  | t' :: ts, t, ho, h => by
    simp only [n7s, Bool.and_eq_true] at ho
    rcases List.mem_cons.mp h with rfl | h
    · exact ho.1
    · exact n7s_mem ho.2 h
theorem n7s_app (a b : List Tm) : n7s (a ++ b) = (n7s a && n7s b) := by
  induction a with
  | nil => simp [n7s]
  | cons t a ih => simp only [List.cons_append, n7s, ih, Bool.and_assoc]
@[simp] theorem lm6 : (6 ≤ LIM) = True := eq_true (by decide)
@[simp] theorem lm7 : (7 ≤ LIM) = True := eq_true (by decide)
@[simp] theorem lm8 : (8 ≤ LIM) = True := eq_true (by decide)
/-- a drawn term -/
structure Dt (s d : Nat) (t : Tm) : Prop where
  ok : okT t = true
  nr : isR t = false
  n7 : K16.n7 t = true
  sz : K16.sz t ≤ s
  dp : dep t ≤ d
def lv1 : List Tm := [.num 0, .num 1, .num (-3), .num 999, .num 4000, .app 0 []]
def lv2 : List Tm := [.var 0, .var 1, .var 2]
theorem lv1_d : lv1.map Tm.d = [.int 0, .int 1, .int (-3), .int 999, .int 4000, .tup [.str "a0", .tup []]] := rfl
theorem lv2_d : lv2.map Tm.d = [.str "X", .str "Y", .str "Z1"] := rfl
theorem lv_ok : ∀ t ∈ lv1 ++ lv2, Dt 1 1 t := by
  intro t h
  simp only [lv1, lv2, List.cons_append, List.nil_append, List.mem_cons, List.not_mem_nil, or_false] at h
  rcases h with rfl | rfl | rfl | rfl | rfl | rfl | rfl | rfl | rfl <;> exact ⟨by simp [okT, okA], rfl, by simp [n7, n7s], by simp [sz, szs], by simp [dep, deps]⟩
theorem Dt.mono {s s' d d' : Nat} {t : Tm} (h : Dt s d t) (hs : s ≤ s') (hd : d ≤ d') : Dt s' d' t := ⟨h.ok, h.nr, h.n7, Nat.le_trans h.sz hs, Nat.le_trans h.dp hd⟩
theorem rst_d : [Tm.rst 0, Tm.rst 1].map Tm.d = [.str "*S", .str "*T"] := rfl
/-- args: drawn ones, perhaps a rest behind -/
structure Da (s d : Nat) (ts : List Tm) : Prop where
  ok : okA ts = true
  n7 : n7s ts = true
  sz : szs ts ≤ s
  dp : deps ts ≤ d
theorem da_of {S d : Nat} : ∀ {ts : List Tm}, (∀ t ∈ ts, Dt S d t) → Da (ts.length * S) d ts ∧ ∀ t ∈ ts, isR t = false
  | [], _ => ⟨⟨rfl, rfl, by simp [szs], by simp [deps]⟩, by simp⟩
  | t :: ts, h => by
    have h1 := h t List.mem_cons_self
    obtain ⟨h2, h3⟩ := da_of fun u hu => h u (List.mem_cons_of_mem _ hu)
    refine ⟨⟨?_, ?_, ?_, ?_⟩, fun u hu => (List.mem_cons.mp hu).elim (fun e => e ▸ h1.nr) (h3 u)⟩
    · simp only [okA, h1.ok, h1.nr, h2.ok]; simp
    · simp only [n7s, h1.n7, h2.n7, Bool.and_self]
    · have := h1.sz; have := h2.sz
      simp only [szs, List.length_cons, Nat.add_mul]; omega
    · have := h1.dp; have := h2.dp
      simp only [deps]; omega
theorem okA_snoc : ∀ {ts : List Tm} {r : Tm}, okA ts = true → (∀ t ∈ ts, isR t = false) → okT r = true → okA (ts ++ [r]) = true
  | [], r, _, _, h => by simp [okA, h]
  | t :: ts, r, h1, h2, h => by
    simp only [okA, Bool.and_eq_true] at h1
    have ih := okA_snoc h1.2 (fun u hu => h2 u (List.mem_cons_of_mem _ hu)) h
    simp only [List.cons_append, okA, h1.1.1, h2 t List.mem_cons_self, ih]
    simp
theorem Da.rest {s d : Nat} {ts : List Tm} (h : Da s d ts) (hr : ∀ t ∈ ts, isR t = false) (hd : 1 ≤ d) (x : Fin 2) : Da (s + 1) d (ts ++ [.rst x]) := by
  refine ⟨okA_snoc h.ok hr rfl, ?_, ?_, ?_⟩
  · rw [n7s_app, h.n7]; rfl
  · have := h.sz; rw [szs_app]; simp only [szs, K16.sz]; omega
  · have := h.dp; rw [deps_app]; simp only [deps, dep]; omega
theorem Da.app {s d : Nat} {ts : List Tm} (h : Da s d ts) (hh : Fin 6) : Dt (s + 1) (d + 1) (.app hh ts) :=
  ⟨by simp only [okT]; exact h.ok, rfl, by simp only [K16.n7]; exact h.n7, by have := h.sz; simp only [K16.sz]; omega, by have := h.dp; simp only [dep]; omega⟩
section
variable {n k : Nat} {μ X : Sto}
theorem lc_st {step : D → Sto → Res (Option D)} {P : Tm → Prop} {L : Nat} (hs : ∀ (d : D) (μ : Sto), PotAt μ k → μ.length = L → ∃ (t : Tm) (μ' : Sto), step d μ = .ok (some t.d) μ' ∧ Nxt μ μ' k ∧ P t) (s : List D) (hl : s.length ≤ LIM) : ∀ (m i : Nat) (μ : Sto), PotAt μ k → μ.length = L → i ≤ s.length → s.length < i + m →
    ∃ (ts : List Tm) (μ' : Sto), lcLoop (.vals s) step m i μ = .ok (ds ts) μ' ∧ Nxt μ μ' k ∧ ts.length = s.length - i ∧ ∀ t ∈ ts, P t
  | 0, i, μ, hp, hL, h1, h2 => by omega
  | m + 1, i, μ, hp, hL, h1, h2 => by
    unfold lcLoop
    simp only [src_vals]
    cases e : s[i]? with
    | none =>
      have : s.length ≤ i := List.getElem?_eq_none_iff.mp e
      exact ⟨[], μ, rfl, .refl hp, by simp; omega, fun t ht => by simp at ht⟩
    | some d =>
      have hi : i < s.length := (List.getElem?_eq_some_iff.mp e).1
      obtain ⟨t, μ1, e1, n1, p1⟩ := hs d μ hp hL
      obtain ⟨ts, μ2, e2, n2, l2, p2⟩ := lc_st hs s hl m (i + 1) μ1 (n1.pot hp.lt) (by rw [n1.len]; exact hL) (by omega) (by omega)
      refine ⟨t :: ts, μ2, ?_, n1.trans n2, by rw [List.length_cons]; omega, fun u hu => (List.mem_cons.mp hu).elim (fun h => h ▸ p1) (p2 u)⟩
      simp only
      rw [if_pos (by omega), e1, Res.bind_ok, e2, Res.bind_ok]; rfl
theorem rng1 (m : Nat) (h : m ≤ 1000) : ∃ s, rangeOf [.dat (.int (m : Nat))] = some (.vals s) ∧ s.length = m := by
  have hc : -1000000 ≤ (m : Int) ∧ (m : Int) ≤ 1000000 := by omega
  exact ⟨_, if_pos hc, by simp⟩
/-- a rest behind the args, now and then: the list lies in the cell behind Y -/
theorem rest_step {ρ : Env} {ts : List Tm} {Y : Sto} {a i m0 : Nat} (ha : ρ[a]? = some (some (.cel k))) (hi : ρ[i]? = some (some (.cel Y.length))) (hm : 0 < m0) (hm1 : m0 < 1000) (hp : PotAt Y k) (hl : ts.length ≤ 900) :
    ∃ (ts' : List Tm) (Z : Sto), (sIf (bCmp (opCmp .Eq) (eCall 27 (evs [eV a, eC (.int (m0 : Nat))])) (eC (.int 0))) (sDrop (eCM aAppend (eV i) (evs [eCall 28 (evs [eV a, eLst (evs [eC (.str "*S"), eC (.str "*T")])])]))) (sPass)) (VM.run T (n + 2)) ρ (Y ++ [cL (ds ts)]) =
      .ok (.nx ρ) (Z ++ [cL (ds ts')]) ∧ Nxt Y Z k ∧ (ts' = ts ∨ ∃ x, ts' = ts ++ [.rst x]) := by
  have hk := hp.lt
  obtain ⟨r, X1, hr, n1, e1⟩ := s_draw (n := n + 1) (μ := Y ++ [cL (ds ts)]) (k := k) hp.app (m0 : Nat) (by omega) (by omega)
  obtain ⟨Y1, rfl, m1⟩ := n1.app hk
  have q : opCmp .Eq (.int (r : Nat)) (.int 0) = some ((r : Int) == 0) := by simp only [opCmp, opEq_int]
  by_cases c : (r : Int) = 0
  · rw [beq_iff_eq.mpr c] at q
    obtain ⟨x, X2, hx, n2, e2⟩ := s_pick (n := n) (μ := Y1 ++ [cL (ds ts)]) (k := k) (m1.pot hk).app ([Tm.rst 0, Tm.rst 1].map Tm.d) (by decide) (by decide)
    obtain ⟨Y2, rfl, m2⟩ := n2.app (by rw [m1.len]; exact hk)
    obtain ⟨t, ht, rfl⟩ := List.mem_map.mp hx
    obtain ⟨xx, rfl⟩ : ∃ xx, t = .rst xx := by
      simp only [List.mem_cons, List.not_mem_nil, or_false] at ht
      rcases ht with rfl | rfl <;> exact ⟨_, rfl⟩
    rw [rst_d] at e2
    have l1 : Y1.length = Y.length := m1.len
    have l2 : Y2.length = Y.length := by rw [m2.len, l1]
    refine ⟨ts ++ [.rst xx], Y2, ?_, m1.trans m2, .inr ⟨xx, rfl⟩⟩
    have ap := aAppend_c (l := ds ts) (d := (Tm.rst xx).d) (by rw [ds_len]; exact lim2 (by omega))
    have ed : ds (ts ++ [Tm.rst xx]) = ds ts ++ [(Tm.rst xx).d] := by rw [ds_app]; rfl
    rw [ed]
    have g1 : (Y1 ++ [cL (ds ts)])[Y.length]? = some (cL (ds ts)) := by rw [← l1]; simp
    have g2 : (Y2 ++ [cL (ds ts)])[Y.length]? = some (cL (ds ts)) := by rw [← l2]; simp
    have s2 : ∀ c : Cell, (Y2 ++ [cL (ds ts)]).set Y.length c = Y2 ++ [c] := fun c => by rw [← l2]; simp
    simp only [cL] at *
    generalize (Tm.rst xx).d = dr at *
    generalize ds ts = LL at *
    simp [ha, hi, e1, q, e2, g1, g2, ap, s2]
  · rw [beq_eq_false_iff_ne.mpr c] at q
    refine ⟨ts, Y1, ?_, m1, .inl rfl⟩
    simp [ha, hi, e1, q]
def Sd : Nat → Nat
  | 0 => 1
  | d + 1 => 2 + 3 * Sd d
theorem Sd_pos (d : Nat) : 1 ≤ Sd d := by cases d <;> simp only [Sd] <;> omega
def hds : List (Fin 6) := [1, 1, 2, 3, 4]
theorem hds_d : (hds.map fun h => D.str (hS h)) = [.str "f", .str "f", .str "g", .str "H", .str "G"] := rfl
theorem l_term : ∀ (d : Nat) (X : Sto), d ≤ 2 → PotAt X k → ∃ (t : Tm) (Y : Sto), VM.run T (n + 3 + d) 29 [.cel k, .dat (.int (d : Nat))] X = .ok (.dat t.d) Y ∧ Nxt X Y k ∧ Dt (Sd d) (d + 1) t
  | d, X, hd2, hp => by
    have hk := hp.lt
    rw [show n + 3 + d = (n + 2 + d) + 1 by omega, run_at (nl := 5) (b := P__law_term) (by rfl)]
    unfold P__law_term
    obtain ⟨wy, X1, hw, n1, e1⟩ := s_draw (n := n + 1 + d) hp 7 (by decide) (by decide)
    rw [show n + 1 + d + 1 = n + 2 + d by omega] at e1
    have hp1 := n1.pot hk
    have tk : ∀ Z : Sto, Z.length = X.length → Z.take X.length = Z := fun Z h => List.take_of_length_le (by rw [h]; exact Nat.le_refl _)
    have q1 : opCmp .Eq (.int (wy : Nat)) (.int 0) = some ((wy : Int) == 0) := by simp only [opCmp, opEq_int]
    have q2 : opCmp .Eq (.int (d : Nat)) (.int 0) = some ((d : Int) == 0) := by simp only [opCmp, opEq_int]
    have q3 : opCmp .Gt (.int (wy : Nat)) (.int 3) = some (decide ((3 : Int) < wy)) := rfl
    have q4 : opCmp .Lt (.int (wy : Nat)) (.int 3) = some (decide ((wy : Int) < 3)) := rfl
    have leaf1 : ((wy : Int) == 0 || ((d : Int) == 0 && decide ((3 : Int) < wy))) = true → ∃ (t : Tm) (Y : Sto), callEnd X.length (P__law_term (VM.run T (n + 2 + d)) (startE 5 [.cel k, .dat (.int (d : Nat))]) X) = .ok (.dat t.d) Y ∧ Nxt X Y k ∧ Dt (Sd d) (d + 1) t := fun hb => by
      obtain ⟨x, X2, hx, n2, e2⟩ := s_pick (n := n + d) hp1 (lv1.map Tm.d) (by decide) (by decide)
      rw [show n + d + 2 = n + 2 + d by omega] at e2
      obtain ⟨t, ht, rfl⟩ := List.mem_map.mp hx
      have l2 := tk X2 (by rw [n2.len, n1.len])
      rw [lv1_d] at e2
      unfold P__law_term
      refine ⟨t, X2, ?_, n1.trans n2, (lv_ok t (List.mem_append.mpr (.inl ht))).mono (Sd_pos d) (by omega)⟩
      cases c1 : ((wy : Int) == 0) with
      | true =>
        rw [c1] at q1
        simp [startE, e1, q1, eNeg, e2, callEnd, EV.out, l2]
      | false =>
        rw [c1] at q1 hb
        simp only [Bool.false_or, Bool.and_eq_true] at hb
        rw [hb.1] at q2
        rw [hb.2] at q3
        simp [startE, e1, q1, q2, q3, eNeg, e2, callEnd, EV.out, l2]
    by_cases b1 : ((wy : Int) == 0 || ((d : Int) == 0 && decide ((3 : Int) < wy))) = true
    · have := leaf1 b1
      unfold P__law_term at this
      exact this
    · clear leaf1
      have b1 : ((wy : Int) == 0 || ((d : Int) == 0 && decide ((3 : Int) < wy))) = false := by simpa using b1
      rw [Bool.or_eq_false_iff] at b1
      rw [b1.1] at q1
      by_cases b2 : (decide ((wy : Int) < 3) || ((d : Int) == 0)) = true
      · obtain ⟨x, X2, hx, n2, e2⟩ := s_pick (n := n + d) hp1 (lv2.map Tm.d) (by decide) (by decide)
        rw [show n + d + 2 = n + 2 + d by omega] at e2
        obtain ⟨t, ht, rfl⟩ := List.mem_map.mp hx
        have l2 := tk X2 (by rw [n2.len, n1.len])
        rw [lv2_d] at e2
        refine ⟨t, X2, ?_, n1.trans n2, (lv_ok t (List.mem_append.mpr (.inr ht))).mono (Sd_pos d) (by omega)⟩
        cases c2 : ((d : Int) == 0) with
        | true =>
          rw [c2] at q2 b1
          have b12 : decide ((3 : Int) < wy) = false := by simpa using b1.2
          rw [b12] at q3
          cases c4 : decide ((wy : Int) < 3) with
          | true => rw [c4] at q4; simp [startE, e1, q1, q2, q3, q4, e2, callEnd, EV.out, l2]
          | false => rw [c4] at q4; simp [startE, e1, q1, q2, q3, q4, e2, callEnd, EV.out, l2]
        | false =>
          rw [c2] at q2 b2
          simp only [Bool.or_false] at b2
          rw [b2] at q4
          simp [startE, e1, q1, q2, q4, e2, callEnd, EV.out, l2]
      · have b2 : (decide ((wy : Int) < 3) || ((d : Int) == 0)) = false := by simpa using b2
        rw [Bool.or_eq_false_iff] at b2
        rw [b2.1] at q4
        rw [b2.2] at q2
        obtain ⟨d', rfl⟩ : ∃ d', d = d' + 1 := ⟨d - 1, by
          have := b2.2
          simp at this
          omega⟩
        obtain ⟨mm, X2, hmm, n2, e2⟩ := s_draw (n := n + 1 + (d' + 1)) hp1 4 (by decide) (by decide)
        rw [show n + 1 + (d' + 1) + 1 = n + 2 + (d' + 1) by omega] at e2
        have hp2 := n2.pot hp1.lt
        obtain ⟨s, rg, sl⟩ := rng1 mm (by omega)
        have slm : s.length ≤ LIM := lim1 (by omega)
        have sb' : opBin .Sub (.int ((d' + 1 : Nat) : Int)) (.int 1) = some (.dat (.int (d' : Nat))) := by
          show some (EV.dat (.int (((d' + 1 : Nat) : Int) - 1))) = _
          congr 3
          omega
        generalize ((d' + 1 : Nat) : Int) = D1 at *
        obtain ⟨ts, X3, lc, n3, tl, tp⟩ := lc_st (k := k) (L := X2.length) (P := Dt (Sd d') (d' + 1))
          (step := lcStep (VM.run T (n + 2 + (d' + 1))) (.nm 4) bYes (eCall 29 (evs [eV 0, eBin .Sub (eV 1) (eC (.int 1))])) [some (.cel k), some (.dat (.int D1)), some (.dat (.int (wy : Nat))), none, none]) (fun d μ hp _ => by
            obtain ⟨t, μ', e, nx, pt⟩ := l_term d' μ (by omega) hp
            rw [show n + 3 + d' = n + 2 + (d' + 1) by omega] at e
            exact ⟨t, μ', by simp [asg, sb', e], nx, pt⟩) s slm (s.length + 1) 0 X2 hp2 rfl (Nat.zero_le _) (by omega)
        have tlm : ts.length ≤ LIM := lim1 (by omega)
        have hp3 := n3.pot hp2.lt
        obtain ⟨da, hnr⟩ := da_of tp
        obtain ⟨ts', X4, er, n4, hts⟩ := rest_step (n := n + (d' + 1)) (a := 0) (i := 3) (m0 := 3) (ρ := [some (.cel k), some (.dat (.int D1)), some (.dat (.int (wy : Nat))), some (.cel X3.length), none]) (ts := ts) rfl rfl (by decide) (by decide) hp3 (by omega)
        rw [show n + (d' + 1) + 2 = n + 2 + (d' + 1) by omega] at er
        have hp4 := n4.pot hp3.lt
        obtain ⟨x, X5, hx, n5, e5⟩ := s_pick (n := n + (d' + 1)) (μ := X4 ++ [cL (ds ts')]) (k := k) hp4.app (hds.map fun h => D.str (hS h)) (by decide) (by decide)
        rw [show n + (d' + 1) + 2 = n + 2 + (d' + 1) by omega] at e5
        obtain ⟨X6, rfl, n6⟩ := n5.app (by exact hp4.lt)
        obtain ⟨hh, _, rfl⟩ := List.mem_map.mp hx
        rw [hds_d] at e5
        have nn := ((n1.trans n2).trans n3).trans (n4.trans n6)
        refine ⟨.app hh ts', X6, ?_, nn, ?_⟩
        · have l6 : X6.length = X.length := nn.len
          have l36 : X3.length = X6.length := by rw [n6.len, n4.len]
          have s6 : (EV.cel X3.length).see (X6 ++ [cL (ds ts')]) = some (.lst (ds ts')) := by rw [l36]; simp [EV.see, cL]
          have tk6 : (X6 ++ [cL (ds ts')]).take X.length = X6 := by rw [← l6]; simp
          have bt : bTuple [.lst (ds ts')] = some (.dat (.tup (ds ts'))) := rfl
          have ed : (Tm.app hh ts').d = .tup [.str (hS hh), .tup (ds ts')] := rfl
          rw [ed]
          simp only [cL] at er e5 s6 tk6
          generalize hP : (sIf (bCmp (opCmp .Eq) (eCall 27 (evs [eV 0, eC (.int ((3 : Nat) : Int))])) (eC (.int 0))) (sDrop (eCM aAppend (eV 3) (evs [eCall 28 (evs [eV 0, eLst (evs [eC (.str "*S"), eC (.str "*T")])])]))) (sPass)) = PP at er
          have hP' : (sIf (bCmp (opCmp .Eq) (eCall 27 (evs [eV 0, eC (.int 3)])) (eC (.int 0))) (sDrop (eCM aAppend (eV 3) (evs [eCall 28 (evs [eV 0, eLst (evs [eC (.str "*S"), eC (.str "*T")])])]))) (sPass)) = PP := hP
          try rw [hP']
          simp [startE, e1, q1, q2, q4, e2, rg, wipeE, lc, ds_len, tlm, er, e5, s6, bt, callEnd, EV.out, tk6]
        · have h3 : ts.length * Sd d' ≤ 3 * Sd d' := Nat.mul_le_mul_right _ (by omega)
          rcases hts with rfl | ⟨xx, rfl⟩
          · exact (da.app hh).mono (by simp only [Sd]; omega) (by omega)
          · exact ((da.rest hnr (by omega) xx).app hh).mono (by simp only [Sd]; omega) (by omega)
end
end K16
set_option maxHeartbeats 0
/-! k16: great terms. -/
namespace K16
open VM Law
open L2 (atI ixN)
def Ext (μ X : Sto) (k : Nat) : Prop := ∃ μc E : Sto, X = μc ++ E ∧ Nxt μ μc k
section
variable {n k j : Nat} {μ X Y E : Sto} {c : Cell}
theorem Ext.refl (h : PotAt μ k) : Ext μ μ k := ⟨μ, [], by simp, .refl h⟩
theorem Ext.nxt (hk : k < μ.length) (h : Ext μ X k) (g : Nxt X Y k) : Ext μ Y k := by
  obtain ⟨μc, E, rfl, n1⟩ := h
  obtain ⟨μ2, rfl, n2⟩ := g.app (by rw [n1.len]; exact hk)
  exact ⟨μ2, E, rfl, n1.trans n2⟩
theorem Ext.push (h : Ext μ X k) : Ext μ (X ++ E) k := by
  obtain ⟨μc, E', rfl, n1⟩ := h
  exact ⟨μc, E' ++ E, by simp, n1⟩
theorem Ext.fin (h : Ext μ X k) : Nxt μ (X.take μ.length) k := by
  obtain ⟨μc, E, rfl, n1⟩ := h
  rw [← n1.len]
  simpa using n1
def hdW : List (Fin 6) := [1, 3]
def hdP : List (Fin 6) := [1, 2, 3]
theorem hdW_d : (hdW.map fun h => D.str (hS h)) = [.str "f", .str "H"] := rfl
theorem hdP_d : (hdP.map fun h => D.str (hS h)) = [.str "f", .str "g", .str "H"] := rfl
theorem l_great (hp : PotAt X k) : ∃ (t : Tm) (Y : Sto), VM.run T (n + 6) 30 [.cel k] X = .ok (.dat t.d) Y ∧ Nxt X Y k ∧ Dt 102 14 t := by
  have hk := hp.lt
  rw [run_at (nl := 5) (b := P__law_great) (by rfl)]
  obtain ⟨w0, X1, hw, n1, e1⟩ := s_draw (n := n + 4) hp 2 (by decide) (by decide)
  have hp1 := n1.pot hk
  have q1 : opCmp .Eq (.int (w0 : Nat)) (.int 0) = some ((w0 : Int) == 0) := by simp only [opCmp, opEq_int]
  by_cases c : (w0 : Int) = 0
  · rw [beq_iff_eq.mpr c] at q1
    obtain ⟨mm, X2, hmm, n2, e2⟩ := s_draw (n := n + 4) hp1 13 (by decide) (by decide)
    have hp2 := n2.pot hp1.lt
    obtain ⟨s, rg, sl⟩ := rng1 (8 + mm) (by omega)
    have slm : s.length ≤ LIM := lim1 (by omega)
    have ec : ((8 + mm : Nat) : Int) = 8 + (mm : Nat) := by omega
    rw [ec] at rg
    obtain ⟨ts, X3, lc, n3, tl, tp⟩ := lc_st (k := k) (L := X2.length) (P := Dt 5 2)
      (step := lcStep (VM.run T (n + 5)) (.nm 3) bYes (eCall 29 (evs [eV 0, eC (.int 1)])) [some (.cel k), none, none, none, none]) (fun d μ hp _ => by
        obtain ⟨t, μ', e, nx, pt⟩ := l_term (n := n + 1) 1 μ (by decide) hp
        rw [show n + 1 + 3 + 1 = n + 5 by omega] at e
        exact ⟨t, μ', by simp at e; simp [asg, e], nx, pt⟩) s slm (s.length + 1) 0 X2 hp2 rfl (Nat.zero_le _) (by omega)
    have tlm : ts.length ≤ LIM := lim1 (by omega)
    have hp3 := n3.pot hp2.lt
    obtain ⟨da, hnr⟩ := da_of tp
    obtain ⟨ts', X4, er, n4, hts⟩ := rest_step (n := n + 3) (a := 0) (i := 1) (m0 := 2) (ρ := [some (.cel k), some (.cel X3.length), none, none, none]) (ts := ts) rfl rfl (by decide) (by decide) hp3 (by omega)
    have hp4 := n4.pot hp3.lt
    obtain ⟨x, X5, hx, n5, e5⟩ := s_pick (n := n + 3) (μ := X4 ++ [cL (ds ts')]) (k := k) hp4.app (hdW.map fun h => D.str (hS h)) (by decide) (by decide)
    obtain ⟨X6, rfl, n6⟩ := n5.app (by exact hp4.lt)
    obtain ⟨hh, _, rfl⟩ := List.mem_map.mp hx
    rw [hdW_d] at e5
    have nn := ((n1.trans n2).trans n3).trans (n4.trans n6)
    refine ⟨.app hh ts', X6, ?_, nn, ?_⟩
    · unfold P__law_great
      have l6 : X6.length = X.length := nn.len
      have l36 : X3.length = X6.length := by rw [n6.len, n4.len]
      have s6 : (EV.cel X3.length).see (X6 ++ [cL (ds ts')]) = some (.lst (ds ts')) := by rw [l36]; simp [EV.see, cL]
      have tk6 : (X6 ++ [cL (ds ts')]).take X.length = X6 := by rw [← l6]; simp
      have bt : bTuple [.lst (ds ts')] = some (.dat (.tup (ds ts'))) := rfl
      have ed : (Tm.app hh ts').d = .tup [.str (hS hh), .tup (ds ts')] := rfl
      rw [ed]
      simp only [cL] at er e5 s6 tk6
      generalize hP : (sIf (bCmp (opCmp .Eq) (eCall 27 (evs [eV 0, eC (.int ((2 : Nat) : Int))])) (eC (.int 0))) (sDrop (eCM aAppend (eV 1) (evs [eCall 28 (evs [eV 0, eLst (evs [eC (.str "*S"), eC (.str "*T")])])]))) (sPass)) = PP at er
      have hP' : (sIf (bCmp (opCmp .Eq) (eCall 27 (evs [eV 0, eC (.int 2)])) (eC (.int 0))) (sDrop (eCM aAppend (eV 1) (evs [eCall 28 (evs [eV 0, eLst (evs [eC (.str "*S"), eC (.str "*T")])])]))) (sPass)) = PP := hP
      try rw [hP']
      simp [startE, e1, q1, e2, addI, rg, wipeE, lc, ds_len, tlm, er, e5, s6, bt, callEnd, EV.out, tk6]
    · rcases hts with rfl | ⟨xx, rfl⟩
      · exact (da.app hh).mono (by omega) (by omega)
      · exact ((da.rest hnr (by omega) xx).app hh).mono (by omega) (by omega)
  · rw [beq_eq_false_iff_ne.mpr c] at q1
    obtain ⟨t0, X2, e2, n2, d0⟩ := l_term (n := n + 1) 1 X1 (by decide) hp1
    rw [show n + 1 + 3 + 1 = n + 5 by omega] at e2
    have hp2 := n2.pot hp1.lt
    obtain ⟨mm, X3, hmm, n3, e3⟩ := s_draw (n := n + 4) hp2 9 (by decide) (by decide)
    have hp3 := n3.pot hp2.lt
    obtain ⟨s, rg, sl⟩ := rng1 (4 + mm) (by omega)
    have ec : ((4 + mm : Nat) : Int) = 4 + (mm : Nat) := by omega
    rw [ec] at rg
    have n13 := (n1.trans n2).trans n3
    have fi := for_inv (enc := id) (Q := s) (F := VM.run T (n + 5)) (p := gNm 3) (b := (sSeq (sSet 1 (eBin .Add (eLc (iRange (evs [eCall 27 (evs [eV 0, eC (.int 3)])])) (.nm 4) (bYes) (eCall 29 (evs [eV 0, eC (.int 0)])) [4]) (eLst (evs [eV 2])))) (sSeq (sIf (bCmp (opCmp .Eq) (eCall 27 (evs [eV 0, eC (.int 3)])) (eC (.int 0))) (sDrop (eCM aAppend (eV 1) (evs [eCall 28 (evs [eV 0, eLst (evs [eC (.str "*S"), eC (.str "*T")])])]))) (sPass)) (sSet 2 (eTup (evs [eCall 28 (evs [eV 0, eLst (evs [eC (.str "f"), eC (.str "g"), eC (.str "H")])]), eCb bTuple (evs [eV 1])]))))))
      (fun Q' ρ Xc => ∃ (t : Tm) (o1 o3 o4 : Option SV), ρ = [some (.cel k), o1, some (.dat t.d), o3, o4] ∧ Ext X Xc k ∧ PotAt Xc k ∧ Q'.length ≤ s.length ∧ Dt (5 + 4 * (s.length - Q'.length)) (2 + (s.length - Q'.length)) t) (fun _ _ => False) (fun q Q' ρ Xc hq hI => by
        obtain ⟨t, o1, o3, o4, rfl, ex, hpc, hql, dt⟩ := hI
        simp only [List.length_cons] at hql dt
        refine ⟨[some (.cel k), o1, some (.dat t.d), some (.dat q), o4], Xc, rfl, .inl ?_⟩
        obtain ⟨m2, Y1, hm2, m1', f1⟩ := s_draw (n := n + 4) hpc 3 (by decide) (by decide)
        have hq1 := m1'.pot hpc.lt
        obtain ⟨s2, rg2, sl2⟩ := rng1 m2 (by omega)
        have slm : s2.length ≤ LIM := lim1 (by omega)
        obtain ⟨ts, Y2, lc, m2', tl, tp⟩ := lc_st (k := k) (L := Y1.length) (P := Dt 1 1)
          (step := lcStep (VM.run T (n + 5)) (.nm 4) bYes (eCall 29 (evs [eV 0, eC (.int 0)])) [some (.cel k), o1, some (.dat t.d), some (.dat q), none]) (fun d μ hp _ => by
            obtain ⟨t, μ', e, nx, pt⟩ := l_term (n := n + 2) 0 μ (by decide) hp
            rw [show n + 2 + 3 + 0 = n + 5 by omega] at e
            exact ⟨t, μ', by simp at e; simp [asg, e], nx, pt⟩) s2 slm (s2.length + 1) 0 Y1 hq1 rfl (Nat.zero_le _) (by omega)
        have tlm : ts.length ≤ LIM := lim1 (by omega)
        have hq2 := m2'.pot hq1.lt
        have ed0 : ds ts ++ [t.d] = ds (ts ++ [t]) := by rw [ds_app]; rfl
        have ad := addL (xs := ds ts) (ys := [t.d]) (by rw [ds_len]; simp; omega)
        rw [ed0] at ad
        obtain ⟨ts', Y3, er, m3', hts⟩ := rest_step (n := n + 3) (a := 0) (i := 1) (m0 := 3) (ρ := [some (.cel k), some (.cel Y2.length), some (.dat t.d), some (.dat q), o4]) (ts := ts ++ [t]) rfl rfl (by decide) (by decide) hq2 (by simp; omega)
        have hq3 := m3'.pot hq2.lt
        obtain ⟨x, Y4, hx, m4', e5⟩ := s_pick (n := n + 3) (μ := Y3 ++ [cL (ds ts')]) (k := k) hq3.app (hdP.map fun h => D.str (hS h)) (by decide) (by decide)
        obtain ⟨Y5, rfl, m5'⟩ := m4'.app (by exact hq3.lt)
        obtain ⟨hh, _, rfl⟩ := List.mem_map.mp hx
        rw [hdP_d] at e5
        have hq5 := m5'.pot hq3.lt
        have nn := (m1'.trans m2').trans (m3'.trans m5')
        refine ⟨[some (.cel k), some (.cel Y2.length), some (.dat (Tm.app hh ts').d), some (.dat q), o4], Y5 ++ [cL (ds ts')], ?_, .app hh ts', _, _, _, rfl, (ex.nxt hk nn).push, hq5.app, by omega, ?_⟩
        · have l36 : Y2.length = Y5.length := by rw [m5'.len, m3'.len]
          have s6 : (EV.cel Y2.length).see (Y5 ++ [cL (ds ts')]) = some (.lst (ds ts')) := by rw [l36]; simp [EV.see, cL]
          have bt : bTuple [.lst (ds ts')] = some (.dat (.tup (ds ts'))) := rfl
          have ed : (Tm.app hh ts').d = .tup [.str (hS hh), .tup (ds ts')] := rfl
          rw [ed]
          simp only [cL] at er e5 s6
          generalize hP : (sIf (bCmp (opCmp .Eq) (eCall 27 (evs [eV 0, eC (.int ((3 : Nat) : Int))])) (eC (.int 0))) (sDrop (eCM aAppend (eV 1) (evs [eCall 28 (evs [eV 0, eLst (evs [eC (.str "*S"), eC (.str "*T")])])]))) (sPass)) = PP at er
          have hP' : (sIf (bCmp (opCmp .Eq) (eCall 27 (evs [eV 0, eC (.int 3)])) (eC (.int 0))) (sDrop (eCM aAppend (eV 1) (evs [eCall 28 (evs [eV 0, eLst (evs [eC (.str "*S"), eC (.str "*T")])])]))) (sPass)) = PP := hP
          try rw [hP']
          generalize ds (ts ++ [t]) = L1 at *
          generalize t.d = td at *
          simp [f1, rg2, wipeE, lc, ds_len, tlm, ad, er, e5, s6, bt, cL]
        · obtain ⟨da, hnr⟩ := da_of (S := 1) (d := 1) tp
          have db : Da (ts.length * 1 + (5 + 4 * (s.length - (Q'.length + 1)))) (2 + (s.length - (Q'.length + 1))) (ts ++ [t]) := by
            refine ⟨okA_snoc da.ok hnr dt.ok, ?_, ?_, ?_⟩
            · rw [n7s_app, da.n7]; simp [n7s, dt.n7]
            · have := da.sz; have := dt.sz; rw [szs_app]; simp only [szs]; omega
            · have := da.dp; have := dt.dp; rw [deps_app]; simp only [deps]; omega
          have hnr2 : ∀ u ∈ ts ++ [t], isR u = false := fun u hu => (List.mem_append.mp hu).elim (hnr u) fun h => by rw [List.mem_singleton.mp h]; exact dt.nr
          rcases hts with rfl | ⟨xx, rfl⟩
          · exact (db.app hh).mono (by omega) (by omega)
          · exact ((db.rest hnr2 (by omega) xx).app hh).mono (by omega) (by omega)) (s.length + 1) 0 [some (.cel k), none, some (.dat t0.d), none, none] X3
      ⟨t0, none, none, none, rfl, (Ext.refl hp).nxt hk n13, hp3, Nat.le_refl _, d0.mono (by simp only [Sd]; omega) (by omega)⟩ (Nat.zero_le _) (by omega)
    rcases fi with ⟨ρ', X', e, t, o1, o3, o4, rfl, ex, _, _, dt⟩ | ⟨v, X', e, hf⟩
    · rw [List.map_id] at e
      refine ⟨t, X'.take X.length, ?_, ex.fin, dt.mono (by simp; omega) (by simp; omega)⟩
      unfold P__law_great
      simp at e2
      simp [startE, e1, q1, e2, e3, addI, rg, e, callEnd, EV.out]
    · exact hf.elim
end
end K16
set_option maxHeartbeats 0
/-! k16: pieces of terms. -/
namespace K16
open VM Law
open L2 (atI ixN)
mutual
/-- the parts with their levels, from the left -/
def pcs : Nat → Tm → List D
  | l, .app h as => .tup [Tm.d (.app h as), .int l] :: pcss (l + 1) as
  | l, .num i => [.tup [.int i, .int l]]
  | l, .var x => [.tup [.str (vS x), .int l]]
  | l, .rst x => [.tup [.str (rS x), .int l]]
def pcss : Nat → List Tm → List D
  | _, [] => []
  | l, t :: ts => pcs l t ++ pcss l ts
end
theorem pcss_flat : ∀ (l : Nat) (ts : List Tm), pcss l ts = (ts.map fun t => (t, l)).flatMap fun p => pcs p.2 p.1
  | _, [] => by simp [pcss]
  | l, t :: ts => by
    simp only [pcss, List.map_cons, List.flatMap_cons]
    rw [pcss_flat l ts]
section
variable {n : Nat} {μ : Sto}
def encQ (p : Tm × Nat) : D := .tup [p.1.d, .int p.2]
def kidQ (p : Tm × Nat) : List (Tm × Nat) := match p.1 with
  | .app _ as => as.map fun t => (t, p.2 + 1)
  | _ => []
theorem s_pieces (t : Tm) (hd : dep t ≤ 25) (hs : sz t ≤ 900) : VM.run T (n + 2) 9 [.dat t.d] μ = .ok (.new (.lst (pcs 1 t))) μ := by
  rw [run_at (nl := 6) (b := P_pieces) (by rfl)]
  unfold P_pieces
  have loop := stack_loop (μ := μ) encQ (fun p => [encQ p]) kidQ (fun p => pcs p.2 p.1) (fun p => sz p.1) (fun p => dep p.1 ≤ 25) (fun ρ => ∃ o0 o3 o4 o5, ρ = [o0, some (.cel μ.length), some (.cel (μ.length + 1)), o3, o4, o5]) 900
    (c := (bCmp (opCmp .NotEq) (eV 2) (eLst (evs []))) (VM.run T (n + 1)))
    (b := (sSeq (sAsg (eCM aPop (eV 2) (evs [])) (gTp [gNm 3, gNm 4])) (sSeq (sDrop (eCM aAppend (eV 1) (evs [eTup (evs [eV 3, eV 4])]))) (sIf (bTru (eCall 6 (evs [eV 3]))) (sDrop (eCM aExtend (eV 2) (evs [eLc (iOf (eRev (eIx (eV 3) (eC (.int 1))))) (.nm 5) (bYes) (eTup (evs [eV 5, eBin .Add (eV 4) (eC (.int 1))])) [5]]))) (sPass)))) (VM.run T (n + 1)))
    ?_ ?_ ?_ ?_ ?_ ?_ (sz t) LIM [some (.dat t.d), some (.cel μ.length), some (.cel (μ.length + 1)), none, none, none] [] [(t, 1)] ⟨_, _, _, _, rfl⟩ (by simpa using hd) (by simp) (lim2 (by omega)) (by simpa using hs)
  · obtain ⟨ρ', ⟨o0, o3, o4, o5, rfl⟩, e⟩ := loop
    simp [startE]
    simp [stk, encQ] at e
    rw [e]
    simp [callEnd, EV.out]
  · rintro ⟨t, l⟩ _
    cases t <;> simp [pcs, kidQ, encQ, Tm.d, pcss_flat]
  · rintro ⟨t, l⟩ _
    cases t <;> simp [sz, kidQ]
    rw [szs_sum]
    simp [Function.comp_def]
  · rintro ⟨t, l⟩ _
    cases t <;> simp [sz, kidQ]
    rw [szs_sum]
    simp [Function.comp_def]
  · rintro ⟨t, l⟩ h ⟨t', l'⟩ hy
    cases t <;> simp [kidQ] at hy
    rename_i hh as
    have h : dep (.app hh as) ≤ 25 := h
    simp only [dep] at h
    obtain ⟨t0, hm0, e0⟩ : ∃ t0, t0 ∈ as ∧ t0 = t' := by
      first
        | exact ⟨_, hm, rfl⟩
        | (obtain ⟨a, b, c⟩ := hy; exact ⟨_, b, c.1⟩)
        | exact ⟨_, hy.1, rfl⟩
    subst e0
    have := deps_mem hm0
    show dep t0 ≤ 25
    omega
  · rintro ρ Fd L ⟨o0, o3, o4, o5, rfl⟩ hg
    simp [stk, EV.see, ne_nil]
  · rintro ρ Fd ⟨t, l⟩ L ⟨o0, o3, o4, o5, rfl⟩ hg hgl hB
    refine ⟨[o0, some (.cel μ.length), some (.cel (μ.length + 1)), some (.dat t.d), some (.dat (.int l)), o5], ⟨_, _, _, _, rfl⟩, ?_⟩
    have hF : Fd.length < LIM := lim2 (by have := sz_pos t; omega)
    cases t with
    | num i => simp [stk, encQ, aAppend_c hF, s_isApp, isA, kidQ]
    | var x => simp [stk, encQ, aAppend_c hF, s_isApp, isA, kidQ]
    | rst x => simp [stk, encQ, aAppend_c hF, s_isApp, isA, kidQ]
    | app h as =>
      have hl : as.length ≤ szs as := by
        clear hB hg
        induction as with
        | nil => simp
        | cons t as ih =>
          have := sz_pos t
          simp only [szs, List.length_cons]
          omega
      have hB' : szs as ≤ 900 := by
        simp only [sz] at hB
        omega
      have hdl : (ds as).length = as.length := by rw [ds_map, List.length_map]
      have lc := lc_map (s := (ds as).reverse) (step := lcStep (VM.run T (n + 1)) (.nm 5) bYes (eTup (evs [eV 5, eBin .Add (eV 4) (eC (.int 1))])) (wipeE [o0, some (.cel μ.length), some (.cel (μ.length + 1)), some (.dat (Tm.app h as).d), some (.dat (.int l)), o5] [5]))
        (g := fun d => .tup [d, .int (l + 1)]) (μ := μ ++ [⟨true, .lst (Fd ++ [.tup [(Tm.app h as).d, .int l]])⟩, ⟨true, .lst (L.map encQ).reverse⟩]) (fun d hd => by simp [wipeE, asg, addI]) (by rw [List.length_reverse, hdl]; exact lim1 (by omega))
      rw [List.length_reverse] at lc
      have ixa : opIx (Tm.app h as).d (.int 1) = some (.dat (.tup (ds as))) := by simp only [Tm.d]; exact ix1
      have hLl : (L.map encQ).length ≤ 900 := by
        have : L.length ≤ (L.map fun p => sz p.1).sum := by
          clear hB hgl lc
          induction L with
          | nil => simp
          | cons p L ih =>
            have := sz_pos p.1
            simp only [List.map_cons, List.sum_cons, List.length_cons]
            omega
        rw [List.length_map]
        omega
      have ex := aExtend_c (l := (L.map encQ).reverse) (e := ((ds as).map fun d => .tup [d, .int (l + 1)]).reverse) (by
        rw [List.length_reverse, List.length_reverse, List.length_map (as := ds as), hdl]
        exact Nat.le_trans (Nat.add_le_add hLl (by omega : as.length ≤ 900)) (by decide))
      have lm : (ds as).length ≤ LIM := by rw [hdl]; exact lim1 (by omega)
      have fin : (List.map encQ (kidQ (Tm.app h as, l))) = (ds as).map fun d => D.tup [d, .int (l + 1)] := by
        simp [kidQ, ds_map, encQ]
      simp only [stk, List.map_append, fin, List.reverse_append, List.map_cons, List.reverse_cons]
      simp [encQ, aAppend_c hF, s_isApp, isA, ixa, lc, lm, ex]
end
mutual
theorem pcs_len : ∀ (l : Nat) (t : Tm), (pcs l t).length = sz t
  | l, .app h as => by simp only [pcs, sz, List.length_cons, pcss_len (l + 1) as]; omega
  | l, .num _ => by simp [pcs, sz]
  | l, .var _ => by simp [pcs, sz]
  | l, .rst _ => by simp [pcs, sz]
theorem pcss_len : ∀ (l : Nat) (ts : List Tm), (pcss l ts).length = szs ts
  | l, [] => by simp [pcss, szs]
  | l, t :: ts => by simp only [pcss, szs, List.length_append, pcs_len l t, pcss_len l ts]
end
section
variable {n : Nat} {μ : Sto}
theorem s_nodes_of {t : Tm} (hd : dep t ≤ 25) (hs : sz t ≤ 900) : VM.run T (n + 3) 11 [.dat t.d] μ = .ok (.dat (.int (sz t : Nat))) μ := by
  rw [run_at (nl := 1) (b := P_nodes_of) (by rfl)]
  unfold P_nodes_of
  simp [startE, s_pieces t hd hs, bLen, pcs_len, callEnd, EV.out]
end
end K16
set_option maxHeartbeats 0
/-! k16: terms filled. -/
namespace K16
open VM Law
open L2 (atI ixN)
/-- what is put in -/
structure Fl where
  v : Fin 4 → Tm
  h : Fin 6 → Fin 6
  r : Fin 2 → List Tm
def hF (σ : Fl) (h : Fin 6) : Fin 6 := if hV h then σ.h h else h
def rOf (σ : Fl) : Tm → List Tm
  | .rst x => σ.r x
  | _ => []
mutual
def sub (σ : Fl) : Tm → Tm
  | .num i => .num i
  | .var x => σ.v x
  | .rst x => .rst x
  | .app h as => .app (hF σ h) (subs σ as)
def subs (σ : Fl) : List Tm → List Tm
  | [] => []
  | t :: ts => if isR t then rOf σ t ++ subs σ ts else sub σ t :: subs σ ts
end
def sub1 (σ : Fl) (t : Tm) : List Tm := match t with
  | .rst x => σ.r x
  | t => [sub σ t]
theorem subs_cons (σ : Fl) (t : Tm) (ts : List Tm) : subs σ (t :: ts) = sub1 σ t ++ subs σ ts := by
  rw [subs]
  cases t <;> simp [isR, sub1, rOf]
theorem sub1_nr {σ : Fl} {t : Tm} (h : isR t = false) : sub1 σ t = [sub σ t] := by cases t <;> simp_all [sub1, isR]
theorem okA_tail {t : Tm} {ts : List Tm} (h : okA (t :: ts) = true) (hr : isR t = true) : ts = [] := by
  simp only [okA, Bool.and_eq_true, hr] at h
  simpa using h.1.2
/-- a filling found, as a filling -/
def fA (A : AL) : Fl := ⟨fun x => match look A (.v x) with | some (.t u) => u | _ => .var x, fun h => match look A (.h h) with | some (.h g) => g | _ => h, fun x => match look A (.r x) with | some (.l l) => l | _ => [.rst x]⟩
/-- a dict that is seen, here and with more cells -/
structure See (sv : SV) (A : AL) (μ : Sto) : Prop where
  arg : sv.ev.arg = sv
  see : ∀ E : Sto, sv.ev.see (μ ++ E) = some (.dic (dKs pn A) (dVs A))
theorem See.app {sv : SV} {A : AL} {μ : Sto} (h : See sv A μ) (E : Sto) : See sv A (μ ++ E) := ⟨h.arg, fun E' => by rw [List.append_assoc]; exact h.see _⟩
theorem See.see0 {sv : SV} {A : AL} {μ : Sto} (h : See sv A μ) : sv.ev.see μ = some (.dic (dKs pn A) (dVs A)) := by
  have := h.see []
  rwa [List.append_nil] at this
theorem get_v {A : AL} (g : GA A) (x : Fin 4) : (look A (.v x) = none ∧ (fA A).v x = .var x) ∨ ∃ u, look A (.v x) = some (.t u) ∧ (fA A).v x = u := by
  cases c : look A (.v x) with
  | none => exact .inl ⟨rfl, by simp only [fA, c]⟩
  | some b =>
    have := g.sb _ (look_mem c)
    cases b <;> simp only [sb, Bool.false_eq_true] at this
    exact .inr ⟨_, rfl, by simp only [fA, c]⟩
theorem get_r {A : AL} (g : GA A) (x : Fin 2) : (look A (.r x) = none ∧ (fA A).r x = [.rst x]) ∨ ∃ u, look A (.r x) = some (.l u) ∧ (fA A).r x = u := by
  cases c : look A (.r x) with
  | none => exact .inl ⟨rfl, by simp only [fA, c]⟩
  | some b =>
    have := g.sb _ (look_mem c)
    cases b <;> simp only [sb, Bool.false_eq_true] at this
    exact .inr ⟨_, rfl, by simp only [fA, c]⟩
theorem get_h {A : AL} (g : GA A) (x : Fin 6) : (look A (.h x) = none ∧ (fA A).h x = x) ∨ ∃ u, look A (.h x) = some (.h u) ∧ (fA A).h x = u := by
  cases c : look A (.h x) with
  | none => exact .inl ⟨rfl, by simp only [fA, c]⟩
  | some b =>
    have := g.sb _ (look_mem c)
    cases b <;> simp only [sb, Bool.false_eq_true] at this
    exact .inr ⟨_, rfl, by simp only [fA, c]⟩
theorem dgetP (A : AL) (k : Kv) : dget (dKs pn A) (dVs A) (.inr (pn k)) = (look A k).map Bv.d := dgetA nm_pn k A
theorem rest_cutP (x : Fin 2) : opSl (.str (rS x)) (some 1) none = some (.dat (.str (rV x))) := rest_cut x
section
variable {n : Nat}
def SF (n m : Nat) : Prop := ∀ (t : Tm) (A : AL) (sv : SV) (μ : Sto), dep t ≤ m → isR t = false → okT t = true → See sv A μ → GA A → (∀ h, hV h = false → look A (.h h) = none) → sz (sub (fA A) t) ≤ 900 → sz t ≤ 900 →
  VM.run T (2 * m + n) 15 [.dat t.d, sv] μ = .ok (.dat (sub (fA A) t).d) μ
theorem s_fargs {m : Nat} (hSF : SF n m) {as : List Tm} {A : AL} {sv : SV} {μ : Sto} (hd : deps as ≤ m) (hok : okA as = true) (se : See sv A μ) (g : GA A) (hh : ∀ h, hV h = false → look A (.h h) = none) (hz : szs (subs (fA A) as) ≤ 900) (hs : szs as ≤ 900) :
    VM.run T (2 * m + 1 + n) 14 [.dat (.tup (ds as)), sv] μ = .ok (.dat (.tup (ds (subs (fA A) as)))) μ := by
  rw [show 2 * m + 1 + n = (2 * m + n) + 1 by omega, run_at (nl := 4) (b := P_filled_args) (by rfl)]
  unfold P_filled_args
  have hl := len_szs as
  have hlz := len_szs (subs (fA A) as)
  have fi := for_inv (enc := Tm.d) (Q := as) (F := VM.run T (2 * m + n)) (p := gNm 3) (b := (sIf (bTru (eCall 5 (evs [eV 3]))) (sDrop (eCM aExtend (eV 2) (evs [eGet2 (eV 1) (eSl (eV 3) (oSome (eC (.int 1))) (oNone)) (eTup (evs [eV 3]))]))) (sDrop (eCM aAppend (eV 2) (evs [eCall 15 (evs [eV 3, eV 1])])))))
    (fun ts ρ X => ∃ (acc : List Tm) (o3 : Option SV), ρ = [some (.dat (.tup (ds as))), some sv, some (.cel μ.length), o3] ∧ X = μ ++ [cL (ds acc)] ∧ acc ++ subs (fA A) ts = subs (fA A) as) (fun _ _ => False) (fun q Q' ρ X hq hI => by
      obtain ⟨acc, o3, rfl, rfl, h1⟩ := hI
      rw [subs_cons] at h1
      refine ⟨[some (.dat (.tup (ds as))), some sv, some (.cel μ.length), some (.dat q.d)], μ ++ [cL (ds acc)], rfl, .inl ⟨[some (.dat (.tup (ds as))), some sv, some (.cel μ.length), some (.dat q.d)], μ ++ [cL (ds (acc ++ sub1 (fA A) q))], ?_, acc ++ sub1 (fA A) q, _, rfl, rfl, by rw [List.append_assoc]; exact h1⟩⟩
      obtain ⟨m', rfl⟩ : ∃ m', m = m' + 1 := ⟨m - 1, by have := dep_pos q; have := deps_mem hq; omega⟩
      have lr : ∀ X : Sto, VM.run T (2 * (m' + 1) + n) 5 [.dat q.d] X = .ok (.dat (.bl (isR q))) X := fun X => by
        rw [show 2 * (m' + 1) + n = (2 * m' + n) + 2 by omega]; exact s_isRest q
      have hlen : acc.length + (sub1 (fA A) q).length ≤ 900 := by
        have := congrArg List.length h1
        simp only [List.length_append] at this
        omega
      have sek := se.see [cL (ds acc)]
      rw [ds_app]
      cases hq' : isR q with
      | true =>
        cases q <;> simp only [isR, Bool.false_eq_true] at hq'
        rename_i x
        have hdx : (Tm.rst x).d = .str (rS x) := rfl
        simp only [isR] at lr
        rw [hdx] at lr ⊢
        have dg := dgetP A (.r x)
        simp only [pn] at dg
        simp only [sub1] at hlen ⊢
        rcases get_r g x with ⟨lk, fr⟩ | ⟨u, lk, fr⟩
        · rw [lk] at dg
          rw [fr] at hlen ⊢
          have ex := aExtend_t (l := ds acc) (e := [.str (rS x)]) (by rw [ds_len]; exact lim1 (by simp; simp at hlen; omega))
          have ed : ds [Tm.rst x] = [.str (rS x)] := rfl
          rw [ed]
          simp only [cL] at sek ⊢
          simp [lr, sek, eGet2, oSome, oNone, rest_cutP, D.key, dg, ex]
        · rw [lk] at dg
          rw [fr] at hlen ⊢
          have ex := aExtend_t (l := ds acc) (e := ds u) (by rw [ds_len, ds_len]; exact lim1 (by omega))
          simp only [Bv.d, Option.map_some] at dg
          simp only [cL] at sek ⊢
          simp [lr, sek, eGet2, oSome, oNone, rest_cutP, D.key, dg, ex]
      | false =>
        have s1 : sub1 (fA A) q = [sub (fA A) q] := sub1_nr hq'
        have e := hSF q A sv (μ ++ [cL (ds acc)]) (by have := deps_mem hq; omega) hq' (okA_mem hok hq) (se.app _) g hh (by
          have hsz := congrArg szs h1
          rw [s1] at hsz
          simp only [szs_app, szs] at hsz
          omega) (by have := szs_mem hq; omega)
        rw [s1] at hlen ⊢
        have ap := aAppend_c (l := ds acc) (d := (sub (fA A) q).d) (by rw [ds_len]; exact lim2 (by simp at hlen; omega))
        have ea := se.arg
        simp only [cL, ds] at e ⊢
        simp [lr, hq', ea, e, ap]) (as.length + 1) 0 [some (.dat (.tup (ds as))), some sv, some (.cel μ.length), none] (μ ++ [cL []]) ⟨[], none, rfl, rfl, by simp⟩ (Nat.zero_le _) (by omega)
  rcases fi with ⟨ρ', X', e, acc, o3, rfl, rfl, h1⟩ | ⟨v, X', e, hf⟩
  · simp only [subs, List.append_nil] at h1
    subst h1
    rw [← ds_map] at e
    have bt : bTuple [.lst (ds (subs (fA A) as))] = some (.dat (.tup (ds (subs (fA A) as)))) := rfl
    have se2 : (EV.cel μ.length).see (μ ++ [cL (ds (subs (fA A) as))]) = some (.lst (ds (subs (fA A) as))) := by simp [EV.see, cL]
    simp only [cL] at e se2
    simp [startE, ds_len, e, bt, se2, callEnd, EV.out]
  · exact hf.elim
theorem s_fill : ∀ m : Nat, SF n m
  | 0 => fun t A sv μ h => by have := dep_pos t; omega
  | m + 1 => fun t A sv μ h hr hok se g hh hz hs => by
    rw [show 2 * (m + 1) + n = (2 * m + 1 + n) + 1 by omega, run_at (nl := 2) (b := P_fill) (by rfl)]
    unfold P_fill
    have see := se.see0
    have ap : ∀ t : Tm, VM.run T (2 * m + 1 + n) 6 [.dat t.d] μ = .ok (.dat (.bl (isA t))) μ := fun t => by rw [show 2 * m + 1 + n = (2 * m + n) + 1 by omega]; exact s_isApp t
    cases t with
    | rst x => cases hr
    | num i => simp [startE, ap, isA, isS, isV, isR, sub, callEnd, EV.out]
    | var x =>
      have dg := dgetP A (.v x)
      simp only [pn] at dg
      have hd : (Tm.var x).d = .str (vS x) := rfl
      have ap1 := ap (.var x)
      simp only [isA] at ap1
      rw [hd] at ap1 ⊢
      have is1 : isi .str (.str (vS x)) = true := rfl
      simp only [sub]
      rcases get_v g x with ⟨lk, fr⟩ | ⟨u, lk, fr⟩
      · rw [lk] at dg
        rw [fr, hd]
        simp [startE, ap1, is1, eGet2, see, D.key, dg, callEnd, EV.out]
      · rw [lk] at dg
        rw [fr]
        simp only [Bv.d, Option.map_some] at dg
        simp [startE, ap1, is1, eGet2, see, D.key, dg, callEnd, EV.out]
    | app hh' as =>
      simp only [dep] at h
      simp only [okT] at hok
      simp only [sub, sz] at hz hs
      have fa := s_fargs (s_fill m) (as := as) (by omega) hok se g hh (by omega) (by omega)
      have dg := dgetP A (.h hh')
      simp only [pn] at dg
      have ea := se.arg
      have ed : (sub (fA A) (.app hh' as)).d = .tup [.str (hS (hF (fA A) hh')), .tup (ds (subs (fA A) as))] := by simp only [sub, Tm.d]
      rw [ed]
      have ap1 := ap (.app hh' as)
      simp only [isA] at ap1
      have key : (match look A (.h hh') with | some b => some b.d | none => none) = if look A (.h hh') = none then none else some (.str (hS ((fA A).h hh'))) := by
        rcases get_h g hh' with ⟨lk, fr⟩ | ⟨u, lk, fr⟩
        · simp [lk]
        · simp [lk, fr, Bv.d]
      unfold hF
      by_cases c : hV hh' = true
      · rw [if_pos c]
        rcases get_h g hh' with ⟨lk, fr⟩ | ⟨u, lk, fr⟩
        · rw [lk] at dg
          rw [fr]
          simp [startE, ap1, eGet2, see, ix_app0, ix_app, D.key, dg, ea, fa, callEnd, EV.out]
        · rw [lk] at dg
          rw [fr]
          simp only [Bv.d, Option.map_some] at dg
          simp [startE, ap1, eGet2, see, ix_app0, ix_app, D.key, dg, ea, fa, callEnd, EV.out]
      · rw [if_neg c]
        have lk := hh hh' (by simpa using c)
        rw [lk] at dg
        simp [startE, ap1, eGet2, see, ix_app0, ix_app, D.key, dg, ea, fa, callEnd, EV.out]
end
end K16
set_option maxHeartbeats 0
/-! k16: a filling found fills to the term; it is one of the pattern. -/
namespace K16
open VM Law
open L2 (atI ixN)
mutual
theorem cs_sound {A : AL} : ∀ {p t : Tm} {l : AL}, cs p t = some l → okT p = true → (∀ q ∈ l, look A q.1 = some q.2) → sub (fA A) p = t
  | .num i, .num j, l, e, _, _ => by
    simp only [cs] at e
    split at e
    · rename_i h; rw [h]; rfl
    · cases e
  | .num _, .var _, l, e, _, _ => by cases e
  | .num _, .rst _, l, e, _, _ => by cases e
  | .num _, .app _ _, l, e, _, _ => by cases e
  | .var x, t, l, e, _, h => by
    simp only [cs] at e
    cases e
    have := h _ (List.mem_singleton.mpr rfl)
    simp only at this
    simp only [sub, fA, this]
  | .rst x, t, l, e, _, _ => by simp [cs] at e
  | .app h as, .num _, l, e, _, _ => by cases e
  | .app h as, .var _, l, e, _, _ => by cases e
  | .app h as, .rst _, l, e, _, _ => by cases e
  | .app h as, .app g bs, l, e, ho, hl => by
    simp only [okT] at ho
    simp only [cs] at e
    cases e2 : csa as bs with
    | none => rw [e2] at e; split at e <;> simp at e
    | some l2 =>
      rw [e2] at e
      split at e
      · rename_i hv
        simp at e
        subst e
        have o2 := csa_sound e2 ho fun q hq => hl q (List.mem_cons_of_mem _ hq)
        have := hl _ List.mem_cons_self
        simp only at this
        have hg : (fA A).h h = g := by simp only [fA, this]
        simp only [sub, o2, hF, hv, if_true, hg]
      · rename_i hv
        split at e
        · rename_i hg
          simp at e
          subst e
          subst hg
          have o2 := csa_sound e2 ho hl
          simp only [sub, o2, hF]
          rw [if_neg hv]
        · simp at e
theorem csa_sound {A : AL} : ∀ {ps ts : List Tm} {l : AL}, csa ps ts = some l → okA ps = true → (∀ q ∈ l, look A q.1 = some q.2) → subs (fA A) ps = ts
  | [], ts, l, e, _, _ => by
    simp only [csa] at e
    split at e
    · rename_i h
      cases ts with
      | nil => rfl
      | cons a ts => simp at h
    · cases e
  | a :: as, [], l, e, ho, hl => by
    simp only [csa] at e
    split at e
    · rename_i hr
      have := okA_tail ho hr
      subst this
      cases a with
      | rst x =>
        simp at e
        cases e
        have := hl _ (List.mem_singleton.mpr rfl)
        simp only at this
        rw [subs_cons]
        simp [sub1, subs, fA, this]
      | _ => simp at e
    · cases e
  | a :: as, b :: bs, l, e, ho, hl => by
    simp only [csa] at e
    split at e
    · rename_i hr
      have := okA_tail ho hr
      subst this
      cases a with
      | rst x =>
        simp at e
        cases e
        have := hl _ (List.mem_singleton.mpr rfl)
        simp only at this
        rw [subs_cons]
        simp [sub1, subs, fA, this]
      | _ => simp at e
    · rename_i hra
      simp only [okA, Bool.and_eq_true] at ho
      split at e
      · cases e
      · cases e1 : cs a b with
        | none => rw [e1] at e; simp at e
        | some l1 =>
          cases e2 : csa as bs with
          | none => rw [e1, e2] at e; simp at e
          | some l2 =>
            rw [e1, e2] at e
            simp at e
            cases e
            have o1 := cs_sound e1 ho.1.1 fun q hq => hl q (List.mem_append.mpr (.inl hq))
            have o2 := csa_sound e2 ho.2 fun q hq => hl q (List.mem_append.mpr (.inr hq))
            rw [subs_cons, sub1_nr (by simpa using hra), o1, o2]; rfl
end
theorem mt_sound {p t : Tm} {A : AL} (h : Mt p t = some A) (hp : Good p) (ht : Good t) : sub (fA A) p = t := by
  have g := mt_ga h ht.dp ht.sz
  obtain ⟨l, e, _, m⟩ := mt_mem h ht.dp ht.sz
  exact cs_sound e hp.ok fun q hq => look_of g.nd ((m q).mpr hq)
/-! what is put in is right -/
def GB : Bv → Prop
  | .t u => Good u
  | .h _ => True
  | .l as => okA as = true ∧ deps as ≤ 25 ∧ szs as ≤ 450
mutual
theorem cs_gb : ∀ {p t : Tm} {l : AL}, cs p t = some l → Good t → ∀ q ∈ l, GB q.2
  | .num i, .num j, l, e, _ => by
    simp only [cs] at e
    split at e
    · cases e; intro q hq; cases hq
    · cases e
  | .num _, .var _, l, e, _ => by cases e
  | .num _, .rst _, l, e, _ => by cases e
  | .num _, .app _ _, l, e, _ => by cases e
  | .var x, t, l, e, g => by
    simp only [cs] at e
    cases e
    intro q hq
    rw [List.mem_singleton.mp hq]; exact g
  | .rst x, t, l, e, _ => by simp [cs] at e
  | .app h as, .num _, l, e, _ => by cases e
  | .app h as, .var _, l, e, _ => by cases e
  | .app h as, .rst _, l, e, _ => by cases e
  | .app h as, .app g bs, l, e, gt => by
    obtain ⟨g1, g2, g3, g4⟩ := gt
    simp only [okT] at g1
    simp only [dep] at g3
    simp only [sz] at g4
    simp only [cs] at e
    cases e2 : csa as bs with
    | none => rw [e2] at e; split at e <;> simp at e
    | some l2 =>
      have o2 := csa_gb e2 g1 (by omega) (by omega)
      rw [e2] at e
      split at e
      · simp at e
        subst e
        intro q hq
        rcases List.mem_cons.mp hq with rfl | hq
        · exact trivial
        · exact o2 q hq
      · split at e
        · simp at e; subst e; exact o2
        · simp at e
theorem csa_gb : ∀ {ps ts : List Tm} {l : AL}, csa ps ts = some l → okA ts = true → deps ts ≤ 25 → szs ts ≤ 450 → ∀ q ∈ l, GB q.2
  | [], ts, l, e, _, _, _ => by
    simp only [csa] at e
    split at e
    · cases e; intro q hq; cases hq
    · cases e
  | a :: as, [], l, e, g1, g2, g3 => by
    simp only [csa] at e
    split at e
    · cases a with
      | rst x =>
        simp at e
        cases e
        intro q hq
        rw [List.mem_singleton.mp hq]; exact ⟨g1, g2, g3⟩
      | _ => simp at e
    · cases e
  | a :: as, b :: bs, l, e, g1, g2, g3 => by
    simp only [csa] at e
    split at e
    · cases a with
      | rst x =>
        simp at e
        cases e
        intro q hq
        rw [List.mem_singleton.mp hq]; exact ⟨g1, g2, g3⟩
      | _ => simp at e
    · split at e
      · cases e
      · rename_i hrb
        simp only [okA, Bool.and_eq_true] at g1
        simp only [deps] at g2
        simp only [szs] at g3
        cases e1 : cs a b with
        | none => rw [e1] at e; simp at e
        | some l1 =>
          cases e2 : csa as bs with
          | none => rw [e1, e2] at e; simp at e
          | some l2 =>
            rw [e1, e2] at e
            simp at e
            cases e
            have o1 := cs_gb e1 ⟨g1.1.1, by simpa using hrb, by omega, by omega⟩
            have o2 := csa_gb e2 g1.2 (by omega) (by omega)
            intro q hq
            exact (List.mem_append.mp hq).elim (o1 q) (o2 q)
end
mutual
theorem ky_h : ∀ (t : Tm) (h : Fin 6), Kv.h h ∈ ky t → hV h = true
  | .num _, h, m => by simp [ky] at m
  | .var _, h, m => by simp [ky] at m
  | .rst _, h, m => by simp [ky] at m
  | .app g as, h, m => by
    simp only [ky, List.mem_append] at m
    rcases m with m | m
    · by_cases c : hV g = true
      · rw [if_pos c] at m
        have := List.mem_singleton.mp m
        cases this
        exact c
      · rw [if_neg c] at m; cases m
    · exact kys_h as h m
theorem kys_h : ∀ (ts : List Tm) (h : Fin 6), Kv.h h ∈ kys ts → hV h = true
  | [], h, m => by simp [kys] at m
  | t :: ts, h, m => by
    simp only [kys, List.mem_append] at m
    exact m.elim (ky_h t h) (kys_h ts h)
end
/-- a filling of p -/
structure Fo (p : Tm) (A : AL) : Prop where
  ga : GA A
  dom : ∀ q ∈ A, q.1 ∈ vars p
  gb : ∀ q ∈ A, GB q.2
theorem Fo.hh {p : Tm} {A : AL} (f : Fo p A) : ∀ h, hV h = false → look A (.h h) = none := fun h hv => by
  cases e : look A (.h h) with
  | none => rfl
  | some b =>
    have := ky_h p h (vars_mem.mp (f.dom _ (look_mem e)))
    rw [hv] at this; cases this
theorem mt_fo {p t : Tm} {A : AL} (h : Mt p t = some A) (hp : Good p) (ht : Good t) : Fo p A := by
  have g := mt_ga h ht.dp ht.sz
  have hk := mt_keys h hp.ok ht.dp ht.sz
  obtain ⟨l, e, _, m⟩ := mt_mem h ht.dp ht.sz
  exact ⟨g, fun q hq => by rw [← hk]; exact List.mem_map.mpr ⟨q, hq, rfl⟩, fun q hq => cs_gb e ht q ((m q).mp hq)⟩
section
variable {n : Nat} {μ : Sto}
theorem s_varR : ∀ x : Fin 2, VM.run T (n + 1) 3 [.dat (.str (rV x))] μ = .ok (.dat (.bl true)) μ
  | 0 => pure_of (by kernel_rfl)
  | 1 => pure_of (by kernel_rfl)
theorem s_varK {k : Kv} (hk : ∀ h, k = .h h → hV h = true) : VM.run T (n + 1) 3 [.dat (.str (pn k))] μ = .ok (.dat (.bl true)) μ := by
  cases k with
  | v x => exact s_isVar (.var x)
  | h x => have := s_headVar (n := n) (μ := μ) x; rw [hk x rfl] at this; exact this
  | r x => exact s_varR x
theorem s_standR (x : Fin 2) : VM.run T (n + 3) 7 [.dat (Tm.rst x).d] μ = .ok (.dat .non) μ := by
  rw [run_at (nl := 7) (b := P_standings) (by rfl)]
  unfold P_standings
  have sv := s_isVar (n := n + 1) (μ := μ ++ [⟨true, .lst []⟩, ⟨true, .lst []⟩]) (.rst x)
  have sr := s_isRest (n := n) (μ := μ ++ [⟨true, .lst []⟩, ⟨true, .lst []⟩]) (.rst x)
  have sa := s_isApp (n := n + 1) (μ := μ ++ [⟨true, .lst []⟩, ⟨true, .lst []⟩]) (.rst x)
  have si := s_isInt (n := n + 1) (μ := μ ++ [⟨true, .lst []⟩, ⟨true, .lst []⟩]) (.rst x)
  simp only [isV, isR, isA, isN] at sv sr sa si
  have pop : aPop [.tup [(Tm.rst x).d, .bl false]] [] = some (.tup [(Tm.rst x).d, .bl false], []) := rfl
  have nn : opCmp .NotEq (.lst [.tup [(Tm.rst x).d, .bl false]]) (.lst []) = some true := by rw [ne_nil]; rfl
  simp only [startE, xs_seq]
  simp
  rw [show LIM = 999999 + 1 from rfl]
  unfold whL
  generalize (Tm.rst x).d = dx at *
  simp [EV.see, nn, pop, sv, sr, sa, si, callEnd, EV.out]
theorem s_isTermR (x : Fin 2) : VM.run T (n + 4) 12 [.dat (Tm.rst x).d] μ = .ok (.dat (.bl false)) μ := by
  rw [run_at (nl := 2) (b := P_is_term) (by rfl)]
  unfold P_is_term
  have : opCmp .IsNot .non .non = some false := rfl
  simp [startE, s_standR, this, callEnd, EV.out]
theorem zip_last {as : List Tm} (ho : okA as = true) {a : Tm} {i : Nat} (h : (a, i) ∈ as.zipIdx) (hr : isR a = true) : i + 1 = as.length := by
  rw [List.mk_mem_zipIdx_iff_getElem?] at h
  rcases okA_split ho with h1 | ⟨ps, x, rfl, h1⟩
  · have := h1 a (List.mem_of_getElem? h)
    rw [hr] at this; cases this
  · have hi := (List.getElem?_eq_some_iff.mp h).1
    simp only [List.length_append, List.length_cons, List.length_nil] at hi ⊢
    by_cases c : i < ps.length
    · rw [List.getElem?_append_left c] at h
      have := h1 a (List.mem_of_getElem? h)
      rw [hr] at this; cases this
    · omega
theorem bAll_true {α : Type} (l : List α) : bAll [.lst (l.map fun _ => .bl true)] = some (.dat (.bl true)) := by
  have e : bls (l.map fun _ => .bl true) = some (l.map fun _ => true) := by
    induction l with
    | nil => rfl
    | cons a l ih => simp only [List.map_cons, bls, ih]; rfl
  show (bls _).map _ = _
  rw [e]
  simp
theorem s_areArgs {as : List Tm} (ho : okA as = true) (hd : deps as ≤ 25) (hs : szs as ≤ 450) : VM.run T (n + 5) 16 [.dat (.tup (ds as))] μ = .ok (.dat (.bl true)) μ := by
  rw [run_at (nl := 4) (b := P_are_args) (by rfl)]
  unfold P_are_args
  have hl := len_szs as
  have bl : bLen [.tup (ds as)] = some (.dat (.int (as.length : Nat))) := by
    show some (EV.dat (.int ((ds as).length : Nat))) = _
    rw [ds_len]
  have subI : ∀ a : Int, opBin .Sub (.int a) (.int 1) = some (.dat (.int (a - 1))) := fun a => rfl
  have en : enumD (ds as) = as.zipIdx.map fun p => .tup [.int (p.2 : Nat), p.1.d] := by
    unfold enumD
    rw [ds_map, List.zipIdx_map, List.map_map]
    rfl
  have lz : as.zipIdx.length = as.length := List.length_zipIdx
  have lc := lc_enc (μ := μ) (S := .vals (enumD (ds as))) (enc := fun p : Tm × Nat => .tup [.int (p.2 : Nat), p.1.d]) (Q := as.zipIdx) (step := lcStep (VM.run T (n + 4)) (.tup [.nm 2, .nm 3]) bYes (eOr (eCall 12 (evs [eV 3])) (eAnd (eCmp (opCmp .Eq) (eV 2) (eV 1)) (eCall 5 (evs [eV 3])))) [some (.dat (.tup (ds as))), some (.dat (.int ((as.length : Int) - 1))), none, none]) (f := fun _ => .bl true) (c := fun _ => true)
    (by rw [src_vals, en]) (fun q hq => by
      obtain ⟨a, i⟩ := q
      have ha : a ∈ as := by
        rw [List.mk_mem_zipIdx_iff_getElem?] at hq
        exact List.mem_of_getElem? hq
      cases hr : isR a with
      | false =>
        have gd : Good a := ⟨okA_mem ho ha, hr, Nat.le_trans (deps_mem ha) hd, Nat.le_trans (szs_mem ha) hs⟩
        simp [asg, asgs, s_isTerm gd]
      | true =>
        have hi := zip_last ho hq hr
        cases a <;> simp only [isR, Bool.false_eq_true] at hr
        rename_i x
        have q1 : opCmp .Eq (.int (i : Nat)) (.int ((as.length : Int) - 1)) = some true := by
          simp only [opCmp, opEq_int]
          congr 1
          rw [beq_iff_eq]
          omega
        have sr := s_isRest (n := n + 2) (μ := μ) (.rst x)
        simp only [isR] at sr
        simp [asg, asgs, s_isTermR, q1, sr]) (by omega)
  rw [flt_all, lz] at lc
  have lim : as.length ≤ LIM := lim1 (by omega)
  have it : isi .tuple (.tup (ds as)) = true := rfl
  have el : (enumD (ds as)).length = as.length := by rw [en, List.length_map, lz]
  have al := bAll_true as.zipIdx
  have itx : isTx (.dat (.tup (ds as))) = false := rfl
  simp [startE, it, bl, subI, Src.enum, itx, el, wipeE, lc, lz, lim, al, callEnd, EV.out]
theorem s_fits {k : Kv} {b : Bv} (hb : sb k b = true) (g : GB b) : VM.run T (n + 6) 17 [.dat (.str (pS k)), .dat b.d] μ = .ok (.dat (.bl true)) μ := by
  rw [run_at (nl := 2) (b := P_fits_sort) (by rfl)]
  unfold P_fits_sort
  have q1 : opCmp .Eq (.str "head") (.str "term") = some false := by decide +kernel
  have q2 : opCmp .Eq (.str "head") (.str "head") = some true := by decide +kernel
  have q3 : opCmp .Eq (.str "rest") (.str "head") = some false := by decide +kernel
  have q4 : opCmp .Eq (.str "term") (.str "term") = some true := by decide +kernel
  have q5 : opCmp .Eq (.str "rest") (.str "term") = some false := by decide +kernel
  cases k <;> cases b <;> simp only [sb, Bool.false_eq_true] at hb
  · simp [startE, pS, Bv.d, q4, s_isTerm g, callEnd, EV.out]
  · simp [startE, pS, Bv.d, q1, q2, s_isHead, callEnd, EV.out]
  · obtain ⟨g1, g2, g3⟩ := g
    simp [startE, pS, Bv.d, q5, q3, s_areArgs g1 g2 g3, callEnd, EV.out]
end
end K16
set_option maxHeartbeats 0
/-! k16: fillings looked at and put in. -/
namespace K16
open VM Law
open L2 (atI ixN)
/-- a dict in a slot -/
def Dq (sv : SV) (A : AL) (μ : Sto) : Prop := sv = .dat (dD pn A).toD ∨ ∃ k lv, sv = .cel k ∧ μ[k]? = some ⟨lv, dD pn A⟩
def stl (sv : SV) (A : AL) (μ : Sto) : Sto := match sv with
  | .cel k => μ.set k ⟨false, dD pn A⟩
  | _ => μ
theorem Dq.sees {sv : SV} {A : AL} {μ : Sto} (h : Dq sv A μ) : See sv A μ := by
  rcases h with rfl | ⟨k, lv, rfl, hk⟩
  · exact ⟨rfl, fun _ => rfl⟩
  · have hkl := (List.getElem?_eq_some_iff.mp hk).1
    refine ⟨rfl, fun E => ?_⟩
    simp only [EV.see, ev_cel]
    rw [List.getElem?_append_left hkl, hk]; rfl
theorem Dq.app {sv : SV} {A : AL} {μ : Sto} (h : Dq sv A μ) (E : Sto) : Dq sv A (μ ++ E) := by
  rcases h with rfl | ⟨k, lv, rfl, hk⟩
  · exact .inl rfl
  · have hkl := (List.getElem?_eq_some_iff.mp hk).1
    exact .inr ⟨k, lv, rfl, by rw [List.getElem?_append_left hkl, hk]⟩
theorem Dq.stl {sv : SV} {A : AL} {μ : Sto} (h : Dq sv A μ) : Dq sv A (stl sv A μ) := by
  rcases h with rfl | ⟨k, lv, rfl, hk⟩
  · exact .inl rfl
  · have hkl := (List.getElem?_eq_some_iff.mp hk).1
    exact .inr ⟨k, false, rfl, by simp only [K16.stl]; rw [List.getElem?_set_self hkl]⟩
theorem stl_len (sv : SV) (A : AL) (μ : Sto) : (stl sv A μ).length = μ.length := by
  cases sv <;> simp [stl]
theorem stl_app {sv : SV} {A : AL} {μ : Sto} (h : Dq sv A μ) (E : Sto) : stl sv A (μ ++ E) = stl sv A μ ++ E := by
  rcases h with rfl | ⟨k, lv, rfl, hk⟩
  · rfl
  · have hkl := (List.getElem?_eq_some_iff.mp hk).1
    simp only [stl]
    rw [List.set_append_left _ _ hkl]
theorem keys_enc (A : AL) : keysD (dKs pn A) = A.map fun q => .str (pn q.1) := by
  unfold keysD dKs
  rw [List.map_map]; rfl
theorem fork_eq {i : Nat} {sv : SV} {A : AL} {g : SG} {b : SS} {F : Fns} {ρ : Env} {X : Sto} (hρ : ρ[i]? = some (some sv)) (hq : Dq sv A X) :
    sForK i g b F ρ X = match forL F (.vals (A.map fun q => .str (pn q.1))) g b (A.length + 1) 0 ρ (stl sv A X) with
      | .exc _ _ => .bad
      | r => r := by
  have e1 : stillS i ρ X = stl sv A X := by
    unfold stillS
    rw [hρ]
    rcases hq with rfl | ⟨k, lv, rfl, hk⟩
    · rfl
    · simp only [stl, hk]
  have e2 : iKeyS i F ρ (stl sv A X) = .ok (.vals (keysD (dKs pn A))) (stl sv A X) := by
    unfold iKeyS
    rw [hρ]
    rcases hq with rfl | ⟨k, lv, rfl, hk⟩
    · rfl
    · have hkl := (List.getElem?_eq_some_iff.mp hk).1
      simp only [stl, List.getElem?_set_self hkl]
      rfl
  have e3 : (Src.vals (A.map fun q => D.str (pn q.1))).len (stl sv A X) = A.length := by rw [src_len, List.length_map]
  unfold sForK sFor
  rw [e1, e2]
  simp only [Res.bind_ok, keys_enc, e3] <;> (generalize forL F (Src.vals (A.map fun q => D.str (pn q.1))) g b (A.length + 1) 0 ρ (stl sv A X) = R; cases R <;> rfl)
theorem dput_new : ∀ (ks : List L2.Key) (vs : List D) (j : L2.Key) (x : D), ks.length = vs.length → dhas ks j = false → dput ks vs j x = (ks ++ [j], vs ++ [x])
  | [], [], j, x, _, _ => rfl
  | [], _ :: _, j, x, h, _ => by simp at h
  | _ :: _, [], j, x, h, _ => by simp at h
  | k :: ks, v :: vs, j, x, h, hd => by
    rw [dhas_cons, Bool.or_eq_false_iff] at hd
    have ih := dput_new ks vs j x (by simpa using h) hd.2
    simp only [dput, hd.1, Bool.false_eq_true, if_false, ih]; rfl
theorem put_new {ks : List L2.Key} {vs : List D} {s : PySem.Str} {x : D} (hl : ks.length = vs.length) (hk : ks.length ≤ 20) (hd : dhas ks (.inr s) = false) (hn : ndK ks = true) : putAt (.dic ks vs) (.str s) x = some (.dic (ks ++ [.inr s]) (vs ++ [x])) := by
  have hk : (ndK ks && decide (ks.length < LIM)) = true := by
    rw [hn, Bool.true_and]
    exact decide_eq_true (lim2 (by omega))
  simp only [putAt, D.key, hk, if_true, dput_new ks vs _ x hl hd]
def kK (l : List Kv) : List L2.Key := l.map fun k => .inr (pn k)
theorem ndL : ∀ l : List Kv, l.Nodup → ndK (kK l) = true
  | [], _ => rfl
  | k :: l, h => by
    rw [List.nodup_cons] at h
    have := ndL l h.2
    simp only [kK, List.map_cons, ndK] at this ⊢
    rw [this, dhas_pn l k]
    simp [h.1]
section
variable {n : Nat} {μ : Sto}
theorem s_fillingOf {p t : Tm} {A : AL} {sv : SV} (hp : Good p) (f : Fo p A) (hsub : sub (fA A) p = t) (ht : Good t) (hq : Dq sv A μ) : VM.run T (n + 58) 18 [.dat p.d, sv] μ = .ok (.dat (.bl true)) (stl sv A μ) := by
  rw [run_at (nl := 6) (b := P_is_filling_of) (by rfl)]
  have nd := vars_nd p
  have vl := nd_len nd
  -- the sorts
  have f1 := for_inv (enc := kD) (Q := vars p) (F := VM.run T (n + 57)) (p := gTp [gNm 3, gNm 4]) (b := (sAsg (eV 3) (gSb (eV 2) (eV 4))))
    (fun ts ρ X => ∃ (done : List Kv) (o3 o4 : Option SV), ρ = [some (.dat p.d), some sv, some (.cel μ.length), o3, o4, none] ∧ X = μ ++ [⟨true, .dic (kK done) (done.map fun k => .str (pS k))⟩] ∧ done ++ ts = vars p) (fun _ _ => False) (fun q Q' ρ X hq' hI => by
      obtain ⟨done, o3, o4, rfl, rfl, h1⟩ := hI
      refine ⟨[some (.dat p.d), some sv, some (.cel μ.length), some (.dat (.str (pS q))), some (.dat (.str (pn q))), none], μ ++ [⟨true, .dic (kK done) (done.map fun k => .str (pS k))⟩], rfl, .inl ⟨[some (.dat p.d), some sv, some (.cel μ.length), some (.dat (.str (pS q))), some (.dat (.str (pn q))), none], μ ++ [⟨true, .dic (kK (done ++ [q])) ((done ++ [q]).map fun k => .str (pS k))⟩], ?_, done ++ [q], _, _, rfl, rfl, by simpa using h1⟩⟩
      have nd2 : (done ++ q :: Q').Nodup := by rw [h1]; exact nd
      have nq : q ∉ done := fun hm => (List.nodup_append.mp nd2).2.2 q hm q List.mem_cons_self rfl
      have dl : done.length ≤ 12 := by
        have := congrArg List.length h1
        simp at this
        omega
      have pt := put_new (ks := kK done) (vs := done.map fun k => .str (pS k)) (s := pn q) (x := .str (pS q)) (by simp [kK]) (by simp [kK]; omega) (by
        have := dhas_pn done q
        rw [show (done.map fun a => (.inr (pn a) : L2.Key)) = kK done from rfl] at this
        rw [this]; simp [nq]) (ndL done (List.nodup_append.mp nd2).1)
      have k2 : kK (done ++ [q]) = kK done ++ [.inr (pn q)] := by simp [kK]
      rw [k2, List.map_append]
      simp [gSb, pt]) ((vars p).length + 1) 0 [some (.dat p.d), some sv, some (.cel μ.length), none, none, none] (μ ++ [⟨true, .dic [] []⟩]) ⟨[], none, none, rfl, rfl, rfl⟩ (Nat.zero_le _) (by omega)
  rcases f1 with ⟨ρ', X', e1, done, o3, o4, rfl, rfl, h1⟩ | ⟨v, X', e, hf⟩
  rotate_left
  · exact hf.elim
  rw [List.append_nil] at h1
  subst h1
  -- the keys
  have hqX : Dq sv A (μ ++ [⟨true, .dic (kK (vars p)) ((vars p).map fun k => .str (pS k))⟩]) := hq.app _
  have sa := stl_app hq [(⟨true, .dic (kK (vars p)) ((vars p).map fun k => .str (pS k))⟩ : Cell)]
  have sl := stl_len sv A μ
  have gS : ∀ E : Sto, (EV.cel μ.length).see (stl sv A μ ++ [(⟨true, .dic (kK (vars p)) ((vars p).map fun k => .str (pS k))⟩ : Cell)]) = some (.dic (kK (vars p)) ((vars p).map fun k => .str (pS k))) := fun E => by
    rw [← sl]; simp [EV.see]
  have hg := f.ga.len
  have f2 := for_inv (enc := fun q : Kv × Bv => .str (pn q.1)) (Q := A) (F := VM.run T (n + 57)) (p := gNm 5) (b := (sIf (bOr (bNot (bTru (eCall 3 (evs [eV 5])))) (bOr (bCmp (opCmp .NotIn) (eV 5) (eV 2)) (bNot (bTru (eCall 17 (evs [eIx (eV 2) (eV 5), eIx (eV 1) (eV 5)])))))) (sRet (eC (.bl false))) (sPass)))
    (fun ts ρ X => ∃ (o5 : Option SV), ρ = [some (.dat p.d), some sv, some (.cel μ.length), o3, o4, o5] ∧ X = stl sv A μ ++ [(⟨true, .dic (kK (vars p)) ((vars p).map fun k => .str (pS k))⟩ : Cell)]) (fun _ _ => False) (fun q Q' ρ X hq' hI => by
      obtain ⟨o5, rfl, rfl⟩ := hI
      refine ⟨[some (.dat p.d), some sv, some (.cel μ.length), o3, o4, some (.dat (.str (pn q.1)))], _, rfl, .inl ⟨[some (.dat p.d), some sv, some (.cel μ.length), o3, o4, some (.dat (.str (pn q.1)))], _, ?_, _, rfl, rfl⟩⟩
      have hm := f.dom q hq'
      have hk : ∀ h, q.1 = .h h → hV h = true := fun h e => ky_h p h (vars_mem.mp (by rw [← e]; exact hm))
      have v1 := s_varK (n := n + 56) (μ := stl sv A μ ++ [(⟨true, .dic (kK (vars p)) ((vars p).map fun k => .str (pS k))⟩ : Cell)]) hk
      have dh : dhas (kK (vars p)) (.inr (pn q.1)) = true := by
        have := dhas_pn (vars p) q.1
        rw [show ((vars p).map fun a => (.inr (pn a) : L2.Key)) = kK (vars p) from rfl] at this
        rw [this]; simp [hm]
      have ni : opCmp .NotIn (.str (pn q.1)) (.dic (kK (vars p)) ((vars p).map fun k => .str (pS k))) = some false := by
        simp only [opCmp, VM.opIn, D.key, dh]; rfl
      have dg : ∀ l : List Kv, q.1 ∈ l → dget (kK l) (l.map fun k => .str (pS k)) (.inr (pn q.1)) = some (.str (pS q.1)) := by
        intro l
        induction l with
        | nil => intro h; cases h
        | cons k l ih =>
          intro h
          simp only [kK, List.map_cons, dget] at ih ⊢
          by_cases c : k = q.1
          · rw [if_pos (by rw [pn_eq]; simp [c]), c]
          · rw [if_neg (by rw [pn_eq]; simp [c])]
            exact ih ((List.mem_cons.mp h).elim (fun e => absurd e.symm c) id)
      have ix : opIx (.dic (kK (vars p)) ((vars p).map fun k => .str (pS k))) (.str (pn q.1)) = some (.dat (.str (pS q.1))) := by
        simp only [opIx, D.key, dg (vars p) hm, Option.map_some]
      have sv2 : sv.ev.see (stl sv A μ ++ [(⟨true, .dic (kK (vars p)) ((vars p).map fun k => .str (pS k))⟩ : Cell)]) = some (.dic (dKs pn A) (dVs A)) := hq.stl.sees.see _
      have ix2 := ixA nm_pn (look_of f.ga.nd hq')
      have sf := s_fits (n := n + 51) (μ := stl sv A μ ++ [(⟨true, .dic (kK (vars p)) ((vars p).map fun k => .str (pS k))⟩ : Cell)]) (f.ga.sb q hq') (f.gb q hq')
      have gS0 := gS []
      simp [v1, gS0, ni, ix, sv2, ix2, sf]) (A.length + 1) 0 [some (.dat p.d), some sv, some (.cel μ.length), o3, o4, none] (stl sv A μ ++ [(⟨true, .dic (kK (vars p)) ((vars p).map fun k => .str (pS k))⟩ : Cell)]) ⟨none, rfl, rfl⟩ (Nat.zero_le _) (by omega)
  rcases f2 with ⟨ρ', X', e2, o5, rfl, rfl⟩ | ⟨v, X', e, hf⟩
  rotate_left
  · exact hf.elim
  have fk := fork_eq (i := 1) (g := gNm 5) (b := (sIf (bOr (bNot (bTru (eCall 3 (evs [eV 5])))) (bOr (bCmp (opCmp .NotIn) (eV 5) (eV 2)) (bNot (bTru (eCall 17 (evs [eIx (eV 2) (eV 5), eIx (eV 1) (eV 5)])))))) (sRet (eC (.bl false))) (sPass))) (F := VM.run T (n + 57)) (ρ := [some (.dat p.d), some sv, some (.cel μ.length), o3, o4, none]) rfl hqX
  rw [sa, e2] at fk
  have sfl := s_fill (n := n + 7) 25 p A sv (stl sv A μ ++ [(⟨true, .dic (kK (vars p)) ((vars p).map fun k => .str (pS k))⟩ : Cell)]) hp.dp hp.nr hp.ok (hq.stl.sees.app _) f.ga f.hh (by rw [hsub]; have := ht.sz; omega) (by have := hp.sz; omega)
  rw [hsub, show 2 * 25 + (n + 7) = n + 57 by omega] at sfl
  have se0 := hq.sees.see [(⟨true, .dic [] []⟩ : Cell)]
  have see := hq.sees.see0
  have idd : isi .dict (.dic (dKs pn A) (dVs A)) = true := rfl
  have ea := hq.sees.arg
  have vs := s_vars_of (n := n + 53) (μ := μ ++ [⟨true, .dic [] []⟩]) hp
  have tt := s_isTerm (n := n + 53) (μ := stl sv A μ ++ [(⟨true, .dic (kK (vars p)) ((vars p).map fun k => .str (pS k))⟩ : Cell)]) ht
  have vlen : ((vars p).map kD).length = (vars p).length := List.length_map _
  have tk : (stl sv A μ ++ [(⟨true, .dic (kK (vars p)) ((vars p).map fun k => .str (pS k))⟩ : Cell)]).take μ.length = stl sv A μ := by rw [← sl]; simp
  unfold P_is_filling_of
  generalize (sIf (bOr (bNot (bTru (eCall 3 (evs [eV 5])))) (bOr (bCmp (opCmp .NotIn) (eV 5) (eV 2)) (bNot (bTru (eCall 17 (evs [eIx (eV 2) (eV 5), eIx (eV 1) (eV 5)])))))) (sRet (eC (.bl false))) (sPass)) = BB at fk ⊢
  simp [startE, see, idd, vs, e1, fk, ea, sfl, tt, callEnd, EV.out, tk]
theorem s_filled {p t : Tm} {A : AL} {sv : SV} (hp : Good p) (f : Fo p A) (hsub : sub (fA A) p = t) (ht : Good t) (hz : sz t ≤ 200) (hq : Dq sv A μ) : VM.run T (n + 59) 19 [.dat p.d, sv] μ = .ok (.dat t.d) (stl sv A μ) := by
  rw [run_at (nl := 3) (b := P_filled) (by rfl)]
  unfold P_filled
  have e1 := s_fillingOf (n := n) (μ := μ) hp f hsub ht hq
  have w1 := s_want (n := n + 53) (μ := μ) hp
  have sfl := s_fill (n := n + 8) 25 p A sv (stl sv A μ) hp.dp hp.nr hp.ok hq.stl.sees f.ga f.hh (by rw [hsub]; omega) (by have := hp.sz; omega)
  rw [hsub, show 2 * 25 + (n + 8) = n + 58 by omega] at sfl
  have nd := s_nodes_of (n := n + 55) (μ := stl sv A μ) ht.dp (by omega)
  have wm : VM.run T (n + 58) 1 [.dat (.str "nodes"), .dat (.int 200), .dat (.int (sz t : Nat))] (stl sv A μ) = .ok (.dat .non) (stl sv A μ) := by
    rw [run_at (nl := 3) (b := P_want_at_most) (by rfl)]
    unfold P_want_at_most
    have q : opCmp .Gt (.int (sz t : Nat)) (.int 200) = some (decide ((200 : Int) < (sz t : Nat))) := rfl
    rw [decide_eq_false (by omega)] at q
    simp [startE, q, callEnd]
  have ea := hq.sees.arg
  have sl := stl_len sv A μ
  have tk : (stl sv A μ).take μ.length = stl sv A μ := by rw [← sl]; simp
  simp [startE, w1, ea, e1, sfl, nd, wm, callEnd, EV.out, tk]
end
end K16
set_option maxHeartbeats 0
/-! k16: the law's own filling; what is filled matches. -/
namespace K16
open VM Law
open L2 (atI ixN)
section
variable {n : Nat}
theorem l_filled : ∀ (m : Nat) (t : Tm) (A : AL) (sv : SV) (μ : Sto), dep t ≤ m → isR t = false → okT t = true → See sv A μ → GA A → (∀ k ∈ ky t, ∃ b, look A k = some b) → sz (sub (fA A) t) ≤ 2000 → sz t ≤ 900 →
    VM.run T (m + n) 35 [.dat t.d, sv] μ = .ok (.dat (sub (fA A) t).d) μ
  | 0, t, A, sv, μ, h, _, _, _, _, _, _, _ => by have := dep_pos t; omega
  | m + 1, t, A, sv, μ, h, hr, hok, se, g, hk, hz, hs => by
    rw [show m + 1 + n = (m + n) + 1 by omega, run_at (nl := 5) (b := P__law_filled) (by rfl)]
    unfold P__law_filled
    have see := se.see0
    cases t with
    | rst x => cases hr
    | num i => simp [startE, isS, isT, isV, isR, isA, sub, callEnd, EV.out]
    | var x =>
      obtain ⟨b, hb⟩ := hk (.v x) (by simp [ky])
      have ix := ixA nm_pn hb
      simp only [pn] at ix
      have hd : (Tm.var x).d = .str (vS x) := rfl
      have is1 : isi .str (.str (vS x)) = true := rfl
      rcases get_v g x with ⟨lk, _⟩ | ⟨u, lk, fr⟩
      · rw [lk] at hb; cases hb
      · rw [lk] at hb
        cases hb
        simp only [Bv.d] at ix
        simp only [sub]
        rw [hd, fr]
        simp [startE, is1, see, ix, callEnd, EV.out]
    | app hh as =>
      simp only [dep] at h
      simp only [okT] at hok
      simp only [sub, sz] at hz hs
      have hl := len_szs as
      have hlz := len_szs (subs (fA A) as)
      have hka : ∀ q ∈ as, ∀ k ∈ ky q, ∃ b, look A k = some b := fun q hq k hkq => hk k (by
        simp only [ky, List.mem_append]
        refine .inr ?_
        have : ∀ ts : List Tm, q ∈ ts → k ∈ kys ts := by
          intro ts
          induction ts with
          | nil => intro h; cases h
          | cons a ts ih =>
            intro h
            simp only [kys, List.mem_append]
            rcases List.mem_cons.mp h with e | h
            · exact .inl (e ▸ hkq)
            · exact .inr (ih h)
        exact this as hq)
      have fi := for_inv (enc := Tm.d) (Q := as) (F := VM.run T (m + n)) (p := gNm 3) (b := (sIf (bTru (eCall 32 (evs [eV 3]))) (sDrop (eCM aExtend (eV 2) (evs [eCb bList (evs [eIx (eV 1) (eSl (eV 3) (oSome (eC (.int 1))) (oNone))])]))) (sDrop (eCM aAppend (eV 2) (evs [eCall 35 (evs [eV 3, eV 1])])))))
        (fun ts ρ X => ∃ (acc : List Tm) (o3 : Option SV), ρ = [some (.dat (Tm.app hh as).d), some sv, some (.cel μ.length), o3, none] ∧ X = μ ++ [cL (ds acc)] ∧ acc ++ subs (fA A) ts = subs (fA A) as) (fun _ _ => False) (fun q Q' ρ X hq hI => by
          obtain ⟨acc, o3, rfl, rfl, h1⟩ := hI
          rw [subs_cons] at h1
          refine ⟨[some (.dat (Tm.app hh as).d), some sv, some (.cel μ.length), some (.dat q.d), none], μ ++ [cL (ds acc)], rfl, .inl ⟨[some (.dat (Tm.app hh as).d), some sv, some (.cel μ.length), some (.dat q.d), none], μ ++ [cL (ds (acc ++ sub1 (fA A) q))], ?_, acc ++ sub1 (fA A) q, _, rfl, rfl, by rw [List.append_assoc]; exact h1⟩⟩
          have lr : ∀ X : Sto, VM.run T (m + n) 32 [.dat q.d] X = .ok (.dat (.bl (isR q))) X := fun X => by
            obtain ⟨m', rfl⟩ : ∃ m', m = m' + 1 := ⟨m - 1, by have := dep_pos q; have := deps_mem hq; omega⟩
            rw [show m' + 1 + n = (m' + n) + 1 by omega]; exact l_isRest q
          have hlen : acc.length + (sub1 (fA A) q).length ≤ 2000 := by
            have := congrArg List.length h1
            simp only [List.length_append] at this
            omega
          have sek := se.see [cL (ds acc)]
          rw [ds_app]
          cases hq' : isR q with
          | true =>
            cases q <;> simp only [isR, Bool.false_eq_true] at hq'
            rename_i x
            obtain ⟨b, hb⟩ := hka _ hq (.r x) (by simp [ky])
            have ix := ixA nm_pn hb
            simp only [pn] at ix
            have hdx : (Tm.rst x).d = .str (rS x) := rfl
            simp only [isR] at lr
            rw [hdx] at lr ⊢
            simp only [sub1] at hlen ⊢
            rcases get_r g x with ⟨lk, _⟩ | ⟨u, lk, fr⟩
            · rw [lk] at hb; cases hb
            · rw [lk] at hb
              cases hb
              rw [fr] at hlen ⊢
              have ex := aExtend_c (l := ds acc) (e := ds u) (by rw [ds_len, ds_len]; exact lim1 (by omega))
              have bl : bList [.tup (ds u)] = some (.new (.lst (ds u))) := rfl
              simp only [Bv.d] at ix
              simp only [cL] at sek ⊢
              simp [lr, sek, oSome, oNone, rest_cutP, ix, bl, ex]
          | false =>
            have s1 : sub1 (fA A) q = [sub (fA A) q] := sub1_nr hq'
            have e := l_filled m q A sv (μ ++ [cL (ds acc)]) (by have := deps_mem hq; omega) hq' (okA_mem hok hq) (se.app _) g (hka q hq) (by
              have hsz := congrArg szs h1
              rw [s1] at hsz
              simp only [szs_app, szs] at hsz
              omega) (by have := szs_mem hq; omega)
            rw [s1] at hlen ⊢
            have ap := aAppend_c (l := ds acc) (d := (sub (fA A) q).d) (by rw [ds_len]; exact lim2 (by simp at hlen; omega))
            have ea := se.arg
            simp only [cL, ds] at e ⊢
            simp [lr, hq', ea, e, ap]) (as.length + 1) 0 [some (.dat (Tm.app hh as).d), some sv, some (.cel μ.length), none, none] (μ ++ [cL []]) ⟨[], none, rfl, rfl, by simp⟩ (Nat.zero_le _) (by omega)
      rcases fi with ⟨ρ', X', e, acc, o3, rfl, rfl, h1⟩ | ⟨v, X', e, hf⟩
      · simp only [subs, List.append_nil] at h1
        subst h1
        rw [← ds_map] at e
        have bt : bTuple [.lst (ds (subs (fA A) as))] = some (.dat (.tup (ds (subs (fA A) as)))) := rfl
        have se2 : (EV.cel μ.length).see (μ ++ [cL (ds (subs (fA A) as))]) = some (.lst (ds (subs (fA A) as))) := by simp [EV.see, cL]
        have se3 := se.see [cL (ds (subs (fA A) as))]
        have gh := in_GH hh
        have ed : (sub (fA A) (.app hh as)).d = .tup [.str (hS (hF (fA A) hh)), .tup (ds (subs (fA A) as))] := by simp only [sub, Tm.d]
        rw [ed]
        simp only [cL] at e se2 se3
        unfold hF
        by_cases c : hV hh = true
        · obtain ⟨b, hb⟩ := hk (.h hh) (by simp [ky, c])
          have ix := ixA nm_pn hb
          simp only [pn] at ix
          rcases get_h g hh with ⟨lk, _⟩ | ⟨u, lk, fr⟩
          · rw [lk] at hb; cases hb
          · rw [lk] at hb
            cases hb
            simp only [Bv.d] at ix
            rw [if_pos c, fr]
            rw [c] at gh
            simp [startE, isS, isT, isV, isR, isA, ix_app, ix_app0, ds_len, e, gh, se3, ix, bt, se2, callEnd, EV.out]
        · rw [if_neg c]
          have c' : hV hh = false := by simpa using c
          rw [c'] at gh
          simp [startE, isS, isT, isV, isR, isA, ix_app, ix_app0, ds_len, e, gh, bt, se2, callEnd, EV.out]
      · exact hf.elim
end
/-! what is filled matches -/
def vlA (A : AL) (k : Kv) : Bv := (look A k).getD (.h 0)
section
variable {A : AL} (g : GA A) (hn : ∀ q ∈ A, ∀ u, q.2 = .t u → isR u = false)
include g hn
theorem sub_nrA : ∀ {t : Tm}, isR t = false → (∀ k ∈ ky t, ∃ b, look A k = some b) → isR (sub (fA A) t) = false
  | .num _, _, _ => rfl
  | .var x, _, h => by
    obtain ⟨b, hb⟩ := h (.v x) (by simp [ky])
    rcases get_v g x with ⟨lk, _⟩ | ⟨u, lk, fr⟩
    · rw [lk] at hb; cases hb
    · simp only [sub, fr]
      exact hn _ (look_mem lk) u rfl
  | .rst _, h, _ => by cases h
  | .app _ _, _, _ => rfl
mutual
theorem cs_subA : ∀ t : Tm, okT t = true → isR t = false → (∀ k ∈ ky t, ∃ b, look A k = some b) → cs t (sub (fA A) t) = some ((ky t).map fun k => (k, vlA A k))
  | .num i, _, _, _ => by simp [sub, cs, ky]
  | .var x, _, _, h => by
    obtain ⟨b, hb⟩ := h (.v x) (by simp [ky])
    rcases get_v g x with ⟨lk, _⟩ | ⟨u, lk, fr⟩
    · rw [lk] at hb; cases hb
    · simp [sub, cs, ky, fr, vlA, lk]
  | .rst _, _, h, _ => by cases h
  | .app h as, h1, _, hk => by
    simp only [okT] at h1
    have ha := csa_subA as h1 fun k hkk => hk k (by simp only [ky, List.mem_append]; exact .inr hkk)
    simp only [sub, cs, ha, ky]
    unfold hF
    by_cases c : hV h = true
    · obtain ⟨b, hb⟩ := hk (.h h) (by simp [ky, c])
      rcases get_h g h with ⟨lk, _⟩ | ⟨u, lk, fr⟩
      · rw [lk] at hb; cases hb
      · simp [c, fr, vlA, lk]
    · simp [c]
theorem csa_subA : ∀ ts : List Tm, okA ts = true → (∀ k ∈ kys ts, ∃ b, look A k = some b) → csa ts (subs (fA A) ts) = some ((kys ts).map fun k => (k, vlA A k))
  | [], _, _ => by simp [subs, csa, kys]
  | t :: ts, h1, hk => by
    rw [subs_cons]
    cases hr : isR t with
    | true =>
      have := okA_tail h1 hr
      subst this
      cases t <;> simp only [isR, Bool.false_eq_true] at hr
      rename_i x
      obtain ⟨b, hb⟩ := hk (.r x) (by simp [kys, ky])
      rcases get_r g x with ⟨lk, _⟩ | ⟨u, lk, fr⟩
      · rw [lk] at hb; cases hb
      · simp [sub1, subs, csa, isR, kys, ky, fr, vlA, lk]
    | false =>
      simp only [okA, Bool.and_eq_true] at h1
      have hk1 : ∀ k ∈ ky t, ∃ b, look A k = some b := fun k hkk => hk k (by simp only [kys, List.mem_append]; exact .inl hkk)
      rw [sub1_nr hr]
      simp only [List.singleton_append, csa, hr, Bool.false_eq_true, if_false, sub_nrA g hn hr hk1, cs_subA t h1.1.1 hr hk1, csa_subA ts h1.2 (fun k hkk => hk k (by simp only [kys, List.mem_append]; exact .inr hkk)), kys, Option.bind_some, Option.map_some, List.map_append]
end
theorem mt_fill {t : Tm} (h1 : okT t = true) (h3 : isR t = false) (hk : A.map (·.1) = vars t) (hd : dep (sub (fA A) t) ≤ 25) (hs : sz (sub (fA A) t) ≤ 450) : Mt t (sub (fA A) t) = some A := by
  have hdom : ∀ k ∈ ky t, ∃ b, look A k = some b := fun k hkk => by
    have : k ∈ A.map (·.1) := by rw [hk]; exact vars_mem.mpr hkk
    obtain ⟨q, hq, rfl⟩ := List.mem_map.mp this
    exact ⟨q.2, look_of g.nd hq⟩
  have e := cs_subA g hn t h1 h3 hdom
  have oc := cs_oc e hd hs
  unfold Mt
  rw [e]
  simp only [Option.bind_some]
  rcases addA_spec ((ky t).map fun k => (k, vlA A k)) [] GA.nil oc with ⟨A', e2, m, k2⟩ | ⟨_, hn'⟩
  · rw [e2]
    congr 1
    have hk' : A'.map (·.1) = vars t := by
      rw [k2, List.map_map]
      have : (((fun x : Kv × Bv => x.1) ∘ fun k => (k, vlA A k)) : Kv → Kv) = id := rfl
      rw [this, List.map_id]; rfl
    have a1 : A' = (vars t).map fun k => (k, vlA A k) := by
      rw [← hk', List.map_map]
      refine Eq.trans (List.map_id A').symm (List.map_congr_left fun q hq => ?_)
      have hm := (m q).mp hq
      simp only [List.not_mem_nil, false_or] at hm
      obtain ⟨k, _, rfl⟩ := List.mem_map.mp hm
      rfl
    have a2 : A = (vars t).map fun k => (k, vlA A k) := by
      rw [← hk, List.map_map]
      refine Eq.trans (List.map_id A).symm (List.map_congr_left fun q hq => ?_)
      simp only [Function.comp, vlA, look_of g.nd hq, Option.getD_some]
      rfl
    rw [a1, ← a2]
  · refine absurd (fun k b c hb hc => ?_) hn'
    simp only [List.nil_append] at hb hc
    obtain ⟨k1, _, h1⟩ := List.mem_map.mp hb
    obtain ⟨k2, _, h2⟩ := List.mem_map.mp hc
    cases h1; cases h2; rfl
end
end K16
set_option maxHeartbeats 0
/-! k16: drawn fillings. -/
namespace K16
open VM Law
open L2 (atI ixN)
/-- a drawn value -/
def Vd : Bv → Prop
  | .t u => Dt 5 2 u
  | .h _ => True
  | .l us => Da 11 2 us
theorem vd_fit {k : Kv} {b : Bv} (h : Vd b) : fits 64 b.d = true := by
  cases b with
  | t u => exact fit_t (Nat.le_trans h.dp (by decide))
  | h g => exact fit_h g
  | l us => exact fit_l (Nat.le_trans h.dp (by decide))
theorem vd_zb {b : Bv} (h : Vd b) : zb b ≤ 450 := by
  cases b with
  | t u => exact Nat.le_trans h.sz (by decide)
  | h g => show (1 : Nat) ≤ 450; omega
  | l us => exact Nat.le_trans h.sz (by decide)
def hdV : List (Fin 6) := [1, 2, 5, 3, 4]
theorem hdV_d : (hdV.map fun h => D.str (hS h)) = [.str "f", .str "g", .str "zz3", .str "H", .str "G"] := rfl
theorem in_GHv : ∀ x : Fin 4, opCmp .In (.str (vS x)) (.lst [.str "G", .str "H"]) = some false := by decide +kernel
section
variable {n k : Nat} {X : Sto}
theorem l_headRest : ∀ h : Fin 6, VM.run T (n + 1) 32 [.dat (.str (hS h))] X = .ok (.dat (.bl false)) X
  | 0 => pure_of (by kernel_rfl)
  | 1 => pure_of (by kernel_rfl)
  | 2 => pure_of (by kernel_rfl)
  | 3 => pure_of (by kernel_rfl)
  | 4 => pure_of (by kernel_rfl)
  | 5 => pure_of (by kernel_rfl)
theorem Ext.set {μ Y : Sto} {j : Nat} {c : Cell} (h : Ext μ Y k) (hj : μ.length ≤ j) : Ext μ (Y.set j c) k := by
  obtain ⟨μc, E', rfl, n1⟩ := h
  refine ⟨μc, E'.set (j - μc.length) c, ?_, n1⟩
  rw [List.set_append_right]
  rw [n1.len]; exact hj
theorem Nxt.get {X Y : Sto} {j : Nat} (h : Nxt X Y k) (hj : j ≠ k) : Y[j]? = X[j]? := by
  obtain ⟨a, b, rfl⟩ := h
  exact List.getElem?_set_ne (fun e => hj e.symm)
theorem PotAt.set {X : Sto} {j : Nat} {c : Cell} (h : PotAt X k) (hj : j ≠ k) : PotAt (X.set j c) k := by
  obtain ⟨a, b, h⟩ := h
  exact ⟨a, b, by rw [List.getElem?_set_ne hj]; exact h⟩
def fillB : SS := (sIf (bTru (eCall 32 (evs [eV 3]))) (sSeq (sSet 4 (eLc (iRange (evs [eCall 27 (evs [eV 0, eC (.int 3)])])) (.nm 5) (bYes) (eCall 29 (evs [eV 0, eC (.int 1)])) [5])) (sSeq (sIf (bCmp (opCmp .Eq) (eCall 27 (evs [eV 0, eC (.int 3)])) (eC (.int 0))) (sDrop (eCM aAppend (eV 4) (evs [eCall 28 (evs [eV 0, eLst (evs [eC (.str "*S"), eC (.str "*T")])])]))) (sPass)) (sAsg (eCb bTuple (evs [eV 4])) (gSb (eV 2) (eSl (eV 3) (oSome (eC (.int 1))) (oNone)))))) (sIf (bCmp (opCmp .In) (eV 3) (eLst (evs [eC (.str "G"), eC (.str "H")]))) (sAsg (eCall 28 (evs [eV 0, eLst (evs [eC (.str "f"), eC (.str "g"), eC (.str "zz3"), eC (.str "H"), eC (.str "G")])])) (gSb (eV 2) (eV 3))) (sAsg (eCall 29 (evs [eV 0, eC (.int 1)])) (gSb (eV 2) (eV 3)))))
/-- one variable -/
theorem fill_one {t : Tm} {q : Kv} {acc : AL} {j : Nat} {o4 o5 : Option SV} (hqv : q ∈ vars t) (hp : PotAt X k) (hj : X[j]? = some ⟨true, dD pn acc⟩) (ne : j ≠ k) (ga : GA acc) (hnew : look acc q = none) :
    ∃ (b : Bv) (o4' : Option SV) (Y E : Sto), sb q b = true ∧ Vd b ∧ Nxt X Y k ∧ fillB (VM.run T (n + 29)) [some (.cel k), some (.dat t.d), some (.cel j), some (.dat (lD q)), o4, o5] X =
      .ok (.nx [some (.cel k), some (.dat t.d), some (.cel j), some (.dat (lD q)), o4', o5]) ((Y ++ E).set j ⟨true, dD pn (acc ++ [(q, b)])⟩) := by
  have hk := hp.lt
  have hjl := (List.getElem?_eq_some_iff.mp hj).1
  unfold fillB
  cases q with
  | v x =>
    obtain ⟨u, Y, e, nx, du⟩ := l_term (n := n + 25) 1 X (by decide) hp
    simp only [show n + 25 + 3 + 1 = n + 29 by omega] at e
    have hjY : Y[j]? = some ⟨true, dD pn acc⟩ := by rw [nx.get ne]; exact hj
    have pt := putA nm_pn (b := .t u) ga hnew
    have lr := l_isRest (n := n + 28) (μ := X) (.var x)
    have lr' : VM.run T (n + 29) 32 [.dat (.str (vS x))] X = .ok (.dat (.bl false)) X := lr
    have gh := in_GHv x
    refine ⟨.t u, o4, Y, [], rfl, du.mono (by simp [Sd]) (by omega), nx, ?_⟩
    have e1 : lD (.v x) = .str (vS x) := rfl
    rw [e1, List.append_nil]
    simp only [pn, Bv.d] at pt
    simp at e
    simp only [dD] at hjY pt ⊢
    simp [lr', gh, e, gSb, hjY, pt]
  | h x =>
    have hv := ky_h t x (vars_mem.mp hqv)
    obtain ⟨d, Y, hd, nx, e⟩ := s_pick (n := n + 27) hp (hdV.map fun h => D.str (hS h)) (by decide) (by decide)
    simp only [show n + 27 + 2 = n + 29 by omega] at e
    obtain ⟨g, _, rfl⟩ := List.mem_map.mp hd
    rw [hdV_d] at e
    have hjY : Y[j]? = some ⟨true, dD pn acc⟩ := by rw [nx.get ne]; exact hj
    have pt := putA nm_pn (b := .h g) ga hnew
    have lr := l_headRest (n := n + 28) (X := X) x
    have gh := in_GH x
    rw [hv] at gh
    refine ⟨.h g, o4, Y, [], rfl, trivial, nx, ?_⟩
    have e1 : lD (.h x) = .str (hS x) := rfl
    rw [e1, List.append_nil]
    simp only [pn, Bv.d] at pt
    simp only [dD] at hjY pt ⊢
    simp [lr, gh, e, gSb, hjY, pt]
  | r x =>
    obtain ⟨mm, X1, hmm, n1, e1⟩ := s_draw (n := n + 28) hp 3 (by decide) (by decide)
    have hp1 := n1.pot hk
    obtain ⟨s, rg, sl⟩ := rng1 mm (by omega)
    have slm : s.length ≤ LIM := lim1 (by omega)
    obtain ⟨ts, X2, lc, n2, tl, tp⟩ := lc_st (k := k) (L := X1.length) (P := Dt 5 2)
      (step := lcStep (VM.run T (n + 29)) (.nm 5) bYes (eCall 29 (evs [eV 0, eC (.int 1)])) [some (.cel k), some (.dat t.d), some (.cel j), some (.dat (.str (rS x))), o4, none]) (fun d μ hp _ => by
        obtain ⟨t, μ', e, nx, pt⟩ := l_term (n := n + 25) 1 μ (by decide) hp
        simp only [show n + 25 + 3 + 1 = n + 29 by omega] at e
        exact ⟨t, μ', by simp at e; simp [asg, e], nx, pt.mono (by simp [Sd]) (by omega)⟩) s slm (s.length + 1) 0 X1 hp1 rfl (Nat.zero_le _) (by omega)
    have tlm : ts.length ≤ LIM := lim1 (by omega)
    have hp2 := n2.pot hp1.lt
    obtain ⟨da, hnr⟩ := da_of tp
    obtain ⟨ts', X3, er, n3, hts⟩ := rest_step (n := n + 27) (a := 0) (i := 4) (m0 := 3) (ρ := [some (.cel k), some (.dat t.d), some (.cel j), some (.dat (.str (rS x))), some (.cel X2.length), o5]) (ts := ts) rfl rfl (by decide) (by decide) hp2 (by omega)
    simp only [show n + 27 + 2 = n + 29 by omega] at er
    have nn := (n1.trans n2).trans n3
    have hj3 : (X3 ++ [cL (ds ts')])[j]? = some ⟨true, dD pn acc⟩ := by
      rw [List.getElem?_append_left (by rw [nn.len]; exact hjl), nn.get ne]; exact hj
    have lr := l_isRest (n := n + 28) (μ := X) (.rst x)
    have lr' : VM.run T (n + 29) 32 [.dat (.str (rS x))] X = .ok (.dat (.bl true)) X := lr
    have hda : Da 11 2 ts' := by
      have h3 : ts.length * 5 ≤ 2 * 5 := Nat.mul_le_mul_right _ (by omega)
      rcases hts with rfl | ⟨xx, rfl⟩
      · exact ⟨da.ok, da.n7, by have := da.sz; omega, da.dp⟩
      · have := da.rest hnr (by omega) xx
        exact ⟨this.ok, this.n7, by have := this.sz; omega, this.dp⟩
    have pt := putA nm_pn (b := .l ts') ga hnew
    refine ⟨.l ts', some (.cel X2.length), X3, [cL (ds ts')], rfl, hda, nn, ?_⟩
    have e0 : lD (.r x) = .str (rS x) := rfl
    rw [e0]
    have l23 : X2.length = X3.length := n3.len.symm
    have s3 : (EV.cel X2.length).see (X3 ++ [cL (ds ts')]) = some (.lst (ds ts')) := by rw [l23]; simp [EV.see, cL]
    have bt : bTuple [.lst (ds ts')] = some (.dat (.tup (ds ts'))) := rfl
    simp only [pn, Bv.d] at pt
    simp only [dD, cL] at hj3 pt er s3 ⊢
    generalize hP : (sIf (bCmp (opCmp .Eq) (eCall 27 (evs [eV 0, eC (.int ((3 : Nat) : Int))])) (eC (.int 0))) (sDrop (eCM aAppend (eV 4) (evs [eCall 28 (evs [eV 0, eLst (evs [eC (.str "*S"), eC (.str "*T")])])]))) (sPass)) = PP at er
    have hP' : (sIf (bCmp (opCmp .Eq) (eCall 27 (evs [eV 0, eC (.int 3)])) (eC (.int 0))) (sDrop (eCM aAppend (eV 4) (evs [eCall 28 (evs [eV 0, eLst (evs [eC (.str "*S"), eC (.str "*T")])])]))) (sPass)) = PP := hP
    try rw [hP']
    simp [lr', e1, rg, wipeE, lc, ds_len, tlm, er, s3, bt, oSome, oNone, rest_cutP, gSb, hj3, pt]
/-- a drawn filling -/
structure Fd (t : Tm) (A : AL) : Prop where
  ga : GA A
  dom : A.map (·.1) = vars t
  vd : ∀ q ∈ A, Vd q.2
theorem l_filling {t : Tm} (hp : PotAt X k) (hd : dep t ≤ 25) (hs : sz t ≤ 450) : ∃ (A : AL) (Y : Sto), VM.run T (n + 30) 34 [.cel k, .dat t.d] X = .ok (.new (dD pn A)) Y ∧ Nxt X Y k ∧ Fd t A := by
  have hk := hp.lt
  rw [run_at (nl := 6) (b := P__law_filling) (by rfl)]
  obtain ⟨r, e0, hr⟩ := l_vars0 (n := n + 4) (μ := X ++ [⟨true, .dic [] []⟩]) (m := 25) (t := t) hd (by omega)
  rw [show 25 + (n + 4) = n + 29 by omega] at e0
  have nd := vars_nd t
  have fi := for_inv (enc := lD) (Q := vars t) (F := VM.run T (n + 29)) (p := gNm 3) (b := fillB)
    (fun Q' ρ X' => ∃ (acc : AL) (o3 o4 : Option SV), ρ = [some (.cel k), some (.dat t.d), some (.cel X.length), o3, o4, none] ∧ X'[X.length]? = some ⟨true, dD pn acc⟩ ∧ Ext X X' k ∧ PotAt X' k ∧ acc.map (·.1) ++ Q' = vars t ∧ GA acc ∧ ∀ q ∈ acc, Vd q.2) (fun _ _ => False) (fun q Q' ρ X' hq hI => by
      obtain ⟨acc, o3, o4, rfl, h1, h2, h3, h4, h5, h6⟩ := hI
      have nd2 : (acc.map (·.1) ++ q :: Q').Nodup := by rw [h4]; exact nd
      have nq : look acc q = none := (look_none acc q).mpr fun hm => (List.nodup_append.mp nd2).2.2 q hm q List.mem_cons_self rfl
      have ne : X.length ≠ k := by omega
      obtain ⟨b, o4', Y, E, hb, hvd, nx, e⟩ := fill_one (n := n) (o4 := o4) (o5 := none) hq h3 h1 ne h5 nq
      have hjl := (List.getElem?_eq_some_iff.mp h1).1
      refine ⟨[some (.cel k), some (.dat t.d), some (.cel X.length), some (.dat (lD q)), o4, none], X', rfl, .inl ⟨_, _, e, acc ++ [(q, b)], _, _, rfl, ?_, ((h2.nxt hk nx).push).set (Nat.le_refl _), ((nx.pot h3.lt).app).set ne, by simpa using h4, h5.app nq hb (vd_fit (k := q) hvd) (vd_zb hvd), fun q' hq' => ?_⟩⟩
      · exact List.getElem?_set_self (by rw [List.length_append, nx.len]; omega)
      · rcases List.mem_append.mp hq' with hq' | hq'
        · exact h6 q' hq'
        · rw [List.mem_singleton.mp hq']; exact hvd) ((vars t).length + 1) 0 [some (.cel k), some (.dat t.d), some (.cel X.length), none, none, none] (X ++ [⟨true, .dic [] []⟩])
    ⟨[], none, none, rfl, by simp [dD, dKs, dVs], (Ext.refl hp).push, hp.app, rfl, GA.nil, fun q hq => by cases hq⟩ (Nat.zero_le _) (by omega)
  rcases fi with ⟨ρ', X', e, acc, o3, o4, rfl, h1, h2, h3, h4, h5, h6⟩ | ⟨v, X', e, hf⟩
  · rw [List.append_nil] at h4
    refine ⟨acc, X'.take X.length, ?_, h2.fin, h5, h4, h6⟩
    have ll : ((vars t).map lD).length = (vars t).length := List.length_map _
    unfold P__law_filling
    unfold fillB at e
    have lt : ¬ X.length < X.length := Nat.lt_irrefl _
    simp only [dD] at h1 ⊢
    generalize (sIf (bTru (eCall 32 (evs [eV 3]))) _ _) = BB at e ⊢
    rcases hr with rfl | rfl <;> simp [startE, e0, ll, e, callEnd, EV.out, h1]
  · exact hf.elim
end
end K16
set_option maxHeartbeats 0
/-! k16: spoiled terms. -/
namespace K16
open VM Law
open L2 (atI ixN)
structure Sp' (t s : Tm) : Prop where
  ok : okT s = true
  nr : isR s = false
  sz : K16.sz s ≤ K16.sz t + 1
  dp : dep s ≤ dep t + 1
theorem okA_mid {x : Tm} {a2 : List Tm} : ∀ {a1 : List Tm}, okA (a1 ++ x :: a2) = true → (∀ y ∈ a1, isR y = false ∧ okT y = true) ∧ okA (x :: a2) = true
  | [], h => ⟨by simp, h⟩
  | y :: a1, h => by
    simp only [List.cons_append, okA, Bool.and_eq_true] at h
    obtain ⟨h1, h2⟩ := okA_mid h.2
    refine ⟨fun z hz => ?_, h2⟩
    rcases List.mem_cons.mp hz with rfl | hz
    · refine ⟨?_, h.1.1⟩
      have := h.1.2
      simpa using this
    · exact h1 z hz
theorem okA_join {b : List Tm} : ∀ {a1 : List Tm}, (∀ y ∈ a1, isR y = false ∧ okT y = true) → okA b = true → okA (a1 ++ b) = true
  | [], _, h => h
  | y :: a1, h1, h => by
    have ih := okA_join (fun z hz => h1 z (List.mem_cons_of_mem _ hz)) h
    obtain ⟨r1, r2⟩ := h1 y List.mem_cons_self
    simp only [List.cons_append, okA, r1, r2, ih]
    simp
def sL (t : Tm) : List Tm := [.num 5, .var 1, .app 1 [], .app 2 [t], .app 1 [.rst 1]]
theorem sL_d (t : Tm) : (sL t).map Tm.d = [.int 5, .str "Y", .tup [.str "f", .tup []], .tup [.str "g", .tup [t.d]], .tup [.str "f", .tup [.str "*T"]]] := rfl
theorem sL_g {t : Tm} (ho : okT t = true) : ∀ s ∈ sL t, Sp' t s := by
  intro s h
  have h1 := sz_pos t
  have h2 := dep_pos t
  simp only [sL, List.mem_cons, List.not_mem_nil, or_false] at h
  rcases h with rfl | rfl | rfl | rfl | rfl
  · exact ⟨rfl, rfl, by simp only [sz]; omega, by simp only [dep]; omega⟩
  · exact ⟨rfl, rfl, by simp only [sz]; omega, by simp only [dep]; omega⟩
  · exact ⟨rfl, rfl, by simp only [sz, szs]; omega, by simp only [dep, deps]; omega⟩
  · exact ⟨by simp [okT, okA, ho], rfl, by simp only [sz, szs]; omega, by simp only [dep, deps]; omega⟩
  · exact ⟨rfl, rfl, by simp only [sz, szs]; omega, by simp only [dep, deps]; omega⟩
theorem cutL_to {ds : List D} {k : Nat} (h : k ≤ ds.length) : opSl (.lst ds) none (some (k : Nat)) = some (.new (.lst (ds.take k))) := by
  have : cutD ds none (some (k : Nat)) = ds.take k := by
    unfold cutD
    rw [HT.sIx_nat, HT.sIx_none, Nat.min_eq_left h, Nat.sub_zero, List.drop_zero]
  simp only [opSl, this]
theorem cutL_from {ds : List D} {k : Nat} (h : k ≤ ds.length) : opSl (.lst ds) (some (k : Nat)) none = some (.new (.lst (ds.drop k))) := by
  have : cutD ds (some (k : Nat)) none = ds.drop k := by
    unfold cutD
    rw [HT.sIx_nat, HT.sIx_none, Nat.min_eq_left h, List.take_of_length_le (by rw [List.length_drop]; omega)]
  simp only [opSl, this]
theorem eq_unit {as : List Tm} (h : deps as ≤ 25) : opCmp .Eq (.tup (ds as)) (.tup []) = some as.isEmpty := by
  have h1 : fits 64 (.tup (ds as)) = true := fit_l h
  have h2 : fits 64 (.tup []) = true := by simp [fits, fitsAll]
  simp only [opCmp, opEq_fit h1 h2]
  cases as <;> simp [ds, eqv, eqvs]
section
variable {n k : Nat}
theorem drop_mid {x : Tm} {a2 : List Tm} : ∀ a1 : List Tm, (a1 ++ x :: a2).drop (a1.length + 1) = a2
  | [] => rfl
  | y :: a1 => by simp only [List.cons_append, List.length_cons, List.drop_succ_cons, drop_mid a1]
theorem l_spoil : ∀ (d : Nat) (X : Sto) (t : Tm), okT t = true → isR t = false → dep t ≤ 24 → sz t ≤ 440 → PotAt X k →
    ∃ (s : Tm) (Y : Sto), VM.run T (n + 4 + d) 39 [.cel k, .dat t.d, .dat (.int (d : Nat))] X = .ok (.dat s.d) Y ∧ Nxt X Y k ∧ Sp' t s
  | d, X, t, hok, hnr, hdp, hsz, hp => by
    have hk := hp.lt
    rw [show n + 4 + d = (n + 3 + d) + 1 by omega, run_at (nl := 6) (b := P__law_spoiled) (by rfl)]
    have tk : ∀ Z : Sto, Z.length = X.length → Z.take X.length = Z := fun Z h => List.take_of_length_le (by rw [h]; exact Nat.le_refl _)
    obtain ⟨D1, hD⟩ : ∃ D1 : Int, D1 = (d : Nat) := ⟨_, rfl⟩
    rw [← hD]
    have q0 : opCmp .Eq (.int D1) (.int 0) = some (D1 == 0) := by simp only [opCmp, opEq_int]
    -- a leaf is picked
    have leaf : ∀ X1, Nxt X X1 k → (bOr (bNot (bTru (eIsi .tuple (eV 1)))) (bOr (bCmp (opCmp .Eq) (eIx (eV 1) (eC (.int 1))) (eTup (evs []))) (bOr (bCmp (opCmp .Eq) (eV 2) (eC (.int 0))) (bCmp (opCmp .Eq) (eCall 27 (evs [eV 0, eC (.int 3)])) (eC (.int 0))))) : SB) (VM.run T (n + 3 + d)) [some (.cel k), some (.dat t.d), some (.dat (.int D1)), none, none, none] X = .ok true X1 →
        ∃ (s : Tm) (Y : Sto), callEnd X.length (P__law_spoiled (VM.run T (n + 3 + d)) (startE 6 [.cel k, .dat t.d, .dat (.int D1)]) X) = .ok (.dat s.d) Y ∧ Nxt X Y k ∧ Sp' t s := fun X1 n1 hc => by
      obtain ⟨x, Y, hx, n2, e2⟩ := s_pick (n := n + 1 + d) (n1.pot hk) ((sL t).map Tm.d) (by simp [sL]) (by simp [sL])
      rw [show n + 1 + d + 2 = n + 3 + d by omega] at e2
      obtain ⟨s, hs, rfl⟩ := List.mem_map.mp hx
      refine ⟨s, Y, ?_, n1.trans n2, sL_g hok s hs⟩
      have l2 := tk Y (by rw [n2.len, n1.len])
      rw [sL_d] at e2
      unfold P__law_spoiled
      generalize (bOr (bNot (bTru (eIsi .tuple (eV 1)))) _ : SB) = BC at hc ⊢
      generalize t.d = td at *
      simp [startE, hc, e2, callEnd, EV.out, l2]
    by_cases ha : isA t = true
    rotate_left
    · have ha' : isA t = false := by simpa using ha
      exact leaf X (.refl hp) (by simp [isT, ha'])
    obtain ⟨hh, as, rfl⟩ : ∃ hh as, t = .app hh as := by
      cases t <;> simp [isA] at ha
      exact ⟨_, _, rfl⟩
    simp only [okT] at hok
    have hdp' : deps as ≤ 24 := by simp only [dep] at hdp; omega
    have hsz' : szs as ≤ 440 := by simp only [sz] at hsz; omega
    have hl := len_szs as
    have eu := eq_unit (as := as) (by omega)
    have itt : isi .tuple (Tm.app hh as).d = true := rfl
    by_cases hem : as.isEmpty = true
    · rw [hem] at eu
      exact leaf X (.refl hp) (by simp [itt, ix_app, eu])
    have hem' : as.isEmpty = false := by simpa using hem
    rw [hem'] at eu
    by_cases hd0 : D1 = 0
    · rw [beq_iff_eq.mpr hd0] at q0
      exact leaf X (.refl hp) (by simp [itt, ix_app, eu, q0])
    rw [beq_eq_false_iff_ne.mpr hd0] at q0
    obtain ⟨d', rfl⟩ : ∃ d', d = d' + 1 := ⟨d - 1, by omega⟩
    obtain ⟨r, X1, hr, n1, e1⟩ := s_draw (n := n + 2 + (d' + 1)) hp 3 (by decide) (by decide)
    rw [show n + 2 + (d' + 1) + 1 = n + 3 + (d' + 1) by omega] at e1
    have hp1 := n1.pot hk
    have q1 : opCmp .Eq (.int (r : Nat)) (.int 0) = some ((r : Int) == 0) := by simp only [opCmp, opEq_int]
    by_cases hr0 : (r : Int) = 0
    · rw [beq_iff_eq.mpr hr0] at q1
      exact leaf X1 n1 (by simp [itt, ix_app, eu, q0, e1, q1])
    rw [beq_eq_false_iff_ne.mpr hr0] at q1
    clear leaf
    have hlen : 0 < as.length := by
      cases as with
      | nil => simp at hem'
      | cons a as => simp
    obtain ⟨at', X2, hat, n2, e2⟩ := s_draw (n := n + 2 + (d' + 1)) hp1 (as.length : Nat) (by omega) (by omega)
    rw [show n + 2 + (d' + 1) + 1 = n + 3 + (d' + 1) by omega] at e2
    have hp2 := n2.pot hp1.lt
    obtain ⟨wy, X3, hwy, n3, e3⟩ := s_draw (n := n + 2 + (d' + 1)) hp2 4 (by decide) (by decide)
    rw [show n + 2 + (d' + 1) + 1 = n + 3 + (d' + 1) by omega] at e3
    have hp3 := n3.pot hp2.lt
    have n13 := (n1.trans n2).trans n3
    have l3 : X3.length = X.length := n13.len
    have hatl : at' < as.length := by omega
    obtain ⟨a1, x, a2, hs, h1⟩ : ∃ a1 x a2, as = a1 ++ x :: a2 ∧ a1.length = at' := ⟨as.take at', as[at'], as.drop (at' + 1), by rw [← List.drop_eq_getElem_cons hatl, List.take_append_drop], by rw [List.length_take]; omega⟩
    obtain ⟨m1, m2⟩ := okA_mid (hs ▸ hok)
    have m3 : okA a2 = true := by simp only [okA, Bool.and_eq_true] at m2; exact m2.2
    have mx : okT x = true := by simp only [okA, Bool.and_eq_true] at m2; exact m2.1.1
    have s1 : szs as = szs a1 + (sz x + szs a2) := by rw [hs, szs_app]; simp only [szs]
    have d1 : deps as = max (deps a1) (max (dep x) (deps a2)) := by rw [hs, deps_app]; simp only [deps]
    have bl : bLen [.tup (ds as)] = some (.dat (.int (as.length : Nat))) := by
      show some (EV.dat (.int ((ds as).length : Nat))) = _
      rw [ds_len]
    have bls' : bList [.tup (ds as)] = some (.new (.lst (ds as))) := rfl
    have bt : ∀ l, bTuple [.lst l] = some (.dat (.tup l)) := fun l => rfl
    have w0 : opCmp .Eq (.int (wy : Nat)) (.int 0) = some ((wy : Int) == 0) := by simp only [opCmp, opEq_int]
    have w1 : opCmp .Eq (.int (wy : Nat)) (.int 1) = some ((wy : Int) == 1) := by simp only [opCmp, opEq_int]
    have w2 : opCmp .Eq (.int (wy : Nat)) (.int 2) = some ((wy : Int) == 2) := by simp only [opCmp, opEq_int]
    have see : (EV.cel X3.length).see (X3 ++ [cL (ds as)]) = some (.lst (ds as)) := by simp [EV.see, cL]
    have tk3 : ∀ c, (X3 ++ [c]).take X.length = X3 := fun c => by rw [← l3]; simp
    have c1 : opSl (.lst (ds as)) none (some (at' : Nat)) = some (.new (.lst (ds a1))) := by
      rw [cutL_to (by rw [ds_len]; omega), ds_take, hs, ← h1, List.take_left]
    have c2 : opSl (.lst (ds as)) (some ((at' : Int) + 1)) none = some (.new (.lst (ds a2))) := by
      have := cutL_from (ds := ds as) (k := at' + 1) (by rw [ds_len]; omega)
      rw [show ((at' : Int) + 1) = ((at' + 1 : Nat) : Int) by omega, this, ds_drop]
      have h2 : as.drop (at' + 1) = a2 := by rw [hs, ← h1]; exact drop_mid a1
      rw [h2]
    have c3 : opSl (.lst (ds as)) (some (at' : Nat)) none = some (.new (.lst (ds (x :: a2)))) := by
      rw [cutL_from (by rw [ds_len]; omega), ds_drop, hs, ← h1, List.drop_left]
    have ixx : opIx (.lst (ds as)) (.int (at' : Nat)) = some (.dat x.d) := by
      show (atI (ds as) (at' : Nat)).map EV.dat = _
      have : (ds as)[at']? = some x.d := by rw [ds_map, List.getElem?_map, hs, ← h1]; simp
      unfold L2.atI L2.ixN
      rw [if_pos (by omega), if_pos (by rw [ds_len]; omega)]
      simp [this]
    have dh : ∀ l, (Tm.app hh l).d = .tup [.str (hS hh), .tup (ds l)] := fun l => rfl
    have base : ∀ s : Tm, s = s := fun s => rfl
    have cond : (bOr (bNot (bTru (eIsi .tuple (eV 1)))) (bOr (bCmp (opCmp .Eq) (eIx (eV 1) (eC (.int 1))) (eTup (evs []))) (bOr (bCmp (opCmp .Eq) (eV 2) (eC (.int 0))) (bCmp (opCmp .Eq) (eCall 27 (evs [eV 0, eC (.int 3)])) (eC (.int 0))))) : SB) (VM.run T (n + 3 + (d' + 1))) [some (.cel k), some (.dat (Tm.app hh as).d), some (.dat (.int D1)), none, none, none] X = .ok false X1 := by
      simp [itt, ix_app, eu, q0, e1, q1]
    have sb' : opBin .Sub (.int D1) (.int 1) = some (.dat (.int (d' : Nat))) := by
      show some (EV.dat (.int (D1 - 1))) = _
      congr 3
      omega
    have hln : as.length = a1.length + (a2.length + 1) := by rw [hs]; simp
    unfold P__law_spoiled
    by_cases b0 : (wy : Int) = 0
    · rw [beq_iff_eq.mpr b0] at w0
      refine ⟨.app hh (a1 ++ a2), X3, ?_, n13, ?_⟩
      · have ad := addL (xs := ds a1) (ys := ds a2) (by rw [ds_len, ds_len]; omega)
        rw [dh (a1 ++ a2), ds_app]
        generalize (bOr (bNot (bTru (eIsi .tuple (eV 1)))) _ : SB) = BC at cond ⊢
        simp only [cL] at see tk3
        simp [startE, cond, ix_app, ix_app0, bl, e2, e3, bls', w0, see, oNone, oSome, c1, c2, addI, ad, bt, callEnd, EV.out, tk3]
      · exact ⟨by simp only [okT]; exact okA_join m1 m3, rfl, by simp only [sz, szs_app]; omega, by simp only [dep, deps_app]; omega⟩
    · rw [beq_eq_false_iff_ne.mpr b0] at w0
      by_cases b1 : (wy : Int) = 1
      · rw [beq_iff_eq.mpr b1] at w1
        obtain ⟨L5, hL5⟩ : ∃ L : List Tm, L = a1 ++ Tm.num 5 :: x :: a2 := ⟨_, rfl⟩
        refine ⟨.app hh L5, X3, ?_, n13, ?_⟩
        · have ad1 := addL (xs := ds a1) (ys := [.int 5]) (by rw [ds_len]; simp; omega)
          have ad2 := addL (xs := ds a1 ++ [.int 5]) (ys := ds (x :: a2)) (by rw [List.length_append, ds_len, ds_len]; simp; omega)
          have ed : ds L5 = ds a1 ++ [.int 5] ++ ds (x :: a2) := by rw [hL5, ds_app]; simp [ds, Tm.d]
          rw [dh L5, ed]
          generalize (bOr (bNot (bTru (eIsi .tuple (eV 1)))) _ : SB) = BC at cond ⊢
          generalize ds (x :: a2) = XA at *
          simp only [cL] at see tk3
          simp only [List.append_assoc] at *
          simp [startE, cond, ix_app, ix_app0, bl, e2, e3, bls', w0, w1, see, oNone, oSome, c1, c3, ad1, ad2, bt, callEnd, EV.out, tk3]
        · have ho5 : okA L5 = true := by
            rw [hL5]
            refine okA_join m1 ?_
            rw [okA, m2]
            simp [okT, isR]
          refine ⟨by simp only [okT]; exact ho5, rfl, by rw [hL5]; simp only [sz, szs_app, szs]; omega, by rw [hL5]; simp only [dep, deps_app, deps]; omega⟩
      · rw [beq_eq_false_iff_ne.mpr b1] at w1
        have lr := l_isRest (n := n + 2 + (d' + 1)) (μ := X3 ++ [cL (ds as)]) x
        rw [show n + 2 + (d' + 1) + 1 = n + 3 + (d' + 1) by omega] at lr
        by_cases b2 : ((wy : Int) == 2 || isR x) = true
        · obtain ⟨g, X4, hg, n4, e4⟩ := s_pick (n := n + 1 + (d' + 1)) (μ := X3 ++ [cL (ds as)]) (k := k) hp3.app (hdP.map fun h => D.str (hS h)) (by decide) (by decide)
          rw [show n + 1 + (d' + 1) + 2 = n + 3 + (d' + 1) by omega] at e4
          obtain ⟨X5, rfl, n5⟩ := n4.app (by exact hp3.lt)
          obtain ⟨gg, _, rfl⟩ := List.mem_map.mp hg
          rw [hdP_d] at e4
          have l5 : X5.length = X.length := by rw [n5.len, l3]
          have tk5 : ∀ c, (X5 ++ [c]).take X.length = X5 := fun c => by rw [← l5]; simp
          refine ⟨.app gg as, X5, ?_, n13.trans n5, ⟨hok, rfl, by simp only [sz]; omega, by simp only [dep]; omega⟩⟩
          have dg : (Tm.app gg as).d = .tup [.str (hS gg), .tup (ds as)] := rfl
          rw [dg]
          generalize (bOr (bNot (bTru (eIsi .tuple (eV 1)))) _ : SB) = BC at cond ⊢
          simp only [cL] at see tk5 e4 lr
          cases c2' : ((wy : Int) == 2) with
          | true =>
            rw [c2'] at w2
            simp [startE, cond, ix_app, ix_app0, bl, e2, e3, bls', w0, w1, w2, e4, callEnd, EV.out, tk5]
          | false =>
            rw [c2'] at w2 b2
            have b2 : isR x = true := by simpa using b2
            rw [b2] at lr
            simp [startE, cond, ix_app, ix_app0, bl, e2, e3, bls', w0, w1, w2, see, ixx, lr, e4, callEnd, EV.out, tk5]
        · have b2 : ((wy : Int) == 2 || isR x) = false := by simpa using b2
          rw [Bool.or_eq_false_iff] at b2
          rw [b2.1] at w2
          rw [b2.2] at lr
          obtain ⟨s, X4, e4, n4, hsp⟩ := l_spoil d' (X3 ++ [cL (ds as)]) x mx b2.2 (by omega) (by omega) hp3.app
          rw [show n + 4 + d' = n + 3 + (d' + 1) by omega] at e4
          obtain ⟨X5, rfl, n5⟩ := n4.app (by exact hp3.lt)
          have l5 : X5.length = X.length := by rw [n5.len, l3]
          have tk5 : ∀ c, (X5 ++ [c]).take X.length = X5 := fun c => by rw [← l5]; simp
          have l35 : X3.length = X5.length := n5.len.symm
          have g5 : (X5 ++ [cL (ds as)])[X3.length]? = some (cL (ds as)) := by rw [l35]; simp
          have hset : (ds as).set at' s.d = ds (a1 ++ s :: a2) := by
            rw [ds_map, ds_map, hs, ← h1]
            simp
          have pt : putAt (.lst (ds as)) (.int (at' : Nat)) s.d = some (.lst (ds (a1 ++ s :: a2))) := by
            have : ixN (ds as).length (at' : Nat) = some at' := by
              unfold L2.ixN
              rw [if_pos (by omega), if_pos (by rw [ds_len]; omega)]
              rfl
            simp only [putAt, this, hset]
          have st : ∀ c, (X5 ++ [cL (ds as)]).set X3.length c = X5 ++ [c] := fun c => by rw [l35]; simp
          have see5 : (EV.cel X3.length).see (X5 ++ [cL (ds (a1 ++ s :: a2))]) = some (.lst (ds (a1 ++ s :: a2))) := by rw [l35]; simp [EV.see, cL]
          refine ⟨.app hh (a1 ++ s :: a2), X5, ?_, n13.trans n5, ?_⟩
          · rw [dh (a1 ++ s :: a2)]
            generalize (bOr (bNot (bTru (eIsi .tuple (eV 1)))) _ : SB) = BC at cond ⊢
            generalize ds (a1 ++ s :: a2) = LS at *
            simp only [cL] at see tk5 e4 lr g5 st see5
            simp [startE, cond, ix_app, ix_app0, bl, e2, e3, bls', w0, w1, w2, see, ixx, lr, sb', e4, gSb, g5, pt, st, see5, bt, callEnd, EV.out, tk5]
          · refine ⟨by
              simp only [okT]
              refine okA_join m1 ?_
              simp only [okA, hsp.ok, hsp.nr, m3]
              simp, rfl, ?_, ?_⟩
            · have := hsp.sz
              simp only [sz, szs_app, szs]; omega
            · have := hsp.dp
              simp only [dep, deps_app, deps]; omega
end
end K16
set_option maxHeartbeats 0
/-! k16: what matches, told and due. -/
namespace K16
open VM Law
open L2 (atI ixN)
theorem fitsAll_mem : ∀ {l : List D} {n : Nat}, (∀ d ∈ l, fits n d = true) → fitsAll n l = true
  | [], n, _ => by simp [fitsAll]
  | d :: l, n, h => by
    simp only [fitsAll, Bool.and_eq_true]
    exact ⟨h d List.mem_cons_self, fitsAll_mem fun e he => h e (List.mem_cons_of_mem _ he)⟩
theorem ga_fits {A : AL} (g : GA A) : fitsAll 64 (dVs A) = true := fitsAll_mem fun d hd => by
  obtain ⟨q, hq, rfl⟩ := List.mem_map.mp hd
  exact g.ft q hq
theorem hits_true {A : AL} (g : GA A) : ∀ B : AL, (∀ q ∈ B, q ∈ A) → hitsD (dKs pn A) (dVs A) (dKs pn B) (dVs B) = true
  | [], _ => rfl
  | (k, b) :: B, h => by
    have ih := hits_true g B fun q hq => h q (List.mem_cons_of_mem _ hq)
    have lk := look_of g.nd (h _ List.mem_cons_self)
    simp only [dKs, dVs, List.map_cons, hitsD] at ih ⊢
    have dg := dgetP A k
    simp only [dKs, dVs] at dg
    rw [dg, lk, ih]
    simp only [Option.map_some, Bool.and_true]
    exact bv_refl b
theorem dic_same {A A' : AL} (g : GA A) (g' : GA A') (m : ∀ q, q ∈ A' ↔ q ∈ A) : opEq (.dic (dKs pn A') (dVs A')) (.dic (dKs pn A) (dVs A)) = some true := by
  have e0 : opEq0 (.dic (dKs pn A') (dVs A')) (.dic (dKs pn A) (dVs A)) = none := by
    simp [opEq0, txEq, fits, lenNe]
  have hl : A'.length = A.length := by
    have h1 := List.Nodup.length_le_of_subset (l₂ := A.map (·.1)) g'.nd fun k hk => by
      obtain ⟨q, hq, rfl⟩ := List.mem_map.mp hk
      exact List.mem_map.mpr ⟨q, (m q).mp hq, rfl⟩
    have h2 := List.Nodup.length_le_of_subset (l₂ := A'.map (·.1)) g.nd fun k hk => by
      obtain ⟨q, hq, rfl⟩ := List.mem_map.mp hk
      exact List.mem_map.mpr ⟨q, (m q).mpr hq, rfl⟩
    rw [List.length_map, List.length_map] at h1 h2
    omega
  have hk : ((dKs pn A').length == (dKs pn A).length) = true := by
    unfold dKs
    rw [List.length_map, List.length_map, hl]
    exact beq_self_eq_true _
  unfold opEq
  rw [e0]
  simp only [dicEq, ga_fits g, ga_fits g', Bool.and_self, if_true, hk, Bool.true_and]
  rw [hits_true g A' fun q hq => (m q).mp hq]
theorem q9_new : ∀ k : Kv, keyEq (.inr (pn k)) (.inr "Q9") = false := fun k => by
  cases k <;> rename_i x <;> revert x <;> decide +kernel
theorem q9_dhas (A : AL) : dhas (dKs pn A) (.inr "Q9") = false := by
  induction A with
  | nil => rfl
  | cons a A ih =>
    simp only [dKs, List.map_cons] at ih ⊢
    rw [dhas_cons, q9_new, Bool.false_or]
    exact ih
theorem eq_same {t : Tm} (h : dep t ≤ 25) : opCmp .Eq t.d t.d = some true := by
  simp only [opCmp]
  rw [opEq_fit (d_fits t 64 (by omega)) (d_fits t 64 (by omega)), eqv_refl_tm]
section
variable {n : Nat} {μ : Sto}
theorem s_matched {p t : Tm} (hp : Good p) (ht : Good t) :
    (Mt p t = none ∧ VM.run T (n + 6) 24 [.dat p.d, .dat t.d] μ = .ok (.dat .non) μ) ∨ ∃ A A', Mt p t = some A ∧ GA A' ∧ (∀ q, q ∈ A' ↔ q ∈ A) ∧ VM.run T (n + 6) 24 [.dat p.d, .dat t.d] μ = .ok (.new (dD pn A')) μ := by
  rw [run_at (nl := 2) (b := P_matched) (by rfl)]
  unfold P_matched
  rcases s_matching (n := n) (μ := μ) hp ht with ⟨h, e⟩ | ⟨A, A', h, g, m, e⟩
  · exact .inl ⟨h, by simp [startE, s_want hp, s_want ht, e, callEnd, EV.out]⟩
  · exact .inr ⟨A, A', h, g, m, by simp [startE, s_want hp, s_want ht, e, callEnd, EV.out]⟩
theorem s_isBelow {p t : Tm} (hp : Good p) (ht : Good t) : VM.run T (n + 7) 25 [.dat t.d, .dat p.d] μ = .ok (.dat (.bl (Mt p t).isSome)) μ := by
  have e0 : VM.run T (n + 6) 23 [.dat t.d, .dat p.d] μ = .ok (.dat (.bl (Mt p t).isSome)) μ := by
    rw [run_at (nl := 2) (b := P_is_instance) (by rfl)]
    unfold P_is_instance
    have i1 : opCmp .IsNot .non .non = some false := rfl
    rcases s_matching (n := n) (μ := μ) hp ht with ⟨h, e⟩ | ⟨A, A', h, g, m, e⟩
    · simp [startE, e, i1, h, callEnd, EV.out]
    · have i2 : opCmp .IsNot (.dic (dKs pn A') (dVs A')) .non = some true := rfl
      simp [startE, e, dD, i2, h, callEnd, EV.out]
  rw [run_at (nl := 2) (b := P_is_below) (by rfl)]
  unfold P_is_below
  simp [startE, s_want hp, s_want ht, e0, callEnd, EV.out]
theorem l_one {p t : Tm} (hp : Good p) (ht : Good t) (hz : sz t ≤ 200) : VM.run T (n + 60) 40 [.dat p.d, .dat t.d] μ = .ok (.dat (.bl true)) μ := by
  rw [run_at (nl := 4) (b := P__law_one_right) (by rfl)]
  have lm := l_matched (n := n + 8) 25 p t [] (.dat (.dic [] [])) μ hp.dp hp.ok hp.nr ht.dp ht.sz hp.dp hp.sz (.inl rfl) GA.nil
  rw [show 2 * 25 + 1 + (n + 8) = n + 59 by omega] at lm
  obtain ⟨r, e, hr⟩ := lm
  have hM : (cs p t).bind (addA []) = Mt p t := rfl
  rw [hM] at hr
  have rb : ∀ b : Bool, ∃ x, fRepr [.bl b] = some (.dat (.str x)) := fun b => ⟨_, rfl⟩
  have nes : ∀ x : PySem.Str, opCmp .NotEq (.str x) (.str x) = some false := fun x => by simp [opCmp, opEq, opEq0, txEq]
  have neb : ∀ b : Bool, opCmp .NotEq (.bl b) (.bl b) = some false := fun b => by cases b <;> decide +kernel
  unfold P__law_one_right
  cases hm : Mt p t with
  | none =>
    rw [hm] at hr
    simp only [Rk] at hr
    subst hr
    rcases s_matched (n := n + 53) (μ := μ) hp ht with ⟨_, e2⟩ | ⟨A, A', h, _⟩
    rotate_left
    · rw [hm] at h; cases h
    have e3 := s_isBelow (n := n + 52) (μ := μ) hp ht
    rw [hm] at e3
    have nn : opCmp .NotEq .non .non = some false := by decide +kernel
    have i1 : opCmp .IsNot .non .non = some false := rfl
    obtain ⟨x, rx⟩ := rb false
    simp only [Option.isSome_none] at e3
    simp [startE, e, e2, nn, is_non, neb, e3, i1, rx, nes, callEnd, EV.out]
  | some A =>
    rw [hm] at hr
    have g := mt_ga hm ht.dp ht.sz
    have f := mt_fo hm hp ht
    have hsub := mt_sound hm hp ht
    obtain ⟨sv2, E, hb, hq, hx⟩ : ∃ sv2 E, r.bnd μ = (sv2, μ ++ E) ∧ Dq sv2 A (μ ++ E) ∧ ((∃ d, sv2 = .dat d) ∨ sv2 = .cel μ.length) := by
      obtain ⟨sv', E, b1, b2, b3, _⟩ := hr.bnd
      refine ⟨sv', E, b1, ?_, ?_⟩
      · rcases b2 with h | ⟨k, h, hk⟩
        · exact .inl h
        · exact .inr ⟨k, true, h, hk⟩
      · exact b3.imp (fun h => ⟨_, h⟩) id
    rcases s_matched (n := n + 53) (μ := μ ++ E) hp ht with ⟨h, _⟩ | ⟨A0, A', h, ga', m', e2⟩
    · rw [hm] at h; cases h
    rw [hm] at h; cases h
    have dq1 := hq.app [(⟨true, dD pn A'⟩ : Cell)]
    have dq2 := hq.app [(⟨true, .dic (dKs pn A' ++ [.inr "Q9"]) (dVs A' ++ [.int 5])⟩ : Cell)]
    have s1 := dq1.sees.see0
    have s2 := dq2.sees.see0
    have sa := hq.sees.arg
    have t1 : (EV.cel (μ ++ E).length).see ((μ ++ E) ++ [(⟨true, dD pn A'⟩ : Cell)]) = some (.dic (dKs pn A') (dVs A')) := by simp [EV.see, dD]
    have c1 : ((μ ++ E) ++ [(⟨true, dD pn A'⟩ : Cell)])[(μ ++ E).length]? = some ⟨true, .dic (dKs pn A') (dVs A')⟩ := by simp [dD]
    have st : ∀ c : Cell, ((μ ++ E) ++ [(⟨true, dD pn A'⟩ : Cell)]).set (μ ++ E).length c = (μ ++ E) ++ [c] := fun c => by rw [List.set_append_right _ _ (Nat.le_refl _), Nat.sub_self]; rfl
    have ne1 : opCmp .NotEq (.dic (dKs pn A') (dVs A')) (.dic (dKs pn A) (dVs A)) = some false := by
      simp only [opCmp, dic_same g ga' m']; rfl
    have i0 : ∀ B : AL, opCmp .Is (.dic (dKs pn B) (dVs B)) .non = some false := fun B => rfl
    have i1 : opCmp .IsNot (.dic (dKs pn A) (dVs A)) .non = some true := rfl
    have e3 := s_isBelow (n := n + 52) (μ := (μ ++ E) ++ [(⟨true, dD pn A'⟩ : Cell)]) hp ht
    rw [hm] at e3
    simp only [Option.isSome_some] at e3
    obtain ⟨x, rx⟩ := rb true
    have pt := put_new (ks := dKs pn A') (vs := dVs A') (s := "Q9") (x := .int 5) (by simp [dKs, dVs]) (by unfold dKs; rw [List.length_map]; have := ga'.len; omega) (q9_dhas A') (ndA nm_pn A' ga'.nd)
    obtain ⟨A2, ga2, m2, e4⟩ : ∃ A2, GA A2 ∧ (∀ q, q ∈ A2 ↔ q ∈ A) ∧ VM.run T (n + 59) 24 [.dat p.d, .dat t.d] ((μ ++ E) ++ [(⟨true, .dic (dKs pn A' ++ [.inr "Q9"]) (dVs A' ++ [.int 5])⟩ : Cell)]) = .ok (.new (dD pn A2)) ((μ ++ E) ++ [(⟨true, .dic (dKs pn A' ++ [.inr "Q9"]) (dVs A' ++ [.int 5])⟩ : Cell)]) := by
      rcases s_matched (n := n + 53) (μ := (μ ++ E) ++ [(⟨true, .dic (dKs pn A' ++ [.inr "Q9"]) (dVs A' ++ [.int 5])⟩ : Cell)]) hp ht with ⟨h, _⟩ | ⟨A0, A2, h, ga2, m2, e4⟩
      · rw [hm] at h; cases h
      · rw [hm] at h; cases h
        exact ⟨A2, ga2, m2, e4⟩
    have eq2 : opCmp .Eq (.dic (dKs pn A2) (dVs A2)) (.dic (dKs pn A) (dVs A)) = some true := by
      simp only [opCmp]
      exact dic_same g ga2 m2
    have e5 := s_filled (n := n) (μ := (μ ++ E) ++ [(⟨true, .dic (dKs pn A' ++ [.inr "Q9"]) (dVs A' ++ [.int 5])⟩ : Cell)]) hp f hsub ht hz dq2
    have eqt := eq_same ht.dp
    have tk : (stl sv2 A ((μ ++ E) ++ [(⟨true, .dic (dKs pn A' ++ [.inr "Q9"]) (dVs A' ++ [.int 5])⟩ : Cell)])).take μ.length = μ := by
      rcases hx with ⟨d, rfl⟩ | rfl
      · simp [stl]
      · simp only [stl]
        rw [List.take_set_of_le (Nat.le_refl _)]
        simp
    have ev2 : sv2.ev.bnd μ = sv2.ev.bnd μ := rfl
    simp only [dD] at t1 c1 st e3 s1 e4 e2
    generalize stl sv2 A ((μ ++ E) ++ [(⟨true, .dic (dKs pn A' ++ [.inr "Q9"]) (dVs A' ++ [.int 5])⟩ : Cell)]) = XS at e5 tk
    generalize hME : μ ++ E = ME at *
    simp [startE, e, hb, e2, t1, s1, ne1, i0, neb, e3, i1, rx, nes, gSb, c1, pt, st, eCallK, e4, s2, eq2, sa, e5, eqt, callEnd, EV.out, tk]
end
end K16
set_option maxHeartbeats 0
/-! k16: the law. -/
namespace K16
open VM Law
open L2 (atI ixN)
structure Fp (t s : Tm) : Prop where
  sz : K16.sz s ≤ 11 * K16.sz t
  dp : dep s ≤ dep t + 1
  ok : okT s = true
structure Fps (ts ss : List Tm) : Prop where
  sz : szs ss ≤ 11 * szs ts
  dp : deps ss ≤ deps ts + 1
  ok : okA ss = true
section
variable {A : AL} (g : GA A) (vd : ∀ q ∈ A, Vd q.2)
include g vd
mutual
theorem fp_of : ∀ t : Tm, okT t = true → isR t = false → (∀ k ∈ ky t, ∃ b, look A k = some b) → Fp t (sub (fA A) t)
  | .num i, _, _, _ => ⟨by simp [sub, sz], by simp [sub, dep], rfl⟩
  | .var x, _, _, h => by
    obtain ⟨b, hb⟩ := h (.v x) (by simp [ky])
    rcases get_v g x with ⟨lk, _⟩ | ⟨u, lk, fr⟩
    · rw [lk] at hb; cases hb
    · have d : Dt 5 2 u := vd _ (look_mem lk)
      simp only [sub, fr]
      exact ⟨by have := d.sz; simp only [sz]; omega, by have := d.dp; simp only [dep]; omega, d.ok⟩
  | .rst _, _, h, _ => by cases h
  | .app h as, h1, _, hk => by
    simp only [okT] at h1
    have f := fps_of as h1 fun k hkk => hk k (by simp only [ky, List.mem_append]; exact .inr hkk)
    simp only [sub]
    exact ⟨by have := f.sz; simp only [sz]; omega, by have := f.dp; simp only [dep]; omega, by simp only [okT]; exact f.ok⟩
theorem fps_of : ∀ ts : List Tm, okA ts = true → (∀ k ∈ kys ts, ∃ b, look A k = some b) → Fps ts (subs (fA A) ts)
  | [], _, _ => ⟨by simp [subs, szs], by simp [subs, deps], rfl⟩
  | t :: ts, h1, hk => by
    rw [subs_cons]
    cases hr : isR t with
    | true =>
      have := okA_tail h1 hr
      subst this
      cases t <;> simp only [isR, Bool.false_eq_true] at hr
      rename_i x
      obtain ⟨b, hb⟩ := hk (.r x) (by simp [kys, ky])
      rcases get_r g x with ⟨lk, _⟩ | ⟨u, lk, fr⟩
      · rw [lk] at hb; cases hb
      · have d : Da 11 2 u := vd _ (look_mem lk)
        simp only [sub1, fr, subs, List.append_nil]
        exact ⟨by have := d.sz; simp only [szs, sz]; omega, by have := d.dp; simp only [deps, dep]; omega, d.ok⟩
    | false =>
      have hk1 : ∀ k ∈ ky t, ∃ b, look A k = some b := fun k hkk => hk k (by simp only [kys, List.mem_append]; exact .inl hkk)
      have ho := h1
      simp only [okA, Bool.and_eq_true] at h1
      have f1 := fp_of t h1.1.1 hr hk1
      have f2 := fps_of ts h1.2 fun k hkk => hk k (by simp only [kys, List.mem_append]; exact .inr hkk)
      have hn : ∀ q ∈ A, ∀ u, q.2 = .t u → isR u = false := fun q hq u e => by
        have := vd q hq
        rw [e] at this
        exact this.nr
      have nr := sub_nrA g hn hr hk1
      rw [sub1_nr hr]
      refine ⟨by have := f1.sz; have := f2.sz; simp only [List.singleton_append, szs]; omega, by have := f1.dp; have := f2.dp; simp only [List.singleton_append, deps]; omega, ?_⟩
      simp only [List.singleton_append, okA, f1.ok, f2.ok, nr]
      simp
end
end
theorem Fd.nr {t : Tm} {A : AL} (f : Fd t A) : ∀ q ∈ A, ∀ u, q.2 = .t u → isR u = false := fun q hq u e => by
  have := f.vd q hq
  rw [e] at this
  exact this.nr
theorem Fd.dom' {t : Tm} {A : AL} (f : Fd t A) : ∀ k ∈ ky t, ∃ b, look A k = some b := fun k hk => by
  have : k ∈ A.map (·.1) := by rw [f.dom]; exact vars_mem.mpr hk
  obtain ⟨q, hq, rfl⟩ := List.mem_map.mp this
  exact ⟨q.2, look_of f.ga.nd hq⟩
theorem Dt.good {s d : Nat} {t : Tm} (h : Dt s d t) (hs : s ≤ 450) (hd : d ≤ 25) : Good t := ⟨h.ok, h.nr, Nat.le_trans h.dp hd, Nat.le_trans h.sz hs⟩
section
variable {X : Sto}
/-- a pattern's filling and the filled one -/
theorem law_make {s d : Nat} {p : Tm} (hp : PotAt X 0) (dp' : Dt s d p) (hs : s ≤ 102) (hd : d ≤ 14) : ∃ (A : AL) (Y : Sto), VM.run T 99 34 [.cel 0, .dat p.d] X = .ok (.new (dD pn A)) Y ∧ Fd p A ∧ PotAt Y 0 ∧
    VM.run T 99 35 [.dat p.d, .cel Y.length] (Y ++ [⟨true, dD pn A⟩]) = .ok (.dat (sub (fA A) p).d) (Y ++ [⟨true, dD pn A⟩]) ∧ sz (sub (fA A) p) ≤ 11 * s ∧ dep (sub (fA A) p) ≤ d + 1 ∧ okT (sub (fA A) p) = true ∧ isR (sub (fA A) p) = false ∧
    VM.run T 99 31 [.dat (sub (fA A) p).d] (Y ++ [⟨true, dD pn A⟩]) = .ok (.dat (.int (sz (sub (fA A) p) : Nat))) (Y ++ [⟨true, dD pn A⟩]) := by
  have gp := dp'.good (by omega) (by omega)
  obtain ⟨A, Y, e, nx, f⟩ := l_filling (n := 69) hp gp.dp gp.sz
  have fp := fp_of f.ga f.vd p gp.ok gp.nr f.dom'
  have h1 := fp.sz
  have h2 := fp.dp
  have h3 := dp'.sz
  have h4 := dp'.dp
  have sq : See (.cel Y.length) A (Y ++ [⟨true, dD pn A⟩]) := (show Dq (.cel Y.length) A (Y ++ [⟨true, dD pn A⟩]) from .inr ⟨_, true, rfl, by simp⟩).sees
  have e2 := l_filled (n := 74) 25 p A (.cel Y.length) (Y ++ [⟨true, dD pn A⟩]) gp.dp gp.nr gp.ok sq f.ga f.dom' (by omega) (by have := gp.sz; omega)
  have e3 := l_nodes (n := 74) 25 (sub (fA A) p) (Y ++ [⟨true, dD pn A⟩]) (by omega) (by omega)
  exact ⟨A, Y, e, f, nx.pot hp.lt, e2, by omega, by omega, fp.ok, sub_nrA f.ga f.nr gp.nr f.dom', e3⟩
theorem law_first {o0 : Option SV} (hp : PotAt X 0) : ∃ (t : Tm) (Y : Sto), (eIf (bCmp (opCmp .Eq) (eCall 27 (evs [eV 1, eC (.int 6)])) (eC (.int 0))) (eCall 30 (evs [eV 1])) (eCall 29 (evs [eV 1, eC (.int 2)])) : SE) (VM.run T 99) [o0, some (.cel 0), none, none, none, none] X = .ok (.dat t.d) Y ∧ PotAt Y 0 ∧ Dt 102 14 t := by
  obtain ⟨r, X1, hr, n1, e1⟩ := s_draw (n := 98) hp 6 (by decide) (by decide)
  simp only [show 98 + 1 = 99 from rfl] at e1
  have hp1 := n1.pot hp.lt
  have q : opCmp .Eq (.int (r : Nat)) (.int 0) = some ((r : Int) == 0) := by simp only [opCmp, opEq_int]
  by_cases c : (r : Int) = 0
  · rw [beq_iff_eq.mpr c] at q
    obtain ⟨t, Y, e, nx, dt⟩ := l_great (n := 93) hp1
    simp only [show 93 + 6 = 99 from rfl] at e
    exact ⟨t, Y, by simp [e1, q, e], nx.pot hp1.lt, dt⟩
  · rw [beq_eq_false_iff_ne.mpr c] at q
    obtain ⟨t, Y, e, nx, dt⟩ := l_term (n := 94) 2 X1 (by decide) hp1
    simp only [show 94 + 3 + 2 = 99 from rfl] at e
    exact ⟨t, Y, by simp at e; simp [e1, q, e], nx.pot hp1.lt, dt.mono (by decide) (by decide)⟩
/-- what the law starts from -/
structure Lw (p t : Tm) (A : AL) (j : Nat) (X : Sto) : Prop where
  pot : PotAt X 0
  cel : X[j]? = some ⟨true, dD pn A⟩
  fd : Fd p A
  gp : Good p
  zp : sz p ≤ 102
  dp : dep p ≤ 14
  tt : t = sub (fA A) p
  gt : Good t
  zt : sz t ≤ 187
  dt : dep t ≤ 15
theorem law_start {o0 : Option SV} {p : Tm} (hp : PotAt X 0) (dp' : Dt 102 14 p) : ∃ (p' t : Tm) (A : AL) (j : Nat) (Y : Sto), Lw p' t A j Y ∧ ∀ TL : SS, (sSeq ((sSet 3 (eCall 34 (evs [eV 1, eV 2]))) : SS) (sSeq ((sSet 4 (eCall 35 (evs [eV 2, eV 3]))) : SS) (sSeq ((sIf (bCmp (opCmp .Gt) (eCall 31 (evs [eV 4])) (eC (.int 180))) (sSeq (sSet 2 (eCall 29 (evs [eV 1, eC (.int 2)]))) (sSeq (sSet 3 (eCall 34 (evs [eV 1, eV 2]))) (sSet 4 (eCall 35 (evs [eV 2, eV 3]))))) (sPass)) : SS) TL))) (VM.run T 99) [o0, some (.cel 0), some (.dat p.d), none, none, none] X =
    TL (VM.run T 99) [o0, some (.cel 0), some (.dat p'.d), some (.cel j), some (.dat t.d), none] Y := by
  obtain ⟨A, Y, e1, f, hpY, e2, h1, h2, h3, h4, e3⟩ := law_make hp dp' (by omega) (by omega)
  have c3 : opCmp .Gt (.int (sz (sub (fA A) p) : Nat)) (.int 180) = some (decide ((180 : Int) < (sz (sub (fA A) p) : Nat))) := rfl
  by_cases b : (180 : Int) < (sz (sub (fA A) p) : Nat)
  · rw [decide_eq_true b] at c3
    obtain ⟨p2, X2, f1, n1, dp2⟩ := l_term (n := 94) 2 (Y ++ [⟨true, dD pn A⟩]) (by decide) hpY.app
    simp only [show 94 + 3 + 2 = 99 from rfl] at f1
    have hp2 := n1.pot (hpY.app (E := [⟨true, dD pn A⟩])).lt
    obtain ⟨A2, Y2, f2, g, hpY2, f3, k1, k2, k3, k4, _⟩ := law_make hp2 dp2 (by decide) (by decide)
    have k1 : sz (sub (fA A2) p2) ≤ 187 := Nat.le_trans k1 (by decide)
    have k2 : dep (sub (fA A2) p2) ≤ 4 := Nat.le_trans k2 (by decide)
    have z2 : sz p2 ≤ 17 := Nat.le_trans dp2.sz (by decide)
    have d2 : dep p2 ≤ 3 := dp2.dp
    refine ⟨p2, sub (fA A2) p2, A2, Y2.length, Y2 ++ [⟨true, dD pn A2⟩], ⟨hpY2.app, by simp, g, dp2.good (by decide) (by decide), by omega, by omega, rfl, ⟨k3, k4, by omega, by omega⟩, k1, by omega⟩, fun TL => ?_⟩
    simp at f1
    simp [e1, e2, e3, c3, f1, f2, f3]
  · rw [decide_eq_false b] at c3
    have z1 := dp'.sz
    have d1 := dp'.dp
    refine ⟨p, sub (fA A) p, A, Y.length, Y ++ [⟨true, dD pn A⟩], ⟨hpY.app, by simp, f, dp'.good (by decide) (by decide), z1, d1, rfl, ⟨h3, h4, by omega, by omega⟩, by omega, by omega⟩, fun TL => ?_⟩
    simp [e1, e2, e3, c3]
def lawB : SS := (sIf (bOr (bNot (bTru (eCall 40 (evs [eV 2, eV 5])))) (bNot (bTru (eCall 40 (evs [eV 5, eV 2]))))) (sRet (eC (.bl false))) (sPass))
theorem Sp'.good {t s : Tm} (h : Sp' t s) (hs : K16.sz t ≤ 400) (hd : dep t ≤ 24) : Good s := ⟨h.ok, h.nr, by have := h.dp; omega, by have := h.sz; omega⟩
theorem law_rest {p t : Tm} {A : AL} {j : Nat} (o0 : Option SV) (L : Lw p t A j X) : ∃ X', VM.callEnd 0 ((sSeq (sIf (bOr (bCmp (opCmp .NotEq) (eCall 24 (evs [eV 2, eV 4])) (eV 3)) (bCmp (opCmp .IsNot) (eCallK 25 (evs []) (evs [eV 2, eV 4]) [1, 0]) (eC (.bl true)))) (sRet (eC (.bl false))) (sPass)) (sSeq (sFor (iOf (eLst (evs [eV 4, eCall 39 (evs [eV 1, eV 4, eC (.int 3)]), eCall 29 (evs [eV 1, eC (.int 2)]), eV 2]))) (gNm 5) (sIf (bOr (bNot (bTru (eCall 40 (evs [eV 2, eV 5])))) (bNot (bTru (eCall 40 (evs [eV 5, eV 2]))))) (sRet (eC (.bl false))) (sPass))) (sRet (eCall 40 (evs [eCall 39 (evs [eV 1, eV 2, eC (.int 3)]), eV 4]))))) (VM.run T 99) [o0, some (.cel 0), some (.dat p.d), some (.cel j), some (.dat t.d), none] X) = .ok (.dat (.bl true)) X' := by
  obtain ⟨pot, cel, fd, gp, zp, dp', tt, gt, zt, dt⟩ := L
  have hM : Mt p t = some A := by
    rw [tt]
    exact mt_fill fd.ga fd.nr gp.ok gp.nr fd.dom (by rw [← tt]; exact gt.dp) (by rw [← tt]; exact gt.sz)
  -- told is the filling
  rcases s_matched (n := 93) (μ := X) gp gt with ⟨h, _⟩ | ⟨A0, A', h, ga', m', e1⟩
  · rw [hM] at h; cases h
  rw [hM] at h; cases h
  simp only [show 93 + 6 = 99 from rfl] at e1
  have sj : (EV.cel j).see X = some (.dic (dKs pn A) (dVs A)) := by simp only [EV.see]; rw [cel]; rfl
  have ne1 : opCmp .NotEq (.dic (dKs pn A') (dVs A')) (.dic (dKs pn A) (dVs A)) = some false := by
    simp only [opCmp, dic_same fd.ga ga' m']; rfl
  have e2 := s_isBelow (n := 92) (μ := X) gp gt
  rw [hM] at e2
  simp only [show 92 + 7 = 99 from rfl, Option.isSome_some] at e2
  have i1 : opCmp .IsNot (.bl true) (.bl true) = some false := rfl
  -- the other ones
  obtain ⟨s, X1, e3, n3, hs⟩ := l_spoil (n := 92) 3 X t gt.ok gt.nr (by omega) (by omega) pot
  simp only [show 92 + 4 + 3 = 99 from rfl] at e3
  have p1 := n3.pot pot.lt
  obtain ⟨u, X2, e4, n4, du⟩ := l_term (n := 94) 2 X1 (by decide) p1
  simp only [show 94 + 3 + 2 = 99 from rfl] at e4
  have p2 := n4.pot p1.lt
  have gs := hs.good (by omega) (by omega)
  have zs : sz s ≤ 200 := by have := hs.sz; omega
  have gu := du.good (by decide) (by decide)
  have zu : sz u ≤ 200 := Nat.le_trans du.sz (by decide)
  have one : ∀ (a b : Tm) (X : Sto), Good a → Good b → sz b ≤ 200 → VM.run T 99 40 [.dat a.d, .dat b.d] X = .ok (.dat (.bl true)) X := fun a b X ha hb hz => l_one (n := 39) ha hb hz
  have fi := for_inv (enc := Tm.d) (Q := [t, s, u, p]) (F := VM.run T 99) (p := gNm 5) (b := lawB)
    (fun Q' ρ X' => X' = X2 ∧ ∃ o5, ρ = [o0, some (.cel 0), some (.dat p.d), some (.cel j), some (.dat t.d), o5]) (fun _ _ => False) (fun q Q' ρ X' hq hI => by
      obtain ⟨rfl, o5, rfl⟩ := hI
      have gq : Good q ∧ sz q ≤ 200 := by
        simp only [List.mem_cons, List.not_mem_nil, or_false] at hq
        rcases hq with rfl | rfl | rfl | rfl
        · exact ⟨gt, by omega⟩
        · exact ⟨gs, zs⟩
        · exact ⟨gu, zu⟩
        · exact ⟨gp, by omega⟩
      refine ⟨_, X', rfl, .inl ⟨[o0, some (.cel 0), some (.dat p.d), some (.cel j), some (.dat t.d), some (.dat q.d)], X', ?_, rfl, _, rfl⟩⟩
      unfold lawB
      have a1 := one p q X' gp gq.1 gq.2
      have a2 := one q p X' gq.1 gp (by omega)
      simp [a1, a2]) 5 0 [o0, some (.cel 0), some (.dat p.d), some (.cel j), some (.dat t.d), none] X2 ⟨rfl, none, rfl⟩ (by simp) (by simp)
  rcases fi with ⟨ρ', X', e5, rfl, o5, rfl⟩ | ⟨v, X', e5, hf⟩
  rotate_left
  · exact hf.elim
  obtain ⟨s2, X3, e6, n6, hs2⟩ := l_spoil (n := 92) 3 X' p gp.ok gp.nr (by omega) (by omega) p2
  simp only [show 92 + 4 + 3 = 99 from rfl] at e6
  have e7 := one s2 t X3 (hs2.good (by omega) (by omega)) gt (by omega)
  refine ⟨X3.take 0, ?_⟩
  have ek : [t, s, u, p].map Tm.d = [t.d, s.d, u.d, p.d] := rfl
  rw [ek] at e5
  have l4 : (4 ≤ LIM) = True := eq_true (by decide)
  rw [show ((sSeq (sIf (bOr (bCmp (opCmp .NotEq) (eCall 24 (evs [eV 2, eV 4])) (eV 3)) (bCmp (opCmp .IsNot) (eCallK 25 (evs []) (evs [eV 2, eV 4]) [1, 0]) (eC (.bl true)))) (sRet (eC (.bl false))) (sPass)) (sSeq (sFor (iOf (eLst (evs [eV 4, eCall 39 (evs [eV 1, eV 4, eC (.int 3)]), eCall 29 (evs [eV 1, eC (.int 2)]), eV 2]))) (gNm 5) (sIf (bOr (bNot (bTru (eCall 40 (evs [eV 2, eV 5])))) (bNot (bTru (eCall 40 (evs [eV 5, eV 2]))))) (sRet (eC (.bl false))) (sPass))) (sRet (eCall 40 (evs [eCall 39 (evs [eV 1, eV 2, eC (.int 3)]), eV 4]))))) : SS) = sSeq ((sIf (bOr (bCmp (opCmp .NotEq) (eCall 24 (evs [eV 2, eV 4])) (eV 3)) (bCmp (opCmp .IsNot) (eCallK 25 (evs []) (evs [eV 2, eV 4]) [1, 0]) (eC (.bl true)))) (sRet (eC (.bl false))) (sPass))) (sSeq (sFor (iOf (eLst (evs [eV 4, eCall 39 (evs [eV 1, eV 4, eC (.int 3)]), eCall 29 (evs [eV 1, eC (.int 2)]), eV 2]))) (gNm 5) lawB) ((sRet (eCall 40 (evs [eCall 39 (evs [eV 1, eV 2, eC (.int 3)]), eV 4]))))) from rfl]
  generalize lawB = LB at *
  simp at e3 e4 e6
  simp [e1, dD, sj, ne1, eCallK, e2, i1, e3, e4, l4, e5, e6, e7, VM.callEnd, EV.out]
end
end K16
namespace Law
open VM
theorem law_runs (ns : List Int) (h : ns.length ≤ 63) : ∃ μ, VM.run T depth 41 [.dat (.scr ns)] [] = .ok (.dat (.bl true)) μ := by
  obtain ⟨a, b, e1⟩ := K16.s_pot (n := 98) (μ := []) ns h
  simp only [show 98 + 1 = 99 from rfl] at e1
  obtain ⟨p, X1, e2, hp1, dp⟩ := K16.law_first (X := [K16.potC a b]) (o0 := some (.dat (.scr ns))) ⟨a, b, rfl⟩
  obtain ⟨p', t, A, j, X2, L, e3⟩ := K16.law_start (o0 := some (.dat (.scr ns))) hp1 dp
  obtain ⟨X3, e4⟩ := K16.law_rest (some (.dat (.scr ns))) L
  refine ⟨X3, ?_⟩
  rw [show depth = 99 + 1 from rfl, K16.run_at (nl := 6) (b := P_law) (by rfl)]
  have hP : P_law = sSeq ((sSet 1 (eCall 26 (evs [eV 0, eC (.int 0)])))) (sSeq ((sSet 2 (eIf (bCmp (opCmp .Eq) (eCall 27 (evs [eV 1, eC (.int 6)])) (eC (.int 0))) (eCall 30 (evs [eV 1])) (eCall 29 (evs [eV 1, eC (.int 2)]))))) (sSeq ((sSet 3 (eCall 34 (evs [eV 1, eV 2]))) : SS) (sSeq ((sSet 4 (eCall 35 (evs [eV 2, eV 3]))) : SS) (sSeq ((sIf (bCmp (opCmp .Gt) (eCall 31 (evs [eV 4])) (eC (.int 180))) (sSeq (sSet 2 (eCall 29 (evs [eV 1, eC (.int 2)]))) (sSeq (sSet 3 (eCall 34 (evs [eV 1, eV 2]))) (sSet 4 (eCall 35 (evs [eV 2, eV 3]))))) (sPass)) : SS) ((sSeq (sIf (bOr (bCmp (opCmp .NotEq) (eCall 24 (evs [eV 2, eV 4])) (eV 3)) (bCmp (opCmp .IsNot) (eCallK 25 (evs []) (evs [eV 2, eV 4]) [1, 0]) (eC (.bl true)))) (sRet (eC (.bl false))) (sPass)) (sSeq (sFor (iOf (eLst (evs [eV 4, eCall 39 (evs [eV 1, eV 4, eC (.int 3)]), eCall 29 (evs [eV 1, eC (.int 2)]), eV 2]))) (gNm 5) (sIf (bOr (bNot (bTru (eCall 40 (evs [eV 2, eV 5])))) (bNot (bTru (eCall 40 (evs [eV 5, eV 2]))))) (sRet (eC (.bl false))) (sPass))) (sRet (eCall 40 (evs [eCall 39 (evs [eV 1, eV 2, eC (.int 3)]), eV 4])))))))))) := rfl
  rw [hP]
  have e5 := e3 ((sSeq (sIf (bOr (bCmp (opCmp .NotEq) (eCall 24 (evs [eV 2, eV 4])) (eV 3)) (bCmp (opCmp .IsNot) (eCallK 25 (evs []) (evs [eV 2, eV 4]) [1, 0]) (eC (.bl true)))) (sRet (eC (.bl false))) (sPass)) (sSeq (sFor (iOf (eLst (evs [eV 4, eCall 39 (evs [eV 1, eV 4, eC (.int 3)]), eCall 29 (evs [eV 1, eC (.int 2)]), eV 2]))) (gNm 5) (sIf (bOr (bNot (bTru (eCall 40 (evs [eV 2, eV 5])))) (bNot (bTru (eCall 40 (evs [eV 5, eV 2]))))) (sRet (eC (.bl false))) (sPass))) (sRet (eCall 40 (evs [eCall 39 (evs [eV 1, eV 2, eC (.int 3)]), eV 4]))))))
  generalize ((sSeq (sIf (bOr (bCmp (opCmp .NotEq) (eCall 24 (evs [eV 2, eV 4])) (eV 3)) (bCmp (opCmp .IsNot) (eCallK 25 (evs []) (evs [eV 2, eV 4]) [1, 0]) (eC (.bl true)))) (sRet (eC (.bl false))) (sPass)) (sSeq (sFor (iOf (eLst (evs [eV 4, eCall 39 (evs [eV 1, eV 4, eC (.int 3)]), eCall 29 (evs [eV 1, eC (.int 2)]), eV 2]))) (gNm 5) (sIf (bOr (bNot (bTru (eCall 40 (evs [eV 2, eV 5])))) (bNot (bTru (eCall 40 (evs [eV 5, eV 2]))))) (sRet (eC (.bl false))) (sPass))) (sRet (eCall 40 (evs [eCall 39 (evs [eV 1, eV 2, eC (.int 3)]), eV 4]))))) : SS) = TL at *
  generalize (sSeq ((sSet 3 (eCall 34 (evs [eV 1, eV 2]))) : SS) (sSeq ((sSet 4 (eCall 35 (evs [eV 2, eV 3]))) : SS) (sSeq ((sIf (bCmp (opCmp .Gt) (eCall 31 (evs [eV 4])) (eC (.int 180))) (sSeq (sSet 2 (eCall 29 (evs [eV 1, eC (.int 2)]))) (sSeq (sSet 3 (eCall 34 (evs [eV 1, eV 2]))) (sSet 4 (eCall 35 (evs [eV 2, eV 3]))))) (sPass)) : SS) TL))) = TM at *
  generalize (eIf (bCmp (opCmp .Eq) (eCall 27 (evs [eV 1, eC (.int 6)])) (eC (.int 0))) (eCall 30 (evs [eV 1])) (eCall 29 (evs [eV 1, eC (.int 2)])) : SE) = EI at *
  simp [K16.potC] at e2
  simp [startE, e1, e2, e5, e4]
end Law
open PySem PySem.W PyProof.Rows
set_option maxRecDepth 100000 in
set_option maxHeartbeats 0 in
theorem PySem.Challenge.cw_nearestpattern_k16_whole_matching_by_own_holds : PySem.Challenge.rw_nearestpattern_k16_whole_matching_by_own.Holds := by
  w_on; o_law; k_head; (case hw => w_witness2)
  k_fill
  refine Law.walk (l := PySem.Challenge.rw_nearestpattern_k16_whole_matching_by_own) rfl rfl Law.law_runs (fun w h Y => PySem.W.kIn_of Y) ?F
  case F =>
    intro w mg fa h KX G hmg
    refine' Law.all_mk KX G hmg ?a_is_integer ?l_is_integer ?e_is_integer ?k_is_integer ?a_want_at_most ?l_want_at_most ?e_want_at_most ?k_want_at_most ?a_is_name ?l_is_name ?e_is_name ?k_is_name ?a_is_variable ?l_is_variable ?e_is_variable ?k_is_variable ?a_is_head ?l_is_head ?e_is_head ?k_is_head ?a_is_rest ?l_is_rest ?e_is_rest ?k_is_rest ?a_is_applied ?l_is_applied ?e_is_applied ?k_is_applied ?a_standings ?l_standings ?e_standings ?k_standings ?a_have_one_sort ?l_have_one_sort ?e_have_one_sort ?k_have_one_sort ?a_pieces ?l_pieces ?e_pieces ?k_pieces ?a_variables_of ?l_variables_of ?e_variables_of ?k_variables_of ?a_nodes_of ?l_nodes_of ?e_nodes_of ?k_nodes_of ?a_is_term ?l_is_term ?e_is_term ?k_is_term ?a_want_term ?l_want_term ?e_want_term ?k_want_term ?a_filled_args ?l_filled_args ?e_filled_args ?k_filled_args ?a_fill ?l_fill ?e_fill ?k_fill ?a_are_args ?l_are_args ?e_are_args ?k_are_args ?a_fits_sort ?l_fits_sort ?e_fits_sort ?k_fits_sort ?a_is_filling_of ?l_is_filling_of ?e_is_filling_of ?k_is_filling_of ?a_filled ?l_filled ?e_filled ?k_filled ?a_is_held ?l_is_held ?e_is_held ?k_is_held ?a_matched_args ?l_matched_args ?e_matched_args ?k_matched_args ?a_matching ?l_matching ?e_matching ?k_matching ?a_is_instance ?l_is_instance ?e_is_instance ?k_is_instance ?a_matched ?l_matched ?e_matched ?k_matched ?a_is_below ?l_is_below ?e_is_below ?k_is_below ?a__law_pot ?l__law_pot ?e__law_pot ?k__law_pot ?a__law_draw ?l__law_draw ?e__law_draw ?k__law_draw ?a__law_pick ?l__law_pick ?e__law_pick ?k__law_pick ?a__law_term ?l__law_term ?e__law_term ?k__law_term ?a__law_great ?l__law_great ?e__law_great ?k__law_great ?a__law_nodes ?l__law_nodes ?e__law_nodes ?k__law_nodes ?a__law_is_rest ?l__law_is_rest ?e__law_is_rest ?k__law_is_rest ?a__law_variables ?l__law_variables ?e__law_variables ?k__law_variables ?a__law_filling ?l__law_filling ?e__law_filling ?k__law_filling ?a__law_filled ?l__law_filled ?e__law_filled ?k__law_filled ?a__law_kept ?l__law_kept ?e__law_kept ?k__law_kept ?a__law_matched ?l__law_matched ?e__law_matched ?k__law_matched ?a__law_args_matched ?l__law_args_matched ?e__law_args_matched ?k__law_args_matched ?a__law_spoiled ?l__law_spoiled ?e__law_spoiled ?k__law_spoiled ?a__law_one_right ?l__law_one_right ?e__law_one_right ?k__law_one_right ?a_law ?l_law ?e_law ?k_law ?z_abs ?z_all ?z_any ?z_bool ?z_dict ?z_divmod ?z_enumerate ?z_int ?z_isinstance ?z_len ?z_list ?z_max ?z_range ?z_repr ?z_str ?z_sum ?z_tuple ?z_zip ?c_DIGITS ?c_GREAT ?c_HEAD ?c_MOST_DIGITS ?c_MOST_NODES ?c_MOST_SIGNS ?c_REST ?c_SMALL ?c_TERM
    (case a_is_integer => k_is)
    (case l_is_integer => k_is)
    (case e_is_integer => k_is)
    (case k_is_integer => k_is)
    (case a_want_at_most => k_is)
    (case l_want_at_most => k_is)
    (case e_want_at_most => k_is)
    (case k_want_at_most => k_is)
    (case a_is_name => k_is)
    (case l_is_name => k_is)
    (case e_is_name => k_is)
    (case k_is_name => k_is)
    (case a_is_variable => k_is)
    (case l_is_variable => k_is)
    (case e_is_variable => k_is)
    (case k_is_variable => k_is)
    (case a_is_head => k_is)
    (case l_is_head => k_is)
    (case e_is_head => k_is)
    (case k_is_head => k_is)
    (case a_is_rest => k_is)
    (case l_is_rest => k_is)
    (case e_is_rest => k_is)
    (case k_is_rest => k_is)
    (case a_is_applied => k_is)
    (case l_is_applied => k_is)
    (case e_is_applied => k_is)
    (case k_is_applied => k_is)
    (case a_standings => k_is)
    (case l_standings => k_is)
    (case e_standings => k_is)
    (case k_standings => k_is)
    (case a_have_one_sort => k_is)
    (case l_have_one_sort => k_is)
    (case e_have_one_sort => k_is)
    (case k_have_one_sort => k_is)
    (case a_pieces => k_is)
    (case l_pieces => k_is)
    (case e_pieces => k_is)
    (case k_pieces => k_is)
    (case a_variables_of => k_is)
    (case l_variables_of => k_is)
    (case e_variables_of => k_is)
    (case k_variables_of => k_is)
    (case a_nodes_of => k_is)
    (case l_nodes_of => k_is)
    (case e_nodes_of => k_is)
    (case k_nodes_of => k_is)
    (case a_is_term => k_is)
    (case l_is_term => k_is)
    (case e_is_term => k_is)
    (case k_is_term => k_is)
    (case a_want_term => k_is)
    (case l_want_term => k_is)
    (case e_want_term => k_is)
    (case k_want_term => k_is)
    (case a_filled_args => k_is)
    (case l_filled_args => k_is)
    (case e_filled_args => k_is)
    (case k_filled_args => k_is)
    (case a_fill => k_is)
    (case l_fill => k_is)
    (case e_fill => k_is)
    (case k_fill => k_is)
    (case a_are_args => k_is)
    (case l_are_args => k_is)
    (case e_are_args => k_is)
    (case k_are_args => k_is)
    (case a_fits_sort => k_is)
    (case l_fits_sort => k_is)
    (case e_fits_sort => k_is)
    (case k_fits_sort => k_is)
    (case a_is_filling_of => k_is)
    (case l_is_filling_of => k_is)
    (case e_is_filling_of => k_is)
    (case k_is_filling_of => k_is)
    (case a_filled => k_is)
    (case l_filled => k_is)
    (case e_filled => k_is)
    (case k_filled => k_is)
    (case a_is_held => k_is)
    (case l_is_held => k_is)
    (case e_is_held => k_is)
    (case k_is_held => k_is)
    (case a_matched_args => k_is)
    (case l_matched_args => k_is)
    (case e_matched_args => k_is)
    (case k_matched_args => k_is)
    (case a_matching => k_is)
    (case l_matching => k_is)
    (case e_matching => k_is)
    (case k_matching => k_is)
    (case a_is_instance => k_is)
    (case l_is_instance => k_is)
    (case e_is_instance => k_is)
    (case k_is_instance => k_is)
    (case a_matched => k_is)
    (case l_matched => k_is)
    (case e_matched => k_is)
    (case k_matched => k_is)
    (case a_is_below => k_is)
    (case l_is_below => k_is)
    (case e_is_below => k_is)
    (case k_is_below => k_is)
    (case a__law_pot => k_is)
    (case l__law_pot => k_is)
    (case e__law_pot => k_is)
    (case k__law_pot => k_is)
    (case a__law_draw => k_is)
    (case l__law_draw => k_is)
    (case e__law_draw => k_is)
    (case k__law_draw => k_is)
    (case a__law_pick => k_is)
    (case l__law_pick => k_is)
    (case e__law_pick => k_is)
    (case k__law_pick => k_is)
    (case a__law_term => k_is)
    (case l__law_term => k_is)
    (case e__law_term => k_is)
    (case k__law_term => k_is)
    (case a__law_great => k_is)
    (case l__law_great => k_is)
    (case e__law_great => k_is)
    (case k__law_great => k_is)
    (case a__law_nodes => k_is)
    (case l__law_nodes => k_is)
    (case e__law_nodes => k_is)
    (case k__law_nodes => k_is)
    (case a__law_is_rest => k_is)
    (case l__law_is_rest => k_is)
    (case e__law_is_rest => k_is)
    (case k__law_is_rest => k_is)
    (case a__law_variables => k_is)
    (case l__law_variables => k_is)
    (case e__law_variables => k_is)
    (case k__law_variables => k_is)
    (case a__law_filling => k_is)
    (case l__law_filling => k_is)
    (case e__law_filling => k_is)
    (case k__law_filling => k_is)
    (case a__law_filled => k_is)
    (case l__law_filled => k_is)
    (case e__law_filled => k_is)
    (case k__law_filled => k_is)
    (case a__law_kept => k_is)
    (case l__law_kept => k_is)
    (case e__law_kept => k_is)
    (case k__law_kept => k_is)
    (case a__law_matched => k_is)
    (case l__law_matched => k_is)
    (case e__law_matched => k_is)
    (case k__law_matched => k_is)
    (case a__law_args_matched => k_is)
    (case l__law_args_matched => k_is)
    (case e__law_args_matched => k_is)
    (case k__law_args_matched => k_is)
    (case a__law_spoiled => k_is)
    (case l__law_spoiled => k_is)
    (case e__law_spoiled => k_is)
    (case k__law_spoiled => k_is)
    (case a__law_one_right => k_is)
    (case l__law_one_right => k_is)
    (case e__law_one_right => k_is)
    (case k__law_one_right => k_is)
    (case a_law => k_is)
    (case l_law => k_is)
    (case e_law => k_is)
    (case k_law => k_is)
    (case z_abs => k_is)
    (case z_all => k_is)
    (case z_any => k_is)
    (case z_bool => k_is)
    (case z_dict => k_is)
    (case z_divmod => k_is)
    (case z_enumerate => k_is)
    (case z_int => k_is)
    (case z_isinstance => k_is)
    (case z_len => k_is)
    (case z_list => k_is)
    (case z_max => k_is)
    (case z_range => k_is)
    (case z_repr => k_is)
    (case z_str => k_is)
    (case z_sum => k_is)
    (case z_tuple => k_is)
    (case z_zip => k_is)
    (case c_DIGITS => k_is)
    (case c_GREAT => k_is)
    (case c_HEAD => k_is)
    (case c_MOST_DIGITS => k_is)
    (case c_MOST_NODES => k_is)
    (case c_MOST_SIGNS => k_is)
    (case c_REST => k_is)
    (case c_SMALL => k_is)
    (case c_TERM => k_is)
