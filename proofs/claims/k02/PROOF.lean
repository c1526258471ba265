import PyProof.Rows.All
import Wide.All
import OpenK.AllK
import Wide.FinOn
import PySem.Challenge.RW_backstacks_k02_taps_that_can_be_tapped
import HandS.ForMost
import HandS.ForExc
import HandS.Deep
import HandS.TupAny
import KE.DataCmp
import PyProof.ReprRoads
import HandS.Style
import HandS.Wide
import HandS.TupMul
import HandS.IsInst
import KE.SortData
import HandS.AnyAll
import HandS.Text
import HandS.Zip
import HandS.Flow
import HandS.TryOnly
import HandS.EndBits
set_option Elab.async false
set_option linter.all false
section
set_option maxRecDepth 10000
set_option maxHeartbeats 4000000
namespace Pv
open PySem PySem.Spec L2
open PyProof.Rows hiding St

/-! ## values of the evaluator -/
/-- a value: plain data (frozen), a place in the store, or the script -/
inductive W where
  | p (d : PyData)
  | r (n : Nat)
  | s (ns : List Int)

/-- what lies at a place of the store -/
inductive Ob where
  | l (ws : List W)
abbrev Sto := List Ob
abbrev Tau := List (Option W)

/-! ## how data lie in the abstract heap -/
/-- the places of the store; all that may still be changed by someone -/
structure Pl where
  ρ : List Addr
  φ : List Addr

/-- a list that nobody changes -/
def FL (K : PySem.W.Frag) (H : Hp) (ρ : Pl) (a : Addr) (xs : List V) : Prop := (Rd H a (.lst xs) ∧ a ∉ ρ.φ) ∨ SqL K (fun _ => none) a xs
def FT (K : PySem.W.Frag) (H : Hp) (ρ : Pl) (a : Addr) (xs : List V) : Prop := (Rd H a (.tup xs) ∧ a ∉ ρ.φ) ∨ SqT K (fun _ => none) a xs
mutual
inductive DF (K : PySem.W.Frag) (H : Hp) (ρ : Pl) : PyData → V → Prop
  | non : DF K H ρ .none .non
  | bl (b : Bool) : DF K H ρ (.bool b) (.bl b)
  | int (i : Int) : DF K H ρ (.int i) (.int i)
  | str (x : Str) : DF K H ρ (.str x) (.str x)
  | lst {a : Addr} {xs : List V} {ds : List PyData} : H a = some (.lst xs) → a ∉ ρ.φ → DFs K H ρ ds xs → DF K H ρ (.list ds) (.ref a)
  | tup {a : Addr} {xs : List V} {ds : List PyData} : FT K H ρ a xs → DFs K H ρ ds xs → DF K H ρ (.tuple ds) (.ref a)
  | dic {a : Addr} {kvs : List (Key × V)} {ds : List (PyData × PyData)} : H a = some (.dK kvs) → a ∉ ρ.φ → DFk K H ρ ds kvs → DF K H ρ (.dict ds) (.ref a)
inductive DFs (K : PySem.W.Frag) (H : Hp) (ρ : Pl) : List PyData → List V → Prop
  | nil : DFs K H ρ [] []
  | cons {d : PyData} {ds : List PyData} {v : V} {vs : List V} : DF K H ρ d v → DFs K H ρ ds vs → DFs K H ρ (d :: ds) (v :: vs)
inductive DFk (K : PySem.W.Frag) (H : Hp) (ρ : Pl) : List (PyData × PyData) → List (Key × V) → Prop
  | nil : DFk K H ρ [] []
  | cons {d e : PyData} {ds : List (PyData × PyData)} {k : Key} {v : V} {vs : List (Key × V)} : DF K H ρ d (kV k) → DF K H ρ e v → DFk K H ρ ds vs → DFk K H ρ ((d, e) :: ds) ((k, v) :: vs)
end

def RW (K : PySem.W.Frag) (H : Hp) (ρ : Pl) : W → V → Prop
  | .p d, v => DF K H ρ d v
  | .r n, v => ∃ a, ρ.ρ[n]? = some a ∧ v = .ref a
  | .s ns, v => ∃ a, v = .ref a ∧ FL K H ρ a (ns.map V.int)
abbrev RWs (K : PySem.W.Frag) (H : Hp) (ρ : Pl) : List W → List V → Prop := Paired (RW K H ρ)

/-- the store lies in the abstract heap, place n at ρ[n] -/
structure Sim (K : PySem.W.Frag) (ρ : Pl) (S : Sto) (H : Hp) : Prop where
  nd : ρ.ρ.Nodup
  len : ρ.ρ.length = S.length
  at_ : ∀ (n : Nat) (ws : List W), S[n]? = some (.l ws) → ∃ a xs, ρ.ρ[n]? = some a ∧ H a = some (.lst xs) ∧ RWs K H ρ ws xs
  sub : ∀ a, a ∈ ρ.ρ → a ∈ ρ.φ
  there : ∀ a, a ∈ ρ.φ → ∃ o, H a = some o
/-- what may have come about: new places, changes at places, new objects -/
structure Ext (ρ : Pl) (H : Hp) (ρ' : Pl) (H' : Hp) : Prop where
  pre : ∃ t, ρ'.ρ = ρ.ρ ++ t
  keep : ∀ a o, a ∉ ρ.ρ → H a = some o → H' a = some o
  newR : ∀ a, a ∈ ρ'.ρ → a ∈ ρ.ρ ∨ H a = none
  new : ∀ a, a ∈ ρ'.φ → a ∈ ρ.φ ∨ H a = none
  old : ∀ a, a ∈ ρ.φ → a ∈ ρ'.φ
  sub : ∀ a, a ∈ ρ.ρ → a ∈ ρ.φ

theorem Ext.refl {ρ : Pl} {H : Hp} (s : ∀ a, a ∈ ρ.ρ → a ∈ ρ.φ) : Ext ρ H ρ H := ⟨⟨[], by simp⟩, fun _ _ _ h => h, fun _ h => .inl h, fun _ h => .inl h, fun _ h => h, s⟩
theorem Ext.notin {ρ ρ' : Pl} {H H' : Hp} (e : Ext ρ H ρ' H') {a : Addr} {o : HO} (h : a ∉ ρ.φ) (ho : H a = some o) : a ∉ ρ'.φ := fun z => by
  rcases e.new a z with q | q
  · exact h q
  · rw [q] at ho; cases ho
theorem Ext.notinR {ρ ρ' : Pl} {H H' : Hp} (e : Ext ρ H ρ' H') {a : Addr} {o : HO} (h : a ∉ ρ.ρ) (ho : H a = some o) : a ∉ ρ'.ρ := fun z => by
  rcases e.newR a z with q | q
  · exact h q
  · rw [q] at ho; cases ho
theorem Ext.kept {ρ ρ' : Pl} {H H' : Hp} (e : Ext ρ H ρ' H') {a : Addr} {o : HO} (h : a ∉ ρ.φ) (ho : H a = some o) : H' a = some o := e.keep a o (fun z => h (e.sub a z)) ho
theorem Ext.trans {ρ ρ1 ρ2 : Pl} {H H1 H2 : Hp} (a : Ext ρ H ρ1 H1) (b : Ext ρ1 H1 ρ2 H2) : Ext ρ H ρ2 H2 where
  pre := by
    obtain ⟨t, h1⟩ := a.pre
    obtain ⟨t', h2⟩ := b.pre
    exact ⟨t ++ t', by rw [h2, h1]; simp⟩
  keep := fun c o n h => b.keep c o (a.notinR n h) (a.keep c o n h)
  newR := fun c hc => by
    rcases b.newR c hc with q | q
    · exact a.newR c q
    · by_cases hr : c ∈ ρ.ρ
      · exact .inl hr
      · cases ho : H c with
        | none => exact .inr rfl
        | some o => rw [a.keep c o hr ho] at q; cases q
  new := fun c hc => by
    rcases b.new c hc with q | q
    · exact a.new c q
    · by_cases hr : c ∈ ρ.ρ
      · exact .inl (a.sub c hr)
      · cases ho : H c with
        | none => exact .inr rfl
        | some o => rw [a.keep c o hr ho] at q; cases q
  old := fun c h => b.old c (a.old c h)
  sub := a.sub

/-- what frozen things lean on -/
structure Kp (ρ : Pl) (H : Hp) (ρ' : Pl) (H' : Hp) : Prop where
  pre : ∃ t, ρ'.ρ = ρ.ρ ++ t
  kept : ∀ {a : Addr} {o : HO}, a ∉ ρ.φ → H a = some o → H' a = some o
  notin : ∀ {a : Addr} {o : HO}, a ∉ ρ.φ → H a = some o → a ∉ ρ'.φ
theorem Ext.kp {ρ ρ' : Pl} {H H' : Hp} (e : Ext ρ H ρ' H') : Kp ρ H ρ' H' := ⟨e.pre, fun h => e.kept h, fun h => e.notin h⟩
instance {ρ ρ' : Pl} {H H' : Hp} : CoeOut (Ext ρ H ρ' H') (Kp ρ H ρ' H') := ⟨Ext.kp⟩
section
variable {K : PySem.W.Frag} {ρ ρ' : Pl} {H H' : Hp}
theorem FL.ext (e : Kp ρ H ρ' H') {a : Addr} {xs : List V} (h : FL K H ρ a xs) : FL K H' ρ' a xs := by
  rcases h with ⟨h | ⟨o, h⟩, n⟩ | h
  · exact .inl ⟨.inl (e.kept n h), e.notin n h⟩
  · exact .inl ⟨.inr ⟨o, e.kept n h⟩, e.notin n h⟩
  · exact .inr h
theorem FT.ext (e : Kp ρ H ρ' H') {a : Addr} {xs : List V} (h : FT K H ρ a xs) : FT K H' ρ' a xs := by
  rcases h with ⟨h | ⟨o, h⟩, n⟩ | h
  · exact .inl ⟨.inl (e.kept n h), e.notin n h⟩
  · exact .inl ⟨.inr ⟨o, e.kept n h⟩, e.notin n h⟩
  · exact .inr h
theorem FL.sq {a : Addr} {xs : List V} (h : FL K H ρ a xs) : SqL K H a xs := by
  rcases h with ⟨h, _⟩ | (⟨h | ⟨o, h⟩⟩ | h)
  · exact .inl h
  · cases h
  · cases h
  · exact .inr h
theorem FT.sq {a : Addr} {xs : List V} (h : FT K H ρ a xs) : SqT K H a xs := by
  rcases h with ⟨h, _⟩ | (⟨h | ⟨o, h⟩⟩ | h)
  · exact .inl h
  · cases h
  · cases h
  · exact .inr h
mutual
theorem DF.ext (e : Kp ρ H ρ' H') : ∀ {d : PyData} {v : V}, DF K H ρ d v → DF K H' ρ' d v
  | _, _, .non => .non
  | _, _, .bl b => .bl b
  | _, _, .int i => .int i
  | _, _, .str x => .str x
  | _, _, .lst h n t => .lst (e.kept n h) (e.notin n h) (DFs.ext e t)
  | _, _, .tup h t => .tup (h.ext e) (DFs.ext e t)
  | _, _, .dic h n t => .dic (e.kept n h) (e.notin n h) (DFk.ext e t)
theorem DFs.ext (e : Kp ρ H ρ' H') : ∀ {d : List PyData} {v : List V}, DFs K H ρ d v → DFs K H' ρ' d v
  | _, _, .nil => .nil
  | _, _, .cons h t => .cons (DF.ext e h) (DFs.ext e t)
theorem DFk.ext (e : Kp ρ H ρ' H') : ∀ {d : List (PyData × PyData)} {v : List (Key × V)}, DFk K H ρ d v → DFk K H' ρ' d v
  | _, _, .nil => .nil
  | _, _, .cons h g t => .cons (DF.ext e h) (DF.ext e g) (DFk.ext e t)
end
/-- fewer places: more is frozen -/
theorem FL.fewer (s : ∀ a, a ∈ ρ'.φ → a ∈ ρ.φ) {a : Addr} {xs : List V} (h : FL K H ρ a xs) : FL K H ρ' a xs := by
  rcases h with ⟨h, n⟩ | h
  · exact .inl ⟨h, fun z => n (s _ z)⟩
  · exact .inr h
theorem FT.fewer (s : ∀ a, a ∈ ρ'.φ → a ∈ ρ.φ) {a : Addr} {xs : List V} (h : FT K H ρ a xs) : FT K H ρ' a xs := by
  rcases h with ⟨h, n⟩ | h
  · exact .inl ⟨h, fun z => n (s _ z)⟩
  · exact .inr h
mutual
theorem DF.fewer (s : ∀ a, a ∈ ρ'.φ → a ∈ ρ.φ) : ∀ {d : PyData} {v : V}, DF K H ρ d v → DF K H ρ' d v
  | _, _, .non => .non
  | _, _, .bl b => .bl b
  | _, _, .int i => .int i
  | _, _, .str x => .str x
  | _, _, .lst h n t => .lst h (fun z => n (s _ z)) (DFs.fewer s t)
  | _, _, .tup h t => .tup (h.fewer s) (DFs.fewer s t)
  | _, _, .dic h n t => .dic h (fun z => n (s _ z)) (DFk.fewer s t)
theorem DFs.fewer (s : ∀ a, a ∈ ρ'.φ → a ∈ ρ.φ) : ∀ {d : List PyData} {v : List V}, DFs K H ρ d v → DFs K H ρ' d v
  | _, _, .nil => .nil
  | _, _, .cons h t => .cons (DF.fewer s h) (DFs.fewer s t)
theorem DFk.fewer (s : ∀ a, a ∈ ρ'.φ → a ∈ ρ.φ) : ∀ {d : List (PyData × PyData)} {v : List (Key × V)}, DFk K H ρ d v → DFk K H ρ' d v
  | _, _, .nil => .nil
  | _, _, .cons h g t => .cons (DF.fewer s h) (DF.fewer s g) (DFk.fewer s t)
end
theorem RW.ext (e : Kp ρ H ρ' H') {w : W} {v : V} (h : RW K H ρ w v) : RW K H' ρ' w v := by
  cases w with
  | p d => exact DF.ext e h
  | r n =>
    obtain ⟨a, h, rfl⟩ := h
    obtain ⟨t, ht⟩ := e.pre
    refine ⟨a, ?_, rfl⟩
    have : n < ρ.ρ.length := (List.getElem?_eq_some_iff.mp h).1
    rw [ht, List.getElem?_append_left this]
    exact h
  | s ns =>
    obtain ⟨a, rfl, h⟩ := h
    exact ⟨a, rfl, h.ext e⟩
theorem Paired.imp {α β : Type} {F G : α → β → Prop} (f : ∀ a b, F a b → G a b) : ∀ {l : List α} {m : List β}, Paired F l m → Paired G l m
  | _, _, .nil => .nil
  | _, _, .cons h t => .cons (f _ _ h) (Paired.imp f t)
theorem RWs.ext (e : Kp ρ H ρ' H') {w : List W} {v : List V} (h : RWs K H ρ w v) : RWs K H' ρ' w v := Paired.imp (fun _ _ => RW.ext e) h
theorem DFs.rws : ∀ {ds : List PyData} {xs : List V}, DFs K H ρ ds xs → RWs K H ρ (ds.map W.p) xs
  | _, _, .nil => .nil
  | _, _, .cons h t => .cons h (DFs.rws t)
theorem DFs.of_rws : ∀ {ds : List PyData} {xs : List V}, RWs K H ρ (ds.map W.p) xs → DFs K H ρ ds xs
  | [], _, .nil => .nil
  | _ :: _, _, .cons h t => .cons h (DFs.of_rws t)
theorem DFs.length {ds : List PyData} {xs : List V} (h : DFs K H ρ ds xs) : ds.length = xs.length := by
  have := Paired.length h.rws
  simpa using this
end

/-! ## the slots -/
def EnvR (K : PySem.W.Frag) (H : Hp) (ρ : Pl) (τ : Tau) (σ : St) : Prop := τ.length = σ.length ∧ ∀ (i : Nat) (w : W), τ[i]? = some (some w) → ∃ v, σ[i]? = some (some v) ∧ RW K H ρ w v
theorem EnvR.ext {K : PySem.W.Frag} {ρ ρ' : Pl} {H H' : Hp} {τ : Tau} {σ : St} (e : Kp ρ H ρ' H') (h : EnvR K H ρ τ σ) : EnvR K H' ρ' τ σ :=
  ⟨h.1, fun i w q => let ⟨v, a, b⟩ := h.2 i w q; ⟨v, a, b.ext e⟩⟩
theorem EnvR.set {K : PySem.W.Frag} {ρ : Pl} {H : Hp} {τ : Tau} {σ : St} (h : EnvR K H ρ τ σ) {w : W} {v : V} (r : RW K H ρ w v) (i : Nat) : EnvR K H ρ (τ.set i (some w)) (σ.set i (some v)) := by
  refine ⟨by simp [h.1], fun j w' q => ?_⟩
  by_cases hij : i = j
  · subst hij
    have hl : i < τ.length := by
      have := (List.getElem?_eq_some_iff.mp q).1
      simpa using this
    rw [List.getElem?_set_self hl] at q
    cases q
    exact ⟨v, List.getElem?_set_self (by rw [← h.1]; exact hl), r⟩
  · rw [List.getElem?_set_ne hij] at q
    obtain ⟨v', a, b⟩ := h.2 j w' q
    exact ⟨v', by rw [List.getElem?_set_ne hij]; exact a, b⟩

/-! ## results -/
/-- an exception of the program: its class by number, its fields -/
structure Xc where
  c : Nat
  ws : List W
inductive R (α : Type) where
  | ok (a : α) (S : Sto)
  | exc (x : Xc) (S : Sto)
  | bad
def R.bind {α β : Type} (r : R α) (f : α → Sto → R β) : R β := match r with
  | .ok a S => f a S
  | .exc x S => .exc x S
  | .bad => .bad
inductive RS where
  | nx (τ : Tau) (S : Sto)
  | ret (w : W) (S : Sto)
  | bk (τ : Tau) (S : Sto)
  | ct (τ : Tau) (S : Sto)
  | exc (x : Xc) (τ : Tau) (S : Sto)
  | bad

/-- what stands of the module: the written part, the classes of exceptions by number -/
structure Gk where
  K : PySem.W.Frag
  cl : Nat → Option (Addr × List Str)
/-- an exception lies so -/
def XR (G : Gk) (H : Hp) (ρ : Pl) (x : Xc) (cls : Value) (d : Option Addr) : Prop :=
  ∃ C fs, G.cl x.c = some (C, fs) ∧ cls = .ref C ∧ fs.length = x.ws.length ∧ ((fs = [] ∧ d = none) ∨ ∃ dx vs, d = some dx ∧ H dx = some (.xd (fs.zip vs)) ∧ dx ∉ ρ.φ ∧ RWs G.K H ρ x.ws vs)

section
variable (G : Gk) (Wx : WX)
def Post (σ : St) (ρ : Pl) (H : Hp) {α β : Type} (rel : Hp → Pl → α → β → Prop) (r : R α) (Q : β → Hp → Prop) : Prop := match r with
  | .ok a S => ∀ v H' ρ', Ext ρ H ρ' H' → Sim G.K ρ' S H' → rel H' ρ' a v → Q v H'
  | .exc x S => ∀ cls d H' ρ', Ext ρ H ρ' H' → Sim G.K ρ' S H' → XR G H' ρ' x cls d → Wx cls d σ H'
  | .bad => False
end
section
variable {G : Gk} {Wx : WX} {σ : St} {ρ ρ' : Pl} {H H' : Hp}
theorem Post.ext {α β : Type} {rel : Hp → Pl → α → β → Prop} {r : R α} {Q : β → Hp → Prop} (e : Ext ρ H ρ' H') (h : Post G Wx σ ρ H rel r Q) : Post G Wx σ ρ' H' rel r Q := by
  cases r with
  | ok a S => exact fun v H2 ρ2 e2 s q => h v H2 ρ2 (e.trans e2) s q
  | exc x S => exact fun c d H2 ρ2 e2 s q => h c d H2 ρ2 (e.trans e2) s q
  | bad => exact h
theorem Post.bind {α β γ δ : Type} {rel : Hp → Pl → α → β → Prop} {rel' : Hp → Pl → γ → δ → Prop} {r : R α} {f : α → Sto → R γ} {Q : δ → Hp → Prop} (h : Post G Wx σ ρ H rel' (r.bind f) Q) :
    Post G Wx σ ρ H rel r fun v H1 => ∃ ρ1 a S1, Ext ρ H ρ1 H1 ∧ Sim G.K ρ1 S1 H1 ∧ rel H1 ρ1 a v ∧ Post G Wx σ ρ1 H1 rel' (f a S1) Q := by
  cases r with
  | ok a S => exact fun v H1 ρ1 e s q => ⟨ρ1, a, S, e, s, q, Post.ext e h⟩
  | exc x S => exact h
  | bad => exact h
theorem Post.imp {α β : Type} {rel : Hp → Pl → α → β → Prop} {r : R α} {Q Q' : β → Hp → Prop} (h : Post G Wx σ ρ H rel r Q) (i : ∀ v H', Q v H' → Q' v H') : Post G Wx σ ρ H rel r Q' := by
  cases r with
  | ok a S => exact fun v H1 ρ1 e s q => i _ _ (h v H1 ρ1 e s q)
  | exc x S => exact h
  | bad => exact h
/-- a value at hand -/
theorem Post.done {α β : Type} {rel : Hp → Pl → α → β → Prop} {a : α} {S : Sto} {Q : β → Hp → Prop} {v : β} (h : Post G Wx σ ρ H rel (.ok a S) Q) (s : Sim G.K ρ S H) (q : rel H ρ a v) : Q v H := h v H ρ (Ext.refl s.sub) s q
end
end Pv
end

section
set_option maxRecDepth 10000
set_option maxHeartbeats 4000000
namespace Pv
open PySem PySem.Spec L2
open PyProof.Rows hiding St

/-! ## new objects -/
section
variable {K : PySem.W.Frag} {ρ : Pl} {H : Hp} {S : Sto}
theorem Sim.ne (s : Sim K ρ S H) {p : Addr} (hp : H p = none) : p ∉ ρ.φ := fun h => by
  obtain ⟨o, ho⟩ := s.there _ h
  rw [hp] at ho; cases ho
theorem Ext.laid (s : ∀ a, a ∈ ρ.ρ → a ∈ ρ.φ) {p : Addr} {o : HO} (hp : H p = none) : Ext ρ H ρ (upd H p o) :=
  ⟨⟨[], by simp⟩, fun a u _ h => by rw [upd_ne (ne_of_none h hp)]; exact h, fun _ h => .inl h, fun _ h => .inl h, fun _ h => h, s⟩
theorem Sim.laid (s : Sim K ρ S H) {p : Addr} {o : HO} (hp : H p = none) : Sim K ρ S (upd H p o) := by
  have e : Ext ρ H ρ (upd H p o) := Ext.laid s.sub hp
  refine ⟨s.nd, s.len, fun n ws h => ?_, s.sub, fun a h => ?_⟩
  · obtain ⟨a, xs, h1, h2, h3⟩ := s.at_ n ws h
    exact ⟨a, xs, h1, by rw [upd_ne (ne_of_none h2 hp)]; exact h2, h3.ext e⟩
  · obtain ⟨u, hu⟩ := s.there a h
    exact ⟨u, by rw [upd_ne (ne_of_none hu hp)]; exact hu⟩
/-- a new frozen list, a new tuple -/
theorem DF.newL (s : Sim K ρ S H) {p : Addr} (hp : H p = none) {ds : List PyData} {xs : List V} (h : DFs K H ρ ds xs) : DF K (upd H p (.lst xs)) ρ (.list ds) (.ref p) :=
  .lst upd_same (s.ne hp) (h.ext (Ext.laid s.sub hp).kp)
theorem DF.newT (s : Sim K ρ S H) {p : Addr} (hp : H p = none) {ds : List PyData} {xs : List V} (h : DFs K H ρ ds xs) : DF K (upd H p (.tup xs)) ρ (.tuple ds) (.ref p) :=
  .tup (.inl ⟨.inl upd_same, s.ne hp⟩) (h.ext (Ext.laid s.sub hp).kp)
/-- the list at a place is changed -/
theorem Sim.write (s : Sim K ρ S H) {n : Nat} {a : Addr} (ha : ρ.ρ[n]? = some a) {ws : List W} {xs : List V} (h : RWs K H ρ ws xs) : Ext ρ H ρ (upd H a (.lst xs)) ∧ Sim K ρ (S.set n (.l ws)) (upd H a (.lst xs)) := by
  have hm : a ∈ ρ.ρ := List.mem_of_getElem? ha
  have e : Ext ρ H ρ (upd H a (.lst xs)) := ⟨⟨[], by simp⟩, fun b u hb hu => by rw [upd_ne (fun z : b = a => hb (by rw [z]; exact hm))]; exact hu, fun _ h => .inl h, fun _ h => .inl h, fun _ h => h, s.sub⟩
  have hn : n < ρ.ρ.length := (List.getElem?_eq_some_iff.mp ha).1
  refine ⟨e, s.nd, by simp [s.len], fun m ws' hm' => ?_, s.sub, fun b hb => ?_⟩
  · by_cases hmn : n = m
    · subst hmn
      rw [List.getElem?_set_self (by rw [← s.len]; exact hn)] at hm'
      cases hm'
      exact ⟨a, xs, ha, upd_same, h.ext e⟩
    · rw [List.getElem?_set_ne hmn] at hm'
      obtain ⟨b, ys, h1, h2, h3⟩ := s.at_ m ws' hm'
      have hb : b ≠ a := fun z => by
        subst z
        have hm2 : m < ρ.ρ.length := (List.getElem?_eq_some_iff.mp h1).1
        have e1 := (List.getElem?_eq_some_iff.mp h1).2
        have e2 := (List.getElem?_eq_some_iff.mp ha).2
        exact hmn ((List.getElem_inj s.nd).mp (e2.trans e1.symm))
      exact ⟨b, ys, h1, by rw [upd_ne hb]; exact h2, h3.ext e⟩
  · by_cases hba : b = a
    · exact ⟨_, by rw [hba]; exact upd_same⟩
    · obtain ⟨u, hu⟩ := s.there b hb
      exact ⟨u, by rw [upd_ne hba]; exact hu⟩
/-- a new place -/
def Pl.snoc (ρ : Pl) (p : Addr) : Pl := ⟨ρ.ρ ++ [p], p :: ρ.φ⟩
theorem Sim.new (s : Sim K ρ S H) {p : Addr} (hp : H p = none) {ws : List W} {xs : List V} (h : RWs K H ρ ws xs) :
    Ext ρ H (ρ.snoc p) (upd H p (.lst xs)) ∧ Sim K (ρ.snoc p) (S ++ [.l ws]) (upd H p (.lst xs)) := by
  have hn := s.ne hp
  have e : Ext ρ H (ρ.snoc p) (upd H p (.lst xs)) := ⟨⟨[p], rfl⟩, fun b u hb hu => by rw [upd_ne (ne_of_none hu hp)]; exact hu, fun b hb => by
      rcases List.mem_append.mp hb with q | q
      · exact .inl q
      · have : b = p := by simpa using q
        subst this; exact .inr hp, fun b hb => by
      rcases List.mem_cons.mp hb with q | q
      · subst q; exact .inr hp
      · exact .inl q, fun b hb => List.mem_cons_of_mem _ hb, s.sub⟩
  refine ⟨e, List.nodup_append.mpr ⟨s.nd, by simp, fun a ha b hb => ?_⟩, by simp [Pl.snoc, s.len], fun m ws' hm' => ?_, fun b hb => ?_, fun b hb => ?_⟩
  · have : b = p := by simpa using hb
    subst this
    exact fun z => hn (s.sub _ (z ▸ ha))
  · by_cases hm : m < S.length
    · rw [List.getElem?_append_left hm] at hm'
      obtain ⟨b, ys, h1, h2, h3⟩ := s.at_ m ws' hm'
      exact ⟨b, ys, by show (ρ.ρ ++ [p])[m]? = _; rw [List.getElem?_append_left (by rw [s.len]; exact hm)]; exact h1, by rw [upd_ne (ne_of_none h2 hp)]; exact h2, h3.ext e⟩
    · have hl : m < (S ++ [Ob.l ws]).length := (List.getElem?_eq_some_iff.mp hm').1
      have hm2 : m = S.length := by simp at hl; omega
      subst hm2
      simp at hm'
      subst hm'
      exact ⟨p, xs, by show (ρ.ρ ++ [p])[_]? = _; rw [← s.len]; simp, upd_same, h.ext e⟩
  · rcases List.mem_append.mp hb with q | q
    · exact List.mem_cons_of_mem _ (s.sub _ q)
    · have : b = p := by simpa using q
      subst this; exact List.mem_cons_self
  · rcases List.mem_cons.mp hb with q | q
    · subst q; exact ⟨_, upd_same⟩
    · obtain ⟨u, hu⟩ := s.there b q
      exact ⟨u, by rw [upd_ne (ne_of_none hu hp)]; exact hu⟩
end

/-! ## what a value holds -/
def lim : Nat := 8000000
theorem lim_le {n : Nat} (h : n ≤ lim) : n ≤ sizeLine := by rw [sizeLine_eq]; unfold lim at h; omega
theorem lim_lt {n : Nat} (h : n ≤ lim) : n < sizeLine := by rw [sizeLine_eq]; unfold lim at h; omega

def deP : List W → Option (List PyData)
  | [] => some []
  | .p d :: r => (deP r).map (d :: ·)
  | _ :: _ => none
/-- a list or a tuple of data: is it a tuple, its items -/
def seqP (S : Sto) : W → Option (Bool × List PyData)
  | .p (.list ds) => some (false, ds)
  | .p (.tuple ds) => some (true, ds)
  | .s ns => some (false, ns.map PyData.int)
  | .r n => match S[n]? with
    | some (.l ws) => (deP ws).map fun ds => (false, ds)
    | none => none
  | _ => none
section
variable {K : PySem.W.Frag} {ρ : Pl} {H : Hp} {S : Sto}
theorem deP_rep : ∀ {ws : List W} {xs : List V} {ds : List PyData}, RWs K H ρ ws xs → deP ws = some ds → ws = ds.map W.p ∧ DFs K H ρ ds xs
  | [], _, _, .nil, h => by cases h; exact ⟨rfl, .nil⟩
  | .p d :: r, _, ds, .cons h t, e => by
    unfold deP at e
    cases q : deP r with
    | none => rw [q] at e; cases e
    | some r' =>
      rw [q] at e; cases e
      obtain ⟨a, b⟩ := deP_rep t q
      exact ⟨by rw [a]; rfl, .cons h b⟩
  | .r _ :: _, _, _, _, e => by simp [deP] at e
  | .s _ :: _, _, _, _, e => by simp [deP] at e
theorem ints_df : ∀ {ns : List Int}, DFs K H ρ (ns.map PyData.int) (ns.map V.int)
  | [] => .nil
  | _ :: _ => .cons (.int _) ints_df
theorem seqP_rep (s : Sim K ρ S H) {w : W} {v : V} {b : Bool} {ds : List PyData} (r : RW K H ρ w v) (e : seqP S w = some (b, ds)) :
    ∃ a xs, v = .ref a ∧ DFs K H ρ ds xs ∧ ((b = true ∧ SqT K H a xs) ∨ (b = false ∧ SqL K H a xs)) := by
  cases w with
  | p d =>
    cases d with
    | list ds' => cases e; cases r with | lst h n t => exact ⟨_, _, rfl, t, .inr ⟨rfl, .of h⟩⟩
    | tuple ds' => cases e; cases r with | tup h t => exact ⟨_, _, rfl, t, .inl ⟨rfl, h.sq⟩⟩
    | _ => cases e
  | s ns =>
    cases e
    obtain ⟨a, rfl, h⟩ := r
    exact ⟨a, _, rfl, ints_df, .inr ⟨rfl, h.sq⟩⟩
  | r n =>
    obtain ⟨a, ha, rfl⟩ := r
    unfold seqP at e
    cases q : S[n]? with
    | none => simp [q] at e
    | some o =>
      obtain ⟨ws⟩ := o
      cases e1 : deP ws with
      | none => simp [q, e1] at e
      | some ds' =>
      simp [q, e1] at e
      obtain ⟨rfl, rfl⟩ := e
      obtain ⟨a', xs, h1, h2, h3⟩ := s.at_ n ws q
      rw [ha] at h1; cases h1
      exact ⟨a, xs, rfl, (deP_rep h3 e1).2, .inr ⟨rfl, .of h2⟩⟩
end

/-! ## results without exceptions -/
def PO (G : Gk) (ρ : Pl) (H : Hp) (o : Option (W × Sto)) (Q : VK) : Prop := match o with
  | some (w, S) => ∀ v H' ρ', Ext ρ H ρ' H' → Sim G.K ρ' S H' → RW G.K H' ρ' w v → Q v H'
  | none => False
theorem PO.done {G : Gk} {ρ : Pl} {H : Hp} {w : W} {S : Sto} {Q : VK} {v : V} (h : PO G ρ H (some (w, S)) Q) (s : Sim G.K ρ S H) (r : RW G.K H ρ w v) : Q v H := h v H ρ (Ext.refl s.sub) s r
theorem PO.laid {G : Gk} {ρ : Pl} {H : Hp} {w : W} {S : Sto} {Q : VK} {p : Addr} {o : HO} (h : PO G ρ H (some (w, S)) Q) (s : Sim G.K ρ S H) (hp : H p = none) (r : RW G.K (upd H p o) ρ w (.ref p)) : Q (.ref p) (upd H p o) :=
  h _ _ ρ (Ext.laid s.sub hp) (s.laid hp) r
/-- a binary operation on values -/
abbrev F2 := Sto → W → W → Option (W × Sto)
def rF2 (G : Gk) (f : F2) : R2 := fun x y H Q => ∃ ρ S wx wy, Sim G.K ρ S H ∧ RW G.K H ρ wx x ∧ RW G.K H ρ wy y ∧ PO G ρ H (f S wx wy) Q
/-- a call by values -/
abbrev FL1 := Sto → List W → Option (W × Sto)
def rFn (G : Gk) (f : FL1) : List V → Hp → VK → Prop := fun xs H Q => ∃ ρ S ws, Sim G.K ρ S H ∧ RWs G.K H ρ ws xs ∧ PO G ρ H (f S ws) Q
def rFm (G : Gk) (f : Sto → W → List W → Option (W × Sto)) : V → List V → Hp → VK → Prop := fun x xs H Q => ∃ ρ S w ws, Sim G.K ρ S H ∧ RW G.K H ρ w x ∧ RWs G.K H ρ ws xs ∧ PO G ρ H (f S w ws) Q

theorem OpR.imp {X : Cx} {f : Value → Value → Sem Value} {r r' : R2} (h : OpR X f r) (i : ∀ x y H Q, r' x y H Q → r x y H Q) : OpR X f r' :=
  fun pins s σ H x y v u Q I rx ry q => h pins s σ H x y v u Q I rx ry (i _ _ _ _ q)

/-! ### + -/
def fAdd : F2 := fun S x y => match x, y with
  | .p (.int i), .p (.int j) => some (.p (.int (i + j)), S)
  | .p (.str a), .p (.str b) => if a.length + b.length ≤ lim then some (.p (.str (a ++ b)), S) else none
  | .p (.tuple a), .p (.tuple b) => if a.length + b.length ≤ lim then some (.p (.tuple (a ++ b)), S) else none
  | .p (.list a), .p (.list b) => if a.length + b.length ≤ lim then some (.p (.list (a ++ b)), S) else none
  | _, _ => none
theorem DFs.append {K : PySem.W.Frag} {H : Hp} {ρ : Pl} : ∀ {ds es : List PyData} {xs ys : List V}, DFs K H ρ ds xs → DFs K H ρ es ys → DFs K H ρ (ds ++ es) (xs ++ ys)
  | _, _, _, _, .nil, h => h
  | _, _, _, _, .cons a t, h => .cons a (DFs.append t h)
theorem DFs.nil_iff {K : PySem.W.Frag} {H : Hp} {ρ : Pl} {ds : List PyData} {xs : List V} (h : DFs K H ρ ds xs) : xs = [] ↔ ds = [] := by
  cases h <;> simp
theorem fAdd_ok {X : Cx} {G : Gk} (hK : X.K = G.K) : OpR X (binaryOp .Add) (rF2 G fAdd) := by
  refine OpR.imp ((op_add (X := X)).or ((op_add_str (X := X)).or ((op_catA (X := X)).or (op_cat (X := X))))) fun x y H Q h => ?_
  obtain ⟨ρ, S, wx, wy, s, rx, ry, h⟩ := h
  unfold fAdd at h
  split at h
  · cases rx; cases ry
    exact .inl ⟨_, _, rfl, rfl, h.done s (.int _)⟩
  · cases rx; cases ry
    split at h
    · rename_i hl
      exact .inr (.inl ⟨_, _, rfl, rfl, lim_le hl, h.done s (.str _)⟩)
    · exact h.elim
  · split at h
    · rename_i hl
      cases rx with | tup h1 t1 => cases ry with | tup h2 t2 =>
      refine .inr (.inr (.inl ⟨_, _, _, _, rfl, rfl, hK ▸ h1.sq, hK ▸ h2.sq, lim_le (by rw [← t1.length, ← t2.length]; exact hl), fun e => ?_, fun e1 e2 => ?_, fun e1 e2 p hp => ?_⟩))
      · have e' := t1.nil_iff.mp e
        subst e'
        exact h.done s (.tup h2 t2)
      · have e' := t2.nil_iff.mp e2
        subst e'
        rw [List.append_nil] at h
        exact h.done s (.tup h1 t1)
      · exact h.laid s hp (DF.newT s hp (t1.append t2))
    · exact h.elim
  · split at h
    · rename_i hl
      cases rx with | lst h1 n1 t1 => cases ry with | lst h2 n2 t2 =>
      exact .inr (.inr (.inr ⟨_, _, _, _, rfl, rfl, h1, h2, lim_le (by rw [← t1.length, ← t2.length]; exact hl), fun p hp => h.laid s hp (DF.newL s hp (t1.append t2))⟩))
    · exact h.elim
  · exact h.elim
def fSub : F2 := fun S x y => match x, y with
  | .p (.int i), .p (.int j) => some (.p (.int (i - j)), S)
  | _, _ => none
theorem fSub_ok {X : Cx} {G : Gk} : OpR X (binaryOp .Sub) (rF2 G fSub) := by
  refine OpR.imp (op_sub (X := X)) fun x y H Q h => ?_
  obtain ⟨ρ, S, wx, wy, s, rx, ry, h⟩ := h
  unfold fSub at h
  split at h
  · cases rx; cases ry
    exact ⟨_, _, rfl, rfl, h.done s (.int _)⟩
  · exact h.elim
/-! ### * -/
def small (i : Int) : Bool := decide (-(2 ^ 64) < i ∧ i < 2 ^ 64)
def repD (n : Nat) (ds : List PyData) : List PyData := (List.replicate n ds).flatten
def fMul : F2 := fun S x y => match x, y with
  | .p (.int i), .p (.int j) => if small j || small i then some (.p (.int (i * j)), S) else none
  | .p (.list a), .p (.int k) => if decide (-(2 ^ 62) ≤ k ∧ k < 2 ^ 62) && decide (a.length * k.toNat ≤ lim) then some (.p (.list (repD k.toNat a)), S) else none
  | .p (.tuple a), .p (.int k) => if decide (a ≠ []) && decide (2 ≤ k ∧ k ≤ 1000) && decide (a.length ≤ 1000) then some (.p (.tuple (repD k.toNat a)), S) else none
  | _, _ => none
theorem DFs.rep {K : PySem.W.Frag} {H : Hp} {ρ : Pl} {ds : List PyData} {xs : List V} (h : DFs K H ρ ds xs) : ∀ n : Nat, DFs K H ρ (repD n ds) (List.replicate n xs).flatten
  | 0 => by simp [repD]; exact .nil
  | n + 1 => by
    have := DFs.rep h n
    simp only [repD, List.replicate_succ, List.flatten_cons] at this ⊢
    exact h.append this
theorem fMul_ok {X : Cx} {G : Gk} (hK : X.K = G.K) : OpR X (binaryOp .Mult) (rF2 G fMul) := by
  refine OpR.imp ((op_mul (X := X)).or ((op_rep (X := X)).or (op_repT (X := X)))) fun x y H Q h => ?_
  obtain ⟨ρ, S, wx, wy, s, rx, ry, h⟩ := h
  unfold fMul at h
  split at h
  · cases rx; cases ry
    split at h
    · rename_i hl
      refine .inl ⟨_, _, rfl, rfl, ?_, h.done s (.int _)⟩
      simp [small] at hl
      exact hl.symm
    · exact h.elim
  · split at h
    · rename_i hl
      simp only [Bool.and_eq_true, decide_eq_true_eq] at hl
      cases ry
      cases rx with | lst h1 n1 t1 =>
      refine .inr (.inl ⟨_, _, _, rfl, rfl, h1, by omega, by omega, lim_le (by rw [← t1.length]; exact hl.2), fun p hp => h.laid s hp (DF.newL s hp (t1.rep _))⟩)
    · exact h.elim
  · split at h
    · rename_i hl
      simp only [Bool.and_eq_true, decide_eq_true_eq] at hl
      cases ry
      cases rx with | tup h1 t1 =>
      refine .inr (.inr ⟨_, _, _, rfl, rfl, hK ▸ h1.sq, fun e => hl.1.1 (t1.nil_iff.mp e), hl.1.2.1, hl.1.2.2, by rw [← t1.length]; exact hl.2, fun p hp => h.laid s hp (DF.newT s hp (t1.rep _))⟩)
    · exact h.elim
  · exact h.elim
/-! ### //, %, ** -/
def fDiv : F2 := fun S x y => match x, y with
  | .p (.int i), .p (.int j) => if decide (0 < j ∧ j < 2 ^ 64) then some (.p (.int (i / j)), S) else none
  | _, _ => none
theorem fDiv_ok {X : Cx} {G : Gk} : OpR X (binaryOp .FloorDiv) (rF2 G fDiv) := by
  refine OpR.imp (op_fdivW (X := X)) fun x y H Q h => ?_
  obtain ⟨ρ, S, wx, wy, s, rx, ry, h⟩ := h
  unfold fDiv at h
  split at h
  · cases rx; cases ry
    split at h
    · rename_i hl
      simp only [decide_eq_true_eq] at hl
      exact ⟨_, _, rfl, rfl, wide_div (b := 64) hl.1 (by omega) (by omega) (by omega), h.done s (.int _)⟩
    · exact h.elim
  · exact h.elim
def fMod : F2 := fun S x y => match x, y with
  | .p (.int i), .p (.int j) => if 0 < j then some (.p (.int (i % j)), S) else none
  | _, _ => none
theorem fMod_ok {X : Cx} {G : Gk} : OpR X (binaryOp .Mod) (rF2 G fMod) := by
  refine OpR.imp (op_mod (X := X)) fun x y H Q h => ?_
  obtain ⟨ρ, S, wx, wy, s, rx, ry, h⟩ := h
  unfold fMod at h
  split at h
  · cases rx; cases ry
    split at h
    · rename_i hl
      exact ⟨_, _, rfl, rfl, hl, h.done s (.int _)⟩
    · exact h.elim
  · exact h.elim
def fPow : F2 := fun S x y => match x, y with
  | .p (.int i), .p (.int j) => if decide (0 ≤ j ∧ j ≤ 1000 ∧ i.natAbs < 2 ^ 64) then some (.p (.int (i ^ j.toNat)), S) else none
  | _, _ => none
theorem fPow_ok {X : Cx} {G : Gk} : OpR X (binaryOp .Pow) (rF2 G fPow) := by
  refine OpR.imp (op_pow (X := X)) fun x y H Q h => ?_
  obtain ⟨ρ, S, wx, wy, s, rx, ry, h⟩ := h
  unfold fPow at h
  split at h
  · cases rx; cases ry
    split at h
    · rename_i hl
      simp only [decide_eq_true_eq] at hl
      exact ⟨_, _, rfl, rfl, ⟨hl.1, by omega, hl.2.2⟩, h.done s (.int _)⟩
    · exact h.elim
  · exact h.elim
end Pv
end

section
set_option maxRecDepth 10000
set_option maxHeartbeats 4000000
namespace Pv
open PySem PySem.Spec L2
open PyProof.Rows hiding St

/-! ## what is read off the heap -/
/-- the context of a body: what every rule may use -/
structure Cw (G : Gk) (X : Cx) : Prop where
  K : X.K = G.K
  calm : X.calm = true
  room : Room 0 X.A
  guards : X.A.guards = some []
  mods : ∃ mm, X.base.Ns sysModules mm
section
variable {X : Cx} {pins : List (Addr × Obj)} {σ : St} {H : Hp} {s : Shared} {ρ : Pl}
theorem ne_mods (I : Inv X pins σ H s) (hB : ∃ mm, X.base.Ns sysModules mm) {a : Addr} {o : HO} (h : H a = some o) : a ≠ sysModules := fun e => by
  obtain ⟨mm, ob, es, ep, h1, _⟩ := hB
  subst e
  have := (I.bs _ _ h1).2
  rw [this] at h; cases h
theorem ne_modsL (I : Inv X pins σ H s) (hB : ∃ mm, X.base.Ns sysModules mm) {a : Addr} {xs : List V} (h : SqL X.K H a xs) : a ≠ sysModules := fun e => by
  obtain ⟨mm, ob, es, ep, h1, h2, _⟩ := hB
  obtain ⟨its, r, ⟨o, n, h3, _, _, h4⟩, _⟩ := I.list h
  subst e
  rw [I.bk _ _ h1] at h3; cases h3
  rw [h2] at h4; cases h4
mutual
theorem DF.reads (I : Inv X pins σ H s) (hB : ∃ mm, X.base.Ns sysModules mm) : ∀ {d : PyData} {v : V} {u : Value}, DF X.K H ρ d v → RelV v u → ∃ as, Reads s.heap u d as ∧ sysModules ∉ as
  | _, _, _, .non, r => by cases r; exact ⟨_, .none, by simp⟩
  | _, _, _, .bl b, r => by cases r; exact ⟨_, .bool b, by simp⟩
  | _, _, _, .int i, r => by obtain ⟨t, rfl⟩ := r; exact ⟨_, .int i t, by simp⟩
  | _, _, _, .str x, r => by obtain ⟨t, rfl⟩ := r; exact ⟨_, .str x t, by simp⟩
  | _, _, _, .lst h n t, r => by
    cases r
    obtain ⟨its, rv, ⟨o, m, ho, hc, _, hd⟩, _⟩ := I.list (.of h)
    obtain ⟨as, hr, hn⟩ := DFs.reads I hB t rv
    have := ne_mods I hB h
    exact ⟨_, .list ho hc hd hr, by simp only [List.mem_cons, not_or]; exact ⟨fun e => this e.symm, hn⟩⟩
  | _, _, _, .tup h t, r => by
    cases r
    obtain ⟨its, rv, ⟨o, ho, hc, m, hd⟩, _⟩ := I.tuple h.sq
    obtain ⟨as, hr, hn⟩ := DFs.reads I hB t rv
    exact ⟨_, .tuple ho hc hd hr, hn⟩
  | _, _, _, .dic h n t, r => by
    cases r
    obtain ⟨_, _, vs, rkv, o, es, ep, ho, hx, hd, _, hp, _⟩ := I.hok _ _ h
    obtain ⟨as, bs, h1, h2, n1, n2⟩ := DFk.reads I hB t rkv hp
    have := ne_mods I hB h
    exact ⟨_, .dict ho hx.1 hd h1 h2, by
      simp only [List.cons_append, List.mem_cons, List.mem_append, not_or]
      exact ⟨fun e => this e.symm, n1, n2⟩⟩
theorem DFs.reads (I : Inv X pins σ H s) (hB : ∃ mm, X.base.Ns sysModules mm) : ∀ {ds : List PyData} {vs : List V} {us : List Value}, DFs X.K H ρ ds vs → Vals vs us → ∃ as, ReadsAll s.heap us ds as ∧ sysModules ∉ as
  | _, _, _, .nil, r => by cases r; exact ⟨_, .nil, by simp⟩
  | _, _, _, .cons h t, r => by
    cases r with
    | cons r1 r2 =>
      obtain ⟨as, q1, n1⟩ := DF.reads I hB h r1
      obtain ⟨bs, q2, n2⟩ := DFs.reads I hB t r2
      exact ⟨_, .cons q1 q2, by simp only [List.mem_append, not_or]; exact ⟨n1, n2⟩⟩
theorem DFk.reads (I : Inv X pins σ H s) (hB : ∃ mm, X.base.Ns sysModules mm) : ∀ {ds : List (PyData × PyData)} {kvs : List (Key × V)} {vs : List (Key × Value)} {es : List DictEntry}, DFk X.K H ρ ds kvs → KV kvs vs → Pairs (mixKind X.prog X.w) es vs →
    ∃ as bs, ReadsAll s.heap (es.map (·.key)) (ds.map (·.1)) as ∧ ReadsAll s.heap (es.map (·.val)) (ds.map (·.2)) bs ∧ sysModules ∉ as ∧ sysModules ∉ bs
  | _, _, _, _, .nil, r, p => by cases r; cases p; exact ⟨_, _, .nil, .nil, by simp, by simp⟩
  | _, _, _, _, .cons h g t, r, p => by
    cases r with
    | cons r1 r2 =>
      cases p with
      | cons p1 p2 p3 =>
        rename_i d e ds k v kvs' kv' vs' e0 es'
        obtain ⟨as', bs', q1, q2, n1, n2⟩ := DFk.reads I hB t r2 p3
        have hk : RelV (kV k) e0.key := by
          have e1 : k = kv'.1 := r1.1
          rw [← e1] at p1
          have p1 : keyIs k e0.key = true := p1
          rcases keyIs_shape p1 with ⟨i, t, rfl, e2⟩ | ⟨x, t, rfl, e2⟩
          · exact ⟨t, e2⟩
          · exact ⟨t, e2⟩
        obtain ⟨as, q3, n3⟩ := DF.reads I hB h hk
        obtain ⟨bs, q4, n4⟩ := DF.reads I hB g (show RelV v e0.val by rw [p2]; exact r1.2)
        exact ⟨_, _, .cons q3 q1, .cons q4 q2, by simp only [List.mem_append, not_or]; exact ⟨n3, n1⟩, by simp only [List.mem_append, not_or]; exact ⟨n4, n2⟩⟩
end
end

/-! ## the data that a value is now -/
def mapO {α β : Type} (f : α → Option β) : List α → Option (List β)
  | [] => some []
  | x :: r => match f x with
    | some y => (mapO f r).map (y :: ·)
    | none => none
def puN : Nat → Sto → W → Option PyData
  | _, _, .p d => some d
  | _, _, .s ns => some (.list (ns.map PyData.int))
  | 0, _, .r _ => none
  | k + 1, S, .r n => match S[n]? with
    | some (.l ws) => (mapO (puN k S) ws).map PyData.list
    | none => none
def pu (S : Sto) (w : W) : Option PyData := puN 3 S w
section
variable {X : Cx} {pins : List (Addr × Obj)} {σ : St} {H : Hp} {s : Shared} {ρ : Pl} {S : Sto}
theorem ints_reads {ns : List Int} : ∀ {us : List Value}, Vals (ns.map V.int) us → ReadsAll s.heap us (ns.map PyData.int) [] := by
  induction ns with
  | nil => intro us r; cases r; exact .nil
  | cons n r ih =>
    intro us r
    cases r with
    | cons r1 r2 =>
      obtain ⟨t, rfl⟩ := r1
      exact .cons (.int n t) (ih r2)
theorem puN_reads (I : Inv X pins σ H s) (hB : ∃ mm, X.base.Ns sysModules mm) (sm : Sim X.K ρ S H) : ∀ (k : Nat) {w : W} {d : PyData} {v : V} {u : Value}, puN k S w = some d → RW X.K H ρ w v → RelV v u → ∃ as, Reads s.heap u d as ∧ sysModules ∉ as
  | k, .p d, d2, _, _, e, r, ru => by
    have : d = d2 := by cases k <;> (unfold puN at e; exact Option.some.inj e)
    subst this
    exact DF.reads I hB r ru
  | k, .s ns, d2, _, _, e, r, ru => by
    have : PyData.list (ns.map PyData.int) = d2 := by cases k <;> (unfold puN at e; exact Option.some.inj e)
    subst this
    obtain ⟨a, rfl, h⟩ := r
    cases ru
    obtain ⟨its, rv, ⟨o, m, ho, hc, _, hd⟩, _⟩ := I.list h.sq
    have := ne_modsL I hB h.sq
    exact ⟨_, .list ho hc hd (ints_reads rv), by simp only [List.mem_cons, not_or]; exact ⟨fun e => this e.symm, by simp⟩⟩
  | 0, .r n, _, _, _, e, _, _ => by unfold puN at e; cases e
  | k + 1, .r n, d, _, _, e, r, ru => by
    unfold puN at e
    obtain ⟨a, ha, rfl⟩ := r
    cases ru
    cases q : S[n]? with
    | none => simp [q] at e
    | some o =>
      obtain ⟨ws⟩ := o
      simp only [q] at e
      cases q2 : mapO (puN k S) ws with
      | none => rw [q2] at e; cases e
      | some ds =>
        rw [q2] at e; cases e
        obtain ⟨a', xs, h1, h2, h3⟩ := sm.at_ n ws q
        rw [ha] at h1; cases h1
        obtain ⟨its, rv, ⟨o, m, ho, hc, _, hd⟩, _⟩ := I.list (.of h2)
        have hn := ne_mods I hB h2
        have all : ∀ {ws : List W} {xs : List V} {us : List Value} {ds : List PyData}, mapO (puN k S) ws = some ds → RWs X.K H ρ ws xs → Vals xs us → ∃ as, ReadsAll s.heap us ds as ∧ sysModules ∉ as := by
          intro ws
          induction ws with
          | nil => intro xs us ds e r ru; cases e; cases r; cases ru; exact ⟨_, .nil, by simp⟩
          | cons w ws ih =>
            intro xs us ds e r ru
            cases r with
            | cons r1 r2 =>
              cases ru with
              | cons u1 u2 =>
                unfold mapO at e
                cases q3 : puN k S w with
                | none => simp [q3] at e
                | some d1 =>
                  simp only [q3] at e
                  cases q4 : mapO (puN k S) ws with
                  | none => rw [q4] at e; cases e
                  | some ds' =>
                    rw [q4] at e; cases e
                    obtain ⟨as, a1, a2⟩ := puN_reads I hB sm k q3 r1 u1
                    obtain ⟨bs, b1, b2⟩ := ih q4 r2 u2
                    exact ⟨_, .cons a1 b1, by simp only [List.mem_append, not_or]; exact ⟨a2, b2⟩⟩
        obtain ⟨as, h4, h5⟩ := all q2 h3 rv
        exact ⟨_, .list ho hc hd h4, by simp only [List.mem_cons, not_or]; exact ⟨fun e => hn e.symm, h5⟩⟩
theorem pu_reads (I : Inv X pins σ H s) (hB : ∃ mm, X.base.Ns sysModules mm) (sm : Sim X.K ρ S H) {w : W} {d : PyData} {v : V} {u : Value} (e : pu S w = some d) (r : RW X.K H ρ w v) (ru : RelV v u) : ∃ as, Reads s.heap u d as ∧ sysModules ∉ as :=
  puN_reads I hB sm 3 e r ru
end

/-! ## comparisons -/
def b2 (b : Bool) (S : Sto) : Option (W × Sto) := some (.p (.bool b), S)
def shapedB (d : PyData) : Bool := SeqAt.shaped d
def fEq : F2 := fun S x y => match pu S x, pu S y with
  | some a, some b => if shapedB a && shapedB b then b2 (PyData.eqv a b) S else none
  | _, _ => none
def fNe : F2 := fun S x y => match pu S x, pu S y with
  | some a, some b => if shapedB a && shapedB b then b2 (!PyData.eqv a b) S else none
  | _, _ => none
section
variable {X : Cx} {G : Gk} (C : Cw G X)
include C
theorem fEq_ok : OpR X (compareOp .Eq) (rF2 G fEq) := by
  intro pins s σ H x y v u Q I rx ry h
  obtain ⟨ρ, S, wx, wy, sm, qx, qy, h⟩ := h
  unfold fEq at h
  split at h
  · rename_i a b ea eb
    split at h
    · rename_i hs
      simp only [Bool.and_eq_true] at hs
      obtain ⟨as, ra, _⟩ := pu_reads I C.mods (C.K ▸ sm) ea (C.K ▸ qx) rx
      obtain ⟨bs, rb, _⟩ := pu_reads I C.mods (C.K ▸ sm) eb (C.K ▸ qy) ry
      exact SeqAt.compareEq_shaped ra rb hs.1 hs.2 (C.room.units) ⟨.bl _, H, I, rfl, h.done sm (.bl _)⟩
    · exact h.elim
  · exact h.elim
theorem fNe_ok : OpR X (compareOp .NotEq) (rF2 G fNe) := by
  intro pins s σ H x y v u Q I rx ry h
  obtain ⟨ρ, S, wx, wy, sm, qx, qy, h⟩ := h
  unfold fNe at h
  split at h
  · rename_i a b ea eb
    split at h
    · rename_i hs
      simp only [Bool.and_eq_true] at hs
      obtain ⟨as, ra, _⟩ := pu_reads I C.mods (C.K ▸ sm) ea (C.K ▸ qx) rx
      obtain ⟨bs, rb, _⟩ := pu_reads I C.mods (C.K ▸ sm) eb (C.K ▸ qy) ry
      exact SeqAt.compareNe_shaped ra rb hs.1 hs.2 (C.room.units) ⟨.bl _, H, I, rfl, h.done sm (.bl _)⟩
    · exact h.elim
  · exact h.elim
end
/-- order of alike data -/
def ordOk (a b : PyData) : Bool := PySem.W.alike a b && (match a with | .none => false | _ => true) && decide (a.depth ≤ 64)
def fOrd (f : PyData → PyData → Bool) : F2 := fun S x y => match x, y with
  | .p a, .p b => if ordOk a b then b2 (f a b) S else none
  | _, _ => none
section
variable {X : Cx} {G : Gk} (C : Cw G X)
include C
theorem ord_ok {op : CmpOp} {f : PyData → PyData → Bool}
    (rule : ∀ {A : Around} {E : Value → Shared → Prop} {s : Shared} {a b : Value} {da db : PyData} {as bs : List Addr} {Q : Value → Shared → Prop}, Reads s.heap a da as → Reads s.heap b db bs → PySem.W.alike da db = true → da ≠ .none → A.units + min da.depth db.depth < cLine →
      Q (.bool (f da db)) s → wpAny (model X.prog X.w) A (compareOp op a b) Q E s) : OpR X (compareOp op) (rF2 G (fOrd f)) := by
  intro pins s σ H x y v u Q I rx ry h
  obtain ⟨ρ, S, wx, wy, sm, qx, qy, h⟩ := h
  unfold fOrd at h
  split at h
  · rename_i a b
    split at h
    · rename_i hs
      simp only [ordOk, Bool.and_eq_true, decide_eq_true_eq] at hs
      obtain ⟨as, ra, _⟩ := DF.reads (ρ := ρ) I C.mods (C.K ▸ qx) rx
      obtain ⟨bs, rb, _⟩ := DF.reads (ρ := ρ) I C.mods (C.K ▸ qy) ry
      have := C.room.units
      refine rule ra rb hs.1.1 (fun e => ?_) (by have := hs.2; omega) ⟨.bl _, H, I, rfl, h.done sm (.bl _)⟩
      have h2 := hs.1.2
      rw [e] at h2; cases h2
    · exact h.elim
  · exact h.elim
theorem fLt_ok : OpR X (compareOp .Lt) (rF2 G (fOrd fun a b => PySem.W.dataLt a b)) := ord_ok C fun ra rb h hn hu hq => PySem.W.lt_data ra rb h hn hu hq
theorem fGt_ok : OpR X (compareOp .Gt) (rF2 G (fOrd fun a b => PySem.W.dataLt b a)) := ord_ok C fun ra rb h hn hu hq => PySem.W.gt_data ra rb h hn hu hq
theorem fLe_ok : OpR X (compareOp .LtE) (rF2 G (fOrd fun a b => !PySem.W.dataLt b a)) := ord_ok C fun ra rb h hn hu hq => PySem.W.le_data ra rb h hn hu hq
theorem fGe_ok : OpR X (compareOp .GtE) (rF2 G (fOrd fun a b => !PySem.W.dataLt a b)) := ord_ok C fun ra rb h hn hu hq => PySem.W.ge_data ra rb h hn hu hq
end
/-! ## in -/
def flatP : PyData → Bool
  | .none | .bool _ | .int _ | .str _ => true
  | _ => false
def inP (x : PyData) (ds : List PyData) : Bool := ds.any fun y => PyData.eqv y x
def strIn (a b : Str) : Bool := !(Builtin.Str.occurrences b a 0 b.length 1).isEmpty
def fIn (neg : Bool) : F2 := fun S x y => match x, y with
  | .p (.str a), .p (.str b) => b2 (if neg then !strIn a b else strIn a b) S
  | .p d, y => match seqP S y with
    | some (_, ds) => if flatP d && ds.all flatP then b2 (if neg then !inP d ds else inP d ds) S else none
    | none => none
  | _, _ => none
section
variable {K : PySem.W.Frag} {H : Hp} {ρ : Pl}
theorem flat_rep {d : PyData} {v : V} (f : flatP d = true) (h : DF K H ρ d v) : flatV v = true := by
  cases h <;> first | rfl | cases f
theorem eq_rep {d e : PyData} {v u : V} (f : flatP d = true) (g : flatP e = true) (h : DF K H ρ d v) (k : DF K H ρ e u) : eqV v u = PyData.eqv d e := by
  cases h <;> cases k <;> first | rfl | cases f | cases g
theorem flat_all : ∀ {ds : List PyData} {vs : List V}, DFs K H ρ ds vs → ds.all flatP = true → vs.all flatV = true
  | _, _, .nil, _ => rfl
  | _, _, .cons h t, e => by
    simp only [List.all_cons, Bool.and_eq_true] at e ⊢
    exact ⟨flat_rep e.1 h, flat_all t e.2⟩
theorem in_rep {d : PyData} {v : V} (f : flatP d = true) (h : DF K H ρ d v) : ∀ {ds : List PyData} {vs : List V}, DFs K H ρ ds vs → ds.all flatP = true → inV v vs = inP d ds
  | _, _, .nil, _ => rfl
  | _, _, .cons k t, e => by
    simp only [List.all_cons, Bool.and_eq_true] at e
    have := in_rep f h t e.2
    simp only [inV, inP, List.any_cons] at this ⊢
    rw [eq_rep e.1 f k h, this]
end
section
variable {X : Cx} {G : Gk} (C : Cw G X)
include C
theorem fIn_ok : OpR X (compareOp .In) (rF2 G (fIn false)) := by
  refine OpR.imp ((op_in_str (X := X)).or (op_in_seq (X := X))) fun x y H Q h => ?_
  obtain ⟨ρ, S, wx, wy, sm, qx, qy, h⟩ := h
  unfold fIn at h
  split at h
  · cases qx; cases qy
    exact .inl ⟨_, _, rfl, rfl, h.done sm (.bl _)⟩
  · split at h
    · rename_i b ds e
      split at h
      · rename_i hs
        simp only [Bool.and_eq_true] at hs
        obtain ⟨a, xs, rfl, hx, hq⟩ := seqP_rep sm qy e
        refine .inr ⟨a, xs, rfl, ?_, flat_rep hs.1 qx, flat_all hx hs.2, ?_⟩
        · rw [C.K]; rcases hq with ⟨_, q⟩ | ⟨_, q⟩; exact .inr q; exact .inl q
        · have := h.done sm (.bl _)
          simp only [Bool.false_eq_true, if_false] at this ⊢
          rw [in_rep hs.1 qx hx hs.2]
          exact this
      · exact h.elim
    · exact h.elim
  · exact h.elim
theorem fNotIn_ok : OpR X (compareOp .NotIn) (rF2 G (fIn true)) := by
  refine OpR.imp ((L2.op_notIn_str (X := X)).or (op_notIn_seq (X := X))) fun x y H Q h => ?_
  obtain ⟨ρ, S, wx, wy, sm, qx, qy, h⟩ := h
  unfold fIn at h
  split at h
  · cases qx; cases qy
    exact .inl ⟨_, _, rfl, rfl, h.done sm (.bl _)⟩
  · split at h
    · rename_i b ds e
      split at h
      · rename_i hs
        simp only [Bool.and_eq_true] at hs
        obtain ⟨a, xs, rfl, hx, hq⟩ := seqP_rep sm qy e
        refine .inr ⟨a, xs, rfl, ?_, flat_rep hs.1 qx, flat_all hx hs.2, ?_⟩
        · rw [C.K]; rcases hq with ⟨_, q⟩ | ⟨_, q⟩; exact .inr q; exact .inl q
        · have := h.done sm (.bl _)
          simp only [if_true] at this ⊢
          rw [in_rep hs.1 qx hx hs.2]
          exact this
      · exact h.elim
    · exact h.elim
  · exact h.elim
end
/-! ## is -/
def isNon : W → Bool
  | .p .none => true
  | _ => false
def fIsN (neg : Bool) : F2 := fun S x y => match y with
  | .p .none => b2 (if neg then !isNon x else isNon x) S
  | _ => none
theorem isNon_rep {K : PySem.W.Frag} {H : Hp} {ρ : Pl} {w : W} {v : V} (h : RW K H ρ w v) : decide (v = .non) = isNon w := by
  cases w with
  | p d => cases h <;> rfl
  | r n => obtain ⟨a, _, rfl⟩ := h; rfl
  | s ns => obtain ⟨a, rfl, _⟩ := h; rfl
theorem fIs_ok {X : Cx} {G : Gk} : OpR X (compareOp .Is) (rF2 G (fIsN false)) := by
  refine OpR.imp (op_isN (X := X)) fun x y H Q h => ?_
  obtain ⟨ρ, S, wx, wy, sm, qx, qy, h⟩ := h
  unfold fIsN at h
  split at h
  · cases qy
    refine ⟨rfl, ?_⟩
    rw [isNon_rep qx]
    exact h.done sm (.bl _)
  · exact h.elim
theorem fIsNot_ok {X : Cx} {G : Gk} : OpR X (compareOp .IsNot) (rF2 G (fIsN true)) := by
  refine OpR.imp (op_notN (X := X)) fun x y H Q h => ?_
  obtain ⟨ρ, S, wx, wy, sm, qx, qy, h⟩ := h
  unfold fIsN at h
  split at h
  · cases qy
    refine ⟨rfl, ?_⟩
    rw [isNon_rep qx]
    exact h.done sm (.bl _)
  · exact h.elim
end Pv
end

section
set_option maxRecDepth 10000
set_option maxHeartbeats 4000000
namespace Pv
open PySem PySem.Spec L2
open PyProof.Rows hiding St

theorem CallR.imp {X : Cx} {f : Value} {r r' : List V → Hp → VK → Prop} (h : CallR X f r) (i : ∀ xs H Q, r' xs H Q → r xs H Q) : CallR X f r' :=
  fun pins s σ H xs us Q I rx q => h pins s σ H xs us Q I rx (i _ _ _ q)
theorem MtR.imp {X : Cx} {id : String} {r r' : V → List V → Hp → VK → Prop} (h : MtR X id r) (i : ∀ x xs H Q, r' x xs H Q → r x xs H Q) : MtR X id r' :=
  fun pins s σ H x xs v us Q I rx rs q => h pins s σ H x xs v us Q I rx rs (i _ _ _ _ q)
theorem rws1 {K : PySem.W.Frag} {H : Hp} {ρ : Pl} {w : W} {xs : List V} (h : RWs K H ρ [w] xs) : ∃ x, xs = [x] ∧ RW K H ρ w x := by
  cases h with | cons a t => cases t; exact ⟨_, rfl, a⟩
theorem rws0 {K : PySem.W.Frag} {H : Hp} {ρ : Pl} {xs : List V} (h : RWs K H ρ [] xs) : xs = [] := by
  cases h; rfl
theorem seq_or {K : PySem.W.Frag} {H : Hp} {a : Addr} {xs : List V} {b : Bool} (h : (b = true ∧ SqT K H a xs) ∨ (b = false ∧ SqL K H a xs)) : SqL K H a xs ∨ SqT K H a xs := by
  rcases h with ⟨_, h⟩ | ⟨_, h⟩
  · exact .inr h
  · exact .inl h

/-! ## len, tuple, list, abs, int, all, any -/
def seqLen (S : Sto) : W → Option Nat
  | .p (.list ds) => some ds.length
  | .p (.tuple ds) => some ds.length
  | .s ns => some ns.length
  | .r n => match S[n]? with
    | some (.l ws) => some ws.length
    | none => none
  | _ => none
theorem seqLen_rep {K : PySem.W.Frag} {ρ : Pl} {H : Hp} {S : Sto} (s : Sim K ρ S H) {w : W} {v : V} {n : Nat} (r : RW K H ρ w v) (e : seqLen S w = some n) :
    ∃ a xs, v = .ref a ∧ xs.length = n ∧ (SqL K H a xs ∨ SqT K H a xs) := by
  cases w with
  | p d =>
    cases d with
    | list ds' => cases e; cases r with | lst h n t => exact ⟨_, _, rfl, t.length.symm, .inl (.of h)⟩
    | tuple ds' => cases e; cases r with | tup h t => exact ⟨_, _, rfl, t.length.symm, .inr h.sq⟩
    | _ => cases e
  | s ns =>
    cases e
    obtain ⟨a, rfl, h⟩ := r
    exact ⟨a, _, rfl, by simp, .inl h.sq⟩
  | r m =>
    obtain ⟨a, ha, rfl⟩ := r
    unfold seqLen at e
    cases q : S[m]? with
    | none => simp [q] at e
    | some o =>
      obtain ⟨ws⟩ := o
      simp [q] at e
      obtain ⟨a', xs, h1, h2, h3⟩ := s.at_ m ws q
      rw [ha] at h1; cases h1
      exact ⟨a, xs, rfl, by rw [← e, Paired.length h3], .inl (.of h2)⟩
def fLen : FL1 := fun S ws => match ws with
  | [.p (.str x)] => if x.length ≤ lim then some (.p (.int x.length), S) else none
  | [w] => match seqLen S w with
    | some n => some (.p (.int n), S)
    | none => none
  | _ => none
def fTuple : FL1 := fun S ws => match ws with
  | [.p (.tuple ds)] => some (.p (.tuple ds), S)
  | [w] => match seqP S w with
    | some (false, ds) => some (.p (.tuple ds), S)
    | _ => none
  | _ => none
def fList : FL1 := fun S ws => match ws with
  | [w] => match seqP S w with
    | some (_, ds) => some (.p (.list ds), S)
    | _ => none
  | _ => none
def fAbs : FL1 := fun S ws => match ws with
  | [.p (.int i)] => some (.p (.int (if i < 0 then -i else i)), S)
  | _ => none
def fInt : FL1 := fun S ws => match ws with
  | [.p (.int i)] => some (.p (.int i), S)
  | [.p (.bool b)] => some (.p (.int (if b then 1 else 0)), S)
  | _ => none
def bools : List PyData → Option (List Bool)
  | [] => some []
  | .bool b :: r => (bools r).map (b :: ·)
  | _ :: _ => none
def fAll (any : Bool) : FL1 := fun S ws => match ws with
  | [.p (.list ds)] => match bools ds with
    | some bs => some (.p (.bool (if any then bs.any id else bs.all id)), S)
    | none => none
  | _ => none
theorem bools_rep {K : PySem.W.Frag} {ρ : Pl} {H : Hp} : ∀ {ds : List PyData} {xs : List V} {bs : List Bool}, DFs K H ρ ds xs → bools ds = some bs → xs = bs.map V.bl
  | [], _, _, .nil, e => by cases e; rfl
  | .bool b :: r, _, bs, .cons h t, e => by
    unfold bools at e
    cases q : bools r with
    | none => rw [q] at e; cases e
    | some b' =>
      rw [q] at e; cases e
      cases h
      rw [bools_rep t q]; rfl
  | .none :: _, _, _, _, e => by cases e
  | .int _ :: _, _, _, _, e => by cases e
  | .str _ :: _, _, _, _, e => by cases e
  | .list _ :: _, _, _, _, e => by cases e
  | .tuple _ :: _, _, _, _, e => by cases e
  | .dict _ :: _, _, _, _, e => by cases e
section
variable {X : Cx} {G : Gk} (C : Cw G X)
include C
theorem fLen_ok : CallR X (.builtin "len") (rFn G fLen) := by
  refine CallR.imp ((call_len_str (X := X)).or (call_len_seq (X := X))) fun xs H Q h => ?_
  obtain ⟨ρ, S, ws, sm, rw', h⟩ := h
  unfold fLen at h
  split at h
  · obtain ⟨x, rfl, r⟩ := rws1 rw'
    cases r
    split at h
    · rename_i hl
      exact .inl ⟨_, rfl, lim_le hl, h.done sm (.int _)⟩
    · exact h.elim
  · obtain ⟨x, rfl, r⟩ := rws1 rw'
    split at h
    · rename_i n e
      obtain ⟨a, ys, rfl, hl, hq⟩ := seqLen_rep sm r e
      exact .inr ⟨a, ys, rfl, by rw [C.K]; exact hq, by rw [hl]; exact h.done sm (.int _)⟩
    · exact h.elim
  · exact h.elim
theorem fTuple_ok : CallR X (.type "tuple") (rFn G fTuple) := by
  refine CallR.imp (call_tuple_of (X := X)) fun xs H Q h => ?_
  obtain ⟨ρ, S, ws, sm, rw', h⟩ := h
  unfold fTuple at h
  split at h
  · obtain ⟨x, rfl, r⟩ := rws1 rw'
    cases r with | tup h1 t1 =>
    exact ⟨_, _, rfl, .inr ⟨by rw [C.K]; exact h1.sq, h.done sm (.tup h1 t1)⟩⟩
  · obtain ⟨x, rfl, r⟩ := rws1 rw'
    split at h
    · rename_i ds e
      obtain ⟨a, ys, rfl, hx, hq⟩ := seqP_rep sm r e
      rcases hq with ⟨z, _⟩ | ⟨_, hq⟩
      · cases z
      · exact ⟨a, ys, rfl, .inl ⟨by rw [C.K]; exact hq, fun l hl => h.laid sm hl (DF.newT sm hl hx)⟩⟩
    · exact h.elim
  · exact h.elim
theorem fList_ok : CallR X (.type "list") (rFn G fList) := by
  refine CallR.imp (call_list_of (X := X)) fun xs H Q h => ?_
  obtain ⟨ρ, S, ws, sm, rw', h⟩ := h
  unfold fList at h
  split at h
  · obtain ⟨x, rfl, r⟩ := rws1 rw'
    split at h
    · rename_i b ds e
      obtain ⟨a, ys, rfl, hx, hq⟩ := seqP_rep sm r e
      exact ⟨a, ys, rfl, by rw [C.K]; exact seq_or hq, fun l hl => h.laid sm hl (DF.newL sm hl hx)⟩
    · exact h.elim
  · exact h.elim
theorem fAbs_ok : CallR X (.builtin "abs") (rFn G fAbs) := by
  refine CallR.imp (call_abs (X := X)) fun xs H Q h => ?_
  obtain ⟨ρ, S, ws, sm, rw', h⟩ := h
  unfold fAbs at h
  split at h
  · obtain ⟨x, rfl, r⟩ := rws1 rw'
    cases r
    exact ⟨_, rfl, h.done sm (.int _)⟩
  · exact h.elim
theorem fInt_ok : CallR X (.type "int") (rFn G fInt) := by
  refine CallR.imp (call_int1 (X := X)) fun xs H Q h => ?_
  obtain ⟨ρ, S, ws, sm, rw', h⟩ := h
  unfold fInt at h
  split at h
  · obtain ⟨x, rfl, r⟩ := rws1 rw'
    cases r
    exact .inl ⟨_, rfl, h.done sm (.int _)⟩
  · obtain ⟨x, rfl, r⟩ := rws1 rw'
    cases r
    exact .inr ⟨_, rfl, h.done sm (.int _)⟩
  · exact h.elim
theorem fAll_ok : CallR X (.builtin "all") (rFn G (fAll false)) := by
  refine CallR.imp (cr_all (X := X) C.calm) fun xs H Q h => ?_
  obtain ⟨ρ, S, ws, sm, rw', h⟩ := h
  unfold fAll at h
  split at h
  · obtain ⟨x, rfl, r⟩ := rws1 rw'
    split at h
    · rename_i bs e
      cases r with | lst h1 n1 t1 =>
      have := bools_rep t1 e
      subst this
      exact ⟨_, _, rfl, .of h1, h.done sm (.bl _)⟩
    · exact h.elim
  · exact h.elim
theorem fAny_ok : CallR X (.builtin "any") (rFn G (fAll true)) := by
  refine CallR.imp (cr_any (X := X) C.calm) fun xs H Q h => ?_
  obtain ⟨ρ, S, ws, sm, rw', h⟩ := h
  unfold fAll at h
  split at h
  · obtain ⟨x, rfl, r⟩ := rws1 rw'
    split at h
    · rename_i bs e
      cases r with | lst h1 n1 t1 =>
      have := bools_rep t1 e
      subst this
      exact ⟨_, _, rfl, .of h1, h.done sm (.bl _)⟩
    · exact h.elim
  · exact h.elim
end
/-! ## repr -/
def fRepr : FL1 := fun S ws => match ws with
  | [w] => match pu S w with
    | some d => if d.showable && decide (d.shown.length ≤ lim) && decide (d.depth ≤ 60) then some (.p (.str d.shown), S) else none
    | none => none
  | _ => none
theorem fRepr_ok {X : Cx} {G : Gk} (C : Cw G X) : CallR X (.builtin "repr") (rFn G fRepr) := by
  intro pins s σ H xs us Q I rx h
  obtain ⟨ρ, S, ws, sm, rw', h⟩ := h
  unfold fRepr at h
  split at h
  · obtain ⟨x, rfl, r⟩ := rws1 rw'
    obtain ⟨u, rfl, ru⟩ := vals1 rx
    split at h
    · rename_i d e
      split at h
      · rename_i hs
        simp only [Bool.and_eq_true, decide_eq_true_eq] at hs
        have hu := C.room.units
        obtain ⟨as, rd, hn⟩ := pu_reads I C.mods (C.K ▸ sm) e (C.K ▸ r) ru
        have fin : ∀ (h' : Heap) (t : Tok) (tk : Nat), (∀ b o, s.heap.get? b = some o → h'.get? b = some o) → EP X pins σ Q (.str d.shown t) { s with heap := h', toks := tk } := fun h' t tk hk =>
          ⟨.str d.shown, H, I.kept hk, ⟨t, rfl⟩, h.done sm (.str _)⟩
        cases rd with
        | none => exact call_repr_gives (typeIs_none s) F.slot_NoneType_repr F.entry_NoneType_repr (F.args_NoneType_repr_1 _) gives_none_repr (by simpa only [PyData.shown] using fin s.heap _ _ fun _ _ e => e) (hx := by decide)
        | bool b => exact call_repr_gives (PySem.typeIs_bool s b) F.slot_bool_repr F.entry_bool_repr (F.args_bool_repr_1 _) (gives_bool_repr b) (by simpa only [PyData.shown] using fin s.heap _ _ fun _ _ e => e) (hx := by cases b <;> decide)
        | int i t => exact PySem.P.repr_of_int (by simpa [PyData.showable] using hs.1.1) (by simpa only [PyData.shown] using fin s.heap _ _ fun _ _ e => e)
        | str x t => exact call_repr_gives (typeIs_str s x t) F.slot_str_repr F.entry_str_repr (F.args_str_repr_1 _) (gives_str_repr x t) (by simpa only [PyData.shown] using fin s.heap _ _ fun _ _ e => e) (hx := by simpa only [PyData.shown] using lim_le hs.1.2)
        | list h1 h2 h3 h4 => exact repr_of_reads' (.list h1 h2 h3 h4) hs.1.1 (fun _ => hn) C.guards (by have := hs.2; omega) (fun _ _ e => e) (fun h' u tk hk => fin h' u tk hk) (lim_le hs.1.2)
        | tuple h1 h2 h3 h4 => exact repr_of_reads' (.tuple h1 h2 h3 h4) hs.1.1 (fun _ => hn) C.guards (by have := hs.2; omega) (fun _ _ e => e) (fun h' u tk hk => fin h' u tk hk) (lim_le hs.1.2)
        | dict h1 h2 h3 h4 h5 => exact repr_of_reads' (.dict h1 h2 h3 h4 h5) hs.1.1 (fun _ => hn) C.guards (by have := hs.2; omega) (fun _ _ e => e) (fun h' u tk hk => fin h' u tk hk) (lim_le hs.1.2)
      · exact h.elim
    · exact h.elim
  · exact h.elim
end Pv
end

section
set_option maxRecDepth 10000
set_option maxHeartbeats 4000000
namespace Pv
open PySem PySem.Spec L2
open PyProof.Rows hiding St

/-! ## sorted -/
def isNone : PyData → Bool
  | .none => true
  | _ => false
def tupSome : PyData → Bool
  | .tuple (_ :: _) => true
  | _ => false
def isTup : PyData → Bool
  | .tuple _ => true
  | _ => false
def sortOk (ds : List PyData) : Bool := ds.all (fun a => ds.all fun b => PySem.W.alike a b) && (ds.all tupSome || ds.all fun d => !isNone d && !isTup d) && decide (ds.length ≤ lim) && ds.all fun d => decide (d.depth ≤ 60)
def sortD (ds : List PyData) : List PyData := ds.mergeSort (PySem.W.dataLe false id)
def fSorted : FL1 := fun S ws => match ws with
  | [w] => match seqP S w with
    | some (false, ds) => if sortOk ds then some (.p (.list (sortD ds)), S) else none
    | _ => none
  | _ => none
theorem EachIs.mk {α β : Type} {R : α → β → Prop} : ∀ {l : List α} {m : List β}, l.length = m.length → (∀ (i : Nat) a b, l[i]? = some a → m[i]? = some b → R a b) → PySem.W.EachIs R l m
  | [], [], _, _ => .nil
  | a :: l, b :: m, h, f => .cons (f 0 a b rfl rfl) (EachIs.mk (by simpa using h) fun i x y e1 e2 => f (i + 1) x y (by simpa using e1) (by simpa using e2))
  | [], _ :: _, h, _ => by simp at h
  | _ :: _, [], h, _ => by simp at h
theorem dfs_get {K : PySem.W.Frag} {H : Hp} {ρ : Pl} {ds : List PyData} {xs : List V} (h : DFs K H ρ ds xs) {i : Nat} {d : PyData} {x : V} (a : ds[i]? = some d) (b : xs[i]? = some x) : DF K H ρ d x := by
  match h, i with
  | .nil, _ => simp at a
  | .cons h t, 0 => simp at a b; subst a; subst b; exact h
  | .cons h t, i + 1 => exact dfs_get t (i := i) (by simpa using a) (by simpa using b)
theorem fSorted_ok {X : Cx} {G : Gk} (C : Cw G X) : CallR X (.builtin "sorted") (rFn G fSorted) := by
  intro pins s σ H xs us Q I rx h
  obtain ⟨ρ, S, ws, sm, rw', h⟩ := h
  unfold fSorted at h
  split at h
  · obtain ⟨x, rfl, r⟩ := rws1 rw'
    obtain ⟨u, rfl, ru⟩ := vals1 rx
    split at h
    · rename_i ds e
      split at h
      · rename_i hs
        simp only [sortOk, Bool.and_eq_true, Bool.or_eq_true, List.all_eq_true, decide_eq_true_eq] at hs
        obtain ⟨a, ys, rfl, hx, hq⟩ := seqP_rep sm r e
        rcases hq with ⟨z, _⟩ | ⟨_, hq⟩
        · cases z
        cases ru
        obtain ⟨its, rv, pl, hz⟩ := I.list (C.K ▸ hq)
        have hl1 : ds.length = ys.length := hx.length
        have hl2 : ys.length = its.length := rv.length
        have hzl : (ds.zip ys).map (·.1) = ds := List.map_fst_zip (by omega)
        have hzr : (ds.zip ys).map (·.2) = ys := List.map_snd_zip (by omega)
        have hu := C.room.units
        refine PySem.W.sorted_data (β := PyData × V) (bs := ds.zip ys) (enc := fun z => z.1) (R := fun u z => RelV z.2 u ∧ DF X.K H ρ z.1 z.2) pl.isList
          (EachIs.mk (by simp; omega) fun i v z e1 e2 => ?_) (EachIs.mk (by simp; omega) fun i v z e1 e2 => ?_) (by rw [hzl]; exact fun d hd d' hd' => hs.1.1.1 d hd d' hd') (by
            rw [hzl]
            rcases hs.1.1.2 with q | q
            · exact .inl fun d hd => by
                have := q d hd
                cases d with
                | tuple l => cases l with
                  | nil => cases this
                  | cons y l => exact ⟨y, l, rfl⟩
                | _ => cases this
            · exact .inr fun d hd => by
                have := q d hd
                cases d <;> simp [isNone, isTup] at this ⊢) (by simp; have := lim_le hs.1.2; omega) (fun b hb => ?_) fun out ho hr => ?_
        · obtain ⟨d, x⟩ := z
          rw [List.getElem?_zip_eq_some] at e2
          obtain ⟨u, hu1, hu2⟩ := rv.get e2.2
          rw [hu1] at e1; cases e1
          exact ⟨hu2, C.K ▸ dfs_get hx e2.1 e2.2⟩
        · obtain ⟨d, x⟩ := z
          rw [List.getElem?_zip_eq_some] at e2
          obtain ⟨u, hu1, hu2⟩ := rv.get e2.2
          rw [hu1] at e1; cases e1
          obtain ⟨as, ra, _⟩ := DF.reads (ρ := ρ) I C.mods (C.K ▸ dfs_get hx e2.1 e2.2) hu2
          exact ⟨as, ra⟩
        · have hb' : b.1 ∈ ds := (List.of_mem_zip hb).1
          have := hs.2 _ hb'
          omega
        · have hsort : sortD ds = ((ds.zip ys).mergeSort (PySem.W.dataLe false fun z => z.1)).map (·.1) := by
            have := PySem.W.sort_maps (r := PySem.W.dataLe false fun z : PyData × V => z.1) (s := PySem.W.dataLe false id) (fun z : PyData × V => z.1) (l := ds.zip ys) fun a _ b _ => rfl
            rw [this, hzl]; rfl
          generalize (ds.zip ys).mergeSort (PySem.W.dataLe false fun z => z.1) = L at hr hsort
          have hp : DFs X.K H ρ (L.map (·.1)) (L.map (·.2)) ∧ Vals (L.map (·.2)) out := by
            clear ho hsort
            induction hr with
            | nil => exact ⟨.nil, .nil⟩
            | cons q _ ih => exact ⟨.cons q.2 ih.1, .cons q.1 ih.2⟩
          obtain ⟨c, hc⟩ := PyProof.Rows.sortedAll_at s.heap its out.toArray
          have hf : H (s.heap.objs.size + 1) = none := I.hok.fresh (Nat.le_succ _)
          have hlen : (L.map (·.2)).length ≤ sizeLine := by
            rw [Paired.length hp.2, ho]
            simp
            have := lim_le hs.1.2
            omega
          refine ⟨.ref (s.heap.objs.size + 1), _, I.laid (t' := s.toks) (o := .lst (L.map (·.2))) (fun b o q => PyProof.Rows.sortedAll_old q) (Nat.le_succ _) ⟨hlen, out, c, hp.2, hc⟩, rfl, ?_⟩
          rw [hsort] at h
          exact h.laid sm hf (C.K ▸ DF.newL (C.K ▸ sm) hf hp.1)
      · exact h.elim
    · exact h.elim
  · exact h.elim
end Pv
end

section
set_option maxRecDepth 10000
set_option maxHeartbeats 4000000
namespace Pv
open PySem PySem.Spec L2
open PyProof.Rows hiding St

/-! ## subscripts -/
theorem atI_at {α : Type} {xs : List α} {i : Int} {x : α} (h : L2.atI xs i = some x) : ∃ j, L2.ixN xs.length i = some j ∧ xs[j]? = some x := by
  unfold L2.atI at h
  cases e : L2.ixN xs.length i with
  | none => rw [e] at h; cases h
  | some j => rw [e] at h; exact ⟨j, rfl, h⟩
theorem atI_mk {α : Type} {xs : List α} {i : Int} {j : Nat} {x : α} (h : L2.ixN xs.length i = some j) (e : xs[j]? = some x) : L2.atI xs i = some x := by
  unfold L2.atI
  rw [h]; exact e
theorem paired_get {α β : Type} {F : α → β → Prop} {l : List α} {m : List β} (h : Paired F l m) {i : Nat} {a : α} (e : l[i]? = some a) : ∃ b, m[i]? = some b ∧ F a b := by
  induction h generalizing i with
  | nil => simp at e
  | cons h t ih =>
    cases i with
    | zero => simp at e; subst e; exact ⟨_, rfl, h⟩
    | succ i => simpa using ih (by simpa using e)
theorem paired_at {α β : Type} {F : α → β → Prop} {l : List α} {m : List β} (h : Paired F l m) {i : Int} {a : α} (e : L2.atI l i = some a) : ∃ b, L2.atI m i = some b ∧ F a b := by
  obtain ⟨j, h1, h2⟩ := atI_at e
  obtain ⟨b, h3, h4⟩ := paired_get h h2
  exact ⟨b, atI_mk (by rw [← Paired.length h]; exact h1) h3, h4⟩
/-- the items of a list or tuple, as values -/
def items (S : Sto) : W → Option (Bool × List W)
  | .p (.list ds) => some (false, ds.map W.p)
  | .p (.tuple ds) => some (true, ds.map W.p)
  | .s ns => some (false, ns.map fun n => W.p (.int n))
  | .r n => match S[n]? with
    | some (.l ws) => some (false, ws)
    | none => none
  | _ => none
theorem ints_rw {K : PySem.W.Frag} {ρ : Pl} {H : Hp} : ∀ {ns : List Int}, RWs K H ρ (ns.map fun n => W.p (.int n)) (ns.map V.int)
  | [] => .nil
  | _ :: _ => .cons (.int _) ints_rw
theorem items_rep {K : PySem.W.Frag} {ρ : Pl} {H : Hp} {S : Sto} (s : Sim K ρ S H) {w : W} {v : V} {b : Bool} {ws : List W} (r : RW K H ρ w v) (e : items S w = some (b, ws)) :
    ∃ a xs, v = .ref a ∧ RWs K H ρ ws xs ∧ ((b = true ∧ SqT K H a xs) ∨ (b = false ∧ SqL K H a xs)) := by
  cases w with
  | p d =>
    cases d with
    | list ds' => cases e; cases r with | lst h n t => exact ⟨_, _, rfl, t.rws, .inr ⟨rfl, .of h⟩⟩
    | tuple ds' => cases e; cases r with | tup h t => exact ⟨_, _, rfl, t.rws, .inl ⟨rfl, h.sq⟩⟩
    | _ => cases e
  | s ns =>
    cases e
    obtain ⟨a, rfl, h⟩ := r
    exact ⟨a, _, rfl, ints_rw, .inr ⟨rfl, h.sq⟩⟩
  | r n =>
    obtain ⟨a, ha, rfl⟩ := r
    unfold items at e
    cases q : S[n]? with
    | none => simp [q] at e
    | some o =>
      obtain ⟨ws'⟩ := o
      simp [q] at e
      obtain ⟨rfl, rfl⟩ := e
      obtain ⟨a', xs, h1, h2, h3⟩ := s.at_ n ws' q
      rw [ha] at h1; cases h1
      exact ⟨a, xs, rfl, h3, .inr ⟨rfl, .of h2⟩⟩
def fIx : F2 := fun S x y => match x, y with
  | .p (.str x), .p (.int i) => if x.length ≤ lim then (L2.atI x.cps.toList i).map fun c => (.p (.str ⟨#[c]⟩), S) else none
  | x, .p (.int i) => match items S x with
    | some (_, ws) => (L2.atI ws i).map fun w => (w, S)
    | none => none
  | _, _ => none
theorem IxR.imp {X : Cx} {r r' : R2} (h : IxR X r) (i : ∀ x y H Q, r' x y H Q → r x y H Q) : IxR X r' :=
  fun value slice pins s σ H x y v u Q I rx ry q => h value slice pins s σ H x y v u Q I rx ry (i _ _ _ _ q)
section
variable {X : Cx} {G : Gk} (C : Cw G X)
include C
theorem fIx_ok : IxR X (rF2 G fIx) := by
  refine IxR.imp (ix_seq (X := X)) fun x y H Q h => ?_
  obtain ⟨ρ, S, wx, wy, sm, qx, qy, h⟩ := h
  unfold fIx at h
  split at h
  · cases qx; cases qy
    split at h
    · rename_i hl
      rename_i i
      cases e : L2.atI _ i with
      | none => rw [e] at h; exact h.elim
      | some c =>
        rw [e] at h
        exact .inr (.inr ⟨_, _, c, rfl, rfl, lim_le hl, e, h.done sm (.str _)⟩)
    · exact h.elim
  · cases qy
    split at h
    · rename_i b ws e
      rename_i i _ _
      cases e2 : L2.atI ws i with
      | none => rw [e2] at h; exact h.elim
      | some w =>
        rw [e2] at h
        obtain ⟨a, xs, rfl, hx, hq⟩ := items_rep sm qx e
        obtain ⟨v, hv, rv⟩ := paired_at hx e2
        rcases hq with ⟨_, hq⟩ | ⟨_, hq⟩
        · exact .inr (.inl ⟨a, xs, i, v, rfl, rfl, by rw [C.K]; exact hq, hv, h.done sm rv⟩)
        · exact .inl ⟨a, xs, i, v, rfl, rfl, by rw [C.K]; exact hq, hv, h.done sm rv⟩
    · exact h.elim
  · exact h.elim
end
/-! ## slices -/
def cutL {α : Type} (xs : List α) (lo hi : Option Int) : List α := (xs.drop (HT.sIx xs.length 0 lo)).take (HT.sIx xs.length xs.length hi - HT.sIx xs.length 0 lo)
def fSl (lo hi : Option Int) : Sto → W → Option (W × Sto) := fun S x => match x with
  | .p (.str x) => if x.length ≤ lim then some (.p (.str (cutS x lo hi)), S) else none
  | w => match seqP S w with
    | some (true, ds) => some (.p (.tuple (cutL ds lo hi)), S)
    | some (false, ds) => some (.p (.list (cutL ds lo hi)), S)
    | none => none
def rSl (G : Gk) : V → Option Int → Option Int → Hp → VK → Prop := fun x lo hi H Q => ∃ ρ S w, Sim G.K ρ S H ∧ RW G.K H ρ w x ∧ PO G ρ H (fSl lo hi S w) Q
theorem SlR.imp {X : Cx} {r r' : V → Option Int → Option Int → Hp → VK → Prop} (h : SlR X r) (i : ∀ x lo hi H Q, r' x lo hi H Q → r x lo hi H Q) : SlR X r' :=
  fun pins s σ H x v vl vu lo hi sl Q I rx hs pl pu q => h pins s σ H x v vl vu lo hi sl Q I rx hs pl pu (i _ _ _ _ _ q)
theorem DFs.drop {K : PySem.W.Frag} {H : Hp} {ρ : Pl} : ∀ (n : Nat) {ds : List PyData} {xs : List V}, DFs K H ρ ds xs → DFs K H ρ (ds.drop n) (xs.drop n)
  | 0, _, _, h => h
  | _ + 1, _, _, .nil => .nil
  | n + 1, _, _, .cons _ t => DFs.drop n t
theorem DFs.take {K : PySem.W.Frag} {H : Hp} {ρ : Pl} : ∀ (n : Nat) {ds : List PyData} {xs : List V}, DFs K H ρ ds xs → DFs K H ρ (ds.take n) (xs.take n)
  | 0, _, _, _ => .nil
  | _ + 1, _, _, .nil => .nil
  | n + 1, _, _, .cons h t => .cons h (DFs.take n t)
theorem DFs.cut {K : PySem.W.Frag} {H : Hp} {ρ : Pl} {ds : List PyData} {xs : List V} (h : DFs K H ρ ds xs) (lo hi : Option Int) : DFs K H ρ (cutL ds lo hi) (cutV xs lo hi) := by
  unfold cutL cutV
  rw [h.length]
  exact (h.drop _).take _
theorem cut_whole {α : Type} {xs : List α} {lo hi : Option Int} (h : HT.sIx xs.length 0 lo = 0 ∧ HT.sIx xs.length xs.length hi = xs.length) : cutL xs lo hi = xs := by
  unfold cutL
  rw [h.1, h.2]
  simp
theorem fSl_ok {X : Cx} {G : Gk} (C : Cw G X) : SlR X (rSl G) := by
  refine SlR.imp ((sl_str (X := X)).or ((sl_tupA (X := X)).or (sl_list (X := X)))) fun x lo hi H Q h => ?_
  obtain ⟨ρ, S, w, sm, r, h⟩ := h
  unfold fSl at h
  split at h
  · cases r
    split at h
    · rename_i hl
      exact .inl ⟨_, rfl, lim_le hl, h.done sm (.str _)⟩
    · exact h.elim
  · split at h
    · rename_i ds e
      cases w with
      | p d =>
        cases d with
        | tuple ds' =>
          cases e
          cases r with | tup h1 t1 =>
          refine .inr (.inl ⟨_, _, rfl, by rw [C.K]; exact h1.sq, fun e => ?_, fun e p hp => h.laid sm hp (DF.newT sm hp (t1.cut lo hi))⟩)
          rw [cut_whole (by rw [t1.length]; exact e)] at h
          exact h.done sm (.tup h1 t1)
        | _ => cases e
      | s ns => cases e
      | r n =>
        unfold seqP at e
        cases q : S[n]? with
        | none => simp [q] at e
        | some o =>
          obtain ⟨ws⟩ := o
          cases q2 : deP ws <;> simp [q, q2] at e
    · rename_i ds e
      obtain ⟨a, xs, rfl, hx, hq⟩ := seqP_rep sm r e
      rcases hq with ⟨z, _⟩ | ⟨_, hq⟩
      · cases z
      · exact .inr (.inr ⟨a, xs, rfl, by rw [C.K]; exact hq, fun p hp => h.laid sm hp (DF.newL sm hp (hx.cut lo hi))⟩)
    · exact h.elim
/-! ## methods -/
abbrev FM := Sto → W → List W → Option (W × Sto)
def fAppend : FM := fun S x ws => match x, ws with
  | .r n, [w] => match S[n]? with
    | some (.l us) => if us.length ≤ lim then some (.p .none, S.set n (.l (us ++ [w]))) else none
    | none => none
  | _, _ => none
def fExtend : FM := fun S x ws => match x, ws with
  | .r n, [.p (.list ds)] => match S[n]? with
    | some (.l us) => if us.length + ds.length ≤ lim then some (.p .none, S.set n (.l (us ++ ds.map W.p))) else none
    | none => none
  | .r n, [.r m] => match S[n]?, S[m]? with
    | some (.l us), some (.l vs) => if us.length + vs.length ≤ lim then some (.p .none, S.set n (.l (us ++ vs))) else none
    | _, _ => none
  | _, _ => none
def fPopAt : FM := fun S x ws => match x, ws with
  | .r n, [.p (.int i)] => match S[n]? with
    | some (.l us) => if us.length ≤ lim then match L2.ixN us.length i with
        | some k => match us[k]? with
          | some w => some (w, S.set n (.l (us.eraseIdx k)))
          | none => none
        | none => none
      else none
    | none => none
  | _, _ => none
def fPop : FM := fun S x ws => match x, ws with
  | .r n, [] => match S[n]? with
    | some (.l us) => match us[us.length - 1]? with
      | some w => some (w, S.set n (.l us.dropLast))
      | none => none
    | none => none
  | _, _ => none
def fSet : Sto → W → W → W → Option Sto := fun S o i v => match o, i with
  | .r n, .p (.int k) => match S[n]? with
    | some (.l us) => match L2.ixN us.length k with
      | some j => some (S.set n (.l (us.set j v)))
      | none => none
    | none => none
  | _, _ => none
theorem Paired.append {α β : Type} {F : α → β → Prop} : ∀ {l l' : List α} {m m' : List β}, Paired F l m → Paired F l' m' → Paired F (l ++ l') (m ++ m')
  | _, _, _, _, .nil, h => h
  | _, _, _, _, .cons a t, h => .cons a (Paired.append t h)
theorem Paired.erase {α β : Type} {F : α → β → Prop} : ∀ {l : List α} {m : List β} (i : Nat), Paired F l m → Paired F (l.eraseIdx i) (m.eraseIdx i)
  | _, _, _, .nil => .nil
  | _, _, 0, .cons _ t => t
  | _, _, i + 1, .cons a t => .cons a (Paired.erase i t)
theorem Paired.setp {α β : Type} {F : α → β → Prop} {a : α} {b : β} (f : F a b) : ∀ {l : List α} {m : List β} (i : Nat), Paired F l m → Paired F (l.set i a) (m.set i b)
  | _, _, _, .nil => .nil
  | _, _, 0, .cons _ t => .cons f t
  | _, _, i + 1, .cons a t => .cons a (Paired.setp f i t)
theorem Paired.dropL {α β : Type} {F : α → β → Prop} {l : List α} {m : List β} (h : Paired F l m) : Paired F l.dropLast m.dropLast := by
  induction h with
  | nil => exact .nil
  | cons a t ih =>
    cases t with
    | nil => exact .nil
    | cons b t => exact .cons a ih
theorem rws2 {K : PySem.W.Frag} {H : Hp} {ρ : Pl} {w u : W} {xs : List V} (h : RWs K H ρ [w, u] xs) : ∃ x y, xs = [x, y] ∧ RW K H ρ w x ∧ RW K H ρ u y := by
  cases h with | cons a t => cases t with | cons b t => cases t; exact ⟨_, _, rfl, a, b⟩
/-- behind a change at a place -/
theorem PO.write {G : Gk} {ρ : Pl} {H : Hp} {w : W} {S : Sto} {Q : VK} {n : Nat} {us : List W} {v : V} {a : Addr} {ys : List V} (h : PO G ρ H (some (w, S.set n (.l us))) Q) (s : Sim G.K ρ S H) (ha : ρ.ρ[n]? = some a) (r : RWs G.K H ρ us ys) (rw' : RW G.K H ρ w v) : Q v (upd H a (.lst ys)) := by
  obtain ⟨e, s'⟩ := s.write ha r
  exact h v _ ρ e s' (rw'.ext e)
section
variable {X : Cx} {G : Gk} (C : Cw G X)
include C
theorem fAppend_ok : MtR X "list.append" (rFm G fAppend) := by
  refine MtR.imp (show MtR X "list.append" rAppend from mt_append (X := X)) fun x xs H Q h => ?_
  obtain ⟨ρ, S, w, ws, sm, r, rs, h⟩ := h
  unfold fAppend at h
  split at h
  · rename_i n w'
    obtain ⟨y, rfl, ry⟩ := rws1 rs
    obtain ⟨a, ha, rfl⟩ := r
    split at h
    · rename_i us e
      split at h
      · rename_i hl
        obtain ⟨a', zs, h1, h2, h3⟩ := sm.at_ _ _ e
        rw [ha] at h1; cases h1
        exact ⟨a, zs, y, rfl, rfl, h2, lim_lt (by rw [← Paired.length h3]; exact hl), h.write sm ha (Paired.append h3 (.cons ry .nil)) .non⟩
      · exact h.elim
    · exact h.elim
  · exact h.elim
theorem fExtend_ok : MtR X "list.extend" (rFm G fExtend) := by
  refine MtR.imp (show MtR X "list.extend" rExtend from mt_extend (X := X)) fun x xs H Q h => ?_
  obtain ⟨ρ, S, w, ws, sm, r, rs, h⟩ := h
  unfold fExtend at h
  split at h
  · obtain ⟨y, rfl, ry⟩ := rws1 rs
    obtain ⟨a, ha, rfl⟩ := r
    split at h
    · rename_i us e
      split at h
      · rename_i hl
        obtain ⟨a', zs, h1, h2, h3⟩ := sm.at_ _ _ e
        rw [ha] at h1; cases h1
        cases ry with | lst g1 g2 g3 =>
        exact ⟨a, _, zs, _, rfl, rfl, h2, g1, lim_le (by rw [← Paired.length h3, ← g3.length]; exact hl), h.write sm ha (Paired.append h3 g3.rws) .non⟩
      · exact h.elim
    · exact h.elim
  · obtain ⟨y, rfl, ry⟩ := rws1 rs
    obtain ⟨a, ha, rfl⟩ := r
    obtain ⟨b, hb, rfl⟩ := ry
    split at h
    · rename_i us vs e e'
      split at h
      · rename_i hl
        obtain ⟨a', zs, h1, h2, h3⟩ := sm.at_ _ _ e
        rw [ha] at h1; cases h1
        obtain ⟨b', zs', g1, g2, g3⟩ := sm.at_ _ _ e'
        rw [hb] at g1; cases g1
        exact ⟨a, b, zs, zs', rfl, rfl, h2, g2, lim_le (by rw [← Paired.length h3, ← Paired.length g3]; exact hl), h.write sm ha (Paired.append h3 g3) .non⟩
      · exact h.elim
    · exact h.elim
  · exact h.elim
theorem fPopAt_ok : MtR X "list.pop" (rFm G fPopAt) := by
  refine MtR.imp (show MtR X "list.pop" rPopAt from mt_popAt (X := X)) fun x xs H Q h => ?_
  obtain ⟨ρ, S, w, ws, sm, r, rs, h⟩ := h
  unfold fPopAt at h
  split at h
  · rename_i n i
    obtain ⟨y, rfl, ry⟩ := rws1 rs
    obtain ⟨a, ha, rfl⟩ := r
    cases ry
    split at h
    · rename_i us e
      split at h
      · rename_i hl
        split at h
        · rename_i k hk
          split at h
          · rename_i w' hw
            obtain ⟨a', zs, h1, h2, h3⟩ := sm.at_ _ _ e
            rw [ha] at h1; cases h1
            obtain ⟨v, hv, rv⟩ := paired_get h3 hw
            have hlen := Paired.length h3
            obtain ⟨q1, q2, q3, q4⟩ := L2.ixN_seq hk
            unfold lim at hl
            exact ⟨a, zs, i, k, v, rfl, rfl, h2, by omega, by omega, by rw [← hlen]; exact q1, hv, h.write sm ha (Paired.erase k h3) rv⟩
          · exact h.elim
        · exact h.elim
      · exact h.elim
    · exact h.elim
  · exact h.elim
theorem fPop_ok : MtR X "list.pop" (rFm G fPop) := by
  refine MtR.imp (show MtR X "list.pop" rPop from mt_pop (X := X)) fun x xs H Q h => ?_
  obtain ⟨ρ, S, w, ws, sm, r, rs, h⟩ := h
  unfold fPop at h
  split at h
  · rename_i n
    have := rws0 rs
    subst this
    obtain ⟨a, ha, rfl⟩ := r
    split at h
    · rename_i us e
      split at h
      · rename_i w' hw
        obtain ⟨a', zs, h1, h2, h3⟩ := sm.at_ _ _ e
        rw [ha] at h1; cases h1
        obtain ⟨v, hv, rv⟩ := paired_get h3 hw
        have hlen := Paired.length h3
        exact ⟨a, zs, v, rfl, rfl, h2, by rw [← hlen]; exact hv, h.write sm ha (Paired.dropL h3) rv⟩
      · exact h.elim
    · exact h.elim
  · exact h.elim
end
/-- o[i] = v by values -/
def rSet (G : Gk) : TSet := fun o i v H Q => ∃ ρ S wo wi wv, Sim G.K ρ S H ∧ RW G.K H ρ wo o ∧ RW G.K H ρ wi i ∧ RW G.K H ρ wv v ∧ match fSet S wo wi wv with
  | some S' => ∀ H' ρ', Ext ρ H ρ' H' → Sim G.K ρ' S' H' → Q H'
  | none => False
theorem fSet_ok {X : Cx} {G : Gk} : PSet X (rSet G) := by
  intro pins s σ H o i v ov iv u Q I ro ri rv h
  refine set_list pins s σ H o i v ov iv u Q I ro ri rv ?_
  obtain ⟨ρ, S, wo, wi, wv, sm, qo, qi, qv, h⟩ := h
  unfold fSet at h
  split at h
  · rename_i S' hS
    split at hS
    · rename_i n k
      obtain ⟨a, ha, rfl⟩ := qo
      cases qi
      split at hS
      · rename_i us e
        split at hS
        · rename_i j hj
          cases hS
          obtain ⟨a', zs, h1, h2, h3⟩ := sm.at_ _ _ e
          rw [ha] at h1; cases h1
          obtain ⟨ex, sm'⟩ := sm.write ha (Paired.setp qv j h3)
          exact ⟨a, zs, k, j, rfl, rfl, h2, by rw [← Paired.length h3]; exact hj, h _ _ ex sm'⟩
        · cases hS
      · cases hS
    · cases hS
  · exact h.elim
end Pv
end

section
set_option maxRecDepth 10000
set_option maxHeartbeats 4000000
namespace Pv
open PySem PySem.Spec L2
open PyProof.Rows hiding St

/-! ## calls of the text's defs where no repr is under way -/
structure FnG (P : Program) (w : World) (K : PySem.W.Frag) (mg : Str → Option Value) (base : Heap) (k : Nat) (f : Addr) (fd : FuncData) (ps : List Str) (sp : Sp) : Prop where
  len : ∀ vs H Q E, sp vs H Q E → vs.length = ps.length
  go : ∀ (A : Around) (outer : List Env) (s : Shared) (H : Hp) (args : Args) (us : List Value) (vs : List V) (Q : VK) (E : XK),
    Room k A → A.guards = some [] → Env0 P w K mg base A outer s H → BindsTo s fd args (ps.zip us) → Vals vs us → sp vs H Q E →
      codeAny (model P w) A (.call (.ref f) args) (CR (L2.CX P w) outer P w H s Q E) s
theorem FnG.mono {P : Program} {w : World} {K : PySem.W.Frag} {mg : Str → Option Value} {base : Heap} {j k : Nat} {f : Addr} {fd : FuncData} {ps : List Str} {sp : Sp} (F : FnG P w K mg base j f fd ps sp) (h : j ≤ k) : FnG P w K mg base k f fd ps sp :=
  ⟨F.len, fun A o s H ar us vs Q E r => F.go A o s H ar us vs Q E (r.mono h)⟩
theorem FnG.of {P : Program} {w : World} {K : PySem.W.Frag} {mg : Str → Option Value} {base : Heap} {k : Nat} {f : Addr} {fd : FuncData} {ps : List Str} {sp : Sp} (F : FnOk P w K mg base (L2.CX P w) k f fd ps sp) : FnG P w K mg base k f fd ps sp :=
  ⟨F.len, fun A o s H ar us vs Q E r _ => F.run A o s H ar us vs Q E r⟩
section
variable {X : Cx} {k : Nat} {f : Addr} {fd : FuncData} {ps : List Str} {sp : Sp} {E : XK} {x : Str} {p pos : Pos} {e : Expr} {es : List Expr} {t : TA}
/-- the callee's run, seen from the caller's body -/
theorem run_g {pins : List (Addr × Obj)} {σ : St} {H : Hp} {s : Shared} {Q : VK} {us : List Value} {vs : List V}
    (F : FnG X.prog X.w X.K X.mg X.base k f fd ps sp) (hr : Room k X.A) (hg : X.A.guards = some []) (hb : Binds X.K fd ps [])
    (hx : ∀ e s', L2.CX X.prog X.w X.stack H s E e s' → X.xe e s') (I : Inv X pins σ H s) (r : Vals vs us) (h : sp vs H Q E) :
    wpAny (model X.prog X.w) X.A (call (.ref f) us) (EP X pins σ Q) X.xe s := by
  have hl : (us ++ []).length = ps.length := by
    rw [List.append_nil, ← Paired.length r]
    exact F.len _ _ _ _ h
  have hb' := hb s us I.kIn hl
  rw [List.append_nil] at hb'
  have run := F.go X.A X.stack s H ⟨us, []⟩ us vs Q E hr hg I.env0 hb' r h
  refine wpAny_call (codeAny_mono run ?_)
  intro res s2 q
  match res, q with
  | .error e2, q => exact hx e2 s2 q
  | .ok (.ret u), q => exact I.after q
  | .ok .next, q => exact q.elim
  | .ok .brk, q => exact q.elim
  | .ok .cont, q => exact q.elim
/-- f(e, ..): what is raised is wished for at the slots of this body -/
def tCallG (sp : Sp) (E : St → XK) (t : TA) : TE := fun σ H Q => t σ H fun vs H1 => sp vs H1 Q (E σ)
theorem pe_callG {E : St → XK} (F : FnG X.prog X.w X.K X.mg X.base k f fd ps sp) (hr : Room k X.A) (hgd : X.A.guards = some []) (hg : Gl X x) (hm : X.mg x = some (.ref f)) (hk : PySem.W.keepIn X.K (.ref f) = true) (hb : Binds X.K fd ps [])
    (hx : ∀ (pins : List (Addr × Obj)) (σ : St) (H : Hp) (s : Shared) (e : Value) (s' : Shared), Inv X pins σ H s → L2.CX X.prog X.w X.stack H s (E σ) e s' → X.xe e s')
    (ha : PA X (e :: es) t) (hdb : (x == ("__debug__" : Str)) = false) (he : starEach (e :: es) X.env = (false, eval e X.env) :: starEach es X.env) (hpl : (backTo pos (starEach es X.env)).any (·.1) = false) :
    PE X (.Call (.Name x p) (e :: es) [] pos) (tCallG sp E t) := by
  refine ⟨fun pins s σ H Q I h => wpAny_Call_Name_kw (ld_glob I hg hm ?_ hdb)⟩
  have hargs := ha.run pos pins s σ H _ I h
  refine PySem.W.callWith_K (h₀ := X.base) I.ok.mod.kin hk (thn hargs ?_) he hpl
  rintro us s1 ⟨vs, H1, I1, r, q⟩
  exact ⟨I1.kIn, run_g F hr hgd hb (fun e2 s2 => hx pins σ H1 s1 e2 s2 I1) I1 r q⟩
theorem pe_callG0 {E : St → XK} (F : FnG X.prog X.w X.K X.mg X.base k f fd ps sp) (hr : Room k X.A) (hgd : X.A.guards = some []) (hg : Gl X x) (hm : X.mg x = some (.ref f)) (hk : PySem.W.keepIn X.K (.ref f) = true) (hb : Binds X.K fd ps [])
    (hx : ∀ (pins : List (Addr × Obj)) (σ : St) (H : Hp) (s : Shared) (e : Value) (s' : Shared), Inv X pins σ H s → L2.CX X.prog X.w X.stack H s (E σ) e s' → X.xe e s')
    (hdb : (x == ("__debug__" : Str)) = false) : PE X (.Call (.Name x p) [] [] pos) (tCallG sp E tNil) := by
  refine ⟨fun pins s σ H Q I h => wpAny_Call_Name_kw (ld_glob I hg hm ?_ hdb)⟩
  exact PySem.W.callWith_K0 I.kIn hk (run_g (us := []) F hr hgd hb (fun e2 s2 => hx pins σ H s e2 s2 I) I .nil h)
end
/-- a def by its body -/
theorem fnG_of {P : Program} {w : World} {K : PySem.W.Frag} {mg : Str → Option Value} {base : Heap} {k : Nat} {f : Addr} {x qual : Str} {st : Stmt} {fd : FuncData} {N ps : List Str} {sp : Sp} (F : Fun K x qual st f fd) (S : FnScope N ps (defScope st))
    (len : ∀ vs H Q E, sp vs H Q E → vs.length = ps.length)
    (hbody : ∀ (cdv : Value) (A : Around) (outer : List Env) (s : Shared) (H : Hp) (vs : List V) (Q : VK) (E : XK), Room k (A.deeper (envOfC qual (defScope st) s.heap.objs.size f cdv)) → A.guards = some [] → sp vs H Q E →
      ∃ t, PSs (cxOf (L2.CX P w) P w K mg base N qual (defScope st) f cdv A outer s H E) (defBody st) t ∧ t { nx := fun _ H' => Q .non H', rt := Q } (start N vs) H) :
    FnG P w K mg base (k + 1) f fd ps sp := by
  obtain ⟨oc, od, kV, doc, pm, an, cdv, ct, osl, rfl, lk, hcd⟩ := F.ex
  refine ⟨len, ?_⟩
  intro A outer s H args us vs Q E hr hgd e0 hb r hsp
  have hlen := len _ _ _ _ hsp
  have keepB : ∀ b o, base.get? b = some o → s.heap.get? b = some o := fun b o e => (e0.bs b o e).1
  have KX : K.In s.heap := e0.mod.kin.keeps keepB
  refine codeAny_call_function hr.depth (KX _ _ lk) rfl S.co S.gen rfl (PySem.W.codeRec_of KX hcd) (hb _ _ _ _ ?_)
  refine wpAny_newFunctionEnv_cells S.kind ?_ ?_
  · rintro ⟨n, v⟩ hy
    rcases S.par n (List.of_mem_zip hy).1 with q | q
    · exact .inl q
    · exact .inr ⟨q, PySem.W.cellsFrom_some _ _ _ (.inl q)⟩
  · intro env he s1 hx
    subst he
    refine ⟨(e0.mod.nolimit.keeps keepB).keeps hx.toInCall.keep, codeAny_func ?_⟩
    obtain ⟨t, ht, hq⟩ := hbody cdv A outer s H vs Q E (hr.deeper _) hgd hsp
    have I := inv_start (CX := L2.CX P w) (mg := mg) (base := base) (K := K) (P := P) (w := w) (E := E) S hr.hd e0 hlen r hx
    have fin : ∀ {σ' : St} {H' : Hp} {v : V} {u : Value} {s' : Shared}, Inv (cxOf (L2.CX P w) P w K mg base N qual (defScope st) f cdv A outer s H E) [] σ' H' s' → RelV v u → Q v H' → CE outer P w H s Q u s' := by
      intro σ' H' v u s' J rv q
      exact ⟨v, H', J.os, J.bare, J.base, J.hok, rv, q⟩
    refine wpAny_mono (ht.run [] s1 (start N vs) H _ I hq) ?_ fun e s' hs => hs
    intro fl s' hs
    match fl, hs with
    | .ret u, ⟨v, σ', H', J, rv, q⟩ => exact fin J rv q
    | .next, ⟨σ', H', J, q⟩ => exact fin (v := V.non) (u := Value.none) J rfl q
    | .brk, ⟨_, _, _, q⟩ => exact q.elim
    | .cont, ⟨_, _, _, q⟩ => exact q.elim
end Pv
end

section
set_option maxRecDepth 10000
set_option maxHeartbeats 4000000
namespace Pv
open PySem PySem.Spec L2
open PyProof.Rows hiding St

/-! ## the small language -/
inductive Kd where | bl | int | str | lst | tup | dic
  deriving DecidableEq
inductive BI where | len | tuple | list | abs | int | all | any | repr | sorted
  deriving DecidableEq
inductive MI where | append | extend | popAt | pop
  deriving DecidableEq
/-- targets: a slot, or a row of targets -/
inductive Tg where
  | n (i : Nat)
  | nl
  | cs (a r : Tg)
/-- expressions; lists of them by nl, cs; what a for walks by i.. -/
inductive Ex where
  | v (i : Nat) | k (d : PyData)
  | tup (es : Ex) | lst (m : Bool) (es : Ex)
  | op (o : Operator) (a b : Ex) | neg (a : Ex)
  | cmp (o : CmpOp) (a b : Ex) | chain (o o' : CmpOp) (a b c : Ex)
  | an (es : Ex) | orr (es : Ex) | no (a : Ex) | ife (c a b : Ex)
  | ix (a b : Ex) | sl (a lo hi : Ex)
  | call (f : Nat) (es : Ex) | bi (b : BI) (es : Ex) | me (m : MI) (o es : Ex)
  | isi (a : Ex) (T : Kd)
  | lc (m : Bool) (own : List Nat) (t : Tg) (it ifs e : Ex)
  | nl | cs (a r : Ex) | tt (e : Ex)
  | iSeq (e : Ex) | iRng (e : Ex) | iRng2 (a b : Ex) | iEnum (e : Ex) | iZip (a b : Ex)
/-- statements; blocks by nl, cs -/
inductive Sx where
  | nl | cs (a r : Sx)
  | asg (t : Tg) (e : Ex) | par (t : List Nat) (es : Ex) | sub (o i e : Ex) | aug (i : Nat) (o : Operator) (e : Ex)
  | expr (e : Ex) | ret (e : Ex) | retN
  | iff (c : Ex) (a b : Sx) | whl (c : Ex) (b : Sx) | for_ (t : Tg) (it : Ex) (b : Sx)
  | pass | brk | cont

/-! ## the evaluator -/
def ofO (o : Option (W × Sto)) : R W := match o with
  | some (w, S) => .ok w S
  | none => .bad
def binF : Operator → F2
  | .Add => fAdd | .Sub => fSub | .Mult => fMul | .FloorDiv => fDiv | .Mod => fMod | .Pow => fPow
  | _ => fun _ _ _ => none
def cmpF : CmpOp → F2
  | .Eq => fEq | .NotEq => fNe
  | .Lt => fOrd fun a b => PySem.W.dataLt a b
  | .Gt => fOrd fun a b => PySem.W.dataLt b a
  | .LtE => fOrd fun a b => !PySem.W.dataLt b a
  | .GtE => fOrd fun a b => !PySem.W.dataLt a b
  | .In => fIn false | .NotIn => fIn true
  | .Is => fIsN false | .IsNot => fIsN true
def biF : BI → FL1
  | .len => fLen | .tuple => fTuple | .list => fList | .abs => fAbs | .int => fInt | .all => fAll false | .any => fAll true | .repr => fRepr | .sorted => fSorted
def meF : MI → FM
  | .append => fAppend | .extend => fExtend | .popAt => fPopAt | .pop => fPop
def meOk (m : MI) (S : Sto) : W → Bool
  | .r n => (S[n]?).isSome
  | _ => false
def kdOf : W → Option Kd
  | .p (.bool _) => some .bl
  | .p (.int _) => some .int
  | .p (.str _) => some .str
  | .p (.list _) => some .lst
  | .p (.tuple _) => some .tup
  | .p (.dict _) => some .dic
  | .p .none => none
  | .r _ => some .lst
  | .s _ => some .lst
def isiB (w : W) (T : Kd) : Bool := match kdOf w with
  | some k => k == T || (k == .bl && T == .int)
  | none => false
def bl? : W → Option Bool
  | .p (.bool b) => some b
  | _ => none
def tru (S : Sto) : W → Option Bool
  | .p .none => some false
  | .p (.bool b) => some b
  | .p (.int i) => some (i != 0)
  | .p (.str x) => if x.length ≤ lim then some ((x.length : Int) != 0) else none
  | .p (.list ds) => some !ds.isEmpty
  | .p (.tuple ds) => some !ds.isEmpty
  | .r n => match S[n]? with
    | some (.l ws) => some !ws.isEmpty
    | none => none
  | _ => none
def ofB (o : Option Bool) (S : Sto) : R Bool := match o with
  | some b => .ok b S
  | none => .bad
/-- what a turn of a walk gives -/
inductive Row where
  | one (w : W) | two (a b : W)
def enumR : Nat → List W → List Row
  | _, [] => []
  | i, w :: r => .two (.p (.int i)) w :: enumR (i + 1) r
def still : W → Bool
  | .r _ => false
  | _ => true
def asgT (S : Sto) : Tg → W → Tau → Option Tau
  | .n i, w, τ => some (τ.set i (some w))
  | t, w, τ => match items S w with
    | some (_, ws) => asgTs S t ws τ
    | none => none
where asgTs (S : Sto) : Tg → List W → Tau → Option Tau
  | .nl, [], τ => some τ
  | .cs a r, w :: ws, τ => match asgT S a w τ with
    | some τ' => asgTs S r ws τ'
    | none => none
  | _, _, _ => none
/-- a row comes to a target -/
def asgR (S : Sto) : Tg → Row → Tau → Option Tau
  | t, .one w, τ => asgT S t w τ
  | .cs a (.cs b .nl), .two x y, τ => match asgT S a x τ with
    | some τ' => asgT S b y τ'
    | none => none
  | _, .two _ _, _ => none
def setAll : List Nat → List W → Tau → Option Tau
  | [], [], τ => some τ
  | i :: is, w :: ws, τ => setAll is ws (τ.set i (some w))
  | _, _, _ => none
/-- the slots of a comprehension's own names are forgotten -/
def wipeT (τ : Tau) : List Nat → Tau
  | [] => τ
  | i :: is => (wipeT τ is).set i none
def lcLoop (f : Row → Sto → R (Option W)) : List Row → List W → Sto → R (List W)
  | [], acc, S => .ok acc S
  | r :: rs, acc, S => match f r S with
    | .ok (some w) S => lcLoop f rs (acc ++ [w]) S
    | .ok none S => lcLoop f rs acc S
    | _ => .bad
/-- the end of a list display, of a comprehension -/
def mkLst (m : Bool) (ws : List W) (S : Sto) : R W :=
  if ws.length ≤ lim then
    if m then .ok (.r S.length) (S ++ [.l ws]) else match deP ws with
      | some ds => .ok (.p (.list ds)) S
      | none => .bad
  else .bad
def mkTup (ws : List W) (S : Sto) : R W :=
  if ws.length ≤ lim then match deP ws with
    | some ds => .ok (.p (.tuple ds)) S
    | none => .bad
  else .bad
def rowsZip : Bool × List W → Bool × List W → Option (List Row)
  | (a, xs), (b, ys) => if a == b then some (List.zipWith Row.two xs ys) else none
def rng (lo : Int) (n : Nat) : List Row := (List.range n).map fun (i : Nat) => .one (.p (.int (lo + i)))
section
variable (call : Nat → List W → Sto → R W)
mutual
def evE : Ex → Tau → Sto → R W
  | .v i, τ, S => match τ[i]? with
    | some (some w) => .ok w S
    | _ => .bad
  | .k d, _, S => .ok (.p d) S
  | .tup es, τ, S => (evEs es τ S).bind mkTup
  | .lst m es, τ, S => (evEs es τ S).bind (mkLst m)
  | .op o a b, τ, S => (evE a τ S).bind fun x S => (evE b τ S).bind fun y S => ofO (binF o S x y)
  | .neg a, τ, S => (evE a τ S).bind fun x S => match x with
    | .p (.int i) => .ok (.p (.int (-i))) S
    | _ => .bad
  | .cmp o a b, τ, S => (evE a τ S).bind fun x S => (evE b τ S).bind fun y S => ofO (cmpF o S x y)
  | .chain o o' a b c, τ, S => (evE a τ S).bind fun x S => (evE b τ S).bind fun y S => (ofO (cmpF o S x y)).bind fun z S => (ofB (bl? z) S).bind fun t S =>
      if t then (evE c τ S).bind fun w S => ofO (cmpF o' S y w) else .ok (.p (.bool false)) S
  | .an es, τ, S => evAn es τ S
  | .orr es, τ, S => evOr es τ S
  | .no a, τ, S => (evE a τ S).bind fun x S => (ofB (bl? x) S).bind fun t S => .ok (.p (.bool !t)) S
  | .ife c a b, τ, S => (evT c τ S).bind fun t S => if t then evE a τ S else evE b τ S
  | .ix a b, τ, S => (evE a τ S).bind fun x S => (evE b τ S).bind fun y S => ofO (fIx S x y)
  | .sl a lo hi, τ, S => (evE a τ S).bind fun x S => (evP lo τ S).bind fun l S => (evP hi τ S).bind fun h S => ofO (fSl l h S x)
  | .call f es, τ, S => (evEs es τ S).bind (call f)
  | .bi b es, τ, S => (evEs es τ S).bind fun ws S => ofO (biF b S ws)
  | .me m o es, τ, S => (evE o τ S).bind fun x S => if meOk m S x then (evEs es τ S).bind fun ws S => ofO (meF m S x ws) else .bad
  | .isi a T, τ, S => (evE a τ S).bind fun x S => .ok (.p (.bool (isiB x T))) S
  | .lc m own t it ifs e, τ, S => (evI it τ S).bind fun rows S => (lcLoop (fun row S => match asgR S t row (wipeT τ own) with
      | some τ' => (evAs ifs τ' S).bind fun b S => if b then (evE e τ' S).bind fun w S => .ok (some w) S else .ok none S
      | none => .bad) rows [] S).bind (mkLst m)
  | _, _, _ => .bad
def evEs : Ex → Tau → Sto → R (List W)
  | .nl, _, S => .ok [] S
  | .cs a r, τ, S => (evE a τ S).bind fun x S => (evEs r τ S).bind fun xs S => .ok (x :: xs) S
  | _, _, _ => .bad
/-- and, or as values: truth values, but the last -/
def evAn : Ex → Tau → Sto → R W
  | .cs a .nl, τ, S => evE a τ S
  | .cs a r, τ, S => (evE a τ S).bind fun x S => (ofB (bl? x) S).bind fun t S => if t then evAn r τ S else .ok (.p (.bool false)) S
  | _, _, _ => .bad
def evOr : Ex → Tau → Sto → R W
  | .cs a .nl, τ, S => evE a τ S
  | .cs a r, τ, S => (evE a τ S).bind fun x S => (ofB (bl? x) S).bind fun t S => if t then .ok (.p (.bool true)) S else evOr r τ S
  | _, _, _ => .bad
/-- tests -/
def evT : Ex → Tau → Sto → R Bool
  | .an es, τ, S => evTa es τ S
  | .orr es, τ, S => evTo es τ S
  | .no a, τ, S => (evT a τ S).bind fun t S => .ok (!t) S
  | .tt e, τ, S => (evE e τ S).bind fun x S => ofB (tru S x) S
  | _, _, _ => .bad
/-- a part of a slice -/
def evP : Ex → Tau → Sto → R (Option Int)
  | .nl, _, S => .ok none S
  | .cs e _, τ, S => (evE e τ S).bind fun x S => match x with
    | .p (.int i) => .ok (some i) S
    | _ => .bad
  | _, _, _ => .bad
def evTa : Ex → Tau → Sto → R Bool
  | .cs a .nl, τ, S => evT a τ S
  | .cs a r, τ, S => (evT a τ S).bind fun t S => if t then evTa r τ S else .ok false S
  | _, _, _ => .bad
def evTo : Ex → Tau → Sto → R Bool
  | .cs a .nl, τ, S => evT a τ S
  | .cs a r, τ, S => (evT a τ S).bind fun t S => if t then .ok true S else evTo r τ S
  | _, _, _ => .bad
/-- a comprehension's tests: none or one -/
def evAs : Ex → Tau → Sto → R Bool
  | .nl, _, S => .ok true S
  | .cs a .nl, τ, S => evT a τ S
  | _, _, _ => .bad
/-- what is walked -/
def evI : Ex → Tau → Sto → R (List Row)
  | .iSeq e, τ, S => (evE e τ S).bind fun x S => match items S x with
    | some (_, ws) => if still x then .ok (ws.map .one) S else .bad
    | none => .bad
  | .iRng e, τ, S => (evE e τ S).bind fun x S => match x with
    | .p (.int n) => if n < 2 ^ 62 ∧ -(2 ^ 62) ≤ n then .ok (rng 0 n.toNat) S else .bad
    | _ => .bad
  | .iRng2 a b, τ, S => (evE a τ S).bind fun x S => (evE b τ S).bind fun y S => match x, y with
    | .p (.int m), .p (.int n) => if (n < 2 ^ 62 ∧ -(2 ^ 62) ≤ n) ∧ m < 2 ^ 62 ∧ -(2 ^ 62) ≤ m then .ok (rng m (n - m).toNat) S else .bad
    | _, _ => .bad
  | .iEnum e, τ, S => (evE e τ S).bind fun x S => match items S x with
    | some (false, ws) => if still x then .ok (enumR 0 ws) S else .bad
    | _ => .bad
  | .iZip a b, τ, S => (evE a τ S).bind fun x S => (evE b τ S).bind fun y S => match items S x, items S y with
    | some p, some q => if still x && still y then match rowsZip p q with
        | some rows => .ok rows S
        | none => .bad
      else .bad
    | _, _ => .bad
  | _, _, _ => .bad
end
/-- an expression's end in a statement -/
def thenS {α : Type} (r : R α) (τ : Tau) (f : α → Sto → RS) : RS := match r with
  | .ok a S => f a S
  | .exc x S => .exc x τ S
  | .bad => .bad
def forLoop (f : Row → Tau → Sto → RS) : List Row → Tau → Sto → RS
  | [], τ, S => .nx τ S
  | r :: rs, τ, S => match f r τ S with
    | .nx τ S => forLoop f rs τ S
    | .ct τ S => forLoop f rs τ S
    | .bk τ S => .nx τ S
    | .ret w S => .ret w S
    | .exc x τ S => .exc x τ S
    | .bad => .bad
def whlLoop (c : Tau → Sto → R Bool) (b : Tau → Sto → RS) : Nat → Tau → Sto → RS
  | 0, _, _ => .bad
  | n + 1, τ, S => thenS (c τ S) τ fun t S => if t then match b τ S with
      | .nx τ S => whlLoop c b n τ S
      | .ct τ S => whlLoop c b n τ S
      | .bk τ S => .nx τ S
      | .ret w S => .ret w S
      | .exc x τ S => .exc x τ S
      | .bad => .bad
    else .nx τ S
def fuel : Nat := 1000000000
mutual
def evS : Sx → Tau → Sto → RS
  | .asg t e, τ, S => thenS (evE call e τ S) τ fun w S => match asgT S t w τ with
    | some τ' => .nx τ' S
    | none => .bad
  | .par is es, τ, S => thenS (evEs call es τ S) τ fun ws S => match setAll is ws τ with
    | some τ' => .nx τ' S
    | none => .bad
  | .sub o i e, τ, S => thenS (evE call e τ S) τ fun w S => thenS (evE call o τ S) τ fun x S => thenS (evE call i τ S) τ fun y S => match fSet S x y w with
    | some S' => .nx τ S'
    | none => .bad
  | .aug i o e, τ, S => match τ[i]? with
    | some (some x) => thenS (evE call e τ S) τ fun y S => match o, x, y with
      | .Add, .p (.int a), .p (.int b) => .nx (τ.set i (some (.p (.int (a + b))))) S
      | .Sub, .p (.int a), .p (.int b) => .nx (τ.set i (some (.p (.int (a - b))))) S
      | _, _, _ => .bad
    | _ => .bad
  | .expr e, τ, S => thenS (evE call e τ S) τ fun _ S => .nx τ S
  | .ret e, τ, S => thenS (evE call e τ S) τ fun w S => .ret w S
  | .retN, _, S => .ret (.p .none) S
  | .iff c a b, τ, S => thenS (evT call c τ S) τ fun t S => if t then evSs a τ S else evSs b τ S
  | .whl c b, τ, S => whlLoop (evT call c) (evSs b) fuel τ S
  | .for_ t it b, τ, S => thenS (evI call it τ S) τ fun rows S => forLoop (fun row τ S => match asgR S t row τ with
      | some τ' => evSs b τ' S
      | none => .bad) rows τ S
  | .pass, τ, S => .nx τ S
  | .brk, τ, S => .bk τ S
  | .cont, τ, S => .ct τ S
  | _, _, _ => .bad
def evSs : Sx → Tau → Sto → RS
  | .nl, τ, S => .nx τ S
  | .cs a r, τ, S => match evS a τ S with
    | .nx τ S => evSs r τ S
    | .bk τ S => .bk τ S
    | .ct τ S => .ct τ S
    | .ret w S => .ret w S
    | .exc x τ S => .exc x τ S
    | .bad => .bad
  | _, _, _ => .bad
end
end
/-- a def: how many parameters, how many slots, whether what it made is forgotten at its end, its body -/
structure Fd where
  np : Nat
  nn : Nat
  gc : Bool
  body : Sx
/-- no place from n on is named -/
def below (n : Nat) : W → Bool
  | .r m => decide (m < n)
  | _ => true
def frz (n : Nat) (S : Sto) : W → Option W
  | .r m => if m < n then some (.r m) else match S[m]? with
    | some (.l ws) => (deP ws).map fun ds => .p (.list ds)
    | none => none
  | w => some w
def obBelow (n : Nat) : Ob → Bool
  | .l ws => ws.all (below n)
/-- what a def made is forgotten -/
def sweep (n : Nat) (w : W) (S : Sto) : R W :=
  if (S.take n).all (obBelow n) then match frz n S w with
    | some w' => .ok w' (S.take n)
    | none => .bad
  else .bad
def endF (gc : Bool) (n : Nat) : RS → R W
  | .nx _ S => if gc then sweep n (.p .none) S else .ok (.p .none) S
  | .ret w S => if gc then sweep n w S else .ok w S
  | .exc x _ S => .exc x S
  | _ => .bad
def callN (T : List Fd) : Nat → Nat → List W → Sto → R W
  | 0, _, _, _ => .bad
  | k + 1, i, ws, S => match T[i]? with
    | some d => if ws.length = d.np then endF d.gc S.length (evSs (callN T k) d.body (ws.map some ++ List.replicate (d.nn - d.np) none) S) else .bad
    | none => .bad
end Pv
end

section
set_option maxRecDepth 10000
set_option maxHeartbeats 4000000
namespace Pv
open PySem PySem.Spec L2
open PyProof.Rows hiding St

/-! ## readings by the evaluator -/
section
variable (G : Gk) (Wx : WX)
def relW : Hp → Pl → W → V → Prop := fun H ρ w v => RW G.K H ρ w v
def relWs : Hp → Pl → List W → List V → Prop := fun H ρ w v => RWs G.K H ρ w v
def relB : Hp → Pl → Bool → Bool → Prop := fun _ _ a b => a = b
def tG {α β : Type} (rel : Hp → Pl → α → β → Prop) (m : Tau → Sto → R α) : St → Hp → (β → Hp → Prop) → Prop := fun σ H Q => ∃ ρ τ S, EnvR G.K H ρ τ σ ∧ Sim G.K ρ S H ∧ Post G Wx σ ρ H rel (m τ S) Q
abbrev tE (m : Tau → Sto → R W) : TE := tG G Wx (relW G) m
abbrev tAs (m : Tau → Sto → R (List W)) : TA := tG G Wx (relWs G) m
abbrev tTs (m : Tau → Sto → R Bool) : TT := tG G Wx relB m
end
section
variable {G : Gk} {Wx : WX}
theorem tG.imp {α β : Type} {rel : Hp → Pl → α → β → Prop} {m : Tau → Sto → R α} {σ : St} {H : Hp} {Q Q' : β → Hp → Prop} (h : tG G Wx rel m σ H Q) (i : ∀ v H', Q v H' → Q' v H') : tG G Wx rel m σ H Q' := by
  obtain ⟨ρ, τ, S, env, sm, h⟩ := h
  exact ⟨ρ, τ, S, env, sm, h.imp i⟩
theorem tG.go {α β γ δ : Type} {rel : Hp → Pl → α → β → Prop} {rel' : Hp → Pl → γ → δ → Prop} {m : Tau → Sto → R α} {f : α → Sto → R γ} {σ : St} {H : Hp} {Q : δ → Hp → Prop} {ρ : Pl} {τ : Tau} {S : Sto}
    (env : EnvR G.K H ρ τ σ) (sm : Sim G.K ρ S H) (h : Post G Wx σ ρ H rel' ((m τ S).bind f) Q) :
    tG G Wx rel m σ H fun v H2 => ∃ ρ2 S2 b, Ext ρ H ρ2 H2 ∧ EnvR G.K H2 ρ2 τ σ ∧ Sim G.K ρ2 S2 H2 ∧ rel H2 ρ2 b v ∧ Post G Wx σ ρ2 H2 rel' (f b S2) Q :=
  ⟨ρ, τ, S, env, sm, (Post.bind (rel := rel) h).imp fun v H2 ⟨ρ2, b, S2, ex, sm2, r, p⟩ => ⟨ρ2, S2, b, ex, env.ext ex, sm2, r, p⟩⟩
theorem PE.imp {X : Cx} {e : Expr} {t t' : TE} (h : PE X e t) (i : ∀ σ H Q, t' σ H Q → t σ H Q) : PE X e t' := ⟨fun pins s σ H Q I q => h.run pins s σ H Q I (i _ _ _ q)⟩
theorem PT.imp {X : Cx} {e : Expr} {t t' : TT} (h : PT X e t) (i : ∀ σ H Q, t' σ H Q → t σ H Q) : PT X e t' := ⟨fun pins s σ H Q I q => h.run pins s σ H Q I (i _ _ _ q)⟩
theorem PW.imp {X : Cx} {e : Expr} {t t' : TT} (h : PW X e t) (i : ∀ σ H Q, t' σ H Q → t σ H Q) : PW X e t' := ⟨fun wh pins s σ H Q I q => h.run wh pins s σ H Q I (i _ _ _ q)⟩
theorem PA.imp {X : Cx} {e : List Expr} {t t' : TA} (h : PA X e t) (i : ∀ σ H Q, t' σ H Q → t σ H Q) : PA X e t' := ⟨fun pos pins s σ H Q I q => h.run pos pins s σ H Q I (i _ _ _ q)⟩
theorem PSs.imp {X : Cx} {e : List Stmt} {t t' : TS} (h : PSs X e t) (i : ∀ D σ H, t' D σ H → t D σ H) : PSs X e t' := ⟨fun pins s σ H Q I q => h.run pins s σ H Q I (i _ _ _ q)⟩
theorem PS.imp {X : Cx} {e : Stmt} {t t' : TS} (h : PS X e t) (i : ∀ D σ H, t' D σ H → t D σ H) : PS X e t' := ⟨fun pins s σ H Q I q => h.run pins s σ H Q I (i _ _ _ q)⟩
theorem Post.po {σ : St} {ρ : Pl} {H : Hp} {o : Option (W × Sto)} {Q : VK} (h : Post G Wx σ ρ H (relW G) (ofO o) Q) : PO G ρ H o Q := by
  cases o with
  | none => exact h
  | some p => exact h
end

/-! ## expressions, one by one -/
section
variable {X : Cx} {G : Gk} {Wx : WX} {call : Nat → List W → Sto → R W} {a b c : Expr} {xa xb xc : Ex} {pos : Pos}
theorem s_v {i : Nat} {x : Str} (hN : X.N[i]? = some x) (hv : Vis X.env.scope x) (hd : (x == ("__debug__" : Str)) = false) (hcd : (x == ("__classdict__" : Str)) = false) : PE X (.Name x pos) (tE G Wx (evE call (.v i))) := by
  refine PE.imp (pe_var hN hv hd hcd) fun σ H Q h => ?_
  obtain ⟨ρ, τ, S, env, sm, h⟩ := h
  unfold evE at h
  split at h
  · rename_i w e
    obtain ⟨v, hv, r⟩ := env.2 i w e
    exact ⟨v, hv, h.done sm r⟩
  · exact h.elim
def cOk : Const → PyData → Bool
  | .none, .none => true
  | .bool b, .bool c => b == c
  | .int i, .int j => i == j
  | .str x, .str y => x == y
  | _, _ => false
theorem s_k {k : Const} {d : PyData} {j : Nat} (h : cOk k d = true) : PE X (.Constant k j pos) (tE G Wx (evE call (.k d))) := by
  unfold cOk at h
  split at h
  · refine PE.imp pe_non fun σ H Q h => ?_
    obtain ⟨ρ, τ, S, env, sm, h⟩ := h
    unfold evE at h
    exact h.done sm .non
  · rename_i b c
    have : b = c := by simpa using h
    subst this
    refine PE.imp pe_bl fun σ H Q h => ?_
    obtain ⟨ρ, τ, S, env, sm, h⟩ := h
    unfold evE at h
    exact h.done sm (.bl _)
  · rename_i b c
    have : b = c := by simpa using h
    subst this
    refine PE.imp pe_int fun σ H Q h => ?_
    obtain ⟨ρ, τ, S, env, sm, h⟩ := h
    unfold evE at h
    exact h.done sm (.int _)
  · rename_i b c
    have : b = c := by simpa using h
    subst this
    refine PE.imp pe_str fun σ H Q h => ?_
    obtain ⟨ρ, τ, S, env, sm, h⟩ := h
    unfold evE at h
    exact h.done sm (.str _)
  · cases h
theorem op2_ok {f : F2} {m1 m2 : Tau → Sto → R W} {σ : St} {H : Hp} {Q : VK} (h : tE G Wx (fun τ S => (m1 τ S).bind fun x S => (m2 τ S).bind fun y S => ofO (f S x y)) σ H Q) : tOp (rF2 G f) (tE G Wx m1) (tE G Wx m2) σ H Q := by
  obtain ⟨ρ, τ, S, env, sm, h⟩ := h
  refine tG.imp (tG.go env sm h) fun v H1 ⟨ρ1, S1, x, ex, env1, sm1, r1, h1⟩ => ?_
  refine tG.imp (tG.go env1 sm1 h1) fun u H2 ⟨ρ2, S2, y, ex2, env2, sm2, r2, h2⟩ => ?_
  exact ⟨ρ2, S2, x, y, sm2, RW.ext ex2 r1, r2, h2.po⟩
theorem s_op {o : Operator} (ho : OpR X (binaryOp o) (rF2 G (binF o))) (ha : PE X a (tE G Wx (evE call xa))) (hb : PE X b (tE G Wx (evE call xb))) : PE X (.BinOp a o b pos) (tE G Wx (evE call (.op o xa xb))) := by
  refine PE.imp (pe_op ho ha hb) fun σ H Q h => op2_ok ?_
  obtain ⟨ρ, τ, S, env, sm, h⟩ := h
  unfold evE at h
  exact ⟨ρ, τ, S, env, sm, h⟩
theorem s_cmp {o : CmpOp} (ho : OpR X (compareOp o) (rF2 G (cmpF o))) (ha : PE X a (tE G Wx (evE call xa))) (hb : PE X b (tE G Wx (evE call xb))) (hm : behindInMarks o b = false) : PE X (.Compare a [o] [b] pos) (tE G Wx (evE call (.cmp o xa xb))) := by
  refine PE.imp (pe_cmpR ho ha hb hm) fun σ H Q h => op2_ok ?_
  obtain ⟨ρ, τ, S, env, sm, h⟩ := h
  unfold evE at h
  exact ⟨ρ, τ, S, env, sm, h⟩
theorem s_neg (ha : PE X a (tE G Wx (evE call xa))) : PE X (.UnaryOp .USub a pos) (tE G Wx (evE call (.neg xa))) := by
  refine PE.imp (pe_un un_neg ha) fun σ H Q h => ?_
  obtain ⟨ρ, τ, S, env, sm, h⟩ := h
  unfold evE at h
  refine tG.imp (tG.go env sm h) fun v H1 ⟨ρ1, S1, x, ex, env1, sm1, r1, h1⟩ => ?_
  split at h1
  · cases r1
    exact ⟨_, rfl, h1.done sm1 (.int _)⟩
  · exact h1.elim
theorem bl_rep {K : PySem.W.Frag} {H : Hp} {ρ : Pl} {w : W} {v : V} {t : Bool} (r : RW K H ρ w v) (e : bl? w = some t) : v = .bl t := by
  unfold bl? at e
  split at e
  · cases e; cases r; rfl
  · cases e
theorem chain_ok {o o' : CmpOp} {σ : St} {H : Hp} {Q : VK} (h : tE G Wx (evE call (.chain o o' xa xb xc)) σ H Q) : tChain (rF2 G (cmpF o)) (rF2 G (cmpF o')) (tE G Wx (evE call xa)) (tE G Wx (evE call xb)) (tE G Wx (evE call xc)) σ H Q := by
  obtain ⟨ρ, τ, S, env, sm, h⟩ := h
  unfold evE at h
  refine tG.imp (tG.go env sm h) fun v H1 ⟨ρ1, S1, x, ex, env1, sm1, r1, h1⟩ => ?_
  refine tG.imp (tG.go env1 sm1 h1) fun u H2 ⟨ρ2, S2, y, ex2, env2, sm2, r2, h2⟩ => ?_
  refine ⟨ρ2, S2, x, y, sm2, RW.ext ex2 r1, r2, ?_⟩
  cases e : cmpF o S2 x y with
  | none => rw [e] at h2; exact h2
  | some p =>
    obtain ⟨z, S3⟩ := p
    rw [e] at h2
    intro v3 H3 ρ3 ex3 sm3 r3
    have h3 : Post G Wx σ ρ2 H2 (relW G) ((ofB (bl? z) S3).bind fun t S => if t then (evE call xc τ S).bind fun w S => ofO (cmpF o' S y w) else .ok (.p (.bool false)) S) Q := h2
    cases e2 : bl? z with
    | none => rw [e2] at h3; exact h3.elim
    | some t =>
      rw [e2] at h3
      have h4 : Post G Wx σ ρ2 H2 (relW G) (if t = true then (evE call xc τ S3).bind fun w S => ofO (cmpF o' S y w) else .ok (.p (.bool false)) S3) Q := h3
      refine ⟨t, bl_rep r3 e2, ?_⟩
      cases t with
      | true =>
        rw [if_pos rfl] at h4 ⊢
        refine tG.imp (tG.go (env2.ext ex3) sm3 (Post.ext ex3 h4)) fun w H4 ⟨ρ4, S4, z', ex4, env4, sm4, r4, h5⟩ => ?_
        exact ⟨ρ4, S4, y, z', sm4, RW.ext (ex3.trans ex4) r2, r4, h5.po⟩
      | false =>
        rw [if_neg Bool.false_ne_true] at h4 ⊢
        exact (Post.ext ex3 h4).done sm3 (.bl _)
theorem s_chain {o o' : CmpOp} (ho : OpR X (compareOp o) (rF2 G (cmpF o))) (ho' : OpR X (compareOp o') (rF2 G (cmpF o'))) (ha : PE X a (tE G Wx (evE call xa))) (hb : PE X b (tE G Wx (evE call xb))) (hc : PE X c (tE G Wx (evE call xc)))
    (hm : lastMarks [o, o'] [b, c] = false) : PE X (.Compare a [o, o'] [b, c] pos) (tE G Wx (evE call (.chain o o' xa xb xc))) :=
  PE.imp (pe_chain ho ho' ha hb hc hm) fun σ H Q h => chain_ok h
theorem s_ix (hr : IxR X (rF2 G fIx)) (ha : PE X a (tE G Wx (evE call xa))) (hb : PE X b (tE G Wx (evE call xb))) (hs : PlainIx b) : PE X (.Subscript a b pos) (tE G Wx (evE call (.ix xa xb))) := by
  refine PE.imp (pe_ix hr ha hb hs) fun σ H Q h => op2_ok ?_
  obtain ⟨ρ, τ, S, env, sm, h⟩ := h
  unfold evE at h
  exact ⟨ρ, τ, S, env, sm, h⟩
theorem s_ife (hc : PT X c (tTs G Wx (evT call xc))) (ha : PE X a (tE G Wx (evE call xa))) (hb : PE X b (tE G Wx (evE call xb))) : PE X (.IfExp c a b pos) (tE G Wx (evE call (.ife xc xa xb))) := by
  refine PE.imp (pe_ifExp hc ha hb) fun σ H Q h => ?_
  obtain ⟨ρ, τ, S, env, sm, h⟩ := h
  unfold evE at h
  refine tG.imp (tG.go env sm h) fun t H1 ⟨ρ1, S1, x, ex, env1, sm1, r1, h1⟩ => ?_
  have : x = t := r1
  subst this
  cases x with
  | true => rw [if_pos rfl] at h1 ⊢; exact ⟨ρ1, τ, S1, env1, sm1, h1⟩
  | false => rw [if_neg Bool.false_ne_true] at h1 ⊢; exact ⟨ρ1, τ, S1, env1, sm1, h1⟩
theorem s_no (ha : PE X a (tE G Wx (evE call xa))) : PE X (.UnaryOp .Not a pos) (tE G Wx (evE call (.no xa))) := by
  refine PE.imp (pe_not ha) fun σ H Q h => ?_
  obtain ⟨ρ, τ, S, env, sm, h⟩ := h
  unfold evE at h
  refine tG.imp (tG.go env sm h) fun v H1 ⟨ρ1, S1, x, ex, env1, sm1, r1, h1⟩ => ?_
  cases e2 : bl? x with
  | none => rw [e2] at h1; exact h1.elim
  | some t =>
    rw [e2] at h1
    exact ⟨t, bl_rep r1 e2, Post.done (show Post G Wx σ ρ1 H1 (relW G) (.ok (.p (.bool !t)) S1) Q from h1) sm1 (.bl _)⟩
/-! ### argument lists, displays, calls -/
theorem s_nil : PA X [] (tAs G Wx (evEs call .nl)) := by
  refine PA.imp pa_nil fun σ H Q h => ?_
  obtain ⟨ρ, τ, S, env, sm, h⟩ := h
  unfold evEs at h
  exact h.done sm .nil
theorem s_cons {es : List Expr} {xs : Ex} (ha : PE X a (tE G Wx (evE call xa))) (hr : PA X es (tAs G Wx (evEs call xs))) (hs : starEach (a :: es) X.env = (false, eval a X.env) :: starEach es X.env) : PA X (a :: es) (tAs G Wx (evEs call (.cs xa xs))) := by
  refine PA.imp (pa_cons ha hr hs) fun σ H Q h => ?_
  obtain ⟨ρ, τ, S, env, sm, h⟩ := h
  unfold evEs at h
  refine tG.imp (tG.go env sm h) fun v H1 ⟨ρ1, S1, x, ex, env1, sm1, r1, h1⟩ => ?_
  refine tG.imp (tG.go env1 sm1 h1) fun vs H2 ⟨ρ2, S2, ys, ex2, env2, sm2, r2, h2⟩ => ?_
  exact h2.done sm2 (.cons (RW.ext ex2 r1) r2)
theorem mkTup_ok {σ : St} {ρ : Pl} {H : Hp} {Q : VK} {ws : List W} {S : Sto} {vs : List V} (sm : Sim G.K ρ S H) (r : RWs G.K H ρ ws vs) (h : Post G Wx σ ρ H (relW G) (mkTup ws S) Q) : vs.length ≤ sizeLine ∧ ∀ p, H p = none → Q (.ref p) (upd H p (.tup vs)) := by
  unfold mkTup at h
  split at h
  · rename_i hl
    split at h
    · rename_i ds e
      obtain ⟨rfl, hd⟩ := deP_rep r e
      exact ⟨lim_le (by rw [← Paired.length r]; exact hl), fun p hp => h _ _ ρ (Ext.laid sm.sub hp) (sm.laid hp) (DF.newT sm hp hd)⟩
    · exact h.elim
  · exact h.elim
theorem mkLst_ok {m : Bool} {σ : St} {ρ : Pl} {H : Hp} {Q : VK} {ws : List W} {S : Sto} {vs : List V} (sm : Sim G.K ρ S H) (r : RWs G.K H ρ ws vs) (h : Post G Wx σ ρ H (relW G) (mkLst m ws S) Q) : vs.length ≤ sizeLine ∧ ∀ p, H p = none → Q (.ref p) (upd H p (.lst vs)) := by
  unfold mkLst at h
  split at h
  · rename_i hl
    refine ⟨lim_le (by rw [← Paired.length r]; exact hl), fun p hp => ?_⟩
    split at h
    · obtain ⟨ex, sm'⟩ := sm.new hp r
      exact h _ _ _ ex sm' ⟨p, by show (ρ.ρ ++ [p])[_]? = _; rw [← sm.len]; simp, rfl⟩
    · split at h
      · rename_i ds e
        obtain ⟨rfl, hd⟩ := deP_rep r e
        exact h _ _ ρ (Ext.laid sm.sub hp) (sm.laid hp) (DF.newL sm hp hd)
      · exact h.elim
  · exact h.elim
theorem s_tup {es : List Expr} {xs : Ex} {k : Nat} (ha : PA X es (tAs G Wx (evEs call xs))) : PE X (.Tuple es k pos) (tE G Wx (evE call (.tup xs))) := by
  refine PE.imp (pe_tup ha) fun σ H Q h => ?_
  obtain ⟨ρ, τ, S, env, sm, h⟩ := h
  unfold evE at h
  exact tG.imp (tG.go env sm h) fun v H1 ⟨ρ1, S1, x, ex, env1, sm1, r1, h1⟩ => mkTup_ok sm1 r1 h1
theorem s_lst {m : Bool} {es : List Expr} {xs : Ex} (ha : PA X es (tAs G Wx (evEs call xs))) : PE X (.List es pos) (tE G Wx (evE call (.lst m xs))) := by
  refine PE.imp (pe_lst ha) fun σ H Q h => ?_
  obtain ⟨ρ, τ, S, env, sm, h⟩ := h
  unfold evE at h
  exact tG.imp (tG.go env sm h) fun v H1 ⟨ρ1, S1, x, ex, env1, sm1, r1, h1⟩ => mkLst_ok sm1 r1 h1
theorem fn_ok {f : FL1} {xs : Ex} {σ : St} {H : Hp} {Q : VK} (h : tE G Wx (fun τ S => (evEs call xs τ S).bind fun ws S => ofO (f S ws)) σ H Q) : tCB (rFn G f) (tAs G Wx (evEs call xs)) σ H Q := by
  obtain ⟨ρ, τ, S, env, sm, h⟩ := h
  exact tG.imp (tG.go env sm h) fun v H1 ⟨ρ1, S1, x, ex, env1, sm1, r1, h1⟩ => ⟨ρ1, S1, x, sm1, r1, h1.po⟩
/-- the promise of a def by the evaluator's call -/
def spF (G : Gk) (call : Nat → List W → Sto → R W) (i n : Nat) : Sp := fun vs H Q E => vs.length = n ∧ ∃ ρ S ws, Sim G.K ρ S H ∧ RWs G.K H ρ ws vs ∧ Post G (fun c d _ H' => E c d H') [] ρ H (relW G) (call i ws S) Q
theorem call_ok {f n : Nat} {xs : Ex} {σ : St} {H : Hp} {Q : VK} (hn : ∀ vs : List V, ∀ H ρ ws, RWs G.K H ρ ws vs → ∀ S, (∃ w S', call f ws S = .ok w S') ∨ (∃ x S', call f ws S = .exc x S') → vs.length = n) (h : tE G Wx (evE call (.call f xs)) σ H Q) :
    tCallG (spF G call f n) (fun σ c d H' => Wx c d σ H') (tAs G Wx (evEs call xs)) σ H Q := by
  obtain ⟨ρ, τ, S, env, sm, h⟩ := h
  unfold evE at h
  refine tG.imp (tG.go env sm h) fun vs H1 ⟨ρ1, S1, ws, ex, env1, sm1, r1, h1⟩ => ⟨?_, ρ1, S1, ws, sm1, r1, ?_⟩
  · refine hn vs H1 ρ1 ws r1 S1 ?_
    cases e : call f ws S1 with
    | ok w S' => exact .inl ⟨_, _, rfl⟩
    | exc x S' => exact .inr ⟨_, _, rfl⟩
    | bad => rw [e] at h1; exact h1.elim
  · cases e : call f ws S1 with
    | ok w S' => rw [e] at h1; exact h1
    | exc x S' => rw [e] at h1; exact h1
    | bad => rw [e] at h1; exact h1
end
end Pv
end

section
set_option maxRecDepth 10000
set_option maxHeartbeats 4000000
namespace Pv
open PySem PySem.Spec L2
open PyProof.Rows hiding St

section
variable {X : Cx} {G : Gk} {Wx : WX} {call : Nat → List W → Sto → R W} {a b c : Expr} {xa xb xc : Ex} {pos : Pos}
/-! ### slices -/
theorem PO'.imp {o : Option Expr} {t t' : TO} (h : L2.PO X o t) (i : ∀ σ H Q, t' σ H Q → t σ H Q) : L2.PO X o t' := ⟨fun pins s σ H Q I q => h.run pins s σ H Q I (i _ _ _ q)⟩
def relI : Hp → Pl → Option Int → Option Int → Prop := fun _ _ a b => a = b
abbrev tP (G : Gk) (Wx : WX) (m : Tau → Sto → R (Option Int)) : TO := tG G Wx relI m
theorem s_pn : L2.PO X none (tP G Wx (evP call .nl)) := by
  refine PO'.imp po_none fun σ H Q h => ?_
  obtain ⟨ρ, τ, S, env, sm, h⟩ := h
  unfold evP at h
  exact h.done sm rfl
theorem s_ps {r : Ex} (ha : PE X a (tE G Wx (evE call xa))) : L2.PO X (some a) (tP G Wx (evP call (.cs xa r))) := by
  refine PO'.imp (po_some ha) fun σ H Q h => ?_
  obtain ⟨ρ, τ, S, env, sm, h⟩ := h
  unfold evP at h
  refine tG.imp (tG.go env sm h) fun v H1 ⟨ρ1, S1, x, ex, env1, sm1, r1, h1⟩ => ?_
  split at h1
  · cases r1
    exact ⟨_, rfl, h1.done sm1 rfl⟩
  · exact h1.elim
theorem s_sl {lo hi : Option Expr} {p2 : Pos} (hr : SlR X (rSl G)) (ha : PE X a (tE G Wx (evE call xa))) (hb : L2.PO X lo (tP G Wx (evP call xb))) (hc : L2.PO X hi (tP G Wx (evP call xc))) :
    PE X (.Subscript a (.Slice lo hi none p2) pos) (tE G Wx (evE call (.sl xa xb xc))) := by
  refine PE.imp (pe_slice hr ha hb hc) fun σ H Q h => ?_
  obtain ⟨ρ, τ, S, env, sm, h⟩ := h
  unfold evE at h
  refine tG.imp (tG.go env sm h) fun v H1 ⟨ρ1, S1, x, ex, env1, sm1, r1, h1⟩ => ?_
  refine tG.imp (tG.go env1 sm1 h1) fun l H2 ⟨ρ2, S2, l', ex2, env2, sm2, r2, h2⟩ => ?_
  refine tG.imp (tG.go env2 sm2 h2) fun u H3 ⟨ρ3, S3, u', ex3, env3, sm3, r3, h3⟩ => ?_
  have e1 : l' = l := r2
  have e2 : u' = u := r3
  subst e1; subst e2
  exact ⟨ρ3, S3, x, sm3, RW.ext (ex2.trans ex3) r1, h3.po⟩
/-! ### and, or as values -/
theorem s_an1 (ha : PE X a (tE G Wx (evE call xa))) : PE X (.BoolOp .And [a] pos) (tE G Wx (evAn call (.cs xa .nl))) := by
  refine PE.imp (pe_one ha) fun σ H Q h => ?_
  obtain ⟨ρ, τ, S, env, sm, h⟩ := h
  unfold evAn at h
  exact ⟨ρ, τ, S, env, sm, h⟩
theorem s_or1 (ha : PE X a (tE G Wx (evE call xa))) : PE X (.BoolOp .Or [a] pos) (tE G Wx (evOr call (.cs xa .nl))) := by
  refine PE.imp (pe_one ha) fun σ H Q h => ?_
  obtain ⟨ρ, τ, S, env, sm, h⟩ := h
  unfold evOr at h
  exact ⟨ρ, τ, S, env, sm, h⟩
theorem s_an2 {es : List Expr} {r : Ex} (ha : PE X a (tE G Wx (evE call xa))) (hb : PE X (.BoolOp .And (b :: es) pos) (tE G Wx (evAn call (.cs xb r)))) : PE X (.BoolOp .And (a :: b :: es) pos) (tE G Wx (evAn call (.cs xa (.cs xb r)))) := by
  refine PE.imp (pe_and ha hb) fun σ H Q h => ?_
  obtain ⟨ρ, τ, S, env, sm, h⟩ := h
  unfold evAn at h
  refine tG.imp (tG.go env sm h) fun v H1 ⟨ρ1, S1, x, ex, env1, sm1, r1, h1⟩ => ?_
  cases e2 : bl? x with
  | none => rw [e2] at h1; exact h1.elim
  | some t =>
    rw [e2] at h1
    refine ⟨t, bl_rep r1 e2, ?_⟩
    have h2 : Post G Wx σ ρ1 H1 (relW G) (if t = true then evAn call (.cs xb r) τ S1 else .ok (.p (.bool false)) S1) Q := h1
    cases t with
    | true => rw [if_pos rfl] at h2 ⊢; exact ⟨ρ1, τ, S1, env1, sm1, h2⟩
    | false => rw [if_neg Bool.false_ne_true] at h2 ⊢; exact h2.done sm1 (.bl _)
theorem s_or2 {es : List Expr} {r : Ex} (ha : PE X a (tE G Wx (evE call xa))) (hb : PE X (.BoolOp .Or (b :: es) pos) (tE G Wx (evOr call (.cs xb r)))) : PE X (.BoolOp .Or (a :: b :: es) pos) (tE G Wx (evOr call (.cs xa (.cs xb r)))) := by
  refine PE.imp (pe_or ha hb) fun σ H Q h => ?_
  obtain ⟨ρ, τ, S, env, sm, h⟩ := h
  unfold evOr at h
  refine tG.imp (tG.go env sm h) fun v H1 ⟨ρ1, S1, x, ex, env1, sm1, r1, h1⟩ => ?_
  cases e2 : bl? x with
  | none => rw [e2] at h1; exact h1.elim
  | some t =>
    rw [e2] at h1
    refine ⟨t, bl_rep r1 e2, ?_⟩
    have h2 : Post G Wx σ ρ1 H1 (relW G) (if t = true then .ok (.p (.bool true)) S1 else evOr call (.cs xb r) τ S1) Q := h1
    cases t with
    | true => rw [if_pos rfl] at h2 ⊢; exact h2.done sm1 (.bl _)
    | false => rw [if_neg Bool.false_ne_true] at h2 ⊢; exact ⟨ρ1, τ, S1, env1, sm1, h2⟩
/-! ### tests -/
theorem tru_rep {K : PySem.W.Frag} {H : Hp} {ρ : Pl} {S : Sto} {w : W} {v : V} {t : Bool} (sm : Sim K ρ S H) (r : RW K H ρ w v) (e : tru S w = some t) : TruV K v H t := by
  cases w with
  | p d =>
    cases r with
    | non => cases e; rfl
    | bl b => cases e; rfl
    | int i => cases e; rfl
    | str x =>
      simp only [tru] at e
      split at e
      · rename_i hl
        cases e
        exact ⟨lim_le hl, rfl⟩
      · cases e
    | lst h n t' =>
      cases e
      refine .inl ⟨_, .of h, ?_⟩
      cases t' <;> rfl
    | tup h t' =>
      cases e
      refine .inr (.inl ⟨_, h.sq, ?_⟩)
      cases t' <;> rfl
    | dic _ _ _ => cases e
  | s ns => cases e
  | r n =>
    obtain ⟨a, ha, rfl⟩ := r
    unfold tru at e
    cases q : S[n]? with
    | none => simp [q] at e
    | some o =>
      obtain ⟨ws⟩ := o
      simp only [q, Option.some.injEq] at e
      obtain ⟨a', xs, h1, h2, h3⟩ := sm.at_ n ws q
      rw [ha] at h1; cases h1
      subst e
      refine .inl ⟨xs, .of h2, ?_⟩
      cases h3 <;> rfl
theorem tt_go {σ : St} {H : Hp} {Q : Bool → Hp → Prop} {e : Ex} (hK : X.K = G.K) (h : tTs G Wx (evT call (.tt e)) σ H Q) : tE G Wx (evE call e) σ H fun v H' => ∃ k, TruV X.K v H' k ∧ Q k H' := by
  obtain ⟨ρ, τ, S, env, sm, h⟩ := h
  unfold evT at h
  refine tG.imp (tG.go env sm h) fun v H1 ⟨ρ1, S1, x, ex, env1, sm1, r1, h1⟩ => ?_
  cases e2 : tru S1 x with
  | none => rw [e2] at h1; exact h1.elim
  | some t =>
    rw [e2] at h1
    exact ⟨t, hK ▸ tru_rep sm1 r1 e2, Post.done (show Post G Wx σ ρ1 H1 relB (.ok t S1) Q from h1) sm1 rfl⟩
theorem st_tt (hK : X.K = G.K) (ha : PE X a (tE G Wx (evE call xa))) (he : ∀ whole, isTrue a X.env whole = (do let v ← whole; standAt a.pos; holding [v] (truthy v))) : PT X a (tTs G Wx (evT call (.tt xa))) :=
  PT.imp (pt_truth ha he) fun σ H Q h => tt_go hK h
theorem Post.test {σ : St} {ρ : Pl} {H : Hp} {Q : Bool → Hp → Prop} {r : R W} (hb : ∀ w S, r = .ok w S → ∃ t, w = .p (.bool t)) (h : Post G Wx σ ρ H relB (r.bind fun x S => ofB (tru S x) S) Q) : Post G Wx σ ρ H (relW G) r fun v H' => ∃ k, v = .bl k ∧ Q k H' := by
  cases r with
  | bad => exact h
  | exc x S => exact h
  | ok w S =>
    obtain ⟨t, rfl⟩ := hb w S rfl
    intro v H1 ρ1 ex sm1 r1
    cases r1
    exact ⟨t, rfl, h t H1 ρ1 ex sm1 rfl⟩
theorem bind_bl {α : Type} {r : R α} {f : α → Sto → R W} (hf : ∀ a S w S', f a S = .ok w S' → ∃ t, w = .p (.bool t)) : ∀ w S, r.bind f = .ok w S → ∃ t, w = .p (.bool t) := by
  intro w S h
  cases r with
  | ok a S1 => exact hf _ _ _ _ h
  | exc x S1 => cases h
  | bad => cases h
theorem cmp_bl : ∀ (o : CmpOp) (S : Sto) (x y w : W) (S' : Sto), cmpF o S x y = some (w, S') → ∃ t, w = .p (.bool t) := by
  intro o S x y w S' h
  cases o <;> simp only [cmpF, fEq, fNe, fOrd, fIn, fIsN, b2] at h <;> (repeat' (split at h)) <;> first | (cases h; exact ⟨_, rfl⟩) | cases h
theorem cmp_ofO {o : CmpOp} {S : Sto} {x y w : W} {S' : Sto} (h : ofO (cmpF o S x y) = .ok w S') : ∃ t, w = .p (.bool t) := by
  cases e : cmpF o S x y with
  | none => rw [e] at h; cases h
  | some p =>
    obtain ⟨w', S2⟩ := p
    rw [e] at h
    cases h
    exact cmp_bl _ _ _ _ _ _ e
theorem st_cmp {o : CmpOp} (ho : OpR X (compareOp o) (rF2 G (cmpF o))) (ha : PE X a (tE G Wx (evE call xa))) (hb : PE X b (tE G Wx (evE call xb))) (hm : behindInMarks o b = false) :
    PT X (.Compare a [o] [b] pos) (tTs G Wx (evT call (.tt (.cmp o xa xb)))) := by
  refine PT.imp (pt_cmpR ho ha hb hm) fun σ H Q h => op2_ok ?_
  obtain ⟨ρ, τ, S, env, sm, h⟩ := h
  unfold evT at h
  have := h.test fun w S1 e => by
    rw [evE] at e
    exact bind_bl (fun _ _ => bind_bl fun _ _ _ _ e => cmp_ofO e) w S1 e
  rw [evE] at this
  exact ⟨ρ, τ, S, env, sm, this⟩
theorem st_chain {o o' : CmpOp} (ho : OpR X (compareOp o) (rF2 G (cmpF o))) (ho' : OpR X (compareOp o') (rF2 G (cmpF o'))) (ha : PE X a (tE G Wx (evE call xa))) (hb : PE X b (tE G Wx (evE call xb))) (hc : PE X c (tE G Wx (evE call xc)))
    (hm : lastMarks [o, o'] [b, c] = false) : PT X (.Compare a [o, o'] [b, c] pos) (tTs G Wx (evT call (.tt (.chain o o' xa xb xc)))) := by
  refine PT.imp (pt_chain ho ho' ha hb hc hm) fun σ H Q h => ?_
  obtain ⟨ρ, τ, S, env, sm, h⟩ := h
  unfold evT at h
  have := h.test fun w S1 e => by
    rw [evE] at e
    refine bind_bl (fun _ _ => bind_bl fun _ _ => bind_bl fun _ _ => bind_bl fun t S2 w2 S3 e => ?_) w S1 e
    cases t with
    | true =>
      rw [if_pos rfl] at e
      exact bind_bl (fun _ _ _ _ e => cmp_ofO e) _ _ e
    | false =>
      rw [if_neg Bool.false_ne_true] at e
      cases e
      exact ⟨_, rfl⟩
  exact chain_ok ⟨ρ, τ, S, env, sm, this⟩
theorem st_an1 (ha : PT X a (tTs G Wx (evT call xa))) : PW X (.BoolOp .And [a] pos) (tTs G Wx (evTa call (.cs xa .nl))) := by
  refine PW.imp (pw_and1 ha) fun σ H Q h => ?_
  obtain ⟨ρ, τ, S, env, sm, h⟩ := h
  unfold evTa at h
  exact ⟨ρ, τ, S, env, sm, h⟩
theorem st_or1 (ha : PT X a (tTs G Wx (evT call xa))) : PW X (.BoolOp .Or [a] pos) (tTs G Wx (evTo call (.cs xa .nl))) := by
  refine PW.imp (pw_or1 ha) fun σ H Q h => ?_
  obtain ⟨ρ, τ, S, env, sm, h⟩ := h
  unfold evTo at h
  exact ⟨ρ, τ, S, env, sm, h⟩
theorem st_an2 {es : List Expr} {r : Ex} (ha : PT X a (tTs G Wx (evT call xa))) (hb : PW X (.BoolOp .And (b :: es) pos) (tTs G Wx (evTa call (.cs xb r)))) : PW X (.BoolOp .And (a :: b :: es) pos) (tTs G Wx (evTa call (.cs xa (.cs xb r)))) := by
  refine PW.imp (pw_and ha hb) fun σ H Q h => ?_
  obtain ⟨ρ, τ, S, env, sm, h⟩ := h
  unfold evTa at h
  refine tG.imp (tG.go env sm h) fun t H1 ⟨ρ1, S1, x, ex, env1, sm1, r1, h1⟩ => ?_
  have : x = t := r1
  subst this
  cases x with
  | true => rw [if_pos rfl] at h1 ⊢; exact ⟨ρ1, τ, S1, env1, sm1, h1⟩
  | false => rw [if_neg Bool.false_ne_true] at h1 ⊢; exact h1.done sm1 rfl
theorem st_or2 {es : List Expr} {r : Ex} (ha : PT X a (tTs G Wx (evT call xa))) (hb : PW X (.BoolOp .Or (b :: es) pos) (tTs G Wx (evTo call (.cs xb r)))) : PW X (.BoolOp .Or (a :: b :: es) pos) (tTs G Wx (evTo call (.cs xa (.cs xb r)))) := by
  refine PW.imp (pw_or ha hb) fun σ H Q h => ?_
  obtain ⟨ρ, τ, S, env, sm, h⟩ := h
  unfold evTo at h
  refine tG.imp (tG.go env sm h) fun t H1 ⟨ρ1, S1, x, ex, env1, sm1, r1, h1⟩ => ?_
  have : x = t := r1
  subst this
  cases x with
  | true => rw [if_pos rfl] at h1 ⊢; exact h1.done sm1 rfl
  | false => rw [if_neg Bool.false_ne_true] at h1 ⊢; exact ⟨ρ1, τ, S1, env1, sm1, h1⟩
theorem st_no (ha : PT X a (tTs G Wx (evT call xa))) : PT X (.UnaryOp .Not a pos) (tTs G Wx (evT call (.no xa))) := by
  refine PT.imp (pt_not ha) fun σ H Q h => ?_
  obtain ⟨ρ, τ, S, env, sm, h⟩ := h
  unfold evT at h
  refine tG.imp (tG.go env sm h) fun t H1 ⟨ρ1, S1, x, ex, env1, sm1, r1, h1⟩ => ?_
  have : x = t := r1
  subst this
  exact h1.done sm1 rfl
/-! ### isinstance -/
def kdN : Kd → String
  | .bl => "bool" | .int => "int" | .str => "str" | .lst => "list" | .tup => "tuple" | .dic => "dict"
theorem kit_all : ∀ (k T : Kd), kitB (kdN k) (kdN T) = some (k == T || (k == .bl && T == .int)) := by
  intro k T; cases k <;> cases T <;> decide +kernel
theorem kit_non : ∀ T : Kd, kitB "NoneType" (kdN T) = some false := by
  intro T; cases T <;> decide +kernel
theorem isi_rep {K : PySem.W.Frag} {H : Hp} {ρ : Pl} {S : Sto} {w : W} {v : V} (sm : Sim K ρ S H) (r : RW K H ρ w v) (T : Kd) : ∃ t : Value, TyX K H v t ∧ PySem.W.kitOne K t (.type (kdN T)) = some (isiB w T) := by
  have go : ∀ k : Kd, kdOf w = some k → TyX K H v (.type (kdN k)) → ∃ t : Value, TyX K H v t ∧ PySem.W.kitOne K t (.type (kdN T)) = some (isiB w T) := fun k e h => ⟨_, h, by
    have := kit_ty (K := K) (kit_all k T)
    unfold isiB
    rw [e]
    exact this⟩
  cases w with
  | p d =>
    cases r with
    | non => exact ⟨_, .base .non, by have := kit_ty (K := K) (kit_non T); exact this⟩
    | bl b => exact go .bl rfl (.base (.bl b))
    | int i => exact go .int rfl (.base (.int i))
    | str x => exact go .str rfl (.base (.str x))
    | lst h n t => exact go .lst rfl (.base (.lst h))
    | tup h t =>
      refine go .tup rfl ?_
      rcases h with ⟨h | ⟨o, h⟩, _⟩ | (⟨h | ⟨o, h⟩⟩ | ⟨o, its, n, h1, h2, _⟩)
      · exact .base (.tup h)
      · exact .fTuple h
      · cases h
      · cases h
      · exact .kTuple h1 h2
    | dic h n t => exact go .dic rfl (.base (.dK h))
  | s ns =>
    obtain ⟨a, rfl, h⟩ := r
    refine go .lst rfl ?_
    rcases h with ⟨h | ⟨o, h⟩, _⟩ | (⟨h | ⟨o, h⟩⟩ | ⟨o, its, n, h1, h2, _⟩)
    · exact .base (.lst h)
    · exact .base (.frz h)
    · cases h
    · cases h
    · exact .kList h1 h2
  | r n =>
    obtain ⟨a, ha, rfl⟩ := r
    refine go .lst rfl ?_
    have hn : n < S.length := by rw [← sm.len]; exact (List.getElem?_eq_some_iff.mp ha).1
    cases q : S[n]? with
    | none => exact absurd (List.getElem?_eq_none_iff.mp q) (by omega)
    | some o =>
      obtain ⟨ws⟩ := o
      obtain ⟨a', xs, h1, h2, h3⟩ := sm.at_ n ws q
      rw [ha] at h1; cases h1
      exact .base (.lst h2)
theorem s_isi {T : Kd} {x y : Str} {p p' : Pos} (hK : X.K = G.K) (hgx : Gl X x) (hmx : X.mg x = none) (hvx : bootBuiltins x = some (.builtin "isinstance")) (hgy : Gl X y) (hmy : X.mg y = none) (hvy : bootBuiltins y = some (.type (kdN T)))
    (hnx : x ≠ "__name__") (hdx : (x == ("__debug__" : Str)) = false) (hny : y ≠ "__name__") (hdy : (y == ("__debug__" : Str)) = false)
    (ha : PE X a (tE G Wx (evE call xa))) (hs : starEach [a, .Name y p'] X.env = (false, eval a X.env) :: starEach [.Name y p'] X.env) :
    PE X (.Call (.Name x p) [a, .Name y p'] [] pos) (tE G Wx (evE call (.isi xa T))) := by
  have hT : PE X (.Name y p') (tC (.ty (kdN T))) := pe_bltn hgy hmy hvy rfl hny hdy
  refine PE.imp (pe_callB (call_isi (X := X)) hgx hmx hvx (pa_cons ha (pa_cons hT pa_nil rfl) hs) hnx hdx hs rfl) fun σ H Q h => ?_
  obtain ⟨ρ, τ, S, env, sm, h⟩ := h
  unfold evE at h
  refine tG.imp (tG.go env sm h) fun v H1 ⟨ρ1, S1, x, ex, env1, sm1, r1, h1⟩ => ?_
  obtain ⟨t, ht, hk⟩ := isi_rep sm1 r1 T
  exact ⟨v, _, t, _, _, rfl, .ty _, by rw [hK]; exact ht, by rw [hK]; exact hk, h1.done sm1 (.bl _)⟩
/-! ### builtins and methods -/
theorem s_biB {bi : BI} {x : Str} {id : String} {p : Pos} {e : Expr} {es : List Expr} {xs : Ex} (hc : CallR X (.builtin id) (rFn G (biF bi))) (hg : Gl X x) (hm : X.mg x = none) (hv : bootBuiltins x = some (.builtin id)) (hn : x ≠ "__name__") (hd : (x == ("__debug__" : Str)) = false)
    (ha : PA X (e :: es) (tAs G Wx (evEs call xs))) (hs : starEach (e :: es) X.env = (false, eval e X.env) :: starEach es X.env) (hpl : (backTo pos (starEach es X.env)).any (·.1) = false) : PE X (.Call (.Name x p) (e :: es) [] pos) (tE G Wx (evE call (.bi bi xs))) := by
  refine PE.imp (pe_callB hc hg hm hv ha hn hd hs hpl) fun σ H Q h => fn_ok ?_
  obtain ⟨ρ, τ, S, env, sm, h⟩ := h
  unfold evE at h
  exact ⟨ρ, τ, S, env, sm, h⟩
theorem s_biT {bi : BI} {x : Str} {id : String} {p : Pos} {e : Expr} {es : List Expr} {xs : Ex} (hc : CallR X (.type id) (rFn G (biF bi))) (hg : Gl X x) (hm : X.mg x = none) (hv : bootBuiltins x = some (.type id)) (hn : x ≠ "__name__") (hd : (x == ("__debug__" : Str)) = false)
    (ha : PA X (e :: es) (tAs G Wx (evEs call xs))) (hs : starEach (e :: es) X.env = (false, eval e X.env) :: starEach es X.env) (hpl : (backTo pos (starEach es X.env)).any (·.1) = false) : PE X (.Call (.Name x p) (e :: es) [] pos) (tE G Wx (evE call (.bi bi xs))) := by
  refine PE.imp (pe_callTy hc hg hm hv ha hn hd hs hpl) fun σ H Q h => fn_ok ?_
  obtain ⟨ρ, τ, S, env, sm, h⟩ := h
  unfold evE at h
  exact ⟨ρ, τ, S, env, sm, h⟩
theorem meOk_rep {K : PySem.W.Frag} {H : Hp} {ρ : Pl} {S : Sto} {w : W} {v : V} {m : MI} (sm : Sim K ρ S H) (r : RW K H ρ w v) (e : meOk m S w = true) : tyV K "list" v H := by
  cases w with
  | r n =>
    obtain ⟨a, ha, rfl⟩ := r
    simp only [meOk] at e
    cases q : S[n]? with
    | none => rw [q] at e; cases e
    | some o =>
      obtain ⟨ws⟩ := o
      obtain ⟨a', xs, h1, h2, h3⟩ := sm.at_ n ws q
      rw [ha] at h1; cases h1
      exact .inl ⟨rfl, xs, .of h2⟩
  | p d => cases e
  | s ns => cases e
theorem s_me {m : MI} {name : Str} {id : String} {apos : Pos} {e : Expr} {xs : Ex} (hK : X.K = G.K) (slot : Slot "list" name id) (hty : typeOf (.builtin id) = pure (.type "method_descriptor")) (hm : MtR X id (rFm G (meF m)))
    (ha : PE X a (tE G Wx (evE call xa))) (hb : PA X [e] (tAs G Wx (evEs call xs))) (hbase : attributeBase a name X.env (eval a X.env) = eval a X.env) (hline : (apos.endLine == pos.line) = true)
    (hs : starEach [e] X.env = (false, eval e X.env) :: starEach [] X.env) : PE X (.Call (.Attribute a name apos) [e] [] pos) (tE G Wx (evE call (.me m xa xs))) := by
  refine PE.imp (pe_bm PySem.F.plainAttrs_list slot hty hm ha hb hbase (by rw [hs]; rfl) hline hs rfl) fun σ H Q h => ?_
  obtain ⟨ρ, τ, S, env, sm, h⟩ := h
  unfold evE at h
  refine tG.imp (tG.go env sm h) fun v H1 ⟨ρ1, S1, x, ex, env1, sm1, r1, h1⟩ => ?_
  split at h1
  · rename_i ht
    refine ⟨hK ▸ meOk_rep sm1 r1 ht, tG.imp (tG.go env1 sm1 h1) fun vs H2 ⟨ρ2, S2, ys, ex2, env2, sm2, r2, h2⟩ => ?_⟩
    exact ⟨ρ2, S2, x, ys, sm2, RW.ext ex2 r1, r2, h2.po⟩
  · exact h1.elim
theorem s_me0 {m : MI} {name : Str} {id : String} {apos : Pos} (hK : X.K = G.K) (slot : Slot "list" name id) (hty : typeOf (.builtin id) = pure (.type "method_descriptor")) (hm : MtR X id (rFm G (meF m)))
    (ha : PE X a (tE G Wx (evE call xa))) (hbase : attributeBase a name X.env (eval a X.env) = eval a X.env) (hline : (apos.endLine == pos.line) = true) : PE X (.Call (.Attribute a name apos) [] [] pos) (tE G Wx (evE call (.me m xa .nl))) := by
  refine PE.imp (pe_bm0 PySem.F.plainAttrs_list slot hty hm ha hbase hline) fun σ H Q h => ?_
  obtain ⟨ρ, τ, S, env, sm, h⟩ := h
  unfold evE at h
  refine tG.imp (tG.go env sm h) fun v H1 ⟨ρ1, S1, x, ex, env1, sm1, r1, h1⟩ => ?_
  split at h1
  · rename_i ht
    refine ⟨hK ▸ meOk_rep sm1 r1 ht, ?_⟩
    unfold evEs at h1
    exact ⟨ρ1, S1, x, [], sm1, r1, .nil, Post.po (show Post G Wx σ ρ1 H1 (relW G) (ofO (meF m S1 x [])) Q from h1)⟩
  · exact h1.elim
end
end Pv
end

section
set_option maxRecDepth 10000
set_option maxHeartbeats 4000000
namespace Pv
open PySem PySem.Spec L2
open PyProof.Rows hiding St

/-! ## targets -/
def slots : Tg → List Nat
  | .n i => [i]
  | .nl => []
  | .cs a r => slots a ++ slots r
/-- σ' is σ but at some slots -/
def OffS (is : List Nat) (σ σ' : St) : Prop := σ'.length = σ.length ∧ ∀ j, j ∉ is → σ'[j]? = σ[j]?
theorem OffS.refl {is : List Nat} {σ : St} : OffS is σ σ := ⟨rfl, fun _ _ => rfl⟩
theorem OffS.trans {a b : List Nat} {σ σ1 σ2 : St} (h : OffS a σ σ1) (g : OffS b σ1 σ2) : OffS (a ++ b) σ σ2 :=
  ⟨g.1.trans h.1, fun j hj => by
    simp only [List.mem_append, not_or] at hj
    exact (g.2 j hj.2).trans (h.2 j hj.1)⟩
theorem wipe_off {is vs : List Nat} {σ σ' : St} (h : OffS is σ σ') (hs : ∀ i, i ∈ is → i ∈ vs) : wipe σ' vs = wipe σ vs := by
  apply List.ext_getElem?
  intro j
  by_cases hj : j ∈ vs
  · have : ∀ (s : St) (l : List Nat), j ∈ l → (wipe s l)[j]? = if j < s.length then some none else none := by
      intro s l
      induction l with
      | nil => intro h; cases h
      | cons v l ih =>
        intro hm
        unfold wipe
        by_cases hv : v = j
        · subst hv
          by_cases hl : v < s.length
          · rw [List.getElem?_set_self (by rw [wipe_length]; exact hl), if_pos hl]
          · rw [List.getElem?_eq_none (by rw [List.length_set, wipe_length]; omega), if_neg hl]
        · rw [List.getElem?_set_ne hv]
          exact ih (by rcases List.mem_cons.mp hm with e | e; exact absurd e.symm hv; exact e)
    rw [this σ' vs hj, this σ vs hj, h.1]
  · rw [wipe_out hj, wipe_out hj, h.2 j fun z => hj (hs j z)]
section
variable (G : Gk)
def tGW (t : Tg) : TG := fun v σ H Q => ∃ ρ τ S w τ', EnvR G.K H ρ τ σ ∧ Sim G.K ρ S H ∧ RW G.K H ρ w v ∧ asgT S t w τ = some τ' ∧ ∀ σ', EnvR G.K H ρ τ' σ' → OffS (slots t) σ σ' → Q σ' H
def tGWs (t : Tg) : TGs := fun vs σ H Q => ∃ ρ τ S ws τ', EnvR G.K H ρ τ σ ∧ Sim G.K ρ S H ∧ RWs G.K H ρ ws vs ∧ asgT.asgTs S t ws τ = some τ' ∧ ∀ σ', EnvR G.K H ρ τ' σ' → OffS (slots t) σ σ' → Q σ' H
end
theorem PG.imp {X : Cx} {e : Expr} {t t' : TG} (h : PG X e t) (i : ∀ v σ H Q, t' v σ H Q → t v σ H Q) : PG X e t' := ⟨fun pins s σ H v u Q I r q => h.run pins s σ H v u Q I r (i _ _ _ _ q)⟩
theorem PGs.imp {X : Cx} {e : List Expr} {t t' : TGs} (h : PGs X e t) (i : ∀ v σ H Q, t' v σ H Q → t v σ H Q) : PGs X e t' := ⟨fun pins s σ H v u Q I r q => h.run pins s σ H v u Q I r (i _ _ _ _ q)⟩
theorem PG.or {X : Cx} {e : Expr} {t t' : TG} (h : PG X e t) (h' : PG X e t') : PG X e (fun v σ H Q => t v σ H Q ∨ t' v σ H Q) := ⟨fun pins s σ H v u Q I r q => q.elim (h.run pins s σ H v u Q I r) (h'.run pins s σ H v u Q I r)⟩
theorem asgTs_len {S : Sto} : ∀ {t : Tg} {ws : List W} {τ τ' : Tau}, asgT.asgTs S t ws τ = some τ' → ∃ n, (∀ ws' τ1 τ2, asgT.asgTs S t ws' τ1 = some τ2 → ws'.length = n) ∧ ws.length = n := by
  intro t
  have len : ∀ (t : Tg) (ws : List W) (τ τ' : Tau) , asgT.asgTs S t ws τ = some τ' → ∀ ws' τ1 τ2, asgT.asgTs S t ws' τ1 = some τ2 → ws'.length = ws.length := by
    intro t
    induction t with
    | n i => intro ws τ τ' h; cases ws <;> simp [asgT.asgTs] at h
    | nl =>
      intro ws τ τ' h ws' τ1 τ2 h'
      cases ws <;> cases ws' <;> simp [asgT.asgTs] at h h' ⊢
    | cs a r iha ihr =>
      intro ws τ τ' h ws' τ1 τ2 h'
      cases ws with
      | nil => simp [asgT.asgTs] at h
      | cons w ws =>
        cases ws' with
        | nil => simp [asgT.asgTs] at h'
        | cons w' ws' =>
          unfold asgT.asgTs at h h'
          split at h
          · split at h'
            · have := ihr _ _ _ h _ _ _ h'
              simp [this]
            · cases h'
          · cases h
  intro ws τ τ' h
  exact ⟨ws.length, fun ws' τ1 τ2 h' => len t ws τ τ' h ws' τ1 τ2 h', rfl⟩
section
variable {X : Cx} {G : Gk} {pos : Pos}
theorem g_n {i : Nat} {x : Str} (hN : X.N.Nodup) (hi : X.N[i]? = some x) (hx : Loc X.env.scope x) (hf : X.fn x = true ∨ X.env.scope.names.lookup x = some .local) : PG X (.Name x pos) (tGW G (.n i)) := by
  refine PG.imp (pg_name hN hi hx hf) fun v σ H Q h => ?_
  obtain ⟨ρ, τ, S, w, τ', env, sm, r, e, q⟩ := h
  unfold asgT at e
  cases e
  refine q _ (env.set r i) ⟨by simp, fun j hj => ?_⟩
  rw [List.getElem?_set_ne (fun e => hj (by simp [slots, e]))]
theorem gs_nil : PGs X [] (tGWs G .nl) := by
  refine PGs.imp pgs_nil fun vs σ H Q h => ?_
  obtain ⟨ρ, τ, S, ws, τ', env, sm, r, e, q⟩ := h
  cases ws with
  | nil =>
    cases r
    unfold asgT.asgTs at e
    cases e
    exact ⟨rfl, q σ env OffS.refl⟩
  | cons w ws => simp [asgT.asgTs] at e
theorem gs_cons {a : Expr} {es : List Expr} {ta tr : Tg} (h1 : PG X a (tGW G ta)) (h2 : PGs X es (tGWs G tr)) (hs : (assignEach (a :: es) X.env).map (·.2) = assign a X.env :: (assignEach es X.env).map (·.2)) : PGs X (a :: es) (tGWs G (.cs ta tr)) := by
  refine PGs.imp (pgs_cons h1 h2 hs) fun vs σ H Q h => ?_
  obtain ⟨ρ, τ, S, ws, τ', env, sm, r, e, q⟩ := h
  cases ws with
  | nil => simp [asgT.asgTs] at e
  | cons w ws =>
    cases r with
    | cons r1 r2 =>
      unfold asgT.asgTs at e
      split at e
      · rename_i τ1 e1
        refine ⟨_, _, rfl, ρ, τ, S, w, τ1, env, sm, r1, e1, fun σ1 env1 off1 => ?_⟩
        exact ⟨ρ, τ1, S, ws, τ', env1, sm, r2, e, fun σ2 env2 off2 => q σ2 env2 (off1.trans off2)⟩
      · cases e
/-- the number of a row's targets -/
def tgLen : Tg → Nat
  | .cs _ r => tgLen r + 1
  | _ => 0
theorem asgTs_n {S : Sto} : ∀ {t : Tg} {ws : List W} {τ τ' : Tau}, asgT.asgTs S t ws τ = some τ' → ws.length = tgLen t := by
  intro t
  induction t with
  | n i => intro ws τ τ' h; cases ws <;> simp [asgT.asgTs] at h
  | nl => intro ws τ τ' h; cases ws <;> simp [asgT.asgTs, tgLen] at h ⊢
  | cs a r iha ihr =>
    intro ws τ τ' h
    cases ws with
    | nil => simp [asgT.asgTs] at h
    | cons w ws =>
      unfold asgT.asgTs at h
      split at h
      · simp [tgLen, ihr h]
      · cases h
theorem g_row {es : List Expr} {k : Nat} {a r : Tg} (hK : X.K = G.K) (hc : X.calm = true) (h : PGs X es (tGWs G (.cs a r))) (hn : (assignEach es X.env).length = tgLen (.cs a r)) (hst : (assignEach es X.env).findIdx? (·.1) = none) : PG X (.Tuple es k pos) (tGW G (.cs a r)) := by
  refine PG.imp (PG.or (pg_tup hc h hn hst) (pg_lst hc h hn hst)) fun v σ H Q q => ?_
  obtain ⟨ρ, τ, S, w, τ', env, sm, rr, e, q⟩ := q
  unfold asgT at e
  split at e
  · rename_i b ws e2
    obtain ⟨ad, xs, rfl, hx, hq⟩ := items_rep sm rr e2
    have hl := asgTs_n e
    have hl2 := Paired.length hx
    rcases hq with ⟨_, hq⟩ | ⟨_, hq⟩
    · exact .inl ⟨ad, xs, rfl, by rw [hK]; exact hq, by omega, ρ, τ, S, ws, τ', env, sm, hx, e, q⟩
    · exact .inr ⟨ad, xs, rfl, by rw [hK]; exact hq, by omega, ρ, τ, S, ws, τ', env, sm, hx, e, q⟩
  · cases e
end
/-- a row lies so -/
def rowR (G : Gk) (H : Hp) (ρ : Pl) : Row → V → Prop
  | .one w, v => RW G.K H ρ w v
  | .two a b, v => ∃ T x y, v = .ref T ∧ H T = some (.tup [x, y]) ∧ RW G.K H ρ a x ∧ RW G.K H ρ b y
def tGR (G : Gk) (t : Tg) : TG := fun v σ H Q => ∃ ρ τ S row τ', EnvR G.K H ρ τ σ ∧ Sim G.K ρ S H ∧ rowR G H ρ row v ∧ asgR S t row τ = some τ' ∧ ∀ σ', EnvR G.K H ρ τ' σ' → OffS (slots t) σ σ' → Q σ' H
section
variable {X : Cx} {G : Gk} {pos : Pos}
theorem gr_n {i : Nat} {x : Str} (h : PG X (.Name x pos) (tGW G (.n i))) : PG X (.Name x pos) (tGR G (.n i)) := by
  refine PG.imp h fun v σ H Q q => ?_
  obtain ⟨ρ, τ, S, row, τ', env, sm, rr, e, q⟩ := q
  cases row with
  | one w => exact ⟨ρ, τ, S, w, τ', env, sm, rr, by unfold asgR at e; exact e, q⟩
  | two a b => simp [asgR] at e
theorem gr_row {es : List Expr} {k : Nat} {a r : Tg} (hK : X.K = G.K) (hc : X.calm = true) (h : PGs X es (tGWs G (.cs a r))) (hn : (assignEach es X.env).length = tgLen (.cs a r)) (hst : (assignEach es X.env).findIdx? (·.1) = none) : PG X (.Tuple es k pos) (tGR G (.cs a r)) := by
  refine PG.imp (PG.or (g_row hK hc h hn hst) (pg_tup hc h hn hst)) fun v σ H Q q => ?_
  obtain ⟨ρ, τ, S, row, τ', env, sm, rr, e, q⟩ := q
  cases row with
  | one w => exact .inl ⟨ρ, τ, S, w, τ', env, sm, rr, by unfold asgR at e; exact e, q⟩
  | two u w =>
    obtain ⟨T, x, y, rfl, hT, r1, r2⟩ := rr
    refine .inr ⟨T, [x, y], rfl, .of hT, ?_, ρ, τ, S, [u, w], τ', env, sm, .cons r1 (.cons r2 .nil), ?_, q⟩
    · unfold asgR at e
      split at e
      · simp_all
      · simp_all [tgLen]
      · simp_all
    · unfold asgR at e
      split at e
      · simp_all
      · rename_i a' b' x' y' τ0 h1 h2
        cases h1; cases h2
        split at e
        · rename_i τ1 e1
          simp only [asgT.asgTs, e1, e]
        · cases e
      · cases e
end
/-! ## what is walked -/
def Goes (G : Gk) (J : It) (rows : List Row) (ρ0 : Pl) (H0 : Hp) : Prop := ∀ ρ H S, Ext ρ0 H0 ρ H → Sim G.K ρ S H → ∀ i : Nat,
  (∀ row, rows[i]? = some row → J.go i H ∧ ∀ x H', J.yld i H x H' → Ext ρ H ρ H' ∧ Sim G.K ρ S H' ∧ rowR G H' ρ row x) ∧ (rows.length ≤ i → J.stop i H)
def relJ (G : Gk) : Hp → Pl → List Row → It → Prop := fun H ρ rows J => Goes G J rows ρ H
abbrev tI (G : Gk) (Wx : WX) (m : Tau → Sto → R (List Row)) : TI := tG G Wx (relJ G) m
theorem PI.imp {X : Cx} {tg it : Expr} {t t' : TI} (h : PI X tg it t) (i : ∀ σ H Q, t' σ H Q → t σ H Q) : PI X tg it t' := ⟨fun pins s σ H Q I q => h.run pins s σ H Q I (i _ _ _ q)⟩
theorem PI.or {X : Cx} {tg it : Expr} {t t' : TI} (h : PI X tg it t) (h' : PI X tg it t') : PI X tg it (fun σ H Q => t σ H Q ∨ t' σ H Q) := ⟨fun pins s σ H Q I q => q.elim (h.run pins s σ H Q I) (h'.run pins s σ H Q I)⟩
/-- a value that stands still -/
theorem still_rep {K : PySem.W.Frag} {H : Hp} {ρ : Pl} {S : Sto} {w : W} {v : V} {b : Bool} {ws : List W} (r : RW K H ρ w v) (e : items S w = some (b, ws)) (st : still w = true) :
    ∃ a, v = .ref a ∧ ∀ ρ' H', Ext ρ H ρ' H' → ∃ xs, RWs K H' ρ' ws xs ∧ ((b = true ∧ SqT K H' a xs) ∨ (b = false ∧ SqL K H' a xs)) := by
  cases w with
  | p d =>
    cases d with
    | list ds' => cases e; cases r with | lst h n t => exact ⟨_, rfl, fun ρ' H' ex => ⟨_, (t.rws).ext ex, .inr ⟨rfl, .of (ex.kept n h)⟩⟩⟩
    | tuple ds' => cases e; cases r with | tup h t => exact ⟨_, rfl, fun ρ' H' ex => ⟨_, (t.rws).ext ex, .inl ⟨rfl, (h.ext ex.kp).sq⟩⟩⟩
    | _ => cases e
  | s ns =>
    cases e
    obtain ⟨a, rfl, h⟩ := r
    exact ⟨a, rfl, fun ρ' H' ex => ⟨_, ints_rw, .inr ⟨rfl, (h.ext ex.kp).sq⟩⟩⟩
  | r n => cases st
theorem sub_of {K : PySem.W.Frag} {ρ : Pl} {S : Sto} {H : Hp} (s : Sim K ρ S H) : Ext ρ H ρ H := Ext.refl s.sub
section
variable {X : Cx} {G : Gk} {Wx : WX} {call : Nat → List W → Sto → R W} {a b tg : Expr} {xa xb : Ex} {pos p : Pos}
theorem i_seq (hK : X.K = G.K) (ha : PE X a (tE G Wx (evE call xa))) : PI X tg a (tI G Wx (evI call (.iSeq xa))) := by
  refine PI.imp (PI.or (pi_list ha) (pi_tup ha)) fun σ H Q h => ?_
  obtain ⟨ρ, τ, S, env, sm, h⟩ := h
  unfold evI at h
  have key : ∀ bb : Bool, (∀ x S1 b' ws, evE call xa τ S = .ok x S1 → items S1 x = some (b', ws) → b' = bb) → tE G Wx (evE call xa) σ H fun v H1 => ∃ ad, v = .ref ad ∧ ∃ J, ((bb = true ∧ (∃ xs, SqT G.K H1 ad xs) ∧ J = Itt G.K ad) ∨ (bb = false ∧ (∃ xs, SqL G.K H1 ad xs) ∧ J = Itl G.K ad)) ∧ Q J H1 := by
    intro bb hbb
    refine ⟨ρ, τ, S, env, sm, ?_⟩
    cases e1 : evE call xa τ S with
    | bad => rw [e1] at h; exact h
    | exc x S1 => rw [e1] at h; exact h
    | ok x S1 =>
      rw [e1] at h
      intro v H1 ρ1 ex sm1 r1
      have h1 : Post G Wx σ ρ H (relJ G) (match items S1 x with
        | some (_, ws) => if still x = true then .ok (ws.map .one) S1 else .bad
        | none => .bad) Q := h
      split at h1
      · rename_i b' ws e2
        split at h1
        · rename_i hst
          obtain ⟨ad, rfl, hh⟩ := still_rep r1 e2 hst
          have hb := hbb x S1 b' ws e1 e2
          subst hb
          obtain ⟨xs, _, hq⟩ := hh ρ1 H1 (sub_of sm1)
          refine ⟨ad, rfl, if b' = true then Itt G.K ad else Itl G.K ad, ?_, ?_⟩
          · rcases hq with ⟨e3, hq⟩ | ⟨e3, hq⟩
            · subst e3; exact .inl ⟨rfl, ⟨xs, hq⟩, if_pos rfl⟩
            · subst e3; exact .inr ⟨rfl, ⟨xs, hq⟩, if_neg Bool.false_ne_true⟩
          · refine h1 _ H1 ρ1 ex sm1 fun ρ2 H2 S2 ex2 sm2 i => ?_
            obtain ⟨ys, hy, hq2⟩ := hh ρ2 H2 ex2
            have hlen := Paired.length hy
            refine ⟨fun row hrow => ?_, fun hi => ?_⟩
            · rw [List.getElem?_map] at hrow
              cases hw : ws[i]? with
              | none => rw [hw] at hrow; cases hrow
              | some w =>
                rw [hw] at hrow
                cases hrow
                obtain ⟨y, hy1, hy2⟩ := paired_get hy hw
                rcases hq2 with ⟨e3, hq2⟩ | ⟨e3, hq2⟩
                · subst e3
                  rw [if_pos rfl]
                  refine ⟨⟨ys, y, hq2, hy1⟩, fun x' H' ⟨e4, f⟩ => ?_⟩
                  subst e4
                  have : x' = y := Option.some.inj ((f ys hq2).symm.trans hy1)
                  subst this
                  exact ⟨sub_of sm2, sm2, hy2⟩
                · subst e3
                  rw [if_neg Bool.false_ne_true]
                  refine ⟨⟨ys, y, hq2, hy1⟩, fun x' H' ⟨e4, f⟩ => ?_⟩
                  subst e4
                  have : x' = y := Option.some.inj ((f ys hq2).symm.trans hy1)
                  subst this
                  exact ⟨sub_of sm2, sm2, hy2⟩
            · rw [List.length_map] at hi
              rcases hq2 with ⟨e3, hq2⟩ | ⟨e3, hq2⟩
              · subst e3; rw [if_pos rfl]; exact ⟨ys, hq2, by omega⟩
              · subst e3; rw [if_neg Bool.false_ne_true]; exact ⟨ys, hq2, by omega⟩
        · exact h1.elim
      · exact h1.elim
  by_cases ht : ∃ x S1 ws, evE call xa τ S = .ok x S1 ∧ items S1 x = some (true, ws)
  · obtain ⟨x, S1, ws, e1, e2⟩ := ht
    refine .inr (tG.imp (key true fun x' S' b' ws' e3 e4 => ?_) fun v H1 ⟨ad, e, J, hj, q⟩ => ?_)
    · rw [e1] at e3; cases e3
      rw [e2] at e4; cases e4; rfl
    · rcases hj with ⟨_, hx, rfl⟩ | ⟨z, _⟩
      · exact ⟨ad, e, by rw [hK]; exact hx, by rw [hK]; exact q⟩
      · cases z
  · refine .inl (tG.imp (key false fun x' S' b' ws' e3 e4 => ?_) fun v H1 ⟨ad, e, J, hj, q⟩ => ?_)
    · cases b' with
      | false => rfl
      | true => exact absurd ⟨_, _, _, e3, e4⟩ ht
    · rcases hj with ⟨z, _⟩ | ⟨_, hx, rfl⟩
      · cases z
      · exact ⟨ad, e, by rw [hK]; exact hx, by rw [hK]; exact q⟩
theorem rng_goes {lo : Int} {n : Nat} {ρ : Pl} {H : Hp} : Goes G (Itr lo n) (rng lo n) ρ H := by
  intro ρ2 H2 S2 ex2 sm2 i
  refine ⟨fun row hrow => ?_, fun hi => ?_⟩
  · have hi : i < n := by
      have := (List.getElem?_eq_some_iff.mp hrow).1
      simpa [rng] using this
    have : row = .one (.p (.int (lo + i))) := by
      simp only [rng, List.getElem?_map, List.getElem?_range hi, Option.map_some, Option.some.injEq] at hrow
      exact hrow.symm
    subst this
    refine ⟨hi, fun x H' ⟨e, ex⟩ => ?_⟩
    subst e; subst ex
    exact ⟨sub_of sm2, sm2, .int _⟩
  · have : n ≤ i := by simpa [rng] using hi
    exact this
theorem i_rng (hg : Gl X "range") (hm : X.mg "range" = none) (ha : PA X [a] (tAs G Wx (evEs call (.cs xa .nl)))) (hs : starEach [a] X.env = [(false, eval a X.env)]) : PI X tg (.Call (.Name "range" p) [a] [] pos) (tI G Wx (evI call (.iRng xa))) := by
  refine PI.imp (pi_range1 hg hm ha hs) fun σ H Q h => ?_
  obtain ⟨ρ, τ, S, env, sm, h⟩ := h
  unfold evI at h
  refine ⟨ρ, τ, S, env, sm, ?_⟩
  unfold evEs
  cases e1 : evE call xa τ S with
  | bad => rw [e1] at h; exact h
  | exc x S1 => rw [e1] at h; exact h
  | ok x S1 =>
    rw [e1] at h
    show ∀ v H' ρ', _ → _ → _ → _
    intro vs H1 ρ1 ex sm1 r1
    have h1 := h
    dsimp only [R.bind] at h1
    split at h1
    · rename_i n
      obtain ⟨y, rfl, ry⟩ := rws1 (show RWs G.K H1 ρ1 [W.p (.int n)] vs from r1)
      cases ry
      split at h1
      · rename_i hl
        exact ⟨n, rfl, hl.2, hl.1, h1 _ H1 ρ1 ex sm1 rng_goes⟩
      · exact h1.elim
    · exact h1.elim
theorem i_rng2 (hg : Gl X "range") (hm : X.mg "range" = none) (ha : PA X [a, b] (tAs G Wx (evEs call (.cs xa (.cs xb .nl))))) (hs : starEach [a, b] X.env = [(false, eval a X.env), (false, eval b X.env)]) (hs2 : starEach [b] X.env = [(false, eval b X.env)]) :
    PI X tg (.Call (.Name "range" p) [a, b] [] pos) (tI G Wx (evI call (.iRng2 xa xb))) := by
  refine PI.imp (pi_range2 hg hm ha hs hs2) fun σ H Q h => ?_
  obtain ⟨ρ, τ, S, env, sm, h⟩ := h
  unfold evI at h
  refine ⟨ρ, τ, S, env, sm, ?_⟩
  simp only [evEs]
  cases e1 : evE call xa τ S with
  | bad => rw [e1] at h; exact h
  | exc x S1 => rw [e1] at h; exact h
  | ok x S1 =>
    rw [e1] at h
    simp only [R.bind] at h ⊢
    cases e2 : evE call xb τ S1 with
    | bad => rw [e2] at h; exact h
    | exc y S2 => rw [e2] at h; exact h
    | ok y S2 =>
      rw [e2] at h
      intro vs H1 ρ1 ex sm1 r1
      have h1 := h
      dsimp only [R.bind] at h1
      split at h1
      · rename_i m n
        obtain ⟨u, w, rfl, ru, rw'⟩ := rws2 (show RWs G.K H1 ρ1 [W.p (.int m), W.p (.int n)] vs from r1)
        cases ru; cases rw'
        split at h1
        · rename_i hl
          exact ⟨m, n, rfl, ⟨hl.2.2, hl.2.1, hl.1.2, hl.1.1⟩, h1 _ H1 ρ1 ex sm1 rng_goes⟩
        · exact h1.elim
      · exact h1.elim
end
end Pv
end

section
set_option maxRecDepth 10000
set_option maxHeartbeats 4000000
namespace Pv
open PySem PySem.Spec L2
open PyProof.Rows hiding St

/-! ## comprehensions -/
theorem EnvR.wipe {K : PySem.W.Frag} {H : Hp} {ρ : Pl} {τ : Tau} {σ : St} (h : EnvR K H ρ τ σ) (is : List Nat) : EnvR K H ρ (wipeT τ is) (L2.wipe σ is) := by
  induction is with
  | nil => exact h
  | cons i is ih =>
    refine ⟨by simp only [wipeT, L2.wipe, List.length_set]; exact ih.1, fun j w e => ?_⟩
    unfold wipeT at e
    unfold L2.wipe
    by_cases hij : i = j
    · subst hij
      by_cases hl : i < (wipeT τ is).length
      · rw [List.getElem?_set_self hl] at e; cases e
      · rw [List.getElem?_eq_none (by rw [List.length_set]; omega)] at e; cases e
    · rw [List.getElem?_set_ne hij] at e
      obtain ⟨v, a, b⟩ := ih.2 j w e
      exact ⟨v, by rw [List.getElem?_set_ne hij]; exact a, b⟩
theorem lcLoop_len {f : Row → Sto → R (Option W)} : ∀ {rows : List Row} {acc : List W} {S : Sto} {ws : List W} {S' : Sto}, lcLoop f rows acc S = .ok ws S' → acc.length ≤ ws.length
  | [], acc, S, ws, S', h => by unfold lcLoop at h; cases h; exact Nat.le_refl _
  | r :: rs, acc, S, ws, S', h => by
    unfold lcLoop at h
    split at h
    · have := lcLoop_len h
      simp at this
      omega
    · exact lcLoop_len h
    · cases h
theorem lcLoop_noexc {f : Row → Sto → R (Option W)} : ∀ {rows : List Row} {acc : List W} {S : Sto} {x : Xc} {S' : Sto}, lcLoop f rows acc S ≠ .exc x S'
  | [], acc, S, x, S', h => by unfold lcLoop at h; cases h
  | r :: rs, acc, S, x, S', h => by
    unfold lcLoop at h
    split at h
    · exact lcLoop_noexc h
    · exact lcLoop_noexc h
    · cases h
/-- a hidden object is changed -/
theorem Kp.hid {ρ : Pl} {H : Hp} {D : Addr} {o : HO} (hD : D ∈ ρ.φ) : Kp ρ H ρ (upd H D o) :=
  ⟨⟨[], by simp⟩, fun {a u} ha hu => by rw [upd_ne (fun e : a = D => ha (e ▸ hD))]; exact hu, fun ha _ => ha⟩
theorem Sim.hid {K : PySem.W.Frag} {ρ : Pl} {S : Sto} {H : Hp} (s : Sim K ρ S H) {D : Addr} {o : HO} (hD : D ∈ ρ.φ) (hn : D ∉ ρ.ρ) : Sim K ρ S (upd H D o) := by
  refine ⟨s.nd, s.len, fun n ws h => ?_, s.sub, fun a ha => ?_⟩
  · obtain ⟨a, xs, h1, h2, h3⟩ := s.at_ n ws h
    have : a ≠ D := fun e => hn (e ▸ List.mem_of_getElem? h1)
    exact ⟨a, xs, h1, by rw [upd_ne this]; exact h2, h3.ext (Kp.hid hD)⟩
  · by_cases e : a = D
    · exact ⟨o, by rw [e]; exact upd_same⟩
    · obtain ⟨u, hu⟩ := s.there a ha
      exact ⟨u, by rw [upd_ne e]; exact hu⟩
theorem Ext.upd_new {ρ ρ' : Pl} {H H' : Hp} (e : Ext ρ H ρ' H') {D : Addr} {o : HO} (hD : H D = none) : Ext ρ H ρ' (upd H' D o) :=
  ⟨e.pre, fun a u ha hu => by rw [upd_ne (ne_of_none hu hD)]; exact e.keep a u ha hu, e.newR, e.new, e.old, e.sub⟩
/-- the hidden object is let go: from now on it is frozen -/
def Pl.drop (ρ : Pl) (D : Addr) : Pl := ⟨ρ.ρ, ρ.φ.filter fun a => decide (a ≠ D)⟩
theorem Pl.drop_sub {ρ : Pl} {D a : Addr} (h : a ∈ (ρ.drop D).φ) : a ∈ ρ.φ := (List.mem_filter.mp h).1
theorem Pl.drop_not {ρ : Pl} {D : Addr} : D ∉ (ρ.drop D).φ := fun h => by
  have := (List.mem_filter.mp h).2
  simp at this
theorem Pl.drop_mem {ρ : Pl} {D a : Addr} (h : a ∈ ρ.φ) (n : a ≠ D) : a ∈ (ρ.drop D).φ := List.mem_filter.mpr ⟨h, by simpa using n⟩
theorem RW.fewer {K : PySem.W.Frag} {H : Hp} {ρ ρ' : Pl} (e : ρ'.ρ = ρ.ρ) (s : ∀ a, a ∈ ρ'.φ → a ∈ ρ.φ) {w : W} {v : V} (h : RW K H ρ w v) : RW K H ρ' w v := by
  cases w with
  | p d => exact DF.fewer s h
  | r n =>
    obtain ⟨a, h1, h2⟩ := h
    exact ⟨a, by rw [e]; exact h1, h2⟩
  | s ns =>
    obtain ⟨a, h1, h2⟩ := h
    exact ⟨a, h1, h2.fewer s⟩
theorem Sim.drop {K : PySem.W.Frag} {ρ : Pl} {S : Sto} {H : Hp} (s : Sim K ρ S H) {D : Addr} (hn : D ∉ ρ.ρ) : Sim K (ρ.drop D) S H := by
  refine ⟨s.nd, s.len, fun n ws h => ?_, fun a ha => Pl.drop_mem (s.sub a ha) (fun e => hn (e ▸ ha)), fun a ha => s.there a (Pl.drop_sub ha)⟩
  obtain ⟨a, xs, h1, h2, h3⟩ := s.at_ n ws h
  exact ⟨a, xs, h1, h2, Paired.imp (G := RW K H (ρ.drop D)) (fun w v r => RW.fewer (ρ := ρ) (ρ' := ρ.drop D) rfl (fun a h => Pl.drop_sub h) r) h3⟩
section
variable {X : Cx} {G : Gk} {Wx : WX} {call : Nat → List W → Sto → R W}
/-- the reading of a comprehension, from the evaluator -/
theorem lc_ok {m : Bool} {own : List Nat} {t : Tg} {it ifs e : Ex} {σ : St} {H : Hp} {Q : VK} (hs : ∀ i, i ∈ slots t → i ∈ own) (h : tE G Wx (evE call (.lc m own t it ifs e)) σ H Q) :
    tLc (tI G Wx (evI call it)) (tGR G t) (tTs G (fun _ _ _ _ => False) (evAs call ifs)) (tE G (fun _ _ _ _ => False) (evE call e)) own σ H Q := by
  obtain ⟨ρ, τ, S, env, sm, h⟩ := h
  unfold evE at h
  refine tG.imp (tG.go (rel := relJ G) env sm h) fun J H1 ⟨ρ1, S1, rows, ex, env1, sm1, goes, h1⟩ => ?_
  intro D hD
  generalize hf : (fun (row : Row) (S : Sto) => match asgR S t row (wipeT τ own) with
      | some τ' => (evAs call ifs τ' S).bind fun b S => if b = true then (evE call e τ' S).bind fun w S => .ok (some w) S else .ok none S
      | none => .bad) = f at h1
  have hD1 : D ∉ ρ1.φ := sm1.ne hD
  have ex0 : Ext ρ1 H1 ⟨ρ1.ρ, D :: ρ1.φ⟩ (upd H1 D (.lst [])) := ⟨⟨[], by simp⟩, fun a u _ hu => by rw [upd_ne (ne_of_none hu hD)]; exact hu, fun _ h => .inl h, fun a ha => by
      rcases List.mem_cons.mp ha with q | q
      · subst q; exact .inr hD
      · exact .inl q, fun a ha => List.mem_cons_of_mem _ ha, sm1.sub⟩
  have sm0 : Sim G.K ⟨ρ1.ρ, D :: ρ1.φ⟩ S1 (upd H1 D (.lst [])) := by
    refine ⟨sm1.nd, sm1.len, fun n ws q => ?_, fun a ha => List.mem_cons_of_mem _ (sm1.sub a ha), fun a ha => ?_⟩
    · obtain ⟨a, xs, g1, g2, g3⟩ := sm1.at_ n ws q
      exact ⟨a, xs, g1, by rw [upd_ne (ne_of_none g2 hD)]; exact g2, g3.ext ex0.kp⟩
    · rcases List.mem_cons.mp ha with q | q
      · subst q; exact ⟨_, upd_same⟩
      · obtain ⟨u, hu⟩ := sm1.there a q
        exact ⟨u, by rw [upd_ne (ne_of_none hu hD)]; exact hu⟩
  refine ⟨fun i mm H' => mm = rows.length - i ∧ i ≤ rows.length ∧ ∃ ρ' S' acc av, Ext ρ1 H1 ρ' H' ∧ Sim G.K ρ' S' H' ∧ D ∈ ρ'.φ ∧ D ∉ ρ'.ρ ∧ H' D = some (.lst av) ∧ RWs G.K H' ρ' acc av ∧
    Post G Wx σ ρ1 H1 (relW G) ((lcLoop f (rows.drop i) acc S').bind (mkLst m)) Q, ⟨_, rfl, Nat.zero_le _, ⟨ρ1.ρ, D :: ρ1.φ⟩, S1, [], [], ex0, sm0, List.mem_cons_self, fun z => hD1 (sm1.sub _ z), upd_same, .nil, by simpa using h1⟩, ?_⟩
  rintro i mm H2 ⟨rfl, hi, ρ2, S2, acc, av, ex2, sm2, hDφ, hDρ, hDa, racc, h2⟩
  obtain ⟨gi, gn⟩ := goes ρ2 H2 S2 ex2 sm2 i
  by_cases hlt : i < rows.length
  · obtain ⟨ggo, gy⟩ := gi rows[i] (List.getElem?_eq_getElem hlt)
    rw [List.drop_eq_getElem_cons hlt] at h2
    unfold lcLoop at h2
    refine .inr ⟨ggo, fun H' => i + 1 ≤ rows.length ∧ ∃ ρ' S' acc av, Ext ρ1 H1 ρ' H' ∧ Sim G.K ρ' S' H' ∧ D ∈ ρ'.φ ∧ D ∉ ρ'.ρ ∧ H' D = some (.lst av) ∧ RWs G.K H' ρ' acc av ∧
      Post G Wx σ ρ1 H1 (relW G) ((lcLoop f (rows.drop (i + 1)) acc S').bind (mkLst m)) Q, fun H' q => ⟨rows.length - (i + 1), by omega, rfl, q⟩, fun x H3 y => ?_⟩
    obtain ⟨ex3, sm3, rrow⟩ := gy x H3 y
    have ex13 := ex2.trans ex3
    have env3 : EnvR G.K H3 ρ2 (wipeT τ own) (L2.wipe σ own) := (env1.ext ex13.kp).wipe own
    have racc3 := RWs.ext ex3.kp racc
    have hDa3 := ex3.keep D _ hDρ hDa
    generalize hfr : f rows[i] S2 = fr at h2
    rw [← hf] at hfr
    dsimp only at hfr
    split at hfr
    · rename_i τ' eT
      refine ⟨ρ2, _, S2, rows[i], τ', env3, sm3, rrow, eT, fun σ2 env4 off => ⟨?_, ?_⟩⟩
      · rw [wipe_off off hs]
        exact wipe_off (is := own) (σ := σ) ⟨wipe_length _ _, fun j hj => wipe_out hj⟩ fun _ h => h
      · refine ⟨ρ2, τ', S2, env4, sm3, ?_⟩
        cases e1 : evAs call ifs τ' S2 with
        | bad => rw [e1] at hfr; subst hfr; exact h2
        | exc xx S3 => rw [e1] at hfr; subst hfr; exact (show False from h2).elim
        | ok b S3 =>
          rw [e1] at hfr
          intro b' H4 ρ4 ex4 sm4 eb
          have eb : b = b' := eb
          subst eb
          have ex14 := ex13.trans ex4
          have hDφ4 := ex4.old D hDφ
          have hDρ4 := ex4.notinR hDρ hDa3
          have hDa4 := ex4.keep D _ hDρ hDa3
          have racc4 := RWs.ext ex4.kp racc3
          dsimp only [R.bind] at hfr
          cases b with
          | false =>
            rw [if_neg Bool.false_ne_true] at hfr ⊢
            subst hfr
            exact ⟨hlt, ρ4, S3, acc, av, ex14, sm4, hDφ4, hDρ4, hDa4, racc4, h2⟩
          | true =>
            rw [if_pos rfl] at hfr ⊢
            refine ⟨ρ4, τ', S3, env4.ext ex4.kp, sm4, ?_⟩
            cases e2 : evE call e τ' S3 with
            | bad => rw [e2] at hfr; subst hfr; exact h2
            | exc xx S4 => rw [e2] at hfr; subst hfr; exact (show False from h2).elim
            | ok w S4 =>
              rw [e2] at hfr
              subst hfr
              dsimp only at h2
              intro v H5 ρ5 ex5 sm5 rv
              have hDφ5 := ex5.old D hDφ4
              have hDρ5 := ex5.notinR hDρ4 hDa4
              have hDa5 := ex5.keep D _ hDρ4 hDa4
              have racc5 := RWs.ext ex5.kp racc4
              have ex15 := ex14.trans ex5
              refine ⟨av, hDa5, ?_, hlt, ρ5, S4, acc ++ [w], av ++ [v], ex15.upd_new hD, sm5.hid hDφ5 hDρ5, hDφ5, hDρ5, upd_same, RWs.ext (Kp.hid hDφ5) (Paired.append racc5 (.cons rv .nil)), h2⟩
              -- the length
              rw [← Paired.length racc5]
              cases e3 : lcLoop f (rows.drop (i + 1)) (acc ++ [w]) S4 with
              | bad => rw [e3] at h2; exact h2.elim
              | exc xx S5 => exact absurd e3 lcLoop_noexc
              | ok ws S5 =>
                have hlen := lcLoop_len e3
                rw [e3] at h2
                dsimp only [R.bind] at h2
                unfold mkLst at h2
                split at h2
                · rename_i hl
                  simp at hlen
                  exact lim_lt (by omega)
                · exact h2.elim
    · subst hfr
      exact h2.elim
  · have ei : i = rows.length := by omega
    subst ei
    refine .inl ⟨gn (Nat.le_refl _), ?_⟩
    rw [List.drop_of_length_le (Nat.le_refl _)] at h2
    unfold lcLoop at h2
    dsimp only [R.bind] at h2
    unfold mkLst at h2
    split at h2
    · split at h2
      · -- a place of the store
        refine h2 (.ref D) H2 ⟨ρ2.ρ ++ [D], ρ2.φ⟩ ?_ ?_ ?_
        · obtain ⟨t', ht⟩ := ex2.pre
          refine ⟨⟨t' ++ [D], by simp [ht]⟩, ex2.keep, fun a ha => ?_, ex2.new, ex2.old, ex2.sub⟩
          rcases List.mem_append.mp ha with q | q
          · exact ex2.newR a q
          · have : a = D := by simpa using q
            subst this; exact .inr hD
        · have kp : Kp ρ2 H2 ⟨ρ2.ρ ++ [D], ρ2.φ⟩ H2 := ⟨⟨[D], rfl⟩, fun _ h => h, fun h _ => h⟩
          refine ⟨List.nodup_append.mpr ⟨sm2.nd, by simp, fun a ha b hb => ?_⟩, by simp [sm2.len], fun n ws q => ?_, fun a ha => ?_, sm2.there⟩
          · have : b = D := by simpa using hb
            subst this
            exact fun z => hDρ (z ▸ ha)
          · by_cases hn : n < S2.length
            · rw [List.getElem?_append_left hn] at q
              obtain ⟨a, xs, g1, g2, g3⟩ := sm2.at_ n ws q
              exact ⟨a, xs, by show (ρ2.ρ ++ [D])[n]? = _; rw [List.getElem?_append_left (by rw [sm2.len]; exact hn)]; exact g1, g2, g3.ext kp⟩
            · have hl : n < (S2 ++ [Ob.l acc]).length := (List.getElem?_eq_some_iff.mp q).1
              have hn2 : n = S2.length := by simp at hl; omega
              subst hn2
              simp at q
              subst q
              exact ⟨D, av, by show (ρ2.ρ ++ [D])[_]? = _; rw [← sm2.len]; simp, hDa, racc.ext kp⟩
          · rcases List.mem_append.mp ha with q | q
            · exact sm2.sub a q
            · have : a = D := by simpa using q
              subst this; exact hDφ
        · exact ⟨D, by show (ρ2.ρ ++ [D])[_]? = _; rw [← sm2.len]; simp, rfl⟩
      · split at h2
        · rename_i ds eds
          obtain ⟨rfl, hd⟩ := deP_rep racc eds
          refine h2 (.ref D) H2 (ρ2.drop D) ?_ (sm2.drop hDρ) (.lst hDa Pl.drop_not (hd.fewer fun a h => Pl.drop_sub h))
          exact ⟨ex2.pre, ex2.keep, ex2.newR, fun a ha => ex2.new a (Pl.drop_sub ha), fun a ha => Pl.drop_mem (ex2.old a ha) (fun z => hD1 (z ▸ ha)), ex2.sub⟩
        · exact h2.elim
    · exact h2.elim
end
end Pv
end

section
set_option maxRecDepth 10000
set_option maxHeartbeats 4000000
namespace Pv
open PySem PySem.Spec L2
open PyProof.Rows hiding St

/-! ## statements -/
section
variable (G : Gk) (Wx : WX)
def PostS (ρ : Pl) (H : Hp) (r : RS) (D : Ends) : Prop := match r with
  | .nx τ S => ∀ σ H' ρ', Ext ρ H ρ' H' → Sim G.K ρ' S H' → EnvR G.K H' ρ' τ σ → D.nx σ H'
  | .ret w S => ∀ v H' ρ', Ext ρ H ρ' H' → Sim G.K ρ' S H' → RW G.K H' ρ' w v → D.rt v H'
  | .bk τ S => ∀ σ H' ρ', Ext ρ H ρ' H' → Sim G.K ρ' S H' → EnvR G.K H' ρ' τ σ → D.bk σ H'
  | .ct τ S => ∀ σ H' ρ', Ext ρ H ρ' H' → Sim G.K ρ' S H' → EnvR G.K H' ρ' τ σ → D.ct σ H'
  | .exc x τ S => ∀ cls d σ H' ρ', Ext ρ H ρ' H' → Sim G.K ρ' S H' → EnvR G.K H' ρ' τ σ → XR G H' ρ' x cls d → Wx cls d σ H'
  | .bad => False
def tS (m : Tau → Sto → RS) : TS := fun D σ H => ∃ ρ τ S, EnvR G.K H ρ τ σ ∧ Sim G.K ρ S H ∧ PostS G Wx ρ H (m τ S) D
end
section
variable {G : Gk} {Wx : WX} {ρ ρ' : Pl} {H H' : Hp} {D : Ends}
theorem PostS.ext {r : RS} (e : Ext ρ H ρ' H') (h : PostS G Wx ρ H r D) : PostS G Wx ρ' H' r D := by
  cases r with
  | nx τ S => exact fun σ H2 ρ2 e2 s q => h σ H2 ρ2 (e.trans e2) s q
  | ret w S => exact fun v H2 ρ2 e2 s q => h v H2 ρ2 (e.trans e2) s q
  | bk τ S => exact fun σ H2 ρ2 e2 s q => h σ H2 ρ2 (e.trans e2) s q
  | ct τ S => exact fun σ H2 ρ2 e2 s q => h σ H2 ρ2 (e.trans e2) s q
  | exc x τ S => exact fun c d σ H2 ρ2 e2 s q => h c d σ H2 ρ2 (e.trans e2) s q
  | bad => exact h
theorem PostS.then_ {α β : Type} {rel : Hp → Pl → α → β → Prop} {r : R α} {τ : Tau} {σ : St} {f : α → Sto → RS} (env : EnvR G.K H ρ τ σ) (h : PostS G Wx ρ H (thenS r τ f) D) :
    Post G Wx σ ρ H rel r fun v H1 => ∃ ρ1 a S1, Ext ρ H ρ1 H1 ∧ EnvR G.K H1 ρ1 τ σ ∧ Sim G.K ρ1 S1 H1 ∧ rel H1 ρ1 a v ∧ PostS G Wx ρ1 H1 (f a S1) D := by
  cases r with
  | ok a S => exact fun v H1 ρ1 e s q => ⟨ρ1, a, S, e, env.ext e.kp, s, q, PostS.ext e h⟩
  | exc x S => exact fun c d H1 ρ1 e s q => h c d σ H1 ρ1 e s (env.ext e.kp) q
  | bad => exact h
theorem tG.goS {α β : Type} {rel : Hp → Pl → α → β → Prop} {m : Tau → Sto → R α} {f : α → Sto → RS} {σ : St} {ρ : Pl} {τ : Tau} {S : Sto} (env : EnvR G.K H ρ τ σ) (sm : Sim G.K ρ S H) (h : PostS G Wx ρ H (thenS (m τ S) τ f) D) :
    tG G Wx rel m σ H fun v H1 => ∃ ρ1 S1 a, Ext ρ H ρ1 H1 ∧ EnvR G.K H1 ρ1 τ σ ∧ Sim G.K ρ1 S1 H1 ∧ rel H1 ρ1 a v ∧ PostS G Wx ρ1 H1 (f a S1) D :=
  ⟨ρ, τ, S, env, sm, (PostS.then_ (rel := rel) env h).imp fun v H1 ⟨ρ1, a, S1, e, en, s, q, p⟩ => ⟨ρ1, S1, a, e, en, s, q, p⟩⟩
theorem PostS.nx_ {τ : Tau} {S : Sto} {σ : St} (h : PostS G Wx ρ H (.nx τ S) D) (sm : Sim G.K ρ S H) (env : EnvR G.K H ρ τ σ) : D.nx σ H := h σ H ρ (sub_of sm) sm env
end
section
variable {X : Cx} {G : Gk} {Wx : WX} {call : Nat → List W → Sto → R W} {a b c : Expr} {xa xb xc : Ex} {pos : Pos}
/-! ### tests of comprehensions, comprehensions -/
theorem a_nil : PTs X [] (tTs G Wx (evAs call .nl)) := ⟨fun pins s σ H Q I h => pts_nil.run pins s σ H Q I (by
  obtain ⟨ρ, τ, S, env, sm, h⟩ := h
  unfold evAs at h
  exact h.done sm rfl)⟩
theorem a_one (h : PT X a (tTs G Wx (evT call xa))) : PTs X [a] (tTs G Wx (evAs call (.cs xa .nl))) := ⟨fun pins s σ H Q I q => (pts_one h).run pins s σ H Q I (by
  obtain ⟨ρ, τ, S, env, sm, q⟩ := q
  unfold evAs at q
  exact ⟨ρ, τ, S, env, sm, q⟩)⟩
abbrev noW : WX := fun _ _ _ _ => False
theorem s_lc {m : Bool} {own : List (Str × Nat)} {t : Tg} {tg iter elt : Expr} {ifs : List Expr} {scope : Scope} {xi xf xe : Ex} (hc : X.calm = true) (hN : X.N.Nodup) (hi : PI X tg iter (tI G Wx (evI call xi))) (ok : BlkOk X.N X.env.scope scope own)
    (hg : ∀ (s : Shared) (H : Hp) (C : Addr) (cl : List (Str × Addr)) (fp : List Addr), PG (X.blk s H scope (compEnvC scope cl C X.env) fp) tg (tGR G t))
    (ht : ∀ (s : Shared) (H : Hp) (C : Addr) (cl : List (Str × Addr)) (fp : List Addr), PTs (X.blk s H scope (compEnvC scope cl C X.env) fp) ifs (tTs G noW (evAs call xf)))
    (he : ∀ (s : Shared) (H : Hp) (C : Addr) (cl : List (Str × Addr)) (fp : List Addr), PE (X.blk s H scope (compEnvC scope cl C X.env) fp) elt (tE G noW (evE call xe)))
    (hf : ∀ x, foldedSetIterable iter X.env x = pure x) (hs : ∀ i, i ∈ slots t → i ∈ own.map (·.2)) : PE X (.ListComp elt [⟨tg, iter, ifs, 0⟩] scope pos) (tE G Wx (evE call (.lc m (own.map (·.2)) t xi xf xe))) :=
  PE.imp (pe_lc hc hN hi ok hg ht he hf) fun σ H Q h => lc_ok hs h
theorem ss_setLc {i : Nat} {y : Str} {py spos : Pos} {m : Bool} {own : List (Str × Nat)} {t : Tg} {tg iter elt : Expr} {ifs : List Expr} {scope : Scope} {xi xf xe : Ex} (hc : X.calm = true) (hN : X.N.Nodup) (hy : X.N[i]? = some y) (hyl : X.env.scope.names.lookup y = some .local)
    (hsw : swapsWith (.ListComp elt [⟨tg, iter, ifs, 0⟩] scope pos) (some (.Name y py)) spos.line X.env = pure true) (hi : PI X tg iter (tI G Wx (evI call xi))) (ok : BlkOk X.N X.env.scope scope own)
    (hg : ∀ (s : Shared) (H : Hp) (C : Addr) (cl : List (Str × Addr)) (fp : List Addr), PG (X.blk s H scope (compEnvC scope cl C X.env) fp) tg (tGR G t))
    (ht : ∀ (s : Shared) (H : Hp) (C : Addr) (cl : List (Str × Addr)) (fp : List Addr), PTs (X.blk s H scope (compEnvC scope cl C X.env) fp) ifs (tTs G noW (evAs call xf)))
    (he : ∀ (s : Shared) (H : Hp) (C : Addr) (cl : List (Str × Addr)) (fp : List Addr), PE (X.blk s H scope (compEnvC scope cl C X.env) fp) elt (tE G noW (evE call xe)))
    (hf : ∀ x, foldedSetIterable iter X.env x = pure x) (hs : ∀ i, i ∈ slots t → i ∈ own.map (·.2)) :
    PS X (.Assign [.Name y py] (.ListComp elt [⟨tg, iter, ifs, 0⟩] scope pos) spos) (tS G Wx (evS call (.asg (.n i) (.lc m (own.map (·.2)) t xi xf xe)))) := by
  refine PS.imp (ps_setLc hc hN hy hyl hsw hi ok hg ht he hf) fun D σ H h => ?_
  obtain ⟨ρ, τ, S, env, sm, h⟩ := h
  unfold evS at h
  refine lc_ok (call := call) (m := m) hs ?_
  refine tG.imp (tG.goS (rel := relW G) env sm h) fun v H1 ⟨ρ1, S1, w, ex, env1, sm1, r1, h1⟩ => ?_
  unfold asgT at h1
  exact h1.nx_ sm1 (env1.set r1 i)
/-! ### assignments -/
theorem ss_set {i : Nat} {x : Str} {pos' : Pos} (hN : X.N.Nodup) (hi : X.N[i]? = some x) (hx : Loc X.env.scope x) (hf : X.fn x = true ∨ X.env.scope.names.lookup x = some .local) (ha : PE X a (tE G Wx (evE call xa)))
    (hs : swapsWith a (some (.Name x pos')) pos.line X.env = pure false) : PS X (.Assign [.Name x pos'] a pos) (tS G Wx (evS call (.asg (.n i) xa))) := by
  refine PS.imp (ps_set hN hi hx ha hs hf) fun D σ H h => ?_
  obtain ⟨ρ, τ, S, env, sm, h⟩ := h
  unfold evS at h
  refine tG.imp (tG.goS (rel := relW G) env sm h) fun v H1 ⟨ρ1, S1, w, ex, env1, sm1, r1, h1⟩ => ?_
  unfold asgT at h1
  exact h1.nx_ sm1 (env1.set r1 i)
theorem ss_asg {t : Tg} {tg : Expr} (hg : PG X tg (tGW G t)) (ha : PE X a (tE G Wx (evE call xa))) (hs : swapsWithSole [tg] a pos.line X.env = pure false) (hw : swappedStores [tg] a X.env = pure none) (h1 : (assignEach [tg] X.env).map (·.2) = [assign tg X.env]) :
    PS X (.Assign [tg] a pos) (tS G Wx (evS call (.asg t xa))) := by
  refine PS.imp (ps_asg ha hg hs hw h1) fun D σ H h => ?_
  obtain ⟨ρ, τ, S, env, sm, h⟩ := h
  unfold evS at h
  refine tG.imp (tG.goS (rel := relW G) env sm h) fun v H1 ⟨ρ1, S1, w, ex, env1, sm1, r1, h1⟩ => ?_
  cases e : asgT S1 t w τ with
  | none => rw [e] at h1; exact h1.elim
  | some τ' =>
    rw [e] at h1
    exact ⟨ρ1, τ, S1, w, τ', env1, sm1, r1, e, fun σ' env' _ => PostS.nx_ h1 sm1 env'⟩
theorem ss_sub {o i : Expr} {xo xi : Ex} {pos' : Pos} (ho : PE X o (tE G Wx (evE call xo))) (hi : PE X i (tE G Wx (evE call xi))) (ha : PE X a (tE G Wx (evE call xa)))
    (hv : ∀ v, assign (.Subscript o i pos') X.env v = (do
      let ov ← holding [v] (eval o X.env)
      let iv ← holding [v, ov] (eval i X.env)
      standAt pos'
      holding [v, ov, iv] (setItem ov iv v)
      release [v, ov, iv] []))
    (hs : swapsWithSole [.Subscript o i pos'] a pos.line X.env = pure false) (hw : swappedStores [.Subscript o i pos'] a X.env = pure none) (h1 : (assignEach [.Subscript o i pos'] X.env).map (·.2) = [assign (.Subscript o i pos') X.env]) :
    PS X (.Assign [.Subscript o i pos'] a pos) (tS G Wx (evS call (.sub xo xi xa))) := by
  refine PS.imp (ps_asg ha (pg_sub ho hi (fSet_ok (X := X) (G := G)) hv) hs hw h1) fun D σ H h => ?_
  obtain ⟨ρ, τ, S, env, sm, h⟩ := h
  unfold evS at h
  refine tG.imp (tG.goS (rel := relW G) env sm h) fun v H1 ⟨ρ1, S1, w, ex, env1, sm1, r1, h1⟩ => ?_
  refine tG.imp (tG.goS (rel := relW G) env1 sm1 h1) fun u H2 ⟨ρ2, S2, y, ex2, env2, sm2, r2, h2⟩ => ?_
  refine tG.imp (tG.goS (rel := relW G) env2 sm2 h2) fun z H3 ⟨ρ3, S3, q, ex3, env3, sm3, r3, h3⟩ => ?_
  refine ⟨ρ3, S3, y, q, w, sm3, RW.ext ex3.kp r2, r3, RW.ext (ex2.trans ex3).kp r1, ?_⟩
  cases e : fSet S3 y q w with
  | none => rw [e] at h3; exact h3
  | some S4 =>
    rw [e] at h3
    exact fun H4 ρ4 ex4 sm4 => h3 σ H4 ρ4 ex4 sm4 (env3.ext ex4.kp)
theorem ss_augA {i : Nat} {x : Str} {pos' : Pos} (hN : X.N.Nodup) (hi : X.N[i]? = some x) (hx : Loc X.env.scope x) (hf : X.fn x = true ∨ X.env.scope.names.lookup x = some .local)
    (ha : PE X a (tE G Wx (evE call xa))) : PS X (.AugAssign (.Name x pos') .Add a pos) (tS G Wx (evS call (.aug i .Add xa))) := by
  refine PS.imp (ps_aug hN hi hx ha (ip_add (X := X)) hf) fun D σ H h => ?_
  obtain ⟨ρ, τ, S, env, sm, h⟩ := h
  unfold evS at h
  split at h
  · rename_i w e
    obtain ⟨v, hv, rv⟩ := env.2 i w e
    refine ⟨v, hv, tG.imp (tG.goS (rel := relW G) env sm h) fun y H1 ⟨ρ1, S1, wy, ex, env1, sm1, r1, h1⟩ => ?_⟩
    have rv1 := RW.ext ex.kp rv
    split at h1
    · rename_i p q z _
      cases rv1; cases r1
      exact ⟨p, q, rfl, rfl, PostS.nx_ h1 sm1 (env1.set (w := .p (.int (p + q))) (v := .int (p + q)) (DF.int (p + q)) i)⟩
    · rename_i p q z _
      cases rv1; cases r1
      cases z
    · exact h1.elim
  · exact h.elim
theorem ss_augS {i : Nat} {x : Str} {pos' : Pos} (hN : X.N.Nodup) (hi : X.N[i]? = some x) (hx : Loc X.env.scope x) (hf : X.fn x = true ∨ X.env.scope.names.lookup x = some .local)
    (ha : PE X a (tE G Wx (evE call xa))) : PS X (.AugAssign (.Name x pos') .Sub a pos) (tS G Wx (evS call (.aug i .Sub xa))) := by
  refine PS.imp (ps_aug hN hi hx ha (ip_sub (X := X)) hf) fun D σ H h => ?_
  obtain ⟨ρ, τ, S, env, sm, h⟩ := h
  unfold evS at h
  split at h
  · rename_i w e
    obtain ⟨v, hv, rv⟩ := env.2 i w e
    refine ⟨v, hv, tG.imp (tG.goS (rel := relW G) env sm h) fun y H1 ⟨ρ1, S1, wy, ex, env1, sm1, r1, h1⟩ => ?_⟩
    have rv1 := RW.ext ex.kp rv
    split at h1
    · rename_i p q z _
      cases rv1; cases r1
      cases z
    · rename_i p q z _
      cases rv1; cases r1
      exact ⟨p, q, rfl, rfl, PostS.nx_ h1 sm1 (env1.set (w := .p (.int (p - q))) (v := .int (p - q)) (DF.int (p - q)) i)⟩
    · exact h1.elim
  · exact h.elim
/-! ### small statements -/
theorem ss_expr (ha : PE X a (tE G Wx (evE call xa))) (hs : swapsWith a none pos.line X.env = pure false) : PS X (.Expr a pos) (tS G Wx (evS call (.expr xa))) := by
  refine PS.imp (ps_expr ha hs) fun D σ H h => ?_
  obtain ⟨ρ, τ, S, env, sm, h⟩ := h
  unfold evS at h
  exact tG.imp (tG.goS (rel := relW G) env sm h) fun v H1 ⟨ρ1, S1, w, ex, env1, sm1, r1, h1⟩ => PostS.nx_ h1 sm1 env1
theorem ss_ret (ha : PE X a (tE G Wx (evE call xa))) : PS X (.Return (some a) pos) (tS G Wx (evS call (.ret xa))) := by
  refine PS.imp (ps_ret ha) fun D σ H h => ?_
  obtain ⟨ρ, τ, S, env, sm, h⟩ := h
  unfold evS at h
  exact tG.imp (tG.goS (rel := relW G) env sm h) fun v H1 ⟨ρ1, S1, w, ex, env1, sm1, r1, h1⟩ => h1 v H1 ρ1 (sub_of sm1) sm1 r1
theorem ss_retN : PS X (.Return none pos) (tS G Wx (evS call .retN)) := by
  refine PS.imp ps_retN fun D σ H h => ?_
  obtain ⟨ρ, τ, S, env, sm, h⟩ := h
  unfold evS at h
  exact h .non H ρ (sub_of sm) sm .non
theorem ss_pass : PS X (.Pass pos) (tS G Wx (evS call .pass)) := by
  refine PS.imp ps_pass fun D σ H h => ?_
  obtain ⟨ρ, τ, S, env, sm, h⟩ := h
  unfold evS at h
  exact h.nx_ sm env
theorem ss_brk : PS X (.Break pos) (tS G Wx (evS call .brk)) := by
  refine PS.imp ps_break fun D σ H h => ?_
  obtain ⟨ρ, τ, S, env, sm, h⟩ := h
  unfold evS at h
  exact h σ H ρ (sub_of sm) sm env
theorem ss_cont : PS X (.Continue pos) (tS G Wx (evS call .cont)) := by
  refine PS.imp ps_continue fun D σ H h => ?_
  obtain ⟨ρ, τ, S, env, sm, h⟩ := h
  unfold evS at h
  exact h σ H ρ (sub_of sm) sm env
theorem ss_if {sa sb : List Stmt} {xs ys : Sx} (hc : PT X c (tTs G Wx (evT call xc))) (ha : PSs X sa (tS G Wx (evSs call xs))) (hb : PSs X sb (tS G Wx (evSs call ys))) : PS X (.If c sa sb pos) (tS G Wx (evS call (.iff xc xs ys))) := by
  refine PS.imp (ps_if hc ha hb) fun D σ H h => ?_
  obtain ⟨ρ, τ, S, env, sm, h⟩ := h
  unfold evS at h
  refine tG.imp (tG.goS (rel := relB) env sm h) fun t H1 ⟨ρ1, S1, w, ex, env1, sm1, r1, h1⟩ => ?_
  have : w = t := r1
  subst this
  cases w with
  | true => rw [if_pos rfl] at h1 ⊢; exact ⟨ρ1, τ, S1, env1, sm1, h1⟩
  | false => rw [if_neg Bool.false_ne_true] at h1 ⊢; exact ⟨ρ1, τ, S1, env1, sm1, h1⟩
theorem ss_nil : PSs X [] (tS G Wx (evSs call .nl)) := by
  refine PSs.imp pss_nil fun D σ H h => ?_
  obtain ⟨ρ, τ, S, env, sm, h⟩ := h
  unfold evSs at h
  exact h.nx_ sm env
theorem ss_cons {st : Stmt} {sts : List Stmt} {x r : Sx} (h1 : PS X st (tS G Wx (evS call x))) (h2 : PSs X sts (tS G Wx (evSs call r))) : PSs X (st :: sts) (tS G Wx (evSs call (.cs x r))) := by
  refine PSs.imp (pss_cons h1 h2) fun D σ H h => ?_
  obtain ⟨ρ, τ, S, env, sm, h⟩ := h
  unfold evSs at h
  refine ⟨ρ, τ, S, env, sm, ?_⟩
  cases e : evS call x τ S with
  | nx τ' S' => rw [e] at h; exact fun σ' H' ρ' ex sm' env' => ⟨ρ', τ', S', env', sm', PostS.ext ex h⟩
  | ret w S' => rw [e] at h; exact h
  | bk τ' S' => rw [e] at h; exact h
  | ct τ' S' => rw [e] at h; exact h
  | exc x τ' S' => rw [e] at h; exact h
  | bad => rw [e] at h; exact h
/-! ### loops -/
theorem ss_while {body : List Stmt} {xs : Sx} (hp : PassesOwn (model X.prog X.w) X.A X.env X.xe) (hc : PT X c (tTs G Wx (evT call xc))) (hb : PSs X body (tS G Wx (evSs call xs))) : PS X (.While c body [] pos) (tS G Wx (evS call (.whl xc xs))) := by
  refine PS.imp (ps_while hp hc hb) fun D σ H h => ?_
  obtain ⟨ρ, τ, S, env, sm, h⟩ := h
  unfold evS at h
  generalize fuel = n at h
  refine ⟨fun k σ H => ∃ ρ τ S, EnvR G.K H ρ τ σ ∧ Sim G.K ρ S H ∧ PostS G Wx ρ H (whlLoop (evT call xc) (evSs call xs) k τ S) D, ⟨n, ρ, τ, S, env, sm, h⟩, ?_⟩
  rintro k σ1 H1 ⟨ρ1, τ1, S1, env1, sm1, h1⟩
  cases k with
  | zero => exact h1.elim
  | succ k =>
    unfold whlLoop at h1
    refine tG.imp (tG.goS (rel := relB) env1 sm1 h1) fun t H2 ⟨ρ2, S2, w, ex, env2, sm2, r2, h2⟩ => ?_
    have : w = t := r2
    subst this
    cases w with
    | false => rw [if_neg Bool.false_ne_true] at h2 ⊢; exact PostS.nx_ h2 sm2 env2
    | true =>
      rw [if_pos rfl] at h2 ⊢
      refine ⟨fun σ' H' => ∃ ρ τ S, EnvR G.K H' ρ τ σ' ∧ Sim G.K ρ S H' ∧ PostS G Wx ρ H' (whlLoop (evT call xc) (evSs call xs) k τ S) D, fun σ' H' q => ⟨k, Nat.lt_succ_self _, q⟩, ρ2, τ1, S2, env2, sm2, ?_⟩
      cases e : evSs call xs τ1 S2 with
      | nx τ' S' => rw [e] at h2; exact fun σ' H' ρ' ex sm' env' => ⟨ρ', τ', S', env', sm', PostS.ext ex h2⟩
      | ct τ' S' => rw [e] at h2; exact fun σ' H' ρ' ex sm' env' => ⟨ρ', τ', S', env', sm', PostS.ext ex h2⟩
      | bk τ' S' => rw [e] at h2; exact h2
      | ret w S' => rw [e] at h2; exact h2
      | exc x τ' S' => rw [e] at h2; exact h2
      | bad => rw [e] at h2; exact h2
theorem ss_for {t : Tg} {tg iter : Expr} {body : List Stmt} {xi : Ex} {xs : Sx} (hp : PassesOwn (model X.prog X.w) X.A X.env X.xe) (hc : X.calm = true) (hi : PI X tg iter (tI G Wx (evI call xi))) (hg : PG X tg (tGR G t)) (hb : PSs X body (tS G Wx (evSs call xs)))
    (hs : ∀ x, foldedSetIterable iter X.env x = pure x) : PS X (.For tg iter body [] pos) (tS G Wx (evS call (.for_ t xi xs))) := by
  refine PS.imp (ps_for hp hc hi hg hb hs) fun D σ H h => ?_
  obtain ⟨ρ, τ, S, env, sm, h⟩ := h
  unfold evS at h
  refine tG.imp (tG.goS (rel := relJ G) env sm h) fun J H1 ⟨ρ1, S1, rows, ex, env1, sm1, goes, h1⟩ => ?_
  generalize hf : (fun (row : Row) (τ : Tau) (S : Sto) => match asgR S t row τ with
      | some τ' => evSs call xs τ' S
      | none => .bad) = f at h1
  refine ⟨fun i mm σ H => mm = rows.length - i ∧ i ≤ rows.length ∧ ∃ ρ τ S, Ext ρ1 H1 ρ H ∧ EnvR G.K H ρ τ σ ∧ Sim G.K ρ S H ∧ PostS G Wx ρ H (forLoop f (rows.drop i) τ S) D, ⟨_, rfl, Nat.zero_le _, ρ1, τ, S1, sub_of sm1, env1, sm1, by simpa using h1⟩, ?_⟩
  rintro i mm σ2 H2 ⟨rfl, hi, ρ2, τ2, S2, ex2, env2, sm2, h2⟩
  obtain ⟨gi, gn⟩ := goes ρ2 H2 S2 ex2 sm2 i
  by_cases hlt : i < rows.length
  · obtain ⟨ggo, gy⟩ := gi rows[i] (List.getElem?_eq_getElem hlt)
    rw [List.drop_eq_getElem_cons hlt] at h2
    unfold forLoop at h2
    refine .inr ⟨ggo, fun σ H => i + 1 ≤ rows.length ∧ ∃ ρ τ S, Ext ρ1 H1 ρ H ∧ EnvR G.K H ρ τ σ ∧ Sim G.K ρ S H ∧ PostS G Wx ρ H (forLoop f (rows.drop (i + 1)) τ S) D, fun σ' H' q => ⟨rows.length - (i + 1), by omega, rfl, q⟩, fun x H3 y => ?_⟩
    obtain ⟨ex3, sm3, rrow⟩ := gy x H3 y
    have ex13 := ex2.trans ex3
    have h3 := PostS.ext ex3 h2
    generalize hfr : f rows[i] τ2 S2 = fr at h3
    rw [← hf] at hfr
    dsimp only at hfr
    split at hfr
    · rename_i τ' eT
      refine ⟨ρ2, τ2, S2, rows[i], τ', env2.ext ex3.kp, sm3, rrow, eT, fun σ4 env4 _ => ⟨ρ2, τ', S2, env4, sm3, ?_⟩⟩
      cases e : evSs call xs τ' S2 with
      | nx τ' S' => rw [e] at hfr; subst hfr; exact fun σ' H' ρ' ex sm' env' => ⟨hlt, ρ', τ', S', ex13.trans ex, env', sm', PostS.ext ex h3⟩
      | ct τ' S' => rw [e] at hfr; subst hfr; exact fun σ' H' ρ' ex sm' env' => ⟨hlt, ρ', τ', S', ex13.trans ex, env', sm', PostS.ext ex h3⟩
      | bk τ' S' => rw [e] at hfr; subst hfr; exact h3
      | ret w S' => rw [e] at hfr; subst hfr; exact h3
      | exc x τ' S' => rw [e] at hfr; subst hfr; exact h3
      | bad => rw [e] at hfr; subst hfr; exact h3
    · subst hfr
      exact h3.elim
  · have ei : i = rows.length := by omega
    subst ei
    rw [List.drop_of_length_le (Nat.le_refl _)] at h2
    unfold forLoop at h2
    exact .inl ⟨gn (Nat.le_refl _), h2.nx_ sm2 env2⟩
end
end Pv
end

section
set_option maxRecDepth 10000
set_option maxHeartbeats 4000000
namespace Pv
open PySem PySem.Spec L2
open PyProof.Rows hiding St

/-! ## is this the tree of that syntax? -/
structure Ck where
  N : List Str
  fns : List Str
  ar : List Nat
def notStar : Expr → Bool
  | .Starred .. => false
  | _ => true
def notSet : Expr → Bool
  | .Set .. => false
  | _ => true
def notSlice : Expr → Bool
  | .Slice .. => false
  | _ => true
def notSup : Expr → Bool
  | .Call (.Name _ _) [] [] _ => false
  | _ => true
/-- a test that is its value's truth -/
def plainT : Expr → Bool
  | .UnaryOp .. => false
  | .BoolOp .. => false
  | .IfExp .. => false
  | .Compare .. => false
  | _ => true
def okN (x : Str) : Bool := !(x == ("__debug__" : Str)) && !(x == ("__classdict__" : Str)) && !(x == ("__name__" : Str))
def visB (sc : Scope) (x : Str) : Bool := match sc.names.lookup x with
  | some .local => true
  | some .cell => true
  | some .free => true
  | _ => false
def glB (sc : Scope) (x : Str) : Bool := match sc.names.lookup x with
  | some .globalImplicit => true
  | _ => false
/-- may be stored: os as written, rs as it runs -/
def stB (os rs : Scope) (x : Str) : Bool := match os.names.lookup x, rs.names.lookup x with
  | some .local, some .local => true
  | some .cell, some .cell => true
  | _, _ => false
def biB : BI → Bool
  | .tuple | .list | .int => false
  | _ => true
def biN : BI → String
  | .len => "len" | .tuple => "tuple" | .list => "list" | .abs => "abs" | .int => "int" | .all => "all" | .any => "any" | .repr => "repr" | .sorted => "sorted"
def meN : MI → String
  | .append => "append" | .extend => "extend" | .popAt => "pop" | .pop => "pop"
def bltN : List Str := ["len", "tuple", "list", "abs", "int", "all", "any", "repr", "sorted", "isinstance", "str", "bool", "dict", "range", "enumerate", "zip"]
section
variable (C : Ck)
def ckG (os rs : Scope) : Tg → Expr → Bool
  | .n i, e => match e with
    | .Name x _ => decide (C.N[i]? = some x) && stB os rs x
    | _ => false
  | .nl, _ => false
  | .cs a r, e => match e with
    | .Tuple es _ _ => ckGs os rs a r es
    | _ => false
where ckGs (os rs : Scope) : Tg → Tg → List Expr → Bool
  | a, .nl, [e] => ckG os rs a e
  | a, .cs b r, e :: es => ckG os rs a e && ckGs os rs b r es
  | _, _, _ => false
mutual
def ckE (os rs : Scope) : Ex → Expr → Bool
  | .v i, e => match e with
    | .Name x _ => decide (C.N[i]? = some x) && visB rs x && okN x
    | _ => false
  | .k d, e => match e with
    | .Constant c _ _ => cOk c d
    | _ => false
  | .tup es, e => match e with
    | .Tuple l _ _ => ckEs os rs es l
    | _ => false
  | .lst _ es, e => match e with
    | .List l _ => ckEs os rs es l
    | _ => false
  | .op o a b, e => match e with
    | .BinOp l o' r _ => decide (o = o') && ckE os rs a l && ckE os rs b r && (match o with | .Add | .Sub | .Mult | .FloorDiv | .Mod | .Pow => true | _ => false)
    | _ => false
  | .neg a, e => match e with
    | .UnaryOp .USub l _ => ckE os rs a l
    | _ => false
  | .cmp o a b, e => match e with
    | .Compare l [o'] [r] _ => decide (o = o') && !behindInMarks o r && ckE os rs a l && ckE os rs b r
    | _ => false
  | .chain o o' a b c, e => match e with
    | .Compare l [p, p'] [m, r] _ => decide (o = p) && decide (o' = p') && !lastMarks [o, o'] [m, r] && ckE os rs a l && ckE os rs b m && ckE os rs c r
    | _ => false
  | .an es, e => match e with
    | .BoolOp .And l _ => ckL os rs es l
    | _ => false
  | .orr es, e => match e with
    | .BoolOp .Or l _ => ckL os rs es l
    | _ => false
  | .no a, e => match e with
    | .UnaryOp .Not l _ => ckE os rs a l
    | _ => false
  | .ife c a b, e => match e with
    | .IfExp t l r _ => ckT os rs c t && ckE os rs a l && ckE os rs b r
    | _ => false
  | .ix a b, e => match e with
    | .Subscript l s _ => notSlice s && ckE os rs a l && ckE os rs b s
    | _ => false
  | .sl a lo hi, e => match e with
    | .Subscript l (.Slice p q none _) _ => ckE os rs a l && ckP os rs lo p && ckP os rs hi q
    | _ => false
  | .call f es, e => match e with
    | .Call (.Name x _) l [] _ => decide (C.fns[f]? = some x) && glB rs x && okN x && l.all notStar && ckEs os rs es l
    | _ => false
  | .bi b es, e => match e with
    | .Call (.Name x _) (a :: l) [] _ => decide (x = Str.ofString (biN b)) && glB rs x && notStar a && l.all notStar && ckEs os rs es (a :: l)
    | _ => false
  | .me m o es, e => match e with
    | .Call (.Attribute l name apos) [a] [] cpos => decide (name = Str.ofString (meN m)) && (match m with | .pop => false | _ => true) && notSup l && (apos.endLine == cpos.line) && notStar a && ckE os rs o l && ckEs os rs es [a]
    | .Call (.Attribute l name apos) [] [] cpos => decide (name = Str.ofString (meN m)) && (match m with | .pop => true | _ => false) && notSup l && (apos.endLine == cpos.line) && ckE os rs o l && (match es with | .nl => true | _ => false)
    | _ => false
  | .isi a T, e => match e with
    | .Call (.Name x _) [l, .Name y _] [] _ => decide (x = Str.ofString "isinstance") && decide (y = Str.ofString (kdN T)) && glB rs x && glB rs y && notStar l && ckE os rs a l
    | _ => false
  | .lc _ own t it ifs e', e => match e with
    | .ListComp elt [⟨tg, iter, cs, isa⟩] scope _ => decide (isa = 0) && blkC C.N rs scope (own.map fun i => (C.N.getD i Str.empty, i)) && decide (∀ i, i ∈ slots t → i ∈ own) && ckG C scope (relS scope rs) t tg && ckI os rs it iter tg && notSet iter && ckA scope (relS scope rs) ifs cs && ckE scope (relS scope rs) e' elt
    | _ => false
  | _, _ => false
def ckEs (os rs : Scope) : Ex → List Expr → Bool
  | .nl, l => match l with
    | [] => true
    | _ => false
  | .cs a r, l => match l with
    | e :: es => notStar e && ckE os rs a e && ckEs os rs r es
    | _ => false
  | _, _ => false
def ckL (os rs : Scope) : Ex → List Expr → Bool
  | .cs a .nl, l => match l with
    | [e] => ckE os rs a e
    | _ => false
  | .cs a r, l => match l with
    | e :: f :: es => ckE os rs a e && ckL os rs r (f :: es)
    | _ => false
  | _, _ => false
def ckT (os rs : Scope) : Ex → Expr → Bool
  | .tt x, e => ckE os rs x e && (plainT e || match e, x with
    | .Compare _ [_] [_] _, .cmp .. => true
    | .Compare _ [_, _] [_, _] _, .chain .. => true
    | _, _ => false)
  | .no x, e => match e with
    | .UnaryOp .Not l _ => ckT os rs x l
    | _ => false
  | .an x, e => match e with
    | .BoolOp .And l _ => ckTl os rs x l
    | _ => false
  | .orr x, e => match e with
    | .BoolOp .Or l _ => ckTl os rs x l
    | _ => false
  | _, _ => false
def ckTl (os rs : Scope) : Ex → List Expr → Bool
  | .cs a .nl, l => match l with
    | [e] => ckT os rs a e
    | _ => false
  | .cs a r, l => match l with
    | e :: f :: es => ckT os rs a e && ckTl os rs r (f :: es)
    | _ => false
  | _, _ => false
def ckA (os rs : Scope) : Ex → List Expr → Bool
  | .nl, l => match l with
    | [] => true
    | _ => false
  | .cs a .nl, l => match l with
    | [e] => ckT os rs a e
    | _ => false
  | _, _ => false
def ckP (os rs : Scope) : Ex → Option Expr → Bool
  | .nl, o => match o with
    | none => true
    | _ => false
  | .cs a _, o => match o with
    | some e => ckE os rs a e
    | none => false
  | _, _ => false
def ckI (os rs : Scope) : Ex → Expr → Expr → Bool
  | .iSeq x, e, _ => ckE os rs x e
  | .iRng x, e, _ => match e with
    | .Call (.Name n _) [a] [] _ => decide (n = Str.ofString "range") && glB rs n && notStar a && ckE os rs x a
    | _ => false
  | .iRng2 x y, e, _ => match e with
    | .Call (.Name n _) [a, b] [] _ => decide (n = Str.ofString "range") && glB rs n && notStar a && notStar b && ckE os rs x a && ckE os rs y b
    | _ => false
  | _, _, _ => false
end
end
end Pv
end

section
set_option maxRecDepth 10000
set_option maxHeartbeats 4000000
namespace Pv
open PySem PySem.Spec L2
open PyProof.Rows hiding St

/-! ## the syntax' reading is sound -/
structure Cc (C : Ck) (G : Gk) (call : Nat → List W → Sto → R W) (k : Nat) (os rs : Scope) (Wx : WX) (X : Cx) : Prop where
  cw : Cw G X
  N : X.N = C.N
  nd : X.N.Nodup
  sc : X.env.scope = rs
  fn : ∀ x, os.names.lookup x = some .cell → X.fn x = true
  blt : ∀ x, x ∈ bltN → X.mg x = none
  room : Room k X.A
  fns : ∀ (i : Nat) (x : Str), C.fns[i]? = some x → ∃ f fd ps n, X.mg x = some (.ref f) ∧ PySem.W.keepIn X.K (.ref f) = true ∧ Binds X.K fd ps [] ∧ C.ar[i]? = some n ∧ FnG X.prog X.w X.K X.mg X.base k f fd ps (spF G call i n)
  ar : ∀ (i n : Nat) (ws : List W) (S : Sto), C.ar[i]? = some n → ((∃ w S', call i ws S = .ok w S') ∨ (∃ x S', call i ws S = .exc x S')) → ws.length = n
  tk : Takes X Wx
theorem Cc.blk {C : Ck} {G : Gk} {call : Nat → List W → Sto → R W} {k : Nat} {os rs : Scope} {Wx : WX} {X : Cx} (c : Cc C G call k os rs Wx X) (s : Shared) (H : Hp) (scope : Scope) (cl : List (Str × Addr)) (C' : Addr) (fp : List Addr) :
    Cc C G call k scope (relS scope rs) noW (X.blk s H scope (compEnvC scope cl C' X.env) fp) :=
  ⟨⟨c.cw.K, c.cw.calm, c.cw.room, c.cw.guards, c.cw.mods⟩, c.N, c.nd, by show relS scope X.env.scope = _; rw [c.sc], fun x h => by show (scope.names.lookup x == some NameKind.cell) = true; rw [h]; rfl, c.blt, c.room, c.fns, c.ar, takes0⟩

section
variable {X : Cx}
theorem star_of {e : Expr} {es : List Expr} (h : notStar e = true) : starEach (e :: es) X.env = (false, eval e X.env) :: starEach es X.env := by
  cases e <;> first | rfl | cases h
theorem stars_of {pos : Pos} : ∀ {es : List Expr}, es.all notStar = true → (backTo pos (starEach es X.env)).any (·.1) = false
  | [], _ => rfl
  | e :: es, h => by
    simp only [List.all_cons, Bool.and_eq_true] at h
    rw [star_of h.1]
    show (false || (backTo pos (starEach es X.env)).any (·.1)) = false
    rw [stars_of h.2]; rfl
theorem set_of {e : Expr} (h : notSet e = true) (x : Value) : foldedSetIterable e X.env x = pure x := by
  cases e <;> first | rfl | cases h
theorem plain_of {e : Expr} (h : plainT e = true) (whole : Sem Value) : isTrue e X.env whole = (do let v ← whole; standAt e.pos; holding [v] (truthy v)) := by
  cases e <;> first | rfl | cases h
theorem ix_of {e : Expr} (h : notSlice e = true) : PlainIx e := by
  intro o i
  cases e <;> first | rfl | cases h
theorem sup_of {e : Expr} {name : Str} (h : notSup e = true) : attributeBase e name X.env (eval e X.env) = eval e X.env := by
  unfold attributeBase
  split
  · cases h
  · rfl
theorem vis_of {rs : Scope} {x : Str} (hs : X.env.scope = rs) (h : visB rs x = true) : Vis X.env.scope x := by
  rw [hs]
  unfold visB at h
  unfold Vis
  split at h <;> simp_all
theorem gl_of {rs : Scope} {x : Str} (hs : X.env.scope = rs) (h : glB rs x = true) : Gl X x := by
  show X.env.scope.names.lookup x = _
  rw [hs]
  unfold glB at h
  split at h <;> simp_all
theorem st_of {C : Ck} {G : Gk} {call : Nat → List W → Sto → R W} {k : Nat} {os rs : Scope} {Wx : WX} (c : Cc C G call k os rs Wx X) {x : Str} (h : stB os rs x = true) : L2.Loc X.env.scope x ∧ (X.fn x = true ∨ X.env.scope.names.lookup x = some .local) := by
  unfold stB at h
  rw [c.sc]
  unfold L2.Loc
  split at h
  · rename_i h1 h2
    exact ⟨.inl h2, .inr h2⟩
  · rename_i h1 h2
    exact ⟨.inr h2, .inl (c.fn x h1)⟩
  · cases h
theorem okN_of {x : Str} (h : okN x = true) : (x == ("__debug__" : Str)) = false ∧ (x == ("__classdict__" : Str)) = false ∧ x ≠ "__name__" := by
  unfold okN at h
  simp only [Bool.and_eq_true, Bool.not_eq_true'] at h
  exact ⟨h.1.1, h.1.2, by simpa using h.2⟩
theorem blt_ok {x : Str} (h : x ∈ bltN) : (x == ("__debug__" : Str)) = false ∧ x ≠ "__name__" := by
  have : ∀ y ∈ bltN, ((!(y == ("__debug__" : Str))) && (!(y == ("__name__" : Str)))) = true := by decide +kernel
  have := this x h
  simp only [Bool.and_eq_true, Bool.not_eq_true'] at this
  exact ⟨this.1, by simpa using this.2⟩
theorem biN_in (b : BI) : Str.ofString (biN b) ∈ bltN := by cases b <;> decide +kernel
theorem kdN_in (b : Kd) : Str.ofString (kdN b) ∈ bltN := by cases b <;> decide +kernel
theorem isi_in : Str.ofString "isinstance" ∈ bltN := by decide +kernel
theorem rng_in : Str.ofString "range" ∈ bltN := by decide +kernel
theorem kd_boot (b : Kd) : bootBuiltins (Str.ofString (kdN b)) = some (.type (kdN b)) := by cases b <;> decide +kernel
theorem bi_bootB (b : BI) (h : biB b = true) : bootBuiltins (Str.ofString (biN b)) = some (.builtin (biN b)) := by cases b <;> first | decide +kernel | cases h
theorem bi_bootT (b : BI) (h : biB b = false) : bootBuiltins (Str.ofString (biN b)) = some (.type (biN b)) := by cases b <;> first | decide +kernel | cases h
theorem isi_boot : bootBuiltins (Str.ofString "isinstance") = some (.builtin "isinstance") := by decide +kernel
end
section
variable {X : Cx} {G : Gk} (C : Cw G X)
include C
theorem bi_okB (b : BI) (h : biB b = true) : CallR X (.builtin (biN b)) (rFn G (biF b)) := by
  cases b <;> first | exact fLen_ok C | exact fAbs_ok C | exact fAll_ok C | exact fAny_ok C | exact fRepr_ok C | exact fSorted_ok C | cases h
theorem bi_okT (b : BI) (h : biB b = false) : CallR X (.type (biN b)) (rFn G (biF b)) := by
  cases b <;> first | exact fTuple_ok C | exact fList_ok C | exact fInt_ok C | cases h
theorem op_okA (o : Operator) (h : (match o with | .Add | .Sub | .Mult | .FloorDiv | .Mod | .Pow => true | _ => false) = true) : OpR X (binaryOp o) (rF2 G (binF o)) := by
  cases o <;> first | exact fAdd_ok C.K | exact fSub_ok | exact fMul_ok C.K | exact fDiv_ok | exact fMod_ok | exact fPow_ok | cases h
theorem cmp_ok (o : CmpOp) : OpR X (compareOp o) (rF2 G (cmpF o)) := by
  cases o
  · exact fEq_ok C
  · exact fNe_ok C
  · exact fLt_ok C
  · exact fLe_ok C
  · exact fGt_ok C
  · exact fGe_ok C
  · exact fIs_ok
  · exact fIsNot_ok
  · exact fIn_ok C
  · exact fNotIn_ok C
end
/-! ### targets -/
section
variable {C : Ck} {G : Gk} {call : Nat → List W → Sto → R W} {k : Nat} {os rs : Scope} {Wx : WX} {X : Cx}
def plainTg : Expr → Bool
  | .Name .. => true
  | .Tuple .. => true
  | _ => false
theorem each_of {e : Expr} {es : List Expr} (h : plainTg e = true) : assignEach (e :: es) X.env = (false, assign e X.env) :: assignEach es X.env := by
  cases e <;> first | rfl | cases h
theorem ckG_plain {t : Tg} {e : Expr} (h : ckG C os rs t e = true) : plainTg e = true := by
  cases t with
  | n i => unfold ckG at h; split at h <;> first | rfl | cases h
  | nl => unfold ckG at h; cases h
  | cs a r => unfold ckG at h; split at h <;> first | rfl | cases h
theorem ckGs_facts : ∀ {r a : Tg} {es : List Expr}, ckG.ckGs C os rs a r es = true → (assignEach es X.env).length = tgLen (.cs a r) ∧ (assignEach es X.env).findIdx? (·.1) = none := by
  intro r
  induction r with
  | n i => intro a es h; cases es <;> simp [ckG.ckGs] at h
  | nl =>
    intro a es h
    cases es with
    | nil => simp [ckG.ckGs] at h
    | cons e es =>
      cases es with
      | nil =>
        unfold ckG.ckGs at h
        rw [each_of (ckG_plain h)]
        exact ⟨rfl, rfl⟩
      | cons f es => simp [ckG.ckGs] at h
  | cs b r iha ihr =>
    intro a es h
    cases es with
    | nil => simp [ckG.ckGs] at h
    | cons e es =>
      unfold ckG.ckGs at h
      simp only [Bool.and_eq_true] at h
      obtain ⟨h1, h2⟩ := ihr h.2
      rw [each_of (ckG_plain h.1)]
      refine ⟨by simp [h1, tgLen], ?_⟩
      rw [List.findIdx?_cons, h2]
      rfl
mutual
theorem tg_ok (c : Cc C G call k os rs Wx X) : ∀ {t : Tg} {e : Expr}, ckG C os rs t e = true → PG X e (tGW G t)
  | .n i, e, h => by
    unfold ckG at h
    split at h
    · simp only [Bool.and_eq_true, decide_eq_true_eq] at h
      obtain ⟨h1, h2⟩ := st_of c h.2
      exact g_n c.nd (by rw [c.N]; exact h.1) h1 h2
    · cases h
  | .nl, e, h => by unfold ckG at h; cases h
  | .cs a r, e, h => by
    unfold ckG at h
    split at h
    · obtain ⟨h1, h2⟩ := ckGs_facts (X := X) h
      exact g_row c.cw.K c.cw.calm (tgs_ok c h) h1 h2
    · cases h
theorem tgs_ok (c : Cc C G call k os rs Wx X) : ∀ {a r : Tg} {es : List Expr}, ckG.ckGs C os rs a r es = true → PGs X es (tGWs G (.cs a r))
  | a, .nl, [], h => by simp [ckG.ckGs] at h
  | a, .nl, [e], h => by
    unfold ckG.ckGs at h
    exact gs_cons (tg_ok c h) gs_nil (by rw [each_of (ckG_plain h)]; rfl)
  | a, .nl, e :: f :: es, h => by simp [ckG.ckGs] at h
  | a, .n i, es, h => by cases es <;> simp [ckG.ckGs] at h
  | a, .cs b r, [], h => by simp [ckG.ckGs] at h
  | a, .cs b r, e :: es, h => by
    unfold ckG.ckGs at h
    simp only [Bool.and_eq_true] at h
    exact gs_cons (tg_ok c h.1) (tgs_ok c h.2) (by rw [each_of (ckG_plain h.1)]; rfl)
end
theorem tgr_ok (c : Cc C G call k os rs Wx X) {t : Tg} {e : Expr} (h : ckG C os rs t e = true) : PG X e (tGR G t) := by
  cases t with
  | n i =>
    have h0 := tg_ok c h
    unfold ckG at h
    split at h
    · exact gr_n h0
    · cases h
  | nl => unfold ckG at h; cases h
  | cs a r =>
    unfold ckG at h
    split at h
    · obtain ⟨h1, h2⟩ := ckGs_facts (X := X) h
      exact gr_row c.cw.K c.cw.calm (tgs_ok c h) h1 h2
    · cases h
end
end Pv
end

section
set_option maxRecDepth 10000
set_option maxHeartbeats 4000000
namespace Pv
open PySem PySem.Spec L2
open PyProof.Rows hiding St

theorem own_map (C : Ck) (own : List Nat) : (own.map fun i => (C.N.getD i Str.empty, i)).map (·.2) = own := by
  rw [List.map_map]
  exact List.map_id' own
section
variable {C : Ck} {G : Gk} {call : Nat → List W → Sto → R W} {k : Nat}
mutual
theorem sE : ∀ (x : Ex) {os rs : Scope} {Wx : WX} {X : Cx} (c : Cc C G call k os rs Wx X) {e : Expr}, ckE C os rs x e = true → PE X e (tE G Wx (evE call x))
  | .v i, os, rs, Wx, X, c, e, h => by
    unfold ckE at h
    split at h
    · simp only [Bool.and_eq_true, decide_eq_true_eq] at h
      have := okN_of h.2
      exact s_v (by rw [c.N]; exact h.1.1) (vis_of c.sc h.1.2) this.1 this.2.1
    · cases h
  | .k d, os, rs, Wx, X, c, e, h => by
    unfold ckE at h
    split at h
    · exact s_k h
    · cases h
  | .tup es, os, rs, Wx, X, c, e, h => by
    unfold ckE at h
    split at h
    · exact s_tup (sEs es c h)
    · cases h
  | .lst m es, os, rs, Wx, X, c, e, h => by
    unfold ckE at h
    split at h
    · exact s_lst (sEs es c h)
    · cases h
  | .op o a b, os, rs, Wx, X, c, e, h => by
    unfold ckE at h
    split at h
    · simp only [Bool.and_eq_true, decide_eq_true_eq] at h
      obtain ⟨⟨⟨h1, h2⟩, h3⟩, h4⟩ := h
      subst h1
      exact s_op (op_okA c.cw _ h4) (sE a c h2) (sE b c h3)
    · cases h
  | .neg a, os, rs, Wx, X, c, e, h => by
    unfold ckE at h
    split at h
    · exact s_neg (sE a c h)
    · cases h
  | .cmp o a b, os, rs, Wx, X, c, e, h => by
    unfold ckE at h
    split at h
    · simp only [Bool.and_eq_true, decide_eq_true_eq, Bool.not_eq_true'] at h
      obtain ⟨⟨⟨h1, h2⟩, h3⟩, h4⟩ := h
      subst h1
      exact s_cmp (Pv.cmp_ok c.cw _) (sE a c h3) (sE b c h4) h2
    · cases h
  | .chain o o' a b d, os, rs, Wx, X, c, e, h => by
    unfold ckE at h
    split at h
    · simp only [Bool.and_eq_true, decide_eq_true_eq, Bool.not_eq_true'] at h
      obtain ⟨⟨⟨⟨⟨h1, h2⟩, h3⟩, h4⟩, h5⟩, h6⟩ := h
      subst h1; subst h2
      exact s_chain (Pv.cmp_ok c.cw _) (Pv.cmp_ok c.cw _) (sE a c h4) (sE b c h5) (sE d c h6) h3
    · cases h
  | .an es, os, rs, Wx, X, c, e, h => by
    unfold ckE at h
    split at h
    · have := sAn es c (pos := by assumption) h
      exact PE.imp this fun σ H Q q => by
        obtain ⟨ρ, τ, S, env, sm, q⟩ := q
        unfold evE at q
        exact ⟨ρ, τ, S, env, sm, q⟩
    · cases h
  | .orr es, os, rs, Wx, X, c, e, h => by
    unfold ckE at h
    split at h
    · have := sOr es c (pos := by assumption) h
      exact PE.imp this fun σ H Q q => by
        obtain ⟨ρ, τ, S, env, sm, q⟩ := q
        unfold evE at q
        exact ⟨ρ, τ, S, env, sm, q⟩
    · cases h
  | .no a, os, rs, Wx, X, c, e, h => by
    unfold ckE at h
    split at h
    · exact s_no (sE a c h)
    · cases h
  | .ife t a b, os, rs, Wx, X, c, e, h => by
    unfold ckE at h
    split at h
    · simp only [Bool.and_eq_true] at h
      exact s_ife (sT t c h.1.1) (sE a c h.1.2) (sE b c h.2)
    · cases h
  | .ix a b, os, rs, Wx, X, c, e, h => by
    unfold ckE at h
    split at h
    · simp only [Bool.and_eq_true] at h
      exact s_ix (fIx_ok c.cw) (sE a c h.1.2) (sE b c h.2) (ix_of h.1.1)
    · cases h
  | .sl a lo hi, os, rs, Wx, X, c, e, h => by
    unfold ckE at h
    split at h
    · simp only [Bool.and_eq_true] at h
      exact s_sl (fSl_ok c.cw) (sE a c h.1.1) (sP lo c h.1.2) (sP hi c h.2)
    · cases h
  | .call f es, os, rs, Wx, X, c, e, h => by
    unfold ckE at h
    split at h
    · simp only [Bool.and_eq_true, decide_eq_true_eq] at h
      obtain ⟨⟨⟨⟨h1, h2⟩, h3⟩, h4⟩, h5⟩ := h
      obtain ⟨fa, fd, ps, n, hm, hk, hb, hn, F⟩ := c.fns f _ h1
      have hx := okN_of h3
      have hcx : ∀ (pins : List (Addr × Obj)) (σ : St) (H : Hp) (s : Shared) (e : Value) (s' : Shared), L2.Inv X pins σ H s → L2.CX X.prog X.w X.stack H s (fun c d H' => Wx c d σ H') e s' → X.xe e s' := fun pins σ H s e s' I q => c.tk e s' (XE.of_call I (fun _ _ _ h => h) q)
      rename_i x p l pos
      have ha := sEs es c h5
      cases l with
      | nil =>
        refine PE.imp (pe_callG0 F c.room c.cw.guards (gl_of c.sc h2) hm hk hb hcx hx.1) fun σ H Q q => ?_
        have q2 := call_ok (n := n) (fun vs H ρ ws r S hh => by rw [← Paired.length r]; exact c.ar f n ws S hn hh) q
        cases es with
        | nl =>
          obtain ⟨ρ, τ, S, env, sm, q2⟩ := q2
          unfold evEs at q2
          exact q2.done sm .nil
        | cs a r => unfold ckEs at h5; simp at h5
        | _ => unfold ckEs at h5; cases h5
      | cons a l =>
        simp only [List.all_cons, Bool.and_eq_true] at h4
        refine PE.imp (pe_callG F c.room c.cw.guards (gl_of c.sc h2) hm hk hb hcx ha hx.1 (star_of h4.1) (stars_of h4.2)) fun σ H Q q => ?_
        exact call_ok (n := n) (fun vs H ρ ws r S hh => by rw [← Paired.length r]; exact c.ar f n ws S hn hh) q
    · cases h
  | .bi b es, os, rs, Wx, X, c, e, h => by
    unfold ckE at h
    split at h
    · simp only [Bool.and_eq_true, decide_eq_true_eq] at h
      obtain ⟨⟨⟨⟨h1, h2⟩, h3⟩, h4⟩, h5⟩ := h
      subst h1
      have hx := blt_ok (biN_in b)
      have hm := c.blt _ (biN_in b)
      cases e : biB b with
      | true => exact s_biB (bi_okB c.cw b e) (gl_of c.sc h2) hm (bi_bootB b e) hx.2 hx.1 (sEs es c h5) (star_of h3) (stars_of h4)
      | false => exact s_biT (bi_okT c.cw b e) (gl_of c.sc h2) hm (bi_bootT b e) hx.2 hx.1 (sEs es c h5) (star_of h3) (stars_of h4)
    · cases h
  | .me m o es, os, rs, Wx, X, c, e, h => by
    unfold ckE at h
    split at h
    · simp only [Bool.and_eq_true, decide_eq_true_eq] at h
      obtain ⟨⟨⟨⟨⟨⟨h1, h2⟩, h3⟩, h4⟩, h5⟩, h6⟩, h7⟩ := h
      subst h1
      have ha := sE o c h6
      have hb := sEs es c h7
      cases m with
      | append => exact s_me c.cw.K PySem.F.slot_list_append PySem.F.type_list_append (fAppend_ok c.cw) ha hb (sup_of h3) h4 (star_of h5)
      | extend => exact s_me c.cw.K PySem.F.slot_list_extend PySem.F.type_list_extend (fExtend_ok c.cw) ha hb (sup_of h3) h4 (star_of h5)
      | popAt => exact s_me c.cw.K PySem.F.slot_list_pop PySem.F.type_list_pop (fPopAt_ok c.cw) ha hb (sup_of h3) h4 (star_of h5)
      | pop => cases h2
    · simp only [Bool.and_eq_true, decide_eq_true_eq] at h
      obtain ⟨⟨⟨⟨⟨h1, h2⟩, h3⟩, h4⟩, h5⟩, h6⟩ := h
      subst h1
      have ha := sE o c h5
      cases es with
      | nl =>
        cases m with
        | pop => exact s_me0 c.cw.K PySem.F.slot_list_pop PySem.F.type_list_pop (fPop_ok c.cw) ha (sup_of h3) h4
        | _ => cases h2
      | _ => cases h6
    · cases h
  | .isi a T, os, rs, Wx, X, c, e, h => by
    unfold ckE at h
    split at h
    · simp only [Bool.and_eq_true, decide_eq_true_eq] at h
      obtain ⟨⟨⟨⟨⟨h1, h2⟩, h3⟩, h4⟩, h5⟩, h6⟩ := h
      subst h1; subst h2
      have hx := blt_ok isi_in
      have hy := blt_ok (kdN_in T)
      exact s_isi c.cw.K (gl_of c.sc h3) (c.blt _ isi_in) isi_boot (gl_of c.sc h4) (c.blt _ (kdN_in T)) (kd_boot T) hx.2 hx.1 hy.2 hy.1 (sE a c h6) (star_of h5)
    · cases h
  | .lc m own t it ifs e', os, rs, Wx, X, c, e, h => by
    unfold ckE at h
    split at h
    · rename_i elt tg iter cs isa scope pos
      simp only [Bool.and_eq_true, decide_eq_true_eq] at h
      obtain ⟨⟨⟨⟨⟨⟨⟨h1, h2⟩, h3⟩, h4⟩, h5⟩, h6⟩, h7⟩, h8⟩ := h
      subst h1
      have hown := own_map C own
      have hb : BlkOk X.N X.env.scope scope (own.map fun i => (C.N.getD i Str.empty, i)) := by rw [c.N, c.sc]; exact blkOk_by h2
      have := s_lc (X := X) (G := G) (Wx := Wx) (call := call) (m := m) (own := own.map fun i => (C.N.getD i Str.empty, i)) (t := t) (pos := pos) c.cw.calm c.nd (sI it c h5) hb
        (fun s H C' cl fp => tgr_ok (c.blk s H scope cl C' fp) h4) (fun s H C' cl fp => sA ifs (c.blk s H scope cl C' fp) h7) (fun s H C' cl fp => sE e' (c.blk s H scope cl C' fp) h8) (set_of h6) (by rw [hown]; exact h3)
      rw [hown] at this
      exact this
    · cases h
  | .nl, os, rs, Wx, X, c, e, h => by unfold ckE at h; cases h
  | .cs a r, os, rs, Wx, X, c, e, h => by unfold ckE at h; cases h
  | .tt a, os, rs, Wx, X, c, e, h => by unfold ckE at h; cases h
  | .iSeq a, os, rs, Wx, X, c, e, h => by unfold ckE at h; cases h
  | .iRng a, os, rs, Wx, X, c, e, h => by unfold ckE at h; cases h
  | .iRng2 a b, os, rs, Wx, X, c, e, h => by unfold ckE at h; cases h
  | .iEnum a, os, rs, Wx, X, c, e, h => by unfold ckE at h; cases h
  | .iZip a b, os, rs, Wx, X, c, e, h => by unfold ckE at h; cases h
theorem sEs : ∀ (x : Ex) {os rs : Scope} {Wx : WX} {X : Cx} (c : Cc C G call k os rs Wx X) {l : List Expr}, ckEs C os rs x l = true → PA X l (tAs G Wx (evEs call x))
  | .nl, os, rs, Wx, X, c, l, h => by
    unfold ckEs at h
    split at h
    · exact s_nil
    · cases h
  | .cs a r, os, rs, Wx, X, c, l, h => by
    unfold ckEs at h
    split at h
    · simp only [Bool.and_eq_true] at h
      exact s_cons (sE a c h.1.2) (sEs r c h.2) (star_of h.1.1)
    · cases h
  | .v _, os, rs, Wx, X, c, l, h | .k _, os, rs, Wx, X, c, l, h | .tup _, os, rs, Wx, X, c, l, h | .lst _ _, os, rs, Wx, X, c, l, h | .op _ _ _, os, rs, Wx, X, c, l, h | .neg _, os, rs, Wx, X, c, l, h
  | .cmp _ _ _, os, rs, Wx, X, c, l, h | .chain _ _ _ _ _, os, rs, Wx, X, c, l, h | .an _, os, rs, Wx, X, c, l, h | .orr _, os, rs, Wx, X, c, l, h | .no _, os, rs, Wx, X, c, l, h | .ife _ _ _, os, rs, Wx, X, c, l, h
  | .ix _ _, os, rs, Wx, X, c, l, h | .sl _ _ _, os, rs, Wx, X, c, l, h | .call _ _, os, rs, Wx, X, c, l, h | .bi _ _, os, rs, Wx, X, c, l, h | .me _ _ _, os, rs, Wx, X, c, l, h | .isi _ _, os, rs, Wx, X, c, l, h
  | .lc _ _ _ _ _ _, os, rs, Wx, X, c, l, h | .tt _, os, rs, Wx, X, c, l, h | .iSeq _, os, rs, Wx, X, c, l, h | .iRng _, os, rs, Wx, X, c, l, h | .iRng2 _ _, os, rs, Wx, X, c, l, h | .iEnum _, os, rs, Wx, X, c, l, h | .iZip _ _, os, rs, Wx, X, c, l, h => by
    unfold ckEs at h; cases h
theorem sAn : ∀ (x : Ex) {os rs : Scope} {Wx : WX} {X : Cx} (c : Cc C G call k os rs Wx X) {l : List Expr} {pos : Pos}, ckL C os rs x l = true → PE X (.BoolOp .And l pos) (tE G Wx (evAn call x))
  | .cs a r, os, rs, Wx, X, c, l, pos, h => by
    unfold ckL at h
    split at h
    · rename_i heq
      cases heq
      split at h
      · exact s_an1 (sE a c h)
      · cases h
    · rename_i heq
      cases heq
      split at h
      · simp only [Bool.and_eq_true] at h
        cases r with
        | cs b r => exact s_an2 (sE a c h.1) (sAn (.cs b r) c h.2)
        | _ => have := h.2; unfold ckL at this; cases this
      · cases h
    · cases h
  | .nl, os, rs, Wx, X, c, l, pos, h | .v _, os, rs, Wx, X, c, l, pos, h | .k _, os, rs, Wx, X, c, l, pos, h | .tup _, os, rs, Wx, X, c, l, pos, h | .lst _ _, os, rs, Wx, X, c, l, pos, h | .op _ _ _, os, rs, Wx, X, c, l, pos, h | .neg _, os, rs, Wx, X, c, l, pos, h
  | .cmp _ _ _, os, rs, Wx, X, c, l, pos, h | .chain _ _ _ _ _, os, rs, Wx, X, c, l, pos, h | .an _, os, rs, Wx, X, c, l, pos, h | .orr _, os, rs, Wx, X, c, l, pos, h | .no _, os, rs, Wx, X, c, l, pos, h | .ife _ _ _, os, rs, Wx, X, c, l, pos, h
  | .ix _ _, os, rs, Wx, X, c, l, pos, h | .sl _ _ _, os, rs, Wx, X, c, l, pos, h | .call _ _, os, rs, Wx, X, c, l, pos, h | .bi _ _, os, rs, Wx, X, c, l, pos, h | .me _ _ _, os, rs, Wx, X, c, l, pos, h | .isi _ _, os, rs, Wx, X, c, l, pos, h
  | .lc _ _ _ _ _ _, os, rs, Wx, X, c, l, pos, h | .tt _, os, rs, Wx, X, c, l, pos, h | .iSeq _, os, rs, Wx, X, c, l, pos, h | .iRng _, os, rs, Wx, X, c, l, pos, h | .iRng2 _ _, os, rs, Wx, X, c, l, pos, h | .iEnum _, os, rs, Wx, X, c, l, pos, h | .iZip _ _, os, rs, Wx, X, c, l, pos, h => by
    unfold ckL at h; cases h
theorem sOr : ∀ (x : Ex) {os rs : Scope} {Wx : WX} {X : Cx} (c : Cc C G call k os rs Wx X) {l : List Expr} {pos : Pos}, ckL C os rs x l = true → PE X (.BoolOp .Or l pos) (tE G Wx (evOr call x))
  | .cs a r, os, rs, Wx, X, c, l, pos, h => by
    unfold ckL at h
    split at h
    · rename_i heq
      cases heq
      split at h
      · exact s_or1 (sE a c h)
      · cases h
    · rename_i heq
      cases heq
      split at h
      · simp only [Bool.and_eq_true] at h
        cases r with
        | cs b r => exact s_or2 (sE a c h.1) (sOr (.cs b r) c h.2)
        | _ => have := h.2; unfold ckL at this; cases this
      · cases h
    · cases h
  | .nl, os, rs, Wx, X, c, l, pos, h | .v _, os, rs, Wx, X, c, l, pos, h | .k _, os, rs, Wx, X, c, l, pos, h | .tup _, os, rs, Wx, X, c, l, pos, h | .lst _ _, os, rs, Wx, X, c, l, pos, h | .op _ _ _, os, rs, Wx, X, c, l, pos, h | .neg _, os, rs, Wx, X, c, l, pos, h
  | .cmp _ _ _, os, rs, Wx, X, c, l, pos, h | .chain _ _ _ _ _, os, rs, Wx, X, c, l, pos, h | .an _, os, rs, Wx, X, c, l, pos, h | .orr _, os, rs, Wx, X, c, l, pos, h | .no _, os, rs, Wx, X, c, l, pos, h | .ife _ _ _, os, rs, Wx, X, c, l, pos, h
  | .ix _ _, os, rs, Wx, X, c, l, pos, h | .sl _ _ _, os, rs, Wx, X, c, l, pos, h | .call _ _, os, rs, Wx, X, c, l, pos, h | .bi _ _, os, rs, Wx, X, c, l, pos, h | .me _ _ _, os, rs, Wx, X, c, l, pos, h | .isi _ _, os, rs, Wx, X, c, l, pos, h
  | .lc _ _ _ _ _ _, os, rs, Wx, X, c, l, pos, h | .tt _, os, rs, Wx, X, c, l, pos, h | .iSeq _, os, rs, Wx, X, c, l, pos, h | .iRng _, os, rs, Wx, X, c, l, pos, h | .iRng2 _ _, os, rs, Wx, X, c, l, pos, h | .iEnum _, os, rs, Wx, X, c, l, pos, h | .iZip _ _, os, rs, Wx, X, c, l, pos, h => by
    unfold ckL at h; cases h
theorem sT : ∀ (x : Ex) {os rs : Scope} {Wx : WX} {X : Cx} (c : Cc C G call k os rs Wx X) {e : Expr}, ckT C os rs x e = true → PT X e (tTs G Wx (evT call x))
  | .tt x, os, rs, Wx, X, c, e, h => by
    unfold ckT at h
    simp only [Bool.and_eq_true, Bool.or_eq_true] at h
    obtain ⟨h1, h2⟩ := h
    rcases h2 with h2 | h2
    · exact st_tt c.cw.K (sE x c h1) (plain_of h2)
    · cases x with
      | cmp o a b =>
        unfold ckE at h1
        split at h1
        · simp only [Bool.and_eq_true, decide_eq_true_eq, Bool.not_eq_true'] at h1
          obtain ⟨⟨⟨g1, g2⟩, g3⟩, g4⟩ := h1
          subst g1
          exact st_cmp (Pv.cmp_ok c.cw _) (sE a c g3) (sE b c g4) g2
        · cases h1
      | chain o o' a b d =>
        unfold ckE at h1
        split at h1
        · simp only [Bool.and_eq_true, decide_eq_true_eq, Bool.not_eq_true'] at h1
          obtain ⟨⟨⟨⟨⟨g1, g2⟩, g3⟩, g4⟩, g5⟩, g6⟩ := h1
          subst g1; subst g2
          exact st_chain (Pv.cmp_ok c.cw _) (Pv.cmp_ok c.cw _) (sE a c g4) (sE b c g5) (sE d c g6) g3
        · cases h1
      | _ => split at h2 <;> first | (rename_i heq; cases heq) | cases h2
  | .no x, os, rs, Wx, X, c, e, h => by
    unfold ckT at h
    split at h
    · exact st_no (sT x c h)
    · cases h
  | .an x, os, rs, Wx, X, c, e, h => by
    unfold ckT at h
    split at h
    · exact PT.imp (sTa x c h).pt fun σ H Q q => by
        obtain ⟨ρ, τ, S, env, sm, q⟩ := q
        unfold evT at q
        exact ⟨ρ, τ, S, env, sm, q⟩
    · cases h
  | .orr x, os, rs, Wx, X, c, e, h => by
    unfold ckT at h
    split at h
    · exact PT.imp (sTo x c h).pt fun σ H Q q => by
        obtain ⟨ρ, τ, S, env, sm, q⟩ := q
        unfold evT at q
        exact ⟨ρ, τ, S, env, sm, q⟩
    · cases h
  | .nl, os, rs, Wx, X, c, e, h | .cs _ _, os, rs, Wx, X, c, e, h | .v _, os, rs, Wx, X, c, e, h | .k _, os, rs, Wx, X, c, e, h | .tup _, os, rs, Wx, X, c, e, h | .lst _ _, os, rs, Wx, X, c, e, h | .op _ _ _, os, rs, Wx, X, c, e, h | .neg _, os, rs, Wx, X, c, e, h
  | .cmp _ _ _, os, rs, Wx, X, c, e, h | .chain _ _ _ _ _, os, rs, Wx, X, c, e, h | .ife _ _ _, os, rs, Wx, X, c, e, h
  | .ix _ _, os, rs, Wx, X, c, e, h | .sl _ _ _, os, rs, Wx, X, c, e, h | .call _ _, os, rs, Wx, X, c, e, h | .bi _ _, os, rs, Wx, X, c, e, h | .me _ _ _, os, rs, Wx, X, c, e, h | .isi _ _, os, rs, Wx, X, c, e, h
  | .lc _ _ _ _ _ _, os, rs, Wx, X, c, e, h | .iSeq _, os, rs, Wx, X, c, e, h | .iRng _, os, rs, Wx, X, c, e, h | .iRng2 _ _, os, rs, Wx, X, c, e, h | .iEnum _, os, rs, Wx, X, c, e, h | .iZip _ _, os, rs, Wx, X, c, e, h => by
    unfold ckT at h; cases h
theorem sTa : ∀ (x : Ex) {os rs : Scope} {Wx : WX} {X : Cx} (c : Cc C G call k os rs Wx X) {l : List Expr} {pos : Pos}, ckTl C os rs x l = true → PW X (.BoolOp .And l pos) (tTs G Wx (evTa call x))
  | .cs a r, os, rs, Wx, X, c, l, pos, h => by
    unfold ckTl at h
    split at h
    · rename_i heq
      cases heq
      split at h
      · exact st_an1 (sT a c h)
      · cases h
    · rename_i heq
      cases heq
      split at h
      · simp only [Bool.and_eq_true] at h
        cases r with
        | cs b r => exact st_an2 (sT a c h.1) (sTa (.cs b r) c h.2)
        | _ => have := h.2; unfold ckTl at this; cases this
      · cases h
    · cases h
  | .nl, os, rs, Wx, X, c, l, pos, h | .v _, os, rs, Wx, X, c, l, pos, h | .k _, os, rs, Wx, X, c, l, pos, h | .tup _, os, rs, Wx, X, c, l, pos, h | .lst _ _, os, rs, Wx, X, c, l, pos, h | .op _ _ _, os, rs, Wx, X, c, l, pos, h | .neg _, os, rs, Wx, X, c, l, pos, h
  | .cmp _ _ _, os, rs, Wx, X, c, l, pos, h | .chain _ _ _ _ _, os, rs, Wx, X, c, l, pos, h | .an _, os, rs, Wx, X, c, l, pos, h | .orr _, os, rs, Wx, X, c, l, pos, h | .no _, os, rs, Wx, X, c, l, pos, h | .ife _ _ _, os, rs, Wx, X, c, l, pos, h
  | .ix _ _, os, rs, Wx, X, c, l, pos, h | .sl _ _ _, os, rs, Wx, X, c, l, pos, h | .call _ _, os, rs, Wx, X, c, l, pos, h | .bi _ _, os, rs, Wx, X, c, l, pos, h | .me _ _ _, os, rs, Wx, X, c, l, pos, h | .isi _ _, os, rs, Wx, X, c, l, pos, h
  | .lc _ _ _ _ _ _, os, rs, Wx, X, c, l, pos, h | .tt _, os, rs, Wx, X, c, l, pos, h | .iSeq _, os, rs, Wx, X, c, l, pos, h | .iRng _, os, rs, Wx, X, c, l, pos, h | .iRng2 _ _, os, rs, Wx, X, c, l, pos, h | .iEnum _, os, rs, Wx, X, c, l, pos, h | .iZip _ _, os, rs, Wx, X, c, l, pos, h => by
    unfold ckTl at h; cases h
theorem sTo : ∀ (x : Ex) {os rs : Scope} {Wx : WX} {X : Cx} (c : Cc C G call k os rs Wx X) {l : List Expr} {pos : Pos}, ckTl C os rs x l = true → PW X (.BoolOp .Or l pos) (tTs G Wx (evTo call x))
  | .cs a r, os, rs, Wx, X, c, l, pos, h => by
    unfold ckTl at h
    split at h
    · rename_i heq
      cases heq
      split at h
      · exact st_or1 (sT a c h)
      · cases h
    · rename_i heq
      cases heq
      split at h
      · simp only [Bool.and_eq_true] at h
        cases r with
        | cs b r => exact st_or2 (sT a c h.1) (sTo (.cs b r) c h.2)
        | _ => have := h.2; unfold ckTl at this; cases this
      · cases h
    · cases h
  | .nl, os, rs, Wx, X, c, l, pos, h | .v _, os, rs, Wx, X, c, l, pos, h | .k _, os, rs, Wx, X, c, l, pos, h | .tup _, os, rs, Wx, X, c, l, pos, h | .lst _ _, os, rs, Wx, X, c, l, pos, h | .op _ _ _, os, rs, Wx, X, c, l, pos, h | .neg _, os, rs, Wx, X, c, l, pos, h
  | .cmp _ _ _, os, rs, Wx, X, c, l, pos, h | .chain _ _ _ _ _, os, rs, Wx, X, c, l, pos, h | .an _, os, rs, Wx, X, c, l, pos, h | .orr _, os, rs, Wx, X, c, l, pos, h | .no _, os, rs, Wx, X, c, l, pos, h | .ife _ _ _, os, rs, Wx, X, c, l, pos, h
  | .ix _ _, os, rs, Wx, X, c, l, pos, h | .sl _ _ _, os, rs, Wx, X, c, l, pos, h | .call _ _, os, rs, Wx, X, c, l, pos, h | .bi _ _, os, rs, Wx, X, c, l, pos, h | .me _ _ _, os, rs, Wx, X, c, l, pos, h | .isi _ _, os, rs, Wx, X, c, l, pos, h
  | .lc _ _ _ _ _ _, os, rs, Wx, X, c, l, pos, h | .tt _, os, rs, Wx, X, c, l, pos, h | .iSeq _, os, rs, Wx, X, c, l, pos, h | .iRng _, os, rs, Wx, X, c, l, pos, h | .iRng2 _ _, os, rs, Wx, X, c, l, pos, h | .iEnum _, os, rs, Wx, X, c, l, pos, h | .iZip _ _, os, rs, Wx, X, c, l, pos, h => by
    unfold ckTl at h; cases h
theorem sA : ∀ (x : Ex) {os rs : Scope} {Wx : WX} {X : Cx} (c : Cc C G call k os rs Wx X) {l : List Expr}, ckA C os rs x l = true → PTs X l (tTs G Wx (evAs call x))
  | .nl, os, rs, Wx, X, c, l, h => by
    unfold ckA at h
    split at h
    · exact a_nil
    · cases h
  | .cs a r, os, rs, Wx, X, c, l, h => by
    unfold ckA at h
    split at h
    · rename_i heq; cases heq
    · rename_i heq
      cases heq
      split at h
      · exact a_one (sT a c h)
      · cases h
    · cases h
  | .v _, os, rs, Wx, X, c, l, h | .k _, os, rs, Wx, X, c, l, h | .tup _, os, rs, Wx, X, c, l, h | .lst _ _, os, rs, Wx, X, c, l, h | .op _ _ _, os, rs, Wx, X, c, l, h | .neg _, os, rs, Wx, X, c, l, h
  | .cmp _ _ _, os, rs, Wx, X, c, l, h | .chain _ _ _ _ _, os, rs, Wx, X, c, l, h | .an _, os, rs, Wx, X, c, l, h | .orr _, os, rs, Wx, X, c, l, h | .no _, os, rs, Wx, X, c, l, h | .ife _ _ _, os, rs, Wx, X, c, l, h
  | .ix _ _, os, rs, Wx, X, c, l, h | .sl _ _ _, os, rs, Wx, X, c, l, h | .call _ _, os, rs, Wx, X, c, l, h | .bi _ _, os, rs, Wx, X, c, l, h | .me _ _ _, os, rs, Wx, X, c, l, h | .isi _ _, os, rs, Wx, X, c, l, h
  | .lc _ _ _ _ _ _, os, rs, Wx, X, c, l, h | .tt _, os, rs, Wx, X, c, l, h | .iSeq _, os, rs, Wx, X, c, l, h | .iRng _, os, rs, Wx, X, c, l, h | .iRng2 _ _, os, rs, Wx, X, c, l, h | .iEnum _, os, rs, Wx, X, c, l, h | .iZip _ _, os, rs, Wx, X, c, l, h => by
    unfold ckA at h; cases h
theorem sP : ∀ (x : Ex) {os rs : Scope} {Wx : WX} {X : Cx} (c : Cc C G call k os rs Wx X) {o : Option Expr}, ckP C os rs x o = true → L2.PO X o (tP G Wx (evP call x))
  | .nl, os, rs, Wx, X, c, o, h => by
    unfold ckP at h
    split at h
    · exact s_pn
    · cases h
  | .cs a r, os, rs, Wx, X, c, o, h => by
    unfold ckP at h
    split at h
    · exact s_ps (sE a c h)
    · cases h
  | .v _, os, rs, Wx, X, c, o, h | .k _, os, rs, Wx, X, c, o, h | .tup _, os, rs, Wx, X, c, o, h | .lst _ _, os, rs, Wx, X, c, o, h | .op _ _ _, os, rs, Wx, X, c, o, h | .neg _, os, rs, Wx, X, c, o, h
  | .cmp _ _ _, os, rs, Wx, X, c, o, h | .chain _ _ _ _ _, os, rs, Wx, X, c, o, h | .an _, os, rs, Wx, X, c, o, h | .orr _, os, rs, Wx, X, c, o, h | .no _, os, rs, Wx, X, c, o, h | .ife _ _ _, os, rs, Wx, X, c, o, h
  | .ix _ _, os, rs, Wx, X, c, o, h | .sl _ _ _, os, rs, Wx, X, c, o, h | .call _ _, os, rs, Wx, X, c, o, h | .bi _ _, os, rs, Wx, X, c, o, h | .me _ _ _, os, rs, Wx, X, c, o, h | .isi _ _, os, rs, Wx, X, c, o, h
  | .lc _ _ _ _ _ _, os, rs, Wx, X, c, o, h | .tt _, os, rs, Wx, X, c, o, h | .iSeq _, os, rs, Wx, X, c, o, h | .iRng _, os, rs, Wx, X, c, o, h | .iRng2 _ _, os, rs, Wx, X, c, o, h | .iEnum _, os, rs, Wx, X, c, o, h | .iZip _ _, os, rs, Wx, X, c, o, h => by
    unfold ckP at h; cases h
theorem sI : ∀ (x : Ex) {os rs : Scope} {Wx : WX} {X : Cx} (c : Cc C G call k os rs Wx X) {e tg : Expr}, ckI C os rs x e tg = true → PI X tg e (tI G Wx (evI call x))
  | .iSeq a, os, rs, Wx, X, c, e, tg, h => by
    unfold ckI at h
    exact i_seq c.cw.K (sE a c h)
  | .iRng a, os, rs, Wx, X, c, e, tg, h => by
    unfold ckI at h
    split at h
    · simp only [Bool.and_eq_true, decide_eq_true_eq] at h
      obtain ⟨⟨⟨h1, h2⟩, h3⟩, h4⟩ := h
      subst h1
      exact i_rng (gl_of c.sc h2) (c.blt _ rng_in) (s_cons (sE a c h4) s_nil (star_of h3)) (by rw [star_of h3]; rfl)
    · cases h
  | .iRng2 a b, os, rs, Wx, X, c, e, tg, h => by
    unfold ckI at h
    split at h
    · simp only [Bool.and_eq_true, decide_eq_true_eq] at h
      obtain ⟨⟨⟨⟨⟨h1, h2⟩, h3⟩, h4⟩, h5⟩, h6⟩ := h
      subst h1
      exact i_rng2 (gl_of c.sc h2) (c.blt _ rng_in) (s_cons (sE a c h5) (s_cons (sE b c h6) s_nil (star_of h4)) (star_of h3)) (by rw [star_of h3, star_of h4]; rfl) (by rw [star_of h4]; rfl)
    · cases h
  | .nl, os, rs, Wx, X, c, e, tg, h | .cs _ _, os, rs, Wx, X, c, e, tg, h | .v _, os, rs, Wx, X, c, e, tg, h | .k _, os, rs, Wx, X, c, e, tg, h | .tup _, os, rs, Wx, X, c, e, tg, h | .lst _ _, os, rs, Wx, X, c, e, tg, h | .op _ _ _, os, rs, Wx, X, c, e, tg, h | .neg _, os, rs, Wx, X, c, e, tg, h
  | .cmp _ _ _, os, rs, Wx, X, c, e, tg, h | .chain _ _ _ _ _, os, rs, Wx, X, c, e, tg, h | .an _, os, rs, Wx, X, c, e, tg, h | .orr _, os, rs, Wx, X, c, e, tg, h | .no _, os, rs, Wx, X, c, e, tg, h | .ife _ _ _, os, rs, Wx, X, c, e, tg, h
  | .ix _ _, os, rs, Wx, X, c, e, tg, h | .sl _ _ _, os, rs, Wx, X, c, e, tg, h | .call _ _, os, rs, Wx, X, c, e, tg, h | .bi _ _, os, rs, Wx, X, c, e, tg, h | .me _ _ _, os, rs, Wx, X, c, e, tg, h | .isi _ _, os, rs, Wx, X, c, e, tg, h
  | .lc _ _ _ _ _ _, os, rs, Wx, X, c, e, tg, h | .tt _, os, rs, Wx, X, c, e, tg, h | .iEnum _, os, rs, Wx, X, c, e, tg, h | .iZip _ _, os, rs, Wx, X, c, e, tg, h => by
    unfold ckI at h; cases h
end
end
end Pv
end

section
set_option maxRecDepth 10000
set_option maxHeartbeats 4000000
namespace Pv
open PySem PySem.Spec L2
open PyProof.Rows hiding St

/-! ## a, b = x, y -/
def swR (ts vs : List Expr) (rs : Scope) : Option (Option (List Str)) :=
  if (!(ts.length == 2 || ts.length == 3) || vs.length != ts.length) = true then some none
  else if (vs.any fun | .Starred .. => true | _ => false) = true then some none
  else
    let line := (ts.head?.map (·.pos.line)).getD 0
    let names := ts.filterMap fun
      | .Name id pos => if rs.names.lookup id == some .local && pos.line == line then some id else none
      | _ => none
    if (names.length != ts.length || names.eraseDups.length != names.length) = true then some none
    else if vs.all (foldedForSure 8) = true then some none
    else if vs.all (constantsAlone 8) = true then none
    else some (some names)
theorem swR_ok {ts vs : List Expr} {kt k2 : Nat} {pt p2 : Pos} {env : Env} {r : Option (List Str)} (hb : env.blockKind = .function) (h : swR ts vs env.scope = some r) : swappedStores [.Tuple ts kt pt] (.Tuple vs k2 p2) env = pure r := by
  have hk : ∀ id, env.kindOf id = env.scope.names.lookup id := fun _ => rfl
  unfold swR at h
  unfold swappedStores
  simp only [hb, bne_self_eq_false, Bool.or_false, hk]
  dsimp only at h
  split at h
  · rename_i h1
    cases h
    exact (if_pos h1).trans rfl
  rename_i h1
  refine (if_neg h1).trans ?_
  split at h
  · rename_i h1
    cases h
    exact (if_pos h1).trans rfl
  rename_i h1
  refine (if_neg h1).trans ?_
  split at h
  · rename_i h1
    cases h
    exact (if_pos h1).trans rfl
  rename_i h1
  refine (if_neg h1).trans ?_
  split at h
  · rename_i h1
    cases h
    exact (if_pos h1).trans rfl
  rename_i h1
  refine (if_neg h1).trans ?_
  split at h
  · cases h
  rename_i h1
  cases h
  exact (if_neg h1).trans rfl
section
variable {C : Ck} {G : Gk} {call : Nat → List W → Sto → R W} {k : Nat} {os rs : Scope} {Wx : WX} {X : Cx} {pos : Pos}
theorem set2_go {i j : Nat} {es : Ex} {D : Ends} {σ : St} {H : Hp} (h : tS G Wx (evS call (.par [i, j] es)) D σ H) : tPar i j (tAs G Wx (evEs call es)) D σ H := by
  obtain ⟨ρ, τ, S, env, sm, h⟩ := h
  unfold evS at h
  refine tG.imp (tG.goS (rel := relWs G) env sm h) fun vs H1 ⟨ρ1, S1, ws, ex, env1, sm1, r1, h1⟩ => ?_
  match ws, r1, h1 with
  | [], r1, h1 => exact h1.elim
  | [_], r1, h1 => exact h1.elim
  | [a, b], .cons ra (.cons rb .nil), h1 =>
    simp only [setAll] at h1
    exact ⟨_, _, rfl, h1.nx_ sm1 ((env1.set ra i).set rb j)⟩
  | _ :: _ :: _ :: _, r1, h1 => exact h1.elim
theorem set3_go {i j l : Nat} {es : Ex} {D : Ends} {σ : St} {H : Hp} (h : tS G Wx (evS call (.par [i, j, l] es)) D σ H) : tPar3 i j l (tAs G Wx (evEs call es)) D σ H := by
  obtain ⟨ρ, τ, S, env, sm, h⟩ := h
  unfold evS at h
  refine tG.imp (tG.goS (rel := relWs G) env sm h) fun vs H1 ⟨ρ1, S1, ws, ex, env1, sm1, r1, h1⟩ => ?_
  match ws, r1, h1 with
  | [], r1, h1 => exact h1.elim
  | [_], r1, h1 => exact h1.elim
  | [_, _], r1, h1 => exact h1.elim
  | [a, b, c], .cons ra (.cons rb (.cons rc .nil)), h1 =>
    simp only [setAll] at h1
    exact ⟨_, _, _, rfl, h1.nx_ sm1 (((env1.set ra i).set rb j).set rc l)⟩
  | _ :: _ :: _ :: _ :: _, r1, h1 => exact h1.elim
/-- slots as a row of targets -/
def rowT : List Nat → Tg
  | [] => .nl
  | i :: is => .cs (.n i) (rowT is)
theorem setAll_asg {S : Sto} : ∀ {is : List Nat} {ws : List W} {τ τ' : Tau}, setAll is ws τ = some τ' → asgT.asgTs S (rowT is) ws τ = some τ'
  | [], [], _, _, h => by simpa [setAll, rowT, asgT.asgTs] using h
  | [], _ :: _, _, _, h => by simp [setAll] at h
  | _ :: _, [], _, _, h => by simp [setAll] at h
  | i :: is, w :: ws, τ, τ', h => by
    unfold setAll at h
    simp only [rowT, asgT.asgTs, asgT]
    exact setAll_asg h
/-- the general form: by a tuple that is made and taken apart -/
theorem ss_parG {is : List Nat} {es : Ex} {ts vs : List Expr} {kt k2 : Nat} {pt p2 : Pos} (hc : X.calm = true) (hg : PGs X ts (tGWs G (rowT is))) (hn : (assignEach ts X.env).length = is.length) (hst : (assignEach ts X.env).findIdx? (·.1) = none)
    (ha : PA X vs (tAs G Wx (evEs call es))) (hw : swappedStores [.Tuple ts kt pt] (.Tuple vs k2 p2) X.env = pure none) (hK : X.K = G.K) (hlen : ∀ ws τ S S', evEs call es τ S = .ok ws S' → ws.length ≤ lim) :
    PS X (.Assign [.Tuple ts kt pt] (.Tuple vs k2 p2) pos) (tS G Wx (evS call (.par is es))) := by
  refine PS.imp (ps_asg (pe_tup ha) (pg_tup hc hg hn hst) rfl hw rfl) fun D σ H h => ?_
  obtain ⟨ρ, τ, S, env, sm, h⟩ := h
  unfold evS at h
  have hl0 := hlen
  refine tG.imp (m := evEs call es) (Q := fun vs H1 => ∃ ρ1 S1 ws, Ext ρ H ρ1 H1 ∧ EnvR G.K H1 ρ1 τ σ ∧ Sim G.K ρ1 S1 H1 ∧ relWs G H1 ρ1 ws vs ∧ ws.length ≤ lim ∧ PostS G Wx ρ1 H1 (match setAll is ws τ with
    | some τ' => .nx τ' S1
    | none => .bad) D) ?_ fun vs H1 ⟨ρ1, S1, ws, ex, env1, sm1, r1, hl, h1⟩ => ?_
  · refine ⟨ρ, τ, S, env, sm, ?_⟩
    cases e : evEs call es τ S with
    | bad => rw [e] at h; exact h
    | exc x S1 => rw [e] at h; exact fun c d H1 ρ1 ex s q => h c d σ H1 ρ1 ex s (env.ext ex.kp) q
    | ok ws S1 =>
      rw [e] at h
      exact fun vs H1 ρ1 ex s q => ⟨ρ1, S1, ws, ex, env.ext ex.kp, s, q, hl0 _ _ _ _ e, PostS.ext ex h⟩
  · refine ⟨lim_le (by rw [← Paired.length r1]; exact hl), fun p hp => ?_⟩
    cases e : setAll is ws τ with
    | none => rw [e] at h1; exact h1.elim
    | some τ' =>
      rw [e] at h1
      have ex2 : Ext ρ1 H1 ρ1 (upd H1 p (.tup vs)) := Ext.laid sm1.sub hp
      have hl1 : ∀ {is : List Nat} {ws : List W} {τ τ' : Tau}, setAll is ws τ = some τ' → ws.length = is.length := by
        intro is
        induction is with
        | nil => intro ws τ τ' h; cases ws <;> simp [setAll] at h ⊢
        | cons i is ih =>
          intro ws τ τ' h
          cases ws with
          | nil => simp [setAll] at h
          | cons w ws => simp only [setAll] at h; simp [ih h]
      refine ⟨p, vs, rfl, .of upd_same, by rw [← Paired.length r1]; exact hl1 e, ρ1, τ, S1, ws, τ', env1.ext ex2.kp, sm1.laid hp, RWs.ext ex2.kp r1, setAll_asg e, fun σ' env' _ => ?_⟩
      exact PostS.nx_ (PostS.ext ex2 h1) (sm1.laid hp) env'
/-! ## is this the tree of that statement? -/
def notComp : Expr → Bool
  | .ListComp .. => false
  | .SetComp .. => false
  | .DictComp .. => false
  | _ => true
def notTup : Expr → Bool
  | .Tuple .. => false
  | _ => true
def isCall : Expr → Bool
  | .Call .. => true
  | _ => false
def swB (rs : Scope) (y : Str) (py lp : Pos) (scope : Scope) : Bool := (rs.names.lookup y == some .local) && (py.line == lp.line) && !(scope.names.any fun (n, k) => n == y && (k == .local || k == .cell))
theorem swB_ok {elt : Expr} {gs : List Comprehension} {scope : Scope} {lp py : Pos} {y : Str} {l : Nat} {env : Env} (hk : env.scope.kind = .function) : swapsWith (.ListComp elt gs scope lp) (some (.Name y py)) l env = pure (swB env.scope y py lp scope) := by
  have hb : env.blockKind = .function := by unfold Env.blockKind; rw [hk]; rfl
  unfold swapsWith
  simp only [hb, Expr.pos]
  rfl
theorem sw_not {e : Expr} (h : notComp e = true) (t : Expr) (l : Nat) (env : Env) : swapsWith e (some t) l env = pure false := by
  cases e <;> first | rfl | cases h
theorem sw_notN {e : Expr} (h : isCall e = true) (l : Nat) (env : Env) : swapsWith e none l env = pure false := by
  cases e <;> first | rfl | cases h
theorem sw_tup {e : Expr} {ts : List Expr} {k : Nat} {p : Pos} {l : Nat} {env : Env} : swapsWithSole [.Tuple ts k p] e l env = pure false := by
  cases e <;> rfl
theorem sw_sub {e o i : Expr} {p : Pos} {l : Nat} {env : Env} : swapsWithSole [.Subscript o i p] e l env = pure false := by
  cases e <;> rfl
theorem sst_not {e : Expr} (h : notTup e = true) (ts : List Expr) (env : Env) : swappedStores ts e env = pure none := by
  unfold swappedStores
  cases e <;> first | cases h | (simp; rfl) | skip
  all_goals (split <;> first | rfl | simp_all)
end
end Pv
end

section
set_option maxRecDepth 10000
set_option maxHeartbeats 4000000
namespace Pv
open PySem PySem.Spec L2
open PyProof.Rows hiding St

def exLen : Ex → Nat
  | .cs _ r => exLen r + 1
  | _ => 0
theorem evEs_len {call : Nat → List W → Sto → R W} : ∀ {es : Ex} {ws : List W} {τ : Tau} {S S' : Sto}, evEs call es τ S = .ok ws S' → ws.length = exLen es := by
  intro es
  induction es with
  | nl => intro ws τ S S' h; unfold evEs at h; cases h; rfl
  | cs a r iha ihr =>
    intro ws τ S S' h
    unfold evEs at h
    cases e1 : evE call a τ S with
    | bad => rw [e1] at h; cases h
    | exc x S1 => rw [e1] at h; cases h
    | ok x S1 =>
      rw [e1] at h
      dsimp only [R.bind] at h
      cases e2 : evEs call r τ S1 with
      | bad => rw [e2] at h; cases h
      | exc x S2 => rw [e2] at h; cases h
      | ok xs S2 =>
        rw [e2] at h
        cases h
        simp [exLen, ihr e2]
  | _ => intro ws τ S S' h; unfold evEs at h; cases h
/-- names of a row, with their slots -/
def rowB (C : Ck) (rs : Scope) : List Nat → List Expr → Bool
  | [], [] => true
  | i :: is, e :: es => ckG C rs rs (.n i) e && rowB C rs is es
  | _, _ => false
def locB (rs : Scope) : Expr → Bool
  | .Name x _ => decide (rs.names.lookup x = some .local)
  | _ => false
def swLC (rs : Scope) : Expr → Expr → Bool
  | .Name y py, .ListComp _ _ scope lp => swB rs y py lp scope
  | _, _ => false
section
variable (C : Ck) (rs : Scope)
mutual
def ckS : Sx → Stmt → Bool
  | .asg t e, s => match s with
    | .Assign [tg] v _ => ckE C rs rs e v && ckG C rs rs t tg && (match t with
      | .n _ => notComp v || (match tg, v with
        | .Name y _, .ListComp _ [_] scope lp => true
        | _, _ => false)
      | _ => notTup v)
    | _ => false
  | .par is es, s => match s with
    | .Assign [.Tuple ts _ _] (.Tuple vs _ _) _ => rowB C rs is ts && ckEs C rs rs es vs && decide (exLen es ≤ 100) && (match swR ts vs rs with
      | some none => true
      | some (some names) => decide (is.Nodup) && ts.all (locB rs) && (match ts, vs with
        | [.Name x _, .Name y _], [_, _] => decide (names = [x, y])
        | [.Name x _, .Name y _, .Name z _], [_, _, _] => decide (names = [x, y, z])
        | _, _ => false)
      | none => false)
    | _ => false
  | .sub o i e, s => match s with
    | .Assign [.Subscript l r _] v _ => notSlice r && notTup v && ckE C rs rs o l && ckE C rs rs i r && ckE C rs rs e v
    | _ => false
  | .aug i o e, s => match s with
    | .AugAssign (.Name x p) o' v _ => decide (o = o') && (match o with | .Add | .Sub => true | _ => false) && ckG C rs rs (.n i) (.Name x p) && ckE C rs rs e v
    | _ => false
  | .expr e, s => match s with
    | .Expr v _ => isCall v && ckE C rs rs e v
    | _ => false
  | .ret e, s => match s with
    | .Return (some v) _ => ckE C rs rs e v
    | _ => false
  | .retN, s => match s with
    | .Return none _ => true
    | _ => false
  | .iff c a b, s => match s with
    | .If t x y _ => ckT C rs rs c t && ckSs a x && ckSs b y
    | _ => false
  | .whl c b, s => match s with
    | .While t x [] _ => ckT C rs rs c t && ckSs b x
    | _ => false
  | .for_ t it b, s => match s with
    | .For tg iter x [] _ => ckG C rs rs t tg && ckI C rs rs it iter tg && notSet iter && ckSs b x
    | _ => false
  | .pass, s => match s with
    | .Pass _ => true
    | _ => false
  | .brk, s => match s with
    | .Break _ => true
    | _ => false
  | .cont, s => match s with
    | .Continue _ => true
    | _ => false
  | _, _ => false
def ckSs : Sx → List Stmt → Bool
  | .nl, l => match l with
    | [] => true
    | _ => false
  | .cs a r, l => match l with
    | s :: ss => ckS a s && ckSs r ss
    | _ => false
  | _, _ => false
end
end
section
variable {C : Ck} {G : Gk} {call : Nat → List W → Sto → R W} {k : Nat} {rs : Scope} {Wx : WX} {X : Cx}
theorem rowB_ok (c : Cc C G call k rs rs Wx X) : ∀ {is : List Nat} {es : List Expr}, rowB C rs is es = true → PGs X es (tGWs G (rowT is)) ∧ (assignEach es X.env).length = is.length ∧ (assignEach es X.env).findIdx? (·.1) = none
  | [], [], _ => ⟨gs_nil, rfl, rfl⟩
  | [], _ :: _, h => by simp [rowB] at h
  | _ :: _, [], h => by simp [rowB] at h
  | i :: is, e :: es, h => by
    unfold rowB at h
    simp only [Bool.and_eq_true] at h
    obtain ⟨h1, h2, h3⟩ := rowB_ok c h.2
    have hp := each_of (X := X) (es := es) (ckG_plain h.1)
    refine ⟨gs_cons (tg_ok c h.1) h1 (by rw [hp]; rfl), by rw [hp]; simp [h2], ?_⟩
    rw [hp, List.findIdx?_cons, h3]
    rfl
theorem locB_of (hs : X.env.scope = rs) {x : Str} {p : Pos} (h : locB rs (.Name x p) = true) : X.env.scope.names.lookup x = some .local := by
  rw [hs]
  unfold locB at h
  exact of_decide_eq_true h
theorem ckG_N {os : Scope} {i : Nat} {x : Str} {p : Pos} (h : ckG C os rs (.n i) (.Name x p) = true) : C.N[i]? = some x := by
  unfold ckG at h
  simp only [Bool.and_eq_true, decide_eq_true_eq] at h
  exact h.1
mutual
theorem sS (c : Cc C G call k rs rs Wx X) (hk : rs.kind = .function) (hp : PassesOwn (model X.prog X.w) X.A X.env X.xe) : ∀ (x : Sx) {s : Stmt}, ckS C rs x s = true → PS X s (tS G Wx (evS call x))
  | .asg t e, s, h => by
    unfold ckS at h
    split at h
    · rename_i tg v pos
      simp only [Bool.and_eq_true] at h
      obtain ⟨⟨h1, h2⟩, h3⟩ := h
      have hkX : X.env.scope.kind = .function := by rw [c.sc]; exact hk
      cases t with
      | n i =>
        have h2' := h2
        unfold ckG at h2'
        split at h2'
        · rename_i y py
          simp only [Bool.and_eq_true, decide_eq_true_eq] at h2'
          obtain ⟨l1, l2⟩ := st_of c h2'.2
          have hi : X.N[i]? = some y := by rw [c.N]; exact h2'.1
          cases hc : notComp v with
          | true => exact ss_set c.nd hi l1 l2 (sE e c h1) (sw_not hc _ _ _)
          | false =>
            rw [hc] at h3
            cases v with
            | ListComp elt gs scope lp =>
              cases hsw : swB rs y py lp scope with
              | false => exact ss_set c.nd hi l1 l2 (sE e c h1) (by rw [swB_ok hkX, c.sc, hsw])
              | true =>
                have hyl : X.env.scope.names.lookup y = some .local := by
                  rw [c.sc]
                  unfold swB at hsw
                  simp only [Bool.and_eq_true] at hsw
                  simpa using hsw.1.1
                cases e with
                | lc m own t' it ifs e' =>
                  unfold ckE at h1
                  split at h1
                  · rename_i elt' tg' iter cs isa scope' pos' heq3
                    cases heq3
                    clear h3
                    simp only [Bool.and_eq_true, decide_eq_true_eq] at h1
                    obtain ⟨⟨⟨⟨⟨⟨⟨g1, g2⟩, g3⟩, g4⟩, g5⟩, g6⟩, g7⟩, g8⟩ := h1
                    subst g1
                    have hown := own_map C own
                    have hb : BlkOk X.N X.env.scope scope (own.map fun i => (C.N.getD i Str.empty, i)) := by rw [c.N, c.sc]; exact blkOk_by g2
                    have := ss_setLc (X := X) (G := G) (Wx := Wx) (call := call) (m := m) (own := own.map fun i => (C.N.getD i Str.empty, i)) (t := t') (py := py) (spos := pos) (pos := lp) c.cw.calm c.nd hi hyl (by rw [swB_ok hkX, c.sc, hsw]) (sI it c g5) hb
                      (fun s H C' cl fp => tgr_ok (c.blk s H scope cl C' fp) g4) (fun s H C' cl fp => sA ifs (c.blk s H scope cl C' fp) g7) (fun s H C' cl fp => sE e' (c.blk s H scope cl C' fp) g8) (set_of g6) (by rw [hown]; exact g3)
                    rw [hown] at this
                    exact this
                  · cases h1
                | _ => unfold ckE at h1; first | cases h1 | simp at h1
            | SetComp _ _ _ _ => simp at h3
            | DictComp _ _ _ _ _ => simp at h3
            | _ => cases hc
        · cases h2'
      | nl => unfold ckG at h2; cases h2
      | cs a r =>
        have h2' := h2
        unfold ckG at h2'
        split at h2'
        · exact ss_asg (tg_ok c h2) (sE e c h1) sw_tup (sst_not h3 _ _) rfl
        · cases h2'
    · cases h
  | .par is es, s, h => by
    unfold ckS at h
    split at h
    · rename_i ts k1 p1 vs k2 p2 pos
      simp only [Bool.and_eq_true, decide_eq_true_eq] at h
      obtain ⟨⟨⟨h1, h2⟩, h3⟩, h4⟩ := h
      have hkX : X.env.scope.kind = .function := by rw [c.sc]; exact hk
      have hb : X.env.blockKind = .function := by unfold Env.blockKind; rw [hkX]; rfl
      have ha := sEs es c h2
      split at h4
      · rename_i hsw
        obtain ⟨g1, g2, g3⟩ := rowB_ok c h1
        refine ss_parG c.cw.calm g1 g2 g3 ha (swR_ok hb (by rw [c.sc]; exact hsw)) c.cw.K fun ws τ S S' e => ?_
        rw [evEs_len e]
        unfold lim
        omega
      · rename_i names hsw
        simp only [Bool.and_eq_true, decide_eq_true_eq] at h4
        obtain ⟨⟨hnd, hl⟩, hn⟩ := h4
        split at hn
        · rename_i x px y py a b
          simp only [decide_eq_true_eq] at hn
          subst hn
          simp only [List.all_cons, List.all_nil, Bool.and_true, Bool.and_eq_true] at hl
          match is, h1, hnd with
          | [i, j], h1, hnd =>
            simp only [rowB, Bool.and_true, Bool.and_eq_true] at h1
            have hij : i ≠ j := by simp at hnd; exact hnd
            refine PS.imp (ps_par c.cw.calm c.nd (by rw [c.N]; exact ckG_N h1.1) (by rw [c.N]; exact ckG_N h1.2) hij (locB_of c.sc hl.1) (locB_of c.sc hl.2) ha (swR_ok hb (by rw [c.sc]; exact hsw)) rfl) fun D σ H q => set2_go q
          | [], h1, _ => simp [rowB] at h1
          | [_], h1, _ => simp [rowB] at h1
          | _ :: _ :: _ :: _, h1, _ => simp [rowB] at h1
        · rename_i x px y py z pz a b d
          simp only [decide_eq_true_eq] at hn
          subst hn
          simp only [List.all_cons, List.all_nil, Bool.and_true, Bool.and_eq_true] at hl
          match is, h1, hnd with
          | [i, j, l], h1, hnd =>
            simp only [rowB, Bool.and_true, Bool.and_eq_true] at h1
            have hij : i ≠ j ∧ i ≠ l ∧ j ≠ l := by simp at hnd; exact ⟨hnd.1.1, hnd.1.2, hnd.2⟩
            refine PS.imp (ps_par3 c.cw.calm c.nd (by rw [c.N]; exact ckG_N h1.1) (by rw [c.N]; exact ckG_N h1.2.1) (by rw [c.N]; exact ckG_N h1.2.2) hij.1 hij.2.1 hij.2.2 (locB_of c.sc hl.1) (locB_of c.sc hl.2.1) (locB_of c.sc hl.2.2) ha (swR_ok hb (by rw [c.sc]; exact hsw)) rfl) fun D σ H q => set3_go q
          | [], h1, _ => simp [rowB] at h1
          | [_], h1, _ => simp [rowB] at h1
          | [_, _], h1, _ => simp [rowB] at h1
          | _ :: _ :: _ :: _ :: _, h1, _ => simp [rowB] at h1
        · cases hn
      · cases h4
    · cases h
  | .sub o i e, s, h => by
    unfold ckS at h
    split at h
    · rename_i l r p v pos
      simp only [Bool.and_eq_true] at h
      obtain ⟨⟨⟨⟨h1, h2⟩, h3⟩, h4⟩, h5⟩ := h
      refine ss_sub (sE o c h3) (sE i c h4) (sE e c h5) (fun u => ?_) sw_sub (sst_not h2 _ _) rfl
      cases r <;> first | rfl | cases h1
    · cases h
  | .aug i o e, s, h => by
    unfold ckS at h
    split at h
    · rename_i x p o' v pos
      simp only [Bool.and_eq_true, decide_eq_true_eq] at h
      obtain ⟨⟨⟨h1, h2⟩, h3⟩, h4⟩ := h
      subst h1
      have h3' := h3
      unfold ckG at h3'
      simp only [Bool.and_eq_true, decide_eq_true_eq] at h3'
      obtain ⟨l1, l2⟩ := st_of c h3'.2
      cases o with
      | Add => exact ss_augA c.nd (by rw [c.N]; exact h3'.1) l1 l2 (sE e c h4)
      | Sub => exact ss_augS c.nd (by rw [c.N]; exact h3'.1) l1 l2 (sE e c h4)
      | _ => cases h2
    · cases h
  | .expr e, s, h => by
    unfold ckS at h
    split at h
    · simp only [Bool.and_eq_true] at h
      exact ss_expr (sE e c h.2) (sw_notN h.1 _ _)
    · cases h
  | .ret e, s, h => by
    unfold ckS at h
    split at h
    · exact ss_ret (sE e c h)
    · cases h
  | .retN, s, h => by
    unfold ckS at h
    split at h
    · exact ss_retN
    · cases h
  | .iff t a b, s, h => by
    unfold ckS at h
    split at h
    · simp only [Bool.and_eq_true] at h
      exact ss_if (sT t c h.1.1) (sSs c hk hp a h.1.2) (sSs c hk hp b h.2)
    · cases h
  | .whl t b, s, h => by
    unfold ckS at h
    split at h
    · simp only [Bool.and_eq_true] at h
      exact ss_while hp (sT t c h.1) (sSs c hk hp b h.2)
    · cases h
  | .for_ t it b, s, h => by
    unfold ckS at h
    split at h
    · simp only [Bool.and_eq_true] at h
      exact ss_for hp c.cw.calm (sI it c h.1.1.2) (tgr_ok c h.1.1.1) (sSs c hk hp b h.2) (set_of h.1.2)
    · cases h
  | .pass, s, h => by
    unfold ckS at h
    split at h
    · exact ss_pass
    · cases h
  | .brk, s, h => by
    unfold ckS at h
    split at h
    · exact ss_brk
    · cases h
  | .cont, s, h => by
    unfold ckS at h
    split at h
    · exact ss_cont
    · cases h
  | .nl, s, h => by unfold ckS at h; cases h
  | .cs _ _, s, h => by unfold ckS at h; cases h
theorem sSs (c : Cc C G call k rs rs Wx X) (hk : rs.kind = .function) (hp : PassesOwn (model X.prog X.w) X.A X.env X.xe) : ∀ (x : Sx) {s : List Stmt}, ckSs C rs x s = true → PSs X s (tS G Wx (evSs call x))
  | .nl, s, h => by
    unfold ckSs at h
    split at h
    · exact ss_nil
    · cases h
  | .cs a r, s, h => by
    unfold ckSs at h
    split at h
    · simp only [Bool.and_eq_true] at h
      exact ss_cons (sS c hk hp a h.1) (sSs c hk hp r h.2)
    · cases h
  | .asg _ _, s, h | .par _ _, s, h | .sub _ _ _, s, h | .aug _ _ _, s, h | .expr _, s, h | .ret _, s, h | .retN, s, h | .iff _ _ _, s, h | .whl _ _, s, h | .for_ _ _ _, s, h | .pass, s, h | .brk, s, h | .cont, s, h => by
    unfold ckSs at h; cases h
end
end
end Pv
end

section
set_option maxRecDepth 10000
set_option maxHeartbeats 4000000
namespace Pv
open PySem PySem.Spec L2
open PyProof.Rows hiding St

/-! ## a def's end -/
section
variable {K : PySem.W.Frag} {ρ ρ' : Pl} {H H' : Hp} {S S' : Sto}
/-- what came about is let go -/
def Pl.cut (ρ' : Pl) (n : Nat) : Pl := ⟨ρ'.ρ.take n, ρ'.φ.filter fun a => decide (a ∉ ρ'.ρ.drop n)⟩
theorem Pl.cut_sub {n : Nat} {a : Addr} (h : a ∈ (ρ'.cut n).φ) : a ∈ ρ'.φ := (List.mem_filter.mp h).1
theorem Pl.cut_not {n : Nat} {a : Addr} (h : a ∈ ρ'.ρ.drop n) : a ∉ (ρ'.cut n).φ := fun q => by
  have := (List.mem_filter.mp q).2
  simp only [decide_eq_true_eq] at this
  exact this h
theorem cut_ext (sm : Sim K ρ S H) (sm' : Sim K ρ' S' H') (e : Ext ρ H ρ' H') : Ext ρ H (ρ'.cut S.length) H' := by
  obtain ⟨t, ht⟩ := e.pre
  have hl : ρ.ρ.length = S.length := sm.len
  have htake : ρ'.ρ.take S.length = ρ.ρ := by rw [ht, ← hl]; simp
  have hdrop : ρ'.ρ.drop S.length = t := by rw [ht, ← hl]; simp
  refine ⟨⟨[], by show ρ'.ρ.take S.length = _; rw [htake]; simp⟩, e.keep, fun a ha => .inl (by rw [← htake]; exact ha), fun a ha => e.new a (Pl.cut_sub ha), fun a ha => ?_, e.sub⟩
  refine List.mem_filter.mpr ⟨e.old a ha, decide_eq_true fun hd => ?_⟩
  rw [hdrop] at hd
  have hn := sm'.nd
  rw [ht] at hn
  obtain ⟨o, ho⟩ := sm.there a ha
  rcases e.newR a (by rw [ht]; exact List.mem_append_right _ hd) with q | q
  · exact (List.nodup_append.mp hn).2.2 a q a hd rfl
  · rw [q] at ho; cases ho
theorem below_rep {n : Nat} {w : W} {v : V} (h : RW K H' ρ' w v) (b : below n w = true) : RW K H' (ρ'.cut n) w v := by
  cases w with
  | p d => exact DF.fewer (fun a h => Pl.cut_sub h) h
  | r m =>
    obtain ⟨a, h1, h2⟩ := h
    have hm : m < n := by simpa [below] using b
    exact ⟨a, by show (ρ'.ρ.take n)[m]? = _; rw [List.getElem?_take_of_lt hm]; exact h1, h2⟩
  | s ns =>
    obtain ⟨a, h1, h2⟩ := h
    exact ⟨a, h1, h2.fewer fun a h => Pl.cut_sub h⟩
theorem below_reps {n : Nat} : ∀ {ws : List W} {vs : List V}, RWs K H' ρ' ws vs → ws.all (below n) = true → RWs K H' (ρ'.cut n) ws vs
  | _, _, .nil, _ => .nil
  | _, _, .cons h t, b => by
    simp only [List.all_cons, Bool.and_eq_true] at b
    exact .cons (below_rep h b.1) (below_reps t b.2)
theorem cut_sim (sm' : Sim K ρ' S' H') {n : Nat} (b : (S'.take n).all (obBelow n) = true) : Sim K (ρ'.cut n) (S'.take n) H' := by
  refine ⟨sm'.nd.sublist (List.take_sublist _ _), by show (ρ'.ρ.take n).length = _; rw [List.length_take, List.length_take, sm'.len], fun m ws q => ?_, fun a ha => ?_, fun a ha => sm'.there a (Pl.cut_sub ha)⟩
  · have hm : m < n := by
      have := (List.getElem?_eq_some_iff.mp q).1
      rw [List.length_take] at this
      omega
    have hb : obBelow n (.l ws) = true := List.all_eq_true.mp b _ (List.mem_of_getElem? q)
    rw [List.getElem?_take_of_lt hm] at q
    obtain ⟨a, xs, h1, h2, h3⟩ := sm'.at_ m ws q
    exact ⟨a, xs, by show (ρ'.ρ.take n)[m]? = _; rw [List.getElem?_take_of_lt hm]; exact h1, h2, below_reps h3 hb⟩
  · refine List.mem_filter.mpr ⟨sm'.sub a (List.mem_of_mem_take ha), decide_eq_true fun hd => ?_⟩
    have hn := sm'.nd
    rw [← List.take_append_drop n ρ'.ρ] at hn
    exact (List.nodup_append.mp hn).2.2 a ha a hd rfl
theorem frz_rep (sm' : Sim K ρ' S' H') {n : Nat} {w w' : W} {v : V} (h : RW K H' ρ' w v) (e : frz n S' w = some w') : RW K H' (ρ'.cut n) w' v := by
  cases w with
  | p d => cases e; exact below_rep h rfl
  | s ns => cases e; exact below_rep h rfl
  | r m =>
    simp only [frz] at e
    split at e
    · rename_i hm
      cases e
      exact below_rep h (by simpa [below] using hm)
    · rename_i hm
      obtain ⟨a, h1, rfl⟩ := h
      split at e
      · rename_i ws q
        cases e2 : deP ws with
        | none => rw [e2] at e; cases e
        | some ds =>
          rw [e2] at e; cases e
          obtain ⟨a', xs, g1, g2, g3⟩ := sm'.at_ m ws q
          rw [h1] at g1; cases g1
          have hd : a ∈ ρ'.ρ.drop n := by
            refine List.mem_of_getElem? (i := m - n) ?_
            rw [List.getElem?_drop, show n + (m - n) = m by omega]
            exact h1
          exact .lst g2 (Pl.cut_not hd) (DFs.fewer (fun a h => Pl.cut_sub h) (deP_rep g3 e2).2)
      · cases e
end
theorem sweep_ok {G : Gk} {Wx : WX} {σ : St} {ρ : Pl} {H : Hp} {S : Sto} {Q : VK} {w : W} {S' : Sto} (sm : Sim G.K ρ S H) (h : Post G Wx σ ρ H (relW G) (sweep S.length w S') Q) :
    ∀ v H' ρ', Ext ρ H ρ' H' → Sim G.K ρ' S' H' → RW G.K H' ρ' w v → Q v H' := by
  intro v H' ρ' e sm' r
  unfold sweep at h
  split at h
  · rename_i hb
    split at h
    · rename_i w' hw
      exact h v H' _ (cut_ext sm sm' e) (cut_sim sm' hb) (frz_rep sm' r hw)
    · exact h.elim
  · exact h.elim
theorem endF_ok {G : Gk} {ρ : Pl} {H : Hp} {S : Sto} {Q : VK} {E : XK} {gc : Bool} {r : RS} (sm : Sim G.K ρ S H) (h : Post G (fun c d _ H' => E c d H') [] ρ H (relW G) (endF gc S.length r) Q) :
    PostS G (fun c d _ H' => E c d H') ρ H r { nx := fun _ H' => Q .non H', rt := Q } := by
  cases r with
  | nx τ S' =>
    intro σ' H' ρ' e s env
    cases gc with
    | true => exact sweep_ok sm (show Post G _ [] ρ H (relW G) (sweep S.length (.p .none) S') Q from h) .non H' ρ' e s .non
    | false => exact (show Post G _ [] ρ H (relW G) (.ok (.p .none) S') Q from h) .non H' ρ' e s .non
  | ret w S' =>
    intro v H' ρ' e s r
    cases gc with
    | true => exact sweep_ok sm (show Post G _ [] ρ H (relW G) (sweep S.length w S') Q from h) v H' ρ' e s r
    | false => exact (show Post G _ [] ρ H (relW G) (.ok w S') Q from h) v H' ρ' e s r
  | exc x τ S' =>
    intro c d σ' H' ρ' e s env xr
    exact (show Post G (fun c d _ H' => E c d H') [] ρ H (relW G) (.exc x S') Q from h) c d H' ρ' e s xr
  | bk τ S' => exact h.elim
  | ct τ S' => exact h.elim
  | bad => exact h.elim
/-! ## the text's defs, all at once -/
structure Df where
  x : Str
  st : Stmt
  ps : List Str
  N : List Str
  fd : Fd
def scB (N ps : List Str) (sc : Scope) : Bool :=
  decide (sc.kind = .function) && !sc.isCoroutine && !sc.isGenerator && decide N.Nodup && decide (N.take ps.length = ps) &&
    ps.all (fun x => match sc.names.lookup x with | some .local => true | some .cell => true | _ => false) && sc.names.all fun y => decide (y.2 ≠ .free)
theorem scB_ok {N ps : List Str} {sc : Scope} (h : scB N ps sc = true) : FnScope N ps sc := by
  unfold scB at h
  simp only [Bool.and_eq_true, decide_eq_true_eq, Bool.not_eq_true', List.all_eq_true] at h
  obtain ⟨⟨⟨⟨⟨⟨h1, h2⟩, h3⟩, h4⟩, h5⟩, h6⟩, h7⟩ := h
  refine ⟨h1, h2, h3, h4, h5, fun x hx => ?_, h7⟩
  have := h6 x hx
  split at this
  · exact .inl (by assumption)
  · exact .inr (by assumption)
  · cases this
def ckOf (T : List Df) (N : List Str) : Ck := ⟨N, T.map (·.x), T.map (·.fd.np)⟩
def dfB (T : List Df) (d : Df) : Bool := scB d.N d.ps (defScope d.st) && decide (d.fd.np = d.ps.length) && decide (d.fd.nn = d.N.length) && ckSs (ckOf T d.N) (defScope d.st) d.fd.body (defBody d.st)
def fdsOf (T : List Df) : List Fd := T.map (·.fd)
/-- what stands of a def behind the top -/
structure Stands (K : PySem.W.Frag) (mg : Str → Option Value) (d : Df) (f : Addr) (fd : FuncData) : Prop where
  fun_ : Fun K d.x d.x d.st f fd
  mg_ : mg d.x = some (.ref f)
  binds : Binds K fd d.ps []
theorem callN_len {T : List Df} {k i n : Nat} {ws : List W} {S : Sto} (h : (T.map (·.fd.np))[i]? = some n) (r : (∃ w S', callN (fdsOf T) k i ws S = .ok w S') ∨ (∃ x S', callN (fdsOf T) k i ws S = .exc x S')) : ws.length = n := by
  cases k with
  | zero => rcases r with ⟨_, _, r⟩ | ⟨_, _, r⟩ <;> cases r
  | succ k =>
    unfold callN at r
    have e : (fdsOf T)[i]? = (T[i]?).map (·.fd) := by unfold fdsOf; rw [List.getElem?_map]
    rw [List.getElem?_map] at h
    cases hT : T[i]? with
    | none => rw [hT] at h; cases h
    | some d =>
      rw [hT] at h e
      have : d.fd.np = n := by simpa using h
      rw [e] at r
      by_cases hl : ws.length = d.fd.np
      · exact hl.trans this
      · exfalso
        rcases r with ⟨_, _, r⟩ | ⟨_, _, r⟩ <;> (dsimp only [Option.map] at r; rw [if_neg hl] at r; cases r)
theorem envR_start {K : PySem.W.Frag} {H : Hp} {ρ : Pl} {ws : List W} {vs : List V} (h : RWs K H ρ ws vs) (N : List Str) : EnvR K H ρ (ws.map some ++ List.replicate (N.length - ws.length) none) (L2.start N vs) := by
  have hl := Paired.length h
  unfold L2.start
  refine ⟨by simp [hl], fun i w e => ?_⟩
  by_cases hi : i < ws.length
  · rw [List.getElem?_append_left (by simpa using hi), List.getElem?_map] at e
    cases hw : ws[i]? with
    | none => rw [hw] at e; cases e
    | some w' =>
      rw [hw] at e
      cases e
      obtain ⟨v, hv, r⟩ := paired_get h hw
      exact ⟨v, by rw [List.getElem?_append_left (by simp [← hl, hi]), List.getElem?_map, hv]; rfl, r⟩
  · rw [List.getElem?_append_right (by simpa using hi), List.getElem?_replicate] at e
    split at e <;> cases e
/-- THE THEOREM: every def of the text does what the evaluator says -/
theorem defs_ok {T : List Df} {P : Program} {w : World} {G : Gk} {mg : Str → Option Value} {base : Heap} (hT : T.all (dfB T) = true) (hS : ∀ (i : Nat) (d : Df), T[i]? = some d → ∃ f fd, Stands G.K mg d f fd) (hb : ∀ x, x ∈ bltN → mg x = none) (hm : ∃ mm, base.Ns sysModules mm) :
    ∀ (k i : Nat) (d : Df) (f : Addr) (fd : FuncData), T[i]? = some d → Stands G.K mg d f fd → FnG P w G.K mg base k f fd d.ps (spF G (callN (fdsOf T) k) i d.fd.np) := by
  intro k
  induction k with
  | zero =>
    intro i d f fd hi st
    refine ⟨fun vs H Q E h => ?_, fun A outer s H args us vs Q E _ _ _ _ _ h => ?_⟩
    · obtain ⟨_, ρ, S, ws, _, _, h⟩ := h
      exact h.elim
    · obtain ⟨_, ρ, S, ws, _, _, h⟩ := h
      exact h.elim
  | succ k ih =>
    intro i d f fd hi st
    have hd : dfB T d = true := List.all_eq_true.mp hT d (List.mem_of_getElem? hi)
    unfold dfB at hd
    simp only [Bool.and_eq_true, decide_eq_true_eq] at hd
    obtain ⟨⟨⟨h1, h2⟩, h3⟩, h4⟩ := hd
    have hsc := scB_ok h1
    refine fnG_of st.fun_ hsc (fun vs H Q E h => h.1.trans h2) fun cdv A outer s H vs Q E hr hg hsp => ?_
    obtain ⟨hl, ρ, S, ws, sm, rws, hp⟩ := hsp
    have hwl := Paired.length rws
    unfold callN at hp
    have e : (fdsOf T)[i]? = some d.fd := by unfold fdsOf; rw [List.getElem?_map, hi]; rfl
    rw [e] at hp
    dsimp only at hp
    rw [if_pos (hwl.trans hl)] at hp
    generalize hX : cxOf (L2.CX P w) P w G.K mg base d.N d.x (defScope d.st) f cdv A outer s H E = X
    have tk : Takes X (fun c dd _ H' => E c dd H') := by subst hX; exact takes_of rfl rfl rfl rfl
    have cc : Cc (ckOf T d.N) G (callN (fdsOf T) k) k (defScope d.st) (defScope d.st) (fun c dd _ H' => E c dd H') X := by
      subst hX
      exact ⟨⟨rfl, rfl, hr.mono (Nat.zero_le _), hg, hm⟩, rfl, hsc.nd, rfl, fun _ _ => rfl, hb, hr, fun j x hj => by
        have hj' : (T.map (·.x))[j]? = some x := hj
        rw [List.getElem?_map] at hj'
        cases hTj : T[j]? with
        | none => rw [hTj] at hj'; cases hj'
        | some d' =>
          rw [hTj] at hj'
          cases hj'
          obtain ⟨f', fd', st'⟩ := hS j d' hTj
          exact ⟨f', fd', d'.ps, d'.fd.np, st'.mg_, st'.fun_.kp, st'.binds, by show (T.map (·.fd.np))[j]? = _; rw [List.getElem?_map, hTj]; rfl, ih j d' f' fd' hTj st'⟩, fun j n ws S hj r => callN_len hj r, tk⟩
    have po : PassesOwn (model X.prog X.w) X.A X.env X.xe := by subst hX; exact passes_of rfl
    have body := sSs cc hsc.kind po d.fd.body h4
    refine ⟨_, body, ρ, _, S, envR_start rws d.N, sm, ?_⟩
    rw [hwl.trans hl, ← h3]
    exact endF_ok sm hp
end Pv
end

section
set_option maxRecDepth 10000
set_option maxHeartbeats 4000000
namespace Pv
open PySem PySem.Spec L2
open PyProof.Rows hiding St

/-! ## the end of a law -/
/-- the heap without the script where it is tracked -/
theorem ns_hid {s : Heap} {H : Hp} {a : Addr} {ob : Obj} {vs : Array Value} {m : Nat} (ha : s.get? a = some ob) (hd : ob.data = .seq vs m) (hA : ∀ b, H b ≠ none → b = a) {b : Addr} {f : Str → Option Value} (h : s.Ns b f) : (hidT s H).Ns b f := by
  obtain ⟨o, es, ep, e, d, r⟩ := h
  refine ⟨o, es, ep, hidT_get e ?_, d, r⟩
  cases q : H b with
  | none => rfl
  | some u =>
    have eb : b = a := hA b (by rw [q]; simp)
    rw [eb, ha] at e
    cases e
    rw [hd] at d
    cases d
theorem law_callG {P : Program} {w : World} {K : PySem.W.Frag} {mg mb : Str → Option Value} {k : Nat} {fa a : Addr} {fd : FuncData} {x : Str} {sp : Sp} {s1 : Shared} {vs : List Value} {ns : List Int}
    (KX : K.In s1.heap) (hns : s1.heap.Ns mainGlobals mg) (hb : s1.heap.Ns builtinsNs mb) (hbb : ∀ x : Str, x ≠ "__name__" → mb x = bootBuiltins x) (hlim : s1.heap.NoLimit) (hmods : ∃ mm, s1.heap.Ns sysModules mm) (hg : s1.gens = #[])
    (ha : s1.heap.get? a = some { cls := .type "list", data := .seq vs.toArray }) (hi : IntsAre vs ns) (hl : ns.length ≤ sizeLine) (hr : Room k callerA)
    (F : ∀ base : Heap, K.In base → base.Ns mainGlobals mg → (∃ mm, base.Ns sysModules mm) → FnG P w K mg base k fa fd [x] sp) (hbind : ∀ (s : Shared) (u : Value), BindsTo s fd ⟨[u], []⟩ [(x, u)])
    (hsp : ∀ H : Hp, SqL K H a (ns.map V.int) → sp [.ref a] H (fun v _ => v = .bl true) fun _ _ _ => False) :
    codeAny (model P w) callerA (.call (.ref fa) ⟨[.ref a], []⟩) (fun r s' => r = .ok (.ret (.bool true)) ∧ OldK s1.heap s'.heap ∧ s'.os = s1.os ∧ AllBare s'.gens) s1 := by
  have rv := vals_ints hi
  have hlen := hi.length
  suffices core : ∃ H : Hp, Only H ∧ SqL K H a (ns.map V.int) ∧ HOk P w H s1.heap ∧ (∀ b, H b ≠ none → b = a) ∧ (H a ≠ none → K.lookup a = none) by
    obtain ⟨H, hO, hS, hok, hA, hK⟩ := core
    have lift : ∀ {b : Addr} {f : Str → Option Value}, s1.heap.Ns b f → (hidT s1.heap H).Ns b f := fun h => ns_hid ha rfl hA h
    have hKb : K.In (hidT s1.heap H) := by
      intro b o e
      refine hidT_get (KX b o e) ?_
      cases q : H b with
      | none => rfl
      | some u =>
        have eb : b = a := hA b (by rw [q]; simp)
        have := hK (by rw [← eb, q]; simp)
        rw [← eb, e] at this
        cases this
    have hlim' : (hidT s1.heap H).NoLimit := by
      obtain ⟨mc, g1, g2⟩ := hlim
      exact ⟨mc, lift g1, g2⟩
    have hmod : Mod K mg (hidT s1.heap H) := { kin := hKb, glob := lift hns, blt := ⟨mb, lift hb, hbb⟩, nolimit := hlim' }
    have env0 : Env0 P w K mg (hidT s1.heap H) callerA [] s1 H :=
      { frames := rfl, mod := hmod, bs := fun b o e => of_hidT e, bsz := Nat.le_of_eq (hidT_size _ _), funs := trivial, frf := (fun b q => (nomatch q)), hok := hok, bare := .of_eq hg }
    obtain ⟨mm, hmm⟩ := hmods
    have run := (F _ hKb (lift hns) ⟨mm, lift hmm⟩).go callerA [] s1 H ⟨[.ref a], []⟩ [.ref a] [.ref a] _ _ hr rfl env0 (hbind s1 (.ref a)) (.cons rfl .nil) (hsp H hS)
    refine codeAny_mono run fun res s' q => ?_
    match res, q with
    | .error e, q =>
      exact (passCX q).elim
    | .ok (.ret u), ⟨v, H', hos, hbare, un, hok', r', q⟩ =>
      have q : v = .bl true := q
      subst q
      have hu : u = Value.bool true := r'
      subst hu
      refine ⟨rfl, OldK.of_keep fun b o e => ?_, hos, hbare⟩
      cases hHb : H b with
      | none => exact un.keep b o e hHb (fun z => by cases z) (by simp)
      | some u =>
        rcases hO b with z | ⟨ob, xs, z⟩
        · rw [hHb] at z; cases z
        · have z2 := un.frzs b ob _ z
          obtain ⟨e1, _⟩ := hok b _ z
          obtain ⟨e2, _⟩ := hok' b _ z2
          rw [e] at e1
          cases e1
          exact e2
    | .ok .next, q => exact q.elim
    | .ok .brk, q => exact q.elim
    | .ok .cont, q => exact q.elim
  cases hk : K.lookup a with
  | some o =>
    have e := KX a o hk
    rw [ha] at e
    cases e
    exact ⟨fun _ => none, fun _ => .inl rfl, .inr ⟨_, vs.toArray, _, hk, rfl, rfl, rfl, by rw [List.size_toArray, hlen]; exact hl, by simpa using rv⟩, (fun b u z => by cases z), fun b z => absurd rfl z, fun z => absurd rfl z⟩
  | none =>
    refine ⟨fun b => if b = a then some (.frz { cls := .type "list", data := .seq vs.toArray } (.lst (ns.map V.int))) else none, fun b => ?_, .inl (.inr ⟨_, if_pos rfl⟩), fun b u z => ?_, fun b z => ?_, fun _ => rfl⟩
    · by_cases e : b = a
      · exact .inr ⟨_, _, if_pos e⟩
      · exact .inl (if_neg e)
    · by_cases e : b = a
      · have z' := (if_pos e).symm.trans z
        cases z'
        subst e
        exact ⟨ha, by rw [List.length_map]; exact hl, vs, _, rv, ha⟩
      · have z' := (if_neg e).symm.trans z
        cases z'
    · by_cases e : b = a
      · exact e
      · exact absurd (if_neg e) z
where
  passCX {P : Program} {w : World} {H : Hp} {s : Shared} {e : Value} {s' : Shared} (h : L2.CX P w [] H s (fun _ _ _ => False) e s') : False := by
    obtain ⟨_, _, _, _, _, _, _, _, _, _, _, _, z⟩ := h
    exact z

theorem room_law {k : Nat} (h : k ≤ 200) : Room k callerA := by
  refine ⟨rfl, ?_, ?_⟩ <;> simp [callerA, recursionLimit, claimMargin, cLine] <;> omega
theorem walk_g {l : PySem.W.OpenLaw} {n k : Nat} {q : Program} {loose : List Str} {XP : (Str → Option Value) → Heap → Prop} {YP : World → Heap → Prop} {d : DefRec} {K : Params → PySem.W.Frag} {sp : Gk → Sp} {x : Str} {cl : World → Nat → Option (Addr × List Str)}
    (hn : l.most = some n) (hn2 : n ≤ sizeLine) (hdf : d.params.defaults = []) (hr : Room k callerA) (hi : importsNone q = true)
    (hY : ∀ (w : World) (h : Heap), YP w h → (K w.params).In h)
    (F : ∀ (w : World) (mg : Str → Option Value) (fa : Addr) (h : Heap), (K w.params).In h → h.Ns mainGlobals mg → mg d.name = some (.ref fa) →
      ∃ fd : FuncData, (∀ (s : Shared) (u : Value), BindsTo s fd ⟨[u], []⟩ [(x, u)]) ∧
        ∀ base : Heap, (K w.params).In base → base.Ns mainGlobals mg → (∃ mm, base.Ns sysModules mm) → FnG l.prog w (K w.params) mg base k fa fd [x] (sp ⟨K w.params, cl w⟩))
    (hsp : ∀ (G : Gk) (H : Hp) (a : Addr) (ns : List Int), ns.length ≤ n → (∀ z ∈ ns, Builtin.Int.intBits z ≤ 1048576) → SqL G.K H a (ns.map V.int) → sp G [.ref a] H (fun v _ => v = .bl true) fun _ _ _ => False) :
    PySem.W.WalkO q loose XP YP l.row.toRowW d [] (fun f vs => PySem.call f vs) := by
  refine Att.attach_callB hn hdf fun w s₀ s₁ mg mb fa o pm cd doc a vs ns G Y ho hd hcd hmg hobj hints hlen hbits hg => ?_
  have KX := hY w _ Y
  obtain ⟨fd, hb, hF⟩ := F w mg fa _ KX G.T.g hmg
  obtain ⟨mc, m1, m2⟩ := (G.T.seer hi).mods
  exact law_callG KX G.T.g G.T.b G.T.builtins G.T.nolimit ⟨mc, m1⟩ hg hobj hints (Nat.le_trans hlen hn2) hr hF hb (fun H hS => hsp ⟨K w.params, cl w⟩ H a ns hlen hbits hS)
/-- the script's own promise, from the evaluator's answer -/
theorem sp_law {fds : List Fd} {k i n : Nat} {G : Gk} {H : Hp} {a : Addr} {ns : List Int} (hn : n = 1) (hS : SqL G.K H a (ns.map V.int)) (h : ∃ S', callN fds k i [.s ns] [] = .ok (.p (.bool true)) S') :
    spF G (callN fds k) i n [.ref a] H (fun v _ => v = .bl true) fun _ _ _ => False := by
  subst hn
  obtain ⟨S', h⟩ := h
  refine ⟨rfl, ⟨[], []⟩, [], [.s ns], ?_, ?_, ?_⟩
  · exact ⟨List.nodup_nil, rfl, fun m ws q => (by simp at q), fun b q => (nomatch q), fun b q => (nomatch q)⟩
  · exact .cons ⟨a, rfl, (match hS with | .inl r => .inl ⟨r, by simp⟩ | .inr z => .inr (.inr z))⟩ .nil
  · rw [h]
    intro v H' ρ' e s r
    cases r
    rfl
end Pv
end

section
set_option maxRecDepth 10000
set_option maxHeartbeats 4000000
namespace Pv
open PySem PySem.Spec L2
open PyProof.Rows hiding St

/-! ## what the evaluator answers, by what is asked of it -/
def Ok {α : Type} (r : R α) (Q : α → Sto → Prop) (E : Xc → Sto → Prop) : Prop := match r with
  | .ok a S => Q a S
  | .exc x S => E x S
  | .bad => False
structure Po where
  nx : Tau → Sto → Prop
  rt : W → Sto → Prop
  bk : Tau → Sto → Prop
  ct : Tau → Sto → Prop
  ex : Xc → Tau → Sto → Prop
def So (r : RS) (p : Po) : Prop := match r with
  | .nx τ S => p.nx τ S
  | .ret w S => p.rt w S
  | .bk τ S => p.bk τ S
  | .ct τ S => p.ct τ S
  | .exc x τ S => p.ex x τ S
  | .bad => False
section
variable {α β : Type} {Q : α → Sto → Prop} {E : Xc → Sto → Prop} {p : Po}
theorem Ok_ok (a : α) (S : Sto) : Ok (.ok a S) Q E = Q a S := rfl
theorem Ok_exc (x : Xc) (S : Sto) : Ok (.exc x S : R α) Q E = E x S := rfl
theorem Ok_bad : Ok (.bad : R α) Q E = False := rfl
theorem Ok_bind {r : R β} {f : β → Sto → R α} : Ok (r.bind f) Q E = Ok r (fun a S => Ok (f a S) Q E) E := by cases r <;> rfl
theorem Ok_mono {r : R α} {Q' : α → Sto → Prop} {E' : Xc → Sto → Prop} (h : Ok r Q E) (hQ : ∀ a S, Q a S → Q' a S) (hE : ∀ x S, E x S → E' x S) : Ok r Q' E' := by
  cases r with
  | ok a S => exact hQ _ _ h
  | exc x S => exact hE _ _ h
  | bad => exact h
/-- no exception comes -/
abbrev noX : Xc → Sto → Prop := fun _ _ => False
theorem Ok_mo {r : R α} {Q' : α → Sto → Prop} (h : Ok r Q noX) (hQ : ∀ a S, Q a S → Q' a S) : Ok r Q' E := Ok_mono h hQ fun _ _ z => z.elim
theorem Ok_some (w : W) (S : Sto) {Q : W → Sto → Prop} : Ok (ofO (some (w, S))) Q E = Q w S := rfl
theorem Ok_none {Q : W → Sto → Prop} : Ok (ofO none) Q E = False := rfl
theorem Ok_bs (b : Bool) (S : Sto) {Q : Bool → Sto → Prop} : Ok (ofB (some b) S) Q E = Q b S := rfl
theorem Ok_ite {c : Prop} [Decidable c] {x y : R α} : Ok (if c then x else y) Q E = if c then Ok x Q E else Ok y Q E := by by_cases h : c <;> simp [h]
theorem So_nx (τ : Tau) (S : Sto) : So (.nx τ S) p = p.nx τ S := rfl
theorem So_ret (w : W) (S : Sto) : So (.ret w S) p = p.rt w S := rfl
theorem So_bk (τ : Tau) (S : Sto) : So (.bk τ S) p = p.bk τ S := rfl
theorem So_ct (τ : Tau) (S : Sto) : So (.ct τ S) p = p.ct τ S := rfl
theorem So_exc (x : Xc) (τ : Tau) (S : Sto) : So (.exc x τ S) p = p.ex x τ S := rfl
theorem So_bad : So .bad p = False := rfl
theorem So_then {r : R α} {τ : Tau} {f : α → Sto → RS} : So (thenS r τ f) p = Ok r (fun a S => So (f a S) p) (fun x S => p.ex x τ S) := by cases r <;> rfl
theorem So_ite {c : Prop} [Decidable c] {x y : RS} : So (if c then x else y) p = if c then So x p else So y p := by by_cases h : c <;> simp [h]
theorem So_mono {r : RS} {q : Po} (h : So r p) (h1 : ∀ τ S, p.nx τ S → q.nx τ S) (h2 : ∀ w S, p.rt w S → q.rt w S) (h3 : ∀ τ S, p.bk τ S → q.bk τ S) (h4 : ∀ τ S, p.ct τ S → q.ct τ S) (h5 : ∀ x τ S, p.ex x τ S → q.ex x τ S) : So r q := by
  cases r with
  | nx τ S => exact h1 _ _ h
  | ret w S => exact h2 _ _ h
  | bk τ S => exact h3 _ _ h
  | ct τ S => exact h4 _ _ h
  | exc x τ S => exact h5 _ _ _ h
  | bad => exact h
section
variable {call : Nat → List W → Sto → R W}
theorem So_cs {a r : Sx} {τ : Tau} {S : Sto} : So (evSs call (.cs a r) τ S) p = So (evS call a τ S) { p with nx := fun τ S => So (evSs call r τ S) p } := by
  rw [evSs]
  cases evS call a τ S <;> rfl
theorem So_nl {τ : Tau} {S : Sto} : So (evSs call .nl τ S) p = p.nx τ S := rfl
end
/-- a for, by an invariant over the rows that are through -/
theorem So_for {f : Row → Tau → Sto → RS} {rows : List Row} (I : List Row → Tau → Sto → Prop) {τ : Tau} {S : Sto} (h0 : I [] τ S)
    (hs : ∀ pre r post τ S, rows = pre ++ r :: post → I pre τ S → So (f r τ S) { nx := I (pre ++ [r]), rt := p.rt, bk := p.nx, ct := I (pre ++ [r]), ex := p.ex })
    (he : ∀ τ S, I rows τ S → p.nx τ S) : So (forLoop f rows τ S) p := by
  have key : ∀ (rs pre : List Row) (τ : Tau) (S : Sto), rows = pre ++ rs → I pre τ S → So (forLoop f rs τ S) p := by
    intro rs
    induction rs with
    | nil =>
      intro pre τ S hr hI
      refine he τ S ?_
      rw [hr, List.append_nil]
      exact hI
    | cons r rs ih =>
      intro pre τ S hr hI
      have h1 := hs pre r rs τ S hr hI
      have hr' : rows = (pre ++ [r]) ++ rs := by rw [hr]; simp
      unfold forLoop
      cases e : f r τ S with
      | nx τ' S' => rw [e] at h1; exact ih _ τ' S' hr' h1
      | ct τ' S' => rw [e] at h1; exact ih _ τ' S' hr' h1
      | bk τ' S' => rw [e] at h1; exact h1
      | ret w S' => rw [e] at h1; exact h1
      | exc x τ' S' => rw [e] at h1; exact h1
      | bad => rw [e] at h1; exact h1
  exact key rows [] τ S rfl h0
/-- the same where nothing is kept of the rows -/
theorem So_forP {f : Row → Tau → Sto → RS} {rows : List Row} (I : Tau → Sto → Prop) {τ : Tau} {S : Sto} (h0 : I τ S)
    (hs : ∀ r τ S, r ∈ rows → I τ S → So (f r τ S) { nx := I, rt := p.rt, bk := p.nx, ct := I, ex := p.ex })
    (he : ∀ τ S, I τ S → p.nx τ S) : So (forLoop f rows τ S) p :=
  So_for (fun _ => I) h0 (fun pre r post τ S e h => hs r τ S (by rw [e]; simp) h) he
/-- a while, by a measure -/
theorem So_whl {c : Tau → Sto → R Bool} {b : Tau → Sto → RS} (I : Nat → Tau → Sto → Prop) {n k : Nat} {τ : Tau} {S : Sto} (hk : k < n) (h0 : I k τ S)
    (hs : ∀ m τ S, I m τ S → Ok (c τ S) (fun t S => if t then So (b τ S) { nx := fun τ S => ∃ j, j < m ∧ I j τ S, rt := p.rt, bk := p.nx, ct := fun τ S => ∃ j, j < m ∧ I j τ S, ex := p.ex } else p.nx τ S) (fun x S => p.ex x τ S)) :
    So (whlLoop c b n τ S) p := by
  induction n generalizing k τ S with
  | zero => omega
  | succ n ih =>
    unfold whlLoop
    rw [So_then]
    refine Ok_mono (hs k τ S h0) (fun t S h => ?_) fun _ _ h => h
    cases t with
    | false => exact h
    | true =>
      simp only [if_true] at h ⊢
      cases e : b τ S with
      | nx τ' S' => rw [e] at h; obtain ⟨j, h1, h2⟩ := h; exact ih (by omega) h2
      | ct τ' S' => rw [e] at h; obtain ⟨j, h1, h2⟩ := h; exact ih (by omega) h2
      | bk τ' S' => rw [e] at h; exact h
      | ret w S' => rw [e] at h; exact h
      | exc x τ' S' => rw [e] at h; exact h
      | bad => rw [e] at h; exact h
/-- a comprehension, by an invariant -/
theorem Ok_lc {f : Row → Sto → R (Option W)} {rows : List Row} {Q : List W → Sto → Prop} (I : List Row → List W → Sto → Prop) {S : Sto} (h0 : I [] [] S)
    (hs : ∀ pre r post acc S, rows = pre ++ r :: post → I pre acc S → Ok (f r S) (fun o S => I (pre ++ [r]) (acc ++ o.toList) S) noX)
    (he : ∀ acc S, I rows acc S → Q acc S) : Ok (lcLoop f rows [] S) Q E := by
  have key : ∀ (rs pre : List Row) (acc : List W) (S : Sto), rows = pre ++ rs → I pre acc S → Ok (lcLoop f rs acc S) Q E := by
    intro rs
    induction rs with
    | nil =>
      intro pre acc S hr hI
      refine he acc S ?_
      rw [hr, List.append_nil]
      exact hI
    | cons r rs ih =>
      intro pre acc S hr hI
      have h1 := hs pre r rs acc S hr hI
      have hr' : rows = (pre ++ [r]) ++ rs := by rw [hr]; simp
      unfold lcLoop
      cases e : f r S with
      | ok o S' =>
        rw [e] at h1
        cases o with
        | none => exact ih _ _ S' hr' (by simpa [Ok_ok] using h1)
        | some w => exact ih _ _ S' hr' (by simpa [Ok_ok] using h1)
      | exc x S' => rw [e] at h1; exact h1.elim
      | bad => rw [e] at h1; exact h1
  exact key rows [] [] S rfl h0
/-- where nothing changes -/
theorem Ok_lcP {f : Row → Sto → R (Option W)} {rows : List Row} {Q : List W → Sto → Prop} (g : Row → Option W) {S : Sto} (hs : ∀ r, r ∈ rows → f r S = .ok (g r) S) (he : Q (rows.filterMap g) S) : Ok (lcLoop f rows [] S) Q E := by
  refine Ok_lc (I := fun pre acc S' => S' = S ∧ acc = pre.filterMap g) ⟨rfl, rfl⟩ (fun pre r post acc S' e h => ?_) fun acc S' h => ?_
  · obtain ⟨rfl, rfl⟩ := h
    rw [hs r (by rw [e]; simp)]
    refine ⟨rfl, ?_⟩
    rw [List.filterMap_append]
    cases q : g r <;> simp [q]
  · obtain ⟨rfl, rfl⟩ := h
    exact he
end
/-! ## calls -/
def endP (gc : Bool) (n : Nat) (Q : W → Sto → Prop) (E : Xc → Sto → Prop) : Po where
  nx _ S := Ok (if gc then sweep n (.p .none) S else .ok (.p .none) S) Q E
  rt w S := Ok (if gc then sweep n w S else .ok w S) Q E
  bk _ _ := False
  ct _ _ := False
  ex x _ S := E x S
theorem Ok_call {T : List Fd} {k i : Nat} {fd : Fd} {ws : List W} {S : Sto} {Q : W → Sto → Prop} {E : Xc → Sto → Prop} (h : T[i]? = some fd) (hl : ws.length = fd.np)
    (b : So (evSs (callN T k) fd.body (ws.map some ++ List.replicate (fd.nn - fd.np) none) S) (endP fd.gc S.length Q E)) : Ok (callN T (k + 1) i ws S) Q E := by
  unfold callN
  rw [h]
  dsimp only
  rw [if_pos hl]
  revert b
  generalize evSs (callN T k) fd.body _ S = r
  intro b
  cases r <;> exact b
/-- the store names no place beyond its end -/
def Clo (S : Sto) : Prop := ∀ o, o ∈ S → obBelow S.length o = true
theorem sweep_p {S J : Sto} (h : Clo S) (d : PyData) : sweep S.length (.p d) (S ++ J) = .ok (.p d) S := by
  unfold sweep
  rw [List.take_left, if_pos (List.all_eq_true.mpr h)]
  rfl
theorem Ok_end {S J : Sto} {d : PyData} {gc : Bool} {Q : W → Sto → Prop} {E : Xc → Sto → Prop} {n : Nat} (h : Clo S) (hg : gc = true) (hn : n = S.length) (q : Q (.p d) S) : Ok (if gc then sweep n (.p d) (S ++ J) else .ok (.p d) (S ++ J)) Q E := by
  subst hn hg
  rw [if_pos rfl, sweep_p h]
  exact q
theorem Ok_end0 {S : Sto} {d : PyData} {gc : Bool} {Q : W → Sto → Prop} {E : Xc → Sto → Prop} {n : Nat} (h : Clo S) (hg : gc = true) (hn : n = S.length) (q : Q (.p d) S) : Ok (if gc then sweep n (.p d) S else .ok (.p d) S) Q E := by
  have := Ok_end (J := []) (E := E) h hg hn q
  rwa [List.append_nil] at this
end Pv
end

section
set_option maxRecDepth 10000
set_option maxHeartbeats 4000000
namespace Pv
open PySem PySem.Spec L2
open PyProof.Rows hiding St
/-! trees of defs that several laws share (printed by gen.py) -/
def nx_law_spring : List Str := ["_law_script", "_law_mixed", "_law_cell"]
def bx_law_spring_1 : Sx := (.cs (.ret (.lst true (.cs (.lc true [2] (.n 2) (.iSeq (.sl (.v 0) .nl (.cs (.k (.int 60)) .nl))) (.cs (.tt (.cmp .GtE (.bi .abs (.cs (.v 2) .nl)) (.op .Pow (.k (.int 10)) (.k (.int 18))))) .nl) (.bi .abs (.cs (.v 2) .nl))) (.cs (.v 1) .nl)))) .nl)
def bx_law_spring_2 : Sx := (.cs (.asg (.n 1) (.op .Mod (.bi .int (.cs (.op .Add (.op .Add (.op .Mult (.v 1) (.k (.int 6906969069))) (.bi .abs (.cs (.v 2) .nl))) (.op .Mult (.k (.int 3)) (.bi .int (.cs (.cmp .Lt (.v 2) (.k (.int 0))) .nl)))) .nl)) (.k (.int 9223372036854775783)))) .nl)
def bx_law_spring : Sx := (.cs (.asg (.n 1) (.op .Add (.k (.int 61331)) (.bi .len (.cs (.v 0) .nl)))) (.cs (.for_ (.n 2) (.iSeq (.sl (.v 0) .nl (.cs (.k (.int 60)) .nl))) (bx_law_spring_2)) (bx_law_spring_1)))
/-- _law_spring(_law_script) -/
def fx_law_spring : Fd := ⟨1, 3, false, bx_law_spring⟩
def nx_law_drop : List Str := ["_law_spring_here", "_law_many", "_law_cell"]
def bx_law_drop_1 : Sx := (.cs (.sub (.v 0) (.k (.int 1)) (.op .Mod (.bi .int (.cs (.op .Add (.op .Mult (.ix (.v 0) (.k (.int 1))) (.k (.int 6364136223846793005))) (.k (.int 1442695040888963407))) .nl)) (.k (.int 18446744073709551616)))) (.cs (.ret (.op .Mod (.bi .int (.cs (.op .FloorDiv (.ix (.v 0) (.k (.int 1))) (.k (.int 4294967296))) .nl)) (.v 1))) .nl))
def bx_law_drop_2 : Sx := (.cs (.expr (.me .popAt (.ix (.v 0) (.k (.int 0))) (.cs (.k (.int 0)) .nl))) .nl)
def bx_law_drop_3 : Sx := (.cs (.asg (.n 2) (.bi .int (.cs (.ix (.ix (.v 0) (.k (.int 0))) (.k (.int 0))) .nl))) (.cs (.iff (.tt (.cmp .Gt (.v 2) (.k (.int 0)))) (.cs (.sub (.ix (.v 0) (.k (.int 0))) (.k (.int 0)) (.op .FloorDiv (.v 2) (.v 1))) (.cs (.ret (.op .Mod (.bi .int (.cs (.v 2) .nl)) (.v 1))) .nl)) .nl) (bx_law_drop_2)))
def bx_law_drop : Sx := (.cs (.whl (.tt (.cmp .NotEq (.ix (.v 0) (.k (.int 0))) (.lst false .nl))) (bx_law_drop_3)) (bx_law_drop_1))
/-- _law_drop(_law_spring_here, _law_many) -/
def fx_law_drop : Fd := ⟨2, 3, true, bx_law_drop⟩
def nx_law_pick : List Str := ["_law_spring_here", "_law_items"]
def bx_law_pick (c_law_drop : Nat) : Sx := (.cs (.ret (.ix (.v 1) (.call c_law_drop (.cs (.v 0) (.cs (.bi .len (.cs (.v 1) .nl)) .nl))))) .nl)
/-- _law_pick(_law_spring_here, _law_items) -/
def fx_law_pick (c_law_drop : Nat) : Fd := ⟨2, 2, true, bx_law_pick c_law_drop⟩
def nx_law_act : List Str := ["_law_spring_here", "_law_screens", "_law_aims", "_law_way"]
def bx_law_act_1 (c_law_drop : Nat) (c_law_pick : Nat) : Sx := (.cs (.ret (.ife (.tt (.cmp .Lt (.v 3) (.k (.int 6)))) (.tup (.cs (.k (.str "back")) .nl)) (.tup (.cs (.k (.str "to")) (.cs (.call c_law_pick (.cs (.v 0) (.cs (.v 2) .nl))) .nl))))) .nl)
def bx_law_act_2 (c_law_drop : Nat) (c_law_pick : Nat) : Sx := (.cs (.iff (.tt (.cmp .Eq (.v 3) (.k (.int 3)))) (.cs (.ret (.tup (.cs (.k (.str "put")) (.cs (.call c_law_pick (.cs (.v 0) (.cs (.v 1) .nl))) .nl)))) .nl) .nl) (bx_law_act_1 c_law_drop c_law_pick))
def bx_law_act (c_law_drop : Nat) (c_law_pick : Nat) : Sx := (.cs (.asg (.n 3) (.call c_law_drop (.cs (.v 0) (.cs (.k (.int 7)) .nl)))) (.cs (.iff (.tt (.cmp .Lt (.v 3) (.k (.int 3)))) (.cs (.ret (.tup (.cs (.k (.str "open")) (.cs (.call c_law_pick (.cs (.v 0) (.cs (.v 1) .nl))) .nl)))) .nl) .nl) (bx_law_act_2 c_law_drop c_law_pick)))
/-- _law_act(_law_spring_here, _law_screens, _law_aims) -/
def fx_law_act (c_law_drop : Nat) (c_law_pick : Nat) : Fd := ⟨3, 4, true, bx_law_act c_law_drop c_law_pick⟩
def nx_law_app : List Str := ["_law_spring_here", "_law_most", "_law_modes", "_law_some", "_law_screens", "_law_aims", "_law_taps", "_law_mode", "_law_screen", "_law_name", "_law_start"]
def bx_law_app_1 (c_law_act : Nat) (c_law_drop : Nat) (c_law_pick : Nat) : Sx := (.cs (.asg (.n 10) (.tup (.cs (.call c_law_pick (.cs (.v 0) (.cs (.v 2) .nl))) (.cs (.call c_law_pick (.cs (.v 0) (.cs (.v 4) .nl))) .nl)))) (.cs (.ret (.tup (.cs (.k (.str "app")) (.cs (.v 2) (.cs (.v 4) (.cs (.v 10) (.cs (.bi .tuple (.cs (.sl (.bi .sorted (.cs (.v 6) .nl)) .nl (.cs (.k (.int 24)) .nl)) .nl)) .nl))))))) .nl))
def bx_law_app_2 (c_law_act : Nat) (c_law_drop : Nat) (c_law_pick : Nat) : Sx := (.cs (.expr (.me .append (.v 6) (.cs (.tup (.cs (.v 9) (.cs (.v 7) (.cs (.v 8) (.cs (.call c_law_act (.cs (.v 0) (.cs (.v 4) (.cs (.v 5) .nl)))) (.cs (.call c_law_pick (.cs (.v 0) (.cs (.v 2) .nl))) .nl)))))) .nl))) .nl)
def bx_law_app_3 (c_law_act : Nat) (c_law_drop : Nat) (c_law_pick : Nat) : Sx := (.cs (.for_ (.n 9) (.iSeq (.sl (.lst false (.cs (.k (.str "back")) (.cs (.k (.str "go")) (.cs (.k (.str "more")) (.cs (.k (.str "x")) (.cs (.k (.str "zzzzzzzz")) .nl)))))) .nl (.cs (.call c_law_drop (.cs (.v 0) (.cs (.v 1) .nl))) .nl))) (bx_law_app_2 c_law_act c_law_drop c_law_pick)) .nl)
def bx_law_app_4 (c_law_act : Nat) (c_law_drop : Nat) (c_law_pick : Nat) : Sx := (.cs (.for_ (.n 8) (.iSeq (.v 4)) (bx_law_app_3 c_law_act c_law_drop c_law_pick)) .nl)
def bx_law_app (c_law_act : Nat) (c_law_drop : Nat) (c_law_pick : Nat) : Sx := (.cs (.asg (.n 2) (.call c_law_pick (.cs (.v 0) (.cs (.lst false (.cs (.tup (.cs (.k (.str "guest")) (.cs (.k (.str "member")) .nl))) (.cs (.tup (.cs (.k (.str "a")) .nl)) (.cs (.tup (.cs (.k (.str "day")) (.cs (.k (.str "night")) (.cs (.k (.str "zzzzzzzz")) .nl)))) (.cs (.tup (.cs (.k (.str "a")) (.cs (.k (.str "ab")) .nl))) .nl))))) .nl)))) (.cs (.asg (.n 3) (.lst false (.cs (.tup (.cs (.k (.str "cart")) (.cs (.k (.str "home")) (.cs (.k (.str "list")) .nl)))) (.cs (.tup (.cs (.k (.str "x")) .nl)) (.cs (.tup (.cs (.k (.str "a")) (.cs (.k (.str "b")) .nl))) (.cs (.tup (.cs (.k (.str "b")) (.cs (.k (.str "bb")) .nl))) (.cs (.tup (.cs (.k (.str "a")) (.cs (.k (.str "aa")) (.cs (.k (.str "b")) (.cs (.k (.str "longname")) .nl))))) .nl))))))) (.cs (.asg (.n 4) (.call c_law_pick (.cs (.v 0) (.cs (.v 3) .nl)))) (.cs (.par [5, 6] (.cs (.lst false (.cs (.call c_law_pick (.cs (.v 0) (.cs (.v 4) .nl))) (.cs (.call c_law_pick (.cs (.v 0) (.cs (.v 4) .nl))) .nl))) (.cs (.lst true .nl) .nl))) (.cs (.for_ (.n 7) (.iSeq (.v 2)) (bx_law_app_4 c_law_act c_law_drop c_law_pick)) (bx_law_app_1 c_law_act c_law_drop c_law_pick))))))
/-- _law_app(_law_spring_here, _law_most) -/
def fx_law_app (c_law_act : Nat) (c_law_drop : Nat) (c_law_pick : Nat) : Fd := ⟨2, 11, true, bx_law_app c_law_act c_law_drop c_law_pick⟩
def nxtaps_on : List Str := ["app", "mode", "screen", "tap"]
def bxtaps_on : Sx := (.cs (.ret (.bi .tuple (.cs (.lc false [3] (.n 3) (.iSeq (.ix (.v 0) (.k (.int 4)))) (.cs (.an (.cs (.tt (.cmp .Eq (.ix (.v 3) (.k (.int 1))) (.v 1))) (.cs (.tt (.cmp .Eq (.ix (.v 3) (.k (.int 2))) (.v 2))) .nl))) .nl) (.v 3)) .nl))) .nl)
/-- taps_on(app, mode, screen) -/
def fxtaps_on : Fd := ⟨3, 4, true, bxtaps_on⟩
end Pv
end

section
set_option maxRecDepth 10000
set_option maxHeartbeats 4000000
namespace Pv
open PySem PySem.Spec L2
open PyProof.Rows hiding St

/-! ## the spring of the first laws -/
structure Spg where
  cs : List Int
  m : Int
  le : cs.length ≤ 63
def Spr (s : Spg) (R : Sto) : Sto := .l (s.cs.map fun i => .p (.int i)) :: .l [.r 0, .p (.int s.m)] :: R
def CloR (R : Sto) : Prop := ∀ o, o ∈ R → obBelow (R.length + 2) o = true
theorem clo_spr {s : Spg} {R : Sto} (h : CloR R) : Clo (Spr s R) := by
  intro o ho
  simp only [Spr, List.mem_cons] at ho
  rcases ho with rfl | rfl | ho
  · simp [obBelow, below]
  · simp [obBelow, below, Spr]
  · exact h o ho
theorem CloR.nil : CloR [] := fun o h => nomatch h
theorem below_mono {n m : Nat} (h : n ≤ m) {w : W} (b : below n w = true) : below m w = true := by
  cases w <;> simp [below] at b ⊢
  omega
theorem obBelow_mono {n m : Nat} (h : n ≤ m) {o : Ob} (b : obBelow n o = true) : obBelow m o = true := by
  cases o with
  | l ws => exact List.all_eq_true.mpr fun w hw => below_mono h (List.all_eq_true.mp b w hw)
theorem CloR.snoc {R : Sto} {ds : List PyData} (h : CloR R) : CloR (R ++ [.l (ds.map W.p)]) := by
  intro o ho
  rcases List.mem_append.mp ho with q | q
  · exact obBelow_mono (by simp) (h o q)
  · simp only [List.mem_singleton] at q
    subst q
    simp [obBelow, below]
theorem mapO_p {k : Nat} {S : Sto} : ∀ ds : List PyData, mapO (puN k S) (ds.map W.p) = some ds
  | [] => rfl
  | d :: r => by
    have e : puN k S (.p d) = some d := by cases k <;> rfl
    simp only [List.map_cons, mapO, e, mapO_p r, Option.map]
theorem ints_w (cs : List Int) : (cs.map fun i => W.p (.int i)) = (cs.map PyData.int).map W.p := by simp
theorem canLay_ints : ∀ cs : List Int, PyData.canLayAll0 (cs.map PyData.int) = true
  | [] => rfl
  | c :: r => by simp [PyData.canLayAll0, PyData.canLay0, canLay_ints r]
theorem depth_ints : ∀ cs : List Int, PyData.depthAll (cs.map PyData.int) ≤ 1
  | [] => by simp [PyData.depthAll]
  | c :: r => by
    have := depth_ints r
    simp [PyData.depthAll, PyData.depth] at this ⊢
    omega
/-! ### the operations, by equations -/
section
variable {S : Sto}
theorem e_add (i j : Int) : fAdd S (.p (.int i)) (.p (.int j)) = some (.p (.int (i + j)), S) := rfl
theorem e_addT (a b : List PyData) (h : a.length + b.length ≤ lim) : fAdd S (.p (.tuple a)) (.p (.tuple b)) = some (.p (.tuple (a ++ b)), S) := if_pos h
theorem e_addL (a b : List PyData) (h : a.length + b.length ≤ lim) : fAdd S (.p (.list a)) (.p (.list b)) = some (.p (.list (a ++ b)), S) := if_pos h
theorem e_addS (a b : Str) (h : a.length + b.length ≤ lim) : fAdd S (.p (.str a)) (.p (.str b)) = some (.p (.str (a ++ b)), S) := if_pos h
theorem e_sub (i j : Int) : fSub S (.p (.int i)) (.p (.int j)) = some (.p (.int (i - j)), S) := rfl
theorem e_mul (i j : Int) (h : (small j || small i) = true) : fMul S (.p (.int i)) (.p (.int j)) = some (.p (.int (i * j)), S) := if_pos h
theorem e_div (i j : Int) (h : 0 < j ∧ j < 2 ^ 64) : fDiv S (.p (.int i)) (.p (.int j)) = some (.p (.int (i / j)), S) := if_pos (decide_eq_true h)
theorem e_mod (i j : Int) (h : 0 < j) : fMod S (.p (.int i)) (.p (.int j)) = some (.p (.int (i % j)), S) := if_pos h
theorem ordOk_int (i j : Int) : ordOk (.int i) (.int j) = true := by simp [ordOk, PySem.W.alike, PyData.depth]
theorem e_lt (i j : Int) : fOrd (fun a b => PySem.W.dataLt a b) S (.p (.int i)) (.p (.int j)) = some (.p (.bool (decide (i < j))), S) := by
  unfold fOrd
  dsimp only
  rw [if_pos (ordOk_int _ _), PySem.W.dataLt_int]
  rfl
theorem e_gt (i j : Int) : fOrd (fun a b => PySem.W.dataLt b a) S (.p (.int i)) (.p (.int j)) = some (.p (.bool (decide (j < i))), S) := by
  unfold fOrd
  dsimp only
  rw [if_pos (ordOk_int _ _), PySem.W.dataLt_int]
  rfl
theorem e_le (i j : Int) : fOrd (fun a b => !PySem.W.dataLt b a) S (.p (.int i)) (.p (.int j)) = some (.p (.bool (decide (i ≤ j))), S) := by
  unfold fOrd
  dsimp only
  rw [if_pos (ordOk_int _ _), PySem.W.dataLt_int]
  unfold b2
  congr 4
  by_cases h : i ≤ j
  · rw [decide_eq_true h, decide_eq_false (by omega)]; rfl
  · rw [decide_eq_false h, decide_eq_true (by omega)]; rfl
theorem e_ge (i j : Int) : fOrd (fun a b => !PySem.W.dataLt a b) S (.p (.int i)) (.p (.int j)) = some (.p (.bool (decide (j ≤ i))), S) := by
  unfold fOrd
  dsimp only
  rw [if_pos (ordOk_int _ _), PySem.W.dataLt_int]
  unfold b2
  congr 4
  by_cases h : j ≤ i
  · rw [decide_eq_true h, decide_eq_false (by omega)]; rfl
  · rw [decide_eq_false h, decide_eq_true (by omega)]; rfl
theorem e_abs (i : Int) : fAbs S [.p (.int i)] = some (.p (.int (if i < 0 then -i else i)), S) := rfl
theorem e_int (i : Int) : fInt S [.p (.int i)] = some (.p (.int i), S) := rfl
theorem e_intB (b : Bool) : fInt S [.p (.bool b)] = some (.p (.int (if b then 1 else 0)), S) := rfl
theorem e_lenT (ds : List PyData) : fLen S [.p (.tuple ds)] = some (.p (.int ds.length), S) := rfl
theorem e_lenL (ds : List PyData) : fLen S [.p (.list ds)] = some (.p (.int ds.length), S) := rfl
theorem e_lenN (ns : List Int) : fLen S [.s ns] = some (.p (.int ns.length), S) := rfl
theorem e_lenS (x : Str) (h : x.length ≤ lim) : fLen S [.p (.str x)] = some (.p (.int x.length), S) := if_pos h
theorem atI_map {α β : Type} (f : α → β) (xs : List α) (i : Int) : L2.atI (xs.map f) i = (L2.atI xs i).map f := by
  unfold L2.atI
  rw [List.length_map]
  cases L2.ixN xs.length i with
  | none => rfl
  | some j => simp
theorem e_ixT (ds : List PyData) (i : Int) : fIx S (.p (.tuple ds)) (.p (.int i)) = (L2.atI ds i).map fun d => (.p d, S) := by
  show (L2.atI (ds.map W.p) i).map _ = _
  rw [atI_map]
  cases L2.atI ds i <;> rfl
theorem e_ixL (ds : List PyData) (i : Int) : fIx S (.p (.list ds)) (.p (.int i)) = (L2.atI ds i).map fun d => (.p d, S) := by
  show (L2.atI (ds.map W.p) i).map _ = _
  rw [atI_map]
  cases L2.atI ds i <;> rfl
theorem atI_ok {α : Type} {xs : List α} {z : Nat} {x : α} (h : xs[z]? = some x) : L2.atI xs (z : Int) = some x := by
  have hl := (List.getElem?_eq_some_iff.mp h).1
  unfold L2.atI L2.ixN
  rw [if_pos (by omega), if_pos (by omega)]
  simpa using h
theorem mkL (ds : List PyData) (h : ds.length ≤ lim) : mkLst false (ds.map W.p) S = .ok (.p (.list ds)) S := by
  unfold mkLst
  rw [List.length_map, if_pos h]
  have : deP (ds.map W.p) = some ds := by
    clear h
    induction ds with
    | nil => rfl
    | cons d r ih => simp only [List.map_cons, deP, ih, Option.map]
  simp [this]
theorem deP_map : ∀ ds : List PyData, deP (ds.map W.p) = some ds
  | [] => rfl
  | d :: r => by simp only [List.map_cons, deP, deP_map r, Option.map]
theorem mkT (ds : List PyData) (h : ds.length ≤ lim) : mkTup (ds.map W.p) S = .ok (.p (.tuple ds)) S := by
  unfold mkTup
  rw [List.length_map, if_pos h, deP_map]
theorem trub (b : Bool) : tru S (.p (.bool b)) = some b := rfl
end
section
variable {s : Spg} {R : Sto}
theorem spr_0 : (Spr s R)[0]? = some (.l (s.cs.map fun i => .p (.int i))) := rfl
theorem spr_1 : (Spr s R)[1]? = some (.l [.r 0, .p (.int s.m)]) := rfl
theorem spr_ix0 : fIx (Spr s R) (.r 1) (.p (.int 0)) = some (.r 0, Spr s R) := rfl
theorem spr_ix1 : fIx (Spr s R) (.r 1) (.p (.int 1)) = some (.p (.int s.m), Spr s R) := rfl
theorem spr_ne : fNe (Spr s R) (.r 0) (.p (.list [])) = some (.p (.bool (!s.cs.isEmpty)), Spr s R) := by
  have e : pu (Spr s R) (.r 0) = some (.list (s.cs.map PyData.int)) := by
    show (mapO (puN 2 (Spr s R)) (s.cs.map fun i => W.p (.int i))).map PyData.list = _
    rw [ints_w, mapO_p]
    rfl
  have e2 : pu (Spr s R) (.p (.list [])) = some (.list []) := rfl
  have e3 : shapedB (.list (s.cs.map PyData.int)) = true := by
    unfold shapedB SeqAt.shaped
    have := depth_ints s.cs
    simp [PyData.canLay0, canLay_ints, PyData.depth]
    omega
  unfold fNe
  rw [e, e2]
  dsimp only
  rw [e3, if_pos (by simp [shapedB, SeqAt.shaped, PyData.canLay0, PyData.canLayAll0, PyData.depth, PyData.depthAll])]
  unfold b2
  cases s.cs <;> rfl
end
theorem mkL0 {S : Sto} : mkLst false [] S = .ok (.p (.list [])) S := rfl
theorem drop_ok {T : List Fd} {k i : Nat} {s : Spg} {R : Sto} {many : Int} (h : T[i]? = some fx_law_drop) (hm : 0 < many) (hm2 : many < 2 ^ 64) (hc : CloR R) {Q : W → Sto → Prop} {E : Xc → Sto → Prop}
    (q : ∀ (z : Nat) s', (z : Int) < many → Q (.p (.int z)) (Spr s' R)) : Ok (callN T (k + 1) i [.r 1, .p (.int many)] (Spr s R)) Q E := by
  refine Ok_call h rfl ?_
  have q' : ∀ (z : Int) s', Ok (if true then sweep (Spr s R).length (.p (.int (z % many))) (Spr s' R) else .ok (.p (.int (z % many))) (Spr s' R)) Q E := fun z s' => by
    have h1 := Int.emod_nonneg z (show many ≠ 0 by omega)
    have h2 := Int.emod_lt_of_pos z hm
    have := q (z % many).toNat s' (by omega)
    rw [Int.toNat_of_nonneg h1] at this
    exact Ok_end0 (clo_spr hc) rfl rfl this
  simp only [fx_law_drop, bx_law_drop, So_cs, So_nl, So_then, So_ite, So_nx, So_ret, So_bk, So_ct, evS, evE, evEs, evT, evTa, evTo, evAn, evOr, evAs, evP, evI, Ok_bind, Ok_ok, Ok_bad, Ok_some, Ok_bs, Ok_ite, asgT, asgR, asgT.asgTs, setAll, wipeT, biF, meF, binF, cmpF, bl?, List.getElem?_cons_zero, List.getElem?_cons_succ, List.set_cons_zero, List.set_cons_succ, List.map_cons, List.map_nil, List.replicate_succ, List.replicate_zero, List.cons_append, List.nil_append, Nat.sub_self, Nat.reduceSub, Nat.reduceAdd]
  refine So_whl (I := fun j τ S => ∃ (s : Spg) (x : Option W), j = s.cs.length ∧ τ = [some (.r 1), some (.p (.int many)), x] ∧ S = Spr s R) (k := s.cs.length) (by have := s.le; unfold fuel; omega) ⟨s, _, rfl, rfl, rfl⟩ ?_
  rintro j τ S ⟨s', x, rfl, rfl, rfl⟩
  simp only [So_cs, So_nl, So_then, So_ite, So_nx, So_ret, So_bk, So_ct, evS, evE, evEs, evT, evTa, evTo, evAn, evOr, evAs, evP, evI, Ok_bind, Ok_ok, Ok_bad, Ok_some, Ok_bs, Ok_ite, asgT, asgR, asgT.asgTs, setAll, wipeT, biF, meF, binF, cmpF, bl?, List.getElem?_cons_zero, List.getElem?_cons_succ, List.set_cons_zero, List.set_cons_succ, List.map_cons, List.map_nil, List.replicate_succ, List.replicate_zero, List.cons_append, List.nil_append, Nat.sub_self, Nat.reduceSub, Nat.reduceAdd, spr_ix0, mkL0, spr_ne, trub]
  obtain ⟨cs, m, hle⟩ := s'
  cases cs with
  | nil =>
    simp only [List.isEmpty_nil, Bool.not_true, Bool.false_eq_true, if_false]
    simp only [bx_law_drop_1, So_cs, So_nl, So_then, So_ite, So_nx, So_ret, So_bk, So_ct, evS, evE, evEs, evT, evTa, evTo, evAn, evOr, evAs, evP, evI, Ok_bind, Ok_ok, Ok_bad, Ok_some, Ok_bs, Ok_ite, asgT, asgR, asgT.asgTs, setAll, wipeT, biF, meF, binF, cmpF, bl?, List.getElem?_cons_zero, List.getElem?_cons_succ, List.set_cons_zero, List.set_cons_succ, List.map_cons, List.map_nil, List.replicate_succ, List.replicate_zero, List.cons_append, List.nil_append, Nat.sub_self, Nat.reduceSub, Nat.reduceAdd, spr_ix1, e_add, e_int]
    have e : ∀ j : Int, fSet (Spr ⟨[], m, hle⟩ R) (.r 1) (.p (.int 1)) (.p (.int j)) = some (Spr ⟨[], j, hle⟩ R) := fun _ => rfl
    rw [e_mul _ _ (by simp [small]), Ok_some, e_add, Ok_some, e_int, Ok_some, e_mod _ _ (by decide), Ok_some, e, So_nx]
    simp only [So_cs, So_nl, So_then, So_ite, So_nx, So_ret, So_bk, So_ct, evS, evE, evEs, evT, evTa, evTo, evAn, evOr, evAs, evP, evI, Ok_bind, Ok_ok, Ok_bad, Ok_some, Ok_bs, Ok_ite, asgT, asgR, asgT.asgTs, setAll, wipeT, biF, meF, binF, cmpF, bl?, List.getElem?_cons_zero, List.getElem?_cons_succ, List.set_cons_zero, List.set_cons_succ, List.map_cons, List.map_nil, List.replicate_succ, List.replicate_zero, List.cons_append, List.nil_append, Nat.sub_self, Nat.reduceSub, Nat.reduceAdd, spr_ix1]
    rw [e_div _ _ (by decide), Ok_some, e_int, Ok_some, e_mod _ _ hm, Ok_some]
    exact q' _ _
  | cons c cs =>
    simp only [List.isEmpty_cons, Bool.not_false, if_true, bx_law_drop_3, So_cs, So_nl, So_then, So_ite, So_nx, So_ret, So_bk, So_ct, evS, evE, evEs, evT, evTa, evTo, evAn, evOr, evAs, evP, evI, Ok_bind, Ok_ok, Ok_bad, Ok_some, Ok_bs, Ok_ite, asgT, asgR, asgT.asgTs, setAll, wipeT, biF, meF, binF, cmpF, bl?, List.getElem?_cons_zero, List.getElem?_cons_succ, List.set_cons_zero, List.set_cons_succ, List.map_cons, List.map_nil, List.replicate_succ, List.replicate_zero, List.cons_append, List.nil_append, Nat.sub_self, Nat.reduceSub, Nat.reduceAdd, spr_ix0]
    have e1 : fIx (Spr ⟨c :: cs, m, hle⟩ R) (.r 0) (.p (.int 0)) = some (.p (.int c), Spr ⟨c :: cs, m, hle⟩ R) := by
      unfold fIx
      simp only [items, spr_0]
      simp [L2.atI, L2.ixN]
    simp only [e1, Ok_some, e_int, e_gt, trub, Ok_bs, decide_eq_true_eq]
    split
    · rename_i hc0
      have e : ∀ j : Int, fSet (Spr ⟨c :: cs, m, hle⟩ R) (.r 0) (.p (.int 0)) (.p (.int j)) = some (Spr ⟨j :: cs, m, hle⟩ R) := fun j => by
        unfold fSet
        simp only [spr_0]
        simp [L2.ixN, Spr]
      rw [e_div _ _ ⟨hm, hm2⟩, Ok_some, spr_ix0, Ok_some, e, So_nx]
      simp only [So_cs, So_nl, So_then, So_ite, So_nx, So_ret, So_bk, So_ct, evS, evE, evEs, evT, evTa, evTo, evAn, evOr, evAs, evP, evI, Ok_bind, Ok_ok, Ok_bad, Ok_some, Ok_bs, Ok_ite, asgT, asgR, asgT.asgTs, setAll, wipeT, biF, meF, binF, cmpF, bl?, List.getElem?_cons_zero, List.getElem?_cons_succ, List.set_cons_zero, List.set_cons_succ, List.map_cons, List.map_nil, List.replicate_succ, List.replicate_zero, List.cons_append, List.nil_append, Nat.sub_self, Nat.reduceSub, Nat.reduceAdd, e_int]
      rw [e_mod _ _ hm, Ok_some]
      exact q' _ _
    · have e : fPopAt (Spr ⟨c :: cs, m, hle⟩ R) (.r 0) [.p (.int 0)] = some (.p (.int c), Spr ⟨cs, m, Nat.le_of_succ_le hle⟩ R) := by
        unfold fPopAt
        simp only [spr_0]
        have hx : ¬ ((cs.length : Int) + 1 ≤ 0) := by omega
        have hq : (c :: cs).length ≤ lim := Nat.le_trans hle (by decide)
        simp at hq
        simp [L2.ixN, Spr, hq]
      simp only [bx_law_drop_2, So_cs, So_nl, So_then, So_ite, So_nx, So_ret, So_bk, So_ct, evS, evE, evEs, evT, evTa, evTo, evAn, evOr, evAs, evP, evI, Ok_bind, Ok_ok, Ok_bad, Ok_some, Ok_bs, Ok_ite, asgT, asgR, asgT.asgTs, setAll, wipeT, biF, meF, binF, cmpF, bl?, List.getElem?_cons_zero, List.getElem?_cons_succ, List.set_cons_zero, List.set_cons_succ, List.map_cons, List.map_nil, List.replicate_succ, List.replicate_zero, List.cons_append, List.nil_append, Nat.sub_self, Nat.reduceSub, Nat.reduceAdd, spr_ix0, e]
      rw [if_pos (show meOk MI.popAt (Spr ⟨c :: cs, m, hle⟩ R) (.r 0) = true from rfl)]
      exact ⟨_, Nat.lt_succ_self _, ⟨cs, m, Nat.le_of_succ_le hle⟩, _, rfl, rfl, rfl⟩
theorem cut_to {α : Type} (xs : List α) (n : Nat) : cutL xs none (some (n : Int)) = xs.take n := by
  unfold cutL
  rw [HT.sIx_none, HT.sIx_nat, List.drop_zero, Nat.sub_zero]
  rcases Nat.le_total n xs.length with h | h
  · rw [Nat.min_eq_left h]
  · rw [Nat.min_eq_right h, List.take_of_length_le (Nat.le_refl _), List.take_of_length_le h]
theorem spring_ok {T : List Fd} {k i : Nat} {ns : List Int} (h : T[i]? = some fx_law_spring) (hl : ns.length ≤ 63) {Q : W → Sto → Prop} {E : Xc → Sto → Prop}
    (q : ∀ s, Q (.r 1) (Spr s [])) : Ok (callN T (k + 1) i [.s ns] []) Q E := by
  refine Ok_call h rfl ?_
  have eS : fSl none (some 60) [] (.s ns) = some (.p (.list ((ns.take 60).map PyData.int)), []) := by
    show some (W.p (.list (cutL (ns.map PyData.int) none (some ((60 : Nat) : Int)))), ([] : Sto)) = _
    rw [cut_to, List.map_take]
  have eI : ∀ S : Sto, items S (.p (.list ((ns.take 60).map PyData.int))) = some (false, ((ns.take 60).map PyData.int).map W.p) := fun _ => rfl
  simp only [fx_law_spring, bx_law_spring, So_cs, So_nl, So_then, So_ite, So_nx, So_ret, So_bk, So_ct, evS, evE, evEs, evT, evTa, evTo, evAn, evOr, evAs, evP, evI, Ok_bind, Ok_ok, Ok_bad, Ok_some, Ok_bs, Ok_ite, asgT, asgR, asgT.asgTs, setAll, wipeT, biF, meF, binF, cmpF, bl?, List.getElem?_cons_zero, List.getElem?_cons_succ, List.set_cons_zero, List.set_cons_succ, List.map_cons, List.map_nil, List.replicate_succ, List.replicate_zero, List.cons_append, List.nil_append, Nat.sub_self, Nat.reduceSub, Nat.reduceAdd, e_lenN, e_add, eS, eI, still, if_true]
  refine So_forP (I := fun τ S => ∃ (m : Int) (x : Option W), τ = [some (.s ns), some (.p (.int m)), x] ∧ S = []) ⟨_, _, rfl, rfl⟩ ?_ ?_
  · rintro r τ S hr ⟨m, x, rfl, rfl⟩
    simp only [List.mem_map, List.map_map] at hr
    obtain ⟨c, hc, rfl⟩ := hr
    simp only [Function.comp, bx_law_spring_2, So_cs, So_nl, So_then, So_ite, So_nx, So_ret, So_bk, So_ct, evS, evE, evEs, evT, evTa, evTo, evAn, evOr, evAs, evP, evI, Ok_bind, Ok_ok, Ok_bad, Ok_some, Ok_bs, Ok_ite, asgT, asgR, asgT.asgTs, setAll, wipeT, biF, meF, binF, cmpF, bl?, List.getElem?_cons_zero, List.getElem?_cons_succ, List.set_cons_zero, List.set_cons_succ, List.map_cons, List.map_nil, List.replicate_succ, List.replicate_zero, List.cons_append, List.nil_append, Nat.sub_self, Nat.reduceSub, Nat.reduceAdd, e_abs, e_lt, e_intB]
    rw [e_mul _ _ (by simp [small]), Ok_some, e_add, Ok_some, e_mul _ _ (by simp [small]), Ok_some, e_add, Ok_some, e_int, Ok_some, e_mod _ _ (by decide), Ok_some]
    exact ⟨_, _, rfl, rfl⟩
  · rintro τ S ⟨m, x, rfl, rfl⟩
    simp only [bx_law_spring_1, So_cs, So_nl, So_then, So_ite, So_nx, So_ret, So_bk, So_ct, evS, evE, evEs, evT, evTa, evTo, evAn, evOr, evAs, evP, evI, Ok_bind, Ok_ok, Ok_bad, Ok_some, Ok_bs, Ok_ite, asgT, asgR, asgT.asgTs, setAll, wipeT, biF, meF, binF, cmpF, bl?, List.getElem?_cons_zero, List.getElem?_cons_succ, List.set_cons_zero, List.set_cons_succ, List.map_cons, List.map_nil, List.replicate_succ, List.replicate_zero, List.cons_append, List.nil_append, Nat.sub_self, Nat.reduceSub, Nat.reduceAdd, eS, eI, still, if_true]
    refine Ok_lc (I := fun pre acc S => S = [] ∧ ∃ cs : List Int, acc = cs.map (fun i => W.p (.int i)) ∧ cs.length ≤ pre.length) ⟨rfl, [], rfl, Nat.le_refl _⟩ ?_ ?_
    · rintro pre r post acc S e ⟨rfl, cs, rfl, hcs⟩
      have hr : r ∈ (((ns.take 60).map PyData.int).map W.p).map Row.one := by rw [e]; simp
      simp only [List.mem_map, List.map_map] at hr
      obtain ⟨c, hc, rfl⟩ := hr
      have eP : fPow ([] : Sto) (.p (.int 10)) (.p (.int 18)) = some (.p (.int (10 ^ 18)), []) := rfl
      simp only [Function.comp, So_cs, So_nl, So_then, So_ite, So_nx, So_ret, So_bk, So_ct, evS, evE, evEs, evT, evTa, evTo, evAn, evOr, evAs, evP, evI, Ok_bind, Ok_ok, Ok_bad, Ok_some, Ok_bs, Ok_ite, asgT, asgR, asgT.asgTs, setAll, wipeT, biF, meF, binF, cmpF, bl?, List.getElem?_cons_zero, List.getElem?_cons_succ, List.set_cons_zero, List.set_cons_succ, List.map_cons, List.map_nil, List.replicate_succ, List.replicate_zero, List.cons_append, List.nil_append, Nat.sub_self, Nat.reduceSub, Nat.reduceAdd, e_abs, eP, e_ge, trub]
      generalize (if c < 0 then -c else c) = c'
      split
      · exact ⟨trivial, cs ++ [c'], by simp, by simp; omega⟩
      · exact ⟨trivial, cs, by simp, by simp; omega⟩
    · rintro acc S ⟨rfl, cs, rfl, hcs⟩
      have hcs : cs.length ≤ 63 := by
        simp at hcs
        omega
      have hlim : cs.length ≤ lim := Nat.le_trans hcs (by decide)
      have e1 : mkLst true (cs.map (fun i => W.p (.int i))) [] = .ok (.r 0) [.l (cs.map fun i => W.p (.int i))] := by
        unfold mkLst
        rw [List.length_map, if_pos hlim]
        rfl
      rw [e1, Ok_ok]
      exact q ⟨cs, m, hcs⟩
theorem pick_ok {T : List Fd} {k i iD : Nat} {s : Spg} {R : Sto} {w : W} {ds : List PyData} (hD : T[iD]? = some fx_law_drop) (h : T[i]? = some (fx_law_pick iD)) (hw : w = .p (.list ds) ∨ w = .p (.tuple ds)) (h0 : ds ≠ []) (h1 : ds.length ≤ 1000) (hc : CloR R) {Q : W → Sto → Prop} {E : Xc → Sto → Prop}
    (q : ∀ d s', d ∈ ds → Q (.p d) (Spr s' R)) : Ok (callN T (k + 2) i [.r 1, w] (Spr s R)) Q E := by
  refine Ok_call h rfl ?_
  have hp : 0 < ds.length := List.length_pos_iff.mpr h0
  have eL : fLen (Spr s R) [w] = some (.p (.int ds.length), Spr s R) := by rcases hw with rfl | rfl <;> rfl
  have eX : ∀ (s' : Spg) (z : Nat) (d : PyData), ds[z]? = some d → fIx (Spr s' R) w (.p (.int z)) = some (.p d, Spr s' R) := fun s' z d hz => by
    rcases hw with rfl | rfl
    · rw [e_ixL, atI_ok hz]; rfl
    · rw [e_ixT, atI_ok hz]; rfl
  simp only [fx_law_pick, bx_law_pick, So_cs, So_nl, So_then, So_ite, So_nx, So_ret, So_bk, So_ct, evS, evE, evEs, evT, evTa, evTo, evAn, evOr, evAs, evP, evI, Ok_bind, Ok_ok, Ok_bad, Ok_some, Ok_bs, Ok_ite, asgT, asgR, asgT.asgTs, setAll, wipeT, biF, meF, binF, cmpF, bl?, List.getElem?_cons_zero, List.getElem?_cons_succ, List.set_cons_zero, List.set_cons_succ, List.map_cons, List.map_nil, List.replicate_succ, List.replicate_zero, List.cons_append, List.nil_append, Nat.sub_self, Nat.reduceSub, Nat.reduceAdd, eL]
  refine drop_ok hD (by omega) (by omega) hc fun z s' hz => ?_
  have hz' : z < ds.length := by omega
  rw [eX s' z ds[z] (List.getElem?_eq_getElem hz'), Ok_some]
  exact Ok_end0 (clo_spr hc) rfl rfl (q _ _ (List.getElem_mem hz'))
end Pv
end

section
set_option maxRecDepth 10000
set_option maxHeartbeats 4000000
namespace Pv
open PySem PySem.Spec L2
open PyProof.Rows hiding St

/-! ## how data show -/
theorem so_iff {x : Str} : PyData.strOk x = true ↔ ∀ c ∈ x.cps.toList, c < 0x110000 := by
  unfold PyData.strOk
  rw [Array.all_eq_true_iff_forall_mem]
  simp
theorem so_app {a b : Str} (ha : PyData.strOk a = true) (hb : PyData.strOk b = true) : PyData.strOk (a ++ b) = true := by
  rw [so_iff] at *
  intro c hc
  have e : (a ++ b).cps = a.cps ++ b.cps := rfl
  rw [e, Array.toList_append] at hc
  rcases List.mem_append.mp hc with q | q
  · exact ha c q
  · exact hb c q
theorem so_ofS (x : String) : PyData.strOk (Str.ofString x) = true := by
  rw [so_iff]
  intro c hc
  have e : (Str.ofString x).cps.toList = x.toList.map Char.toNat := by rw [Str.ofString_eq_toList]
  rw [e] at hc
  obtain ⟨d, _, rfl⟩ := List.mem_map.mp hc
  have := d.valid
  have h2 : d.toNat < 0x110000 := by
    rcases this with h | h
    · have : d.val.toNat < 0xd800 := h
      show d.val.toNat < _
      omega
    · exact h.2
  exact h2
theorem so_char {q c : Nat} (hq : q < 0x110000) (hc : c < 0x110000) : ∀ x ∈ Builtin.Str.reprChar q c, x < 0x110000 := by
  intro x hx
  have hx16 : ∀ w : Nat, x ∈ List.replicate w 48 ++ (Nat.toDigits 16 c).map Char.toNat → x < 0x110000 := by
    intro w h
    rcases List.mem_append.mp h with p | p
    · have := List.eq_of_mem_replicate p
      omega
    · obtain ⟨d, _, rfl⟩ := List.mem_map.mp p
      rcases d.valid with h | h
      · have : d.val.toNat < 0xd800 := h
        show d.val.toNat < _
        omega
      · exact h.2
  unfold Builtin.Str.reprChar at hx
  dsimp only at hx
  split at hx
  · simp at hx; omega
  split at hx
  · simp at hx; omega
  split at hx
  · simp at hx; omega
  split at hx
  · simp at hx; omega
  split at hx
  · simp at hx; omega
  split at hx
  · rcases List.mem_append.mp hx with p | p
    · simp at p; omega
    · exact hx16 _ p
  split at hx
  · rcases List.mem_append.mp hx with p | p
    · simp at p; omega
    · exact hx16 _ p
  · rcases List.mem_append.mp hx with p | p
    · simp at p; omega
    · exact hx16 _ p
theorem so_repr {x : Str} (h : PyData.strOk x = true) : PyData.strOk (reprText x) = true := by
  rw [so_iff] at h ⊢
  have hq : reprQuote x < 0x110000 := by
    unfold reprQuote
    split <;> omega
  have key : ∀ (l : List Nat) (acc : Array Nat), (∀ c ∈ l, c < 0x110000) → (∀ c ∈ acc.toList, c < 0x110000) → ∀ c ∈ (l.foldl (fun out c => out ++ (Builtin.Str.reprChar (reprQuote x) c).toArray) acc).toList, c < 0x110000 := by
    intro l
    induction l with
    | nil => intro acc _ h2; exact h2
    | cons a r ih =>
      intro acc h1 h2
      refine ih _ (fun c hc => h1 c (List.mem_cons_of_mem _ hc)) fun c hc => ?_
      rw [Array.toList_append] at hc
      rcases List.mem_append.mp hc with p | p
      · exact h2 c p
      · exact so_char hq (h1 a (List.mem_cons_self ..)) c (by simpa using p)
  intro c hc
  unfold reprText at hc
  rw [Array.toList_push, ← Array.foldl_toList] at hc
  rcases List.mem_append.mp hc with p | p
  · refine key _ _ h (fun c hc => ?_) c p
    simp at hc
    omega
  · simp at p
    omega
theorem so_textFrom : ∀ (ts : List Str) (k : Nat) (acc : Str), PyData.strOk acc = true → (∀ t ∈ ts, PyData.strOk t = true) → PyData.strOk (textFrom k acc ts) = true
  | [], _, _, h, _ => h
  | t :: ts, k, acc, h, g => so_textFrom ts (k + 1) _ (so_app (so_app h (by split <;> exact so_ofS _)) (g t (List.mem_cons_self ..))) fun u hu => g u (List.mem_cons_of_mem _ hu)
theorem so_list {ts : List Str} (h : ∀ t ∈ ts, PyData.strOk t = true) : PyData.strOk (listText ts) = true := so_app (so_textFrom ts 0 _ (so_ofS _) h) (so_ofS _)
theorem so_join {sep : Str} (hs : PyData.strOk sep = true) : ∀ {ts : List Str}, (∀ t ∈ ts, PyData.strOk t = true) → PyData.strOk (Str.join sep ts) = true
  | [], _ => by rw [so_iff]; intro c hc; exact absurd hc (by simp [Str.join, Str.empty])
  | [x], h => h x (List.mem_cons_self ..)
  | x :: y :: r, h => so_app (so_app (h x (List.mem_cons_self ..)) hs) (so_join hs fun t ht => h t (List.mem_cons_of_mem _ ht))
theorem so_tuple {ts : List Str} (h : ∀ t ∈ ts, PyData.strOk t = true) : PyData.strOk (tupleText ts) = true := so_app (so_app (so_ofS _) (so_join (so_ofS _) h)) (by split <;> exact so_ofS _)
/-- a datum of at most so much, so deep, that shows -/
structure Fit (w n : Nat) (d : PyData) : Prop where
  ls : d.leavesShort 50 = true
  we : d.weight ≤ w
  de : d.depth ≤ n
  sh : d.showable = true
  so : PyData.strOk d.shown = true
theorem Fit.mono {w n w' n' : Nat} {d : PyData} (h : Fit w n d) (h1 : w ≤ w') (h2 : n ≤ n') : Fit w' n' d := ⟨h.ls, Nat.le_trans h.we h1, Nat.le_trans h.de h2, h.sh, h.so⟩
theorem Fit.none {w n : Nat} : Fit w n .none := ⟨rfl, Nat.zero_le _, Nat.zero_le _, rfl, so_ofS _⟩
theorem Fit.bool {w n : Nat} (b : Bool) : Fit w n (.bool b) := ⟨rfl, Nat.zero_le _, Nat.zero_le _, rfl, by cases b <;> exact so_ofS _⟩
theorem Fit.str {w n : Nat} {x : Str} (h : PyData.strOk x = true) (hl : x.length ≤ w) : Fit w n (.str x) := by
  refine ⟨?_, hl, Nat.zero_le _, rfl, so_repr h⟩
  rw [so_iff] at h
  simp only [PyData.leavesShort, List.all_eq_true, decide_eq_true_eq]
  intro c hc
  have := h c hc
  have e : (16 : Nat) ^ 8 = 4294967296 := by decide
  omega
theorem Fit.int {w n : Nat} {i : Int} (h : i.natAbs < 10 ^ 48) (hw : 160 ≤ w) : Fit w n (.int i) := by
  have e10 : (10 : Nat) ^ 48 ≤ 2 ^ 160 := by decide
  have hlog : i.natAbs.log2 < 160 := by
    rcases Nat.eq_zero_or_pos i.natAbs with q | q
    · rw [q]; decide
    · exact (Nat.log2_lt (by omega)).mpr (by omega)
  refine ⟨?_, ?_, Nat.zero_le _, ?_, so_ofS _⟩
  · simp only [PyData.leavesShort, decide_eq_true_eq]
    have e := int_text_length_le10 (k := 48) (by decide) h
    show (Str.ofString (toString i)).length ≤ 50
    rw [PySem.ofString_length]
    omega
  · show (if (i == 0) = true then 0 else i.natAbs.log2 + 1) ≤ w
    split <;> omega
  · simp only [PyData.showable, decide_eq_true_eq]
    omega
theorem fit_all {w n : Nat} : ∀ {ds : List PyData}, (∀ d ∈ ds, Fit w n d) → PyData.leavesShortAll 50 ds = true ∧ PyData.weightAll ds ≤ ds.length * (w + 1) ∧ PyData.depthAll ds ≤ n ∧ PyData.showableAll ds = true ∧ ∀ t ∈ PyData.shownAll ds, PyData.strOk t = true
  | [], _ => ⟨rfl, Nat.zero_le _, Nat.zero_le _, rfl, fun t h => nomatch h⟩
  | d :: r, h => by
    obtain ⟨a1, a2, a3, a4, a5⟩ := fit_all fun x hx => h x (List.mem_cons_of_mem _ hx)
    have hd := h d (List.mem_cons_self ..)
    refine ⟨by simp [PyData.leavesShortAll, a1, hd.ls], ?_, ?_, by simp [PyData.showableAll, a4, hd.sh], fun t ht => ?_⟩
    · have := hd.we
      simp only [PyData.weightAll, List.length_cons, Nat.succ_mul]
      omega
    · have := hd.de
      simp only [PyData.depthAll]
      omega
    · simp only [PyData.shownAll, List.mem_cons] at ht
      rcases ht with rfl | ht
      · exact hd.so
      · exact a5 t ht
theorem Fit.tuple {w n m : Nat} {ds : List PyData} (h : ∀ d ∈ ds, Fit w n d) (hm : ds.length ≤ m) : Fit (m * (w + 1)) (n + 1) (.tuple ds) := by
  obtain ⟨a1, a2, a3, a4, a5⟩ := fit_all h
  exact ⟨by simpa only [PyData.leavesShort] using a1, Nat.le_trans (by simpa only [PyData.weight] using a2) (Nat.mul_le_mul_right _ hm), by simpa only [PyData.depth] using Nat.succ_le_succ a3, by simpa only [PyData.showable] using a4, by simpa only [PyData.shown] using so_tuple a5⟩
theorem Fit.list {w n m : Nat} {ds : List PyData} (h : ∀ d ∈ ds, Fit w n d) (hm : ds.length ≤ m) : Fit (m * (w + 1)) (n + 1) (.list ds) := by
  obtain ⟨a1, a2, a3, a4, a5⟩ := fit_all h
  exact ⟨by simpa only [PyData.leavesShort] using a1, Nat.le_trans (by simpa only [PyData.weight] using a2) (Nat.mul_le_mul_right _ hm), by simpa only [PyData.depth] using Nat.succ_le_succ a3, by simpa only [PyData.showable] using a4, by simpa only [PyData.shown] using so_list a5⟩
theorem Fit.len {w n : Nat} {d : PyData} (h : Fit w n d) : d.shown.length ≤ 52 * w + 50 := by
  have := PyData.shown_le 50 (by decide) d h.ls
  have h2 := Nat.mul_le_mul_left 52 h.we
  omega
theorem e_repr {S : Sto} {w n : Nat} {x : W} {d : PyData} (hx : pu S x = some d) (h : Fit w n d) (hw : w ≤ 150000) (hn : n ≤ 60) : fRepr S [x] = some (.p (.str d.shown), S) := by
  unfold fRepr
  dsimp only
  rw [hx]
  dsimp only
  have h1 := h.len
  have h2 := h.de
  rw [h.sh, decide_eq_true (show d.shown.length ≤ lim by unfold lim; omega), decide_eq_true (show d.depth ≤ 60 by omega)]
  rfl
/-! ## equality of texts -/
theorem sh_str {x : Str} (h : PyData.strOk x = true) : shapedB (.str x) = true := by simp [shapedB, SeqAt.shaped, PyData.canLay0, h, PyData.depth]
theorem sh_all {ds : List PyData} (h : ∀ d ∈ ds, shapedB d = true ∧ d.depth ≤ 63) : PyData.canLayAll0 ds = true ∧ PyData.depthAll ds ≤ 63 := by
  induction ds with
  | nil => exact ⟨rfl, Nat.zero_le _⟩
  | cons d r ih =>
    obtain ⟨a1, a2⟩ := ih fun x hx => h x (List.mem_cons_of_mem _ hx)
    obtain ⟨b1, b2⟩ := h d (List.mem_cons_self ..)
    have b3 : d.canLay0 = true := (Bool.and_eq_true_iff.mp b1).1
    refine ⟨by simp [PyData.canLayAll0, a1, b3], ?_⟩
    simp only [PyData.depthAll]
    omega
theorem sh_tuple {ds : List PyData} (h : ∀ d ∈ ds, shapedB d = true ∧ d.depth ≤ 63) : shapedB (.tuple ds) = true := by
  obtain ⟨a1, a2⟩ := sh_all h
  simp [shapedB, SeqAt.shaped, PyData.canLay0, a1, PyData.depth]
  omega
theorem sh_list {ds : List PyData} (h : ∀ d ∈ ds, shapedB d = true ∧ d.depth ≤ 63) : shapedB (.list ds) = true := by
  obtain ⟨a1, a2⟩ := sh_all h
  simp [shapedB, SeqAt.shaped, PyData.canLay0, a1, PyData.depth]
  omega
theorem sh_sh {w n : Nat} {d : PyData} (h : Fit w n d) : shapedB (.str d.shown) = true := sh_str h.so
theorem e_eqD {S : Sto} {x y : W} {a b : PyData} (hx : pu S x = some a) (hy : pu S y = some b) (ha : shapedB a = true) (hb : shapedB b = true) : fEq S x y = some (.p (.bool (PyData.eqv a b)), S) := by
  unfold fEq
  rw [hx, hy]
  dsimp only
  rw [ha, hb]
  rfl
theorem e_neD {S : Sto} {x y : W} {a b : PyData} (hx : pu S x = some a) (hy : pu S y = some b) (ha : shapedB a = true) (hb : shapedB b = true) : fNe S x y = some (.p (.bool (!PyData.eqv a b)), S) := by
  unfold fNe
  rw [hx, hy]
  dsimp only
  rw [ha, hb]
  rfl
theorem pu_p {S : Sto} (d : PyData) : pu S (.p d) = some d := rfl
theorem eqv_str (x y : Str) : PyData.eqv (.str x) (.str y) = decide (x = y) := by
  simp only [PyData.eqv]
  by_cases h : x = y
  · subst h; simp
  · rw [decide_eq_false h]
    simpa using h
end Pv
end

section
set_option maxRecDepth 10000
set_option maxHeartbeats 4000000
namespace Pv
open PySem PySem.Spec L2
open PyProof.Rows hiding St

/-! ## the apps of the first laws -/
structure TapD where
  n : Str
  m : Str
  s : Str
  a : List Str
  b : Str
structure AppD where
  ms : List Str
  ss : List Str
  sm : Str
  sn : Str
  ts : List TapD
def encS (l : List Str) : PyData := .tuple (l.map .str)
def encT (t : TapD) : PyData := .tuple [.str t.n, .str t.m, .str t.s, encS t.a, .str t.b]
def encA (A : AppD) : PyData := .tuple [.str "app", encS A.ms, encS A.ss, .tuple [.str A.sm, .str A.sn], .tuple (A.ts.map encT)]
def ActOk (ss aims a : List Str) : Prop := (∃ x, x ∈ ss ∧ (a = [("open" : Str), x] ∨ a = [("put" : Str), x])) ∨ a = [("back" : Str)] ∨ ∃ x, x ∈ aims ∧ a = [("to" : Str), x]
/-- a for over a mapped list -/
theorem So_forM {β : Type} {f : Row → Tau → Sto → RS} {L : List β} {g : β → Row} {p : Po} (I : List β → Tau → Sto → Prop) {τ : Tau} {S : Sto} (h0 : I [] τ S)
    (hs : ∀ pre x post τ S, L = pre ++ x :: post → I pre τ S → So (f (g x) τ S) { nx := I (pre ++ [x]), rt := p.rt, bk := p.nx, ct := I (pre ++ [x]), ex := p.ex })
    (he : ∀ τ S, I L τ S → p.nx τ S) : So (forLoop f (L.map g) τ S) p := by
  refine So_for (fun done τ S => ∃ pre, done = pre.map g ∧ (∃ post, L = pre ++ post) ∧ I pre τ S) ⟨[], rfl, ⟨L, rfl⟩, h0⟩ ?_ ?_
  · rintro done r post τ S e ⟨pre, rfl, ⟨post', rfl⟩, hI⟩
    rw [List.map_append, List.append_cancel_left_eq] at e
    cases post' with
    | nil => cases e
    | cons x post' =>
      rw [List.map_cons] at e
      obtain ⟨rfl, rfl⟩ := List.cons.inj e
      refine So_mono (hs pre x post' τ S rfl hI) (fun τ S h => ⟨pre ++ [x], by simp, ⟨post', by simp⟩, h⟩) (fun _ _ h => h) (fun τ S h => h) (fun τ S h => ⟨pre ++ [x], by simp, ⟨post', by simp⟩, h⟩) fun _ _ _ h => h
  · rintro τ S ⟨pre, e, ⟨post, rfl⟩, hI⟩
    have : post = [] := by
      have := congrArg List.length e
      simp at this
      exact this
    subst this
    rw [List.append_nil]at he
    exact he τ S hI
theorem act_ok {T : List Fd} {k i iD iP : Nat} {s : Spg} {R : Sto} {ss aims : List Str} (hD : T[iD]? = some fx_law_drop) (hP : T[iP]? = some (fx_law_pick iD)) (h : T[i]? = some (fx_law_act iD iP))
    (h0 : ss ≠ []) (h1 : ss.length ≤ 1000) (g0 : aims ≠ []) (g1 : aims.length ≤ 1000) (hc : CloR R) {Q : W → Sto → Prop} {E : Xc → Sto → Prop}
    (q : ∀ a s', ActOk ss aims a → Q (.p (encS a)) (Spr s' R)) : Ok (callN T (k + 3) i [.r 1, .p (encS ss), .p (.list (aims.map .str))] (Spr s R)) Q E := by
  refine Ok_call h rfl ?_
  have q' : ∀ a s', ActOk ss aims a → Ok (if true then sweep (Spr s R).length (.p (encS a)) (Spr s' R) else .ok (.p (encS a)) (Spr s' R)) Q E := fun a s' ha => Ok_end0 (clo_spr hc) rfl rfl (q a s' ha)
  have mk2 : ∀ (S : Sto) (x y : Str), mkTup [.p (.str x), .p (.str y)] S = .ok (.p (encS [x, y])) S := fun _ _ _ => rfl
  have mk1 : ∀ (S : Sto) (x : Str), mkTup [.p (.str x)] S = .ok (.p (encS [x])) S := fun _ _ => rfl
  simp only [fx_law_act, bx_law_act, So_cs, So_nl, So_then, So_ite, So_nx, So_ret, So_bk, So_ct, evS, evE, evEs, evT, evTa, evTo, evAn, evOr, evAs, evP, evI, Ok_bind, Ok_ok, Ok_bad, Ok_some, Ok_bs, Ok_ite, asgT, asgR, asgT.asgTs, setAll, wipeT, biF, meF, binF, cmpF, bl?, List.getElem?_cons_zero, List.getElem?_cons_succ, List.set_cons_zero, List.set_cons_succ, List.map_cons, List.map_nil, List.replicate_succ, List.replicate_zero, List.cons_append, List.nil_append, Nat.sub_self, Nat.reduceSub, Nat.reduceAdd]
  refine drop_ok hD (by decide) (by decide) hc fun z s1 hz => ?_
  simp only [So_cs, So_nl, So_then, So_ite, So_nx, So_ret, So_bk, So_ct, evS, evE, evEs, evT, evTa, evTo, evAn, evOr, evAs, evP, evI, Ok_bind, Ok_ok, Ok_bad, Ok_some, Ok_bs, Ok_ite, asgT, asgR, asgT.asgTs, setAll, wipeT, biF, meF, binF, cmpF, bl?, List.getElem?_cons_zero, List.getElem?_cons_succ, List.set_cons_zero, List.set_cons_succ, List.map_cons, List.map_nil, List.replicate_succ, List.replicate_zero, List.cons_append, List.nil_append, Nat.sub_self, Nat.reduceSub, Nat.reduceAdd, e_lt, trub, decide_eq_true_eq]
  split
  · refine pick_ok hD hP (.inr rfl) (by simpa using h0) (by simpa using h1) hc fun d s2 hd => ?_
    obtain ⟨x, hx, rfl⟩ := List.mem_map.mp hd
    rw [mk2, Ok_ok]
    exact q' _ _ (.inl ⟨x, hx, .inl rfl⟩)
  · have e3 : fEq (Spr s1 R) (.p (.int z)) (.p (.int 3)) = some (.p (.bool (PyData.eqv (.int z) (.int 3))), Spr s1 R) := e_eqD rfl rfl rfl rfl
    simp only [bx_law_act_2, So_cs, So_nl, So_then, So_ite, So_nx, So_ret, So_bk, So_ct, evS, evE, evEs, evT, evTa, evTo, evAn, evOr, evAs, evP, evI, Ok_bind, Ok_ok, Ok_bad, Ok_some, Ok_bs, Ok_ite, asgT, asgR, asgT.asgTs, setAll, wipeT, biF, meF, binF, cmpF, bl?, List.getElem?_cons_zero, List.getElem?_cons_succ, List.set_cons_zero, List.set_cons_succ, List.map_cons, List.map_nil, List.replicate_succ, List.replicate_zero, List.cons_append, List.nil_append, Nat.sub_self, Nat.reduceSub, Nat.reduceAdd, e3, trub]
    split
    · refine pick_ok hD hP (.inr rfl) (by simpa using h0) (by simpa using h1) hc fun d s2 hd => ?_
      obtain ⟨x, hx, rfl⟩ := List.mem_map.mp hd
      rw [mk2, Ok_ok]
      exact q' _ _ (.inl ⟨x, hx, .inr rfl⟩)
    · simp only [bx_law_act_1, So_cs, So_nl, So_then, So_ite, So_nx, So_ret, So_bk, So_ct, evS, evE, evEs, evT, evTa, evTo, evAn, evOr, evAs, evP, evI, Ok_bind, Ok_ok, Ok_bad, Ok_some, Ok_bs, Ok_ite, asgT, asgR, asgT.asgTs, setAll, wipeT, biF, meF, binF, cmpF, bl?, List.getElem?_cons_zero, List.getElem?_cons_succ, List.set_cons_zero, List.set_cons_succ, List.map_cons, List.map_nil, List.replicate_succ, List.replicate_zero, List.cons_append, List.nil_append, Nat.sub_self, Nat.reduceSub, Nat.reduceAdd, e_lt, trub, decide_eq_true_eq]
      split
      · rw [mk1, Ok_ok]
        exact q' _ _ (.inr (.inl rfl))
      · refine pick_ok hD hP (.inl rfl) (by simpa using g0) (by simpa using g1) hc fun d s2 hd => ?_
        obtain ⟨x, hx, rfl⟩ := List.mem_map.mp hd
        rw [mk2, Ok_ok]
        exact q' _ _ (.inr (.inr ⟨x, hx, rfl⟩))
theorem mkT1 {S : Sto} (a : PyData) : mkTup [.p a] S = .ok (.p (.tuple [a])) S := rfl
theorem mkL1 {S : Sto} (a : PyData) : mkLst false [.p a] S = .ok (.p (.list [a])) S := rfl
theorem mkT2 {S : Sto} (a b : PyData) : mkTup [.p a, .p b] S = .ok (.p (.tuple [a, b])) S := rfl
theorem mkL2 {S : Sto} (a b : PyData) : mkLst false [.p a, .p b] S = .ok (.p (.list [a, b])) S := rfl
theorem mkT3 {S : Sto} (a b c : PyData) : mkTup [.p a, .p b, .p c] S = .ok (.p (.tuple [a, b, c])) S := rfl
theorem mkL3 {S : Sto} (a b c : PyData) : mkLst false [.p a, .p b, .p c] S = .ok (.p (.list [a, b, c])) S := rfl
theorem mkT4 {S : Sto} (a b c d : PyData) : mkTup [.p a, .p b, .p c, .p d] S = .ok (.p (.tuple [a, b, c, d])) S := rfl
theorem mkL4 {S : Sto} (a b c d : PyData) : mkLst false [.p a, .p b, .p c, .p d] S = .ok (.p (.list [a, b, c, d])) S := rfl
theorem mkT5 {S : Sto} (a b c d e : PyData) : mkTup [.p a, .p b, .p c, .p d, .p e] S = .ok (.p (.tuple [a, b, c, d, e])) S := rfl
theorem mkL5 {S : Sto} (a b c d e : PyData) : mkLst false [.p a, .p b, .p c, .p d, .p e] S = .ok (.p (.list [a, b, c, d, e])) S := rfl
theorem mkT6 {S : Sto} (a b c d e f : PyData) : mkTup [.p a, .p b, .p c, .p d, .p e, .p f] S = .ok (.p (.tuple [a, b, c, d, e, f])) S := rfl
theorem mkL6 {S : Sto} (a b c d e f : PyData) : mkLst false [.p a, .p b, .p c, .p d, .p e, .p f] S = .ok (.p (.list [a, b, c, d, e, f])) S := rfl
theorem mkT7 {S : Sto} (a b c d e f g : PyData) : mkTup [.p a, .p b, .p c, .p d, .p e, .p f, .p g] S = .ok (.p (.tuple [a, b, c, d, e, f, g])) S := rfl
theorem mkL7 {S : Sto} (a b c d e f g : PyData) : mkLst false [.p a, .p b, .p c, .p d, .p e, .p f, .p g] S = .ok (.p (.list [a, b, c, d, e, f, g])) S := rfl
theorem mkT8 {S : Sto} (a b c d e f g h : PyData) : mkTup [.p a, .p b, .p c, .p d, .p e, .p f, .p g, .p h] S = .ok (.p (.tuple [a, b, c, d, e, f, g, h])) S := rfl
theorem mkL8 {S : Sto} (a b c d e f g h : PyData) : mkLst false [.p a, .p b, .p c, .p d, .p e, .p f, .p g, .p h] S = .ok (.p (.list [a, b, c, d, e, f, g, h])) S := rfl

theorem mkT0 {S : Sto} : mkTup [] S = .ok (.p (.tuple [])) S := rfl
section
variable {s : Spg} {R : Sto}
theorem spr_len : (Spr s R).length = R.length + 2 := rfl
theorem spr_push {ws : List W} (h : ws.length ≤ lim) : mkLst true ws (Spr s R) = .ok (.r (R.length + 2)) (Spr s (R ++ [.l ws])) := by
  unfold mkLst
  rw [if_pos h]
  rfl
theorem spr_push0 : mkLst true [] (Spr s R) = .ok (.r (R.length + 2)) (Spr s (R ++ [.l []])) := rfl
theorem spr_last {o : Ob} : (Spr s (R ++ [o]))[R.length + 2]? = some o := by
  simp [Spr]
theorem spr_set {o o' : Ob} : (Spr s (R ++ [o])).set (R.length + 2) o' = Spr s (R ++ [o']) := by
  simp [Spr]
theorem spr_app {us : List W} {w : W} (h : us.length ≤ lim) : fAppend (Spr s (R ++ [.l us])) (.r (R.length + 2)) [w] = some (.p .none, Spr s (R ++ [.l (us ++ [w])])) := by
  unfold fAppend
  dsimp only
  rw [spr_last]
  dsimp only
  rw [if_pos h, spr_set]
theorem spr_ext {us : List W} {ds : List PyData} (h : us.length + ds.length ≤ lim) : fExtend (Spr s (R ++ [.l us])) (.r (R.length + 2)) [.p (.list ds)] = some (.p .none, Spr s (R ++ [.l (us ++ ds.map W.p)])) := by
  unfold fExtend
  dsimp only
  rw [spr_last]
  dsimp only
  rw [if_pos h, spr_set]
theorem spr_me {m : MI} {o : Ob} : meOk m (Spr s (R ++ [o])) (.r (R.length + 2)) = true := by
  unfold meOk
  dsimp only
  rw [spr_last]
  rfl
theorem spr_seq {ds : List PyData} : seqP (Spr s (R ++ [.l (ds.map W.p)])) (.r (R.length + 2)) = some (false, ds) := by
  unfold seqP
  dsimp only
  rw [spr_last]
  dsimp only
  rw [deP_map]
  rfl
theorem Ok_endS {J : Sto} {s' : Spg} {d : PyData} {Q : W → Sto → Prop} {E : Xc → Sto → Prop} (h : CloR R) (q : Q (.p d) (Spr s' R)) : Ok (if true then sweep (Spr s R).length (.p d) (Spr s' (R ++ J)) else .ok (.p d) (Spr s' (R ++ J))) Q E :=
  Ok_end (J := J) (clo_spr h) rfl rfl q
theorem Ok_endS0 {s' : Spg} {d : PyData} {Q : W → Sto → Prop} {E : Xc → Sto → Prop} (h : CloR R) (q : Q (.p d) (Spr s' R)) : Ok (if true then sweep (Spr s R).length (.p d) (Spr s' R) else .ok (.p d) (Spr s' R)) Q E :=
  Ok_end0 (clo_spr h) rfl rfl q
end
def poolM : List (List Str) := [["guest", "member"], ["a"], ["day", "night", "zzzzzzzz"], ["a", "ab"]]
def poolS : List (List Str) := [["cart", "home", "list"], ["x"], ["a", "b"], ["b", "bb"], ["a", "aa", "b", "longname"]]
def poolN : List Str := ["back", "go", "more", "x", "zzzzzzzz"]
structure TapOk (ms ss aims : List Str) (t : TapD) : Prop where
  n : t.n ∈ poolN
  m : t.m ∈ ms
  s : t.s ∈ ss
  a : ActOk ss aims t.a
  b : t.b ∈ ms
def tapLe (a b : TapD) : Bool := PySem.W.dataLe false id (encT a) (encT b)
def SameKey (a b : TapD) : Prop := a.n = b.n ∧ a.m = b.m ∧ a.s = b.s
structure GoodA (A : AppD) : Prop where
  ms : A.ms ∈ poolM
  ss : A.ss ∈ poolS
  sm : A.sm ∈ A.ms
  sn : A.sn ∈ A.ss
  ts : ∃ aims : List Str, aims.length = 2 ∧ (∀ x ∈ aims, x ∈ A.ss) ∧ ∀ t ∈ A.ts, TapOk A.ms A.ss aims t
  ord : A.ts.Pairwise fun a b => tapLe a b = true
  ky : A.ts.Pairwise fun a b => ¬ SameKey a b
  len : A.ts.length ≤ 24
theorem alike_str (a b : Str) : PySem.W.alike (.str a) (.str b) = true := by simp [PySem.W.alike]
theorem alike_strs : ∀ a b : List Str, PySem.W.alikeAll (a.map .str) (b.map .str) = true
  | [], _ => by simp [PySem.W.alikeAll]
  | _ :: _, [] => by simp [PySem.W.alikeAll]
  | x :: a, y :: b => by simp [PySem.W.alikeAll, PySem.W.alike, alike_strs a b]
theorem alike_T (a b : TapD) : PySem.W.alike (encT a) (encT b) = true := by simp [encT, encS, PySem.W.alike, PySem.W.alikeAll, alike_strs]
theorem depth_strs : ∀ a : List Str, PyData.depthAll (a.map .str) = 0
  | [] => rfl
  | x :: a => by simp [PyData.depthAll, PyData.depth, depth_strs a]
theorem depth_T (a : TapD) : (encT a).depth = 2 := by simp [encT, encS, PyData.depth, PyData.depthAll, depth_strs]
theorem sortOk_T {U : List TapD} (h : U.length ≤ lim) : sortOk (U.map encT) = true := by
  unfold sortOk
  simp only [Bool.and_eq_true, List.all_eq_true, List.mem_map, Bool.or_eq_true, decide_eq_true_eq]
  refine ⟨⟨⟨?_, .inl ?_⟩, by simpa using h⟩, ?_⟩
  · rintro _ ⟨a, _, rfl⟩ _ ⟨b, _, rfl⟩
    exact alike_T a b
  · rintro _ ⟨a, _, rfl⟩
    rfl
  · rintro _ ⟨a, _, rfl⟩
    rw [depth_T]
    decide
theorem sortD_T (U : List TapD) : sortD (U.map encT) = (U.mergeSort tapLe).map encT := by
  unfold sortD
  rw [List.map_mergeSort (r := tapLe) (s := PySem.W.dataLe false id) (f := encT)]
  intro a _ b _
  rfl
end Pv
end

section
set_option maxRecDepth 10000
set_option maxHeartbeats 4000000
namespace Pv
open PySem PySem.Spec L2
open PyProof.Rows hiding St

theorem poolM_len : ∀ ms ∈ poolM, ms ≠ [] ∧ ms.length ≤ 3 ∧ ms.Nodup := by decide
theorem poolS_len : ∀ ms ∈ poolS, ms ≠ [] ∧ ms.length ≤ 4 ∧ ms.Nodup := by decide
theorem poolN_nd : poolN.Nodup := by decide
theorem cutN {α : Type} (xs : List α) (z : Nat) : cutL xs none (some (z : Int)) = xs.take z := cut_to xs z
theorem app_ok {T : List Fd} {k i iD iP iA : Nat} {s : Spg} {R : Sto} {most : Int} (hD : T[iD]? = some fx_law_drop) (hP : T[iP]? = some (fx_law_pick iD)) (hA : T[iA]? = some (fx_law_act iD iP)) (h : T[i]? = some (fx_law_app iA iD iP))
    (hm : 0 < most) (hm2 : most < 2 ^ 64) (hc : CloR R) {Q : W → Sto → Prop} {E : Xc → Sto → Prop}
    (q : ∀ A s', GoodA A → Q (.p (encA A)) (Spr s' R)) : Ok (callN T (k + 4) i [.r 1, .p (.int most)] (Spr s R)) Q E := by
  refine Ok_call h rfl ?_
  simp only [fx_law_app, bx_law_app, So_cs, So_nl, So_then, So_ite, So_nx, So_ret, So_bk, So_ct, evS, evE, evEs, evT, evTa, evTo, evAn, evOr, evAs, evP, evI, Ok_bind, Ok_ok, Ok_bad, Ok_some, Ok_bs, Ok_ite, asgT, asgR, asgT.asgTs, setAll, wipeT, biF, meF, binF, cmpF, bl?, List.getElem?_cons_zero, List.getElem?_cons_succ, List.set_cons_zero, List.set_cons_succ, List.map_cons, List.map_nil, List.replicate_succ, List.replicate_zero, List.cons_append, List.nil_append, Nat.sub_self, Nat.reduceSub, Nat.reduceAdd, mkT1, mkT2, mkT3, mkT4, mkL4, mkL5]
  refine pick_ok (ds := poolM.map encS) hD hP (.inl rfl) (by decide) (by decide) hc fun d s1 hd => ?_
  obtain ⟨ms, hms, rfl⟩ := List.mem_map.mp hd
  obtain ⟨ms0, ms3, msn⟩ := poolM_len ms hms
  refine pick_ok (ds := poolS.map encS) hD hP (.inl rfl) (by decide) (by decide) hc fun d s2 hd => ?_
  obtain ⟨ss, hss, rfl⟩ := List.mem_map.mp hd
  obtain ⟨ss0, ss4, ssn⟩ := poolS_len ss hss
  have ssm0 : ss.map PyData.str ≠ [] := by simpa using ss0
  have ssm1 : (ss.map PyData.str).length ≤ 1000 := by simp; omega
  have msm0 : ms.map PyData.str ≠ [] := by simpa using ms0
  have msm1 : (ms.map PyData.str).length ≤ 1000 := by simp; omega
  refine pick_ok hD hP (.inr rfl) ssm0 ssm1 hc fun d s3 hd => ?_
  obtain ⟨x1, hx1, rfl⟩ := List.mem_map.mp hd
  refine pick_ok hD hP (.inr rfl) ssm0 ssm1 hc fun d s4 hd => ?_
  obtain ⟨x2, hx2, rfl⟩ := List.mem_map.mp hd
  have eI : ∀ (S : Sto) (l : List Str), items S (.p (encS l)) = some (true, (l.map PyData.str).map W.p) := fun _ _ => rfl
  simp only [mkL2, spr_push0, So_cs, So_nl, So_then, So_ite, So_nx, So_ret, So_bk, So_ct, evS, evE, evEs, evT, evTa, evTo, evAn, evOr, evAs, evP, evI, Ok_bind, Ok_ok, Ok_bad, Ok_some, Ok_bs, Ok_ite, asgT, asgR, asgT.asgTs, setAll, wipeT, biF, meF, binF, cmpF, bl?, List.getElem?_cons_zero, List.getElem?_cons_succ, List.set_cons_zero, List.set_cons_succ, List.map_cons, List.map_nil, List.replicate_succ, List.replicate_zero, List.cons_append, List.nil_append, Nat.sub_self, Nat.reduceSub, Nat.reduceAdd, eI, still, if_true]
  have eRow : ∀ l : List Str, (((l.map PyData.str).map W.p).map Row.one) = l.map fun x => Row.one (.p (.str x)) := fun l => by simp [Function.comp_def]
  rw [eRow]
  let J : List Str → Option W → Option W → Option W → List TapD → Tau → Sto → Prop := fun _ x y z U τ S =>
    ∃ s, τ = [some (.r 1), some (.p (.int most)), some (.p (encS ms)), some (.p (.list (poolS.map encS))), some (.p (encS ss)), some (.p (.list [.str x1, .str x2])), some (.r (R.length + 2)), x, y, z, none] ∧ S = Spr s (R ++ [.l ((U.map encT).map W.p)])
  have hcU : ∀ U : List TapD, CloR (R ++ [.l ((U.map encT).map W.p)]) := fun U => hc.snoc
  let V : List TapD → Prop := fun U => (∀ t ∈ U, TapOk ms ss [x1, x2] t) ∧ U.Pairwise fun a b => ¬ SameKey a b
  refine So_forM (fun pre τ S => ∃ x y z U, J pre x y z U τ S ∧ V U ∧ (∀ t ∈ U, t.m ∈ pre) ∧ U.length ≤ 25 * pre.length) ⟨_, _, _, [], ⟨_, rfl, rfl⟩, ⟨(fun t h => (nomatch h)), .nil⟩, (fun t h => (nomatch h)), Nat.le_refl _⟩ ?_ ?_
  · rintro pm m qm τ S em ⟨x, y, z, U, ⟨s5, rfl, rfl⟩, hV, hU, hL⟩
    have hmm : m ∈ ms := by rw [em]; simp
    have hmn : m ∉ pm := by
      rw [em] at msn
      intro hq
      exact (List.nodup_append.mp msn).2.2 m hq m (List.mem_cons_self ..) rfl
    simp only [bx_law_app_4, So_cs, So_nl, So_then, So_ite, So_nx, So_ret, So_bk, So_ct, evS, evE, evEs, evT, evTa, evTo, evAn, evOr, evAs, evP, evI, Ok_bind, Ok_ok, Ok_bad, Ok_some, Ok_bs, Ok_ite, asgT, asgR, asgT.asgTs, setAll, wipeT, biF, meF, binF, cmpF, bl?, List.getElem?_cons_zero, List.getElem?_cons_succ, List.set_cons_zero, List.set_cons_succ, List.map_cons, List.map_nil, List.replicate_succ, List.replicate_zero, List.cons_append, List.nil_append, Nat.sub_self, Nat.reduceSub, Nat.reduceAdd, eI, still, if_true]
    rw [eRow]
    refine So_forM (fun pre τ S => ∃ y z U, J pre (some (.p (.str m))) y z U τ S ∧ V U ∧ (∀ t ∈ U, t.m ∈ pm ∨ (t.m = m ∧ t.s ∈ pre)) ∧ U.length ≤ 25 * pm.length + 5 * pre.length) ⟨_, _, U, ⟨_, rfl, rfl⟩, hV, fun t h => .inl (hU t h), by simpa using hL⟩ ?_ ?_
    · rintro ps sc qs τ S es ⟨y, z, U, ⟨s6, rfl, rfl⟩, hV, hU, hL⟩
      have hsm : sc ∈ ss := by rw [es]; simp
      have hsn : sc ∉ ps := by
        rw [es] at ssn
        intro hq
        exact (List.nodup_append.mp ssn).2.2 sc hq sc (List.mem_cons_self ..) rfl
      simp only [bx_law_app_3, So_cs, So_nl, So_then, So_ite, So_nx, So_ret, So_bk, So_ct, evS, evE, evEs, evT, evTa, evTo, evAn, evOr, evAs, evP, evI, Ok_bind, Ok_ok, Ok_bad, Ok_some, Ok_bs, Ok_ite, asgT, asgR, asgT.asgTs, setAll, wipeT, biF, meF, binF, cmpF, bl?, List.getElem?_cons_zero, List.getElem?_cons_succ, List.set_cons_zero, List.set_cons_succ, List.map_cons, List.map_nil, List.replicate_succ, List.replicate_zero, List.cons_append, List.nil_append, Nat.sub_self, Nat.reduceSub, Nat.reduceAdd, mkL5]
      refine drop_ok hD hm hm2 (hcU U) fun z1 s7 hz1 => ?_
      have eS : fSl none (some (z1 : Int)) (Spr s7 (R ++ [.l ((U.map encT).map W.p)])) (.p (.list [.str "back", .str "go", .str "more", .str "x", .str "zzzzzzzz"])) = some (.p (.list ((poolN.take z1).map PyData.str)), Spr s7 (R ++ [.l ((U.map encT).map W.p)])) := by
        show some (W.p (.list (cutL (poolN.map PyData.str) none (some (z1 : Int)))), _) = _
        rw [cutN, List.map_take]
      have eI2 : ∀ (S : Sto) (l : List Str), items S (.p (.list (l.map PyData.str))) = some (false, (l.map PyData.str).map W.p) := fun _ _ => rfl
      simp only [So_cs, So_nl, So_then, So_ite, So_nx, So_ret, So_bk, So_ct, evS, evE, evEs, evT, evTa, evTo, evAn, evOr, evAs, evP, evI, Ok_bind, Ok_ok, Ok_bad, Ok_some, Ok_bs, Ok_ite, asgT, asgR, asgT.asgTs, setAll, wipeT, biF, meF, binF, cmpF, bl?, List.getElem?_cons_zero, List.getElem?_cons_succ, List.set_cons_zero, List.set_cons_succ, List.map_cons, List.map_nil, List.replicate_succ, List.replicate_zero, List.cons_append, List.nil_append, Nat.sub_self, Nat.reduceSub, Nat.reduceAdd, eS, eI2, still, if_true]
      rw [eRow]
      have hnn := poolN_nd.sublist (List.take_sublist z1 poolN)
      refine So_forM (fun pre τ S => ∃ z U, J pre (some (.p (.str m))) (some (.p (.str sc))) z U τ S ∧ V U ∧ (∀ t ∈ U, t.m ∈ pm ∨ (t.m = m ∧ t.s ∈ ps) ∨ (t.m = m ∧ t.s = sc ∧ t.n ∈ pre)) ∧ U.length ≤ 25 * pm.length + 5 * ps.length + pre.length) ⟨_, U, ⟨_, rfl, rfl⟩, hV, fun t h => (hU t h).elim .inl fun q => .inr (.inl q), by simpa using hL⟩ ?_ ?_
      · rintro pn nm qn τ S en ⟨z, U, ⟨s8, rfl, rfl⟩, hV, hU, hL⟩
        have hn' : nm ∈ poolN := List.mem_of_mem_take (i := z1) (by rw [en]; simp)
        have hnn' : nm ∉ pn := by
          rw [en] at hnn
          intro hq
          exact (List.nodup_append.mp hnn).2.2 nm hq nm (List.mem_cons_self ..) rfl
        simp only [bx_law_app_2, So_cs, So_nl, So_then, So_ite, So_nx, So_ret, So_bk, So_ct, evS, evE, evEs, evT, evTa, evTo, evAn, evOr, evAs, evP, evI, Ok_bind, Ok_ok, Ok_bad, Ok_some, Ok_bs, Ok_ite, asgT, asgR, asgT.asgTs, setAll, wipeT, biF, meF, binF, cmpF, bl?, List.getElem?_cons_zero, List.getElem?_cons_succ, List.set_cons_zero, List.set_cons_succ, List.map_cons, List.map_nil, List.replicate_succ, List.replicate_zero, List.cons_append, List.nil_append, Nat.sub_self, Nat.reduceSub, Nat.reduceAdd]
        rw [if_pos spr_me]
        refine act_ok (aims := [x1, x2]) hD hP hA ss0 (by omega) (by simp) (by simp) (hcU U) fun a s9 ha => ?_
        refine pick_ok hD hP (.inr rfl) msm0 msm1 (hcU U) fun d s10 hd => ?_
        obtain ⟨b, hb, rfl⟩ := List.mem_map.mp hd
        have hlen : U.length ≤ 1000 := by
          have h1 : pm.length ≤ ms.length := by rw [em]; simp
          have h2 : ps.length ≤ ss.length := by rw [es]; simp
          have h3 : pn.length ≤ poolN.length := by
            have : pn.length ≤ (poolN.take z1).length := by rw [en]; simp
            exact Nat.le_trans this (by simp; omega)
          have h4 : poolN.length = 5 := rfl
          omega
        rw [mkT5, Ok_ok, spr_app (by simp [lim]; omega), Ok_some]
        have eU : (U.map encT).map W.p ++ [W.p (.tuple [.str nm, .str m, .str sc, encS a, .str b])] = ((U ++ [(⟨nm, m, sc, a, b⟩ : TapD)]).map encT).map W.p := by simp [encT]
        rw [eU]
        refine ⟨_, U ++ [(⟨nm, m, sc, a, b⟩ : TapD)], ⟨_, rfl, rfl⟩, ⟨fun t ht => ?_, ?_⟩, fun t ht => ?_, by simp; omega⟩
        · rcases List.mem_append.mp ht with q1 | q1
          · exact hV.1 t q1
          · rw [List.mem_singleton] at q1
            subst q1
            exact ⟨hn', hmm, hsm, ha, hb⟩
        · refine List.pairwise_append.mpr ⟨hV.2, List.pairwise_singleton _ _, fun t ht u hu => ?_⟩
          rw [List.mem_singleton] at hu
          subst hu
          rintro ⟨k1, k2, k3⟩
          simp only at k1 k2 k3
          rcases hU t ht with q1 | ⟨_, q1⟩ | ⟨_, _, q1⟩
          · exact hmn (k2 ▸ q1)
          · exact hsn (k3 ▸ q1)
          · exact hnn' (k1 ▸ q1)
        · rcases List.mem_append.mp ht with q1 | q1
          · rcases hU t q1 with p1 | p1 | ⟨p1, p2, p3⟩
            · exact .inl p1
            · exact .inr (.inl p1)
            · exact .inr (.inr ⟨p1, p2, List.mem_append_left _ p3⟩)
          · rw [List.mem_singleton] at q1
            subst q1
            exact .inr (.inr ⟨rfl, rfl, by simp⟩)
      · rintro τ S ⟨z, U, ⟨s8, rfl, rfl⟩, hV, hU, hL⟩
        refine ⟨_, _, U, ⟨_, rfl, rfl⟩, hV, fun t ht => ?_, ?_⟩
        · rcases hU t ht with p1 | ⟨p1, p2⟩ | ⟨p1, p2, p3⟩
          · exact .inl p1
          · exact .inr ⟨p1, List.mem_append_left _ p2⟩
          · exact .inr ⟨p1, by rw [p2]; simp⟩
        · have h3 : (poolN.take z1).length ≤ 5 := by
            have h4 : poolN.length = 5 := rfl
            simp; omega
          simp only [List.length_append, List.length_singleton]
          omega
    · rintro τ S ⟨y, z, U, ⟨s6, rfl, rfl⟩, hV, hU, hL⟩
      refine ⟨_, _, _, U, ⟨_, rfl, rfl⟩, hV, fun t ht => ?_, by simp only [List.length_append, List.length_singleton]; omega⟩
      rcases hU t ht with p1 | ⟨p1, _⟩
      · exact List.mem_append_left _ p1
      · rw [p1]; simp
  · rintro τ S ⟨x, y, z, U, ⟨s5, rfl, rfl⟩, hV, hU, hL⟩
    simp only [bx_law_app_1, So_cs, So_nl, So_then, So_ite, So_nx, So_ret, So_bk, So_ct, evS, evE, evEs, evT, evTa, evTo, evAn, evOr, evAs, evP, evI, Ok_bind, Ok_ok, Ok_bad, Ok_some, Ok_bs, Ok_ite, asgT, asgR, asgT.asgTs, setAll, wipeT, biF, meF, binF, cmpF, bl?, List.getElem?_cons_zero, List.getElem?_cons_succ, List.set_cons_zero, List.set_cons_succ, List.map_cons, List.map_nil, List.replicate_succ, List.replicate_zero, List.cons_append, List.nil_append, Nat.sub_self, Nat.reduceSub, Nat.reduceAdd]
    refine pick_ok hD hP (.inr rfl) msm0 msm1 (hcU U) fun d s6 hd => ?_
    obtain ⟨a1, ha1, rfl⟩ := List.mem_map.mp hd
    refine pick_ok hD hP (.inr rfl) ssm0 ssm1 (hcU U) fun d s7 hd => ?_
    obtain ⟨a2, ha2, rfl⟩ := List.mem_map.mp hd
    have eSo : fSorted (Spr s7 (R ++ [.l ((U.map encT).map W.p)])) [.r (R.length + 2)] = some (.p (.list ((U.mergeSort tapLe).map encT)), Spr s7 (R ++ [.l ((U.map encT).map W.p)])) := by
      unfold fSorted
      dsimp only
      rw [spr_seq]
      dsimp only
      rw [if_pos (sortOk_T (by unfold lim; omega)), sortD_T]
    have eSl : ∀ S : Sto, fSl none (some 24) S (.p (.list ((U.mergeSort tapLe).map encT))) = some (.p (.list (((U.mergeSort tapLe).take 24).map encT)), S) := fun S => by
      show some (W.p (.list (cutL ((U.mergeSort tapLe).map encT) none (some ((24 : Nat) : Int)))), S) = _
      rw [cut_to, List.map_take]
    have eTu : ∀ (S : Sto) (ds : List PyData), fTuple S [.p (.list ds)] = some (.p (.tuple ds), S) := fun _ _ => rfl
    simp only [mkT2, So_cs, So_nl, So_then, So_ite, So_nx, So_ret, So_bk, So_ct, evS, evE, evEs, evT, evTa, evTo, evAn, evOr, evAs, evP, evI, Ok_bind, Ok_ok, Ok_bad, Ok_some, Ok_bs, Ok_ite, asgT, asgR, asgT.asgTs, setAll, wipeT, biF, meF, binF, cmpF, bl?, List.getElem?_cons_zero, List.getElem?_cons_succ, List.set_cons_zero, List.set_cons_succ, List.map_cons, List.map_nil, List.replicate_succ, List.replicate_zero, List.cons_append, List.nil_append, Nat.sub_self, Nat.reduceSub, Nat.reduceAdd, eSo, eSl, eTu, mkT5]
    refine Ok_endS hc (q ⟨ms, ss, a1, a2, (U.mergeSort tapLe).take 24⟩ s7 ⟨hms, hss, ha1, ha2, ⟨[x1, x2], rfl, by simp [hx1, hx2], fun t ht => ?_⟩, ?_, ?_, by simp; omega⟩)
    · exact hV.1 t ((List.mergeSort_perm U tapLe).mem_iff.mp (List.mem_of_mem_take ht))
    · refine List.Pairwise.sublist (List.take_sublist _ _) ?_
      exact PySem.W.sort_pairwise (tapLe_total) U
    · refine List.Pairwise.sublist (List.take_sublist _ _) ?_
      refine ((List.mergeSort_perm U tapLe).pairwise_iff fun h => ?_).mpr hV.2
      rintro ⟨p1, p2, p3⟩
      exact h ⟨p1.symm, p2.symm, p3.symm⟩
where
  tapLe_total : PySem.W.TotalLe tapLe := by
    have := PySem.W.sortLe_total (listOrd itemOrd) false (fun b : TapD => PySem.W.keyToks (encT b))
    exact this
end Pv
end

section
set_option maxRecDepth 10000
set_option maxHeartbeats 4000000
namespace Pv
open PySem PySem.Spec L2
open PyProof.Rows hiding St

/-! ## facts on apps -/
def strB (n : Nat) (x : Str) : Bool := PyData.strOk x && decide (x.length ≤ n)
theorem poolM_s : poolM.all (fun l => l.all (strB 8)) = true := by decide +kernel
theorem poolS_s : poolS.all (fun l => l.all (strB 8)) = true := by decide +kernel
theorem poolN_s : poolN.all (strB 8) = true := by decide +kernel
theorem strB_fit {n w m : Nat} {x : Str} (h : strB n x = true) (hw : n ≤ w) : Fit w m (.str x) := by
  simp only [strB, Bool.and_eq_true, decide_eq_true_eq] at h
  exact Fit.str h.1 (by omega)
theorem fit_S {n m : Nat} {l : List Str} (h : l.all (strB n) = true) (hm : l.length ≤ m) : Fit (m * (n + 1)) 1 (encS l) := by
  refine Fit.tuple (n := 0) (fun d hd => ?_) (by simpa using hm)
  obtain ⟨x, hx, rfl⟩ := List.mem_map.mp hd
  exact strB_fit (List.all_eq_true.mp h x hx) (Nat.le_refl _)
theorem sh_strs {l : List Str} (h : l.all (strB 8) = true) : PyData.canLayAll0 (l.map .str) = true := by
  induction l with
  | nil => rfl
  | cons x r ih =>
    simp only [List.all_cons, Bool.and_eq_true, strB] at h
    simp [PyData.canLayAll0, PyData.canLay0, h.1.1, ih (by simpa [strB] using h.2)]
section
variable {A : AppD} (G : GoodA A)
include G
theorem GoodA.msB : A.ms.all (strB 8) = true := List.all_eq_true.mp poolM_s _ G.ms
theorem GoodA.ssB : A.ss.all (strB 8) = true := List.all_eq_true.mp poolS_s _ G.ss
theorem GoodA.ms3 : A.ms ≠ [] ∧ A.ms.length ≤ 3 ∧ A.ms.Nodup := poolM_len _ G.ms
theorem GoodA.ss4 : A.ss ≠ [] ∧ A.ss.length ≤ 4 ∧ A.ss.Nodup := poolS_len _ G.ss
theorem GoodA.aB {t : TapD} (ht : t ∈ A.ts) : t.a.all (strB 8) = true ∧ t.a.length ≤ 2 := by
  obtain ⟨aims, _, ha, h⟩ := G.ts
  have s := List.all_eq_true.mp G.ssB
  have e1 : strB 8 "open" = true := by decide +kernel
  have e2 : strB 8 "put" = true := by decide +kernel
  have e3 : strB 8 "back" = true := by decide +kernel
  have e4 : strB 8 "to" = true := by decide +kernel
  rcases (h t ht).a with ⟨x, hx, e | e⟩ | e | ⟨x, hx, e⟩ <;> rw [e]
  · simp [e1, s x hx]
  · simp [e2, s x hx]
  · simp [e3]
  · simp [e4, s x (ha x hx)]
theorem GoodA.tM {t : TapD} (ht : t ∈ A.ts) : t.m ∈ A.ms := by
  obtain ⟨aims, _, ha, h⟩ := G.ts
  exact (h t ht).m
theorem GoodA.tS {t : TapD} (ht : t ∈ A.ts) : t.s ∈ A.ss := by
  obtain ⟨aims, _, ha, h⟩ := G.ts
  exact (h t ht).s
theorem GoodA.tB {t : TapD} (ht : t ∈ A.ts) : strB 8 t.n = true ∧ strB 8 t.m = true ∧ strB 8 t.s = true ∧ strB 8 t.b = true := by
  obtain ⟨aims, _, ha, h⟩ := G.ts
  have s := List.all_eq_true.mp G.ssB
  have m := List.all_eq_true.mp G.msB
  have n := List.all_eq_true.mp poolN_s
  exact ⟨n _ (h t ht).n, m _ (h t ht).m, s _ (h t ht).s, m _ (h t ht).b⟩
theorem GoodA.fitT {t : TapD} (ht : t ∈ A.ts) : Fit 95 2 (encT t) := by
  obtain ⟨h1, h2, h3, h4⟩ := G.tB ht
  obtain ⟨h5, h6⟩ := G.aB ht
  refine Fit.tuple (m := 5) (w := 18) (n := 1) (fun d hd => ?_) (Nat.le_refl _)
  simp only [List.mem_cons, List.not_mem_nil, or_false] at hd
  rcases hd with rfl | rfl | rfl | rfl | rfl
  · exact strB_fit h1 (by decide)
  · exact strB_fit h2 (by decide)
  · exact strB_fit h3 (by decide)
  · exact fit_S h5 h6
  · exact strB_fit h4 (by decide)
theorem GoodA.fitL {L : List TapD} (h : ∀ t ∈ L, t ∈ A.ts) {n : Nat} (hl : L.length ≤ n) : Fit (n * 96) 3 (.tuple (L.map encT)) := by
  refine Fit.tuple (w := 95) (n := 2) (fun d hd => ?_) (by simpa using hl)
  obtain ⟨t, ht, rfl⟩ := List.mem_map.mp hd
  exact G.fitT (h t ht)
theorem GoodA.fitL' {L : List TapD} (h : ∀ t ∈ L, t ∈ A.ts) {n : Nat} (hl : L.length ≤ n) : Fit (n * 96) 3 (.list (L.map encT)) := by
  refine Fit.list (w := 95) (n := 2) (fun d hd => ?_) (by simpa using hl)
  obtain ⟨t, ht, rfl⟩ := List.mem_map.mp hd
  exact G.fitT (h t ht)
theorem GoodA.fitA : Fit 11525 4 (encA A) := by
  have m := List.all_eq_true.mp G.msB
  have s := List.all_eq_true.mp G.ssB
  refine Fit.tuple (m := 5) (w := 2304) (n := 3) (fun d hd => ?_) (Nat.le_refl _)
  simp only [List.mem_cons, List.not_mem_nil, or_false] at hd
  rcases hd with rfl | rfl | rfl | rfl | rfl
  · exact strB_fit (n := 8) (by decide +kernel) (by decide)
  · exact (fit_S G.msB G.ms3.2.1).mono (by decide) (by decide)
  · exact (fit_S G.ssB G.ss4.2.1).mono (by decide) (by decide)
  · refine (Fit.tuple (m := 2) (w := 8) (n := 0) (fun d hd => ?_) (Nat.le_refl _)).mono (by decide) (by decide)
    simp only [List.mem_cons, List.not_mem_nil, or_false] at hd
    rcases hd with rfl | rfl
    · exact strB_fit (m _ G.sm) (by decide)
    · exact strB_fit (s _ G.sn) (by decide)
  · exact (G.fitL (fun t h => h) G.len).mono (by decide) (by decide)
end
/-! ### sorting taps -/
theorem toks_strs : ∀ (a b : List Str) (r r' : List (Int ⊕ List Nat)), PySem.W.keyToksAll (a.map .str) ++ r = PySem.W.keyToksAll (b.map .str) ++ r' → a = b ∧ r = r'
  | [], [], _, _, h => by simpa [PySem.W.keyToksAll] using h
  | [], _ :: _, _, _, h => by simp [PySem.W.keyToksAll] at h
  | _ :: _, [], _, _, h => by simp [PySem.W.keyToksAll] at h
  | x :: a, y :: b, r, r', h => by
    simp only [List.map_cons, PySem.W.keyToksAll, PySem.W.keyToks, List.cons_append, List.nil_append, List.cons.injEq, Sum.inr.injEq, true_and] at h
    obtain ⟨h1, h2⟩ := h
    obtain ⟨e1, e2⟩ := toks_strs a b r r' h2
    exact ⟨by rw [PySem.W.str_of_cps h1, e1], e2⟩
theorem toks_T {a b : TapD} (h : PySem.W.keyToks (encT a) = PySem.W.keyToks (encT b)) : a = b := by
  simp only [encT, encS, PySem.W.keyToksAll, PySem.W.keyToks, List.cons_append, List.nil_append, List.cons.injEq, Sum.inr.injEq, true_and] at h
  obtain ⟨h1, h2, h3, h4⟩ := h
  obtain ⟨e4, h5⟩ := toks_strs _ _ _ _ h4
  simp only [List.cons.injEq, Sum.inr.injEq, true_and, and_true] at h5
  obtain ⟨n, m, s, a, b'⟩ := a
  obtain ⟨n', m', s', a', b''⟩ := b
  simp only at h1 h2 h3 e4 h5
  rw [PySem.W.str_of_cps h1, PySem.W.str_of_cps h2, PySem.W.str_of_cps h3, e4, PySem.W.str_of_cps h5]
theorem tapLe_anti {a b : TapD} (h1 : tapLe a b = true) (h2 : tapLe b a = true) : a = b := by
  refine toks_T ?_
  have g1 : (!PyProof.Rows.lexLt itemOrd (PySem.W.keyToks (encT b)) (PySem.W.keyToks (encT a))) = true := h1
  have g2 : (!PyProof.Rows.lexLt itemOrd (PySem.W.keyToks (encT a)) (PySem.W.keyToks (encT b))) = true := h2
  rw [Bool.not_eq_true'] at g1 g2
  have t := (listOrd itemOrd).total (PySem.W.keyToks (encT a)) (PySem.W.keyToks (encT b))
  exact t g2 g1
theorem filter_or_perm {α : Type} (p q : α → Bool) (l : List α) (h : ∀ x ∈ l, ¬ (p x = true ∧ q x = true)) : (l.filter p ++ l.filter q).Perm (l.filter fun x => p x || q x) := by
  induction l with
  | nil => exact .nil
  | cons x r ih =>
    have ih := ih fun y hy => h y (List.mem_cons_of_mem _ hy)
    have hx := h x (List.mem_cons_self ..)
    cases hp : p x with
    | true =>
      have hq : q x = false := by
        cases hq : q x
        · rfl
        · exact absurd ⟨hp, hq⟩ hx
      rw [List.filter_cons_of_pos hp, List.filter_cons_of_neg (by simp [hq]), List.filter_cons_of_pos (by simp [hp])]
      exact ih.cons x
    | false =>
      cases hq : q x with
      | true =>
        rw [List.filter_cons_of_neg (by simp [hp]), List.filter_cons_of_pos hq, List.filter_cons_of_pos (by simp [hq])]
        exact List.perm_middle.trans (ih.cons x)
      | false =>
        rw [List.filter_cons_of_neg (by simp [hp]), List.filter_cons_of_neg (by simp [hq]), List.filter_cons_of_neg (by simp [hp, hq])]
        exact ih
theorem sort_taps {E L : List TapD} (hp : E.Perm L) (hs : L.Pairwise fun a b => tapLe a b = true) : E.mergeSort tapLe = L := by
  refine List.Perm.eq_of_pairwise (le := fun a b => tapLe a b = true) (fun a b _ _ h1 h2 => tapLe_anti h1 h2) (PySem.W.sort_pairwise app_ok.tapLe_total E) hs ((List.mergeSort_perm E tapLe).trans hp)

/-- a comprehension over a mapped list where nothing changes -/
theorem Ok_lcM {β : Type} {f : Row → Sto → R (Option W)} {L : List β} {g : β → Row} {Q : List W → Sto → Prop} {E : Xc → Sto → Prop} {S : Sto} (φ : β → Option W) (hs : ∀ x, x ∈ L → Ok (f (g x) S) (fun o S' => o = φ x ∧ S' = S) noX) (he : Q (L.filterMap φ) S) :
    Ok (lcLoop f (L.map g) [] S) Q E := by
  refine Ok_lc (I := fun done acc S' => ∃ pre, done = pre.map g ∧ (∃ post, L = pre ++ post) ∧ acc = pre.filterMap φ ∧ S' = S) ⟨[], rfl, ⟨L, rfl⟩, rfl, rfl⟩ ?_ ?_
  · rintro done r post acc S' e ⟨pre, rfl, ⟨post', rfl⟩, rfl, rfl⟩
    rw [List.map_append, List.append_cancel_left_eq] at e
    cases post' with
    | nil => cases e
    | cons x post' =>
      rw [List.map_cons] at e
      obtain ⟨rfl, rfl⟩ := List.cons.inj e
      refine Ok_mono (hs x (by simp)) (fun o S h => ?_) fun _ _ z => z
      obtain ⟨rfl, rfl⟩ := h
      refine ⟨pre ++ [x], by simp, ⟨post', by simp⟩, ?_, rfl⟩
      rw [List.filterMap_append]
      cases q : φ x <;> simp [q]
  · rintro acc S' ⟨pre, e, ⟨post, rfl⟩, rfl, rfl⟩
    have : post = [] := by
      have := congrArg List.length e
      simp at this
      exact this
    subst this
    rw [List.append_nil] at he
    exact he
theorem fm_filter {β : Type} (enc : β → PyData) (c : β → Bool) : ∀ L : List β, L.filterMap (fun x => if c x then some (W.p (enc x)) else none) = ((L.filter c).map enc).map W.p
  | [] => rfl
  | x :: r => by
    rw [List.filterMap_cons, fm_filter enc c r]
    cases h : c x <;> simp [h]
theorem fm_map {β : Type} (enc : β → PyData) : ∀ L : List β, L.filterMap (fun x => some (W.p (enc x))) = (L.map enc).map W.p
  | [] => rfl
  | x :: r => by rw [List.filterMap_cons, fm_map enc r]; rfl
theorem rowsT {β : Type} (enc : β → PyData) (L : List β) : (((L.map enc).map W.p).map Row.one) = L.map fun x => Row.one (.p (enc x)) := by simp [Function.comp_def]
theorem e_eqS {S : Sto} {x y : Str} (hx : PyData.strOk x = true) (hy : PyData.strOk y = true) : fEq S (.p (.str x)) (.p (.str y)) = some (.p (.bool (decide (x = y))), S) := by
  rw [e_eqD rfl rfl (sh_str hx) (sh_str hy), eqv_str]
theorem e_neS {S : Sto} {x y : Str} (hx : PyData.strOk x = true) (hy : PyData.strOk y = true) : fNe S (.p (.str x)) (.p (.str y)) = some (.p (.bool (!decide (x = y))), S) := by
  rw [e_neD rfl rfl (sh_str hx) (sh_str hy), eqv_str]
theorem strB_ok {n : Nat} {x : Str} (h : strB n x = true) : PyData.strOk x = true := (Bool.and_eq_true_iff.mp h).1
def onT (m s : Str) (t : TapD) : Bool := decide (t.m = m) && decide (t.s = s)
theorem ixA4 {S : Sto} (A : AppD) : fIx S (.p (encA A)) (.p (.int 4)) = some (.p (.tuple (A.ts.map encT)), S) := rfl
theorem ixA1 {S : Sto} (A : AppD) : fIx S (.p (encA A)) (.p (.int 1)) = some (.p (encS A.ms), S) := rfl
theorem ixA2 {S : Sto} (A : AppD) : fIx S (.p (encA A)) (.p (.int 2)) = some (.p (encS A.ss), S) := rfl
theorem ixT1 {S : Sto} (t : TapD) : fIx S (.p (encT t)) (.p (.int 1)) = some (.p (.str t.m), S) := rfl
theorem ixT2 {S : Sto} (t : TapD) : fIx S (.p (encT t)) (.p (.int 2)) = some (.p (.str t.s), S) := rfl
theorem itemsT {S : Sto} (ds : List PyData) : items S (.p (.tuple ds)) = some (true, ds.map W.p) := rfl
theorem itemsL {S : Sto} (ds : List PyData) : items S (.p (.list ds)) = some (false, ds.map W.p) := rfl
theorem e_tupL {S : Sto} (ds : List PyData) : fTuple S [.p (.list ds)] = some (.p (.tuple ds), S) := rfl
theorem e_listT {S : Sto} (ds : List PyData) : fList S [.p (.tuple ds)] = some (.p (.list ds), S) := rfl
theorem stillp (d : PyData) : still (.p d) = true := rfl
theorem tapsOn_ok {T : List Fd} {k i : Nat} {A : AppD} {m sc : Str} {S : Sto} (h : T[i]? = some fxtaps_on) (G : GoodA A) (hm : PyData.strOk m = true) (hs : PyData.strOk sc = true) (hc : Clo S) {Q : W → Sto → Prop} {E : Xc → Sto → Prop}
    (q : Q (.p (.tuple ((A.ts.filter (onT m sc)).map encT))) S) : Ok (callN T (k + 1) i [.p (encA A), .p (.str m), .p (.str sc)] S) Q E := by
  refine Ok_call h rfl ?_
  simp only [fxtaps_on, bxtaps_on, So_cs, So_nl, So_then, So_ite, So_nx, So_ret, So_bk, So_ct, evS, evE, evEs, evT, evTa, evTo, evAn, evOr, evAs, evP, evI, Ok_bind, Ok_ok, Ok_bad, Ok_some, Ok_bs, Ok_ite, asgT, asgR, asgT.asgTs, setAll, wipeT, biF, meF, binF, cmpF, bl?, List.getElem?_cons_zero, List.getElem?_cons_succ, List.set_cons_zero, List.set_cons_succ, List.map_cons, List.map_nil, List.replicate_succ, List.replicate_zero, List.cons_append, List.nil_append, Nat.sub_self, Nat.reduceSub, Nat.reduceAdd, ixA4, itemsT, stillp, if_true, rowsT]
  refine Ok_lcM (fun t => if onT m sc t then some (W.p (encT t)) else none) (fun t ht => ?_) ?_
  · obtain ⟨h1, h2, h3, h4⟩ := G.tB ht
    simp only [So_cs, So_nl, So_then, So_ite, So_nx, So_ret, So_bk, So_ct, evS, evE, evEs, evT, evTa, evTo, evAn, evOr, evAs, evP, evI, Ok_bind, Ok_ok, Ok_bad, Ok_some, Ok_bs, Ok_ite, asgT, asgR, asgT.asgTs, setAll, wipeT, biF, meF, binF, cmpF, bl?, List.getElem?_cons_zero, List.getElem?_cons_succ, List.set_cons_zero, List.set_cons_succ, List.map_cons, List.map_nil, List.replicate_succ, List.replicate_zero, List.cons_append, List.nil_append, Nat.sub_self, Nat.reduceSub, Nat.reduceAdd, ixT1, ixT2, e_eqS (strB_ok h2) hm, e_eqS (strB_ok h3) hs, trub, onT, Bool.and_eq_true, decide_eq_true_eq]
    by_cases h1 : t.m = m
    · by_cases h2 : t.s = sc <;> simp [h1, h2]
    · simp [h1]
  · have hl : (A.ts.filter (onT m sc)).length ≤ 24 := Nat.le_trans (List.length_filter_le _ _) G.len
    rw [fm_filter, mkL _ (by simp only [List.length_map]; unfold lim; omega)]
    simp only [So_cs, So_nl, So_then, So_ite, So_nx, So_ret, So_bk, So_ct, evS, evE, evEs, evT, evTa, evTo, evAn, evOr, evAs, evP, evI, Ok_bind, Ok_ok, Ok_bad, Ok_some, Ok_bs, Ok_ite, asgT, asgR, asgT.asgTs, setAll, wipeT, biF, meF, binF, cmpF, bl?, List.getElem?_cons_zero, List.getElem?_cons_succ, List.set_cons_zero, List.set_cons_succ, List.map_cons, List.map_nil, List.replicate_succ, List.replicate_zero, List.cons_append, List.nil_append, Nat.sub_self, Nat.reduceSub, Nat.reduceAdd, e_tupL]
    exact Ok_end0 hc rfl rfl q

theorem itemsS {S : Sto} (l : List Str) : items S (.p (encS l)) = some (true, (l.map PyData.str).map W.p) := rfl
theorem ok_ex {r : R W} (h : Ok r (fun w _ => w = .p (.bool true)) noX) : ∃ S', r = .ok (.p (.bool true)) S' := by
  cases r with
  | ok w S => exact ⟨S, by rw [show w = _ from h]⟩
  | exc x S => exact h.elim
  | bad => exact h.elim
/-- two texts beside two -/
theorem ne_two {S : Sto} {a b c d : Str} (ha : PyData.strOk a = true) (hb : PyData.strOk b = true) (hc : PyData.strOk c = true) (hd : PyData.strOk d = true) :
    fNe S (.p (.list [.str a, .str b])) (.p (.list [.str c, .str d])) = some (.p (.bool (!(decide (a = c) && decide (b = d)))), S) := by
  have h2 : ∀ x y : Str, PyData.strOk x = true → PyData.strOk y = true → shapedB (.list [.str x, .str y]) = true := fun x y h1 h2 => sh_list fun d hd => by
    simp only [List.mem_cons, List.not_mem_nil, or_false] at hd
    rcases hd with rfl | rfl
    · exact ⟨sh_str h1, Nat.zero_le _⟩
    · exact ⟨sh_str h2, Nat.zero_le _⟩
  rw [e_neD rfl rfl (h2 a b ha hb) (h2 c d hc hd)]
  have e : PyData.eqv (.list [.str a, .str b]) (.list [.str c, .str d]) = (decide (a = c) && decide (b = d)) := by
    simp only [PyData.eqv, PyData.eqvAll, Bool.and_true]
    rw [← eqv_str, ← eqv_str]
    rfl
  rw [e]
theorem rng2 (lo : Int) : rng lo 2 = (List.range 2).map fun (i : Nat) => Row.one (.p (.int (lo + i))) := rfl
end Pv
end

section
set_option maxRecDepth 100000
set_option maxHeartbeats 4000000
namespace Lk02
open PySem PySem.Spec L2 Pv
open PyProof.Rows hiding St

def topS (i : Nat) : Stmt := PySem.Challenge.pw_backstacks_k02_taps_that_can_be_tapped.main.body.getD i (.Pass ⟨0, 0, 0, 0⟩)
abbrev n0 : List Str := nxtaps_on
/-- taps_on -/
abbrev f0 : Fd := fxtaps_on
abbrev s0 : Stmt := topS 1
def d0 : Df := ⟨"taps_on", s0, ["app", "mode", "screen"], n0, f0⟩
abbrev n1 : List Str := nx_law_spring
/-- _law_spring -/
abbrev f1 : Fd := fx_law_spring
abbrev s1 : Stmt := topS 3
def d1 : Df := ⟨"_law_spring", s1, ["_law_script"], n1, f1⟩
abbrev n2 : List Str := nx_law_drop
/-- _law_drop -/
abbrev f2 : Fd := fx_law_drop
abbrev s2 : Stmt := topS 4
def d2 : Df := ⟨"_law_drop", s2, ["_law_spring_here", "_law_many"], n2, f2⟩
abbrev n3 : List Str := nx_law_pick
/-- _law_pick -/
abbrev f3 : Fd := fx_law_pick 2
abbrev s3 : Stmt := topS 5
def d3 : Df := ⟨"_law_pick", s3, ["_law_spring_here", "_law_items"], n3, f3⟩
abbrev n4 : List Str := nx_law_act
/-- _law_act -/
abbrev f4 : Fd := fx_law_act 2 3
abbrev s4 : Stmt := topS 6
def d4 : Df := ⟨"_law_act", s4, ["_law_spring_here", "_law_screens", "_law_aims"], n4, f4⟩
abbrev n5 : List Str := nx_law_app
/-- _law_app -/
abbrev f5 : Fd := fx_law_app 4 2 3
abbrev s5 : Stmt := topS 7
def d5 : Df := ⟨"_law_app", s5, ["_law_spring_here", "_law_most"], n5, f5⟩
def n6 : List Str := ["_law_script", "_law_spring_here", "_law_turn", "_law_app_here", "_law_shown", "_law_every", "_law_mode", "_law_screen", "_law_due", "_law_again", "_law_tap"]
def b6_1 : Sx := (.cs (.ret (.k (.bool true))) .nl)
def b6_2 : Sx := (.cs (.iff (.orr (.cs (.tt (.cmp .NotEq (.bi .repr (.cs (.bi .sorted (.cs (.v 5) .nl)) .nl)) (.bi .repr (.cs (.bi .list (.cs (.ix (.v 3) (.k (.int 4))) .nl)) .nl)))) (.cs (.tt (.cmp .NotEq (.bi .repr (.cs (.v 3) .nl)) (.v 4))) .nl))) (.cs (.ret (.k (.bool false))) .nl) .nl) .nl)
def b6_3 : Sx := (.cs (.expr (.me .extend (.v 5) (.cs (.bi .list (.cs (.call 0 (.cs (.v 3) (.cs (.v 6) (.cs (.v 7) .nl)))) .nl)) .nl))) .nl)
def b6_4 : Sx := (.cs (.asg (.n 8) (.bi .repr (.cs (.bi .tuple (.cs (.lc false [10] (.n 10) (.iSeq (.ix (.v 3) (.k (.int 4)))) (.cs (.tt (.cmp .Eq (.sl (.v 10) (.cs (.k (.int 1)) .nl) (.cs (.k (.int 3)) .nl)) (.tup (.cs (.v 6) (.cs (.v 7) .nl))))) .nl) (.v 10)) .nl)) .nl))) (.cs (.iff (.tt (.cmp .NotEq (.lc false [9] (.n 9) (.iRng (.k (.int 2))) .nl (.bi .repr (.cs (.call 0 (.cs (.v 3) (.cs (.v 6) (.cs (.v 7) .nl)))) .nl))) (.lst false (.cs (.v 8) (.cs (.v 8) .nl))))) (.cs (.ret (.k (.bool false))) .nl) .nl) (b6_3)))
def b6_5 : Sx := (.cs (.for_ (.n 7) (.iSeq (.ix (.v 3) (.k (.int 2)))) (b6_4)) .nl)
def b6_6 : Sx := (.cs (.asg (.n 3) (.call 5 (.cs (.v 1) (.cs (.op .Add (.k (.int 1)) (.call 2 (.cs (.v 1) (.cs (.k (.int 6)) .nl)))) .nl)))) (.cs (.par [4, 5] (.cs (.bi .repr (.cs (.v 3) .nl)) (.cs (.lst true .nl) .nl))) (.cs (.for_ (.n 6) (.iSeq (.ix (.v 3) (.k (.int 1)))) (b6_5)) (b6_2))))
def b6 : Sx := (.cs (.asg (.n 1) (.call 1 (.cs (.v 0) .nl))) (.cs (.for_ (.n 2) (.iRng (.k (.int 24))) (b6_6)) (b6_1)))
/-- law(_law_script) -/
def f6 : Fd := ⟨1, 11, true, b6⟩
abbrev s6 : Stmt := topS 8
def d6 : Df := ⟨"law", s6, ["_law_script"], n6, f6⟩
def T : List Df := [d0, d1, d2, d3, d4, d5, d6]
def fds : List Fd := fdsOf T
set_option maxRecDepth 100000 in
theorem hT : T.all (dfB T) = true := by decide +kernel
theorem st0 {K : PySem.W.Frag} {h : Heap} {mg : Str → Option Value} {f : Addr} {od an : Option Addr} {sl : Array (Option Value)} {oc kV dc pm cd ct : Value} (X : K.In h) (G : h.Ns mainGlobals mg)
    (a : PySem.W.nsIn K mainGlobals "taps_on" = some (some (.ref f))) (l : K.lookup f = some ⟨oc, od, .func (PySem.W.fnOf "taps_on" "taps_on" (defArgs s0) (defBody s0) (defScope s0) .none kV dc pm an cd ct), sl⟩) (c : PySem.W.codeIn K cd "taps_on" = true) (k : PySem.W.keepIn K (.ref f) = true) :
    Stands K mg d0 f (PySem.W.fnOf "taps_on" "taps_on" (defArgs s0) (defBody s0) (defScope s0) .none kV dc pm an cd ct) :=
  have F := fun_mk (st := s0) l c k
  ⟨F, PySem.W.mg_of X G a, F.binds (ps := ["app", "mode", "screen"]) fun _ _ _ _ _ _ us hl => match us, hl with | [_, _, _], _ => rfl⟩
theorem st1 {K : PySem.W.Frag} {h : Heap} {mg : Str → Option Value} {f : Addr} {od an : Option Addr} {sl : Array (Option Value)} {oc kV dc pm cd ct : Value} (X : K.In h) (G : h.Ns mainGlobals mg)
    (a : PySem.W.nsIn K mainGlobals "_law_spring" = some (some (.ref f))) (l : K.lookup f = some ⟨oc, od, .func (PySem.W.fnOf "_law_spring" "_law_spring" (defArgs s1) (defBody s1) (defScope s1) .none kV dc pm an cd ct), sl⟩) (c : PySem.W.codeIn K cd "_law_spring" = true) (k : PySem.W.keepIn K (.ref f) = true) :
    Stands K mg d1 f (PySem.W.fnOf "_law_spring" "_law_spring" (defArgs s1) (defBody s1) (defScope s1) .none kV dc pm an cd ct) :=
  have F := fun_mk (st := s1) l c k
  ⟨F, PySem.W.mg_of X G a, F.binds (ps := ["_law_script"]) fun _ _ _ _ _ _ us hl => match us, hl with | [_], _ => rfl⟩
theorem st2 {K : PySem.W.Frag} {h : Heap} {mg : Str → Option Value} {f : Addr} {od an : Option Addr} {sl : Array (Option Value)} {oc kV dc pm cd ct : Value} (X : K.In h) (G : h.Ns mainGlobals mg)
    (a : PySem.W.nsIn K mainGlobals "_law_drop" = some (some (.ref f))) (l : K.lookup f = some ⟨oc, od, .func (PySem.W.fnOf "_law_drop" "_law_drop" (defArgs s2) (defBody s2) (defScope s2) .none kV dc pm an cd ct), sl⟩) (c : PySem.W.codeIn K cd "_law_drop" = true) (k : PySem.W.keepIn K (.ref f) = true) :
    Stands K mg d2 f (PySem.W.fnOf "_law_drop" "_law_drop" (defArgs s2) (defBody s2) (defScope s2) .none kV dc pm an cd ct) :=
  have F := fun_mk (st := s2) l c k
  ⟨F, PySem.W.mg_of X G a, F.binds (ps := ["_law_spring_here", "_law_many"]) fun _ _ _ _ _ _ us hl => match us, hl with | [_, _], _ => rfl⟩
theorem st3 {K : PySem.W.Frag} {h : Heap} {mg : Str → Option Value} {f : Addr} {od an : Option Addr} {sl : Array (Option Value)} {oc kV dc pm cd ct : Value} (X : K.In h) (G : h.Ns mainGlobals mg)
    (a : PySem.W.nsIn K mainGlobals "_law_pick" = some (some (.ref f))) (l : K.lookup f = some ⟨oc, od, .func (PySem.W.fnOf "_law_pick" "_law_pick" (defArgs s3) (defBody s3) (defScope s3) .none kV dc pm an cd ct), sl⟩) (c : PySem.W.codeIn K cd "_law_pick" = true) (k : PySem.W.keepIn K (.ref f) = true) :
    Stands K mg d3 f (PySem.W.fnOf "_law_pick" "_law_pick" (defArgs s3) (defBody s3) (defScope s3) .none kV dc pm an cd ct) :=
  have F := fun_mk (st := s3) l c k
  ⟨F, PySem.W.mg_of X G a, F.binds (ps := ["_law_spring_here", "_law_items"]) fun _ _ _ _ _ _ us hl => match us, hl with | [_, _], _ => rfl⟩
theorem st4 {K : PySem.W.Frag} {h : Heap} {mg : Str → Option Value} {f : Addr} {od an : Option Addr} {sl : Array (Option Value)} {oc kV dc pm cd ct : Value} (X : K.In h) (G : h.Ns mainGlobals mg)
    (a : PySem.W.nsIn K mainGlobals "_law_act" = some (some (.ref f))) (l : K.lookup f = some ⟨oc, od, .func (PySem.W.fnOf "_law_act" "_law_act" (defArgs s4) (defBody s4) (defScope s4) .none kV dc pm an cd ct), sl⟩) (c : PySem.W.codeIn K cd "_law_act" = true) (k : PySem.W.keepIn K (.ref f) = true) :
    Stands K mg d4 f (PySem.W.fnOf "_law_act" "_law_act" (defArgs s4) (defBody s4) (defScope s4) .none kV dc pm an cd ct) :=
  have F := fun_mk (st := s4) l c k
  ⟨F, PySem.W.mg_of X G a, F.binds (ps := ["_law_spring_here", "_law_screens", "_law_aims"]) fun _ _ _ _ _ _ us hl => match us, hl with | [_, _, _], _ => rfl⟩
theorem st5 {K : PySem.W.Frag} {h : Heap} {mg : Str → Option Value} {f : Addr} {od an : Option Addr} {sl : Array (Option Value)} {oc kV dc pm cd ct : Value} (X : K.In h) (G : h.Ns mainGlobals mg)
    (a : PySem.W.nsIn K mainGlobals "_law_app" = some (some (.ref f))) (l : K.lookup f = some ⟨oc, od, .func (PySem.W.fnOf "_law_app" "_law_app" (defArgs s5) (defBody s5) (defScope s5) .none kV dc pm an cd ct), sl⟩) (c : PySem.W.codeIn K cd "_law_app" = true) (k : PySem.W.keepIn K (.ref f) = true) :
    Stands K mg d5 f (PySem.W.fnOf "_law_app" "_law_app" (defArgs s5) (defBody s5) (defScope s5) .none kV dc pm an cd ct) :=
  have F := fun_mk (st := s5) l c k
  ⟨F, PySem.W.mg_of X G a, F.binds (ps := ["_law_spring_here", "_law_most"]) fun _ _ _ _ _ _ us hl => match us, hl with | [_, _], _ => rfl⟩
theorem st6 {K : PySem.W.Frag} {h : Heap} {mg : Str → Option Value} {f : Addr} {od an : Option Addr} {sl : Array (Option Value)} {oc kV dc pm cd ct : Value} (X : K.In h) (G : h.Ns mainGlobals mg)
    (a : PySem.W.nsIn K mainGlobals "law" = some (some (.ref f))) (l : K.lookup f = some ⟨oc, od, .func (PySem.W.fnOf "law" "law" (defArgs s6) (defBody s6) (defScope s6) .none kV dc pm an cd ct), sl⟩) (c : PySem.W.codeIn K cd "law" = true) (k : PySem.W.keepIn K (.ref f) = true) :
    Stands K mg d6 f (PySem.W.fnOf "law" "law" (defArgs s6) (defBody s6) (defScope s6) .none kV dc pm an cd ct) :=
  have F := fun_mk (st := s6) l c k
  ⟨F, PySem.W.mg_of X G a, F.binds (ps := ["_law_script"]) fun _ _ _ _ _ _ us hl => match us, hl with | [_], _ => rfl⟩
theorem stands {K : PySem.W.Frag} {mg : Str → Option Value} (h0 : ∃ f fd, Stands K mg d0 f fd) (h1 : ∃ f fd, Stands K mg d1 f fd) (h2 : ∃ f fd, Stands K mg d2 f fd) (h3 : ∃ f fd, Stands K mg d3 f fd) (h4 : ∃ f fd, Stands K mg d4 f fd) (h5 : ∃ f fd, Stands K mg d5 f fd) (h6 : ∃ f fd, Stands K mg d6 f fd) : ∀ (i : Nat) (d : Df), T[i]? = some d → ∃ f fd, Stands K mg d f fd
  | 0, _, rfl => h0
  | 1, _, rfl => h1
  | 2, _, rfl => h2
  | 3, _, rfl => h3
  | 4, _, rfl => h4
  | 5, _, rfl => h5
  | 6, _, rfl => h6
  | _ + 7, _, h => nomatch h
end Lk02
end

section
set_option maxRecDepth 10000
set_option maxHeartbeats 4000000
namespace Lk02
open PySem PySem.Spec L2 Pv
open PyProof.Rows hiding St

theorem law_true (ns : List Int) (hl : ns.length ≤ 63) (hb : ∀ z ∈ ns, Builtin.Int.intBits z ≤ 1048576) : ∃ S', callN fds 12 6 [.s ns] [] = .ok (.p (.bool true)) S' := by
  refine ok_ex (Ok_call (fd := f6) rfl rfl ?_)
  simp only [f6, b6, So_cs, So_nl, So_then, So_ite, So_nx, So_ret, So_bk, So_ct, evS, evE, evEs, evT, evTa, evTo, evAn, evOr, evAs, evP, evI, Ok_bind, Ok_ok, Ok_bad, Ok_some, Ok_bs, Ok_ite, asgT, asgR, asgT.asgTs, setAll, wipeT, biF, meF, binF, cmpF, bl?, List.getElem?_cons_zero, List.getElem?_cons_succ, List.set_cons_zero, List.set_cons_succ, List.map_cons, List.map_nil, List.replicate_succ, List.replicate_zero, List.cons_append, List.nil_append, Nat.sub_self, Nat.reduceSub, Nat.reduceAdd]
  refine spring_ok rfl hl fun s => ?_
  rw [if_pos (by decide)]
  refine So_forP (I := fun τ S => ∃ (s : Spg) (R : Sto) (x2 x3 x4 x5 x6 x7 x8 : Option W), CloR R ∧ τ = [some (.s ns), some (.r 1), x2, x3, x4, x5, x6, x7, x8, none, none] ∧ S = Spr s R) ⟨s, [], _, _, _, _, _, _, _, CloR.nil, rfl, rfl⟩ ?_ ?_
  · rintro r τ S hr ⟨s, R, x2, x3, x4, x5, x6, x7, x8, hR, rfl, rfl⟩
    obtain ⟨j, hj, rfl⟩ := List.mem_map.mp hr
    simp only [b6_6, So_cs, So_nl, So_then, So_ite, So_nx, So_ret, So_bk, So_ct, evS, evE, evEs, evT, evTa, evTo, evAn, evOr, evAs, evP, evI, Ok_bind, Ok_ok, Ok_bad, Ok_some, Ok_bs, Ok_ite, asgT, asgR, asgT.asgTs, setAll, wipeT, biF, meF, binF, cmpF, bl?, List.getElem?_cons_zero, List.getElem?_cons_succ, List.set_cons_zero, List.set_cons_succ, List.map_cons, List.map_nil, List.replicate_succ, List.replicate_zero, List.cons_append, List.nil_append, Nat.sub_self, Nat.reduceSub, Nat.reduceAdd]
    refine drop_ok rfl (by decide) (by decide) hR fun z s1 hz => ?_
    simp only [e_add, So_cs, So_nl, So_then, So_ite, So_nx, So_ret, So_bk, So_ct, evS, evE, evEs, evT, evTa, evTo, evAn, evOr, evAs, evP, evI, Ok_bind, Ok_ok, Ok_bad, Ok_some, Ok_bs, Ok_ite, asgT, asgR, asgT.asgTs, setAll, wipeT, biF, meF, binF, cmpF, bl?, List.getElem?_cons_zero, List.getElem?_cons_succ, List.set_cons_zero, List.set_cons_succ, List.map_cons, List.map_nil, List.replicate_succ, List.replicate_zero, List.cons_append, List.nil_append, Nat.sub_self, Nat.reduceSub, Nat.reduceAdd]
    refine app_ok rfl rfl rfl rfl (by omega) (by omega) hR fun A s2 G => ?_
    have hA := G.fitA
    have eR : ∀ S : Sto, fRepr S [.p (encA A)] = some (.p (.str (encA A).shown), S) := fun S => e_repr rfl hA (by decide) (by decide)
    simp only [So_cs, So_nl, So_then, So_ite, So_nx, So_ret, So_bk, So_ct, evS, evE, evEs, evT, evTa, evTo, evAn, evOr, evAs, evP, evI, Ok_bind, Ok_ok, Ok_bad, Ok_some, Ok_bs, Ok_ite, asgT, asgR, asgT.asgTs, setAll, wipeT, biF, meF, binF, cmpF, bl?, List.getElem?_cons_zero, List.getElem?_cons_succ, List.set_cons_zero, List.set_cons_succ, List.map_cons, List.map_nil, List.replicate_succ, List.replicate_zero, List.cons_append, List.nil_append, Nat.sub_self, Nat.reduceSub, Nat.reduceAdd, eR, spr_push0, ixA1, itemsS, stillp, if_true, rowsT]
    have mB := List.all_eq_true.mp G.msB
    have sB := List.all_eq_true.mp G.ssB
    have cU : ∀ U : List TapD, CloR (R ++ [.l ((U.map encT).map W.p)]) := fun U => hR.snoc
    refine So_forM (fun pre τ S => ∃ (s : Spg) (U : List TapD) (x6 x7 x8 : Option W), U.Perm (A.ts.filter fun t => decide (t.m ∈ pre)) ∧ τ = [some (.s ns), some (.r 1), some (.p (.int (0 + j))), some (.p (encA A)), some (.p (.str (encA A).shown)), some (.r (R.length + 2)), x6, x7, x8, none, none] ∧ S = Spr s (R ++ [.l ((U.map encT).map W.p)])) ⟨s2, [], _, _, _, by simp, rfl, rfl⟩ ?_ ?_
    · rintro pm m qm τ S em ⟨s, U, x6, x7, x8, hU, rfl, rfl⟩
      have hmm : m ∈ A.ms := by rw [em]; simp
      have hmo := strB_ok (mB m hmm)
      have hmn : m ∉ pm := by
        have := G.ms3.2.2
        rw [em] at this
        intro hq
        exact (List.nodup_append.mp this).2.2 m hq m (List.mem_cons_self ..) rfl
      simp only [b6_5, So_cs, So_nl, So_then, So_ite, So_nx, So_ret, So_bk, So_ct, evS, evE, evEs, evT, evTa, evTo, evAn, evOr, evAs, evP, evI, Ok_bind, Ok_ok, Ok_bad, Ok_some, Ok_bs, Ok_ite, asgT, asgR, asgT.asgTs, setAll, wipeT, biF, meF, binF, cmpF, bl?, List.getElem?_cons_zero, List.getElem?_cons_succ, List.set_cons_zero, List.set_cons_succ, List.map_cons, List.map_nil, List.replicate_succ, List.replicate_zero, List.cons_append, List.nil_append, Nat.sub_self, Nat.reduceSub, Nat.reduceAdd, ixA2, itemsS, stillp, if_true, rowsT]
      refine So_forM (fun pre τ S => ∃ (s : Spg) (U : List TapD) (x7 x8 : Option W), U.Perm (A.ts.filter fun t => decide (t.m ∈ pm) || (decide (t.m = m) && decide (t.s ∈ pre))) ∧ τ = [some (.s ns), some (.r 1), some (.p (.int (0 + j))), some (.p (encA A)), some (.p (.str (encA A).shown)), some (.r (R.length + 2)), some (.p (.str m)), x7, x8, none, none] ∧ S = Spr s (R ++ [.l ((U.map encT).map W.p)])) ⟨s, U, _, _, by simpa using hU, rfl, rfl⟩ ?_ ?_
      · rintro ps sc qs τ S es ⟨s, U, x7, x8, hU, rfl, rfl⟩
        have hss : sc ∈ A.ss := by rw [es]; simp
        have hso := strB_ok (sB sc hss)
        have hsn : sc ∉ ps := by
          have := G.ss4.2.2
          rw [es] at this
          intro hq
          exact (List.nodup_append.mp this).2.2 sc hq sc (List.mem_cons_self ..) rfl
        have hsub : ∀ t ∈ A.ts.filter (onT m sc), t ∈ A.ts := fun t h => (List.mem_filter.mp h).1
        have hlF : (A.ts.filter (onT m sc)).length ≤ 24 := Nat.le_trans (List.length_filter_le _ _) G.len
        have hF := G.fitL hsub hlF
        have eF : ∀ S : Sto, fRepr S [.p (.tuple ((A.ts.filter (onT m sc)).map encT))] = some (.p (.str (PyData.tuple ((A.ts.filter (onT m sc)).map encT)).shown), S) := fun S => e_repr rfl hF (by decide) (by decide)
        generalize hsh : (PyData.tuple ((A.ts.filter (onT m sc)).map encT)).shown = sh at eF
        have hsh' : PyData.strOk sh = true := by rw [← hsh]; exact hF.so
        have cS := clo_spr (s := s) (cU U)
        have eS : ∀ (S : Sto) (t : TapD), fSl (some 1) (some 3) S (.p (encT t)) = some (.p (.tuple [.str t.m, .str t.s]), S) := fun _ _ => rfl
        have eM : ∀ (S : Sto) (t : TapD), t ∈ A.ts → fEq S (.p (.tuple [.str t.m, .str t.s])) (.p (.tuple [.str m, .str sc])) = some (.p (.bool (onT m sc t)), S) := fun S t ht => by
          obtain ⟨h1, h2, h3, h4⟩ := G.tB ht
          have h2 : ∀ x y : Str, PyData.strOk x = true → PyData.strOk y = true → shapedB (.tuple [.str x, .str y]) = true := fun x y h1 h2 => sh_tuple fun d hd => by
            simp only [List.mem_cons, List.not_mem_nil, or_false] at hd
            rcases hd with rfl | rfl
            · exact ⟨sh_str h1, Nat.zero_le _⟩
            · exact ⟨sh_str h2, Nat.zero_le _⟩
          rw [e_eqD rfl rfl (h2 _ _ (strB_ok ‹strB 8 t.m = true›) (strB_ok h3)) (h2 _ _ hmo hso)]
          have e : PyData.eqv (.tuple [.str t.m, .str t.s]) (.tuple [.str m, .str sc]) = onT m sc t := by
            unfold onT
            simp only [PyData.eqv, PyData.eqvAll, Bool.and_true]
            rw [← eqv_str, ← eqv_str]
            rfl
          rw [e]
        simp only [b6_4, So_cs, So_nl, So_then, So_ite, So_nx, So_ret, So_bk, So_ct, evS, evE, evEs, evT, evTa, evTo, evAn, evOr, evAs, evP, evI, Ok_bind, Ok_ok, Ok_bad, Ok_some, Ok_bs, Ok_ite, asgT, asgR, asgT.asgTs, setAll, wipeT, biF, meF, binF, cmpF, bl?, List.getElem?_cons_zero, List.getElem?_cons_succ, List.set_cons_zero, List.set_cons_succ, List.map_cons, List.map_nil, List.replicate_succ, List.replicate_zero, List.cons_append, List.nil_append, Nat.sub_self, Nat.reduceSub, Nat.reduceAdd, ixA4, itemsT, stillp, if_true, rowsT]
        refine Ok_lcM (fun t => if onT m sc t then some (W.p (encT t)) else none) (fun t ht => ?_) ?_
        · simp only [So_cs, So_nl, So_then, So_ite, So_nx, So_ret, So_bk, So_ct, evS, evE, evEs, evT, evTa, evTo, evAn, evOr, evAs, evP, evI, Ok_bind, Ok_ok, Ok_bad, Ok_some, Ok_bs, Ok_ite, asgT, asgR, asgT.asgTs, setAll, wipeT, biF, meF, binF, cmpF, bl?, List.getElem?_cons_zero, List.getElem?_cons_succ, List.set_cons_zero, List.set_cons_succ, List.map_cons, List.map_nil, List.replicate_succ, List.replicate_zero, List.cons_append, List.nil_append, Nat.sub_self, Nat.reduceSub, Nat.reduceAdd, eS, mkT2, eM _ t ht, trub]
          cases onT m sc t <;> simp
        rw [fm_filter, mkL _ (by simp only [List.length_map]; unfold lim; omega)]
        simp only [So_cs, So_nl, So_then, So_ite, So_nx, So_ret, So_bk, So_ct, evS, evE, evEs, evT, evTa, evTo, evAn, evOr, evAs, evP, evI, Ok_bind, Ok_ok, Ok_bad, Ok_some, Ok_bs, Ok_ite, asgT, asgR, asgT.asgTs, setAll, wipeT, biF, meF, binF, cmpF, bl?, List.getElem?_cons_zero, List.getElem?_cons_succ, List.set_cons_zero, List.set_cons_succ, List.map_cons, List.map_nil, List.replicate_succ, List.replicate_zero, List.cons_append, List.nil_append, Nat.sub_self, Nat.reduceSub, Nat.reduceAdd, e_tupL, eF]
        rw [if_pos (by decide)]
        simp only [Int.reduceToNat, rng2]
        refine Ok_lcM (fun _ => some (W.p (.str sh))) (fun t ht => ?_) ?_
        · simp only [So_cs, So_nl, So_then, So_ite, So_nx, So_ret, So_bk, So_ct, evS, evE, evEs, evT, evTa, evTo, evAn, evOr, evAs, evP, evI, Ok_bind, Ok_ok, Ok_bad, Ok_some, Ok_bs, Ok_ite, asgT, asgR, asgT.asgTs, setAll, wipeT, biF, meF, binF, cmpF, bl?, List.getElem?_cons_zero, List.getElem?_cons_succ, List.set_cons_zero, List.set_cons_succ, List.map_cons, List.map_nil, List.replicate_succ, List.replicate_zero, List.cons_append, List.nil_append, Nat.sub_self, Nat.reduceSub, Nat.reduceAdd]
          refine tapsOn_ok rfl G hmo hso cS ?_
          simp only [eF, So_cs, So_nl, So_then, So_ite, So_nx, So_ret, So_bk, So_ct, evS, evE, evEs, evT, evTa, evTo, evAn, evOr, evAs, evP, evI, Ok_bind, Ok_ok, Ok_bad, Ok_some, Ok_bs, Ok_ite, asgT, asgR, asgT.asgTs, setAll, wipeT, biF, meF, binF, cmpF, bl?, List.getElem?_cons_zero, List.getElem?_cons_succ, List.set_cons_zero, List.set_cons_succ, List.map_cons, List.map_nil, List.replicate_succ, List.replicate_zero, List.cons_append, List.nil_append, Nat.sub_self, Nat.reduceSub, Nat.reduceAdd]
          exact ⟨trivial, trivial⟩
        rw [show (List.range 2).filterMap (fun _ => some (W.p (.str sh))) = [W.p (.str sh), W.p (.str sh)] from rfl]
        simp only [mkL2, So_cs, So_nl, So_then, So_ite, So_nx, So_ret, So_bk, So_ct, evS, evE, evEs, evT, evTa, evTo, evAn, evOr, evAs, evP, evI, Ok_bind, Ok_ok, Ok_bad, Ok_some, Ok_bs, Ok_ite, asgT, asgR, asgT.asgTs, setAll, wipeT, biF, meF, binF, cmpF, bl?, List.getElem?_cons_zero, List.getElem?_cons_succ, List.set_cons_zero, List.set_cons_succ, List.map_cons, List.map_nil, List.replicate_succ, List.replicate_zero, List.cons_append, List.nil_append, Nat.sub_self, Nat.reduceSub, Nat.reduceAdd, ne_two hsh' hsh' hsh' hsh', trub, decide_true, Bool.and_self, Bool.not_true, Bool.false_eq_true, if_false]
        simp only [b6_3, So_cs, So_nl, So_then, So_ite, So_nx, So_ret, So_bk, So_ct, evS, evE, evEs, evT, evTa, evTo, evAn, evOr, evAs, evP, evI, Ok_bind, Ok_ok, Ok_bad, Ok_some, Ok_bs, Ok_ite, asgT, asgR, asgT.asgTs, setAll, wipeT, biF, meF, binF, cmpF, bl?, List.getElem?_cons_zero, List.getElem?_cons_succ, List.set_cons_zero, List.set_cons_succ, List.map_cons, List.map_nil, List.replicate_succ, List.replicate_zero, List.cons_append, List.nil_append, Nat.sub_self, Nat.reduceSub, Nat.reduceAdd]
        rw [if_pos spr_me]
        refine tapsOn_ok rfl G hmo hso cS ?_
        have hUl : U.length ≤ 24 := by
          rw [hU.length_eq]
          exact Nat.le_trans (List.length_filter_le _ _) G.len
        simp only [e_listT, So_cs, So_nl, So_then, So_ite, So_nx, So_ret, So_bk, So_ct, evS, evE, evEs, evT, evTa, evTo, evAn, evOr, evAs, evP, evI, Ok_bind, Ok_ok, Ok_bad, Ok_some, Ok_bs, Ok_ite, asgT, asgR, asgT.asgTs, setAll, wipeT, biF, meF, binF, cmpF, bl?, List.getElem?_cons_zero, List.getElem?_cons_succ, List.set_cons_zero, List.set_cons_succ, List.map_cons, List.map_nil, List.replicate_succ, List.replicate_zero, List.cons_append, List.nil_append, Nat.sub_self, Nat.reduceSub, Nat.reduceAdd]
        rw [spr_ext (by simp only [List.length_map]; unfold lim; omega), Ok_some]
        have eU : (U.map encT).map W.p ++ ((A.ts.filter (onT m sc)).map encT).map W.p = ((U ++ A.ts.filter (onT m sc)).map encT).map W.p := by simp
        rw [eU]
        refine ⟨s, U ++ A.ts.filter (onT m sc), _, _, ?_, rfl, rfl⟩
        refine ((hU.append_right _).trans (filter_or_perm _ _ _ fun t ht => ?_)).trans ?_
        · rintro ⟨h1, h2⟩
          simp only [onT, Bool.and_eq_true, Bool.or_eq_true, decide_eq_true_eq] at h1 h2
          obtain ⟨rfl, rfl⟩ := h2
          rcases h1 with h1 | ⟨_, h1⟩
          · exact hmn h1
          · exact hsn h1
        · refine List.Perm.of_eq (List.filter_congr fun t _ => ?_)
          rw [Bool.eq_iff_iff]
          simp only [onT, Bool.and_eq_true, Bool.or_eq_true, decide_eq_true_eq, List.mem_append, List.mem_singleton]
          constructor
          · rintro ((h | ⟨h1, h2⟩) | ⟨h1, h2⟩)
            · exact .inl h
            · exact .inr ⟨h1, .inl h2⟩
            · exact .inr ⟨h1, .inr h2⟩
          · rintro (h | ⟨h1, h2 | h2⟩)
            · exact .inl (.inl h)
            · exact .inl (.inr ⟨h1, h2⟩)
            · exact .inr ⟨h1, h2⟩
      · rintro τ S ⟨s, U, x7, x8, hU, rfl, rfl⟩
        refine ⟨s, U, _, _, _, hU.trans (List.Perm.of_eq (List.filter_congr fun t ht => ?_)), rfl, rfl⟩
        have := G.tS ht
        rw [Bool.eq_iff_iff]
        simp only [Bool.and_eq_true, Bool.or_eq_true, decide_eq_true_eq, List.mem_append, List.mem_singleton, this, and_true]
    · rintro τ S ⟨s, U, x6, x7, x8, hU, rfl, rfl⟩
      have hU' : U.Perm A.ts := by
        refine hU.trans (List.Perm.of_eq (List.filter_eq_self.mpr fun t ht => ?_))
        exact decide_eq_true (G.tM ht)
      have hl : U.length ≤ 24 := by rw [hU'.length_eq]; exact G.len
      have eSo : fSorted (Spr s (R ++ [.l ((U.map encT).map W.p)])) [.r (R.length + 2)] = some (.p (.list (A.ts.map encT)), Spr s (R ++ [.l ((U.map encT).map W.p)])) := by
        unfold fSorted
        dsimp only
        rw [spr_seq]
        dsimp only
        rw [if_pos (sortOk_T (by unfold lim; omega)), sortD_T, sort_taps hU' G.ord]
      have hF := G.fitL' (fun t h => h) G.len
      have eF : ∀ S : Sto, fRepr S [.p (.list (A.ts.map encT))] = some (.p (.str (PyData.list (A.ts.map encT)).shown), S) := fun S => e_repr rfl hF (by decide) (by decide)
      simp only [b6_2, So_cs, So_nl, So_then, So_ite, So_nx, So_ret, So_bk, So_ct, evS, evE, evEs, evT, evTa, evTo, evAn, evOr, evAs, evP, evI, Ok_bind, Ok_ok, Ok_bad, Ok_some, Ok_bs, Ok_ite, asgT, asgR, asgT.asgTs, setAll, wipeT, biF, meF, binF, cmpF, bl?, List.getElem?_cons_zero, List.getElem?_cons_succ, List.set_cons_zero, List.set_cons_succ, List.map_cons, List.map_nil, List.replicate_succ, List.replicate_zero, List.cons_append, List.nil_append, Nat.sub_self, Nat.reduceSub, Nat.reduceAdd, eSo, eF, ixA4, e_listT, e_neS hF.so hF.so, eR, e_neS hA.so hA.so, trub, decide_true, Bool.not_true, Bool.false_eq_true, if_false]
      exact ⟨s, _, _, _, _, _, _, _, _, cU U, rfl, rfl⟩
  · rintro τ S ⟨s, R, x2, x3, x4, x5, x6, x7, x8, hR, rfl, rfl⟩
    simp only [b6_1, So_cs, So_nl, So_then, So_ite, So_nx, So_ret, So_bk, So_ct, evS, evE, evEs, evT, evTa, evTo, evAn, evOr, evAs, evP, evI, Ok_bind, Ok_ok, Ok_bad, Ok_some, Ok_bs, Ok_ite, asgT, asgR, asgT.asgTs, setAll, wipeT, biF, meF, binF, cmpF, bl?, List.getElem?_cons_zero, List.getElem?_cons_succ, List.set_cons_zero, List.set_cons_succ, List.map_cons, List.map_nil, List.replicate_succ, List.replicate_zero, List.cons_append, List.nil_append, Nat.sub_self, Nat.reduceSub, Nat.reduceAdd]
    exact Ok_end (Q := fun w _ => w = .p (.bool true)) (E := noX) (S := []) (J := Spr s R) (fun o h => (nomatch h)) rfl rfl rfl
end Lk02
end

section
set_option maxRecDepth 100000
set_option maxHeartbeats 4000000
namespace Lk02
open PySem PySem.Spec L2 Pv
open PyProof.Rows hiding St
theorem all_mk {K : PySem.W.Frag} {h : Heap} {mg : Str → Option Value} {fa : Addr} {P : Program} {w : World} {cl : Nat → Option (Addr × List Str)} (k : Nat) (X : K.In h) (G : h.Ns mainGlobals mg) (hfa : mg "law" = some (.ref fa)) {f0 : Addr} {od0 an0 : Option Addr} {sl0 : Array (Option Value)} {oc0 kV0 dc0 pm0 cd0 ct0 : Value} {f1 : Addr} {od1 an1 : Option Addr} {sl1 : Array (Option Value)} {oc1 kV1 dc1 pm1 cd1 ct1 : Value} {f2 : Addr} {od2 an2 : Option Addr} {sl2 : Array (Option Value)} {oc2 kV2 dc2 pm2 cd2 ct2 : Value} {f3 : Addr} {od3 an3 : Option Addr} {sl3 : Array (Option Value)} {oc3 kV3 dc3 pm3 cd3 ct3 : Value} {f4 : Addr} {od4 an4 : Option Addr} {sl4 : Array (Option Value)} {oc4 kV4 dc4 pm4 cd4 ct4 : Value} {f5 : Addr} {od5 an5 : Option Addr} {sl5 : Array (Option Value)} {oc5 kV5 dc5 pm5 cd5 ct5 : Value} {f6 : Addr} {od6 an6 : Option Addr} {sl6 : Array (Option Value)} {oc6 kV6 dc6 pm6 cd6 ct6 : Value}
    (a0 : PySem.W.nsIn K mainGlobals "taps_on" = some (some (.ref f0))) (l0 : K.lookup f0 = some ⟨oc0, od0, .func (PySem.W.fnOf "taps_on" "taps_on" (defArgs s0) (defBody s0) (defScope s0) .none kV0 dc0 pm0 an0 cd0 ct0), sl0⟩) (c0 : PySem.W.codeIn K cd0 "taps_on" = true) (k0 : PySem.W.keepIn K (.ref f0) = true)
    (a1 : PySem.W.nsIn K mainGlobals "_law_spring" = some (some (.ref f1))) (l1 : K.lookup f1 = some ⟨oc1, od1, .func (PySem.W.fnOf "_law_spring" "_law_spring" (defArgs s1) (defBody s1) (defScope s1) .none kV1 dc1 pm1 an1 cd1 ct1), sl1⟩) (c1 : PySem.W.codeIn K cd1 "_law_spring" = true) (k1 : PySem.W.keepIn K (.ref f1) = true)
    (a2 : PySem.W.nsIn K mainGlobals "_law_drop" = some (some (.ref f2))) (l2 : K.lookup f2 = some ⟨oc2, od2, .func (PySem.W.fnOf "_law_drop" "_law_drop" (defArgs s2) (defBody s2) (defScope s2) .none kV2 dc2 pm2 an2 cd2 ct2), sl2⟩) (c2 : PySem.W.codeIn K cd2 "_law_drop" = true) (k2 : PySem.W.keepIn K (.ref f2) = true)
    (a3 : PySem.W.nsIn K mainGlobals "_law_pick" = some (some (.ref f3))) (l3 : K.lookup f3 = some ⟨oc3, od3, .func (PySem.W.fnOf "_law_pick" "_law_pick" (defArgs s3) (defBody s3) (defScope s3) .none kV3 dc3 pm3 an3 cd3 ct3), sl3⟩) (c3 : PySem.W.codeIn K cd3 "_law_pick" = true) (k3 : PySem.W.keepIn K (.ref f3) = true)
    (a4 : PySem.W.nsIn K mainGlobals "_law_act" = some (some (.ref f4))) (l4 : K.lookup f4 = some ⟨oc4, od4, .func (PySem.W.fnOf "_law_act" "_law_act" (defArgs s4) (defBody s4) (defScope s4) .none kV4 dc4 pm4 an4 cd4 ct4), sl4⟩) (c4 : PySem.W.codeIn K cd4 "_law_act" = true) (k4 : PySem.W.keepIn K (.ref f4) = true)
    (a5 : PySem.W.nsIn K mainGlobals "_law_app" = some (some (.ref f5))) (l5 : K.lookup f5 = some ⟨oc5, od5, .func (PySem.W.fnOf "_law_app" "_law_app" (defArgs s5) (defBody s5) (defScope s5) .none kV5 dc5 pm5 an5 cd5 ct5), sl5⟩) (c5 : PySem.W.codeIn K cd5 "_law_app" = true) (k5 : PySem.W.keepIn K (.ref f5) = true)
    (a6 : PySem.W.nsIn K mainGlobals "law" = some (some (.ref f6))) (l6 : K.lookup f6 = some ⟨oc6, od6, .func (PySem.W.fnOf "law" "law" (defArgs s6) (defBody s6) (defScope s6) .none kV6 dc6 pm6 an6 cd6 ct6), sl6⟩) (c6 : PySem.W.codeIn K cd6 "law" = true) (k6 : PySem.W.keepIn K (.ref f6) = true)
    (z0 : PySem.W.nsIn K mainGlobals "len" = some none) (z1 : PySem.W.nsIn K mainGlobals "tuple" = some none) (z2 : PySem.W.nsIn K mainGlobals "list" = some none) (z3 : PySem.W.nsIn K mainGlobals "abs" = some none) (z4 : PySem.W.nsIn K mainGlobals "int" = some none) (z5 : PySem.W.nsIn K mainGlobals "all" = some none) (z6 : PySem.W.nsIn K mainGlobals "any" = some none) (z7 : PySem.W.nsIn K mainGlobals "repr" = some none) (z8 : PySem.W.nsIn K mainGlobals "sorted" = some none) (z9 : PySem.W.nsIn K mainGlobals "isinstance" = some none) (z10 : PySem.W.nsIn K mainGlobals "str" = some none) (z11 : PySem.W.nsIn K mainGlobals "bool" = some none) (z12 : PySem.W.nsIn K mainGlobals "dict" = some none) (z13 : PySem.W.nsIn K mainGlobals "range" = some none) (z14 : PySem.W.nsIn K mainGlobals "enumerate" = some none) (z15 : PySem.W.nsIn K mainGlobals "zip" = some none) :
    ∃ fd : FuncData, (∀ (s : Shared) (v : Value), BindsTo s fd ⟨[v], []⟩ [("_law_script", v)]) ∧ ∀ base : Heap, K.In base → base.Ns mainGlobals mg → (∃ mm, base.Ns sysModules mm) → FnG P w K mg base k fa fd ["_law_script"] (spF ⟨K, cl⟩ (callN fds k) 6 1) := by
  have e := hfa.symm.trans (PySem.W.mg_of X G a6)
  cases e
  have S0 := st0 X G a0 l0 c0 k0
  have S1 := st1 X G a1 l1 c1 k1
  have S2 := st2 X G a2 l2 c2 k2
  have S3 := st3 X G a3 l3 c3 k3
  have S4 := st4 X G a4 l4 c4 k4
  have S5 := st5 X G a5 l5 c5 k5
  have S6 := st6 X G a6 l6 c6 k6
  refine ⟨_, fun s v => .of_eq rfl, fun base _ _ hm => defs_ok (G := ⟨K, cl⟩) hT (stands ⟨_, _, S0⟩ ⟨_, _, S1⟩ ⟨_, _, S2⟩ ⟨_, _, S3⟩ ⟨_, _, S4⟩ ⟨_, _, S5⟩ ⟨_, _, S6⟩) (fun x hx => ?_) hm k 6 d6 _ _ rfl S6⟩
  simp only [bltN, List.mem_cons, List.not_mem_nil, or_false] at hx
  rcases hx with rfl | rfl | rfl | rfl | rfl | rfl | rfl | rfl | rfl | rfl | rfl | rfl | rfl | rfl | rfl | rfl
  · exact PySem.W.mg_none_of X G z0
  · exact PySem.W.mg_none_of X G z1
  · exact PySem.W.mg_none_of X G z2
  · exact PySem.W.mg_none_of X G z3
  · exact PySem.W.mg_none_of X G z4
  · exact PySem.W.mg_none_of X G z5
  · exact PySem.W.mg_none_of X G z6
  · exact PySem.W.mg_none_of X G z7
  · exact PySem.W.mg_none_of X G z8
  · exact PySem.W.mg_none_of X G z9
  · exact PySem.W.mg_none_of X G z10
  · exact PySem.W.mg_none_of X G z11
  · exact PySem.W.mg_none_of X G z12
  · exact PySem.W.mg_none_of X G z13
  · exact PySem.W.mg_none_of X G z14
  · exact PySem.W.mg_none_of X G z15

end Lk02
open PySem PySem.W PyProof.Rows
set_option maxHeartbeats 0 in
theorem PySem.Challenge.cw_backstacks_k02_taps_that_can_be_tapped_holds : PySem.Challenge.rw_backstacks_k02_taps_that_can_be_tapped.Holds := by
  w_on; o_law; k_head; (case hw => w_witness2)
  k_fill
  refine Pv.walk_g (l := PySem.Challenge.rw_backstacks_k02_taps_that_can_be_tapped) (n := 63) (k := 12) (x := "_law_script") (sp := fun G => Pv.spF G (Pv.callN Lk02.fds 12) 6 1) (cl := fun _ _ => none) rfl (by decide) rfl (Pv.room_law (by decide)) (by decide +kernel) (fun w h Y => PySem.W.kIn_of Y) ?F (fun G H a ns hl hb hS => Pv.sp_law rfl hS (Lk02.law_true ns hl hb))
  case F =>
    intro w mg fa h KX G hmg
    refine' Lk02.all_mk 12 KX G hmg ?a0 ?l0 ?c0 ?k0 ?a1 ?l1 ?c1 ?k1 ?a2 ?l2 ?c2 ?k2 ?a3 ?l3 ?c3 ?k3 ?a4 ?l4 ?c4 ?k4 ?a5 ?l5 ?c5 ?k5 ?a6 ?l6 ?c6 ?k6 ?z0 ?z1 ?z2 ?z3 ?z4 ?z5 ?z6 ?z7 ?z8 ?z9 ?z10 ?z11 ?z12 ?z13 ?z14 ?z15
    (case a0 => k_is); (case l0 => k_is); (case c0 => k_is); (case k0 => k_is)
    (case a1 => k_is); (case l1 => k_is); (case c1 => k_is); (case k1 => k_is)
    (case a2 => k_is); (case l2 => k_is); (case c2 => k_is); (case k2 => k_is)
    (case a3 => k_is); (case l3 => k_is); (case c3 => k_is); (case k3 => k_is)
    (case a4 => k_is); (case l4 => k_is); (case c4 => k_is); (case k4 => k_is)
    (case a5 => k_is); (case l5 => k_is); (case c5 => k_is); (case k5 => k_is)
    (case a6 => k_is); (case l6 => k_is); (case c6 => k_is); (case k6 => k_is)
    (case z0 => k_is); (case z1 => k_is); (case z2 => k_is); (case z3 => k_is); (case z4 => k_is); (case z5 => k_is); (case z6 => k_is); (case z7 => k_is); (case z8 => k_is); (case z9 => k_is); (case z10 => k_is); (case z11 => k_is); (case z12 => k_is); (case z13 => k_is); (case z14 => k_is); (case z15 => k_is)
end
