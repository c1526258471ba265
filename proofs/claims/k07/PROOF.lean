import PyProof.Rows.All
import Wide.All
import OpenK.AllK
import Wide.FinOn
import PySem.Challenge.RW_backstacks_k07_whole_rows_of_taps
import HandS.ForMost
import HandS.ForExc
import HandS.Deep
import HandS.TupAny
import KE.DataCmp
import PyProof.ReprRoads
import HandS.Style
import HandS.Wide
import HandS.TupMul
import HandS.IsInst
import KE.SortData
import HandS.AnyAll
import HandS.Text
import KE.GoesEnum
import HandS.Zip
import HandS.Flow
import HandS.Star
import HandS.TryOnly
import HandS.EndBits
set_option Elab.async false
set_option linter.all false
section
set_option maxRecDepth 10000
set_option maxHeartbeats 4000000
namespace Pv
open PySem PySem.Spec L2
open PyProof.Rows hiding St

/-! ## values of the evaluator -/
/-- a value: plain data (frozen), a place in the store, or the script -/
inductive W where
  | p (d : PyData)
  | r (n : Nat)
  | s (ns : List Int)

/-- what lies at a place of the store -/
inductive Ob where
  | l (ws : List W)
abbrev Sto := List Ob
abbrev Tau := List (Option W)

/-! ## how data lie in the abstract heap -/
/-- the places of the store; all that may still be changed by someone -/
structure Pl where
  ρ : List Addr
  φ : List Addr

/-- a list that nobody changes -/
def FL (K : PySem.W.Frag) (H : Hp) (ρ : Pl) (a : Addr) (xs : List V) : Prop := (Rd H a (.lst xs) ∧ a ∉ ρ.φ) ∨ SqL K (fun _ => none) a xs
def FT (K : PySem.W.Frag) (H : Hp) (ρ : Pl) (a : Addr) (xs : List V) : Prop := (Rd H a (.tup xs) ∧ a ∉ ρ.φ) ∨ SqT K (fun _ => none) a xs
mutual
inductive DF (K : PySem.W.Frag) (H : Hp) (ρ : Pl) : PyData → V → Prop
  | non : DF K H ρ .none .non
  | bl (b : Bool) : DF K H ρ (.bool b) (.bl b)
  | int (i : Int) : DF K H ρ (.int i) (.int i)
  | str (x : Str) : DF K H ρ (.str x) (.str x)
  | lst {a : Addr} {xs : List V} {ds : List PyData} : H a = some (.lst xs) → a ∉ ρ.φ → DFs K H ρ ds xs → DF K H ρ (.list ds) (.ref a)
  | tup {a : Addr} {xs : List V} {ds : List PyData} : FT K H ρ a xs → DFs K H ρ ds xs → DF K H ρ (.tuple ds) (.ref a)
  | dic {a : Addr} {kvs : List (Key × V)} {ds : List (PyData × PyData)} : H a = some (.dK kvs) → a ∉ ρ.φ → DFk K H ρ ds kvs → DF K H ρ (.dict ds) (.ref a)
inductive DFs (K : PySem.W.Frag) (H : Hp) (ρ : Pl) : List PyData → List V → Prop
  | nil : DFs K H ρ [] []
  | cons {d : PyData} {ds : List PyData} {v : V} {vs : List V} : DF K H ρ d v → DFs K H ρ ds vs → DFs K H ρ (d :: ds) (v :: vs)
inductive DFk (K : PySem.W.Frag) (H : Hp) (ρ : Pl) : List (PyData × PyData) → List (Key × V) → Prop
  | nil : DFk K H ρ [] []
  | cons {d e : PyData} {ds : List (PyData × PyData)} {k : Key} {v : V} {vs : List (Key × V)} : DF K H ρ d (kV k) → DF K H ρ e v → DFk K H ρ ds vs → DFk K H ρ ((d, e) :: ds) ((k, v) :: vs)
end

def RW (K : PySem.W.Frag) (H : Hp) (ρ : Pl) : W → V → Prop
  | .p d, v => DF K H ρ d v
  | .r n, v => ∃ a, ρ.ρ[n]? = some a ∧ v = .ref a
  | .s ns, v => ∃ a, v = .ref a ∧ FL K H ρ a (ns.map V.int)
abbrev RWs (K : PySem.W.Frag) (H : Hp) (ρ : Pl) : List W → List V → Prop := Paired (RW K H ρ)

/-- the store lies in the abstract heap, place n at ρ[n] -/
structure Sim (K : PySem.W.Frag) (ρ : Pl) (S : Sto) (H : Hp) : Prop where
  nd : ρ.ρ.Nodup
  len : ρ.ρ.length = S.length
  at_ : ∀ (n : Nat) (ws : List W), S[n]? = some (.l ws) → ∃ a xs, ρ.ρ[n]? = some a ∧ H a = some (.lst xs) ∧ RWs K H ρ ws xs
  sub : ∀ a, a ∈ ρ.ρ → a ∈ ρ.φ
  there : ∀ a, a ∈ ρ.φ → ∃ o, H a = some o
/-- what may have come about: new places, changes at places, new objects -/
structure Ext (ρ : Pl) (H : Hp) (ρ' : Pl) (H' : Hp) : Prop where
  pre : ∃ t, ρ'.ρ = ρ.ρ ++ t
  keep : ∀ a o, a ∉ ρ.ρ → H a = some o → H' a = some o
  newR : ∀ a, a ∈ ρ'.ρ → a ∈ ρ.ρ ∨ H a = none
  new : ∀ a, a ∈ ρ'.φ → a ∈ ρ.φ ∨ H a = none
  old : ∀ a, a ∈ ρ.φ → a ∈ ρ'.φ
  sub : ∀ a, a ∈ ρ.ρ → a ∈ ρ.φ

theorem Ext.refl {ρ : Pl} {H : Hp} (s : ∀ a, a ∈ ρ.ρ → a ∈ ρ.φ) : Ext ρ H ρ H := ⟨⟨[], by simp⟩, fun _ _ _ h => h, fun _ h => .inl h, fun _ h => .inl h, fun _ h => h, s⟩
theorem Ext.notin {ρ ρ' : Pl} {H H' : Hp} (e : Ext ρ H ρ' H') {a : Addr} {o : HO} (h : a ∉ ρ.φ) (ho : H a = some o) : a ∉ ρ'.φ := fun z => by
  rcases e.new a z with q | q
  · exact h q
  · rw [q] at ho; cases ho
theorem Ext.notinR {ρ ρ' : Pl} {H H' : Hp} (e : Ext ρ H ρ' H') {a : Addr} {o : HO} (h : a ∉ ρ.ρ) (ho : H a = some o) : a ∉ ρ'.ρ := fun z => by
  rcases e.newR a z with q | q
  · exact h q
  · rw [q] at ho; cases ho
theorem Ext.kept {ρ ρ' : Pl} {H H' : Hp} (e : Ext ρ H ρ' H') {a : Addr} {o : HO} (h : a ∉ ρ.φ) (ho : H a = some o) : H' a = some o := e.keep a o (fun z => h (e.sub a z)) ho
theorem Ext.trans {ρ ρ1 ρ2 : Pl} {H H1 H2 : Hp} (a : Ext ρ H ρ1 H1) (b : Ext ρ1 H1 ρ2 H2) : Ext ρ H ρ2 H2 where
  pre := by
    obtain ⟨t, h1⟩ := a.pre
    obtain ⟨t', h2⟩ := b.pre
    exact ⟨t ++ t', by rw [h2, h1]; simp⟩
  keep := fun c o n h => b.keep c o (a.notinR n h) (a.keep c o n h)
  newR := fun c hc => by
    rcases b.newR c hc with q | q
    · exact a.newR c q
    · by_cases hr : c ∈ ρ.ρ
      · exact .inl hr
      · cases ho : H c with
        | none => exact .inr rfl
        | some o => rw [a.keep c o hr ho] at q; cases q
  new := fun c hc => by
    rcases b.new c hc with q | q
    · exact a.new c q
    · by_cases hr : c ∈ ρ.ρ
      · exact .inl (a.sub c hr)
      · cases ho : H c with
        | none => exact .inr rfl
        | some o => rw [a.keep c o hr ho] at q; cases q
  old := fun c h => b.old c (a.old c h)
  sub := a.sub

/-- what frozen things lean on -/
structure Kp (ρ : Pl) (H : Hp) (ρ' : Pl) (H' : Hp) : Prop where
  pre : ∃ t, ρ'.ρ = ρ.ρ ++ t
  kept : ∀ {a : Addr} {o : HO}, a ∉ ρ.φ → H a = some o → H' a = some o
  notin : ∀ {a : Addr} {o : HO}, a ∉ ρ.φ → H a = some o → a ∉ ρ'.φ
theorem Ext.kp {ρ ρ' : Pl} {H H' : Hp} (e : Ext ρ H ρ' H') : Kp ρ H ρ' H' := ⟨e.pre, fun h => e.kept h, fun h => e.notin h⟩
instance {ρ ρ' : Pl} {H H' : Hp} : CoeOut (Ext ρ H ρ' H') (Kp ρ H ρ' H') := ⟨Ext.kp⟩
section
variable {K : PySem.W.Frag} {ρ ρ' : Pl} {H H' : Hp}
theorem FL.ext (e : Kp ρ H ρ' H') {a : Addr} {xs : List V} (h : FL K H ρ a xs) : FL K H' ρ' a xs := by
  rcases h with ⟨h | ⟨o, h⟩, n⟩ | h
  · exact .inl ⟨.inl (e.kept n h), e.notin n h⟩
  · exact .inl ⟨.inr ⟨o, e.kept n h⟩, e.notin n h⟩
  · exact .inr h
theorem FT.ext (e : Kp ρ H ρ' H') {a : Addr} {xs : List V} (h : FT K H ρ a xs) : FT K H' ρ' a xs := by
  rcases h with ⟨h | ⟨o, h⟩, n⟩ | h
  · exact .inl ⟨.inl (e.kept n h), e.notin n h⟩
  · exact .inl ⟨.inr ⟨o, e.kept n h⟩, e.notin n h⟩
  · exact .inr h
theorem FL.sq {a : Addr} {xs : List V} (h : FL K H ρ a xs) : SqL K H a xs := by
  rcases h with ⟨h, _⟩ | (⟨h | ⟨o, h⟩⟩ | h)
  · exact .inl h
  · cases h
  · cases h
  · exact .inr h
theorem FT.sq {a : Addr} {xs : List V} (h : FT K H ρ a xs) : SqT K H a xs := by
  rcases h with ⟨h, _⟩ | (⟨h | ⟨o, h⟩⟩ | h)
  · exact .inl h
  · cases h
  · cases h
  · exact .inr h
mutual
theorem DF.ext (e : Kp ρ H ρ' H') : ∀ {d : PyData} {v : V}, DF K H ρ d v → DF K H' ρ' d v
  | _, _, .non => .non
  | _, _, .bl b => .bl b
  | _, _, .int i => .int i
  | _, _, .str x => .str x
  | _, _, .lst h n t => .lst (e.kept n h) (e.notin n h) (DFs.ext e t)
  | _, _, .tup h t => .tup (h.ext e) (DFs.ext e t)
  | _, _, .dic h n t => .dic (e.kept n h) (e.notin n h) (DFk.ext e t)
theorem DFs.ext (e : Kp ρ H ρ' H') : ∀ {d : List PyData} {v : List V}, DFs K H ρ d v → DFs K H' ρ' d v
  | _, _, .nil => .nil
  | _, _, .cons h t => .cons (DF.ext e h) (DFs.ext e t)
theorem DFk.ext (e : Kp ρ H ρ' H') : ∀ {d : List (PyData × PyData)} {v : List (Key × V)}, DFk K H ρ d v → DFk K H' ρ' d v
  | _, _, .nil => .nil
  | _, _, .cons h g t => .cons (DF.ext e h) (DF.ext e g) (DFk.ext e t)
end
/-- fewer places: more is frozen -/
theorem FL.fewer (s : ∀ a, a ∈ ρ'.φ → a ∈ ρ.φ) {a : Addr} {xs : List V} (h : FL K H ρ a xs) : FL K H ρ' a xs := by
  rcases h with ⟨h, n⟩ | h
  · exact .inl ⟨h, fun z => n (s _ z)⟩
  · exact .inr h
theorem FT.fewer (s : ∀ a, a ∈ ρ'.φ → a ∈ ρ.φ) {a : Addr} {xs : List V} (h : FT K H ρ a xs) : FT K H ρ' a xs := by
  rcases h with ⟨h, n⟩ | h
  · exact .inl ⟨h, fun z => n (s _ z)⟩
  · exact .inr h
mutual
theorem DF.fewer (s : ∀ a, a ∈ ρ'.φ → a ∈ ρ.φ) : ∀ {d : PyData} {v : V}, DF K H ρ d v → DF K H ρ' d v
  | _, _, .non => .non
  | _, _, .bl b => .bl b
  | _, _, .int i => .int i
  | _, _, .str x => .str x
  | _, _, .lst h n t => .lst h (fun z => n (s _ z)) (DFs.fewer s t)
  | _, _, .tup h t => .tup (h.fewer s) (DFs.fewer s t)
  | _, _, .dic h n t => .dic h (fun z => n (s _ z)) (DFk.fewer s t)
theorem DFs.fewer (s : ∀ a, a ∈ ρ'.φ → a ∈ ρ.φ) : ∀ {d : List PyData} {v : List V}, DFs K H ρ d v → DFs K H ρ' d v
  | _, _, .nil => .nil
  | _, _, .cons h t => .cons (DF.fewer s h) (DFs.fewer s t)
theorem DFk.fewer (s : ∀ a, a ∈ ρ'.φ → a ∈ ρ.φ) : ∀ {d : List (PyData × PyData)} {v : List (Key × V)}, DFk K H ρ d v → DFk K H ρ' d v
  | _, _, .nil => .nil
  | _, _, .cons h g t => .cons (DF.fewer s h) (DF.fewer s g) (DFk.fewer s t)
end
theorem RW.ext (e : Kp ρ H ρ' H') {w : W} {v : V} (h : RW K H ρ w v) : RW K H' ρ' w v := by
  cases w with
  | p d => exact DF.ext e h
  | r n =>
    obtain ⟨a, h, rfl⟩ := h
    obtain ⟨t, ht⟩ := e.pre
    refine ⟨a, ?_, rfl⟩
    have : n < ρ.ρ.length := (List.getElem?_eq_some_iff.mp h).1
    rw [ht, List.getElem?_append_left this]
    exact h
  | s ns =>
    obtain ⟨a, rfl, h⟩ := h
    exact ⟨a, rfl, h.ext e⟩
theorem Paired.imp {α β : Type} {F G : α → β → Prop} (f : ∀ a b, F a b → G a b) : ∀ {l : List α} {m : List β}, Paired F l m → Paired G l m
  | _, _, .nil => .nil
  | _, _, .cons h t => .cons (f _ _ h) (Paired.imp f t)
theorem RWs.ext (e : Kp ρ H ρ' H') {w : List W} {v : List V} (h : RWs K H ρ w v) : RWs K H' ρ' w v := Paired.imp (fun _ _ => RW.ext e) h
theorem DFs.rws : ∀ {ds : List PyData} {xs : List V}, DFs K H ρ ds xs → RWs K H ρ (ds.map W.p) xs
  | _, _, .nil => .nil
  | _, _, .cons h t => .cons h (DFs.rws t)
theorem DFs.of_rws : ∀ {ds : List PyData} {xs : List V}, RWs K H ρ (ds.map W.p) xs → DFs K H ρ ds xs
  | [], _, .nil => .nil
  | _ :: _, _, .cons h t => .cons h (DFs.of_rws t)
theorem DFs.length {ds : List PyData} {xs : List V} (h : DFs K H ρ ds xs) : ds.length = xs.length := by
  have := Paired.length h.rws
  simpa using this
end

/-! ## the slots -/
def EnvR (K : PySem.W.Frag) (H : Hp) (ρ : Pl) (τ : Tau) (σ : St) : Prop := τ.length = σ.length ∧ ∀ (i : Nat) (w : W), τ[i]? = some (some w) → ∃ v, σ[i]? = some (some v) ∧ RW K H ρ w v
theorem EnvR.ext {K : PySem.W.Frag} {ρ ρ' : Pl} {H H' : Hp} {τ : Tau} {σ : St} (e : Kp ρ H ρ' H') (h : EnvR K H ρ τ σ) : EnvR K H' ρ' τ σ :=
  ⟨h.1, fun i w q => let ⟨v, a, b⟩ := h.2 i w q; ⟨v, a, b.ext e⟩⟩
theorem EnvR.set {K : PySem.W.Frag} {ρ : Pl} {H : Hp} {τ : Tau} {σ : St} (h : EnvR K H ρ τ σ) {w : W} {v : V} (r : RW K H ρ w v) (i : Nat) : EnvR K H ρ (τ.set i (some w)) (σ.set i (some v)) := by
  refine ⟨by simp [h.1], fun j w' q => ?_⟩
  by_cases hij : i = j
  · subst hij
    have hl : i < τ.length := by
      have := (List.getElem?_eq_some_iff.mp q).1
      simpa using this
    rw [List.getElem?_set_self hl] at q
    cases q
    exact ⟨v, List.getElem?_set_self (by rw [← h.1]; exact hl), r⟩
  · rw [List.getElem?_set_ne hij] at q
    obtain ⟨v', a, b⟩ := h.2 j w' q
    exact ⟨v', by rw [List.getElem?_set_ne hij]; exact a, b⟩

/-! ## results -/
/-- an exception of the program: its class by number, its fields -/
structure Xc where
  c : Nat
  ws : List W
inductive R (α : Type) where
  | ok (a : α) (S : Sto)
  | exc (x : Xc) (S : Sto)
  | bad
def R.bind {α β : Type} (r : R α) (f : α → Sto → R β) : R β := match r with
  | .ok a S => f a S
  | .exc x S => .exc x S
  | .bad => .bad
inductive RS where
  | nx (τ : Tau) (S : Sto)
  | ret (w : W) (S : Sto)
  | bk (τ : Tau) (S : Sto)
  | ct (τ : Tau) (S : Sto)
  | exc (x : Xc) (τ : Tau) (S : Sto)
  | bad

/-- what stands of the module: the written part, the classes of exceptions by number -/
structure Gk where
  K : PySem.W.Frag
  cl : Nat → Option (Addr × List Str)
/-- an exception lies so -/
def XR (G : Gk) (H : Hp) (ρ : Pl) (x : Xc) (cls : Value) (d : Option Addr) : Prop :=
  ∃ C fs, G.cl x.c = some (C, fs) ∧ cls = .ref C ∧ fs.length = x.ws.length ∧ ((fs = [] ∧ d = none) ∨ ∃ dx vs, d = some dx ∧ H dx = some (.xd (fs.zip vs)) ∧ dx ∉ ρ.φ ∧ RWs G.K H ρ x.ws vs)

section
variable (G : Gk) (Wx : WX)
def Post (σ : St) (ρ : Pl) (H : Hp) {α β : Type} (rel : Hp → Pl → α → β → Prop) (r : R α) (Q : β → Hp → Prop) : Prop := match r with
  | .ok a S => ∀ v H' ρ', Ext ρ H ρ' H' → Sim G.K ρ' S H' → rel H' ρ' a v → Q v H'
  | .exc x S => ∀ cls d H' ρ', Ext ρ H ρ' H' → Sim G.K ρ' S H' → XR G H' ρ' x cls d → Wx cls d σ H'
  | .bad => False
end
section
variable {G : Gk} {Wx : WX} {σ : St} {ρ ρ' : Pl} {H H' : Hp}
theorem Post.ext {α β : Type} {rel : Hp → Pl → α → β → Prop} {r : R α} {Q : β → Hp → Prop} (e : Ext ρ H ρ' H') (h : Post G Wx σ ρ H rel r Q) : Post G Wx σ ρ' H' rel r Q := by
  cases r with
  | ok a S => exact fun v H2 ρ2 e2 s q => h v H2 ρ2 (e.trans e2) s q
  | exc x S => exact fun c d H2 ρ2 e2 s q => h c d H2 ρ2 (e.trans e2) s q
  | bad => exact h
theorem Post.bind {α β γ δ : Type} {rel : Hp → Pl → α → β → Prop} {rel' : Hp → Pl → γ → δ → Prop} {r : R α} {f : α → Sto → R γ} {Q : δ → Hp → Prop} (h : Post G Wx σ ρ H rel' (r.bind f) Q) :
    Post G Wx σ ρ H rel r fun v H1 => ∃ ρ1 a S1, Ext ρ H ρ1 H1 ∧ Sim G.K ρ1 S1 H1 ∧ rel H1 ρ1 a v ∧ Post G Wx σ ρ1 H1 rel' (f a S1) Q := by
  cases r with
  | ok a S => exact fun v H1 ρ1 e s q => ⟨ρ1, a, S, e, s, q, Post.ext e h⟩
  | exc x S => exact h
  | bad => exact h
theorem Post.imp {α β : Type} {rel : Hp → Pl → α → β → Prop} {r : R α} {Q Q' : β → Hp → Prop} (h : Post G Wx σ ρ H rel r Q) (i : ∀ v H', Q v H' → Q' v H') : Post G Wx σ ρ H rel r Q' := by
  cases r with
  | ok a S => exact fun v H1 ρ1 e s q => i _ _ (h v H1 ρ1 e s q)
  | exc x S => exact h
  | bad => exact h
/-- a value at hand -/
theorem Post.done {α β : Type} {rel : Hp → Pl → α → β → Prop} {a : α} {S : Sto} {Q : β → Hp → Prop} {v : β} (h : Post G Wx σ ρ H rel (.ok a S) Q) (s : Sim G.K ρ S H) (q : rel H ρ a v) : Q v H := h v H ρ (Ext.refl s.sub) s q
end
end Pv
end

section
set_option maxRecDepth 10000
set_option maxHeartbeats 4000000
namespace Pv
open PySem PySem.Spec L2
open PyProof.Rows hiding St

/-! ## new objects -/
section
variable {K : PySem.W.Frag} {ρ : Pl} {H : Hp} {S : Sto}
theorem Sim.ne (s : Sim K ρ S H) {p : Addr} (hp : H p = none) : p ∉ ρ.φ := fun h => by
  obtain ⟨o, ho⟩ := s.there _ h
  rw [hp] at ho; cases ho
theorem Ext.laid (s : ∀ a, a ∈ ρ.ρ → a ∈ ρ.φ) {p : Addr} {o : HO} (hp : H p = none) : Ext ρ H ρ (upd H p o) :=
  ⟨⟨[], by simp⟩, fun a u _ h => by rw [upd_ne (ne_of_none h hp)]; exact h, fun _ h => .inl h, fun _ h => .inl h, fun _ h => h, s⟩
theorem Sim.laid (s : Sim K ρ S H) {p : Addr} {o : HO} (hp : H p = none) : Sim K ρ S (upd H p o) := by
  have e : Ext ρ H ρ (upd H p o) := Ext.laid s.sub hp
  refine ⟨s.nd, s.len, fun n ws h => ?_, s.sub, fun a h => ?_⟩
  · obtain ⟨a, xs, h1, h2, h3⟩ := s.at_ n ws h
    exact ⟨a, xs, h1, by rw [upd_ne (ne_of_none h2 hp)]; exact h2, h3.ext e⟩
  · obtain ⟨u, hu⟩ := s.there a h
    exact ⟨u, by rw [upd_ne (ne_of_none hu hp)]; exact hu⟩
/-- a new frozen list, a new tuple -/
theorem DF.newL (s : Sim K ρ S H) {p : Addr} (hp : H p = none) {ds : List PyData} {xs : List V} (h : DFs K H ρ ds xs) : DF K (upd H p (.lst xs)) ρ (.list ds) (.ref p) :=
  .lst upd_same (s.ne hp) (h.ext (Ext.laid s.sub hp).kp)
theorem DF.newT (s : Sim K ρ S H) {p : Addr} (hp : H p = none) {ds : List PyData} {xs : List V} (h : DFs K H ρ ds xs) : DF K (upd H p (.tup xs)) ρ (.tuple ds) (.ref p) :=
  .tup (.inl ⟨.inl upd_same, s.ne hp⟩) (h.ext (Ext.laid s.sub hp).kp)
/-- the list at a place is changed -/
theorem Sim.write (s : Sim K ρ S H) {n : Nat} {a : Addr} (ha : ρ.ρ[n]? = some a) {ws : List W} {xs : List V} (h : RWs K H ρ ws xs) : Ext ρ H ρ (upd H a (.lst xs)) ∧ Sim K ρ (S.set n (.l ws)) (upd H a (.lst xs)) := by
  have hm : a ∈ ρ.ρ := List.mem_of_getElem? ha
  have e : Ext ρ H ρ (upd H a (.lst xs)) := ⟨⟨[], by simp⟩, fun b u hb hu => by rw [upd_ne (fun z : b = a => hb (by rw [z]; exact hm))]; exact hu, fun _ h => .inl h, fun _ h => .inl h, fun _ h => h, s.sub⟩
  have hn : n < ρ.ρ.length := (List.getElem?_eq_some_iff.mp ha).1
  refine ⟨e, s.nd, by simp [s.len], fun m ws' hm' => ?_, s.sub, fun b hb => ?_⟩
  · by_cases hmn : n = m
    · subst hmn
      rw [List.getElem?_set_self (by rw [← s.len]; exact hn)] at hm'
      cases hm'
      exact ⟨a, xs, ha, upd_same, h.ext e⟩
    · rw [List.getElem?_set_ne hmn] at hm'
      obtain ⟨b, ys, h1, h2, h3⟩ := s.at_ m ws' hm'
      have hb : b ≠ a := fun z => by
        subst z
        have hm2 : m < ρ.ρ.length := (List.getElem?_eq_some_iff.mp h1).1
        have e1 := (List.getElem?_eq_some_iff.mp h1).2
        have e2 := (List.getElem?_eq_some_iff.mp ha).2
        exact hmn ((List.getElem_inj s.nd).mp (e2.trans e1.symm))
      exact ⟨b, ys, h1, by rw [upd_ne hb]; exact h2, h3.ext e⟩
  · by_cases hba : b = a
    · exact ⟨_, by rw [hba]; exact upd_same⟩
    · obtain ⟨u, hu⟩ := s.there b hb
      exact ⟨u, by rw [upd_ne hba]; exact hu⟩
/-- a new place -/
def Pl.snoc (ρ : Pl) (p : Addr) : Pl := ⟨ρ.ρ ++ [p], p :: ρ.φ⟩
theorem Sim.new (s : Sim K ρ S H) {p : Addr} (hp : H p = none) {ws : List W} {xs : List V} (h : RWs K H ρ ws xs) :
    Ext ρ H (ρ.snoc p) (upd H p (.lst xs)) ∧ Sim K (ρ.snoc p) (S ++ [.l ws]) (upd H p (.lst xs)) := by
  have hn := s.ne hp
  have e : Ext ρ H (ρ.snoc p) (upd H p (.lst xs)) := ⟨⟨[p], rfl⟩, fun b u hb hu => by rw [upd_ne (ne_of_none hu hp)]; exact hu, fun b hb => by
      rcases List.mem_append.mp hb with q | q
      · exact .inl q
      · have : b = p := by simpa using q
        subst this; exact .inr hp, fun b hb => by
      rcases List.mem_cons.mp hb with q | q
      · subst q; exact .inr hp
      · exact .inl q, fun b hb => List.mem_cons_of_mem _ hb, s.sub⟩
  refine ⟨e, List.nodup_append.mpr ⟨s.nd, by simp, fun a ha b hb => ?_⟩, by simp [Pl.snoc, s.len], fun m ws' hm' => ?_, fun b hb => ?_, fun b hb => ?_⟩
  · have : b = p := by simpa using hb
    subst this
    exact fun z => hn (s.sub _ (z ▸ ha))
  · by_cases hm : m < S.length
    · rw [List.getElem?_append_left hm] at hm'
      obtain ⟨b, ys, h1, h2, h3⟩ := s.at_ m ws' hm'
      exact ⟨b, ys, by show (ρ.ρ ++ [p])[m]? = _; rw [List.getElem?_append_left (by rw [s.len]; exact hm)]; exact h1, by rw [upd_ne (ne_of_none h2 hp)]; exact h2, h3.ext e⟩
    · have hl : m < (S ++ [Ob.l ws]).length := (List.getElem?_eq_some_iff.mp hm').1
      have hm2 : m = S.length := by simp at hl; omega
      subst hm2
      simp at hm'
      subst hm'
      exact ⟨p, xs, by show (ρ.ρ ++ [p])[_]? = _; rw [← s.len]; simp, upd_same, h.ext e⟩
  · rcases List.mem_append.mp hb with q | q
    · exact List.mem_cons_of_mem _ (s.sub _ q)
    · have : b = p := by simpa using q
      subst this; exact List.mem_cons_self
  · rcases List.mem_cons.mp hb with q | q
    · subst q; exact ⟨_, upd_same⟩
    · obtain ⟨u, hu⟩ := s.there b q
      exact ⟨u, by rw [upd_ne (ne_of_none hu hp)]; exact hu⟩
end

/-! ## what a value holds -/
def lim : Nat := 8000000
theorem lim_le {n : Nat} (h : n ≤ lim) : n ≤ sizeLine := by rw [sizeLine_eq]; unfold lim at h; omega
theorem lim_lt {n : Nat} (h : n ≤ lim) : n < sizeLine := by rw [sizeLine_eq]; unfold lim at h; omega

def deP : List W → Option (List PyData)
  | [] => some []
  | .p d :: r => (deP r).map (d :: ·)
  | _ :: _ => none
/-- a list or a tuple of data: is it a tuple, its items -/
def seqP (S : Sto) : W → Option (Bool × List PyData)
  | .p (.list ds) => some (false, ds)
  | .p (.tuple ds) => some (true, ds)
  | .s ns => some (false, ns.map PyData.int)
  | .r n => match S[n]? with
    | some (.l ws) => (deP ws).map fun ds => (false, ds)
    | none => none
  | _ => none
section
variable {K : PySem.W.Frag} {ρ : Pl} {H : Hp} {S : Sto}
theorem deP_rep : ∀ {ws : List W} {xs : List V} {ds : List PyData}, RWs K H ρ ws xs → deP ws = some ds → ws = ds.map W.p ∧ DFs K H ρ ds xs
  | [], _, _, .nil, h => by cases h; exact ⟨rfl, .nil⟩
  | .p d :: r, _, ds, .cons h t, e => by
    unfold deP at e
    cases q : deP r with
    | none => rw [q] at e; cases e
    | some r' =>
      rw [q] at e; cases e
      obtain ⟨a, b⟩ := deP_rep t q
      exact ⟨by rw [a]; rfl, .cons h b⟩
  | .r _ :: _, _, _, _, e => by simp [deP] at e
  | .s _ :: _, _, _, _, e => by simp [deP] at e
theorem ints_df : ∀ {ns : List Int}, DFs K H ρ (ns.map PyData.int) (ns.map V.int)
  | [] => .nil
  | _ :: _ => .cons (.int _) ints_df
theorem seqP_rep (s : Sim K ρ S H) {w : W} {v : V} {b : Bool} {ds : List PyData} (r : RW K H ρ w v) (e : seqP S w = some (b, ds)) :
    ∃ a xs, v = .ref a ∧ DFs K H ρ ds xs ∧ ((b = true ∧ SqT K H a xs) ∨ (b = false ∧ SqL K H a xs)) := by
  cases w with
  | p d =>
    cases d with
    | list ds' => cases e; cases r with | lst h n t => exact ⟨_, _, rfl, t, .inr ⟨rfl, .of h⟩⟩
    | tuple ds' => cases e; cases r with | tup h t => exact ⟨_, _, rfl, t, .inl ⟨rfl, h.sq⟩⟩
    | _ => cases e
  | s ns =>
    cases e
    obtain ⟨a, rfl, h⟩ := r
    exact ⟨a, _, rfl, ints_df, .inr ⟨rfl, h.sq⟩⟩
  | r n =>
    obtain ⟨a, ha, rfl⟩ := r
    unfold seqP at e
    cases q : S[n]? with
    | none => simp [q] at e
    | some o =>
      obtain ⟨ws⟩ := o
      cases e1 : deP ws with
      | none => simp [q, e1] at e
      | some ds' =>
      simp [q, e1] at e
      obtain ⟨rfl, rfl⟩ := e
      obtain ⟨a', xs, h1, h2, h3⟩ := s.at_ n ws q
      rw [ha] at h1; cases h1
      exact ⟨a, xs, rfl, (deP_rep h3 e1).2, .inr ⟨rfl, .of h2⟩⟩
end

/-! ## results without exceptions -/
def PO (G : Gk) (ρ : Pl) (H : Hp) (o : Option (W × Sto)) (Q : VK) : Prop := match o with
  | some (w, S) => ∀ v H' ρ', Ext ρ H ρ' H' → Sim G.K ρ' S H' → RW G.K H' ρ' w v → Q v H'
  | none => False
theorem PO.done {G : Gk} {ρ : Pl} {H : Hp} {w : W} {S : Sto} {Q : VK} {v : V} (h : PO G ρ H (some (w, S)) Q) (s : Sim G.K ρ S H) (r : RW G.K H ρ w v) : Q v H := h v H ρ (Ext.refl s.sub) s r
theorem PO.laid {G : Gk} {ρ : Pl} {H : Hp} {w : W} {S : Sto} {Q : VK} {p : Addr} {o : HO} (h : PO G ρ H (some (w, S)) Q) (s : Sim G.K ρ S H) (hp : H p = none) (r : RW G.K (upd H p o) ρ w (.ref p)) : Q (.ref p) (upd H p o) :=
  h _ _ ρ (Ext.laid s.sub hp) (s.laid hp) r
/-- a binary operation on values -/
abbrev F2 := Sto → W → W → Option (W × Sto)
def rF2 (G : Gk) (f : F2) : R2 := fun x y H Q => ∃ ρ S wx wy, Sim G.K ρ S H ∧ RW G.K H ρ wx x ∧ RW G.K H ρ wy y ∧ PO G ρ H (f S wx wy) Q
/-- a call by values -/
abbrev FL1 := Sto → List W → Option (W × Sto)
def rFn (G : Gk) (f : FL1) : List V → Hp → VK → Prop := fun xs H Q => ∃ ρ S ws, Sim G.K ρ S H ∧ RWs G.K H ρ ws xs ∧ PO G ρ H (f S ws) Q
def rFm (G : Gk) (f : Sto → W → List W → Option (W × Sto)) : V → List V → Hp → VK → Prop := fun x xs H Q => ∃ ρ S w ws, Sim G.K ρ S H ∧ RW G.K H ρ w x ∧ RWs G.K H ρ ws xs ∧ PO G ρ H (f S w ws) Q

theorem OpR.imp {X : Cx} {f : Value → Value → Sem Value} {r r' : R2} (h : OpR X f r) (i : ∀ x y H Q, r' x y H Q → r x y H Q) : OpR X f r' :=
  fun pins s σ H x y v u Q I rx ry q => h pins s σ H x y v u Q I rx ry (i _ _ _ _ q)

/-! ### + -/
/-- a list's items, of a list that may change as well -/
def lsP (S : Sto) : W → Option (List PyData)
  | .p (.list ds) => some ds
  | .r n => match S[n]? with
    | some (.l ws) => deP ws
    | none => none
  | _ => none
theorem lsP_rep {K : PySem.W.Frag} {ρ : Pl} {S : Sto} {H : Hp} (s : Sim K ρ S H) {w : W} {v : V} {ds : List PyData} (r : RW K H ρ w v) (e : lsP S w = some ds) : ∃ a xs, v = .ref a ∧ H a = some (.lst xs) ∧ DFs K H ρ ds xs := by
  cases w with
  | p d =>
    cases d with
    | list ds' => cases e; cases r with | lst h n t => exact ⟨_, _, rfl, h, t⟩
    | _ => cases e
  | s ns => cases e
  | r n =>
    obtain ⟨a, ha, rfl⟩ := r
    unfold lsP at e
    dsimp only at e
    cases q : S[n]? with
    | none => rw [q] at e; cases e
    | some o =>
      obtain ⟨ws⟩ := o
      rw [q] at e
      obtain ⟨a', xs, h1, h2, h3⟩ := s.at_ n ws q
      rw [ha] at h1
      cases h1
      exact ⟨a, xs, rfl, h2, (deP_rep h3 e).2⟩
def fAdd : F2 := fun S x y => match x, y with
  | .p (.int i), .p (.int j) => some (.p (.int (i + j)), S)
  | .p (.str a), .p (.str b) => if a.length + b.length ≤ lim then some (.p (.str (a ++ b)), S) else none
  | .p (.tuple a), .p (.tuple b) => if a.length + b.length ≤ lim then some (.p (.tuple (a ++ b)), S) else none
  | .p (.list a), .p (.list b) => if a.length + b.length ≤ lim then some (.p (.list (a ++ b)), S) else none
  | x, y => match lsP S x, lsP S y with
    | some a, some b => if a.length + b.length ≤ lim then some (.p (.list (a ++ b)), S) else none
    | _, _ => none
theorem DFs.append {K : PySem.W.Frag} {H : Hp} {ρ : Pl} : ∀ {ds es : List PyData} {xs ys : List V}, DFs K H ρ ds xs → DFs K H ρ es ys → DFs K H ρ (ds ++ es) (xs ++ ys)
  | _, _, _, _, .nil, h => h
  | _, _, _, _, .cons a t, h => .cons a (DFs.append t h)
theorem DFs.nil_iff {K : PySem.W.Frag} {H : Hp} {ρ : Pl} {ds : List PyData} {xs : List V} (h : DFs K H ρ ds xs) : xs = [] ↔ ds = [] := by
  cases h <;> simp
theorem fAdd_ok {X : Cx} {G : Gk} (hK : X.K = G.K) : OpR X (binaryOp .Add) (rF2 G fAdd) := by
  refine OpR.imp ((op_add (X := X)).or ((op_add_str (X := X)).or ((op_catA (X := X)).or (op_cat (X := X))))) fun x y H Q h => ?_
  obtain ⟨ρ, S, wx, wy, s, rx, ry, h⟩ := h
  unfold fAdd at h
  split at h
  · cases rx; cases ry
    exact .inl ⟨_, _, rfl, rfl, h.done s (.int _)⟩
  · cases rx; cases ry
    split at h
    · rename_i hl
      exact .inr (.inl ⟨_, _, rfl, rfl, lim_le hl, h.done s (.str _)⟩)
    · exact h.elim
  · split at h
    · rename_i hl
      cases rx with | tup h1 t1 => cases ry with | tup h2 t2 =>
      refine .inr (.inr (.inl ⟨_, _, _, _, rfl, rfl, hK ▸ h1.sq, hK ▸ h2.sq, lim_le (by rw [← t1.length, ← t2.length]; exact hl), fun e => ?_, fun e1 e2 => ?_, fun e1 e2 p hp => ?_⟩))
      · have e' := t1.nil_iff.mp e
        subst e'
        exact h.done s (.tup h2 t2)
      · have e' := t2.nil_iff.mp e2
        subst e'
        rw [List.append_nil] at h
        exact h.done s (.tup h1 t1)
      · exact h.laid s hp (DF.newT s hp (t1.append t2))
    · exact h.elim
  · split at h
    · rename_i hl
      obtain ⟨p1, xs, rfl, h1, t1⟩ := lsP_rep s rx rfl
      obtain ⟨p2, ys, rfl, h2, t2⟩ := lsP_rep s ry rfl
      exact .inr (.inr (.inr ⟨_, _, _, _, rfl, rfl, h1, h2, lim_le (by rw [← t1.length, ← t2.length]; exact hl), fun p hp => h.laid s hp (DF.newL s hp (t1.append t2))⟩))
    · exact h.elim
  · split at h
    · rename_i a b e1 e2
      split at h
      · rename_i hl
        obtain ⟨p1, xs, rfl, h1, t1⟩ := lsP_rep s rx e1
        obtain ⟨p2, ys, rfl, h2, t2⟩ := lsP_rep s ry e2
        exact .inr (.inr (.inr ⟨_, _, _, _, rfl, rfl, h1, h2, lim_le (by rw [← t1.length, ← t2.length]; exact hl), fun p hp => h.laid s hp (DF.newL s hp (t1.append t2))⟩))
      · exact h.elim
    · exact h.elim
def fSub : F2 := fun S x y => match x, y with
  | .p (.int i), .p (.int j) => some (.p (.int (i - j)), S)
  | _, _ => none
theorem fSub_ok {X : Cx} {G : Gk} : OpR X (binaryOp .Sub) (rF2 G fSub) := by
  refine OpR.imp (op_sub (X := X)) fun x y H Q h => ?_
  obtain ⟨ρ, S, wx, wy, s, rx, ry, h⟩ := h
  unfold fSub at h
  split at h
  · cases rx; cases ry
    exact ⟨_, _, rfl, rfl, h.done s (.int _)⟩
  · exact h.elim
/-! ### * -/
def small (i : Int) : Bool := decide (-(2 ^ 64) < i ∧ i < 2 ^ 64)
def repD (n : Nat) (ds : List PyData) : List PyData := (List.replicate n ds).flatten
def fMul : F2 := fun S x y => match x, y with
  | .p (.int i), .p (.int j) => if small j || small i then some (.p (.int (i * j)), S) else none
  | .p (.list a), .p (.int k) => if decide (-(2 ^ 62) ≤ k ∧ k < 2 ^ 62) && decide (a.length * k.toNat ≤ lim) then some (.p (.list (repD k.toNat a)), S) else none
  | .p (.tuple a), .p (.int k) => if decide (a ≠ []) && decide (2 ≤ k ∧ k ≤ 1000) && decide (a.length ≤ 1000) then some (.p (.tuple (repD k.toNat a)), S) else none
  | _, _ => none
theorem DFs.rep {K : PySem.W.Frag} {H : Hp} {ρ : Pl} {ds : List PyData} {xs : List V} (h : DFs K H ρ ds xs) : ∀ n : Nat, DFs K H ρ (repD n ds) (List.replicate n xs).flatten
  | 0 => by simp [repD]; exact .nil
  | n + 1 => by
    have := DFs.rep h n
    simp only [repD, List.replicate_succ, List.flatten_cons] at this ⊢
    exact h.append this
theorem fMul_ok {X : Cx} {G : Gk} (hK : X.K = G.K) : OpR X (binaryOp .Mult) (rF2 G fMul) := by
  refine OpR.imp ((op_mul (X := X)).or ((op_rep (X := X)).or (op_repT (X := X)))) fun x y H Q h => ?_
  obtain ⟨ρ, S, wx, wy, s, rx, ry, h⟩ := h
  unfold fMul at h
  split at h
  · cases rx; cases ry
    split at h
    · rename_i hl
      refine .inl ⟨_, _, rfl, rfl, ?_, h.done s (.int _)⟩
      simp [small] at hl
      exact hl.symm
    · exact h.elim
  · split at h
    · rename_i hl
      simp only [Bool.and_eq_true, decide_eq_true_eq] at hl
      cases ry
      cases rx with | lst h1 n1 t1 =>
      refine .inr (.inl ⟨_, _, _, rfl, rfl, h1, by omega, by omega, lim_le (by rw [← t1.length]; exact hl.2), fun p hp => h.laid s hp (DF.newL s hp (t1.rep _))⟩)
    · exact h.elim
  · split at h
    · rename_i hl
      simp only [Bool.and_eq_true, decide_eq_true_eq] at hl
      cases ry
      cases rx with | tup h1 t1 =>
      refine .inr (.inr ⟨_, _, _, rfl, rfl, hK ▸ h1.sq, fun e => hl.1.1 (t1.nil_iff.mp e), hl.1.2.1, hl.1.2.2, by rw [← t1.length]; exact hl.2, fun p hp => h.laid s hp (DF.newT s hp (t1.rep _))⟩)
    · exact h.elim
  · exact h.elim
/-! ### //, %, ** -/
def fDiv : F2 := fun S x y => match x, y with
  | .p (.int i), .p (.int j) => if decide (0 < j ∧ j < 2 ^ 64) then some (.p (.int (i / j)), S) else none
  | _, _ => none
theorem fDiv_ok {X : Cx} {G : Gk} : OpR X (binaryOp .FloorDiv) (rF2 G fDiv) := by
  refine OpR.imp (op_fdivW (X := X)) fun x y H Q h => ?_
  obtain ⟨ρ, S, wx, wy, s, rx, ry, h⟩ := h
  unfold fDiv at h
  split at h
  · cases rx; cases ry
    split at h
    · rename_i hl
      simp only [decide_eq_true_eq] at hl
      exact ⟨_, _, rfl, rfl, wide_div (b := 64) hl.1 (by omega) (by omega) (by omega), h.done s (.int _)⟩
    · exact h.elim
  · exact h.elim
def fMod : F2 := fun S x y => match x, y with
  | .p (.int i), .p (.int j) => if 0 < j then some (.p (.int (i % j)), S) else none
  | _, _ => none
theorem fMod_ok {X : Cx} {G : Gk} : OpR X (binaryOp .Mod) (rF2 G fMod) := by
  refine OpR.imp (op_mod (X := X)) fun x y H Q h => ?_
  obtain ⟨ρ, S, wx, wy, s, rx, ry, h⟩ := h
  unfold fMod at h
  split at h
  · cases rx; cases ry
    split at h
    · rename_i hl
      exact ⟨_, _, rfl, rfl, hl, h.done s (.int _)⟩
    · exact h.elim
  · exact h.elim
def fPow : F2 := fun S x y => match x, y with
  | .p (.int i), .p (.int j) => if decide (0 ≤ j ∧ j ≤ 1000 ∧ i.natAbs < 2 ^ 64) then some (.p (.int (i ^ j.toNat)), S) else none
  | _, _ => none
theorem fPow_ok {X : Cx} {G : Gk} : OpR X (binaryOp .Pow) (rF2 G fPow) := by
  refine OpR.imp (op_pow (X := X)) fun x y H Q h => ?_
  obtain ⟨ρ, S, wx, wy, s, rx, ry, h⟩ := h
  unfold fPow at h
  split at h
  · cases rx; cases ry
    split at h
    · rename_i hl
      simp only [decide_eq_true_eq] at hl
      exact ⟨_, _, rfl, rfl, ⟨hl.1, by omega, hl.2.2⟩, h.done s (.int _)⟩
    · exact h.elim
  · exact h.elim
end Pv
end

section
set_option maxRecDepth 10000
set_option maxHeartbeats 4000000
namespace Pv
open PySem PySem.Spec L2
open PyProof.Rows hiding St

/-! ## what is read off the heap -/
/-- the context of a body: what every rule may use -/
structure Cw (G : Gk) (X : Cx) : Prop where
  K : X.K = G.K
  calm : X.calm = true
  room : Room 0 X.A
  guards : X.A.guards = some []
  mods : ∃ mm, X.base.Ns sysModules mm
section
variable {X : Cx} {pins : List (Addr × Obj)} {σ : St} {H : Hp} {s : Shared} {ρ : Pl}
theorem ne_mods (I : Inv X pins σ H s) (hB : ∃ mm, X.base.Ns sysModules mm) {a : Addr} {o : HO} (h : H a = some o) : a ≠ sysModules := fun e => by
  obtain ⟨mm, ob, es, ep, h1, _⟩ := hB
  subst e
  have := (I.bs _ _ h1).2
  rw [this] at h; cases h
theorem ne_modsL (I : Inv X pins σ H s) (hB : ∃ mm, X.base.Ns sysModules mm) {a : Addr} {xs : List V} (h : SqL X.K H a xs) : a ≠ sysModules := fun e => by
  obtain ⟨mm, ob, es, ep, h1, h2, _⟩ := hB
  obtain ⟨its, r, ⟨o, n, h3, _, _, h4⟩, _⟩ := I.list h
  subst e
  rw [I.bk _ _ h1] at h3; cases h3
  rw [h2] at h4; cases h4
mutual
theorem DF.reads (I : Inv X pins σ H s) (hB : ∃ mm, X.base.Ns sysModules mm) : ∀ {d : PyData} {v : V} {u : Value}, DF X.K H ρ d v → RelV v u → ∃ as, Reads s.heap u d as ∧ sysModules ∉ as
  | _, _, _, .non, r => by cases r; exact ⟨_, .none, by simp⟩
  | _, _, _, .bl b, r => by cases r; exact ⟨_, .bool b, by simp⟩
  | _, _, _, .int i, r => by obtain ⟨t, rfl⟩ := r; exact ⟨_, .int i t, by simp⟩
  | _, _, _, .str x, r => by obtain ⟨t, rfl⟩ := r; exact ⟨_, .str x t, by simp⟩
  | _, _, _, .lst h n t, r => by
    cases r
    obtain ⟨its, rv, ⟨o, m, ho, hc, _, hd⟩, _⟩ := I.list (.of h)
    obtain ⟨as, hr, hn⟩ := DFs.reads I hB t rv
    have := ne_mods I hB h
    exact ⟨_, .list ho hc hd hr, by simp only [List.mem_cons, not_or]; exact ⟨fun e => this e.symm, hn⟩⟩
  | _, _, _, .tup h t, r => by
    cases r
    obtain ⟨its, rv, ⟨o, ho, hc, m, hd⟩, _⟩ := I.tuple h.sq
    obtain ⟨as, hr, hn⟩ := DFs.reads I hB t rv
    exact ⟨_, .tuple ho hc hd hr, hn⟩
  | _, _, _, .dic h n t, r => by
    cases r
    obtain ⟨_, _, vs, rkv, o, es, ep, ho, hx, hd, _, hp, _⟩ := I.hok _ _ h
    obtain ⟨as, bs, h1, h2, n1, n2⟩ := DFk.reads I hB t rkv hp
    have := ne_mods I hB h
    exact ⟨_, .dict ho hx.1 hd h1 h2, by
      simp only [List.cons_append, List.mem_cons, List.mem_append, not_or]
      exact ⟨fun e => this e.symm, n1, n2⟩⟩
theorem DFs.reads (I : Inv X pins σ H s) (hB : ∃ mm, X.base.Ns sysModules mm) : ∀ {ds : List PyData} {vs : List V} {us : List Value}, DFs X.K H ρ ds vs → Vals vs us → ∃ as, ReadsAll s.heap us ds as ∧ sysModules ∉ as
  | _, _, _, .nil, r => by cases r; exact ⟨_, .nil, by simp⟩
  | _, _, _, .cons h t, r => by
    cases r with
    | cons r1 r2 =>
      obtain ⟨as, q1, n1⟩ := DF.reads I hB h r1
      obtain ⟨bs, q2, n2⟩ := DFs.reads I hB t r2
      exact ⟨_, .cons q1 q2, by simp only [List.mem_append, not_or]; exact ⟨n1, n2⟩⟩
theorem DFk.reads (I : Inv X pins σ H s) (hB : ∃ mm, X.base.Ns sysModules mm) : ∀ {ds : List (PyData × PyData)} {kvs : List (Key × V)} {vs : List (Key × Value)} {es : List DictEntry}, DFk X.K H ρ ds kvs → KV kvs vs → Pairs (mixKind X.prog X.w) es vs →
    ∃ as bs, ReadsAll s.heap (es.map (·.key)) (ds.map (·.1)) as ∧ ReadsAll s.heap (es.map (·.val)) (ds.map (·.2)) bs ∧ sysModules ∉ as ∧ sysModules ∉ bs
  | _, _, _, _, .nil, r, p => by cases r; cases p; exact ⟨_, _, .nil, .nil, by simp, by simp⟩
  | _, _, _, _, .cons h g t, r, p => by
    cases r with
    | cons r1 r2 =>
      cases p with
      | cons p1 p2 p3 =>
        rename_i d e ds k v kvs' kv' vs' e0 es'
        obtain ⟨as', bs', q1, q2, n1, n2⟩ := DFk.reads I hB t r2 p3
        have hk : RelV (kV k) e0.key := by
          have e1 : k = kv'.1 := r1.1
          rw [← e1] at p1
          have p1 : keyIs k e0.key = true := p1
          rcases keyIs_shape p1 with ⟨i, t, rfl, e2⟩ | ⟨x, t, rfl, e2⟩
          · exact ⟨t, e2⟩
          · exact ⟨t, e2⟩
        obtain ⟨as, q3, n3⟩ := DF.reads I hB h hk
        obtain ⟨bs, q4, n4⟩ := DF.reads I hB g (show RelV v e0.val by rw [p2]; exact r1.2)
        exact ⟨_, _, .cons q3 q1, .cons q4 q2, by simp only [List.mem_append, not_or]; exact ⟨n3, n1⟩, by simp only [List.mem_append, not_or]; exact ⟨n4, n2⟩⟩
end
end

/-! ## the data that a value is now -/
def mapO {α β : Type} (f : α → Option β) : List α → Option (List β)
  | [] => some []
  | x :: r => match f x with
    | some y => (mapO f r).map (y :: ·)
    | none => none
def puN : Nat → Sto → W → Option PyData
  | _, _, .p d => some d
  | _, _, .s ns => some (.list (ns.map PyData.int))
  | 0, _, .r _ => none
  | k + 1, S, .r n => match S[n]? with
    | some (.l ws) => (mapO (puN k S) ws).map PyData.list
    | none => none
def pu (S : Sto) (w : W) : Option PyData := puN 3 S w
section
variable {X : Cx} {pins : List (Addr × Obj)} {σ : St} {H : Hp} {s : Shared} {ρ : Pl} {S : Sto}
theorem ints_reads {ns : List Int} : ∀ {us : List Value}, Vals (ns.map V.int) us → ReadsAll s.heap us (ns.map PyData.int) [] := by
  induction ns with
  | nil => intro us r; cases r; exact .nil
  | cons n r ih =>
    intro us r
    cases r with
    | cons r1 r2 =>
      obtain ⟨t, rfl⟩ := r1
      exact .cons (.int n t) (ih r2)
theorem puN_reads (I : Inv X pins σ H s) (hB : ∃ mm, X.base.Ns sysModules mm) (sm : Sim X.K ρ S H) : ∀ (k : Nat) {w : W} {d : PyData} {v : V} {u : Value}, puN k S w = some d → RW X.K H ρ w v → RelV v u → ∃ as, Reads s.heap u d as ∧ sysModules ∉ as
  | k, .p d, d2, _, _, e, r, ru => by
    have : d = d2 := by cases k <;> (unfold puN at e; exact Option.some.inj e)
    subst this
    exact DF.reads I hB r ru
  | k, .s ns, d2, _, _, e, r, ru => by
    have : PyData.list (ns.map PyData.int) = d2 := by cases k <;> (unfold puN at e; exact Option.some.inj e)
    subst this
    obtain ⟨a, rfl, h⟩ := r
    cases ru
    obtain ⟨its, rv, ⟨o, m, ho, hc, _, hd⟩, _⟩ := I.list h.sq
    have := ne_modsL I hB h.sq
    exact ⟨_, .list ho hc hd (ints_reads rv), by simp only [List.mem_cons, not_or]; exact ⟨fun e => this e.symm, by simp⟩⟩
  | 0, .r n, _, _, _, e, _, _ => by unfold puN at e; cases e
  | k + 1, .r n, d, _, _, e, r, ru => by
    unfold puN at e
    obtain ⟨a, ha, rfl⟩ := r
    cases ru
    cases q : S[n]? with
    | none => simp [q] at e
    | some o =>
      obtain ⟨ws⟩ := o
      simp only [q] at e
      cases q2 : mapO (puN k S) ws with
      | none => rw [q2] at e; cases e
      | some ds =>
        rw [q2] at e; cases e
        obtain ⟨a', xs, h1, h2, h3⟩ := sm.at_ n ws q
        rw [ha] at h1; cases h1
        obtain ⟨its, rv, ⟨o, m, ho, hc, _, hd⟩, _⟩ := I.list (.of h2)
        have hn := ne_mods I hB h2
        have all : ∀ {ws : List W} {xs : List V} {us : List Value} {ds : List PyData}, mapO (puN k S) ws = some ds → RWs X.K H ρ ws xs → Vals xs us → ∃ as, ReadsAll s.heap us ds as ∧ sysModules ∉ as := by
          intro ws
          induction ws with
          | nil => intro xs us ds e r ru; cases e; cases r; cases ru; exact ⟨_, .nil, by simp⟩
          | cons w ws ih =>
            intro xs us ds e r ru
            cases r with
            | cons r1 r2 =>
              cases ru with
              | cons u1 u2 =>
                unfold mapO at e
                cases q3 : puN k S w with
                | none => simp [q3] at e
                | some d1 =>
                  simp only [q3] at e
                  cases q4 : mapO (puN k S) ws with
                  | none => rw [q4] at e; cases e
                  | some ds' =>
                    rw [q4] at e; cases e
                    obtain ⟨as, a1, a2⟩ := puN_reads I hB sm k q3 r1 u1
                    obtain ⟨bs, b1, b2⟩ := ih q4 r2 u2
                    exact ⟨_, .cons a1 b1, by simp only [List.mem_append, not_or]; exact ⟨a2, b2⟩⟩
        obtain ⟨as, h4, h5⟩ := all q2 h3 rv
        exact ⟨_, .list ho hc hd h4, by simp only [List.mem_cons, not_or]; exact ⟨fun e => hn e.symm, h5⟩⟩
theorem pu_reads (I : Inv X pins σ H s) (hB : ∃ mm, X.base.Ns sysModules mm) (sm : Sim X.K ρ S H) {w : W} {d : PyData} {v : V} {u : Value} (e : pu S w = some d) (r : RW X.K H ρ w v) (ru : RelV v u) : ∃ as, Reads s.heap u d as ∧ sysModules ∉ as :=
  puN_reads I hB sm 3 e r ru
end

/-! ## comparisons -/
def b2 (b : Bool) (S : Sto) : Option (W × Sto) := some (.p (.bool b), S)
def shapedB (d : PyData) : Bool := SeqAt.shaped d
def fEq : F2 := fun S x y => match pu S x, pu S y with
  | some a, some b => if shapedB a && shapedB b then b2 (PyData.eqv a b) S else none
  | _, _ => none
def fNe : F2 := fun S x y => match pu S x, pu S y with
  | some a, some b => if shapedB a && shapedB b then b2 (!PyData.eqv a b) S else none
  | _, _ => none
section
variable {X : Cx} {G : Gk} (C : Cw G X)
include C
theorem fEq_ok : OpR X (compareOp .Eq) (rF2 G fEq) := by
  intro pins s σ H x y v u Q I rx ry h
  obtain ⟨ρ, S, wx, wy, sm, qx, qy, h⟩ := h
  unfold fEq at h
  split at h
  · rename_i a b ea eb
    split at h
    · rename_i hs
      simp only [Bool.and_eq_true] at hs
      obtain ⟨as, ra, _⟩ := pu_reads I C.mods (C.K ▸ sm) ea (C.K ▸ qx) rx
      obtain ⟨bs, rb, _⟩ := pu_reads I C.mods (C.K ▸ sm) eb (C.K ▸ qy) ry
      exact SeqAt.compareEq_shaped ra rb hs.1 hs.2 (C.room.units) ⟨.bl _, H, I, rfl, h.done sm (.bl _)⟩
    · exact h.elim
  · exact h.elim
theorem fNe_ok : OpR X (compareOp .NotEq) (rF2 G fNe) := by
  intro pins s σ H x y v u Q I rx ry h
  obtain ⟨ρ, S, wx, wy, sm, qx, qy, h⟩ := h
  unfold fNe at h
  split at h
  · rename_i a b ea eb
    split at h
    · rename_i hs
      simp only [Bool.and_eq_true] at hs
      obtain ⟨as, ra, _⟩ := pu_reads I C.mods (C.K ▸ sm) ea (C.K ▸ qx) rx
      obtain ⟨bs, rb, _⟩ := pu_reads I C.mods (C.K ▸ sm) eb (C.K ▸ qy) ry
      exact SeqAt.compareNe_shaped ra rb hs.1 hs.2 (C.room.units) ⟨.bl _, H, I, rfl, h.done sm (.bl _)⟩
    · exact h.elim
  · exact h.elim
end
/-- order of alike data -/
def ordOk (a b : PyData) : Bool := PySem.W.alike a b && (match a with | .none => false | _ => true) && decide (a.depth ≤ 64)
def fOrd (f : PyData → PyData → Bool) : F2 := fun S x y => match x, y with
  | .p a, .p b => if ordOk a b then b2 (f a b) S else none
  | _, _ => none
section
variable {X : Cx} {G : Gk} (C : Cw G X)
include C
theorem ord_ok {op : CmpOp} {f : PyData → PyData → Bool}
    (rule : ∀ {A : Around} {E : Value → Shared → Prop} {s : Shared} {a b : Value} {da db : PyData} {as bs : List Addr} {Q : Value → Shared → Prop}, Reads s.heap a da as → Reads s.heap b db bs → PySem.W.alike da db = true → da ≠ .none → A.units + min da.depth db.depth < cLine →
      Q (.bool (f da db)) s → wpAny (model X.prog X.w) A (compareOp op a b) Q E s) : OpR X (compareOp op) (rF2 G (fOrd f)) := by
  intro pins s σ H x y v u Q I rx ry h
  obtain ⟨ρ, S, wx, wy, sm, qx, qy, h⟩ := h
  unfold fOrd at h
  split at h
  · rename_i a b
    split at h
    · rename_i hs
      simp only [ordOk, Bool.and_eq_true, decide_eq_true_eq] at hs
      obtain ⟨as, ra, _⟩ := DF.reads (ρ := ρ) I C.mods (C.K ▸ qx) rx
      obtain ⟨bs, rb, _⟩ := DF.reads (ρ := ρ) I C.mods (C.K ▸ qy) ry
      have := C.room.units
      refine rule ra rb hs.1.1 (fun e => ?_) (by have := hs.2; omega) ⟨.bl _, H, I, rfl, h.done sm (.bl _)⟩
      have h2 := hs.1.2
      rw [e] at h2; cases h2
    · exact h.elim
  · exact h.elim
theorem fLt_ok : OpR X (compareOp .Lt) (rF2 G (fOrd fun a b => PySem.W.dataLt a b)) := ord_ok C fun ra rb h hn hu hq => PySem.W.lt_data ra rb h hn hu hq
theorem fGt_ok : OpR X (compareOp .Gt) (rF2 G (fOrd fun a b => PySem.W.dataLt b a)) := ord_ok C fun ra rb h hn hu hq => PySem.W.gt_data ra rb h hn hu hq
theorem fLe_ok : OpR X (compareOp .LtE) (rF2 G (fOrd fun a b => !PySem.W.dataLt b a)) := ord_ok C fun ra rb h hn hu hq => PySem.W.le_data ra rb h hn hu hq
theorem fGe_ok : OpR X (compareOp .GtE) (rF2 G (fOrd fun a b => !PySem.W.dataLt a b)) := ord_ok C fun ra rb h hn hu hq => PySem.W.ge_data ra rb h hn hu hq
end
/-! ## in -/
def flatP : PyData → Bool
  | .none | .bool _ | .int _ | .str _ => true
  | _ => false
def inP (x : PyData) (ds : List PyData) : Bool := ds.any fun y => PyData.eqv y x
def strIn (a b : Str) : Bool := !(Builtin.Str.occurrences b a 0 b.length 1).isEmpty
def fIn (neg : Bool) : F2 := fun S x y => match x, y with
  | .p (.str a), .p (.str b) => b2 (if neg then !strIn a b else strIn a b) S
  | .p d, y => match seqP S y with
    | some (_, ds) => if flatP d && ds.all flatP then b2 (if neg then !inP d ds else inP d ds) S else none
    | none => none
  | _, _ => none
section
variable {K : PySem.W.Frag} {H : Hp} {ρ : Pl}
theorem flat_rep {d : PyData} {v : V} (f : flatP d = true) (h : DF K H ρ d v) : flatV v = true := by
  cases h <;> first | rfl | cases f
theorem eq_rep {d e : PyData} {v u : V} (f : flatP d = true) (g : flatP e = true) (h : DF K H ρ d v) (k : DF K H ρ e u) : eqV v u = PyData.eqv d e := by
  cases h <;> cases k <;> first | rfl | cases f | cases g
theorem flat_all : ∀ {ds : List PyData} {vs : List V}, DFs K H ρ ds vs → ds.all flatP = true → vs.all flatV = true
  | _, _, .nil, _ => rfl
  | _, _, .cons h t, e => by
    simp only [List.all_cons, Bool.and_eq_true] at e ⊢
    exact ⟨flat_rep e.1 h, flat_all t e.2⟩
theorem in_rep {d : PyData} {v : V} (f : flatP d = true) (h : DF K H ρ d v) : ∀ {ds : List PyData} {vs : List V}, DFs K H ρ ds vs → ds.all flatP = true → inV v vs = inP d ds
  | _, _, .nil, _ => rfl
  | _, _, .cons k t, e => by
    simp only [List.all_cons, Bool.and_eq_true] at e
    have := in_rep f h t e.2
    simp only [inV, inP, List.any_cons] at this ⊢
    rw [eq_rep e.1 f k h, this]
end
section
variable {X : Cx} {G : Gk} (C : Cw G X)
include C
theorem fIn_ok : OpR X (compareOp .In) (rF2 G (fIn false)) := by
  refine OpR.imp ((op_in_str (X := X)).or (op_in_seq (X := X))) fun x y H Q h => ?_
  obtain ⟨ρ, S, wx, wy, sm, qx, qy, h⟩ := h
  unfold fIn at h
  split at h
  · cases qx; cases qy
    exact .inl ⟨_, _, rfl, rfl, h.done sm (.bl _)⟩
  · split at h
    · rename_i b ds e
      split at h
      · rename_i hs
        simp only [Bool.and_eq_true] at hs
        obtain ⟨a, xs, rfl, hx, hq⟩ := seqP_rep sm qy e
        refine .inr ⟨a, xs, rfl, ?_, flat_rep hs.1 qx, flat_all hx hs.2, ?_⟩
        · rw [C.K]; rcases hq with ⟨_, q⟩ | ⟨_, q⟩; exact .inr q; exact .inl q
        · have := h.done sm (.bl _)
          simp only [Bool.false_eq_true, if_false] at this ⊢
          rw [in_rep hs.1 qx hx hs.2]
          exact this
      · exact h.elim
    · exact h.elim
  · exact h.elim
theorem fNotIn_ok : OpR X (compareOp .NotIn) (rF2 G (fIn true)) := by
  refine OpR.imp ((L2.op_notIn_str (X := X)).or (op_notIn_seq (X := X))) fun x y H Q h => ?_
  obtain ⟨ρ, S, wx, wy, sm, qx, qy, h⟩ := h
  unfold fIn at h
  split at h
  · cases qx; cases qy
    exact .inl ⟨_, _, rfl, rfl, h.done sm (.bl _)⟩
  · split at h
    · rename_i b ds e
      split at h
      · rename_i hs
        simp only [Bool.and_eq_true] at hs
        obtain ⟨a, xs, rfl, hx, hq⟩ := seqP_rep sm qy e
        refine .inr ⟨a, xs, rfl, ?_, flat_rep hs.1 qx, flat_all hx hs.2, ?_⟩
        · rw [C.K]; rcases hq with ⟨_, q⟩ | ⟨_, q⟩; exact .inr q; exact .inl q
        · have := h.done sm (.bl _)
          simp only [if_true] at this ⊢
          rw [in_rep hs.1 qx hx hs.2]
          exact this
      · exact h.elim
    · exact h.elim
  · exact h.elim
end
/-! ## is -/
def isNon : W → Bool
  | .p .none => true
  | _ => false
def fIsN (neg : Bool) : F2 := fun S x y => match y with
  | .p .none => b2 (if neg then !isNon x else isNon x) S
  | _ => none
theorem isNon_rep {K : PySem.W.Frag} {H : Hp} {ρ : Pl} {w : W} {v : V} (h : RW K H ρ w v) : decide (v = .non) = isNon w := by
  cases w with
  | p d => cases h <;> rfl
  | r n => obtain ⟨a, _, rfl⟩ := h; rfl
  | s ns => obtain ⟨a, rfl, _⟩ := h; rfl
theorem fIs_ok {X : Cx} {G : Gk} : OpR X (compareOp .Is) (rF2 G (fIsN false)) := by
  refine OpR.imp (op_isN (X := X)) fun x y H Q h => ?_
  obtain ⟨ρ, S, wx, wy, sm, qx, qy, h⟩ := h
  unfold fIsN at h
  split at h
  · cases qy
    refine ⟨rfl, ?_⟩
    rw [isNon_rep qx]
    exact h.done sm (.bl _)
  · exact h.elim
theorem fIsNot_ok {X : Cx} {G : Gk} : OpR X (compareOp .IsNot) (rF2 G (fIsN true)) := by
  refine OpR.imp (op_notN (X := X)) fun x y H Q h => ?_
  obtain ⟨ρ, S, wx, wy, sm, qx, qy, h⟩ := h
  unfold fIsN at h
  split at h
  · cases qy
    refine ⟨rfl, ?_⟩
    rw [isNon_rep qx]
    exact h.done sm (.bl _)
  · exact h.elim
end Pv
end

section
set_option maxRecDepth 10000
set_option maxHeartbeats 4000000
namespace Pv
open PySem PySem.Spec L2
open PyProof.Rows hiding St

theorem CallR.imp {X : Cx} {f : Value} {r r' : List V → Hp → VK → Prop} (h : CallR X f r) (i : ∀ xs H Q, r' xs H Q → r xs H Q) : CallR X f r' :=
  fun pins s σ H xs us Q I rx q => h pins s σ H xs us Q I rx (i _ _ _ q)
theorem MtR.imp {X : Cx} {id : String} {r r' : V → List V → Hp → VK → Prop} (h : MtR X id r) (i : ∀ x xs H Q, r' x xs H Q → r x xs H Q) : MtR X id r' :=
  fun pins s σ H x xs v us Q I rx rs q => h pins s σ H x xs v us Q I rx rs (i _ _ _ _ q)
theorem rws1 {K : PySem.W.Frag} {H : Hp} {ρ : Pl} {w : W} {xs : List V} (h : RWs K H ρ [w] xs) : ∃ x, xs = [x] ∧ RW K H ρ w x := by
  cases h with | cons a t => cases t; exact ⟨_, rfl, a⟩
theorem rws0 {K : PySem.W.Frag} {H : Hp} {ρ : Pl} {xs : List V} (h : RWs K H ρ [] xs) : xs = [] := by
  cases h; rfl
theorem seq_or {K : PySem.W.Frag} {H : Hp} {a : Addr} {xs : List V} {b : Bool} (h : (b = true ∧ SqT K H a xs) ∨ (b = false ∧ SqL K H a xs)) : SqL K H a xs ∨ SqT K H a xs := by
  rcases h with ⟨_, h⟩ | ⟨_, h⟩
  · exact .inr h
  · exact .inl h

/-! ## len, tuple, list, abs, int, all, any -/
def seqLen (S : Sto) : W → Option Nat
  | .p (.list ds) => some ds.length
  | .p (.tuple ds) => some ds.length
  | .s ns => some ns.length
  | .r n => match S[n]? with
    | some (.l ws) => some ws.length
    | none => none
  | _ => none
theorem seqLen_rep {K : PySem.W.Frag} {ρ : Pl} {H : Hp} {S : Sto} (s : Sim K ρ S H) {w : W} {v : V} {n : Nat} (r : RW K H ρ w v) (e : seqLen S w = some n) :
    ∃ a xs, v = .ref a ∧ xs.length = n ∧ (SqL K H a xs ∨ SqT K H a xs) := by
  cases w with
  | p d =>
    cases d with
    | list ds' => cases e; cases r with | lst h n t => exact ⟨_, _, rfl, t.length.symm, .inl (.of h)⟩
    | tuple ds' => cases e; cases r with | tup h t => exact ⟨_, _, rfl, t.length.symm, .inr h.sq⟩
    | _ => cases e
  | s ns =>
    cases e
    obtain ⟨a, rfl, h⟩ := r
    exact ⟨a, _, rfl, by simp, .inl h.sq⟩
  | r m =>
    obtain ⟨a, ha, rfl⟩ := r
    unfold seqLen at e
    cases q : S[m]? with
    | none => simp [q] at e
    | some o =>
      obtain ⟨ws⟩ := o
      simp [q] at e
      obtain ⟨a', xs, h1, h2, h3⟩ := s.at_ m ws q
      rw [ha] at h1; cases h1
      exact ⟨a, xs, rfl, by rw [← e, Paired.length h3], .inl (.of h2)⟩
def fLen : FL1 := fun S ws => match ws with
  | [.p (.str x)] => if x.length ≤ lim then some (.p (.int x.length), S) else none
  | [w] => match seqLen S w with
    | some n => some (.p (.int n), S)
    | none => none
  | _ => none
def fTuple : FL1 := fun S ws => match ws with
  | [.p (.tuple ds)] => some (.p (.tuple ds), S)
  | [w] => match seqP S w with
    | some (false, ds) => some (.p (.tuple ds), S)
    | _ => none
  | _ => none
def fList : FL1 := fun S ws => match ws with
  | [w] => match seqP S w with
    | some (_, ds) => some (.p (.list ds), S)
    | _ => none
  | _ => none
def fAbs : FL1 := fun S ws => match ws with
  | [.p (.int i)] => some (.p (.int (if i < 0 then -i else i)), S)
  | _ => none
def fInt : FL1 := fun S ws => match ws with
  | [.p (.int i)] => some (.p (.int i), S)
  | [.p (.bool b)] => some (.p (.int (if b then 1 else 0)), S)
  | _ => none
def bools : List PyData → Option (List Bool)
  | [] => some []
  | .bool b :: r => (bools r).map (b :: ·)
  | _ :: _ => none
def fAll (any : Bool) : FL1 := fun S ws => match ws with
  | [.p (.list ds)] => match bools ds with
    | some bs => some (.p (.bool (if any then bs.any id else bs.all id)), S)
    | none => none
  | _ => none
theorem bools_rep {K : PySem.W.Frag} {ρ : Pl} {H : Hp} : ∀ {ds : List PyData} {xs : List V} {bs : List Bool}, DFs K H ρ ds xs → bools ds = some bs → xs = bs.map V.bl
  | [], _, _, .nil, e => by cases e; rfl
  | .bool b :: r, _, bs, .cons h t, e => by
    unfold bools at e
    cases q : bools r with
    | none => rw [q] at e; cases e
    | some b' =>
      rw [q] at e; cases e
      cases h
      rw [bools_rep t q]; rfl
  | .none :: _, _, _, _, e => by cases e
  | .int _ :: _, _, _, _, e => by cases e
  | .str _ :: _, _, _, _, e => by cases e
  | .list _ :: _, _, _, _, e => by cases e
  | .tuple _ :: _, _, _, _, e => by cases e
  | .dict _ :: _, _, _, _, e => by cases e
section
variable {X : Cx} {G : Gk} (C : Cw G X)
include C
theorem fLen_ok : CallR X (.builtin "len") (rFn G fLen) := by
  refine CallR.imp ((call_len_str (X := X)).or (call_len_seq (X := X))) fun xs H Q h => ?_
  obtain ⟨ρ, S, ws, sm, rw', h⟩ := h
  unfold fLen at h
  split at h
  · obtain ⟨x, rfl, r⟩ := rws1 rw'
    cases r
    split at h
    · rename_i hl
      exact .inl ⟨_, rfl, lim_le hl, h.done sm (.int _)⟩
    · exact h.elim
  · obtain ⟨x, rfl, r⟩ := rws1 rw'
    split at h
    · rename_i n e
      obtain ⟨a, ys, rfl, hl, hq⟩ := seqLen_rep sm r e
      exact .inr ⟨a, ys, rfl, by rw [C.K]; exact hq, by rw [hl]; exact h.done sm (.int _)⟩
    · exact h.elim
  · exact h.elim
theorem fTuple_ok : CallR X (.type "tuple") (rFn G fTuple) := by
  refine CallR.imp (call_tuple_of (X := X)) fun xs H Q h => ?_
  obtain ⟨ρ, S, ws, sm, rw', h⟩ := h
  unfold fTuple at h
  split at h
  · obtain ⟨x, rfl, r⟩ := rws1 rw'
    cases r with | tup h1 t1 =>
    exact ⟨_, _, rfl, .inr ⟨by rw [C.K]; exact h1.sq, h.done sm (.tup h1 t1)⟩⟩
  · obtain ⟨x, rfl, r⟩ := rws1 rw'
    split at h
    · rename_i ds e
      obtain ⟨a, ys, rfl, hx, hq⟩ := seqP_rep sm r e
      rcases hq with ⟨z, _⟩ | ⟨_, hq⟩
      · cases z
      · exact ⟨a, ys, rfl, .inl ⟨by rw [C.K]; exact hq, fun l hl => h.laid sm hl (DF.newT sm hl hx)⟩⟩
    · exact h.elim
  · exact h.elim
theorem fList_ok : CallR X (.type "list") (rFn G fList) := by
  refine CallR.imp (call_list_of (X := X)) fun xs H Q h => ?_
  obtain ⟨ρ, S, ws, sm, rw', h⟩ := h
  unfold fList at h
  split at h
  · obtain ⟨x, rfl, r⟩ := rws1 rw'
    split at h
    · rename_i b ds e
      obtain ⟨a, ys, rfl, hx, hq⟩ := seqP_rep sm r e
      exact ⟨a, ys, rfl, by rw [C.K]; exact seq_or hq, fun l hl => h.laid sm hl (DF.newL sm hl hx)⟩
    · exact h.elim
  · exact h.elim
theorem fAbs_ok : CallR X (.builtin "abs") (rFn G fAbs) := by
  refine CallR.imp (call_abs (X := X)) fun xs H Q h => ?_
  obtain ⟨ρ, S, ws, sm, rw', h⟩ := h
  unfold fAbs at h
  split at h
  · obtain ⟨x, rfl, r⟩ := rws1 rw'
    cases r
    exact ⟨_, rfl, h.done sm (.int _)⟩
  · exact h.elim
theorem fInt_ok : CallR X (.type "int") (rFn G fInt) := by
  refine CallR.imp (call_int1 (X := X)) fun xs H Q h => ?_
  obtain ⟨ρ, S, ws, sm, rw', h⟩ := h
  unfold fInt at h
  split at h
  · obtain ⟨x, rfl, r⟩ := rws1 rw'
    cases r
    exact .inl ⟨_, rfl, h.done sm (.int _)⟩
  · obtain ⟨x, rfl, r⟩ := rws1 rw'
    cases r
    exact .inr ⟨_, rfl, h.done sm (.int _)⟩
  · exact h.elim
theorem fAll_ok : CallR X (.builtin "all") (rFn G (fAll false)) := by
  refine CallR.imp (cr_all (X := X) C.calm) fun xs H Q h => ?_
  obtain ⟨ρ, S, ws, sm, rw', h⟩ := h
  unfold fAll at h
  split at h
  · obtain ⟨x, rfl, r⟩ := rws1 rw'
    split at h
    · rename_i bs e
      cases r with | lst h1 n1 t1 =>
      have := bools_rep t1 e
      subst this
      exact ⟨_, _, rfl, .of h1, h.done sm (.bl _)⟩
    · exact h.elim
  · exact h.elim
theorem fAny_ok : CallR X (.builtin "any") (rFn G (fAll true)) := by
  refine CallR.imp (cr_any (X := X) C.calm) fun xs H Q h => ?_
  obtain ⟨ρ, S, ws, sm, rw', h⟩ := h
  unfold fAll at h
  split at h
  · obtain ⟨x, rfl, r⟩ := rws1 rw'
    split at h
    · rename_i bs e
      cases r with | lst h1 n1 t1 =>
      have := bools_rep t1 e
      subst this
      exact ⟨_, _, rfl, .of h1, h.done sm (.bl _)⟩
    · exact h.elim
  · exact h.elim
end
/-! ## repr -/
def fRepr : FL1 := fun S ws => match ws with
  | [w] => match pu S w with
    | some d => if d.showable && decide (d.shown.length ≤ lim) && decide (d.depth ≤ 60) then some (.p (.str d.shown), S) else none
    | none => none
  | _ => none
theorem fRepr_ok {X : Cx} {G : Gk} (C : Cw G X) : CallR X (.builtin "repr") (rFn G fRepr) := by
  intro pins s σ H xs us Q I rx h
  obtain ⟨ρ, S, ws, sm, rw', h⟩ := h
  unfold fRepr at h
  split at h
  · obtain ⟨x, rfl, r⟩ := rws1 rw'
    obtain ⟨u, rfl, ru⟩ := vals1 rx
    split at h
    · rename_i d e
      split at h
      · rename_i hs
        simp only [Bool.and_eq_true, decide_eq_true_eq] at hs
        have hu := C.room.units
        obtain ⟨as, rd, hn⟩ := pu_reads I C.mods (C.K ▸ sm) e (C.K ▸ r) ru
        have fin : ∀ (h' : Heap) (t : Tok) (tk : Nat), (∀ b o, s.heap.get? b = some o → h'.get? b = some o) → EP X pins σ Q (.str d.shown t) { s with heap := h', toks := tk } := fun h' t tk hk =>
          ⟨.str d.shown, H, I.kept hk, ⟨t, rfl⟩, h.done sm (.str _)⟩
        cases rd with
        | none => exact call_repr_gives (typeIs_none s) F.slot_NoneType_repr F.entry_NoneType_repr (F.args_NoneType_repr_1 _) gives_none_repr (by simpa only [PyData.shown] using fin s.heap _ _ fun _ _ e => e) (hx := by decide)
        | bool b => exact call_repr_gives (PySem.typeIs_bool s b) F.slot_bool_repr F.entry_bool_repr (F.args_bool_repr_1 _) (gives_bool_repr b) (by simpa only [PyData.shown] using fin s.heap _ _ fun _ _ e => e) (hx := by cases b <;> decide)
        | int i t => exact PySem.P.repr_of_int (by simpa [PyData.showable] using hs.1.1) (by simpa only [PyData.shown] using fin s.heap _ _ fun _ _ e => e)
        | str x t => exact call_repr_gives (typeIs_str s x t) F.slot_str_repr F.entry_str_repr (F.args_str_repr_1 _) (gives_str_repr x t) (by simpa only [PyData.shown] using fin s.heap _ _ fun _ _ e => e) (hx := by simpa only [PyData.shown] using lim_le hs.1.2)
        | list h1 h2 h3 h4 => exact repr_of_reads' (.list h1 h2 h3 h4) hs.1.1 (fun _ => hn) C.guards (by have := hs.2; omega) (fun _ _ e => e) (fun h' u tk hk => fin h' u tk hk) (lim_le hs.1.2)
        | tuple h1 h2 h3 h4 => exact repr_of_reads' (.tuple h1 h2 h3 h4) hs.1.1 (fun _ => hn) C.guards (by have := hs.2; omega) (fun _ _ e => e) (fun h' u tk hk => fin h' u tk hk) (lim_le hs.1.2)
        | dict h1 h2 h3 h4 h5 => exact repr_of_reads' (.dict h1 h2 h3 h4 h5) hs.1.1 (fun _ => hn) C.guards (by have := hs.2; omega) (fun _ _ e => e) (fun h' u tk hk => fin h' u tk hk) (lim_le hs.1.2)
      · exact h.elim
    · exact h.elim
  · exact h.elim
end Pv
end

section
set_option maxRecDepth 10000
set_option maxHeartbeats 4000000
namespace Pv
open PySem PySem.Spec L2
open PyProof.Rows hiding St

/-! ## sorted -/
def isNone : PyData → Bool
  | .none => true
  | _ => false
def tupSome : PyData → Bool
  | .tuple (_ :: _) => true
  | _ => false
def isTup : PyData → Bool
  | .tuple _ => true
  | _ => false
def sortOk (ds : List PyData) : Bool := ds.all (fun a => ds.all fun b => PySem.W.alike a b) && (ds.all tupSome || ds.all fun d => !isNone d && !isTup d) && decide (ds.length ≤ lim) && ds.all fun d => decide (d.depth ≤ 60)
def sortD (ds : List PyData) : List PyData := ds.mergeSort (PySem.W.dataLe false id)
def fSorted : FL1 := fun S ws => match ws with
  | [w] => match seqP S w with
    | some (false, ds) => if sortOk ds then some (.p (.list (sortD ds)), S) else none
    | _ => none
  | _ => none
theorem EachIs.mk {α β : Type} {R : α → β → Prop} : ∀ {l : List α} {m : List β}, l.length = m.length → (∀ (i : Nat) a b, l[i]? = some a → m[i]? = some b → R a b) → PySem.W.EachIs R l m
  | [], [], _, _ => .nil
  | a :: l, b :: m, h, f => .cons (f 0 a b rfl rfl) (EachIs.mk (by simpa using h) fun i x y e1 e2 => f (i + 1) x y (by simpa using e1) (by simpa using e2))
  | [], _ :: _, h, _ => by simp at h
  | _ :: _, [], h, _ => by simp at h
theorem dfs_get {K : PySem.W.Frag} {H : Hp} {ρ : Pl} {ds : List PyData} {xs : List V} (h : DFs K H ρ ds xs) {i : Nat} {d : PyData} {x : V} (a : ds[i]? = some d) (b : xs[i]? = some x) : DF K H ρ d x := by
  match h, i with
  | .nil, _ => simp at a
  | .cons h t, 0 => simp at a b; subst a; subst b; exact h
  | .cons h t, i + 1 => exact dfs_get t (i := i) (by simpa using a) (by simpa using b)
theorem fSorted_ok {X : Cx} {G : Gk} (C : Cw G X) : CallR X (.builtin "sorted") (rFn G fSorted) := by
  intro pins s σ H xs us Q I rx h
  obtain ⟨ρ, S, ws, sm, rw', h⟩ := h
  unfold fSorted at h
  split at h
  · obtain ⟨x, rfl, r⟩ := rws1 rw'
    obtain ⟨u, rfl, ru⟩ := vals1 rx
    split at h
    · rename_i ds e
      split at h
      · rename_i hs
        simp only [sortOk, Bool.and_eq_true, Bool.or_eq_true, List.all_eq_true, decide_eq_true_eq] at hs
        obtain ⟨a, ys, rfl, hx, hq⟩ := seqP_rep sm r e
        rcases hq with ⟨z, _⟩ | ⟨_, hq⟩
        · cases z
        cases ru
        obtain ⟨its, rv, pl, hz⟩ := I.list (C.K ▸ hq)
        have hl1 : ds.length = ys.length := hx.length
        have hl2 : ys.length = its.length := rv.length
        have hzl : (ds.zip ys).map (·.1) = ds := List.map_fst_zip (by omega)
        have hzr : (ds.zip ys).map (·.2) = ys := List.map_snd_zip (by omega)
        have hu := C.room.units
        refine PySem.W.sorted_data (β := PyData × V) (bs := ds.zip ys) (enc := fun z => z.1) (R := fun u z => RelV z.2 u ∧ DF X.K H ρ z.1 z.2) pl.isList
          (EachIs.mk (by simp; omega) fun i v z e1 e2 => ?_) (EachIs.mk (by simp; omega) fun i v z e1 e2 => ?_) (by rw [hzl]; exact fun d hd d' hd' => hs.1.1.1 d hd d' hd') (by
            rw [hzl]
            rcases hs.1.1.2 with q | q
            · exact .inl fun d hd => by
                have := q d hd
                cases d with
                | tuple l => cases l with
                  | nil => cases this
                  | cons y l => exact ⟨y, l, rfl⟩
                | _ => cases this
            · exact .inr fun d hd => by
                have := q d hd
                cases d <;> simp [isNone, isTup] at this ⊢) (by simp; have := lim_le hs.1.2; omega) (fun b hb => ?_) fun out ho hr => ?_
        · obtain ⟨d, x⟩ := z
          rw [List.getElem?_zip_eq_some] at e2
          obtain ⟨u, hu1, hu2⟩ := rv.get e2.2
          rw [hu1] at e1; cases e1
          exact ⟨hu2, C.K ▸ dfs_get hx e2.1 e2.2⟩
        · obtain ⟨d, x⟩ := z
          rw [List.getElem?_zip_eq_some] at e2
          obtain ⟨u, hu1, hu2⟩ := rv.get e2.2
          rw [hu1] at e1; cases e1
          obtain ⟨as, ra, _⟩ := DF.reads (ρ := ρ) I C.mods (C.K ▸ dfs_get hx e2.1 e2.2) hu2
          exact ⟨as, ra⟩
        · have hb' : b.1 ∈ ds := (List.of_mem_zip hb).1
          have := hs.2 _ hb'
          omega
        · have hsort : sortD ds = ((ds.zip ys).mergeSort (PySem.W.dataLe false fun z => z.1)).map (·.1) := by
            have := PySem.W.sort_maps (r := PySem.W.dataLe false fun z : PyData × V => z.1) (s := PySem.W.dataLe false id) (fun z : PyData × V => z.1) (l := ds.zip ys) fun a _ b _ => rfl
            rw [this, hzl]; rfl
          generalize (ds.zip ys).mergeSort (PySem.W.dataLe false fun z => z.1) = L at hr hsort
          have hp : DFs X.K H ρ (L.map (·.1)) (L.map (·.2)) ∧ Vals (L.map (·.2)) out := by
            clear ho hsort
            induction hr with
            | nil => exact ⟨.nil, .nil⟩
            | cons q _ ih => exact ⟨.cons q.2 ih.1, .cons q.1 ih.2⟩
          obtain ⟨c, hc⟩ := PyProof.Rows.sortedAll_at s.heap its out.toArray
          have hf : H (s.heap.objs.size + 1) = none := I.hok.fresh (Nat.le_succ _)
          have hlen : (L.map (·.2)).length ≤ sizeLine := by
            rw [Paired.length hp.2, ho]
            simp
            have := lim_le hs.1.2
            omega
          refine ⟨.ref (s.heap.objs.size + 1), _, I.laid (t' := s.toks) (o := .lst (L.map (·.2))) (fun b o q => PyProof.Rows.sortedAll_old q) (Nat.le_succ _) ⟨hlen, out, c, hp.2, hc⟩, rfl, ?_⟩
          rw [hsort] at h
          exact h.laid sm hf (C.K ▸ DF.newL (C.K ▸ sm) hf hp.1)
      · exact h.elim
    · exact h.elim
  · exact h.elim
end Pv
end

section
set_option maxRecDepth 10000
set_option maxHeartbeats 4000000
namespace Pv
open PySem PySem.Spec L2
open PyProof.Rows hiding St

/-! ## subscripts -/
theorem atI_at {α : Type} {xs : List α} {i : Int} {x : α} (h : L2.atI xs i = some x) : ∃ j, L2.ixN xs.length i = some j ∧ xs[j]? = some x := by
  unfold L2.atI at h
  cases e : L2.ixN xs.length i with
  | none => rw [e] at h; cases h
  | some j => rw [e] at h; exact ⟨j, rfl, h⟩
theorem atI_mk {α : Type} {xs : List α} {i : Int} {j : Nat} {x : α} (h : L2.ixN xs.length i = some j) (e : xs[j]? = some x) : L2.atI xs i = some x := by
  unfold L2.atI
  rw [h]; exact e
theorem paired_get {α β : Type} {F : α → β → Prop} {l : List α} {m : List β} (h : Paired F l m) {i : Nat} {a : α} (e : l[i]? = some a) : ∃ b, m[i]? = some b ∧ F a b := by
  induction h generalizing i with
  | nil => simp at e
  | cons h t ih =>
    cases i with
    | zero => simp at e; subst e; exact ⟨_, rfl, h⟩
    | succ i => simpa using ih (by simpa using e)
theorem paired_at {α β : Type} {F : α → β → Prop} {l : List α} {m : List β} (h : Paired F l m) {i : Int} {a : α} (e : L2.atI l i = some a) : ∃ b, L2.atI m i = some b ∧ F a b := by
  obtain ⟨j, h1, h2⟩ := atI_at e
  obtain ⟨b, h3, h4⟩ := paired_get h h2
  exact ⟨b, atI_mk (by rw [← Paired.length h]; exact h1) h3, h4⟩
/-- the items of a list or tuple, as values -/
def items (S : Sto) : W → Option (Bool × List W)
  | .p (.list ds) => some (false, ds.map W.p)
  | .p (.tuple ds) => some (true, ds.map W.p)
  | .s ns => some (false, ns.map fun n => W.p (.int n))
  | .r n => match S[n]? with
    | some (.l ws) => some (false, ws)
    | none => none
  | _ => none
theorem ints_rw {K : PySem.W.Frag} {ρ : Pl} {H : Hp} : ∀ {ns : List Int}, RWs K H ρ (ns.map fun n => W.p (.int n)) (ns.map V.int)
  | [] => .nil
  | _ :: _ => .cons (.int _) ints_rw
theorem items_rep {K : PySem.W.Frag} {ρ : Pl} {H : Hp} {S : Sto} (s : Sim K ρ S H) {w : W} {v : V} {b : Bool} {ws : List W} (r : RW K H ρ w v) (e : items S w = some (b, ws)) :
    ∃ a xs, v = .ref a ∧ RWs K H ρ ws xs ∧ ((b = true ∧ SqT K H a xs) ∨ (b = false ∧ SqL K H a xs)) := by
  cases w with
  | p d =>
    cases d with
    | list ds' => cases e; cases r with | lst h n t => exact ⟨_, _, rfl, t.rws, .inr ⟨rfl, .of h⟩⟩
    | tuple ds' => cases e; cases r with | tup h t => exact ⟨_, _, rfl, t.rws, .inl ⟨rfl, h.sq⟩⟩
    | _ => cases e
  | s ns =>
    cases e
    obtain ⟨a, rfl, h⟩ := r
    exact ⟨a, _, rfl, ints_rw, .inr ⟨rfl, h.sq⟩⟩
  | r n =>
    obtain ⟨a, ha, rfl⟩ := r
    unfold items at e
    cases q : S[n]? with
    | none => simp [q] at e
    | some o =>
      obtain ⟨ws'⟩ := o
      simp [q] at e
      obtain ⟨rfl, rfl⟩ := e
      obtain ⟨a', xs, h1, h2, h3⟩ := s.at_ n ws' q
      rw [ha] at h1; cases h1
      exact ⟨a, xs, rfl, h3, .inr ⟨rfl, .of h2⟩⟩
def fIx : F2 := fun S x y => match x, y with
  | .p (.str x), .p (.int i) => if x.length ≤ lim then (L2.atI x.cps.toList i).map fun c => (.p (.str ⟨#[c]⟩), S) else none
  | x, .p (.int i) => match items S x with
    | some (_, ws) => (L2.atI ws i).map fun w => (w, S)
    | none => none
  | _, _ => none
theorem IxR.imp {X : Cx} {r r' : R2} (h : IxR X r) (i : ∀ x y H Q, r' x y H Q → r x y H Q) : IxR X r' :=
  fun value slice pins s σ H x y v u Q I rx ry q => h value slice pins s σ H x y v u Q I rx ry (i _ _ _ _ q)
section
variable {X : Cx} {G : Gk} (C : Cw G X)
include C
theorem fIx_ok : IxR X (rF2 G fIx) := by
  refine IxR.imp (ix_seq (X := X)) fun x y H Q h => ?_
  obtain ⟨ρ, S, wx, wy, sm, qx, qy, h⟩ := h
  unfold fIx at h
  split at h
  · cases qx; cases qy
    split at h
    · rename_i hl
      rename_i i
      cases e : L2.atI _ i with
      | none => rw [e] at h; exact h.elim
      | some c =>
        rw [e] at h
        exact .inr (.inr ⟨_, _, c, rfl, rfl, lim_le hl, e, h.done sm (.str _)⟩)
    · exact h.elim
  · cases qy
    split at h
    · rename_i b ws e
      rename_i i _ _
      cases e2 : L2.atI ws i with
      | none => rw [e2] at h; exact h.elim
      | some w =>
        rw [e2] at h
        obtain ⟨a, xs, rfl, hx, hq⟩ := items_rep sm qx e
        obtain ⟨v, hv, rv⟩ := paired_at hx e2
        rcases hq with ⟨_, hq⟩ | ⟨_, hq⟩
        · exact .inr (.inl ⟨a, xs, i, v, rfl, rfl, by rw [C.K]; exact hq, hv, h.done sm rv⟩)
        · exact .inl ⟨a, xs, i, v, rfl, rfl, by rw [C.K]; exact hq, hv, h.done sm rv⟩
    · exact h.elim
  · exact h.elim
end
/-! ## slices -/
def cutL {α : Type} (xs : List α) (lo hi : Option Int) : List α := (xs.drop (HT.sIx xs.length 0 lo)).take (HT.sIx xs.length xs.length hi - HT.sIx xs.length 0 lo)
def fSl (lo hi : Option Int) : Sto → W → Option (W × Sto) := fun S x => match x with
  | .p (.str x) => if x.length ≤ lim then some (.p (.str (cutS x lo hi)), S) else none
  | w => match seqP S w with
    | some (true, ds) => some (.p (.tuple (cutL ds lo hi)), S)
    | some (false, ds) => some (.p (.list (cutL ds lo hi)), S)
    | none => none
def rSl (G : Gk) : V → Option Int → Option Int → Hp → VK → Prop := fun x lo hi H Q => ∃ ρ S w, Sim G.K ρ S H ∧ RW G.K H ρ w x ∧ PO G ρ H (fSl lo hi S w) Q
theorem SlR.imp {X : Cx} {r r' : V → Option Int → Option Int → Hp → VK → Prop} (h : SlR X r) (i : ∀ x lo hi H Q, r' x lo hi H Q → r x lo hi H Q) : SlR X r' :=
  fun pins s σ H x v vl vu lo hi sl Q I rx hs pl pu q => h pins s σ H x v vl vu lo hi sl Q I rx hs pl pu (i _ _ _ _ _ q)
theorem DFs.drop {K : PySem.W.Frag} {H : Hp} {ρ : Pl} : ∀ (n : Nat) {ds : List PyData} {xs : List V}, DFs K H ρ ds xs → DFs K H ρ (ds.drop n) (xs.drop n)
  | 0, _, _, h => h
  | _ + 1, _, _, .nil => .nil
  | n + 1, _, _, .cons _ t => DFs.drop n t
theorem DFs.take {K : PySem.W.Frag} {H : Hp} {ρ : Pl} : ∀ (n : Nat) {ds : List PyData} {xs : List V}, DFs K H ρ ds xs → DFs K H ρ (ds.take n) (xs.take n)
  | 0, _, _, _ => .nil
  | _ + 1, _, _, .nil => .nil
  | n + 1, _, _, .cons h t => .cons h (DFs.take n t)
theorem DFs.cut {K : PySem.W.Frag} {H : Hp} {ρ : Pl} {ds : List PyData} {xs : List V} (h : DFs K H ρ ds xs) (lo hi : Option Int) : DFs K H ρ (cutL ds lo hi) (cutV xs lo hi) := by
  unfold cutL cutV
  rw [h.length]
  exact (h.drop _).take _
theorem cut_whole {α : Type} {xs : List α} {lo hi : Option Int} (h : HT.sIx xs.length 0 lo = 0 ∧ HT.sIx xs.length xs.length hi = xs.length) : cutL xs lo hi = xs := by
  unfold cutL
  rw [h.1, h.2]
  simp
theorem fSl_ok {X : Cx} {G : Gk} (C : Cw G X) : SlR X (rSl G) := by
  refine SlR.imp ((sl_str (X := X)).or ((sl_tupA (X := X)).or (sl_list (X := X)))) fun x lo hi H Q h => ?_
  obtain ⟨ρ, S, w, sm, r, h⟩ := h
  unfold fSl at h
  split at h
  · cases r
    split at h
    · rename_i hl
      exact .inl ⟨_, rfl, lim_le hl, h.done sm (.str _)⟩
    · exact h.elim
  · split at h
    · rename_i ds e
      cases w with
      | p d =>
        cases d with
        | tuple ds' =>
          cases e
          cases r with | tup h1 t1 =>
          refine .inr (.inl ⟨_, _, rfl, by rw [C.K]; exact h1.sq, fun e => ?_, fun e p hp => h.laid sm hp (DF.newT sm hp (t1.cut lo hi))⟩)
          rw [cut_whole (by rw [t1.length]; exact e)] at h
          exact h.done sm (.tup h1 t1)
        | _ => cases e
      | s ns => cases e
      | r n =>
        unfold seqP at e
        cases q : S[n]? with
        | none => simp [q] at e
        | some o =>
          obtain ⟨ws⟩ := o
          cases q2 : deP ws <;> simp [q, q2] at e
    · rename_i ds e
      obtain ⟨a, xs, rfl, hx, hq⟩ := seqP_rep sm r e
      rcases hq with ⟨z, _⟩ | ⟨_, hq⟩
      · cases z
      · exact .inr (.inr ⟨a, xs, rfl, by rw [C.K]; exact hq, fun p hp => h.laid sm hp (DF.newL sm hp (hx.cut lo hi))⟩)
    · exact h.elim
/-! ## methods -/
abbrev FM := Sto → W → List W → Option (W × Sto)
def fAppend : FM := fun S x ws => match x, ws with
  | .r n, [w] => match S[n]? with
    | some (.l us) => if us.length ≤ lim then some (.p .none, S.set n (.l (us ++ [w]))) else none
    | none => none
  | _, _ => none
def fExtend : FM := fun S x ws => match x, ws with
  | .r n, [.p (.list ds)] => match S[n]? with
    | some (.l us) => if us.length + ds.length ≤ lim then some (.p .none, S.set n (.l (us ++ ds.map W.p))) else none
    | none => none
  | .r n, [.r m] => match S[n]?, S[m]? with
    | some (.l us), some (.l vs) => if us.length + vs.length ≤ lim then some (.p .none, S.set n (.l (us ++ vs))) else none
    | _, _ => none
  | _, _ => none
def fPopAt : FM := fun S x ws => match x, ws with
  | .r n, [.p (.int i)] => match S[n]? with
    | some (.l us) => if us.length ≤ lim then match L2.ixN us.length i with
        | some k => match us[k]? with
          | some w => some (w, S.set n (.l (us.eraseIdx k)))
          | none => none
        | none => none
      else none
    | none => none
  | _, _ => none
def fPop : FM := fun S x ws => match x, ws with
  | .r n, [] => match S[n]? with
    | some (.l us) => match us[us.length - 1]? with
      | some w => some (w, S.set n (.l us.dropLast))
      | none => none
    | none => none
  | _, _ => none
def fSet : Sto → W → W → W → Option Sto := fun S o i v => match o, i with
  | .r n, .p (.int k) => match S[n]? with
    | some (.l us) => match L2.ixN us.length k with
      | some j => some (S.set n (.l (us.set j v)))
      | none => none
    | none => none
  | _, _ => none
theorem Paired.append {α β : Type} {F : α → β → Prop} : ∀ {l l' : List α} {m m' : List β}, Paired F l m → Paired F l' m' → Paired F (l ++ l') (m ++ m')
  | _, _, _, _, .nil, h => h
  | _, _, _, _, .cons a t, h => .cons a (Paired.append t h)
theorem Paired.erase {α β : Type} {F : α → β → Prop} : ∀ {l : List α} {m : List β} (i : Nat), Paired F l m → Paired F (l.eraseIdx i) (m.eraseIdx i)
  | _, _, _, .nil => .nil
  | _, _, 0, .cons _ t => t
  | _, _, i + 1, .cons a t => .cons a (Paired.erase i t)
theorem Paired.setp {α β : Type} {F : α → β → Prop} {a : α} {b : β} (f : F a b) : ∀ {l : List α} {m : List β} (i : Nat), Paired F l m → Paired F (l.set i a) (m.set i b)
  | _, _, _, .nil => .nil
  | _, _, 0, .cons _ t => .cons f t
  | _, _, i + 1, .cons a t => .cons a (Paired.setp f i t)
theorem Paired.dropL {α β : Type} {F : α → β → Prop} {l : List α} {m : List β} (h : Paired F l m) : Paired F l.dropLast m.dropLast := by
  induction h with
  | nil => exact .nil
  | cons a t ih =>
    cases t with
    | nil => exact .nil
    | cons b t => exact .cons a ih
theorem rws2 {K : PySem.W.Frag} {H : Hp} {ρ : Pl} {w u : W} {xs : List V} (h : RWs K H ρ [w, u] xs) : ∃ x y, xs = [x, y] ∧ RW K H ρ w x ∧ RW K H ρ u y := by
  cases h with | cons a t => cases t with | cons b t => cases t; exact ⟨_, _, rfl, a, b⟩
/-- behind a change at a place -/
theorem PO.write {G : Gk} {ρ : Pl} {H : Hp} {w : W} {S : Sto} {Q : VK} {n : Nat} {us : List W} {v : V} {a : Addr} {ys : List V} (h : PO G ρ H (some (w, S.set n (.l us))) Q) (s : Sim G.K ρ S H) (ha : ρ.ρ[n]? = some a) (r : RWs G.K H ρ us ys) (rw' : RW G.K H ρ w v) : Q v (upd H a (.lst ys)) := by
  obtain ⟨e, s'⟩ := s.write ha r
  exact h v _ ρ e s' (rw'.ext e)
section
variable {X : Cx} {G : Gk} (C : Cw G X)
include C
theorem fAppend_ok : MtR X "list.append" (rFm G fAppend) := by
  refine MtR.imp (show MtR X "list.append" rAppend from mt_append (X := X)) fun x xs H Q h => ?_
  obtain ⟨ρ, S, w, ws, sm, r, rs, h⟩ := h
  unfold fAppend at h
  split at h
  · rename_i n w'
    obtain ⟨y, rfl, ry⟩ := rws1 rs
    obtain ⟨a, ha, rfl⟩ := r
    split at h
    · rename_i us e
      split at h
      · rename_i hl
        obtain ⟨a', zs, h1, h2, h3⟩ := sm.at_ _ _ e
        rw [ha] at h1; cases h1
        exact ⟨a, zs, y, rfl, rfl, h2, lim_lt (by rw [← Paired.length h3]; exact hl), h.write sm ha (Paired.append h3 (.cons ry .nil)) .non⟩
      · exact h.elim
    · exact h.elim
  · exact h.elim
theorem fExtend_ok : MtR X "list.extend" (rFm G fExtend) := by
  refine MtR.imp (show MtR X "list.extend" rExtend from mt_extend (X := X)) fun x xs H Q h => ?_
  obtain ⟨ρ, S, w, ws, sm, r, rs, h⟩ := h
  unfold fExtend at h
  split at h
  · obtain ⟨y, rfl, ry⟩ := rws1 rs
    obtain ⟨a, ha, rfl⟩ := r
    split at h
    · rename_i us e
      split at h
      · rename_i hl
        obtain ⟨a', zs, h1, h2, h3⟩ := sm.at_ _ _ e
        rw [ha] at h1; cases h1
        cases ry with | lst g1 g2 g3 =>
        exact ⟨a, _, zs, _, rfl, rfl, h2, g1, lim_le (by rw [← Paired.length h3, ← g3.length]; exact hl), h.write sm ha (Paired.append h3 g3.rws) .non⟩
      · exact h.elim
    · exact h.elim
  · obtain ⟨y, rfl, ry⟩ := rws1 rs
    obtain ⟨a, ha, rfl⟩ := r
    obtain ⟨b, hb, rfl⟩ := ry
    split at h
    · rename_i us vs e e'
      split at h
      · rename_i hl
        obtain ⟨a', zs, h1, h2, h3⟩ := sm.at_ _ _ e
        rw [ha] at h1; cases h1
        obtain ⟨b', zs', g1, g2, g3⟩ := sm.at_ _ _ e'
        rw [hb] at g1; cases g1
        exact ⟨a, b, zs, zs', rfl, rfl, h2, g2, lim_le (by rw [← Paired.length h3, ← Paired.length g3]; exact hl), h.write sm ha (Paired.append h3 g3) .non⟩
      · exact h.elim
    · exact h.elim
  · exact h.elim
theorem fPopAt_ok : MtR X "list.pop" (rFm G fPopAt) := by
  refine MtR.imp (show MtR X "list.pop" rPopAt from mt_popAt (X := X)) fun x xs H Q h => ?_
  obtain ⟨ρ, S, w, ws, sm, r, rs, h⟩ := h
  unfold fPopAt at h
  split at h
  · rename_i n i
    obtain ⟨y, rfl, ry⟩ := rws1 rs
    obtain ⟨a, ha, rfl⟩ := r
    cases ry
    split at h
    · rename_i us e
      split at h
      · rename_i hl
        split at h
        · rename_i k hk
          split at h
          · rename_i w' hw
            obtain ⟨a', zs, h1, h2, h3⟩ := sm.at_ _ _ e
            rw [ha] at h1; cases h1
            obtain ⟨v, hv, rv⟩ := paired_get h3 hw
            have hlen := Paired.length h3
            obtain ⟨q1, q2, q3, q4⟩ := L2.ixN_seq hk
            unfold lim at hl
            exact ⟨a, zs, i, k, v, rfl, rfl, h2, by omega, by omega, by rw [← hlen]; exact q1, hv, h.write sm ha (Paired.erase k h3) rv⟩
          · exact h.elim
        · exact h.elim
      · exact h.elim
    · exact h.elim
  · exact h.elim
theorem fPop_ok : MtR X "list.pop" (rFm G fPop) := by
  refine MtR.imp (show MtR X "list.pop" rPop from mt_pop (X := X)) fun x xs H Q h => ?_
  obtain ⟨ρ, S, w, ws, sm, r, rs, h⟩ := h
  unfold fPop at h
  split at h
  · rename_i n
    have := rws0 rs
    subst this
    obtain ⟨a, ha, rfl⟩ := r
    split at h
    · rename_i us e
      split at h
      · rename_i w' hw
        obtain ⟨a', zs, h1, h2, h3⟩ := sm.at_ _ _ e
        rw [ha] at h1; cases h1
        obtain ⟨v, hv, rv⟩ := paired_get h3 hw
        have hlen := Paired.length h3
        exact ⟨a, zs, v, rfl, rfl, h2, by rw [← hlen]; exact hv, h.write sm ha (Paired.dropL h3) rv⟩
      · exact h.elim
    · exact h.elim
  · exact h.elim
end
/-- o[i] = v by values -/
def rSet (G : Gk) : TSet := fun o i v H Q => ∃ ρ S wo wi wv, Sim G.K ρ S H ∧ RW G.K H ρ wo o ∧ RW G.K H ρ wi i ∧ RW G.K H ρ wv v ∧ match fSet S wo wi wv with
  | some S' => ∀ H' ρ', Ext ρ H ρ' H' → Sim G.K ρ' S' H' → Q H'
  | none => False
theorem fSet_ok {X : Cx} {G : Gk} : PSet X (rSet G) := by
  intro pins s σ H o i v ov iv u Q I ro ri rv h
  refine set_list pins s σ H o i v ov iv u Q I ro ri rv ?_
  obtain ⟨ρ, S, wo, wi, wv, sm, qo, qi, qv, h⟩ := h
  unfold fSet at h
  split at h
  · rename_i S' hS
    split at hS
    · rename_i n k
      obtain ⟨a, ha, rfl⟩ := qo
      cases qi
      split at hS
      · rename_i us e
        split at hS
        · rename_i j hj
          cases hS
          obtain ⟨a', zs, h1, h2, h3⟩ := sm.at_ _ _ e
          rw [ha] at h1; cases h1
          obtain ⟨ex, sm'⟩ := sm.write ha (Paired.setp qv j h3)
          exact ⟨a, zs, k, j, rfl, rfl, h2, by rw [← Paired.length h3]; exact hj, h _ _ ex sm'⟩
        · cases hS
      · cases hS
    · cases hS
  · exact h.elim
end Pv
end

section
set_option maxRecDepth 10000
set_option maxHeartbeats 4000000
namespace Pv
open PySem PySem.Spec L2
open PyProof.Rows hiding St

/-! ## calls of the text's defs where no repr is under way -/
structure FnG (P : Program) (w : World) (K : PySem.W.Frag) (mg : Str → Option Value) (base : Heap) (k : Nat) (f : Addr) (fd : FuncData) (ps : List Str) (sp : Sp) : Prop where
  len : ∀ vs H Q E, sp vs H Q E → vs.length = ps.length
  go : ∀ (A : Around) (outer : List Env) (s : Shared) (H : Hp) (args : Args) (us : List Value) (vs : List V) (Q : VK) (E : XK),
    Room k A → A.guards = some [] → Env0 P w K mg base A outer s H → BindsTo s fd args (ps.zip us) → Vals vs us → sp vs H Q E →
      codeAny (model P w) A (.call (.ref f) args) (CR (L2.CX P w) outer P w H s Q E) s
theorem FnG.mono {P : Program} {w : World} {K : PySem.W.Frag} {mg : Str → Option Value} {base : Heap} {j k : Nat} {f : Addr} {fd : FuncData} {ps : List Str} {sp : Sp} (F : FnG P w K mg base j f fd ps sp) (h : j ≤ k) : FnG P w K mg base k f fd ps sp :=
  ⟨F.len, fun A o s H ar us vs Q E r => F.go A o s H ar us vs Q E (r.mono h)⟩
theorem FnG.of {P : Program} {w : World} {K : PySem.W.Frag} {mg : Str → Option Value} {base : Heap} {k : Nat} {f : Addr} {fd : FuncData} {ps : List Str} {sp : Sp} (F : FnOk P w K mg base (L2.CX P w) k f fd ps sp) : FnG P w K mg base k f fd ps sp :=
  ⟨F.len, fun A o s H ar us vs Q E r _ => F.run A o s H ar us vs Q E r⟩
section
variable {X : Cx} {k : Nat} {f : Addr} {fd : FuncData} {ps : List Str} {sp : Sp} {E : XK} {x : Str} {p pos : Pos} {e : Expr} {es : List Expr} {t : TA}
/-- the callee's run, seen from the caller's body -/
theorem run_g {pins : List (Addr × Obj)} {σ : St} {H : Hp} {s : Shared} {Q : VK} {us : List Value} {vs : List V}
    (F : FnG X.prog X.w X.K X.mg X.base k f fd ps sp) (hr : Room k X.A) (hg : X.A.guards = some []) (hb : Binds X.K fd ps [])
    (hx : ∀ e s', L2.CX X.prog X.w X.stack H s E e s' → X.xe e s') (I : Inv X pins σ H s) (r : Vals vs us) (h : sp vs H Q E) :
    wpAny (model X.prog X.w) X.A (call (.ref f) us) (EP X pins σ Q) X.xe s := by
  have hl : (us ++ []).length = ps.length := by
    rw [List.append_nil, ← Paired.length r]
    exact F.len _ _ _ _ h
  have hb' := hb s us I.kIn hl
  rw [List.append_nil] at hb'
  have run := F.go X.A X.stack s H ⟨us, []⟩ us vs Q E hr hg I.env0 hb' r h
  refine wpAny_call (codeAny_mono run ?_)
  intro res s2 q
  match res, q with
  | .error e2, q => exact hx e2 s2 q
  | .ok (.ret u), q => exact I.after q
  | .ok .next, q => exact q.elim
  | .ok .brk, q => exact q.elim
  | .ok .cont, q => exact q.elim
/-- f(e, ..): what is raised is wished for at the slots of this body -/
def tCallG (sp : Sp) (E : St → XK) (t : TA) : TE := fun σ H Q => t σ H fun vs H1 => sp vs H1 Q (E σ)
theorem pe_callG {E : St → XK} (F : FnG X.prog X.w X.K X.mg X.base k f fd ps sp) (hr : Room k X.A) (hgd : X.A.guards = some []) (hg : Gl X x) (hm : X.mg x = some (.ref f)) (hk : PySem.W.keepIn X.K (.ref f) = true) (hb : Binds X.K fd ps [])
    (hx : ∀ (pins : List (Addr × Obj)) (σ : St) (H : Hp) (s : Shared) (e : Value) (s' : Shared), Inv X pins σ H s → L2.CX X.prog X.w X.stack H s (E σ) e s' → X.xe e s')
    (ha : PA X (e :: es) t) (hdb : (x == ("__debug__" : Str)) = false) (he : starEach (e :: es) X.env = (false, eval e X.env) :: starEach es X.env) (hpl : (backTo pos (starEach es X.env)).any (·.1) = false) :
    PE X (.Call (.Name x p) (e :: es) [] pos) (tCallG sp E t) := by
  refine ⟨fun pins s σ H Q I h => wpAny_Call_Name_kw (ld_glob I hg hm ?_ hdb)⟩
  have hargs := ha.run pos pins s σ H _ I h
  refine PySem.W.callWith_K (h₀ := X.base) I.ok.mod.kin hk (thn hargs ?_) he hpl
  rintro us s1 ⟨vs, H1, I1, r, q⟩
  exact ⟨I1.kIn, run_g F hr hgd hb (fun e2 s2 => hx pins σ H1 s1 e2 s2 I1) I1 r q⟩
theorem pe_callG0 {E : St → XK} (F : FnG X.prog X.w X.K X.mg X.base k f fd ps sp) (hr : Room k X.A) (hgd : X.A.guards = some []) (hg : Gl X x) (hm : X.mg x = some (.ref f)) (hk : PySem.W.keepIn X.K (.ref f) = true) (hb : Binds X.K fd ps [])
    (hx : ∀ (pins : List (Addr × Obj)) (σ : St) (H : Hp) (s : Shared) (e : Value) (s' : Shared), Inv X pins σ H s → L2.CX X.prog X.w X.stack H s (E σ) e s' → X.xe e s')
    (hdb : (x == ("__debug__" : Str)) = false) : PE X (.Call (.Name x p) [] [] pos) (tCallG sp E tNil) := by
  refine ⟨fun pins s σ H Q I h => wpAny_Call_Name_kw (ld_glob I hg hm ?_ hdb)⟩
  exact PySem.W.callWith_K0 I.kIn hk (run_g (us := []) F hr hgd hb (fun e2 s2 => hx pins σ H s e2 s2 I) I .nil h)
end
/-- a def by its body -/
theorem fnG_of {P : Program} {w : World} {K : PySem.W.Frag} {mg : Str → Option Value} {base : Heap} {k : Nat} {f : Addr} {x qual : Str} {st : Stmt} {fd : FuncData} {N ps : List Str} {sp : Sp} (F : Fun K x qual st f fd) (S : FnScope N ps (defScope st))
    (len : ∀ vs H Q E, sp vs H Q E → vs.length = ps.length)
    (hbody : ∀ (cdv : Value) (A : Around) (outer : List Env) (s : Shared) (H : Hp) (vs : List V) (Q : VK) (E : XK), Room k (A.deeper (envOfC qual (defScope st) s.heap.objs.size f cdv)) → A.guards = some [] → sp vs H Q E →
      ∃ t, PSs (cxOf (L2.CX P w) P w K mg base N qual (defScope st) f cdv A outer s H E) (defBody st) t ∧ t { nx := fun _ H' => Q .non H', rt := Q } (start N vs) H) :
    FnG P w K mg base (k + 1) f fd ps sp := by
  obtain ⟨oc, od, kV, doc, pm, an, cdv, ct, osl, rfl, lk, hcd⟩ := F.ex
  refine ⟨len, ?_⟩
  intro A outer s H args us vs Q E hr hgd e0 hb r hsp
  have hlen := len _ _ _ _ hsp
  have keepB : ∀ b o, base.get? b = some o → s.heap.get? b = some o := fun b o e => (e0.bs b o e).1
  have KX : K.In s.heap := e0.mod.kin.keeps keepB
  refine codeAny_call_function hr.depth (KX _ _ lk) rfl S.co S.gen rfl (PySem.W.codeRec_of KX hcd) (hb _ _ _ _ ?_)
  refine wpAny_newFunctionEnv_cells S.kind ?_ ?_
  · rintro ⟨n, v⟩ hy
    rcases S.par n (List.of_mem_zip hy).1 with q | q
    · exact .inl q
    · exact .inr ⟨q, PySem.W.cellsFrom_some _ _ _ (.inl q)⟩
  · intro env he s1 hx
    subst he
    refine ⟨(e0.mod.nolimit.keeps keepB).keeps hx.toInCall.keep, codeAny_func ?_⟩
    obtain ⟨t, ht, hq⟩ := hbody cdv A outer s H vs Q E (hr.deeper _) hgd hsp
    have I := inv_start (CX := L2.CX P w) (mg := mg) (base := base) (K := K) (P := P) (w := w) (E := E) S hr.hd e0 hlen r hx
    have fin : ∀ {σ' : St} {H' : Hp} {v : V} {u : Value} {s' : Shared}, Inv (cxOf (L2.CX P w) P w K mg base N qual (defScope st) f cdv A outer s H E) [] σ' H' s' → RelV v u → Q v H' → CE outer P w H s Q u s' := by
      intro σ' H' v u s' J rv q
      exact ⟨v, H', J.os, J.bare, J.base, J.hok, rv, q⟩
    refine wpAny_mono (ht.run [] s1 (start N vs) H _ I hq) ?_ fun e s' hs => hs
    intro fl s' hs
    match fl, hs with
    | .ret u, ⟨v, σ', H', J, rv, q⟩ => exact fin J rv q
    | .next, ⟨σ', H', J, q⟩ => exact fin (v := V.non) (u := Value.none) J rfl q
    | .brk, ⟨_, _, _, q⟩ => exact q.elim
    | .cont, ⟨_, _, _, q⟩ => exact q.elim
end Pv
end

section
set_option maxRecDepth 10000
set_option maxHeartbeats 4000000
namespace HT
open PySem PySem.Spec PyProof.Rows
section
variable {prog : Program} {w : World} {A : Around} {E : Value → Shared → Prop} {s : Shared}
theorem fm_congr {α β : Type} {f g : α → Option β} : ∀ {l : List α}, (∀ x, x ∈ l → f x = g x) → l.filterMap f = l.filterMap g
  | [], _ => rfl
  | x :: r, h => by
    rw [List.filterMap_cons, List.filterMap_cons, h x (List.mem_cons_self ..), fm_congr fun y hy => h y (List.mem_cons_of_mem _ hy)]
theorem places_rev (n : Nat) : Builtin.Slice.slicePlaces ((n : Int) - 1) (-1) (-1) = n := by
  unfold Builtin.Slice.slicePlaces
  have h1 : ¬ ((-1 : Int) > 0) := by omega
  simp only [h1, if_false]
  split
  · have e : ((n : Int) - 1 - -1 - 1) / (- -1) + 1 = n := by
      rw [show (- -1 : Int) = 1 by decide, Int.ediv_one]
      omega
    rw [e]
    omega
  · omega
theorem sliceApplied_rev {sl : Addr} {vs : Value} {n : Nat} {Q : Int × Int × Nat → Shared → Prop} (hs : s.heap.IsSliceOf sl .none .none vs) (ps : IsPart vs (some (-1)))
    (h : Q ((n : Int) - 1, -1, n) s) : wpAny (model prog w) A (Builtin.Slice.sliceApplied (.ref sl) (pure (n : Int))) Q E s := by
  obtain ⟨os, hos, hcs, hds⟩ := id hs
  unfold Builtin.Slice.sliceApplied Builtin.Slice.sliceFields
  refine wpAny_bind (wpAny_bind (wpAny_field hos hds (x := .none) rfl (wpAny_bind (wpAny_field hos hds (x := .none) rfl (wpAny_bind (wpAny_field hos hds (x := vs) rfl (wpAny_pure ?_)))))))
  refine wpAny_bind (slicePart_ ps ?_)
  show wpAny _ _ (if ((-1 : Int) == 0) = true then _ else _) _ _ s
  rw [if_neg (by decide)]
  refine wpAny_bind (slicePart_none (wpAny_bind (slicePart_none (wpAny_bind (wpAny_pure ?_)))))
  show wpAny _ _ (pure ((n : Int) - 1, (-1 : Int), Builtin.Slice.slicePlaces ((n : Int) - 1) (-1) (-1))) _ _ s
  rw [places_rev]
  exact wpAny_pure h
theorem pick_rev (xs : Array Value) : ((List.range xs.size).filterMap fun (k : Nat) => xs[(((xs.size : Int) - 1) + (k : Int) * (-1)).toNat]?).toArray = xs.toList.reverse.toArray := by
  have e : (List.range xs.size).filterMap (fun (k : Nat) => xs[(((xs.size : Int) - 1) + (k : Int) * (-1)).toNat]?) = ((List.range xs.size).map fun k => xs.size - 1 - k).filterMap (xs[·]?) := by
    rw [List.filterMap_map]
    refine fm_congr fun k hk => ?_
    have := List.mem_range.mp hk
    have e2 : (((xs.size : Int) - 1) + (k : Int) * (-1)).toNat = xs.size - 1 - k := by omega
    rw [e2]
    rfl
  rw [e, PySem.W.krv_range, List.filterMap_reverse, PySem.W.krv_all]
theorem getItem_tuple_rev {t sl : Addr} {items : Array Value} {vs : Value} {Q : Value → Shared → Prop} (ht : IsTup s.heap t items) (hs : s.heap.IsSliceOf sl .none .none vs) (ps : IsPart vs (some (-1)))
    (h : Q (.ref s.heap.objs.size) { s with heap := s.heap.push { cls := .type "tuple", data := .seq items.toList.reverse.toArray } })
    (hsz : items.size ≤ sizeLine) : wpAny (model prog w) A (getItem (.ref t) (.ref sl)) Q E s := by
  have htake : sizeOk (.seq items.toList.reverse.toArray) := by
    show items.toList.reverse.toArray.size ≤ sizeLine
    rw [List.size_toArray, List.length_reverse, Array.length_toList]
    omega
  obtain ⟨os, hos, hcs, hds⟩ := id hs
  have hTs : s.TypeIs (.ref sl) "slice" := ⟨os, hos, hcs⟩
  unfold getItem
  try with_reducible refine wpAny_holding ?_
  first | refine wpAny_bind (wpAny_pure ?_) | skip
  refine wpAny_bind (wpAny_sequenceKey ht.typeIs (by decide) ?_)
  refine wpAny_bind (wpAny_callSpecial?_slot (name := Str.ofString "__getitem__") ht.typeIs PyProof.Rows.slot_tuple_getitem
    (wpAny_call_entry PyProof.Rows.slot_tuple_getitem ht.typeIs entry_tuple_getitem ?_ (args_tuple_getitem _ _)))
  show wpAny _ _ (Builtin.Tuple.tupleItemsOf (.ref t) >>= _) _ _ s
  refine wpAny_bind (tupleItemsOf_ ht ?_)
  refine wpAny_bind (wpAny_typeOf hTs ?_)
  rw [if_pos (by decide)]
  refine wpAny_bind (sliceApplied_rev hs ps ?_)
  have hno : ¬ ((((items.size : Int) - 1) == 0 && (-1 : Int) == 1 && items.size == items.size) = true) := by
    simp
  show wpAny _ _ (if (((items.size : Int) - 1) == 0 && (-1 : Int) == 1 && items.size == items.size) = true then _ else _) _ _ s
  rw [if_neg hno, pick_rev]
  first
    | exact wpAny_bind (m := Builtin.Tuple.tupleExact _) (wpAny_newObj_type (wpAny_pure ⟨_, rfl, wpAny_pure h⟩) htake)
    | exact wpAny_bind (m := Builtin.Tuple.tupleExact _) (wpAny_newObj_type (wpAny_bind (wpAny_pure (wpAny_pure ⟨_, rfl, wpAny_pure h⟩))) htake)
    | exact wpAny_bind (wpAny_bind (m := Builtin.Tuple.tupleExact _) (wpAny_newObj_type (wpAny_pure (wpAny_pure ⟨_, rfl, wpAny_pure h⟩)) htake))
    | exact wpAny_bind (wpAny_bind (m := Builtin.Tuple.tupleExact _) (wpAny_newObj_type (wpAny_pure ⟨_, rfl, wpAny_pure h⟩) htake))
end
end HT
namespace Pv
open PySem PySem.Spec L2
open PyProof.Rows hiding St
abbrev F1 := Sto → W → Option (W × Sto)
def rF1 (G : Gk) (f : F1) : V → Hp → VK → Prop := fun x H Q => ∃ ρ S w, Sim G.K ρ S H ∧ RW G.K H ρ w x ∧ PO G ρ H (f S w) Q
def fRev : F1 := fun S w => match w with
  | .p (.tuple ds) => some (.p (.tuple ds.reverse), S)
  | .p (.list ds) => some (.p (.list ds.reverse), S)
  | _ => none
theorem DFs.rev {K : PySem.W.Frag} {H : Hp} {ρ : Pl} {ds : List PyData} {xs : List V} (h : DFs K H ρ ds xs) : DFs K H ρ ds.reverse xs.reverse := by
  suffices key : ∀ {ds : List PyData} {xs : List V} {es : List PyData} {ys : List V}, DFs K H ρ ds xs → DFs K H ρ es ys → DFs K H ρ (ds.reverseAux es) (xs.reverseAux ys) from key h .nil
  intro ds
  induction ds with
  | nil => intro xs es ys h1 h2; cases h1; exact h2
  | cons d ds ih =>
    intro xs es ys h1 h2
    cases h1 with
    | cons a t =>
      have := ih t (DFs.cons a h2)
      exact this
theorem pe_rev {X : Cx} {G : Gk} (C : Cw G X) {e : Expr} {te : TE} {k : Nat} {p1 p2 p3 pos : Pos} (he : PE X e te) : PE X (.Subscript e (.Slice none none (some (.UnaryOp .USub (.Constant (.int 1) k p1) p2)) p3) pos)
    (fun σ H Q => te σ H fun x H1 => rF1 G fRev x H1 Q) := by
  refine ⟨fun pins s σ H Q I h => ?_⟩
  refine Subscript_ (thn (he.run pins s σ H _ I h) fun v s1 ⟨x, H1, I1, r1, q1⟩ => ?_)
  obtain ⟨ρ, S, w, sm, rw', hq⟩ := q1
  have hst : L2.PO X (some (.UnaryOp .USub (.Constant (.int 1) k p1) p2)) (tPart (tUn (rU fun i => .int (-i)) (tC (.int 1)))) := po_some (pe_un un_neg pe_int)
  refine wpAny_Slice (thn (po_none.run pins s1 σ H1 (fun o H2 => o = none ∧ H2 = H1) I1 ⟨rfl, rfl⟩) fun vl s2 ⟨l, H2, I2, pl, el, e2⟩ => ?_)
  subst el e2
  refine thn (po_none.run pins s2 σ H2 (fun o H3 => o = none ∧ H3 = H2) I2 ⟨rfl, rfl⟩) fun vu s3 ⟨u, H3, I3, pu, eu, e3⟩ => ?_
  subst eu e3
  refine thn (hst.run pins s3 σ H3 (fun o H4 => o = some (-1) ∧ H4 = H3) I3 ⟨1, rfl, -1, rfl, rfl, rfl⟩) fun vs s4 ⟨o, H4, I4, ps, eo, e4⟩ => ?_
  subst eo e4
  have I5 : Inv X pins σ H4 { s4 with heap := s4.heap.push { cls := .type "slice", data := .fields #[vl, vu, vs] } } := I4.kept (t' := s4.toks) fun b ob q => Heap.get?_push_of_some _ q
  unfold fRev at hq
  split at hq
  · rename_i ds
    cases rw' with | tup hx hd =>
    cases r1
    have hx' := hx.sq
    rw [← C.K] at hx'
    obtain ⟨its, r, ht, hz⟩ := I5.tuple hx'
    have hlen := r.length
    show wpAny (model X.prog X.w) X.A (subscriptTail e (.Slice none none (some (.UnaryOp .USub (.Constant (.int 1) k p1) p2)) p3) (.ref _) (.ref s4.heap.objs.size)) (EP X pins σ Q) X.xe { s4 with heap := s4.heap.push { cls := .type "slice", data := .fields #[vl, vu, vs] } }
    cases pl
    cases pu
    refine tail_any (ops := [.ref _, .ref s4.heap.objs.size]) ht.typeIs (PyProof.Rows.slot_tuple_getitem.lookup) ?_ (by with_unfolding_all rfl)
    refine HT.getItem_tuple_rev ht (Heap.IsSliceOf.new _ .none .none vs) ps ?_ (by rw [List.size_toArray]; omega)
    exact ⟨.ref _, _, I5.laid (t' := s4.toks) (o := .tup _) (fun b ob q => Heap.get?_push_of_some _ q) (Nat.le_refl _) ⟨by rw [List.length_reverse]; exact hz, _, r.reverse, ⟨_, Heap.get?_push_size _ rfl, rfl, _, rfl⟩⟩, rfl,
      hq.laid sm (I5.hok.fresh (Nat.le_refl _)) (DF.newT sm (I5.hok.fresh (Nat.le_refl _)) hd.rev)⟩
  · rename_i ds
    cases rw' with | lst hx hn hd =>
    cases r1
    have hx' : SqL G.K H4 _ _ := .inl (.inl hx)
    rw [← C.K] at hx'
    obtain ⟨its, r, ht, hz⟩ := I5.list hx'
    have hlen := r.length
    show wpAny (model X.prog X.w) X.A (subscriptTail e (.Slice none none (some (.UnaryOp .USub (.Constant (.int 1) k p1) p2)) p3) (.ref _) (.ref s4.heap.objs.size)) (EP X pins σ Q) X.xe { s4 with heap := s4.heap.push { cls := .type "slice", data := .fields #[vl, vu, vs] } }
    refine tail_any (ops := [.ref _, .ref s4.heap.objs.size]) ht.isList.typeIs (PySem.slot_list_getitem.lookup) ?_ (by with_unfolding_all rfl)
    refine wpAny_getItem_list_slice ht.isList (Heap.IsSliceOf.new _ vl vu vs) pl pu ps (by decide) ?_ (by rw [List.size_toArray]; omega)
    rw [PySem.W.krv_pick]
    exact ⟨.ref _, _, I5.laid (t' := s4.toks) (o := .lst _) (fun b ob q => Heap.get?_push_of_some _ q) (Nat.le_refl _) ⟨by rw [List.length_reverse]; exact hz, _, 0, r.reverse, Heap.get?_push_size _ rfl⟩, rfl,
      hq.laid sm (I5.hok.fresh (Nat.le_refl _)) (DF.newL sm (I5.hok.fresh (Nat.le_refl _)) hd.rev)⟩
  · exact hq.elim
end Pv
end

section
set_option maxRecDepth 10000
set_option maxHeartbeats 4000000
namespace Pv
open PySem PySem.Spec L2
open PyProof.Rows hiding St

/-! ### sep.join(texts) -/
def strsP : List PyData → Option (List Str)
  | [] => some []
  | .str x :: r => (strsP r).map (x :: ·)
  | _ :: _ => none
def fJoin : F2 := fun S x y => match x with
  | .p (.str a) => match seqP S y with
    | some (_, ds) => match strsP ds with
      | some ys => if decide ((ys.map (·.length)).sum + ys.length * a.length ≤ 16777216) then some (.p (.str (Txt.join a ys)), S) else none
      | none => none
    | none => none
  | _ => none
theorem strsP_rep {K : PySem.W.Frag} {H : Hp} {ρ : Pl} : ∀ {ds : List PyData} {xs : List V} {ys : List Str}, DFs K H ρ ds xs → strsP ds = some ys → xs = ys.map V.str
  | [], _, _, .nil, e => by cases e; rfl
  | d :: r, _, ys, .cons h t, e => by
    cases h with
    | str x =>
      simp only [strsP] at e
      cases q : strsP r with
      | none => rw [q] at e; cases e
      | some zs =>
        rw [q] at e
        cases e
        rw [strsP_rep t q]
        rfl
    | _ => simp [strsP] at e
theorem fJoin_ok {X : Cx} {G : Gk} (C : Cw G X) : MtR X "str.join" (fun x xs H Q => ∃ y, xs = [y] ∧ rF2 G fJoin x y H Q) := by
  refine MtR.imp (mt_join (X := X)) fun x xs H Q h => ?_
  obtain ⟨y, rfl, ρ, S, wx, wy, sm, rx, ry, h⟩ := h
  unfold fJoin at h
  split at h
  · rename_i a
    cases rx
    split at h
    · rename_i b ds e
      split at h
      · rename_i ys e2
        split at h
        · rename_i hz
          obtain ⟨p, us, rfl, hx, hq⟩ := seqP_rep sm ry e
          have hu := strsP_rep hx e2
          subst hu
          exact ⟨a, p, ys, rfl, rfl, by rw [C.K]; exact seq_or hq, of_decide_eq_true hz, h.done sm (.str _)⟩
        · exact h.elim
      · exact h.elim
    · exact h.elim
  · exact h.elim
/-! ### a new list that may be changed -/
def fListM : FL1 := fun S ws => match ws with
  | [w] => match seqP S w with
    | some (_, ds) => some (.r S.length, S ++ [.l (ds.map W.p)])
    | none => none
  | _ => none
theorem DFs.ps {K : PySem.W.Frag} {H : Hp} {ρ : Pl} : ∀ {ds : List PyData} {xs : List V}, DFs K H ρ ds xs → RWs K H ρ (ds.map W.p) xs
  | _, _, .nil => .nil
  | _, _, .cons h t => .cons h (DFs.ps t)
theorem fListM_ok {X : Cx} {G : Gk} (C : Cw G X) : CallR X (.type "list") (rFn G fListM) := by
  refine CallR.imp (call_list_of (X := X)) fun xs H Q h => ?_
  obtain ⟨ρ, S, ws, sm, rw', h⟩ := h
  unfold fListM at h
  split at h
  · obtain ⟨x, rfl, r⟩ := rws1 rw'
    split at h
    · rename_i b ds e
      obtain ⟨a, ys, rfl, hx, hq⟩ := seqP_rep sm r e
      refine ⟨a, ys, rfl, by rw [C.K]; exact seq_or hq, fun l hl => ?_⟩
      obtain ⟨e1, s1⟩ := sm.new hl hx.ps
      refine h _ _ _ e1 s1 ⟨l, ?_, rfl⟩
      show (ρ.ρ ++ [l])[S.length]? = some l
      rw [List.getElem?_append_right (by rw [sm.len]; exact Nat.le_refl _), sm.len, Nat.sub_self]
      rfl
    · exact h.elim
  · exact h.elim
/-! ### dict displays: empty; one text and its constant -/
def atomP : PyData → Bool
  | .none | .bool _ | .int _ | .str _ => true
  | _ => false
end Pv
end

section
set_option maxRecDepth 100000
set_option maxHeartbeats 4000000
namespace PySem
open Sem (wp)
theorem meets_enumerate_newB1 {v : Value} {o : Obj} {H : Heap → Prop} (B : Begins v o H) :
    Meets (Builtin.«enumerate.__new__» ⟨[.type "enumerate", v], []⟩) (fun _ R s => H s.heap ∧
      R (.ok (.ret (.ref (s.heap.push o).objs.size))) { s with heap := (s.heap.push o).push { cls := .type "enumerate", data := .fields #[.none, .bool false, .ref s.heap.objs.size, rawInt 0, .none, .none] } }) :=
  .of_wp fun prog w A R s h => by
    obtain ⟨hp, g, d, tk, os⟩ := s; obtain ⟨h1, h⟩ := h
    have hsub := sub_enumerate
    have q1 : ∀ {A' : Around} {E : Value → Shared → Prop} {Q : Value → Shared → Prop}, Q (.ref hp.objs.size) ⟨hp.push o, g, d, tk, os⟩ → wpAny (model prog w) A' (pyIter v) Q E ⟨hp, g, d, tk, os⟩ :=
      fun q => B.iter prog w _ _ ⟨hp, g, d, tk, os⟩ _ h1 q
    wp_walk using q1
    refine wpAny_stack_any fun st => wpAny_pure ?_
    split
    · rename_i c _ _ _ _ _
      cases (c == Value.type "enumerate")
      · wp_walk using q1
        exact ⟨_, rfl, h⟩
      · wp_walk using q1
        exact ⟨_, rfl, h⟩
    · wp_walk using q1
      exact ⟨_, rfl, h⟩
end PySem
namespace L2
open PySem PySem.Spec PyProof.Rows
section
variable {prog : Program} {w : World} {A : Around} {E : Value → Shared → Prop} {s : Shared}
theorem call_enumerate_tup {l : Addr} {items : Array Value} {Q : Value → Shared → Prop} (hL : IsTup s.heap l items)
    (h : ∀ h', IsEnum h' (s.heap.objs.size + 1) s.heap.objs.size 0 .none → h'.IsTupleIter s.heap.objs.size l 0 → h'.objs.size = s.heap.objs.size + 2 →
      (∀ b o, s.heap.get? b = some o → h'.get? b = some o) → Q (.ref (s.heap.objs.size + 1)) { s with heap := h' }) :
    wpAny (model prog w) A (call (.type "enumerate") [.ref l]) Q E s := by
  refine callType_new F.called_enumerate (by decide) (F.typeCall_enumerate_1 _) (F.newCall_enumerate_1 _) (fun obj => F.args_object_init_2 obj _) F.entry_enumerate_new
    (meets_enumerate_newB1 (begins_tuple l items)) ⟨hL, ?_⟩
  have hz : (s.heap.push { cls := .type "tuple_iterator", data := .fields #[.ref l, .int 0 0] }).objs.size = s.heap.objs.size + 1 := Heap.size_push ..
  show _ ∧ _
  rw [hz]
  have he : IsEnum ((s.heap.push { cls := .type "tuple_iterator", data := .fields #[.ref l, .int 0 0] }).push
      { cls := .type "enumerate", data := .fields #[.none, .bool false, .ref s.heap.objs.size, rawInt 0, .none, .none] }) (s.heap.objs.size + 1) s.heap.objs.size 0 .none := by
    have := Heap.get?_push_size (s.heap.push { cls := .type "tuple_iterator", data := .fields #[.ref l, .int 0 0] })
      (o := { cls := .type "enumerate", data := .fields #[.none, .bool false, .ref s.heap.objs.size, rawInt 0, .none, .none] }) rfl
    rw [hz] at this; exact this
  refine ⟨⟨_, he, rfl⟩, h _ he ⟨_, Heap.get?_push_of_some _ (Heap.get?_push_size _ rfl), rfl, rfl⟩ (by rw [Heap.size_push, hz]) fun b o x => Heap.get?_push_of_some _ (Heap.get?_push_of_some _ x)⟩
end
theorem pyNext_enum_end_tup {prog : Program} {w : World} {A : Around} {E : Value → Shared → Prop} {s : Shared} {e it l : Addr} {i : Nat} {items : Array Value} {c : Int} {old : Value} {Q : Option Value → Shared → Prop}
    (hh : A.in1.handled = none) (he : IsEnum s.heap e it c old) (hit : s.heap.IsTupleIter it l i) (ht : s.heap.IsTuple l items) (hn : items[i]? = none)
    (hQ : ∀ h', Heap.ExtBut it s.heap h' → Q none { s with heap := h' }) : wpAny (model prog w) A (pyNext (.ref e)) Q E s := by
  have hT : s.TypeIs (.ref e) "enumerate" := ⟨_, he, rfl⟩
  unfold pyNext
  refine wpAny_bind (wpAny_attempt (wpAny_callSpecial?_slot (name := Str.ofString "__next__") hT F.slot_enumerate_next
    (wpAny_call_entry F.slot_enumerate_next hT F.entry_enumerate_next ?_ (F.args_enumerate_next_1 _))))
  show wpAny _ _ (field (.ref e) 2 >>= _) _ _ _
  refine wpAny_bind (wpAny_field he rfl (x := .ref it) rfl ?_)
  refine wpAny_bind (wpAny_nextOf_tuple_end hh hit ht hn fun h' x he' hx' => ?_)
  obtain ⟨o, ho, hc⟩ := hx'
  refine wpAny_bind (wpAny_isInstance (T := "StopIteration") (b := true) ⟨o, ho, hc⟩ isSubtype_stop ?_)
  exact wpAny_pure (hQ _ he')
/-- the tuple at a, each item with its number in a new pair -/
def IteT (K : PySem.W.Frag) (a : Addr) : It :=
  ⟨fun i H => ∃ (xs : List V) (x : V), SqT K H a xs ∧ xs[i]? = some x, fun i H v H' => ∃ T x, v = .ref T ∧ H T = none ∧ H' = upd H T (.tup [.int (i : Nat), x]) ∧ ∀ xs, SqT K H a xs → xs[i]? = some x, fun i H => ∃ xs : List V, SqT K H a xs ∧ xs.length ≤ i⟩
theorem turn_enumT {P : Program} {w : World} {K : PySem.W.Frag} {elts : List Expr} {kk : Nat} {tpos : Pos} (a e it : Addr) :
    Turn P w K (.Tuple elts kk tpos) (IteT K a) [e, it] e (fun i h => (∃ old, IsEnum h e it ((i : Nat) : Int) old) ∧ h.IsTupleIter it a i ∧ e ≠ it ∧ a ≠ e ∧ a ≠ it) where
  mem := by simp
  obj := fun i h st b hb => by
    obtain ⟨⟨old, he⟩, ⟨o, ho, hc, hd⟩, _⟩ := st
    have e' : b = e ∨ b = it := by simpa using hb
    rcases e' with z | z
    · rw [z]; exact ⟨_, he, fun v q => nomatch q⟩
    · rw [z]; exact ⟨o, ho, fun v q => by rw [hd] at q; cases q⟩
  keep := fun i h h' st k => let ⟨⟨old, he⟩, hi, hne⟩ := st; ⟨⟨old, k e (by simp) _ he⟩, hi.at fun o q => k it (by simp) o q, hne⟩
  item := by
    intro X hP hw hK hc i pins s σ H E I hf st hg
    subst hP hw hK
    obtain ⟨⟨old, he⟩, hit, hne, hae, hai⟩ := st
    obtain ⟨xs, x, hq, hx⟩ := hg
    obtain ⟨its, rv, p, hz⟩ := I.tuple hq
    obtain ⟨u, hu, ru⟩ := rv.get hx
    have hel : e < s.heap.objs.size := Heap.lt_size he
    have hil : it < s.heap.objs.size := by obtain ⟨_, q, _⟩ := hit; exact Heap.lt_size q
    have hlt : i < its.toArray.size := by
      have := (List.getElem?_eq_some_iff.mp hu).1
      simpa using this
    have hcalm : X.A.in1.handled = none := I.ok.hd hc
    refine wpAny_pyNext_enum_itemD (Draws.tuple hcalm it a hai its.toArray) he ⟨hit, p⟩ hlt hne (by simp [hne, hae.symm]) fun u' h' tk hP ho st' hT hsz hk => ?_
    have hu' : u' = u := by
      have : its.toArray[i]? = some u' := hP
      simp only [List.getElem?_toArray] at this
      exact Option.some.inj (this.symm.trans hu)
    subst hu'
    refine ⟨_, rfl, wpAny_letOwnedTupleGo_enum (s := { s with heap := h', toks := tk + 1 }) ho fun h'' he' sb => ?_⟩
    have hT2 : h''.get? s.heap.objs.size = some { cls := .type "tuple", data := .seq #[.int i tk, u'] } := (sb.2 _ (Nat.ne_of_gt hel)).trans hT
    have new : ObjOk X.prog X.w (upd H s.heap.objs.size (.tup [.int (i : Nat), x])) h'' s.heap.objs.size (.tup [.int (i : Nat), x]) :=
      ⟨by show 2 ≤ sizeLine; decide, [.int i tk, u'], .cons ⟨_, rfl⟩ (.cons ru .nil), ⟨_, hT2, rfl, _, rfl⟩⟩
    have I1 : Inv X pins σ (upd H s.heap.objs.size (.tup [.int (i : Nat), x])) { s with heap := h'', toks := tk + 1 } :=
      I.turnedNew (ch := [e, it]) (fun b ob hb q => (sb.2 b (fun z => hb (by simp [z]))).trans (hk b ob (fun z => hb (by simp [z])) (fun z => hb (by simp [z])) q)) hf (Nat.le_refl _) new
    refine ⟨.ref s.heap.objs.size, _, I1, rfl, ⟨_, x, rfl, I.hok.fresh (Nat.le_refl _), rfl, fun ys hy => by rw [I.tuple_inj hy hq]; exact hx⟩, ⟨⟨u', ?_⟩, st'.1.at fun o q => (sb.2 it (Ne.symm hne)).trans q, hne, hae, hai⟩, fun b hb => ?_⟩
    · have e1 : ((i + 1 : Nat) : Int) = (i : Int) + 1 := by omega
      rw [e1]; exact he'
    · have hb' : b < s.heap.objs.size := by
        have e' : b = e ∨ b = it := by simpa using hb
        rcases e' with z | z
        · rw [z]; exact hel
        · rw [z]; exact hil
      rw [upd_ne (Nat.ne_of_lt hb')]
      exact (hf b hb).1
  done := by
    intro X hP hw hK hc i pins s σ H E I hf st hg
    subst hP hw hK
    obtain ⟨⟨old, he⟩, hit, hne, hae, hai⟩ := st
    obtain ⟨xs, hq, hx⟩ := hg
    obtain ⟨its, rv, p, hz⟩ := I.tuple hq
    obtain ⟨f0, f1, f2, f3, f4, f5⟩ := hf it (by simp)
    have hl := rv.length
    have hcalm : X.A.in1.handled = none := I.ok.hd hc
    exact pyNext_enum_end_tup hcalm he hit p (by simp; omega) fun h' eb => ⟨rfl, I.turned (t' := s.toks) (fun b o hb q => eb b o hb q) f0 f1 f3 f4 f5⟩
  self := fun A i s Q E st h => let ⟨⟨_, he⟩, _⟩ := st; wpAny_pyIter_enum he h
def iEnumT (K : PySem.W.Frag) (ta : TA) : TI := fun σ H R => ta σ H fun vs H1 => ∃ a xs, vs = [.ref a] ∧ SqT K H1 a xs ∧ R (IteT K a) H1
theorem pi_enumT {X : Cx} {e : Expr} {ta : TA} {p pos tpos : Pos} {elts : List Expr} {kk : Nat} (hg : Gl X "enumerate") (hm : X.mg "enumerate" = none) (ha : PA X [e] ta) (hs : starEach [e] X.env = [(false, eval e X.env)]) :
    PI X (.Tuple elts kk tpos) (.Call (.Name "enumerate" p) [e] [] pos) (iEnumT X.K ta) := by
  refine ⟨fun pins s σ H R I h => ?_⟩
  refine Call_ (ld_blt I hg hm boot_enumerate (PyProof.Rows.callWith_type1 (thn (ha.run pos pins s σ H _ I h) fun us s1 ⟨vs, H1, I1, r1, q1⟩ => ?_) hs rfl))
  obtain ⟨a, xs, ex, hq, q⟩ := q1
  subst ex
  cases r1 with
  | cons r rr =>
    cases rr
    cases r
    obtain ⟨its, rv, p', hz⟩ := I1.tuple hq
    have hal : a < s1.heap.objs.size := by obtain ⟨_, q, _⟩ := p'; exact Heap.lt_size q
    refine call_enumerate_tup p' fun h' he hit hsz hk => wpAny_pyIter_enum he ?_
    have I2 : Inv X pins σ H1 { s1 with heap := h' } := I1.kept (t' := s1.toks) hk
    refine ⟨s1.heap.objs.size + 1, [s1.heap.objs.size + 1, s1.heap.objs.size], _, _, H1, rfl, I2, turn_enumT a (s1.heap.objs.size + 1) s1.heap.objs.size, ⟨⟨.none, he⟩, hit, Nat.succ_ne_self _, Nat.ne_of_lt (Nat.lt_succ_of_lt hal), Nat.ne_of_lt hal⟩, fun b hb => ?_, q⟩
    have e' : b = s1.heap.objs.size + 1 ∨ b = s1.heap.objs.size := by simpa using hb
    have hle : s1.heap.objs.size ≤ b := by
      rcases e' with z | z
      · rw [z]; exact Nat.le_add_right _ _
      · rw [z]; exact Nat.le_refl _
    exact I1.fpOk hle (I1.hok.fresh hle)
end L2
end

section
set_option maxRecDepth 10000
set_option maxHeartbeats 4000000
namespace Pv
open PySem PySem.Spec L2
open PyProof.Rows hiding St

/-! ## the same data -/
mutual
def eqD : PyData → PyData → Bool
  | .none, .none => true
  | .bool a, .bool b => a == b
  | .int a, .int b => decide (a = b)
  | .str a, .str b => decide (a = b)
  | .list a, .list b => eqDs a b
  | .tuple a, .tuple b => eqDs a b
  | .dict a, .dict b => eqDk a b
  | _, _ => false
def eqDs : List PyData → List PyData → Bool
  | [], [] => true
  | a :: r, b :: s => eqD a b && eqDs r s
  | _, _ => false
def eqDk : List (PyData × PyData) → List (PyData × PyData) → Bool
  | [], [] => true
  | (a, b) :: r, (c, d) :: s => eqD a c && eqD b d && eqDk r s
  | _, _ => false
end
mutual
theorem eqD_eq : ∀ {a b : PyData}, eqD a b = true → a = b
  | .none, b, h => by cases b <;> simp [eqD] at h ⊢
  | .bool a, b, h => by cases b <;> simp [eqD] at h ⊢; exact h
  | .int a, b, h => by cases b <;> simp [eqD] at h ⊢; exact h
  | .str a, b, h => by cases b <;> simp [eqD] at h ⊢; exact h
  | .list a, b, h => by
    cases b <;> simp only [eqD, Bool.false_eq_true] at h
    rw [eqDs_eq h]
  | .tuple a, b, h => by
    cases b <;> simp only [eqD, Bool.false_eq_true] at h
    rw [eqDs_eq h]
  | .dict a, b, h => by
    cases b <;> simp only [eqD, Bool.false_eq_true] at h
    rw [eqDk_eq h]
theorem eqDs_eq : ∀ {a b : List PyData}, eqDs a b = true → a = b
  | [], b, h => by cases b <;> simp [eqDs] at h ⊢
  | x :: a, b, h => by
    cases b with
    | nil => simp [eqDs] at h
    | cons y b =>
      simp only [eqDs, Bool.and_eq_true] at h
      rw [eqD_eq h.1, eqDs_eq h.2]
theorem eqDk_eq : ∀ {a b : List (PyData × PyData)}, eqDk a b = true → a = b
  | [], b, h => by cases b <;> simp [eqDk] at h ⊢
  | (x, y) :: a, b, h => by
    cases b with
    | nil => simp [eqDk] at h
    | cons z b =>
      obtain ⟨z, w⟩ := z
      simp only [eqDk, Bool.and_eq_true] at h
      rw [eqD_eq h.1.1, eqD_eq h.1.2, eqDk_eq h.2]
end
mutual
theorem eqD_refl : ∀ a : PyData, eqD a a = true
  | .none => rfl
  | .bool a => by simp [eqD]
  | .int a => by simp [eqD]
  | .str a => by simp [eqD]
  | .list a => by simp only [eqD]; exact eqDs_refl a
  | .tuple a => by simp only [eqD]; exact eqDs_refl a
  | .dict a => by simp only [eqD]; exact eqDk_refl a
theorem eqDs_refl : ∀ a : List PyData, eqDs a a = true
  | [] => rfl
  | x :: r => by simp only [eqDs, Bool.and_eq_true]; exact ⟨eqD_refl x, eqDs_refl r⟩
theorem eqDk_refl : ∀ a : List (PyData × PyData), eqDk a a = true
  | [] => rfl
  | (x, y) :: r => by simp only [eqDk, Bool.and_eq_true]; exact ⟨⟨eqD_refl x, eqD_refl y⟩, eqDk_refl r⟩
end
def eqWs : List W → List W → Bool
  | [], [] => true
  | .p a :: r, .p b :: s => eqD a b && eqWs r s
  | _, _ => false
theorem eqWs_eq : ∀ {a b : List W}, eqWs a b = true → a = b
  | [], [], _ => rfl
  | .p x :: r, .p y :: s, h => by
    simp only [eqWs, Bool.and_eq_true] at h
    rw [eqD_eq h.1, eqWs_eq h.2]
  | [], _ :: _, h => by simp [eqWs] at h
  | .p _ :: _, [], h => by simp [eqWs] at h
  | .p _ :: _, .r _ :: _, h => by simp [eqWs] at h
  | .p _ :: _, .s _ :: _, h => by simp [eqWs] at h
  | .r _ :: _, b, h => by cases b <;> simp [eqWs] at h
  | .s _ :: _, b, h => by cases b <;> simp [eqWs] at h
theorem eqWs_refl : ∀ ds : List PyData, eqWs (ds.map W.p) (ds.map W.p) = true
  | [] => rfl
  | d :: r => by simp only [List.map_cons, eqWs, Bool.and_eq_true]; exact ⟨eqD_refl d, eqWs_refl r⟩
/-- the list at n stands as it was -/
def isL (S : Sto) (n : Nat) (ws : List W) : Bool := match S[n]? with
  | some (.l us) => eqWs us ws
  | none => false
theorem isL_eq {S : Sto} {n : Nat} {ws : List W} (h : isL S n ws = true) : S[n]? = some (.l ws) := by
  unfold isL at h
  split at h
  · rename_i us e
    rw [e, eqWs_eq h]
  · cases h
theorem isL_refl {S : Sto} {n : Nat} {ds : List PyData} (h : S[n]? = some (.l (ds.map W.p))) : isL S n (ds.map W.p) = true := by
  unfold isL
  rw [h]
  exact eqWs_refl ds
end Pv
end

section
set_option maxRecDepth 10000
set_option maxHeartbeats 4000000
namespace Pv
open PySem PySem.Spec L2
open PyProof.Rows hiding St

/-! ## the small language -/
inductive Kd where | bl | int | str | lst | tup | dic
  deriving DecidableEq
inductive BI where | len | tuple | list | abs | int | all | any | repr | sorted | listM
  deriving DecidableEq
inductive MI where | append | extend | popAt | pop
  deriving DecidableEq
/-- operations with one and with two operands that are not built-in names -/
inductive U1 where | rev
  deriving DecidableEq
inductive B2 where | join
  deriving DecidableEq
/-- targets: a slot, or a row of targets -/
inductive Tg where
  | n (i : Nat)
  | nl
  | cs (a r : Tg)
/-- expressions; lists of them by nl, cs; what a for walks by i.. -/
inductive Ex where
  | v (i : Nat) | k (d : PyData)
  | tup (es : Ex) | lst (m : Bool) (es : Ex)
  | op (o : Operator) (a b : Ex) | neg (a : Ex)
  | cmp (o : CmpOp) (a b : Ex) | chain (o o' : CmpOp) (a b c : Ex)
  | an (es : Ex) | orr (es : Ex) | no (a : Ex) | ife (c a b : Ex)
  | ix (a b : Ex) | sl (a lo hi : Ex)
  | call (f : Nat) (es : Ex) | bi (b : BI) (es : Ex) | me (m : MI) (o es : Ex)
  | isi (a : Ex) (T : Kd)
  | lc (m : Bool) (own : List Nat) (t : Tg) (it ifs e : Ex)
  | nl | cs (a r : Ex) | ss (a r : Ex) | stop | tt (e : Ex)
  | u (o : U1) (a : Ex) | b (o : B2) (a b : Ex) | g (x : Str) (d : PyData) | dic (es : Ex)
  | iSeq (e : Ex) | iRng (e : Ex) | iRng2 (a b : Ex) | iEnum (e : Ex) | iZip (a b : Ex)
/-- statements; blocks by nl, cs -/
inductive Sx where
  | nl | cs (a r : Sx)
  | asg (t : Tg) (e : Ex) | par (t : List Nat) (es : Ex) | sub (o i e : Ex) | aug (i : Nat) (o : Operator) (e : Ex)
  | expr (e : Ex) | ret (e : Ex) | retN
  | iff (c : Ex) (a b : Sx) | whl (c : Ex) (b : Sx) | for_ (t : Tg) (it : Ex) (b : Sx)
  | pass | brk | cont
  | forR (t : Tg) (i : Nat) (b : Sx) | stop

/-! ## the evaluator -/
def ofO (o : Option (W × Sto)) : R W := match o with
  | some (w, S) => .ok w S
  | none => .bad
def binF : Operator → F2
  | .Add => fAdd | .Sub => fSub | .Mult => fMul | .FloorDiv => fDiv | .Mod => fMod | .Pow => fPow
  | _ => fun _ _ _ => none
def cmpF : CmpOp → F2
  | .Eq => fEq | .NotEq => fNe
  | .Lt => fOrd fun a b => PySem.W.dataLt a b
  | .Gt => fOrd fun a b => PySem.W.dataLt b a
  | .LtE => fOrd fun a b => !PySem.W.dataLt b a
  | .GtE => fOrd fun a b => !PySem.W.dataLt a b
  | .In => fIn false | .NotIn => fIn true
  | .Is => fIsN false | .IsNot => fIsN true
def biF : BI → FL1
  | .len => fLen | .tuple => fTuple | .list => fList | .abs => fAbs | .int => fInt | .all => fAll false | .any => fAll true | .repr => fRepr | .sorted => fSorted | .listM => fListM
def uF : U1 → F1
  | .rev => fRev
def b2F : B2 → F2
  | .join => fJoin
def b2Ok : B2 → W → Bool
  | .join, .p (.str _) => true
  | _, _ => false
def meF : MI → FM
  | .append => fAppend | .extend => fExtend | .popAt => fPopAt | .pop => fPop
def meOk (m : MI) (S : Sto) : W → Bool
  | .r n => (S[n]?).isSome
  | _ => false
def kdOf : W → Option Kd
  | .p (.bool _) => some .bl
  | .p (.int _) => some .int
  | .p (.str _) => some .str
  | .p (.list _) => some .lst
  | .p (.tuple _) => some .tup
  | .p (.dict _) => some .dic
  | .p .none => none
  | .r _ => some .lst
  | .s _ => some .lst
def isiB (w : W) (T : Kd) : Bool := match kdOf w with
  | some k => k == T || (k == .bl && T == .int)
  | none => false
/-- a display of a dict: empty, or one text and a constant -/
def dicD : Ex → Option PyData
  | .nl => some (.dict [])
  | .cs (.k (.str x)) (.cs (.k d) .nl) => if atomP d then some (.dict [(.str x, d)]) else none
  | _ => none
def bl? : W → Option Bool
  | .p (.bool b) => some b
  | _ => none
def tru (S : Sto) : W → Option Bool
  | .p .none => some false
  | .p (.bool b) => some b
  | .p (.int i) => some (i != 0)
  | .p (.str x) => if x.length ≤ lim then some ((x.length : Int) != 0) else none
  | .p (.list ds) => some !ds.isEmpty
  | .p (.tuple ds) => some !ds.isEmpty
  | .r n => match S[n]? with
    | some (.l ws) => some !ws.isEmpty
    | none => none
  | _ => none
def ofB (o : Option Bool) (S : Sto) : R Bool := match o with
  | some b => .ok b S
  | none => .bad
/-- what a turn of a walk gives -/
inductive Row where
  | one (w : W) | two (a b : W)
def enumR : Nat → List W → List Row
  | _, [] => []
  | i, w :: r => .two (.p (.int i)) w :: enumR (i + 1) r
def still : W → Bool
  | .r _ => false
  | _ => true
def asgT (S : Sto) : Tg → W → Tau → Option Tau
  | .n i, w, τ => some (τ.set i (some w))
  | t, w, τ => match items S w with
    | some (_, ws) => asgTs S t ws τ
    | none => none
where asgTs (S : Sto) : Tg → List W → Tau → Option Tau
  | .nl, [], τ => some τ
  | .cs a r, w :: ws, τ => match asgT S a w τ with
    | some τ' => asgTs S r ws τ'
    | none => none
  | _, _, _ => none
/-- a row comes to a target -/
def asgR (S : Sto) : Tg → Row → Tau → Option Tau
  | t, .one w, τ => asgT S t w τ
  | .cs a (.cs b .nl), .two x y, τ => match asgT S a x τ with
    | some τ' => asgT S b y τ'
    | none => none
  | _, .two _ _, _ => none
def setAll : List Nat → List W → Tau → Option Tau
  | [], [], τ => some τ
  | i :: is, w :: ws, τ => setAll is ws (τ.set i (some w))
  | _, _, _ => none
/-- the slots of a comprehension's own names are forgotten -/
def wipeT (τ : Tau) : List Nat → Tau
  | [] => τ
  | i :: is => (wipeT τ is).set i none
def lcLoop (f : Row → Sto → R (Option W)) : List Row → List W → Sto → R (List W)
  | [], acc, S => .ok acc S
  | r :: rs, acc, S => match f r S with
    | .ok (some w) S => lcLoop f rs (acc ++ [w]) S
    | .ok none S => lcLoop f rs acc S
    | _ => .bad
/-- the end of a list display, of a comprehension -/
def mkLst (m : Bool) (ws : List W) (S : Sto) : R W :=
  if ws.length ≤ lim then
    if m then .ok (.r S.length) (S ++ [.l ws]) else match deP ws with
      | some ds => .ok (.p (.list ds)) S
      | none => .bad
  else .bad
def mkTup (ws : List W) (S : Sto) : R W :=
  if ws.length ≤ lim then match deP ws with
    | some ds => .ok (.p (.tuple ds)) S
    | none => .bad
  else .bad
def rowsZip : Bool × List W → Bool × List W → Option (List Row)
  | (a, xs), (b, ys) => if a == b then some (List.zipWith Row.two xs ys) else none
def rng (lo : Int) (n : Nat) : List Row := (List.range n).map fun (i : Nat) => .one (.p (.int (lo + i)))
section
variable (call : Nat → List W → Sto → R W)
mutual
def evE : Ex → Tau → Sto → R W
  | .v i, τ, S => match τ[i]? with
    | some (some w) => .ok w S
    | _ => .bad
  | .k d, _, S => .ok (.p d) S
  | .tup es, τ, S => (evEs es τ S).bind mkTup
  | .lst m es, τ, S => (evEs es τ S).bind (mkLst m)
  | .op o a b, τ, S => (evE a τ S).bind fun x S => (evE b τ S).bind fun y S => ofO (binF o S x y)
  | .neg a, τ, S => (evE a τ S).bind fun x S => match x with
    | .p (.int i) => .ok (.p (.int (-i))) S
    | _ => .bad
  | .cmp o a b, τ, S => (evE a τ S).bind fun x S => (evE b τ S).bind fun y S => ofO (cmpF o S x y)
  | .chain o o' a b c, τ, S => (evE a τ S).bind fun x S => (evE b τ S).bind fun y S => (ofO (cmpF o S x y)).bind fun z S => (ofB (bl? z) S).bind fun t S =>
      if t then (evE c τ S).bind fun w S => ofO (cmpF o' S y w) else .ok (.p (.bool false)) S
  | .an es, τ, S => evAn es τ S
  | .orr es, τ, S => evOr es τ S
  | .no a, τ, S => (evE a τ S).bind fun x S => (ofB (bl? x) S).bind fun t S => .ok (.p (.bool !t)) S
  | .ife c a b, τ, S => (evT c τ S).bind fun t S => if t then evE a τ S else evE b τ S
  | .ix a b, τ, S => (evE a τ S).bind fun x S => (evE b τ S).bind fun y S => ofO (fIx S x y)
  | .sl a lo hi, τ, S => (evE a τ S).bind fun x S => (evP lo τ S).bind fun l S => (evP hi τ S).bind fun h S => ofO (fSl l h S x)
  | .call f es, τ, S => (evEs es τ S).bind (call f)
  | .bi b es, τ, S => (evEs es τ S).bind fun ws S => ofO (biF b S ws)
  | .me m o es, τ, S => (evE o τ S).bind fun x S => if meOk m S x then (evEs es τ S).bind fun ws S => ofO (meF m S x ws) else .bad
  | .isi a T, τ, S => (evE a τ S).bind fun x S => .ok (.p (.bool (isiB x T))) S
  | .lc m own t it ifs e, τ, S => (evI it τ S).bind fun rows S => (lcLoop (fun row S => match asgR S t row (wipeT τ own) with
      | some τ' => (evAs ifs τ' S).bind fun b S => if b then (evE e τ' S).bind fun w S => .ok (some w) S else .ok none S
      | none => .bad) rows [] S).bind (mkLst m)
  | .u o a, τ, S => (evE a τ S).bind fun x S => ofO (uF o S x)
  | .b o a b, τ, S => (evE a τ S).bind fun x S => if b2Ok o x then (evE b τ S).bind fun y S => ofO (b2F o S x y) else .bad
  | .g _ d, _, S => .ok (.p d) S
  | .dic es, _, S => match dicD es with
    | some d => .ok (.p d) S
    | none => .bad
  | _, _, _ => .bad
def evEs : Ex → Tau → Sto → R (List W)
  | .nl, _, S => .ok [] S
  | .cs a r, τ, S => (evE a τ S).bind fun x S => (evEs r τ S).bind fun xs S => .ok (x :: xs) S
  | .ss a r, τ, S => (evE a τ S).bind fun x S => match items S x with
    | some (_, ys) => (evEs r τ S).bind fun xs S => .ok (ys ++ xs) S
    | none => .bad
  | _, _, _ => .bad
/-- and, or as values: truth values, but the last -/
def evAn : Ex → Tau → Sto → R W
  | .cs a .nl, τ, S => evE a τ S
  | .cs a r, τ, S => (evE a τ S).bind fun x S => (ofB (bl? x) S).bind fun t S => if t then evAn r τ S else .ok (.p (.bool false)) S
  | _, _, _ => .bad
def evOr : Ex → Tau → Sto → R W
  | .cs a .nl, τ, S => evE a τ S
  | .cs a r, τ, S => (evE a τ S).bind fun x S => (ofB (bl? x) S).bind fun t S => if t then .ok (.p (.bool true)) S else evOr r τ S
  | _, _, _ => .bad
/-- tests -/
def evT : Ex → Tau → Sto → R Bool
  | .an es, τ, S => evTa es τ S
  | .orr es, τ, S => evTo es τ S
  | .no a, τ, S => (evT a τ S).bind fun t S => .ok (!t) S
  | .tt e, τ, S => (evE e τ S).bind fun x S => ofB (tru S x) S
  | _, _, _ => .bad
/-- a part of a slice -/
def evP : Ex → Tau → Sto → R (Option Int)
  | .nl, _, S => .ok none S
  | .cs e _, τ, S => (evE e τ S).bind fun x S => match x with
    | .p (.int i) => .ok (some i) S
    | _ => .bad
  | _, _, _ => .bad
def evTa : Ex → Tau → Sto → R Bool
  | .cs a .nl, τ, S => evT a τ S
  | .cs a r, τ, S => (evT a τ S).bind fun t S => if t then evTa r τ S else .ok false S
  | _, _, _ => .bad
def evTo : Ex → Tau → Sto → R Bool
  | .cs a .nl, τ, S => evT a τ S
  | .cs a r, τ, S => (evT a τ S).bind fun t S => if t then .ok true S else evTo r τ S
  | _, _, _ => .bad
/-- a comprehension's tests: none or one -/
def evAs : Ex → Tau → Sto → R Bool
  | .nl, _, S => .ok true S
  | .cs a .nl, τ, S => evT a τ S
  | _, _, _ => .bad
/-- what is walked -/
def evI : Ex → Tau → Sto → R (List Row)
  | .iSeq e, τ, S => (evE e τ S).bind fun x S => match items S x with
    | some (_, ws) => if still x then .ok (ws.map .one) S else .bad
    | none => .bad
  | .iRng e, τ, S => (evE e τ S).bind fun x S => match x with
    | .p (.int n) => if n < 2 ^ 62 ∧ -(2 ^ 62) ≤ n then .ok (rng 0 n.toNat) S else .bad
    | _ => .bad
  | .iRng2 a b, τ, S => (evE a τ S).bind fun x S => (evE b τ S).bind fun y S => match x, y with
    | .p (.int m), .p (.int n) => if (n < 2 ^ 62 ∧ -(2 ^ 62) ≤ n) ∧ m < 2 ^ 62 ∧ -(2 ^ 62) ≤ m then .ok (rng m (n - m).toNat) S else .bad
    | _, _ => .bad
  | .iEnum e, τ, S => (evE e τ S).bind fun x S => match items S x with
    | some (_, ws) => if still x then .ok (enumR 0 ws) S else .bad
    | none => .bad
  | .iZip a b, τ, S => (evE a τ S).bind fun x S => (evE b τ S).bind fun y S => match items S x, items S y with
    | some p, some q => if still x && still y then match rowsZip p q with
        | some rows => .ok rows S
        | none => .bad
      else .bad
    | _, _ => .bad
  | _, _, _ => .bad
end
/-- an expression's end in a statement -/
def thenS {α : Type} (r : R α) (τ : Tau) (f : α → Sto → RS) : RS := match r with
  | .ok a S => f a S
  | .exc x S => .exc x τ S
  | .bad => .bad
def forLoop (f : Row → Tau → Sto → RS) : List Row → Tau → Sto → RS
  | [], τ, S => .nx τ S
  | r :: rs, τ, S => match f r τ S with
    | .nx τ S => forLoop f rs τ S
    | .ct τ S => forLoop f rs τ S
    | .bk τ S => .nx τ S
    | .ret w S => .ret w S
    | .exc x τ S => .exc x τ S
    | .bad => .bad
/-- the turns of a walk along a list that may change, but does not -/
def forLoopR (f : Row → Tau → Sto → RS) (n : Nat) (ws : List W) : List W → Tau → Sto → RS
  | [], τ, S => if isL S n ws then .nx τ S else .bad
  | w :: r, τ, S => if isL S n ws then match f (.one w) τ S with
    | .nx τ S => forLoopR f n ws r τ S
    | .ct τ S => forLoopR f n ws r τ S
    | .bk τ S => .nx τ S
    | .ret w S => .ret w S
    | .exc x τ S => .exc x τ S
    | .bad => .bad
    else .bad
def whlLoop (c : Tau → Sto → R Bool) (b : Tau → Sto → RS) : Nat → Tau → Sto → RS
  | 0, _, _ => .bad
  | n + 1, τ, S => thenS (c τ S) τ fun t S => if t then match b τ S with
      | .nx τ S => whlLoop c b n τ S
      | .ct τ S => whlLoop c b n τ S
      | .bk τ S => .nx τ S
      | .ret w S => .ret w S
      | .exc x τ S => .exc x τ S
      | .bad => .bad
    else .nx τ S
def fuel : Nat := 1000000000
mutual
def evS : Sx → Tau → Sto → RS
  | .asg t e, τ, S => thenS (evE call e τ S) τ fun w S => match asgT S t w τ with
    | some τ' => .nx τ' S
    | none => .bad
  | .par is es, τ, S => thenS (evEs call es τ S) τ fun ws S => match setAll is ws τ with
    | some τ' => .nx τ' S
    | none => .bad
  | .sub o i e, τ, S => thenS (evE call e τ S) τ fun w S => thenS (evE call o τ S) τ fun x S => thenS (evE call i τ S) τ fun y S => match fSet S x y w with
    | some S' => .nx τ S'
    | none => .bad
  | .aug i o e, τ, S => match τ[i]? with
    | some (some x) => thenS (evE call e τ S) τ fun y S => match o, x, y with
      | .Add, .p (.int a), .p (.int b) => .nx (τ.set i (some (.p (.int (a + b))))) S
      | .Sub, .p (.int a), .p (.int b) => .nx (τ.set i (some (.p (.int (a - b))))) S
      | _, _, _ => .bad
    | _ => .bad
  | .expr e, τ, S => thenS (evE call e τ S) τ fun _ S => .nx τ S
  | .ret e, τ, S => thenS (evE call e τ S) τ fun w S => .ret w S
  | .retN, _, S => .ret (.p .none) S
  | .iff c a b, τ, S => thenS (evT call c τ S) τ fun t S => if t then evSs a τ S else evSs b τ S
  | .whl c b, τ, S => whlLoop (evT call c) (evSs b) fuel τ S
  | .for_ t it b, τ, S => thenS (evI call it τ S) τ fun rows S => forLoop (fun row τ S => match asgR S t row τ with
      | some τ' => evSs b τ' S
      | none => .bad) rows τ S
  | .forR t i b, τ, S => match τ[i]? with
    | some (some (.r n)) => match S[n]? with
      | some (.l ws) => forLoopR (fun row τ S => match asgR S t row τ with
        | some τ' => evSs b τ' S
        | none => .bad) n ws ws τ S
      | none => .bad
    | _ => .bad
  | .pass, τ, S => .nx τ S
  | .brk, τ, S => .bk τ S
  | .cont, τ, S => .ct τ S
  | _, _, _ => .bad
def evSs : Sx → Tau → Sto → RS
  | .nl, τ, S => .nx τ S
  | .cs a r, τ, S => match evS a τ S with
    | .nx τ S => evSs r τ S
    | .bk τ S => .bk τ S
    | .ct τ S => .ct τ S
    | .ret w S => .ret w S
    | .exc x τ S => .exc x τ S
    | .bad => .bad
  | _, _, _ => .bad
end
end
/-- a def: how many parameters, how many slots, whether what it made is forgotten at its end, its body -/
structure Fd where
  np : Nat
  nn : Nat
  gc : Bool
  body : Sx
/-- no place from n on is named -/
def below (n : Nat) : W → Bool
  | .r m => decide (m < n)
  | _ => true
def frz (n : Nat) (S : Sto) : W → Option W
  | .r m => if m < n then some (.r m) else match S[m]? with
    | some (.l ws) => (deP ws).map fun ds => .p (.list ds)
    | none => none
  | w => some w
def obBelow (n : Nat) : Ob → Bool
  | .l ws => ws.all (below n)
/-- what a def made is forgotten -/
def sweep (n : Nat) (w : W) (S : Sto) : R W :=
  if (S.take n).all (obBelow n) then match frz n S w with
    | some w' => .ok w' (S.take n)
    | none => .bad
  else .bad
def endF (gc : Bool) (n : Nat) : RS → R W
  | .nx _ S => if gc then sweep n (.p .none) S else .ok (.p .none) S
  | .ret w S => if gc then sweep n w S else .ok w S
  | .exc x _ S => .exc x S
  | _ => .bad
def callN (T : List Fd) : Nat → Nat → List W → Sto → R W
  | 0, _, _, _ => .bad
  | k + 1, i, ws, S => match T[i]? with
    | some d => if ws.length = d.np then endF d.gc S.length (evSs (callN T k) d.body (ws.map some ++ List.replicate (d.nn - d.np) none) S) else .bad
    | none => .bad
end Pv
end

section
set_option maxRecDepth 10000
set_option maxHeartbeats 4000000
namespace Pv
open PySem PySem.Spec L2
open PyProof.Rows hiding St

/-! ## readings by the evaluator -/
section
variable (G : Gk) (Wx : WX)
def relW : Hp → Pl → W → V → Prop := fun H ρ w v => RW G.K H ρ w v
def relWs : Hp → Pl → List W → List V → Prop := fun H ρ w v => RWs G.K H ρ w v
def relB : Hp → Pl → Bool → Bool → Prop := fun _ _ a b => a = b
def tG {α β : Type} (rel : Hp → Pl → α → β → Prop) (m : Tau → Sto → R α) : St → Hp → (β → Hp → Prop) → Prop := fun σ H Q => ∃ ρ τ S, EnvR G.K H ρ τ σ ∧ Sim G.K ρ S H ∧ Post G Wx σ ρ H rel (m τ S) Q
abbrev tE (m : Tau → Sto → R W) : TE := tG G Wx (relW G) m
abbrev tAs (m : Tau → Sto → R (List W)) : TA := tG G Wx (relWs G) m
abbrev tTs (m : Tau → Sto → R Bool) : TT := tG G Wx relB m
end
section
variable {G : Gk} {Wx : WX}
theorem tG.imp {α β : Type} {rel : Hp → Pl → α → β → Prop} {m : Tau → Sto → R α} {σ : St} {H : Hp} {Q Q' : β → Hp → Prop} (h : tG G Wx rel m σ H Q) (i : ∀ v H', Q v H' → Q' v H') : tG G Wx rel m σ H Q' := by
  obtain ⟨ρ, τ, S, env, sm, h⟩ := h
  exact ⟨ρ, τ, S, env, sm, h.imp i⟩
theorem tG.go {α β γ δ : Type} {rel : Hp → Pl → α → β → Prop} {rel' : Hp → Pl → γ → δ → Prop} {m : Tau → Sto → R α} {f : α → Sto → R γ} {σ : St} {H : Hp} {Q : δ → Hp → Prop} {ρ : Pl} {τ : Tau} {S : Sto}
    (env : EnvR G.K H ρ τ σ) (sm : Sim G.K ρ S H) (h : Post G Wx σ ρ H rel' ((m τ S).bind f) Q) :
    tG G Wx rel m σ H fun v H2 => ∃ ρ2 S2 b, Ext ρ H ρ2 H2 ∧ EnvR G.K H2 ρ2 τ σ ∧ Sim G.K ρ2 S2 H2 ∧ rel H2 ρ2 b v ∧ Post G Wx σ ρ2 H2 rel' (f b S2) Q :=
  ⟨ρ, τ, S, env, sm, (Post.bind (rel := rel) h).imp fun v H2 ⟨ρ2, b, S2, ex, sm2, r, p⟩ => ⟨ρ2, S2, b, ex, env.ext ex, sm2, r, p⟩⟩
theorem PE.imp {X : Cx} {e : Expr} {t t' : TE} (h : PE X e t) (i : ∀ σ H Q, t' σ H Q → t σ H Q) : PE X e t' := ⟨fun pins s σ H Q I q => h.run pins s σ H Q I (i _ _ _ q)⟩
theorem PT.imp {X : Cx} {e : Expr} {t t' : TT} (h : PT X e t) (i : ∀ σ H Q, t' σ H Q → t σ H Q) : PT X e t' := ⟨fun pins s σ H Q I q => h.run pins s σ H Q I (i _ _ _ q)⟩
theorem PW.imp {X : Cx} {e : Expr} {t t' : TT} (h : PW X e t) (i : ∀ σ H Q, t' σ H Q → t σ H Q) : PW X e t' := ⟨fun wh pins s σ H Q I q => h.run wh pins s σ H Q I (i _ _ _ q)⟩
theorem PA.imp {X : Cx} {e : List Expr} {t t' : TA} (h : PA X e t) (i : ∀ σ H Q, t' σ H Q → t σ H Q) : PA X e t' := ⟨fun pos pins s σ H Q I q => h.run pos pins s σ H Q I (i _ _ _ q)⟩
theorem PSs.imp {X : Cx} {e : List Stmt} {t t' : TS} (h : PSs X e t) (i : ∀ D σ H, t' D σ H → t D σ H) : PSs X e t' := ⟨fun pins s σ H Q I q => h.run pins s σ H Q I (i _ _ _ q)⟩
theorem PS.imp {X : Cx} {e : Stmt} {t t' : TS} (h : PS X e t) (i : ∀ D σ H, t' D σ H → t D σ H) : PS X e t' := ⟨fun pins s σ H Q I q => h.run pins s σ H Q I (i _ _ _ q)⟩
theorem Post.po {σ : St} {ρ : Pl} {H : Hp} {o : Option (W × Sto)} {Q : VK} (h : Post G Wx σ ρ H (relW G) (ofO o) Q) : PO G ρ H o Q := by
  cases o with
  | none => exact h
  | some p => exact h
end

/-! ## expressions, one by one -/
section
variable {X : Cx} {G : Gk} {Wx : WX} {call : Nat → List W → Sto → R W} {a b c : Expr} {xa xb xc : Ex} {pos : Pos}
theorem s_v {i : Nat} {x : Str} (hN : X.N[i]? = some x) (hv : Vis X.env.scope x) (hd : (x == ("__debug__" : Str)) = false) (hcd : (x == ("__classdict__" : Str)) = false) : PE X (.Name x pos) (tE G Wx (evE call (.v i))) := by
  refine PE.imp (pe_var hN hv hd hcd) fun σ H Q h => ?_
  obtain ⟨ρ, τ, S, env, sm, h⟩ := h
  unfold evE at h
  split at h
  · rename_i w e
    obtain ⟨v, hv, r⟩ := env.2 i w e
    exact ⟨v, hv, h.done sm r⟩
  · exact h.elim
def cOk : Const → PyData → Bool
  | .none, .none => true
  | .bool b, .bool c => b == c
  | .int i, .int j => i == j
  | .str x, .str y => x == y
  | _, _ => false
theorem s_k {k : Const} {d : PyData} {j : Nat} (h : cOk k d = true) : PE X (.Constant k j pos) (tE G Wx (evE call (.k d))) := by
  unfold cOk at h
  split at h
  · refine PE.imp pe_non fun σ H Q h => ?_
    obtain ⟨ρ, τ, S, env, sm, h⟩ := h
    unfold evE at h
    exact h.done sm .non
  · rename_i b c
    have : b = c := by simpa using h
    subst this
    refine PE.imp pe_bl fun σ H Q h => ?_
    obtain ⟨ρ, τ, S, env, sm, h⟩ := h
    unfold evE at h
    exact h.done sm (.bl _)
  · rename_i b c
    have : b = c := by simpa using h
    subst this
    refine PE.imp pe_int fun σ H Q h => ?_
    obtain ⟨ρ, τ, S, env, sm, h⟩ := h
    unfold evE at h
    exact h.done sm (.int _)
  · rename_i b c
    have : b = c := by simpa using h
    subst this
    refine PE.imp pe_str fun σ H Q h => ?_
    obtain ⟨ρ, τ, S, env, sm, h⟩ := h
    unfold evE at h
    exact h.done sm (.str _)
  · cases h
theorem op2_ok {f : F2} {m1 m2 : Tau → Sto → R W} {σ : St} {H : Hp} {Q : VK} (h : tE G Wx (fun τ S => (m1 τ S).bind fun x S => (m2 τ S).bind fun y S => ofO (f S x y)) σ H Q) : tOp (rF2 G f) (tE G Wx m1) (tE G Wx m2) σ H Q := by
  obtain ⟨ρ, τ, S, env, sm, h⟩ := h
  refine tG.imp (tG.go env sm h) fun v H1 ⟨ρ1, S1, x, ex, env1, sm1, r1, h1⟩ => ?_
  refine tG.imp (tG.go env1 sm1 h1) fun u H2 ⟨ρ2, S2, y, ex2, env2, sm2, r2, h2⟩ => ?_
  exact ⟨ρ2, S2, x, y, sm2, RW.ext ex2 r1, r2, h2.po⟩
theorem s_op {o : Operator} (ho : OpR X (binaryOp o) (rF2 G (binF o))) (ha : PE X a (tE G Wx (evE call xa))) (hb : PE X b (tE G Wx (evE call xb))) : PE X (.BinOp a o b pos) (tE G Wx (evE call (.op o xa xb))) := by
  refine PE.imp (pe_op ho ha hb) fun σ H Q h => op2_ok ?_
  obtain ⟨ρ, τ, S, env, sm, h⟩ := h
  unfold evE at h
  exact ⟨ρ, τ, S, env, sm, h⟩
theorem s_cmp {o : CmpOp} (ho : OpR X (compareOp o) (rF2 G (cmpF o))) (ha : PE X a (tE G Wx (evE call xa))) (hb : PE X b (tE G Wx (evE call xb))) (hm : behindInMarks o b = false) : PE X (.Compare a [o] [b] pos) (tE G Wx (evE call (.cmp o xa xb))) := by
  refine PE.imp (pe_cmpR ho ha hb hm) fun σ H Q h => op2_ok ?_
  obtain ⟨ρ, τ, S, env, sm, h⟩ := h
  unfold evE at h
  exact ⟨ρ, τ, S, env, sm, h⟩
theorem s_neg (ha : PE X a (tE G Wx (evE call xa))) : PE X (.UnaryOp .USub a pos) (tE G Wx (evE call (.neg xa))) := by
  refine PE.imp (pe_un un_neg ha) fun σ H Q h => ?_
  obtain ⟨ρ, τ, S, env, sm, h⟩ := h
  unfold evE at h
  refine tG.imp (tG.go env sm h) fun v H1 ⟨ρ1, S1, x, ex, env1, sm1, r1, h1⟩ => ?_
  split at h1
  · cases r1
    exact ⟨_, rfl, h1.done sm1 (.int _)⟩
  · exact h1.elim
theorem bl_rep {K : PySem.W.Frag} {H : Hp} {ρ : Pl} {w : W} {v : V} {t : Bool} (r : RW K H ρ w v) (e : bl? w = some t) : v = .bl t := by
  unfold bl? at e
  split at e
  · cases e; cases r; rfl
  · cases e
theorem chain_ok {o o' : CmpOp} {σ : St} {H : Hp} {Q : VK} (h : tE G Wx (evE call (.chain o o' xa xb xc)) σ H Q) : tChain (rF2 G (cmpF o)) (rF2 G (cmpF o')) (tE G Wx (evE call xa)) (tE G Wx (evE call xb)) (tE G Wx (evE call xc)) σ H Q := by
  obtain ⟨ρ, τ, S, env, sm, h⟩ := h
  unfold evE at h
  refine tG.imp (tG.go env sm h) fun v H1 ⟨ρ1, S1, x, ex, env1, sm1, r1, h1⟩ => ?_
  refine tG.imp (tG.go env1 sm1 h1) fun u H2 ⟨ρ2, S2, y, ex2, env2, sm2, r2, h2⟩ => ?_
  refine ⟨ρ2, S2, x, y, sm2, RW.ext ex2 r1, r2, ?_⟩
  cases e : cmpF o S2 x y with
  | none => rw [e] at h2; exact h2
  | some p =>
    obtain ⟨z, S3⟩ := p
    rw [e] at h2
    intro v3 H3 ρ3 ex3 sm3 r3
    have h3 : Post G Wx σ ρ2 H2 (relW G) ((ofB (bl? z) S3).bind fun t S => if t then (evE call xc τ S).bind fun w S => ofO (cmpF o' S y w) else .ok (.p (.bool false)) S) Q := h2
    cases e2 : bl? z with
    | none => rw [e2] at h3; exact h3.elim
    | some t =>
      rw [e2] at h3
      have h4 : Post G Wx σ ρ2 H2 (relW G) (if t = true then (evE call xc τ S3).bind fun w S => ofO (cmpF o' S y w) else .ok (.p (.bool false)) S3) Q := h3
      refine ⟨t, bl_rep r3 e2, ?_⟩
      cases t with
      | true =>
        rw [if_pos rfl] at h4 ⊢
        refine tG.imp (tG.go (env2.ext ex3) sm3 (Post.ext ex3 h4)) fun w H4 ⟨ρ4, S4, z', ex4, env4, sm4, r4, h5⟩ => ?_
        exact ⟨ρ4, S4, y, z', sm4, RW.ext (ex3.trans ex4) r2, r4, h5.po⟩
      | false =>
        rw [if_neg Bool.false_ne_true] at h4 ⊢
        exact (Post.ext ex3 h4).done sm3 (.bl _)
theorem s_chain {o o' : CmpOp} (ho : OpR X (compareOp o) (rF2 G (cmpF o))) (ho' : OpR X (compareOp o') (rF2 G (cmpF o'))) (ha : PE X a (tE G Wx (evE call xa))) (hb : PE X b (tE G Wx (evE call xb))) (hc : PE X c (tE G Wx (evE call xc)))
    (hm : lastMarks [o, o'] [b, c] = false) : PE X (.Compare a [o, o'] [b, c] pos) (tE G Wx (evE call (.chain o o' xa xb xc))) :=
  PE.imp (pe_chain ho ho' ha hb hc hm) fun σ H Q h => chain_ok h
theorem s_ix (hr : IxR X (rF2 G fIx)) (ha : PE X a (tE G Wx (evE call xa))) (hb : PE X b (tE G Wx (evE call xb))) (hs : PlainIx b) : PE X (.Subscript a b pos) (tE G Wx (evE call (.ix xa xb))) := by
  refine PE.imp (pe_ix hr ha hb hs) fun σ H Q h => op2_ok ?_
  obtain ⟨ρ, τ, S, env, sm, h⟩ := h
  unfold evE at h
  exact ⟨ρ, τ, S, env, sm, h⟩
theorem s_ife (hc : PT X c (tTs G Wx (evT call xc))) (ha : PE X a (tE G Wx (evE call xa))) (hb : PE X b (tE G Wx (evE call xb))) : PE X (.IfExp c a b pos) (tE G Wx (evE call (.ife xc xa xb))) := by
  refine PE.imp (pe_ifExp hc ha hb) fun σ H Q h => ?_
  obtain ⟨ρ, τ, S, env, sm, h⟩ := h
  unfold evE at h
  refine tG.imp (tG.go env sm h) fun t H1 ⟨ρ1, S1, x, ex, env1, sm1, r1, h1⟩ => ?_
  have : x = t := r1
  subst this
  cases x with
  | true => rw [if_pos rfl] at h1 ⊢; exact ⟨ρ1, τ, S1, env1, sm1, h1⟩
  | false => rw [if_neg Bool.false_ne_true] at h1 ⊢; exact ⟨ρ1, τ, S1, env1, sm1, h1⟩
theorem s_no (ha : PE X a (tE G Wx (evE call xa))) : PE X (.UnaryOp .Not a pos) (tE G Wx (evE call (.no xa))) := by
  refine PE.imp (pe_not ha) fun σ H Q h => ?_
  obtain ⟨ρ, τ, S, env, sm, h⟩ := h
  unfold evE at h
  refine tG.imp (tG.go env sm h) fun v H1 ⟨ρ1, S1, x, ex, env1, sm1, r1, h1⟩ => ?_
  cases e2 : bl? x with
  | none => rw [e2] at h1; exact h1.elim
  | some t =>
    rw [e2] at h1
    exact ⟨t, bl_rep r1 e2, Post.done (show Post G Wx σ ρ1 H1 (relW G) (.ok (.p (.bool !t)) S1) Q from h1) sm1 (.bl _)⟩
/-! ### argument lists, displays, calls -/
theorem s_nil : PA X [] (tAs G Wx (evEs call .nl)) := by
  refine PA.imp pa_nil fun σ H Q h => ?_
  obtain ⟨ρ, τ, S, env, sm, h⟩ := h
  unfold evEs at h
  exact h.done sm .nil
theorem s_cons {es : List Expr} {xs : Ex} (ha : PE X a (tE G Wx (evE call xa))) (hr : PA X es (tAs G Wx (evEs call xs))) (hs : starEach (a :: es) X.env = (false, eval a X.env) :: starEach es X.env) : PA X (a :: es) (tAs G Wx (evEs call (.cs xa xs))) := by
  refine PA.imp (pa_cons ha hr hs) fun σ H Q h => ?_
  obtain ⟨ρ, τ, S, env, sm, h⟩ := h
  unfold evEs at h
  refine tG.imp (tG.go env sm h) fun v H1 ⟨ρ1, S1, x, ex, env1, sm1, r1, h1⟩ => ?_
  refine tG.imp (tG.go env1 sm1 h1) fun vs H2 ⟨ρ2, S2, ys, ex2, env2, sm2, r2, h2⟩ => ?_
  exact h2.done sm2 (.cons (RW.ext ex2 r1) r2)
theorem RWs.app {K : PySem.W.Frag} {H : Hp} {ρ : Pl} {a b : List W} {x y : List V} (h : RWs K H ρ a x) (g : RWs K H ρ b y) : RWs K H ρ (a ++ b) (x ++ y) := by
  induction h with
  | nil => exact g
  | cons q t ih => exact .cons q ih
theorem s_star {es : List Expr} {xs : Ex} {p : Pos} (hK : X.K = G.K) (ha : PE X a (tE G Wx (evE call xa))) (hr : PA X es (tAs G Wx (evEs call xs))) : PA X (.Starred a p :: es) (tAs G Wx (evEs call (.ss xa xs))) := by
  refine PA.imp (StX.pa_star ha hr rfl) fun σ H Q h => ?_
  obtain ⟨ρ, τ, S, env, sm, h⟩ := h
  unfold evEs at h
  refine tG.imp (tG.go env sm h) fun v H1 ⟨ρ1, S1, x, ex, env1, sm1, r1, h1⟩ => ?_
  split at h1
  · rename_i bb ys e
    obtain ⟨ad, vs, rfl, hrw, hq⟩ := items_rep sm1 r1 e
    refine ⟨ad, vs, rfl, by rw [hK]; rcases hq with ⟨_, hq⟩ | ⟨_, hq⟩; exact .inl hq; exact .inr hq, tG.imp (tG.go env1 sm1 h1) fun ws H2 ⟨ρ2, S2, zs, ex2, env2, sm2, r2, h2⟩ => ?_⟩
    exact h2.done sm2 (RWs.app (RWs.ext ex2 hrw) r2)
  · exact h1.elim
theorem s_stop {e : Expr} : PE X e (tE G Wx (evE call .stop)) := ⟨fun pins s σ H Q I h => by
  obtain ⟨ρ, τ, S, env, sm, h⟩ := h
  unfold evE at h
  exact h.elim⟩
theorem mkTup_ok {σ : St} {ρ : Pl} {H : Hp} {Q : VK} {ws : List W} {S : Sto} {vs : List V} (sm : Sim G.K ρ S H) (r : RWs G.K H ρ ws vs) (h : Post G Wx σ ρ H (relW G) (mkTup ws S) Q) : vs.length ≤ sizeLine ∧ ∀ p, H p = none → Q (.ref p) (upd H p (.tup vs)) := by
  unfold mkTup at h
  split at h
  · rename_i hl
    split at h
    · rename_i ds e
      obtain ⟨rfl, hd⟩ := deP_rep r e
      exact ⟨lim_le (by rw [← Paired.length r]; exact hl), fun p hp => h _ _ ρ (Ext.laid sm.sub hp) (sm.laid hp) (DF.newT sm hp hd)⟩
    · exact h.elim
  · exact h.elim
theorem mkLst_ok {m : Bool} {σ : St} {ρ : Pl} {H : Hp} {Q : VK} {ws : List W} {S : Sto} {vs : List V} (sm : Sim G.K ρ S H) (r : RWs G.K H ρ ws vs) (h : Post G Wx σ ρ H (relW G) (mkLst m ws S) Q) : vs.length ≤ sizeLine ∧ ∀ p, H p = none → Q (.ref p) (upd H p (.lst vs)) := by
  unfold mkLst at h
  split at h
  · rename_i hl
    refine ⟨lim_le (by rw [← Paired.length r]; exact hl), fun p hp => ?_⟩
    split at h
    · obtain ⟨ex, sm'⟩ := sm.new hp r
      exact h _ _ _ ex sm' ⟨p, by show (ρ.ρ ++ [p])[_]? = _; rw [← sm.len]; simp, rfl⟩
    · split at h
      · rename_i ds e
        obtain ⟨rfl, hd⟩ := deP_rep r e
        exact h _ _ ρ (Ext.laid sm.sub hp) (sm.laid hp) (DF.newL sm hp hd)
      · exact h.elim
  · exact h.elim
theorem s_tup {es : List Expr} {xs : Ex} {k : Nat} (ha : PA X es (tAs G Wx (evEs call xs))) : PE X (.Tuple es k pos) (tE G Wx (evE call (.tup xs))) := by
  refine PE.imp (pe_tup ha) fun σ H Q h => ?_
  obtain ⟨ρ, τ, S, env, sm, h⟩ := h
  unfold evE at h
  exact tG.imp (tG.go env sm h) fun v H1 ⟨ρ1, S1, x, ex, env1, sm1, r1, h1⟩ => mkTup_ok sm1 r1 h1
theorem s_lst {m : Bool} {es : List Expr} {xs : Ex} (ha : PA X es (tAs G Wx (evEs call xs))) : PE X (.List es pos) (tE G Wx (evE call (.lst m xs))) := by
  refine PE.imp (pe_lst ha) fun σ H Q h => ?_
  obtain ⟨ρ, τ, S, env, sm, h⟩ := h
  unfold evE at h
  exact tG.imp (tG.go env sm h) fun v H1 ⟨ρ1, S1, x, ex, env1, sm1, r1, h1⟩ => mkLst_ok sm1 r1 h1
theorem fn_ok {f : FL1} {xs : Ex} {σ : St} {H : Hp} {Q : VK} (h : tE G Wx (fun τ S => (evEs call xs τ S).bind fun ws S => ofO (f S ws)) σ H Q) : tCB (rFn G f) (tAs G Wx (evEs call xs)) σ H Q := by
  obtain ⟨ρ, τ, S, env, sm, h⟩ := h
  exact tG.imp (tG.go env sm h) fun v H1 ⟨ρ1, S1, x, ex, env1, sm1, r1, h1⟩ => ⟨ρ1, S1, x, sm1, r1, h1.po⟩
/-- the promise of a def by the evaluator's call -/
def spF (G : Gk) (call : Nat → List W → Sto → R W) (i n : Nat) : Sp := fun vs H Q E => vs.length = n ∧ ∃ ρ S ws, Sim G.K ρ S H ∧ RWs G.K H ρ ws vs ∧ Post G (fun c d _ H' => E c d H') [] ρ H (relW G) (call i ws S) Q
theorem call_ok {f n : Nat} {xs : Ex} {σ : St} {H : Hp} {Q : VK} (hn : ∀ vs : List V, ∀ H ρ ws, RWs G.K H ρ ws vs → ∀ S, (∃ w S', call f ws S = .ok w S') ∨ (∃ x S', call f ws S = .exc x S') → vs.length = n) (h : tE G Wx (evE call (.call f xs)) σ H Q) :
    tCallG (spF G call f n) (fun σ c d H' => Wx c d σ H') (tAs G Wx (evEs call xs)) σ H Q := by
  obtain ⟨ρ, τ, S, env, sm, h⟩ := h
  unfold evE at h
  refine tG.imp (tG.go env sm h) fun vs H1 ⟨ρ1, S1, ws, ex, env1, sm1, r1, h1⟩ => ⟨?_, ρ1, S1, ws, sm1, r1, ?_⟩
  · refine hn vs H1 ρ1 ws r1 S1 ?_
    cases e : call f ws S1 with
    | ok w S' => exact .inl ⟨_, _, rfl⟩
    | exc x S' => exact .inr ⟨_, _, rfl⟩
    | bad => rw [e] at h1; exact h1.elim
  · cases e : call f ws S1 with
    | ok w S' => rw [e] at h1; exact h1
    | exc x S' => rw [e] at h1; exact h1
    | bad => rw [e] at h1; exact h1
end
end Pv
end

section
set_option maxRecDepth 10000
set_option maxHeartbeats 4000000
namespace Pv
open PySem PySem.Spec L2
open PyProof.Rows hiding St

section
variable {X : Cx} {G : Gk} {Wx : WX} {call : Nat → List W → Sto → R W} {a b c : Expr} {xa xb xc : Ex} {pos : Pos}
/-! ### slices -/
theorem PO'.imp {o : Option Expr} {t t' : TO} (h : L2.PO X o t) (i : ∀ σ H Q, t' σ H Q → t σ H Q) : L2.PO X o t' := ⟨fun pins s σ H Q I q => h.run pins s σ H Q I (i _ _ _ q)⟩
def relI : Hp → Pl → Option Int → Option Int → Prop := fun _ _ a b => a = b
abbrev tP (G : Gk) (Wx : WX) (m : Tau → Sto → R (Option Int)) : TO := tG G Wx relI m
theorem s_pn : L2.PO X none (tP G Wx (evP call .nl)) := by
  refine PO'.imp po_none fun σ H Q h => ?_
  obtain ⟨ρ, τ, S, env, sm, h⟩ := h
  unfold evP at h
  exact h.done sm rfl
theorem s_ps {r : Ex} (ha : PE X a (tE G Wx (evE call xa))) : L2.PO X (some a) (tP G Wx (evP call (.cs xa r))) := by
  refine PO'.imp (po_some ha) fun σ H Q h => ?_
  obtain ⟨ρ, τ, S, env, sm, h⟩ := h
  unfold evP at h
  refine tG.imp (tG.go env sm h) fun v H1 ⟨ρ1, S1, x, ex, env1, sm1, r1, h1⟩ => ?_
  split at h1
  · cases r1
    exact ⟨_, rfl, h1.done sm1 rfl⟩
  · exact h1.elim
theorem s_sl {lo hi : Option Expr} {p2 : Pos} (hr : SlR X (rSl G)) (ha : PE X a (tE G Wx (evE call xa))) (hb : L2.PO X lo (tP G Wx (evP call xb))) (hc : L2.PO X hi (tP G Wx (evP call xc))) :
    PE X (.Subscript a (.Slice lo hi none p2) pos) (tE G Wx (evE call (.sl xa xb xc))) := by
  refine PE.imp (pe_slice hr ha hb hc) fun σ H Q h => ?_
  obtain ⟨ρ, τ, S, env, sm, h⟩ := h
  unfold evE at h
  refine tG.imp (tG.go env sm h) fun v H1 ⟨ρ1, S1, x, ex, env1, sm1, r1, h1⟩ => ?_
  refine tG.imp (tG.go env1 sm1 h1) fun l H2 ⟨ρ2, S2, l', ex2, env2, sm2, r2, h2⟩ => ?_
  refine tG.imp (tG.go env2 sm2 h2) fun u H3 ⟨ρ3, S3, u', ex3, env3, sm3, r3, h3⟩ => ?_
  have e1 : l' = l := r2
  have e2 : u' = u := r3
  subst e1; subst e2
  exact ⟨ρ3, S3, x, sm3, RW.ext (ex2.trans ex3) r1, h3.po⟩
/-! ### and, or as values -/
theorem s_an1 (ha : PE X a (tE G Wx (evE call xa))) : PE X (.BoolOp .And [a] pos) (tE G Wx (evAn call (.cs xa .nl))) := by
  refine PE.imp (pe_one ha) fun σ H Q h => ?_
  obtain ⟨ρ, τ, S, env, sm, h⟩ := h
  unfold evAn at h
  exact ⟨ρ, τ, S, env, sm, h⟩
theorem s_or1 (ha : PE X a (tE G Wx (evE call xa))) : PE X (.BoolOp .Or [a] pos) (tE G Wx (evOr call (.cs xa .nl))) := by
  refine PE.imp (pe_one ha) fun σ H Q h => ?_
  obtain ⟨ρ, τ, S, env, sm, h⟩ := h
  unfold evOr at h
  exact ⟨ρ, τ, S, env, sm, h⟩
theorem s_an2 {es : List Expr} {r : Ex} (ha : PE X a (tE G Wx (evE call xa))) (hb : PE X (.BoolOp .And (b :: es) pos) (tE G Wx (evAn call (.cs xb r)))) : PE X (.BoolOp .And (a :: b :: es) pos) (tE G Wx (evAn call (.cs xa (.cs xb r)))) := by
  refine PE.imp (pe_and ha hb) fun σ H Q h => ?_
  obtain ⟨ρ, τ, S, env, sm, h⟩ := h
  unfold evAn at h
  refine tG.imp (tG.go env sm h) fun v H1 ⟨ρ1, S1, x, ex, env1, sm1, r1, h1⟩ => ?_
  cases e2 : bl? x with
  | none => rw [e2] at h1; exact h1.elim
  | some t =>
    rw [e2] at h1
    refine ⟨t, bl_rep r1 e2, ?_⟩
    have h2 : Post G Wx σ ρ1 H1 (relW G) (if t = true then evAn call (.cs xb r) τ S1 else .ok (.p (.bool false)) S1) Q := h1
    cases t with
    | true => rw [if_pos rfl] at h2 ⊢; exact ⟨ρ1, τ, S1, env1, sm1, h2⟩
    | false => rw [if_neg Bool.false_ne_true] at h2 ⊢; exact h2.done sm1 (.bl _)
theorem s_or2 {es : List Expr} {r : Ex} (ha : PE X a (tE G Wx (evE call xa))) (hb : PE X (.BoolOp .Or (b :: es) pos) (tE G Wx (evOr call (.cs xb r)))) : PE X (.BoolOp .Or (a :: b :: es) pos) (tE G Wx (evOr call (.cs xa (.cs xb r)))) := by
  refine PE.imp (pe_or ha hb) fun σ H Q h => ?_
  obtain ⟨ρ, τ, S, env, sm, h⟩ := h
  unfold evOr at h
  refine tG.imp (tG.go env sm h) fun v H1 ⟨ρ1, S1, x, ex, env1, sm1, r1, h1⟩ => ?_
  cases e2 : bl? x with
  | none => rw [e2] at h1; exact h1.elim
  | some t =>
    rw [e2] at h1
    refine ⟨t, bl_rep r1 e2, ?_⟩
    have h2 : Post G Wx σ ρ1 H1 (relW G) (if t = true then .ok (.p (.bool true)) S1 else evOr call (.cs xb r) τ S1) Q := h1
    cases t with
    | true => rw [if_pos rfl] at h2 ⊢; exact h2.done sm1 (.bl _)
    | false => rw [if_neg Bool.false_ne_true] at h2 ⊢; exact ⟨ρ1, τ, S1, env1, sm1, h2⟩
/-! ### tests -/
theorem tru_rep {K : PySem.W.Frag} {H : Hp} {ρ : Pl} {S : Sto} {w : W} {v : V} {t : Bool} (sm : Sim K ρ S H) (r : RW K H ρ w v) (e : tru S w = some t) : TruV K v H t := by
  cases w with
  | p d =>
    cases r with
    | non => cases e; rfl
    | bl b => cases e; rfl
    | int i => cases e; rfl
    | str x =>
      simp only [tru] at e
      split at e
      · rename_i hl
        cases e
        exact ⟨lim_le hl, rfl⟩
      · cases e
    | lst h n t' =>
      cases e
      refine .inl ⟨_, .of h, ?_⟩
      cases t' <;> rfl
    | tup h t' =>
      cases e
      refine .inr (.inl ⟨_, h.sq, ?_⟩)
      cases t' <;> rfl
    | dic _ _ _ => cases e
  | s ns => cases e
  | r n =>
    obtain ⟨a, ha, rfl⟩ := r
    unfold tru at e
    cases q : S[n]? with
    | none => simp [q] at e
    | some o =>
      obtain ⟨ws⟩ := o
      simp only [q, Option.some.injEq] at e
      obtain ⟨a', xs, h1, h2, h3⟩ := sm.at_ n ws q
      rw [ha] at h1; cases h1
      subst e
      refine .inl ⟨xs, .of h2, ?_⟩
      cases h3 <;> rfl
theorem tt_go {σ : St} {H : Hp} {Q : Bool → Hp → Prop} {e : Ex} (hK : X.K = G.K) (h : tTs G Wx (evT call (.tt e)) σ H Q) : tE G Wx (evE call e) σ H fun v H' => ∃ k, TruV X.K v H' k ∧ Q k H' := by
  obtain ⟨ρ, τ, S, env, sm, h⟩ := h
  unfold evT at h
  refine tG.imp (tG.go env sm h) fun v H1 ⟨ρ1, S1, x, ex, env1, sm1, r1, h1⟩ => ?_
  cases e2 : tru S1 x with
  | none => rw [e2] at h1; exact h1.elim
  | some t =>
    rw [e2] at h1
    exact ⟨t, hK ▸ tru_rep sm1 r1 e2, Post.done (show Post G Wx σ ρ1 H1 relB (.ok t S1) Q from h1) sm1 rfl⟩
theorem st_tt (hK : X.K = G.K) (ha : PE X a (tE G Wx (evE call xa))) (he : ∀ whole, isTrue a X.env whole = (do let v ← whole; standAt a.pos; holding [v] (truthy v))) : PT X a (tTs G Wx (evT call (.tt xa))) :=
  PT.imp (pt_truth ha he) fun σ H Q h => tt_go hK h
theorem Post.test {σ : St} {ρ : Pl} {H : Hp} {Q : Bool → Hp → Prop} {r : R W} (hb : ∀ w S, r = .ok w S → ∃ t, w = .p (.bool t)) (h : Post G Wx σ ρ H relB (r.bind fun x S => ofB (tru S x) S) Q) : Post G Wx σ ρ H (relW G) r fun v H' => ∃ k, v = .bl k ∧ Q k H' := by
  cases r with
  | bad => exact h
  | exc x S => exact h
  | ok w S =>
    obtain ⟨t, rfl⟩ := hb w S rfl
    intro v H1 ρ1 ex sm1 r1
    cases r1
    exact ⟨t, rfl, h t H1 ρ1 ex sm1 rfl⟩
theorem bind_bl {α : Type} {r : R α} {f : α → Sto → R W} (hf : ∀ a S w S', f a S = .ok w S' → ∃ t, w = .p (.bool t)) : ∀ w S, r.bind f = .ok w S → ∃ t, w = .p (.bool t) := by
  intro w S h
  cases r with
  | ok a S1 => exact hf _ _ _ _ h
  | exc x S1 => cases h
  | bad => cases h
theorem cmp_bl : ∀ (o : CmpOp) (S : Sto) (x y w : W) (S' : Sto), cmpF o S x y = some (w, S') → ∃ t, w = .p (.bool t) := by
  intro o S x y w S' h
  cases o <;> simp only [cmpF, fEq, fNe, fOrd, fIn, fIsN, b2] at h <;> (repeat' (split at h)) <;> first | (cases h; exact ⟨_, rfl⟩) | cases h
theorem cmp_ofO {o : CmpOp} {S : Sto} {x y w : W} {S' : Sto} (h : ofO (cmpF o S x y) = .ok w S') : ∃ t, w = .p (.bool t) := by
  cases e : cmpF o S x y with
  | none => rw [e] at h; cases h
  | some p =>
    obtain ⟨w', S2⟩ := p
    rw [e] at h
    cases h
    exact cmp_bl _ _ _ _ _ _ e
theorem st_cmp {o : CmpOp} (ho : OpR X (compareOp o) (rF2 G (cmpF o))) (ha : PE X a (tE G Wx (evE call xa))) (hb : PE X b (tE G Wx (evE call xb))) (hm : behindInMarks o b = false) :
    PT X (.Compare a [o] [b] pos) (tTs G Wx (evT call (.tt (.cmp o xa xb)))) := by
  refine PT.imp (pt_cmpR ho ha hb hm) fun σ H Q h => op2_ok ?_
  obtain ⟨ρ, τ, S, env, sm, h⟩ := h
  unfold evT at h
  have := h.test fun w S1 e => by
    rw [evE] at e
    exact bind_bl (fun _ _ => bind_bl fun _ _ _ _ e => cmp_ofO e) w S1 e
  rw [evE] at this
  exact ⟨ρ, τ, S, env, sm, this⟩
theorem st_chain {o o' : CmpOp} (ho : OpR X (compareOp o) (rF2 G (cmpF o))) (ho' : OpR X (compareOp o') (rF2 G (cmpF o'))) (ha : PE X a (tE G Wx (evE call xa))) (hb : PE X b (tE G Wx (evE call xb))) (hc : PE X c (tE G Wx (evE call xc)))
    (hm : lastMarks [o, o'] [b, c] = false) : PT X (.Compare a [o, o'] [b, c] pos) (tTs G Wx (evT call (.tt (.chain o o' xa xb xc)))) := by
  refine PT.imp (pt_chain ho ho' ha hb hc hm) fun σ H Q h => ?_
  obtain ⟨ρ, τ, S, env, sm, h⟩ := h
  unfold evT at h
  have := h.test fun w S1 e => by
    rw [evE] at e
    refine bind_bl (fun _ _ => bind_bl fun _ _ => bind_bl fun _ _ => bind_bl fun t S2 w2 S3 e => ?_) w S1 e
    cases t with
    | true =>
      rw [if_pos rfl] at e
      exact bind_bl (fun _ _ _ _ e => cmp_ofO e) _ _ e
    | false =>
      rw [if_neg Bool.false_ne_true] at e
      cases e
      exact ⟨_, rfl⟩
  exact chain_ok ⟨ρ, τ, S, env, sm, this⟩
theorem st_an1 (ha : PT X a (tTs G Wx (evT call xa))) : PW X (.BoolOp .And [a] pos) (tTs G Wx (evTa call (.cs xa .nl))) := by
  refine PW.imp (pw_and1 ha) fun σ H Q h => ?_
  obtain ⟨ρ, τ, S, env, sm, h⟩ := h
  unfold evTa at h
  exact ⟨ρ, τ, S, env, sm, h⟩
theorem st_or1 (ha : PT X a (tTs G Wx (evT call xa))) : PW X (.BoolOp .Or [a] pos) (tTs G Wx (evTo call (.cs xa .nl))) := by
  refine PW.imp (pw_or1 ha) fun σ H Q h => ?_
  obtain ⟨ρ, τ, S, env, sm, h⟩ := h
  unfold evTo at h
  exact ⟨ρ, τ, S, env, sm, h⟩
theorem st_an2 {es : List Expr} {r : Ex} (ha : PT X a (tTs G Wx (evT call xa))) (hb : PW X (.BoolOp .And (b :: es) pos) (tTs G Wx (evTa call (.cs xb r)))) : PW X (.BoolOp .And (a :: b :: es) pos) (tTs G Wx (evTa call (.cs xa (.cs xb r)))) := by
  refine PW.imp (pw_and ha hb) fun σ H Q h => ?_
  obtain ⟨ρ, τ, S, env, sm, h⟩ := h
  unfold evTa at h
  refine tG.imp (tG.go env sm h) fun t H1 ⟨ρ1, S1, x, ex, env1, sm1, r1, h1⟩ => ?_
  have : x = t := r1
  subst this
  cases x with
  | true => rw [if_pos rfl] at h1 ⊢; exact ⟨ρ1, τ, S1, env1, sm1, h1⟩
  | false => rw [if_neg Bool.false_ne_true] at h1 ⊢; exact h1.done sm1 rfl
theorem st_or2 {es : List Expr} {r : Ex} (ha : PT X a (tTs G Wx (evT call xa))) (hb : PW X (.BoolOp .Or (b :: es) pos) (tTs G Wx (evTo call (.cs xb r)))) : PW X (.BoolOp .Or (a :: b :: es) pos) (tTs G Wx (evTo call (.cs xa (.cs xb r)))) := by
  refine PW.imp (pw_or ha hb) fun σ H Q h => ?_
  obtain ⟨ρ, τ, S, env, sm, h⟩ := h
  unfold evTo at h
  refine tG.imp (tG.go env sm h) fun t H1 ⟨ρ1, S1, x, ex, env1, sm1, r1, h1⟩ => ?_
  have : x = t := r1
  subst this
  cases x with
  | true => rw [if_pos rfl] at h1 ⊢; exact h1.done sm1 rfl
  | false => rw [if_neg Bool.false_ne_true] at h1 ⊢; exact ⟨ρ1, τ, S1, env1, sm1, h1⟩
theorem st_no (ha : PT X a (tTs G Wx (evT call xa))) : PT X (.UnaryOp .Not a pos) (tTs G Wx (evT call (.no xa))) := by
  refine PT.imp (pt_not ha) fun σ H Q h => ?_
  obtain ⟨ρ, τ, S, env, sm, h⟩ := h
  unfold evT at h
  refine tG.imp (tG.go env sm h) fun t H1 ⟨ρ1, S1, x, ex, env1, sm1, r1, h1⟩ => ?_
  have : x = t := r1
  subst this
  exact h1.done sm1 rfl
/-! ### isinstance -/
def kdN : Kd → String
  | .bl => "bool" | .int => "int" | .str => "str" | .lst => "list" | .tup => "tuple" | .dic => "dict"
theorem kit_all : ∀ (k T : Kd), kitB (kdN k) (kdN T) = some (k == T || (k == .bl && T == .int)) := by
  intro k T; cases k <;> cases T <;> decide +kernel
theorem kit_non : ∀ T : Kd, kitB "NoneType" (kdN T) = some false := by
  intro T; cases T <;> decide +kernel
theorem isi_rep {K : PySem.W.Frag} {H : Hp} {ρ : Pl} {S : Sto} {w : W} {v : V} (sm : Sim K ρ S H) (r : RW K H ρ w v) (T : Kd) : ∃ t : Value, TyX K H v t ∧ PySem.W.kitOne K t (.type (kdN T)) = some (isiB w T) := by
  have go : ∀ k : Kd, kdOf w = some k → TyX K H v (.type (kdN k)) → ∃ t : Value, TyX K H v t ∧ PySem.W.kitOne K t (.type (kdN T)) = some (isiB w T) := fun k e h => ⟨_, h, by
    have := kit_ty (K := K) (kit_all k T)
    unfold isiB
    rw [e]
    exact this⟩
  cases w with
  | p d =>
    cases r with
    | non => exact ⟨_, .base .non, by have := kit_ty (K := K) (kit_non T); exact this⟩
    | bl b => exact go .bl rfl (.base (.bl b))
    | int i => exact go .int rfl (.base (.int i))
    | str x => exact go .str rfl (.base (.str x))
    | lst h n t => exact go .lst rfl (.base (.lst h))
    | tup h t =>
      refine go .tup rfl ?_
      rcases h with ⟨h | ⟨o, h⟩, _⟩ | (⟨h | ⟨o, h⟩⟩ | ⟨o, its, n, h1, h2, _⟩)
      · exact .base (.tup h)
      · exact .fTuple h
      · cases h
      · cases h
      · exact .kTuple h1 h2
    | dic h n t => exact go .dic rfl (.base (.dK h))
  | s ns =>
    obtain ⟨a, rfl, h⟩ := r
    refine go .lst rfl ?_
    rcases h with ⟨h | ⟨o, h⟩, _⟩ | (⟨h | ⟨o, h⟩⟩ | ⟨o, its, n, h1, h2, _⟩)
    · exact .base (.lst h)
    · exact .base (.frz h)
    · cases h
    · cases h
    · exact .kList h1 h2
  | r n =>
    obtain ⟨a, ha, rfl⟩ := r
    refine go .lst rfl ?_
    have hn : n < S.length := by rw [← sm.len]; exact (List.getElem?_eq_some_iff.mp ha).1
    cases q : S[n]? with
    | none => exact absurd (List.getElem?_eq_none_iff.mp q) (by omega)
    | some o =>
      obtain ⟨ws⟩ := o
      obtain ⟨a', xs, h1, h2, h3⟩ := sm.at_ n ws q
      rw [ha] at h1; cases h1
      exact .base (.lst h2)
theorem s_isi {T : Kd} {x y : Str} {p p' : Pos} (hK : X.K = G.K) (hgx : Gl X x) (hmx : X.mg x = none) (hvx : bootBuiltins x = some (.builtin "isinstance")) (hgy : Gl X y) (hmy : X.mg y = none) (hvy : bootBuiltins y = some (.type (kdN T)))
    (hnx : x ≠ "__name__") (hdx : (x == ("__debug__" : Str)) = false) (hny : y ≠ "__name__") (hdy : (y == ("__debug__" : Str)) = false)
    (ha : PE X a (tE G Wx (evE call xa))) (hs : starEach [a, .Name y p'] X.env = (false, eval a X.env) :: starEach [.Name y p'] X.env) :
    PE X (.Call (.Name x p) [a, .Name y p'] [] pos) (tE G Wx (evE call (.isi xa T))) := by
  have hT : PE X (.Name y p') (tC (.ty (kdN T))) := pe_bltn hgy hmy hvy rfl hny hdy
  refine PE.imp (pe_callB (call_isi (X := X)) hgx hmx hvx (pa_cons ha (pa_cons hT pa_nil rfl) hs) hnx hdx hs rfl) fun σ H Q h => ?_
  obtain ⟨ρ, τ, S, env, sm, h⟩ := h
  unfold evE at h
  refine tG.imp (tG.go env sm h) fun v H1 ⟨ρ1, S1, x, ex, env1, sm1, r1, h1⟩ => ?_
  obtain ⟨t, ht, hk⟩ := isi_rep sm1 r1 T
  exact ⟨v, _, t, _, _, rfl, .ty _, by rw [hK]; exact ht, by rw [hK]; exact hk, h1.done sm1 (.bl _)⟩
/-! ### builtins and methods -/
theorem s_biB {bi : BI} {x : Str} {id : String} {p : Pos} {e : Expr} {es : List Expr} {xs : Ex} (hc : CallR X (.builtin id) (rFn G (biF bi))) (hg : Gl X x) (hm : X.mg x = none) (hv : bootBuiltins x = some (.builtin id)) (hn : x ≠ "__name__") (hd : (x == ("__debug__" : Str)) = false)
    (ha : PA X (e :: es) (tAs G Wx (evEs call xs))) (hs : starEach (e :: es) X.env = (false, eval e X.env) :: starEach es X.env) (hpl : (backTo pos (starEach es X.env)).any (·.1) = false) : PE X (.Call (.Name x p) (e :: es) [] pos) (tE G Wx (evE call (.bi bi xs))) := by
  refine PE.imp (pe_callB hc hg hm hv ha hn hd hs hpl) fun σ H Q h => fn_ok ?_
  obtain ⟨ρ, τ, S, env, sm, h⟩ := h
  unfold evE at h
  exact ⟨ρ, τ, S, env, sm, h⟩
theorem s_biT {bi : BI} {x : Str} {id : String} {p : Pos} {e : Expr} {es : List Expr} {xs : Ex} (hc : CallR X (.type id) (rFn G (biF bi))) (hg : Gl X x) (hm : X.mg x = none) (hv : bootBuiltins x = some (.type id)) (hn : x ≠ "__name__") (hd : (x == ("__debug__" : Str)) = false)
    (ha : PA X (e :: es) (tAs G Wx (evEs call xs))) (hs : starEach (e :: es) X.env = (false, eval e X.env) :: starEach es X.env) (hpl : (backTo pos (starEach es X.env)).any (·.1) = false) : PE X (.Call (.Name x p) (e :: es) [] pos) (tE G Wx (evE call (.bi bi xs))) := by
  refine PE.imp (pe_callTy hc hg hm hv ha hn hd hs hpl) fun σ H Q h => fn_ok ?_
  obtain ⟨ρ, τ, S, env, sm, h⟩ := h
  unfold evE at h
  exact ⟨ρ, τ, S, env, sm, h⟩
theorem meOk_rep {K : PySem.W.Frag} {H : Hp} {ρ : Pl} {S : Sto} {w : W} {v : V} {m : MI} (sm : Sim K ρ S H) (r : RW K H ρ w v) (e : meOk m S w = true) : tyV K "list" v H := by
  cases w with
  | r n =>
    obtain ⟨a, ha, rfl⟩ := r
    simp only [meOk] at e
    cases q : S[n]? with
    | none => rw [q] at e; cases e
    | some o =>
      obtain ⟨ws⟩ := o
      obtain ⟨a', xs, h1, h2, h3⟩ := sm.at_ n ws q
      rw [ha] at h1; cases h1
      exact .inl ⟨rfl, xs, .of h2⟩
  | p d => cases e
  | s ns => cases e
theorem s_me {m : MI} {name : Str} {id : String} {apos : Pos} {e : Expr} {xs : Ex} (hK : X.K = G.K) (slot : Slot "list" name id) (hty : typeOf (.builtin id) = pure (.type "method_descriptor")) (hm : MtR X id (rFm G (meF m)))
    (ha : PE X a (tE G Wx (evE call xa))) (hb : PA X [e] (tAs G Wx (evEs call xs))) (hbase : attributeBase a name X.env (eval a X.env) = eval a X.env) (hline : (apos.endLine == pos.line) = true)
    (hs : starEach [e] X.env = (false, eval e X.env) :: starEach [] X.env) : PE X (.Call (.Attribute a name apos) [e] [] pos) (tE G Wx (evE call (.me m xa xs))) := by
  refine PE.imp (pe_bm PySem.F.plainAttrs_list slot hty hm ha hb hbase (by rw [hs]; rfl) hline hs rfl) fun σ H Q h => ?_
  obtain ⟨ρ, τ, S, env, sm, h⟩ := h
  unfold evE at h
  refine tG.imp (tG.go env sm h) fun v H1 ⟨ρ1, S1, x, ex, env1, sm1, r1, h1⟩ => ?_
  split at h1
  · rename_i ht
    refine ⟨hK ▸ meOk_rep sm1 r1 ht, tG.imp (tG.go env1 sm1 h1) fun vs H2 ⟨ρ2, S2, ys, ex2, env2, sm2, r2, h2⟩ => ?_⟩
    exact ⟨ρ2, S2, x, ys, sm2, RW.ext ex2 r1, r2, h2.po⟩
  · exact h1.elim
theorem s_me0 {m : MI} {name : Str} {id : String} {apos : Pos} (hK : X.K = G.K) (slot : Slot "list" name id) (hty : typeOf (.builtin id) = pure (.type "method_descriptor")) (hm : MtR X id (rFm G (meF m)))
    (ha : PE X a (tE G Wx (evE call xa))) (hbase : attributeBase a name X.env (eval a X.env) = eval a X.env) (hline : (apos.endLine == pos.line) = true) : PE X (.Call (.Attribute a name apos) [] [] pos) (tE G Wx (evE call (.me m xa .nl))) := by
  refine PE.imp (pe_bm0 PySem.F.plainAttrs_list slot hty hm ha hbase hline) fun σ H Q h => ?_
  obtain ⟨ρ, τ, S, env, sm, h⟩ := h
  unfold evE at h
  refine tG.imp (tG.go env sm h) fun v H1 ⟨ρ1, S1, x, ex, env1, sm1, r1, h1⟩ => ?_
  split at h1
  · rename_i ht
    refine ⟨hK ▸ meOk_rep sm1 r1 ht, ?_⟩
    unfold evEs at h1
    exact ⟨ρ1, S1, x, [], sm1, r1, .nil, Post.po (show Post G Wx σ ρ1 H1 (relW G) (ofO (meF m S1 x [])) Q from h1)⟩
  · exact h1.elim
theorem s_u {G' : Gk} {e e' : Expr} {o : U1} (hu : ∀ {te : TE}, PE X e te → PE X e' (fun σ H Q => te σ H fun x H1 => rF1 G (uF o) x H1 Q)) (ha : PE X e (tE G Wx (evE call xa))) : PE X e' (tE G Wx (evE call (.u o xa))) := by
  refine PE.imp (hu ha) fun σ H Q h => ?_
  obtain ⟨ρ, τ, S, env, sm, h⟩ := h
  unfold evE at h
  refine tG.imp (tG.go env sm h) fun v H1 ⟨ρ1, S1, x, ex, env1, sm1, r1, h1⟩ => ?_
  exact ⟨ρ1, S1, x, sm1, r1, h1.po⟩
theorem s_join {apos : Pos} {e : Expr} (cw : Cw G X) (ha : PE X a (tE G Wx (evE call xa))) (hb : PE X e (tE G Wx (evE call xb))) (hbase : attributeBase a "join" X.env (eval a X.env) = eval a X.env) (hline : (apos.endLine == pos.line) = true)
    (hs : starEach [e] X.env = [(false, eval e X.env)]) : PE X (.Call (.Attribute a "join" apos) [e] [] pos) (tE G Wx (evE call (.b .join xa xb))) := by
  refine PE.imp (pe_m1 F.slot_str_join F.type_str_join (fJoin_ok cw) ha hb hs hbase hline) fun σ H Q h => ?_
  obtain ⟨ρ, τ, S, env, sm, h⟩ := h
  unfold evE at h
  refine tG.imp (tG.go env sm h) fun v H1 ⟨ρ1, S1, x, ex, env1, sm1, r1, h1⟩ => ?_
  split at h1
  · rename_i ht
    unfold b2Ok at ht
    split at ht
    · cases r1
      refine ⟨⟨_, rfl⟩, tG.imp (tG.go env1 sm1 h1) fun w H2 ⟨ρ2, S2, y, ex2, env2, sm2, r2, h2⟩ => ?_⟩
      exact ⟨_, rfl, ρ2, S2, W.p (.str _), y, sm2, DF.str _, r2, h2.po⟩
    · cases ht
  · exact h1.elim
theorem s_g {x : Str} {d : PyData} {u : Value} {v : V} {p : Pos} (hg : Gl X x) (hm : X.mg x = some u) (r : RelV v u) (hd : (x == ("__debug__" : Str)) = false) (hv : ∀ H ρ, DF G.K H ρ d v) : PE X (.Name x p) (tE G Wx (evE call (.g x d))) := by
  refine PE.imp (pe_glob hg hm r hd) fun σ H Q h => ?_
  obtain ⟨ρ, τ, S, env, sm, h⟩ := h
  unfold evE at h
  exact h.done sm (hv H ρ)
def vA : PyData → V
  | .bool b => .bl b
  | .int i => .int i
  | .str x => .str x
  | _ => .non
theorem vA_rep {K : PySem.W.Frag} {H : Hp} {ρ : Pl} {d : PyData} (h : atomP d = true) : DF K H ρ d (vA d) := by
  cases d with
  | none => exact .non
  | bool b => exact .bl b
  | int i => exact .int i
  | str x => exact .str x
  | _ => cases h
theorem pe_atom {c : Const} {d : PyData} {j : Nat} {p : Pos} (h : cOk c d = true) : PE X (.Constant c j p) (tC (vA d)) ∧ atomP d = true := by
  unfold cOk at h
  split at h
  · exact ⟨pe_non, rfl⟩
  · rename_i b c
    have : b = c := by simpa using h
    subst this
    exact ⟨pe_bl, rfl⟩
  · rename_i b c
    have : b = c := by simpa using h
    subst this
    exact ⟨pe_int, rfl⟩
  · rename_i b c
    have : b = c := by simpa using h
    subst this
    exact ⟨pe_str, rfl⟩
  · cases h
theorem s_dic0 : PE X (.Dict [] [] pos) (tE G Wx (evE call (.dic .nl))) := by
  refine PE.imp pe_dnewK fun σ H Q h => ?_
  obtain ⟨ρ, τ, S, env, sm, h⟩ := h
  unfold evE at h
  exact fun p hp => Post.po (show Post G Wx σ ρ H (relW G) (ofO (some (W.p (.dict []), S))) Q from h) _ _ _ (Ext.laid sm.sub hp) (sm.laid hp) (.dic upd_same (sm.ne hp) .nil)
theorem s_dic1 {ck cv : Const} {x : Str} {d : PyData} {j j' : Nat} {p p' : Pos} (h1 : cOk ck (.str x) = true) (h2 : cOk cv d = true) :
    PE X (.Dict [some (.Constant ck j p)] [.Constant cv j' p'] pos) (tE G Wx (evE call (.dic (.cs (.k (.str x)) (.cs (.k d) .nl))))) := by
  obtain ⟨a1, _⟩ := pe_atom (X := X) (j := j) (p := p) h1
  obtain ⟨a2, hd⟩ := pe_atom (X := X) (j := j') (p := p') h2
  refine PE.imp (pe_disp (pps_cons a1 a2 pps_nil) rfl rfl (by simp) (by simp)) fun σ H Q h => ?_
  obtain ⟨ρ, τ, S, env, sm, h⟩ := h
  unfold evE at h
  simp only [dicD, hd, if_true] at h
  refine fun q hq => ?_
  show upd H q (.dK []) q = some (.dK []) ∧ ∃ kvs : List (Key × V), [(V.str x, vA d)] = kvs.map (fun kv => (kV kv.1, kv.2)) ∧ kvs.length ≤ 15 ∧ Q (.ref q) (upd (upd H q (.dK [])) q (.dK (mergeK [] kvs)))
  refine ⟨upd_same, [(.inr x, vA d)], rfl, by simp, ?_⟩
  rw [upd_upd]
  exact Post.po (show Post G Wx σ ρ H (relW G) (ofO (some (W.p (.dict [(.str x, d)]), S))) Q from h) _ _ _ (Ext.laid sm.sub hq) (sm.laid hq) (.dic upd_same (sm.ne hq) (.cons (.str x) (vA_rep hd) .nil))
end
end Pv
end

section
set_option maxRecDepth 10000
set_option maxHeartbeats 4000000
namespace Pv
open PySem PySem.Spec L2
open PyProof.Rows hiding St

/-! ## targets -/
def slots : Tg → List Nat
  | .n i => [i]
  | .nl => []
  | .cs a r => slots a ++ slots r
/-- σ' is σ but at some slots -/
def OffS (is : List Nat) (σ σ' : St) : Prop := σ'.length = σ.length ∧ ∀ j, j ∉ is → σ'[j]? = σ[j]?
theorem OffS.refl {is : List Nat} {σ : St} : OffS is σ σ := ⟨rfl, fun _ _ => rfl⟩
theorem OffS.trans {a b : List Nat} {σ σ1 σ2 : St} (h : OffS a σ σ1) (g : OffS b σ1 σ2) : OffS (a ++ b) σ σ2 :=
  ⟨g.1.trans h.1, fun j hj => by
    simp only [List.mem_append, not_or] at hj
    exact (g.2 j hj.2).trans (h.2 j hj.1)⟩
theorem wipe_off {is vs : List Nat} {σ σ' : St} (h : OffS is σ σ') (hs : ∀ i, i ∈ is → i ∈ vs) : wipe σ' vs = wipe σ vs := by
  apply List.ext_getElem?
  intro j
  by_cases hj : j ∈ vs
  · have : ∀ (s : St) (l : List Nat), j ∈ l → (wipe s l)[j]? = if j < s.length then some none else none := by
      intro s l
      induction l with
      | nil => intro h; cases h
      | cons v l ih =>
        intro hm
        unfold wipe
        by_cases hv : v = j
        · subst hv
          by_cases hl : v < s.length
          · rw [List.getElem?_set_self (by rw [wipe_length]; exact hl), if_pos hl]
          · rw [List.getElem?_eq_none (by rw [List.length_set, wipe_length]; omega), if_neg hl]
        · rw [List.getElem?_set_ne hv]
          exact ih (by rcases List.mem_cons.mp hm with e | e; exact absurd e.symm hv; exact e)
    rw [this σ' vs hj, this σ vs hj, h.1]
  · rw [wipe_out hj, wipe_out hj, h.2 j fun z => hj (hs j z)]
section
variable (G : Gk)
def tGW (t : Tg) : TG := fun v σ H Q => ∃ ρ τ S w τ', EnvR G.K H ρ τ σ ∧ Sim G.K ρ S H ∧ RW G.K H ρ w v ∧ asgT S t w τ = some τ' ∧ ∀ σ', EnvR G.K H ρ τ' σ' → OffS (slots t) σ σ' → Q σ' H
def tGWs (t : Tg) : TGs := fun vs σ H Q => ∃ ρ τ S ws τ', EnvR G.K H ρ τ σ ∧ Sim G.K ρ S H ∧ RWs G.K H ρ ws vs ∧ asgT.asgTs S t ws τ = some τ' ∧ ∀ σ', EnvR G.K H ρ τ' σ' → OffS (slots t) σ σ' → Q σ' H
end
theorem PG.imp {X : Cx} {e : Expr} {t t' : TG} (h : PG X e t) (i : ∀ v σ H Q, t' v σ H Q → t v σ H Q) : PG X e t' := ⟨fun pins s σ H v u Q I r q => h.run pins s σ H v u Q I r (i _ _ _ _ q)⟩
theorem PGs.imp {X : Cx} {e : List Expr} {t t' : TGs} (h : PGs X e t) (i : ∀ v σ H Q, t' v σ H Q → t v σ H Q) : PGs X e t' := ⟨fun pins s σ H v u Q I r q => h.run pins s σ H v u Q I r (i _ _ _ _ q)⟩
theorem PG.or {X : Cx} {e : Expr} {t t' : TG} (h : PG X e t) (h' : PG X e t') : PG X e (fun v σ H Q => t v σ H Q ∨ t' v σ H Q) := ⟨fun pins s σ H v u Q I r q => q.elim (h.run pins s σ H v u Q I r) (h'.run pins s σ H v u Q I r)⟩
theorem asgTs_len {S : Sto} : ∀ {t : Tg} {ws : List W} {τ τ' : Tau}, asgT.asgTs S t ws τ = some τ' → ∃ n, (∀ ws' τ1 τ2, asgT.asgTs S t ws' τ1 = some τ2 → ws'.length = n) ∧ ws.length = n := by
  intro t
  have len : ∀ (t : Tg) (ws : List W) (τ τ' : Tau) , asgT.asgTs S t ws τ = some τ' → ∀ ws' τ1 τ2, asgT.asgTs S t ws' τ1 = some τ2 → ws'.length = ws.length := by
    intro t
    induction t with
    | n i => intro ws τ τ' h; cases ws <;> simp [asgT.asgTs] at h
    | nl =>
      intro ws τ τ' h ws' τ1 τ2 h'
      cases ws <;> cases ws' <;> simp [asgT.asgTs] at h h' ⊢
    | cs a r iha ihr =>
      intro ws τ τ' h ws' τ1 τ2 h'
      cases ws with
      | nil => simp [asgT.asgTs] at h
      | cons w ws =>
        cases ws' with
        | nil => simp [asgT.asgTs] at h'
        | cons w' ws' =>
          unfold asgT.asgTs at h h'
          split at h
          · split at h'
            · have := ihr _ _ _ h _ _ _ h'
              simp [this]
            · cases h'
          · cases h
  intro ws τ τ' h
  exact ⟨ws.length, fun ws' τ1 τ2 h' => len t ws τ τ' h ws' τ1 τ2 h', rfl⟩
section
variable {X : Cx} {G : Gk} {pos : Pos}
theorem g_n {i : Nat} {x : Str} (hN : X.N.Nodup) (hi : X.N[i]? = some x) (hx : Loc X.env.scope x) (hf : X.fn x = true ∨ X.env.scope.names.lookup x = some .local) : PG X (.Name x pos) (tGW G (.n i)) := by
  refine PG.imp (pg_name hN hi hx hf) fun v σ H Q h => ?_
  obtain ⟨ρ, τ, S, w, τ', env, sm, r, e, q⟩ := h
  unfold asgT at e
  cases e
  refine q _ (env.set r i) ⟨by simp, fun j hj => ?_⟩
  rw [List.getElem?_set_ne (fun e => hj (by simp [slots, e]))]
theorem gs_nil : PGs X [] (tGWs G .nl) := by
  refine PGs.imp pgs_nil fun vs σ H Q h => ?_
  obtain ⟨ρ, τ, S, ws, τ', env, sm, r, e, q⟩ := h
  cases ws with
  | nil =>
    cases r
    unfold asgT.asgTs at e
    cases e
    exact ⟨rfl, q σ env OffS.refl⟩
  | cons w ws => simp [asgT.asgTs] at e
theorem gs_cons {a : Expr} {es : List Expr} {ta tr : Tg} (h1 : PG X a (tGW G ta)) (h2 : PGs X es (tGWs G tr)) (hs : (assignEach (a :: es) X.env).map (·.2) = assign a X.env :: (assignEach es X.env).map (·.2)) : PGs X (a :: es) (tGWs G (.cs ta tr)) := by
  refine PGs.imp (pgs_cons h1 h2 hs) fun vs σ H Q h => ?_
  obtain ⟨ρ, τ, S, ws, τ', env, sm, r, e, q⟩ := h
  cases ws with
  | nil => simp [asgT.asgTs] at e
  | cons w ws =>
    cases r with
    | cons r1 r2 =>
      unfold asgT.asgTs at e
      split at e
      · rename_i τ1 e1
        refine ⟨_, _, rfl, ρ, τ, S, w, τ1, env, sm, r1, e1, fun σ1 env1 off1 => ?_⟩
        exact ⟨ρ, τ1, S, ws, τ', env1, sm, r2, e, fun σ2 env2 off2 => q σ2 env2 (off1.trans off2)⟩
      · cases e
/-- the number of a row's targets -/
def tgLen : Tg → Nat
  | .cs _ r => tgLen r + 1
  | _ => 0
theorem asgTs_n {S : Sto} : ∀ {t : Tg} {ws : List W} {τ τ' : Tau}, asgT.asgTs S t ws τ = some τ' → ws.length = tgLen t := by
  intro t
  induction t with
  | n i => intro ws τ τ' h; cases ws <;> simp [asgT.asgTs] at h
  | nl => intro ws τ τ' h; cases ws <;> simp [asgT.asgTs, tgLen] at h ⊢
  | cs a r iha ihr =>
    intro ws τ τ' h
    cases ws with
    | nil => simp [asgT.asgTs] at h
    | cons w ws =>
      unfold asgT.asgTs at h
      split at h
      · simp [tgLen, ihr h]
      · cases h
theorem g_row {es : List Expr} {k : Nat} {a r : Tg} (hK : X.K = G.K) (hc : X.calm = true) (h : PGs X es (tGWs G (.cs a r))) (hn : (assignEach es X.env).length = tgLen (.cs a r)) (hst : (assignEach es X.env).findIdx? (·.1) = none) : PG X (.Tuple es k pos) (tGW G (.cs a r)) := by
  refine PG.imp (PG.or (pg_tup hc h hn hst) (pg_lst hc h hn hst)) fun v σ H Q q => ?_
  obtain ⟨ρ, τ, S, w, τ', env, sm, rr, e, q⟩ := q
  unfold asgT at e
  split at e
  · rename_i b ws e2
    obtain ⟨ad, xs, rfl, hx, hq⟩ := items_rep sm rr e2
    have hl := asgTs_n e
    have hl2 := Paired.length hx
    rcases hq with ⟨_, hq⟩ | ⟨_, hq⟩
    · exact .inl ⟨ad, xs, rfl, by rw [hK]; exact hq, by omega, ρ, τ, S, ws, τ', env, sm, hx, e, q⟩
    · exact .inr ⟨ad, xs, rfl, by rw [hK]; exact hq, by omega, ρ, τ, S, ws, τ', env, sm, hx, e, q⟩
  · cases e
end
/-- a row lies so -/
def rowR (G : Gk) (H : Hp) (ρ : Pl) : Row → V → Prop
  | .one w, v => RW G.K H ρ w v
  | .two a b, v => ∃ T x y, v = .ref T ∧ H T = some (.tup [x, y]) ∧ RW G.K H ρ a x ∧ RW G.K H ρ b y
def tGR (G : Gk) (t : Tg) : TG := fun v σ H Q => ∃ ρ τ S row τ', EnvR G.K H ρ τ σ ∧ Sim G.K ρ S H ∧ rowR G H ρ row v ∧ asgR S t row τ = some τ' ∧ ∀ σ', EnvR G.K H ρ τ' σ' → OffS (slots t) σ σ' → Q σ' H
section
variable {X : Cx} {G : Gk} {pos : Pos}
theorem gr_n {i : Nat} {x : Str} (h : PG X (.Name x pos) (tGW G (.n i))) : PG X (.Name x pos) (tGR G (.n i)) := by
  refine PG.imp h fun v σ H Q q => ?_
  obtain ⟨ρ, τ, S, row, τ', env, sm, rr, e, q⟩ := q
  cases row with
  | one w => exact ⟨ρ, τ, S, w, τ', env, sm, rr, by unfold asgR at e; exact e, q⟩
  | two a b => simp [asgR] at e
theorem gr_row {es : List Expr} {k : Nat} {a r : Tg} (hK : X.K = G.K) (hc : X.calm = true) (h : PGs X es (tGWs G (.cs a r))) (hn : (assignEach es X.env).length = tgLen (.cs a r)) (hst : (assignEach es X.env).findIdx? (·.1) = none) : PG X (.Tuple es k pos) (tGR G (.cs a r)) := by
  refine PG.imp (PG.or (g_row hK hc h hn hst) (pg_tup hc h hn hst)) fun v σ H Q q => ?_
  obtain ⟨ρ, τ, S, row, τ', env, sm, rr, e, q⟩ := q
  cases row with
  | one w => exact .inl ⟨ρ, τ, S, w, τ', env, sm, rr, by unfold asgR at e; exact e, q⟩
  | two u w =>
    obtain ⟨T, x, y, rfl, hT, r1, r2⟩ := rr
    refine .inr ⟨T, [x, y], rfl, .of hT, ?_, ρ, τ, S, [u, w], τ', env, sm, .cons r1 (.cons r2 .nil), ?_, q⟩
    · unfold asgR at e
      split at e
      · simp_all
      · simp_all [tgLen]
      · simp_all
    · unfold asgR at e
      split at e
      · simp_all
      · rename_i a' b' x' y' τ0 h1 h2
        cases h1; cases h2
        split at e
        · rename_i τ1 e1
          simp only [asgT.asgTs, e1, e]
        · cases e
      · cases e
end
/-! ## what is walked -/
def Goes (G : Gk) (J : It) (rows : List Row) (ρ0 : Pl) (H0 : Hp) : Prop := ∀ ρ H S, Ext ρ0 H0 ρ H → Sim G.K ρ S H → ∀ i : Nat,
  (∀ row, rows[i]? = some row → J.go i H ∧ ∀ x H', J.yld i H x H' → Ext ρ H ρ H' ∧ Sim G.K ρ S H' ∧ rowR G H' ρ row x) ∧ (rows.length ≤ i → J.stop i H)
def relJ (G : Gk) : Hp → Pl → List Row → It → Prop := fun H ρ rows J => Goes G J rows ρ H
abbrev tI (G : Gk) (Wx : WX) (m : Tau → Sto → R (List Row)) : TI := tG G Wx (relJ G) m
theorem PI.imp {X : Cx} {tg it : Expr} {t t' : TI} (h : PI X tg it t) (i : ∀ σ H Q, t' σ H Q → t σ H Q) : PI X tg it t' := ⟨fun pins s σ H Q I q => h.run pins s σ H Q I (i _ _ _ q)⟩
theorem PI.or {X : Cx} {tg it : Expr} {t t' : TI} (h : PI X tg it t) (h' : PI X tg it t') : PI X tg it (fun σ H Q => t σ H Q ∨ t' σ H Q) := ⟨fun pins s σ H Q I q => q.elim (h.run pins s σ H Q I) (h'.run pins s σ H Q I)⟩
/-- a value that stands still -/
theorem still_rep {K : PySem.W.Frag} {H : Hp} {ρ : Pl} {S : Sto} {w : W} {v : V} {b : Bool} {ws : List W} (r : RW K H ρ w v) (e : items S w = some (b, ws)) (st : still w = true) :
    ∃ a, v = .ref a ∧ ∀ ρ' H', Ext ρ H ρ' H' → ∃ xs, RWs K H' ρ' ws xs ∧ ((b = true ∧ SqT K H' a xs) ∨ (b = false ∧ SqL K H' a xs)) := by
  cases w with
  | p d =>
    cases d with
    | list ds' => cases e; cases r with | lst h n t => exact ⟨_, rfl, fun ρ' H' ex => ⟨_, (t.rws).ext ex, .inr ⟨rfl, .of (ex.kept n h)⟩⟩⟩
    | tuple ds' => cases e; cases r with | tup h t => exact ⟨_, rfl, fun ρ' H' ex => ⟨_, (t.rws).ext ex, .inl ⟨rfl, (h.ext ex.kp).sq⟩⟩⟩
    | _ => cases e
  | s ns =>
    cases e
    obtain ⟨a, rfl, h⟩ := r
    exact ⟨a, rfl, fun ρ' H' ex => ⟨_, ints_rw, .inr ⟨rfl, (h.ext ex.kp).sq⟩⟩⟩
  | r n => cases st
theorem sub_of {K : PySem.W.Frag} {ρ : Pl} {S : Sto} {H : Hp} (s : Sim K ρ S H) : Ext ρ H ρ H := Ext.refl s.sub
section
variable {X : Cx} {G : Gk} {Wx : WX} {call : Nat → List W → Sto → R W} {a b tg : Expr} {xa xb : Ex} {pos p : Pos}
theorem i_seq (hK : X.K = G.K) (ha : PE X a (tE G Wx (evE call xa))) : PI X tg a (tI G Wx (evI call (.iSeq xa))) := by
  refine PI.imp (PI.or (pi_list ha) (pi_tup ha)) fun σ H Q h => ?_
  obtain ⟨ρ, τ, S, env, sm, h⟩ := h
  unfold evI at h
  have key : ∀ bb : Bool, (∀ x S1 b' ws, evE call xa τ S = .ok x S1 → items S1 x = some (b', ws) → b' = bb) → tE G Wx (evE call xa) σ H fun v H1 => ∃ ad, v = .ref ad ∧ ∃ J, ((bb = true ∧ (∃ xs, SqT G.K H1 ad xs) ∧ J = Itt G.K ad) ∨ (bb = false ∧ (∃ xs, SqL G.K H1 ad xs) ∧ J = Itl G.K ad)) ∧ Q J H1 := by
    intro bb hbb
    refine ⟨ρ, τ, S, env, sm, ?_⟩
    cases e1 : evE call xa τ S with
    | bad => rw [e1] at h; exact h
    | exc x S1 => rw [e1] at h; exact h
    | ok x S1 =>
      rw [e1] at h
      intro v H1 ρ1 ex sm1 r1
      have h1 : Post G Wx σ ρ H (relJ G) (match items S1 x with
        | some (_, ws) => if still x = true then .ok (ws.map .one) S1 else .bad
        | none => .bad) Q := h
      split at h1
      · rename_i b' ws e2
        split at h1
        · rename_i hst
          obtain ⟨ad, rfl, hh⟩ := still_rep r1 e2 hst
          have hb := hbb x S1 b' ws e1 e2
          subst hb
          obtain ⟨xs, _, hq⟩ := hh ρ1 H1 (sub_of sm1)
          refine ⟨ad, rfl, if b' = true then Itt G.K ad else Itl G.K ad, ?_, ?_⟩
          · rcases hq with ⟨e3, hq⟩ | ⟨e3, hq⟩
            · subst e3; exact .inl ⟨rfl, ⟨xs, hq⟩, if_pos rfl⟩
            · subst e3; exact .inr ⟨rfl, ⟨xs, hq⟩, if_neg Bool.false_ne_true⟩
          · refine h1 _ H1 ρ1 ex sm1 fun ρ2 H2 S2 ex2 sm2 i => ?_
            obtain ⟨ys, hy, hq2⟩ := hh ρ2 H2 ex2
            have hlen := Paired.length hy
            refine ⟨fun row hrow => ?_, fun hi => ?_⟩
            · rw [List.getElem?_map] at hrow
              cases hw : ws[i]? with
              | none => rw [hw] at hrow; cases hrow
              | some w =>
                rw [hw] at hrow
                cases hrow
                obtain ⟨y, hy1, hy2⟩ := paired_get hy hw
                rcases hq2 with ⟨e3, hq2⟩ | ⟨e3, hq2⟩
                · subst e3
                  rw [if_pos rfl]
                  refine ⟨⟨ys, y, hq2, hy1⟩, fun x' H' ⟨e4, f⟩ => ?_⟩
                  subst e4
                  have : x' = y := Option.some.inj ((f ys hq2).symm.trans hy1)
                  subst this
                  exact ⟨sub_of sm2, sm2, hy2⟩
                · subst e3
                  rw [if_neg Bool.false_ne_true]
                  refine ⟨⟨ys, y, hq2, hy1⟩, fun x' H' ⟨e4, f⟩ => ?_⟩
                  subst e4
                  have : x' = y := Option.some.inj ((f ys hq2).symm.trans hy1)
                  subst this
                  exact ⟨sub_of sm2, sm2, hy2⟩
            · rw [List.length_map] at hi
              rcases hq2 with ⟨e3, hq2⟩ | ⟨e3, hq2⟩
              · subst e3; rw [if_pos rfl]; exact ⟨ys, hq2, by omega⟩
              · subst e3; rw [if_neg Bool.false_ne_true]; exact ⟨ys, hq2, by omega⟩
        · exact h1.elim
      · exact h1.elim
  by_cases ht : ∃ x S1 ws, evE call xa τ S = .ok x S1 ∧ items S1 x = some (true, ws)
  · obtain ⟨x, S1, ws, e1, e2⟩ := ht
    refine .inr (tG.imp (key true fun x' S' b' ws' e3 e4 => ?_) fun v H1 ⟨ad, e, J, hj, q⟩ => ?_)
    · rw [e1] at e3; cases e3
      rw [e2] at e4; cases e4; rfl
    · rcases hj with ⟨_, hx, rfl⟩ | ⟨z, _⟩
      · exact ⟨ad, e, by rw [hK]; exact hx, by rw [hK]; exact q⟩
      · cases z
  · refine .inl (tG.imp (key false fun x' S' b' ws' e3 e4 => ?_) fun v H1 ⟨ad, e, J, hj, q⟩ => ?_)
    · cases b' with
      | false => rfl
      | true => exact absurd ⟨_, _, _, e3, e4⟩ ht
    · rcases hj with ⟨z, _⟩ | ⟨_, hx, rfl⟩
      · cases z
      · exact ⟨ad, e, by rw [hK]; exact hx, by rw [hK]; exact q⟩
theorem rng_goes {lo : Int} {n : Nat} {ρ : Pl} {H : Hp} : Goes G (Itr lo n) (rng lo n) ρ H := by
  intro ρ2 H2 S2 ex2 sm2 i
  refine ⟨fun row hrow => ?_, fun hi => ?_⟩
  · have hi : i < n := by
      have := (List.getElem?_eq_some_iff.mp hrow).1
      simpa [rng] using this
    have : row = .one (.p (.int (lo + i))) := by
      simp only [rng, List.getElem?_map, List.getElem?_range hi, Option.map_some, Option.some.injEq] at hrow
      exact hrow.symm
    subst this
    refine ⟨hi, fun x H' ⟨e, ex⟩ => ?_⟩
    subst e; subst ex
    exact ⟨sub_of sm2, sm2, .int _⟩
  · have : n ≤ i := by simpa [rng] using hi
    exact this
theorem i_rng (hg : Gl X "range") (hm : X.mg "range" = none) (ha : PA X [a] (tAs G Wx (evEs call (.cs xa .nl)))) (hs : starEach [a] X.env = [(false, eval a X.env)]) : PI X tg (.Call (.Name "range" p) [a] [] pos) (tI G Wx (evI call (.iRng xa))) := by
  refine PI.imp (pi_range1 hg hm ha hs) fun σ H Q h => ?_
  obtain ⟨ρ, τ, S, env, sm, h⟩ := h
  unfold evI at h
  refine ⟨ρ, τ, S, env, sm, ?_⟩
  unfold evEs
  cases e1 : evE call xa τ S with
  | bad => rw [e1] at h; exact h
  | exc x S1 => rw [e1] at h; exact h
  | ok x S1 =>
    rw [e1] at h
    show ∀ v H' ρ', _ → _ → _ → _
    intro vs H1 ρ1 ex sm1 r1
    have h1 := h
    dsimp only [R.bind] at h1
    split at h1
    · rename_i n
      obtain ⟨y, rfl, ry⟩ := rws1 (show RWs G.K H1 ρ1 [W.p (.int n)] vs from r1)
      cases ry
      split at h1
      · rename_i hl
        exact ⟨n, rfl, hl.2, hl.1, h1 _ H1 ρ1 ex sm1 rng_goes⟩
      · exact h1.elim
    · exact h1.elim
theorem i_rng2 (hg : Gl X "range") (hm : X.mg "range" = none) (ha : PA X [a, b] (tAs G Wx (evEs call (.cs xa (.cs xb .nl))))) (hs : starEach [a, b] X.env = [(false, eval a X.env), (false, eval b X.env)]) (hs2 : starEach [b] X.env = [(false, eval b X.env)]) :
    PI X tg (.Call (.Name "range" p) [a, b] [] pos) (tI G Wx (evI call (.iRng2 xa xb))) := by
  refine PI.imp (pi_range2 hg hm ha hs hs2) fun σ H Q h => ?_
  obtain ⟨ρ, τ, S, env, sm, h⟩ := h
  unfold evI at h
  refine ⟨ρ, τ, S, env, sm, ?_⟩
  simp only [evEs]
  cases e1 : evE call xa τ S with
  | bad => rw [e1] at h; exact h
  | exc x S1 => rw [e1] at h; exact h
  | ok x S1 =>
    rw [e1] at h
    simp only [R.bind] at h ⊢
    cases e2 : evE call xb τ S1 with
    | bad => rw [e2] at h; exact h
    | exc y S2 => rw [e2] at h; exact h
    | ok y S2 =>
      rw [e2] at h
      intro vs H1 ρ1 ex sm1 r1
      have h1 := h
      dsimp only [R.bind] at h1
      split at h1
      · rename_i m n
        obtain ⟨u, w, rfl, ru, rw'⟩ := rws2 (show RWs G.K H1 ρ1 [W.p (.int m), W.p (.int n)] vs from r1)
        cases ru; cases rw'
        split at h1
        · rename_i hl
          exact ⟨m, n, rfl, ⟨hl.2.2, hl.2.1, hl.1.2, hl.1.1⟩, h1 _ H1 ρ1 ex sm1 rng_goes⟩
        · exact h1.elim
      · exact h1.elim
theorem enumR_get : ∀ (k : Nat) (ws : List W) (i : Nat), (enumR k ws)[i]? = ws[i]?.map fun w => Row.two (.p (.int ((k + i : Nat) : Int))) w
  | _, [], i => by simp [enumR]
  | k, w :: r, 0 => by simp [enumR]
  | k, w :: r, i + 1 => by
    simp only [enumR, List.getElem?_cons_succ]
    rw [enumR_get (k + 1) r i]
    have e : k + 1 + i = k + (i + 1) := by omega
    rw [e]
theorem enumR_len : ∀ (k : Nat) (ws : List W), (enumR k ws).length = ws.length
  | _, [] => rfl
  | k, w :: r => by simp [enumR, enumR_len (k + 1) r]
theorem enum_goes {b : Bool} {ws : List W} {ad : Addr} {ρ : Pl} {H : Hp} (hh : ∀ ρ' H', Ext ρ H ρ' H' → ∃ xs, RWs G.K H' ρ' ws xs ∧ ((b = true ∧ SqT G.K H' ad xs) ∨ (b = false ∧ SqL G.K H' ad xs))) :
    Goes G (if b = true then IteT G.K ad else Ite G.K ad) (enumR 0 ws) ρ H := by
  intro ρ2 H2 S2 ex2 sm2 i
  obtain ⟨ys, hy, hq2⟩ := hh ρ2 H2 ex2
  have hlen := Paired.length hy
  refine ⟨fun row hrow => ?_, fun hi => ?_⟩
  · rw [enumR_get] at hrow
    cases hw : ws[i]? with
    | none => rw [hw] at hrow; cases hrow
    | some w =>
      rw [hw] at hrow
      cases hrow
      obtain ⟨y, hy1, hy2⟩ := paired_get hy hw
      have fin : ∀ (T : Addr) (x : V) (H' : Hp), H2 T = none → H' = upd H2 T (.tup [.int (i : Nat), x]) → x = y →
          Ext ρ2 H2 ρ2 H' ∧ Sim G.K ρ2 S2 H' ∧ rowR G H' ρ2 (.two (.p (.int ((0 + i : Nat) : Int))) w) (.ref T) := by
        intro T x H' hT hH' e
        subst hH'
        subst e
        have ex := Ext.laid (o := .tup [.int (i : Nat), x]) sm2.sub hT
        refine ⟨ex, sm2.laid hT, T, .int (i : Nat), x, rfl, upd_same, ?_, RW.ext ex hy2⟩
        rw [Nat.zero_add]
        exact DF.int _
      rcases hq2 with ⟨e3, hq2⟩ | ⟨e3, hq2⟩
      · subst e3
        rw [if_pos rfl]
        refine ⟨⟨ys, y, hq2, hy1⟩, fun x' H' ⟨T, x, e4, hT, hH', f⟩ => ?_⟩
        subst e4
        exact fin T x H' hT hH' (Option.some.inj ((f ys hq2).symm.trans hy1))
      · subst e3
        rw [if_neg Bool.false_ne_true]
        refine ⟨⟨ys, y, hq2, hy1⟩, fun x' H' ⟨T, x, e4, hT, hH', f⟩ => ?_⟩
        subst e4
        exact fin T x H' hT hH' (Option.some.inj ((f ys hq2).symm.trans hy1))
  · rw [enumR_len] at hi
    rcases hq2 with ⟨e3, hq2⟩ | ⟨e3, hq2⟩
    · subst e3; rw [if_pos rfl]; exact ⟨ys, hq2, by omega⟩
    · subst e3; rw [if_neg Bool.false_ne_true]; exact ⟨ys, hq2, by omega⟩
theorem i_enum {elts : List Expr} {kk : Nat} {tpos : Pos} (hK : X.K = G.K) (hg : Gl X "enumerate") (hm : X.mg "enumerate" = none) (ha : PA X [a] (tAs G Wx (evEs call (.cs xa .nl)))) (hs : starEach [a] X.env = [(false, eval a X.env)]) :
    PI X (.Tuple elts kk tpos) (.Call (.Name "enumerate" p) [a] [] pos) (tI G Wx (evI call (.iEnum xa))) := by
  refine PI.imp (PI.or (pi_enum hg hm ha hs) (pi_enumT hg hm ha hs)) fun σ H Q h => ?_
  obtain ⟨ρ, τ, S, env, sm, h⟩ := h
  unfold evI at h
  have key : ∀ bb : Bool, (∀ x S1 b' ws, evE call xa τ S = .ok x S1 → items S1 x = some (b', ws) → b' = bb) → tAs G Wx (evEs call (.cs xa .nl)) σ H fun vs H1 => ∃ ad, vs = [.ref ad] ∧ ∃ J, ((bb = true ∧ (∃ xs, SqT G.K H1 ad xs) ∧ J = IteT G.K ad) ∨ (bb = false ∧ (∃ xs, SqL G.K H1 ad xs) ∧ J = Ite G.K ad)) ∧ Q J H1 := by
    intro bb hbb
    refine ⟨ρ, τ, S, env, sm, ?_⟩
    unfold evEs
    cases e1 : evE call xa τ S with
    | bad => rw [e1] at h; exact h
    | exc x S1 => rw [e1] at h; exact h
    | ok x S1 =>
      rw [e1] at h
      show ∀ v H' ρ', _ → _ → _ → _
      intro vs H1 ρ1 ex sm1 r1
      obtain ⟨y, rfl, ry⟩ := rws1 (show RWs G.K H1 ρ1 [x] vs from r1)
      have h1 : Post G Wx σ ρ H (relJ G) (match items S1 x with
        | some (_, ws) => if still x = true then .ok (enumR 0 ws) S1 else .bad
        | none => .bad) Q := h
      split at h1
      · rename_i b' ws e2
        split at h1
        · rename_i hst
          obtain ⟨ad, rfl, hh⟩ := still_rep ry e2 hst
          have hb := hbb x S1 b' ws e1 e2
          subst hb
          obtain ⟨xs, _, hq⟩ := hh ρ1 H1 (sub_of sm1)
          refine ⟨ad, rfl, if b' = true then IteT G.K ad else Ite G.K ad, ?_, h1 _ H1 ρ1 ex sm1 (enum_goes hh)⟩
          rcases hq with ⟨e3, hq⟩ | ⟨e3, hq⟩
          · subst e3; exact .inl ⟨rfl, ⟨xs, hq⟩, if_pos rfl⟩
          · subst e3; exact .inr ⟨rfl, ⟨xs, hq⟩, if_neg Bool.false_ne_true⟩
        · exact h1.elim
      · exact h1.elim
  by_cases ht : ∃ x S1 ws, evE call xa τ S = .ok x S1 ∧ items S1 x = some (true, ws)
  · obtain ⟨x, S1, ws, e1, e2⟩ := ht
    refine .inr (tG.imp (key true fun x' S' b' ws' e3 e4 => ?_) fun v H1 ⟨ad, e, J, hj, q⟩ => ?_)
    · rw [e1] at e3; cases e3
      rw [e2] at e4; cases e4; rfl
    · rcases hj with ⟨_, ⟨xs, hx⟩, rfl⟩ | ⟨z, _⟩
      · exact ⟨ad, xs, e, by rw [hK]; exact hx, by rw [hK]; exact q⟩
      · cases z
  · refine .inl (tG.imp (key false fun x' S' b' ws' e3 e4 => ?_) fun v H1 ⟨ad, e, J, hj, q⟩ => ?_)
    · cases b' with
      | false => rfl
      | true => exact absurd ⟨_, _, _, e3, e4⟩ ht
    · rcases hj with ⟨z, _⟩ | ⟨_, ⟨xs, hx⟩, rfl⟩
      · cases z
      · exact ⟨ad, xs, e, by rw [hK]; exact hx, by rw [hK]; exact q⟩
theorem zip_get : ∀ (xs ys : List W) (i : Nat) (row : Row), (List.zipWith Row.two xs ys)[i]? = some row → ∃ x y, xs[i]? = some x ∧ ys[i]? = some y ∧ row = .two x y
  | [], _, _, _, h => by simp at h
  | _ :: _, [], _, _, h => by simp at h
  | x :: _, y :: _, 0, _, h => ⟨x, y, rfl, rfl, by simpa using h.symm⟩
  | _ :: xs, _ :: ys, i + 1, row, h => zip_get xs ys i row (by simpa using h)
theorem zip_goes {b : Bool} {ws us : List W} {ad bd : Addr} {ρ : Pl} {H : Hp} (hh : ∀ ρ' H', Ext ρ H ρ' H' → ∃ xs, RWs G.K H' ρ' ws xs ∧ ((b = true ∧ SqT G.K H' ad xs) ∨ (b = false ∧ SqL G.K H' ad xs)))
    (hh2 : ∀ ρ' H', Ext ρ H ρ' H' → ∃ xs, RWs G.K H' ρ' us xs ∧ ((b = true ∧ SqT G.K H' bd xs) ∨ (b = false ∧ SqL G.K H' bd xs))) :
    Goes G (if b = true then RZ.ItzT G.K ad bd else Itz G.K ad bd) (List.zipWith Row.two ws us) ρ H := by
  intro ρ2 H2 S2 ex2 sm2 i
  obtain ⟨ys, hy, hq⟩ := hh ρ2 H2 ex2
  obtain ⟨zs, hz, hq2⟩ := hh2 ρ2 H2 ex2
  have hlen := Paired.length hy
  have hlen2 := Paired.length hz
  refine ⟨fun row hrow => ?_, fun hi => ?_⟩
  · obtain ⟨w, u, hw, hu, rfl⟩ := zip_get ws us i row hrow
    obtain ⟨y, hy1, hy2⟩ := paired_get hy hw
    obtain ⟨z, hz1, hz2⟩ := paired_get hz hu
    have fin : ∀ (T : Addr) (x x' : V) (H' : Hp), H2 T = none → H' = upd H2 T (.tup [x, x']) → x = y → x' = z →
        Ext ρ2 H2 ρ2 H' ∧ Sim G.K ρ2 S2 H' ∧ rowR G H' ρ2 (.two w u) (.ref T) := by
      intro T x x' H' hT hH' e e'
      subst hH'
      subst e
      subst e'
      have ex := Ext.laid (o := .tup [x, x']) sm2.sub hT
      exact ⟨ex, sm2.laid hT, T, x, x', rfl, upd_same, RW.ext ex hy2, RW.ext ex hz2⟩
    rcases hq with ⟨e3, hq⟩ | ⟨e3, hq⟩
    · subst e3
      rcases hq2 with ⟨_, hq2⟩ | ⟨e4, _⟩
      · rw [if_pos rfl]
        refine ⟨⟨ys, zs, y, z, hq, hq2, hy1, hz1⟩, fun x' H' ⟨T, x, x2, e4, hT, hH', f, f2⟩ => ?_⟩
        subst e4
        exact fin T x x2 H' hT hH' (Option.some.inj ((f ys hq).symm.trans hy1)) (Option.some.inj ((f2 zs hq2).symm.trans hz1))
      · cases e4
    · subst e3
      rcases hq2 with ⟨e4, _⟩ | ⟨_, hq2⟩
      · cases e4
      · rw [if_neg Bool.false_ne_true]
        refine ⟨⟨ys, zs, y, z, hq, hq2, hy1, hz1⟩, fun x' H' ⟨T, x, x2, e4, hT, hH', f, f2⟩ => ?_⟩
        subst e4
        exact fin T x x2 H' hT hH' (Option.some.inj ((f ys hq).symm.trans hy1)) (Option.some.inj ((f2 zs hq2).symm.trans hz1))
  · rw [List.length_zipWith] at hi
    have hi' : ys.length ≤ i ∨ zs.length ≤ i := by omega
    rcases hq with ⟨e3, hq⟩ | ⟨e3, hq⟩
    · subst e3
      rcases hq2 with ⟨_, hq2⟩ | ⟨e4, _⟩
      · rw [if_pos rfl]; exact ⟨ys, zs, hq, hq2, hi'⟩
      · cases e4
    · subst e3
      rcases hq2 with ⟨e4, _⟩ | ⟨_, hq2⟩
      · cases e4
      · rw [if_neg Bool.false_ne_true]; exact ⟨ys, zs, hq, hq2, hi'⟩
theorem still_items {S S' : Sto} {w : W} (h : still w = true) : items S w = items S' w := by
  cases w with
  | p d => cases d <;> rfl
  | s ns => rfl
  | r n => cases h
theorem i_zip {elts : List Expr} {kk : Nat} {tpos : Pos} (hK : X.K = G.K) (hg : Gl X "zip") (hm : X.mg "zip" = none) (ha : PA X [a, b] (tAs G Wx (evEs call (.cs xa (.cs xb .nl)))))
    (hs : starEach [a, b] X.env = (false, eval a X.env) :: starEach [b] X.env) (hpl : (backTo pos (starEach [b] X.env)).any (·.1) = false) :
    PI X (.Tuple elts kk tpos) (.Call (.Name "zip" p) [a, b] [] pos) (tI G Wx (evI call (.iZip xa xb))) := by
  refine PI.imp (RZ.pi_zipA hg hm ha hs hpl) fun σ H Q h => ?_
  obtain ⟨ρ, τ, S, env, sm, h⟩ := h
  unfold evI at h
  refine ⟨ρ, τ, S, env, sm, ?_⟩
  simp only [evEs]
  cases e1 : evE call xa τ S with
  | bad => rw [e1] at h; exact h
  | exc x S1 => rw [e1] at h; exact h
  | ok x S1 =>
    rw [e1] at h
    dsimp only [R.bind] at h ⊢
    cases e2 : evE call xb τ S1 with
    | bad => rw [e2] at h; exact h
    | exc x S2 => rw [e2] at h; exact h
    | ok y S2 =>
      rw [e2] at h
      dsimp only at h ⊢
      show ∀ v H' ρ', _ → _ → _ → _
      intro vs H1 ρ1 ex sm1 r1
      obtain ⟨v1, v2, rfl, q1, q2⟩ := rws2 (show RWs G.K H1 ρ1 [x, y] vs from r1)
      split at h
      · rename_i p q e3 e4
        split at h
        · rename_i hst
          simp only [Bool.and_eq_true] at hst
          obtain ⟨b1, ws⟩ := p
          obtain ⟨b2, us⟩ := q
          obtain ⟨ad, rfl, hh⟩ := still_rep q1 e3 hst.1
          obtain ⟨bd, rfl, hh2⟩ := still_rep q2 e4 hst.2
          split at h
          · rename_i rows e5
            unfold rowsZip at e5
            dsimp only at e5
            split at e5
            · rename_i hb
              have hb' : b1 = b2 := by simpa using hb
              subst hb'
              cases e5
              obtain ⟨xs, _, hq⟩ := hh ρ1 H1 (sub_of sm1)
              obtain ⟨ys, _, hq2⟩ := hh2 ρ1 H1 (sub_of sm1)
              have g := h _ H1 ρ1 ex sm1 (zip_goes hh hh2)
              refine ⟨ad, bd, xs, ys, rfl, ?_⟩
              rw [hK]
              rcases hq with ⟨e6, hq⟩ | ⟨e6, hq⟩
              · subst e6
                rcases hq2 with ⟨_, hq2⟩ | ⟨e7, _⟩
                · rw [if_pos rfl] at g; exact .inr ⟨hq, hq2, g⟩
                · cases e7
              · subst e6
                rcases hq2 with ⟨e7, _⟩ | ⟨_, hq2⟩
                · cases e7
                · rw [if_neg Bool.false_ne_true] at g; exact .inl ⟨hq, hq2, g⟩
            · cases e5
          · exact h.elim
        · exact h.elim
      · exact h.elim
end
end Pv
end

section
set_option maxRecDepth 10000
set_option maxHeartbeats 4000000
namespace Pv
open PySem PySem.Spec L2
open PyProof.Rows hiding St

/-! ## comprehensions -/
theorem EnvR.wipe {K : PySem.W.Frag} {H : Hp} {ρ : Pl} {τ : Tau} {σ : St} (h : EnvR K H ρ τ σ) (is : List Nat) : EnvR K H ρ (wipeT τ is) (L2.wipe σ is) := by
  induction is with
  | nil => exact h
  | cons i is ih =>
    refine ⟨by simp only [wipeT, L2.wipe, List.length_set]; exact ih.1, fun j w e => ?_⟩
    unfold wipeT at e
    unfold L2.wipe
    by_cases hij : i = j
    · subst hij
      by_cases hl : i < (wipeT τ is).length
      · rw [List.getElem?_set_self hl] at e; cases e
      · rw [List.getElem?_eq_none (by rw [List.length_set]; omega)] at e; cases e
    · rw [List.getElem?_set_ne hij] at e
      obtain ⟨v, a, b⟩ := ih.2 j w e
      exact ⟨v, by rw [List.getElem?_set_ne hij]; exact a, b⟩
theorem lcLoop_len {f : Row → Sto → R (Option W)} : ∀ {rows : List Row} {acc : List W} {S : Sto} {ws : List W} {S' : Sto}, lcLoop f rows acc S = .ok ws S' → acc.length ≤ ws.length
  | [], acc, S, ws, S', h => by unfold lcLoop at h; cases h; exact Nat.le_refl _
  | r :: rs, acc, S, ws, S', h => by
    unfold lcLoop at h
    split at h
    · have := lcLoop_len h
      simp at this
      omega
    · exact lcLoop_len h
    · cases h
theorem lcLoop_noexc {f : Row → Sto → R (Option W)} : ∀ {rows : List Row} {acc : List W} {S : Sto} {x : Xc} {S' : Sto}, lcLoop f rows acc S ≠ .exc x S'
  | [], acc, S, x, S', h => by unfold lcLoop at h; cases h
  | r :: rs, acc, S, x, S', h => by
    unfold lcLoop at h
    split at h
    · exact lcLoop_noexc h
    · exact lcLoop_noexc h
    · cases h
/-- a hidden object is changed -/
theorem Kp.hid {ρ : Pl} {H : Hp} {D : Addr} {o : HO} (hD : D ∈ ρ.φ) : Kp ρ H ρ (upd H D o) :=
  ⟨⟨[], by simp⟩, fun {a u} ha hu => by rw [upd_ne (fun e : a = D => ha (e ▸ hD))]; exact hu, fun ha _ => ha⟩
theorem Sim.hid {K : PySem.W.Frag} {ρ : Pl} {S : Sto} {H : Hp} (s : Sim K ρ S H) {D : Addr} {o : HO} (hD : D ∈ ρ.φ) (hn : D ∉ ρ.ρ) : Sim K ρ S (upd H D o) := by
  refine ⟨s.nd, s.len, fun n ws h => ?_, s.sub, fun a ha => ?_⟩
  · obtain ⟨a, xs, h1, h2, h3⟩ := s.at_ n ws h
    have : a ≠ D := fun e => hn (e ▸ List.mem_of_getElem? h1)
    exact ⟨a, xs, h1, by rw [upd_ne this]; exact h2, h3.ext (Kp.hid hD)⟩
  · by_cases e : a = D
    · exact ⟨o, by rw [e]; exact upd_same⟩
    · obtain ⟨u, hu⟩ := s.there a ha
      exact ⟨u, by rw [upd_ne e]; exact hu⟩
theorem Ext.upd_new {ρ ρ' : Pl} {H H' : Hp} (e : Ext ρ H ρ' H') {D : Addr} {o : HO} (hD : H D = none) : Ext ρ H ρ' (upd H' D o) :=
  ⟨e.pre, fun a u ha hu => by rw [upd_ne (ne_of_none hu hD)]; exact e.keep a u ha hu, e.newR, e.new, e.old, e.sub⟩
/-- the hidden object is let go: from now on it is frozen -/
def Pl.drop (ρ : Pl) (D : Addr) : Pl := ⟨ρ.ρ, ρ.φ.filter fun a => decide (a ≠ D)⟩
theorem Pl.drop_sub {ρ : Pl} {D a : Addr} (h : a ∈ (ρ.drop D).φ) : a ∈ ρ.φ := (List.mem_filter.mp h).1
theorem Pl.drop_not {ρ : Pl} {D : Addr} : D ∉ (ρ.drop D).φ := fun h => by
  have := (List.mem_filter.mp h).2
  simp at this
theorem Pl.drop_mem {ρ : Pl} {D a : Addr} (h : a ∈ ρ.φ) (n : a ≠ D) : a ∈ (ρ.drop D).φ := List.mem_filter.mpr ⟨h, by simpa using n⟩
theorem RW.fewer {K : PySem.W.Frag} {H : Hp} {ρ ρ' : Pl} (e : ρ'.ρ = ρ.ρ) (s : ∀ a, a ∈ ρ'.φ → a ∈ ρ.φ) {w : W} {v : V} (h : RW K H ρ w v) : RW K H ρ' w v := by
  cases w with
  | p d => exact DF.fewer s h
  | r n =>
    obtain ⟨a, h1, h2⟩ := h
    exact ⟨a, by rw [e]; exact h1, h2⟩
  | s ns =>
    obtain ⟨a, h1, h2⟩ := h
    exact ⟨a, h1, h2.fewer s⟩
theorem Sim.drop {K : PySem.W.Frag} {ρ : Pl} {S : Sto} {H : Hp} (s : Sim K ρ S H) {D : Addr} (hn : D ∉ ρ.ρ) : Sim K (ρ.drop D) S H := by
  refine ⟨s.nd, s.len, fun n ws h => ?_, fun a ha => Pl.drop_mem (s.sub a ha) (fun e => hn (e ▸ ha)), fun a ha => s.there a (Pl.drop_sub ha)⟩
  obtain ⟨a, xs, h1, h2, h3⟩ := s.at_ n ws h
  exact ⟨a, xs, h1, h2, Paired.imp (G := RW K H (ρ.drop D)) (fun w v r => RW.fewer (ρ := ρ) (ρ' := ρ.drop D) rfl (fun a h => Pl.drop_sub h) r) h3⟩
section
variable {X : Cx} {G : Gk} {Wx : WX} {call : Nat → List W → Sto → R W}
/-- the reading of a comprehension, from the evaluator -/
theorem lc_ok {m : Bool} {own : List Nat} {t : Tg} {it ifs e : Ex} {σ : St} {H : Hp} {Q : VK} (hs : ∀ i, i ∈ slots t → i ∈ own) (h : tE G Wx (evE call (.lc m own t it ifs e)) σ H Q) :
    tLc (tI G Wx (evI call it)) (tGR G t) (tTs G (fun _ _ _ _ => False) (evAs call ifs)) (tE G (fun _ _ _ _ => False) (evE call e)) own σ H Q := by
  obtain ⟨ρ, τ, S, env, sm, h⟩ := h
  unfold evE at h
  refine tG.imp (tG.go (rel := relJ G) env sm h) fun J H1 ⟨ρ1, S1, rows, ex, env1, sm1, goes, h1⟩ => ?_
  intro D hD
  generalize hf : (fun (row : Row) (S : Sto) => match asgR S t row (wipeT τ own) with
      | some τ' => (evAs call ifs τ' S).bind fun b S => if b = true then (evE call e τ' S).bind fun w S => .ok (some w) S else .ok none S
      | none => .bad) = f at h1
  have hD1 : D ∉ ρ1.φ := sm1.ne hD
  have ex0 : Ext ρ1 H1 ⟨ρ1.ρ, D :: ρ1.φ⟩ (upd H1 D (.lst [])) := ⟨⟨[], by simp⟩, fun a u _ hu => by rw [upd_ne (ne_of_none hu hD)]; exact hu, fun _ h => .inl h, fun a ha => by
      rcases List.mem_cons.mp ha with q | q
      · subst q; exact .inr hD
      · exact .inl q, fun a ha => List.mem_cons_of_mem _ ha, sm1.sub⟩
  have sm0 : Sim G.K ⟨ρ1.ρ, D :: ρ1.φ⟩ S1 (upd H1 D (.lst [])) := by
    refine ⟨sm1.nd, sm1.len, fun n ws q => ?_, fun a ha => List.mem_cons_of_mem _ (sm1.sub a ha), fun a ha => ?_⟩
    · obtain ⟨a, xs, g1, g2, g3⟩ := sm1.at_ n ws q
      exact ⟨a, xs, g1, by rw [upd_ne (ne_of_none g2 hD)]; exact g2, g3.ext ex0.kp⟩
    · rcases List.mem_cons.mp ha with q | q
      · subst q; exact ⟨_, upd_same⟩
      · obtain ⟨u, hu⟩ := sm1.there a q
        exact ⟨u, by rw [upd_ne (ne_of_none hu hD)]; exact hu⟩
  refine ⟨fun i mm H' => mm = rows.length - i ∧ i ≤ rows.length ∧ ∃ ρ' S' acc av, Ext ρ1 H1 ρ' H' ∧ Sim G.K ρ' S' H' ∧ D ∈ ρ'.φ ∧ D ∉ ρ'.ρ ∧ H' D = some (.lst av) ∧ RWs G.K H' ρ' acc av ∧
    Post G Wx σ ρ1 H1 (relW G) ((lcLoop f (rows.drop i) acc S').bind (mkLst m)) Q, ⟨_, rfl, Nat.zero_le _, ⟨ρ1.ρ, D :: ρ1.φ⟩, S1, [], [], ex0, sm0, List.mem_cons_self, fun z => hD1 (sm1.sub _ z), upd_same, .nil, by simpa using h1⟩, ?_⟩
  rintro i mm H2 ⟨rfl, hi, ρ2, S2, acc, av, ex2, sm2, hDφ, hDρ, hDa, racc, h2⟩
  obtain ⟨gi, gn⟩ := goes ρ2 H2 S2 ex2 sm2 i
  by_cases hlt : i < rows.length
  · obtain ⟨ggo, gy⟩ := gi rows[i] (List.getElem?_eq_getElem hlt)
    rw [List.drop_eq_getElem_cons hlt] at h2
    unfold lcLoop at h2
    refine .inr ⟨ggo, fun H' => i + 1 ≤ rows.length ∧ ∃ ρ' S' acc av, Ext ρ1 H1 ρ' H' ∧ Sim G.K ρ' S' H' ∧ D ∈ ρ'.φ ∧ D ∉ ρ'.ρ ∧ H' D = some (.lst av) ∧ RWs G.K H' ρ' acc av ∧
      Post G Wx σ ρ1 H1 (relW G) ((lcLoop f (rows.drop (i + 1)) acc S').bind (mkLst m)) Q, fun H' q => ⟨rows.length - (i + 1), by omega, rfl, q⟩, fun x H3 y => ?_⟩
    obtain ⟨ex3, sm3, rrow⟩ := gy x H3 y
    have ex13 := ex2.trans ex3
    have env3 : EnvR G.K H3 ρ2 (wipeT τ own) (L2.wipe σ own) := (env1.ext ex13.kp).wipe own
    have racc3 := RWs.ext ex3.kp racc
    have hDa3 := ex3.keep D _ hDρ hDa
    generalize hfr : f rows[i] S2 = fr at h2
    rw [← hf] at hfr
    dsimp only at hfr
    split at hfr
    · rename_i τ' eT
      refine ⟨ρ2, _, S2, rows[i], τ', env3, sm3, rrow, eT, fun σ2 env4 off => ⟨?_, ?_⟩⟩
      · rw [wipe_off off hs]
        exact wipe_off (is := own) (σ := σ) ⟨wipe_length _ _, fun j hj => wipe_out hj⟩ fun _ h => h
      · refine ⟨ρ2, τ', S2, env4, sm3, ?_⟩
        cases e1 : evAs call ifs τ' S2 with
        | bad => rw [e1] at hfr; subst hfr; exact h2
        | exc xx S3 => rw [e1] at hfr; subst hfr; exact (show False from h2).elim
        | ok b S3 =>
          rw [e1] at hfr
          intro b' H4 ρ4 ex4 sm4 eb
          have eb : b = b' := eb
          subst eb
          have ex14 := ex13.trans ex4
          have hDφ4 := ex4.old D hDφ
          have hDρ4 := ex4.notinR hDρ hDa3
          have hDa4 := ex4.keep D _ hDρ hDa3
          have racc4 := RWs.ext ex4.kp racc3
          dsimp only [R.bind] at hfr
          cases b with
          | false =>
            rw [if_neg Bool.false_ne_true] at hfr ⊢
            subst hfr
            exact ⟨hlt, ρ4, S3, acc, av, ex14, sm4, hDφ4, hDρ4, hDa4, racc4, h2⟩
          | true =>
            rw [if_pos rfl] at hfr ⊢
            refine ⟨ρ4, τ', S3, env4.ext ex4.kp, sm4, ?_⟩
            cases e2 : evE call e τ' S3 with
            | bad => rw [e2] at hfr; subst hfr; exact h2
            | exc xx S4 => rw [e2] at hfr; subst hfr; exact (show False from h2).elim
            | ok w S4 =>
              rw [e2] at hfr
              subst hfr
              dsimp only at h2
              intro v H5 ρ5 ex5 sm5 rv
              have hDφ5 := ex5.old D hDφ4
              have hDρ5 := ex5.notinR hDρ4 hDa4
              have hDa5 := ex5.keep D _ hDρ4 hDa4
              have racc5 := RWs.ext ex5.kp racc4
              have ex15 := ex14.trans ex5
              refine ⟨av, hDa5, ?_, hlt, ρ5, S4, acc ++ [w], av ++ [v], ex15.upd_new hD, sm5.hid hDφ5 hDρ5, hDφ5, hDρ5, upd_same, RWs.ext (Kp.hid hDφ5) (Paired.append racc5 (.cons rv .nil)), h2⟩
              -- the length
              rw [← Paired.length racc5]
              cases e3 : lcLoop f (rows.drop (i + 1)) (acc ++ [w]) S4 with
              | bad => rw [e3] at h2; exact h2.elim
              | exc xx S5 => exact absurd e3 lcLoop_noexc
              | ok ws S5 =>
                have hlen := lcLoop_len e3
                rw [e3] at h2
                dsimp only [R.bind] at h2
                unfold mkLst at h2
                split at h2
                · rename_i hl
                  simp at hlen
                  exact lim_lt (by omega)
                · exact h2.elim
    · subst hfr
      exact h2.elim
  · have ei : i = rows.length := by omega
    subst ei
    refine .inl ⟨gn (Nat.le_refl _), ?_⟩
    rw [List.drop_of_length_le (Nat.le_refl _)] at h2
    unfold lcLoop at h2
    dsimp only [R.bind] at h2
    unfold mkLst at h2
    split at h2
    · split at h2
      · -- a place of the store
        refine h2 (.ref D) H2 ⟨ρ2.ρ ++ [D], ρ2.φ⟩ ?_ ?_ ?_
        · obtain ⟨t', ht⟩ := ex2.pre
          refine ⟨⟨t' ++ [D], by simp [ht]⟩, ex2.keep, fun a ha => ?_, ex2.new, ex2.old, ex2.sub⟩
          rcases List.mem_append.mp ha with q | q
          · exact ex2.newR a q
          · have : a = D := by simpa using q
            subst this; exact .inr hD
        · have kp : Kp ρ2 H2 ⟨ρ2.ρ ++ [D], ρ2.φ⟩ H2 := ⟨⟨[D], rfl⟩, fun _ h => h, fun h _ => h⟩
          refine ⟨List.nodup_append.mpr ⟨sm2.nd, by simp, fun a ha b hb => ?_⟩, by simp [sm2.len], fun n ws q => ?_, fun a ha => ?_, sm2.there⟩
          · have : b = D := by simpa using hb
            subst this
            exact fun z => hDρ (z ▸ ha)
          · by_cases hn : n < S2.length
            · rw [List.getElem?_append_left hn] at q
              obtain ⟨a, xs, g1, g2, g3⟩ := sm2.at_ n ws q
              exact ⟨a, xs, by show (ρ2.ρ ++ [D])[n]? = _; rw [List.getElem?_append_left (by rw [sm2.len]; exact hn)]; exact g1, g2, g3.ext kp⟩
            · have hl : n < (S2 ++ [Ob.l acc]).length := (List.getElem?_eq_some_iff.mp q).1
              have hn2 : n = S2.length := by simp at hl; omega
              subst hn2
              simp at q
              subst q
              exact ⟨D, av, by show (ρ2.ρ ++ [D])[_]? = _; rw [← sm2.len]; simp, hDa, racc.ext kp⟩
          · rcases List.mem_append.mp ha with q | q
            · exact sm2.sub a q
            · have : a = D := by simpa using q
              subst this; exact hDφ
        · exact ⟨D, by show (ρ2.ρ ++ [D])[_]? = _; rw [← sm2.len]; simp, rfl⟩
      · split at h2
        · rename_i ds eds
          obtain ⟨rfl, hd⟩ := deP_rep racc eds
          refine h2 (.ref D) H2 (ρ2.drop D) ?_ (sm2.drop hDρ) (.lst hDa Pl.drop_not (hd.fewer fun a h => Pl.drop_sub h))
          exact ⟨ex2.pre, ex2.keep, ex2.newR, fun a ha => ex2.new a (Pl.drop_sub ha), fun a ha => Pl.drop_mem (ex2.old a ha) (fun z => hD1 (z ▸ ha)), ex2.sub⟩
        · exact h2.elim
    · exact h2.elim
end
end Pv
end

section
set_option maxRecDepth 10000
set_option maxHeartbeats 4000000
namespace Pv
open PySem PySem.Spec L2
open PyProof.Rows hiding St

/-! ## statements -/
section
variable (G : Gk) (Wx : WX)
def PostS (ρ : Pl) (H : Hp) (r : RS) (D : Ends) : Prop := match r with
  | .nx τ S => ∀ σ H' ρ', Ext ρ H ρ' H' → Sim G.K ρ' S H' → EnvR G.K H' ρ' τ σ → D.nx σ H'
  | .ret w S => ∀ v H' ρ', Ext ρ H ρ' H' → Sim G.K ρ' S H' → RW G.K H' ρ' w v → D.rt v H'
  | .bk τ S => ∀ σ H' ρ', Ext ρ H ρ' H' → Sim G.K ρ' S H' → EnvR G.K H' ρ' τ σ → D.bk σ H'
  | .ct τ S => ∀ σ H' ρ', Ext ρ H ρ' H' → Sim G.K ρ' S H' → EnvR G.K H' ρ' τ σ → D.ct σ H'
  | .exc x τ S => ∀ cls d σ H' ρ', Ext ρ H ρ' H' → Sim G.K ρ' S H' → EnvR G.K H' ρ' τ σ → XR G H' ρ' x cls d → Wx cls d σ H'
  | .bad => False
def tS (m : Tau → Sto → RS) : TS := fun D σ H => ∃ ρ τ S, EnvR G.K H ρ τ σ ∧ Sim G.K ρ S H ∧ PostS G Wx ρ H (m τ S) D
end
section
variable {G : Gk} {Wx : WX} {ρ ρ' : Pl} {H H' : Hp} {D : Ends}
theorem PostS.ext {r : RS} (e : Ext ρ H ρ' H') (h : PostS G Wx ρ H r D) : PostS G Wx ρ' H' r D := by
  cases r with
  | nx τ S => exact fun σ H2 ρ2 e2 s q => h σ H2 ρ2 (e.trans e2) s q
  | ret w S => exact fun v H2 ρ2 e2 s q => h v H2 ρ2 (e.trans e2) s q
  | bk τ S => exact fun σ H2 ρ2 e2 s q => h σ H2 ρ2 (e.trans e2) s q
  | ct τ S => exact fun σ H2 ρ2 e2 s q => h σ H2 ρ2 (e.trans e2) s q
  | exc x τ S => exact fun c d σ H2 ρ2 e2 s q => h c d σ H2 ρ2 (e.trans e2) s q
  | bad => exact h
theorem PostS.then_ {α β : Type} {rel : Hp → Pl → α → β → Prop} {r : R α} {τ : Tau} {σ : St} {f : α → Sto → RS} (env : EnvR G.K H ρ τ σ) (h : PostS G Wx ρ H (thenS r τ f) D) :
    Post G Wx σ ρ H rel r fun v H1 => ∃ ρ1 a S1, Ext ρ H ρ1 H1 ∧ EnvR G.K H1 ρ1 τ σ ∧ Sim G.K ρ1 S1 H1 ∧ rel H1 ρ1 a v ∧ PostS G Wx ρ1 H1 (f a S1) D := by
  cases r with
  | ok a S => exact fun v H1 ρ1 e s q => ⟨ρ1, a, S, e, env.ext e.kp, s, q, PostS.ext e h⟩
  | exc x S => exact fun c d H1 ρ1 e s q => h c d σ H1 ρ1 e s (env.ext e.kp) q
  | bad => exact h
theorem tG.goS {α β : Type} {rel : Hp → Pl → α → β → Prop} {m : Tau → Sto → R α} {f : α → Sto → RS} {σ : St} {ρ : Pl} {τ : Tau} {S : Sto} (env : EnvR G.K H ρ τ σ) (sm : Sim G.K ρ S H) (h : PostS G Wx ρ H (thenS (m τ S) τ f) D) :
    tG G Wx rel m σ H fun v H1 => ∃ ρ1 S1 a, Ext ρ H ρ1 H1 ∧ EnvR G.K H1 ρ1 τ σ ∧ Sim G.K ρ1 S1 H1 ∧ rel H1 ρ1 a v ∧ PostS G Wx ρ1 H1 (f a S1) D :=
  ⟨ρ, τ, S, env, sm, (PostS.then_ (rel := rel) env h).imp fun v H1 ⟨ρ1, a, S1, e, en, s, q, p⟩ => ⟨ρ1, S1, a, e, en, s, q, p⟩⟩
theorem PostS.nx_ {τ : Tau} {S : Sto} {σ : St} (h : PostS G Wx ρ H (.nx τ S) D) (sm : Sim G.K ρ S H) (env : EnvR G.K H ρ τ σ) : D.nx σ H := h σ H ρ (sub_of sm) sm env
end
section
variable {X : Cx} {G : Gk} {Wx : WX} {call : Nat → List W → Sto → R W} {a b c : Expr} {xa xb xc : Ex} {pos : Pos}
/-! ### tests of comprehensions, comprehensions -/
theorem a_nil : PTs X [] (tTs G Wx (evAs call .nl)) := ⟨fun pins s σ H Q I h => pts_nil.run pins s σ H Q I (by
  obtain ⟨ρ, τ, S, env, sm, h⟩ := h
  unfold evAs at h
  exact h.done sm rfl)⟩
theorem a_one (h : PT X a (tTs G Wx (evT call xa))) : PTs X [a] (tTs G Wx (evAs call (.cs xa .nl))) := ⟨fun pins s σ H Q I q => (pts_one h).run pins s σ H Q I (by
  obtain ⟨ρ, τ, S, env, sm, q⟩ := q
  unfold evAs at q
  exact ⟨ρ, τ, S, env, sm, q⟩)⟩
abbrev noW : WX := fun _ _ _ _ => False
theorem s_lc {m : Bool} {own : List (Str × Nat)} {t : Tg} {tg iter elt : Expr} {ifs : List Expr} {scope : Scope} {xi xf xe : Ex} (hc : X.calm = true) (hN : X.N.Nodup) (hi : PI X tg iter (tI G Wx (evI call xi))) (ok : BlkOk X.N X.env.scope scope own)
    (hg : ∀ (s : Shared) (H : Hp) (C : Addr) (cl : List (Str × Addr)) (fp : List Addr), PG (X.blk s H scope (compEnvC scope cl C X.env) fp) tg (tGR G t))
    (ht : ∀ (s : Shared) (H : Hp) (C : Addr) (cl : List (Str × Addr)) (fp : List Addr), PTs (X.blk s H scope (compEnvC scope cl C X.env) fp) ifs (tTs G noW (evAs call xf)))
    (he : ∀ (s : Shared) (H : Hp) (C : Addr) (cl : List (Str × Addr)) (fp : List Addr), PE (X.blk s H scope (compEnvC scope cl C X.env) fp) elt (tE G noW (evE call xe)))
    (hf : ∀ x, foldedSetIterable iter X.env x = pure x) (hs : ∀ i, i ∈ slots t → i ∈ own.map (·.2)) : PE X (.ListComp elt [⟨tg, iter, ifs, 0⟩] scope pos) (tE G Wx (evE call (.lc m (own.map (·.2)) t xi xf xe))) :=
  PE.imp (pe_lc hc hN hi ok hg ht he hf) fun σ H Q h => lc_ok hs h
theorem ss_setLc {i : Nat} {y : Str} {py spos : Pos} {m : Bool} {own : List (Str × Nat)} {t : Tg} {tg iter elt : Expr} {ifs : List Expr} {scope : Scope} {xi xf xe : Ex} (hc : X.calm = true) (hN : X.N.Nodup) (hy : X.N[i]? = some y) (hyl : X.env.scope.names.lookup y = some .local)
    (hsw : swapsWith (.ListComp elt [⟨tg, iter, ifs, 0⟩] scope pos) (some (.Name y py)) spos.line X.env = pure true) (hi : PI X tg iter (tI G Wx (evI call xi))) (ok : BlkOk X.N X.env.scope scope own)
    (hg : ∀ (s : Shared) (H : Hp) (C : Addr) (cl : List (Str × Addr)) (fp : List Addr), PG (X.blk s H scope (compEnvC scope cl C X.env) fp) tg (tGR G t))
    (ht : ∀ (s : Shared) (H : Hp) (C : Addr) (cl : List (Str × Addr)) (fp : List Addr), PTs (X.blk s H scope (compEnvC scope cl C X.env) fp) ifs (tTs G noW (evAs call xf)))
    (he : ∀ (s : Shared) (H : Hp) (C : Addr) (cl : List (Str × Addr)) (fp : List Addr), PE (X.blk s H scope (compEnvC scope cl C X.env) fp) elt (tE G noW (evE call xe)))
    (hf : ∀ x, foldedSetIterable iter X.env x = pure x) (hs : ∀ i, i ∈ slots t → i ∈ own.map (·.2)) :
    PS X (.Assign [.Name y py] (.ListComp elt [⟨tg, iter, ifs, 0⟩] scope pos) spos) (tS G Wx (evS call (.asg (.n i) (.lc m (own.map (·.2)) t xi xf xe)))) := by
  refine PS.imp (ps_setLc hc hN hy hyl hsw hi ok hg ht he hf) fun D σ H h => ?_
  obtain ⟨ρ, τ, S, env, sm, h⟩ := h
  unfold evS at h
  refine lc_ok (call := call) (m := m) hs ?_
  refine tG.imp (tG.goS (rel := relW G) env sm h) fun v H1 ⟨ρ1, S1, w, ex, env1, sm1, r1, h1⟩ => ?_
  unfold asgT at h1
  exact h1.nx_ sm1 (env1.set r1 i)
/-! ### assignments -/
theorem ss_set {i : Nat} {x : Str} {pos' : Pos} (hN : X.N.Nodup) (hi : X.N[i]? = some x) (hx : Loc X.env.scope x) (hf : X.fn x = true ∨ X.env.scope.names.lookup x = some .local) (ha : PE X a (tE G Wx (evE call xa)))
    (hs : swapsWith a (some (.Name x pos')) pos.line X.env = pure false) : PS X (.Assign [.Name x pos'] a pos) (tS G Wx (evS call (.asg (.n i) xa))) := by
  refine PS.imp (ps_set hN hi hx ha hs hf) fun D σ H h => ?_
  obtain ⟨ρ, τ, S, env, sm, h⟩ := h
  unfold evS at h
  refine tG.imp (tG.goS (rel := relW G) env sm h) fun v H1 ⟨ρ1, S1, w, ex, env1, sm1, r1, h1⟩ => ?_
  unfold asgT at h1
  exact h1.nx_ sm1 (env1.set r1 i)
theorem ss_asg {t : Tg} {tg : Expr} (hg : PG X tg (tGW G t)) (ha : PE X a (tE G Wx (evE call xa))) (hs : swapsWithSole [tg] a pos.line X.env = pure false) (hw : swappedStores [tg] a X.env = pure none) (h1 : (assignEach [tg] X.env).map (·.2) = [assign tg X.env]) :
    PS X (.Assign [tg] a pos) (tS G Wx (evS call (.asg t xa))) := by
  refine PS.imp (ps_asg ha hg hs hw h1) fun D σ H h => ?_
  obtain ⟨ρ, τ, S, env, sm, h⟩ := h
  unfold evS at h
  refine tG.imp (tG.goS (rel := relW G) env sm h) fun v H1 ⟨ρ1, S1, w, ex, env1, sm1, r1, h1⟩ => ?_
  cases e : asgT S1 t w τ with
  | none => rw [e] at h1; exact h1.elim
  | some τ' =>
    rw [e] at h1
    exact ⟨ρ1, τ, S1, w, τ', env1, sm1, r1, e, fun σ' env' _ => PostS.nx_ h1 sm1 env'⟩
theorem ss_sub {o i : Expr} {xo xi : Ex} {pos' : Pos} (ho : PE X o (tE G Wx (evE call xo))) (hi : PE X i (tE G Wx (evE call xi))) (ha : PE X a (tE G Wx (evE call xa)))
    (hv : ∀ v, assign (.Subscript o i pos') X.env v = (do
      let ov ← holding [v] (eval o X.env)
      let iv ← holding [v, ov] (eval i X.env)
      standAt pos'
      holding [v, ov, iv] (setItem ov iv v)
      release [v, ov, iv] []))
    (hs : swapsWithSole [.Subscript o i pos'] a pos.line X.env = pure false) (hw : swappedStores [.Subscript o i pos'] a X.env = pure none) (h1 : (assignEach [.Subscript o i pos'] X.env).map (·.2) = [assign (.Subscript o i pos') X.env]) :
    PS X (.Assign [.Subscript o i pos'] a pos) (tS G Wx (evS call (.sub xo xi xa))) := by
  refine PS.imp (ps_asg ha (pg_sub ho hi (fSet_ok (X := X) (G := G)) hv) hs hw h1) fun D σ H h => ?_
  obtain ⟨ρ, τ, S, env, sm, h⟩ := h
  unfold evS at h
  refine tG.imp (tG.goS (rel := relW G) env sm h) fun v H1 ⟨ρ1, S1, w, ex, env1, sm1, r1, h1⟩ => ?_
  refine tG.imp (tG.goS (rel := relW G) env1 sm1 h1) fun u H2 ⟨ρ2, S2, y, ex2, env2, sm2, r2, h2⟩ => ?_
  refine tG.imp (tG.goS (rel := relW G) env2 sm2 h2) fun z H3 ⟨ρ3, S3, q, ex3, env3, sm3, r3, h3⟩ => ?_
  refine ⟨ρ3, S3, y, q, w, sm3, RW.ext ex3.kp r2, r3, RW.ext (ex2.trans ex3).kp r1, ?_⟩
  cases e : fSet S3 y q w with
  | none => rw [e] at h3; exact h3
  | some S4 =>
    rw [e] at h3
    exact fun H4 ρ4 ex4 sm4 => h3 σ H4 ρ4 ex4 sm4 (env3.ext ex4.kp)
theorem ss_augA {i : Nat} {x : Str} {pos' : Pos} (hN : X.N.Nodup) (hi : X.N[i]? = some x) (hx : Loc X.env.scope x) (hf : X.fn x = true ∨ X.env.scope.names.lookup x = some .local)
    (ha : PE X a (tE G Wx (evE call xa))) : PS X (.AugAssign (.Name x pos') .Add a pos) (tS G Wx (evS call (.aug i .Add xa))) := by
  refine PS.imp (ps_aug hN hi hx ha (ip_add (X := X)) hf) fun D σ H h => ?_
  obtain ⟨ρ, τ, S, env, sm, h⟩ := h
  unfold evS at h
  split at h
  · rename_i w e
    obtain ⟨v, hv, rv⟩ := env.2 i w e
    refine ⟨v, hv, tG.imp (tG.goS (rel := relW G) env sm h) fun y H1 ⟨ρ1, S1, wy, ex, env1, sm1, r1, h1⟩ => ?_⟩
    have rv1 := RW.ext ex.kp rv
    split at h1
    · rename_i p q z _
      cases rv1; cases r1
      exact ⟨p, q, rfl, rfl, PostS.nx_ h1 sm1 (env1.set (w := .p (.int (p + q))) (v := .int (p + q)) (DF.int (p + q)) i)⟩
    · rename_i p q z _
      cases rv1; cases r1
      cases z
    · exact h1.elim
  · exact h.elim
theorem ss_augS {i : Nat} {x : Str} {pos' : Pos} (hN : X.N.Nodup) (hi : X.N[i]? = some x) (hx : Loc X.env.scope x) (hf : X.fn x = true ∨ X.env.scope.names.lookup x = some .local)
    (ha : PE X a (tE G Wx (evE call xa))) : PS X (.AugAssign (.Name x pos') .Sub a pos) (tS G Wx (evS call (.aug i .Sub xa))) := by
  refine PS.imp (ps_aug hN hi hx ha (ip_sub (X := X)) hf) fun D σ H h => ?_
  obtain ⟨ρ, τ, S, env, sm, h⟩ := h
  unfold evS at h
  split at h
  · rename_i w e
    obtain ⟨v, hv, rv⟩ := env.2 i w e
    refine ⟨v, hv, tG.imp (tG.goS (rel := relW G) env sm h) fun y H1 ⟨ρ1, S1, wy, ex, env1, sm1, r1, h1⟩ => ?_⟩
    have rv1 := RW.ext ex.kp rv
    split at h1
    · rename_i p q z _
      cases rv1; cases r1
      cases z
    · rename_i p q z _
      cases rv1; cases r1
      exact ⟨p, q, rfl, rfl, PostS.nx_ h1 sm1 (env1.set (w := .p (.int (p - q))) (v := .int (p - q)) (DF.int (p - q)) i)⟩
    · exact h1.elim
  · exact h.elim
/-! ### small statements -/
theorem ss_expr (ha : PE X a (tE G Wx (evE call xa))) (hs : swapsWith a none pos.line X.env = pure false) : PS X (.Expr a pos) (tS G Wx (evS call (.expr xa))) := by
  refine PS.imp (ps_expr ha hs) fun D σ H h => ?_
  obtain ⟨ρ, τ, S, env, sm, h⟩ := h
  unfold evS at h
  exact tG.imp (tG.goS (rel := relW G) env sm h) fun v H1 ⟨ρ1, S1, w, ex, env1, sm1, r1, h1⟩ => PostS.nx_ h1 sm1 env1
theorem ss_ret (ha : PE X a (tE G Wx (evE call xa))) : PS X (.Return (some a) pos) (tS G Wx (evS call (.ret xa))) := by
  refine PS.imp (ps_ret ha) fun D σ H h => ?_
  obtain ⟨ρ, τ, S, env, sm, h⟩ := h
  unfold evS at h
  exact tG.imp (tG.goS (rel := relW G) env sm h) fun v H1 ⟨ρ1, S1, w, ex, env1, sm1, r1, h1⟩ => h1 v H1 ρ1 (sub_of sm1) sm1 r1
theorem ss_retN : PS X (.Return none pos) (tS G Wx (evS call .retN)) := by
  refine PS.imp ps_retN fun D σ H h => ?_
  obtain ⟨ρ, τ, S, env, sm, h⟩ := h
  unfold evS at h
  exact h .non H ρ (sub_of sm) sm .non
theorem ss_pass : PS X (.Pass pos) (tS G Wx (evS call .pass)) := by
  refine PS.imp ps_pass fun D σ H h => ?_
  obtain ⟨ρ, τ, S, env, sm, h⟩ := h
  unfold evS at h
  exact h.nx_ sm env
theorem ss_brk : PS X (.Break pos) (tS G Wx (evS call .brk)) := by
  refine PS.imp ps_break fun D σ H h => ?_
  obtain ⟨ρ, τ, S, env, sm, h⟩ := h
  unfold evS at h
  exact h σ H ρ (sub_of sm) sm env
theorem ss_cont : PS X (.Continue pos) (tS G Wx (evS call .cont)) := by
  refine PS.imp ps_continue fun D σ H h => ?_
  obtain ⟨ρ, τ, S, env, sm, h⟩ := h
  unfold evS at h
  exact h σ H ρ (sub_of sm) sm env
theorem ss_if {sa sb : List Stmt} {xs ys : Sx} (hc : PT X c (tTs G Wx (evT call xc))) (ha : PSs X sa (tS G Wx (evSs call xs))) (hb : PSs X sb (tS G Wx (evSs call ys))) : PS X (.If c sa sb pos) (tS G Wx (evS call (.iff xc xs ys))) := by
  refine PS.imp (ps_if hc ha hb) fun D σ H h => ?_
  obtain ⟨ρ, τ, S, env, sm, h⟩ := h
  unfold evS at h
  refine tG.imp (tG.goS (rel := relB) env sm h) fun t H1 ⟨ρ1, S1, w, ex, env1, sm1, r1, h1⟩ => ?_
  have : w = t := r1
  subst this
  cases w with
  | true => rw [if_pos rfl] at h1 ⊢; exact ⟨ρ1, τ, S1, env1, sm1, h1⟩
  | false => rw [if_neg Bool.false_ne_true] at h1 ⊢; exact ⟨ρ1, τ, S1, env1, sm1, h1⟩
theorem ss_nil : PSs X [] (tS G Wx (evSs call .nl)) := by
  refine PSs.imp pss_nil fun D σ H h => ?_
  obtain ⟨ρ, τ, S, env, sm, h⟩ := h
  unfold evSs at h
  exact h.nx_ sm env
theorem ss_cons {st : Stmt} {sts : List Stmt} {x r : Sx} (h1 : PS X st (tS G Wx (evS call x))) (h2 : PSs X sts (tS G Wx (evSs call r))) : PSs X (st :: sts) (tS G Wx (evSs call (.cs x r))) := by
  refine PSs.imp (pss_cons h1 h2) fun D σ H h => ?_
  obtain ⟨ρ, τ, S, env, sm, h⟩ := h
  unfold evSs at h
  refine ⟨ρ, τ, S, env, sm, ?_⟩
  cases e : evS call x τ S with
  | nx τ' S' => rw [e] at h; exact fun σ' H' ρ' ex sm' env' => ⟨ρ', τ', S', env', sm', PostS.ext ex h⟩
  | ret w S' => rw [e] at h; exact h
  | bk τ' S' => rw [e] at h; exact h
  | ct τ' S' => rw [e] at h; exact h
  | exc x τ' S' => rw [e] at h; exact h
  | bad => rw [e] at h; exact h
/-! ### loops -/
theorem ss_while {body : List Stmt} {xs : Sx} (hp : PassesOwn (model X.prog X.w) X.A X.env X.xe) (hc : PT X c (tTs G Wx (evT call xc))) (hb : PSs X body (tS G Wx (evSs call xs))) : PS X (.While c body [] pos) (tS G Wx (evS call (.whl xc xs))) := by
  refine PS.imp (ps_while hp hc hb) fun D σ H h => ?_
  obtain ⟨ρ, τ, S, env, sm, h⟩ := h
  unfold evS at h
  generalize fuel = n at h
  refine ⟨fun k σ H => ∃ ρ τ S, EnvR G.K H ρ τ σ ∧ Sim G.K ρ S H ∧ PostS G Wx ρ H (whlLoop (evT call xc) (evSs call xs) k τ S) D, ⟨n, ρ, τ, S, env, sm, h⟩, ?_⟩
  rintro k σ1 H1 ⟨ρ1, τ1, S1, env1, sm1, h1⟩
  cases k with
  | zero => exact h1.elim
  | succ k =>
    unfold whlLoop at h1
    refine tG.imp (tG.goS (rel := relB) env1 sm1 h1) fun t H2 ⟨ρ2, S2, w, ex, env2, sm2, r2, h2⟩ => ?_
    have : w = t := r2
    subst this
    cases w with
    | false => rw [if_neg Bool.false_ne_true] at h2 ⊢; exact PostS.nx_ h2 sm2 env2
    | true =>
      rw [if_pos rfl] at h2 ⊢
      refine ⟨fun σ' H' => ∃ ρ τ S, EnvR G.K H' ρ τ σ' ∧ Sim G.K ρ S H' ∧ PostS G Wx ρ H' (whlLoop (evT call xc) (evSs call xs) k τ S) D, fun σ' H' q => ⟨k, Nat.lt_succ_self _, q⟩, ρ2, τ1, S2, env2, sm2, ?_⟩
      cases e : evSs call xs τ1 S2 with
      | nx τ' S' => rw [e] at h2; exact fun σ' H' ρ' ex sm' env' => ⟨ρ', τ', S', env', sm', PostS.ext ex h2⟩
      | ct τ' S' => rw [e] at h2; exact fun σ' H' ρ' ex sm' env' => ⟨ρ', τ', S', env', sm', PostS.ext ex h2⟩
      | bk τ' S' => rw [e] at h2; exact h2
      | ret w S' => rw [e] at h2; exact h2
      | exc x τ' S' => rw [e] at h2; exact h2
      | bad => rw [e] at h2; exact h2
theorem ss_for {t : Tg} {tg iter : Expr} {body : List Stmt} {xi : Ex} {xs : Sx} (hp : PassesOwn (model X.prog X.w) X.A X.env X.xe) (hc : X.calm = true) (hi : PI X tg iter (tI G Wx (evI call xi))) (hg : PG X tg (tGR G t)) (hb : PSs X body (tS G Wx (evSs call xs)))
    (hs : ∀ x, foldedSetIterable iter X.env x = pure x) : PS X (.For tg iter body [] pos) (tS G Wx (evS call (.for_ t xi xs))) := by
  refine PS.imp (ps_for hp hc hi hg hb hs) fun D σ H h => ?_
  obtain ⟨ρ, τ, S, env, sm, h⟩ := h
  unfold evS at h
  refine tG.imp (tG.goS (rel := relJ G) env sm h) fun J H1 ⟨ρ1, S1, rows, ex, env1, sm1, goes, h1⟩ => ?_
  generalize hf : (fun (row : Row) (τ : Tau) (S : Sto) => match asgR S t row τ with
      | some τ' => evSs call xs τ' S
      | none => .bad) = f at h1
  refine ⟨fun i mm σ H => mm = rows.length - i ∧ i ≤ rows.length ∧ ∃ ρ τ S, Ext ρ1 H1 ρ H ∧ EnvR G.K H ρ τ σ ∧ Sim G.K ρ S H ∧ PostS G Wx ρ H (forLoop f (rows.drop i) τ S) D, ⟨_, rfl, Nat.zero_le _, ρ1, τ, S1, sub_of sm1, env1, sm1, by simpa using h1⟩, ?_⟩
  rintro i mm σ2 H2 ⟨rfl, hi, ρ2, τ2, S2, ex2, env2, sm2, h2⟩
  obtain ⟨gi, gn⟩ := goes ρ2 H2 S2 ex2 sm2 i
  by_cases hlt : i < rows.length
  · obtain ⟨ggo, gy⟩ := gi rows[i] (List.getElem?_eq_getElem hlt)
    rw [List.drop_eq_getElem_cons hlt] at h2
    unfold forLoop at h2
    refine .inr ⟨ggo, fun σ H => i + 1 ≤ rows.length ∧ ∃ ρ τ S, Ext ρ1 H1 ρ H ∧ EnvR G.K H ρ τ σ ∧ Sim G.K ρ S H ∧ PostS G Wx ρ H (forLoop f (rows.drop (i + 1)) τ S) D, fun σ' H' q => ⟨rows.length - (i + 1), by omega, rfl, q⟩, fun x H3 y => ?_⟩
    obtain ⟨ex3, sm3, rrow⟩ := gy x H3 y
    have ex13 := ex2.trans ex3
    have h3 := PostS.ext ex3 h2
    generalize hfr : f rows[i] τ2 S2 = fr at h3
    rw [← hf] at hfr
    dsimp only at hfr
    split at hfr
    · rename_i τ' eT
      refine ⟨ρ2, τ2, S2, rows[i], τ', env2.ext ex3.kp, sm3, rrow, eT, fun σ4 env4 _ => ⟨ρ2, τ', S2, env4, sm3, ?_⟩⟩
      cases e : evSs call xs τ' S2 with
      | nx τ' S' => rw [e] at hfr; subst hfr; exact fun σ' H' ρ' ex sm' env' => ⟨hlt, ρ', τ', S', ex13.trans ex, env', sm', PostS.ext ex h3⟩
      | ct τ' S' => rw [e] at hfr; subst hfr; exact fun σ' H' ρ' ex sm' env' => ⟨hlt, ρ', τ', S', ex13.trans ex, env', sm', PostS.ext ex h3⟩
      | bk τ' S' => rw [e] at hfr; subst hfr; exact h3
      | ret w S' => rw [e] at hfr; subst hfr; exact h3
      | exc x τ' S' => rw [e] at hfr; subst hfr; exact h3
      | bad => rw [e] at hfr; subst hfr; exact h3
    · subst hfr
      exact h3.elim
  · have ei : i = rows.length := by omega
    subst ei
    rw [List.drop_of_length_le (Nat.le_refl _)] at h2
    unfold forLoop at h2
    exact .inl ⟨gn (Nat.le_refl _), h2.nx_ sm2 env2⟩
theorem ss_bad {st : Stmt} {x : Sx} (hb : ∀ τ S, evS call x τ S = .bad) : PS X st (tS G Wx (evS call x)) := ⟨fun pins s σ H Q I h => by
  obtain ⟨ρ, τ, S, env, sm, h⟩ := h
  rw [hb] at h
  exact h.elim⟩
theorem ss_stop {st : Stmt} : PS X st (tS G Wx (evS call .stop)) := ⟨fun pins s σ H Q I h => by
  obtain ⟨ρ, τ, S, env, sm, h⟩ := h
  unfold evS at h
  exact h.elim⟩
theorem ss_forR {t : Tg} {j : Nat} {tg e : Expr} {body : List Stmt} {xs : Sx} (hp : PassesOwn (model X.prog X.w) X.A X.env X.xe) (hc : X.calm = true) (hK : X.K = G.K) (ha : PE X e (tE G Wx (evE call (.v j)))) (hg : PG X tg (tGR G t)) (hb : PSs X body (tS G Wx (evSs call xs)))
    (hs : ∀ x, foldedSetIterable e X.env x = pure x) : PS X (.For tg e body [] pos) (tS G Wx (evS call (.forR t j xs))) := by
  refine PS.imp (ps_for hp hc (pi_list ha) hg hb hs) fun D σ H h => ?_
  obtain ⟨ρ, τ, S, env, sm, h⟩ := h
  unfold evS at h
  split at h
  rotate_left
  · exact h.elim
  rename_i n hτ
  split at h
  rotate_left
  · exact h.elim
  rename_i ws hS
  have ev : evE call (.v j) τ S = .ok (.r n) S := by simp only [evE, hτ]
  refine ⟨ρ, τ, S, env, sm, ?_⟩
  rw [ev]
  intro v H1 ρ1 ex sm1 r1
  obtain ⟨a, ha', rfl⟩ := r1
  obtain ⟨a1, vs, g1, g2, g3⟩ := sm1.at_ n ws hS
  rw [ha'] at g1
  cases g1
  have h1 := PostS.ext ex h
  generalize hf : (fun (row : Row) (τ : Tau) (S : Sto) => match asgR S t row τ with
      | some τ' => evSs call xs τ' S
      | none => .bad) = f at h1
  refine ⟨a, rfl, ⟨vs, .of g2⟩, fun i mm σ H => mm = ws.length - i ∧ i ≤ ws.length ∧ ∃ ρ τ S, Ext ρ1 H1 ρ H ∧ EnvR G.K H ρ τ σ ∧ Sim G.K ρ S H ∧ PostS G Wx ρ H (forLoopR f n ws (ws.drop i) τ S) D, ⟨_, rfl, Nat.zero_le _, ρ1, τ, S, sub_of sm1, env.ext ex.kp, sm1, by simpa using h1⟩, ?_⟩
  rintro i mm σ2 H2 ⟨rfl, hi, ρ2, τ2, S2, ex2, env2, sm2, h2⟩
  have stand : isL S2 n ws = true → ∃ zs, H2 a = some (.lst zs) ∧ RWs G.K H2 ρ2 ws zs := fun hL => by
    obtain ⟨a2, zs, g4, g5, g6⟩ := sm2.at_ n ws (isL_eq hL)
    obtain ⟨more, hm⟩ := ex2.pre
    rw [hm, List.getElem?_append_left (List.getElem?_eq_some_iff.mp ha').1, ha'] at g4
    cases g4
    exact ⟨zs, g5, g6⟩
  by_cases hlt : i < ws.length
  · rw [List.drop_eq_getElem_cons hlt] at h2
    unfold forLoopR at h2
    split at h2
    rotate_left
    · exact h2.elim
    rename_i hL
    obtain ⟨zs, g5, g6⟩ := stand hL
    obtain ⟨y, hy1, hy2⟩ := paired_get g6 (List.getElem?_eq_getElem hlt)
    refine .inr ⟨⟨zs, y, .of g5, hy1⟩, fun σ H => i + 1 ≤ ws.length ∧ ∃ ρ τ S, Ext ρ1 H1 ρ H ∧ EnvR G.K H ρ τ σ ∧ Sim G.K ρ S H ∧ PostS G Wx ρ H (forLoopR f n ws (ws.drop (i + 1)) τ S) D, fun σ' H' q => ⟨ws.length - (i + 1), by omega, rfl, q⟩, fun x H3 y' => ?_⟩
    obtain ⟨rfl, fy⟩ := y'
    have hx : x = y := Option.some.inj ((fy zs (.of g5)).symm.trans hy1)
    subst hx
    generalize hfr : f (.one ws[i]) τ2 S2 = fr at h2
    rw [← hf] at hfr
    dsimp only at hfr
    split at hfr
    · rename_i τ' eT
      refine ⟨ρ2, τ2, S2, .one ws[i], τ', env2, sm2, hy2, eT, fun σ4 env4 _ => ⟨ρ2, τ', S2, env4, sm2, ?_⟩⟩
      cases e : evSs call xs τ' S2 with
      | nx τ' S' => rw [e] at hfr; subst hfr; exact fun σ' H' ρ' ex sm' env' => ⟨hlt, ρ', τ', S', ex2.trans ex, env', sm', PostS.ext ex h2⟩
      | ct τ' S' => rw [e] at hfr; subst hfr; exact fun σ' H' ρ' ex sm' env' => ⟨hlt, ρ', τ', S', ex2.trans ex, env', sm', PostS.ext ex h2⟩
      | bk τ' S' => rw [e] at hfr; subst hfr; exact h2
      | ret w S' => rw [e] at hfr; subst hfr; exact h2
      | exc x τ' S' => rw [e] at hfr; subst hfr; exact h2
      | bad => rw [e] at hfr; subst hfr; exact h2
    · subst hfr
      exact h2.elim
  · have ei : i = ws.length := by omega
    subst ei
    rw [List.drop_of_length_le (Nat.le_refl _)] at h2
    unfold forLoopR at h2
    split at h2
    rotate_left
    · exact h2.elim
    rename_i hL
    obtain ⟨zs, g5, g6⟩ := stand hL
    have := Paired.length g6
    exact .inl ⟨⟨zs, .of g5, by omega⟩, h2.nx_ sm2 env2⟩
end
end Pv
end

section
set_option maxRecDepth 10000
set_option maxHeartbeats 4000000
namespace Pv
open PySem PySem.Spec L2
open PyProof.Rows hiding St

/-! ## is this the tree of that syntax? -/
structure Ck where
  N : List Str
  fns : List Str
  ar : List Nat
  gs : List (Str × PyData) := []
def notStar : Expr → Bool
  | .Starred .. => false
  | _ => true
def notSet : Expr → Bool
  | .Set .. => false
  | _ => true
def notSlice : Expr → Bool
  | .Slice .. => false
  | _ => true
def notSup : Expr → Bool
  | .Call (.Name _ _) [] [] _ => false
  | _ => true
/-- a test that is its value's truth -/
def plainT : Expr → Bool
  | .UnaryOp .. => false
  | .BoolOp .. => false
  | .IfExp .. => false
  | .Compare .. => false
  | _ => true
def okN (x : Str) : Bool := !(x == ("__debug__" : Str)) && !(x == ("__classdict__" : Str)) && !(x == ("__name__" : Str))
def visB (sc : Scope) (x : Str) : Bool := match sc.names.lookup x with
  | some .local => true
  | some .cell => true
  | some .free => true
  | _ => false
def glB (sc : Scope) (x : Str) : Bool := match sc.names.lookup x with
  | some .globalImplicit => true
  | _ => false
/-- may be stored: os as written, rs as it runs -/
def stB (os rs : Scope) (x : Str) : Bool := match os.names.lookup x, rs.names.lookup x with
  | some .local, some .local => true
  | some .cell, some .cell => true
  | _, _ => false
def biB : BI → Bool
  | .tuple | .list | .int | .listM => false
  | _ => true
def biN : BI → String
  | .len => "len" | .tuple => "tuple" | .list => "list" | .abs => "abs" | .int => "int" | .all => "all" | .any => "any" | .repr => "repr" | .sorted => "sorted" | .listM => "list"
def meN : MI → String
  | .append => "append" | .extend => "extend" | .popAt => "pop" | .pop => "pop"
def bltN : List Str := ["len", "tuple", "list", "abs", "int", "all", "any", "repr", "sorted", "isinstance", "str", "bool", "dict", "range", "enumerate", "zip"]
mutual
/-- the very same datum -/
def sameP : PyData → PyData → Bool
  | .none, .none => true
  | .bool a, .bool b => a == b
  | .int a, .int b => a == b
  | .str a, .str b => a == b
  | .tuple a, .tuple b => samePs a b
  | _, _ => false
def samePs : List PyData → List PyData → Bool
  | [], [] => true
  | a :: r, b :: s => sameP a b && samePs r s
  | _, _ => false
end
mutual
theorem sameP_eq : ∀ {a b : PyData}, sameP a b = true → a = b
  | .none, b, h => by cases b <;> simp [sameP] at h ⊢
  | .bool x, b, h => by cases b <;> simp [sameP] at h ⊢; exact h
  | .int x, b, h => by cases b <;> simp [sameP] at h ⊢; exact h
  | .str x, b, h => by cases b <;> simp [sameP] at h ⊢; exact h
  | .tuple x, b, h => by
    cases b <;> simp only [sameP] at h <;> first | (rw [samePs_eq h]) | cases h
  | .list x, b, h => by cases b <;> simp [sameP] at h
  | .dict x, b, h => by cases b <;> simp [sameP] at h
theorem samePs_eq : ∀ {a b : List PyData}, samePs a b = true → a = b
  | [], b, h => by cases b <;> simp [samePs] at h ⊢
  | x :: r, b, h => by
    cases b with
    | nil => simp [samePs] at h
    | cons y s =>
      simp only [samePs, Bool.and_eq_true] at h
      rw [sameP_eq h.1, samePs_eq h.2]
end
def gsB : List (Str × PyData) → Str → PyData → Bool
  | [], _, _ => false
  | (y, e) :: r, x, d => (decide (y = x) && sameP e d) || gsB r x d
theorem gsB_mem : ∀ {l : List (Str × PyData)} {x : Str} {d : PyData}, gsB l x d = true → (x, d) ∈ l
  | [], _, _, h => by simp [gsB] at h
  | (y, e) :: r, x, d, h => by
    simp only [gsB, Bool.or_eq_true, Bool.and_eq_true, decide_eq_true_eq] at h
    rcases h with ⟨h1, h2⟩ | h
    · rw [h1, sameP_eq h2]; exact List.mem_cons_self ..
    · exact List.mem_cons_of_mem _ (gsB_mem h)
section
variable (C : Ck)
def ckG (os rs : Scope) : Tg → Expr → Bool
  | .n i, e => match e with
    | .Name x _ => decide (C.N[i]? = some x) && stB os rs x
    | _ => false
  | .nl, _ => false
  | .cs a r, e => match e with
    | .Tuple es _ _ => ckGs os rs a r es
    | _ => false
where ckGs (os rs : Scope) : Tg → Tg → List Expr → Bool
  | a, .nl, [e] => ckG os rs a e
  | a, .cs b r, e :: es => ckG os rs a e && ckGs os rs b r es
  | _, _, _ => false
mutual
def ckE (os rs : Scope) : Ex → Expr → Bool
  | .v i, e => match e with
    | .Name x _ => decide (C.N[i]? = some x) && visB rs x && okN x
    | _ => false
  | .k d, e => match e with
    | .Constant c _ _ => cOk c d
    | _ => false
  | .tup es, e => match e with
    | .Tuple l _ _ => ckEs os rs es l
    | _ => false
  | .lst _ es, e => match e with
    | .List l _ => ckEs os rs es l
    | _ => false
  | .op o a b, e => match e with
    | .BinOp l o' r _ => decide (o = o') && ckE os rs a l && ckE os rs b r && (match o with | .Add | .Sub | .Mult | .FloorDiv | .Mod | .Pow => true | _ => false)
    | _ => false
  | .neg a, e => match e with
    | .UnaryOp .USub l _ => ckE os rs a l
    | _ => false
  | .cmp o a b, e => match e with
    | .Compare l [o'] [r] _ => decide (o = o') && !behindInMarks o r && ckE os rs a l && ckE os rs b r
    | _ => false
  | .chain o o' a b c, e => match e with
    | .Compare l [p, p'] [m, r] _ => decide (o = p) && decide (o' = p') && !lastMarks [o, o'] [m, r] && ckE os rs a l && ckE os rs b m && ckE os rs c r
    | _ => false
  | .an es, e => match e with
    | .BoolOp .And l _ => ckL os rs es l
    | _ => false
  | .orr es, e => match e with
    | .BoolOp .Or l _ => ckL os rs es l
    | _ => false
  | .no a, e => match e with
    | .UnaryOp .Not l _ => ckE os rs a l
    | _ => false
  | .ife c a b, e => match e with
    | .IfExp t l r _ => ckT os rs c t && ckE os rs a l && ckE os rs b r
    | _ => false
  | .ix a b, e => match e with
    | .Subscript l s _ => notSlice s && ckE os rs a l && ckE os rs b s
    | _ => false
  | .sl a lo hi, e => match e with
    | .Subscript l (.Slice p q none _) _ => ckE os rs a l && ckP os rs lo p && ckP os rs hi q
    | _ => false
  | .call f es, e => match e with
    | .Call (.Name x _) l [] _ => decide (C.fns[f]? = some x) && glB rs x && okN x && l.all notStar && ckEs os rs es l
    | _ => false
  | .bi b es, e => match e with
    | .Call (.Name x _) (a :: l) [] _ => decide (x = Str.ofString (biN b)) && glB rs x && notStar a && l.all notStar && ckEs os rs es (a :: l)
    | _ => false
  | .me m o es, e => match e with
    | .Call (.Attribute l name apos) [a] [] cpos => decide (name = Str.ofString (meN m)) && (match m with | .pop => false | _ => true) && notSup l && (apos.endLine == cpos.line) && notStar a && ckE os rs o l && ckEs os rs es [a]
    | .Call (.Attribute l name apos) [] [] cpos => decide (name = Str.ofString (meN m)) && (match m with | .pop => true | _ => false) && notSup l && (apos.endLine == cpos.line) && ckE os rs o l && (match es with | .nl => true | _ => false)
    | _ => false
  | .isi a T, e => match e with
    | .Call (.Name x _) [l, .Name y _] [] _ => decide (x = Str.ofString "isinstance") && decide (y = Str.ofString (kdN T)) && glB rs x && glB rs y && notStar l && ckE os rs a l
    | _ => false
  | .lc _ own t it ifs e', e => match e with
    | .ListComp elt [⟨tg, iter, cs, isa⟩] scope _ => decide (isa = 0) && blkC C.N rs scope (own.map fun i => (C.N.getD i Str.empty, i)) && decide (∀ i, i ∈ slots t → i ∈ own) && ckG C scope (relS scope rs) t tg && ckI os rs it iter tg && notSet iter && ckA scope (relS scope rs) ifs cs && ckE scope (relS scope rs) e' elt
    | _ => false
  | .u .rev a, e => match e with
    | .Subscript l (.Slice none none (some (.UnaryOp .USub (.Constant (.int 1) _ _) _)) _) _ => ckE os rs a l
    | _ => false
  | .b .join a b, e => match e with
    | .Call (.Attribute l name apos) [r] [] cpos => decide (name = Str.ofString "join") && notSup l && (apos.endLine == cpos.line) && notStar r && ckE os rs a l && ckE os rs b r
    | _ => false
  | .g x d, e => match e with
    | .Name y _ => decide (y = x) && gsB C.gs x d && glB rs x && okN x
    | _ => false
  | .dic es, e => match e with
    | .Dict [] [] _ => match es with
      | .nl => true
      | _ => false
    | .Dict [some (.Constant ck _ _)] [.Constant cv _ _] _ => match es with
      | .cs (.k (.str x)) (.cs (.k d) .nl) => cOk ck (.str x) && cOk cv d
      | _ => false
    | _ => false
  | .stop, _ => true
  | _, _ => false
def ckEs (os rs : Scope) : Ex → List Expr → Bool
  | .nl, l => match l with
    | [] => true
    | _ => false
  | .cs a r, l => match l with
    | e :: es => notStar e && ckE os rs a e && ckEs os rs r es
    | _ => false
  | .ss a r, l => match l with
    | .Starred e _ :: es => ckE os rs a e && ckEs os rs r es
    | _ => false
  | _, _ => false
def ckL (os rs : Scope) : Ex → List Expr → Bool
  | .cs a .nl, l => match l with
    | [e] => ckE os rs a e
    | _ => false
  | .cs a r, l => match l with
    | e :: f :: es => ckE os rs a e && ckL os rs r (f :: es)
    | _ => false
  | _, _ => false
def ckT (os rs : Scope) : Ex → Expr → Bool
  | .tt x, e => ckE os rs x e && (plainT e || match e, x with
    | .Compare _ [_] [_] _, .cmp .. => true
    | .Compare _ [_, _] [_, _] _, .chain .. => true
    | _, _ => false)
  | .no x, e => match e with
    | .UnaryOp .Not l _ => ckT os rs x l
    | _ => false
  | .an x, e => match e with
    | .BoolOp .And l _ => ckTl os rs x l
    | _ => false
  | .orr x, e => match e with
    | .BoolOp .Or l _ => ckTl os rs x l
    | _ => false
  | _, _ => false
def ckTl (os rs : Scope) : Ex → List Expr → Bool
  | .cs a .nl, l => match l with
    | [e] => ckT os rs a e
    | _ => false
  | .cs a r, l => match l with
    | e :: f :: es => ckT os rs a e && ckTl os rs r (f :: es)
    | _ => false
  | _, _ => false
def ckA (os rs : Scope) : Ex → List Expr → Bool
  | .nl, l => match l with
    | [] => true
    | _ => false
  | .cs a .nl, l => match l with
    | [e] => ckT os rs a e
    | _ => false
  | _, _ => false
def ckP (os rs : Scope) : Ex → Option Expr → Bool
  | .nl, o => match o with
    | none => true
    | _ => false
  | .cs a _, o => match o with
    | some e => ckE os rs a e
    | none => false
  | _, _ => false
def ckI (os rs : Scope) : Ex → Expr → Expr → Bool
  | .iSeq x, e, _ => ckE os rs x e
  | .iRng x, e, _ => match e with
    | .Call (.Name n _) [a] [] _ => decide (n = Str.ofString "range") && glB rs n && notStar a && ckE os rs x a
    | _ => false
  | .iRng2 x y, e, _ => match e with
    | .Call (.Name n _) [a, b] [] _ => decide (n = Str.ofString "range") && glB rs n && notStar a && notStar b && ckE os rs x a && ckE os rs y b
    | _ => false
  | .iEnum x, e, tg => match e, tg with
    | .Call (.Name n _) [a] [] _, .Tuple _ _ _ => decide (n = Str.ofString "enumerate") && glB rs n && notStar a && ckE os rs x a
    | _, _ => false
  | .iZip x y, e, tg => match e, tg with
    | .Call (.Name n _) [a, b] [] _, .Tuple _ _ _ => decide (n = Str.ofString "zip") && glB rs n && notStar a && notStar b && ckE os rs x a && ckE os rs y b
    | _, _ => false
  | _, _, _ => false
end
end
end Pv
end

section
set_option maxRecDepth 10000
set_option maxHeartbeats 4000000
namespace Pv
open PySem PySem.Spec L2
open PyProof.Rows hiding St

/-! ## the syntax' reading is sound -/
structure Cc (C : Ck) (G : Gk) (call : Nat → List W → Sto → R W) (k : Nat) (os rs : Scope) (Wx : WX) (X : Cx) : Prop where
  cw : Cw G X
  N : X.N = C.N
  nd : X.N.Nodup
  sc : X.env.scope = rs
  fn : ∀ x, os.names.lookup x = some .cell → X.fn x = true
  blt : ∀ x, x ∈ bltN → X.mg x = none
  room : Room k X.A
  fns : ∀ (i : Nat) (x : Str), C.fns[i]? = some x → ∃ f fd ps n, X.mg x = some (.ref f) ∧ PySem.W.keepIn X.K (.ref f) = true ∧ Binds X.K fd ps [] ∧ C.ar[i]? = some n ∧ FnG X.prog X.w X.K X.mg X.base k f fd ps (spF G call i n)
  ar : ∀ (i n : Nat) (ws : List W) (S : Sto), C.ar[i]? = some n → ((∃ w S', call i ws S = .ok w S') ∨ (∃ x S', call i ws S = .exc x S')) → ws.length = n
  gs : ∀ (x : Str) (d : PyData), (x, d) ∈ C.gs → ∃ u v, X.mg x = some u ∧ RelV v u ∧ ∀ H ρ, DF G.K H ρ d v
  tk : Takes X Wx
theorem Cc.blk {C : Ck} {G : Gk} {call : Nat → List W → Sto → R W} {k : Nat} {os rs : Scope} {Wx : WX} {X : Cx} (c : Cc C G call k os rs Wx X) (s : Shared) (H : Hp) (scope : Scope) (cl : List (Str × Addr)) (C' : Addr) (fp : List Addr) :
    Cc C G call k scope (relS scope rs) noW (X.blk s H scope (compEnvC scope cl C' X.env) fp) :=
  ⟨⟨c.cw.K, c.cw.calm, c.cw.room, c.cw.guards, c.cw.mods⟩, c.N, c.nd, by show relS scope X.env.scope = _; rw [c.sc], fun x h => by show (scope.names.lookup x == some NameKind.cell) = true; rw [h]; rfl, c.blt, c.room, c.fns, c.ar, c.gs, takes0⟩

section
variable {X : Cx}
theorem star_of {e : Expr} {es : List Expr} (h : notStar e = true) : starEach (e :: es) X.env = (false, eval e X.env) :: starEach es X.env := by
  cases e <;> first | rfl | cases h
theorem stars_of {pos : Pos} : ∀ {es : List Expr}, es.all notStar = true → (backTo pos (starEach es X.env)).any (·.1) = false
  | [], _ => rfl
  | e :: es, h => by
    simp only [List.all_cons, Bool.and_eq_true] at h
    rw [star_of h.1]
    show (false || (backTo pos (starEach es X.env)).any (·.1)) = false
    rw [stars_of h.2]; rfl
theorem set_of {e : Expr} (h : notSet e = true) (x : Value) : foldedSetIterable e X.env x = pure x := by
  cases e <;> first | rfl | cases h
theorem plain_of {e : Expr} (h : plainT e = true) (whole : Sem Value) : isTrue e X.env whole = (do let v ← whole; standAt e.pos; holding [v] (truthy v)) := by
  cases e <;> first | rfl | cases h
theorem ix_of {e : Expr} (h : notSlice e = true) : PlainIx e := by
  intro o i
  cases e <;> first | rfl | cases h
theorem sup_of {e : Expr} {name : Str} (h : notSup e = true) : attributeBase e name X.env (eval e X.env) = eval e X.env := by
  unfold attributeBase
  split
  · cases h
  · rfl
theorem vis_of {rs : Scope} {x : Str} (hs : X.env.scope = rs) (h : visB rs x = true) : Vis X.env.scope x := by
  rw [hs]
  unfold visB at h
  unfold Vis
  split at h <;> simp_all
theorem gl_of {rs : Scope} {x : Str} (hs : X.env.scope = rs) (h : glB rs x = true) : Gl X x := by
  show X.env.scope.names.lookup x = _
  rw [hs]
  unfold glB at h
  split at h <;> simp_all
theorem st_of {C : Ck} {G : Gk} {call : Nat → List W → Sto → R W} {k : Nat} {os rs : Scope} {Wx : WX} (c : Cc C G call k os rs Wx X) {x : Str} (h : stB os rs x = true) : L2.Loc X.env.scope x ∧ (X.fn x = true ∨ X.env.scope.names.lookup x = some .local) := by
  unfold stB at h
  rw [c.sc]
  unfold L2.Loc
  split at h
  · rename_i h1 h2
    exact ⟨.inl h2, .inr h2⟩
  · rename_i h1 h2
    exact ⟨.inr h2, .inl (c.fn x h1)⟩
  · cases h
theorem okN_of {x : Str} (h : okN x = true) : (x == ("__debug__" : Str)) = false ∧ (x == ("__classdict__" : Str)) = false ∧ x ≠ "__name__" := by
  unfold okN at h
  simp only [Bool.and_eq_true, Bool.not_eq_true'] at h
  exact ⟨h.1.1, h.1.2, by simpa using h.2⟩
theorem blt_ok {x : Str} (h : x ∈ bltN) : (x == ("__debug__" : Str)) = false ∧ x ≠ "__name__" := by
  have : ∀ y ∈ bltN, ((!(y == ("__debug__" : Str))) && (!(y == ("__name__" : Str)))) = true := by decide +kernel
  have := this x h
  simp only [Bool.and_eq_true, Bool.not_eq_true'] at this
  exact ⟨this.1, by simpa using this.2⟩
theorem biN_in (b : BI) : Str.ofString (biN b) ∈ bltN := by cases b <;> decide +kernel
theorem kdN_in (b : Kd) : Str.ofString (kdN b) ∈ bltN := by cases b <;> decide +kernel
theorem isi_in : Str.ofString "isinstance" ∈ bltN := by decide +kernel
theorem rng_in : Str.ofString "range" ∈ bltN := by decide +kernel
theorem kd_boot (b : Kd) : bootBuiltins (Str.ofString (kdN b)) = some (.type (kdN b)) := by cases b <;> decide +kernel
theorem bi_bootB (b : BI) (h : biB b = true) : bootBuiltins (Str.ofString (biN b)) = some (.builtin (biN b)) := by cases b <;> first | decide +kernel | cases h
theorem bi_bootT (b : BI) (h : biB b = false) : bootBuiltins (Str.ofString (biN b)) = some (.type (biN b)) := by cases b <;> first | decide +kernel | cases h
theorem isi_boot : bootBuiltins (Str.ofString "isinstance") = some (.builtin "isinstance") := by decide +kernel
end
section
variable {X : Cx} {G : Gk} (C : Cw G X)
include C
theorem bi_okB (b : BI) (h : biB b = true) : CallR X (.builtin (biN b)) (rFn G (biF b)) := by
  cases b <;> first | exact fLen_ok C | exact fAbs_ok C | exact fAll_ok C | exact fAny_ok C | exact fRepr_ok C | exact fSorted_ok C | cases h
theorem bi_okT (b : BI) (h : biB b = false) : CallR X (.type (biN b)) (rFn G (biF b)) := by
  cases b <;> first | exact fTuple_ok C | exact fList_ok C | exact fListM_ok C | exact fInt_ok C | cases h
theorem op_okA (o : Operator) (h : (match o with | .Add | .Sub | .Mult | .FloorDiv | .Mod | .Pow => true | _ => false) = true) : OpR X (binaryOp o) (rF2 G (binF o)) := by
  cases o <;> first | exact fAdd_ok C.K | exact fSub_ok | exact fMul_ok C.K | exact fDiv_ok | exact fMod_ok | exact fPow_ok | cases h
theorem cmp_ok (o : CmpOp) : OpR X (compareOp o) (rF2 G (cmpF o)) := by
  cases o
  · exact fEq_ok C
  · exact fNe_ok C
  · exact fLt_ok C
  · exact fLe_ok C
  · exact fGt_ok C
  · exact fGe_ok C
  · exact fIs_ok
  · exact fIsNot_ok
  · exact fIn_ok C
  · exact fNotIn_ok C
end
/-! ### targets -/
section
variable {C : Ck} {G : Gk} {call : Nat → List W → Sto → R W} {k : Nat} {os rs : Scope} {Wx : WX} {X : Cx}
def plainTg : Expr → Bool
  | .Name .. => true
  | .Tuple .. => true
  | _ => false
theorem each_of {e : Expr} {es : List Expr} (h : plainTg e = true) : assignEach (e :: es) X.env = (false, assign e X.env) :: assignEach es X.env := by
  cases e <;> first | rfl | cases h
theorem ckG_plain {t : Tg} {e : Expr} (h : ckG C os rs t e = true) : plainTg e = true := by
  cases t with
  | n i => unfold ckG at h; split at h <;> first | rfl | cases h
  | nl => unfold ckG at h; cases h
  | cs a r => unfold ckG at h; split at h <;> first | rfl | cases h
theorem ckGs_facts : ∀ {r a : Tg} {es : List Expr}, ckG.ckGs C os rs a r es = true → (assignEach es X.env).length = tgLen (.cs a r) ∧ (assignEach es X.env).findIdx? (·.1) = none := by
  intro r
  induction r with
  | n i => intro a es h; cases es <;> simp [ckG.ckGs] at h
  | nl =>
    intro a es h
    cases es with
    | nil => simp [ckG.ckGs] at h
    | cons e es =>
      cases es with
      | nil =>
        unfold ckG.ckGs at h
        rw [each_of (ckG_plain h)]
        exact ⟨rfl, rfl⟩
      | cons f es => simp [ckG.ckGs] at h
  | cs b r iha ihr =>
    intro a es h
    cases es with
    | nil => simp [ckG.ckGs] at h
    | cons e es =>
      unfold ckG.ckGs at h
      simp only [Bool.and_eq_true] at h
      obtain ⟨h1, h2⟩ := ihr h.2
      rw [each_of (ckG_plain h.1)]
      refine ⟨by simp [h1, tgLen], ?_⟩
      rw [List.findIdx?_cons, h2]
      rfl
mutual
theorem tg_ok (c : Cc C G call k os rs Wx X) : ∀ {t : Tg} {e : Expr}, ckG C os rs t e = true → PG X e (tGW G t)
  | .n i, e, h => by
    unfold ckG at h
    split at h
    · simp only [Bool.and_eq_true, decide_eq_true_eq] at h
      obtain ⟨h1, h2⟩ := st_of c h.2
      exact g_n c.nd (by rw [c.N]; exact h.1) h1 h2
    · cases h
  | .nl, e, h => by unfold ckG at h; cases h
  | .cs a r, e, h => by
    unfold ckG at h
    split at h
    · obtain ⟨h1, h2⟩ := ckGs_facts (X := X) h
      exact g_row c.cw.K c.cw.calm (tgs_ok c h) h1 h2
    · cases h
theorem tgs_ok (c : Cc C G call k os rs Wx X) : ∀ {a r : Tg} {es : List Expr}, ckG.ckGs C os rs a r es = true → PGs X es (tGWs G (.cs a r))
  | a, .nl, [], h => by simp [ckG.ckGs] at h
  | a, .nl, [e], h => by
    unfold ckG.ckGs at h
    exact gs_cons (tg_ok c h) gs_nil (by rw [each_of (ckG_plain h)]; rfl)
  | a, .nl, e :: f :: es, h => by simp [ckG.ckGs] at h
  | a, .n i, es, h => by cases es <;> simp [ckG.ckGs] at h
  | a, .cs b r, [], h => by simp [ckG.ckGs] at h
  | a, .cs b r, e :: es, h => by
    unfold ckG.ckGs at h
    simp only [Bool.and_eq_true] at h
    exact gs_cons (tg_ok c h.1) (tgs_ok c h.2) (by rw [each_of (ckG_plain h.1)]; rfl)
end
theorem tgr_ok (c : Cc C G call k os rs Wx X) {t : Tg} {e : Expr} (h : ckG C os rs t e = true) : PG X e (tGR G t) := by
  cases t with
  | n i =>
    have h0 := tg_ok c h
    unfold ckG at h
    split at h
    · exact gr_n h0
    · cases h
  | nl => unfold ckG at h; cases h
  | cs a r =>
    unfold ckG at h
    split at h
    · obtain ⟨h1, h2⟩ := ckGs_facts (X := X) h
      exact gr_row c.cw.K c.cw.calm (tgs_ok c h) h1 h2
    · cases h
end
end Pv
end

section
set_option maxRecDepth 10000
set_option maxHeartbeats 4000000
namespace Pv
open PySem PySem.Spec L2
open PyProof.Rows hiding St

theorem own_map (C : Ck) (own : List Nat) : (own.map fun i => (C.N.getD i Str.empty, i)).map (·.2) = own := by
  rw [List.map_map]
  exact List.map_id' own
section
variable {C : Ck} {G : Gk} {call : Nat → List W → Sto → R W} {k : Nat}
mutual
theorem sE : ∀ (x : Ex) {os rs : Scope} {Wx : WX} {X : Cx} (c : Cc C G call k os rs Wx X) {e : Expr}, ckE C os rs x e = true → PE X e (tE G Wx (evE call x))
  | .v i, os, rs, Wx, X, c, e, h => by
    unfold ckE at h
    split at h
    · simp only [Bool.and_eq_true, decide_eq_true_eq] at h
      have := okN_of h.2
      exact s_v (by rw [c.N]; exact h.1.1) (vis_of c.sc h.1.2) this.1 this.2.1
    · cases h
  | .k d, os, rs, Wx, X, c, e, h => by
    unfold ckE at h
    split at h
    · exact s_k h
    · cases h
  | .tup es, os, rs, Wx, X, c, e, h => by
    unfold ckE at h
    split at h
    · exact s_tup (sEs es c h)
    · cases h
  | .lst m es, os, rs, Wx, X, c, e, h => by
    unfold ckE at h
    split at h
    · exact s_lst (sEs es c h)
    · cases h
  | .op o a b, os, rs, Wx, X, c, e, h => by
    unfold ckE at h
    split at h
    · simp only [Bool.and_eq_true, decide_eq_true_eq] at h
      obtain ⟨⟨⟨h1, h2⟩, h3⟩, h4⟩ := h
      subst h1
      exact s_op (op_okA c.cw _ h4) (sE a c h2) (sE b c h3)
    · cases h
  | .neg a, os, rs, Wx, X, c, e, h => by
    unfold ckE at h
    split at h
    · exact s_neg (sE a c h)
    · cases h
  | .cmp o a b, os, rs, Wx, X, c, e, h => by
    unfold ckE at h
    split at h
    · simp only [Bool.and_eq_true, decide_eq_true_eq, Bool.not_eq_true'] at h
      obtain ⟨⟨⟨h1, h2⟩, h3⟩, h4⟩ := h
      subst h1
      exact s_cmp (Pv.cmp_ok c.cw _) (sE a c h3) (sE b c h4) h2
    · cases h
  | .chain o o' a b d, os, rs, Wx, X, c, e, h => by
    unfold ckE at h
    split at h
    · simp only [Bool.and_eq_true, decide_eq_true_eq, Bool.not_eq_true'] at h
      obtain ⟨⟨⟨⟨⟨h1, h2⟩, h3⟩, h4⟩, h5⟩, h6⟩ := h
      subst h1; subst h2
      exact s_chain (Pv.cmp_ok c.cw _) (Pv.cmp_ok c.cw _) (sE a c h4) (sE b c h5) (sE d c h6) h3
    · cases h
  | .an es, os, rs, Wx, X, c, e, h => by
    unfold ckE at h
    split at h
    · have := sAn es c (pos := by assumption) h
      exact PE.imp this fun σ H Q q => by
        obtain ⟨ρ, τ, S, env, sm, q⟩ := q
        unfold evE at q
        exact ⟨ρ, τ, S, env, sm, q⟩
    · cases h
  | .orr es, os, rs, Wx, X, c, e, h => by
    unfold ckE at h
    split at h
    · have := sOr es c (pos := by assumption) h
      exact PE.imp this fun σ H Q q => by
        obtain ⟨ρ, τ, S, env, sm, q⟩ := q
        unfold evE at q
        exact ⟨ρ, τ, S, env, sm, q⟩
    · cases h
  | .no a, os, rs, Wx, X, c, e, h => by
    unfold ckE at h
    split at h
    · exact s_no (sE a c h)
    · cases h
  | .ife t a b, os, rs, Wx, X, c, e, h => by
    unfold ckE at h
    split at h
    · simp only [Bool.and_eq_true] at h
      exact s_ife (sT t c h.1.1) (sE a c h.1.2) (sE b c h.2)
    · cases h
  | .ix a b, os, rs, Wx, X, c, e, h => by
    unfold ckE at h
    split at h
    · simp only [Bool.and_eq_true] at h
      exact s_ix (fIx_ok c.cw) (sE a c h.1.2) (sE b c h.2) (ix_of h.1.1)
    · cases h
  | .sl a lo hi, os, rs, Wx, X, c, e, h => by
    unfold ckE at h
    split at h
    · simp only [Bool.and_eq_true] at h
      exact s_sl (fSl_ok c.cw) (sE a c h.1.1) (sP lo c h.1.2) (sP hi c h.2)
    · cases h
  | .call f es, os, rs, Wx, X, c, e, h => by
    unfold ckE at h
    split at h
    · simp only [Bool.and_eq_true, decide_eq_true_eq] at h
      obtain ⟨⟨⟨⟨h1, h2⟩, h3⟩, h4⟩, h5⟩ := h
      obtain ⟨fa, fd, ps, n, hm, hk, hb, hn, F⟩ := c.fns f _ h1
      have hx := okN_of h3
      have hcx : ∀ (pins : List (Addr × Obj)) (σ : St) (H : Hp) (s : Shared) (e : Value) (s' : Shared), L2.Inv X pins σ H s → L2.CX X.prog X.w X.stack H s (fun c d H' => Wx c d σ H') e s' → X.xe e s' := fun pins σ H s e s' I q => c.tk e s' (XE.of_call I (fun _ _ _ h => h) q)
      rename_i x p l pos
      have ha := sEs es c h5
      cases l with
      | nil =>
        refine PE.imp (pe_callG0 F c.room c.cw.guards (gl_of c.sc h2) hm hk hb hcx hx.1) fun σ H Q q => ?_
        have q2 := call_ok (n := n) (fun vs H ρ ws r S hh => by rw [← Paired.length r]; exact c.ar f n ws S hn hh) q
        cases es with
        | nl =>
          obtain ⟨ρ, τ, S, env, sm, q2⟩ := q2
          unfold evEs at q2
          exact q2.done sm .nil
        | cs a r => unfold ckEs at h5; simp at h5
        | _ => unfold ckEs at h5; cases h5
      | cons a l =>
        simp only [List.all_cons, Bool.and_eq_true] at h4
        refine PE.imp (pe_callG F c.room c.cw.guards (gl_of c.sc h2) hm hk hb hcx ha hx.1 (star_of h4.1) (stars_of h4.2)) fun σ H Q q => ?_
        exact call_ok (n := n) (fun vs H ρ ws r S hh => by rw [← Paired.length r]; exact c.ar f n ws S hn hh) q
    · cases h
  | .bi b es, os, rs, Wx, X, c, e, h => by
    unfold ckE at h
    split at h
    · simp only [Bool.and_eq_true, decide_eq_true_eq] at h
      obtain ⟨⟨⟨⟨h1, h2⟩, h3⟩, h4⟩, h5⟩ := h
      subst h1
      have hx := blt_ok (biN_in b)
      have hm := c.blt _ (biN_in b)
      cases e : biB b with
      | true => exact s_biB (bi_okB c.cw b e) (gl_of c.sc h2) hm (bi_bootB b e) hx.2 hx.1 (sEs es c h5) (star_of h3) (stars_of h4)
      | false => exact s_biT (bi_okT c.cw b e) (gl_of c.sc h2) hm (bi_bootT b e) hx.2 hx.1 (sEs es c h5) (star_of h3) (stars_of h4)
    · cases h
  | .me m o es, os, rs, Wx, X, c, e, h => by
    unfold ckE at h
    split at h
    · simp only [Bool.and_eq_true, decide_eq_true_eq] at h
      obtain ⟨⟨⟨⟨⟨⟨h1, h2⟩, h3⟩, h4⟩, h5⟩, h6⟩, h7⟩ := h
      subst h1
      have ha := sE o c h6
      have hb := sEs es c h7
      cases m with
      | append => exact s_me c.cw.K PySem.F.slot_list_append PySem.F.type_list_append (fAppend_ok c.cw) ha hb (sup_of h3) h4 (star_of h5)
      | extend => exact s_me c.cw.K PySem.F.slot_list_extend PySem.F.type_list_extend (fExtend_ok c.cw) ha hb (sup_of h3) h4 (star_of h5)
      | popAt => exact s_me c.cw.K PySem.F.slot_list_pop PySem.F.type_list_pop (fPopAt_ok c.cw) ha hb (sup_of h3) h4 (star_of h5)
      | pop => cases h2
    · simp only [Bool.and_eq_true, decide_eq_true_eq] at h
      obtain ⟨⟨⟨⟨⟨h1, h2⟩, h3⟩, h4⟩, h5⟩, h6⟩ := h
      subst h1
      have ha := sE o c h5
      cases es with
      | nl =>
        cases m with
        | pop => exact s_me0 c.cw.K PySem.F.slot_list_pop PySem.F.type_list_pop (fPop_ok c.cw) ha (sup_of h3) h4
        | _ => cases h2
      | _ => cases h6
    · cases h
  | .isi a T, os, rs, Wx, X, c, e, h => by
    unfold ckE at h
    split at h
    · simp only [Bool.and_eq_true, decide_eq_true_eq] at h
      obtain ⟨⟨⟨⟨⟨h1, h2⟩, h3⟩, h4⟩, h5⟩, h6⟩ := h
      subst h1; subst h2
      have hx := blt_ok isi_in
      have hy := blt_ok (kdN_in T)
      exact s_isi c.cw.K (gl_of c.sc h3) (c.blt _ isi_in) isi_boot (gl_of c.sc h4) (c.blt _ (kdN_in T)) (kd_boot T) hx.2 hx.1 hy.2 hy.1 (sE a c h6) (star_of h5)
    · cases h
  | .lc m own t it ifs e', os, rs, Wx, X, c, e, h => by
    unfold ckE at h
    split at h
    · rename_i elt tg iter cs isa scope pos
      simp only [Bool.and_eq_true, decide_eq_true_eq] at h
      obtain ⟨⟨⟨⟨⟨⟨⟨h1, h2⟩, h3⟩, h4⟩, h5⟩, h6⟩, h7⟩, h8⟩ := h
      subst h1
      have hown := own_map C own
      have hb : BlkOk X.N X.env.scope scope (own.map fun i => (C.N.getD i Str.empty, i)) := by rw [c.N, c.sc]; exact blkOk_by h2
      have := s_lc (X := X) (G := G) (Wx := Wx) (call := call) (m := m) (own := own.map fun i => (C.N.getD i Str.empty, i)) (t := t) (pos := pos) c.cw.calm c.nd (sI it c h5) hb
        (fun s H C' cl fp => tgr_ok (c.blk s H scope cl C' fp) h4) (fun s H C' cl fp => sA ifs (c.blk s H scope cl C' fp) h7) (fun s H C' cl fp => sE e' (c.blk s H scope cl C' fp) h8) (set_of h6) (by rw [hown]; exact h3)
      rw [hown] at this
      exact this
    · cases h
  | .u .rev a, os, rs, Wx, X, c, e, h => by
    unfold ckE at h
    split at h
    · exact s_u (G' := G) (fun ha => pe_rev c.cw ha) (sE a c h)
    · cases h
  | .b .join a b, os, rs, Wx, X, c, e, h => by
    unfold ckE at h
    split at h
    · simp only [Bool.and_eq_true, decide_eq_true_eq] at h
      obtain ⟨⟨⟨⟨⟨h1, h2⟩, h3⟩, h4⟩, h5⟩, h6⟩ := h
      subst h1
      exact s_join c.cw (sE a c h5) (sE b c h6) (sup_of h2) h3 (star_of h4)
    · cases h
  | .g x d, os, rs, Wx, X, c, e, h => by
    unfold ckE at h
    split at h
    · simp only [Bool.and_eq_true, decide_eq_true_eq] at h
      obtain ⟨⟨⟨h1, h2⟩, h3⟩, h4⟩ := h
      subst h1
      obtain ⟨u, v, hm, r, hv⟩ := c.gs _ d (gsB_mem h2)
      exact s_g (gl_of c.sc h3) hm r (okN_of h4).1 hv
    · cases h
  | .dic es, os, rs, Wx, X, c, e, h => by
    unfold ckE at h
    split at h
    · split at h
      · exact s_dic0
      · cases h
    · split at h
      · simp only [Bool.and_eq_true] at h
        exact s_dic1 h.1 h.2
      · cases h
    · cases h
  | .nl, os, rs, Wx, X, c, e, h => by unfold ckE at h; cases h
  | .cs a r, os, rs, Wx, X, c, e, h => by unfold ckE at h; cases h
  | .tt a, os, rs, Wx, X, c, e, h => by unfold ckE at h; cases h
  | .iSeq a, os, rs, Wx, X, c, e, h => by unfold ckE at h; cases h
  | .ss _ _, os, rs, Wx, X, c, e, h => by unfold ckE at h; cases h
  | .stop, os, rs, Wx, X, c, e, h => s_stop
  | .iRng a, os, rs, Wx, X, c, e, h => by unfold ckE at h; cases h
  | .iRng2 a b, os, rs, Wx, X, c, e, h => by unfold ckE at h; cases h
  | .iEnum a, os, rs, Wx, X, c, e, h => by unfold ckE at h; cases h
  | .iZip a b, os, rs, Wx, X, c, e, h => by unfold ckE at h; cases h
theorem sEs : ∀ (x : Ex) {os rs : Scope} {Wx : WX} {X : Cx} (c : Cc C G call k os rs Wx X) {l : List Expr}, ckEs C os rs x l = true → PA X l (tAs G Wx (evEs call x))
  | .nl, os, rs, Wx, X, c, l, h => by
    unfold ckEs at h
    split at h
    · exact s_nil
    · cases h
  | .cs a r, os, rs, Wx, X, c, l, h => by
    unfold ckEs at h
    split at h
    · simp only [Bool.and_eq_true] at h
      exact s_cons (sE a c h.1.2) (sEs r c h.2) (star_of h.1.1)
    · cases h
  | .ss a r, os, rs, Wx, X, c, l, h => by
    unfold ckEs at h
    split at h
    · simp only [Bool.and_eq_true] at h
      exact s_star c.cw.K (sE a c h.1) (sEs r c h.2)
    · cases h
  | .v _, os, rs, Wx, X, c, l, h | .k _, os, rs, Wx, X, c, l, h | .tup _, os, rs, Wx, X, c, l, h | .lst _ _, os, rs, Wx, X, c, l, h | .op _ _ _, os, rs, Wx, X, c, l, h | .neg _, os, rs, Wx, X, c, l, h
  | .cmp _ _ _, os, rs, Wx, X, c, l, h | .chain _ _ _ _ _, os, rs, Wx, X, c, l, h | .an _, os, rs, Wx, X, c, l, h | .orr _, os, rs, Wx, X, c, l, h | .no _, os, rs, Wx, X, c, l, h | .ife _ _ _, os, rs, Wx, X, c, l, h
  | .ix _ _, os, rs, Wx, X, c, l, h | .sl _ _ _, os, rs, Wx, X, c, l, h | .call _ _, os, rs, Wx, X, c, l, h | .bi _ _, os, rs, Wx, X, c, l, h | .me _ _ _, os, rs, Wx, X, c, l, h | .isi _ _, os, rs, Wx, X, c, l, h
  | .lc _ _ _ _ _ _, os, rs, Wx, X, c, l, h | .tt _, os, rs, Wx, X, c, l, h | .iSeq _, os, rs, Wx, X, c, l, h | .iRng _, os, rs, Wx, X, c, l, h | .iRng2 _ _, os, rs, Wx, X, c, l, h | .iEnum _, os, rs, Wx, X, c, l, h | .iZip _ _, os, rs, Wx, X, c, l, h | .u _ _, os, rs, Wx, X, c, l, h | .b _ _ _, os, rs, Wx, X, c, l, h | .g _ _, os, rs, Wx, X, c, l, h | .dic _, os, rs, Wx, X, c, l, h | .stop, os, rs, Wx, X, c, l, h => by
    unfold ckEs at h; cases h
theorem sAn : ∀ (x : Ex) {os rs : Scope} {Wx : WX} {X : Cx} (c : Cc C G call k os rs Wx X) {l : List Expr} {pos : Pos}, ckL C os rs x l = true → PE X (.BoolOp .And l pos) (tE G Wx (evAn call x))
  | .cs a r, os, rs, Wx, X, c, l, pos, h => by
    unfold ckL at h
    split at h
    · rename_i heq
      cases heq
      split at h
      · exact s_an1 (sE a c h)
      · cases h
    · rename_i heq
      cases heq
      split at h
      · simp only [Bool.and_eq_true] at h
        cases r with
        | cs b r => exact s_an2 (sE a c h.1) (sAn (.cs b r) c h.2)
        | _ => have := h.2; unfold ckL at this; cases this
      · cases h
    · cases h
  | .nl, os, rs, Wx, X, c, l, pos, h | .v _, os, rs, Wx, X, c, l, pos, h | .k _, os, rs, Wx, X, c, l, pos, h | .tup _, os, rs, Wx, X, c, l, pos, h | .lst _ _, os, rs, Wx, X, c, l, pos, h | .op _ _ _, os, rs, Wx, X, c, l, pos, h | .neg _, os, rs, Wx, X, c, l, pos, h
  | .cmp _ _ _, os, rs, Wx, X, c, l, pos, h | .chain _ _ _ _ _, os, rs, Wx, X, c, l, pos, h | .an _, os, rs, Wx, X, c, l, pos, h | .orr _, os, rs, Wx, X, c, l, pos, h | .no _, os, rs, Wx, X, c, l, pos, h | .ife _ _ _, os, rs, Wx, X, c, l, pos, h
  | .ix _ _, os, rs, Wx, X, c, l, pos, h | .sl _ _ _, os, rs, Wx, X, c, l, pos, h | .call _ _, os, rs, Wx, X, c, l, pos, h | .bi _ _, os, rs, Wx, X, c, l, pos, h | .me _ _ _, os, rs, Wx, X, c, l, pos, h | .isi _ _, os, rs, Wx, X, c, l, pos, h
  | .lc _ _ _ _ _ _, os, rs, Wx, X, c, l, pos, h | .tt _, os, rs, Wx, X, c, l, pos, h | .iSeq _, os, rs, Wx, X, c, l, pos, h | .iRng _, os, rs, Wx, X, c, l, pos, h | .iRng2 _ _, os, rs, Wx, X, c, l, pos, h | .iEnum _, os, rs, Wx, X, c, l, pos, h | .iZip _ _, os, rs, Wx, X, c, l, pos, h | .u _ _, os, rs, Wx, X, c, l, pos, h | .b _ _ _, os, rs, Wx, X, c, l, pos, h | .g _ _, os, rs, Wx, X, c, l, pos, h | .dic _, os, rs, Wx, X, c, l, pos, h | .ss _ _, os, rs, Wx, X, c, l, pos, h | .stop, os, rs, Wx, X, c, l, pos, h => by
    unfold ckL at h; cases h
theorem sOr : ∀ (x : Ex) {os rs : Scope} {Wx : WX} {X : Cx} (c : Cc C G call k os rs Wx X) {l : List Expr} {pos : Pos}, ckL C os rs x l = true → PE X (.BoolOp .Or l pos) (tE G Wx (evOr call x))
  | .cs a r, os, rs, Wx, X, c, l, pos, h => by
    unfold ckL at h
    split at h
    · rename_i heq
      cases heq
      split at h
      · exact s_or1 (sE a c h)
      · cases h
    · rename_i heq
      cases heq
      split at h
      · simp only [Bool.and_eq_true] at h
        cases r with
        | cs b r => exact s_or2 (sE a c h.1) (sOr (.cs b r) c h.2)
        | _ => have := h.2; unfold ckL at this; cases this
      · cases h
    · cases h
  | .nl, os, rs, Wx, X, c, l, pos, h | .v _, os, rs, Wx, X, c, l, pos, h | .k _, os, rs, Wx, X, c, l, pos, h | .tup _, os, rs, Wx, X, c, l, pos, h | .lst _ _, os, rs, Wx, X, c, l, pos, h | .op _ _ _, os, rs, Wx, X, c, l, pos, h | .neg _, os, rs, Wx, X, c, l, pos, h
  | .cmp _ _ _, os, rs, Wx, X, c, l, pos, h | .chain _ _ _ _ _, os, rs, Wx, X, c, l, pos, h | .an _, os, rs, Wx, X, c, l, pos, h | .orr _, os, rs, Wx, X, c, l, pos, h | .no _, os, rs, Wx, X, c, l, pos, h | .ife _ _ _, os, rs, Wx, X, c, l, pos, h
  | .ix _ _, os, rs, Wx, X, c, l, pos, h | .sl _ _ _, os, rs, Wx, X, c, l, pos, h | .call _ _, os, rs, Wx, X, c, l, pos, h | .bi _ _, os, rs, Wx, X, c, l, pos, h | .me _ _ _, os, rs, Wx, X, c, l, pos, h | .isi _ _, os, rs, Wx, X, c, l, pos, h
  | .lc _ _ _ _ _ _, os, rs, Wx, X, c, l, pos, h | .tt _, os, rs, Wx, X, c, l, pos, h | .iSeq _, os, rs, Wx, X, c, l, pos, h | .iRng _, os, rs, Wx, X, c, l, pos, h | .iRng2 _ _, os, rs, Wx, X, c, l, pos, h | .iEnum _, os, rs, Wx, X, c, l, pos, h | .iZip _ _, os, rs, Wx, X, c, l, pos, h | .u _ _, os, rs, Wx, X, c, l, pos, h | .b _ _ _, os, rs, Wx, X, c, l, pos, h | .g _ _, os, rs, Wx, X, c, l, pos, h | .dic _, os, rs, Wx, X, c, l, pos, h | .ss _ _, os, rs, Wx, X, c, l, pos, h | .stop, os, rs, Wx, X, c, l, pos, h => by
    unfold ckL at h; cases h
theorem sT : ∀ (x : Ex) {os rs : Scope} {Wx : WX} {X : Cx} (c : Cc C G call k os rs Wx X) {e : Expr}, ckT C os rs x e = true → PT X e (tTs G Wx (evT call x))
  | .tt x, os, rs, Wx, X, c, e, h => by
    unfold ckT at h
    simp only [Bool.and_eq_true, Bool.or_eq_true] at h
    obtain ⟨h1, h2⟩ := h
    rcases h2 with h2 | h2
    · exact st_tt c.cw.K (sE x c h1) (plain_of h2)
    · cases x with
      | cmp o a b =>
        unfold ckE at h1
        split at h1
        · simp only [Bool.and_eq_true, decide_eq_true_eq, Bool.not_eq_true'] at h1
          obtain ⟨⟨⟨g1, g2⟩, g3⟩, g4⟩ := h1
          subst g1
          exact st_cmp (Pv.cmp_ok c.cw _) (sE a c g3) (sE b c g4) g2
        · cases h1
      | chain o o' a b d =>
        unfold ckE at h1
        split at h1
        · simp only [Bool.and_eq_true, decide_eq_true_eq, Bool.not_eq_true'] at h1
          obtain ⟨⟨⟨⟨⟨g1, g2⟩, g3⟩, g4⟩, g5⟩, g6⟩ := h1
          subst g1; subst g2
          exact st_chain (Pv.cmp_ok c.cw _) (Pv.cmp_ok c.cw _) (sE a c g4) (sE b c g5) (sE d c g6) g3
        · cases h1
      | _ => split at h2 <;> first | (rename_i heq; cases heq) | cases h2
  | .no x, os, rs, Wx, X, c, e, h => by
    unfold ckT at h
    split at h
    · exact st_no (sT x c h)
    · cases h
  | .an x, os, rs, Wx, X, c, e, h => by
    unfold ckT at h
    split at h
    · exact PT.imp (sTa x c h).pt fun σ H Q q => by
        obtain ⟨ρ, τ, S, env, sm, q⟩ := q
        unfold evT at q
        exact ⟨ρ, τ, S, env, sm, q⟩
    · cases h
  | .orr x, os, rs, Wx, X, c, e, h => by
    unfold ckT at h
    split at h
    · exact PT.imp (sTo x c h).pt fun σ H Q q => by
        obtain ⟨ρ, τ, S, env, sm, q⟩ := q
        unfold evT at q
        exact ⟨ρ, τ, S, env, sm, q⟩
    · cases h
  | .nl, os, rs, Wx, X, c, e, h | .cs _ _, os, rs, Wx, X, c, e, h | .v _, os, rs, Wx, X, c, e, h | .k _, os, rs, Wx, X, c, e, h | .tup _, os, rs, Wx, X, c, e, h | .lst _ _, os, rs, Wx, X, c, e, h | .op _ _ _, os, rs, Wx, X, c, e, h | .neg _, os, rs, Wx, X, c, e, h
  | .cmp _ _ _, os, rs, Wx, X, c, e, h | .chain _ _ _ _ _, os, rs, Wx, X, c, e, h | .ife _ _ _, os, rs, Wx, X, c, e, h
  | .ix _ _, os, rs, Wx, X, c, e, h | .sl _ _ _, os, rs, Wx, X, c, e, h | .call _ _, os, rs, Wx, X, c, e, h | .bi _ _, os, rs, Wx, X, c, e, h | .me _ _ _, os, rs, Wx, X, c, e, h | .isi _ _, os, rs, Wx, X, c, e, h
  | .lc _ _ _ _ _ _, os, rs, Wx, X, c, e, h | .iSeq _, os, rs, Wx, X, c, e, h | .iRng _, os, rs, Wx, X, c, e, h | .iRng2 _ _, os, rs, Wx, X, c, e, h | .iEnum _, os, rs, Wx, X, c, e, h | .iZip _ _, os, rs, Wx, X, c, e, h | .u _ _, os, rs, Wx, X, c, e, h | .b _ _ _, os, rs, Wx, X, c, e, h | .g _ _, os, rs, Wx, X, c, e, h | .dic _, os, rs, Wx, X, c, e, h | .ss _ _, os, rs, Wx, X, c, e, h | .stop, os, rs, Wx, X, c, e, h => by
    unfold ckT at h; cases h
theorem sTa : ∀ (x : Ex) {os rs : Scope} {Wx : WX} {X : Cx} (c : Cc C G call k os rs Wx X) {l : List Expr} {pos : Pos}, ckTl C os rs x l = true → PW X (.BoolOp .And l pos) (tTs G Wx (evTa call x))
  | .cs a r, os, rs, Wx, X, c, l, pos, h => by
    unfold ckTl at h
    split at h
    · rename_i heq
      cases heq
      split at h
      · exact st_an1 (sT a c h)
      · cases h
    · rename_i heq
      cases heq
      split at h
      · simp only [Bool.and_eq_true] at h
        cases r with
        | cs b r => exact st_an2 (sT a c h.1) (sTa (.cs b r) c h.2)
        | _ => have := h.2; unfold ckTl at this; cases this
      · cases h
    · cases h
  | .nl, os, rs, Wx, X, c, l, pos, h | .v _, os, rs, Wx, X, c, l, pos, h | .k _, os, rs, Wx, X, c, l, pos, h | .tup _, os, rs, Wx, X, c, l, pos, h | .lst _ _, os, rs, Wx, X, c, l, pos, h | .op _ _ _, os, rs, Wx, X, c, l, pos, h | .neg _, os, rs, Wx, X, c, l, pos, h
  | .cmp _ _ _, os, rs, Wx, X, c, l, pos, h | .chain _ _ _ _ _, os, rs, Wx, X, c, l, pos, h | .an _, os, rs, Wx, X, c, l, pos, h | .orr _, os, rs, Wx, X, c, l, pos, h | .no _, os, rs, Wx, X, c, l, pos, h | .ife _ _ _, os, rs, Wx, X, c, l, pos, h
  | .ix _ _, os, rs, Wx, X, c, l, pos, h | .sl _ _ _, os, rs, Wx, X, c, l, pos, h | .call _ _, os, rs, Wx, X, c, l, pos, h | .bi _ _, os, rs, Wx, X, c, l, pos, h | .me _ _ _, os, rs, Wx, X, c, l, pos, h | .isi _ _, os, rs, Wx, X, c, l, pos, h
  | .lc _ _ _ _ _ _, os, rs, Wx, X, c, l, pos, h | .tt _, os, rs, Wx, X, c, l, pos, h | .iSeq _, os, rs, Wx, X, c, l, pos, h | .iRng _, os, rs, Wx, X, c, l, pos, h | .iRng2 _ _, os, rs, Wx, X, c, l, pos, h | .iEnum _, os, rs, Wx, X, c, l, pos, h | .iZip _ _, os, rs, Wx, X, c, l, pos, h | .u _ _, os, rs, Wx, X, c, l, pos, h | .b _ _ _, os, rs, Wx, X, c, l, pos, h | .g _ _, os, rs, Wx, X, c, l, pos, h | .dic _, os, rs, Wx, X, c, l, pos, h | .ss _ _, os, rs, Wx, X, c, l, pos, h | .stop, os, rs, Wx, X, c, l, pos, h => by
    unfold ckTl at h; cases h
theorem sTo : ∀ (x : Ex) {os rs : Scope} {Wx : WX} {X : Cx} (c : Cc C G call k os rs Wx X) {l : List Expr} {pos : Pos}, ckTl C os rs x l = true → PW X (.BoolOp .Or l pos) (tTs G Wx (evTo call x))
  | .cs a r, os, rs, Wx, X, c, l, pos, h => by
    unfold ckTl at h
    split at h
    · rename_i heq
      cases heq
      split at h
      · exact st_or1 (sT a c h)
      · cases h
    · rename_i heq
      cases heq
      split at h
      · simp only [Bool.and_eq_true] at h
        cases r with
        | cs b r => exact st_or2 (sT a c h.1) (sTo (.cs b r) c h.2)
        | _ => have := h.2; unfold ckTl at this; cases this
      · cases h
    · cases h
  | .nl, os, rs, Wx, X, c, l, pos, h | .v _, os, rs, Wx, X, c, l, pos, h | .k _, os, rs, Wx, X, c, l, pos, h | .tup _, os, rs, Wx, X, c, l, pos, h | .lst _ _, os, rs, Wx, X, c, l, pos, h | .op _ _ _, os, rs, Wx, X, c, l, pos, h | .neg _, os, rs, Wx, X, c, l, pos, h
  | .cmp _ _ _, os, rs, Wx, X, c, l, pos, h | .chain _ _ _ _ _, os, rs, Wx, X, c, l, pos, h | .an _, os, rs, Wx, X, c, l, pos, h | .orr _, os, rs, Wx, X, c, l, pos, h | .no _, os, rs, Wx, X, c, l, pos, h | .ife _ _ _, os, rs, Wx, X, c, l, pos, h
  | .ix _ _, os, rs, Wx, X, c, l, pos, h | .sl _ _ _, os, rs, Wx, X, c, l, pos, h | .call _ _, os, rs, Wx, X, c, l, pos, h | .bi _ _, os, rs, Wx, X, c, l, pos, h | .me _ _ _, os, rs, Wx, X, c, l, pos, h | .isi _ _, os, rs, Wx, X, c, l, pos, h
  | .lc _ _ _ _ _ _, os, rs, Wx, X, c, l, pos, h | .tt _, os, rs, Wx, X, c, l, pos, h | .iSeq _, os, rs, Wx, X, c, l, pos, h | .iRng _, os, rs, Wx, X, c, l, pos, h | .iRng2 _ _, os, rs, Wx, X, c, l, pos, h | .iEnum _, os, rs, Wx, X, c, l, pos, h | .iZip _ _, os, rs, Wx, X, c, l, pos, h | .u _ _, os, rs, Wx, X, c, l, pos, h | .b _ _ _, os, rs, Wx, X, c, l, pos, h | .g _ _, os, rs, Wx, X, c, l, pos, h | .dic _, os, rs, Wx, X, c, l, pos, h | .ss _ _, os, rs, Wx, X, c, l, pos, h | .stop, os, rs, Wx, X, c, l, pos, h => by
    unfold ckTl at h; cases h
theorem sA : ∀ (x : Ex) {os rs : Scope} {Wx : WX} {X : Cx} (c : Cc C G call k os rs Wx X) {l : List Expr}, ckA C os rs x l = true → PTs X l (tTs G Wx (evAs call x))
  | .nl, os, rs, Wx, X, c, l, h => by
    unfold ckA at h
    split at h
    · exact a_nil
    · cases h
  | .cs a r, os, rs, Wx, X, c, l, h => by
    unfold ckA at h
    split at h
    · rename_i heq; cases heq
    · rename_i heq
      cases heq
      split at h
      · exact a_one (sT a c h)
      · cases h
    · cases h
  | .v _, os, rs, Wx, X, c, l, h | .k _, os, rs, Wx, X, c, l, h | .tup _, os, rs, Wx, X, c, l, h | .lst _ _, os, rs, Wx, X, c, l, h | .op _ _ _, os, rs, Wx, X, c, l, h | .neg _, os, rs, Wx, X, c, l, h
  | .cmp _ _ _, os, rs, Wx, X, c, l, h | .chain _ _ _ _ _, os, rs, Wx, X, c, l, h | .an _, os, rs, Wx, X, c, l, h | .orr _, os, rs, Wx, X, c, l, h | .no _, os, rs, Wx, X, c, l, h | .ife _ _ _, os, rs, Wx, X, c, l, h
  | .ix _ _, os, rs, Wx, X, c, l, h | .sl _ _ _, os, rs, Wx, X, c, l, h | .call _ _, os, rs, Wx, X, c, l, h | .bi _ _, os, rs, Wx, X, c, l, h | .me _ _ _, os, rs, Wx, X, c, l, h | .isi _ _, os, rs, Wx, X, c, l, h
  | .lc _ _ _ _ _ _, os, rs, Wx, X, c, l, h | .tt _, os, rs, Wx, X, c, l, h | .iSeq _, os, rs, Wx, X, c, l, h | .iRng _, os, rs, Wx, X, c, l, h | .iRng2 _ _, os, rs, Wx, X, c, l, h | .iEnum _, os, rs, Wx, X, c, l, h | .iZip _ _, os, rs, Wx, X, c, l, h | .u _ _, os, rs, Wx, X, c, l, h | .b _ _ _, os, rs, Wx, X, c, l, h | .g _ _, os, rs, Wx, X, c, l, h | .dic _, os, rs, Wx, X, c, l, h | .ss _ _, os, rs, Wx, X, c, l, h | .stop, os, rs, Wx, X, c, l, h => by
    unfold ckA at h; cases h
theorem sP : ∀ (x : Ex) {os rs : Scope} {Wx : WX} {X : Cx} (c : Cc C G call k os rs Wx X) {o : Option Expr}, ckP C os rs x o = true → L2.PO X o (tP G Wx (evP call x))
  | .nl, os, rs, Wx, X, c, o, h => by
    unfold ckP at h
    split at h
    · exact s_pn
    · cases h
  | .cs a r, os, rs, Wx, X, c, o, h => by
    unfold ckP at h
    split at h
    · exact s_ps (sE a c h)
    · cases h
  | .v _, os, rs, Wx, X, c, o, h | .k _, os, rs, Wx, X, c, o, h | .tup _, os, rs, Wx, X, c, o, h | .lst _ _, os, rs, Wx, X, c, o, h | .op _ _ _, os, rs, Wx, X, c, o, h | .neg _, os, rs, Wx, X, c, o, h
  | .cmp _ _ _, os, rs, Wx, X, c, o, h | .chain _ _ _ _ _, os, rs, Wx, X, c, o, h | .an _, os, rs, Wx, X, c, o, h | .orr _, os, rs, Wx, X, c, o, h | .no _, os, rs, Wx, X, c, o, h | .ife _ _ _, os, rs, Wx, X, c, o, h
  | .ix _ _, os, rs, Wx, X, c, o, h | .sl _ _ _, os, rs, Wx, X, c, o, h | .call _ _, os, rs, Wx, X, c, o, h | .bi _ _, os, rs, Wx, X, c, o, h | .me _ _ _, os, rs, Wx, X, c, o, h | .isi _ _, os, rs, Wx, X, c, o, h
  | .lc _ _ _ _ _ _, os, rs, Wx, X, c, o, h | .tt _, os, rs, Wx, X, c, o, h | .iSeq _, os, rs, Wx, X, c, o, h | .iRng _, os, rs, Wx, X, c, o, h | .iRng2 _ _, os, rs, Wx, X, c, o, h | .iEnum _, os, rs, Wx, X, c, o, h | .iZip _ _, os, rs, Wx, X, c, o, h | .u _ _, os, rs, Wx, X, c, o, h | .b _ _ _, os, rs, Wx, X, c, o, h | .g _ _, os, rs, Wx, X, c, o, h | .dic _, os, rs, Wx, X, c, o, h | .ss _ _, os, rs, Wx, X, c, o, h | .stop, os, rs, Wx, X, c, o, h => by
    unfold ckP at h; cases h
theorem sI : ∀ (x : Ex) {os rs : Scope} {Wx : WX} {X : Cx} (c : Cc C G call k os rs Wx X) {e tg : Expr}, ckI C os rs x e tg = true → PI X tg e (tI G Wx (evI call x))
  | .iSeq a, os, rs, Wx, X, c, e, tg, h => by
    unfold ckI at h
    exact i_seq c.cw.K (sE a c h)
  | .iRng a, os, rs, Wx, X, c, e, tg, h => by
    unfold ckI at h
    split at h
    · simp only [Bool.and_eq_true, decide_eq_true_eq] at h
      obtain ⟨⟨⟨h1, h2⟩, h3⟩, h4⟩ := h
      subst h1
      exact i_rng (gl_of c.sc h2) (c.blt _ rng_in) (s_cons (sE a c h4) s_nil (star_of h3)) (by rw [star_of h3]; rfl)
    · cases h
  | .iRng2 a b, os, rs, Wx, X, c, e, tg, h => by
    unfold ckI at h
    split at h
    · simp only [Bool.and_eq_true, decide_eq_true_eq] at h
      obtain ⟨⟨⟨⟨⟨h1, h2⟩, h3⟩, h4⟩, h5⟩, h6⟩ := h
      subst h1
      exact i_rng2 (gl_of c.sc h2) (c.blt _ rng_in) (s_cons (sE a c h5) (s_cons (sE b c h6) s_nil (star_of h4)) (star_of h3)) (by rw [star_of h3, star_of h4]; rfl) (by rw [star_of h4]; rfl)
    · cases h
  | .iEnum a, os, rs, Wx, X, c, e, tg, h => by
    unfold ckI at h
    split at h
    · simp only [Bool.and_eq_true, decide_eq_true_eq] at h
      obtain ⟨⟨⟨h1, h2⟩, h3⟩, h4⟩ := h
      subst h1
      exact i_enum c.cw.K (gl_of c.sc h2) (c.blt _ (by decide +kernel)) (s_cons (sE a c h4) s_nil (star_of h3)) (by rw [star_of h3]; rfl)
    · cases h
  | .iZip a b, os, rs, Wx, X, c, e, tg, h => by
    unfold ckI at h
    split at h
    · simp only [Bool.and_eq_true, decide_eq_true_eq] at h
      obtain ⟨⟨⟨⟨⟨h1, h2⟩, h3⟩, h4⟩, h5⟩, h6⟩ := h
      subst h1
      exact i_zip c.cw.K (gl_of c.sc h2) (c.blt _ (by decide +kernel)) (s_cons (sE a c h5) (s_cons (sE b c h6) s_nil (star_of h4)) (star_of h3)) (by rw [star_of h3]) (by rw [star_of h4]; rfl)
    · cases h
  | .nl, os, rs, Wx, X, c, e, tg, h | .cs _ _, os, rs, Wx, X, c, e, tg, h | .v _, os, rs, Wx, X, c, e, tg, h | .k _, os, rs, Wx, X, c, e, tg, h | .tup _, os, rs, Wx, X, c, e, tg, h | .lst _ _, os, rs, Wx, X, c, e, tg, h | .op _ _ _, os, rs, Wx, X, c, e, tg, h | .neg _, os, rs, Wx, X, c, e, tg, h
  | .cmp _ _ _, os, rs, Wx, X, c, e, tg, h | .chain _ _ _ _ _, os, rs, Wx, X, c, e, tg, h | .an _, os, rs, Wx, X, c, e, tg, h | .orr _, os, rs, Wx, X, c, e, tg, h | .no _, os, rs, Wx, X, c, e, tg, h | .ife _ _ _, os, rs, Wx, X, c, e, tg, h
  | .ix _ _, os, rs, Wx, X, c, e, tg, h | .sl _ _ _, os, rs, Wx, X, c, e, tg, h | .call _ _, os, rs, Wx, X, c, e, tg, h | .bi _ _, os, rs, Wx, X, c, e, tg, h | .me _ _ _, os, rs, Wx, X, c, e, tg, h | .isi _ _, os, rs, Wx, X, c, e, tg, h
  | .lc _ _ _ _ _ _, os, rs, Wx, X, c, e, tg, h | .tt _, os, rs, Wx, X, c, e, tg, h | .u _ _, os, rs, Wx, X, c, e, tg, h | .b _ _ _, os, rs, Wx, X, c, e, tg, h | .g _ _, os, rs, Wx, X, c, e, tg, h | .dic _, os, rs, Wx, X, c, e, tg, h | .ss _ _, os, rs, Wx, X, c, e, tg, h | .stop, os, rs, Wx, X, c, e, tg, h => by
    unfold ckI at h; cases h
end
end
end Pv
end

section
set_option maxRecDepth 10000
set_option maxHeartbeats 4000000
namespace Pv
open PySem PySem.Spec L2
open PyProof.Rows hiding St

/-! ## a, b = x, y -/
def swR (ts vs : List Expr) (rs : Scope) : Option (Option (List Str)) :=
  if (!(ts.length == 2 || ts.length == 3) || vs.length != ts.length) = true then some none
  else if (vs.any fun | .Starred .. => true | _ => false) = true then some none
  else
    let line := (ts.head?.map (·.pos.line)).getD 0
    let names := ts.filterMap fun
      | .Name id pos => if rs.names.lookup id == some .local && pos.line == line then some id else none
      | _ => none
    if (names.length != ts.length || names.eraseDups.length != names.length) = true then some none
    else if vs.all (foldedForSure 8) = true then some none
    else if vs.all (constantsAlone 8) = true then none
    else some (some names)
theorem swR_ok {ts vs : List Expr} {kt k2 : Nat} {pt p2 : Pos} {env : Env} {r : Option (List Str)} (hb : env.blockKind = .function) (h : swR ts vs env.scope = some r) : swappedStores [.Tuple ts kt pt] (.Tuple vs k2 p2) env = pure r := by
  have hk : ∀ id, env.kindOf id = env.scope.names.lookup id := fun _ => rfl
  unfold swR at h
  unfold swappedStores
  simp only [hb, bne_self_eq_false, Bool.or_false, hk]
  dsimp only at h
  split at h
  · rename_i h1
    cases h
    exact (if_pos h1).trans rfl
  rename_i h1
  refine (if_neg h1).trans ?_
  split at h
  · rename_i h1
    cases h
    exact (if_pos h1).trans rfl
  rename_i h1
  refine (if_neg h1).trans ?_
  split at h
  · rename_i h1
    cases h
    exact (if_pos h1).trans rfl
  rename_i h1
  refine (if_neg h1).trans ?_
  split at h
  · rename_i h1
    cases h
    exact (if_pos h1).trans rfl
  rename_i h1
  refine (if_neg h1).trans ?_
  split at h
  · cases h
  rename_i h1
  cases h
  exact (if_neg h1).trans rfl
section
variable {C : Ck} {G : Gk} {call : Nat → List W → Sto → R W} {k : Nat} {os rs : Scope} {Wx : WX} {X : Cx} {pos : Pos}
theorem set2_go {i j : Nat} {es : Ex} {D : Ends} {σ : St} {H : Hp} (h : tS G Wx (evS call (.par [i, j] es)) D σ H) : tPar i j (tAs G Wx (evEs call es)) D σ H := by
  obtain ⟨ρ, τ, S, env, sm, h⟩ := h
  unfold evS at h
  refine tG.imp (tG.goS (rel := relWs G) env sm h) fun vs H1 ⟨ρ1, S1, ws, ex, env1, sm1, r1, h1⟩ => ?_
  match ws, r1, h1 with
  | [], r1, h1 => exact h1.elim
  | [_], r1, h1 => exact h1.elim
  | [a, b], .cons ra (.cons rb .nil), h1 =>
    simp only [setAll] at h1
    exact ⟨_, _, rfl, h1.nx_ sm1 ((env1.set ra i).set rb j)⟩
  | _ :: _ :: _ :: _, r1, h1 => exact h1.elim
theorem set3_go {i j l : Nat} {es : Ex} {D : Ends} {σ : St} {H : Hp} (h : tS G Wx (evS call (.par [i, j, l] es)) D σ H) : tPar3 i j l (tAs G Wx (evEs call es)) D σ H := by
  obtain ⟨ρ, τ, S, env, sm, h⟩ := h
  unfold evS at h
  refine tG.imp (tG.goS (rel := relWs G) env sm h) fun vs H1 ⟨ρ1, S1, ws, ex, env1, sm1, r1, h1⟩ => ?_
  match ws, r1, h1 with
  | [], r1, h1 => exact h1.elim
  | [_], r1, h1 => exact h1.elim
  | [_, _], r1, h1 => exact h1.elim
  | [a, b, c], .cons ra (.cons rb (.cons rc .nil)), h1 =>
    simp only [setAll] at h1
    exact ⟨_, _, _, rfl, h1.nx_ sm1 (((env1.set ra i).set rb j).set rc l)⟩
  | _ :: _ :: _ :: _ :: _, r1, h1 => exact h1.elim
/-- slots as a row of targets -/
def rowT : List Nat → Tg
  | [] => .nl
  | i :: is => .cs (.n i) (rowT is)
theorem setAll_asg {S : Sto} : ∀ {is : List Nat} {ws : List W} {τ τ' : Tau}, setAll is ws τ = some τ' → asgT.asgTs S (rowT is) ws τ = some τ'
  | [], [], _, _, h => by simpa [setAll, rowT, asgT.asgTs] using h
  | [], _ :: _, _, _, h => by simp [setAll] at h
  | _ :: _, [], _, _, h => by simp [setAll] at h
  | i :: is, w :: ws, τ, τ', h => by
    unfold setAll at h
    simp only [rowT, asgT.asgTs, asgT]
    exact setAll_asg h
/-- the general form: by a tuple that is made and taken apart -/
theorem ss_parG {is : List Nat} {es : Ex} {ts vs : List Expr} {kt k2 : Nat} {pt p2 : Pos} (hc : X.calm = true) (hg : PGs X ts (tGWs G (rowT is))) (hn : (assignEach ts X.env).length = is.length) (hst : (assignEach ts X.env).findIdx? (·.1) = none)
    (ha : PA X vs (tAs G Wx (evEs call es))) (hw : swappedStores [.Tuple ts kt pt] (.Tuple vs k2 p2) X.env = pure none) (hK : X.K = G.K) (hlen : ∀ ws τ S S', evEs call es τ S = .ok ws S' → ws.length ≤ lim) :
    PS X (.Assign [.Tuple ts kt pt] (.Tuple vs k2 p2) pos) (tS G Wx (evS call (.par is es))) := by
  refine PS.imp (ps_asg (pe_tup ha) (pg_tup hc hg hn hst) rfl hw rfl) fun D σ H h => ?_
  obtain ⟨ρ, τ, S, env, sm, h⟩ := h
  unfold evS at h
  have hl0 := hlen
  refine tG.imp (m := evEs call es) (Q := fun vs H1 => ∃ ρ1 S1 ws, Ext ρ H ρ1 H1 ∧ EnvR G.K H1 ρ1 τ σ ∧ Sim G.K ρ1 S1 H1 ∧ relWs G H1 ρ1 ws vs ∧ ws.length ≤ lim ∧ PostS G Wx ρ1 H1 (match setAll is ws τ with
    | some τ' => .nx τ' S1
    | none => .bad) D) ?_ fun vs H1 ⟨ρ1, S1, ws, ex, env1, sm1, r1, hl, h1⟩ => ?_
  · refine ⟨ρ, τ, S, env, sm, ?_⟩
    cases e : evEs call es τ S with
    | bad => rw [e] at h; exact h
    | exc x S1 => rw [e] at h; exact fun c d H1 ρ1 ex s q => h c d σ H1 ρ1 ex s (env.ext ex.kp) q
    | ok ws S1 =>
      rw [e] at h
      exact fun vs H1 ρ1 ex s q => ⟨ρ1, S1, ws, ex, env.ext ex.kp, s, q, hl0 _ _ _ _ e, PostS.ext ex h⟩
  · refine ⟨lim_le (by rw [← Paired.length r1]; exact hl), fun p hp => ?_⟩
    cases e : setAll is ws τ with
    | none => rw [e] at h1; exact h1.elim
    | some τ' =>
      rw [e] at h1
      have ex2 : Ext ρ1 H1 ρ1 (upd H1 p (.tup vs)) := Ext.laid sm1.sub hp
      have hl1 : ∀ {is : List Nat} {ws : List W} {τ τ' : Tau}, setAll is ws τ = some τ' → ws.length = is.length := by
        intro is
        induction is with
        | nil => intro ws τ τ' h; cases ws <;> simp [setAll] at h ⊢
        | cons i is ih =>
          intro ws τ τ' h
          cases ws with
          | nil => simp [setAll] at h
          | cons w ws => simp only [setAll] at h; simp [ih h]
      refine ⟨p, vs, rfl, .of upd_same, by rw [← Paired.length r1]; exact hl1 e, ρ1, τ, S1, ws, τ', env1.ext ex2.kp, sm1.laid hp, RWs.ext ex2.kp r1, setAll_asg e, fun σ' env' _ => ?_⟩
      exact PostS.nx_ (PostS.ext ex2 h1) (sm1.laid hp) env'
/-! ## is this the tree of that statement? -/
def notComp : Expr → Bool
  | .ListComp .. => false
  | .SetComp .. => false
  | .DictComp .. => false
  | _ => true
def notTup : Expr → Bool
  | .Tuple .. => false
  | _ => true
def isCall : Expr → Bool
  | .Call .. => true
  | _ => false
def swB (rs : Scope) (y : Str) (py lp : Pos) (scope : Scope) : Bool := (rs.names.lookup y == some .local) && (py.line == lp.line) && !(scope.names.any fun (n, k) => n == y && (k == .local || k == .cell))
theorem swB_ok {elt : Expr} {gs : List Comprehension} {scope : Scope} {lp py : Pos} {y : Str} {l : Nat} {env : Env} (hk : env.scope.kind = .function) : swapsWith (.ListComp elt gs scope lp) (some (.Name y py)) l env = pure (swB env.scope y py lp scope) := by
  have hb : env.blockKind = .function := by unfold Env.blockKind; rw [hk]; rfl
  unfold swapsWith
  simp only [hb, Expr.pos]
  rfl
theorem sw_not {e : Expr} (h : notComp e = true) (t : Expr) (l : Nat) (env : Env) : swapsWith e (some t) l env = pure false := by
  cases e <;> first | rfl | cases h
theorem sw_notN {e : Expr} (h : isCall e = true) (l : Nat) (env : Env) : swapsWith e none l env = pure false := by
  cases e <;> first | rfl | cases h
theorem sw_tup {e : Expr} {ts : List Expr} {k : Nat} {p : Pos} {l : Nat} {env : Env} : swapsWithSole [.Tuple ts k p] e l env = pure false := by
  cases e <;> rfl
theorem sw_sub {e o i : Expr} {p : Pos} {l : Nat} {env : Env} : swapsWithSole [.Subscript o i p] e l env = pure false := by
  cases e <;> rfl
theorem sst_not {e : Expr} (h : notTup e = true) (ts : List Expr) (env : Env) : swappedStores ts e env = pure none := by
  unfold swappedStores
  cases e <;> first | cases h | (simp; rfl) | skip
  all_goals (split <;> first | rfl | simp_all)
end
end Pv
end

section
set_option maxRecDepth 10000
set_option maxHeartbeats 4000000
namespace Pv
open PySem PySem.Spec L2
open PyProof.Rows hiding St

def exLen : Ex → Nat
  | .cs _ r => exLen r + 1
  | .ss _ _ => 1000
  | _ => 0
theorem evEs_len {call : Nat → List W → Sto → R W} : ∀ {es : Ex} {ws : List W} {τ : Tau} {S S' : Sto}, exLen es ≤ 100 → evEs call es τ S = .ok ws S' → ws.length = exLen es := by
  intro es
  induction es with
  | nl => intro ws τ S S' _ h; unfold evEs at h; cases h; rfl
  | cs a r iha ihr =>
    intro ws τ S S' hl h
    have hl' : exLen r ≤ 100 := by simp only [exLen] at hl; omega
    unfold evEs at h
    cases e1 : evE call a τ S with
    | bad => rw [e1] at h; cases h
    | exc x S1 => rw [e1] at h; cases h
    | ok x S1 =>
      rw [e1] at h
      dsimp only [R.bind] at h
      cases e2 : evEs call r τ S1 with
      | bad => rw [e2] at h; cases h
      | exc x S2 => rw [e2] at h; cases h
      | ok xs S2 =>
        rw [e2] at h
        cases h
        simp [exLen, ihr hl' e2]
  | ss a r iha ihr => intro ws τ S S' hl; simp [exLen] at hl
  | _ => intro ws τ S S' _ h; unfold evEs at h; cases h
/-- names of a row, with their slots -/
def rowB (C : Ck) (rs : Scope) : List Nat → List Expr → Bool
  | [], [] => true
  | i :: is, e :: es => ckG C rs rs (.n i) e && rowB C rs is es
  | _, _ => false
def locB (rs : Scope) : Expr → Bool
  | .Name x _ => decide (rs.names.lookup x = some .local)
  | _ => false
def swLC (rs : Scope) : Expr → Expr → Bool
  | .Name y py, .ListComp _ _ scope lp => swB rs y py lp scope
  | _, _ => false
section
variable (C : Ck) (rs : Scope)
mutual
def ckS : Sx → Stmt → Bool
  | .asg t e, s => match s with
    | .Assign [tg] v _ => ckE C rs rs e v && ckG C rs rs t tg && (match t with
      | .n _ => notComp v || (match tg, v with
        | .Name y _, .ListComp _ [_] scope lp => true
        | _, _ => false)
      | _ => notTup v)
    | _ => false
  | .par is es, s => match s with
    | .Assign [.Tuple ts _ _] (.Tuple vs _ _) _ => rowB C rs is ts && ckEs C rs rs es vs && decide (exLen es ≤ 100) && (match swR ts vs rs with
      | some none => true
      | some (some names) => decide (is.Nodup) && ts.all (locB rs) && (match ts, vs with
        | [.Name x _, .Name y _], [_, _] => decide (names = [x, y])
        | [.Name x _, .Name y _, .Name z _], [_, _, _] => decide (names = [x, y, z])
        | _, _ => false)
      | none => false)
    | _ => false
  | .sub o i e, s => match s with
    | .Assign [.Subscript l r _] v _ => notSlice r && notTup v && ckE C rs rs o l && ckE C rs rs i r && ckE C rs rs e v
    | _ => false
  | .aug i o e, s => match s with
    | .AugAssign (.Name x p) o' v _ => decide (o = o') && (match o with | .Add | .Sub => true | _ => false) && ckG C rs rs (.n i) (.Name x p) && ckE C rs rs e v
    | _ => false
  | .expr e, s => match s with
    | .Expr v _ => isCall v && ckE C rs rs e v
    | _ => false
  | .ret e, s => match s with
    | .Return (some v) _ => ckE C rs rs e v
    | _ => false
  | .retN, s => match s with
    | .Return none _ => true
    | _ => false
  | .iff c a b, s => match s with
    | .If t x y _ => ckT C rs rs c t && ckSs a x && ckSs b y
    | _ => false
  | .whl c b, s => match s with
    | .While t x [] _ => ckT C rs rs c t && ckSs b x
    | _ => false
  | .for_ t it b, s => match s with
    | .For tg iter x [] _ => ckG C rs rs t tg && ckI C rs rs it iter tg && notSet iter && ckSs b x
    | _ => false
  | .forR t i b, s => match s with
    | .For tg iter x [] _ => ckG C rs rs t tg && ckE C rs rs (.v i) iter && notSet iter && ckSs b x
    | _ => false
  | .stop, _ => true
  | .pass, s => match s with
    | .Pass _ => true
    | _ => false
  | .brk, s => match s with
    | .Break _ => true
    | _ => false
  | .cont, s => match s with
    | .Continue _ => true
    | _ => false
  | _, _ => false
def ckSs : Sx → List Stmt → Bool
  | .nl, l => match l with
    | [] => true
    | _ => false
  | .cs a r, l => match l with
    | s :: ss => ckS a s && ckSs r ss
    | _ => false
  | _, _ => false
end
end
section
variable {C : Ck} {G : Gk} {call : Nat → List W → Sto → R W} {k : Nat} {rs : Scope} {Wx : WX} {X : Cx}
theorem rowB_ok (c : Cc C G call k rs rs Wx X) : ∀ {is : List Nat} {es : List Expr}, rowB C rs is es = true → PGs X es (tGWs G (rowT is)) ∧ (assignEach es X.env).length = is.length ∧ (assignEach es X.env).findIdx? (·.1) = none
  | [], [], _ => ⟨gs_nil, rfl, rfl⟩
  | [], _ :: _, h => by simp [rowB] at h
  | _ :: _, [], h => by simp [rowB] at h
  | i :: is, e :: es, h => by
    unfold rowB at h
    simp only [Bool.and_eq_true] at h
    obtain ⟨h1, h2, h3⟩ := rowB_ok c h.2
    have hp := each_of (X := X) (es := es) (ckG_plain h.1)
    refine ⟨gs_cons (tg_ok c h.1) h1 (by rw [hp]; rfl), by rw [hp]; simp [h2], ?_⟩
    rw [hp, List.findIdx?_cons, h3]
    rfl
theorem locB_of (hs : X.env.scope = rs) {x : Str} {p : Pos} (h : locB rs (.Name x p) = true) : X.env.scope.names.lookup x = some .local := by
  rw [hs]
  unfold locB at h
  exact of_decide_eq_true h
theorem ckG_N {os : Scope} {i : Nat} {x : Str} {p : Pos} (h : ckG C os rs (.n i) (.Name x p) = true) : C.N[i]? = some x := by
  unfold ckG at h
  simp only [Bool.and_eq_true, decide_eq_true_eq] at h
  exact h.1
mutual
theorem sS (c : Cc C G call k rs rs Wx X) (hk : rs.kind = .function) (hp : PassesOwn (model X.prog X.w) X.A X.env X.xe) : ∀ (x : Sx) {s : Stmt}, ckS C rs x s = true → PS X s (tS G Wx (evS call x))
  | .asg t e, s, h => by
    unfold ckS at h
    split at h
    · rename_i tg v pos
      simp only [Bool.and_eq_true] at h
      obtain ⟨⟨h1, h2⟩, h3⟩ := h
      have hkX : X.env.scope.kind = .function := by rw [c.sc]; exact hk
      cases t with
      | n i =>
        have h2' := h2
        unfold ckG at h2'
        split at h2'
        · rename_i y py
          simp only [Bool.and_eq_true, decide_eq_true_eq] at h2'
          obtain ⟨l1, l2⟩ := st_of c h2'.2
          have hi : X.N[i]? = some y := by rw [c.N]; exact h2'.1
          cases hc : notComp v with
          | true => exact ss_set c.nd hi l1 l2 (sE e c h1) (sw_not hc _ _ _)
          | false =>
            rw [hc] at h3
            cases v with
            | ListComp elt gs scope lp =>
              cases hsw : swB rs y py lp scope with
              | false => exact ss_set c.nd hi l1 l2 (sE e c h1) (by rw [swB_ok hkX, c.sc, hsw])
              | true =>
                have hyl : X.env.scope.names.lookup y = some .local := by
                  rw [c.sc]
                  unfold swB at hsw
                  simp only [Bool.and_eq_true] at hsw
                  simpa using hsw.1.1
                cases e with
                | lc m own t' it ifs e' =>
                  unfold ckE at h1
                  split at h1
                  · rename_i elt' tg' iter cs isa scope' pos' heq3
                    cases heq3
                    clear h3
                    simp only [Bool.and_eq_true, decide_eq_true_eq] at h1
                    obtain ⟨⟨⟨⟨⟨⟨⟨g1, g2⟩, g3⟩, g4⟩, g5⟩, g6⟩, g7⟩, g8⟩ := h1
                    subst g1
                    have hown := own_map C own
                    have hb : BlkOk X.N X.env.scope scope (own.map fun i => (C.N.getD i Str.empty, i)) := by rw [c.N, c.sc]; exact blkOk_by g2
                    have := ss_setLc (X := X) (G := G) (Wx := Wx) (call := call) (m := m) (own := own.map fun i => (C.N.getD i Str.empty, i)) (t := t') (py := py) (spos := pos) (pos := lp) c.cw.calm c.nd hi hyl (by rw [swB_ok hkX, c.sc, hsw]) (sI it c g5) hb
                      (fun s H C' cl fp => tgr_ok (c.blk s H scope cl C' fp) g4) (fun s H C' cl fp => sA ifs (c.blk s H scope cl C' fp) g7) (fun s H C' cl fp => sE e' (c.blk s H scope cl C' fp) g8) (set_of g6) (by rw [hown]; exact g3)
                    rw [hown] at this
                    exact this
                  · cases h1
                | stop => exact ss_bad fun τ S => by simp only [evS, evE, thenS]
                | _ => unfold ckE at h1; first | cases h1 | simp at h1
            | SetComp _ _ _ _ => simp at h3
            | DictComp _ _ _ _ _ => simp at h3
            | _ => cases hc
        · cases h2'
      | nl => unfold ckG at h2; cases h2
      | cs a r =>
        have h2' := h2
        unfold ckG at h2'
        split at h2'
        · exact ss_asg (tg_ok c h2) (sE e c h1) sw_tup (sst_not h3 _ _) rfl
        · cases h2'
    · cases h
  | .par is es, s, h => by
    unfold ckS at h
    split at h
    · rename_i ts k1 p1 vs k2 p2 pos
      simp only [Bool.and_eq_true, decide_eq_true_eq] at h
      obtain ⟨⟨⟨h1, h2⟩, h3⟩, h4⟩ := h
      have hkX : X.env.scope.kind = .function := by rw [c.sc]; exact hk
      have hb : X.env.blockKind = .function := by unfold Env.blockKind; rw [hkX]; rfl
      have ha := sEs es c h2
      split at h4
      · rename_i hsw
        obtain ⟨g1, g2, g3⟩ := rowB_ok c h1
        refine ss_parG c.cw.calm g1 g2 g3 ha (swR_ok hb (by rw [c.sc]; exact hsw)) c.cw.K fun ws τ S S' e => ?_
        rw [evEs_len h3 e]
        unfold lim
        omega
      · rename_i names hsw
        simp only [Bool.and_eq_true, decide_eq_true_eq] at h4
        obtain ⟨⟨hnd, hl⟩, hn⟩ := h4
        split at hn
        · rename_i x px y py a b
          simp only [decide_eq_true_eq] at hn
          subst hn
          simp only [List.all_cons, List.all_nil, Bool.and_true, Bool.and_eq_true] at hl
          match is, h1, hnd with
          | [i, j], h1, hnd =>
            simp only [rowB, Bool.and_true, Bool.and_eq_true] at h1
            have hij : i ≠ j := by simp at hnd; exact hnd
            refine PS.imp (ps_par c.cw.calm c.nd (by rw [c.N]; exact ckG_N h1.1) (by rw [c.N]; exact ckG_N h1.2) hij (locB_of c.sc hl.1) (locB_of c.sc hl.2) ha (swR_ok hb (by rw [c.sc]; exact hsw)) rfl) fun D σ H q => set2_go q
          | [], h1, _ => simp [rowB] at h1
          | [_], h1, _ => simp [rowB] at h1
          | _ :: _ :: _ :: _, h1, _ => simp [rowB] at h1
        · rename_i x px y py z pz a b d
          simp only [decide_eq_true_eq] at hn
          subst hn
          simp only [List.all_cons, List.all_nil, Bool.and_true, Bool.and_eq_true] at hl
          match is, h1, hnd with
          | [i, j, l], h1, hnd =>
            simp only [rowB, Bool.and_true, Bool.and_eq_true] at h1
            have hij : i ≠ j ∧ i ≠ l ∧ j ≠ l := by simp at hnd; exact ⟨hnd.1.1, hnd.1.2, hnd.2⟩
            refine PS.imp (ps_par3 c.cw.calm c.nd (by rw [c.N]; exact ckG_N h1.1) (by rw [c.N]; exact ckG_N h1.2.1) (by rw [c.N]; exact ckG_N h1.2.2) hij.1 hij.2.1 hij.2.2 (locB_of c.sc hl.1) (locB_of c.sc hl.2.1) (locB_of c.sc hl.2.2) ha (swR_ok hb (by rw [c.sc]; exact hsw)) rfl) fun D σ H q => set3_go q
          | [], h1, _ => simp [rowB] at h1
          | [_], h1, _ => simp [rowB] at h1
          | [_, _], h1, _ => simp [rowB] at h1
          | _ :: _ :: _ :: _ :: _, h1, _ => simp [rowB] at h1
        · cases hn
      · cases h4
    · cases h
  | .sub o i e, s, h => by
    unfold ckS at h
    split at h
    · rename_i l r p v pos
      simp only [Bool.and_eq_true] at h
      obtain ⟨⟨⟨⟨h1, h2⟩, h3⟩, h4⟩, h5⟩ := h
      refine ss_sub (sE o c h3) (sE i c h4) (sE e c h5) (fun u => ?_) sw_sub (sst_not h2 _ _) rfl
      cases r <;> first | rfl | cases h1
    · cases h
  | .aug i o e, s, h => by
    unfold ckS at h
    split at h
    · rename_i x p o' v pos
      simp only [Bool.and_eq_true, decide_eq_true_eq] at h
      obtain ⟨⟨⟨h1, h2⟩, h3⟩, h4⟩ := h
      subst h1
      have h3' := h3
      unfold ckG at h3'
      simp only [Bool.and_eq_true, decide_eq_true_eq] at h3'
      obtain ⟨l1, l2⟩ := st_of c h3'.2
      cases o with
      | Add => exact ss_augA c.nd (by rw [c.N]; exact h3'.1) l1 l2 (sE e c h4)
      | Sub => exact ss_augS c.nd (by rw [c.N]; exact h3'.1) l1 l2 (sE e c h4)
      | _ => cases h2
    · cases h
  | .expr e, s, h => by
    unfold ckS at h
    split at h
    · simp only [Bool.and_eq_true] at h
      exact ss_expr (sE e c h.2) (sw_notN h.1 _ _)
    · cases h
  | .ret e, s, h => by
    unfold ckS at h
    split at h
    · exact ss_ret (sE e c h)
    · cases h
  | .retN, s, h => by
    unfold ckS at h
    split at h
    · exact ss_retN
    · cases h
  | .iff t a b, s, h => by
    unfold ckS at h
    split at h
    · simp only [Bool.and_eq_true] at h
      exact ss_if (sT t c h.1.1) (sSs c hk hp a h.1.2) (sSs c hk hp b h.2)
    · cases h
  | .whl t b, s, h => by
    unfold ckS at h
    split at h
    · simp only [Bool.and_eq_true] at h
      exact ss_while hp (sT t c h.1) (sSs c hk hp b h.2)
    · cases h
  | .for_ t it b, s, h => by
    unfold ckS at h
    split at h
    · simp only [Bool.and_eq_true] at h
      exact ss_for hp c.cw.calm (sI it c h.1.1.2) (tgr_ok c h.1.1.1) (sSs c hk hp b h.2) (set_of h.1.2)
    · cases h
  | .forR t i b, s, h => by
    unfold ckS at h
    split at h
    · simp only [Bool.and_eq_true] at h
      exact ss_forR hp c.cw.calm c.cw.K (sE (.v i) c h.1.1.2) (tgr_ok c h.1.1.1) (sSs c hk hp b h.2) (set_of h.1.2)
    · cases h
  | .stop, s, h => ss_stop
  | .pass, s, h => by
    unfold ckS at h
    split at h
    · exact ss_pass
    · cases h
  | .brk, s, h => by
    unfold ckS at h
    split at h
    · exact ss_brk
    · cases h
  | .cont, s, h => by
    unfold ckS at h
    split at h
    · exact ss_cont
    · cases h
  | .nl, s, h => by unfold ckS at h; cases h
  | .cs _ _, s, h => by unfold ckS at h; cases h
theorem sSs (c : Cc C G call k rs rs Wx X) (hk : rs.kind = .function) (hp : PassesOwn (model X.prog X.w) X.A X.env X.xe) : ∀ (x : Sx) {s : List Stmt}, ckSs C rs x s = true → PSs X s (tS G Wx (evSs call x))
  | .nl, s, h => by
    unfold ckSs at h
    split at h
    · exact ss_nil
    · cases h
  | .cs a r, s, h => by
    unfold ckSs at h
    split at h
    · simp only [Bool.and_eq_true] at h
      exact ss_cons (sS c hk hp a h.1) (sSs c hk hp r h.2)
    · cases h
  | .asg _ _, s, h | .par _ _, s, h | .sub _ _ _, s, h | .aug _ _ _, s, h | .expr _, s, h | .ret _, s, h | .retN, s, h | .iff _ _ _, s, h | .whl _ _, s, h | .for_ _ _ _, s, h | .pass, s, h | .brk, s, h | .cont, s, h | .forR _ _ _, s, h | .stop, s, h => by
    unfold ckSs at h; cases h
end
end
end Pv
end

section
set_option maxRecDepth 10000
set_option maxHeartbeats 4000000
namespace Pv
open PySem PySem.Spec L2
open PyProof.Rows hiding St

/-! ## a def's end -/
section
variable {K : PySem.W.Frag} {ρ ρ' : Pl} {H H' : Hp} {S S' : Sto}
/-- what came about is let go -/
def Pl.cut (ρ' : Pl) (n : Nat) : Pl := ⟨ρ'.ρ.take n, ρ'.φ.filter fun a => decide (a ∉ ρ'.ρ.drop n)⟩
theorem Pl.cut_sub {n : Nat} {a : Addr} (h : a ∈ (ρ'.cut n).φ) : a ∈ ρ'.φ := (List.mem_filter.mp h).1
theorem Pl.cut_not {n : Nat} {a : Addr} (h : a ∈ ρ'.ρ.drop n) : a ∉ (ρ'.cut n).φ := fun q => by
  have := (List.mem_filter.mp q).2
  simp only [decide_eq_true_eq] at this
  exact this h
theorem cut_ext (sm : Sim K ρ S H) (sm' : Sim K ρ' S' H') (e : Ext ρ H ρ' H') : Ext ρ H (ρ'.cut S.length) H' := by
  obtain ⟨t, ht⟩ := e.pre
  have hl : ρ.ρ.length = S.length := sm.len
  have htake : ρ'.ρ.take S.length = ρ.ρ := by rw [ht, ← hl]; simp
  have hdrop : ρ'.ρ.drop S.length = t := by rw [ht, ← hl]; simp
  refine ⟨⟨[], by show ρ'.ρ.take S.length = _; rw [htake]; simp⟩, e.keep, fun a ha => .inl (by rw [← htake]; exact ha), fun a ha => e.new a (Pl.cut_sub ha), fun a ha => ?_, e.sub⟩
  refine List.mem_filter.mpr ⟨e.old a ha, decide_eq_true fun hd => ?_⟩
  rw [hdrop] at hd
  have hn := sm'.nd
  rw [ht] at hn
  obtain ⟨o, ho⟩ := sm.there a ha
  rcases e.newR a (by rw [ht]; exact List.mem_append_right _ hd) with q | q
  · exact (List.nodup_append.mp hn).2.2 a q a hd rfl
  · rw [q] at ho; cases ho
theorem below_rep {n : Nat} {w : W} {v : V} (h : RW K H' ρ' w v) (b : below n w = true) : RW K H' (ρ'.cut n) w v := by
  cases w with
  | p d => exact DF.fewer (fun a h => Pl.cut_sub h) h
  | r m =>
    obtain ⟨a, h1, h2⟩ := h
    have hm : m < n := by simpa [below] using b
    exact ⟨a, by show (ρ'.ρ.take n)[m]? = _; rw [List.getElem?_take_of_lt hm]; exact h1, h2⟩
  | s ns =>
    obtain ⟨a, h1, h2⟩ := h
    exact ⟨a, h1, h2.fewer fun a h => Pl.cut_sub h⟩
theorem below_reps {n : Nat} : ∀ {ws : List W} {vs : List V}, RWs K H' ρ' ws vs → ws.all (below n) = true → RWs K H' (ρ'.cut n) ws vs
  | _, _, .nil, _ => .nil
  | _, _, .cons h t, b => by
    simp only [List.all_cons, Bool.and_eq_true] at b
    exact .cons (below_rep h b.1) (below_reps t b.2)
theorem cut_sim (sm' : Sim K ρ' S' H') {n : Nat} (b : (S'.take n).all (obBelow n) = true) : Sim K (ρ'.cut n) (S'.take n) H' := by
  refine ⟨sm'.nd.sublist (List.take_sublist _ _), by show (ρ'.ρ.take n).length = _; rw [List.length_take, List.length_take, sm'.len], fun m ws q => ?_, fun a ha => ?_, fun a ha => sm'.there a (Pl.cut_sub ha)⟩
  · have hm : m < n := by
      have := (List.getElem?_eq_some_iff.mp q).1
      rw [List.length_take] at this
      omega
    have hb : obBelow n (.l ws) = true := List.all_eq_true.mp b _ (List.mem_of_getElem? q)
    rw [List.getElem?_take_of_lt hm] at q
    obtain ⟨a, xs, h1, h2, h3⟩ := sm'.at_ m ws q
    exact ⟨a, xs, by show (ρ'.ρ.take n)[m]? = _; rw [List.getElem?_take_of_lt hm]; exact h1, h2, below_reps h3 hb⟩
  · refine List.mem_filter.mpr ⟨sm'.sub a (List.mem_of_mem_take ha), decide_eq_true fun hd => ?_⟩
    have hn := sm'.nd
    rw [← List.take_append_drop n ρ'.ρ] at hn
    exact (List.nodup_append.mp hn).2.2 a ha a hd rfl
theorem frz_rep (sm' : Sim K ρ' S' H') {n : Nat} {w w' : W} {v : V} (h : RW K H' ρ' w v) (e : frz n S' w = some w') : RW K H' (ρ'.cut n) w' v := by
  cases w with
  | p d => cases e; exact below_rep h rfl
  | s ns => cases e; exact below_rep h rfl
  | r m =>
    simp only [frz] at e
    split at e
    · rename_i hm
      cases e
      exact below_rep h (by simpa [below] using hm)
    · rename_i hm
      obtain ⟨a, h1, rfl⟩ := h
      split at e
      · rename_i ws q
        cases e2 : deP ws with
        | none => rw [e2] at e; cases e
        | some ds =>
          rw [e2] at e; cases e
          obtain ⟨a', xs, g1, g2, g3⟩ := sm'.at_ m ws q
          rw [h1] at g1; cases g1
          have hd : a ∈ ρ'.ρ.drop n := by
            refine List.mem_of_getElem? (i := m - n) ?_
            rw [List.getElem?_drop, show n + (m - n) = m by omega]
            exact h1
          exact .lst g2 (Pl.cut_not hd) (DFs.fewer (fun a h => Pl.cut_sub h) (deP_rep g3 e2).2)
      · cases e
end
theorem sweep_ok {G : Gk} {Wx : WX} {σ : St} {ρ : Pl} {H : Hp} {S : Sto} {Q : VK} {w : W} {S' : Sto} (sm : Sim G.K ρ S H) (h : Post G Wx σ ρ H (relW G) (sweep S.length w S') Q) :
    ∀ v H' ρ', Ext ρ H ρ' H' → Sim G.K ρ' S' H' → RW G.K H' ρ' w v → Q v H' := by
  intro v H' ρ' e sm' r
  unfold sweep at h
  split at h
  · rename_i hb
    split at h
    · rename_i w' hw
      exact h v H' _ (cut_ext sm sm' e) (cut_sim sm' hb) (frz_rep sm' r hw)
    · exact h.elim
  · exact h.elim
theorem endF_ok {G : Gk} {ρ : Pl} {H : Hp} {S : Sto} {Q : VK} {E : XK} {gc : Bool} {r : RS} (sm : Sim G.K ρ S H) (h : Post G (fun c d _ H' => E c d H') [] ρ H (relW G) (endF gc S.length r) Q) :
    PostS G (fun c d _ H' => E c d H') ρ H r { nx := fun _ H' => Q .non H', rt := Q } := by
  cases r with
  | nx τ S' =>
    intro σ' H' ρ' e s env
    cases gc with
    | true => exact sweep_ok sm (show Post G _ [] ρ H (relW G) (sweep S.length (.p .none) S') Q from h) .non H' ρ' e s .non
    | false => exact (show Post G _ [] ρ H (relW G) (.ok (.p .none) S') Q from h) .non H' ρ' e s .non
  | ret w S' =>
    intro v H' ρ' e s r
    cases gc with
    | true => exact sweep_ok sm (show Post G _ [] ρ H (relW G) (sweep S.length w S') Q from h) v H' ρ' e s r
    | false => exact (show Post G _ [] ρ H (relW G) (.ok w S') Q from h) v H' ρ' e s r
  | exc x τ S' =>
    intro c d σ' H' ρ' e s env xr
    exact (show Post G (fun c d _ H' => E c d H') [] ρ H (relW G) (.exc x S') Q from h) c d H' ρ' e s xr
  | bk τ S' => exact h.elim
  | ct τ S' => exact h.elim
  | bad => exact h.elim
/-! ## the text's defs, all at once -/
structure Df where
  x : Str
  st : Stmt
  ps : List Str
  N : List Str
  fd : Fd
def scB (N ps : List Str) (sc : Scope) : Bool :=
  decide (sc.kind = .function) && !sc.isCoroutine && !sc.isGenerator && decide N.Nodup && decide (N.take ps.length = ps) &&
    ps.all (fun x => match sc.names.lookup x with | some .local => true | some .cell => true | _ => false) && sc.names.all fun y => decide (y.2 ≠ .free)
theorem scB_ok {N ps : List Str} {sc : Scope} (h : scB N ps sc = true) : FnScope N ps sc := by
  unfold scB at h
  simp only [Bool.and_eq_true, decide_eq_true_eq, Bool.not_eq_true', List.all_eq_true] at h
  obtain ⟨⟨⟨⟨⟨⟨h1, h2⟩, h3⟩, h4⟩, h5⟩, h6⟩, h7⟩ := h
  refine ⟨h1, h2, h3, h4, h5, fun x hx => ?_, h7⟩
  have := h6 x hx
  split at this
  · exact .inl (by assumption)
  · exact .inr (by assumption)
  · cases this
def ckOf (gs : List (Str × PyData)) (T : List Df) (N : List Str) : Ck := ⟨N, T.map (·.x), T.map (·.fd.np), gs⟩
def dfB (gs : List (Str × PyData)) (T : List Df) (d : Df) : Bool := scB d.N d.ps (defScope d.st) && decide (d.fd.np = d.ps.length) && decide (d.fd.nn = d.N.length) && ckSs (ckOf gs T d.N) (defScope d.st) d.fd.body (defBody d.st)
def fdsOf (T : List Df) : List Fd := T.map (·.fd)
/-- what stands of a def behind the top -/
structure Stands (K : PySem.W.Frag) (mg : Str → Option Value) (d : Df) (f : Addr) (fd : FuncData) : Prop where
  fun_ : Fun K d.x d.x d.st f fd
  mg_ : mg d.x = some (.ref f)
  binds : Binds K fd d.ps []
theorem callN_len {T : List Df} {k i n : Nat} {ws : List W} {S : Sto} (h : (T.map (·.fd.np))[i]? = some n) (r : (∃ w S', callN (fdsOf T) k i ws S = .ok w S') ∨ (∃ x S', callN (fdsOf T) k i ws S = .exc x S')) : ws.length = n := by
  cases k with
  | zero => rcases r with ⟨_, _, r⟩ | ⟨_, _, r⟩ <;> cases r
  | succ k =>
    unfold callN at r
    have e : (fdsOf T)[i]? = (T[i]?).map (·.fd) := by unfold fdsOf; rw [List.getElem?_map]
    rw [List.getElem?_map] at h
    cases hT : T[i]? with
    | none => rw [hT] at h; cases h
    | some d =>
      rw [hT] at h e
      have : d.fd.np = n := by simpa using h
      rw [e] at r
      by_cases hl : ws.length = d.fd.np
      · exact hl.trans this
      · exfalso
        rcases r with ⟨_, _, r⟩ | ⟨_, _, r⟩ <;> (dsimp only [Option.map] at r; rw [if_neg hl] at r; cases r)
theorem envR_start {K : PySem.W.Frag} {H : Hp} {ρ : Pl} {ws : List W} {vs : List V} (h : RWs K H ρ ws vs) (N : List Str) : EnvR K H ρ (ws.map some ++ List.replicate (N.length - ws.length) none) (L2.start N vs) := by
  have hl := Paired.length h
  unfold L2.start
  refine ⟨by simp [hl], fun i w e => ?_⟩
  by_cases hi : i < ws.length
  · rw [List.getElem?_append_left (by simpa using hi), List.getElem?_map] at e
    cases hw : ws[i]? with
    | none => rw [hw] at e; cases e
    | some w' =>
      rw [hw] at e
      cases e
      obtain ⟨v, hv, r⟩ := paired_get h hw
      exact ⟨v, by rw [List.getElem?_append_left (by simp [← hl, hi]), List.getElem?_map, hv]; rfl, r⟩
  · rw [List.getElem?_append_right (by simpa using hi), List.getElem?_replicate] at e
    split at e <;> cases e
/-- THE THEOREM: every def of the text does what the evaluator says -/
theorem defs_ok {gs : List (Str × PyData)} {T : List Df} {P : Program} {w : World} {G : Gk} {mg : Str → Option Value} {base : Heap} (hT : T.all (dfB gs T) = true) (hS : ∀ (i : Nat) (d : Df), T[i]? = some d → ∃ f fd, Stands G.K mg d f fd) (hb : ∀ x, x ∈ bltN → mg x = none) (hm : ∃ mm, base.Ns sysModules mm) (hgs : ∀ (x : Str) (d : PyData), (x, d) ∈ gs → ∃ u v, mg x = some u ∧ RelV v u ∧ ∀ H ρ, DF G.K H ρ d v) :
    ∀ (k i : Nat) (d : Df) (f : Addr) (fd : FuncData), T[i]? = some d → Stands G.K mg d f fd → FnG P w G.K mg base k f fd d.ps (spF G (callN (fdsOf T) k) i d.fd.np) := by
  intro k
  induction k with
  | zero =>
    intro i d f fd hi st
    refine ⟨fun vs H Q E h => ?_, fun A outer s H args us vs Q E _ _ _ _ _ h => ?_⟩
    · obtain ⟨_, ρ, S, ws, _, _, h⟩ := h
      exact h.elim
    · obtain ⟨_, ρ, S, ws, _, _, h⟩ := h
      exact h.elim
  | succ k ih =>
    intro i d f fd hi st
    have hd : dfB gs T d = true := List.all_eq_true.mp hT d (List.mem_of_getElem? hi)
    unfold dfB at hd
    simp only [Bool.and_eq_true, decide_eq_true_eq] at hd
    obtain ⟨⟨⟨h1, h2⟩, h3⟩, h4⟩ := hd
    have hsc := scB_ok h1
    refine fnG_of st.fun_ hsc (fun vs H Q E h => h.1.trans h2) fun cdv A outer s H vs Q E hr hg hsp => ?_
    obtain ⟨hl, ρ, S, ws, sm, rws, hp⟩ := hsp
    have hwl := Paired.length rws
    unfold callN at hp
    have e : (fdsOf T)[i]? = some d.fd := by unfold fdsOf; rw [List.getElem?_map, hi]; rfl
    rw [e] at hp
    dsimp only at hp
    rw [if_pos (hwl.trans hl)] at hp
    generalize hX : cxOf (L2.CX P w) P w G.K mg base d.N d.x (defScope d.st) f cdv A outer s H E = X
    have tk : Takes X (fun c dd _ H' => E c dd H') := by subst hX; exact takes_of rfl rfl rfl rfl
    have cc : Cc (ckOf gs T d.N) G (callN (fdsOf T) k) k (defScope d.st) (defScope d.st) (fun c dd _ H' => E c dd H') X := by
      subst hX
      exact ⟨⟨rfl, rfl, hr.mono (Nat.zero_le _), hg, hm⟩, rfl, hsc.nd, rfl, fun _ _ => rfl, hb, hr, fun j x hj => by
        have hj' : (T.map (·.x))[j]? = some x := hj
        rw [List.getElem?_map] at hj'
        cases hTj : T[j]? with
        | none => rw [hTj] at hj'; cases hj'
        | some d' =>
          rw [hTj] at hj'
          cases hj'
          obtain ⟨f', fd', st'⟩ := hS j d' hTj
          exact ⟨f', fd', d'.ps, d'.fd.np, st'.mg_, st'.fun_.kp, st'.binds, by show (T.map (·.fd.np))[j]? = _; rw [List.getElem?_map, hTj]; rfl, ih j d' f' fd' hTj st'⟩, fun j n ws S hj r => callN_len hj r, hgs, tk⟩
    have po : PassesOwn (model X.prog X.w) X.A X.env X.xe := by subst hX; exact passes_of rfl
    have body := sSs cc hsc.kind po d.fd.body h4
    refine ⟨_, body, ρ, _, S, envR_start rws d.N, sm, ?_⟩
    rw [hwl.trans hl, ← h3]
    exact endF_ok sm hp
end Pv
end

section
set_option maxRecDepth 10000
set_option maxHeartbeats 4000000
namespace Pv
open PySem PySem.Spec L2
open PyProof.Rows hiding St

/-! ## the end of a law -/
/-- the heap without the script where it is tracked -/
theorem ns_hid {s : Heap} {H : Hp} {a : Addr} {ob : Obj} {vs : Array Value} {m : Nat} (ha : s.get? a = some ob) (hd : ob.data = .seq vs m) (hA : ∀ b, H b ≠ none → b = a) {b : Addr} {f : Str → Option Value} (h : s.Ns b f) : (hidT s H).Ns b f := by
  obtain ⟨o, es, ep, e, d, r⟩ := h
  refine ⟨o, es, ep, hidT_get e ?_, d, r⟩
  cases q : H b with
  | none => rfl
  | some u =>
    have eb : b = a := hA b (by rw [q]; simp)
    rw [eb, ha] at e
    cases e
    rw [hd] at d
    cases d
theorem law_callG {P : Program} {w : World} {K : PySem.W.Frag} {mg mb : Str → Option Value} {k : Nat} {fa a : Addr} {fd : FuncData} {x : Str} {sp : Sp} {s1 : Shared} {vs : List Value} {ns : List Int}
    (KX : K.In s1.heap) (hns : s1.heap.Ns mainGlobals mg) (hb : s1.heap.Ns builtinsNs mb) (hbb : ∀ x : Str, x ≠ "__name__" → mb x = bootBuiltins x) (hlim : s1.heap.NoLimit) (hmods : ∃ mm, s1.heap.Ns sysModules mm) (hg : s1.gens = #[])
    (ha : s1.heap.get? a = some { cls := .type "list", data := .seq vs.toArray }) (hi : IntsAre vs ns) (hl : ns.length ≤ sizeLine) (hr : Room k callerA)
    (F : ∀ base : Heap, K.In base → base.Ns mainGlobals mg → (∃ mm, base.Ns sysModules mm) → FnG P w K mg base k fa fd [x] sp) (hbind : ∀ (s : Shared) (u : Value), BindsTo s fd ⟨[u], []⟩ [(x, u)])
    (hsp : ∀ H : Hp, SqL K H a (ns.map V.int) → sp [.ref a] H (fun v _ => v = .bl true) fun _ _ _ => False) :
    codeAny (model P w) callerA (.call (.ref fa) ⟨[.ref a], []⟩) (fun r s' => r = .ok (.ret (.bool true)) ∧ OldK s1.heap s'.heap ∧ s'.os = s1.os ∧ AllBare s'.gens) s1 := by
  have rv := vals_ints hi
  have hlen := hi.length
  suffices core : ∃ H : Hp, Only H ∧ SqL K H a (ns.map V.int) ∧ HOk P w H s1.heap ∧ (∀ b, H b ≠ none → b = a) ∧ (H a ≠ none → K.lookup a = none) by
    obtain ⟨H, hO, hS, hok, hA, hK⟩ := core
    have lift : ∀ {b : Addr} {f : Str → Option Value}, s1.heap.Ns b f → (hidT s1.heap H).Ns b f := fun h => ns_hid ha rfl hA h
    have hKb : K.In (hidT s1.heap H) := by
      intro b o e
      refine hidT_get (KX b o e) ?_
      cases q : H b with
      | none => rfl
      | some u =>
        have eb : b = a := hA b (by rw [q]; simp)
        have := hK (by rw [← eb, q]; simp)
        rw [← eb, e] at this
        cases this
    have hlim' : (hidT s1.heap H).NoLimit := by
      obtain ⟨mc, g1, g2⟩ := hlim
      exact ⟨mc, lift g1, g2⟩
    have hmod : Mod K mg (hidT s1.heap H) := { kin := hKb, glob := lift hns, blt := ⟨mb, lift hb, hbb⟩, nolimit := hlim' }
    have env0 : Env0 P w K mg (hidT s1.heap H) callerA [] s1 H :=
      { frames := rfl, mod := hmod, bs := fun b o e => of_hidT e, bsz := Nat.le_of_eq (hidT_size _ _), funs := trivial, frf := (fun b q => (nomatch q)), hok := hok, bare := .of_eq hg }
    obtain ⟨mm, hmm⟩ := hmods
    have run := (F _ hKb (lift hns) ⟨mm, lift hmm⟩).go callerA [] s1 H ⟨[.ref a], []⟩ [.ref a] [.ref a] _ _ hr rfl env0 (hbind s1 (.ref a)) (.cons rfl .nil) (hsp H hS)
    refine codeAny_mono run fun res s' q => ?_
    match res, q with
    | .error e, q =>
      exact (passCX q).elim
    | .ok (.ret u), ⟨v, H', hos, hbare, un, hok', r', q⟩ =>
      have q : v = .bl true := q
      subst q
      have hu : u = Value.bool true := r'
      subst hu
      refine ⟨rfl, OldK.of_keep fun b o e => ?_, hos, hbare⟩
      cases hHb : H b with
      | none => exact un.keep b o e hHb (fun z => by cases z) (by simp)
      | some u =>
        rcases hO b with z | ⟨ob, xs, z⟩
        · rw [hHb] at z; cases z
        · have z2 := un.frzs b ob _ z
          obtain ⟨e1, _⟩ := hok b _ z
          obtain ⟨e2, _⟩ := hok' b _ z2
          rw [e] at e1
          cases e1
          exact e2
    | .ok .next, q => exact q.elim
    | .ok .brk, q => exact q.elim
    | .ok .cont, q => exact q.elim
  cases hk : K.lookup a with
  | some o =>
    have e := KX a o hk
    rw [ha] at e
    cases e
    exact ⟨fun _ => none, fun _ => .inl rfl, .inr ⟨_, vs.toArray, _, hk, rfl, rfl, rfl, by rw [List.size_toArray, hlen]; exact hl, by simpa using rv⟩, (fun b u z => by cases z), fun b z => absurd rfl z, fun z => absurd rfl z⟩
  | none =>
    refine ⟨fun b => if b = a then some (.frz { cls := .type "list", data := .seq vs.toArray } (.lst (ns.map V.int))) else none, fun b => ?_, .inl (.inr ⟨_, if_pos rfl⟩), fun b u z => ?_, fun b z => ?_, fun _ => rfl⟩
    · by_cases e : b = a
      · exact .inr ⟨_, _, if_pos e⟩
      · exact .inl (if_neg e)
    · by_cases e : b = a
      · have z' := (if_pos e).symm.trans z
        cases z'
        subst e
        exact ⟨ha, by rw [List.length_map]; exact hl, vs, _, rv, ha⟩
      · have z' := (if_neg e).symm.trans z
        cases z'
    · by_cases e : b = a
      · exact e
      · exact absurd (if_neg e) z
where
  passCX {P : Program} {w : World} {H : Hp} {s : Shared} {e : Value} {s' : Shared} (h : L2.CX P w [] H s (fun _ _ _ => False) e s') : False := by
    obtain ⟨_, _, _, _, _, _, _, _, _, _, _, _, z⟩ := h
    exact z

theorem room_law {k : Nat} (h : k ≤ 200) : Room k callerA := by
  refine ⟨rfl, ?_, ?_⟩ <;> simp [callerA, recursionLimit, claimMargin, cLine] <;> omega
theorem walk_g {l : PySem.W.OpenLaw} {n k : Nat} {q : Program} {loose : List Str} {XP : (Str → Option Value) → Heap → Prop} {YP : World → Heap → Prop} {d : DefRec} {K : Params → PySem.W.Frag} {sp : Gk → Sp} {x : Str} {cl : World → Nat → Option (Addr × List Str)}
    (hn : l.most = some n) (hn2 : n ≤ sizeLine) (hdf : d.params.defaults = []) (hr : Room k callerA) (hi : importsNone q = true)
    (hY : ∀ (w : World) (h : Heap), YP w h → (K w.params).In h)
    (F : ∀ (w : World) (mg : Str → Option Value) (fa : Addr) (h : Heap), (K w.params).In h → h.Ns mainGlobals mg → mg d.name = some (.ref fa) →
      ∃ fd : FuncData, (∀ (s : Shared) (u : Value), BindsTo s fd ⟨[u], []⟩ [(x, u)]) ∧
        ∀ base : Heap, (K w.params).In base → base.Ns mainGlobals mg → (∃ mm, base.Ns sysModules mm) → FnG l.prog w (K w.params) mg base k fa fd [x] (sp ⟨K w.params, cl w⟩))
    (hsp : ∀ (G : Gk) (H : Hp) (a : Addr) (ns : List Int), ns.length ≤ n → (∀ z ∈ ns, Builtin.Int.intBits z ≤ 1048576) → SqL G.K H a (ns.map V.int) → sp G [.ref a] H (fun v _ => v = .bl true) fun _ _ _ => False) :
    PySem.W.WalkO q loose XP YP l.row.toRowW d [] (fun f vs => PySem.call f vs) := by
  refine Att.attach_callB hn hdf fun w s₀ s₁ mg mb fa o pm cd doc a vs ns G Y ho hd hcd hmg hobj hints hlen hbits hg => ?_
  have KX := hY w _ Y
  obtain ⟨fd, hb, hF⟩ := F w mg fa _ KX G.T.g hmg
  obtain ⟨mc, m1, m2⟩ := (G.T.seer hi).mods
  exact law_callG KX G.T.g G.T.b G.T.builtins G.T.nolimit ⟨mc, m1⟩ hg hobj hints (Nat.le_trans hlen hn2) hr hF hb (fun H hS => hsp ⟨K w.params, cl w⟩ H a ns hlen hbits hS)
/-- the script's own promise, from the evaluator's answer -/
theorem sp_law {fds : List Fd} {k i n : Nat} {G : Gk} {H : Hp} {a : Addr} {ns : List Int} (hn : n = 1) (hS : SqL G.K H a (ns.map V.int)) (h : ∃ S', callN fds k i [.s ns] [] = .ok (.p (.bool true)) S') :
    spF G (callN fds k) i n [.ref a] H (fun v _ => v = .bl true) fun _ _ _ => False := by
  subst hn
  obtain ⟨S', h⟩ := h
  refine ⟨rfl, ⟨[], []⟩, [], [.s ns], ?_, ?_, ?_⟩
  · exact ⟨List.nodup_nil, rfl, fun m ws q => (by simp at q), fun b q => (nomatch q), fun b q => (nomatch q)⟩
  · exact .cons ⟨a, rfl, (match hS with | .inl r => .inl ⟨r, by simp⟩ | .inr z => .inr (.inr z))⟩ .nil
  · rw [h]
    intro v H' ρ' e s r
    cases r
    rfl
end Pv
end

section
set_option maxRecDepth 10000
set_option maxHeartbeats 4000000
namespace Pv
open PySem PySem.Spec L2
open PyProof.Rows hiding St

/-! ## what the evaluator answers, by what is asked of it -/
def Ok {α : Type} (r : R α) (Q : α → Sto → Prop) (E : Xc → Sto → Prop) : Prop := match r with
  | .ok a S => Q a S
  | .exc x S => E x S
  | .bad => False
structure Po where
  nx : Tau → Sto → Prop
  rt : W → Sto → Prop
  bk : Tau → Sto → Prop
  ct : Tau → Sto → Prop
  ex : Xc → Tau → Sto → Prop
def So (r : RS) (p : Po) : Prop := match r with
  | .nx τ S => p.nx τ S
  | .ret w S => p.rt w S
  | .bk τ S => p.bk τ S
  | .ct τ S => p.ct τ S
  | .exc x τ S => p.ex x τ S
  | .bad => False
section
variable {α β : Type} {Q : α → Sto → Prop} {E : Xc → Sto → Prop} {p : Po}
theorem Ok_ok (a : α) (S : Sto) : Ok (.ok a S) Q E = Q a S := rfl
theorem Ok_exc (x : Xc) (S : Sto) : Ok (.exc x S : R α) Q E = E x S := rfl
theorem Ok_bad : Ok (.bad : R α) Q E = False := rfl
theorem Ok_bind {r : R β} {f : β → Sto → R α} : Ok (r.bind f) Q E = Ok r (fun a S => Ok (f a S) Q E) E := by cases r <;> rfl
theorem Ok_mono {r : R α} {Q' : α → Sto → Prop} {E' : Xc → Sto → Prop} (h : Ok r Q E) (hQ : ∀ a S, Q a S → Q' a S) (hE : ∀ x S, E x S → E' x S) : Ok r Q' E' := by
  cases r with
  | ok a S => exact hQ _ _ h
  | exc x S => exact hE _ _ h
  | bad => exact h
/-- no exception comes -/
abbrev noX : Xc → Sto → Prop := fun _ _ => False
theorem Ok_mo {r : R α} {Q' : α → Sto → Prop} (h : Ok r Q noX) (hQ : ∀ a S, Q a S → Q' a S) : Ok r Q' E := Ok_mono h hQ fun _ _ z => z.elim
theorem Ok_some (w : W) (S : Sto) {Q : W → Sto → Prop} : Ok (ofO (some (w, S))) Q E = Q w S := rfl
theorem Ok_none {Q : W → Sto → Prop} : Ok (ofO none) Q E = False := rfl
theorem Ok_bs (b : Bool) (S : Sto) {Q : Bool → Sto → Prop} : Ok (ofB (some b) S) Q E = Q b S := rfl
theorem Ok_ite {c : Prop} [Decidable c] {x y : R α} : Ok (if c then x else y) Q E = if c then Ok x Q E else Ok y Q E := by by_cases h : c <;> simp [h]
theorem So_nx (τ : Tau) (S : Sto) : So (.nx τ S) p = p.nx τ S := rfl
theorem So_ret (w : W) (S : Sto) : So (.ret w S) p = p.rt w S := rfl
theorem So_bk (τ : Tau) (S : Sto) : So (.bk τ S) p = p.bk τ S := rfl
theorem So_ct (τ : Tau) (S : Sto) : So (.ct τ S) p = p.ct τ S := rfl
theorem So_exc (x : Xc) (τ : Tau) (S : Sto) : So (.exc x τ S) p = p.ex x τ S := rfl
theorem So_bad : So .bad p = False := rfl
theorem So_then {r : R α} {τ : Tau} {f : α → Sto → RS} : So (thenS r τ f) p = Ok r (fun a S => So (f a S) p) (fun x S => p.ex x τ S) := by cases r <;> rfl
theorem So_ite {c : Prop} [Decidable c] {x y : RS} : So (if c then x else y) p = if c then So x p else So y p := by by_cases h : c <;> simp [h]
theorem So_mono {r : RS} {q : Po} (h : So r p) (h1 : ∀ τ S, p.nx τ S → q.nx τ S) (h2 : ∀ w S, p.rt w S → q.rt w S) (h3 : ∀ τ S, p.bk τ S → q.bk τ S) (h4 : ∀ τ S, p.ct τ S → q.ct τ S) (h5 : ∀ x τ S, p.ex x τ S → q.ex x τ S) : So r q := by
  cases r with
  | nx τ S => exact h1 _ _ h
  | ret w S => exact h2 _ _ h
  | bk τ S => exact h3 _ _ h
  | ct τ S => exact h4 _ _ h
  | exc x τ S => exact h5 _ _ _ h
  | bad => exact h
section
variable {call : Nat → List W → Sto → R W}
theorem So_cs {a r : Sx} {τ : Tau} {S : Sto} : So (evSs call (.cs a r) τ S) p = So (evS call a τ S) { p with nx := fun τ S => So (evSs call r τ S) p } := by
  rw [evSs]
  cases evS call a τ S <;> rfl
theorem So_nl {τ : Tau} {S : Sto} : So (evSs call .nl τ S) p = p.nx τ S := rfl
end
/-- a for, by an invariant over the rows that are through -/
theorem So_for {f : Row → Tau → Sto → RS} {rows : List Row} (I : List Row → Tau → Sto → Prop) {τ : Tau} {S : Sto} (h0 : I [] τ S)
    (hs : ∀ pre r post τ S, rows = pre ++ r :: post → I pre τ S → So (f r τ S) { nx := I (pre ++ [r]), rt := p.rt, bk := p.nx, ct := I (pre ++ [r]), ex := p.ex })
    (he : ∀ τ S, I rows τ S → p.nx τ S) : So (forLoop f rows τ S) p := by
  have key : ∀ (rs pre : List Row) (τ : Tau) (S : Sto), rows = pre ++ rs → I pre τ S → So (forLoop f rs τ S) p := by
    intro rs
    induction rs with
    | nil =>
      intro pre τ S hr hI
      refine he τ S ?_
      rw [hr, List.append_nil]
      exact hI
    | cons r rs ih =>
      intro pre τ S hr hI
      have h1 := hs pre r rs τ S hr hI
      have hr' : rows = (pre ++ [r]) ++ rs := by rw [hr]; simp
      unfold forLoop
      cases e : f r τ S with
      | nx τ' S' => rw [e] at h1; exact ih _ τ' S' hr' h1
      | ct τ' S' => rw [e] at h1; exact ih _ τ' S' hr' h1
      | bk τ' S' => rw [e] at h1; exact h1
      | ret w S' => rw [e] at h1; exact h1
      | exc x τ' S' => rw [e] at h1; exact h1
      | bad => rw [e] at h1; exact h1
  exact key rows [] τ S rfl h0
/-- the same where nothing is kept of the rows -/
theorem So_forP {f : Row → Tau → Sto → RS} {rows : List Row} (I : Tau → Sto → Prop) {τ : Tau} {S : Sto} (h0 : I τ S)
    (hs : ∀ r τ S, r ∈ rows → I τ S → So (f r τ S) { nx := I, rt := p.rt, bk := p.nx, ct := I, ex := p.ex })
    (he : ∀ τ S, I τ S → p.nx τ S) : So (forLoop f rows τ S) p :=
  So_for (fun _ => I) h0 (fun pre r post τ S e h => hs r τ S (by rw [e]; simp) h) he
/-- a while, by a measure -/
theorem So_whl {c : Tau → Sto → R Bool} {b : Tau → Sto → RS} (I : Nat → Tau → Sto → Prop) {n k : Nat} {τ : Tau} {S : Sto} (hk : k < n) (h0 : I k τ S)
    (hs : ∀ m τ S, I m τ S → Ok (c τ S) (fun t S => if t then So (b τ S) { nx := fun τ S => ∃ j, j < m ∧ I j τ S, rt := p.rt, bk := p.nx, ct := fun τ S => ∃ j, j < m ∧ I j τ S, ex := p.ex } else p.nx τ S) (fun x S => p.ex x τ S)) :
    So (whlLoop c b n τ S) p := by
  induction n generalizing k τ S with
  | zero => omega
  | succ n ih =>
    unfold whlLoop
    rw [So_then]
    refine Ok_mono (hs k τ S h0) (fun t S h => ?_) fun _ _ h => h
    cases t with
    | false => exact h
    | true =>
      simp only [if_true] at h ⊢
      cases e : b τ S with
      | nx τ' S' => rw [e] at h; obtain ⟨j, h1, h2⟩ := h; exact ih (by omega) h2
      | ct τ' S' => rw [e] at h; obtain ⟨j, h1, h2⟩ := h; exact ih (by omega) h2
      | bk τ' S' => rw [e] at h; exact h
      | ret w S' => rw [e] at h; exact h
      | exc x τ' S' => rw [e] at h; exact h
      | bad => rw [e] at h; exact h
/-- a comprehension, by an invariant -/
theorem Ok_lc {f : Row → Sto → R (Option W)} {rows : List Row} {Q : List W → Sto → Prop} (I : List Row → List W → Sto → Prop) {S : Sto} (h0 : I [] [] S)
    (hs : ∀ pre r post acc S, rows = pre ++ r :: post → I pre acc S → Ok (f r S) (fun o S => I (pre ++ [r]) (acc ++ o.toList) S) noX)
    (he : ∀ acc S, I rows acc S → Q acc S) : Ok (lcLoop f rows [] S) Q E := by
  have key : ∀ (rs pre : List Row) (acc : List W) (S : Sto), rows = pre ++ rs → I pre acc S → Ok (lcLoop f rs acc S) Q E := by
    intro rs
    induction rs with
    | nil =>
      intro pre acc S hr hI
      refine he acc S ?_
      rw [hr, List.append_nil]
      exact hI
    | cons r rs ih =>
      intro pre acc S hr hI
      have h1 := hs pre r rs acc S hr hI
      have hr' : rows = (pre ++ [r]) ++ rs := by rw [hr]; simp
      unfold lcLoop
      cases e : f r S with
      | ok o S' =>
        rw [e] at h1
        cases o with
        | none => exact ih _ _ S' hr' (by simpa [Ok_ok] using h1)
        | some w => exact ih _ _ S' hr' (by simpa [Ok_ok] using h1)
      | exc x S' => rw [e] at h1; exact h1.elim
      | bad => rw [e] at h1; exact h1
  exact key rows [] [] S rfl h0
/-- where nothing changes -/
theorem Ok_lcP {f : Row → Sto → R (Option W)} {rows : List Row} {Q : List W → Sto → Prop} (g : Row → Option W) {S : Sto} (hs : ∀ r, r ∈ rows → f r S = .ok (g r) S) (he : Q (rows.filterMap g) S) : Ok (lcLoop f rows [] S) Q E := by
  refine Ok_lc (I := fun pre acc S' => S' = S ∧ acc = pre.filterMap g) ⟨rfl, rfl⟩ (fun pre r post acc S' e h => ?_) fun acc S' h => ?_
  · obtain ⟨rfl, rfl⟩ := h
    rw [hs r (by rw [e]; simp)]
    refine ⟨rfl, ?_⟩
    rw [List.filterMap_append]
    cases q : g r <;> simp [q]
  · obtain ⟨rfl, rfl⟩ := h
    exact he
end
/-! ## calls -/
def endP (gc : Bool) (n : Nat) (Q : W → Sto → Prop) (E : Xc → Sto → Prop) : Po where
  nx _ S := Ok (if gc then sweep n (.p .none) S else .ok (.p .none) S) Q E
  rt w S := Ok (if gc then sweep n w S else .ok w S) Q E
  bk _ _ := False
  ct _ _ := False
  ex x _ S := E x S
theorem Ok_call {T : List Fd} {k i : Nat} {fd : Fd} {ws : List W} {S : Sto} {Q : W → Sto → Prop} {E : Xc → Sto → Prop} (h : T[i]? = some fd) (hl : ws.length = fd.np)
    (b : So (evSs (callN T k) fd.body (ws.map some ++ List.replicate (fd.nn - fd.np) none) S) (endP fd.gc S.length Q E)) : Ok (callN T (k + 1) i ws S) Q E := by
  unfold callN
  rw [h]
  dsimp only
  rw [if_pos hl]
  revert b
  generalize evSs (callN T k) fd.body _ S = r
  intro b
  cases r <;> exact b
/-- the store names no place beyond its end -/
def Clo (S : Sto) : Prop := ∀ o, o ∈ S → obBelow S.length o = true
theorem sweep_p {S J : Sto} (h : Clo S) (d : PyData) : sweep S.length (.p d) (S ++ J) = .ok (.p d) S := by
  unfold sweep
  rw [List.take_left, if_pos (List.all_eq_true.mpr h)]
  rfl
theorem Ok_end {S J : Sto} {d : PyData} {gc : Bool} {Q : W → Sto → Prop} {E : Xc → Sto → Prop} {n : Nat} (h : Clo S) (hg : gc = true) (hn : n = S.length) (q : Q (.p d) S) : Ok (if gc then sweep n (.p d) (S ++ J) else .ok (.p d) (S ++ J)) Q E := by
  subst hn hg
  rw [if_pos rfl, sweep_p h]
  exact q
theorem Ok_end0 {S : Sto} {d : PyData} {gc : Bool} {Q : W → Sto → Prop} {E : Xc → Sto → Prop} {n : Nat} (h : Clo S) (hg : gc = true) (hn : n = S.length) (q : Q (.p d) S) : Ok (if gc then sweep n (.p d) S else .ok (.p d) S) Q E := by
  have := Ok_end (J := []) (E := E) h hg hn q
  rwa [List.append_nil] at this
end Pv
end

section
set_option maxRecDepth 10000
set_option maxHeartbeats 4000000
namespace Pv
open PySem PySem.Spec L2
open PyProof.Rows hiding St
/-! trees of defs that several laws share (printed by gen.py) -/
def nx_law_spring : List Str := ["_law_script", "_law_mixed", "_law_cell"]
def bx_law_spring_1 : Sx := (.cs (.ret (.lst true (.cs (.lc true [2] (.n 2) (.iSeq (.sl (.v 0) .nl (.cs (.k (.int 60)) .nl))) (.cs (.tt (.cmp .GtE (.bi .abs (.cs (.v 2) .nl)) (.op .Pow (.k (.int 10)) (.k (.int 18))))) .nl) (.bi .abs (.cs (.v 2) .nl))) (.cs (.v 1) .nl)))) .nl)
def bx_law_spring_2 : Sx := (.cs (.asg (.n 1) (.op .Mod (.bi .int (.cs (.op .Add (.op .Add (.op .Mult (.v 1) (.k (.int 6906969069))) (.bi .abs (.cs (.v 2) .nl))) (.op .Mult (.k (.int 3)) (.bi .int (.cs (.cmp .Lt (.v 2) (.k (.int 0))) .nl)))) .nl)) (.k (.int 9223372036854775783)))) .nl)
def bx_law_spring : Sx := (.cs (.asg (.n 1) (.op .Add (.k (.int 61331)) (.bi .len (.cs (.v 0) .nl)))) (.cs (.for_ (.n 2) (.iSeq (.sl (.v 0) .nl (.cs (.k (.int 60)) .nl))) (bx_law_spring_2)) (bx_law_spring_1)))
/-- _law_spring(_law_script) -/
def fx_law_spring : Fd := ⟨1, 3, false, bx_law_spring⟩
def nx_law_drop : List Str := ["_law_spring_here", "_law_many", "_law_cell"]
def bx_law_drop_1 : Sx := (.cs (.sub (.v 0) (.k (.int 1)) (.op .Mod (.bi .int (.cs (.op .Add (.op .Mult (.ix (.v 0) (.k (.int 1))) (.k (.int 6364136223846793005))) (.k (.int 1442695040888963407))) .nl)) (.k (.int 18446744073709551616)))) (.cs (.ret (.op .Mod (.bi .int (.cs (.op .FloorDiv (.ix (.v 0) (.k (.int 1))) (.k (.int 4294967296))) .nl)) (.v 1))) .nl))
def bx_law_drop_2 : Sx := (.cs (.expr (.me .popAt (.ix (.v 0) (.k (.int 0))) (.cs (.k (.int 0)) .nl))) .nl)
def bx_law_drop_3 : Sx := (.cs (.asg (.n 2) (.bi .int (.cs (.ix (.ix (.v 0) (.k (.int 0))) (.k (.int 0))) .nl))) (.cs (.iff (.tt (.cmp .Gt (.v 2) (.k (.int 0)))) (.cs (.sub (.ix (.v 0) (.k (.int 0))) (.k (.int 0)) (.op .FloorDiv (.v 2) (.v 1))) (.cs (.ret (.op .Mod (.bi .int (.cs (.v 2) .nl)) (.v 1))) .nl)) .nl) (bx_law_drop_2)))
def bx_law_drop : Sx := (.cs (.whl (.tt (.cmp .NotEq (.ix (.v 0) (.k (.int 0))) (.lst false .nl))) (bx_law_drop_3)) (bx_law_drop_1))
/-- _law_drop(_law_spring_here, _law_many) -/
def fx_law_drop : Fd := ⟨2, 3, true, bx_law_drop⟩
def nx_law_pick : List Str := ["_law_spring_here", "_law_items"]
def bx_law_pick (c_law_drop : Nat) : Sx := (.cs (.ret (.ix (.v 1) (.call c_law_drop (.cs (.v 0) (.cs (.bi .len (.cs (.v 1) .nl)) .nl))))) .nl)
/-- _law_pick(_law_spring_here, _law_items) -/
def fx_law_pick (c_law_drop : Nat) : Fd := ⟨2, 2, true, bx_law_pick c_law_drop⟩
def nx_law_act : List Str := ["_law_spring_here", "_law_screens", "_law_aims", "_law_way"]
def bx_law_act_1 (c_law_drop : Nat) (c_law_pick : Nat) : Sx := (.cs (.ret (.ife (.tt (.cmp .Lt (.v 3) (.k (.int 6)))) (.tup (.cs (.k (.str "back")) .nl)) (.tup (.cs (.k (.str "to")) (.cs (.call c_law_pick (.cs (.v 0) (.cs (.v 2) .nl))) .nl))))) .nl)
def bx_law_act_2 (c_law_drop : Nat) (c_law_pick : Nat) : Sx := (.cs (.iff (.tt (.cmp .Eq (.v 3) (.k (.int 3)))) (.cs (.ret (.tup (.cs (.k (.str "put")) (.cs (.call c_law_pick (.cs (.v 0) (.cs (.v 1) .nl))) .nl)))) .nl) .nl) (bx_law_act_1 c_law_drop c_law_pick))
def bx_law_act (c_law_drop : Nat) (c_law_pick : Nat) : Sx := (.cs (.asg (.n 3) (.call c_law_drop (.cs (.v 0) (.cs (.k (.int 7)) .nl)))) (.cs (.iff (.tt (.cmp .Lt (.v 3) (.k (.int 3)))) (.cs (.ret (.tup (.cs (.k (.str "open")) (.cs (.call c_law_pick (.cs (.v 0) (.cs (.v 1) .nl))) .nl)))) .nl) .nl) (bx_law_act_2 c_law_drop c_law_pick)))
/-- _law_act(_law_spring_here, _law_screens, _law_aims) -/
def fx_law_act (c_law_drop : Nat) (c_law_pick : Nat) : Fd := ⟨3, 4, true, bx_law_act c_law_drop c_law_pick⟩
def nx_law_app : List Str := ["_law_spring_here", "_law_most", "_law_modes", "_law_some", "_law_screens", "_law_aims", "_law_taps", "_law_mode", "_law_screen", "_law_name", "_law_start"]
def bx_law_app_1 (c_law_act : Nat) (c_law_drop : Nat) (c_law_pick : Nat) : Sx := (.cs (.asg (.n 10) (.tup (.cs (.call c_law_pick (.cs (.v 0) (.cs (.v 2) .nl))) (.cs (.call c_law_pick (.cs (.v 0) (.cs (.v 4) .nl))) .nl)))) (.cs (.ret (.tup (.cs (.k (.str "app")) (.cs (.v 2) (.cs (.v 4) (.cs (.v 10) (.cs (.bi .tuple (.cs (.sl (.bi .sorted (.cs (.v 6) .nl)) .nl (.cs (.k (.int 24)) .nl)) .nl)) .nl))))))) .nl))
def bx_law_app_2 (c_law_act : Nat) (c_law_drop : Nat) (c_law_pick : Nat) : Sx := (.cs (.expr (.me .append (.v 6) (.cs (.tup (.cs (.v 9) (.cs (.v 7) (.cs (.v 8) (.cs (.call c_law_act (.cs (.v 0) (.cs (.v 4) (.cs (.v 5) .nl)))) (.cs (.call c_law_pick (.cs (.v 0) (.cs (.v 2) .nl))) .nl)))))) .nl))) .nl)
def bx_law_app_3 (c_law_act : Nat) (c_law_drop : Nat) (c_law_pick : Nat) : Sx := (.cs (.for_ (.n 9) (.iSeq (.sl (.lst false (.cs (.k (.str "back")) (.cs (.k (.str "go")) (.cs (.k (.str "more")) (.cs (.k (.str "x")) (.cs (.k (.str "zzzzzzzz")) .nl)))))) .nl (.cs (.call c_law_drop (.cs (.v 0) (.cs (.v 1) .nl))) .nl))) (bx_law_app_2 c_law_act c_law_drop c_law_pick)) .nl)
def bx_law_app_4 (c_law_act : Nat) (c_law_drop : Nat) (c_law_pick : Nat) : Sx := (.cs (.for_ (.n 8) (.iSeq (.v 4)) (bx_law_app_3 c_law_act c_law_drop c_law_pick)) .nl)
def bx_law_app (c_law_act : Nat) (c_law_drop : Nat) (c_law_pick : Nat) : Sx := (.cs (.asg (.n 2) (.call c_law_pick (.cs (.v 0) (.cs (.lst false (.cs (.tup (.cs (.k (.str "guest")) (.cs (.k (.str "member")) .nl))) (.cs (.tup (.cs (.k (.str "a")) .nl)) (.cs (.tup (.cs (.k (.str "day")) (.cs (.k (.str "night")) (.cs (.k (.str "zzzzzzzz")) .nl)))) (.cs (.tup (.cs (.k (.str "a")) (.cs (.k (.str "ab")) .nl))) .nl))))) .nl)))) (.cs (.asg (.n 3) (.lst false (.cs (.tup (.cs (.k (.str "cart")) (.cs (.k (.str "home")) (.cs (.k (.str "list")) .nl)))) (.cs (.tup (.cs (.k (.str "x")) .nl)) (.cs (.tup (.cs (.k (.str "a")) (.cs (.k (.str "b")) .nl))) (.cs (.tup (.cs (.k (.str "b")) (.cs (.k (.str "bb")) .nl))) (.cs (.tup (.cs (.k (.str "a")) (.cs (.k (.str "aa")) (.cs (.k (.str "b")) (.cs (.k (.str "longname")) .nl))))) .nl))))))) (.cs (.asg (.n 4) (.call c_law_pick (.cs (.v 0) (.cs (.v 3) .nl)))) (.cs (.par [5, 6] (.cs (.lst false (.cs (.call c_law_pick (.cs (.v 0) (.cs (.v 4) .nl))) (.cs (.call c_law_pick (.cs (.v 0) (.cs (.v 4) .nl))) .nl))) (.cs (.lst true .nl) .nl))) (.cs (.for_ (.n 7) (.iSeq (.v 2)) (bx_law_app_4 c_law_act c_law_drop c_law_pick)) (bx_law_app_1 c_law_act c_law_drop c_law_pick))))))
/-- _law_app(_law_spring_here, _law_most) -/
def fx_law_app (c_law_act : Nat) (c_law_drop : Nat) (c_law_pick : Nat) : Fd := ⟨2, 11, true, bx_law_app c_law_act c_law_drop c_law_pick⟩
def nxtaps_on : List Str := ["app", "mode", "screen", "tap"]
def bxtaps_on : Sx := (.cs (.ret (.bi .tuple (.cs (.lc false [3] (.n 3) (.iSeq (.ix (.v 0) (.k (.int 4)))) (.cs (.an (.cs (.tt (.cmp .Eq (.ix (.v 3) (.k (.int 1))) (.v 1))) (.cs (.tt (.cmp .Eq (.ix (.v 3) (.k (.int 2))) (.v 2))) .nl))) .nl) (.v 3)) .nl))) .nl)
/-- taps_on(app, mode, screen) -/
def fxtaps_on : Fd := ⟨3, 4, true, bxtaps_on⟩
end Pv
end

section
set_option maxRecDepth 10000
set_option maxHeartbeats 4000000
namespace Pv
open PySem PySem.Spec L2
open PyProof.Rows hiding St

/-! ## the spring of the first laws -/
structure Spg where
  cs : List Int
  m : Int
  le : cs.length ≤ 63
def Spr (s : Spg) (R : Sto) : Sto := .l (s.cs.map fun i => .p (.int i)) :: .l [.r 0, .p (.int s.m)] :: R
def CloR (R : Sto) : Prop := ∀ o, o ∈ R → obBelow (R.length + 2) o = true
theorem clo_spr {s : Spg} {R : Sto} (h : CloR R) : Clo (Spr s R) := by
  intro o ho
  simp only [Spr, List.mem_cons] at ho
  rcases ho with rfl | rfl | ho
  · simp [obBelow, below]
  · simp [obBelow, below, Spr]
  · exact h o ho
theorem CloR.nil : CloR [] := fun o h => nomatch h
theorem below_mono {n m : Nat} (h : n ≤ m) {w : W} (b : below n w = true) : below m w = true := by
  cases w <;> simp [below] at b ⊢
  omega
theorem obBelow_mono {n m : Nat} (h : n ≤ m) {o : Ob} (b : obBelow n o = true) : obBelow m o = true := by
  cases o with
  | l ws => exact List.all_eq_true.mpr fun w hw => below_mono h (List.all_eq_true.mp b w hw)
theorem CloR.snoc {R : Sto} {ds : List PyData} (h : CloR R) : CloR (R ++ [.l (ds.map W.p)]) := by
  intro o ho
  rcases List.mem_append.mp ho with q | q
  · exact obBelow_mono (by simp) (h o q)
  · simp only [List.mem_singleton] at q
    subst q
    simp [obBelow, below]
theorem mapO_p {k : Nat} {S : Sto} : ∀ ds : List PyData, mapO (puN k S) (ds.map W.p) = some ds
  | [] => rfl
  | d :: r => by
    have e : puN k S (.p d) = some d := by cases k <;> rfl
    simp only [List.map_cons, mapO, e, mapO_p r, Option.map]
theorem ints_w (cs : List Int) : (cs.map fun i => W.p (.int i)) = (cs.map PyData.int).map W.p := by simp
theorem canLay_ints : ∀ cs : List Int, PyData.canLayAll0 (cs.map PyData.int) = true
  | [] => rfl
  | c :: r => by simp [PyData.canLayAll0, PyData.canLay0, canLay_ints r]
theorem depth_ints : ∀ cs : List Int, PyData.depthAll (cs.map PyData.int) ≤ 1
  | [] => by simp [PyData.depthAll]
  | c :: r => by
    have := depth_ints r
    simp [PyData.depthAll, PyData.depth] at this ⊢
    omega
/-! ### the operations, by equations -/
section
variable {S : Sto}
theorem e_add (i j : Int) : fAdd S (.p (.int i)) (.p (.int j)) = some (.p (.int (i + j)), S) := rfl
theorem e_addT (a b : List PyData) (h : a.length + b.length ≤ lim) : fAdd S (.p (.tuple a)) (.p (.tuple b)) = some (.p (.tuple (a ++ b)), S) := if_pos h
theorem e_addL (a b : List PyData) (h : a.length + b.length ≤ lim) : fAdd S (.p (.list a)) (.p (.list b)) = some (.p (.list (a ++ b)), S) := if_pos h
theorem e_addS (a b : Str) (h : a.length + b.length ≤ lim) : fAdd S (.p (.str a)) (.p (.str b)) = some (.p (.str (a ++ b)), S) := if_pos h
theorem e_sub (i j : Int) : fSub S (.p (.int i)) (.p (.int j)) = some (.p (.int (i - j)), S) := rfl
theorem e_mul (i j : Int) (h : (small j || small i) = true) : fMul S (.p (.int i)) (.p (.int j)) = some (.p (.int (i * j)), S) := if_pos h
theorem e_div (i j : Int) (h : 0 < j ∧ j < 2 ^ 64) : fDiv S (.p (.int i)) (.p (.int j)) = some (.p (.int (i / j)), S) := if_pos (decide_eq_true h)
theorem e_mod (i j : Int) (h : 0 < j) : fMod S (.p (.int i)) (.p (.int j)) = some (.p (.int (i % j)), S) := if_pos h
theorem ordOk_int (i j : Int) : ordOk (.int i) (.int j) = true := by simp [ordOk, PySem.W.alike, PyData.depth]
theorem e_lt (i j : Int) : fOrd (fun a b => PySem.W.dataLt a b) S (.p (.int i)) (.p (.int j)) = some (.p (.bool (decide (i < j))), S) := by
  unfold fOrd
  dsimp only
  rw [if_pos (ordOk_int _ _), PySem.W.dataLt_int]
  rfl
theorem e_gt (i j : Int) : fOrd (fun a b => PySem.W.dataLt b a) S (.p (.int i)) (.p (.int j)) = some (.p (.bool (decide (j < i))), S) := by
  unfold fOrd
  dsimp only
  rw [if_pos (ordOk_int _ _), PySem.W.dataLt_int]
  rfl
theorem e_le (i j : Int) : fOrd (fun a b => !PySem.W.dataLt b a) S (.p (.int i)) (.p (.int j)) = some (.p (.bool (decide (i ≤ j))), S) := by
  unfold fOrd
  dsimp only
  rw [if_pos (ordOk_int _ _), PySem.W.dataLt_int]
  unfold b2
  congr 4
  by_cases h : i ≤ j
  · rw [decide_eq_true h, decide_eq_false (by omega)]; rfl
  · rw [decide_eq_false h, decide_eq_true (by omega)]; rfl
theorem e_ge (i j : Int) : fOrd (fun a b => !PySem.W.dataLt a b) S (.p (.int i)) (.p (.int j)) = some (.p (.bool (decide (j ≤ i))), S) := by
  unfold fOrd
  dsimp only
  rw [if_pos (ordOk_int _ _), PySem.W.dataLt_int]
  unfold b2
  congr 4
  by_cases h : j ≤ i
  · rw [decide_eq_true h, decide_eq_false (by omega)]; rfl
  · rw [decide_eq_false h, decide_eq_true (by omega)]; rfl
theorem e_abs (i : Int) : fAbs S [.p (.int i)] = some (.p (.int (if i < 0 then -i else i)), S) := rfl
theorem e_int (i : Int) : fInt S [.p (.int i)] = some (.p (.int i), S) := rfl
theorem e_intB (b : Bool) : fInt S [.p (.bool b)] = some (.p (.int (if b then 1 else 0)), S) := rfl
theorem e_lenT (ds : List PyData) : fLen S [.p (.tuple ds)] = some (.p (.int ds.length), S) := rfl
theorem e_lenL (ds : List PyData) : fLen S [.p (.list ds)] = some (.p (.int ds.length), S) := rfl
theorem e_lenN (ns : List Int) : fLen S [.s ns] = some (.p (.int ns.length), S) := rfl
theorem e_lenS (x : Str) (h : x.length ≤ lim) : fLen S [.p (.str x)] = some (.p (.int x.length), S) := if_pos h
theorem atI_map {α β : Type} (f : α → β) (xs : List α) (i : Int) : L2.atI (xs.map f) i = (L2.atI xs i).map f := by
  unfold L2.atI
  rw [List.length_map]
  cases L2.ixN xs.length i with
  | none => rfl
  | some j => simp
theorem e_ixT (ds : List PyData) (i : Int) : fIx S (.p (.tuple ds)) (.p (.int i)) = (L2.atI ds i).map fun d => (.p d, S) := by
  show (L2.atI (ds.map W.p) i).map _ = _
  rw [atI_map]
  cases L2.atI ds i <;> rfl
theorem e_ixL (ds : List PyData) (i : Int) : fIx S (.p (.list ds)) (.p (.int i)) = (L2.atI ds i).map fun d => (.p d, S) := by
  show (L2.atI (ds.map W.p) i).map _ = _
  rw [atI_map]
  cases L2.atI ds i <;> rfl
theorem atI_ok {α : Type} {xs : List α} {z : Nat} {x : α} (h : xs[z]? = some x) : L2.atI xs (z : Int) = some x := by
  have hl := (List.getElem?_eq_some_iff.mp h).1
  unfold L2.atI L2.ixN
  rw [if_pos (by omega), if_pos (by omega)]
  simpa using h
theorem mkL (ds : List PyData) (h : ds.length ≤ lim) : mkLst false (ds.map W.p) S = .ok (.p (.list ds)) S := by
  unfold mkLst
  rw [List.length_map, if_pos h]
  have : deP (ds.map W.p) = some ds := by
    clear h
    induction ds with
    | nil => rfl
    | cons d r ih => simp only [List.map_cons, deP, ih, Option.map]
  simp [this]
theorem deP_map : ∀ ds : List PyData, deP (ds.map W.p) = some ds
  | [] => rfl
  | d :: r => by simp only [List.map_cons, deP, deP_map r, Option.map]
theorem mkT (ds : List PyData) (h : ds.length ≤ lim) : mkTup (ds.map W.p) S = .ok (.p (.tuple ds)) S := by
  unfold mkTup
  rw [List.length_map, if_pos h, deP_map]
theorem trub (b : Bool) : tru S (.p (.bool b)) = some b := rfl
end
section
variable {s : Spg} {R : Sto}
theorem spr_0 : (Spr s R)[0]? = some (.l (s.cs.map fun i => .p (.int i))) := rfl
theorem spr_1 : (Spr s R)[1]? = some (.l [.r 0, .p (.int s.m)]) := rfl
theorem spr_ix0 : fIx (Spr s R) (.r 1) (.p (.int 0)) = some (.r 0, Spr s R) := rfl
theorem spr_ix1 : fIx (Spr s R) (.r 1) (.p (.int 1)) = some (.p (.int s.m), Spr s R) := rfl
theorem spr_ne : fNe (Spr s R) (.r 0) (.p (.list [])) = some (.p (.bool (!s.cs.isEmpty)), Spr s R) := by
  have e : pu (Spr s R) (.r 0) = some (.list (s.cs.map PyData.int)) := by
    show (mapO (puN 2 (Spr s R)) (s.cs.map fun i => W.p (.int i))).map PyData.list = _
    rw [ints_w, mapO_p]
    rfl
  have e2 : pu (Spr s R) (.p (.list [])) = some (.list []) := rfl
  have e3 : shapedB (.list (s.cs.map PyData.int)) = true := by
    unfold shapedB SeqAt.shaped
    have := depth_ints s.cs
    simp [PyData.canLay0, canLay_ints, PyData.depth]
    omega
  unfold fNe
  rw [e, e2]
  dsimp only
  rw [e3, if_pos (by simp [shapedB, SeqAt.shaped, PyData.canLay0, PyData.canLayAll0, PyData.depth, PyData.depthAll])]
  unfold b2
  cases s.cs <;> rfl
end
theorem mkL0 {S : Sto} : mkLst false [] S = .ok (.p (.list [])) S := rfl
theorem drop_ok {T : List Fd} {k i : Nat} {s : Spg} {R : Sto} {many : Int} (h : T[i]? = some fx_law_drop) (hm : 0 < many) (hm2 : many < 2 ^ 64) (hc : CloR R) {Q : W → Sto → Prop} {E : Xc → Sto → Prop}
    (q : ∀ (z : Nat) s', (z : Int) < many → Q (.p (.int z)) (Spr s' R)) : Ok (callN T (k + 1) i [.r 1, .p (.int many)] (Spr s R)) Q E := by
  refine Ok_call h rfl ?_
  have q' : ∀ (z : Int) s', Ok (if true then sweep (Spr s R).length (.p (.int (z % many))) (Spr s' R) else .ok (.p (.int (z % many))) (Spr s' R)) Q E := fun z s' => by
    have h1 := Int.emod_nonneg z (show many ≠ 0 by omega)
    have h2 := Int.emod_lt_of_pos z hm
    have := q (z % many).toNat s' (by omega)
    rw [Int.toNat_of_nonneg h1] at this
    exact Ok_end0 (clo_spr hc) rfl rfl this
  simp only [fx_law_drop, bx_law_drop, So_cs, So_nl, So_then, So_ite, So_nx, So_ret, So_bk, So_ct, evS, evE, evEs, evT, evTa, evTo, evAn, evOr, evAs, evP, evI, Ok_bind, Ok_ok, Ok_bad, Ok_some, Ok_bs, Ok_ite, asgT, asgR, asgT.asgTs, setAll, wipeT, biF, meF, binF, cmpF, bl?, List.getElem?_cons_zero, List.getElem?_cons_succ, List.set_cons_zero, List.set_cons_succ, List.map_cons, List.map_nil, List.replicate_succ, List.replicate_zero, List.cons_append, List.nil_append, Nat.sub_self, Nat.reduceSub, Nat.reduceAdd]
  refine So_whl (I := fun j τ S => ∃ (s : Spg) (x : Option W), j = s.cs.length ∧ τ = [some (.r 1), some (.p (.int many)), x] ∧ S = Spr s R) (k := s.cs.length) (by have := s.le; unfold fuel; omega) ⟨s, _, rfl, rfl, rfl⟩ ?_
  rintro j τ S ⟨s', x, rfl, rfl, rfl⟩
  simp only [So_cs, So_nl, So_then, So_ite, So_nx, So_ret, So_bk, So_ct, evS, evE, evEs, evT, evTa, evTo, evAn, evOr, evAs, evP, evI, Ok_bind, Ok_ok, Ok_bad, Ok_some, Ok_bs, Ok_ite, asgT, asgR, asgT.asgTs, setAll, wipeT, biF, meF, binF, cmpF, bl?, List.getElem?_cons_zero, List.getElem?_cons_succ, List.set_cons_zero, List.set_cons_succ, List.map_cons, List.map_nil, List.replicate_succ, List.replicate_zero, List.cons_append, List.nil_append, Nat.sub_self, Nat.reduceSub, Nat.reduceAdd, spr_ix0, mkL0, spr_ne, trub]
  obtain ⟨cs, m, hle⟩ := s'
  cases cs with
  | nil =>
    simp only [List.isEmpty_nil, Bool.not_true, Bool.false_eq_true, if_false]
    simp only [bx_law_drop_1, So_cs, So_nl, So_then, So_ite, So_nx, So_ret, So_bk, So_ct, evS, evE, evEs, evT, evTa, evTo, evAn, evOr, evAs, evP, evI, Ok_bind, Ok_ok, Ok_bad, Ok_some, Ok_bs, Ok_ite, asgT, asgR, asgT.asgTs, setAll, wipeT, biF, meF, binF, cmpF, bl?, List.getElem?_cons_zero, List.getElem?_cons_succ, List.set_cons_zero, List.set_cons_succ, List.map_cons, List.map_nil, List.replicate_succ, List.replicate_zero, List.cons_append, List.nil_append, Nat.sub_self, Nat.reduceSub, Nat.reduceAdd, spr_ix1, e_add, e_int]
    have e : ∀ j : Int, fSet (Spr ⟨[], m, hle⟩ R) (.r 1) (.p (.int 1)) (.p (.int j)) = some (Spr ⟨[], j, hle⟩ R) := fun _ => rfl
    rw [e_mul _ _ (by simp [small]), Ok_some, e_add, Ok_some, e_int, Ok_some, e_mod _ _ (by decide), Ok_some, e, So_nx]
    simp only [So_cs, So_nl, So_then, So_ite, So_nx, So_ret, So_bk, So_ct, evS, evE, evEs, evT, evTa, evTo, evAn, evOr, evAs, evP, evI, Ok_bind, Ok_ok, Ok_bad, Ok_some, Ok_bs, Ok_ite, asgT, asgR, asgT.asgTs, setAll, wipeT, biF, meF, binF, cmpF, bl?, List.getElem?_cons_zero, List.getElem?_cons_succ, List.set_cons_zero, List.set_cons_succ, List.map_cons, List.map_nil, List.replicate_succ, List.replicate_zero, List.cons_append, List.nil_append, Nat.sub_self, Nat.reduceSub, Nat.reduceAdd, spr_ix1]
    rw [e_div _ _ (by decide), Ok_some, e_int, Ok_some, e_mod _ _ hm, Ok_some]
    exact q' _ _
  | cons c cs =>
    simp only [List.isEmpty_cons, Bool.not_false, if_true, bx_law_drop_3, So_cs, So_nl, So_then, So_ite, So_nx, So_ret, So_bk, So_ct, evS, evE, evEs, evT, evTa, evTo, evAn, evOr, evAs, evP, evI, Ok_bind, Ok_ok, Ok_bad, Ok_some, Ok_bs, Ok_ite, asgT, asgR, asgT.asgTs, setAll, wipeT, biF, meF, binF, cmpF, bl?, List.getElem?_cons_zero, List.getElem?_cons_succ, List.set_cons_zero, List.set_cons_succ, List.map_cons, List.map_nil, List.replicate_succ, List.replicate_zero, List.cons_append, List.nil_append, Nat.sub_self, Nat.reduceSub, Nat.reduceAdd, spr_ix0]
    have e1 : fIx (Spr ⟨c :: cs, m, hle⟩ R) (.r 0) (.p (.int 0)) = some (.p (.int c), Spr ⟨c :: cs, m, hle⟩ R) := by
      unfold fIx
      simp only [items, spr_0]
      simp [L2.atI, L2.ixN]
    simp only [e1, Ok_some, e_int, e_gt, trub, Ok_bs, decide_eq_true_eq]
    split
    · rename_i hc0
      have e : ∀ j : Int, fSet (Spr ⟨c :: cs, m, hle⟩ R) (.r 0) (.p (.int 0)) (.p (.int j)) = some (Spr ⟨j :: cs, m, hle⟩ R) := fun j => by
        unfold fSet
        simp only [spr_0]
        simp [L2.ixN, Spr]
      rw [e_div _ _ ⟨hm, hm2⟩, Ok_some, spr_ix0, Ok_some, e, So_nx]
      simp only [So_cs, So_nl, So_then, So_ite, So_nx, So_ret, So_bk, So_ct, evS, evE, evEs, evT, evTa, evTo, evAn, evOr, evAs, evP, evI, Ok_bind, Ok_ok, Ok_bad, Ok_some, Ok_bs, Ok_ite, asgT, asgR, asgT.asgTs, setAll, wipeT, biF, meF, binF, cmpF, bl?, List.getElem?_cons_zero, List.getElem?_cons_succ, List.set_cons_zero, List.set_cons_succ, List.map_cons, List.map_nil, List.replicate_succ, List.replicate_zero, List.cons_append, List.nil_append, Nat.sub_self, Nat.reduceSub, Nat.reduceAdd, e_int]
      rw [e_mod _ _ hm, Ok_some]
      exact q' _ _
    · have e : fPopAt (Spr ⟨c :: cs, m, hle⟩ R) (.r 0) [.p (.int 0)] = some (.p (.int c), Spr ⟨cs, m, Nat.le_of_succ_le hle⟩ R) := by
        unfold fPopAt
        simp only [spr_0]
        have hx : ¬ ((cs.length : Int) + 1 ≤ 0) := by omega
        have hq : (c :: cs).length ≤ lim := Nat.le_trans hle (by decide)
        simp at hq
        simp [L2.ixN, Spr, hq]
      simp only [bx_law_drop_2, So_cs, So_nl, So_then, So_ite, So_nx, So_ret, So_bk, So_ct, evS, evE, evEs, evT, evTa, evTo, evAn, evOr, evAs, evP, evI, Ok_bind, Ok_ok, Ok_bad, Ok_some, Ok_bs, Ok_ite, asgT, asgR, asgT.asgTs, setAll, wipeT, biF, meF, binF, cmpF, bl?, List.getElem?_cons_zero, List.getElem?_cons_succ, List.set_cons_zero, List.set_cons_succ, List.map_cons, List.map_nil, List.replicate_succ, List.replicate_zero, List.cons_append, List.nil_append, Nat.sub_self, Nat.reduceSub, Nat.reduceAdd, spr_ix0, e]
      rw [if_pos (show meOk MI.popAt (Spr ⟨c :: cs, m, hle⟩ R) (.r 0) = true from rfl)]
      exact ⟨_, Nat.lt_succ_self _, ⟨cs, m, Nat.le_of_succ_le hle⟩, _, rfl, rfl, rfl⟩
theorem cut_to {α : Type} (xs : List α) (n : Nat) : cutL xs none (some (n : Int)) = xs.take n := by
  unfold cutL
  rw [HT.sIx_none, HT.sIx_nat, List.drop_zero, Nat.sub_zero]
  rcases Nat.le_total n xs.length with h | h
  · rw [Nat.min_eq_left h]
  · rw [Nat.min_eq_right h, List.take_of_length_le (Nat.le_refl _), List.take_of_length_le h]
theorem spring_ok {T : List Fd} {k i : Nat} {ns : List Int} (h : T[i]? = some fx_law_spring) (hl : ns.length ≤ 63) {Q : W → Sto → Prop} {E : Xc → Sto → Prop}
    (q : ∀ s, Q (.r 1) (Spr s [])) : Ok (callN T (k + 1) i [.s ns] []) Q E := by
  refine Ok_call h rfl ?_
  have eS : fSl none (some 60) [] (.s ns) = some (.p (.list ((ns.take 60).map PyData.int)), []) := by
    show some (W.p (.list (cutL (ns.map PyData.int) none (some ((60 : Nat) : Int)))), ([] : Sto)) = _
    rw [cut_to, List.map_take]
  have eI : ∀ S : Sto, items S (.p (.list ((ns.take 60).map PyData.int))) = some (false, ((ns.take 60).map PyData.int).map W.p) := fun _ => rfl
  simp only [fx_law_spring, bx_law_spring, So_cs, So_nl, So_then, So_ite, So_nx, So_ret, So_bk, So_ct, evS, evE, evEs, evT, evTa, evTo, evAn, evOr, evAs, evP, evI, Ok_bind, Ok_ok, Ok_bad, Ok_some, Ok_bs, Ok_ite, asgT, asgR, asgT.asgTs, setAll, wipeT, biF, meF, binF, cmpF, bl?, List.getElem?_cons_zero, List.getElem?_cons_succ, List.set_cons_zero, List.set_cons_succ, List.map_cons, List.map_nil, List.replicate_succ, List.replicate_zero, List.cons_append, List.nil_append, Nat.sub_self, Nat.reduceSub, Nat.reduceAdd, e_lenN, e_add, eS, eI, still, if_true]
  refine So_forP (I := fun τ S => ∃ (m : Int) (x : Option W), τ = [some (.s ns), some (.p (.int m)), x] ∧ S = []) ⟨_, _, rfl, rfl⟩ ?_ ?_
  · rintro r τ S hr ⟨m, x, rfl, rfl⟩
    simp only [List.mem_map, List.map_map] at hr
    obtain ⟨c, hc, rfl⟩ := hr
    simp only [Function.comp, bx_law_spring_2, So_cs, So_nl, So_then, So_ite, So_nx, So_ret, So_bk, So_ct, evS, evE, evEs, evT, evTa, evTo, evAn, evOr, evAs, evP, evI, Ok_bind, Ok_ok, Ok_bad, Ok_some, Ok_bs, Ok_ite, asgT, asgR, asgT.asgTs, setAll, wipeT, biF, meF, binF, cmpF, bl?, List.getElem?_cons_zero, List.getElem?_cons_succ, List.set_cons_zero, List.set_cons_succ, List.map_cons, List.map_nil, List.replicate_succ, List.replicate_zero, List.cons_append, List.nil_append, Nat.sub_self, Nat.reduceSub, Nat.reduceAdd, e_abs, e_lt, e_intB]
    rw [e_mul _ _ (by simp [small]), Ok_some, e_add, Ok_some, e_mul _ _ (by simp [small]), Ok_some, e_add, Ok_some, e_int, Ok_some, e_mod _ _ (by decide), Ok_some]
    exact ⟨_, _, rfl, rfl⟩
  · rintro τ S ⟨m, x, rfl, rfl⟩
    simp only [bx_law_spring_1, So_cs, So_nl, So_then, So_ite, So_nx, So_ret, So_bk, So_ct, evS, evE, evEs, evT, evTa, evTo, evAn, evOr, evAs, evP, evI, Ok_bind, Ok_ok, Ok_bad, Ok_some, Ok_bs, Ok_ite, asgT, asgR, asgT.asgTs, setAll, wipeT, biF, meF, binF, cmpF, bl?, List.getElem?_cons_zero, List.getElem?_cons_succ, List.set_cons_zero, List.set_cons_succ, List.map_cons, List.map_nil, List.replicate_succ, List.replicate_zero, List.cons_append, List.nil_append, Nat.sub_self, Nat.reduceSub, Nat.reduceAdd, eS, eI, still, if_true]
    refine Ok_lc (I := fun pre acc S => S = [] ∧ ∃ cs : List Int, acc = cs.map (fun i => W.p (.int i)) ∧ cs.length ≤ pre.length) ⟨rfl, [], rfl, Nat.le_refl _⟩ ?_ ?_
    · rintro pre r post acc S e ⟨rfl, cs, rfl, hcs⟩
      have hr : r ∈ (((ns.take 60).map PyData.int).map W.p).map Row.one := by rw [e]; simp
      simp only [List.mem_map, List.map_map] at hr
      obtain ⟨c, hc, rfl⟩ := hr
      have eP : fPow ([] : Sto) (.p (.int 10)) (.p (.int 18)) = some (.p (.int (10 ^ 18)), []) := rfl
      simp only [Function.comp, So_cs, So_nl, So_then, So_ite, So_nx, So_ret, So_bk, So_ct, evS, evE, evEs, evT, evTa, evTo, evAn, evOr, evAs, evP, evI, Ok_bind, Ok_ok, Ok_bad, Ok_some, Ok_bs, Ok_ite, asgT, asgR, asgT.asgTs, setAll, wipeT, biF, meF, binF, cmpF, bl?, List.getElem?_cons_zero, List.getElem?_cons_succ, List.set_cons_zero, List.set_cons_succ, List.map_cons, List.map_nil, List.replicate_succ, List.replicate_zero, List.cons_append, List.nil_append, Nat.sub_self, Nat.reduceSub, Nat.reduceAdd, e_abs, eP, e_ge, trub]
      generalize (if c < 0 then -c else c) = c'
      split
      · exact ⟨trivial, cs ++ [c'], by simp, by simp; omega⟩
      · exact ⟨trivial, cs, by simp, by simp; omega⟩
    · rintro acc S ⟨rfl, cs, rfl, hcs⟩
      have hcs : cs.length ≤ 63 := by
        simp at hcs
        omega
      have hlim : cs.length ≤ lim := Nat.le_trans hcs (by decide)
      have e1 : mkLst true (cs.map (fun i => W.p (.int i))) [] = .ok (.r 0) [.l (cs.map fun i => W.p (.int i))] := by
        unfold mkLst
        rw [List.length_map, if_pos hlim]
        rfl
      rw [e1, Ok_ok]
      exact q ⟨cs, m, hcs⟩
theorem pick_ok {T : List Fd} {k i iD : Nat} {s : Spg} {R : Sto} {w : W} {ds : List PyData} (hD : T[iD]? = some fx_law_drop) (h : T[i]? = some (fx_law_pick iD)) (hw : w = .p (.list ds) ∨ w = .p (.tuple ds)) (h0 : ds ≠ []) (h1 : ds.length ≤ 1000) (hc : CloR R) {Q : W → Sto → Prop} {E : Xc → Sto → Prop}
    (q : ∀ d s', d ∈ ds → Q (.p d) (Spr s' R)) : Ok (callN T (k + 2) i [.r 1, w] (Spr s R)) Q E := by
  refine Ok_call h rfl ?_
  have hp : 0 < ds.length := List.length_pos_iff.mpr h0
  have eL : fLen (Spr s R) [w] = some (.p (.int ds.length), Spr s R) := by rcases hw with rfl | rfl <;> rfl
  have eX : ∀ (s' : Spg) (z : Nat) (d : PyData), ds[z]? = some d → fIx (Spr s' R) w (.p (.int z)) = some (.p d, Spr s' R) := fun s' z d hz => by
    rcases hw with rfl | rfl
    · rw [e_ixL, atI_ok hz]; rfl
    · rw [e_ixT, atI_ok hz]; rfl
  simp only [fx_law_pick, bx_law_pick, So_cs, So_nl, So_then, So_ite, So_nx, So_ret, So_bk, So_ct, evS, evE, evEs, evT, evTa, evTo, evAn, evOr, evAs, evP, evI, Ok_bind, Ok_ok, Ok_bad, Ok_some, Ok_bs, Ok_ite, asgT, asgR, asgT.asgTs, setAll, wipeT, biF, meF, binF, cmpF, bl?, List.getElem?_cons_zero, List.getElem?_cons_succ, List.set_cons_zero, List.set_cons_succ, List.map_cons, List.map_nil, List.replicate_succ, List.replicate_zero, List.cons_append, List.nil_append, Nat.sub_self, Nat.reduceSub, Nat.reduceAdd, eL]
  refine drop_ok hD (by omega) (by omega) hc fun z s' hz => ?_
  have hz' : z < ds.length := by omega
  rw [eX s' z ds[z] (List.getElem?_eq_getElem hz'), Ok_some]
  exact Ok_end0 (clo_spr hc) rfl rfl (q _ _ (List.getElem_mem hz'))
end Pv
end

section
set_option maxRecDepth 10000
set_option maxHeartbeats 4000000
namespace Pv
open PySem PySem.Spec L2
open PyProof.Rows hiding St

/-! ## how data show -/
theorem so_iff {x : Str} : PyData.strOk x = true ↔ ∀ c ∈ x.cps.toList, c < 0x110000 := by
  unfold PyData.strOk
  rw [Array.all_eq_true_iff_forall_mem]
  simp
theorem so_app {a b : Str} (ha : PyData.strOk a = true) (hb : PyData.strOk b = true) : PyData.strOk (a ++ b) = true := by
  rw [so_iff] at *
  intro c hc
  have e : (a ++ b).cps = a.cps ++ b.cps := rfl
  rw [e, Array.toList_append] at hc
  rcases List.mem_append.mp hc with q | q
  · exact ha c q
  · exact hb c q
theorem so_ofS (x : String) : PyData.strOk (Str.ofString x) = true := by
  rw [so_iff]
  intro c hc
  have e : (Str.ofString x).cps.toList = x.toList.map Char.toNat := by rw [Str.ofString_eq_toList]
  rw [e] at hc
  obtain ⟨d, _, rfl⟩ := List.mem_map.mp hc
  have := d.valid
  have h2 : d.toNat < 0x110000 := by
    rcases this with h | h
    · have : d.val.toNat < 0xd800 := h
      show d.val.toNat < _
      omega
    · exact h.2
  exact h2
theorem so_char {q c : Nat} (hq : q < 0x110000) (hc : c < 0x110000) : ∀ x ∈ Builtin.Str.reprChar q c, x < 0x110000 := by
  intro x hx
  have hx16 : ∀ w : Nat, x ∈ List.replicate w 48 ++ (Nat.toDigits 16 c).map Char.toNat → x < 0x110000 := by
    intro w h
    rcases List.mem_append.mp h with p | p
    · have := List.eq_of_mem_replicate p
      omega
    · obtain ⟨d, _, rfl⟩ := List.mem_map.mp p
      rcases d.valid with h | h
      · have : d.val.toNat < 0xd800 := h
        show d.val.toNat < _
        omega
      · exact h.2
  unfold Builtin.Str.reprChar at hx
  dsimp only at hx
  split at hx
  · simp at hx; omega
  split at hx
  · simp at hx; omega
  split at hx
  · simp at hx; omega
  split at hx
  · simp at hx; omega
  split at hx
  · simp at hx; omega
  split at hx
  · rcases List.mem_append.mp hx with p | p
    · simp at p; omega
    · exact hx16 _ p
  split at hx
  · rcases List.mem_append.mp hx with p | p
    · simp at p; omega
    · exact hx16 _ p
  · rcases List.mem_append.mp hx with p | p
    · simp at p; omega
    · exact hx16 _ p
theorem so_repr {x : Str} (h : PyData.strOk x = true) : PyData.strOk (reprText x) = true := by
  rw [so_iff] at h ⊢
  have hq : reprQuote x < 0x110000 := by
    unfold reprQuote
    split <;> omega
  have key : ∀ (l : List Nat) (acc : Array Nat), (∀ c ∈ l, c < 0x110000) → (∀ c ∈ acc.toList, c < 0x110000) → ∀ c ∈ (l.foldl (fun out c => out ++ (Builtin.Str.reprChar (reprQuote x) c).toArray) acc).toList, c < 0x110000 := by
    intro l
    induction l with
    | nil => intro acc _ h2; exact h2
    | cons a r ih =>
      intro acc h1 h2
      refine ih _ (fun c hc => h1 c (List.mem_cons_of_mem _ hc)) fun c hc => ?_
      rw [Array.toList_append] at hc
      rcases List.mem_append.mp hc with p | p
      · exact h2 c p
      · exact so_char hq (h1 a (List.mem_cons_self ..)) c (by simpa using p)
  intro c hc
  unfold reprText at hc
  rw [Array.toList_push, ← Array.foldl_toList] at hc
  rcases List.mem_append.mp hc with p | p
  · refine key _ _ h (fun c hc => ?_) c p
    simp at hc
    omega
  · simp at p
    omega
theorem so_textFrom : ∀ (ts : List Str) (k : Nat) (acc : Str), PyData.strOk acc = true → (∀ t ∈ ts, PyData.strOk t = true) → PyData.strOk (textFrom k acc ts) = true
  | [], _, _, h, _ => h
  | t :: ts, k, acc, h, g => so_textFrom ts (k + 1) _ (so_app (so_app h (by split <;> exact so_ofS _)) (g t (List.mem_cons_self ..))) fun u hu => g u (List.mem_cons_of_mem _ hu)
theorem so_list {ts : List Str} (h : ∀ t ∈ ts, PyData.strOk t = true) : PyData.strOk (listText ts) = true := so_app (so_textFrom ts 0 _ (so_ofS _) h) (so_ofS _)
theorem so_join {sep : Str} (hs : PyData.strOk sep = true) : ∀ {ts : List Str}, (∀ t ∈ ts, PyData.strOk t = true) → PyData.strOk (Str.join sep ts) = true
  | [], _ => by rw [so_iff]; intro c hc; exact absurd hc (by simp [Str.join, Str.empty])
  | [x], h => h x (List.mem_cons_self ..)
  | x :: y :: r, h => so_app (so_app (h x (List.mem_cons_self ..)) hs) (so_join hs fun t ht => h t (List.mem_cons_of_mem _ ht))
theorem so_tuple {ts : List Str} (h : ∀ t ∈ ts, PyData.strOk t = true) : PyData.strOk (tupleText ts) = true := so_app (so_app (so_ofS _) (so_join (so_ofS _) h)) (by split <;> exact so_ofS _)
/-- a datum of at most so much, so deep, that shows -/
structure Fit (w n : Nat) (d : PyData) : Prop where
  ls : d.leavesShort 50 = true
  we : d.weight ≤ w
  de : d.depth ≤ n
  sh : d.showable = true
  so : PyData.strOk d.shown = true
theorem Fit.mono {w n w' n' : Nat} {d : PyData} (h : Fit w n d) (h1 : w ≤ w') (h2 : n ≤ n') : Fit w' n' d := ⟨h.ls, Nat.le_trans h.we h1, Nat.le_trans h.de h2, h.sh, h.so⟩
theorem Fit.none {w n : Nat} : Fit w n .none := ⟨rfl, Nat.zero_le _, Nat.zero_le _, rfl, so_ofS _⟩
theorem Fit.bool {w n : Nat} (b : Bool) : Fit w n (.bool b) := ⟨rfl, Nat.zero_le _, Nat.zero_le _, rfl, by cases b <;> exact so_ofS _⟩
theorem Fit.str {w n : Nat} {x : Str} (h : PyData.strOk x = true) (hl : x.length ≤ w) : Fit w n (.str x) := by
  refine ⟨?_, hl, Nat.zero_le _, rfl, so_repr h⟩
  rw [so_iff] at h
  simp only [PyData.leavesShort, List.all_eq_true, decide_eq_true_eq]
  intro c hc
  have := h c hc
  have e : (16 : Nat) ^ 8 = 4294967296 := by decide
  omega
theorem Fit.int {w n : Nat} {i : Int} (h : i.natAbs < 10 ^ 48) (hw : 160 ≤ w) : Fit w n (.int i) := by
  have e10 : (10 : Nat) ^ 48 ≤ 2 ^ 160 := by decide
  have hlog : i.natAbs.log2 < 160 := by
    rcases Nat.eq_zero_or_pos i.natAbs with q | q
    · rw [q]; decide
    · exact (Nat.log2_lt (by omega)).mpr (by omega)
  refine ⟨?_, ?_, Nat.zero_le _, ?_, so_ofS _⟩
  · simp only [PyData.leavesShort, decide_eq_true_eq]
    have e := int_text_length_le10 (k := 48) (by decide) h
    show (Str.ofString (toString i)).length ≤ 50
    rw [PySem.ofString_length]
    omega
  · show (if (i == 0) = true then 0 else i.natAbs.log2 + 1) ≤ w
    split <;> omega
  · simp only [PyData.showable, decide_eq_true_eq]
    omega
theorem fit_all {w n : Nat} : ∀ {ds : List PyData}, (∀ d ∈ ds, Fit w n d) → PyData.leavesShortAll 50 ds = true ∧ PyData.weightAll ds ≤ ds.length * (w + 1) ∧ PyData.depthAll ds ≤ n ∧ PyData.showableAll ds = true ∧ ∀ t ∈ PyData.shownAll ds, PyData.strOk t = true
  | [], _ => ⟨rfl, Nat.zero_le _, Nat.zero_le _, rfl, fun t h => nomatch h⟩
  | d :: r, h => by
    obtain ⟨a1, a2, a3, a4, a5⟩ := fit_all fun x hx => h x (List.mem_cons_of_mem _ hx)
    have hd := h d (List.mem_cons_self ..)
    refine ⟨by simp [PyData.leavesShortAll, a1, hd.ls], ?_, ?_, by simp [PyData.showableAll, a4, hd.sh], fun t ht => ?_⟩
    · have := hd.we
      simp only [PyData.weightAll, List.length_cons, Nat.succ_mul]
      omega
    · have := hd.de
      simp only [PyData.depthAll]
      omega
    · simp only [PyData.shownAll, List.mem_cons] at ht
      rcases ht with rfl | ht
      · exact hd.so
      · exact a5 t ht
theorem Fit.tuple {w n m : Nat} {ds : List PyData} (h : ∀ d ∈ ds, Fit w n d) (hm : ds.length ≤ m) : Fit (m * (w + 1)) (n + 1) (.tuple ds) := by
  obtain ⟨a1, a2, a3, a4, a5⟩ := fit_all h
  exact ⟨by simpa only [PyData.leavesShort] using a1, Nat.le_trans (by simpa only [PyData.weight] using a2) (Nat.mul_le_mul_right _ hm), by simpa only [PyData.depth] using Nat.succ_le_succ a3, by simpa only [PyData.showable] using a4, by simpa only [PyData.shown] using so_tuple a5⟩
theorem Fit.list {w n m : Nat} {ds : List PyData} (h : ∀ d ∈ ds, Fit w n d) (hm : ds.length ≤ m) : Fit (m * (w + 1)) (n + 1) (.list ds) := by
  obtain ⟨a1, a2, a3, a4, a5⟩ := fit_all h
  exact ⟨by simpa only [PyData.leavesShort] using a1, Nat.le_trans (by simpa only [PyData.weight] using a2) (Nat.mul_le_mul_right _ hm), by simpa only [PyData.depth] using Nat.succ_le_succ a3, by simpa only [PyData.showable] using a4, by simpa only [PyData.shown] using so_list a5⟩
theorem Fit.len {w n : Nat} {d : PyData} (h : Fit w n d) : d.shown.length ≤ 52 * w + 50 := by
  have := PyData.shown_le 50 (by decide) d h.ls
  have h2 := Nat.mul_le_mul_left 52 h.we
  omega
theorem e_repr {S : Sto} {w n : Nat} {x : W} {d : PyData} (hx : pu S x = some d) (h : Fit w n d) (hw : w ≤ 150000) (hn : n ≤ 60) : fRepr S [x] = some (.p (.str d.shown), S) := by
  unfold fRepr
  dsimp only
  rw [hx]
  dsimp only
  have h1 := h.len
  have h2 := h.de
  rw [h.sh, decide_eq_true (show d.shown.length ≤ lim by unfold lim; omega), decide_eq_true (show d.depth ≤ 60 by omega)]
  rfl
/-! ## equality of texts -/
theorem sh_str {x : Str} (h : PyData.strOk x = true) : shapedB (.str x) = true := by simp [shapedB, SeqAt.shaped, PyData.canLay0, h, PyData.depth]
theorem sh_all {ds : List PyData} (h : ∀ d ∈ ds, shapedB d = true ∧ d.depth ≤ 63) : PyData.canLayAll0 ds = true ∧ PyData.depthAll ds ≤ 63 := by
  induction ds with
  | nil => exact ⟨rfl, Nat.zero_le _⟩
  | cons d r ih =>
    obtain ⟨a1, a2⟩ := ih fun x hx => h x (List.mem_cons_of_mem _ hx)
    obtain ⟨b1, b2⟩ := h d (List.mem_cons_self ..)
    have b3 : d.canLay0 = true := (Bool.and_eq_true_iff.mp b1).1
    refine ⟨by simp [PyData.canLayAll0, a1, b3], ?_⟩
    simp only [PyData.depthAll]
    omega
theorem sh_tuple {ds : List PyData} (h : ∀ d ∈ ds, shapedB d = true ∧ d.depth ≤ 63) : shapedB (.tuple ds) = true := by
  obtain ⟨a1, a2⟩ := sh_all h
  simp [shapedB, SeqAt.shaped, PyData.canLay0, a1, PyData.depth]
  omega
theorem sh_list {ds : List PyData} (h : ∀ d ∈ ds, shapedB d = true ∧ d.depth ≤ 63) : shapedB (.list ds) = true := by
  obtain ⟨a1, a2⟩ := sh_all h
  simp [shapedB, SeqAt.shaped, PyData.canLay0, a1, PyData.depth]
  omega
theorem sh_sh {w n : Nat} {d : PyData} (h : Fit w n d) : shapedB (.str d.shown) = true := sh_str h.so
theorem e_eqD {S : Sto} {x y : W} {a b : PyData} (hx : pu S x = some a) (hy : pu S y = some b) (ha : shapedB a = true) (hb : shapedB b = true) : fEq S x y = some (.p (.bool (PyData.eqv a b)), S) := by
  unfold fEq
  rw [hx, hy]
  dsimp only
  rw [ha, hb]
  rfl
theorem e_neD {S : Sto} {x y : W} {a b : PyData} (hx : pu S x = some a) (hy : pu S y = some b) (ha : shapedB a = true) (hb : shapedB b = true) : fNe S x y = some (.p (.bool (!PyData.eqv a b)), S) := by
  unfold fNe
  rw [hx, hy]
  dsimp only
  rw [ha, hb]
  rfl
theorem pu_p {S : Sto} (d : PyData) : pu S (.p d) = some d := rfl
theorem eqv_str (x y : Str) : PyData.eqv (.str x) (.str y) = decide (x = y) := by
  simp only [PyData.eqv]
  by_cases h : x = y
  · subst h; simp
  · rw [decide_eq_false h]
    simpa using h
end Pv
end

section
set_option maxRecDepth 10000
set_option maxHeartbeats 4000000
namespace Pv
open PySem PySem.Spec L2
open PyProof.Rows hiding St

/-! ## the apps of the first laws -/
structure TapD where
  n : Str
  m : Str
  s : Str
  a : List Str
  b : Str
structure AppD where
  ms : List Str
  ss : List Str
  sm : Str
  sn : Str
  ts : List TapD
def encS (l : List Str) : PyData := .tuple (l.map .str)
def encT (t : TapD) : PyData := .tuple [.str t.n, .str t.m, .str t.s, encS t.a, .str t.b]
def encA (A : AppD) : PyData := .tuple [.str "app", encS A.ms, encS A.ss, .tuple [.str A.sm, .str A.sn], .tuple (A.ts.map encT)]
def ActOk (ss aims a : List Str) : Prop := (∃ x, x ∈ ss ∧ (a = [("open" : Str), x] ∨ a = [("put" : Str), x])) ∨ a = [("back" : Str)] ∨ ∃ x, x ∈ aims ∧ a = [("to" : Str), x]
/-- a for over a mapped list -/
theorem So_forM {β : Type} {f : Row → Tau → Sto → RS} {L : List β} {g : β → Row} {p : Po} (I : List β → Tau → Sto → Prop) {τ : Tau} {S : Sto} (h0 : I [] τ S)
    (hs : ∀ pre x post τ S, L = pre ++ x :: post → I pre τ S → So (f (g x) τ S) { nx := I (pre ++ [x]), rt := p.rt, bk := p.nx, ct := I (pre ++ [x]), ex := p.ex })
    (he : ∀ τ S, I L τ S → p.nx τ S) : So (forLoop f (L.map g) τ S) p := by
  refine So_for (fun done τ S => ∃ pre, done = pre.map g ∧ (∃ post, L = pre ++ post) ∧ I pre τ S) ⟨[], rfl, ⟨L, rfl⟩, h0⟩ ?_ ?_
  · rintro done r post τ S e ⟨pre, rfl, ⟨post', rfl⟩, hI⟩
    rw [List.map_append, List.append_cancel_left_eq] at e
    cases post' with
    | nil => cases e
    | cons x post' =>
      rw [List.map_cons] at e
      obtain ⟨rfl, rfl⟩ := List.cons.inj e
      refine So_mono (hs pre x post' τ S rfl hI) (fun τ S h => ⟨pre ++ [x], by simp, ⟨post', by simp⟩, h⟩) (fun _ _ h => h) (fun τ S h => h) (fun τ S h => ⟨pre ++ [x], by simp, ⟨post', by simp⟩, h⟩) fun _ _ _ h => h
  · rintro τ S ⟨pre, e, ⟨post, rfl⟩, hI⟩
    have : post = [] := by
      have := congrArg List.length e
      simp at this
      exact this
    subst this
    rw [List.append_nil]at he
    exact he τ S hI
theorem act_ok {T : List Fd} {k i iD iP : Nat} {s : Spg} {R : Sto} {ss aims : List Str} (hD : T[iD]? = some fx_law_drop) (hP : T[iP]? = some (fx_law_pick iD)) (h : T[i]? = some (fx_law_act iD iP))
    (h0 : ss ≠ []) (h1 : ss.length ≤ 1000) (g0 : aims ≠ []) (g1 : aims.length ≤ 1000) (hc : CloR R) {Q : W → Sto → Prop} {E : Xc → Sto → Prop}
    (q : ∀ a s', ActOk ss aims a → Q (.p (encS a)) (Spr s' R)) : Ok (callN T (k + 3) i [.r 1, .p (encS ss), .p (.list (aims.map .str))] (Spr s R)) Q E := by
  refine Ok_call h rfl ?_
  have q' : ∀ a s', ActOk ss aims a → Ok (if true then sweep (Spr s R).length (.p (encS a)) (Spr s' R) else .ok (.p (encS a)) (Spr s' R)) Q E := fun a s' ha => Ok_end0 (clo_spr hc) rfl rfl (q a s' ha)
  have mk2 : ∀ (S : Sto) (x y : Str), mkTup [.p (.str x), .p (.str y)] S = .ok (.p (encS [x, y])) S := fun _ _ _ => rfl
  have mk1 : ∀ (S : Sto) (x : Str), mkTup [.p (.str x)] S = .ok (.p (encS [x])) S := fun _ _ => rfl
  simp only [fx_law_act, bx_law_act, So_cs, So_nl, So_then, So_ite, So_nx, So_ret, So_bk, So_ct, evS, evE, evEs, evT, evTa, evTo, evAn, evOr, evAs, evP, evI, Ok_bind, Ok_ok, Ok_bad, Ok_some, Ok_bs, Ok_ite, asgT, asgR, asgT.asgTs, setAll, wipeT, biF, meF, binF, cmpF, bl?, List.getElem?_cons_zero, List.getElem?_cons_succ, List.set_cons_zero, List.set_cons_succ, List.map_cons, List.map_nil, List.replicate_succ, List.replicate_zero, List.cons_append, List.nil_append, Nat.sub_self, Nat.reduceSub, Nat.reduceAdd]
  refine drop_ok hD (by decide) (by decide) hc fun z s1 hz => ?_
  simp only [So_cs, So_nl, So_then, So_ite, So_nx, So_ret, So_bk, So_ct, evS, evE, evEs, evT, evTa, evTo, evAn, evOr, evAs, evP, evI, Ok_bind, Ok_ok, Ok_bad, Ok_some, Ok_bs, Ok_ite, asgT, asgR, asgT.asgTs, setAll, wipeT, biF, meF, binF, cmpF, bl?, List.getElem?_cons_zero, List.getElem?_cons_succ, List.set_cons_zero, List.set_cons_succ, List.map_cons, List.map_nil, List.replicate_succ, List.replicate_zero, List.cons_append, List.nil_append, Nat.sub_self, Nat.reduceSub, Nat.reduceAdd, e_lt, trub, decide_eq_true_eq]
  split
  · refine pick_ok hD hP (.inr rfl) (by simpa using h0) (by simpa using h1) hc fun d s2 hd => ?_
    obtain ⟨x, hx, rfl⟩ := List.mem_map.mp hd
    rw [mk2, Ok_ok]
    exact q' _ _ (.inl ⟨x, hx, .inl rfl⟩)
  · have e3 : fEq (Spr s1 R) (.p (.int z)) (.p (.int 3)) = some (.p (.bool (PyData.eqv (.int z) (.int 3))), Spr s1 R) := e_eqD rfl rfl rfl rfl
    simp only [bx_law_act_2, So_cs, So_nl, So_then, So_ite, So_nx, So_ret, So_bk, So_ct, evS, evE, evEs, evT, evTa, evTo, evAn, evOr, evAs, evP, evI, Ok_bind, Ok_ok, Ok_bad, Ok_some, Ok_bs, Ok_ite, asgT, asgR, asgT.asgTs, setAll, wipeT, biF, meF, binF, cmpF, bl?, List.getElem?_cons_zero, List.getElem?_cons_succ, List.set_cons_zero, List.set_cons_succ, List.map_cons, List.map_nil, List.replicate_succ, List.replicate_zero, List.cons_append, List.nil_append, Nat.sub_self, Nat.reduceSub, Nat.reduceAdd, e3, trub]
    split
    · refine pick_ok hD hP (.inr rfl) (by simpa using h0) (by simpa using h1) hc fun d s2 hd => ?_
      obtain ⟨x, hx, rfl⟩ := List.mem_map.mp hd
      rw [mk2, Ok_ok]
      exact q' _ _ (.inl ⟨x, hx, .inr rfl⟩)
    · simp only [bx_law_act_1, So_cs, So_nl, So_then, So_ite, So_nx, So_ret, So_bk, So_ct, evS, evE, evEs, evT, evTa, evTo, evAn, evOr, evAs, evP, evI, Ok_bind, Ok_ok, Ok_bad, Ok_some, Ok_bs, Ok_ite, asgT, asgR, asgT.asgTs, setAll, wipeT, biF, meF, binF, cmpF, bl?, List.getElem?_cons_zero, List.getElem?_cons_succ, List.set_cons_zero, List.set_cons_succ, List.map_cons, List.map_nil, List.replicate_succ, List.replicate_zero, List.cons_append, List.nil_append, Nat.sub_self, Nat.reduceSub, Nat.reduceAdd, e_lt, trub, decide_eq_true_eq]
      split
      · rw [mk1, Ok_ok]
        exact q' _ _ (.inr (.inl rfl))
      · refine pick_ok hD hP (.inl rfl) (by simpa using g0) (by simpa using g1) hc fun d s2 hd => ?_
        obtain ⟨x, hx, rfl⟩ := List.mem_map.mp hd
        rw [mk2, Ok_ok]
        exact q' _ _ (.inr (.inr ⟨x, hx, rfl⟩))
theorem mkT1 {S : Sto} (a : PyData) : mkTup [.p a] S = .ok (.p (.tuple [a])) S := rfl
theorem mkL1 {S : Sto} (a : PyData) : mkLst false [.p a] S = .ok (.p (.list [a])) S := rfl
theorem mkT2 {S : Sto} (a b : PyData) : mkTup [.p a, .p b] S = .ok (.p (.tuple [a, b])) S := rfl
theorem mkL2 {S : Sto} (a b : PyData) : mkLst false [.p a, .p b] S = .ok (.p (.list [a, b])) S := rfl
theorem mkT3 {S : Sto} (a b c : PyData) : mkTup [.p a, .p b, .p c] S = .ok (.p (.tuple [a, b, c])) S := rfl
theorem mkL3 {S : Sto} (a b c : PyData) : mkLst false [.p a, .p b, .p c] S = .ok (.p (.list [a, b, c])) S := rfl
theorem mkT4 {S : Sto} (a b c d : PyData) : mkTup [.p a, .p b, .p c, .p d] S = .ok (.p (.tuple [a, b, c, d])) S := rfl
theorem mkL4 {S : Sto} (a b c d : PyData) : mkLst false [.p a, .p b, .p c, .p d] S = .ok (.p (.list [a, b, c, d])) S := rfl
theorem mkT5 {S : Sto} (a b c d e : PyData) : mkTup [.p a, .p b, .p c, .p d, .p e] S = .ok (.p (.tuple [a, b, c, d, e])) S := rfl
theorem mkL5 {S : Sto} (a b c d e : PyData) : mkLst false [.p a, .p b, .p c, .p d, .p e] S = .ok (.p (.list [a, b, c, d, e])) S := rfl
theorem mkT6 {S : Sto} (a b c d e f : PyData) : mkTup [.p a, .p b, .p c, .p d, .p e, .p f] S = .ok (.p (.tuple [a, b, c, d, e, f])) S := rfl
theorem mkL6 {S : Sto} (a b c d e f : PyData) : mkLst false [.p a, .p b, .p c, .p d, .p e, .p f] S = .ok (.p (.list [a, b, c, d, e, f])) S := rfl
theorem mkT7 {S : Sto} (a b c d e f g : PyData) : mkTup [.p a, .p b, .p c, .p d, .p e, .p f, .p g] S = .ok (.p (.tuple [a, b, c, d, e, f, g])) S := rfl
theorem mkL7 {S : Sto} (a b c d e f g : PyData) : mkLst false [.p a, .p b, .p c, .p d, .p e, .p f, .p g] S = .ok (.p (.list [a, b, c, d, e, f, g])) S := rfl
theorem mkT8 {S : Sto} (a b c d e f g h : PyData) : mkTup [.p a, .p b, .p c, .p d, .p e, .p f, .p g, .p h] S = .ok (.p (.tuple [a, b, c, d, e, f, g, h])) S := rfl
theorem mkL8 {S : Sto} (a b c d e f g h : PyData) : mkLst false [.p a, .p b, .p c, .p d, .p e, .p f, .p g, .p h] S = .ok (.p (.list [a, b, c, d, e, f, g, h])) S := rfl

theorem mkT0 {S : Sto} : mkTup [] S = .ok (.p (.tuple [])) S := rfl
section
variable {s : Spg} {R : Sto}
theorem spr_len : (Spr s R).length = R.length + 2 := rfl
theorem spr_push {ws : List W} (h : ws.length ≤ lim) : mkLst true ws (Spr s R) = .ok (.r (R.length + 2)) (Spr s (R ++ [.l ws])) := by
  unfold mkLst
  rw [if_pos h]
  rfl
theorem spr_push0 : mkLst true [] (Spr s R) = .ok (.r (R.length + 2)) (Spr s (R ++ [.l []])) := rfl
theorem spr_last {o : Ob} : (Spr s (R ++ [o]))[R.length + 2]? = some o := by
  simp [Spr]
theorem spr_set {o o' : Ob} : (Spr s (R ++ [o])).set (R.length + 2) o' = Spr s (R ++ [o']) := by
  simp [Spr]
theorem spr_app {us : List W} {w : W} (h : us.length ≤ lim) : fAppend (Spr s (R ++ [.l us])) (.r (R.length + 2)) [w] = some (.p .none, Spr s (R ++ [.l (us ++ [w])])) := by
  unfold fAppend
  dsimp only
  rw [spr_last]
  dsimp only
  rw [if_pos h, spr_set]
theorem spr_ext {us : List W} {ds : List PyData} (h : us.length + ds.length ≤ lim) : fExtend (Spr s (R ++ [.l us])) (.r (R.length + 2)) [.p (.list ds)] = some (.p .none, Spr s (R ++ [.l (us ++ ds.map W.p)])) := by
  unfold fExtend
  dsimp only
  rw [spr_last]
  dsimp only
  rw [if_pos h, spr_set]
theorem spr_me {m : MI} {o : Ob} : meOk m (Spr s (R ++ [o])) (.r (R.length + 2)) = true := by
  unfold meOk
  dsimp only
  rw [spr_last]
  rfl
theorem spr_seq {ds : List PyData} : seqP (Spr s (R ++ [.l (ds.map W.p)])) (.r (R.length + 2)) = some (false, ds) := by
  unfold seqP
  dsimp only
  rw [spr_last]
  dsimp only
  rw [deP_map]
  rfl
theorem Ok_endS {J : Sto} {s' : Spg} {d : PyData} {Q : W → Sto → Prop} {E : Xc → Sto → Prop} (h : CloR R) (q : Q (.p d) (Spr s' R)) : Ok (if true then sweep (Spr s R).length (.p d) (Spr s' (R ++ J)) else .ok (.p d) (Spr s' (R ++ J))) Q E :=
  Ok_end (J := J) (clo_spr h) rfl rfl q
theorem Ok_endS0 {s' : Spg} {d : PyData} {Q : W → Sto → Prop} {E : Xc → Sto → Prop} (h : CloR R) (q : Q (.p d) (Spr s' R)) : Ok (if true then sweep (Spr s R).length (.p d) (Spr s' R) else .ok (.p d) (Spr s' R)) Q E :=
  Ok_end0 (clo_spr h) rfl rfl q
end
def poolM : List (List Str) := [["guest", "member"], ["a"], ["day", "night", "zzzzzzzz"], ["a", "ab"]]
def poolS : List (List Str) := [["cart", "home", "list"], ["x"], ["a", "b"], ["b", "bb"], ["a", "aa", "b", "longname"]]
def poolN : List Str := ["back", "go", "more", "x", "zzzzzzzz"]
structure TapOk (ms ss aims : List Str) (t : TapD) : Prop where
  n : t.n ∈ poolN
  m : t.m ∈ ms
  s : t.s ∈ ss
  a : ActOk ss aims t.a
  b : t.b ∈ ms
def tapLe (a b : TapD) : Bool := PySem.W.dataLe false id (encT a) (encT b)
def SameKey (a b : TapD) : Prop := a.n = b.n ∧ a.m = b.m ∧ a.s = b.s
structure GoodA (A : AppD) : Prop where
  ms : A.ms ∈ poolM
  ss : A.ss ∈ poolS
  sm : A.sm ∈ A.ms
  sn : A.sn ∈ A.ss
  ts : ∃ aims : List Str, aims.length = 2 ∧ (∀ x ∈ aims, x ∈ A.ss) ∧ ∀ t ∈ A.ts, TapOk A.ms A.ss aims t
  ord : A.ts.Pairwise fun a b => tapLe a b = true
  ky : A.ts.Pairwise fun a b => ¬ SameKey a b
  len : A.ts.length ≤ 24
theorem alike_str (a b : Str) : PySem.W.alike (.str a) (.str b) = true := by simp [PySem.W.alike]
theorem alike_strs : ∀ a b : List Str, PySem.W.alikeAll (a.map .str) (b.map .str) = true
  | [], _ => by simp [PySem.W.alikeAll]
  | _ :: _, [] => by simp [PySem.W.alikeAll]
  | x :: a, y :: b => by simp [PySem.W.alikeAll, PySem.W.alike, alike_strs a b]
theorem alike_T (a b : TapD) : PySem.W.alike (encT a) (encT b) = true := by simp [encT, encS, PySem.W.alike, PySem.W.alikeAll, alike_strs]
theorem depth_strs : ∀ a : List Str, PyData.depthAll (a.map .str) = 0
  | [] => rfl
  | x :: a => by simp [PyData.depthAll, PyData.depth, depth_strs a]
theorem depth_T (a : TapD) : (encT a).depth = 2 := by simp [encT, encS, PyData.depth, PyData.depthAll, depth_strs]
theorem sortOk_T {U : List TapD} (h : U.length ≤ lim) : sortOk (U.map encT) = true := by
  unfold sortOk
  simp only [Bool.and_eq_true, List.all_eq_true, List.mem_map, Bool.or_eq_true, decide_eq_true_eq]
  refine ⟨⟨⟨?_, .inl ?_⟩, by simpa using h⟩, ?_⟩
  · rintro _ ⟨a, _, rfl⟩ _ ⟨b, _, rfl⟩
    exact alike_T a b
  · rintro _ ⟨a, _, rfl⟩
    rfl
  · rintro _ ⟨a, _, rfl⟩
    rw [depth_T]
    decide
theorem sortD_T (U : List TapD) : sortD (U.map encT) = (U.mergeSort tapLe).map encT := by
  unfold sortD
  rw [List.map_mergeSort (r := tapLe) (s := PySem.W.dataLe false id) (f := encT)]
  intro a _ b _
  rfl
end Pv
end

section
set_option maxRecDepth 10000
set_option maxHeartbeats 4000000
namespace Pv
open PySem PySem.Spec L2
open PyProof.Rows hiding St

theorem poolM_len : ∀ ms ∈ poolM, ms ≠ [] ∧ ms.length ≤ 3 ∧ ms.Nodup := by decide
theorem poolS_len : ∀ ms ∈ poolS, ms ≠ [] ∧ ms.length ≤ 4 ∧ ms.Nodup := by decide
theorem poolN_nd : poolN.Nodup := by decide
theorem cutN {α : Type} (xs : List α) (z : Nat) : cutL xs none (some (z : Int)) = xs.take z := cut_to xs z
theorem app_ok {T : List Fd} {k i iD iP iA : Nat} {s : Spg} {R : Sto} {most : Int} (hD : T[iD]? = some fx_law_drop) (hP : T[iP]? = some (fx_law_pick iD)) (hA : T[iA]? = some (fx_law_act iD iP)) (h : T[i]? = some (fx_law_app iA iD iP))
    (hm : 0 < most) (hm2 : most < 2 ^ 64) (hc : CloR R) {Q : W → Sto → Prop} {E : Xc → Sto → Prop}
    (q : ∀ A s', GoodA A → Q (.p (encA A)) (Spr s' R)) : Ok (callN T (k + 4) i [.r 1, .p (.int most)] (Spr s R)) Q E := by
  refine Ok_call h rfl ?_
  simp only [fx_law_app, bx_law_app, So_cs, So_nl, So_then, So_ite, So_nx, So_ret, So_bk, So_ct, evS, evE, evEs, evT, evTa, evTo, evAn, evOr, evAs, evP, evI, Ok_bind, Ok_ok, Ok_bad, Ok_some, Ok_bs, Ok_ite, asgT, asgR, asgT.asgTs, setAll, wipeT, biF, meF, binF, cmpF, bl?, List.getElem?_cons_zero, List.getElem?_cons_succ, List.set_cons_zero, List.set_cons_succ, List.map_cons, List.map_nil, List.replicate_succ, List.replicate_zero, List.cons_append, List.nil_append, Nat.sub_self, Nat.reduceSub, Nat.reduceAdd, mkT1, mkT2, mkT3, mkT4, mkL4, mkL5]
  refine pick_ok (ds := poolM.map encS) hD hP (.inl rfl) (by decide) (by decide) hc fun d s1 hd => ?_
  obtain ⟨ms, hms, rfl⟩ := List.mem_map.mp hd
  obtain ⟨ms0, ms3, msn⟩ := poolM_len ms hms
  refine pick_ok (ds := poolS.map encS) hD hP (.inl rfl) (by decide) (by decide) hc fun d s2 hd => ?_
  obtain ⟨ss, hss, rfl⟩ := List.mem_map.mp hd
  obtain ⟨ss0, ss4, ssn⟩ := poolS_len ss hss
  have ssm0 : ss.map PyData.str ≠ [] := by simpa using ss0
  have ssm1 : (ss.map PyData.str).length ≤ 1000 := by simp; omega
  have msm0 : ms.map PyData.str ≠ [] := by simpa using ms0
  have msm1 : (ms.map PyData.str).length ≤ 1000 := by simp; omega
  refine pick_ok hD hP (.inr rfl) ssm0 ssm1 hc fun d s3 hd => ?_
  obtain ⟨x1, hx1, rfl⟩ := List.mem_map.mp hd
  refine pick_ok hD hP (.inr rfl) ssm0 ssm1 hc fun d s4 hd => ?_
  obtain ⟨x2, hx2, rfl⟩ := List.mem_map.mp hd
  have eI : ∀ (S : Sto) (l : List Str), items S (.p (encS l)) = some (true, (l.map PyData.str).map W.p) := fun _ _ => rfl
  simp only [mkL2, spr_push0, So_cs, So_nl, So_then, So_ite, So_nx, So_ret, So_bk, So_ct, evS, evE, evEs, evT, evTa, evTo, evAn, evOr, evAs, evP, evI, Ok_bind, Ok_ok, Ok_bad, Ok_some, Ok_bs, Ok_ite, asgT, asgR, asgT.asgTs, setAll, wipeT, biF, meF, binF, cmpF, bl?, List.getElem?_cons_zero, List.getElem?_cons_succ, List.set_cons_zero, List.set_cons_succ, List.map_cons, List.map_nil, List.replicate_succ, List.replicate_zero, List.cons_append, List.nil_append, Nat.sub_self, Nat.reduceSub, Nat.reduceAdd, eI, still, if_true]
  have eRow : ∀ l : List Str, (((l.map PyData.str).map W.p).map Row.one) = l.map fun x => Row.one (.p (.str x)) := fun l => by simp [Function.comp_def]
  rw [eRow]
  let J : List Str → Option W → Option W → Option W → List TapD → Tau → Sto → Prop := fun _ x y z U τ S =>
    ∃ s, τ = [some (.r 1), some (.p (.int most)), some (.p (encS ms)), some (.p (.list (poolS.map encS))), some (.p (encS ss)), some (.p (.list [.str x1, .str x2])), some (.r (R.length + 2)), x, y, z, none] ∧ S = Spr s (R ++ [.l ((U.map encT).map W.p)])
  have hcU : ∀ U : List TapD, CloR (R ++ [.l ((U.map encT).map W.p)]) := fun U => hc.snoc
  let V : List TapD → Prop := fun U => (∀ t ∈ U, TapOk ms ss [x1, x2] t) ∧ U.Pairwise fun a b => ¬ SameKey a b
  refine So_forM (fun pre τ S => ∃ x y z U, J pre x y z U τ S ∧ V U ∧ (∀ t ∈ U, t.m ∈ pre) ∧ U.length ≤ 25 * pre.length) ⟨_, _, _, [], ⟨_, rfl, rfl⟩, ⟨(fun t h => (nomatch h)), .nil⟩, (fun t h => (nomatch h)), Nat.le_refl _⟩ ?_ ?_
  · rintro pm m qm τ S em ⟨x, y, z, U, ⟨s5, rfl, rfl⟩, hV, hU, hL⟩
    have hmm : m ∈ ms := by rw [em]; simp
    have hmn : m ∉ pm := by
      rw [em] at msn
      intro hq
      exact (List.nodup_append.mp msn).2.2 m hq m (List.mem_cons_self ..) rfl
    simp only [bx_law_app_4, So_cs, So_nl, So_then, So_ite, So_nx, So_ret, So_bk, So_ct, evS, evE, evEs, evT, evTa, evTo, evAn, evOr, evAs, evP, evI, Ok_bind, Ok_ok, Ok_bad, Ok_some, Ok_bs, Ok_ite, asgT, asgR, asgT.asgTs, setAll, wipeT, biF, meF, binF, cmpF, bl?, List.getElem?_cons_zero, List.getElem?_cons_succ, List.set_cons_zero, List.set_cons_succ, List.map_cons, List.map_nil, List.replicate_succ, List.replicate_zero, List.cons_append, List.nil_append, Nat.sub_self, Nat.reduceSub, Nat.reduceAdd, eI, still, if_true]
    rw [eRow]
    refine So_forM (fun pre τ S => ∃ y z U, J pre (some (.p (.str m))) y z U τ S ∧ V U ∧ (∀ t ∈ U, t.m ∈ pm ∨ (t.m = m ∧ t.s ∈ pre)) ∧ U.length ≤ 25 * pm.length + 5 * pre.length) ⟨_, _, U, ⟨_, rfl, rfl⟩, hV, fun t h => .inl (hU t h), by simpa using hL⟩ ?_ ?_
    · rintro ps sc qs τ S es ⟨y, z, U, ⟨s6, rfl, rfl⟩, hV, hU, hL⟩
      have hsm : sc ∈ ss := by rw [es]; simp
      have hsn : sc ∉ ps := by
        rw [es] at ssn
        intro hq
        exact (List.nodup_append.mp ssn).2.2 sc hq sc (List.mem_cons_self ..) rfl
      simp only [bx_law_app_3, So_cs, So_nl, So_then, So_ite, So_nx, So_ret, So_bk, So_ct, evS, evE, evEs, evT, evTa, evTo, evAn, evOr, evAs, evP, evI, Ok_bind, Ok_ok, Ok_bad, Ok_some, Ok_bs, Ok_ite, asgT, asgR, asgT.asgTs, setAll, wipeT, biF, meF, binF, cmpF, bl?, List.getElem?_cons_zero, List.getElem?_cons_succ, List.set_cons_zero, List.set_cons_succ, List.map_cons, List.map_nil, List.replicate_succ, List.replicate_zero, List.cons_append, List.nil_append, Nat.sub_self, Nat.reduceSub, Nat.reduceAdd, mkL5]
      refine drop_ok hD hm hm2 (hcU U) fun z1 s7 hz1 => ?_
      have eS : fSl none (some (z1 : Int)) (Spr s7 (R ++ [.l ((U.map encT).map W.p)])) (.p (.list [.str "back", .str "go", .str "more", .str "x", .str "zzzzzzzz"])) = some (.p (.list ((poolN.take z1).map PyData.str)), Spr s7 (R ++ [.l ((U.map encT).map W.p)])) := by
        show some (W.p (.list (cutL (poolN.map PyData.str) none (some (z1 : Int)))), _) = _
        rw [cutN, List.map_take]
      have eI2 : ∀ (S : Sto) (l : List Str), items S (.p (.list (l.map PyData.str))) = some (false, (l.map PyData.str).map W.p) := fun _ _ => rfl
      simp only [So_cs, So_nl, So_then, So_ite, So_nx, So_ret, So_bk, So_ct, evS, evE, evEs, evT, evTa, evTo, evAn, evOr, evAs, evP, evI, Ok_bind, Ok_ok, Ok_bad, Ok_some, Ok_bs, Ok_ite, asgT, asgR, asgT.asgTs, setAll, wipeT, biF, meF, binF, cmpF, bl?, List.getElem?_cons_zero, List.getElem?_cons_succ, List.set_cons_zero, List.set_cons_succ, List.map_cons, List.map_nil, List.replicate_succ, List.replicate_zero, List.cons_append, List.nil_append, Nat.sub_self, Nat.reduceSub, Nat.reduceAdd, eS, eI2, still, if_true]
      rw [eRow]
      have hnn := poolN_nd.sublist (List.take_sublist z1 poolN)
      refine So_forM (fun pre τ S => ∃ z U, J pre (some (.p (.str m))) (some (.p (.str sc))) z U τ S ∧ V U ∧ (∀ t ∈ U, t.m ∈ pm ∨ (t.m = m ∧ t.s ∈ ps) ∨ (t.m = m ∧ t.s = sc ∧ t.n ∈ pre)) ∧ U.length ≤ 25 * pm.length + 5 * ps.length + pre.length) ⟨_, U, ⟨_, rfl, rfl⟩, hV, fun t h => (hU t h).elim .inl fun q => .inr (.inl q), by simpa using hL⟩ ?_ ?_
      · rintro pn nm qn τ S en ⟨z, U, ⟨s8, rfl, rfl⟩, hV, hU, hL⟩
        have hn' : nm ∈ poolN := List.mem_of_mem_take (i := z1) (by rw [en]; simp)
        have hnn' : nm ∉ pn := by
          rw [en] at hnn
          intro hq
          exact (List.nodup_append.mp hnn).2.2 nm hq nm (List.mem_cons_self ..) rfl
        simp only [bx_law_app_2, So_cs, So_nl, So_then, So_ite, So_nx, So_ret, So_bk, So_ct, evS, evE, evEs, evT, evTa, evTo, evAn, evOr, evAs, evP, evI, Ok_bind, Ok_ok, Ok_bad, Ok_some, Ok_bs, Ok_ite, asgT, asgR, asgT.asgTs, setAll, wipeT, biF, meF, binF, cmpF, bl?, List.getElem?_cons_zero, List.getElem?_cons_succ, List.set_cons_zero, List.set_cons_succ, List.map_cons, List.map_nil, List.replicate_succ, List.replicate_zero, List.cons_append, List.nil_append, Nat.sub_self, Nat.reduceSub, Nat.reduceAdd]
        rw [if_pos spr_me]
        refine act_ok (aims := [x1, x2]) hD hP hA ss0 (by omega) (by simp) (by simp) (hcU U) fun a s9 ha => ?_
        refine pick_ok hD hP (.inr rfl) msm0 msm1 (hcU U) fun d s10 hd => ?_
        obtain ⟨b, hb, rfl⟩ := List.mem_map.mp hd
        have hlen : U.length ≤ 1000 := by
          have h1 : pm.length ≤ ms.length := by rw [em]; simp
          have h2 : ps.length ≤ ss.length := by rw [es]; simp
          have h3 : pn.length ≤ poolN.length := by
            have : pn.length ≤ (poolN.take z1).length := by rw [en]; simp
            exact Nat.le_trans this (by simp; omega)
          have h4 : poolN.length = 5 := rfl
          omega
        rw [mkT5, Ok_ok, spr_app (by simp [lim]; omega), Ok_some]
        have eU : (U.map encT).map W.p ++ [W.p (.tuple [.str nm, .str m, .str sc, encS a, .str b])] = ((U ++ [(⟨nm, m, sc, a, b⟩ : TapD)]).map encT).map W.p := by simp [encT]
        rw [eU]
        refine ⟨_, U ++ [(⟨nm, m, sc, a, b⟩ : TapD)], ⟨_, rfl, rfl⟩, ⟨fun t ht => ?_, ?_⟩, fun t ht => ?_, by simp; omega⟩
        · rcases List.mem_append.mp ht with q1 | q1
          · exact hV.1 t q1
          · rw [List.mem_singleton] at q1
            subst q1
            exact ⟨hn', hmm, hsm, ha, hb⟩
        · refine List.pairwise_append.mpr ⟨hV.2, List.pairwise_singleton _ _, fun t ht u hu => ?_⟩
          rw [List.mem_singleton] at hu
          subst hu
          rintro ⟨k1, k2, k3⟩
          simp only at k1 k2 k3
          rcases hU t ht with q1 | ⟨_, q1⟩ | ⟨_, _, q1⟩
          · exact hmn (k2 ▸ q1)
          · exact hsn (k3 ▸ q1)
          · exact hnn' (k1 ▸ q1)
        · rcases List.mem_append.mp ht with q1 | q1
          · rcases hU t q1 with p1 | p1 | ⟨p1, p2, p3⟩
            · exact .inl p1
            · exact .inr (.inl p1)
            · exact .inr (.inr ⟨p1, p2, List.mem_append_left _ p3⟩)
          · rw [List.mem_singleton] at q1
            subst q1
            exact .inr (.inr ⟨rfl, rfl, by simp⟩)
      · rintro τ S ⟨z, U, ⟨s8, rfl, rfl⟩, hV, hU, hL⟩
        refine ⟨_, _, U, ⟨_, rfl, rfl⟩, hV, fun t ht => ?_, ?_⟩
        · rcases hU t ht with p1 | ⟨p1, p2⟩ | ⟨p1, p2, p3⟩
          · exact .inl p1
          · exact .inr ⟨p1, List.mem_append_left _ p2⟩
          · exact .inr ⟨p1, by rw [p2]; simp⟩
        · have h3 : (poolN.take z1).length ≤ 5 := by
            have h4 : poolN.length = 5 := rfl
            simp; omega
          simp only [List.length_append, List.length_singleton]
          omega
    · rintro τ S ⟨y, z, U, ⟨s6, rfl, rfl⟩, hV, hU, hL⟩
      refine ⟨_, _, _, U, ⟨_, rfl, rfl⟩, hV, fun t ht => ?_, by simp only [List.length_append, List.length_singleton]; omega⟩
      rcases hU t ht with p1 | ⟨p1, _⟩
      · exact List.mem_append_left _ p1
      · rw [p1]; simp
  · rintro τ S ⟨x, y, z, U, ⟨s5, rfl, rfl⟩, hV, hU, hL⟩
    simp only [bx_law_app_1, So_cs, So_nl, So_then, So_ite, So_nx, So_ret, So_bk, So_ct, evS, evE, evEs, evT, evTa, evTo, evAn, evOr, evAs, evP, evI, Ok_bind, Ok_ok, Ok_bad, Ok_some, Ok_bs, Ok_ite, asgT, asgR, asgT.asgTs, setAll, wipeT, biF, meF, binF, cmpF, bl?, List.getElem?_cons_zero, List.getElem?_cons_succ, List.set_cons_zero, List.set_cons_succ, List.map_cons, List.map_nil, List.replicate_succ, List.replicate_zero, List.cons_append, List.nil_append, Nat.sub_self, Nat.reduceSub, Nat.reduceAdd]
    refine pick_ok hD hP (.inr rfl) msm0 msm1 (hcU U) fun d s6 hd => ?_
    obtain ⟨a1, ha1, rfl⟩ := List.mem_map.mp hd
    refine pick_ok hD hP (.inr rfl) ssm0 ssm1 (hcU U) fun d s7 hd => ?_
    obtain ⟨a2, ha2, rfl⟩ := List.mem_map.mp hd
    have eSo : fSorted (Spr s7 (R ++ [.l ((U.map encT).map W.p)])) [.r (R.length + 2)] = some (.p (.list ((U.mergeSort tapLe).map encT)), Spr s7 (R ++ [.l ((U.map encT).map W.p)])) := by
      unfold fSorted
      dsimp only
      rw [spr_seq]
      dsimp only
      rw [if_pos (sortOk_T (by unfold lim; omega)), sortD_T]
    have eSl : ∀ S : Sto, fSl none (some 24) S (.p (.list ((U.mergeSort tapLe).map encT))) = some (.p (.list (((U.mergeSort tapLe).take 24).map encT)), S) := fun S => by
      show some (W.p (.list (cutL ((U.mergeSort tapLe).map encT) none (some ((24 : Nat) : Int)))), S) = _
      rw [cut_to, List.map_take]
    have eTu : ∀ (S : Sto) (ds : List PyData), fTuple S [.p (.list ds)] = some (.p (.tuple ds), S) := fun _ _ => rfl
    simp only [mkT2, So_cs, So_nl, So_then, So_ite, So_nx, So_ret, So_bk, So_ct, evS, evE, evEs, evT, evTa, evTo, evAn, evOr, evAs, evP, evI, Ok_bind, Ok_ok, Ok_bad, Ok_some, Ok_bs, Ok_ite, asgT, asgR, asgT.asgTs, setAll, wipeT, biF, meF, binF, cmpF, bl?, List.getElem?_cons_zero, List.getElem?_cons_succ, List.set_cons_zero, List.set_cons_succ, List.map_cons, List.map_nil, List.replicate_succ, List.replicate_zero, List.cons_append, List.nil_append, Nat.sub_self, Nat.reduceSub, Nat.reduceAdd, eSo, eSl, eTu, mkT5]
    refine Ok_endS hc (q ⟨ms, ss, a1, a2, (U.mergeSort tapLe).take 24⟩ s7 ⟨hms, hss, ha1, ha2, ⟨[x1, x2], rfl, by simp [hx1, hx2], fun t ht => ?_⟩, ?_, ?_, by simp; omega⟩)
    · exact hV.1 t ((List.mergeSort_perm U tapLe).mem_iff.mp (List.mem_of_mem_take ht))
    · refine List.Pairwise.sublist (List.take_sublist _ _) ?_
      exact PySem.W.sort_pairwise (tapLe_total) U
    · refine List.Pairwise.sublist (List.take_sublist _ _) ?_
      refine ((List.mergeSort_perm U tapLe).pairwise_iff fun h => ?_).mpr hV.2
      rintro ⟨p1, p2, p3⟩
      exact h ⟨p1.symm, p2.symm, p3.symm⟩
where
  tapLe_total : PySem.W.TotalLe tapLe := by
    have := PySem.W.sortLe_total (listOrd itemOrd) false (fun b : TapD => PySem.W.keyToks (encT b))
    exact this
end Pv
end

section
set_option maxRecDepth 10000
set_option maxHeartbeats 4000000
namespace Pv
open PySem PySem.Spec L2
open PyProof.Rows hiding St

/-! ## facts on apps -/
def strB (n : Nat) (x : Str) : Bool := PyData.strOk x && decide (x.length ≤ n)
theorem poolM_s : poolM.all (fun l => l.all (strB 8)) = true := by decide +kernel
theorem poolS_s : poolS.all (fun l => l.all (strB 8)) = true := by decide +kernel
theorem poolN_s : poolN.all (strB 8) = true := by decide +kernel
theorem strB_fit {n w m : Nat} {x : Str} (h : strB n x = true) (hw : n ≤ w) : Fit w m (.str x) := by
  simp only [strB, Bool.and_eq_true, decide_eq_true_eq] at h
  exact Fit.str h.1 (by omega)
theorem fit_S {n m : Nat} {l : List Str} (h : l.all (strB n) = true) (hm : l.length ≤ m) : Fit (m * (n + 1)) 1 (encS l) := by
  refine Fit.tuple (n := 0) (fun d hd => ?_) (by simpa using hm)
  obtain ⟨x, hx, rfl⟩ := List.mem_map.mp hd
  exact strB_fit (List.all_eq_true.mp h x hx) (Nat.le_refl _)
theorem sh_strs {l : List Str} (h : l.all (strB 8) = true) : PyData.canLayAll0 (l.map .str) = true := by
  induction l with
  | nil => rfl
  | cons x r ih =>
    simp only [List.all_cons, Bool.and_eq_true, strB] at h
    simp [PyData.canLayAll0, PyData.canLay0, h.1.1, ih (by simpa [strB] using h.2)]
section
variable {A : AppD} (G : GoodA A)
include G
theorem GoodA.msB : A.ms.all (strB 8) = true := List.all_eq_true.mp poolM_s _ G.ms
theorem GoodA.ssB : A.ss.all (strB 8) = true := List.all_eq_true.mp poolS_s _ G.ss
theorem GoodA.ms3 : A.ms ≠ [] ∧ A.ms.length ≤ 3 ∧ A.ms.Nodup := poolM_len _ G.ms
theorem GoodA.ss4 : A.ss ≠ [] ∧ A.ss.length ≤ 4 ∧ A.ss.Nodup := poolS_len _ G.ss
theorem GoodA.aB {t : TapD} (ht : t ∈ A.ts) : t.a.all (strB 8) = true ∧ t.a.length ≤ 2 := by
  obtain ⟨aims, _, ha, h⟩ := G.ts
  have s := List.all_eq_true.mp G.ssB
  have e1 : strB 8 "open" = true := by decide +kernel
  have e2 : strB 8 "put" = true := by decide +kernel
  have e3 : strB 8 "back" = true := by decide +kernel
  have e4 : strB 8 "to" = true := by decide +kernel
  rcases (h t ht).a with ⟨x, hx, e | e⟩ | e | ⟨x, hx, e⟩ <;> rw [e]
  · simp [e1, s x hx]
  · simp [e2, s x hx]
  · simp [e3]
  · simp [e4, s x (ha x hx)]
theorem GoodA.tM {t : TapD} (ht : t ∈ A.ts) : t.m ∈ A.ms := by
  obtain ⟨aims, _, ha, h⟩ := G.ts
  exact (h t ht).m
theorem GoodA.tS {t : TapD} (ht : t ∈ A.ts) : t.s ∈ A.ss := by
  obtain ⟨aims, _, ha, h⟩ := G.ts
  exact (h t ht).s
theorem GoodA.tB {t : TapD} (ht : t ∈ A.ts) : strB 8 t.n = true ∧ strB 8 t.m = true ∧ strB 8 t.s = true ∧ strB 8 t.b = true := by
  obtain ⟨aims, _, ha, h⟩ := G.ts
  have s := List.all_eq_true.mp G.ssB
  have m := List.all_eq_true.mp G.msB
  have n := List.all_eq_true.mp poolN_s
  exact ⟨n _ (h t ht).n, m _ (h t ht).m, s _ (h t ht).s, m _ (h t ht).b⟩
theorem GoodA.fitT {t : TapD} (ht : t ∈ A.ts) : Fit 95 2 (encT t) := by
  obtain ⟨h1, h2, h3, h4⟩ := G.tB ht
  obtain ⟨h5, h6⟩ := G.aB ht
  refine Fit.tuple (m := 5) (w := 18) (n := 1) (fun d hd => ?_) (Nat.le_refl _)
  simp only [List.mem_cons, List.not_mem_nil, or_false] at hd
  rcases hd with rfl | rfl | rfl | rfl | rfl
  · exact strB_fit h1 (by decide)
  · exact strB_fit h2 (by decide)
  · exact strB_fit h3 (by decide)
  · exact fit_S h5 h6
  · exact strB_fit h4 (by decide)
theorem GoodA.fitL {L : List TapD} (h : ∀ t ∈ L, t ∈ A.ts) {n : Nat} (hl : L.length ≤ n) : Fit (n * 96) 3 (.tuple (L.map encT)) := by
  refine Fit.tuple (w := 95) (n := 2) (fun d hd => ?_) (by simpa using hl)
  obtain ⟨t, ht, rfl⟩ := List.mem_map.mp hd
  exact G.fitT (h t ht)
theorem GoodA.fitL' {L : List TapD} (h : ∀ t ∈ L, t ∈ A.ts) {n : Nat} (hl : L.length ≤ n) : Fit (n * 96) 3 (.list (L.map encT)) := by
  refine Fit.list (w := 95) (n := 2) (fun d hd => ?_) (by simpa using hl)
  obtain ⟨t, ht, rfl⟩ := List.mem_map.mp hd
  exact G.fitT (h t ht)
theorem GoodA.fitA : Fit 11525 4 (encA A) := by
  have m := List.all_eq_true.mp G.msB
  have s := List.all_eq_true.mp G.ssB
  refine Fit.tuple (m := 5) (w := 2304) (n := 3) (fun d hd => ?_) (Nat.le_refl _)
  simp only [List.mem_cons, List.not_mem_nil, or_false] at hd
  rcases hd with rfl | rfl | rfl | rfl | rfl
  · exact strB_fit (n := 8) (by decide +kernel) (by decide)
  · exact (fit_S G.msB G.ms3.2.1).mono (by decide) (by decide)
  · exact (fit_S G.ssB G.ss4.2.1).mono (by decide) (by decide)
  · refine (Fit.tuple (m := 2) (w := 8) (n := 0) (fun d hd => ?_) (Nat.le_refl _)).mono (by decide) (by decide)
    simp only [List.mem_cons, List.not_mem_nil, or_false] at hd
    rcases hd with rfl | rfl
    · exact strB_fit (m _ G.sm) (by decide)
    · exact strB_fit (s _ G.sn) (by decide)
  · exact (G.fitL (fun t h => h) G.len).mono (by decide) (by decide)
end
/-! ### sorting taps -/
theorem toks_strs : ∀ (a b : List Str) (r r' : List (Int ⊕ List Nat)), PySem.W.keyToksAll (a.map .str) ++ r = PySem.W.keyToksAll (b.map .str) ++ r' → a = b ∧ r = r'
  | [], [], _, _, h => by simpa [PySem.W.keyToksAll] using h
  | [], _ :: _, _, _, h => by simp [PySem.W.keyToksAll] at h
  | _ :: _, [], _, _, h => by simp [PySem.W.keyToksAll] at h
  | x :: a, y :: b, r, r', h => by
    simp only [List.map_cons, PySem.W.keyToksAll, PySem.W.keyToks, List.cons_append, List.nil_append, List.cons.injEq, Sum.inr.injEq, true_and] at h
    obtain ⟨h1, h2⟩ := h
    obtain ⟨e1, e2⟩ := toks_strs a b r r' h2
    exact ⟨by rw [PySem.W.str_of_cps h1, e1], e2⟩
theorem toks_T {a b : TapD} (h : PySem.W.keyToks (encT a) = PySem.W.keyToks (encT b)) : a = b := by
  simp only [encT, encS, PySem.W.keyToksAll, PySem.W.keyToks, List.cons_append, List.nil_append, List.cons.injEq, Sum.inr.injEq, true_and] at h
  obtain ⟨h1, h2, h3, h4⟩ := h
  obtain ⟨e4, h5⟩ := toks_strs _ _ _ _ h4
  simp only [List.cons.injEq, Sum.inr.injEq, true_and, and_true] at h5
  obtain ⟨n, m, s, a, b'⟩ := a
  obtain ⟨n', m', s', a', b''⟩ := b
  simp only at h1 h2 h3 e4 h5
  rw [PySem.W.str_of_cps h1, PySem.W.str_of_cps h2, PySem.W.str_of_cps h3, e4, PySem.W.str_of_cps h5]
theorem tapLe_anti {a b : TapD} (h1 : tapLe a b = true) (h2 : tapLe b a = true) : a = b := by
  refine toks_T ?_
  have g1 : (!PyProof.Rows.lexLt itemOrd (PySem.W.keyToks (encT b)) (PySem.W.keyToks (encT a))) = true := h1
  have g2 : (!PyProof.Rows.lexLt itemOrd (PySem.W.keyToks (encT a)) (PySem.W.keyToks (encT b))) = true := h2
  rw [Bool.not_eq_true'] at g1 g2
  have t := (listOrd itemOrd).total (PySem.W.keyToks (encT a)) (PySem.W.keyToks (encT b))
  exact t g2 g1
theorem filter_or_perm {α : Type} (p q : α → Bool) (l : List α) (h : ∀ x ∈ l, ¬ (p x = true ∧ q x = true)) : (l.filter p ++ l.filter q).Perm (l.filter fun x => p x || q x) := by
  induction l with
  | nil => exact .nil
  | cons x r ih =>
    have ih := ih fun y hy => h y (List.mem_cons_of_mem _ hy)
    have hx := h x (List.mem_cons_self ..)
    cases hp : p x with
    | true =>
      have hq : q x = false := by
        cases hq : q x
        · rfl
        · exact absurd ⟨hp, hq⟩ hx
      rw [List.filter_cons_of_pos hp, List.filter_cons_of_neg (by simp [hq]), List.filter_cons_of_pos (by simp [hp])]
      exact ih.cons x
    | false =>
      cases hq : q x with
      | true =>
        rw [List.filter_cons_of_neg (by simp [hp]), List.filter_cons_of_pos hq, List.filter_cons_of_pos (by simp [hq])]
        exact List.perm_middle.trans (ih.cons x)
      | false =>
        rw [List.filter_cons_of_neg (by simp [hp]), List.filter_cons_of_neg (by simp [hq]), List.filter_cons_of_neg (by simp [hp, hq])]
        exact ih
theorem sort_taps {E L : List TapD} (hp : E.Perm L) (hs : L.Pairwise fun a b => tapLe a b = true) : E.mergeSort tapLe = L := by
  refine List.Perm.eq_of_pairwise (le := fun a b => tapLe a b = true) (fun a b _ _ h1 h2 => tapLe_anti h1 h2) (PySem.W.sort_pairwise app_ok.tapLe_total E) hs ((List.mergeSort_perm E tapLe).trans hp)

/-- a comprehension over a mapped list where nothing changes -/
theorem Ok_lcM {β : Type} {f : Row → Sto → R (Option W)} {L : List β} {g : β → Row} {Q : List W → Sto → Prop} {E : Xc → Sto → Prop} {S : Sto} (φ : β → Option W) (hs : ∀ x, x ∈ L → Ok (f (g x) S) (fun o S' => o = φ x ∧ S' = S) noX) (he : Q (L.filterMap φ) S) :
    Ok (lcLoop f (L.map g) [] S) Q E := by
  refine Ok_lc (I := fun done acc S' => ∃ pre, done = pre.map g ∧ (∃ post, L = pre ++ post) ∧ acc = pre.filterMap φ ∧ S' = S) ⟨[], rfl, ⟨L, rfl⟩, rfl, rfl⟩ ?_ ?_
  · rintro done r post acc S' e ⟨pre, rfl, ⟨post', rfl⟩, rfl, rfl⟩
    rw [List.map_append, List.append_cancel_left_eq] at e
    cases post' with
    | nil => cases e
    | cons x post' =>
      rw [List.map_cons] at e
      obtain ⟨rfl, rfl⟩ := List.cons.inj e
      refine Ok_mono (hs x (by simp)) (fun o S h => ?_) fun _ _ z => z
      obtain ⟨rfl, rfl⟩ := h
      refine ⟨pre ++ [x], by simp, ⟨post', by simp⟩, ?_, rfl⟩
      rw [List.filterMap_append]
      cases q : φ x <;> simp [q]
  · rintro acc S' ⟨pre, e, ⟨post, rfl⟩, rfl, rfl⟩
    have : post = [] := by
      have := congrArg List.length e
      simp at this
      exact this
    subst this
    rw [List.append_nil] at he
    exact he
theorem fm_filter {β : Type} (enc : β → PyData) (c : β → Bool) : ∀ L : List β, L.filterMap (fun x => if c x then some (W.p (enc x)) else none) = ((L.filter c).map enc).map W.p
  | [] => rfl
  | x :: r => by
    rw [List.filterMap_cons, fm_filter enc c r]
    cases h : c x <;> simp [h]
theorem fm_map {β : Type} (enc : β → PyData) : ∀ L : List β, L.filterMap (fun x => some (W.p (enc x))) = (L.map enc).map W.p
  | [] => rfl
  | x :: r => by rw [List.filterMap_cons, fm_map enc r]; rfl
theorem rowsT {β : Type} (enc : β → PyData) (L : List β) : (((L.map enc).map W.p).map Row.one) = L.map fun x => Row.one (.p (enc x)) := by simp [Function.comp_def]
theorem e_eqS {S : Sto} {x y : Str} (hx : PyData.strOk x = true) (hy : PyData.strOk y = true) : fEq S (.p (.str x)) (.p (.str y)) = some (.p (.bool (decide (x = y))), S) := by
  rw [e_eqD rfl rfl (sh_str hx) (sh_str hy), eqv_str]
theorem e_neS {S : Sto} {x y : Str} (hx : PyData.strOk x = true) (hy : PyData.strOk y = true) : fNe S (.p (.str x)) (.p (.str y)) = some (.p (.bool (!decide (x = y))), S) := by
  rw [e_neD rfl rfl (sh_str hx) (sh_str hy), eqv_str]
theorem strB_ok {n : Nat} {x : Str} (h : strB n x = true) : PyData.strOk x = true := (Bool.and_eq_true_iff.mp h).1
def onT (m s : Str) (t : TapD) : Bool := decide (t.m = m) && decide (t.s = s)
theorem ixA4 {S : Sto} (A : AppD) : fIx S (.p (encA A)) (.p (.int 4)) = some (.p (.tuple (A.ts.map encT)), S) := rfl
theorem ixA1 {S : Sto} (A : AppD) : fIx S (.p (encA A)) (.p (.int 1)) = some (.p (encS A.ms), S) := rfl
theorem ixA2 {S : Sto} (A : AppD) : fIx S (.p (encA A)) (.p (.int 2)) = some (.p (encS A.ss), S) := rfl
theorem ixT1 {S : Sto} (t : TapD) : fIx S (.p (encT t)) (.p (.int 1)) = some (.p (.str t.m), S) := rfl
theorem ixT2 {S : Sto} (t : TapD) : fIx S (.p (encT t)) (.p (.int 2)) = some (.p (.str t.s), S) := rfl
theorem itemsT {S : Sto} (ds : List PyData) : items S (.p (.tuple ds)) = some (true, ds.map W.p) := rfl
theorem itemsL {S : Sto} (ds : List PyData) : items S (.p (.list ds)) = some (false, ds.map W.p) := rfl
theorem e_tupL {S : Sto} (ds : List PyData) : fTuple S [.p (.list ds)] = some (.p (.tuple ds), S) := rfl
theorem e_listT {S : Sto} (ds : List PyData) : fList S [.p (.tuple ds)] = some (.p (.list ds), S) := rfl
theorem stillp (d : PyData) : still (.p d) = true := rfl
theorem tapsOn_ok {T : List Fd} {k i : Nat} {A : AppD} {m sc : Str} {S : Sto} (h : T[i]? = some fxtaps_on) (G : GoodA A) (hm : PyData.strOk m = true) (hs : PyData.strOk sc = true) (hc : Clo S) {Q : W → Sto → Prop} {E : Xc → Sto → Prop}
    (q : Q (.p (.tuple ((A.ts.filter (onT m sc)).map encT))) S) : Ok (callN T (k + 1) i [.p (encA A), .p (.str m), .p (.str sc)] S) Q E := by
  refine Ok_call h rfl ?_
  simp only [fxtaps_on, bxtaps_on, So_cs, So_nl, So_then, So_ite, So_nx, So_ret, So_bk, So_ct, evS, evE, evEs, evT, evTa, evTo, evAn, evOr, evAs, evP, evI, Ok_bind, Ok_ok, Ok_bad, Ok_some, Ok_bs, Ok_ite, asgT, asgR, asgT.asgTs, setAll, wipeT, biF, meF, binF, cmpF, bl?, List.getElem?_cons_zero, List.getElem?_cons_succ, List.set_cons_zero, List.set_cons_succ, List.map_cons, List.map_nil, List.replicate_succ, List.replicate_zero, List.cons_append, List.nil_append, Nat.sub_self, Nat.reduceSub, Nat.reduceAdd, ixA4, itemsT, stillp, if_true, rowsT]
  refine Ok_lcM (fun t => if onT m sc t then some (W.p (encT t)) else none) (fun t ht => ?_) ?_
  · obtain ⟨h1, h2, h3, h4⟩ := G.tB ht
    simp only [So_cs, So_nl, So_then, So_ite, So_nx, So_ret, So_bk, So_ct, evS, evE, evEs, evT, evTa, evTo, evAn, evOr, evAs, evP, evI, Ok_bind, Ok_ok, Ok_bad, Ok_some, Ok_bs, Ok_ite, asgT, asgR, asgT.asgTs, setAll, wipeT, biF, meF, binF, cmpF, bl?, List.getElem?_cons_zero, List.getElem?_cons_succ, List.set_cons_zero, List.set_cons_succ, List.map_cons, List.map_nil, List.replicate_succ, List.replicate_zero, List.cons_append, List.nil_append, Nat.sub_self, Nat.reduceSub, Nat.reduceAdd, ixT1, ixT2, e_eqS (strB_ok h2) hm, e_eqS (strB_ok h3) hs, trub, onT, Bool.and_eq_true, decide_eq_true_eq]
    by_cases h1 : t.m = m
    · by_cases h2 : t.s = sc <;> simp [h1, h2]
    · simp [h1]
  · have hl : (A.ts.filter (onT m sc)).length ≤ 24 := Nat.le_trans (List.length_filter_le _ _) G.len
    rw [fm_filter, mkL _ (by simp only [List.length_map]; unfold lim; omega)]
    simp only [So_cs, So_nl, So_then, So_ite, So_nx, So_ret, So_bk, So_ct, evS, evE, evEs, evT, evTa, evTo, evAn, evOr, evAs, evP, evI, Ok_bind, Ok_ok, Ok_bad, Ok_some, Ok_bs, Ok_ite, asgT, asgR, asgT.asgTs, setAll, wipeT, biF, meF, binF, cmpF, bl?, List.getElem?_cons_zero, List.getElem?_cons_succ, List.set_cons_zero, List.set_cons_succ, List.map_cons, List.map_nil, List.replicate_succ, List.replicate_zero, List.cons_append, List.nil_append, Nat.sub_self, Nat.reduceSub, Nat.reduceAdd, e_tupL]
    exact Ok_end0 hc rfl rfl q

theorem itemsS {S : Sto} (l : List Str) : items S (.p (encS l)) = some (true, (l.map PyData.str).map W.p) := rfl
theorem ok_ex {r : R W} (h : Ok r (fun w _ => w = .p (.bool true)) noX) : ∃ S', r = .ok (.p (.bool true)) S' := by
  cases r with
  | ok w S => exact ⟨S, by rw [show w = _ from h]⟩
  | exc x S => exact h.elim
  | bad => exact h.elim
/-- two texts beside two -/
theorem ne_two {S : Sto} {a b c d : Str} (ha : PyData.strOk a = true) (hb : PyData.strOk b = true) (hc : PyData.strOk c = true) (hd : PyData.strOk d = true) :
    fNe S (.p (.list [.str a, .str b])) (.p (.list [.str c, .str d])) = some (.p (.bool (!(decide (a = c) && decide (b = d)))), S) := by
  have h2 : ∀ x y : Str, PyData.strOk x = true → PyData.strOk y = true → shapedB (.list [.str x, .str y]) = true := fun x y h1 h2 => sh_list fun d hd => by
    simp only [List.mem_cons, List.not_mem_nil, or_false] at hd
    rcases hd with rfl | rfl
    · exact ⟨sh_str h1, Nat.zero_le _⟩
    · exact ⟨sh_str h2, Nat.zero_le _⟩
  rw [e_neD rfl rfl (h2 a b ha hb) (h2 c d hc hd)]
  have e : PyData.eqv (.list [.str a, .str b]) (.list [.str c, .str d]) = (decide (a = c) && decide (b = d)) := by
    simp only [PyData.eqv, PyData.eqvAll, Bool.and_true]
    rw [← eqv_str, ← eqv_str]
    rfl
  rw [e]
theorem rng2 (lo : Int) : rng lo 2 = (List.range 2).map fun (i : Nat) => Row.one (.p (.int (lo + i))) := rfl
end Pv
end

section
set_option maxRecDepth 10000
set_option maxHeartbeats 4000000
namespace Pv
open PySem PySem.Spec L2
open PyProof.Rows hiding St

/-! ## any values -/
mutual
/-- data that show: texts of code points, no great numbers -/
def okP : PyData → Bool
  | .none | .bool _ => true
  | .int i => decide (i.natAbs < 10 ^ 48)
  | .str x => PyData.strOk x
  | .list xs | .tuple xs => okPs xs
  | .dict kvs => okPk kvs
def okPs : List PyData → Bool
  | [] => true
  | x :: r => okP x && okPs r
def okPk : List (PyData × PyData) → Bool
  | [] => true
  | (k, v) :: r => okP k && okP v && okPk r
end
theorem okPs_all : ∀ {xs : List PyData}, okPs xs = true ↔ ∀ x ∈ xs, okP x = true
  | [] => by simp [okPs]
  | x :: r => by simp [okPs, okPs_all (xs := r)]
theorem okPs_app {a b : List PyData} : okPs (a ++ b) = (okPs a && okPs b) := by
  induction a with
  | nil => simp [okPs]
  | cons x r ih => simp [okPs, ih, Bool.and_assoc]
theorem so_dict {ts : List Str} (h : ∀ t ∈ ts, PyData.strOk t = true) : PyData.strOk (dictText ts) = true := so_app (so_app (so_ofS _) (so_join (so_ofS _) h)) (so_ofS _)
structure Sh (d : PyData) : Prop where
  ls : d.leavesShort 50 = true
  sh : d.showable = true
  so : PyData.strOk d.shown = true
mutual
theorem okP_sh : ∀ d : PyData, okP d = true → Sh d
  | .none, _ => ⟨rfl, rfl, so_ofS _⟩
  | .bool b, _ => ⟨rfl, rfl, by cases b <;> exact so_ofS _⟩
  | .int i, h => by
    have f := Fit.int (w := 160) (n := 0) (i := i) (by simpa [okP] using h) (Nat.le_refl _)
    exact ⟨f.ls, f.sh, f.so⟩
  | .str x, h => by
    have f := Fit.str (w := x.length) (n := 0) (x := x) (by simpa [okP] using h) (Nat.le_refl _)
    exact ⟨f.ls, f.sh, f.so⟩
  | .list xs, h => by
    obtain ⟨a, b, c⟩ := okPs_sh xs (by simpa only [okP] using h)
    exact ⟨by simpa only [PyData.leavesShort] using a, by simpa only [PyData.showable] using b, by simpa only [PyData.shown] using so_list c⟩
  | .tuple xs, h => by
    obtain ⟨a, b, c⟩ := okPs_sh xs (by simpa only [okP] using h)
    exact ⟨by simpa only [PyData.leavesShort] using a, by simpa only [PyData.showable] using b, by simpa only [PyData.shown] using so_tuple c⟩
  | .dict kvs, h => by
    obtain ⟨a, b, c⟩ := okPk_sh kvs (by simpa only [okP] using h)
    exact ⟨by simpa only [PyData.leavesShort] using a, by simpa only [PyData.showable] using b, by simpa only [PyData.shown] using so_dict c⟩
theorem okPs_sh : ∀ xs : List PyData, okPs xs = true → PyData.leavesShortAll 50 xs = true ∧ PyData.showableAll xs = true ∧ ∀ t ∈ PyData.shownAll xs, PyData.strOk t = true
  | [], _ => ⟨rfl, rfl, fun t h => nomatch h⟩
  | x :: r, h => by
    simp only [okPs, Bool.and_eq_true] at h
    have h1 := okP_sh x h.1
    obtain ⟨a, b, c⟩ := okPs_sh r h.2
    refine ⟨by simp [PyData.leavesShortAll, h1.ls, a], by simp [PyData.showableAll, h1.sh, b], fun t ht => ?_⟩
    simp only [PyData.shownAll, List.mem_cons] at ht
    rcases ht with rfl | ht
    · exact h1.so
    · exact c t ht
theorem okPk_sh : ∀ xs : List (PyData × PyData), okPk xs = true → PyData.leavesShortKv 50 xs = true ∧ PyData.showableKv xs = true ∧ ∀ t ∈ PyData.shownKv xs, PyData.strOk t = true
  | [], _ => ⟨rfl, rfl, fun t h => nomatch h⟩
  | (k, v) :: r, h => by
    simp only [okPk, Bool.and_eq_true] at h
    have h1 := okP_sh k h.1.1
    have h2 := okP_sh v h.1.2
    obtain ⟨a, b, c⟩ := okPk_sh r h.2
    refine ⟨by simp [PyData.leavesShortKv, h1.ls, h2.ls, a], by simp [PyData.showableKv, h1.sh, h2.sh, b], fun t ht => ?_⟩
    simp only [PyData.shownKv, List.mem_cons] at ht
    rcases ht with rfl | ht
    · exact so_app (so_app h1.so (so_ofS _)) h2.so
    · exact c t ht
end
theorem okP_fit {d : PyData} {w n : Nat} (h : okP d = true) (hw : d.weight ≤ w) (hn : d.depth ≤ n) : Fit w n d :=
  let f := okP_sh d h
  ⟨f.ls, hw, hn, f.sh, f.so⟩
theorem weight_app (a b : List PyData) : PyData.weightAll (a ++ b) = PyData.weightAll a + PyData.weightAll b := by
  induction a with
  | nil => simp [PyData.weightAll]
  | cons x r ih => simp [PyData.weightAll, ih] <;> omega
theorem depth_app (a b : List PyData) : PyData.depthAll (a ++ b) = max (PyData.depthAll a) (PyData.depthAll b) := by
  induction a with
  | nil => simp [PyData.depthAll]
  | cons x r ih => simp [PyData.depthAll, ih] <;> omega
theorem mkL9 {S : Sto} (x0 x1 x2 x3 x4 x5 x6 x7 x8 : PyData) : mkLst false [.p x0, .p x1, .p x2, .p x3, .p x4, .p x5, .p x6, .p x7, .p x8] S = .ok (.p (.list [x0, x1, x2, x3, x4, x5, x6, x7, x8])) S := rfl
theorem mkL10 {S : Sto} (x0 x1 x2 x3 x4 x5 x6 x7 x8 x9 : PyData) : mkLst false [.p x0, .p x1, .p x2, .p x3, .p x4, .p x5, .p x6, .p x7, .p x8, .p x9] S = .ok (.p (.list [x0, x1, x2, x3, x4, x5, x6, x7, x8, x9])) S := rfl
theorem mkL11 {S : Sto} (x0 x1 x2 x3 x4 x5 x6 x7 x8 x9 x10 : PyData) : mkLst false [.p x0, .p x1, .p x2, .p x3, .p x4, .p x5, .p x6, .p x7, .p x8, .p x9, .p x10] S = .ok (.p (.list [x0, x1, x2, x3, x4, x5, x6, x7, x8, x9, x10])) S := rfl
theorem mkL12 {S : Sto} (x0 x1 x2 x3 x4 x5 x6 x7 x8 x9 x10 x11 : PyData) : mkLst false [.p x0, .p x1, .p x2, .p x3, .p x4, .p x5, .p x6, .p x7, .p x8, .p x9, .p x10, .p x11] S = .ok (.p (.list [x0, x1, x2, x3, x4, x5, x6, x7, x8, x9, x10, x11])) S := rfl
theorem mkL13 {S : Sto} (x0 x1 x2 x3 x4 x5 x6 x7 x8 x9 x10 x11 x12 : PyData) : mkLst false [.p x0, .p x1, .p x2, .p x3, .p x4, .p x5, .p x6, .p x7, .p x8, .p x9, .p x10, .p x11, .p x12] S = .ok (.p (.list [x0, x1, x2, x3, x4, x5, x6, x7, x8, x9, x10, x11, x12])) S := rfl
theorem mkL14 {S : Sto} (x0 x1 x2 x3 x4 x5 x6 x7 x8 x9 x10 x11 x12 x13 : PyData) : mkLst false [.p x0, .p x1, .p x2, .p x3, .p x4, .p x5, .p x6, .p x7, .p x8, .p x9, .p x10, .p x11, .p x12, .p x13] S = .ok (.p (.list [x0, x1, x2, x3, x4, x5, x6, x7, x8, x9, x10, x11, x12, x13])) S := rfl
theorem mkL15 {S : Sto} (x0 x1 x2 x3 x4 x5 x6 x7 x8 x9 x10 x11 x12 x13 x14 : PyData) : mkLst false [.p x0, .p x1, .p x2, .p x3, .p x4, .p x5, .p x6, .p x7, .p x8, .p x9, .p x10, .p x11, .p x12, .p x13, .p x14] S = .ok (.p (.list [x0, x1, x2, x3, x4, x5, x6, x7, x8, x9, x10, x11, x12, x13, x14])) S := rfl
theorem mkL16 {S : Sto} (x0 x1 x2 x3 x4 x5 x6 x7 x8 x9 x10 x11 x12 x13 x14 x15 : PyData) : mkLst false [.p x0, .p x1, .p x2, .p x3, .p x4, .p x5, .p x6, .p x7, .p x8, .p x9, .p x10, .p x11, .p x12, .p x13, .p x14, .p x15] S = .ok (.p (.list [x0, x1, x2, x3, x4, x5, x6, x7, x8, x9, x10, x11, x12, x13, x14, x15])) S := rfl
theorem mkL17 {S : Sto} (x0 x1 x2 x3 x4 x5 x6 x7 x8 x9 x10 x11 x12 x13 x14 x15 x16 : PyData) : mkLst false [.p x0, .p x1, .p x2, .p x3, .p x4, .p x5, .p x6, .p x7, .p x8, .p x9, .p x10, .p x11, .p x12, .p x13, .p x14, .p x15, .p x16] S = .ok (.p (.list [x0, x1, x2, x3, x4, x5, x6, x7, x8, x9, x10, x11, x12, x13, x14, x15, x16])) S := rfl
theorem mkL18 {S : Sto} (x0 x1 x2 x3 x4 x5 x6 x7 x8 x9 x10 x11 x12 x13 x14 x15 x16 x17 : PyData) : mkLst false [.p x0, .p x1, .p x2, .p x3, .p x4, .p x5, .p x6, .p x7, .p x8, .p x9, .p x10, .p x11, .p x12, .p x13, .p x14, .p x15, .p x16, .p x17] S = .ok (.p (.list [x0, x1, x2, x3, x4, x5, x6, x7, x8, x9, x10, x11, x12, x13, x14, x15, x16, x17])) S := rfl
theorem mkL19 {S : Sto} (x0 x1 x2 x3 x4 x5 x6 x7 x8 x9 x10 x11 x12 x13 x14 x15 x16 x17 x18 : PyData) : mkLst false [.p x0, .p x1, .p x2, .p x3, .p x4, .p x5, .p x6, .p x7, .p x8, .p x9, .p x10, .p x11, .p x12, .p x13, .p x14, .p x15, .p x16, .p x17, .p x18] S = .ok (.p (.list [x0, x1, x2, x3, x4, x5, x6, x7, x8, x9, x10, x11, x12, x13, x14, x15, x16, x17, x18])) S := rfl
theorem mkL20 {S : Sto} (x0 x1 x2 x3 x4 x5 x6 x7 x8 x9 x10 x11 x12 x13 x14 x15 x16 x17 x18 x19 : PyData) : mkLst false [.p x0, .p x1, .p x2, .p x3, .p x4, .p x5, .p x6, .p x7, .p x8, .p x9, .p x10, .p x11, .p x12, .p x13, .p x14, .p x15, .p x16, .p x17, .p x18, .p x19] S = .ok (.p (.list [x0, x1, x2, x3, x4, x5, x6, x7, x8, x9, x10, x11, x12, x13, x14, x15, x16, x17, x18, x19])) S := rfl

/-- a value of so much and so deep -/
structure Fv (w n : Nat) (d : PyData) : Prop where
  ok : okP d = true
  we : d.weight ≤ w
  de : d.depth ≤ n
theorem Fv.fit {w n : Nat} {d : PyData} (h : Fv w n d) : Fit w n d := okP_fit h.ok h.we h.de
theorem Fv.mono {w n w' n' : Nat} {d : PyData} (h : Fv w n d) (h1 : w ≤ w') (h2 : n ≤ n') : Fv w' n' d := ⟨h.ok, Nat.le_trans h.we h1, Nat.le_trans h.de h2⟩
/-- items of so much in all, so deep -/
structure Fs (w n : Nat) (ds : List PyData) : Prop where
  ok : okPs ds = true
  we : PyData.weightAll ds ≤ w
  de : PyData.depthAll ds ≤ n
theorem Fv.items {w n : Nat} {ds : List PyData} (h : Fv w (n + 1) (.tuple ds)) : Fs w n ds := ⟨by simpa only [okP] using h.ok, by simpa only [PyData.weight] using h.we, by have := h.de; simp only [PyData.depth] at this; omega⟩
theorem Fs.tup {w n : Nat} {ds : List PyData} (h : Fs w n ds) : Fv w (n + 1) (.tuple ds) := ⟨by simpa only [okP] using h.ok, by simpa only [PyData.weight] using h.we, by have := h.de; simp only [PyData.depth]; omega⟩
theorem Fs.lst {w n : Nat} {ds : List PyData} (h : Fs w n ds) : Fv w (n + 1) (.list ds) := ⟨by simpa only [okP] using h.ok, by simpa only [PyData.weight] using h.we, by have := h.de; simp only [PyData.depth]; omega⟩
theorem Fs.app {w w' n n' : Nat} {a b : List PyData} (h : Fs w n a) (h' : Fs w' n' b) : Fs (w + w') (max n n') (a ++ b) :=
  ⟨by rw [okPs_app, h.ok, h'.ok]; rfl, by rw [weight_app]; have := h.we; have := h'.we; omega, by rw [depth_app]; have := h.de; have := h'.de; omega⟩
theorem Fs.one {w n : Nat} {d : PyData} (h : Fv w n d) : Fs (w + 1) n [d] := ⟨by simp [okPs, h.ok], by simp [PyData.weightAll]; exact h.we, by simp [PyData.depthAll]; exact h.de⟩
theorem Fs.mono {w n w' n' : Nat} {d : List PyData} (h : Fs w n d) (h1 : w ≤ w') (h2 : n ≤ n') : Fs w' n' d := ⟨h.ok, Nat.le_trans h.we h1, Nat.le_trans h.de h2⟩
theorem Fs.split {w n : Nat} {a b : List PyData} (h : Fs w n (a ++ b)) : ∃ x y, x + y ≤ w ∧ Fs x n a ∧ Fs y n b := by
  have h1 := h.ok
  have h2 := h.we
  have h3 := h.de
  rw [okPs_app, Bool.and_eq_true] at h1
  rw [weight_app] at h2
  rw [depth_app] at h3
  exact ⟨_, _, h2, ⟨h1.1, Nat.le_refl _, by omega⟩, ⟨h1.2, Nat.le_refl _, by omega⟩⟩
theorem Fs.len {w n : Nat} {ds : List PyData} (h : Fs w n ds) : ds.length ≤ w := by
  refine Nat.le_trans ?_ h.we
  clear h
  induction ds with
  | nil => exact Nat.zero_le _
  | cons x r ih => simp only [PyData.weightAll, List.length_cons]; omega
theorem Fs.mem {w n : Nat} {ds : List PyData} (h : Fs w n ds) {d : PyData} (hd : d ∈ ds) : Fv w n d := by
  obtain ⟨a, b, rfl⟩ := List.append_of_mem hd
  obtain ⟨x, y, hxy, _, h2⟩ := h.split
  have h3 := h2.ok
  have h4 := h2.we
  have h5 := h2.de
  simp only [okPs, Bool.and_eq_true] at h3
  simp only [PyData.weightAll] at h4
  simp only [PyData.depthAll] at h5
  exact ⟨h3.1, by omega, by omega⟩
end Pv
end

section
set_option maxRecDepth 10000
set_option maxHeartbeats 4000000
namespace Pv
open PySem PySem.Spec L2
open PyProof.Rows hiding St
/-! trees of defs that several laws share (printed by gen.py) -/
def nxis_one : List Str := ["value", "names"]
def bxis_one : Sx := (.cs (.ret (.an (.cs (.isi (.v 0) .str) (.cs (.cmp .In (.v 0) (.v 1)) .nl)))) .nl)
/-- is_one(value, names) -/
def fxis_one : Fd := ⟨2, 2, true, bxis_one⟩
def nxstate_error : List Str := ["app", "value", "screen"]
def bxstate_error_1 (cis_one : Nat) : Sx := (.cs (.ret (.k .none)) .nl)
def bxstate_error_2 (cis_one : Nat) : Sx := (.cs (.iff (.orr (.cs (.no (.tt (.isi (.ix (.v 1) (.k (.int 1))) .tup))) (.cs (.no (.tt (.bi .all (.cs (.lc false [2] (.n 2) (.iSeq (.ix (.v 1) (.k (.int 1)))) .nl (.call cis_one (.cs (.v 2) (.cs (.ix (.v 0) (.k (.int 2))) .nl)))) .nl)))) .nl))) (.cs (.ret (.k (.str "stack"))) .nl) .nl) (bxstate_error_1 cis_one))
def bxstate_error_3 (cis_one : Nat) : Sx := (.cs (.iff (.no (.tt (.call cis_one (.cs (.ix (.v 1) (.k (.int 0))) (.cs (.ix (.v 0) (.k (.int 1))) .nl))))) (.cs (.ret (.k (.str "mode"))) .nl) .nl) (bxstate_error_2 cis_one))
def bxstate_error (cis_one : Nat) : Sx := (.cs (.iff (.orr (.cs (.no (.tt (.isi (.v 1) .tup))) (.cs (.tt (.cmp .NotEq (.bi .len (.cs (.v 1) .nl)) (.k (.int 2)))) .nl))) (.cs (.ret (.k (.str "state"))) .nl) .nl) (bxstate_error_3 cis_one))
/-- state_error(app, value) -/
def fxstate_error (cis_one : Nat) : Fd := ⟨2, 3, true, bxstate_error cis_one⟩
def nx_law_odd : List Str := ["_law_spring_here", "_law_some"]
def bx_law_odd (c_law_pick : Nat) : Sx := (.cs (.asg (.n 1) (.lst false (.cs (.k .none) (.cs (.k (.bool true)) (.cs (.k (.bool false)) (.cs (.neg (.k (.int 1))) (.cs (.k (.int 0)) (.cs (.k (.int 1)) (.cs (.k (.int 9)) (.cs (.k (.int 10)) (.cs (.op .Pow (.k (.int 10)) (.k (.int 18))) (.cs (.op .Pow (.k (.int 10)) (.k (.int 39))) (.cs (.k (.str "")) (.cs (.k (.str "a")) (.cs (.k (.str "A")) (.cs (.k (.str "home")) (.cs (.k (.str "guest")) (.cs (.k (.str "all")) (.cs (.k (.str "back")) (.cs (.tup .nl) .nl)))))))))))))))))))) (.cs (.asg (.n 1) (.op .Add (.v 1) (.lst false (.cs (.tup (.cs (.k (.int 0)) .nl)) (.cs (.tup (.cs (.k (.str "a")) .nl)) (.cs (.tup (.cs (.k (.str "left")) .nl)) (.cs (.tup (.cs (.k (.str "back")) .nl)) (.cs (.tup (.cs (.k (.str "guest")) (.cs (.tup (.cs (.k (.str "home")) .nl)) .nl))) (.cs (.lst false .nl) (.cs (.lst false (.cs (.k (.str "a")) .nl)) (.cs (.dic .nl) (.cs (.dic (.cs (.k (.str "a")) (.cs (.k (.int 1)) .nl))) (.cs (.tup (.cs (.k (.str "to")) (.cs (.k (.str "a")) .nl))) .nl))))))))))))) (.cs (.asg (.n 1) (.op .Add (.v 1) (.lst false (.cs (.tup (.cs (.k .none) (.cs (.k (.str "a")) .nl))) (.cs (.k (.str "abcdefghi")) (.cs (.tup (.cs (.k (.str "a")) (.cs (.tup .nl) .nl))) (.cs (.tup (.cs (.k (.str "a")) (.cs (.tup (.cs (.k (.str "a")) .nl)) .nl))) (.cs (.tup (.cs (.k (.str "open")) (.cs (.k (.str "home")) .nl))) (.cs (.tup (.cs (.k (.str "top")) (.cs (.k (.str "a")) .nl))) (.cs (.k (.str "a b")) .nl)))))))))) (.cs (.ret (.call c_law_pick (.cs (.v 0) (.cs (.v 1) .nl)))) .nl))))
/-- _law_odd(_law_spring_here) -/
def fx_law_odd (c_law_pick : Nat) : Fd := ⟨1, 2, true, bx_law_odd c_law_pick⟩
def nx_law_bent : List Str := ["_law_spring_here", "_law_value", "_law_places", "_law_at", "_law_some", "_law_k"]
def bx_law_bent_1 (c_law_bent : Nat) (c_law_drop : Nat) (c_law_odd : Nat) (c_law_pick : Nat) : Sx := (.cs (.asg (.n 3) (.call c_law_drop (.cs (.v 0) (.cs (.op .Add (.bi .len (.cs (.v 1) .nl)) (.k (.int 1))) .nl)))) (.cs (.asg (.n 4) (.lst false (.cs (.op .Add (.op .Add (.sl (.v 1) .nl (.cs (.v 3) .nl)) (.tup (.cs (.call c_law_odd (.cs (.v 0) .nl)) .nl))) (.sl (.v 1) (.cs (.op .Add (.v 3) (.k (.int 1))) .nl) .nl)) (.cs (.op .Add (.sl (.v 1) .nl (.cs (.v 3) .nl)) (.sl (.v 1) (.cs (.op .Add (.v 3) (.k (.int 1))) .nl) .nl)) (.cs (.u .rev (.v 1)) (.cs (.bi .list (.cs (.v 1) .nl)) .nl)))))) (.cs (.ret (.call c_law_pick (.cs (.v 0) (.cs (.op .Add (.v 4) (.lst false (.cs (.op .Add (.op .Add (.sl (.v 1) .nl (.cs (.v 3) .nl)) (.tup (.cs (.call c_law_odd (.cs (.v 0) .nl)) .nl))) (.sl (.v 1) (.cs (.v 3) .nl) .nl)) (.cs (.op .Add (.v 1) (.sl (.v 1) (.cs (.neg (.k (.int 1))) .nl) .nl)) .nl)))) .nl)))) .nl)))
def bx_law_bent (c_law_bent : Nat) (c_law_drop : Nat) (c_law_odd : Nat) (c_law_pick : Nat) : Sx := (.cs (.asg (.n 2) (.lc false [5] (.n 5) (.iRng (.bi .len (.cs (.v 1) .nl))) (.cs (.tt (.isi (.ix (.v 1) (.v 5)) .tup)) .nl) (.v 5))) (.cs (.iff (.an (.cs (.tt (.cmp .NotEq (.v 2) (.lst false .nl))) (.cs (.tt (.cmp .Gt (.call c_law_drop (.cs (.v 0) (.cs (.k (.int 4)) .nl))) (.k (.int 0)))) .nl))) (.cs (.asg (.n 3) (.call c_law_pick (.cs (.v 0) (.cs (.v 2) .nl)))) (.cs (.ret (.op .Add (.op .Add (.sl (.v 1) .nl (.cs (.v 3) .nl)) (.tup (.cs (.call c_law_bent (.cs (.v 0) (.cs (.ix (.v 1) (.v 3)) .nl))) .nl))) (.sl (.v 1) (.cs (.op .Add (.v 3) (.k (.int 1))) .nl) .nl))) .nl)) .nl) (bx_law_bent_1 c_law_bent c_law_drop c_law_odd c_law_pick)))
/-- _law_bent(_law_spring_here, _law_value) -/
def fx_law_bent (c_law_bent : Nat) (c_law_drop : Nat) (c_law_odd : Nat) (c_law_pick : Nat) : Fd := ⟨2, 6, true, bx_law_bent c_law_bent c_law_drop c_law_odd c_law_pick⟩
def nx_law_deep_state : List Str := ["_law_spring_here", "_law_app_here", "_law_most", "_law_some", "_law_stack", "_law_k"]
def bx_law_deep_state (c_law_drop : Nat) (c_law_pick : Nat) : Sx := (.cs (.asg (.n 3) (.lst false (.cs (.call c_law_pick (.cs (.v 0) (.cs (.ix (.v 1) (.k (.int 2))) .nl))) (.cs (.call c_law_pick (.cs (.v 0) (.cs (.ix (.v 1) (.k (.int 2))) .nl))) .nl)))) (.cs (.asg (.n 4) (.lc false [5] (.n 5) (.iRng (.call c_law_drop (.cs (.v 0) (.cs (.v 2) .nl)))) .nl (.call c_law_pick (.cs (.v 0) (.cs (.op .Add (.v 3) (.lst false (.cs (.call c_law_pick (.cs (.v 0) (.cs (.ix (.v 1) (.k (.int 2))) .nl))) .nl))) .nl))))) (.cs (.ret (.tup (.cs (.call c_law_pick (.cs (.v 0) (.cs (.ix (.v 1) (.k (.int 1))) .nl))) (.cs (.bi .tuple (.cs (.v 4) .nl)) .nl)))) .nl)))
/-- _law_deep_state(_law_spring_here, _law_app_here, _law_most) -/
def fx_law_deep_state (c_law_drop : Nat) (c_law_pick : Nat) : Fd := ⟨3, 6, true, bx_law_deep_state c_law_drop c_law_pick⟩
def nx_law_far_state : List Str := ["_law_spring_here", "_law_app_here", "_law_part", "_law_many", "_law_k"]
def bx_law_far_state (c_law_drop : Nat) (c_law_pick : Nat) : Sx := (.cs (.asg (.n 2) (.lc false [4] (.n 4) (.iRng (.op .Add (.k (.int 1)) (.call c_law_drop (.cs (.v 0) (.cs (.k (.int 7)) .nl))))) .nl (.call c_law_pick (.cs (.v 0) (.cs (.ix (.v 1) (.k (.int 2))) .nl))))) (.cs (.asg (.n 3) (.op .Add (.k (.int 2900)) (.call c_law_drop (.cs (.v 0) (.cs (.k (.int 90)) .nl))))) (.cs (.ret (.tup (.cs (.call c_law_pick (.cs (.v 0) (.cs (.ix (.v 1) (.k (.int 1))) .nl))) (.cs (.sl (.bi .tuple (.cs (.op .Mult (.v 2) (.v 3)) .nl)) .nl (.cs (.v 3) .nl)) .nl)))) .nl)))
/-- _law_far_state(_law_spring_here, _law_app_here) -/
def fx_law_far_state (c_law_drop : Nat) (c_law_pick : Nat) : Fd := ⟨2, 5, true, bx_law_far_state c_law_drop c_law_pick⟩
def nx_law_state_word : List Str := ["_law_app_here", "_law_value", "_law_wrong", "_law_one"]
def bx_law_state_word_1 : Sx := (.cs (.asg (.n 2) (.lc false [3] (.n 3) (.iSeq (.ix (.v 1) (.k (.int 1)))) (.cs (.orr (.cs (.no (.tt (.isi (.v 3) .str))) (.cs (.tt (.cmp .NotIn (.v 3) (.ix (.v 0) (.k (.int 2))))) .nl))) .nl) (.k (.int 1)))) (.cs (.ret (.ife (.tt (.cmp .NotEq (.v 2) (.lst false .nl))) (.k (.str "stack")) (.k .none))) .nl))
def bx_law_state_word_2 : Sx := (.cs (.iff (.no (.tt (.isi (.ix (.v 1) (.k (.int 1))) .tup))) (.cs (.ret (.k (.str "stack"))) .nl) .nl) (bx_law_state_word_1))
def bx_law_state_word_3 : Sx := (.cs (.iff (.orr (.cs (.no (.tt (.isi (.ix (.v 1) (.k (.int 0))) .str))) (.cs (.tt (.cmp .NotIn (.ix (.v 1) (.k (.int 0))) (.ix (.v 0) (.k (.int 1))))) .nl))) (.cs (.ret (.k (.str "mode"))) .nl) .nl) (bx_law_state_word_2))
def bx_law_state_word : Sx := (.cs (.iff (.orr (.cs (.no (.tt (.isi (.v 1) .tup))) (.cs (.tt (.cmp .NotEq (.bi .len (.cs (.v 1) .nl)) (.k (.int 2)))) .nl))) (.cs (.ret (.k (.str "state"))) .nl) .nl) (bx_law_state_word_3))
/-- _law_state_word(_law_app_here, _law_value) -/
def fx_law_state_word : Fd := ⟨2, 4, true, bx_law_state_word⟩
end Pv
end

section
set_option maxRecDepth 10000
set_option maxHeartbeats 4000000
namespace Pv
open PySem PySem.Spec L2
open PyProof.Rows hiding St

/-! ## odd values, bent values -/
theorem e_pow {S : Sto} (i j : Int) (h : decide (0 ≤ j ∧ j ≤ 1000 ∧ i.natAbs < 2 ^ 64) = true) : fPow S (.p (.int i)) (.p (.int j)) = some (.p (.int (i ^ j.toNat)), S) := if_pos h
theorem e_pow18 {S : Sto} : fPow S (.p (.int 10)) (.p (.int 18)) = some (.p (.int (10 ^ 18)), S) := rfl
theorem e_pow39 {S : Sto} : fPow S (.p (.int 10)) (.p (.int 39)) = some (.p (.int (10 ^ 39)), S) := rfl
def smB (w n : Nat) (d : PyData) : Bool := okP d && decide (d.weight ≤ w) && decide (d.depth ≤ n)
theorem smB_fv {w n : Nat} {d : PyData} (h : smB w n d = true) : Fv w n d := by
  simp only [smB, Bool.and_eq_true, decide_eq_true_eq] at h
  exact ⟨h.1.1, h.1.2, h.2⟩
theorem odd_ok {T : List Fd} {k i iD iP : Nat} {s : Spg} {R : Sto} (hD : T[iD]? = some fx_law_drop) (hP : T[iP]? = some (fx_law_pick iD)) (h : T[i]? = some (fx_law_odd iP)) (hc : CloR R) {Q : W → Sto → Prop} {E : Xc → Sto → Prop}
    (q : ∀ d s', Fv 200 3 d → Q (.p d) (Spr s' R)) : Ok (callN T (k + 3) i [.r 1] (Spr s R)) Q E := by
  refine Ok_call h rfl ?_
  simp only [fx_law_odd, bx_law_odd, So_cs, So_nl, So_then, So_ite, So_nx, So_ret, So_bk, So_ct, evS, evE, evEs, evT, evTa, evTo, evAn, evOr, evAs, evP, evI, Ok_bind, Ok_ok, Ok_bad, Ok_some, Ok_bs, Ok_ite, asgT, asgR, asgT.asgTs, setAll, wipeT, biF, meF, binF, cmpF, bl?, List.getElem?_cons_zero, List.getElem?_cons_succ, List.set_cons_zero, List.set_cons_succ, List.map_cons, List.map_nil, List.replicate_succ, List.replicate_zero, List.cons_append, List.nil_append, Nat.sub_self, Nat.reduceSub, Nat.reduceAdd, e_pow18, e_pow39, dicD, atomP, if_true, mkT0, mkT1, mkT2, mkL0, mkL1, mkL7, mkL10, mkL18]
  rw [e_addL _ _ (by decide), Ok_some]
  simp only [So_cs, So_nl, So_then, So_ite, So_nx, So_ret, So_bk, So_ct, evS, evE, evEs, evT, evTa, evTo, evAn, evOr, evAs, evP, evI, Ok_bind, Ok_ok, Ok_bad, Ok_some, Ok_bs, Ok_ite, asgT, asgR, asgT.asgTs, setAll, wipeT, biF, meF, binF, cmpF, bl?, List.getElem?_cons_zero, List.getElem?_cons_succ, List.set_cons_zero, List.set_cons_succ, List.map_cons, List.map_nil, List.replicate_succ, List.replicate_zero, List.cons_append, List.nil_append, Nat.sub_self, Nat.reduceSub, Nat.reduceAdd]
  rw [e_addL _ _ (by decide), Ok_some]
  simp only [So_cs, So_nl, So_then, So_ite, So_nx, So_ret, So_bk, So_ct, evS, evE, evEs, evT, evTa, evTo, evAn, evOr, evAs, evP, evI, Ok_bind, Ok_ok, Ok_bad, Ok_some, Ok_bs, Ok_ite, asgT, asgR, asgT.asgTs, setAll, wipeT, biF, meF, binF, cmpF, bl?, List.getElem?_cons_zero, List.getElem?_cons_succ, List.set_cons_zero, List.set_cons_succ, List.map_cons, List.map_nil, List.replicate_succ, List.replicate_zero, List.cons_append, List.nil_append, Nat.sub_self, Nat.reduceSub, Nat.reduceAdd]
  refine pick_ok hD hP (.inl rfl) (by simp) (by decide) hc fun d s1 hd => ?_
  refine Ok_endS0 hc (q _ _ (smB_fv ?_))
  revert d
  rw [← List.all_eq_true]
  decide +kernel
theorem Fs.take {w n : Nat} {ds : List PyData} (h : Fs w n ds) (k : Nat) : Fs w n (ds.take k) := by
  rw [← List.take_append_drop k ds] at h
  obtain ⟨x, y, hxy, h1, _⟩ := h.split
  exact h1.mono (by omega) (Nat.le_refl _)
theorem Fs.drop {w n : Nat} {ds : List PyData} (h : Fs w n ds) (k : Nat) : Fs w n (ds.drop k) := by
  rw [← List.take_append_drop k ds] at h
  obtain ⟨x, y, hxy, _, h1⟩ := h.split
  exact h1.mono (by omega) (Nat.le_refl _)
theorem Fs.cut {w n : Nat} {ds : List PyData} (h : Fs w n ds) (lo hi : Option Int) : Fs w n (cutL ds lo hi) := (h.drop _).take _
theorem Fs.rev {w n : Nat} {ds : List PyData} (h : Fs w n ds) : Fs w n ds.reverse := by
  have key : ∀ ds : List PyData, PyData.weightAll ds.reverse = PyData.weightAll ds ∧ PyData.depthAll ds.reverse = PyData.depthAll ds := by
    intro ds
    induction ds with
    | nil => exact ⟨rfl, rfl⟩
    | cons x r ih =>
      simp only [List.reverse_cons]
      rw [weight_app, depth_app, ih.1, ih.2]
      simp only [PyData.weightAll, PyData.depthAll]
      omega
  refine ⟨okPs_all.mpr fun x hx => okPs_all.mp h.ok x (List.mem_reverse.mp hx), ?_, ?_⟩
  · rw [(key ds).1]; exact h.we
  · rw [(key ds).2]; exact h.de
theorem Fs.nil {w n : Nat} : Fs w n [] := ⟨rfl, Nat.zero_le _, Nat.zero_le _⟩
theorem cutL_len {α : Type} (xs : List α) (lo hi : Option Int) : (cutL xs lo hi).length ≤ xs.length := by
  unfold cutL
  simp
  omega
theorem e_slT {S : Sto} (lo hi : Option Int) (ds : List PyData) : fSl lo hi S (.p (.tuple ds)) = some (.p (.tuple (cutL ds lo hi)), S) := rfl
theorem e_revT {S : Sto} (ds : List PyData) : fRev S (.p (.tuple ds)) = some (.p (.tuple ds.reverse), S) := rfl
theorem e_isi {d : PyData} : isiB (.p d) .tup = isTup d := by cases d <;> rfl
theorem ne_ints {S : Sto} (ns : List Int) : fNe S (.p (.list (ns.map PyData.int))) (.p (.list [])) = some (.p (.bool (!ns.isEmpty)), S) := by
  have e3 : shapedB (.list (ns.map PyData.int)) = true := by
    unfold shapedB SeqAt.shaped
    have := depth_ints ns
    simp [PyData.canLay0, canLay_ints, PyData.depth]
    omega
  rw [e_neD rfl rfl e3 rfl]
  cases ns <;> rfl
theorem cut_from {α : Type} (xs : List α) (k : Nat) : cutL xs (some (k : Int)) none = xs.drop k := by
  unfold cutL
  rw [HT.sIx_none, HT.sIx_nat]
  rcases Nat.le_total k xs.length with h | h
  · rw [Nat.min_eq_left h]
    exact List.take_of_length_le (by simp)
  · rw [Nat.min_eq_right h, Nat.sub_self, List.drop_eq_nil_of_le h]
    simp
theorem pick_okN {T : List Fd} {k i iD : Nat} {s : Spg} {R : Sto} {w : W} {ds : List PyData} (hD : T[iD]? = some fx_law_drop) (h : T[i]? = some (fx_law_pick iD)) (hw : w = .p (.list ds) ∨ w = .p (.tuple ds)) (h0 : ds ≠ []) (h1 : ds.length ≤ 1000000) (hc : CloR R) {Q : W → Sto → Prop} {E : Xc → Sto → Prop}
    (q : ∀ d s', d ∈ ds → Q (.p d) (Spr s' R)) : Ok (callN T (k + 2) i [.r 1, w] (Spr s R)) Q E := by
  refine Ok_call h rfl ?_
  have hp : 0 < ds.length := List.length_pos_iff.mpr h0
  have eL : fLen (Spr s R) [w] = some (.p (.int ds.length), Spr s R) := by rcases hw with rfl | rfl <;> rfl
  have eX : ∀ (s' : Spg) (z : Nat) (d : PyData), ds[z]? = some d → fIx (Spr s' R) w (.p (.int z)) = some (.p d, Spr s' R) := fun s' z d hz => by
    rcases hw with rfl | rfl
    · rw [e_ixL, atI_ok hz]; rfl
    · rw [e_ixT, atI_ok hz]; rfl
  simp only [fx_law_pick, bx_law_pick, So_cs, So_nl, So_then, So_ite, So_nx, So_ret, So_bk, So_ct, evS, evE, evEs, evT, evTa, evTo, evAn, evOr, evAs, evP, evI, Ok_bind, Ok_ok, Ok_bad, Ok_some, Ok_bs, Ok_ite, asgT, asgR, asgT.asgTs, setAll, wipeT, biF, meF, binF, cmpF, bl?, List.getElem?_cons_zero, List.getElem?_cons_succ, List.set_cons_zero, List.set_cons_succ, List.map_cons, List.map_nil, List.replicate_succ, List.replicate_zero, List.cons_append, List.nil_append, Nat.sub_self, Nat.reduceSub, Nat.reduceAdd, eL]
  refine drop_ok hD (by omega) (by omega) hc fun z s' hz => ?_
  have hz' : z < ds.length := by omega
  rw [eX s' z ds[z] (List.getElem?_eq_getElem hz'), Ok_some]
  exact Ok_end0 (clo_spr hc) rfl rfl (q _ _ (List.getElem_mem hz'))
/-- the way without a tuple inside, or past it -/
theorem bent_flat {T : List Fd} {iB iD iP iO : Nat} {R : Sto} (hD : T[iD]? = some fx_law_drop) (hP : T[iP]? = some (fx_law_pick iD)) (hO : T[iO]? = some (fx_law_odd iP)) (hc : CloR R) {E : Xc → Sto → Prop} {k : Nat}
    {n w : Nat} {ds : List PyData} {s s0 : Spg} {x2 x3 x4 : Option W} {Q : W → Sto → Prop} (hF : Fs w n ds) (hw : w ≤ 100000) (q : ∀ d s', Fv (2 * w + 402) (n + 5) d → Q (.p d) (Spr s' R)) :
    So (evSs (callN T (k + 3)) (bx_law_bent_1 iB iD iO iP) [some (.r 1), some (.p (.tuple ds)), x2, x3, x4, none] (Spr s R)) (endP true (Spr s0 R).length Q E) := by
  have hlen := hF.len
  have len1 : ∀ lo hi, (cutL ds lo hi).length ≤ 100000 := fun lo hi => by have := cutL_len ds lo hi; omega
  have hl : (100000 : Nat) + 100000 + 1 ≤ lim := by decide
  have q' : ∀ d s', Fv (2 * w + 402) (n + 5) d → Ok (if true then sweep (Spr s0 R).length (.p d) (Spr s' R) else .ok (.p d) (Spr s' R)) Q E := fun d s' hd => Ok_end0 (clo_spr hc) rfl rfl (q d s' hd)
  simp only [bx_law_bent_1, So_cs, So_nl, So_then, So_ite, So_nx, So_ret, So_bk, So_ct, evS, evE, evEs, evT, evTa, evTo, evAn, evOr, evAs, evP, evI, Ok_bind, Ok_ok, Ok_bad, Ok_some, Ok_bs, Ok_ite, asgT, asgR, asgT.asgTs, setAll, wipeT, biF, meF, binF, cmpF, bl?, List.getElem?_cons_zero, List.getElem?_cons_succ, List.set_cons_zero, List.set_cons_succ, List.map_cons, List.map_nil, List.replicate_succ, List.replicate_zero, List.cons_append, List.nil_append, Nat.sub_self, Nat.reduceSub, Nat.reduceAdd, e_lenT, e_add]
  refine drop_ok hD (by omega) (by omega) hc fun z s1 hz => ?_
  simp only [So_cs, So_nl, So_then, So_ite, So_nx, So_ret, So_bk, So_ct, evS, evE, evEs, evT, evTa, evTo, evAn, evOr, evAs, evP, evI, Ok_bind, Ok_ok, Ok_bad, Ok_some, Ok_bs, Ok_ite, asgT, asgR, asgT.asgTs, setAll, wipeT, biF, meF, binF, cmpF, bl?, List.getElem?_cons_zero, List.getElem?_cons_succ, List.set_cons_zero, List.set_cons_succ, List.map_cons, List.map_nil, List.replicate_succ, List.replicate_zero, List.cons_append, List.nil_append, Nat.sub_self, Nat.reduceSub, Nat.reduceAdd, e_slT]
  refine odd_ok hD hP hO hc fun o1 s2 ho1 => ?_
  simp only [So_cs, So_nl, So_then, So_ite, So_nx, So_ret, So_bk, So_ct, evS, evE, evEs, evT, evTa, evTo, evAn, evOr, evAs, evP, evI, Ok_bind, Ok_ok, Ok_bad, Ok_some, Ok_bs, Ok_ite, asgT, asgR, asgT.asgTs, setAll, wipeT, biF, meF, binF, cmpF, bl?, List.getElem?_cons_zero, List.getElem?_cons_succ, List.set_cons_zero, List.set_cons_succ, List.map_cons, List.map_nil, List.replicate_succ, List.replicate_zero, List.cons_append, List.nil_append, Nat.sub_self, Nat.reduceSub, Nat.reduceAdd, mkT1, e_slT, e_add]
  have A : ∀ {S : Sto} (lo hi lo' hi' : Option Int), fAdd S (.p (.tuple (cutL ds lo hi))) (.p (.tuple (cutL ds lo' hi'))) = some (.p (.tuple (cutL ds lo hi ++ cutL ds lo' hi')), S) := fun {S} lo hi lo' hi' => e_addT _ _ (by have := len1 lo hi; have := len1 lo' hi'; omega)
  have B : ∀ {S : Sto} (lo hi : Option Int) (d : PyData), fAdd S (.p (.tuple (cutL ds lo hi))) (.p (.tuple [d])) = some (.p (.tuple (cutL ds lo hi ++ [d])), S) := fun {S} lo hi d => e_addT _ _ (by have := len1 lo hi; simp; omega)
  have C : ∀ {S : Sto} (lo hi lo' hi' : Option Int) (d : PyData), fAdd S (.p (.tuple (cutL ds lo hi ++ [d]))) (.p (.tuple (cutL ds lo' hi'))) = some (.p (.tuple (cutL ds lo hi ++ [d] ++ cutL ds lo' hi')), S) := fun {S} lo hi lo' hi' d => e_addT _ _ (by have := len1 lo hi; have := len1 lo' hi'; simp; omega)
  have D : ∀ {S : Sto} (lo hi : Option Int), fAdd S (.p (.tuple ds)) (.p (.tuple (cutL ds lo hi))) = some (.p (.tuple (ds ++ cutL ds lo hi)), S) := fun {S} lo hi => e_addT _ _ (by have := len1 lo hi; omega)
  simp only [B, Ok_some, C, A, uF, e_revT, e_listT, mkL4, Ok_ok]
  refine odd_ok hD hP hO hc fun o2 s3 ho2 => ?_
  simp only [So_cs, So_nl, So_then, So_ite, So_nx, So_ret, So_bk, So_ct, evS, evE, evEs, evT, evTa, evTo, evAn, evOr, evAs, evP, evI, Ok_bind, Ok_ok, Ok_bad, Ok_some, Ok_bs, Ok_ite, asgT, asgR, asgT.asgTs, setAll, wipeT, biF, meF, binF, cmpF, bl?, List.getElem?_cons_zero, List.getElem?_cons_succ, List.set_cons_zero, List.set_cons_succ, List.map_cons, List.map_nil, List.replicate_succ, List.replicate_zero, List.cons_append, List.nil_append, Nat.sub_self, Nat.reduceSub, Nat.reduceAdd, mkT1, e_slT, B, C, D, mkL2]
  rw [e_addL _ _ (by simp [lim]), Ok_some]
  simp only [So_cs, So_nl, So_then, So_ite, So_nx, So_ret, So_bk, So_ct, evS, evE, evEs, evT, evTa, evTo, evAn, evOr, evAs, evP, evI, Ok_bind, Ok_ok, Ok_bad, Ok_some, Ok_bs, Ok_ite, asgT, asgR, asgT.asgTs, setAll, wipeT, biF, meF, binF, cmpF, bl?, List.getElem?_cons_zero, List.getElem?_cons_succ, List.set_cons_zero, List.set_cons_succ, List.map_cons, List.map_nil, List.replicate_succ, List.replicate_zero, List.cons_append, List.nil_append, Nat.sub_self, Nat.reduceSub, Nat.reduceAdd]
  refine pick_ok hD hP (.inl rfl) (by simp) (by simp) hc fun d s4 hd => ?_
  refine q' _ _ ?_
  have cut := fun lo hi => hF.cut lo hi
  have three : ∀ lo hi lo' hi' o, Fv 200 3 o → Fv (2 * w + 402) (n + 5) (.tuple (cutL ds lo hi ++ [o] ++ cutL ds lo' hi')) := fun lo hi lo' hi' o ho =>
    (((cut lo hi).app (Fs.one ho)).app (cut lo' hi')).tup.mono (by omega) (by omega)
  simp only [List.cons_append, List.nil_append, List.mem_cons, List.not_mem_nil, or_false] at hd
  rcases hd with rfl | rfl | rfl | rfl | rfl | rfl
  · exact three _ _ _ _ _ ho1
  · exact ((cut _ _).app (cut _ _)).tup.mono (by omega) (by omega)
  · exact hF.rev.tup.mono (by omega) (by omega)
  · exact hF.lst.mono (by omega) (by omega)
  · exact three _ _ _ _ _ ho2
  · exact (hF.app (cut _ _)).tup.mono (by omega) (by omega)
theorem Fs.get {w n : Nat} {ds : List PyData} (h : Fs w n ds) {j : Nat} {d : PyData} (hj : ds[j]? = some d) : ∃ x w' y, x + w' + 1 + y ≤ w ∧ Fs x n (ds.take j) ∧ Fv w' n d ∧ Fs y n (ds.drop (j + 1)) := by
  have hl := (List.getElem?_eq_some_iff.mp hj).1
  have e : ds = ds.take j ++ (d :: ds.drop (j + 1)) := by
    have := (List.getElem?_eq_some_iff.mp hj).2
    rw [← this, List.getElem_cons_drop, List.take_append_drop]
  rw [e] at h
  obtain ⟨x, y, hxy, h1, h2⟩ := h.split
  obtain ⟨y1, y2, hy, h3, h4⟩ := Fs.split (a := [d]) h2
  have g1 := h3.ok
  have g2 := h3.we
  have g3 := h3.de
  simp only [okPs, Bool.and_true] at g1
  simp only [PyData.weightAll] at g2
  simp only [PyData.depthAll] at g3
  exact ⟨x, d.weight, y2, by omega, h1, ⟨g1, Nat.le_refl _, by omega⟩, h4⟩
theorem isTup_of {d : PyData} (h : isTup d = true) : ∃ es, d = .tuple es := by
  cases d with
  | tuple es => exact ⟨es, rfl⟩
  | _ => cases h
end Pv
end

section
set_option maxRecDepth 10000
set_option maxHeartbeats 4000000
namespace Pv
open PySem PySem.Spec L2
open PyProof.Rows hiding St

/-! ## signs and kinds -/
def memD (d : PyData) (ds : List PyData) : Bool := ds.any fun e => eqD d e
theorem memD_mem {d : PyData} {ds : List PyData} (h : memD d ds = true) : d ∈ ds := by
  obtain ⟨e, he, q⟩ := List.any_eq_true.mp h
  rw [eqD_eq q]; exact he
/-- signs: what a value is called -/
inductive Sym where
  | v (n : Nat) | k (d : PyData) | f (i : Nat) (as : Sym) | rep (a : Sym) | tup (as : Sym) | lst (as : Sym) | ix (a : Sym) (i : Nat) | an (a b : Sym) | nl | cs (a r : Sym)
def eqY : Sym → Sym → Bool
  | .v n, .v m => n == m
  | .k d, .k e => eqD d e
  | .f i a, .f j b => i == j && eqY a b
  | .rep a, .rep b => eqY a b
  | .tup a, .tup b => eqY a b
  | .lst a, .lst b => eqY a b
  | .ix a i, .ix b j => i == j && eqY a b
  | .an a b, .an c d => eqY a c && eqY b d
  | .nl, .nl => true
  | .cs a r, .cs b s => eqY a b && eqY r s
  | _, _ => false
theorem eqY_eq : ∀ {a b : Sym}, eqY a b = true → a = b := by
  intro a
  induction a with
  | v n => intro b h; cases b <;> simp [eqY] at h ⊢; exact h
  | k d => intro b h; cases b <;> simp [eqY] at h ⊢; exact eqD_eq h
  | f i a ih => intro b h; cases b <;> simp [eqY] at h ⊢; exact ⟨h.1, ih h.2⟩
  | rep a ih => intro b h; cases b <;> simp [eqY] at h ⊢; exact ih h
  | tup a ih => intro b h; cases b <;> simp [eqY] at h ⊢; exact ih h
  | lst a ih => intro b h; cases b <;> simp [eqY] at h ⊢; exact ih h
  | ix a i ih => intro b h; cases b <;> simp [eqY] at h ⊢; exact ⟨ih h.2, h.1⟩
  | an a b ih1 ih2 => intro b h; cases b <;> simp [eqY] at h ⊢; exact ⟨ih1 h.1, ih2 h.2⟩
  | nl => intro b h; cases b <;> simp [eqY] at h ⊢
  | cs a r ih1 ih2 => intro b h; cases b <;> simp [eqY] at h ⊢; exact ⟨ih1 h.1, ih2 h.2⟩
section
variable (F : Nat → List PyData → PyData)
mutual
def den (vs : List PyData) : Sym → Option PyData
  | .v n => vs[n]?
  | .k d => some d
  | .f i as => (dens vs as).map (F i)
  | .rep a => (den vs a).map fun d => .str d.shown
  | .tup as => (dens vs as).map .tuple
  | .lst as => (dens vs as).map .list
  | .ix a i => match den vs a with
    | some (.tuple ds) => ds[i]?
    | some (.list ds) => ds[i]?
    | _ => none
  | .an a b => match den vs a with
    | some (.bool true) => den vs b
    | some (.bool false) => some (.bool false)
    | _ => none
  | .nl => none
  | .cs _ _ => none
def dens (vs : List PyData) : Sym → Option (List PyData)
  | .nl => some []
  | .cs a r => match den vs a with
    | some d => (dens vs r).map (d :: ·)
    | none => none
  | _ => none
end
theorem den_mono {vs vs' : List PyData} (h : vs <+: vs') : ∀ s : Sym, (∀ d, den F vs s = some d → den F vs' s = some d) ∧ (∀ d, dens F vs s = some d → dens F vs' s = some d) := by
  obtain ⟨more, rfl⟩ := h
  intro s
  induction s with
  | v n =>
    refine ⟨fun d h => ?_, fun d h => by simp [dens] at h⟩
    simp only [den] at h ⊢
    have hl := (List.getElem?_eq_some_iff.mp h).1
    rw [List.getElem?_append_left hl]; exact h
  | k d => exact ⟨fun d h => h, fun d h => by simp [dens] at h⟩
  | f i a ih =>
    refine ⟨fun d h => ?_, fun d h => by simp [dens] at h⟩
    simp only [den, Option.map_eq_some_iff] at h ⊢
    obtain ⟨x, h1, h2⟩ := h
    exact ⟨x, ih.2 _ h1, h2⟩
  | rep a ih =>
    refine ⟨fun d h => ?_, fun d h => by simp [dens] at h⟩
    simp only [den, Option.map_eq_some_iff] at h ⊢
    obtain ⟨x, h1, h2⟩ := h
    exact ⟨x, ih.1 _ h1, h2⟩
  | tup a ih =>
    refine ⟨fun d h => ?_, fun d h => by simp [dens] at h⟩
    simp only [den, Option.map_eq_some_iff] at h ⊢
    obtain ⟨x, h1, h2⟩ := h
    exact ⟨x, ih.2 _ h1, h2⟩
  | lst a ih =>
    refine ⟨fun d h => ?_, fun d h => by simp [dens] at h⟩
    simp only [den, Option.map_eq_some_iff] at h ⊢
    obtain ⟨x, h1, h2⟩ := h
    exact ⟨x, ih.2 _ h1, h2⟩
  | ix a i ih =>
    refine ⟨fun d h => ?_, fun d h => by simp [dens] at h⟩
    simp only [den] at h ⊢
    cases e : den F vs a with
    | none => rw [e] at h; simp at h
    | some x => rw [e] at h; rw [ih.1 _ e]; exact h
  | an a b ih1 ih2 =>
    refine ⟨fun d h => ?_, fun d h => by simp [dens] at h⟩
    simp only [den] at h ⊢
    cases e : den F vs a with
    | none => rw [e] at h; simp at h
    | some x =>
      rw [e] at h; rw [ih1.1 _ e]
      revert h
      split <;> intro h
      · exact ih2.1 _ h
      · exact h
      · exact absurd h (by simp)
  | nl => exact ⟨fun d h => by simp [den] at h, fun d h => h⟩
  | cs a r ih1 ih2 =>
    refine ⟨fun d h => by simp [den] at h, fun d h => ?_⟩
    simp only [dens] at h ⊢
    cases e : den F vs a with
    | none => rw [e] at h; simp at h
    | some x =>
      rw [e] at h; rw [ih1.1 _ e]
      simp only [Option.map_eq_some_iff] at h ⊢
      obtain ⟨y, h1, h2⟩ := h
      exact ⟨y, ih2.2 _ h1, h2⟩
end
/-- no sign from n on -/
def belY (n : Nat) : Sym → Bool
  | .v m => decide (m < n)
  | .k _ => true
  | .f _ a => belY n a
  | .rep a => belY n a
  | .tup a => belY n a
  | .lst a => belY n a
  | .ix a _ => belY n a
  | .an a b => belY n a && belY n b
  | .nl => true
  | .cs a r => belY n a && belY n r
theorem bel_eq (F : Nat → List PyData → PyData) {vs vs' : List PyData} (h : vs <+: vs') : ∀ {s : Sym}, belY vs.length s = true → den F vs' s = den F vs s ∧ dens F vs' s = dens F vs s := by
  obtain ⟨more, rfl⟩ := h
  intro s
  induction s with
  | v n => intro h; simp only [belY, decide_eq_true_eq] at h; exact ⟨List.getElem?_append_left h, rfl⟩
  | k d => intro h; exact ⟨rfl, rfl⟩
  | f i a ih => intro h; exact ⟨by simp only [den, (ih h).2], rfl⟩
  | rep a ih => intro h; exact ⟨by simp only [den, (ih h).1], rfl⟩
  | tup a ih => intro h; exact ⟨by simp only [den, (ih h).2], rfl⟩
  | lst a ih => intro h; exact ⟨by simp only [den, (ih h).2], rfl⟩
  | ix a i ih => intro h; exact ⟨by simp only [den, (ih h).1], rfl⟩
  | an a b ih1 ih2 => intro h; simp only [belY, Bool.and_eq_true] at h; exact ⟨by simp only [den, (ih1 h.1).1, (ih2 h.2).1], rfl⟩
  | nl => intro h; exact ⟨rfl, rfl⟩
  | cs a r ih1 ih2 => intro h; simp only [belY, Bool.and_eq_true] at h; exact ⟨rfl, by simp only [dens, (ih1 h.1).1, (ih2 h.2).2]⟩
/-- kinds of values; rows of them by nl, cs -/
inductive Ty where
  | any (tu : Bool) (w d : Nat)
  | int (lo hi : Int) | bool | str (n : Nat)
  | one (ds : List PyData)
  | tup (ts : Ty) | lst (ts : Ty)
  | seqN (l : Bool) (t : Ty) (lo hi : Nat)
  | dep (k : Nat) (as : Sym)
  | uni (a b : Ty)
  | nl | cs (a r : Ty)
def eqT : Ty → Ty → Bool
  | .any a b c, .any a' b' c' => a == a' && b == b' && c == c'
  | .int a b, .int a' b' => decide (a = a') && decide (b = b')
  | .bool, .bool => true
  | .str n, .str m => n == m
  | .one a, .one b => eqDs a b
  | .tup a, .tup b => eqT a b
  | .lst a, .lst b => eqT a b
  | .seqN l t lo hi, .seqN l' t' lo' hi' => l == l' && eqT t t' && lo == lo' && hi == hi'
  | .dep k a, .dep k' a' => k == k' && eqY a a'
  | .uni a b, .uni a' b' => eqT a a' && eqT b b'
  | .nl, .nl => true
  | .cs a r, .cs a' r' => eqT a a' && eqT r r'
  | _, _ => false
theorem eqT_eq : ∀ {a b : Ty}, eqT a b = true → a = b := by
  intro a
  induction a with
  | any x y z => intro b h; cases b <;> simp [eqT] at h ⊢; exact ⟨h.1.1, h.1.2, h.2⟩
  | int x y => intro b h; cases b <;> simp [eqT] at h ⊢; exact h
  | bool => intro b h; cases b <;> simp [eqT] at h ⊢
  | str n => intro b h; cases b <;> simp [eqT] at h ⊢; exact h
  | one ds => intro b h; cases b <;> simp [eqT] at h ⊢; exact eqDs_eq h
  | tup a ih => intro b h; cases b <;> simp [eqT] at h ⊢; exact ih h
  | lst a ih => intro b h; cases b <;> simp [eqT] at h ⊢; exact ih h
  | seqN l t lo hi ih => intro b h; cases b <;> simp [eqT] at h ⊢; exact ⟨h.1.1.1, ih h.1.1.2, h.1.2, h.2⟩
  | dep k a => intro b h; cases b <;> simp [eqT] at h ⊢; exact ⟨h.1, eqY_eq h.2⟩
  | uni a b ih1 ih2 => intro b h; cases b <;> simp [eqT] at h ⊢; exact ⟨ih1 h.1, ih2 h.2⟩
  | nl => intro b h; cases b <;> simp [eqT] at h ⊢
  | cs a r ih1 ih2 => intro b h; cases b <;> simp [eqT] at h ⊢; exact ⟨ih1 h.1, ih2 h.2⟩
def sq (l : Bool) (ds : List PyData) : PyData := if l then .list ds else .tuple ds
section
variable (F : Nat → List PyData → PyData) (P : Nat → List PyData → PyData → Prop)
mutual
def In (vs : List PyData) : Ty → PyData → Prop
  | .any tu w n, d => Fv w n d ∧ (tu = true → isTup d = true)
  | .int lo hi, d => ∃ i, d = .int i ∧ lo ≤ i ∧ i ≤ hi
  | .bool, d => ∃ b, d = .bool b
  | .str n, d => ∃ x, d = .str x ∧ PyData.strOk x = true ∧ x.length ≤ n
  | .one ds, d => d ∈ ds
  | .tup ts, d => ∃ ds, d = .tuple ds ∧ Ins vs ts ds
  | .lst ts, d => ∃ ds, d = .list ds ∧ Ins vs ts ds
  | .seqN l t lo hi, d => ∃ ds, d = sq l ds ∧ (∀ x ∈ ds, In vs t x) ∧ lo ≤ ds.length ∧ ds.length ≤ hi
  | .dep k as, d => ∃ xs, dens F vs as = some xs ∧ P k xs d
  | .uni a b, d => In vs a d ∨ In vs b d
  | .nl, _ => False
  | .cs _ _, _ => False
def Ins (vs : List PyData) : Ty → List PyData → Prop
  | .nl, ds => ds = []
  | .cs a r, ds => ∃ x xs, ds = x :: xs ∧ In vs a x ∧ Ins vs r xs
  | _, _ => False
end
variable {F P}
theorem In_mono {vs vs' : List PyData} (h : vs <+: vs') : ∀ t : Ty, (∀ d, In F P vs t d → In F P vs' t d) ∧ (∀ ds, Ins F P vs t ds → Ins F P vs' t ds) := by
  intro t
  induction t with
  | any a b c => exact ⟨fun d h => h, fun d h => h⟩
  | int a b => exact ⟨fun d h => h, fun d h => h⟩
  | bool => exact ⟨fun d h => h, fun d h => h⟩
  | str n => exact ⟨fun d h => h, fun d h => h⟩
  | one ds => exact ⟨fun d h => h, fun d h => h⟩
  | tup a ih => exact ⟨fun d h => by simp only [In] at h ⊢; obtain ⟨ds, e, q⟩ := h; exact ⟨ds, e, ih.2 _ q⟩, fun d h => h⟩
  | lst a ih => exact ⟨fun d h => by simp only [In] at h ⊢; obtain ⟨ds, e, q⟩ := h; exact ⟨ds, e, ih.2 _ q⟩, fun d h => h⟩
  | seqN l t lo hi ih => exact ⟨fun d h => by simp only [In] at h ⊢; obtain ⟨ds, e, q, r⟩ := h; exact ⟨ds, e, fun x hx => ih.1 _ (q x hx), r⟩, fun d h => h⟩
  | dep k a => exact ⟨fun d q => by simp only [In] at q ⊢; obtain ⟨xs, e, q⟩ := q; exact ⟨xs, (den_mono F h a).2 _ e, q⟩, fun d h => h⟩
  | uni a b ih1 ih2 => exact ⟨fun d h => by simp only [In] at h ⊢; exact h.imp (ih1.1 d) (ih2.1 d), fun d h => h⟩
  | nl => exact ⟨fun d h => h, fun d h => h⟩
  | cs a r ih1 ih2 => exact ⟨fun d h => h, fun d h => by simp only [Ins] at h ⊢; obtain ⟨x, xs, e, p, q⟩ := h; exact ⟨x, xs, e, ih1.1 _ p, ih2.2 _ q⟩⟩
def belT (n : Nat) : Ty → Bool
  | .dep _ a => belY n a
  | .tup a => belT n a
  | .lst a => belT n a
  | .seqN _ t _ _ => belT n t
  | .uni a b => belT n a && belT n b
  | .cs a b => belT n a && belT n b
  | _ => true
theorem In_bel {vs vs' : List PyData} (h : vs <+: vs') : ∀ t : Ty, belT vs.length t = true → (∀ d, In F P vs' t d → In F P vs t d) ∧ (∀ ds, Ins F P vs' t ds → Ins F P vs t ds) := by
  intro t
  induction t with
  | any a b c => intro _; exact ⟨fun d h => h, fun d h => h⟩
  | int a b => intro _; exact ⟨fun d h => h, fun d h => h⟩
  | bool => intro _; exact ⟨fun d h => h, fun d h => h⟩
  | str n => intro _; exact ⟨fun d h => h, fun d h => h⟩
  | one ds => intro _; exact ⟨fun d h => h, fun d h => h⟩
  | tup a ih => intro b; exact ⟨fun d h => by simp only [In] at h ⊢; obtain ⟨ds, e, q⟩ := h; exact ⟨ds, e, (ih b).2 _ q⟩, fun d h => h⟩
  | lst a ih => intro b; exact ⟨fun d h => by simp only [In] at h ⊢; obtain ⟨ds, e, q⟩ := h; exact ⟨ds, e, (ih b).2 _ q⟩, fun d h => h⟩
  | seqN l t lo hi ih => intro b; exact ⟨fun d h => by simp only [In] at h ⊢; obtain ⟨ds, e, q, r⟩ := h; exact ⟨ds, e, fun x hx => (ih b).1 _ (q x hx), r⟩, fun d h => h⟩
  | dep k a => intro b; exact ⟨fun d q => by simp only [In] at q ⊢; obtain ⟨xs, e, q⟩ := q; exact ⟨xs, by rw [← (bel_eq F h b).2]; exact e, q⟩, fun d h => h⟩
  | uni a b ih1 ih2 => intro q; simp only [belT, Bool.and_eq_true] at q; exact ⟨fun d h => by simp only [In] at h ⊢; exact h.imp ((ih1 q.1).1 d) ((ih2 q.2).1 d), fun d h => h⟩
  | nl => intro _; exact ⟨fun d h => h, fun d h => h⟩
  | cs a r ih1 ih2 => intro q; simp only [belT, Bool.and_eq_true] at q; exact ⟨fun d h => h, fun d h => by simp only [Ins] at h ⊢; obtain ⟨x, xs, e, p, s⟩ := h; exact ⟨x, xs, e, (ih1 q.1).1 _ p, (ih2 q.2).2 _ s⟩⟩
end
/-! ### how great -/
mutual
def wb : Ty → Option (Nat × Nat)
  | .any _ w d => some (w, d)
  | .int lo hi => if lo.natAbs < 10 ^ 48 ∧ hi.natAbs < 10 ^ 48 then some (160, 0) else none
  | .bool => some (0, 0)
  | .str n => some (n, 0)
  | .one ds => if ds.all okP then some (ds.foldl (fun m d => max m d.weight) 0, ds.foldl (fun m d => max m d.depth) 0) else none
  | .tup ts => match wbs ts with
    | some (w, d) => some (w, d + 1)
    | none => none
  | .lst ts => match wbs ts with
    | some (w, d) => some (w, d + 1)
    | none => none
  | .seqN _ t _ hi => match wb t with
    | some (w, d) => some (hi * (w + 1), d + 1)
    | none => none
  | .uni a b => match wb a, wb b with
    | some (w, d), some (w', d') => some (max w w', max d d')
    | _, _ => none
  | _ => none
def wbs : Ty → Option (Nat × Nat)
  | .nl => some (0, 0)
  | .cs a r => match wb a, wbs r with
    | some (w, d), some (w', d') => some (w + 1 + w', max d d')
    | _, _ => none
  | _ => none
end
theorem fold_max {α : Type} (f : α → Nat) : ∀ (l : List α) (m : Nat), m ≤ l.foldl (fun m d => max m (f d)) m ∧ ∀ d ∈ l, f d ≤ l.foldl (fun m d => max m (f d)) m
  | [], m => ⟨Nat.le_refl _, fun d h => nomatch h⟩
  | x :: r, m => by
    obtain ⟨h1, h2⟩ := fold_max f r (max m (f x))
    refine ⟨by simp only [List.foldl_cons]; omega, fun d hd => ?_⟩
    simp only [List.foldl_cons]
    rcases List.mem_cons.mp hd with rfl | hd
    · omega
    · exact h2 d hd
theorem fs_all {w n : Nat} : ∀ {ds : List PyData}, (∀ d ∈ ds, Fv w n d) → Fs (ds.length * (w + 1)) n ds
  | [], _ => ⟨rfl, Nat.zero_le _, Nat.zero_le _⟩
  | x :: r, h => by
    have h1 := h x (List.mem_cons_self ..)
    have h2 := fs_all fun d hd => h d (List.mem_cons_of_mem _ hd)
    refine ⟨by simp [okPs, h1.ok, h2.ok], ?_, ?_⟩
    · have := h1.we; have := h2.we
      simp only [PyData.weightAll, List.length_cons, Nat.succ_mul]; omega
    · have := h1.de; have := h2.de
      simp only [PyData.depthAll]; omega
section
variable {F : Nat → List PyData → PyData} {P : Nat → List PyData → PyData → Prop} {vs : List PyData}
theorem wb_ok : ∀ t : Ty, (∀ w n d, wb t = some (w, n) → In F P vs t d → Fv w n d) ∧ (∀ w n ds, wbs t = some (w, n) → Ins F P vs t ds → Fs w n ds) := by
  intro t
  induction t with
  | any a b c => exact ⟨fun w n d e h => by simp only [wb, Option.some.injEq, Prod.mk.injEq] at e; obtain ⟨rfl, rfl⟩ := e; exact h.1, fun _ _ _ e => by simp [wbs] at e⟩
  | int a b =>
    refine ⟨fun w n d e h => ?_, fun _ _ _ e => by simp [wbs] at e⟩
    simp only [wb] at e
    split at e
    · rename_i hb
      simp only [Option.some.injEq, Prod.mk.injEq] at e
      obtain ⟨rfl, rfl⟩ := e
      obtain ⟨i, rfl, h1, h2⟩ := h
      have hi : i.natAbs < 10 ^ 48 := by omega
      have f := Fit.int (w := 160) (n := 0) hi (Nat.le_refl _)
      exact ⟨by simpa [okP] using hi, f.we, f.de⟩
    · cases e
  | bool => exact ⟨fun w n d e h => by simp only [wb, Option.some.injEq, Prod.mk.injEq] at e; obtain ⟨rfl, rfl⟩ := e; obtain ⟨b, rfl⟩ := h; exact ⟨rfl, Nat.zero_le _, Nat.zero_le _⟩, fun _ _ _ e => by simp [wbs] at e⟩
  | str m => exact ⟨fun w n d e h => by simp only [wb, Option.some.injEq, Prod.mk.injEq] at e; obtain ⟨rfl, rfl⟩ := e; obtain ⟨x, rfl, h1, h2⟩ := h; exact ⟨by simpa [okP] using h1, h2, Nat.zero_le _⟩, fun _ _ _ e => by simp [wbs] at e⟩
  | one ds =>
    refine ⟨fun w n d e h => ?_, fun _ _ _ e => by simp [wbs] at e⟩
    simp only [wb] at e
    split at e
    · rename_i hb
      simp only [Option.some.injEq, Prod.mk.injEq] at e
      obtain ⟨rfl, rfl⟩ := e
      exact ⟨List.all_eq_true.mp hb d h, (fold_max _ ds 0).2 d h, (fold_max _ ds 0).2 d h⟩
    · cases e
  | tup a ih =>
    refine ⟨fun w n d e h => ?_, fun _ _ _ e => by simp [wbs] at e⟩
    simp only [wb] at e
    split at e
    · rename_i w' d' e'
      simp only [Option.some.injEq, Prod.mk.injEq] at e
      obtain ⟨rfl, rfl⟩ := e
      obtain ⟨ds, rfl, h⟩ := h
      exact (ih.2 _ _ _ e' h).tup
    · cases e
  | lst a ih =>
    refine ⟨fun w n d e h => ?_, fun _ _ _ e => by simp [wbs] at e⟩
    simp only [wb] at e
    split at e
    · rename_i w' d' e'
      simp only [Option.some.injEq, Prod.mk.injEq] at e
      obtain ⟨rfl, rfl⟩ := e
      obtain ⟨ds, rfl, h⟩ := h
      exact (ih.2 _ _ _ e' h).lst
    · cases e
  | seqN l t lo hi ih =>
    refine ⟨fun w n d e h => ?_, fun _ _ _ e => by simp [wbs] at e⟩
    simp only [wb] at e
    split at e
    · rename_i w' d' e'
      simp only [Option.some.injEq, Prod.mk.injEq] at e
      obtain ⟨rfl, rfl⟩ := e
      obtain ⟨ds, rfl, h, h1, h2⟩ := h
      have := (fs_all fun x hx => ih.1 _ _ _ e' (h x hx)).mono (Nat.mul_le_mul_right _ h2) (Nat.le_refl _)
      unfold sq
      split
      · exact this.lst
      · exact this.tup
    · cases e
  | dep k a => exact ⟨fun w n d e h => by simp [wb] at e, fun _ _ _ e => by simp [wbs] at e⟩
  | uni a b ih1 ih2 =>
    refine ⟨fun w n d e h => ?_, fun _ _ _ e => by simp [wbs] at e⟩
    simp only [wb] at e
    split at e
    · rename_i w1 d1 w2 d2 e1 e2
      simp only [Option.some.injEq, Prod.mk.injEq] at e
      obtain ⟨rfl, rfl⟩ := e
      rcases h with h | h
      · exact (ih1.1 _ _ _ e1 h).mono (by omega) (by omega)
      · exact (ih2.1 _ _ _ e2 h).mono (by omega) (by omega)
    · cases e
  | nl => exact ⟨fun w n d e h => by simp [wb] at e, fun w n ds e h => by cases h; exact ⟨rfl, Nat.zero_le _, Nat.zero_le _⟩⟩
  | cs a r ih1 ih2 =>
    refine ⟨fun w n d e h => by simp [wb] at e, fun w n ds e h => ?_⟩
    simp only [wbs] at e
    split at e
    · rename_i w1 d1 w2 d2 e1 e2
      simp only [Option.some.injEq, Prod.mk.injEq] at e
      obtain ⟨rfl, rfl⟩ := e
      obtain ⟨x, xs, rfl, h1, h2⟩ := h
      exact ((Fs.one (ih1.1 _ _ _ e1 h1)).app (ih2.2 _ _ _ e2 h2)).mono (Nat.le_refl _) (Nat.le_refl _)
    · cases e
end
mutual
/-- a constant of a kind -/
def inB (d : PyData) : Ty → Bool
  | .any tu w n => okP d && decide (d.weight ≤ w) && decide (d.depth ≤ n) && (!tu || isTup d)
  | .int lo hi => match d with
    | .int i => decide (lo ≤ i) && decide (i ≤ hi)
    | _ => false
  | .bool => match d with
    | .bool _ => true
    | _ => false
  | .str n => match d with
    | .str x => PyData.strOk x && decide (x.length ≤ n)
    | _ => false
  | .one ds => memD d ds
  | .tup ts => match d with
    | .tuple ds => inBs ds ts
    | _ => false
  | .lst ts => match d with
    | .list ds => inBs ds ts
    | _ => false
  | .seqN l t lo hi => match d with
    | .tuple ds => !l && (ds.all fun x => inB x t) && decide (lo ≤ ds.length) && decide (ds.length ≤ hi)
    | .list ds => l && (ds.all fun x => inB x t) && decide (lo ≤ ds.length) && decide (ds.length ≤ hi)
    | _ => false
  | .uni a b => inB d a || inB d b
  | _ => false
def inBs (ds : List PyData) : Ty → Bool
  | .nl => ds.isEmpty
  | .cs a r => match ds with
    | [] => false
    | x :: xs => inB x a && inBs xs r
  | _ => false
end
theorem inB_ok : ∀ t : Ty, (∀ d, inB d t = true → In F P vs t d) ∧ (∀ ds, inBs ds t = true → Ins F P vs t ds) := by
  intro t
  induction t with
  | any a b c =>
    refine ⟨fun d h => ?_, fun _ h => by simp [inBs] at h⟩
    simp only [inB, Bool.and_eq_true, decide_eq_true_eq, Bool.or_eq_true, Bool.not_eq_true'] at h
    exact ⟨⟨h.1.1.1, h.1.1.2, h.1.2⟩, fun e => by rcases h.2 with q | q; (rw [e] at q; cases q); exact q⟩
  | int a b =>
    refine ⟨fun d h => ?_, fun _ h => by simp [inBs] at h⟩
    cases d <;> simp [inB] at h
    exact ⟨_, rfl, h⟩
  | bool =>
    refine ⟨fun d h => ?_, fun _ h => by simp [inBs] at h⟩
    cases d <;> simp [inB] at h
    exact ⟨_, rfl⟩
  | str n =>
    refine ⟨fun d h => ?_, fun _ h => by simp [inBs] at h⟩
    cases d <;> simp [inB] at h
    exact ⟨_, rfl, h⟩
  | one ds => exact ⟨fun d h => memD_mem h, fun _ h => by simp [inBs] at h⟩
  | tup a ih =>
    refine ⟨fun d h => ?_, fun _ h => by simp [inBs] at h⟩
    cases d <;> simp [inB] at h
    exact ⟨_, rfl, ih.2 _ h⟩
  | lst a ih =>
    refine ⟨fun d h => ?_, fun _ h => by simp [inBs] at h⟩
    cases d <;> simp [inB] at h
    exact ⟨_, rfl, ih.2 _ h⟩
  | seqN l t lo hi ih =>
    refine ⟨fun d h => ?_, fun _ h => by simp [inBs] at h⟩
    cases d <;> simp [inB] at h
    · obtain ⟨⟨⟨h1, h2⟩, h3⟩, h4⟩ := h
      exact ⟨_, by rw [h1]; rfl, fun x hx => ih.1 _ (h2 x hx), h3, h4⟩
    · obtain ⟨⟨⟨h1, h2⟩, h3⟩, h4⟩ := h
      exact ⟨_, by rw [h1]; rfl, fun x hx => ih.1 _ (h2 x hx), h3, h4⟩
  | dep k a => exact ⟨fun d h => by simp [inB] at h, fun _ h => by simp [inBs] at h⟩
  | uni a b ih1 ih2 =>
    refine ⟨fun d h => ?_, fun _ h => by simp [inBs] at h⟩
    simp only [inB, Bool.or_eq_true] at h
    exact h.imp (ih1.1 _) (ih2.1 _)
  | nl => exact ⟨fun d h => by simp [inB] at h, fun ds h => by simpa [inBs, Ins] using h⟩
  | cs a r ih1 ih2 =>
    refine ⟨fun d h => by simp [inB] at h, fun ds h => ?_⟩
    cases ds with
    | nil => simp [inBs] at h
    | cons x xs =>
      simp only [inBs, Bool.and_eq_true] at h
      exact ⟨x, xs, rfl, ih1.1 _ h.1, ih2.2 _ h.2⟩
/-! ### the order of kinds -/
def isTupT : Ty → Bool
  | .any tu _ _ => tu
  | .tup _ => true
  | .seqN l _ _ _ => !l
  | .one ds => ds.all isTup
  | .uni a b => isTupT a && isTupT b
  | _ => false
theorem isTupT_ok : ∀ {t : Ty} {d : PyData}, isTupT t = true → In F P vs t d → isTup d = true := by
  intro t
  induction t with
  | any a b c => intro d h q; exact q.2 h
  | tup a ih => intro d h q; obtain ⟨ds, rfl, _⟩ := q; rfl
  | seqN l t lo hi ih => intro d h q; obtain ⟨ds, rfl, _⟩ := q; simp [isTupT] at h; rw [h]; rfl
  | one ds => intro d h q; exact List.all_eq_true.mp h d q
  | uni a b ih1 ih2 => intro d h q; simp only [isTupT, Bool.and_eq_true] at h; rcases q with q | q; exact ih1 h.1 q; exact ih2 h.2 q
  | _ => intro d h; simp [isTupT] at h
def lenT : Ty → Option Nat
  | .nl => some 0
  | .cs _ r => (lenT r).map (· + 1)
  | _ => none
theorem lenT_ok : ∀ {t : Ty} {n : Nat} {ds : List PyData}, lenT t = some n → Ins F P vs t ds → ds.length = n := by
  intro t
  induction t with
  | nl => intro n ds e h; cases h; simpa [lenT] using e
  | cs a r ih1 ih2 =>
    intro n ds e h
    simp only [lenT, Option.map_eq_some_iff] at e
    obtain ⟨m, e, rfl⟩ := e
    obtain ⟨x, xs, rfl, _, h⟩ := h
    rw [List.length_cons, ih2 e h]
  | _ => intro n ds e; simp [lenT] at e
mutual
def sub : Nat → Ty → Ty → Bool
  | 0, _, _ => false
  | n + 1, s, t => eqT s t || match s, t with
    | .uni a b, t => sub n a t && sub n b t
    | .one ds, t => ds.all fun d => inB d t
    | s, .uni a b => sub n s a || sub n s b
    | .int a b, .int c e => decide (c ≤ a) && decide (b ≤ e)
    | .str a, .str b => decide (a ≤ b)
    | .tup a, .tup b => subs n a b
    | .lst a, .lst b => subs n a b
    | .tup a, .seqN l t lo hi => !l && subA n a t && (match lenT a with
      | some m => decide (lo ≤ m) && decide (m ≤ hi)
      | none => false)
    | .lst a, .seqN l t lo hi => l && subA n a t && (match lenT a with
      | some m => decide (lo ≤ m) && decide (m ≤ hi)
      | none => false)
    | .seqN l t lo hi, .seqN l' t' lo' hi' => l == l' && sub n t t' && decide (lo' ≤ lo) && decide (hi ≤ hi')
    | .any tu w (d + 1), .seqN l t lo hi => tu && !l && sub n (.any false w d) t && decide (lo = 0) && decide (w ≤ hi)
    | s, .any tu w d => match wb s with
      | some (w', d') => decide (w' ≤ w) && decide (d' ≤ d) && (!tu || isTupT s)
      | none => false
    | _, _ => false
def subs : Nat → Ty → Ty → Bool
  | 0, _, _ => false
  | n + 1, s, t => match s, t with
    | .nl, .nl => true
    | .cs a r, .cs b q => sub n a b && subs n r q
    | _, _ => false
def subA : Nat → Ty → Ty → Bool
  | 0, _, _ => false
  | n + 1, s, t => match s with
    | .nl => true
    | .cs a r => sub n a t && subA n r t
    | _ => false
end
theorem any_wb {s : Ty} {tu : Bool} {w d : Nat} {x : PyData} (h : (match wb s with
      | some (w', d') => decide (w' ≤ w) && decide (d' ≤ d) && (!tu || isTupT s)
      | none => false) = true) (q : In F P vs s x) : In F P vs (.any tu w d) x := by
  split at h
  · rename_i w' d' e
    simp only [Bool.and_eq_true, decide_eq_true_eq, Bool.or_eq_true, Bool.not_eq_true'] at h
    exact ⟨((wb_ok s).1 _ _ _ e q).mono h.1.1 h.1.2, fun z => isTupT_ok (by rcases h.2 with y | y; (rw [z] at y; cases y); exact y) q⟩
  · cases h
theorem sub_ok : ∀ n : Nat, (∀ s t, sub n s t = true → ∀ d, In F P vs s d → In F P vs t d) ∧ (∀ s t, subs n s t = true → ∀ ds, Ins F P vs s ds → Ins F P vs t ds) ∧ (∀ s t, subA n s t = true → ∀ ds, Ins F P vs s ds → ∀ d ∈ ds, In F P vs t d) := by
  intro n
  induction n with
  | zero => exact ⟨fun s t h => by simp [sub] at h, fun s t h => by simp [subs] at h, fun s t h => by simp [subA] at h⟩
  | succ n ih =>
    obtain ⟨i1, i2, i3⟩ := ih
    refine ⟨fun s t h d q => ?_, fun s t h ds q => ?_, fun s t h ds q => ?_⟩
    · simp only [sub, Bool.or_eq_true] at h
      rcases h with h | h
      · rw [← eqT_eq h]; exact q
      split at h
      · simp only [Bool.and_eq_true] at h
        rcases q with q | q
        · exact i1 _ _ h.1 _ q
        · exact i1 _ _ h.2 _ q
      · exact (inB_ok _).1 _ (List.all_eq_true.mp h d q)
      · simp only [Bool.or_eq_true] at h
        rcases h with h | h
        · exact .inl (i1 _ _ h _ q)
        · exact .inr (i1 _ _ h _ q)
      · simp only [Bool.and_eq_true, decide_eq_true_eq] at h
        obtain ⟨i, rfl, q1, q2⟩ := q
        exact ⟨i, rfl, by omega, by omega⟩
      · simp only [decide_eq_true_eq] at h
        obtain ⟨i, rfl, q1, q2⟩ := q
        exact ⟨i, rfl, q1, by omega⟩
      · obtain ⟨ds, rfl, q⟩ := q
        exact ⟨ds, rfl, i2 _ _ h _ q⟩
      · obtain ⟨ds, rfl, q⟩ := q
        exact ⟨ds, rfl, i2 _ _ h _ q⟩
      · obtain ⟨ds, rfl, q⟩ := q
        simp only [Bool.and_eq_true, Bool.not_eq_true'] at h
        obtain ⟨⟨h1, h2⟩, h3⟩ := h
        split at h3
        · rename_i m e
          simp only [Bool.and_eq_true, decide_eq_true_eq] at h3
          have := lenT_ok e q
          exact ⟨ds, by rw [h1]; rfl, i3 _ _ h2 _ q, by omega, by omega⟩
        · cases h3
      · obtain ⟨ds, rfl, q⟩ := q
        simp only [Bool.and_eq_true] at h
        obtain ⟨⟨h1, h2⟩, h3⟩ := h
        split at h3
        · rename_i m e
          simp only [Bool.and_eq_true, decide_eq_true_eq] at h3
          have := lenT_ok e q
          exact ⟨ds, by rw [h1]; rfl, i3 _ _ h2 _ q, by omega, by omega⟩
        · cases h3
      · obtain ⟨ds, rfl, q, q1, q2⟩ := q
        simp only [Bool.and_eq_true, decide_eq_true_eq, beq_iff_eq] at h
        exact ⟨ds, by rw [h.1.1.1], fun x hx => i1 _ _ h.1.1.2 _ (q x hx), by omega, by omega⟩
      · simp only [Bool.and_eq_true, decide_eq_true_eq, Bool.not_eq_true'] at h
        obtain ⟨⟨⟨⟨h1, h2⟩, h3⟩, h4⟩, h5⟩ := h
        obtain ⟨q1, q2⟩ := q
        have q3 := q2 h1
        cases d <;> simp [isTup] at q3
        rename_i ds
        have q4 := q1.items
        refine ⟨ds, by rw [h2]; rfl, fun x hx => i1 _ _ h3 _ ⟨q4.mem hx, fun z => nomatch z⟩, by omega, ?_⟩
        have := q4.len
        omega
      · exact any_wb h q
      · cases h
    · simp only [subs] at h
      split at h
      · exact q
      · simp only [Bool.and_eq_true] at h
        obtain ⟨x, xs, rfl, q1, q2⟩ := q
        exact ⟨x, xs, rfl, i1 _ _ h.1 _ q1, i2 _ _ h.2 _ q2⟩
      · cases h
    · simp only [subA] at h
      split at h
      · cases q
        intro d hd
        cases hd
      · simp only [Bool.and_eq_true] at h
        obtain ⟨x, xs, rfl, q1, q2⟩ := q
        intro d hd
        rcases List.mem_cons.mp hd with rfl | hd
        · exact i1 _ _ h.1 _ q1
        · exact i3 _ _ h.2 _ q2 _ hd
      · cases h
end Pv
end

section
set_option maxRecDepth 10000
set_option maxHeartbeats 4000000
namespace Pv
open PySem PySem.Spec L2
open PyProof.Rows hiding St

/-! ## what is told of a kind -/
section
variable (ex : Nat → Option Ty)
def xp : Ty → Ty
  | .dep k as => (ex k).getD (.dep k as)
  | .tup a => .tup (xp a)
  | .lst a => .lst (xp a)
  | .seqN l t lo hi => .seqN l (xp t) lo hi
  | .uni a b => .uni (xp a) (xp b)
  | .cs a b => .cs (xp a) (xp b)
  | t => t
end
/-- what names of kinds stand for -/
structure Cxt where
  F : Nat → List PyData → PyData
  P : Nat → List PyData → PyData → Prop
  ex : Nat → Option Ty
  exO : ∀ k t xs vs d, ex k = some t → P k xs d → In F P vs t d
section
variable {X : Cxt} {vs : List PyData}
abbrev Cxt.In (X : Cxt) (vs : List PyData) (t : Ty) (d : PyData) : Prop := Pv.In X.F X.P vs t d
abbrev Cxt.Ins (X : Cxt) (vs : List PyData) (t : Ty) (d : List PyData) : Prop := Pv.Ins X.F X.P vs t d
theorem xp_ok : ∀ t : Ty, (∀ d, X.In vs t d → X.In vs (xp X.ex t) d) ∧ (∀ d, X.Ins vs t d → X.Ins vs (xp X.ex t) d) := by
  intro t
  induction t with
  | dep k a =>
    refine ⟨fun d h => ?_, fun d h => by cases e : X.ex k <;> simp [Cxt.Ins, Ins] at h⟩
    simp only [xp]
    cases e : X.ex k with
    | none => exact h
    | some t => obtain ⟨xs, _, q⟩ := h; exact X.exO k t xs vs d e q
  | tup a ih => exact ⟨fun d h => by obtain ⟨ds, e, q⟩ := h; exact ⟨ds, e, ih.2 _ q⟩, fun d h => h⟩
  | lst a ih => exact ⟨fun d h => by obtain ⟨ds, e, q⟩ := h; exact ⟨ds, e, ih.2 _ q⟩, fun d h => h⟩
  | seqN l t lo hi ih => exact ⟨fun d h => by obtain ⟨ds, e, q, r⟩ := h; exact ⟨ds, e, fun x hx => ih.1 _ (q x hx), r⟩, fun d h => h⟩
  | uni a b ih1 ih2 => exact ⟨fun d h => Or.imp (ih1.1 d) (ih2.1 d) h, fun d h => h⟩
  | cs a r ih1 ih2 => exact ⟨fun d h => h, fun d h => by obtain ⟨x, xs, e, p, q⟩ := h; exact ⟨x, xs, e, ih1.1 _ p, ih2.2 _ q⟩⟩
  | _ => exact ⟨fun d h => h, fun d h => h⟩
end
def FU : Nat := 60
/-- one kind instead of two -/
def tyOfs : List PyData → Ty
  | [] => .nl
  | d :: r => .cs (.one [d]) (tyOfs r)
def hullInt : List PyData → Option (Int × Int)
  | [] => none
  | .int i :: r => match r with
    | [] => some (i, i)
    | r => match hullInt r with
      | some (a, b) => some (min a i, max b i)
      | none => none
  | _ => none
def hullStr : List PyData → Option Nat
  | [] => some 0
  | .str x :: r => (hullStr r).map fun n => max n x.length
  | _ => none
def hInt : Ty → Option (Int × Int)
  | .int a b => some (a, b)
  | .one ds => hullInt ds
  | .uni a b => match hInt a, hInt b with
    | some (x, y), some (z, w) => some (min x z, max y w)
    | _, _ => none
  | _ => none
def hStr : Ty → Option Nat
  | .str n => some n
  | .one ds => hullStr ds
  | .uni a b => match hStr a, hStr b with
    | some x, some y => some (max x y)
    | _, _ => none
  | _ => none
def kidsD : List PyData → Option (Bool × List PyData × Nat × Nat)
  | [] => none
  | [.tuple xs] => some (false, xs, xs.length, xs.length)
  | [.list xs] => some (true, xs, xs.length, xs.length)
  | .tuple xs :: r => match kidsD r with
    | some (false, ys, a, b) => some (false, xs ++ ys, min a xs.length, max b xs.length)
    | _ => none
  | .list xs :: r => match kidsD r with
    | some (true, ys, a, b) => some (true, xs ++ ys, min a xs.length, max b xs.length)
    | _ => none
  | _ => none
def dedup : List PyData → List PyData
  | [] => []
  | d :: r => if memD d (dedup r) then dedup r else d :: dedup r
/-- a guess of a kind above two; what it is worth is tested where it is used -/
def fallG (v : Bool) (s t : Ty) : Ty := match wb s, wb t with
  | some (w, d), some (w', d') => .any v (max w w') (max d d')
  | _, _ => .uni s t
def rowsG (g : Ty → Ty → Ty) : Ty → Ty → Ty
  | .cs x r, .cs y q => .cs (g x y) (rowsG g r q)
  | _, _ => .nl
def allG (g : Ty → Ty → Ty) : Ty → Ty → Ty
  | .cs x r, t => allG g r (g t x)
  | _, t => t
def restG (g : Ty → Ty → Ty) (s t : Ty) : Ty :=
    match hInt s, hInt t with
    | some (a, b), some (c, d) => .int (min a c) (max b d)
    | _, _ => match hStr s, hStr t with
    | some a, some b => .str (max a b)
    | _, _ => if sub FU s .bool && sub FU t .bool then .bool else
      let v := (if sub FU s (.any true 1000000000 1000) && sub FU t (.any true 1000000000 1000) then true else false)
      match s, t with
      | .tup a, .tup b => match lenT a, lenT b with
        | some x, some y => if x == y then .tup (rowsG g a b) else .seqN false (allG g b (allG g a (.one []))) (min x y) (max x y)
        | _, _ => fallG v s t
      | .lst a, .lst b => match lenT a, lenT b with
        | some x, some y => if x == y then .lst (rowsG g a b) else .seqN true (allG g b (allG g a (.one []))) (min x y) (max x y)
        | _, _ => fallG v s t
      | .seqN l a lo hi, .seqN l' b lo' hi' => if l == l' then .seqN l (g a b) (min lo lo') (max hi hi') else fallG v s t
      | .tup a, .seqN l b lo hi => if !l then .seqN l (allG g a b) (min lo ((lenT a).getD 0)) (max hi ((lenT a).getD 0)) else fallG v s t
      | .lst a, .seqN l b lo hi => if l then .seqN l (allG g a b) (min lo ((lenT a).getD 0)) (max hi ((lenT a).getD 0)) else fallG v s t
      | .seqN l b lo hi, .tup a => if !l then .seqN l (allG g a b) (min lo ((lenT a).getD 0)) (max hi ((lenT a).getD 0)) else fallG v s t
      | .seqN l b lo hi, .lst a => if l then .seqN l (allG g a b) (min lo ((lenT a).getD 0)) (max hi ((lenT a).getD 0)) else fallG v s t
      | .one ds, .seqN l b lo hi => match kidsD ds with
        | some (l', ks, x, y) => if l == l' then .seqN l (g (.one (dedup ks)) b) (min lo x) (max hi y) else fallG v s t
        | none => fallG v s t
      | .seqN l b lo hi, .one ds => match kidsD ds with
        | some (l', ks, x, y) => if l == l' then .seqN l (g b (.one (dedup ks))) (min lo x) (max hi y) else fallG v s t
        | none => fallG v s t
      | .one [.tuple ds], .tup b => if lenT b == some ds.length then .tup (rowsG g (tyOfs ds) b) else fallG v s t
      | .tup b, .one [.tuple ds] => if lenT b == some ds.length then .tup (rowsG g b (tyOfs ds)) else fallG v s t
      | .one [.list ds], .lst b => if lenT b == some ds.length then .lst (rowsG g (tyOfs ds) b) else fallG v s t
      | .lst b, .one [.list ds] => if lenT b == some ds.length then .lst (rowsG g b (tyOfs ds)) else fallG v s t
      | s, t => fallG v s t
def guess : Nat → Ty → Ty → Ty
  | 0, s, t => .uni s t
  | n + 1, s, t =>
    if sub FU s t then t else if sub FU t s then s else
    match s, t with
    | .one a, .one b => if a.length + b.length ≤ 40 then .one (dedup (a ++ b)) else restG (guess n) s t
    | s, t => restG (guess n) s t
def join (s t : Ty) : Ty :=
  let j := guess 12 s t
  if sub FU s j && sub FU t j then j else .uni s t
section
variable {F : Nat → List PyData → PyData} {P : Nat → List PyData → PyData → Prop} {vs : List PyData}
theorem join_ok (s t : Ty) : (∀ d, In F P vs s d → In F P vs (join s t) d) ∧ ∀ d, In F P vs t d → In F P vs (join s t) d := by
  unfold join
  dsimp only
  split
  · rename_i h
    simp only [Bool.and_eq_true] at h
    exact ⟨fun d q => (sub_ok FU).1 _ _ h.1 d q, fun d q => (sub_ok FU).1 _ _ h.2 d q⟩
  · exact ⟨fun d q => .inl q, fun d q => .inr q⟩
end
def joinL : List Ty → Ty
  | [] => .one []
  | [t] => t
  | t :: r => join t (joinL r)
theorem joinL_ok {F : Nat → List PyData → PyData} {P : Nat → List PyData → PyData → Prop} {vs : List PyData} : ∀ {l : List Ty} {t : Ty} {d : PyData}, t ∈ l → In F P vs t d → In F P vs (joinL l) d
  | [], _, _, h, _ => nomatch h
  | [u], t, d, h, q => by
    rw [List.mem_singleton] at h
    subst h
    exact q
  | u :: v :: r, t, d, h, q => by
    show In F P vs (join u (joinL (v :: r))) d
    rcases List.mem_cons.mp h with rfl | h
    · exact (join_ok _ _).1 _ q
    · exact (join_ok _ _).2 _ (joinL_ok h q)
/-! ### rows of kinds as lists -/
def toL : Ty → Option (List Ty)
  | .nl => some []
  | .cs a r => (toL r).map (a :: ·)
  | _ => none
def ofL : List Ty → Ty
  | [] => .nl
  | a :: r => .cs a (ofL r)
section
variable {X : Cxt} {vs : List PyData}
def Sh' (X : Cxt) (vs : List PyData) (l : List Ty) (ds : List PyData) : Prop := l.length = ds.length ∧ ∀ (i : Nat) t d, l[i]? = some t → ds[i]? = some d → X.In vs t d
theorem Sh'.of : ∀ {ts : Ty} {l : List Ty} {ds : List PyData}, toL ts = some l → X.Ins vs ts ds → Sh' X vs l ds := by
  intro ts
  induction ts with
  | nl => intro l ds e h; cases e; cases h; exact ⟨rfl, fun i t d h => by simp at h⟩
  | cs a r ih1 ih2 =>
    intro l ds e h
    simp only [toL, Option.map_eq_some_iff] at e
    obtain ⟨l', e, rfl⟩ := e
    obtain ⟨x, xs, rfl, h1, h2⟩ := h
    obtain ⟨g1, g2⟩ := ih2 e h2
    refine ⟨by simp [g1], fun i t d p q => ?_⟩
    cases i with
    | zero => simp at p q; subst p; subst q; exact h1
    | succ i => exact g2 i t d (by simpa using p) (by simpa using q)
  | _ => intro l ds e; simp [toL] at e
theorem Sh'.to : ∀ {l : List Ty} {ds : List PyData}, Sh' X vs l ds → X.Ins vs (ofL l) ds
  | [], ds, h => by have := h.1; cases ds; exact rfl; simp at this
  | t :: l, ds, h => by
    obtain ⟨h1, h2⟩ := h
    cases ds with
    | nil => simp at h1
    | cons x xs => exact ⟨x, xs, rfl, h2 0 t x rfl rfl, Sh'.to ⟨by simpa using h1, fun i t d p q => h2 (i + 1) t d (by simpa using p) (by simpa using q)⟩⟩
theorem Sh'.app {l m : List Ty} {ds es : List PyData} (h : Sh' X vs l ds) (g : Sh' X vs m es) : Sh' X vs (l ++ m) (ds ++ es) := by
  refine ⟨by simp [h.1, g.1], fun i t d p q => ?_⟩
  rcases Nat.lt_or_ge i l.length with hi | hi
  · rw [List.getElem?_append_left hi] at p
    rw [List.getElem?_append_left (by rw [← h.1]; exact hi)] at q
    exact h.2 i t d p q
  · rw [List.getElem?_append_right hi] at p
    rw [List.getElem?_append_right (by rw [← h.1]; exact hi), ← h.1] at q
    exact g.2 _ t d p q
theorem Sh'.drop {l : List Ty} {ds : List PyData} (h : Sh' X vs l ds) (n : Nat) : Sh' X vs (l.drop n) (ds.drop n) := by
  refine ⟨by simp [h.1], fun i t d p q => ?_⟩
  rw [List.getElem?_drop] at p q
  exact h.2 _ t d p q
theorem Sh'.take {l : List Ty} {ds : List PyData} (h : Sh' X vs l ds) (n : Nat) : Sh' X vs (l.take n) (ds.take n) := by
  refine ⟨by simp [h.1], fun i t d p q => ?_⟩
  rw [List.getElem?_take] at p q
  split at p
  · rename_i hi
    rw [if_pos hi] at q
    exact h.2 _ t d p q
  · cases p
theorem Sh'.cut {l : List Ty} {ds : List PyData} (h : Sh' X vs l ds) (lo hi : Option Int) : Sh' X vs (cutL l lo hi) (cutL ds lo hi) := by
  unfold cutL
  rw [h.1]
  exact (h.drop _).take _
theorem Sh'.rev {l : List Ty} {ds : List PyData} (h : Sh' X vs l ds) : Sh' X vs l.reverse ds.reverse := by
  refine ⟨by simp [h.1], fun i t d p q => ?_⟩
  have hi : i < l.length := by have := (List.getElem?_eq_some_iff.mp p).1; simpa using this
  rw [List.getElem?_reverse hi] at p
  rw [List.getElem?_reverse (by rw [← h.1]; exact hi), ← h.1] at q
  exact h.2 _ t d p q
theorem Sh'.all {l : List Ty} {ds : List PyData} (h : Sh' X vs l ds) {d : PyData} (hd : d ∈ ds) : X.In vs (joinL l) d := by
  obtain ⟨i, hi, rfl⟩ := List.getElem_of_mem hd
  have hl : i < l.length := by rw [h.1]; exact hi
  exact joinL_ok (List.getElem_mem hl) (h.2 i _ _ (List.getElem?_eq_getElem hl) (List.getElem?_eq_getElem hi))
theorem xsub {s u : Ty} {d : PyData} (h : sub FU (xp X.ex s) u = true) (q : X.In vs s d) : X.In vs u d := (sub_ok FU).1 _ _ h _ ((xp_ok s).1 _ q)
end
section
variable (ex : Nat → Option Ty)
def asInt (t : Ty) : Option (Int × Int) := match hInt (xp ex t) with
  | some (a, b) => if sub FU (xp ex t) (.int a b) then some (a, b) else none
  | none => none
def asStr (t : Ty) : Option Nat := match hStr (xp ex t) with
  | some n => if sub FU (xp ex t) (.str n) then some n else none
  | none => none
def hShape : Ty → Option (Bool × List Ty)
  | .tup ts => (toL ts).map fun l => (false, l)
  | .lst ts => (toL ts).map fun l => (true, l)
  | .one [.tuple ds] => some (false, ds.map fun d => .one [d])
  | .one [.list ds] => some (true, ds.map fun d => .one [d])
  | _ => none
def shp' (b : Bool) (l : List Ty) : Ty := if b then .lst (ofL l) else .tup (ofL l)
def asShape (t : Ty) : Option (Bool × List Ty) := hShape (xp ex t)
def hSeq : Ty → Option (Bool × Ty × Nat × Nat)
  | .seqN l t lo hi => some (l, t, lo, hi)
  | .tup ts => (toL ts).map fun l => (false, joinL l, l.length, l.length)
  | .lst ts => (toL ts).map fun l => (true, joinL l, l.length, l.length)
  | .one ds => (kidsD ds).map fun (l, ks, a, b) => (l, .one (dedup ks), a, b)
  | .any true w (d + 1) => some (false, .any false w d, 0, w)
  | .uni a b => match hSeq a, hSeq b with
    | some (l, t, lo, hi), some (l', t', lo', hi') => if l == l' then some (l, join t t', min lo lo', max hi hi') else none
    | _, _ => none
  | _ => none
def asSeq (t : Ty) : Option (Bool × Ty × Nat × Nat) := match hSeq (xp ex t) with
  | some (l, e, lo, hi) => if sub FU (xp ex t) (.seqN l e lo hi) then some (l, e, lo, hi) else none
  | none => none
def asTup (t : Ty) : Option (Nat × Nat) := match wb (xp ex t) with
  | some (w, d) => if isTupT (xp ex t) then some (w, d) else none
  | none => none
def asOne (t : Ty) : Option (List PyData) := match xp ex t with
  | .one ds => some ds
  | _ => none
def wbx (t : Ty) : Option (Nat × Nat) := wb (xp ex t)
end
section
variable {X : Cxt} {vs : List PyData} {t : Ty} {d : PyData}
theorem asInt_ok {a b : Int} (h : asInt X.ex t = some (a, b)) (q : X.In vs t d) : ∃ i, d = .int i ∧ a ≤ i ∧ i ≤ b := by
  unfold asInt at h
  split at h
  · split at h
    · rename_i hs
      simp only [Option.some.injEq, Prod.mk.injEq] at h
      obtain ⟨rfl, rfl⟩ := h
      exact xsub hs q
    · cases h
  · cases h
theorem asStr_ok {n : Nat} (h : asStr X.ex t = some n) (q : X.In vs t d) : ∃ x, d = .str x ∧ PyData.strOk x = true ∧ x.length ≤ n := by
  unfold asStr at h
  split at h
  · split at h
    · rename_i hs
      simp only [Option.some.injEq] at h
      subst h
      exact xsub hs q
    · cases h
  · cases h
theorem sh_one : ∀ ds : List PyData, Sh' X vs (ds.map fun d => .one [d]) ds := by
  intro ds
  refine ⟨by simp, fun i t d p q => ?_⟩
  rw [List.getElem?_map, q] at p
  cases p
  exact List.mem_singleton.mpr rfl
theorem hShape_ok {b : Bool} {l : List Ty} {t : Ty} {d : PyData} (h : hShape t = some (b, l)) (q : X.In vs t d) : ∃ ds, d = sq b ds ∧ Sh' X vs l ds := by
  cases t with
  | tup ts =>
    simp only [hShape, Option.map_eq_some_iff, Prod.mk.injEq] at h
    obtain ⟨l', e, rfl, rfl⟩ := h
    obtain ⟨ds, rfl, q⟩ := q
    exact ⟨ds, rfl, .of e q⟩
  | lst ts =>
    simp only [hShape, Option.map_eq_some_iff, Prod.mk.injEq] at h
    obtain ⟨l', e, rfl, rfl⟩ := h
    obtain ⟨ds, rfl, q⟩ := q
    exact ⟨ds, rfl, .of e q⟩
  | one ds =>
    unfold hShape at h
    split at h
    · rename_i e; cases e
    · rename_i e; cases e
    · rename_i e
      cases e
      simp only [Option.some.injEq, Prod.mk.injEq] at h
      obtain ⟨rfl, rfl⟩ := h
      have := List.mem_singleton.mp q
      exact ⟨_, this, sh_one _⟩
    · rename_i e
      cases e
      simp only [Option.some.injEq, Prod.mk.injEq] at h
      obtain ⟨rfl, rfl⟩ := h
      have := List.mem_singleton.mp q
      exact ⟨_, this, sh_one _⟩
    · cases h
  | _ => simp [hShape] at h
theorem asShape_ok {b : Bool} {l : List Ty} (h : asShape X.ex t = some (b, l)) (q : X.In vs t d) : ∃ ds, d = sq b ds ∧ Sh' X vs l ds := hShape_ok h ((xp_ok t).1 _ q)
theorem asSeq_ok {b : Bool} {e : Ty} {lo hi : Nat} (h : asSeq X.ex t = some (b, e, lo, hi)) (q : X.In vs t d) : ∃ ds, d = sq b ds ∧ (∀ x ∈ ds, X.In vs e x) ∧ lo ≤ ds.length ∧ ds.length ≤ hi := by
  unfold asSeq at h
  split at h
  · split at h
    · rename_i hs
      simp only [Option.some.injEq, Prod.mk.injEq] at h
      obtain ⟨rfl, rfl, rfl, rfl⟩ := h
      exact xsub hs q
    · cases h
  · cases h
theorem asTup_ok {w n : Nat} (h : asTup X.ex t = some (w, n)) (q : X.In vs t d) : ∃ ds, d = .tuple ds ∧ 1 ≤ n ∧ Fs w (n - 1) ds := by
  unfold asTup at h
  have q := (xp_ok t).1 _ q
  split at h
  · rename_i w n e
    split at h
    · rename_i ht
      simp only [Option.some.injEq, Prod.mk.injEq] at h
      obtain ⟨rfl, rfl⟩ := h
      have h1 := isTupT_ok ht q
      have h2 := (wb_ok _).1 _ _ _ e q
      obtain ⟨ds, rfl⟩ : ∃ ds, d = .tuple ds := by cases d <;> simp [isTup] at h1; exact ⟨_, rfl⟩
      have h3 := h2.de
      simp only [PyData.depth] at h3
      refine ⟨ds, rfl, by omega, ?_⟩
      have h4 : Fv w ((n - 1) + 1) (.tuple ds) := h2.mono (Nat.le_refl _) (by omega)
      exact h4.items
    · cases h
  · cases h
theorem asOne_ok {ds : List PyData} (h : asOne X.ex t = some ds) (q : X.In vs t d) : d ∈ ds := by
  unfold asOne at h
  have q := (xp_ok t).1 _ q
  split at h
  · rename_i e
    cases h
    rw [e] at q
    exact q
  · cases h
theorem wbx_ok {w n : Nat} (h : wbx X.ex t = some (w, n)) (q : X.In vs t d) : Fv w n d := (wb_ok _).1 _ _ _ h ((xp_ok t).1 _ q)
end
/-! ### operations on constants -/
def fold1 {α : Type} (f : α → Option PyData) : List α → Option (List PyData)
  | [] => some []
  | a :: r => match f a, fold1 f r with
    | some x, some xs => some (x :: xs)
    | _, _ => none
theorem fold1_ok {α : Type} {f : α → Option PyData} : ∀ {l : List α} {ys : List PyData}, fold1 f l = some ys → ∀ a ∈ l, ∃ y, f a = some y ∧ y ∈ ys
  | [], _, _, a, h => nomatch h
  | b :: r, ys, e, a, h => by
    unfold fold1 at e
    split at e
    · rename_i x xs e1 e2
      cases e
      rcases List.mem_cons.mp h with rfl | h
      · exact ⟨x, e1, List.mem_cons_self ..⟩
      · obtain ⟨y, p, q⟩ := fold1_ok e2 a h
        exact ⟨y, p, List.mem_cons_of_mem _ q⟩
    · cases e
def unP : Option (W × Sto) → Option PyData
  | some (.p d, []) => some d
  | _ => none
def fold2 (f : F2) (a b : List PyData) : Option (List PyData) := if a.length * b.length ≤ 64 then (fold1 (fun p : PyData × PyData => unP (f [] (.p p.1) (.p p.2))) (a.flatMap fun x => b.map fun y => (x, y))).map dedup else none
/-- an operation that looks at no list that may change -/
def Still (f : F2) : Prop := ∀ S x y d, f [] (.p x) (.p y) = some (.p d, []) → f S (.p x) (.p y) = some (.p d, S)
theorem mem_dedup : ∀ {l : List PyData} {d : PyData}, d ∈ l → d ∈ dedup l
  | e :: r, d, h => by
    unfold dedup
    split
    · rename_i hm
      rcases List.mem_cons.mp h with rfl | h
      · exact memD_mem hm
      · exact mem_dedup h
    · rcases List.mem_cons.mp h with rfl | h
      · exact List.mem_cons_self ..
      · exact List.mem_cons_of_mem _ (mem_dedup h)
theorem fold2_ok {f : F2} (hf : Still f) {a b r : List PyData} (h : fold2 f a b = some r) {x y : PyData} (hx : x ∈ a) (hy : y ∈ b) : ∃ d, (∀ S, f S (.p x) (.p y) = some (.p d, S)) ∧ d ∈ r := by
  unfold fold2 at h
  split at h
  · rw [Option.map_eq_some_iff] at h
    obtain ⟨r', h, rfl⟩ := h
    obtain ⟨d, h1, h2⟩ := fold1_ok h (x, y) (List.mem_flatMap.mpr ⟨x, hx, List.mem_map.mpr ⟨y, hy, rfl⟩⟩)
    refine ⟨d, fun S => hf S x y d ?_, mem_dedup h2⟩
    dsimp only at h1
    unfold unP at h1
    split at h1
    · rename_i e; cases h1; exact e
    · cases h1
  · cases h
theorem still_bin (o : Operator) : Still (binF o) := by
  intro S x y d h
  cases o <;> simp only [binF] at h ⊢
  all_goals first
    | (cases h; done)
    | (cases x <;> cases y <;> simp only [fAdd, lsP] at h ⊢ <;> first
        | (cases h; done)
        | (simp only [Option.some.injEq, Prod.mk.injEq, W.p.injEq, and_true] at h ⊢; exact h)
        | (split at h <;> first | (cases h; done) | (rename_i hc; rw [if_pos hc]; simp only [Option.some.injEq, Prod.mk.injEq, W.p.injEq, and_true] at h ⊢; exact h)))
    | (simp only [fSub] at h ⊢; split at h <;> first | (cases h; done) | (simp only [Option.some.injEq, Prod.mk.injEq, W.p.injEq, and_true] at h; simp_all) | (split at h <;> first | (cases h; done) | (simp only [Option.some.injEq, Prod.mk.injEq, W.p.injEq, and_true] at h; simp_all)))
    | (simp only [fMul] at h ⊢; split at h <;> first | (cases h; done) | (split at h <;> first | (cases h; done) | (rename_i hc; simp only [Option.some.injEq, Prod.mk.injEq, W.p.injEq, and_true] at h; simp_all)))
    | (simp only [fDiv] at h ⊢; split at h <;> first | (cases h; done) | (split at h <;> first | (cases h; done) | (simp only [Option.some.injEq, Prod.mk.injEq, W.p.injEq, and_true] at h; simp_all)))
    | (simp only [fMod] at h ⊢; split at h <;> first | (cases h; done) | (split at h <;> first | (cases h; done) | (simp only [Option.some.injEq, Prod.mk.injEq, W.p.injEq, and_true] at h; simp_all)))
    | (simp only [fPow] at h ⊢; split at h <;> first | (cases h; done) | (split at h <;> first | (cases h; done) | (simp only [Option.some.injEq, Prod.mk.injEq, W.p.injEq, and_true] at h; simp_all)))
theorem b2_still {b : Bool} {S : Sto} {d : PyData} (h : b2 b [] = some (.p d, [])) : b2 b S = some (.p d, S) := by
  simp only [b2, Option.some.injEq, Prod.mk.injEq, W.p.injEq, and_true] at h ⊢
  exact h
theorem seqP_still (S : Sto) (x : PyData) : seqP S (.p x) = seqP [] (.p x) := by cases x <;> rfl
theorem still_cmp (o : CmpOp) : Still (cmpF o) := by
  intro S x y d h
  have key : ∀ (c : Bool) (b : Bool), (if c then b2 b [] else none) = some (W.p d, []) → (if c then b2 b S else none) = some (W.p d, S) := by
    intro c b h
    cases c
    · cases h
    · exact b2_still h
  have hin : ∀ n, fIn n [] (.p x) (.p y) = some (.p d, []) → fIn n S (.p x) (.p y) = some (.p d, S) := by
    intro n h
    cases x <;> cases y <;> simp only [fIn, seqP] at h ⊢ <;> first | exact b2_still h | exact key _ _ h | (cases h; done)
  have his : ∀ n, fIsN n [] (.p x) (.p y) = some (.p d, []) → fIsN n S (.p x) (.p y) = some (.p d, S) := by
    intro n h
    simp only [fIsN] at h ⊢
    split at h
    · exact b2_still h
    · cases h
  cases o <;> simp only [cmpF] at h ⊢
  all_goals first
    | exact key _ _ h
    | exact hin _ h
    | exact his _ h
end Pv
end

section
set_option maxRecDepth 10000
set_option maxHeartbeats 4000000
namespace Pv
open PySem PySem.Spec L2
open PyProof.Rows hiding St

/-! ## operations on kinds -/
theorem cutL_mem {α : Type} {xs : List α} {lo hi : Option Int} {x : α} (h : x ∈ cutL xs lo hi) : x ∈ xs := List.mem_of_mem_drop (List.mem_of_mem_take h)
theorem seqP_sq (S : Sto) (l : Bool) (ds : List PyData) : seqP S (.p (sq l ds)) = some (!l, ds) := by cases l <;> rfl
theorem items_sq (S : Sto) (l : Bool) (ds : List PyData) : items S (.p (sq l ds)) = some (!l, ds.map W.p) := by cases l <;> rfl
theorem In_shp {X : Cxt} {vs : List PyData} {k : Bool} {l : List Ty} {ds : List PyData} (h : Sh' X vs l ds) : X.In vs (shp' k l) (sq k ds) := by
  cases k
  · exact ⟨ds, rfl, h.to⟩
  · exact ⟨ds, rfl, h.to⟩
section
variable (ex : Nat → Option Ty)
def isAnyT : Ty → Bool
  | .any _ _ _ => true
  | _ => false
def addSeq (s t : Ty) : Option Ty := match asSeq ex s, asSeq ex t with
  | some (k, e, a, b), some (k', e', a', b') => if k == k' && decide (b + b' ≤ lim) then some (.seqN k (join e e') (a + a') (b + b')) else none
  | _, _ => none
def addTup (s t : Ty) : Option Ty := match asTup ex s, asTup ex t with
  | some (w, n), some (w', n') => if w + w' ≤ lim then some (.any true (w + w') (max n n')) else none
  | _, _ => none
def addShape (s t : Ty) : Option Ty := match asShape ex s, asShape ex t with
  | some (k, l), some (k', l') => if k == k' && decide (l.length + l'.length ≤ lim) then some (shp' k (l ++ l')) else none
  | _, _ => none
/-- v weighs much more than u -/
def heavy (u v : Ty) : Bool := match wbx ex u, wbx ex v with
  | some (a, _), some (b, _) => decide (2 * a + 2000 < b)
  | _, _ => false
def aAdd (s t : Ty) : Option Ty := match asInt ex s, asInt ex t with
  | some (a, b), some (c, d) => some (.int (a + c) (b + d))
  | _, _ => match asStr ex s, asStr ex t with
    | some a, some b => if a + b ≤ lim then some (.str (a + b)) else none
    | _, _ => match addShape ex s t with
      | some u => some u
      | none => match addTup ex s t, (if isAnyT s || isAnyT t then none else addSeq ex s t) with
        | some u, none => some u
        | none, some v => some v
        | some u, some v => some (if heavy ex u v then u else v)
        | none, none => addSeq ex s t
def aSub (s t : Ty) : Option Ty := match asInt ex s, asInt ex t with
  | some (a, b), some (c, d) => some (.int (a - d) (b - c))
  | _, _ => none
def aMul (s t : Ty) : Option Ty := match asInt ex t with
  | none => none
  | some (c, d) => match asInt ex s with
    | some (a, b) => if 0 ≤ a ∧ 0 ≤ c ∧ (b < 2 ^ 64 ∨ d < 2 ^ 64) then some (.int (a * c) (b * d)) else none
    | none => match asSeq ex s with
      | some (true, e, lo, hi) => if -(2 ^ 62) ≤ c ∧ d < 2 ^ 62 ∧ hi * d.toNat ≤ lim then some (.seqN true e (lo * c.toNat) (hi * d.toNat)) else none
      | some (false, e, lo, hi) => if 1 ≤ lo ∧ 2 ≤ c ∧ d ≤ 1000 ∧ hi ≤ 1000 then some (.seqN false e (lo * c.toNat) (hi * d.toNat)) else none
      | none => none
def aDiv (s t : Ty) : Option Ty := match asInt ex s, asInt ex t with
  | some (a, b), some (c, d) => if 0 < c ∧ c = d ∧ c < 2 ^ 64 then some (.int (a / c) (b / c)) else none
  | _, _ => none
def aMod (s t : Ty) : Option Ty := match asInt ex s, asInt ex t with
  | some _, some (c, d) => if 0 < c then some (.int 0 (d - 1)) else none
  | _, _ => none
def aBin0 (o : Operator) (s t : Ty) : Option Ty := match o with
  | .Add => aAdd ex s t
  | .Sub => aSub ex s t
  | .Mult => aMul ex s t
  | .FloorDiv => aDiv ex s t
  | .Mod => aMod ex s t
  | _ => none
def foldC (f : F2) (s t : Ty) : Option Ty := match asOne ex s, asOne ex t with
  | some a, some b => (fold2 f a b).map .one
  | _, _ => none
def aBin (o : Operator) (s t : Ty) : Option Ty := match foldC ex (binF o) s t with
  | some u => some u
  | none => aBin0 ex o s t
end
section
variable {X : Cxt} {vs : List PyData} {s t u : Ty} {x y : PyData}
theorem foldC_ok {f : F2} (hf : Still f) (h : foldC X.ex f s t = some u) (hx : X.In vs s x) (hy : X.In vs t y) : ∃ d, (∀ S, f S (.p x) (.p y) = some (.p d, S)) ∧ X.In vs u d := by
  unfold foldC at h
  split at h
  · rename_i a b e1 e2
    rw [Option.map_eq_some_iff] at h
    obtain ⟨r, h, rfl⟩ := h
    exact fold2_ok hf h (asOne_ok e1 hx) (asOne_ok e2 hy)
  · cases h
theorem addSeq_ok (h : addSeq X.ex s t = some u) (hx : X.In vs s x) (hy : X.In vs t y) : ∃ d, (∀ S, fAdd S (.p x) (.p y) = some (.p d, S)) ∧ X.In vs u d := by
  unfold addSeq at h
  split at h
  · rename_i e1 e2
    split at h
    · rename_i hc
      cases h
      simp only [Bool.and_eq_true, decide_eq_true_eq, beq_iff_eq] at hc
      obtain ⟨rfl, hc⟩ := hc
      obtain ⟨ds, rfl, h1, h2, h3⟩ := asSeq_ok e1 hx
      obtain ⟨es, rfl, g1, g2, g3⟩ := asSeq_ok e2 hy
      refine ⟨sq _ (ds ++ es), fun S => ?_, ds ++ es, rfl, fun z hz => ?_, by simp; omega, by simp; omega⟩
      · rename_i k _ _ _ _ _ _
        cases k
        · exact e_addT _ _ (by omega)
        · exact e_addL _ _ (by omega)
      · rcases List.mem_append.mp hz with q | q
        · exact (join_ok _ _).1 _ (h1 z q)
        · exact (join_ok _ _).2 _ (g1 z q)
    · cases h
  · cases h
theorem addTup_ok (h : addTup X.ex s t = some u) (hx : X.In vs s x) (hy : X.In vs t y) : ∃ d, (∀ S, fAdd S (.p x) (.p y) = some (.p d, S)) ∧ X.In vs u d := by
  unfold addTup at h
  split at h
  · rename_i e1 e2
    split at h
    · rename_i hc
      cases h
      obtain ⟨ds, rfl, h1, h2⟩ := asTup_ok e1 hx
      obtain ⟨es, rfl, g1, g2⟩ := asTup_ok e2 hy
      have l1 := h2.len
      have l2 := g2.len
      refine ⟨.tuple (ds ++ es), fun S => e_addT _ _ (by omega), ?_, fun _ => rfl⟩
      exact (h2.app g2).tup.mono (Nat.le_refl _) (by omega)
    · cases h
  · cases h
theorem addShape_ok (h : addShape X.ex s t = some u) (hx : X.In vs s x) (hy : X.In vs t y) : ∃ d, (∀ S, fAdd S (.p x) (.p y) = some (.p d, S)) ∧ X.In vs u d := by
  unfold addShape at h
  split at h
  · rename_i e1 e2
    split at h
    · rename_i hc
      cases h
      simp only [Bool.and_eq_true, decide_eq_true_eq, beq_iff_eq] at hc
      obtain ⟨rfl, hc⟩ := hc
      obtain ⟨ds, rfl, h1⟩ := asShape_ok e1 hx
      obtain ⟨es, rfl, g1⟩ := asShape_ok e2 hy
      refine ⟨sq _ (ds ++ es), fun S => ?_, In_shp (h1.app g1)⟩
      rename_i k _ _
      rw [h1.1, g1.1] at hc
      cases k
      · exact e_addT _ _ hc
      · exact e_addL _ _ hc
    · cases h
  · cases h
theorem aAdd_ok (h : aAdd X.ex s t = some u) (hx : X.In vs s x) (hy : X.In vs t y) : ∃ d, (∀ S, fAdd S (.p x) (.p y) = some (.p d, S)) ∧ X.In vs u d := by
  unfold aAdd at h
  split at h
  · rename_i e1 e2
    cases h
    obtain ⟨i, rfl, h1, h2⟩ := asInt_ok e1 hx
    obtain ⟨j, rfl, g1, g2⟩ := asInt_ok e2 hy
    exact ⟨_, fun S => rfl, i + j, rfl, by omega, by omega⟩
  split at h
  · rename_i e1 e2
    split at h
    · rename_i hc
      cases h
      obtain ⟨a, rfl, h1, h2⟩ := asStr_ok e1 hx
      obtain ⟨b, rfl, g1, g2⟩ := asStr_ok e2 hy
      have e : (a ++ b).length = a.length + b.length := by
        show (a.cps ++ b.cps).size = _
        rw [Array.size_append]; rfl
      exact ⟨_, fun S => e_addS _ _ (by omega), _, rfl, so_app h1 g1, by omega⟩
    · cases h
  split at h
  · rename_i e; cases h; exact addShape_ok e hx hy
  have sq : ∀ {u : Ty}, (if isAnyT s || isAnyT t then none else addSeq X.ex s t) = some u → ∃ d, (∀ S, fAdd S (.p x) (.p y) = some (.p d, S)) ∧ X.In vs u d := fun {u} e => by
    split at e
    · cases e
    · exact addSeq_ok e hx hy
  split at h
  · rename_i e _; cases h; exact addTup_ok e hx hy
  · rename_i _ e; cases h; exact sq e
  · rename_i e1 e2
    cases h
    split
    · exact addTup_ok e1 hx hy
    · exact sq e2
  · exact addSeq_ok h hx hy
theorem rep_mem {n : Nat} {ds : List PyData} {z : PyData} (h : z ∈ repD n ds) : z ∈ ds := by
  unfold repD at h
  obtain ⟨l, h1, h2⟩ := List.mem_flatten.mp h
  rw [List.eq_of_mem_replicate h1] at h2
  exact h2
theorem rep_len (n : Nat) (ds : List PyData) : (repD n ds).length = ds.length * n := by
  unfold repD
  rw [List.length_flatten, List.map_replicate, List.sum_replicate_nat, Nat.mul_comm]
theorem aMul_ok (h : aMul X.ex s t = some u) (hx : X.In vs s x) (hy : X.In vs t y) : ∃ d, (∀ S, fMul S (.p x) (.p y) = some (.p d, S)) ∧ X.In vs u d := by
  unfold aMul at h
  split at h
  · cases h
  rename_i c d e2
  obtain ⟨j, rfl, g1, g2⟩ := asInt_ok e2 hy
  split at h
  · rename_i a b e1
    split at h
    · rename_i hc
      cases h
      obtain ⟨i, rfl, h1, h2⟩ := asInt_ok e1 hx
      obtain ⟨c1, c2, c3⟩ := hc
      refine ⟨_, fun S => e_mul _ _ ?_, i * j, rfl, ?_, ?_⟩
      · simp only [small, Bool.or_eq_true, decide_eq_true_eq]
        omega
      · exact Int.mul_le_mul h1 g1 c2 (by omega)
      · exact Int.mul_le_mul h2 g2 (by omega) (by omega)
    · cases h
  split at h
  · rename_i e lo hi e1
    split at h
    · rename_i hc
      cases h
      obtain ⟨ds, rfl, h1, h2, h3⟩ := asSeq_ok e1 hx
      obtain ⟨c1, c2, c3⟩ := hc
      have m1 : ds.length * j.toNat ≤ hi * d.toNat := Nat.mul_le_mul h3 (by omega)
      have m2 : lo * c.toNat ≤ ds.length * j.toNat := Nat.mul_le_mul h2 (by omega)
      refine ⟨.list (repD j.toNat ds), fun S => ?_, repD j.toNat ds, rfl, fun z hz => h1 z (rep_mem hz), by rw [rep_len]; exact m2, by rw [rep_len]; exact m1⟩
      show (if decide (-(2 ^ 62) ≤ j ∧ j < 2 ^ 62) && decide (ds.length * j.toNat ≤ lim) then _ else _) = _
      rw [if_pos]
      simp only [Bool.and_eq_true, decide_eq_true_eq]
      exact ⟨by omega, by omega⟩
    · cases h
  · rename_i e lo hi e1
    split at h
    · rename_i hc
      cases h
      obtain ⟨ds, rfl, h1, h2, h3⟩ := asSeq_ok e1 hx
      obtain ⟨c1, c2, c3, c4⟩ := hc
      have m1 : ds.length * j.toNat ≤ hi * d.toNat := Nat.mul_le_mul h3 (by omega)
      have m2 : lo * c.toNat ≤ ds.length * j.toNat := Nat.mul_le_mul h2 (by omega)
      refine ⟨.tuple (repD j.toNat ds), fun S => ?_, repD j.toNat ds, rfl, fun z hz => h1 z (rep_mem hz), by rw [rep_len]; exact m2, by rw [rep_len]; exact m1⟩
      show (if decide (ds ≠ []) && decide (2 ≤ j ∧ j ≤ 1000) && decide (ds.length ≤ 1000) then _ else _) = _
      rw [if_pos]
      simp only [Bool.and_eq_true, decide_eq_true_eq]
      exact ⟨⟨fun z => by rw [z] at h2; simp at h2; omega, by omega⟩, by omega⟩
    · cases h
  · cases h
theorem aBin_ok {o : Operator} (h : aBin X.ex o s t = some u) (hx : X.In vs s x) (hy : X.In vs t y) : ∃ d, (∀ S, binF o S (.p x) (.p y) = some (.p d, S)) ∧ X.In vs u d := by
  unfold aBin at h
  split at h
  · rename_i e; cases h; exact foldC_ok (still_bin o) e hx hy
  unfold aBin0 at h
  split at h
  · exact aAdd_ok h hx hy
  · unfold aSub at h
    split at h
    · rename_i e1 e2
      cases h
      obtain ⟨i, rfl, h1, h2⟩ := asInt_ok e1 hx
      obtain ⟨j, rfl, g1, g2⟩ := asInt_ok e2 hy
      exact ⟨_, fun S => rfl, i - j, rfl, by omega, by omega⟩
    · cases h
  · exact aMul_ok h hx hy
  · unfold aDiv at h
    split at h
    · rename_i e1 e2
      split at h
      · rename_i hc
        cases h
        obtain ⟨i, rfl, h1, h2⟩ := asInt_ok e1 hx
        obtain ⟨j, rfl, g1, g2⟩ := asInt_ok e2 hy
        obtain ⟨c1, c2, c3⟩ := hc
        subst c2
        have ej := Int.le_antisymm g2 g1
        subst ej
        exact ⟨_, fun S => e_div _ _ ⟨c1, c3⟩, i / j, rfl, Int.ediv_le_ediv c1 h1, Int.ediv_le_ediv c1 h2⟩
      · cases h
    · cases h
  · unfold aMod at h
    split at h
    · rename_i e1 e2
      split at h
      · rename_i hc
        cases h
        obtain ⟨i, rfl, h1, h2⟩ := asInt_ok (a := _) (b := _) e1 hx
        obtain ⟨j, rfl, g1, g2⟩ := asInt_ok e2 hy
        refine ⟨_, fun S => e_mod _ _ (by omega), i % j, rfl, Int.emod_nonneg _ (by omega), ?_⟩
        have := Int.emod_lt_of_pos i (show 0 < j by omega)
        omega
      · cases h
    · cases h
  · cases h
end
/-! ### to be compared -/
def canT : Ty → Bool
  | .int _ _ => true
  | .bool => true
  | .str _ => true
  | .one ds => ds.all fun d => d.canLay0
  | .tup a => canT a
  | .lst a => canT a
  | .seqN _ t _ _ => canT t
  | .uni a b => canT a && canT b
  | .nl => true
  | .cs a r => canT a && canT r
  | _ => false
theorem canLayAll_mem : ∀ {ds : List PyData}, (∀ d ∈ ds, d.canLay0 = true) → PyData.canLayAll0 ds = true
  | [], _ => rfl
  | x :: r, h => by simp [PyData.canLayAll0, h x (List.mem_cons_self ..), canLayAll_mem fun d hd => h d (List.mem_cons_of_mem _ hd)]
section
variable {F : Nat → List PyData → PyData} {P : Nat → List PyData → PyData → Prop} {vs : List PyData}
theorem canT_ok : ∀ t : Ty, canT t = true → (∀ d, In F P vs t d → d.canLay0 = true) ∧ (∀ d, Ins F P vs t d → PyData.canLayAll0 d = true) := by
  intro t
  induction t with
  | int a b => intro _; exact ⟨fun d h => by obtain ⟨i, rfl, _⟩ := h; rfl, fun d h => h.elim⟩
  | bool => intro _; exact ⟨fun d h => by obtain ⟨i, rfl⟩ := h; rfl, fun d h => h.elim⟩
  | str n => intro _; exact ⟨fun d h => by obtain ⟨i, rfl, h, _⟩ := h; exact h, fun d h => h.elim⟩
  | one ds => intro h; exact ⟨fun d q => List.all_eq_true.mp h d q, fun d h => h.elim⟩
  | tup a ih => intro h; exact ⟨fun d q => by obtain ⟨ds, rfl, q⟩ := q; exact (ih h).2 _ q, fun d h => h.elim⟩
  | lst a ih => intro h; exact ⟨fun d q => by obtain ⟨ds, rfl, q⟩ := q; exact (ih h).2 _ q, fun d h => h.elim⟩
  | seqN l t lo hi ih =>
    intro h
    refine ⟨fun d q => ?_, fun d h => h.elim⟩
    obtain ⟨ds, rfl, q, _⟩ := q
    have := canLayAll_mem fun d hd => (ih h).1 _ (q d hd)
    cases l <;> exact this
  | uni a b ih1 ih2 =>
    intro h
    simp only [canT, Bool.and_eq_true] at h
    exact ⟨fun d q => by rcases q with q | q; exact (ih1 h.1).1 _ q; exact (ih2 h.2).1 _ q, fun d h => h.elim⟩
  | nl => intro _; exact ⟨fun d h => h.elim, fun d h => by cases h; rfl⟩
  | cs a r ih1 ih2 =>
    intro h
    simp only [canT, Bool.and_eq_true] at h
    exact ⟨fun d h => h.elim, fun d q => by obtain ⟨x, xs, rfl, q1, q2⟩ := q; simp [PyData.canLayAll0, (ih1 h.1).1 _ q1, (ih2 h.2).2 _ q2]⟩
  | _ => intro h; simp [canT] at h
end
mutual
theorem eqv_refl : ∀ {d : PyData}, d.canLay0 = true → PyData.eqv d d = true
  | .none, _ => rfl
  | .bool b, _ => by simp [PyData.eqv]
  | .int i, _ => by simp [PyData.eqv]
  | .str x, _ => by simp [PyData.eqv]
  | .list ds, h => by simp only [PyData.eqv]; exact eqvs_refl h
  | .tuple ds, h => by simp only [PyData.eqv]; exact eqvs_refl h
  | .dict ds, h => by simp [PyData.canLay0] at h
theorem eqvs_refl : ∀ {ds : List PyData}, PyData.canLayAll0 ds = true → PyData.eqvAll ds ds = true
  | [], _ => rfl
  | x :: r, h => by
    simp only [PyData.canLayAll0, Bool.and_eq_true] at h
    simp only [PyData.eqvAll, Bool.and_eq_true]
    exact ⟨eqv_refl h.1, eqvs_refl h.2⟩
end
section
variable (ex : Nat → Option Ty)
def shp (t : Ty) : Bool := canT (xp ex t) && match wbx ex t with
  | some (_, n) => decide (n ≤ 63)
  | none => false
def flT : Ty → Bool
  | .int _ _ => true
  | .bool => true
  | .str _ => true
  | .one ds => ds.all flatP
  | .uni a b => flT a && flT b
  | _ => false
def nonT : Ty → Bool
  | .int _ _ => true
  | .bool => true
  | .str _ => true
  | .one ds => ds.all fun d => !isNone d
  | .uni a b => nonT a && nonT b
  | .tup _ => true
  | .lst _ => true
  | .seqN _ _ _ _ => true
  | .any tu _ _ => tu
  | _ => false
def oneB (b : Bool) : Ty := .one [.bool b]
def aEqs (ne : Bool) (s t : Ty × Sym) : Option Ty :=
  if eqY s.2 t.2 && shp ex s.1 then some (oneB !ne) else
  match foldC ex (cmpF (if ne then .NotEq else .Eq)) s.1 t.1 with
  | some u => some u
  | none => if shp ex s.1 && shp ex t.1 then some .bool else none
def ordI (o : CmpOp) (a b c d : Int) : Option Ty := match o with
  | .Lt => some (if b < c then oneB true else if d ≤ a then oneB false else .bool)
  | .LtE => some (if b ≤ c then oneB true else if d < a then oneB false else .bool)
  | .Gt => some (if d < a then oneB true else if b ≤ c then oneB false else .bool)
  | .GtE => some (if d ≤ a then oneB true else if b < c then oneB false else .bool)
  | _ => none
def aCmp (o : CmpOp) (s t : Ty × Sym) : Option Ty := match o with
  | .Eq => aEqs ex false s t
  | .NotEq => aEqs ex true s t
  | .Is => match asOne ex t.1 with
    | some [.none] => some (if nonT (xp ex s.1) then oneB false else if (asOne ex s.1).any (fun ds => ds.all isNone) then oneB true else .bool)
    | _ => none
  | .IsNot => match asOne ex t.1 with
    | some [.none] => some (if nonT (xp ex s.1) then oneB true else if (asOne ex s.1).any (fun ds => ds.all isNone) then oneB false else .bool)
    | _ => none
  | .In => match foldC ex (cmpF .In) s.1 t.1 with
    | some u => some u
    | none => if (asStr ex s.1).isSome && (asStr ex t.1).isSome then some .bool else match asSeq ex t.1 with
      | some (_, e, _, _) => if flT (xp ex s.1) && flT (xp ex e) then some .bool else none
      | none => none
  | .NotIn => match foldC ex (cmpF .NotIn) s.1 t.1 with
    | some u => some u
    | none => if (asStr ex s.1).isSome && (asStr ex t.1).isSome then some .bool else match asSeq ex t.1 with
      | some (_, e, _, _) => if flT (xp ex s.1) && flT (xp ex e) then some .bool else none
      | none => none
  | o => match foldC ex (cmpF o) s.1 t.1 with
    | some u => some u
    | none => match asInt ex s.1, asInt ex t.1 with
      | some (a, b), some (c, d) => ordI o a b c d
      | _, _ => none
end
section
variable {X : Cxt} {vs : List PyData} {s t : Ty × Sym} {u : Ty} {x y : PyData}
theorem shp_ok {t : Ty} (h : shp X.ex t = true) (q : X.In vs t x) : shapedB x = true := by
  unfold shp at h
  simp only [Bool.and_eq_true] at h
  obtain ⟨h1, h2⟩ := h
  split at h2
  · rename_i e
    simp only [decide_eq_true_eq] at h2
    have g1 := (canT_ok _ h1).1 _ ((xp_ok t).1 _ q)
    have g2 := (wbx_ok e q).de
    unfold shapedB SeqAt.shaped
    rw [g1]
    simp only [Bool.true_and, decide_eq_true_eq]
    omega
  · cases h2
theorem shp_can {t : Ty} (h : shp X.ex t = true) (q : X.In vs t x) : x.canLay0 = true := by
  unfold shp at h
  simp only [Bool.and_eq_true] at h
  exact (canT_ok _ h.1).1 _ ((xp_ok t).1 _ q)
theorem flT_ok : ∀ {t : Ty} {x : PyData}, flT t = true → X.In vs t x → flatP x = true := by
  intro t
  induction t with
  | int a b => intro x _ q; obtain ⟨i, rfl, _⟩ := q; rfl
  | bool => intro x _ q; obtain ⟨i, rfl⟩ := q; rfl
  | str n => intro x _ q; obtain ⟨i, rfl, _⟩ := q; rfl
  | one ds => intro x h q; exact List.all_eq_true.mp h x q
  | uni a b ih1 ih2 => intro x h q; simp only [flT, Bool.and_eq_true] at h; rcases q with q | q; exact ih1 h.1 q; exact ih2 h.2 q
  | _ => intro x h; simp [flT] at h
theorem nonT_ok : ∀ {t : Ty} {x : PyData}, nonT t = true → X.In vs t x → isNone x = false := by
  intro t
  induction t with
  | int a b => intro x _ q; obtain ⟨i, rfl, _⟩ := q; rfl
  | bool => intro x _ q; obtain ⟨i, rfl⟩ := q; rfl
  | str n => intro x _ q; obtain ⟨i, rfl, _⟩ := q; rfl
  | tup a ih => intro x _ q; obtain ⟨i, rfl, _⟩ := q; rfl
  | lst a ih => intro x _ q; obtain ⟨i, rfl, _⟩ := q; rfl
  | seqN l a lo hi ih => intro x _ q; obtain ⟨i, rfl, _⟩ := q; cases l <;> rfl
  | any tu w n => intro x h q; have := q.2 h; cases x <;> simp [isTup] at this ⊢; rfl
  | one ds => intro x h q; have := List.all_eq_true.mp h x q; simpa using this
  | uni a b ih1 ih2 => intro x h q; simp only [nonT, Bool.and_eq_true] at h; rcases q with q | q; exact ih1 h.1 q; exact ih2 h.2 q
  | _ => intro x h; simp [nonT] at h
theorem In_bool (b : Bool) : X.In vs .bool (.bool b) := ⟨b, rfl⟩
theorem In_oneB (b : Bool) : X.In vs (oneB b) (.bool b) := List.mem_singleton.mpr rfl
theorem aEqs_ok {ne : Bool} (h : aEqs X.ex ne s t = some u) (hx : X.In vs s.1 x) (hy : X.In vs t.1 y) (dx : den X.F vs s.2 = some x) (dy : den X.F vs t.2 = some y) : ∃ d, (∀ S, cmpF (if ne then .NotEq else .Eq) S (.p x) (.p y) = some (.p d, S)) ∧ X.In vs u d := by
  unfold aEqs at h
  split at h
  · rename_i hc
    cases h
    simp only [Bool.and_eq_true] at hc
    obtain ⟨h1, h2⟩ := hc
    have e := eqY_eq h1
    rw [e, dy] at dx
    cases dx
    have g := shp_ok h2 hx
    have r := eqv_refl (shp_can h2 hx)
    refine ⟨.bool !ne, fun S => ?_, In_oneB _⟩
    cases ne
    · simp only [Bool.false_eq_true, if_false, cmpF]
      rw [e_eqD rfl rfl g g, r]
      try rfl
    · simp only [if_true, cmpF]
      rw [e_neD rfl rfl g g, r]
      try rfl
  split at h
  · rename_i e; cases h; exact foldC_ok (still_cmp _) e hx hy
  split at h
  · rename_i hc
    cases h
    simp only [Bool.and_eq_true] at hc
    have g := shp_ok hc.1 hx
    have g' := shp_ok hc.2 hy
    cases ne
    · simp only [Bool.false_eq_true, if_false, cmpF]
      exact ⟨_, fun S => e_eqD rfl rfl g g', In_bool _⟩
    · simp only [if_true, cmpF]
      exact ⟨_, fun S => e_neD rfl rfl g g', In_bool _⟩
  · cases h
theorem one_none {t : Ty} (h : asOne X.ex t = some [.none]) (q : X.In vs t y) : y = .none := by
  have := asOne_ok h q
  simpa using this
theorem ordI_ok {o : CmpOp} {a b c d i j : Int} (h : ordI o a b c d = some u) (h1 : a ≤ i) (h2 : i ≤ b) (g1 : c ≤ j) (g2 : j ≤ d) : ∃ e, (∀ S, cmpF o S (.p (.int i)) (.p (.int j)) = some (.p e, S)) ∧ X.In vs u e := by
  have key : ∀ (p q : Prop) [Decidable p] [Decidable q] (r : Bool), (p → r = true) → (q → r = false) → X.In vs (if p then oneB true else if q then oneB false else .bool) (.bool r) := by
    intro p q _ _ r hp hq
    split
    · rename_i z; rw [hp z]; exact In_oneB _
    split
    · rename_i z; rw [hq z]; exact In_oneB _
    · exact In_bool _
  unfold ordI at h
  split at h <;> (try cases h)
  · exact ⟨_, fun S => e_lt _ _, key _ _ _ (fun z => decide_eq_true (by omega)) fun z => decide_eq_false (by omega)⟩
  · exact ⟨_, fun S => e_le _ _, key _ _ _ (fun z => decide_eq_true (by omega)) fun z => decide_eq_false (by omega)⟩
  · exact ⟨_, fun S => e_gt _ _, key _ _ _ (fun z => decide_eq_true (by omega)) fun z => decide_eq_false (by omega)⟩
  · exact ⟨_, fun S => e_ge _ _, key _ _ _ (fun z => decide_eq_true (by omega)) fun z => decide_eq_false (by omega)⟩
theorem fIn_flat {n : Bool} {l : Bool} {ds : List PyData} (h1 : flatP x = true) (h2 : ∀ z ∈ ds, flatP z = true) (S : Sto) : ∃ b, fIn n S (.p x) (.p (sq l ds)) = some (.p (.bool b), S) := by
  have h3 : ds.all flatP = true := List.all_eq_true.mpr h2
  cases l <;> cases x <;> simp only [fIn, sq, seqP, if_true, Bool.false_eq_true, if_false] <;> first | (rw [if_pos (by simp [h1, h3])]; exact ⟨_, rfl⟩) | (simp [flatP] at h1)
theorem still_b {f : F2} {x y : PyData} (hf : Still f) {b : Bool} (h : f [] (.p x) (.p y) = some (.p (.bool b), [])) : ∃ d, (∀ S, f S (.p x) (.p y) = some (.p d, S)) ∧ X.In vs .bool d := ⟨.bool b, fun S => hf S _ _ _ h, In_bool b⟩
theorem is_ok {n : Bool} (e : asOne X.ex t.1 = some [.none]) (hx : X.In vs s.1 x) (hy : X.In vs t.1 y) : ∃ d, (∀ S, fIsN n S (.p x) (.p y) = some (.p d, S)) ∧ X.In vs (if nonT (xp X.ex s.1) then oneB n else if (asOne X.ex s.1).any (fun ds => ds.all isNone) then oneB (!n) else .bool) d := by
  have := one_none e hy
  subst this
  have ei : isNon (.p x) = isNone x := by cases x <;> rfl
  refine ⟨.bool (if n then !isNone x else isNone x), fun S => by rw [← ei]; rfl, ?_⟩
  split
  · rename_i hn
    rw [nonT_ok hn ((xp_ok _).1 _ hx)]
    cases n <;> exact In_oneB _
  split
  · rename_i hn
    cases e1 : asOne X.ex s.1 with
    | none => rw [e1] at hn; cases hn
    | some ds =>
      rw [e1] at hn
      have := List.all_eq_true.mp hn x (asOne_ok e1 hx)
      rw [this]
      cases n <;> exact In_oneB _
  · exact In_bool _
theorem in_ok {o : CmpOp} {n : Bool} (ho : cmpF o = fIn n) (h : (match foldC X.ex (cmpF o) s.1 t.1 with
    | some u => some u
    | none => if (asStr X.ex s.1).isSome && (asStr X.ex t.1).isSome then some .bool else match asSeq X.ex t.1 with
      | some (_, e, _, _) => if flT (xp X.ex s.1) && flT (xp X.ex e) then some .bool else none
      | none => none) = some u) (hx : X.In vs s.1 x) (hy : X.In vs t.1 y) : ∃ d, (∀ S, cmpF o S (.p x) (.p y) = some (.p d, S)) ∧ X.In vs u d := by
  split at h
  · rename_i e; cases h; exact foldC_ok (still_cmp _) e hx hy
  split at h
  · rename_i hc
    cases h
    simp only [Bool.and_eq_true, Option.isSome_iff_exists] at hc
    obtain ⟨⟨a, e1⟩, ⟨b, e2⟩⟩ := hc
    obtain ⟨p, rfl, _⟩ := asStr_ok e1 hx
    obtain ⟨q, rfl, _⟩ := asStr_ok e2 hy
    rw [ho]
    exact ⟨_, fun S => rfl, In_bool _⟩
  split at h
  · rename_i e1
    split at h
    · rename_i hc
      cases h
      simp only [Bool.and_eq_true] at hc
      obtain ⟨ds, rfl, g1, _⟩ := asSeq_ok e1 hy
      obtain ⟨b, hb⟩ := fIn_flat (n := n) (l := _) (flT_ok hc.1 ((xp_ok _).1 _ hx)) (fun z hz => flT_ok hc.2 ((xp_ok _).1 _ (g1 z hz))) []
      exact still_b (still_cmp o) (by rw [ho]; exact hb)
    · cases h
  · cases h
theorem ord_ok' {o : CmpOp} (h : (match foldC X.ex (cmpF o) s.1 t.1 with
    | some u => some u
    | none => match asInt X.ex s.1, asInt X.ex t.1 with
      | some (a, b), some (c, d) => ordI o a b c d
      | _, _ => none) = some u) (hx : X.In vs s.1 x) (hy : X.In vs t.1 y) : ∃ d, (∀ S, cmpF o S (.p x) (.p y) = some (.p d, S)) ∧ X.In vs u d := by
  split at h
  · rename_i e; cases h; exact foldC_ok (still_cmp _) e hx hy
  split at h
  · rename_i e1 e2
    obtain ⟨i, rfl, h1, h2⟩ := asInt_ok e1 hx
    obtain ⟨j, rfl, g1, g2⟩ := asInt_ok e2 hy
    exact ordI_ok h h1 h2 g1 g2
  · cases h
theorem aCmp_ok {o : CmpOp} (h : aCmp X.ex o s t = some u) (hx : X.In vs s.1 x) (hy : X.In vs t.1 y) (dx : den X.F vs s.2 = some x) (dy : den X.F vs t.2 = some y) : ∃ d, (∀ S, cmpF o S (.p x) (.p y) = some (.p d, S)) ∧ X.In vs u d := by
  cases o with
  | Eq => exact aEqs_ok (ne := false) h hx hy dx dy
  | NotEq => exact aEqs_ok (ne := true) h hx hy dx dy
  | Is =>
    simp only [aCmp] at h
    split at h
    · rename_i e; cases h; exact is_ok (n := false) e hx hy
    · cases h
  | IsNot =>
    simp only [aCmp] at h
    split at h
    · rename_i e; cases h; exact is_ok (n := true) e hx hy
    · cases h
  | In => exact in_ok (n := false) rfl h hx hy
  | NotIn => exact in_ok (n := true) rfl h hx hy
  | Lt => exact ord_ok' h hx hy
  | LtE => exact ord_ok' h hx hy
  | Gt => exact ord_ok' h hx hy
  | GtE => exact ord_ok' h hx hy
end
end Pv
end

section
set_option maxRecDepth 10000
set_option maxHeartbeats 4000000
namespace Pv
open PySem PySem.Spec L2
open PyProof.Rows hiding St

/-! ## what slots hold -/
inductive AV where
  | top | p (t : Ty) (s : Sym) | rd (t : Ty) (lo hi : Nat) | own (t : Ty) (lo : Nat) (o : Option Nat) (h : Nat) | spr | scr
abbrev AT := List AV
/-- how long a list is: at most h, or at most h more than it was, and that at most g -/
def OwnB : Option Nat → Nat → Nat → Nat → Prop
  | none, h, _, n => n ≤ h
  | some g, h, b, n => n ≤ b + h ∧ b ≤ g
theorem OwnB.le {o : Option Nat} {h b n : Nat} (q : OwnB o h b n) : n ≤ o.getD 0 + h := by
  cases o with
  | none => simp only [OwnB] at q; simpa using q
  | some g => simp only [OwnB] at q; simp only [Option.getD_some]; omega
structure Cx2 extends Cxt where
  bl : Nat
  Bp : Sto → Prop
  sw : W
  BpO : ∀ B, Bp B → B.length = bl ∧ ∀ o ∈ B, obBelow bl o = true
  swO : ∀ n, sw = .r n → n < bl
/-- w is a list of these data -/
structure LsW (S : Sto) (w : W) (ds : List PyData) : Prop where
  ls : lsP S w = some ds
  sq : seqP S w = some (false, ds)
  pu : pu S w = some (.list ds)
  it : items S w = some (false, ds.map W.p)
  ln : seqLen S w = some ds.length
  ns : ∀ x, w ≠ .p (.str x)
theorem LsW.p (S : Sto) (ds : List PyData) : LsW S (.p (.list ds)) ds := ⟨rfl, rfl, rfl, rfl, rfl, fun x h => by cases h⟩
theorem LsW.r {S : Sto} {n : Nat} {ds : List PyData} (h : S[n]? = some (.l (ds.map W.p))) : LsW S (.r n) ds := by
  refine ⟨?_, ?_, ?_, ?_, ?_, fun x h => by cases h⟩
  · simp only [lsP, h, deP_map]
  · simp only [seqP, h, deP_map]; rfl
  · show puN 3 S (.r n) = _
    simp only [puN, h, mapO_p]; rfl
  · simp only [items, h]
  · simp only [seqLen, h, List.length_map]
section
variable (X : Cx2)
def VR (vs : List PyData) (R : Sto) : AV → W → Prop
  | .top, _ => False
  | .p t s, w => ∃ d, w = .p d ∧ X.In vs t d ∧ den X.F vs s = some d
  | .rd t lo hi, w => ∃ ds : List PyData, (w = .p (.list ds) ∨ ∃ j, w = .r (X.bl + j) ∧ R[j]? = some (.l (ds.map W.p))) ∧ (∀ d ∈ ds, X.In vs t d) ∧ lo ≤ ds.length ∧ ds.length ≤ hi
  | .own _ _ _ _, _ => False
  | .spr, w => w = X.sw
  | .scr, w => ∃ ns, w = .s ns ∧ ns.length ≤ 63
def SR (vs : List PyData) (m : Nat) (R : Sto) (β : Nat) : AV → Option W → Prop
  | .top, _ => True
  | .own t lo o h, w => ∃ (j : Nat) (ds : List PyData), w = some (.r (X.bl + j)) ∧ m ≤ j ∧ R[j]? = some (.l (ds.map W.p)) ∧ (∀ d ∈ ds, X.In vs t d) ∧ lo ≤ ds.length ∧ OwnB o h β ds.length
  | a, w => ∃ x, w = some x ∧ VR X vs R a x
def isOwn : AV → Bool
  | .own _ _ _ _ => true
  | _ => false
def isRef : AV → Bool
  | .own _ _ _ _ => true
  | .rd _ _ _ => true
  | _ => false
structure Env (vs : List PyData) (m : Nat) (β : Nat → Nat) (at' : AT) (τ : Tau) (R : Sto) : Prop where
  len : at'.length = τ.length
  sl : ∀ (i : Nat) a w, at'[i]? = some a → τ[i]? = some w → SR X vs m R (β i) a w
  un : ∀ (i j : Nat) a b n, i ≠ j → at'[i]? = some a → at'[j]? = some b → isOwn a = true → isRef b = true → τ[i]? = some (some (.r n)) → τ[j]? ≠ some (some (.r n))
def CloX (R : Sto) : Prop := ∀ o, o ∈ R → obBelow (X.bl + R.length) o = true
def Got (R : Sto) (vs : List PyData) (c : Nat) (av : AV) : W → Sto → Prop := fun w S => ∃ B vs', X.Bp B ∧ S = B ++ R ∧ vs <+: vs' ∧ vs'.length = c ∧ VR X vs' R av w
def Gots (R : Sto) (vs : List PyData) (c : Nat) (avs : List AV) : List W → Sto → Prop := fun ws S => ∃ B vs', X.Bp B ∧ S = B ++ R ∧ vs <+: vs' ∧ vs'.length = c ∧ Paired (VR X vs' R) avs ws
end
section
variable {X : Cx2} {vs vs' : List PyData} {R : Sto} {m : Nat}
theorem VR_mono (h : vs <+: vs') : ∀ {a : AV} {w : W}, VR X vs R a w → VR X vs' R a w
  | .top, _, q => q
  | .p t s, w, q => by obtain ⟨d, e, q1, q2⟩ := q; exact ⟨d, e, (In_mono h t).1 _ q1, (den_mono X.F h s).1 _ q2⟩
  | .rd t lo hi, w, q => by obtain ⟨ds, e, q1, q2⟩ := q; exact ⟨ds, e, fun d hd => (In_mono h t).1 _ (q1 d hd), q2⟩
  | .own _ _ _ _, _, q => q
  | .spr, _, q => q
  | .scr, _, q => q
theorem SR_mono (h : vs <+: vs') {β : Nat} : ∀ {a : AV} {w : Option W}, SR X vs m R β a w → SR X vs' m R β a w
  | .top, _, q => q
  | .p t s, w, q => by obtain ⟨d, e, q1⟩ := q; exact ⟨d, e, VR_mono h q1⟩
  | .rd t lo hi, w, q => by obtain ⟨d, e, q1⟩ := q; exact ⟨d, e, VR_mono h q1⟩
  | .own t lo g k, w, q => by obtain ⟨j, ds, e, e1, e2, q1, q2⟩ := q; exact ⟨j, ds, e, e1, e2, fun d hd => (In_mono h t).1 _ (q1 d hd), q2⟩
  | .spr, _, q => by obtain ⟨d, e, q1⟩ := q; exact ⟨d, e, VR_mono h q1⟩
  | .scr, _, q => by obtain ⟨d, e, q1⟩ := q; exact ⟨d, e, VR_mono h q1⟩
theorem Env.mono (h : vs <+: vs') {β : Nat → Nat} {at' : AT} {τ : Tau} (e : Env X vs m β at' τ R) : Env X vs' m β at' τ R := ⟨e.len, fun i a w p q => SR_mono h (e.sl i a w p q), e.un⟩
theorem Env.setp {β : Nat → Nat} {at' : AT} {τ : Tau} (e : Env X vs m β at' τ R) (i : Nat) {t : Ty} {s : Sym} {w : W} (h : VR X vs R (.p t s) w) : Env X vs m β (at'.set i (.p t s)) (τ.set i (some w)) R := by
  refine ⟨by simp [e.len], fun j a u p q => ?_, fun j k a b n hne p q p1 q1 => ?_⟩
  · rw [List.getElem?_set] at p q
    by_cases hj : i = j
    · subst hj
      rw [if_pos rfl] at p q
      split at p
      · rename_i hl
        rw [if_pos (by rw [← e.len]; exact hl)] at q
        cases p; cases q
        exact ⟨w, rfl, h⟩
      · cases p
    · rw [if_neg hj] at p q
      exact e.sl j a u p q
  · have n1 : i ≠ j := by
      rintro rfl
      rw [List.getElem?_set, if_pos rfl] at p
      split at p
      · cases p; cases p1
      · cases p
    have n2 : i ≠ k := by
      rintro rfl
      rw [List.getElem?_set, if_pos rfl] at q
      split at q
      · cases q; cases q1
      · cases q
    rw [List.getElem?_set, if_neg n1] at p ⊢
    rw [List.getElem?_set, if_neg n2] at q ⊢
    exact e.un j k a b n hne p q p1 q1
def wipeA (at' : AT) : List Nat → AT
  | [] => at'
  | i :: is => (wipeA at' is).set i .top
theorem Env.settop {β : Nat → Nat} {at' : AT} {τ : Tau} (e : Env X vs m β at' τ R) (i : Nat) (w : Option W) : Env X vs m β (at'.set i .top) (τ.set i w) R := by
  refine ⟨by simp [e.len], fun j a u p q => ?_, fun j k a b n hne p q p1 q1 => ?_⟩
  · rw [List.getElem?_set] at p q
    by_cases hj : i = j
    · subst hj
      rw [if_pos rfl] at p q
      split at p
      · cases p; exact trivial
      · cases p
    · rw [if_neg hj] at p q
      exact e.sl j a u p q
  · have n1 : i ≠ j := by
      rintro rfl
      rw [List.getElem?_set, if_pos rfl] at p
      split at p
      · cases p; cases p1
      · cases p
    have n2 : i ≠ k := by
      rintro rfl
      rw [List.getElem?_set, if_pos rfl] at q
      split at q
      · cases q; cases q1
      · cases q
    rw [List.getElem?_set, if_neg n1] at p ⊢
    rw [List.getElem?_set, if_neg n2] at q ⊢
    exact e.un j k a b n hne p q p1 q1
theorem Env.wipe {β : Nat → Nat} {at' : AT} {τ : Tau} (e : Env X vs m β at' τ R) : ∀ own : List Nat, Env X vs m β (wipeA at' own) (wipeT τ own) R
  | [] => e
  | i :: is => (e.wipe is).settop i none
theorem VR_ls {B : Sto} (hB : X.Bp B) {t : Ty} {lo hi : Nat} {w : W} (h : VR X vs R (.rd t lo hi) w) : ∃ ds, LsW (B ++ R) w ds ∧ (∀ d ∈ ds, X.In vs t d) ∧ lo ≤ ds.length ∧ ds.length ≤ hi := by
  obtain ⟨ds, e, h⟩ := h
  refine ⟨ds, ?_, h⟩
  rcases e with rfl | ⟨j, rfl, hj⟩
  · exact LsW.p _ _
  · refine LsW.r ?_
    rw [List.getElem?_append_right (by rw [(X.BpO B hB).1]; omega), (X.BpO B hB).1]
    rw [show X.bl + j - X.bl = j by omega]
    exact hj
end
/-! ## operations -/
def fin (t : Ty) (c : Nat) : AV × Nat := match t with
  | .one [d] => (.p t (.k d), c)
  | _ => (.p t (.v c), c + 1)
theorem fin_ok {X : Cx2} {vs : List PyData} {R : Sto} {t : Ty} {d : PyData} {B : Sto} {c : Nat} (h : X.In vs t d) (hB : X.Bp B) (hc : vs.length = c) : Got X R vs (fin t c).2 (fin t c).1 (.p d) (B ++ R) := by
  subst hc
  unfold fin
  split
  · refine ⟨B, vs, hB, rfl, List.prefix_refl _, rfl, d, rfl, h, ?_⟩
    have := List.mem_singleton.mp h
    rw [this]; rfl
  · refine ⟨B, vs ++ [d], hB, rfl, List.prefix_append _ _, by simp, d, rfl, (In_mono (List.prefix_append _ _) t).1 _ h, ?_⟩
    simp [den]
theorem fin_p (t : Ty) (c : Nat) : ∃ s, (fin t c).1 = .p t s := by
  unfold fin
  split <;> exact ⟨_, rfl⟩
section
variable (ex : Nat → Option Ty)
/-- what a value is as a row: of a list (true) or a tuple -/
def seqAV : AV → Option (Bool × Ty × Nat × Nat)
  | .p t _ => asSeq ex t
  | .rd t lo hi => some (true, t, lo, hi)
  | _ => none
def isB (t : Ty) : Bool := sub FU (xp ex t) .bool
def kb : Ty → Option Bool
  | .one [.bool b] => some b
  | _ => none
def aLen : AV → Option Ty
  | .p t _ => match asShape ex t with
    | some (_, l) => some (.one [.int l.length])
    | none => match (if isAnyT t then none else asSeq ex t) with
      | some (_, _, lo, hi) => some (.int lo hi)
      | none => match asTup ex t with
        | some (w, _) => some (.int 0 w)
        | none => match asStr ex t with
          | some n => if n ≤ lim then some (.int 0 n) else none
          | none => none
  | .rd _ lo hi => some (.int lo hi)
  | _ => none
def aTupL (l : Bool) : AV → Option Ty
  | .p t _ => match asShape ex t with
    | some (_, ts) => some (shp' l ts)
    | none => match (if isAnyT t then none else asSeq ex t) with
      | some (_, e, lo, hi) => some (.seqN l e lo hi)
      | none => match asTup ex t with
        | some (w, n) => some (.any (!l) w n)
        | none => none
  | .rd e lo hi => some (.seqN l e lo hi)
  | _ => none
def fold1T (f : FL1) (t : Ty) : Option Ty := match asOne ex t with
  | some ds => (fold1 (fun d => unP (f [] [.p d])) ds).map fun r => .one (dedup r)
  | none => none
def aInt (t : Ty) : Option Ty := match asOne ex t with
  | some [.bool b] => some (.one [.int (if b then 1 else 0)])
  | _ => match asInt ex t with
    | some (a, b) => some (.int a b)
    | none => if isB ex t then some (.int 0 1) else none
def aAbs (t : Ty) : Option Ty := match asInt ex t with
  | some (a, b) => some (.int 0 (max (max a b) (max (-a) (-b))))
  | none => none
def aAll (t : Ty) : Option Ty := match asSeq ex t with
  | some (true, e, _, _) => if isB ex e then some .bool else none
  | _ => none
def aRep (t : Ty) : Option Ty := match wbx ex t with
  | some (w, n) => if w ≤ 150000 ∧ n ≤ 60 then some (.str (52 * w + 50)) else none
  | none => none
def aBi (b : BI) (avs : List AV) (c : Nat) : Option (AV × Nat) := match b, avs with
  | .len, [a] => (aLen ex a).map fun u => fin u c
  | .tuple, [a] => (aTupL ex false a).map fun u => fin u c
  | .list, [a] => (aTupL ex true a).map fun u => fin u c
  | .int, [.p t _] => (aInt ex t).map fun u => fin u c
  | .abs, [.p t _] => (aAbs ex t).map fun u => fin u c
  | .all, [.p t _] => (aAll ex t).map fun u => fin u c
  | .any, [.p t _] => (aAll ex t).map fun u => fin u c
  | .repr, [.p t s] => (aRep ex t).map fun u => (.p u (.rep s), c)
  | _, _ => none
def kindsT : Ty → Option (List (Option Kd))
  | .int _ _ => some [some .int]
  | .bool => some [some .bl]
  | .str _ => some [some .str]
  | .one ds => some (ds.map fun d => kdOf (.p d))
  | .tup _ => some [some .tup]
  | .lst _ => some [some .lst]
  | .seqN l _ _ _ => some [some (if l then .lst else .tup)]
  | .uni a b => match kindsT a, kindsT b with
    | some x, some y => some (x ++ y)
    | _, _ => none
  | .any true _ _ => some [some .tup]
  | _ => none
def isK (T : Kd) : Option Kd → Bool
  | some k => k == T || (k == .bl && T == .int)
  | none => false
def aIsi (t : Ty) (T : Kd) : Ty := match kindsT (xp ex t) with
  | some ks => if ks.all (isK T) then oneB true else if ks.all (fun k => !isK T k) then oneB false else .bool
  | none => .bool
/-- the truth of a value, where it is known -/
def aTru : AV → Option (Option Bool)
  | .p t _ => match asOne ex t with
    | some ds => if ds.all (fun d => match tru [] (.p d) with
        | some true => true
        | _ => false) then some (some true) else if ds.all (fun d => match tru [] (.p d) with
        | some false => true
        | _ => false) then some (some false) else if ds.all (fun d => (tru [] (.p d)).isSome) then some none else none
    | none => if isB ex t then some none else match asInt ex t with
      | some _ => some none
      | none => match asShape ex t with
        | some (_, l) => some (some !l.isEmpty)
        | none => match (if isAnyT t then none else asSeq ex t) with
          | some (_, _, lo, hi) => some (if 1 ≤ lo then some true else if hi = 0 then some false else none)
          | none => if (asTup ex t).isSome then some none else match asStr ex t with
            | some n => if n ≤ lim then some none else none
            | none => none
  | .rd _ lo hi => some (if 1 ≤ lo then some true else if hi = 0 then some false else none)
  | _ => none
def aIx (a : AV) (t : Ty) : Option (Ty × Option Nat) :=
  match (match a, asOne ex t with
    | .p s _, some [.int i] => match asShape ex s with
      | some (_, l) => (L2.atI l i).map fun u => (u, if 0 ≤ i then some i.toNat else none)
      | none => none
    | _, _ => none) with
  | some r => some r
  | none => match seqAV ex a, asInt ex t with
    | some (_, e, lo, _), some (x, y) => if -(lo : Int) ≤ x ∧ y < lo then some (e, none) else none
    | _, _ => none
/-- a slice's bound: none, or an int between two -/
abbrev AP := Option (Int × Int)
def exP : AP → Option (Option Int)
  | none => some none
  | some (a, b) => if a = b then some (some a) else none
def posP : AP → Bool
  | some (a, _) => decide (0 ≤ a)
  | none => true
def slHi (n : Nat) : AP → Nat
  | some (a, b) => if 0 ≤ a then min n b.toNat else n
  | none => n
def aSl (l h : AP) (t : Ty) : Option Ty :=
  match (match exP l, exP h, asShape ex t with
    | some lo, some hi, some (k, ts) => some (shp' k (cutL ts lo hi))
    | _, _, _ => none) with
  | some u => some u
  | none => match (if isAnyT t then none else asSeq ex t) with
    | some (k, e, lo, hi) => some (.seqN k e (match l, h with
      | none, none => lo
      | none, some (a, _) => if 0 ≤ a then min lo a.toNat else 0
      | some (a, b), none => if 0 ≤ a then lo - b.toNat else 0
      | _, _ => 0) (if posP l then slHi hi h else hi))
    | none => match asTup ex t with
      | some (w, n) => some (.any true w n)
      | none => match asStr ex t with
        | some n => if n ≤ lim then some (.str n) else none
        | none => none
def aRev (t : Ty) : Option Ty := match asShape ex t with
  | some (k, ts) => some (shp' k ts.reverse)
  | none => match (if isAnyT t then none else asSeq ex t) with
    | some (k, e, lo, hi) => some (.seqN k e lo hi)
    | none => match asTup ex t with
      | some (w, n) => some (.any true w n)
      | none => none
/-- two lists, of which one may change, put together -/
def lsAV : AV → Option (Ty × Nat × Nat)
  | .p t _ => match asSeq ex t with
    | some (true, e, lo, hi) => some (e, lo, hi)
    | _ => none
  | .rd t lo hi => some (t, lo, hi)
  | _ => none
def aAddL (a b : AV) : Option Ty := match lsAV ex a, lsAV ex b with
  | some (e, lo, hi), some (e', lo', hi') => if hi + hi' ≤ lim then some (.seqN true (join e e') (lo + lo') (hi + hi')) else none
  | _, _ => none
def aJoin (s : Ty) (a : AV) : Option Ty := match asStr ex s, seqAV ex a with
  | some n, some (_, e, _, hi) => match asStr ex e with
    | some k => if hi * k + hi * n ≤ 16777216 then some (.str (hi * k + hi * n)) else none
    | none => none
  | _, _ => none
end
section
variable {X : Cx2} {vs : List PyData} {R B : Sto} {t u : Ty} {d : PyData} {a : AV} {w : W}
theorem isB_ok (h : isB X.ex t = true) (q : X.In vs t d) : ∃ b, d = .bool b := xsub h q
theorem kb_ok {b : Bool} (h : kb t = some b) (q : X.In vs t d) : d = .bool b := by
  unfold kb at h
  split at h
  · cases h; exact List.mem_singleton.mp q
  · cases h
theorem noAny {α : Type} {c : Bool} {o : Option α} {x : α} (h : (if c = true then none else o) = some x) : o = some x := by
  cases c
  · exact h
  · cases h
theorem seqAV_ok {l : Bool} {e : Ty} {lo hi : Nat} (hB : X.Bp B) (h : seqAV X.ex a = some (l, e, lo, hi)) (q : VR X vs R a w) : ∃ ds, seqP (B ++ R) w = some (!l, ds) ∧ items (B ++ R) w = some (!l, ds.map W.p) ∧ seqLen (B ++ R) w = some ds.length ∧ (∀ x, w ≠ .p (.str x)) ∧ (∀ d ∈ ds, X.In vs e d) ∧ lo ≤ ds.length ∧ ds.length ≤ hi ∧ ((∃ d, w = .p d) → w = .p (sq l ds)) := by
  cases a with
  | p t s =>
    obtain ⟨d, rfl, h1, h2⟩ := q
    obtain ⟨ds, rfl, h3⟩ := asSeq_ok h h1
    refine ⟨ds, seqP_sq _ _ _, items_sq _ _ _, ?_, ?_, h3.1, h3.2.1, h3.2.2, fun _ => rfl⟩
    · cases l <;> rfl
    · intro x e
      cases l <;> cases e
  | rd t lo' hi' =>
    cases h
    obtain ⟨ds, g, h1, h2, h3⟩ := VR_ls hB q
    refine ⟨ds, g.sq, g.it, g.ln, g.ns, h1, h2, h3, ?_⟩
    rintro ⟨d, rfl⟩
    have := g.pu
    simp only [pu_p, Option.some.injEq] at this
    rw [this]; rfl
  | _ => cases h
theorem aLen_ok (hB : X.Bp B) (h : aLen X.ex a = some u) (q : VR X vs R a w) : ∃ d, fLen (B ++ R) [w] = some (.p d, B ++ R) ∧ X.In vs u d := by
  have key : ∀ n, seqLen (B ++ R) w = some n → (∀ x, w ≠ .p (.str x)) → fLen (B ++ R) [w] = some (.p (.int n), B ++ R) := by
    intro n e hn
    unfold fLen
    split
    · rename_i e1; cases e1; exact absurd rfl (hn _)
    · rename_i e1; cases e1; rw [e]
    · rename_i _ e2; exact absurd rfl (e2 w)
  cases a with
  | p t s =>
    obtain ⟨d, rfl, h1, h2⟩ := q
    simp only [aLen] at h
    split at h
    · rename_i k l e
      cases h
      obtain ⟨ds, rfl, hs⟩ := asShape_ok e h1
      refine ⟨.int ds.length, key _ (by cases k <;> rfl) (fun x e => by cases k <;> cases e), ?_⟩
      rw [← hs.1]; exact List.mem_singleton.mpr rfl
    split at h
    · rename_i k e lo hi eq
      cases h
      obtain ⟨ds, rfl, hs⟩ := asSeq_ok (noAny eq) h1
      exact ⟨.int ds.length, key _ (by cases k <;> rfl) (fun x e => by cases k <;> cases e), _, rfl, by omega, by omega⟩
    split at h
    · rename_i e
      cases h
      obtain ⟨ds, rfl, h3, h4⟩ := asTup_ok e h1
      have := h4.len
      exact ⟨.int ds.length, rfl, _, rfl, by omega, by omega⟩
    split at h
    · rename_i e
      split at h
      · cases h
        obtain ⟨x, rfl, h3, h4⟩ := asStr_ok e h1
        exact ⟨.int x.length, e_lenS _ (by omega), _, rfl, by omega, by omega⟩
      · cases h
    · cases h
  | rd t lo hi =>
    cases h
    obtain ⟨ds, g, h1, h2, h3⟩ := VR_ls hB q
    exact ⟨.int ds.length, key _ g.ln g.ns, _, rfl, by omega, by omega⟩
  | _ => cases h
theorem fTuple_sq {S : Sto} {k : Bool} {ds : List PyData} : fTuple S [.p (sq k ds)] = some (.p (.tuple ds), S) := by cases k <;> rfl
theorem fList_sq {S : Sto} {k : Bool} {ds : List PyData} : fList S [.p (sq k ds)] = some (.p (.list ds), S) := by cases k <;> rfl
theorem fTL_ls {S : Sto} {w : W} {ds : List PyData} (g : LsW S w ds) : fTuple S [w] = some (.p (.tuple ds), S) ∧ fList S [w] = some (.p (.list ds), S) := by
  have h := g.sq
  constructor
  · unfold fTuple
    split
    · rename_i e; cases e; cases h
    · rename_i e; cases e; rw [h]
    · rename_i _ e2; exact absurd rfl (e2 w)
  · unfold fList
    dsimp only
    rw [h]
theorem aTupL_ok {l : Bool} (hB : X.Bp B) (h : aTupL X.ex l a = some u) (q : VR X vs R a w) : ∃ d, (if l then fList else fTuple) (B ++ R) [w] = some (.p d, B ++ R) ∧ X.In vs u d := by
  cases a with
  | p t s =>
    obtain ⟨d, rfl, h1, h2⟩ := q
    simp only [aTupL] at h
    split at h
    · rename_i k ts e
      cases h
      obtain ⟨ds, rfl, hs⟩ := asShape_ok e h1
      refine ⟨sq l ds, ?_, In_shp hs⟩
      cases l
      · exact fTuple_sq
      · exact fList_sq
    split at h
    · rename_i k e lo hi eq
      cases h
      obtain ⟨ds, rfl, hs⟩ := asSeq_ok (noAny eq) h1
      refine ⟨sq l ds, ?_, ds, rfl, hs⟩
      cases l
      · exact fTuple_sq
      · exact fList_sq
    split at h
    · rename_i e
      cases h
      obtain ⟨ds, rfl, h3, h4⟩ := asTup_ok e h1
      refine ⟨sq l ds, ?_, ?_⟩
      · cases l
        · exact fTuple_sq (k := false)
        · exact fList_sq (k := false)
      · cases l
        · exact ⟨h4.tup.mono (Nat.le_refl _) (by omega), fun _ => rfl⟩
        · exact ⟨h4.lst.mono (Nat.le_refl _) (by omega), fun z => by cases z⟩
    · cases h
  | rd t lo hi =>
    cases h
    obtain ⟨ds, g, h1, h2, h3⟩ := VR_ls hB q
    refine ⟨sq l ds, ?_, ds, rfl, h1, h2, h3⟩
    cases l
    · exact (fTL_ls g).1
    · exact (fTL_ls g).2
  | _ => cases h
theorem aInt_ok (h : aInt X.ex t = some u) (q : X.In vs t d) (S : Sto) : ∃ e, fInt S [.p d] = some (.p e, S) ∧ X.In vs u e := by
  unfold aInt at h
  split at h
  · rename_i e
    cases h
    have := asOne_ok e q
    simp only [List.mem_singleton] at this
    subst this
    exact ⟨_, rfl, List.mem_singleton.mpr rfl⟩
  split at h
  · rename_i e
    cases h
    obtain ⟨i, rfl, h1, h2⟩ := asInt_ok e q
    exact ⟨.int i, rfl, i, rfl, h1, h2⟩
  split at h
  · rename_i e
    cases h
    obtain ⟨b, rfl⟩ := isB_ok e q
    refine ⟨_, rfl, _, rfl, ?_, ?_⟩ <;> cases b <;> decide
  · cases h
theorem aAbs_ok (h : aAbs X.ex t = some u) (q : X.In vs t d) (S : Sto) : ∃ e, fAbs S [.p d] = some (.p e, S) ∧ X.In vs u e := by
  unfold aAbs at h
  split at h
  · rename_i e
    cases h
    obtain ⟨i, rfl, h1, h2⟩ := asInt_ok e q
    refine ⟨_, rfl, _, rfl, ?_, ?_⟩ <;> split <;> omega
  · cases h
theorem bools_of : ∀ {ds : List PyData}, (∀ d ∈ ds, ∃ b, d = .bool b) → ∃ bs, bools ds = some bs
  | [], _ => ⟨[], rfl⟩
  | x :: r, h => by
    obtain ⟨b, rfl⟩ := h x (List.mem_cons_self ..)
    obtain ⟨bs, e⟩ := bools_of fun d hd => h d (List.mem_cons_of_mem _ hd)
    exact ⟨b :: bs, by simp only [bools, e, Option.map]⟩
theorem aAll_ok {n : Bool} (h : aAll X.ex t = some u) (q : X.In vs t d) (S : Sto) : ∃ e, fAll n S [.p d] = some (.p e, S) ∧ X.In vs u e := by
  unfold aAll at h
  split at h
  · rename_i e1
    split at h
    · rename_i hb
      cases h
      obtain ⟨ds, rfl, h1, _⟩ := asSeq_ok e1 q
      obtain ⟨bs, e⟩ := bools_of fun d hd => isB_ok hb (h1 d hd)
      refine ⟨.bool (if n then bs.any id else bs.all id), ?_, In_bool _⟩
      simp only [sq, fAll, if_true, e]
    · cases h
  · cases h
theorem aRep_ok (h : aRep X.ex t = some u) (q : X.In vs t d) (S : Sto) : fRepr S [.p d] = some (.p (.str d.shown), S) ∧ X.In vs u (.str d.shown) := by
  unfold aRep at h
  split at h
  · rename_i e
    split at h
    · rename_i hc
      cases h
      have f := (wbx_ok e q).fit
      exact ⟨e_repr rfl f hc.1 hc.2, _, rfl, f.so, f.len⟩
    · cases h
  · cases h
theorem kindsT_ok : ∀ {t : Ty} {ks : List (Option Kd)} {d : PyData}, kindsT t = some ks → X.In vs t d → kdOf (.p d) ∈ ks := by
  intro t
  induction t with
  | int a b => intro ks d h q; cases h; obtain ⟨i, rfl, _⟩ := q; exact List.mem_singleton.mpr rfl
  | bool => intro ks d h q; cases h; obtain ⟨i, rfl⟩ := q; exact List.mem_singleton.mpr rfl
  | str n => intro ks d h q; cases h; obtain ⟨i, rfl, _⟩ := q; exact List.mem_singleton.mpr rfl
  | one ds => intro ks d h q; cases h; exact List.mem_map.mpr ⟨d, q, rfl⟩
  | tup a ih => intro ks d h q; cases h; obtain ⟨i, rfl, _⟩ := q; exact List.mem_singleton.mpr rfl
  | lst a ih => intro ks d h q; cases h; obtain ⟨i, rfl, _⟩ := q; exact List.mem_singleton.mpr rfl
  | seqN l a lo hi ih => intro ks d h q; cases h; obtain ⟨i, rfl, _⟩ := q; cases l <;> exact List.mem_singleton.mpr rfl
  | uni a b ih1 ih2 =>
    intro ks d h q
    unfold kindsT at h
    split at h
    · rename_i e1 e2
      cases h
      rcases q with q | q
      · exact List.mem_append_left _ (ih1 e1 q)
      · exact List.mem_append_right _ (ih2 e2 q)
    · cases h
  | any tu w n =>
    intro ks d h q
    cases tu
    · cases h
    · cases h
      have := q.2 rfl
      cases d <;> simp [isTup] at this
      exact List.mem_singleton.mpr rfl
  | _ => intro ks d h; simp [kindsT] at h
theorem aIsi_ok {T : Kd} (q : X.In vs t d) : X.In vs (aIsi X.ex t T) (.bool (isiB (.p d) T)) := by
  have e : isiB (.p d) T = isK T (kdOf (.p d)) := by unfold isiB isK; rfl
  unfold aIsi
  split
  · rename_i ks h
    have hm := kindsT_ok h ((xp_ok _).1 _ q)
    split
    · rename_i ha
      rw [e, List.all_eq_true.mp ha _ hm]
      exact In_oneB _
    split
    · rename_i ha
      have := List.all_eq_true.mp ha _ hm
      simp only [Bool.not_eq_true'] at this
      rw [e, this]
      exact In_oneB _
    · exact In_bool _
  · exact In_bool _
theorem tru_p (S : Sto) (d : PyData) : tru S (.p d) = tru [] (.p d) := by cases d <;> rfl
theorem aTru_ok {o : Option Bool} (hB : X.Bp B) (h : aTru X.ex a = some o) (q : VR X vs R a w) : ∃ b, tru (B ++ R) w = some b ∧ ∀ k, o = some k → b = k := by
  have ls : ∀ (k : Bool) (ds : List PyData) (S : Sto), tru S (.p (sq k ds)) = some !ds.isEmpty := fun k ds S => by cases k <;> rfl
  have lh : ∀ (ds : List PyData) (lo hi : Nat), lo ≤ ds.length → ds.length ≤ hi → ∀ k, (if 1 ≤ lo then some true else if hi = 0 then some false else none) = some k → (!ds.isEmpty) = k := by
    intro ds lo hi h1 h2 k e
    split at e
    · cases e
      cases ds
      · simp at h1; omega
      · rfl
    split at e
    · cases e
      cases ds
      · rfl
      · simp at h2; omega
    · cases e
  cases a with
  | p t s =>
    obtain ⟨d, rfl, h1, h2⟩ := q
    simp only [aTru] at h
    split at h
    · rename_i ds e
      have hm := asOne_ok e h1
      rw [tru_p]
      split at h
      · rename_i ha
        cases h
        have := List.all_eq_true.mp ha d hm
        split at this
        · rename_i e; exact ⟨true, e, fun k z => by cases z; rfl⟩
        · cases this
      split at h
      · rename_i ha
        cases h
        have := List.all_eq_true.mp ha d hm
        split at this
        · rename_i e; exact ⟨false, e, fun k z => by cases z; rfl⟩
        · cases this
      split at h
      · rename_i ha
        cases h
        have := List.all_eq_true.mp ha d hm
        obtain ⟨b, e⟩ := Option.isSome_iff_exists.mp this
        exact ⟨b, e, fun k z => by cases z⟩
      · cases h
    split at h
    · rename_i hb
      cases h
      obtain ⟨b, rfl⟩ := isB_ok hb h1
      exact ⟨b, rfl, fun k z => by cases z⟩
    split at h
    · rename_i e
      cases h
      obtain ⟨i, rfl, _⟩ := asInt_ok (a := _) (b := _) e h1
      exact ⟨_, rfl, fun k z => by cases z⟩
    split at h
    · rename_i k l e
      cases h
      obtain ⟨ds, rfl, hs⟩ := asShape_ok e h1
      refine ⟨_, ls _ _ _, fun k z => ?_⟩
      cases z
      have := hs.1
      cases l <;> cases ds <;> simp at this ⊢
    split at h
    · rename_i k e lo hi eq
      cases h
      obtain ⟨ds, rfl, hs⟩ := asSeq_ok (noAny eq) h1
      exact ⟨_, ls _ _ _, lh ds lo hi hs.2.1 hs.2.2⟩
    split at h
    · rename_i e
      cases h
      obtain ⟨⟨w, n⟩, e⟩ := Option.isSome_iff_exists.mp e
      obtain ⟨ds, rfl, h3, h4⟩ := asTup_ok e h1
      exact ⟨_, rfl, fun k z => by cases z⟩
    split at h
    · rename_i e
      split at h
      · cases h
        obtain ⟨x, rfl, h3, h4⟩ := asStr_ok e h1
        refine ⟨_, if_pos (by omega), fun k z => by cases z⟩
      · cases h
    · cases h
  | rd t lo hi =>
    simp only [aTru, Option.some.injEq] at h
    obtain ⟨ds, e, h1, h2, h3⟩ := q
    rcases e with rfl | ⟨j, rfl, hj⟩
    · exact ⟨_, rfl, fun k z => lh ds lo hi h2 h3 k (by rw [h]; exact z)⟩
    · refine ⟨!ds.isEmpty, ?_, fun k z => lh ds lo hi h2 h3 k (by rw [h]; exact z)⟩
      show (match (B ++ R)[X.bl + j]? with
        | some (.l ws) => some !ws.isEmpty
        | none => none) = _
      rw [List.getElem?_append_right (by rw [(X.BpO B hB).1]; omega), (X.BpO B hB).1, show X.bl + j - X.bl = j by omega, hj]
      dsimp only
      cases ds <;> rfl
  | _ => cases h
theorem atI_sh {l : List Ty} {ds : List PyData} {i : Int} (hs : Sh' X.toCxt vs l ds) (h : L2.atI l i = some u) : ∃ j d, L2.ixN ds.length i = some j ∧ ds[j]? = some d ∧ L2.atI ds i = some d ∧ X.In vs u d ∧ (0 ≤ i → j = i.toNat) := by
  obtain ⟨j, h1, h2⟩ := atI_at h
  rw [hs.1] at h1
  have hj := (List.getElem?_eq_some_iff.mp h2).1
  rw [hs.1] at hj
  refine ⟨j, ds[j], h1, List.getElem?_eq_getElem hj, atI_mk h1 (List.getElem?_eq_getElem hj), hs.2 j _ _ h2 (List.getElem?_eq_getElem hj), fun h0 => ?_⟩
  unfold L2.ixN at h1
  rw [if_pos h0] at h1
  split at h1
  · cases h1; rfl
  · cases h1
theorem fIx_items {S : Sto} {w : W} {b : Bool} {ws : List W} {i : Int} {x : W} (hn : ∀ x, w ≠ .p (.str x)) (h : items S w = some (b, ws)) (hx : L2.atI ws i = some x) : fIx S w (.p (.int i)) = some (x, S) := by
  unfold fIx
  split
  · rename_i e1 e2; exact absurd rfl (hn _)
  · rename_i e1 e2
    cases e2
    rw [h]
    dsimp only
    rw [hx]; rfl
  · rename_i e3 _; exact absurd rfl (e3 i)
theorem aIx_ok {o : Option Nat} {e : PyData} (hB : X.Bp B) (h : aIx X.ex a t = some (u, o)) (q : VR X vs R a w) (qt : X.In vs t e) : ∃ d, fIx (B ++ R) w (.p e) = some (.p d, B ++ R) ∧ X.In vs u d ∧ (∀ n t' s, o = some n → a = .p t' s → den X.F vs (.ix s n) = some d) := by
  unfold aIx at h
  split at h
  · rename_i r hr
    cases h
    split at hr
    · rename_i s sy i e1
      split at hr
      · rename_i k l e2
        rw [Option.map_eq_some_iff] at hr
        obtain ⟨u', e3, e4⟩ := hr
        cases e4
        have := asOne_ok e1 qt
        simp only [List.mem_singleton] at this
        subst this
        obtain ⟨d, rfl, h1, h2⟩ := q
        obtain ⟨ds, rfl, hs⟩ := asShape_ok e2 h1
        obtain ⟨j, d, g1, g2, g3, g4, g5⟩ := atI_sh hs e3
        refine ⟨d, ?_, g4, fun n t' s' hn ha => ?_⟩
        · refine fIx_items (fun x e => by cases k <;> cases e) (items_sq _ _ _) ?_
          rw [atI_map, g3]; rfl
        · split at hn
          · rename_i h0
            cases hn
            cases ha
            simp only [den, h2]
            rw [← g5 h0]
            cases k <;> exact g2
          · cases hn
      · cases hr
    · cases hr
  split at h
  · rename_i l e' lo hi x y e1 e2
    split at h
    · rename_i hc
      cases h
      obtain ⟨i, rfl, h1, h2⟩ := asInt_ok e2 qt
      obtain ⟨ds, g1, g2, g3, g4, g5, g6, g7, g8⟩ := seqAV_ok hB e1 q
      obtain ⟨j, hj⟩ : ∃ j, L2.ixN ds.length i = some j := by
        unfold L2.ixN
        split
        · rw [if_pos (by omega)]; exact ⟨_, rfl⟩
        · rw [if_pos (by omega)]; exact ⟨_, rfl⟩
      have hjl : j < ds.length := (L2.ixN_seq hj).2.1
      refine ⟨ds[j], fIx_items g4 g2 ?_, g5 _ (List.getElem_mem hjl), fun n _ _ z => by cases z⟩
      rw [atI_map, atI_mk hj (List.getElem?_eq_getElem hjl)]; rfl
    · cases h
  · cases h
def PR : AP → Option Int → Prop
  | none, o => o = none
  | some (a, b), o => ∃ i, o = some i ∧ a ≤ i ∧ i ≤ b
theorem exP_ok {l : AP} {o o' : Option Int} (h : exP l = some o) (q : PR l o') : o' = o := by
  cases l with
  | none => cases h; exact q
  | some p =>
    obtain ⟨a, b⟩ := p
    simp only [exP] at h
    split at h
    · rename_i e
      cases h
      obtain ⟨i, rfl, h1, h2⟩ := q
      have := Int.le_antisymm h2 (by omega)
      rw [this, e]
    · cases h
theorem cutL_hi {α : Type} (xs : List α) (lo : Option Int) (b : Int) (hb : 0 ≤ b) (hl : ∀ i, lo = some i → 0 ≤ i) : (cutL xs lo (some b)).length ≤ b.toNat := by
  obtain ⟨n, rfl⟩ := Int.eq_ofNat_of_zero_le hb
  unfold cutL
  rw [HT.sIx_nat]
  simp only [List.length_take, List.length_drop, Int.toNat_natCast]
  omega
theorem fSl_sq {S : Sto} {k : Bool} {ds : List PyData} (lo hi : Option Int) : fSl lo hi S (.p (sq k ds)) = some (.p (sq k (cutL ds lo hi)), S) := by cases k <;> rfl
theorem aSl_ok {l h : AP} {lo hi : Option Int} (e : aSl X.ex l h t = some u) (q : X.In vs t d) (ql : PR l lo) (qh : PR h hi) (S : Sto) : ∃ d', fSl lo hi S (.p d) = some (.p d', S) ∧ X.In vs u d' := by
  unfold aSl at e
  split at e
  · rename_i r hr
    cases e
    split at hr
    · rename_i e1 e2 e3
      cases hr
      obtain ⟨ds, rfl, hs⟩ := asShape_ok e3 q
      rw [exP_ok e1 ql, exP_ok e2 qh]
      exact ⟨_, fSl_sq _ _, In_shp (hs.cut _ _)⟩
    · cases hr
  split at e
  · rename_i k e' lo' hi' eq
    cases e
    obtain ⟨ds, rfl, h1, h2, h3⟩ := asSeq_ok (noAny eq) q
    refine ⟨_, fSl_sq _ _, _, rfl, fun z hz => h1 z (cutL_mem hz), ?_, ?_⟩
    · split
      · cases ql; cases qh
        unfold cutL
        simp [HT.sIx_none]; omega
      · obtain ⟨i, rfl, i1, i2⟩ := qh
        cases ql
        split
        · obtain ⟨n, rfl⟩ := Int.eq_ofNat_of_zero_le (show 0 ≤ i by omega)
          rw [cut_to]
          simp only [List.length_take]
          omega
        · omega
      · obtain ⟨i, rfl, i1, i2⟩ := ql
        cases qh
        split
        · obtain ⟨n, rfl⟩ := Int.eq_ofNat_of_zero_le (show 0 ≤ i by omega)
          rw [cut_from]
          simp only [List.length_drop]
          omega
        · omega
      · omega
    · have hl := cutL_len ds lo hi
      by_cases hc : posP l = true
      · rw [if_pos hc]
        cases h with
        | none => exact Nat.le_trans hl h3
        | some p =>
          obtain ⟨a, b⟩ := p
          obtain ⟨i, rfl, i1, i2⟩ := qh
          simp only [slHi]
          split
          · have := cutL_hi ds lo i (by omega) (fun j hj => by
                cases l with
                | none => cases ql; cases hj
                | some p =>
                  obtain ⟨a, b⟩ := p
                  obtain ⟨j', rfl, j1, j2⟩ := ql
                  cases hj
                  simp only [posP, decide_eq_true_eq] at hc
                  omega)
            omega
          · omega
      · rw [if_neg hc]; omega
  split at e
  · rename_i eq
    cases e
    obtain ⟨ds, rfl, h3, h4⟩ := asTup_ok eq q
    exact ⟨_, rfl, (h4.cut lo hi).tup.mono (Nat.le_refl _) (by omega), fun _ => rfl⟩
  split at e
  · rename_i eq
    split at e
    · cases e
      obtain ⟨x, rfl, h3, h4⟩ := asStr_ok eq q
      refine ⟨_, if_pos (by omega), _, rfl, ?_, ?_⟩
      · rw [so_iff] at h3 ⊢
        intro c hc
        refine h3 c ?_
        unfold cutS at hc
        simp only [] at hc
        exact List.mem_of_mem_drop (List.mem_of_mem_take hc)
      · have := cutS_length x lo hi
        omega
    · cases e
  · cases e
theorem fRev_sq {S : Sto} {k : Bool} {ds : List PyData} : fRev S (.p (sq k ds)) = some (.p (sq k ds.reverse), S) := by cases k <;> rfl
theorem aRev_ok (h : aRev X.ex t = some u) (q : X.In vs t d) (S : Sto) : ∃ d', fRev S (.p d) = some (.p d', S) ∧ X.In vs u d' := by
  unfold aRev at h
  split at h
  · rename_i e
    cases h
    obtain ⟨ds, rfl, hs⟩ := asShape_ok e q
    exact ⟨_, fRev_sq, In_shp hs.rev⟩
  split at h
  · rename_i eq
    cases h
    obtain ⟨ds, rfl, h1, h2, h3⟩ := asSeq_ok (noAny eq) q
    exact ⟨_, fRev_sq, _, rfl, fun z hz => h1 z (List.mem_reverse.mp hz), by simpa using h2, by simpa using h3⟩
  split at h
  · rename_i eq
    cases h
    obtain ⟨ds, rfl, h3, h4⟩ := asTup_ok eq q
    exact ⟨_, rfl, h4.rev.tup.mono (Nat.le_refl _) (by omega), fun _ => rfl⟩
  · cases h
theorem strs_of {k : Nat} : ∀ {ds : List PyData}, (∀ d ∈ ds, ∃ x, d = .str x ∧ PyData.strOk x = true ∧ x.length ≤ k) → ∃ ys, strsP ds = some ys ∧ ys.length = ds.length ∧ (∀ y ∈ ys, PyData.strOk y = true) ∧ (ys.map (·.length)).sum ≤ ds.length * k
  | [], _ => ⟨[], rfl, rfl, fun y h => (nomatch h), Nat.zero_le _⟩
  | x :: r, h => by
    obtain ⟨y, rfl, h1, h2⟩ := h x (List.mem_cons_self ..)
    obtain ⟨ys, e, g1, g2, g3⟩ := strs_of fun d hd => h d (List.mem_cons_of_mem _ hd)
    refine ⟨y :: ys, by simp only [strsP, e, Option.map], by simp [g1], fun z hz => ?_, ?_⟩
    · rcases List.mem_cons.mp hz with rfl | hz
      · exact h1
      · exact g2 z hz
    · simp only [List.map_cons, List.sum_cons, List.length_cons, Nat.succ_mul]
      omega
theorem join_len (x : Str) : ∀ ys : List Str, (Str.join x ys).length ≤ (ys.map (·.length)).sum + ys.length * x.length
  | [] => Nat.zero_le _
  | [y] => by simp [Str.join]
  | y :: z :: r => by
    have := join_len x (z :: r)
    have e : (Str.join x (y :: z :: r)).length = y.length + x.length + (Str.join x (z :: r)).length := by
      show ((y.cps ++ x.cps) ++ (Str.join x (z :: r)).cps).size = _
      rw [Array.size_append, Array.size_append]; rfl
    rw [e]
    simp only [List.map_cons, List.sum_cons, List.length_cons, Nat.succ_mul] at this ⊢
    omega
theorem aJoin_ok {s : Ty} {d : PyData} (hB : X.Bp B) (h : aJoin X.ex s a = some u) (qs : X.In vs s d) (q : VR X vs R a w) : b2Ok .join (.p d) = true ∧ ∃ d', fJoin (B ++ R) (.p d) w = some (.p d', B ++ R) ∧ X.In vs u d' := by
  unfold aJoin at h
  split at h
  · rename_i n _ e4 _ hi e1 e2
    split at h
    · rename_i k e3
      split at h
      · rename_i hc
        cases h
        obtain ⟨x, rfl, h1, h2⟩ := asStr_ok e1 qs
        obtain ⟨ds, g1, g2, g3, g4, g5, g6, g7, g8⟩ := seqAV_ok hB e2 q
        obtain ⟨ys, p1, p2, p3, p4⟩ := strs_of fun d hd => asStr_ok e3 (g5 d hd)
        refine ⟨rfl, ?_⟩
        have m1 : ds.length * k ≤ hi * k := Nat.mul_le_mul_right _ g7
        have m2 : ds.length * x.length ≤ hi * n := Nat.mul_le_mul g7 h2
        refine ⟨.str (Txt.join x ys), ?_, _, rfl, ?_, ?_⟩
        · unfold fJoin
          dsimp only
          rw [g1]
          dsimp only
          rw [p1]
          dsimp only
          rw [if_pos]
          rw [p2]
          exact decide_eq_true (by omega)
        · rw [TL.join_eq]
          exact so_join h1 p3
        · rw [TL.join_eq]
          have := join_len x ys
          rw [p2] at this
          omega
      · cases h
    · cases h
  · cases h
theorem lsAV_ok {e : Ty} {lo hi : Nat} (hB : X.Bp B) (h : lsAV X.ex a = some (e, lo, hi)) (q : VR X vs R a w) : ∃ ds, LsW (B ++ R) w ds ∧ (∀ d ∈ ds, X.In vs e d) ∧ lo ≤ ds.length ∧ ds.length ≤ hi := by
  cases a with
  | p t s =>
    simp only [lsAV] at h
    split at h
    · rename_i eq
      cases h
      obtain ⟨d, rfl, h1, _⟩ := q
      obtain ⟨ds, rfl, h3⟩ := asSeq_ok eq h1
      exact ⟨ds, LsW.p _ _, h3⟩
    · cases h
  | rd t lo' hi' => cases h; exact VR_ls hB q
  | _ => cases h
theorem fAdd_ls {S : Sto} {x y : W} {a b : List PyData} (hx : LsW S x a) (hy : LsW S y b) (h : a.length + b.length ≤ lim) : fAdd S x y = some (.p (.list (a ++ b)), S) := by
  have h1 := hx.ls
  have h2 := hy.ls
  have p1 := hx.sq
  have p2 := hy.sq
  unfold fAdd
  split
  · cases h1
  · cases h1
  · cases h1
  · cases h1; cases h2; exact if_pos h
  · rw [h1, h2]
    exact if_pos h
theorem aAddL_ok {b : AV} {z : W} (hB : X.Bp B) (h : aAddL X.ex a b = some u) (q : VR X vs R a w) (q' : VR X vs R b z) : ∃ d, fAdd (B ++ R) w z = some (.p d, B ++ R) ∧ X.In vs u d := by
  unfold aAddL at h
  split at h
  · rename_i e1 e2
    split at h
    · rename_i hc
      cases h
      obtain ⟨ds, g1, g2, g3, g4⟩ := lsAV_ok hB e1 q
      obtain ⟨es, k1, k2, k3, k4⟩ := lsAV_ok hB e2 q'
      refine ⟨_, fAdd_ls g1 k1 (by omega), ds ++ es, rfl, fun x hx => ?_, by simp; omega, by simp; omega⟩
      rcases List.mem_append.mp hx with hx | hx
      · exact (join_ok _ _).1 _ (g2 x hx)
      · exact (join_ok _ _).2 _ (k2 x hx)
    · cases h
  · cases h
end
end Pv
end

section
set_option maxRecDepth 10000
set_option maxHeartbeats 4000000
namespace Pv
open PySem PySem.Spec L2
open PyProof.Rows hiding St

/-! ## expressions on kinds -/
def psOf : List AV → Option (List (Ty × Sym))
  | [] => some []
  | .p t s :: r => (psOf r).map ((t, s) :: ·)
  | _ => none
def symL : List Sym → Sym
  | [] => .nl
  | s :: r => .cs s (symL r)
abbrev AW := List (Ty × Sym)
inductive AI where
  | ex (rows : List AW) | un (ts : List Ty) (lo hi : Nat)
def aLcX (f : AW → Nat → Option (Option (Ty × Sym) × Nat)) : List AW → Nat → Option (List (Ty × Sym) × Nat)
  | [], c => some ([], c)
  | r :: rs, c => match f r c with
    | some (o, c') => match aLcX f rs c' with
      | some (l, c'') => some (o.toList ++ l, c'')
      | none => none
    | none => none
def frs : List Ty → Nat → AW
  | [], _ => []
  | t :: r, c => (t, .v c) :: frs r (c + 1)
def unOf : AI → Option (List Ty × Nat × Nat)
  | .un ts lo hi => some (ts, lo, hi)
  | .ex rows => if rows.all (fun r => r.length == 1) then some ([joinL (rows.map fun r => match r with
      | (t, _) :: _ => t
      | [] => .bool)], rows.length, rows.length) else none
section
variable (ex : Nat → Option Ty)
def shapeOf (t : Ty) : Option (List Ty) := match asShape ex t with
  | some (_, l) => some l
  | none => match asSeq ex t with
    | some (_, e, lo, hi) => if lo = hi then some (List.replicate lo e) else none
    | none => none
mutual
def aAsg : Tg → Ty → Sym → AT → Option AT
  | .n i, t, s, at' => if i < at'.length then some (at'.set i (.p t s)) else none
  | .nl, t, _, at' => match shapeOf ex t with
    | some [] => some at'
    | _ => none
  | .cs a r, t, s, at' => match shapeOf ex t with
    | some (u :: l) => match aAsg a u (.ix s 0) at' with
      | some at2 => aAsgs r l s 1 at2
      | none => none
    | _ => none
def aAsgs : Tg → List Ty → Sym → Nat → AT → Option AT
  | .nl, [], _, _, at' => some at'
  | .cs a r, u :: l, s, i, at' => match aAsg a u (.ix s i) at' with
    | some at2 => aAsgs r l s (i + 1) at2
    | none => none
  | _, _, _, _, _ => none
end
def aAsgR : Tg → AW → AT → Option AT
  | t, [(u, s)], at' => aAsg ex t u s at'
  | .cs a (.cs b .nl), [(u, s), (u', s')], at' => match aAsg ex a u s at' with
    | some at2 => aAsg ex b u' s' at2
    | none => none
  | _, _, _ => none
section
variable (ac : Nat → List AV → Nat → Option (AV × Nat))
mutual
def aE : Ex → AT → Nat → Option (AV × Nat)
  | .v i, at', c => match at'[i]? with
    | some (.own t lo o h) => some (.rd t lo (o.getD 0 + h), c)
    | some .top => none
    | some a => some (a, c)
    | none => none
  | .k d, _, c => some (.p (.one [d]) (.k d), c)
  | .g _ d, _, c => some (.p (.one [d]) (.k d), c)
  | .dic es, _, c => match dicD es with
    | some d => some (.p (.one [d]) (.k d), c)
    | none => none
  | .tup es, at', c => match aEs es at' c with
    | some (avs, c') => match psOf avs with
      | some l => if l.length ≤ lim then some (.p (.tup (ofL (l.map (·.1)))) (.tup (symL (l.map (·.2)))), c') else none
      | none => none
    | none => none
  | .lst false es, at', c => match aEs es at' c with
    | some (avs, c') => match psOf avs with
      | some l => if l.length ≤ lim then some (.p (.lst (ofL (l.map (·.1)))) (.lst (symL (l.map (·.2)))), c') else none
      | none => none
    | none => none
  | .op o a b, at', c => match aE a at' c with
    | some (x, c1) => match aE b at' c1 with
      | some (y, c2) => match x, y with
        | .p s _, .p t _ => match aBin ex o s t with
          | some u => some (fin u c2)
          | none => none
        | x, y => match o with
          | .Add => match aAddL ex x y with
            | some u => some (fin u c2)
            | none => none
          | _ => none
      | none => none
    | none => none
  | .neg a, at', c => match aE a at' c with
    | some (.p s _, c1) => match asInt ex s with
      | some (x, y) => some (fin (if x = y then .one [.int (-x)] else .int (-y) (-x)) c1)
      | none => none
    | _ => none
  | .cmp o a b, at', c => match aE a at' c with
    | some (.p s x, c1) => match aE b at' c1 with
      | some (.p t y, c2) => match aCmp ex o (s, x) (t, y) with
        | some u => some (fin u c2)
        | none => none
      | _ => none
    | _ => none
  | .an es, at', c => aAn es at' c
  | .orr es, at', c => aOr es at' c
  | .no a, at', c => match aE a at' c with
    | some (.p s _, c1) => if isB ex s then some (fin (match kb s with
      | some b => oneB !b
      | none => .bool) c1) else none
    | _ => none
  | .ife x a b, at', c => match aT x at' c with
    | some (some true) => aE a at' c
    | some (some false) => aE b at' c
    | some none => match aE a at' c, aE b at' c with
      | some (.p s _, _), some (.p t _, _) => if belT c s && belT c t then some (fin (join s t) c) else none
      | _, _ => none
    | none => none
  | .ix a b, at', c => match aE a at' c with
    | some (x, c1) => match aE b at' c1 with
      | some (.p t _, c2) => match aIx ex x t with
        | some (u, o) => some (match o, x with
          | some n, .p _ s => (.p u (.ix s n), c2)
          | _, _ => fin u c2)
        | none => none
      | _ => none
    | none => none
  | .sl a lo hi, at', c => match aE a at' c with
    | some (.p t _, c1) => match aP lo at' c1 with
      | some (l, c2) => match aP hi at' c2 with
        | some (h, c3) => match aSl ex l h t with
          | some u => some (fin u c3)
          | none => none
        | none => none
      | none => none
    | _ => none
  | .call f es, at', c => match aEs es at' c with
    | some (avs, c1) => ac f avs c1
    | none => none
  | .bi b es, at', c => match aEs es at' c with
    | some (avs, c1) => aBi ex b avs c1
    | none => none
  | .isi a T, at', c => match aE a at' c with
    | some (.p t _, c1) => some (fin (aIsi ex t T) c1)
    | _ => none
  | .lc false own t it ifs e, at', c => match aI it at' c with
    | some (ai, c1) => match (match ai with
        | .ex rows => if rows.length ≤ 16 then aLcX (fun aw c => match aAsgR ex t aw (wipeA at' own) with
          | some at2 => match aAs ifs at2 c with
            | some (some true) => match aE e at2 c with
              | some (.p u s, c') => some (some (u, s), c')
              | _ => none
            | some (some false) => some (none, c)
            | _ => none
          | none => none) rows c1 else none
        | _ => none) with
      | some (l, c2) => if l.length ≤ lim then some (.p (.lst (ofL (l.map (·.1)))) (.lst (symL (l.map (·.2)))), c2) else none
      | none => match unOf ai with
        | some (ts, lo, hi) => match aAsgR ex t (frs ts c1) (wipeA at' own) with
          | some at2 => match aAs ifs at2 (c1 + ts.length) with
            | some b => match aE e at2 (c1 + ts.length) with
              | some (.p u _, _) => if belT c1 u && decide (hi ≤ lim) then some (fin (.seqN true u (match b with
                | some true => lo
                | _ => 0) hi) c1) else none
              | _ => none
            | none => none
          | none => none
        | none => none
    | none => none
  | .u .rev a, at', c => match aE a at' c with
    | some (.p t _, c1) => match aRev ex t with
      | some u => some (fin u c1)
      | none => none
    | _ => none
  | .b .join a b, at', c => match aE a at' c with
    | some (.p s _, c1) => match aE b at' c1 with
      | some (x, c2) => match aJoin ex s x with
        | some u => some (fin u c2)
        | none => none
      | none => none
    | _ => none
  | _, _, _ => none
def aEs : Ex → AT → Nat → Option (List AV × Nat)
  | .nl, _, c => some ([], c)
  | .cs a r, at', c => match aE a at' c with
    | some (x, c1) => match aEs r at' c1 with
      | some (xs, c2) => some (x :: xs, c2)
      | none => none
    | none => none
  | _, _, _ => none
def aAn : Ex → AT → Nat → Option (AV × Nat)
  | .cs a .nl, at', c => aE a at' c
  | .cs a r, at', c => match aE a at' c with
    | some (.p s _, c1) => if isB ex s then match kb s with
        | some false => some (.p (oneB false) (.k (.bool false)), c1)
        | some true => aAn r at' c1
        | none => match aAn r at' c1 with
          | some (.p u _, _) => if belT c u then some (fin (join (oneB false) u) c) else none
          | _ => none
      else none
    | _ => none
  | _, _, _ => none
def aOr : Ex → AT → Nat → Option (AV × Nat)
  | .cs a .nl, at', c => aE a at' c
  | .cs a r, at', c => match aE a at' c with
    | some (.p s _, c1) => if isB ex s then match kb s with
        | some true => some (.p (oneB true) (.k (.bool true)), c1)
        | some false => aOr r at' c1
        | none => match aOr r at' c1 with
          | some (.p u _, _) => if belT c u then some (fin (join (oneB true) u) c) else none
          | _ => none
      else none
    | _ => none
  | _, _, _ => none
/-- tests: known or not -/
def aT : Ex → AT → Nat → Option (Option Bool)
  | .an es, at', c => aTa es at' c
  | .orr es, at', c => aTo es at' c
  | .no a, at', c => (aT a at' c).map fun o => o.map fun b => !b
  | .tt e, at', c => match aE e at' c with
    | some (a, _) => aTru ex a
    | none => none
  | _, _, _ => none
def aP : Ex → AT → Nat → Option (AP × Nat)
  | .nl, _, c => some (none, c)
  | .cs e _, at', c => match aE e at' c with
    | some (.p t _, c1) => match asInt ex t with
      | some (x, y) => some (some (x, y), c1)
      | none => none
    | _ => none
  | _, _, _ => none
def aTa : Ex → AT → Nat → Option (Option Bool)
  | .cs a .nl, at', c => aT a at' c
  | .cs a r, at', c => match aT a at' c with
    | some (some false) => some (some false)
    | some (some true) => aTa r at' c
    | some none => match aTa r at' c with
      | some (some false) => some (some false)
      | some _ => some none
      | none => none
    | none => none
  | _, _, _ => none
def aTo : Ex → AT → Nat → Option (Option Bool)
  | .cs a .nl, at', c => aT a at' c
  | .cs a r, at', c => match aT a at' c with
    | some (some true) => some (some true)
    | some (some false) => aTo r at' c
    | some none => match aTo r at' c with
      | some (some true) => some (some true)
      | some _ => some none
      | none => none
    | none => none
  | _, _, _ => none
def aAs : Ex → AT → Nat → Option (Option Bool)
  | .nl, _, _ => some (some true)
  | .cs a .nl, at', c => aT a at' c
  | _, _, _ => none
def aI : Ex → AT → Nat → Option (AI × Nat)
  | .iSeq e, at', c => match aE e at' c with
    | some (.p t s, c1) => match (if isAnyT t then none else asShape ex t) with
      | some (_, l) => some (.ex (l.zipIdx.map fun p => [(p.1, .ix s p.2)]), c1)
      | none => match asSeq ex t with
        | some (_, e, lo, hi) => some (.un [e] lo hi, c1)
        | none => none
    | _ => none
  | .iRng e, at', c => match aE e at' c with
    | some (.p t _, c1) => match asInt ex t with
      | some (x, y) => if -(2 ^ 62) ≤ x ∧ y < 2 ^ 62 then
          (if x = y ∧ y ≤ 8 then some (.ex ((List.range y.toNat).map fun (i : Nat) => [(.one [.int (i : Int)], .k (.int (i : Int)))]), c1)
          else some (.un [.int 0 (y - 1)] x.toNat y.toNat, c1)) else none
      | none => none
    | _ => none
  | .iRng2 a b, at', c => match aE a at' c with
    | some (.p s _, c1) => match aE b at' c1 with
      | some (.p t _, c2) => match asInt ex s, asInt ex t with
        | some (x, y), some (z, w) => if -(2 ^ 62) ≤ x ∧ y < 2 ^ 62 ∧ -(2 ^ 62) ≤ z ∧ w < 2 ^ 62 then some (.un [.int x (w - 1)] (z - y).toNat (w - x).toNat, c2) else none
        | _, _ => none
      | _ => none
    | _ => none
  | .iEnum e, at', c => match aE e at' c with
    | some (.p t _, c1) => match asSeq ex t with
      | some (_, e, lo, hi) => some (.un [.int 0 (hi - 1), e] lo hi, c1)
      | none => none
    | _ => none
  | .iZip a b, at', c => match aE a at' c with
    | some (.p s _, c1) => match aE b at' c1 with
      | some (.p t _, c2) => match asSeq ex s, asSeq ex t with
        | some (k, e, lo, hi), some (k', e', lo', hi') => if k == k' then some (.un [e, e'] (min lo lo') (min hi hi'), c2) else none
        | _, _ => none
      | _ => none
    | _ => none
  | _, _, _ => none
end
end
end
end Pv
end

section
set_option maxRecDepth 10000
set_option maxHeartbeats 4000000
namespace Pv
open PySem PySem.Spec L2
open PyProof.Rows hiding St

/-! ## expressions on kinds are right -/
section
variable {X : Cx2} {vs vs' : List PyData} {R B : Sto} {m : Nat} {β : Nat → Nat} {at' : AT} {τ : Tau} {c : Nat}
theorem Got.pre {av : AV} {w : W} {S : Sto} (h : vs <+: vs') (g : Got X R vs' c av w S) : Got X R vs c av w S := by
  obtain ⟨B, vs2, h1, h2, h3, h4⟩ := g
  exact ⟨B, vs2, h1, h2, h.trans h3, h4⟩
theorem Gots.pre {av : List AV} {w : List W} {S : Sto} (h : vs <+: vs') (g : Gots X R vs' c av w S) : Gots X R vs c av w S := by
  obtain ⟨B, vs2, h1, h2, h3, h4⟩ := g
  exact ⟨B, vs2, h1, h2, h.trans h3, h4⟩
theorem bnd {α : Type} {av : AV} {r : Pv.R W} {f : W → Sto → Pv.R α} {Q : α → Sto → Prop} (h : Ok r (Got X R vs c av) noX)
    (k : ∀ w B' vs', X.Bp B' → vs <+: vs' → vs'.length = c → VR X vs' R av w → Ok (f w (B' ++ R)) Q noX) : Ok (r.bind f) Q noX := by
  rw [Ok_bind]
  refine Ok_mono h (fun w S g => ?_) fun _ _ z => z
  obtain ⟨B', vs', h1, rfl, h2, h3, h4⟩ := g
  exact k w B' vs' h1 h2 h3 h4
theorem bnds {α : Type} {av : List AV} {r : Pv.R (List W)} {f : List W → Sto → Pv.R α} {Q : α → Sto → Prop} (h : Ok r (Gots X R vs c av) noX)
    (k : ∀ w B' vs', X.Bp B' → vs <+: vs' → vs'.length = c → Paired (VR X vs' R) av w → Ok (f w (B' ++ R)) Q noX) : Ok (r.bind f) Q noX := by
  rw [Ok_bind]
  refine Ok_mono h (fun w S g => ?_) fun _ _ z => z
  obtain ⟨B', vs', h1, rfl, h2, h3, h4⟩ := g
  exact k w B' vs' h1 h2 h3 h4
def GotT (X : Cx2) (R : Sto) (k : Option Bool) : Bool → Sto → Prop := fun b S => ∃ B, X.Bp B ∧ S = B ++ R ∧ ∀ x, k = some x → b = x
theorem bndT {α : Type} {k : Option Bool} {r : Pv.R Bool} {f : Bool → Sto → Pv.R α} {Q : α → Sto → Prop} (h : Ok r (GotT X R k) noX)
    (g : ∀ b B', X.Bp B' → (∀ x, k = some x → b = x) → Ok (f b (B' ++ R)) Q noX) : Ok (r.bind f) Q noX := by
  rw [Ok_bind]
  refine Ok_mono h (fun w S z => ?_) fun _ _ z => z
  obtain ⟨B', h1, rfl, h2⟩ := z
  exact g w B' h1 h2
theorem bndB {α : Type} {s : Ty} {d : PyData} {S : Sto} {f : Bool → Sto → Pv.R α} {Q : α → Sto → Prop} (h : isB X.ex s = true) (q : X.In vs s d)
    (k : ∀ b, d = .bool b → Ok (f b S) Q noX) : Ok ((ofB (bl? (.p d)) S).bind f) Q noX := by
  obtain ⟨b, rfl⟩ := isB_ok h q
  exact k b rfl
theorem dn {t : Ty} {d : PyData} {o : Option (W × Sto)} (hp : vs <+: vs') (e : o = some (.p d, B ++ R)) (h : X.In vs' t d) (hB : X.Bp B) (hc : vs'.length = c) : Ok (ofO o) (Got X R vs (fin t c).2 (fin t c).1) noX := by
  rw [e, Ok_some]
  exact (fin_ok h hB hc).pre hp
def AP' (X : Cx2) (R : Sto) (vs : List PyData) (c : Nat) (l : AP) : Option Int → Sto → Prop := fun o S => ∃ B vs', X.Bp B ∧ S = B ++ R ∧ vs <+: vs' ∧ vs'.length = c ∧ PR l o
/-! ### rows -/
def RowR (X : Cx2) (vs : List PyData) : AW → Row → Prop
  | [(t, s)], .one w => VR X vs [] (.p t s) w
  | [(t, s), (u, z)], .two w x => VR X vs [] (.p t s) w ∧ VR X vs [] (.p u z) x
  | _, _ => False
def RowT (X : Cx2) (vs : List PyData) : List Ty → Row → Prop
  | [t], .one w => ∃ d, w = .p d ∧ X.In vs t d
  | [t, u], .two w x => (∃ d, w = .p d ∧ X.In vs t d) ∧ ∃ d, x = .p d ∧ X.In vs u d
  | _, _ => False
def AIR (X : Cx2) (vs : List PyData) : AI → List Row → Prop
  | .ex l, rows => Paired (RowR X vs) l rows
  | .un ts lo hi, rows => (∀ r ∈ rows, RowT X vs ts r) ∧ lo ≤ rows.length ∧ rows.length ≤ hi
theorem RowR.mono (h : vs <+: vs') : ∀ {a : AW} {r : Row}, RowR X vs a r → RowR X vs' a r
  | [(t, s)], .one w, q => VR_mono (R := []) (a := .p t s) h q
  | [(t, s), (u, z)], .two w x, q => ⟨VR_mono (R := []) (a := .p t s) h q.1, VR_mono (R := []) (a := .p u z) h q.2⟩
  | [], _, q => by cases ‹Row› <;> exact q.elim
  | [_], .two _ _, q => q.elim
  | [_, _], .one _, q => q.elim
  | _ :: _ :: _ :: _, r, q => by cases r <;> exact q.elim
theorem Paired.imp' {α β : Type} {F G : α → β → Prop} (h : ∀ a b, F a b → G a b) : ∀ {l : List α} {m : List β}, Paired F l m → Paired G l m
  | _, _, .nil => .nil
  | _, _, .cons a t => .cons (h _ _ a) (Paired.imp' h t)
theorem AIR.mono (h : vs <+: vs') : ∀ {a : AI} {rows : List Row}, AIR X vs a rows → AIR X vs' a rows
  | .ex l, rows, q => Paired.imp' (fun _ _ => RowR.mono h) q
  | .un ts lo hi, rows, q => by
    refine ⟨fun r hr => ?_, q.2⟩
    have := q.1 r hr
    match ts, r, this with
    | [t], .one w, ⟨d, e, i⟩ => exact ⟨d, e, (In_mono h t).1 _ i⟩
    | [t, u], .two w x, ⟨⟨d, e, i⟩, ⟨d2, e2, i2⟩⟩ => exact ⟨⟨d, e, (In_mono h t).1 _ i⟩, ⟨d2, e2, (In_mono h u).1 _ i2⟩⟩
def AI' (X : Cx2) (R : Sto) (vs : List PyData) (c : Nat) (a : AI) : List Row → Sto → Prop := fun rows S => ∃ B vs', X.Bp B ∧ S = B ++ R ∧ vs <+: vs' ∧ vs'.length = c ∧ AIR X vs' a rows
theorem shapeOf_ok {t : Ty} {l : List Ty} {d : PyData} (h : shapeOf X.ex t = some l) (q : X.In vs t d) : ∃ k ds, d = sq k ds ∧ Sh' X.toCxt vs l ds := by
  unfold shapeOf at h
  split at h
  · rename_i e
    cases h
    obtain ⟨ds, e1, e2⟩ := asShape_ok e q
    exact ⟨_, ds, e1, e2⟩
  split at h
  · rename_i e lo hi eq
    split at h
    · rename_i hc
      cases h
      subst hc
      obtain ⟨ds, e1, h1, h2, h3⟩ := asSeq_ok eq q
      refine ⟨_, ds, e1, by simp; omega, fun i t d p r => ?_⟩
      have := List.eq_of_mem_replicate (List.mem_of_getElem? p)
      rw [this]
      exact h1 d (List.mem_of_getElem? r)
    · cases h
  · cases h
theorem asg_ok : ∀ (t : Tg), (∀ {u : Ty} {s : Sym} {at' at2 : AT} {τ : Tau} {d : PyData} {S : Sto}, aAsg X.ex t u s at' = some at2 → Env X vs m β at' τ R → X.In vs u d → den X.F vs s = some d → ∃ τ', asgT S t (.p d) τ = some τ' ∧ Env X vs m β at2 τ' R)
    ∧ (∀ {l : List Ty} {s : Sym} {i : Nat} {at' at2 : AT} {τ : Tau} {ds0 ds : List PyData} {k : Bool} {S : Sto}, aAsgs X.ex t l s i at' = some at2 → Env X vs m β at' τ R → Sh' X.toCxt vs l ds → den X.F vs s = some (sq k ds0) → ds0.drop i = ds → ∃ τ', asgT.asgTs S t (ds.map W.p) τ = some τ' ∧ Env X vs m β at2 τ' R) := by
  intro t
  induction t with
  | n i =>
    refine ⟨fun {u s at' at2 τ d S} h e q qs => ?_, fun {l s i at' at2 τ ds0 ds k S} h => by cases l <;> simp [aAsgs] at h⟩
    simp only [aAsg] at h
    split at h
    · cases h
      exact ⟨_, by simp only [asgT], e.setp i ⟨d, rfl, q, qs⟩⟩
    · cases h
  | nl =>
    refine ⟨fun {u s at' at2 τ d S} h e q qs => ?_, fun {l s i at' at2 τ ds0 ds k S} h e q qs hd => ?_⟩
    · simp only [aAsg] at h
      split at h
      · rename_i e1
        cases h
        obtain ⟨k, ds, rfl, hs⟩ := shapeOf_ok e1 q
        have : ds = [] := List.length_eq_zero_iff.mp hs.1.symm
        subst this
        refine ⟨τ, ?_, e⟩
        simp only [asgT, items_sq, List.map_nil, asgT.asgTs]
      · cases h
    · cases l with
      | nil =>
        simp only [aAsgs, Option.some.injEq] at h
        subst h
        have : ds = [] := List.length_eq_zero_iff.mp q.1.symm
        subst this
        exact ⟨τ, by simp only [List.map_nil, asgT.asgTs], e⟩
      | cons a r => simp [aAsgs] at h
  | cs a r ih1 ih2 =>
    have main : ∀ {u : Ty} {l : List Ty} {s : Sym} {i : Nat} {at' at2 : AT} {τ : Tau} {ds0 ds : List PyData} {k : Bool} {S : Sto}, (match aAsg X.ex a u (.ix s i) at' with
      | some at2 => aAsgs X.ex r l s (i + 1) at2
      | none => none) = some at2 → Env X vs m β at' τ R → Sh' X.toCxt vs (u :: l) ds → den X.F vs s = some (sq k ds0) → ds0.drop i = ds → ∃ τ', asgT.asgTs S (.cs a r) (ds.map W.p) τ = some τ' ∧ Env X vs m β at2 τ' R := by
      intro u l s i at' at2 τ ds0 ds k S h e q qs hd
      split at h
      · rename_i at3 e1
        cases ds with
        | nil => have := q.1; simp at this
        | cons x xs =>
          have hx : ds0[i]? = some x := by
            have := congrArg (·[0]?) hd
            simpa using this
          have hx2 : ds0.drop (i + 1) = xs := by
            have := congrArg List.tail hd
            simpa using this
          have dx : den X.F vs (.ix s i) = some x := by
            simp only [den, qs]
            cases k <;> exact hx
          obtain ⟨τ1, e2, env1⟩ := ih1.1 (S := S) e1 e (q.2 0 u x rfl rfl) dx
          obtain ⟨τ2, e3, env2⟩ := ih2.2 (S := S) h env1 (ds := xs) ⟨by simpa using q.1, fun j t d p r => q.2 (j + 1) t d (by simpa using p) (by simpa using r)⟩ qs hx2
          refine ⟨τ2, ?_, env2⟩
          simp only [List.map_cons, asgT.asgTs, e2]
          exact e3
      · cases h
    refine ⟨fun {u s at' at2 τ d S} h e q qs => ?_, fun {l s i at' at2 τ ds0 ds k S} h e q qs hd => ?_⟩
    · simp only [aAsg] at h
      split at h
      · rename_i u' l e1
        obtain ⟨k, ds, rfl, hs⟩ := shapeOf_ok e1 q
        obtain ⟨τ', e2, env2⟩ := main (S := S) h e hs qs (List.drop_zero)
        refine ⟨τ', ?_, env2⟩
        simp only [asgT, items_sq]
        exact e2
      · cases h
    · cases l with
      | nil => simp [aAsgs] at h
      | cons u l => exact main h e q qs hd
theorem asgR_ok {t : Tg} {aw : AW} {at2 : AT} {r : Row} {S : Sto} (h : aAsgR X.ex t aw at' = some at2) (e : Env X vs m β at' τ R) (q : RowR X vs aw r) : ∃ τ', asgR S t r τ = some τ' ∧ Env X vs m β at2 τ' R := by
  unfold aAsgR at h
  split at h
  · rename_i u s
    cases r with
    | two w x => exact q.elim
    | one w =>
      obtain ⟨d, rfl, q1, q2⟩ := q
      obtain ⟨τ', e1, e2⟩ := (asg_ok t).1 (S := S) h e q1 q2
      refine ⟨τ', ?_, e2⟩
      simp only [asgR]
      exact e1
  · rename_i a b u s u' s'
    split at h
    · rename_i at3 h1
      cases r with
      | one w => exact q.elim
      | two w x =>
        obtain ⟨⟨d, rfl, q1, q2⟩, ⟨d', rfl, q3, q4⟩⟩ := q
        obtain ⟨τ1, e1, env1⟩ := (asg_ok a).1 (S := S) h1 e q1 q2
        obtain ⟨τ2, e2, env2⟩ := (asg_ok b).1 (S := S) h env1 q3 q4
        refine ⟨τ2, ?_, env2⟩
        simp only [asgR, e1]
        exact e2
    · cases h
  · cases h
theorem frs_ok {ts : List Ty} {r : Row} (h : RowT X vs ts r) : ∃ vs', vs <+: vs' ∧ vs'.length = vs.length + ts.length ∧ RowR X vs' (frs ts vs.length) r := by
  match ts, r, h with
  | [t], .one w, ⟨d, e, i⟩ =>
    refine ⟨vs ++ [d], List.prefix_append _ _, by simp, d, e, (In_mono (List.prefix_append _ _) t).1 _ i, ?_⟩
    simp [den]
  | [t, u], .two w x, ⟨⟨d, e, i⟩, ⟨d2, e2, i2⟩⟩ =>
    refine ⟨vs ++ [d, d2], List.prefix_append _ _, by simp, ⟨d, e, (In_mono (List.prefix_append _ _) t).1 _ i, ?_⟩, ⟨d2, e2, (In_mono (List.prefix_append _ _) u).1 _ i2, ?_⟩⟩
    · simp [den]
    · simp [den]
theorem unOf_ok {ai : AI} {ts : List Ty} {lo hi : Nat} {rows : List Row} (h : unOf ai = some (ts, lo, hi)) (q : AIR X vs ai rows) : AIR X vs (.un ts lo hi) rows := by
  unfold unOf at h
  split at h
  · cases h; exact q
  · rename_i l
    split at h
    · rename_i hl
      cases h
      have hlen : ∀ {l : List AW} {rows : List Row}, Paired (RowR X vs) l rows → l.length = rows.length := by
        intro l rows q
        induction q with
        | nil => rfl
        | cons a t ih => simp [ih]
      have key : ∀ {l0 l : List AW} {rows : List Row}, Paired (RowR X vs) l rows → (∀ r ∈ l, r ∈ l0) → l.all (fun r => r.length == 1) = true → ∀ r ∈ rows, RowT X vs [joinL (l0.map fun r => match r with
          | (t, _) :: _ => t
          | [] => .bool)] r := by
        intro l0 l rows q
        induction q with
        | nil => intro _ _ r hr; cases hr
        | cons a t ih =>
          rename_i aw l' r' rows'
          intro hm hl r hr
          simp only [List.all_cons, Bool.and_eq_true, beq_iff_eq] at hl
          rcases List.mem_cons.mp hr with rfl | hr
          · match aw, r, a, hl.1 with
            | [(t, s)], .one w, ⟨d, e, i, _⟩, _ =>
              exact ⟨d, e, joinL_ok (List.mem_map.mpr ⟨[(t, s)], hm _ (List.mem_cons_self ..), rfl⟩) i⟩
          · exact ih (fun r hr => hm r (List.mem_cons_of_mem _ hr)) hl.2 r hr
      exact ⟨key q (fun r h => h) hl, by rw [hlen q]; exact Nat.le_refl _, by rw [hlen q]; exact Nat.le_refl _⟩
    · cases h
theorem psOf_ok : ∀ {avs : List AV} {l : AW} {ws : List W}, psOf avs = some l → Paired (VR X vs R) avs ws → ∃ ds, ws = ds.map W.p ∧ Sh' X.toCxt vs (l.map (·.1)) ds ∧ dens X.F vs (symL (l.map (·.2))) = some ds
  | [], l, _, h, .nil => by cases h; exact ⟨[], rfl, ⟨rfl, fun i t d p => by simp at p⟩, rfl⟩
  | a :: r, l, _, h, .cons q t => by
    cases a with
    | p ty s =>
      simp only [psOf, Option.map_eq_some_iff] at h
      obtain ⟨l', h, rfl⟩ := h
      obtain ⟨ds, rfl, h2, h3⟩ := psOf_ok h t
      obtain ⟨d, rfl, q1, q2⟩ := q
      refine ⟨d :: ds, rfl, ⟨by simpa using h2.1, fun i t e p r => ?_⟩, ?_⟩
      · cases i with
        | zero => simp at p r; subst p; subst r; exact q1
        | succ i => exact h2.2 i t e (by simpa using p) (by simpa using r)
      · simp only [List.map_cons, symL, dens, q2, h3, Option.map]
    | _ => simp [psOf] at h
end
/-! ### the whole -/
structure Hy (X : Cx2) (ac : Nat → List AV → Nat → Option (AV × Nat)) (call : Nat → List W → Sto → Pv.R W) : Prop where
  ok : ∀ {i : Nat} {avs : List AV} {c c' : Nat} {av : AV} {vs : List PyData} {B R : Sto} {ws : List W}, ac i avs c = some (av, c') → vs.length = c → X.Bp B → CloX X R → Paired (VR X vs R) avs ws → Ok (call i ws (B ++ R)) (Got X R vs c' av) noX
section
variable {X : Cx2} {ac : Nat → List AV → Nat → Option (AV × Nat)} {call : Nat → List W → Sto → Pv.R W} {R : Sto} {m : Nat}
theorem paired1 {α β : Type} {F : α → β → Prop} {a : α} {ws : List β} (h : Paired F [a] ws) : ∃ w, ws = [w] ∧ F a w := by
  cases h with
  | cons q t =>
    cases t
    exact ⟨_, rfl, q⟩
theorem bi_ok {b : BI} {avs : List AV} {c c' : Nat} {av : AV} {vs vs0 : List PyData} {B : Sto} {ws : List W} (hp : vs0 <+: vs) (h : aBi X.ex b avs c = some (av, c')) (hc : vs.length = c) (hB : X.Bp B) (q : Paired (VR X vs R) avs ws) : Ok (ofO (biF b (B ++ R) ws)) (Got X R vs0 c' av) noX := by
  unfold aBi at h
  split at h
  · rw [Option.map_eq_some_iff] at h
    obtain ⟨u, h, e⟩ := h
    obtain ⟨w, rfl, qq⟩ := paired1 q
    obtain ⟨d, e1, e2⟩ := aLen_ok hB h qq
    have := dn hp e1 e2 hB hc
    rw [e] at this; exact this
  · rw [Option.map_eq_some_iff] at h
    obtain ⟨u, h, e⟩ := h
    obtain ⟨w, rfl, qq⟩ := paired1 q
    obtain ⟨d, e1, e2⟩ := aTupL_ok (l := false) hB h qq
    have := dn hp e1 e2 hB hc
    rw [e] at this; exact this
  · rw [Option.map_eq_some_iff] at h
    obtain ⟨u, h, e⟩ := h
    obtain ⟨w, rfl, qq⟩ := paired1 q
    obtain ⟨d, e1, e2⟩ := aTupL_ok (l := true) hB h qq
    have := dn hp e1 e2 hB hc
    rw [e] at this; exact this
  · rw [Option.map_eq_some_iff] at h
    obtain ⟨u, h, e⟩ := h
    obtain ⟨w, rfl, qq⟩ := paired1 q
    obtain ⟨x, rfl, q1, q2⟩ := qq
    obtain ⟨d, e1, e2⟩ := aInt_ok h q1 (B ++ R)
    have := dn hp e1 e2 hB hc
    rw [e] at this; exact this
  · rw [Option.map_eq_some_iff] at h
    obtain ⟨u, h, e⟩ := h
    obtain ⟨w, rfl, qq⟩ := paired1 q
    obtain ⟨x, rfl, q1, q2⟩ := qq
    obtain ⟨d, e1, e2⟩ := aAbs_ok h q1 (B ++ R)
    have := dn hp e1 e2 hB hc
    rw [e] at this; exact this
  · rw [Option.map_eq_some_iff] at h
    obtain ⟨u, h, e⟩ := h
    obtain ⟨w, rfl, qq⟩ := paired1 q
    obtain ⟨x, rfl, q1, q2⟩ := qq
    obtain ⟨d, e1, e2⟩ := aAll_ok (n := false) h q1 (B ++ R)
    have := dn hp e1 e2 hB hc
    rw [e] at this; exact this
  · rw [Option.map_eq_some_iff] at h
    obtain ⟨u, h, e⟩ := h
    obtain ⟨w, rfl, qq⟩ := paired1 q
    obtain ⟨x, rfl, q1, q2⟩ := qq
    obtain ⟨d, e1, e2⟩ := aAll_ok (n := true) h q1 (B ++ R)
    have := dn hp e1 e2 hB hc
    rw [e] at this; exact this
  · rw [Option.map_eq_some_iff] at h
    obtain ⟨u, h, e⟩ := h
    obtain ⟨w, rfl, qq⟩ := paired1 q
    obtain ⟨x, rfl, q1, q2⟩ := qq
    obtain ⟨e1, e2⟩ := aRep_ok h q1 (B ++ R)
    cases e
    rw [show biF .repr = fRepr from rfl, e1, Ok_some]
    refine ⟨B, vs, hB, rfl, hp, hc, _, rfl, e2, ?_⟩
    simp only [den, q2, Option.map]
  · cases h
/-- rows that are told one by one -/
theorem lcX_ok {vs0 : List PyData} {f : Row → Sto → Pv.R (Option W)} {g : AW → Nat → Option (Option (Ty × Sym) × Nat)}
    (hf : ∀ {vs : List PyData} {B : Sto} {aw : AW} {r : Row} {o : Option (Ty × Sym)} {c' : Nat}, vs0 <+: vs → X.Bp B → RowR X vs aw r → g aw vs.length = some (o, c') → Ok (f r (B ++ R)) (fun w S => ∃ B' vs', X.Bp B' ∧ S = B' ++ R ∧ vs <+: vs' ∧ vs'.length = c' ∧ match o, w with
      | none, none => True
      | some (t, s), some w => VR X vs' R (.p t s) w
      | _, _ => False) noX) :
    ∀ {l : List AW} {rows : List Row} {vs : List PyData} {B : Sto} {c : Nat} {k : AW} {acc : List W}, vs0 <+: vs → Paired (RowR X vs) l rows → X.Bp B → aLcX g l vs.length = some (k, c) → Ok (lcLoop f rows acc (B ++ R)) (fun ws S => ∃ B' vs' ds, X.Bp B' ∧ S = B' ++ R ∧ vs <+: vs' ∧ vs'.length = c ∧ ws = acc ++ ds.map W.p ∧ Sh' X.toCxt vs' (k.map (·.1)) ds ∧ dens X.F vs' (symL (k.map (·.2))) = some ds) noX
  | [], _, vs, B, c, k, acc, hv, .nil, hB, h => by
    cases h
    exact ⟨B, vs, [], hB, rfl, List.prefix_refl _, rfl, by simp, ⟨rfl, fun i t d p => by simp at p⟩, rfl⟩
  | aw :: l, r :: rows, vs, B, c, k, acc, hv, .cons q t, hB, h => by
    simp only [aLcX] at h
    split at h
    · rename_i o c1 e1
      split at h
      · rename_i k' c2 e2
        cases h
        have h1 := hf hv hB q e1
        unfold lcLoop
        cases e : f r (B ++ R) with
        | bad => rw [e] at h1; exact h1
        | exc x S => rw [e] at h1; exact h1
        | ok w S =>
          rw [e] at h1
          obtain ⟨B1, vs1, g1, rfl, g2, g3, g4⟩ := h1
          subst g3
          have t' := Paired.imp' (fun _ _ => RowR.mono g2) t
          cases w with
          | none =>
            cases o with
            | some p => exact g4.elim
            | none =>
              refine Ok_mono (lcX_ok hf (acc := acc) (hv.trans g2) t' g1 e2) (fun ws S z => ?_) fun _ _ z => z
              obtain ⟨B', vs', ds, z1, z2, z3, z4, z5, z6, z7⟩ := z
              exact ⟨B', vs', ds, z1, z2, g2.trans z3, z4, z5, z6, z7⟩
          | some w =>
            cases o with
            | none => exact g4.elim
            | some p =>
              obtain ⟨ty, s⟩ := p
              obtain ⟨d, rfl, q1, q2⟩ := g4
              refine Ok_mono (lcX_ok hf (acc := acc ++ [.p d]) (hv.trans g2) t' g1 e2) (fun ws S z => ?_) fun _ _ z => z
              obtain ⟨B', vs', ds, z1, z2, z3, z4, z5, z6, z7⟩ := z
              refine ⟨B', vs', d :: ds, z1, z2, g2.trans z3, z4, by rw [z5]; simp, ⟨by simpa using z6.1, fun i t e p r => ?_⟩, ?_⟩
              · cases i with
                | zero => simp at p r; subst p; subst r; exact (In_mono z3 _).1 _ q1
                | succ i => exact z6.2 i t e (by simpa using p) (by simpa using r)
              · simp only [Option.toList, List.map_append, List.map_cons, List.map_nil, List.cons_append, List.nil_append, symL, dens, (den_mono X.F z3 _).1 _ q2, z7, Option.map]
      · cases h
    · cases h
theorem mkLm {ws : List PyData} {S : Sto} (h : ws.length ≤ lim) : mkLst false (ws.map W.p) S = .ok (.p (.list ws)) S := mkL ws h
end
end Pv
end

section
set_option maxRecDepth 10000
set_option maxHeartbeats 4000000
namespace Pv
open PySem PySem.Spec L2
open PyProof.Rows hiding St
section
variable {X : Cx2} {ac : Nat → List AV → Nat → Option (AV × Nat)} {call : Nat → List W → Sto → Pv.R W} {U : Sto} {m : Nat} {β : Nat → Nat}
theorem zip_rows {vs : List PyData} {l : List Ty} {ds : List PyData} {s : Sym} {k : Bool} (hs : Sh' X.toCxt vs l ds) (qs : den X.F vs s = some (sq k ds)) : Paired (RowR X vs) (l.zipIdx.map fun p => [(p.1, .ix s p.2)]) ((ds.map W.p).map Row.one) := by
  have key : ∀ (l : List Ty) (es : List PyData) (i : Nat), l.length = es.length → (∀ (j : Nat) t d, l[j]? = some t → es[j]? = some d → X.In vs t d) → ds.drop i = es → Paired (RowR X vs) ((l.zipIdx i).map fun p => [(p.1, .ix s p.2)]) ((es.map W.p).map Row.one) := by
    intro l
    induction l with
    | nil =>
      intro es i h1 h2 h3
      cases es with
      | nil => exact .nil
      | cons x r => simp at h1
    | cons t l ih =>
      intro es i h1 h2 h3
      cases es with
      | nil => simp at h1
      | cons x r =>
        have hx : ds[i]? = some x := by
          have := congrArg (·[0]?) h3
          simpa using this
        have hr : ds.drop (i + 1) = r := by
          have := congrArg List.tail h3
          simpa using this
        simp only [List.zipIdx_cons, List.map_cons]
        refine .cons ⟨x, rfl, h2 0 t x rfl rfl, ?_⟩ (ih r (i + 1) (by simpa using h1) (fun j u d p q => h2 (j + 1) u d (by simpa using p) (by simpa using q)) hr)
        simp only [den, qs]
        cases k <;> exact hx
  exact key l ds 0 hs.1 hs.2 rfl
theorem rng_rows {vs : List PyData} (n : Nat) : Paired (RowR X vs) ((List.range n).map fun (i : Nat) => [(.one [.int (i : Int)], .k (.int (i : Int)))]) (rng 0 n) := by
  unfold rng
  generalize List.range n = l
  induction l with
  | nil => exact .nil
  | cons i l ih =>
    refine .cons ⟨.int (0 + (i : Int)), rfl, ?_, ?_⟩ ih
    · rw [Int.zero_add]; exact List.mem_singleton.mpr rfl
    · rw [Int.zero_add]; rfl
theorem rng_mem {lo : Int} {n : Nat} {r : Row} (h : r ∈ rng lo n) : ∃ i : Nat, i < n ∧ r = .one (.p (.int (lo + i))) := by
  unfold rng at h
  obtain ⟨i, h1, h2⟩ := List.mem_map.mp h
  exact ⟨i, List.mem_range.mp h1, h2.symm⟩
theorem rng_len (lo : Int) (n : Nat) : (rng lo n).length = n := by simp [rng]
theorem enum_mem : ∀ {ws : List W} {i : Nat} {r : Row}, r ∈ enumR i ws → ∃ (j : Nat) (w : W), r = .two (.p (.int j)) w ∧ w ∈ ws ∧ i ≤ j ∧ j < i + ws.length
  | [], _, _, h => nomatch h
  | w :: ws, i, r, h => by
    rcases List.mem_cons.mp h with rfl | h
    · exact ⟨i, w, rfl, List.mem_cons_self .., Nat.le_refl _, by simp⟩
    · obtain ⟨j, v, e, h1, h2, h3⟩ := enum_mem h
      exact ⟨j, v, e, List.mem_cons_of_mem _ h1, by omega, by simp; omega⟩
theorem enum_len : ∀ {ws : List W} {i : Nat}, (enumR i ws).length = ws.length
  | [], _ => rfl
  | _ :: ws, i => by simp [enumR, enum_len]
theorem Post_mono {α : Type} {r : Pv.R α} {Q Q' : α → Sto → Prop} (h : Ok r Q noX) (g : ∀ a S, Q a S → Q' a S) : Ok r Q' noX := Ok_mono h g fun _ _ z => z
theorem sfin {p : AV × Nat} {av : AV} {c' : Nat} (h : some p = some (av, c')) : av = p.1 ∧ c' = p.2 := by
  cases h
  exact ⟨rfl, rfl⟩
section
variable (H : Hy X ac call)
include H
mutual
theorem oE : ∀ (x : Ex) {at' : AT} {c : Nat} {av : AV} {c' : Nat}, aE X.ex ac x at' c = some (av, c') → ∀ {vs : List PyData} {τ : Tau} {B : Sto}, Env X vs m β at' τ U → vs.length = c → X.Bp B → CloX X U → Ok (evE call x τ (B ++ U)) (Got X U vs c' av) noX
  | .v i, at', c, av, c', h, vs, τ, B, env, hc, hB, hU => by
    simp only [aE] at h
    have g : ∀ a, at'[i]? = some a → ∃ w, τ[i]? = some w ∧ SR X vs m U (β i) a w := fun a ha => by
      have hi := (List.getElem?_eq_some_iff.mp ha).1
      rw [env.len] at hi
      exact ⟨τ[i], List.getElem?_eq_getElem hi, env.sl i a _ ha (List.getElem?_eq_getElem hi)⟩
    split at h
    · rename_i t lo g' k e
      cases h
      obtain ⟨w, e1, j, ds, e2, h1, h2, h3, h4, h5⟩ := g _ e
      subst e2
      simp only [evE, e1]
      exact ⟨B, vs, hB, rfl, List.prefix_refl _, hc, ds, .inr ⟨j, rfl, h2⟩, h3, h4, h5.le⟩
    · cases h
    · rename_i a n1 n2 e
      cases h
      obtain ⟨w, e1, q⟩ := g _ e
      have : ∃ x, w = some x ∧ VR X vs U av x := by
        cases av with
        | own t lo g k => exact absurd rfl (n1 t lo g k)
        | top => exact absurd rfl n2
        | p t s => exact q
        | rd t lo hi => exact q
        | spr => exact q
        | scr => exact q
      obtain ⟨x, rfl, q'⟩ := this
      simp only [evE, e1]
      exact ⟨B, vs, hB, rfl, List.prefix_refl _, hc, q'⟩
    · cases h
  | .k d, at', c, av, c', h, vs, τ, B, env, hc, hB, hU => by
    simp only [aE] at h
    cases h
    simp only [evE]
    exact ⟨B, vs, hB, rfl, List.prefix_refl _, hc, d, rfl, List.mem_singleton.mpr rfl, rfl⟩
  | .g x d, at', c, av, c', h, vs, τ, B, env, hc, hB, hU => by
    simp only [aE] at h
    cases h
    simp only [evE]
    exact ⟨B, vs, hB, rfl, List.prefix_refl _, hc, d, rfl, List.mem_singleton.mpr rfl, rfl⟩
  | .dic es, at', c, av, c', h, vs, τ, B, env, hc, hB, hU => by
    simp only [aE] at h
    split at h
    · rename_i d e
      cases h
      simp only [evE, e]
      exact ⟨B, vs, hB, rfl, List.prefix_refl _, hc, d, rfl, List.mem_singleton.mpr rfl, rfl⟩
    · cases h
  | .tup es, at', c, av, c', h, vs, τ, B, env, hc, hB, hU => by
    simp only [aE] at h
    split at h
    · rename_i avs c1 e1
      split at h
      · rename_i l e2
        split at h
        · rename_i hl
          cases h
          simp only [evE]
          refine bnds (oEs es e1 env hc hB hU) fun ws B1 vs1 b1 p1 c1 q => ?_
          obtain ⟨ds, rfl, h1, h2⟩ := psOf_ok e2 q
          rw [mkT _ (by rw [← h1.1]; simpa using hl), Ok_ok]
          exact ⟨B1, vs1, b1, rfl, p1, c1, _, rfl, ⟨ds, rfl, h1.to⟩, by simp only [den, h2, Option.map]⟩
        · cases h
      · cases h
    · cases h
  | .lst true es, at', c, av, c', h, vs, τ, B, env, hc, hB, hU => by simp [aE] at h
  | .lst false es, at', c, av, c', h, vs, τ, B, env, hc, hB, hU => by
    simp only [aE] at h
    split at h
    · rename_i avs c1 e1
      split at h
      · rename_i l e2
        split at h
        · rename_i hl
          cases h
          simp only [evE]
          refine bnds (oEs es e1 env hc hB hU) fun ws B1 vs1 b1 p1 c1 q => ?_
          obtain ⟨ds, rfl, h1, h2⟩ := psOf_ok e2 q
          rw [mkL _ (by rw [← h1.1]; simpa using hl), Ok_ok]
          exact ⟨B1, vs1, b1, rfl, p1, c1, _, rfl, ⟨ds, rfl, h1.to⟩, by simp only [den, h2, Option.map]⟩
        · cases h
      · cases h
    · cases h
  | .op o a b, at', c, av, c', h, vs, τ, B, env, hc, hB, hU => by
    simp only [aE] at h
    split at h
    rotate_left
    · cases h
    rename_i x c1 e1
    split at h
    rotate_left
    · cases h
    rename_i y c2 e2
    simp only [evE]
    refine bnd (oE a e1 env hc hB hU) fun w1 B1 vs1 b1 p1 g1 q1 => ?_
    refine bnd (oE b e2 (env.mono p1) g1 b1 hU) fun w2 B2 vs2 b2 p2 g2 q2 => ?_
    split at h
    · split at h
      · rename_i u e3
        obtain ⟨rfl, rfl⟩ := sfin h
        obtain ⟨d1, rfl, i1, s1⟩ := VR_mono p2 q1
        obtain ⟨d2, rfl, i2, s2⟩ := q2
        obtain ⟨d, hd, id⟩ := aBin_ok e3 i1 i2
        exact dn (p1.trans p2) (hd _) id b2 g2
      · cases h
    · split at h
      · split at h
        · rename_i u e3
          obtain ⟨rfl, rfl⟩ := sfin h
          obtain ⟨d, hd, id⟩ := aAddL_ok b2 e3 (VR_mono p2 q1) q2
          exact dn (p1.trans p2) hd id b2 g2
        · cases h
      · cases h
  | .neg a, at', c, av, c', h, vs, τ, B, env, hc, hB, hU => by
    simp only [aE] at h
    split at h
    · rename_i s _ c1 e1
      split at h
      · rename_i x y e2
        obtain ⟨rfl, rfl⟩ := sfin h
        simp only [evE]
        refine bnd (oE a e1 env hc hB hU) fun w1 B1 vs1 b1 p1 g1 q1 => ?_
        obtain ⟨d1, rfl, i1, s1⟩ := q1
        obtain ⟨i, rfl, h1, h2⟩ := asInt_ok e2 i1
        refine (fin_ok ?_ b1 g1).pre p1
        split
        · rename_i hxy
          subst hxy
          have := Int.le_antisymm h2 h1
          rw [this]
          exact List.mem_singleton.mpr rfl
        · exact ⟨-i, rfl, by omega, by omega⟩
      · cases h
    · cases h
  | .cmp o a b, at', c, av, c', h, vs, τ, B, env, hc, hB, hU => by
    simp only [aE] at h
    split at h
    · rename_i s x c1 e1
      split at h
      · rename_i t y c2 e2
        split at h
        · rename_i u e3
          obtain ⟨rfl, rfl⟩ := sfin h
          simp only [evE]
          refine bnd (oE a e1 env hc hB hU) fun w1 B1 vs1 b1 p1 g1 q1 => ?_
          refine bnd (oE b e2 (env.mono p1) g1 b1 hU) fun w2 B2 vs2 b2 p2 g2 q2 => ?_
          obtain ⟨d1, rfl, i1, s1⟩ := VR_mono p2 q1
          obtain ⟨d2, rfl, i2, s2⟩ := q2
          obtain ⟨d, hd, id⟩ := aCmp_ok e3 i1 i2 s1 s2
          exact dn (p1.trans p2) (hd _) id b2 g2
        · cases h
      · cases h
    · cases h
  | .an es, at', c, av, c', h, vs, τ, B, env, hc, hB, hU => by
    simp only [aE] at h
    simp only [evE]
    exact oAn es h env hc hB hU
  | .orr es, at', c, av, c', h, vs, τ, B, env, hc, hB, hU => by
    simp only [aE] at h
    simp only [evE]
    exact oOr es h env hc hB hU
  | .no a, at', c, av, c', h, vs, τ, B, env, hc, hB, hU => by
    simp only [aE] at h
    split at h
    · rename_i s _ c1 e1
      split at h
      · rename_i hb
        obtain ⟨rfl, rfl⟩ := sfin h
        simp only [evE]
        refine bnd (oE a e1 env hc hB hU) fun w1 B1 vs1 b1 p1 g1 q1 => ?_
        obtain ⟨d1, rfl, i1, s1⟩ := q1
        refine bndB hb i1 fun b hd => ?_
        subst hd
        refine (fin_ok ?_ b1 g1).pre p1
        split
        · rename_i e
          have := kb_ok e i1
          cases this
          exact In_oneB _
        · exact In_bool _
      · cases h
    · cases h
  | .ife x a b, at', c, av, c', h, vs, τ, B, env, hc, hB, hU => by
    simp only [aE] at h
    simp only [evE]
    split at h
    · rename_i e
      refine bndT (oT x e env hc hB hU) fun t B1 b1 k => ?_
      rw [k true rfl, if_pos rfl]
      exact oE a h env hc b1 hU
    · rename_i e
      refine bndT (oT x e env hc hB hU) fun t B1 b1 k => ?_
      rw [k false rfl, if_neg (by decide)]
      exact oE b h env hc b1 hU
    · rename_i e
      split at h
      · rename_i s _ _ t _ _ e1 e2
        split at h
        · rename_i hb
          simp only [Bool.and_eq_true] at hb
          obtain ⟨rfl, rfl⟩ := sfin h
          refine bndT (oT x e env hc hB hU) fun t B1 b1 k => ?_
          cases t with
          | true =>
            rw [if_pos rfl]
            refine Post_mono (oE a e1 env hc b1 hU) fun w S g => ?_
            obtain ⟨B2, vs2, b2, rfl, p2, _, d, rfl, i, _⟩ := g
            subst hc
            exact fin_ok ((join_ok _ _).1 _ ((In_bel p2 _ hb.1).1 _ i)) b2 rfl
          | false =>
            rw [if_neg (by decide)]
            refine Post_mono (oE b e2 env hc b1 hU) fun w S g => ?_
            obtain ⟨B2, vs2, b2, rfl, p2, _, d, rfl, i, _⟩ := g
            subst hc
            exact fin_ok ((join_ok _ _).2 _ ((In_bel p2 _ hb.2).1 _ i)) b2 rfl
        · cases h
      · cases h
    · cases h
  | .ix a b, at', c, av, c', h, vs, τ, B, env, hc, hB, hU => by
    simp only [aE] at h
    split at h
    · rename_i x c1 e1
      split at h
      · rename_i t _ c2 e2
        split at h
        · rename_i u o e3
          obtain ⟨rfl, rfl⟩ := sfin h
          simp only [evE]
          refine bnd (oE a e1 env hc hB hU) fun w1 B1 vs1 b1 p1 g1 q1 => ?_
          refine bnd (oE b e2 (env.mono p1) g1 b1 hU) fun w2 B2 vs2 b2 p2 g2 q2 => ?_
          obtain ⟨d2, rfl, i2, s2⟩ := q2
          obtain ⟨d, hd, id, isy⟩ := aIx_ok b2 e3 (VR_mono p2 q1) i2
          rw [hd, Ok_some]
          split
          · rename_i n _ s
            exact ⟨B2, vs2, b2, rfl, p1.trans p2, g2, d, rfl, id, isy n _ s rfl rfl⟩
          · exact (fin_ok id b2 g2).pre (p1.trans p2)
        · cases h
      · cases h
    · cases h
  | .sl a lo hi, at', c, av, c', h, vs, τ, B, env, hc, hB, hU => by
    simp only [aE] at h
    split at h
    · rename_i t _ c1 e1
      split at h
      · rename_i l c2 e2
        split at h
        · rename_i k c3 e3
          split at h
          · rename_i u e4
            obtain ⟨rfl, rfl⟩ := sfin h
            simp only [evE]
            refine bnd (oE a e1 env hc hB hU) fun w1 B1 vs1 b1 p1 g1 q1 => ?_
            rw [Ok_bind]
            refine Post_mono (oP lo e2 (env.mono p1) g1 b1 hU) fun o1 S g => ?_
            obtain ⟨B2, vs2, b2, rfl, p2, g2, r1⟩ := g
            rw [Ok_bind]
            refine Post_mono (oP hi e3 (env.mono (p1.trans p2)) g2 b2 hU) fun o2 S g => ?_
            obtain ⟨B3, vs3, b3, rfl, p3, g3, r2⟩ := g
            obtain ⟨d1, rfl, i1, s1⟩ := VR_mono (p2.trans p3) q1
            obtain ⟨d, hd, id⟩ := aSl_ok e4 i1 r1 r2 (B3 ++ U)
            exact dn (p1.trans (p2.trans p3)) hd id b3 g3
          · cases h
        · cases h
      · cases h
    · cases h
  | .call f es, at', c, av, c', h, vs, τ, B, env, hc, hB, hU => by
    simp only [aE] at h
    split at h
    · rename_i avs c1 e1
      simp only [evE]
      refine bnds (oEs es e1 env hc hB hU) fun ws B1 vs1 b1 p1 g1 q => ?_
      exact Post_mono (H.ok h g1 b1 hU q) fun w S g => g.pre p1
    · cases h
  | .bi b es, at', c, av, c', h, vs, τ, B, env, hc, hB, hU => by
    simp only [aE] at h
    split at h
    · rename_i avs c1 e1
      simp only [evE]
      refine bnds (oEs es e1 env hc hB hU) fun ws B1 vs1 b1 p1 g1 q => ?_
      exact bi_ok p1 h g1 b1 q
    · cases h
  | .me m o es, at', c, av, c', h, vs, τ, B, env, hc, hB, hU => by simp [aE] at h
  | .chain o o' a b d, at', c, av, c', h, vs, τ, B, env, hc, hB, hU => by simp [aE] at h
  | .isi a T, at', c, av, c', h, vs, τ, B, env, hc, hB, hU => by
    simp only [aE] at h
    split at h
    · rename_i t _ c1 e1
      obtain ⟨rfl, rfl⟩ := sfin h
      simp only [evE]
      refine bnd (oE a e1 env hc hB hU) fun w1 B1 vs1 b1 p1 g1 q1 => ?_
      obtain ⟨d1, rfl, i1, s1⟩ := q1
      exact (fin_ok (aIsi_ok i1) b1 g1).pre p1
    · cases h
  | .lc true own t it ifs e, at', c, av, c', h, vs, τ, B, env, hc, hB, hU => by simp [aE] at h
  | .lc false own t it ifs e, at', c, av, c', h, vs, τ, B, env, hc, hB, hU => by
    simp only [aE] at h
    split at h
    rotate_left
    · cases h
    rename_i ai c1 e1
    simp only [evE]
    rw [Ok_bind]
    refine Post_mono (oI it e1 env hc hB hU) fun rows S g => ?_
    obtain ⟨B1, vs1, b1, rfl, p1, g1, air⟩ := g
    have env1 := (env.mono p1).wipe own
    rw [Ok_bind]
    split at h
    · rename_i l c2 e2
      split at h
      · rename_i hl
        cases h
        split at e2
        · rename_i rs
          split at e2
          · subst g1
            refine Post_mono (lcX_ok (X := X) (R := U) (vs0 := vs1) ?_ (acc := []) (List.prefix_refl _) air b1 e2) fun ws S g => ?_
            · intro vs2 B2 aw r o c3 pv b2 q hg
              split at hg
              rotate_left
              · cases hg
              rename_i at2 e3
              obtain ⟨τ2, e6, env2⟩ := asgR_ok (S := B2 ++ U) e3 (env1.mono pv) q
              rw [e6]
              dsimp only
              split at hg
              · rename_i e4
                split at hg
                · rename_i u s c4 e5
                  cases hg
                  refine bndT (oAs ifs e4 env2 rfl b2 hU) fun t B3 b3 kt => ?_
                  rw [kt true rfl, if_pos rfl, Ok_bind]
                  refine Post_mono (oE e e5 env2 rfl b3 hU) fun w S g => ?_
                  obtain ⟨B4, vs4, b4, rfl, p4, g4, q4⟩ := g
                  exact ⟨B4, vs4, b4, rfl, p4, g4, q4⟩
                · cases hg
              · rename_i e4
                cases hg
                refine bndT (oAs ifs e4 env2 rfl b2 hU) fun t B3 b3 kt => ?_
                rw [kt false rfl, if_neg (by decide), Ok_ok]
                exact ⟨B3, vs2, b3, rfl, List.prefix_refl _, rfl, trivial⟩
              · cases hg
            · obtain ⟨B3, vs3, ds, b3, rfl, p3, g3, rfl, h1, h2⟩ := g
              rw [List.nil_append, mkL _ (by rw [← h1.1]; simpa using hl), Ok_ok]
              exact ⟨B3, vs3, b3, rfl, p1.trans p3, g3, _, rfl, ⟨ds, rfl, h1.to⟩, by simp only [den, h2, Option.map]⟩
          · cases e2
        · cases e2
      · cases h
    split at h
    rotate_left
    · cases h
    rename_i ts lo hi e2
    split at h
    rotate_left
    · cases h
    rename_i at2 e3
    split at h
    rotate_left
    · cases h
    rename_i b e4
    split at h
    rotate_left
    · cases h
    rename_i u _ _ e5
    split at h
    rotate_left
    · cases h
    rename_i hb
    simp only [Bool.and_eq_true, decide_eq_true_eq] at hb
    obtain ⟨rfl, rfl⟩ := sfin h
    obtain ⟨a1, a2, a3⟩ := unOf_ok e2 air
    subst g1
    refine Ok_lc (I := fun pre acc S => ∃ B, X.Bp B ∧ S = B ++ U ∧ ∃ ds : List PyData, acc = ds.map W.p ∧ (∀ d ∈ ds, X.In vs1 u d) ∧ ds.length ≤ pre.length ∧ (b = some true → ds.length = pre.length)) ⟨B1, b1, rfl, [], rfl, (fun d z => nomatch z), Nat.le_refl _, fun _ => rfl⟩ ?_ ?_
    · rintro pre r post acc S er ⟨B2, b2, rfl, ds, rfl, k1, k2, k3⟩
      have hr : r ∈ rows := by rw [er]; simp
      obtain ⟨vs2, p2, l2, q2⟩ := frs_ok (a1 r hr)
      obtain ⟨τ2, e6, env2⟩ := asgR_ok (S := B2 ++ U) e3 (env1.mono p2) q2
      rw [e6]
      dsimp only
      refine bndT (oAs ifs e4 env2 l2 b2 hU) fun t B3 b3 kt => ?_
      cases t with
      | true =>
        rw [if_pos rfl, Ok_bind]
        refine Post_mono (oE e e5 env2 l2 b3 hU) fun w S g => ?_
        obtain ⟨B4, vs4, b4, rfl, p4, g4, d, rfl, id, _⟩ := g
        refine ⟨B4, b4, rfl, ds ++ [d], by simp, fun x hx => ?_, by simp; omega, fun z => by simp [k3 z]⟩
        rcases List.mem_append.mp hx with hx | hx
        · exact k1 x hx
        · rw [List.mem_singleton] at hx
          subst hx
          exact (In_bel (p2.trans p4) _ hb.1).1 _ id
      | false =>
        rw [if_neg (by decide), Ok_ok]
        refine ⟨B3, b3, rfl, ds, by simp, k1, by simp; omega, fun z => ?_⟩
        have := kt true z
        cases this
    · rintro acc S ⟨B2, b2, rfl, ds, rfl, k1, k2, k3⟩
      rw [mkL _ (by omega), Ok_ok]
      refine (fin_ok (X := X) (t := .seqN true u _ hi) ⟨ds, rfl, k1, ?_, by omega⟩ b2 rfl).pre p1
      split
      · rw [k3 rfl]; exact a2
      · exact Nat.zero_le _
  | .u .rev a, at', c, av, c', h, vs, τ, B, env, hc, hB, hU => by
    simp only [aE] at h
    split at h
    · rename_i t _ c1 e1
      split at h
      · rename_i u e2
        obtain ⟨rfl, rfl⟩ := sfin h
        simp only [evE]
        refine bnd (oE a e1 env hc hB hU) fun w1 B1 vs1 b1 p1 g1 q1 => ?_
        obtain ⟨d1, rfl, i1, s1⟩ := q1
        obtain ⟨d, hd, id⟩ := aRev_ok e2 i1 (B1 ++ U)
        exact dn p1 hd id b1 g1
      · cases h
    · cases h
  | .b .join a b, at', c, av, c', h, vs, τ, B, env, hc, hB, hU => by
    simp only [aE] at h
    split at h
    · rename_i s _ c1 e1
      split at h
      · rename_i x c2 e2
        split at h
        · rename_i u e3
          obtain ⟨rfl, rfl⟩ := sfin h
          simp only [evE]
          refine bnd (oE a e1 env hc hB hU) fun w1 B1 vs1 b1 p1 g1 q1 => ?_
          have hs : b2Ok .join w1 = true := by
            obtain ⟨d1, rfl, i1, s1⟩ := q1
            unfold aJoin at e3
            split at e3
            · rename_i z1 z2
              obtain ⟨y, rfl, _⟩ := asStr_ok z1 i1
              rfl
            · cases e3
          rw [if_pos hs]
          refine bnd (oE b e2 (env.mono p1) g1 b1 hU) fun w2 B2 vs2 b2 p2 g2 q2 => ?_
          obtain ⟨d1, rfl, i1, s1⟩ := VR_mono p2 q1
          obtain ⟨_, d, hd, id⟩ := aJoin_ok b2 e3 i1 q2
          exact dn (p1.trans p2) hd id b2 g2
        · cases h
      · cases h
    · cases h
  | .nl, at', c, av, c', h, vs, τ, B, env, hc, hB, hU => by simp [aE] at h
  | .cs a r, at', c, av, c', h, vs, τ, B, env, hc, hB, hU => by simp [aE] at h
  | .tt a, at', c, av, c', h, vs, τ, B, env, hc, hB, hU => by simp [aE] at h
  | .ss a r, at', c, av, c', h, vs, τ, B, env, hc, hB, hU => by simp [aE] at h
  | .stop, at', c, av, c', h, vs, τ, B, env, hc, hB, hU => by simp [aE] at h
  | .iSeq a, at', c, av, c', h, vs, τ, B, env, hc, hB, hU => by simp [aE] at h
  | .iRng a, at', c, av, c', h, vs, τ, B, env, hc, hB, hU => by simp [aE] at h
  | .iRng2 a b, at', c, av, c', h, vs, τ, B, env, hc, hB, hU => by simp [aE] at h
  | .iEnum a, at', c, av, c', h, vs, τ, B, env, hc, hB, hU => by simp [aE] at h
  | .iZip a b, at', c, av, c', h, vs, τ, B, env, hc, hB, hU => by simp [aE] at h
theorem oEs : ∀ (x : Ex) {at' : AT} {c : Nat} {av : List AV} {c' : Nat}, aEs X.ex ac x at' c = some (av, c') → ∀ {vs : List PyData} {τ : Tau} {B : Sto}, Env X vs m β at' τ U → vs.length = c → X.Bp B → CloX X U → Ok (evEs call x τ (B ++ U)) (Gots X U vs c' av) noX
  | x, at', c, av, c', h, vs, τ, B, env, hc, hB, hU => by
    unfold aEs at h
    split at h
    · cases h
      simp only [evEs]
      exact ⟨B, vs, hB, rfl, List.prefix_refl _, hc, .nil⟩
    · split at h
      · rename_i a r at'' c1 x1 c2 e1
        split at h
        · rename_i xs c3 e2
          cases h
          simp only [evEs]
          refine bnd (oE _ e1 env hc hB hU) fun w1 B1 vs1 b1 p1 g1 q1 => ?_
          refine bnds (oEs _ e2 (env.mono p1) g1 b1 hU) fun w2 B2 vs2 b2 p2 g2 q2 => ?_
          exact ⟨B2, vs2, b2, rfl, p1.trans p2, g2, .cons (VR_mono p2 q1) q2⟩
        · cases h
      · cases h
    · cases h
theorem oAn : ∀ (x : Ex) {at' : AT} {c : Nat} {av : AV} {c' : Nat}, aAn X.ex ac x at' c = some (av, c') → ∀ {vs : List PyData} {τ : Tau} {B : Sto}, Env X vs m β at' τ U → vs.length = c → X.Bp B → CloX X U → Ok (evAn call x τ (B ++ U)) (Got X U vs c' av) noX
  | x, at', c, av, c', h, vs, τ, B, env, hc, hB, hU => by
    unfold aAn at h
    split at h
    · simp only [evAn]
      exact oE _ h env hc hB hU
    · rename_i at'' c0 a r hn
      have ev : evAn call (.cs a r) τ (B ++ U) = (evE call a τ (B ++ U)).bind fun x S => (ofB (bl? x) S).bind fun t S => if t then evAn call r τ S else .ok (.p (.bool false)) S := by
        cases r <;> first | exact absurd rfl hn | simp only [evAn]
      rw [ev]
      split at h
      rotate_left
      · cases h
      rename_i s _ c1 e1
      split at h
      rotate_left
      · cases h
      rename_i hb
      refine bnd (oE a e1 env hc hB hU) fun w1 B1 vs1 b1 p1 g1 q1 => ?_
      obtain ⟨d1, rfl, i1, s1⟩ := q1
      refine bndB hb i1 fun b hd => ?_
      subst hd
      split at h
      · rename_i ek
        have := kb_ok ek i1
        cases this
        cases h
        rw [if_neg (by decide), Ok_ok]
        exact ⟨B1, vs1, b1, rfl, p1, g1, _, rfl, In_oneB _, rfl⟩
      · rename_i ek
        have := kb_ok ek i1
        cases this
        rw [if_pos rfl]
        exact Post_mono (oAn r h (env.mono p1) g1 b1 hU) fun w S g => g.pre p1
      · split at h
        · rename_i u _ _ e2
          split at h
          · rename_i hu
            obtain ⟨rfl, rfl⟩ := sfin h
            subst hc
            cases b with
            | true =>
              rw [if_pos rfl]
              refine Post_mono (oAn r e2 (env.mono p1) g1 b1 hU) fun w S g => ?_
              obtain ⟨B2, vs2, b2, rfl, p2, _, d, rfl, i, _⟩ := g
              exact fin_ok ((join_ok _ _).2 _ ((In_bel (p1.trans p2) _ hu).1 _ i)) b2 rfl
            | false =>
              rw [if_neg (by decide), Ok_ok]
              exact fin_ok ((join_ok _ _).1 _ (In_oneB (X := X.toCxt) (vs := vs) false)) b1 rfl
          · cases h
        · cases h
    · cases h
theorem oOr : ∀ (x : Ex) {at' : AT} {c : Nat} {av : AV} {c' : Nat}, aOr X.ex ac x at' c = some (av, c') → ∀ {vs : List PyData} {τ : Tau} {B : Sto}, Env X vs m β at' τ U → vs.length = c → X.Bp B → CloX X U → Ok (evOr call x τ (B ++ U)) (Got X U vs c' av) noX
  | x, at', c, av, c', h, vs, τ, B, env, hc, hB, hU => by
    unfold aOr at h
    split at h
    · simp only [evOr]
      exact oE _ h env hc hB hU
    · rename_i at'' c0 a r hn
      have ev : evOr call (.cs a r) τ (B ++ U) = (evE call a τ (B ++ U)).bind fun x S => (ofB (bl? x) S).bind fun t S => if t then .ok (.p (.bool true)) S else evOr call r τ S := by
        cases r <;> first | exact absurd rfl hn | simp only [evOr]
      rw [ev]
      split at h
      rotate_left
      · cases h
      rename_i s _ c1 e1
      split at h
      rotate_left
      · cases h
      rename_i hb
      refine bnd (oE a e1 env hc hB hU) fun w1 B1 vs1 b1 p1 g1 q1 => ?_
      obtain ⟨d1, rfl, i1, s1⟩ := q1
      refine bndB hb i1 fun b hd => ?_
      subst hd
      split at h
      · rename_i ek
        have := kb_ok ek i1
        cases this
        cases h
        rw [if_pos rfl, Ok_ok]
        exact ⟨B1, vs1, b1, rfl, p1, g1, _, rfl, In_oneB _, rfl⟩
      · rename_i ek
        have := kb_ok ek i1
        cases this
        rw [if_neg (by decide)]
        exact Post_mono (oOr r h (env.mono p1) g1 b1 hU) fun w S g => g.pre p1
      · split at h
        · rename_i u _ _ e2
          split at h
          · rename_i hu
            obtain ⟨rfl, rfl⟩ := sfin h
            subst hc
            cases b with
            | true =>
              rw [if_pos rfl, Ok_ok]
              exact fin_ok ((join_ok _ _).1 _ (In_oneB (X := X.toCxt) (vs := vs) true)) b1 rfl
            | false =>
              rw [if_neg (by decide)]
              refine Post_mono (oOr r e2 (env.mono p1) g1 b1 hU) fun w S g => ?_
              obtain ⟨B2, vs2, b2, rfl, p2, _, d, rfl, i, _⟩ := g
              exact fin_ok ((join_ok _ _).2 _ ((In_bel (p1.trans p2) _ hu).1 _ i)) b2 rfl
          · cases h
        · cases h
    · cases h
theorem oT : ∀ (x : Ex) {at' : AT} {c : Nat} {o : Option Bool}, aT X.ex ac x at' c = some o → ∀ {vs : List PyData} {τ : Tau} {B : Sto}, Env X vs m β at' τ U → vs.length = c → X.Bp B → CloX X U → Ok (evT call x τ (B ++ U)) (GotT X U o) noX
  | x, at', c, o, h, vs, τ, B, env, hc, hB, hU => by
    unfold aT at h
    split at h
    · simp only [evT]
      exact oTa _ h env hc hB hU
    · simp only [evT]
      exact oTo _ h env hc hB hU
    · rw [Option.map_eq_some_iff] at h
      obtain ⟨o', h, rfl⟩ := h
      simp only [evT]
      refine bndT (oT _ h env hc hB hU) fun b B1 b1 k => ?_
      refine ⟨B1, b1, rfl, fun x hx => ?_⟩
      rw [Option.map_eq_some_iff] at hx
      obtain ⟨y, hy, rfl⟩ := hx
      rw [k y hy]
    · split at h
      · rename_i a c1 e1
        simp only [evT]
        refine bnd (oE _ e1 env hc hB hU) fun w1 B1 vs1 b1 p1 g1 q1 => ?_
        obtain ⟨b, e2, k⟩ := aTru_ok b1 h q1
        rw [e2]
        exact ⟨B1, b1, rfl, k⟩
      · cases h
    · cases h
theorem oP : ∀ (x : Ex) {at' : AT} {c : Nat} {l : AP} {c' : Nat}, aP X.ex ac x at' c = some (l, c') → ∀ {vs : List PyData} {τ : Tau} {B : Sto}, Env X vs m β at' τ U → vs.length = c → X.Bp B → CloX X U → Ok (evP call x τ (B ++ U)) (AP' X U vs c' l) noX
  | x, at', c, o, c', h, vs, τ, B, env, hc, hB, hU => by
    unfold aP at h
    split at h
    · cases h
      simp only [evP]
      exact ⟨B, vs, hB, rfl, List.prefix_refl _, hc, rfl⟩
    · split at h
      · rename_i t _ c1 e1
        split at h
        · rename_i x y e2
          cases h
          simp only [evP]
          refine bnd (oE _ e1 env hc hB hU) fun w1 B1 vs1 b1 p1 g1 q1 => ?_
          obtain ⟨d1, rfl, i1, s1⟩ := q1
          obtain ⟨i, rfl, h1, h2⟩ := asInt_ok e2 i1
          exact ⟨B1, vs1, b1, rfl, p1, g1, i, rfl, h1, h2⟩
        · cases h
      · cases h
    · cases h
theorem oTa : ∀ (x : Ex) {at' : AT} {c : Nat} {o : Option Bool}, aTa X.ex ac x at' c = some o → ∀ {vs : List PyData} {τ : Tau} {B : Sto}, Env X vs m β at' τ U → vs.length = c → X.Bp B → CloX X U → Ok (evTa call x τ (B ++ U)) (GotT X U o) noX
  | x, at', c, o, h, vs, τ, B, env, hc, hB, hU => by
    unfold aTa at h
    split at h
    · simp only [evTa]
      exact oT _ h env hc hB hU
    · rename_i at'' c0 a r hn
      have ev : evTa call (.cs a r) τ (B ++ U) = (evT call a τ (B ++ U)).bind fun t S => if t then evTa call r τ S else .ok false S := by
        cases r <;> first | exact absurd rfl hn | simp only [evTa]
      rw [ev]
      split at h
      · rename_i e1
        cases h
        refine bndT (oT a e1 env hc hB hU) fun b B1 b1 k => ?_
        rw [k false rfl, if_neg (by decide)]
        exact ⟨B1, b1, rfl, fun x hx => by cases hx; rfl⟩
      · rename_i e1
        refine bndT (oT a e1 env hc hB hU) fun b B1 b1 k => ?_
        rw [k true rfl, if_pos rfl]
        exact oTa r h env hc b1 hU
      · rename_i e1
        split at h
        · rename_i e2
          cases h
          refine bndT (oT a e1 env hc hB hU) fun b B1 b1 k => ?_
          cases b with
          | true =>
            rw [if_pos rfl]
            exact oTa r e2 env hc b1 hU
          | false =>
            rw [if_neg (by decide)]
            exact ⟨B1, b1, rfl, fun x hx => by cases hx; rfl⟩
        · rename_i e2
          cases h
          refine bndT (oT a e1 env hc hB hU) fun b B1 b1 k => ?_
          cases b with
          | true =>
            rw [if_pos rfl]
            exact Post_mono (oTa r e2 env hc b1 hU) fun b S g => by
              obtain ⟨B2, b2, e3, _⟩ := g
              exact ⟨B2, b2, e3, fun x hx => by cases hx⟩
          | false =>
            rw [if_neg (by decide)]
            exact ⟨B1, b1, rfl, fun x hx => by cases hx⟩
        · cases h
      · cases h
    · cases h
theorem oTo : ∀ (x : Ex) {at' : AT} {c : Nat} {o : Option Bool}, aTo X.ex ac x at' c = some o → ∀ {vs : List PyData} {τ : Tau} {B : Sto}, Env X vs m β at' τ U → vs.length = c → X.Bp B → CloX X U → Ok (evTo call x τ (B ++ U)) (GotT X U o) noX
  | x, at', c, o, h, vs, τ, B, env, hc, hB, hU => by
    unfold aTo at h
    split at h
    · simp only [evTo]
      exact oT _ h env hc hB hU
    · rename_i at'' c0 a r hn
      have ev : evTo call (.cs a r) τ (B ++ U) = (evT call a τ (B ++ U)).bind fun t S => if t then .ok true S else evTo call r τ S := by
        cases r <;> first | exact absurd rfl hn | simp only [evTo]
      rw [ev]
      split at h
      · rename_i e1
        cases h
        refine bndT (oT a e1 env hc hB hU) fun b B1 b1 k => ?_
        rw [k true rfl, if_pos rfl]
        exact ⟨B1, b1, rfl, fun x hx => by cases hx; rfl⟩
      · rename_i e1
        refine bndT (oT a e1 env hc hB hU) fun b B1 b1 k => ?_
        rw [k false rfl, if_neg (by decide)]
        exact oTo r h env hc b1 hU
      · rename_i e1
        split at h
        · rename_i e2
          cases h
          refine bndT (oT a e1 env hc hB hU) fun b B1 b1 k => ?_
          cases b with
          | false =>
            rw [if_neg (by decide)]
            exact oTo r e2 env hc b1 hU
          | true =>
            rw [if_pos rfl]
            exact ⟨B1, b1, rfl, fun x hx => by cases hx; rfl⟩
        · rename_i e2
          cases h
          refine bndT (oT a e1 env hc hB hU) fun b B1 b1 k => ?_
          cases b with
          | false =>
            rw [if_neg (by decide)]
            exact Post_mono (oTo r e2 env hc b1 hU) fun b S g => by
              obtain ⟨B2, b2, e3, _⟩ := g
              exact ⟨B2, b2, e3, fun x hx => by cases hx⟩
          | true =>
            rw [if_pos rfl]
            exact ⟨B1, b1, rfl, fun x hx => by cases hx⟩
        · cases h
      · cases h
    · cases h
theorem oAs : ∀ (x : Ex) {at' : AT} {c : Nat} {o : Option Bool}, aAs X.ex ac x at' c = some o → ∀ {vs : List PyData} {τ : Tau} {B : Sto}, Env X vs m β at' τ U → vs.length = c → X.Bp B → CloX X U → Ok (evAs call x τ (B ++ U)) (GotT X U o) noX
  | x, at', c, o, h, vs, τ, B, env, hc, hB, hU => by
    unfold aAs at h
    split at h
    · cases h
      simp only [evAs]
      exact ⟨B, hB, rfl, fun x hx => by cases hx; rfl⟩
    · simp only [evAs]
      exact oT _ h env hc hB hU
    · cases h
theorem oI : ∀ (x : Ex) {at' : AT} {c : Nat} {a : AI} {c' : Nat}, aI X.ex ac x at' c = some (a, c') → ∀ {vs : List PyData} {τ : Tau} {B : Sto}, Env X vs m β at' τ U → vs.length = c → X.Bp B → CloX X U → Ok (evI call x τ (B ++ U)) (AI' X U vs c' a) noX
  | x, at', c, o, c', h, vs, τ, B, env, hc, hB, hU => by
    unfold aI at h
    split at h
    · split at h
      rotate_left
      · cases h
      rename_i t s c1 e1
      simp only [evI]
      refine bnd (oE _ e1 env hc hB hU) fun w1 B1 vs1 b1 p1 g1 q1 => ?_
      obtain ⟨d1, rfl, i1, s1⟩ := q1
      split at h
      · rename_i k l e2
        cases h
        obtain ⟨ds, rfl, hs⟩ := asShape_ok (noAny e2) i1
        rw [items_sq]
        exact ⟨B1, vs1, b1, rfl, p1, g1, zip_rows hs s1⟩
      split at h
      · rename_i k e lo hi e2
        cases h
        obtain ⟨ds, rfl, h1, h2, h3⟩ := asSeq_ok e2 i1
        rw [items_sq]
        refine ⟨B1, vs1, b1, rfl, p1, g1, fun r hr => ?_, by simpa using h2, by simpa using h3⟩
        simp only [List.map_map, List.mem_map, Function.comp] at hr
        obtain ⟨d, hd, rfl⟩ := hr
        exact ⟨d, rfl, h1 d hd⟩
      · cases h
    · split at h
      rotate_left
      · cases h
      rename_i t s c1 e1
      split at h
      rotate_left
      · cases h
      rename_i x y e2
      split at h
      rotate_left
      · cases h
      rename_i hb
      simp only [evI]
      refine bnd (oE _ e1 env hc hB hU) fun w1 B1 vs1 b1 p1 g1 q1 => ?_
      obtain ⟨d1, rfl, i1, s1⟩ := q1
      obtain ⟨i, rfl, h1, h2⟩ := asInt_ok e2 i1
      dsimp only
      rw [if_pos (by omega), Ok_ok]
      split at h
      · rename_i hxy
        cases h
        have : i = y := by omega
        subst this
        exact ⟨B1, vs1, b1, rfl, p1, g1, rng_rows _⟩
      · cases h
        refine ⟨B1, vs1, b1, rfl, p1, g1, fun r hr => ?_, by rw [rng_len]; omega, by rw [rng_len]; omega⟩
        obtain ⟨j, hj, rfl⟩ := rng_mem hr
        exact ⟨_, rfl, _, rfl, by omega, by omega⟩
    · split at h
      rotate_left
      · cases h
      rename_i s _ c1 e1
      split at h
      rotate_left
      · cases h
      rename_i t _ c2 e2
      split at h
      rotate_left
      · cases h
      rename_i x y z w e3 e4
      split at h
      rotate_left
      · cases h
      rename_i hb
      cases h
      simp only [evI]
      refine bnd (oE _ e1 env hc hB hU) fun w1 B1 vs1 b1 p1 g1 q1 => ?_
      refine bnd (oE _ e2 (env.mono p1) g1 b1 hU) fun w2 B2 vs2 b2 p2 g2 q2 => ?_
      obtain ⟨d1, rfl, i1, s1⟩ := VR_mono p2 q1
      obtain ⟨d2, rfl, i2, s2⟩ := q2
      obtain ⟨i, rfl, h1, h2⟩ := asInt_ok e3 i1
      obtain ⟨j, rfl, h3, h4⟩ := asInt_ok e4 i2
      dsimp only
      rw [if_pos (by omega), Ok_ok]
      refine ⟨B2, vs2, b2, rfl, p1.trans p2, g2, fun r hr => ?_, by rw [rng_len]; omega, by rw [rng_len]; omega⟩
      obtain ⟨n, hn, rfl⟩ := rng_mem hr
      exact ⟨_, rfl, _, rfl, by omega, by omega⟩
    · split at h
      rotate_left
      · cases h
      rename_i t s c1 e1
      split at h
      rotate_left
      · cases h
      rename_i k e lo hi e2
      cases h
      simp only [evI]
      refine bnd (oE _ e1 env hc hB hU) fun w1 B1 vs1 b1 p1 g1 q1 => ?_
      obtain ⟨d1, rfl, i1, s1⟩ := q1
      obtain ⟨ds, rfl, h1, h2, h3⟩ := asSeq_ok e2 i1
      rw [items_sq]
      refine ⟨B1, vs1, b1, rfl, p1, g1, fun r hr => ?_, by rw [enum_len]; simpa using h2, by rw [enum_len]; simpa using h3⟩
      obtain ⟨j, w, rfl, hw, hj1, hj2⟩ := enum_mem hr
      obtain ⟨d, hd, rfl⟩ := List.mem_map.mp hw
      simp only [List.length_map] at hj2
      exact ⟨⟨_, rfl, _, rfl, by omega, by omega⟩, d, rfl, h1 d hd⟩
    · split at h
      rotate_left
      · cases h
      rename_i s _ c1 e1
      split at h
      rotate_left
      · cases h
      rename_i t _ c2 e2
      split at h
      rotate_left
      · cases h
      rename_i k e lo hi k' e' lo' hi' e3 e4
      split at h
      rotate_left
      · cases h
      rename_i hb
      cases h
      simp only [beq_iff_eq] at hb
      subst hb
      simp only [evI]
      refine bnd (oE _ e1 env hc hB hU) fun w1 B1 vs1 b1 p1 g1 q1 => ?_
      refine bnd (oE _ e2 (env.mono p1) g1 b1 hU) fun w2 B2 vs2 b2 p2 g2 q2 => ?_
      obtain ⟨d1, rfl, i1, s1⟩ := VR_mono p2 q1
      obtain ⟨d2, rfl, i2, s2⟩ := q2
      obtain ⟨ds, rfl, h1, h2, h3⟩ := asSeq_ok e3 i1
      obtain ⟨es, rfl, g3, g4, g5⟩ := asSeq_ok e4 i2
      rw [items_sq, items_sq]
      dsimp only
      simp only [stillp, Bool.and_self, if_true, rowsZip, beq_self_eq_true]
      refine ⟨B2, vs2, b2, rfl, p1.trans p2, g2, fun r hr => ?_, by simp; omega, by simp; omega⟩
      have key : ∀ (xs ys : List PyData), (∀ x ∈ xs, X.In vs2 e x) → (∀ y ∈ ys, X.In vs2 e' y) → ∀ r ∈ List.zipWith Row.two (xs.map W.p) (ys.map W.p), RowT X vs2 [e, e'] r := by
        intro xs
        induction xs with
        | nil => intro ys _ _ r hr; simp at hr
        | cons x xs ih =>
          intro ys a b r hr
          cases ys with
          | nil => simp at hr
          | cons y ys =>
            simp only [List.map_cons, List.zipWith_cons_cons, List.mem_cons] at hr
            rcases hr with rfl | hr
            · exact ⟨⟨x, rfl, a x (List.mem_cons_self ..)⟩, y, rfl, b y (List.mem_cons_self ..)⟩
            · exact ih ys (fun z hz => a z (List.mem_cons_of_mem _ hz)) (fun z hz => b z (List.mem_cons_of_mem _ hz)) r hr
      exact key ds es h1 g3 r hr
    · cases h
end
end
end
end Pv
end

section
set_option maxRecDepth 10000
set_option maxHeartbeats 4000000
namespace Pv
open PySem PySem.Spec L2
open PyProof.Rows hiding St

/-! ## statements on kinds -/
structure Rs where
  nx : Option (AT × Nat)
  rt : Option Ty
def jR : Option Ty → Option Ty → Option Ty
  | some s, some t => some (join s t)
  | some s, none => some s
  | none, t => t
section
variable (ex : Nat → Option Ty)
/-- what a slot is told at a meeting is right: e ahead of both, a on one way, j behind -/
def leA (c k : Nat) (e a j : AV) : Bool := match a, j with
  | _, .top => true
  | .spr, .spr => true
  | .scr, .scr => true
  | .p t s, .p u y => (match e with
      | .p t0 s0 => eqT t0 t && eqY s0 s && eqT t0 u && eqY s0 y
      | _ => false) || (match y with
      | .v n => n == k && belT c t && sub FU t u
      | _ => false)
  | .own t lo o h, .own u lo' o' h' => o == o' && belT c t && sub FU t u && decide (lo' ≤ lo) && decide (h ≤ h')
  | .own t lo o h, .rd u lo' hi' => belT c t && sub FU t u && decide (lo' ≤ lo) && decide (o.getD 0 + h ≤ hi')
  | .rd t lo hi, .rd u lo' hi' => belT c t && sub FU t u && decide (lo' ≤ lo) && decide (hi ≤ hi')
  | .p t _, .rd u lo' hi' => match asSeq ex t with
    | some (true, el, lo, hi) => belT c el && sub FU el u && decide (lo' ≤ lo) && decide (hi ≤ hi')
    | _ => false
  | _, _ => false
def listOf : AV → Option (Ty × Nat × Nat)
  | .own t lo o h => some (t, lo, o.getD 0 + h)
  | .rd t lo hi => some (t, lo, hi)
  | .p t _ => match asSeq ex t with
    | some (true, el, lo, hi) => some (el, lo, hi)
    | _ => none
  | _ => none
def isPA : AV → Bool
  | .p _ _ => true
  | _ => false
/-- a guess of what a slot holds behind a meeting -/
def joinA (k : Nat) (e a b : AV) : AV := match a, b with
  | .p t s, .p u y => match e with
    | .p t0 s0 => if eqT t0 t && eqY s0 s && eqT t0 u && eqY s0 y then e else .p (join t u) (.v k)
    | _ => .p (join t u) (.v k)
  | .own t lo o h, .own u lo' o' h' => if o == o' then .own (join t u) (min lo lo') o (max h h') else .rd (join t u) (min lo lo') (max (o.getD 0 + h) (o'.getD 0 + h'))
  | .spr, .spr => .spr
  | .scr, .scr => .scr
  | a, b => if isPA a && isPA b then .top else match listOf ex a, listOf ex b with
    | some (t, lo, hi), some (u, lo', hi') => .rd (join t u) (min lo lo') (max hi hi')
    | _, _ => .top
def joinsA (k : Nat) : AT → AT → AT → AT
  | e :: es, a :: as, b :: bs => joinA ex k e a b :: joinsA (k + 1) es as bs
  | _, _, _ => []
def lesA (c k : Nat) : AT → AT → AT → Bool
  | [], [], [] => true
  | e :: es, a :: as, j :: js => leA ex c k e a j && lesA c (k + 1) es as js
  | _, _, _ => false
/-- two ways meet -/
def meet (c : Nat) (at' : AT) (a b : Option (AT × Nat)) : Option (Option (AT × Nat)) := match a, b with
  | none, b => some b
  | a, none => some a
  | some (x, _), some (y, _) =>
    let j := joinsA ex c at' x y
    if lesA ex c c at' x j && lesA ex c c at' y j then some (some (j, c + at'.length)) else none
/-! ### loops -/
def head1 : AT → AT
  | [] => []
  | .own t lo o h :: r => .own t lo (some (o.getD 0 + h)) 0 :: head1 r
  | a :: r => a :: head1 r
/-- the next guess of what holds ahead of each turn; n turns -/
def nextH (n k : Nat) : AT → AT → AT → AT
  | .own te lo0 oe he :: es, .own t lo o _ :: hs, .own u lo' o' h' :: xs => (if o == o' then .own (join t (join u te)) (min lo (min lo' lo0)) (some (oe.getD 0 + he + n * h')) 0 else .top) :: nextH n (k + 1) es hs xs
  | e :: es, h :: hs, x :: xs => joinA ex k e h x :: nextH n (k + 1) es hs xs
  | _, _, _ => []
def steady (n c k : Nat) : AT → AT → AT → Bool
  | [], [], [] => true
  | .own te lo0 oe he :: es, .own t lo o h :: hs, .own u lo' o' h' :: xs => sub FU te t && sub FU u t && belT c te && belT c t && belT c u && decide (lo ≤ lo0) && decide (lo ≤ lo') && h == 0 && o == o' && (match o with
    | some g => decide (oe.getD 0 + he + n * h' ≤ g)
    | none => false) && steady n c (k + 1) es hs xs
  | e :: es, h :: hs, x :: xs => !(isOwn h) && leA ex c k e e h && leA ex c k e x h && steady n c (k + 1) es hs xs
  | _, _, _ => false
/-- what holds ahead of the first turn, where no turn comes to its end -/
def steady0 (c k : Nat) : AT → AT → Bool
  | [], [] => true
  | .own te lo0 oe he :: es, .own t lo o h :: hs => sub FU te t && belT c te && belT c t && decide (lo ≤ lo0) && h == 0 && (match o with
    | some g => decide (oe.getD 0 + he ≤ g)
    | none => false) && steady0 c (k + 1) es hs
  | e :: es, h :: hs => !(isOwn h) && leA ex c k e e h && steady0 c (k + 1) es hs
  | _, _ => false
def postE (n : Nat) (e h x : AV) : AV := match e, h, x with
  | .own te lo0 oe he, .own t lo o _, .own u lo' o' h' => .own t lo oe (he + n * h')
  | _, h, _ => h
def postL (n : Nat) : AT → AT → AT → AT
  | e :: es, h :: hs, x :: xs => postE n e h x :: postL n es hs xs
  | _, _, _ => []
def postE0 (e h : AV) : AV := match e, h with
  | .own te lo0 oe he, .own t lo o _ => .own t lo oe he
  | _, h => h
def postL0 : AT → AT → AT
  | e :: es, h :: hs => postE0 e h :: postL0 es hs
  | _, _ => []
/-- some turns of guessing -/
def loopA (n c : Nat) (at' : AT) (body : AT → Option Rs) : Nat → AT → Option Rs
  | 0, _ => none
  | f + 1, hd => match body hd with
    | none => none
    | some r => match r.nx with
      | none => if steady0 ex c c at' hd then some ⟨some (postL0 at' hd, c + at'.length), r.rt⟩ else none
      | some (x, _) => if steady ex n c c at' hd x then some ⟨some (postL n at' hd x, c + at'.length), r.rt⟩ else loopA n c at' body f (nextH ex n c at' hd x)
section
variable (ac : Nat → List AV → Nat → Option (AV × Nat))
def conv : Option (AV × Nat) → Option (AV × Nat)
  | some (.p t _, c) => match asSeq ex t with
    | some (true, el, lo, hi) => some (.own el lo none hi, c)
    | _ => none
  | _ => none
def aM (e : Ex) (at' : AT) (c : Nat) : Option (AV × Nat) := match e with
  | .lst true es => conv ex (aE ex ac (.lst false es) at' c)
  | .lc true own t it ifs e => conv ex (aE ex ac (.lc false own t it ifs e) at' c)
  | .bi .listM es => conv ex (aE ex ac (.bi .list es) at' c)
  | e => aE ex ac e at' c
def aMs : Ex → AT → Nat → Option (List AV × Nat)
  | .nl, _, c => some ([], c)
  | .cs a r, at', c => match aM ex ac a at' c with
    | some (x, c1) => match aMs r at' c1 with
      | some (xs, c2) => some (x :: xs, c2)
      | none => none
    | none => none
  | _, _, _ => none
/-- may it be put into a slot as it is -/
def okSet : AV → Bool
  | .top => false
  | .rd _ _ _ => false
  | _ => true
def setAllA : List Nat → List AV → AT → Option AT
  | [], [], at' => some at'
  | i :: is, a :: as, at' => if okSet a && decide (i < at'.length) then setAllA is as (at'.set i a) else none
  | _, _, _ => none
def weak : AV → AV
  | .own t lo o h => .rd t lo (o.getD 0 + h)
  | a => a
/-- an appended item, items -/
def aApp (at' : AT) (i : Nat) (u : Ty) (n0 n : Nat) : Option AT := match at'[i]? with
  | some (.own t lo o h) => if o.getD 0 + h + n ≤ lim then some (at'.set i (.own (join t u) (lo + n0) o (h + n))) else none
  | _ => none
mutual
def aS : Sx → AT → Nat → Nat → Option Rs
  | .asg (.n i) (.v j), at', c, _ => match at'[j]? with
    | some a => if i < at'.length then (match a with
      | .top => none
      | a => some ⟨some ((at'.set j (weak a)).set i (weak a), c), none⟩) else none
    | none => none
  | .asg (.n i) e, at', c, _ => match aM ex ac e at' c with
    | some (a, c') => if okSet a && decide (i < at'.length) then some ⟨some (at'.set i a, c'), none⟩ else none
    | none => none
  | .asg t e, at', c, _ => match aE ex ac e at' c with
    | some (.p u s, c') => (aAsg ex t u s at').map fun x => ⟨some (x, c'), none⟩
    | _ => none
  | .par is es, at', c, _ => match aMs ex ac es at' c with
    | some (avs, c') => (setAllA is avs at').map fun x => ⟨some (x, c'), none⟩
    | none => none
  | .aug i o e, at', c, _ => match at'[i]?, aE ex ac e at' c with
    | some (.p t _), some (.p u _, c') => match o with
      | .Add => match asInt ex t, asInt ex u with
        | some (a, b), some (x, y) => some ⟨some (at'.set i (.p (.int (a + x) (b + y)) (.v c')), c' + 1), none⟩
        | _, _ => none
      | .Sub => match asInt ex t, asInt ex u with
        | some (a, b), some (x, y) => some ⟨some (at'.set i (.p (.int (a - y) (b - x)) (.v c')), c' + 1), none⟩
        | _, _ => none
      | _ => none
    | _, _ => none
  | .expr (.me .append (.v i) (.cs e .nl)), at', c, _ => match aE ex ac e at' c with
    | some (.p t _, c') => (aApp at' i t 1 1).map fun x => ⟨some (x, c'), none⟩
    | _ => none
  | .expr (.me .extend (.v i) (.cs e .nl)), at', c, _ => match aE ex ac e at' c with
    | some (.p t _, c') => match asSeq ex t with
      | some (true, el, lo, hi) => (aApp at' i el lo hi).map fun x => ⟨some (x, c'), none⟩
      | _ => none
    | _ => none
  | .expr e, at', c, _ => match aE ex ac e at' c with
    | some (_, c') => some ⟨some (at', c'), none⟩
    | none => none
  | .ret (.v j), at', c, ce => match at'[j]? with
    | some (.own t lo o h) => if belT ce t then some ⟨none, some (.seqN true t lo (o.getD 0 + h))⟩ else none
    | some (.p t _) => if belT ce t then some ⟨none, some t⟩ else none
    | _ => none
  | .ret e, at', c, ce => match aM ex ac e at' c with
    | some (.p t _, _) => if belT ce t then some ⟨none, some t⟩ else none
    | some (.own t lo none hi, _) => if belT ce t then some ⟨none, some (.seqN true t lo hi)⟩ else none
    | _ => none
  | .retN, _, _, _ => some ⟨none, some (.one [.none])⟩
  | .iff x a b, at', c, ce => match aT ex ac x at' c with
    | some (some true) => aSs a at' c ce
    | some (some false) => aSs b at' c ce
    | some none => match aSs a at' c ce, aSs b at' c ce with
      | some r, some q => (meet ex c at' r.nx q.nx).map fun n => ⟨n, jR r.rt q.rt⟩
      | _, _ => none
    | none => none
  | .for_ t it b, at', c, ce => match aI ex ac it at' c with
    | some (ai, c1) => match unOf ai with
      | some (ts, _, n) =>
        loopA ex n c1 at' (fun hd => match aAsgR ex t (frs ts (c1 + at'.length)) hd with
          | some at2 => aSs b at2 (c1 + at'.length + ts.length) ce
          | none => none) 6 (head1 at')
      | none => none
    | none => none
  | .pass, at', c, _ => some ⟨some (at', c), none⟩
  | _, _, _, _ => none
def aSs : Sx → AT → Nat → Nat → Option Rs
  | .nl, at', c, _ => some ⟨some (at', c), none⟩
  | .cs a r, at', c, ce => match aS a at' c ce with
    | some q => match q.nx with
      | none => some q
      | some (at2, c2) => match aSs r at2 c2 ce with
        | some z => some ⟨z.nx, jR q.rt z.rt⟩
        | none => none
    | none => none
  | _, _, _, _ => none
end
end
/-- a def, by its body -/
def aF (ac : Nat → List AV → Nat → Option (AV × Nat)) (fd : Fd) (avs : List AV) (c : Nat) : Option (AV × Nat) :=
  if avs.length = fd.np ∧ fd.gc = true then match aSs ex ac fd.body (avs ++ List.replicate (fd.nn - fd.np) .top) c c with
    | some r => match jR r.rt (r.nx.map fun _ => .one [.none]) with
      | some t => some (fin t c)
      | none => none
    | none => none
  else none
end
/-- a told def: what it takes, what it gives -/
abbrev Ct := List AV → Option (Ty × Option Sym)
def ctA (ct : Ct) (avs : List AV) (c : Nat) : Option (AV × Nat) := match ct avs with
  | some (t, some s) => some (.p t s, c)
  | some (t, none) => some (fin t c)
  | none => none
/-- calls: told defs by what is told, from some room on; the others by their bodies -/
def aC (ex : Nat → Option Ty) (T : List Fd) (C : Nat → Option (Nat × Ct)) : Nat → Nat → List AV → Nat → Option (AV × Nat)
  | 0, _, _, _ => none
  | k + 1, i, avs, c => match C i with
    | some (n, ct) => if n ≤ k + 1 then ctA ct avs c else none
    | none => match T[i]? with
      | some fd => aF ex (aC ex T C k) fd avs c
      | none => none
end Pv
end

section
set_option maxRecDepth 10000
set_option maxHeartbeats 4000000
namespace Pv
open PySem PySem.Spec L2
open PyProof.Rows hiding St

/-! ## statements on kinds are right -/
def DataL (J : Sto) : Prop := ∀ o ∈ J, ∃ ds : List PyData, o = .l (ds.map W.p)
def Fr (R0 R : Sto) : Prop := ∃ J, R = R0 ++ J ∧ DataL J
theorem DataL.app {J N : Sto} (h : DataL J) (g : DataL N) : DataL (J ++ N) := fun o ho => by
  rcases List.mem_append.mp ho with q | q
  · exact h o q
  · exact g o q
theorem Fr.app {R0 R N : Sto} (h : Fr R0 R) (g : DataL N) : Fr R0 (R ++ N) := by
  obtain ⟨J, rfl, hJ⟩ := h
  exact ⟨J ++ N, List.append_assoc _ _ _, hJ.app g⟩
theorem Fr.set {R0 R : Sto} (h : Fr R0 R) {j : Nat} (hj : R0.length ≤ j) (ds : List PyData) : Fr R0 (R.set j (.l (ds.map W.p))) := by
  obtain ⟨J, rfl, hJ⟩ := h
  refine ⟨J.set (j - R0.length) (.l (ds.map W.p)), List.set_append_right _ _ hj, fun o ho => ?_⟩
  rcases List.mem_or_eq_of_mem_set ho with q | q
  · exact hJ o q
  · exact ⟨ds, q⟩
section
variable {X : Cx2}
theorem Fr.clo {R0 R : Sto} (h : Fr R0 R) (c : CloX X R0) : CloX X R := by
  obtain ⟨J, rfl, hJ⟩ := h
  intro o ho
  rcases List.mem_append.mp ho with q | q
  · exact obBelow_mono (by simp) (c o q)
  · obtain ⟨ds, rfl⟩ := hJ o q
    simp [obBelow, below]
def valOf : Option W → PyData
  | some (.p d) => d
  | _ => .none
structure Lk (X : Cx2) (vs : List PyData) (m : Nat) (R : Sto) (b : Nat) (a j : AV) (w : Option W) : Prop where
  sr : SR X vs m R b j w
  ow : isOwn j = true → isOwn a = true
  rf : isRef j = true → isRef a = true ∨ ∃ d, w = some (.p d)
theorem Env.lk {vs vsn : List PyData} {m : Nat} {β β' : Nat → Nat} {as js : AT} {τ : Tau} {R : Sto} (e : Env X vs m β as τ R) (hl : js.length = as.length)
    (h : ∀ (i : Nat) a j w, as[i]? = some a → js[i]? = some j → τ[i]? = some w → Lk X vsn m R (β' i) a j w) : Env X vsn m β' js τ R := by
  have ga : ∀ {i : Nat} {j : AV}, js[i]? = some j → ∃ a, as[i]? = some a := fun {i j} hj => by
    have := (List.getElem?_eq_some_iff.mp hj).1
    rw [hl] at this
    exact ⟨as[i], List.getElem?_eq_getElem this⟩
  refine ⟨by rw [hl, e.len], fun i j w p q => ?_, fun i k a b n hne p q p1 q1 r1 r2 => ?_⟩
  · obtain ⟨a, ha⟩ := ga p
    exact (h i a j w ha p q).sr
  · obtain ⟨a', ha⟩ := ga p
    obtain ⟨b', hb⟩ := ga q
    have h1 := (h i a' a _ ha p r1).ow p1
    rcases (h k b' b _ hb q r2).rf q1 with h2 | ⟨d, h2⟩
    · exact e.un i k a' b' n hne ha hb h1 h2 r1 r2
    · cases h2
theorem leA_ok {c k : Nat} {e a j : AV} {vs0 vs1 vsn : List PyData} {m b : Nat} {R : Sto} {w : Option W} (h : leA X.ex c k e a j = true) (hc : vs0.length = c) (p1 : vs0 <+: vs1) (pn : vs0 <+: vsn)
    (wd : ∀ t s, e = .p t s → ∃ d, X.In vs0 t d ∧ den X.F vs0 s = some d) (hk : ∀ d, w = some (.p d) → vsn[k]? = some d) (q : SR X vs1 m R b a w) : Lk X vsn m R b a j w := by
  subst hc
  have bel : ∀ {t u : Ty} {d : PyData}, belT vs0.length t = true → sub FU t u = true → X.In vs1 t d → X.In vsn u d := fun {t u d} h1 h2 h3 =>
    (In_mono pn _).1 _ ((sub_ok FU).1 _ _ h2 _ ((In_bel p1 _ h1).1 _ h3))
  unfold leA at h
  split at h
  · exact ⟨trivial, (fun z => by cases z), fun z => by cases z⟩
  · exact ⟨q, (fun z => by cases z), fun z => by cases z⟩
  · obtain ⟨x, rfl, q⟩ := q
    exact ⟨⟨x, rfl, q⟩, (fun z => by cases z), fun z => by cases z⟩
  · rename_i t s u y
    obtain ⟨x, rfl, d, rfl, q1, q2⟩ := q
    refine ⟨⟨_, rfl, d, rfl, ?_⟩, (fun z => by cases z), fun z => by cases z⟩
    simp only [Bool.or_eq_true] at h
    rcases h with h | h
    · split at h
      · rename_i t0 s0
        simp only [Bool.and_eq_true] at h
        obtain ⟨⟨⟨h1, h2⟩, h3⟩, h4⟩ := h
        obtain ⟨d0, g1, g2⟩ := wd t0 s0 rfl
        rw [← eqT_eq h3, ← eqY_eq h4]
        rw [← eqY_eq h2] at q2
        have := (den_mono X.F p1 s0).1 _ g2
        rw [q2] at this
        cases this
        exact ⟨(In_mono pn _).1 _ g1, (den_mono X.F pn _).1 _ g2⟩
      · cases h
    · split at h
      · rename_i n
        simp only [Bool.and_eq_true, beq_iff_eq] at h
        obtain ⟨⟨rfl, h2⟩, h3⟩ := h
        exact ⟨bel h2 h3 q1, hk d rfl⟩
      · cases h
  · rename_i t lo o h0 u lo' o' h'
    simp only [Bool.and_eq_true, decide_eq_true_eq, beq_iff_eq] at h
    obtain ⟨⟨⟨⟨rfl, h2⟩, h3⟩, h4⟩, h5⟩ := h
    obtain ⟨j, ds, rfl, q1, q2, q3, q4, q5⟩ := q
    refine ⟨⟨j, ds, rfl, q1, q2, fun d hd => bel h2 h3 (q3 d hd), by omega, ?_⟩, fun _ => rfl, fun _ => .inl rfl⟩
    cases o with
    | none => simp only [OwnB] at q5 ⊢; omega
    | some g => simp only [OwnB] at q5 ⊢; omega
  · rename_i t lo o h0 u lo' hi'
    simp only [Bool.and_eq_true, decide_eq_true_eq] at h
    obtain ⟨⟨⟨h2, h3⟩, h4⟩, h5⟩ := h
    obtain ⟨j, ds, rfl, q1, q2, q3, q4, q5⟩ := q
    have := q5.le
    exact ⟨⟨_, rfl, ds, .inr ⟨j, rfl, q2⟩, fun d hd => bel h2 h3 (q3 d hd), by omega, by omega⟩, (fun z => by cases z), fun _ => .inl rfl⟩
  · rename_i t lo hi u lo' hi'
    simp only [Bool.and_eq_true, decide_eq_true_eq] at h
    obtain ⟨⟨⟨h2, h3⟩, h4⟩, h5⟩ := h
    obtain ⟨x, rfl, ds, q1, q2, q3, q4⟩ := q
    exact ⟨⟨_, rfl, ds, q1, fun d hd => bel h2 h3 (q2 d hd), by omega, by omega⟩, (fun z => by cases z), fun _ => .inl rfl⟩
  · rename_i t s u lo' hi'
    split at h
    · rename_i el lo hi e1
      simp only [Bool.and_eq_true, decide_eq_true_eq] at h
      obtain ⟨⟨⟨h2, h3⟩, h4⟩, h5⟩ := h
      obtain ⟨x, rfl, d, rfl, q1, q2⟩ := q
      obtain ⟨ds, rfl, g1, g2, g3⟩ := asSeq_ok e1 q1
      exact ⟨⟨_, rfl, ds, .inl rfl, fun d hd => bel h2 h3 (g1 d hd), by omega, by omega⟩, (fun z => by cases z), fun _ => .inr ⟨_, rfl⟩⟩
    · cases h
  · cases h
theorem lesA_ok {c : Nat} : ∀ {es as js : AT} {k : Nat}, lesA X.ex c k es as js = true → es.length = as.length ∧ js.length = as.length ∧ ∀ (i : Nat) e a j, es[i]? = some e → as[i]? = some a → js[i]? = some j → leA X.ex c (k + i) e a j = true
  | [], [], [], _, _ => ⟨rfl, rfl, fun i e a j h => by simp at h⟩
  | e :: es, a :: as, j :: js, k, h => by
    simp only [lesA, Bool.and_eq_true] at h
    obtain ⟨h1, h2, h3⟩ := lesA_ok h.2
    refine ⟨by simp [h1], by simp [h2], fun i x y z p q r => ?_⟩
    cases i with
    | zero => simp at p q r; subst p; subst q; subst r; exact h.1
    | succ i =>
      have := h3 i x y z (by simpa using p) (by simpa using q) (by simpa using r)
      rw [show k + (i + 1) = k + 1 + i by omega]
      exact this
  | [], _ :: _, _, _, h => by simp [lesA] at h
  | [], [], _ :: _, _, h => by simp [lesA] at h
  | _ :: _, [], _, _, h => by simp [lesA] at h
  | _ :: _, _ :: _, [], _, h => by simp [lesA] at h
theorem val_at {vs0 : List PyData} {τ : Tau} {i : Nat} {d : PyData} (h : τ[i]? = some (some (.p d))) : (vs0 ++ τ.map valOf)[vs0.length + i]? = some d := by
  rw [List.getElem?_append_right (by omega), Nat.add_sub_cancel_left, List.getElem?_map, h]
  rfl
theorem Env.wd {vs : List PyData} {m : Nat} {β : Nat → Nat} {at' : AT} {τ : Tau} {R : Sto} (e : Env X vs m β at' τ R) {i : Nat} {a : AV} (h : at'[i]? = some a) : ∀ t s, a = .p t s → ∃ d, X.In vs t d ∧ den X.F vs s = some d := by
  rintro t s rfl
  have hi := (List.getElem?_eq_some_iff.mp h).1
  rw [e.len] at hi
  obtain ⟨x, _, d, rfl, q1, q2⟩ := e.sl i _ _ h (List.getElem?_eq_getElem hi)
  exact ⟨d, q1, q2⟩
theorem Env.meet {vs0 vs1 : List PyData} {m : Nat} {β0 β : Nat → Nat} {es as js : AT} {τ0 τ : Tau} {R0 R : Sto} (e0 : Env X vs0 m β0 es τ0 R0) (p : vs0 <+: vs1) (e : Env X vs1 m β as τ R) (h : lesA X.ex vs0.length vs0.length es as js = true) : Env X (vs0 ++ τ.map valOf) m β js τ R := by
  obtain ⟨h1, h2, h3⟩ := lesA_ok h
  refine e.lk h2 fun i a j w ha hj hw => ?_
  have hi := (List.getElem?_eq_some_iff.mp ha).1
  rw [← h1] at hi
  have he := List.getElem?_eq_getElem hi
  exact leA_ok (h3 i _ a j he ha hj) rfl p (List.prefix_append _ _) (e0.wd he) (fun d hd => val_at (by rw [hw, hd])) (e.sl i a w ha hw)
/-! ### the store grows -/
theorem VR_ext {vs : List PyData} {R N : Sto} : ∀ {a : AV} {w : W}, VR X vs R a w → VR X vs (R ++ N) a w
  | .top, _, q => q
  | .p t s, w, q => q
  | .rd t lo hi, w, q => by
    obtain ⟨ds, e, q⟩ := q
    refine ⟨ds, e.imp id ?_, q⟩
    rintro ⟨j, rfl, hj⟩
    exact ⟨j, rfl, by rw [List.getElem?_append_left (List.getElem?_eq_some_iff.mp hj).1]; exact hj⟩
  | .own _ _ _ _, _, q => q
  | .spr, _, q => q
  | .scr, _, q => q
theorem SR_ext {vs : List PyData} {R N : Sto} {m b : Nat} : ∀ {a : AV} {w : Option W}, SR X vs m R b a w → SR X vs m (R ++ N) b a w
  | .top, _, q => q
  | .p t s, w, q => q
  | .rd t lo hi, w, q => by obtain ⟨x, e, q⟩ := q; exact ⟨x, e, VR_ext q⟩
  | .own _ _ _ _, _, q => by
    obtain ⟨j, ds, e, q1, q2, q3⟩ := q
    exact ⟨j, ds, e, q1, by rw [List.getElem?_append_left (List.getElem?_eq_some_iff.mp q2).1]; exact q2, q3⟩
  | .spr, _, q => q
  | .scr, _, q => q
theorem Env.ext {vs : List PyData} {m : Nat} {β : Nat → Nat} {at' : AT} {τ : Tau} {R : Sto} (e : Env X vs m β at' τ R) (N : Sto) : Env X vs m β at' τ (R ++ N) := ⟨e.len, fun i a w p q => SR_ext (e.sl i a w p q), e.un⟩
/-- where references stand -/
theorem Env.lt {vs : List PyData} {m : Nat} {β : Nat → Nat} {at' : AT} {τ : Tau} {R : Sto} (e : Env X vs m β at' τ R) {i n : Nat} {a : AV} (h : at'[i]? = some a) (hr : isRef a = true) (ht : τ[i]? = some (some (.r n))) : n < X.bl + R.length := by
  have := e.sl i a _ h ht
  cases a with
  | own t lo o h =>
    obtain ⟨j, ds, e1, q1, q2, _⟩ := this
    cases e1
    have := (List.getElem?_eq_some_iff.mp q2).1
    omega
  | rd t lo hi =>
    obtain ⟨x, e1, ds, q, _⟩ := this
    cases e1
    rcases q with q | ⟨j, q, hj⟩
    · cases q
    · cases q
      have := (List.getElem?_eq_some_iff.mp hj).1
      omega
  | _ => cases hr
theorem get_set_eq {α : Type} {l : List α} {i : Nat} {a x : α} (h : (l.set i a)[i]? = some x) : x = a := by
  rw [List.getElem?_set, if_pos rfl] at h
  split at h
  · cases h; rfl
  · cases h
theorem get_set_ne {α : Type} {l : List α} {i j : Nat} {a : α} (h : i ≠ j) : (l.set i a)[j]? = l[j]? := by
  rw [List.getElem?_set, if_neg h]
theorem Env.setown {vs : List PyData} {m : Nat} {β : Nat → Nat} {at' : AT} {τ : Tau} {R : Sto} (e : Env X vs m β at' τ R) (i : Nat) {t : Ty} {lo hi : Nat} {ds : List PyData} {N : Sto} {j : Nat} (hm : m ≤ j) (hN : (R ++ N)[j]? = some (.l (ds.map W.p)))
    (un : ∀ (k : Nat) b, at'[k]? = some b → isRef b = true → k ≠ i → τ[k]? ≠ some (some (.r (X.bl + j))))
    (h : ∀ d ∈ ds, X.In vs t d) (h1 : lo ≤ ds.length) (h2 : ds.length ≤ hi) : Env X vs m β (at'.set i (.own t lo none hi)) (τ.set i (some (.r (X.bl + j)))) (R ++ N) := by
  refine ⟨by simp [e.len], fun k a w p q => ?_, fun k l a b n hne p q p1 q1 r1 r2 => ?_⟩
  · by_cases hk : i = k
    · subst hk
      rw [get_set_eq p, get_set_eq q]
      exact ⟨j, ds, rfl, hm, hN, h, h1, h2⟩
    · rw [get_set_ne hk] at p q
      exact SR_ext (e.sl k a w p q)
  · by_cases hk : i = k
    · subst hk
      rw [get_set_ne hne] at q r2
      have := get_set_eq r1
      cases this
      exact un l b q q1 (fun z => hne z.symm) r2
    · rw [get_set_ne hk] at p r1
      by_cases hl : i = l
      · subst hl
        have := get_set_eq r2
        cases this
        have hr : isRef a = true := by cases a <;> first | rfl | cases p1
        exact un k a p hr (fun z => hk z.symm) r1
      · rw [get_set_ne hl] at q r2
        exact e.un k l a b n hne p q p1 q1 r1 r2
/-- items come to a list -/
theorem Env.app {vs : List PyData} {m : Nat} {β : Nat → Nat} {at' : AT} {τ : Tau} {R : Sto} (e : Env X vs m β at' τ R) {i : Nat} {t u : Ty} {lo h n0 n : Nat} {o : Option Nat} (ha : at'[i]? = some (.own t lo o h)) {es : List PyData} (he : ∀ d ∈ es, X.In vs u d) (h0 : n0 ≤ es.length) (h1 : es.length ≤ n) :
    ∃ j ds, τ[i]? = some (some (.r (X.bl + j))) ∧ m ≤ j ∧ R[j]? = some (.l (ds.map W.p)) ∧ ds.length ≤ o.getD 0 + h ∧ Env X vs m β (at'.set i (.own (join t u) (lo + n0) o (h + n))) τ (R.set j (.l ((ds ++ es).map W.p))) := by
  have hi := (List.getElem?_eq_some_iff.mp ha).1
  rw [e.len] at hi
  have ht := List.getElem?_eq_getElem hi
  obtain ⟨j, ds, e1, q1, q2, q3, q4, q5⟩ := e.sl i _ _ ha ht
  rw [e1] at ht
  have hj := (List.getElem?_eq_some_iff.mp q2).1
  refine ⟨j, ds, ht, q1, q2, q5.le, ⟨by simp [e.len], fun k a w p q => ?_, fun k l a b z hne p q p1 q1' r1 r2 => ?_⟩⟩
  · by_cases hk : i = k
    · subst hk
      rw [get_set_eq p]
      rw [ht] at q
      cases q
      refine ⟨j, ds ++ es, rfl, q1, by rw [List.getElem?_set, if_pos rfl, if_pos hj], fun d hd => ?_, by simp; omega, ?_⟩
      · rcases List.mem_append.mp hd with hd | hd
        · exact (join_ok _ _).1 _ (q3 d hd)
        · exact (join_ok _ _).2 _ (he d hd)
      · cases o with
        | none => simp only [OwnB, List.length_append] at q5 ⊢; omega
        | some g => simp only [OwnB, List.length_append] at q5 ⊢; omega
    · rw [get_set_ne hk] at p
      have s := e.sl k a w p q
      have key : ∀ n, isRef a = true → w = some (.r n) → n ≠ X.bl + j := fun n hr hw hn => by
        subst hn
        rw [hw] at q
        exact e.un i k _ a _ hk ha p rfl hr ht q
      cases a with
      | own t' lo' o' h' =>
        obtain ⟨j', ds', e1', q1', q2', q3'⟩ := s
        have : j ≠ j' := fun z => key _ rfl e1' (by rw [z])
        exact ⟨j', ds', e1', q1', by rw [List.getElem?_set, if_neg this]; exact q2', q3'⟩
      | rd t' lo' hi' =>
        obtain ⟨x, e1', ds', q1', q2'⟩ := s
        refine ⟨x, e1', ds', q1'.imp id ?_, q2'⟩
        rintro ⟨j', rfl, hj'⟩
        have : j ≠ j' := fun z => key _ rfl e1' (by rw [z])
        exact ⟨j', rfl, by rw [List.getElem?_set, if_neg this]; exact hj'⟩
      | _ => exact s
  · have ga : ∀ {k : Nat} {a : AV}, (at'.set i (.own (join t u) (lo + n0) o (h + n)))[k]? = some a → ∃ a', at'[k]? = some a' ∧ isOwn a' = isOwn a ∧ isRef a' = isRef a := fun {k a} p => by
      by_cases hk : i = k
      · subst hk
        rw [get_set_eq p]
        exact ⟨_, ha, rfl, rfl⟩
      · rw [get_set_ne hk] at p
        exact ⟨a, p, rfl, rfl⟩
    obtain ⟨a', a1, a2, a3⟩ := ga p
    obtain ⟨b', b1, b2, b3⟩ := ga q
    exact e.un k l a' b' z hne a1 b1 (by rw [a2]; exact p1) (by rw [b3]; exact q1') r1 r2
/-- a list gets a second name -/
theorem Env.alias {vs : List PyData} {m : Nat} {β : Nat → Nat} {at' : AT} {τ : Tau} {R : Sto} (e : Env X vs m β at' τ R) {i j : Nat} {a : AV} {w : Option W} (ha : at'[j]? = some a) (hw : τ[j]? = some w) (hn : a ≠ .top) : Env X vs m β ((at'.set j (weak a)).set i (weak a)) (τ.set i w) R := by
  have q := e.sl j a w ha hw
  have qw : SR X vs m R (β i) (weak a) w := by
    cases a with
    | own t lo o h =>
      obtain ⟨k, ds, e1, q1, q2, q3, q4, q5⟩ := q
      exact ⟨_, e1, ds, .inr ⟨k, rfl, q2⟩, q3, q4, q5.le⟩
    | top => exact absurd rfl hn
    | _ => exact q
  have qj : SR X vs m R (β j) (weak a) w := by
    cases a with
    | own t lo o h =>
      obtain ⟨k, ds, e1, q1, q2, q3, q4, q5⟩ := q
      exact ⟨_, e1, ds, .inr ⟨k, rfl, q2⟩, q3, q4, q5.le⟩
    | top => exact absurd rfl hn
    | _ => exact q
  have nown : isOwn (weak a) = false := by cases a <;> rfl
  have rfa : isRef (weak a) = isRef a := by cases a <;> rfl
  refine ⟨by simp [e.len], fun k x u p r => ?_, fun k l x y n hne p r p1 r1 s1 s2 => ?_⟩
  · by_cases hk : i = k
    · subst hk
      rw [get_set_eq p, get_set_eq r]
      exact qw
    · rw [get_set_ne hk] at p r
      by_cases hj : j = k
      · subst hj
        rw [get_set_eq p]
        rw [hw] at r
        cases r
        exact qj
      · rw [get_set_ne hj] at p
        exact e.sl k x u p r
  · have hk : i ≠ k := fun z => by subst z; rw [get_set_eq p, nown] at p1; cases p1
    rw [get_set_ne hk] at p s1
    have hj : j ≠ k := fun z => by subst z; rw [get_set_eq p, nown] at p1; cases p1
    rw [get_set_ne hj] at p
    by_cases hl : i = l
    · subst hl
      have hy := get_set_eq r
      have hs := get_set_eq s2
      exact e.un k j x a n hj.symm p ha p1 (by rw [← rfa, ← hy]; exact r1) s1 (by rw [hw, ← hs])
    · rw [get_set_ne hl] at r s2
      by_cases hl2 : j = l
      · subst hl2
        have hy := get_set_eq r
        exact e.un k j x a n hne p ha p1 (by rw [← rfa, ← hy]; exact r1) s1 s2
      · rw [get_set_ne hl2] at r
        exact e.un k l x y n hne p r p1 r1 s1 s2
theorem Env.setx {vs : List PyData} {m : Nat} {β : Nat → Nat} {at' : AT} {τ : Tau} {R : Sto} (e : Env X vs m β at' τ R) (i : Nat) {a : AV} {w : W} (h : VR X vs R a w) (hr : isRef a = false) : Env X vs m β (at'.set i a) (τ.set i (some w)) R := by
  cases a with
  | p t s => exact e.setp i h
  | top => exact h.elim
  | rd t lo hi => cases hr
  | own t lo o k => cases hr
  | spr =>
    refine ⟨by simp [e.len], fun j a u p q => ?_, fun j k a b n hne p q p1 q1 => ?_⟩
    · by_cases hj : i = j
      · subst hj; rw [get_set_eq p, get_set_eq q]; exact ⟨w, rfl, h⟩
      · rw [get_set_ne hj] at p q; exact e.sl j a u p q
    · have n1 : i ≠ j := fun z => by subst z; rw [get_set_eq p] at p1; cases p1
      have n2 : i ≠ k := fun z => by subst z; rw [get_set_eq q] at q1; cases q1
      rw [get_set_ne n1] at p ⊢
      rw [get_set_ne n2] at q ⊢
      exact e.un j k a b n hne p q p1 q1
  | scr =>
    refine ⟨by simp [e.len], fun j a u p q => ?_, fun j k a b n hne p q p1 q1 => ?_⟩
    · by_cases hj : i = j
      · subst hj; rw [get_set_eq p, get_set_eq q]; exact ⟨w, rfl, h⟩
      · rw [get_set_ne hj] at p q; exact e.sl j a u p q
    · have n1 : i ≠ j := fun z => by subst z; rw [get_set_eq p] at p1; cases p1
      have n2 : i ≠ k := fun z => by subst z; rw [get_set_eq q] at q1; cases q1
      rw [get_set_ne n1] at p ⊢
      rw [get_set_ne n2] at q ⊢
      exact e.un j k a b n hne p q p1 q1
end
end Pv
end

section
set_option maxRecDepth 10000
set_option maxHeartbeats 4000000
namespace Pv
open PySem PySem.Spec L2
open PyProof.Rows hiding St

/-! ## statements on kinds are right: the rest -/
section
variable {X : Cx2} {ac : Nat → List AV → Nat → Option (AV × Nat)} {call : Nat → List W → Sto → Pv.R W}
theorem deP_eq : ∀ {ws : List W} {ds : List PyData}, deP ws = some ds → ws = ds.map W.p
  | [], _, h => by cases h; rfl
  | .p d :: r, ds, h => by
    simp only [deP, Option.map_eq_some_iff] at h
    obtain ⟨l, h, rfl⟩ := h
    rw [deP_eq h]; rfl
  | .r _ :: _, _, h => by simp [deP] at h
  | .s _ :: _, _, h => by simp [deP] at h
/-- what comes of an expression that may make a list -/
def GotM (X : Cx2) (R : Sto) (vs : List PyData) (c : Nat) (av : AV) : W → Sto → Prop := fun w S => ∃ B N vs', X.Bp B ∧ S = B ++ (R ++ N) ∧ DataL N ∧ vs <+: vs' ∧ vs'.length = c ∧ match av with
  | .own t lo o h => o = none ∧ ∃ ds : List PyData, N = [.l (ds.map W.p)] ∧ w = .r (X.bl + R.length) ∧ (∀ d ∈ ds, X.In vs' t d) ∧ lo ≤ ds.length ∧ ds.length ≤ h
  | a => VR X vs' R a w
theorem lenBR {B R : Sto} (hB : X.Bp B) : (B ++ R).length = X.bl + R.length := by rw [List.length_append, (X.BpO B hB).1]
theorem conv_inv {o : Option (AV × Nat)} {av : AV} {c : Nat} (h : conv X.ex o = some (av, c)) : ∃ t s el lo hi, o = some (.p t s, c) ∧ asSeq X.ex t = some (true, el, lo, hi) ∧ av = .own el lo none hi := by
  unfold conv at h
  split at h
  · split at h
    · rename_i e
      cases h
      exact ⟨_, _, _, _, _, rfl, e, rfl⟩
    · cases h
  · cases h
theorem mk_conv {r : Pv.R (List W)} {R : Sto} {vs : List PyData} {c : Nat} {t el : Ty} {s : Sym} {lo hi : Nat} (h : Ok (r.bind (mkLst false)) (Got X R vs c (.p t s)) noX) (e : asSeq X.ex t = some (true, el, lo, hi)) : Ok (r.bind (mkLst true)) (GotM X R vs c (.own el lo none hi)) noX := by
  rw [Ok_bind] at h ⊢
  refine Ok_mono h (fun ws S g => ?_) fun _ _ z => z
  unfold mkLst at g ⊢
  split at g
  · rename_i hl
    rw [if_pos hl, if_pos rfl, Ok_ok]
    rw [if_neg (by decide)] at g
    split at g
    · rename_i ds hd
      rw [Ok_ok] at g
      obtain ⟨B, vs', hB, rfl, p, l, d, e1, i, _⟩ := g
      cases e1
      obtain ⟨ds', e2, h1, h2, h3⟩ := asSeq_ok e i
      cases e2
      refine ⟨B, [.l ws], vs', hB, by rw [List.append_assoc], ?_, p, l, rfl, ds, by rw [deP_eq hd], by rw [lenBR hB], h1, h2, h3⟩
      intro o ho
      rw [List.mem_singleton] at ho
      exact ⟨ds, by rw [ho, deP_eq hd]⟩
    · exact g.elim
  · exact g.elim
theorem bind_assoc {α β γ : Type} (r : Pv.R α) (f : α → Sto → Pv.R β) (g : β → Sto → Pv.R γ) : (r.bind fun a S => (f a S).bind g) = (r.bind f).bind g := by cases r <;> rfl
theorem aM_ok (H : Hy X ac call) {e : Ex} {at' : AT} {c c' : Nat} {av : AV} {vs : List PyData} {m : Nat} {β : Nat → Nat} {τ : Tau} {B R : Sto} (h : aM X.ex ac e at' c = some (av, c')) (env : Env X vs m β at' τ R) (hc : vs.length = c) (hB : X.Bp B) (hR : CloX X R) :
    Ok (evE call e τ (B ++ R)) (GotM X R vs c' av) noX := by
  have plain : ∀ e, aE X.ex ac e at' c = some (av, c') → Ok (evE call e τ (B ++ R)) (GotM X R vs c' av) noX := fun e h => by
    refine Post_mono (oE H e h env hc hB hR) fun w S g => ?_
    obtain ⟨B', vs', hB', rfl, p, l, q⟩ := g
    refine ⟨B', [], vs', hB', by simp, (fun o ho => by cases ho), p, l, ?_⟩
    cases av with
    | own t lo o h => exact q.elim
    | _ => exact q
  unfold aM at h
  split at h
  · obtain ⟨t, s, el, lo, hi, e1, e2, rfl⟩ := conv_inv h
    have := oE H _ e1 env hc hB hR
    simp only [evE] at this ⊢
    exact mk_conv this e2
  · obtain ⟨t, s, el, lo, hi, e1, e2, rfl⟩ := conv_inv h
    have := oE H _ e1 env hc hB hR
    simp only [evE] at this ⊢
    rw [bind_assoc] at this ⊢
    exact mk_conv this e2
  · obtain ⟨t, s, el, lo, hi, e1, e2, rfl⟩ := conv_inv h
    have := oE H _ e1 env hc hB hR
    simp only [evE] at this ⊢
    rw [Ok_bind] at this ⊢
    refine Ok_mono this (fun ws S g => ?_) fun _ _ z => z
    unfold biF at g ⊢
    try dsimp only at g ⊢
    unfold fList at g
    unfold fListM
    split at g
    · rename_i x
      try dsimp only
      split at g
      · rename_i b ds hs
        rw [hs]
        dsimp only
        rw [Ok_some] at g ⊢
        obtain ⟨B', vs', hB', rfl, p, l, d, e3, i, _⟩ := g
        cases e3
        obtain ⟨ds', e4, h1, h2, h3⟩ := asSeq_ok e2 i
        cases e4
        refine ⟨B', [.l (ds.map W.p)], vs', hB', by rw [List.append_assoc], ?_, p, l, rfl, ds, rfl, by rw [lenBR hB'], h1, h2, h3⟩
        intro o ho
        rw [List.mem_singleton] at ho
        exact ⟨ds, ho⟩
      · exact g.elim
    · exact g.elim
  · exact plain _ h
/-- what comes of several -/
def VM (X : Cx2) (vs : List PyData) (m0 : Nat) (R : Sto) (a : AV) (w : W) : Prop := match a with
  | .own t lo o h => o = none ∧ ∃ (j : Nat) (ds : List PyData), m0 ≤ j ∧ R[j]? = some (.l (ds.map W.p)) ∧ w = .r (X.bl + j) ∧ (∀ d ∈ ds, X.In vs t d) ∧ lo ≤ ds.length ∧ ds.length ≤ h
  | a => VR X vs R a w
/-- no two new lists are one -/
inductive Nod : List AV → List W → Prop
  | nil : Nod [] []
  | cons {a : AV} {w : W} {as : List AV} {ws : List W} : (isOwn a = true → ∀ (i : Nat) b u, as[i]? = some b → ws[i]? = some u → isOwn b = true → u ≠ w) → Nod as ws → Nod (a :: as) (w :: ws)
theorem VM_mono {vs vs' : List PyData} {m0 : Nat} {R N : Sto} (h : vs <+: vs') {a : AV} {w : W} (q : VM X vs m0 R a w) : VM X vs' m0 (R ++ N) a w := by
  cases a with
  | own t lo o k =>
    obtain ⟨e, j, ds, q1, q2, q3, q4, q5⟩ := q
    exact ⟨e, j, ds, q1, by rw [List.getElem?_append_left (List.getElem?_eq_some_iff.mp q2).1]; exact q2, q3, fun d hd => (In_mono h _).1 _ (q4 d hd), q5⟩
  | top => exact q
  | p t s => exact VR_mono (R := R) (a := .p t s) h q
  | rd t lo hi => exact VR_ext (VR_mono (R := R) (a := .rd t lo hi) h q)
  | spr => exact q
  | scr => exact q
theorem VM_of {vs : List PyData} {R N : Sto} {a : AV} {w : W} (h : match a with
  | .own t lo o h => o = none ∧ ∃ ds : List PyData, N = [.l (ds.map W.p)] ∧ w = .r (X.bl + R.length) ∧ (∀ d ∈ ds, X.In vs t d) ∧ lo ≤ ds.length ∧ ds.length ≤ h
  | a => VR X vs R a w) : VM X vs R.length (R ++ N) a w := by
  cases a with
  | own t lo o k =>
    obtain ⟨e, ds, rfl, q3, q4, q5⟩ := h
    exact ⟨e, R.length, ds, Nat.le_refl _, by simp, q3, q4, q5⟩
  | top => exact h
  | p t s => exact h
  | rd t lo hi => exact VR_ext (a := .rd t lo hi) h
  | spr => exact h
  | scr => exact h
theorem pairedG {α β : Type} {F : α → β → Prop} : ∀ {l : List α} {m : List β}, Paired F l m → ∀ (i : Nat) a b, l[i]? = some a → m[i]? = some b → F a b
  | _, _, .nil, i, a, b, h, _ => by simp at h
  | _, _, .cons q t, i, a, b, h, g => by
    cases i with
    | zero => simp at h g; subst h; subst g; exact q
    | succ i => exact pairedG t i a b (by simpa using h) (by simpa using g)
theorem aMs_ok (H : Hy X ac call) {m : Nat} {β : Nat → Nat} : ∀ (e : Ex) {at' : AT} {c c' : Nat} {avs : List AV} {vs : List PyData} {τ : Tau} {B R : Sto}, aMs X.ex ac e at' c = some (avs, c') → Env X vs m β at' τ R → vs.length = c → X.Bp B → CloX X R →
    Ok (evEs call e τ (B ++ R)) (fun ws S => ∃ B' N vs', X.Bp B' ∧ S = B' ++ (R ++ N) ∧ DataL N ∧ vs <+: vs' ∧ vs'.length = c' ∧ Paired (VM X vs' R.length (R ++ N)) avs ws ∧ Nod avs ws) noX := by
  intro e
  induction e with
  | nl =>
    intro at' c c' avs vs τ B R h env hc hB hR
    simp only [aMs] at h
    cases h
    simp only [evEs]
    exact ⟨B, [], vs, hB, by simp, (fun o ho => by cases ho), List.prefix_refl _, hc, .nil, .nil⟩
  | cs a r ih1 ih2 =>
    intro at' c c' avs vs τ B R h env hc hB hR
    simp only [aMs] at h
    split at h
    · rename_i x c1 e1
      split at h
      · rename_i xs c2 e2
        cases h
        simp only [evEs]
        rw [Ok_bind]
        refine Post_mono (aM_ok H e1 env hc hB hR) fun w S g => ?_
        obtain ⟨B1, N1, vs1, b1, rfl, d1, p1, l1, q1⟩ := g
        have fr : Fr R (R ++ N1) := ⟨N1, rfl, d1⟩
        rw [Ok_bind]
        refine Post_mono (ih2 e2 ((env.mono p1).ext N1) l1 b1 (fr.clo hR)) fun ws S g => ?_
        obtain ⟨B2, N2, vs2, b2, rfl, d2, p2, l2, q2, n2⟩ := g
        refine ⟨B2, N1 ++ N2, vs2, b2, by rw [List.append_assoc], d1.app d2, p1.trans p2, l2, .cons ?_ ?_, .cons ?_ n2⟩
        · rw [← List.append_assoc]
          exact VM_mono p2 (VM_of q1)
        · rw [← List.append_assoc]
          refine Paired.imp' (fun b u z => ?_) q2
          cases b with
          | own t lo o h =>
            obtain ⟨e, j, ds, z1, z2⟩ := z
            exact ⟨e, j, ds, by simp at z1; omega, z2⟩
          | top => exact z
          | p t s => exact z
          | rd t lo hi => exact z
          | spr => exact z
          | scr => exact z
        · intro hx i b u hb hu hbo
          have z := pairedG q2 i b u hb hu
          cases b with
          | own t lo o h =>
            obtain ⟨_, j, ds, z1, z2, z3, _⟩ := z
            cases x with
            | own t' lo' o' h' =>
              obtain ⟨_, ds', rfl, q3, _⟩ := q1
              rw [z3, q3]
              intro e
              simp at e z1
              omega
            | _ => cases hx
          | _ => cases hbo
      · cases h
    · cases h
  | _ => intro at' c c' avs vs τ B R h; simp [aMs] at h
theorem setAll_ok {m : Nat} {β : Nat → Nat} {vs : List PyData} {R : Sto} {m0 : Nat} (hm : m ≤ m0) : ∀ {is : List Nat} {avs : List AV} {ws : List W} {at' at2 : AT} {τ : Tau}, setAllA is avs at' = some at2 → Env X vs m β at' τ R → Paired (VM X vs m0 R) avs ws → Nod avs ws →
    (∀ (k : Nat) a w (l : Nat) b, avs[k]? = some a → ws[k]? = some w → isOwn a = true → at'[l]? = some b → isRef b = true → τ[l]? ≠ some (some w)) → ∃ τ', setAll is ws τ = some τ' ∧ Env X vs m β at2 τ' R
  | [], [], ws, at', at2, τ, h, env, q, n, hd => by
    cases q
    cases h
    exact ⟨τ, rfl, env⟩
  | i :: is, a :: as, ws, at', at2, τ, h, env, q, n, hd => by
    cases q with
    | cons q t =>
      cases n with
      | cons n1 n2 =>
        rename_i w ws
        simp only [setAllA] at h
        split at h
        · rename_i hc
          simp only [Bool.and_eq_true, decide_eq_true_eq] at hc
          have key : ∀ {τ1 : Tau} {x : AV}, τ1 = τ.set i (some w) → isRef x = isOwn x → (isRef x = true → isOwn a = true) → ∀ (k : Nat) a' w' (l : Nat) b, as[k]? = some a' → ws[k]? = some w' → isOwn a' = true → (at'.set i x)[l]? = some b → isRef b = true → τ1[l]? ≠ some (some w') := by
            rintro τ1 x rfl hx hxa k a' w' l b h1 h2 h3 h4 h5 h6
            by_cases hl : i = l
            · subst hl
              have := get_set_eq h4
              subst this
              have e2 := get_set_eq h6
              cases e2
              exact n1 (hxa h5) k a' _ h1 h2 h3 rfl
            · rw [get_set_ne hl] at h4 h6
              exact hd (k + 1) a' w' l b (by simpa using h1) (by simpa using h2) h3 h4 h5 h6
          cases a with
          | own ty lo o h0 =>
            obtain ⟨rfl, j, ds, z1, z2, rfl, z4, z5, z6⟩ := q
            have env2 := env.setown (N := []) i (t := ty) (lo := lo) (hi := h0) (ds := ds) (j := j) (by omega) (by simpa using z2) (fun k b hb hr hk => hd 0 _ _ k b rfl rfl rfl hb hr) z4 z5 z6
            rw [List.append_nil] at env2
            obtain ⟨τ', e1, e2⟩ := setAll_ok hm h env2 t n2 (key rfl rfl fun _ => rfl)
            exact ⟨τ', e1, e2⟩
          | top => cases hc.1
          | rd _ _ _ => cases hc.1
          | p ty s =>
            have env2 := env.setx i (a := .p ty s) q rfl
            obtain ⟨τ', e1, e2⟩ := setAll_ok hm h env2 t n2 (key rfl rfl fun z => by cases z)
            exact ⟨τ', e1, e2⟩
          | spr =>
            have env2 := env.setx i (a := .spr) q rfl
            obtain ⟨τ', e1, e2⟩ := setAll_ok hm h env2 t n2 (key rfl rfl fun z => by cases z)
            exact ⟨τ', e1, e2⟩
          | scr =>
            have env2 := env.setx i (a := .scr) q rfl
            obtain ⟨τ', e1, e2⟩ := setAll_ok hm h env2 t n2 (key rfl rfl fun z => by cases z)
            exact ⟨τ', e1, e2⟩
        · cases h
  | [], _ :: _, _, _, _, _, h, _, _, _, _ => by cases h
  | _ :: _, [], _, _, _, _, h, _, _, _, _ => by cases h
/-! ### what a statement leaves -/
def SP (X : Cx2) (R0 : Sto) (ve vs : List PyData) (β : Nat → Nat) (res : Rs) : Po where
  nx τ S := ∃ at' c, res.nx = some (at', c) ∧ ∃ B R vs', X.Bp B ∧ S = B ++ R ∧ Fr R0 R ∧ vs <+: vs' ∧ vs'.length = c ∧ Env X vs' R0.length β at' τ R
  rt w S := ∃ t, res.rt = some t ∧ ∃ B R d, X.Bp B ∧ S = B ++ R ∧ Fr R0 R ∧ (w = .p d ∨ ∃ (n : Nat) (ds : List PyData), R0.length ≤ n ∧ w = .r (X.bl + n) ∧ R[n]? = some (.l (ds.map W.p)) ∧ d = .list ds) ∧ X.In ve t d
  bk _ _ := False
  ct _ _ := False
  ex _ _ _ := False
theorem SP_mono {R0 : Sto} {ve vs vs0 : List PyData} {β : Nat → Nat} {r q : Rs} {x : RS} (h : So x (SP X R0 ve vs β r)) (hp : vs0 <+: vs)
    (hn : ∀ a c, r.nx = some (a, c) → q.nx = some (a, c)) (hr : ∀ t, r.rt = some t → ∃ u, q.rt = some u ∧ ∀ d, X.In ve t d → X.In ve u d) : So x (SP X R0 ve vs0 β q) := by
  refine So_mono h (fun τ S g => ?_) (fun w S g => ?_) (fun _ _ z => z) (fun _ _ z => z) fun _ _ _ z => z
  · obtain ⟨a, c, e, B, R, vs', g1, g2, g3, g4, g5⟩ := g
    exact ⟨a, c, hn a c e, B, R, vs', g1, g2, g3, hp.trans g4, g5⟩
  · obtain ⟨t, e, B, R, d, g1, g2, g3, g4, g5⟩ := g
    obtain ⟨u, e2, hu⟩ := hr t e
    exact ⟨u, e2, B, R, d, g1, g2, g3, g4, hu d g5⟩
theorem jR_l {a b : Option Ty} {t : Ty} {ve : List PyData} (h : a = some t) : ∃ u, jR a b = some u ∧ ∀ d, X.In ve t d → X.In ve u d := by
  subst h
  cases b with
  | none => exact ⟨t, rfl, fun d q => q⟩
  | some s => exact ⟨_, rfl, fun d q => (join_ok _ _).1 _ q⟩
theorem jR_r {a b : Option Ty} {t : Ty} {ve : List PyData} (h : b = some t) : ∃ u, jR a b = some u ∧ ∀ d, X.In ve t d → X.In ve u d := by
  subst h
  cases a with
  | none => exact ⟨t, rfl, fun d q => q⟩
  | some s => exact ⟨_, rfl, fun d q => (join_ok _ _).2 _ q⟩
theorem thenM {R0 : Sto} {ve vs : List PyData} {β : Nat → Nat} {q : Rs} {α : Type} {r : Pv.R α} {τ : Tau} {f : α → Sto → RS} {Q : α → Sto → Prop} (h : Ok r Q noX) (k : ∀ a S, Q a S → So (f a S) (SP X R0 ve vs β q)) : So (thenS r τ f) (SP X R0 ve vs β q) := by
  rw [So_then]
  exact Ok_mono h k fun _ _ z => z.elim
def lenAt (X : Cx2) (τ : Tau) (R : Sto) (i : Nat) : Nat := match τ[i]? with
  | some (some (.r n)) => match R[n - X.bl]? with
    | some (.l ws) => ws.length
    | none => 0
  | _ => 0
theorem lenAt_eq {τ : Tau} {R : Sto} {i j : Nat} {ds : List PyData} (h : τ[i]? = some (some (.r (X.bl + j)))) (hj : R[j]? = some (.l (ds.map W.p))) : lenAt X τ R i = ds.length := by
  unfold lenAt
  rw [h]
  dsimp only
  rw [Nat.add_sub_cancel_left, hj]
  simp
/-! ### steadiness, place by place -/
/-- entry, head and exit of a turn, at one place -/
inductive St3 (ex : Nat → Option Ty) (n c k : Nat) : AV → AV → AV → Prop
  | own {te lo0 oe he t lo g u lo' h'} : sub FU te t = true → sub FU u t = true → belT c te = true → belT c t = true → belT c u = true → lo ≤ lo0 → lo ≤ lo' → oe.getD 0 + he + n * h' ≤ g → St3 ex n c k (.own te lo0 oe he) (.own t lo (some g) 0) (.own u lo' (some g) h')
  | non {e h x} : isOwn h = false → leA ex c k e e h = true → leA ex c k e x h = true → St3 ex n c k e h x
theorem steady_ok {n c : Nat} : ∀ {es hs xs : AT} {k : Nat}, steady X.ex n c k es hs xs = true → hs.length = es.length ∧ xs.length = es.length ∧ ∀ (i : Nat) e h x, es[i]? = some e → hs[i]? = some h → xs[i]? = some x → St3 X.ex n c (k + i) e h x := by
  intro es
  induction es with
  | nil =>
    intro hs xs k h
    cases hs <;> cases xs <;> simp [steady] at h
    exact ⟨rfl, rfl, fun i e h x p => by simp at p⟩
  | cons e es ih =>
    intro hs xs k h
    cases hs with
    | nil => cases xs <;> simp [steady] at h
    | cons hd hs =>
      cases xs with
      | nil => simp [steady] at h
      | cons x xs =>
        have key : St3 X.ex n c k e hd x ∧ steady X.ex n c (k + 1) es hs xs = true := by
          unfold steady at h
          split at h
          · simp at *
          · rename_i e1 e2 e3
            cases e1; cases e2; cases e3
            simp only [Bool.and_eq_true, decide_eq_true_eq, beq_iff_eq] at h
            obtain ⟨⟨⟨⟨⟨⟨⟨⟨⟨⟨h1, h2⟩, h3⟩, h4⟩, h5⟩, h6⟩, h7⟩, h8⟩, h9⟩, h10⟩, h11⟩ := h
            split at h10
            · rename_i g
              simp only [decide_eq_true_eq] at h10
              subst h8
              subst h9
              exact ⟨.own h1 h2 h3 h4 h5 h6 h7 h10, h11⟩
            · cases h10
          · rename_i e1 e2 e3
            cases e1; cases e2; cases e3
            simp only [Bool.and_eq_true, Bool.not_eq_true'] at h
            exact ⟨.non h.1.1.1 h.1.1.2 h.1.2, h.2⟩
          · rename_i z1 z2 z3
            cases h
        obtain ⟨h1, h2, h3⟩ := ih key.2
        refine ⟨by simp [h1], by simp [h2], fun i a b d p q r => ?_⟩
        cases i with
        | zero => simp at p q r; subst p; subst q; subst r; exact key.1
        | succ i =>
          have := h3 i a b d (by simpa using p) (by simpa using q) (by simpa using r)
          rw [show k + (i + 1) = k + 1 + i by omega]
          exact this
inductive St2 (ex : Nat → Option Ty) (c k : Nat) : AV → AV → Prop
  | own {te lo0 oe he t lo g} : sub FU te t = true → belT c te = true → belT c t = true → lo ≤ lo0 → oe.getD 0 + he ≤ g → St2 ex c k (.own te lo0 oe he) (.own t lo (some g) 0)
  | non {e h} : isOwn h = false → leA ex c k e e h = true → St2 ex c k e h
theorem steady0_ok {c : Nat} : ∀ {es hs : AT} {k : Nat}, steady0 X.ex c k es hs = true → hs.length = es.length ∧ ∀ (i : Nat) e h, es[i]? = some e → hs[i]? = some h → St2 X.ex c (k + i) e h := by
  intro es
  induction es with
  | nil =>
    intro hs k h
    cases hs <;> simp [steady0] at h
    exact ⟨rfl, fun i e h p => by simp at p⟩
  | cons e es ih =>
    intro hs k h
    cases hs with
    | nil => simp [steady0] at h
    | cons hd hs =>
      have key : St2 X.ex c k e hd ∧ steady0 X.ex c (k + 1) es hs = true := by
        unfold steady0 at h
        split at h
        · simp at *
        · rename_i e1 e2
          cases e1; cases e2
          simp only [Bool.and_eq_true, decide_eq_true_eq, beq_iff_eq] at h
          obtain ⟨⟨⟨⟨⟨⟨h1, h2⟩, h3⟩, h4⟩, h5⟩, h6⟩, h7⟩ := h
          split at h6
          · rename_i g
            simp only [decide_eq_true_eq] at h6
            subst h5
            exact ⟨.own h1 h2 h3 h4 h6, h7⟩
          · cases h6
        · rename_i e1 e2
          cases e1; cases e2
          simp only [Bool.and_eq_true, Bool.not_eq_true'] at h
          exact ⟨.non h.1.1 h.1.2, h.2⟩
        · cases h
      obtain ⟨h1, h3⟩ := ih key.2
      refine ⟨by simp [h1], fun i a b p q => ?_⟩
      cases i with
      | zero => simp at p q; subst p; subst q; exact key.1
      | succ i =>
        have := h3 i a b (by simpa using p) (by simpa using q)
        rw [show k + (i + 1) = k + 1 + i by omega]
        exact this
theorem St3.st2 {ex : Nat → Option Ty} {n c k : Nat} {e h x : AV} (s : St3 ex n c k e h x) : St2 ex c k e h := by
  cases s with
  | own h1 h2 h3 h4 h5 h6 h7 h8 => exact .own h1 h3 h4 h6 (by omega)
  | non h1 h2 h3 => exact .non h1 h2
theorem SR_b {vs : List PyData} {m b b' : Nat} {R : Sto} {j : AV} {w : Option W} (h : isOwn j = false) (q : SR X vs m R b j w) : SR X vs m R b' j w := by
  cases j with
  | own _ _ _ _ => cases h
  | _ => exact q
theorem Lk.b {vs : List PyData} {m b b' : Nat} {R : Sto} {a j : AV} {w : Option W} (h : isOwn j = false) (q : Lk X vs m R b a j w) : Lk X vs m R b' a j w := ⟨SR_b h q.sr, q.ow, q.rf⟩
/-- from ahead of a loop to the head of its turns -/
theorem enter {vs : List PyData} {m : Nat} {β : Nat → Nat} {es hs : AT} {τ : Tau} {R : Sto} (e : Env X vs m β es τ R) (hl : hs.length = es.length) (h : ∀ (i : Nat) e h, es[i]? = some e → hs[i]? = some h → St2 X.ex vs.length (vs.length + i) e h) :
    Env X (vs ++ τ.map valOf) m (lenAt X τ R) hs τ R := by
  refine e.lk hl fun i a j w ha hj hw => ?_
  have q := e.sl i a w ha hw
  cases h i a j ha hj with
  | own h1 h2 h3 h4 h5 =>
    obtain ⟨k, ds, rfl, q1, q2, q3, q4, q5⟩ := q
    have el := lenAt_eq hw q2
    have := q5.le
    exact ⟨⟨k, ds, rfl, q1, q2, fun d hd => (In_mono (List.prefix_append _ _) _).1 _ ((sub_ok FU).1 _ _ h1 _ (q3 d hd)), by omega, by rw [el]; exact ⟨by omega, by omega⟩⟩, fun _ => rfl, fun _ => .inl rfl⟩
  | non h1 h2 => exact (leA_ok h2 rfl (List.prefix_refl _) (List.prefix_append _ (τ.map valOf)) (e.wd ha) (fun d hd => val_at (by rw [hw, hd])) q).b h1
/-- from the end of a turn to the head of the next one -/
theorem turn {vs vs1 : List PyData} {m n : Nat} {β0 β : Nat → Nat} {es hs xs : AT} {τ0 τ : Tau} {R0 R : Sto} (e0 : Env X vs m β0 es τ0 R0) (p : vs <+: vs1) (e : Env X vs1 m β xs τ R)
    (h1 : hs.length = es.length) (h2 : xs.length = es.length) (h : ∀ (i : Nat) e h x, es[i]? = some e → hs[i]? = some h → xs[i]? = some x → St3 X.ex n vs.length (vs.length + i) e h x)
    (hb : ∀ (i : Nat) te lo0 oe he t lo g u lo' h', es[i]? = some (.own te lo0 oe he) → hs[i]? = some (.own t lo (some g) 0) → xs[i]? = some (.own u lo' (some g) h') → β i + h' ≤ g) :
    Env X (vs ++ τ.map valOf) m (lenAt X τ R) hs τ R ∧ ∀ (i : Nat) te lo0 oe he t lo g u lo' h', es[i]? = some (.own te lo0 oe he) → hs[i]? = some (.own t lo (some g) 0) → xs[i]? = some (.own u lo' (some g) h') → lenAt X τ R i ≤ β i + h' := by
  have key : ∀ (i : Nat) u lo' g h', xs[i]? = some (.own u lo' (some g) h') → ∃ (k : Nat) (ds : List PyData), τ[i]? = some (some (.r (X.bl + k))) ∧ m ≤ k ∧ R[k]? = some (.l (ds.map W.p)) ∧ (∀ d ∈ ds, X.In vs1 u d) ∧ lo' ≤ ds.length ∧ ds.length ≤ β i + h' ∧ lenAt X τ R i = ds.length := by
    intro i u lo' g h' hx
    have hi := (List.getElem?_eq_some_iff.mp hx).1
    rw [e.len] at hi
    have hw := List.getElem?_eq_getElem hi
    obtain ⟨k, ds, e1, q1, q2, q3, q4, q5⟩ := e.sl i _ _ hx hw
    rw [e1] at hw
    exact ⟨k, ds, hw, q1, q2, q3, q4, q5.1, lenAt_eq hw q2⟩
  refine ⟨e.lk (by rw [h1, h2]) fun i x j w hx hj hw => ?_, fun i te lo0 oe he t lo g u lo' h' g1 g2 g3 => ?_⟩
  · have hi := (List.getElem?_eq_some_iff.mp hx).1
    rw [h2] at hi
    have he := List.getElem?_eq_getElem hi
    have st := h i _ j x he hj hx
    revert st
    generalize es[i] = y at he
    intro st
    cases st with
    | own s1 s2 s3 s4 s5 s6 s7 s8 =>
      obtain ⟨k, ds, e1, q1, q2, q3, q4, q5, q6⟩ := key i _ _ _ _ hx
      rw [e1] at hw
      cases hw
      have := hb i _ _ _ _ _ _ _ _ _ _ he hj hx
      exact ⟨⟨k, ds, rfl, q1, q2, fun d hd => (In_mono (List.prefix_append _ _) _).1 _ ((sub_ok FU).1 _ _ s2 _ ((In_bel p _ s5).1 _ (q3 d hd))), by omega, by rw [q6]; exact ⟨by omega, by omega⟩⟩, fun _ => rfl, fun _ => .inl rfl⟩
    | non s1 s2 s3 => exact (leA_ok s3 rfl p (List.prefix_append _ (τ.map valOf)) (e0.wd he) (fun d hd => val_at (by rw [hw, hd])) (e.sl i x w hx hw)).b s1
  · obtain ⟨k, ds, e1, q1, q2, q3, q4, q5, q6⟩ := key i _ _ _ _ g3
    omega
theorem postL_ok {n : Nat} : ∀ {es hs xs : AT}, hs.length = es.length → xs.length = es.length → (postL n es hs xs).length = es.length ∧ ∀ (i : Nat) e h x, es[i]? = some e → hs[i]? = some h → xs[i]? = some x → (postL n es hs xs)[i]? = some (postE n e h x)
  | [], [], [], _, _ => ⟨rfl, fun i e h x p => by simp at p⟩
  | e :: es, hd :: hs, x :: xs, h1, h2 => by
    obtain ⟨g1, g2⟩ := postL_ok (n := n) (es := es) (hs := hs) (xs := xs) (by simpa using h1) (by simpa using h2)
    refine ⟨by simp [postL, g1], fun i a b d p q r => ?_⟩
    cases i with
    | zero => simp at p q r; subst p; subst q; subst r; rfl
    | succ i => exact g2 i a b d (by simpa using p) (by simpa using q) (by simpa using r)
  | [], _ :: _, _, h, _ => by simp at h
  | [], [], _ :: _, _, h => by simp at h
  | _ :: _, [], _, h, _ => by simp at h
  | _ :: _, _ :: _, [], _, h => by simp at h
theorem postL0_ok : ∀ {es hs : AT}, hs.length = es.length → (postL0 es hs).length = es.length ∧ ∀ (i : Nat) e h, es[i]? = some e → hs[i]? = some h → (postL0 es hs)[i]? = some (postE0 e h)
  | [], [], _ => ⟨rfl, fun i e h p => by simp at p⟩
  | e :: es, hd :: hs, h1 => by
    obtain ⟨g1, g2⟩ := postL0_ok (es := es) (hs := hs) (by simpa using h1)
    refine ⟨by simp [postL0, g1], fun i a b p q => ?_⟩
    cases i with
    | zero => simp at p q; subst p; subst q; rfl
    | succ i => exact g2 i a b (by simpa using p) (by simpa using q)
  | [], _ :: _, h => by simp at h
  | _ :: _, [], h => by simp at h
theorem OwnB.mono {o : Option Nat} {h h' b n n' : Nat} (q : OwnB o h b n) (h1 : n' + h ≤ n + h') : OwnB o h' b n' := by
  cases o with
  | none => simp only [OwnB] at q ⊢; omega
  | some g => simp only [OwnB] at q ⊢; omega
/-- a loop -/
theorem loop_ok {n c : Nat} {at' : AT} {body : AT → Option Rs} {f : Row → Tau → Sto → RS} {rows : List Row} {R0 : Sto} {ve vs : List PyData} {β : Nat → Nat} (hc : vs.length = c) (hv : ve <+: vs) (hrow : rows.length ≤ n)
    (hf : ∀ {hd : AT} {r : Rs} {row : Row} {vs1 : List PyData} {β1 : Nat → Nat} {τ : Tau} {B R : Sto}, body hd = some r → row ∈ rows → hd.length = at'.length → vs <+: vs1 → vs1.length = c + at'.length → Env X vs1 R0.length β1 hd τ R → Fr R0 R → X.Bp B → So (f row τ (B ++ R)) (SP X R0 ve vs1 β1 r)) :
    ∀ (fu : Nat) {hd : AT} {res : Rs} {τ : Tau} {B R : Sto}, loopA X.ex n c at' body fu hd = some res → Env X vs R0.length β at' τ R → Fr R0 R → X.Bp B → So (forLoop f rows τ (B ++ R)) (SP X R0 ve vs β res)
  | 0, _, _, _, _, _, h, _, _, _ => by cases h
  | fu + 1, hd, res, τ0, B0, Rr, h, env, fr, hB => by
    subst hc
    simp only [loopA] at h
    split at h
    · cases h
    rename_i r hr
    have fin' : ∀ {τ : Tau} {js : AT} {vsn : List PyData} {β1 : Nat → Nat} {B R : Sto} {t : Option Ty}, X.Bp B → Fr R0 R → Env X vsn R0.length β js τ R → vs <+: vsn → vsn.length = vs.length + at'.length → (SP X R0 ve vs β ⟨some (js, vs.length + at'.length), t⟩).nx τ (B ++ R) := fun {τ js vsn β1 B R t} b1 f1 e1 p1 l1 => ⟨js, _, rfl, B, R, vsn, b1, rfl, f1, p1, l1, e1⟩
    split at h
    · rename_i hn
      split at h
      · rename_i hs
        cases h
        obtain ⟨h1, h3⟩ := steady0_ok hs
        have en := enter env h1 h3
        cases hrows : rows with
        | nil =>
          refine fin' (β1 := β) hB fr (vsn := vs ++ τ0.map valOf) ?_ (List.prefix_append _ _) (by simp [env.len])
          obtain ⟨l1, l2⟩ := postL0_ok h1
          refine en.lk (by rw [l1, h1]) fun i a j w ha hj hw => ?_
          have hi := (List.getElem?_eq_some_iff.mp ha).1
          rw [h1] at hi
          have he := List.getElem?_eq_getElem hi
          rw [l2 i _ a he ha] at hj
          have s := en.sl i a w ha hw
          have s0 := env.sl i _ w he hw
          have st := h3 i _ a he ha
          revert st s0 hj
          generalize at'[i] = y
          intro hj s0 st
          cases st with
          | own g1 g2 g3 g4 g5 =>
            cases hj
            obtain ⟨k, ds, rfl, q1, q2, q3, q4, q5⟩ := s
            obtain ⟨k', ds', e1, z1, z2, z3, z4, z5⟩ := s0
            have : k' = k := by simp at e1; omega
            subst this
            rw [q2] at z2
            have : ds'.length = ds.length := by
              have := congrArg (fun o => match o with | some (Ob.l l) => l.length | none => 0) z2
              simpa using this.symm
            exact ⟨⟨k', ds, rfl, q1, q2, q3, q4, by rw [← this]; exact z5⟩, fun _ => rfl, fun _ => .inl rfl⟩
          | non g1 g2 =>
            have : j = a := by
              cases a with
              | own _ _ _ _ => cases g1
              | _ => cases y <;> cases hj <;> rfl
            subst this
            exact ⟨SR_b g1 s, fun z => z, fun z => .inl z⟩
        | cons row rest =>
          have hb := hf (row := row) hr (by rw [hrows]; exact List.mem_cons_self ..) h1 (List.prefix_append _ _) (by simp [env.len]) en fr hB
          unfold forLoop
          revert hb
          generalize f row τ0 (B0 ++ Rr) = x
          intro hb
          cases x with
          | nx τ S => obtain ⟨a, c, e, _⟩ := hb; rw [hn] at e; cases e
          | ret w S => obtain ⟨t, e, B, R, d, q⟩ := hb; exact ⟨t, e, B, R, d, q⟩
          | bk τ S => exact hb.elim
          | ct τ S => exact hb.elim
          | exc x τ S => exact hb.elim
          | bad => exact hb.elim
      · cases h
    · rename_i x c' hn
      split at h
      · rename_i hs
        cases h
        obtain ⟨h1, h2, h3⟩ := steady_ok hs
        have en := enter env h1 (fun i e h p q => by
          have hi := (List.getElem?_eq_some_iff.mp p).1
          rw [← h2] at hi
          exact (h3 i e h _ p q (List.getElem?_eq_getElem hi)).st2)
        refine So_for (fun pre τ S => ∃ B R, X.Bp B ∧ S = B ++ R ∧ Fr R0 R ∧ τ.length = at'.length ∧ Env X (vs ++ τ.map valOf) R0.length (lenAt X τ R) hd τ R ∧ ∀ (i : Nat) te lo0 oe he t lo g u lo' h', at'[i]? = some (.own te lo0 oe he) → hd[i]? = some (.own t lo (some g) 0) → x[i]? = some (.own u lo' (some g) h') → OwnB oe (he + pre.length * h') (β i) (lenAt X τ R i) ∧ oe.getD 0 + he + n * h' ≤ g) ⟨B0, Rr, hB, rfl, fr, env.len.symm, en, ?_⟩ ?_ ?_
        · intro i te lo0 oe he t lo g u lo' h' g1 g2 g3
          have hi := (List.getElem?_eq_some_iff.mp g1).1
          rw [env.len] at hi
          have hw := List.getElem?_eq_getElem hi
          obtain ⟨k, ds, e1, q1, q2, q3, q4, q5⟩ := env.sl i _ _ g1 hw
          rw [e1] at hw
          rw [lenAt_eq hw q2]
          refine ⟨by simpa using q5, ?_⟩
          cases h3 i _ _ _ g1 g2 g3 with
          | own _ _ _ _ _ _ _ z => exact z
          | non z => cases z
        · rintro pre row post τ S er ⟨B, R, b1, rfl, f1, tl, e1, inv⟩
          have hm : row ∈ rows := by rw [er]; simp
          have hlen : pre.length + 1 ≤ n := by
            have := congrArg List.length er
            simp at this
            omega
          refine So_mono (hf hr hm h1 (List.prefix_append _ _) (by simp [tl]) e1 f1 b1) (fun τ' S' g => ?_) (fun w S' g => ?_) (fun _ _ z => z.elim) (fun _ _ z => z.elim) fun _ _ _ z => z.elim
          · obtain ⟨a, c1, ea, B', R', vs', b2, rfl, f2, p2, l2, e2⟩ := g
            rw [hn] at ea
            cases ea
            have hbnd : ∀ (i : Nat) te lo0 oe he t lo g u lo' h', at'[i]? = some (.own te lo0 oe he) → hd[i]? = some (.own t lo (some g) 0) → x[i]? = some (.own u lo' (some g) h') → lenAt X τ R i + h' ≤ g := by
              intro i te lo0 oe he t lo g u lo' h' g1 g2 g3
              obtain ⟨z1, z2⟩ := inv i _ _ _ _ _ _ _ _ _ _ g1 g2 g3
              have := z1.le
              have m1 : (pre.length + 1) * h' ≤ n * h' := Nat.mul_le_mul_right _ hlen
              rw [Nat.succ_mul] at m1
              omega
            obtain ⟨t1, t2⟩ := turn (n := n) env ((List.prefix_append _ _).trans p2) e2 h1 h2 h3 hbnd
            refine ⟨B', R', b2, rfl, f2, by rw [← e2.len, h2], t1, fun i te lo0 oe he t lo g u lo' h' g1 g2 g3 => ?_⟩
            obtain ⟨z1, z2⟩ := inv i _ _ _ _ _ _ _ _ _ _ g1 g2 g3
            have z3 := t2 i _ _ _ _ _ _ _ _ _ _ g1 g2 g3
            refine ⟨z1.mono ?_, z2⟩
            simp only [List.length_append, List.length_singleton, Nat.succ_mul]
            omega
          · obtain ⟨t, e, B, R, d, q⟩ := g
            exact ⟨t, e, B, R, d, q⟩
        · rintro τ S ⟨B, R, b1, rfl, f1, tl, e1, inv⟩
          refine fin' (β1 := β) b1 f1 (vsn := vs ++ τ.map valOf) ?_ (List.prefix_append _ _) (by simp [tl])
          obtain ⟨l1, l2⟩ := postL_ok (n := n) h1 h2
          refine e1.lk (by rw [l1, h1]) fun i a j w ha hj hw => ?_
          have hi := (List.getElem?_eq_some_iff.mp ha).1
          rw [h1] at hi
          obtain ⟨y, he⟩ : ∃ y, at'[i]? = some y := ⟨_, List.getElem?_eq_getElem hi⟩
          rw [← h2] at hi
          obtain ⟨z, hx⟩ : ∃ z, x[i]? = some z := ⟨_, List.getElem?_eq_getElem hi⟩
          rw [l2 i _ a _ he ha hx] at hj
          have s := e1.sl i a w ha hw
          have st := h3 i _ a _ he ha hx
          cases st with
          | own g1 g2 g3 g4 g5 g6 g7 g8 =>
            cases hj
            obtain ⟨z1, z2⟩ := inv i _ _ _ _ _ _ _ _ _ _ he ha hx
            obtain ⟨k, ds, rfl, q1, q2, q3, q4, q5⟩ := s
            rw [lenAt_eq hw q2] at z1
            refine ⟨⟨k, ds, rfl, q1, q2, q3, q4, z1.mono ?_⟩, fun _ => rfl, fun _ => .inl rfl⟩
            rename_i h'
            have := Nat.mul_le_mul_right h' hrow
            omega
          | non g1 g2 =>
            have : j = a := by
              cases a with
              | own _ _ _ _ => cases g1
              | _ => cases y <;> cases z <;> cases hj <;> rfl
            subst this
            exact ⟨SR_b g1 s, fun z => z, fun z => .inl z⟩
      · exact loop_ok rfl hv hrow hf fu h env fr hB
end
end Pv
end

section
set_option maxRecDepth 10000
set_option maxHeartbeats 4000000
namespace Pv
open PySem PySem.Spec L2
open PyProof.Rows hiding St

section
variable {X : Cx2} {ac : Nat → List AV → Nat → Option (AV × Nat)} {call : Nat → List W → Sto → Pv.R W}
theorem Env.get {vs : List PyData} {m : Nat} {β : Nat → Nat} {at' : AT} {τ : Tau} {R : Sto} (e : Env X vs m β at' τ R) {i : Nat} {a : AV} (h : at'[i]? = some a) : ∃ w, τ[i]? = some w ∧ SR X vs m R (β i) a w := by
  have hi := (List.getElem?_eq_some_iff.mp h).1
  rw [e.len] at hi
  exact ⟨_, List.getElem?_eq_getElem hi, e.sl i a _ h (List.getElem?_eq_getElem hi)⟩
theorem getBR {B R : Sto} {j : Nat} (hB : X.Bp B) : (B ++ R)[X.bl + j]? = R[j]? := by
  rw [List.getElem?_append_right (by rw [(X.BpO B hB).1]; omega), (X.BpO B hB).1, Nat.add_sub_cancel_left]
theorem setBR {B R : Sto} {j : Nat} {o : Ob} (hB : X.Bp B) : (B ++ R).set (X.bl + j) o = B ++ R.set j o := by
  rw [List.set_append_right _ _ (by rw [(X.BpO B hB).1]; omega), (X.BpO B hB).1, Nat.add_sub_cancel_left]
theorem nxOf {R0 : Sto} {ve vs vs' : List PyData} {β : Nat → Nat} {at' : AT} {c : Nat} {t : Option Ty} {τ : Tau} {B R : Sto} (hB : X.Bp B) (fr : Fr R0 R) (p : vs <+: vs') (l : vs'.length = c) (e : Env X vs' R0.length β at' τ R) : So (.nx τ (B ++ R)) (SP X R0 ve vs β ⟨some (at', c), t⟩) :=
  ⟨at', c, rfl, B, R, vs', hB, rfl, fr, p, l, e⟩
theorem app_env {vs : List PyData} {m : Nat} {β : Nat → Nat} {at' at2 : AT} {τ : Tau} {R : Sto} {i : Nat} {u : Ty} {n0 n : Nat} (h : aApp at' i u n0 n = some at2) (e : Env X vs m β at' τ R) {es : List PyData} (he : ∀ d ∈ es, X.In vs u d) (h0 : n0 ≤ es.length) (h1 : es.length ≤ n) :
    ∃ j ds, τ[i]? = some (some (.r (X.bl + j))) ∧ m ≤ j ∧ R[j]? = some (.l (ds.map W.p)) ∧ ds.length + n ≤ lim ∧ Env X vs m β at2 τ (R.set j (.l ((ds ++ es).map W.p))) := by
  unfold aApp at h
  split at h
  · rename_i t lo o k ha
    split at h
    · rename_i hl
      cases h
      obtain ⟨j, ds, e1, e2, e3, e4, e5⟩ := e.app ha he h0 h1
      exact ⟨j, ds, e1, e2, e3, by omega, e5⟩
    · cases h
  · cases h
theorem meet_l {c : Nat} {at' a : AT} {c' : Nat} {b n : Option (AT × Nat)} (h : meet X.ex c at' (some (a, c')) b = some n) : n = some (a, c') ∨ ∃ j, lesA X.ex c c at' a j = true ∧ n = some (j, c + at'.length) := by
  cases b with
  | none => simp only [meet] at h; cases h; exact .inl rfl
  | some p =>
    obtain ⟨y, c2⟩ := p
    simp only [meet] at h
    split at h
    · rename_i hl
      simp only [Bool.and_eq_true] at hl
      cases h
      exact .inr ⟨_, hl.1, rfl⟩
    · cases h
theorem meet_r {c : Nat} {at' a : AT} {c' : Nat} {b n : Option (AT × Nat)} (h : meet X.ex c at' b (some (a, c')) = some n) : n = some (a, c') ∨ ∃ j, lesA X.ex c c at' a j = true ∧ n = some (j, c + at'.length) := by
  cases b with
  | none => simp only [meet] at h; cases h; exact .inl rfl
  | some p =>
    obtain ⟨y, c2⟩ := p
    simp only [meet] at h
    split at h
    · rename_i hl
      simp only [Bool.and_eq_true] at hl
      cases h
      exact .inr ⟨_, hl.2, rfl⟩
    · cases h
section
variable (H : Hy X ac call)
include H
theorem oAsg {R0 : Sto} {ve : List PyData} {β : Nat → Nat} {t : Tg} {e : Ex} {at' : AT} {c : Nat} {res : Rs} (h : (match aE X.ex ac e at' c with
    | some (.p u s, c') => (aAsg X.ex t u s at').map fun x => (⟨some (x, c'), none⟩ : Rs)
    | _ => none) = some res) {vs : List PyData} {τ : Tau} {B R : Sto} (env : Env X vs R0.length β at' τ R) (hc : vs.length = c) (fr : Fr R0 R) (hB : X.Bp B) (hR : CloX X R0) :
    So (evS call (.asg t e) τ (B ++ R)) (SP X R0 ve vs β res) := by
  split at h
  · rename_i u s c1 e1
    rw [Option.map_eq_some_iff] at h
    obtain ⟨x, h, rfl⟩ := h
    simp only [evS]
    refine thenM (oE H e e1 env hc hB (fr.clo hR)) fun w S g => ?_
    obtain ⟨B1, vs1, b1, rfl, p1, l1, d, rfl, i1, s1⟩ := g
    obtain ⟨τ', e2, env2⟩ := (asg_ok t).1 (S := B1 ++ R) h (env.mono p1) i1 s1
    rw [e2]
    exact nxOf b1 fr p1 l1 env2
  · cases h
theorem oAsgM {R0 : Sto} {ve : List PyData} {β : Nat → Nat} {i : Nat} {e : Ex} {at' : AT} {c : Nat} {res : Rs} (h : (match aM X.ex ac e at' c with
    | some (a, c') => if okSet a && decide (i < at'.length) then some (⟨some (at'.set i a, c'), none⟩ : Rs) else none
    | none => none) = some res) {vs : List PyData} {τ : Tau} {B R : Sto} (env : Env X vs R0.length β at' τ R) (hc : vs.length = c) (fr : Fr R0 R) (hB : X.Bp B) (hR : CloX X R0) :
    So (evS call (.asg (.n i) e) τ (B ++ R)) (SP X R0 ve vs β res) := by
  split at h
  · rename_i a c1 e1
    split at h
    · rename_i ha
      cases h
      simp only [Bool.and_eq_true] at ha
      simp only [evS]
      refine thenM (aM_ok H e1 env hc hB (fr.clo hR)) fun w S g => ?_
      obtain ⟨B1, N, vs1, b1, rfl, d1, p1, l1, q⟩ := g
      simp only [asgT]
      have hm : R0.length ≤ R.length := by obtain ⟨J, rfl, _⟩ := fr; simp
      cases a with
      | own t lo o k =>
        obtain ⟨rfl, ds, rfl, rfl, q1, q2, q3⟩ := q
        refine nxOf b1 (fr.app d1) p1 l1 ((env.mono p1).setown i hm (by simp) (fun k b hb hr hk hn => ?_) q1 q2 q3)
        have := env.lt hb hr hn
        omega
      | top => cases ha.1
      | rd _ _ _ => cases ha.1
      | p t s => exact nxOf b1 (fr.app d1) p1 l1 (((env.mono p1).setx i (a := .p t s) q rfl).ext N)
      | spr => exact nxOf b1 (fr.app d1) p1 l1 (((env.mono p1).setx i (a := .spr) q rfl).ext N)
      | scr => exact nxOf b1 (fr.app d1) p1 l1 (((env.mono p1).setx i (a := .scr) q rfl).ext N)
    · cases h
  · cases h
theorem oExpr {R0 : Sto} {ve : List PyData} {β : Nat → Nat} {e : Ex} {at' : AT} {c : Nat} {res : Rs} (h : (match aE X.ex ac e at' c with
    | some (_, c') => some (⟨some (at', c'), none⟩ : Rs)
    | none => none) = some res) {vs : List PyData} {τ : Tau} {B R : Sto} (env : Env X vs R0.length β at' τ R) (hc : vs.length = c) (fr : Fr R0 R) (hB : X.Bp B) (hR : CloX X R0) :
    So (evS call (.expr e) τ (B ++ R)) (SP X R0 ve vs β res) := by
  split at h
  · rename_i a c1 e1
    cases h
    simp only [evS]
    refine thenM (oE H e e1 env hc hB (fr.clo hR)) fun w S g => ?_
    obtain ⟨B1, vs1, b1, rfl, p1, l1, _⟩ := g
    exact nxOf b1 fr p1 l1 (env.mono p1)
  · cases h
theorem oRet {R0 : Sto} {ve : List PyData} {β : Nat → Nat} {e : Ex} {at' : AT} {c : Nat} {res : Rs} (h : (match aM X.ex ac e at' c with
    | some (.p t _, _) => if belT ve.length t then some (⟨none, some t⟩ : Rs) else none
    | some (.own t lo none hi, _) => if belT ve.length t then some (⟨none, some (.seqN true t lo hi)⟩ : Rs) else none
    | _ => none) = some res) {vs : List PyData} {τ : Tau} {B R : Sto} (env : Env X vs R0.length β at' τ R) (hc : vs.length = c) (hv : ve <+: vs) (fr : Fr R0 R) (hB : X.Bp B) (hR : CloX X R0) :
    So (evS call (.ret e) τ (B ++ R)) (SP X R0 ve vs β res) := by
  simp only [evS]
  have hm : R0.length ≤ R.length := by obtain ⟨J, rfl, _⟩ := fr; simp
  split at h
  · rename_i t s c1 e1
    split at h
    · rename_i hb
      cases h
      refine thenM (aM_ok H e1 env hc hB (fr.clo hR)) fun w S g => ?_
      obtain ⟨B1, N, vs1, b1, rfl, d1, p1, l1, d, rfl, i1, s1⟩ := g
      exact ⟨t, rfl, B1, R ++ N, d, b1, rfl, fr.app d1, .inl rfl, (In_bel (hv.trans p1) _ hb).1 _ i1⟩
    · cases h
  · rename_i t lo hi c1 e1
    split at h
    · rename_i hb
      cases h
      refine thenM (aM_ok H e1 env hc hB (fr.clo hR)) fun w S g => ?_
      obtain ⟨B1, N, vs1, b1, rfl, d1, p1, l1, _, ds, rfl, rfl, q1, q2, q3⟩ := g
      exact ⟨_, rfl, B1, _, .list ds, b1, rfl, fr.app d1, .inr ⟨R.length, ds, hm, rfl, by simp, rfl⟩, ds, rfl, fun d hd => (In_bel (hv.trans p1) _ hb).1 _ (q1 d hd), q2, q3⟩
    · cases h
  · cases h
mutual
theorem oS : ∀ (x : Sx) {at' : AT} {c ce : Nat} {res : Rs}, aS X.ex ac x at' c ce = some res → ∀ {R0 : Sto} {ve vs : List PyData} {β : Nat → Nat} {τ : Tau} {B R : Sto}, Env X vs R0.length β at' τ R → vs.length = c → ve <+: vs → ve.length = ce → Fr R0 R → X.Bp B → CloX X R0 → So (evS call x τ (B ++ R)) (SP X R0 ve vs β res)
  | x, at', c, ce, res, h, R0, ve, vs, β, τ, B, R, env, hc, hv, hce, fr, hB, hR => by
    unfold aS at h
    split at h
    · -- a name for a name
      rename_i _ _ _ i j
      split at h
      · rename_i a ha
        split at h
        · rename_i hi
          obtain ⟨w, hw, q⟩ := env.get ha
          split at h
          · cases h
          · rename_i hn
            cases h
            have hx : ∃ x, w = some x := by
              cases a with
              | own t lo o k => obtain ⟨j, ds, e, _⟩ := q; exact ⟨_, e⟩
              | top => exact absurd rfl hn
              | p t s => obtain ⟨x, e, _⟩ := q; exact ⟨_, e⟩
              | rd t lo hi => obtain ⟨x, e, _⟩ := q; exact ⟨_, e⟩
              | spr => obtain ⟨x, e, _⟩ := q; exact ⟨_, e⟩
              | scr => obtain ⟨x, e, _⟩ := q; exact ⟨_, e⟩
            obtain ⟨x, rfl⟩ := hx
            simp only [evS, evE, hw, thenS, asgT]
            exact nxOf hB fr (List.prefix_refl _) hc (env.alias ha hw fun z => hn z)
        · cases h
      · cases h
    · exact oAsgM H h env hc fr hB hR
    · exact oAsg H h env hc fr hB hR
    · rename_i _ _ _ is es
      split at h
      · rename_i avs c1 e1
        rw [Option.map_eq_some_iff] at h
        obtain ⟨x, h, rfl⟩ := h
        simp only [evS]
        refine thenM (aMs_ok H es e1 env hc hB (fr.clo hR)) fun ws S g => ?_
        obtain ⟨B1, N, vs1, b1, rfl, d1, p1, l1, q, nd⟩ := g
        have hm : R0.length ≤ R.length := by obtain ⟨J, rfl, _⟩ := fr; simp
        obtain ⟨τ', e2, env2⟩ := setAll_ok hm h ((env.mono p1).ext N) q nd (fun k a w l b h1 h2 h3 h4 h5 h6 => by
          have z := pairedG q k a w h1 h2
          cases a with
          | own t lo o h0 =>
            obtain ⟨_, j, ds, z1, z2, rfl, _⟩ := z
            have := env.lt h4 h5 h6
            omega
          | _ => cases h3)
        rw [e2]
        exact nxOf b1 (fr.app d1) p1 l1 env2
      · cases h
    · rename_i _ _ _ i o e
      split at h
      · rename_i t s u y c1 ha e1
        obtain ⟨w, hw, x, rfl, d, rfl, i0, s0⟩ := env.get ha
        have main : ∀ (k : Int → Int → Int) (lo hi : Int) (B1 : Sto) (vs1 : List PyData) (a b : Int), X.Bp B1 → vs <+: vs1 → vs1.length = c1 → lo ≤ k a b → k a b ≤ hi → So (.nx (τ.set i (some (.p (.int (k a b))))) (B1 ++ R)) (SP X R0 ve vs β ⟨some (at'.set i (.p (.int lo hi) (.v c1)), c1 + 1), none⟩) := by
          intro k lo hi B1 vs1 a b b1 p1 l1 h1 h2
          subst l1
          refine nxOf b1 fr (p1.trans (List.prefix_append _ [PyData.int (k a b)])) (by simp) ((env.mono (p1.trans (List.prefix_append _ _))).setp i ⟨_, rfl, ⟨_, rfl, h1, h2⟩, ?_⟩)
          simp [den]
        simp only [evS, hw]
        split at h
        · split at h
          · rename_i a b x y e2 e3
            cases h
            refine thenM (oE H e e1 env hc hB (fr.clo hR)) fun w S g => ?_
            obtain ⟨B1, vs1, b1, rfl, p1, l1, d2, rfl, i2, s2⟩ := g
            obtain ⟨n1, rfl, g1, g2⟩ := asInt_ok e2 i0
            obtain ⟨n2, rfl, g3, g4⟩ := asInt_ok e3 i2
            exact main (fun a b => a + b) _ _ B1 vs1 n1 n2 b1 p1 l1 (by omega) (by omega)
          · cases h
        · split at h
          · rename_i a b x y e2 e3
            cases h
            refine thenM (oE H e e1 env hc hB (fr.clo hR)) fun w S g => ?_
            obtain ⟨B1, vs1, b1, rfl, p1, l1, d2, rfl, i2, s2⟩ := g
            obtain ⟨n1, rfl, g1, g2⟩ := asInt_ok e2 i0
            obtain ⟨n2, rfl, g3, g4⟩ := asInt_ok e3 i2
            exact main (fun a b => a - b) _ _ B1 vs1 n1 n2 b1 p1 l1 (by omega) (by omega)
          · cases h
        · cases h
      · cases h
    · rename_i _ _ _ i e
      split at h
      · rename_i t s c1 e1
        rw [Option.map_eq_some_iff] at h
        obtain ⟨at2, h, rfl⟩ := h
        have hi : ∃ t lo o k, at'[i]? = some (.own t lo o k) := by
          unfold aApp at h
          split at h
          · rename_i e; exact ⟨_, _, _, _, e⟩
          · cases h
        obtain ⟨t0, lo0, o0, k0, hi⟩ := hi
        obtain ⟨w, hw, j0, ds0, rfl, _, hj0, _⟩ := env.get hi
        simp only [evS, evE, evEs, hw]
        refine thenM (Q := fun _ S => ∃ B1 R1 vs1, X.Bp B1 ∧ S = B1 ++ R1 ∧ Fr R0 R1 ∧ vs <+: vs1 ∧ vs1.length = c1 ∧ Env X vs1 R0.length β at2 τ R1) ?_ fun w S g => ?_
        · show Ok (if meOk MI.append (B ++ R) (.r (X.bl + j0)) = true then _ else _) _ _
          rw [if_pos (by simp only [meOk]; rw [getBR hB, hj0]; rfl)]
          rw [Ok_bind, Ok_bind]
          refine Post_mono (oE H e e1 env hc hB (fr.clo hR)) fun w S g => ?_
          obtain ⟨B1, vs1, b1, rfl, p1, l1, d2, rfl, i2, s2⟩ := g
          obtain ⟨j, ds, g1, g2, g3, g4, g5⟩ := app_env h (env.mono p1) (es := [d2]) (fun d hd => by rw [List.mem_singleton] at hd; rw [hd]; exact i2) (Nat.le_refl _) (Nat.le_refl _)
          rw [hw] at g1
          have : j0 = j := by simp at g1; omega
          subst this
          simp only [Ok_bind, Ok_ok, meF, fAppend, getBR b1, g3]
          rw [if_pos (by simp; omega), Ok_some, setBR b1]
          have em : ds.map W.p ++ [W.p d2] = (ds ++ [d2]).map W.p := by simp
          rw [em]
          exact ⟨B1, _, vs1, b1, rfl, fr.set g2 _, p1, l1, g5⟩
        · obtain ⟨B1, R1, vs1, b1, rfl, f1, p1, l1, e2⟩ := g
          exact nxOf b1 f1 p1 l1 e2
      · cases h
    · rename_i _ _ _ i e
      split at h
      · rename_i t s c1 e1
        split at h
        · rename_i el lo hi es
          rw [Option.map_eq_some_iff] at h
          obtain ⟨at2, h, rfl⟩ := h
          have hi : ∃ t lo o k, at'[i]? = some (.own t lo o k) := by
            unfold aApp at h
            split at h
            · rename_i e; exact ⟨_, _, _, _, e⟩
            · cases h
          obtain ⟨t0, lo0, o0, k0, hi⟩ := hi
          obtain ⟨w, hw, j0, ds0, rfl, _, hj0, _⟩ := env.get hi
          simp only [evS, evE, evEs, hw]
          refine thenM (Q := fun _ S => ∃ B1 R1 vs1, X.Bp B1 ∧ S = B1 ++ R1 ∧ Fr R0 R1 ∧ vs <+: vs1 ∧ vs1.length = c1 ∧ Env X vs1 R0.length β at2 τ R1) ?_ fun w S g => ?_
          · show Ok (if meOk MI.extend (B ++ R) (.r (X.bl + j0)) = true then _ else _) _ _
            rw [if_pos (by simp only [meOk]; rw [getBR hB, hj0]; rfl)]
            rw [Ok_bind, Ok_bind]
            refine Post_mono (oE H e e1 env hc hB (fr.clo hR)) fun w S g => ?_
            obtain ⟨B1, vs1, b1, rfl, p1, l1, d2, rfl, i2, s2⟩ := g
            obtain ⟨xs, rfl, x1, x2, x3⟩ := asSeq_ok es i2
            obtain ⟨j, ds, g1, g2, g3, g4, g5⟩ := app_env h (env.mono p1) (es := xs) x1 x2 x3
            rw [hw] at g1
            have : j0 = j := by simp at g1; omega
            subst this
            simp only [Ok_bind, Ok_ok, meF, fExtend, sq, if_true, getBR b1, g3]
            rw [if_pos (by simp; omega), Ok_some, setBR b1]
            have em : ds.map W.p ++ xs.map W.p = (ds ++ xs).map W.p := by simp
            rw [em]
            exact ⟨B1, _, vs1, b1, rfl, fr.set g2 _, p1, l1, g5⟩
          · obtain ⟨B1, R1, vs1, b1, rfl, f1, p1, l1, e2⟩ := g
            exact nxOf b1 f1 p1 l1 e2
        · cases h
      · cases h
    · exact oExpr H h env hc fr hB hR
    · rename_i _ _ _ j
      split at h
      · rename_i t lo o k ha
        split at h
        · rename_i hb
          cases h
          subst hce
          obtain ⟨w, hw, j0, ds, rfl, q1, q2, q3, q4, q5⟩ := env.get ha
          simp only [evS, evE, hw, thenS]
          exact ⟨_, rfl, B, R, .list ds, hB, rfl, fr, .inr ⟨j0, ds, q1, rfl, q2, rfl⟩, ds, rfl, fun d hd => (In_bel hv _ hb).1 _ (q3 d hd), q4, q5.le⟩
        · cases h
      · rename_i t s ha
        split at h
        · rename_i hb
          cases h
          subst hce
          obtain ⟨w, hw, x, rfl, d, rfl, i0, s0⟩ := env.get ha
          simp only [evS, evE, hw, thenS]
          exact ⟨_, rfl, B, R, d, hB, rfl, fr, .inl rfl, (In_bel hv _ hb).1 _ i0⟩
        · cases h
      · cases h
    · subst hce
      exact oRet H h env hc hv fr hB hR
    · cases h
      simp only [evS]
      exact ⟨_, rfl, B, R, .none, hB, rfl, fr, .inl rfl, List.mem_singleton.mpr rfl⟩
    · rename_i _ _ _ x a b
      simp only [evS]
      split at h
      · rename_i e1
        refine thenM (oT H x e1 env hc hB (fr.clo hR)) fun t S g => ?_
        obtain ⟨B1, b1, rfl, k⟩ := g
        rw [k true rfl, if_pos rfl]
        exact oSs a h env hc hv hce fr b1 hR
      · rename_i e1
        refine thenM (oT H x e1 env hc hB (fr.clo hR)) fun t S g => ?_
        obtain ⟨B1, b1, rfl, k⟩ := g
        rw [k false rfl, if_neg (by decide)]
        exact oSs b h env hc hv hce fr b1 hR
      · rename_i e1
        split at h
        · rename_i r q e2 e3
          rw [Option.map_eq_some_iff] at h
          obtain ⟨n, h, rfl⟩ := h
          refine thenM (oT H x e1 env hc hB (fr.clo hR)) fun t S g => ?_
          obtain ⟨B1, b1, rfl, _⟩ := g
          subst hc
          cases t with
          | true =>
            rw [if_pos rfl]
            refine So_mono (oSs a e2 env rfl hv hce fr b1 hR) (fun τ' S' g => ?_) (fun w S' g => ?_) (fun _ _ z => z) (fun _ _ z => z) fun _ _ _ z => z
            · obtain ⟨a', c', e, B2, R2, vs2, b2, rfl, f2, p2, l2, env2⟩ := g
              rw [e] at h
              rcases meet_l h with rfl | ⟨j, hl, rfl⟩
              · exact ⟨a', c', rfl, B2, R2, vs2, b2, rfl, f2, p2, l2, env2⟩
              · exact ⟨_, _, rfl, B2, R2, _, b2, rfl, f2, List.prefix_append _ _, by simp [env2.len.symm, (lesA_ok hl).1], env.meet p2 env2 hl⟩
            · obtain ⟨t, e, z⟩ := g
              obtain ⟨u, e2, hu⟩ := jR_l (b := q.rt) (ve := ve) (X := X) e
              obtain ⟨B2, R2, d, z1, z2, z3, z4, z5⟩ := z
              exact ⟨u, e2, B2, R2, d, z1, z2, z3, z4, hu d z5⟩
          | false =>
            rw [if_neg (by decide)]
            refine So_mono (oSs b e3 env rfl hv hce fr b1 hR) (fun τ' S' g => ?_) (fun w S' g => ?_) (fun _ _ z => z) (fun _ _ z => z) fun _ _ _ z => z
            · obtain ⟨a', c', e, B2, R2, vs2, b2, rfl, f2, p2, l2, env2⟩ := g
              rw [e] at h
              rcases meet_r h with rfl | ⟨j, hl, rfl⟩
              · exact ⟨a', c', rfl, B2, R2, vs2, b2, rfl, f2, p2, l2, env2⟩
              · exact ⟨_, _, rfl, B2, R2, _, b2, rfl, f2, List.prefix_append _ _, by simp [env2.len.symm, (lesA_ok hl).1], env.meet p2 env2 hl⟩
            · obtain ⟨t, e, z⟩ := g
              obtain ⟨u, e2, hu⟩ := jR_r (a := r.rt) (ve := ve) (X := X) e
              obtain ⟨B2, R2, d, z1, z2, z3, z4, z5⟩ := z
              exact ⟨u, e2, B2, R2, d, z1, z2, z3, z4, hu d z5⟩
        · cases h
      · cases h
    · rename_i _ _ _ t it b
      simp only [evS]
      split at h
      rotate_left
      · cases h
      rename_i ai c1 e1
      split at h
      rotate_left
      · cases h
      rename_i ts lo n e2
      refine thenM (oI H it e1 env hc hB (fr.clo hR)) fun rows S g => ?_
      obtain ⟨B1, vs1, b1, rfl, p1, l1, air⟩ := g
      obtain ⟨a1, a2, a3⟩ := unOf_ok e2 air
      refine SP_mono (loop_ok (vs := vs1) l1 (hv.trans p1) a3 ?_ 6 h (env.mono p1) fr b1) p1 (fun _ _ z => z) fun t z => ⟨t, z, fun _ q => q⟩
      intro hd r row vs2 β2 τ2 B2 R2 hb hrow hl pv lv env2 fr2 b2
      split at hb
      rotate_left
      · cases hb
      rename_i at2 e3
      obtain ⟨vs3, p3, l3, q3⟩ := frs_ok (X := X) (vs := vs2) (ts := ts) (r := row) (by
        have := a1 row hrow
        match ts, row, this with
        | [t], .one w, ⟨d, e, i⟩ => exact ⟨d, e, (In_mono pv t).1 _ i⟩
        | [t, u], .two w x, ⟨⟨d, e, i⟩, ⟨d2, e2, i2⟩⟩ => exact ⟨⟨d, e, (In_mono pv t).1 _ i⟩, ⟨d2, e2, (In_mono pv u).1 _ i2⟩⟩)
      rw [lv] at q3
      obtain ⟨τ3, e4, env3⟩ := asgR_ok (S := B2 ++ R2) e3 (env2.mono p3) q3
      rw [e4]
      exact SP_mono (oSs b hb env3 (by rw [l3, lv]) ((hv.trans p1).trans (pv.trans p3)) hce fr2 b2 hR) p3 (fun _ _ z => z) fun t z => ⟨t, z, fun _ q => q⟩
    · cases h
      simp only [evS]
      exact nxOf hB fr (List.prefix_refl _) hc env
    · cases h
theorem oSs : ∀ (x : Sx) {at' : AT} {c ce : Nat} {res : Rs}, aSs X.ex ac x at' c ce = some res → ∀ {R0 : Sto} {ve vs : List PyData} {β : Nat → Nat} {τ : Tau} {B R : Sto}, Env X vs R0.length β at' τ R → vs.length = c → ve <+: vs → ve.length = ce → Fr R0 R → X.Bp B → CloX X R0 → So (evSs call x τ (B ++ R)) (SP X R0 ve vs β res)
  | x, at', c, ce, res, h, R0, ve, vs, β, τ, B, R, env, hc, hv, hce, fr, hB, hR => by
    unfold aSs at h
    split at h
    · cases h
      rw [So_nl]
      exact nxOf hB fr (List.prefix_refl _) hc env
    · rename_i _ _ _ a r
      split at h
      rotate_left
      · cases h
      rename_i q e1
      rw [So_cs]
      have h1 := oS a e1 env hc hv hce fr hB hR
      split at h
      · rename_i hn
        cases h
        refine So_mono h1 (fun τ' S' g => ?_) (fun _ _ z => z) (fun _ _ z => z) (fun _ _ z => z) fun _ _ _ z => z
        obtain ⟨a', c', e, _⟩ := g
        rw [hn] at e
        cases e
      · rename_i at2 c2 hn
        split at h
        rotate_left
        · cases h
        rename_i zz e2
        cases h
        refine So_mono h1 (fun τ' S' g => ?_) (fun w S' g => ?_) (fun _ _ z => z) (fun _ _ z => z) fun _ _ _ z => z
        · obtain ⟨a', c', e, B2, R2, vs2, b2, rfl, f2, p2, l2, env2⟩ := g
          rw [hn] at e
          cases e
          exact SP_mono (oSs r e2 env2 l2 (hv.trans p2) hce f2 b2 hR) p2 (fun _ _ z => z) fun t z => jR_r z
        · obtain ⟨t, e, z⟩ := g
          obtain ⟨u, e2, hu⟩ := jR_l (b := zz.rt) (ve := ve) (X := X) e
          obtain ⟨B2, R2, d, z1, z2, z3, z4, z5⟩ := z
          exact ⟨u, e2, B2, R2, d, z1, z2, z3, z4, hu d z5⟩
    · cases h
end
end
end
end Pv
end

section
set_option maxRecDepth 10000
set_option maxHeartbeats 4000000
namespace Pv
open PySem PySem.Spec L2
open PyProof.Rows hiding St

/-! ## defs on kinds -/
section
variable {X : Cx2}
theorem sweepX {B R N : Sto} (hB : X.Bp B) (hR : CloX X R) {w : W} {d : PyData} {R' : Sto} (hf : Fr R R') (hw : w = .p d ∨ ∃ (n : Nat) (ds : List PyData), R.length ≤ n ∧ w = .r (X.bl + n) ∧ R'[n]? = some (.l (ds.map W.p)) ∧ d = .list ds) {B' : Sto} (hB' : X.Bp B') :
    sweep (B ++ R).length w (B' ++ R') = .ok (.p d) (B' ++ R) := by
  obtain ⟨J, rfl, hJ⟩ := hf
  have e1 : (B' ++ (R ++ J)).take (B ++ R).length = B' ++ R := by
    rw [lenBR hB, ← lenBR hB', ← List.append_assoc, List.take_left]
  unfold sweep
  rw [e1, if_pos]
  · have : frz (B ++ R).length (B' ++ (R ++ J)) w = some (.p d) := by
      rcases hw with rfl | ⟨n, ds, h1, rfl, h2, rfl⟩
      · rfl
      · unfold frz
        dsimp only
        rw [if_neg (by rw [lenBR hB]; omega), getBR hB', h2]
        dsimp only
        rw [deP_map]
        rfl
    rw [this]
  · refine List.all_eq_true.mpr fun o ho => ?_
    rw [lenBR hB]
    rcases List.mem_append.mp ho with q | q
    · exact obBelow_mono (by omega) ((X.BpO B' hB').2 o q)
    · exact hR o q
theorem Env.args {vs : List PyData} {R : Sto} {avs : List AV} {ws : List W} (q : Paired (VR X vs R) avs ws) (n m : Nat) (β : Nat → Nat) : Env X vs m β (avs ++ List.replicate n .top) (ws.map some ++ List.replicate n none) R := by
  have hl : avs.length = ws.length := by
    clear m
    induction q with
    | nil => rfl
    | cons a t ih => simp [ih]
  refine ⟨by simp [hl], fun i a w p r => ?_, fun i j a b k hne p r p1 r1 => ?_⟩
  · rcases Nat.lt_or_ge i avs.length with hi | hi
    · rw [List.getElem?_append_left hi] at p
      rw [List.getElem?_append_left (by simp; omega)] at r
      rw [List.getElem?_map, Option.map_eq_some_iff] at r
      obtain ⟨x, r, rfl⟩ := r
      have z := pairedG q i a x p r
      cases a with
      | top => exact z.elim
      | own _ _ _ _ => exact z.elim
      | p t s => exact ⟨x, rfl, z⟩
      | rd t lo hi => exact ⟨x, rfl, z⟩
      | spr => exact ⟨x, rfl, z⟩
      | scr => exact ⟨x, rfl, z⟩
    · rw [List.getElem?_append_right hi] at p
      rw [List.eq_of_mem_replicate (List.mem_of_getElem? p)]
      exact trivial
  · exfalso
    rcases Nat.lt_or_ge i avs.length with hi | hi
    · rw [List.getElem?_append_left hi] at p
      have z := pairedG q i a _ p (List.getElem?_eq_getElem (by omega))
      cases a with
      | own _ _ _ _ => exact z.elim
      | _ => cases p1
    · rw [List.getElem?_append_right hi] at p
      rw [List.eq_of_mem_replicate (List.mem_of_getElem? p)] at p1
      cases p1
theorem aF_ok {ac : Nat → List AV → Nat → Option (AV × Nat)} {T : List Fd} {k i : Nat} (H : Hy X ac (callN T k)) {fd : Fd} {avs : List AV} {c c' : Nat} {av : AV} {vs : List PyData} {B R : Sto} {ws : List W} (ht : T[i]? = some fd) (h : aF X.ex ac fd avs c = some (av, c')) (hc : vs.length = c) (hB : X.Bp B) (hR : CloX X R) (q : Paired (VR X vs R) avs ws) :
    Ok (callN T (k + 1) i ws (B ++ R)) (Got X R vs c' av) noX := by
  unfold aF at h
  split at h
  · rename_i hn
    split at h
    · rename_i r e1
      split at h
      · rename_i t e2
        obtain ⟨rfl, rfl⟩ := sfin h
        have hl : avs.length = ws.length := by
          clear h e1 e2
          have : ∀ {avs : List AV} {ws : List W}, Paired (VR X vs R) avs ws → avs.length = ws.length := fun q => by
            induction q with
            | nil => rfl
            | cons a t ih => simp [ih]
          exact this q
        refine Ok_call ht (by rw [← hl]; exact hn.1) ?_
        subst hc
        refine So_mono (oSs H _ e1 (R0 := R) (ve := vs) (vs := vs) (β := fun _ => 0) (Env.args q _ _ _) rfl (List.prefix_refl _) rfl ⟨[], by simp, fun o h => by cases h⟩ hB hR) (fun τ S g => ?_) (fun w S g => ?_) (fun _ _ z => z) (fun _ _ z => z) fun _ _ _ z => z
        · obtain ⟨a, c1, e, B1, R1, vs1, b1, rfl, f1, p1, l1, _⟩ := g
          show Ok (if fd.gc = true then _ else _) _ _
          rw [if_pos hn.2, sweepX (N := []) hB hR f1 (.inl rfl) b1, Ok_ok]
          refine fin_ok ?_ b1 rfl
          rw [e] at e2
          obtain ⟨u, e3, hu⟩ := jR_r (X := X) (ve := vs) (a := r.rt) (b := some (.one [.none])) rfl
          simp only [Option.map] at e2
          rw [e3] at e2
          cases e2
          exact hu _ (List.mem_singleton.mpr rfl)
        · obtain ⟨t', e, B1, R1, d, b1, rfl, f1, hw, hd⟩ := g
          show Ok (if fd.gc = true then _ else _) _ _
          rw [if_pos hn.2, sweepX (N := []) hB hR f1 hw b1, Ok_ok]
          refine fin_ok ?_ b1 rfl
          obtain ⟨u, e3, hu⟩ := jR_l (X := X) (ve := vs) (b := r.nx.map fun _ => .one [.none]) e
          rw [e3] at e2
          cases e2
          exact hu _ hd
      · cases h
    · cases h
  · cases h
/-- a told def does what is told, from some room on -/
def CtOk (X : Cx2) (T : List Fd) (i n : Nat) (ct : Ct) : Prop := ∀ k, n ≤ k → ∀ avs t so, ct avs = some (t, so) → ∀ (vs : List PyData) (B R : Sto) (ws : List W), X.Bp B → CloX X R → Paired (VR X vs R) avs ws →
  Ok (callN T k i ws (B ++ R)) (fun w S => ∃ B' d, X.Bp B' ∧ S = B' ++ R ∧ w = .p d ∧ X.In vs t d ∧ ∀ s, so = some s → den X.F vs s = some d) noX
theorem aC_ok {T : List Fd} {C : Nat → Option (Nat × Ct)} (hC : ∀ i n ct, C i = some (n, ct) → CtOk X T i n ct) : ∀ k, Hy X (aC X.ex T C k) (callN T k)
  | 0 => ⟨fun h => by cases h⟩
  | k + 1 => ⟨fun {i avs c c' av vs B R ws} h hc hB hR q => by
    simp only [aC] at h
    split at h
    · rename_i n ct e
      split at h
      · rename_i hn
        have := fun t so h => hC i n ct e (k + 1) hn avs t so h vs B R ws hB hR q
        unfold ctA at h
        split at h
        · rename_i t s e2
          cases h
          refine Post_mono (this t (some s) e2) fun w S g => ?_
          obtain ⟨B', d, b1, rfl, rfl, h1, h2⟩ := g
          exact ⟨B', vs, b1, rfl, List.prefix_refl _, hc, d, rfl, h1, h2 s rfl⟩
        · rename_i t e2
          obtain ⟨rfl, rfl⟩ := sfin h
          refine Post_mono (this t none e2) fun w S g => ?_
          obtain ⟨B', d, b1, rfl, rfl, h1, h2⟩ := g
          exact fin_ok h1 b1 hc
        · cases h
      · cases h
    · split at h
      · rename_i fd e
        exact aF_ok (aC_ok hC k) e h hc hB hR q
      · cases h⟩
/-- a def of no objects that calls the spring first -/
def isTrue : Option Ty → Bool
  | some (.one [.bool true]) => true
  | _ => false
def goodR : Option Rs → Bool
  | some r => r.nx.isNone && isTrue r.rt
  | none => false
theorem law_run {T : List Fd} {C : Nat → Option (Nat × Ct)} (hC : ∀ i n ct, C i = some (n, ct) → CtOk X T i n ct) {k i : Nat} {fd : Fd} {rest : Sx} {ns : List Int} {iS : Nat} (ht : T[i]? = some fd) (hp : fd.np = 1) (hg : fd.gc = true) (hb : fd.body = .cs (.asg (.n 1) (.call iS (.cs (.v 0) .nl))) rest) (hn : ∃ z, fd.nn = z + 2)
    (hs : ∃ B, X.Bp B ∧ callN T k iS [.s ns] [] = .ok X.sw B) (hl : ns.length ≤ 63)
    (h : goodR (aSs X.ex (aC X.ex T C k) rest (.scr :: .spr :: List.replicate (fd.nn - 2) .top) 0 0) = true) : ∃ S', callN T (k + 1) i [.s ns] [] = .ok (.p (.bool true)) S' := by
  unfold goodR at h
  split at h
  rotate_left
  · cases h
  rename_i r e1
  simp only [Bool.and_eq_true] at h
  have main : Ok (callN T (k + 1) i [.s ns] []) (fun w S => w = .p (.bool true)) noX := by
    refine Ok_call ht (by rw [hp]; rfl) ?_
    obtain ⟨B, hB, hs⟩ := hs
    obtain ⟨z, hz⟩ := hn
    rw [hb, So_cs]
    have et : [W.s ns].map some ++ List.replicate (fd.nn - fd.np) none = some (.s ns) :: none :: List.replicate z none := by
      rw [hp, hz]
      rfl
    rw [et]
    simp only [evS, evE, evEs, List.getElem?_cons_zero, R.bind, hs, thenS, asgT, List.set_cons_succ, List.set_cons_zero, So_nx]
    have hR : CloX X [] := fun o h => by cases h
    have env : Env X [] ([] : Sto).length (fun _ => 0) (.scr :: .spr :: List.replicate (fd.nn - 2) .top) (some (.s ns) :: some X.sw :: List.replicate z none) [] := by
      have q : Paired (VR X [] []) [.scr, .spr] [.s ns, X.sw] := .cons ⟨ns, rfl, hl⟩ (.cons rfl .nil)
      have := Env.args q z ([] : Sto).length (fun _ => 0)
      rw [hz]
      exact this
    have h1 := oSs (aC_ok hC k) _ e1 (R0 := []) (ve := []) (vs := []) (B := B) (R := []) env rfl (List.prefix_refl _) rfl ⟨[], rfl, fun o h => by cases h⟩ hB hR
    rw [List.append_nil] at h1
    refine So_mono h1 (fun τ S g => ?_) (fun w S g => ?_) (fun _ _ z => z) (fun _ _ z => z) fun _ _ _ z => z
    · obtain ⟨a, c1, e, _⟩ := g
      rw [e] at h
      cases h.1
    · obtain ⟨t, e, B1, R1, d, b1, rfl, f1, hw, hd⟩ := g
      have e2 := h.2
      rw [e] at e2
      unfold isTrue at e2
      split at e2
      · rename_i e3
        cases e3
        have := List.mem_singleton.mp hd
        subst this
        have hw' : w = .p (.bool true) := by
          rcases hw with hw | ⟨_, _, _, _, _, z⟩
          · exact hw
          · cases z
        subst hw'
        show Ok (if fd.gc = true then _ else _) _ _
        rw [if_pos hg]
        unfold sweep
        rw [if_pos (by simp)]
        rfl
      · cases e2
  cases e : callN T (k + 1) i [.s ns] [] with
  | ok w S => rw [e] at main; exact ⟨S, by rw [show w = _ from main]⟩
  | exc x S => rw [e] at main; exact main.elim
  | bad => rw [e] at main; exact main.elim
end
end Pv
end

section
set_option maxRecDepth 10000
set_option maxHeartbeats 4000000
namespace Pv
open PySem PySem.Spec L2
open PyProof.Rows hiding St

/-! ## what is told of the first laws' drawing -/
def X1 (Y : Cxt) : Cx2 where
  toCxt := Y
  bl := 2
  Bp B := ∃ s : Spg, B = Spr s []
  sw := .r 1
  BpO := by
    rintro B ⟨s, rfl⟩
    refine ⟨rfl, fun o ho => ?_⟩
    have := clo_spr (s := s) CloR.nil o ho
    exact this
  swO := by
    intro n h
    cases h
    decide
section
variable {Y : Cxt} {T : List Fd}
theorem cloR_of {R : Sto} (h : CloX (X1 Y) R) : CloR R := fun o ho => by
  have := h o ho
  rw [show (X1 Y).bl + R.length = R.length + 2 from Nat.add_comm _ _] at this
  exact this
theorem two_args {X : Cx2} {vs : List PyData} {R : Sto} {t : Ty} {s : Sym} {ws : List W} (q : Paired (VR X vs R) [.spr, .p t s] ws) : ∃ d, ws = [X.sw, .p d] ∧ X.In vs t d ∧ den X.F vs s = some d := by
  cases q with
  | cons a r =>
    cases r with
    | cons b r =>
      cases r
      obtain ⟨d, rfl, h1, h2⟩ := b
      exact ⟨d, by rw [show _ = X.sw from a], h1, h2⟩
def ctDrop (ex : Nat → Option Ty) : Ct := fun avs => match avs with
  | [.spr, .p t _] => match asInt ex t with
    | some (a, b) => if 1 ≤ a ∧ b < 2 ^ 64 then some (.int 0 (b - 1), none) else none
    | none => none
  | _ => none
theorem ctDrop_ok {iD : Nat} (hD : T[iD]? = some fx_law_drop) : CtOk (X1 Y) T iD 1 (ctDrop Y.ex) := by
  intro k hk avs t so h vs B R ws hB hR q
  obtain ⟨k, rfl⟩ : ∃ k', k = k' + 1 := ⟨k - 1, by omega⟩
  unfold ctDrop at h
  split at h
  · split at h
    · rename_i e
      split at h
      · rename_i hc
        cases h
        obtain ⟨d, rfl, h1, h2⟩ := two_args q
        obtain ⟨i, rfl, h3, h4⟩ := asInt_ok e h1
        obtain ⟨s, rfl⟩ := hB
        show Ok (callN T (k + 1) iD [.r 1, .p (.int i)] (Spr s R)) _ _
        refine drop_ok hD (by omega) (by omega) (cloR_of hR) fun z s' hz => ?_
        exact ⟨_, _, ⟨s', rfl⟩, rfl, rfl, ⟨_, rfl, by omega, by omega⟩, fun s z => by cases z⟩
      · cases h
    · cases h
  · cases h
def ctPick (ex : Nat → Option Ty) : Ct := fun avs => match avs with
  | [.spr, .p t _] => match asSeq ex t with
    | some (_, el, lo, hi) => if 1 ≤ lo ∧ hi ≤ 1000000 then some (el, none) else none
    | none => none
  | _ => none
theorem ctPick_ok {iP iD : Nat} (hD : T[iD]? = some fx_law_drop) (hP : T[iP]? = some (fx_law_pick iD)) : CtOk (X1 Y) T iP 2 (ctPick Y.ex) := by
  intro k hk avs t so h vs B R ws hB hR q
  obtain ⟨k, rfl⟩ : ∃ k', k = k' + 2 := ⟨k - 2, by omega⟩
  unfold ctPick at h
  split at h
  · split at h
    · rename_i l _ _ _ e
      split at h
      · rename_i hc
        cases h
        obtain ⟨d, rfl, h1, h2⟩ := two_args q
        obtain ⟨ds, rfl, h3, h4, h5⟩ := asSeq_ok e h1
        obtain ⟨s, rfl⟩ := hB
        show Ok (callN T (k + 2) iP [.r 1, .p (sq l ds)] (Spr s R)) _ _
        refine pick_okN (ds := ds) hD hP (by cases l; exact .inr rfl; exact .inl rfl) (fun z => by rw [z] at h4; simp at h4; omega) (by omega) (cloR_of hR) fun d s' hd => ?_
        exact ⟨_, _, ⟨s', rfl⟩, rfl, rfl, h3 d hd, fun s z => by cases z⟩
      · cases h
    · cases h
  · cases h
/-- apps: their kind, wide -/
def tapT : Ty := .tup (ofL [.str 8, .str 8, .str 8, .seqN false (.str 8) 1 2, .str 8])
def appT : Ty := .tup (ofL [.one [.str "app"], .seqN false (.str 8) 1 3, .seqN false (.str 8) 1 4, .tup (ofL [.str 8, .str 8]), .seqN false tapT 0 24])
section
variable {X : Cxt} {vs : List PyData}
theorem In_strs {l : List Str} {lo hi : Nat} (h : l.all (strB 8) = true) (h1 : lo ≤ l.length) (h2 : l.length ≤ hi) : X.In vs (.seqN false (.str 8) lo hi) (encS l) := by
  refine ⟨l.map .str, rfl, fun x hx => ?_, by simpa using h1, by simpa using h2⟩
  obtain ⟨y, hy, rfl⟩ := List.mem_map.mp hx
  have := List.all_eq_true.mp h y hy
  simp only [strB, Bool.and_eq_true, decide_eq_true_eq] at this
  exact ⟨y, rfl, this⟩
theorem In_str8 {x : Str} (h : strB 8 x = true) : X.In vs (.str 8) (.str x) := by
  simp only [strB, Bool.and_eq_true, decide_eq_true_eq] at h
  exact ⟨x, rfl, h⟩
theorem In_app {A : AppD} (G : GoodA A) : X.In vs appT (encA A) := by
  have mB := List.all_eq_true.mp G.msB
  have sB := List.all_eq_true.mp G.ssB
  refine ⟨_, rfl, _, _, rfl, List.mem_singleton.mpr rfl, _, _, rfl, In_strs G.msB (List.length_pos_iff.mpr G.ms3.1) G.ms3.2.1, _, _, rfl, In_strs G.ssB (List.length_pos_iff.mpr G.ss4.1) G.ss4.2.1, _, _, rfl, ⟨_, rfl, _, _, rfl, In_str8 (mB _ G.sm), _, _, rfl, In_str8 (sB _ G.sn), rfl⟩, _, _, rfl, ⟨_, rfl, fun x hx => ?_, Nat.zero_le _, by simpa using G.len⟩, rfl⟩
  obtain ⟨t, ht, rfl⟩ := List.mem_map.mp hx
  obtain ⟨h1, h2, h3, h4⟩ := G.tB ht
  obtain ⟨h5, h6⟩ := G.aB ht
  have h7 : 1 ≤ t.a.length := by
    obtain ⟨aims, _, ha, h⟩ := G.ts
    rcases (h t ht).a with ⟨x, hx, e | e⟩ | e | ⟨x, hx, e⟩ <;> rw [e] <;> simp
  exact ⟨_, rfl, _, _, rfl, In_str8 h1, _, _, rfl, In_str8 h2, _, _, rfl, In_str8 h3, _, _, rfl, In_strs h5 h7 h6, _, _, rfl, In_str8 h4, rfl⟩
end
/-- the app is told as good, by the number k -/
def ctApp (ex : Nat → Option Ty) (t : Ty) : Ct := fun avs => match avs with
  | [.spr, .p u _] => match asInt ex u with
    | some (a, b) => if 1 ≤ a ∧ b < 2 ^ 64 then some (t, none) else none
    | none => none
  | _ => none
theorem ctApp_ok {iA iT iP iD : Nat} {t : Ty} (hD : T[iD]? = some fx_law_drop) (hP : T[iP]? = some (fx_law_pick iD)) (hT : T[iT]? = some (fx_law_act iD iP)) (hA : T[iA]? = some (fx_law_app iT iD iP)) (ht : ∀ vs A, GoodA A → Y.In vs t (encA A)) : CtOk (X1 Y) T iA 4 (ctApp Y.ex t) := by
  intro k hk avs t so h vs B R ws hB hR q
  obtain ⟨k, rfl⟩ : ∃ k', k = k' + 4 := ⟨k - 4, by omega⟩
  unfold ctApp at h
  split at h
  · split at h
    · rename_i e
      split at h
      · rename_i hc
        cases h
        obtain ⟨d, rfl, h1, h2⟩ := two_args q
        obtain ⟨i, rfl, h3, h4⟩ := asInt_ok e h1
        obtain ⟨s, rfl⟩ := hB
        show Ok (callN T (k + 4) iA [.r 1, .p (.int i)] (Spr s R)) _ _
        refine app_ok hD hP hT hA (by omega) (by omega) (cloR_of hR) fun A s' G => ?_
        exact ⟨_, _, ⟨s', rfl⟩, rfl, rfl, ht vs A G, fun s z => by cases z⟩
      · cases h
    · cases h
  · cases h
theorem spring_run {k iS : Nat} {ns : List Int} (h : T[iS]? = some fx_law_spring) (hl : ns.length ≤ 63) : ∃ B, (X1 Y).Bp B ∧ callN T (k + 1) iS [.s ns] [] = .ok (X1 Y).sw B := by
  have := spring_ok (k := k) h hl (Q := fun w S => w = .r 1 ∧ ∃ s, S = Spr s []) (E := noX) fun s => ⟨rfl, s, rfl⟩
  cases e : callN T (k + 1) iS [.s ns] [] with
  | ok w S =>
    rw [e] at this
    obtain ⟨rfl, s, rfl⟩ := this
    exact ⟨_, ⟨s, rfl⟩, rfl⟩
  | exc x S => rw [e] at this; exact this.elim
  | bad => rw [e] at this; exact this.elim
end
end Pv
end

section
set_option maxRecDepth 10000
set_option maxHeartbeats 4000000
namespace Pv
open PySem PySem.Spec L2
open PyProof.Rows hiding St

/-! ## bent values -/
theorem evI_int {call : Nat → List W → Sto → R W} {e : Ex} {τ : Tau} {S S' : Sto} {z : Int} (he : evE call e τ S = .ok (.p (.int z)) S') (hb : z < 2 ^ 62 ∧ -(2 ^ 62) ≤ z) : evI call (.iRng e) τ S = .ok (rng 0 z.toNat) S' := by
  rw [evI, he]
  exact if_pos hb
theorem evI_len {call : Nat → List W → Sto → R W} {ds : List PyData} (h : ds.length ≤ 100000) (x0 x2 x3 x4 x5 : Option W) (S : Sto) : evI call (.iRng (.bi .len (.cs (.v 1) .nl))) [x0, some (.p (.tuple ds)), x2, x3, x4, x5] S = .ok (rng 0 ds.length) S := by
  have hb : ((ds.length : Int) < 2 ^ 62 ∧ -(2 ^ 62) ≤ (ds.length : Int)) := ⟨by omega, by omega⟩
  have he : evE call (.bi .len (.cs (.v 1) .nl)) [x0, some (.p (.tuple ds)), x2, x3, x4, x5] S = .ok (.p (.int ds.length)) S := rfl
  have := evI_int he hb
  rw [Int.toNat_natCast] at this
  exact this
theorem bent_ok {T : List Fd} {i iD iP iO : Nat} {R : Sto} (hD : T[iD]? = some fx_law_drop) (hP : T[iP]? = some (fx_law_pick iD)) (hO : T[iO]? = some (fx_law_odd iP)) (h : T[i]? = some (fx_law_bent i iD iO iP)) (hc : CloR R) {E : Xc → Sto → Prop} :
    ∀ (n k w : Nat) (ds : List PyData) (s : Spg) (Q : W → Sto → Prop), n ≤ k → Fs w n ds → w ≤ 100000 → (∀ d s', Fv (2 * w + 402) (n + 5) d → Q (.p d) (Spr s' R)) → Ok (callN T (k + 4) i [.r 1, .p (.tuple ds)] (Spr s R)) Q E := by
  intro n
  induction n with
  | zero =>
    intro k w ds s Q hk hF hw q
    refine Ok_call h rfl ?_
    have hlen := hF.len
    have hI := fun x0 x2 x3 x4 x5 S => evI_len (call := callN T (k + 3)) (ds := ds) (Nat.le_trans hlen hw) x0 x2 x3 x4 x5 S
    simp only [fx_law_bent, bx_law_bent, So_cs, So_nl, So_then, So_ite, So_nx, So_ret, So_bk, So_ct, evS, evE, evEs, evT, evTa, evTo, evAn, evOr, evAs, evP, Ok_bind, Ok_ok, Ok_bad, Ok_some, Ok_bs, Ok_ite, asgT, asgR, asgT.asgTs, setAll, wipeT, biF, meF, binF, cmpF, bl?, List.getElem?_cons_zero, List.getElem?_cons_succ, List.set_cons_zero, List.set_cons_succ, List.map_cons, List.map_nil, List.replicate_succ, List.replicate_zero, List.cons_append, List.nil_append, Nat.sub_self, Nat.reduceSub, Nat.reduceAdd, hI, rng]
    refine Ok_lcM (fun _ => none) (fun j hj => ?_) ?_
    · have hj' := List.mem_range.mp hj
      have hg : ds[j]? = some ds[j] := List.getElem?_eq_getElem hj'
      have ht : isTup ds[j] = false := by
        have := (hF.mem (List.getElem_mem hj')).de
        cases e : ds[j] with
        | tuple es => rw [e] at this; simp [PyData.depth] at this
        | _ => rfl
      simp only [So_cs, So_nl, So_then, So_ite, So_nx, So_ret, So_bk, So_ct, evS, evE, evEs, evT, evTa, evTo, evAn, evOr, evAs, evP, evI, Ok_bind, Ok_ok, Ok_bad, Ok_some, Ok_bs, Ok_ite, asgT, asgR, asgT.asgTs, setAll, wipeT, biF, meF, binF, cmpF, bl?, List.getElem?_cons_zero, List.getElem?_cons_succ, List.set_cons_zero, List.set_cons_succ, List.map_cons, List.map_nil, List.replicate_succ, List.replicate_zero, List.cons_append, List.nil_append, Nat.sub_self, Nat.reduceSub, Nat.reduceAdd, e_ixT]
      rw [Int.zero_add, atI_ok hg]
      simp [Option.map, So_cs, So_nl, So_then, So_ite, So_nx, So_ret, So_bk, So_ct, evS, evE, evEs, evT, evTa, evTo, evAn, evOr, evAs, evP, evI, Ok_bind, Ok_ok, Ok_bad, Ok_some, Ok_bs, Ok_ite, asgT, asgR, asgT.asgTs, setAll, wipeT, biF, meF, binF, cmpF, bl?, List.getElem?_cons_zero, List.getElem?_cons_succ, List.set_cons_zero, List.set_cons_succ, List.map_cons, List.map_nil, List.replicate_succ, List.replicate_zero, List.cons_append, List.nil_append, Nat.sub_self, Nat.reduceSub, Nat.reduceAdd, e_isi, ht, trub]
    · have e0 : (List.range ds.length).filterMap (fun _ => (none : Option W)) = [] := by simp
      rw [e0, mkL0]
      simp only [So_cs, So_nl, So_then, So_ite, So_nx, So_ret, So_bk, So_ct, evS, evE, evEs, evT, evTa, evTo, evAn, evOr, evAs, evP, evI, Ok_bind, Ok_ok, Ok_bad, Ok_some, Ok_bs, Ok_ite, asgT, asgR, asgT.asgTs, setAll, wipeT, biF, meF, binF, cmpF, bl?, List.getElem?_cons_zero, List.getElem?_cons_succ, List.set_cons_zero, List.set_cons_succ, List.map_cons, List.map_nil, List.replicate_succ, List.replicate_zero, List.cons_append, List.nil_append, Nat.sub_self, Nat.reduceSub, Nat.reduceAdd, mkL0]
      have e1 : ∀ S : Sto, fNe S (.p (.list [])) (.p (.list [])) = some (.p (.bool false), S) := fun S => ne_ints (S := S) []
      simp only [e1, trub, So_cs, So_nl, So_then, So_ite, So_nx, So_ret, So_bk, So_ct, evS, evE, evEs, evT, evTa, evTo, evAn, evOr, evAs, evP, evI, Ok_bind, Ok_ok, Ok_bad, Ok_some, Ok_bs, Ok_ite, asgT, asgR, asgT.asgTs, setAll, wipeT, biF, meF, binF, cmpF, bl?, List.getElem?_cons_zero, List.getElem?_cons_succ, List.set_cons_zero, List.set_cons_succ, List.map_cons, List.map_nil, List.replicate_succ, List.replicate_zero, List.cons_append, List.nil_append, Nat.sub_self, Nat.reduceSub, Nat.reduceAdd, Bool.false_eq_true, if_false]
      exact bent_flat hD hP hO hc hF hw q
  | succ n ih =>
    intro k w ds s Q hk hF hw q
    obtain ⟨k, rfl⟩ : ∃ k', k = k' + 1 := ⟨k - 1, by omega⟩
    refine Ok_call h rfl ?_
    have hlen := hF.len
    have hI := fun x0 x2 x3 x4 x5 S => evI_len (call := callN T (k + 1 + 3)) (ds := ds) (Nat.le_trans hlen hw) x0 x2 x3 x4 x5 S
    simp only [fx_law_bent, bx_law_bent, So_cs, So_nl, So_then, So_ite, So_nx, So_ret, So_bk, So_ct, evS, evE, evEs, evT, evTa, evTo, evAn, evOr, evAs, evP, Ok_bind, Ok_ok, Ok_bad, Ok_some, Ok_bs, Ok_ite, asgT, asgR, asgT.asgTs, setAll, wipeT, biF, meF, binF, cmpF, bl?, List.getElem?_cons_zero, List.getElem?_cons_succ, List.set_cons_zero, List.set_cons_succ, List.map_cons, List.map_nil, List.replicate_succ, List.replicate_zero, List.cons_append, List.nil_append, Nat.sub_self, Nat.reduceSub, Nat.reduceAdd, hI, rng]
    let P : List Nat := (List.range ds.length).filter fun j => match ds[j]? with
      | some d => isTup d
      | none => false
    refine Ok_lcM (fun j => if (match ds[j]? with
      | some d => isTup d
      | none => false) = true then some (W.p (.int (0 + (j : Int)))) else none) (fun j hj => ?_) ?_
    · have hj' := List.mem_range.mp hj
      have hg : ds[j]? = some ds[j] := List.getElem?_eq_getElem hj'
      simp only [So_cs, So_nl, So_then, So_ite, So_nx, So_ret, So_bk, So_ct, evS, evE, evEs, evT, evTa, evTo, evAn, evOr, evAs, evP, evI, Ok_bind, Ok_ok, Ok_bad, Ok_some, Ok_bs, Ok_ite, asgT, asgR, asgT.asgTs, setAll, wipeT, biF, meF, binF, cmpF, bl?, List.getElem?_cons_zero, List.getElem?_cons_succ, List.set_cons_zero, List.set_cons_succ, List.map_cons, List.map_nil, List.replicate_succ, List.replicate_zero, List.cons_append, List.nil_append, Nat.sub_self, Nat.reduceSub, Nat.reduceAdd, e_ixT]
      rw [Int.zero_add, atI_ok hg, hg]
      simp only [Option.map, So_cs, So_nl, So_then, So_ite, So_nx, So_ret, So_bk, So_ct, evS, evE, evEs, evT, evTa, evTo, evAn, evOr, evAs, evP, evI, Ok_bind, Ok_ok, Ok_bad, Ok_some, Ok_bs, Ok_ite, asgT, asgR, asgT.asgTs, setAll, wipeT, biF, meF, binF, cmpF, bl?, List.getElem?_cons_zero, List.getElem?_cons_succ, List.set_cons_zero, List.set_cons_succ, List.map_cons, List.map_nil, List.replicate_succ, List.replicate_zero, List.cons_append, List.nil_append, Nat.sub_self, Nat.reduceSub, Nat.reduceAdd, e_isi, trub]
      by_cases hb : isTup ds[j] = true <;> simp [hb]
    · rw [fm_filter]
      have hPl : P.length ≤ ds.length := by
        have := List.length_filter_le (fun j => match ds[j]? with
          | some d => isTup d
          | none => false) (List.range ds.length)
        simpa using this
      rw [mkL _ (by rw [List.length_map]; exact Nat.le_trans hPl (by unfold lim; omega))]
      have eP : (List.map (fun x : Nat => PyData.int (0 + (x : Int))) P) = (P.map fun x : Nat => (0 + (x : Int))).map PyData.int := by simp
      simp only [So_cs, So_nl, So_then, So_ite, So_nx, So_ret, So_bk, So_ct, evS, evE, evEs, evT, evTa, evTo, evAn, evOr, evAs, evP, evI, Ok_bind, Ok_ok, Ok_bad, Ok_some, Ok_bs, Ok_ite, asgT, asgR, asgT.asgTs, setAll, wipeT, biF, meF, binF, cmpF, bl?, List.getElem?_cons_zero, List.getElem?_cons_succ, List.set_cons_zero, List.set_cons_succ, List.map_cons, List.map_nil, List.replicate_succ, List.replicate_zero, List.cons_append, List.nil_append, Nat.sub_self, Nat.reduceSub, Nat.reduceAdd, mkL0]
      show Ok (ofO (fNe _ (W.p (.list (List.map (fun x : Nat => PyData.int (0 + (x : Int))) P))) _)) _ _
      rw [eP, ne_ints, Ok_some]
      simp only [trub, So_cs, So_nl, So_then, So_ite, So_nx, So_ret, So_bk, So_ct, evS, evE, evEs, evT, evTa, evTo, evAn, evOr, evAs, evP, evI, Ok_bind, Ok_ok, Ok_bad, Ok_some, Ok_bs, Ok_ite, asgT, asgR, asgT.asgTs, setAll, wipeT, biF, meF, binF, cmpF, bl?, List.getElem?_cons_zero, List.getElem?_cons_succ, List.set_cons_zero, List.set_cons_succ, List.map_cons, List.map_nil, List.replicate_succ, List.replicate_zero, List.cons_append, List.nil_append, Nat.sub_self, Nat.reduceSub, Nat.reduceAdd]
      split
      · rename_i hne
        refine drop_ok hD (by decide) (by decide) hc fun z s1 hz => ?_
        simp only [So_cs, So_nl, So_then, So_ite, So_nx, So_ret, So_bk, So_ct, evS, evE, evEs, evT, evTa, evTo, evAn, evOr, evAs, evP, evI, Ok_bind, Ok_ok, Ok_bad, Ok_some, Ok_bs, Ok_ite, asgT, asgR, asgT.asgTs, setAll, wipeT, biF, meF, binF, cmpF, bl?, List.getElem?_cons_zero, List.getElem?_cons_succ, List.set_cons_zero, List.set_cons_succ, List.map_cons, List.map_nil, List.replicate_succ, List.replicate_zero, List.cons_append, List.nil_append, Nat.sub_self, Nat.reduceSub, Nat.reduceAdd, e_gt, trub]
        split
        · have hp0 : (P.map fun x : Nat => (0 + (x : Int))).map PyData.int ≠ [] := by
            intro e
            have : P.map (fun x : Nat => (0 + (x : Int))) = [] := by simpa using e
            rw [this] at hne
            simp at hne
          refine pick_okN hD hP (.inl rfl) hp0 (by simp only [List.length_map]; omega) hc fun d s2 hd => ?_
          obtain ⟨j', hj', rfl⟩ := List.mem_map.mp hd
          obtain ⟨j, hj, rfl⟩ := List.mem_map.mp hj'
          have hj2 := (List.mem_filter.mp hj).2
          cases hg : ds[j]? with
          | none => rw [hg] at hj2; simp at hj2
          | some d =>
            rw [hg] at hj2
            obtain ⟨es, rfl⟩ := isTup_of hj2
            obtain ⟨x, w', y, hxy, h1, h2, h3⟩ := hF.get hg
            simp only [So_cs, So_nl, So_then, So_ite, So_nx, So_ret, So_bk, So_ct, evS, evE, evEs, evT, evTa, evTo, evAn, evOr, evAs, evP, evI, Ok_bind, Ok_ok, Ok_bad, Ok_some, Ok_bs, Ok_ite, asgT, asgR, asgT.asgTs, setAll, wipeT, biF, meF, binF, cmpF, bl?, List.getElem?_cons_zero, List.getElem?_cons_succ, List.set_cons_zero, List.set_cons_succ, List.map_cons, List.map_nil, List.replicate_succ, List.replicate_zero, List.cons_append, List.nil_append, Nat.sub_self, Nat.reduceSub, Nat.reduceAdd, e_slT, e_ixT, Int.zero_add]
            rw [atI_ok hg]
            simp only [Option.map, So_cs, So_nl, So_then, So_ite, So_nx, So_ret, So_bk, So_ct, evS, evE, evEs, evT, evTa, evTo, evAn, evOr, evAs, evP, evI, Ok_bind, Ok_ok, Ok_bad, Ok_some, Ok_bs, Ok_ite, asgT, asgR, asgT.asgTs, setAll, wipeT, biF, meF, binF, cmpF, bl?, List.getElem?_cons_zero, List.getElem?_cons_succ, List.set_cons_zero, List.set_cons_succ, List.map_cons, List.map_nil, List.replicate_succ, List.replicate_zero, List.cons_append, List.nil_append, Nat.sub_self, Nat.reduceSub, Nat.reduceAdd]
            refine ih k w' es s2 _ (by omega) h2.items (by omega) fun d' s3 hd' => ?_
            have l1 : (cutL ds none (some (j : Int))).length ≤ 100000 := by have := cutL_len ds none (some (j : Int)); omega
            have l2 : (cutL ds (some ((j : Int) + 1)) none).length ≤ 100000 := by have := cutL_len ds (some ((j : Int) + 1)) none; omega
            have hl : (100000 : Nat) + 100000 + 1 ≤ lim := by decide
            simp only [mkT1, So_cs, So_nl, So_then, So_ite, So_nx, So_ret, So_bk, So_ct, evS, evE, evEs, evT, evTa, evTo, evAn, evOr, evAs, evP, evI, Ok_bind, Ok_ok, Ok_bad, Ok_some, Ok_bs, Ok_ite, asgT, asgR, asgT.asgTs, setAll, wipeT, biF, meF, binF, cmpF, bl?, List.getElem?_cons_zero, List.getElem?_cons_succ, List.set_cons_zero, List.set_cons_succ, List.map_cons, List.map_nil, List.replicate_succ, List.replicate_zero, List.cons_append, List.nil_append, Nat.sub_self, Nat.reduceSub, Nat.reduceAdd]
            rw [e_addT _ _ (by simp; omega), Ok_some]
            simp only [So_cs, So_nl, So_then, So_ite, So_nx, So_ret, So_bk, So_ct, evS, evE, evEs, evT, evTa, evTo, evAn, evOr, evAs, evP, evI, Ok_bind, Ok_ok, Ok_bad, Ok_some, Ok_bs, Ok_ite, asgT, asgR, asgT.asgTs, setAll, wipeT, biF, meF, binF, cmpF, bl?, List.getElem?_cons_zero, List.getElem?_cons_succ, List.set_cons_zero, List.set_cons_succ, List.map_cons, List.map_nil, List.replicate_succ, List.replicate_zero, List.cons_append, List.nil_append, Nat.sub_self, Nat.reduceSub, Nat.reduceAdd, e_add, e_slT]
            rw [e_addT _ _ (by simp; omega), Ok_some]
            refine Ok_end0 (clo_spr hc) rfl rfl (q _ _ ?_)
            rw [cut_to, show ((j : Int) + 1) = ((j + 1 : Nat) : Int) by omega, cut_from]
            exact ((h1.app (Fs.one hd')).app h3).tup.mono (by omega) (by omega)
        · exact bent_flat (n := n + 1) hD hP hO hc hF hw q
      · simp only [Bool.false_eq_true, if_false]
        exact bent_flat (n := n + 1) hD hP hO hc hF hw q
end Pv
end

section
set_option maxRecDepth 10000
set_option maxHeartbeats 4000000
namespace Pv
open PySem PySem.Spec L2
open PyProof.Rows hiding St

/-! ## what is no state -/
def isStr : PyData → Bool
  | .str _ => true
  | _ => false
def oneOf (ms : List PyData) (d : PyData) : Bool := isStr d && inP d ms
def stW (a v : PyData) : PyData := match a with
  | .tuple [_, .tuple ms, .tuple ss, _, _] => match v with
    | .tuple [m, s] => if oneOf ms m then match s with
        | .tuple ds => if ds.all (oneOf ss) then .none else .str "stack"
        | _ => .str "stack"
      else .str "mode"
    | _ => .str "state"
  | _ => .none
theorem e_isiS (d : PyData) : isiB (.p d) .str = isStr d := by cases d <;> rfl
theorem e_isiT (d : PyData) : isiB (.p d) .tup = isTup d := by cases d <;> rfl
theorem fIn_str {S : Sto} {x : PyData} {ms : List PyData} (hx : isStr x = true) (h : ms.all flatP = true) : fIn false S (.p x) (.p (.tuple ms)) = some (.p (.bool (inP x ms)), S) ∧ fIn true S (.p x) (.p (.tuple ms)) = some (.p (.bool (!inP x ms)), S) := by
  cases x <;> simp [isStr] at hx
  simp [fIn, seqP, flatP, h, b2]
theorem isOne_ok {T : List Fd} {k i : Nat} {S : Sto} (h : T[i]? = some fxis_one) (hc : Clo S) {x : PyData} {ms : List PyData} (hm : ms.all flatP = true) {Q : W → Sto → Prop} {E : Xc → Sto → Prop} (q : Q (.p (.bool (oneOf ms x))) S) : Ok (callN T (k + 1) i [.p x, .p (.tuple ms)] S) Q E := by
  refine Ok_call h rfl ?_
  simp only [fxis_one, bxis_one, So_cs, So_nl, So_then, So_ite, So_nx, So_ret, So_bk, So_ct, evS, evE, evEs, evT, evTa, evTo, evAn, evOr, evAs, evP, evI, Ok_bind, Ok_ok, Ok_bad, Ok_some, Ok_bs, Ok_ite, asgT, asgR, asgT.asgTs, setAll, wipeT, biF, meF, binF, cmpF, bl?, List.getElem?_cons_zero, List.getElem?_cons_succ, List.set_cons_zero, List.set_cons_succ, List.map_cons, List.map_nil, List.replicate_succ, List.replicate_zero, List.cons_append, List.nil_append, Nat.sub_self, Nat.reduceSub, Nat.reduceAdd, e_isiS]
  unfold oneOf at q
  cases hx : isStr x with
  | false =>
    rw [hx] at q
    simp only [Bool.false_eq_true, if_false]
    exact Ok_end0 hc rfl rfl q
  | true =>
    rw [hx, Bool.true_and] at q
    simp only [if_true, (fIn_str hx hm).1, So_cs, So_nl, So_then, So_ite, So_nx, So_ret, So_bk, So_ct, evS, evE, evEs, evT, evTa, evTo, evAn, evOr, evAs, evP, evI, Ok_bind, Ok_ok, Ok_bad, Ok_some, Ok_bs, Ok_ite, asgT, asgR, asgT.asgTs, setAll, wipeT, biF, meF, binF, cmpF, bl?, List.getElem?_cons_zero, List.getElem?_cons_succ, List.set_cons_zero, List.set_cons_succ, List.map_cons, List.map_nil, List.replicate_succ, List.replicate_zero, List.cons_append, List.nil_append, Nat.sub_self, Nat.reduceSub, Nat.reduceAdd]
    exact Ok_end0 hc rfl rfl q
/-- a comprehension over data where nothing changes -/
theorem Ok_lcD {f : Row → Sto → R (Option W)} {ds : List PyData} {Q : List W → Sto → Prop} {E : Xc → Sto → Prop} {S : Sto} (φ : PyData → Option PyData) (hs : ∀ x, x ∈ ds → Ok (f (.one (.p x)) S) (fun o S' => o = (φ x).map W.p ∧ S' = S) noX) (he : Q ((ds.filterMap φ).map W.p) S) :
    Ok (lcLoop f ((ds.map W.p).map Row.one) [] S) Q E := by
  rw [List.map_map]
  refine Ok_lcM (g := Row.one ∘ W.p) (fun x => (φ x).map W.p) hs ?_
  have : ds.filterMap (fun x => (φ x).map W.p) = (ds.filterMap φ).map W.p := by
    clear hs he
    induction ds with
    | nil => rfl
    | cons x r ih => rw [List.filterMap_cons, List.filterMap_cons]; cases φ x <;> simp [ih]
  rw [this]
  exact he
theorem bools_map (f : PyData → Bool) : ∀ ds : List PyData, bools (ds.map fun d => .bool (f d)) = some (ds.map f)
  | [] => rfl
  | d :: r => by simp only [List.map_cons, bools, bools_map f r, Option.map]
theorem fm_some (f : PyData → PyData) (ds : List PyData) : ds.filterMap (fun d => some (f d)) = ds.map f := by
  induction ds with
  | nil => rfl
  | cons d r ih => rw [List.filterMap_cons]; simp [ih]
theorem len2 {ds : List PyData} (h : ds.length = 2) : ∃ a b, ds = [a, b] := by
  match ds, h with
  | [a, b], _ => exact ⟨a, b, rfl⟩
theorem ne_int {S : Sto} (i j : Int) : fNe S (.p (.int i)) (.p (.int j)) = some (.p (.bool (!decide (i = j))), S) := by
  rw [e_neD rfl rfl rfl rfl]
  congr 4
theorem stW_tup {x0 x3 x4 m s : PyData} {ms ss : List PyData} : stW (.tuple [x0, .tuple ms, .tuple ss, x3, x4]) (.tuple [m, s]) = if oneOf ms m then match s with
        | .tuple ds => if ds.all (oneOf ss) then .none else .str "stack"
        | _ => .str "stack"
      else .str "mode" := rfl
theorem ix2 {S : Sto} {a b : PyData} : fIx S (.p (.tuple [a, b])) (.p (.int 0)) = some (.p a, S) ∧ fIx S (.p (.tuple [a, b])) (.p (.int 1)) = some (.p b, S) := ⟨rfl, rfl⟩
theorem ix5 {S : Sto} {a b c d e : PyData} : fIx S (.p (.tuple [a, b, c, d, e])) (.p (.int 1)) = some (.p b, S) ∧ fIx S (.p (.tuple [a, b, c, d, e])) (.p (.int 2)) = some (.p c, S) := ⟨rfl, rfl⟩
section
variable {T : List Fd} {k i iO : Nat} {S : Sto} {x0 x3 x4 v : PyData} {ms ss : List PyData}
theorem stErr_ok (hO : T[iO]? = some fxis_one) (h : T[i]? = some (fxstate_error iO)) (hc : Clo S) (hm : ms.all flatP = true) (hs : ss.all flatP = true) {w n : Nat} (hv : Fv w n v) (hw : w ≤ lim) {Q : W → Sto → Prop} {E : Xc → Sto → Prop} (q : Q (.p (stW (.tuple [x0, .tuple ms, .tuple ss, x3, x4]) v)) S) :
    Ok (callN T (k + 2) i [.p (.tuple [x0, .tuple ms, .tuple ss, x3, x4]), .p v] S) Q E := by
  refine Ok_call h rfl ?_
  simp only [fxstate_error, bxstate_error, So_cs, So_nl, So_then, So_ite, So_nx, So_ret, So_bk, So_ct, evS, evE, evEs, evT, evTa, evTo, evAn, evOr, evAs, evP, evI, Ok_bind, Ok_ok, Ok_bad, Ok_some, Ok_bs, Ok_ite, asgT, asgR, asgT.asgTs, setAll, wipeT, biF, meF, binF, cmpF, bl?, List.getElem?_cons_zero, List.getElem?_cons_succ, List.set_cons_zero, List.set_cons_succ, List.map_cons, List.map_nil, List.replicate_succ, List.replicate_zero, List.cons_append, List.nil_append, Nat.sub_self, Nat.reduceSub, Nat.reduceAdd, e_isiT]
  cases ht : isTup v with
  | false =>
    have : stW (.tuple [x0, .tuple ms, .tuple ss, x3, x4]) v = .str "state" := by cases v <;> first | rfl | simp [isTup] at ht
    rw [this] at q
    simp only [trub, So_cs, So_nl, So_then, So_ite, So_nx, So_ret, So_bk, So_ct, evS, evE, evEs, evT, evTa, evTo, evAn, evOr, evAs, evP, evI, Ok_bind, Ok_ok, Ok_bad, Ok_some, Ok_bs, Ok_ite, asgT, asgR, asgT.asgTs, setAll, wipeT, biF, meF, binF, cmpF, bl?, List.getElem?_cons_zero, List.getElem?_cons_succ, List.set_cons_zero, List.set_cons_succ, List.map_cons, List.map_nil, List.replicate_succ, List.replicate_zero, List.cons_append, List.nil_append, Nat.sub_self, Nat.reduceSub, Nat.reduceAdd, Bool.not_false, if_true]
    exact Ok_end0 hc rfl rfl q
  | true =>
    obtain ⟨ds, rfl⟩ := isTup_of ht
    simp only [trub, So_cs, So_nl, So_then, So_ite, So_nx, So_ret, So_bk, So_ct, evS, evE, evEs, evT, evTa, evTo, evAn, evOr, evAs, evP, evI, Ok_bind, Ok_ok, Ok_bad, Ok_some, Ok_bs, Ok_ite, asgT, asgR, asgT.asgTs, setAll, wipeT, biF, meF, binF, cmpF, bl?, List.getElem?_cons_zero, List.getElem?_cons_succ, List.set_cons_zero, List.set_cons_succ, List.map_cons, List.map_nil, List.replicate_succ, List.replicate_zero, List.cons_append, List.nil_append, Nat.sub_self, Nat.reduceSub, Nat.reduceAdd, Bool.not_true, Bool.false_eq_true, if_false, e_lenT, ne_int]
    by_cases h2 : ((ds.length : Int) = 2)
    · obtain ⟨a, b, rfl⟩ := len2 (by omega : ds.length = 2)
      rw [decide_eq_true h2]
      simp only [Bool.not_true, Bool.false_eq_true, if_false, bxstate_error_3, So_cs, So_nl, So_then, So_ite, So_nx, So_ret, So_bk, So_ct, evS, evE, evEs, evT, evTa, evTo, evAn, evOr, evAs, evP, evI, Ok_bind, Ok_ok, Ok_bad, Ok_some, Ok_bs, Ok_ite, asgT, asgR, asgT.asgTs, setAll, wipeT, biF, meF, binF, cmpF, bl?, List.getElem?_cons_zero, List.getElem?_cons_succ, List.set_cons_zero, List.set_cons_succ, List.map_cons, List.map_nil, List.replicate_succ, List.replicate_zero, List.cons_append, List.nil_append, Nat.sub_self, Nat.reduceSub, Nat.reduceAdd, ix2, ix5]
      refine isOne_ok hO hc hm ?_
      rw [stW_tup] at q
      simp only [trub, So_cs, So_nl, So_then, So_ite, So_nx, So_ret, So_bk, So_ct, evS, evE, evEs, evT, evTa, evTo, evAn, evOr, evAs, evP, evI, Ok_bind, Ok_ok, Ok_bad, Ok_some, Ok_bs, Ok_ite, asgT, asgR, asgT.asgTs, setAll, wipeT, biF, meF, binF, cmpF, bl?, List.getElem?_cons_zero, List.getElem?_cons_succ, List.set_cons_zero, List.set_cons_succ, List.map_cons, List.map_nil, List.replicate_succ, List.replicate_zero, List.cons_append, List.nil_append, Nat.sub_self, Nat.reduceSub, Nat.reduceAdd]
      cases ho : oneOf ms a with
      | false =>
        rw [ho] at q
        simp only [Bool.not_false, if_true]
        exact Ok_end0 hc rfl rfl q
      | true =>
        rw [ho] at q
        simp only [Bool.not_true, Bool.false_eq_true, if_false, bxstate_error_2, So_cs, So_nl, So_then, So_ite, So_nx, So_ret, So_bk, So_ct, evS, evE, evEs, evT, evTa, evTo, evAn, evOr, evAs, evP, evI, Ok_bind, Ok_ok, Ok_bad, Ok_some, Ok_bs, Ok_ite, asgT, asgR, asgT.asgTs, setAll, wipeT, biF, meF, binF, cmpF, bl?, List.getElem?_cons_zero, List.getElem?_cons_succ, List.set_cons_zero, List.set_cons_succ, List.map_cons, List.map_nil, List.replicate_succ, List.replicate_zero, List.cons_append, List.nil_append, Nat.sub_self, Nat.reduceSub, Nat.reduceAdd, ix2, ix5, e_isiT, trub]
        cases hb : isTup b with
        | false =>
          have e : (match b with
            | .tuple ds => if ds.all (oneOf ss) then PyData.none else .str "stack"
            | _ => .str "stack") = .str "stack" := by cases b <;> first | rfl | simp [isTup] at hb
          rw [if_pos rfl, e] at q
          simp only [Bool.not_false, if_true]
          exact Ok_end0 hc rfl rfl q
        | true =>
          obtain ⟨es, rfl⟩ := isTup_of hb
          have hl : es.length ≤ lim := by
            have := hv.we
            simp only [PyData.weight, PyData.weightAll] at this
            have f : ∀ l : List PyData, l.length ≤ PyData.weightAll l := fun l => by
              induction l with
              | nil => exact Nat.zero_le _
              | cons x r ih => simp only [PyData.weightAll, List.length_cons]; omega
            have := f es
            omega
          simp only [Bool.not_true, Bool.false_eq_true, if_false, itemsT, stillp, if_true]
          refine Ok_lcD (fun d => some (.bool (oneOf ss d))) (fun d hd => ?_) ?_
          · simp only [So_cs, So_nl, So_then, So_ite, So_nx, So_ret, So_bk, So_ct, evS, evE, evEs, evT, evTa, evTo, evAn, evOr, evAs, evP, evI, Ok_bind, Ok_ok, Ok_bad, Ok_some, Ok_bs, Ok_ite, asgT, asgR, asgT.asgTs, setAll, wipeT, biF, meF, binF, cmpF, bl?, List.getElem?_cons_zero, List.getElem?_cons_succ, List.set_cons_zero, List.set_cons_succ, List.map_cons, List.map_nil, List.replicate_succ, List.replicate_zero, List.cons_append, List.nil_append, Nat.sub_self, Nat.reduceSub, Nat.reduceAdd, ix5]
            exact isOne_ok hO hc hs ⟨rfl, rfl⟩
          · rw [fm_some, mkL _ (by simpa using hl)]
            simp only [So_cs, So_nl, So_then, So_ite, So_nx, So_ret, So_bk, So_ct, evS, evE, evEs, evT, evTa, evTo, evAn, evOr, evAs, evP, evI, Ok_bind, Ok_ok, Ok_bad, Ok_some, Ok_bs, Ok_ite, asgT, asgR, asgT.asgTs, setAll, wipeT, biF, meF, binF, cmpF, bl?, List.getElem?_cons_zero, List.getElem?_cons_succ, List.set_cons_zero, List.set_cons_succ, List.map_cons, List.map_nil, List.replicate_succ, List.replicate_zero, List.cons_append, List.nil_append, Nat.sub_self, Nat.reduceSub, Nat.reduceAdd, fAll, bools_map, Bool.false_eq_true, if_false, trub]
            rw [if_pos rfl] at q
            have e : (es.map (oneOf ss)).all id = es.all (oneOf ss) := by simp [List.all_map]
            rw [e]
            cases ha : es.all (oneOf ss) with
            | true =>
              simp only [ha, if_true] at q
              simp only [Bool.not_true, Bool.false_eq_true, if_false, bxstate_error_1, So_cs, So_nl, So_then, So_ite, So_nx, So_ret, So_bk, So_ct, evS, evE, evEs, evT, evTa, evTo, evAn, evOr, evAs, evP, evI, Ok_bind, Ok_ok, Ok_bad, Ok_some, Ok_bs, Ok_ite, asgT, asgR, asgT.asgTs, setAll, wipeT, biF, meF, binF, cmpF, bl?, List.getElem?_cons_zero, List.getElem?_cons_succ, List.set_cons_zero, List.set_cons_succ, List.map_cons, List.map_nil, List.replicate_succ, List.replicate_zero, List.cons_append, List.nil_append, Nat.sub_self, Nat.reduceSub, Nat.reduceAdd]
              exact Ok_end0 hc rfl rfl q
            | false =>
              simp only [ha, Bool.false_eq_true, if_false] at q
              simp only [Bool.not_false, if_true]
              exact Ok_end0 hc rfl rfl q
    · rw [decide_eq_false h2]
      have : stW (.tuple [x0, .tuple ms, .tuple ss, x3, x4]) (.tuple ds) = .str "state" := by
        match ds, h2 with
        | [], _ => rfl
        | [_], _ => rfl
        | [_, _], h => exact absurd rfl h
        | _ :: _ :: _ :: _, _ => rfl
      rw [this] at q
      simp only [Bool.not_false, if_true]
      exact Ok_end0 hc rfl rfl q
theorem stWd_ok (h : T[i]? = some fx_law_state_word) (hc : Clo S) (hm : ms.all flatP = true) (hs : ss.all flatP = true) {w n : Nat} (hv : Fv w n v) (hw : w ≤ lim) {Q : W → Sto → Prop} {E : Xc → Sto → Prop} (q : Q (.p (stW (.tuple [x0, .tuple ms, .tuple ss, x3, x4]) v)) S) :
    Ok (callN T (k + 1) i [.p (.tuple [x0, .tuple ms, .tuple ss, x3, x4]), .p v] S) Q E := by
  refine Ok_call h rfl ?_
  simp only [fx_law_state_word, bx_law_state_word, So_cs, So_nl, So_then, So_ite, So_nx, So_ret, So_bk, So_ct, evS, evE, evEs, evT, evTa, evTo, evAn, evOr, evAs, evP, evI, Ok_bind, Ok_ok, Ok_bad, Ok_some, Ok_bs, Ok_ite, asgT, asgR, asgT.asgTs, setAll, wipeT, biF, meF, binF, cmpF, bl?, List.getElem?_cons_zero, List.getElem?_cons_succ, List.set_cons_zero, List.set_cons_succ, List.map_cons, List.map_nil, List.replicate_succ, List.replicate_zero, List.cons_append, List.nil_append, Nat.sub_self, Nat.reduceSub, Nat.reduceAdd, e_isiT]
  cases ht : isTup v with
  | false =>
    have : stW (.tuple [x0, .tuple ms, .tuple ss, x3, x4]) v = .str "state" := by cases v <;> first | rfl | simp [isTup] at ht
    rw [this] at q
    simp only [trub, So_cs, So_nl, So_then, So_ite, So_nx, So_ret, So_bk, So_ct, evS, evE, evEs, evT, evTa, evTo, evAn, evOr, evAs, evP, evI, Ok_bind, Ok_ok, Ok_bad, Ok_some, Ok_bs, Ok_ite, asgT, asgR, asgT.asgTs, setAll, wipeT, biF, meF, binF, cmpF, bl?, List.getElem?_cons_zero, List.getElem?_cons_succ, List.set_cons_zero, List.set_cons_succ, List.map_cons, List.map_nil, List.replicate_succ, List.replicate_zero, List.cons_append, List.nil_append, Nat.sub_self, Nat.reduceSub, Nat.reduceAdd, Bool.not_false, if_true]
    exact Ok_end0 hc rfl rfl q
  | true =>
    obtain ⟨ds, rfl⟩ := isTup_of ht
    simp only [trub, So_cs, So_nl, So_then, So_ite, So_nx, So_ret, So_bk, So_ct, evS, evE, evEs, evT, evTa, evTo, evAn, evOr, evAs, evP, evI, Ok_bind, Ok_ok, Ok_bad, Ok_some, Ok_bs, Ok_ite, asgT, asgR, asgT.asgTs, setAll, wipeT, biF, meF, binF, cmpF, bl?, List.getElem?_cons_zero, List.getElem?_cons_succ, List.set_cons_zero, List.set_cons_succ, List.map_cons, List.map_nil, List.replicate_succ, List.replicate_zero, List.cons_append, List.nil_append, Nat.sub_self, Nat.reduceSub, Nat.reduceAdd, Bool.not_true, Bool.false_eq_true, if_false, e_lenT, ne_int]
    by_cases h2 : ((ds.length : Int) = 2)
    · obtain ⟨a, b, rfl⟩ := len2 (by omega : ds.length = 2)
      rw [decide_eq_true h2]
      simp only [Bool.not_true, Bool.false_eq_true, if_false, bx_law_state_word_3, So_cs, So_nl, So_then, So_ite, So_nx, So_ret, So_bk, So_ct, evS, evE, evEs, evT, evTa, evTo, evAn, evOr, evAs, evP, evI, Ok_bind, Ok_ok, Ok_bad, Ok_some, Ok_bs, Ok_ite, asgT, asgR, asgT.asgTs, setAll, wipeT, biF, meF, binF, cmpF, bl?, List.getElem?_cons_zero, List.getElem?_cons_succ, List.set_cons_zero, List.set_cons_succ, List.map_cons, List.map_nil, List.replicate_succ, List.replicate_zero, List.cons_append, List.nil_append, Nat.sub_self, Nat.reduceSub, Nat.reduceAdd, ix2, ix5, e_isiS, trub]
      rw [stW_tup] at q
      have ho : oneOf ms a = (isStr a && inP a ms) := rfl
      cases ha : isStr a with
      | false =>
        rw [ho, ha] at q
        simp only [Bool.not_false, if_true]
        exact Ok_end0 hc rfl rfl q
      | true =>
        simp only [Bool.not_true, Bool.false_eq_true, if_false, (fIn_str ha hm).2, So_cs, So_nl, So_then, So_ite, So_nx, So_ret, So_bk, So_ct, evS, evE, evEs, evT, evTa, evTo, evAn, evOr, evAs, evP, evI, Ok_bind, Ok_ok, Ok_bad, Ok_some, Ok_bs, Ok_ite, asgT, asgR, asgT.asgTs, setAll, wipeT, biF, meF, binF, cmpF, bl?, List.getElem?_cons_zero, List.getElem?_cons_succ, List.set_cons_zero, List.set_cons_succ, List.map_cons, List.map_nil, List.replicate_succ, List.replicate_zero, List.cons_append, List.nil_append, Nat.sub_self, Nat.reduceSub, Nat.reduceAdd, trub]
        rw [ho, ha, Bool.true_and] at q
        cases hi : inP a ms with
        | false =>
          rw [hi] at q
          simp only [Bool.not_false, if_true]
          exact Ok_end0 hc rfl rfl q
        | true =>
          rw [hi, if_pos rfl] at q
          simp only [Bool.not_true, Bool.false_eq_true, if_false, bx_law_state_word_2, So_cs, So_nl, So_then, So_ite, So_nx, So_ret, So_bk, So_ct, evS, evE, evEs, evT, evTa, evTo, evAn, evOr, evAs, evP, evI, Ok_bind, Ok_ok, Ok_bad, Ok_some, Ok_bs, Ok_ite, asgT, asgR, asgT.asgTs, setAll, wipeT, biF, meF, binF, cmpF, bl?, List.getElem?_cons_zero, List.getElem?_cons_succ, List.set_cons_zero, List.set_cons_succ, List.map_cons, List.map_nil, List.replicate_succ, List.replicate_zero, List.cons_append, List.nil_append, Nat.sub_self, Nat.reduceSub, Nat.reduceAdd, ix2, e_isiT, trub]
          cases hb : isTup b with
          | false =>
            have e : (match b with
              | .tuple ds => if ds.all (oneOf ss) then PyData.none else .str "stack"
              | _ => .str "stack") = .str "stack" := by cases b <;> first | rfl | simp [isTup] at hb
            rw [e] at q
            simp only [Bool.not_false, if_true]
            exact Ok_end0 hc rfl rfl q
          | true =>
            obtain ⟨es, rfl⟩ := isTup_of hb
            have hl : es.length ≤ lim := by
              have := hv.we
              simp only [PyData.weight, PyData.weightAll] at this
              have f : ∀ l : List PyData, l.length ≤ PyData.weightAll l := fun l => by
                induction l with
                | nil => exact Nat.zero_le _
                | cons x r ih => simp only [PyData.weightAll, List.length_cons]; omega
              have := f es
              omega
            simp only [Bool.not_true, Bool.false_eq_true, if_false, bx_law_state_word_1, So_cs, So_nl, So_then, So_ite, So_nx, So_ret, So_bk, So_ct, evS, evE, evEs, evT, evTa, evTo, evAn, evOr, evAs, evP, evI, Ok_bind, Ok_ok, Ok_bad, Ok_some, Ok_bs, Ok_ite, asgT, asgR, asgT.asgTs, setAll, wipeT, biF, meF, binF, cmpF, bl?, List.getElem?_cons_zero, List.getElem?_cons_succ, List.set_cons_zero, List.set_cons_succ, List.map_cons, List.map_nil, List.replicate_succ, List.replicate_zero, List.cons_append, List.nil_append, Nat.sub_self, Nat.reduceSub, Nat.reduceAdd, ix2, itemsT, stillp, if_true]
            refine Ok_lcD (fun d => if oneOf ss d then none else some (.int 1)) (fun d hd => ?_) ?_
            · simp only [So_cs, So_nl, So_then, So_ite, So_nx, So_ret, So_bk, So_ct, evS, evE, evEs, evT, evTa, evTo, evAn, evOr, evAs, evP, evI, Ok_bind, Ok_ok, Ok_bad, Ok_some, Ok_bs, Ok_ite, asgT, asgR, asgT.asgTs, setAll, wipeT, biF, meF, binF, cmpF, bl?, List.getElem?_cons_zero, List.getElem?_cons_succ, List.set_cons_zero, List.set_cons_succ, List.map_cons, List.map_nil, List.replicate_succ, List.replicate_zero, List.cons_append, List.nil_append, Nat.sub_self, Nat.reduceSub, Nat.reduceAdd, e_isiS, trub, ix5]
              have ho : oneOf ss d = (isStr d && inP d ss) := rfl
              cases hd : isStr d with
              | false =>
                rw [ho, hd]
                simp
              | true =>
                rw [ho, hd]
                simp only [Bool.not_true, Bool.false_eq_true, if_false, (fIn_str hd hs).2, So_cs, So_nl, So_then, So_ite, So_nx, So_ret, So_bk, So_ct, evS, evE, evEs, evT, evTa, evTo, evAn, evOr, evAs, evP, evI, Ok_bind, Ok_ok, Ok_bad, Ok_some, Ok_bs, Ok_ite, asgT, asgR, asgT.asgTs, setAll, wipeT, biF, meF, binF, cmpF, bl?, List.getElem?_cons_zero, List.getElem?_cons_succ, List.set_cons_zero, List.set_cons_succ, List.map_cons, List.map_nil, List.replicate_succ, List.replicate_zero, List.cons_append, List.nil_append, Nat.sub_self, Nat.reduceSub, Nat.reduceAdd, trub, Bool.true_and]
                cases inP d ss <;> simp
            · have hf : ∀ l : List PyData, (∀ x ∈ l.filterMap (fun d => if oneOf ss d then (none : Option PyData) else some (.int 1)), x = .int 1) ∧ (l.filterMap (fun d => if oneOf ss d then (none : Option PyData) else some (.int 1))).length ≤ l.length ∧ (l.filterMap (fun d => if oneOf ss d then (none : Option PyData) else some (.int 1))).isEmpty = l.all (oneOf ss) := by
                intro l
                induction l with
                | nil => exact ⟨(fun x h => nomatch h), Nat.le_refl _, rfl⟩
                | cons d r ih =>
                  obtain ⟨i1, i2, i3⟩ := ih
                  rw [List.filterMap_cons]
                  cases hd : oneOf ss d with
                  | true => simp only [if_true, List.all_cons, hd, Bool.true_and]; exact ⟨i1, by simp only [List.length_cons]; omega, i3⟩
                  | false =>
                    simp only [Bool.false_eq_true, if_false, List.all_cons, hd, Bool.false_and]
                    exact ⟨fun x hx => by rcases List.mem_cons.mp hx with h | h; exact h; exact i1 x h, by simp only [List.length_cons]; omega, rfl⟩
              obtain ⟨f1, f2, f3⟩ := hf es
              revert f1 f2 f3
              generalize List.filterMap _ es = l
              intro f1 f2 f3
              rw [mkL _ (by omega)]
              have hsh : shapedB (.list l) = true := sh_list fun d hd => by rw [f1 d hd]; exact ⟨rfl, Nat.zero_le _⟩
              have en : ∀ S : Sto, fNe S (.p (.list l)) (.p (.list [])) = some (.p (.bool (!l.isEmpty)), S) := fun S => by
                rw [e_neD rfl rfl hsh rfl]
                cases l <;> rfl
              simp only [So_cs, So_nl, So_then, So_ite, So_nx, So_ret, So_bk, So_ct, evS, evE, evEs, evT, evTa, evTo, evAn, evOr, evAs, evP, evI, Ok_bind, Ok_ok, Ok_bad, Ok_some, Ok_bs, Ok_ite, asgT, asgR, asgT.asgTs, setAll, wipeT, biF, meF, binF, cmpF, bl?, List.getElem?_cons_zero, List.getElem?_cons_succ, List.set_cons_zero, List.set_cons_succ, List.map_cons, List.map_nil, List.replicate_succ, List.replicate_zero, List.cons_append, List.nil_append, Nat.sub_self, Nat.reduceSub, Nat.reduceAdd, mkL0, en, trub]
              rw [f3]
              cases ha : es.all (oneOf ss) with
              | true =>
                simp only [ha, if_true] at q
                simp only [Bool.not_true, Bool.false_eq_true, if_false]
                exact Ok_end0 hc rfl rfl q
              | false =>
                simp only [ha, Bool.false_eq_true, if_false] at q
                simp only [Bool.not_false, if_true]
                exact Ok_end0 hc rfl rfl q
    · rw [decide_eq_false h2]
      have : stW (.tuple [x0, .tuple ms, .tuple ss, x3, x4]) (.tuple ds) = .str "state" := by
        match ds, h2 with
        | [], _ => rfl
        | [_], _ => rfl
        | [_, _], h => exact absurd rfl h
        | _ :: _ :: _ :: _, _ => rfl
      rw [this] at q
      simp only [Bool.not_false, if_true]
      exact Ok_end0 hc rfl rfl q
end
end Pv
end

section
set_option maxRecDepth 10000
set_option maxHeartbeats 4000000
namespace Pv
open PySem PySem.Spec L2
open PyProof.Rows hiding St

/-! ## states, bent values: told -/
section
variable {Y : Cxt} {T : List Fd}
theorem args2 {X : Cx2} {vs : List PyData} {R : Sto} {t u : Ty} {s z : Sym} {ws : List W} (q : Paired (VR X vs R) [.p t s, .p u z] ws) : ∃ a b, ws = [.p a, .p b] ∧ X.In vs t a ∧ den X.F vs s = some a ∧ X.In vs u b ∧ den X.F vs z = some b := by
  cases q with
  | cons a r =>
    cases r with
    | cons b r =>
      cases r
      obtain ⟨x, rfl, h1, h2⟩ := a
      obtain ⟨y, rfl, h3, h4⟩ := b
      exact ⟨x, y, rfl, h1, h2, h3, h4⟩
theorem cloS {B R : Sto} (hB : (X1 Y).Bp B) (hR : CloX (X1 Y) R) : Clo (B ++ R) := by
  obtain ⟨s, rfl⟩ := hB
  exact clo_spr (s := s) (cloR_of hR)
theorem flat_strs {vs : List PyData} {X : Cxt} {n lo hi : Nat} {d : PyData} (h : X.In vs (.seqN false (.str n) lo hi) d) : ∃ ds, d = .tuple ds ∧ ds.all flatP = true ∧ lo ≤ ds.length ∧ ds.length ≤ hi ∧ ∀ x ∈ ds, ∃ y, x = .str y ∧ PyData.strOk y = true ∧ y.length ≤ n := by
  obtain ⟨ds, rfl, h1, h2, h3⟩ := h
  refine ⟨ds, rfl, List.all_eq_true.mpr fun x hx => ?_, h2, h3, h1⟩
  obtain ⟨y, rfl, _⟩ := h1 x hx
  rfl
theorem appT_inv {vs : List PyData} {X : Cxt} {d : PyData} (h : X.In vs appT d) : ∃ x0 ms ss x3 x4, d = .tuple [x0, .tuple ms, .tuple ss, x3, x4] ∧ ms.all flatP = true ∧ ss.all flatP = true := by
  obtain ⟨_, rfl, x0, _, rfl, _, x1, _, rfl, h1, x2, _, rfl, h2, x3, _, rfl, _, x4, _, rfl, _, rfl⟩ := h
  obtain ⟨ms, rfl, m1, _⟩ := flat_strs h1
  obtain ⟨ss, rfl, s1, _⟩ := flat_strs h2
  exact ⟨_, _, _, _, _, rfl, m1, s1⟩
def words : Ty := .one [.none, .str "state", .str "mode", .str "stack"]
theorem stW_in (a v : PyData) : stW a v ∈ [PyData.none, .str "state", .str "mode", .str "stack"] := by
  unfold stW
  split
  · split
    · split
      · split
        · split <;> simp
        · simp
      · simp
    · simp
  · simp
/-- the word against a state, by the number f -/
def ctSt (ex : Nat → Option Ty) (f : Nat) : Ct := fun avs => match avs with
  | [.p t s, .p u z] => match wbx ex u with
    | some (w, _) => if sub FU (xp ex t) appT && decide (w ≤ lim) then some (words, some (.f f (.cs s (.cs z .nl)))) else none
    | none => none
  | _ => none
theorem ctSt_in {f : Nat} {avs : List AV} {t : Ty} {so : Option Sym} (h : ctSt Y.ex f avs = some (t, so)) (hF : ∀ a v, Y.F f [a, v] = stW a v) {vs : List PyData} {R : Sto} {ws : List W} (q : Paired (VR (X1 Y) vs R) avs ws) :
    ∃ x0 ms ss x3 x4 v w n, ws = [.p (.tuple [x0, .tuple ms, .tuple ss, x3, x4]), .p v] ∧ ms.all flatP = true ∧ ss.all flatP = true ∧ Fv w n v ∧ w ≤ lim ∧ Y.In vs t (stW (.tuple [x0, .tuple ms, .tuple ss, x3, x4]) v) ∧ ∀ s, so = some s → den Y.F vs s = some (stW (.tuple [x0, .tuple ms, .tuple ss, x3, x4]) v) := by
  unfold ctSt at h
  split at h
  · split at h
    · rename_i e
      split at h
      · rename_i hc
        cases h
        simp only [Bool.and_eq_true, decide_eq_true_eq] at hc
        obtain ⟨a, v, rfl, h1, h2, h3, h4⟩ := args2 q
        obtain ⟨x0, ms, ss, x3, x4, rfl, m1, s1⟩ := appT_inv (X := Y) (xsub hc.1 h1)
        refine ⟨x0, ms, ss, x3, x4, v, _, _, rfl, m1, s1, wbx_ok e h3, hc.2, stW_in _ _, fun s hs => ?_⟩
        cases hs
        have h2' : den Y.F vs _ = _ := h2
        have h4' : den Y.F vs _ = _ := h4
        simp only [den, dens, h2', h4', Option.map, hF]
      · cases h
    · cases h
  · cases h
theorem ctStE_ok {i iO f : Nat} (hO : T[iO]? = some fxis_one) (h : T[i]? = some (fxstate_error iO)) (hF : ∀ a v, Y.F f [a, v] = stW a v) : CtOk (X1 Y) T i 2 (ctSt Y.ex f) := by
  intro k hk avs t so hs vs B R ws hB hR q
  obtain ⟨k, rfl⟩ : ∃ k', k = k' + 2 := ⟨k - 2, by omega⟩
  obtain ⟨x0, ms, ss, x3, x4, v, w, n, rfl, m1, s1, f1, f2, f3, f4⟩ := ctSt_in hs hF q
  exact stErr_ok hO h (cloS hB hR) m1 s1 f1 f2 ⟨B, _, hB, rfl, rfl, f3, f4⟩
theorem ctStW_ok {i f : Nat} (h : T[i]? = some fx_law_state_word) (hF : ∀ a v, Y.F f [a, v] = stW a v) : CtOk (X1 Y) T i 1 (ctSt Y.ex f) := by
  intro k hk avs t so hs vs B R ws hB hR q
  obtain ⟨k, rfl⟩ : ∃ k', k = k' + 1 := ⟨k - 1, by omega⟩
  obtain ⟨x0, ms, ss, x3, x4, v, w, n, rfl, m1, s1, f1, f2, f3, f4⟩ := ctSt_in hs hF q
  exact stWd_ok h (cloS hB hR) m1 s1 f1 f2 ⟨B, _, hB, rfl, rfl, f3, f4⟩
def ctBent (ex : Nat → Option Ty) : Ct := fun avs => match avs with
  | [.spr, .p t _] => match asTup ex t with
    | some (w, n) => if w ≤ 100000 ∧ n ≤ 20 then some (.any false (2 * w + 402) (n + 4), none) else none
    | none => none
  | _ => none
theorem ctBent_ok {i iD iP iO : Nat} (hD : T[iD]? = some fx_law_drop) (hP : T[iP]? = some (fx_law_pick iD)) (hO : T[iO]? = some (fx_law_odd iP)) (h : T[i]? = some (fx_law_bent i iD iO iP)) : CtOk (X1 Y) T i 24 (ctBent Y.ex) := by
  intro k hk avs t so hs vs B R ws hB hR q
  obtain ⟨k, rfl⟩ : ∃ k', k = k' + 4 := ⟨k - 4, by omega⟩
  unfold ctBent at hs
  split at hs
  · split at hs
    · rename_i w n e
      split at hs
      · rename_i hc
        cases hs
        obtain ⟨d, rfl, h1, h2⟩ := two_args q
        obtain ⟨ds, rfl, h3, h4⟩ := asTup_ok e h1
        obtain ⟨s, rfl⟩ := hB
        show Ok (callN T (k + 4) i [.r 1, .p (.tuple ds)] (Spr s R)) _ _
        refine bent_ok hD hP hO h (cloR_of hR) (n - 1) k w ds s _ (by omega) h4 hc.1 fun d s' hd => ?_
        exact ⟨_, _, ⟨s', rfl⟩, rfl, rfl, ⟨hd.mono (Nat.le_refl _) (by omega), fun z => by cases z⟩, fun s z => by cases z⟩
      · cases hs
    · cases hs
  · cases hs
end
end Pv
end

section
set_option maxRecDepth 10000
set_option maxHeartbeats 4000000
namespace Pv
open PySem PySem.Spec L2
open PyProof.Rows hiding St
/-! trees of defs that several laws share (printed by gen.py) -/
def nxis_integer : List Str := ["value", "low", "high"]
def bxis_integer : Sx := (.cs (.ret (.an (.cs (.isi (.v 0) .int) (.cs (.no (.isi (.v 0) .bl)) (.cs (.chain .LtE .LtE (.v 1) (.v 0) (.v 2)) .nl))))) .nl)
/-- is_integer(value, low, high) -/
def fxis_integer : Fd := ⟨3, 3, true, bxis_integer⟩
def nxrun_word : List Str := ["app", "value"]
def bxrun_word_1 (cis_integer : Nat) (cis_one : Nat) : Sx := (.cs (.ret (.ife (.tt (.call cis_integer (.cs (.ix (.v 1) (.k (.int 1))) (.cs (.k (.int 1)) (.cs (.g "MOST" (.int 1000000000000000000)) .nl))))) (.k .none) (.k (.str "many")))) .nl)
def bxrun_word_2 (cis_integer : Nat) (cis_one : Nat) : Sx := (.cs (.iff (.no (.tt (.call cis_one (.cs (.ix (.v 1) (.k (.int 0))) (.cs (.ix (.v 0) (.k (.int 2))) .nl))))) (.cs (.ret (.k (.str "screen"))) .nl) .nl) (bxrun_word_1 cis_integer cis_one))
def bxrun_word (cis_integer : Nat) (cis_one : Nat) : Sx := (.cs (.iff (.orr (.cs (.no (.tt (.isi (.v 1) .tup))) (.cs (.tt (.cmp .NotEq (.bi .len (.cs (.v 1) .nl)) (.k (.int 2)))) .nl))) (.cs (.ret (.k (.str "run"))) .nl) .nl) (bxrun_word_2 cis_integer cis_one))
/-- run_word(app, value) -/
def fxrun_word (cis_integer : Nat) (cis_one : Nat) : Fd := ⟨2, 2, true, bxrun_word cis_integer cis_one⟩
def nxpile_error : List Str := ["app", "value", "index", "run", "word"]
def bxpile_error_1 (crun_word : Nat) : Sx := (.cs (.ret (.k .none)) .nl)
def bxpile_error_2 (crun_word : Nat) : Sx := (.cs (.asg (.n 4) (.call crun_word (.cs (.v 0) (.cs (.v 3) .nl)))) (.cs (.iff (.tt (.cmp .IsNot (.v 4) (.k .none))) (.cs (.ret (.tup (.cs (.v 2) (.cs (.v 4) .nl)))) .nl) .nl) .nl))
def bxpile_error_3 (crun_word : Nat) : Sx := (.cs (.for_ (.cs (.n 2) (.cs (.n 3) .nl)) (.iEnum (.v 1)) (bxpile_error_2 crun_word)) (bxpile_error_1 crun_word))
def bxpile_error (crun_word : Nat) : Sx := (.cs (.iff (.orr (.cs (.no (.tt (.isi (.v 1) .tup))) (.cs (.tt (.cmp .Gt (.bi .len (.cs (.v 1) .nl)) (.g "MAX_RUNS" (.int 12)))) .nl))) (.cs (.ret (.tup (.cs (.k .none) (.cs (.k (.str "pile")) .nl)))) .nl) .nl) (bxpile_error_3 crun_word))
/-- pile_error(app, value) -/
def fxpile_error (crun_word : Nat) : Fd := ⟨2, 5, true, bxpile_error crun_word⟩
def nx_law_pile_error : List Str := ["_law_app_here", "_law_value", "_law_k", "_law_run"]
def bx_law_pile_error_1 : Sx := (.cs (.ret (.k .none)) .nl)
def bx_law_pile_error_2 : Sx := (.cs (.iff (.orr (.cs (.no (.tt (.isi (.ix (.v 3) (.k (.int 1))) .int))) (.cs (.tt (.isi (.ix (.v 3) (.k (.int 1))) .bl)) (.cs (.no (.tt (.chain .LtE .LtE (.k (.int 1)) (.ix (.v 3) (.k (.int 1))) (.op .Pow (.k (.int 10)) (.k (.int 18)))))) .nl)))) (.cs (.ret (.tup (.cs (.v 2) (.cs (.k (.str "many")) .nl)))) .nl) .nl) .nl)
def bx_law_pile_error_3 : Sx := (.cs (.iff (.orr (.cs (.no (.tt (.isi (.ix (.v 3) (.k (.int 0))) .str))) (.cs (.tt (.cmp .NotIn (.ix (.v 3) (.k (.int 0))) (.ix (.v 0) (.k (.int 2))))) .nl))) (.cs (.ret (.tup (.cs (.v 2) (.cs (.k (.str "screen")) .nl)))) .nl) .nl) (bx_law_pile_error_2))
def bx_law_pile_error_4 : Sx := (.cs (.asg (.n 3) (.ix (.v 1) (.v 2))) (.cs (.iff (.orr (.cs (.no (.tt (.isi (.v 3) .tup))) (.cs (.tt (.cmp .NotEq (.bi .len (.cs (.v 3) .nl)) (.k (.int 2)))) .nl))) (.cs (.ret (.tup (.cs (.v 2) (.cs (.k (.str "run")) .nl)))) .nl) .nl) (bx_law_pile_error_3)))
def bx_law_pile_error_5 : Sx := (.cs (.for_ (.n 2) (.iRng (.bi .len (.cs (.v 1) .nl))) (bx_law_pile_error_4)) (bx_law_pile_error_1))
def bx_law_pile_error : Sx := (.cs (.iff (.orr (.cs (.no (.tt (.isi (.v 1) .tup))) (.cs (.tt (.cmp .Gt (.bi .len (.cs (.v 1) .nl)) (.k (.int 12)))) .nl))) (.cs (.ret (.tup (.cs (.k .none) (.cs (.k (.str "pile")) .nl)))) .nl) .nl) (bx_law_pile_error_5))
/-- _law_pile_error(_law_app_here, _law_value) -/
def fx_law_pile_error : Fd := ⟨2, 4, true, bx_law_pile_error⟩
end Pv
end

section
set_option maxRecDepth 10000
set_option maxHeartbeats 4000000
namespace Pv
open PySem PySem.Spec L2
open PyProof.Rows hiding St

/-! ## what is no pile -/
def intIn (lo hi : Int) : PyData → Bool
  | .int i => decide (lo ≤ i) && decide (i ≤ hi)
  | _ => false
def runW (ss : List PyData) (v : PyData) : PyData := match v with
  | .tuple [a, b] => if oneOf ss a then (if intIn 1 (10 ^ 18) b then .none else .str "many") else .str "screen"
  | _ => .str "run"
def firstE (ss : List PyData) : Nat → List PyData → PyData
  | _, [] => .none
  | i, d :: r => if isNone (runW ss d) then firstE ss (i + 1) r else .tuple [.int i, runW ss d]
def pileE (ss : List PyData) (v : PyData) : PyData := match v with
  | .tuple ds => if 12 < ds.length then .tuple [.none, .str "pile"] else firstE ss 0 ds
  | _ => .tuple [.none, .str "pile"]
theorem e_isiK (d : PyData) : (isiB (.p d) .int && !isiB (.p d) .bl) = (match d with
  | .int _ => true
  | _ => false) := by cases d <;> rfl
section
variable {T : List Fd} {k i iO iI iR : Nat} {S : Sto} {x0 x1 x3 x4 v : PyData} {ss : List PyData}
theorem isInt_ok (h : T[i]? = some fxis_integer) (hc : Clo S) {lo hi : Int} {d : PyData} {Q : W → Sto → Prop} {E : Xc → Sto → Prop} (q : Q (.p (.bool (intIn lo hi d))) S) : Ok (callN T (k + 1) i [.p d, .p (.int lo), .p (.int hi)] S) Q E := by
  refine Ok_call h rfl ?_
  simp only [fxis_integer, bxis_integer, So_cs, So_nl, So_then, So_ite, So_nx, So_ret, So_bk, So_ct, evS, evE, evEs, evT, evTa, evTo, evAn, evOr, evAs, evP, evI, Ok_bind, Ok_ok, Ok_bad, Ok_some, Ok_bs, Ok_ite, asgT, asgR, asgT.asgTs, setAll, wipeT, biF, meF, binF, cmpF, bl?, List.getElem?_cons_zero, List.getElem?_cons_succ, List.set_cons_zero, List.set_cons_succ, List.map_cons, List.map_nil, List.replicate_succ, List.replicate_zero, List.cons_append, List.nil_append, Nat.sub_self, Nat.reduceSub, Nat.reduceAdd]
  cases d with
  | int j =>
    have e1 : isiB (.p (.int j)) .int = true := rfl
    have e2 : isiB (.p (.int j)) .bl = false := rfl
    simp only [e1, e2, Bool.not_false, if_true, So_cs, So_nl, So_then, So_ite, So_nx, So_ret, So_bk, So_ct, evS, evE, evEs, evT, evTa, evTo, evAn, evOr, evAs, evP, evI, Ok_bind, Ok_ok, Ok_bad, Ok_some, Ok_bs, Ok_ite, asgT, asgR, asgT.asgTs, setAll, wipeT, biF, meF, binF, cmpF, bl?, List.getElem?_cons_zero, List.getElem?_cons_succ, List.set_cons_zero, List.set_cons_succ, List.map_cons, List.map_nil, List.replicate_succ, List.replicate_zero, List.cons_append, List.nil_append, Nat.sub_self, Nat.reduceSub, Nat.reduceAdd, e_le]
    cases h1 : decide (lo ≤ j) with
    | false =>
      simp only [Bool.false_eq_true, if_false]
      refine Ok_end0 hc rfl rfl ?_
      simp only [intIn, h1, Bool.false_and] at q
      exact q
    | true =>
      simp only [if_true]
      refine Ok_end0 hc rfl rfl ?_
      simp only [intIn, h1, Bool.true_and] at q
      exact q
  | bool b =>
    have e1 : isiB (.p (.bool b)) .int = true := rfl
    have e2 : isiB (.p (.bool b)) .bl = true := rfl
    simp only [e1, e2, Bool.not_true, Bool.false_eq_true, if_true, if_false, So_cs, So_nl, So_then, So_ite, So_nx, So_ret, So_bk, So_ct, evS, evE, evEs, evT, evTa, evTo, evAn, evOr, evAs, evP, evI, Ok_bind, Ok_ok, Ok_bad, Ok_some, Ok_bs, Ok_ite, asgT, asgR, asgT.asgTs, setAll, wipeT, biF, meF, binF, cmpF, bl?, List.getElem?_cons_zero, List.getElem?_cons_succ, List.set_cons_zero, List.set_cons_succ, List.map_cons, List.map_nil, List.replicate_succ, List.replicate_zero, List.cons_append, List.nil_append, Nat.sub_self, Nat.reduceSub, Nat.reduceAdd]
    exact Ok_end0 hc rfl rfl q
  | none => exact Ok_end0 hc rfl rfl q
  | str x => exact Ok_end0 hc rfl rfl q
  | list x => exact Ok_end0 hc rfl rfl q
  | tuple x => exact Ok_end0 hc rfl rfl q
  | dict x => exact Ok_end0 hc rfl rfl q
theorem runW_not {v : PyData} (h : ∀ a b, v ≠ .tuple [a, b]) : runW ss v = .str "run" := by
  unfold runW
  split
  · rename_i a b; exact absurd rfl (h a b)
  · rfl
theorem two_or (v : PyData) : (∃ a b, v = .tuple [a, b]) ∨ ((∀ a b, v ≠ .tuple [a, b]) ∧ (isTup v = false ∨ ∃ ds, v = .tuple ds ∧ (ds.length : Int) ≠ 2)) := by
  cases v with
  | tuple ds =>
    match ds with
    | [] => exact .inr ⟨fun a b h => by simp at h, .inr ⟨_, rfl, by decide⟩⟩
    | [a] => exact .inr ⟨fun a b h => by simp at h, .inr ⟨_, rfl, by simp⟩⟩
    | [a, b] => exact .inl ⟨a, b, rfl⟩
    | a :: b :: c :: r => exact .inr ⟨fun a b h => by simp at h, .inr ⟨_, rfl, by simp; omega⟩⟩
  | _ => exact .inr ⟨(fun a b h => nomatch h), .inl rfl⟩
theorem runWord_ok (hO : T[iO]? = some fxis_one) (hI : T[iI]? = some fxis_integer) (h : T[i]? = some (fxrun_word iI iO)) (hc : Clo S) (hs : ss.all flatP = true) {Q : W → Sto → Prop} {E : Xc → Sto → Prop} (q : Q (.p (runW ss v)) S) :
    Ok (callN T (k + 2) i [.p (.tuple [x0, x1, .tuple ss, x3, x4]), .p v] S) Q E := by
  refine Ok_call h rfl ?_
  simp only [fxrun_word, bxrun_word, So_cs, So_nl, So_then, So_ite, So_nx, So_ret, So_bk, So_ct, evS, evE, evEs, evT, evTa, evTo, evAn, evOr, evAs, evP, evI, Ok_bind, Ok_ok, Ok_bad, Ok_some, Ok_bs, Ok_ite, asgT, asgR, asgT.asgTs, setAll, wipeT, biF, meF, binF, cmpF, bl?, List.getElem?_cons_zero, List.getElem?_cons_succ, List.set_cons_zero, List.set_cons_succ, List.map_cons, List.map_nil, List.replicate_succ, List.replicate_zero, List.cons_append, List.nil_append, Nat.sub_self, Nat.reduceSub, Nat.reduceAdd, e_isiT]
  rcases two_or v with ⟨a, b, rfl⟩ | ⟨hn, hv⟩
  · have e1 : isTup (.tuple [a, b]) = true := rfl
    have e2 : (decide (((2 : Nat) : Int) = 2)) = true := rfl
    simp only [e1, trub, So_cs, So_nl, So_then, So_ite, So_nx, So_ret, So_bk, So_ct, evS, evE, evEs, evT, evTa, evTo, evAn, evOr, evAs, evP, evI, Ok_bind, Ok_ok, Ok_bad, Ok_some, Ok_bs, Ok_ite, asgT, asgR, asgT.asgTs, setAll, wipeT, biF, meF, binF, cmpF, bl?, List.getElem?_cons_zero, List.getElem?_cons_succ, List.set_cons_zero, List.set_cons_succ, List.map_cons, List.map_nil, List.replicate_succ, List.replicate_zero, List.cons_append, List.nil_append, Nat.sub_self, Nat.reduceSub, Nat.reduceAdd, Bool.not_true, Bool.false_eq_true, if_false, e_lenT, ne_int, List.length_cons, List.length_nil, e2, bxrun_word_2, ix2, ix5]
    refine isOne_ok hO hc hs ?_
    have eq : runW ss (.tuple [a, b]) = if oneOf ss a then (if intIn 1 (10 ^ 18) b then .none else .str "many") else .str "screen" := rfl
    rw [eq] at q
    cases ho : oneOf ss a with
    | false =>
      simp only [ho, Bool.false_eq_true, if_false] at q
      simp only [trub, So_cs, So_nl, So_then, So_ite, So_nx, So_ret, So_bk, So_ct, evS, evE, evEs, evT, evTa, evTo, evAn, evOr, evAs, evP, evI, Ok_bind, Ok_ok, Ok_bad, Ok_some, Ok_bs, Ok_ite, asgT, asgR, asgT.asgTs, setAll, wipeT, biF, meF, binF, cmpF, bl?, List.getElem?_cons_zero, List.getElem?_cons_succ, List.set_cons_zero, List.set_cons_succ, List.map_cons, List.map_nil, List.replicate_succ, List.replicate_zero, List.cons_append, List.nil_append, Nat.sub_self, Nat.reduceSub, Nat.reduceAdd, Bool.not_false, if_true]
      exact Ok_end0 hc rfl rfl q
    | true =>
      simp only [ho, if_true] at q
      simp only [trub, So_cs, So_nl, So_then, So_ite, So_nx, So_ret, So_bk, So_ct, evS, evE, evEs, evT, evTa, evTo, evAn, evOr, evAs, evP, evI, Ok_bind, Ok_ok, Ok_bad, Ok_some, Ok_bs, Ok_ite, asgT, asgR, asgT.asgTs, setAll, wipeT, biF, meF, binF, cmpF, bl?, List.getElem?_cons_zero, List.getElem?_cons_succ, List.set_cons_zero, List.set_cons_succ, List.map_cons, List.map_nil, List.replicate_succ, List.replicate_zero, List.cons_append, List.nil_append, Nat.sub_self, Nat.reduceSub, Nat.reduceAdd, Bool.not_true, Bool.false_eq_true, if_false, bxrun_word_1, ix2]
      refine isInt_ok hI hc ?_
      simp only [trub, So_cs, So_nl, So_then, So_ite, So_nx, So_ret, So_bk, So_ct, evS, evE, evEs, evT, evTa, evTo, evAn, evOr, evAs, evP, evI, Ok_bind, Ok_ok, Ok_bad, Ok_some, Ok_bs, Ok_ite, asgT, asgR, asgT.asgTs, setAll, wipeT, biF, meF, binF, cmpF, bl?, List.getElem?_cons_zero, List.getElem?_cons_succ, List.set_cons_zero, List.set_cons_succ, List.map_cons, List.map_nil, List.replicate_succ, List.replicate_zero, List.cons_append, List.nil_append, Nat.sub_self, Nat.reduceSub, Nat.reduceAdd]
      cases hb : intIn 1 1000000000000000000 b with
      | true =>
        have hb' : intIn 1 (10 ^ 18) b = true := hb
        rw [hb', if_pos rfl] at q
        simp only [if_true, So_cs, So_nl, So_then, So_ite, So_nx, So_ret, So_bk, So_ct, evS, evE, evEs, evT, evTa, evTo, evAn, evOr, evAs, evP, evI, Ok_bind, Ok_ok, Ok_bad, Ok_some, Ok_bs, Ok_ite, asgT, asgR, asgT.asgTs, setAll, wipeT, biF, meF, binF, cmpF, bl?, List.getElem?_cons_zero, List.getElem?_cons_succ, List.set_cons_zero, List.set_cons_succ, List.map_cons, List.map_nil, List.replicate_succ, List.replicate_zero, List.cons_append, List.nil_append, Nat.sub_self, Nat.reduceSub, Nat.reduceAdd]
        exact Ok_end0 hc rfl rfl q
      | false =>
        have hb' : intIn 1 (10 ^ 18) b = false := hb
        rw [hb', if_neg (by decide)] at q
        simp only [Bool.false_eq_true, if_false, So_cs, So_nl, So_then, So_ite, So_nx, So_ret, So_bk, So_ct, evS, evE, evEs, evT, evTa, evTo, evAn, evOr, evAs, evP, evI, Ok_bind, Ok_ok, Ok_bad, Ok_some, Ok_bs, Ok_ite, asgT, asgR, asgT.asgTs, setAll, wipeT, biF, meF, binF, cmpF, bl?, List.getElem?_cons_zero, List.getElem?_cons_succ, List.set_cons_zero, List.set_cons_succ, List.map_cons, List.map_nil, List.replicate_succ, List.replicate_zero, List.cons_append, List.nil_append, Nat.sub_self, Nat.reduceSub, Nat.reduceAdd]
        exact Ok_end0 hc rfl rfl q
  · rw [runW_not hn] at q
    rcases hv with hv | ⟨ds, rfl, hl⟩
    · simp only [hv, trub, So_cs, So_nl, So_then, So_ite, So_nx, So_ret, So_bk, So_ct, evS, evE, evEs, evT, evTa, evTo, evAn, evOr, evAs, evP, evI, Ok_bind, Ok_ok, Ok_bad, Ok_some, Ok_bs, Ok_ite, asgT, asgR, asgT.asgTs, setAll, wipeT, biF, meF, binF, cmpF, bl?, List.getElem?_cons_zero, List.getElem?_cons_succ, List.set_cons_zero, List.set_cons_succ, List.map_cons, List.map_nil, List.replicate_succ, List.replicate_zero, List.cons_append, List.nil_append, Nat.sub_self, Nat.reduceSub, Nat.reduceAdd, Bool.not_false, if_true]
      exact Ok_end0 hc rfl rfl q
    · have e1 : isTup (.tuple ds) = true := rfl
      simp only [e1, trub, So_cs, So_nl, So_then, So_ite, So_nx, So_ret, So_bk, So_ct, evS, evE, evEs, evT, evTa, evTo, evAn, evOr, evAs, evP, evI, Ok_bind, Ok_ok, Ok_bad, Ok_some, Ok_bs, Ok_ite, asgT, asgR, asgT.asgTs, setAll, wipeT, biF, meF, binF, cmpF, bl?, List.getElem?_cons_zero, List.getElem?_cons_succ, List.set_cons_zero, List.set_cons_succ, List.map_cons, List.map_nil, List.replicate_succ, List.replicate_zero, List.cons_append, List.nil_append, Nat.sub_self, Nat.reduceSub, Nat.reduceAdd, Bool.not_true, Bool.false_eq_true, if_false, e_lenT, ne_int, decide_eq_false hl, Bool.not_false, if_true]
      exact Ok_end0 hc rfl rfl q
theorem runW_some {d : PyData} (h : isNone (runW ss d) = false) : ∃ x, runW ss d = .str x := by
  rcases two_or d with ⟨a, b, rfl⟩ | ⟨hn, _⟩
  · have eq : runW ss (.tuple [a, b]) = if oneOf ss a then (if intIn 1 (10 ^ 18) b then .none else .str "many") else .str "screen" := rfl
    rw [eq] at h ⊢
    generalize oneOf ss a = y at h ⊢
    cases y with
    | false => exact ⟨_, rfl⟩
    | true =>
      rw [if_pos rfl] at h ⊢
      generalize intIn 1 (10 ^ 18) b = z at h ⊢
      cases z with
      | false => exact ⟨_, rfl⟩
      | true => cases h
  · exact ⟨_, runW_not hn⟩
theorem firstE_drop {ds : List PyData} {j : Nat} {d : PyData} (hd : ds[j]? = some d) : firstE ss j (ds.drop j) = if isNone (runW ss d) then firstE ss (j + 1) (ds.drop (j + 1)) else .tuple [.int j, runW ss d] := by
  have hj := (List.getElem?_eq_some_iff.mp hd).1
  have := (List.getElem?_eq_some_iff.mp hd).2
  rw [List.drop_eq_getElem_cons hj, this]
  rfl
theorem enum_at : ∀ {ws : List W} {i : Nat} {pre post : List Row} {r : Row}, enumR i ws = pre ++ r :: post → ∃ w, ws[pre.length]? = some w ∧ r = .two (.p (.int ((i + pre.length : Nat) : Int))) w
  | [], i, pre, post, r, h => by cases pre <;> simp [enumR] at h
  | w :: ws, i, pre, post, r, h => by
    cases pre with
    | nil =>
      simp only [enumR, List.nil_append] at h
      cases h
      exact ⟨w, rfl, rfl⟩
    | cons a pre =>
      simp only [enumR, List.cons_append, List.cons.injEq] at h
      obtain ⟨v, h1, h2⟩ := enum_at h.2
      refine ⟨v, by simpa using h1, ?_⟩
      rw [h2, List.length_cons]
      congr 4
      omega
theorem mkT2p {S : Sto} (a b : PyData) : mkTup [.p a, .p b] S = .ok (.p (.tuple [a, b])) S := rfl
theorem gt_pos {S : Sto} (i j : Int) (h : j < i) : fOrd (fun a b => PySem.W.dataLt b a) S (.p (.int i)) (.p (.int j)) = some (.p (.bool true), S) := by rw [e_gt, decide_eq_true h]
theorem gt_neg {S : Sto} (i j : Int) (h : ¬ j < i) : fOrd (fun a b => PySem.W.dataLt b a) S (.p (.int i)) (.p (.int j)) = some (.p (.bool false), S) := by rw [e_gt, decide_eq_false h]
theorem e_isNot {S : Sto} (d : PyData) : fIsN true S (.p d) (.p .none) = some (.p (.bool (!isNone d)), S) := by cases d <;> rfl
theorem pileErr_ok (hO : T[iO]? = some fxis_one) (hI : T[iI]? = some fxis_integer) (hR : T[iR]? = some (fxrun_word iI iO)) (h : T[i]? = some (fxpile_error iR)) (hc : Clo S) (hs : ss.all flatP = true) {Q : W → Sto → Prop} {E : Xc → Sto → Prop} (q : Q (.p (pileE ss v)) S) :
    Ok (callN T (k + 3) i [.p (.tuple [x0, x1, .tuple ss, x3, x4]), .p v] S) Q E := by
  refine Ok_call h rfl ?_
  simp only [fxpile_error, bxpile_error, So_cs, So_nl, So_then, So_ite, So_nx, So_ret, So_bk, So_ct, evS, evE, evEs, evT, evTa, evTo, evAn, evOr, evAs, evP, evI, Ok_bind, Ok_ok, Ok_bad, Ok_some, Ok_bs, Ok_ite, asgT, asgR, asgT.asgTs, setAll, wipeT, biF, meF, binF, cmpF, bl?, List.getElem?_cons_zero, List.getElem?_cons_succ, List.set_cons_zero, List.set_cons_succ, List.map_cons, List.map_nil, List.replicate_succ, List.replicate_zero, List.cons_append, List.nil_append, Nat.sub_self, Nat.reduceSub, Nat.reduceAdd, e_isiT]
  cases ht : isTup v with
  | false =>
    have : pileE ss v = .tuple [.none, .str "pile"] := by cases v <;> first | rfl | simp [isTup] at ht
    rw [this] at q
    simp only [trub, So_cs, So_nl, So_then, So_ite, So_nx, So_ret, So_bk, So_ct, evS, evE, evEs, evT, evTa, evTo, evAn, evOr, evAs, evP, evI, Ok_bind, Ok_ok, Ok_bad, Ok_some, Ok_bs, Ok_ite, asgT, asgR, asgT.asgTs, setAll, wipeT, biF, meF, binF, cmpF, bl?, List.getElem?_cons_zero, List.getElem?_cons_succ, List.set_cons_zero, List.set_cons_succ, List.map_cons, List.map_nil, List.replicate_succ, List.replicate_zero, List.cons_append, List.nil_append, Nat.sub_self, Nat.reduceSub, Nat.reduceAdd, Bool.not_false, if_true, mkT2p]
    exact Ok_end0 hc rfl rfl q
  | true =>
    obtain ⟨ds, rfl⟩ := isTup_of ht
    simp only [trub, So_cs, So_nl, So_then, So_ite, So_nx, So_ret, So_bk, So_ct, evS, evE, evEs, evT, evTa, evTo, evAn, evOr, evAs, evP, evI, Ok_bind, Ok_ok, Ok_bad, Ok_some, Ok_bs, Ok_ite, asgT, asgR, asgT.asgTs, setAll, wipeT, biF, meF, binF, cmpF, bl?, List.getElem?_cons_zero, List.getElem?_cons_succ, List.set_cons_zero, List.set_cons_succ, List.map_cons, List.map_nil, List.replicate_succ, List.replicate_zero, List.cons_append, List.nil_append, Nat.sub_self, Nat.reduceSub, Nat.reduceAdd, Bool.not_true, Bool.false_eq_true, if_false, e_lenT]
    by_cases hl : 12 < ds.length
    · rw [gt_pos _ _ (by omega), Ok_some]
      have : pileE ss (.tuple ds) = .tuple [.none, .str "pile"] := if_pos hl
      rw [this] at q
      simp only [trub, So_cs, So_nl, So_then, So_ite, So_nx, So_ret, So_bk, So_ct, evS, evE, evEs, evT, evTa, evTo, evAn, evOr, evAs, evP, evI, Ok_bind, Ok_ok, Ok_bad, Ok_some, Ok_bs, Ok_ite, asgT, asgR, asgT.asgTs, setAll, wipeT, biF, meF, binF, cmpF, bl?, List.getElem?_cons_zero, List.getElem?_cons_succ, List.set_cons_zero, List.set_cons_succ, List.map_cons, List.map_nil, List.replicate_succ, List.replicate_zero, List.cons_append, List.nil_append, Nat.sub_self, Nat.reduceSub, Nat.reduceAdd, if_true, mkT2p]
      exact Ok_end0 hc rfl rfl q
    · rw [gt_neg _ _ (by omega), Ok_some]
      have : pileE ss (.tuple ds) = firstE ss 0 ds := if_neg hl
      rw [this] at q
      simp only [trub, So_cs, So_nl, So_then, So_ite, So_nx, So_ret, So_bk, So_ct, evS, evE, evEs, evT, evTa, evTo, evAn, evOr, evAs, evP, evI, Ok_bind, Ok_ok, Ok_bad, Ok_some, Ok_bs, Ok_ite, asgT, asgR, asgT.asgTs, setAll, wipeT, biF, meF, binF, cmpF, bl?, List.getElem?_cons_zero, List.getElem?_cons_succ, List.set_cons_zero, List.set_cons_succ, List.map_cons, List.map_nil, List.replicate_succ, List.replicate_zero, List.cons_append, List.nil_append, Nat.sub_self, Nat.reduceSub, Nat.reduceAdd, Bool.false_eq_true, if_false, bxpile_error_3, itemsT, stillp, if_true]
      refine So_for (fun pre τ S' => S' = S ∧ (∃ x2 x3' x4', τ = [some (.p (.tuple [x0, x1, .tuple ss, x3, x4])), some (.p (.tuple ds)), x2, x3', x4']) ∧ firstE ss 0 ds = firstE ss pre.length (ds.drop pre.length)) ⟨rfl, ⟨_, _, _, rfl⟩, by simp⟩ ?_ ?_
      · rintro pre r post τ S' er ⟨rfl, ⟨y2, y3, y4, rfl⟩, inv⟩
        obtain ⟨w, h1, rfl⟩ := enum_at er
        rw [List.getElem?_map, Option.map_eq_some_iff] at h1
        obtain ⟨d, hd, rfl⟩ := h1
        simp only [bxpile_error_2, So_cs, So_nl, So_then, So_ite, So_nx, So_ret, So_bk, So_ct, evS, evE, evEs, evT, evTa, evTo, evAn, evOr, evAs, evP, evI, Ok_bind, Ok_ok, Ok_bad, Ok_some, Ok_bs, Ok_ite, asgT, asgR, asgT.asgTs, setAll, wipeT, biF, meF, binF, cmpF, bl?, List.getElem?_cons_zero, List.getElem?_cons_succ, List.set_cons_zero, List.set_cons_succ, List.map_cons, List.map_nil, List.replicate_succ, List.replicate_zero, List.cons_append, List.nil_append, Nat.sub_self, Nat.reduceSub, Nat.reduceAdd, Nat.zero_add]
        refine runWord_ok hO hI hR hc hs ?_
        rw [firstE_drop hd] at inv
        simp only [So_cs, So_nl, So_then, So_ite, So_nx, So_ret, So_bk, So_ct, evS, evE, evEs, evT, evTa, evTo, evAn, evOr, evAs, evP, evI, Ok_bind, Ok_ok, Ok_bad, Ok_some, Ok_bs, Ok_ite, asgT, asgR, asgT.asgTs, setAll, wipeT, biF, meF, binF, cmpF, bl?, List.getElem?_cons_zero, List.getElem?_cons_succ, List.set_cons_zero, List.set_cons_succ, List.map_cons, List.map_nil, List.replicate_succ, List.replicate_zero, List.cons_append, List.nil_append, Nat.sub_self, Nat.reduceSub, Nat.reduceAdd, e_isNot, trub]
        cases hn : isNone (runW ss d) with
        | true =>
          rw [hn, if_pos rfl] at inv
          simp only [Bool.not_true, Bool.false_eq_true, if_false]
          exact ⟨trivial, ⟨_, _, _, rfl⟩, by simpa using inv⟩
        | false =>
          rw [hn, if_neg (by decide)] at inv
          simp only [Bool.not_false, if_true, mkT2p]
          rw [inv] at q
          exact Ok_end0 hc rfl rfl q
      · rintro τ S' ⟨rfl, ⟨y2, y3, y4, rfl⟩, inv⟩
        have e0 : firstE ss 0 ds = .none := by
          rw [inv, enum_len]
          simp [firstE]
        rw [e0] at q
        simp only [bxpile_error_1, So_cs, So_nl, So_then, So_ite, So_nx, So_ret, So_bk, So_ct, evS, evE, evEs, evT, evTa, evTo, evAn, evOr, evAs, evP, evI, Ok_bind, Ok_ok, Ok_bad, Ok_some, Ok_bs, Ok_ite, asgT, asgR, asgT.asgTs, setAll, wipeT, biF, meF, binF, cmpF, bl?, List.getElem?_cons_zero, List.getElem?_cons_succ, List.set_cons_zero, List.set_cons_succ, List.map_cons, List.map_nil, List.replicate_succ, List.replicate_zero, List.cons_append, List.nil_append, Nat.sub_self, Nat.reduceSub, Nat.reduceAdd]
        exact Ok_end0 hc rfl rfl q
theorem rng_at {lo : Int} {n : Nat} {pre post : List Row} {r : Row} (h : rng lo n = pre ++ r :: post) : pre.length < n ∧ r = .one (.p (.int (lo + pre.length))) := by
  have h1 : (rng lo n)[pre.length]? = some r := by rw [h]; simp
  unfold rng at h1
  rw [List.getElem?_map, Option.map_eq_some_iff] at h1
  obtain ⟨j, hj, rfl⟩ := h1
  have hb : pre.length < n := by
    have := congrArg List.length h
    simp [rng] at this
    omega
  rw [List.getElem?_range hb] at hj
  cases hj
  exact ⟨hb, rfl⟩
theorem chain_le {call : Nat → List W → Sto → R W} {τ : Tau} {a b : Ex} {lo hi : Int} {d : PyData} (ha : ∀ S, evE call a τ S = .ok (.p (.int lo)) S) (hb : ∀ S, evE call b τ S = .ok (.p (.int hi)) S) {c : Ex} (hd : ∀ S, evE call c τ S = .ok (.p d) S) (j : Int) (e : d = .int j) (S : Sto) :
    evE call (.chain .LtE .LtE a c b) τ S = .ok (.p (.bool (decide (lo ≤ j) && decide (j ≤ hi)))) S := by
  subst e
  rw [evE, ha]
  simp only [R.bind, hd, hb, cmpF, e_le, ofO, ofB, bl?]
  cases decide (lo ≤ j) <;> rfl
theorem intIn_cases (d : PyData) : (isiB (.p d) .int = false ∧ intIn 1 (10 ^ 18) d = false) ∨ (isiB (.p d) .int = true ∧ isiB (.p d) .bl = true ∧ intIn 1 (10 ^ 18) d = false) ∨ ∃ j, d = .int j ∧ isiB (.p d) .int = true ∧ isiB (.p d) .bl = false := by
  cases d with
  | int j => exact .inr (.inr ⟨j, rfl, rfl, rfl⟩)
  | bool b => exact .inr (.inl ⟨rfl, rfl, rfl⟩)
  | _ => exact .inl ⟨rfl, rfl⟩
theorem pileWd_ok (h : T[i]? = some fx_law_pile_error) (hc : Clo S) (hs : ss.all flatP = true) {Q : W → Sto → Prop} {E : Xc → Sto → Prop} (q : Q (.p (pileE ss v)) S) :
    Ok (callN T (k + 1) i [.p (.tuple [x0, x1, .tuple ss, x3, x4]), .p v] S) Q E := by
  refine Ok_call h rfl ?_
  simp only [fx_law_pile_error, bx_law_pile_error, So_cs, So_nl, So_then, So_ite, So_nx, So_ret, So_bk, So_ct, evS, evE, evEs, evT, evTa, evTo, evAn, evOr, evAs, evP, evI, Ok_bind, Ok_ok, Ok_bad, Ok_some, Ok_bs, Ok_ite, asgT, asgR, asgT.asgTs, setAll, wipeT, biF, meF, binF, cmpF, bl?, List.getElem?_cons_zero, List.getElem?_cons_succ, List.set_cons_zero, List.set_cons_succ, List.map_cons, List.map_nil, List.replicate_succ, List.replicate_zero, List.cons_append, List.nil_append, Nat.sub_self, Nat.reduceSub, Nat.reduceAdd, e_isiT]
  cases ht : isTup v with
  | false =>
    have : pileE ss v = .tuple [.none, .str "pile"] := by cases v <;> first | rfl | simp [isTup] at ht
    rw [this] at q
    simp only [trub, So_cs, So_nl, So_then, So_ite, So_nx, So_ret, So_bk, So_ct, evS, evE, evEs, evT, evTa, evTo, evAn, evOr, evAs, evP, evI, Ok_bind, Ok_ok, Ok_bad, Ok_some, Ok_bs, Ok_ite, asgT, asgR, asgT.asgTs, setAll, wipeT, biF, meF, binF, cmpF, bl?, List.getElem?_cons_zero, List.getElem?_cons_succ, List.set_cons_zero, List.set_cons_succ, List.map_cons, List.map_nil, List.replicate_succ, List.replicate_zero, List.cons_append, List.nil_append, Nat.sub_self, Nat.reduceSub, Nat.reduceAdd, Bool.not_false, if_true, mkT2p]
    exact Ok_end0 hc rfl rfl q
  | true =>
    obtain ⟨ds, rfl⟩ := isTup_of ht
    simp only [trub, So_cs, So_nl, So_then, So_ite, So_nx, So_ret, So_bk, So_ct, evS, evE, evEs, evT, evTa, evTo, evAn, evOr, evAs, evP, evI, Ok_bind, Ok_ok, Ok_bad, Ok_some, Ok_bs, Ok_ite, asgT, asgR, asgT.asgTs, setAll, wipeT, biF, meF, binF, cmpF, bl?, List.getElem?_cons_zero, List.getElem?_cons_succ, List.set_cons_zero, List.set_cons_succ, List.map_cons, List.map_nil, List.replicate_succ, List.replicate_zero, List.cons_append, List.nil_append, Nat.sub_self, Nat.reduceSub, Nat.reduceAdd, Bool.not_true, Bool.false_eq_true, if_false, e_lenT]
    by_cases hl : 12 < ds.length
    · rw [gt_pos _ _ (by omega), Ok_some]
      have : pileE ss (.tuple ds) = .tuple [.none, .str "pile"] := if_pos hl
      rw [this] at q
      simp only [trub, So_cs, So_nl, So_then, So_ite, So_nx, So_ret, So_bk, So_ct, evS, evE, evEs, evT, evTa, evTo, evAn, evOr, evAs, evP, evI, Ok_bind, Ok_ok, Ok_bad, Ok_some, Ok_bs, Ok_ite, asgT, asgR, asgT.asgTs, setAll, wipeT, biF, meF, binF, cmpF, bl?, List.getElem?_cons_zero, List.getElem?_cons_succ, List.set_cons_zero, List.set_cons_succ, List.map_cons, List.map_nil, List.replicate_succ, List.replicate_zero, List.cons_append, List.nil_append, Nat.sub_self, Nat.reduceSub, Nat.reduceAdd, if_true, mkT2p]
      exact Ok_end0 hc rfl rfl q
    · rw [gt_neg _ _ (by omega), Ok_some]
      have : pileE ss (.tuple ds) = firstE ss 0 ds := if_neg hl
      rw [this] at q
      have hI : ∀ y2 y3 S, evI (callN T k) (.iRng (.bi .len (.cs (.v 1) .nl))) [some (.p (.tuple [x0, x1, .tuple ss, x3, x4])), some (.p (.tuple ds)), y2, y3] S = .ok (rng 0 ds.length) S := fun y2 y3 S => by
        have hb : ((ds.length : Int) < 2 ^ 62 ∧ -(2 ^ 62) ≤ (ds.length : Int)) := ⟨by omega, by omega⟩
        have he : evE (callN T k) (.bi .len (.cs (.v 1) .nl)) [some (.p (.tuple [x0, x1, .tuple ss, x3, x4])), some (.p (.tuple ds)), y2, y3] S = .ok (.p (.int ds.length)) S := rfl
        have := evI_int he hb
        rw [Int.toNat_natCast] at this
        exact this
      simp only [bx_law_pile_error_5, So_cs, So_nl, So_then, So_ite, So_nx, So_ret, So_bk, So_ct, evS, evE, evEs, evT, evTa, evTo, evAn, evOr, evAs, evP, Ok_bind, Ok_ok, Ok_bad, Ok_some, Ok_bs, Ok_ite, asgT, asgR, asgT.asgTs, setAll, wipeT, biF, meF, binF, cmpF, bl?, List.getElem?_cons_zero, List.getElem?_cons_succ, List.set_cons_zero, List.set_cons_succ, List.map_cons, List.map_nil, List.replicate_succ, List.replicate_zero, List.cons_append, List.nil_append, Nat.sub_self, Nat.reduceSub, Nat.reduceAdd, hI, trub, Bool.false_eq_true, if_false]
      refine So_for (fun pre τ S' => S' = S ∧ (∃ y2 y3, τ = [some (.p (.tuple [x0, x1, .tuple ss, x3, x4])), some (.p (.tuple ds)), y2, y3]) ∧ firstE ss 0 ds = firstE ss pre.length (ds.drop pre.length)) ⟨rfl, ⟨_, _, rfl⟩, by simp⟩ ?_ ?_
      · rintro pre r post τ S' er ⟨rfl, ⟨y2, y3, rfl⟩, inv⟩
        obtain ⟨hj, rfl⟩ := rng_at er
        obtain ⟨d, hd⟩ : ∃ d, ds[pre.length]? = some d := ⟨_, List.getElem?_eq_getElem hj⟩
        have ex : ∀ S : Sto, fIx S (.p (.tuple ds)) (.p (.int (0 + pre.length))) = some (.p d, S) := fun S => by rw [Int.zero_add, e_ixT, atI_ok hd]; rfl
        rw [firstE_drop hd] at inv
        simp only [bx_law_pile_error_4, So_cs, So_nl, So_then, So_ite, So_nx, So_ret, So_bk, So_ct, evS, evE, evEs, evT, evTa, evTo, evAn, evOr, evAs, evP, evI, Ok_bind, Ok_ok, Ok_bad, Ok_some, Ok_bs, Ok_ite, asgT, asgR, asgT.asgTs, setAll, wipeT, biF, meF, binF, cmpF, bl?, List.getElem?_cons_zero, List.getElem?_cons_succ, List.set_cons_zero, List.set_cons_succ, List.map_cons, List.map_nil, List.replicate_succ, List.replicate_zero, List.cons_append, List.nil_append, Nat.sub_self, Nat.reduceSub, Nat.reduceAdd, ex, e_isiT]
        have er : ∀ x : Str, runW ss d = .str x → firstE ss 0 ds = .tuple [.int pre.length, .str x] := fun x hx => by
          rw [inv, hx]; rfl
        rcases two_or d with ⟨a, b, rfl⟩ | ⟨hn, hv⟩
        · have e1 : isTup (.tuple [a, b]) = true := rfl
          have e2 : (decide (((2 : Nat) : Int) = 2)) = true := rfl
          have eq : runW ss (.tuple [a, b]) = if oneOf ss a then (if intIn 1 (10 ^ 18) b then .none else .str "many") else .str "screen" := rfl
          simp only [e1, trub, So_cs, So_nl, So_then, So_ite, So_nx, So_ret, So_bk, So_ct, evS, evE, evEs, evT, evTa, evTo, evAn, evOr, evAs, evP, evI, Ok_bind, Ok_ok, Ok_bad, Ok_some, Ok_bs, Ok_ite, asgT, asgR, asgT.asgTs, setAll, wipeT, biF, meF, binF, cmpF, bl?, List.getElem?_cons_zero, List.getElem?_cons_succ, List.set_cons_zero, List.set_cons_succ, List.map_cons, List.map_nil, List.replicate_succ, List.replicate_zero, List.cons_append, List.nil_append, Nat.sub_self, Nat.reduceSub, Nat.reduceAdd, Bool.not_true, Bool.false_eq_true, if_false, e_lenT, ne_int, List.length_cons, List.length_nil, e2, bx_law_pile_error_3, ix2, ix5, e_isiS]
          have ho : oneOf ss a = (isStr a && inP a ss) := rfl
          cases hs1 : isStr a with
          | false =>
            rw [ho, hs1] at eq
            have := er _ (eq.trans rfl)
            rw [this] at q
            simp only [trub, So_cs, So_nl, So_then, So_ite, So_nx, So_ret, So_bk, So_ct, evS, evE, evEs, evT, evTa, evTo, evAn, evOr, evAs, evP, evI, Ok_bind, Ok_ok, Ok_bad, Ok_some, Ok_bs, Ok_ite, asgT, asgR, asgT.asgTs, setAll, wipeT, biF, meF, binF, cmpF, bl?, List.getElem?_cons_zero, List.getElem?_cons_succ, List.set_cons_zero, List.set_cons_succ, List.map_cons, List.map_nil, List.replicate_succ, List.replicate_zero, List.cons_append, List.nil_append, Nat.sub_self, Nat.reduceSub, Nat.reduceAdd, Bool.not_false, if_true, mkT2p, Int.zero_add]
            exact Ok_end0 hc rfl rfl q
          | true =>
            simp only [trub, So_cs, So_nl, So_then, So_ite, So_nx, So_ret, So_bk, So_ct, evS, evE, evEs, evT, evTa, evTo, evAn, evOr, evAs, evP, evI, Ok_bind, Ok_ok, Ok_bad, Ok_some, Ok_bs, Ok_ite, asgT, asgR, asgT.asgTs, setAll, wipeT, biF, meF, binF, cmpF, bl?, List.getElem?_cons_zero, List.getElem?_cons_succ, List.set_cons_zero, List.set_cons_succ, List.map_cons, List.map_nil, List.replicate_succ, List.replicate_zero, List.cons_append, List.nil_append, Nat.sub_self, Nat.reduceSub, Nat.reduceAdd, Bool.not_true, Bool.false_eq_true, if_false, (fIn_str hs1 hs).2]
            rw [ho, hs1, Bool.true_and] at eq
            cases hi : inP a ss with
            | false =>
              rw [hi] at eq
              have := er _ (eq.trans rfl)
              rw [this] at q
              simp only [trub, So_cs, So_nl, So_then, So_ite, So_nx, So_ret, So_bk, So_ct, evS, evE, evEs, evT, evTa, evTo, evAn, evOr, evAs, evP, evI, Ok_bind, Ok_ok, Ok_bad, Ok_some, Ok_bs, Ok_ite, asgT, asgR, asgT.asgTs, setAll, wipeT, biF, meF, binF, cmpF, bl?, List.getElem?_cons_zero, List.getElem?_cons_succ, List.set_cons_zero, List.set_cons_succ, List.map_cons, List.map_nil, List.replicate_succ, List.replicate_zero, List.cons_append, List.nil_append, Nat.sub_self, Nat.reduceSub, Nat.reduceAdd, Bool.not_false, if_true, mkT2p, Int.zero_add]
              exact Ok_end0 hc rfl rfl q
            | true =>
              rw [hi, if_pos rfl] at eq
              simp only [trub, So_cs, So_nl, So_then, So_ite, So_nx, So_ret, So_bk, So_ct, evS, evE, evEs, evT, evTa, evTo, evAn, evOr, evAs, evP, evI, Ok_bind, Ok_ok, Ok_bad, Ok_some, Ok_bs, Ok_ite, asgT, asgR, asgT.asgTs, setAll, wipeT, biF, meF, binF, cmpF, bl?, List.getElem?_cons_zero, List.getElem?_cons_succ, List.set_cons_zero, List.set_cons_succ, List.map_cons, List.map_nil, List.replicate_succ, List.replicate_zero, List.cons_append, List.nil_append, Nat.sub_self, Nat.reduceSub, Nat.reduceAdd, Bool.not_true, Bool.false_eq_true, if_false, bx_law_pile_error_2, ix2]
              have many : intIn 1 (10 ^ 18) b = false → firstE ss 0 ds = .tuple [.int pre.length, .str "many"] := fun z => er _ (by rw [eq, z]; rfl)
              rcases intIn_cases b with ⟨h1, h2⟩ | ⟨h1, h2, h3⟩ | ⟨j, rfl, h1, h2⟩
              · rw [many h2] at q
                simp only [h1, trub, So_cs, So_nl, So_then, So_ite, So_nx, So_ret, So_bk, So_ct, evS, evE, evEs, evT, evTa, evTo, evAn, evOr, evAs, evP, evI, Ok_bind, Ok_ok, Ok_bad, Ok_some, Ok_bs, Ok_ite, asgT, asgR, asgT.asgTs, setAll, wipeT, biF, meF, binF, cmpF, bl?, List.getElem?_cons_zero, List.getElem?_cons_succ, List.set_cons_zero, List.set_cons_succ, List.map_cons, List.map_nil, List.replicate_succ, List.replicate_zero, List.cons_append, List.nil_append, Nat.sub_self, Nat.reduceSub, Nat.reduceAdd, Bool.not_false, if_true, mkT2p, Int.zero_add]
                exact Ok_end0 hc rfl rfl q
              · rw [many h3] at q
                simp only [h1, h2, trub, So_cs, So_nl, So_then, So_ite, So_nx, So_ret, So_bk, So_ct, evS, evE, evEs, evT, evTa, evTo, evAn, evOr, evAs, evP, evI, Ok_bind, Ok_ok, Ok_bad, Ok_some, Ok_bs, Ok_ite, asgT, asgR, asgT.asgTs, setAll, wipeT, biF, meF, binF, cmpF, bl?, List.getElem?_cons_zero, List.getElem?_cons_succ, List.set_cons_zero, List.set_cons_succ, List.map_cons, List.map_nil, List.replicate_succ, List.replicate_zero, List.cons_append, List.nil_append, Nat.sub_self, Nat.reduceSub, Nat.reduceAdd, Bool.not_true, Bool.false_eq_true, if_false, if_true, mkT2p, Int.zero_add]
                exact Ok_end0 hc rfl rfl q
              · simp only [h1, h2, trub, So_cs, So_nl, So_then, So_ite, So_nx, So_ret, So_bk, So_ct, evS, evE, evEs, evT, evTa, evTo, evAn, evOr, evAs, evP, evI, Ok_bind, Ok_ok, Ok_bad, Ok_some, Ok_bs, Ok_ite, asgT, asgR, asgT.asgTs, setAll, wipeT, biF, meF, binF, cmpF, bl?, List.getElem?_cons_zero, List.getElem?_cons_succ, List.set_cons_zero, List.set_cons_succ, List.map_cons, List.map_nil, List.replicate_succ, List.replicate_zero, List.cons_append, List.nil_append, Nat.sub_self, Nat.reduceSub, Nat.reduceAdd, Bool.not_true, Bool.false_eq_true, if_false, e_le, e_pow18]
                have ei : intIn 1 (10 ^ 18) (.int j) = (decide (1 ≤ j) && decide (j ≤ 10 ^ 18)) := rfl
                cases g1 : decide (1 ≤ j) with
                | false =>
                  rw [many (by rw [ei, g1]; rfl)] at q
                  simp only [Bool.false_eq_true, if_false, So_cs, So_nl, So_then, So_ite, So_nx, So_ret, So_bk, So_ct, evS, evE, evEs, evT, evTa, evTo, evAn, evOr, evAs, evP, evI, Ok_bind, Ok_ok, Ok_bad, Ok_some, Ok_bs, Ok_ite, asgT, asgR, asgT.asgTs, setAll, wipeT, biF, meF, binF, cmpF, bl?, List.getElem?_cons_zero, List.getElem?_cons_succ, List.set_cons_zero, List.set_cons_succ, List.map_cons, List.map_nil, List.replicate_succ, List.replicate_zero, List.cons_append, List.nil_append, Nat.sub_self, Nat.reduceSub, Nat.reduceAdd, trub, Bool.not_false, if_true, mkT2p, Int.zero_add]
                  exact Ok_end0 hc rfl rfl q
                | true =>
                  simp only [if_true, So_cs, So_nl, So_then, So_ite, So_nx, So_ret, So_bk, So_ct, evS, evE, evEs, evT, evTa, evTo, evAn, evOr, evAs, evP, evI, Ok_bind, Ok_ok, Ok_bad, Ok_some, Ok_bs, Ok_ite, asgT, asgR, asgT.asgTs, setAll, wipeT, biF, meF, binF, cmpF, bl?, List.getElem?_cons_zero, List.getElem?_cons_succ, List.set_cons_zero, List.set_cons_succ, List.map_cons, List.map_nil, List.replicate_succ, List.replicate_zero, List.cons_append, List.nil_append, Nat.sub_self, Nat.reduceSub, Nat.reduceAdd, ix2, e_pow18, e_le, trub]
                  rw [g1, Bool.true_and] at ei
                  cases g2 : decide (j ≤ 10 ^ 18) with
                  | false =>
                    rw [many (by rw [ei, g2])] at q
                    simp only [Bool.not_false, if_true, mkT2p, Int.zero_add, So_cs, So_nl, So_then, So_ite, So_nx, So_ret, So_bk, So_ct, evS, evE, evEs, evT, evTa, evTo, evAn, evOr, evAs, evP, evI, Ok_bind, Ok_ok, Ok_bad, Ok_some, Ok_bs, Ok_ite, asgT, asgR, asgT.asgTs, setAll, wipeT, biF, meF, binF, cmpF, bl?, List.getElem?_cons_zero, List.getElem?_cons_succ, List.set_cons_zero, List.set_cons_succ, List.map_cons, List.map_nil, List.replicate_succ, List.replicate_zero, List.cons_append, List.nil_append, Nat.sub_self, Nat.reduceSub, Nat.reduceAdd]
                    exact Ok_end0 hc rfl rfl q
                  | true =>
                    rw [ei, g2, if_pos rfl] at eq
                    rw [eq] at inv
                    simp only [Bool.not_true, Bool.false_eq_true, if_false]
                    exact ⟨trivial, ⟨_, _, rfl⟩, by simpa [isNone] using inv⟩
        · have := er _ (runW_not hn)
          rw [this] at q
          rcases hv with hv | ⟨es, rfl, hl⟩
          · simp only [hv, trub, So_cs, So_nl, So_then, So_ite, So_nx, So_ret, So_bk, So_ct, evS, evE, evEs, evT, evTa, evTo, evAn, evOr, evAs, evP, evI, Ok_bind, Ok_ok, Ok_bad, Ok_some, Ok_bs, Ok_ite, asgT, asgR, asgT.asgTs, setAll, wipeT, biF, meF, binF, cmpF, bl?, List.getElem?_cons_zero, List.getElem?_cons_succ, List.set_cons_zero, List.set_cons_succ, List.map_cons, List.map_nil, List.replicate_succ, List.replicate_zero, List.cons_append, List.nil_append, Nat.sub_self, Nat.reduceSub, Nat.reduceAdd, Bool.not_false, if_true, mkT2p, Int.zero_add]
            exact Ok_end0 hc rfl rfl q
          · have e1 : isTup (.tuple es) = true := rfl
            simp only [e1, trub, So_cs, So_nl, So_then, So_ite, So_nx, So_ret, So_bk, So_ct, evS, evE, evEs, evT, evTa, evTo, evAn, evOr, evAs, evP, evI, Ok_bind, Ok_ok, Ok_bad, Ok_some, Ok_bs, Ok_ite, asgT, asgR, asgT.asgTs, setAll, wipeT, biF, meF, binF, cmpF, bl?, List.getElem?_cons_zero, List.getElem?_cons_succ, List.set_cons_zero, List.set_cons_succ, List.map_cons, List.map_nil, List.replicate_succ, List.replicate_zero, List.cons_append, List.nil_append, Nat.sub_self, Nat.reduceSub, Nat.reduceAdd, Bool.not_true, Bool.false_eq_true, if_false, e_lenT, ne_int, decide_eq_false hl, Bool.not_false, if_true, mkT2p, Int.zero_add]
            exact Ok_end0 hc rfl rfl q
      · rintro τ S' ⟨rfl, ⟨y2, y3, rfl⟩, inv⟩
        have e0 : firstE ss 0 ds = .none := by
          rw [inv, rng_len]
          simp [firstE]
        rw [e0] at q
        simp only [bx_law_pile_error_1, So_cs, So_nl, So_then, So_ite, So_nx, So_ret, So_bk, So_ct, evS, evE, evEs, evT, evTa, evTo, evAn, evOr, evAs, evP, evI, Ok_bind, Ok_ok, Ok_bad, Ok_some, Ok_bs, Ok_ite, asgT, asgR, asgT.asgTs, setAll, wipeT, biF, meF, binF, cmpF, bl?, List.getElem?_cons_zero, List.getElem?_cons_succ, List.set_cons_zero, List.set_cons_succ, List.map_cons, List.map_nil, List.replicate_succ, List.replicate_zero, List.cons_append, List.nil_append, Nat.sub_self, Nat.reduceSub, Nat.reduceAdd]
        exact Ok_end0 hc rfl rfl q
end
theorem runW_in (ss : List PyData) (d : PyData) : runW ss d = .none ∨ runW ss d ∈ [PyData.str "run", .str "screen", .str "many"] := by
  rcases two_or d with ⟨a, b, rfl⟩ | ⟨hn, _⟩
  · have eq : runW ss (.tuple [a, b]) = if oneOf ss a then (if intIn 1 (10 ^ 18) b then .none else .str "many") else .str "screen" := rfl
    rw [eq]
    generalize oneOf ss a = y
    generalize intIn 1 (10 ^ 18) b = z
    cases y <;> cases z <;> simp
  · rw [runW_not hn]; simp
def pileT : Ty := .uni (.one [.none, .tuple [.none, .str "pile"]]) (.tup (ofL [.int 0 11, .one [.str "run", .str "screen", .str "many"]]))
theorem firstE_in {X : Cxt} {vs : List PyData} {ss : List PyData} : ∀ (ds : List PyData) (i : Nat), i + ds.length ≤ 12 → X.In vs pileT (firstE ss i ds)
  | [], i, _ => .inl (List.mem_cons_self ..)
  | d :: r, i, h => by
    simp only [List.length_cons] at h
    unfold firstE
    split
    · exact firstE_in r (i + 1) (by omega)
    · rename_i hn
      rcases runW_in ss d with e | e
      · rw [e] at hn; exact absurd rfl hn
      · exact .inr ⟨_, rfl, _, _, rfl, ⟨_, rfl, by omega, by omega⟩, _, _, rfl, e, rfl⟩
theorem pileE_in {X : Cxt} {vs : List PyData} (ss : List PyData) (v : PyData) : X.In vs pileT (pileE ss v) := by
  unfold pileE
  split
  · split
    · exact .inl (List.mem_cons_of_mem _ (List.mem_cons_self ..))
    · exact firstE_in _ 0 (by omega)
  · exact .inl (List.mem_cons_of_mem _ (List.mem_cons_self ..))
def pileA (a v : PyData) : PyData := match a with
  | .tuple [_, _, .tuple ss, _, _] => pileE ss v
  | _ => .none
def ctPile (ex : Nat → Option Ty) (f : Nat) : Ct := fun avs => match avs with
  | [.p t s, .p u z] => if sub FU (xp ex t) appT then some (pileT, some (.f f (.cs s (.cs z .nl)))) else none
  | _ => none
section
variable {Y : Cxt} {T : List Fd}
theorem ctPile_in {f : Nat} {avs : List AV} {t : Ty} {so : Option Sym} (h : ctPile Y.ex f avs = some (t, so)) (hF : ∀ a v, Y.F f [a, v] = pileA a v) {vs : List PyData} {R : Sto} {ws : List W} (q : Paired (VR (X1 Y) vs R) avs ws) :
    ∃ x0 x1 ss x3 x4 v, ws = [.p (.tuple [x0, x1, .tuple ss, x3, x4]), .p v] ∧ ss.all flatP = true ∧ Y.In vs t (pileE ss v) ∧ ∀ s, so = some s → den Y.F vs s = some (pileE ss v) := by
  unfold ctPile at h
  split at h
  · split at h
    · rename_i hc
      cases h
      obtain ⟨a, v, rfl, h1, h2, h3, h4⟩ := args2 q
      obtain ⟨x0, ms, ss, x3, x4, rfl, m1, s1⟩ := appT_inv (X := Y) (xsub hc h1)
      refine ⟨x0, .tuple ms, ss, x3, x4, v, rfl, s1, pileE_in _ _, fun s hs => ?_⟩
      cases hs
      have h2' : den Y.F vs _ = _ := h2
      have h4' : den Y.F vs _ = _ := h4
      simp only [den, dens, h2', h4', Option.map, hF]
      rfl
    · cases h
  · cases h
theorem ctPileE_ok {i iO iI iR f : Nat} (hO : T[iO]? = some fxis_one) (hI : T[iI]? = some fxis_integer) (hR : T[iR]? = some (fxrun_word iI iO)) (h : T[i]? = some (fxpile_error iR)) (hF : ∀ a v, Y.F f [a, v] = pileA a v) : CtOk (X1 Y) T i 3 (ctPile Y.ex f) := by
  intro k hk avs t so hs vs B R ws hB hR' q
  obtain ⟨k, rfl⟩ : ∃ k', k = k' + 3 := ⟨k - 3, by omega⟩
  obtain ⟨x0, x1, ss, x3, x4, v, rfl, s1, f3, f4⟩ := ctPile_in hs hF q
  exact pileErr_ok hO hI hR h (cloS hB hR') s1 ⟨B, _, hB, rfl, rfl, f3, f4⟩
theorem ctPileW_ok {i f : Nat} (h : T[i]? = some fx_law_pile_error) (hF : ∀ a v, Y.F f [a, v] = pileA a v) : CtOk (X1 Y) T i 1 (ctPile Y.ex f) := by
  intro k hk avs t so hs vs B R ws hB hR q
  obtain ⟨k, rfl⟩ : ∃ k', k = k' + 1 := ⟨k - 1, by omega⟩
  obtain ⟨x0, x1, ss, x3, x4, v, rfl, s1, f3, f4⟩ := ctPile_in hs hF q
  exact pileWd_ok h (cloS hB hR) s1 ⟨B, _, hB, rfl, rfl, f3, f4⟩
end
end Pv
end

section
set_option maxRecDepth 10000
set_option maxHeartbeats 4000000
namespace Pv
open PySem PySem.Spec L2
open PyProof.Rows hiding St
/-! trees of defs that several laws share (printed by gen.py) -/
def nxrequire_state : List Str := ["app", "state", "error"]
def bxrequire_state (cstate_error : Nat) : Sx := (.cs (.asg (.n 2) (.call cstate_error (.cs (.v 0) (.cs (.v 1) .nl)))) (.cs (.iff (.tt (.cmp .IsNot (.v 2) (.k .none))) (.cs .stop .nl) .nl) .nl))
/-- require_state(app, state) -/
def fxrequire_state (cstate_error : Nat) : Fd := ⟨2, 3, true, bxrequire_state cstate_error⟩
def nxtaps_in : List Str := ["app", "state", "mode", "stack"]
def bxtaps_in (ctaps_on : Nat) : Sx := (.cs (.asg (.cs (.n 2) (.cs (.n 3) .nl)) (.v 1)) (.cs (.ret (.ife (.tt (.cmp .NotEq (.v 3) (.tup .nl))) (.call ctaps_on (.cs (.v 0) (.cs (.v 2) (.cs (.ix (.v 3) (.neg (.k (.int 1)))) .nl)))) (.tup .nl))) .nl))
/-- taps_in(app, state) -/
def fxtaps_in (ctaps_on : Nat) : Fd := ⟨2, 4, true, bxtaps_in ctaps_on⟩
def nxdown_to : List Str := ["stack", "screen", "left"]
def bxdown_to_1 : Sx := (.cs (.ret (.ife (.tt (.cmp .Gt (.v 2) (.k (.int 0)))) (.sl (.v 0) .nl (.cs (.v 2) .nl)) (.tup (.cs (.v 1) .nl)))) .nl)
def bxdown_to_2 : Sx := (.cs (.aug 2 .Sub (.k (.int 1))) .nl)
def bxdown_to : Sx := (.cs (.asg (.n 2) (.bi .len (.cs (.v 0) .nl))) (.cs (.whl (.an (.cs (.tt (.cmp .Gt (.v 2) (.k (.int 0)))) (.cs (.tt (.cmp .NotEq (.ix (.v 0) (.op .Sub (.v 2) (.k (.int 1)))) (.v 1))) .nl))) (bxdown_to_2)) (bxdown_to_1)))
/-- down_to(stack, screen) -/
def fxdown_to : Fd := ⟨2, 3, true, bxdown_to⟩
def nxbehind_tap : List Str := ["state", "tap", "stack", "act"]
def bxbehind_tap_1 (cdown_to : Nat) : Sx := (.cs (.ret (.tup (.cs (.ix (.v 1) (.k (.int 4))) (.cs (.call cdown_to (.cs (.sl (.v 2) .nl (.cs (.neg (.k (.int 1))) .nl)) (.cs (.ix (.v 3) (.k (.int 1))) .nl))) .nl)))) .nl)
def bxbehind_tap_2 (cdown_to : Nat) : Sx := (.cs (.iff (.tt (.cmp .Eq (.ix (.v 3) (.k (.int 0))) (.k (.str "back")))) (.cs (.ret (.tup (.cs (.ix (.v 1) (.k (.int 4))) (.cs (.sl (.v 2) .nl (.cs (.neg (.k (.int 1))) .nl)) .nl)))) .nl) .nl) (bxbehind_tap_1 cdown_to))
def bxbehind_tap_3 (cdown_to : Nat) : Sx := (.cs (.iff (.tt (.cmp .Eq (.ix (.v 3) (.k (.int 0))) (.k (.str "put")))) (.cs (.ret (.tup (.cs (.ix (.v 1) (.k (.int 4))) (.cs (.tup (.ss (.sl (.v 2) .nl (.cs (.neg (.k (.int 1))) .nl)) (.cs (.ix (.v 3) (.k (.int 1))) .nl))) .nl)))) .nl) .nl) (bxbehind_tap_2 cdown_to))
def bxbehind_tap (cdown_to : Nat) : Sx := (.cs (.par [2, 3] (.cs (.ix (.v 0) (.k (.int 1))) (.cs (.ix (.v 1) (.k (.int 3))) .nl))) (.cs (.iff (.tt (.cmp .Eq (.ix (.v 3) (.k (.int 0))) (.k (.str "open")))) (.cs (.ret (.tup (.cs (.ix (.v 1) (.k (.int 4))) (.cs (.tup (.ss (.v 2) (.cs (.ix (.v 3) (.k (.int 1))) .nl))) .nl)))) .nl) .nl) (bxbehind_tap_3 cdown_to)))
/-- behind_tap(state, tap) -/
def fxbehind_tap (cdown_to : Nat) : Fd := ⟨2, 4, true, bxbehind_tap cdown_to⟩
def nxtap_names : List Str := ["app", "state", "tap"]
def bxtap_names (crequire_state : Nat) (ctaps_in : Nat) : Sx := (.cs (.expr (.call crequire_state (.cs (.v 0) (.cs (.v 1) .nl)))) (.cs (.ret (.bi .tuple (.cs (.lc false [2] (.n 2) (.iSeq (.call ctaps_in (.cs (.v 0) (.cs (.v 1) .nl)))) .nl (.ix (.v 2) (.k (.int 0)))) .nl))) .nl))
/-- tap_names(app, state) -/
def fxtap_names (crequire_state : Nat) (ctaps_in : Nat) : Fd := ⟨2, 3, true, bxtap_names crequire_state ctaps_in⟩
def nxtapped : List Str := ["app", "state", "name", "tap"]
def bxtapped_1 (cbehind_tap : Nat) (ctaps_in : Nat) : Sx := (.cs .stop .nl)
def bxtapped_2 (cbehind_tap : Nat) (ctaps_in : Nat) : Sx := (.cs (.iff (.an (.cs (.tt (.isi (.v 2) .str)) (.cs (.tt (.cmp .Eq (.ix (.v 3) (.k (.int 0))) (.v 2))) .nl))) (.cs (.ret (.call cbehind_tap (.cs (.v 1) (.cs (.v 3) .nl)))) .nl) .nl) .nl)
def bxtapped (cbehind_tap : Nat) (ctaps_in : Nat) : Sx := (.cs (.for_ (.n 3) (.iSeq (.call ctaps_in (.cs (.v 0) (.cs (.v 1) .nl)))) (bxtapped_2 cbehind_tap ctaps_in)) (bxtapped_1 cbehind_tap ctaps_in))
/-- tapped(app, state, name) -/
def fxtapped (cbehind_tap : Nat) (ctaps_in : Nat) : Fd := ⟨3, 4, true, bxtapped cbehind_tap ctaps_in⟩
def nxdo_tap : List Str := ["app", "state", "name"]
def bxdo_tap (crequire_state : Nat) (ctapped : Nat) : Sx := (.cs (.expr (.call crequire_state (.cs (.v 0) (.cs (.v 1) .nl)))) (.cs (.ret (.call ctapped (.cs (.v 0) (.cs (.v 1) (.cs (.v 2) .nl))))) .nl))
/-- do_tap(app, state, name) -/
def fxdo_tap (crequire_state : Nat) (ctapped : Nat) : Fd := ⟨3, 3, true, bxdo_tap crequire_state ctapped⟩
def nxdo_row : List Str := ["app", "state", "names", "name"]
def bxdo_row_1 (crequire_state : Nat) (ctapped : Nat) : Sx := (.cs (.ret (.v 1)) .nl)
def bxdo_row_2 (crequire_state : Nat) (ctapped : Nat) : Sx := (.cs (.asg (.n 1) (.call ctapped (.cs (.v 0) (.cs (.v 1) (.cs (.v 3) .nl))))) .nl)
def bxdo_row (crequire_state : Nat) (ctapped : Nat) : Sx := (.cs (.expr (.call crequire_state (.cs (.v 0) (.cs (.v 1) .nl)))) (.cs (.for_ (.n 3) (.iSeq (.v 2)) (bxdo_row_2 crequire_state ctapped)) (bxdo_row_1 crequire_state ctapped)))
/-- do_row(app, state, names) -/
def fxdo_row (crequire_state : Nat) (ctapped : Nat) : Fd := ⟨3, 4, true, bxdo_row crequire_state ctapped⟩
def nx_law_stacks : List Str := ["_law_screens", "_law_depth", "_law_found", "_law_last", "_law_turn", "_law_longer", "_law_stack", "_law_screen"]
def bx_law_stacks_1 : Sx := (.cs (.ret (.v 2)) .nl)
def bx_law_stacks_2 : Sx := (.cs (.asg (.n 3) (.v 5)) (.cs (.asg (.n 2) (.op .Add (.v 2) (.v 3))) .nl))
def bx_law_stacks_3 : Sx := (.cs (.expr (.me .extend (.v 5) (.cs (.lc false [7] (.n 7) (.iSeq (.v 0)) .nl (.op .Add (.v 6) (.tup (.cs (.v 7) .nl)))) .nl))) .nl)
def bx_law_stacks_4 : Sx := (.cs (.asg (.n 5) (.lst true .nl)) (.cs (.forR (.n 6) 3 (bx_law_stacks_3)) (bx_law_stacks_2)))
def bx_law_stacks : Sx := (.cs (.par [2, 3] (.cs (.lst false (.cs (.tup .nl) .nl)) (.cs (.lst true (.cs (.tup .nl) .nl)) .nl))) (.cs (.for_ (.n 4) (.iRng (.v 1)) (bx_law_stacks_4)) (bx_law_stacks_1)))
/-- _law_stacks(_law_screens, _law_depth) -/
def fx_law_stacks : Fd := ⟨2, 8, true, bx_law_stacks⟩
def nx_law_states : List Str := ["_law_app_here", "_law_depth", "_law_found", "_law_stack", "_law_mode"]
def bx_law_states_1 (c_law_stacks : Nat) : Sx := (.cs (.ret (.v 2)) .nl)
def bx_law_states_2 (c_law_stacks : Nat) : Sx := (.cs (.expr (.me .extend (.v 2) (.cs (.lc false [4] (.n 4) (.iSeq (.ix (.v 0) (.k (.int 1)))) .nl (.tup (.cs (.v 4) (.cs (.v 3) .nl)))) .nl))) .nl)
def bx_law_states (c_law_stacks : Nat) : Sx := (.cs (.asg (.n 2) (.lst true .nl)) (.cs (.for_ (.n 3) (.iSeq (.call c_law_stacks (.cs (.ix (.v 0) (.k (.int 2))) (.cs (.v 1) .nl)))) (bx_law_states_2 c_law_stacks)) (bx_law_states_1 c_law_stacks)))
/-- _law_states(_law_app_here, _law_depth) -/
def fx_law_states (c_law_stacks : Nat) : Fd := ⟨2, 5, true, bx_law_states c_law_stacks⟩
end Pv
end

section
set_option maxRecDepth 10000
set_option maxHeartbeats 4000000
namespace Pv
open PySem PySem.Spec L2
open PyProof.Rows hiding St

/-! ## states, and what taps do to them -/
structure StD where
  m : Str
  k : List Str
def encSt (s : StD) : PyData := .tuple [.str s.m, encS s.k]
structure OkSt (A : AppD) (s : StD) : Prop where
  m : s.m ∈ A.ms
  k : ∀ x ∈ s.k, x ∈ A.ss
  l : s.k.length ≤ 100000
/-- down to a screen, from some place on -/
def dnS (l : List Str) (x : Str) : Nat → List Str
  | 0 => [x]
  | n + 1 => if l[n]? = some x then l.take (n + 1) else dnS l x n
def downTo (l : List Str) (x : Str) : List Str := dnS l x l.length
def tapsIn (A : AppD) (s : StD) : List TapD := match s.k.getLast? with
  | some t => A.ts.filter (onT s.m t)
  | none => []
def behindK (k : List Str) (a : List Str) : List Str := match a with
  | [h, y] => if h = "open" then k ++ [y] else if h = "put" then k.dropLast ++ [y] else downTo k.dropLast y
  | _ => k.dropLast
def behind (s : StD) (t : TapD) : StD := ⟨t.b, behindK s.k t.a⟩
theorem cut_last {α : Type} (l : List α) : cutL l none (some (-1)) = l.dropLast := by
  unfold cutL
  rw [HT.sIx_none]
  have : HT.sIx l.length l.length (some (-1)) = l.length - 1 := by
    show (if (-1 : Int) < 0 then ((-1 : Int) + (l.length : Int)).toNat else min (-1 : Int).toNat l.length) = _
    rw [if_pos (by decide)]
    omega
  rw [this, List.drop_zero, Nat.sub_zero, List.dropLast_eq_take]
theorem e_cutLast {S : Sto} (l : List Str) : fSl none (some (-1)) S (.p (encS l)) = some (.p (encS l.dropLast), S) := by
  show some (W.p (.tuple (cutL (l.map PyData.str) none (some (-1)))), S) = _
  rw [cut_last, ← List.map_dropLast]
  rfl
theorem e_ixS {S : Sto} {l : List Str} {j : Nat} {x : Str} (h : l[j]? = some x) (i : Int) (hi : i = j) : fIx S (.p (encS l)) (.p (.int i)) = some (.p (.str x), S) := by
  subst hi
  show fIx S (.p (.tuple (l.map .str))) _ = _
  rw [e_ixT, atI_ok (by rw [List.getElem?_map, h]; rfl)]
  rfl
theorem e_lenS' {S : Sto} (l : List Str) : fLen S [.p (encS l)] = some (.p (.int l.length), S) := by
  show some (W.p (.int ((l.map PyData.str).length : Int)), S) = _
  rw [List.length_map]
theorem ends {S : Sto} {T : List Fd} {d : PyData} {Q : W → Sto → Prop} {E : Xc → Sto → Prop} (h : Clo S) (q : Q (.p d) S) : Ok (if true then sweep S.length (.p d) S else .ok (.p d) S) Q E := Ok_end0 h rfl rfl q
section
variable {T : List Fd} {k i : Nat} {S : Sto} {Q : W → Sto → Prop} {E : Xc → Sto → Prop}
theorem downTo_ok (h : T[i]? = some fxdown_to) (hc : Clo S) {l : List Str} {x : Str} (hx : PyData.strOk x = true) (hl : ∀ y ∈ l, PyData.strOk y = true) (hn : l.length ≤ 1000000) (q : Q (.p (encS (downTo l x))) S) :
    Ok (callN T (k + 1) i [.p (encS l), .p (.str x)] S) Q E := by
  refine Ok_call h rfl ?_
  simp only [fxdown_to, bxdown_to, So_cs, So_nl, So_then, So_ite, So_nx, So_ret, So_bk, So_ct, evS, evE, evEs, evT, evTa, evTo, evAn, evOr, evAs, evP, evI, Ok_bind, Ok_ok, Ok_bad, Ok_some, Ok_bs, Ok_ite, asgT, asgR, asgT.asgTs, setAll, wipeT, biF, meF, binF, cmpF, bl?, List.getElem?_cons_zero, List.getElem?_cons_succ, List.set_cons_zero, List.set_cons_succ, List.map_cons, List.map_nil, List.replicate_succ, List.replicate_zero, List.cons_append, List.nil_append, Nat.sub_self, Nat.reduceSub, Nat.reduceAdd, e_lenS']
  refine So_whl (I := fun j τ S' => S' = S ∧ τ = [some (.p (encS l)), some (.p (.str x)), some (.p (.int j))] ∧ j ≤ l.length ∧ downTo l x = dnS l x j) (k := l.length) (by unfold fuel; omega) ⟨rfl, rfl, Nat.le_refl _, rfl⟩ ?_
  rintro j τ S' ⟨rfl, rfl, hj, hd⟩
  simp only [So_cs, So_nl, So_then, So_ite, So_nx, So_ret, So_bk, So_ct, evS, evE, evEs, evT, evTa, evTo, evAn, evOr, evAs, evP, evI, Ok_bind, Ok_ok, Ok_bad, Ok_some, Ok_bs, Ok_ite, asgT, asgR, asgT.asgTs, setAll, wipeT, biF, meF, binF, cmpF, bl?, List.getElem?_cons_zero, List.getElem?_cons_succ, List.set_cons_zero, List.set_cons_succ, List.map_cons, List.map_nil, List.replicate_succ, List.replicate_zero, List.cons_append, List.nil_append, Nat.sub_self, Nat.reduceSub, Nat.reduceAdd]
  cases j with
  | zero =>
    rw [gt_neg _ _ (by omega), Ok_some]
    simp only [trub, So_cs, So_nl, So_then, So_ite, So_nx, So_ret, So_bk, So_ct, evS, evE, evEs, evT, evTa, evTo, evAn, evOr, evAs, evP, evI, Ok_bind, Ok_ok, Ok_bad, Ok_some, Ok_bs, Ok_ite, asgT, asgR, asgT.asgTs, setAll, wipeT, biF, meF, binF, cmpF, bl?, List.getElem?_cons_zero, List.getElem?_cons_succ, List.set_cons_zero, List.set_cons_succ, List.map_cons, List.map_nil, List.replicate_succ, List.replicate_zero, List.cons_append, List.nil_append, Nat.sub_self, Nat.reduceSub, Nat.reduceAdd, Bool.false_eq_true, if_false, bxdown_to_1]
    rw [gt_neg _ _ (by omega), Ok_some]
    simp only [trub, So_cs, So_nl, So_then, So_ite, So_nx, So_ret, So_bk, So_ct, evS, evE, evEs, evT, evTa, evTo, evAn, evOr, evAs, evP, evI, Ok_bind, Ok_ok, Ok_bad, Ok_some, Ok_bs, Ok_ite, asgT, asgR, asgT.asgTs, setAll, wipeT, biF, meF, binF, cmpF, bl?, List.getElem?_cons_zero, List.getElem?_cons_succ, List.set_cons_zero, List.set_cons_succ, List.map_cons, List.map_nil, List.replicate_succ, List.replicate_zero, List.cons_append, List.nil_append, Nat.sub_self, Nat.reduceSub, Nat.reduceAdd, Bool.false_eq_true, if_false, mkT1]
    rw [hd] at q
    exact Ok_end0 hc rfl rfl q
  | succ j =>
    rw [gt_pos _ _ (by omega), Ok_some]
    obtain ⟨y, hy⟩ : ∃ y, l[j]? = some y := ⟨_, List.getElem?_eq_getElem (by omega)⟩
    have hys := hl y (List.mem_of_getElem? hy)
    simp only [trub, So_cs, So_nl, So_then, So_ite, So_nx, So_ret, So_bk, So_ct, evS, evE, evEs, evT, evTa, evTo, evAn, evOr, evAs, evP, evI, Ok_bind, Ok_ok, Ok_bad, Ok_some, Ok_bs, Ok_ite, asgT, asgR, asgT.asgTs, setAll, wipeT, biF, meF, binF, cmpF, bl?, List.getElem?_cons_zero, List.getElem?_cons_succ, List.set_cons_zero, List.set_cons_succ, List.map_cons, List.map_nil, List.replicate_succ, List.replicate_zero, List.cons_append, List.nil_append, Nat.sub_self, Nat.reduceSub, Nat.reduceAdd, if_true, e_sub]
    rw [e_ixS hy _ (by omega), Ok_some]
    simp only [So_cs, So_nl, So_then, So_ite, So_nx, So_ret, So_bk, So_ct, evS, evE, evEs, evT, evTa, evTo, evAn, evOr, evAs, evP, evI, Ok_bind, Ok_ok, Ok_bad, Ok_some, Ok_bs, Ok_ite, asgT, asgR, asgT.asgTs, setAll, wipeT, biF, meF, binF, cmpF, bl?, List.getElem?_cons_zero, List.getElem?_cons_succ, List.set_cons_zero, List.set_cons_succ, List.map_cons, List.map_nil, List.replicate_succ, List.replicate_zero, List.cons_append, List.nil_append, Nat.sub_self, Nat.reduceSub, Nat.reduceAdd, e_neS hys hx, trub]
    by_cases he : y = x
    · rw [decide_eq_true he]
      simp only [Bool.not_true, Bool.false_eq_true, if_false, bxdown_to_1, So_cs, So_nl, So_then, So_ite, So_nx, So_ret, So_bk, So_ct, evS, evE, evEs, evT, evTa, evTo, evAn, evOr, evAs, evP, evI, Ok_bind, Ok_ok, Ok_bad, Ok_some, Ok_bs, Ok_ite, asgT, asgR, asgT.asgTs, setAll, wipeT, biF, meF, binF, cmpF, bl?, List.getElem?_cons_zero, List.getElem?_cons_succ, List.set_cons_zero, List.set_cons_succ, List.map_cons, List.map_nil, List.replicate_succ, List.replicate_zero, List.cons_append, List.nil_append, Nat.sub_self, Nat.reduceSub, Nat.reduceAdd]
      rw [gt_pos _ _ (by omega), Ok_some]
      have e1 : fSl none (some ((j + 1 : Nat) : Int)) S' (.p (encS l)) = some (.p (encS (l.take (j + 1))), S') := by
        show some (W.p (.tuple (cutL (l.map PyData.str) none (some ((j + 1 : Nat) : Int)))), S') = _
        rw [cut_to, ← List.map_take]
        rfl
      simp only [trub, So_cs, So_nl, So_then, So_ite, So_nx, So_ret, So_bk, So_ct, evS, evE, evEs, evT, evTa, evTo, evAn, evOr, evAs, evP, evI, Ok_bind, Ok_ok, Ok_bad, Ok_some, Ok_bs, Ok_ite, asgT, asgR, asgT.asgTs, setAll, wipeT, biF, meF, binF, cmpF, bl?, List.getElem?_cons_zero, List.getElem?_cons_succ, List.set_cons_zero, List.set_cons_succ, List.map_cons, List.map_nil, List.replicate_succ, List.replicate_zero, List.cons_append, List.nil_append, Nat.sub_self, Nat.reduceSub, Nat.reduceAdd, if_true]
      rw [e1, Ok_some]
      have : dnS l x (j + 1) = l.take (j + 1) := by
        unfold dnS
        rw [if_pos (by rw [hy, he])]
      rw [hd, this] at q
      exact Ok_end0 hc rfl rfl q
    · rw [decide_eq_false he]
      simp only [Bool.not_false, if_true, bxdown_to_2, So_cs, So_nl, So_then, So_ite, So_nx, So_ret, So_bk, So_ct, evS, evE, evEs, evT, evTa, evTo, evAn, evOr, evAs, evP, evI, Ok_bind, Ok_ok, Ok_bad, Ok_some, Ok_bs, Ok_ite, asgT, asgR, asgT.asgTs, setAll, wipeT, biF, meF, binF, cmpF, bl?, List.getElem?_cons_zero, List.getElem?_cons_succ, List.set_cons_zero, List.set_cons_succ, List.map_cons, List.map_nil, List.replicate_succ, List.replicate_zero, List.cons_append, List.nil_append, Nat.sub_self, Nat.reduceSub, Nat.reduceAdd]
      refine ⟨j, Nat.lt_succ_self _, trivial, ?_, by omega, ?_⟩
      · rw [show ((j + 1 : Nat) : Int) - 1 = (j : Int) by omega]
      · rw [hd]
        show (if l[j]? = some x then _ else _) = _
        rw [if_neg (by rw [hy]; simpa using he)]
variable {A : AppD} {s : StD}
theorem st_ix {S : Sto} (s : StD) : fIx S (.p (encSt s)) (.p (.int 0)) = some (.p (.str s.m), S) ∧ fIx S (.p (encSt s)) (.p (.int 1)) = some (.p (encS s.k), S) := ⟨rfl, rfl⟩
theorem tap_ix {S : Sto} (t : TapD) : fIx S (.p (encT t)) (.p (.int 0)) = some (.p (.str t.n), S) ∧ fIx S (.p (encT t)) (.p (.int 3)) = some (.p (encS t.a), S) ∧ fIx S (.p (encT t)) (.p (.int 4)) = some (.p (.str t.b), S) := ⟨rfl, rfl, rfl⟩
theorem ne_nilS {S : Sto} {l : List Str} (h : ∀ y ∈ l, PyData.strOk y = true) : fNe S (.p (encS l)) (.p (.tuple [])) = some (.p (.bool (!l.isEmpty)), S) := by
  have hs : shapedB (encS l) = true := sh_tuple fun d hd => by
    obtain ⟨y, hy, rfl⟩ := List.mem_map.mp hd
    exact ⟨sh_str (h y hy), Nat.zero_le _⟩
  rw [e_neD rfl rfl hs rfl]
  cases l <;> rfl
theorem items_st {S : Sto} (s : StD) : items S (.p (encSt s)) = some (true, [.p (.str s.m), .p (encS s.k)]) := rfl
theorem tapsIn_ok {iO : Nat} (hO : T[iO]? = some fxtaps_on) (h : T[i]? = some (fxtaps_in iO)) (G : GoodA A) (hs : OkSt A s) (hc : Clo S) (q : Q (.p (.tuple ((tapsIn A s).map encT))) S) : Ok (callN T (k + 2) i [.p (encA A), .p (encSt s)] S) Q E := by
  refine Ok_call h rfl ?_
  have mB := List.all_eq_true.mp G.msB
  have sB := List.all_eq_true.mp G.ssB
  have hk : ∀ y ∈ s.k, PyData.strOk y = true := fun y hy => strB_ok (sB y (hs.k y hy))
  simp only [fxtaps_in, bxtaps_in, So_cs, So_nl, So_then, So_ite, So_nx, So_ret, So_bk, So_ct, evS, evE, evEs, evT, evTa, evTo, evAn, evOr, evAs, evP, evI, Ok_bind, Ok_ok, Ok_bad, Ok_some, Ok_bs, Ok_ite, asgT, asgR, asgT.asgTs, setAll, wipeT, biF, meF, binF, cmpF, bl?, List.getElem?_cons_zero, List.getElem?_cons_succ, List.set_cons_zero, List.set_cons_succ, List.map_cons, List.map_nil, List.replicate_succ, List.replicate_zero, List.cons_append, List.nil_append, Nat.sub_self, Nat.reduceSub, Nat.reduceAdd, items_st, mkT0, ne_nilS hk, trub]
  unfold tapsIn at q
  rcases List.eq_nil_or_concat s.k with e | ⟨l, t, e⟩
  · rw [e] at q ⊢
    simp only [List.isEmpty_nil, Bool.not_true, Bool.false_eq_true, if_false, mkT0, So_cs, So_nl, So_then, So_ite, So_nx, So_ret, So_bk, So_ct, evS, evE, evEs, evT, evTa, evTo, evAn, evOr, evAs, evP, evI, Ok_bind, Ok_ok, Ok_bad, Ok_some, Ok_bs, Ok_ite, asgT, asgR, asgT.asgTs, setAll, wipeT, biF, meF, binF, cmpF, bl?, List.getElem?_cons_zero, List.getElem?_cons_succ, List.set_cons_zero, List.set_cons_succ, List.map_cons, List.map_nil, List.replicate_succ, List.replicate_zero, List.cons_append, List.nil_append, Nat.sub_self, Nat.reduceSub, Nat.reduceAdd]
    exact Ok_end0 hc rfl rfl q
  · have e' : s.k = l ++ [t] := by simpa using e
    have hne : s.k.isEmpty = false := by rw [e']; simp
    rw [hne]
    have hix : ∀ S : Sto, fIx S (.p (encS s.k)) (.p (.int (-1))) = some (.p (.str t), S) := fun S => by
      rw [e']
      show fIx S (.p (.tuple ((l ++ [t]).map .str))) _ = _
      rw [e_ixT, List.map_append]
      show (L2.atI (l.map PyData.str ++ [PyData.str t]) (-1)).map _ = _
      rw [L2.atI_last]
      rfl
    simp only [Bool.not_false, if_true, So_cs, So_nl, So_then, So_ite, So_nx, So_ret, So_bk, So_ct, evS, evE, evEs, evT, evTa, evTo, evAn, evOr, evAs, evP, evI, Ok_bind, Ok_ok, Ok_bad, Ok_some, Ok_bs, Ok_ite, asgT, asgR, asgT.asgTs, setAll, wipeT, biF, meF, binF, cmpF, bl?, List.getElem?_cons_zero, List.getElem?_cons_succ, List.set_cons_zero, List.set_cons_succ, List.map_cons, List.map_nil, List.replicate_succ, List.replicate_zero, List.cons_append, List.nil_append, Nat.sub_self, Nat.reduceSub, Nat.reduceAdd, hix]
    have ht : s.k.getLast? = some t := by rw [e']; simp
    rw [ht] at q
    refine tapsOn_ok hO G (strB_ok (mB _ hs.m)) (hk t (by rw [e']; simp)) hc ?_
    exact Ok_end0 hc rfl rfl q
/-- acts, one by one -/
theorem act_cases {A : AppD} (G : GoodA A) {t : TapD} (ht : t ∈ A.ts) : (∃ y : Str, y ∈ A.ss ∧ (t.a = [("open" : Str), y] ∨ t.a = [("put" : Str), y] ∨ t.a = [("to" : Str), y])) ∨ t.a = [("back" : Str)] := by
  obtain ⟨aims, _, ha, h⟩ := G.ts
  rcases (h t ht).a with ⟨x, hx, e | e⟩ | e | ⟨x, hx, e⟩
  · exact .inl ⟨x, hx, .inl e⟩
  · exact .inl ⟨x, hx, .inr (.inl e)⟩
  · exact .inr e
  · exact .inl ⟨x, ha x hx, .inr (.inr e)⟩
theorem mkS {S : Sto} (l : List Str) (x : Str) (h : l.length + 1 ≤ lim) : mkTup ((l.map PyData.str).map W.p ++ [W.p (.str x)]) S = .ok (.p (encS (l ++ [x]))) S := by
  have e : (l.map PyData.str).map W.p ++ [W.p (.str x)] = ((l ++ [x]).map PyData.str).map W.p := by simp
  rw [e, mkT _ (by simpa using h)]
  rfl
theorem eq_lit {S : Sto} {x y : Str} (hx : PyData.strOk x = true) (hy : PyData.strOk y = true) (b : Bool) (h : decide (x = y) = b) : fEq S (.p (.str x)) (.p (.str y)) = some (.p (.bool b), S) := by rw [e_eqS hx hy, h]
theorem okLits : PyData.strOk "open" = true ∧ PyData.strOk "put" = true ∧ PyData.strOk "back" = true ∧ PyData.strOk "to" = true := by decide +kernel
theorem neLits : ("put" : Str) ≠ "open" ∧ ("to" : Str) ≠ "open" ∧ ("to" : Str) ≠ "put" ∧ ("back" : Str) ≠ "open" ∧ ("back" : Str) ≠ "put" ∧ ("to" : Str) ≠ "back" := by decide +kernel
theorem mkSt {S : Sto} (m : Str) (l : List Str) : mkTup [.p (.str m), .p (encS l)] S = .ok (.p (encSt ⟨m, l⟩)) S := rfl
theorem set2 {τ : Tau} {a b : W} : setAll [2, 3] [a, b] τ = some ((τ.set 2 (some a)).set 3 (some b)) := rfl
theorem behind_ok {iD : Nat} (hD : T[iD]? = some fxdown_to) (h : T[i]? = some (fxbehind_tap iD)) (G : GoodA A) (hs : OkSt A s) {t : TapD} (ht : t ∈ A.ts) (hc : Clo S) (q : Q (.p (encSt (behind s t))) S) : Ok (callN T (k + 2) i [.p (encSt s), .p (encT t)] S) Q E := by
  refine Ok_call h rfl ?_
  have sB := List.all_eq_true.mp G.ssB
  have hk : ∀ y ∈ s.k, PyData.strOk y = true := fun y hy => strB_ok (sB y (hs.k y hy))
  have hl := hs.l
  obtain ⟨o1, o2, o3, o4⟩ := okLits
  obtain ⟨n1, n2, n3, n4, n5, n6⟩ := neLits
  have lk : s.k.length + 1 ≤ lim := by unfold lim; omega
  have ld : s.k.dropLast.length + 1 ≤ lim := by rw [List.length_dropLast]; unfold lim; omega
  have ei : ∀ (S : Sto) (l : List Str), items S (.p (encS l)) = some (true, (l.map PyData.str).map W.p) := fun _ _ => rfl
  simp only [fxbehind_tap, bxbehind_tap, So_cs, So_nl, So_then, So_ite, So_nx, So_ret, So_bk, So_ct, evS, evE, evEs, evT, evTa, evTo, evAn, evOr, evAs, evP, evI, Ok_bind, Ok_ok, Ok_bad, Ok_some, Ok_bs, Ok_ite, asgT, asgR, asgT.asgTs, setAll, wipeT, biF, meF, binF, cmpF, bl?, List.getElem?_cons_zero, List.getElem?_cons_succ, List.set_cons_zero, List.set_cons_succ, List.map_cons, List.map_nil, List.replicate_succ, List.replicate_zero, List.cons_append, List.nil_append, Nat.sub_self, Nat.reduceSub, Nat.reduceAdd, st_ix, tap_ix]
  rcases act_cases G ht with ⟨y, hy, e | e | e⟩ | e
  · have hb : behind s t = ⟨t.b, s.k ++ [y]⟩ := by unfold behind behindK; rw [e]; simp
    have x0 : ∀ S : Sto, fIx S (.p (encS t.a)) (.p (.int 0)) = some (.p (.str "open"), S) ∧ fIx S (.p (encS t.a)) (.p (.int 1)) = some (.p (.str y), S) := fun S => by rw [e]; exact ⟨rfl, rfl⟩
    simp only [x0, So_cs, So_nl, So_then, So_ite, So_nx, So_ret, So_bk, So_ct, evS, evE, evEs, evT, evTa, evTo, evAn, evOr, evAs, evP, evI, Ok_bind, Ok_ok, Ok_bad, Ok_some, Ok_bs, Ok_ite, asgT, asgR, asgT.asgTs, setAll, wipeT, biF, meF, binF, cmpF, bl?, List.getElem?_cons_zero, List.getElem?_cons_succ, List.set_cons_zero, List.set_cons_succ, List.map_cons, List.map_nil, List.replicate_succ, List.replicate_zero, List.cons_append, List.nil_append, Nat.sub_self, Nat.reduceSub, Nat.reduceAdd, eq_lit o1 o1 true (by simp), trub, if_true, tap_ix, ei, mkS _ _ lk, mkSt]
    rw [hb] at q
    exact Ok_end0 hc rfl rfl q
  · have hb : behind s t = ⟨t.b, s.k.dropLast ++ [y]⟩ := by unfold behind behindK; rw [e]; simp [n1]
    have x0 : ∀ S : Sto, fIx S (.p (encS t.a)) (.p (.int 0)) = some (.p (.str "put"), S) ∧ fIx S (.p (encS t.a)) (.p (.int 1)) = some (.p (.str y), S) := fun S => by rw [e]; exact ⟨rfl, rfl⟩
    simp only [x0, So_cs, So_nl, So_then, So_ite, So_nx, So_ret, So_bk, So_ct, evS, evE, evEs, evT, evTa, evTo, evAn, evOr, evAs, evP, evI, Ok_bind, Ok_ok, Ok_bad, Ok_some, Ok_bs, Ok_ite, asgT, asgR, asgT.asgTs, setAll, wipeT, biF, meF, binF, cmpF, bl?, List.getElem?_cons_zero, List.getElem?_cons_succ, List.set_cons_zero, List.set_cons_succ, List.map_cons, List.map_nil, List.replicate_succ, List.replicate_zero, List.cons_append, List.nil_append, Nat.sub_self, Nat.reduceSub, Nat.reduceAdd, eq_lit o2 o1 false (decide_eq_false n1), eq_lit o2 o2 true (by simp), bxbehind_tap_3, trub, if_true, Bool.false_eq_true, if_false, tap_ix, e_cutLast, ei, mkS _ _ ld, mkSt]
    rw [hb] at q
    exact Ok_end0 hc rfl rfl q
  · have hb : behind s t = ⟨t.b, downTo s.k.dropLast y⟩ := by unfold behind behindK; rw [e]; simp [n2, n3]
    have x0 : ∀ S : Sto, fIx S (.p (encS t.a)) (.p (.int 0)) = some (.p (.str "to"), S) ∧ fIx S (.p (encS t.a)) (.p (.int 1)) = some (.p (.str y), S) := fun S => by rw [e]; exact ⟨rfl, rfl⟩
    simp only [x0, So_cs, So_nl, So_then, So_ite, So_nx, So_ret, So_bk, So_ct, evS, evE, evEs, evT, evTa, evTo, evAn, evOr, evAs, evP, evI, Ok_bind, Ok_ok, Ok_bad, Ok_some, Ok_bs, Ok_ite, asgT, asgR, asgT.asgTs, setAll, wipeT, biF, meF, binF, cmpF, bl?, List.getElem?_cons_zero, List.getElem?_cons_succ, List.set_cons_zero, List.set_cons_succ, List.map_cons, List.map_nil, List.replicate_succ, List.replicate_zero, List.cons_append, List.nil_append, Nat.sub_self, Nat.reduceSub, Nat.reduceAdd, eq_lit o4 o1 false (decide_eq_false n2), eq_lit o4 o2 false (decide_eq_false n3), eq_lit o4 o3 false (decide_eq_false n6), bxbehind_tap_3, bxbehind_tap_2, bxbehind_tap_1, trub, if_true, Bool.false_eq_true, if_false, tap_ix, e_cutLast]
    refine downTo_ok hD hc (strB_ok (sB y hy)) (fun z hz => hk z (List.dropLast_subset _ hz)) (by rw [List.length_dropLast]; omega) ?_
    simp only [mkSt, So_cs, So_nl, So_then, So_ite, So_nx, So_ret, So_bk, So_ct, evS, evE, evEs, evT, evTa, evTo, evAn, evOr, evAs, evP, evI, Ok_bind, Ok_ok, Ok_bad, Ok_some, Ok_bs, Ok_ite, asgT, asgR, asgT.asgTs, setAll, wipeT, biF, meF, binF, cmpF, bl?, List.getElem?_cons_zero, List.getElem?_cons_succ, List.set_cons_zero, List.set_cons_succ, List.map_cons, List.map_nil, List.replicate_succ, List.replicate_zero, List.cons_append, List.nil_append, Nat.sub_self, Nat.reduceSub, Nat.reduceAdd]
    rw [hb] at q
    exact Ok_end0 hc rfl rfl q
  · have hb : behind s t = ⟨t.b, s.k.dropLast⟩ := by unfold behind behindK; rw [e]
    have x0 : ∀ S : Sto, fIx S (.p (encS t.a)) (.p (.int 0)) = some (.p (.str "back"), S) := fun S => by rw [e]; rfl
    simp only [x0, So_cs, So_nl, So_then, So_ite, So_nx, So_ret, So_bk, So_ct, evS, evE, evEs, evT, evTa, evTo, evAn, evOr, evAs, evP, evI, Ok_bind, Ok_ok, Ok_bad, Ok_some, Ok_bs, Ok_ite, asgT, asgR, asgT.asgTs, setAll, wipeT, biF, meF, binF, cmpF, bl?, List.getElem?_cons_zero, List.getElem?_cons_succ, List.set_cons_zero, List.set_cons_succ, List.map_cons, List.map_nil, List.replicate_succ, List.replicate_zero, List.cons_append, List.nil_append, Nat.sub_self, Nat.reduceSub, Nat.reduceAdd, eq_lit o3 o1 false (decide_eq_false n4), eq_lit o3 o2 false (decide_eq_false n5), eq_lit o3 o3 true (by simp), bxbehind_tap_3, bxbehind_tap_2, trub, if_true, Bool.false_eq_true, if_false, tap_ix, e_cutLast, mkSt]
    rw [hb] at q
    exact Ok_end0 hc rfl rfl q
end
end Pv
end

section
set_option maxRecDepth 10000
set_option maxHeartbeats 4000000
namespace Pv
open PySem PySem.Spec L2
open PyProof.Rows hiding St

/-! ## taps that are tapped -/
def tapS (A : AppD) (s : StD) (n : Str) : Option TapD := (tapsIn A s).find? fun t => decide (t.n = n)
def doS (A : AppD) (s : StD) (n : Str) : Option StD := (tapS A s n).map (behind s)
def rowS (A : AppD) : StD → List Str → Option StD
  | s, [] => some s
  | s, n :: r => match doS A s n with
    | some s' => rowS A s' r
    | none => none
theorem rowS_app {A : AppD} : ∀ (a b : List Str) (s : StD), rowS A s (a ++ b) = (rowS A s a).bind fun s' => rowS A s' b
  | [], b, s => rfl
  | n :: a, b, s => by
    simp only [List.cons_append, rowS]
    cases doS A s n with
    | none => rfl
    | some s' => exact rowS_app a b s'
section
variable {A : AppD} {s : StD}
theorem tapsIn_sub {t : TapD} (h : t ∈ tapsIn A s) : t ∈ A.ts ∧ t.m = s.m ∧ s.k.getLast? = some t.s := by
  unfold tapsIn at h
  split at h
  · rename_i x e
    have := List.mem_filter.mp h
    simp only [onT, Bool.and_eq_true, decide_eq_true_eq] at this
    exact ⟨this.1, this.2.1, by rw [e, this.2.2]⟩
  · cases h
theorem dnS_sub {l : List Str} {x : Str} : ∀ n, ∀ y ∈ dnS l x n, y = x ∨ y ∈ l
  | 0, y, h => .inl (by simpa [dnS] using h)
  | n + 1, y, h => by
    unfold dnS at h
    split at h
    · exact .inr (List.mem_of_mem_take h)
    · exact dnS_sub n y h
theorem dnS_len {l : List Str} {x : Str} : ∀ n, (dnS l x n).length ≤ l.length + 1
  | 0 => by simp [dnS]
  | n + 1 => by
    unfold dnS
    split
    · have : (List.take (n + 1) l).length ≤ l.length := by rw [List.length_take]; exact Nat.min_le_right _ _
      omega
    · exact dnS_len n
theorem OkSt.behind (G : GoodA A) (h : OkSt A s) {t : TapD} (ht : t ∈ A.ts) (hl : s.k.length + 1 ≤ 100000) : OkSt A (behind s t) ∧ (Pv.behind s t).k.length ≤ s.k.length + 1 := by
  obtain ⟨aims, _, ha, hT⟩ := G.ts
  have hb := (hT t ht).b
  have key : (∀ x ∈ behindK s.k t.a, x ∈ A.ss) ∧ (behindK s.k t.a).length ≤ s.k.length + 1 := by
    obtain ⟨n1, n2, n3, n4, n5, n6⟩ := neLits
    rcases act_cases G ht with ⟨y, hy, e | e | e⟩ | e
    · have eb : behindK s.k t.a = s.k ++ [y] := by unfold behindK; rw [e]; simp
      rw [eb]
      refine ⟨fun x hx => ?_, by simp⟩
      rcases List.mem_append.mp hx with hx | hx
      · exact h.k x hx
      · rw [List.mem_singleton] at hx; rw [hx]; exact hy
    · have eb : behindK s.k t.a = s.k.dropLast ++ [y] := by unfold behindK; rw [e]; simp [n1]
      rw [eb]
      refine ⟨fun x hx => ?_, by simp [List.length_append, List.length_dropLast] <;> omega⟩
      rcases List.mem_append.mp hx with hx | hx
      · exact h.k x (List.dropLast_subset _ hx)
      · rw [List.mem_singleton] at hx; rw [hx]; exact hy
    · have eb : behindK s.k t.a = downTo s.k.dropLast y := by unfold behindK; rw [e]; simp [n2, n3]
      rw [eb]
      refine ⟨fun x hx => ?_, ?_⟩
      · rcases dnS_sub _ x hx with rfl | hx
        · exact hy
        · exact h.k x (List.dropLast_subset _ hx)
      · have := dnS_len (l := s.k.dropLast) (x := y) s.k.dropLast.length
        have hdl : s.k.dropLast.length = s.k.length - 1 := List.length_dropLast
        unfold downTo
        omega
    · have eb : behindK s.k t.a = s.k.dropLast := by unfold behindK; rw [e]
      rw [eb]
      exact ⟨fun x hx => h.k x (List.dropLast_subset _ hx), by simp; omega⟩
  exact ⟨⟨hb, key.1, Nat.le_trans key.2 hl⟩, key.2⟩
theorem inP_str {x : Str} {l : List Str} : inP (.str x) (l.map .str) = decide (x ∈ l) := by
  unfold inP
  induction l with
  | nil => simp
  | cons y r ih =>
    rw [List.map_cons, List.any_cons, ih, eqv_str]
    by_cases h : y = x
    · subst h; simp
    · rw [decide_eq_false h, Bool.false_or]
      congr 1
      simp [Ne.symm h, eq_comm]
theorem oneOf_str {x : Str} {l : List Str} (h : x ∈ l) : oneOf (l.map .str) (.str x) = true := by
  unfold oneOf
  rw [inP_str, decide_eq_true h]
  rfl
theorem stW_ok (h : OkSt A s) : stW (encA A) (encSt s) = .none := by
  show (if oneOf (A.ms.map .str) (.str s.m) then (if (s.k.map PyData.str).all (oneOf (A.ss.map .str)) then PyData.none else .str "stack") else .str "mode") = _
  rw [oneOf_str h.m, if_pos rfl, if_pos]
  rw [List.all_eq_true]
  intro d hd
  obtain ⟨x, hx, rfl⟩ := List.mem_map.mp hd
  exact oneOf_str (h.k x hx)
theorem flat_map (l : List Str) : (l.map PyData.str).all flatP = true := by
  rw [List.all_eq_true]
  intro d hd
  obtain ⟨x, _, rfl⟩ := List.mem_map.mp hd
  rfl
theorem fv_st (G : GoodA A) (h : OkSt A s) : Fv 900012 2 (encSt s) := by
  have mB := List.all_eq_true.mp G.msB
  have sB := List.all_eq_true.mp G.ssB
  have str : ∀ x, strB 8 x = true → Fv 8 0 (.str x) := fun x hx => by
    simp only [strB, Bool.and_eq_true, decide_eq_true_eq] at hx
    exact ⟨by simpa [okP] using hx.1, hx.2, Nat.zero_le _⟩
  have h1 : Fs (s.k.length * 9) 0 (s.k.map PyData.str) := by
    have := fs_all (w := 8) (n := 0) (ds := s.k.map PyData.str) fun d hd => by
      obtain ⟨x, hx, rfl⟩ := List.mem_map.mp hd
      exact str x (sB x (h.k x hx))
    rwa [List.length_map] at this
  have h2 := h1.tup
  have h3 := (Fs.one (str _ (mB _ h.m))).app (Fs.one h2)
  refine h3.tup.mono ?_ (by omega)
  have := h.l
  omega
end
section
variable {T : List Fd} {k i : Nat} {S : Sto} {Q : W → Sto → Prop} {E : Xc → Sto → Prop} {A : AppD} {s : StD}
theorem stErrOk_ok {iO : Nat} (hO : T[iO]? = some fxis_one) (h : T[i]? = some (fxstate_error iO)) (G : GoodA A) (hs : OkSt A s) (hc : Clo S) (q : Q (.p .none) S) : Ok (callN T (k + 2) i [.p (encA A), .p (encSt s)] S) Q E := by
  refine stErr_ok (x0 := .str "app") (ms := A.ms.map .str) (ss := A.ss.map .str) hO h hc (flat_map _) (flat_map _) (fv_st G hs) (by decide) ?_
  rw [show (PyData.tuple [.str "app", .tuple (A.ms.map .str), .tuple (A.ss.map .str), _, _]) = encA A from rfl, stW_ok hs]
  exact q
theorem reqSt_ok {iO iE : Nat} (hO : T[iO]? = some fxis_one) (hE : T[iE]? = some (fxstate_error iO)) (h : T[i]? = some (fxrequire_state iE)) (G : GoodA A) (hs : OkSt A s) (hc : Clo S) (q : Q (.p .none) S) : Ok (callN T (k + 3) i [.p (encA A), .p (encSt s)] S) Q E := by
  refine Ok_call h rfl ?_
  simp only [fxrequire_state, bxrequire_state, So_cs, So_nl, So_then, So_ite, So_nx, So_ret, So_bk, So_ct, evS, evE, evEs, evT, evTa, evTo, evAn, evOr, evAs, evP, evI, Ok_bind, Ok_ok, Ok_bad, Ok_some, Ok_bs, Ok_ite, asgT, asgR, asgT.asgTs, setAll, wipeT, biF, meF, binF, cmpF, bl?, List.getElem?_cons_zero, List.getElem?_cons_succ, List.set_cons_zero, List.set_cons_succ, List.map_cons, List.map_nil, List.replicate_succ, List.replicate_zero, List.cons_append, List.nil_append, Nat.sub_self, Nat.reduceSub, Nat.reduceAdd]
  refine stErrOk_ok hO hE G hs hc ?_
  simp only [So_cs, So_nl, So_then, So_ite, So_nx, So_ret, So_bk, So_ct, evS, evE, evEs, evT, evTa, evTo, evAn, evOr, evAs, evP, evI, Ok_bind, Ok_ok, Ok_bad, Ok_some, Ok_bs, Ok_ite, asgT, asgR, asgT.asgTs, setAll, wipeT, biF, meF, binF, cmpF, bl?, List.getElem?_cons_zero, List.getElem?_cons_succ, List.set_cons_zero, List.set_cons_succ, List.map_cons, List.map_nil, List.replicate_succ, List.replicate_zero, List.cons_append, List.nil_append, Nat.sub_self, Nat.reduceSub, Nat.reduceAdd, e_isNot, isNone, Bool.not_true, trub, Bool.false_eq_true, if_false]
  exact Ok_end0 hc rfl rfl q
theorem find_first {α : Type} {p : α → Bool} : ∀ {l : List α} {x : α}, l.find? p = some x → ∃ pre post, l = pre ++ x :: post ∧ (∀ y ∈ pre, p y = false) ∧ p x = true
  | a :: r, x, h => by
    rw [List.find?_cons] at h
    cases hp : p a with
    | true =>
      rw [hp] at h
      cases h
      exact ⟨[], r, rfl, fun y hy => (nomatch hy), hp⟩
    | false =>
      rw [hp] at h
      obtain ⟨pre, post, rfl, h1, h2⟩ := find_first h
      exact ⟨a :: pre, post, rfl, fun y hy => by rcases List.mem_cons.mp hy with rfl | hy; exact hp; exact h1 y hy, h2⟩
theorem tapped_ok {iN iO iB iD : Nat} (hN : T[iN]? = some fxtaps_on) (hI : T[iO]? = some (fxtaps_in iN)) (hD : T[iD]? = some fxdown_to) (hB : T[iB]? = some (fxbehind_tap iD)) (h : T[i]? = some (fxtapped iB iO)) (G : GoodA A) (hs : OkSt A s) {n : Str} (hn : PyData.strOk n = true) {s' : StD} (hd : doS A s n = some s') (hc : Clo S) (q : Q (.p (encSt s')) S) :
    Ok (callN T (k + 3) i [.p (encA A), .p (encSt s), .p (.str n)] S) Q E := by
  refine Ok_call h rfl ?_
  simp only [fxtapped, bxtapped, So_cs, So_nl, So_then, So_ite, So_nx, So_ret, So_bk, So_ct, evS, evE, evEs, evT, evTa, evTo, evAn, evOr, evAs, evP, evI, Ok_bind, Ok_ok, Ok_bad, Ok_some, Ok_bs, Ok_ite, asgT, asgR, asgT.asgTs, setAll, wipeT, biF, meF, binF, cmpF, bl?, List.getElem?_cons_zero, List.getElem?_cons_succ, List.set_cons_zero, List.set_cons_succ, List.map_cons, List.map_nil, List.replicate_succ, List.replicate_zero, List.cons_append, List.nil_append, Nat.sub_self, Nat.reduceSub, Nat.reduceAdd]
  refine tapsIn_ok hN hI G hs hc ?_
  simp only [itemsT, stillp, if_true, rowsT, So_cs, So_nl, So_then, So_ite, So_nx, So_ret, So_bk, So_ct, evS, evE, evEs, evT, evTa, evTo, evAn, evOr, evAs, evP, evI, Ok_bind, Ok_ok, Ok_bad, Ok_some, Ok_bs, Ok_ite, asgT, asgR, asgT.asgTs, setAll, wipeT, biF, meF, binF, cmpF, bl?, List.getElem?_cons_zero, List.getElem?_cons_succ, List.set_cons_zero, List.set_cons_succ, List.map_cons, List.map_nil, List.replicate_succ, List.replicate_zero, List.cons_append, List.nil_append, Nat.sub_self, Nat.reduceSub, Nat.reduceAdd]
  unfold doS tapS at hd
  rw [Option.map_eq_some_iff] at hd
  obtain ⟨t, ht, rfl⟩ := hd
  obtain ⟨pre0, post0, e0, h1, h2⟩ := find_first ht
  refine So_forM (fun pre τ S' => S' = S ∧ (∃ x, τ = [some (.p (encA A)), some (.p (encSt s)), some (.p (.str n)), x]) ∧ pre.length ≤ pre0.length) ⟨rfl, ⟨_, rfl⟩, Nat.zero_le _⟩ ?_ ?_
  · rintro pre u post τ S' e ⟨rfl, ⟨x, rfl⟩, hl⟩
    have hu : u ∈ tapsIn A s := by rw [e]; simp
    have hut := (tapsIn_sub hu).1
    obtain ⟨b1, b2, b3, b4⟩ := G.tB hut
    have e1 : isiB (.p (.str n)) .str = true := rfl
    simp only [bxtapped_2, So_cs, So_nl, So_then, So_ite, So_nx, So_ret, So_bk, So_ct, evS, evE, evEs, evT, evTa, evTo, evAn, evOr, evAs, evP, evI, Ok_bind, Ok_ok, Ok_bad, Ok_some, Ok_bs, Ok_ite, asgT, asgR, asgT.asgTs, setAll, wipeT, biF, meF, binF, cmpF, bl?, List.getElem?_cons_zero, List.getElem?_cons_succ, List.set_cons_zero, List.set_cons_succ, List.map_cons, List.map_nil, List.replicate_succ, List.replicate_zero, List.cons_append, List.nil_append, Nat.sub_self, Nat.reduceSub, Nat.reduceAdd, e1, trub, if_true, tap_ix, e_eqS (strB_ok b1) hn]
    rw [e0] at e
    rcases Nat.lt_or_ge pre.length pre0.length with hlt | hge
    · have hup : u ∈ pre0 := by
        have e3 : (pre0 ++ t :: post0)[pre.length]? = some u := by rw [e]; simp
        rw [List.getElem?_append_left hlt] at e3
        exact List.mem_of_getElem? e3
      have := h1 u hup
      simp only [this, Bool.false_eq_true, if_false]
      exact ⟨trivial, ⟨_, rfl⟩, by simp; omega⟩
    · have hut' : u = t := by
        have hle : pre.length = pre0.length := by omega
        have e3 : (pre0 ++ t :: post0)[pre.length]? = some u := by rw [e]; simp
        rw [List.getElem?_append_right (by omega), hle, Nat.sub_self] at e3
        simpa using e3.symm
      subst hut'
      simp only [h2, if_true]
      refine behind_ok hD hB G hs hut hc ?_
      exact Ok_end0 hc rfl rfl q
  · rintro τ S' ⟨rfl, ⟨x, rfl⟩, hl⟩
    rw [e0] at hl
    simp at hl
    omega
theorem doTap_ok {iN iO iB iD i1 iE iR iT : Nat} (hN : T[iN]? = some fxtaps_on) (hI : T[iO]? = some (fxtaps_in iN)) (hD : T[iD]? = some fxdown_to) (hB : T[iB]? = some (fxbehind_tap iD)) (h1 : T[i1]? = some fxis_one) (hE : T[iE]? = some (fxstate_error i1)) (hR : T[iR]? = some (fxrequire_state iE)) (hT : T[iT]? = some (fxtapped iB iO)) (h : T[i]? = some (fxdo_tap iR iT))
    (G : GoodA A) (hs : OkSt A s) {n : Str} (hn : PyData.strOk n = true) {s' : StD} (hd : doS A s n = some s') (hc : Clo S) (q : Q (.p (encSt s')) S) : Ok (callN T (k + 4) i [.p (encA A), .p (encSt s), .p (.str n)] S) Q E := by
  refine Ok_call h rfl ?_
  simp only [fxdo_tap, bxdo_tap, So_cs, So_nl, So_then, So_ite, So_nx, So_ret, So_bk, So_ct, evS, evE, evEs, evT, evTa, evTo, evAn, evOr, evAs, evP, evI, Ok_bind, Ok_ok, Ok_bad, Ok_some, Ok_bs, Ok_ite, asgT, asgR, asgT.asgTs, setAll, wipeT, biF, meF, binF, cmpF, bl?, List.getElem?_cons_zero, List.getElem?_cons_succ, List.set_cons_zero, List.set_cons_succ, List.map_cons, List.map_nil, List.replicate_succ, List.replicate_zero, List.cons_append, List.nil_append, Nat.sub_self, Nat.reduceSub, Nat.reduceAdd]
  refine reqSt_ok h1 hE hR G hs hc ?_
  refine tapped_ok hN hI hD hB hT G hs hn hd hc ?_
  exact Ok_end0 hc rfl rfl q
theorem OkSt.doS (G : GoodA A) (hs : OkSt A s) {n : Str} {s' : StD} (hd : Pv.doS A s n = some s') (hl : s.k.length + 1 ≤ 100000) : OkSt A s' ∧ s'.k.length ≤ s.k.length + 1 := by
  unfold Pv.doS tapS at hd
  rw [Option.map_eq_some_iff] at hd
  obtain ⟨t, ht, rfl⟩ := hd
  exact hs.behind G (tapsIn_sub (List.mem_of_find?_eq_some ht)).1 hl
theorem doRow_ok {iN iO iB iD i1 iE iR iT : Nat} (hN : T[iN]? = some fxtaps_on) (hI : T[iO]? = some (fxtaps_in iN)) (hD : T[iD]? = some fxdown_to) (hB : T[iB]? = some (fxbehind_tap iD)) (h1 : T[i1]? = some fxis_one) (hE : T[iE]? = some (fxstate_error i1)) (hR : T[iR]? = some (fxrequire_state iE)) (hT : T[iT]? = some (fxtapped iB iO)) (h : T[i]? = some (fxdo_row iR iT))
    (G : GoodA A) (hs : OkSt A s) {ns : List Str} (hn : ∀ n ∈ ns, PyData.strOk n = true) (hl : s.k.length + ns.length ≤ 99999) {s' : StD} (hd : rowS A s ns = some s') (hc : Clo S) (q : Q (.p (encSt s')) S) : Ok (callN T (k + 4) i [.p (encA A), .p (encSt s), .p (encS ns)] S) Q E := by
  refine Ok_call h rfl ?_
  simp only [fxdo_row, bxdo_row, So_cs, So_nl, So_then, So_ite, So_nx, So_ret, So_bk, So_ct, evS, evE, evEs, evT, evTa, evTo, evAn, evOr, evAs, evP, evI, Ok_bind, Ok_ok, Ok_bad, Ok_some, Ok_bs, Ok_ite, asgT, asgR, asgT.asgTs, setAll, wipeT, biF, meF, binF, cmpF, bl?, List.getElem?_cons_zero, List.getElem?_cons_succ, List.set_cons_zero, List.set_cons_succ, List.map_cons, List.map_nil, List.replicate_succ, List.replicate_zero, List.cons_append, List.nil_append, Nat.sub_self, Nat.reduceSub, Nat.reduceAdd]
  refine reqSt_ok h1 hE hR G hs hc ?_
  simp only [itemsS, stillp, if_true, So_cs, So_nl, So_then, So_ite, So_nx, So_ret, So_bk, So_ct, evS, evE, evEs, evT, evTa, evTo, evAn, evOr, evAs, evP, evI, Ok_bind, Ok_ok, Ok_bad, Ok_some, Ok_bs, Ok_ite, asgT, asgR, asgT.asgTs, setAll, wipeT, biF, meF, binF, cmpF, bl?, List.getElem?_cons_zero, List.getElem?_cons_succ, List.set_cons_zero, List.set_cons_succ, List.map_cons, List.map_nil, List.replicate_succ, List.replicate_zero, List.cons_append, List.nil_append, Nat.sub_self, Nat.reduceSub, Nat.reduceAdd]
  rw [rowsT PyData.str ns]
  refine So_forM (fun pre τ S' => S' = S ∧ ∃ (x : Option W) (u : StD), τ = [some (.p (encA A)), some (.p (encSt u)), some (.p (encS ns)), x] ∧ OkSt A u ∧ u.k.length ≤ s.k.length + pre.length ∧ ∃ post, ns = pre ++ post ∧ rowS A u post = some s') ⟨rfl, _, s, rfl, hs, by simp, ns, rfl, hd⟩ ?_ ?_
  · rintro pre n post τ S' e ⟨rfl, x, u, rfl, hu, hul, post', e2, hr⟩
    rw [e] at e2
    have := List.append_cancel_left e2
    subst this
    have hlen : pre.length + 1 ≤ ns.length := by rw [e]; simp
    simp only [rowS] at hr
    split at hr
    · rename_i u' hu'
      simp only [bxdo_row_2, So_cs, So_nl, So_then, So_ite, So_nx, So_ret, So_bk, So_ct, evS, evE, evEs, evT, evTa, evTo, evAn, evOr, evAs, evP, evI, Ok_bind, Ok_ok, Ok_bad, Ok_some, Ok_bs, Ok_ite, asgT, asgR, asgT.asgTs, setAll, wipeT, biF, meF, binF, cmpF, bl?, List.getElem?_cons_zero, List.getElem?_cons_succ, List.set_cons_zero, List.set_cons_succ, List.map_cons, List.map_nil, List.replicate_succ, List.replicate_zero, List.cons_append, List.nil_append, Nat.sub_self, Nat.reduceSub, Nat.reduceAdd]
      refine tapped_ok hN hI hD hB hT G hu (hn n (by rw [e]; simp)) hu' hc ?_
      obtain ⟨g1, g2⟩ := hu.doS G hu' (by omega)
      simp only [So_cs, So_nl, So_then, So_ite, So_nx, So_ret, So_bk, So_ct, evS, evE, evEs, evT, evTa, evTo, evAn, evOr, evAs, evP, evI, Ok_bind, Ok_ok, Ok_bad, Ok_some, Ok_bs, Ok_ite, asgT, asgR, asgT.asgTs, setAll, wipeT, biF, meF, binF, cmpF, bl?, List.getElem?_cons_zero, List.getElem?_cons_succ, List.set_cons_zero, List.set_cons_succ, List.map_cons, List.map_nil, List.replicate_succ, List.replicate_zero, List.cons_append, List.nil_append, Nat.sub_self, Nat.reduceSub, Nat.reduceAdd]
      exact ⟨trivial, _, u', rfl, g1, by simp; omega, post, by rw [e]; simp, hr⟩
    · cases hr
  · rintro τ S' ⟨rfl, x, u, rfl, hu, hul, post, e2, hr⟩
    have : post = [] := by
      have := congrArg List.length e2
      simp at this
      exact this
    subst this
    cases hr
    simp only [bxdo_row_1, So_cs, So_nl, So_then, So_ite, So_nx, So_ret, So_bk, So_ct, evS, evE, evEs, evT, evTa, evTo, evAn, evOr, evAs, evP, evI, Ok_bind, Ok_ok, Ok_bad, Ok_some, Ok_bs, Ok_ite, asgT, asgR, asgT.asgTs, setAll, wipeT, biF, meF, binF, cmpF, bl?, List.getElem?_cons_zero, List.getElem?_cons_succ, List.set_cons_zero, List.set_cons_succ, List.map_cons, List.map_nil, List.replicate_succ, List.replicate_zero, List.cons_append, List.nil_append, Nat.sub_self, Nat.reduceSub, Nat.reduceAdd]
    exact Ok_end0 hc rfl rfl q
theorem tapNames_ok {iN iO i1 iE iR : Nat} (hN : T[iN]? = some fxtaps_on) (hI : T[iO]? = some (fxtaps_in iN)) (h1 : T[i1]? = some fxis_one) (hE : T[iE]? = some (fxstate_error i1)) (hR : T[iR]? = some (fxrequire_state iE)) (h : T[i]? = some (fxtap_names iR iO))
    (G : GoodA A) (hs : OkSt A s) (hc : Clo S) (q : Q (.p (encS ((tapsIn A s).map (·.n)))) S) : Ok (callN T (k + 4) i [.p (encA A), .p (encSt s)] S) Q E := by
  refine Ok_call h rfl ?_
  simp only [fxtap_names, bxtap_names, So_cs, So_nl, So_then, So_ite, So_nx, So_ret, So_bk, So_ct, evS, evE, evEs, evT, evTa, evTo, evAn, evOr, evAs, evP, evI, Ok_bind, Ok_ok, Ok_bad, Ok_some, Ok_bs, Ok_ite, asgT, asgR, asgT.asgTs, setAll, wipeT, biF, meF, binF, cmpF, bl?, List.getElem?_cons_zero, List.getElem?_cons_succ, List.set_cons_zero, List.set_cons_succ, List.map_cons, List.map_nil, List.replicate_succ, List.replicate_zero, List.cons_append, List.nil_append, Nat.sub_self, Nat.reduceSub, Nat.reduceAdd]
  refine reqSt_ok h1 hE hR G hs hc ?_
  refine tapsIn_ok hN hI G hs hc ?_
  simp only [itemsT, stillp, if_true, rowsT, So_cs, So_nl, So_then, So_ite, So_nx, So_ret, So_bk, So_ct, evS, evE, evEs, evT, evTa, evTo, evAn, evOr, evAs, evP, evI, Ok_bind, Ok_ok, Ok_bad, Ok_some, Ok_bs, Ok_ite, asgT, asgR, asgT.asgTs, setAll, wipeT, biF, meF, binF, cmpF, bl?, List.getElem?_cons_zero, List.getElem?_cons_succ, List.set_cons_zero, List.set_cons_succ, List.map_cons, List.map_nil, List.replicate_succ, List.replicate_zero, List.cons_append, List.nil_append, Nat.sub_self, Nat.reduceSub, Nat.reduceAdd]
  refine Ok_lcM (fun t => some (W.p (.str t.n))) (fun t ht => ?_) ?_
  · simp only [So_cs, So_nl, So_then, So_ite, So_nx, So_ret, So_bk, So_ct, evS, evE, evEs, evT, evTa, evTo, evAn, evOr, evAs, evP, evI, Ok_bind, Ok_ok, Ok_bad, Ok_some, Ok_bs, Ok_ite, asgT, asgR, asgT.asgTs, setAll, wipeT, biF, meF, binF, cmpF, bl?, List.getElem?_cons_zero, List.getElem?_cons_succ, List.set_cons_zero, List.set_cons_succ, List.map_cons, List.map_nil, List.replicate_succ, List.replicate_zero, List.cons_append, List.nil_append, Nat.sub_self, Nat.reduceSub, Nat.reduceAdd, tap_ix]
    exact ⟨trivial, trivial⟩
  · have hl : (tapsIn A s).length ≤ 24 := by
      unfold tapsIn
      split
      · exact Nat.le_trans (List.length_filter_le _ _) G.len
      · exact Nat.zero_le _
    rw [fm_map (fun t : TapD => PyData.str t.n), mkL _ (by simp only [List.length_map]; unfold lim; omega)]
    simp only [So_cs, So_nl, So_then, So_ite, So_nx, So_ret, So_bk, So_ct, evS, evE, evEs, evT, evTa, evTo, evAn, evOr, evAs, evP, evI, Ok_bind, Ok_ok, Ok_bad, Ok_some, Ok_bs, Ok_ite, asgT, asgR, asgT.asgTs, setAll, wipeT, biF, meF, binF, cmpF, bl?, List.getElem?_cons_zero, List.getElem?_cons_succ, List.set_cons_zero, List.set_cons_succ, List.map_cons, List.map_nil, List.replicate_succ, List.replicate_zero, List.cons_append, List.nil_append, Nat.sub_self, Nat.reduceSub, Nat.reduceAdd, e_tupL]
    have e : encS ((tapsIn A s).map (·.n)) = .tuple ((tapsIn A s).map fun t => .str t.n) := by
      unfold encS
      rw [List.map_map]
      rfl
    rw [← e]
    exact Ok_end0 hc rfl rfl q
end
end Pv
end

section
set_option maxRecDepth 10000
set_option maxHeartbeats 4000000
namespace Pv
open PySem PySem.Spec L2
open PyProof.Rows hiding St

/-! ## plain: a tap of its own, what lies below -/
theorem eqvs_str : ∀ a b : List Str, PyData.eqvAll (a.map .str) (b.map .str) = decide (a = b)
  | [], [] => rfl
  | [], _ :: _ => rfl
  | _ :: _, [] => rfl
  | x :: a, y :: b => by
    rw [List.map_cons, List.map_cons, PyData.eqvAll, eqv_str, eqvs_str a b, ← Bool.decide_and]
    simp
theorem sh_encS {l : List Str} (h : ∀ x ∈ l, PyData.strOk x = true) : shapedB (encS l) = true := sh_tuple fun d hd => by
  obtain ⟨y, hy, rfl⟩ := List.mem_map.mp hd
  exact ⟨sh_str (h y hy), Nat.zero_le _⟩
theorem eqv_encS (a b : List Str) : PyData.eqv (encS a) (encS b) = decide (a = b) := by
  unfold encS
  rw [PyData.eqv, eqvs_str]
theorem e_eqL {S : Sto} {a b : List Str} (ha : ∀ x ∈ a, PyData.strOk x = true) (hb : ∀ x ∈ b, PyData.strOk x = true) : fEq S (.p (encS a)) (.p (encS b)) = some (.p (.bool (decide (a = b))), S) := by
  rw [e_eqD rfl rfl (sh_encS ha) (sh_encS hb), eqv_encS]
theorem e_neL {S : Sto} {a b : List Str} (ha : ∀ x ∈ a, PyData.strOk x = true) (hb : ∀ x ∈ b, PyData.strOk x = true) : fNe S (.p (encS a)) (.p (encS b)) = some (.p (.bool (!decide (a = b))), S) := by
  rw [e_neD rfl rfl (sh_encS ha) (sh_encS hb), eqv_encS]
theorem rngB {z : Nat} (h : z ≤ 1000000) : ((z : Int) < 2 ^ 62 ∧ -(2 ^ 62) ≤ (z : Int)) := ⟨by omega, by omega⟩
section
variable {A : AppD} {s : StD}
theorem OkSt.ok (G : GoodA A) (h : OkSt A s) : PyData.strOk s.m = true ∧ ∀ x ∈ s.k, PyData.strOk x = true := by
  have mB := List.all_eq_true.mp G.msB
  have sB := List.all_eq_true.mp G.ssB
  exact ⟨strB_ok (mB _ h.m), fun x hx => strB_ok (sB x (h.k x hx))⟩
theorem e_neSt {S : Sto} (G : GoodA A) (h : OkSt A s) : fNe S (.p (encSt s)) (.p (encSt s)) = some (.p (.bool false), S) := by
  obtain ⟨h1, h2⟩ := h.ok G
  have hs : shapedB (encSt s) = true := sh_tuple fun d hd => by
    simp only [List.mem_cons, List.not_mem_nil, or_false] at hd
    rcases hd with rfl | rfl
    · exact ⟨sh_str h1, Nat.zero_le _⟩
    · refine ⟨sh_encS h2, ?_⟩
      unfold encS
      rw [PyData.depth, depth_strs]
      decide
  rw [e_neD rfl rfl hs hs]
  have : PyData.eqv (encSt s) (encSt s) = true := by
    unfold encSt
    rw [PyData.eqv, PyData.eqvAll, PyData.eqvAll, PyData.eqvAll, eqv_str, eqv_encS]
    simp
  rw [this]
  rfl
theorem tapS_own (G : GoodA A) {t : TapD} (h : t ∈ tapsIn A s) : tapS A s t.n = some t := by
  have ht := tapsIn_sub h
  unfold tapS
  cases e : (tapsIn A s).find? fun u => decide (u.n = t.n) with
  | none =>
    have := List.find?_eq_none.mp e t h
    simp at this
  | some u =>
    have h1 := List.mem_of_find?_eq_some e
    have h2 : u.n = t.n := by have := List.find?_some e; simpa using this
    have hu := tapsIn_sub h1
    by_cases hut : u = t
    · rw [hut]
    · exfalso
      have hs : u.s = t.s := by
        have := hu.2.2.symm.trans ht.2.2
        exact Option.some.inj this
      have key : SameKey u t := ⟨h2, by rw [hu.2.1, ht.2.1], hs⟩
      have key' : SameKey t u := ⟨h2.symm, by rw [hu.2.1, ht.2.1], hs.symm⟩
      obtain ⟨i, hi, ei⟩ := List.mem_iff_getElem.mp hu.1
      obtain ⟨j, hj, ej⟩ := List.mem_iff_getElem.mp ht.1
      have P := List.pairwise_iff_getElem.mp G.ky
      rcases Nat.lt_trichotomy i j with hlt | heq | hgt
      · have := P i j hi hj hlt
        rw [ei, ej] at this
        exact this key
      · subst heq
        exact hut (ei.symm.trans ej)
      · have := P j i hj hi hgt
        rw [ei, ej] at this
        exact this key'
theorem doS_own (G : GoodA A) {t : TapD} (h : t ∈ tapsIn A s) : doS A s t.n = some (Pv.behind s t) := by
  unfold doS
  rw [tapS_own G h]
  rfl
def held (s : StD) (t : TapD) : Bool := match t.a with
  | [h, y] => !decide (h = "to") || decide (y ∈ s.k.dropLast)
  | _ => decide (1 < s.k.length)
theorem dnS_app {b l : List Str} {x : Str} : ∀ n, (∃ i, i < n ∧ l[i]? = some x) → dnS (b ++ l) x (b.length + n) = b ++ dnS l x n
  | 0, h => by obtain ⟨i, hi, _⟩ := h; omega
  | n + 1, h => by
    rw [show b.length + (n + 1) = (b.length + n) + 1 by omega]
    have e : (b ++ l)[b.length + n]? = l[n]? := by rw [List.getElem?_append_right (by omega)]; congr 1; omega
    unfold dnS
    rw [e]
    by_cases hx : l[n]? = some x
    · rw [if_pos hx, if_pos hx, show b.length + n + 1 = b.length + (n + 1) by omega, List.take_length_add_append]
    · rw [if_neg hx, if_neg hx]
      refine dnS_app n ?_
      obtain ⟨i, hi, e1⟩ := h
      refine ⟨i, ?_, e1⟩
      rcases Nat.lt_or_ge i n with h | h
      · exact h
      · have : i = n := by omega
        subst this
        exact absurd e1 hx
theorem downTo_app {b l : List Str} {x : Str} (h : x ∈ l) : downTo (b ++ l) x = b ++ downTo l x := by
  unfold downTo
  rw [List.length_append]
  refine dnS_app _ ?_
  obtain ⟨i, hi, e⟩ := List.mem_iff_getElem.mp h
  exact ⟨i, hi, by rw [List.getElem?_eq_getElem hi, e]⟩
theorem dnS_last {l : List Str} {x : Str} : ∀ n, ∃ l', dnS l x n = l' ++ [x]
  | 0 => ⟨[], rfl⟩
  | n + 1 => by
    unfold dnS
    split
    · rename_i h
      exact ⟨l.take n, by rw [List.take_succ, h]; rfl⟩
    · exact dnS_last n
theorem dnS_pre {l : List Str} {x : Str} : ∀ n, (dnS l x n).length ≤ 1 ∨ dnS l x n = l.take (dnS l x n).length
  | 0 => .inl (Nat.le_refl _)
  | n + 1 => by
    unfold dnS
    split
    · refine .inr ?_
      rw [List.length_take]
      rcases Nat.le_total (n + 1) l.length with h | h
      · rw [Nat.min_eq_left h]
      · rw [Nat.min_eq_right h, List.take_of_length_le h, List.take_of_length_le (Nat.le_refl _)]
    · exact dnS_pre n
theorem behindK_cases (G : GoodA A) {t : TapD} (ht : t ∈ A.ts) (k : List Str) : (∃ y : Str, y ∈ A.ss ∧ ((t.a = [("open" : Str), y] ∧ behindK k t.a = k ++ [y]) ∨ (t.a = [("put" : Str), y] ∧ behindK k t.a = k.dropLast ++ [y]) ∨ (t.a = [("to" : Str), y] ∧ behindK k t.a = downTo k.dropLast y))) ∨ (t.a = [("back" : Str)] ∧ behindK k t.a = k.dropLast) := by
  obtain ⟨n1, n2, n3, n4, n5, n6⟩ := neLits
  rcases act_cases G ht with ⟨y, hy, e | e | e⟩ | e
  · exact .inl ⟨y, hy, .inl ⟨e, by unfold behindK; rw [e]; simp⟩⟩
  · exact .inl ⟨y, hy, .inr (.inl ⟨e, by unfold behindK; rw [e]; simp [n1]⟩)⟩
  · exact .inl ⟨y, hy, .inr (.inr ⟨e, by unfold behindK; rw [e]; simp [n2, n3]⟩)⟩
  · exact .inr ⟨e, by unfold behindK; rw [e]⟩
theorem held_app (G : GoodA A) {t : TapD} (ht : t ∈ A.ts) (h : held s t = true) (h0 : s.k ≠ []) (b : List Str) : behindK (b ++ s.k) t.a = b ++ behindK s.k t.a ∧ behindK s.k t.a ≠ [] := by
  have hd : (b ++ s.k).dropLast = b ++ s.k.dropLast := List.dropLast_append_of_ne_nil h0
  obtain ⟨n1, n2, n3, n4, n5, n6⟩ := neLits
  rcases behindK_cases G ht s.k with ⟨y, hy, ⟨e, e1⟩ | ⟨e, e1⟩ | ⟨e, e1⟩⟩ | ⟨e, e1⟩
  · rw [e1]
    refine ⟨?_, by simp⟩
    rw [e]; unfold behindK; simp
  · rw [e1]
    refine ⟨?_, by simp⟩
    rw [e]; unfold behindK; simp [n1, hd]
  · rw [e1]
    unfold held at h
    rw [e] at h
    simp only [decide_true, Bool.not_true, Bool.false_or, decide_eq_true_eq] at h
    refine ⟨?_, ?_⟩
    · rw [← downTo_app h, ← hd]
      rw [e]; unfold behindK; simp [n2, n3]
    · obtain ⟨l', e2⟩ := dnS_last (l := s.k.dropLast) (x := y) s.k.dropLast.length
      unfold downTo
      rw [e2]
      simp
  · rw [e1]
    unfold held at h
    rw [e] at h
    simp only [decide_eq_true_eq] at h
    refine ⟨?_, ?_⟩
    · rw [e]; unfold behindK; exact hd
    · intro hn
      have := congrArg List.length hn
      rw [List.length_dropLast] at this
      simp at this
      omega
/-- what a held row does -/
structure HR (A : AppD) (s : StD) (ns : List Str) (u : StD) : Prop where
  ok : OkSt A u
  len : u.k.length ≤ s.k.length + ns.length
  so : ∀ n ∈ ns, PyData.strOk n = true
  row : rowS A s ns = some u
  ne : s.k ≠ [] → u.k ≠ []
  low : ∀ b, s.k ≠ [] → rowS A ⟨s.m, b ++ s.k⟩ ns = some ⟨u.m, b ++ u.k⟩
theorem row_ok (G : GoodA A) : ∀ {ns : List Str} {s u : StD}, OkSt A s → s.k.length + ns.length ≤ 99999 → rowS A s ns = some u → OkSt A u ∧ u.k.length ≤ s.k.length + ns.length
  | [], s, u, hs, _, h => by cases h; exact ⟨hs, by simp⟩
  | n :: r, s, u, hs, hl, h => by
    simp only [rowS] at h
    split at h
    · rename_i s' e
      rw [List.length_cons] at hl
      obtain ⟨g1, g2⟩ := hs.doS G e (by omega)
      obtain ⟨g3, g4⟩ := row_ok G g1 (by omega) h
      exact ⟨g3, by rw [List.length_cons]; omega⟩
    · cases h
theorem shT (G : GoodA A) {t : TapD} (h : t ∈ A.ts) : shapedB (encT t) = true := by
  obtain ⟨b1, b2, b3, b4⟩ := G.tB h
  have ha := (G.aB h).1
  refine sh_tuple fun d hd => ?_
  simp only [List.mem_cons, List.not_mem_nil, or_false] at hd
  rcases hd with rfl | rfl | rfl | rfl | rfl
  · exact ⟨sh_str (strB_ok b1), Nat.zero_le _⟩
  · exact ⟨sh_str (strB_ok b2), Nat.zero_le _⟩
  · exact ⟨sh_str (strB_ok b3), Nat.zero_le _⟩
  · refine ⟨sh_encS fun x hx => strB_ok (List.all_eq_true.mp ha x hx), ?_⟩
    unfold encS
    rw [PyData.depth, depth_strs]
    decide
  · exact ⟨sh_str (strB_ok b4), Nat.zero_le _⟩
theorem tapsIn_low (b : List Str) (h : s.k ≠ []) : tapsIn A ⟨s.m, b ++ s.k⟩ = tapsIn A s := by
  unfold tapsIn
  dsimp only
  rw [List.getLast?_append]
  cases e : s.k.getLast? with
  | none => exact absurd (List.getLast?_eq_none_iff.mp e) h
  | some x => rfl
theorem tapsIn_ne {t : TapD} (h : t ∈ tapsIn A s) : s.k ≠ [] := by
  intro e
  have := (tapsIn_sub h).2.2
  rw [e] at this
  cases this
theorem HR.step (G : GoodA A) {ns : List Str} {u : StD} (H : HR A s ns u) {t : TapD} (ht : t ∈ tapsIn A u) (hh : held u t = true) (hl : s.k.length + ns.length + 1 ≤ 100000) : HR A s (ns ++ [t.n]) (Pv.behind u t) := by
  have hA := (tapsIn_sub ht).1
  have hu := tapsIn_ne ht
  have hlen := H.len
  obtain ⟨o1, o2⟩ := H.ok.behind G hA (by omega)
  have one : ∀ v w, doS A v t.n = some w → rowS A v [t.n] = some w := fun v w e => by simp only [rowS, e]
  refine ⟨o1, by rw [List.length_append]; show _ ≤ _ + (ns.length + 1); omega, ?_, ?_, fun h => (held_app G hA hh hu []).2, fun b h => ?_⟩
  · intro n hn
    rcases List.mem_append.mp hn with hn | hn
    · exact H.so n hn
    · rw [List.mem_singleton] at hn
      rw [hn]
      exact strB_ok (G.tB hA).1
  · rw [rowS_app, H.row]
    exact one _ _ (doS_own G ht)
  · rw [rowS_app, H.low b h]
    refine one _ _ ?_
    have ht' : t ∈ tapsIn A ⟨u.m, b ++ u.k⟩ := by rw [tapsIn_low b hu]; exact ht
    rw [doS_own G ht']
    unfold Pv.behind
    dsimp only
    rw [(held_app G hA hh hu b).1]
end
section
variable {T : List Fd} {k i : Nat} {A : AppD} {s : Spg} {R : Sto} {Q : W → Sto → Prop} {E : Xc → Sto → Prop}
theorem deep_ok {iD iP : Nat} (hD : T[iD]? = some fx_law_drop) (hP : T[iP]? = some (fx_law_pick iD)) (h : T[i]? = some (fx_law_deep_state iD iP)) (G : GoodA A) {most : Nat} (hm : 0 < most) (hm2 : most ≤ 1000) (hc : CloR R) (q : ∀ u s', OkSt A u → u.k.length < most → Q (.p (encSt u)) (Spr s' R)) :
    Ok (callN T (k + 3) i [.r 1, .p (encA A), .p (.int most)] (Spr s R)) Q E := by
  refine Ok_call h rfl ?_
  obtain ⟨ss0, ss4, ssn⟩ := G.ss4
  obtain ⟨ms0, ms3, msn⟩ := G.ms3
  have a0 : A.ss.map PyData.str ≠ [] := by simpa using ss0
  have a1 : (A.ss.map PyData.str).length ≤ 1000 := by rw [List.length_map]; omega
  have b0 : A.ms.map PyData.str ≠ [] := by simpa using ms0
  have b1 : (A.ms.map PyData.str).length ≤ 1000 := by rw [List.length_map]; omega
  simp only [fx_law_deep_state, bx_law_deep_state, So_cs, So_nl, So_then, So_ite, So_nx, So_ret, So_bk, So_ct, evS, evE, evEs, evT, evTa, evTo, evAn, evOr, evAs, evP, evI, Ok_bind, Ok_ok, Ok_bad, Ok_some, Ok_bs, Ok_ite, asgT, asgR, asgT.asgTs, setAll, wipeT, biF, meF, binF, cmpF, bl?, List.getElem?_cons_zero, List.getElem?_cons_succ, List.set_cons_zero, List.set_cons_succ, List.map_cons, List.map_nil, List.replicate_succ, List.replicate_zero, List.cons_append, List.nil_append, Nat.sub_self, Nat.reduceSub, Nat.reduceAdd, ixA2]
  refine pick_ok hD hP (.inr rfl) a0 a1 hc fun d s1 hd => ?_
  obtain ⟨x1, hx1, rfl⟩ := List.mem_map.mp hd
  refine pick_ok hD hP (.inr rfl) a0 a1 hc fun d s2 hd => ?_
  obtain ⟨x2, hx2, rfl⟩ := List.mem_map.mp hd
  simp only [mkL2, So_cs, So_nl, So_then, So_ite, So_nx, So_ret, So_bk, So_ct, evS, evE, evEs, evT, evTa, evTo, evAn, evOr, evAs, evP, evI, Ok_bind, Ok_ok, Ok_bad, Ok_some, Ok_bs, Ok_ite, asgT, asgR, asgT.asgTs, setAll, wipeT, biF, meF, binF, cmpF, bl?, List.getElem?_cons_zero, List.getElem?_cons_succ, List.set_cons_zero, List.set_cons_succ, List.map_cons, List.map_nil, List.replicate_succ, List.replicate_zero, List.cons_append, List.nil_append, Nat.sub_self, Nat.reduceSub, Nat.reduceAdd]
  refine drop_ok hD (by omega) (by omega) hc fun z s3 hz => ?_
  simp only [So_cs, So_nl, So_then, So_ite, So_nx, So_ret, So_bk, So_ct, evS, evE, evEs, evT, evTa, evTo, evAn, evOr, evAs, evP, evI, Ok_bind, Ok_ok, Ok_bad, Ok_some, Ok_bs, Ok_ite, asgT, asgR, asgT.asgTs, setAll, wipeT, biF, meF, binF, cmpF, bl?, List.getElem?_cons_zero, List.getElem?_cons_succ, List.set_cons_zero, List.set_cons_succ, List.map_cons, List.map_nil, List.replicate_succ, List.replicate_zero, List.cons_append, List.nil_append, Nat.sub_self, Nat.reduceSub, Nat.reduceAdd]
  rw [if_pos (rngB (by omega))]
  simp only [So_cs, So_nl, So_then, So_ite, So_nx, So_ret, So_bk, So_ct, evS, evE, evEs, evT, evTa, evTo, evAn, evOr, evAs, evP, evI, Ok_bind, Ok_ok, Ok_bad, Ok_some, Ok_bs, Ok_ite, asgT, asgR, asgT.asgTs, setAll, wipeT, biF, meF, binF, cmpF, bl?, List.getElem?_cons_zero, List.getElem?_cons_succ, List.set_cons_zero, List.set_cons_succ, List.map_cons, List.map_nil, List.replicate_succ, List.replicate_zero, List.cons_append, List.nil_append, Nat.sub_self, Nat.reduceSub, Nat.reduceAdd, Int.toNat_natCast]
  refine Ok_lc (I := fun pre acc S => ∃ s4 l, acc = (l.map PyData.str).map W.p ∧ S = Spr s4 R ∧ (∀ x ∈ l, x ∈ A.ss) ∧ l.length = pre.length) ⟨s3, [], rfl, rfl, (fun x hx => nomatch hx), rfl⟩ ?_ ?_
  · rintro pre r post acc S e ⟨s4, l, rfl, rfl, hl, hll⟩
    obtain ⟨_, rfl⟩ := rng_at e
    simp only [So_cs, So_nl, So_then, So_ite, So_nx, So_ret, So_bk, So_ct, evS, evE, evEs, evT, evTa, evTo, evAn, evOr, evAs, evP, evI, Ok_bind, Ok_ok, Ok_bad, Ok_some, Ok_bs, Ok_ite, asgT, asgR, asgT.asgTs, setAll, wipeT, biF, meF, binF, cmpF, bl?, List.getElem?_cons_zero, List.getElem?_cons_succ, List.set_cons_zero, List.set_cons_succ, List.map_cons, List.map_nil, List.replicate_succ, List.replicate_zero, List.cons_append, List.nil_append, Nat.sub_self, Nat.reduceSub, Nat.reduceAdd, ixA2]
    refine pick_ok hD hP (.inr rfl) a0 a1 hc fun d s5 hd => ?_
    obtain ⟨x3, hx3, rfl⟩ := List.mem_map.mp hd
    simp only [mkL1, So_cs, So_nl, So_then, So_ite, So_nx, So_ret, So_bk, So_ct, evS, evE, evEs, evT, evTa, evTo, evAn, evOr, evAs, evP, evI, Ok_bind, Ok_ok, Ok_bad, Ok_some, Ok_bs, Ok_ite, asgT, asgR, asgT.asgTs, setAll, wipeT, biF, meF, binF, cmpF, bl?, List.getElem?_cons_zero, List.getElem?_cons_succ, List.set_cons_zero, List.set_cons_succ, List.map_cons, List.map_nil, List.replicate_succ, List.replicate_zero, List.cons_append, List.nil_append, Nat.sub_self, Nat.reduceSub, Nat.reduceAdd]
    rw [e_addL [.str x1, .str x2] [.str x3] (by show 3 ≤ lim; decide), Ok_some]
    simp only [So_cs, So_nl, So_then, So_ite, So_nx, So_ret, So_bk, So_ct, evS, evE, evEs, evT, evTa, evTo, evAn, evOr, evAs, evP, evI, Ok_bind, Ok_ok, Ok_bad, Ok_some, Ok_bs, Ok_ite, asgT, asgR, asgT.asgTs, setAll, wipeT, biF, meF, binF, cmpF, bl?, List.getElem?_cons_zero, List.getElem?_cons_succ, List.set_cons_zero, List.set_cons_succ, List.map_cons, List.map_nil, List.replicate_succ, List.replicate_zero, List.cons_append, List.nil_append, Nat.sub_self, Nat.reduceSub, Nat.reduceAdd]
    refine pick_ok hD hP (ds := [.str x1, .str x2, .str x3]) (.inl rfl) (by simp) (by show 3 ≤ 1000; decide) hc fun d s6 hd => ?_
    have hd' : ∃ x ∈ A.ss, d = .str x := by
      simp only [List.mem_cons, List.not_mem_nil, or_false] at hd
      rcases hd with rfl | rfl | rfl
      · exact ⟨x1, hx1, rfl⟩
      · exact ⟨x2, hx2, rfl⟩
      · exact ⟨x3, hx3, rfl⟩
    obtain ⟨x, hx, rfl⟩ := hd'
    refine ⟨s6, l ++ [x], by simp, rfl, fun y hy => ?_, by simp [hll]⟩
    rcases List.mem_append.mp hy with hy | hy
    · exact hl y hy
    · rw [List.mem_singleton] at hy
      rw [hy]; exact hx
  · rintro acc S ⟨s4, l, rfl, rfl, hl, hll⟩
    have hlz : l.length = z := by rw [hll]; simp [rng]
    rw [mkL _ (by rw [List.length_map]; unfold lim; omega)]
    simp only [So_cs, So_nl, So_then, So_ite, So_nx, So_ret, So_bk, So_ct, evS, evE, evEs, evT, evTa, evTo, evAn, evOr, evAs, evP, evI, Ok_bind, Ok_ok, Ok_bad, Ok_some, Ok_bs, Ok_ite, asgT, asgR, asgT.asgTs, setAll, wipeT, biF, meF, binF, cmpF, bl?, List.getElem?_cons_zero, List.getElem?_cons_succ, List.set_cons_zero, List.set_cons_succ, List.map_cons, List.map_nil, List.replicate_succ, List.replicate_zero, List.cons_append, List.nil_append, Nat.sub_self, Nat.reduceSub, Nat.reduceAdd, ixA1]
    refine pick_ok hD hP (.inr rfl) b0 b1 hc fun d s5 hd => ?_
    obtain ⟨m, hm, rfl⟩ := List.mem_map.mp hd
    simp only [e_tupL, mkT2, So_cs, So_nl, So_then, So_ite, So_nx, So_ret, So_bk, So_ct, evS, evE, evEs, evT, evTa, evTo, evAn, evOr, evAs, evP, evI, Ok_bind, Ok_ok, Ok_bad, Ok_some, Ok_bs, Ok_ite, asgT, asgR, asgT.asgTs, setAll, wipeT, biF, meF, binF, cmpF, bl?, List.getElem?_cons_zero, List.getElem?_cons_succ, List.set_cons_zero, List.set_cons_succ, List.map_cons, List.map_nil, List.replicate_succ, List.replicate_zero, List.cons_append, List.nil_append, Nat.sub_self, Nat.reduceSub, Nat.reduceAdd]
    exact Ok_endS0 hc (q ⟨m, l⟩ _ ⟨hm, hl, by show l.length ≤ _; omega⟩ (by show l.length < _; omega))
end
end Pv
end

section
set_option maxRecDepth 100000
set_option maxHeartbeats 4000000
namespace Lk07
open PySem PySem.Spec L2 Pv
open PyProof.Rows hiding St

def topS (i : Nat) : Stmt := PySem.Challenge.pw_backstacks_k07_whole_rows_of_taps.main.body.getD i (.Pass ⟨0, 0, 0, 0⟩)
abbrev n0 : List Str := nxis_one
/-- is_one -/
abbrev f0 : Fd := fxis_one
abbrev s0 : Stmt := topS 1
def d0 : Df := ⟨"is_one", s0, ["value", "names"], n0, f0⟩
abbrev n1 : List Str := nxtaps_on
/-- taps_on -/
abbrev f1 : Fd := fxtaps_on
abbrev s1 : Stmt := topS 7
def d1 : Df := ⟨"taps_on", s1, ["app", "mode", "screen"], n1, f1⟩
abbrev n2 : List Str := nxstate_error
/-- state_error -/
abbrev f2 : Fd := fxstate_error 0
abbrev s2 : Stmt := topS 9
def d2 : Df := ⟨"state_error", s2, ["app", "value"], n2, f2⟩
abbrev n3 : List Str := nxrequire_state
/-- require_state -/
abbrev f3 : Fd := fxrequire_state 2
abbrev s3 : Stmt := topS 10
def d3 : Df := ⟨"require_state", s3, ["app", "state"], n3, f3⟩
abbrev n4 : List Str := nxtaps_in
/-- taps_in -/
abbrev f4 : Fd := fxtaps_in 1
abbrev s4 : Stmt := topS 11
def d4 : Df := ⟨"taps_in", s4, ["app", "state"], n4, f4⟩
abbrev n5 : List Str := nxdown_to
/-- down_to -/
abbrev f5 : Fd := fxdown_to
abbrev s5 : Stmt := topS 12
def d5 : Df := ⟨"down_to", s5, ["stack", "screen"], n5, f5⟩
abbrev n6 : List Str := nxbehind_tap
/-- behind_tap -/
abbrev f6 : Fd := fxbehind_tap 5
abbrev s6 : Stmt := topS 13
def d6 : Df := ⟨"behind_tap", s6, ["state", "tap"], n6, f6⟩
abbrev n7 : List Str := nxtap_names
/-- tap_names -/
abbrev f7 : Fd := fxtap_names 3 4
abbrev s7 : Stmt := topS 14
def d7 : Df := ⟨"tap_names", s7, ["app", "state"], n7, f7⟩
abbrev n8 : List Str := nxtapped
/-- tapped -/
abbrev f8 : Fd := fxtapped 6 4
abbrev s8 : Stmt := topS 15
def d8 : Df := ⟨"tapped", s8, ["app", "state", "name"], n8, f8⟩
abbrev n9 : List Str := nxdo_tap
/-- do_tap -/
abbrev f9 : Fd := fxdo_tap 3 8
abbrev s9 : Stmt := topS 16
def d9 : Df := ⟨"do_tap", s9, ["app", "state", "name"], n9, f9⟩
abbrev n10 : List Str := nxdo_row
/-- do_row -/
abbrev f10 : Fd := fxdo_row 3 8
abbrev s10 : Stmt := topS 17
def d10 : Df := ⟨"do_row", s10, ["app", "state", "names"], n10, f10⟩
abbrev n11 : List Str := nx_law_spring
/-- _law_spring -/
abbrev f11 : Fd := fx_law_spring
abbrev s11 : Stmt := topS 19
def d11 : Df := ⟨"_law_spring", s11, ["_law_script"], n11, f11⟩
abbrev n12 : List Str := nx_law_drop
/-- _law_drop -/
abbrev f12 : Fd := fx_law_drop
abbrev s12 : Stmt := topS 20
def d12 : Df := ⟨"_law_drop", s12, ["_law_spring_here", "_law_many"], n12, f12⟩
abbrev n13 : List Str := nx_law_pick
/-- _law_pick -/
abbrev f13 : Fd := fx_law_pick 12
abbrev s13 : Stmt := topS 21
def d13 : Df := ⟨"_law_pick", s13, ["_law_spring_here", "_law_items"], n13, f13⟩
abbrev n14 : List Str := nx_law_act
/-- _law_act -/
abbrev f14 : Fd := fx_law_act 12 13
abbrev s14 : Stmt := topS 22
def d14 : Df := ⟨"_law_act", s14, ["_law_spring_here", "_law_screens", "_law_aims"], n14, f14⟩
abbrev n15 : List Str := nx_law_app
/-- _law_app -/
abbrev f15 : Fd := fx_law_app 14 12 13
abbrev s15 : Stmt := topS 23
def d15 : Df := ⟨"_law_app", s15, ["_law_spring_here", "_law_most"], n15, f15⟩
abbrev n16 : List Str := nx_law_deep_state
/-- _law_deep_state -/
abbrev f16 : Fd := fx_law_deep_state 12 13
abbrev s16 : Stmt := topS 24
def d16 : Df := ⟨"_law_deep_state", s16, ["_law_spring_here", "_law_app_here", "_law_most"], n16, f16⟩
def n17 : List Str := ["_law_app_here", "_law_state"]
def b17 : Sx := (.cs (.ret (.ife (.tt (.cmp .Eq (.ix (.v 1) (.k (.int 1))) (.tup .nl))) (.lst false .nl) (.bi .list (.cs (.call 1 (.cs (.v 0) (.cs (.ix (.v 1) (.k (.int 0))) (.cs (.ix (.ix (.v 1) (.k (.int 1))) (.neg (.k (.int 1)))) .nl)))) .nl)))) .nl)
/-- _law_acts(_law_app_here, _law_state) -/
def f17 : Fd := ⟨2, 2, true, b17⟩
abbrev s17 : Stmt := topS 25
def d17 : Df := ⟨"_law_acts", s17, ["_law_app_here", "_law_state"], n17, f17⟩
def n18 : List Str := ["_law_state", "_law_tap"]
def b18_1 : Sx := (.cs (.ret (.orr (.cs (.cmp .NotEq (.ix (.ix (.v 1) (.k (.int 3))) (.k (.int 0))) (.k (.str "to"))) (.cs (.cmp .In (.ix (.ix (.v 1) (.k (.int 3))) (.k (.int 1))) (.sl (.ix (.v 0) (.k (.int 1))) .nl (.cs (.neg (.k (.int 1))) .nl))) .nl)))) .nl)
def b18 : Sx := (.cs (.iff (.tt (.cmp .Eq (.ix (.ix (.v 1) (.k (.int 3))) (.k (.int 0))) (.k (.str "back")))) (.cs (.ret (.cmp .Gt (.bi .len (.cs (.ix (.v 0) (.k (.int 1))) .nl)) (.k (.int 1)))) .nl) .nl) (b18_1))
/-- _law_is_held(_law_state, _law_tap) -/
def f18 : Fd := ⟨2, 2, true, b18⟩
abbrev s18 : Stmt := topS 26
def d18 : Df := ⟨"_law_is_held", s18, ["_law_state", "_law_tap"], n18, f18⟩
def n19 : List Str := ["_law_spring_here", "_law_app_here", "_law_state", "_law_many", "_law_names", "_law_k", "_law_some", "_law_tap"]
def b19_1 : Sx := (.cs (.ret (.tup (.cs (.bi .tuple (.cs (.v 4) .nl)) (.cs (.v 2) .nl)))) .nl)
def b19_2 : Sx := (.cs (.asg (.n 6) (.lc false [7] (.n 7) (.iSeq (.call 17 (.cs (.v 1) (.cs (.v 2) .nl)))) (.cs (.tt (.call 18 (.cs (.v 2) (.cs (.v 7) .nl)))) .nl) (.v 7))) (.cs (.iff (.tt (.cmp .NotEq (.v 6) (.lst false .nl))) (.cs (.asg (.n 7) (.call 13 (.cs (.v 0) (.cs (.v 6) .nl)))) (.cs (.expr (.me .append (.v 4) (.cs (.ix (.v 7) (.k (.int 0))) .nl))) (.cs (.asg (.n 2) (.call 9 (.cs (.v 1) (.cs (.v 2) (.cs (.ix (.v 7) (.k (.int 0))) .nl))))) .nl))) .nl) .nl))
def b19 : Sx := (.cs (.asg (.n 4) (.lst true .nl)) (.cs (.for_ (.n 5) (.iRng (.v 3)) (b19_2)) (b19_1)))
/-- _law_held_row(_law_spring_here, _law_app_here, _law_state, _law_many) -/
def f19 : Fd := ⟨4, 8, true, b19⟩
abbrev s19 : Stmt := topS 27
def d19 : Df := ⟨"_law_held_row", s19, ["_law_spring_here", "_law_app_here", "_law_state", "_law_many"], n19, f19⟩
def n20 : List Str := ["_law_app_here", "_law_state", "_law_tap", "_law_mode", "_law_stack"]
def b20_1 : Sx := (.cs (.ret (.k (.bool true))) .nl)
def b20_2 : Sx := (.cs (.iff (.an (.cs (.tt (.cmp .Eq (.ix (.ix (.v 2) (.k (.int 3))) (.k (.int 0))) (.k (.str "to")))) (.cs (.tt (.cmp .NotEq (.v 4) (.sl (.ix (.v 1) (.k (.int 1))) .nl (.cs (.bi .len (.cs (.v 4) .nl)) .nl)))) (.cs (.tt (.cmp .Gt (.bi .len (.cs (.v 4) .nl)) (.k (.int 1)))) .nl)))) (.cs (.ret (.k (.bool false))) .nl) .nl) .nl)
def b20_3 : Sx := (.cs (.iff (.an (.cs (.tt (.cmp .Eq (.ix (.ix (.v 2) (.k (.int 3))) (.k (.int 0))) (.k (.str "put")))) (.cs (.tt (.cmp .NotEq (.sl (.v 4) .nl (.cs (.neg (.k (.int 1))) .nl)) (.sl (.ix (.v 1) (.k (.int 1))) .nl (.cs (.neg (.k (.int 1))) .nl)))) .nl))) (.cs (.ret (.k (.bool false))) .nl) .nl) (b20_2))
def b20_4 : Sx := (.cs (.iff (.an (.cs (.tt (.cmp .Eq (.ix (.ix (.v 2) (.k (.int 3))) (.k (.int 0))) (.k (.str "open")))) (.cs (.tt (.cmp .NotEq (.sl (.v 4) .nl (.cs (.neg (.k (.int 1))) .nl)) (.ix (.v 1) (.k (.int 1))))) .nl))) (.cs (.ret (.k (.bool false))) .nl) .nl) (b20_3))
def b20_5 : Sx := (.cs (.iff (.an (.cs (.tt (.cmp .NotEq (.ix (.v 2) (.k (.int 3))) (.tup (.cs (.k (.str "back")) .nl)))) (.cs (.tt (.cmp .NotEq (.ix (.v 4) (.neg (.k (.int 1)))) (.ix (.ix (.v 2) (.k (.int 3))) (.k (.int 1))))) .nl))) (.cs (.ret (.k (.bool false))) .nl) .nl) (b20_4))
def b20_6 : Sx := (.cs (.iff (.an (.cs (.tt (.cmp .Eq (.ix (.v 2) (.k (.int 3))) (.tup (.cs (.k (.str "back")) .nl)))) (.cs (.tt (.cmp .NotEq (.v 4) (.sl (.ix (.v 1) (.k (.int 1))) .nl (.cs (.neg (.k (.int 1))) .nl)))) .nl))) (.cs (.ret (.k (.bool false))) .nl) .nl) (b20_5))
def b20_7 : Sx := (.cs (.asg (.cs (.n 3) (.cs (.n 4) .nl)) (.call 9 (.cs (.v 0) (.cs (.v 1) (.cs (.ix (.v 2) (.k (.int 0))) .nl))))) (.cs (.iff (.orr (.cs (.tt (.cmp .NotEq (.v 3) (.ix (.v 2) (.k (.int 4))))) (.cs (.tt (.cmp .IsNot (.call 2 (.cs (.v 0) (.cs (.tup (.cs (.v 3) (.cs (.v 4) .nl))) .nl))) (.k .none))) .nl))) (.cs (.ret (.k (.bool false))) .nl) .nl) (b20_6)))
def b20_8 : Sx := (.cs (.for_ (.n 2) (.iSeq (.call 17 (.cs (.v 0) (.cs (.v 1) .nl)))) (b20_7)) (b20_1))
def b20 : Sx := (.cs (.iff (.tt (.cmp .NotEq (.call 7 (.cs (.v 0) (.cs (.v 1) .nl))) (.bi .tuple (.cs (.lc false [2] (.n 2) (.iSeq (.call 17 (.cs (.v 0) (.cs (.v 1) .nl)))) .nl (.ix (.v 2) (.k (.int 0)))) .nl)))) (.cs (.ret (.k (.bool false))) .nl) .nl) (b20_8))
/-- _law_tops_right(_law_app_here, _law_state) -/
def f20 : Fd := ⟨2, 5, true, b20⟩
abbrev s20 : Stmt := topS 28
def d20 : Df := ⟨"_law_tops_right", s20, ["_law_app_here", "_law_state"], n20, f20⟩
def n21 : List Str := ["_law_script", "_law_spring_here", "_law_turn", "_law_app_here", "_law_most", "_law_state", "_law_below", "_law_names", "_law_behind", "_law_cut", "_law_parted", "_law_deep"]
def b21_1 : Sx := (.cs (.ret (.k (.bool true))) .nl)
def b21_2 : Sx := (.cs (.iff (.no (.tt (.call 20 (.cs (.v 3) (.cs (.v 8) .nl))))) (.cs (.ret (.k (.bool false))) .nl) .nl) .nl)
def b21_3 : Sx := (.cs (.asg (.n 11) (.ife (.tt (.cmp .NotEq (.ix (.v 5) (.k (.int 1))) (.tup .nl))) (.call 10 (.cs (.v 3) (.cs (.tup (.cs (.ix (.v 5) (.k (.int 0))) (.cs (.op .Add (.v 6) (.ix (.v 5) (.k (.int 1)))) .nl))) (.cs (.v 7) .nl)))) (.k .none))) (.cs (.iff (.an (.cs (.tt (.cmp .IsNot (.v 11) (.k .none))) (.cs (.tt (.cmp .NotEq (.v 11) (.tup (.cs (.ix (.v 8) (.k (.int 0))) (.cs (.op .Add (.v 6) (.ix (.v 8) (.k (.int 1)))) .nl))))) .nl))) (.cs (.ret (.k (.bool false))) .nl) .nl) (b21_2)))
def b21_4 : Sx := (.cs (.asg (.cs (.n 7) (.cs (.n 8) .nl)) (.call 19 (.cs (.v 1) (.cs (.v 3) (.cs (.v 5) (.cs (.call 12 (.cs (.v 1) (.cs (.k (.int 30)) .nl))) .nl)))))) (.cs (.asg (.n 9) (.call 12 (.cs (.v 1) (.cs (.op .Add (.bi .len (.cs (.v 7) .nl)) (.k (.int 1))) .nl)))) (.cs (.asg (.n 10) (.call 10 (.cs (.v 3) (.cs (.call 10 (.cs (.v 3) (.cs (.v 5) (.cs (.sl (.v 7) .nl (.cs (.v 9) .nl)) .nl)))) (.cs (.sl (.v 7) (.cs (.v 9) .nl) .nl) .nl))))) (.cs (.iff (.orr (.cs (.tt (.cmp .NotEq (.call 10 (.cs (.v 3) (.cs (.v 5) (.cs (.v 7) .nl)))) (.v 8))) (.cs (.tt (.cmp .NotEq (.v 10) (.v 8))) .nl))) (.cs (.ret (.k (.bool false))) .nl) .nl) (b21_3)))))
def b21_5 : Sx := (.cs (.par [5, 6] (.cs (.call 16 (.cs (.v 1) (.cs (.v 3) (.cs (.v 4) .nl)))) (.cs (.ix (.call 16 (.cs (.v 1) (.cs (.v 3) (.cs (.k (.int 20)) .nl)))) (.k (.int 1))) .nl))) (.cs (.iff (.no (.tt (.call 20 (.cs (.v 3) (.cs (.v 5) .nl))))) (.cs (.ret (.k (.bool false))) .nl) .nl) (b21_4)))
def b21_6 : Sx := (.cs (.asg (.n 3) (.call 15 (.cs (.v 1) (.cs (.ix (.lst false (.cs (.k (.int 3)) (.cs (.k (.int 5)) (.cs (.k (.int 6)) .nl)))) (.op .Mod (.bi .int (.cs (.v 2) .nl)) (.k (.int 3)))) .nl)))) (.cs (.for_ (.n 4) (.iSeq (.lst false (.cs (.k (.int 2)) (.cs (.k (.int 3)) (.cs (.k (.int 6)) (.cs (.k (.int 30)) .nl)))))) (b21_5)) .nl))
def b21 : Sx := (.cs (.asg (.n 1) (.call 11 (.cs (.v 0) .nl))) (.cs (.for_ (.n 2) (.iRng (.k (.int 10))) (b21_6)) (b21_1)))
/-- law(_law_script) -/
def f21 : Fd := ⟨1, 12, true, b21⟩
abbrev s21 : Stmt := topS 29
def d21 : Df := ⟨"law", s21, ["_law_script"], n21, f21⟩
def gs : List (Str × PyData) := []
def T : List Df := [d0, d1, d2, d3, d4, d5, d6, d7, d8, d9, d10, d11, d12, d13, d14, d15, d16, d17, d18, d19, d20, d21]
def fds : List Fd := fdsOf T
set_option maxRecDepth 100000 in
theorem hT : T.all (dfB gs T) = true := by decide +kernel
theorem st0 {K : PySem.W.Frag} {h : Heap} {mg : Str → Option Value} {f : Addr} {od an : Option Addr} {sl : Array (Option Value)} {oc kV dc pm cd ct : Value} (X : K.In h) (G : h.Ns mainGlobals mg)
    (a : PySem.W.nsIn K mainGlobals "is_one" = some (some (.ref f))) (l : K.lookup f = some ⟨oc, od, .func (PySem.W.fnOf "is_one" "is_one" (defArgs s0) (defBody s0) (defScope s0) .none kV dc pm an cd ct), sl⟩) (c : PySem.W.codeIn K cd "is_one" = true) (k : PySem.W.keepIn K (.ref f) = true) :
    Stands K mg d0 f (PySem.W.fnOf "is_one" "is_one" (defArgs s0) (defBody s0) (defScope s0) .none kV dc pm an cd ct) :=
  have F := fun_mk (st := s0) l c k
  ⟨F, PySem.W.mg_of X G a, F.binds (ps := ["value", "names"]) fun _ _ _ _ _ _ us hl => match us, hl with | [_, _], _ => rfl⟩
theorem st1 {K : PySem.W.Frag} {h : Heap} {mg : Str → Option Value} {f : Addr} {od an : Option Addr} {sl : Array (Option Value)} {oc kV dc pm cd ct : Value} (X : K.In h) (G : h.Ns mainGlobals mg)
    (a : PySem.W.nsIn K mainGlobals "taps_on" = some (some (.ref f))) (l : K.lookup f = some ⟨oc, od, .func (PySem.W.fnOf "taps_on" "taps_on" (defArgs s1) (defBody s1) (defScope s1) .none kV dc pm an cd ct), sl⟩) (c : PySem.W.codeIn K cd "taps_on" = true) (k : PySem.W.keepIn K (.ref f) = true) :
    Stands K mg d1 f (PySem.W.fnOf "taps_on" "taps_on" (defArgs s1) (defBody s1) (defScope s1) .none kV dc pm an cd ct) :=
  have F := fun_mk (st := s1) l c k
  ⟨F, PySem.W.mg_of X G a, F.binds (ps := ["app", "mode", "screen"]) fun _ _ _ _ _ _ us hl => match us, hl with | [_, _, _], _ => rfl⟩
theorem st2 {K : PySem.W.Frag} {h : Heap} {mg : Str → Option Value} {f : Addr} {od an : Option Addr} {sl : Array (Option Value)} {oc kV dc pm cd ct : Value} (X : K.In h) (G : h.Ns mainGlobals mg)
    (a : PySem.W.nsIn K mainGlobals "state_error" = some (some (.ref f))) (l : K.lookup f = some ⟨oc, od, .func (PySem.W.fnOf "state_error" "state_error" (defArgs s2) (defBody s2) (defScope s2) .none kV dc pm an cd ct), sl⟩) (c : PySem.W.codeIn K cd "state_error" = true) (k : PySem.W.keepIn K (.ref f) = true) :
    Stands K mg d2 f (PySem.W.fnOf "state_error" "state_error" (defArgs s2) (defBody s2) (defScope s2) .none kV dc pm an cd ct) :=
  have F := fun_mk (st := s2) l c k
  ⟨F, PySem.W.mg_of X G a, F.binds (ps := ["app", "value"]) fun _ _ _ _ _ _ us hl => match us, hl with | [_, _], _ => rfl⟩
theorem st3 {K : PySem.W.Frag} {h : Heap} {mg : Str → Option Value} {f : Addr} {od an : Option Addr} {sl : Array (Option Value)} {oc kV dc pm cd ct : Value} (X : K.In h) (G : h.Ns mainGlobals mg)
    (a : PySem.W.nsIn K mainGlobals "require_state" = some (some (.ref f))) (l : K.lookup f = some ⟨oc, od, .func (PySem.W.fnOf "require_state" "require_state" (defArgs s3) (defBody s3) (defScope s3) .none kV dc pm an cd ct), sl⟩) (c : PySem.W.codeIn K cd "require_state" = true) (k : PySem.W.keepIn K (.ref f) = true) :
    Stands K mg d3 f (PySem.W.fnOf "require_state" "require_state" (defArgs s3) (defBody s3) (defScope s3) .none kV dc pm an cd ct) :=
  have F := fun_mk (st := s3) l c k
  ⟨F, PySem.W.mg_of X G a, F.binds (ps := ["app", "state"]) fun _ _ _ _ _ _ us hl => match us, hl with | [_, _], _ => rfl⟩
theorem st4 {K : PySem.W.Frag} {h : Heap} {mg : Str → Option Value} {f : Addr} {od an : Option Addr} {sl : Array (Option Value)} {oc kV dc pm cd ct : Value} (X : K.In h) (G : h.Ns mainGlobals mg)
    (a : PySem.W.nsIn K mainGlobals "taps_in" = some (some (.ref f))) (l : K.lookup f = some ⟨oc, od, .func (PySem.W.fnOf "taps_in" "taps_in" (defArgs s4) (defBody s4) (defScope s4) .none kV dc pm an cd ct), sl⟩) (c : PySem.W.codeIn K cd "taps_in" = true) (k : PySem.W.keepIn K (.ref f) = true) :
    Stands K mg d4 f (PySem.W.fnOf "taps_in" "taps_in" (defArgs s4) (defBody s4) (defScope s4) .none kV dc pm an cd ct) :=
  have F := fun_mk (st := s4) l c k
  ⟨F, PySem.W.mg_of X G a, F.binds (ps := ["app", "state"]) fun _ _ _ _ _ _ us hl => match us, hl with | [_, _], _ => rfl⟩
theorem st5 {K : PySem.W.Frag} {h : Heap} {mg : Str → Option Value} {f : Addr} {od an : Option Addr} {sl : Array (Option Value)} {oc kV dc pm cd ct : Value} (X : K.In h) (G : h.Ns mainGlobals mg)
    (a : PySem.W.nsIn K mainGlobals "down_to" = some (some (.ref f))) (l : K.lookup f = some ⟨oc, od, .func (PySem.W.fnOf "down_to" "down_to" (defArgs s5) (defBody s5) (defScope s5) .none kV dc pm an cd ct), sl⟩) (c : PySem.W.codeIn K cd "down_to" = true) (k : PySem.W.keepIn K (.ref f) = true) :
    Stands K mg d5 f (PySem.W.fnOf "down_to" "down_to" (defArgs s5) (defBody s5) (defScope s5) .none kV dc pm an cd ct) :=
  have F := fun_mk (st := s5) l c k
  ⟨F, PySem.W.mg_of X G a, F.binds (ps := ["stack", "screen"]) fun _ _ _ _ _ _ us hl => match us, hl with | [_, _], _ => rfl⟩
theorem st6 {K : PySem.W.Frag} {h : Heap} {mg : Str → Option Value} {f : Addr} {od an : Option Addr} {sl : Array (Option Value)} {oc kV dc pm cd ct : Value} (X : K.In h) (G : h.Ns mainGlobals mg)
    (a : PySem.W.nsIn K mainGlobals "behind_tap" = some (some (.ref f))) (l : K.lookup f = some ⟨oc, od, .func (PySem.W.fnOf "behind_tap" "behind_tap" (defArgs s6) (defBody s6) (defScope s6) .none kV dc pm an cd ct), sl⟩) (c : PySem.W.codeIn K cd "behind_tap" = true) (k : PySem.W.keepIn K (.ref f) = true) :
    Stands K mg d6 f (PySem.W.fnOf "behind_tap" "behind_tap" (defArgs s6) (defBody s6) (defScope s6) .none kV dc pm an cd ct) :=
  have F := fun_mk (st := s6) l c k
  ⟨F, PySem.W.mg_of X G a, F.binds (ps := ["state", "tap"]) fun _ _ _ _ _ _ us hl => match us, hl with | [_, _], _ => rfl⟩
theorem st7 {K : PySem.W.Frag} {h : Heap} {mg : Str → Option Value} {f : Addr} {od an : Option Addr} {sl : Array (Option Value)} {oc kV dc pm cd ct : Value} (X : K.In h) (G : h.Ns mainGlobals mg)
    (a : PySem.W.nsIn K mainGlobals "tap_names" = some (some (.ref f))) (l : K.lookup f = some ⟨oc, od, .func (PySem.W.fnOf "tap_names" "tap_names" (defArgs s7) (defBody s7) (defScope s7) .none kV dc pm an cd ct), sl⟩) (c : PySem.W.codeIn K cd "tap_names" = true) (k : PySem.W.keepIn K (.ref f) = true) :
    Stands K mg d7 f (PySem.W.fnOf "tap_names" "tap_names" (defArgs s7) (defBody s7) (defScope s7) .none kV dc pm an cd ct) :=
  have F := fun_mk (st := s7) l c k
  ⟨F, PySem.W.mg_of X G a, F.binds (ps := ["app", "state"]) fun _ _ _ _ _ _ us hl => match us, hl with | [_, _], _ => rfl⟩
theorem st8 {K : PySem.W.Frag} {h : Heap} {mg : Str → Option Value} {f : Addr} {od an : Option Addr} {sl : Array (Option Value)} {oc kV dc pm cd ct : Value} (X : K.In h) (G : h.Ns mainGlobals mg)
    (a : PySem.W.nsIn K mainGlobals "tapped" = some (some (.ref f))) (l : K.lookup f = some ⟨oc, od, .func (PySem.W.fnOf "tapped" "tapped" (defArgs s8) (defBody s8) (defScope s8) .none kV dc pm an cd ct), sl⟩) (c : PySem.W.codeIn K cd "tapped" = true) (k : PySem.W.keepIn K (.ref f) = true) :
    Stands K mg d8 f (PySem.W.fnOf "tapped" "tapped" (defArgs s8) (defBody s8) (defScope s8) .none kV dc pm an cd ct) :=
  have F := fun_mk (st := s8) l c k
  ⟨F, PySem.W.mg_of X G a, F.binds (ps := ["app", "state", "name"]) fun _ _ _ _ _ _ us hl => match us, hl with | [_, _, _], _ => rfl⟩
theorem st9 {K : PySem.W.Frag} {h : Heap} {mg : Str → Option Value} {f : Addr} {od an : Option Addr} {sl : Array (Option Value)} {oc kV dc pm cd ct : Value} (X : K.In h) (G : h.Ns mainGlobals mg)
    (a : PySem.W.nsIn K mainGlobals "do_tap" = some (some (.ref f))) (l : K.lookup f = some ⟨oc, od, .func (PySem.W.fnOf "do_tap" "do_tap" (defArgs s9) (defBody s9) (defScope s9) .none kV dc pm an cd ct), sl⟩) (c : PySem.W.codeIn K cd "do_tap" = true) (k : PySem.W.keepIn K (.ref f) = true) :
    Stands K mg d9 f (PySem.W.fnOf "do_tap" "do_tap" (defArgs s9) (defBody s9) (defScope s9) .none kV dc pm an cd ct) :=
  have F := fun_mk (st := s9) l c k
  ⟨F, PySem.W.mg_of X G a, F.binds (ps := ["app", "state", "name"]) fun _ _ _ _ _ _ us hl => match us, hl with | [_, _, _], _ => rfl⟩
theorem st10 {K : PySem.W.Frag} {h : Heap} {mg : Str → Option Value} {f : Addr} {od an : Option Addr} {sl : Array (Option Value)} {oc kV dc pm cd ct : Value} (X : K.In h) (G : h.Ns mainGlobals mg)
    (a : PySem.W.nsIn K mainGlobals "do_row" = some (some (.ref f))) (l : K.lookup f = some ⟨oc, od, .func (PySem.W.fnOf "do_row" "do_row" (defArgs s10) (defBody s10) (defScope s10) .none kV dc pm an cd ct), sl⟩) (c : PySem.W.codeIn K cd "do_row" = true) (k : PySem.W.keepIn K (.ref f) = true) :
    Stands K mg d10 f (PySem.W.fnOf "do_row" "do_row" (defArgs s10) (defBody s10) (defScope s10) .none kV dc pm an cd ct) :=
  have F := fun_mk (st := s10) l c k
  ⟨F, PySem.W.mg_of X G a, F.binds (ps := ["app", "state", "names"]) fun _ _ _ _ _ _ us hl => match us, hl with | [_, _, _], _ => rfl⟩
theorem st11 {K : PySem.W.Frag} {h : Heap} {mg : Str → Option Value} {f : Addr} {od an : Option Addr} {sl : Array (Option Value)} {oc kV dc pm cd ct : Value} (X : K.In h) (G : h.Ns mainGlobals mg)
    (a : PySem.W.nsIn K mainGlobals "_law_spring" = some (some (.ref f))) (l : K.lookup f = some ⟨oc, od, .func (PySem.W.fnOf "_law_spring" "_law_spring" (defArgs s11) (defBody s11) (defScope s11) .none kV dc pm an cd ct), sl⟩) (c : PySem.W.codeIn K cd "_law_spring" = true) (k : PySem.W.keepIn K (.ref f) = true) :
    Stands K mg d11 f (PySem.W.fnOf "_law_spring" "_law_spring" (defArgs s11) (defBody s11) (defScope s11) .none kV dc pm an cd ct) :=
  have F := fun_mk (st := s11) l c k
  ⟨F, PySem.W.mg_of X G a, F.binds (ps := ["_law_script"]) fun _ _ _ _ _ _ us hl => match us, hl with | [_], _ => rfl⟩
theorem st12 {K : PySem.W.Frag} {h : Heap} {mg : Str → Option Value} {f : Addr} {od an : Option Addr} {sl : Array (Option Value)} {oc kV dc pm cd ct : Value} (X : K.In h) (G : h.Ns mainGlobals mg)
    (a : PySem.W.nsIn K mainGlobals "_law_drop" = some (some (.ref f))) (l : K.lookup f = some ⟨oc, od, .func (PySem.W.fnOf "_law_drop" "_law_drop" (defArgs s12) (defBody s12) (defScope s12) .none kV dc pm an cd ct), sl⟩) (c : PySem.W.codeIn K cd "_law_drop" = true) (k : PySem.W.keepIn K (.ref f) = true) :
    Stands K mg d12 f (PySem.W.fnOf "_law_drop" "_law_drop" (defArgs s12) (defBody s12) (defScope s12) .none kV dc pm an cd ct) :=
  have F := fun_mk (st := s12) l c k
  ⟨F, PySem.W.mg_of X G a, F.binds (ps := ["_law_spring_here", "_law_many"]) fun _ _ _ _ _ _ us hl => match us, hl with | [_, _], _ => rfl⟩
theorem st13 {K : PySem.W.Frag} {h : Heap} {mg : Str → Option Value} {f : Addr} {od an : Option Addr} {sl : Array (Option Value)} {oc kV dc pm cd ct : Value} (X : K.In h) (G : h.Ns mainGlobals mg)
    (a : PySem.W.nsIn K mainGlobals "_law_pick" = some (some (.ref f))) (l : K.lookup f = some ⟨oc, od, .func (PySem.W.fnOf "_law_pick" "_law_pick" (defArgs s13) (defBody s13) (defScope s13) .none kV dc pm an cd ct), sl⟩) (c : PySem.W.codeIn K cd "_law_pick" = true) (k : PySem.W.keepIn K (.ref f) = true) :
    Stands K mg d13 f (PySem.W.fnOf "_law_pick" "_law_pick" (defArgs s13) (defBody s13) (defScope s13) .none kV dc pm an cd ct) :=
  have F := fun_mk (st := s13) l c k
  ⟨F, PySem.W.mg_of X G a, F.binds (ps := ["_law_spring_here", "_law_items"]) fun _ _ _ _ _ _ us hl => match us, hl with | [_, _], _ => rfl⟩
theorem st14 {K : PySem.W.Frag} {h : Heap} {mg : Str → Option Value} {f : Addr} {od an : Option Addr} {sl : Array (Option Value)} {oc kV dc pm cd ct : Value} (X : K.In h) (G : h.Ns mainGlobals mg)
    (a : PySem.W.nsIn K mainGlobals "_law_act" = some (some (.ref f))) (l : K.lookup f = some ⟨oc, od, .func (PySem.W.fnOf "_law_act" "_law_act" (defArgs s14) (defBody s14) (defScope s14) .none kV dc pm an cd ct), sl⟩) (c : PySem.W.codeIn K cd "_law_act" = true) (k : PySem.W.keepIn K (.ref f) = true) :
    Stands K mg d14 f (PySem.W.fnOf "_law_act" "_law_act" (defArgs s14) (defBody s14) (defScope s14) .none kV dc pm an cd ct) :=
  have F := fun_mk (st := s14) l c k
  ⟨F, PySem.W.mg_of X G a, F.binds (ps := ["_law_spring_here", "_law_screens", "_law_aims"]) fun _ _ _ _ _ _ us hl => match us, hl with | [_, _, _], _ => rfl⟩
theorem st15 {K : PySem.W.Frag} {h : Heap} {mg : Str → Option Value} {f : Addr} {od an : Option Addr} {sl : Array (Option Value)} {oc kV dc pm cd ct : Value} (X : K.In h) (G : h.Ns mainGlobals mg)
    (a : PySem.W.nsIn K mainGlobals "_law_app" = some (some (.ref f))) (l : K.lookup f = some ⟨oc, od, .func (PySem.W.fnOf "_law_app" "_law_app" (defArgs s15) (defBody s15) (defScope s15) .none kV dc pm an cd ct), sl⟩) (c : PySem.W.codeIn K cd "_law_app" = true) (k : PySem.W.keepIn K (.ref f) = true) :
    Stands K mg d15 f (PySem.W.fnOf "_law_app" "_law_app" (defArgs s15) (defBody s15) (defScope s15) .none kV dc pm an cd ct) :=
  have F := fun_mk (st := s15) l c k
  ⟨F, PySem.W.mg_of X G a, F.binds (ps := ["_law_spring_here", "_law_most"]) fun _ _ _ _ _ _ us hl => match us, hl with | [_, _], _ => rfl⟩
theorem st16 {K : PySem.W.Frag} {h : Heap} {mg : Str → Option Value} {f : Addr} {od an : Option Addr} {sl : Array (Option Value)} {oc kV dc pm cd ct : Value} (X : K.In h) (G : h.Ns mainGlobals mg)
    (a : PySem.W.nsIn K mainGlobals "_law_deep_state" = some (some (.ref f))) (l : K.lookup f = some ⟨oc, od, .func (PySem.W.fnOf "_law_deep_state" "_law_deep_state" (defArgs s16) (defBody s16) (defScope s16) .none kV dc pm an cd ct), sl⟩) (c : PySem.W.codeIn K cd "_law_deep_state" = true) (k : PySem.W.keepIn K (.ref f) = true) :
    Stands K mg d16 f (PySem.W.fnOf "_law_deep_state" "_law_deep_state" (defArgs s16) (defBody s16) (defScope s16) .none kV dc pm an cd ct) :=
  have F := fun_mk (st := s16) l c k
  ⟨F, PySem.W.mg_of X G a, F.binds (ps := ["_law_spring_here", "_law_app_here", "_law_most"]) fun _ _ _ _ _ _ us hl => match us, hl with | [_, _, _], _ => rfl⟩
theorem st17 {K : PySem.W.Frag} {h : Heap} {mg : Str → Option Value} {f : Addr} {od an : Option Addr} {sl : Array (Option Value)} {oc kV dc pm cd ct : Value} (X : K.In h) (G : h.Ns mainGlobals mg)
    (a : PySem.W.nsIn K mainGlobals "_law_acts" = some (some (.ref f))) (l : K.lookup f = some ⟨oc, od, .func (PySem.W.fnOf "_law_acts" "_law_acts" (defArgs s17) (defBody s17) (defScope s17) .none kV dc pm an cd ct), sl⟩) (c : PySem.W.codeIn K cd "_law_acts" = true) (k : PySem.W.keepIn K (.ref f) = true) :
    Stands K mg d17 f (PySem.W.fnOf "_law_acts" "_law_acts" (defArgs s17) (defBody s17) (defScope s17) .none kV dc pm an cd ct) :=
  have F := fun_mk (st := s17) l c k
  ⟨F, PySem.W.mg_of X G a, F.binds (ps := ["_law_app_here", "_law_state"]) fun _ _ _ _ _ _ us hl => match us, hl with | [_, _], _ => rfl⟩
theorem st18 {K : PySem.W.Frag} {h : Heap} {mg : Str → Option Value} {f : Addr} {od an : Option Addr} {sl : Array (Option Value)} {oc kV dc pm cd ct : Value} (X : K.In h) (G : h.Ns mainGlobals mg)
    (a : PySem.W.nsIn K mainGlobals "_law_is_held" = some (some (.ref f))) (l : K.lookup f = some ⟨oc, od, .func (PySem.W.fnOf "_law_is_held" "_law_is_held" (defArgs s18) (defBody s18) (defScope s18) .none kV dc pm an cd ct), sl⟩) (c : PySem.W.codeIn K cd "_law_is_held" = true) (k : PySem.W.keepIn K (.ref f) = true) :
    Stands K mg d18 f (PySem.W.fnOf "_law_is_held" "_law_is_held" (defArgs s18) (defBody s18) (defScope s18) .none kV dc pm an cd ct) :=
  have F := fun_mk (st := s18) l c k
  ⟨F, PySem.W.mg_of X G a, F.binds (ps := ["_law_state", "_law_tap"]) fun _ _ _ _ _ _ us hl => match us, hl with | [_, _], _ => rfl⟩
theorem st19 {K : PySem.W.Frag} {h : Heap} {mg : Str → Option Value} {f : Addr} {od an : Option Addr} {sl : Array (Option Value)} {oc kV dc pm cd ct : Value} (X : K.In h) (G : h.Ns mainGlobals mg)
    (a : PySem.W.nsIn K mainGlobals "_law_held_row" = some (some (.ref f))) (l : K.lookup f = some ⟨oc, od, .func (PySem.W.fnOf "_law_held_row" "_law_held_row" (defArgs s19) (defBody s19) (defScope s19) .none kV dc pm an cd ct), sl⟩) (c : PySem.W.codeIn K cd "_law_held_row" = true) (k : PySem.W.keepIn K (.ref f) = true) :
    Stands K mg d19 f (PySem.W.fnOf "_law_held_row" "_law_held_row" (defArgs s19) (defBody s19) (defScope s19) .none kV dc pm an cd ct) :=
  have F := fun_mk (st := s19) l c k
  ⟨F, PySem.W.mg_of X G a, F.binds (ps := ["_law_spring_here", "_law_app_here", "_law_state", "_law_many"]) fun _ _ _ _ _ _ us hl => match us, hl with | [_, _, _, _], _ => rfl⟩
theorem st20 {K : PySem.W.Frag} {h : Heap} {mg : Str → Option Value} {f : Addr} {od an : Option Addr} {sl : Array (Option Value)} {oc kV dc pm cd ct : Value} (X : K.In h) (G : h.Ns mainGlobals mg)
    (a : PySem.W.nsIn K mainGlobals "_law_tops_right" = some (some (.ref f))) (l : K.lookup f = some ⟨oc, od, .func (PySem.W.fnOf "_law_tops_right" "_law_tops_right" (defArgs s20) (defBody s20) (defScope s20) .none kV dc pm an cd ct), sl⟩) (c : PySem.W.codeIn K cd "_law_tops_right" = true) (k : PySem.W.keepIn K (.ref f) = true) :
    Stands K mg d20 f (PySem.W.fnOf "_law_tops_right" "_law_tops_right" (defArgs s20) (defBody s20) (defScope s20) .none kV dc pm an cd ct) :=
  have F := fun_mk (st := s20) l c k
  ⟨F, PySem.W.mg_of X G a, F.binds (ps := ["_law_app_here", "_law_state"]) fun _ _ _ _ _ _ us hl => match us, hl with | [_, _], _ => rfl⟩
theorem st21 {K : PySem.W.Frag} {h : Heap} {mg : Str → Option Value} {f : Addr} {od an : Option Addr} {sl : Array (Option Value)} {oc kV dc pm cd ct : Value} (X : K.In h) (G : h.Ns mainGlobals mg)
    (a : PySem.W.nsIn K mainGlobals "law" = some (some (.ref f))) (l : K.lookup f = some ⟨oc, od, .func (PySem.W.fnOf "law" "law" (defArgs s21) (defBody s21) (defScope s21) .none kV dc pm an cd ct), sl⟩) (c : PySem.W.codeIn K cd "law" = true) (k : PySem.W.keepIn K (.ref f) = true) :
    Stands K mg d21 f (PySem.W.fnOf "law" "law" (defArgs s21) (defBody s21) (defScope s21) .none kV dc pm an cd ct) :=
  have F := fun_mk (st := s21) l c k
  ⟨F, PySem.W.mg_of X G a, F.binds (ps := ["_law_script"]) fun _ _ _ _ _ _ us hl => match us, hl with | [_], _ => rfl⟩
theorem stands {K : PySem.W.Frag} {mg : Str → Option Value} (h0 : ∃ f fd, Stands K mg d0 f fd) (h1 : ∃ f fd, Stands K mg d1 f fd) (h2 : ∃ f fd, Stands K mg d2 f fd) (h3 : ∃ f fd, Stands K mg d3 f fd) (h4 : ∃ f fd, Stands K mg d4 f fd) (h5 : ∃ f fd, Stands K mg d5 f fd) (h6 : ∃ f fd, Stands K mg d6 f fd) (h7 : ∃ f fd, Stands K mg d7 f fd) (h8 : ∃ f fd, Stands K mg d8 f fd) (h9 : ∃ f fd, Stands K mg d9 f fd) (h10 : ∃ f fd, Stands K mg d10 f fd) (h11 : ∃ f fd, Stands K mg d11 f fd) (h12 : ∃ f fd, Stands K mg d12 f fd) (h13 : ∃ f fd, Stands K mg d13 f fd) (h14 : ∃ f fd, Stands K mg d14 f fd) (h15 : ∃ f fd, Stands K mg d15 f fd) (h16 : ∃ f fd, Stands K mg d16 f fd) (h17 : ∃ f fd, Stands K mg d17 f fd) (h18 : ∃ f fd, Stands K mg d18 f fd) (h19 : ∃ f fd, Stands K mg d19 f fd) (h20 : ∃ f fd, Stands K mg d20 f fd) (h21 : ∃ f fd, Stands K mg d21 f fd) : ∀ (i : Nat) (d : Df), T[i]? = some d → ∃ f fd, Stands K mg d f fd
  | 0, _, rfl => h0
  | 1, _, rfl => h1
  | 2, _, rfl => h2
  | 3, _, rfl => h3
  | 4, _, rfl => h4
  | 5, _, rfl => h5
  | 6, _, rfl => h6
  | 7, _, rfl => h7
  | 8, _, rfl => h8
  | 9, _, rfl => h9
  | 10, _, rfl => h10
  | 11, _, rfl => h11
  | 12, _, rfl => h12
  | 13, _, rfl => h13
  | 14, _, rfl => h14
  | 15, _, rfl => h15
  | 16, _, rfl => h16
  | 17, _, rfl => h17
  | 18, _, rfl => h18
  | 19, _, rfl => h19
  | 20, _, rfl => h20
  | 21, _, rfl => h21
  | _ + 22, _, h => nomatch h
end Lk07
end

section
set_option maxRecDepth 10000
set_option maxHeartbeats 4000000
namespace Lk07
open PySem PySem.Spec L2 Pv
open PyProof.Rows hiding St

theorem So_nx2 {p : Po} {τ : Tau} {S : Sto} : So (.nx τ S) p = p.nx τ S := Eq.trans (congrArg (fun x => x) rfl) (Eq.trans rfl rfl)
theorem Ok_ok2 {α : Type} {Q : α → Sto → Prop} {E : Xc → Sto → Prop} {a : α} {S : Sto} : Ok (.ok a S) Q E = Q a S := Eq.trans (congrArg (fun x => x) rfl) (Eq.trans rfl rfl)
section
variable {k : Nat} {A : AppD} {S : Sto} {Q : W → Sto → Prop} {E : Xc → Sto → Prop} {s : StD}
theorem eq_nilS {S : Sto} {l : List Str} (h : ∀ y ∈ l, PyData.strOk y = true) : fEq S (.p (encS l)) (.p (.tuple [])) = some (.p (.bool l.isEmpty), S) := by
  have := e_eqL (S := S) h (b := []) (fun x hx => nomatch hx)
  rw [show (PyData.tuple []) = encS [] from rfl, this]
  cases l <;> rfl
theorem ixLast {S : Sto} (l : List Str) (t : Str) : fIx S (.p (encS (l ++ [t]))) (.p (.int (-1))) = some (.p (.str t), S) := by
  show fIx S (.p (.tuple ((l ++ [t]).map .str))) _ = _
  rw [e_ixT, List.map_append]
  show (L2.atI (l.map PyData.str ++ [PyData.str t]) (-1)).map _ = _
  rw [L2.atI_last]
  rfl
theorem acts_ok (G : GoodA A) (hs : OkSt A s) (hc : Clo S) (q : Q (.p (.list ((tapsIn A s).map encT))) S) : Ok (callN fds (k + 2) 17 [.p (encA A), .p (encSt s)] S) Q E := by
  refine Ok_call (fd := f17) rfl rfl ?_
  obtain ⟨h1, h2⟩ := hs.ok G
  simp only [f17, b17, So_cs, So_nl, So_then, So_ite, So_nx2, So_ret, So_bk, So_ct, evS, evE, evEs, evT, evTa, evTo, evAn, evOr, evAs, evP, evI, Ok_bind, Ok_ok2, Ok_bad, Ok_some, Ok_bs, Ok_ite, asgT, asgR, asgT.asgTs, setAll, wipeT, biF, meF, binF, cmpF, bl?, List.getElem?_cons_zero, List.getElem?_cons_succ, List.set_cons_zero, List.set_cons_succ, List.map_cons, List.map_nil, List.replicate_succ, List.replicate_zero, List.cons_append, List.nil_append, Nat.sub_self, Nat.reduceSub, Nat.reduceAdd, st_ix, mkT0, eq_nilS h2, trub]
  unfold tapsIn at q
  rcases List.eq_nil_or_concat s.k with e | ⟨l, t, e⟩
  · rw [e] at q ⊢
    simp only [List.isEmpty_nil, if_true, mkL0, So_cs, So_nl, So_then, So_ite, So_nx2, So_ret, So_bk, So_ct, evS, evE, evEs, evT, evTa, evTo, evAn, evOr, evAs, evP, evI, Ok_bind, Ok_ok2, Ok_bad, Ok_some, Ok_bs, Ok_ite, asgT, asgR, asgT.asgTs, setAll, wipeT, biF, meF, binF, cmpF, bl?, List.getElem?_cons_zero, List.getElem?_cons_succ, List.set_cons_zero, List.set_cons_succ, List.map_cons, List.map_nil, List.replicate_succ, List.replicate_zero, List.cons_append, List.nil_append, Nat.sub_self, Nat.reduceSub, Nat.reduceAdd]
    exact Ok_end0 hc rfl rfl q
  · have e' : s.k = l ++ [t] := by simpa using e
    have hne : s.k.isEmpty = false := by rw [e']; simp
    rw [hne]
    have hix : ∀ S : Sto, fIx S (.p (encS s.k)) (.p (.int (-1))) = some (.p (.str t), S) := fun S => by rw [e']; exact ixLast l t
    simp only [Bool.false_eq_true, if_false, So_cs, So_nl, So_then, So_ite, So_nx2, So_ret, So_bk, So_ct, evS, evE, evEs, evT, evTa, evTo, evAn, evOr, evAs, evP, evI, Ok_bind, Ok_ok2, Ok_bad, Ok_some, Ok_bs, Ok_ite, asgT, asgR, asgT.asgTs, setAll, wipeT, biF, meF, binF, cmpF, bl?, List.getElem?_cons_zero, List.getElem?_cons_succ, List.set_cons_zero, List.set_cons_succ, List.map_cons, List.map_nil, List.replicate_succ, List.replicate_zero, List.cons_append, List.nil_append, Nat.sub_self, Nat.reduceSub, Nat.reduceAdd, hix]
    have ht : s.k.getLast? = some t := by rw [e']; simp
    rw [ht] at q
    refine tapsOn_ok rfl G h1 (h2 t (by rw [e']; simp)) hc ?_
    simp only [e_listT, So_cs, So_nl, So_then, So_ite, So_nx2, So_ret, So_bk, So_ct, evS, evE, evEs, evT, evTa, evTo, evAn, evOr, evAs, evP, evI, Ok_bind, Ok_ok2, Ok_bad, Ok_some, Ok_bs, Ok_ite, asgT, asgR, asgT.asgTs, setAll, wipeT, biF, meF, binF, cmpF, bl?, List.getElem?_cons_zero, List.getElem?_cons_succ, List.set_cons_zero, List.set_cons_succ, List.map_cons, List.map_nil, List.replicate_succ, List.replicate_zero, List.cons_append, List.nil_append, Nat.sub_self, Nat.reduceSub, Nat.reduceAdd]
    exact Ok_end0 hc rfl rfl q
theorem tup2 {S : Sto} (h y : Str) : fIx S (.p (encS [h, y])) (.p (.int 0)) = some (.p (.str h), S) ∧ fIx S (.p (encS [h, y])) (.p (.int 1)) = some (.p (.str y), S) := ⟨rfl, rfl⟩
theorem tup1 {S : Sto} (h : Str) : fIx S (.p (encS [h])) (.p (.int 0)) = some (.p (.str h), S) := rfl
theorem lits : PyData.strOk "open" = true ∧ PyData.strOk "put" = true ∧ PyData.strOk "to" = true ∧ PyData.strOk "back" = true := ⟨so_ofS _, so_ofS _, so_ofS _, so_ofS _⟩
theorem nes : ("open" : Str) ≠ "back" ∧ ("put" : Str) ≠ "back" ∧ ("to" : Str) ≠ "back" ∧ ("open" : Str) ≠ "to" ∧ ("put" : Str) ≠ "to" ∧ ("back" : Str) ≠ "to" ∧ ("open" : Str) ≠ "put" ∧ ("to" : Str) ≠ "put" ∧ ("back" : Str) ≠ "put" ∧ ("put" : Str) ≠ "open" ∧ ("to" : Str) ≠ "open" ∧ ("back" : Str) ≠ "open" := by decide
theorem held_ok {t : TapD} (G : GoodA A) (hs : OkSt A s) (ht : t ∈ A.ts) (hc : Clo S) (q : Q (.p (.bool (held s t))) S) : Ok (callN fds (k + 1) 18 [.p (encSt s), .p (encT t)] S) Q E := by
  refine Ok_call (fd := f18) rfl rfl ?_
  obtain ⟨h1, h2⟩ := hs.ok G
  obtain ⟨lo, lp, lt, lb⟩ := lits
  obtain ⟨n1, n2, n3, n4, n5, n6, n7, n8, n9, n10, n11, n12⟩ := nes
  unfold held at q
  rcases act_cases G ht with ⟨y, hy, e | e | e⟩ | e
  · rw [e] at q
    simp only [decide_eq_false n4, Bool.not_false, Bool.true_or] at q
    simp only [f18, b18, b18_1, So_cs, So_nl, So_then, So_ite, So_nx2, So_ret, So_bk, So_ct, evS, evE, evEs, evT, evTa, evTo, evAn, evOr, evAs, evP, evI, Ok_bind, Ok_ok2, Ok_bad, Ok_some, Ok_bs, Ok_ite, asgT, asgR, asgT.asgTs, setAll, wipeT, biF, meF, binF, cmpF, bl?, List.getElem?_cons_zero, List.getElem?_cons_succ, List.set_cons_zero, List.set_cons_succ, List.map_cons, List.map_nil, List.replicate_succ, List.replicate_zero, List.cons_append, List.nil_append, Nat.sub_self, Nat.reduceSub, Nat.reduceAdd, st_ix, tap_ix, e, tup2, e_eqS lo lb, e_neS lo lt, decide_eq_false n1, decide_eq_false n4, trub, Bool.false_eq_true, if_false, Bool.not_false, if_true]
    exact Ok_end0 hc rfl rfl q
  · rw [e] at q
    simp only [decide_eq_false n5, Bool.not_false, Bool.true_or] at q
    simp only [f18, b18, b18_1, So_cs, So_nl, So_then, So_ite, So_nx2, So_ret, So_bk, So_ct, evS, evE, evEs, evT, evTa, evTo, evAn, evOr, evAs, evP, evI, Ok_bind, Ok_ok2, Ok_bad, Ok_some, Ok_bs, Ok_ite, asgT, asgR, asgT.asgTs, setAll, wipeT, biF, meF, binF, cmpF, bl?, List.getElem?_cons_zero, List.getElem?_cons_succ, List.set_cons_zero, List.set_cons_succ, List.map_cons, List.map_nil, List.replicate_succ, List.replicate_zero, List.cons_append, List.nil_append, Nat.sub_self, Nat.reduceSub, Nat.reduceAdd, st_ix, tap_ix, e, tup2, e_eqS lp lb, e_neS lp lt, decide_eq_false n2, decide_eq_false n5, trub, Bool.false_eq_true, if_false, Bool.not_false, if_true]
    exact Ok_end0 hc rfl rfl q
  · rw [e] at q
    simp only [decide_true, Bool.not_true, Bool.false_or] at q
    have eI : ∀ S : Sto, fIn false S (.p (.str y)) (.p (encS s.k.dropLast)) = some (.p (.bool (decide (y ∈ s.k.dropLast))), S) := fun S => by
      have := (fIn_str (S := S) (x := .str y) (ms := s.k.dropLast.map .str) rfl (flat_map _)).1
      rw [inP_str] at this
      exact this
    simp only [f18, b18, b18_1, So_cs, So_nl, So_then, So_ite, So_nx2, So_ret, So_bk, So_ct, evS, evE, evEs, evT, evTa, evTo, evAn, evOr, evAs, evP, evI, Ok_bind, Ok_ok2, Ok_bad, Ok_some, Ok_bs, Ok_ite, asgT, asgR, asgT.asgTs, setAll, wipeT, biF, meF, binF, cmpF, bl?, List.getElem?_cons_zero, List.getElem?_cons_succ, List.set_cons_zero, List.set_cons_succ, List.map_cons, List.map_nil, List.replicate_succ, List.replicate_zero, List.cons_append, List.nil_append, Nat.sub_self, Nat.reduceSub, Nat.reduceAdd, st_ix, tap_ix, e, tup2, e_eqS lt lb, e_neS lt lt, decide_eq_false n3, decide_true, trub, Bool.false_eq_true, if_false, Bool.not_true, if_true, e_cutLast, eI]
    exact Ok_end0 hc rfl rfl q
  · rw [e] at q
    have eg : decide ((1 : Int) < (s.k.length : Int)) = decide (1 < s.k.length) := by
      by_cases h : 1 < s.k.length
      · rw [decide_eq_true h, decide_eq_true (by omega)]
      · rw [decide_eq_false h, decide_eq_false (by omega)]
    simp only [f18, b18, b18_1, So_cs, So_nl, So_then, So_ite, So_nx2, So_ret, So_bk, So_ct, evS, evE, evEs, evT, evTa, evTo, evAn, evOr, evAs, evP, evI, Ok_bind, Ok_ok2, Ok_bad, Ok_some, Ok_bs, Ok_ite, asgT, asgR, asgT.asgTs, setAll, wipeT, biF, meF, binF, cmpF, bl?, List.getElem?_cons_zero, List.getElem?_cons_succ, List.set_cons_zero, List.set_cons_succ, List.map_cons, List.map_nil, List.replicate_succ, List.replicate_zero, List.cons_append, List.nil_append, Nat.sub_self, Nat.reduceSub, Nat.reduceAdd, st_ix, tap_ix, e, tup1, e_eqS lb lb, decide_true, trub, if_true, e_lenS', e_gt, eg]
    exact Ok_end0 hc rfl rfl q
theorem tops_ok (G : GoodA A) (hs : OkSt A s) (hl : s.k.length + 1 ≤ 99999) (hc : Clo S) (q : Q (.p (.bool true)) S) : Ok (callN fds (k + 5) 20 [.p (encA A), .p (encSt s)] S) Q E := by
  refine Ok_call (fd := f20) rfl rfl ?_
  obtain ⟨h1, h2⟩ := hs.ok G
  obtain ⟨lo, lp, lt, lb⟩ := lits
  obtain ⟨n1, n2, n3, n4, n5, n6, n7, n8, n9, n10, n11, n12⟩ := nes
  have hlT : (tapsIn A s).length ≤ 24 := by
    unfold tapsIn
    split
    · exact Nat.le_trans (List.length_filter_le _ _) G.len
    · exact Nat.zero_le _
  simp only [f20, b20, So_cs, So_nl, So_then, So_ite, So_nx2, So_ret, So_bk, So_ct, evS, evE, evEs, evT, evTa, evTo, evAn, evOr, evAs, evP, evI, Ok_bind, Ok_ok2, Ok_bad, Ok_some, Ok_bs, Ok_ite, asgT, asgR, asgT.asgTs, setAll, wipeT, biF, meF, binF, cmpF, bl?, List.getElem?_cons_zero, List.getElem?_cons_succ, List.set_cons_zero, List.set_cons_succ, List.map_cons, List.map_nil, List.replicate_succ, List.replicate_zero, List.cons_append, List.nil_append, Nat.sub_self, Nat.reduceSub, Nat.reduceAdd]
  refine tapNames_ok (iN := 1) (iO := 4) (i1 := 0) (iE := 2) (iR := 3) rfl rfl rfl rfl rfl rfl G hs hc ?_
  refine acts_ok G hs hc ?_
  simp only [So_cs, So_nl, So_then, So_ite, So_nx2, So_ret, So_bk, So_ct, evS, evE, evEs, evT, evTa, evTo, evAn, evOr, evAs, evP, evI, Ok_bind, Ok_ok2, Ok_bad, Ok_some, Ok_bs, Ok_ite, asgT, asgR, asgT.asgTs, setAll, wipeT, biF, meF, binF, cmpF, bl?, List.getElem?_cons_zero, List.getElem?_cons_succ, List.set_cons_zero, List.set_cons_succ, List.map_cons, List.map_nil, List.replicate_succ, List.replicate_zero, List.cons_append, List.nil_append, Nat.sub_self, Nat.reduceSub, Nat.reduceAdd, itemsL, stillp, if_true, rowsT]
  refine Ok_lcM (fun t => some (W.p (.str t.n))) (fun t ht => ?_) ?_
  · simp only [So_cs, So_nl, So_then, So_ite, So_nx2, So_ret, So_bk, So_ct, evS, evE, evEs, evT, evTa, evTo, evAn, evOr, evAs, evP, evI, Ok_bind, Ok_ok2, Ok_bad, Ok_some, Ok_bs, Ok_ite, asgT, asgR, asgT.asgTs, setAll, wipeT, biF, meF, binF, cmpF, bl?, List.getElem?_cons_zero, List.getElem?_cons_succ, List.set_cons_zero, List.set_cons_succ, List.map_cons, List.map_nil, List.replicate_succ, List.replicate_zero, List.cons_append, List.nil_append, Nat.sub_self, Nat.reduceSub, Nat.reduceAdd, tap_ix]
    exact ⟨trivial, trivial⟩
  have hso : ∀ x ∈ (tapsIn A s).map (·.n), PyData.strOk x = true := fun x hx => by
    obtain ⟨t, ht, rfl⟩ := List.mem_map.mp hx
    exact strB_ok (G.tB (tapsIn_sub ht).1).1
  have eN : (PyData.tuple ((tapsIn A s).map fun t => PyData.str t.n)) = encS ((tapsIn A s).map (·.n)) := by
    unfold encS
    rw [List.map_map]
    rfl
  rw [fm_map (fun t : TapD => PyData.str t.n), mkL _ (by simp only [List.length_map]; unfold lim; omega)]
  simp only [So_cs, So_nl, So_then, So_ite, So_nx2, So_ret, So_bk, So_ct, evS, evE, evEs, evT, evTa, evTo, evAn, evOr, evAs, evP, evI, Ok_bind, Ok_ok2, Ok_bad, Ok_some, Ok_bs, Ok_ite, asgT, asgR, asgT.asgTs, setAll, wipeT, biF, meF, binF, cmpF, bl?, List.getElem?_cons_zero, List.getElem?_cons_succ, List.set_cons_zero, List.set_cons_succ, List.map_cons, List.map_nil, List.replicate_succ, List.replicate_zero, List.cons_append, List.nil_append, Nat.sub_self, Nat.reduceSub, Nat.reduceAdd, e_tupL, eN, e_neL hso hso, decide_true, Bool.not_true, trub, Bool.false_eq_true, if_false, b20_8]
  refine acts_ok G hs hc ?_
  simp only [So_cs, So_nl, So_then, So_ite, So_nx2, So_ret, So_bk, So_ct, evS, evE, evEs, evT, evTa, evTo, evAn, evOr, evAs, evP, evI, Ok_bind, Ok_ok2, Ok_bad, Ok_some, Ok_bs, Ok_ite, asgT, asgR, asgT.asgTs, setAll, wipeT, biF, meF, binF, cmpF, bl?, List.getElem?_cons_zero, List.getElem?_cons_succ, List.set_cons_zero, List.set_cons_succ, List.map_cons, List.map_nil, List.replicate_succ, List.replicate_zero, List.cons_append, List.nil_append, Nat.sub_self, Nat.reduceSub, Nat.reduceAdd, itemsL, stillp, if_true, rowsT]
  refine So_forM (fun pre τ S' => S' = S ∧ ∃ x y z : Option W, τ = [some (.p (encA A)), some (.p (encSt s)), x, y, z]) ⟨rfl, _, _, _, rfl⟩ ?_ ?_
  · rintro pre t post τ S' e0 ⟨rfl, x, y, z, rfl⟩
    have ht : t ∈ tapsIn A s := by rw [e0]; simp
    have hA := (tapsIn_sub ht).1
    obtain ⟨o1, o2⟩ := hs.behind G hA (by omega)
    obtain ⟨p1, p2⟩ := o1.ok G
    have hn0 : ∀ x ∈ s.k.dropLast, PyData.strOk x = true := fun x hx => h2 x (List.dropLast_subset _ hx)
    simp only [b20_7, So_cs, So_nl, So_then, So_ite, So_nx2, So_ret, So_bk, So_ct, evS, evE, evEs, evT, evTa, evTo, evAn, evOr, evAs, evP, evI, Ok_bind, Ok_ok2, Ok_bad, Ok_some, Ok_bs, Ok_ite, asgT, asgR, asgT.asgTs, setAll, wipeT, biF, meF, binF, cmpF, bl?, List.getElem?_cons_zero, List.getElem?_cons_succ, List.set_cons_zero, List.set_cons_succ, List.map_cons, List.map_nil, List.replicate_succ, List.replicate_zero, List.cons_append, List.nil_append, Nat.sub_self, Nat.reduceSub, Nat.reduceAdd, tap_ix]
    refine doTap_ok (iN := 1) (iO := 4) (iB := 6) (iD := 5) (i1 := 0) (iE := 2) (iR := 3) (iT := 8) rfl rfl rfl rfl rfl rfl rfl rfl rfl G hs (strB_ok (G.tB hA).1) (doS_own G ht) hc ?_
    simp only [So_cs, So_nl, So_then, So_ite, So_nx2, So_ret, So_bk, So_ct, evS, evE, evEs, evT, evTa, evTo, evAn, evOr, evAs, evP, evI, Ok_bind, Ok_ok2, Ok_bad, Ok_some, Ok_bs, Ok_ite, asgT, asgR, asgT.asgTs, setAll, wipeT, biF, meF, binF, cmpF, bl?, List.getElem?_cons_zero, List.getElem?_cons_succ, List.set_cons_zero, List.set_cons_succ, List.map_cons, List.map_nil, List.replicate_succ, List.replicate_zero, List.cons_append, List.nil_append, Nat.sub_self, Nat.reduceSub, Nat.reduceAdd, items_st, tap_ix, e_neS p1 (strB_ok (G.tB hA).2.2.2)]
    have eb : (Pv.behind s t).m = t.b := rfl
    simp only [eb, e_neS (strB_ok (G.tB hA).2.2.2) (strB_ok (G.tB hA).2.2.2), decide_true, Bool.not_true, trub, Bool.false_eq_true, if_false, So_cs, So_nl, So_then, So_ite, So_nx2, So_ret, So_bk, So_ct, evS, evE, evEs, evT, evTa, evTo, evAn, evOr, evAs, evP, evI, Ok_bind, Ok_ok2, Ok_bad, Ok_some, Ok_bs, Ok_ite, asgT, asgR, asgT.asgTs, setAll, wipeT, biF, meF, binF, cmpF, bl?, List.getElem?_cons_zero, List.getElem?_cons_succ, List.set_cons_zero, List.set_cons_succ, List.map_cons, List.map_nil, List.replicate_succ, List.replicate_zero, List.cons_append, List.nil_append, Nat.sub_self, Nat.reduceSub, Nat.reduceAdd, mkT2]
    rw [show (PyData.tuple [PyData.str t.b, encS (Pv.behind s t).k]) = encSt (Pv.behind s t) from rfl]
    refine stErrOk_ok (iO := 0) rfl rfl G o1 hc ?_
    have ek : (Pv.behind s t).k = behindK s.k t.a := rfl
    have hback : ∀ x ∈ [("back" : Str)], PyData.strOk x = true := fun x hx => by rw [List.mem_singleton] at hx; rw [hx]; exact lb
    have bk1 : ∀ (S : Sto) (a : List Str), (∀ x ∈ a, PyData.strOk x = true) → fEq S (.p (encS a)) (.p (.tuple [.str "back"])) = some (.p (.bool (decide (a = [("back" : Str)]))), S) := fun S a h => e_eqL h hback
    have bk2 : ∀ (S : Sto) (a : List Str), (∀ x ∈ a, PyData.strOk x = true) → fNe S (.p (encS a)) (.p (.tuple [.str "back"])) = some (.p (.bool (!decide (a = [("back" : Str)]))), S) := fun S a h => e_neL h hback
    have two : ∀ h y : Str, decide ([h, y] = [("back" : Str)]) = false := fun h y => decide_eq_false (by simp)
    rcases behindK_cases G hA s.k with ⟨y, hy, ⟨e, e1⟩ | ⟨e, e1⟩ | ⟨e, e1⟩⟩ | ⟨e, e1⟩
    · have hys : PyData.strOk y = true := strB_ok (List.all_eq_true.mp G.ssB y hy)
      have ha : ∀ x ∈ [("open" : Str), y], PyData.strOk x = true := fun x hx => by
        simp only [List.mem_cons, List.not_mem_nil, or_false] at hx
        rcases hx with rfl | rfl
        · exact lo
        · exact hys
      have ed : (s.k ++ [y]).dropLast = s.k := by simp
      have ek' := ek.trans e1
      simp only [ek', e, So_cs, So_nl, So_then, So_ite, So_nx2, So_ret, So_bk, So_ct, evS, evE, evEs, evT, evTa, evTo, evAn, evOr, evAs, evP, evI, Ok_bind, Ok_ok2, Ok_bad, Ok_some, Ok_bs, Ok_ite, asgT, asgR, asgT.asgTs, setAll, wipeT, biF, meF, binF, cmpF, bl?, List.getElem?_cons_zero, List.getElem?_cons_succ, List.set_cons_zero, List.set_cons_succ, List.map_cons, List.map_nil, List.replicate_succ, List.replicate_zero, List.cons_append, List.nil_append, Nat.sub_self, Nat.reduceSub, Nat.reduceAdd, e_isNot, isNone, Bool.not_true, trub, Bool.false_eq_true, if_false, b20_6, b20_5, b20_4, b20_3, b20_2, mkT1, st_ix, tap_ix, bk1 _ _ ha, bk2 _ _ ha, two, tup2, Bool.not_false, if_true, ixLast, e_neS hys hys, decide_true, e_eqS lo lo, e_eqS lo lp, e_eqS lo lt, decide_eq_false n7, decide_eq_false n4, e_cutLast, ed, e_neL h2 h2]
      exact ⟨trivial, _, _, _, rfl⟩
    · have hys : PyData.strOk y = true := strB_ok (List.all_eq_true.mp G.ssB y hy)
      have ha : ∀ x ∈ [("put" : Str), y], PyData.strOk x = true := fun x hx => by
        simp only [List.mem_cons, List.not_mem_nil, or_false] at hx
        rcases hx with rfl | rfl
        · exact lp
        · exact hys
      have ed : (s.k.dropLast ++ [y]).dropLast = s.k.dropLast := by simp
      have ek' := ek.trans e1
      simp only [ek', e, So_cs, So_nl, So_then, So_ite, So_nx2, So_ret, So_bk, So_ct, evS, evE, evEs, evT, evTa, evTo, evAn, evOr, evAs, evP, evI, Ok_bind, Ok_ok2, Ok_bad, Ok_some, Ok_bs, Ok_ite, asgT, asgR, asgT.asgTs, setAll, wipeT, biF, meF, binF, cmpF, bl?, List.getElem?_cons_zero, List.getElem?_cons_succ, List.set_cons_zero, List.set_cons_succ, List.map_cons, List.map_nil, List.replicate_succ, List.replicate_zero, List.cons_append, List.nil_append, Nat.sub_self, Nat.reduceSub, Nat.reduceAdd, e_isNot, isNone, Bool.not_true, trub, Bool.false_eq_true, if_false, b20_6, b20_5, b20_4, b20_3, b20_2, mkT1, st_ix, tap_ix, bk1 _ _ ha, bk2 _ _ ha, two, tup2, Bool.not_false, if_true, ixLast, e_neS hys hys, decide_true, e_eqS lp lo, e_eqS lp lp, e_eqS lp lt, decide_eq_false n10, decide_eq_false n5, e_cutLast, ed, e_neL hn0 hn0]
      exact ⟨trivial, _, _, _, rfl⟩
    · have hys : PyData.strOk y = true := strB_ok (List.all_eq_true.mp G.ssB y hy)
      have ha : ∀ x ∈ [("to" : Str), y], PyData.strOk x = true := fun x hx => by
        simp only [List.mem_cons, List.not_mem_nil, or_false] at hx
        rcases hx with rfl | rfl
        · exact lt
        · exact hys
      obtain ⟨l', el⟩ := dnS_last (l := s.k.dropLast) (x := y) s.k.dropLast.length
      have hpre := dnS_pre (l := s.k.dropLast) (x := y) s.k.dropLast.length
      have ed : downTo s.k.dropLast y = l' ++ [y] := el
      rw [el] at hpre
      have hpo : ∀ x ∈ l' ++ [y], PyData.strOk x = true := fun x hx => p2 x (by rw [ek, e1, ed]; exact hx)
      have hcut : ∀ S : Sto, fSl none (some (((l' ++ [y]).length : Nat) : Int)) S (.p (encS s.k)) = some (.p (encS (s.k.take (l' ++ [y]).length)), S) := fun S => by
        show some (W.p (.tuple (cutL (s.k.map PyData.str) none (some (((l' ++ [y]).length : Nat) : Int)))), S) = _
        rw [cut_to, ← List.map_take]
        rfl
      have hto : ∀ x ∈ s.k.take (l' ++ [y]).length, PyData.strOk x = true := fun x hx => h2 x (List.mem_of_mem_take hx)
      have ek' : (Pv.behind s t).k = l' ++ [y] := e1.trans ed
      simp only [ek', e, So_cs, So_nl, So_then, So_ite, So_nx2, So_ret, So_bk, So_ct, evS, evE, evEs, evT, evTa, evTo, evAn, evOr, evAs, evP, evI, Ok_bind, Ok_ok2, Ok_bad, Ok_some, Ok_bs, Ok_ite, asgT, asgR, asgT.asgTs, setAll, wipeT, biF, meF, binF, cmpF, bl?, List.getElem?_cons_zero, List.getElem?_cons_succ, List.set_cons_zero, List.set_cons_succ, List.map_cons, List.map_nil, List.replicate_succ, List.replicate_zero, List.cons_append, List.nil_append, Nat.sub_self, Nat.reduceSub, Nat.reduceAdd, e_isNot, isNone, Bool.not_true, trub, Bool.false_eq_true, if_false, b20_6, b20_5, b20_4, b20_3, b20_2, mkT1, st_ix, tap_ix, bk1 _ _ ha, bk2 _ _ ha, two, tup2, Bool.not_false, if_true, ixLast, e_neS hys hys, decide_true, e_eqS lt lo, e_eqS lt lp, e_eqS lt lt, decide_eq_false n11, decide_eq_false n8, e_lenS', hcut, e_neL hpo hto]
      by_cases hq : l' ++ [y] = s.k.take (l' ++ [y]).length
      · rw [decide_eq_true hq]
        simp only [Bool.not_true, Bool.false_eq_true, if_false, So_cs, So_nl, So_then, So_ite, So_nx2, So_ret, So_bk, So_ct, evS, evE, evEs, evT, evTa, evTo, evAn, evOr, evAs, evP, evI, Ok_bind, Ok_ok2, Ok_bad, Ok_some, Ok_bs, Ok_ite, asgT, asgR, asgT.asgTs, setAll, wipeT, biF, meF, binF, cmpF, bl?, List.getElem?_cons_zero, List.getElem?_cons_succ, List.set_cons_zero, List.set_cons_succ, List.map_cons, List.map_nil, List.replicate_succ, List.replicate_zero, List.cons_append, List.nil_append, Nat.sub_self, Nat.reduceSub, Nat.reduceAdd]
        exact ⟨trivial, _, _, _, rfl⟩
      · rw [decide_eq_false hq]
        have hlen : (l' ++ [y]).length ≤ 1 := by
          rcases hpre with h | h
          · exact h
          · exfalso
            apply hq
            rw [List.dropLast_eq_take, List.take_take] at h
            have hle : (l' ++ [y]).length ≤ s.k.length - 1 := by
              have := congrArg List.length h
              rw [List.length_take] at this
              omega
            rw [Nat.min_eq_left hle] at h
            exact h
        simp only [Bool.not_false, if_true, So_cs, So_nl, So_then, So_ite, So_nx2, So_ret, So_bk, So_ct, evS, evE, evEs, evT, evTa, evTo, evAn, evOr, evAs, evP, evI, Ok_bind, Ok_ok2, Ok_bad, Ok_some, Ok_bs, Ok_ite, asgT, asgR, asgT.asgTs, setAll, wipeT, biF, meF, binF, cmpF, bl?, List.getElem?_cons_zero, List.getElem?_cons_succ, List.set_cons_zero, List.set_cons_succ, List.map_cons, List.map_nil, List.replicate_succ, List.replicate_zero, List.cons_append, List.nil_append, Nat.sub_self, Nat.reduceSub, Nat.reduceAdd]
        rw [gt_neg _ _ (by omega), Ok_some]
        simp only [trub, Bool.false_eq_true, if_false, So_cs, So_nl, So_then, So_ite, So_nx2, So_ret, So_bk, So_ct, evS, evE, evEs, evT, evTa, evTo, evAn, evOr, evAs, evP, evI, Ok_bind, Ok_ok2, Ok_bad, Ok_some, Ok_bs, Ok_ite, asgT, asgR, asgT.asgTs, setAll, wipeT, biF, meF, binF, cmpF, bl?, List.getElem?_cons_zero, List.getElem?_cons_succ, List.set_cons_zero, List.set_cons_succ, List.map_cons, List.map_nil, List.replicate_succ, List.replicate_zero, List.cons_append, List.nil_append, Nat.sub_self, Nat.reduceSub, Nat.reduceAdd]
        exact ⟨trivial, _, _, _, rfl⟩
    · have edd : decide ([("back" : Str)] = [("back" : Str)]) = true := decide_eq_true rfl
      have ek' := ek.trans e1
      simp only [ek', e, So_cs, So_nl, So_then, So_ite, So_nx2, So_ret, So_bk, So_ct, evS, evE, evEs, evT, evTa, evTo, evAn, evOr, evAs, evP, evI, Ok_bind, Ok_ok2, Ok_bad, Ok_some, Ok_bs, Ok_ite, asgT, asgR, asgT.asgTs, setAll, wipeT, biF, meF, binF, cmpF, bl?, List.getElem?_cons_zero, List.getElem?_cons_succ, List.set_cons_zero, List.set_cons_succ, List.map_cons, List.map_nil, List.replicate_succ, List.replicate_zero, List.cons_append, List.nil_append, Nat.sub_self, Nat.reduceSub, Nat.reduceAdd, e_isNot, isNone, Bool.not_true, trub, Bool.false_eq_true, if_false, b20_6, b20_5, b20_4, b20_3, b20_2, mkT1, st_ix, tap_ix, bk1 _ _ hback, bk2 _ _ hback, edd, tup1, Bool.not_false, if_true, decide_true, e_eqS lb lo, e_eqS lb lp, e_eqS lb lt, decide_eq_false n12, decide_eq_false n9, decide_eq_false n6, e_cutLast, e_neL hn0 hn0]
      exact ⟨trivial, _, _, _, rfl⟩
  · rintro τ S' ⟨rfl, x, y, z, rfl⟩
    simp only [b20_1, So_cs, So_nl, So_then, So_ite, So_nx2, So_ret, So_bk, So_ct, evS, evE, evEs, evT, evTa, evTo, evAn, evOr, evAs, evP, evI, Ok_bind, Ok_ok2, Ok_bad, Ok_some, Ok_bs, Ok_ite, asgT, asgR, asgT.asgTs, setAll, wipeT, biF, meF, binF, cmpF, bl?, List.getElem?_cons_zero, List.getElem?_cons_succ, List.set_cons_zero, List.set_cons_succ, List.map_cons, List.map_nil, List.replicate_succ, List.replicate_zero, List.cons_append, List.nil_append, Nat.sub_self, Nat.reduceSub, Nat.reduceAdd]
    exact Ok_end0 hc rfl rfl q
end
theorem evI_intW {call : Nat → List W → Sto → R W} {e : Ex} {τ : Tau} {S S' : Sto} {z : Int} {w : W} (he : evE call e τ S = .ok w S') (hw : w = .p (.int z)) (hb : z < 2 ^ 62 ∧ -(2 ^ 62) ≤ z) : evI call (.iRng e) τ S = .ok (rng 0 z.toNat) S' := evI_int (by rw [he, hw]) hb
section
variable {k : Nat} {A : AppD} {u : StD} {s : Spg} {R : Sto} {Q : W → Sto → Prop} {E : Xc → Sto → Prop}
theorem heldRow_ok (G : GoodA A) (hu : OkSt A u) (hl : u.k.length ≤ 1000) {many : Nat} (hm : many ≤ 1000) (hc : CloR R) (q : ∀ ns v s', ns.length ≤ many → HR A u ns v → Q (.p (.tuple [encS ns, encSt v])) (Spr s' R)) :
    Ok (callN fds (k + 5) 19 [.r 1, .p (encA A), .p (encSt u), .p (.int many)] (Spr s R)) Q E := by
  generalize hw : W.p (PyData.int (many : Int)) = wm
  refine Ok_call (fd := f19) rfl rfl ?_
  have c17 : ∀ (v : StD) (S : Sto) (Q : W → Sto → Prop) (E : Xc → Sto → Prop), OkSt A v → Clo S → Q (.p (.list ((tapsIn A v).map encT))) S → Ok (callN fds (k + 4) 17 [.p (encA A), .p (encSt v)] S) Q E := fun v S Q E h1 h2 q => acts_ok G h1 h2 q
  have c18 : ∀ (v : StD) (t : TapD) (S : Sto) (Q : W → Sto → Prop) (E : Xc → Sto → Prop), OkSt A v → t ∈ A.ts → Clo S → Q (.p (.bool (held v t))) S → Ok (callN fds (k + 4) 18 [.p (encSt v), .p (encT t)] S) Q E := fun v t S Q E h1 h2 h3 q => held_ok G h1 h2 h3 q
  have c13 : ∀ (ds : List PyData) (s : Spg) (R : Sto) (Q : W → Sto → Prop) (E : Xc → Sto → Prop), ds ≠ [] → ds.length ≤ 1000 → CloR R → (∀ d s', d ∈ ds → Q (.p d) (Spr s' R)) → Ok (callN fds (k + 4) 13 [.r 1, .p (.list ds)] (Spr s R)) Q E := fun ds s R Q E h0 h1 h2 q => pick_ok (iD := 12) rfl rfl (.inl rfl) h0 h1 h2 q
  have c9 : ∀ (v w : StD) (n : Str) (S : Sto) (Q : W → Sto → Prop) (E : Xc → Sto → Prop), OkSt A v → PyData.strOk n = true → doS A v n = some w → Clo S → Q (.p (encSt w)) S → Ok (callN fds (k + 4) 9 [.p (encA A), .p (encSt v), .p (.str n)] S) Q E :=
    fun v w n S Q E h1 h2 h3 h4 q => doTap_ok (iN := 1) (iO := 4) (iB := 6) (iD := 5) (i1 := 0) (iE := 2) (iR := 3) (iT := 8) rfl rfl rfl rfl rfl rfl rfl rfl rfl G h1 h2 h3 h4 q
  generalize callN fds (k + 4) = call at c17 c18 c13 c9 ⊢
  simp only [f19, b19, So_cs, So_nl, So_then, So_ite, So_nx2, So_ret, So_bk, So_ct, evS, evE, evEs, evT, evTa, evTo, evAn, evOr, evAs, evP, Ok_bind, Ok_ok2, Ok_bad, Ok_some, Ok_bs, Ok_ite, asgT, asgR, asgT.asgTs, setAll, wipeT, biF, meF, binF, cmpF, bl?, List.getElem?_cons_zero, List.getElem?_cons_succ, List.set_cons_zero, List.set_cons_succ, List.map_cons, List.map_nil, List.replicate_succ, List.replicate_zero, List.cons_append, List.nil_append, Nat.sub_self, Nat.reduceSub, Nat.reduceAdd, spr_push0]
  rw [evI_intW (z := (many : Int)) rfl hw.symm (rngB (by omega)), Ok_ok]
  simp only [So_cs, So_nl, So_then, So_ite, So_nx2, So_ret, So_bk, So_ct, evS, evE, evEs, evT, evTa, evTo, evAn, evOr, evAs, evP, Ok_bind, Ok_ok2, Ok_bad, Ok_some, Ok_bs, Ok_ite, asgT, asgR, asgT.asgTs, setAll, wipeT, biF, meF, binF, cmpF, bl?, List.getElem?_cons_zero, List.getElem?_cons_succ, List.set_cons_zero, List.set_cons_succ, List.map_cons, List.map_nil, List.replicate_succ, List.replicate_zero, List.cons_append, List.nil_append, Nat.sub_self, Nat.reduceSub, Nat.reduceAdd, Int.toNat_natCast]
  have hcR : ∀ ns : List Str, CloR (R ++ [.l ((ns.map PyData.str).map W.p)]) := fun ns => hc.snoc
  refine So_for (I := fun pre τ S => ∃ (s1 : Spg) (ns : List Str) (v : StD) (x5 x6 x7 : Option W), HR A u ns v ∧ ns.length ≤ pre.length ∧ τ = [some (.r 1), some (.p (encA A)), some (.p (encSt v)), some wm, some (.r (R.length + 2)), x5, x6, x7] ∧ S = Spr s1 (R ++ [.l ((ns.map PyData.str).map W.p)])) ⟨s, [], u, _, _, _, ⟨hu, Nat.le_refl _, (fun n hn => nomatch hn), rfl, id, fun b h => rfl⟩, Nat.le_refl _, rfl, rfl⟩ ?_ ?_
  · rintro pre r post τ S e ⟨s1, ns, v, x5, x6, x7, H, hn, rfl, rfl⟩
    obtain ⟨hp, rfl⟩ := rng_at e
    simp only [b19_2, So_cs, So_nl, So_then, So_ite, So_nx2, So_ret, So_bk, So_ct, evS, evE, evEs, evT, evTa, evTo, evAn, evOr, evAs, evP, evI, Ok_bind, Ok_ok2, Ok_bad, Ok_some, Ok_bs, Ok_ite, asgT, asgR, asgT.asgTs, setAll, wipeT, biF, meF, binF, cmpF, bl?, List.getElem?_cons_zero, List.getElem?_cons_succ, List.set_cons_zero, List.set_cons_succ, List.map_cons, List.map_nil, List.replicate_succ, List.replicate_zero, List.cons_append, List.nil_append, Nat.sub_self, Nat.reduceSub, Nat.reduceAdd]
    have hcl := clo_spr (s := s1) (hcR ns)
    refine c17 _ _ _ _ H.ok hcl ?_
    simp only [So_cs, So_nl, So_then, So_ite, So_nx2, So_ret, So_bk, So_ct, evS, evE, evEs, evT, evTa, evTo, evAn, evOr, evAs, evP, evI, Ok_bind, Ok_ok2, Ok_bad, Ok_some, Ok_bs, Ok_ite, asgT, asgR, asgT.asgTs, setAll, wipeT, biF, meF, binF, cmpF, bl?, List.getElem?_cons_zero, List.getElem?_cons_succ, List.set_cons_zero, List.set_cons_succ, List.map_cons, List.map_nil, List.replicate_succ, List.replicate_zero, List.cons_append, List.nil_append, Nat.sub_self, Nat.reduceSub, Nat.reduceAdd, itemsL, stillp, if_true, rowsT]
    refine Ok_lcM (fun t => if held v t then some (W.p (encT t)) else none) (fun t ht => ?_) ?_
    · simp only [So_cs, So_nl, So_then, So_ite, So_nx2, So_ret, So_bk, So_ct, evS, evE, evEs, evT, evTa, evTo, evAn, evOr, evAs, evP, evI, Ok_bind, Ok_ok2, Ok_bad, Ok_some, Ok_bs, Ok_ite, asgT, asgR, asgT.asgTs, setAll, wipeT, biF, meF, binF, cmpF, bl?, List.getElem?_cons_zero, List.getElem?_cons_succ, List.set_cons_zero, List.set_cons_succ, List.map_cons, List.map_nil, List.replicate_succ, List.replicate_zero, List.cons_append, List.nil_append, Nat.sub_self, Nat.reduceSub, Nat.reduceAdd]
      refine c18 _ _ _ _ _ H.ok (tapsIn_sub ht).1 hcl ?_
      simp only [So_cs, So_nl, So_then, So_ite, So_nx2, So_ret, So_bk, So_ct, evS, evE, evEs, evT, evTa, evTo, evAn, evOr, evAs, evP, evI, Ok_bind, Ok_ok2, Ok_bad, Ok_some, Ok_bs, Ok_ite, asgT, asgR, asgT.asgTs, setAll, wipeT, biF, meF, binF, cmpF, bl?, List.getElem?_cons_zero, List.getElem?_cons_succ, List.set_cons_zero, List.set_cons_succ, List.map_cons, List.map_nil, List.replicate_succ, List.replicate_zero, List.cons_append, List.nil_append, Nat.sub_self, Nat.reduceSub, Nat.reduceAdd, trub]
      cases held v t <;> simp
    have hlT : ((tapsIn A v).filter (held v)).length ≤ 24 := by
      refine Nat.le_trans (List.length_filter_le _ _) ?_
      unfold tapsIn
      split
      · exact Nat.le_trans (List.length_filter_le _ _) G.len
      · exact Nat.zero_le _
    rw [fm_filter, mkL _ (by simp only [List.length_map]; unfold lim; omega)]
    have eNe : ∀ S : Sto, fNe S (.p (.list (((tapsIn A v).filter (held v)).map encT))) (.p (.list [])) = some (.p (.bool (!((tapsIn A v).filter (held v)).isEmpty)), S) := fun S => by
      have hs : shapedB (.list (((tapsIn A v).filter (held v)).map encT)) = true := by
        refine sh_list fun d hd => ?_
        obtain ⟨t, ht, rfl⟩ := List.mem_map.mp hd
        exact ⟨shT G (tapsIn_sub (List.mem_filter.mp ht).1).1, by rw [depth_T]; decide⟩
      rw [e_neD rfl rfl hs rfl]
      cases (tapsIn A v).filter (held v) <;> rfl
    simp only [So_cs, So_nl, So_then, So_ite, So_nx2, So_ret, So_bk, So_ct, evS, evE, evEs, evT, evTa, evTo, evAn, evOr, evAs, evP, evI, Ok_bind, Ok_ok2, Ok_bad, Ok_some, Ok_bs, Ok_ite, asgT, asgR, asgT.asgTs, setAll, wipeT, biF, meF, binF, cmpF, bl?, List.getElem?_cons_zero, List.getElem?_cons_succ, List.set_cons_zero, List.set_cons_succ, List.map_cons, List.map_nil, List.replicate_succ, List.replicate_zero, List.cons_append, List.nil_append, Nat.sub_self, Nat.reduceSub, Nat.reduceAdd, mkL0, eNe, trub]
    cases hf : (tapsIn A v).filter (held v) with
    | nil =>
      simp only [List.isEmpty_nil, Bool.not_true, Bool.false_eq_true, if_false, So_cs, So_nl, So_then, So_ite, So_nx2, So_ret, So_bk, So_ct, evS, evE, evEs, evT, evTa, evTo, evAn, evOr, evAs, evP, evI, Ok_bind, Ok_ok2, Ok_bad, Ok_some, Ok_bs, Ok_ite, asgT, asgR, asgT.asgTs, setAll, wipeT, biF, meF, binF, cmpF, bl?, List.getElem?_cons_zero, List.getElem?_cons_succ, List.set_cons_zero, List.set_cons_succ, List.map_cons, List.map_nil, List.replicate_succ, List.replicate_zero, List.cons_append, List.nil_append, Nat.sub_self, Nat.reduceSub, Nat.reduceAdd]
      exact ⟨s1, ns, v, _, _, _, H, by simp; omega, rfl, rfl⟩
    | cons t0 r0 =>
      simp only [List.isEmpty_cons, Bool.not_false, if_true, So_cs, So_nl, So_then, So_ite, So_nx2, So_ret, So_bk, So_ct, evS, evE, evEs, evT, evTa, evTo, evAn, evOr, evAs, evP, evI, Ok_bind, Ok_ok2, Ok_bad, Ok_some, Ok_bs, Ok_ite, asgT, asgR, asgT.asgTs, setAll, wipeT, biF, meF, binF, cmpF, bl?, List.getElem?_cons_zero, List.getElem?_cons_succ, List.set_cons_zero, List.set_cons_succ, List.map_cons, List.map_nil, List.replicate_succ, List.replicate_zero, List.cons_append, List.nil_append, Nat.sub_self, Nat.reduceSub, Nat.reduceAdd]
      rw [hf] at hlT
      refine c13 ((t0 :: r0).map encT) _ _ _ _ (by simp) (by rw [List.length_map]; omega) (hcR ns) fun d s2 hd => ?_
      obtain ⟨t, ht, rfl⟩ := List.mem_map.mp hd
      rw [← hf] at ht
      obtain ⟨t1, t2⟩ := List.mem_filter.mp ht
      have hA := (tapsIn_sub t1).1
      have hso := strB_ok (G.tB hA).1
      have hlen := H.len
      simp only [So_cs, So_nl, So_then, So_ite, So_nx2, So_ret, So_bk, So_ct, evS, evE, evEs, evT, evTa, evTo, evAn, evOr, evAs, evP, evI, Ok_bind, Ok_ok2, Ok_bad, Ok_some, Ok_bs, Ok_ite, asgT, asgR, asgT.asgTs, setAll, wipeT, biF, meF, binF, cmpF, bl?, List.getElem?_cons_zero, List.getElem?_cons_succ, List.set_cons_zero, List.set_cons_succ, List.map_cons, List.map_nil, List.replicate_succ, List.replicate_zero, List.cons_append, List.nil_append, Nat.sub_self, Nat.reduceSub, Nat.reduceAdd, tap_ix]
      have hH := H.step G t1 t2 (by omega)
      rw [if_pos spr_me, spr_app (by simp only [List.length_map]; unfold lim; omega)]
      simp only [So_cs, So_nl, So_then, So_ite, So_nx2, So_ret, So_bk, So_ct, evS, evE, evEs, evT, evTa, evTo, evAn, evOr, evAs, evP, evI, Ok_bind, Ok_ok2, Ok_bad, Ok_some, Ok_bs, Ok_ite, asgT, asgR, asgT.asgTs, setAll, wipeT, biF, meF, binF, cmpF, bl?, List.getElem?_cons_zero, List.getElem?_cons_succ, List.set_cons_zero, List.set_cons_succ, List.map_cons, List.map_nil, List.replicate_succ, List.replicate_zero, List.cons_append, List.nil_append, Nat.sub_self, Nat.reduceSub, Nat.reduceAdd, tap_ix]
      have eL : (ns.map PyData.str).map W.p ++ [W.p (.str t.n)] = ((ns ++ [t.n]).map PyData.str).map W.p := by simp
      rw [eL]
      refine c9 _ _ _ _ _ _ H.ok hso (doS_own G t1) (clo_spr (hcR _)) ?_
      try simp only [So_cs, So_nl, So_then, So_ite, So_nx2, So_ret, So_bk, So_ct, evS, evE, evEs, evT, evTa, evTo, evAn, evOr, evAs, evP, evI, Ok_bind, Ok_ok2, Ok_bad, Ok_some, Ok_bs, Ok_ite, asgT, asgR, asgT.asgTs, setAll, wipeT, biF, meF, binF, cmpF, bl?, List.getElem?_cons_zero, List.getElem?_cons_succ, List.set_cons_zero, List.set_cons_succ, List.map_cons, List.map_nil, List.replicate_succ, List.replicate_zero, List.cons_append, List.nil_append, Nat.sub_self, Nat.reduceSub, Nat.reduceAdd]
      exact ⟨s2, ns ++ [t.n], _, _, _, _, hH, by simp; omega, rfl, rfl⟩
  · rintro τ S ⟨s1, ns, v, x5, x6, x7, H, hn, rfl, rfl⟩
    have hn' : ns.length ≤ many := by simpa [rng] using hn
    have eT : fTuple (Spr s1 (R ++ [.l ((ns.map PyData.str).map W.p)])) [.r (R.length + 2)] = some (.p (encS ns), Spr s1 (R ++ [.l ((ns.map PyData.str).map W.p)])) := by
      unfold fTuple
      dsimp only
      rw [spr_seq]
      rfl
    simp only [b19_1, So_cs, So_nl, So_then, So_ite, So_nx2, So_ret, So_bk, So_ct, evS, evE, evEs, evT, evTa, evTo, evAn, evOr, evAs, evP, evI, Ok_bind, Ok_ok2, Ok_bad, Ok_some, Ok_bs, Ok_ite, asgT, asgR, asgT.asgTs, setAll, wipeT, biF, meF, binF, cmpF, bl?, List.getElem?_cons_zero, List.getElem?_cons_succ, List.set_cons_zero, List.set_cons_succ, List.map_cons, List.map_nil, List.replicate_succ, List.replicate_zero, List.cons_append, List.nil_append, Nat.sub_self, Nat.reduceSub, Nat.reduceAdd, eT, mkT2]
    exact Ok_endS hc (q ns v _ hn' H)
end
theorem law_true (ns : List Int) (hl : ns.length ≤ 63) (hb : ∀ z ∈ ns, Builtin.Int.intBits z ≤ 1048576) : ∃ S', callN fds 12 21 [.s ns] [] = .ok (.p (.bool true)) S' := by
  refine ok_ex (Ok_call (fd := f21) rfl rfl ?_)
  have c11 : ∀ (Q : W → Sto → Prop) (E : Xc → Sto → Prop), (∀ s, Q (.r 1) (Spr s [])) → Ok (callN fds 11 11 [.s ns] []) Q E := fun Q E q => spring_ok rfl hl q
  have c12 : ∀ (s : Spg) (many : Int) (Q : W → Sto → Prop) (E : Xc → Sto → Prop), 0 < many → many < 2 ^ 64 → (∀ (z : Nat) s', (z : Int) < many → Q (.p (.int z)) (Spr s' [])) → Ok (callN fds 11 12 [.r 1, .p (.int many)] (Spr s [])) Q E := fun s many Q E h1 h2 q => drop_ok rfl h1 h2 CloR.nil q
  have c15 : ∀ (s : Spg) (most : Int) (Q : W → Sto → Prop) (E : Xc → Sto → Prop), 0 < most → most < 2 ^ 64 → (∀ A s', GoodA A → Q (.p (encA A)) (Spr s' [])) → Ok (callN fds 11 15 [.r 1, .p (.int most)] (Spr s [])) Q E := fun s most Q E h1 h2 q => app_ok (iA := 14) rfl rfl rfl rfl h1 h2 CloR.nil q
  have c16 : ∀ (A : AppD) (s : Spg) (most : Nat) (Q : W → Sto → Prop) (E : Xc → Sto → Prop), GoodA A → 0 < most → most ≤ 1000 → (∀ u s', OkSt A u → u.k.length < most → Q (.p (encSt u)) (Spr s' [])) → Ok (callN fds 11 16 [.r 1, .p (encA A), .p (.int most)] (Spr s [])) Q E := fun A s most Q E G h1 h2 q => deep_ok (iD := 12) (iP := 13) rfl rfl rfl G h1 h2 CloR.nil q
  have c20 : ∀ (A : AppD) (u : StD) (s : Spg) (Q : W → Sto → Prop) (E : Xc → Sto → Prop), GoodA A → OkSt A u → u.k.length + 1 ≤ 99999 → Q (.p (.bool true)) (Spr s []) → Ok (callN fds 11 20 [.p (encA A), .p (encSt u)] (Spr s [])) Q E := fun A u s Q E G h1 h2 q => tops_ok G h1 h2 (clo_spr CloR.nil) q
  have c19 : ∀ (A : AppD) (u : StD) (s : Spg) (many : Nat) (Q : W → Sto → Prop) (E : Xc → Sto → Prop), GoodA A → OkSt A u → u.k.length ≤ 1000 → many ≤ 1000 → (∀ ns v s', ns.length ≤ many → HR A u ns v → Q (.p (.tuple [encS ns, encSt v])) (Spr s' [])) → Ok (callN fds 11 19 [.r 1, .p (encA A), .p (encSt u), .p (.int many)] (Spr s [])) Q E := fun A u s many Q E G h1 h2 h3 q => heldRow_ok G h1 h2 h3 CloR.nil q
  have c10 : ∀ (A : AppD) (u v : StD) (rs : List Str) (s : Spg) (Q : W → Sto → Prop) (E : Xc → Sto → Prop), GoodA A → OkSt A u → (∀ n ∈ rs, PyData.strOk n = true) → u.k.length + rs.length ≤ 99999 → rowS A u rs = some v → Q (.p (encSt v)) (Spr s []) → Ok (callN fds 11 10 [.p (encA A), .p (encSt u), .p (encS rs)] (Spr s [])) Q E :=
    fun A u v rs s Q E G h1 h2 h3 h4 q => doRow_ok (iN := 1) (iO := 4) (iB := 6) (iD := 5) (i1 := 0) (iE := 2) (iR := 3) (iT := 8) rfl rfl rfl rfl rfl rfl rfl rfl rfl G h1 h2 h3 h4 (clo_spr CloR.nil) q
  generalize callN fds 11 = call at c11 c12 c15 c16 c20 c19 c10 ⊢
  simp only [f21, b21, So_cs, So_nl, So_then, So_ite, So_nx2, So_ret, So_bk, So_ct, evS, evE, evEs, evT, evTa, evTo, evAn, evOr, evAs, evP, evI, Ok_bind, Ok_ok2, Ok_bad, Ok_some, Ok_bs, Ok_ite, asgT, asgR, asgT.asgTs, setAll, wipeT, biF, meF, binF, cmpF, bl?, List.getElem?_cons_zero, List.getElem?_cons_succ, List.set_cons_zero, List.set_cons_succ, List.map_cons, List.map_nil, List.replicate_succ, List.replicate_zero, List.cons_append, List.nil_append, Nat.sub_self, Nat.reduceSub, Nat.reduceAdd]
  refine c11 _ _ fun s => ?_
  rw [if_pos (by decide)]
  refine So_forP (I := fun τ S => ∃ (s : Spg) (x2 x3 x4 x5 x6 x7 x8 x9 x10 x11 : Option W), τ = [some (.s ns), some (.r 1), x2, x3, x4, x5, x6, x7, x8, x9, x10, x11] ∧ S = Spr s []) ⟨s, _, _, _, _, _, _, _, _, _, _, rfl, rfl⟩ ?_ ?_
  · rintro r τ S hr ⟨s, x2, x3, x4, x5, x6, x7, x8, x9, x10, x11, rfl, rfl⟩
    obtain ⟨j, hj, rfl⟩ := List.mem_map.mp hr
    have hmo : ∃ most : Int, (0 < most ∧ most < 7) ∧ ∀ S : Sto, fIx S (.p (.list [.int 3, .int 5, .int 6])) (.p (.int ((0 + (j : Int)) % 3))) = some (.p (.int most), S) := by
      have h3 : (0 + (j : Int)) % 3 = ((j % 3 : Nat) : Int) := by omega
      rw [h3]
      have : j % 3 < 3 := Nat.mod_lt _ (by decide)
      generalize j % 3 = z at this
      match z, this with
      | 0, _ => exact ⟨3, ⟨by decide, by decide⟩, fun _ => rfl⟩
      | 1, _ => exact ⟨5, ⟨by decide, by decide⟩, fun _ => rfl⟩
      | 2, _ => exact ⟨6, ⟨by decide, by decide⟩, fun _ => rfl⟩
    obtain ⟨most, ⟨hm0, hm7⟩, hix⟩ := hmo
    simp only [b21_6, So_cs, So_nl, So_then, So_ite, So_nx2, So_ret, So_bk, So_ct, evS, evE, evEs, evT, evTa, evTo, evAn, evOr, evAs, evP, evI, Ok_bind, Ok_ok2, Ok_bad, Ok_some, Ok_bs, Ok_ite, asgT, asgR, asgT.asgTs, setAll, wipeT, biF, meF, binF, cmpF, bl?, List.getElem?_cons_zero, List.getElem?_cons_succ, List.set_cons_zero, List.set_cons_succ, List.map_cons, List.map_nil, List.replicate_succ, List.replicate_zero, List.cons_append, List.nil_append, Nat.sub_self, Nat.reduceSub, Nat.reduceAdd, mkL3, e_int, e_mod _ _ (show (0 : Int) < 3 by decide), hix]
    refine c15 _ _ _ _ hm0 (by omega) fun A s2 G => ?_
    simp only [So_cs, So_nl, So_then, So_ite, So_nx2, So_ret, So_bk, So_ct, evS, evE, evEs, evT, evTa, evTo, evAn, evOr, evAs, evP, evI, Ok_bind, Ok_ok2, Ok_bad, Ok_some, Ok_bs, Ok_ite, asgT, asgR, asgT.asgTs, setAll, wipeT, biF, meF, binF, cmpF, bl?, List.getElem?_cons_zero, List.getElem?_cons_succ, List.set_cons_zero, List.set_cons_succ, List.map_cons, List.map_nil, List.replicate_succ, List.replicate_zero, List.cons_append, List.nil_append, Nat.sub_self, Nat.reduceSub, Nat.reduceAdd, mkL4, itemsL, stillp, if_true, List.map_cons, List.map_nil]
    rw [show [Row.one (W.p (.int 2)), Row.one (W.p (.int 3)), Row.one (W.p (.int 6)), Row.one (W.p (.int 30))] = ([2, 3, 6, 30] : List Nat).map (fun (m : Nat) => Row.one (W.p (.int (m : Int)))) from rfl]
    refine So_forM (fun _ τ S => ∃ (s : Spg) (x4 x5 x6 x7 x8 x9 x10 x11 : Option W), τ = [some (.s ns), some (.r 1), some (.p (.int (0 + (j : Int)))), some (.p (encA A)), x4, x5, x6, x7, x8, x9, x10, x11] ∧ S = Spr s []) ⟨s2, _, _, _, _, _, _, _, _, rfl, rfl⟩ ?_ ?_
    · rintro pre m post τ S em ⟨s3, x4, x5, x6, x7, x8, x9, x10, x11, rfl, rfl⟩
      have hm : 0 < m ∧ m ≤ 30 := by
        have : m ∈ ([2, 3, 6, 30] : List Nat) := by rw [em]; simp
        simp only [List.mem_cons, List.not_mem_nil, or_false] at this
        omega
      simp only [b21_5, So_cs, So_nl, So_then, So_ite, So_nx2, So_ret, So_bk, So_ct, evS, evE, evEs, evT, evTa, evTo, evAn, evOr, evAs, evP, evI, Ok_bind, Ok_ok2, Ok_bad, Ok_some, Ok_bs, Ok_ite, asgT, asgR, asgT.asgTs, setAll, wipeT, biF, meF, binF, cmpF, bl?, List.getElem?_cons_zero, List.getElem?_cons_succ, List.set_cons_zero, List.set_cons_succ, List.map_cons, List.map_nil, List.replicate_succ, List.replicate_zero, List.cons_append, List.nil_append, Nat.sub_self, Nat.reduceSub, Nat.reduceAdd]
      refine c16 _ _ _ _ _ G hm.1 (by omega) fun u s4 hu hul => ?_
      try simp only [So_cs, So_nl, So_then, So_ite, So_nx2, So_ret, So_bk, So_ct, evS, evE, evEs, evT, evTa, evTo, evAn, evOr, evAs, evP, evI, Ok_bind, Ok_ok2, Ok_bad, Ok_some, Ok_bs, Ok_ite, asgT, asgR, asgT.asgTs, setAll, wipeT, biF, meF, binF, cmpF, bl?, List.getElem?_cons_zero, List.getElem?_cons_succ, List.set_cons_zero, List.set_cons_succ, List.map_cons, List.map_nil, List.replicate_succ, List.replicate_zero, List.cons_append, List.nil_append, Nat.sub_self, Nat.reduceSub, Nat.reduceAdd]
      refine c16 _ _ 20 _ _ G (by decide) (by decide) fun b s5 hb hbl => ?_
      obtain ⟨b1, b2⟩ := hb.ok G
      obtain ⟨u1, u2⟩ := hu.ok G
      simp only [So_cs, So_nl, So_then, So_ite, So_nx2, So_ret, So_bk, So_ct, evS, evE, evEs, evT, evTa, evTo, evAn, evOr, evAs, evP, evI, Ok_bind, Ok_ok2, Ok_bad, Ok_some, Ok_bs, Ok_ite, asgT, asgR, asgT.asgTs, setAll, wipeT, biF, meF, binF, cmpF, bl?, List.getElem?_cons_zero, List.getElem?_cons_succ, List.set_cons_zero, List.set_cons_succ, List.map_cons, List.map_nil, List.replicate_succ, List.replicate_zero, List.cons_append, List.nil_append, Nat.sub_self, Nat.reduceSub, Nat.reduceAdd, st_ix]
      refine c20 _ _ _ _ _ G hu (by omega) ?_
      simp only [So_cs, So_nl, So_then, So_ite, So_nx2, So_ret, So_bk, So_ct, evS, evE, evEs, evT, evTa, evTo, evAn, evOr, evAs, evP, evI, Ok_bind, Ok_ok2, Ok_bad, Ok_some, Ok_bs, Ok_ite, asgT, asgR, asgT.asgTs, setAll, wipeT, biF, meF, binF, cmpF, bl?, List.getElem?_cons_zero, List.getElem?_cons_succ, List.set_cons_zero, List.set_cons_succ, List.map_cons, List.map_nil, List.replicate_succ, List.replicate_zero, List.cons_append, List.nil_append, Nat.sub_self, Nat.reduceSub, Nat.reduceAdd, trub, Bool.not_true, Bool.false_eq_true, if_false, b21_4]
      refine c12 _ _ _ _ (by decide) (by decide) fun many s6 hmany => ?_
      try simp only [So_cs, So_nl, So_then, So_ite, So_nx2, So_ret, So_bk, So_ct, evS, evE, evEs, evT, evTa, evTo, evAn, evOr, evAs, evP, evI, Ok_bind, Ok_ok2, Ok_bad, Ok_some, Ok_bs, Ok_ite, asgT, asgR, asgT.asgTs, setAll, wipeT, biF, meF, binF, cmpF, bl?, List.getElem?_cons_zero, List.getElem?_cons_succ, List.set_cons_zero, List.set_cons_succ, List.map_cons, List.map_nil, List.replicate_succ, List.replicate_zero, List.cons_append, List.nil_append, Nat.sub_self, Nat.reduceSub, Nat.reduceAdd]
      refine c19 _ _ _ _ _ _ G hu (by omega) (by omega) fun rs v s7 hrs H => ?_
      have hH := H.len
      have eI : ∀ S : Sto, items S (.p (.tuple [encS rs, encSt v])) = some (true, [.p (encS rs), .p (encSt v)]) := fun _ => rfl
      simp only [So_cs, So_nl, So_then, So_ite, So_nx2, So_ret, So_bk, So_ct, evS, evE, evEs, evT, evTa, evTo, evAn, evOr, evAs, evP, evI, Ok_bind, Ok_ok2, Ok_bad, Ok_some, Ok_bs, Ok_ite, asgT, asgR, asgT.asgTs, setAll, wipeT, biF, meF, binF, cmpF, bl?, List.getElem?_cons_zero, List.getElem?_cons_succ, List.set_cons_zero, List.set_cons_succ, List.map_cons, List.map_nil, List.replicate_succ, List.replicate_zero, List.cons_append, List.nil_append, Nat.sub_self, Nat.reduceSub, Nat.reduceAdd, eI, e_lenS', e_add]
      refine c12 _ _ _ _ (by omega) (by omega) fun cut s8 hcut => ?_
      have eC1 : ∀ S : Sto, fSl none (some (cut : Int)) S (.p (encS rs)) = some (.p (encS (rs.take cut)), S) := fun S => by
        show some (W.p (.tuple (cutL (rs.map PyData.str) none (some (cut : Int)))), S) = _
        rw [cut_to, ← List.map_take]
        rfl
      have eC2 : ∀ S : Sto, fSl (some (cut : Int)) none S (.p (encS rs)) = some (.p (encS (rs.drop cut)), S) := fun S => by
        show some (W.p (.tuple (cutL (rs.map PyData.str) (some (cut : Int)) none)), S) = _
        rw [cut_from, ← List.map_drop]
        rfl
      have hrow := H.row
      rw [← List.take_append_drop cut rs, rowS_app] at hrow
      obtain ⟨w, hw1, hw2⟩ := Option.bind_eq_some_iff.mp hrow
      have hwok : OkSt A w ∧ w.k.length ≤ u.k.length + (rs.take cut).length := row_ok G hu (by rw [List.length_take]; omega) hw1
      have htl : (rs.take cut).length ≤ rs.length := by rw [List.length_take]; exact Nat.min_le_right _ _
      have hdl : (rs.drop cut).length ≤ rs.length := by rw [List.length_drop]; omega
      try simp only [So_cs, So_nl, So_then, So_ite, So_nx2, So_ret, So_bk, So_ct, evS, evE, evEs, evT, evTa, evTo, evAn, evOr, evAs, evP, evI, Ok_bind, Ok_ok2, Ok_bad, Ok_some, Ok_bs, Ok_ite, asgT, asgR, asgT.asgTs, setAll, wipeT, biF, meF, binF, cmpF, bl?, List.getElem?_cons_zero, List.getElem?_cons_succ, List.set_cons_zero, List.set_cons_succ, List.map_cons, List.map_nil, List.replicate_succ, List.replicate_zero, List.cons_append, List.nil_append, Nat.sub_self, Nat.reduceSub, Nat.reduceAdd, eC1, eC2]
      refine c10 _ _ _ _ _ _ _ G hu (fun n hn => H.so n (List.mem_of_mem_take hn)) (by omega) hw1 ?_
      try simp only [So_cs, So_nl, So_then, So_ite, So_nx2, So_ret, So_bk, So_ct, evS, evE, evEs, evT, evTa, evTo, evAn, evOr, evAs, evP, evI, Ok_bind, Ok_ok2, Ok_bad, Ok_some, Ok_bs, Ok_ite, asgT, asgR, asgT.asgTs, setAll, wipeT, biF, meF, binF, cmpF, bl?, List.getElem?_cons_zero, List.getElem?_cons_succ, List.set_cons_zero, List.set_cons_succ, List.map_cons, List.map_nil, List.replicate_succ, List.replicate_zero, List.cons_append, List.nil_append, Nat.sub_self, Nat.reduceSub, Nat.reduceAdd, eC1, eC2]
      refine c10 _ _ _ _ _ _ _ G hwok.1 (fun n hn => H.so n (List.mem_of_mem_drop hn)) (by omega) hw2 ?_
      try simp only [So_cs, So_nl, So_then, So_ite, So_nx2, So_ret, So_bk, So_ct, evS, evE, evEs, evT, evTa, evTo, evAn, evOr, evAs, evP, evI, Ok_bind, Ok_ok2, Ok_bad, Ok_some, Ok_bs, Ok_ite, asgT, asgR, asgT.asgTs, setAll, wipeT, biF, meF, binF, cmpF, bl?, List.getElem?_cons_zero, List.getElem?_cons_succ, List.set_cons_zero, List.set_cons_succ, List.map_cons, List.map_nil, List.replicate_succ, List.replicate_zero, List.cons_append, List.nil_append, Nat.sub_self, Nat.reduceSub, Nat.reduceAdd]
      refine c10 _ _ _ _ _ _ _ G hu H.so (by omega) H.row ?_
      simp only [So_cs, So_nl, So_then, So_ite, So_nx2, So_ret, So_bk, So_ct, evS, evE, evEs, evT, evTa, evTo, evAn, evOr, evAs, evP, evI, Ok_bind, Ok_ok2, Ok_bad, Ok_some, Ok_bs, Ok_ite, asgT, asgR, asgT.asgTs, setAll, wipeT, biF, meF, binF, cmpF, bl?, List.getElem?_cons_zero, List.getElem?_cons_succ, List.set_cons_zero, List.set_cons_succ, List.map_cons, List.map_nil, List.replicate_succ, List.replicate_zero, List.cons_append, List.nil_append, Nat.sub_self, Nat.reduceSub, Nat.reduceAdd, e_neSt G H.ok, trub, Bool.false_eq_true, if_false, b21_3, st_ix, mkT0, ne_nilS u2]
      cases hk : u.k.isEmpty with
      | true =>
        simp only [Bool.not_true, Bool.false_eq_true, if_false, So_cs, So_nl, So_then, So_ite, So_nx2, So_ret, So_bk, So_ct, evS, evE, evEs, evT, evTa, evTo, evAn, evOr, evAs, evP, evI, Ok_bind, Ok_ok2, Ok_bad, Ok_some, Ok_bs, Ok_ite, asgT, asgR, asgT.asgTs, setAll, wipeT, biF, meF, binF, cmpF, bl?, List.getElem?_cons_zero, List.getElem?_cons_succ, List.set_cons_zero, List.set_cons_succ, List.map_cons, List.map_nil, List.replicate_succ, List.replicate_zero, List.cons_append, List.nil_append, Nat.sub_self, Nat.reduceSub, Nat.reduceAdd, e_isNot, isNone, trub, b21_2]
        refine c20 _ _ _ _ _ G H.ok (by omega) ?_
        simp only [So_cs, So_nl, So_then, So_ite, So_nx2, So_ret, So_bk, So_ct, evS, evE, evEs, evT, evTa, evTo, evAn, evOr, evAs, evP, evI, Ok_bind, Ok_ok2, Ok_bad, Ok_some, Ok_bs, Ok_ite, asgT, asgR, asgT.asgTs, setAll, wipeT, biF, meF, binF, cmpF, bl?, List.getElem?_cons_zero, List.getElem?_cons_succ, List.set_cons_zero, List.set_cons_succ, List.map_cons, List.map_nil, List.replicate_succ, List.replicate_zero, List.cons_append, List.nil_append, Nat.sub_self, Nat.reduceSub, Nat.reduceAdd, trub, Bool.not_true, Bool.false_eq_true, if_false]
        exact ⟨s8, _, _, _, _, _, _, _, _, rfl, rfl⟩
      | false =>
        have hk0 : u.k ≠ [] := by intro h; rw [h] at hk; cases hk
        have eA : ∀ (S : Sto) (x : List Str), x.length ≤ 1000 → fAdd S (.p (encS b.k)) (.p (encS x)) = some (.p (encS (b.k ++ x)), S) := fun S x hx => by
          show fAdd S (.p (.tuple (b.k.map .str))) (.p (.tuple (x.map .str))) = _
          rw [e_addT _ _ (by simp only [List.length_map]; unfold lim; omega), ← List.map_append]
          rfl
        have hlow : OkSt A ⟨u.m, b.k ++ u.k⟩ := ⟨hu.m, fun x hx => by rcases List.mem_append.mp hx with hx | hx; exact hb.k x hx; exact hu.k x hx, by rw [List.length_append]; omega⟩
        have hlow2 : OkSt A ⟨v.m, b.k ++ v.k⟩ := ⟨H.ok.m, fun x hx => by rcases List.mem_append.mp hx with hx | hx; exact hb.k x hx; exact H.ok.k x hx, by rw [List.length_append]; omega⟩
        simp only [Bool.not_false, if_true, So_cs, So_nl, So_then, So_ite, So_nx2, So_ret, So_bk, So_ct, evS, evE, evEs, evT, evTa, evTo, evAn, evOr, evAs, evP, evI, Ok_bind, Ok_ok2, Ok_bad, Ok_some, Ok_bs, Ok_ite, asgT, asgR, asgT.asgTs, setAll, wipeT, biF, meF, binF, cmpF, bl?, List.getElem?_cons_zero, List.getElem?_cons_succ, List.set_cons_zero, List.set_cons_succ, List.map_cons, List.map_nil, List.replicate_succ, List.replicate_zero, List.cons_append, List.nil_append, Nat.sub_self, Nat.reduceSub, Nat.reduceAdd, st_ix, eA _ u.k (by omega), mkT2]
        rw [show (PyData.tuple [PyData.str u.m, encS (b.k ++ u.k)]) = encSt ⟨u.m, b.k ++ u.k⟩ from rfl]
        refine c10 _ _ _ _ _ _ _ G hlow H.so (by show (b.k ++ u.k).length + _ ≤ _; rw [List.length_append]; omega) (H.low b.k hk0) ?_
        have hno : isNone (encSt ⟨v.m, b.k ++ v.k⟩) = false := rfl
        simp only [So_cs, So_nl, So_then, So_ite, So_nx2, So_ret, So_bk, So_ct, evS, evE, evEs, evT, evTa, evTo, evAn, evOr, evAs, evP, evI, Ok_bind, Ok_ok2, Ok_bad, Ok_some, Ok_bs, Ok_ite, asgT, asgR, asgT.asgTs, setAll, wipeT, biF, meF, binF, cmpF, bl?, List.getElem?_cons_zero, List.getElem?_cons_succ, List.set_cons_zero, List.set_cons_succ, List.map_cons, List.map_nil, List.replicate_succ, List.replicate_zero, List.cons_append, List.nil_append, Nat.sub_self, Nat.reduceSub, Nat.reduceAdd, e_isNot, hno, Bool.not_false, trub, if_true, st_ix, eA _ v.k (by omega), mkT2]
        rw [show (PyData.tuple [PyData.str v.m, encS (b.k ++ v.k)]) = encSt ⟨v.m, b.k ++ v.k⟩ from rfl]
        simp only [e_neSt G hlow2, So_cs, So_nl, So_then, So_ite, So_nx2, So_ret, So_bk, So_ct, evS, evE, evEs, evT, evTa, evTo, evAn, evOr, evAs, evP, evI, Ok_bind, Ok_ok2, Ok_bad, Ok_some, Ok_bs, Ok_ite, asgT, asgR, asgT.asgTs, setAll, wipeT, biF, meF, binF, cmpF, bl?, List.getElem?_cons_zero, List.getElem?_cons_succ, List.set_cons_zero, List.set_cons_succ, List.map_cons, List.map_nil, List.replicate_succ, List.replicate_zero, List.cons_append, List.nil_append, Nat.sub_self, Nat.reduceSub, Nat.reduceAdd, trub, Bool.false_eq_true, if_false, b21_2]
        refine c20 _ _ _ _ _ G H.ok (by omega) ?_
        simp only [So_cs, So_nl, So_then, So_ite, So_nx2, So_ret, So_bk, So_ct, evS, evE, evEs, evT, evTa, evTo, evAn, evOr, evAs, evP, evI, Ok_bind, Ok_ok2, Ok_bad, Ok_some, Ok_bs, Ok_ite, asgT, asgR, asgT.asgTs, setAll, wipeT, biF, meF, binF, cmpF, bl?, List.getElem?_cons_zero, List.getElem?_cons_succ, List.set_cons_zero, List.set_cons_succ, List.map_cons, List.map_nil, List.replicate_succ, List.replicate_zero, List.cons_append, List.nil_append, Nat.sub_self, Nat.reduceSub, Nat.reduceAdd, trub, Bool.not_true, Bool.false_eq_true, if_false]
        exact ⟨s8, _, _, _, _, _, _, _, _, rfl, rfl⟩
    · rintro τ S ⟨s3, x4, x5, x6, x7, x8, x9, x10, x11, rfl, rfl⟩
      exact ⟨s3, _, _, _, _, _, _, _, _, _, _, rfl, rfl⟩
  · rintro τ S ⟨s, x2, x3, x4, x5, x6, x7, x8, x9, x10, x11, rfl, rfl⟩
    simp only [b21_1, So_cs, So_nl, So_then, So_ite, So_nx2, So_ret, So_bk, So_ct, evS, evE, evEs, evT, evTa, evTo, evAn, evOr, evAs, evP, evI, Ok_bind, Ok_ok2, Ok_bad, Ok_some, Ok_bs, Ok_ite, asgT, asgR, asgT.asgTs, setAll, wipeT, biF, meF, binF, cmpF, bl?, List.getElem?_cons_zero, List.getElem?_cons_succ, List.set_cons_zero, List.set_cons_succ, List.map_cons, List.map_nil, List.replicate_succ, List.replicate_zero, List.cons_append, List.nil_append, Nat.sub_self, Nat.reduceSub, Nat.reduceAdd]
    exact Ok_end (Q := fun w _ => w = .p (.bool true)) (E := noX) (S := []) (J := Spr s []) (fun o h => (nomatch h)) rfl rfl rfl
end Lk07
end

section
set_option maxRecDepth 100000
set_option maxHeartbeats 4000000
namespace Lk07
open PySem PySem.Spec L2 Pv
open PyProof.Rows hiding St
theorem all_mk {K : PySem.W.Frag} {h : Heap} {mg : Str → Option Value} {fa : Addr} {P : Program} {w : World} {cl : Nat → Option (Addr × List Str)} (k : Nat) (X : K.In h) (G : h.Ns mainGlobals mg) (hfa : mg "law" = some (.ref fa)) {f0 : Addr} {od0 an0 : Option Addr} {sl0 : Array (Option Value)} {oc0 kV0 dc0 pm0 cd0 ct0 : Value} {f1 : Addr} {od1 an1 : Option Addr} {sl1 : Array (Option Value)} {oc1 kV1 dc1 pm1 cd1 ct1 : Value} {f2 : Addr} {od2 an2 : Option Addr} {sl2 : Array (Option Value)} {oc2 kV2 dc2 pm2 cd2 ct2 : Value} {f3 : Addr} {od3 an3 : Option Addr} {sl3 : Array (Option Value)} {oc3 kV3 dc3 pm3 cd3 ct3 : Value} {f4 : Addr} {od4 an4 : Option Addr} {sl4 : Array (Option Value)} {oc4 kV4 dc4 pm4 cd4 ct4 : Value} {f5 : Addr} {od5 an5 : Option Addr} {sl5 : Array (Option Value)} {oc5 kV5 dc5 pm5 cd5 ct5 : Value} {f6 : Addr} {od6 an6 : Option Addr} {sl6 : Array (Option Value)} {oc6 kV6 dc6 pm6 cd6 ct6 : Value} {f7 : Addr} {od7 an7 : Option Addr} {sl7 : Array (Option Value)} {oc7 kV7 dc7 pm7 cd7 ct7 : Value} {f8 : Addr} {od8 an8 : Option Addr} {sl8 : Array (Option Value)} {oc8 kV8 dc8 pm8 cd8 ct8 : Value} {f9 : Addr} {od9 an9 : Option Addr} {sl9 : Array (Option Value)} {oc9 kV9 dc9 pm9 cd9 ct9 : Value} {f10 : Addr} {od10 an10 : Option Addr} {sl10 : Array (Option Value)} {oc10 kV10 dc10 pm10 cd10 ct10 : Value} {f11 : Addr} {od11 an11 : Option Addr} {sl11 : Array (Option Value)} {oc11 kV11 dc11 pm11 cd11 ct11 : Value} {f12 : Addr} {od12 an12 : Option Addr} {sl12 : Array (Option Value)} {oc12 kV12 dc12 pm12 cd12 ct12 : Value} {f13 : Addr} {od13 an13 : Option Addr} {sl13 : Array (Option Value)} {oc13 kV13 dc13 pm13 cd13 ct13 : Value} {f14 : Addr} {od14 an14 : Option Addr} {sl14 : Array (Option Value)} {oc14 kV14 dc14 pm14 cd14 ct14 : Value} {f15 : Addr} {od15 an15 : Option Addr} {sl15 : Array (Option Value)} {oc15 kV15 dc15 pm15 cd15 ct15 : Value} {f16 : Addr} {od16 an16 : Option Addr} {sl16 : Array (Option Value)} {oc16 kV16 dc16 pm16 cd16 ct16 : Value} {f17 : Addr} {od17 an17 : Option Addr} {sl17 : Array (Option Value)} {oc17 kV17 dc17 pm17 cd17 ct17 : Value} {f18 : Addr} {od18 an18 : Option Addr} {sl18 : Array (Option Value)} {oc18 kV18 dc18 pm18 cd18 ct18 : Value} {f19 : Addr} {od19 an19 : Option Addr} {sl19 : Array (Option Value)} {oc19 kV19 dc19 pm19 cd19 ct19 : Value} {f20 : Addr} {od20 an20 : Option Addr} {sl20 : Array (Option Value)} {oc20 kV20 dc20 pm20 cd20 ct20 : Value} {f21 : Addr} {od21 an21 : Option Addr} {sl21 : Array (Option Value)} {oc21 kV21 dc21 pm21 cd21 ct21 : Value}
    (a0 : PySem.W.nsIn K mainGlobals "is_one" = some (some (.ref f0))) (l0 : K.lookup f0 = some ⟨oc0, od0, .func (PySem.W.fnOf "is_one" "is_one" (defArgs s0) (defBody s0) (defScope s0) .none kV0 dc0 pm0 an0 cd0 ct0), sl0⟩) (c0 : PySem.W.codeIn K cd0 "is_one" = true) (k0 : PySem.W.keepIn K (.ref f0) = true)
    (a1 : PySem.W.nsIn K mainGlobals "taps_on" = some (some (.ref f1))) (l1 : K.lookup f1 = some ⟨oc1, od1, .func (PySem.W.fnOf "taps_on" "taps_on" (defArgs s1) (defBody s1) (defScope s1) .none kV1 dc1 pm1 an1 cd1 ct1), sl1⟩) (c1 : PySem.W.codeIn K cd1 "taps_on" = true) (k1 : PySem.W.keepIn K (.ref f1) = true)
    (a2 : PySem.W.nsIn K mainGlobals "state_error" = some (some (.ref f2))) (l2 : K.lookup f2 = some ⟨oc2, od2, .func (PySem.W.fnOf "state_error" "state_error" (defArgs s2) (defBody s2) (defScope s2) .none kV2 dc2 pm2 an2 cd2 ct2), sl2⟩) (c2 : PySem.W.codeIn K cd2 "state_error" = true) (k2 : PySem.W.keepIn K (.ref f2) = true)
    (a3 : PySem.W.nsIn K mainGlobals "require_state" = some (some (.ref f3))) (l3 : K.lookup f3 = some ⟨oc3, od3, .func (PySem.W.fnOf "require_state" "require_state" (defArgs s3) (defBody s3) (defScope s3) .none kV3 dc3 pm3 an3 cd3 ct3), sl3⟩) (c3 : PySem.W.codeIn K cd3 "require_state" = true) (k3 : PySem.W.keepIn K (.ref f3) = true)
    (a4 : PySem.W.nsIn K mainGlobals "taps_in" = some (some (.ref f4))) (l4 : K.lookup f4 = some ⟨oc4, od4, .func (PySem.W.fnOf "taps_in" "taps_in" (defArgs s4) (defBody s4) (defScope s4) .none kV4 dc4 pm4 an4 cd4 ct4), sl4⟩) (c4 : PySem.W.codeIn K cd4 "taps_in" = true) (k4 : PySem.W.keepIn K (.ref f4) = true)
    (a5 : PySem.W.nsIn K mainGlobals "down_to" = some (some (.ref f5))) (l5 : K.lookup f5 = some ⟨oc5, od5, .func (PySem.W.fnOf "down_to" "down_to" (defArgs s5) (defBody s5) (defScope s5) .none kV5 dc5 pm5 an5 cd5 ct5), sl5⟩) (c5 : PySem.W.codeIn K cd5 "down_to" = true) (k5 : PySem.W.keepIn K (.ref f5) = true)
    (a6 : PySem.W.nsIn K mainGlobals "behind_tap" = some (some (.ref f6))) (l6 : K.lookup f6 = some ⟨oc6, od6, .func (PySem.W.fnOf "behind_tap" "behind_tap" (defArgs s6) (defBody s6) (defScope s6) .none kV6 dc6 pm6 an6 cd6 ct6), sl6⟩) (c6 : PySem.W.codeIn K cd6 "behind_tap" = true) (k6 : PySem.W.keepIn K (.ref f6) = true)
    (a7 : PySem.W.nsIn K mainGlobals "tap_names" = some (some (.ref f7))) (l7 : K.lookup f7 = some ⟨oc7, od7, .func (PySem.W.fnOf "tap_names" "tap_names" (defArgs s7) (defBody s7) (defScope s7) .none kV7 dc7 pm7 an7 cd7 ct7), sl7⟩) (c7 : PySem.W.codeIn K cd7 "tap_names" = true) (k7 : PySem.W.keepIn K (.ref f7) = true)
    (a8 : PySem.W.nsIn K mainGlobals "tapped" = some (some (.ref f8))) (l8 : K.lookup f8 = some ⟨oc8, od8, .func (PySem.W.fnOf "tapped" "tapped" (defArgs s8) (defBody s8) (defScope s8) .none kV8 dc8 pm8 an8 cd8 ct8), sl8⟩) (c8 : PySem.W.codeIn K cd8 "tapped" = true) (k8 : PySem.W.keepIn K (.ref f8) = true)
    (a9 : PySem.W.nsIn K mainGlobals "do_tap" = some (some (.ref f9))) (l9 : K.lookup f9 = some ⟨oc9, od9, .func (PySem.W.fnOf "do_tap" "do_tap" (defArgs s9) (defBody s9) (defScope s9) .none kV9 dc9 pm9 an9 cd9 ct9), sl9⟩) (c9 : PySem.W.codeIn K cd9 "do_tap" = true) (k9 : PySem.W.keepIn K (.ref f9) = true)
    (a10 : PySem.W.nsIn K mainGlobals "do_row" = some (some (.ref f10))) (l10 : K.lookup f10 = some ⟨oc10, od10, .func (PySem.W.fnOf "do_row" "do_row" (defArgs s10) (defBody s10) (defScope s10) .none kV10 dc10 pm10 an10 cd10 ct10), sl10⟩) (c10 : PySem.W.codeIn K cd10 "do_row" = true) (k10 : PySem.W.keepIn K (.ref f10) = true)
    (a11 : PySem.W.nsIn K mainGlobals "_law_spring" = some (some (.ref f11))) (l11 : K.lookup f11 = some ⟨oc11, od11, .func (PySem.W.fnOf "_law_spring" "_law_spring" (defArgs s11) (defBody s11) (defScope s11) .none kV11 dc11 pm11 an11 cd11 ct11), sl11⟩) (c11 : PySem.W.codeIn K cd11 "_law_spring" = true) (k11 : PySem.W.keepIn K (.ref f11) = true)
    (a12 : PySem.W.nsIn K mainGlobals "_law_drop" = some (some (.ref f12))) (l12 : K.lookup f12 = some ⟨oc12, od12, .func (PySem.W.fnOf "_law_drop" "_law_drop" (defArgs s12) (defBody s12) (defScope s12) .none kV12 dc12 pm12 an12 cd12 ct12), sl12⟩) (c12 : PySem.W.codeIn K cd12 "_law_drop" = true) (k12 : PySem.W.keepIn K (.ref f12) = true)
    (a13 : PySem.W.nsIn K mainGlobals "_law_pick" = some (some (.ref f13))) (l13 : K.lookup f13 = some ⟨oc13, od13, .func (PySem.W.fnOf "_law_pick" "_law_pick" (defArgs s13) (defBody s13) (defScope s13) .none kV13 dc13 pm13 an13 cd13 ct13), sl13⟩) (c13 : PySem.W.codeIn K cd13 "_law_pick" = true) (k13 : PySem.W.keepIn K (.ref f13) = true)
    (a14 : PySem.W.nsIn K mainGlobals "_law_act" = some (some (.ref f14))) (l14 : K.lookup f14 = some ⟨oc14, od14, .func (PySem.W.fnOf "_law_act" "_law_act" (defArgs s14) (defBody s14) (defScope s14) .none kV14 dc14 pm14 an14 cd14 ct14), sl14⟩) (c14 : PySem.W.codeIn K cd14 "_law_act" = true) (k14 : PySem.W.keepIn K (.ref f14) = true)
    (a15 : PySem.W.nsIn K mainGlobals "_law_app" = some (some (.ref f15))) (l15 : K.lookup f15 = some ⟨oc15, od15, .func (PySem.W.fnOf "_law_app" "_law_app" (defArgs s15) (defBody s15) (defScope s15) .none kV15 dc15 pm15 an15 cd15 ct15), sl15⟩) (c15 : PySem.W.codeIn K cd15 "_law_app" = true) (k15 : PySem.W.keepIn K (.ref f15) = true)
    (a16 : PySem.W.nsIn K mainGlobals "_law_deep_state" = some (some (.ref f16))) (l16 : K.lookup f16 = some ⟨oc16, od16, .func (PySem.W.fnOf "_law_deep_state" "_law_deep_state" (defArgs s16) (defBody s16) (defScope s16) .none kV16 dc16 pm16 an16 cd16 ct16), sl16⟩) (c16 : PySem.W.codeIn K cd16 "_law_deep_state" = true) (k16 : PySem.W.keepIn K (.ref f16) = true)
    (a17 : PySem.W.nsIn K mainGlobals "_law_acts" = some (some (.ref f17))) (l17 : K.lookup f17 = some ⟨oc17, od17, .func (PySem.W.fnOf "_law_acts" "_law_acts" (defArgs s17) (defBody s17) (defScope s17) .none kV17 dc17 pm17 an17 cd17 ct17), sl17⟩) (c17 : PySem.W.codeIn K cd17 "_law_acts" = true) (k17 : PySem.W.keepIn K (.ref f17) = true)
    (a18 : PySem.W.nsIn K mainGlobals "_law_is_held" = some (some (.ref f18))) (l18 : K.lookup f18 = some ⟨oc18, od18, .func (PySem.W.fnOf "_law_is_held" "_law_is_held" (defArgs s18) (defBody s18) (defScope s18) .none kV18 dc18 pm18 an18 cd18 ct18), sl18⟩) (c18 : PySem.W.codeIn K cd18 "_law_is_held" = true) (k18 : PySem.W.keepIn K (.ref f18) = true)
    (a19 : PySem.W.nsIn K mainGlobals "_law_held_row" = some (some (.ref f19))) (l19 : K.lookup f19 = some ⟨oc19, od19, .func (PySem.W.fnOf "_law_held_row" "_law_held_row" (defArgs s19) (defBody s19) (defScope s19) .none kV19 dc19 pm19 an19 cd19 ct19), sl19⟩) (c19 : PySem.W.codeIn K cd19 "_law_held_row" = true) (k19 : PySem.W.keepIn K (.ref f19) = true)
    (a20 : PySem.W.nsIn K mainGlobals "_law_tops_right" = some (some (.ref f20))) (l20 : K.lookup f20 = some ⟨oc20, od20, .func (PySem.W.fnOf "_law_tops_right" "_law_tops_right" (defArgs s20) (defBody s20) (defScope s20) .none kV20 dc20 pm20 an20 cd20 ct20), sl20⟩) (c20 : PySem.W.codeIn K cd20 "_law_tops_right" = true) (k20 : PySem.W.keepIn K (.ref f20) = true)
    (a21 : PySem.W.nsIn K mainGlobals "law" = some (some (.ref f21))) (l21 : K.lookup f21 = some ⟨oc21, od21, .func (PySem.W.fnOf "law" "law" (defArgs s21) (defBody s21) (defScope s21) .none kV21 dc21 pm21 an21 cd21 ct21), sl21⟩) (c21 : PySem.W.codeIn K cd21 "law" = true) (k21 : PySem.W.keepIn K (.ref f21) = true)
    
    (z0 : PySem.W.nsIn K mainGlobals "len" = some none) (z1 : PySem.W.nsIn K mainGlobals "tuple" = some none) (z2 : PySem.W.nsIn K mainGlobals "list" = some none) (z3 : PySem.W.nsIn K mainGlobals "abs" = some none) (z4 : PySem.W.nsIn K mainGlobals "int" = some none) (z5 : PySem.W.nsIn K mainGlobals "all" = some none) (z6 : PySem.W.nsIn K mainGlobals "any" = some none) (z7 : PySem.W.nsIn K mainGlobals "repr" = some none) (z8 : PySem.W.nsIn K mainGlobals "sorted" = some none) (z9 : PySem.W.nsIn K mainGlobals "isinstance" = some none) (z10 : PySem.W.nsIn K mainGlobals "str" = some none) (z11 : PySem.W.nsIn K mainGlobals "bool" = some none) (z12 : PySem.W.nsIn K mainGlobals "dict" = some none) (z13 : PySem.W.nsIn K mainGlobals "range" = some none) (z14 : PySem.W.nsIn K mainGlobals "enumerate" = some none) (z15 : PySem.W.nsIn K mainGlobals "zip" = some none) :
    ∃ fd : FuncData, (∀ (s : Shared) (v : Value), BindsTo s fd ⟨[v], []⟩ [("_law_script", v)]) ∧ ∀ base : Heap, K.In base → base.Ns mainGlobals mg → (∃ mm, base.Ns sysModules mm) → FnG P w K mg base k fa fd ["_law_script"] (spF ⟨K, cl⟩ (callN fds k) 21 1) := by
  have e := hfa.symm.trans (PySem.W.mg_of X G a21)
  cases e
  have S0 := st0 X G a0 l0 c0 k0
  have S1 := st1 X G a1 l1 c1 k1
  have S2 := st2 X G a2 l2 c2 k2
  have S3 := st3 X G a3 l3 c3 k3
  have S4 := st4 X G a4 l4 c4 k4
  have S5 := st5 X G a5 l5 c5 k5
  have S6 := st6 X G a6 l6 c6 k6
  have S7 := st7 X G a7 l7 c7 k7
  have S8 := st8 X G a8 l8 c8 k8
  have S9 := st9 X G a9 l9 c9 k9
  have S10 := st10 X G a10 l10 c10 k10
  have S11 := st11 X G a11 l11 c11 k11
  have S12 := st12 X G a12 l12 c12 k12
  have S13 := st13 X G a13 l13 c13 k13
  have S14 := st14 X G a14 l14 c14 k14
  have S15 := st15 X G a15 l15 c15 k15
  have S16 := st16 X G a16 l16 c16 k16
  have S17 := st17 X G a17 l17 c17 k17
  have S18 := st18 X G a18 l18 c18 k18
  have S19 := st19 X G a19 l19 c19 k19
  have S20 := st20 X G a20 l20 c20 k20
  have S21 := st21 X G a21 l21 c21 k21
  refine ⟨_, fun s v => .of_eq rfl, fun base _ _ hm => defs_ok (G := ⟨K, cl⟩) hT (stands ⟨_, _, S0⟩ ⟨_, _, S1⟩ ⟨_, _, S2⟩ ⟨_, _, S3⟩ ⟨_, _, S4⟩ ⟨_, _, S5⟩ ⟨_, _, S6⟩ ⟨_, _, S7⟩ ⟨_, _, S8⟩ ⟨_, _, S9⟩ ⟨_, _, S10⟩ ⟨_, _, S11⟩ ⟨_, _, S12⟩ ⟨_, _, S13⟩ ⟨_, _, S14⟩ ⟨_, _, S15⟩ ⟨_, _, S16⟩ ⟨_, _, S17⟩ ⟨_, _, S18⟩ ⟨_, _, S19⟩ ⟨_, _, S20⟩ ⟨_, _, S21⟩) (fun x hx => ?_) hm (fun x d hx => ?_) k 21 d21 _ _ rfl S21⟩
  · simp only [bltN, List.mem_cons, List.not_mem_nil, or_false] at hx
    rcases hx with rfl | rfl | rfl | rfl | rfl | rfl | rfl | rfl | rfl | rfl | rfl | rfl | rfl | rfl | rfl | rfl
    · exact PySem.W.mg_none_of X G z0
    · exact PySem.W.mg_none_of X G z1
    · exact PySem.W.mg_none_of X G z2
    · exact PySem.W.mg_none_of X G z3
    · exact PySem.W.mg_none_of X G z4
    · exact PySem.W.mg_none_of X G z5
    · exact PySem.W.mg_none_of X G z6
    · exact PySem.W.mg_none_of X G z7
    · exact PySem.W.mg_none_of X G z8
    · exact PySem.W.mg_none_of X G z9
    · exact PySem.W.mg_none_of X G z10
    · exact PySem.W.mg_none_of X G z11
    · exact PySem.W.mg_none_of X G z12
    · exact PySem.W.mg_none_of X G z13
    · exact PySem.W.mg_none_of X G z14
    · exact PySem.W.mg_none_of X G z15
  · exact absurd hx (by simp [gs])

end Lk07
open PySem PySem.W PyProof.Rows
set_option maxHeartbeats 0 in
theorem PySem.Challenge.cw_backstacks_k07_whole_rows_of_taps_holds : PySem.Challenge.rw_backstacks_k07_whole_rows_of_taps.Holds := by
  w_on; o_law; k_head; (case hw => w_witness2)
  k_fill
  refine Pv.walk_g (l := PySem.Challenge.rw_backstacks_k07_whole_rows_of_taps) (n := 63) (k := 12) (x := "_law_script") (sp := fun G => Pv.spF G (Pv.callN Lk07.fds 12) 21 1) (cl := fun _ _ => none) rfl (by decide) rfl (Pv.room_law (by decide)) (by decide +kernel) (fun w h Y => PySem.W.kIn_of Y) ?F (fun G H a ns hl hb hS => Pv.sp_law rfl hS (Lk07.law_true ns hl hb))
  case F =>
    intro w mg fa h KX G hmg
    refine' Lk07.all_mk 12 KX G hmg ?a0 ?l0 ?c0 ?k0 ?a1 ?l1 ?c1 ?k1 ?a2 ?l2 ?c2 ?k2 ?a3 ?l3 ?c3 ?k3 ?a4 ?l4 ?c4 ?k4 ?a5 ?l5 ?c5 ?k5 ?a6 ?l6 ?c6 ?k6 ?a7 ?l7 ?c7 ?k7 ?a8 ?l8 ?c8 ?k8 ?a9 ?l9 ?c9 ?k9 ?a10 ?l10 ?c10 ?k10 ?a11 ?l11 ?c11 ?k11 ?a12 ?l12 ?c12 ?k12 ?a13 ?l13 ?c13 ?k13 ?a14 ?l14 ?c14 ?k14 ?a15 ?l15 ?c15 ?k15 ?a16 ?l16 ?c16 ?k16 ?a17 ?l17 ?c17 ?k17 ?a18 ?l18 ?c18 ?k18 ?a19 ?l19 ?c19 ?k19 ?a20 ?l20 ?c20 ?k20 ?a21 ?l21 ?c21 ?k21  ?z0 ?z1 ?z2 ?z3 ?z4 ?z5 ?z6 ?z7 ?z8 ?z9 ?z10 ?z11 ?z12 ?z13 ?z14 ?z15
    (case a0 => k_is); (case l0 => k_is); (case c0 => k_is); (case k0 => k_is)
    (case a1 => k_is); (case l1 => k_is); (case c1 => k_is); (case k1 => k_is)
    (case a2 => k_is); (case l2 => k_is); (case c2 => k_is); (case k2 => k_is)
    (case a3 => k_is); (case l3 => k_is); (case c3 => k_is); (case k3 => k_is)
    (case a4 => k_is); (case l4 => k_is); (case c4 => k_is); (case k4 => k_is)
    (case a5 => k_is); (case l5 => k_is); (case c5 => k_is); (case k5 => k_is)
    (case a6 => k_is); (case l6 => k_is); (case c6 => k_is); (case k6 => k_is)
    (case a7 => k_is); (case l7 => k_is); (case c7 => k_is); (case k7 => k_is)
    (case a8 => k_is); (case l8 => k_is); (case c8 => k_is); (case k8 => k_is)
    (case a9 => k_is); (case l9 => k_is); (case c9 => k_is); (case k9 => k_is)
    (case a10 => k_is); (case l10 => k_is); (case c10 => k_is); (case k10 => k_is)
    (case a11 => k_is); (case l11 => k_is); (case c11 => k_is); (case k11 => k_is)
    (case a12 => k_is); (case l12 => k_is); (case c12 => k_is); (case k12 => k_is)
    (case a13 => k_is); (case l13 => k_is); (case c13 => k_is); (case k13 => k_is)
    (case a14 => k_is); (case l14 => k_is); (case c14 => k_is); (case k14 => k_is)
    (case a15 => k_is); (case l15 => k_is); (case c15 => k_is); (case k15 => k_is)
    (case a16 => k_is); (case l16 => k_is); (case c16 => k_is); (case k16 => k_is)
    (case a17 => k_is); (case l17 => k_is); (case c17 => k_is); (case k17 => k_is)
    (case a18 => k_is); (case l18 => k_is); (case c18 => k_is); (case k18 => k_is)
    (case a19 => k_is); (case l19 => k_is); (case c19 => k_is); (case k19 => k_is)
    (case a20 => k_is); (case l20 => k_is); (case c20 => k_is); (case k20 => k_is)
    (case a21 => k_is); (case l21 => k_is); (case c21 => k_is); (case k21 => k_is)
    (case z0 => k_is); (case z1 => k_is); (case z2 => k_is); (case z3 => k_is); (case z4 => k_is); (case z5 => k_is); (case z6 => k_is); (case z7 => k_is); (case z8 => k_is); (case z9 => k_is); (case z10 => k_is); (case z11 => k_is); (case z12 => k_is); (case z13 => k_is); (case z14 => k_is); (case z15 => k_is)
end
