import PyProof.Rows.All
import Wide.All
import OpenK.AllK
import Wide.FinOn
import HandS.ForMost
import HandS.ForExc
import HandS.Defaults
import HandS.HeadHook1
import HandS.HeadHook2
import HandS.Deep
import HandS.Style
import HandS.IsInst
import HandS.ExcInit
import HandS.ExcField
import HandS.ExcIs
import HandS.TryElse
import HandS.TryMany
import HandS.RaiseFrom
import HandS.SuiteRaise
import HandS.HotCalls
import HandS.Strs
import KE.KUnrMore
import HandS.ExcOwn
import HandS.ExcCtx
import HandS.TryOnly
import HandS.ExcInitHot
import HandS.Lambda
import HandS.Replace
import HandS.Text
import HandS.HeadEnd
import KE.KStateDown
import HandS.Head2
import PySem.Challenge.RW_dialecthall_k91_rows_of_dialects
import HandS.Ends
set_option Elab.async false
set_option linter.all false
set_option maxRecDepth 100000
set_option maxHeartbeats 0
namespace DL
open PySem PySem.Spec L2

/-! ## values as trees, a store of mutable cells -/
inductive D where
  | non | bl (b : Bool) | int (i : Int) | str (x : List Nat)
  | tup (xs : List D) | lst (xs : List D) | obj (c : Str) (ns : List Str) (xs : List D) | ref (n : Nat)
  /-- a list that nobody changes: the law's script, a table of the module -/
  | scr (xs : List D)
inductive Cell where
  | lst (xs : List D) | dic (kvs : List (D × D)) | ins (c : Str) (ns : List Str) (xs : List D)
inductive Slot where
  | val (d : D) | own (c : Cell)
  /-- the exception of an except suite: its class, its fields -/
  | exn (c : Str) (ns : List Str) (xs : List D)
abbrev DEnv : Type := List (Option Slot)
abbrev Store : Type := List Cell
inductive Res (α : Type) where
  | ok (a : α) (ρ : DEnv) (S : Store)
  | exc (c : Str) (ns : List Str) (xs : List D) (ρ : DEnv) (S : Store)
  | bad
def Res.bind {α β : Type} : Res α → (α → DEnv → Store → Res β) → Res β
  | .ok a ρ S, k => k a ρ S
  | .exc c ns xs ρ S, _ => .exc c ns xs ρ S
  | .bad, _ => .bad
abbrev M (α : Type) := DEnv → Store → Res α
inductive Ctl where
  | next | brk | cont | ret (d : D)

/-! ## how values stand in the heap -/
abbrev Th := Nat → Option Addr
def okText (x : List Nat) : Prop := ∀ c ∈ x, c < 1114112
mutual
def Rep (K : PySem.W.Frag) (θ : Th) (N : Hp) : D → V → Prop
  | .non, v => v = .non
  | .bl b, v => v = .bl b
  | .int i, v => v = .int i
  | .str x, v => v = .str ⟨x.toArray⟩ ∧ okText x
  | .tup xs, v => ∃ a vs, v = .ref a ∧ SqT K N a vs ∧ Reps K θ N xs vs
  | .lst xs, v => ∃ a vs, v = .ref a ∧ N a = some (.lst vs) ∧ Reps K θ N xs vs
  | .obj c ns xs, v => ∃ a dx fs, v = .ref a ∧ N a = some (.ins (He.ga K c) dx fs) ∧ fs.map (·.1) = ns ∧ Reps K θ N xs (fs.map (·.2))
  | .ref n, v => ∃ a, θ n = some a ∧ v = .ref a
  | .scr xs, v => ∃ a vs, v = .ref a ∧ SqL K N a vs ∧ Reps K θ N xs vs
def Reps (K : PySem.W.Frag) (θ : Th) (N : Hp) : List D → List V → Prop
  | [], vs => vs = []
  | d :: ds, vs => ∃ v r, vs = v :: r ∧ Rep K θ N d v ∧ Reps K θ N ds r
end
section
variable {K : PySem.W.Frag} {θ θ' : Th} {N N' H H' : Hp}
theorem same_sqT {a : Addr} {xs : List V} (e : Same N N') (h : SqT K N a xs) : SqT K N' a xs := by
  rcases h with (h | ⟨o, h⟩) | h
  · exact .inl (.inl (e _ _ h))
  · exact .inl (.inr ⟨o, e _ _ h⟩)
  · exact .inr h
theorem same_sqL {a : Addr} {xs : List V} (e : Same N N') (h : SqL K N a xs) : SqL K N' a xs := by
  rcases h with (h | ⟨o, h⟩) | h
  · exact .inl (.inl (e _ _ h))
  · exact .inl (.inr ⟨o, e _ _ h⟩)
  · exact .inr h
def LeT (θ θ' : Th) : Prop := ∀ n a, θ n = some a → θ' n = some a
theorem LeT.refl (θ : Th) : LeT θ θ := fun _ _ h => h
theorem LeT.trans {θ1 θ2 θ3 : Th} (a : LeT θ1 θ2) (b : LeT θ2 θ3) : LeT θ1 θ3 := fun n x h => b n x (a n x h)
mutual
theorem Rep.mono (hθ : LeT θ θ') (hN : Same N N') : ∀ {d : D} {v : V}, Rep K θ N d v → Rep K θ' N' d v
  | .non, _, h => h
  | .bl _, _, h => h
  | .int _, _, h => h
  | .str _, _, h => h
  | .tup _, _, h => let ⟨a, vs, e, s, r⟩ := h; ⟨a, vs, e, same_sqT hN s, Reps.mono hθ hN r⟩
  | .lst _, _, h => let ⟨a, vs, e, s, r⟩ := h; ⟨a, vs, e, hN _ _ s, Reps.mono hθ hN r⟩
  | .obj _ _ _, _, h => let ⟨a, dx, fs, e, s, n, r⟩ := h; ⟨a, dx, fs, e, hN _ _ s, n, Reps.mono hθ hN r⟩
  | .ref _, _, h => let ⟨a, e, q⟩ := h; ⟨a, hθ _ _ e, q⟩
  | .scr _, _, h => let ⟨a, vs, e, s, r⟩ := h; ⟨a, vs, e, same_sqL hN s, Reps.mono hθ hN r⟩
theorem Reps.mono (hθ : LeT θ θ') (hN : Same N N') : ∀ {ds : List D} {vs : List V}, Reps K θ N ds vs → Reps K θ' N' ds vs
  | [], _, h => h
  | _ :: _, _, h => let ⟨v, r, e, h1, h2⟩ := h; ⟨v, r, e, Rep.mono hθ hN h1, Reps.mono hθ hN h2⟩
end
theorem Reps.nil : Reps K θ N [] [] := rfl
theorem Reps.cons {d : D} {v : V} {ds : List D} {vs : List V} (h : Rep K θ N d v) (r : Reps K θ N ds vs) : Reps K θ N (d :: ds) (v :: vs) := ⟨v, vs, rfl, h, r⟩
theorem Reps.length : ∀ {ds : List D} {vs : List V}, Reps K θ N ds vs → vs.length = ds.length
  | [], _, h => by cases h; rfl
  | _ :: _, _, h => by obtain ⟨v, r, rfl, _, h2⟩ := h; simp [Reps.length h2]
theorem Reps.append : ∀ {ds es : List D} {vs us : List V}, Reps K θ N ds vs → Reps K θ N es us → Reps K θ N (ds ++ es) (vs ++ us)
  | [], _, _, _, h, q => by cases h; exact q
  | _ :: _, _, _, _, h, q => by obtain ⟨v, r, rfl, h1, h2⟩ := h; exact ⟨v, r ++ _, rfl, h1, Reps.append h2 q⟩
theorem Reps.get : ∀ {ds : List D} {vs : List V} {i : Nat} {d : D}, Reps K θ N ds vs → ds[i]? = some d → ∃ v, vs[i]? = some v ∧ Rep K θ N d v
  | [], _, _, _, _, e => by simp at e
  | _ :: _, _, 0, _, h, e => by obtain ⟨v, r, rfl, h1, _⟩ := h; simp at e; subst e; exact ⟨v, rfl, h1⟩
  | _ :: _, _, i + 1, _, h, e => by
    obtain ⟨v, r, rfl, _, h2⟩ := h
    obtain ⟨u, h3, h4⟩ := Reps.get (i := i) h2 (by simpa using e)
    exact ⟨u, by simpa using h3, h4⟩
theorem Reps.getV : ∀ {ds : List D} {vs : List V} {i : Nat} {v : V}, Reps K θ N ds vs → vs[i]? = some v → ∃ d, ds[i]? = some d ∧ Rep K θ N d v
  | [], _, _, _, h, e => by cases h; simp at e
  | d :: _, _, 0, _, h, e => by obtain ⟨v, r, rfl, h1, _⟩ := h; simp at e; subst e; exact ⟨d, rfl, h1⟩
  | _ :: _, _, i + 1, _, h, e => by
    obtain ⟨v, r, rfl, _, h2⟩ := h
    obtain ⟨u, h3, h4⟩ := Reps.getV (i := i) h2 (by simpa using e)
    exact ⟨u, by simpa using h3, h4⟩
theorem Reps.set {d : D} {v : V} : ∀ {ds : List D} {vs : List V} (i : Nat), Rep K θ N d v → Reps K θ N ds vs → Reps K θ N (ds.set i d) (vs.set i v)
  | [], _, _, _, h => by cases h; exact Reps.nil
  | _ :: _, _, 0, q, h => by obtain ⟨_, r, rfl, _, h2⟩ := h; exact .cons q h2
  | _ :: _, _, i + 1, q, h => by obtain ⟨_, r, rfl, h1, h2⟩ := h; exact .cons h1 (Reps.set i q h2)
theorem Reps.take : ∀ {ds : List D} {vs : List V} (n : Nat), Reps K θ N ds vs → Reps K θ N (ds.take n) (vs.take n)
  | [], _, n, h => by cases h; simp; exact Reps.nil
  | _ :: _, _, 0, h => by obtain ⟨_, r, rfl, _, _⟩ := h; simp; exact Reps.nil
  | _ :: _, _, n + 1, h => by obtain ⟨_, r, rfl, h1, h2⟩ := h; exact .cons h1 (Reps.take n h2)
theorem Reps.drop : ∀ {ds : List D} {vs : List V} (n : Nat), Reps K θ N ds vs → Reps K θ N (ds.drop n) (vs.drop n)
  | [], _, n, h => by cases h; simp; exact Reps.nil
  | _ :: _, _, 0, h => h
  | _ :: _, _, n + 1, h => by obtain ⟨_, r, rfl, _, h2⟩ := h; exact Reps.drop n h2
theorem Reps.reverse : ∀ {ds : List D} {vs : List V}, Reps K θ N ds vs → Reps K θ N ds.reverse vs.reverse
  | [], _, h => by cases h; exact Reps.nil
  | _ :: _, _, h => by
    obtain ⟨_, r, rfl, h1, h2⟩ := h
    rw [List.reverse_cons, List.reverse_cons]
    exact (Reps.reverse h2).append (.cons h1 .nil)

/-! ## the state -/
/-- how a mutable cell stands at a. A dict: its keys ints and texts (for now) -/
def kD : Key → D
  | .inl i => .int i
  | .inr x => .str x.cps.toList
def CellAt (K : PySem.W.Frag) (θ : Th) (N H : Hp) (a : Addr) : Cell → Prop
  | .lst xs => ∃ vs, H a = some (.lst vs) ∧ Reps K θ N xs vs
  | .dic kvs => ∃ kv : List (Key × V), H a = some (.dK kv) ∧ kvs.map (·.1) = kv.map (fun p => kD p.1) ∧ Reps K θ N (kvs.map (·.2)) (kv.map (·.2)) ∧ (kv.map (·.1)).Nodup ∧ ∀ p ∈ kv, ∀ x, p.1 = .inr x → okText x.cps.toList
  | .ins c ns xs => ∃ dx fs, H a = some (.ins (He.ga K c) dx fs) ∧ fs.map (·.1) = ns ∧ Reps K θ N xs (fs.map (·.2))
theorem CellAt.mono (hθ : LeT θ θ') (hN : Same N N') {a : Addr} {c : Cell} (hH : H' a = H a) (h : CellAt K θ N H a c) : CellAt K θ' N' H' a c := by
  cases c with
  | lst xs => obtain ⟨vs, e, r⟩ := h; exact ⟨vs, hH.trans e, r.mono hθ hN⟩
  | dic kvs => obtain ⟨kv, e, k, r, n, t⟩ := h; exact ⟨kv, hH.trans e, k, r.mono hθ hN, n, t⟩
  | ins c ns xs => obtain ⟨dx, fs, e, n, r⟩ := h; exact ⟨dx, fs, hH.trans e, n, r.mono hθ hN⟩
theorem CellAt.some {a : Addr} {c : Cell} (h : CellAt K θ N H a c) : ∃ o, H a = some o ∧ Mut (some o) := by
  cases c with
  | lst xs => obtain ⟨vs, e, r⟩ := h; exact ⟨_, e, trivial⟩
  | dic kvs => obtain ⟨kv, e, _⟩ := h; exact ⟨_, e, trivial⟩
  | ins c ns xs => obtain ⟨dx, fs, e, _⟩ := h; exact ⟨_, e, trivial⟩
/-- the heap part: θ the places of the store's cells, N what never changes -/
structure HS (K : PySem.W.Frag) (θ : Th) (N : Hp) (S : Store) (H : Hp) : Prop where
  sub : Same N H
  inj : ∀ n m a, θ n = some a → θ m = some a → n = m
  cell : ∀ (n : Nat) (c : Cell), S[n]? = some c → ∃ a, θ n = some a ∧ CellAt K θ N H a c
  dom : ∀ n, S.length ≤ n → θ n = none
  sep : ∀ n a, θ n = some a → N a = none
/-- the entry of a def -/
structure Ent where
  θ : Th
  N : Hp
  H : Hp
  /-- in an __init__: self's slot and self's place -/
  mi : Option Nat
  me : Addr
  /-- in an except suite: the exception's class and dict (me its place) -/
  ec : Value
  ed : Option Addr
abbrev ent (θ : Th) (N H : Hp) : Ent := ⟨θ, N, H, none, 0, .none, none⟩
/-- what has come since the entry: nothing that was tracked has changed but the store's cells -/
structure Le (G : Ent) (θ : Th) (N H : Hp) : Prop where
  gN : Same G.N N
  gT : LeT G.θ θ
  nN : ∀ a o, N a = some o → G.N a = some o ∨ G.H a = none
  nT : ∀ n a, θ n = some a → G.θ n = some a ∨ G.H a = none
  keep : ∀ a o, G.H a = some o → (∀ n, G.θ n ≠ some a) → H a = some o
  stay : ∀ a, H a = none → G.H a = none
/-- an exception's fields, in its own dict -/
def ExcAt (K : PySem.W.Frag) (θ : Th) (N : Hp) (ns : List Str) (xs : List D) (d : Option Addr) : Prop :=
  (ns = [] ∧ xs = [] ∧ d = none) ∨ ∃ dd fs, d = some dd ∧ N dd = some (.xd fs) ∧ fs.map (·.1) = ns ∧ Reps K θ N xs (fs.map (·.2))
theorem ExcAt.mono {K : PySem.W.Frag} {θ θ' : Th} {N N' : Hp} (hθ : LeT θ θ') (hN : Same N N') {ns : List Str} {xs : List D} {d : Option Addr} (h : ExcAt K θ N ns xs d) : ExcAt K θ' N' ns xs d := by
  rcases h with h | ⟨dd, fs, e, h1, h2, h3⟩
  · exact .inl h
  · exact .inr ⟨dd, fs, e, hN _ _ h1, h2, h3.mono hθ hN⟩
def SlotAt (K : PySem.W.Frag) (G : Ent) (θ : Th) (N H : Hp) (v : V) : Slot → Prop
  | .val d => Rep K θ N d v
  | .own c => ∃ a, v = .ref a ∧ CellAt K θ N H a c ∧ N a = none ∧ G.H a = none ∧ ∀ n, θ n ≠ some a
  | .exn c ns xs => v = .ref G.me ∧ G.ec = .ref (He.ga K c) ∧ ExcAt K θ N ns xs G.ed
structure Stt (K : PySem.W.Frag) (G : Ent) (θ : Th) (N : Hp) (ρ : DEnv) (S : Store) (σ : St) (H : Hp) : Prop where
  hs : HS K θ N S H
  le : Le G θ N H
  len : σ.length = ρ.length
  slot : ∀ (i : Nat) (sl : Slot), ρ[i]? = some (some sl) → ∃ v, σ[i]? = some (some v) ∧ SlotAt K G θ N H v sl
  own : ∀ (i j : Nat) (a : Addr) (c c' : Cell), i ≠ j → ρ[i]? = some (some (.own c)) → ρ[j]? = some (some (.own c')) → σ[i]? = some (some (.ref a)) → σ[j]? = some (some (.ref a)) → False
  slf : ∀ (i : Nat) (c : Cell), G.mi = some i → ρ[i]? = some (some (.own c)) → σ[i]? = some (some (.ref G.me))
end

/-! ## readings of mirrors -/
/-- the end of a run: r what the mirror gives; R is wanted of its value -/
def Fin {α : Type} (K : PySem.W.Frag) (G : Ent) (W : WX) (θ : Th) (N : Hp) (σ : St) (r : Res α) (R : α → Th → Hp → Hp → Prop) : Prop := match r with
  | .ok a ρ' S' => ∀ θ' N' H', LeT θ θ' → Same N N' → Stt K G θ' N' ρ' S' σ H' → R a θ' N' H'
  | .exc c ns xs ρ' S' => ∀ θ' N' H' d, LeT θ θ' → Same N N' → Stt K G θ' N' ρ' S' σ H' → ExcAt K θ' N' ns xs d → W (.ref (He.ga K c)) d σ H'
  | .bad => False
def tE (K : PySem.W.Frag) (G : Ent) (W : WX) (m : M D) : TE := fun σ H Q => ∃ θ N ρ S, Stt K G θ N ρ S σ H ∧ Fin K G W θ N σ (m ρ S) fun a θ' N' H' => ∀ v, Rep K θ' N' a v → Q v H'
def tT (K : PySem.W.Frag) (G : Ent) (W : WX) (m : M Bool) : TT := fun σ H Q => ∃ θ N ρ S, Stt K G θ N ρ S σ H ∧ Fin K G W θ N σ (m ρ S) fun a _ _ H' => Q a H'
def tA (K : PySem.W.Frag) (G : Ent) (W : WX) (m : M (List D)) : TA := fun σ H Q => ∃ θ N ρ S, Stt K G θ N ρ S σ H ∧ Fin K G W θ N σ (m ρ S) fun a θ' N' H' => ∀ vs, Reps K θ' N' a vs → Q vs H'
/-- a statement -/
def CtlEnd (K : PySem.W.Frag) (E : Ends) (θ : Th) (N : Hp) (a : Ctl) (σ : St) (H : Hp) : Prop := match a with
  | .next => E.nx σ H
  | .brk => E.bk σ H
  | .cont => E.ct σ H
  | .ret d => ∀ v, Rep K θ N d v → E.rt v H
def FinS (K : PySem.W.Frag) (G : Ent) (W : WX) (θ : Th) (N : Hp) (E : Ends) (r : Res Ctl) : Prop := match r with
  | .ok a ρ' S' => ∀ θ' N' σ' H', LeT θ θ' → Same N N' → Stt K G θ' N' ρ' S' σ' H' → CtlEnd K E θ' N' a σ' H'
  | .exc c ns xs ρ' S' => ∀ θ' N' σ' H' d, LeT θ θ' → Same N N' → Stt K G θ' N' ρ' S' σ' H' → ExcAt K θ' N' ns xs d → W (.ref (He.ga K c)) d σ' H'
  | .bad => False
def tS (K : PySem.W.Frag) (G : Ent) (W : WX) (m : M Ctl) : TS := fun E σ H => ∃ θ N ρ S, Stt K G θ N ρ S σ H ∧ FinS K G W θ N E (m ρ S)

theorem _root_.L2.PE.imp {X : Cx} {e : Expr} {t t' : TE} (h : PE X e t) (i : ∀ σ H Q, t' σ H Q → t σ H Q) : PE X e t' := ⟨fun pins s σ H Q I q => h.run pins s σ H Q I (i σ H Q q)⟩
theorem _root_.L2.PT.imp {X : Cx} {e : Expr} {t t' : TT} (h : PT X e t) (i : ∀ σ H Q, t' σ H Q → t σ H Q) : PT X e t' := ⟨fun pins s σ H Q I q => h.run pins s σ H Q I (i σ H Q q)⟩
theorem _root_.L2.PA.imp {X : Cx} {e : List Expr} {t t' : TA} (h : PA X e t) (i : ∀ σ H Q, t' σ H Q → t σ H Q) : PA X e t' := ⟨fun pos pins s σ H Q I q => h.run pos pins s σ H Q I (i σ H Q q)⟩
theorem _root_.L2.PS.imp {X : Cx} {e : Stmt} {t t' : TS} (h : PS X e t) (i : ∀ D σ H, t' D σ H → t D σ H) : PS X e t' := ⟨fun pins s σ H D I q => h.run pins s σ H D I (i D σ H q)⟩
theorem _root_.L2.PSs.imp {X : Cx} {e : List Stmt} {t t' : TS} (h : PSs X e t) (i : ∀ D σ H, t' D σ H → t D σ H) : PSs X e t' := ⟨fun pins s σ H D I q => h.run pins s σ H D I (i D σ H q)⟩

section
variable {K : PySem.W.Frag} {G : Ent} {W : WX} {θ θ1 : Th} {N N1 : Hp} {σ : St} {H : Hp} {α β : Type}
theorem Fin.weak {r : Res α} {R : α → Th → Hp → Hp → Prop} (hθ : LeT θ θ1) (hN : Same N N1) (h : Fin K G W θ N σ r R) : Fin K G W θ1 N1 σ r R := by
  cases r with
  | ok a ρ S => exact fun θ' N' H' l1 l2 s => h θ' N' H' (hθ.trans l1) (hN.trans l2) s
  | exc c ns xs ρ S => exact fun θ' N' H' d l1 l2 s e => h θ' N' H' d (hθ.trans l1) (hN.trans l2) s e
  | bad => exact h
theorem Fin.imp {r : Res α} {R R' : α → Th → Hp → Hp → Prop} (h : Fin K G W θ N σ r R) (i : ∀ a θ' N' H', LeT θ θ' → Same N N' → R a θ' N' H' → R' a θ' N' H') : Fin K G W θ N σ r R' := by
  cases r with
  | ok a ρ S => exact fun θ' N' H' l1 l2 s => i _ _ _ _ l1 l2 (h θ' N' H' l1 l2 s)
  | exc c ns xs ρ S => exact h
  | bad => exact h
/-- the end of two runs, one behind the other -/
theorem Fin.bind {r : Res α} {k : α → DEnv → Store → Res β} {R : β → Th → Hp → Hp → Prop} (h : Fin K G W θ N σ (r.bind k) R) :
    Fin K G W θ N σ r fun a θ' N' H' => ∃ ρ' S', Stt K G θ' N' ρ' S' σ H' ∧ Fin K G W θ' N' σ (k a ρ' S') R := by
  cases r with
  | ok a ρ S => exact fun θ' N' H' l1 l2 s => ⟨ρ, S, s, Fin.weak l1 l2 h⟩
  | exc c ns xs ρ S => exact h
  | bad => exact h
end
end DL

namespace DL
open PySem PySem.Spec L2

def Res.ofO {α : Type} (o : Option α) (ρ : DEnv) (S : Store) : Res α := match o with
  | some a => .ok a ρ S
  | none => .bad

/-! ## steps of the state -/
section
variable {K : PySem.W.Frag} {G : Ent} {W : WX} {θ θ1 : Th} {N N1 : Hp} {ρ : DEnv} {S : Store} {σ : St} {H : Hp}
theorem Stt.fresh (s : Stt K G θ N ρ S σ H) {p : Addr} (h : H p = none) : N p = none := Same.free s.hs.sub h
theorem same_upd {N : Hp} {p : Addr} {o : HO} (h : N p = none) : Same N (upd N p o) := fun b u e => by rw [upd_ne (ne_of_none e h)]; exact e
theorem upd_same2 {N H : Hp} (s : Same N H) (p : Addr) (o : HO) : Same (upd N p o) (upd H p o) := fun b u e => by
  by_cases hb : b = p
  · subst hb; rw [upd_same] at e ⊢; exact e
  · rw [upd_ne hb] at e ⊢; exact s b u e
theorem HS.ne (s : HS K θ N S H) {p : Addr} (h : H p = none) : ∀ n, θ n ≠ some p := fun n e => by
  by_cases hn : n < S.length
  · obtain ⟨a, e2, c⟩ := s.cell n _ (List.getElem?_eq_getElem hn)
    rw [e] at e2; cases e2
    obtain ⟨o, q, _⟩ := c.some
    rw [h] at q; cases q
  · rw [s.dom n (by omega)] at e; cases e
/-- a new thing that never changes -/
theorem Stt.alloc (s : Stt K G θ N ρ S σ H) {p : Addr} (h : H p = none) (o : HO) : Stt K G θ (upd N p o) ρ S σ (upd H p o) := by
  have hN := s.fresh h
  have mN := same_upd (o := o) hN
  have ne : ∀ {b : Addr} {u : HO}, H b = some u → b ≠ p := fun e => ne_of_none e h
  refine ⟨⟨upd_same2 s.hs.sub p o, s.hs.inj, fun n c e => ?_, s.hs.dom, fun n a e => ?_⟩, ⟨fun b u e => mN b u (s.le.gN b u e), s.le.gT, fun b u e => ?_, s.le.nT, fun b u e q => ?_, fun b e => ?_⟩, s.len, fun i sl e => ?_, s.own, s.slf⟩
  · obtain ⟨a, e1, c1⟩ := s.hs.cell n c e
    obtain ⟨o1, q, _⟩ := c1.some
    exact ⟨a, e1, c1.mono (LeT.refl _) mN (upd_ne (ne q))⟩
  · rw [upd_ne fun (z : a = p) => s.hs.ne h n (by rw [← z]; exact e)]; exact s.hs.sep n a e
  · by_cases hb : b = p
    · exact .inr (hb ▸ s.le.stay p h)
    · rw [upd_ne hb] at e; exact s.le.nN b u e
  · have q2 := s.le.keep b u e q
    rw [upd_ne (ne q2)]; exact q2
  · by_cases hb : b = p
    · rw [hb, upd_same] at e; cases e
    · rw [upd_ne hb] at e; exact s.le.stay b e
  · obtain ⟨v, e1, q⟩ := s.slot i sl e
    refine ⟨v, e1, ?_⟩
    cases sl with
    | val d => exact Rep.mono (LeT.refl _) mN q
    | exn c ns xs => exact ⟨q.1, q.2.1, q.2.2.mono (LeT.refl _) mN⟩
    | own c =>
      obtain ⟨a, e2, c1, n1, g1, t1⟩ := q
      obtain ⟨o1, q1, _⟩ := c1.some
      exact ⟨a, e2, c1.mono (LeT.refl _) mN (upd_ne (ne q1)), (upd_ne (ne q1)).trans n1, g1, t1⟩
/-- a new thing that may change: not yet in any slot -/
theorem Stt.alloc0 (s : Stt K G θ N ρ S σ H) {p : Addr} (h : H p = none) (o : HO) : Stt K G θ N ρ S σ (upd H p o) := by
  have ne : ∀ {b : Addr} {u : HO}, H b = some u → b ≠ p := fun e => ne_of_none e h
  have hN := s.fresh h
  refine ⟨⟨fun b u e => ?_, s.hs.inj, fun n c e => ?_, s.hs.dom, s.hs.sep⟩, ⟨s.le.gN, s.le.gT, s.le.nN, s.le.nT, fun b u e q => ?_, fun b e => ?_⟩, s.len, fun i sl e => ?_, s.own, s.slf⟩
  · rw [upd_ne (ne_of_none e hN)]; exact s.hs.sub b u e
  · obtain ⟨a, e1, c1⟩ := s.hs.cell n c e
    obtain ⟨o1, q, _⟩ := c1.some
    exact ⟨a, e1, c1.mono (LeT.refl _) (Same.refl _) (upd_ne (ne q))⟩
  · have q2 := s.le.keep b u e q
    rw [upd_ne (ne q2)]; exact q2
  · by_cases hb : b = p
    · rw [hb, upd_same] at e; cases e
    · rw [upd_ne hb] at e; exact s.le.stay b e
  · obtain ⟨v, e1, q⟩ := s.slot i sl e
    refine ⟨v, e1, ?_⟩
    cases sl with
    | val d => exact q
    | exn c ns xs => exact q
    | own c =>
      obtain ⟨a, e2, c1, n1, g1, t1⟩ := q
      obtain ⟨o1, q1, _⟩ := c1.some
      exact ⟨a, e2, c1.mono (LeT.refl _) (Same.refl _) (upd_ne (ne q1)), n1, g1, t1⟩
theorem own_ne {ρ : DEnv} {i j : Nat} {x : Option Slot} {c : Cell} (e : (ρ.set i x)[j]? = some (some (.own c))) (hx : ∀ c, x ≠ some (.own c)) : j ≠ i := fun z => by
  subst z
  have hl : j < ρ.length := by
    have := (List.getElem?_eq_some_iff.mp e).1
    simpa using this
  rw [List.getElem?_set_self hl] at e
  exact hx c (Option.some.inj e)
/-- a slot gets a value that never changes -/
theorem Stt.set (s : Stt K G θ N ρ S σ H) (i : Nat) {d : D} {v : V} (r : Rep K θ N d v) : Stt K G θ N (ρ.set i (some (.val d))) S (σ.set i (some v)) H := by
  refine ⟨s.hs, s.le, by simpa using s.len, fun j sl e => ?_, fun j k a c c' hjk e1 e2 e3 e4 => ?_, fun j c hm e => ?_⟩
  · by_cases hj : j = i
    · subst hj
      have hl : j < ρ.length := by
        have := (List.getElem?_eq_some_iff.mp e).1
        simpa using this
      rw [List.getElem?_set_self hl] at e
      cases e
      exact ⟨v, by rw [List.getElem?_set_self (by rw [s.len]; exact hl)], r⟩
    · rw [List.getElem?_set_ne (Ne.symm hj)] at e
      obtain ⟨u, e1, q⟩ := s.slot j sl e
      exact ⟨u, by rw [List.getElem?_set_ne (Ne.symm hj)]; exact e1, q⟩
  · have nj : ∀ {j : Nat} {c : Cell}, (ρ.set i (some (.val d)))[j]? = some (some (.own c)) → j ≠ i := fun {j c} e z => by
      subst z
      have hl : j < ρ.length := by
        have := (List.getElem?_eq_some_iff.mp e).1
        simpa using this
      rw [List.getElem?_set_self hl] at e
      cases e
    have h1 := nj e1
    have h2 := nj e2
    rw [List.getElem?_set_ne (Ne.symm h1)] at e1 e3
    rw [List.getElem?_set_ne (Ne.symm h2)] at e2 e4
    exact s.own j k a c c' hjk e1 e2 e3 e4
  · have hj := own_ne e (fun c z => by cases z)
    rw [List.getElem?_set_ne (Ne.symm hj)] at e ⊢
    exact s.slf j c hm e
/-- a slot gets a new thing that it owns -/
theorem Stt.setOwn (s : Stt K G θ N ρ S σ H) (i : Nat) (hm0 : G.mi ≠ some i) {c : Cell} {a : Addr} (ca : CellAt K θ N H a c) (n1 : N a = none) (g1 : G.H a = none) (t1 : ∀ n, θ n ≠ some a)
    (nw : ∀ (j : Nat) (c' : Cell), j ≠ i → ρ[j]? = some (some (.own c')) → σ[j]? ≠ some (some (.ref a))) : Stt K G θ N (ρ.set i (some (.own c))) S (σ.set i (some (.ref a))) H := by
  refine ⟨s.hs, s.le, by simpa using s.len, fun j sl e => ?_, fun j k b c1 c2 hjk e1 e2 e3 e4 => ?_, fun j c2 hm e => ?_⟩
  · by_cases hj : j = i
    · subst hj
      have hl : j < ρ.length := by
        have := (List.getElem?_eq_some_iff.mp e).1
        simpa using this
      rw [List.getElem?_set_self hl] at e
      cases e
      exact ⟨_, by rw [List.getElem?_set_self (by rw [s.len]; exact hl)], a, rfl, ca, n1, g1, t1⟩
    · rw [List.getElem?_set_ne (Ne.symm hj)] at e
      obtain ⟨u, e1, q⟩ := s.slot j sl e
      exact ⟨u, by rw [List.getElem?_set_ne (Ne.symm hj)]; exact e1, q⟩
  · have val : ∀ {j : Nat} {b : Addr}, j = i → (σ.set i (some (.ref a)))[j]? = some (some (.ref b)) → b = a := fun {j b} z e => by
      subst z
      have hl : j < σ.length := by
        have := (List.getElem?_eq_some_iff.mp e).1
        simpa using this
      rw [List.getElem?_set_self hl] at e
      cases e; rfl
    by_cases h1 : j = i
    · by_cases h2 : k = i
      · exact hjk (h1.trans h2.symm)
      · have := val h1 e3
        subst this
        rw [List.getElem?_set_ne (Ne.symm h2)] at e2 e4
        exact nw k _ h2 e2 e4
    · by_cases h2 : k = i
      · have := val h2 e4
        subst this
        rw [List.getElem?_set_ne (Ne.symm h1)] at e1 e3
        exact nw j _ h1 e1 e3
      · rw [List.getElem?_set_ne (Ne.symm h1)] at e1 e3
        rw [List.getElem?_set_ne (Ne.symm h2)] at e2 e4
        exact s.own j k b _ _ hjk e1 e2 e3 e4
  · have hj : j ≠ i := fun z => hm0 (z ▸ hm)
    rw [List.getElem?_set_ne (Ne.symm hj)] at e ⊢
    exact s.slf j c2 hm e
/-- a slot is wiped -/
theorem Stt.wipe (s : Stt K G θ N ρ S σ H) (i : Nat) : Stt K G θ N (ρ.set i none) S (σ.set i none) H := by
  refine ⟨s.hs, s.le, by simpa using s.len, fun j sl e => ?_, fun j k a c c' hjk e1 e2 e3 e4 => ?_, fun j c hm e => ?_⟩
  · have hj : j ≠ i := fun z => by
      subst z
      have hl : j < ρ.length := by
        have := (List.getElem?_eq_some_iff.mp e).1
        simpa using this
      rw [List.getElem?_set_self hl] at e
      cases e
    rw [List.getElem?_set_ne (Ne.symm hj)] at e
    obtain ⟨u, e1, q⟩ := s.slot j sl e
    exact ⟨u, by rw [List.getElem?_set_ne (Ne.symm hj)]; exact e1, q⟩
  · have nj : ∀ {j : Nat} {c : Cell}, (ρ.set i none)[j]? = some (some (.own c)) → j ≠ i := fun {j c} e z => by
      subst z
      have hl : j < ρ.length := by
        have := (List.getElem?_eq_some_iff.mp e).1
        simpa using this
      rw [List.getElem?_set_self hl] at e
      cases e
    have h1 := nj e1
    have h2 := nj e2
    rw [List.getElem?_set_ne (Ne.symm h1)] at e1 e3
    rw [List.getElem?_set_ne (Ne.symm h2)] at e2 e4
    exact s.own j k a c c' hjk e1 e2 e3 e4
  · have hj := own_ne e (fun c z => by cases z)
    rw [List.getElem?_set_ne (Ne.symm hj)] at e ⊢
    exact s.slf j c hm e
/-- an owned list is let go: it never changes from here on -/
theorem Stt.freeze (s : Stt K G θ N ρ S σ H) {i : Nat} {xs : List D} (e : ρ[i]? = some (some (.own (.lst xs)))) :
    ∃ N1 v, Same N N1 ∧ σ[i]? = some (some v) ∧ Rep K θ N1 (.lst xs) v ∧ Stt K G θ N1 (ρ.set i (some (.val (.lst xs)))) S σ H := by
  obtain ⟨v, e1, a, rfl, ⟨vs, hH, r⟩, n1, g1, t1⟩ := s.slot i _ e
  have mN := same_upd (o := .lst vs) n1
  have rp : Rep K θ (upd N a (.lst vs)) (.lst xs) (.ref a) := ⟨a, vs, rfl, upd_same, r.mono (LeT.refl _) mN⟩
  refine ⟨upd N a (.lst vs), .ref a, mN, e1, rp, ⟨⟨fun b u q => ?_, s.hs.inj, fun n c q => ?_, s.hs.dom, fun n b q => ?_⟩, ⟨fun b u q => mN b u (s.le.gN b u q), s.le.gT, fun b u q => ?_, s.le.nT, s.le.keep, s.le.stay⟩, by simpa using s.len, fun j sl q => ?_, fun j k b c c' hjk q1 q2 q3 q4 => ?_, fun j c hm q => ?_⟩⟩
  · by_cases hb : b = a
    · subst hb; rw [upd_same] at q; cases q; exact hH
    · rw [upd_ne hb] at q; exact s.hs.sub b u q
  · obtain ⟨b, q1, c1⟩ := s.hs.cell n c q
    exact ⟨b, q1, c1.mono (LeT.refl _) mN rfl⟩
  · rw [upd_ne fun (z : b = a) => t1 n (by rw [← z]; exact q)]; exact s.hs.sep n b q
  · by_cases hb : b = a
    · exact .inr (hb ▸ g1)
    · rw [upd_ne hb] at q; exact s.le.nN b u q
  · by_cases hj : j = i
    · subst hj
      have hl : j < ρ.length := (List.getElem?_eq_some_iff.mp e).1
      rw [List.getElem?_set_self hl] at q
      cases q
      exact ⟨_, e1, rp⟩
    · rw [List.getElem?_set_ne (Ne.symm hj)] at q
      obtain ⟨u, q1, q2⟩ := s.slot j sl q
      refine ⟨u, q1, ?_⟩
      cases sl with
      | val d => exact Rep.mono (LeT.refl _) mN q2
      | exn c ns xs => exact ⟨q2.1, q2.2.1, q2.2.2.mono (LeT.refl _) mN⟩
      | own c =>
        obtain ⟨b, q3, c1, n2, g2, t2⟩ := q2
        subst q3
        refine ⟨b, rfl, c1.mono (LeT.refl _) mN rfl, ?_, g2, t2⟩
        rw [upd_ne fun (z : b = a) => s.own j i a c _ hj q e (by rw [← z]; exact q1) e1]
        exact n2
  · have nj : ∀ {j : Nat} {c : Cell}, (ρ.set i (some (.val (.lst xs))))[j]? = some (some (.own c)) → j ≠ i := fun {j c} e z => by
      subst z
      have hl : j < ρ.length := by
        have := (List.getElem?_eq_some_iff.mp e).1
        simpa using this
      rw [List.getElem?_set_self hl] at e
      cases e
    have h1 := nj q1
    have h2 := nj q2
    rw [List.getElem?_set_ne (Ne.symm h1)] at q1
    rw [List.getElem?_set_ne (Ne.symm h2)] at q2
    exact s.own j k b c c' hjk q1 q2 q3 q4
  · have hj := own_ne q (fun c z => by cases z)
    rw [List.getElem?_set_ne (Ne.symm hj)] at q
    exact s.slf j c hm q
end

/-! ## names and constants -/
def mC (d : D) : M D := fun ρ S => .ok d ρ S
def mVar (i : Nat) : M D := fun ρ S => match ρ[i]? with
  | some (some (.val d)) => .ok d ρ S
  | _ => .bad
/-- a name whose list is let go -/
def mFrz (i : Nat) : M D := fun ρ S => match ρ[i]? with
  | some (some (.val d)) => .ok d ρ S
  | some (some (.own (.lst xs))) => .ok (.lst xs) (ρ.set i (some (.val (.lst xs)))) S
  | _ => .bad
section
variable {X : Cx} {G : Ent} {W : WX}
theorem s_const {e : Expr} {v : V} {d : D} (h : PE X e (tC v)) (r : ∀ θ N, Rep X.K θ N d v) : PE X e (tE X.K G W (mC d)) :=
  h.imp fun σ H Q ⟨θ, N, ρ, S, st, f⟩ => f θ N H (LeT.refl _) (Same.refl _) st v (r θ N)
theorem s_int {i : Int} {j} {pos : Pos} : PE X (.Constant (.int i) j pos) (tE X.K G W (mC (.int i))) := s_const pe_int fun _ _ => rfl
theorem s_bl {b : Bool} {j} {pos : Pos} : PE X (.Constant (.bool b) j pos) (tE X.K G W (mC (.bl b))) := s_const pe_bl fun _ _ => rfl
theorem s_non {j} {pos : Pos} : PE X (.Constant .none j pos) (tE X.K G W (mC .non)) := s_const pe_non fun _ _ => rfl
/-- a written text: its codes -/
def isT (x : Str) (l : List Nat) : Bool := decide (x = ⟨l.toArray⟩) && l.all fun c => decide (c < 1114112)
theorem rep_isT {K : PySem.W.Frag} {θ : Th} {N : Hp} {x : Str} {l : List Nat} (h : isT x l = true) : Rep K θ N (.str l) (.str x) := by
  obtain ⟨h1, h2⟩ := Bool.and_eq_true_iff.mp h
  exact ⟨by rw [of_decide_eq_true h1], fun c hc => of_decide_eq_true (List.all_eq_true.mp h2 c hc)⟩
theorem s_str {x : Str} {j} {pos : Pos} (l : List Nat) (h : isT x l = true := by decide +kernel) : PE X (.Constant (.str x) j pos) (tE X.K G W (mC (.str l))) := s_const pe_str fun _ _ => rep_isT h
/-- a name of the module -/
theorem s_glob {x : Str} {v : V} {u : Value} {pos : Pos} {d : D} (hg : Gl X x) (hm : X.mg x = some u) (r : RelV v u) (rp : ∀ θ N, Rep X.K θ N d v) (hd : (x == ("__debug__" : Str)) = false := by decide) : PE X (.Name x pos) (tE X.K G W (mC d)) :=
  s_const (pe_glob hg hm r hd) rp
theorem s_var (i : Nat) {x : Str} {pos : Pos} (hN : X.N[i]? = some x := by rfl) (hv : Vis X.env.scope x := by first | exact Or.inl rfl | exact Or.inr (Or.inl rfl) | exact Or.inr (Or.inr rfl)) (hd : (x == ("__debug__" : Str)) = false := by decide)
    (hcd : (x == ("__classdict__" : Str)) = false := by decide) : PE X (.Name x pos) (tE X.K G W (mVar i)) :=
  (pe_var hN hv hd hcd).imp fun σ H Q ⟨θ, N, ρ, S, st, f⟩ => by
    unfold mVar at f
    split at f
    · rename_i d e
      obtain ⟨v, e1, r⟩ := st.slot i _ e
      exact ⟨v, e1, f θ N H (LeT.refl _) (Same.refl _) st v r⟩
    · exact f.elim
theorem s_frz (i : Nat) {x : Str} {pos : Pos} (hN : X.N[i]? = some x := by rfl) (hv : Vis X.env.scope x := by first | exact Or.inl rfl | exact Or.inr (Or.inl rfl) | exact Or.inr (Or.inr rfl)) (hd : (x == ("__debug__" : Str)) = false := by decide)
    (hcd : (x == ("__classdict__" : Str)) = false := by decide) : PE X (.Name x pos) (tE X.K G W (mFrz i)) :=
  (pe_var hN hv hd hcd).imp fun σ H Q ⟨θ, N, ρ, S, st, f⟩ => by
    unfold mFrz at f
    split at f
    · rename_i d e
      obtain ⟨v, e1, r⟩ := st.slot i _ e
      exact ⟨v, e1, f θ N H (LeT.refl _) (Same.refl _) st v r⟩
    · rename_i xs e
      obtain ⟨N1, v, l, e1, r, s1⟩ := st.freeze e
      exact ⟨v, e1, f θ N1 H (LeT.refl _) l s1 v r⟩
    · exact f.elim
end

/-! ## operators of two values -/
def OpD (X : Cx) (G : Ent) (f : Store → D → D → Option D) (r : R2) : Prop := ∀ (θ : Th) (N : Hp) (ρ : DEnv) (S : Store) (σ : St) (H : Hp) (a b d : D) (x y : V) (Q : VK), Stt X.K G θ N ρ S σ H → Rep X.K θ N a x → Rep X.K θ N b y → f S a b = some d →
  (∀ N' H' v, Same N N' → Stt X.K G θ N' ρ S σ H' → Rep X.K θ N' d v → Q v H') → r x y H Q
def mBin (f : Store → D → D → Option D) (ma mb : M D) : M D := fun ρ S => (ma ρ S).bind fun a ρ1 S1 => (mb ρ1 S1).bind fun b ρ2 S2 => Res.ofO (f S2 a b) ρ2 S2
def rOr (r1 r2 : R2) : R2 := fun x y H Q => r1 x y H Q ∨ r2 x y H Q
section
variable {X : Cx} {G : Ent} {W : WX} {a b : Expr} {ma mb mc : M D} {pos : Pos}
theorem OpR.or {f : Value → Value → Sem Value} {r1 r2 : R2} (h1 : OpR X f r1) (h2 : OpR X f r2) : OpR X f (rOr r1 r2) := fun pins s σ H x y v u Q I rx ry h =>
  h.elim (h1 pins s σ H x y v u Q I rx ry) (h2 pins s σ H x y v u Q I rx ry)
theorem fin_bin {f : Store → D → D → Option D} {r : R2} (hd : OpD X G f r) {σ : St} {H : Hp} {Q : VK} (h : tE X.K G W (mBin f ma mb) σ H Q) : tOp r (tE X.K G W ma) (tE X.K G W mb) σ H Q := by
  obtain ⟨θ, N, ρ, S, st, fin⟩ := h
  refine ⟨θ, N, ρ, S, st, (Fin.bind fin).imp fun a θ1 N1 H1 l1 l2 ⟨ρ1, S1, st1, fin1⟩ x rx => ⟨θ1, N1, ρ1, S1, st1, (Fin.bind fin1).imp fun b θ2 N2 H2 l3 l4 ⟨ρ2, S2, st2, fin2⟩ y ry => ?_⟩⟩
  cases e : f S2 a b with
  | none => rw [e] at fin2; exact fin2.elim
  | some d =>
    rw [e] at fin2
    exact hd θ2 N2 ρ2 S2 σ H2 a b d x y Q st2 (rx.mono l3 l4) ry e fun N' H' v l s r => fin2 θ2 N' H' (LeT.refl _) l s v r
theorem s_bin {op : Operator} {f : Store → D → D → Option D} {r : R2} (ho : OpR X (binaryOp op) r) (hd : OpD X G f r) (ha : PE X a (tE X.K G W ma)) (hb : PE X b (tE X.K G W mb)) : PE X (.BinOp a op b pos) (tE X.K G W (mBin f ma mb)) :=
  (pe_op ho ha hb).imp fun _ _ _ => fin_bin hd
theorem s_cmpR {op : CmpOp} {f : Store → D → D → Option D} {r : R2} (ho : OpR X (compareOp op) r) (hd : OpD X G f r) (ha : PE X a (tE X.K G W ma)) (hb : PE X b (tE X.K G W mb)) (hm : behindInMarks op b = false) : PE X (.Compare a [op] [b] pos) (tE X.K G W (mBin f ma mb)) :=
  (pe_cmpR ho ha hb hm).imp fun _ _ _ => fin_bin hd

/-! ### + - * // % ** -/
def dAdd : Store → D → D → Option D := fun _ x y => match x, y with
  | .int i, .int j => some (.int (i + j))
  | .str a, .str b => if a.length + b.length ≤ sizeLine then some (.str (a ++ b)) else none
  | .lst a, .lst b => if a.length + b.length ≤ sizeLine then some (.lst (a ++ b)) else none
  | .tup a, .tup b => if a ≠ [] ∧ b ≠ [] ∧ a.length + b.length ≤ sizeLine then some (.tup (a ++ b)) else none
  | _, _ => none
theorem okText.append {a b : List Nat} (h1 : okText a) (h2 : okText b) : okText (a ++ b) := fun c hc => (List.mem_append.mp hc).elim (h1 c) (h2 c)
theorem str_app (a b : List Nat) : (⟨a.toArray⟩ : Str) ++ ⟨b.toArray⟩ = ⟨(a ++ b).toArray⟩ := by
  show (⟨a.toArray ++ b.toArray⟩ : Str) = _
  rw [List.append_toArray]
def rAddA (K : PySem.W.Frag) : R2 := rOr (rI0 fun i j => .int (i + j)) (rOr (fun x y H Q => ∃ i j : Str, x = .str i ∧ y = .str j ∧ i.length + j.length ≤ sizeLine ∧ Q (.str (i ++ j)) H) (rOr rCat (rCatT K)))
theorem op_addA : OpR X (binaryOp .Add) (rAddA X.K) := OpR.or op_add (OpR.or op_add_str (OpR.or op_cat op_catT))
theorem od_add : OpD X G dAdd (rAddA X.K) := by
  intro θ N ρ S σ H a b d x y Q st ra rb e k
  unfold dAdd at e
  split at e
  · cases e; cases ra; cases rb
    exact .inl ⟨_, _, rfl, rfl, k N H _ (Same.refl _) st rfl⟩
  · split at e
    · cases e
      obtain ⟨rfl, t1⟩ := ra
      obtain ⟨rfl, t2⟩ := rb
      refine .inr (.inl ⟨_, _, rfl, rfl, ‹_›, k N H _ (Same.refl _) st ⟨?_, t1.append t2⟩⟩)
      rw [str_app]
    · cases e
  · split at e
    · cases e
      obtain ⟨p, vs, rfl, h1, r1⟩ := ra
      obtain ⟨q, us, rfl, h2, r2⟩ := rb
      refine .inr (.inr (.inl ⟨p, q, vs, us, rfl, rfl, st.hs.sub _ _ h1, st.hs.sub _ _ h2, by rw [r1.length, r2.length]; assumption, fun z hz => ?_⟩))
      have mN := same_upd (o := .lst (vs ++ us)) (st.fresh hz)
      exact k _ _ _ mN (st.alloc hz _) ⟨z, vs ++ us, rfl, upd_same, (r1.append r2).mono (LeT.refl _) mN⟩
    · cases e
  · split at e
    · rename_i h
      cases e
      obtain ⟨p, vs, rfl, h1, r1⟩ := ra
      obtain ⟨q, us, rfl, h2, r2⟩ := rb
      have l1 := r1.length
      have l2 := r2.length
      have n1 : vs ≠ [] := fun z => h.1 (List.length_eq_zero_iff.mp (by rw [← l1, z]; rfl))
      have n2 : us ≠ [] := fun z => h.2.1 (List.length_eq_zero_iff.mp (by rw [← l2, z]; rfl))
      refine .inr (.inr (.inr ⟨p, q, vs, us, rfl, rfl, same_sqT st.hs.sub h1, same_sqT st.hs.sub h2, n1, by rw [l1, l2]; exact h.2.2, fun z => absurd z n2, fun _ z hz => ?_⟩))
      have mN := same_upd (o := .tup (vs ++ us)) (st.fresh hz)
      exact k _ _ _ mN (st.alloc hz _) ⟨z, vs ++ us, rfl, .of upd_same, (r1.append r2).mono (LeT.refl _) mN⟩
    · cases e
  · cases e
theorem s_add (ha : PE X a (tE X.K G W ma)) (hb : PE X b (tE X.K G W mb)) : PE X (.BinOp a .Add b pos) (tE X.K G W (mBin dAdd ma mb)) := s_bin op_addA od_add ha hb
/-- ints under a condition -/
def dI (c : Int → Int → Bool) (f : Int → Int → D) : Store → D → D → Option D := fun _ x y => match x, y with
  | .int i, .int j => if c i j then some (f i j) else none
  | _, _ => none
theorem od_I {C : Int → Int → Prop} {c : Int → Int → Bool} {f : Int → Int → D} {g : Int → Int → V} (hc : ∀ i j, c i j = true → C i j) (hg : ∀ θ N i j, Rep X.K θ N (f i j) (g i j)) : OpD X G (dI c f) (rI C g) := by
  intro θ N ρ S σ H a b d x y Q st ra rb e k
  unfold dI at e
  split at e
  · split at e
    · cases e; cases ra; cases rb
      exact ⟨_, _, rfl, rfl, hc _ _ ‹_›, k N H _ (Same.refl _) st (hg θ N _ _)⟩
    · cases e
  · cases e
def dI0 (f : Int → Int → D) : Store → D → D → Option D := fun _ x y => match x, y with
  | .int i, .int j => some (f i j)
  | _, _ => none
theorem od_I0 {f : Int → Int → D} {g : Int → Int → V} (hg : ∀ θ N i j, Rep X.K θ N (f i j) (g i j)) : OpD X G (dI0 f) (rI0 g) := by
  intro θ N ρ S σ H a b d x y Q st ra rb e k
  unfold dI0 at e
  split at e
  · cases e; cases ra; cases rb
    exact ⟨_, _, rfl, rfl, k N H _ (Same.refl _) st (hg θ N _ _)⟩
  · cases e
def dSub : Store → D → D → Option D := dI0 fun i j => .int (i - j)
def dMulI : Store → D → D → Option D := dI (fun i j => decide (-(2 ^ 64) < i ∧ i < 2 ^ 64) || decide (-(2 ^ 64) < j ∧ j < 2 ^ 64)) fun i j => .int (i * j)
def dFdiv : Store → D → D → Option D := dI (fun _ j => decide (0 < j ∧ j < 1073741824)) fun i j => .int (i / j)
def dMod : Store → D → D → Option D := dI (fun _ j => decide (0 < j)) fun i j => .int (i % j)
def dPow : Store → D → D → Option D := dI (fun i j => decide (0 ≤ j ∧ j ≤ 1000000 ∧ i.natAbs < 2 ^ 64)) fun i j => .int (i ^ j.toNat)
theorem s_sub (ha : PE X a (tE X.K G W ma)) (hb : PE X b (tE X.K G W mb)) : PE X (.BinOp a .Sub b pos) (tE X.K G W (mBin dSub ma mb)) := s_bin op_sub (od_I0 fun _ _ _ _ => rfl) ha hb
theorem s_mulI (ha : PE X a (tE X.K G W ma)) (hb : PE X b (tE X.K G W mb)) : PE X (.BinOp a .Mult b pos) (tE X.K G W (mBin dMulI ma mb)) :=
  s_bin op_mul (od_I (fun i j h => by simpa [CMul] using h) fun _ _ _ _ => rfl) ha hb
theorem s_fdiv (ha : PE X a (tE X.K G W ma)) (hb : PE X b (tE X.K G W mb)) : PE X (.BinOp a .FloorDiv b pos) (tE X.K G W (mBin dFdiv ma mb)) :=
  s_bin op_fdiv (od_I (fun i j h => by simpa [CDiv] using h) fun _ _ _ _ => rfl) ha hb
theorem s_mod (ha : PE X a (tE X.K G W ma)) (hb : PE X b (tE X.K G W mb)) : PE X (.BinOp a .Mod b pos) (tE X.K G W (mBin dMod ma mb)) :=
  s_bin op_mod (od_I (fun i j h => by simpa using h) fun _ _ _ _ => rfl) ha hb
theorem s_pow (ha : PE X a (tE X.K G W ma)) (hb : PE X b (tE X.K G W mb)) : PE X (.BinOp a .Pow b pos) (tE X.K G W (mBin dPow ma mb)) :=
  s_bin op_pow (od_I (fun i j h => by simpa [CPow] using h) fun _ _ _ _ => rfl) ha hb

/-! ### comparisons of ints -/
def dLt : Store → D → D → Option D := dI0 fun i j => .bl (decide (i < j))
def dLe : Store → D → D → Option D := dI0 fun i j => .bl (decide (i ≤ j))
def dGt : Store → D → D → Option D := dI0 fun i j => .bl (decide (j < i))
def dGe : Store → D → D → Option D := dI0 fun i j => .bl (decide (j ≤ i))
theorem s_lt (ha : PE X a (tE X.K G W ma)) (hb : PE X b (tE X.K G W mb)) : PE X (.Compare a [.Lt] [b] pos) (tE X.K G W (mBin dLt ma mb)) := s_cmpR op_lt (od_I0 fun _ _ _ _ => rfl) ha hb (nomark _)
theorem s_le (ha : PE X a (tE X.K G W ma)) (hb : PE X b (tE X.K G W mb)) : PE X (.Compare a [.LtE] [b] pos) (tE X.K G W (mBin dLe ma mb)) := s_cmpR op_le (od_I0 fun _ _ _ _ => rfl) ha hb (nomark _)
theorem s_gt (ha : PE X a (tE X.K G W ma)) (hb : PE X b (tE X.K G W mb)) : PE X (.Compare a [.Gt] [b] pos) (tE X.K G W (mBin dGt ma mb)) := s_cmpR op_gt (od_I0 fun _ _ _ _ => rfl) ha hb (nomark _)
theorem s_ge (ha : PE X a (tE X.K G W ma)) (hb : PE X b (tE X.K G W mb)) : PE X (.Compare a [.GtE] [b] pos) (tE X.K G W (mBin dGe ma mb)) := s_cmpR op_ge (od_I0 fun _ _ _ _ => rfl) ha hb (nomark _)
end
end DL

namespace DL
open PySem PySem.Spec L2

/-! ## values as data: ==, in -/
def allO {α β : Type} (f : α → Option β) : List α → Option (List β)
  | [] => some []
  | x :: r => match f x, allO f r with
    | some y, some ys => some (y :: ys)
    | _, _ => none
def resD (S : Store) : Nat → D → Option PyData
  | _, .non => some .none
  | _, .bl b => some (.bool b)
  | _, .int i => some (.int i)
  | _, .str x => some (.str ⟨x.toArray⟩)
  | n + 1, .tup xs => (allO (resD S n) xs).map .tuple
  | n + 1, .lst xs => (allO (resD S n) xs).map .list
  | n + 1, .ref k => match S[k]? with
    | some (.lst xs) => (allO (resD S n) xs).map .list
    | _ => none
  | n + 1, .scr xs => (allO (resD S n) xs).map .list
  | _, _ => none
theorem strOk_of {x : List Nat} (h : okText x) : PyData.strOk (⟨x.toArray⟩ : Str) = true := by
  unfold PyData.strOk
  rw [← Array.all_toList]
  exact List.all_eq_true.mpr fun c hc => decide_eq_true (h c hc)
section
variable {K : PySem.W.Frag} {θ : Th} {N H : Hp} {S : Store}
theorem res_all {f : D → Option PyData} {n : Nat} (ih : ∀ d p v, Rep K θ N d v → f d = some p → Dp K H v p ∧ p.canLay0 = true ∧ p.depth ≤ n) : ∀ (xs : List D) (ps : List PyData) (vs : List V), Reps K θ N xs vs → allO f xs = some ps → DpAll K H vs ps ∧ PyData.canLayAll0 ps = true ∧ PyData.depthAll ps ≤ n
  | [], ps, vs, r, e => by
    cases e; cases r
    exact ⟨.nil, rfl, Nat.zero_le _⟩
  | x :: xs, ps, vs, r, e => by
    obtain ⟨v, us, rfl, r1, r2⟩ := r
    unfold allO at e
    split at e
    · rename_i y ys e1 e2
      cases e
      obtain ⟨a1, a2, a3⟩ := ih x y v r1 e1
      obtain ⟨b1, b2, b3⟩ := res_all ih xs ys us r2 e2
      exact ⟨.cons a1 b1, by rw [PyData.canLayAll0, a2, b2]; rfl, by rw [PyData.depthAll]; exact Nat.max_le.mpr ⟨a3, b3⟩⟩
    · cases e
theorem res_ok (hs : HS K θ N S H) : ∀ (n : Nat) (d : D) (p : PyData) (v : V), Rep K θ N d v → resD S n d = some p → Dp K H v p ∧ p.canLay0 = true ∧ p.depth ≤ n
  | n, .non, p, v, r, e => by cases n <;> (cases e; cases r; exact ⟨.non, rfl, Nat.zero_le _⟩)
  | n, .bl b, p, v, r, e => by cases n <;> (cases e; cases r; exact ⟨.bl b, rfl, Nat.zero_le _⟩)
  | n, .int i, p, v, r, e => by cases n <;> (cases e; cases r; exact ⟨.int i, rfl, Nat.zero_le _⟩)
  | n, .str x, p, v, r, e => by
    obtain ⟨rfl, t⟩ := r
    cases n <;> (cases e; exact ⟨.str _, strOk_of t, Nat.zero_le _⟩)
  | 0, .tup _, p, v, r, e => by cases e
  | 0, .lst _, p, v, r, e => by cases e
  | 0, .ref _, p, v, r, e => by cases e
  | 0, .scr _, p, v, r, e => by cases e
  | n, .obj _ _ _, p, v, r, e => by cases n <;> cases e
  | n + 1, .tup xs, p, v, r, e => by
    obtain ⟨a, vs, rfl, h1, r1⟩ := r
    obtain ⟨ps, e1, rfl⟩ := Option.map_eq_some_iff.mp e
    obtain ⟨b1, b2, b3⟩ := res_all (res_ok hs n) xs ps vs r1 e1
    exact ⟨.tup (same_sqT hs.sub h1) b1, b2, by rw [PyData.depth]; omega⟩
  | n + 1, .lst xs, p, v, r, e => by
    obtain ⟨a, vs, rfl, h1, r1⟩ := r
    obtain ⟨ps, e1, rfl⟩ := Option.map_eq_some_iff.mp e
    obtain ⟨b1, b2, b3⟩ := res_all (res_ok hs n) xs ps vs r1 e1
    exact ⟨.lst (.of (hs.sub _ _ h1)) b1, b2, by rw [PyData.depth]; omega⟩
  | n + 1, .ref k, p, v, r, e => by
    obtain ⟨a, e0, rfl⟩ := r
    unfold resD at e
    split at e
    · rename_i xs e1
      obtain ⟨ps, e2, rfl⟩ := Option.map_eq_some_iff.mp e
      obtain ⟨a', e3, vs, h1, r1⟩ := hs.cell k _ e1
      rw [e0] at e3; cases e3
      obtain ⟨b1, b2, b3⟩ := res_all (res_ok hs n) xs ps vs r1 e2
      exact ⟨.lst (.of h1) b1, b2, by rw [PyData.depth]; omega⟩
    · cases e
  | n + 1, .scr xs, p, v, r, e => by
    obtain ⟨a, vs, rfl, h1, r1⟩ := r
    obtain ⟨ps, e1, rfl⟩ := Option.map_eq_some_iff.mp e
    obtain ⟨b1, b2, b3⟩ := res_all (res_ok hs n) xs ps vs r1 e1
    exact ⟨.lst (same_sqL hs.sub h1) b1, b2, by rw [PyData.depth]; omega⟩
theorem shaped_of {p : PyData} {n : Nat} (h : p.canLay0 = true) (hn : p.depth ≤ n) (h64 : n ≤ 64) : SeqAt.shaped p = true := by
  unfold SeqAt.shaped
  rw [h, decide_eq_true (Nat.le_trans hn h64)]
  rfl
end
def dEq : Store → D → D → Option D := fun S x y => match resD S 40 x, resD S 40 y with
  | some p, some q => some (.bl (PyData.eqv p q))
  | _, _ => none
def dNe : Store → D → D → Option D := fun S x y => match resD S 40 x, resD S 40 y with
  | some p, some q => some (.bl (!PyData.eqv p q))
  | _, _ => none
/-- the items of a list -/
def lstOf (S : Store) : D → Option (List D)
  | .lst xs => some xs
  | .scr xs => some xs
  | .ref k => match S[k]? with
    | some (.lst xs) => some xs
    | _ => none
  | _ => none
def flatD : D → Bool
  | .non | .bl _ | .int _ | .str _ => true
  | _ => false
def dInB (S : Store) (x y : D) : Option Bool := match y with
  | .str b => match x with
    | .str [c] => some (decide (c ∈ b))
    | _ => none
  | .tup ys => match resD S 0 x, allO (resD S 0) ys with
    | some p, some ps => some (ps.any fun z => PyData.eqv z p)
    | _, _ => none
  | _ => match resD S 40 x, resD S 40 y with
    | some p, some (.list ps) => some (ps.any fun z => PyData.eqv z p)
    | _, _ => none
def dIn : Store → D → D → Option D := fun S x y => (dInB S x y).map .bl
def dNotIn : Store → D → D → Option D := fun S x y => (dInB S x y).map fun b => .bl !b
def vOf : D → V
  | .bl b => .bl b
  | .int i => .int i
  | .str x => .str ⟨x.toArray⟩
  | _ => .non
theorem rep_flat {K : PySem.W.Frag} {θ : Th} {N : Hp} {S : Store} {d : D} {v : V} {p : PyData} (r : Rep K θ N d v) (h : resD S 0 d = some p) : v = vOf d := by
  cases d with
  | non => exact r
  | bl b => exact r
  | int i => exact r
  | str x => exact r.1
  | _ => cases h
theorem flat_eqv {K : PySem.W.Frag} {θ : Th} {N : Hp} {S : Store} {d d' : D} {v v' : V} {p p' : PyData} (r : Rep K θ N d v) (r' : Rep K θ N d' v') (h : resD S 0 d = some p) (h' : resD S 0 d' = some p') : flatV v = true ∧ eqV v v' = PyData.eqv p p' := by
  rw [rep_flat r h, rep_flat r' h']
  cases d <;> first | (cases h; done) | skip
  all_goals cases d' <;> first | (cases h'; done) | skip
  all_goals (cases h; cases h'; refine ⟨rfl, ?_⟩; simp [vOf, eqV, PyData.eqv])
theorem flat_all {K : PySem.W.Frag} {θ : Th} {N : Hp} {S : Store} {x : D} {v : V} {p : PyData} (r : Rep K θ N x v) (h : resD S 0 x = some p) : ∀ (ys : List D) (ps : List PyData) (us : List V), Reps K θ N ys us → allO (resD S 0) ys = some ps → us.all flatV = true ∧ inV v us = ps.any fun z => PyData.eqv z p
  | [], ps, us, q, e => by cases e; cases q; exact ⟨rfl, rfl⟩
  | y :: ys, ps, us, q, e => by
    obtain ⟨u, us', rfl, q1, q2⟩ := q
    unfold allO at e
    split at e
    · rename_i z zs e1 e2
      cases e
      obtain ⟨a1, a2⟩ := flat_eqv q1 r e1 h
      obtain ⟨b1, b2⟩ := flat_all r h ys zs us' q2 e2
      unfold inV at b2
      exact ⟨by simp only [List.all_cons, a1, b1, Bool.and_self], by unfold inV; simp only [List.any_cons, a2, b2]⟩
    · cases e
section
variable {X : Cx} {G : Ent} {W : WX} {a b : Expr} {ma mb mc : M D} {pos : Pos} {k : Nat}
theorem od_eq : OpD X G dEq (rEqD X.K) := by
  intro θ N ρ S σ H a b d x y Q st ra rb e k
  unfold dEq at e
  split at e
  · rename_i p q e1 e2
    cases e
    obtain ⟨a1, a2, a3⟩ := res_ok st.hs _ _ _ _ ra e1
    obtain ⟨b1, b2, b3⟩ := res_ok st.hs _ _ _ _ rb e2
    exact ⟨p, q, a1, b1, shaped_of a2 a3 (by decide), shaped_of b2 b3 (by decide), k N H _ (Same.refl _) st rfl⟩
  · cases e
theorem od_ne : OpD X G dNe (rNeD X.K) := by
  intro θ N ρ S σ H a b d x y Q st ra rb e k
  unfold dNe at e
  split at e
  · rename_i p q e1 e2
    cases e
    obtain ⟨a1, a2, a3⟩ := res_ok st.hs _ _ _ _ ra e1
    obtain ⟨b1, b2, b3⟩ := res_ok st.hs _ _ _ _ rb e2
    exact ⟨p, q, a1, b1, shaped_of a2 a3 (by decide), shaped_of b2 b3 (by decide), k N H _ (Same.refl _) st rfl⟩
  · cases e
theorem s_eq (hr : Room k X.A) (ha : PE X a (tE X.K G W ma)) (hb : PE X b (tE X.K G W mb)) : PE X (.Compare a [.Eq] [b] pos) (tE X.K G W (mBin dEq ma mb)) := s_cmpR (op_eqD hr.units) od_eq ha hb (nomark _)
theorem s_ne (hr : Room k X.A) (ha : PE X a (tE X.K G W ma)) (hb : PE X b (tE X.K G W mb)) : PE X (.Compare a [.NotEq] [b] pos) (tE X.K G W (mBin dNe ma mb)) := s_cmpR (op_neD hr.units) od_ne ha hb (nomark _)
theorem inB_of {θ : Th} {N : Hp} {ρ : DEnv} {S : Store} {σ : St} {H : Hp} {a b : D} {c : Bool} {x y : V} (st : Stt X.K G θ N ρ S σ H) (ra : Rep X.K θ N a x) (rb : Rep X.K θ N b y) (e : dInB S a b = some c) :
    (∃ (n : Nat) (z : Str), x = .str ⟨#[n]⟩ ∧ y = .str z ∧ c = decide (n ∈ z.cps.toList)) ∨ (∃ p xs, y = .ref p ∧ (SqL X.K H p xs ∨ SqT X.K H p xs) ∧ flatV x = true ∧ xs.all flatV = true ∧ c = inV x xs) ∨
    ∃ d ds, Dp X.K H x d ∧ Dp X.K H y (.list ds) ∧ SeqAt.shaped d = true ∧ SeqAt.shaped (.list ds) = true ∧ c = ds.any fun z => PyData.eqv z d := by
  unfold dInB at e
  split at e
  · split at e
    · cases e
      obtain ⟨rfl, _⟩ := ra
      obtain ⟨rfl, _⟩ := rb
      exact .inl ⟨_, _, rfl, rfl, rfl⟩
    · cases e
  · split at e
    · rename_i p ps e1 e2
      cases e
      obtain ⟨q, us, rfl, h1, r1⟩ := rb
      obtain ⟨f1, f2⟩ := flat_all ra e1 _ ps us r1 e2
      exact .inr (.inl ⟨q, us, rfl, .inr (same_sqT st.hs.sub h1), (flat_eqv ra ra e1 e1).1, f1, f2.symm⟩)
    · cases e
  · split at e
    · rename_i p ps e1 e2
      cases e
      obtain ⟨a1, a2, a3⟩ := res_ok st.hs _ _ _ _ ra e1
      obtain ⟨b1, b2, b3⟩ := res_ok st.hs _ _ _ _ rb e2
      exact .inr (.inr ⟨p, ps, a1, b1, shaped_of a2 a3 (by decide), shaped_of b2 b3 (by decide), rfl⟩)
    · cases e
def rInA (K : PySem.W.Frag) : R2 := rOr (fun x y H Q => ∃ (c : Nat) (z : Str), x = .str ⟨#[c]⟩ ∧ y = .str z ∧ Q (.bl (decide (c ∈ z.cps.toList))) H) (rOr (rIn K false) (rInD K))
def rNotInA (K : PySem.W.Frag) : R2 := rOr (fun x y H Q => ∃ (c : Nat) (z : Str), x = .str ⟨#[c]⟩ ∧ y = .str z ∧ Q (.bl (!decide (c ∈ z.cps.toList))) H) (rOr (rIn K true) (rNotInD K))
theorem od_in : OpD X G dIn (rInA X.K) := by
  intro θ N ρ S σ H a b d x y Q st ra rb e k
  obtain ⟨c, e1, rfl⟩ := Option.map_eq_some_iff.mp e
  have k1 := k N H (.bl c) (Same.refl _) st rfl
  rcases inB_of st ra rb e1 with ⟨n, z, h1, h2, rfl⟩ | ⟨p, xs, h1, h2, h3, h4, rfl⟩ | ⟨p, ps, h1, h2, h3, h4, rfl⟩
  · exact .inl ⟨n, z, h1, h2, k1⟩
  · exact .inr (.inl ⟨p, xs, h1, h2, h3, h4, k1⟩)
  · exact .inr (.inr ⟨p, ps, h1, h2, h3, h4, k1⟩)
theorem od_notIn : OpD X G dNotIn (rNotInA X.K) := by
  intro θ N ρ S σ H a b d x y Q st ra rb e k
  obtain ⟨c, e1, rfl⟩ := Option.map_eq_some_iff.mp e
  have k1 := k N H (.bl !c) (Same.refl _) st rfl
  rcases inB_of st ra rb e1 with ⟨n, z, h1, h2, rfl⟩ | ⟨p, xs, h1, h2, h3, h4, rfl⟩ | ⟨p, ps, h1, h2, h3, h4, rfl⟩
  · exact .inl ⟨n, z, h1, h2, k1⟩
  · exact .inr (.inl ⟨p, xs, h1, h2, h3, h4, k1⟩)
  · exact .inr (.inr ⟨p, ps, h1, h2, h3, h4, k1⟩)
theorem room65 (hr : Room k X.A) : X.A.units + 65 < cLine := by have := hr.un; omega
theorem s_in (hr : Room k X.A) (ha : PE X a (tE X.K G W ma)) (hb : PE X b (tE X.K G W mb)) (hm : behindInMarks .In b = false := by rfl) : PE X (.Compare a [.In] [b] pos) (tE X.K G W (mBin dIn ma mb)) :=
  s_cmpR (OpR.or op_in_sign (OpR.or op_in_seq (op_inD (room65 hr)))) od_in ha hb hm
theorem s_notIn (hr : Room k X.A) (ha : PE X a (tE X.K G W ma)) (hb : PE X b (tE X.K G W mb)) (hm : behindInMarks .NotIn b = false := by rfl) : PE X (.Compare a [.NotIn] [b] pos) (tE X.K G W (mBin dNotIn ma mb)) :=
  s_cmpR (OpR.or op_notIn_sign (OpR.or op_notIn_seq (op_notInD (room65 hr)))) od_notIn ha hb hm
/-! ### is None, is True -/
def isNonD : D → Bool
  | .non => true
  | _ => false
theorem rep_non {K : PySem.W.Frag} {θ : Th} {N : Hp} {d : D} {v : V} (r : Rep K θ N d v) : decide (v = .non) = isNonD d := by
  cases d with
  | non => cases r; rfl
  | bl b => cases r; rfl
  | int i => cases r; rfl
  | str x => obtain ⟨rfl, _⟩ := r; rfl
  | tup xs => obtain ⟨a, vs, rfl, _⟩ := r; rfl
  | lst xs => obtain ⟨a, vs, rfl, _⟩ := r; rfl
  | obj c ns xs => obtain ⟨a, dx, fs, rfl, _⟩ := r; rfl
  | ref n => obtain ⟨a, _, rfl⟩ := r; rfl
  | scr xs => obtain ⟨a, vs, rfl, _⟩ := r; rfl
def dIs : Store → D → D → Option D := fun _ x y => match y with
  | .non => some (.bl (isNonD x))
  | .bl b => match x with
    | .bl a => some (.bl (decide (a = b)))
    | _ => none
  | _ => none
def dIsNot : Store → D → D → Option D := fun _ x y => match y with
  | .non => some (.bl !(isNonD x))
  | .bl b => match x with
    | .bl a => some (.bl (!decide (a = b)))
    | _ => none
  | _ => none
theorem od_is : OpD X G dIs (rOr (fun x y H Q => y = .non ∧ Q (.bl (decide (x = .non))) H) rIsB) := by
  intro θ N ρ S σ H a b d x y Q st ra rb e k
  unfold dIs at e
  split at e
  · cases e; cases rb
    refine .inl ⟨rfl, ?_⟩
    rw [rep_non ra]
    exact k N H _ (Same.refl _) st rfl
  · split at e
    · cases e; cases ra; cases rb
      exact .inr ⟨_, _, rfl, rfl, k N H _ (Same.refl _) st rfl⟩
    · cases e
  · cases e
theorem od_isNot : OpD X G dIsNot (rOr (fun x y H Q => y = .non ∧ Q (.bl (!decide (x = .non))) H) rNotB) := by
  intro θ N ρ S σ H a b d x y Q st ra rb e k
  unfold dIsNot at e
  split at e
  · cases e; cases rb
    refine .inl ⟨rfl, ?_⟩
    rw [rep_non ra]
    exact k N H _ (Same.refl _) st rfl
  · split at e
    · cases e; cases ra; cases rb
      exact .inr ⟨_, _, rfl, rfl, k N H _ (Same.refl _) st rfl⟩
    · cases e
  · cases e
theorem s_is (ha : PE X a (tE X.K G W ma)) (hb : PE X b (tE X.K G W mb)) : PE X (.Compare a [.Is] [b] pos) (tE X.K G W (mBin dIs ma mb)) := s_cmpR (OpR.or op_isN op_isBl) od_is ha hb (nomark _)
theorem s_isNot (ha : PE X a (tE X.K G W ma)) (hb : PE X b (tE X.K G W mb)) : PE X (.Compare a [.IsNot] [b] pos) (tE X.K G W (mBin dIsNot ma mb)) := s_cmpR (OpR.or op_notN op_notBl) od_isNot ha hb (nomark _)
end
end DL

namespace DL
open PySem PySem.Spec L2

/-! ## comparisons by a table -/
def CmpD (X : Cx) (G : Ent) (op : CmpOp) (f : Store → D → D → Option D) : Prop := ∃ r : R2, OpR X (compareOp op) r ∧ OpD X G f r
def mTest (m : M D) : M Bool := fun ρ S => (m ρ S).bind fun d ρ1 S1 => match d with
  | .bl b => .ok b ρ1 S1
  | _ => .bad
section
variable {X : Cx} {G : Ent} {W : WX} {a b c e : Expr} {ma mb mc m : M D} {pos : Pos} {k : Nat} {op op' : CmpOp} {f f' : Store → D → D → Option D}
theorem fin_test {σ : St} {H : Hp} {Q : Bool → Hp → Prop} (h : tT X.K G W (mTest m) σ H Q) : tE X.K G W m σ H fun x H1 => ∃ c, x = .bl c ∧ Q c H1 := by
  obtain ⟨θ, N, ρ, S, st, fin⟩ := h
  refine ⟨θ, N, ρ, S, st, (Fin.bind fin).imp fun d θ1 N1 H1 l1 l2 ⟨ρ1, S1, st1, fin1⟩ x rx => ?_⟩
  split at fin1
  · cases rx
    exact ⟨_, rfl, fin1 θ1 N1 H1 (LeT.refl _) (Same.refl _) st1⟩
  · exact fin1.elim
theorem c_eq (hr : Room k X.A) : CmpD X G .Eq dEq := ⟨_, op_eqD hr.units, od_eq⟩
theorem c_ne (hr : Room k X.A) : CmpD X G .NotEq dNe := ⟨_, op_neD hr.units, od_ne⟩
theorem c_lt : CmpD X G .Lt dLt := ⟨_, op_lt, od_I0 fun _ _ _ _ => rfl⟩
theorem c_le : CmpD X G .LtE dLe := ⟨_, op_le, od_I0 fun _ _ _ _ => rfl⟩
theorem c_gt : CmpD X G .Gt dGt := ⟨_, op_gt, od_I0 fun _ _ _ _ => rfl⟩
theorem c_ge : CmpD X G .GtE dGe := ⟨_, op_ge, od_I0 fun _ _ _ _ => rfl⟩
theorem c_is : CmpD X G .Is dIs := ⟨_, OpR.or op_isN op_isBl, od_is⟩
theorem c_isNot : CmpD X G .IsNot dIsNot := ⟨_, OpR.or op_notN op_notBl, od_isNot⟩
theorem c_in (hr : Room k X.A) : CmpD X G .In dIn := ⟨_, OpR.or op_in_sign (OpR.or op_in_seq (op_inD (room65 hr))), od_in⟩
theorem c_notIn (hr : Room k X.A) : CmpD X G .NotIn dNotIn := ⟨_, OpR.or op_notIn_sign (OpR.or op_notIn_seq (op_notInD (room65 hr))), od_notIn⟩
theorem s_cmp (h : CmpD X G op f) (ha : PE X a (tE X.K G W ma)) (hb : PE X b (tE X.K G W mb)) (hm : behindInMarks op b = false := by first | exact nomark _ | rfl) : PE X (.Compare a [op] [b] pos) (tE X.K G W (mBin f ma mb)) := by
  obtain ⟨r, ho, hd⟩ := h
  exact (pe_cmpR ho ha hb hm).imp fun _ _ _ => fin_bin hd
theorem t_cmp (h : CmpD X G op f) (ha : PE X a (tE X.K G W ma)) (hb : PE X b (tE X.K G W mb)) (hm : behindInMarks op b = false := by first | exact nomark _ | rfl) : PT X (.Compare a [op] [b] pos) (tT X.K G W (mTest (mBin f ma mb))) := by
  obtain ⟨r, ho, hd⟩ := h
  exact (pt_cmpR ho ha hb hm).imp fun σ H Q q => fin_bin hd (fin_test q)
/-- a < b < c -/
def mChain (f f' : Store → D → D → Option D) (ma mb mc : M D) : M D := fun ρ S => (ma ρ S).bind fun a ρ1 S1 => (mb ρ1 S1).bind fun b ρ2 S2 => match f S2 a b with
  | some (.bl true) => (mc ρ2 S2).bind fun c ρ3 S3 => Res.ofO (f' S3 b c) ρ3 S3
  | some (.bl false) => .ok (.bl false) ρ2 S2
  | _ => .bad
theorem fin_chain {r r' : R2} (hd : OpD X G f r) (hd' : OpD X G f' r') {σ : St} {H : Hp} {Q : VK} (h : tE X.K G W (mChain f f' ma mb mc) σ H Q) : tChain r r' (tE X.K G W ma) (tE X.K G W mb) (tE X.K G W mc) σ H Q := by
  obtain ⟨θ, N, ρ, S, st, fin⟩ := h
  refine ⟨θ, N, ρ, S, st, (Fin.bind fin).imp fun a θ1 N1 H1 l1 l2 ⟨ρ1, S1, st1, fin1⟩ x rx => ⟨θ1, N1, ρ1, S1, st1, (Fin.bind fin1).imp fun b θ2 N2 H2 l3 l4 ⟨ρ2, S2, st2, fin2⟩ y ry => ?_⟩⟩
  have k1 : ∀ d, f S2 a b = some d → (∀ N' H' v, Same N2 N' → Stt X.K G θ2 N' ρ2 S2 σ H' → Rep X.K θ2 N' d v → (fun z H3 => ∃ k, z = V.bl k ∧ if k = true then tE X.K G W mc σ H3 fun w H4 => r' y w H4 Q else Q (V.bl false) H3) v H') → r x y H2 (fun z H3 => ∃ k, z = V.bl k ∧ if k = true then tE X.K G W mc σ H3 fun w H4 => r' y w H4 Q else Q (V.bl false) H3) := fun d e =>
    hd θ2 N2 ρ2 S2 σ H2 a b d x y _ st2 (rx.mono l3 l4) ry e
  split at fin2
  · rename_i e
    refine k1 _ e fun N' H' v l s rv => ?_
    cases rv
    refine ⟨true, rfl, ?_⟩
    rw [if_pos rfl]
    refine ⟨θ2, N', ρ2, S2, s, (Fin.bind (Fin.weak (LeT.refl _) l fin2)).imp fun c θ3 N3 H3 l5 l6 ⟨ρ3, S3, st3, fin3⟩ w rw' => ?_⟩
    cases e3 : f' S3 b c with
    | none => rw [e3] at fin3; exact fin3.elim
    | some d =>
      rw [e3] at fin3
      exact hd' θ3 N3 ρ3 S3 σ H3 b c d y w Q st3 (ry.mono l5 (l.trans l6)) rw' e3 fun N' H' v l s r => fin3 θ3 N' H' (LeT.refl _) l s v r
  · rename_i e
    refine k1 _ e fun N' H' v l s rv => ?_
    cases rv
    refine ⟨false, rfl, ?_⟩
    rw [if_neg Bool.false_ne_true]
    exact fin2 θ2 N' H' (LeT.refl _) l s _ rfl
  · exact fin2.elim
theorem s_chain (h : CmpD X G op f) (h' : CmpD X G op' f') (ha : PE X a (tE X.K G W ma)) (hb : PE X b (tE X.K G W mb)) (hc : PE X c (tE X.K G W mc)) (hm : lastMarks [op, op'] [b, c] = false := by with_unfolding_all rfl) : PE X (.Compare a [op, op'] [b, c] pos) (tE X.K G W (mChain f f' ma mb mc)) := by
  obtain ⟨r, ho, hd⟩ := h
  obtain ⟨r', ho', hd'⟩ := h'
  exact (pe_chain ho ho' ha hb hc hm).imp fun _ _ _ => fin_chain hd hd'
theorem t_chain (h : CmpD X G op f) (h' : CmpD X G op' f') (ha : PE X a (tE X.K G W ma)) (hb : PE X b (tE X.K G W mb)) (hc : PE X c (tE X.K G W mc)) (hm : lastMarks [op, op'] [b, c] = false := by with_unfolding_all rfl) : PT X (.Compare a [op, op'] [b, c] pos) (tT X.K G W (mTest (mChain f f' ma mb mc))) := by
  obtain ⟨r, ho, hd⟩ := h
  obtain ⟨r', ho', hd'⟩ := h'
  exact (pt_chain ho ho' ha hb hc hm).imp fun σ H Q q => fin_chain hd hd' (fin_test q)
/-! ### tests -/
theorem t_val (h : PE X e (tE X.K G W m)) (he : ∀ whole, isTrue e X.env whole = (do let v ← whole; standAt e.pos; holding [v] (truthy v)) := by intro _; rfl) : PT X e (tT X.K G W (mTest m)) :=
  (pt_val h he).imp fun σ H Q q => fin_test q
def mTAnd (ma mb : M Bool) : M Bool := fun ρ S => (ma ρ S).bind fun c ρ1 S1 => match c with
  | true => mb ρ1 S1
  | false => .ok false ρ1 S1
def mTOr (ma mb : M Bool) : M Bool := fun ρ S => (ma ρ S).bind fun c ρ1 S1 => match c with
  | true => .ok true ρ1 S1
  | false => mb ρ1 S1
def mTNot (ma : M Bool) : M Bool := fun ρ S => (ma ρ S).bind fun c ρ1 S1 => .ok (!c) ρ1 S1
variable {na nb : M Bool} {rest : List Expr}
theorem _root_.L2.PW.imp {X : Cx} {e : Expr} {t t' : TT} (h : PW X e t) (i : ∀ σ H Q, t' σ H Q → t σ H Q) : PW X e t' := ⟨fun wh pins s σ H Q I q => h.run wh pins s σ H Q I (i σ H Q q)⟩
theorem w_and1 (ha : PT X a (tT X.K G W na)) : PW X (.BoolOp .And [a] pos) (tT X.K G W na) := pw_and1 ha
theorem w_or1 (ha : PT X a (tT X.K G W na)) : PW X (.BoolOp .Or [a] pos) (tT X.K G W na) := pw_or1 ha
theorem w_and (ha : PT X a (tT X.K G W na)) (hb : PW X (.BoolOp .And (b :: rest) pos) (tT X.K G W nb)) : PW X (.BoolOp .And (a :: b :: rest) pos) (tT X.K G W (mTAnd na nb)) :=
  (pw_and ha hb).imp fun σ H Q ⟨θ, N, ρ, S, st, fin⟩ => ⟨θ, N, ρ, S, st, (Fin.bind fin).imp fun c θ1 N1 H1 l1 l2 ⟨ρ1, S1, st1, fin1⟩ => by
    cases c with
    | true => rw [if_pos rfl]; exact ⟨θ1, N1, ρ1, S1, st1, fin1⟩
    | false => rw [if_neg Bool.false_ne_true]; exact fin1 θ1 N1 H1 (LeT.refl _) (Same.refl _) st1⟩
theorem w_or (ha : PT X a (tT X.K G W na)) (hb : PW X (.BoolOp .Or (b :: rest) pos) (tT X.K G W nb)) : PW X (.BoolOp .Or (a :: b :: rest) pos) (tT X.K G W (mTOr na nb)) :=
  (pw_or ha hb).imp fun σ H Q ⟨θ, N, ρ, S, st, fin⟩ => ⟨θ, N, ρ, S, st, (Fin.bind fin).imp fun c θ1 N1 H1 l1 l2 ⟨ρ1, S1, st1, fin1⟩ => by
    cases c with
    | true => rw [if_pos rfl]; exact fin1 θ1 N1 H1 (LeT.refl _) (Same.refl _) st1
    | false => rw [if_neg Bool.false_ne_true]; exact ⟨θ1, N1, ρ1, S1, st1, fin1⟩⟩
theorem t_w (h : PW X e (tT X.K G W na)) : PT X e (tT X.K G W na) := h.pt
theorem t_not (ha : PT X a (tT X.K G W na)) : PT X (.UnaryOp .Not a pos) (tT X.K G W (mTNot na)) :=
  (pt_not ha).imp fun σ H Q ⟨θ, N, ρ, S, st, fin⟩ => ⟨θ, N, ρ, S, st, (Fin.bind fin).imp fun c θ1 N1 H1 l1 l2 ⟨ρ1, S1, st1, fin1⟩ => fin1 θ1 N1 H1 (LeT.refl _) (Same.refl _) st1⟩
/-! ### and, or, not as values -/
def mAnd (ma mb : M D) : M D := fun ρ S => (ma ρ S).bind fun d ρ1 S1 => match d with
  | .bl true => mb ρ1 S1
  | .bl false => .ok (.bl false) ρ1 S1
  | _ => .bad
def mOr (ma mb : M D) : M D := fun ρ S => (ma ρ S).bind fun d ρ1 S1 => match d with
  | .bl true => .ok (.bl true) ρ1 S1
  | .bl false => mb ρ1 S1
  | _ => .bad
def mNot (ma : M D) : M D := fun ρ S => (ma ρ S).bind fun d ρ1 S1 => match d with
  | .bl b => .ok (.bl !b) ρ1 S1
  | _ => .bad
theorem s_one {bop : BoolOp} (h : PE X a (tE X.K G W m)) : PE X (.BoolOp bop [a] pos) (tE X.K G W m) := pe_one h
theorem s_and (ha : PE X a (tE X.K G W ma)) (hb : PE X (.BoolOp .And (b :: rest) pos) (tE X.K G W mb)) : PE X (.BoolOp .And (a :: b :: rest) pos) (tE X.K G W (mAnd ma mb)) :=
  (pe_and ha hb).imp fun σ H Q ⟨θ, N, ρ, S, st, fin⟩ => ⟨θ, N, ρ, S, st, (Fin.bind fin).imp fun d θ1 N1 H1 l1 l2 ⟨ρ1, S1, st1, fin1⟩ x rx => by
    split at fin1
    · cases rx; refine ⟨true, rfl, ?_⟩; rw [if_pos rfl]; exact ⟨θ1, N1, ρ1, S1, st1, fin1⟩
    · cases rx; refine ⟨false, rfl, ?_⟩; rw [if_neg Bool.false_ne_true]; exact fin1 θ1 N1 H1 (LeT.refl _) (Same.refl _) st1 _ rfl
    · exact fin1.elim⟩
theorem s_or (ha : PE X a (tE X.K G W ma)) (hb : PE X (.BoolOp .Or (b :: rest) pos) (tE X.K G W mb)) : PE X (.BoolOp .Or (a :: b :: rest) pos) (tE X.K G W (mOr ma mb)) :=
  (pe_or ha hb).imp fun σ H Q ⟨θ, N, ρ, S, st, fin⟩ => ⟨θ, N, ρ, S, st, (Fin.bind fin).imp fun d θ1 N1 H1 l1 l2 ⟨ρ1, S1, st1, fin1⟩ x rx => by
    split at fin1
    · cases rx; refine ⟨true, rfl, ?_⟩; rw [if_pos rfl]; exact fin1 θ1 N1 H1 (LeT.refl _) (Same.refl _) st1 _ rfl
    · cases rx; refine ⟨false, rfl, ?_⟩; rw [if_neg Bool.false_ne_true]; exact ⟨θ1, N1, ρ1, S1, st1, fin1⟩
    · exact fin1.elim⟩
theorem s_not (ha : PE X a (tE X.K G W ma)) : PE X (.UnaryOp .Not a pos) (tE X.K G W (mNot ma)) :=
  (pe_not ha).imp fun σ H Q ⟨θ, N, ρ, S, st, fin⟩ => ⟨θ, N, ρ, S, st, (Fin.bind fin).imp fun d θ1 N1 H1 l1 l2 ⟨ρ1, S1, st1, fin1⟩ x rx => by
    split at fin1
    · cases rx; exact ⟨_, rfl, fin1 θ1 N1 H1 (LeT.refl _) (Same.refl _) st1 _ rfl⟩
    · exact fin1.elim⟩
def mIf (na : M Bool) (ma mb : M D) : M D := fun ρ S => (na ρ S).bind fun c ρ1 S1 => match c with
  | true => ma ρ1 S1
  | false => mb ρ1 S1
theorem s_ifExp (hc : PT X c (tT X.K G W na)) (ha : PE X a (tE X.K G W ma)) (hb : PE X b (tE X.K G W mb)) : PE X (.IfExp c a b pos) (tE X.K G W (mIf na ma mb)) :=
  (pe_ifExp hc ha hb).imp fun σ H Q ⟨θ, N, ρ, S, st, fin⟩ => ⟨θ, N, ρ, S, st, (Fin.bind fin).imp fun c θ1 N1 H1 l1 l2 ⟨ρ1, S1, st1, fin1⟩ => by
    cases c with
    | true => rw [if_pos rfl]; exact ⟨θ1, N1, ρ1, S1, st1, fin1⟩
    | false => rw [if_neg Bool.false_ne_true]; exact ⟨θ1, N1, ρ1, S1, st1, fin1⟩⟩
end

/-! ## arguments, displays -/
def mNil : M (List D) := fun ρ S => .ok [] ρ S
def mCons (m : M D) (ms : M (List D)) : M (List D) := fun ρ S => (m ρ S).bind fun d ρ1 S1 => (ms ρ1 S1).bind fun ds ρ2 S2 => .ok (d :: ds) ρ2 S2
def mTup (ms : M (List D)) : M D := fun ρ S => (ms ρ S).bind fun ds ρ1 S1 => if ds.length ≤ sizeLine then .ok (.tup ds) ρ1 S1 else .bad
/-- a new list that its maker may keep for itself -/
def tF (K : PySem.W.Frag) (G : Ent) (W : WX) (m : M (List D)) : TE := fun σ H Q => ∃ θ N ρ S, Stt K G θ N ρ S σ H ∧ Fin K G W θ N σ (m ρ S) fun xs θ' N' H' => ∀ p vs, H' p = none → Reps K θ' N' xs vs → Q (.ref p) (upd H' p (.lst vs))
def mLst (m : M (List D)) : M D := fun ρ S => (m ρ S).bind fun ds ρ1 S1 => .ok (.lst ds) ρ1 S1
def mSml (ms : M (List D)) : M (List D) := fun ρ S => (ms ρ S).bind fun ds ρ1 S1 => if ds.length ≤ sizeLine then .ok ds ρ1 S1 else .bad
section
variable {X : Cx} {G : Ent} {W : WX} {e : Expr} {es : List Expr} {m : M D} {ms : M (List D)} {pos : Pos} {kk : Nat}
theorem a_nil : PA X [] (tA X.K G W mNil) := pa_nil.imp fun σ H Q ⟨θ, N, ρ, S, st, fin⟩ => fin θ N H (LeT.refl _) (Same.refl _) st [] .nil
theorem a_cons (ha : PE X e (tE X.K G W m)) (hr : PA X es (tA X.K G W ms)) (hs : starEach (e :: es) X.env = (false, eval e X.env) :: starEach es X.env := by rfl) : PA X (e :: es) (tA X.K G W (mCons m ms)) :=
  (pa_cons ha hr hs).imp fun σ H Q ⟨θ, N, ρ, S, st, fin⟩ => ⟨θ, N, ρ, S, st, (Fin.bind fin).imp fun d θ1 N1 H1 l1 l2 ⟨ρ1, S1, st1, fin1⟩ x rx => ⟨θ1, N1, ρ1, S1, st1, (Fin.bind fin1).imp fun ds θ2 N2 H2 l3 l4 ⟨ρ2, S2, st2, fin2⟩ xs rxs =>
    fin2 θ2 N2 H2 (LeT.refl _) (Same.refl _) st2 (x :: xs) (.cons (rx.mono l3 l4) rxs)⟩⟩
theorem s_tup (h : PA X es (tA X.K G W ms)) : PE X (.Tuple es kk pos) (tE X.K G W (mTup ms)) :=
  (pe_tup h).imp fun σ H Q ⟨θ, N, ρ, S, st, fin⟩ => ⟨θ, N, ρ, S, st, (Fin.bind fin).imp fun ds θ1 N1 H1 l1 l2 ⟨ρ1, S1, st1, fin1⟩ xs rxs => by
    split at fin1
    · refine ⟨by rw [rxs.length]; assumption, fun p hp => ?_⟩
      have mN := same_upd (o := .tup xs) (st1.fresh hp)
      exact fin1 θ1 _ _ (LeT.refl _) mN (st1.alloc hp _) _ ⟨p, xs, rfl, .of upd_same, rxs.mono (LeT.refl _) mN⟩
    · exact fin1.elim⟩
theorem f_lst (h : PA X es (tA X.K G W ms)) : PE X (.List es pos) (tF X.K G W (mSml ms)) :=
  (pe_lst h).imp fun σ H Q ⟨θ, N, ρ, S, st, fin⟩ => ⟨θ, N, ρ, S, st, (Fin.bind fin).imp fun ds θ1 N1 H1 l1 l2 ⟨ρ1, S1, st1, fin1⟩ xs rxs => by
    split at fin1
    · exact ⟨by rw [rxs.length]; assumption, fun p hp => fin1 θ1 N1 H1 (LeT.refl _) (Same.refl _) st1 p xs hp rxs⟩
    · exact fin1.elim⟩
/-- a new list, let go -/
theorem fin_lst {σ : St} {H : Hp} {Q : VK} (h : tE X.K G W (mLst ms) σ H Q) : tF X.K G W ms σ H Q := by
  obtain ⟨θ, N, ρ, S, st, fin⟩ := h
  exact ⟨θ, N, ρ, S, st, (Fin.bind fin).imp fun ds θ1 N1 H1 l1 l2 ⟨ρ1, S1, st1, fin1⟩ p vs hp r =>
    have mN := same_upd (o := .lst vs) (st1.fresh hp)
    fin1 θ1 _ _ (LeT.refl _) mN (st1.alloc hp _) _ ⟨p, vs, rfl, upd_same, r.mono (LeT.refl _) mN⟩⟩
theorem s_lst (h : PE X e (tF X.K G W ms)) : PE X e (tE X.K G W (mLst ms)) := h.imp fun _ _ _ => fin_lst
end

/-! ## places, slices -/
def dIx : Store → D → D → Option D := fun S x y => match y with
  | .int i => match x with
    | .str z => if z.length ≤ sizeLine then (atI z i).map fun c => .str [c] else none
    | .tup xs => atI xs i
    | x => (lstOf S x).bind fun xs => atI xs i
  | _ => none
theorem ixN_len {n m : Nat} (h : n = m) (i : Int) : ixN n i = ixN m i := by rw [h]
theorem atI_lt {α : Type} {xs : List α} {i : Int} {x : α} (h : atI xs i = some x) : ∃ j, ixN xs.length i = some j ∧ xs[j]? = some x := by
  obtain ⟨j, h1, h2⟩ := Option.bind_eq_some_iff.mp h
  exact ⟨j, h1, h2⟩
theorem Reps.at {K : PySem.W.Frag} {θ : Th} {N : Hp} {ds : List D} {vs : List V} {i : Int} {d : D} (r : Reps K θ N ds vs) (h : atI ds i = some d) : ∃ v, atI vs i = some v ∧ Rep K θ N d v := by
  obtain ⟨j, h1, h2⟩ := atI_lt h
  obtain ⟨v, h3, h4⟩ := r.get h2
  refine ⟨v, ?_, h4⟩
  unfold atI
  rw [r.length, h1]
  exact h3
theorem reps_ints {K : PySem.W.Frag} {θ : Th} {N : Hp} : ∀ xs : List Int, Reps K θ N (xs.map D.int) (xs.map V.int)
  | [] => Reps.nil
  | _ :: r => Reps.cons rfl (reps_ints r)
/-- a list's items in the heap -/
theorem lstOf_sq {K : PySem.W.Frag} {G : Ent} {θ : Th} {N : Hp} {ρ : DEnv} {S : Store} {σ : St} {H : Hp} {x : D} {v : V} {xs : List D} (st : Stt K G θ N ρ S σ H) (r : Rep K θ N x v) (h : lstOf S x = some xs) : ∃ p vs, v = .ref p ∧ SqL K H p vs ∧ Reps K θ N xs vs := by
  cases x with
  | lst ys =>
    cases h
    obtain ⟨p, vs, rfl, h1, r1⟩ := r
    exact ⟨p, vs, rfl, .of (st.hs.sub _ _ h1), r1⟩
  | scr ys =>
    cases h
    obtain ⟨p, vs, rfl, h1, r1⟩ := r
    exact ⟨p, vs, rfl, same_sqL st.hs.sub h1, r1⟩
  | ref n =>
    obtain ⟨p, e, rfl⟩ := r
    simp only [lstOf] at h
    split at h
    · rename_i ys e1
      cases h
      obtain ⟨a, e2, vs, h1, r1⟩ := st.hs.cell n _ e1
      rw [e] at e2; cases e2
      exact ⟨p, vs, rfl, .of h1, r1⟩
    · cases h
  | _ => cases h
section
variable {X : Cx} {G : Ent} {W : WX} {a b e : Expr} {ma mb m ml mh : M D} {ms : M (List D)} {pos p2 : Pos} {kk : Nat}
theorem od_ix : OpD X G dIx (rIx X.K) := by
  intro θ N ρ S σ H a b d x y Q st ra rb e k
  unfold dIx at e
  split at e
  · rename_i i
    cases rb
    split at e
    · rename_i z
      split at e
      · rename_i hz
        obtain ⟨c, e1, rfl⟩ := Option.map_eq_some_iff.mp e
        obtain ⟨rfl, t⟩ := ra
        refine .inr (.inr ⟨_, i, c, rfl, rfl, by simpa [Str.length] using hz, by simpa using e1, k N H _ (Same.refl _) st ⟨rfl, fun c' hc => ?_⟩⟩)
        obtain ⟨j, _, h2⟩ := atI_lt e1
        have : c' = c := by simpa using hc
        exact this ▸ t c (List.mem_of_getElem? h2)
      · cases e
    · obtain ⟨p, vs, rfl, h1, r1⟩ := ra
      obtain ⟨v, h2, r2⟩ := r1.at e
      exact .inr (.inl ⟨p, vs, i, v, rfl, rfl, same_sqT st.hs.sub h1, h2, k N H v (Same.refl _) st r2⟩)
    · obtain ⟨xs, e1, e2⟩ := Option.bind_eq_some_iff.mp e
      obtain ⟨p, vs, rfl, h1, r1⟩ := lstOf_sq st ra e1
      obtain ⟨v, h2, r2⟩ := r1.at e2
      exact .inl ⟨p, vs, i, v, rfl, rfl, h1, h2, k N H v (Same.refl _) st r2⟩
  · cases e
theorem s_ix (ha : PE X a (tE X.K G W ma)) (hb : PE X b (tE X.K G W mb)) (hs : PlainIx b := by exact fun _ _ => rfl) : PE X (.Subscript a b pos) (tE X.K G W (mBin dIx ma mb)) := (pe_ix ix_seq ha hb hs).imp fun _ _ _ => fin_bin od_ix
/-- x[lo:hi] -/
def cutD {α : Type} (xs : List α) (lo hi : Option Int) : List α := (xs.drop (HT.sIx xs.length 0 lo)).take (HT.sIx xs.length xs.length hi - HT.sIx xs.length 0 lo)
def mNoPart : M (Option Int) := fun ρ S => .ok none ρ S
def mPart (m : M D) : M (Option Int) := fun ρ S => (m ρ S).bind fun d ρ1 S1 => match d with
  | .int i => .ok (some i) ρ1 S1
  | _ => .bad
def tO (K : PySem.W.Frag) (G : Ent) (W : WX) (m : M (Option Int)) : TO := fun σ H Q => ∃ θ N ρ S, Stt K G θ N ρ S σ H ∧ Fin K G W θ N σ (m ρ S) fun o _ _ H' => Q o H'
theorem _root_.L2.PO.imp {X : Cx} {e : Option Expr} {t t' : TO} (h : PO X e t) (i : ∀ σ H Q, t' σ H Q → t σ H Q) : PO X e t' := ⟨fun pins s σ H Q I q => h.run pins s σ H Q I (i σ H Q q)⟩
theorem o_none : PO X none (tO X.K G W mNoPart) := po_none.imp fun σ H Q ⟨θ, N, ρ, S, st, fin⟩ => fin θ N H (LeT.refl _) (Same.refl _) st
theorem o_some (h : PE X e (tE X.K G W m)) : PO X (some e) (tO X.K G W (mPart m)) := (po_some h).imp fun σ H Q ⟨θ, N, ρ, S, st, fin⟩ => ⟨θ, N, ρ, S, st, (Fin.bind fin).imp fun d θ1 N1 H1 l1 l2 ⟨ρ1, S1, st1, fin1⟩ x rx => by
    split at fin1
    · cases rx; exact ⟨_, rfl, fin1 θ1 N1 H1 (LeT.refl _) (Same.refl _) st1⟩
    · exact fin1.elim⟩
theorem Reps.cut {K : PySem.W.Frag} {θ : Th} {N : Hp} {ds : List D} {vs : List V} (lo hi : Option Int) (r : Reps K θ N ds vs) : Reps K θ N (cutD ds lo hi) (cutV vs lo hi) := by
  unfold cutD cutV
  rw [r.length]
  exact (r.drop _).take _
theorem okText.sub {a b : List Nat} (h : okText a) (s : ∀ c ∈ b, c ∈ a) : okText b := fun c hc => h c (s c hc)
theorem mem_cut {α : Type} {xs : List α} {lo hi : Option Int} {c : α} (h : c ∈ cutD xs lo hi) : c ∈ xs := List.mem_of_mem_drop (List.mem_of_mem_take h)
/-- a text's or a tuple's slice -/
def dSlc (x : D) (lo hi : Option Int) : Option D := match x with
  | .str z => if z.length ≤ sizeLine then some (.str (cutD z lo hi)) else none
  | .tup xs => if HT.sIx xs.length 0 lo = 0 ∧ HT.sIx xs.length xs.length hi = xs.length then none else some (.tup (cutD xs lo hi))
  | _ => none
def mSlc (m : M D) (ml mh : M (Option Int)) : M D := fun ρ S => (m ρ S).bind fun d ρ1 S1 => (ml ρ1 S1).bind fun l ρ2 S2 => (mh ρ2 S2).bind fun h ρ3 S3 => Res.ofO (dSlc d l h) ρ3 S3
variable {lo hi : Option Expr} {nl nh : M (Option Int)}
theorem s_slc (ha : PE X a (tE X.K G W m)) (hl : PO X lo (tO X.K G W nl)) (hh : PO X hi (tO X.K G W nh)) : PE X (.Subscript a (.Slice lo hi none p2) pos) (tE X.K G W (mSlc m nl nh)) :=
  (pe_slice (SlR.or sl_str sl_tup) ha hl hh).imp fun σ H Q ⟨θ, N, ρ, S, st, fin⟩ => ⟨θ, N, ρ, S, st, (Fin.bind fin).imp fun d θ1 N1 H1 l1 l2 ⟨ρ1, S1, st1, fin1⟩ x rx => ⟨θ1, N1, ρ1, S1, st1, (Fin.bind fin1).imp fun l θ2 N2 H2 l3 l4 ⟨ρ2, S2, st2, fin2⟩ =>
    ⟨θ2, N2, ρ2, S2, st2, (Fin.bind fin2).imp fun h θ3 N3 H3 l5 l6 ⟨ρ3, S3, st3, fin3⟩ => by
      have rx' := rx.mono (l3.trans l5) (l4.trans l6)
      cases e : dSlc d l h with
      | none => rw [e] at fin3; exact fin3.elim
      | some r =>
        rw [e] at fin3
        unfold dSlc at e
        split at e
        · split at e
          · rename_i z hz
            cases e
            obtain ⟨rfl, t⟩ := rx'
            refine .inl ⟨_, rfl, by simpa [Str.length] using hz, fin3 θ3 N3 H3 (LeT.refl _) (Same.refl _) st3 _ ⟨?_, t.sub fun c hc => mem_cut hc⟩⟩
            simp [cutS, cutD, Str.length]
          · cases e
        · split at e
          · cases e
          · rename_i xs hz
            cases e
            obtain ⟨p, vs, rfl, h1, r1⟩ := rx'
            refine .inr ⟨p, vs, rfl, same_sqT st3.hs.sub h1, by rw [r1.length]; exact hz, fun q hq => ?_⟩
            have mN := same_upd (o := .tup (cutV vs l h)) (st3.fresh hq)
            exact fin3 θ3 _ _ (LeT.refl _) mN (st3.alloc hq _) _ ⟨q, _, rfl, .of upd_same, (r1.cut l h).mono (LeT.refl _) mN⟩
        · cases e⟩⟩⟩
/-- a list's slice: a new list -/
def mSlL (m : M D) (ml mh : M (Option Int)) : M (List D) := fun ρ S => (m ρ S).bind fun d ρ1 S1 => (ml ρ1 S1).bind fun l ρ2 S2 => (mh ρ2 S2).bind fun h ρ3 S3 => Res.ofO ((lstOf S3 d).map fun xs => cutD xs l h) ρ3 S3
theorem f_slc (ha : PE X a (tE X.K G W m)) (hl : PO X lo (tO X.K G W nl)) (hh : PO X hi (tO X.K G W nh)) : PE X (.Subscript a (.Slice lo hi none p2) pos) (tF X.K G W (mSlL m nl nh)) :=
  (pe_slice sl_list ha hl hh).imp fun σ H Q ⟨θ, N, ρ, S, st, fin⟩ => ⟨θ, N, ρ, S, st, (Fin.bind fin).imp fun d θ1 N1 H1 l1 l2 ⟨ρ1, S1, st1, fin1⟩ x rx => ⟨θ1, N1, ρ1, S1, st1, (Fin.bind fin1).imp fun l θ2 N2 H2 l3 l4 ⟨ρ2, S2, st2, fin2⟩ =>
    ⟨θ2, N2, ρ2, S2, st2, (Fin.bind fin2).imp fun h θ3 N3 H3 l5 l6 ⟨ρ3, S3, st3, fin3⟩ => by
      have rx' := rx.mono (l3.trans l5) (l4.trans l6)
      cases e : lstOf S3 d with
      | none => rw [e] at fin3; exact fin3.elim
      | some xs =>
        rw [e] at fin3
        obtain ⟨p, vs, rfl, h1, r1⟩ := lstOf_sq st3 rx' e
        exact ⟨p, vs, rfl, h1, fun q hq => fin3 θ3 N3 H3 (LeT.refl _) (Same.refl _) st3 q _ hq (r1.cut l h)⟩⟩⟩⟩
end
end DL

namespace DL
open PySem PySem.Spec L2 TL

/-! ## back from a call or a block -/
section
variable {K : PySem.W.Frag} {G : Ent} {W : WX} {θ θ' : Th} {N N' : Hp} {ρ : DEnv} {S S' : Store} {σ : St} {H H' : Hp}
theorem Le.refl (hs : HS K θ N S H) : Le (ent θ N H) θ N H := ⟨Same.refl _, LeT.refl _, fun _ _ e => .inl e, fun _ _ e => .inl e, fun _ _ e _ => e, fun _ e => e⟩
theorem Le.trans (a : Le G θ N H) (hs : HS K θ N S H) (b : Le (ent θ N H) θ' N' H') : Le G θ' N' H' := by
  refine ⟨fun x o e => b.gN x o (a.gN x o e), a.gT.trans b.gT, fun x o e => ?_, fun n x e => ?_, fun x o e q => ?_, fun x e => a.stay x (b.stay x e)⟩
  · rcases b.nN x o e with z | z
    · exact a.nN x o z
    · exact .inr (a.stay x z)
  · rcases b.nT n x e with z | z
    · exact a.nT n x z
    · exact .inr (a.stay x z)
  · refine b.keep x o (a.keep x o e q) fun n z => ?_
    rcases a.nT n x z with r | r
    · exact q n r
    · rw [r] at e; cases e
/-- the same slots, a later heap -/
theorem Stt.back (s : Stt K G θ N ρ S σ H) (hs : HS K θ' N' S' H') (le : Le (ent θ N H) θ' N' H') : Stt K G θ' N' ρ S' σ H' := by
  refine ⟨hs, s.le.trans s.hs le, s.len, fun i sl e => ?_, s.own, s.slf⟩
  obtain ⟨v, e1, q⟩ := s.slot i sl e
  refine ⟨v, e1, ?_⟩
  cases sl with
  | val d => exact Rep.mono le.gT le.gN q
  | exn c ns xs => exact ⟨q.1, q.2.1, q.2.2.mono le.gT le.gN⟩
  | own c =>
    obtain ⟨a, e2, c1, n1, g1, t1⟩ := q
    obtain ⟨o, h1, _⟩ := c1.some
    refine ⟨a, e2, c1.mono le.gT le.gN ((le.keep a o h1 t1).trans h1.symm), ?_, g1, fun n z => ?_⟩
    · cases e3 : N' a with
      | none => rfl
      | some u =>
        rcases le.nN a u e3 with z | z
        · exact absurd (n1.symm.trans z) (by simp)
        · exact absurd (h1.symm.trans z) (by simp)
    · rcases le.nT n a z with r | r
      · exact t1 n r
      · exact absurd (h1.symm.trans r) (by simp)
/-- the slots that a block sees -/
def hideOwn (ρ : DEnv) : DEnv := ρ.map fun x => match x with
  | some (.val d) => some (.val d)
  | _ => none
theorem hide_some {ρ : DEnv} {i : Nat} {sl : Slot} (h : (hideOwn ρ)[i]? = some (some sl)) : ρ[i]? = some (some sl) ∧ ∃ d, sl = .val d := by
  unfold hideOwn at h
  rw [List.getElem?_map] at h
  cases e : ρ[i]? with
  | none => rw [e] at h; cases h
  | some x =>
    rw [e] at h
    cases x with
    | none => cases h
    | some y =>
      cases y with
      | val d => cases h; exact ⟨rfl, d, rfl⟩
      | own c => cases h
      | exn c ns xs => cases h
def wipeD (ρ : DEnv) : List Nat → DEnv
  | [] => ρ
  | v :: vs => (wipeD ρ vs).set v none
theorem Stt.hide (s : Stt K G θ N ρ S σ H) : Stt K (ent θ N H) θ N (hideOwn ρ) S σ H := by
  refine ⟨s.hs, Le.refl s.hs, by rw [s.len]; simp [hideOwn], fun i sl e => ?_, fun i j a c c' hij e1 e2 e3 e4 => ?_, fun i c hm => by cases hm⟩
  · obtain ⟨e1, d, rfl⟩ := hide_some e
    exact s.slot i _ e1
  · obtain ⟨_, d, q⟩ := hide_some e1
    cases q
theorem Stt.wipes (s : Stt K G θ N ρ S σ H) : ∀ vs : List Nat, Stt K G θ N (wipeD ρ vs) S (L2.wipe σ vs) H
  | [] => s
  | v :: vs => (s.wipes vs).wipe v
end

/-! ## built-in functions by values -/
def CallD (X : Cx) (G : Ent) (g : Store → List D → Option D) (r : List V → Hp → VK → Prop) : Prop := ∀ (θ : Th) (N : Hp) (ρ : DEnv) (S : Store) (σ : St) (H : Hp) (ds : List D) (xs : List V) (d : D) (Q : VK), Stt X.K G θ N ρ S σ H → Reps X.K θ N ds xs → g S ds = some d →
  (∀ N' H' v, Same N N' → Stt X.K G θ N' ρ S σ H' → Rep X.K θ N' d v → Q v H') → r xs H Q
def mCallB (g : Store → List D → Option D) (ms : M (List D)) : M D := fun ρ S => (ms ρ S).bind fun ds ρ1 S1 => Res.ofO (g S1 ds) ρ1 S1
section
variable {X : Cx} {G : Ent} {W : WX} {x : Str} {p pos : Pos} {e : Expr} {es : List Expr} {ms : M (List D)} {id T : String} {r : List V → Hp → VK → Prop} {g : Store → List D → Option D}
theorem fin_call (hd : CallD X G g r) {σ : St} {H : Hp} {Q : VK} (h : tE X.K G W (mCallB g ms) σ H Q) : tCB r (tA X.K G W ms) σ H Q := by
  obtain ⟨θ, N, ρ, S, st, fin⟩ := h
  refine ⟨θ, N, ρ, S, st, (Fin.bind fin).imp fun ds θ1 N1 H1 l1 l2 ⟨ρ1, S1, st1, fin1⟩ xs rxs => ?_⟩
  cases e : g S1 ds with
  | none => rw [e] at fin1; exact fin1.elim
  | some d =>
    rw [e] at fin1
    exact hd θ1 N1 ρ1 S1 σ H1 ds xs d Q st1 rxs e fun N' H' v l s r => fin1 θ1 N' H' (LeT.refl _) l s v r
theorem s_callB (hc : CallR X (.builtin id) r) (hd : CallD X G g r) (hg : Gl X x) (hm : X.mg x = none) (hv : bootBuiltins x = some (.builtin id)) (ha : PA X (e :: es) (tA X.K G W ms)) (hn : x ≠ "__name__" := by decide) (hdb : (x == ("__debug__" : Str)) = false := by decide)
    (he : starEach (e :: es) X.env = (false, eval e X.env) :: starEach es X.env := by rfl) (hpl : (backTo pos (starEach es X.env)).any (·.1) = false := by rfl) : PE X (.Call (.Name x p) (e :: es) [] pos) (tE X.K G W (mCallB g ms)) :=
  (pe_callB hc hg hm hv ha hn hdb he hpl).imp fun _ _ _ => fin_call hd
theorem s_callTy (hc : CallR X (.type T) r) (hd : CallD X G g r) (hg : Gl X x) (hm : X.mg x = none) (hv : bootBuiltins x = some (.type T)) (ha : PA X (e :: es) (tA X.K G W ms)) (hn : x ≠ "__name__" := by decide) (hdb : (x == ("__debug__" : Str)) = false := by decide)
    (he : starEach (e :: es) X.env = (false, eval e X.env) :: starEach es X.env := by rfl) (hpl : (backTo pos (starEach es X.env)).any (·.1) = false := by rfl) : PE X (.Call (.Name x p) (e :: es) [] pos) (tE X.K G W (mCallB g ms)) :=
  (pe_callTy hc hg hm hv ha hn hdb he hpl).imp fun _ _ _ => fin_call hd
/-! ### len -/
def dLen : Store → List D → Option D := fun S ds => match ds with
  | [.str z] => if z.length ≤ sizeLine then some (.int z.length) else none
  | [.tup xs] => some (.int xs.length)
  | [x] => (lstOf S x).map fun xs => .int xs.length
  | _ => none
theorem reps1 {K : PySem.W.Frag} {θ : Th} {N : Hp} {d : D} {xs : List V} (r : Reps K θ N [d] xs) : ∃ v, xs = [v] ∧ Rep K θ N d v := by
  obtain ⟨v, u, rfl, h1, h2⟩ := r
  cases h2
  exact ⟨v, rfl, h1⟩
theorem od_len : CallD X G dLen (fun xs H Q => ∃ x n, xs = [x] ∧ LenV X.K x H n ∧ Q (.int n) H) := by
  intro θ N ρ S σ H ds xs d Q st r e k
  unfold dLen at e
  split at e
  · split at e
    · rename_i z hz
      cases e
      obtain ⟨v, rfl, rfl, _⟩ := reps1 r
      exact ⟨_, z.length, rfl, ⟨by simpa [Str.length] using hz, by simp [Str.length]⟩, k N H _ (Same.refl _) st rfl⟩
    · cases e
  · rename_i ys
    cases e
    obtain ⟨v, rfl, a, vs, rfl, h1, r1⟩ := reps1 r
    exact ⟨_, ys.length, rfl, .inr ⟨vs, same_sqT st.hs.sub h1, r1.length.symm⟩, k N H _ (Same.refl _) st rfl⟩
  · rename_i y _ _
    obtain ⟨ys, e1, rfl⟩ := Option.map_eq_some_iff.mp e
    obtain ⟨v, rfl, r1⟩ := reps1 r
    obtain ⟨a, vs, rfl, h1, r2⟩ := lstOf_sq st r1 e1
    exact ⟨_, ys.length, rfl, .inl ⟨vs, h1, r2.length.symm⟩, k N H _ (Same.refl _) st rfl⟩
  · cases e
theorem s_len (hg : Gl X "len") (hm : X.mg "len" = none) (ha : PA X [e] (tA X.K G W ms)) (he : starEach (e :: []) X.env = (false, eval e X.env) :: starEach [] X.env := by rfl) (hpl : (backTo pos (starEach [] X.env)).any (·.1) = false := by rfl) :
    PE X (.Call (.Name "len" p) [e] [] pos) (tE X.K G W (mCallB dLen ms)) := s_callB call_len od_len hg hm PySem.boot_len ha (by decide) (by decide) he hpl
/-! ### str(n), int(b) -/
def strI (i : Int) : List Nat := (Str.ofString (toString i)).cps.toList
theorem okText_string (s : String) : okText (Str.ofString s).cps.toList := by
  rw [Str.ofString_eq_toList]
  intro c hc
  simp only [List.mem_map] at hc
  obtain ⟨ch, _, rfl⟩ := hc
  have h := ch.valid
  simp only [UInt32.isValidChar, Nat.isValidChar] at h
  show ch.val.toNat < 1114112
  omega
def dStr : Store → List D → Option D := fun _ ds => match ds with
  | [.int i] => if i.natAbs.log2 < 1920 then some (.str (strI i)) else none
  | _ => none
theorem od_str : CallD X G dStr (fun xs H Q => ∃ i : Int, xs = [.int i] ∧ i.natAbs.log2 < 1920 ∧ Q (.str (toString i)) H) := by
  intro θ N ρ S σ H ds xs d Q st r e k
  unfold dStr at e
  split at e
  · split at e
    · cases e
      obtain ⟨v, rfl, rfl⟩ := reps1 r
      exact ⟨_, rfl, ‹_›, k N H _ (Same.refl _) st ⟨by simp [strI], okText_string _⟩⟩
    · cases e
  · cases e
theorem s_str1 (hg : Gl X "str") (hm : X.mg "str" = none) (ha : PA X [e] (tA X.K G W ms)) (he : starEach (e :: []) X.env = (false, eval e X.env) :: starEach [] X.env := by rfl) (hpl : (backTo pos (starEach [] X.env)).any (·.1) = false := by rfl) :
    PE X (.Call (.Name "str" p) [e] [] pos) (tE X.K G W (mCallB dStr ms)) := s_callTy call_str_int od_str hg hm (by decide +kernel) ha (by decide) (by decide) he hpl
def dInt : Store → List D → Option D := fun _ ds => match ds with
  | [.int i] => some (.int i)
  | [.bl b] => some (.int (if b then 1 else 0))
  | _ => none
theorem od_int : CallD X G dInt (fun xs H Q => (∃ i, xs = [.int i] ∧ Q (.int i) H) ∨ ∃ k, xs = [.bl k] ∧ Q (.int (if k then 1 else 0)) H) := by
  intro θ N ρ S σ H ds xs d Q st r e k
  unfold dInt at e
  split at e
  · cases e
    obtain ⟨v, rfl, rfl⟩ := reps1 r
    exact .inl ⟨_, rfl, k N H _ (Same.refl _) st rfl⟩
  · cases e
    obtain ⟨v, rfl, rfl⟩ := reps1 r
    exact .inr ⟨_, rfl, k N H _ (Same.refl _) st rfl⟩
  · cases e
theorem s_int1 (hg : Gl X "int") (hm : X.mg "int" = none) (ha : PA X [e] (tA X.K G W ms)) (he : starEach (e :: []) X.env = (false, eval e X.env) :: starEach [] X.env := by rfl) (hpl : (backTo pos (starEach [] X.env)).any (·.1) = false := by rfl) :
    PE X (.Call (.Name "int" p) [e] [] pos) (tE X.K G W (mCallB dInt ms)) := s_callTy call_int1 od_int hg hm (by decide +kernel) ha (by decide) (by decide) he hpl
/-! ### all, any -/
def blsOf : List D → Option (List Bool)
  | [] => some []
  | .bl b :: r => (blsOf r).map (b :: ·)
  | _ => none
theorem blsOf_eq : ∀ {xs : List D} {bs : List Bool}, blsOf xs = some bs → xs = bs.map D.bl
  | [], _, h => by cases h; rfl
  | x :: r, bs, h => by
    cases x with
    | bl b =>
      obtain ⟨cs, e, rfl⟩ := Option.map_eq_some_iff.mp (show (blsOf r).map (b :: ·) = some bs from h)
      rw [blsOf_eq e]; rfl
    | _ => cases h
theorem reps_bls {K : PySem.W.Frag} {θ : Th} {N : Hp} : ∀ {bs : List Bool} {vs : List V}, Reps K θ N (bs.map D.bl) vs → vs = bs.map V.bl
  | [], _, h => h
  | _ :: _, _, h => by obtain ⟨v, r, rfl, h1, h2⟩ := h; cases h1; rw [reps_bls h2]; rfl
def dAll : Store → List D → Option D := fun S ds => match ds with
  | [x] => ((lstOf S x).bind blsOf).map fun bs => .bl (bs.all fun b => b)
  | _ => none
def dAny : Store → List D → Option D := fun S ds => match ds with
  | [x] => ((lstOf S x).bind blsOf).map fun bs => .bl (bs.any fun b => b)
  | _ => none
theorem od_all : CallD X G dAll (rAll X.K) := by
  intro θ N ρ S σ H ds xs d Q st r e k
  unfold dAll at e
  split at e
  · obtain ⟨bs, e1, rfl⟩ := Option.map_eq_some_iff.mp e
    obtain ⟨ys, e2, e3⟩ := Option.bind_eq_some_iff.mp e1
    obtain ⟨v, rfl, r1⟩ := reps1 r
    obtain ⟨a, vs, rfl, h1, r2⟩ := lstOf_sq st r1 e2
    rw [blsOf_eq e3] at r2
    rw [reps_bls r2] at h1
    exact ⟨a, bs, rfl, h1, k N H _ (Same.refl _) st rfl⟩
  · cases e
theorem od_any : CallD X G dAny (rAny X.K) := by
  intro θ N ρ S σ H ds xs d Q st r e k
  unfold dAny at e
  split at e
  · obtain ⟨bs, e1, rfl⟩ := Option.map_eq_some_iff.mp e
    obtain ⟨ys, e2, e3⟩ := Option.bind_eq_some_iff.mp e1
    obtain ⟨v, rfl, r1⟩ := reps1 r
    obtain ⟨a, vs, rfl, h1, r2⟩ := lstOf_sq st r1 e2
    rw [blsOf_eq e3] at r2
    rw [reps_bls r2] at h1
    exact ⟨a, bs, rfl, h1, k N H _ (Same.refl _) st rfl⟩
  · cases e
theorem s_all (hc : X.calm = true) (hg : Gl X "all") (hm : X.mg "all" = none) (ha : PA X [e] (tA X.K G W ms)) (he : starEach (e :: []) X.env = (false, eval e X.env) :: starEach [] X.env := by rfl) (hpl : (backTo pos (starEach [] X.env)).any (·.1) = false := by rfl) :
    PE X (.Call (.Name "all" p) [e] [] pos) (tE X.K G W (mCallB dAll ms)) := s_callB (cr_all hc) od_all hg hm (by decide +kernel) ha (by decide) (by decide) he hpl
theorem s_any (hc : X.calm = true) (hg : Gl X "any") (hm : X.mg "any" = none) (ha : PA X [e] (tA X.K G W ms)) (he : starEach (e :: []) X.env = (false, eval e X.env) :: starEach [] X.env := by rfl) (hpl : (backTo pos (starEach [] X.env)).any (·.1) = false := by rfl) :
    PE X (.Call (.Name "any" p) [e] [] pos) (tE X.K G W (mCallB dAny ms)) := s_callB (cr_any hc) od_any hg hm (by decide +kernel) ha (by decide) (by decide) he hpl
/-! ### isinstance(x, T), T a built-in type -/
def tyD (S : Store) : D → Option String
  | .non => some "NoneType"
  | .bl _ => some "bool"
  | .int _ => some "int"
  | .str _ => some "str"
  | .tup _ => some "tuple"
  | .lst _ => some "list"
  | .scr _ => some "list"
  | .ref n => match S[n]? with
    | some (.lst _) => some "list"
    | some (.dic _) => some "dict"
    | _ => none
  | .obj _ _ _ => none
def isiTab (t n : String) : Bool := t == n || (t == "bool" && n == "int")
theorem kit_tab : ∀ t ∈ ["NoneType", "bool", "int", "str", "tuple", "list", "dict"], ∀ n ∈ ["bool", "int", "str", "tuple", "list", "dict"], kitB t n = some (isiTab t n) := by decide +kernel
theorem tyX_of {K : PySem.W.Frag} {G : Ent} {θ : Th} {N : Hp} {ρ : DEnv} {S : Store} {σ : St} {H : Hp} {d : D} {v : V} {t : String} (st : Stt K G θ N ρ S σ H) (r : Rep K θ N d v) (e : tyD S d = some t) : TyX K H v (.type t) ∧ t ∈ ["NoneType", "bool", "int", "str", "tuple", "list", "dict"] := by
  cases d with
  | non => cases e; cases r; exact ⟨.base .non, by simp⟩
  | bl b => cases e; cases r; exact ⟨.base (.bl b), by simp⟩
  | int i => cases e; cases r; exact ⟨.base (.int i), by simp⟩
  | str x => cases e; obtain ⟨rfl, _⟩ := r; exact ⟨.base (.str _), by simp⟩
  | tup xs =>
    cases e
    obtain ⟨a, vs, rfl, h1, _⟩ := r
    refine ⟨?_, by simp⟩
    rcases same_sqT st.hs.sub h1 with (h | ⟨o, h⟩) | ⟨o, its, n, h, hc, _⟩
    · exact .base (.tup h)
    · exact .fTuple h
    · exact .kTuple h hc
  | lst xs => cases e; obtain ⟨a, vs, rfl, h1, _⟩ := r; exact ⟨.base (.lst (st.hs.sub _ _ h1)), by simp⟩
  | scr xs =>
    cases e
    obtain ⟨a, vs, rfl, h1, _⟩ := r
    refine ⟨?_, by simp⟩
    rcases same_sqL st.hs.sub h1 with (h | ⟨o, h⟩) | ⟨o, its, n, h, hc, _⟩
    · exact .base (.lst h)
    · exact .base (.frz h)
    · exact .kList h hc
  | ref n =>
    obtain ⟨a, e0, rfl⟩ := r
    simp only [tyD] at e
    split at e
    · rename_i ys e1
      cases e
      obtain ⟨a', e2, vs, h1, r1⟩ := st.hs.cell n _ e1
      rw [e0] at e2; cases e2
      exact ⟨.base (.lst h1), by simp⟩
    · rename_i ys e1
      cases e
      obtain ⟨a', e2, kv, h1, r1⟩ := st.hs.cell n _ e1
      rw [e0] at e2; cases e2
      exact ⟨.base (.dK h1), by simp⟩
    · cases e
  | obj c ns xs => cases e
def mIsi (n : String) (m : M D) : M D := fun ρ S => (m ρ S).bind fun d ρ1 S1 => Res.ofO ((tyD S1 d).map fun t => .bl (isiTab t n)) ρ1 S1
theorem s_isi {a b : Expr} {m : M D} (n : String) (hn : n ∈ ["bool", "int", "str", "tuple", "list", "dict"]) (hg : Gl X "isinstance") (hm : X.mg "isinstance" = none) (ha : PE X a (tE X.K G W m)) (hb : PE X b (tC (.ty n)))
    (hs1 : starEach (a :: [b]) X.env = (false, eval a X.env) :: starEach [b] X.env := by rfl) (hs2 : starEach (b :: []) X.env = (false, eval b X.env) :: starEach [] X.env := by rfl) (hpl : (backTo pos (starEach [b] X.env)).any (·.1) = false := by rfl) :
    PE X (.Call (.Name "isinstance" p) [a, b] [] pos) (tE X.K G W (mIsi n m)) :=
  (pe_callB call_isi hg hm (by decide +kernel) (pa_cons ha (pa_cons hb pa_nil hs2) hs1) (by decide) (by decide) hs1 hpl).imp fun σ H Q ⟨θ, N, ρ, S, st, fin⟩ => ⟨θ, N, ρ, S, st, (Fin.bind fin).imp fun d θ1 N1 H1 l1 l2 ⟨ρ1, S1, st1, fin1⟩ x rx => by
    cases e : tyD S1 d with
    | none => rw [e] at fin1; exact fin1.elim
    | some t =>
      rw [e] at fin1
      obtain ⟨t1, t2⟩ := tyX_of st1 rx e
      exact ⟨x, .ty n, .type t, .type n, _, rfl, .ty n, t1, kit_ty (kit_tab t t2 n hn), fin1 θ1 N1 H1 (LeT.refl _) (Same.refl _) st1 _ rfl⟩⟩
/-! ### list(x), sum, max, min of ints -/
def seqOf (S : Store) : D → Option (List D)
  | .tup xs => some xs
  | x => lstOf S x
theorem seqOf_sq {K : PySem.W.Frag} {G : Ent} {θ : Th} {N : Hp} {ρ : DEnv} {S : Store} {σ : St} {H : Hp} {x : D} {v : V} {xs : List D} (st : Stt K G θ N ρ S σ H) (r : Rep K θ N x v) (h : seqOf S x = some xs) : ∃ p vs, v = .ref p ∧ (SqL K H p vs ∨ SqT K H p vs) ∧ Reps K θ N xs vs := by
  unfold seqOf at h
  split at h
  · cases h
    obtain ⟨a, vs, rfl, h1, r1⟩ := r
    exact ⟨a, vs, rfl, .inr (same_sqT st.hs.sub h1), r1⟩
  · obtain ⟨p, vs, rfl, h1, r1⟩ := lstOf_sq st r h
    exact ⟨p, vs, rfl, .inl h1, r1⟩
def mList (ms : M (List D)) : M (List D) := fun ρ S => (ms ρ S).bind fun ds ρ1 S1 => match ds with
  | [x] => Res.ofO (seqOf S1 x) ρ1 S1
  | _ => .bad
theorem f_list (hg : Gl X "list") (hm : X.mg "list" = none) (ha : PA X [e] (tA X.K G W ms)) (he : starEach (e :: []) X.env = (false, eval e X.env) :: starEach [] X.env := by rfl) (hpl : (backTo pos (starEach [] X.env)).any (·.1) = false := by rfl) :
    PE X (.Call (.Name "list" p) [e] [] pos) (tF X.K G W (mList ms)) :=
  (pe_callTy call_list_of hg hm (by decide +kernel) ha (by decide) (by decide) he hpl).imp fun σ H Q ⟨θ, N, ρ, S, st, fin⟩ => ⟨θ, N, ρ, S, st, (Fin.bind fin).imp fun ds θ1 N1 H1 l1 l2 ⟨ρ1, S1, st1, fin1⟩ xs rxs => by
    split at fin1
    · rename_i y _
      cases e1 : seqOf S1 y with
      | none => rw [e1] at fin1; exact fin1.elim
      | some ys =>
        rw [e1] at fin1
        obtain ⟨v, rfl, r1⟩ := reps1 rxs
        obtain ⟨q, vs, rfl, h1, r2⟩ := seqOf_sq st1 r1 e1
        exact ⟨q, vs, rfl, h1, fun l hl => fin1 θ1 N1 H1 (LeT.refl _) (Same.refl _) st1 l vs hl r2⟩
    · exact fin1.elim⟩
def intsOf : List D → Option (List Int)
  | [] => some []
  | .int b :: r => (intsOf r).map (b :: ·)
  | _ => none
theorem intsOf_eq : ∀ {xs : List D} {bs : List Int}, intsOf xs = some bs → xs = bs.map D.int
  | [], _, h => by cases h; rfl
  | x :: r, bs, h => by
    cases x with
    | int b =>
      obtain ⟨cs, e, rfl⟩ := Option.map_eq_some_iff.mp (show (intsOf r).map (b :: ·) = some bs from h)
      rw [intsOf_eq e]; rfl
    | _ => cases h
theorem reps_intsV {K : PySem.W.Frag} {θ : Th} {N : Hp} : ∀ {bs : List Int} {vs : List V}, Reps K θ N (bs.map D.int) vs → vs = bs.map V.int
  | [], _, h => h
  | _ :: _, _, h => by obtain ⟨v, r, rfl, h1, h2⟩ := h; cases h1; rw [reps_intsV h2]; rfl
def dSum : Store → List D → Option D := fun S ds => match ds with
  | [x] => ((lstOf S x).bind intsOf).map fun bs => .int bs.sum
  | _ => none
theorem od_sum : CallD X G dSum (rSum X.K) := by
  intro θ N ρ S σ H ds xs d Q st r e k
  unfold dSum at e
  split at e
  · obtain ⟨bs, e1, rfl⟩ := Option.map_eq_some_iff.mp e
    obtain ⟨ys, e2, e3⟩ := Option.bind_eq_some_iff.mp e1
    obtain ⟨v, rfl, r1⟩ := reps1 r
    obtain ⟨a, vs, rfl, h1, r2⟩ := lstOf_sq st r1 e2
    rw [intsOf_eq e3] at r2
    rw [reps_intsV r2] at h1
    exact ⟨a, bs, rfl, h1, k N H _ (Same.refl _) st rfl⟩
  · cases e
theorem s_sum (hc : X.calm = true) (hg : Gl X "sum") (hm : X.mg "sum" = none) (ha : PA X [e] (tA X.K G W ms)) (he : starEach (e :: []) X.env = (false, eval e X.env) :: starEach [] X.env := by rfl) (hpl : (backTo pos (starEach [] X.env)).any (·.1) = false := by rfl) :
    PE X (.Call (.Name "sum" p) [e] [] pos) (tE X.K G W (mCallB dSum ms)) := s_callB (cr_sum hc) od_sum hg hm (by decide +kernel) ha (by decide) (by decide) he hpl
end

/-! ## methods of texts -/
def textsOf : List D → Option (List (List Nat))
  | [] => some []
  | .str b :: r => (textsOf r).map (b :: ·)
  | _ => none
theorem textsOf_eq : ∀ {xs : List D} {bs : List (List Nat)}, textsOf xs = some bs → xs = bs.map D.str
  | [], _, h => by cases h; rfl
  | x :: r, bs, h => by
    cases x with
    | str b =>
      obtain ⟨cs, e, rfl⟩ := Option.map_eq_some_iff.mp (show (textsOf r).map (b :: ·) = some bs from h)
      rw [textsOf_eq e]; rfl
    | _ => cases h
abbrev mkS (l : List Nat) : Str := ⟨l.toArray⟩
theorem reps_texts {K : PySem.W.Frag} {θ : Th} {N : Hp} : ∀ {bs : List (List Nat)} {vs : List V}, Reps K θ N (bs.map D.str) vs → vs = (bs.map mkS).map V.str ∧ ∀ b ∈ bs, okText b
  | [], _, h => ⟨h, by simp⟩
  | b :: _, _, h => by
    obtain ⟨v, r, rfl, ⟨rfl, t⟩, h2⟩ := h
    obtain ⟨e, q⟩ := reps_texts h2
    exact ⟨by rw [e]; rfl, fun c hc => (List.mem_cons.mp hc).elim (fun z => z ▸ t) (q c)⟩
theorem joinL_ok {a : List Nat} (ha : okText a) : ∀ {bs : List (List Nat)}, (∀ b ∈ bs, okText b) → okText (joinL a bs)
  | [], _ => fun c hc => by cases hc
  | [p], h => h p (by simp)
  | p :: q :: r, h => (h p (by simp)).append (ha.append (joinL_ok ha fun b hb => h b (List.mem_cons_of_mem _ hb)))
theorem tl_mk (l : List Nat) : tl (mkS l) = l := by simp [tl, mkS]
theorem map_tl_mk (bs : List (List Nat)) : (bs.map mkS).map tl = bs := by rw [List.map_map]; simp [Function.comp_def, tl_mk]
theorem mk_tl' (s : Str) : mkS (tl s) = s := by cases s; simp [tl, mkS]
theorem join_mk (a : List Nat) (bs : List (List Nat)) : Txt.join (mkS a) (bs.map mkS) = mkS (joinL a bs) := by
  rw [join_eq, ← mk_tl' (Str.join _ _), tl_join, tl_mk, map_tl_mk]
def dJoin : Store → D → D → Option D := fun S x y => match x with
  | .str a => ((seqOf S y).bind textsOf).bind fun bs => if (bs.map List.length).sum + bs.length * a.length ≤ 16777216 then some (.str (joinL a bs)) else none
  | _ => none
section
variable {X : Cx} {G : Ent} {W : WX} {o e : Expr} {mo me : M D} {apos pos : Pos}
/-- one argument: f by values; r the layer's rule, of texts -/
def Mt1D (X : Cx) (G : Ent) (f : Store → D → D → Option D) (r : V → List V → Hp → VK → Prop) : Prop := ∀ (θ : Th) (N : Hp) (ρ : DEnv) (S : Store) (σ : St) (H : Hp) (a b d : D) (x y : V) (Q : VK), Stt X.K G θ N ρ S σ H → Rep X.K θ N a x → Rep X.K θ N b y → f S a b = some d →
  (∀ N' H' v, Same N N' → Stt X.K G θ N' ρ S σ H' → Rep X.K θ N' d v → Q v H') → r x [y] H Q
def mMt1 (f : Store → D → D → Option D) (ma mb : M D) : M D := fun ρ S => (ma ρ S).bind fun a ρ1 S1 => match a with
  | .str _ => (mb ρ1 S1).bind fun b ρ2 S2 => Res.ofO (f S2 a b) ρ2 S2
  | _ => .bad
theorem fin_mt1 {f : Store → D → D → Option D} {r : V → List V → Hp → VK → Prop} (hd : Mt1D X G f r) {σ : St} {H : Hp} {Q : VK} (h : tE X.K G W (mMt1 f mo me) σ H Q) : tM1 r (tE X.K G W mo) (tE X.K G W me) σ H Q := by
  obtain ⟨θ, N, ρ, S, st, fin⟩ := h
  refine ⟨θ, N, ρ, S, st, (Fin.bind fin).imp fun a θ1 N1 H1 l1 l2 ⟨ρ1, S1, st1, fin1⟩ x rx => ?_⟩
  split at fin1
  · rename_i z _
    refine ⟨⟨_, rx.1⟩, θ1, N1, ρ1, S1, st1, (Fin.bind fin1).imp fun b θ2 N2 H2 l3 l4 ⟨ρ2, S2, st2, fin2⟩ y ry => ?_⟩
    cases e : f S2 (.str z) b with
    | none => rw [e] at fin2; exact fin2.elim
    | some d =>
      rw [e] at fin2
      exact hd θ2 N2 ρ2 S2 σ H2 (.str z) b d x y Q st2 (rx.mono l3 l4) ry e fun N' H' v l s r => fin2 θ2 N' H' (LeT.refl _) l s v r
  · exact fin1.elim
theorem od_join : Mt1D X G dJoin (fun x xs H Q => ∃ a p, ∃ ys : List Str, x = .str a ∧ xs = [.ref p] ∧ (SqL X.K H p (ys.map V.str) ∨ SqT X.K H p (ys.map V.str)) ∧ (ys.map (·.length)).sum + ys.length * a.length ≤ 16777216 ∧ Q (.str (Txt.join a ys)) H) := by
  intro θ N ρ S σ H a b d x y Q st ra rb e k
  unfold dJoin at e
  split at e
  · rename_i z
    obtain ⟨bs, e1, e2⟩ := Option.bind_eq_some_iff.mp e
    obtain ⟨ys, e3, e4⟩ := Option.bind_eq_some_iff.mp e1
    split at e2
    · rename_i hz
      cases e2
      obtain ⟨rfl, t⟩ := ra
      obtain ⟨p, vs, rfl, h1, r1⟩ := seqOf_sq st rb e3
      rw [textsOf_eq e4] at r1
      obtain ⟨rfl, t2⟩ := reps_texts r1
      refine ⟨_, p, bs.map mkS, rfl, rfl, h1, ?_, ?_⟩
      · rw [List.map_map, List.length_map]
        have e5 : (List.map ((fun x : Str => x.length) ∘ mkS) bs) = bs.map List.length := List.map_congr_left fun b _ => by simp [mkS, Str.length]
        rw [e5]
        simpa [Str.length] using hz
      · refine k N H _ (Same.refl _) st ⟨?_, joinL_ok t t2⟩
        exact congrArg V.str (join_mk z bs)
    · cases e2
  · cases e
theorem s_join (ho : PE X o (tE X.K G W mo)) (he : PE X e (tE X.K G W me)) (hs : starEach [e] X.env = [(false, eval e X.env)] := by rfl) (hbase : attributeBase o "join" X.env (eval o X.env) = eval o X.env := by rfl) (hline : (apos.endLine == pos.line) = true := by rfl) :
    PE X (.Call (.Attribute o "join" apos) [e] [] pos) (tE X.K G W (mMt1 dJoin mo me)) := (pe_join ho he hs hbase hline).imp fun _ _ _ => fin_mt1 od_join
end
end DL

namespace DL
open PySem PySem.Spec L2 TL

/-! ## statements -/
def mNext : M Ctl := fun ρ S => .ok .next ρ S
def mSeq (a b : M Ctl) : M Ctl := fun ρ S => match a ρ S with
  | .ok .next ρ1 S1 => b ρ1 S1
  | r => r
def mRet (m : M D) : M Ctl := fun ρ S => (m ρ S).bind fun d ρ1 S1 => .ok (.ret d) ρ1 S1
def mDrop (m : M D) : M Ctl := fun ρ S => (m ρ S).bind fun _ ρ1 S1 => .ok .next ρ1 S1
def mIfS (t : M Bool) (a b : M Ctl) : M Ctl := fun ρ S => (t ρ S).bind fun c ρ1 S1 => match c with
  | true => a ρ1 S1
  | false => b ρ1 S1
def mSet (i : Nat) (m : M D) : M Ctl := fun ρ S => (m ρ S).bind fun d ρ1 S1 => .ok .next (ρ1.set i (some (.val d))) S1
/-- a name gets a new list that it may change -/
def mSetOwn (i : Nat) (m : M (List D)) : M Ctl := fun ρ S => (m ρ S).bind fun xs ρ1 S1 => .ok .next (ρ1.set i (some (.own (.lst xs)))) S1
section
variable {X : Cx} {G : Ent} {W : WX} {st : Stmt} {rest : List Stmt} {a b : M Ctl} {e : Expr} {m : M D} {ms : M (List D)} {pos : Pos}
theorem ss_nil : PSs X [] (tS X.K G W mNext) := pss_nil.imp fun E σ H ⟨θ, N, ρ, S, s, fin⟩ => fin θ N σ H (LeT.refl _) (Same.refl _) s
theorem FinS.weak {K : PySem.W.Frag} {θ θ1 : Th} {N N1 : Hp} {E : Ends} {r : Res Ctl} (hθ : LeT θ θ1) (hN : Same N N1) (h : FinS K G W θ N E r) : FinS K G W θ1 N1 E r := by
  cases r with
  | ok a ρ S => exact fun θ' N' σ' H' l1 l2 s => h θ' N' σ' H' (hθ.trans l1) (hN.trans l2) s
  | exc c ns xs ρ S => exact fun θ' N' σ' H' d l1 l2 s e => h θ' N' σ' H' d (hθ.trans l1) (hN.trans l2) s e
  | bad => exact h
/-- from an expression's end to a statement's -/
theorem fin_st {K : PySem.W.Frag} {α : Type} {θ : Th} {N : Hp} {σ : St} {E : Ends} {r : Res α} {k : α → DEnv → Store → Res Ctl} (h : FinS K G W θ N E (r.bind k)) :
    Fin K G W θ N σ r fun a θ' N' H' => ∃ ρ' S', Stt K G θ' N' ρ' S' σ H' ∧ FinS K G W θ' N' E (k a ρ' S') := by
  cases r with
  | ok a ρ S => exact fun θ' N' H' l1 l2 s => ⟨ρ, S, s, FinS.weak l1 l2 h⟩
  | exc c ns xs ρ S => exact fun θ' N' H' d l1 l2 s e => h θ' N' σ H' d l1 l2 s e
  | bad => exact h
theorem ss_cons (h1 : PS X st (tS X.K G W a)) (h2 : PSs X rest (tS X.K G W b)) : PSs X (st :: rest) (tS X.K G W (mSeq a b)) :=
  (pss_cons h1 h2).imp fun E σ H ⟨θ, N, ρ, S, s, fin⟩ => by
    refine ⟨θ, N, ρ, S, s, ?_⟩
    unfold mSeq at fin
    cases e : a ρ S with
    | ok c ρ1 S1 =>
      rw [e] at fin
      cases c with
      | next => exact fun θ' N' σ' H' l1 l2 s1 => ⟨θ', N', ρ1, S1, s1, FinS.weak l1 l2 fin⟩
      | brk => exact fin
      | cont => exact fin
      | ret d => exact fin
    | exc c ns xs ρ1 S1 => rw [e] at fin; exact fin
    | bad => rw [e] at fin; exact fin
theorem ss_one (h1 : PS X st (tS X.K G W a)) : PSs X [st] (tS X.K G W a) := pss_one h1
theorem st_pass : PS X (.Pass pos) (tS X.K G W mNext) := ps_pass.imp fun E σ H ⟨θ, N, ρ, S, s, fin⟩ => fin θ N σ H (LeT.refl _) (Same.refl _) s
def mBreak : M Ctl := fun ρ S => .ok .brk ρ S
def mCont : M Ctl := fun ρ S => .ok .cont ρ S
theorem st_break : PS X (.Break pos) (tS X.K G W mBreak) := ps_break.imp fun E σ H ⟨θ, N, ρ, S, s, fin⟩ => fin θ N σ H (LeT.refl _) (Same.refl _) s
theorem st_cont : PS X (.Continue pos) (tS X.K G W mCont) := ps_continue.imp fun E σ H ⟨θ, N, ρ, S, s, fin⟩ => fin θ N σ H (LeT.refl _) (Same.refl _) s
theorem st_ret (h : PE X e (tE X.K G W m)) : PS X (.Return (some e) pos) (tS X.K G W (mRet m)) :=
  (ps_ret h).imp fun E σ H ⟨θ, N, ρ, S, s, fin⟩ => ⟨θ, N, ρ, S, s, (fin_st fin).imp fun d θ1 N1 H1 l1 l2 ⟨ρ1, S1, s1, fin1⟩ v r => fin1 θ1 N1 σ H1 (LeT.refl _) (Same.refl _) s1 v r⟩
theorem st_retN : PS X (.Return none pos) (tS X.K G W (mRet (mC .non))) := ps_retN.imp fun E σ H ⟨θ, N, ρ, S, s, fin⟩ => fin θ N σ H (LeT.refl _) (Same.refl _) s .non rfl
theorem st_expr (h : PE X e (tE X.K G W m)) (hs : swapsWith e none pos.line X.env = pure false := by rfl) : PS X (.Expr e pos) (tS X.K G W (mDrop m)) :=
  (ps_expr h hs).imp fun E σ H ⟨θ, N, ρ, S, s, fin⟩ => ⟨θ, N, ρ, S, s, (fin_st fin).imp fun d θ1 N1 H1 l1 l2 ⟨ρ1, S1, s1, fin1⟩ v r => fin1 θ1 N1 σ H1 (LeT.refl _) (Same.refl _) s1⟩
theorem st_if {c : Expr} {t : M Bool} {sa sb : List Stmt} (hc : PT X c (tT X.K G W t)) (ha : PSs X sa (tS X.K G W a)) (hb : PSs X sb (tS X.K G W b)) : PS X (.If c sa sb pos) (tS X.K G W (mIfS t a b)) :=
  (ps_if hc ha hb).imp fun E σ H ⟨θ, N, ρ, S, s, fin⟩ => ⟨θ, N, ρ, S, s, (fin_st fin).imp fun c θ1 N1 H1 l1 l2 ⟨ρ1, S1, s1, fin1⟩ => by
    cases c with
    | true => rw [if_pos rfl]; exact ⟨θ1, N1, ρ1, S1, s1, fin1⟩
    | false => rw [if_neg Bool.false_ne_true]; exact ⟨θ1, N1, ρ1, S1, s1, fin1⟩⟩
theorem st_set (i : Nat) {x : Str} {pos' : Pos} (hN : X.N.Nodup) (hi : X.N[i]? = some x) (hx : Loc X.env.scope x) (h : PE X e (tE X.K G W m)) (hs : swapsWith e (some (.Name x pos')) pos.line X.env = pure false := by rfl) (hf : X.fn x = true ∨ X.env.scope.names.lookup x = some .local := by first | exact .inl rfl | exact .inr rfl | assumption) :
    PS X (.Assign [.Name x pos'] e pos) (tS X.K G W (mSet i m)) :=
  (ps_set hN hi hx h hs hf).imp fun E σ H ⟨θ, N, ρ, S, s, fin⟩ => ⟨θ, N, ρ, S, s, (fin_st fin).imp fun d θ1 N1 H1 l1 l2 ⟨ρ1, S1, s1, fin1⟩ v r => fin1 θ1 N1 _ H1 (LeT.refl _) (Same.refl _) (s1.set i r)⟩
theorem own_new {K : PySem.W.Frag} {θ : Th} {N : Hp} {ρ : DEnv} {S : Store} {σ : St} {H : Hp} {p : Addr} {vs : List V} {xs : List D} (s : Stt K G θ N ρ S σ H) (hp : H p = none) (r : Reps K θ N xs vs) (i : Nat) (hG : G.mi = none) :
    Stt K G θ N (ρ.set i (some (.own (.lst xs)))) S (σ.set i (some (.ref p))) (upd H p (.lst vs)) := by
  refine (s.alloc0 hp _).setOwn i (by rw [hG]; exact fun z => by cases z) ⟨vs, upd_same, r⟩ (s.fresh hp) (s.le.stay p hp) (s.hs.ne hp) fun j c hj e1 e2 => ?_
  obtain ⟨v, e3, a, e4, c1, _⟩ := s.slot j _ e1
  rw [e2] at e3
  cases e3
  cases e4
  obtain ⟨o, h1, _⟩ := c1.some
  rw [hp] at h1; cases h1
theorem st_setOwn (i : Nat) (hG : G.mi = none) {x : Str} {pos' : Pos} (hN : X.N.Nodup) (hi : X.N[i]? = some x) (hx : Loc X.env.scope x) (h : PE X e (tF X.K G W ms)) (hs : swapsWith e (some (.Name x pos')) pos.line X.env = pure false := by rfl) (hf : X.fn x = true ∨ X.env.scope.names.lookup x = some .local := by first | exact .inl rfl | exact .inr rfl | assumption) :
    PS X (.Assign [.Name x pos'] e pos) (tS X.K G W (mSetOwn i ms)) :=
  (ps_set hN hi hx h hs hf).imp fun E σ H ⟨θ, N, ρ, S, s, fin⟩ => ⟨θ, N, ρ, S, s, (fin_st fin).imp fun d θ1 N1 H1 l1 l2 ⟨ρ1, S1, s1, fin1⟩ p vs hp r => fin1 θ1 N1 _ _ (LeT.refl _) (Same.refl _) (own_new s1 hp r i hG)⟩
end

/-! ## targets -/
abbrev MG : Type := D → M Unit
def FinG (K : PySem.W.Frag) (G : Ent) (θ : Th) (N : Hp) (r : Res Unit) (Q : St → Hp → Prop) : Prop := match r with
  | .ok _ ρ' S' => ∀ θ' N' σ' H', LeT θ θ' → Same N N' → Stt K G θ' N' ρ' S' σ' H' → Q σ' H'
  | _ => False
def tG (K : PySem.W.Frag) (G : Ent) (g : MG) : TG := fun v σ H Q => ∃ θ N ρ S d, Stt K G θ N ρ S σ H ∧ Rep K θ N d v ∧ FinG K G θ N (g d ρ S) Q
def tGs (K : PySem.W.Frag) (G : Ent) (g : List D → M Unit) : TGs := fun vs σ H Q => ∃ θ N ρ S ds, Stt K G θ N ρ S σ H ∧ Reps K θ N ds vs ∧ FinG K G θ N (g ds ρ S) Q
theorem _root_.L2.PG.imp {X : Cx} {e : Expr} {t t' : TG} (h : PG X e t) (i : ∀ v σ H Q, t' v σ H Q → t v σ H Q) : PG X e t' := ⟨fun pins s σ H v u Q I r q => h.run pins s σ H v u Q I r (i v σ H Q q)⟩
theorem _root_.L2.PGs.imp {X : Cx} {e : List Expr} {t t' : TGs} (h : PGs X e t) (i : ∀ v σ H Q, t' v σ H Q → t v σ H Q) : PGs X e t' := ⟨fun pins s σ H v u Q I r q => h.run pins s σ H v u Q I r (i v σ H Q q)⟩
def gN (i : Nat) : MG := fun d ρ S => .ok () (ρ.set i (some (.val d))) S
def gsNil : List D → M Unit := fun ds ρ S => match ds with
  | [] => .ok () ρ S
  | _ => .bad
def gsCons (g : MG) (gs : List D → M Unit) : List D → M Unit := fun ds ρ S => match ds with
  | [] => .bad
  | d :: r => match g d ρ S with
    | .ok _ ρ1 S1 => gs r ρ1 S1
    | _ => .bad
/-- (a, b, ..) = a tuple -/
def gT (n : Nat) (gs : List D → M Unit) : MG := fun d ρ S => match d with
  | .tup xs => if xs.length = n then gs xs ρ S else .bad
  | _ => .bad
/-- a, b, .. = a list -/
def gL (n : Nat) (gs : List D → M Unit) : MG := fun d ρ S => match lstOf S d with
  | some xs => if xs.length = n then gs xs ρ S else .bad
  | _ => .bad
section
variable {X : Cx} {G : Ent} {W : WX} {pos : Pos} {e : Expr} {es : List Expr} {g : MG} {gs : List D → M Unit}
theorem g_name (i : Nat) {x : Str} (hN : X.N.Nodup) (hi : X.N[i]? = some x) (hx : Loc X.env.scope x) (hf : X.fn x = true ∨ X.env.scope.names.lookup x = some .local := by first | exact .inl rfl | exact .inr rfl | assumption) : PG X (.Name x pos) (tG X.K G (gN i)) :=
  (pg_name hN hi hx hf).imp fun v σ H Q ⟨θ, N, ρ, S, d, s, r, fin⟩ => fin θ N _ H (LeT.refl _) (Same.refl _) (s.set i r)
theorem gs_nil : PGs X [] (tGs X.K G gsNil) := pgs_nil.imp fun vs σ H Q ⟨θ, N, ρ, S, ds, s, r, fin⟩ => by
  cases ds with
  | nil => cases r; exact ⟨rfl, fin θ N σ H (LeT.refl _) (Same.refl _) s⟩
  | cons d r => exact fin.elim
theorem gs_cons (h1 : PG X e (tG X.K G g)) (h2 : PGs X es (tGs X.K G gs)) (hs : (assignEach (e :: es) X.env).map (·.2) = assign e X.env :: (assignEach es X.env).map (·.2) := by rfl) : PGs X (e :: es) (tGs X.K G (gsCons g gs)) :=
  (pgs_cons h1 h2 hs).imp fun vs σ H Q ⟨θ, N, ρ, S, ds, s, r, fin⟩ => by
    cases ds with
    | nil => exact fin.elim
    | cons d rest =>
      obtain ⟨v, us, rfl, r1, r2⟩ := r
      refine ⟨v, us, rfl, θ, N, ρ, S, d, s, r1, ?_⟩
      simp only [gsCons] at fin
      cases e1 : g d ρ S with
      | ok c ρ1 S1 =>
        rw [e1] at fin
        intro θ' N' σ' H' l1 l2 s1
        refine ⟨θ', N', ρ1, S1, rest, s1, r2.mono l1 l2, ?_⟩
        simp only at fin
        cases e2 : gs rest ρ1 S1 with
        | ok c ρ2 S2 => rw [e2] at fin; exact fun θ'' N'' σ'' H'' l3 l4 s2 => fin θ'' N'' σ'' H'' (l1.trans l3) (l2.trans l4) s2
        | exc c ns xs ρ2 S2 => rw [e2] at fin; exact fin
        | bad => rw [e2] at fin; exact fin
      | exc c ns xs ρ1 S1 => rw [e1] at fin; exact fin.elim
      | bad => rw [e1] at fin; exact fin.elim
theorem g_tup {kk : Nat} (n : Nat) (hc : X.calm = true) (h : PGs X es (tGs X.K G gs)) (hn : (assignEach es X.env).length = n := by rfl) (hst : (assignEach es X.env).findIdx? (·.1) = none := by rfl) : PG X (.Tuple es kk pos) (tG X.K G (gT n gs)) :=
  (pg_tup hc h hn hst).imp fun v σ H Q ⟨θ, N, ρ, S, d, s, r, fin⟩ => by
    unfold gT at fin
    split at fin
    · split at fin
      · rename_i xs hl
        obtain ⟨a, vs, rfl, h1, r1⟩ := r
        exact ⟨a, vs, rfl, same_sqT s.hs.sub h1, by rw [r1.length]; exact hl, θ, N, ρ, S, xs, s, r1, fin⟩
      · exact fin.elim
    · exact fin.elim
/-- an assignment to any target -/
def mAsg (m : M D) (g : MG) : M Ctl := fun ρ S => (m ρ S).bind fun d ρ1 S1 => match g d ρ1 S1 with
  | .ok _ ρ2 S2 => .ok .next ρ2 S2
  | _ => .bad
theorem st_asg {tg : Expr} {m : M D} (he : PE X e (tE X.K G W m)) (hg : PG X tg (tG X.K G g)) (hs : swapsWithSole [tg] e pos.line X.env = pure false := by rfl) (hw : swappedStores [tg] e X.env = pure none := by rfl)
    (h1 : (assignEach [tg] X.env).map (·.2) = [assign tg X.env] := by rfl) : PS X (.Assign [tg] e pos) (tS X.K G W (mAsg m g)) :=
  (ps_asg he hg hs hw h1).imp fun E σ H ⟨θ, N, ρ, S, s, fin⟩ => ⟨θ, N, ρ, S, s, (fin_st fin).imp fun d θ1 N1 H1 l1 l2 ⟨ρ1, S1, s1, fin1⟩ v r => by
    refine ⟨θ1, N1, ρ1, S1, d, s1, r, ?_⟩
    cases e2 : g d ρ1 S1 with
    | ok c ρ2 S2 => rw [e2] at fin1; exact fun θ' N' σ' H' l1 l2 s2 => fin1 θ' N' σ' H' l1 l2 s2
    | exc c ns xs ρ2 S2 => rw [e2] at fin1; exact fin1
    | bad => rw [e2] at fin1; exact fin1⟩
end

/-! ## what a for walks -/
/-- an iterator over the things its -/
def JOk (K : PySem.W.Frag) (G : Ent) (θ : Th) (N : Hp) (J : It) (its : List D) : Prop := ∀ (θ1 : Th) (N1 : Hp) (ρ1 : DEnv) (S1 : Store) (σ1 : St) (H1 : Hp), LeT θ θ1 → Same N N1 → Stt K G θ1 N1 ρ1 S1 σ1 H1 → ∀ i : Nat,
  (∀ d, its[i]? = some d → J.go i H1 ∧ ∀ x H2, J.yld i H1 x H2 → ∃ N2, Same N1 N2 ∧ Stt K G θ1 N2 ρ1 S1 σ1 H2 ∧ Rep K θ1 N2 d x) ∧ (its.length ≤ i → J.stop i H1)
/-- for any entry: a comprehension's blocks have each its own -/
def tI (K : PySem.W.Frag) (G : Ent) (W : WX) (m : M (List D)) : TI := fun σ H R => ∃ θ N ρ S, Stt K G θ N ρ S σ H ∧ Fin K G W θ N σ (m ρ S) fun its θ' N' H' => ∀ J, (∀ G', JOk K G' θ' N' J its) → R J H'
theorem _root_.L2.PI.imp {X : Cx} {tg e : Expr} {t t' : TI} (h : PI X tg e t) (i : ∀ σ H Q, t' σ H Q → t σ H Q) : PI X tg e t' := ⟨fun pins s σ H R I q => h.run pins s σ H R I (i σ H R q)⟩
theorem _root_.L2.PI.or {X : Cx} {tg e : Expr} {t t' : TI} (h : PI X tg e t) (h' : PI X tg e t') : PI X tg e (fun σ H R => t σ H R ∨ t' σ H R) := ⟨fun pins s σ H R I q => q.elim (h.run pins s σ H R I) (h'.run pins s σ H R I)⟩
/-- the things of a list, a tuple, a text -/
def itsOf : D → Option (List D)
  | .lst xs => some xs
  | .scr xs => some xs
  | .tup xs => some xs
  | .str z => some (z.map fun c => .str [c])
  | _ => none
def mIts (m : M D) : M (List D) := fun ρ S => (m ρ S).bind fun d ρ1 S1 => Res.ofO (itsOf d) ρ1 S1
section
variable {X : Cx} {G : Ent} {W : WX} {tg e : Expr} {m : M D} {pos p : Pos}
theorem jok_lst {K : PySem.W.Frag} {G : Ent} {θ : Th} {N : Hp} {a : Addr} {xs : List D} {vs : List V} (h : ∀ H, Same N H → SqL K H a vs) (r : Reps K θ N xs vs) : JOk K G θ N (Itl K a) xs := fun θ1 N1 ρ1 S1 σ1 H1 l1 l2 s i => by
  have q := h H1 (l2.trans s.hs.sub)
  refine ⟨fun d e => ?_, fun z => ⟨vs, q, by rw [r.length]; exact z⟩⟩
  obtain ⟨v, e1, r1⟩ := r.get e
  refine ⟨⟨vs, v, q, e1⟩, fun x H2 ⟨e2, y⟩ => ?_⟩
  subst e2
  have e3 := y vs q
  rw [e1] at e3
  cases e3
  exact ⟨N1, Same.refl _, s, r1.mono l1 l2⟩
theorem jok_tup {K : PySem.W.Frag} {G : Ent} {θ : Th} {N : Hp} {a : Addr} {xs : List D} {vs : List V} (h : ∀ H, Same N H → SqT K H a vs) (r : Reps K θ N xs vs) : JOk K G θ N (Itt K a) xs := fun θ1 N1 ρ1 S1 σ1 H1 l1 l2 s i => by
  have q := h H1 (l2.trans s.hs.sub)
  refine ⟨fun d e => ?_, fun z => ⟨vs, q, by rw [r.length]; exact z⟩⟩
  obtain ⟨v, e1, r1⟩ := r.get e
  refine ⟨⟨vs, v, q, e1⟩, fun x H2 ⟨e2, y⟩ => ?_⟩
  subst e2
  have e3 := y vs q
  rw [e1] at e3
  cases e3
  exact ⟨N1, Same.refl _, s, r1.mono l1 l2⟩
theorem jok_str {K : PySem.W.Frag} {G : Ent} {θ : Th} {N : Hp} {z : List Nat} (t : okText z) : JOk K G θ N (Its (mkS z)) (z.map fun c => .str [c]) := fun θ1 N1 ρ1 S1 σ1 H1 l1 l2 s i => by
  refine ⟨fun d e => ?_, fun q => by simpa [Its, mkS] using q⟩
  rw [List.getElem?_map] at e
  obtain ⟨c, e1, rfl⟩ := Option.map_eq_some_iff.mp e
  have hl := (List.getElem?_eq_some_iff.mp e1).1
  refine ⟨by simpa [Its, mkS] using hl, fun x H2 ⟨e2, c', e3, e4⟩ => ?_⟩
  subst e2
  have e5 : z[i]? = some c' := by simpa [mkS] using e3
  rw [e1] at e5
  cases e5
  exact ⟨N1, Same.refl _, s, e4, fun c' hc => by
    have : c' = c := by simpa using hc
    exact this ▸ t c (List.mem_of_getElem? e1)⟩
theorem i_its (h : PE X e (tE X.K G W m)) : PI X tg e (tI X.K G W (mIts m)) :=
  (PI.or (pi_list h) (PI.or (pi_tup h) (pi_str h))).imp fun σ H R ⟨θ, N, ρ, S, s, fin⟩ => by
    unfold mIts at fin
    cases e0 : m ρ S with
    | bad => rw [e0] at fin; exact fin.elim
    | exc c ns xs ρ1 S1 => exact .inl ⟨θ, N, ρ, S, s, by rw [e0] at fin ⊢; exact fin⟩
    | ok d ρ1 S1 =>
      rw [e0] at fin
      change Fin X.K G W θ N σ (Res.ofO (itsOf d) ρ1 S1) _ at fin
      cases d with
      | lst xs =>
        refine .inl ⟨θ, N, ρ, S, s, ?_⟩
        rw [e0]
        intro θ' N' H' l1 l2 s1 v r
        obtain ⟨a, vs, rfl, h1, r1⟩ := r
        exact ⟨a, rfl, ⟨vs, .of (s1.hs.sub _ _ h1)⟩, fin θ' N' H' l1 l2 s1 _ fun G' => jok_lst (fun H q => .of (q _ _ h1)) r1⟩
      | scr xs =>
        refine .inl ⟨θ, N, ρ, S, s, ?_⟩
        rw [e0]
        intro θ' N' H' l1 l2 s1 v r
        obtain ⟨a, vs, rfl, h1, r1⟩ := r
        exact ⟨a, rfl, ⟨vs, same_sqL s1.hs.sub h1⟩, fin θ' N' H' l1 l2 s1 _ fun G' => jok_lst (fun H q => same_sqL q h1) r1⟩
      | tup xs =>
        refine .inr (.inl ⟨θ, N, ρ, S, s, ?_⟩)
        rw [e0]
        intro θ' N' H' l1 l2 s1 v r
        obtain ⟨a, vs, rfl, h1, r1⟩ := r
        exact ⟨a, rfl, ⟨vs, same_sqT s1.hs.sub h1⟩, fin θ' N' H' l1 l2 s1 _ fun G' => jok_tup (fun H q => same_sqT q h1) r1⟩
      | str z =>
        refine .inr (.inr ⟨θ, N, ρ, S, s, ?_⟩)
        rw [e0]
        intro θ' N' H' l1 l2 s1 v r
        obtain ⟨rfl, t⟩ := r
        exact ⟨_, rfl, fin θ' N' H' l1 l2 s1 _ fun G' => jok_str t⟩
      | non => exact fin.elim
      | bl b => exact fin.elim
      | int i => exact fin.elim
      | obj c ns xs => exact fin.elim
      | ref n => exact fin.elim
/-- range(n) -/
def mRange1 (ms : M (List D)) : M (List D) := fun ρ S => (ms ρ S).bind fun ds ρ1 S1 => match ds with
  | [.int j] => if j < 2 ^ 62 ∧ -(2 ^ 62) ≤ j then .ok ((List.range j.toNat).map fun i => .int (i : Nat)) ρ1 S1 else .bad
  | _ => .bad
theorem jok_range {K : PySem.W.Frag} {G : Ent} {θ : Th} {N : Hp} (lo : Int) (n : Nat) : JOk K G θ N (Itr lo n) ((List.range n).map fun i => .int (lo + (i : Nat))) := fun θ1 N1 ρ1 S1 σ1 H1 l1 l2 s i => by
  refine ⟨fun d e => ?_, fun q => by simpa [Itr] using q⟩
  rw [List.getElem?_map] at e
  obtain ⟨c, e1, rfl⟩ := Option.map_eq_some_iff.mp e
  have hl := (List.getElem?_eq_some_iff.mp e1).1
  have e2 : c = i := by
    have := (List.getElem?_eq_some_iff.mp e1).2
    simpa using this.symm
  subst e2
  exact ⟨by simpa [Itr] using hl, fun x H2 ⟨e3, e4⟩ => by subst e3; exact ⟨N1, Same.refl _, s, e4⟩⟩
theorem i_range1 {ms : M (List D)} (hg : Gl X "range") (hm : X.mg "range" = none) (ha : PA X [e] (tA X.K G W ms)) (hs : starEach [e] X.env = [(false, eval e X.env)] := by rfl) : PI X tg (.Call (.Name "range" p) [e] [] pos) (tI X.K G W (mRange1 ms)) :=
  (pi_range1 hg hm ha hs).imp fun σ H R ⟨θ, N, ρ, S, s, fin⟩ => ⟨θ, N, ρ, S, s, (Fin.bind fin).imp fun ds θ1 N1 H1 l1 l2 ⟨ρ1, S1, s1, fin1⟩ xs r => by
    split at fin1
    · split at fin1
      · rename_i j _ hj
        obtain ⟨v, rfl, rfl⟩ := reps1 r
        refine ⟨j, rfl, hj.2, hj.1, fin1 θ1 N1 H1 (LeT.refl _) (Same.refl _) s1 _ fun G' => ?_⟩
        have := jok_range (K := X.K) (G := G') (θ := θ1) (N := N1) 0 j.toNat
        simpa using this
      · exact fin1.elim
    · exact fin1.elim⟩
end

/-! ## for -/
def mForL (g : MG) (mb : M Ctl) : List D → M Ctl
  | [] => fun ρ S => .ok .next ρ S
  | d :: r => fun ρ S => match g d ρ S with
    | .ok _ ρ1 S1 => match mb ρ1 S1 with
      | .ok .next ρ2 S2 => mForL g mb r ρ2 S2
      | .ok .cont ρ2 S2 => mForL g mb r ρ2 S2
      | .ok .brk ρ2 S2 => .ok .next ρ2 S2
      | x => x
    | _ => .bad
def mFor (mi : M (List D)) (g : MG) (mb : M Ctl) : M Ctl := fun ρ S => (mi ρ S).bind fun its ρ1 S1 => mForL g mb its ρ1 S1
section
variable {X : Cx} {G : Ent} {W : WX} {tg iter : Expr} {body : List Stmt} {g : MG} {mi : M (List D)} {mb : M Ctl} {pos : Pos}
theorem st_for (hp : PassesOwn (model X.prog X.w) X.A X.env X.xe) (hc : X.calm = true) (hi : PI X tg iter (tI X.K G W mi)) (hg : PG X tg (tG X.K G g)) (hb : PSs X body (tS X.K G W mb))
    (hs : ∀ x, foldedSetIterable iter X.env x = pure x := by intro _; rfl) : PS X (.For tg iter body [] pos) (tS X.K G W (mFor mi g mb)) :=
  (ps_for hp hc hi hg hb hs).imp fun E σ H ⟨θ, N, ρ, S, s, fin⟩ => ⟨θ, N, ρ, S, s, (fin_st fin).imp fun its θ1 N1 H1 l1 l2 ⟨ρ1, S1, s1, fin1⟩ J jok => by
    refine ⟨fun i m σ' H' => m = its.length - i ∧ i ≤ its.length ∧ ∃ θ' N' ρ' S', LeT θ1 θ' ∧ Same N1 N' ∧ Stt X.K G θ' N' ρ' S' σ' H' ∧ FinS X.K G W θ' N' E (mForL g mb (its.drop i) ρ' S'), ⟨its.length, by simp, Nat.zero_le _, θ1, N1, ρ1, S1, LeT.refl _, Same.refl _, s1, fin1⟩, ?_⟩
    rintro i m σ' H' ⟨rfl, hi, θ', N', ρ', S', l3, l4, s', f'⟩
    obtain ⟨j1, j2⟩ := jok G θ' N' ρ' S' σ' H' l3 l4 s' i
    by_cases hlt : i < its.length
    · refine .inr ?_
      obtain ⟨go, yl⟩ := j1 _ (List.getElem?_eq_getElem hlt)
      have hd : its.drop i = its[i] :: its.drop (i + 1) := (List.drop_eq_getElem_cons hlt)
      rw [hd] at f'
      refine ⟨go, fun σ3 H3 => (i + 1) ≤ its.length ∧ ∃ θ' N' ρ' S', LeT θ1 θ' ∧ Same N1 N' ∧ Stt X.K G θ' N' ρ' S' σ3 H3 ∧ FinS X.K G W θ' N' E (mForL g mb (its.drop (i + 1)) ρ' S'), fun σ3 H3 ⟨h1, θ', N', ρ', S', q1, q2, q3, q4⟩ => ⟨its.length - (i + 1), by omega, rfl, h1, θ', N', ρ', S', q1, q2, q3, q4⟩, fun x H2 y => ?_⟩
      obtain ⟨N2, l5, s2, r2⟩ := yl x H2 y
      refine ⟨θ', N2, ρ', S', its[i], s2, r2, ?_⟩
      unfold mForL at f'
      cases e1 : g its[i] ρ' S' with
      | ok c ρ3 S3 =>
        rw [e1] at f'
        intro θ3 N3 σ3 H3 l6 l7 s3
        refine ⟨θ3, N3, ρ3, S3, s3, ?_⟩
        simp only at f'
        cases e2 : mb ρ3 S3 with
        | ok c ρ4 S4 =>
          rw [e2] at f'
          cases c with
          | next => exact fun θ4 N4 σ4 H4 l8 l9 s4 => ⟨hlt, θ4, N4, ρ4, S4, l3.trans (l6.trans l8), l4.trans (l5.trans (l7.trans l9)), s4, FinS.weak (l6.trans l8) (l5.trans (l7.trans l9)) f'⟩
          | cont => exact fun θ4 N4 σ4 H4 l8 l9 s4 => ⟨hlt, θ4, N4, ρ4, S4, l3.trans (l6.trans l8), l4.trans (l5.trans (l7.trans l9)), s4, FinS.weak (l6.trans l8) (l5.trans (l7.trans l9)) f'⟩
          | brk => exact fun θ4 N4 σ4 H4 l8 l9 s4 => f' θ4 N4 σ4 H4 (l6.trans l8) (l5.trans (l7.trans l9)) s4
          | ret d => exact fun θ4 N4 σ4 H4 l8 l9 s4 => f' θ4 N4 σ4 H4 (l6.trans l8) (l5.trans (l7.trans l9)) s4
        | exc c ns xs ρ4 S4 => rw [e2] at f'; exact fun θ4 N4 σ4 H4 d l8 l9 s4 => f' θ4 N4 σ4 H4 d (l6.trans l8) (l5.trans (l7.trans l9)) s4
        | bad => rw [e2] at f'; exact f'
      | exc c ns xs ρ3 S3 => rw [e1] at f'; exact f'.elim
      | bad => rw [e1] at f'; exact f'.elim
    · have e : i = its.length := by omega
      subst e
      refine .inl ⟨j2 (Nat.le_refl _), ?_⟩
      rw [List.drop_length] at f'
      exact f' θ' N' σ' H' (LeT.refl _) (Same.refl _) s'⟩
end
end DL

namespace DL
open PySem PySem.Spec L2 TL

/-! ## list comprehensions -/
abbrev W0 : WX := fun _ _ _ _ => False
def mLcL (gm : MG) (tm : M Bool) (me : M D) (ρb : DEnv) : List D → Store → Option (List D × Store)
  | [], S => some ([], S)
  | d :: r, S => match gm d ρb S with
    | .ok _ ρ1 S1 => match tm ρ1 S1 with
      | .ok true ρ2 S2 => match me ρ2 S2 with
        | .ok x _ S3 => (mLcL gm tm me ρb r S3).map fun p => (x :: p.1, p.2)
        | _ => none
      | .ok false _ S2 => mLcL gm tm me ρb r S2
      | _ => none
    | _ => none
def mLc (vs : List Nat) (mi : M (List D)) (gm : MG) (tm : M Bool) (me : M D) : M (List D) := fun ρ S => (mi ρ S).bind fun its ρ1 S1 =>
  if its.length ≤ sizeLine then match mLcL gm tm me (wipeD (hideOwn ρ1) vs) its S1 with
    | some (xs, S2) => .ok xs ρ1 S2
    | none => .bad
  else .bad
def mYes : M Bool := fun ρ S => .ok true ρ S
/-- a target of a comprehension: its own names alone -/
def CompG (K : PySem.W.Frag) (g : TG) (gm : MG) (vs : List Nat) : Prop := ∀ (G : Ent) (θ : Th) (N : Hp) (ρ : DEnv) (S : Store) (σ : St) (H : Hp) (d : D) (x : V) (Q : St → Hp → Prop), Stt K G θ N ρ S (wipe σ vs) H → Rep K θ N d x →
  (∃ ρ1 S1, gm d ρ S = .ok () ρ1 S1 ∧ ∀ σ2, Stt K G θ N ρ1 S1 σ2 H → wipe σ2 vs = wipe σ vs → Q σ2 H) → g x (wipe σ vs) H Q
theorem wipe_set {σ : St} {i : Nat} {x : Option V} : ∀ {vs : List Nat}, i ∈ vs → wipe (σ.set i x) vs = wipe σ vs
  | [], h => by cases h
  | v :: vs, h => by
    show (wipe (σ.set i x) vs).set v none = (wipe σ vs).set v none
    by_cases hi : i ∈ vs
    · rw [wipe_set hi]
    · have hv : i = v := by
        rcases List.mem_cons.mp h with e | e
        · exact e
        · exact absurd e hi
      subst hv
      have key : ∀ vs : List Nat, i ∉ vs → wipe (σ.set i x) vs = (wipe σ vs).set i x := fun vs => by
        induction vs with
        | nil => intro _; rfl
        | cons u us ih =>
          intro hn
          show (wipe (σ.set i x) us).set u none = ((wipe σ us).set u none).set i x
          rw [ih fun z => hn (List.mem_cons_of_mem _ z)]
          exact List.set_comm _ _ fun e => hn (by rw [e]; exact List.mem_cons_self)
      rw [key vs hi, List.set_set]
theorem wipe_wipe {σ : St} : ∀ {vs : List Nat} (us : List Nat), (∀ v ∈ vs, v ∈ us) → wipe (wipe σ vs) us = wipe σ us
  | [], us, _ => rfl
  | v :: vs, us, h => by
    show wipe ((wipe σ vs).set v none) us = wipe σ us
    rw [wipe_set (h v List.mem_cons_self)]
    exact wipe_wipe us fun u hu => h u (List.mem_cons_of_mem _ hu)
theorem compG_name {K : PySem.W.Frag} {vs : List Nat} (i : Nat) (hi : i ∈ vs) : CompG K (gName i) (gN i) vs := fun G θ N ρ S σ H d x Q s r ⟨ρ1, S1, e, k⟩ => by
  cases e
  exact k _ (s.set i r) (by rw [wipe_set hi, wipe_wipe vs fun _ h => h])
theorem compG_two {K : PySem.W.Frag} {vs : List Nat} (i j : Nat) (hi : i ∈ vs) (hj : j ∈ vs) : CompG K (gTup K 2 (gCons (gName i) (gCons (gName j) gNil))) (gT 2 (gsCons (gN i) (gsCons (gN j) gsNil))) vs := fun G θ N ρ S σ H d x Q s r ⟨ρ1, S1, e, k⟩ => by
  unfold gT at e
  split at e
  · split at e
    · rename_i xs _ hl
      obtain ⟨a, us, rfl, h1, r1⟩ := r
      match xs, hl, r1 with
      | [d1, d2], _, r1 =>
        obtain ⟨v1, u1, rfl, q1, v2, u2, rfl, q2, q3⟩ := r1
        cases q3
        cases e
        refine ⟨a, _, rfl, same_sqT s.hs.sub h1, rfl, v1, _, rfl, v2, _, rfl, rfl, ?_⟩
        exact k _ ((s.set i q1).set j q2) (by rw [wipe_set hj, wipe_set hi, wipe_wipe vs fun _ h => h])
    · cases e
  · cases e
section
variable {K : PySem.W.Frag} {G : Ent} {θ θ' : Th} {N N' : Hp} {S S' : Store} {H H1 H' : Hp} {p : Addr} {o : HO}
theorem HS.free (hs : HS K θ N S H) (h1 : N p = none) (h2 : ∀ n, θ n ≠ some p) (o : Option HO) : HS K θ N S (fun b => if b = p then o else H b) := by
  refine ⟨fun b u e => ?_, hs.inj, fun n c e => ?_, hs.dom, hs.sep⟩
  · show (if b = p then o else H b) = some u
    rw [if_neg (ne_of_none e h1)]; exact hs.sub b u e
  · obtain ⟨a, e1, c1⟩ := hs.cell n c e
    refine ⟨a, e1, c1.mono (LeT.refl _) (Same.refl _) ?_⟩
    exact if_neg fun (z : a = p) => h2 n (by rw [← z]; exact e1)
theorem Le.free (le : Le G θ N H) (h : G.H p = none) (o : Option HO) : Le G θ N (fun b => if b = p then o else H b) := by
  refine ⟨le.gN, le.gT, le.nN, le.nT, fun b u e q => ?_, fun b e => ?_⟩
  · show (if b = p then o else H b) = some u
    rw [if_neg (ne_of_none e h)]; exact le.keep b u e q
  · by_cases hb : b = p
    · rw [hb]; exact h
    · have e' : (if b = p then o else H b) = none := e
      rw [if_neg hb] at e'; exact le.stay b e'
theorem upd_fun (H : Hp) (p : Addr) (o : HO) : upd H p o = fun b => if b = p then some o else H b := rfl
end
section
variable {X : Cx} {G : Ent} {W : WX} {tg iter elt : Expr} {ifs : List Expr} {scope : Scope} {own : List (Str × Nat)} {pos : Pos} {g : TG} {gm : MG} {mi : M (List D)} {tm : M Bool} {me : M D}
theorem fin_lc {vs : List Nat} (hgm : CompG X.K g gm vs) {σ : St} {H : Hp} {Q : VK} (h : tF X.K G W (mLc vs mi gm tm me) σ H Q) :
    tLc (tI X.K G W mi) g (fun σ H Q => ∃ G', tT X.K G' W0 tm σ H Q) (fun σ H Q => ∃ G', tE X.K G' W0 me σ H Q) vs σ H Q := by
  obtain ⟨θ, N, ρ, S, s, fin⟩ := h
  refine ⟨θ, N, ρ, S, s, (Fin.bind fin).imp fun its θ1 N1 H1 l1 l2 ⟨ρ1, S1, s1, fin1⟩ J jok D hD => ?_⟩
  split at fin1
  · rename_i hz
    split at fin1
    · rename_i xs S2 e0
      refine ⟨fun i m H' => m = its.length - i ∧ i ≤ its.length ∧ ∃ (θ' : Th) (N' : Hp) (S' : Store) (acc rest : List _) (va : List V), HS X.K θ' N' S' H' ∧ Le (ent θ1 N1 H1) θ' N' H' ∧ H' D = some (.lst va) ∧ Reps X.K θ' N' acc va ∧ N' D = none ∧ (∀ n, θ' n ≠ some D) ∧ acc.length ≤ i ∧
        mLcL gm tm me (wipeD (hideOwn ρ1) vs) (its.drop i) S' = some (rest, S2) ∧ acc ++ rest = xs, ⟨its.length, by simp, Nat.zero_le _, θ1, N1, S1, [], xs, [], ?_, ?_, upd_same, .nil, s1.fresh hD, s1.hs.ne hD, Nat.le_refl _, e0, rfl⟩, ?_⟩
      · exact s1.hs.free (s1.fresh hD) (s1.hs.ne hD) _
      · exact (Le.refl s1.hs).free hD _
      rintro i m H' ⟨rfl, hi, θ', N', S', acc, rest, va, hs', le', hD', ra, nD, tD, hl, em, ea⟩
      have sO := s1.back hs' le'
      have sB := sO.hide.wipes vs
      obtain ⟨j1, j2⟩ := jok (ent θ' N' H') θ' N' _ S' _ H' le'.gT le'.gN sB i
      by_cases hlt : i < its.length
      · refine .inr ?_
        obtain ⟨go, yl⟩ := j1 _ (List.getElem?_eq_getElem hlt)
        have hd : its.drop i = its[i] :: its.drop (i + 1) := (List.drop_eq_getElem_cons hlt)
        rw [hd] at em
        refine ⟨go, fun H3 => (i + 1) ≤ its.length ∧ ∃ (θ' : Th) (N' : Hp) (S' : Store) (acc rest : List _) (va : List V), HS X.K θ' N' S' H3 ∧ Le (ent θ1 N1 H1) θ' N' H3 ∧ H3 D = some (.lst va) ∧ Reps X.K θ' N' acc va ∧ N' D = none ∧ (∀ n, θ' n ≠ some D) ∧ acc.length ≤ i + 1 ∧
          mLcL gm tm me (wipeD (hideOwn ρ1) vs) (its.drop (i + 1)) S' = some (rest, S2) ∧ acc ++ rest = xs, fun H3 ⟨h1, q⟩ => ⟨its.length - (i + 1), by omega, rfl, h1, q⟩, fun x H2 y => ?_⟩
        obtain ⟨N2, l5, s2, r2⟩ := yl x H2 y
        simp only [mLcL] at em
        cases e1 : gm its[i] (wipeD (hideOwn ρ1) vs) S' with
        | exc c ns xs ρ3 S3 => rw [e1] at em; cases em
        | bad => rw [e1] at em; cases em
        | ok u ρ3 S3 =>
          rw [e1] at em
          simp only at em
          refine hgm (ent θ' N' H') θ' N2 _ S' σ H2 its[i] x _ s2 r2 ⟨ρ3, S3, e1, fun σ2 s3 ew => ⟨ew, ?_⟩⟩
          -- the state of a block, back at the loop
          have back : ∀ {θ4 : Th} {N4 : Hp} {ρ4 : DEnv} {S4 : Store} {σ4 : St} {H4 : Hp}, Stt X.K (ent θ' N' H') θ4 N4 ρ4 S4 σ4 H4 → H4 D = some (.lst va) ∧ N4 D = none ∧ (∀ n, θ4 n ≠ some D) ∧ Le (ent θ1 N1 H1) θ4 N4 H4 := fun {θ4 N4 ρ4 S4 σ4 H4} s4 => by
            refine ⟨s4.le.keep D _ hD' tD, ?_, fun n z => ?_, le'.trans hs' s4.le⟩
            · cases e3 : N4 D with
              | none => rfl
              | some u =>
                rcases s4.le.nN D u e3 with z | z
                · exact absurd (nD.symm.trans z) (by simp)
                · exact absurd (hD'.symm.trans z) (by simp)
            · rcases s4.le.nT n D z with z' | z'
              · exact tD n z'
              · exact absurd (hD'.symm.trans z') (by simp)
          cases e2 : tm ρ3 S3 with
          | exc c ns xs ρ3 S3 => rw [e2] at em; cases em
          | bad => rw [e2] at em; cases em
          | ok b ρ4 S4 =>
            rw [e2] at em
            refine ⟨ent θ' N' H', θ', N2, ρ3, S3, s3, ?_⟩
            rw [e2]
            intro θ4 N4 H4 l6 l7 s4
            cases b with
            | false =>
              simp only at em
              rw [if_neg Bool.false_ne_true]
              obtain ⟨b1, b2, b3, b4⟩ := back s4
              exact ⟨hlt, θ4, N4, S4, acc, rest, va, s4.hs, b4, b1, ra.mono l6 (l5.trans l7), b2, b3, by omega, em, ea⟩
            | true =>
              simp only at em
              rw [if_pos rfl]
              cases e3 : me ρ4 S4 with
              | exc c ns xs ρ3 S3 => rw [e3] at em; cases em
              | bad => rw [e3] at em; cases em
              | ok y ρ5 S5 =>
                rw [e3] at em
                simp only at em
                obtain ⟨⟨rs, Sf⟩, e4, e5⟩ := Option.map_eq_some_iff.mp em
                cases e5
                refine ⟨ent θ' N' H', θ4, N4, ρ4, S4, s4, ?_⟩
                rw [e3]
                intro θ5 N5 H5 l8 l9 s5 v r5
                obtain ⟨b1, b2, b3, b4⟩ := back s5
                refine ⟨va, b1, ?_, hlt, θ5, N5, S5, acc ++ [y], rs, va ++ [v], s5.hs.free b2 b3 _, b4.free hD _, upd_same, ?_, b2, b3, ?_, e4, ?_⟩
                · rw [ra.length]; omega
                · exact (ra.mono (l6.trans l8) (l5.trans (l7.trans l9))).append (.cons r5 .nil)
                · rw [List.length_append]; simp; omega
                · rw [← ea]; simp
      · have e : i = its.length := by omega
        subst e
        refine .inl ⟨j2 (Nat.le_refl _), ?_⟩
        rw [List.drop_length] at em
        simp only [mLcL, Option.some.injEq, Prod.mk.injEq] at em
        obtain ⟨rfl, rfl⟩ := em
        rw [List.append_nil] at ea
        subst ea
        have hs2 := hs'.free nD tD none
        have le2 := le'.free (p := D) hD none
        have q := fin1 θ' N' _ le'.gT le'.gN (s1.back hs2 le2) D va (if_pos rfl) ra
        have eH : upd (fun b => if b = D then none else H' b) D (.lst va) = H' := by
          funext b
          unfold upd
          by_cases hb : b = D
          · rw [if_pos hb, hb, hD']
          · rw [if_neg hb]; exact if_neg hb
        rw [eH] at q
        exact q
    · exact fin1.elim
  · exact fin1.elim
theorem f_lc (hc : X.calm = true) (hN : X.N.Nodup) (hi : PI X tg iter (tI X.K G W mi)) (ok : BlkOk X.N X.env.scope scope own) (hgm : CompG X.K g gm (own.map (·.2)))
    (hg : ∀ (s : Shared) (H : Hp) (C : Addr) (cl : List (Str × Addr)) (fp : List Addr), PG (X.blk s H scope (compEnvC scope cl C X.env) fp) tg g)
    (ht : ∀ (G' : Ent) (s : Shared) (H : Hp) (C : Addr) (cl : List (Str × Addr)) (fp : List Addr), PTs (X.blk s H scope (compEnvC scope cl C X.env) fp) ifs (tT X.K G' W0 tm))
    (he : ∀ (G' : Ent) (s : Shared) (H : Hp) (C : Addr) (cl : List (Str × Addr)) (fp : List Addr), PE (X.blk s H scope (compEnvC scope cl C X.env) fp) elt (tE X.K G' W0 me)) (hs : ∀ x, foldedSetIterable iter X.env x = pure x := by intro _; rfl) :
    PE X (.ListComp elt [⟨tg, iter, ifs, 0⟩] scope pos) (tF X.K G W (mLc (own.map (·.2)) mi gm tm me)) :=
  (pe_lc hc hN hi ok hg (tt := fun σ H Q => ∃ G', tT X.K G' W0 tm σ H Q) (fun s H C cl fp => ⟨fun pins s' σ H' Q I ⟨G', q⟩ => (ht G' s H C cl fp).run pins s' σ H' Q I q⟩)
    (te := fun σ H Q => ∃ G', tE X.K G' W0 me σ H Q) (fun s H C cl fp => ⟨fun pins s' σ H' Q I ⟨G', q⟩ => (he G' s H C cl fp).run pins s' σ H' Q I q⟩) hs).imp fun _ _ _ => fin_lc hgm
/-- y = [e for ..], y's list a value from here on -/
theorem st_setLc {y : Str} {py spos : Pos} (i : Nat) (hc : X.calm = true) (hN : X.N.Nodup) (hy : X.N[i]? = some y) (hyl : X.env.scope.names.lookup y = some .local) (hsw : swapsWith (.ListComp elt [⟨tg, iter, ifs, 0⟩] scope pos) (some (.Name y py)) spos.line X.env = pure true)
    (hi : PI X tg iter (tI X.K G W mi)) (ok : BlkOk X.N X.env.scope scope own) (hgm : CompG X.K g gm (own.map (·.2)))
    (hg : ∀ (s : Shared) (H : Hp) (C : Addr) (cl : List (Str × Addr)) (fp : List Addr), PG (X.blk s H scope (compEnvC scope cl C X.env) fp) tg g)
    (ht : ∀ (G' : Ent) (s : Shared) (H : Hp) (C : Addr) (cl : List (Str × Addr)) (fp : List Addr), PTs (X.blk s H scope (compEnvC scope cl C X.env) fp) ifs (tT X.K G' W0 tm))
    (he : ∀ (G' : Ent) (s : Shared) (H : Hp) (C : Addr) (cl : List (Str × Addr)) (fp : List Addr), PE (X.blk s H scope (compEnvC scope cl C X.env) fp) elt (tE X.K G' W0 me)) (hs : ∀ x, foldedSetIterable iter X.env x = pure x := by intro _; rfl) :
    PS X (.Assign [.Name y py] (.ListComp elt [⟨tg, iter, ifs, 0⟩] scope pos) spos) (tS X.K G W (mSet i (mLst (mLc (own.map (·.2)) mi gm tm me)))) :=
  (ps_setLc hc hN hy hyl hsw hi ok hg (tt := fun σ H Q => ∃ G', tT X.K G' W0 tm σ H Q) (fun s H C cl fp => ⟨fun pins s' σ H' Q I ⟨G', q⟩ => (ht G' s H C cl fp).run pins s' σ H' Q I q⟩)
    (te := fun σ H Q => ∃ G', tE X.K G' W0 me σ H Q) (fun s H C cl fp => ⟨fun pins s' σ H' Q I ⟨G', q⟩ => (he G' s H C cl fp).run pins s' σ H' Q I q⟩) hs).imp fun E σ H ⟨θ, N, ρ, S, s, fin⟩ =>
    fin_lc hgm (fin_lst ⟨θ, N, ρ, S, s, (fin_st fin).imp fun d θ1 N1 H1 l1 l2 ⟨ρ1, S1, s1, fin1⟩ v r => fin1 θ1 N1 _ H1 (LeT.refl _) (Same.refl _) (s1.set i r)⟩)
/-- y = [e for ..], y's list its own -/
theorem st_setOwnLc {y : Str} {py spos : Pos} (i : Nat) (hG : G.mi = none) (hc : X.calm = true) (hN : X.N.Nodup) (hy : X.N[i]? = some y) (hyl : X.env.scope.names.lookup y = some .local) (hsw : swapsWith (.ListComp elt [⟨tg, iter, ifs, 0⟩] scope pos) (some (.Name y py)) spos.line X.env = pure true)
    (hi : PI X tg iter (tI X.K G W mi)) (ok : BlkOk X.N X.env.scope scope own) (hgm : CompG X.K g gm (own.map (·.2)))
    (hg : ∀ (s : Shared) (H : Hp) (C : Addr) (cl : List (Str × Addr)) (fp : List Addr), PG (X.blk s H scope (compEnvC scope cl C X.env) fp) tg g)
    (ht : ∀ (G' : Ent) (s : Shared) (H : Hp) (C : Addr) (cl : List (Str × Addr)) (fp : List Addr), PTs (X.blk s H scope (compEnvC scope cl C X.env) fp) ifs (tT X.K G' W0 tm))
    (he : ∀ (G' : Ent) (s : Shared) (H : Hp) (C : Addr) (cl : List (Str × Addr)) (fp : List Addr), PE (X.blk s H scope (compEnvC scope cl C X.env) fp) elt (tE X.K G' W0 me)) (hs : ∀ x, foldedSetIterable iter X.env x = pure x := by intro _; rfl) :
    PS X (.Assign [.Name y py] (.ListComp elt [⟨tg, iter, ifs, 0⟩] scope pos) spos) (tS X.K G W (mSetOwn i (mLc (own.map (·.2)) mi gm tm me))) :=
  (ps_setLc hc hN hy hyl hsw hi ok hg (tt := fun σ H Q => ∃ G', tT X.K G' W0 tm σ H Q) (fun s H C cl fp => ⟨fun pins s' σ H' Q I ⟨G', q⟩ => (ht G' s H C cl fp).run pins s' σ H' Q I q⟩)
    (te := fun σ H Q => ∃ G', tE X.K G' W0 me σ H Q) (fun s H C cl fp => ⟨fun pins s' σ H' Q I ⟨G', q⟩ => (he G' s H C cl fp).run pins s' σ H' Q I q⟩) hs).imp fun E σ H ⟨θ, N, ρ, S, s, fin⟩ =>
    fin_lc hgm ⟨θ, N, ρ, S, s, (fin_st fin).imp fun d θ1 N1 H1 l1 l2 ⟨ρ1, S1, s1, fin1⟩ p vs hp r => fin1 θ1 N1 _ _ (LeT.refl _) (Same.refl _) (own_new s1 hp r i hG)⟩
theorem ts_nil : PTs X [] (tT X.K G W mYes) := ⟨fun pins s σ H Q I ⟨θ, N, ρ, S, st, fin⟩ => pts_nil.run pins s σ H Q I (fin θ N H (LeT.refl _) (Same.refl _) st)⟩
theorem ts_one {c : Expr} (h : PT X c (tT X.K G W tm)) : PTs X [c] (tT X.K G W tm) := pts_one h
end
end DL

namespace DL
open PySem PySem.Spec L2 TL

/-! ## lists that are one's own, changed -/
section
variable {K : PySem.W.Frag} {G : Ent} {θ : Th} {N : Hp} {ρ : DEnv} {S : Store} {σ : St} {H : Hp}
theorem Stt.ownAt (s : Stt K G θ N ρ S σ H) {i : Nat} {c : Cell} (e : ρ[i]? = some (some (.own c))) : ∃ a, σ[i]? = some (some (.ref a)) ∧ CellAt K θ N H a c := by
  obtain ⟨v, e1, a, rfl, c1, _⟩ := s.slot i _ e
  exact ⟨a, e1, c1⟩
theorem Stt.ownWrite (s : Stt K G θ N ρ S σ H) {i : Nat} {c c' : Cell} {a : Addr} (e : ρ[i]? = some (some (.own c))) (ea : σ[i]? = some (some (.ref a))) {o : HO} (h : CellAt K θ N (upd H a o) a c') : Stt K G θ N (ρ.set i (some (.own c'))) S σ (upd H a o) := by
  obtain ⟨v, e1, b, rfl, c1, n1, g1, t1⟩ := s.slot i _ e
  rw [ea] at e1
  cases e1
  have hl : i < ρ.length := (List.getElem?_eq_some_iff.mp e).1
  refine ⟨s.hs.free n1 t1 _, s.le.free g1 _, by simpa using s.len, fun j sl q => ?_, fun j k b c1 c2 hjk q1 q2 q3 q4 => ?_, fun j c2 hm q => ?_⟩
  · by_cases hj : j = i
    · subst hj
      rw [List.getElem?_set_self hl] at q
      cases q
      exact ⟨_, ea, a, rfl, h, n1, g1, t1⟩
    · rw [List.getElem?_set_ne (Ne.symm hj)] at q
      obtain ⟨u, q1, q2⟩ := s.slot j sl q
      refine ⟨u, q1, ?_⟩
      cases sl with
      | val d => exact q2
      | exn c2 ns2 xs2 => exact q2
      | own c2 =>
        obtain ⟨b, q3, c3, n2, g2, t2⟩ := q2
        subst q3
        exact ⟨b, rfl, c3.mono (LeT.refl _) (Same.refl _) (upd_ne fun z => s.own j i a _ _ hj q e (by rw [← z]; exact q1) ea), n2, g2, t2⟩
  · have was : ∀ {j : Nat} {c : Cell}, (ρ.set i (some (.own c')))[j]? = some (some (.own c)) → ∃ c0, ρ[j]? = some (some (.own c0)) := fun {j c} q => by
      by_cases hj : j = i
      · exact ⟨_, hj ▸ e⟩
      · rw [List.getElem?_set_ne (Ne.symm hj)] at q; exact ⟨_, q⟩
    obtain ⟨d1, r1⟩ := was q1
    obtain ⟨d2, r2⟩ := was q2
    exact s.own j k b d1 d2 hjk r1 r2 q3 q4
  · by_cases hj : j = i
    · exact s.slf j c hm (hj ▸ e)
    · rw [List.getElem?_set_ne (Ne.symm hj)] at q; exact s.slf j c2 hm q
end
def isOwnL (ρ : DEnv) (i : Nat) : Bool := match ρ[i]? with
  | some (some (.own (.lst _))) => true
  | _ => false
theorem isOwnL_of {ρ : DEnv} {i : Nat} (h : isOwnL ρ i = true) : ∃ xs, ρ[i]? = some (some (.own (.lst xs))) := by
  unfold isOwnL at h
  split at h
  · exact ⟨_, ‹_›⟩
  · cases h
/-- x.append(e) -/
def mAppend (i : Nat) (m : M D) : M Ctl := fun ρ S => match isOwnL ρ i with
  | true => (m ρ S).bind fun d ρ1 S1 => match ρ1[i]? with
    | some (some (.own (.lst xs))) => if xs.length < sizeLine then .ok .next (ρ1.set i (some (.own (.lst (xs ++ [d]))))) S1 else .bad
    | _ => .bad
  | false => .bad
/-- x.extend(e) -/
def mExtend (i : Nat) (m : M D) : M Ctl := fun ρ S => match isOwnL ρ i with
  | true => (m ρ S).bind fun d ρ1 S1 => match ρ1[i]? with
    | some (some (.own (.lst xs))) => match d with
      | .lst ys => if xs.length + ys.length ≤ sizeLine then .ok .next (ρ1.set i (some (.own (.lst (xs ++ ys))))) S1 else .bad
      | _ => .bad
    | _ => .bad
  | false => .bad
/-- x[k] = e -/
def mSetIx (i : Nat) (mk me : M D) : M Ctl := fun ρ S => (me ρ S).bind fun d ρ1 S1 => match isOwnL ρ1 i with
  | true => (mk ρ1 S1).bind fun k ρ2 S2 => match ρ2[i]? with
    | some (some (.own (.lst xs))) => match k with
      | .int k => match ixN xs.length k with
        | some j => .ok .next (ρ2.set i (some (.own (.lst (xs.set j d))))) S2
        | none => .bad
      | _ => .bad
    | _ => .bad
  | false => .bad
section
variable {X : Cx} {G : Ent} {W : WX} {e e2 : Expr} {m mk me : M D} {pos apos cpos p2 : Pos} {x : Str} {p : Pos}
theorem st_append (i : Nat) (hN : X.N[i]? = some x) (hv : Vis X.env.scope x) (ha : PE X e (tE X.K G W m))
    (hd : (x == ("__debug__" : Str)) = false := by decide) (hcd : (x == ("__classdict__" : Str)) = false := by decide)
    (hbase : attributeBase (.Name x p) "append" X.env (eval (.Name x p) X.env) = eval (.Name x p) X.env := by rfl)
    (hfew : ((backTo cpos (starEach (e :: []) X.env)).all (fun x => !x.1) && (backToKw cpos (keywordEach [] X.env)).all (fun x => x.1.isSome) && decide ((e :: []).length + ([] : List Keyword).length + (if ([] : List Keyword).isEmpty then 0 else 1) < 30)) = true := by rfl)
    (hline : (apos.endLine == cpos.line) = true := by rfl) (hs1 : starEach (e :: []) X.env = (false, eval e X.env) :: starEach [] X.env := by rfl) (hplain : (backTo cpos (starEach [] X.env)).any (·.1) = false := by rfl)
    (hs : swapsWith (.Call (.Attribute (.Name x p) "append" apos) [e] [] cpos) none pos.line X.env = pure false := by rfl) :
    PS X (.Expr (.Call (.Attribute (.Name x p) "append" apos) [e] [] cpos) pos) (tS X.K G W (mAppend i m)) :=
  (ps_expr (pe_bm PySem.F.plainAttrs_list PySem.F.slot_list_append PySem.F.type_list_append mt_append (pe_var hN hv hd hcd) (pa_cons ha pa_nil hs1) hbase hfew hline hs1 hplain) hs).imp fun E σ H ⟨θ, N, ρ, S, s, fin⟩ => by
    unfold mAppend at fin
    split at fin
    · rename_i h0
      obtain ⟨xs0, e0⟩ := isOwnL_of h0
      obtain ⟨a, ea, vs0, hH0, _⟩ := s.ownAt e0
      refine ⟨_, ea, .inl ⟨rfl, vs0, .of hH0⟩, θ, N, ρ, S, s, (fin_st fin).imp fun d θ1 N1 H1 l1 l2 ⟨ρ1, S1, s1, fin1⟩ y ry => ?_⟩
      split at fin1
      · rename_i xs e1
        split at fin1
        · rename_i hz
          obtain ⟨a1, ea1, vs, hH, r⟩ := s1.ownAt e1
          rw [ea] at ea1
          cases ea1
          refine ⟨a, vs, y, rfl, rfl, hH, by rw [r.length]; exact hz, ?_⟩
          exact fin1 θ1 N1 σ _ (LeT.refl _) (Same.refl _) (s1.ownWrite e1 ea ⟨_, upd_same, r.append (.cons ry .nil)⟩)
        · exact fin1.elim
      · exact fin1.elim
    · exact fin.elim
theorem st_extend (i : Nat) (hN : X.N[i]? = some x) (hv : Vis X.env.scope x) (ha : PE X e (tE X.K G W m))
    (hd : (x == ("__debug__" : Str)) = false := by decide) (hcd : (x == ("__classdict__" : Str)) = false := by decide)
    (hbase : attributeBase (.Name x p) "extend" X.env (eval (.Name x p) X.env) = eval (.Name x p) X.env := by rfl)
    (hfew : ((backTo cpos (starEach (e :: []) X.env)).all (fun x => !x.1) && (backToKw cpos (keywordEach [] X.env)).all (fun x => x.1.isSome) && decide ((e :: []).length + ([] : List Keyword).length + (if ([] : List Keyword).isEmpty then 0 else 1) < 30)) = true := by rfl)
    (hline : (apos.endLine == cpos.line) = true := by rfl) (hs1 : starEach (e :: []) X.env = (false, eval e X.env) :: starEach [] X.env := by rfl) (hplain : (backTo cpos (starEach [] X.env)).any (·.1) = false := by rfl)
    (hs : swapsWith (.Call (.Attribute (.Name x p) "extend" apos) [e] [] cpos) none pos.line X.env = pure false := by rfl) :
    PS X (.Expr (.Call (.Attribute (.Name x p) "extend" apos) [e] [] cpos) pos) (tS X.K G W (mExtend i m)) :=
  (ps_expr (pe_bm PySem.F.plainAttrs_list PySem.F.slot_list_extend PySem.F.type_list_extend mt_extend (pe_var hN hv hd hcd) (pa_cons ha pa_nil hs1) hbase hfew hline hs1 hplain) hs).imp fun E σ H ⟨θ, N, ρ, S, s, fin⟩ => by
    unfold mExtend at fin
    split at fin
    · rename_i h0
      obtain ⟨xs0, e0⟩ := isOwnL_of h0
      obtain ⟨a, ea, vs0, hH0, _⟩ := s.ownAt e0
      refine ⟨_, ea, .inl ⟨rfl, vs0, .of hH0⟩, θ, N, ρ, S, s, (fin_st fin).imp fun d θ1 N1 H1 l1 l2 ⟨ρ1, S1, s1, fin1⟩ y ry => ?_⟩
      split at fin1
      · rename_i xs e1
        split at fin1
        · split at fin1
          · rename_i ys _ hz
            obtain ⟨a1, ea1, vs, hH, r⟩ := s1.ownAt e1
            rw [ea] at ea1
            cases ea1
            obtain ⟨b, us, rfl, h2, r2⟩ := ry
            refine ⟨a, b, vs, us, rfl, rfl, hH, s1.hs.sub _ _ h2, by rw [r.length, r2.length]; exact hz, ?_⟩
            exact fin1 θ1 N1 σ _ (LeT.refl _) (Same.refl _) (s1.ownWrite e1 ea ⟨_, upd_same, r.append r2⟩)
          · exact fin1.elim
        · exact fin1.elim
      · exact fin1.elim
    · exact fin.elim
theorem st_setIx (i : Nat) (hN : X.N[i]? = some x) (hv : Vis X.env.scope x) (hk : PE X e2 (tE X.K G W mk)) (he : PE X e (tE X.K G W me))
    (hd : (x == ("__debug__" : Str)) = false := by decide) (hcd : (x == ("__classdict__" : Str)) = false := by decide)
    (ha : ∀ v, assign (.Subscript (.Name x p) e2 p2) X.env v = (do
      let ov ← holding [v] (eval (.Name x p) X.env)
      let iv ← holding [v, ov] (eval e2 X.env)
      standAt p2
      holding [v, ov, iv] (setItem ov iv v)
      release [v, ov, iv] []) := by intro _; rfl)
    (hs : swapsWithSole [.Subscript (.Name x p) e2 p2] e pos.line X.env = pure false := by rfl) (hw : swappedStores [.Subscript (.Name x p) e2 p2] e X.env = pure none := by rfl)
    (h1 : (assignEach [.Subscript (.Name x p) e2 p2] X.env).map (·.2) = [assign (.Subscript (.Name x p) e2 p2) X.env] := by rfl) :
    PS X (.Assign [.Subscript (.Name x p) e2 p2] e pos) (tS X.K G W (mSetIx i mk me)) :=
  (ps_asg he (pg_sub (pe_var hN hv hd hcd) hk set_list ha) hs hw h1).imp fun E σ H ⟨θ, N, ρ, S, s, fin⟩ => ⟨θ, N, ρ, S, s, (fin_st fin).imp fun d θ1 N1 H1 l1 l2 ⟨ρ1, S1, s1, fin1⟩ y ry => by
    split at fin1
    · rename_i h0
      obtain ⟨xs0, e0⟩ := isOwnL_of h0
      obtain ⟨a, ea, vs0, hH0, _⟩ := s1.ownAt e0
      refine ⟨_, ea, θ1, N1, ρ1, S1, s1, (fin_st fin1).imp fun k θ2 N2 H2 l3 l4 ⟨ρ2, S2, s2, fin2⟩ z rz => ?_⟩
      split at fin2
      · rename_i xs e1
        cases k with
        | int kk =>
          simp only at fin2
          cases hj : ixN xs.length kk with
          | none => rw [hj] at fin2; exact fin2.elim
          | some j =>
            rw [hj] at fin2
            obtain ⟨a1, ea1, vs, hH, r⟩ := s2.ownAt e1
            rw [ea] at ea1
            cases ea1
            cases rz
            refine ⟨a, vs, kk, j, rfl, rfl, hH, by rw [r.length]; exact hj, ?_⟩
            exact fin2 θ2 N2 σ _ (LeT.refl _) (Same.refl _) (s2.ownWrite e1 ea ⟨_, upd_same, Reps.set j (ry.mono l3 l4) r⟩)
        | _ => exact fin2.elim
      · exact fin2.elim
    · exact fin1.elim⟩
end

/-! ## argument lists' lengths -/
def LenM (ms : M (List D)) (n : Nat) : Prop := ∀ ρ S xs ρ' S', ms ρ S = .ok xs ρ' S' → xs.length = n
theorem lm_nil : LenM mNil 0 := fun ρ S xs ρ' S' e => by cases e; rfl
theorem lm_cons {m : M D} {ms : M (List D)} {n : Nat} (h : LenM ms n) : LenM (mCons m ms) (n + 1) := fun ρ S xs ρ' S' e => by
  unfold mCons at e
  cases e1 : m ρ S with
  | bad => rw [e1] at e; cases e
  | exc c ns ys ρ1 S1 => rw [e1] at e; cases e
  | ok d ρ1 S1 =>
    rw [e1] at e
    change (ms ρ1 S1).bind _ = _ at e
    cases e2 : ms ρ1 S1 with
    | bad => rw [e2] at e; cases e
    | exc c ns ys ρ2 S2 => rw [e2] at e; cases e
    | ok ds ρ2 S2 =>
      rw [e2] at e
      cases e
      rw [List.length_cons, h _ _ _ _ _ e2]

/-! ## defs and their calls -/
abbrev MF : Type := List D → Store → Res D
/-- a call's end -/
def FinC (K : PySem.W.Frag) (θ : Th) (N H : Hp) (Q : VK) (E : XK) (r : Res D) : Prop := match r with
  | .ok d _ S' => ∀ θ' N' H' v, HS K θ' N' S' H' → Le (ent θ N H) θ' N' H' → Rep K θ' N' d v → Q v H'
  | .exc c ns xs _ S' => ∀ θ' N' H' d, HS K θ' N' S' H' → Le (ent θ N H) θ' N' H' → ExcAt K θ' N' ns xs d → E (.ref (He.ga K c)) d H'
  | .bad => False
/-- the promise of a mirror of n parameters -/
def spM (K : PySem.W.Frag) (n : Nat) (m : MF) : Sp := fun vs H Q E => ∃ θ N S ds, HS K θ N S H ∧ Reps K θ N ds vs ∧ ds.length = n ∧ FinC K θ N H Q E (m ds S)
def startD (n : Nat) (ds : List D) : DEnv := ds.map (fun d => some (.val d)) ++ List.replicate (n - ds.length) none
/-- a def's mirror, of its body's -/
def fnM (n : Nat) (mb : M Ctl) : MF := fun ds S => match mb (startD n ds) S with
  | .ok (.ret d) _ S' => .ok d [] S'
  | .ok .next _ S' => .ok .non [] S'
  | .ok _ _ _ => .bad
  | .exc c ns xs _ S' => .exc c ns xs [] S'
  | .bad => .bad
theorem start_get {Ns : List Str} {vs : List V} {i : Nat} (h : i < vs.length) : (L2.start Ns vs)[i]? = (vs[i]?).map some := by
  unfold L2.start
  rw [List.getElem?_append_left (by simpa using h), List.getElem?_map]
theorem startD_some {n i : Nat} {ds : List D} {sl : Slot} (h : (startD n ds)[i]? = some (some sl)) : ∃ d, ds[i]? = some d ∧ sl = .val d := by
  unfold startD at h
  by_cases hi : i < ds.length
  · rw [List.getElem?_append_left (by simpa using hi), List.getElem?_map, List.getElem?_eq_getElem hi] at h
    cases h
    exact ⟨_, List.getElem?_eq_getElem hi, rfl⟩
  · rw [List.getElem?_append_right (by simpa using Nat.le_of_not_lt hi)] at h
    obtain ⟨_, z⟩ := List.getElem?_eq_some_iff.mp h
    simp at z
theorem stt_start {K : PySem.W.Frag} {θ : Th} {N H : Hp} {S : Store} {ds : List D} {vs : List V} {Ns : List Str} (hs : HS K θ N S H) (r : Reps K θ N ds vs) : Stt K (ent θ N H) θ N (startD Ns.length ds) S (L2.start Ns vs) H := by
  refine ⟨hs, Le.refl hs, ?_, fun i sl e => ?_, fun i j a c c' hij e1 e2 e3 e4 => ?_, fun i c hm => by cases hm⟩
  · unfold L2.start startD
    simp [r.length]
  · obtain ⟨d, e1, rfl⟩ := startD_some e
    obtain ⟨v, e2, r2⟩ := r.get e1
    refine ⟨v, ?_, r2⟩
    rw [start_get (List.getElem?_eq_some_iff.mp e2).1, e2]
    rfl
  · obtain ⟨d, _, z⟩ := startD_some e1
    cases z
section
variable {P : Program} {w : World} {K : PySem.W.Frag} {mg : Str → Option Value} {base : Heap} {CX : CXT}
/-- THE RULE: a def keeps its mirror's promise -/
theorem fn_mir {x qual : Str} {params : Arguments} {body : List Stmt} {scope : Scope} {dvs : List V} {kws : List (Str × V)} {f : Addr} {fd : FuncData} {Ns ps : List Str} {k : Nat} {mb : M Ctl} (F : FunD K x qual params body scope dvs kws f fd) (Sc : FnScope Ns ps scope)
    (hb : ∀ (cdv : Value) (A : Around) (outer : List Env) (s : Shared) (H : Hp) (E : XK) (G : Ent), G.mi = none → Room k (A.deeper (PyProof.Rows.envOfC qual scope s.heap.objs.size f cdv)) →
      PSs (cxOf CX P w K mg base Ns qual scope f cdv A outer s H E) body (tS K G (fun cls d _ H => E cls d H) mb)) :
    FnOk P w K mg base CX (k + 1) f fd ps (spM K ps.length (fnM Ns.length mb)) := by
  refine F.ok Sc (fun vs H Q E ⟨θ, N, S, ds, _, r, hl, _⟩ => by rw [r.length]; exact hl) fun cdv A outer s H vs Q E hr ⟨θ, N, S, ds, hs, r, hl, fin⟩ => ?_
  refine ⟨_, hb cdv A outer s H E (ent θ N H) rfl hr, θ, N, startD Ns.length ds, S, stt_start hs r, ?_⟩
  unfold fnM at fin
  cases e : mb (startD Ns.length ds) S with
  | bad => rw [e] at fin; exact fin
  | exc c ns xs ρ S' => rw [e] at fin; exact fun θ' N' σ' H' d l1 l2 s' q => fin θ' N' H' d s'.hs s'.le q
  | ok c ρ S' =>
    rw [e] at fin
    cases c with
    | next => exact fun θ' N' σ' H' l1 l2 s' => fin θ' N' H' .non s'.hs s'.le rfl
    | ret d => exact fun θ' N' σ' H' l1 l2 s' v rv => fin θ' N' H' v s'.hs s'.le rv
    | brk => exact fin.elim
    | cont => exact fin.elim
end
def mCall (m : MF) (dds : List D) (ms : M (List D)) : M D := fun ρ S => (ms ρ S).bind fun ds ρ1 S1 => match m (ds ++ dds) S1 with
  | .ok d _ S2 => .ok d ρ1 S2
  | .exc c ns xs _ S2 => .exc c ns xs ρ1 S2
  | .bad => .bad
section
variable {X : Cx} {G : Ent} {W : WX} {k n j : Nat} {f C : Addr} {fd : FuncData} {ps : List Str} {m : MF} {dvs : List V} {dds : List D} {ds : List Value} {x mname : Str} {p pos apos : Pos} {e o : Expr} {es : List Expr} {ms : M (List D)} {mo : M D}
theorem run_fnW {CX : CXT} {sp : Sp} {E : XK} {pins : List (Addr × Obj)} {σ : St} {H : Hp} {s : Shared} {Q : VK} {us : List Value} {vs : List V} (F : FnOk X.prog X.w X.K X.mg X.base CX k f fd ps sp) (hr : Room k X.A) (hb : Binds X.K fd ps ds) (hd : Vals dvs ds) (hx : PassesAt CX X σ E)
    (I : Inv X pins σ H s) (r : Vals vs us) (h : sp (vs ++ dvs) H Q E) : wpAny (model X.prog X.w) X.A (call (.ref f) us) (EP X pins σ Q) X.xe s := by
  have r2 : Vals (vs ++ dvs) (us ++ ds) := r.append hd
  have hl : (us ++ ds).length = ps.length := by rw [← r2.length]; exact F.len _ _ _ _ h
  refine wpAny_call (codeAny_mono (F.run X.A X.stack s H ⟨us, []⟩ (us ++ ds) (vs ++ dvs) Q E hr I.env0 (hb s us I.kIn hl) r2 h) fun r s' hq => ?_)
  cases r with
  | error e => exact hx pins H s e s' I hq
  | ok fl =>
    cases fl with
    | ret u => exact I.after hq
    | next => exact False.elim hq
    | brk => exact False.elim hq
    | cont => exact False.elim hq
/-- from a statement's promise to the caller's end -/
theorem fin_callM {θ1 : Th} {N1 : Hp} {ρ1 : DEnv} {S1 : Store} {σ : St} {H1 : Hp} {Q : VK} {ds : List D} (st1 : Stt X.K G θ1 N1 ρ1 S1 σ H1)
    (fin : Fin X.K G W θ1 N1 σ (match m ds S1 with
      | .ok d _ S2 => .ok d ρ1 S2
      | .exc c ns xs _ S2 => .exc c ns xs ρ1 S2
      | .bad => .bad) fun a θ' N' H' => ∀ v, Rep X.K θ' N' a v → Q v H') : FinC X.K θ1 N1 H1 Q (WE W σ) (m ds S1) := by
  cases e : m ds S1 with
  | bad => rw [e] at fin; exact fin
  | exc c ns xs ρ2 S2 => rw [e] at fin; exact fun θ' N' H' d hs le q => fin θ' N' H' d le.gT le.gN (st1.back hs le) q
  | ok d ρ2 S2 => rw [e] at fin; exact fun θ' N' H' v hs le r => fin θ' N' H' le.gT le.gN (st1.back hs le) v r
theorem s_call {CX : CXT} (F : FnOk X.prog X.w X.K X.mg X.base CX k f fd ps (spM X.K n m)) (hr : Room k X.A) (hg : Gl X x) (hm : X.mg x = some (.ref f)) (hk : PySem.W.keepIn X.K (.ref f) = true) (hb : Binds X.K fd ps ds) (hd : Vals dvs ds) (hdd : ∀ θ N, Reps X.K θ N dds dvs) (hx : ∀ σ, PassesAt CX X σ (WE W σ))
    (ha : PA X (e :: es) (tA X.K G W ms)) (hms : LenM ms j) (hn : j + dds.length = n) (hdb : (x == ("__debug__" : Str)) = false := by decide) (he : starEach (e :: es) X.env = (false, eval e X.env) :: starEach es X.env := by rfl) (hpl : (backTo pos (starEach es X.env)).any (·.1) = false := by rfl) :
    PE X (.Call (.Name x p) (e :: es) [] pos) (tE X.K G W (mCall m dds ms)) := by
  refine ⟨fun pins s σ H Q I ⟨θ, N, ρ, S, st, fin⟩ => ?_⟩
  refine wpAny_Call_Name_kw (ld_glob I hg hm ?_ hdb)
  refine PySem.W.callWith_K (h₀ := X.base) I.ok.mod.kin hk (thn (ha.run pos pins s σ H (fun vs H1 => spM X.K n m (vs ++ dvs) H1 Q (WE W σ)) I ⟨θ, N, ρ, S, st, ?_⟩) fun us s1 ⟨vs, H1, I1, r, q⟩ => ⟨I1.kIn, ?_⟩) he hpl
  · cases em : ms ρ S with
    | bad => unfold mCall at fin; rw [em] at fin; exact fin.elim
    | exc c ns xs ρ1 S1 => unfold mCall at fin; rw [em] at fin; exact fin
    | ok xs ρ1 S1 =>
      unfold mCall at fin
      rw [em] at fin
      intro θ1 N1 H1 l1 l2 st1 vs rv
      have fin1 : Fin X.K G W θ1 N1 σ _ _ := Fin.weak l1 l2 fin
      exact ⟨θ1, N1, S1, xs ++ dds, st1.hs, rv.append (hdd θ1 N1), by rw [List.length_append, hms _ _ _ _ _ em]; exact hn, fin_callM st1 fin1⟩
  · exact run_fnW F hr hb hd (hx σ) I1 r q
end
end DL

namespace DL
open PySem PySem.Spec L2 TL

/-! ## fields of things that never change -/
def fldL (f : Str) : List Str → List D → Option D
  | n :: ns, x :: xs => if f = n then some x else fldL f ns xs
  | _, _ => none
theorem fldL_rep {K : PySem.W.Frag} {θ : Th} {N : Hp} {f : Str} : ∀ {fs : List (Str × V)} {ns : List Str} {xs : List D} {d : D}, fs.map (·.1) = ns → Reps K θ N xs (fs.map (·.2)) → fldL f ns xs = some d → ∃ v, fs.lookup f = some v ∧ Rep K θ N d v
  | [], ns, xs, d, e, r, h => by subst e; cases h
  | (g, v) :: fs, ns, xs, d, e, r, h => by
    subst e
    cases xs with
    | nil => cases h
    | cons x xs =>
      obtain ⟨v', r', e', r1, r2⟩ := r
      cases e'
      simp only [List.map_cons, fldL] at h
      by_cases hf : f = g
      · rw [if_pos hf] at h
        cases h
        exact ⟨v, by rw [List.lookup_cons, beq_iff_eq.mpr hf], r1⟩
      · rw [if_neg hf] at h
        obtain ⟨u, h1, h2⟩ := fldL_rep (f := f) rfl r2 h
        exact ⟨u, by rw [List.lookup_cons, beq_eq_false_iff_ne.mpr hf]; exact h1, h2⟩
/-- o.f, o of one of the classes cs -/
def mFld (cs : List Str) (f : Str) (m : M D) : M D := fun ρ S => (m ρ S).bind fun d ρ1 S1 => match d with
  | .obj c ns xs => if c ∈ cs then Res.ofO (fldL f ns xs) ρ1 S1 else .bad
  | _ => .bad
section
variable {X : Cx} {G : Ent} {W : WX} {e o : Expr} {m mo : M D} {pos apos : Pos} {f : Str}
theorem s_fld (cs : List Str) (hC : ∀ c ∈ cs, Cls X.K (He.ga X.K c) ∧ NoAttr X.K (He.ga X.K c) f) (h : PE X e (tE X.K G W m)) (hb : attributeBase e f X.env (eval e X.env) = eval e X.env := by rfl) : PE X (.Attribute e f pos) (tE X.K G W (mFld cs f m)) :=
  (pe_fld h hb).imp fun σ H Q ⟨θ, N, ρ, S, s, fin⟩ => ⟨θ, N, ρ, S, s, (Fin.bind fin).imp fun d θ1 N1 H1 l1 l2 ⟨ρ1, S1, s1, fin1⟩ x rx => by
    split at fin1
    · split at fin1
      · rename_i c ns xs _ hc
        obtain ⟨a, dx, fs, rfl, h1, h2, h3⟩ := rx
        cases e1 : fldL f ns xs with
        | none => rw [e1] at fin1; exact fin1.elim
        | some y =>
          rw [e1] at fin1
          obtain ⟨v, h4, h5⟩ := fldL_rep h2 h3 e1
          exact ⟨a, _, dx, fs, v, rfl, s1.hs.sub _ _ h1, (hC c hc).1, (hC c hc).2, h4, fin1 θ1 N1 H1 (LeT.refl _) (Same.refl _) s1 v h5⟩
      · exact fin1.elim
    · exact fin1.elim⟩
end

/-! ## __init__: self's fields, one by one -/
/-- self.f = e, f new -/
def mSetF (c : Str) (f : Str) (m : M D) : M Ctl := fun ρ S => (m ρ S).bind fun d ρ1 S1 => match (ρ1[0]? : Option (Option Slot)) with
  | some (some (.own (.ins c' ns xs))) => if c' = c ∧ f ∉ ns ∧ ns.length < 900 then .ok .next (ρ1.set 0 (some (.own (.ins c' (ns ++ [f]) (xs ++ [d]))))) S1 else .bad
  | _ => .bad
theorem putF_new {f : Str} {v : V} : ∀ {fs : List (Str × V)}, f ∉ fs.map (·.1) → putF f v fs = fs ++ [(f, v)]
  | [], _ => rfl
  | (g, x) :: r, h => by
    have h1 : ¬ g = f := fun z => h (by rw [← z]; simp)
    have h2 : f ∉ r.map (·.1) := fun z => h (by simp at z ⊢; exact .inr z)
    rw [show putF f v ((g, x) :: r) = (if g = f then (g, v) :: r else (g, x) :: putF f v r) from rfl, if_neg h1, putF_new h2]
    rfl
section
variable {X : Cx} {G : Ent} {W : WX} {e : Expr} {m : M D} {pos apos p : Pos} {f x : Str}
theorem st_setF (c : Str) (hC : Cls X.K (He.ga X.K c)) (hA : NoAttr X.K (He.ga X.K c) f) (hm : G.mi = some 0) (hN : X.N[0]? = some x) (hv : Vis X.env.scope x) (h : PE X e (tE X.K G W m))
    (hd : (x == ("__debug__" : Str)) = false := by decide) (hcd : (x == ("__classdict__" : Str)) = false := by decide)
    (hs : swapsWith e (some (.Attribute (.Name x p) f apos)) pos.line X.env = pure false := by rfl) : PS X (.Assign [.Attribute (.Name x p) f apos] e pos) (tS X.K G W (mSetF c f m)) :=
  (ps_fld (pe_var hN hv hd hcd) h hs).imp fun E σ H ⟨θ, N, ρ, S, s, fin⟩ => by
    refine ⟨θ, N, ρ, S, s, ?_⟩
    cases em : m ρ S with
    | bad => unfold mSetF at fin; rw [em] at fin; exact fin.elim
    | exc c ns xs ρ1 S1 => unfold mSetF at fin; rw [em] at fin; exact fun θ' N' H' d l1 l2 s1 q => fin θ' N' σ H' d l1 l2 s1 q
    | ok d ρ1 S1 =>
      unfold mSetF at fin
      rw [em] at fin
      intro θ1 N1 H1 l1 l2 s1 v r
      change FinS X.K G W θ N E (match (ρ1[0]? : Option (Option Slot)) with
        | some (some (.own (.ins c' ns xs))) => if c' = c ∧ f ∉ ns ∧ ns.length < 900 then .ok .next (ρ1.set 0 (some (.own (.ins c' (ns ++ [f]) (xs ++ [d]))))) S1 else .bad
        | _ => .bad) at fin
      split at fin
      · rename_i c' ns xs e1
        split at fin
        · rename_i hf
          obtain ⟨ec, hf⟩ := hf
          subst ec
          obtain ⟨a, ea, dx, fs, h1, h2, h3⟩ := s1.ownAt e1
          refine ⟨_, ea, a, _, dx, fs, rfl, h1, hC, hA, ?_, ?_⟩
          · have : fs.length = ns.length := by rw [← h2, List.length_map]
            omega
          · rw [putF_new (by rw [h2]; exact hf.1)]
            refine fin θ1 N1 σ _ l1 l2 (s1.ownWrite e1 ea ⟨dx, fs ++ [(f, v)], upd_same, by rw [List.map_append, h2]; rfl, ?_⟩)
            rw [List.map_append]
            exact h3.append (.cons r .nil)
        · exact fin.elim
      · exact fin.elim
end
/-! ## classes are called -/
/-- the heap ahead of the new instance -/
def unmade (H : Hp) (x dx : Addr) : Hp := fun b => if b = x then none else if b = dx then none else H b
def FinI (K : PySem.W.Frag) (θ : Th) (N H : Hp) (x : Addr) (Q : VK) (E : XK) (r : Res D) : Prop := match r with
  | .ok d _ S' => ∀ θ' N' H', HS K θ' N' S' H' → Le (ent θ N H) θ' N' H' → Rep K θ' N' d (.ref x) → Q .non H'
  | .exc c ns xs _ S' => ∀ θ' N' H' d, HS K θ' N' S' H' → Le (ent θ N H) θ' N' H' → ExcAt K θ' N' ns xs d → E (.ref (He.ga K c)) d H'
  | .bad => False
/-- an __init__'s promise: m the whole instance from the arguments; n the parameters, self among them -/
def spI (K : PySem.W.Frag) (c : Str) (n : Nat) (m : MF) : Sp := fun vs H Q E => ∃ θ N S ds x dx us, vs = .ref x :: us ∧ H x = some (.ins (He.ga K c) dx []) ∧ H dx = some (.own x) ∧ HS K θ N S (unmade H x dx) ∧ Reps K θ N ds us ∧ ds.length + 1 = n ∧ FinI K θ N (unmade H x dx) x Q E (m ds S)
def startI (n : Nat) (c : Str) (ds : List D) : DEnv := some (.own (.ins c [] [])) :: (ds.map (fun d => some (.val d)) ++ List.replicate (n - 1 - ds.length) none)
def fnI (n : Nat) (c : Str) (mb : M Ctl) : MF := fun ds S => match mb (startI n c ds) S with
  | .ok a ρ S' => match a with
    | .next => match (ρ[0]? : Option (Option Slot)) with
      | some (some (.own (.ins c ns xs))) => .ok (.obj c ns xs) [] S'
      | _ => .bad
    | _ => .bad
  | .exc c ns xs _ S' => .exc c ns xs [] S'
  | .bad => .bad
theorem unmade_same {H : Hp} {x dx : Addr} : Same (unmade H x dx) H := fun b u e => by
  have e' : (if b = x then none else if b = dx then none else H b) = some u := e
  by_cases h1 : b = x
  · rw [if_pos h1] at e'; cases e'
  · rw [if_neg h1] at e'
    by_cases h2 : b = dx
    · rw [if_pos h2] at e'; cases e'
    · rw [if_neg h2] at e'; exact e'
theorem startI_some {n i : Nat} {c : Str} {ds : List D} {sl : Slot} (h : (startI n c ds)[i]? = some (some sl)) : (i = 0 ∧ sl = .own (.ins c [] [])) ∨ ∃ j d, i = j + 1 ∧ ds[j]? = some d ∧ sl = .val d := by
  cases i with
  | zero => cases h; exact .inl ⟨rfl, rfl⟩
  | succ j =>
    unfold startI at h
    rw [List.getElem?_cons_succ] at h
    by_cases hi : j < ds.length
    · rw [List.getElem?_append_left (by simpa using hi), List.getElem?_map, List.getElem?_eq_getElem hi] at h
      cases h
      exact .inr ⟨j, _, rfl, List.getElem?_eq_getElem hi, rfl⟩
    · rw [List.getElem?_append_right (by simpa using Nat.le_of_not_lt hi)] at h
      obtain ⟨_, z⟩ := List.getElem?_eq_some_iff.mp h
      simp at z
theorem stt_startI {K : PySem.W.Frag} {θ : Th} {N H : Hp} {S : Store} {ds : List D} {us : List V} {Ns : List Str} {x dx : Addr} {c : Str} (hx : H x = some (.ins (He.ga K c) dx [])) (hdx : H dx = some (.own x)) (hs : HS K θ N S (unmade H x dx)) (r : Reps K θ N ds us) (hl : 0 < Ns.length) :
    Stt K ⟨θ, N, unmade H x dx, some 0, x, .none, none⟩ θ N (startI Ns.length c ds) S (L2.start Ns (.ref x :: us)) H := by
  have nx : unmade H x dx x = none := if_pos rfl
  have get0 : (L2.start Ns (.ref x :: us))[0]? = some (some (.ref x)) := by
    rw [start_get (by simp)]; rfl
  have hs' : HS K θ N S H := by
    refine ⟨hs.sub.trans unmade_same, hs.inj, fun n c e => ?_, hs.dom, hs.sep⟩
    obtain ⟨a, e1, c1⟩ := hs.cell n c e
    obtain ⟨o, q, _⟩ := c1.some
    exact ⟨a, e1, c1.mono (LeT.refl _) (Same.refl _) ((unmade_same _ _ q).trans q.symm)⟩
  refine ⟨hs', ⟨Same.refl _, LeT.refl _, fun _ _ e => .inl e, fun _ _ e => .inl e, fun a o e _ => unmade_same a o e, fun a e => unmade_same.free e⟩, ?_, fun i sl e => ?_, fun i j a c1 c2 hij e1 e2 e3 e4 => ?_, fun i c1 hm e => ?_⟩
  · unfold L2.start startI
    simp [r.length]
    omega
  · rcases startI_some e with ⟨rfl, rfl⟩ | ⟨j, d, rfl, e1, rfl⟩
    · exact ⟨_, get0, x, rfl, ⟨dx, [], hx, rfl, .nil⟩, hs.sub.free nx, nx, hs.ne nx⟩
    · obtain ⟨v, e2, r2⟩ := r.get e1
      refine ⟨v, ?_, r2⟩
      rw [start_get (by have := (List.getElem?_eq_some_iff.mp e2).1; simp; omega), List.getElem?_cons_succ, e2]
      rfl
  · rcases startI_some e1 with ⟨rfl, _⟩ | ⟨j1, d, _, _, z⟩
    · rcases startI_some e2 with ⟨rfl, _⟩ | ⟨j1, d, _, _, z⟩
      · exact hij rfl
      · cases z
    · cases z
  · cases hm
    exact get0
section
variable {P : Program} {w : World} {K : PySem.W.Frag} {mg : Str → Option Value} {base : Heap} {CX : CXT}
theorem fn_init {x0 qual : Str} {params : Arguments} {body : List Stmt} {scope : Scope} {dvs : List V} {kws : List (Str × V)} {f : Addr} {fd : FuncData} {Ns ps : List Str} {k : Nat} {mb : M Ctl} (c : Str) (F : FunD K x0 qual params body scope dvs kws f fd) (Sc : FnScope Ns ps scope) (hl0 : 0 < Ns.length)
    (hb : ∀ (cdv : Value) (A : Around) (outer : List Env) (s : Shared) (H : Hp) (E : XK) (G : Ent), G.mi = some 0 → Room k (A.deeper (PyProof.Rows.envOfC qual scope s.heap.objs.size f cdv)) →
      PSs (cxOf CX P w K mg base Ns qual scope f cdv A outer s H E) body (tS K G (fun cls d _ H => E cls d H) mb)) :
    FnOk P w K mg base CX (k + 1) f fd ps (spI K c ps.length (fnI Ns.length c mb)) := by
  refine F.ok Sc (fun vs H Q E ⟨θ, N, S, ds, x, dx, us, e, _, _, _, r, hl, _⟩ => by rw [e, List.length_cons, r.length]; exact hl) fun cdv A outer s H vs Q E hr ⟨θ, N, S, ds, x, dx, us, ev, hx, hdx, hs, r, hl, fin⟩ => ?_
  subst ev
  refine ⟨_, hb cdv A outer s H E ⟨θ, N, unmade H x dx, some 0, x, .none, none⟩ rfl hr, θ, N, startI Ns.length c ds, S, stt_startI hx hdx hs r hl0, ?_⟩
  have leE : ∀ {θ' : Th} {N' H' : Hp}, Le ⟨θ, N, unmade H x dx, some 0, x, .none, none⟩ θ' N' H' → Le (ent θ N (unmade H x dx)) θ' N' H' := fun q => ⟨q.gN, q.gT, q.nN, q.nT, q.keep, q.stay⟩
  unfold fnI at fin
  cases e : mb (startI Ns.length c ds) S with
  | bad => rw [e] at fin; exact fin
  | exc c ns xs ρ S' => rw [e] at fin; exact fun θ' N' σ' H' d l1 l2 s' q => fin θ' N' H' d s'.hs (leE s'.le) q
  | ok a ρ S' =>
    rw [e] at fin
    cases a with
    | next =>
      intro θ' N' σ' H' l1 l2 s'
      simp only at fin
      split at fin
      · rename_i c' ns xs e0
        have e1 := s'.slf 0 _ rfl e0
        obtain ⟨v, e2, a, rfl, ⟨dx', fs, h1, h2, h3⟩, n1, g1, t1⟩ := s'.slot 0 _ e0
        rw [e1] at e2
        cases e2
        have mN := same_upd (o := .ins (He.ga K c') dx' fs) n1
        refine fin θ' (upd N' x (.ins (He.ga K c') dx' fs)) H' ⟨fun b u q => ?_, s'.hs.inj, fun n c q => ?_, s'.hs.dom, fun n b q => ?_⟩ (leE ⟨fun b u q => mN b u (s'.le.gN b u q), s'.le.gT, fun b u q => ?_, s'.le.nT, s'.le.keep, s'.le.stay⟩) ⟨x, dx', fs, rfl, upd_same, h2, h3.mono (LeT.refl _) mN⟩
        · by_cases hb : b = x
          · subst hb; rw [upd_same] at q; cases q; exact h1
          · rw [upd_ne hb] at q; exact s'.hs.sub b u q
        · obtain ⟨b, q1, c1⟩ := s'.hs.cell n c q
          exact ⟨b, q1, c1.mono (LeT.refl _) mN rfl⟩
        · rw [upd_ne fun (z : b = x) => t1 n (by show θ' n = some x; rw [← z]; exact q)]; exact s'.hs.sep n b q
        · by_cases hb : b = x
          · exact .inr (by rw [hb]; exact g1)
          · rw [upd_ne hb] at q; exact s'.le.nN b u q
      · exact fin.elim
    | ret d => exact fin.elim
    | brk => exact fin.elim
    | cont => exact fin.elim
end
section
variable {X : Cx} {G : Ent} {W : WX} {k n j : Nat} {f : Addr} {fd : FuncData} {ps : List Str} {m : MF} {dvs : List V} {dds : List D} {ds : List Value} {c : Str} {p pos : Pos} {e : Expr} {es : List Expr} {ms : M (List D)}
theorem run_makeW {CX : CXT} {sp : Sp} {E : XK} {C : Addr} {pins : List (Addr × Obj)} {σ : St} {H : Hp} {s : Shared} {Q : VK} {us : List Value} {vs : List V} (M : Mk X.K C f) (F : FnOk X.prog X.w X.K X.mg X.base CX k f fd ps sp) (hr : Room (k + 1) X.A) (hb : Binds X.K fd ps ds) (hd : Vals dvs ds)
    (hx : PassesAt CX X σ E) (I : Inv X pins σ H s) (r : Vals vs us)
    (h : ∀ x dx, H x = none → H dx = none → dx ≠ x → sp (.ref x :: (vs ++ dvs)) (upd (upd H dx (.own x)) x (.ins C dx [])) (fun v H2 => v = .non ∧ Q (.ref x) H2) E) :
    wpAny (model X.prog X.w) X.A (call (.ref C) us) (EP X pins σ Q) X.xe s := by
  have hq := h (s.heap.objs.size + 1) s.heap.objs.size (I.hok.fresh (Nat.le_succ _)) (I.hok.fresh (Nat.le_refl _)) (Nat.ne_of_lt (Nat.lt_succ_self _))
  have J := Inv.made (C := C) I
  have r2 : Vals (V.ref (s.heap.objs.size + 1) :: (vs ++ dvs)) (Value.ref (s.heap.objs.size + 1) :: (us ++ ds)) := .cons rfl (r.append hd)
  have hl : (Value.ref (s.heap.objs.size + 1) :: us ++ ds).length = ps.length := by
    have q := r2.length
    rw [F.len _ _ _ _ hq] at q
    exact q.symm
  refine wpAny_call (make_map (f := f) I.kIn M.makes M.init (beq_iff_eq.mp M.fn) (codeAny_mono (F.run _ X.stack _ _ ⟨Value.ref (s.heap.objs.size + 1) :: us, []⟩ (Value.ref (s.heap.objs.size + 1) :: (us ++ ds)) _ _ E (hr.make C us []) (J.env0.make C us []) (hb _ (Value.ref (s.heap.objs.size + 1) :: us) J.kIn hl) r2 hq) fun r s' hq' => ?_))
  cases r with
  | error e => exact hx pins _ _ e s' J hq'
  | ok fl =>
    cases fl with
    | ret u =>
      obtain ⟨v, H', I3, rv, ev, q3⟩ := J.after hq'
      subst ev
      exact ⟨rv, ⟨V.ref (s.heap.objs.size + 1), H', I3, rfl, q3⟩⟩
    | next => exact False.elim hq'
    | brk => exact False.elim hq'
    | cont => exact False.elim hq'
theorem unmade_made {H : Hp} {x dx : Addr} {o u : HO} (hx : H x = none) (hdx : H dx = none) : unmade (upd (upd H dx o) x u) x dx = H := by
  funext b
  unfold unmade
  by_cases h1 : b = x
  · rw [if_pos h1, h1, hx]
  · rw [if_neg h1]
    by_cases h2 : b = dx
    · rw [if_pos h2, h2, hdx]
    · rw [if_neg h2, upd_ne h1, upd_ne h2]
/-- C(e, ..) -/
theorem s_make {CX : CXT} (M : Mk X.K (He.ga X.K c) f) (F : FnOk X.prog X.w X.K X.mg X.base CX k f fd ps (spI X.K c n m)) (hr : Room (k + 1) X.A) (hg : Gl X c) (hm : X.mg c = some (.ref (He.ga X.K c))) (hb : Binds X.K fd ps ds) (hd : Vals dvs ds) (hdd : ∀ θ N, Reps X.K θ N dds dvs) (hx : ∀ σ, PassesAt CX X σ (WE W σ))
    (ha : PA X (e :: es) (tA X.K G W ms)) (hms : LenM ms j) (hn : j + dds.length + 1 = n) (hdb : (c == ("__debug__" : Str)) = false := by decide) (he : starEach (e :: es) X.env = (false, eval e X.env) :: starEach es X.env := by rfl) (hpl : (backTo pos (starEach es X.env)).any (·.1) = false := by rfl) :
    PE X (.Call (.Name c p) (e :: es) [] pos) (tE X.K G W (mCall m dds ms)) := by
  refine ⟨fun pins s σ H Q I ⟨θ, N, ρ, S, st, fin⟩ => ?_⟩
  refine wpAny_Call_Name_kw (ld_glob I hg hm ?_ hdb)
  refine PySem.W.callWith_K (h₀ := X.base) I.ok.mod.kin M.kp (thn (ha.run pos pins s σ H (fun vs H1 => ∀ x dx, H1 x = none → H1 dx = none → dx ≠ x → spI X.K c n m (.ref x :: (vs ++ dvs)) (upd (upd H1 dx (.own x)) x (.ins (He.ga X.K c) dx [])) (fun v H2 => v = .non ∧ Q (.ref x) H2) (WE W σ)) I ⟨θ, N, ρ, S, st, ?_⟩) fun us s1 ⟨vs, H1, I1, r, q⟩ => ⟨I1.kIn, ?_⟩) he hpl
  · cases em : ms ρ S with
    | bad => unfold mCall at fin; rw [em] at fin; exact fin.elim
    | exc c ns xs ρ1 S1 => unfold mCall at fin; rw [em] at fin; exact fin
    | ok xs ρ1 S1 =>
      unfold mCall at fin
      rw [em] at fin
      intro θ1 N1 H1 l1 l2 st1 vs rv x dx hx hdx hne
      have fin1 : Fin X.K G W θ1 N1 σ _ _ := Fin.weak l1 l2 fin
      have eu := unmade_made (o := .own x) (u := .ins (He.ga X.K c) dx []) hx hdx
      refine ⟨θ1, N1, S1, xs ++ dds, x, dx, vs ++ dvs, rfl, upd_same, by rw [upd_ne hne, upd_same], by rw [eu]; exact st1.hs, rv.append (hdd θ1 N1), by rw [List.length_append, hms _ _ _ _ _ em]; exact hn, ?_⟩
      rw [eu]
      change Fin X.K G W θ1 N1 σ (match m (xs ++ dds) S1 with
        | .ok d _ S2 => .ok d ρ1 S2
        | .exc c ns xs _ S2 => .exc c ns xs ρ1 S2
        | .bad => .bad) _ at fin1
      cases e : m (xs ++ dds) S1 with
      | bad => rw [e] at fin1; exact fin1
      | exc c ns xs ρ2 S2 => rw [e] at fin1; exact fun θ' N' H' d hs le q => fin1 θ' N' H' d le.gT le.gN (st1.back hs le) q
      | ok d ρ2 S2 => rw [e] at fin1; exact fun θ' N' H' hs le r => ⟨rfl, fin1 θ' N' H' le.gT le.gN (st1.back hs le) _ r⟩
  · exact run_makeW M F hr hb hd (hx σ) I1 r q
end
end DL

namespace DL
open PySem PySem.Spec L2 TL PyProof.Rows

/-! ## set(text), len of it -/
def met (val : Nat → Str) : Nat → List Str
  | 0 => []
  | i + 1 => if met val i |>.contains (val i) then met val i else val i :: met val i
theorem met_succ (val : Nat → Str) (i : Nat) : met val (i + 1) = if (met val i).contains (val i) then met val i else val i :: met val i := rfl
theorem met_le (val : Nat → Str) : ∀ i, (met val i).length ≤ i
  | 0 => Nat.le_refl _
  | i + 1 => by
    have q := met_le val i
    unfold met
    split
    · omega
    · rw [List.length_cons]; omega
section
variable {prog : Program} {w : World} {B : Around} {R : Result → Shared → Prop} {J : Addr} {fp wr : List Addr} {G : Array GenState → Array GenState → Prop} {n : Nat} {Pv : Nat → Value → Prop} {At : Nat → Shared → Prop}
abbrev inMet (val : Nat → Str) (i : Nat) : Str → Bool := fun y => (met val i).contains y
theorem set_loop_text (V : WalksS prog w B.in1 J fp wr G n Pv At) (T : Addr) (hT : T ∉ fp) (val : Nat → Str) (hv : ∀ i v, Pv i v → ∃ t, v = .str (val i) t) (room : n + 1 < scanBound) :
    ∀ (k i : Nat) (z : Shared), n - i = k → i ≤ n → At i z → z.heap.SetOf (PySem.strKind prog w) T (inMet val i) (met val i).length →
      (∀ z', Moved (T :: wr) G z z' → z'.heap.SetOf (PySem.strKind prog w) T (inMet val n) (met val n).length → R (.ok (.ret .none)) z') →
      codeAny (model prog w) B (.builtin "set.update.loop" ⟨[.ref T, .ref J], []⟩) R z := by
  have hTw : T ∉ wr := fun q => hT (V.sub _ q)
  have hsb : ∀ b ∈ wr, b ∈ T :: wr := fun b q => List.mem_cons_of_mem _ q
  have stays : ∀ {z z' : Shared} {f : Str → Bool} {m : Nat}, Moved wr G z z' → z.heap.SetOf (PySem.strKind prog w) T f m → z'.heap.SetOf (PySem.strKind prog w) T f m := fun {z z' f m} mv ⟨o, es, ep, tb, ho, rest⟩ =>
    ⟨o, es, ep, tb, mv.heap T _ hTw ho, rest⟩
  intro k
  induction k with
  | zero =>
    intro i z hk hi hst hS hR
    obtain rfl : i = n := by omega
    refine codeAny_builtin PyProof.Rows.F.entry_set_update_loop ?_
    rw [Around.under_plainId PyProof.Rows.F.plain_set_update_loop _]
    show wpAny _ B.in1 (pyNext (.ref J) >>= _) _ _ z
    refine wpAny_bind (V.done z _ _ hst fun z1 mv => ?_)
    show wpAny _ B.in1 (ret Value.none) _ _ z1
    exact wpAny_pure (hR z1 (mv.mono hsb) (stays mv hS))
  | succ k ih =>
    intro i z hk hi hst hS hR
    have hlt : i < n := by omega
    refine codeAny_builtin PyProof.Rows.F.entry_set_update_loop ?_
    rw [Around.under_plainId PyProof.Rows.F.plain_set_update_loop _]
    show wpAny _ B.in1 (pyNext (.ref J) >>= _) _ _ z
    refine wpAny_bind (V.item i z _ _ hlt hst fun v z1 hP hst1 mv => ?_)
    obtain ⟨t, rfl⟩ := hv i v hP
    have hS1 := stays mv hS
    show wpAny _ B.in1 (holding [Value.str (val i) t] (setAdd T (.str (val i) t)) >>= _) _ _ z1
    refine wpAny_bind (wpAny_holding ?_)
    unfold setAdd
    refine wpAny_holding (wpAny_bind ((PySem.strKind prog w).pyHash (k := val i) (strKind_is _ _ _ _) ?_))
    have lim : (met val i).length + 1 < scanBound := by have := met_le val i; omega
    refine wpAny_setAddHashed_of (knd := PySem.strKind prog w) (s := { z1 with toks := z1.toks + 1 }) (strKind_is _ _ _ _) rfl hS1 lim fun h2 same hS2 => ?_
    have hS3 : h2.SetOf (PySem.strKind prog w) T (inMet val (i + 1)) (met val (i + 1)).length := by
      refine SetOf_congr hS2 (fun y => ?_) ?_
      · show ((met val i).contains y || decide (y = val i)) = (met val (i + 1)).contains y
        rw [met_succ]
        split
        · rename_i hc
          by_cases e : y = val i
          · subst e; rw [hc]; rfl
          · rw [decide_eq_false e, Bool.or_false]
        · rw [List.contains_cons]
          by_cases e : y = val i
          · subst e; simp
          · have e2 : (y == val i) = false := beq_eq_false_iff_ne.mpr e
            rw [e2, decide_eq_false e, Bool.or_false, Bool.false_or]
      · show (if (met val i).contains (val i) = true then (met val i).length else (met val i).length + 1) = (met val (i + 1)).length
        rw [met_succ]
        split
        · rfl
        · rfl
    refine wpAny_pure ⟨plainId_quiet PyProof.Rows.F.plain_set_update_loop _, ih (i + 1) _ (by omega) hlt (V.frame _ z1 _ _ hst1 (Nat.le_succ _) fun b hb o e => ?_) hS3 fun z3 mv3 hS4 => ?_⟩
    · exact (same.2 b fun q => hT (q ▸ hb)).trans e
    · refine hR z3 (Moved.trans V.gtrans ((mv.mono hsb).then_heap (Nat.le_succ _) fun b o hb e => ?_) mv3) hS4
      exact (same.2 b fun q => hb (q ▸ List.mem_cons_self)).trans e
end
theorem sub_str_set : isSubtype (.type "str") (.type "set") = pure false := by
  rw [isSubtype_type]
  kernel_rfl
theorem sub_str_frozenset : isSubtype (.type "str") (.type "frozenset") = pure false := by
  rw [isSubtype_type]
  kernel_rfl
def signS (x : Str) (i : Nat) : Str := ⟨#[x.cps.getD i 0]⟩
section
variable {prog : Program} {w : World} {A : Around} {E : Value → Shared → Prop} {s : Shared}
theorem call_set_text {x : Str} {u : Tok} {Q : Value → Shared → Prop} (hh : A.handled = none) (hx : x.cps.size + 1 < scanBound)
    (h : ∀ (h' : Heap) (tk : Nat), h'.SetOf (PySem.strKind prog w) s.heap.objs.size (inMet (signS x) x.cps.size) (met (signS x) x.cps.size).length → (∀ b o, b < s.heap.objs.size → s.heap.get? b = some o → h'.get? b = some o) →
      Q (.ref s.heap.objs.size) { s with heap := h', toks := tk }) : wpAny (model prog w) A (call (.type "set") [.str x u]) Q E s := by
  obtain ⟨c, tl, hmro⟩ := PySem.F.called_set.mro
  have hmade := PySem.F.called_set.made
  have hsub := PySem.F.called_set.sub
  refine wpAny_call (codeAny_of_tree ?_)
  show wpAny _ _ (callAny (.type "set") _) _ _ _
  refine wpAny_pure ⟨Code.quiet_builtin _ (by decide +kernel), codeAny_builtin PySem.F.entry_type_call ?_⟩
  rw [Around.under_plain (weight_type_call_type "set" [.str x u] []) rfl]
  have h1 := PySem.F.called_set.notType
  have h2 := PySem.F.called_set.canCreate
  have hct := PySem.F.typeCall_set_1 (.str x u)
  repeat (any_goals (first | assumption | wp_step))
  refine codeAny_mono (code_set_new_1 (.str x u) (E := E) (Q₁ := fun obj s₁ => ∃ led : Bool, obj = .ref s.heap.objs.size ∧ s₁ = { s with heap := s.heap.push { cls := .type "set", dict := none, data := .set #[] 0 (.fresh 0 0 led) } }) fun led => ⟨led, rfl, rfl⟩) fun r z1 hr => ?_
  rcases r with e | (obj | _ | _ | _) <;> first | exact hr | exact hr.elim | skip
  obtain ⟨led, rfl, rfl⟩ := hr
  have hS : (s.heap.push { cls := .type "set", dict := none, data := .set #[] 0 (.fresh 0 0 led) }).get? s.heap.objs.size = some { cls := .type "set", dict := none, data := .set #[] 0 (.fresh 0 0 led) } := Heap.get?_push_size _ rfl
  have hT : Shared.TypeIs { s with heap := s.heap.push { cls := .type "set", dict := none, data := .set #[] 0 (.fresh 0 0 led) } } (.ref s.heap.objs.size) "set" := ⟨_, hS, rfl⟩
  have hli := PySem.F.called_set.init.lookup
  have hbi := PySem.F.called_set.init.bind (.ref s.heap.objs.size)
  repeat (any_goals (first | assumption | wp_step))
  refine codeAny_mono (codeAny_call_builtin (R := wants (fun r z => r = .none ∧ ∃ h' tk, z = { s with heap := h', toks := tk } ∧ h'.SetOf (PySem.strKind prog w) s.heap.objs.size (inMet (signS x) x.cps.size) (met (signS x) x.cps.size).length ∧
      (∀ b o, b < s.heap.objs.size → s.heap.get? b = some o → h'.get? b = some o)) E) PySem.F.called_set.init.plain PySem.F.entry_set_init (check_set_init_1 hT ?_)) fun r2 z2 hr2 => ?_
  · have sub1 := sub_str_set
    have sub2 := sub_str_frozenset
    have nd : (Value.type "str" == Value.type "dict") = false := by decide
    unfold Builtin.«set.__init__» noKeywords Builtin.Frozenset.updateFrom
    generalize hPI : pyIter = PI
    wp_walk
    subst hPI
    refine wpAny_pyIter_str fun o St walks st0 => wpAny_bind (wpAny_runValue ?_)
    have neT : s.heap.objs.size ∉ [(s.heap.push { cls := .type "set", dict := none, data := .set #[] 0 (.fresh 0 0 led) }).objs.size] := by
      rw [Heap.size_push, List.mem_singleton]
      exact Nat.ne_of_lt (Nat.lt_succ_self _)
    refine set_loop_text (walks A.in1.in1.in1 (by simp [hh])).toS s.heap.objs.size neT (signS x) (fun i v ⟨c, u', hc, ev⟩ => ⟨u', ?_⟩) hx (x.cps.size - 0) 0 _ (by omega) (Nat.zero_le _) st0 ?_ fun z3 mv hS3 => ?_
    · rw [ev, signS, Array.getD_eq_getD_getElem?, hc]; rfl
    · exact PyProof.Rows.SetOf_congr ((PyProof.Rows.setObjOf_fresh (knd := PySem.strKind prog w) led).setOf (Heap.get?_push_of_some _ hS) (by unfold scanBound; omega)) (fun _ => rfl) rfl
    · obtain ⟨h', g', d', tk', os'⟩ := z3
      obtain rfl : g' = s.gens := mv.gens
      obtain rfl : d' = s.drawn := mv.drawn
      obtain rfl : os' = s.os := mv.os
      show wpAny _ _ _ _ _ _
      refine wpAny_pure ?_
      show wpAny _ _ (ret Value.none) _ _ _
      refine wpAny_pure ⟨rfl, h', tk', rfl, hS3, fun b o hb e => ?_⟩
      refine mv.heap b o (fun q => ?_) (Heap.get?_push_of_some _ (Heap.get?_push_of_some _ e))
      rcases List.mem_cons.mp q with q | q
      · exact Nat.ne_of_lt hb q
      · have q2 : b = s.heap.objs.size + 1 := by simpa [Heap.size_push] using q
        omega
  · rcases r2 with e | (r | _ | _ | _) <;> first | exact hr2 | exact hr2.elim | skip
    obtain ⟨rfl, h', tk, rfl, hS', hk'⟩ := hr2
    repeat (any_goals (first | assumption | wp_step))
    exact h _ _ hS' hk'
end
/-! ### the number of unlike signs -/
def distL (x : List Nat) : List Nat := x.foldl (fun l c => if c ∈ l then l else c :: l) []
theorem met_dist (x : List Nat) : ∀ i, i ≤ x.length → met (signS (mkS x)) i = (distL (x.take i)).map fun c => (⟨#[c]⟩ : Str)
  | 0, _ => by simp [met, distL]
  | i + 1, h => by
    have lt : i < x.length := h
    have e1 : signS (mkS x) i = ⟨#[x[i]]⟩ := by
      unfold signS
      simp [lt]
    have e2 : x.take (i + 1) = x.take i ++ [x[i]] := by rw [List.take_add_one, List.getElem?_eq_getElem lt]; rfl
    have e3 : distL (x.take (i + 1)) = if x[i] ∈ distL (x.take i) then distL (x.take i) else x[i] :: distL (x.take i) := by
      rw [e2]; unfold distL; rw [List.foldl_append]; rfl
    rw [met_succ, met_dist x i (Nat.le_of_lt lt), e1, e3]
    have inj : ∀ a b : Nat, (⟨#[a]⟩ : Str) = ⟨#[b]⟩ → a = b := fun a b e => by
      have q : [a] = [b] := congrArg (fun y : Str => y.cps.toList) e
      exact (List.cons.inj q).1
    by_cases hm : x[i] ∈ distL (x.take i)
    · rw [if_pos hm, if_pos]
      exact List.contains_iff_mem.mpr (List.mem_map.mpr ⟨_, hm, rfl⟩)
    · rw [if_neg hm, if_neg]
      · rfl
      · intro q
        obtain ⟨c, hc, e⟩ := List.mem_map.mp (List.contains_iff_mem.mp q)
        exact hm (inj _ _ e ▸ hc)
/-- len(set(text)) -/
def mLenSet (m : M D) : M D := fun ρ S => (m ρ S).bind fun d ρ1 S1 => match d with
  | .str x => if x.length ≤ 4000 then .ok (.int (distL x).length) ρ1 S1 else .bad
  | _ => .bad
section
variable {X : Cx} {G : Ent} {W : WX} {e : Expr} {m : M D} {p p2 q pos : Pos}
theorem s_lenSet (hc : X.calm = true) (hg : Gl X "len") (hm : X.mg "len" = none) (hg2 : Gl X "set") (hm2 : X.mg "set" = none) (he : PE X e (tE X.K G W m)) (na : starEach [e] X.env = (false, eval e X.env) :: starEach [] X.env := by rfl) :
    PE X (.Call (.Name "len" p) [.Call (.Name "set" p2) [e] [] q] [] pos) (tE X.K G W (mLenSet m)) := by
  refine ⟨fun pins s σ H Q I ⟨θ, N, ρ, S, st, fin⟩ => ?_⟩
  refine Call_ (ld_blt I hg hm boot_len (PyProof.Rows.callWith_builtin1 (PyProof.Rows.args_cons ?_ rfl) rfl rfl))
  refine Call_ (ld_blt I hg2 hm2 boot_set (PyProof.Rows.callWith_type1 (PyProof.Rows.args_cons (thn (he.run pins s σ H (fun v H1 => ∃ x : List Nat, v = .str (mkS x) ∧ x.length ≤ 4000 ∧ Q (.int (distL x).length) H1) I
    ⟨θ, N, ρ, S, st, (Fin.bind fin).imp fun d θ1 N1 H1 l1 l2 ⟨ρ1, S1, st1, fin1⟩ v rv => ?_⟩) fun u s1 ⟨v, H1, I1, r1, q1⟩ => PyProof.Rows.args_nil ?_) na) na rfl))
  · split at fin1
    · split at fin1
      · exact ⟨_, rv.1, ‹_›, fin1 θ1 N1 H1 (LeT.refl _) (Same.refl _) st1 _ rfl⟩
      · exact fin1.elim
    · exact fin1.elim
  · obtain ⟨x, rfl, hl, q2⟩ := q1
    obtain ⟨t, rfl⟩ := r1
    have hsz : (mkS x).cps.size = x.length := by simp [mkS]
    refine call_set_text (I1.ok.hd hc) (by rw [hsz]; unfold scanBound; omega) fun h' tk hS hk => PyProof.Rows.args_nil ?_
    rw [hsz, met_dist x x.length (Nat.le_refl _), List.take_length, List.length_map] at hS
    have hd : (distL x).length ≤ x.length := by
      have q := met_le (signS (mkS x)) x.length
      rw [met_dist x x.length (Nat.le_refl _), List.take_length, List.length_map] at q
      exact q
    obtain ⟨o, es, ep, tb, ho, hex, hdd, _, _, _, hf, hn⟩ := hS
    have I2 : Inv X pins σ H1 { s1 with heap := h', toks := tk } := I1.kept fun b o z => hk b o (Heap.lt_size z) z
    exact call_len_set ho hex hdd hf (by rw [hn]; omega) ⟨.int (distL x).length, H1, I2.tok _, ⟨_, by rw [hn]⟩, q2⟩
end
end DL

namespace DL
open PySem PySem.Spec L2 TL

/-! ## what leaves a context -/
theorem tkN_of {X : Cx} {W : WX} (tk : L2.Takes X W) : L2N.Takes X W := fun u s' ⟨a, B, sI, pins, σ, H, cls, d, e, I, nb, up, sky, na, os, ag, w⟩ => by
  refine tk u s' ⟨a, B, sI, pins, σ, H, cls, d, e, I, nb, up, ?_, na, os, ag, w⟩
  rcases sky with ⟨hB, hn, hl, oe, vs, he, hz, hd, h1⟩ | fl | ⟨k1, k2, k3, k4⟩
  · exact .inl ⟨hB, hn, hl, oe, vs, he, hz.zc, hd, h1⟩
  · exact .inr (.inl (L2H.flyingZ_imp (fun o z => z.zc) fl))
  · exact .inr (.inr ⟨k1, k2, k3, L2H.tracedZ_imp (fun o z => z.zc) k4⟩)
theorem cx_of_N {P : Program} {w : World} {outer : List Env} {H : Hp} {s : Shared} {E : XK} {u : Value} {s' : Shared} (c : L2N.CX P w outer H s E u s') : L2.CX P w outer H s E u s' := by
  obtain ⟨a, B, H', cls, d, e, fl, r⟩ := c
  exact ⟨a, B, H', cls, d, e, L2H.flyingZ_imp (fun o z => z.zc) fl, r⟩
/-- a promise with exceptions of no context is one with exceptions -/
theorem fn_ofN {P : Program} {w : World} {K : PySem.W.Frag} {mg : Str → Option Value} {base : Heap} {k : Nat} {f : Addr} {fd : FuncData} {ps : List Str} {sp : Sp} (F : FnOk P w K mg base (L2N.CX P w) k f fd ps sp) : FnOk P w K mg base (L2.CX P w) k f fd ps sp :=
  ⟨F.len, fun A outer s H args us vs Q E hr he hb hv hs => codeAny_mono (F.run A outer s H args us vs Q E hr he hb hv hs) fun r s' q => by
    cases r with
    | error e => exact cx_of_N q
    | ok fl => cases fl <;> exact q⟩
theorem hx_of {X : Cx} {W : WX} (tk : L2.Takes X W) (σ : St) : PassesAt (L2.CX X.prog X.w) X σ (WE W σ) := passAt tk σ
theorem hx_ofN {X : Cx} {W : WX} (tk : L2N.Takes X W) (σ : St) : PassesAt (L2N.CX X.prog X.w) X σ (WE W σ) := L2N.passAt tk σ
theorem hx_none {X : Cx} (σ : St) : PassesAt (L2.CX X.prog X.w) X σ (WE W0 σ) := fun pins H s e s' I ⟨_, _, _, _, _, _, _, _, _, _, _, _, w⟩ => w.elim
theorem hx_noneN {X : Cx} (σ : St) : PassesAt (L2N.CX X.prog X.w) X σ (WE W0 σ) := fun pins H s e s' I ⟨_, _, _, _, _, _, _, _, _, _, _, _, w⟩ => w.elim
section
variable {P : Program} {w : World} {K : PySem.W.Frag} {mg : Str → Option Value} {base : Heap} {Ns : List Str} {qual : Str} {scope : Scope} {f : Addr} {cd : Value} {A : Around} {outer : List Env} {s : Shared} {H : Hp} {E : XK}
theorem tkB : L2.Takes (cxOf (L2.CX P w) P w K mg base Ns qual scope f cd A outer s H E) (fun cls d _ H => E cls d H) := L2.takes_of rfl rfl rfl rfl
theorem tkBN : L2N.Takes (cxOf (L2N.CX P w) P w K mg base Ns qual scope f cd A outer s H E) (fun cls d _ H => E cls d H) := L2N.takes_of rfl rfl rfl rfl
end

/-! ## raise -/
def mRaise (c : Str) : M Ctl := fun ρ S => .exc c [] [] ρ S
section
variable {X : Cx} {G : Ent} {W : WX} {c m : Str} {j : Nat} {p p2 pos pos' cpos : Pos}
theorem exc_raises {K : PySem.W.Frag} {X : Cx} (hK : X.K = K) (h : (He.Fa.exc c).ok K = true) : Raises X (.ref (He.ga K c)) := by
  obtain ⟨_, _, h3, h4⟩ := He.exc_ok h
  subst hK
  exact raises_own h3 h4
theorem st_raise (hf : (He.Fa.exc c).ok X.K = true) (hm : X.mg c = some (.ref (He.ga X.K c))) (hg : Gl X c) (hc : X.calm = true) (tk : L2.Takes X W) (hdb : (c == ("__debug__" : Str)) = false := by decide) :
    PS X (.Raise (some (.Call (.Name c p) [.Constant (.str m) j p2] [] pos)) none pos') (tS X.K G W (mRaise c)) := by
  obtain ⟨h1, h2, h3, h4⟩ := He.exc_ok hf
  exact (L2.ps_raise hc tk (L2.pmk_own F.excBase_ValueError h1 hm h2 (exc_raises rfl hf) hg hdb)).imp fun E σ H ⟨θ, N, ρ, S, s, fin⟩ => fin θ N σ H none (LeT.refl _) (Same.refl _) s (.inl ⟨rfl, rfl, rfl⟩)
theorem st_raiseN (hf : (He.Fa.exc c).ok X.K = true) (hm : X.mg c = some (.ref (He.ga X.K c))) (hg : Gl X c) (hc : X.calm = true) (tk : L2N.Takes X W) (hdb : (c == ("__debug__" : Str)) = false := by decide) :
    PS X (.Raise (some (.Call (.Name c p) [.Constant (.str m) j p2] [] pos)) none pos') (tS X.K G W (mRaise c)) := by
  obtain ⟨h1, h2, h3, h4⟩ := He.exc_ok hf
  exact (L2N.ps_raise hc tk (L2N.pmk_own F.excBase_ValueError h1 hm h2 (exc_raises rfl hf) hg hdb)).imp fun E σ H ⟨θ, N, ρ, S, s, fin⟩ => fin θ N σ H none (LeT.refl _) (Same.refl _) s (.inl ⟨rfl, rfl, rfl⟩)
end

/-! ## exceptions with fields: their __init__ -/
/-- self.f = x, one by one: the fields and the slots -/
def tIni (K : PySem.W.Frag) : List (Str × Nat) → TS
  | [] => tNext
  | (f, i) :: r => tSeq (tOst K f (tVar 0) (tVar i)) (tIni K r)
/-- the promise -/
def spX (K : PySem.W.Frag) (c : Str) (fs : List Str) : Sp := fun vs H Q E => ∃ a us, vs = .ref a :: us ∧ us.length = fs.length ∧ H a = some (exo a (He.ga K c) none) ∧
  ∀ H2 d, H2 a = some (exo a (He.ga K c) (some d)) → H2 d = some (exd d (fs.zip us).reverse) → H d = none → d ≠ a → (∀ b, b ≠ a → b ≠ d → H2 b = H b) → Q .non H2
theorem ini_more {K : PySem.W.Frag} {C a d : Addr} (T : OexC K C) {D : Ends} {σ : St} (hσ : σ[0]? = some (some (.ref a))) : ∀ (l : List (Str × Nat)) (us : List V) (fs : List (Str × V)) (H : Hp),
    (∀ q ∈ l, PySem.W.findIn K (.ref C) q.1 = some none) → l.length = us.length → (∀ (k : Nat) (q : Str × Nat) (u : V), l[k]? = some q → us[k]? = some u → σ[q.2]? = some (some u)) → H a = some (exo a C (some d)) → H d = some (exd d fs) → d ≠ a → fs.length + l.length ≤ 900 →
    (∀ H2, H2 a = some (exo a C (some d)) → H2 d = some (exd d (((l.map (·.1)).zip us).reverse ++ fs)) → (∀ b, b ≠ a → b ≠ d → H2 b = H b) → D.nx σ H2) → tIni K l D σ H
  | [], us, fs, H, hn, hl, hs, h1, h2, h3, h4, hq => hq H h1 (by simpa using h2) fun b _ _ => rfl
  | (f, i) :: r, [], fs, H, hn, hl, hs, h1, h2, h3, h4, hq => by cases hl
  | (f, i) :: r, u :: us, fs, H, hn, hl, hs, h1, h2, h3, h4, hq => by
    have e1 := hs 0 (f, i) u rfl rfl
    refine ⟨u, e1, _, hσ, a, C, rfl, T, hn _ List.mem_cons_self, .inr ⟨d, fs, h1, h2, by simp at h4; omega, ?_⟩⟩
    refine ini_more T hσ r us ((f, u) :: fs) _ (fun q hq => hn q (List.mem_cons_of_mem _ hq)) (by simpa using hl) (fun k q v z1 z2 => hs (k + 1) q v (by simpa using z1) (by simpa using z2)) (by rw [upd_ne (Ne.symm h3)]; exact h1) upd_same h3 (by simp at h4 ⊢; omega) fun H2 y1 y2 y3 => ?_
    refine hq H2 y1 ?_ fun b n1 n2 => by rw [y3 b n1 n2, upd_ne n2]
    rw [y2]
    simp
theorem ini_all {K : PySem.W.Frag} {C a : Addr} (T : OexC K C) {D : Ends} {σ : St} {f : Str} {i : Nat} {u : V} {l : List (Str × Nat)} {us : List V} {H : Hp} (hσ : σ[0]? = some (some (.ref a))) (hn : ∀ q ∈ (f, i) :: l, PySem.W.findIn K (.ref C) q.1 = some none) (hl : l.length = us.length)
    (hs : ∀ (k : Nat) (q : Str × Nat) (v : V), ((f, i) :: l)[k]? = some q → (u :: us)[k]? = some v → σ[q.2]? = some (some v)) (h1 : H a = some (exo a C none)) (h4 : l.length ≤ 800)
    (hq : ∀ H2 d, H2 a = some (exo a C (some d)) → H2 d = some (exd d ((((f, i) :: l).map (·.1)).zip (u :: us)).reverse) → H d = none → d ≠ a → (∀ b, b ≠ a → b ≠ d → H2 b = H b) → D.nx σ H2) : tIni K ((f, i) :: l) D σ H := by
  have e1 := hs 0 (f, i) u rfl rfl
  refine ⟨u, e1, _, hσ, a, C, rfl, T, hn _ List.mem_cons_self, .inl ⟨h1, fun d hd hda => ?_⟩⟩
  refine ini_more T hσ l us [(f, u)] _ (fun q hq => hn q (List.mem_cons_of_mem _ hq)) hl (fun k q v z1 z2 => hs (k + 1) q v (by simpa using z1) (by simpa using z2)) upd_same (by rw [upd_ne hda]; exact upd_same) hda (by simp; omega) fun H2 y1 y2 y3 => ?_
  refine hq H2 d y1 ?_ hd hda fun b n1 n2 => by rw [y3 b n1 n2, upd_ne n1, upd_ne n2]
  rw [y2]
  simp
/-- the fields' slots: 1, 2, .. -/
def iniL : Nat → List Str → List (Str × Nat)
  | _, [] => []
  | i, f :: fs => (f, i) :: iniL (i + 1) fs
theorem iniL_fst : ∀ (i : Nat) (fs : List Str), (iniL i fs).map (·.1) = fs
  | _, [] => rfl
  | i, f :: fs => by simp [iniL, iniL_fst (i + 1) fs]
theorem iniL_get : ∀ (i : Nat) (fs : List Str) (k : Nat) (q : Str × Nat), (iniL i fs)[k]? = some q → q.2 = i + k
  | _, [], k, q, h => by simp [iniL] at h
  | i, f :: fs, 0, q, h => by simp [iniL] at h; rw [← h]; rfl
  | i, f :: fs, k + 1, q, h => by
    have := iniL_get (i + 1) fs k q (by simpa [iniL] using h)
    omega
theorem iniL_len : ∀ (i : Nat) (fs : List Str), (iniL i fs).length = fs.length
  | _, [] => rfl
  | i, f :: fs => by simp [iniL, iniL_len (i + 1) fs]
section
variable {P : Program} {w : World} {K : PySem.W.Frag} {mg : Str → Option Value} {base : Heap} {CX : CXT}
theorem fn_xinit {x0 qual : Str} {params : Arguments} {body : List Stmt} {scope : Scope} {dvs : List V} {kws : List (Str × V)} {f : Addr} {fd : FuncData} {Ns ps : List Str} {k : Nat} (c g : Str) (fs : List Str) (F : FunD K x0 qual params body scope dvs kws f fd) (Sc : FnScope Ns ps scope) (hN : ps.length = fs.length + 2)
    (hNs : Ns.length = ps.length) (h8 : fs.length ≤ 800) (T : OexC K (He.ga K c)) (hn : ∀ f ∈ g :: fs, PySem.W.findIn K (.ref (He.ga K c)) f = some none)
    (hb : ∀ (cdv : Value) (A : Around) (outer : List Env) (s : Shared) (H : Hp) (E : XK), PSs (cxOf CX P w K mg base Ns qual scope f cdv A outer s H E) body (tIni K (iniL 1 (g :: fs)))) : FnOk P w K mg base CX (k + 1) f fd ps (spX K c (g :: fs)) := by
  refine F.ok Sc (fun vs H Q E ⟨a, us, e, hl, _⟩ => by rw [e, List.length_cons, hl, hN]; simp) fun cdv A outer s H vs Q E hr ⟨a, us, e, hl, ha, hq⟩ => ⟨_, hb cdv A outer s H E, ?_⟩
  subst e
  cases us with
  | nil => cases hl
  | cons u us =>
    have st : ∀ i v, (V.ref a :: u :: us)[i]? = some v → (L2.start Ns (V.ref a :: u :: us))[i]? = some (some v) := fun i v q => by
      rw [start_get (List.getElem?_eq_some_iff.mp q).1, q]; rfl
    refine ini_all (f := g) (i := 1) (u := u) (l := iniL 2 fs) (us := us) T (st 0 _ rfl) (fun q hq' => hn q.1 ?_) (by rw [iniL_len]; simpa using hl.symm) (fun k q v z1 z2 => ?_) ha (by rw [iniL_len]; exact h8) fun H2 d y1 y2 y3 y4 y5 => ?_
    · have z := List.mem_map_of_mem (f := (·.1)) hq'
      rwa [show ((g, 1) :: iniL 2 fs) = iniL 1 (g :: fs) from rfl, iniL_fst] at z
    · have z := iniL_get 1 (g :: fs) k q z1
      rw [z, Nat.add_comm]
      exact st (k + 1) v (by simpa using z2)
    · refine hq H2 d y1 ?_ y3 y4 y5
      rw [y2, show ((g, 1) :: iniL 2 fs) = iniL 1 (g :: fs) from rfl, iniL_fst]
end
end DL

namespace DL
open PySem PySem.Spec L2 TL

/-! ## raise C(e, ..), C with an __init__ of its own -/
theorem passF {X : Cx} : Passes (L2.CX X.prog X.w) X (fun _ _ _ => False) := fun pins σ H s e s' I ⟨_, _, _, _, _, _, _, _, _, _, _, _, w⟩ => w.elim
theorem passFN {X : Cx} : Passes (L2N.CX X.prog X.w) X (fun _ _ _ => False) := fun pins σ H s e s' I ⟨_, _, _, _, _, _, _, _, _, _, _, _, w⟩ => w.elim
theorem pmk_ofN {X : Cx} {e : Expr} {t : L2.St → Hp → XK → Prop} (h : L2N.PMk X e t) : L2.PMk X e t := fun pins s σ H Q I q => thn (h pins s σ H Q I q) fun u s' ⟨a, oe, vs, sI, H', cls, d, e, J, k, hne, ha, hz, r⟩ => ⟨a, oe, vs, sI, H', cls, d, e, J, k, hne, ha, hz.zc, r⟩
section
variable {X : Cx} {G : Ent} {W : WX} {c : Str} {e : Expr} {es : List Expr} {p pos pos' : Pos} {C fI : Addr} {k : Nat} {fd : FuncData} {ps : List Str} {sp : Sp} {ta : TA} {CX : CXT}
theorem pmk_oexN (T : OexC X.K C) (iC : PySem.W.findIn X.K (.ref C) "__init__" = some (some (.ref fI))) (tI : PySem.W.typeIn X.K (.ref fI) = some (.type "function")) (F1 : FnOk X.prog X.w X.K X.mg X.base CX k fI fd ps sp) (hr : Room (k + 1) X.A) (hb : Binds X.K fd ps [])
    (hx : Passes CX X (fun _ _ _ => False)) (hg : Gl X c) (hm : X.mg c = some (.ref C)) (ha : PA X (e :: es) ta) (hdb : (c == ("__debug__" : Str)) = false) (he : starEach (e :: es) X.env = (false, eval e X.env) :: starEach es X.env) (hpl : (backTo pos (starEach es X.env)).any (·.1) = false) :
    L2N.PMk X (.Call (.Name c p) (e :: es) [] pos) (tMkO C sp [] ta) := by
  intro pins s σ H Q I h
  obtain ⟨nm, q, N, bs, bm, sn, sub, ab, col, dd, k0, k1, k2, k3, k5, hC, hbm⟩ := T.cls
  refine wpAny_Call_Name_kw (ld_glob I hg hm ?_ hdb)
  refine PySem.W.callWith_K (h₀ := X.base) I.ok.mod.kin T.kC (thn (ha.run pos pins s σ H _ I h) fun us z1 ⟨vs, H1, I1, r1, hz, q1⟩ => ⟨I1.kIn, ?_⟩) he hpl
  show wpAny _ _ (call (.ref C) us) _ _ _
  obtain ⟨hp, g, dr, tk, os⟩ := z1
  have a1 : hp.objs.size ≤ hp.objs.size + 1 := Nat.le_succ _
  have hq := q1 (hp.objs.size + 1) (I1.hok.fresh a1)
  rw [List.append_nil] at hq
  have up : ∀ b o, hp.get? b = some o → ((hp.push (PySem.W.kdv_tup us)).push (PySem.HandSPX.excO C hp.objs.size)).get? b = some o := fun b o e => Heap.get?_push_of_some _ (Heap.get?_push_of_some _ e)
  have at1 : ((hp.push (PySem.W.kdv_tup us)).push (PySem.HandSPX.excO C hp.objs.size)).get? (hp.objs.size + 1) = some (PySem.HandSPX.excO C hp.objs.size) := by heap_get
  have I2 := I1.laid (t' := tk) (a := hp.objs.size + 1) (o := exo (hp.objs.size + 1) C none) (h' := (hp.push (PySem.W.kdv_tup us)).push (PySem.HandSPX.excO C hp.objs.size)) up a1 (exo_ok at1)
  have r2 : Vals (V.ref (hp.objs.size + 1) :: vs) (Value.ref (hp.objs.size + 1) :: us) := .cons rfl r1
  have hl : (Value.ref (hp.objs.size + 1) :: us ++ []).length = ps.length := by
    have e := r2.length
    rw [F1.len _ _ _ _ hq] at e
    rw [List.append_nil]
    exact e.symm
  have lus : us.length ≤ sizeLine := by
    rw [← Paired.length r1, sizeLine_eq]
    omega
  have b2 := hb _ (Value.ref (hp.objs.size + 1) :: us) I2.kIn hl
  rw [List.append_nil] at b2
  refine wpAny_call (PySem.HandSPX.call_own F.excBase_ValueError (fun Y => PySem.HandSPX.refsVE_contains Y bm hbm) (I1.kIn _ _ hC) (PySem.W.looks_findIn I1.kIn iC) (fun self => PySem.W.bind_fn I1.kIn self tI) lus
    (codeAny_mono (F1.run _ X.stack _ _ ⟨Value.ref (hp.objs.size + 1) :: us, []⟩ (Value.ref (hp.objs.size + 1) :: us) _ _ (fun _ _ _ => False) (hr.make C us []) (I2.env0.make C us []) b2 r2 hq) fun r z2 hq2 => ?_))
  rcases r with er | fl
  · exact hx pins σ _ _ er z2 I2 hq2
  cases fl with
  | ret u =>
    obtain ⟨v, H2, os2, bare2, un2, hok2, rv, ev, d, fs, ea, ed, hd1, q2⟩ := hq2
    subst ev
    obtain ⟨h2, g2, d2, t2, os'⟩ := z2
    obtain ⟨t0, G', J, kG, ge, hoe, na⟩ := mk_end0 (d2 := d2) (t2 := t2) I1 a1 up un2 hok2 os2 bare2 ea ed hd1
    exact ⟨rv, ⟨_, _, _, ⟨G', g2, d2, t2, os'⟩, _, .ref C, some d, rfl, J, kG, ge, hoe, ⟨rfl, rfl, fun vs z => by cases z; rfl⟩, rfl, rfl, na, rfl, bare2, raises_own T.exC T.tyC, q2⟩⟩
  | _ => exact False.elim hq2
/-- the fields stand in the dict the last one first -/
def mRaiseX (c : Str) (fs : List Str) (ms : M (List D)) : M Ctl := fun ρ S => (ms ρ S).bind fun ds ρ1 S1 => if ds.length = fs.length ∧ fs.length ≤ 900 then .exc c fs.reverse ds.reverse ρ1 S1 else .bad
theorem reps_reverse_zip {K : PySem.W.Frag} {θ : Th} {N : Hp} {fs : List Str} {ds : List D} {vs : List V} (r : Reps K θ N ds vs) (h : vs.length = fs.length) : (fs.zip vs).reverse.map (·.1) = fs.reverse ∧ Reps K θ N ds.reverse ((fs.zip vs).reverse.map (·.2)) := by
  rw [List.map_reverse, List.map_reverse, List.map_fst_zip (by omega), List.map_snd_zip (by omega)]
  exact ⟨rfl, r.reverse⟩
theorem fin_raiseX {ms : M (List D)} {fs : List Str} {E : Ends} {σ : St} {H : Hp} (h : tS X.K G W (mRaiseX c fs ms) E σ H) : tMkO (He.ga X.K c) (spX X.K c fs) [] (tA X.K G W ms) σ H fun cls d H' => W cls d σ H' := by
  obtain ⟨θ, N, ρ, S, st, fin⟩ := h
  refine ⟨θ, N, ρ, S, st, (fin_st fin).imp fun ds θ1 N1 H1 l1 l2 ⟨ρ1, S1, s1, fin1⟩ vs rv => ?_⟩
  split at fin1
  · rename_i hl
    refine ⟨by rw [rv.length]; omega, fun a ha => ⟨a, vs, by rw [List.append_nil], by rw [rv.length]; exact hl.1, upd_same, fun H2 d y1 y2 y3 y4 y5 => ⟨rfl, d, _, y1, y2, ?_, ?_⟩⟩⟩
    · rw [upd_ne y4] at y3; exact y3
    · have hd1 : H1 d = none := by rw [upd_ne y4] at y3; exact y3
      have eH : upd (del H2 a) d (.xd (fs.zip vs).reverse) = upd H1 d (.xd (fs.zip vs).reverse) := by
        funext b
        by_cases hb : b = d
        · rw [hb, upd_same, upd_same]
        · rw [upd_ne hb, upd_ne hb]
          by_cases hba : b = a
          · rw [hba, del_same, ha]
          · rw [del_ne hba, y5 b hba hb, upd_ne hba]
      rw [eH]
      obtain ⟨r1, r2⟩ := reps_reverse_zip (fs := fs) rv (by rw [rv.length]; exact hl.1)
      have mN := same_upd (o := .xd (fs.zip vs).reverse) (s1.fresh hd1)
      exact fin1 θ1 _ σ _ (some d) (LeT.refl _) mN (s1.alloc hd1 _) (.inr ⟨d, _, rfl, upd_same, r1, r2.mono (LeT.refl _) mN⟩)
  · exact fin1.elim
theorem st_raiseX {ms : M (List D)} (fs : List Str) (T : OexC X.K (He.ga X.K c)) (iC : PySem.W.findIn X.K (.ref (He.ga X.K c)) "__init__" = some (some (.ref fI))) (tI : PySem.W.typeIn X.K (.ref fI) = some (.type "function")) (F1 : FnOk X.prog X.w X.K X.mg X.base (L2.CX X.prog X.w) k fI fd ps (spX X.K c fs))
    (hr : Room (k + 1) X.A) (hb : Binds X.K fd ps []) (hg : Gl X c) (hm : X.mg c = some (.ref (He.ga X.K c))) (hc : X.calm = true) (tk : L2.Takes X W) (ha : PA X (e :: es) (tA X.K G W ms)) (hdb : (c == ("__debug__" : Str)) = false := by decide)
    (he : starEach (e :: es) X.env = (false, eval e X.env) :: starEach es X.env := by rfl) (hpl : (backTo pos (starEach es X.env)).any (·.1) = false := by rfl) :
    PS X (.Raise (some (.Call (.Name c p) (e :: es) [] pos)) none pos') (tS X.K G W (mRaiseX c fs ms)) :=
  (L2.ps_raise hc tk (pmk_ofN (pmk_oexN T iC tI F1 hr hb passF hg hm ha hdb he hpl))).imp fun _ _ _ => fin_raiseX
theorem st_raiseXN {ms : M (List D)} (fs : List Str) (T : OexC X.K (He.ga X.K c)) (iC : PySem.W.findIn X.K (.ref (He.ga X.K c)) "__init__" = some (some (.ref fI))) (tI : PySem.W.typeIn X.K (.ref fI) = some (.type "function")) (F1 : FnOk X.prog X.w X.K X.mg X.base (L2N.CX X.prog X.w) k fI fd ps (spX X.K c fs))
    (hr : Room (k + 1) X.A) (hb : Binds X.K fd ps []) (hg : Gl X c) (hm : X.mg c = some (.ref (He.ga X.K c))) (hc : X.calm = true) (tk : L2N.Takes X W) (ha : PA X (e :: es) (tA X.K G W ms)) (hdb : (c == ("__debug__" : Str)) = false := by decide)
    (he : starEach (e :: es) X.env = (false, eval e X.env) :: starEach es X.env := by rfl) (hpl : (backTo pos (starEach es X.env)).any (·.1) = false := by rfl) :
    PS X (.Raise (some (.Call (.Name c p) (e :: es) [] pos)) none pos') (tS X.K G W (mRaiseX c fs ms)) :=
  (L2N.ps_raise hc tk (pmk_oexN T iC tI F1 hr hb passFN hg hm ha hdb he hpl)).imp fun _ _ _ => fin_raiseX
end
end DL

namespace DL
open PySem PySem.Spec L2 TL PyProof.Rows

/-! ## try: any clauses, with names or without, and an else -/
abbrev Sui : Type := Addr → Value → Option Addr → TS
/-- a suite's ends where its name goes -/
abbrev endsAt (i : Nat) (D : Ends) : Ends := { nx := fun σ H => D.nx (σ.set i none) H, rt := D.rt, bk := fun σ H => D.bk (σ.set i none) H, ct := fun σ H => D.ct (σ.set i none) H }
def wCat (K : PySem.W.Frag) (Wout : WX) (D : Ends) : List (Value × Option Nat × Sui) → WX
  | [] => Wout
  | (c, none, ts) :: r => fun cls d σ H => ∃ b, PySem.W.exmOne K cls c = some b ∧ (b = true → ∀ a, H a = none → ts a cls d D σ H) ∧ (b = false → wCat K Wout D r cls d σ H)
  | (c, some i, ts) :: r => fun cls d σ H => ∃ b, PySem.W.exmOne K cls c = some b ∧ (b = true → ∀ a, H a = none → ts a cls d (endsAt i D) (σ.set i (some (.ref a))) H) ∧ (b = false → wCat K Wout D r cls d σ H)
abbrev SuiOk (X : Cx) (b : List Stmt) (ts : Sui) : Prop := ∀ (a : Addr) (oe : Obj) (cls : Value) (d : Option Addr) (pn : List (Addr × Obj)), Zc cls d oe → (∃ vs, oe.data = .fields vs) → PSs (X.suite a ((a, oe) :: pn)) b (ts a cls d)
inductive Cat (X : Cx) : List ExceptHandler → List (Value × Option Nat × Sui) → Prop
  | nil : Cat X [] []
  | bare {x : Str} {c : Value} {ts : Sui} {b₀ : Stmt} {b : List Stmt} {np hp : Pos} {hds : List ExceptHandler} {l : List (Value × Option Nat × Sui)} (hc : Names X x c) (su : SuiOk X (b₀ :: b) ts) (r : Cat X hds l) : Cat X (.ExceptHandler (some (.Name x np)) none (b₀ :: b) hp :: hds) ((c, none, ts) :: l)
  | named {x n : Str} {c : Value} {i : Nat} {ts : Sui} {b₀ : Stmt} {b : List Stmt} {np hp : Pos} {hds : List ExceptHandler} {l : List (Value × Option Nat × Sui)} (hc : Names X x c) (hN : X.N.Nodup) (hi : X.N[i]? = some n) (hl : X.env.kindOf n = some .local) (su : SuiOk X (b₀ :: b) ts) (r : Cat X hds l) :
      Cat X (.ExceptHandler (some (.Name x np)) (some n) (b₀ :: b) hp :: hds) ((c, some i, ts) :: l)
/-- an exception that has landed: what is known of it -/
structure Down (X : Cx) (pins : List (Addr × Obj)) (σ : L2.St) (H : Hp) (sI s : Shared) (B : Heap) (a : Addr) (cls : Value) (d : Option Addr) : Prop where
  inv : Inv X pins σ H sI
  nb : ∀ b o, sI.heap.get? b = some o → b ∉ frs X.stack → B.get? b = some o
  up : sI.heap.UpToSlots s.heap
  fly : HandSPX.FlyingZ B (X.env :: X.outer) a (Zc cls d) s.heap
  na : H a = none
  os : s.os = sI.os
  bare : AllBare s.gens
section
variable {X : Cx} {pins : List (Addr × Obj)} {σ : L2.St} {H : Hp} {sI s : Shared} {B : Heap} {a : Addr} {cls : Value} {d : Option Addr}
theorem Down.obj (z : Down X pins σ H sI s B a cls d) (hf : X.env.frame = some X.env.locals) : ∃ oe vs, s.heap.get? a = some oe ∧ Zc cls d oe ∧ oe.data = .fields vs ∧ Inv X pins σ H s ∧ Inv (X.suite a ((a, oe) :: (X.pn ++ pins))) [] σ H s := by
  obtain ⟨oe, vs, he, hz, hd⟩ := z.fly.there
  have far : a ∉ frs (X.env :: X.outer) := fun hm => by
    obtain ⟨_, o', e', hnf⟩ := z.fly.2.2.1.mem hm
    rw [he] at e'
    cases e'
    exact hnf _ hd
  have J := z.inv.landed z.nb z.fly.1 z.up z.os z.bare
  refine ⟨oe, vs, he, hz, hd, J, J.suite he hd z.na (fun q => far (List.mem_filterMap.mpr ⟨X.env, List.mem_cons_self, ?_⟩)) fun q => ?_⟩
  · rw [hf, q]
  · obtain ⟨e, he, q2⟩ := List.mem_filterMap.mp q
    exact far (List.mem_filterMap.mpr ⟨e, List.mem_cons_of_mem _ he, q2⟩)
/-- behind a suite -/
theorem sp_unsuite {D : Ends} {oe : Obj} {f : Flow} {s6 : Shared} (ok : X.Ok) (h : SP (X.suite a ((a, oe) :: (X.pn ++ pins))) [] D f s6) : SP X pins D f s6 := by
  cases f with
  | next => obtain ⟨σ6, H6, S6, q6⟩ := h; exact ⟨_, _, S6.unsuite ok, q6⟩
  | brk => obtain ⟨σ6, H6, S6, q6⟩ := h; exact ⟨_, _, S6.unsuite ok, q6⟩
  | cont => obtain ⟨σ6, H6, S6, q6⟩ := h; exact ⟨_, _, S6.unsuite ok, q6⟩
  | ret u => obtain ⟨v6, σ6, H6, S6, r6, q6⟩ := h; exact ⟨_, _, _, S6.unsuite ok, r6, q6⟩
theorem sp_gone {D : Ends} {f : Flow} {s6 : Shared} {i : Nat} {n : Str} {pos : Pos} (hN : X.N.Nodup) (hi : X.N[i]? = some n) (hl : X.env.kindOf n = some .local) (h : SP X pins (endsAt i D) f s6) :
    wpAny (model X.prog X.w) X.A (do bindName X.env n .none; unbindBehindTheSuite X.env n pos) (fun _ s7 => SP X pins D f s7) X.xe s6 := by
  cases f with
  | next => obtain ⟨σ6, H6, S6, q6⟩ := h; exact gone_ok S6 hN hi hl fun s7 J7 => ⟨_, _, J7, q6⟩
  | brk => obtain ⟨σ6, H6, S6, q6⟩ := h; exact gone_ok S6 hN hi hl fun s7 J7 => ⟨_, _, J7, q6⟩
  | cont => obtain ⟨σ6, H6, S6, q6⟩ := h; exact gone_ok S6 hN hi hl fun s7 J7 => ⟨_, _, J7, q6⟩
  | ret u => obtain ⟨v6, σ6, H6, S6, r6, q6⟩ := h; exact gone_ok S6 hN hi hl fun s7 J7 => ⟨_, _, _, J7, r6, q6⟩
/-- no clause: it flies on -/
theorem Down.onward {Wout : WX} {D : Ends} (z : Down X pins σ H sI s B a cls d) (hs : X.stack = X.env :: X.outer) (hf : X.env.frame = some X.env.locals) (tk : Takes X Wout) (w : Wout cls d σ H) : wpAny (model X.prog X.w) X.A (handleBy (.ref a) X.env []) (SP X pins D) X.xe s := by
  refine wpAny_handleBy_nil ?_
  obtain ⟨k1, k2, k3, oe, vs, T, oT, ts, he, hz, hd, h1, hr⟩ := id z.fly
  unfold PySem.passOn
  refine wpAny_bind (wpAny_field he hd h1 ?_)
  rw [if_neg (show ¬ ((Value.ref T == Value.none) = true) from by simp)]
  have last : wpAny (model X.prog X.w) X.A (setFlight (.ref a) X.env.frame) (fun _ s4 => wpAny (model X.prog X.w) X.A (throw (.ref a) : Sem Flow) (SP X pins D) X.xe s4) X.xe s := by
    rw [hf]
    refine HandSPX.setFlight_upZ z.fly fun h4 held up4 => wpAny_throw (tk _ _ ⟨a, B, sI, pins, σ, H, cls, d, rfl, z.inv, z.nb, z.up.trans up4, .inr (.inr ?_), z.na, z.os, z.bare, w⟩)
    rw [hs]; exact held
  first
    | exact wpAny_bind (wpAny_pure (wpAny_bind last))
    | exact wpAny_bind last
theorem Down.test {x : Str} {c : Value} {np hp : Pos} {b : Bool} {R : Result → Shared → Prop} (z : Down X pins σ H sI s B a cls d) (hf : X.env.frame = some X.env.locals) (hc : Names X x c) (e : PySem.W.exmOne X.K cls c = some b) (h : R (.ok (if b then .brk else .next)) s) :
    codeAny (model X.prog X.w) (X.A.mark (some (.ref a))) (.handlers (.ref a) [.ExceptHandler (some (.Name x np)) none [] hp] X.env) R s := by
  refine codeAny_handlers_test ?_
  obtain ⟨oe, vs, he, hz, hd, J, S⟩ := z.obj hf
  have LT : PySem.W.Looks (model X.prog X.w) s.heap (typeOf (.ref a)) cls := fun A' Q' E' s' k q => wpAny_typeOf_ref (k _ _ he) (by rw [hz.1]; exact q)
  have LM := PySem.W.exm_one (M := model X.prog X.w) J.kIn LT e
  obtain ⟨hg, hdbg, hm | ⟨hm, hv, hnn⟩⟩ := hc
  · exact ld_glob (X := X.suite a ((a, oe) :: (X.pn ++ pins))) S hg hm (LM.here h) hdbg
  · exact ld_blt (X := X.suite a ((a, oe) :: (X.pn ++ pins))) S hg hm hv (LM.here h) hnn hdbg
theorem Down.later (z : Down X pins σ H sI s B a cls d) {h4 : Heap} (fl : HandSPX.FlyingZ B (X.env :: X.outer) a (Zc cls d) h4) (up : s.heap.UpToSlots h4) : Down X pins σ H sI { s with heap := h4 } B a cls d := ⟨z.inv, z.nb, z.up.trans up, fl, z.na, z.os, z.bare⟩
theorem Down.go {Wout : WX} {D : Ends} (hs : X.stack = X.env :: X.outer) (hf : X.env.frame = some X.env.locals) (tk : Takes X Wout) : ∀ {hds : List ExceptHandler} {l : List (Value × Option Nat × Sui)}, Cat X hds l → ∀ {s : Shared}, Down X pins σ H sI s B a cls d → wCat X.K Wout D l cls d σ H →
    wpAny (model X.prog X.w) X.A (handleBy (.ref a) X.env hds) (SP X pins D) X.xe s
  | _, _, .nil, s, z, w => z.onward hs hf tk w
  | _, _, .bare hc su r, s, z, w => by
    obtain ⟨b, e, yes, no⟩ := w
    refine wpAny_handleBy_cons (z.test hf hc e ?_) (by intro q; cases q)
    cases b with
    | false => exact Down.go hs hf tk r z (no rfl)
    | true =>
      refine codeAny_handlers_suite (HandSPX.lands_againZ z.fly fun h4 fl4 up4 => ?_)
      obtain ⟨oe, vs, he, hz, hd, J, S⟩ := (z.later fl4 up4).obj hf
      exact wpAny_mono ((su a oe cls d (X.pn ++ pins) hz ⟨_, hd⟩).run [] _ σ H D S (yes rfl a z.na)) (fun f s6 q => sp_unsuite z.inv.ok q) fun _ _ q => q.elim
  | _, _, .named hc hN hi hl su r, s, z, w => by
    obtain ⟨b, e, yes, no⟩ := w
    refine wpAny_handleBy_cons (z.test hf hc e ?_) (by intro q; cases q)
    cases b with
    | false => exact Down.go hs hf tk r z (no rfl)
    | true =>
      refine codeAny_handlers_suite_as (HandSPX.lands_againZ z.fly fun h4 fl4 up4 => ?_)
      obtain ⟨oe, vs, he, hz, hd, J, S⟩ := (z.later fl4 up4).obj hf
      refine store_ok (X := X.suite a ((a, oe) :: (X.pn ++ pins))) (v := .ref a) S hN hi (.inl hl) rfl (fun s5 S5 => ?_) (.inr hl)
      exact wpAny_mono ((su a oe cls d (X.pn ++ pins) hz ⟨_, hd⟩).run [] s5 _ H _ S5 (yes rfl a z.na)) (fun f s6 q => sp_gone hN hi hl (sp_unsuite z.inv.ok q)) fun _ _ q => q.elim
theorem ps_catch {body orelse : List Stmt} {h₀ : ExceptHandler} {hds : List ExceptHandler} {l : List (Value × Option Nat × Sui)} {pos : Pos} {tb : WX → TS} {u : TS} {Wout : WX} (hs : X.stack = X.env :: X.outer) (hf : X.env.frame = some X.env.locals) (tk : Takes X Wout)
    (hb : ∀ (W : WX) (pn : List (Addr × Obj)) (xe : Value → Shared → Prop), Takes (X.tr pn xe) W → PassesOwn (model X.prog X.w) X.A X.env xe → PSs (X.tr pn xe) body (tb W)) (hc : Cat X (h₀ :: hds) l) (ho : PSs X orelse u) :
    PS X (.Try body (h₀ :: hds) orelse [] pos) (fun D σ H => tb (wCat X.K Wout D l) { D with nx := u D } σ H) := by
  refine ⟨fun pins s σ H D I h => wpAny_Try_except ?_⟩
  have ok := I.ok
  have frEq : X.A.frames = some (X.env :: X.outer) := by rw [ok.frames, hs]
  refine wpAny_mono ((hb (wCat X.K Wout D l) (X.pn ++ pins) (fun e s₁ => wpAny (model X.prog X.w) X.A (noteFrame e X.env) (fun _ s₂ => wpAny (model X.prog X.w) X.A (setFlight e none) (fun _ s₃ =>
    wpAny (model X.prog X.w) X.A (handleBy e X.env (h₀ :: hds)) (SP X pins D) X.xe s₃) X.xe s₂) X.xe s₁) (fun v s' air => ?_) PassesOwn.looking).run [] s σ H { D with nx := u D } (I.toTry _) h) (fun f s1 q => ?_) fun e s1 q => q
  · obtain ⟨a, B, sI, pins', σ', H', cls, d, rfl, J', nb, up, sky, na, os, ag, w⟩ := air
    have sky' : Sky B (X.env :: X.outer) a (Zc cls d) X.env.locals s'.heap := by rw [← hs]; exact sky
    exact Sky.land Zc.steady frEq hf sky' fun h3 fl3 up3 => Down.go (s := { s' with heap := h3 }) hs hf tk hc ⟨J'.ofTry ok, nb, up.trans up3, fl3, na, os, ag⟩ w
  · cases f with
    | next => obtain ⟨σ', H', J', q⟩ := q; exact ho.run pins s1 σ' H' D (J'.ofTry ok) q
    | brk => obtain ⟨σ', H', J', q⟩ := q; exact ⟨σ', H', J'.ofTry ok, q⟩
    | cont => obtain ⟨σ', H', J', q⟩ := q; exact ⟨σ', H', J'.ofTry ok, q⟩
    | ret v => obtain ⟨w, σ', H', J', r, q⟩ := q; exact ⟨w, σ', H', J'.ofTry ok, r, q⟩
end
end DL

namespace DL
open PySem PySem.Spec L2 TL

/-! ## try, by mirrors -/
def dropX (ρ : DEnv) : DEnv := ρ.map fun x => match x with
  | some (.exn _ _ _) => none
  | y => y
theorem dropX_some {ρ : DEnv} {i : Nat} {sl : Slot} (h : (dropX ρ)[i]? = some (some sl)) : ρ[i]? = some (some sl) ∧ ∀ c ns xs, sl ≠ .exn c ns xs := by
  unfold dropX at h
  rw [List.getElem?_map] at h
  cases e : ρ[i]? with
  | none => rw [e] at h; cases h
  | some x =>
    rw [e] at h
    cases x with
    | none => cases h
    | some y =>
      cases y with
      | val d => cases h; exact ⟨rfl, fun _ _ _ z => by cases z⟩
      | own c => cases h; exact ⟨rfl, fun _ _ _ z => by cases z⟩
      | exn c ns xs => cases h
/-- an entry with an exception at hand -/
abbrev withX (G : Ent) (a : Addr) (cls : Value) (d : Option Addr) : Ent := ⟨G.θ, G.N, G.H, none, a, cls, d⟩
section
variable {K : PySem.W.Frag} {G G' : Ent} {θ : Th} {N : Hp} {ρ : DEnv} {S : Store} {σ : St} {H : Hp}
theorem Le.reent (l : Le G θ N H) (h1 : G'.θ = G.θ) (h2 : G'.N = G.N) (h3 : G'.H = G.H) : Le G' θ N H := ⟨by rw [h2]; exact l.gN, by rw [h1]; exact l.gT, by rw [h2, h3]; exact l.nN, by rw [h1, h3]; exact l.nT, by rw [h1, h3]; exact l.keep, by rw [h3]; exact l.stay⟩
theorem Stt.reent (s : Stt K G θ N ρ S σ H) (h1 : G'.θ = G.θ) (h2 : G'.N = G.N) (h3 : G'.H = G.H) (h4 : G'.mi = none) : Stt K G' θ N (dropX ρ) S σ H := by
  refine ⟨s.hs, s.le.reent h1 h2 h3, by rw [s.len]; simp [dropX], fun i sl e => ?_, fun i j a c c' hij e1 e2 e3 e4 => s.own i j a c c' hij (dropX_some e1).1 (dropX_some e2).1 e3 e4, fun i c hm => by rw [h4] at hm; cases hm⟩
  obtain ⟨e1, ne⟩ := dropX_some e
  obtain ⟨v, e2, q⟩ := s.slot i sl e1
  refine ⟨v, e2, ?_⟩
  cases sl with
  | val d => exact q
  | exn c ns xs => exact absurd rfl (ne c ns xs)
  | own c =>
    obtain ⟨a, z1, z2, z3, z4, z5⟩ := q
    exact ⟨a, z1, z2, z3, by rw [h3]; exact z4, z5⟩
theorem Stt.setX (s : Stt K G θ N ρ S σ H) (i : Nat) {c : Str} {ns : List Str} {xs : List D} (hm : G.mi = none) (he : G.ec = .ref (He.ga K c)) (hx : ExcAt K θ N ns xs G.ed) : Stt K G θ N (ρ.set i (some (.exn c ns xs))) S (σ.set i (some (.ref G.me))) H := by
  have nj : ∀ {j : Nat} {c' : Cell}, (ρ.set i (some (.exn c ns xs)))[j]? = some (some (.own c')) → j ≠ i := fun e => own_ne e fun _ z => by cases z
  refine ⟨s.hs, s.le, by simpa using s.len, fun j sl e => ?_, fun j k a c1 c2 hjk e1 e2 e3 e4 => ?_, fun j c1 hm' => by rw [hm] at hm'; cases hm'⟩
  · by_cases hj : j = i
    · subst hj
      have hl : j < ρ.length := by
        have := (List.getElem?_eq_some_iff.mp e).1
        simpa using this
      rw [List.getElem?_set_self hl] at e
      cases e
      exact ⟨.ref G.me, List.getElem?_set_self (by rw [s.len]; exact hl), rfl, he, hx⟩
    · rw [List.getElem?_set_ne (Ne.symm hj)] at e ⊢
      exact s.slot j sl e
  · have h1 := nj e1
    have h2 := nj e2
    rw [List.getElem?_set_ne (Ne.symm h1)] at e1 e3
    rw [List.getElem?_set_ne (Ne.symm h2)] at e2 e4
    exact s.own j k a c1 c2 hjk e1 e2 e3 e4
end
abbrev Clause : Type := List (Str × Bool) × Option Nat × M Ctl
def okOnly (r : Res Ctl) (k : DEnv → DEnv) : Res Ctl := match r with
  | .ok a ρ S => .ok a (k ρ) S
  | _ => .bad
def mCat : List Clause → Str → List Str → List D → M Ctl
  | [], c, ns, xs => fun ρ S => .exc c ns xs ρ S
  | (rel, o, m) :: r, c, ns, xs => fun ρ S => match rel.lookup c with
    | some true => (match o with
      | none => okOnly (m ρ S) fun ρ => ρ
      | some i => okOnly (m ((dropX ρ).set i (some (.exn c ns xs))) S) fun ρ => (dropX ρ).set i none)
    | some false => mCat r c ns xs ρ S
    | none => .bad
def mTry (mb : M Ctl) (cl : List Clause) (me : M Ctl) : M Ctl := fun ρ S => match mb ρ S with
  | .ok .next ρ1 S1 => me ρ1 S1
  | .exc c ns xs ρ1 S1 => mCat cl c ns xs ρ1 S1
  | r => r
/-- the classes' table of a clause: exmOne's answers -/
def RelE (K : PySem.W.Frag) (c : Value) (rel : List (Str × Bool)) : Prop := ∀ p ∈ rel, PySem.W.exmOne K (.ref (He.ga K p.1)) c = some p.2
theorem lookup_mem {α β : Type} [BEq α] [LawfulBEq α] {a : α} {b : β} : ∀ {l : List (α × β)}, l.lookup a = some b → (a, b) ∈ l
  | [], h => by cases h
  | (k, v) :: r, h => by
    rw [List.lookup_cons] at h
    by_cases e : (a == k) = true
    · rw [e] at h
      cases h
      rw [eq_of_beq e]; exact List.mem_cons_self
    · have e' : (a == k) = false := by simpa using e
      rw [e'] at h
      exact List.mem_cons_of_mem _ (lookup_mem h)
section
variable {X : Cx} {G : Ent} {W : WX}
inductive CatD (X : Cx) (G : Ent) : List ExceptHandler → List Clause → Prop
  | nil : CatD X G [] []
  | bare {x : Str} {c : Value} {m : M Ctl} {b₀ : Stmt} {b : List Stmt} {np hp : Pos} {hds : List ExceptHandler} {rel : List (Str × Bool)} {l : List Clause} (hc : Names X x c) (hr : RelE X.K c rel)
      (su : ∀ (a : Addr) (oe : Obj) (cls : Value) (d : Option Addr) (pn : List (Addr × Obj)), Zc cls d oe → (∃ vs, oe.data = .fields vs) → PSs (X.suite a ((a, oe) :: pn)) (b₀ :: b) (tS X.K G W0 m)) (r : CatD X G hds l) :
      CatD X G (.ExceptHandler (some (.Name x np)) none (b₀ :: b) hp :: hds) ((rel, none, m) :: l)
  | named {x n : Str} {c : Value} {m : M Ctl} {b₀ : Stmt} {b : List Stmt} {np hp : Pos} {hds : List ExceptHandler} {rel : List (Str × Bool)} {l : List Clause} (i : Nat) (hc : Names X x c) (hr : RelE X.K c rel) (hN : X.N.Nodup) (hi : X.N[i]? = some n) (hl : X.env.kindOf n = some .local)
      (su : ∀ (a : Addr) (oe : Obj) (cls : Value) (d : Option Addr) (pn : List (Addr × Obj)), Zc cls d oe → (∃ vs, oe.data = .fields vs) → PSs (X.suite a ((a, oe) :: pn)) (b₀ :: b) (tS X.K (withX G a cls d) W0 m)) (r : CatD X G hds l) :
      CatD X G (.ExceptHandler (some (.Name x np)) (some n) (b₀ :: b) hp :: hds) ((rel, some i, m) :: l)
theorem fin_okOnly {K : PySem.W.Frag} {θ : Th} {N : Hp} {E : Ends} {r : Res Ctl} (h : FinS K G W θ N E (okOnly r fun ρ => ρ)) : FinS K G W0 θ N E r := by
  cases r with
  | ok a ρ S => exact h
  | exc c ns xs ρ S => exact h.elim
  | bad => exact h.elim
theorem fin_okAt {K : PySem.W.Frag} {θ : Th} {N : Hp} {E : Ends} {r : Res Ctl} {i : Nat} {a : Addr} {cls : Value} {d : Option Addr} (hG : G.mi = none) (h : FinS K G W θ N E (okOnly r fun ρ => (dropX ρ).set i none)) : FinS K (withX G a cls d) W0 θ N (endsAt i E) r := by
  cases r with
  | ok c ρ S =>
    intro θ' N' σ' H' l1 l2 s
    have s2 : Stt K G θ' N' ((dropX ρ).set i none) S (σ'.set i none) H' := (s.reent (G' := G) rfl rfl rfl hG).wipe i
    have q := h θ' N' (σ'.set i none) H' l1 l2 s2
    cases c with
    | next => exact q
    | brk => exact q
    | cont => exact q
    | ret d => exact q
  | exc c ns xs ρ S => exact h.elim
  | bad => exact h.elim
theorem cat_ex (hG : G.mi = none) : ∀ {hds : List ExceptHandler} {l : List Clause}, CatD X G hds l → ∃ l', Cat X hds l' ∧ ∀ (W : WX) (E : Ends) (θ : Th) (N : Hp) (ρ : DEnv) (S : Store) (σ : St) (H : Hp) (c : Str) (ns : List Str) (xs : List D) (d : Option Addr),
    Stt X.K G θ N ρ S σ H → ExcAt X.K θ N ns xs d → FinS X.K G W θ N E (mCat l c ns xs ρ S) → wCat X.K W E l' (.ref (He.ga X.K c)) d σ H
  | _, _, .nil => ⟨[], .nil, fun W E θ N ρ S σ H c ns xs d s q fin => fin θ N σ H d (LeT.refl _) (Same.refl _) s q⟩
  | _, _, .bare (m := m) (rel := rel) hc hr su r => by
    obtain ⟨l', h1, h2⟩ := cat_ex hG r
    refine ⟨_, .bare hc su h1, fun W E θ N ρ S σ H c ns xs d s q fin => ?_⟩
    unfold mCat at fin
    cases e : rel.lookup c with
    | none => rw [e] at fin; exact fin.elim
    | some b =>
      rw [e] at fin
      refine ⟨b, hr _ (lookup_mem e), fun hb a na => ?_, fun hb => ?_⟩
      · subst hb
        exact ⟨θ, N, ρ, S, s, fin_okOnly fin⟩
      · subst hb
        exact h2 W E θ N ρ S σ H c ns xs d s q fin
  | _, _, .named (m := m) (rel := rel) i hc hr hN hi hl su r => by
    obtain ⟨l', h1, h2⟩ := cat_ex hG r
    refine ⟨_, .named hc hN hi hl su h1, fun W E θ N ρ S σ H c ns xs d s q fin => ?_⟩
    unfold mCat at fin
    cases e : rel.lookup c with
    | none => rw [e] at fin; exact fin.elim
    | some b =>
      rw [e] at fin
      refine ⟨b, hr _ (lookup_mem e), fun hb a na => ?_, fun hb => ?_⟩
      · subst hb
        exact ⟨θ, N, _, S, (s.reent (G' := withX G a (.ref (He.ga X.K c)) d) rfl rfl rfl rfl).setX i rfl rfl q, fin_okAt hG fin⟩
      · subst hb
        exact h2 W E θ N ρ S σ H c ns xs d s q fin
theorem st_try {body orelse : List Stmt} {h₀ : ExceptHandler} {hds : List ExceptHandler} {l : List Clause} {mb me : M Ctl} {pos : Pos} (hG : G.mi = none) (hs : X.stack = X.env :: X.outer) (hf : X.env.frame = some X.env.locals) (tk : Takes X W)
    (hb : ∀ (W' : WX) (pn : List (Addr × Obj)) (xe : Value → Shared → Prop), Takes (X.tr pn xe) W' → PassesOwn (model X.prog X.w) X.A X.env xe → PSs (X.tr pn xe) body (tS X.K G W' mb)) (hc : CatD X G (h₀ :: hds) l) (ho : PSs X orelse (tS X.K G W me)) :
    PS X (.Try body (h₀ :: hds) orelse [] pos) (tS X.K G W (mTry mb l me)) := by
  obtain ⟨l', c1, c2⟩ := cat_ex hG hc
  refine (ps_catch (tb := fun W' => tS X.K G W' mb) hs hf tk hb c1 ho).imp fun E σ H ⟨θ, N, ρ, S, s, fin⟩ => ⟨θ, N, ρ, S, s, ?_⟩
  unfold mTry at fin
  cases e : mb ρ S with
  | bad => rw [e] at fin; exact fin
  | exc c ns xs ρ1 S1 => rw [e] at fin; exact fun θ' N' σ' H' d l1 l2 s' q => c2 W E θ' N' ρ1 S1 σ' H' c ns xs d s' q (FinS.weak l1 l2 fin)
  | ok a ρ1 S1 =>
    rw [e] at fin
    cases a with
    | next => exact fun θ' N' σ' H' l1 l2 s' => ⟨θ', N', ρ1, S1, s', FinS.weak l1 l2 fin⟩
    | brk => exact fin
    | cont => exact fin
    | ret d => exact fin
end
end DL

namespace DL
open PySem PySem.Spec L2 TL PyProof.Rows PySem.W PySem.Calls

/-! ## isinstance of a caught exception, its dict or none -/
section
variable {prog : Program} {w : World} {A : Around} {E : Value → Shared → Prop} {s : Shared} {K : PySem.W.Frag} {x C : Addr} {ox : Obj} {od : Option Obj}
theorem found_class (T : ExcC K C) : PySem.W.findObj K C od "__class__" = some (.bind (.builtin "getset_descriptor.__get__") (.builtin "object.__class__")) := by
  obtain ⟨cd, hc, _⟩ := any_some T.hd
  unfold PySem.W.findObj
  rw [hc, Option.bind_some, T.ha, Option.bind_some]
  simp [T.hn, T.ht]
theorem class_of_exc (T : ExcC K C) {Q : Option Value → Shared → Prop} (X : K.In s.heap) (I : PySem.W.InstAt s.heap x ox C od) (h : Q (some (.ref C)) { s with toks := s.toks + 1 }) : wpAny (model prog w) A (getAttr? (.ref x) "__class__") Q E s := by
  obtain ⟨hp, g, dr, t, os⟩ := s
  have ty := I.type (M := model prog w)
  have byBase : (Value.builtin "BaseException.__getattribute__" == Value.builtin "object.__getattribute__") = false := by decide +kernel
  unfold getAttr? getAttrBy? getAttrBy
  refine wpAny_bind (wpAny_mkText (wpAny_bind (wpAny_attempt (wpAny_holding (wpAny_bind (ty.at (wpAny_bind ((PySem.W.looks_findIn (M := model prog w) X T.hg).at ?_))))))))
  show wpAny _ _ (if (onTheHeap (Value.ref C) && Value.builtin "BaseException.__getattribute__" == Value.builtin "object.__getattribute__") = true then _ else _) _ _ _
  rw [byBase, Bool.and_false, if_neg Bool.false_ne_true]
  unfold getAttrByItsOwn hookBefore
  refine wpAny_bind ?_
  rw [if_pos (show onTheHeap (Value.ref C) = true from rfl)]
  refine (PySem.W.looks_findIn (M := model prog w) X T.hk).at (wpAny_bind (wpAny_attempt (wpAny_holding ?_)))
  unfold callGetattribute
  rw [Bool.false_and, if_neg Bool.false_ne_true]
  unfold boundAndCalled
  rw [PySem.F.excAttr_ValueError.ga.bind (.ref x)]
  refine wpAny_bind (wpAny_pure ?_)
  show wpAny _ _ (call (.builtin "BaseException.__getattribute__") [.ref x, .str "__class__" t]) _ _ _
  refine wpAny_call (codeAny_call_builtin PySem.F.excAttr_ValueError.ga.plain PySem.F.entry_bexc_ga (@PySem.W.check_slot (model prog w) _ _ ⟨hp, g, dr, t + 1, os⟩ "BaseException.__getattribute__" "BaseException" "__getattribute__" (.ref x) [.str "__class__" t] [] _ (by decide +kernel) (by decide +kernel)
    (ty.andThen (PySem.W.looks_subIn X T.hs)) (PySem.F.args_bexc_ga (.ref x) (.str "__class__" t)) ?_))
  unfold Builtin.«object.__getattribute__»
  refine wpAny_bind (wpAny_of_eq (a := ((Value.ref x : Value), [Value.str "__class__" t])) (by first | rfl | (simp only [slotArgs]; rfl)) (wpAny_bind (wpAny_pure (wpAny_bind (ty.at (wpAny_bind ((PySem.W.looks_find (M := model prog w) X I (found_class T)).at ?_)))))))
  show wpAny _ _ (holding [Value.builtin "object.__class__"] (call (.builtin "getset_descriptor.__get__") [.builtin "object.__class__", .ref x, .ref C]) >>= ret) _ _ _
  refine wpAny_bind (wpAny_holding (wpAny_call (PySem.W.class_get (s := ⟨hp, g, dr, t + 1, os⟩) (ox := ox) (od := od) X I T.hm (wpAny_pure ?_))))
  show wpAny _ _ (handedOut (.ref C)) _ _ _
  rw [handedOut_of (v := .ref C) rfl]
  first
    | exact wpAny_pure (wpAny_pure h)
    | exact wpAny_pure h
    | exact wpAny_pure (wpAny_bind (wpAny_pure (wpAny_pure h)))
theorem kitx_caught (T : ExcC K C) : PySem.W.KitX K (.ref x) (.ref C) (fun h => PySem.W.InstAt h x ox C od) where
  ty := fun _ _ _ I => I.type
  it := fun _ _ X _ => by
    obtain ⟨cd, hC, _⟩ := any_some T.hd
    unfold PySem.W.clsIn at hC
    split at hC
    · rename_i z1 z2 z3 z4 ho
      intro A2 Q2 E2 s2 k q
      unfold isType loadHead
      exact wpAny_bind (wpAny_loadPart (k _ _ (X _ _ ho)) (wpAny_pure q))
    · cases hC
  ne := fun h tp dd its n sl X htp => by
    obtain ⟨cd, hC, _⟩ := any_some T.hd
    refine Bool.eq_false_iff.mpr fun q => ?_
    cases Value.ref.inj (beq_iff_eq.mp q)
    unfold PySem.W.clsIn at hC
    split at hC
    · rename_i z1 z2 z3 z4 ho
      cases (X _ _ ho).symm.trans htp
    · cases hC
  ca := fun X I k => class_of_exc T X I k
end
/-- isinstance(e, c), isinstance(e, (c1, ..)) -/
def rIsX (K : PySem.W.Frag) (a : Addr) (cls : Value) (d : Option Addr) : List V → Hp → VK → Prop := fun xs H Q => ∃ (C : Addr) (c : V) (u : Value) (b : Bool), cls = .ref C ∧ ExcC K C ∧ (d = none ∨ ∃ dd fs, d = some dd ∧ H dd = some (.xd fs)) ∧ xs = [.ref a, c] ∧ Q (.bl b) H ∧
  ((ClsV c u ∧ PySem.W.kitOne K (.ref C) u = some b) ∨ ∃ (tp : Addr) (cs : List V) (us : List Value), c = .ref tp ∧ H tp = some (.tup cs) ∧ Paired ClsV cs us ∧ PySem.W.kitAny K (.ref C) us = some b)
theorem call_isX {X : Cx} {a : Addr} {oe : Obj} {cls : Value} {d : Option Addr} {pn : List (Addr × Obj)} (hz : Zc cls d oe) (hf : ∃ vs, oe.data = .fields vs) : CallR (X.suite a ((a, oe) :: pn)) (.builtin "isinstance") (rIsX X.K a cls d) := by
  intro pins s σ H xs us Q I r h
  obtain ⟨C, c, u, b, rfl, T, hd, rfl, q, h⟩ := h
  obtain ⟨u1, u2, rfl, r1, r2⟩ := vals2 r
  cases (show u1 = Value.ref a from r1)
  obtain ⟨hget, _⟩ := I.pin (a, oe) (List.mem_append.mpr (.inl List.mem_cons_self))
  obtain ⟨vs, hv⟩ := hf
  have inst : ∃ od, PySem.W.InstAt s.heap a oe C od := by
    obtain ⟨z1, z2⟩ := hz
    have nc : PySem.W.notCls oe = true := by
      unfold PySem.W.notCls
      rw [hv]
    rcases hd with e | ⟨dd, fs, e, ed⟩
    · exact ⟨none, hget, z1, nc, by rw [z2, e]; trivial⟩
    · have ox : ObjOk X.prog X.w H s.heap dd (.xd fs) := I.hok dd _ ed
      obtain ⟨mA, hns, _⟩ := ox
      obtain ⟨od, ho, _⟩ := lookIn_ns hns
      exact ⟨some od, hget, z1, nc, by rw [z2, e]; exact ho⟩
  obtain ⟨od, J⟩ := inst
  rcases h with ⟨k, e⟩ | ⟨tp, cs, ws, rfl, hT, k, e⟩
  · have e2 := k.eq r2
    subst e2
    exact PySem.W.kia_one (kitx_caught T) I.kIn J e (fun z => nomatch z) fun tk => ⟨.bl b, H, I.kept (t' := tk) fun _ _ z => z, rfl, q⟩
  · cases (show u2 = Value.ref tp from r2)
    obtain ⟨_, its, rv, o, h1, h2, n, h3⟩ := (show ObjOk X.prog X.w H s.heap tp (.tup cs) from I.hok tp _ hT)
    have e3 := ClsV.all k rv
    subst e3
    obtain ⟨oc, od2, dt, sl⟩ := o
    simp only at h2 h3
    subst h2 h3
    exact PySem.W.kia_tup (kitx_caught T) I.kIn J h1 e (fun z => nomatch z) fun tk => ⟨.bl b, H, I.tok tk, rfl, q⟩

/-! ## in a suite -/
/-- isinstance(e, c) -/
def mIsX (rel : List (Str × Bool)) (i : Nat) : M D := fun ρ S => match (ρ[i]? : Option (Option Slot)) with
  | some (some (.exn c _ _)) => Res.ofO ((rel.lookup c).map D.bl) ρ S
  | _ => .bad
/-- e.f, e of the class C -/
def mXf (C f : Str) (i : Nat) : M D := fun ρ S => match (ρ[i]? : Option (Option Slot)) with
  | some (some (.exn c ns xs)) => if c = C then Res.ofO (fldL f ns xs) ρ S else .bad
  | _ => .bad
def RelK (K : PySem.W.Frag) (u : Value) (rel : List (Str × Bool)) : Prop := ∀ p ∈ rel, ExcC K (He.ga K p.1) ∧ PySem.W.kitOne K (.ref (He.ga K p.1)) u = some p.2
def RelT (K : PySem.W.Frag) (us : List Value) (rel : List (Str × Bool)) : Prop := ∀ p ∈ rel, ExcC K (He.ga K p.1) ∧ PySem.W.kitAny K (.ref (He.ga K p.1)) us = some p.2
theorem exc_dict {K : PySem.W.Frag} {θ : Th} {N H : Hp} {ns : List Str} {xs : List D} {d : Option Addr} (h : ExcAt K θ N ns xs d) (hs : Same N H) : d = none ∨ ∃ dd fs, d = some dd ∧ H dd = some (.xd fs) := by
  rcases h with ⟨_, _, e⟩ | ⟨dd, fs, e, e2, _⟩
  · exact .inl e
  · exact .inr ⟨dd, fs, e, hs _ _ e2⟩
/-- several class names -/
inductive PCs (X : Cx) : List Expr → List V → List Value → Prop
  | nil : PCs X [] [] []
  | cons {e : Expr} {v : V} {u : Value} {es : List Expr} {vs : List V} {us : List Value} (h : PE X e (tC v)) (k : ClsV v u) (hs : starEach (e :: es) X.env = (false, eval e X.env) :: starEach es X.env) (r : PCs X es vs us) : PCs X (e :: es) (v :: vs) (u :: us)
theorem PCs.all {X : Cx} : ∀ {es : List Expr} {vs : List V} {us : List Value}, PCs X es vs us → PA X es (fun _ H Q => Q vs H) ∧ Paired ClsV vs us
  | _, _, _, .nil => ⟨pa_nil, .nil⟩
  | _, _, _, .cons h k hs r => by
    obtain ⟨h1, h2⟩ := PCs.all r
    exact ⟨pa_cons h h1 hs, .cons k h2⟩
section
variable {X : Cx} {G : Ent} {a : Addr} {oe : Obj} {cls : Value} {d : Option Addr} {pn : List (Addr × Obj)} {x : Str} {p p1 p2 pos : Pos} {b : Expr}
theorem s_isX (rel : List (Str × Bool)) (i : Nat) {v : V} {u : Value} (hz : Zc cls d oe) (hf : ∃ vs, oe.data = .fields vs) (hr : RelK X.K u rel) (hN : X.N[i]? = some x) (hv : Vis X.env.scope x) (hg : Gl X "isinstance") (hm : X.mg "isinstance" = none) (hb : PE (X.suite a ((a, oe) :: pn)) b (tC v)) (k : ClsV v u)
    (hd : (x == ("__debug__" : Str)) = false := by decide) (hcd : (x == ("__classdict__" : Str)) = false := by decide)
    (hs1 : starEach ((.Name x p1) :: [b]) X.env = (false, eval (.Name x p1) X.env) :: starEach [b] X.env := by rfl) (hs2 : starEach (b :: []) X.env = (false, eval b X.env) :: starEach [] X.env := by rfl) (hpl : (backTo pos (starEach [b] X.env)).any (·.1) = false := by rfl) :
    PE (X.suite a ((a, oe) :: pn)) (.Call (.Name "isinstance" p) [.Name x p1, b] [] pos) (tE X.K (withX G a cls d) W0 (mIsX rel i)) :=
  (pe_callB (X := X.suite a ((a, oe) :: pn)) (call_isX hz hf) hg hm (by decide +kernel) (pa_cons (pe_var (X := X.suite a ((a, oe) :: pn)) hN hv hd hcd) (pa_cons hb pa_nil hs2) hs1) (by decide) (by decide) hs1 hpl).imp fun σ H Q ⟨θ, N, ρ, S, st, fin⟩ => by
    unfold mIsX at fin
    split at fin
    · rename_i c ns xs e
      obtain ⟨w, e1, rfl, ec, ex⟩ := st.slot i _ e
      cases e2 : rel.lookup c with
      | none => rw [e2] at fin; exact fin.elim
      | some r =>
        rw [e2] at fin
        obtain ⟨T, kk⟩ := hr _ (lookup_mem e2)
        exact ⟨_, e1, He.ga X.K c, v, u, r, ec, T, exc_dict ex st.hs.sub, rfl, fin θ N H (LeT.refl _) (Same.refl _) st _ rfl, .inl ⟨k, kk⟩⟩
    · exact fin.elim
theorem s_isXT (rel : List (Str × Bool)) (i : Nat) {vs : List V} {us : List Value} {es : List Expr} {kk : Nat} (hz : Zc cls d oe) (hf : ∃ vs, oe.data = .fields vs) (hr : RelT X.K us rel) (hl : vs.length ≤ 1000) (hN : X.N[i]? = some x) (hv : Vis X.env.scope x) (hg : Gl X "isinstance") (hm : X.mg "isinstance" = none)
    (hb : PCs (X.suite a ((a, oe) :: pn)) es vs us) (hd : (x == ("__debug__" : Str)) = false := by decide) (hcd : (x == ("__classdict__" : Str)) = false := by decide)
    (hs1 : starEach ((.Name x p1) :: [.Tuple es kk p2]) X.env = (false, eval (.Name x p1) X.env) :: starEach [.Tuple es kk p2] X.env := by rfl) (hs2 : starEach ((.Tuple es kk p2) :: []) X.env = (false, eval (.Tuple es kk p2) X.env) :: starEach [] X.env := by rfl)
    (hpl : (backTo pos (starEach [.Tuple es kk p2] X.env)).any (·.1) = false := by rfl) :
    PE (X.suite a ((a, oe) :: pn)) (.Call (.Name "isinstance" p) [.Name x p1, .Tuple es kk p2] [] pos) (tE X.K (withX G a cls d) W0 (mIsX rel i)) := by
  obtain ⟨pa, pr⟩ := hb.all
  refine (pe_callB (X := X.suite a ((a, oe) :: pn)) (call_isX hz hf) hg hm (by decide +kernel) (pa_cons (pe_var (X := X.suite a ((a, oe) :: pn)) hN hv hd hcd) (pa_cons (pe_tup pa) pa_nil hs2) hs1) (by decide) (by decide) hs1 hpl).imp fun σ H Q ⟨θ, N, ρ, S, st, fin⟩ => ?_
  unfold mIsX at fin
  split at fin
  · rename_i c ns xs e
    obtain ⟨w, e1, rfl, ec, ex⟩ := st.slot i _ e
    cases e2 : rel.lookup c with
    | none => rw [e2] at fin; exact fin.elim
    | some r =>
      rw [e2] at fin
      obtain ⟨T, e3⟩ := hr _ (lookup_mem e2)
      refine ⟨_, e1, by rw [sizeLine_eq]; omega, fun tp hp => ?_⟩
      have mN := same_upd (o := .tup vs) (st.fresh hp)
      exact ⟨He.ga X.K c, .ref tp, .none, r, ec, T, (exc_dict (ex.mono (LeT.refl _) mN) (upd_same2 st.hs.sub tp (.tup vs))), rfl, fin θ _ _ (LeT.refl _) mN (st.alloc hp _) _ rfl, .inr ⟨tp, vs, us, rfl, upd_same, pr, e3⟩⟩
  · exact fin.elim
theorem s_xf (C f : Str) (i : Nat) (T : XfC X.K (He.ga X.K C)) (hno : PySem.W.findIn X.K (.ref (He.ga X.K C)) f = some none) (hz : Zc cls d oe) (hf : ∃ vs, oe.data = .fields vs) (hN : X.N[i]? = some x) (hv : Vis X.env.scope x)
    (hd : (x == ("__debug__" : Str)) = false := by decide) (hcd : (x == ("__classdict__" : Str)) = false := by decide) (hb : attributeBase (.Name x p1) f X.env (eval (.Name x p1) X.env) = eval (.Name x p1) X.env := by rfl) :
    PE (X.suite a ((a, oe) :: pn)) (.Attribute (.Name x p1) f pos) (tE X.K (withX G a cls d) W0 (mXf C f i)) :=
  (pe_xf T hno hz hf (pe_var (X := X.suite a ((a, oe) :: pn)) hN hv hd hcd) hb).imp fun σ H Q ⟨θ, N, ρ, S, st, fin⟩ => by
    unfold mXf at fin
    split at fin
    · rename_i c ns xs e
      obtain ⟨w, e1, rfl, ec, ex⟩ := st.slot i _ e
      split at fin
      · rename_i hc
        subst hc
        cases e2 : fldL f ns xs with
        | none => rw [e2] at fin; exact fin.elim
        | some y =>
          rw [e2] at fin
          rcases ex with ⟨h1, h2, _⟩ | ⟨dd, fs, h1, h2, h3, h4⟩
          · rw [h1, h2] at e2; cases e2
          · obtain ⟨v, h5, h6⟩ := fldL_rep h3 h4 e2
            exact ⟨_, e1, rfl, ec, dd, fs, v, h1, st.hs.sub _ _ h2, h5, fin θ N H (LeT.refl _) (Same.refl _) st v h6⟩
      · exact fin.elim
    · exact fin.elim
end
end DL

namespace DL
open PySem PySem.Spec L2 TL

/-! ## text.index(sign), text.split(text) -/
section
open Builtin Builtin.Str PySem.StrLaws
theorem occ_full (x y : Str) (n : Nat) : ∀ (l : List Nat) (p : Array Nat × Nat), p.1.size = 1 → (forIn l p (occBody x y n 1)).run.1 = p.1
  | [], _, _ => rfl
  | i :: l, p, h => by
    rw [List.forIn_cons]
    unfold occBody
    rw [if_neg (by rintro ⟨⟨⟨q, _⟩, _⟩, _⟩; omega)]
    exact occ_full x y n l p h
theorem occ_from (a : List Nat) (c : Nat) : ∀ (m i : Nat), i + m = a.length + 1 → (∀ j, j < i → a[j]? ≠ some c) → c ∈ a → (forIn (List.range' i m) ((#[] : Array Nat), 0) (occBody (mkS a) ⟨#[c]⟩ (mkS a).length 1)).run.1.toList = [a.idxOf c]
  | 0, i, h, hn, hc => by
    obtain ⟨j, hj⟩ := List.mem_iff_getElem?.mp hc
    exact absurd hj (hn j (by have := (List.getElem?_eq_some_iff.mp hj).1; omega))
  | m + 1, i, h, hn, hc => by
    rw [List.range'_succ, List.forIn_cons]
    have key := subAt_one (mkS a) c i
    have et : (mkS a).cps.toList = a := by simp [mkS]
    rw [et] at key
    by_cases hi : a[i]? = some c
    · obtain ⟨k1, k2⟩ := key.mpr hi
      unfold occBody
      rw [if_pos ⟨⟨⟨by simp, Nat.zero_le _⟩, k1⟩, k2⟩]
      show (forIn (List.range' (i + 1) m) _ (occBody (mkS a) ⟨#[c]⟩ (mkS a).length 1)).run.1.toList = _
      rw [occ_full _ _ _ _ _ (by simp)]
      have ei : a.idxOf c = i := by
        obtain ⟨hl, he⟩ := List.getElem?_eq_some_iff.mp hi
        have h1 : a.idxOf c ≤ i := by
          refine Nat.le_of_not_lt fun q => ?_
          have z := List.not_of_lt_findIdx (p := (· == c)) (xs := a) (i := i) q
          simp [he] at z
        refine Nat.le_antisymm h1 (Nat.le_of_not_lt fun q => hn _ q ?_)
        have hl2 := List.idxOf_lt_length_of_mem hc
        rw [List.getElem?_eq_getElem hl2, List.getElem_idxOf hl2]
      rw [ei]
      simp
    · have k : ¬ (i + (⟨#[c]⟩ : Str).length ≤ (mkS a).length ∧ subAt (mkS a) ⟨#[c]⟩ i = true) := fun q => hi (key.mp q)
      unfold occBody
      rw [if_neg fun q => k ⟨q.1.2, q.2⟩]
      exact occ_from a c m (i + 1) (by omega) (fun j hj => by
        by_cases e : j = i
        · rw [e]; exact hi
        · exact hn j (by omega)) hc
theorem occ_idx (a : List Nat) (c : Nat) (hc : c ∈ a) : occurrences (mkS a) ⟨#[c]⟩ 0 (mkS a).length 1 = [a.idxOf c] := by
  rw [occ_eq]
  exact occ_from a c _ 0 (by simp [mkS, Str.length]) (fun j hj => absurd hj (Nat.not_lt_zero _)) hc
end
def dIndex : Store → D → D → Option D := fun _ x y => match x with
  | .str a => match y with
    | .str [c] => if c ∈ a then some (.int (a.idxOf c : Nat)) else none
    | _ => none
  | _ => none
def dSplit (a b : List Nat) : Option (List (List Nat)) := if b ≠ [] ∧ (b.all fun c => decide (c < 256)) ∧ a.length ≤ 1000000 then some (spl b 0 [] a) else none
/-- a new list of texts -/
def mSplit (ma mb : M D) : M (List D) := fun ρ S => (ma ρ S).bind fun x ρ1 S1 => match x with
  | .str a => (mb ρ1 S1).bind fun y ρ2 S2 => (match y with
    | .str b => Res.ofO ((dSplit a b).map fun l => l.map D.str) ρ2 S2
    | _ => .bad)
  | _ => .bad
section
variable {X : Cx} {G : Ent} {W : WX} {o e : Expr} {mo me : M D} {apos pos : Pos}
theorem od_index : Mt1D X G dIndex (fun x xs H Q => ∃ a b i rest, x = .str a ∧ xs = [.str b] ∧ Builtin.Str.occurrences a b 0 a.length 1 = i :: rest ∧ Q (.int (i : Nat)) H) := by
  intro θ N ρ S σ H a b d x y Q st ra rb e k
  unfold dIndex at e
  split at e
  · split at e
    · split at e
      · cases e
        obtain ⟨rfl, t⟩ := ra
        obtain ⟨rfl, t2⟩ := rb
        exact ⟨_, _, _, [], rfl, rfl, occ_idx _ _ ‹_›, k N H _ (Same.refl _) st rfl⟩
      · cases e
    · cases e
  · cases e
theorem s_index (ho : PE X o (tE X.K G W mo)) (he : PE X e (tE X.K G W me)) (hs : starEach [e] X.env = [(false, eval e X.env)] := by rfl) (hbase : attributeBase o "index" X.env (eval o X.env) = eval o X.env := by rfl) (hline : (apos.endLine == pos.line) = true := by rfl) :
    PE X (.Call (.Attribute o "index" apos) [e] [] pos) (tE X.K G W (mMt1 dIndex mo me)) := (pe_m1 F.slot_str_index F.type_str_index mt_sindex ho he hs hbase hline).imp fun _ _ _ => fin_mt1 od_index
theorem spl_ok {b : List Nat} : ∀ (a : List Nat) (k : Nat) (acc : List Nat), okText a → okText acc → ∀ t ∈ spl b k acc a, okText t
  | [], k, acc, h1, h2, t, ht => by
    rw [spl_nil] at ht
    rw [List.mem_singleton.mp ht]; exact h2
  | c :: r, 0, acc, h1, h2, t, ht => by
    have hr : okText r := fun z hz => h1 z (List.mem_cons_of_mem _ hz)
    cases hp : pre b (c :: r) with
    | true =>
      rw [spl_hit hp] at ht
      rcases List.mem_cons.mp ht with q | q
      · rw [q]; exact h2
      · exact spl_ok r _ [] hr (fun z hz => by cases hz) t q
    | false =>
      rw [spl_miss hp] at ht
      exact spl_ok r 0 _ hr (h2.append fun z hz => by rw [List.mem_singleton.mp hz]; exact h1 c List.mem_cons_self) t ht
  | c :: r, k + 1, acc, h1, h2, t, ht => spl_ok r k acc (fun z hz => h1 z (List.mem_cons_of_mem _ hz)) h2 t ht
theorem texts_reps {K : PySem.W.Frag} {θ : Th} {N : Hp} : ∀ {l : List (List Nat)}, (∀ t ∈ l, okText t) → Reps K θ N (l.map D.str) ((l.map mkS).map V.str)
  | [], _ => .nil
  | t :: l, h => .cons ⟨rfl, h t List.mem_cons_self⟩ (texts_reps fun z hz => h z (List.mem_cons_of_mem _ hz))
theorem split_mk {a b : List Nat} (hb : b ≠ []) (hk : (b.all fun c => decide (c < 256)) = true) : Txt.split (mkS a) (mkS b) = (spl b 0 [] a).map mkS := by
  have q := split_spl (mkS a) (mkS b) (by rw [tl_mk]; exact hb) (kind_ok (by rw [← Array.all_toList]; simpa [mkS] using hk))
  rw [tl_mk, tl_mk] at q
  refine map_tl_inj ?_
  rw [q, map_tl_mk]
theorem f_split (ho : PE X o (tE X.K G W mo)) (he : PE X e (tE X.K G W me)) (hs : starEach [e] X.env = [(false, eval e X.env)] := by rfl) (hbase : attributeBase o "split" X.env (eval o X.env) = eval o X.env := by rfl) (hline : (apos.endLine == pos.line) = true := by rfl) :
    PE X (.Call (.Attribute o "split" apos) [e] [] pos) (tF X.K G W (mSplit mo me)) :=
  (pe_split ho he hs hbase hline).imp fun σ H Q ⟨θ, N, ρ, S, st, fin⟩ => ⟨θ, N, ρ, S, st, (Fin.bind fin).imp fun x θ1 N1 H1 l1 l2 ⟨ρ1, S1, st1, fin1⟩ v rv => by
    split at fin1
    · rename_i a _
      refine ⟨⟨_, rv.1⟩, θ1, N1, ρ1, S1, st1, (Fin.bind fin1).imp fun y θ2 N2 H2 l3 l4 ⟨ρ2, S2, st2, fin2⟩ u ru => ?_⟩
      split at fin2
      · rename_i b _
        cases e1 : dSplit a b with
        | none => rw [e1] at fin2; exact fin2.elim
        | some l =>
          rw [e1] at fin2
          unfold dSplit at e1
          split at e1
          · rename_i hc
            cases e1
            obtain ⟨rfl, t1⟩ := rv
            obtain ⟨rfl, t2⟩ := ru
            refine ⟨_, _, rfl, rfl, ?_, ?_, fun p hp => ?_⟩
            · have : b.length ≠ 0 := fun z => hc.1 (List.length_eq_zero_iff.mp z)
              simpa [mkS, Str.length] using this
            · show (mkS a).length + 2 ≤ sizeLine
              rw [sizeLine_eq]
              have : (mkS a).length = a.length := by simp [mkS, Str.length]
              omega
            · rw [split_mk hc.1 hc.2.1]
              exact fin2 θ2 N2 H2 (LeT.refl _) (Same.refl _) st2 p _ hp (texts_reps (spl_ok a 0 [] t1 (fun z hz => by cases hz)))
          · cases e1
      · exact fin2.elim
    · exact fin1.elim⟩
end

/-! ## isinstance(x, C), C an own class -/
structure InsC (K : PySem.W.Frag) (c : Str) : Prop where
  cl : Cls K (He.ga K c)
  ha : PySem.W.findIn K (.ref (He.ga K c)) "__class__" = some (some (.builtin "object.__class__"))
  hn : PySem.W.specialIn K (.builtin "object.__class__") "__get__" = some (some (.builtin "getset_descriptor.__get__"))
  ht : PySem.W.takesIn K (.builtin "object.__class__") = some true
  hm : PySem.W.mroIn K (He.ga K c) (.type "object") = some true
def ownD (rel : List (Str × Bool)) (S : Store) : D → Option Bool
  | .obj c _ _ => rel.lookup c
  | d => (tyD S d).map fun _ => false
def mIsO (rel : List (Str × Bool)) (m : M D) : M D := fun ρ S => (m ρ S).bind fun d ρ1 S1 => Res.ofO ((ownD rel S1 d).map D.bl) ρ1 S1
abbrev tyNames : List String := ["NoneType", "bool", "int", "str", "tuple", "list", "dict"]
structure OwnK (K : PySem.W.Frag) (C : Str) (rel : List (Str × Bool)) : Prop where
  ty : ∀ t ∈ tyNames, PySem.W.kitOne K (.type t) (.ref (He.ga K C)) = some false
  own : ∀ p ∈ rel, InsC K p.1 ∧ PySem.W.kitOne K (.ref (He.ga K p.1)) (.ref (He.ga K C)) = some p.2
section
variable {X : Cx} {G : Ent} {W : WX} {a b : Expr} {m : M D} {p pos : Pos}
theorem s_isO (C : Str) (rel : List (Str × Bool)) (T : OwnK X.K C rel) (hg : Gl X "isinstance") (hm : X.mg "isinstance" = none) (ha : PE X a (tE X.K G W m)) (hb : PE X b (tC (.ref (He.ga X.K C))))
    (hs1 : starEach (a :: [b]) X.env = (false, eval a X.env) :: starEach [b] X.env := by rfl) (hs2 : starEach (b :: []) X.env = (false, eval b X.env) :: starEach [] X.env := by rfl) (hpl : (backTo pos (starEach [b] X.env)).any (·.1) = false := by rfl) :
    PE X (.Call (.Name "isinstance" p) [a, b] [] pos) (tE X.K G W (mIsO rel m)) :=
  (pe_callB call_isi hg hm (by decide +kernel) (pa_cons ha (pa_cons hb pa_nil hs2) hs1) (by decide) (by decide) hs1 hpl).imp fun σ H Q ⟨θ, N, ρ, S, st, fin⟩ => ⟨θ, N, ρ, S, st, (Fin.bind fin).imp fun d θ1 N1 H1 l1 l2 ⟨ρ1, S1, st1, fin1⟩ x rx => by
    have other : ∀ t, tyD S1 d = some t → Q (.bl false) H1 → ∃ (y c : V) (t u : Value) (r : Bool), [x, V.ref (He.ga X.K C)] = [y, c] ∧ ClsV c u ∧ TyX X.K H1 y t ∧ PySem.W.kitOne X.K t u = some r ∧ Q (.bl r) H1 := fun t e q => by
      obtain ⟨t1, t2⟩ := tyX_of st1 rx e
      exact ⟨x, _, _, _, false, rfl, .own _, t1, T.ty t t2, q⟩
    by_cases ho : ∃ c ns xs, d = .obj c ns xs
    · obtain ⟨c, ns, xs, rfl⟩ := ho
      obtain ⟨q, dx, fs, rfl, h1, h2, h3⟩ := rx
      cases e : rel.lookup c with
      | none => simp only [ownD, e] at fin1; exact fin1.elim
      | some r =>
        simp only [ownD, e] at fin1
        obtain ⟨I, kk⟩ := T.own _ (lookup_mem e)
        exact ⟨_, _, _, _, r, rfl, .own _, .base (.ins (st1.hs.sub _ _ h1) I.cl I.ha I.hn I.ht I.hm), kk, fin1 θ1 N1 H1 (LeT.refl _) (Same.refl _) st1 _ rfl⟩
    · have e0 : ownD rel S1 d = (tyD S1 d).map fun _ => false := by
        cases d with
        | obj c ns xs => exact absurd ⟨c, ns, xs, rfl⟩ ho
        | _ => rfl
      rw [e0] at fin1
      cases e : tyD S1 d with
      | none => rw [e] at fin1; exact fin1.elim
      | some t =>
        rw [e] at fin1
        exact other t e (fin1 θ1 N1 H1 (LeT.refl _) (Same.refl _) st1 _ rfl)⟩
end

/-! ## methods, by the receiver's class -/
structure MethOk (X : Cx) (CX : CXT) (k : Nat) (mname c : Str) (m : MF) (j : Nat) (dds : List D) : Prop where
  ex : ∃ (f : Addr) (fd : FuncData) (ps : List Str) (dvs : List V) (ds : List Value), Cls X.K (He.ga X.K c) ∧ Meth X.K (He.ga X.K c) mname f ∧ FnOk X.prog X.w X.K X.mg X.base CX k f fd ps (spM X.K (j + 1 + dds.length) m) ∧ Binds X.K fd ps ds ∧ Vals dvs ds ∧ ∀ θ N, Reps X.K θ N dds dvs
def mMeth (mname : Str) (mt : List (Str × MF)) (dds : List D) (mo : M D) (ms : M (List D)) : M D := fun ρ S => (mo ρ S).bind fun d ρ1 S1 => match d with
  | .obj c ns xs => if ns.contains mname then .bad else (match mt.lookup c with
    | some m => mCall (fun ds => m (.obj c ns xs :: ds)) dds ms ρ1 S1
    | none => .bad)
  | _ => .bad
theorem lookup_none_of {f : Str} : ∀ {fs : List (Str × V)}, (fs.map (·.1)).contains f = false → fs.lookup f = none
  | [], _ => rfl
  | (g, v) :: fs, h => by
    rw [List.map_cons, List.contains_cons] at h
    obtain ⟨h1, h2⟩ := Bool.or_eq_false_iff.mp h
    rw [List.lookup_cons, h1]
    exact lookup_none_of h2
section
variable {X : Cx} {G : Ent} {W : WX} {k j : Nat} {CX : CXT} {o e : Expr} {es : List Expr} {mo : M D} {ms : M (List D)} {mname : Str} {apos pos : Pos}
theorem fin_meth {mt : List (Str × MF)} {dds : List D} {σ : St} {H : Hp} {Q : VK} {t : TA} (hms : LenM ms j) (ht : ∀ (θ : Th) (N : Hp) (ρ : DEnv) (S : Store) (H1 : Hp) (R : List V → Hp → Prop), Stt X.K G θ N ρ S σ H1 → (Fin X.K G W θ N σ (ms ρ S) fun a θ' N' H' => ∀ vs, Reps X.K θ' N' a vs → R vs H') → t σ H1 R)
    (h : tE X.K G W (mMeth mname mt dds mo ms) σ H Q) : tE X.K G W mo σ H fun x H1 => ∃ (a dx : Addr) (fs : List (Str × V)) (c : Str) (m : MF), x = .ref a ∧ H1 a = some (.ins (He.ga X.K c) dx fs) ∧ fs.lookup mname = none ∧ (c, m) ∈ mt ∧
      t σ H1 fun vs H2 => ∀ dvs, (∀ θ N, Reps X.K θ N dds dvs) → spM X.K (j + 1 + dds.length) m (x :: (vs ++ dvs)) H2 Q (WE W σ) := by
  obtain ⟨θ, N, ρ, S, st, fin⟩ := h
  refine ⟨θ, N, ρ, S, st, (Fin.bind fin).imp fun d θ1 N1 H1 l1 l2 ⟨ρ1, S1, st1, fin1⟩ x rx => ?_⟩
  split at fin1
  · rename_i c ns xs _
    split at fin1
    · exact fin1.elim
    · rename_i hns
      cases em : mt.lookup c with
      | none => rw [em] at fin1; exact fin1.elim
      | some m =>
        rw [em] at fin1
        have rx0 := rx
        obtain ⟨a, dx, fs, rfl, h1, h2, h3⟩ := rx
        refine ⟨a, dx, fs, c, m, rfl, st1.hs.sub _ _ h1, lookup_none_of (by rw [h2]; simpa using hns), lookup_mem em, ht θ1 N1 ρ1 S1 H1 _ st1 ?_⟩
        cases e1 : ms ρ1 S1 with
        | bad => unfold mCall at fin1; rw [e1] at fin1; exact fin1.elim
        | exc c' ns' xs' ρ2 S2 => unfold mCall at fin1; rw [e1] at fin1; exact fin1
        | ok ys ρ2 S2 =>
          unfold mCall at fin1
          rw [e1] at fin1
          intro θ2 N2 H2 l3 l4 st2 vs rv dvs hd
          have fin2 : Fin X.K G W θ2 N2 σ _ _ := Fin.weak l3 l4 fin1
          exact ⟨θ2, N2, S2, .obj c ns xs :: (ys ++ dds), st2.hs, .cons (rx0.mono l3 l4) (rv.append (hd θ2 N2)), by rw [List.length_cons, List.length_append, hms _ _ _ _ _ e1]; omega, fin_callM st2 fin2⟩
  · exact fin1.elim
theorem s_meth {pl : Sem Bool} {mt : List (Str × MF)} {dds : List D} (ho : PE X o (tE X.K G W mo)) (hm : ∀ q ∈ mt, MethOk X CX k mname q.1 q.2 j dds) (hr : Room k X.A) (hx : ∀ σ, PassesAt CX X σ (WE W σ)) (ha : PA X (e :: es) (tA X.K G W ms)) (hms : LenM ms j)
    (hst : starEach (e :: es) X.env = (false, eval e X.env) :: starEach es X.env := by rfl) (hpl : (backTo pos (starEach es X.env)).any (·.1) = false := by rfl)
    (ht : eval (.Call (.Attribute o mname apos) (e :: es) [] pos) X.env = (do
      let ov ← eval o X.env
      standAt apos.atName
      let (f, first) ← holding [ov] (getMethod ov mname pl)
      callWith pos f first (backTo pos (starEach (e :: es) X.env)) (backToKw pos (keywordEach [] X.env))) := by rfl) :
    PE X (.Call (.Attribute o mname apos) (e :: es) [] pos) (tE X.K G W (mMeth mname mt dds mo ms)) := by
  refine ⟨fun pins s σ H Q I h => ?_⟩
  have h2 := fin_meth (t := tA X.K G W ms) hms (fun θ N ρ S H1 R st f => ⟨θ, N, ρ, S, st, f⟩) h
  refine PySem.W.methodCall_KW (pl := pl) (thn (ho.run pins s σ H _ I h2) fun u s1 ⟨x, H1, I1, rx, a, dx, fs, c, m, ex, ea, l, hc, q⟩ => ?_) ht
  subst ex
  obtain rfl : u = Value.ref a := rx
  obtain ⟨f, fd, ps, dvs, ds, cl, me, F, hb, hd, hdd⟩ := (hm _ hc).ex
  refine getmeth_ok I1 ea cl me l ?_
  refine PySem.W.callWith_K (first := [.ref a]) (h₀ := X.base) I.ok.mod.kin me.kp (thn (ha.run pos pins s1 σ H1 _ I1 q) fun us s2 ⟨vs, H2, I2, r, q2⟩ => ⟨I2.kIn, ?_⟩) hst hpl
  exact run_fnW (us := .ref a :: us) (vs := .ref a :: vs) F hr hb hd (hx σ) I2 (.cons rfl r) (q2 dvs hdd)
theorem s_meth0 {pl : Sem Bool} {mt : List (Str × MF)} {dds : List D} (ho : PE X o (tE X.K G W mo)) (hm : ∀ q ∈ mt, MethOk X CX k mname q.1 q.2 0 dds) (hr : Room k X.A) (hx : ∀ σ, PassesAt CX X σ (WE W σ))
    (ht : eval (.Call (.Attribute o mname apos) [] [] pos) X.env = (do
      let ov ← eval o X.env
      standAt apos.atName
      let (f, first) ← holding [ov] (getMethod ov mname pl)
      callWith pos f first (backTo pos (starEach [] X.env)) (backToKw pos (keywordEach [] X.env))) := by rfl) :
    PE X (.Call (.Attribute o mname apos) [] [] pos) (tE X.K G W (mMeth mname mt dds mo mNil)) := by
  refine ⟨fun pins s σ H Q I h => ?_⟩
  have h2 := fin_meth (t := tNil) lm_nil (fun θ N ρ S H1 R st f => f θ N H1 (LeT.refl _) (Same.refl _) st [] .nil) h
  refine PySem.W.methodCall_KW (pl := pl) (thn (ho.run pins s σ H _ I h2) fun u s1 ⟨x, H1, I1, rx, a, dx, fs, c, m, ex, ea, l, hc, q⟩ => ?_) ht
  subst ex
  obtain rfl : u = Value.ref a := rx
  obtain ⟨f, fd, ps, dvs, ds, cl, me, F, hb, hd, hdd⟩ := (hm _ hc).ex
  refine getmeth_ok I1 ea cl me l ?_
  exact PySem.W.callWith_K0 (first := [.ref a]) I1.kIn me.kp (run_fnW (us := [.ref a]) (vs := [.ref a]) F hr hb hd (hx σ) I1 (.cons rfl .nil) (q dvs hdd))
/-- f() -/
theorem s_call0 {f : Addr} {fd : FuncData} {ps : List Str} {n : Nat} {m : MF} {dvs : List V} {dds : List D} {ds : List Value} {x : Str} {p : Pos} (F : FnOk X.prog X.w X.K X.mg X.base CX k f fd ps (spM X.K n m)) (hr : Room k X.A) (hg : Gl X x) (hm : X.mg x = some (.ref f)) (hk : PySem.W.keepIn X.K (.ref f) = true) (hb : Binds X.K fd ps ds) (hd : Vals dvs ds)
    (hdd : ∀ θ N, Reps X.K θ N dds dvs) (hx : ∀ σ, PassesAt CX X σ (WE W σ)) (hn : dds.length = n) (hdb : (x == ("__debug__" : Str)) = false := by decide) : PE X (.Call (.Name x p) [] [] pos) (tE X.K G W (mCall m dds mNil)) := by
  refine ⟨fun pins s σ H Q I ⟨θ, N, ρ, S, st, fin⟩ => ?_⟩
  refine wpAny_Call_Name_kw (ld_glob I hg hm ?_ hdb)
  exact PySem.W.callWith_K0 I.kIn hk (run_fnW (us := []) (vs := []) F hr hb hd (hx σ) I .nil ⟨θ, N, S, dds, st.hs, hdd θ N, hn, fin_callM st fin⟩)
end
end DL

namespace DL
open PySem PySem.Spec L2 TL

/-! ## try: .. except C: raise C2('m') from None -/
section
variable {X : Cx} {C : Addr} {bmB : List Value} {B newId initId : String}
theorem pmk5_own {x m : Str} {j : Nat} {p p2 pos : Pos} (F : ExcBaseFacts B newId initId bmB) (q : PySem.W.excIn X.K C bmB newId = true) (gC : X.mg x = some (.ref C)) (kC : PySem.W.keepIn X.K (.ref C) = true) (r : Raises X (.ref C)) (hg : Gl X x) (hdb : (x == ("__debug__" : Str)) = false) :
    L2H.PMk5 X (.Call (.Name x p) [.Constant (.str m) j p2] [] pos) (fun _ H Q => Q (.ref C) none H) := by
  intro pins s σ H Q I h
  refine wpAny_Call_Name_kw (ld_glob I hg gC ?_ hdb)
  have ha : PA X [.Constant (.str m) j p2] (tCons (tC (.str m)) tNil) := pa_cons pe_str pa_nil
  refine PySem.W.callWith_K (h₀ := X.base) I.ok.mod.kin kC (thn (ha.run pos pins s σ H (fun vs H1 => vs = [V.str m] ∧ H = H1) I ⟨rfl, rfl⟩) fun us s1 ⟨vs, H1, I1, r1, ev, eH⟩ => ?_)
  subst ev eH
  obtain ⟨u, rfl, _⟩ := vals1 r1
  refine ⟨I1.kIn, ?_⟩
  show wpAny _ _ (call (.ref C) [u]) _ _ _
  obtain ⟨bm, N, nm, qn, bs, hdct, sn, sub, ab, col, dd, k0, k1, k2, k3, k5, mN, hC, hN, hni, T⟩ := exc_obj I1.kIn q
  exact wpAny_call_exc_subT F T hC hN hni (fun h' e hm => L2H.mk_of5 I1 hm r h (I1.hok.gone hm.new)) (by show 1 ≤ sizeLine; rw [sizeLine_eq]; omega)
end
def mTryRe (rel : List (Str × Bool)) (c' : Str) (mb : M Ctl) : M Ctl := fun ρ S => match mb ρ S with
  | .exc c ns xs ρ1 S1 => (match rel.lookup c with
    | some true => .exc c' [] [] ρ1 S1
    | some false => .exc c ns xs ρ1 S1
    | none => .bad)
  | r => r
section
variable {X : Cx} {G : Ent} {W : WX}
theorem st_tryRe {body : List Stmt} {x c' m : Str} {c : Value} {rel : List (Str × Bool)} {mb : M Ctl} {j k : Nat} {np hp p p2 p3 cpos rpos pos : Pos} (hs : X.stack = X.env :: X.outer) (hf : X.env.frame = some X.env.locals) (hc : Names X x c) (hr : RelE X.K c rel)
    (hpa : ∀ hd : Option Value, PassesOwnAt (model X.prog X.w) (X.A.mark hd) X.A X.env X.xe) (tk : L2.Takes X W) (hx : (He.Fa.exc c').ok X.K = true) (hm : X.mg c' = some (.ref (He.ga X.K c'))) (hg : Gl X c')
    (hb : ∀ (W' : WX) (pn : List (Addr × Obj)) (xe : Value → Shared → Prop), L2N.Takes (X.tr pn xe) W' → PSs (X.tr pn xe) body (tS X.K G W' mb)) (hdb : (c' == ("__debug__" : Str)) = false := by decide) :
    PS X (.Try body [.ExceptHandler (some (.Name x np)) none [.Raise (some (.Call (.Name c' p) [.Constant (.str m) j p2] [] p3)) (some (.Constant .none k cpos)) rpos] hp] [] [] pos) (tS X.K G W (mTryRe rel c' mb)) := by
  obtain ⟨h1, h2, h3, h4⟩ := He.exc_ok hx
  refine (L2H.ps_try_onlyX (tb := fun W' => tS X.K G W' mb) (ts := fun a cls d => fun _ σ H => W (.ref (He.ga X.K c')) none σ H) (Wout := W) hs hf hc hpa tk (fun W' pn xe t1 t2 t3 => hb W' pn xe t1) fun a oe cls d pn hz hf2 t1 hot => ?_).imp fun E σ H ⟨θ, N, ρ, S, s, fin⟩ => ⟨θ, N, ρ, S, s, ?_⟩
  · exact pss_one (L2H.ps_raiseHN hot t1 (pmk5_own (X := L2H.suiteX X a ((a, oe) :: pn)) F.excBase_ValueError h1 hm h2 (raises_own h3 h4) hg hdb))
  · unfold mTryRe at fin
    cases e : mb ρ S with
    | bad => rw [e] at fin; exact fin
    | ok a ρ1 S1 => rw [e] at fin; exact fin
    | exc cc ns xs ρ1 S1 =>
      rw [e] at fin
      intro θ' N' σ' H' d l1 l2 s' q
      simp only at fin
      cases e2 : rel.lookup cc with
      | none => rw [e2] at fin; exact fin.elim
      | some b =>
        rw [e2] at fin
        refine ⟨b, hr _ (lookup_mem e2), fun hb a na => ?_, fun hb => ?_⟩
        · subst hb
          exact fin θ' N' σ' H' none l1 l2 s' (.inl ⟨rfl, rfl, rfl⟩)
        · subst hb
          exact fin θ' N' σ' H' d l1 l2 s' q
end
end DL

namespace DL
open PySem PySem.Spec L2 TL

/-! ## further rules -/
def mNeg (m : M D) : M D := fun ρ S => (m ρ S).bind fun d ρ1 S1 => match d with
  | .int i => .ok (.int (-i)) ρ1 S1
  | _ => .bad
/-- a slice of a text, a tuple, a list -/
def dSlcA (S : Store) (x : D) (lo hi : Option Int) : Option D := match x with
  | .str z => if z.length ≤ sizeLine then some (.str (cutD z lo hi)) else none
  | .tup xs => if HT.sIx xs.length 0 lo = 0 ∧ HT.sIx xs.length xs.length hi = xs.length then none else some (.tup (cutD xs lo hi))
  | x => (lstOf S x).map fun xs => .lst (cutD xs lo hi)
def mSlcA (m : M D) (ml mh : M (Option Int)) : M D := fun ρ S => (m ρ S).bind fun d ρ1 S1 => (ml ρ1 S1).bind fun l ρ2 S2 => (mh ρ2 S2).bind fun h ρ3 S3 => Res.ofO (dSlcA S3 d l h) ρ3 S3
section
variable {X : Cx} {G : Ent} {W : WX} {a e : Expr} {es : List Expr} {m : M D} {ms : M (List D)} {pos p p2 : Pos} {x : Str} {lo hi : Option Expr} {nl nh : M (Option Int)} {k : Nat}
theorem s_neg (ha : PE X a (tE X.K G W m)) : PE X (.UnaryOp .USub a pos) (tE X.K G W (mNeg m)) :=
  (pe_un un_neg ha).imp fun σ H Q ⟨θ, N, ρ, S, st, fin⟩ => ⟨θ, N, ρ, S, st, (Fin.bind fin).imp fun d θ1 N1 H1 l1 l2 ⟨ρ1, S1, st1, fin1⟩ x rx => by
    split at fin1
    · cases rx; exact ⟨_, rfl, fin1 θ1 N1 H1 (LeT.refl _) (Same.refl _) st1 _ rfl⟩
    · exact fin1.elim⟩
theorem s_slcA (ha : PE X a (tE X.K G W m)) (hl : PO X lo (tO X.K G W nl)) (hh : PO X hi (tO X.K G W nh)) : PE X (.Subscript a (.Slice lo hi none p2) pos) (tE X.K G W (mSlcA m nl nh)) :=
  (pe_slice (SlR.or sl_list (SlR.or sl_str sl_tup)) ha hl hh).imp fun σ H Q ⟨θ, N, ρ, S, st, fin⟩ => ⟨θ, N, ρ, S, st, (Fin.bind fin).imp fun d θ1 N1 H1 l1 l2 ⟨ρ1, S1, st1, fin1⟩ x rx => ⟨θ1, N1, ρ1, S1, st1, (Fin.bind fin1).imp fun l θ2 N2 H2 l3 l4 ⟨ρ2, S2, st2, fin2⟩ =>
    ⟨θ2, N2, ρ2, S2, st2, (Fin.bind fin2).imp fun h θ3 N3 H3 l5 l6 ⟨ρ3, S3, st3, fin3⟩ => by
      have rx' := rx.mono (l3.trans l5) (l4.trans l6)
      cases e : dSlcA S3 d l h with
      | none => rw [e] at fin3; exact fin3.elim
      | some r =>
        rw [e] at fin3
        unfold dSlcA at e
        split at e
        · split at e
          · rename_i z hz
            cases e
            obtain ⟨rfl, t⟩ := rx'
            refine .inr (.inl ⟨_, rfl, by simpa [Str.length] using hz, fin3 θ3 N3 H3 (LeT.refl _) (Same.refl _) st3 _ ⟨?_, t.sub fun c hc => mem_cut hc⟩⟩)
            simp [cutS, cutD, Str.length]
          · cases e
        · split at e
          · cases e
          · rename_i xs hz
            cases e
            obtain ⟨p, vs, rfl, h1, r1⟩ := rx'
            refine .inr (.inr ⟨p, vs, rfl, same_sqT st3.hs.sub h1, by rw [r1.length]; exact hz, fun q hq => ?_⟩)
            have mN := same_upd (o := .tup (cutV vs l h)) (st3.fresh hq)
            exact fin3 θ3 _ _ (LeT.refl _) mN (st3.alloc hq _) _ ⟨q, _, rfl, .of upd_same, (r1.cut l h).mono (LeT.refl _) mN⟩
        · obtain ⟨xs, e1, rfl⟩ := Option.map_eq_some_iff.mp e
          obtain ⟨p, vs, rfl, h1, r1⟩ := lstOf_sq st3 rx' e1
          refine .inl ⟨p, vs, rfl, h1, fun q hq => ?_⟩
          have mN := same_upd (o := .lst (cutV vs l h)) (st3.fresh hq)
          exact fin3 θ3 _ _ (LeT.refl _) mN (st3.alloc hq _) _ ⟨q, _, rfl, upd_same, (r1.cut l h).mono (LeT.refl _) mN⟩⟩⟩⟩
theorem g_lst {gs : List D → M Unit} {kk : Nat} (n : Nat) (hc : X.calm = true) (h : PGs X es (tGs X.K G gs)) (hn : (assignEach es X.env).length = n := by rfl) (hst : (assignEach es X.env).findIdx? (·.1) = none := by rfl) : PG X (.Tuple es kk pos) (tG X.K G (gL n gs)) :=
  (pg_lst hc h hn hst).imp fun v σ H Q ⟨θ, N, ρ, S, d, s, r, fin⟩ => by
    unfold gL at fin
    split at fin
    · split at fin
      · rename_i xs e hl
        obtain ⟨p, vs, rfl, h1, r1⟩ := lstOf_sq s r e
        exact ⟨p, vs, rfl, h1, by rw [r1.length]; exact hl, θ, N, ρ, S, xs, s, r1, fin⟩
      · exact fin.elim
    · exact fin.elim
/-- the module's ints and texts -/
theorem s_gint {i : Int} (h : ∃ t, X.mg x = some (.int i t)) (hg : Gl X x) (hd : (x == ("__debug__" : Str)) = false := by decide) : PE X (.Name x pos) (tE X.K G W (mC (.int i))) := by
  obtain ⟨t, h⟩ := h
  exact s_glob (v := .int i) hg h ⟨t, rfl⟩ (fun _ _ => rfl) hd
theorem s_gstr {z : Str} (l : List Nat) (h : ∃ t, X.mg x = some (.str z t)) (hg : Gl X x) (hz : isT z l = true) (hd : (x == ("__debug__" : Str)) = false := by decide) : PE X (.Name x pos) (tE X.K G W (mC (.str l))) := by
  obtain ⟨t, h⟩ := h
  exact s_glob (v := .str z) hg h ⟨t, rfl⟩ (fun _ _ => rep_isT hz) hd
theorem s_gref {a : Addr} {d : D} (h : X.mg x = some (.ref a)) (hg : Gl X x) (r : ∀ θ N, Rep X.K θ N d (.ref a)) (hd : (x == ("__debug__" : Str)) = false := by decide) : PE X (.Name x pos) (tE X.K G W (mC d)) := s_glob (v := .ref a) hg h rfl r hd
theorem p_cls {c : Str} {a : Addr} (h : X.mg c = some (.ref a)) (hg : Gl X c) (hd : (c == ("__debug__" : Str)) = false := by decide) : PE X (.Name c pos) (tC (.ref a)) := pe_glob hg h rfl hd
theorem p_ty {c : Str} {n : String} (h : X.mg c = none) (hg : Gl X c) (hv : bootBuiltins c = some (.type n)) (hn : c ≠ "__name__" := by decide) (hd : (c == ("__debug__" : Str)) = false := by decide) : PE X (.Name c pos) (tC (.ty n)) := pe_bltn hg h hv rfl hn hd
/-! ### in a suite, where a Room lacks -/
theorem c_eqS {A : Around} (hr : Room k A) (hu : X.A.units = A.units := by rfl) : CmpD X G .Eq dEq := ⟨_, op_eqD (by rw [hu]; exact hr.units), od_eq⟩
theorem c_neS {A : Around} (hr : Room k A) (hu : X.A.units = A.units := by rfl) : CmpD X G .NotEq dNe := ⟨_, op_neD (by rw [hu]; exact hr.units), od_ne⟩
/-! ### calls, the defaults found -/
theorem s_callE {CX : CXT} {f : Addr} {fd : FuncData} {ps : List Str} {n j : Nat} {mf : MF} {dvs : List V} {dds : List D} (F : FnOk X.prog X.w X.K X.mg X.base CX k f fd ps (spM X.K n mf)) (hr : Room k X.A) (hg : Gl X x) (hm : X.mg x = some (.ref f)) (hk : PySem.W.keepIn X.K (.ref f) = true) (hb : ∃ ds, Vals dvs ds ∧ Binds X.K fd ps ds)
    (hdd : ∀ θ N, Reps X.K θ N dds dvs) (hx : ∀ σ, PassesAt CX X σ (WE W σ)) (ha : PA X (e :: es) (tA X.K G W ms)) (hms : LenM ms j) (hn : j + dds.length = n) (hdb : (x == ("__debug__" : Str)) = false := by decide) (he : starEach (e :: es) X.env = (false, eval e X.env) :: starEach es X.env := by rfl)
    (hpl : (backTo pos (starEach es X.env)).any (·.1) = false := by rfl) : PE X (.Call (.Name x p) (e :: es) [] pos) (tE X.K G W (mCall mf dds ms)) := by
  obtain ⟨ds, hd, hb⟩ := hb
  exact s_call F hr hg hm hk hb hd hdd hx ha hms hn hdb he hpl
theorem s_call0E {CX : CXT} {f : Addr} {fd : FuncData} {ps : List Str} {n : Nat} {mf : MF} {dvs : List V} {dds : List D} (F : FnOk X.prog X.w X.K X.mg X.base CX k f fd ps (spM X.K n mf)) (hr : Room k X.A) (hg : Gl X x) (hm : X.mg x = some (.ref f)) (hk : PySem.W.keepIn X.K (.ref f) = true) (hb : ∃ ds, Vals dvs ds ∧ Binds X.K fd ps ds)
    (hdd : ∀ θ N, Reps X.K θ N dds dvs) (hx : ∀ σ, PassesAt CX X σ (WE W σ)) (hn : dds.length = n) (hdb : (x == ("__debug__" : Str)) = false := by decide) : PE X (.Call (.Name x p) [] [] pos) (tE X.K G W (mCall mf dds mNil)) := by
  obtain ⟨ds, hd, hb⟩ := hb
  exact s_call0 F hr hg hm hk hb hd hdd hx hn hdb
theorem s_makeE {CX : CXT} {f : Addr} {fd : FuncData} {ps : List Str} {n j : Nat} {mf : MF} {dvs : List V} {dds : List D} {c : Str} (M : Mk X.K (He.ga X.K c) f) (F : FnOk X.prog X.w X.K X.mg X.base CX k f fd ps (spI X.K c n mf)) (hr : Room (k + 1) X.A) (hg : Gl X c) (hm : X.mg c = some (.ref (He.ga X.K c))) (hb : ∃ ds, Vals dvs ds ∧ Binds X.K fd ps ds)
    (hdd : ∀ θ N, Reps X.K θ N dds dvs) (hx : ∀ σ, PassesAt CX X σ (WE W σ)) (ha : PA X (e :: es) (tA X.K G W ms)) (hms : LenM ms j) (hn : j + dds.length + 1 = n) (hdb : (c == ("__debug__" : Str)) = false := by decide) (he : starEach (e :: es) X.env = (false, eval e X.env) :: starEach es X.env := by rfl)
    (hpl : (backTo pos (starEach es X.env)).any (·.1) = false := by rfl) : PE X (.Call (.Name c p) (e :: es) [] pos) (tE X.K G W (mCall mf dds ms)) := by
  obtain ⟨ds, hd, hb⟩ := hb
  exact s_make M F hr hg hm hb hd hdd hx ha hms hn hdb he hpl
end

/-! ## what the head looks at: any checks of the written part -/
abbrev Ck : Type := PySem.W.Frag → Bool
abbrev AlX : Type := Bool × He.AlD
def obsX (cs : List Ck) (fn : List He.DefD) (K : PySem.W.Frag) : AlX := (cs.all fun c => c K, He.obsD [] fn K)
def valX (fn : List He.DefD) : AlX := (true, He.valD fn)
def SaysX (cs : List Ck) (fn : List He.DefD) (K : PySem.W.Frag) : Prop := obsX cs fn K = valX fn
def obsXG (n : Nat) (cs : List Ck) (fn : List He.DefD) (g : Addr → Option Obj) : AlX := obsX cs fn (He.frG g (He.asD g n))
def hookX (n : Nat) (cs : List Ck) (fn : List He.DefD) : PySem.W.Hook where
  α := AlX
  obs := fun s => obsXG n cs fn s.heap.get?
  val := fun _ => valX fn
  says := fun _ h => ∃ K : PySem.W.Frag, K.In h ∧ SaysX cs fn K
  of := fun _ _ e => ⟨_, He.frG_in, e⟩
  keeps := fun _ _ _ ⟨K, hK, c⟩ k => ⟨K, PySem.W.Frag.In.keeps hK k, c⟩
theorem obsXG_eq {n : Nat} {cs : List Ck} {fn : List He.DefD} {g : Addr → Option Obj} {s : Shared} (h : ∀ a, g a = s.heap.get? a) : obsXG n cs fn g = (hookX n cs fn).obs s := by
  rw [show g = s.heap.get? from funext h] <;> rfl
section
variable {cs : List Ck} {fn : List He.DefD} {K : PySem.W.Frag}
theorem SaysX.ck (c : SaysX cs fn K) (i : Nat) {f : Ck} (h : cs[i]? = some f := by rfl) : f K = true := by
  have c1 : cs.all (fun c => c K) = true := congrArg (fun z : AlX => z.1) c
  exact List.all_eq_true.mp c1 f (List.mem_of_getElem? h)
theorem SaysX.def_ (c : SaysX cs fn K) (i : Nat) {d : He.DefD} (h : fn[i]? = some d := by rfl) : ∃ fd, FunD K d.name d.qual d.params d.body d.scope (d.dvs K) (d.kws K) (He.fAd K d.at_) fd :=
  He.SaysD.def_ (fa := []) (congrArg (fun z : AlX => z.2) c) i h
end
/-! ### the checks -/
abbrev ckF (f : He.Fa) : Ck := fun K => f.ok K
def ckOex (c : Str) : Ck := fun K => (match K.lookup (He.ga K c) with
  | some ⟨.type t, dd, .cls cd, sl⟩ => decide (t = "type") && (match cd.mro, sl.toList with
    | .ref C' :: bm, [_, _, _, _, some (.builtin n), _] => decide (C' = He.ga K c) && (decide (n = "ValueError.__new__") && (!cd.hasDel && (cd.hasDict && PySem.HandSPX.refsVE bm)))
    | _, _ => false)
  | _ => false) && (He.eqO (PySem.W.findIn K (.ref (He.ga K c)) "__setattr__") (some (some (.builtin "object.__setattr__"))) && (decide (PySem.W.subIn K (.ref (He.ga K c)) (.type "BaseException") = some true) &&
    (decide (PySem.W.typeIn K (.ref (He.ga K c)) = some (.type "type")) && PySem.W.keepIn K (.ref (He.ga K c)))))
def ckXf (c : Str) : Ck := fun K => xfB K (He.ga K c)
def ckKind (K : PySem.W.Frag) (C : Addr) : Bool := He.eqO (PySem.W.findIn K (.ref C) "__class__") (some (some (.builtin "object.__class__"))) && (He.eqO (PySem.W.specialIn K (.builtin "object.__class__") "__get__") (some (some (.builtin "getset_descriptor.__get__"))) &&
  (decide (PySem.W.takesIn K (.builtin "object.__class__") = some true) && decide (PySem.W.mroIn K C (.type "object") = some true)))
def ckExc (c : Str) : Ck := fun K => xfB K (He.ga K c) && ckKind K (He.ga K c)
def ckIns (c : Str) : Ck := fun K => (He.Fa.cls c).ok K && ckKind K (He.ga K c)
/-- isinstance of an instance of c: v a class -/
def ckKit (c : Str) (v : He.Dv) (b : Bool) : Ck := fun K => decide (PySem.W.kitOne K (.ref (He.ga K c)) (match v with
  | .ty n => .type n
  | .glo x => .ref (He.ga K x)
  | _ => .none) = some b)
def ckKitT (t : String) (x : Str) : Ck := fun K => decide (PySem.W.kitOne K (.type t) (.ref (He.ga K x)) = some false)
section
variable {K : PySem.W.Frag}
theorem oex_ok {c : Str} (h : ckOex c K = true) : OexC K (He.ga K c) := by
  obtain ⟨h1, h⟩ := He.ba h
  obtain ⟨h2, h⟩ := He.ba h
  obtain ⟨h3, h⟩ := He.ba h
  obtain ⟨h4, h5⟩ := He.ba h
  refine ⟨?_, He.eqO_ok h2, of_decide_eq_true h3, of_decide_eq_true h4, h5⟩
  split at h1
  · rename_i t dd cd sl ho
    obtain ⟨ht, h1⟩ := He.ba h1
    split at h1
    · rename_i C' bm k0 k1 k2 k3 n k5 hm hs
      obtain ⟨e1, h1⟩ := He.ba h1
      obtain ⟨e2, h1⟩ := He.ba h1
      obtain ⟨e3, h1⟩ := He.ba h1
      obtain ⟨e4, e5⟩ := He.ba h1
      have e1 := of_decide_eq_true e1
      have e2 := of_decide_eq_true e2
      have ht := of_decide_eq_true ht
      obtain ⟨nm, bs, mro, ns, qn, hd, sn, sub, ab, col, del⟩ := cd
      dsimp only at hm e3 e4
      subst hm e1 e2 ht
      have e3 : del = false := by simpa using e3
      subst e3 e4
      have hsl : sl = #[k0, k1, k2, k3, some (.builtin "ValueError.__new__"), k5] := by
        obtain ⟨l⟩ := sl
        simp only at hs
        rw [hs]
      subst hsl
      exact ⟨nm, qn, ns, bs, bm, sn, sub, ab, col, dd, k0, k1, k2, k3, k5, ho, e5⟩
    · cases h1
  · cases h1
theorem xf_ok {c : Str} (h : ckXf c K = true) : XfC K (He.ga K c) := xfB_ok h
theorem exc_ok {c : Str} (h : ckExc c K = true) : ExcC K (He.ga K c) := by
  obtain ⟨h1, h⟩ := He.ba h
  obtain ⟨h2, h⟩ := He.ba h
  obtain ⟨h3, h⟩ := He.ba h
  obtain ⟨h4, h5⟩ := He.ba h
  obtain ⟨q1, q2, q3, q4⟩ := xfB_ok h1
  exact ⟨q1, q2, q3, q4, He.eqO_ok h2, He.eqO_ok h3, of_decide_eq_true h4, of_decide_eq_true h5⟩
theorem ins_ok {c : Str} (h : ckIns c K = true) : InsC K c := by
  obtain ⟨h1, h⟩ := He.ba h
  obtain ⟨h2, h⟩ := He.ba h
  obtain ⟨h3, h⟩ := He.ba h
  obtain ⟨h4, h5⟩ := He.ba h
  exact ⟨He.cls_ok h1, He.eqO_ok h2, He.eqO_ok h3, of_decide_eq_true h4, of_decide_eq_true h5⟩
end
/-! ## the law's end -/
theorem rep_script {K : PySem.W.Frag} {H : Hp} {a : Addr} {ns : List Int} (hS : SqL K H a (ns.map V.int)) : Rep K (fun _ => none) H (.scr (ns.map D.int)) (.ref a) := ⟨a, _, rfl, hS, reps_ints ns⟩
theorem hs_empty (K : PySem.W.Frag) (H : Hp) : HS K (fun _ => none) H [] H := ⟨Same.refl H, fun _ _ _ h => (nomatch h), fun n c h => by simp at h, fun _ _ => rfl, fun _ _ h => (nomatch h)⟩
theorem sp_law {K : PySem.W.Frag} {m : MF} {H : Hp} {a : Addr} {ns : List Int} (hS : SqL K H a (ns.map V.int)) (h : ∃ ρ S, m [.scr (ns.map D.int)] [] = .ok (.bl true) ρ S) : spM K 1 m [.ref a] H (fun v _ => v = .bl true) fun _ _ _ => False := by
  obtain ⟨ρ, S, h⟩ := h
  refine ⟨fun _ => none, H, [], [.scr (ns.map D.int)], hs_empty K H, .cons (rep_script hS) .nil, rfl, ?_⟩
  rw [h]
  exact fun θ' N' H' v _ _ r => r
end DL

namespace DL
open PySem PySem.Spec L2 TL

/-! ## tables, entry by entry -/
theorem all_nil {α : Type} {P : α → Prop} : ∀ p ∈ ([] : List α), P p := fun _ h => by cases h
theorem all_cons {α : Type} {P : α → Prop} {a : α} {l : List α} (h : P a) (r : ∀ p ∈ l, P p) : ∀ p ∈ a :: l, P p := fun p hp => (List.mem_cons.mp hp).elim (fun e => e ▸ h) (r p)
section
variable {K : PySem.W.Frag} {c x : Str} {b : Bool} {rel : List (Str × Bool)}
theorem relE_nil {v : Value} : RelE K v [] := all_nil
theorem relE_cons (h : (He.Fa.exm c x b).ok K = true) (r : RelE K (.ref (He.ga K x)) rel) : RelE K (.ref (He.ga K x)) ((c, b) :: rel) := all_cons (He.exm_ok h) r
theorem relK_nil {v : Value} : RelK K v [] := all_nil
theorem relK_own (h0 : ckExc c K = true) (h : ckKit c (.glo x) b K = true) (r : RelK K (.ref (He.ga K x)) rel) : RelK K (.ref (He.ga K x)) ((c, b) :: rel) := all_cons ⟨exc_ok h0, of_decide_eq_true h⟩ r
theorem relK_ty {n : String} (h0 : ckExc c K = true) (h : ckKit c (.ty n) b K = true) (r : RelK K (.type n) rel) : RelK K (.type n) ((c, b) :: rel) := all_cons ⟨exc_ok h0, of_decide_eq_true h⟩ r
theorem relT_nil {us : List Value} : RelT K us [] := all_nil
/-- a tuple of own classes -/
def ckAny (c : Str) (xs : List Str) (b : Bool) : Ck := fun K => decide (PySem.W.kitAny K (.ref (He.ga K c)) (xs.map fun x => .ref (He.ga K x)) = some b)
theorem relT_cons {xs : List Str} (h0 : ckExc c K = true) (h : ckAny c xs b K = true) (r : RelT K (xs.map fun x => .ref (He.ga K x)) rel) : RelT K (xs.map fun x => .ref (He.ga K x)) ((c, b) :: rel) := all_cons ⟨exc_ok h0, of_decide_eq_true h⟩ r
def ckTys (x : Str) : Ck := fun K => tyNames.all fun t => decide (PySem.W.kitOne K (.type t) (.ref (He.ga K x)) = some false)
theorem ownK_of (h : ckTys x K = true) (r : ∀ p ∈ rel, InsC K p.1 ∧ PySem.W.kitOne K (.ref (He.ga K p.1)) (.ref (He.ga K x)) = some p.2) : OwnK K x rel := ⟨fun t ht => of_decide_eq_true (List.all_eq_true.mp h t ht), r⟩
theorem own_cons (h0 : ckIns c K = true) (h : ckKit c (.glo x) b K = true) (r : ∀ p ∈ rel, InsC K p.1 ∧ PySem.W.kitOne K (.ref (He.ga K p.1)) (.ref (He.ga K x)) = some p.2) : ∀ p ∈ (c, b) :: rel, InsC K p.1 ∧ PySem.W.kitOne K (.ref (He.ga K p.1)) (.ref (He.ga K x)) = some p.2 :=
  all_cons ⟨ins_ok h0, of_decide_eq_true h⟩ r
end
theorem meth_of {X : Cx} {CX : CXT} {k j : Nat} {mname c : Str} {m : MF} {dds : List D} {f : Addr} {fd : FuncData} {ps : List Str} {dvs : List V} (cl : Cls X.K (He.ga X.K c)) (me : Meth X.K (He.ga X.K c) mname f) (F : FnOk X.prog X.w X.K X.mg X.base CX k f fd ps (spM X.K (j + 1 + dds.length) m)) (hb : ∃ ds, Vals dvs ds ∧ Binds X.K fd ps ds)
    (hd : ∀ θ N, Reps X.K θ N dds dvs) : MethOk X CX k mname c m j dds := by
  obtain ⟨ds, h1, h2⟩ := hb
  exact ⟨f, fd, ps, dvs, ds, cl, me, F, h2, h1, hd⟩
/-! ## the head's facts at hand -/
structure Zz (cs : List Ck) (fn : List He.DefD) (K : PySem.W.Frag) (mg : Str → Option Value) (fds : Nat → FuncData) : Prop where
  c : SaysX cs fn K
  g : ∃ h, K.In h ∧ h.Ns mainGlobals mg
  d : ∀ (i : Nat) (d : He.DefD), fn[i]? = some d → FunD K d.name d.qual d.params d.body d.scope (d.dvs K) (d.kws K) (He.fAd K d.at_) (fds i)
section
variable {cs : List Ck} {fn : List He.DefD} {K : PySem.W.Frag} {mg : Str → Option Value} {fds : Nat → FuncData}
theorem zz_of {h : Heap} (X : K.In h) (G : h.Ns mainGlobals mg) (c : SaysX cs fn K) : ∃ fds, Zz cs fn K mg fds := by
  have each : ∀ i : Nat, ∃ fd : FuncData, ∀ d : He.DefD, fn[i]? = some d → FunD K d.name d.qual d.params d.body d.scope (d.dvs K) (d.kws K) (He.fAd K d.at_) fd := fun i => by
    cases e : fn[i]? with
    | none => exact ⟨default, fun d q => by cases q⟩
    | some d =>
      obtain ⟨fd, F⟩ := c.def_ i e
      exact ⟨fd, fun d' q => by cases q; exact F⟩
  obtain ⟨fds, hf⟩ := Classical.skolem.mp each
  exact ⟨fds, c, ⟨h, X, G⟩, hf⟩
theorem Zz.glo (z : Zz cs fn K mg fds) (i : Nat) {x : Str} (h : cs[i]? = some (ckF (.glo x)) := by rfl) : mg x = some (.ref (He.ga K x)) := by
  obtain ⟨_, X, G⟩ := z.g
  exact He.glo_ok X G (z.c.ck i h)
theorem Zz.free (z : Zz cs fn K mg fds) (i : Nat) {x : Str} (h : cs[i]? = some (ckF (.free x)) := by rfl) : mg x = none := by
  obtain ⟨_, X, G⟩ := z.g
  exact He.free_ok X G (z.c.ck i h)
theorem Zz.int (z : Zz cs fn K mg fds) (i : Nat) {x : Str} {n : Int} (h : cs[i]? = some (ckF (.int x n)) := by rfl) : ∃ t, mg x = some (.int n t) := by
  obtain ⟨_, X, G⟩ := z.g
  exact He.int_ok X G (z.c.ck i h)
theorem Zz.str (z : Zz cs fn K mg fds) (i : Nat) {x y : Str} (h : cs[i]? = some (ckF (.str x y)) := by rfl) : ∃ t, mg x = some (.str y t) := by
  obtain ⟨_, X, G⟩ := z.g
  exact He.str_ok X G (z.c.ck i h)
end
/-- a class's def -/
def inCls (s : Stmt) (j : Nat) : Stmt := match s with
  | .ClassDef _ _ _ b _ _ _ _ _ _ _ => b.getD j (.Pass ⟨0, 0, 0, 0⟩)
  | _ => .Pass ⟨0, 0, 0, 0⟩
end DL
namespace DL
open PySem PySem.Spec L2 TL
/-- an exception of a call, at any world -/
def CXw (P : Program) : CXT := fun outer H s E u s' => ∃ w : World, L2.CX P w outer H s E u s'
theorem fn_w {P : Program} {w : World} {K : PySem.W.Frag} {mg : Str → Option Value} {base : Heap} {k : Nat} {f : Addr} {fd : FuncData} {ps : List Str} {sp : Sp} (F : FnOk P w K mg base (L2.CX P w) k f fd ps sp) : FnOk P w K mg base (CXw P) k f fd ps sp :=
  ⟨F.len, fun A outer s H args us vs Q E hr he hb hv hs => codeAny_mono (F.run A outer s H args us vs Q E hr he hb hv hs) fun r s' q => by
    cases r with
    | error e => exact ⟨w, q⟩
    | ok fl => cases fl <;> exact q⟩
theorem cxw_none {P : Program} {H : Hp} {s : Shared} {e : Value} {s' : Shared} (h : CXw P [] H s (fun _ _ _ => False) e s') : False := by
  obtain ⟨w, _, _, _, _, _, _, _, _, _, _, _, _, q⟩ := h
  exact q
end DL

namespace DL
open PySem PySem.Spec L2 TL

/-! ## mirrors are run: equations whose right sides go on only from what is known -/
def kBind {α β : Type} (k : α → DEnv → Store → Res β) (r : Res α) : Res β := r.bind k
def kVar (ρ : DEnv) (S : Store) : Option (Option Slot) → Res D
  | some (some (.val d)) => .ok d ρ S
  | _ => .bad
def kFrz (i : Nat) (ρ : DEnv) (S : Store) : Option (Option Slot) → Res D
  | some (some (.val d)) => .ok d ρ S
  | some (some (.own (.lst xs))) => .ok (.lst xs) (ρ.set i (some (.val (.lst xs)))) S
  | _ => .bad
def kO {α : Type} (ρ : DEnv) (S : Store) (o : Option α) : Res α := Res.ofO o ρ S
def kBin2 (f : Store → D → D → Option D) (a : D) : Res D → Res D := kBind fun b ρ S => kO ρ S (f S a b)
def kBin (f : Store → D → D → Option D) (mb : M D) : Res D → Res D := kBind fun a ρ S => kBin2 f a (mb ρ S)
def kSeq (b : M Ctl) : Res Ctl → Res Ctl
  | .ok .next ρ S => b ρ S
  | r => r
def kTest : Res D → Res Bool := kBind fun d ρ S => match d with
  | .bl b => .ok b ρ S
  | _ => .bad
def kIf {α : Type} (a b : M α) : Res Bool → Res α := kBind fun c ρ S => match c with
  | true => a ρ S
  | false => b ρ S
def kFn : Res Ctl → Res D
  | .ok (.ret d) _ S' => .ok d [] S'
  | .ok .next _ S' => .ok .non [] S'
  | .ok _ _ _ => .bad
  | .exc c ns xs _ S' => .exc c ns xs [] S'
  | .bad => .bad
def kBack (ρ : DEnv) : Res D → Res D
  | .ok d _ S => .ok d ρ S
  | .exc c ns xs _ S => .exc c ns xs ρ S
  | .bad => .bad
def kCall (m : MF) (dds : List D) : Res (List D) → Res D := kBind fun ds ρ S => kBack ρ (m (ds ++ dds) S)
def kBln : Bool → D → Res D → Res D
  | _, _, r => r
def kAnd (mb : M D) : Res D → Res D := kBind fun d ρ S => match d with
  | .bl true => mb ρ S
  | .bl false => .ok (.bl false) ρ S
  | _ => .bad
def kOr (mb : M D) : Res D → Res D := kBind fun d ρ S => match d with
  | .bl true => .ok (.bl true) ρ S
  | .bl false => mb ρ S
  | _ => .bad
def kNot : Res D → Res D := kBind fun d ρ S => match d with
  | .bl b => .ok (.bl !b) ρ S
  | _ => .bad
def kTAnd (mb : M Bool) : Res Bool → Res Bool := kBind fun c ρ S => match c with
  | true => mb ρ S
  | false => .ok false ρ S
def kTOr (mb : M Bool) : Res Bool → Res Bool := kBind fun c ρ S => match c with
  | true => .ok true ρ S
  | false => mb ρ S
def kChain1 (f f' : Store → D → D → Option D) (b : D) (mc : M D) (ρ : DEnv) (S : Store) : Option D → Res D
  | some (.bl true) => kBind (fun c ρ3 S3 => kO ρ3 S3 (f' S3 b c)) (mc ρ S)
  | some (.bl false) => .ok (.bl false) ρ S
  | _ => .bad
def kNeg : Res D → Res D := kBind fun d ρ S => match d with
  | .int i => .ok (.int (-i)) ρ S
  | _ => .bad
def kPart : Res D → Res (Option Int) := kBind fun d ρ S => match d with
  | .int i => .ok (some i) ρ S
  | _ => .bad
def kTup : Res (List D) → Res D := kBind fun ds ρ S => if ds.length ≤ sizeLine then .ok (.tup ds) ρ S else .bad
def kSml : Res (List D) → Res (List D) := kBind fun ds ρ S => if ds.length ≤ sizeLine then .ok ds ρ S else .bad
def kGet (k : M Ctl) : Res Unit → Res Ctl
  | .ok _ ρ S => k ρ S
  | _ => .bad
def kStep (g : MG) (mb : M Ctl) (r : List D) : Res Ctl → Res Ctl
  | .ok .next ρ S => mForL g mb r ρ S
  | .ok .cont ρ S => mForL g mb r ρ S
  | .ok .brk ρ S => .ok .next ρ S
  | x => x
def kMt1 (f : Store → D → D → Option D) (mb : M D) : Res D → Res D := kBind fun a ρ S => match a with
  | .str x => kBind (fun b ρ2 S2 => kO ρ2 S2 (f S2 (.str x) b)) (mb ρ S)
  | _ => .bad
def kRange : Res (List D) → Res (List D) := kBind fun ds ρ S => match ds with
  | [.int j] => if j < 2 ^ 62 ∧ -(2 ^ 62) ≤ j then .ok ((List.range j.toNat).map fun i => .int (i : Nat)) ρ S else .bad
  | _ => .bad
section
variable {α β : Type} {a b d x y z : D} {ds : List D} {ρ ρ1 : DEnv} {S S1 : Store} {i j : Nat} {f f' : Store → D → D → Option D} {ma mb mc m mo me mk : M D} {ms : M (List D)} {na nb : M Bool} {sa sb : M Ctl} {c : Str} {ns : List Str} {xs : List D}
theorem kBind_ok {k : α → DEnv → Store → Res β} {v : α} : kBind k (.ok v ρ S) = k v ρ S := rfl
theorem kBind_exc {k : α → DEnv → Store → Res β} : kBind k (.exc c ns xs ρ S) = .exc c ns xs ρ S := rfl
theorem kO_some {v : α} : kO ρ S (some v) = .ok v ρ S := rfl
theorem kO_if {p : Prop} [Decidable p] {v : α} (h : p) {w : Option α} : kO ρ S (if p then some v else w) = .ok v ρ S := by rw [if_pos h]; rfl
theorem kVar_val : kVar ρ S (some (some (.val d))) = .ok d ρ S := rfl
theorem kFrz_val : kFrz i ρ S (some (some (.val d))) = .ok d ρ S := rfl
theorem kFrz_own : kFrz i ρ S (some (some (.own (.lst xs)))) = .ok (.lst xs) (ρ.set i (some (.val (.lst xs)))) S := rfl
theorem kSeq_next : kSeq sb (.ok .next ρ S) = sb ρ S := rfl
theorem kSeq_ret : kSeq sb (.ok (.ret d) ρ S) = .ok (.ret d) ρ S := rfl
theorem kSeq_brk : kSeq sb (.ok .brk ρ S) = .ok .brk ρ S := rfl
theorem kSeq_cont : kSeq sb (.ok .cont ρ S) = .ok .cont ρ S := rfl
theorem kSeq_exc : kSeq sb (.exc c ns xs ρ S) = .exc c ns xs ρ S := rfl
theorem kTest_bl {b : Bool} : kTest (.ok (.bl b) ρ S) = .ok b ρ S := rfl
theorem kTest_exc : kTest (.exc c ns xs ρ S) = .exc c ns xs ρ S := rfl
theorem kIf_true {u v : M α} : kIf u v (.ok true ρ S) = u ρ S := rfl
theorem kIf_false {u v : M α} : kIf u v (.ok false ρ S) = v ρ S := rfl
theorem kIf_exc {u v : M α} : kIf u v (.exc c ns xs ρ S) = .exc c ns xs ρ S := rfl
theorem kFn_ret : kFn (.ok (.ret d) ρ S) = .ok d [] S := rfl
theorem kFn_next : kFn (.ok .next ρ S) = .ok .non [] S := rfl
theorem kFn_exc : kFn (.exc c ns xs ρ S) = .exc c ns xs [] S := rfl
theorem kBack_ok : kBack ρ (.ok d ρ1 S) = .ok d ρ S := rfl
theorem kBack_exc : kBack ρ (.exc c ns xs ρ1 S) = .exc c ns xs ρ S := rfl
theorem kAnd_t : kAnd mb (.ok (.bl true) ρ S) = mb ρ S := rfl
theorem kAnd_f : kAnd mb (.ok (.bl false) ρ S) = .ok (.bl false) ρ S := rfl
theorem kOr_t : kOr mb (.ok (.bl true) ρ S) = .ok (.bl true) ρ S := rfl
theorem kOr_f : kOr mb (.ok (.bl false) ρ S) = mb ρ S := rfl
theorem kNot_bl {b : Bool} : kNot (.ok (.bl b) ρ S) = .ok (.bl !b) ρ S := rfl
theorem kTAnd_t : kTAnd nb (.ok true ρ S) = nb ρ S := rfl
theorem kTAnd_f : kTAnd nb (.ok false ρ S) = .ok false ρ S := rfl
theorem kTOr_t : kTOr nb (.ok true ρ S) = .ok true ρ S := rfl
theorem kTOr_f : kTOr nb (.ok false ρ S) = nb ρ S := rfl
theorem kTAnd_exc : kTAnd nb (.exc c ns xs ρ S) = .exc c ns xs ρ S := rfl
theorem kTOr_exc : kTOr nb (.exc c ns xs ρ S) = .exc c ns xs ρ S := rfl
theorem kChain_t : kChain1 f f' b mc ρ S (some (.bl true)) = kBind (fun c ρ3 S3 => kO ρ3 S3 (f' S3 b c)) (mc ρ S) := rfl
theorem kChain_f : kChain1 f f' b mc ρ S (some (.bl false)) = .ok (.bl false) ρ S := rfl
theorem kNeg_int {n : Int} : kNeg (.ok (.int n) ρ S) = .ok (.int (-n)) ρ S := rfl
theorem kPart_int {n : Int} : kPart (.ok (.int n) ρ S) = .ok (some n) ρ S := rfl
theorem kTup_ok (h : ds.length ≤ 1000) : kTup (.ok ds ρ S) = .ok (.tup ds) ρ S := by
  show (if ds.length ≤ sizeLine then (Res.ok (D.tup ds) ρ S : Res D) else .bad) = _
  rw [if_pos (by rw [sizeLine_eq]; omega)]
theorem kSml_ok (h : ds.length ≤ 1000) : kSml (.ok ds ρ S) = .ok ds ρ S := by
  show (if ds.length ≤ sizeLine then (Res.ok ds ρ S : Res (List D)) else .bad) = _
  rw [if_pos (by rw [sizeLine_eq]; omega)]
theorem kGet_ok {k : M Ctl} : kGet k (.ok () ρ S) = k ρ S := rfl
theorem kStep_next {g : MG} {r : List D} : kStep g sb r (.ok .next ρ S) = mForL g sb r ρ S := rfl
theorem kStep_cont {g : MG} {r : List D} : kStep g sb r (.ok .cont ρ S) = mForL g sb r ρ S := rfl
theorem kStep_brk {g : MG} {r : List D} : kStep g sb r (.ok .brk ρ S) = .ok .next ρ S := rfl
theorem kStep_ret {g : MG} {r : List D} : kStep g sb r (.ok (.ret d) ρ S) = .ok (.ret d) ρ S := rfl
theorem kStep_exc {g : MG} {r : List D} : kStep g sb r (.exc c ns xs ρ S) = .exc c ns xs ρ S := rfl
theorem kMt1_str {u : List Nat} : kMt1 f mb (.ok (.str u) ρ S) = kBind (fun b ρ2 S2 => kO ρ2 S2 (f S2 (.str u) b)) (mb ρ S) := rfl
theorem kRange_int {n : Int} (h : n < 2 ^ 62) (h2 : -(2 ^ 62) ≤ n) : kRange (.ok [.int n] ρ S) = .ok ((List.range n.toNat).map fun i => .int (i : Nat)) ρ S := by
  show (if n < 2 ^ 62 ∧ -(2 ^ 62) ≤ n then Res.ok ((List.range n.toNat).map fun i => D.int (i : Nat)) ρ S else .bad) = _
  rw [if_pos ⟨h, h2⟩]
/-! ### the combinators -/
theorem r_c : mC d ρ S = .ok d ρ S := rfl
theorem r_var : mVar i ρ S = kVar ρ S ρ[i]? := rfl
theorem r_frz : mFrz i ρ S = kFrz i ρ S ρ[i]? := rfl
theorem r_bin : mBin f ma mb ρ S = kBin f mb (ma ρ S) := rfl
theorem r_kbin_ok : kBin f mb (.ok a ρ S) = kBin2 f a (mb ρ S) := rfl
theorem r_kbin2_ok : kBin2 f a (.ok b ρ S) = kO ρ S (f S a b) := rfl
theorem r_kbin_exc : kBin f mb (.exc c ns xs ρ S) = .exc c ns xs ρ S := rfl
theorem r_kbin2_exc : kBin2 f a (.exc c ns xs ρ S) = .exc c ns xs ρ S := rfl
theorem r_test : mTest m ρ S = kTest (m ρ S) := rfl
theorem r_chain : mChain f f' ma mb mc ρ S = kBind (fun a ρ1 S1 => kBind (fun b ρ2 S2 => kChain1 f f' b mc ρ2 S2 (f S2 a b)) (mb ρ1 S1)) (ma ρ S) := by
  unfold mChain kBind
  refine congrArg _ (funext fun a => funext fun ρ1 => funext fun S1 => congrArg _ (funext fun b => funext fun ρ2 => funext fun S2 => ?_))
  cases e : f S2 a b with
  | none => rfl
  | some d =>
    cases d with
    | bl c => cases c <;> rfl
    | _ => rfl
theorem r_tand : mTAnd na nb ρ S = kTAnd nb (na ρ S) := rfl
theorem r_tor : mTOr na nb ρ S = kTOr nb (na ρ S) := rfl
theorem r_tnot : mTNot na ρ S = kBind (fun c ρ1 S1 => .ok (!c) ρ1 S1) (na ρ S) := rfl
theorem r_and : mAnd ma mb ρ S = kAnd mb (ma ρ S) := rfl
theorem r_or : mOr ma mb ρ S = kOr mb (ma ρ S) := rfl
theorem r_not : mNot m ρ S = kNot (m ρ S) := rfl
theorem r_ifE : mIf na ma mb ρ S = kIf ma mb (na ρ S) := rfl
theorem r_nil : mNil ρ S = .ok [] ρ S := rfl
theorem r_cons : mCons m ms ρ S = kBind (fun d ρ1 S1 => kBind (fun ds ρ2 S2 => .ok (d :: ds) ρ2 S2) (ms ρ1 S1)) (m ρ S) := rfl
theorem r_tup : mTup ms ρ S = kTup (ms ρ S) := rfl
theorem r_lst : mLst ms ρ S = kBind (fun ds ρ1 S1 => .ok (.lst ds) ρ1 S1) (ms ρ S) := rfl
theorem r_sml : mSml ms ρ S = kSml (ms ρ S) := rfl
theorem r_callB {g : Store → List D → Option D} : mCallB g ms ρ S = kBind (fun ds ρ1 S1 => kO ρ1 S1 (g S1 ds)) (ms ρ S) := rfl
theorem r_call {mf : MF} {dds : List D} : mCall mf dds ms ρ S = kCall mf dds (ms ρ S) := by
  unfold mCall kCall kBind
  refine congrArg _ (funext fun ds => funext fun ρ1 => funext fun S1 => ?_)
  cases mf (ds ++ dds) S1 <;> rfl
theorem r_kcall {mf : MF} {dds : List D} : kCall mf dds (.ok ds ρ S) = kBack ρ (mf (ds ++ dds) S) := rfl
theorem r_isi {n : String} : mIsi n m ρ S = kBind (fun d ρ1 S1 => kO ρ1 S1 ((tyD S1 d).map fun t => .bl (isiTab t n))) (m ρ S) := rfl
theorem r_isO {rel : List (Str × Bool)} : mIsO rel m ρ S = kBind (fun d ρ1 S1 => kO ρ1 S1 ((ownD rel S1 d).map D.bl)) (m ρ S) := rfl
theorem r_neg : mNeg m ρ S = kNeg (m ρ S) := rfl
theorem r_part : mPart m ρ S = kPart (m ρ S) := rfl
theorem r_nopart : mNoPart ρ S = .ok none ρ S := rfl
theorem r_slcA {nl nh : M (Option Int)} : mSlcA m nl nh ρ S = kBind (fun d ρ1 S1 => kBind (fun l ρ2 S2 => kBind (fun h ρ3 S3 => kO ρ3 S3 (dSlcA S3 d l h)) (nh ρ2 S2)) (nl ρ1 S1)) (m ρ S) := rfl
theorem r_mt1 : mMt1 f ma mb ρ S = kMt1 f mb (ma ρ S) := by
  unfold mMt1 kMt1 kBind
  refine congrArg _ (funext fun a => funext fun ρ1 => funext fun S1 => ?_)
  cases a <;> rfl
theorem r_list : mList ms ρ S = kBind (fun ds ρ1 S1 => match ds with
  | [x] => kO ρ1 S1 (seqOf S1 x)
  | _ => .bad) (ms ρ S) := rfl
theorem r_seq : mSeq sa sb ρ S = kSeq sb (sa ρ S) := by unfold mSeq kSeq; cases sa ρ S with
  | ok a ρ S => cases a <;> rfl
  | _ => rfl
theorem r_next : mNext ρ S = .ok .next ρ S := rfl
theorem r_break : mBreak ρ S = .ok .brk ρ S := rfl
theorem r_cont : mCont ρ S = .ok .cont ρ S := rfl
theorem r_ret : mRet m ρ S = kBind (fun d ρ1 S1 => .ok (.ret d) ρ1 S1) (m ρ S) := rfl
theorem r_drop : mDrop m ρ S = kBind (fun _ ρ1 S1 => .ok .next ρ1 S1) (m ρ S) := rfl
theorem r_ifS : mIfS na sa sb ρ S = kIf sa sb (na ρ S) := rfl
theorem r_set : mSet i m ρ S = kBind (fun d ρ1 S1 => .ok .next (ρ1.set i (some (.val d))) S1) (m ρ S) := rfl
theorem r_setOwn : mSetOwn i ms ρ S = kBind (fun ds ρ1 S1 => .ok .next (ρ1.set i (some (.own (.lst ds)))) S1) (ms ρ S) := rfl
theorem r_its : mIts m ρ S = kBind (fun d ρ1 S1 => kO ρ1 S1 (itsOf d)) (m ρ S) := rfl
theorem r_range : mRange1 ms ρ S = kRange (ms ρ S) := by
  unfold mRange1 kRange kBind
  refine congrArg _ (funext fun ds => funext fun ρ1 => funext fun S1 => ?_)
  rfl
theorem r_for {mi : M (List D)} {g : MG} : mFor mi g sb ρ S = kBind (fun its ρ1 S1 => mForL g sb its ρ1 S1) (mi ρ S) := rfl
theorem r_forNil {g : MG} : mForL g sb [] ρ S = .ok .next ρ S := rfl
theorem r_forCons {g : MG} {r : List D} : mForL g sb (d :: r) ρ S = kGet (fun ρ S => kStep g sb r (sb ρ S)) (g d ρ S) := by
  show (match g d ρ S with
    | .ok _ ρ1 S1 => (match sb ρ1 S1 with
      | .ok .next ρ2 S2 => mForL g sb r ρ2 S2
      | .ok .cont ρ2 S2 => mForL g sb r ρ2 S2
      | .ok .brk ρ2 S2 => .ok .next ρ2 S2
      | x => x)
    | _ => .bad) = _
  cases g d ρ S with
  | ok u ρ1 S1 =>
    show _ = kStep g sb r (sb ρ1 S1)
    simp only
    cases sb ρ1 S1 with
    | ok a ρ2 S2 => cases a <;> rfl
    | _ => rfl
  | _ => rfl
theorem r_gN : gN i d ρ S = .ok () (ρ.set i (some (.val d))) S := rfl
theorem r_gsNil : gsNil [] ρ S = .ok () ρ S := rfl
theorem r_raise : mRaise c ρ S = .exc c [] [] ρ S := rfl
theorem r_fn {n : Nat} : fnM n sb ds S = kFn (sb (startD n ds) S) := by
  unfold fnM kFn
  cases sb (startD n ds) S with
  | ok a ρ S => cases a <;> rfl
  | _ => rfl
end
/-! ### operators -/
section
variable {S : Store} {i j : Int} {x y : List Nat} {xs ys : List D} {b : Bool} {d : D}
theorem v_addI : dAdd S (.int i) (.int j) = some (.int (i + j)) := rfl
theorem v_addS (h : x.length + y.length ≤ 16777216) : dAdd S (.str x) (.str y) = some (.str (x ++ y)) := if_pos (by rw [sizeLine_eq]; omega)
theorem v_addL (h : xs.length + ys.length ≤ 16777216) : dAdd S (.lst xs) (.lst ys) = some (.lst (xs ++ ys)) := if_pos (by rw [sizeLine_eq]; omega)
theorem v_sub : dSub S (.int i) (.int j) = some (.int (i - j)) := rfl
theorem v_mulL (h : -18446744073709551616 < i) (h2 : i < 18446744073709551616) : dMulI S (.int i) (.int j) = some (.int (i * j)) := by
  show (if (decide (-(2 ^ 64) < i ∧ i < 2 ^ 64) || decide (-(2 ^ 64) < j ∧ j < 2 ^ 64)) = true then _ else _) = _
  rw [decide_eq_true (show -(2 ^ 64) < i ∧ i < 2 ^ 64 from ⟨by omega, by omega⟩), Bool.true_or, if_pos rfl]
theorem v_mulR (h : -18446744073709551616 < j) (h2 : j < 18446744073709551616) : dMulI S (.int i) (.int j) = some (.int (i * j)) := by
  show (if (decide (-(2 ^ 64) < i ∧ i < 2 ^ 64) || decide (-(2 ^ 64) < j ∧ j < 2 ^ 64)) = true then _ else _) = _
  rw [decide_eq_true (show -(2 ^ 64) < j ∧ j < 2 ^ 64 from ⟨by omega, by omega⟩), Bool.or_true, if_pos rfl]
theorem v_fdiv (h : 0 < j) (h2 : j < 1073741824) : dFdiv S (.int i) (.int j) = some (.int (i / j)) := if_pos (decide_eq_true ⟨h, h2⟩)
theorem v_mod (h : 0 < j) : dMod S (.int i) (.int j) = some (.int (i % j)) := if_pos (decide_eq_true h)
theorem v_pow (h : 0 ≤ j) (h2 : j ≤ 1000000) (h3 : i.natAbs < 18446744073709551616) : dPow S (.int i) (.int j) = some (.int (i ^ j.toNat)) := if_pos (decide_eq_true ⟨h, h2, h3⟩)
theorem v_lt : dLt S (.int i) (.int j) = some (.bl (decide (i < j))) := rfl
theorem v_le : dLe S (.int i) (.int j) = some (.bl (decide (i ≤ j))) := rfl
theorem v_gt : dGt S (.int i) (.int j) = some (.bl (decide (j < i))) := rfl
theorem v_ge : dGe S (.int i) (.int j) = some (.bl (decide (j ≤ i))) := rfl
theorem v_eqI : dEq S (.int i) (.int j) = some (.bl (decide (i = j))) := rfl
theorem v_neI : dNe S (.int i) (.int j) = some (.bl (!decide (i = j))) := rfl
theorem mkS_inj : mkS x = mkS y ↔ x = y := ⟨fun h => by rw [← tl_mk x, ← tl_mk y, h], fun h => by rw [h]⟩
theorem v_eqS : dEq S (.str x) (.str y) = some (.bl (decide (x = y))) := by
  show some (D.bl (PyData.eqv (.str (mkS x)) (.str (mkS y)))) = _
  congr 2
  show decide (mkS x = mkS y) = _
  exact decide_eq_decide.mpr mkS_inj
theorem v_neS : dNe S (.str x) (.str y) = some (.bl (!decide (x = y))) := by
  show some (D.bl (!PyData.eqv (.str (mkS x)) (.str (mkS y)))) = _
  congr 3
  show decide (mkS x = mkS y) = _
  exact decide_eq_decide.mpr mkS_inj
theorem v_inS {c : Nat} : dIn S (.str [c]) (.str x) = some (.bl (decide (c ∈ x))) := rfl
theorem v_notInS {c : Nat} : dNotIn S (.str [c]) (.str x) = some (.bl (!decide (c ∈ x))) := rfl
theorem v_isNon : dIs S d .non = some (.bl (isNonD d)) := rfl
theorem v_isBl {c : Bool} : dIs S (.bl b) (.bl c) = some (.bl (decide (b = c))) := rfl
theorem v_isNotNon : dIsNot S d .non = some (.bl !(isNonD d)) := rfl
theorem v_isNotBl {c : Bool} : dIsNot S (.bl b) (.bl c) = some (.bl (!decide (b = c))) := rfl
theorem v_lenS (h : x.length ≤ 16777216) : dLen S [.str x] = some (.int x.length) := if_pos (by rw [sizeLine_eq]; omega)
theorem v_lenT : dLen S [.tup xs] = some (.int xs.length) := rfl
theorem v_lenL : dLen S [.lst xs] = some (.int xs.length) := rfl
theorem v_lenC : dLen S [.scr xs] = some (.int xs.length) := rfl
theorem v_intB : dInt S [.bl b] = some (.int (if b then 1 else 0)) := rfl
theorem v_intI : dInt S [.int i] = some (.int i) := rfl
theorem v_str (h : i.natAbs.log2 < 1920) : dStr S [.int i] = some (.str (strI i)) := if_pos h
theorem v_itsL : itsOf (.lst xs) = some xs := rfl
theorem v_itsT : itsOf (.tup xs) = some xs := rfl
theorem v_itsC : itsOf (.scr xs) = some xs := rfl
theorem v_itsS : itsOf (.str x) = some (x.map fun c => .str [c]) := rfl
theorem v_ixL : dIx S (.lst xs) (.int i) = atI xs i := rfl
theorem v_ixC : dIx S (.scr xs) (.int i) = atI xs i := rfl
theorem v_ixT : dIx S (.tup xs) (.int i) = atI xs i := rfl
theorem v_ixS (h : x.length ≤ 16777216) : dIx S (.str x) (.int i) = (atI x i).map fun c => .str [c] := if_pos (by rw [sizeLine_eq]; omega)
end
/-! ### all of them -/
section
variable {α : Type} {a b : α} {l : List α} {n : Nat} {x : Option (Option Slot)}
theorem z_get0 : (a :: l)[0]? = some a := rfl
theorem z_getS : (a :: l)[n + 1]? = l[n]? := rfl
theorem z_set0 : (a :: l).set 0 b = b :: l := rfl
theorem z_setS : (a :: l).set (n + 1) b = a :: l.set n b := rfl
theorem z_map0 {β : Type} {f : α → β} : ([] : List α).map f = [] := rfl
theorem z_mapS {β : Type} {f : α → β} : (a :: l).map f = f a :: l.map f := rfl
theorem z_nilA : [] ++ l = l := rfl
theorem z_consA {m : List α} : (a :: l) ++ m = a :: (l ++ m) := rfl
theorem z_Anil : l ++ [] = l := List.append_nil l
theorem z_len0 : ([] : List α).length = 0 := rfl
theorem z_lenS : (a :: l).length = l.length + 1 := rfl
theorem z_rep0 : List.replicate 0 a = [] := rfl
theorem z_repS : List.replicate (n + 1) a = a :: List.replicate n a := rfl
theorem z_nt : (!true) = false := rfl
theorem z_nf : (!false) = true := rfl
theorem z_om0 {β : Type} {f : α → β} : (none : Option α).map f = none := rfl
theorem z_om1 {β : Type} {f : α → β} : (some a).map f = some (f a) := rfl
theorem z_start {ds : List D} : startD n ds = ds.map (fun d => some (.val d)) ++ List.replicate (n - ds.length) none := rfl
end
def ev := And.intro @kBind_ok <|
  And.intro @kBind_exc <|
  And.intro @kO_some <|
  And.intro @kVar_val <|
  And.intro @kFrz_val <|
  And.intro @kFrz_own <|
  And.intro @kSeq_next <|
  And.intro @kSeq_ret <|
  And.intro @kSeq_brk <|
  And.intro @kSeq_cont <|
  And.intro @kSeq_exc <|
  And.intro @kTest_bl <|
  And.intro @kTest_exc <|
  And.intro @kIf_true <|
  And.intro @kIf_false <|
  And.intro @kIf_exc <|
  And.intro @kFn_ret <|
  And.intro @kFn_next <|
  And.intro @kFn_exc <|
  And.intro @kBack_ok <|
  And.intro @kBack_exc <|
  And.intro @kAnd_t <|
  And.intro @kAnd_f <|
  And.intro @kOr_t <|
  And.intro @kOr_f <|
  And.intro @kNot_bl <|
  And.intro @kTAnd_t <|
  And.intro @kTAnd_f <|
  And.intro @kTOr_t <|
  And.intro @kTOr_f <|
  And.intro @kTAnd_exc <|
  And.intro @kTOr_exc <|
  And.intro @kChain_t <|
  And.intro @kChain_f <|
  And.intro @kNeg_int <|
  And.intro @kPart_int <|
  And.intro @kTup_ok <|
  And.intro @kSml_ok <|
  And.intro @kGet_ok <|
  And.intro @kStep_next <|
  And.intro @kStep_cont <|
  And.intro @kStep_brk <|
  And.intro @kStep_ret <|
  And.intro @kStep_exc <|
  And.intro @kMt1_str <|
  And.intro @kRange_int <|
  And.intro @r_c <|
  And.intro @r_var <|
  And.intro @r_frz <|
  And.intro @r_bin <|
  And.intro @r_kbin_ok <|
  And.intro @r_kbin2_ok <|
  And.intro @r_kbin_exc <|
  And.intro @r_kbin2_exc <|
  And.intro @r_test <|
  And.intro @r_chain <|
  And.intro @r_tand <|
  And.intro @r_tor <|
  And.intro @r_tnot <|
  And.intro @r_and <|
  And.intro @r_or <|
  And.intro @r_not <|
  And.intro @r_ifE <|
  And.intro @r_nil <|
  And.intro @r_cons <|
  And.intro @r_tup <|
  And.intro @r_lst <|
  And.intro @r_sml <|
  And.intro @r_callB <|
  And.intro @r_call <|
  And.intro @r_kcall <|
  And.intro @r_isi <|
  And.intro @r_isO <|
  And.intro @r_neg <|
  And.intro @r_part <|
  And.intro @r_nopart <|
  And.intro @r_slcA <|
  And.intro @r_mt1 <|
  And.intro @r_list <|
  And.intro @r_seq <|
  And.intro @r_next <|
  And.intro @r_break <|
  And.intro @r_cont <|
  And.intro @r_ret <|
  And.intro @r_drop <|
  And.intro @r_ifS <|
  And.intro @r_set <|
  And.intro @r_setOwn <|
  And.intro @r_its <|
  And.intro @r_range <|
  And.intro @r_for <|
  And.intro @r_forNil <|
  And.intro @r_forCons <|
  And.intro @r_gN <|
  And.intro @r_gsNil <|
  And.intro @r_raise <|
  And.intro @r_fn <|
  And.intro @v_addI <|
  And.intro @v_addS <|
  And.intro @v_addL <|
  And.intro @v_sub <|
  And.intro @v_mulL <|
  And.intro @v_mulR <|
  And.intro @v_fdiv <|
  And.intro @v_mod <|
  And.intro @v_pow <|
  And.intro @v_lt <|
  And.intro @v_le <|
  And.intro @v_gt <|
  And.intro @v_ge <|
  And.intro @v_eqI <|
  And.intro @v_neI <|
  And.intro @v_eqS <|
  And.intro @v_neS <|
  And.intro @v_inS <|
  And.intro @v_notInS <|
  And.intro @v_isNon <|
  And.intro @v_isBl <|
  And.intro @v_isNotNon <|
  And.intro @v_isNotBl <|
  And.intro @v_lenS <|
  And.intro @v_lenT <|
  And.intro @v_lenL <|
  And.intro @v_lenC <|
  And.intro @v_intB <|
  And.intro @v_intI <|
  And.intro @v_str <|
  And.intro @v_itsL <|
  And.intro @v_itsT <|
  And.intro @v_itsC <|
  And.intro @v_itsS <|
  And.intro @v_ixL <|
  And.intro @v_ixC <|
  And.intro @v_ixT <|
  And.intro @v_ixS <|
  And.intro @z_get0 <|
  And.intro @z_getS <|
  And.intro @z_set0 <|
  And.intro @z_setS <|
  And.intro @z_map0 <|
  And.intro @z_mapS <|
  And.intro @z_nilA <|
  And.intro @z_consA <|
  And.intro @z_Anil <|
  And.intro @z_len0 <|
  And.intro @z_lenS <|
  And.intro @z_rep0 <|
  And.intro @z_repS <|
  And.intro @z_nt <|
  And.intro @z_nf <|
  And.intro @z_om0 <|
  And.intro @z_om1 <|
  @z_start
end DL

namespace DL
open PySem PySem.Spec L2 TL

/-! ## further mirrors are run -/
def kLcR (ρ : DEnv) : Option (List D × Store) → Res (List D)
  | some (xs, S2) => .ok xs ρ S2
  | none => .bad
def kLc (vs : List Nat) (gm : MG) (tm : M Bool) (me : M D) : Res (List D) → Res (List D) := kBind fun its ρ S => if its.length ≤ sizeLine then kLcR ρ (mLcL gm tm me (wipeD (hideOwn ρ) vs) its S) else .bad
def kTry (cl : List Clause) (me : M Ctl) : Res Ctl → Res Ctl
  | .ok .next ρ S => me ρ S
  | .exc c ns xs ρ S => mCat cl c ns xs ρ S
  | r => r
def kTryRe (rel : List (Str × Bool)) (c' : Str) : Res Ctl → Res Ctl
  | .exc c ns xs ρ S => (match rel.lookup c with
    | some true => .exc c' [] [] ρ S
    | some false => .exc c ns xs ρ S
    | none => .bad)
  | r => r
def kCat (o : Option Nat) (m : M Ctl) (r : List Clause) (c : Str) (ns : List Str) (xs : List D) (ρ : DEnv) (S : Store) : Option Bool → Res Ctl
  | some true => (match o with
    | none => okOnly (m ρ S) fun ρ => ρ
    | some i => okOnly (m ((dropX ρ).set i (some (.exn c ns xs))) S) fun ρ => (dropX ρ).set i none)
  | some false => mCat r c ns xs ρ S
  | none => .bad
def kIsX (rel : List (Str × Bool)) (ρ : DEnv) (S : Store) : Option (Option Slot) → Res D
  | some (some (.exn c _ _)) => kO ρ S ((rel.lookup c).map D.bl)
  | _ => .bad
def kXf (C f : Str) (ρ : DEnv) (S : Store) : Option (Option Slot) → Res D
  | some (some (.exn c ns xs)) => if c = C then kO ρ S (fldL f ns xs) else .bad
  | _ => .bad
def kRaiseX (c : Str) (fs : List Str) : Res (List D) → Res Ctl := kBind fun ds ρ S => if ds.length = fs.length ∧ fs.length ≤ 900 then .exc c fs.reverse ds.reverse ρ S else .bad
def kFld (cs : List Str) (f : Str) : Res D → Res D := kBind fun d ρ S => match d with
  | .obj c ns xs => if c ∈ cs then kO ρ S (fldL f ns xs) else .bad
  | _ => .bad
def kSetF (c f : Str) : Res D → Res Ctl := kBind fun d ρ S => match (ρ[0]? : Option (Option Slot)) with
  | some (some (.own (.ins c' ns xs))) => if c' = c ∧ f ∉ ns ∧ ns.length < 900 then .ok .next (ρ.set 0 (some (.own (.ins c' (ns ++ [f]) (xs ++ [d]))))) S else .bad
  | _ => .bad
def kFnI : Res Ctl → Res D
  | .ok .next ρ S => (match (ρ[0]? : Option (Option Slot)) with
    | some (some (.own (.ins c ns xs))) => .ok (.obj c ns xs) [] S
    | _ => .bad)
  | .ok _ _ _ => .bad
  | .exc c ns xs _ S => .exc c ns xs [] S
  | .bad => .bad
def kMeth (mname : Str) (mt : List (Str × MF)) (dds : List D) (ms : M (List D)) : Res D → Res D := kBind fun d ρ S => match d with
  | .obj c ns xs => if ns.contains mname then .bad else (match mt.lookup c with
    | some m => mCall (fun ds => m (.obj c ns xs :: ds)) dds ms ρ S
    | none => .bad)
  | _ => .bad
def kU (r : Res Unit) : Res Ctl := match r with
  | .ok _ ρ2 S2 => .ok .next ρ2 S2
  | _ => .bad
def kGs (gs : List D → M Unit) (r : List D) : Res Unit → Res Unit
  | .ok _ ρ1 S1 => gs r ρ1 S1
  | _ => .bad
def kSplit2 (ρ : DEnv) (S : Store) : Option (List (List Nat)) → Res (List D)
  | some l => .ok (l.map D.str) ρ S
  | none => .bad
def kSplit (mb : M D) : Res D → Res (List D) := kBind fun x ρ S => match x with
  | .str a => kBind (fun y ρ2 S2 => match y with
    | .str b => kSplit2 ρ2 S2 (dSplit a b)
    | _ => .bad) (mb ρ S)
  | _ => .bad
def kOwn (f : List D → D → Option (List D)) (i : Nat) (d : D) (ρ : DEnv) (S : Store) : Option (Option Slot) → Res Ctl
  | some (some (.own (.lst xs))) => (match f xs d with
    | some ys => .ok .next (ρ.set i (some (.own (.lst ys)))) S
    | none => .bad)
  | _ => .bad
def fApp (xs : List D) (d : D) : Option (List D) := if xs.length < sizeLine then some (xs ++ [d]) else none
def kApp (i : Nat) (m : M D) (ρ : DEnv) (S : Store) : Bool → Res Ctl
  | true => kBind (fun d ρ1 S1 => kOwn fApp i d ρ1 S1 ρ1[i]?) (m ρ S)
  | false => .bad
def kLenSet : Res D → Res D := kBind fun d ρ S => match d with
  | .str x => if x.length ≤ 4000 then .ok (.int (distL x).length) ρ S else .bad
  | _ => .bad
def kSet4 (i : Nat) (d : D) (xs : List D) (ρ : DEnv) (S : Store) : Option Nat → Res Ctl
  | some j => .ok .next (ρ.set i (some (.own (.lst (xs.set j d))))) S
  | none => .bad
def kSet3 (i : Nat) (d k : D) (ρ : DEnv) (S : Store) : Option (Option Slot) → Res Ctl
  | some (some (.own (.lst xs))) => (match k with
    | .int k => kSet4 i d xs ρ S (ixN xs.length k)
    | _ => .bad)
  | _ => .bad
def kSet2 (i : Nat) (mk : M D) (d : D) (ρ : DEnv) (S : Store) : Bool → Res Ctl
  | true => kBind (fun k ρ2 S2 => kSet3 i d k ρ2 S2 ρ2[i]?) (mk ρ S)
  | false => .bad
def hide1 (o : Option Slot) : Option Slot := match o with
  | some (.val d) => some (.val d)
  | _ => none
def drop1 (o : Option Slot) : Option Slot := match o with
  | some (.exn _ _ _) => none
  | y => y
def kLcE (k : Store → Option (List D × Store)) : Res D → Option (List D × Store)
  | .ok x _ S => (k S).map fun p => (x :: p.1, p.2)
  | _ => none
section
variable {α β : Type} {a b d x y z : D} {ds : List D} {ρ ρ1 : DEnv} {S S1 S2 : Store} {i j : Nat} {f f' : Store → D → D → Option D} {ma mb mc m mo me mk : M D} {ms mi : M (List D)} {na nb tm : M Bool} {sa sb : M Ctl} {c c' C fn : Str} {ns : List Str} {xs ys : List D} {rel : List (Str × Bool)} {vs : List Nat} {gm : MG}
theorem r_lc : mLc vs mi gm tm me ρ S = kLc vs gm tm me (mi ρ S) := by
  unfold mLc kLc kBind
  refine congrArg _ (funext fun its => funext fun ρ1 => funext fun S1 => ?_)
  by_cases h : its.length ≤ sizeLine
  · rw [if_pos h, if_pos h]
    cases mLcL gm tm me (wipeD (hideOwn ρ1) vs) its S1 <;> rfl
  · rw [if_neg h, if_neg h]
theorem k_lc (h : ds.length ≤ 16777216) : kLc vs gm tm me (.ok ds ρ S) = kLcR ρ (mLcL gm tm me (wipeD (hideOwn ρ) vs) ds S) := if_pos (by rw [sizeLine_eq]; omega)
theorem r_setIx : mSetIx i mk me ρ S = kBind (fun d ρ1 S1 => kSet2 i mk d ρ1 S1 (isOwnL ρ1 i)) (me ρ S) := by
  unfold mSetIx kBind
  refine congrArg _ (funext fun d => funext fun ρ1 => funext fun S1 => ?_)
  unfold kSet2
  cases isOwnL ρ1 i with
  | false => rfl
  | true =>
    show (mk ρ1 S1).bind _ = (mk ρ1 S1).bind _
    refine congrArg _ (funext fun k => funext fun ρ2 => funext fun S2 => ?_)
    cases (ρ2[i]? : Option (Option Slot)) with
    | none => rfl
    | some o =>
      cases o with
      | none => rfl
      | some sl =>
        cases sl with
        | own c =>
          cases c with
          | lst xs =>
            cases k with
            | int n =>
              show (match ixN xs.length n with
                | some j => Res.ok Ctl.next (ρ2.set i (some (.own (.lst (xs.set j d))))) S2
                | none => .bad) = kSet4 i d xs ρ2 S2 (ixN xs.length n)
              cases ixN xs.length n <;> rfl
            | _ => rfl
          | _ => rfl
        | _ => rfl
theorem k_set2 : kSet2 i mk d ρ S true = kBind (fun k ρ2 S2 => kSet3 i d k ρ2 S2 ρ2[i]?) (mk ρ S) := rfl
theorem k_set3 {n : Int} : kSet3 i d (.int n) ρ S (some (some (.own (.lst xs)))) = kSet4 i d xs ρ S (ixN xs.length n) := rfl
theorem k_set4 : kSet4 i d xs ρ S (some j) = .ok .next (ρ.set i (some (.own (.lst (xs.set j d))))) S := rfl
theorem r_lcNil : mLcL gm tm me ρ [] S = some ([], S) := rfl
theorem r_lcCons : mLcL (gN i) mYes me ρ (d :: ds) S = kLcE (fun S => mLcL (gN i) mYes me ρ ds S) (me (ρ.set i (some (.val d))) S) := by
  show (match me (ρ.set i (some (.val d))) S with
    | .ok x _ S3 => (mLcL (gN i) mYes me ρ ds S3).map fun (p : List D × Store) => (x :: p.1, p.2)
    | _ => none) = _
  cases me (ρ.set i (some (.val d))) S <;> rfl
theorem k_lcE {k : Store → Option (List D × Store)} : kLcE k (.ok x ρ S) = (k S).map fun p => (x :: p.1, p.2) := rfl
theorem k_lcR : kLcR ρ (some (xs, S2)) = .ok xs ρ S2 := rfl
theorem r_try {cl : List Clause} : mTry sa cl sb ρ S = kTry cl sb (sa ρ S) := by
  unfold mTry kTry
  cases sa ρ S with
  | ok a ρ S => cases a <;> rfl
  | _ => rfl
theorem k_tryN {cl : List Clause} : kTry cl sb (.ok .next ρ S) = sb ρ S := rfl
theorem k_tryR {cl : List Clause} : kTry cl sb (.ok (.ret d) ρ S) = .ok (.ret d) ρ S := rfl
theorem k_tryE {cl : List Clause} : kTry cl sb (.exc c ns xs ρ S) = mCat cl c ns xs ρ S := rfl
theorem r_catNil : mCat [] c ns xs ρ S = .exc c ns xs ρ S := rfl
theorem r_catCons {o : Option Nat} {r : List Clause} : mCat ((rel, o, sa) :: r) c ns xs ρ S = kCat o sa r c ns xs ρ S (rel.lookup c) := by
  unfold mCat kCat
  cases rel.lookup c with
  | none => rfl
  | some b => cases b <;> rfl
theorem k_catF {o : Option Nat} {r : List Clause} : kCat o sa r c ns xs ρ S (some false) = mCat r c ns xs ρ S := rfl
theorem k_catT {r : List Clause} : kCat (some i) sa r c ns xs ρ S (some true) = okOnly (sa ((dropX ρ).set i (some (.exn c ns xs))) S) fun ρ => (dropX ρ).set i none := rfl
theorem k_catT0 {r : List Clause} : kCat none sa r c ns xs ρ S (some true) = okOnly (sa ρ S) fun ρ => ρ := rfl
theorem k_okOnly {k : DEnv → DEnv} {t : Ctl} : okOnly (.ok t ρ S) k = .ok t (k ρ) S := rfl
theorem r_tryRe : mTryRe rel c' sa ρ S = kTryRe rel c' (sa ρ S) := by
  unfold mTryRe kTryRe
  cases sa ρ S <;> rfl
theorem k_tryReOk {t : Ctl} : kTryRe rel c' (.ok t ρ S) = .ok t ρ S := rfl
theorem k_tryReT (h : rel.lookup c = some true) : kTryRe rel c' (.exc c ns xs ρ S) = .exc c' [] [] ρ S := by
  unfold kTryRe
  simp only [h]
theorem r_isX : mIsX rel i ρ S = kIsX rel ρ S ρ[i]? := rfl
theorem k_isX : kIsX rel ρ S (some (some (.exn c ns xs))) = kO ρ S ((rel.lookup c).map D.bl) := rfl
theorem r_xf : mXf C fn i ρ S = kXf C fn ρ S ρ[i]? := rfl
theorem k_xf : kXf C fn ρ S (some (some (.exn C ns xs))) = kO ρ S (fldL fn ns xs) := if_pos rfl
theorem r_raiseX {fs : List Str} : mRaiseX c fs ms ρ S = kRaiseX c fs (ms ρ S) := rfl
theorem k_raiseX {fs : List Str} (h : ds.length = fs.length) (h2 : fs.length ≤ 900) : kRaiseX c fs (.ok ds ρ S) = .exc c fs.reverse ds.reverse ρ S := if_pos ⟨h, h2⟩
theorem r_fld {cs : List Str} : mFld cs fn m ρ S = kFld cs fn (m ρ S) := by
  unfold mFld kFld kBind
  refine congrArg _ (funext fun its => funext fun ρ1 => funext fun S1 => ?_)
  cases its <;> rfl
theorem k_fld {cs : List Str} (h : c ∈ cs) : kFld cs fn (.ok (.obj c ns xs) ρ S) = kO ρ S (fldL fn ns xs) := if_pos h
theorem k_fld1 : kFld [c] fn (.ok (.obj c ns xs) ρ S) = kO ρ S (fldL fn ns xs) := if_pos List.mem_cons_self
theorem r_setF : mSetF c fn m ρ S = kSetF c fn (m ρ S) := rfl
theorem k_setF {r : DEnv} (h : ns.contains fn = false) (h2 : ns.length < 900) : kSetF c fn (.ok d (some (.own (.ins c ns xs)) :: r) S) = .ok .next (some (.own (.ins c (ns ++ [fn]) (xs ++ [d]))) :: r) S :=
  if_pos ⟨rfl, (fun q => by
    rw [List.contains_iff_mem.mpr q] at h
    cases h), h2⟩
theorem r_fnI {n : Nat} : fnI n c sb ds S = kFnI (sb (startI n c ds) S) := by
  unfold fnI kFnI
  cases sb (startI n c ds) S with
  | ok a ρ S => cases a <;> rfl
  | _ => rfl
theorem k_fnI {r : DEnv} : kFnI (.ok .next (some (.own (.ins c ns xs)) :: r) S) = .ok (.obj c ns xs) [] S := rfl
theorem k_fnIe : kFnI (.exc c ns xs ρ S) = .exc c ns xs [] S := rfl
theorem r_meth {mn : Str} {mt : List (Str × MF)} {dds : List D} : mMeth mn mt dds mo ms ρ S = kMeth mn mt dds ms (mo ρ S) := by
  unfold mMeth kMeth kBind
  refine congrArg _ (funext fun its => funext fun ρ1 => funext fun S1 => ?_)
  cases its <;> rfl
theorem k_meth {mn : Str} {mt : List (Str × MF)} {mf : MF} {dds : List D} (h : ns.contains mn = false) (h2 : mt.lookup c = some mf) : kMeth mn mt dds ms (.ok (.obj c ns xs) ρ S) = mCall (fun ds => mf (.obj c ns xs :: ds)) dds ms ρ S := by
  show (if ns.contains mn then Res.bad else (match mt.lookup c with
    | some m => mCall (fun ds => m (.obj c ns xs :: ds)) dds ms ρ S
    | none => .bad)) = _
  rw [h, h2]
  rfl
theorem k_meth1 {mn : Str} {mf : MF} {dds : List D} (h : ns.contains mn = false) : kMeth mn [(c, mf)] dds ms (.ok (.obj c ns xs) ρ S) = mCall (fun ds => mf (.obj c ns xs :: ds)) dds ms ρ S := k_meth h (by rw [List.lookup_cons, beq_self_eq_true])
theorem r_asg {g : MG} : mAsg m g ρ S = kBind (fun d ρ1 S1 => kU (g d ρ1 S1)) (m ρ S) := rfl
theorem k_u : kU (.ok () ρ S) = .ok .next ρ S := rfl
theorem r_gsCons {g : MG} {gs : List D → M Unit} : gsCons g gs (d :: ds) ρ S = kGs gs ds (g d ρ S) := by
  show (match g d ρ S with
    | .ok _ ρ1 S1 => gs ds ρ1 S1
    | _ => .bad) = _
  cases g d ρ S <;> rfl
theorem k_gs {gs : List D → M Unit} : kGs gs ds (.ok () ρ S) = gs ds ρ S := rfl
theorem r_gT {n : Nat} {gs : List D → M Unit} (h : ds.length = n) : gT n gs (.tup ds) ρ S = gs ds ρ S := by
  show (if ds.length = n then gs ds ρ S else .bad) = _
  rw [if_pos h]
theorem r_gL {n : Nat} {gs : List D → M Unit} (h : ds.length = n) : gL n gs (.lst ds) ρ S = gs ds ρ S := by
  show (if ds.length = n then gs ds ρ S else .bad) = _
  rw [if_pos h]
theorem r_split : mSplit ma mb ρ S = kSplit mb (ma ρ S) := by
  unfold mSplit kSplit kBind
  refine congrArg _ (funext fun x => funext fun ρ1 => funext fun S1 => ?_)
  cases x with
  | str u =>
    show (mb ρ1 S1).bind _ = (mb ρ1 S1).bind _
    refine congrArg _ (funext fun y => funext fun ρ2 => funext fun S2 => ?_)
    cases y with
    | str v => show Res.ofO ((dSplit u v).map fun l => l.map D.str) ρ2 S2 = kSplit2 ρ2 S2 (dSplit u v); cases dSplit u v <;> rfl
    | _ => rfl
  | _ => rfl
theorem k_split {u v : List Nat} : kSplit (mC (.str v)) (.ok (.str u) ρ S) = kSplit2 ρ S (dSplit u v) := rfl
theorem k_split2 {l : List (List Nat)} : kSplit2 ρ S (some l) = .ok (l.map D.str) ρ S := rfl
theorem r_app : mAppend i m ρ S = kApp i m ρ S (isOwnL ρ i) := by
  unfold mAppend kApp kBind
  cases isOwnL ρ i with
  | false => rfl
  | true =>
    show (m ρ S).bind _ = (m ρ S).bind _
    refine congrArg _ (funext fun d => funext fun ρ1 => funext fun S1 => ?_)
    cases (ρ1[i]? : Option (Option Slot)) with
    | none => rfl
    | some o =>
      cases o with
      | none => rfl
      | some sl =>
        cases sl with
        | own c =>
          cases c with
          | lst xs =>
            show (if xs.length < sizeLine then Res.ok Ctl.next _ _ else .bad) = (match fApp xs d with
              | some ys => Res.ok Ctl.next (ρ1.set i (some (.own (.lst ys)))) S1
              | none => .bad)
            unfold fApp
            by_cases h : xs.length < sizeLine
            · rw [if_pos h, if_pos h]
            · rw [if_neg h, if_neg h]
          | _ => rfl
        | _ => rfl
theorem k_app : kApp i m ρ S true = kBind (fun d ρ1 S1 => kOwn fApp i d ρ1 S1 ρ1[i]?) (m ρ S) := rfl
theorem k_own {g : List D → D → Option (List D)} (h : g xs d = some ys) : kOwn g i d ρ S (some (some (.own (.lst xs)))) = .ok .next (ρ.set i (some (.own (.lst ys)))) S := by
  show (match g xs d with
    | some ys => Res.ok Ctl.next (ρ.set i (some (.own (.lst ys)))) S
    | none => .bad) = _
  rw [h]
theorem k_ownApp (h : xs.length < 16777216) : kOwn fApp i d ρ S (some (some (.own (.lst xs)))) = .ok .next (ρ.set i (some (.own (.lst (xs ++ [d]))))) S := k_own (if_pos (by rw [sizeLine_eq]; omega))
theorem r_lenSet : mLenSet m ρ S = kLenSet (m ρ S) := by
  unfold mLenSet kLenSet kBind
  refine congrArg _ (funext fun x => funext fun ρ1 => funext fun S1 => ?_)
  cases x <;> rfl
theorem k_lenSet {u : List Nat} (h : u.length ≤ 4000) : kLenSet (.ok (.str u) ρ S) = .ok (.int (distL u).length) ρ S := if_pos h
theorem k_yes : mYes ρ S = .ok true ρ S := rfl
theorem k_hide0 : hideOwn [] = [] := rfl
theorem k_hideS {o : Option Slot} : hideOwn (o :: ρ) = hide1 o :: hideOwn ρ := rfl
theorem k_hideN : hide1 none = none := rfl
theorem k_hideV : hide1 (some (.val d)) = some (.val d) := rfl
theorem k_hideO {e : Cell} : hide1 (some (.own e)) = none := rfl
theorem k_wipe0 : wipeD ρ [] = ρ := rfl
theorem k_wipeS {v : Nat} : wipeD ρ (v :: vs) = (wipeD ρ vs).set v none := rfl
theorem k_drop0 : dropX [] = [] := rfl
theorem k_dropS {o : Option Slot} : dropX (o :: ρ) = drop1 o :: dropX ρ := rfl
theorem k_dropN : drop1 none = none := rfl
theorem k_dropV : drop1 (some (.val d)) = some (.val d) := rfl
theorem k_dropO {e : Cell} : drop1 (some (.own e)) = some (.own e) := rfl
theorem k_dropX : drop1 (some (.exn c ns xs)) = none := rfl
theorem k_own0 {r : DEnv} : isOwnL (some (.own (.lst xs)) :: r) 0 = true := rfl
theorem k_ownS {o : Option Slot} : isOwnL (o :: ρ) (i + 1) = isOwnL ρ i := rfl
theorem k_startI {n : Nat} : startI n c ds = some (.own (.ins c [] [])) :: (ds.map (fun d => some (.val d)) ++ List.replicate (n - 1 - ds.length) none) := rfl
theorem k_ty (t : String) : (match t with | t => t) = t := rfl
theorem ix_last {n : Nat} : ixN (n + 1) (-1) = some n := by
  unfold ixN
  rw [if_neg (by omega), if_pos (by omega)]
  congr 1
  omega
theorem set_last {l : List α} {u v : α} : (l ++ [u]).set l.length v = l ++ [v] := by
  rw [List.set_append_right _ _ (Nat.le_refl _), Nat.sub_self]
  rfl
/-- a comprehension of pure elements -/
theorem lcL_map (g : D → D) {ρb : DEnv} : ∀ (its : List D), (∀ d ∈ its, ∃ ρ', me (ρb.set i (some (.val d))) S = .ok (g d) ρ' S) → mLcL (gN i) mYes me ρb its S = some (its.map g, S)
  | [], _ => rfl
  | d :: r, h => by
    obtain ⟨ρ', e⟩ := h d List.mem_cons_self
    show (match me (ρb.set i (some (.val d))) S with
      | .ok x _ S3 => (mLcL (gN i) mYes me ρb r S3).map fun (p : List D × Store) => (x :: p.1, p.2)
      | _ => none) = _
    rw [e]
    show (mLcL (gN i) mYes me ρb r S).map (fun (p : List D × Store) => (g d :: p.1, p.2)) = _
    rw [lcL_map g r fun x hx => h x (List.mem_cons_of_mem _ hx)]
    rfl
/-- .. with a test -/
theorem lcL_filter (g : D → D) (p : D → Bool) {ρb : DEnv} : ∀ (its : List D), (∀ d ∈ its, ∃ ρ' ρ'', tm (ρb.set i (some (.val d))) S = .ok (p d) ρ' S ∧ (p d = true → me ρ' S = .ok (g d) ρ'' S)) → mLcL (gN i) tm me ρb its S = some ((its.filter p).map g, S)
  | [], _ => rfl
  | d :: r, h => by
    obtain ⟨ρ', ρ'', e, e2⟩ := h d List.mem_cons_self
    have ih := lcL_filter g p r fun x hx => h x (List.mem_cons_of_mem _ hx)
    show (match tm (ρb.set i (some (.val d))) S with
      | .ok true ρ2 S2 => (match me ρ2 S2 with
        | .ok x _ S3 => (mLcL (gN i) tm me ρb r S3).map fun (p : List D × Store) => (x :: p.1, p.2)
        | _ => none)
      | .ok false _ S2 => mLcL (gN i) tm me ρb r S2
      | _ => none) = _
    rw [e]
    cases hp : p d with
    | false =>
      rw [List.filter_cons_of_neg (by rw [hp]; exact Bool.false_ne_true)]
      exact ih
    | true =>
      rw [List.filter_cons_of_pos hp]
      show (match me ρ' S with
        | .ok x _ S3 => (mLcL (gN i) tm me ρb r S3).map fun (p : List D × Store) => (x :: p.1, p.2)
        | _ => none) = _
      rw [e2 hp]
      show (mLcL (gN i) tm me ρb r S).map (fun (p : List D × Store) => (g d :: p.1, p.2)) = _
      rw [ih]
      rfl
theorem v_join {a : List Nat} {l : List (List Nat)} (h : (l.map List.length).sum + l.length * a.length ≤ 16777216) : dJoin S (.str a) (.lst (l.map D.str)) = some (.str (joinL a l)) := by
  have e : textsOf (l.map D.str) = some l := by
    clear h
    induction l with
    | nil => rfl
    | cons t r ih => show (textsOf (r.map D.str)).map (t :: ·) = _; rw [ih]; rfl
  show ((some (l.map D.str)).bind textsOf).bind _ = _
  rw [Option.bind_some, e, Option.bind_some]
  exact if_pos h
theorem v_index {a : List Nat} {c : Nat} (h : c ∈ a) : dIndex S (.str a) (.str [c]) = some (.int (a.idxOf c : Nat)) := if_pos h
theorem v_all {bs : List Bool} : dAll S [.lst (bs.map D.bl)] = some (.bl (bs.all fun b => b)) := by
  have e : blsOf (bs.map D.bl) = some bs := by
    induction bs with
    | nil => rfl
    | cons t r ih => show (blsOf (r.map D.bl)).map (t :: ·) = _; rw [ih]; rfl
  show ((some (bs.map D.bl)).bind blsOf).map _ = _
  rw [Option.bind_some, e]
  rfl
end
def ev2 := And.intro @r_lc <|
  And.intro @k_lc <|
  And.intro @r_setIx <|
  And.intro @k_set2 <|
  And.intro @k_set3 <|
  And.intro @k_set4 <|
  And.intro @r_lcNil <|
  And.intro @r_lcCons <|
  And.intro @k_lcE <|
  And.intro @k_lcR <|
  And.intro @r_try <|
  And.intro @k_tryN <|
  And.intro @k_tryR <|
  And.intro @k_tryE <|
  And.intro @r_catNil <|
  And.intro @r_catCons <|
  And.intro @k_catF <|
  And.intro @k_catT <|
  And.intro @k_catT0 <|
  And.intro @k_okOnly <|
  And.intro @r_tryRe <|
  And.intro @k_tryReOk <|
  And.intro @r_isX <|
  And.intro @k_isX <|
  And.intro @r_xf <|
  And.intro @k_xf <|
  And.intro @r_raiseX <|
  And.intro @k_raiseX <|
  And.intro @r_fld <|
  And.intro @k_fld1 <|
  And.intro @r_setF <|
  And.intro @k_setF <|
  And.intro @r_fnI <|
  And.intro @k_fnI <|
  And.intro @k_fnIe <|
  And.intro @r_meth <|
  And.intro @k_meth1 <|
  And.intro @r_asg <|
  And.intro @k_u <|
  And.intro @r_gsCons <|
  And.intro @k_gs <|
  And.intro @r_gT <|
  And.intro @r_gL <|
  And.intro @r_split <|
  And.intro @k_split <|
  And.intro @k_split2 <|
  And.intro @r_app <|
  And.intro @k_app <|
  And.intro @k_ownApp <|
  And.intro @r_lenSet <|
  And.intro @k_lenSet <|
  And.intro @k_yes <|
  And.intro @k_hide0 <|
  And.intro @k_hideS <|
  And.intro @k_hideN <|
  And.intro @k_hideV <|
  And.intro @k_hideO <|
  And.intro @k_wipe0 <|
  And.intro @k_wipeS <|
  And.intro @k_drop0 <|
  And.intro @k_dropS <|
  And.intro @k_dropN <|
  And.intro @k_dropV <|
  And.intro @k_dropO <|
  And.intro @k_dropX <|
  And.intro @k_own0 <|
  And.intro @k_ownS <|
  And.intro @k_startI <|
  And.intro @v_index <|
  @v_all
end DL

namespace DL
open PySem PySem.Spec L2 TL

/-! ## plain lists: split, join -/
theorem pre1 {c d : Nat} {r : List Nat} : pre [c] (d :: r) = decide (d = c) := by
  show ([d] == [c]) = _
  by_cases h : d = c
  · subst h; simp
  · rw [decide_eq_false h]; simp [h]
theorem spl_pass1 {c : Nat} : ∀ (t acc r : List Nat), c ∉ t → spl [c] 0 acc (t ++ r) = spl [c] 0 (acc ++ t) r
  | [], acc, r, _ => by simp
  | d :: t, acc, r, h => by
    have hd : ¬ d = c := fun e => h (by rw [e]; exact List.mem_cons_self)
    rw [List.cons_append, spl_miss (by rw [pre1]; exact decide_eq_false hd), spl_pass1 t _ r fun z => h (List.mem_cons_of_mem _ z)]
    simp
theorem spl_join1 {c : Nat} : ∀ (l : List (List Nat)) (t : List Nat), (∀ u ∈ t :: l, c ∉ u) → spl [c] 0 [] (joinL [c] (t :: l)) = t :: l
  | [], t, h => by
    have := spl_pass1 t [] [] (h t List.mem_cons_self)
    simp only [List.append_nil, List.nil_append] at this
    show spl [c] 0 [] t = _
    rw [this, spl_nil]
  | u :: l, t, h => by
    show spl [c] 0 [] (t ++ ([c] ++ joinL [c] (u :: l))) = _
    rw [spl_pass1 t [] _ (h t List.mem_cons_self), List.cons_append, List.nil_append, List.nil_append, spl_hit (by rw [pre1]; exact decide_eq_true rfl)]
    show t :: spl [c] 0 [] (joinL [c] (u :: l)) = _
    rw [spl_join1 l u fun v hv => h v (List.mem_cons_of_mem _ hv)]
theorem v_split1 {c : Nat} {t : List Nat} {l : List (List Nat)} (hc : c < 256) (hl : (joinL [c] (t :: l)).length ≤ 1000000) (h : ∀ u ∈ t :: l, c ∉ u) : dSplit (joinL [c] (t :: l)) [c] = some (t :: l) := by
  unfold dSplit
  rw [if_pos ⟨by simp, by simp [hc], hl⟩, spl_join1 l t h]
theorem join_len {s : List Nat} : ∀ {l : List (List Nat)}, (joinL s l).length ≤ (l.map List.length).sum + l.length * s.length
  | [] => by simp [joinL]
  | [t] => by simp [joinL]
  | t :: u :: r => by
    have := join_len (s := s) (l := u :: r)
    show (t ++ (s ++ joinL s (u :: r))).length ≤ _
    simp only [List.length_append, List.map_cons, List.sum_cons, List.length_cons, Nat.add_mul] at this ⊢
    omega
theorem join_mem {s : List Nat} {c : Nat} : ∀ {l : List (List Nat)}, c ∈ joinL s l → c ∈ s ∨ ∃ t ∈ l, c ∈ t
  | [], h => by cases h
  | [t], h => .inr ⟨t, List.mem_cons_self, h⟩
  | t :: u :: r, h => by
    rcases List.mem_append.mp (show c ∈ t ++ (s ++ joinL s (u :: r)) from h) with q | q
    · exact .inr ⟨t, List.mem_cons_self, q⟩
    · rcases List.mem_append.mp q with q | q
      · exact .inl q
      · rcases join_mem q with q | ⟨v, hv, q⟩
        · exact .inl q
        · exact .inr ⟨v, List.mem_cons_of_mem _ hv, q⟩
theorem join_nil1 : ∀ (x : List Nat), joinL [] (x.map fun c => [c]) = x
  | [] => rfl
  | [c] => rfl
  | c :: d :: r => by
    show [c] ++ ([] ++ joinL [] ([d] :: r.map fun c => [c])) = _
    have := join_nil1 (d :: r)
    simp only [List.map_cons] at this
    rw [this]
    rfl
end DL
namespace DL
open PySem PySem.Spec L2 TL
theorem cut_take {α : Type} {xs : List α} {k : Int} (h : 0 ≤ k) : cutD xs none (some k) = xs.take k.toNat := by
  unfold cutD
  show (xs.drop 0).take ((if k < 0 then (k + (xs.length : Int)).toNat else min k.toNat xs.length) - 0) = _
  rw [if_neg (by omega), List.drop_zero, Nat.sub_zero]
  by_cases hk : k.toNat ≤ xs.length
  · rw [Nat.min_eq_left hk]
  · rw [Nat.min_eq_right (by omega), List.take_length, List.take_of_length_le (by omega)]
theorem cut_drop {α : Type} {xs : List α} {k : Int} (h : 0 ≤ k) : cutD xs (some k) none = xs.drop k.toNat := by
  unfold cutD
  show (xs.drop (if k < 0 then (k + (xs.length : Int)).toNat else min k.toNat xs.length)).take (xs.length - (if k < 0 then (k + (xs.length : Int)).toNat else min k.toNat xs.length)) = _
  rw [if_neg (by omega)]
  by_cases hk : k.toNat ≤ xs.length
  · rw [Nat.min_eq_left hk, List.take_of_length_le (by simp)]
  · rw [Nat.min_eq_right (by omega), List.drop_length, List.drop_of_length_le (by omega), List.take_nil]
theorem v_slcS {S : Store} {x : List Nat} {lo hi : Option Int} (h : x.length ≤ 16777216) : dSlcA S (.str x) lo hi = some (.str (cutD x lo hi)) := if_pos (by rw [sizeLine_eq]; omega)
end DL

namespace K91
open PySem PySem.Spec L2 DL
def top (i : Nat) : Stmt := PySem.Challenge.pw_dialecthall_k91_rows_of_dialects.main.body.getD i (.Pass ⟨0, 0, 0, 0⟩)
abbrev s_is_name : Stmt := (top 20)
abbrev N_is_name : List Str := ["thing", "sign"]
abbrev P_is_name : List Str := ["thing"]
abbrev s__law_cell_at : Stmt := (top 29)
abbrev N__law_cell_at : List Str := ["_law_script", "_law_k"]
abbrev P__law_cell_at : List Str := ["_law_script", "_law_k"]
abbrev s__law_mixed : Stmt := (top 30)
abbrev N__law_mixed : List Str := ["_law_number_here", "_law_salt", "_law_one", "_law_two"]
abbrev P__law_mixed : List Str := ["_law_number_here", "_law_salt"]
abbrev s__law_number : Stmt := (top 31)
abbrev N__law_number : List Str := ["_law_cell", "_law_salt", "_law_number_here", "_law_high"]
abbrev P__law_number : List Str := ["_law_cell", "_law_salt"]
abbrev s__law_some : Stmt := (top 32)
abbrev N__law_some : List Str := ["_law_number_here", "_law_many", "_law_menu", "_law_found", "_law_k", "_law_sign"]
abbrev P__law_some : List Str := ["_law_number_here", "_law_many", "_law_menu"]
abbrev s__law_menus : Stmt := (top 33)
abbrev N__law_menus : List Str := ["_law_way", "_law_every"]
abbrev P__law_menus : List Str := ["_law_way"]
abbrev s__law_told : Stmt := (top 34)
abbrev N__law_told : List Str := ["_law_cell", "_law_number_here", "_law_flags", "_law_sizes", "_law_menus_here", "_law_parts", "_law_quotes", "_law_frees", "_law_truths"]
abbrev P__law_told : List Str := ["_law_cell"]
abbrev s_check_role : Stmt := (top 14)
abbrev N_check_role : List Str := ["thing", "least", "most", "sign"]
abbrev P_check_role : List Str := ["thing", "least", "most"]
abbrev s_Dialect___init__ : Stmt := (inCls (top 15) 0)
abbrev N_Dialect___init__ : List Str := ["self", "parts", "quotes", "frees", "twin", "wide", "thin", "stray", "flag"]
abbrev P_Dialect___init__ : List Str := ["self", "parts", "quotes", "frees", "twin", "wide", "thin", "stray"]
abbrev s__law_made : Stmt := (top 35)
abbrev N__law_made : List Str := ["_law_told_here"]
abbrev P__law_made : List Str := ["_law_told_here"]
abbrev s__law_title : Stmt := (top 36)
abbrev N__law_title : List Str := ["_law_cell", "_law_number_here", "_law_size", "_law_name", "_law_k"]
abbrev P__law_title : List Str := ["_law_cell"]
abbrev s_NoName___init__ : Stmt := (inCls (top 7) 0)
abbrev N_NoName___init__ : List Str := ["self", "name"]
abbrev P_NoName___init__ : List Str := ["self", "name"]
abbrev s_Dialect_told : Stmt := (inCls (top 15) 1)
abbrev N_Dialect_told : List Str := ["self"]
abbrev P_Dialect_told : List Str := ["self"]
abbrev s_number_at : Stmt := (top 21)
abbrev N_number_at : List Str := ["place"]
abbrev P_number_at : List Str := ["place"]
abbrev s_numbers_told : Stmt := (top 23)
abbrev N_numbers_told : List Str := ["some", "sign"]
abbrev P_numbers_told : List Str := ["some"]
abbrev s_row_of : Stmt := (top 26)
abbrev N_row_of : List Str := ["name", "dialect", "told", "truths", "truth", "some"]
abbrev P_row_of : List Str := ["name", "dialect"]
abbrev s__law_refused : Stmt := (top 38)
abbrev N__law_refused : List Str := ["_law_thing", "_law_made_here", "e"]
abbrev P__law_refused : List Str := ["_law_thing", "_law_made_here"]
abbrev s_sign_of : Stmt := (top 22)
abbrev N_sign_of : List Str := ["word", "place"]
abbrev P_sign_of : List Str := ["word"]
abbrev s_signs_told : Stmt := (top 24)
abbrev N_signs_told : List Str := ["word", "part"]
abbrev P_signs_told : List Str := ["word"]
abbrev s_truths_told : Stmt := (top 25)
abbrev N_truths_told : List Str := ["word", "figure"]
abbrev P_truths_told : List Str := ["word"]
abbrev s_dialect_in : Stmt := (top 27)
abbrev N_dialect_in : List Str := ["row", "words", "parts", "quotes", "frees", "truths", "made", "word"]
abbrev P_dialect_in : List Str := ["row"]
abbrev s__law_row : Stmt := (top 37)
abbrev N__law_row : List Str := ["_law_name", "_law_told_here", "_law_every", "_law_words", "_law_some_here", "_law_numbers", "_law_sign", "_law_at", "_law_truth"]
abbrev P__law_row : List Str := ["_law_name", "_law_told_here"]
abbrev s__law_right : Stmt := (top 39)
abbrev N__law_right : List Str := ["_law_name", "_law_told_here", "_law_row_here", "_law_pair"]
abbrev P__law_right : List Str := ["_law_name", "_law_told_here"]
abbrev s_law : Stmt := (top 40)
abbrev N_law : List Str := ["_law_script", "_law_told_here", "_law_second", "_law_name", "_law_other", "_law_at", "_law_odd", "_law_thing"]
abbrev P_law : List Str := ["_law_script"]
abbrev d_is_name : He.DefD := ⟨("is_name", none), "is_name", "is_name", defArgs s_is_name, defBody s_is_name, defScope s_is_name, [], []⟩
abbrev d__law_cell_at : He.DefD := ⟨("_law_cell_at", none), "_law_cell_at", "_law_cell_at", defArgs s__law_cell_at, defBody s__law_cell_at, defScope s__law_cell_at, [], []⟩
abbrev d__law_mixed : He.DefD := ⟨("_law_mixed", none), "_law_mixed", "_law_mixed", defArgs s__law_mixed, defBody s__law_mixed, defScope s__law_mixed, [], []⟩
abbrev d__law_number : He.DefD := ⟨("_law_number", none), "_law_number", "_law_number", defArgs s__law_number, defBody s__law_number, defScope s__law_number, [], []⟩
abbrev d__law_some : He.DefD := ⟨("_law_some", none), "_law_some", "_law_some", defArgs s__law_some, defBody s__law_some, defScope s__law_some, [], []⟩
abbrev d__law_menus : He.DefD := ⟨("_law_menus", none), "_law_menus", "_law_menus", defArgs s__law_menus, defBody s__law_menus, defScope s__law_menus, [], []⟩
abbrev d__law_told : He.DefD := ⟨("_law_told", none), "_law_told", "_law_told", defArgs s__law_told, defBody s__law_told, defScope s__law_told, [], []⟩
abbrev d_check_role : He.DefD := ⟨("check_role", none), "check_role", "check_role", defArgs s_check_role, defBody s_check_role, defScope s_check_role, [], []⟩
abbrev d_Dialect___init__ : He.DefD := ⟨("Dialect", some "__init__"), "__init__", "Dialect.__init__", defArgs s_Dialect___init__, defBody s_Dialect___init__, defScope s_Dialect___init__, [.str "", .str "", .bl false, .bl false, .bl false, .bl false], []⟩
abbrev d__law_made : He.DefD := ⟨("_law_made", none), "_law_made", "_law_made", defArgs s__law_made, defBody s__law_made, defScope s__law_made, [], []⟩
abbrev d__law_title : He.DefD := ⟨("_law_title", none), "_law_title", "_law_title", defArgs s__law_title, defBody s__law_title, defScope s__law_title, [], []⟩
abbrev d_NoName___init__ : He.DefD := ⟨("NoName", some "__init__"), "__init__", "NoName.__init__", defArgs s_NoName___init__, defBody s_NoName___init__, defScope s_NoName___init__, [], []⟩
abbrev d_Dialect_told : He.DefD := ⟨("Dialect", some "told"), "told", "Dialect.told", defArgs s_Dialect_told, defBody s_Dialect_told, defScope s_Dialect_told, [], []⟩
abbrev d_number_at : He.DefD := ⟨("number_at", none), "number_at", "number_at", defArgs s_number_at, defBody s_number_at, defScope s_number_at, [], []⟩
abbrev d_numbers_told : He.DefD := ⟨("numbers_told", none), "numbers_told", "numbers_told", defArgs s_numbers_told, defBody s_numbers_told, defScope s_numbers_told, [], []⟩
abbrev d_row_of : He.DefD := ⟨("row_of", none), "row_of", "row_of", defArgs s_row_of, defBody s_row_of, defScope s_row_of, [], []⟩
abbrev d__law_refused : He.DefD := ⟨("_law_refused", none), "_law_refused", "_law_refused", defArgs s__law_refused, defBody s__law_refused, defScope s__law_refused, [], []⟩
abbrev d_sign_of : He.DefD := ⟨("sign_of", none), "sign_of", "sign_of", defArgs s_sign_of, defBody s_sign_of, defScope s_sign_of, [], []⟩
abbrev d_signs_told : He.DefD := ⟨("signs_told", none), "signs_told", "signs_told", defArgs s_signs_told, defBody s_signs_told, defScope s_signs_told, [], []⟩
abbrev d_truths_told : He.DefD := ⟨("truths_told", none), "truths_told", "truths_told", defArgs s_truths_told, defBody s_truths_told, defScope s_truths_told, [], []⟩
abbrev d_dialect_in : He.DefD := ⟨("dialect_in", none), "dialect_in", "dialect_in", defArgs s_dialect_in, defBody s_dialect_in, defScope s_dialect_in, [], []⟩
abbrev d__law_row : He.DefD := ⟨("_law_row", none), "_law_row", "_law_row", defArgs s__law_row, defBody s__law_row, defScope s__law_row, [], []⟩
abbrev d__law_right : He.DefD := ⟨("_law_right", none), "_law_right", "_law_right", defArgs s__law_right, defBody s__law_right, defScope s__law_right, [], []⟩
abbrev d_law : He.DefD := ⟨("law", none), "law", "law", defArgs s_law, defBody s_law, defScope s_law, [], []⟩
def fns : List He.DefD := [d_is_name, d__law_cell_at, d__law_mixed, d__law_number, d__law_some, d__law_menus, d__law_told, d_check_role, d_Dialect___init__, d__law_made, d__law_title, d_NoName___init__, d_Dialect_told, d_number_at, d_numbers_told, d_row_of, d__law_refused, d_sign_of, d_signs_told, d_truths_told, d_dialect_in, d__law_row, d__law_right, d_law]
def cks : List Ck := [
  ckF (.str "SMALL" "abcdefghijklmnopqrstuvwxyz"),
  ckF (.free "all"),
  ckF (.free "isinstance"),
  ckF (.free "str"),
  ckF (.free "len"),
  ckF (.int "LONGEST" 8),
  ckF (.glo "_law_mixed"),
  ckF (.free "range"),
  ckF (.glo "_law_some"),
  ckF (.glo "_law_menus"),
  ckF (.glo "_law_number"),
  ckF (.str "PRINTABLE" "abcdefghijklmnopqrstuvwxyzABCDEFGHIJKLMNOPQRSTUVWXYZ0123456789 !\"#$&'()*+,-./:;<=>?@\x5b\\]^_`{|}~"),
  ckF (.exc "NoDialect"),
  ckF (.glo "NoDialect"),
  ckF (.free "set"),
  ckF (.cls "Dialect"),
  ckF (.noat "Dialect" "stray"),
  ckF (.noat "Dialect" "thin"),
  ckF (.noat "Dialect" "wide"),
  ckF (.noat "Dialect" "twin"),
  ckF (.noat "Dialect" "frees"),
  ckF (.noat "Dialect" "quotes"),
  ckF (.noat "Dialect" "parts"),
  ckF (.free "bool"),
  ckF (.int "MOST_FREES" 2),
  ckF (.glo "check_role"),
  ckF (.int "MOST_QUOTES" 2),
  ckF (.int "MOST_PARTS" 3),
  ckF (.mkr "Dialect"),
  ckF (.glo "Dialect"),
  ckF (.noat "NoName" "name"),
  ckOex "NoName",
  ckF (.free "int"),
  ckF (.str "PRINTED" " !\"#$&'()*+,-./0123456789:;<=>?@ABCDEFGHIJKLMNOPQRSTUVWXYZ[\\]^_`abcdefghijklmnopqrstuvwxyz{|}~"),
  ckF (.glo "number_at"),
  ckF (.glo "numbers_told"),
  ckF (.meth "Dialect" "told"),
  ckF (.glo "is_name"),
  ckF (.meth "NoName" "__init__"),
  ckF (.glo "NoName"),
  ckF (.glo "row_of"),
  ckExc "NoName",
  ckKit "NoName" (.glo "DialectError") true,
  ckExc "NoRow",
  ckKit "NoRow" (.glo "DialectError") true,
  ckExc "NoDialect",
  ckKit "NoDialect" (.glo "DialectError") true,
  ckF (.glo "DialectError"),
  ckXf "NoName",
  ckAny "NoName" ["NoDialect", "NoRow", "NoTable", "NoText"] false,
  ckAny "NoRow" ["NoDialect", "NoRow", "NoTable", "NoText"] true,
  ckAny "NoDialect" ["NoDialect", "NoRow", "NoTable", "NoText"] true,
  ckF (.glo "NoText"),
  ckF (.glo "NoTable"),
  ckF (.glo "NoRow"),
  ckKit "NoName" (.ty "ValueError") true,
  ckKit "NoRow" (.ty "ValueError") true,
  ckKit "NoDialect" (.ty "ValueError") true,
  ckF (.free "ValueError"),
  ckF (.exm "NoName" "NoName" true),
  ckF (.exm "NoRow" "NoName" false),
  ckF (.exm "NoDialect" "NoName" false),
  ckF (.exc "NoRow"),
  ckF (.glo "sign_of"),
  ckF (.exm "NoName" "NoDialect" false),
  ckF (.exm "NoRow" "NoDialect" false),
  ckF (.exm "NoDialect" "NoDialect" true),
  ckF (.glo "truths_told"),
  ckF (.glo "signs_told"),
  ckF (.free "tuple"),
  ckIns "Dialect",
  ckKit "Dialect" (.glo "Dialect") true,
  ckTys "Dialect",
  ckF (.glo "dialect_in"),
  ckF (.glo "_law_row"),
  ckF (.glo "_law_made"),
  ckF (.glo "_law_refused"),
  ckF (.glo "_law_cell_at"),
  ckF (.glo "_law_right"),
  ckF (.glo "_law_title"),
  ckF (.glo "_law_told"),
  ckF (.glo "law")]
section
variable {P : Program} {w : World} {K : PySem.W.Frag} {mg : Str → Option Value} {base : Heap} {fds : Nat → FuncData}
theorem bn_is_name (z : Zz cks fns K mg fds) : Binds K (fds 0) P_is_name [] := (z.d 0 d_is_name rfl).bindsN fun _ _ _ _ _ _ us hl => match us, hl with | [_], _ => rfl
theorem b_is_name_1 (z : Zz cks fns K mg fds) : ∃ ds, Vals [] ds ∧ Binds K (fds 0) P_is_name ds := ⟨[], .nil, bn_is_name z⟩
theorem bn__law_cell_at (z : Zz cks fns K mg fds) : Binds K (fds 1) P__law_cell_at [] := (z.d 1 d__law_cell_at rfl).bindsN fun _ _ _ _ _ _ us hl => match us, hl with | [_, _], _ => rfl
theorem b__law_cell_at_2 (z : Zz cks fns K mg fds) : ∃ ds, Vals [] ds ∧ Binds K (fds 1) P__law_cell_at ds := ⟨[], .nil, bn__law_cell_at z⟩
theorem bn__law_mixed (z : Zz cks fns K mg fds) : Binds K (fds 2) P__law_mixed [] := (z.d 2 d__law_mixed rfl).bindsN fun _ _ _ _ _ _ us hl => match us, hl with | [_, _], _ => rfl
theorem b__law_mixed_2 (z : Zz cks fns K mg fds) : ∃ ds, Vals [] ds ∧ Binds K (fds 2) P__law_mixed ds := ⟨[], .nil, bn__law_mixed z⟩
theorem bn__law_number (z : Zz cks fns K mg fds) : Binds K (fds 3) P__law_number [] := (z.d 3 d__law_number rfl).bindsN fun _ _ _ _ _ _ us hl => match us, hl with | [_, _], _ => rfl
theorem b__law_number_2 (z : Zz cks fns K mg fds) : ∃ ds, Vals [] ds ∧ Binds K (fds 3) P__law_number ds := ⟨[], .nil, bn__law_number z⟩
theorem bn__law_some (z : Zz cks fns K mg fds) : Binds K (fds 4) P__law_some [] := (z.d 4 d__law_some rfl).bindsN fun _ _ _ _ _ _ us hl => match us, hl with | [_, _, _], _ => rfl
theorem b__law_some_3 (z : Zz cks fns K mg fds) : ∃ ds, Vals [] ds ∧ Binds K (fds 4) P__law_some ds := ⟨[], .nil, bn__law_some z⟩
theorem bn__law_menus (z : Zz cks fns K mg fds) : Binds K (fds 5) P__law_menus [] := (z.d 5 d__law_menus rfl).bindsN fun _ _ _ _ _ _ us hl => match us, hl with | [_], _ => rfl
theorem b__law_menus_1 (z : Zz cks fns K mg fds) : ∃ ds, Vals [] ds ∧ Binds K (fds 5) P__law_menus ds := ⟨[], .nil, bn__law_menus z⟩
theorem bn__law_told (z : Zz cks fns K mg fds) : Binds K (fds 6) P__law_told [] := (z.d 6 d__law_told rfl).bindsN fun _ _ _ _ _ _ us hl => match us, hl with | [_], _ => rfl
theorem b__law_told_1 (z : Zz cks fns K mg fds) : ∃ ds, Vals [] ds ∧ Binds K (fds 6) P__law_told ds := ⟨[], .nil, bn__law_told z⟩
theorem bn_check_role (z : Zz cks fns K mg fds) : Binds K (fds 7) P_check_role [] := (z.d 7 d_check_role rfl).bindsN fun _ _ _ _ _ _ us hl => match us, hl with | [_, _, _], _ => rfl
theorem b_check_role_3 (z : Zz cks fns K mg fds) : ∃ ds, Vals [] ds ∧ Binds K (fds 7) P_check_role ds := ⟨[], .nil, bn_check_role z⟩
theorem b_Dialect___init___8 (z : Zz cks fns K mg fds) : ∃ ds, Vals ([] : List V) ds ∧ Binds K (fds 8) P_Dialect___init__ ds := (z.d 8 d_Dialect___init__ rfl).binds1 8 6 (List.cons_ne_nil _ _) rfl fun _ _ _ _ _ _ _ us its h1 h2 => match us, its, h1, h2 with | [_, _, _, _, _, _, _, _], [_, _, _, _, _, _], _, _ => ⟨_, rfl, rfl⟩
theorem bn__law_made (z : Zz cks fns K mg fds) : Binds K (fds 9) P__law_made [] := (z.d 9 d__law_made rfl).bindsN fun _ _ _ _ _ _ us hl => match us, hl with | [_], _ => rfl
theorem b__law_made_1 (z : Zz cks fns K mg fds) : ∃ ds, Vals [] ds ∧ Binds K (fds 9) P__law_made ds := ⟨[], .nil, bn__law_made z⟩
theorem bn__law_title (z : Zz cks fns K mg fds) : Binds K (fds 10) P__law_title [] := (z.d 10 d__law_title rfl).bindsN fun _ _ _ _ _ _ us hl => match us, hl with | [_], _ => rfl
theorem b__law_title_1 (z : Zz cks fns K mg fds) : ∃ ds, Vals [] ds ∧ Binds K (fds 10) P__law_title ds := ⟨[], .nil, bn__law_title z⟩
theorem bn_NoName___init__ (z : Zz cks fns K mg fds) : Binds K (fds 11) P_NoName___init__ [] := (z.d 11 d_NoName___init__ rfl).bindsN fun _ _ _ _ _ _ us hl => match us, hl with | [_, _], _ => rfl
theorem b_NoName___init___2 (z : Zz cks fns K mg fds) : ∃ ds, Vals [] ds ∧ Binds K (fds 11) P_NoName___init__ ds := ⟨[], .nil, bn_NoName___init__ z⟩
theorem bn_Dialect_told (z : Zz cks fns K mg fds) : Binds K (fds 12) P_Dialect_told [] := (z.d 12 d_Dialect_told rfl).bindsN fun _ _ _ _ _ _ us hl => match us, hl with | [_], _ => rfl
theorem b_Dialect_told_1 (z : Zz cks fns K mg fds) : ∃ ds, Vals [] ds ∧ Binds K (fds 12) P_Dialect_told ds := ⟨[], .nil, bn_Dialect_told z⟩
theorem bn_number_at (z : Zz cks fns K mg fds) : Binds K (fds 13) P_number_at [] := (z.d 13 d_number_at rfl).bindsN fun _ _ _ _ _ _ us hl => match us, hl with | [_], _ => rfl
theorem b_number_at_1 (z : Zz cks fns K mg fds) : ∃ ds, Vals [] ds ∧ Binds K (fds 13) P_number_at ds := ⟨[], .nil, bn_number_at z⟩
theorem bn_numbers_told (z : Zz cks fns K mg fds) : Binds K (fds 14) P_numbers_told [] := (z.d 14 d_numbers_told rfl).bindsN fun _ _ _ _ _ _ us hl => match us, hl with | [_], _ => rfl
theorem b_numbers_told_1 (z : Zz cks fns K mg fds) : ∃ ds, Vals [] ds ∧ Binds K (fds 14) P_numbers_told ds := ⟨[], .nil, bn_numbers_told z⟩
theorem bn_row_of (z : Zz cks fns K mg fds) : Binds K (fds 15) P_row_of [] := (z.d 15 d_row_of rfl).bindsN fun _ _ _ _ _ _ us hl => match us, hl with | [_, _], _ => rfl
theorem b_row_of_2 (z : Zz cks fns K mg fds) : ∃ ds, Vals [] ds ∧ Binds K (fds 15) P_row_of ds := ⟨[], .nil, bn_row_of z⟩
theorem bn__law_refused (z : Zz cks fns K mg fds) : Binds K (fds 16) P__law_refused [] := (z.d 16 d__law_refused rfl).bindsN fun _ _ _ _ _ _ us hl => match us, hl with | [_, _], _ => rfl
theorem b__law_refused_2 (z : Zz cks fns K mg fds) : ∃ ds, Vals [] ds ∧ Binds K (fds 16) P__law_refused ds := ⟨[], .nil, bn__law_refused z⟩
theorem bn_sign_of (z : Zz cks fns K mg fds) : Binds K (fds 17) P_sign_of [] := (z.d 17 d_sign_of rfl).bindsN fun _ _ _ _ _ _ us hl => match us, hl with | [_], _ => rfl
theorem b_sign_of_1 (z : Zz cks fns K mg fds) : ∃ ds, Vals [] ds ∧ Binds K (fds 17) P_sign_of ds := ⟨[], .nil, bn_sign_of z⟩
theorem bn_signs_told (z : Zz cks fns K mg fds) : Binds K (fds 18) P_signs_told [] := (z.d 18 d_signs_told rfl).bindsN fun _ _ _ _ _ _ us hl => match us, hl with | [_], _ => rfl
theorem b_signs_told_1 (z : Zz cks fns K mg fds) : ∃ ds, Vals [] ds ∧ Binds K (fds 18) P_signs_told ds := ⟨[], .nil, bn_signs_told z⟩
theorem bn_truths_told (z : Zz cks fns K mg fds) : Binds K (fds 19) P_truths_told [] := (z.d 19 d_truths_told rfl).bindsN fun _ _ _ _ _ _ us hl => match us, hl with | [_], _ => rfl
theorem b_truths_told_1 (z : Zz cks fns K mg fds) : ∃ ds, Vals [] ds ∧ Binds K (fds 19) P_truths_told ds := ⟨[], .nil, bn_truths_told z⟩
theorem bn_dialect_in (z : Zz cks fns K mg fds) : Binds K (fds 20) P_dialect_in [] := (z.d 20 d_dialect_in rfl).bindsN fun _ _ _ _ _ _ us hl => match us, hl with | [_], _ => rfl
theorem b_dialect_in_1 (z : Zz cks fns K mg fds) : ∃ ds, Vals [] ds ∧ Binds K (fds 20) P_dialect_in ds := ⟨[], .nil, bn_dialect_in z⟩
theorem bn__law_row (z : Zz cks fns K mg fds) : Binds K (fds 21) P__law_row [] := (z.d 21 d__law_row rfl).bindsN fun _ _ _ _ _ _ us hl => match us, hl with | [_, _], _ => rfl
theorem b__law_row_2 (z : Zz cks fns K mg fds) : ∃ ds, Vals [] ds ∧ Binds K (fds 21) P__law_row ds := ⟨[], .nil, bn__law_row z⟩
theorem bn__law_right (z : Zz cks fns K mg fds) : Binds K (fds 22) P__law_right [] := (z.d 22 d__law_right rfl).bindsN fun _ _ _ _ _ _ us hl => match us, hl with | [_, _], _ => rfl
theorem b__law_right_2 (z : Zz cks fns K mg fds) : ∃ ds, Vals [] ds ∧ Binds K (fds 22) P__law_right ds := ⟨[], .nil, bn__law_right z⟩
theorem bn_law (z : Zz cks fns K mg fds) : Binds K (fds 23) P_law [] := (z.d 23 d_law rfl).bindsN fun _ _ _ _ _ _ us hl => match us, hl with | [_], _ => rfl
theorem b_law_1 (z : Zz cks fns K mg fds) : ∃ ds, Vals [] ds ∧ Binds K (fds 23) P_law ds := ⟨[], .nil, bn_law z⟩
/-! ### is_name -/
theorem Sc_is_name : FnScope N_is_name P_is_name (defScope s_is_name) := ⟨rfl, rfl, rfl, by decide +kernel, rfl, by decide +kernel, by decide +kernel⟩
def C_is_name_0 : M D := (mBin dIn (mVar 1) (mC (.str [97, 98, 99, 100, 101, 102, 103, 104, 105, 106, 107, 108, 109, 110, 111, 112, 113, 114, 115, 116, 117, 118, 119, 120, 121, 122])))
def b_is_name : M Ctl := (mSeq (mIfS (mTOr (mTNot (mTest (mIsi "str" (mVar 0)))) (mTNot (mTest (mChain dLe dLe (mC (.int 1)) (mCallB dLen (mCons (mVar 0) mNil)) (mC (.int 8)))))) (mRet (mC (.bl false))) mNext)
  (mRet (mCallB dAll (mCons (mLst (mLc [1] (mIts (mVar 0)) (gN 1) mYes C_is_name_0)) mNil))))
def m_is_name : MF := fnM 2 b_is_name
theorem ok_is_name (z : Zz cks fns K mg fds) : FnOk P w K mg base (L2.CX P w) 2 (He.fAd K d_is_name.at_) (fds 0) P_is_name (spM K 1 m_is_name) :=
  fn_mir (z.d 0 d_is_name rfl) Sc_is_name fun cdv A outer s H E G hG hr =>
  (ss_cons (st_if (t_w (w_or (t_not (t_val (s_isi "str" (by decide) rfl (z.free 2) (s_var 0) (p_ty (z.free 3) rfl (by decide +kernel))))) (w_or1 (t_not (t_chain (c_le) (c_le) s_int (s_len rfl (z.free 4) (a_cons (s_var 0) a_nil)) (s_gint (z.int 5) rfl)))))) (ss_one (st_ret s_bl)) ss_nil)
  (ss_one (st_ret (s_all rfl rfl (z.free 1) (a_cons (s_lst (f_lc (own := [("sign", 1)]) rfl Sc_is_name.nd (i_its (s_var 0)) (blkOk_by (own := [("sign", 1)]) (N := N_is_name) (sc := defScope s_is_name) (by decide +kernel)) (compG_name 1 (by decide)) (fun _ _ _ _ _ => pg_name (i := 1) Sc_is_name.nd rfl (Or.inl rfl)) (fun _ _ _ _ _ _ => ts_nil) (fun _ _ _ _ _ _ => (s_cmp (c_in hr) (s_var 1) (s_gstr [97, 98, 99, 100, 101, 102, 103, 104, 105, 106, 107, 108, 109, 110, 111, 112, 113, 114, 115, 116, 117, 118, 119, 120, 121, 122] (z.str 0) rfl (by decide +kernel)))))) a_nil)))))
/-! ### _law_cell_at -/
theorem Sc__law_cell_at : FnScope N__law_cell_at P__law_cell_at (defScope s__law_cell_at) := ⟨rfl, rfl, rfl, by decide +kernel, rfl, by decide +kernel, by decide +kernel⟩
def b__law_cell_at : M Ctl := (mSeq (mIfS (mTest (mBin dLt (mVar 1) (mCallB dLen (mCons (mVar 0) mNil)))) (mRet (mBin dIx (mVar 0) (mVar 1))) mNext)
  (mRet (mC (.int 0))))
def m__law_cell_at : MF := fnM 2 b__law_cell_at
theorem ok__law_cell_at (z : Zz cks fns K mg fds) : FnOk P w K mg base (L2.CX P w) 2 (He.fAd K d__law_cell_at.at_) (fds 1) P__law_cell_at (spM K 2 m__law_cell_at) :=
  fn_mir (z.d 1 d__law_cell_at rfl) Sc__law_cell_at fun cdv A outer s H E G hG hr =>
  (ss_cons (st_if (t_cmp (c_lt) (s_var 1) (s_len rfl (z.free 4) (a_cons (s_var 0) a_nil))) (ss_one (st_ret (s_ix (s_var 0) (s_var 1)))) ss_nil)
  (ss_one (st_ret s_int)))
/-! ### _law_mixed -/
theorem Sc__law_mixed : FnScope N__law_mixed P__law_mixed (defScope s__law_mixed) := ⟨rfl, rfl, rfl, by decide +kernel, rfl, by decide +kernel, by decide +kernel⟩
def b__law_mixed : M Ctl := (mSeq (mSet 2 (mBin dMod (mBin dAdd (mBin dMulI (mVar 0) (mBin dAdd (mC (.int 1299709)) (mBin dMulI (mC (.int 210)) (mVar 1)))) (mBin dMulI (mC (.int 7919)) (mVar 1))) (mC (.int 15485863))))
  (mSeq (mSet 3 (mBin dMod (mBin dAdd (mBin dMulI (mVar 2) (mVar 2)) (mVar 1)) (mC (.int 32452843))))
  (mRet (mBin dMod (mBin dAdd (mBin dMulI (mVar 3) (mVar 3)) (mVar 2)) (mC (.int 49979687))))))
def m__law_mixed : MF := fnM 4 b__law_mixed
theorem ok__law_mixed (z : Zz cks fns K mg fds) : FnOk P w K mg base (L2.CX P w) 2 (He.fAd K d__law_mixed.at_) (fds 2) P__law_mixed (spM K 2 m__law_mixed) :=
  fn_mir (z.d 2 d__law_mixed rfl) Sc__law_mixed fun cdv A outer s H E G hG hr =>
  (ss_cons (st_set 2 Sc__law_mixed.nd rfl (by first | exact Or.inl rfl | exact Or.inr rfl) (s_mod (s_add (s_mulI (s_var 0) (s_add s_int (s_mulI s_int (s_var 1)))) (s_mulI s_int (s_var 1))) s_int))
  (ss_cons (st_set 3 Sc__law_mixed.nd rfl (by first | exact Or.inl rfl | exact Or.inr rfl) (s_mod (s_add (s_mulI (s_var 2) (s_var 2)) (s_var 1)) s_int))
  (ss_one (st_ret (s_mod (s_add (s_mulI (s_var 3) (s_var 3)) (s_var 2)) s_int)))))
/-! ### _law_number -/
theorem Sc__law_number : FnScope N__law_number P__law_number (defScope s__law_number) := ⟨rfl, rfl, rfl, by decide +kernel, rfl, by decide +kernel, by decide +kernel⟩
def b__law_number : M Ctl := (mSeq (mIfS (mTAnd (mTest (mBin dEq (mBin dMod (mVar 0) (mC (.int 2))) (mC (.int 0)))) (mTest (mBin dGe (mVar 0) (mBin dMulI (mC (.int 2)) (mBin dPow (mC (.int 10)) (mC (.int 18))))))) (mRet (mBin dSub (mBin dFdiv (mVar 0) (mC (.int 2))) (mBin dPow (mC (.int 10)) (mC (.int 18))))) mNext)
  (mSeq (mSet 2 (mBin dMod (mVar 0) (mC (.int 1000000007))))
  (mSeq (mSet 3 (mBin dAdd (mBin dMulI (mCall m__law_mixed [] (mCons (mVar 2) (mCons (mVar 1) mNil))) (mC (.int 49979687))) (mCall m__law_mixed [] (mCons (mVar 2) (mCons (mBin dAdd (mVar 1) (mC (.int 1))) mNil)))))
  (mRet (mBin dAdd (mBin dMulI (mVar 3) (mC (.int 49979687))) (mCall m__law_mixed [] (mCons (mVar 2) (mCons (mBin dAdd (mVar 1) (mC (.int 2))) mNil))))))))
def m__law_number : MF := fnM 4 b__law_number
theorem ok__law_number (z : Zz cks fns K mg fds) : FnOk P w K mg base (L2.CX P w) 3 (He.fAd K d__law_number.at_) (fds 3) P__law_number (spM K 2 m__law_number) :=
  fn_mir (z.d 3 d__law_number rfl) Sc__law_number fun cdv A outer s H E G hG hr =>
  (ss_cons (st_if (t_w (w_and (t_cmp (c_eq hr) (s_mod (s_var 0) s_int) s_int) (w_and1 (t_cmp (c_ge) (s_var 0) (s_mulI s_int (s_pow s_int s_int)))))) (ss_one (st_ret (s_sub (s_fdiv (s_var 0) s_int) (s_pow s_int s_int)))) ss_nil)
  (ss_cons (st_set 2 Sc__law_number.nd rfl (by first | exact Or.inl rfl | exact Or.inr rfl) (s_mod (s_var 0) s_int))
  (ss_cons (st_set 3 Sc__law_number.nd rfl (by first | exact Or.inl rfl | exact Or.inr rfl) (s_add (s_mulI (s_callE ((ok__law_mixed z).mono (by decide)) hr rfl (z.glo 6) (z.d 2 d__law_mixed rfl).kp (b__law_mixed_2 z) (fun _ _ => .nil) (hx_of tkB) (a_cons (s_var 2) (a_cons (s_var 1) a_nil)) (lm_cons (lm_cons lm_nil)) rfl) s_int) (s_callE ((ok__law_mixed z).mono (by decide)) hr rfl (z.glo 6) (z.d 2 d__law_mixed rfl).kp (b__law_mixed_2 z) (fun _ _ => .nil) (hx_of tkB) (a_cons (s_var 2) (a_cons (s_add (s_var 1) s_int) a_nil)) (lm_cons (lm_cons lm_nil)) rfl)))
  (ss_one (st_ret (s_add (s_mulI (s_var 3) s_int) (s_callE ((ok__law_mixed z).mono (by decide)) hr rfl (z.glo 6) (z.d 2 d__law_mixed rfl).kp (b__law_mixed_2 z) (fun _ _ => .nil) (hx_of tkB) (a_cons (s_var 2) (a_cons (s_add (s_var 1) s_int) a_nil)) (lm_cons (lm_cons lm_nil)) rfl)))))))
/-! ### _law_some -/
theorem Sc__law_some : FnScope N__law_some P__law_some (defScope s__law_some) := ⟨rfl, rfl, rfl, by decide +kernel, rfl, by decide +kernel, by decide +kernel⟩
def L__law_some_0 : M Ctl := (mSeq (mSet 5 (mBin dIx (mVar 2) (mBin dMod (mVar 0) (mCallB dLen (mCons (mVar 2) mNil)))))
  (mSeq (mSet 0 (mBin dFdiv (mVar 0) (mCallB dLen (mCons (mVar 2) mNil))))
  (mIfS (mTest (mBin dNotIn (mVar 5) (mVar 3))) (mSet 3 (mBin dAdd (mVar 3) (mVar 5))) mNext)))
def b__law_some : M Ctl := (mSeq (mSet 3 (mC (.str [])))
  (mSeq (mFor (mRange1 (mCons (mVar 1) mNil)) (gN 4) L__law_some_0)
  (mRet (mTup (mCons (mVar 3) (mCons (mVar 0) mNil))))))
def m__law_some : MF := fnM 6 b__law_some
theorem ok__law_some (z : Zz cks fns K mg fds) : FnOk P w K mg base (L2.CX P w) 2 (He.fAd K d__law_some.at_) (fds 4) P__law_some (spM K 3 m__law_some) :=
  fn_mir (z.d 4 d__law_some rfl) Sc__law_some fun cdv A outer s H E G hG hr =>
  (ss_cons (st_set 3 Sc__law_some.nd rfl (by first | exact Or.inl rfl | exact Or.inr rfl) (s_str []))
  (ss_cons (st_for (passes_of rfl) rfl (i_range1 rfl (z.free 7) (a_cons (s_var 1) a_nil)) (g_name 4 Sc__law_some.nd rfl (by first | exact Or.inl rfl | exact Or.inr rfl)) (ss_cons (st_set 5 Sc__law_some.nd rfl (by first | exact Or.inl rfl | exact Or.inr rfl) (s_ix (s_var 2) (s_mod (s_var 0) (s_len rfl (z.free 4) (a_cons (s_var 2) a_nil)))))
  (ss_cons (st_set 0 Sc__law_some.nd rfl (by first | exact Or.inl rfl | exact Or.inr rfl) (s_fdiv (s_var 0) (s_len rfl (z.free 4) (a_cons (s_var 2) a_nil))))
  (ss_one (st_if (t_cmp (c_notIn hr) (s_var 5) (s_var 3)) (ss_one (st_set 3 Sc__law_some.nd rfl (by first | exact Or.inl rfl | exact Or.inr rfl) (s_add (s_var 3) (s_var 5)))) ss_nil)))))
  (ss_one (st_ret (s_tup (a_cons (s_var 3) (a_cons (s_var 0) a_nil)))))))
/-! ### _law_menus -/
theorem Sc__law_menus : FnScope N__law_menus P__law_menus (defScope s__law_menus) := ⟨rfl, rfl, rfl, by decide +kernel, rfl, by decide +kernel, by decide +kernel⟩
def b__law_menus : M Ctl := (mSeq (mSet 1 (mC (.str [32, 33, 34, 35, 36, 38, 39, 40, 41, 42, 43, 44, 45, 46, 47, 48, 49, 50, 51, 52, 53, 54, 55, 56, 57, 58, 59, 60, 61, 62, 63, 64, 65, 66, 67, 68, 69, 70, 71, 72, 73, 74, 75, 76, 77, 78, 79, 80, 81, 82, 83, 84, 85, 86, 87, 88, 89, 90, 91, 92, 93, 94, 95, 96, 97, 98, 99, 100, 101, 102, 103, 104, 105, 106, 107, 108, 109, 110, 111, 112, 113, 114, 115, 116, 117, 118, 119, 120, 121, 122, 123, 124, 125, 126])))
  (mSeq (mIfS (mTest (mBin dEq (mVar 0) (mC (.int 0)))) (mRet (mLst (mSml (mCons (mC (.str [44, 59, 39, 94, 32, 97, 98])) (mCons (mC (.str [44, 59, 39, 94, 32, 97, 98])) (mCons (mC (.str [44, 59, 39, 94, 32, 97, 98])) mNil)))))) mNext)
  (mSeq (mIfS (mTest (mBin dEq (mVar 0) (mC (.int 1)))) (mRet (mLst (mSml (mCons (mC (.str [44, 59, 124, 58, 47, 45, 32])) (mCons (mC (.str [39, 34, 96, 42, 35, 126, 33])) (mCons (mC (.str [92, 94, 36, 38, 43, 61, 64])) mNil)))))) mNext)
  (mRet (mLst (mSml (mCons (mVar 1) (mCons (mVar 1) (mCons (mVar 1) mNil)))))))))
def m__law_menus : MF := fnM 2 b__law_menus
theorem ok__law_menus (z : Zz cks fns K mg fds) : FnOk P w K mg base (L2.CX P w) 2 (He.fAd K d__law_menus.at_) (fds 5) P__law_menus (spM K 1 m__law_menus) :=
  fn_mir (z.d 5 d__law_menus rfl) Sc__law_menus fun cdv A outer s H E G hG hr =>
  (ss_cons (st_set 1 Sc__law_menus.nd rfl (by first | exact Or.inl rfl | exact Or.inr rfl) (s_str [32, 33, 34, 35, 36, 38, 39, 40, 41, 42, 43, 44, 45, 46, 47, 48, 49, 50, 51, 52, 53, 54, 55, 56, 57, 58, 59, 60, 61, 62, 63, 64, 65, 66, 67, 68, 69, 70, 71, 72, 73, 74, 75, 76, 77, 78, 79, 80, 81, 82, 83, 84, 85, 86, 87, 88, 89, 90, 91, 92, 93, 94, 95, 96, 97, 98, 99, 100, 101, 102, 103, 104, 105, 106, 107, 108, 109, 110, 111, 112, 113, 114, 115, 116, 117, 118, 119, 120, 121, 122, 123, 124, 125, 126]))
  (ss_cons (st_if (t_cmp (c_eq hr) (s_var 0) s_int) (ss_one (st_ret (s_lst (f_lst (a_cons (s_str [44, 59, 39, 94, 32, 97, 98]) (a_cons (s_str [44, 59, 39, 94, 32, 97, 98]) (a_cons (s_str [44, 59, 39, 94, 32, 97, 98]) a_nil))))))) ss_nil)
  (ss_cons (st_if (t_cmp (c_eq hr) (s_var 0) s_int) (ss_one (st_ret (s_lst (f_lst (a_cons (s_str [44, 59, 124, 58, 47, 45, 32]) (a_cons (s_str [39, 34, 96, 42, 35, 126, 33]) (a_cons (s_str [92, 94, 36, 38, 43, 61, 64]) a_nil))))))) ss_nil)
  (ss_one (st_ret (s_lst (f_lst (a_cons (s_var 1) (a_cons (s_var 1) (a_cons (s_var 1) a_nil))))))))))
/-! ### _law_told -/
theorem Sc__law_told : FnScope N__law_told P__law_told (defScope s__law_told) := ⟨rfl, rfl, rfl, by decide +kernel, rfl, by decide +kernel, by decide +kernel⟩
def b__law_told : M Ctl := (mSeq (mSet 1 (mCall m__law_number [] (mCons (mVar 0) (mCons (mC (.int 11)) mNil))))
  (mSeq (mSet 2 (mBin dMod (mVar 1) (mC (.int 16))))
  (mSeq (mSet 3 (mLst (mSml (mCons (mBin dAdd (mC (.int 1)) (mBin dMod (mBin dFdiv (mVar 1) (mC (.int 16))) (mC (.int 3)))) (mCons (mBin dMod (mBin dFdiv (mVar 1) (mC (.int 48))) (mC (.int 3))) (mCons (mBin dMod (mBin dFdiv (mVar 1) (mC (.int 144))) (mC (.int 3))) mNil))))))
  (mSeq (mSet 4 (mCall m__law_menus [] (mCons (mBin dMod (mBin dFdiv (mVar 1) (mC (.int 432))) (mC (.int 3))) mNil)))
  (mSeq (mAsg (mCall m__law_some [] (mCons (mBin dFdiv (mVar 1) (mC (.int 1296))) (mCons (mBin dIx (mVar 3) (mC (.int 0))) (mCons (mBin dIx (mVar 4) (mC (.int 0))) mNil)))) (gT 2 (gsCons (gN 5) (gsCons (gN 1) gsNil))))
  (mSeq (mAsg (mCall m__law_some [] (mCons (mVar 1) (mCons (mBin dIx (mVar 3) (mC (.int 1))) (mCons (mBin dIx (mVar 4) (mC (.int 1))) mNil)))) (gT 2 (gsCons (gN 6) (gsCons (gN 1) gsNil))))
  (mSeq (mAsg (mCall m__law_some [] (mCons (mVar 1) (mCons (mBin dIx (mVar 3) (mC (.int 2))) (mCons (mBin dIx (mVar 4) (mC (.int 2))) mNil)))) (gT 2 (gsCons (gN 7) (gsCons (gN 1) gsNil))))
  (mSeq (mSet 8 (mLst (mSml (mCons (mBin dEq (mBin dMod (mVar 2) (mC (.int 2))) (mC (.int 1))) (mCons (mBin dEq (mBin dMod (mBin dFdiv (mVar 2) (mC (.int 2))) (mC (.int 2))) (mC (.int 1))) (mCons (mBin dEq (mBin dMod (mBin dFdiv (mVar 2) (mC (.int 4))) (mC (.int 2))) (mC (.int 1))) (mCons (mBin dEq (mBin dMod (mBin dFdiv (mVar 2) (mC (.int 8))) (mC (.int 2))) (mC (.int 1))) mNil)))))))
  (mRet (mTup (mCons (mVar 5) (mCons (mVar 6) (mCons (mVar 7) (mCons (mBin dIx (mVar 8) (mC (.int 0))) (mCons (mBin dIx (mVar 8) (mC (.int 1))) (mCons (mBin dIx (mVar 8) (mC (.int 2))) (mCons (mBin dIx (mVar 8) (mC (.int 3))) mNil)))))))))))))))))
def m__law_told : MF := fnM 9 b__law_told
theorem ok__law_told (z : Zz cks fns K mg fds) : FnOk P w K mg base (L2.CX P w) 4 (He.fAd K d__law_told.at_) (fds 6) P__law_told (spM K 1 m__law_told) :=
  fn_mir (z.d 6 d__law_told rfl) Sc__law_told fun cdv A outer s H E G hG hr =>
  (ss_cons (st_set 1 Sc__law_told.nd rfl (by first | exact Or.inl rfl | exact Or.inr rfl) (s_callE ((ok__law_number z).mono (by decide)) hr rfl (z.glo 10) (z.d 3 d__law_number rfl).kp (b__law_number_2 z) (fun _ _ => .nil) (hx_of tkB) (a_cons (s_var 0) (a_cons s_int a_nil)) (lm_cons (lm_cons lm_nil)) rfl))
  (ss_cons (st_set 2 Sc__law_told.nd rfl (by first | exact Or.inl rfl | exact Or.inr rfl) (s_mod (s_var 1) s_int))
  (ss_cons (st_set 3 Sc__law_told.nd rfl (by first | exact Or.inl rfl | exact Or.inr rfl) (s_lst (f_lst (a_cons (s_add s_int (s_mod (s_fdiv (s_var 1) s_int) s_int)) (a_cons (s_mod (s_fdiv (s_var 1) s_int) s_int) (a_cons (s_mod (s_fdiv (s_var 1) s_int) s_int) a_nil))))))
  (ss_cons (st_set 4 Sc__law_told.nd rfl (by first | exact Or.inl rfl | exact Or.inr rfl) (s_callE ((ok__law_menus z).mono (by decide)) hr rfl (z.glo 9) (z.d 5 d__law_menus rfl).kp (b__law_menus_1 z) (fun _ _ => .nil) (hx_of tkB) (a_cons (s_mod (s_fdiv (s_var 1) s_int) s_int) a_nil) (lm_cons lm_nil) rfl))
  (ss_cons (st_asg (s_callE ((ok__law_some z).mono (by decide)) hr rfl (z.glo 8) (z.d 4 d__law_some rfl).kp (b__law_some_3 z) (fun _ _ => .nil) (hx_of tkB) (a_cons (s_fdiv (s_var 1) s_int) (a_cons (s_ix (s_var 3) s_int) (a_cons (s_ix (s_var 4) s_int) a_nil))) (lm_cons (lm_cons (lm_cons lm_nil))) rfl) (g_tup 2 rfl (gs_cons (g_name 5 Sc__law_told.nd rfl (by first | exact Or.inl rfl | exact Or.inr rfl)) (gs_cons (g_name 1 Sc__law_told.nd rfl (by first | exact Or.inl rfl | exact Or.inr rfl)) gs_nil))))
  (ss_cons (st_asg (s_callE ((ok__law_some z).mono (by decide)) hr rfl (z.glo 8) (z.d 4 d__law_some rfl).kp (b__law_some_3 z) (fun _ _ => .nil) (hx_of tkB) (a_cons (s_var 1) (a_cons (s_ix (s_var 3) s_int) (a_cons (s_ix (s_var 4) s_int) a_nil))) (lm_cons (lm_cons (lm_cons lm_nil))) rfl) (g_tup 2 rfl (gs_cons (g_name 6 Sc__law_told.nd rfl (by first | exact Or.inl rfl | exact Or.inr rfl)) (gs_cons (g_name 1 Sc__law_told.nd rfl (by first | exact Or.inl rfl | exact Or.inr rfl)) gs_nil))))
  (ss_cons (st_asg (s_callE ((ok__law_some z).mono (by decide)) hr rfl (z.glo 8) (z.d 4 d__law_some rfl).kp (b__law_some_3 z) (fun _ _ => .nil) (hx_of tkB) (a_cons (s_var 1) (a_cons (s_ix (s_var 3) s_int) (a_cons (s_ix (s_var 4) s_int) a_nil))) (lm_cons (lm_cons (lm_cons lm_nil))) rfl) (g_tup 2 rfl (gs_cons (g_name 7 Sc__law_told.nd rfl (by first | exact Or.inl rfl | exact Or.inr rfl)) (gs_cons (g_name 1 Sc__law_told.nd rfl (by first | exact Or.inl rfl | exact Or.inr rfl)) gs_nil))))
  (ss_cons (st_set 8 Sc__law_told.nd rfl (by first | exact Or.inl rfl | exact Or.inr rfl) (s_lst (f_lst (a_cons (s_cmp (c_eq hr) (s_mod (s_var 2) s_int) s_int) (a_cons (s_cmp (c_eq hr) (s_mod (s_fdiv (s_var 2) s_int) s_int) s_int) (a_cons (s_cmp (c_eq hr) (s_mod (s_fdiv (s_var 2) s_int) s_int) s_int) (a_cons (s_cmp (c_eq hr) (s_mod (s_fdiv (s_var 2) s_int) s_int) s_int) a_nil)))))))
  (ss_one (st_ret (s_tup (a_cons (s_var 5) (a_cons (s_var 6) (a_cons (s_var 7) (a_cons (s_ix (s_var 8) s_int) (a_cons (s_ix (s_var 8) s_int) (a_cons (s_ix (s_var 8) s_int) (a_cons (s_ix (s_var 8) s_int) a_nil))))))))))))))))))
/-! ### check_role -/
theorem Sc_check_role : FnScope N_check_role P_check_role (defScope s_check_role) := ⟨rfl, rfl, rfl, by decide +kernel, rfl, by decide +kernel, by decide +kernel⟩
def L_check_role_0 : M Ctl := (mIfS (mTest (mBin dNotIn (mVar 3) (mC (.str [97, 98, 99, 100, 101, 102, 103, 104, 105, 106, 107, 108, 109, 110, 111, 112, 113, 114, 115, 116, 117, 118, 119, 120, 121, 122, 65, 66, 67, 68, 69, 70, 71, 72, 73, 74, 75, 76, 77, 78, 79, 80, 81, 82, 83, 84, 85, 86, 87, 88, 89, 90, 48, 49, 50, 51, 52, 53, 54, 55, 56, 57, 32, 33, 34, 35, 36, 38, 39, 40, 41, 42, 43, 44, 45, 46, 47, 58, 59, 60, 61, 62, 63, 64, 91, 92, 93, 94, 95, 96, 123, 124, 125, 126])))) (mRaise "NoDialect") mNext)
def b_check_role : M Ctl := (mSeq (mIfS (mTOr (mTNot (mTest (mIsi "str" (mVar 0)))) (mTOr (mTNot (mTest (mChain dLe dLe (mVar 1) (mCallB dLen (mCons (mVar 0) mNil)) (mVar 2)))) (mTest (mBin dLt (mLenSet (mVar 0)) (mCallB dLen (mCons (mVar 0) mNil)))))) (mRaise "NoDialect") mNext)
  (mFor (mIts (mVar 0)) (gN 3) L_check_role_0))
def m_check_role : MF := fnM 4 b_check_role
theorem okN_check_role (z : Zz cks fns K mg fds) : FnOk P w K mg base (L2N.CX P w) 2 (He.fAd K d_check_role.at_) (fds 7) P_check_role (spM K 3 m_check_role) :=
  fn_mir (z.d 7 d_check_role rfl) Sc_check_role fun cdv A outer s H E G hG hr =>
  (ss_cons (st_if (t_w (w_or (t_not (t_val (s_isi "str" (by decide) rfl (z.free 2) (s_var 0) (p_ty (z.free 3) rfl (by decide +kernel))))) (w_or (t_not (t_chain (c_le) (c_le) (s_var 1) (s_len rfl (z.free 4) (a_cons (s_var 0) a_nil)) (s_var 2))) (w_or1 (t_cmp (c_lt) (s_lenSet rfl rfl (z.free 4) rfl (z.free 14) (s_var 0)) (s_len rfl (z.free 4) (a_cons (s_var 0) a_nil))))))) (ss_one (st_raiseN (z.c.ck 12) (z.glo 13) rfl rfl tkBN)) ss_nil)
  (ss_one (st_for (passes_of rfl) rfl (i_its (s_var 0)) (g_name 3 Sc_check_role.nd rfl (by first | exact Or.inl rfl | exact Or.inr rfl)) (ss_one (st_if (t_cmp (c_notIn hr) (s_var 3) (s_gstr [97, 98, 99, 100, 101, 102, 103, 104, 105, 106, 107, 108, 109, 110, 111, 112, 113, 114, 115, 116, 117, 118, 119, 120, 121, 122, 65, 66, 67, 68, 69, 70, 71, 72, 73, 74, 75, 76, 77, 78, 79, 80, 81, 82, 83, 84, 85, 86, 87, 88, 89, 90, 48, 49, 50, 51, 52, 53, 54, 55, 56, 57, 32, 33, 34, 35, 36, 38, 39, 40, 41, 42, 43, 44, 45, 46, 47, 58, 59, 60, 61, 62, 63, 64, 91, 92, 93, 94, 95, 96, 123, 124, 125, 126] (z.str 11) rfl (by decide +kernel))) (ss_one (st_raiseN (z.c.ck 12) (z.glo 13) rfl rfl tkBN)) ss_nil)))))
theorem ok_check_role (z : Zz cks fns K mg fds) : FnOk P w K mg base (L2.CX P w) 2 (He.fAd K d_check_role.at_) (fds 7) P_check_role (spM K 3 m_check_role) := fn_ofN (okN_check_role z)
/-! ### Dialect.__init__ -/
theorem Sc_Dialect___init__ : FnScope N_Dialect___init__ P_Dialect___init__ (defScope s_Dialect___init__) := ⟨rfl, rfl, rfl, by decide +kernel, rfl, by decide +kernel, by decide +kernel⟩
def L_Dialect___init___0 : M Ctl := (mIfS (mTNot (mTest (mIsi "bool" (mVar 8)))) (mRaise "NoDialect") mNext)
def b_Dialect___init__ : M Ctl := (mSeq (mDrop (mCall m_check_role [] (mCons (mVar 1) (mCons (mC (.int 1)) (mCons (mC (.int 3)) mNil)))))
  (mSeq (mDrop (mCall m_check_role [] (mCons (mVar 2) (mCons (mC (.int 0)) (mCons (mC (.int 2)) mNil)))))
  (mSeq (mDrop (mCall m_check_role [] (mCons (mVar 3) (mCons (mC (.int 0)) (mCons (mC (.int 2)) mNil)))))
  (mSeq (mFor (mIts (mLst (mSml (mCons (mVar 4) (mCons (mVar 5) (mCons (mVar 6) (mCons (mVar 7) mNil))))))) (gN 8) L_Dialect___init___0)
  (mSeq (mSetF "Dialect" "parts" (mVar 1))
  (mSeq (mSetF "Dialect" "quotes" (mVar 2))
  (mSeq (mSetF "Dialect" "frees" (mVar 3))
  (mSeq (mSetF "Dialect" "twin" (mVar 4))
  (mSeq (mSetF "Dialect" "wide" (mVar 5))
  (mSeq (mSetF "Dialect" "thin" (mVar 6))
  (mSetF "Dialect" "stray" (mVar 7))))))))))))
def m_Dialect___init__ : MF := fnI 9 "Dialect" b_Dialect___init__
theorem okN_Dialect___init__ (z : Zz cks fns K mg fds) : FnOk P w K mg base (L2N.CX P w) 3 (He.fAd K d_Dialect___init__.at_) (fds 8) P_Dialect___init__ (spI K "Dialect" 8 m_Dialect___init__) :=
  fn_init "Dialect" (z.d 8 d_Dialect___init__ rfl) Sc_Dialect___init__ (by decide) fun cdv A outer s H E G hG hr =>
  (ss_cons (st_expr (s_callE ((okN_check_role z).mono (by decide)) hr rfl (z.glo 25) (z.d 7 d_check_role rfl).kp (b_check_role_3 z) (fun _ _ => .nil) (hx_ofN tkBN) (a_cons (s_var 1) (a_cons s_int (a_cons (s_gint (z.int 27) rfl) a_nil))) (lm_cons (lm_cons (lm_cons lm_nil))) rfl))
  (ss_cons (st_expr (s_callE ((okN_check_role z).mono (by decide)) hr rfl (z.glo 25) (z.d 7 d_check_role rfl).kp (b_check_role_3 z) (fun _ _ => .nil) (hx_ofN tkBN) (a_cons (s_var 2) (a_cons s_int (a_cons (s_gint (z.int 26) rfl) a_nil))) (lm_cons (lm_cons (lm_cons lm_nil))) rfl))
  (ss_cons (st_expr (s_callE ((okN_check_role z).mono (by decide)) hr rfl (z.glo 25) (z.d 7 d_check_role rfl).kp (b_check_role_3 z) (fun _ _ => .nil) (hx_ofN tkBN) (a_cons (s_var 3) (a_cons s_int (a_cons (s_gint (z.int 24) rfl) a_nil))) (lm_cons (lm_cons (lm_cons lm_nil))) rfl))
  (ss_cons (st_for (passes_of rfl) rfl (i_its (s_lst (f_lst (a_cons (s_var 4) (a_cons (s_var 5) (a_cons (s_var 6) (a_cons (s_var 7) a_nil))))))) (g_name 8 Sc_Dialect___init__.nd rfl (by first | exact Or.inl rfl | exact Or.inr rfl)) (ss_one (st_if (t_not (t_val (s_isi "bool" (by decide) rfl (z.free 2) (s_var 8) (p_ty (z.free 23) rfl (by decide +kernel))))) (ss_one (st_raiseN (z.c.ck 12) (z.glo 13) rfl rfl tkBN)) ss_nil)))
  (ss_cons (st_setF "Dialect" (He.cls_ok (z.c.ck 15)) (He.noat_ok (z.c.ck 22)) hG rfl (by first | exact Or.inl rfl | exact Or.inr (Or.inl rfl) | exact Or.inr (Or.inr rfl)) (s_var 1))
  (ss_cons (st_setF "Dialect" (He.cls_ok (z.c.ck 15)) (He.noat_ok (z.c.ck 21)) hG rfl (by first | exact Or.inl rfl | exact Or.inr (Or.inl rfl) | exact Or.inr (Or.inr rfl)) (s_var 2))
  (ss_cons (st_setF "Dialect" (He.cls_ok (z.c.ck 15)) (He.noat_ok (z.c.ck 20)) hG rfl (by first | exact Or.inl rfl | exact Or.inr (Or.inl rfl) | exact Or.inr (Or.inr rfl)) (s_var 3))
  (ss_cons (st_setF "Dialect" (He.cls_ok (z.c.ck 15)) (He.noat_ok (z.c.ck 19)) hG rfl (by first | exact Or.inl rfl | exact Or.inr (Or.inl rfl) | exact Or.inr (Or.inr rfl)) (s_var 4))
  (ss_cons (st_setF "Dialect" (He.cls_ok (z.c.ck 15)) (He.noat_ok (z.c.ck 18)) hG rfl (by first | exact Or.inl rfl | exact Or.inr (Or.inl rfl) | exact Or.inr (Or.inr rfl)) (s_var 5))
  (ss_cons (st_setF "Dialect" (He.cls_ok (z.c.ck 15)) (He.noat_ok (z.c.ck 17)) hG rfl (by first | exact Or.inl rfl | exact Or.inr (Or.inl rfl) | exact Or.inr (Or.inr rfl)) (s_var 6))
  (ss_one (st_setF "Dialect" (He.cls_ok (z.c.ck 15)) (He.noat_ok (z.c.ck 16)) hG rfl (by first | exact Or.inl rfl | exact Or.inr (Or.inl rfl) | exact Or.inr (Or.inr rfl)) (s_var 7)))))))))))))
theorem ok_Dialect___init__ (z : Zz cks fns K mg fds) : FnOk P w K mg base (L2.CX P w) 3 (He.fAd K d_Dialect___init__.at_) (fds 8) P_Dialect___init__ (spI K "Dialect" 8 m_Dialect___init__) := fn_ofN (okN_Dialect___init__ z)
/-! ### _law_made -/
theorem Sc__law_made : FnScope N__law_made P__law_made (defScope s__law_made) := ⟨rfl, rfl, rfl, by decide +kernel, rfl, by decide +kernel, by decide +kernel⟩
def b__law_made : M Ctl := (mRet (mCall m_Dialect___init__ [] (mCons (mBin dIx (mVar 0) (mC (.int 0))) (mCons (mBin dIx (mVar 0) (mC (.int 1))) (mCons (mBin dIx (mVar 0) (mC (.int 2))) (mCons (mBin dIx (mVar 0) (mC (.int 3))) (mCons (mBin dIx (mVar 0) (mC (.int 4))) (mCons (mBin dIx (mVar 0) (mC (.int 5))) (mCons (mBin dIx (mVar 0) (mC (.int 6))) mNil)))))))))
def m__law_made : MF := fnM 1 b__law_made
theorem ok__law_made (z : Zz cks fns K mg fds) : FnOk P w K mg base (L2.CX P w) 5 (He.fAd K d__law_made.at_) (fds 9) P__law_made (spM K 1 m__law_made) :=
  fn_mir (z.d 9 d__law_made rfl) Sc__law_made fun cdv A outer s H E G hG hr =>
  (ss_one (st_ret (s_makeE (He.mkr_ok (z.c.ck 28)) ((ok_Dialect___init__ z).mono (by decide)) hr rfl (z.glo 29) (b_Dialect___init___8 z) (fun _ _ => .nil) (hx_of tkB) (a_cons (s_ix (s_var 0) s_int) (a_cons (s_ix (s_var 0) s_int) (a_cons (s_ix (s_var 0) s_int) (a_cons (s_ix (s_var 0) s_int) (a_cons (s_ix (s_var 0) s_int) (a_cons (s_ix (s_var 0) s_int) (a_cons (s_ix (s_var 0) s_int) a_nil))))))) (lm_cons (lm_cons (lm_cons (lm_cons (lm_cons (lm_cons (lm_cons lm_nil))))))) rfl)))
/-! ### _law_title -/
theorem Sc__law_title : FnScope N__law_title P__law_title (defScope s__law_title) := ⟨rfl, rfl, rfl, by decide +kernel, rfl, by decide +kernel, by decide +kernel⟩
def L__law_title_0 : M Ctl := (mSeq (mSet 3 (mBin dAdd (mVar 3) (mBin dIx (mC (.str [97, 98, 99, 100, 101, 102, 103, 104, 105, 106, 107, 108, 109, 110, 111, 112, 113, 114, 115, 116, 117, 118, 119, 120, 121, 122])) (mBin dMod (mVar 1) (mC (.int 26))))))
  (mSet 1 (mBin dFdiv (mVar 1) (mC (.int 26)))))
def b__law_title : M Ctl := (mSeq (mSet 1 (mCall m__law_number [] (mCons (mVar 0) (mCons (mC (.int 71)) mNil))))
  (mSeq (mSet 2 (mBin dAdd (mC (.int 1)) (mBin dMod (mVar 1) (mC (.int 8)))))
  (mSeq (mSet 1 (mBin dFdiv (mVar 1) (mC (.int 8))))
  (mSeq (mSet 3 (mC (.str [])))
  (mSeq (mFor (mRange1 (mCons (mVar 2) mNil)) (gN 4) L__law_title_0)
  (mRet (mVar 3)))))))
def m__law_title : MF := fnM 5 b__law_title
theorem ok__law_title (z : Zz cks fns K mg fds) : FnOk P w K mg base (L2.CX P w) 4 (He.fAd K d__law_title.at_) (fds 10) P__law_title (spM K 1 m__law_title) :=
  fn_mir (z.d 10 d__law_title rfl) Sc__law_title fun cdv A outer s H E G hG hr =>
  (ss_cons (st_set 1 Sc__law_title.nd rfl (by first | exact Or.inl rfl | exact Or.inr rfl) (s_callE ((ok__law_number z).mono (by decide)) hr rfl (z.glo 10) (z.d 3 d__law_number rfl).kp (b__law_number_2 z) (fun _ _ => .nil) (hx_of tkB) (a_cons (s_var 0) (a_cons s_int a_nil)) (lm_cons (lm_cons lm_nil)) rfl))
  (ss_cons (st_set 2 Sc__law_title.nd rfl (by first | exact Or.inl rfl | exact Or.inr rfl) (s_add s_int (s_mod (s_var 1) s_int)))
  (ss_cons (st_set 1 Sc__law_title.nd rfl (by first | exact Or.inl rfl | exact Or.inr rfl) (s_fdiv (s_var 1) s_int))
  (ss_cons (st_set 3 Sc__law_title.nd rfl (by first | exact Or.inl rfl | exact Or.inr rfl) (s_str []))
  (ss_cons (st_for (passes_of rfl) rfl (i_range1 rfl (z.free 7) (a_cons (s_var 2) a_nil)) (g_name 4 Sc__law_title.nd rfl (by first | exact Or.inl rfl | exact Or.inr rfl)) (ss_cons (st_set 3 Sc__law_title.nd rfl (by first | exact Or.inl rfl | exact Or.inr rfl) (s_add (s_var 3) (s_ix (s_str [97, 98, 99, 100, 101, 102, 103, 104, 105, 106, 107, 108, 109, 110, 111, 112, 113, 114, 115, 116, 117, 118, 119, 120, 121, 122]) (s_mod (s_var 1) s_int))))
  (ss_one (st_set 1 Sc__law_title.nd rfl (by first | exact Or.inl rfl | exact Or.inr rfl) (s_fdiv (s_var 1) s_int)))))
  (ss_one (st_ret (s_var 3))))))))
/-! ### NoName.__init__ -/
theorem Sc_NoName___init__ : FnScope N_NoName___init__ P_NoName___init__ (defScope s_NoName___init__) := ⟨rfl, rfl, rfl, by decide +kernel, rfl, by decide +kernel, by decide +kernel⟩
theorem ok_NoName___init__ (z : Zz cks fns K mg fds) : FnOk P w K mg base (L2.CX P w) 2 (He.fAd K d_NoName___init__.at_) (fds 11) P_NoName___init__ (spX K "NoName" ["name"]) :=
  fn_xinit "NoName" "name" [] (z.d 11 d_NoName___init__ rfl) Sc_NoName___init__ rfl rfl (by decide) (oex_ok (z.c.ck 31)) (all_cons (He.noat_ok (z.c.ck 30)) all_nil) fun cdv A outer s H E => (pss_cons (ps_ost (pe_var (i := 0) rfl (by first | exact Or.inl rfl | exact Or.inr (Or.inl rfl) | exact Or.inr (Or.inr rfl))) (pe_var (i := 1) rfl (by first | exact Or.inl rfl | exact Or.inr (Or.inl rfl) | exact Or.inr (Or.inr rfl)))) pss_nil)
/-! ### Dialect.told -/
theorem Sc_Dialect_told : FnScope N_Dialect_told P_Dialect_told (defScope s_Dialect_told) := ⟨rfl, rfl, rfl, by decide +kernel, rfl, by decide +kernel, by decide +kernel⟩
def b_Dialect_told : M Ctl := (mRet (mTup (mCons (mFld ["Dialect"] "parts" (mVar 0)) (mCons (mFld ["Dialect"] "quotes" (mVar 0)) (mCons (mFld ["Dialect"] "frees" (mVar 0)) (mCons (mFld ["Dialect"] "twin" (mVar 0)) (mCons (mFld ["Dialect"] "wide" (mVar 0)) (mCons (mFld ["Dialect"] "thin" (mVar 0)) (mCons (mFld ["Dialect"] "stray" (mVar 0)) mNil)))))))))
def m_Dialect_told : MF := fnM 1 b_Dialect_told
theorem ok_Dialect_told (z : Zz cks fns K mg fds) : FnOk P w K mg base (L2.CX P w) 2 (He.fAd K d_Dialect_told.at_) (fds 12) P_Dialect_told (spM K 1 m_Dialect_told) :=
  fn_mir (z.d 12 d_Dialect_told rfl) Sc_Dialect_told fun cdv A outer s H E G hG hr =>
  (ss_one (st_ret (s_tup (a_cons (s_fld ["Dialect"] (all_cons ⟨He.cls_ok (z.c.ck 15), He.noat_ok (z.c.ck 22)⟩ all_nil) (s_var 0)) (a_cons (s_fld ["Dialect"] (all_cons ⟨He.cls_ok (z.c.ck 15), He.noat_ok (z.c.ck 21)⟩ all_nil) (s_var 0)) (a_cons (s_fld ["Dialect"] (all_cons ⟨He.cls_ok (z.c.ck 15), He.noat_ok (z.c.ck 20)⟩ all_nil) (s_var 0)) (a_cons (s_fld ["Dialect"] (all_cons ⟨He.cls_ok (z.c.ck 15), He.noat_ok (z.c.ck 19)⟩ all_nil) (s_var 0)) (a_cons (s_fld ["Dialect"] (all_cons ⟨He.cls_ok (z.c.ck 15), He.noat_ok (z.c.ck 18)⟩ all_nil) (s_var 0)) (a_cons (s_fld ["Dialect"] (all_cons ⟨He.cls_ok (z.c.ck 15), He.noat_ok (z.c.ck 17)⟩ all_nil) (s_var 0)) (a_cons (s_fld ["Dialect"] (all_cons ⟨He.cls_ok (z.c.ck 15), He.noat_ok (z.c.ck 16)⟩ all_nil) (s_var 0)) a_nil))))))))))
/-! ### number_at -/
theorem Sc_number_at : FnScope N_number_at P_number_at (defScope s_number_at) := ⟨rfl, rfl, rfl, by decide +kernel, rfl, by decide +kernel, by decide +kernel⟩
def b_number_at : M Ctl := (mRet (mBin dAdd (mBin dAdd (mC (.int 32)) (mVar 0)) (mCallB dInt (mCons (mBin dGt (mVar 0) (mC (.int 4))) mNil))))
def m_number_at : MF := fnM 1 b_number_at
theorem ok_number_at (z : Zz cks fns K mg fds) : FnOk P w K mg base (L2.CX P w) 2 (He.fAd K d_number_at.at_) (fds 13) P_number_at (spM K 1 m_number_at) :=
  fn_mir (z.d 13 d_number_at rfl) Sc_number_at fun cdv A outer s H E G hG hr =>
  (ss_one (st_ret (s_add (s_add s_int (s_var 0)) (s_int1 rfl (z.free 32) (a_cons (s_cmp (c_gt) (s_var 0) s_int) a_nil)))))
/-! ### numbers_told -/
theorem Sc_numbers_told : FnScope N_numbers_told P_numbers_told (defScope s_numbers_told) := ⟨rfl, rfl, rfl, by decide +kernel, rfl, by decide +kernel, by decide +kernel⟩
def C_numbers_told_0 : M D := (mCallB dStr (mCons (mCall m_number_at [] (mCons (mMt1 dIndex (mC (.str [32, 33, 34, 35, 36, 38, 39, 40, 41, 42, 43, 44, 45, 46, 47, 48, 49, 50, 51, 52, 53, 54, 55, 56, 57, 58, 59, 60, 61, 62, 63, 64, 65, 66, 67, 68, 69, 70, 71, 72, 73, 74, 75, 76, 77, 78, 79, 80, 81, 82, 83, 84, 85, 86, 87, 88, 89, 90, 91, 92, 93, 94, 95, 96, 97, 98, 99, 100, 101, 102, 103, 104, 105, 106, 107, 108, 109, 110, 111, 112, 113, 114, 115, 116, 117, 118, 119, 120, 121, 122, 123, 124, 125, 126])) (mVar 1)) mNil)) mNil))
def b_numbers_told : M Ctl := (mSeq (mIfS (mTest (mBin dEq (mVar 0) (mC (.str [])))) (mRet (mC (.str [45]))) mNext)
  (mRet (mMt1 dJoin (mC (.str [43])) (mLst (mLc [1] (mIts (mVar 0)) (gN 1) mYes C_numbers_told_0)))))
def m_numbers_told : MF := fnM 2 b_numbers_told
theorem ok_numbers_told (z : Zz cks fns K mg fds) : FnOk P w K mg base (L2.CX P w) 3 (He.fAd K d_numbers_told.at_) (fds 14) P_numbers_told (spM K 1 m_numbers_told) :=
  fn_mir (z.d 14 d_numbers_told rfl) Sc_numbers_told fun cdv A outer s H E G hG hr =>
  (ss_cons (st_if (t_cmp (c_eq hr) (s_var 0) (s_str [])) (ss_one (st_ret (s_str [45]))) ss_nil)
  (ss_one (st_ret (s_join (s_str [43]) (s_lst (f_lc (own := [("sign", 1)]) rfl Sc_numbers_told.nd (i_its (s_var 0)) (blkOk_by (own := [("sign", 1)]) (N := N_numbers_told) (sc := defScope s_numbers_told) (by decide +kernel)) (compG_name 1 (by decide)) (fun _ _ _ _ _ => pg_name (i := 1) Sc_numbers_told.nd rfl (Or.inl rfl)) (fun _ _ _ _ _ _ => ts_nil) (fun _ _ _ _ _ _ => (s_str1 rfl (z.free 3) (a_cons (s_callE ((ok_number_at z).mono (by decide)) hr rfl (z.glo 34) (z.d 13 d_number_at rfl).kp (b_number_at_1 z) (fun _ _ => .nil) hx_none (a_cons (s_index (s_gstr [32, 33, 34, 35, 36, 38, 39, 40, 41, 42, 43, 44, 45, 46, 47, 48, 49, 50, 51, 52, 53, 54, 55, 56, 57, 58, 59, 60, 61, 62, 63, 64, 65, 66, 67, 68, 69, 70, 71, 72, 73, 74, 75, 76, 77, 78, 79, 80, 81, 82, 83, 84, 85, 86, 87, 88, 89, 90, 91, 92, 93, 94, 95, 96, 97, 98, 99, 100, 101, 102, 103, 104, 105, 106, 107, 108, 109, 110, 111, 112, 113, 114, 115, 116, 117, 118, 119, 120, 121, 122, 123, 124, 125, 126] (z.str 33) rfl (by decide +kernel)) (s_var 1)) a_nil) (lm_cons lm_nil) rfl) a_nil)))))))))
/-! ### row_of -/
theorem Sc_row_of : FnScope N_row_of P_row_of (defScope s_row_of) := ⟨rfl, rfl, rfl, by decide +kernel, rfl, by decide +kernel, by decide +kernel⟩
def C_row_of_0 : M D := (mCall m_numbers_told [] (mCons (mVar 5) mNil))
def C_row_of_1 : M D := (mCallB dStr (mCons (mCallB dInt (mCons (mVar 4) mNil)) mNil))
def b_row_of : M Ctl := (mSeq (mIfS (mTNot (mTest (mCall m_is_name [] (mCons (mVar 0) mNil)))) (mRaiseX "NoName" ["name"] (mCons (mVar 0) mNil)) mNext)
  (mSeq (mSet 2 (mMeth "told" [("Dialect", m_Dialect_told)] [] (mVar 1) mNil))
  (mSeq (mSet 3 (mMt1 dJoin (mC (.str [])) (mLst (mLc [4] (mIts (mSlcA (mVar 2) (mPart (mC (.int 3))) mNoPart)) (gN 4) mYes C_row_of_1))))
  (mRet (mMt1 dJoin (mC (.str [32])) (mBin dAdd (mBin dAdd (mLst (mSml (mCons (mC (.str [100, 105, 97, 108, 101, 99, 116])) (mCons (mVar 0) mNil)))) (mLst (mLc [5] (mIts (mSlcA (mVar 2) mNoPart (mPart (mC (.int 3))))) (gN 5) mYes C_row_of_0))) (mLst (mSml (mCons (mVar 3) mNil)))))))))
def m_row_of : MF := fnM 6 b_row_of
theorem ok_row_of (z : Zz cks fns K mg fds) : FnOk P w K mg base (L2.CX P w) 4 (He.fAd K d_row_of.at_) (fds 15) P_row_of (spM K 2 m_row_of) :=
  fn_mir (z.d 15 d_row_of rfl) Sc_row_of fun cdv A outer s H E G hG hr =>
  (ss_cons (st_if (t_not (t_val (s_callE ((ok_is_name z).mono (by decide)) hr rfl (z.glo 37) (z.d 0 d_is_name rfl).kp (b_is_name_1 z) (fun _ _ => .nil) (hx_of tkB) (a_cons (s_var 0) a_nil) (lm_cons lm_nil) rfl))) (ss_one (st_raiseX ["name"] (oex_ok (z.c.ck 31)) (He.meth_ok (z.c.ck 38)).at_ (beq_iff_eq.mp (He.meth_ok (z.c.ck 38)).fn) ((ok_NoName___init__ z).mono (by decide)) hr (bn_NoName___init__ z) rfl (z.glo 39) rfl tkB (a_cons (s_var 0) a_nil))) ss_nil)
  (ss_cons (st_set 2 Sc_row_of.nd rfl (by first | exact Or.inl rfl | exact Or.inr rfl) (s_meth0 (s_var 1) (all_cons (meth_of (He.cls_ok (z.c.ck 15)) (He.meth_ok (z.c.ck 36)) ((ok_Dialect_told z).mono (by decide)) (b_Dialect_told_1 z) (fun _ _ => .nil)) all_nil) hr (hx_of tkB)))
  (ss_cons (st_set 3 Sc_row_of.nd rfl (by first | exact Or.inl rfl | exact Or.inr rfl) (s_join (s_str []) (s_lst (f_lc (own := [("truth", 4)]) rfl Sc_row_of.nd (i_its (s_slcA (s_var 2) (o_some s_int) o_none)) (blkOk_by (own := [("truth", 4)]) (N := N_row_of) (sc := defScope s_row_of) (by decide +kernel)) (compG_name 4 (by decide)) (fun _ _ _ _ _ => pg_name (i := 4) Sc_row_of.nd rfl (Or.inl rfl)) (fun _ _ _ _ _ _ => ts_nil) (fun _ _ _ _ _ _ => (s_str1 rfl (z.free 3) (a_cons (s_int1 rfl (z.free 32) (a_cons (s_var 4) a_nil)) a_nil)))))))
  (ss_one (st_ret (s_join (s_str [32]) (s_add (s_add (s_lst (f_lst (a_cons (s_str [100, 105, 97, 108, 101, 99, 116]) (a_cons (s_var 0) a_nil)))) (s_lst (f_lc (own := [("some", 5)]) rfl Sc_row_of.nd (i_its (s_slcA (s_var 2) o_none (o_some s_int))) (blkOk_by (own := [("some", 5)]) (N := N_row_of) (sc := defScope s_row_of) (by decide +kernel)) (compG_name 5 (by decide)) (fun _ _ _ _ _ => pg_name (i := 5) Sc_row_of.nd rfl (Or.inl rfl)) (fun _ _ _ _ _ _ => ts_nil) (fun _ _ _ _ _ _ => (s_callE ((ok_numbers_told z).mono (by decide)) hr rfl (z.glo 35) (z.d 14 d_numbers_told rfl).kp (b_numbers_told_1 z) (fun _ _ => .nil) hx_none (a_cons (s_var 5) a_nil) (lm_cons lm_nil) rfl))))) (s_lst (f_lst (a_cons (s_var 3) a_nil))))))))))
/-! ### _law_refused -/
theorem Sc__law_refused : FnScope N__law_refused P__law_refused (defScope s__law_refused) := ⟨rfl, rfl, rfl, by decide +kernel, rfl, by decide +kernel, by decide +kernel⟩
def b__law_refused : M Ctl := (mSeq (mTry (mDrop (mCall m_row_of [] (mCons (mVar 0) (mCons (mVar 1) mNil)))) [([("NoDialect", false), ("NoRow", false), ("NoName", true)], some 2, (mSeq (mIfS (mTOr (mTest (mIsX [("NoDialect", true), ("NoRow", true), ("NoName", false)] 2)) (mTNot (mTest (mIsX [("NoDialect", true), ("NoRow", true), ("NoName", true)] 2)))) (mRet (mC (.bl false))) mNext)
  (mRet (mAnd (mIsX [("NoDialect", true), ("NoRow", true), ("NoName", true)] 2) (mAnd (mBin dEq (mIsi "bool" (mXf "NoName" "name" 2)) (mIsi "bool" (mVar 0))) (mBin dEq (mXf "NoName" "name" 2) (mVar 0)))))))] mNext)
  (mRet (mC (.bl false))))
def m__law_refused : MF := fnM 3 b__law_refused
theorem ok__law_refused (z : Zz cks fns K mg fds) : FnOk P w K mg base (L2.CX P w) 5 (He.fAd K d__law_refused.at_) (fds 16) P__law_refused (spM K 2 m__law_refused) :=
  fn_mir (z.d 16 d__law_refused rfl) Sc__law_refused fun cdv A outer s H E G hG hr =>
  (ss_cons (st_try hG rfl rfl tkB (fun W1 pn xe tk1 hp1 => (ss_one (st_expr (s_callE ((ok_row_of z).mono (by decide)) hr rfl (z.glo 40) (z.d 15 d_row_of rfl).kp (b_row_of_2 z) (fun _ _ => .nil) (hx_of tk1) (a_cons (s_var 0) (a_cons (s_var 1) a_nil)) (lm_cons (lm_cons lm_nil)) rfl)))) (.named 2 ⟨rfl, by decide, .inl (z.glo 39)⟩ (relE_cons (z.c.ck 61) (relE_cons (z.c.ck 60) (relE_cons (z.c.ck 59) relE_nil))) Sc__law_refused.nd rfl rfl (fun a oe cls d pn hz hf => (ss_cons (st_if (t_w (w_or (t_val (s_isXT [("NoDialect", true), ("NoRow", true), ("NoName", false)] 2 hz hf (relT_cons (xs := ["NoDialect", "NoRow", "NoTable", "NoText"]) (z.c.ck 45) (z.c.ck 51) (relT_cons (xs := ["NoDialect", "NoRow", "NoTable", "NoText"]) (z.c.ck 43) (z.c.ck 50) (relT_cons (xs := ["NoDialect", "NoRow", "NoTable", "NoText"]) (z.c.ck 41) (z.c.ck 49) relT_nil))) (Nat.le_of_ble_eq_true rfl) rfl (by first | exact Or.inl rfl | exact Or.inr (Or.inl rfl) | exact Or.inr (Or.inr rfl)) rfl (z.free 2) (.cons (p_cls (z.glo 13) rfl) (.own _) rfl (.cons (p_cls (z.glo 54) rfl) (.own _) rfl (.cons (p_cls (z.glo 53) rfl) (.own _) rfl (.cons (p_cls (z.glo 52) rfl) (.own _) rfl .nil)))))) (w_or1 (t_not (t_val (s_isX [("NoDialect", true), ("NoRow", true), ("NoName", true)] 2 hz hf (relK_ty (z.c.ck 45) (z.c.ck 57) (relK_ty (z.c.ck 43) (z.c.ck 56) (relK_ty (z.c.ck 41) (z.c.ck 55) relK_nil))) rfl (by first | exact Or.inl rfl | exact Or.inr (Or.inl rfl) | exact Or.inr (Or.inr rfl)) rfl (z.free 2) (p_ty (z.free 58) rfl (by decide +kernel)) (.ty _))))))) (ss_one (st_ret s_bl)) ss_nil)
  (ss_one (st_ret (s_and (s_isX [("NoDialect", true), ("NoRow", true), ("NoName", true)] 2 hz hf (relK_own (z.c.ck 45) (z.c.ck 46) (relK_own (z.c.ck 43) (z.c.ck 44) (relK_own (z.c.ck 41) (z.c.ck 42) relK_nil))) rfl (by first | exact Or.inl rfl | exact Or.inr (Or.inl rfl) | exact Or.inr (Or.inr rfl)) rfl (z.free 2) (p_cls (z.glo 47) rfl) (.own _)) (s_and (s_cmp (c_eqS hr) (s_isi "bool" (by decide) rfl (z.free 2) (s_xf "NoName" "name" 2 (xf_ok (z.c.ck 48)) (He.noat_ok (z.c.ck 30)) hz hf rfl (by first | exact Or.inl rfl | exact Or.inr (Or.inl rfl) | exact Or.inr (Or.inr rfl))) (p_ty (z.free 23) rfl (by decide +kernel))) (s_isi "bool" (by decide) rfl (z.free 2) (s_var 0) (p_ty (z.free 23) rfl (by decide +kernel)))) (s_one (s_cmp (c_eqS hr) (s_xf "NoName" "name" 2 (xf_ok (z.c.ck 48)) (He.noat_ok (z.c.ck 30)) hz hf rfl (by first | exact Or.inl rfl | exact Or.inr (Or.inl rfl) | exact Or.inr (Or.inr rfl))) (s_var 0))))))))) .nil) ss_nil)
  (ss_one (st_ret s_bl)))
/-! ### sign_of -/
theorem Sc_sign_of : FnScope N_sign_of P_sign_of (defScope s_sign_of) := ⟨rfl, rfl, rfl, by decide +kernel, rfl, by decide +kernel, by decide +kernel⟩
def L_sign_of_0 : M Ctl := (mIfS (mTest (mBin dEq (mCallB dStr (mCons (mCall m_number_at [] (mCons (mVar 1) mNil)) mNil)) (mVar 0))) (mRet (mBin dIx (mC (.str [32, 33, 34, 35, 36, 38, 39, 40, 41, 42, 43, 44, 45, 46, 47, 48, 49, 50, 51, 52, 53, 54, 55, 56, 57, 58, 59, 60, 61, 62, 63, 64, 65, 66, 67, 68, 69, 70, 71, 72, 73, 74, 75, 76, 77, 78, 79, 80, 81, 82, 83, 84, 85, 86, 87, 88, 89, 90, 91, 92, 93, 94, 95, 96, 97, 98, 99, 100, 101, 102, 103, 104, 105, 106, 107, 108, 109, 110, 111, 112, 113, 114, 115, 116, 117, 118, 119, 120, 121, 122, 123, 124, 125, 126])) (mVar 1))) mNext)
def b_sign_of : M Ctl := (mSeq (mFor (mRange1 (mCons (mCallB dLen (mCons (mC (.str [32, 33, 34, 35, 36, 38, 39, 40, 41, 42, 43, 44, 45, 46, 47, 48, 49, 50, 51, 52, 53, 54, 55, 56, 57, 58, 59, 60, 61, 62, 63, 64, 65, 66, 67, 68, 69, 70, 71, 72, 73, 74, 75, 76, 77, 78, 79, 80, 81, 82, 83, 84, 85, 86, 87, 88, 89, 90, 91, 92, 93, 94, 95, 96, 97, 98, 99, 100, 101, 102, 103, 104, 105, 106, 107, 108, 109, 110, 111, 112, 113, 114, 115, 116, 117, 118, 119, 120, 121, 122, 123, 124, 125, 126])) mNil)) mNil)) (gN 1) L_sign_of_0)
  (mRaise "NoRow"))
def m_sign_of : MF := fnM 2 b_sign_of
theorem ok_sign_of (z : Zz cks fns K mg fds) : FnOk P w K mg base (L2.CX P w) 3 (He.fAd K d_sign_of.at_) (fds 17) P_sign_of (spM K 1 m_sign_of) :=
  fn_mir (z.d 17 d_sign_of rfl) Sc_sign_of fun cdv A outer s H E G hG hr =>
  (ss_cons (st_for (passes_of rfl) rfl (i_range1 rfl (z.free 7) (a_cons (s_len rfl (z.free 4) (a_cons (s_gstr [32, 33, 34, 35, 36, 38, 39, 40, 41, 42, 43, 44, 45, 46, 47, 48, 49, 50, 51, 52, 53, 54, 55, 56, 57, 58, 59, 60, 61, 62, 63, 64, 65, 66, 67, 68, 69, 70, 71, 72, 73, 74, 75, 76, 77, 78, 79, 80, 81, 82, 83, 84, 85, 86, 87, 88, 89, 90, 91, 92, 93, 94, 95, 96, 97, 98, 99, 100, 101, 102, 103, 104, 105, 106, 107, 108, 109, 110, 111, 112, 113, 114, 115, 116, 117, 118, 119, 120, 121, 122, 123, 124, 125, 126] (z.str 33) rfl (by decide +kernel)) a_nil)) a_nil)) (g_name 1 Sc_sign_of.nd rfl (by first | exact Or.inl rfl | exact Or.inr rfl)) (ss_one (st_if (t_cmp (c_eq hr) (s_str1 rfl (z.free 3) (a_cons (s_callE ((ok_number_at z).mono (by decide)) hr rfl (z.glo 34) (z.d 13 d_number_at rfl).kp (b_number_at_1 z) (fun _ _ => .nil) (hx_of tkB) (a_cons (s_var 1) a_nil) (lm_cons lm_nil) rfl) a_nil)) (s_var 0)) (ss_one (st_ret (s_ix (s_gstr [32, 33, 34, 35, 36, 38, 39, 40, 41, 42, 43, 44, 45, 46, 47, 48, 49, 50, 51, 52, 53, 54, 55, 56, 57, 58, 59, 60, 61, 62, 63, 64, 65, 66, 67, 68, 69, 70, 71, 72, 73, 74, 75, 76, 77, 78, 79, 80, 81, 82, 83, 84, 85, 86, 87, 88, 89, 90, 91, 92, 93, 94, 95, 96, 97, 98, 99, 100, 101, 102, 103, 104, 105, 106, 107, 108, 109, 110, 111, 112, 113, 114, 115, 116, 117, 118, 119, 120, 121, 122, 123, 124, 125, 126] (z.str 33) rfl (by decide +kernel)) (s_var 1)))) ss_nil)))
  (ss_one (st_raise (z.c.ck 62) (z.glo 54) rfl rfl tkB)))
/-! ### signs_told -/
theorem Sc_signs_told : FnScope N_signs_told P_signs_told (defScope s_signs_told) := ⟨rfl, rfl, rfl, by decide +kernel, rfl, by decide +kernel, by decide +kernel⟩
def C_signs_told_0 : M D := (mCall m_sign_of [] (mCons (mVar 1) mNil))
def b_signs_told : M Ctl := (mSeq (mIfS (mTest (mBin dEq (mVar 0) (mC (.str [45])))) (mRet (mC (.str []))) mNext)
  (mRet (mMt1 dJoin (mC (.str [])) (mLst (mLc [1] (mIts (mLst (mSplit (mVar 0) (mC (.str [43]))))) (gN 1) mYes C_signs_told_0)))))
def m_signs_told : MF := fnM 2 b_signs_told
theorem ok_signs_told (z : Zz cks fns K mg fds) : FnOk P w K mg base (L2.CX P w) 4 (He.fAd K d_signs_told.at_) (fds 18) P_signs_told (spM K 1 m_signs_told) :=
  fn_mir (z.d 18 d_signs_told rfl) Sc_signs_told fun cdv A outer s H E G hG hr =>
  (ss_cons (st_if (t_cmp (c_eq hr) (s_var 0) (s_str [45])) (ss_one (st_ret (s_str []))) ss_nil)
  (ss_one (st_ret (s_join (s_str []) (s_lst (f_lc (own := [("part", 1)]) rfl Sc_signs_told.nd (i_its (s_lst (f_split (s_var 0) (s_str [43])))) (blkOk_by (own := [("part", 1)]) (N := N_signs_told) (sc := defScope s_signs_told) (by decide +kernel)) (compG_name 1 (by decide)) (fun _ _ _ _ _ => pg_name (i := 1) Sc_signs_told.nd rfl (Or.inl rfl)) (fun _ _ _ _ _ _ => ts_nil) (fun _ _ _ _ _ _ => (s_callE ((ok_sign_of z).mono (by decide)) hr rfl (z.glo 63) (z.d 17 d_sign_of rfl).kp (b_sign_of_1 z) (fun _ _ => .nil) hx_none (a_cons (s_var 1) a_nil) (lm_cons lm_nil) rfl))))))))
/-! ### truths_told -/
theorem Sc_truths_told : FnScope N_truths_told P_truths_told (defScope s_truths_told) := ⟨rfl, rfl, rfl, by decide +kernel, rfl, by decide +kernel, by decide +kernel⟩
def C_truths_told_0 : M D := (mBin dEq (mVar 1) (mC (.str [49])))
def C_truths_told_1 : M D := (mBin dIn (mVar 1) (mC (.str [48, 49])))
def b_truths_told : M Ctl := (mSeq (mIfS (mTOr (mTest (mBin dNe (mCallB dLen (mCons (mVar 0) mNil)) (mC (.int 4)))) (mTNot (mTest (mCallB dAll (mCons (mLst (mLc [1] (mIts (mVar 0)) (gN 1) mYes C_truths_told_1)) mNil))))) (mRaise "NoRow") mNext)
  (mRet (mLst (mLc [1] (mIts (mVar 0)) (gN 1) mYes C_truths_told_0))))
def m_truths_told : MF := fnM 2 b_truths_told
theorem ok_truths_told (z : Zz cks fns K mg fds) : FnOk P w K mg base (L2.CX P w) 2 (He.fAd K d_truths_told.at_) (fds 19) P_truths_told (spM K 1 m_truths_told) :=
  fn_mir (z.d 19 d_truths_told rfl) Sc_truths_told fun cdv A outer s H E G hG hr =>
  (ss_cons (st_if (t_w (w_or (t_cmp (c_ne hr) (s_len rfl (z.free 4) (a_cons (s_var 0) a_nil)) s_int) (w_or1 (t_not (t_val (s_all rfl rfl (z.free 1) (a_cons (s_lst (f_lc (own := [("figure", 1)]) rfl Sc_truths_told.nd (i_its (s_var 0)) (blkOk_by (own := [("figure", 1)]) (N := N_truths_told) (sc := defScope s_truths_told) (by decide +kernel)) (compG_name 1 (by decide)) (fun _ _ _ _ _ => pg_name (i := 1) Sc_truths_told.nd rfl (Or.inl rfl)) (fun _ _ _ _ _ _ => ts_nil) (fun _ _ _ _ _ _ => (s_cmp (c_in hr) (s_var 1) (s_str [48, 49]))))) a_nil))))))) (ss_one (st_raise (z.c.ck 62) (z.glo 54) rfl rfl tkB)) ss_nil)
  (ss_one (st_ret (s_lst (f_lc (own := [("figure", 1)]) rfl Sc_truths_told.nd (i_its (s_var 0)) (blkOk_by (own := [("figure", 1)]) (N := N_truths_told) (sc := defScope s_truths_told) (by decide +kernel)) (compG_name 1 (by decide)) (fun _ _ _ _ _ => pg_name (i := 1) Sc_truths_told.nd rfl (Or.inl rfl)) (fun _ _ _ _ _ _ => ts_nil) (fun _ _ _ _ _ _ => (s_cmp (c_eq hr) (s_var 1) (s_str [49]))))))))
/-! ### dialect_in -/
theorem Sc_dialect_in : FnScope N_dialect_in P_dialect_in (defScope s_dialect_in) := ⟨rfl, rfl, rfl, by decide +kernel, rfl, by decide +kernel, by decide +kernel⟩
def C_dialect_in_0 : M D := (mCall m_signs_told [] (mCons (mVar 7) mNil))
def b_dialect_in : M Ctl := (mSeq (mIfS (mTNot (mTest (mIsi "str" (mVar 0)))) (mRaise "NoRow") mNext)
  (mSeq (mSet 1 (mLst (mSplit (mVar 0) (mC (.str [32])))))
  (mSeq (mIfS (mTOr (mTest (mBin dNe (mCallB dLen (mCons (mVar 1) mNil)) (mC (.int 6)))) (mTOr (mTest (mBin dNe (mBin dIx (mVar 1) (mC (.int 0))) (mC (.str [100, 105, 97, 108, 101, 99, 116])))) (mTNot (mTest (mCall m_is_name [] (mCons (mBin dIx (mVar 1) (mC (.int 1))) mNil)))))) (mRaise "NoRow") mNext)
  (mSeq (mAsg (mLst (mLc [7] (mIts (mSlcA (mVar 1) (mPart (mC (.int 2))) (mPart (mC (.int 5))))) (gN 7) mYes C_dialect_in_0)) (gL 3 (gsCons (gN 2) (gsCons (gN 3) (gsCons (gN 4) gsNil)))))
  (mSeq (mSet 5 (mCall m_truths_told [] (mCons (mBin dIx (mVar 1) (mC (.int 5))) mNil)))
  (mSeq (mTryRe [("NoDialect", true), ("NoRow", false), ("NoName", false)] "NoRow" (mSet 6 (mCall m_Dialect___init__ [] (mCons (mVar 2) (mCons (mVar 3) (mCons (mVar 4) (mCons (mBin dIx (mVar 5) (mC (.int 0))) (mCons (mBin dIx (mVar 5) (mC (.int 1))) (mCons (mBin dIx (mVar 5) (mC (.int 2))) (mCons (mBin dIx (mVar 5) (mC (.int 3))) mNil))))))))))
  (mRet (mTup (mCons (mBin dIx (mVar 1) (mC (.int 1))) (mCons (mVar 6) mNil))))))))))
def m_dialect_in : MF := fnM 8 b_dialect_in
theorem ok_dialect_in (z : Zz cks fns K mg fds) : FnOk P w K mg base (L2.CX P w) 5 (He.fAd K d_dialect_in.at_) (fds 20) P_dialect_in (spM K 1 m_dialect_in) :=
  fn_mir (z.d 20 d_dialect_in rfl) Sc_dialect_in fun cdv A outer s H E G hG hr =>
  (ss_cons (st_if (t_not (t_val (s_isi "str" (by decide) rfl (z.free 2) (s_var 0) (p_ty (z.free 3) rfl (by decide +kernel))))) (ss_one (st_raise (z.c.ck 62) (z.glo 54) rfl rfl tkB)) ss_nil)
  (ss_cons (st_set 1 Sc_dialect_in.nd rfl (by first | exact Or.inl rfl | exact Or.inr rfl) (s_lst (f_split (s_var 0) (s_str [32]))))
  (ss_cons (st_if (t_w (w_or (t_cmp (c_ne hr) (s_len rfl (z.free 4) (a_cons (s_var 1) a_nil)) s_int) (w_or (t_cmp (c_ne hr) (s_ix (s_var 1) s_int) (s_str [100, 105, 97, 108, 101, 99, 116])) (w_or1 (t_not (t_val (s_callE ((ok_is_name z).mono (by decide)) hr rfl (z.glo 37) (z.d 0 d_is_name rfl).kp (b_is_name_1 z) (fun _ _ => .nil) (hx_of tkB) (a_cons (s_ix (s_var 1) s_int) a_nil) (lm_cons lm_nil) rfl))))))) (ss_one (st_raise (z.c.ck 62) (z.glo 54) rfl rfl tkB)) ss_nil)
  (ss_cons (st_asg (s_lst (f_lc (own := [("word", 7)]) rfl Sc_dialect_in.nd (i_its (s_slcA (s_var 1) (o_some s_int) (o_some s_int))) (blkOk_by (own := [("word", 7)]) (N := N_dialect_in) (sc := defScope s_dialect_in) (by decide +kernel)) (compG_name 7 (by decide)) (fun _ _ _ _ _ => pg_name (i := 7) Sc_dialect_in.nd rfl (Or.inl rfl)) (fun _ _ _ _ _ _ => ts_nil) (fun _ _ _ _ _ _ => (s_callE ((ok_signs_told z).mono (by decide)) hr rfl (z.glo 68) (z.d 18 d_signs_told rfl).kp (b_signs_told_1 z) (fun _ _ => .nil) hx_none (a_cons (s_var 7) a_nil) (lm_cons lm_nil) rfl)))) (g_lst 3 rfl (gs_cons (g_name 2 Sc_dialect_in.nd rfl (by first | exact Or.inl rfl | exact Or.inr rfl)) (gs_cons (g_name 3 Sc_dialect_in.nd rfl (by first | exact Or.inl rfl | exact Or.inr rfl)) (gs_cons (g_name 4 Sc_dialect_in.nd rfl (by first | exact Or.inl rfl | exact Or.inr rfl)) gs_nil)))))
  (ss_cons (st_set 5 Sc_dialect_in.nd rfl (by first | exact Or.inl rfl | exact Or.inr rfl) (s_callE ((ok_truths_told z).mono (by decide)) hr rfl (z.glo 67) (z.d 19 d_truths_told rfl).kp (b_truths_told_1 z) (fun _ _ => .nil) (hx_of tkB) (a_cons (s_ix (s_var 1) s_int) a_nil) (lm_cons lm_nil) rfl))
  (ss_cons (st_tryRe rfl rfl ⟨rfl, by decide, .inl (z.glo 13)⟩ (relE_cons (z.c.ck 66) (relE_cons (z.c.ck 65) (relE_cons (z.c.ck 64) relE_nil))) (L2H.passesAt_of rfl) tkB (z.c.ck 62) (z.glo 54) rfl (fun W1 pn xe tk1 => (ss_one (st_set 6 Sc_dialect_in.nd rfl (by first | exact Or.inl rfl | exact Or.inr rfl) (s_makeE (He.mkr_ok (z.c.ck 28)) ((okN_Dialect___init__ z).mono (by decide)) hr rfl (z.glo 29) (b_Dialect___init___8 z) (fun _ _ => .nil) (hx_ofN tk1) (a_cons (s_var 2) (a_cons (s_var 3) (a_cons (s_var 4) (a_cons (s_ix (s_var 5) s_int) (a_cons (s_ix (s_var 5) s_int) (a_cons (s_ix (s_var 5) s_int) (a_cons (s_ix (s_var 5) s_int) a_nil))))))) (lm_cons (lm_cons (lm_cons (lm_cons (lm_cons (lm_cons (lm_cons lm_nil))))))) rfl)))))
  (ss_one (st_ret (s_tup (a_cons (s_ix (s_var 1) s_int) (a_cons (s_var 6) a_nil)))))))))))
/-! ### _law_row -/
theorem Sc__law_row : FnScope N__law_row P__law_row (defScope s__law_row) := ⟨rfl, rfl, rfl, by decide +kernel, rfl, by decide +kernel, by decide +kernel⟩
def C__law_row_0 : M D := (mCallB dStr (mCons (mCallB dInt (mCons (mVar 8) mNil)) mNil))
def L__law_row_1 : M Ctl := (mSeq (mSet 7 (mMt1 dIndex (mVar 2) (mVar 6)))
  (mAppend 5 (mCallB dStr (mCons (mBin dIx (mLst (mSml (mCons (mBin dAdd (mC (.int 32)) (mVar 7)) (mCons (mBin dAdd (mC (.int 33)) (mVar 7)) mNil)))) (mCallB dInt (mCons (mBin dGt (mVar 7) (mC (.int 4))) mNil))) mNil))))
def L__law_row_2 : M Ctl := (mSeq (mSetOwn 5 (mSml mNil))
  (mSeq (mFor (mIts (mVar 4)) (gN 6) L__law_row_1)
  (mSeq (mAppend 3 (mMt1 dJoin (mC (.str [43])) (mFrz 5)))
  (mIfS (mTest (mBin dEq (mVar 4) (mC (.str [])))) (mSetIx 3 (mNeg (mC (.int 1))) (mC (.str [45]))) mNext))))
def b__law_row : M Ctl := (mSeq (mSet 2 (mBin dIx (mCall m__law_menus [] (mCons (mC (.int 2)) mNil)) (mC (.int 0))))
  (mSeq (mSetOwn 3 (mSml (mCons (mC (.str [100, 105, 97, 108, 101, 99, 116])) (mCons (mVar 0) mNil))))
  (mSeq (mFor (mIts (mSlcA (mVar 1) mNoPart (mPart (mC (.int 3))))) (gN 4) L__law_row_2)
  (mRet (mMt1 dJoin (mC (.str [32])) (mBin dAdd (mFrz 3) (mLst (mSml (mCons (mMt1 dJoin (mC (.str [])) (mLst (mLc [8] (mIts (mSlcA (mVar 1) (mPart (mC (.int 3))) mNoPart)) (gN 8) mYes C__law_row_0))) mNil)))))))))
def m__law_row : MF := fnM 9 b__law_row
theorem ok__law_row (z : Zz cks fns K mg fds) : FnOk P w K mg base (L2.CX P w) 3 (He.fAd K d__law_row.at_) (fds 21) P__law_row (spM K 2 m__law_row) :=
  fn_mir (z.d 21 d__law_row rfl) Sc__law_row fun cdv A outer s H E G hG hr =>
  (ss_cons (st_set 2 Sc__law_row.nd rfl (by first | exact Or.inl rfl | exact Or.inr rfl) (s_ix (s_callE ((ok__law_menus z).mono (by decide)) hr rfl (z.glo 9) (z.d 5 d__law_menus rfl).kp (b__law_menus_1 z) (fun _ _ => .nil) (hx_of tkB) (a_cons s_int a_nil) (lm_cons lm_nil) rfl) s_int))
  (ss_cons (st_setOwn 3 hG Sc__law_row.nd rfl (by first | exact Or.inl rfl | exact Or.inr rfl) (f_lst (a_cons (s_str [100, 105, 97, 108, 101, 99, 116]) (a_cons (s_var 0) a_nil))))
  (ss_cons (st_for (passes_of rfl) rfl (i_its (s_slcA (s_var 1) o_none (o_some s_int))) (g_name 4 Sc__law_row.nd rfl (by first | exact Or.inl rfl | exact Or.inr rfl)) (ss_cons (st_setOwn 5 hG Sc__law_row.nd rfl (by first | exact Or.inl rfl | exact Or.inr rfl) (f_lst a_nil))
  (ss_cons (st_for (passes_of rfl) rfl (i_its (s_var 4)) (g_name 6 Sc__law_row.nd rfl (by first | exact Or.inl rfl | exact Or.inr rfl)) (ss_cons (st_set 7 Sc__law_row.nd rfl (by first | exact Or.inl rfl | exact Or.inr rfl) (s_index (s_var 2) (s_var 6)))
  (ss_one (st_append 5 rfl (by first | exact Or.inl rfl | exact Or.inr (Or.inl rfl) | exact Or.inr (Or.inr rfl)) (s_str1 rfl (z.free 3) (a_cons (s_ix (s_lst (f_lst (a_cons (s_add s_int (s_var 7)) (a_cons (s_add s_int (s_var 7)) a_nil)))) (s_int1 rfl (z.free 32) (a_cons (s_cmp (c_gt) (s_var 7) s_int) a_nil))) a_nil))))))
  (ss_cons (st_append 3 rfl (by first | exact Or.inl rfl | exact Or.inr (Or.inl rfl) | exact Or.inr (Or.inr rfl)) (s_join (s_str [43]) (s_frz 5)))
  (ss_one (st_if (t_cmp (c_eq hr) (s_var 4) (s_str [])) (ss_one (st_setIx 3 rfl (by first | exact Or.inl rfl | exact Or.inr (Or.inl rfl) | exact Or.inr (Or.inr rfl)) (s_neg s_int) (s_str [45]))) ss_nil))))))
  (ss_one (st_ret (s_join (s_str [32]) (s_add (s_frz 3) (s_lst (f_lst (a_cons (s_join (s_str []) (s_lst (f_lc (own := [("_law_truth", 8)]) rfl Sc__law_row.nd (i_its (s_slcA (s_var 1) (o_some s_int) o_none)) (blkOk_by (own := [("_law_truth", 8)]) (N := N__law_row) (sc := defScope s__law_row) (by decide +kernel)) (compG_name 8 (by decide)) (fun _ _ _ _ _ => pg_name (i := 8) Sc__law_row.nd rfl (Or.inl rfl)) (fun _ _ _ _ _ _ => ts_nil) (fun _ _ _ _ _ _ => (s_str1 rfl (z.free 3) (a_cons (s_int1 rfl (z.free 32) (a_cons (s_var 8) a_nil)) a_nil)))))) a_nil))))))))))
/-! ### _law_right -/
theorem Sc__law_right : FnScope N__law_right P__law_right (defScope s__law_right) := ⟨rfl, rfl, rfl, by decide +kernel, rfl, by decide +kernel, by decide +kernel⟩
def b__law_right : M Ctl := (mSeq (mSet 2 (mCall m_row_of [] (mCons (mVar 0) (mCons (mCall m__law_made [] (mCons (mVar 1) mNil)) mNil))))
  (mSeq (mIfS (mTOr (mTNot (mTest (mIsi "str" (mVar 2)))) (mTOr (mTest (mBin dNe (mVar 2) (mCall m__law_row [] (mCons (mVar 0) (mCons (mVar 1) mNil))))) (mTest (mBin dIsNot (mCall m_is_name [] (mCons (mVar 0) mNil)) (mC (.bl true)))))) (mRet (mC (.bl false))) mNext)
  (mSeq (mSet 3 (mCall m_dialect_in [] (mCons (mVar 2) mNil)))
  (mSeq (mIfS (mTOr (mTNot (mTest (mIsi "tuple" (mVar 3)))) (mTOr (mTest (mBin dNe (mCallB dLen (mCons (mVar 3) mNil)) (mC (.int 2)))) (mTOr (mTest (mBin dNe (mBin dIx (mVar 3) (mC (.int 0))) (mVar 0))) (mTNot (mTest (mIsO [("Dialect", true)] (mBin dIx (mVar 3) (mC (.int 1))))))))) (mRet (mC (.bl false))) mNext)
  (mRet (mBin dEq (mMeth "told" [("Dialect", m_Dialect_told)] [] (mBin dIx (mVar 3) (mC (.int 1))) mNil) (mVar 1)))))))
def m__law_right : MF := fnM 4 b__law_right
theorem ok__law_right (z : Zz cks fns K mg fds) : FnOk P w K mg base (L2.CX P w) 6 (He.fAd K d__law_right.at_) (fds 22) P__law_right (spM K 2 m__law_right) :=
  fn_mir (z.d 22 d__law_right rfl) Sc__law_right fun cdv A outer s H E G hG hr =>
  (ss_cons (st_set 2 Sc__law_right.nd rfl (by first | exact Or.inl rfl | exact Or.inr rfl) (s_callE ((ok_row_of z).mono (by decide)) hr rfl (z.glo 40) (z.d 15 d_row_of rfl).kp (b_row_of_2 z) (fun _ _ => .nil) (hx_of tkB) (a_cons (s_var 0) (a_cons (s_callE ((ok__law_made z).mono (by decide)) hr rfl (z.glo 75) (z.d 9 d__law_made rfl).kp (b__law_made_1 z) (fun _ _ => .nil) (hx_of tkB) (a_cons (s_var 1) a_nil) (lm_cons lm_nil) rfl) a_nil)) (lm_cons (lm_cons lm_nil)) rfl))
  (ss_cons (st_if (t_w (w_or (t_not (t_val (s_isi "str" (by decide) rfl (z.free 2) (s_var 2) (p_ty (z.free 3) rfl (by decide +kernel))))) (w_or (t_cmp (c_ne hr) (s_var 2) (s_callE ((ok__law_row z).mono (by decide)) hr rfl (z.glo 74) (z.d 21 d__law_row rfl).kp (b__law_row_2 z) (fun _ _ => .nil) (hx_of tkB) (a_cons (s_var 0) (a_cons (s_var 1) a_nil)) (lm_cons (lm_cons lm_nil)) rfl)) (w_or1 (t_cmp (c_isNot) (s_callE ((ok_is_name z).mono (by decide)) hr rfl (z.glo 37) (z.d 0 d_is_name rfl).kp (b_is_name_1 z) (fun _ _ => .nil) (hx_of tkB) (a_cons (s_var 0) a_nil) (lm_cons lm_nil) rfl) s_bl))))) (ss_one (st_ret s_bl)) ss_nil)
  (ss_cons (st_set 3 Sc__law_right.nd rfl (by first | exact Or.inl rfl | exact Or.inr rfl) (s_callE ((ok_dialect_in z).mono (by decide)) hr rfl (z.glo 73) (z.d 20 d_dialect_in rfl).kp (b_dialect_in_1 z) (fun _ _ => .nil) (hx_of tkB) (a_cons (s_var 2) a_nil) (lm_cons lm_nil) rfl))
  (ss_cons (st_if (t_w (w_or (t_not (t_val (s_isi "tuple" (by decide) rfl (z.free 2) (s_var 3) (p_ty (z.free 69) rfl (by decide +kernel))))) (w_or (t_cmp (c_ne hr) (s_len rfl (z.free 4) (a_cons (s_var 3) a_nil)) s_int) (w_or (t_cmp (c_ne hr) (s_ix (s_var 3) s_int) (s_var 0)) (w_or1 (t_not (t_val (s_isO "Dialect" [("Dialect", true)] (ownK_of (z.c.ck 72) (own_cons (z.c.ck 70) (z.c.ck 71) all_nil)) rfl (z.free 2) (s_ix (s_var 3) s_int) (p_cls (z.glo 29) rfl))))))))) (ss_one (st_ret s_bl)) ss_nil)
  (ss_one (st_ret (s_cmp (c_eq hr) (s_meth0 (s_ix (s_var 3) s_int) (all_cons (meth_of (He.cls_ok (z.c.ck 15)) (He.meth_ok (z.c.ck 36)) ((ok_Dialect_told z).mono (by decide)) (b_Dialect_told_1 z) (fun _ _ => .nil)) all_nil) hr (hx_of tkB)) (s_var 1))))))))
/-! ### law -/
theorem Sc_law : FnScope N_law P_law (defScope s_law) := ⟨rfl, rfl, rfl, by decide +kernel, rfl, by decide +kernel, by decide +kernel⟩
def L_law_0 : M Ctl := (mIfS (mTOr (mTest (mBin dIsNot (mCall m_is_name [] (mCons (mVar 7) mNil)) (mC (.bl false)))) (mTNot (mTest (mCall m__law_refused [] (mCons (mVar 7) (mCons (mCall m__law_made [] (mCons (mVar 1) mNil)) mNil)))))) (mRet (mC (.bl false))) mNext)
def b_law : M Ctl := (mSeq (mSet 1 (mCall m__law_told [] (mCons (mCall m__law_cell_at [] (mCons (mVar 0) (mCons (mC (.int 0)) mNil))) mNil)))
  (mSeq (mSet 2 (mCall m__law_told [] (mCons (mBin dAdd (mCall m__law_cell_at [] (mCons (mVar 0) (mCons (mC (.int 1)) mNil))) (mC (.int 1))) mNil)))
  (mSeq (mSet 3 (mCall m__law_title [] (mCons (mCall m__law_cell_at [] (mCons (mVar 0) (mCons (mC (.int 2)) mNil))) mNil)))
  (mSeq (mSet 4 (mCall m__law_title [] (mCons (mCall m__law_cell_at [] (mCons (mVar 0) (mCons (mC (.int 3)) mNil))) mNil)))
  (mSeq (mIfS (mTOr (mTNot (mTest (mCall m__law_right [] (mCons (mVar 3) (mCons (mVar 1) mNil))))) (mTOr (mTNot (mTest (mCall m__law_right [] (mCons (mVar 4) (mCons (mVar 2) mNil))))) (mTNot (mTest (mCall m__law_right [] (mCons (mVar 3) (mCons (mVar 1) mNil))))))) (mRet (mC (.bl false))) mNext)
  (mSeq (mSet 5 (mBin dMod (mCall m__law_cell_at [] (mCons (mVar 0) (mCons (mC (.int 4)) mNil))) (mCallB dLen (mCons (mVar 3) mNil))))
  (mSeq (mSet 6 (mBin dAdd (mBin dAdd (mSlcA (mVar 3) mNoPart (mPart (mVar 5))) (mBin dIx (mC (.str [65, 49, 32, 95, 45, 46, 10])) (mBin dMod (mBin dFdiv (mCall m__law_cell_at [] (mCons (mVar 0) (mCons (mC (.int 4)) mNil))) (mC (.int 8))) (mC (.int 7))))) (mSlcA (mVar 3) (mPart (mBin dAdd (mVar 5) (mC (.int 1)))) mNoPart)))
  (mSeq (mFor (mIts (mLst (mSml (mCons (mVar 6) (mCons (mC (.str [])) (mCons (mC (.str [97, 98, 99, 100, 101, 102, 103, 104, 105])) (mCons (mBin dAdd (mSlcA (mVar 3) mNoPart (mPart (mC (.int 7)))) (mC (.str [65]))) (mCons (mBin dAdd (mSlcA (mVar 3) mNoPart (mPart (mC (.int 7)))) (mC (.str [49]))) (mCons (mBin dAdd (mSlcA (mVar 3) mNoPart (mPart (mC (.int 7)))) (mC (.str [32]))) (mCons (mC .non) (mCons (mC (.int 7)) (mCons (mC (.bl true)) (mCons (mLst (mSml (mCons (mVar 3) mNil))) mNil))))))))))))) (gN 7) L_law_0)
  (mRet (mC (.bl true)))))))))))
def m_law : MF := fnM 8 b_law
theorem ok_law (z : Zz cks fns K mg fds) : FnOk P w K mg base (L2.CX P w) 7 (He.fAd K d_law.at_) (fds 23) P_law (spM K 1 m_law) :=
  fn_mir (z.d 23 d_law rfl) Sc_law fun cdv A outer s H E G hG hr =>
  (ss_cons (st_set 1 Sc_law.nd rfl (by first | exact Or.inl rfl | exact Or.inr rfl) (s_callE ((ok__law_told z).mono (by decide)) hr rfl (z.glo 80) (z.d 6 d__law_told rfl).kp (b__law_told_1 z) (fun _ _ => .nil) (hx_of tkB) (a_cons (s_callE ((ok__law_cell_at z).mono (by decide)) hr rfl (z.glo 77) (z.d 1 d__law_cell_at rfl).kp (b__law_cell_at_2 z) (fun _ _ => .nil) (hx_of tkB) (a_cons (s_var 0) (a_cons s_int a_nil)) (lm_cons (lm_cons lm_nil)) rfl) a_nil) (lm_cons lm_nil) rfl))
  (ss_cons (st_set 2 Sc_law.nd rfl (by first | exact Or.inl rfl | exact Or.inr rfl) (s_callE ((ok__law_told z).mono (by decide)) hr rfl (z.glo 80) (z.d 6 d__law_told rfl).kp (b__law_told_1 z) (fun _ _ => .nil) (hx_of tkB) (a_cons (s_add (s_callE ((ok__law_cell_at z).mono (by decide)) hr rfl (z.glo 77) (z.d 1 d__law_cell_at rfl).kp (b__law_cell_at_2 z) (fun _ _ => .nil) (hx_of tkB) (a_cons (s_var 0) (a_cons s_int a_nil)) (lm_cons (lm_cons lm_nil)) rfl) s_int) a_nil) (lm_cons lm_nil) rfl))
  (ss_cons (st_set 3 Sc_law.nd rfl (by first | exact Or.inl rfl | exact Or.inr rfl) (s_callE ((ok__law_title z).mono (by decide)) hr rfl (z.glo 79) (z.d 10 d__law_title rfl).kp (b__law_title_1 z) (fun _ _ => .nil) (hx_of tkB) (a_cons (s_callE ((ok__law_cell_at z).mono (by decide)) hr rfl (z.glo 77) (z.d 1 d__law_cell_at rfl).kp (b__law_cell_at_2 z) (fun _ _ => .nil) (hx_of tkB) (a_cons (s_var 0) (a_cons s_int a_nil)) (lm_cons (lm_cons lm_nil)) rfl) a_nil) (lm_cons lm_nil) rfl))
  (ss_cons (st_set 4 Sc_law.nd rfl (by first | exact Or.inl rfl | exact Or.inr rfl) (s_callE ((ok__law_title z).mono (by decide)) hr rfl (z.glo 79) (z.d 10 d__law_title rfl).kp (b__law_title_1 z) (fun _ _ => .nil) (hx_of tkB) (a_cons (s_callE ((ok__law_cell_at z).mono (by decide)) hr rfl (z.glo 77) (z.d 1 d__law_cell_at rfl).kp (b__law_cell_at_2 z) (fun _ _ => .nil) (hx_of tkB) (a_cons (s_var 0) (a_cons s_int a_nil)) (lm_cons (lm_cons lm_nil)) rfl) a_nil) (lm_cons lm_nil) rfl))
  (ss_cons (st_if (t_w (w_or (t_not (t_val (s_callE ((ok__law_right z).mono (by decide)) hr rfl (z.glo 78) (z.d 22 d__law_right rfl).kp (b__law_right_2 z) (fun _ _ => .nil) (hx_of tkB) (a_cons (s_var 3) (a_cons (s_var 1) a_nil)) (lm_cons (lm_cons lm_nil)) rfl))) (w_or (t_not (t_val (s_callE ((ok__law_right z).mono (by decide)) hr rfl (z.glo 78) (z.d 22 d__law_right rfl).kp (b__law_right_2 z) (fun _ _ => .nil) (hx_of tkB) (a_cons (s_var 4) (a_cons (s_var 2) a_nil)) (lm_cons (lm_cons lm_nil)) rfl))) (w_or1 (t_not (t_val (s_callE ((ok__law_right z).mono (by decide)) hr rfl (z.glo 78) (z.d 22 d__law_right rfl).kp (b__law_right_2 z) (fun _ _ => .nil) (hx_of tkB) (a_cons (s_var 3) (a_cons (s_var 1) a_nil)) (lm_cons (lm_cons lm_nil)) rfl))))))) (ss_one (st_ret s_bl)) ss_nil)
  (ss_cons (st_set 5 Sc_law.nd rfl (by first | exact Or.inl rfl | exact Or.inr rfl) (s_mod (s_callE ((ok__law_cell_at z).mono (by decide)) hr rfl (z.glo 77) (z.d 1 d__law_cell_at rfl).kp (b__law_cell_at_2 z) (fun _ _ => .nil) (hx_of tkB) (a_cons (s_var 0) (a_cons s_int a_nil)) (lm_cons (lm_cons lm_nil)) rfl) (s_len rfl (z.free 4) (a_cons (s_var 3) a_nil))))
  (ss_cons (st_set 6 Sc_law.nd rfl (by first | exact Or.inl rfl | exact Or.inr rfl) (s_add (s_add (s_slcA (s_var 3) o_none (o_some (s_var 5))) (s_ix (s_str [65, 49, 32, 95, 45, 46, 10]) (s_mod (s_fdiv (s_callE ((ok__law_cell_at z).mono (by decide)) hr rfl (z.glo 77) (z.d 1 d__law_cell_at rfl).kp (b__law_cell_at_2 z) (fun _ _ => .nil) (hx_of tkB) (a_cons (s_var 0) (a_cons s_int a_nil)) (lm_cons (lm_cons lm_nil)) rfl) s_int) s_int))) (s_slcA (s_var 3) (o_some (s_add (s_var 5) s_int)) o_none)))
  (ss_cons (st_for (passes_of rfl) rfl (i_its (s_lst (f_lst (a_cons (s_var 6) (a_cons (s_str []) (a_cons (s_str [97, 98, 99, 100, 101, 102, 103, 104, 105]) (a_cons (s_add (s_slcA (s_var 3) o_none (o_some s_int)) (s_str [65])) (a_cons (s_add (s_slcA (s_var 3) o_none (o_some s_int)) (s_str [49])) (a_cons (s_add (s_slcA (s_var 3) o_none (o_some s_int)) (s_str [32])) (a_cons s_non (a_cons s_int (a_cons s_bl (a_cons (s_lst (f_lst (a_cons (s_var 3) a_nil))) a_nil))))))))))))) (g_name 7 Sc_law.nd rfl (by first | exact Or.inl rfl | exact Or.inr rfl)) (ss_one (st_if (t_w (w_or (t_cmp (c_isNot) (s_callE ((ok_is_name z).mono (by decide)) hr rfl (z.glo 37) (z.d 0 d_is_name rfl).kp (b_is_name_1 z) (fun _ _ => .nil) (hx_of tkB) (a_cons (s_var 7) a_nil) (lm_cons lm_nil) rfl) s_bl) (w_or1 (t_not (t_val (s_callE ((ok__law_refused z).mono (by decide)) hr rfl (z.glo 76) (z.d 16 d__law_refused rfl).kp (b__law_refused_2 z) (fun _ _ => .nil) (hx_of tkB) (a_cons (s_var 7) (a_cons (s_callE ((ok__law_made z).mono (by decide)) hr rfl (z.glo 75) (z.d 9 d__law_made rfl).kp (b__law_made_1 z) (fun _ _ => .nil) (hx_of tkB) (a_cons (s_var 1) a_nil) (lm_cons lm_nil) rfl) a_nil)) (lm_cons (lm_cons lm_nil)) rfl)))))) (ss_one (st_ret s_bl)) ss_nil)))
  (ss_one (st_ret s_bl))))))))))
end
/-! ### the head -/
def nm0 : List Str := ["_wall", "DialectError", "NoText", "NoTable", "NoDialect", "NoRow", "NoName", "LETTERS", "PRINTABLE", "MOST_PARTS", "MOST_QUOTES", "MOST_FREES", "check_role", "Dialect", "SMALL", "LONGEST", "PRINTED", "is_name", "number_at", "sign_of", "numbers_told", "signs_told", "truths_told", "row_of", "dialect_in", "_law_cell_at", "_law_mixed", "_law_number", "_law_some", "_law_menus"]
def nm1 : List Str := ["_law_told", "_law_made", "_law_title", "_law_row", "_law_refused", "_law_right"]
def loose : List Str := nm0 ++ nm1
abbrev R : PySem.W.OpenRow := PySem.W.OpenLaw.row PySem.Challenge.rw_dialecthall_k91_rows_of_dialects
abbrev qv : Program := PySem.W.view R.prog [40]
abbrev hk : PySem.W.Hook := hookX 6 cks fns
def ob (s : PySem.W.SharedT) : AlX := obsXG 6 cks fns (HandSHeadRun.getT s)
theorem ob_eq (s : PySem.W.SharedT) : ob s = hk.obs s.abs := obsXG_eq (HandSHeadRun.getT_eq s)
theorem run (w : World) : HandSHeadRun.RunEq R qv hk ob 8000 loose w := by
  intro os
  kernel_rfl
end K91

namespace K91
open PySem PySem.Spec L2 DL TL
abbrev pr94 : List Nat := [32, 33, 34, 35, 36, 38, 39, 40, 41, 42, 43, 44, 45, 46, 47, 48, 49, 50, 51, 52, 53, 54, 55, 56, 57, 58, 59, 60, 61, 62, 63, 64, 65, 66, 67, 68, 69, 70, 71, 72, 73, 74, 75, 76, 77, 78, 79, 80, 81, 82, 83, 84, 85, 86, 87, 88, 89, 90, 91, 92, 93, 94, 95, 96, 97, 98, 99, 100, 101, 102, 103, 104, 105, 106, 107, 108, 109, 110, 111, 112, 113, 114, 115, 116, 117, 118, 119, 120, 121, 122, 123, 124, 125, 126]
def Role (x : List Nat) (lo hi : Nat) : Prop := lo ≤ x.length ∧ x.length ≤ hi ∧ x.Nodup ∧ ∀ c ∈ x, c ∈ pr94
theorem t_cell (ns : List Int) (h : ns.length ≤ 63) (k : Nat) (S : Store) : ∃ c, m__law_cell_at [.scr (ns.map .int), .int k] S = .ok (.int c) [] S := by
  unfold m__law_cell_at b__law_cell_at
  simp (disch := omega) only [ev, ev2, Nat.reduceSub, Nat.reduceAdd, List.length_map]
  by_cases hk : (k : Int) < (ns.length : Int)
  · rw [decide_eq_true hk]
    have e : atI (ns.map D.int) (k : Int) = some (.int (ns[k]'(by omega))) := by
      unfold atI ixN
      rw [if_pos (by omega), if_pos (by rw [List.length_map]; exact hk)]
      show (ns.map D.int)[k]? = _
      rw [List.getElem?_map, List.getElem?_eq_getElem (by omega)]
      rfl
    simp only [ev, ev2, e]
    exact ⟨_, rfl⟩
  · rw [decide_eq_false hk]
    exact ⟨0, by simp only [ev, ev2]⟩
theorem t_mixed (a b : Int) (h1 : 0 ≤ b) (h2 : b < 1000) (S : Store) : ∃ n, m__law_mixed [.int a, .int b] S = .ok (.int n) [] S ∧ 0 ≤ n ∧ n < 49979687 := by
  unfold m__law_mixed b__law_mixed
  simp (disch := omega) only [ev, Nat.reduceSub, Nat.reduceAdd]
  exact ⟨_, rfl, by omega, by omega⟩
theorem t_number (a b : Int) (h1 : 0 ≤ b) (h2 : b < 900) (S : Store) : ∃ n, m__law_number [.int a, .int b] S = .ok (.int n) [] S := by
  obtain ⟨n1, e1, p1, q1⟩ := t_mixed (a % 1000000007) b h1 (by omega) S
  obtain ⟨n2, e2, p2, q2⟩ := t_mixed (a % 1000000007) (b + 1) (by omega) (by omega) S
  obtain ⟨n3, e3, p3, q3⟩ := t_mixed (a % 1000000007) (b + 2) (by omega) (by omega) S
  unfold m__law_number b__law_number
  simp (disch := omega) only [ev, ev2, Nat.reduceSub, Nat.reduceAdd]
  have go : ∃ n, kFn (mSeq (mSet 2 (mBin dMod (mVar 0) (mC (.int 1000000007)))) (mSeq (mSet 3 (mBin dAdd (mBin dMulI (mCall m__law_mixed [] (mCons (mVar 2) (mCons (mVar 1) mNil))) (mC (.int 49979687))) (mCall m__law_mixed [] (mCons (mVar 2) (mCons (mBin dAdd (mVar 1) (mC (.int 1))) mNil)))))
      (mRet (mBin dAdd (mBin dMulI (mVar 3) (mC (.int 49979687))) (mCall m__law_mixed [] (mCons (mVar 2) (mCons (mBin dAdd (mVar 1) (mC (.int 2))) mNil)))))) [some (.val (.int a)), some (.val (.int b)), none, none] S) = .ok (.int n) [] S := by
    simp (disch := omega) only [ev, ev2, e1, e2, e3]
    exact ⟨_, rfl⟩
  cases c1 : decide (a % 2 = 0) with
  | false =>
    simp only [ev, ev2]
    simpa only [ev, ev2] using go
  | true =>
    simp (disch := omega) only [ev, ev2, Int.reducePow, Int.reduceMul, Int.reduceToNat]
    cases c2 : decide (2000000000000000000 ≤ a) with
    | true =>
      simp (disch := omega) only [ev, ev2, Int.reducePow, Int.reduceMul, Int.reduceToNat]
      exact ⟨_, rfl⟩
    | false =>
      simp only [ev, ev2]
      simpa only [ev, ev2] using go

/-! ### some -/
theorem atI_mod {α : Type} {xs : List α} (h : xs ≠ []) (n : Int) : ∃ x ∈ xs, atI xs (n % (xs.length : Int)) = some x := by
  have hp : 0 < xs.length := List.length_pos_iff.mpr h
  have h1 : 0 ≤ n % (xs.length : Int) := Int.emod_nonneg _ (by omega)
  have h2 : n % (xs.length : Int) < xs.length := Int.emod_lt_of_pos _ (by omega)
  unfold atI ixN
  rw [if_pos h1, if_pos h2]
  refine ⟨xs[(n % (xs.length : Int)).toNat]'(by omega), List.getElem_mem _, ?_⟩
  show xs[(n % (xs.length : Int)).toNat]? = _
  exact List.getElem?_eq_getElem _
theorem some_loop (menu : List Nat) (hm : menu ≠ []) (hl : menu.length ≤ 1000) (many : D) (S : Store) : ∀ (its : List D) (n : Int) (x : List Nat) (o4 o5 : Option Slot), x.length + its.length ≤ 1000 → x.Nodup → (∀ c ∈ x, c ∈ menu) →
    ∃ n' x' o4' o5', mForL (gN 4) L__law_some_0 its [some (.val (.int n)), some (.val many), some (.val (.str menu)), some (.val (.str x)), o4, o5] S = .ok .next [some (.val (.int n')), some (.val many), some (.val (.str menu)), some (.val (.str x')), o4', o5'] S ∧
      x'.length ≤ x.length + its.length ∧ (its ≠ [] ∨ x ≠ [] → x' ≠ []) ∧ x'.Nodup ∧ ∀ c ∈ x', c ∈ menu
  | [], n, x, o4, o5, h1, h2, h3 => ⟨n, x, o4, o5, rfl, by simp, by simp, h2, h3⟩
  | d :: r, n, x, o4, o5, h1, h2, h3 => by
    obtain ⟨c, hc, e⟩ := atI_mod hm n
    have hp : 0 < menu.length := List.length_pos_iff.mpr hm
    simp only [List.length_cons] at h1
    simp only [ev, ev2]
    unfold L__law_some_0
    simp (disch := omega) only [ev, ev2, e]
    cases hx : decide (c ∈ x) with
    | true =>
      simp only [ev, ev2]
      obtain ⟨n', x', o4', o5', q1, q2, q3, q4, q5⟩ := some_loop menu hm hl many S r (n / menu.length) x (some (.val d)) (some (.val (.str [c]))) (by omega) h2 h3
      refine ⟨n', x', o4', o5', q1, (by have := q2; simp at *; omega), fun _ => q3 (.inr fun z => ?_), q4, q5⟩
      rw [z] at hx; simp at hx
    | false =>
      have hx := of_decide_eq_false hx
      have hl1 : x.length + [c].length ≤ 16777216 := by simp only [List.length_cons, List.length_nil]; omega
      simp (disch := omega) only [ev, ev2, v_addS hl1]
      obtain ⟨n', x', o4', o5', q1, q2, q3, q4, q5⟩ := some_loop menu hm hl many S r (n / menu.length) (x ++ [c]) (some (.val d)) (some (.val (.str [c]))) (by simp only [List.length_append, List.length_cons, List.length_nil]; omega) (by
        rw [List.nodup_append]
        refine ⟨h2, by simp, fun a ha b hb => ?_⟩
        rw [List.mem_singleton.mp hb]
        exact fun z => hx (z ▸ ha)) (fun z hz => by
        rcases List.mem_append.mp hz with q | q
        · exact h3 z q
        · rw [List.mem_singleton.mp q]; exact hc)
      refine ⟨n', x', o4', o5', q1, ?_, fun _ => q3 (.inr (by simp)), q4, q5⟩
      simp only [List.length_append, List.length_cons, List.length_nil] at q2 ⊢
      omega
theorem t_some (n : Int) (many : Nat) (hmany : many ≤ 100) (menu : List Nat) (hm : menu ≠ []) (hl : menu.length ≤ 1000) (S : Store) : ∃ x n', m__law_some [.int n, .int many, .str menu] S = .ok (.tup [.str x, .int n']) [] S ∧ x.length ≤ many ∧ (1 ≤ many → 1 ≤ x.length) ∧ x.Nodup ∧ ∀ c ∈ x, c ∈ menu := by
  obtain ⟨n', x', o4', o5', q1, q2, q3, q4, q5⟩ := some_loop menu hm hl (.int many) S ((List.range many).map fun i => .int (i : Nat)) n [] none none (by simp; omega) (by simp) (by simp)
  unfold m__law_some b__law_some
  simp (disch := omega) only [ev, ev2, Nat.reduceSub, Nat.reduceAdd, Int.toNat_natCast]
  rw [q1]
  simp (disch := (simp only [List.length_cons, List.length_nil]; omega)) only [ev, ev2]
  refine ⟨x', n', rfl, by simpa using q2, fun h => ?_, q4, q5⟩
  have : x' ≠ [] := q3 (.inl (by intro z; have := congrArg List.length z; simp at this; omega))
  exact List.length_pos_iff.mpr this
theorem t_menus (w : Int) (S : Store) : ∃ a b c, m__law_menus [.int w] S = .ok (.lst [.str a, .str b, .str c]) [] S ∧ ∀ x ∈ [a, b, c], x ≠ [] ∧ x.length ≤ 1000 ∧ ∀ z ∈ x, z ∈ pr94 := by
  unfold m__law_menus b__law_menus
  simp (disch := omega) only [ev, ev2, Nat.reduceSub, Nat.reduceAdd]
  cases h1 : decide (w = 0) with
  | true =>
    simp (disch := (simp only [List.length_cons, List.length_nil]; omega)) only [ev, ev2]
    exact ⟨_, _, _, rfl, by decide +kernel⟩
  | false =>
    simp (disch := omega) only [ev, ev2]
    cases h2 : decide (w = 1) with
    | true =>
      simp (disch := (simp only [List.length_cons, List.length_nil]; omega)) only [ev, ev2]
      exact ⟨_, _, _, rfl, by decide +kernel⟩
    | false =>
      simp (disch := (simp only [List.length_cons, List.length_nil]; omega)) only [ev, ev2]
      exact ⟨_, _, _, rfl, by decide +kernel⟩
theorem t_menus2 (S : Store) : m__law_menus [.int 2] S = .ok (.lst [.str pr94, .str pr94, .str pr94]) [] S := by
  unfold m__law_menus b__law_menus
  simp (disch := first | omega | (simp only [List.length_cons, List.length_nil]; omega)) only [ev, ev2, Nat.reduceSub, Nat.reduceAdd, show decide ((2 : Int) = 0) = false from rfl, show decide ((2 : Int) = 1) = false from rfl]
end K91
namespace K91
open PySem PySem.Spec L2 DL TL
abbrev Dns : List Str := ["parts", "quotes", "frees", "twin", "wide", "thin", "stray"]
section
variable {a b c d e f g : D}
theorem fd1 : fldL "parts" Dns [a, b, c, d, e, f, g] = some a := rfl
theorem fd2 : fldL "quotes" Dns [a, b, c, d, e, f, g] = some b := rfl
theorem fd3 : fldL "frees" Dns [a, b, c, d, e, f, g] = some c := rfl
theorem fd4 : fldL "twin" Dns [a, b, c, d, e, f, g] = some d := rfl
theorem fd5 : fldL "wide" Dns [a, b, c, d, e, f, g] = some e := rfl
theorem fd6 : fldL "thin" Dns [a, b, c, d, e, f, g] = some f := rfl
theorem fd7 : fldL "stray" Dns [a, b, c, d, e, f, g] = some g := rfl
end
/-- a dialect -/
abbrev dlc (P Q F : List Nat) (t w h s : Bool) : D := .obj "Dialect" Dns [.str P, .str Q, .str F, .bl t, .bl w, .bl h, .bl s]
abbrev tld (P Q F : List Nat) (t w h s : Bool) : List D := [.str P, .str Q, .str F, .bl t, .bl w, .bl h, .bl s]
theorem t_toldM (P Q F : List Nat) (t w h s : Bool) (S : Store) : m_Dialect_told [dlc P Q F t w h s] S = .ok (.tup (tld P Q F t w h s)) [] S := by
  unfold m_Dialect_told b_Dialect_told
  simp (disch := (simp only [List.length_cons, List.length_nil]; omega)) only [ev, ev2, fd1, fd2, fd3, fd4, fd5, fd6, fd7, Nat.reduceSub]
theorem dist_len {x : List Nat} (h : x.Nodup) : (distL x).length = x.length := by
  have key : ∀ (l acc : List Nat), l.Nodup → (∀ c ∈ l, c ∉ acc) → (l.foldl (fun l c => if c ∈ l then l else c :: l) acc).length = acc.length + l.length := by
    intro l
    induction l with
    | nil => intro acc _ _; simp
    | cons c r ih =>
      intro acc h1 h2
      obtain ⟨n1, n2⟩ := List.nodup_cons.mp h1
      rw [List.foldl_cons, if_neg (h2 c List.mem_cons_self), ih _ n2 (fun z hz => by
        rw [List.mem_cons]
        rintro (q | q)
        · exact n1 (q ▸ hz)
        · exact h2 z (List.mem_cons_of_mem _ hz) q)]
      simp only [List.length_cons]; omega
  have := key x [] h (fun _ _ => by simp)
  simpa [distL] using this
theorem role_loop (lo hi : D) (S : Store) (th : D) : ∀ (x : List Nat) (o : Option Slot), (∀ c ∈ x, c ∈ pr94) → ∃ o', mForL (gN 3) L_check_role_0 (x.map fun c => .str [c]) [some (.val th), some (.val lo), some (.val hi), o] S = .ok .next [some (.val th), some (.val lo), some (.val hi), o'] S
  | [], o, _ => ⟨o, rfl⟩
  | c :: r, o, h => by
    obtain ⟨o', e⟩ := role_loop lo hi S th r (some (.val (.str [c]))) fun z hz => h z (List.mem_cons_of_mem _ hz)
    have hc : ∀ c ∈ pr94, decide (c ∈ ([97, 98, 99, 100, 101, 102, 103, 104, 105, 106, 107, 108, 109, 110, 111, 112, 113, 114, 115, 116, 117, 118, 119, 120, 121, 122, 65, 66, 67, 68, 69, 70, 71, 72, 73, 74, 75, 76, 77, 78, 79, 80, 81, 82, 83, 84, 85, 86, 87, 88, 89, 90, 48, 49, 50, 51, 52, 53, 54, 55, 56, 57, 32, 33, 34, 35, 36, 38, 39, 40, 41, 42, 43, 44, 45, 46, 47, 58, 59, 60, 61, 62, 63, 64, 91, 92, 93, 94, 95, 96, 123, 124, 125, 126] : List Nat)) = true := by decide +kernel
    refine ⟨o', ?_⟩
    unfold L_check_role_0
    simp only [ev, ev2, hc c (h c List.mem_cons_self)]
    exact e
theorem t_role {x : List Nat} {lo hi : Nat} (h : Role x lo hi) (hh : hi ≤ 100) (S : Store) : m_check_role [.str x, .int lo, .int hi] S = .ok .non [] S := by
  obtain ⟨h1, h2, h3, h4⟩ := h
  obtain ⟨o', e⟩ := role_loop (.int lo) (.int hi) S (.str x) x none h4
  unfold m_check_role b_check_role
  simp (disch := omega) only [ev, ev2, Nat.reduceSub, tyD, isiTab, show (("str" == "str" || "str" == "bool" && "str" == "int") : Bool) = true from by decide, decide_eq_true (show (lo : Int) ≤ (x.length : Int) from by omega), decide_eq_true (show (x.length : Int) ≤ (hi : Int) from by omega), dist_len h3, decide_eq_false (show ¬ (x.length : Int) < (x.length : Int) from by omega)]
  rw [e]
  simp only [ev]
theorem t_init {P Q F : List Nat} (t w h s : Bool) (hP : Role P 1 3) (hQ : Role Q 0 2) (hF : Role F 0 2) (S : Store) : m_Dialect___init__ [.str P, .str Q, .str F, .bl t, .bl w, .bl h, .bl s] S = .ok (dlc P Q F t w h s) [] S := by
  have e1 : m_check_role [.str P, .int 1, .int 3] S = .ok .non [] S := t_role hP (by omega) S
  have e2 : m_check_role [.str Q, .int 0, .int 2] S = .ok .non [] S := t_role hQ (by omega) S
  have e3 : m_check_role [.str F, .int 0, .int 2] S = .ok .non [] S := t_role hF (by omega) S
  unfold m_Dialect___init__ b_Dialect___init__ L_Dialect___init___0
  simp (disch := first | omega | (simp only [List.length_cons, List.length_nil]; omega) | decide +kernel) only [ev, ev2, Nat.reduceSub, tyD, isiTab, show (("bool" == "bool" || "bool" == "bool" && "bool" == "int") : Bool) = true from by decide, e1, e2, e3]
end K91
namespace K91
open PySem PySem.Spec L2 DL TL
theorem at0 {α : Type} {a : α} {l : List α} : atI (a :: l) 0 = some a := by
  unfold atI ixN
  rw [if_pos (by omega), if_pos (by simp only [List.length_cons]; omega)]
  rfl
theorem atS {α : Type} {a : α} {l : List α} (n : Nat) : atI (a :: l) ((n : Int) + 1) = atI l (n : Int) := by
  unfold atI ixN
  rw [if_pos (show (0 : Int) ≤ (n : Int) + 1 by omega), if_pos (show (0 : Int) ≤ (n : Int) by omega)]
  by_cases h : (n : Int) < (l.length : Int)
  · rw [if_pos (by simp only [List.length_cons]; omega), if_pos h]
    show (a :: l)[((n : Int) + 1).toNat]? = l[(n : Int).toNat]?
    rw [show ((n : Int) + 1).toNat = (n : Int).toNat + 1 by omega, List.getElem?_cons_succ]
  · rw [if_neg (by simp only [List.length_cons]; omega), if_neg h]
    rfl
section
variable {α : Type} {a b c d e f g : α} {l : List α}
theorem at1 : atI (a :: b :: l) 1 = some b := (atS 0).trans at0
theorem at2 : atI (a :: b :: c :: l) 2 = some c := (atS 1).trans at1
theorem at3 : atI (a :: b :: c :: d :: l) 3 = some d := (atS 2).trans at2
theorem at4 : atI (a :: b :: c :: d :: e :: l) 4 = some e := (atS 3).trans at3
theorem at5 : atI (a :: b :: c :: d :: e :: f :: l) 5 = some f := (atS 4).trans at4
theorem at6 : atI (a :: b :: c :: d :: e :: f :: g :: l) 6 = some g := (atS 5).trans at5
end
structure Told (P Q F : List Nat) : Prop where
  p : Role P 1 3
  q : Role Q 0 2
  f : Role F 0 2
theorem t_told (c : Int) (S : Store) : ∃ P Q F t w h s, m__law_told [.int c] S = .ok (.tup (tld P Q F t w h s)) [] S ∧ Told P Q F := by
  obtain ⟨n, en⟩ := t_number c 11 (by omega) (by omega) S
  obtain ⟨A, B, C, em, hm⟩ := t_menus (n / 432 % 3) S
  obtain ⟨a1, a2, a3⟩ := hm A (by simp)
  obtain ⟨b1, b2, b3⟩ := hm B (by simp)
  obtain ⟨c1, c2, c3⟩ := hm C (by simp)
  obtain ⟨x1, n1, e1, p1, q1, r1, s1⟩ := t_some (n / 1296) (1 + n / 16 % 3).toNat (by omega) A a1 a2 S
  obtain ⟨x2, n2, e2, p2, q2, r2, s2⟩ := t_some n1 (n / 48 % 3).toNat (by omega) B b1 b2 S
  obtain ⟨x3, n3, e3, p3, q3, r3, s3⟩ := t_some n2 (n / 144 % 3).toNat (by omega) C c1 c2 S
  rw [show (((1 + n / 16 % 3).toNat : Nat) : Int) = 1 + n / 16 % 3 by omega] at e1
  rw [show (((n / 48 % 3).toNat : Nat) : Int) = n / 48 % 3 by omega] at e2
  rw [show (((n / 144 % 3).toNat : Nat) : Int) = n / 144 % 3 by omega] at e3
  unfold m__law_told b__law_told
  simp (disch := first | omega | (simp only [List.length_cons, List.length_nil] <;> omega)) only [ev, ev2, Nat.reduceSub, en, em, e1, e2, e3, at0, at1, at2, at3, r_gT]
  exact ⟨x1, x2, x3, _, _, _, _, rfl, ⟨q1 (by omega), by omega, r1, fun z hz => a3 z (s1 z hz)⟩, ⟨by omega, by omega, r2, fun z hz => b3 z (s2 z hz)⟩, ⟨by omega, by omega, r3, fun z hz => c3 z (s3 z hz)⟩⟩
/-! ### names -/
abbrev small : List Nat := [97, 98, 99, 100, 101, 102, 103, 104, 105, 106, 107, 108, 109, 110, 111, 112, 113, 114, 115, 116, 117, 118, 119, 120, 121, 122]
def isNm (x : List Nat) : Bool := decide (1 ≤ x.length ∧ x.length ≤ 8) && x.all fun c => decide (c ∈ small)
theorem t_isName (x : List Nat) (h : x.length ≤ 1000) (S : Store) : m_is_name [.str x] S = .ok (.bl (isNm x)) [] S := by
  unfold m_is_name b_is_name isNm
  simp (disch := omega) only [ev, ev2, Nat.reduceSub, tyD, isiTab, show (("str" == "str" || "str" == "bool" && "str" == "int") : Bool) = true from by decide]
  have e : mLcL (gN 1) mYes C_is_name_0 [some (.val (.str x)), none] (x.map fun c => .str [c]) S = some ((x.map fun c => decide (c ∈ small)).map D.bl, S) := by
    rw [lcL_map (fun d => match d with
      | .str [c] => .bl (decide (c ∈ small))
      | d => d)]
    · rw [List.map_map, List.map_map]; rfl
    · intro d hd
      obtain ⟨c, _, rfl⟩ := List.mem_map.mp hd
      unfold C_is_name_0
      simp only [ev, ev2]
      exact ⟨_, rfl⟩
  cases h1 : decide ((1 : Int) ≤ (x.length : Int)) with
  | false =>
    have h1 := of_decide_eq_false h1
    simp only [ev, ev2]
    rw [decide_eq_false (show ¬ (1 ≤ x.length ∧ x.length ≤ 8) by omega)]
    rfl
  | true =>
    have h1 := of_decide_eq_true h1
    cases h2 : decide ((x.length : Int) ≤ (8 : Int)) with
    | false =>
      have h2 := of_decide_eq_false h2
      simp (disch := omega) only [ev, ev2, h2, decide_false]
      rw [decide_eq_false (show ¬ (1 ≤ x.length ∧ x.length ≤ 8) by omega)]
      rfl
    | true =>
      have h2 := of_decide_eq_true h2
      simp (disch := (first | omega | (simp only [List.length_map]; omega))) only [ev, ev2, h2, decide_true, e]
      rw [decide_eq_true (show (1 ≤ x.length ∧ x.length ≤ 8) by omega), List.all_map]
      rfl
theorem t_isName0 (d : D) (t : String) (S : Store) (h : tyD S d = some t) (h2 : isiTab t "str" = false) : m_is_name [d] S = .ok (.bl false) [] S := by
  unfold m_is_name b_is_name
  simp (disch := omega) only [ev, ev2, Nat.reduceSub, h, h2]
end K91
namespace K91
open PySem PySem.Spec L2 DL TL
/-! ### numbers, rows -/
theorem pr_num : ∀ c ∈ pr94, (32 + (pr94.idxOf c : Int) + if 4 < (pr94.idxOf c : Int) then 1 else 0) = (c : Int) := by decide +kernel
theorem pr_len : ∀ c ∈ pr94, (strI (c : Int)).length ≤ 3 := by decide +kernel
theorem pr_log (c : Nat) (h : c ≤ 1000) : (c : Int).natAbs.log2 < 1920 := by
  rw [Int.natAbs_natCast]
  exact Nat.lt_of_le_of_lt (Nat.log2_le_self c) (by omega)
theorem pr_le : ∀ c ∈ pr94, c ≤ 126 := by decide +kernel
def num (x : List Nat) : List Nat := if x = [] then [45] else joinL [43] (x.map fun (c : Nat) => strI (c : Int))
theorem sum_le {l : List (List Nat)} {k : Nat} (h : ∀ t ∈ l, t.length ≤ k) : (l.map List.length).sum ≤ l.length * k := by
  induction l with
  | nil => simp
  | cons t r ih =>
    have h1 := h t List.mem_cons_self
    have h2 := ih fun z hz => h z (List.mem_cons_of_mem _ hz)
    simp only [List.map_cons, List.sum_cons, List.length_cons, Nat.add_mul, Nat.one_mul]
    omega
theorem t_numAt (p : Int) (S : Store) : m_number_at [.int p] S = .ok (.int (32 + p + if 4 < p then 1 else 0)) [] S := by
  unfold m_number_at b_number_at
  simp (disch := omega) only [ev, Nat.reduceSub, decide_eq_true_eq]
theorem t_numbers {x : List Nat} (h : ∀ c ∈ x, c ∈ pr94) (hl : x.length ≤ 3) (S : Store) : m_numbers_told [.str x] S = .ok (.str (num x)) [] S := by
  have e : mLcL (gN 1) mYes C_numbers_told_0 [some (.val (.str x)), none] (x.map fun c => .str [c]) S = some ((x.map fun (c : Nat) => strI (c : Int)).map D.str, S) := by
    rw [lcL_map (fun d => match d with
      | .str [c] => .str (strI (c : Int))
      | d => d)]
    · rw [List.map_map, List.map_map]; rfl
    · intro d hd
      obtain ⟨c, hc, rfl⟩ := List.mem_map.mp hd
      have hp := h c hc
      unfold C_numbers_told_0
      simp (disch := first | omega | assumption | exact pr_log _ (Nat.le_trans (pr_le _ ‹_›) (by omega))) only [ev, ev2, t_numAt, pr_num c hp, v_index hp]
      exact ⟨_, rfl⟩
  have hs : ((x.map fun (c : Nat) => strI (c : Int)).map List.length).sum + (x.map fun (c : Nat) => strI (c : Int)).length * [43].length ≤ 16777216 := by
    have := sum_le (l := x.map fun (c : Nat) => strI (c : Int)) (k := 3) fun t ht => by
      obtain ⟨c, hc, rfl⟩ := List.mem_map.mp ht
      exact pr_len c (h c hc)
    simp only [List.length_map, List.length_cons, List.length_nil] at this ⊢
    omega
  unfold m_numbers_told b_numbers_told num
  simp (disch := omega) only [ev, ev2, Nat.reduceSub]
  cases h1 : decide (x = []) with
  | true =>
    rw [if_pos (of_decide_eq_true h1)]
    simp only [ev, ev2]
  | false =>
    rw [if_neg (of_decide_eq_false h1)]
    simp (disch := (first | omega | (simp only [List.length_map]; omega))) only [ev, ev2, e, v_join hs]
def bitS (b : Bool) : List Nat := if b then [49] else [48]
theorem bit_str (b : Bool) : strI (if b = true then 1 else 0) = bitS b := by cases b <;> decide +kernel
theorem bit_log (b : Bool) : ((if b = true then 1 else 0 : Int)).natAbs.log2 < 1920 := by cases b <;> decide
def rowT (x P Q F : List Nat) (t w h s : Bool) : List (List Nat) := [[100, 105, 97, 108, 101, 99, 116], x, num P, num Q, num F, bitS t ++ bitS w ++ bitS h ++ bitS s]
theorem num_len {x : List Nat} (h : ∀ c ∈ x, c ∈ pr94) (hl : x.length ≤ 3) : (num x).length ≤ 20 := by
  unfold num
  split
  · simp
  · match x, hl with
    | [a], _ =>
      have := pr_len a (h a (by simp))
      simp [joinL]; omega
    | [a, b], _ =>
      have h1 := pr_len a (h a (by simp))
      have h2 := pr_len b (h b (by simp))
      simp [joinL]; omega
    | [a, b, c], _ =>
      have h1 := pr_len a (h a (by simp))
      have h2 := pr_len b (h b (by simp))
      have h3 := pr_len c (h c (by simp))
      simp [joinL]; omega
    | [], _ => contradiction
theorem Told.len {P Q F : List Nat} (T : Told P Q F) : P.length ≤ 3 ∧ Q.length ≤ 3 ∧ F.length ≤ 3 := ⟨T.p.2.1, Nat.le_trans T.q.2.1 (by omega), Nat.le_trans T.f.2.1 (by omega)⟩
theorem row_sum {x P Q F : List Nat} (t w h s : Bool) (hx : x.length ≤ 100) (T : Told P Q F) : ((rowT x P Q F t w h s).map List.length).sum + (rowT x P Q F t w h s).length * [32].length ≤ 16777216 := by
  have h1 := num_len T.p.2.2.2 T.len.1
  have h2 := num_len T.q.2.2.2 T.len.2.1
  have h3 := num_len T.f.2.2.2 T.len.2.2
  have hb : ∀ b, (bitS b).length = 1 := fun b => by cases b <;> rfl
  simp only [rowT, List.map_cons, List.map_nil, List.sum_cons, List.sum_nil, List.length_cons, List.length_nil, List.length_append, hb]
  omega
theorem cut3a {a b c d e f g : D} : cutD [a, b, c, d, e, f, g] (some 3) none = [d, e, f, g] := by rfl
theorem cut3b {a b c d e f g : D} : cutD [a, b, c, d, e, f, g] none (some 3) = [a, b, c] := by rfl
theorem slcT3a {a b c d e f g : D} (S : Store) : dSlcA S (.tup [a, b, c, d, e, f, g]) (some 3) none = some (.tup [d, e, f, g]) := by rfl
theorem slcT3b {a b c d e f g : D} (S : Store) : dSlcA S (.tup [a, b, c, d, e, f, g]) none (some 3) = some (.tup [a, b, c]) := by rfl
theorem told_ns : Dns.contains ("told" : Str) = false := by decide +kernel
theorem t_row {x P Q F : List Nat} (t w h s : Bool) (hx : isNm x = true) (hl : x.length ≤ 100) (T : Told P Q F) (S : Store) : m_row_of [.str x, dlc P Q F t w h s] S = .ok (.str (joinL [32] (rowT x P Q F t w h s))) [] S := by
  have e1 := t_isName x (by omega) S
  have n1 := t_numbers T.p.2.2.2 T.len.1 S
  have n2 := t_numbers T.q.2.2.2 T.len.2.1 S
  have n3 := t_numbers T.f.2.2.2 T.len.2.2 S
  unfold m_row_of b_row_of
  have j1 : joinL [] [bitS t, bitS w, bitS h, bitS s] = bitS t ++ bitS w ++ bitS h ++ bitS s := by simp [joinL]
  have j2 : dJoin S (.str []) (.lst [.str (bitS t), .str (bitS w), .str (bitS h), .str (bitS s)]) = some (.str (bitS t ++ bitS w ++ bitS h ++ bitS s)) := by
    rw [← j1]
    exact v_join (l := [bitS t, bitS w, bitS h, bitS s]) (by
      have hb : ∀ b, (bitS b).length = 1 := fun b => by cases b <;> rfl
      simp only [List.map_cons, List.map_nil, List.sum_cons, List.sum_nil, List.length_cons, List.length_nil, hb]
      omega)
  have j3 : dJoin S (.str [32]) (.lst [.str [100, 105, 97, 108, 101, 99, 116], .str x, .str (num P), .str (num Q), .str (num F), .str (bitS t ++ bitS w ++ bitS h ++ bitS s)]) = some (.str (joinL [32] (rowT x P Q F t w h s))) :=
    v_join (l := rowT x P Q F t w h s) (row_sum t w h s hl T)
  simp (disch := first | omega | exact told_ns | exact bit_log _ | (simp only [List.length_cons, List.length_nil] <;> omega)) only [ev, ev2, Nat.reduceSub, e1, hx, t_toldM, slcT3a, slcT3b, C_row_of_1, C_row_of_0, bit_str, n1, n2, n3, j2, j3]
end K91
namespace K91
open PySem PySem.Spec L2 DL TL
/-! ### the law's own row -/
theorem pick_num : ∀ c ∈ pr94, atI [D.int (32 + (pr94.idxOf c : Int)), D.int (33 + (pr94.idxOf c : Int))] (if decide (4 < (pr94.idxOf c : Int)) = true then 1 else 0) = some (.int (c : Int)) := by
  intro c hc
  have h := pr_num c hc
  by_cases h4 : 4 < (pr94.idxOf c : Int)
  · rw [decide_eq_true h4, if_pos rfl, at1]
    rw [if_pos h4] at h
    rw [← h]
    congr 2
    omega
  · rw [decide_eq_false h4, if_neg Bool.false_ne_true, at0]
    rw [if_neg h4] at h
    rw [← h]
    congr 2
theorem lrow_loop (a b w3 w4 : D) (o3 o8 : Option Slot) (S : Store) : ∀ (x : List Nat) (acc : List D) (o6 o7 : Option Slot), (∀ c ∈ x, c ∈ pr94) → acc.length + x.length ≤ 1000 →
    ∃ o6' o7', mForL (gN 6) L__law_row_1 (x.map fun c => .str [c]) [some (.val a), some (.val b), some (.val (.str pr94)), o3, some (.val w4), some (.own (.lst acc)), o6, o7, o8] S =
      .ok .next [some (.val a), some (.val b), some (.val (.str pr94)), o3, some (.val w4), some (.own (.lst (acc ++ x.map fun (c : Nat) => .str (strI (c : Int))))), o6', o7', o8] S
  | [], acc, o6, o7, _, _ => ⟨o6, o7, by simp only [List.map_nil, List.append_nil]; rfl⟩
  | c :: r, acc, o6, o7, h, hl => by
    have hc := h c List.mem_cons_self
    simp only [List.length_cons] at hl
    obtain ⟨o6', o7', e⟩ := lrow_loop a b w3 w4 o3 o8 S r (acc ++ [.str (strI (c : Int))]) (some (.val (.str [c]))) (some (.val (.int (pr94.idxOf c : Nat)))) (fun z hz => h z (List.mem_cons_of_mem _ hz)) (by simp only [List.length_append, List.length_cons, List.length_nil]; omega)
    refine ⟨o6', o7', ?_⟩
    unfold L__law_row_1
    simp (disch := first | omega | exact pr_log _ (Nat.le_trans (pr_le _ ‹_›) (by omega)) | (simp only [List.length_cons, List.length_nil] <;> omega)) only [ev, ev2, v_index hc, pick_num c hc]
    rw [List.append_assoc] at e
    exact e
theorem lrow_one (a b : D) (o4 o5 o6 o7 o8 : Option Slot) (S : Store) {x : List Nat} (h : ∀ c ∈ x, c ∈ pr94) (hx : x.length ≤ 3) (acc : List D) (ha : acc.length ≤ 100) : ∃ o5' o6' o7',
    L__law_row_2 [some (.val a), some (.val b), some (.val (.str pr94)), some (.own (.lst acc)), some (.val (.str x)), o5, o6, o7, o8] S = .ok .next [some (.val a), some (.val b), some (.val (.str pr94)), some (.own (.lst (acc ++ [.str (num x)]))), some (.val (.str x)), o5', o6', o7', o8] S := by
  obtain ⟨o6', o7', e⟩ := lrow_loop a b (.int 0) (.str x) (some (.own (.lst acc))) o8 S x [] o6 o7 h (by simp only [List.length_nil]; omega)
  have hs : ((x.map fun (c : Nat) => strI (c : Int)).map List.length).sum + (x.map fun (c : Nat) => strI (c : Int)).length * [43].length ≤ 16777216 := by
    have := sum_le (l := x.map fun (c : Nat) => strI (c : Int)) (k := 3) fun t ht => by
      obtain ⟨c, hc, rfl⟩ := List.mem_map.mp ht
      exact pr_len c (h c hc)
    simp only [List.length_map, List.length_cons, List.length_nil] at this ⊢
    omega
  have j : dJoin S (.str [43]) (.lst (x.map fun (c : Nat) => .str (strI (c : Int)))) = some (.str (joinL [43] (x.map fun (c : Nat) => strI (c : Int)))) := by
    have q := v_join (S := S) hs
    rw [List.map_map] at q
    exact q
  unfold L__law_row_2
  simp (disch := first | omega | (simp only [List.length_cons, List.length_nil] <;> omega)) only [ev, ev2, e, j]
  unfold num
  cases h1 : decide (x = []) with
  | false =>
    rw [if_neg (of_decide_eq_false h1)]
    simp only [ev, ev2]
    exact ⟨_, _, _, rfl⟩
  | true =>
    rw [if_pos (of_decide_eq_true h1)]
    have ix : ixN (acc ++ [D.str (joinL [43] (x.map fun (c : Nat) => strI (c : Int)))]).length (-1) = some acc.length := by
      rw [List.length_append]
      exact ix_last
    simp (disch := first | omega | (simp only [List.length_cons, List.length_nil] <;> omega)) only [ev, ev2, ix, set_last]
    exact ⟨_, _, _, rfl⟩
theorem t_lrow {x P Q F : List Nat} (t w h s : Bool) (hl : x.length ≤ 100) (T : Told P Q F) (S : Store) : m__law_row [.str x, .tup (tld P Q F t w h s)] S = .ok (.str (joinL [32] (rowT x P Q F t w h s))) [] S := by
  have j1 : joinL [] [bitS t, bitS w, bitS h, bitS s] = bitS t ++ bitS w ++ bitS h ++ bitS s := by simp [joinL]
  have j2 : dJoin S (.str []) (.lst [.str (bitS t), .str (bitS w), .str (bitS h), .str (bitS s)]) = some (.str (bitS t ++ bitS w ++ bitS h ++ bitS s)) := by
    rw [← j1]
    exact v_join (l := [bitS t, bitS w, bitS h, bitS s]) (by
      have hb : ∀ b, (bitS b).length = 1 := fun b => by cases b <;> rfl
      simp only [List.map_cons, List.map_nil, List.sum_cons, List.sum_nil, List.length_cons, List.length_nil, hb]
      omega)
  have j3 : dJoin S (.str [32]) (.lst [.str [100, 105, 97, 108, 101, 99, 116], .str x, .str (num P), .str (num Q), .str (num F), .str (bitS t ++ bitS w ++ bitS h ++ bitS s)]) = some (.str (joinL [32] (rowT x P Q F t w h s))) :=
    v_join (l := rowT x P Q F t w h s) (row_sum t w h s hl T)
  obtain ⟨a5, a6, a7, e1⟩ := lrow_one (.str x) (.tup (tld P Q F t w h s)) none none none none none S T.p.2.2.2 T.len.1 [.str [100, 105, 97, 108, 101, 99, 116], .str x] (by simp)
  obtain ⟨b5, b6, b7, e2⟩ := lrow_one (.str x) (.tup (tld P Q F t w h s)) none a5 a6 a7 none S T.q.2.2.2 T.len.2.1 [.str [100, 105, 97, 108, 101, 99, 116], .str x, .str (num P)] (by simp)
  obtain ⟨c5, c6, c7, e3⟩ := lrow_one (.str x) (.tup (tld P Q F t w h s)) none b5 b6 b7 none S T.f.2.2.2 T.len.2.2 [.str [100, 105, 97, 108, 101, 99, 116], .str x, .str (num P), .str (num Q)] (by simp)
  simp only [z_consA, z_nilA] at e1 e2 e3
  unfold m__law_row b__law_row
  simp (disch := first | omega | exact bit_log _ | (simp only [List.length_cons, List.length_nil] <;> omega)) only [ev, ev2, Nat.reduceSub, t_menus2, at0, slcT3a, slcT3b, e1, e2, e3, C__law_row_0, bit_str, j2, j3]
/-! ### signs from their numbers -/
theorem pr_str : ∀ k : Fin 94, ∀ c ∈ pr94, (strI (32 + (k.val : Int) + if 4 < (k.val : Int) then 1 else 0) = strI (c : Int)) ↔ k.val = pr94.idxOf c := by decide +kernel
theorem sign_loop {c : Nat} (hc : c ∈ pr94) (S : Store) : ∀ (m i : Nat) (o : Option Slot), i + m = 94 → i ≤ pr94.idxOf c →
    ∃ ρ, mForL (gN 1) L_sign_of_0 ((List.range' i m).map fun i => .int (i : Nat)) [some (.val (.str (strI (c : Int)))), o] S = .ok (.ret (.str [c])) ρ S
  | 0, i, o, h, hi => by
    have : pr94.idxOf c < pr94.length := List.idxOf_lt_length_of_mem hc
    have e : pr94.length = 94 := rfl
    omega
  | m + 1, i, o, h, hi => by
    have hk := pr_str ⟨i, by omega⟩ c hc
    simp only at hk
    have hlog : (32 + (i : Int) + if 4 < (i : Int) then 1 else 0).natAbs.log2 < 1920 := by
      refine Nat.lt_of_le_of_lt (Nat.log2_le_self _) ?_
      split <;> omega
    rw [List.range'_succ, List.map_cons, r_forCons]
    have step : L_sign_of_0 [some (.val (.str (strI (c : Int)))), some (.val (.int (i : Nat)))] S = (if strI (32 + (i : Int) + if 4 < (i : Int) then 1 else 0) = strI (c : Int) then .ok (.ret (.str [c])) [some (.val (.str (strI (c : Int)))), some (.val (.int (i : Nat)))] S else .ok .next [some (.val (.str (strI (c : Int)))), some (.val (.int (i : Nat)))] S) := by
      unfold L_sign_of_0
      simp (disch := first | omega | exact hlog) only [ev, ev2, t_numAt]
      by_cases q : strI (32 + (i : Int) + if 4 < (i : Int) then 1 else 0) = strI (c : Int)
      · have ei := hk.mp q
        have at_ : atI pr94 (i : Int) = some c := by
          unfold atI ixN
          rw [if_pos (by omega), if_pos (by have e : pr94.length = 94 := rfl; omega)]
          show pr94[i]? = some c
          have hl : pr94.idxOf c < pr94.length := List.idxOf_lt_length_of_mem hc
          rw [ei, List.getElem?_eq_getElem hl, List.getElem_idxOf hl]
        rw [if_pos q, decide_eq_true q]
        simp (disch := (simp only [List.length_cons, List.length_nil]; omega)) only [ev, ev2, at_]
      · rw [if_neg q, decide_eq_false q]
        simp only [ev, ev2]
    simp only [ev, ev2]
    rw [step]
    by_cases q : i = pr94.idxOf c
    · rw [if_pos (hk.mpr q)]
      exact ⟨_, rfl⟩
    · rw [if_neg fun z => q (hk.mp z)]
      exact sign_loop hc S m (i + 1) _ (by omega) (by omega)
theorem t_sign {c : Nat} (hc : c ∈ pr94) (S : Store) : m_sign_of [.str (strI (c : Int))] S = .ok (.str [c]) [] S := by
  obtain ⟨ρ, e⟩ := sign_loop hc S 94 0 none rfl (Nat.zero_le _)
  rw [← List.range_eq_range'] at e
  unfold m_sign_of b_sign_of
  simp (disch := first | omega | (simp only [List.length_cons, List.length_nil] <;> omega)) only [ev, ev2, Nat.reduceSub, Nat.reduceAdd, Int.toNat_natCast]
  simp only [ev, ev2, e]
theorem pr_dig : ∀ c ∈ pr94, ∀ d ∈ strI (c : Int), 48 ≤ d ∧ d ≤ 57 := by decide +kernel
theorem pr_ne : ∀ c ∈ pr94, strI (c : Int) ≠ [] := by decide +kernel
theorem num_chars {x : List Nat} (h : ∀ c ∈ x, c ∈ pr94) : ∀ d ∈ num x, d = 43 ∨ d = 45 ∨ (48 ≤ d ∧ d ≤ 57) := by
  intro d hd
  unfold num at hd
  split at hd
  · exact .inr (.inl (List.mem_singleton.mp hd))
  · rcases join_mem hd with q | ⟨t, ht, q⟩
    · exact .inl (List.mem_singleton.mp q)
    · obtain ⟨c, hc, rfl⟩ := List.mem_map.mp ht
      exact .inr (.inr (pr_dig c (h c hc) d q))
theorem num_first {x : List Nat} (h : ∀ c ∈ x, c ∈ pr94) (hx : x ≠ []) : num x ≠ [45] := by
  unfold num
  rw [if_neg hx]
  cases x with
  | nil => exact absurd rfl hx
  | cons c r =>
    have hc := h c List.mem_cons_self
    have ne := pr_ne c hc
    have dg := pr_dig c hc
    intro z
    have h0 : ∃ d l, strI (c : Int) = d :: l := by
      cases e : strI (c : Int) with
      | nil => exact absurd e ne
      | cons d l => exact ⟨d, l, rfl⟩
    obtain ⟨d, l, e⟩ := h0
    have hd := dg d (by rw [e]; exact List.mem_cons_self)
    have : ∃ m, joinL [43] ((c :: r).map fun (c : Nat) => strI (c : Int)) = d :: m := by
      cases r with
      | nil => exact ⟨l, by show strI (c : Int) = _; rw [e]⟩
      | cons c2 r => exact ⟨_, by show strI (c : Int) ++ _ = _; rw [e]; rfl⟩
    obtain ⟨m, em⟩ := this
    rw [em] at z
    have := (List.cons.inj z).1
    omega
theorem t_signs {x : List Nat} (h : ∀ c ∈ x, c ∈ pr94) (hl : x.length ≤ 3) (S : Store) : m_signs_told [.str (num x)] S = .ok (.str x) [] S := by
  unfold m_signs_told b_signs_told
  simp only [ev, ev2, Nat.reduceSub]
  by_cases hx : x = []
  · subst hx
    rw [decide_eq_true (show num [] = [45] from rfl)]
    simp only [ev, ev2]
  · rw [decide_eq_false (num_first h hx)]
    have en : num x = joinL [43] (x.map fun (c : Nat) => strI (c : Int)) := if_neg hx
    have hs : ((x.map fun (c : Nat) => strI (c : Int)).map List.length).sum ≤ 9 := by
      have := sum_le (l := x.map fun (c : Nat) => strI (c : Int)) (k := 3) fun t ht => by
        obtain ⟨c, hc, rfl⟩ := List.mem_map.mp ht
        exact pr_len c (h c hc)
      simp only [List.length_map] at this
      omega
    have sp : dSplit (num x) [43] = some (x.map fun (c : Nat) => strI (c : Int)) := by
      rw [en]
      cases x with
      | nil => exact absurd rfl hx
      | cons c r =>
        refine v_split1 (by omega) ?_ fun u hu q => ?_
        · have := join_len (s := [43]) (l := (c :: r).map fun (c : Nat) => strI (c : Int))
          simp only [List.length_map, List.length_cons, List.length_nil] at this hl
          simp only [List.map_cons] at this hs ⊢
          omega
        · obtain ⟨c', hc', rfl⟩ := List.mem_map.mp (show u ∈ (c :: r).map fun (c : Nat) => strI (c : Int) from hu)
          have := pr_dig c' (h c' hc') 43 q
          omega
    have e : mLcL (gN 1) mYes C_signs_told_0 [some (.val (.str (num x))), none] ((x.map fun (c : Nat) => strI (c : Int)).map D.str) S = some ((x.map fun c => [c]).map D.str, S) := by
      have key : ∀ y : List Nat, (∀ c ∈ y, c ∈ pr94) → mLcL (gN 1) mYes C_signs_told_0 [some (.val (.str (num x))), none] ((y.map fun (c : Nat) => strI (c : Int)).map D.str) S = some ((y.map fun c => [c]).map D.str, S) := by
        intro y
        induction y with
        | nil => intro _; rfl
        | cons c r ih =>
          intro hy
          simp only [List.map_cons]
          rw [r_lcCons]
          unfold C_signs_told_0
          simp only [ev, ev2, t_sign (hy c List.mem_cons_self)]
          have q := ih fun z hz => hy z (List.mem_cons_of_mem _ hz)
          unfold C_signs_told_0 at q
          rw [q]
          rfl
      exact key x h
    have j : dJoin S (.str []) (.lst ((x.map fun c => [c]).map D.str)) = some (.str x) := by
      rw [v_join (by
        have := sum_le (l := x.map fun c => [c]) (k := 1) fun t ht => by
          obtain ⟨c, _, rfl⟩ := List.mem_map.mp ht
          exact Nat.le_refl _
        simp only [List.length_map, List.length_nil] at this ⊢
        omega), join_nil1]
    simp (disch := first | omega | (simp only [List.length_map]; omega)) only [ev, ev2, sp, e, j]
theorem t_truths (t w h s : Bool) (S : Store) : m_truths_told [.str (bitS t ++ bitS w ++ bitS h ++ bitS s)] S = .ok (.lst [.bl t, .bl w, .bl h, .bl s]) [] S := by
  cases t <;> cases w <;> cases h <;> cases s <;> rfl
/-! ### dialect_in of such a row -/
theorem isNm_small {x : List Nat} (h : isNm x = true) : (1 ≤ x.length ∧ x.length ≤ 8) ∧ ∀ c ∈ x, c ∈ small := by
  unfold isNm at h
  obtain ⟨h1, h2⟩ := Bool.and_eq_true_iff.mp h
  exact ⟨of_decide_eq_true h1, fun c hc => of_decide_eq_true (List.all_eq_true.mp h2 c hc)⟩
theorem row_split {x P Q F : List Nat} (t w h s : Bool) (hx : isNm x = true) (T : Told P Q F) : dSplit (joinL [32] (rowT x P Q F t w h s)) [32] = some (rowT x P Q F t w h s) := by
  obtain ⟨⟨h1, h2⟩, h3⟩ := isNm_small hx
  refine v_split1 (by omega) ?_ fun u hu q => ?_
  · have a := join_len (s := [32]) (l := rowT x P Q F t w h s)
    have n1 := num_len T.p.2.2.2 T.len.1
    have n2 := num_len T.q.2.2.2 T.len.2.1
    have n3 := num_len T.f.2.2.2 T.len.2.2
    have hb : ∀ b, (bitS b).length = 1 := fun b => by cases b <;> rfl
    simp only [rowT, List.map_cons, List.map_nil, List.sum_cons, List.sum_nil, List.length_cons, List.length_nil, List.length_append, hb] at a
    show (joinL [32] (rowT x P Q F t w h s)).length ≤ 1000000
    simp only [rowT] at a ⊢
    omega
  · have sm : ∀ c ∈ small, 97 ≤ c := by decide
    have bt : ∀ b, 32 ∉ bitS b := fun b => by cases b <;> decide
    have nm : ∀ y, (∀ c ∈ y, c ∈ pr94) → 32 ∉ num y := fun y hy z => by have := num_chars hy 32 z; omega
    rcases List.mem_cons.mp hu with e | hu
    · subst e; revert q; decide
    rcases List.mem_cons.mp hu with e | hu
    · subst e; have := sm 32 (h3 32 q); omega
    rcases List.mem_cons.mp hu with e | hu
    · subst e; exact nm P T.p.2.2.2 q
    rcases List.mem_cons.mp hu with e | hu
    · subst e; exact nm Q T.q.2.2.2 q
    rcases List.mem_cons.mp hu with e | hu
    · subst e; exact nm F T.f.2.2.2 q
    rcases List.mem_cons.mp hu with e | hu
    · subst e
      simp only [List.mem_append] at q
      rcases q with ((q | q) | q) | q
      · exact bt t q
      · exact bt w q
      · exact bt h q
      · exact bt s q
    · cases hu
theorem slc25 {a b c d e f : D} (S : Store) : dSlcA S (.lst [a, b, c, d, e, f]) (some 2) (some 5) = some (.lst [c, d, e]) := by rfl
theorem t_in {x P Q F : List Nat} (t w h s : Bool) (hx : isNm x = true) (T : Told P Q F) (S : Store) : m_dialect_in [.str (joinL [32] (rowT x P Q F t w h s))] S = .ok (.tup [.str x, dlc P Q F t w h s]) [] S := by
  obtain ⟨⟨h1, h2⟩, h3⟩ := isNm_small hx
  unfold m_dialect_in b_dialect_in
  simp (disch := first | omega | rfl | (simp only [List.length_cons, List.length_nil] <;> omega)) only [ev, ev2, Nat.reduceSub, Nat.reduceAdd, tyD, isiTab, show (("str" == "str" || "str" == "bool" && "str" == "int") : Bool) = true from by decide, row_split t w h s hx T, show (rowT x P Q F t w h s).map D.str = [.str [100, 105, 97, 108, 101, 99, 116], .str x, .str (num P), .str (num Q), .str (num F), .str (bitS t ++ bitS w ++ bitS h ++ bitS s)] from rfl,
    at0, at1, at5, t_isName x (by omega) S, hx, slc25, C_dialect_in_0, t_signs T.p.2.2.2 T.len.1, t_signs T.q.2.2.2 T.len.2.1, t_signs T.f.2.2.2 T.len.2.2, t_truths, show decide (((6 : Nat) : Int) = 6) = true from rfl, decide_true, at2, at3, t_init t w h s T.p T.q T.f]
/-! ### refused -/
theorem lk1 : List.lookup ("NoName" : Str) [(("NoDialect" : Str), false), ("NoRow", false), ("NoName", true)] = some true := by decide +kernel
theorem lk2 : List.lookup ("NoName" : Str) [(("NoDialect" : Str), true), ("NoRow", true), ("NoName", false)] = some false := by decide +kernel
theorem lk3 : List.lookup ("NoName" : Str) [(("NoDialect" : Str), true), ("NoRow", true), ("NoName", true)] = some true := by decide +kernel
theorem fdn {d : D} : fldL "name" [("name" : Str)] [d] = some d := rfl
theorem t_refused {d : D} {P Q F : List Nat} (t w h s : Bool) (S : Store) (tn : String) (hn : m_is_name [d] S = .ok (.bl false) [] S) (ht : tyD S d = some tn) (he : dEq S d d = some (.bl true)) : m__law_refused [d, dlc P Q F t w h s] S = .ok (.bl true) [] S := by
  have e : m_row_of [d, dlc P Q F t w h s] S = .exc "NoName" ["name"] [d] [] S := by
    unfold m_row_of b_row_of
    simp (disch := first | omega | rfl) only [ev, ev2, Nat.reduceSub, hn]
    rfl
  unfold m__law_refused b__law_refused
  simp (disch := first | omega | rfl) only [ev, ev2, Nat.reduceSub, e, lk1, lk2, lk3, fdn, ht, he, show ∀ b : Bool, dEq S (.bl b) (.bl b) = some (.bl true) from fun b => by cases b <;> rfl]
theorem t_made {P Q F : List Nat} (t w h s : Bool) (T : Told P Q F) (S : Store) : m__law_made [.tup (tld P Q F t w h s)] S = .ok (dlc P Q F t w h s) [] S := by
  unfold m__law_made b__law_made
  simp (disch := first | omega | rfl) only [ev, ev2, Nat.reduceSub, at0, at1, at2, at3, at4, at5, at6, t_init t w h s T.p T.q T.f]
theorem t_eqTold {P Q F : List Nat} (t w h s : Bool) (S : Store) : dEq S (.tup (tld P Q F t w h s)) (.tup (tld P Q F t w h s)) = some (.bl true) := by
  show some (D.bl (PyData.eqv (.tuple [.str (mkS P), .str (mkS Q), .str (mkS F), .bool t, .bool w, .bool h, .bool s]) (.tuple [.str (mkS P), .str (mkS Q), .str (mkS F), .bool t, .bool w, .bool h, .bool s]))) = _
  simp [PyData.eqv, PyData.eqvAll]
theorem t_right {x P Q F : List Nat} (t w h s : Bool) (hx : isNm x = true) (T : Told P Q F) (S : Store) : m__law_right [.str x, .tup (tld P Q F t w h s)] S = .ok (.bl true) [] S := by
  obtain ⟨⟨h1, h2⟩, h3⟩ := isNm_small hx
  unfold m__law_right b__law_right
  simp (disch := first | omega | exact told_ns | rfl | (simp only [List.length_cons, List.length_nil] <;> omega)) only [ev, ev2, Nat.reduceSub, Nat.reduceAdd, tyD, isiTab, show (("str" == "str" || "str" == "bool" && "str" == "int") : Bool) = true from by decide, show (("tuple" == "tuple" || "tuple" == "bool" && "tuple" == "int") : Bool) = true from by decide, t_made t w h s T, t_row t w h s hx (by omega) T, t_lrow (x := x) t w h s (by omega) T, decide_true, t_isName x (by omega), hx, t_in t w h s hx T, at0, at1, show decide (((2 : Nat) : Int) = 2) = true from rfl, ownD, show List.lookup ("Dialect" : Str) [(("Dialect" : Str), true)] = some true from by decide +kernel, t_toldM, t_eqTold]
/-! ### the law -/
theorem title_loop (a b : D) (S : Store) : ∀ (its : List D) (n : Int) (x : List Nat) (o4 : Option Slot), x.length + its.length ≤ 100 → (∀ c ∈ x, c ∈ small) →
    ∃ n' x' o4', mForL (gN 4) L__law_title_0 its [some (.val a), some (.val (.int n)), some (.val b), some (.val (.str x)), o4] S = .ok .next [some (.val a), some (.val (.int n')), some (.val b), some (.val (.str x')), o4'] S ∧ x'.length = x.length + its.length ∧ ∀ c ∈ x', c ∈ small
  | [], n, x, o4, h1, h2 => ⟨n, x, o4, rfl, by simp, h2⟩
  | d :: r, n, x, o4, h1, h2 => by
    simp only [List.length_cons] at h1
    obtain ⟨c, hc, e⟩ := atI_mod (xs := small) (by simp) n
    rw [show ((small.length : Nat) : Int) = 26 from rfl] at e
    obtain ⟨n', x', o4', q1, q2, q3⟩ := title_loop a b S r (n / 26) (x ++ [c]) (some (.val d)) (by simp only [List.length_append, List.length_cons, List.length_nil]; omega) (fun z hz => by
      rcases List.mem_append.mp hz with q | q
      · exact h2 z q
      · rw [List.mem_singleton.mp q]; exact hc)
    refine ⟨n', x', o4', ?_, by simp only [List.length_append, List.length_cons, List.length_nil] at q2 ⊢; omega, q3⟩
    have hl1 : x.length + [c].length ≤ 16777216 := by simp only [List.length_cons, List.length_nil]; omega
    unfold L__law_title_0
    simp (disch := first | omega | (simp only [List.length_cons, List.length_nil] <;> omega)) only [ev, ev2, e, v_addS hl1]
    exact q1
theorem t_title (c : Int) (S : Store) : ∃ x, m__law_title [.int c] S = .ok (.str x) [] S ∧ isNm x = true := by
  obtain ⟨n, en⟩ := t_number c 71 (by omega) (by omega) S
  obtain ⟨n', x', o4', q1, q2, q3⟩ := title_loop (.int c) (.int (1 + n % 8)) S ((List.range (1 + n % 8).toNat).map fun i => .int (i : Nat)) (n / 8) [] none (by simp; omega) (by simp)
  refine ⟨x', ?_, ?_⟩
  · unfold m__law_title b__law_title
    simp (disch := omega) only [ev, ev2, Nat.reduceSub, Nat.reduceAdd, en]
    simp only [ev, ev2, q1]
  · unfold isNm
    simp only [List.length_map, List.length_range, List.length_nil] at q2
    rw [decide_eq_true (by omega), Bool.true_and]
    exact List.all_eq_true.mpr fun z hz => decide_eq_true (q3 z hz)
theorem law_step {d : D} {P Q F : List Nat} (t w h s : Bool) (S : Store) (T : Told P Q F) (tn : String) (hn : m_is_name [d] S = .ok (.bl false) [] S) (ht : tyD S d = some tn) (he : dEq S d d = some (.bl true)) (a b c e f g : Option Slot) :
    L_law_0 [a, some (.val (.tup (tld P Q F t w h s))), b, c, e, f, g, some (.val d)] S = .ok .next [a, some (.val (.tup (tld P Q F t w h s))), b, c, e, f, g, some (.val d)] S := by
  unfold L_law_0
  simp (disch := first | omega | rfl) only [ev, ev2, hn, t_made t w h s T, t_refused t w h s S tn hn ht he, decide_true]
theorem law_pure (ns : List Int) (h63 : ns.length ≤ 63) : ∃ ρ S, m_law [.scr (ns.map .int)] [] = .ok (.bl true) ρ S := by
  obtain ⟨c0, e0⟩ := t_cell ns h63 0 []
  obtain ⟨c1, e1⟩ := t_cell ns h63 1 []
  obtain ⟨c2, e2⟩ := t_cell ns h63 2 []
  obtain ⟨c3, e3⟩ := t_cell ns h63 3 []
  obtain ⟨c4, e4⟩ := t_cell ns h63 4 []
  obtain ⟨P, Q, F, t, w, h, s, et, T⟩ := t_told c0 []
  obtain ⟨P2, Q2, F2, t2, w2, h2, s2, et2, T2⟩ := t_told (c1 + 1) []
  obtain ⟨x, ex, hx⟩ := t_title c2 []
  obtain ⟨y, ey, hy⟩ := t_title c3 []
  obtain ⟨⟨hx1, hx2⟩, hx3⟩ := isNm_small hx
  have g0 : 0 ≤ c4 % (x.length : Int) := Int.emod_nonneg _ (by omega)
  have g1 : c4 % (x.length : Int) < x.length := Int.emod_lt_of_pos _ (by omega)
  obtain ⟨o, ho, eo⟩ := atI_mod (xs := ([65, 49, 32, 95, 45, 46, 10] : List Nat)) (by simp) (c4 / 8)
  rw [show (([65, 49, 32, 95, 45, 46, 10] : List Nat).length : Int) = 7 from rfl] at eo
  have odd : ∀ o ∈ ([65, 49, 32, 95, 45, 46, 10] : List Nat), o ∉ small := by decide
  have l1 : (x.take (c4 % (x.length : Int)).toNat).length + [o].length ≤ 16777216 := by simp only [List.length_take, List.length_cons, List.length_nil]; omega
  have l2 : (x.take (c4 % (x.length : Int)).toNat ++ [o]).length + (x.drop (c4 % (x.length : Int) + 1).toNat).length ≤ 16777216 := by simp only [List.length_take, List.length_drop, List.length_append, List.length_cons, List.length_nil]; omega
  have l3 : ∀ u : Nat, (x.take 7).length + [u].length ≤ 16777216 := fun u => by simp only [List.length_take, List.length_cons, List.length_nil]; omega
  have sl1 : dSlcA [] (.str x) none (some (c4 % (x.length : Int))) = some (.str (x.take (c4 % (x.length : Int)).toNat)) := by rw [v_slcS (by omega), cut_take g0]
  have sl2 : dSlcA [] (.str x) (some (c4 % (x.length : Int) + 1)) none = some (.str (x.drop (c4 % (x.length : Int) + 1).toNat)) := by rw [v_slcS (by omega), cut_drop (by omega)]
  have sl3 : dSlcA [] (.str x) none (some 7) = some (.str (x.take 7)) := by rw [v_slcS (by omega), cut_take (by omega)]; rfl
  have bad : ∀ (u : List Nat) (v : Nat) (w : List Nat), v ∉ small → isNm (u ++ [v] ++ w) = false := fun u v w hv => by
    unfold isNm
    rw [show ((u ++ [v] ++ w).all fun c => decide (c ∈ small)) = false from ?_, Bool.and_false]
    refine Bool.eq_false_iff.mpr fun q => hv ?_
    exact of_decide_eq_true (List.all_eq_true.mp q v (by simp))
  have eqS : ∀ u : List Nat, dEq [] (.str u) (.str u) = some (.bl true) := fun u => by rw [v_eqS, decide_eq_true rfl]
  have nS : ∀ u : List Nat, u.length ≤ 1000 → isNm u = false → m_is_name [.str u] [] = .ok (.bl false) [] [] := fun u h1 h2 => by rw [t_isName u h1 [], h2]
  have bad1 : ∀ v, v ∉ small → isNm (x.take 7 ++ [v]) = false := fun v hv => by have := bad (x.take 7) v [] hv; rwa [List.append_nil] at this
  have len1 : ∀ v : Nat, (x.take 7 ++ [v]).length ≤ 1000 := fun v => by simp only [List.length_append, List.length_take, List.length_cons, List.length_nil]; omega
  have st := fun {d : D} (tn : String) (hn : m_is_name [d] [] = .ok (.bl false) [] []) (ht : tyD [] d = some tn) (he : dEq [] d d = some (.bl true)) => law_step t w h s [] T tn hn ht he
  have eqL : dEq [] (.lst [.str x]) (.lst [.str x]) = some (.bl true) := by
    show some (D.bl (PyData.eqv (.list [.str (mkS x)]) (.list [.str (mkS x)]))) = _
    simp [PyData.eqv, PyData.eqvAll]
  have lenO : (x.take (c4 % (x.length : Int)).toNat ++ [o] ++ x.drop (c4 % (x.length : Int) + 1).toNat).length ≤ 1000 := by simp only [List.length_append, List.length_take, List.length_drop, List.length_cons, List.length_nil]; omega
  unfold m_law b_law
  simp (disch := first | omega | exact l1 | exact l2 | exact l3 _ | rfl | (simp only [List.length_cons, List.length_nil] <;> omega)) only [ev, ev2, Nat.reduceSub, Nat.reduceAdd, show m__law_cell_at [.scr (ns.map .int), .int 0] [] = _ from e0, show m__law_cell_at [.scr (ns.map .int), .int 1] [] = _ from e1, show m__law_cell_at [.scr (ns.map .int), .int 2] [] = _ from e2, show m__law_cell_at [.scr (ns.map .int), .int 3] [] = _ from e3, show m__law_cell_at [.scr (ns.map .int), .int 4] [] = _ from e4, et, et2, ex, ey, t_right t w h s hx T, t_right t2 w2 h2 s2 hy T2, sl1, sl2, sl3, eo,
    st "str" (nS _ lenO (bad _ _ _ (odd o ho))) rfl (eqS _), st "str" (nS [] (by simp) rfl) rfl (eqS _), st "str" (nS [97, 98, 99, 100, 101, 102, 103, 104, 105] (by simp) rfl) rfl (eqS _),
    st "str" (nS _ (len1 65) (bad1 65 (by decide))) rfl (eqS _), st "str" (nS _ (len1 49) (bad1 49 (by decide))) rfl (eqS _), st "str" (nS _ (len1 32) (bad1 32 (by decide))) rfl (eqS _),
    st "NoneType" (t_isName0 .non _ [] rfl rfl) rfl rfl, st "int" (t_isName0 (.int 7) _ [] rfl rfl) rfl rfl, st "bool" (t_isName0 (.bl true) _ [] rfl rfl) rfl rfl, st "list" (t_isName0 (.lst [.str x]) _ [] rfl rfl) rfl eqL]
  exact ⟨_, _, rfl⟩
end K91

namespace K91
open PySem PySem.Spec PyProof.Rows L2 DL
theorem fact {P : Program} {w : World} {K : PySem.W.Frag} {h : Heap} {mg : Str → Option Value} {f : Addr} (X : K.In h) (G : h.Ns mainGlobals mg) (hfa : mg ("law" : Str) = some (.ref f)) (c : SaysX cks fns K) :
    ∃ fd : FuncData, (∀ (s : Shared) (v : Value), BindsTo s fd ⟨[v], []⟩ [(("_law_script" : Str), v)]) ∧ ∀ base : Heap, K.In base → base.Ns mainGlobals mg → FnOk P w K mg base (CXw P) 7 f fd ["_law_script"] (spM K 1 m_law) := by
  obtain ⟨fds, z⟩ := zz_of X G c
  have e := hfa.symm.trans (z.glo 81)
  cases e
  exact ⟨fds 23, fun s v => FunD.bindsA (ps := P_law) (z.d 23 d_law rfl) (fun _ _ _ _ _ _ us hl => match us, hl with | [_], _ => rfl) s [v] rfl, fun base _ _ => fn_w (ok_law z)⟩
end K91
open PySem PySem.W PySem.Calls PyProof.Rows
theorem PySem.Challenge.cw_dialecthall_k91_rows_of_dialects_holds : PySem.Challenge.rw_dialecthall_k91_rows_of_dialects.Holds := by
  w_on; o_law
  refine HandSHeadRun.head_any (r := K91.R) (q := K91.qv) (H := K91.hk) (ob := K91.ob) (M := 8000) (loose := K91.loose) (d := HandSHeadRun.topDef K91.R.prog 40) (kwd := []) K91.ob_eq
    (by kernel_rfl) (fun s => by kernel_rfl) K91.run (by kernel_rfl) (by kernel_rfl) (by kernel_rfl) (by rfl) (by first | assumption | decide +kernel) (by decide +kernel) ⟨rfl, rfl, rfl, rfl, rfl, by decide +kernel⟩ ?hw ?hc
  case hw => w_witness2
  case hc =>
    refine L2.walk_ofE (l := PySem.Challenge.rw_dialecthall_k91_rows_of_dialects) (n := 63) (k := 7) (x := "_law_script") (CX := DL.CXw PySem.Challenge.rw_dialecthall_k91_rows_of_dialects.prog) rfl (by decide) (by kernel_rfl) ⟨rfl, by decide, by decide⟩ ?F (fun _ _ _ _ z => DL.cxw_none z)
    intro w mg fa h Y G hmg0
    obtain ⟨K, KX, c⟩ := Y
    have hmg : mg ("law" : PySem.Str) = some (.ref fa) := by
      have e : (HandSHeadRun.topDef K91.R.prog 40).name = ("law" : PySem.Str) := by kernel_rfl
      rw [← e]
      exact hmg0
    obtain ⟨fd, hb, hF⟩ := K91.fact (P := PySem.Challenge.rw_dialecthall_k91_rows_of_dialects.prog) (w := w) KX G hmg c
    exact ⟨K, fd, DL.spM K 1 K91.m_law, KX, hb, fun H a ns hl _ hS => DL.sp_law hS (K91.law_pure ns hl), hF⟩

