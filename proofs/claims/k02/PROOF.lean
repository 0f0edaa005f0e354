import PyProof.Rows.All
import Wide.All
import OpenK.AllK
import Wide.FinOn
import HandS.ForMost
import HandS.IsInst
import HandS.Exc
import HandS.ExcOwn
import HandS.TryOnly
import HandS.TupAny
import HandS.Wide
import HandS.Deep
import HandS.ListEq
import HandS.Conv
import HandS.RaiseMore
import HandS.CallSlots
import HandS.WordsExc
import HandS.Ends
import HandS.Slots
import HandS.TupMul
import HandS.Style
import HandS.NoneIn
import PySem.Challenge.RW_keptways_k02_pairs_and_integers_judged
set_option Elab.async false
set_option linter.all false
set_option autoImplicit false
set_option maxRecDepth 100000
set_option maxHeartbeats 4000000
/-! Pure values over the hand layer: PV, how the heap bears them, the outcomes. -/
namespace Pv
open PySem PySem.Spec L2
/-! ### values -/
inductive PV where
  | non | bl (b : Bool) | int (i : Int) | str (s : Str)
  | tup (xs : List PV) | lst (xs : List PV) | dct (kvs : List (PV × PV)) | set (xs : List PV)
  | ins (C : Addr) (fs : List (Str × PV))
  | scr (ns : List Int)
  | loc (n : Nat)
  | cls (C : Addr) | ty (n : String)
instance : Inhabited PV := ⟨.non⟩
def keyOf : PV → Option Key
  | .int i => some (.inl i)
  | .str s => some (.inr s)
  | _ => none
def keysOf : List PV → Option (List Key)
  | [] => some []
  | x :: xs => match keyOf x, keysOf xs with
    | some k, some ks => some (k :: ks)
    | _, _ => none
/-- the addresses of cells; those that nothing may reach -/
structure Ad where
  ν : List Addr
  B : List Addr
/-- an address of what never changes -/
def Ad.Free (ω : Ad) (a : Addr) : Prop := a ∉ ω.ν ∧ a ∉ ω.B
abbrev Store := List PV
abbrev PEnv := List (Option PV)
/-- a tuple of the written part -/
def KT (K : PySem.W.Frag) (a : Addr) (xs : List V) : Prop := ∃ (o : Obj) (its : Array Value) (n : Nat), K.lookup a = some o ∧ o.cls = .type "tuple" ∧ o.data = .seq its n ∧ its.size ≤ sizeLine ∧ Vals xs its.toList
/-- a list of the written part -/
def KL (K : PySem.W.Frag) (a : Addr) (xs : List V) : Prop := ∃ (o : Obj) (its : Array Value) (n : Nat), K.lookup a = some o ∧ o.cls = .type "list" ∧ o.dict = none ∧ o.data = .seq its n ∧ its.size ≤ sizeLine ∧ Vals xs its.toList
mutual
def Rp (K : PySem.W.Frag) (H : Hp) (ω : Ad) : PV → V → Prop
  | .non, v => v = .non
  | .bl b, v => v = .bl b
  | .int i, v => v = .int i
  | .str s, v => v = .str s
  | .tup xs, v => ∃ a vs, v = .ref a ∧ ((H a = some (.tup vs) ∧ ω.Free a) ∨ KT K a vs) ∧ RpL K H ω xs vs
  | .lst xs, v => ∃ a vs, v = .ref a ∧ H a = some (.lst vs) ∧ ω.Free a ∧ RpL K H ω xs vs
  | .dct kvs, v => ∃ a, v = .ref a ∧ ω.Free a ∧ ((∃ xs, Rd H a (.dK xs) ∧ RpK K H ω kvs xs) ∨ (∃ xs, Rd H a (.dT xs) ∧ RpT K H ω kvs xs))
  | .set xs, v => False
  | .ins C fs, v => ∃ a dx vs, v = .ref a ∧ H a = some (.ins C dx vs) ∧ ω.Free a ∧ RpF K H ω fs vs
  | .scr ns, v => ∃ a, v = .ref a ∧ ((Rd H a (.lst (ns.map V.int)) ∧ ω.Free a) ∨ KL K a (ns.map V.int))
  | .loc n, v => ∃ a, v = .ref a ∧ ω.ν[n]? = some a
  | .cls C, v => v = .ref C
  | .ty n, v => v = .ty n
def RpL (K : PySem.W.Frag) (H : Hp) (ω : Ad) : List PV → List V → Prop
  | [], vs => vs = []
  | x :: xs, vs => ∃ v ws, vs = v :: ws ∧ Rp K H ω x v ∧ RpL K H ω xs ws
def RpK (K : PySem.W.Frag) (H : Hp) (ω : Ad) : List (PV × PV) → List (Key × V) → Prop
  | [], vs => vs = []
  | (k, x) :: xs, vs => ∃ kk v ws, vs = (kk, v) :: ws ∧ keyOf k = some kk ∧ Rp K H ω x v ∧ RpK K H ω xs ws
def RpT (K : PySem.W.Frag) (H : Hp) (ω : Ad) : List (PV × PV) → List (List Key × V) → Prop
  | [], vs => vs = []
  | (k, x) :: xs, vs => ∃ ks kk v ws, vs = (kk, v) :: ws ∧ k = .tup ks ∧ keysOf ks = some kk ∧ Rp K H ω x v ∧ RpT K H ω xs ws
def RpF (K : PySem.W.Frag) (H : Hp) (ω : Ad) : List (Str × PV) → List (Str × V) → Prop
  | [], vs => vs = []
  | (k, x) :: xs, vs => ∃ v ws, vs = (k, v) :: ws ∧ Rp K H ω x v ∧ RpF K H ω xs ws
end
/-! ### what stays -/
/-- from one state to a later one: cells are added at new places, all else stands -/
structure Stp (ω : Ad) (H : Hp) (ω' : Ad) (H' : Hp) : Prop where
  nu : ∃ ex, ω'.ν = ω.ν ++ ex ∧ ∀ a ∈ ex, H a = none
  bl : ω'.B = ω.B
  kp : ∀ a u, H a = some u → a ∉ ω.ν → H' a = some u
  tr : ∀ a, H a ≠ none → H' a ≠ none
theorem Stp.refl {ω : Ad} {H : Hp} : Stp ω H ω H := ⟨⟨[], by simp, by simp⟩, rfl, fun _ _ h _ => h, fun _ h => h⟩
theorem Stp.trans {ω ω1 ω2 : Ad} {H H1 H2 : Hp} (a : Stp ω H ω1 H1) (b : Stp ω1 H1 ω2 H2) : Stp ω H ω2 H2 := by
  obtain ⟨ex, e1, f1⟩ := a.nu
  obtain ⟨ex2, e2, f2⟩ := b.nu
  refine ⟨⟨ex ++ ex2, by rw [e2, e1, List.append_assoc], fun c hc => ?_⟩, b.bl.trans a.bl, fun c u h n => ?_, fun c h => b.tr c (a.tr c h)⟩
  · rcases List.mem_append.mp hc with h | h
    · exact f1 c h
    · cases q : H c with
      | none => rfl
      | some u => exact absurd (f2 c h) (a.tr c (by rw [q]; simp))
  · refine b.kp c u (a.kp c u h n) ?_
    rw [e1]
    intro hm
    rcases List.mem_append.mp hm with z | z
    · exact n z
    · rw [f1 c z] at h; cases h
/-- what a change of the heap, of the cells and of what is closed lets stand -/
structure Up (ω : Ad) (H : Hp) (ω' : Ad) (H' : Hp) : Prop where
  nu : ∀ (n : Nat) (a : Addr), ω.ν[n]? = some a → ω'.ν[n]? = some a
  kp : ∀ a u, H a = some u → ω.Free a → H' a = some u ∧ ω'.Free a
theorem Stp.up {ω ω' : Ad} {H H' : Hp} (s : Stp ω H ω' H') : Up ω H ω' H' := by
  obtain ⟨ex, e1, f1⟩ := s.nu
  refine ⟨fun n a h => ?_, fun a u h f => ⟨s.kp a u h f.1, ?_, ?_⟩⟩
  · rw [e1, List.getElem?_append_left (List.getElem?_eq_some_iff.mp h).1]; exact h
  · rw [e1]
    intro hm
    rcases List.mem_append.mp hm with z | z
    · exact f.1 z
    · rw [f1 a z] at h; cases h
  · rw [s.bl]; exact f.2
theorem Up.rd {ω ω' : Ad} {H H' : Hp} (u : Up ω H ω' H') {a : Addr} {o : HO} (f : ω.Free a) (h : Rd H a o) : Rd H' a o := by
  rcases h with h | ⟨ob, h⟩
  · exact .inl (u.kp a _ h f).1
  · exact .inr ⟨ob, (u.kp a _ h f).1⟩
theorem Up.fr {ω ω' : Ad} {H H' : Hp} (u : Up ω H ω' H') {a : Addr} {o : HO} (f : ω.Free a) (h : Rd H a o) : ω'.Free a := by
  rcases h with h | ⟨ob, h⟩
  · exact (u.kp a _ h f).2
  · exact (u.kp a _ h f).2
section
variable {K : PySem.W.Frag} {ω ω' : Ad} {H H' : Hp}
mutual
theorem Rp.up (u : Up ω H ω' H') : ∀ {x : PV} {v : V}, Rp K H ω x v → Rp K H' ω' x v
  | .non, _, h => h
  | .bl _, _, h => h
  | .int _, _, h => h
  | .str _, _, h => h
  | .tup xs, _, ⟨a, vs, e, h, r⟩ => ⟨a, vs, e, h.imp (fun z => u.kp _ _ z.1 z.2) id, RpL.up u r⟩
  | .lst xs, _, ⟨a, vs, e, h, f, r⟩ => ⟨a, vs, e, (u.kp _ _ h f).1, (u.kp _ _ h f).2, RpL.up u r⟩
  | .dct kvs, _, ⟨a, e, f, .inl ⟨xs, h, r⟩⟩ => ⟨a, e, u.fr f h, .inl ⟨xs, u.rd f h, RpK.up u r⟩⟩
  | .dct kvs, _, ⟨a, e, f, .inr ⟨xs, h, r⟩⟩ => ⟨a, e, u.fr f h, .inr ⟨xs, u.rd f h, RpT.up u r⟩⟩
  | .set _, _, h => h
  | .ins C fs, _, ⟨a, dx, vs, e, h, f, r⟩ => ⟨a, dx, vs, e, (u.kp _ _ h f).1, (u.kp _ _ h f).2, RpF.up u r⟩
  | .scr ns, _, ⟨a, e, h⟩ => ⟨a, e, h.imp (fun z => ⟨u.rd z.2 z.1, u.fr z.2 z.1⟩) id⟩
  | .loc n, _, ⟨a, e, h⟩ => ⟨a, e, u.nu n a h⟩
  | .cls _, _, h => h
  | .ty _, _, h => h
theorem RpL.up (u : Up ω H ω' H') : ∀ {xs : List PV} {vs : List V}, RpL K H ω xs vs → RpL K H' ω' xs vs
  | [], _, h => h
  | x :: xs, _, ⟨v, ws, e, h, r⟩ => ⟨v, ws, e, Rp.up u h, RpL.up u r⟩
theorem RpK.up (u : Up ω H ω' H') : ∀ {xs : List (PV × PV)} {vs : List (Key × V)}, RpK K H ω xs vs → RpK K H' ω' xs vs
  | [], _, h => h
  | (_, _) :: xs, _, ⟨kk, v, ws, e, k, h, r⟩ => ⟨kk, v, ws, e, k, Rp.up u h, RpK.up u r⟩
theorem RpT.up (u : Up ω H ω' H') : ∀ {xs : List (PV × PV)} {vs : List (List Key × V)}, RpT K H ω xs vs → RpT K H' ω' xs vs
  | [], _, h => h
  | (_, _) :: xs, _, ⟨ks, kk, v, ws, e, k, k2, h, r⟩ => ⟨ks, kk, v, ws, e, k, k2, Rp.up u h, RpT.up u r⟩
theorem RpF.up (u : Up ω H ω' H') : ∀ {xs : List (Str × PV)} {vs : List (Str × V)}, RpF K H ω xs vs → RpF K H' ω' xs vs
  | [], _, h => h
  | (_, _) :: xs, _, ⟨v, ws, e, h, r⟩ => ⟨v, ws, e, Rp.up u h, RpF.up u r⟩
end
end
/-! ### cells -/
/-- what a changing object holds -/
def CoR (K : PySem.W.Frag) (H : Hp) (ω : Ad) : PV → HO → Prop
  | .lst xs, o => ∃ vs, o = .lst vs ∧ RpL K H ω xs vs
  | .dct kvs, o => (∃ xs, o = .dK xs ∧ RpK K H ω kvs xs) ∨ (∃ xs, o = .dT xs ∧ RpT K H ω kvs xs)
  | .ins C fs, o => ∃ dx vs, o = .ins C dx vs ∧ RpF K H ω fs vs
  | _, _ => False
theorem CoR.up {K : PySem.W.Frag} {ω ω' : Ad} {H H' : Hp} (u : Up ω H ω' H') : ∀ {x : PV} {o : HO}, CoR K H ω x o → CoR K H' ω' x o
  | .lst _, _, ⟨vs, e, r⟩ => ⟨vs, e, r.up u⟩
  | .dct _, _, .inl ⟨xs, e, r⟩ => .inl ⟨xs, e, r.up u⟩
  | .dct _, _, .inr ⟨xs, e, r⟩ => .inr ⟨xs, e, r.up u⟩
  | .ins _ _, _, ⟨dx, vs, e, r⟩ => ⟨dx, vs, e, r.up u⟩
  | .non, _, h => h
  | .bl _, _, h => h
  | .int _, _, h => h
  | .str _, _, h => h
  | .tup _, _, h => h
  | .set _, _, h => h
  | .scr _, _, h => h
  | .loc _, _, h => h
  | .cls _, _, h => h
  | .ty _, _, h => h
structure StR (K : PySem.W.Frag) (ω : Ad) (S : Store) (H : Hp) : Prop where
  len : ω.ν.length = S.length
  nd : ω.ν.Nodup
  nb : ∀ a ∈ ω.ν, a ∉ ω.B
  tb : ∀ a ∈ ω.B, H a ≠ none
  «at» : ∀ (n : Nat) (c : PV) (a : Addr), S[n]? = some c → ω.ν[n]? = some a → ∃ o, H a = some o ∧ CoR K H ω c o
theorem StR.tracked {K : PySem.W.Frag} {ω : Ad} {S : Store} {H : Hp} (s : StR K ω S H) {a : Addr} (h : a ∈ ω.ν) : H a ≠ none := by
  obtain ⟨n, hn⟩ := List.mem_iff_getElem?.mp h
  have hl : n < S.length := by rw [← s.len]; exact (List.getElem?_eq_some_iff.mp hn).1
  obtain ⟨o, ho, _⟩ := s.at n S[n] a (List.getElem?_eq_getElem hl) hn
  rw [ho]; simp
def EnvR (K : PySem.W.Frag) (H : Hp) (ω : Ad) (ρ : PEnv) (σ : St) : Prop :=
  ρ.length = σ.length ∧ ∀ (i : Nat) (x : PV), ρ[i]? = some (some x) → ∃ v, σ[i]? = some (some v) ∧ Rp K H ω x v
theorem EnvR.up {K : PySem.W.Frag} {ω ω' : Ad} {H H' : Hp} {ρ : PEnv} {σ : St} (u : Up ω H ω' H') (e : EnvR K H ω ρ σ) : EnvR K H' ω' ρ σ :=
  ⟨e.1, fun i x h => let ⟨v, h1, h2⟩ := e.2 i x h; ⟨v, h1, h2.up u⟩⟩
/-! ### outcomes -/
structure PX where
  cls : Value
  fs : Option (List (Str × PV))
def ExR (K : PySem.W.Frag) (H : Hp) (ω : Ad) (x : PX) (d : Option Addr) : Prop :=
  match x.fs with
  | none => d = none
  | some fs => ∃ a vs, d = some a ∧ H a = some (.xd vs) ∧ ω.Free a ∧ RpF K H ω fs vs
theorem ExR.up {K : PySem.W.Frag} {ω ω' : Ad} {H H' : Hp} {x : PX} {d : Option Addr} (u : Up ω H ω' H') (h : ExR K H ω x d) : ExR K H' ω' x d := by
  unfold ExR at h ⊢
  split
  · rename_i e; rw [e] at h; exact h
  · rename_i fs e
    rw [e] at h
    obtain ⟨a, vs, e, h1, f, r⟩ := h
    exact ⟨a, vs, e, (u.kp _ _ h1 f).1, (u.kp _ _ h1 f).2, r.up u⟩
inductive Out (α : Type) where
  | ok (a : α) (S : Store)
  | exc (x : PX) (S : Store)
  | stuck
abbrev M (α : Type) := Store → Out α
def M.ret {α : Type} (a : α) : M α := fun S => .ok a S
@[simp] def Out.then {α β : Type} (o : Out α) (f : α → M β) : Out β := match o with
  | .ok a S => f a S
  | .exc x S => .exc x S
  | .stuck => .stuck
def M.bind {α β : Type} (m : M α) (f : α → M β) : M β := fun S => (m S).then f
def M.stuck {α : Type} : M α := fun _ => .stuck
instance : Monad M where
  pure := M.ret
  bind := M.bind
theorem then_ok {α β : Type} (a : α) (S : Store) (f : α → M β) : (Out.ok a S).then f = f a S := rfl
theorem then_exc {α β : Type} (x : PX) (S : Store) (f : α → M β) : (Out.exc x S).then f = .exc x S := rfl
theorem then_stuck {α β : Type} (f : α → M β) : (Out.stuck : Out α).then f = .stuck := rfl
theorem bind_ap {α β : Type} (m : M α) (f : α → M β) (S : Store) : (m >>= f) S = (m S).then f := rfl
theorem pure_ap {α : Type} (a : α) (S : Store) : (pure a : M α) S = .ok a S := rfl
theorem ret_ap {α : Type} (a : α) (S : Store) : (M.ret a : M α) S = .ok a S := rfl
theorem stuck_ap {α : Type} (S : Store) : (M.stuck : M α) S = .stuck := rfl
/-- what an outcome owes -/
def OutP {α : Type} (K : PySem.W.Frag) (E : XK) (ω : Ad) (H : Hp) (o : Out α) (Q : α → Store → Hp → Ad → Prop) : Prop :=
  match o with
  | .ok r S' => ∀ H' ω', Stp ω H ω' H' → StR K ω' S' H' → Q r S' H' ω'
  | .exc x S' => ∀ d H' ω', Stp ω H ω' H' → StR K ω' S' H' → ExR K H' ω' x d → E x.cls d H'
  | .stuck => False
theorem OutP.imp {α : Type} {K : PySem.W.Frag} {E : XK} {ω : Ad} {H : Hp} {o : Out α} {Q Q' : α → Store → Hp → Ad → Prop} (h : OutP K E ω H o Q)
    (i : ∀ r S' H' ω', Stp ω H ω' H' → StR K ω' S' H' → Q r S' H' ω' → Q' r S' H' ω') : OutP K E ω H o Q' := by
  cases o with
  | ok r S' => exact fun H' ω' s t => i r S' H' ω' s t (h H' ω' s t)
  | exc x S' => exact h
  | stuck => exact h
/-- later -/
theorem OutP.later {α : Type} {K : PySem.W.Frag} {E : XK} {ω ω1 : Ad} {H H1 : Hp} {o : Out α} {Q : α → Store → Hp → Ad → Prop} (s : Stp ω H ω1 H1) (h : OutP K E ω H o Q) : OutP K E ω1 H1 o Q := by
  cases o with
  | ok r S' => exact fun H' ω' s1 t => h H' ω' (s.trans s1) t
  | exc x S' => exact fun d H' ω' s1 t => h d H' ω' (s.trans s1) t
  | stuck => exact h
theorem OutP.bind {α β : Type} {K : PySem.W.Frag} {E : XK} {ω : Ad} {H : Hp} {o : Out α} {f : α → M β} {Q : β → Store → Hp → Ad → Prop} (h : OutP K E ω H (o.then f) Q) :
    OutP K E ω H o fun r S' H' ω' => OutP K E ω' H' (f r S') Q := by
  cases o with
  | ok r S' => exact fun H' ω' s _ => OutP.later s h
  | exc x S' => exact h
  | stuck => exact h
/-! ### readings by denotations -/
abbrev Den := PEnv → M PV
abbrev DenA := PEnv → M (List PV)
abbrev DenT := PEnv → M Bool
section
variable (K : PySem.W.Frag) (W : WX)
/-- from a state that is borne -/
def From (ρ : PEnv) (S : Store) (ω : Ad) (σ : St) (H : Hp) : Prop := StR K ω S H ∧ EnvR K H ω ρ σ
def tX (d : Den) : TE := fun σ H Q => ∃ ω S ρ, From K ρ S ω σ H ∧ OutP K (fun c x H' => W c x σ H') ω H (d ρ S) fun r S' H' ω' => ∀ v, Rp K H' ω' r v → Q v H'
def tXA (d : DenA) : TA := fun σ H Q => ∃ ω S ρ, From K ρ S ω σ H ∧ OutP K (fun c x H' => W c x σ H') ω H (d ρ S) fun r S' H' ω' => ∀ vs, RpL K H' ω' r vs → Q vs H'
def tXT (d : DenT) : TT := fun σ H Q => ∃ ω S ρ, From K ρ S ω σ H ∧ OutP K (fun c x H' => W c x σ H') ω H (d ρ S) fun r S' H' ω' => Q r H'
/-- a new object, which nothing knows yet -/
def tXF (d : Den) : TE := fun σ H Q => ∃ ω S ρ, From K ρ S ω σ H ∧ OutP K (fun c x H' => W c x σ H') ω H (d ρ S) fun r S' H' ω' =>
  ∀ p o, H' p = some o → H p = none → p ∉ ω'.ν → StR K ⟨ω'.ν, p :: ω'.B⟩ S' H' → CoR K H' ⟨ω'.ν, p :: ω'.B⟩ r o → Q (.ref p) H'
end
theorem From.later {K : PySem.W.Frag} {ρ : PEnv} {S S' : Store} {ω ω' : Ad} {σ : St} {H H' : Hp} (f : From K ρ S ω σ H) (s : Stp ω H ω' H') (t : StR K ω' S' H') : From K ρ S' ω' σ H' := ⟨t, f.2.up s.up⟩
theorem _root_.L2.PE.imp {X : Cx} {e : Expr} {t t' : TE} (h : PE X e t) (i : ∀ σ H Q, t' σ H Q → t σ H Q) : PE X e t' := ⟨fun pins s σ H Q I q => h.run pins s σ H Q I (i σ H Q q)⟩
theorem _root_.L2.PT.imp {X : Cx} {e : Expr} {t t' : TT} (h : PT X e t) (i : ∀ σ H Q, t' σ H Q → t σ H Q) : PT X e t' := ⟨fun pins s σ H Q I q => h.run pins s σ H Q I (i σ H Q q)⟩
theorem _root_.L2.PW.imp {X : Cx} {e : Expr} {t t' : TT} (h : PW X e t) (i : ∀ σ H Q, t' σ H Q → t σ H Q) : PW X e t' := ⟨fun wh pins s σ H Q I q => h.run wh pins s σ H Q I (i σ H Q q)⟩
theorem _root_.L2.PA.imp {X : Cx} {es : List Expr} {t t' : TA} (h : PA X es t) (i : ∀ σ H Q, t' σ H Q → t σ H Q) : PA X es t' := ⟨fun pos pins s σ H Q I q => h.run pos pins s σ H Q I (i σ H Q q)⟩
theorem _root_.L2.PS.imp {X : Cx} {st : Stmt} {t t' : TS} (h : PS X st t) (i : ∀ D σ H, t' D σ H → t D σ H) : PS X st t' := ⟨fun pins s σ H D I q => h.run pins s σ H D I (i D σ H q)⟩
theorem _root_.L2.PSs.imp {X : Cx} {st : List Stmt} {t t' : TS} (h : PSs X st t) (i : ∀ D σ H, t' D σ H → t D σ H) : PSs X st t' := ⟨fun pins s σ H D I q => h.run pins s σ H D I (i D σ H q)⟩
abbrev EX (X : Cx) (W : WX) (e : Expr) (d : Den) : Prop := PE X e (tX X.K W d)
abbrev EF (X : Cx) (W : WX) (e : Expr) (d : Den) : Prop := PE X e (tXF X.K W d)
abbrev AX (X : Cx) (W : WX) (es : List Expr) (d : DenA) : Prop := PA X es (tXA X.K W d)
abbrev BX (X : Cx) (W : WX) (e : Expr) (d : DenT) : Prop := PT X e (tXT X.K W d)
end Pv

namespace Pv
open PySem PySem.Spec L2
/-! ### new objects -/
section
variable {K : PySem.W.Frag} {ω : Ad} {S : Store} {H H' : Hp} {p : Addr} {o : HO}
theorem StR.out (t : StR K ω S H) (h : H p = none) : ω.Free p :=
  ⟨fun z => t.tracked z h, fun z => t.tb p z h⟩
theorem new_up (t : StR K ω S H) (h : H p = none) : Up ω H ⟨ω.ν, p :: ω.B⟩ (upd H p o) := by
  refine ⟨fun _ _ z => z, fun a u e f => ?_⟩
  have hne : a ≠ p := ne_of_none e h
  exact ⟨by rw [upd_ne hne]; exact e, f.1, fun z => by
    rcases List.mem_cons.mp z with z | z
    · exact hne z
    · exact f.2 z⟩
theorem new_stp (h : H p = none) : Stp ω H ω (upd H p o) := by
  refine ⟨⟨[], by simp, by simp⟩, rfl, fun a u e _ => ?_, fun a e => ?_⟩
  · rw [upd_ne (ne_of_none e h)]; exact e
  · unfold upd; split
    · simp
    · exact e
theorem new_str (t : StR K ω S H) (h : H p = none) : StR K ⟨ω.ν, p :: ω.B⟩ S (upd H p o) := by
  refine ⟨t.len, t.nd, fun a ha z => ?_, fun a ha => ?_, fun n c a e1 e2 => ?_⟩
  · rcases List.mem_cons.mp z with z | z
    · subst z; exact t.tracked ha h
    · exact t.nb a ha z
  · unfold upd; split
    · simp
    · rcases List.mem_cons.mp ha with z | z
      · contradiction
      · exact t.tb a z
  · obtain ⟨u, hu, r⟩ := t.at n c a e1 e2
    exact ⟨u, by rw [upd_ne (ne_of_none hu h)]; exact hu, r.up (new_up t h)⟩
/-- what was closed is opened -/
theorem open_up : Up ⟨ω.ν, p :: ω.B⟩ H ω H := ⟨fun _ _ z => z, fun a u e f => ⟨e, f.1, fun z => f.2 (List.mem_cons_of_mem _ z)⟩⟩
theorem open_str (t : StR K ⟨ω.ν, p :: ω.B⟩ S H) : StR K ω S H :=
  ⟨t.len, t.nd, fun a ha z => t.nb a ha (List.mem_cons_of_mem _ z), fun a ha => t.tb a (List.mem_cons_of_mem _ ha), fun n c a e1 e2 => let ⟨u, hu, r⟩ := t.at n c a e1 e2; ⟨u, hu, r.up open_up⟩⟩
/-- a new object as a value that never changes -/
theorem CoR.pure {r : PV} (hp : ω.Free p) (e : H p = some o) (c : CoR K H ⟨ω.ν, p :: ω.B⟩ r o) : Rp K H ω r (.ref p) := by
  have c := c.up (open_up (ω := ω) (p := p) (H := H))
  cases r with
  | lst xs => obtain ⟨vs, rfl, r⟩ := c; exact ⟨p, vs, rfl, e, hp, r⟩
  | dct kvs =>
    rcases c with ⟨xs, rfl, r⟩ | ⟨xs, rfl, r⟩
    · exact ⟨p, rfl, hp, .inl ⟨xs, .of e, r⟩⟩
    · exact ⟨p, rfl, hp, .inr ⟨xs, .of e, r⟩⟩
  | ins C fs => obtain ⟨dx, vs, rfl, r⟩ := c; exact ⟨p, dx, vs, rfl, e, hp, r⟩
  | non => exact c.elim
  | bl _ => exact c.elim
  | int _ => exact c.elim
  | str _ => exact c.elim
  | tup _ => exact c.elim
  | set _ => exact c.elim
  | scr _ => exact c.elim
  | loc _ => exact c.elim
  | cls _ => exact c.elim
  | ty _ => exact c.elim
/-- a new object as a cell -/
theorem cell_up (h : H p = none) (t : StR K ω S H) (e : H' p = some o) (s : Stp ω H ω H') : Up ⟨ω.ν, p :: ω.B⟩ H' ⟨ω.ν ++ [p], ω.B⟩ H' := by
  refine ⟨fun n a z => ?_, fun a u e f => ⟨e, fun z => ?_, fun z => f.2 (List.mem_cons_of_mem _ z)⟩⟩
  · rw [List.getElem?_append_left (List.getElem?_eq_some_iff.mp z).1]; exact z
  · rcases List.mem_append.mp z with z | z
    · exact f.1 z
    · exact f.2 (by simp at z; rw [z]; exact List.mem_cons_self)
theorem cell_str {c : PV} (hp : ω.Free p) (t' : StR K ⟨ω.ν, p :: ω.B⟩ S H') (e : H' p = some o) (u : Up ⟨ω.ν, p :: ω.B⟩ H' ⟨ω.ν ++ [p], ω.B⟩ H') (r : CoR K H' ⟨ω.ν, p :: ω.B⟩ c o) :
    StR K ⟨ω.ν ++ [p], ω.B⟩ (S ++ [c]) H' := by
  have hl := t'.len
  refine ⟨by simpa using hl, ?_, fun a ha z => ?_, fun a ha => t'.tb a (List.mem_cons_of_mem _ ha), fun n c' a e1 e2 => ?_⟩
  · refine List.nodup_append.mpr ⟨t'.nd, by simp, ?_⟩
    intro a ha b hb
    simp at hb
    subst hb
    rintro rfl
    exact hp.1 ha
  · rcases List.mem_append.mp ha with ha | ha
    · exact t'.nb a ha (List.mem_cons_of_mem _ z)
    · simp at ha; subst ha; exact hp.2 z
  · by_cases hn : n < S.length
    · rw [List.getElem?_append_left hn] at e1
      rw [List.getElem?_append_left (show n < ω.ν.length by rw [hl]; exact hn)] at e2
      obtain ⟨w, hw, rw'⟩ := t'.at n c' a e1 e2
      exact ⟨w, hw, rw'.up u⟩
    · have hn1 : n < (S ++ [c]).length := (List.getElem?_eq_some_iff.mp e1).1
      have hn2 : n = S.length := by simp at hn1; omega
      subst hn2
      rw [List.getElem?_append_right (Nat.le_refl _)] at e1
      rw [List.getElem?_append_right (by show ω.ν.length ≤ _; rw [hl]; exact Nat.le_refl _)] at e2
      simp at e1
      have hl' : ω.ν.length = S.length := hl
      simp [hl'] at e2
      subst e1; subst e2
      exact ⟨o, e, r.up u⟩
end
/-! ### what is looked at -/
def look (S : Store) : PV → PV
  | .loc n => S.getD n .non
  | x => x
@[simp] theorem look_non (S : Store) : look S .non = .non := rfl
@[simp] theorem look_bl (S : Store) (b : Bool) : look S (.bl b) = .bl b := rfl
@[simp] theorem look_int (S : Store) (i : Int) : look S (.int i) = .int i := rfl
@[simp] theorem look_str (S : Store) (z : Str) : look S (.str z) = .str z := rfl
@[simp] theorem look_tup (S : Store) (xs : List PV) : look S (.tup xs) = .tup xs := rfl
@[simp] theorem look_lst (S : Store) (xs : List PV) : look S (.lst xs) = .lst xs := rfl
@[simp] theorem look_dct (S : Store) (xs : List (PV × PV)) : look S (.dct xs) = .dct xs := rfl
@[simp] theorem look_set' (S : Store) (xs : List PV) : look S (.set xs) = .set xs := rfl
@[simp] theorem look_scr (S : Store) (xs : List Int) : look S (.scr xs) = .scr xs := rfl
@[simp] theorem look_ins (S : Store) (C : Addr) (xs : List (Str × PV)) : look S (.ins C xs) = .ins C xs := rfl
@[simp] theorem look_cls (S : Store) (C : Addr) : look S (.cls C) = .cls C := rfl
@[simp] theorem look_ty (S : Store) (C : String) : look S (.ty C) = .ty C := rfl
theorem look_at {S : Store} {n : Nat} {c : PV} (h : S[n]? = some c) : look S (.loc n) = c := by
  show S.getD n .non = c
  rw [List.getD_eq_getElem?_getD, h]; rfl
theorem look_set {S : Store} {n : Nat} {c : PV} (h : n < S.length) : look (S.set n c) (.loc n) = c := look_at (by rw [List.getElem?_set_self h])
theorem look_ne {S : Store} {n m : Nat} {c : PV} (h : m ≠ n) : look (S.set n c) (.loc m) = look S (.loc m) := by
  show (S.set n c).getD m .non = S.getD m .non
  rw [List.getD_eq_getElem?_getD, List.getD_eq_getElem?_getD, List.getElem?_set_ne (Ne.symm h)]
section
variable {K : PySem.W.Frag} {ω : Ad} {S : Store} {H : Hp} {x : PV} {v : V}
theorem lst_of (t : StR K ω S H) {xs : List PV} (r : Rp K H ω x v) (e : look S x = .lst xs) : ∃ a vs, v = .ref a ∧ H a = some (.lst vs) ∧ RpL K H ω xs vs := by
  cases x with
  | loc n =>
    obtain ⟨a, rfl, h⟩ := r
    have hn : n < S.length := by rw [← t.len]; exact (List.getElem?_eq_some_iff.mp h).1
    have e' : S[n]? = some (.lst xs) := by
      have e : S.getD n .non = .lst xs := e
      rw [List.getD_eq_getElem?_getD, List.getElem?_eq_getElem hn] at e
      rw [List.getElem?_eq_getElem hn]
      simpa using e
    obtain ⟨o, ho, vs, rfl, rr⟩ := t.at n _ a e' h
    exact ⟨a, vs, rfl, ho, rr⟩
  | lst ys =>
    obtain ⟨a, vs, e1, h, f, rr⟩ := r
    cases (show ys = xs from PV.lst.inj e)
    exact ⟨a, vs, e1, h, rr⟩
  | non => cases e
  | bl _ => cases e
  | int _ => cases e
  | str _ => cases e
  | tup _ => cases e
  | set _ => cases e
  | scr _ => cases e
  | cls _ => cases e
  | ty _ => cases e
  | dct _ => cases e
  | ins _ _ => cases e
/-- what a cell can hold -/
def isCo : PV → Bool
  | .lst _ => true
  | .dct _ => true
  | .ins _ _ => true
  | _ => false
theorem CoR.isCo {r : PV} {o : HO} (c : CoR K H ω r o) : isCo r = true := by
  cases r <;> first | rfl | exact c.elim
theorem look_loc (t : StR K ω S H) {n : Nat} (r : Rp K H ω (.loc n) v) : ∃ a c o, v = .ref a ∧ ω.ν[n]? = some a ∧ S[n]? = some c ∧ look S (.loc n) = c ∧ H a = some o ∧ CoR K H ω c o := by
  obtain ⟨a, rfl, h⟩ := r
  have hn : n < S.length := by rw [← t.len]; exact (List.getElem?_eq_some_iff.mp h).1
  have e' : S[n]? = some S[n] := List.getElem?_eq_getElem hn
  obtain ⟨o, ho, c⟩ := t.at n _ a e' h
  refine ⟨a, S[n], o, rfl, h, e', ?_, ho, c⟩
  show S.getD n .non = _
  rw [List.getD_eq_getElem?_getD, e']; rfl
theorem look_eq (t : StR K ω S H) {y : PV} (r : Rp K H ω x v) (e : look S x = y) (h : isCo y = false) : x = y := by
  cases x with
  | loc n =>
    obtain ⟨a, c, o, _, _, _, e2, _, hc⟩ := look_loc t r
    rw [e2] at e; subst e
    rw [hc.isCo] at h; cases h
  | lst ys => exact e
  | non => exact e
  | bl _ => exact e
  | int _ => exact e
  | str _ => exact e
  | tup _ => exact e
  | set _ => exact e
  | scr _ => exact e
  | cls _ => exact e
  | ty _ => exact e
  | dct _ => exact e
  | ins _ _ => exact e
theorem tup_of {xs : List PV} (r : Rp K H ω (.tup xs) v) : ∃ a vs, v = .ref a ∧ SqT K H a vs ∧ RpL K H ω xs vs := by
  obtain ⟨a, vs, e, h, rr⟩ := r
  exact ⟨a, vs, e, h.imp (fun z => .inl z.1) id, rr⟩
theorem RpL.length : ∀ {xs : List PV} {vs : List V}, RpL K H ω xs vs → xs.length = vs.length
  | [], _, h => by cases h; rfl
  | x :: xs, _, ⟨v, ws, e, _, r⟩ => by subst e; simp [RpL.length r]
theorem RpL.get : ∀ {xs : List PV} {vs : List V} {i : Nat} {x : PV}, RpL K H ω xs vs → xs[i]? = some x → ∃ v, vs[i]? = some v ∧ Rp K H ω x v
  | [], _, _, _, _, h => by simp at h
  | y :: ys, _, 0, x, ⟨v, ws, e, r, _⟩, h => by subst e; simp at h; subst h; exact ⟨v, by simp, r⟩
  | y :: ys, _, i + 1, x, ⟨v, ws, e, _, r⟩, h => by
    subst e
    obtain ⟨w, h1, h2⟩ := RpL.get (i := i) r (by simpa using h)
    exact ⟨w, by simpa using h1, h2⟩
theorem RpL.get' : ∀ {xs : List PV} {vs : List V} {i : Nat} {v : V}, RpL K H ω xs vs → vs[i]? = some v → ∃ x, xs[i]? = some x ∧ Rp K H ω x v := fun {xs vs i v} r h => by
  have hi : i < xs.length := by rw [r.length]; exact (List.getElem?_eq_some_iff.mp h).1
  obtain ⟨w, h1, h2⟩ := r.get (List.getElem?_eq_getElem hi)
  rw [h] at h1; cases h1
  exact ⟨_, List.getElem?_eq_getElem hi, h2⟩
theorem RpL.append : ∀ {xs ys : List PV} {vs ws : List V}, RpL K H ω xs vs → RpL K H ω ys ws → RpL K H ω (xs ++ ys) (vs ++ ws)
  | [], _, _, _, h, q => by cases h; exact q
  | x :: xs, _, _, _, ⟨v, us, e, h, r⟩, q => by subst e; exact ⟨v, us ++ _, rfl, h, r.append q⟩
theorem RpL.take : ∀ {xs : List PV} {vs : List V} (n : Nat), RpL K H ω xs vs → RpL K H ω (xs.take n) (vs.take n)
  | _, _, 0, _ => by simp; rfl
  | [], _, _ + 1, h => by cases h; rfl
  | x :: xs, _, n + 1, ⟨v, us, e, h, r⟩ => by subst e; exact ⟨v, _, rfl, h, r.take n⟩
theorem RpL.drop : ∀ {xs : List PV} {vs : List V} (n : Nat), RpL K H ω xs vs → RpL K H ω (xs.drop n) (vs.drop n)
  | _, _, 0, h => h
  | [], _, _ + 1, h => by cases h; rfl
  | x :: xs, _, n + 1, ⟨v, us, e, h, r⟩ => by subst e; exact r.drop n
theorem RpL.set {y : PV} {w : V} (hy : Rp K H ω y w) : ∀ {xs : List PV} {vs : List V} (n : Nat), RpL K H ω xs vs → RpL K H ω (xs.set n y) (vs.set n w)
  | [], _, _, h => by cases h; rfl
  | x :: xs, _, 0, ⟨v, us, e, h, r⟩ => by subst e; exact ⟨w, us, rfl, hy, r⟩
  | x :: xs, _, n + 1, ⟨v, us, e, h, r⟩ => by subst e; exact ⟨v, _, rfl, h, r.set hy n⟩
theorem RpL.eraseIdx : ∀ {xs : List PV} {vs : List V} (n : Nat), RpL K H ω xs vs → RpL K H ω (xs.eraseIdx n) (vs.eraseIdx n)
  | [], _, _, h => by cases h; rfl
  | x :: xs, _, 0, ⟨v, us, e, h, r⟩ => by subst e; exact r
  | x :: xs, _, n + 1, ⟨v, us, e, h, r⟩ => by subst e; exact ⟨v, _, rfl, h, r.eraseIdx n⟩
theorem RpL.one {x : PV} {vs : List V} (r : RpL K H ω [x] vs) : ∃ v, vs = [v] ∧ Rp K H ω x v := by
  obtain ⟨v, ws, rfl, h, r⟩ := r
  cases r
  exact ⟨v, rfl, h⟩
theorem RpL.two {x y : PV} {vs : List V} (r : RpL K H ω [x, y] vs) : ∃ v w, vs = [v, w] ∧ Rp K H ω x v ∧ Rp K H ω y w := by
  obtain ⟨v, ws, rfl, h, r⟩ := r
  obtain ⟨w, rfl, h2⟩ := r.one
  exact ⟨v, w, rfl, h, h2⟩
theorem RpL.zero {vs : List V} (r : RpL K H ω [] vs) : vs = [] := r
end
/-! ### operators by values -/
@[simp] def optO (o : Option PV) (S : Store) : Out PV := match o with
  | some v => .ok v S
  | none => .stuck
abbrev P2 := Store → PV → PV → Option PV
abbrev PC' := Store → List PV → Option PV
/-- an operator whose answer is a value that never changes -/
def rP (K : PySem.W.Frag) (p : P2) : R2 := fun x y H Q => ∃ ω S px py r, StR K ω S H ∧ Rp K H ω px x ∧ Rp K H ω py y ∧ p S px py = some r ∧
  ∀ v H', Stp ω H ω H' → StR K ω S H' → Rp K H' ω r v → Q v H'
/-- .. a new object -/
def rF (K : PySem.W.Frag) (p : P2) : R2 := fun x y H Q => ∃ ω S px py r, StR K ω S H ∧ Rp K H ω px x ∧ Rp K H ω py y ∧ p S px py = some r ∧
  ∀ q o H', Stp ω H ω H' → H q = none → H' q = some o → StR K ⟨ω.ν, q :: ω.B⟩ S H' → CoR K H' ⟨ω.ν, q :: ω.B⟩ r o → Q (.ref q) H'
def rCP (K : PySem.W.Frag) (p : PC') : List V → Hp → VK → Prop := fun vs H Q => ∃ ω S ps r, StR K ω S H ∧ RpL K H ω ps vs ∧ p S ps = some r ∧
  ∀ v H', Stp ω H ω H' → StR K ω S H' → Rp K H' ω r v → Q v H'
def rCF (K : PySem.W.Frag) (p : PC') : List V → Hp → VK → Prop := fun vs H Q => ∃ ω S ps r, StR K ω S H ∧ RpL K H ω ps vs ∧ p S ps = some r ∧
  ∀ q o H', Stp ω H ω H' → H q = none → H' q = some o → StR K ⟨ω.ν, q :: ω.B⟩ S H' → CoR K H' ⟨ω.ν, q :: ω.B⟩ r o → Q (.ref q) H'
abbrev OpP (X : Cx) (f : Value → Value → Sem Value) (p : P2) : Prop := OpR X f (rP X.K p)
abbrev OpF (X : Cx) (f : Value → Value → Sem Value) (p : P2) : Prop := OpR X f (rF X.K p)
abbrev CallP (X : Cx) (f : Value) (p : PC') : Prop := CallR X f (rCP X.K p)
abbrev CallF (X : Cx) (f : Value) (p : PC') : Prop := CallR X f (rCF X.K p)
theorem OpR.weak {X : Cx} {f : Value → Value → Sem Value} {r r' : R2} (h : OpR X f r) (i : ∀ x y H Q, r' x y H Q → r x y H Q) : OpR X f r' :=
  fun pins s σ H x y v u Q I rx ry q => h pins s σ H x y v u Q I rx ry (i _ _ _ _ q)
theorem CallR.weak {X : Cx} {f : Value} {r r' : List V → Hp → VK → Prop} (h : CallR X f r) (i : ∀ vs H Q, r' vs H Q → r vs H Q) : CallR X f r' :=
  fun pins s σ H vs us Q I rx q => h pins s σ H vs us Q I rx (i _ _ _ q)
theorem OpF.pure {X : Cx} {f : Value → Value → Sem Value} {p : P2} (h : OpF X f p) : OpP X f p := OpR.weak h fun x y H Q ⟨ω, S, px, py, r, t, rx, ry, e, k⟩ =>
  ⟨ω, S, px, py, r, t, rx, ry, e, fun q o H' s hn he t' c => k _ _ s (open_str t') (c.pure (t.out hn) he)⟩
theorem CallF.pure {X : Cx} {f : Value} {p : PC'} (h : CallF X f p) : CallP X f p := CallR.weak h fun vs H Q ⟨ω, S, ps, r, t, rx, e, k⟩ =>
  ⟨ω, S, ps, r, t, rx, e, fun q o H' s hn he t' c => k _ _ s (open_str t') (c.pure (t.out hn) he)⟩
/-- a new list -/
theorem new_lst {K : PySem.W.Frag} {ω : Ad} {S : Store} {H : Hp} {p : Addr} {xs : List PV} {vs : List V} {Q : VK} (t : StR K ω S H) (hp : H p = none) (r : RpL K H ω xs vs)
    (k : ∀ q o H', Stp ω H ω H' → H q = none → H' q = some o → StR K ⟨ω.ν, q :: ω.B⟩ S H' → CoR K H' ⟨ω.ν, q :: ω.B⟩ (.lst xs) o → Q (.ref q) H') : Q (.ref p) (upd H p (.lst vs)) :=
  k p _ _ (new_stp hp) hp upd_same (new_str t hp) ⟨vs, rfl, r.up (new_up t hp)⟩
/-- a new tuple -/
theorem new_tup {K : PySem.W.Frag} {ω : Ad} {S : Store} {H : Hp} {p : Addr} {xs : List PV} {vs : List V} {Q : VK} (t : StR K ω S H) (hp : H p = none) (r : RpL K H ω xs vs)
    (k : ∀ v H', Stp ω H ω H' → StR K ω S H' → Rp K H' ω (.tup xs) v → Q v H') : Q (.ref p) (upd H p (.tup vs)) :=
  k _ _ (new_stp hp) (open_str (new_str t hp)) ⟨p, vs, rfl, .inl ⟨upd_same, t.out hp⟩, r.up (new_stp hp).up⟩
/-! #### arithmetic -/
@[simp] def pAdd : P2 := fun S x y => match look S x, look S y with
  | .int i, .int j => some (.int (i + j))
  | .str a, .str b => if a.length + b.length ≤ sizeLine then some (.str (a ++ b)) else none
  | .lst xs, .lst ys => if xs.length + ys.length ≤ sizeLine then some (.lst (xs ++ ys)) else none
  | .tup xs, .tup ys => if xs.length + ys.length ≤ sizeLine then some (.tup (xs ++ ys)) else none
  | _, _ => none
@[simp] def pCat : P2 := fun S x y => match look S x, look S y with
  | .lst xs, .lst ys => if xs.length + ys.length ≤ sizeLine then some (.lst (xs ++ ys)) else none
  | _, _ => none
@[simp] def pInt (f : Int → Int → Option Int) : P2 := fun _ x y => match x, y with
  | .int i, .int j => (f i j).map .int
  | _, _ => none
@[simp] def pSub : P2 := pInt fun i j => some (i - j)
@[simp] def pMulI : P2 := pInt fun i j => if (-(2 ^ 64) < i ∧ i < 2 ^ 64) ∨ (-(2 ^ 64) < j ∧ j < 2 ^ 64) then some (i * j) else none
@[simp] def pMod : P2 := pInt fun i j => if 0 < j then some (i % j) else none
@[simp] def pDiv : P2 := pInt fun i j => if 0 < j ∧ j.natAbs.log2 < 9000 then some (i / j) else none
@[simp] def pPow : P2 := pInt fun i j => if 0 ≤ j ∧ (Builtin.Int.intBits i : Int) * j ≤ 2 ^ 27 then some (i ^ j.toNat) else none
section
variable {X : Cx}
theorem opP_int {op : Operator} {C : Int → Int → Prop} [∀ i j, Decidable (C i j)] {g : Int → Int → Int} (h : OpR X (binaryOp op) (rI C fun i j => .int (g i j))) : OpP X (binaryOp op) (pInt fun i j => if C i j then some (g i j) else none) :=
  OpR.weak h fun x y H Q ⟨ω, S, px, py, r, t, rx, ry, e, k⟩ => by
    cases px <;> first | cases e | skip
    cases py <;> first | cases e | skip
    rename_i i j
    simp only [pInt] at e
    split at e
    · rename_i hc
      cases e
      exact ⟨i, j, rx, ry, hc, k _ _ .refl t rfl⟩
    · cases e
theorem opP_sub : OpP X (binaryOp .Sub) pSub := OpR.weak op_sub fun x y H Q ⟨ω, S, px, py, r, t, rx, ry, e, k⟩ => by
  cases px <;> first | (cases e; done) | skip
  cases py <;> first | (cases e; done) | skip
  rename_i i j
  cases e
  exact ⟨i, j, rx, ry, k _ _ .refl t rfl⟩
theorem opP_mulI : OpP X (binaryOp .Mult) pMulI := opP_int (C := fun i j => (-(2 ^ 64) < i ∧ i < 2 ^ 64) ∨ (-(2 ^ 64) < j ∧ j < 2 ^ 64)) op_mul
theorem opP_mod : OpP X (binaryOp .Mod) pMod := opP_int (C := fun _ j => 0 < j) op_mod
theorem opP_div : OpP X (binaryOp .FloorDiv) pDiv := opP_int (C := fun _ j => 0 < j ∧ j.natAbs.log2 < 9000) op_fdivW
theorem opP_pow : OpP X (binaryOp .Pow) pPow := opP_int (C := fun i j => 0 ≤ j ∧ (Builtin.Int.intBits i : Int) * j ≤ 2 ^ 27) (opI fun _ _ _ _ _ _ _ hc q => PyProof.Rows.pow_int hc.1 hc.2 q)
theorem opF_cat : OpF X (binaryOp .Add) pCat := OpR.weak op_cat fun x y H Q ⟨ω, S, px, py, r, t, rx, ry, e, k⟩ => by
  unfold pCat at e
  split at e
  · rename_i xs ys e1 e2
    obtain ⟨a, vs, rfl, h1, r1⟩ := lst_of t rx e1
    obtain ⟨b, ws, rfl, h2, r2⟩ := lst_of t ry e2
    split at e
    · rename_i hl
      cases e
      exact ⟨a, b, vs, ws, rfl, rfl, h1, h2, by rw [← r1.length, ← r2.length]; exact hl, fun p hp => new_lst t hp (r1.append r2) k⟩
    · cases e
  · cases e
theorem opP_add : OpP X (binaryOp .Add) pAdd := by
  intro pins s σ H x y v u Q I rx ry ⟨ω, S, px, py, r, t, r1, r2, e, k⟩
  unfold pAdd at e
  split at e
  · rename_i i j e1 e2
    cases e
    cases look_eq t r1 e1 rfl
    cases look_eq t r2 e2 rfl
    exact op_add pins s σ H x y v u Q I rx ry ⟨i, j, r1, r2, k _ _ .refl t rfl⟩
  · rename_i i j e1 e2
    cases look_eq t r1 e1 rfl
    cases look_eq t r2 e2 rfl
    split at e
    · rename_i hl
      cases e
      exact op_add_str pins s σ H x y v u Q I rx ry ⟨i, j, r1, r2, hl, k _ _ .refl t rfl⟩
    · cases e
  · rename_i xs ys e1 e2
    split at e
    · rename_i hl
      cases e
      exact opF_cat.pure pins s σ H x y v u Q I rx ry ⟨ω, S, px, py, _, t, r1, r2, by unfold pCat; rw [e1, e2]; exact if_pos hl, k⟩
    · cases e
  · rename_i xs ys e1 e2
    cases look_eq t r1 e1 rfl
    cases look_eq t r2 e2 rfl
    split at e
    · rename_i hl
      cases e
      obtain ⟨a, vs, rfl, h1, q1⟩ := tup_of r1
      obtain ⟨b, ws, rfl, h2, q2⟩ := tup_of r2
      refine op_catA pins s σ H _ _ v u Q I rx ry ⟨a, b, vs, ws, rfl, rfl, h1, h2, by rw [← q1.length, ← q2.length]; exact hl, fun z => ?_, fun _ z => ?_, fun _ _ p hp => new_tup t hp (q1.append q2) k⟩
      · subst z
        have : xs = [] := List.length_eq_zero_iff.mp (by rw [q1.length]; rfl)
        subst this
        exact k _ _ .refl t r2
      · subst z
        have : ys = [] := List.length_eq_zero_iff.mp (by rw [q2.length]; rfl)
        subst this
        rw [List.append_nil] at k
        exact k _ _ .refl t r1
    · cases e
  · cases e
/-! #### order, membership, identity -/
@[simp] def pCmp (f : Int → Int → Bool) : P2 := fun _ x y => match x, y with
  | .int i, .int j => some (.bl (f i j))
  | _, _ => none
@[simp] def pLt : P2 := fun _ x y => match x, y with
  | .int i, .int j => some (.bl (decide (i < j)))
  | .str i, .str j => some (.bl (decide (i.cps.toList < j.cps.toList)))
  | _, _ => none
@[simp] def pLe : P2 := fun _ x y => match x, y with
  | .int i, .int j => some (.bl (decide (i ≤ j)))
  | .str i, .str j => some (.bl (!decide (j.cps.toList < i.cps.toList)))
  | _, _ => none
@[simp] def pGt : P2 := pCmp fun i j => decide (j < i)
@[simp] def pGe : P2 := pCmp fun i j => decide (j ≤ i)
theorem opP_lt : OpP X (compareOp .Lt) pLt := by
  intro pins s σ H x y v u Q I rx ry ⟨ω, S, px, py, r, t, r1, r2, e, k⟩
  unfold pLt at e
  split at e
  · cases e; exact op_lt pins s σ H x y v u Q I rx ry ⟨_, _, r1, r2, k _ _ .refl t rfl⟩
  · cases e; exact op_lt_str pins s σ H x y v u Q I rx ry ⟨_, _, r1, r2, k _ _ .refl t rfl⟩
  · cases e
theorem opP_le : OpP X (compareOp .LtE) pLe := by
  intro pins s σ H x y v u Q I rx ry ⟨ω, S, px, py, r, t, r1, r2, e, k⟩
  unfold pLe at e
  split at e
  · cases e; exact op_le pins s σ H x y v u Q I rx ry ⟨_, _, r1, r2, k _ _ .refl t rfl⟩
  · cases e; exact op_le_str pins s σ H x y v u Q I rx ry ⟨_, _, r1, r2, k _ _ .refl t rfl⟩
  · cases e
theorem opP_gt : OpP X (compareOp .Gt) pGt := OpR.weak op_gt fun x y H Q ⟨ω, S, px, py, r, t, rx, ry, e, k⟩ => by
  cases px <;> first | (cases e; done) | skip
  cases py <;> first | (cases e; done) | skip
  cases e
  exact ⟨_, _, rx, ry, k _ _ .refl t rfl⟩
theorem opP_ge : OpP X (compareOp .GtE) pGe := OpR.weak op_ge fun x y H Q ⟨ω, S, px, py, r, t, rx, ry, e, k⟩ => by
  cases px <;> first | (cases e; done) | skip
  cases py <;> first | (cases e; done) | skip
  cases e
  exact ⟨_, _, rx, ry, k _ _ .refl t rfl⟩
theorem sign_of {i : Str} (h : i.cps.size = 1) : i = ⟨#[i.cps.getD 0 0]⟩ := by
  obtain ⟨a⟩ := i
  obtain ⟨l⟩ := a
  match l, h with
  | [c], _ => rfl
end
end Pv

namespace Pv
open PySem PySem.Spec L2
def kindP : PV → Option Nat
  | .non => some 0
  | .bl _ => some 1
  | .int _ => some 1
  | .str _ => some 2
  | .lst _ => some 3
  | .tup _ => some 4
  | _ => none
def allEq (f : PV → PV → Option Bool) : List PV → List PV → Option Bool
  | x :: xs, y :: ys => match f x y, allEq f xs ys with
    | some a, some b => some (a && b)
    | _, _ => none
  | _, _ => some true
def flatEq (x y : PV) : Option Bool := match x, y with
  | .non, .non => some true
  | .bl a, .bl b => some (a == b)
  | .int i, .int j => some (i == j)
  | .str x, .str y => some (x == y)
  | .bl a, .int j => some ((if a then 1 else 0) == j)
  | .int i, .bl b => some (i == (if b then 1 else 0))
  | x, y => match kindP x, kindP y with
    | some i, some j => if i = j then none else some false
    | _, _ => none
/-- x == y, as deep as n -/
def pvEq : Nat → PV → PV → Option Bool
  | n + 1, .lst xs, .lst ys => if xs.length = ys.length then allEq (pvEq n) xs ys else some false
  | n + 1, .tup xs, .tup ys => (allEq (pvEq n) xs ys).map (· && xs.length == ys.length)
  | _, x, y => flatEq x y
theorem allEq_get {f : PV → PV → Option Bool} : ∀ {xs ys : List PV} {b : Bool}, allEq f xs ys = some b → ∃ e : Nat → Bool, (∀ (j : Nat) (x y : PV), xs[j]? = some x → ys[j]? = some y → f x y = some (e j)) ∧ (List.range (min xs.length ys.length)).all e = b
  | [], ys, b, h => by cases ys <;> (cases h; exact ⟨fun _ => true, fun j x y h => by simp at h, by simp⟩)
  | x :: xs, [], b, h => by cases h; exact ⟨fun _ => true, fun j x y _ h => by simp at h, by simp⟩
  | x :: xs, y :: ys, b, h => by
    unfold allEq at h
    cases q1 : f x y with
    | none => rw [q1] at h; cases h
    | some a =>
      cases q2 : allEq f xs ys with
      | none => rw [q1, q2] at h; cases h
      | some c =>
        rw [q1, q2] at h; cases h
        obtain ⟨e, he, hb⟩ := allEq_get q2
        refine ⟨fun j => match j with | 0 => a | j + 1 => e j, fun j u w h1 h2 => ?_, ?_⟩
        · cases j with
          | zero => simp at h1 h2; subst h1; subst h2; exact q1
          | succ j => exact he j u w (by simpa using h1) (by simpa using h2)
        · have : min (x :: xs).length (y :: ys).length = min xs.length ys.length + 1 := by simp
          rw [this, List.range_succ_eq_map, List.all_cons, List.all_map, ← hb]
          all_goals rfl
section
variable {X : Cx} {ω : Ad} {H : Hp} {pins : List (Addr × Obj)} {σ : L2.St} {s : Shared} {A : Around}
/-- what the compared things are, in the heap -/
inductive Seen (s : Shared) : PV → Value → Prop where
  | non : Seen s .non .none
  | bl (b : Bool) : Seen s (.bl b) (.bool b)
  | int (i : Int) (t : Tok) : Seen s (.int i) (.int i t)
  | str (z : Str) (t : Tok) : Seen s (.str z) (.str z t)
  | lst {a : Addr} {xs : List PV} {its : List Value} (h : s.heap.IsList a its.toArray) (hl : xs.length = its.length) : Seen s (.lst xs) (.ref a)
  | tup {a : Addr} {xs : List PV} {its : List Value} (h : s.heap.IsTuple a its.toArray) (hl : xs.length = its.length) : Seen s (.tup xs) (.ref a)
theorem flat_rc {x y : PV} {v u : Value} {b : Bool} (hu : A.units < cLine) (sx : Seen s x v) (sy : Seen s y u) (e : flatEq x y = some b) : SeqAt.RcAt A s v u b := by
  cases sx <;> cases sy <;> simp [flatEq, kindP] at e <;> (try subst e)
  all_goals first
    | with_reducible exact SeqAt.RcAt.none_none
    | with_reducible exact SeqAt.RcAt.none_bool _
    | with_reducible exact SeqAt.RcAt.none_int _ _
    | with_reducible exact SeqAt.RcAt.none_str _ _
    | with_reducible exact SeqAt.RcAt.none_list (by assumption) hu
    | with_reducible exact SeqAt.RcAt.none_tuple (by assumption) hu
    | with_reducible exact SeqAt.RcAt.bool_none _
    | with_reducible exact SeqAt.RcAt.bool_bool _ _
    | with_reducible exact SeqAt.RcAt.bool_int _ _ _
    | with_reducible exact SeqAt.RcAt.bool_str _ _ _
    | with_reducible exact SeqAt.RcAt.bool_list _ (by assumption) hu
    | with_reducible exact SeqAt.RcAt.bool_tuple _ (by assumption) hu
    | with_reducible exact SeqAt.RcAt.int_none _ _
    | with_reducible exact SeqAt.RcAt.int_bool _ _ _
    | with_reducible exact SeqAt.RcAt.int_int _ _ _ _
    | with_reducible exact SeqAt.RcAt.int_str _ _ _ _
    | with_reducible exact SeqAt.RcAt.int_list _ _ (by assumption) hu
    | with_reducible exact SeqAt.RcAt.int_tuple _ _ (by assumption) hu
    | with_reducible exact SeqAt.RcAt.str_none _ _
    | with_reducible exact SeqAt.RcAt.str_bool _ _ _
    | with_reducible exact SeqAt.RcAt.str_int _ _ _ _
    | with_reducible exact SeqAt.RcAt.str_str _ _ _ _
    | with_reducible exact SeqAt.RcAt.str_list _ _ (by assumption) hu
    | with_reducible exact SeqAt.RcAt.str_tuple _ _ (by assumption) hu
    | with_reducible exact SeqAt.RcAt.list_none (by assumption) hu
    | with_reducible exact SeqAt.RcAt.list_bool _ (by assumption) hu
    | with_reducible exact SeqAt.RcAt.list_int _ _ (by assumption) hu
    | with_reducible exact SeqAt.RcAt.list_str _ _ (by assumption) hu
    | with_reducible exact SeqAt.RcAt.list_tuple (by assumption) (by assumption) hu
    | with_reducible exact SeqAt.RcAt.tuple_none (by assumption) hu
    | with_reducible exact SeqAt.RcAt.tuple_bool _ (by assumption) hu
    | with_reducible exact SeqAt.RcAt.tuple_int _ _ (by assumption) hu
    | with_reducible exact SeqAt.RcAt.tuple_str _ _ (by assumption) hu
    | with_reducible exact SeqAt.RcAt.tuple_list (by assumption) (by assumption) hu
/-- the value itself, or what a cell at it holds -/
def RpC (K : PySem.W.Frag) (H : Hp) (ω : Ad) (c : PV) (v : V) : Prop := Rp K H ω c v ∨ ∃ a o, v = .ref a ∧ H a = some o ∧ CoR K H ω c o
theorem rpc_look {K : PySem.W.Frag} {S : Store} {x : PV} {v : V} (t : StR K ω S H) (r : Rp K H ω x v) : RpC K H ω (look S x) v := by
  cases x with
  | loc n =>
    obtain ⟨a, c, o, rfl, _, _, e2, ho, hc⟩ := look_loc t r
    rw [e2]
    exact .inr ⟨a, o, rfl, ho, hc⟩
  | _ => exact .inl r
theorem rpc_lst {K : PySem.W.Frag} {xs : List PV} {v : V} (r : RpC K H ω (.lst xs) v) : ∃ a vs, v = .ref a ∧ H a = some (.lst vs) ∧ RpL K H ω xs vs := by
  rcases r with ⟨a, vs, e, h, _, rr⟩ | ⟨a, o, e, h, vs, rfl, rr⟩
  · exact ⟨a, vs, e, h, rr⟩
  · exact ⟨a, vs, e, h, rr⟩
theorem rpc_rp {K : PySem.W.Frag} {x : PV} {v : V} (r : RpC K H ω x v) (h : isCo x = false) : Rp K H ω x v := by
  rcases r with r | ⟨a, o, _, _, c⟩
  · exact r
  · rw [c.isCo] at h; cases h
theorem seen_of {x : PV} {v : V} {u : Value} (I : L2.Inv X pins σ H s) (r : RpC X.K H ω x v) (rv : RelV v u) (k : kindP x ≠ none) : Seen s x u := by
  cases x with
  | non => cases (show v = .non from rpc_rp r rfl); cases rv; exact .non
  | bl b => cases (show v = .bl b from rpc_rp r rfl); cases rv; exact .bl b
  | int i => cases (show v = .int i from rpc_rp r rfl); obtain ⟨t, rfl⟩ := rv; exact .int i t
  | str z => cases (show v = .str z from rpc_rp r rfl); obtain ⟨t, rfl⟩ := rv; exact .str z t
  | lst xs =>
    obtain ⟨a, vs, rfl, h, rr⟩ := rpc_lst r
    cases rv
    obtain ⟨its, rits, p, _⟩ := I.list (.of h)
    exact .lst p.isList (by rw [rr.length]; exact rits.length)
  | tup xs =>
    obtain ⟨a, vs, rfl, h, rr⟩ := tup_of (rpc_rp r rfl)
    cases rv
    obtain ⟨its, rits, p, _⟩ := I.tuple h
    exact .tup p (by rw [rr.length]; exact rits.length)
  | _ => exact absurd rfl k
def NF : Value → Prop
  | .float _ _ => False
  | _ => True
theorem Seen.nf {x : PV} {v : Value} (h : Seen s x v) : NF v := by cases h <;> exact True.intro
theorem eqAt_rc {v u : Value} {b : Bool} (h : SeqAt.RcAt A s v u b) (hs : v = u → b = true) (nf : NF v) : SeqAt.EqAt A s v u b := fun prog w E Q hq => by
  unfold eqBool
  refine wpAny_holding ?_
  refine wpAny_ite_split (fun hab => ?_) (fun _ => ?_)
  · rw [hs (eq_of_beq hab)] at hq
    exact wpAny_bind (wpAny_rule (wpAny_pure hq))
  · cases v <;> first | (exact nf.elim) | exact wpAny_bind (h prog w E _ (wpAny_truthy_bool hq))
theorem flat_same {x y : PV} {v : Value} {b : Bool} (sx : Seen s x v) (sy : Seen s y v) (e : flatEq x y = some b) : b = true := by
  have nl : ∀ {a : Addr} {l m : Array Value}, s.heap.IsList a l → s.heap.IsTuple a m → False := fun {a l m} h1 h2 => by
    obtain ⟨o, e1, c1, _⟩ := h1
    obtain ⟨o', e2, c2, _⟩ := h2
    rw [e1] at e2; cases e2
    rw [c1] at c2
    exact absurd c2 (by decide)
  cases sx <;> cases sy <;> simp [flatEq, kindP] at e <;> (try subst e) <;> first
    | rfl
    | exact (nl (by assumption) (by assumption)).elim
    | (simp; done)
theorem rp_items {xs : List PV} {vs : List V} {its : List Value} {j : Nat} (rr : RpL X.K H ω xs vs) (rits : Vals vs its) (h : j < its.length) : ∃ x v, xs[j]? = some x ∧ Rp X.K H ω x v ∧ RelV v its[j] := by
  have hv : j < vs.length := by rw [rits.length]; exact h
  obtain ⟨x, h1, h2⟩ := rr.get' (List.getElem?_eq_getElem hv)
  obtain ⟨u, h3, h4⟩ := rits.get (List.getElem?_eq_getElem hv)
  rw [List.getElem?_eq_getElem h] at h3
  cases h3
  exact ⟨x, _, h1, h2, h4⟩
theorem rc_run (I : L2.Inv X pins σ H s) : ∀ (n : Nat) (A : Around) (x y : PV) (v w : V) (u t : Value) (b : Bool), A.units + n < cLine → RpC X.K H ω x v → RpC X.K H ω y w → RelV v u → RelV w t → pvEq n x y = some b →
    SeqAt.RcAt A s u t b ∧ (u = t → b = true) ∧ NF u := by
  intro n
  induction n with
  | zero =>
    intro A x y v w u t b hu rx ry ru rt e
    have e : flatEq x y = some b := by
      unfold pvEq at e
      exact e
    have kx : kindP x ≠ none := by intro z; cases x <;> cases y <;> simp [flatEq, kindP] at e z
    have ky : kindP y ≠ none := by intro z; cases x <;> cases y <;> simp [flatEq, kindP] at e z
    have sx := seen_of I rx ru kx
    have sy := seen_of I ry rt ky
    exact ⟨flat_rc (by omega) sx sy e, fun q => flat_same sx (q ▸ sy) e, sx.nf⟩
  | succ n ih =>
    intro A x y v w u t b hu rx ry ru rt e
    have flat : flatEq x y = some b → SeqAt.RcAt A s u t b ∧ (u = t → b = true) ∧ NF u := fun e => by
      have kx : kindP x ≠ none := by intro z; cases x <;> cases y <;> simp [flatEq, kindP] at e z
      have ky : kindP y ≠ none := by intro z; cases x <;> cases y <;> simp [flatEq, kindP] at e z
      have sx := seen_of I rx ru kx
      have sy := seen_of I ry rt ky
      exact ⟨flat_rc (by omega) sx sy e, fun q => flat_same sx (q ▸ sy) e, sx.nf⟩
    have hin : A.in1.units + n < cLine := by show A.units + 1 + n < cLine; omega
    unfold pvEq at e
    split at e
    · rename_i n' xs ys en
      cases en
      obtain ⟨a, vs, rfl, h1, r1⟩ := rpc_lst rx
      obtain ⟨c, ws, rfl, h2, r2⟩ := rpc_lst ry
      cases ru; cases rt
      obtain ⟨i1, q1, p1, _⟩ := I.list (.of h1)
      obtain ⟨i2, q2, p2, _⟩ := I.list (.of h2)
      have l1 := r1.length.trans q1.length
      have l2 := r2.length.trans q2.length
      split at e
      · rename_i hl
        obtain ⟨f, hf, hb⟩ := allEq_get e
        have items : ∀ j (h1 : j < i1.length) (h2 : j < i2.length), SeqAt.EqAt A.in1 s i1[j] i2[j] (f j) ∧ (i1[j] = i2[j] → f j = true) := fun j g1 g2 => by
          obtain ⟨x, v, a1, a2, a3⟩ := rp_items r1 q1 g1
          obtain ⟨y, w, b1, b2, b3⟩ := rp_items r2 q2 g2
          obtain ⟨rc, sm, nf⟩ := ih A.in1 x y v w _ _ (f j) hin (.inl a2) (.inl b2) a3 b3 (hf j x y a1 b1)
          exact ⟨eqAt_rc rc sm nf, sm⟩
        refine ⟨?_, fun q => ?_, True.intro⟩
        · have := SeqAt.RcAt.lists (A := A) (e := f) p1.isList p2.isList (by simp; omega) (by omega) fun j g1 g2 => by
            simp at g1 g2
            simpa using (items j g1 g2).1
          rw [show min xs.length ys.length = i1.length by omega] at hb
          simpa [hb] using this
        · cases q
          have : vs = ws := by rw [h1] at h2; cases h2; rfl
          subst this
          have ei : i1 = i2 := by
            obtain ⟨o1, m1, e1, _, _, d1⟩ := p1
            obtain ⟨o2, m2, e2, _, _, d2⟩ := p2
            rw [e1] at e2; cases e2
            rw [d1] at d2
            injection d2 with d3 _
            simpa using congrArg Array.toList d3
          subst ei
          rw [← hb, List.all_eq_true]
          intro j hj
          have hj : j < min xs.length ys.length := List.mem_range.mp hj
          exact (items j (by omega) (by omega)).2 rfl
      · rename_i hl
        cases e
        refine ⟨SeqAt.RcAt.lists_lengths p1.isList p2.isList (by simp; omega) (by omega), fun q => ?_, True.intro⟩
        cases q
        rw [h1] at h2
        cases h2
        exact absurd (r1.length.trans r2.length.symm) hl
    · rename_i n' xs ys en
      cases en
      obtain ⟨a, vs, rfl, h1, r1⟩ := tup_of (rpc_rp rx rfl)
      obtain ⟨c, ws, rfl, h2, r2⟩ := tup_of (rpc_rp ry rfl)
      cases ru; cases rt
      obtain ⟨i1, q1, p1, _⟩ := I.tuple h1
      obtain ⟨i2, q2, p2, _⟩ := I.tuple h2
      have l1 := r1.length.trans q1.length
      have l2 := r2.length.trans q2.length
      cases ea : allEq (pvEq n) xs ys with
      | none => rw [ea] at e; cases e
      | some k =>
        rw [ea] at e
        cases e
        obtain ⟨f, hf, hb⟩ := allEq_get ea
        have items : ∀ j (h1 : j < i1.length) (h2 : j < i2.length), SeqAt.EqAt A.in1 s i1[j] i2[j] (f j) ∧ (i1[j] = i2[j] → f j = true) := fun j g1 g2 => by
          obtain ⟨x, v, a1, a2, a3⟩ := rp_items r1 q1 g1
          obtain ⟨y, w, b1, b2, b3⟩ := rp_items r2 q2 g2
          obtain ⟨rc, sm, nf⟩ := ih A.in1 x y v w _ _ (f j) hin (.inl a2) (.inl b2) a3 b3 (hf j x y a1 b1)
          exact ⟨eqAt_rc rc sm nf, sm⟩
        refine ⟨?_, fun q => ?_, True.intro⟩
        · have := SeqAt.RcAt.tuples (A := A) (e := f) p1 p2 (by omega) fun j g1 g2 => by
            simp at g1 g2
            simpa using (items j g1 g2).1
          rw [← hb, show min xs.length ys.length = min i1.length i2.length by omega, l1, l2]
          simpa using this
        · cases q
          have ei := I.tuple_inj h1 h2
          subst ei
          have ei : i1 = i2 := by
            obtain ⟨o1, e1, _, m1, d1⟩ := p1
            obtain ⟨o2, e2, _, m2, d2⟩ := p2
            rw [e1] at e2; cases e2
            rw [d1] at d2
            injection d2 with d3 _
            simpa using congrArg Array.toList d3
          subst ei
          have hl : xs.length = ys.length := by omega
          rw [← hb]
          simp only [hl, beq_self_eq_true, Bool.and_true]
          rw [List.all_eq_true]
          intro j hj
          have hj : j < min ys.length ys.length := List.mem_range.mp hj
          exact (items j (by omega) (by omega)).2 rfl
    · exact flat e
end
/-! #### == and != -/
def dEq (S : Store) (x y : PV) : Option Bool := pvEq 60 (look S x) (look S y)
@[simp] def pEq : P2 := fun S x y => (dEq S x y).map .bl
@[simp] def pNe : P2 := fun S x y => (dEq S x y).map fun b => .bl (!b)
section
variable {X : Cx}
theorem opP_eq (hu : X.A.units + 64 < cLine) : OpP X (compareOp .Eq) pEq := by
  intro pins s σ H x y v u Q I rx ry ⟨ω, S, px, py, r, t, r1, r2, e, k⟩
  simp only [pEq] at e
  cases q : dEq S px py with
  | none => rw [q] at e; cases e
  | some b =>
    rw [q] at e
    cases e
    obtain ⟨rc, _, _⟩ := rc_run I 60 X.A _ _ x y v u b (by omega) (rpc_look t r1) (rpc_look t r2) rx ry q
    exact rc X.prog X.w _ _ ⟨.bl b, H, I, rfl, k _ _ .refl t rfl⟩
theorem flat_ne {s : Shared} {A : Around} {x y : PV} {v u : Value} {b : Bool} (hu : A.units < cLine) (sx : Seen s x v) (sy : Seen s y u) (e : flatEq x y = some b) {c : Bool} (hc : (!b) = c) : SeqAt.RcNeAt A s v u c := by
  cases sx <;> cases sy <;> simp [flatEq, kindP] at e <;> (try subst e) <;> (try (obtain rfl : c = true := hc.symm)) <;> (try (obtain rfl : c = false := hc.symm)) <;> (try subst hc)
  all_goals first
    | with_reducible exact SeqAt.RcNeAt.none_none
    | with_reducible exact SeqAt.RcNeAt.none_bool _
    | with_reducible exact SeqAt.RcNeAt.none_int _ _
    | with_reducible exact SeqAt.RcNeAt.none_str _ _
    | with_reducible exact SeqAt.RcNeAt.none_list (by assumption) hu
    | with_reducible exact SeqAt.RcNeAt.none_tuple (by assumption) hu
    | with_reducible exact SeqAt.RcNeAt.bool_none _
    | with_reducible exact SeqAt.RcNeAt.bool_bool _ _
    | with_reducible exact SeqAt.RcNeAt.bool_int _ _ _
    | with_reducible exact SeqAt.RcNeAt.bool_str _ _ _
    | with_reducible exact SeqAt.RcNeAt.bool_list _ (by assumption) hu
    | with_reducible exact SeqAt.RcNeAt.bool_tuple _ (by assumption) hu
    | with_reducible exact SeqAt.RcNeAt.int_none _ _
    | with_reducible exact SeqAt.RcNeAt.int_bool _ _ _
    | with_reducible exact SeqAt.RcNeAt.int_int _ _ _ _
    | with_reducible exact SeqAt.RcNeAt.int_str _ _ _ _
    | with_reducible exact SeqAt.RcNeAt.int_list _ _ (by assumption) hu
    | with_reducible exact SeqAt.RcNeAt.int_tuple _ _ (by assumption) hu
    | with_reducible exact SeqAt.RcNeAt.str_none _ _
    | with_reducible exact SeqAt.RcNeAt.str_bool _ _ _
    | with_reducible exact SeqAt.RcNeAt.str_int _ _ _ _
    | with_reducible exact SeqAt.RcNeAt.str_str _ _ _ _
    | with_reducible exact SeqAt.RcNeAt.str_list _ _ (by assumption) hu
    | with_reducible exact SeqAt.RcNeAt.str_tuple _ _ (by assumption) hu
    | with_reducible exact SeqAt.RcNeAt.list_none (by assumption) hu
    | with_reducible exact SeqAt.RcNeAt.list_bool _ (by assumption) hu
    | with_reducible exact SeqAt.RcNeAt.list_int _ _ (by assumption) hu
    | with_reducible exact SeqAt.RcNeAt.list_str _ _ (by assumption) hu
    | with_reducible exact SeqAt.RcNeAt.list_tuple (by assumption) (by assumption) hu
    | with_reducible exact SeqAt.RcNeAt.tuple_none (by assumption) hu
    | with_reducible exact SeqAt.RcNeAt.tuple_bool _ (by assumption) hu
    | with_reducible exact SeqAt.RcNeAt.tuple_int _ _ (by assumption) hu
    | with_reducible exact SeqAt.RcNeAt.tuple_str _ _ (by assumption) hu
    | with_reducible exact SeqAt.RcNeAt.tuple_list (by assumption) (by assumption) hu
theorem ne_run {ω : Ad} {H : Hp} {pins : List (Addr × Obj)} {σ : L2.St} {s : Shared} (I : L2.Inv X pins σ H s) (n : Nat) (A : Around) (x y : PV) (v w : V) (u t : Value) (b : Bool) (hu : A.units + (n + 1) < cLine) (rx : RpC X.K H ω x v) (ry : RpC X.K H ω y w) (ru : RelV v u) (rt : RelV w t)
    (e : pvEq (n + 1) x y = some b) : SeqAt.RcNeAt A s u t (!b) := by
  have flat : flatEq x y = some b → SeqAt.RcNeAt A s u t (!b) := fun e => by
    have kx : kindP x ≠ none := by intro z; cases x <;> cases y <;> simp [flatEq, kindP] at e z
    have ky : kindP y ≠ none := by intro z; cases x <;> cases y <;> simp [flatEq, kindP] at e z
    exact flat_ne (by omega) (seen_of I rx ru kx) (seen_of I ry rt ky) e rfl
  have hin : A.in1.units + n < cLine := by show A.units + 1 + n < cLine; omega
  unfold pvEq at e
  split at e
  · rename_i n' xs ys en
    cases en
    obtain ⟨a, vs, rfl, h1, r1⟩ := rpc_lst rx
    obtain ⟨c, ws, rfl, h2, r2⟩ := rpc_lst ry
    cases ru; cases rt
    obtain ⟨i1, q1, p1, _⟩ := I.list (.of h1)
    obtain ⟨i2, q2, p2, _⟩ := I.list (.of h2)
    have l1 := r1.length.trans q1.length
    have l2 := r2.length.trans q2.length
    split at e
    · rename_i hl
      obtain ⟨f, hf, hb⟩ := allEq_get e
      have := SeqAt.RcNeAt.lists (A := A) (e := f) p1.isList p2.isList (by simp; omega) (by omega) fun j g1 g2 => by
        simp at g1 g2
        obtain ⟨x, v, a1, a2, a3⟩ := rp_items r1 q1 g1
        obtain ⟨y, w, b1, b2, b3⟩ := rp_items r2 q2 g2
        obtain ⟨rc, sm, nf⟩ := rc_run I n A.in1 x y v w _ _ (f j) hin (.inl a2) (.inl b2) a3 b3 (hf j x y a1 b1)
        simpa using eqAt_rc rc sm nf
      rw [show min xs.length ys.length = i1.length by omega] at hb
      simpa [hb] using this
    · rename_i hl
      cases e
      exact SeqAt.RcNeAt.lists_lengths p1.isList p2.isList (by simp; omega) (by omega)
  · rename_i n' xs ys en
    cases en
    obtain ⟨a, vs, rfl, h1, r1⟩ := tup_of (rpc_rp rx rfl)
    obtain ⟨c, ws, rfl, h2, r2⟩ := tup_of (rpc_rp ry rfl)
    cases ru; cases rt
    obtain ⟨i1, q1, p1, _⟩ := I.tuple h1
    obtain ⟨i2, q2, p2, _⟩ := I.tuple h2
    have l1 := r1.length.trans q1.length
    have l2 := r2.length.trans q2.length
    cases ea : allEq (pvEq n) xs ys with
    | none => rw [ea] at e; cases e
    | some k =>
      rw [ea] at e
      cases e
      obtain ⟨f, hf, hb⟩ := allEq_get ea
      have := SeqAt.RcNeAt.tuples (A := A) (e := f) p1 p2 (by omega) fun j g1 g2 => by
        simp at g1 g2
        obtain ⟨x, v, a1, a2, a3⟩ := rp_items r1 q1 g1
        obtain ⟨y, w, b1, b2, b3⟩ := rp_items r2 q2 g2
        obtain ⟨rc, sm, nf⟩ := rc_run I n A.in1 x y v w _ _ (f j) hin (.inl a2) (.inl b2) a3 b3 (hf j x y a1 b1)
        simpa using eqAt_rc rc sm nf
      rw [← hb, show min xs.length ys.length = min i1.length i2.length by omega, l1, l2]
      simpa using this
  · exact flat e
theorem opP_ne (hu : X.A.units + 64 < cLine) : OpP X (compareOp .NotEq) pNe := by
  intro pins s σ H x y v u Q I rx ry ⟨ω, S, px, py, r, t, r1, r2, e, k⟩
  simp only [pNe] at e
  cases q : dEq S px py with
  | none => rw [q] at e; cases e
  | some b =>
    rw [q] at e
    cases e
    exact ne_run I 59 X.A _ _ x y v u b (by omega) (rpc_look t r1) (rpc_look t r2) rx ry q X.prog X.w _ _ ⟨.bl (!b), H, I, rfl, k _ _ .refl t rfl⟩
/-! #### in and not in -/
/-- a sign in a text -/
def dIn (S : Store) (x y : PV) : Option Bool := match x, y with
  | .str i, .str j => if i.cps.size = 1 then some (decide (i.cps.getD 0 0 ∈ j.cps.toList)) else none
  | _, _ => none
@[simp] def pIn : P2 := fun S x y => (dIn S x y).map .bl
@[simp] def pNotIn : P2 := fun S x y => (dIn S x y).map fun b => .bl (!b)
theorem opP_in (hu : X.A.units + 65 < cLine) : OpP X (compareOp .In) pIn := by
  intro pins s σ H x y v u Q I rx ry ⟨ω, S, px, py, r, t, r1, r2, e, k⟩
  unfold pIn dIn at e
  split at e
  · rename_i i j
    split at e
    · rename_i h1
      cases e
      have hi := sign_of h1
      rw [hi] at r1
      exact op_in_sign pins s σ H x y v u Q I rx ry ⟨_, j, r1, r2, k _ _ .refl t rfl⟩
    · cases e
  · cases e
theorem opP_notIn (hu : X.A.units + 65 < cLine) : OpP X (compareOp .NotIn) pNotIn := by
  intro pins s σ H x y v u Q I rx ry ⟨ω, S, px, py, r, t, r1, r2, e, k⟩
  unfold pNotIn dIn at e
  split at e
  · rename_i i j
    split at e
    · rename_i h1
      cases e
      have hi := sign_of h1
      rw [hi] at r1
      exact op_notIn_sign pins s σ H x y v u Q I rx ry ⟨_, j, r1, r2, k _ _ .refl t rfl⟩
    · cases e
  · cases e
end
end Pv

namespace Pv
open PySem PySem.Spec L2
/-! ### expressions -/
section
variable {X : Cx} {W : WX} {a b c e : Expr} {da db dc de : Den} {pos : Pos}
/-- a wish, at the slots as they stand -/
abbrev xk (W : WX) (σ : St) : XK := fun c x H' => W c x σ H'
theorem optO_P {K : PySem.W.Frag} {E : XK} {ω : Ad} {H : Hp} {o : Option PV} {S : Store} {Q : PV → Store → Hp → Ad → Prop} (t : StR K ω S H) (h : OutP K E ω H (optO o S) Q) :
    ∃ r, o = some r ∧ ∀ H' , Stp ω H ω H' → StR K ω S H' → Q r S H' ω := by
  cases o with
  | none => exact h.elim
  | some r => exact ⟨r, rfl, fun H' s t' => h H' ω s t'⟩
/-! #### names, constants -/
@[simp] def dV (i : Nat) : Den := fun ρ S => match ρ[i]? with
  | some (some v) => .ok v S
  | _ => .stuck
@[simp] def dK (v : PV) : Den := fun _ S => .ok v S
theorem ex_v (i : Nat) {x : Str} (hN : X.N[i]? = some x := by rfl) (hv : Vis X.env.scope x := by first | exact Or.inl rfl | exact Or.inr (Or.inl rfl) | exact Or.inr (Or.inr rfl)) (hd : (x == ("__debug__" : Str)) = false := by decide)
    (hcd : (x == ("__classdict__" : Str)) = false := by decide) : EX X W (.Name x pos) (dV i) := (pe_var hN hv hd hcd).imp fun σ H Q ⟨ω, S, ρ, f, o⟩ => by
  unfold dV at o
  split at o
  · rename_i v hv
    obtain ⟨w, h1, h2⟩ := f.2.2 i v hv
    exact ⟨w, h1, o H ω .refl f.1 w h2⟩
  · exact o.elim
theorem ex_k {t : TE} {v : PV} {u : V} (h : PE X e (tC u)) (r : ∀ K H ω, Rp K H ω v u) : EX X W e (dK v) := h.imp fun σ H Q ⟨ω, S, ρ, f, o⟩ => o H ω .refl f.1 u (r _ _ _)
theorem ex_int {i : Int} {j} : EX X W (.Constant (.int i) j pos) (dK (.int i)) := ex_k (t := tC .non) pe_int fun _ _ _ => rfl
theorem ex_bl {b : Bool} {j} : EX X W (.Constant (.bool b) j pos) (dK (.bl b)) := ex_k (t := tC .non) pe_bl fun _ _ _ => rfl
theorem ex_non {j} : EX X W (.Constant .none j pos) (dK .non) := ex_k (t := tC .non) pe_non fun _ _ _ => rfl
theorem ex_str {x : Str} {j} : EX X W (.Constant (.str x) j pos) (dK (.str x)) := ex_k (t := tC .non) pe_str fun _ _ _ => rfl
/-- a module's int, text, bool, class -/
theorem ex_glob {x : Str} {v : PV} {w : V} {u : Value} (hg : Gl X x) (hm : X.mg x = some u) (r : RelV w u) (q : ∀ H ω, Rp X.K H ω v w) (hd : (x == ("__debug__" : Str)) = false := by decide) : EX X W (.Name x pos) (dK v) :=
  (pe_glob hg hm r hd).imp fun σ H Q ⟨ω, S, ρ, f, o⟩ => o H ω .refl f.1 w (q _ _)
theorem ex_bltn {x : Str} {n : String} (hg : Gl X x) (hm : X.mg x = none) (hv : bootBuiltins x = some (.type n)) (hn : x ≠ "__name__" := by decide) (hd : (x == ("__debug__" : Str)) = false := by decide) : EX X W (.Name x pos) (dK (.ty n)) :=
  (pe_bltn hg hm hv (v := .ty n) rfl hn hd).imp fun σ H Q ⟨ω, S, ρ, f, o⟩ => o H ω .refl f.1 _ rfl
/-! #### operators -/
@[simp] def dBin (p : P2) (da db : Den) : Den := fun ρ S => (da ρ S).then fun x S1 => (db ρ S1).then fun y S2 => optO (p S2 x y) S2
theorem bin_P {p : P2} {σ : St} {H : Hp} {Q : VK} (h : tX X.K W (dBin p da db) σ H Q) : tOp (rP X.K p) (tX X.K W da) (tX X.K W db) σ H Q := by
  obtain ⟨ω, S, ρ, f, o⟩ := h
  refine ⟨ω, S, ρ, f, (OutP.bind o).imp fun x S1 H1 ω1 s1 t1 o1 v rv => ⟨ω1, S1, ρ, f.later s1 t1, (OutP.bind o1).imp fun y S2 H2 ω2 s2 t2 o2 w rw => ?_⟩⟩
  obtain ⟨r, e, k⟩ := optO_P t2 o2
  exact ⟨ω2, S2, x, y, r, t2, rv.up s2.up, rw, e, fun v' H' s' t' r' => k H' s' t' v' r'⟩
theorem bin_F {p : P2} {σ : St} {H : Hp} {Q : VK} (h : tXF X.K W (dBin p da db) σ H Q) : tOp (rF X.K p) (tX X.K W da) (tX X.K W db) σ H Q := by
  obtain ⟨ω, S, ρ, f, o⟩ := h
  refine ⟨ω, S, ρ, f, (OutP.bind o).imp fun x S1 H1 ω1 s1 t1 o1 v rv => ⟨ω1, S1, ρ, f.later s1 t1, (OutP.bind o1).imp fun y S2 H2 ω2 s2 t2 o2 w rw => ?_⟩⟩
  obtain ⟨r, e, k⟩ := optO_P t2 o2
  refine ⟨ω2, S2, x, y, r, t2, rv.up s2.up, rw, e, fun q o H' s' hn he t' c => k H' s' (open_str t') q o he ?_ ?_ t' c⟩
  · cases hq : H q with
    | none => rfl
    | some u => exact absurd hn ((s1.trans s2).tr q (by rw [hq]; simp))
  · exact (t2.out hn).1
theorem ex_bin {op : Operator} {p : P2} (ho : OpP X (binaryOp op) p) (ha : EX X W a da) (hb : EX X W b db) : EX X W (.BinOp a op b pos) (dBin p da db) := (pe_op ho ha hb).imp fun _ _ _ => bin_P
theorem ef_bin {op : Operator} {p : P2} (ho : OpF X (binaryOp op) p) (ha : EX X W a da) (hb : EX X W b db) : EF X W (.BinOp a op b pos) (dBin p da db) := (pe_op ho ha hb).imp fun _ _ _ => bin_F
theorem ex_cmp {op : CmpOp} {p : P2} (ho : OpP X (compareOp op) p) (ha : EX X W a da) (hb : EX X W b db) (hm : behindInMarks op b = false := by rfl) : EX X W (.Compare a [op] [b] pos) (dBin p da db) := (pe_cmpR ho ha hb hm).imp fun _ _ _ => bin_P
/-- a denotation as a test -/
@[simp] def dB (d : Den) : DenT := fun ρ S => (d ρ S).then fun x S1 => match x with
  | .bl b => .ok b S1
  | _ => .stuck
theorem test_of {t : TE} {d : Den} {σ : St} {H : Hp} {Q : Bool → Hp → Prop} (h : tXT X.K W (dB d) σ H Q) (i : ∀ Q, tX X.K W d σ H Q → t σ H Q) : tTest t σ H Q := by
  obtain ⟨ω, S, ρ, f, o⟩ := h
  refine i _ ⟨ω, S, ρ, f, (OutP.bind o).imp fun x S1 H1 ω1 s1 t1 o1 v rv => ?_⟩
  cases x with
  | bl b => exact ⟨b, rv, o1 H1 ω1 .refl t1⟩
  | _ => exact o1.elim
theorem bx_cmp {op : CmpOp} {p : P2} (ho : OpP X (compareOp op) p) (ha : EX X W a da) (hb : EX X W b db) (hm : behindInMarks op b = false := by rfl) : BX X W (.Compare a [op] [b] pos) (dB (dBin p da db)) :=
  (pt_cmpR ho ha hb hm).imp fun _ _ _ h => test_of h fun _ => bin_P
/-- an expression that is a bool, as a test -/
theorem bx_val (he : EX X W e de) (hw : ∀ whole, isTrue e X.env whole = (do let v ← whole; standAt e.pos; holding [v] (truthy v)) := by intro _; rfl) : BX X W e (dB de) :=
  (pt_val he hw).imp fun _ _ _ h => test_of h fun _ q => q
/-- a chain a < b < c -/
@[simp] def dChain (p p' : P2) (da db dc : Den) : Den := fun ρ S => (da ρ S).then fun x S1 => (db ρ S1).then fun y S2 => (optO (p S2 x y) S2).then fun z S3 => match z with
  | .bl true => (dc ρ S3).then fun w S4 => optO (p' S4 y w) S4
  | .bl false => .ok (.bl false) S3
  | _ => .stuck
theorem chain_P {p p' : P2} {σ : St} {H : Hp} {Q : VK} (h : tX X.K W (dChain p p' da db dc) σ H Q) : tChain (rP X.K p) (rP X.K p') (tX X.K W da) (tX X.K W db) (tX X.K W dc) σ H Q := by
  obtain ⟨ω, S, ρ, f, o⟩ := h
  refine ⟨ω, S, ρ, f, (OutP.bind o).imp fun x S1 H1 ω1 s1 t1 o1 v rv => ⟨ω1, S1, ρ, f.later s1 t1, (OutP.bind o1).imp fun y S2 H2 ω2 s2 t2 o2 w rw => ?_⟩⟩
  obtain ⟨z, e, k⟩ := optO_P t2 (OutP.bind o2)
  refine ⟨ω2, S2, x, y, z, t2, rv.up s2.up, rw, e, fun v' H' s' t' r' => ?_⟩
  have k' := k H' s' t'
  cases z with
  | bl b =>
    refine ⟨b, r', ?_⟩
    cases b with
    | true =>
      refine iteT ⟨ω2, S2, ρ, (f.later (s1.trans s2) t2).later s' t', (OutP.bind k').imp fun u S4 H4 ω4 s4 t4 o4 x4 r4 => ?_⟩
      obtain ⟨r, e', k4⟩ := optO_P t4 o4
      exact ⟨ω4, S4, y, u, r, t4, (rw.up s'.up).up s4.up, r4, e', fun v5 H5 s5 t5 r5 => k4 H5 s5 t5 v5 r5⟩
    | false => exact iteF (k' H' ω2 .refl t' _ rfl)
  | _ => exact k'.elim
theorem ex_chain {op op' : CmpOp} {p p' : P2} (ho : OpP X (compareOp op) p) (ho' : OpP X (compareOp op') p') (ha : EX X W a da) (hb : EX X W b db) (hc : EX X W c dc) (hm : lastMarks [op, op'] [b, c] = false := by with_unfolding_all rfl) :
    EX X W (.Compare a [op, op'] [b, c] pos) (dChain p p' da db dc) := (pe_chain ho ho' ha hb hc hm).imp fun σ H Q h => chain_P h
theorem bx_chain {op op' : CmpOp} {p p' : P2} (ho : OpP X (compareOp op) p) (ho' : OpP X (compareOp op') p') (ha : EX X W a da) (hb : EX X W b db) (hc : EX X W c dc) (hm : lastMarks [op, op'] [b, c] = false := by with_unfolding_all rfl) :
    BX X W (.Compare a [op, op'] [b, c] pos) (dB (dChain p p' da db dc)) := (pt_chain ho ho' ha hb hc hm).imp fun _ _ _ h => test_of h fun _ => chain_P
/-! #### and, or, not, if .. else -/
@[simp] def dAnd (da db : Den) : Den := fun ρ S => (da ρ S).then fun x S1 => match x with
  | .bl true => db ρ S1
  | .bl false => .ok (.bl false) S1
  | _ => .stuck
@[simp] def dOr (da db : Den) : Den := fun ρ S => (da ρ S).then fun x S1 => match x with
  | .bl true => .ok (.bl true) S1
  | .bl false => db ρ S1
  | _ => .stuck
@[simp] def dNot (da : Den) : Den := fun ρ S => (da ρ S).then fun x S1 => match x with
  | .bl b => .ok (.bl (!b)) S1
  | _ => .stuck
@[simp] def dAndT (t u : DenT) : DenT := fun ρ S => (t ρ S).then fun c S1 => if c = true then u ρ S1 else .ok false S1
@[simp] def dOrT (t u : DenT) : DenT := fun ρ S => (t ρ S).then fun c S1 => if c = true then .ok true S1 else u ρ S1
@[simp] def dNotT (t : DenT) : DenT := fun ρ S => (t ρ S).then fun c S1 => .ok (!c) S1
@[simp] def dIf (t : DenT) (da db : Den) : Den := fun ρ S => (t ρ S).then fun c S1 => if c = true then da ρ S1 else db ρ S1
variable {rest : List Expr} {dt du : DenT}
theorem ex_one {op} (h : EX X W a da) : EX X W (.BoolOp op [a] pos) da := pe_one h
theorem ex_and (ha : EX X W a da) (hb : EX X W (.BoolOp .And (b :: rest) pos) db) : EX X W (.BoolOp .And (a :: b :: rest) pos) (dAnd da db) :=
  (pe_and ha hb).imp fun σ H Q ⟨ω, S, ρ, f, o⟩ => ⟨ω, S, ρ, f, (OutP.bind o).imp fun x S1 H1 ω1 s1 t1 o1 v rv => by
    cases x with
    | bl k =>
      refine ⟨k, rv, ?_⟩
      cases k with
      | true => exact iteT ⟨ω1, S1, ρ, f.later s1 t1, o1⟩
      | false => exact iteF (o1 H1 ω1 .refl t1 _ rfl)
    | _ => exact o1.elim⟩
theorem ex_or (ha : EX X W a da) (hb : EX X W (.BoolOp .Or (b :: rest) pos) db) : EX X W (.BoolOp .Or (a :: b :: rest) pos) (dOr da db) :=
  (pe_or ha hb).imp fun σ H Q ⟨ω, S, ρ, f, o⟩ => ⟨ω, S, ρ, f, (OutP.bind o).imp fun x S1 H1 ω1 s1 t1 o1 v rv => by
    cases x with
    | bl k =>
      refine ⟨k, rv, ?_⟩
      cases k with
      | true => exact iteT (o1 H1 ω1 .refl t1 _ rfl)
      | false => exact iteF ⟨ω1, S1, ρ, f.later s1 t1, o1⟩
    | _ => exact o1.elim⟩
theorem ex_not (ha : EX X W a da) : EX X W (.UnaryOp .Not a pos) (dNot da) :=
  (pe_not ha).imp fun σ H Q ⟨ω, S, ρ, f, o⟩ => ⟨ω, S, ρ, f, (OutP.bind o).imp fun x S1 H1 ω1 s1 t1 o1 v rv => by
    cases x with
    | bl k => exact ⟨k, rv, o1 H1 ω1 .refl t1 _ rfl⟩
    | _ => exact o1.elim⟩
abbrev WX' (X : Cx) (W : WX) (e : Expr) (d : DenT) : Prop := PW X e (tXT X.K W d)
theorem wx_and1 (ha : BX X W a dt) : WX' X W (.BoolOp .And [a] pos) dt := pw_and1 ha
theorem wx_or1 (ha : BX X W a dt) : WX' X W (.BoolOp .Or [a] pos) dt := pw_or1 ha
theorem wx_and (ha : BX X W a dt) (hb : WX' X W (.BoolOp .And (b :: rest) pos) du) : WX' X W (.BoolOp .And (a :: b :: rest) pos) (dAndT dt du) :=
  (pw_and ha hb).imp fun σ H Q ⟨ω, S, ρ, f, o⟩ => ⟨ω, S, ρ, f, (OutP.bind o).imp fun k S1 H1 ω1 s1 t1 o1 => by
    cases k with
    | true => exact iteT ⟨ω1, S1, ρ, f.later s1 t1, o1⟩
    | false => exact iteF (o1 H1 ω1 .refl t1)⟩
theorem wx_or (ha : BX X W a dt) (hb : WX' X W (.BoolOp .Or (b :: rest) pos) du) : WX' X W (.BoolOp .Or (a :: b :: rest) pos) (dOrT dt du) :=
  (pw_or ha hb).imp fun σ H Q ⟨ω, S, ρ, f, o⟩ => ⟨ω, S, ρ, f, (OutP.bind o).imp fun k S1 H1 ω1 s1 t1 o1 => by
    cases k with
    | true => exact iteT (o1 H1 ω1 .refl t1)
    | false => exact iteF ⟨ω1, S1, ρ, f.later s1 t1, o1⟩⟩
theorem bx_w (h : WX' X W e dt) : BX X W e dt := h.pt
theorem bx_not (ha : BX X W a dt) : BX X W (.UnaryOp .Not a pos) (dNotT dt) :=
  (pt_not ha).imp fun σ H Q ⟨ω, S, ρ, f, o⟩ => ⟨ω, S, ρ, f, (OutP.bind o).imp fun k S1 H1 ω1 s1 t1 o1 => o1 H1 ω1 .refl t1⟩
theorem ex_if (hc : BX X W c dt) (ha : EX X W a da) (hb : EX X W b db) : EX X W (.IfExp c a b pos) (dIf dt da db) :=
  (pe_ifExp hc ha hb).imp fun σ H Q ⟨ω, S, ρ, f, o⟩ => ⟨ω, S, ρ, f, (OutP.bind o).imp fun k S1 H1 ω1 s1 t1 o1 => by
    cases k with
    | true => exact iteT ⟨ω1, S1, ρ, f.later s1 t1, o1⟩
    | false => exact iteF ⟨ω1, S1, ρ, f.later s1 t1, o1⟩⟩
/-! #### argument lists, displays -/
@[simp] def dNil : DenA := fun _ S => .ok [] S
@[simp] def dCons (d : Den) (ds : DenA) : DenA := fun ρ S => (d ρ S).then fun x S1 => (ds ρ S1).then fun xs S2 => .ok (x :: xs) S2
variable {es : List Expr} {ds : DenA}
theorem ax_nil : AX X W [] dNil := pa_nil.imp fun σ H Q ⟨ω, S, ρ, f, o⟩ => o H ω .refl f.1 [] rfl
theorem ax_cons (he : EX X W e de) (hr : AX X W es ds) (hs : starEach (e :: es) X.env = (false, eval e X.env) :: starEach es X.env := by rfl) : AX X W (e :: es) (dCons de ds) :=
  (pa_cons he hr hs).imp fun σ H Q ⟨ω, S, ρ, f, o⟩ => ⟨ω, S, ρ, f, (OutP.bind o).imp fun x S1 H1 ω1 s1 t1 o1 v rv => ⟨ω1, S1, ρ, f.later s1 t1, (OutP.bind o1).imp fun xs S2 H2 ω2 s2 t2 o2 vs rvs =>
    o2 H2 ω2 .refl t2 _ ⟨v, vs, rfl, rv.up s2.up, rvs⟩⟩⟩
@[simp] def dTup (ds : DenA) : Den := fun ρ S => (ds ρ S).then fun xs S1 => if xs.length ≤ sizeLine then .ok (.tup xs) S1 else .stuck
@[simp] def dLst (ds : DenA) : Den := fun ρ S => (ds ρ S).then fun xs S1 => if xs.length ≤ sizeLine then .ok (.lst xs) S1 else .stuck
theorem ex_tup {x1} (h : AX X W es ds) : EX X W (.Tuple es x1 pos) (dTup ds) := (pe_tup h).imp fun σ H Q ⟨ω, S, ρ, f, o⟩ => ⟨ω, S, ρ, f, (OutP.bind o).imp fun xs S1 H1 ω1 s1 t1 o1 vs rvs => by
  split at o1
  · rename_i hl
    exact ⟨by rw [← rvs.length]; exact hl, fun p hp => new_tup t1 hp rvs fun v H' s' t' r' => o1 H' ω1 s' t' v r'⟩
  · exact o1.elim⟩
theorem ef_lst (h : AX X W es ds) : EF X W (.List es pos) (dLst ds) := (pe_lst h).imp fun σ H Q ⟨ω, S, ρ, f, o⟩ => ⟨ω, S, ρ, f, (OutP.bind o).imp fun xs S1 H1 ω1 s1 t1 o1 vs rvs => by
  split at o1
  · rename_i hl
    refine ⟨by rw [← rvs.length]; exact hl, fun p hp => new_lst t1 hp rvs fun q u H' s' hn he t' r' => o1 H' ω1 s' (open_str t') q u he ?_ (t1.out hn).1 t' r'⟩
    cases hq : H q with
    | none => rfl
    | some w => exact absurd hn (s1.tr q (by rw [hq]; simp))
  · exact o1.elim⟩
/-- a new object as a value -/
theorem f_P {d : Den} {σ : St} {H : Hp} {Q : VK} (h : tX X.K W d σ H Q) : tXF X.K W d σ H Q := by
  obtain ⟨ω, S, ρ, f, o⟩ := h
  exact ⟨ω, S, ρ, f, o.imp fun r S1 H1 ω1 s1 t1 k p u he hn hp t' c => k (.ref p) (c.pure ⟨hp, fun z => t'.nb p (by
    exfalso
    have : p ∈ ω.B := by rw [← s1.bl]; exact z
    exact f.1.tb p this hn) (List.mem_cons_self)⟩ he)⟩
theorem ex_f (h : EF X W e de) : EX X W e de := h.imp fun _ _ _ => f_P
/-- a new object as a cell -/
@[simp] def dCell (d : Den) : Den := fun ρ S => (d ρ S).then fun c S1 => .ok (.loc S1.length) (S1 ++ [c])
theorem cell_P {d : Den} {σ : St} {H : Hp} {Q : VK} (h : tX X.K W (dCell d) σ H Q) : tXF X.K W d σ H Q := by
  obtain ⟨ω, S, ρ, f, o⟩ := h
  refine ⟨ω, S, ρ, f, ?_⟩
  unfold dCell at o
  revert o
  cases d ρ S with
  | exc x S' => exact id
  | stuck => exact id
  | ok r S1 =>
    intro o H1 ω1 s1 t1 p u he hn hp t' c
    have hpB : p ∉ ω1.B := fun z => by
      have : p ∈ ω.B := by rw [← s1.bl]; exact z
      exact f.1.tb p this hn
    have up : Up ⟨ω1.ν, p :: ω1.B⟩ H1 ⟨ω1.ν ++ [p], ω1.B⟩ H1 := by
      refine ⟨fun n a z => ?_, fun a w e f' => ⟨e, fun z => ?_, fun z => f'.2 (List.mem_cons_of_mem _ z)⟩⟩
      · show (ω1.ν ++ [p])[n]? = some a
        rw [List.getElem?_append_left (List.getElem?_eq_some_iff.mp z).1]; exact z
      · rcases List.mem_append.mp z with z | z
        · exact f'.1 z
        · exact f'.2 (by simp at z; rw [z]; exact List.mem_cons_self)
    have t2 : StR X.K ⟨ω1.ν ++ [p], ω1.B⟩ (S1 ++ [r]) H1 := cell_str (ω := ω1) ⟨hp, hpB⟩ t' he up c
    refine o H1 ⟨ω1.ν ++ [p], ω1.B⟩ ?_ t2 _ ⟨p, rfl, ?_⟩
    · obtain ⟨ex, e1, f1⟩ := s1.nu
      refine ⟨⟨ex ++ [p], by show ω1.ν ++ [p] = _; rw [e1, List.append_assoc], fun a ha => ?_⟩, s1.bl, s1.kp, s1.tr⟩
      rcases List.mem_append.mp ha with z | z
      · exact f1 a z
      · simp at z; rw [z]; exact hn
    · show (ω1.ν ++ [p])[S1.length]? = some p
      rw [List.getElem?_append_right (by rw [t1.len]; exact Nat.le_refl _)]
      simp [t1.len]
theorem ex_cell (h : EF X W e de) : EX X W e (dCell de) := h.imp fun _ _ _ => cell_P
end
end Pv

namespace Pv
open PySem PySem.Spec L2
section
variable {X : Cx} {W : WX} {a b c e o : Expr} {da db dc de : Den} {pos p : Pos} {es : List Expr} {ds : DenA} {x : Str} {id T : String}
/-! ### calls of built-ins -/
@[simp] def dCB (q : PC') (ds : DenA) : Den := fun ρ S => (ds ρ S).then fun xs S1 => optO (q S1 xs) S1
theorem cb_P {q : PC'} {σ : St} {H : Hp} {Q : VK} (h : tX X.K W (dCB q ds) σ H Q) : tCB (rCP X.K q) (tXA X.K W ds) σ H Q := by
  obtain ⟨ω, S, ρ, f, o⟩ := h
  refine ⟨ω, S, ρ, f, (OutP.bind o).imp fun xs S1 H1 ω1 s1 t1 o1 vs rvs => ?_⟩
  obtain ⟨r, e, k⟩ := optO_P t1 o1
  exact ⟨ω1, S1, xs, r, t1, rvs, e, fun v' H' s' t' r' => k H' s' t' v' r'⟩
theorem cb_F {q : PC'} {σ : St} {H : Hp} {Q : VK} (h : tXF X.K W (dCB q ds) σ H Q) : tCB (rCF X.K q) (tXA X.K W ds) σ H Q := by
  obtain ⟨ω, S, ρ, f, o⟩ := h
  refine ⟨ω, S, ρ, f, (OutP.bind o).imp fun xs S1 H1 ω1 s1 t1 o1 vs rvs => ?_⟩
  obtain ⟨r, e, k⟩ := optO_P t1 o1
  refine ⟨ω1, S1, xs, r, t1, rvs, e, fun q o H' s' hn he t' c => k H' s' (open_str t') q o he ?_ (t1.out hn).1 t' c⟩
  cases hq : H q with
  | none => rfl
  | some u => exact absurd hn (s1.tr q (by rw [hq]; simp))
theorem ex_cb {q : PC'} (hc : CallP X (.builtin id) q) (hg : Gl X x) (hm : X.mg x = none) (hv : bootBuiltins x = some (.builtin id)) (ha : AX X W (e :: es) ds) (hn : x ≠ "__name__" := by decide) (hdb : (x == ("__debug__" : Str)) = false := by decide)
    (he : starEach (e :: es) X.env = (false, eval e X.env) :: starEach es X.env := by rfl) (hpl : (backTo pos (starEach es X.env)).any (·.1) = false := by rfl) : EX X W (.Call (.Name x p) (e :: es) [] pos) (dCB q ds) :=
  (pe_callB hc hg hm hv ha hn hdb he hpl).imp fun _ _ _ => cb_P
theorem ef_cb {q : PC'} (hc : CallF X (.builtin id) q) (hg : Gl X x) (hm : X.mg x = none) (hv : bootBuiltins x = some (.builtin id)) (ha : AX X W (e :: es) ds) (hn : x ≠ "__name__" := by decide) (hdb : (x == ("__debug__" : Str)) = false := by decide)
    (he : starEach (e :: es) X.env = (false, eval e X.env) :: starEach es X.env := by rfl) (hpl : (backTo pos (starEach es X.env)).any (·.1) = false := by rfl) : EF X W (.Call (.Name x p) (e :: es) [] pos) (dCB q ds) :=
  (pe_callB hc hg hm hv ha hn hdb he hpl).imp fun _ _ _ => cb_F
theorem ex_ct {q : PC'} (hc : CallP X (.type T) q) (hg : Gl X x) (hm : X.mg x = none) (hv : bootBuiltins x = some (.type T)) (ha : AX X W (e :: es) ds) (hn : x ≠ "__name__" := by decide) (hdb : (x == ("__debug__" : Str)) = false := by decide)
    (he : starEach (e :: es) X.env = (false, eval e X.env) :: starEach es X.env := by rfl) (hpl : (backTo pos (starEach es X.env)).any (·.1) = false := by rfl) : EX X W (.Call (.Name x p) (e :: es) [] pos) (dCB q ds) :=
  (pe_callTy hc hg hm hv ha hn hdb he hpl).imp fun _ _ _ => cb_P
theorem ef_ct {q : PC'} (hc : CallF X (.type T) q) (hg : Gl X x) (hm : X.mg x = none) (hv : bootBuiltins x = some (.type T)) (ha : AX X W (e :: es) ds) (hn : x ≠ "__name__" := by decide) (hdb : (x == ("__debug__" : Str)) = false := by decide)
    (he : starEach (e :: es) X.env = (false, eval e X.env) :: starEach es X.env := by rfl) (hpl : (backTo pos (starEach es X.env)).any (·.1) = false := by rfl) : EF X W (.Call (.Name x p) (e :: es) [] pos) (dCB q ds) :=
  (pe_callTy hc hg hm hv ha hn hdb he hpl).imp fun _ _ _ => cb_F
/-! #### len, int, abs, max, min, all, any, repr, list -/
@[simp] def cLen : PC' := fun S xs => match xs with
  | [x] => match look S x with
    | .str s => if s.length ≤ sizeLine then some (.int s.length) else none
    | .lst ys => some (.int ys.length)
    | .tup ys => some (.int ys.length)
    | .scr ns => some (.int ns.length)
    | _ => none
  | _ => none
theorem callP_len : CallP X (.builtin "len") cLen := CallR.weak call_len fun vs H Q ⟨ω, S, ps, r, t, rv, e, k⟩ => by
  match ps, e with
  | [px], e =>
    obtain ⟨v, rfl, rx⟩ := rv.one
    simp only [cLen] at e
    split at e
    · rename_i s e1
      cases look_eq t rx e1 rfl
      split at e
      · rename_i hs
        cases e
        exact ⟨v, s.length, rfl, by rw [show v = .str s from rx]; exact ⟨hs, rfl⟩, k _ _ .refl t rfl⟩
      · cases e
    · rename_i ys e1
      obtain ⟨a, ws, rfl, h1, r1⟩ := lst_of t rx e1
      cases e
      exact ⟨_, ys.length, rfl, .inl ⟨ws, .of h1, r1.length⟩, k _ _ .refl t rfl⟩
    · rename_i ys e1
      cases look_eq t rx e1 rfl
      obtain ⟨a, ws, rfl, h1, r1⟩ := tup_of rx
      cases e
      exact ⟨_, ys.length, rfl, .inr ⟨ws, h1, r1.length⟩, k _ _ .refl t rfl⟩
    · rename_i ns e1
      cases look_eq t rx e1 rfl
      obtain ⟨a, rfl, h1⟩ := rx
      cases e
      exact ⟨_, ns.length, rfl, .inl ⟨_, h1.imp And.left _root_.id, by simp⟩, k _ _ .refl t rfl⟩
    · cases e
@[simp] def cAbs : PC' := fun _ xs => match xs with
  | [.int i] => some (.int (if i < 0 then -i else i))
  | _ => none
theorem callP_abs : CallP X (.builtin "abs") cAbs := CallR.weak call_abs fun vs H Q ⟨ω, S, ps, r, t, rv, e, k⟩ => by
  match ps, e with
  | [.int i], e =>
    obtain ⟨v, rfl, rfl⟩ := rv.one
    cases e
    exact ⟨i, rfl, k _ _ .refl t rfl⟩
@[simp] def cInt : PC' := fun _ xs => match xs with
  | [.int i] => some (.int i)
  | [.bl b] => some (.int (if b then 1 else 0))
  | _ => none
theorem callP_int : CallP X (.type "int") cInt := CallR.weak call_int1 fun vs H Q ⟨ω, S, ps, r, t, rv, e, k⟩ => by
  match ps, e with
  | [.int i], e =>
    obtain ⟨v, rfl, rfl⟩ := rv.one
    cases e
    exact .inl ⟨i, rfl, k _ _ .refl t rfl⟩
  | [.bl b], e =>
    obtain ⟨v, rfl, rfl⟩ := rv.one
    cases e
    exact .inr ⟨b, rfl, k _ _ .refl t rfl⟩
@[simp] def cMax2 : PC' := fun _ xs => match xs with
  | [.int i, .int j] => some (.int (if j > i then j else i))
  | _ => none
@[simp] def cMin2 : PC' := fun _ xs => match xs with
  | [.int i, .int j] => some (.int (if j < i then j else i))
  | _ => none
theorem callP_max2 (hc : X.calm = true) : CallP X (.builtin "max") cMax2 := CallR.weak (call_max2 hc) fun vs H Q ⟨ω, S, ps, r, t, rv, e, k⟩ => by
  match ps, e with
  | [.int i, .int j], e =>
    obtain ⟨v, w, rfl, rfl, rfl⟩ := rv.two
    cases e
    exact ⟨i, j, rfl, k _ _ .refl t rfl⟩
theorem callP_min2 (hc : X.calm = true) : CallP X (.builtin "min") cMin2 := CallR.weak (call_min2 hc) fun vs H Q ⟨ω, S, ps, r, t, rv, e, k⟩ => by
  match ps, e with
  | [.int i, .int j], e =>
    obtain ⟨v, w, rfl, rfl, rfl⟩ := rv.two
    cases e
    exact ⟨i, j, rfl, k _ _ .refl t rfl⟩
def bls : List PV → Option (List Bool)
  | [] => some []
  | .bl b :: xs => (bls xs).map (b :: ·)
  | _ :: _ => none
theorem bls_map (f : PV → Bool) (xs : List PV) : bls (xs.map fun x => .bl (f x)) = some (xs.map f) := by
  induction xs with
  | nil => rfl
  | cons x xs ih => simp [bls, ih]
theorem bls_vals {K : PySem.W.Frag} {H : Hp} {ω : Ad} : ∀ {xs : List PV} {bs : List Bool} {vs : List V}, RpL K H ω xs vs → bls xs = some bs → vs = bs.map V.bl
  | [], _, _, r, e => by cases r; cases e; rfl
  | x :: xs, bs, _, ⟨v, ws, rfl, r, rs⟩, e => by
    cases x with
    | bl b =>
      simp only [bls] at e
      cases q : bls xs with
      | none => rw [q] at e; cases e
      | some cs =>
        rw [q] at e; cases e
        cases (show v = .bl b from r)
        rw [bls_vals rs q]; rfl
    | _ => cases e
@[simp] def cAll : PC' := fun S xs => match xs with
  | [x] => match look S x with
    | .lst ys => (bls ys).map fun bs => .bl (bs.all _root_.id)
    | _ => none
  | _ => none
@[simp] def cAny : PC' := fun S xs => match xs with
  | [x] => match look S x with
    | .lst ys => (bls ys).map fun bs => .bl (bs.any _root_.id)
    | _ => none
  | _ => none
theorem callP_all (hc : X.calm = true) : CallP X (.builtin "all") cAll := CallR.weak (cr_all hc) fun vs H Q ⟨ω, S, ps, r, t, rv, e, k⟩ => by
  match ps, e with
  | [px], e =>
    obtain ⟨v, rfl, rx⟩ := rv.one
    simp only [cAll] at e
    split at e
    · rename_i ys e1
      obtain ⟨a, ws, rfl, h1, r1⟩ := lst_of t rx e1
      cases q : bls ys with
      | none => rw [q] at e; cases e
      | some bs =>
        rw [q] at e; cases e
        have := bls_vals r1 q
        subst this
        exact ⟨a, bs, rfl, .of h1, k _ _ .refl t rfl⟩
    · cases e
theorem callP_any (hc : X.calm = true) : CallP X (.builtin "any") cAny := CallR.weak (cr_any hc) fun vs H Q ⟨ω, S, ps, r, t, rv, e, k⟩ => by
  match ps, e with
  | [px], e =>
    obtain ⟨v, rfl, rx⟩ := rv.one
    simp only [cAny] at e
    split at e
    · rename_i ys e1
      obtain ⟨a, ws, rfl, h1, r1⟩ := lst_of t rx e1
      cases q : bls ys with
      | none => rw [q] at e; cases e
      | some bs =>
        rw [q] at e; cases e
        have := bls_vals r1 q
        subst this
        exact ⟨a, bs, rfl, .of h1, k _ _ .refl t rfl⟩
    · cases e
/-- repr of a bool, an int, a text, None -/
@[simp] def cRepr : PC' := fun _ xs => match xs with
  | [.bl b] => some (.str (if b then "True" else "False"))
  | [.non] => some (.str "None")
  | [.int i] => if i.natAbs.log2 < 1920 then some (.str (toString i)) else none
  | _ => none
theorem callP_repr : CallP X (.builtin "repr") cRepr := by
  intro pins s σ H vs us Q I r ⟨ω, S, ps, r', t, rv, e, k⟩
  match ps, e with
  | [.bl b], e =>
    obtain ⟨v, rfl, rfl⟩ := rv.one
    cases e
    obtain ⟨u, rfl, rx⟩ := vals1 r
    cases rx
    exact PySem.P.repr_of_bool ⟨.str _, H, I.tok _, ⟨_, rfl⟩, k _ _ .refl t rfl⟩
  | [.non], e =>
    obtain ⟨v, rfl, rfl⟩ := rv.one
    cases e
    obtain ⟨u, rfl, rx⟩ := vals1 r
    cases rx
    exact PySem.P.repr_of_none ⟨.str _, H, I.tok _, ⟨_, rfl⟩, k _ _ .refl t rfl⟩
  | [.int i], e =>
    obtain ⟨v, rfl, rfl⟩ := rv.one
    simp only [cRepr] at e
    split at e
    · rename_i hi
      cases e
      exact SkE.call_repr_int pins s σ H _ us Q I r ⟨i, rfl, hi, k _ _ .refl t rfl⟩
    · cases e
/-- list(..) of a list, a tuple, a text -/
@[simp] def cList : PC' := fun S xs => match xs with
  | [x] => match look S x with
    | .lst ys => some (.lst ys)
    | .tup ys => some (.lst ys)
    | .str s => if s.cps.size ≤ sizeLine then some (.lst (s.cps.toList.map fun c => .str ⟨#[c]⟩)) else none
    | _ => none
  | _ => none
theorem signs_vals {s : Str} {acc : Array Value} (h : ItemsOf (SignAt s) acc s.cps.size) : Vals (s.cps.toList.map fun c => V.str ⟨#[c]⟩) acc.toList := by
  refine vals_of_at ?_ ?_
  · have := h.1
    simp [this]
  · intro j y u h1 h2
    obtain ⟨c, w, h3, rfl⟩ := h.2 j u (by rw [← Array.getElem?_toList]; exact h2)
    rw [List.getElem?_map, Array.getElem?_toList, h3] at h1
    cases h1
    exact ⟨w, rfl⟩
theorem RpL.signs {K : PySem.W.Frag} {H : Hp} {ω : Ad} : ∀ cs : List Nat, RpL K H ω (cs.map fun c => PV.str ⟨#[c]⟩) (cs.map fun c => V.str ⟨#[c]⟩)
  | [] => rfl
  | c :: cs => ⟨_, _, rfl, rfl, RpL.signs cs⟩
theorem callF_list (hc : X.calm = true) : CallF X (.type "list") cList := by
  intro pins s σ H vs us Q I r ⟨ω, S, ps, r', t, rv, e, k⟩
  match ps, e with
  | [px], e =>
    obtain ⟨v, rfl, rx⟩ := rv.one
    simp only [cList] at e
    split at e
    · rename_i ys e1
      obtain ⟨a, ws, rfl, h1, r1⟩ := lst_of t rx e1
      cases e
      exact call_list_of pins s σ H _ us Q I r ⟨a, ws, rfl, .inl (.of h1), fun l hl => new_lst t hl r1 k⟩
    · rename_i ys e1
      cases look_eq t rx e1 rfl
      obtain ⟨a, ws, rfl, h1, r1⟩ := tup_of rx
      cases e
      exact call_list_of pins s σ H _ us Q I r ⟨a, ws, rfl, .inr h1, fun l hl => new_lst t hl r1 k⟩
    · rename_i z e1
      cases look_eq t rx e1 rfl
      split at e
      · rename_i hz
        cases e
        cases rx
        obtain ⟨u, rfl, tk, rfl⟩ := vals1 r
        refine call_list_str (I.ok.hd hc) z tk (fun h' t2 acc c hk hS hacc => ?_) hz
        have hf : H s.heap.objs.size = none := I.hok.fresh (Nat.le_refl _)
        refine ⟨.ref s.heap.objs.size, upd H s.heap.objs.size (.lst (z.cps.toList.map fun c => V.str ⟨#[c]⟩)), I.laid hk (Nat.le_refl _) ⟨?_, acc.toList, c, signs_vals hacc, ?_⟩, rfl, ?_⟩
        · simpa using hz
        · rw [Array.toArray_toList]; exact hS
        · exact new_lst t hf (RpL.signs _) k
      · cases e
    · cases e
end
end Pv

namespace Pv
open PySem PySem.Spec L2
/-! ### isinstance of built-in types -/
@[simp] def tyN : PV → Option String
  | .non => some "NoneType"
  | .bl _ => some "bool"
  | .int _ => some "int"
  | .str _ => some "str"
  | .tup _ => some "tuple"
  | .lst _ => some "list"
  | .dct _ => some "dict"
  | _ => none
@[simp] def cIsi : PC' := fun S xs => match xs with
  | [x, .ty n] => (tyN (look S x)).bind fun t => (kitB t n).map .bl
  | _ => none
section
variable {X : Cx} {pins : List (Addr × Obj)} {σ : St} {H : Hp} {s : Shared}
theorem dK_there {a : Addr} {xs : List (Key × V)} (I : L2.Inv X pins σ H s) (h : Rd H a (.dK xs)) : ∃ o, s.heap.get? a = some o ∧ o.cls = .type "dict" := by
  obtain ⟨_, _, vs, _, o, es, ep, h1, h2, _⟩ := h.ok I.hok
  exact ⟨o, h1, h2.1⟩
theorem dT_there {a : Addr} {xs : List (List Key × V)} (I : L2.Inv X pins σ H s) (h : Rd H a (.dT xs)) : ∃ o, s.heap.get? a = some o ∧ o.cls = .type "dict" := by
  obtain ⟨_, _, vs, _, o, es, ep, h1, h2, _⟩ := h.ok I.hok
  exact ⟨o, h1, h2.1⟩
theorem kit_pv {ω : Ad} {S : Store} {x : PV} {v : V} {u : Value} {n : String} (I : L2.Inv X pins σ H s) (t : StR X.K ω S H) (r : Rp X.K H ω x v) (rv : RelV v u) (e : tyN (look S x) = some n) :
    ∃ P : Heap → Prop, PySem.W.KitX X.K u (.type n) P ∧ P s.heap ∧ u ≠ .builtin "__main__.__loader__#opaque" := by
  have isL : ∀ {xs : List PV}, look S x = .lst xs → n = "list" → ∃ P : Heap → Prop, PySem.W.KitX X.K u (.type n) P ∧ P s.heap ∧ u ≠ .builtin "__main__.__loader__#opaque" := fun {xs} e1 hn => by
    subst hn
    obtain ⟨a, vs, rfl, h, _⟩ := lst_of t r e1
    cases rv
    obtain ⟨_, _, n, _, h1⟩ := (show ObjOk X.prog X.w H s.heap a (.lst vs) from I.hok a _ h)
    exact ⟨_, PySem.W.kitx_list, ⟨_, h1, rfl⟩, fun z => nomatch z⟩
  cases hx : look S x with
  | non => rw [hx] at e; cases e; cases look_eq t r hx rfl; cases (show v = .non from r); cases rv; exact ⟨_, PySem.W.kitx_none, True.intro, fun z => nomatch z⟩
  | bl b => rw [hx] at e; cases e; cases look_eq t r hx rfl; cases (show v = .bl b from r); cases rv; exact ⟨_, PySem.W.kitx_bool, True.intro, fun z => nomatch z⟩
  | int i => rw [hx] at e; cases e; cases look_eq t r hx rfl; cases (show v = .int i from r); obtain ⟨tk, rfl⟩ := rv; exact ⟨_, PySem.W.kitx_int, True.intro, fun z => nomatch z⟩
  | str y => rw [hx] at e; cases e; cases look_eq t r hx rfl; cases (show v = .str y from r); obtain ⟨tk, rfl⟩ := rv; exact ⟨_, PySem.W.kitx_str, True.intro, fun z => nomatch z⟩
  | tup xs =>
    rw [hx] at e; cases e
    cases look_eq t r hx rfl
    obtain ⟨a, vs, rfl, h, _⟩ := tup_of r
    cases rv
    obtain ⟨its, _, ⟨o, h1, h2, _⟩, _⟩ := I.tuple h
    exact ⟨_, PySem.W.kitx_tuple, ⟨o, h1, h2⟩, fun z => nomatch z⟩
  | lst xs => rw [hx] at e; exact isL hx (Option.some.inj e).symm
  | dct kvs =>
    rw [hx] at e; cases e
    cases x with
    | loc m =>
      obtain ⟨a, c, o, rfl, _, _, e2, ho, hc⟩ := look_loc t r
      rw [e2] at hx; subst hx
      cases rv
      rcases hc with ⟨xs, rfl, _⟩ | ⟨xs, rfl, _⟩
      · exact ⟨_, PySem.W.kitx_dict, dK_there I (.of ho), fun z => nomatch z⟩
      · exact ⟨_, PySem.W.kitx_dict, dT_there I (.of ho), fun z => nomatch z⟩
    | dct kvs' =>
      obtain ⟨a, rfl, _, ⟨xs, h, _⟩ | ⟨xs, h, _⟩⟩ := r
      · cases rv; exact ⟨_, PySem.W.kitx_dict, dK_there I h, fun z => nomatch z⟩
      · cases rv; exact ⟨_, PySem.W.kitx_dict, dT_there I h, fun z => nomatch z⟩
    | _ => cases hx
  | _ => rw [hx] at e; cases e
end
theorem callP_isi {X : Cx} : CallP X (.builtin "isinstance") cIsi := by
  intro pins s σ H vs us Q I r ⟨ω, S, ps, r', t, rv, e, k⟩
  match ps, e with
  | [px, .ty n], e =>
    obtain ⟨v, w, rfl, rx, rfl⟩ := rv.two
    obtain ⟨u1, u2, rfl, r1, r2⟩ := vals2 r
    cases (show u2 = Value.type n from r2)
    simp only [cIsi] at e
    cases q : tyN (look S px) with
    | none => rw [q] at e; cases e
    | some tn =>
      rw [q] at e
      cases q2 : kitB tn n with
      | none => simp [q2] at e
      | some b =>
        simp [q2] at e
        subst e
        obtain ⟨P, Z, pp, hx⟩ := kit_pv I t rx r1 q
        exact PySem.W.kia_one Z I.kIn pp (kit_ty q2) hx fun tk => ⟨.bl b, H, I.tok tk, rfl, k _ _ .refl t rfl⟩
/-! ### subscripts -/
section
variable {K : PySem.W.Frag} {ω : Ad} {S : Store} {H : Hp}
theorem RpL.atI {xs : List PV} {vs : List V} {i : Int} {x : PV} (r : RpL K H ω xs vs) (h : L2.atI xs i = some x) : ∃ v, L2.atI vs i = some v ∧ Rp K H ω x v := by
  unfold L2.atI at h ⊢
  rw [← r.length]
  cases q : ixN xs.length i with
  | none => rw [q] at h; cases h
  | some j =>
    rw [q] at h
    exact r.get h
end
@[simp] def pIx : P2 := fun S x y => match look S x, y with
  | .lst xs, .int i => L2.atI xs i
  | .tup xs, .int i => L2.atI xs i
  | .scr ns, .int i => (L2.atI ns i).map .int
  | .str z, .int i => if z.length ≤ sizeLine then (L2.atI z.cps.toList i).map fun c => .str ⟨#[c]⟩ else none
  | _, _ => none
theorem atI_map {α β : Type} (f : α → β) (xs : List α) (i : Int) : L2.atI (xs.map f) i = (L2.atI xs i).map f := by
  unfold L2.atI
  rw [List.length_map]
  cases ixN xs.length i with
  | none => rfl
  | some j => simp
section
variable {X : Cx} {W : WX} {a b c e o : Expr} {da db dc de : Den} {pos p : Pos} {es : List Expr} {ds : DenA} {x : Str} {id T : String}
theorem ixP : IxR X (rP X.K pIx) := by
  intro value slice pins s σ H x y v u Q I rx ry ⟨ω, S, px, py, r, t, r1, r2, e, k⟩ hs
  unfold pIx at e
  split at e
  · rename_i xs i e1
    obtain ⟨a, vs, rfl, h1, q1⟩ := lst_of t r1 e1
    obtain ⟨w, h2, r3⟩ := q1.atI e
    exact ix_list value slice pins s σ H _ y v u Q I rx ry ⟨a, vs, i, w, rfl, r2, .of h1, h2, k _ _ .refl t r3⟩ hs
  · rename_i xs i e1
    cases look_eq t r1 e1 rfl
    obtain ⟨a, vs, rfl, h1, q1⟩ := tup_of r1
    obtain ⟨w, h2, r3⟩ := q1.atI e
    exact ix_tup value slice pins s σ H _ y v u Q I rx ry ⟨a, vs, i, w, rfl, r2, h1, h2, k _ _ .refl t r3⟩ hs
  · rename_i ns i e1
    cases look_eq t r1 e1 rfl
    obtain ⟨a, rfl, h1⟩ := r1
    cases q : L2.atI ns i with
    | none => rw [q] at e; cases e
    | some n =>
      rw [q] at e; cases e
      exact ix_list value slice pins s σ H _ y v u Q I rx ry ⟨a, _, i, .int n, rfl, r2, h1.imp And.left _root_.id, by rw [atI_map, q]; rfl, k _ _ .refl t rfl⟩ hs
  · rename_i z i e1
    cases look_eq t r1 e1 rfl
    split at e
    · rename_i hz
      cases q : L2.atI z.cps.toList i with
      | none => rw [q] at e; cases e
      | some c =>
        rw [q] at e; cases e
        exact ix_str value slice pins s σ H x y v u Q I rx ry ⟨z, i, c, r1, r2, hz, q, k _ _ .refl t rfl⟩ hs
    · cases e
  · cases e
theorem ex_ix (ha : EX X W a da) (hb : EX X W b db) (hs : PlainIx b := by intro _ _; rfl) : EX X W (.Subscript a b pos) (dBin pIx da db) := (pe_ix ixP ha hb hs).imp fun _ _ _ => bin_P
/-! ### cells that change -/
theorem cell_set {K : PySem.W.Frag} {ω : Ad} {S : Store} {H : Hp} {n : Nat} {a : Addr} {c : PV} {o : HO} (t : StR K ω S H) (h : ω.ν[n]? = some a) (r : CoR K H ω c o) :
    Stp ω H ω (upd H a o) ∧ StR K ω (S.set n c) (upd H a o) := by
  have ha : a ∈ ω.ν := List.mem_of_getElem? h
  have s : Stp ω H ω (upd H a o) := ⟨⟨[], by simp, by simp⟩, rfl, fun b u e f => by
    rw [upd_ne (fun z => f (by rw [z]; exact ha))]; exact e, fun b e => by
    unfold upd; split
    · simp
    · exact e⟩
  refine ⟨s, by simpa using t.len, t.nd, t.nb, fun b hb => s.tr b (t.tb b hb), fun m c' b e1 e2 => ?_⟩
  by_cases hm : m = n
  · subst hm
    rw [h] at e2; cases e2
    have hl : m < S.length := by rw [← t.len]; exact (List.getElem?_eq_some_iff.mp h).1
    rw [List.getElem?_set_self hl] at e1
    cases e1
    exact ⟨o, upd_same, r.up s.up⟩
  · rw [List.getElem?_set_ne (Ne.symm hm)] at e1
    obtain ⟨u, hu, ru⟩ := t.at m c' b e1 e2
    have hb : b ≠ a := by
      rintro rfl
      obtain ⟨h1, e3⟩ := List.getElem?_eq_some_iff.mp e2
      obtain ⟨h2, e4⟩ := List.getElem?_eq_some_iff.mp h
      exact hm ((List.getElem_inj t.nd).mp (e3.trans e4.symm))
    exact ⟨u, by rw [upd_ne hb]; exact hu, ru.up s.up⟩
/-- a method of a built-in type -/
abbrev PM := PV → List PV → Store → Option (PV × Store)
@[simp] def optM (o : Option (PV × Store)) : Out PV := match o with
  | some (v, S) => .ok v S
  | none => .stuck
def rM (K : PySem.W.Frag) (p : PM) : V → List V → Hp → VK → Prop := fun x vs H Q => ∃ ω S px ps r S', StR K ω S H ∧ Rp K H ω px x ∧ RpL K H ω ps vs ∧ p px ps S = some (r, S') ∧
  ∀ v H', Stp ω H ω H' → StR K ω S' H' → Rp K H' ω r v → Q v H'
@[simp] def dM (tk : Store → PV → Bool) (q : PM) (d : Den) (ds : DenA) : Den := fun ρ S => (d ρ S).then fun x S1 => if tk S1 x = true then (ds ρ S1).then fun xs S2 => optM (q x xs S2) else .stuck
theorem optM_P {K : PySem.W.Frag} {E : XK} {ω : Ad} {H : Hp} {o : Option (PV × Store)} {Q : PV → Store → Hp → Ad → Prop} (h : OutP K E ω H (optM o) Q) :
    ∃ r S', o = some (r, S') ∧ ∀ H', Stp ω H ω H' → StR K ω S' H' → Q r S' H' ω := by
  cases o with
  | none => exact h.elim
  | some r => exact ⟨r.1, r.2, rfl, fun H' s t' => h H' ω s t'⟩
/-- what a method's receiver is, ahead of its arguments -/
def TyM (K : PySem.W.Frag) (T : String) (tk : Store → PV → Bool) : Prop := ∀ S x H ω v, tk S x = true → StR K ω S H → Rp K H ω x v → tyV K T v H
@[simp] def isLst (S : Store) (x : PV) : Bool := match look S x with
  | .lst _ => true
  | _ => false
@[simp] def isStr (_ : Store) (x : PV) : Bool := match x with
  | .str _ => true
  | _ => false
theorem tyM_lst {K : PySem.W.Frag} : TyM K "list" isLst := fun S x H ω v h t r => by
  unfold isLst at h
  split at h
  · rename_i xs e
    obtain ⟨a, vs, rfl, h1, _⟩ := lst_of t r e
    exact .inl ⟨rfl, vs, .of h1⟩
  · cases h
theorem tyM_str {K : PySem.W.Frag} : TyM K "str" isStr := fun S x H ω v h t r => by
  unfold isStr at h
  split at h
  · rename_i z
    cases (show v = .str z from r)
    rfl
  · cases h
theorem mt_P {tk : Store → PV → Bool} {q : PM} {σ : St} {H : Hp} {Q : VK} (ty : TyM X.K T tk) (h : tX X.K W (dM tk q da ds) σ H Q) : tBM X.K T (rM X.K q) (tX X.K W da) (tXA X.K W ds) σ H Q := by
  obtain ⟨ω, S, ρ, f, o⟩ := h
  refine ⟨ω, S, ρ, f, (OutP.bind o).imp fun x S1 H1 ω1 s1 t1 o1 v rv => ?_⟩
  split at o1
  · rename_i hk
    refine ⟨ty S1 x H1 ω1 v hk t1 rv, ω1, S1, ρ, f.later s1 t1, (OutP.bind o1).imp fun xs S2 H2 ω2 s2 t2 o2 vs rvs => ?_⟩
    obtain ⟨r, S3, e, k⟩ := optM_P o2
    exact ⟨ω2, S2, x, xs, r, S3, t2, rv.up s2.up, rvs, e, fun v' H' s' t' r' => k H' s' t' v' r'⟩
  · exact o1.elim
theorem mt_P0 {tk : Store → PV → Bool} {q : PM} {σ : St} {H : Hp} {Q : VK} (ty : TyM X.K T tk) (h : tX X.K W (dM tk q da dNil) σ H Q) : tBM0 X.K T (rM X.K q) (tX X.K W da) σ H Q := by
  obtain ⟨ω, S, ρ, f, o⟩ := h
  refine ⟨ω, S, ρ, f, (OutP.bind o).imp fun x S1 H1 ω1 s1 t1 o1 v rv => ?_⟩
  split at o1
  · rename_i hk
    refine ⟨ty S1 x H1 ω1 v hk t1 rv, ?_⟩
    obtain ⟨r, S3, e, k⟩ := optM_P (show OutP X.K _ ω1 H1 (optM (q x [] S1)) _ from o1)
    exact ⟨ω1, S1, x, [], r, S3, t1, rv, rfl, e, fun v' H' s' t' r' => k H' s' t' v' r'⟩
  · exact o1.elim
abbrev MtP (X : Cx) (id : String) (q : PM) : Prop := MtR X id (rM X.K q)
theorem ex_m {tk : Store → PV → Bool} {q : PM} {name : Str} {apos cpos : Pos} (ty : TyM X.K T tk) (pa : PlainAttrs T) (slot : Slot T name id) (hty : typeOf (.builtin id) = pure (.type "method_descriptor")) (hm : MtP X id q) (ho : EX X W o da) (ha : AX X W (e :: es) ds)
    (hbase : attributeBase o name X.env (eval o X.env) = eval o X.env := by rfl)
    (hfew : ((backTo cpos (starEach (e :: es) X.env)).all (fun x => !x.1) && (backToKw cpos (keywordEach [] X.env)).all (fun x => x.1.isSome)
      && decide ((e :: es).length + ([] : List Keyword).length + (if ([] : List Keyword).isEmpty then 0 else 1) < 30)) = true := by rfl)
    (hline : (apos.endLine == cpos.line) = true := by rfl) (hs : starEach (e :: es) X.env = (false, eval e X.env) :: starEach es X.env := by rfl) (hplain : (backTo cpos (starEach es X.env)).any (·.1) = false := by rfl) :
    EX X W (.Call (.Attribute o name apos) (e :: es) [] cpos) (dM tk q da ds) := (pe_bm pa slot hty hm ho ha hbase hfew hline hs hplain).imp fun _ _ _ => mt_P ty
theorem ex_m0 {tk : Store → PV → Bool} {q : PM} {name : Str} {apos cpos : Pos} (ty : TyM X.K T tk) (pa : PlainAttrs T) (slot : Slot T name id) (hty : typeOf (.builtin id) = pure (.type "method_descriptor")) (hm : MtP X id q) (ho : EX X W o da)
    (hbase : attributeBase o name X.env (eval o X.env) = eval o X.env := by rfl) (hline : (apos.endLine == cpos.line) = true := by rfl) : EX X W (.Call (.Attribute o name apos) [] [] cpos) (dM tk q da dNil) :=
  (pe_bm0 pa slot hty hm ho hbase hline).imp fun _ _ _ => mt_P0 ty
/-! #### lists' methods -/
theorem MtR.weak {id : String} {r r' : V → List V → Hp → VK → Prop} (h : MtR X id r) (i : ∀ x vs H Q, r' x vs H Q → r x vs H Q) : MtR X id r' :=
  fun pins s σ H x xs v us Q I rx rs q => h pins s σ H x xs v us Q I rx rs (i _ _ _ _ q)
/-- on the list of a cell -/
@[simp] def onLst (f : List PV → List PV → Option (PV × List PV)) : PM := fun x vs S => match x with
  | .loc n => match S[n]? with
    | some (.lst xs) => (f xs vs).map fun r => (r.1, S.set n (.lst r.2))
    | _ => none
  | _ => none
theorem onLst_P {f : List PV → List PV → Option (PV × List PV)} {x : V} {vs : List V} {H : Hp} {Q : VK} (h : rM X.K (onLst f) x vs H Q) :
    ∃ (ω : Ad) (S : Store) (n : Nat) (a : Addr) (xs ps : List PV) (ws : List V) (r : PV) (ys : List PV), StR X.K ω S H ∧ x = .ref a ∧ ω.ν[n]? = some a ∧ S[n]? = some (.lst xs) ∧ H a = some (.lst ws) ∧ RpL X.K H ω xs ws ∧ RpL X.K H ω ps vs ∧ f xs ps = some (r, ys) ∧
      ∀ v us, Rp X.K H ω r v → RpL X.K H ω ys us → Q v (upd H a (.lst us)) := by
  obtain ⟨ω, S, px, ps, r, S', t, rx, rs, e, k⟩ := h
  unfold onLst at e
  split at e
  · rename_i n
    split at e
    · rename_i xs e1
      cases q : f xs ps with
      | none => rw [q] at e; cases e
      | some ry =>
        rw [q] at e
        cases e
        obtain ⟨a, c, o, rfl, e2, e3, _, ho, hc⟩ := look_loc t rx
        rw [e1] at e3; cases e3
        obtain ⟨ws, rfl, rw'⟩ := hc
        refine ⟨ω, S, n, a, xs, ps, ws, ry.1, ry.2, t, rfl, e2, e1, ho, rw', rs, q, fun v us r1 r2 => ?_⟩
        obtain ⟨s', t'⟩ := cell_set (c := .lst ry.2) (o := .lst us) t e2 ⟨us, rfl, r2⟩
        exact k v _ s' t' (r1.up s'.up)
    · cases e
  · cases e
@[simp] def mAppend : PM := onLst fun xs vs => match vs with
  | [y] => if xs.length < sizeLine then some (.non, xs ++ [y]) else none
  | _ => none
theorem mtP_append : MtP X "list.append" mAppend := MtR.weak mt_append fun x vs H Q h => by
  obtain ⟨ω, S, n, a, xs, ps, ws, r, ys, t, rfl, e2, e1, ho, rw', rs, q, k⟩ := onLst_P h
  match ps, q with
  | [y], q =>
    obtain ⟨v, rfl, ry⟩ := rs.one
    simp only at q
    split at q
    · rename_i hl
      cases q
      exact ⟨a, ws, v, rfl, rfl, ho, by rw [← rw'.length]; exact hl, k _ _ rfl (rw'.append ⟨v, [], rfl, ry, rfl⟩)⟩
    · cases q
@[simp] def mPop : PM := onLst fun xs vs => match vs with
  | [] => (xs[xs.length - 1]?).map fun y => (y, xs.dropLast)
  | [.int i] => if -(2 ^ 63) ≤ i ∧ i < 2 ^ 63 then (seqIndex? i xs.length).bind fun k => (xs[k]?).map fun y => (y, xs.eraseIdx k) else none
  | _ => none
theorem RpL.dropLast {K : PySem.W.Frag} {H : Hp} {ω : Ad} {xs : List PV} {vs : List V} (r : RpL K H ω xs vs) : RpL K H ω xs.dropLast vs.dropLast := by
  rw [List.dropLast_eq_take, List.dropLast_eq_take, r.length]
  exact r.take _
theorem mtP_pop : MtP X "list.pop" mPop := fun pins s σ H x vs v us Q I rx rs h => by
  obtain ⟨ω, S, n, a, xs, ps, ws, r, ys, t, rfl, e2, e1, ho, rw', rs', q, k⟩ := onLst_P h
  match ps, q with
  | [], q =>
    cases rs'
    simp only at q
    cases q1 : xs[xs.length - 1]? with
    | none => rw [q1] at q; cases q
    | some y =>
      rw [q1] at q; cases q
      obtain ⟨w, h1, r1⟩ := rw'.get q1
      exact mt_pop pins s σ H _ _ v us Q I rx rs ⟨a, ws, w, rfl, rfl, ho, by rw [← rw'.length]; exact h1, k _ _ r1 rw'.dropLast⟩
  | [.int i], q =>
    obtain ⟨u, rfl, rfl⟩ := rs'.one
    simp only at q
    split at q
    · rename_i hi
      cases q1 : seqIndex? i xs.length with
      | none => rw [q1] at q; cases q
      | some j =>
        rw [q1] at q
        cases q2 : xs[j]? with
        | none => simp [q2] at q
        | some y =>
          simp [q2] at q
          obtain ⟨rfl, rfl⟩ := q
          obtain ⟨w, h1, r1⟩ := rw'.get q2
          exact mt_popAt pins s σ H _ _ v us Q I rx rs ⟨a, ws, i, j, w, rfl, rfl, ho, hi.1, hi.2, by rw [← rw'.length]; exact q1, h1, k _ _ r1 (rw'.eraseIdx j)⟩
    · cases q
/-! #### texts' methods -/
def txts : List PV → Option (List Str)
  | [] => some []
  | .str s :: xs => (txts xs).map (s :: ·)
  | _ :: _ => none
theorem txts_vals {K : PySem.W.Frag} {H : Hp} {ω : Ad} : ∀ {xs : List PV} {bs : List Str} {vs : List V}, RpL K H ω xs vs → txts xs = some bs → vs = bs.map V.str
  | [], _, _, r, e => by cases r; cases e; rfl
  | x :: xs, bs, _, ⟨v, ws, rfl, r, rs⟩, e => by
    cases x with
    | str b =>
      simp only [txts] at e
      cases q : txts xs with
      | none => rw [q] at e; cases e
      | some cs =>
        rw [q] at e; cases e
        cases (show v = .str b from r)
        rw [txts_vals rs q]; rfl
    | _ => cases e
def seqOf : PV → Option (List PV)
  | .lst xs => some xs
  | .tup xs => some xs
  | _ => none
@[simp] def mJoin : PM := fun x vs S => match x, vs with
  | .str a, [l] => (seqOf (look S l)).bind fun xs => (txts xs).bind fun ys => if (ys.map (·.length)).sum + ys.length * a.length ≤ 16777216 then some (.str (Txt.join a ys), S) else none
  | _, _ => none
theorem mtP_join : MtP X "str.join" mJoin := MtR.weak mt_join fun x vs H Q ⟨ω, S, px, ps, r, S', t, rx, rs, e, k⟩ => by
  match px, ps, e with
  | .str a, [l], e =>
    obtain ⟨v, rfl, rl⟩ := rs.one
    simp only [mJoin] at e
    have fin : ∀ {xs ws b}, txts xs = some b → RpL X.K H ω xs ws → ((txts xs).bind fun ys => if (ys.map (·.length)).sum + ys.length * a.length ≤ 16777216 then some (PV.str (Txt.join a ys), S) else none) = some (r, S') →
        ws = b.map V.str ∧ (b.map (·.length)).sum + b.length * a.length ≤ 16777216 ∧ Q (.str (Txt.join a b)) H := fun {xs ws b} e1 r1 e2 => by
      rw [e1] at e2
      simp only [Option.bind_some] at e2
      split at e2
      · rename_i hl
        cases e2
        exact ⟨txts_vals r1 e1, hl, k _ _ .refl t rfl⟩
      · cases e2
    have hs : ∀ {xs : List PV}, ((txts xs).bind fun ys => if (ys.map (·.length)).sum + ys.length * a.length ≤ 16777216 then some (PV.str (Txt.join a ys), S) else none) = some (r, S') → ∃ b, txts xs = some b := fun {xs} e1 => by
      cases q : txts xs with
      | none => rw [q] at e1; cases e1
      | some b => exact ⟨b, rfl⟩
    cases q : look S l with
    | lst xs =>
      rw [q] at e
      have e : ((txts xs).bind fun ys => if (ys.map (·.length)).sum + ys.length * a.length ≤ 16777216 then some (PV.str (Txt.join a ys), S) else none) = some (r, S') := e
      obtain ⟨b, hb⟩ := hs e
      obtain ⟨p, ws, rfl, h1, r1⟩ := lst_of t rl q
      obtain ⟨e1, e2, e3⟩ := fin hb r1 e
      subst e1
      exact ⟨a, p, b, rx, rfl, .inl (.of h1), e2, e3⟩
    | tup xs =>
      rw [q] at e
      cases look_eq t rl q rfl
      have e : ((txts xs).bind fun ys => if (ys.map (·.length)).sum + ys.length * a.length ≤ 16777216 then some (PV.str (Txt.join a ys), S) else none) = some (r, S') := e
      obtain ⟨b, hb⟩ := hs e
      obtain ⟨p, ws, rfl, h1, r1⟩ := tup_of rl
      obtain ⟨e1, e2, e3⟩ := fin hb r1 e
      subst e1
      exact ⟨a, p, b, rx, rfl, .inr h1, e2, e3⟩
    | _ => rw [q] at e; cases e
end
end Pv

namespace Pv
open PySem PySem.Spec L2
/-! ### statements -/
inductive SOut where
  | nx (ρ : PEnv) (S : Store)
  | rt (v : PV) (S : Store)
  | bk (ρ : PEnv) (S : Store)
  | ct (ρ : PEnv) (S : Store)
  | exc (x : PX) (ρ : PEnv) (S : Store)
  | stuck
abbrev SDen := PEnv → Store → SOut
def SoP (K : PySem.W.Frag) (W : WX) (D : Ends) (ω : Ad) (H : Hp) (o : SOut) : Prop := match o with
  | .nx ρ S => ∀ σ H' ω', Stp ω H ω' H' → From K ρ S ω' σ H' → D.nx σ H'
  | .rt v S => ∀ u H' ω', Stp ω H ω' H' → StR K ω' S H' → Rp K H' ω' v u → D.rt u H'
  | .bk ρ S => ∀ σ H' ω', Stp ω H ω' H' → From K ρ S ω' σ H' → D.bk σ H'
  | .ct ρ S => ∀ σ H' ω', Stp ω H ω' H' → From K ρ S ω' σ H' → D.ct σ H'
  | .exc x ρ S => ∀ σ d H' ω', Stp ω H ω' H' → From K ρ S ω' σ H' → ExR K H' ω' x d → W x.cls d σ H'
  | .stuck => False
def tS (K : PySem.W.Frag) (W : WX) (d : SDen) : TS := fun D σ H => ∃ ω S ρ, From K ρ S ω σ H ∧ SoP K W D ω H (d ρ S)
abbrev SX (X : Cx) (W : WX) (st : Stmt) (d : SDen) : Prop := PS X st (tS X.K W d)
abbrev SsX (X : Cx) (W : WX) (st : List Stmt) (d : SDen) : Prop := PSs X st (tS X.K W d)
theorem SoP.later {K : PySem.W.Frag} {W : WX} {D : Ends} {ω ω1 : Ad} {H H1 : Hp} {o : SOut} (s : Stp ω H ω1 H1) (h : SoP K W D ω H o) : SoP K W D ω1 H1 o := by
  cases o with
  | nx ρ S => exact fun σ H' ω' s1 f => h σ H' ω' (s.trans s1) f
  | rt v S => exact fun u H' ω' s1 t r => h u H' ω' (s.trans s1) t r
  | bk ρ S => exact fun σ H' ω' s1 f => h σ H' ω' (s.trans s1) f
  | ct ρ S => exact fun σ H' ω' s1 f => h σ H' ω' (s.trans s1) f
  | exc x ρ S => exact fun σ d H' ω' s1 f => h σ d H' ω' (s.trans s1) f
  | stuck => exact h
@[simp] def stE {α : Type} (o : Out α) (ρ : PEnv) (f : α → Store → SOut) : SOut := match o with
  | .ok a S => f a S
  | .exc x S => .exc x ρ S
  | .stuck => .stuck
theorem SoP.ex {α : Type} {K : PySem.W.Frag} {W : WX} {D : Ends} {ω : Ad} {H : Hp} {o : Out α} {ρ : PEnv} {S0 : Store} {σ : St} {f : α → Store → SOut} (fr : From K ρ S0 ω σ H) (h : SoP K W D ω H (stE o ρ f)) :
    OutP K (fun c x H' => W c x σ H') ω H o fun r S' H' ω' => SoP K W D ω' H' (f r S') := by
  cases o with
  | ok r S' => exact fun H' ω' s _ => SoP.later s h
  | exc x S' => exact fun d H' ω' s t e => h σ d H' ω' s (fr.later s t) e
  | stuck => exact h
section
variable {X : Cx} {W : WX} {st : Stmt} {rest : List Stmt} {e a c : Expr} {d d1 d2 : SDen} {de da dv : Den} {dt : DenT} {pos : Pos}
@[simp] def sNil : SDen := fun ρ S => .nx ρ S
@[simp] def sSeq (d1 d2 : SDen) : SDen := fun ρ S => match d1 ρ S with
  | .nx ρ' S' => d2 ρ' S'
  | o => o
theorem ss_nil : SsX X W [] sNil := pss_nil.imp fun D σ H ⟨ω, S, ρ, f, o⟩ => o σ H ω .refl f
theorem ss_cons (h1 : SX X W st d1) (h2 : SsX X W rest d2) : SsX X W (st :: rest) (sSeq d1 d2) := (pss_cons h1 h2).imp fun D σ H ⟨ω, S, ρ, f, o⟩ => ⟨ω, S, ρ, f, by
  unfold sSeq at o
  revert o
  cases d1 ρ S with
  | nx ρ' S' => exact fun o σ' H' ω' s f' => ⟨ω', S', ρ', f', o.later s⟩
  | rt v S' => exact id
  | bk ρ' S' => exact id
  | ct ρ' S' => exact id
  | exc x ρ' S' => exact id
  | stuck => exact id⟩
theorem ss_one (h1 : SX X W st d1) : SsX X W [st] d1 := pss_one h1
@[simp] def sPass : SDen := fun ρ S => .nx ρ S
@[simp] def sBreak : SDen := fun ρ S => .bk ρ S
@[simp] def sCont : SDen := fun ρ S => .ct ρ S
theorem sx_pass : SX X W (.Pass pos) sPass := ps_pass.imp fun D σ H ⟨ω, S, ρ, f, o⟩ => o σ H ω .refl f
theorem sx_break : SX X W (.Break pos) sBreak := ps_break.imp fun D σ H ⟨ω, S, ρ, f, o⟩ => o σ H ω .refl f
theorem sx_cont : SX X W (.Continue pos) sCont := ps_continue.imp fun D σ H ⟨ω, S, ρ, f, o⟩ => o σ H ω .refl f
theorem sx_doc {x : Str} {j} {pos' : Pos} : SX X W (.Expr (.Constant (.str x) j pos) pos') sPass := ps_doc.imp fun D σ H ⟨ω, S, ρ, f, o⟩ => o σ H ω .refl f
@[simp] def sRet (d : Den) : SDen := fun ρ S => stE (d ρ S) ρ fun v S' => .rt v S'
theorem sx_ret (he : EX X W e de) : SX X W (.Return (some e) pos) (sRet de) := (ps_ret he).imp fun D σ H ⟨ω, S, ρ, f, o⟩ => ⟨ω, S, ρ, f, (SoP.ex f o).imp fun r S' H' ω' s t o1 v rv => o1 v H' ω' .refl t rv⟩
@[simp] def sRetN : SDen := fun _ S => .rt .non S
theorem sx_retN : SX X W (.Return none pos) sRetN := ps_retN.imp fun D σ H ⟨ω, S, ρ, f, o⟩ => o _ H ω .refl f.1 rfl
@[simp] def sExpr (d : Den) : SDen := fun ρ S => stE (d ρ S) ρ fun _ S' => .nx ρ S'
theorem sx_expr (he : EX X W e de) (hs : swapsWith e none pos.line X.env = pure false := by rfl) : SX X W (.Expr e pos) (sExpr de) := (ps_expr he hs).imp fun D σ H ⟨ω, S, ρ, f, o⟩ => ⟨ω, S, ρ, f, (SoP.ex f o).imp fun r S' H' ω' s t o1 v rv => o1 σ H' ω' .refl (f.later s t)⟩
@[simp] def sIf (t : DenT) (d1 d2 : SDen) : SDen := fun ρ S => stE (t ρ S) ρ fun b S' => if b = true then d1 ρ S' else d2 ρ S'
theorem sx_if {l1 l2 : List Stmt} (hc : BX X W c dt) (h1 : SsX X W l1 d1) (h2 : SsX X W l2 d2) : SX X W (.If c l1 l2 pos) (sIf dt d1 d2) := (ps_if hc h1 h2).imp fun D σ H ⟨ω, S, ρ, f, o⟩ => ⟨ω, S, ρ, f, (SoP.ex f o).imp fun b S' H' ω' s t o1 => by
  cases b with
  | true => exact iteT ⟨ω', S', ρ, f.later s t, o1⟩
  | false => exact iteF ⟨ω', S', ρ, f.later s t, o1⟩⟩
/-! #### targets -/
abbrev Bd := PV → PEnv → Option PEnv
def tXG (K : PySem.W.Frag) (b : Bd) (vs : List Nat) : TG := fun v σ H Q => ∃ ω S ρ x ρ', From K ρ S ω σ H ∧ Rp K H ω x v ∧ b x ρ = some ρ' ∧
  ∀ σ', (σ'.length = σ.length ∧ ∀ j, j ∉ vs → σ'[j]? = σ[j]?) → From K ρ' S ω σ' H → Q σ' H
abbrev GX (X : Cx) (tg : Expr) (b : Bd) (vs : List Nat) : Prop := PG X tg (tXG X.K b vs)
theorem _root_.L2.PG.imp {X : Cx} {tg : Expr} {t t' : TG} (h : PG X tg t) (i : ∀ v σ H Q, t' v σ H Q → t v σ H Q) : PG X tg t' := ⟨fun pins s σ H v u Q I r q => h.run pins s σ H v u Q I r (i _ _ _ _ q)⟩
theorem EnvR.set {K : PySem.W.Frag} {H : Hp} {ω : Ad} {ρ : PEnv} {σ : St} {i : Nat} {x : PV} {v : V} (h : EnvR K H ω ρ σ) (r : Rp K H ω x v) : EnvR K H ω (ρ.set i (some x)) (σ.set i (some v)) := by
  refine ⟨by simpa using h.1, fun j y e => ?_⟩
  by_cases hj : j = i
  · subst hj
    have hl : j < ρ.length := by
      have := (List.getElem?_eq_some_iff.mp e).1
      simpa using this
    rw [List.getElem?_set_self hl] at e
    cases e
    exact ⟨v, by rw [List.getElem?_set_self (by rw [← h.1]; exact hl)], r⟩
  · rw [List.getElem?_set_ne (Ne.symm hj)] at e ⊢
    exact h.2 j y e
@[simp] def bN (i : Nat) : Bd := fun x ρ => some (ρ.set i (some x))
theorem gx_name {i : Nat} {x : Str} (hN : X.N.Nodup) (hi : X.N[i]? = some x) (hx : Loc X.env.scope x) (hf : X.fn x = true ∨ X.env.scope.names.lookup x = some .local := by first | exact .inl rfl | exact .inr rfl | assumption) : GX X (.Name x pos) (bN i) [i] :=
  (pg_name hN hi hx hf).imp fun v σ H Q ⟨ω, S, ρ, y, ρ', f, r, e, k⟩ => by
    cases e
    refine k _ ⟨by simp, fun j hj => ?_⟩ ⟨f.1, f.2.set r⟩
    rw [List.getElem?_set_ne]
    intro z
    exact hj (by simp [z])
abbrev Bds := List PV → PEnv → Option PEnv
def tXGs (K : PySem.W.Frag) (b : Bds) (vs : List Nat) : TGs := fun us σ H Q => ∃ ω S ρ xs ρ', From K ρ S ω σ H ∧ RpL K H ω xs us ∧ b xs ρ = some ρ' ∧
  ∀ σ', (σ'.length = σ.length ∧ ∀ j, j ∉ vs → σ'[j]? = σ[j]?) → From K ρ' S ω σ' H → Q σ' H
abbrev GsX (X : Cx) (ts : List Expr) (b : Bds) (vs : List Nat) : Prop := PGs X ts (tXGs X.K b vs)
theorem _root_.L2.PGs.imp {X : Cx} {tg : List Expr} {t t' : TGs} (h : PGs X tg t) (i : ∀ v σ H Q, t' v σ H Q → t v σ H Q) : PGs X tg t' := ⟨fun pins s σ H v u Q I r q => h.run pins s σ H v u Q I r (i _ _ _ _ q)⟩
@[simp] def bsNil : Bds := fun xs ρ => match xs with
  | [] => some ρ
  | _ => none
@[simp] def bsCons (b : Bd) (bs : Bds) : Bds := fun xs ρ => match xs with
  | x :: xs => (b x ρ).bind (bs xs)
  | _ => none
theorem gs_nil : GsX X [] bsNil [] := pgs_nil.imp fun vs σ H Q ⟨ω, S, ρ, xs, ρ', f, r, e, k⟩ => by
  match xs, e with
  | [], e =>
    cases e
    cases r
    exact ⟨rfl, k σ ⟨rfl, fun _ _ => rfl⟩ f⟩
theorem gs_cons {e : Expr} {es : List Expr} {b : Bd} {bs : Bds} {v1 v2 : List Nat} (h1 : GX X e b v1) (h2 : GsX X es bs v2)
    (hs : (assignEach (e :: es) X.env).map (·.2) = assign e X.env :: (assignEach es X.env).map (·.2) := by rfl) : GsX X (e :: es) (bsCons b bs) (v1 ++ v2) :=
  (pgs_cons h1 h2 hs).imp fun us σ H Q ⟨ω, S, ρ, xs, ρ', f, r, e, k⟩ => by
    match xs, e with
    | x :: xs, e =>
      obtain ⟨v, ws, rfl, rx, rs⟩ := r
      simp only [bsCons] at e
      cases q : b x ρ with
      | none => rw [q] at e; cases e
      | some ρ1 =>
        rw [q] at e
        refine ⟨v, ws, rfl, ω, S, ρ, x, ρ1, f, rx, q, fun σ1 h1 f1 => ⟨ω, S, ρ1, xs, ρ', f1, rs, e, fun σ2 h2 f2 => k σ2 ⟨h2.1.trans h1.1, fun j hj => ?_⟩ f2⟩⟩
        exact (h2.2 j fun z => hj (List.mem_append_right _ z)).trans (h1.2 j fun z => hj (List.mem_append_left _ z))
@[simp] def bTup (n : Nat) (bs : Bds) : Bd := fun x ρ => match x with
  | .tup xs => if xs.length = n then bs xs ρ else none
  | _ => none
theorem gx_tup {es : List Expr} {k : Nat} {bs : Bds} {vs : List Nat} {n : Nat} (hc : X.calm = true) (h : GsX X es bs vs) (hn : (assignEach es X.env).length = n := by rfl) (hst : (assignEach es X.env).findIdx? (·.1) = none := by rfl) :
    GX X (.Tuple es k pos) (bTup n bs) vs := (pg_tup hc h hn hst).imp fun v σ H Q ⟨ω, S, ρ, x, ρ', f, r, e, k⟩ => by
  unfold bTup at e
  split at e
  · rename_i xs
    split at e
    · rename_i hl
      obtain ⟨a, us, rfl, h1, r1⟩ := tup_of r
      exact ⟨a, us, rfl, h1, by rw [← r1.length]; exact hl, ω, S, ρ, xs, ρ', f, r1, e, k⟩
    · cases e
  · cases e
/-! #### assignments -/
@[simp] def sAsg (d : Den) (b : Bd) : SDen := fun ρ S => stE (d ρ S) ρ fun v S' => match b v ρ with
  | some ρ' => .nx ρ' S'
  | none => .stuck
theorem asg_P {g : TG} {b : Bd} {vs : List Nat} (hg : ∀ v σ H Q, tXG X.K b vs v σ H Q → g v σ H Q) {D : Ends} {σ : St} {H : Hp} (h : tS X.K W (sAsg de b) D σ H) : tAsg (tX X.K W de) g D σ H := by
  obtain ⟨ω, S, ρ, f, o⟩ := h
  refine ⟨ω, S, ρ, f, (SoP.ex f o).imp fun x S1 H1 ω1 s1 t1 o1 v rv => hg _ _ _ _ ?_⟩
  split at o1
  · rename_i ρ' hb
    exact ⟨ω1, S1, ρ, x, ρ', f.later s1 t1, rv, hb, fun σ' _ f' => o1 σ' H1 ω1 .refl f'⟩
  · exact o1.elim
theorem sx_asg {tg : Expr} {b : Bd} {vs : List Nat} (he : EX X W e de) (hg : GX X tg b vs) (hs : swapsWithSole [tg] e pos.line X.env = pure false := by rfl) (hw : swappedStores [tg] e X.env = pure none := by rfl)
    (h1 : (assignEach [tg] X.env).map (·.2) = [assign tg X.env] := by rfl) : SX X W (.Assign [tg] e pos) (sAsg de b) := (ps_asg he hg hs hw h1).imp fun _ _ _ h => asg_P (fun _ _ _ _ q => q) h
theorem sx_set {i : Nat} {x : Str} {pos' : Pos} (hN : X.N.Nodup) (hi : X.N[i]? = some x) (hx : Loc X.env.scope x) (he : EX X W e de) (hs : swapsWith e (some (.Name x pos')) pos.line X.env = pure false := by rfl)
    (hf : X.fn x = true ∨ X.env.scope.names.lookup x = some .local := by first | exact .inl rfl | exact .inr rfl | assumption) : SX X W (.Assign [.Name x pos'] e pos) (sAsg de (bN i)) :=
  (ps_set hN hi hx he hs hf).imp fun _ _ _ h => asg_P (vs := [i]) (fun v σ H Q ⟨ω, S, ρ, y, ρ', f, r, e, k⟩ => by
    cases e
    refine k _ ⟨by simp, fun j hj => ?_⟩ ⟨f.1, f.2.set r⟩
    rw [List.getElem?_set_ne]
    intro z
    exact hj (by simp [z])) h
/-- o[i] = e -/
abbrev P3 := PV → PV → PV → Store → Option Store
@[simp] def sSub (dv dO dI : Den) (q : P3) : SDen := fun ρ S => stE (dv ρ S) ρ fun v S1 => stE (dO ρ S1) ρ fun o S2 => stE (dI ρ S2) ρ fun i S3 => match q o i v S3 with
  | some S4 => .nx ρ S4
  | none => .stuck
def rSet (K : PySem.W.Frag) (q : P3) : TSet := fun o i v H Q => ∃ ω S po pi pv S', StR K ω S H ∧ Rp K H ω po o ∧ Rp K H ω pi i ∧ Rp K H ω pv v ∧ q po pi pv S = some S' ∧ ∀ H', Stp ω H ω H' → StR K ω S' H' → Q H'
theorem PSet.weak {t t' : TSet} (h : PSet X t) (i : ∀ o j v H Q, t' o j v H Q → t o j v H Q) : PSet X t' := fun pins s σ H o j v ov iv u Q I r1 r2 r3 q => h pins s σ H o j v ov iv u Q I r1 r2 r3 (i _ _ _ _ _ q)
theorem sx_sub {o i : Expr} {dO dI : Den} {q : P3} {pos' : Pos} (he : EX X W e dv) (ho : EX X W o dO) (hi : EX X W i dI) (hq : PSet X (rSet X.K q))
    (ha : ∀ v, assign (.Subscript o i pos') X.env v = (do
      let ov ← holding [v] (eval o X.env)
      let iv ← holding [v, ov] (eval i X.env)
      standAt pos'
      holding [v, ov, iv] (setItem ov iv v)
      release [v, ov, iv] []) := by intro _; rfl)
    (hs : swapsWithSole [.Subscript o i pos'] e pos.line X.env = pure false := by rfl) (hw : swappedStores [.Subscript o i pos'] e X.env = pure none := by rfl)
    (h1 : (assignEach [.Subscript o i pos'] X.env).map (·.2) = [assign (.Subscript o i pos') X.env] := by rfl) : SX X W (.Assign [.Subscript o i pos'] e pos) (sSub dv dO dI q) :=
  (ps_asg he (pg_sub ho hi hq ha) hs hw h1).imp fun D σ H ⟨ω, S, ρ, f, o⟩ => ⟨ω, S, ρ, f, (SoP.ex f o).imp fun x S1 H1 ω1 s1 t1 o1 v rv => ⟨ω1, S1, ρ, f.later s1 t1, (SoP.ex (f.later s1 t1) o1).imp fun y S2 H2 ω2 s2 t2 o2 w rw =>
    ⟨ω2, S2, ρ, (f.later s1 t1).later s2 t2, (SoP.ex ((f.later s1 t1).later s2 t2) o2).imp fun z S3 H3 ω3 s3 t3 o3 u ru => by
      split at o3
      · rename_i S4 hq
        exact ⟨ω3, S3, y, z, x, S4, t3, rw.up s3.up, ru, (rv.up s2.up).up s3.up, hq, fun H4 s4 t4 => o3 σ H4 ω3 s4 ((((f.later s1 t1).later s2 t2).later s3 t3).later s4 t4)⟩
      · exact o3.elim⟩⟩⟩
/-- x[i] = v on a cell's list -/
@[simp] def qSetL : P3 := fun o i v S => match o, i with
  | .loc n, .int k => match S[n]? with
    | some (.lst xs) => (ixN xs.length k).map fun j => S.set n (.lst (xs.set j v))
    | _ => none
  | _, _ => none
theorem setP_list : PSet X (rSet X.K qSetL) := PSet.weak set_list fun o i v H Q ⟨ω, S, po, pi, pv, S', t, r1, r2, r3, e, k⟩ => by
  unfold qSetL at e
  split at e
  · rename_i n j
    split at e
    · rename_i xs e1
      cases q : ixN xs.length j with
      | none => rw [q] at e; cases e
      | some m =>
        rw [q] at e
        cases e
        obtain ⟨a, c, o', rfl, e2, e3, _, ho, hc⟩ := look_loc t r1
        rw [e1] at e3; cases e3
        obtain ⟨ws, rfl, rw'⟩ := hc
        obtain ⟨s', t'⟩ := cell_set (c := .lst (xs.set m pv)) (o := .lst (ws.set m v)) t e2 ⟨_, rfl, rw'.set r3 m⟩
        exact ⟨a, ws, j, m, rfl, r2, ho, by rw [← rw'.length]; exact q, k _ s' t'⟩
    · cases e
  · cases e
end
end Pv

namespace Pv
open PySem PySem.Spec L2
/-! ### what is walked -/
/-- later, perhaps with more closed -/
structure Lat (ω : Ad) (H : Hp) (ω' : Ad) (H' : Hp) : Prop where
  nu : ∃ ex, ω'.ν = ω.ν ++ ex ∧ ∀ a ∈ ex, H a = none
  bb : ∀ a ∈ ω'.B, a ∈ ω.B ∨ H a = none
  kp : ∀ a u, H a = some u → a ∉ ω.ν → H' a = some u
  tr : ∀ a, H a ≠ none → H' a ≠ none
theorem Stp.lat {ω ω' : Ad} {H H' : Hp} (s : Stp ω H ω' H') : Lat ω H ω' H' := ⟨s.nu, fun a ha => .inl (by rw [← s.bl]; exact ha), s.kp, s.tr⟩
theorem Stp.lat1 {ω : Ad} {ν : List Addr} {H H' : Hp} {D : Addr} (s : Stp ω H ⟨ν, ω.B⟩ H') (h : H D = none) : Lat ω H ⟨ν, D :: ω.B⟩ H' := ⟨s.nu, fun a ha => by
  rcases List.mem_cons.mp ha with z | z
  · exact .inr (by rw [z]; exact h)
  · exact .inl z, s.kp, s.tr⟩
theorem Lat.up {ω ω' : Ad} {H H' : Hp} (s : Lat ω H ω' H') : Up ω H ω' H' := by
  obtain ⟨ex, e1, f1⟩ := s.nu
  refine ⟨fun n a h => ?_, fun a u h f => ⟨s.kp a u h f.1, ?_, fun z => ?_⟩⟩
  · rw [e1, List.getElem?_append_left (List.getElem?_eq_some_iff.mp h).1]; exact h
  · rw [e1]
    intro hm
    rcases List.mem_append.mp hm with z | z
    · exact f.1 z
    · rw [f1 a z] at h; cases h
  · rcases s.bb a z with z | z
    · exact f.2 z
    · rw [h] at z; cases z
/-- what a walk yields: xs, one by one -/
structure Walks (K : PySem.W.Frag) (J : It) (ω0 : Ad) (H0 : Hp) (xs : List PV) : Prop where
  go : ∀ (i : Nat) ω S H, i < xs.length → Lat ω0 H0 ω H → StR K ω S H → J.go i H
  stop : ∀ (i : Nat) ω S H, i = xs.length → Lat ω0 H0 ω H → StR K ω S H → J.stop i H
  yld : ∀ (i : Nat) ω S H x H', i < xs.length → Lat ω0 H0 ω H → StR K ω S H → J.yld i H x H' → Stp ω H ω H' ∧ StR K ω S H' ∧ ∃ y, xs[i]? = some y ∧ Rp K H' ω y x
def tXI (K : PySem.W.Frag) (W : WX) (d : DenA) : TI := fun σ H R => ∃ ω S ρ, From K ρ S ω σ H ∧ OutP K (fun c x H' => W c x σ H') ω H (d ρ S) fun xs S' H' ω' => ∀ J, Walks K J ω' H' xs → R J H'
abbrev IX (X : Cx) (W : WX) (tg e : Expr) (d : DenA) : Prop := PI X tg e (tXI X.K W d)
theorem _root_.L2.PI.imp {X : Cx} {tg e : Expr} {t t' : TI} (h : PI X tg e t) (i : ∀ σ H R, t' σ H R → t σ H R) : PI X tg e t' := ⟨fun pins s σ H R I q => h.run pins s σ H R I (i _ _ _ q)⟩
section
variable {X : Cx} {W : WX} {tg e a b : Expr} {de da db : Den} {ds : DenA} {pos p : Pos}
theorem walks_list {K : PySem.W.Frag} {ω : Ad} {H : Hp} {a : Addr} {xs : List PV} {vs : List V} (h : H a = some (.lst vs)) (f : ω.Free a) (r : RpL K H ω xs vs) : Walks K (Itl K a) ω H xs where
  go := fun i ω' S H' hi s t => by
    have h' := s.kp a _ h f.1
    have hi' : i < vs.length := by rw [← r.length]; exact hi
    exact ⟨vs, vs[i], .of h', List.getElem?_eq_getElem hi'⟩
  stop := fun i ω' S H' hi s t => ⟨vs, .of (s.kp a _ h f.1), by rw [hi, r.length]; exact Nat.le_refl _⟩
  yld := fun i ω' S H' x H2 hi s t y => by
    obtain ⟨rfl, y⟩ := y
    have hx := y vs (.of (s.kp a _ h f.1))
    obtain ⟨z, h1, h2⟩ := r.get' hx
    exact ⟨.refl, t, z, h1, h2.up s.up⟩
theorem walks_tup {K : PySem.W.Frag} {ω : Ad} {H : Hp} {a : Addr} {xs : List PV} {vs : List V} (h : (H a = some (.tup vs) ∧ ω.Free a) ∨ KT K a vs) (r : RpL K H ω xs vs) : Walks K (Itt K a) ω H xs := by
  have q : ∀ ω' H', Lat ω H ω' H' → SqT K H' a vs := fun ω' H' s => h.imp (fun z => .inl (s.kp a _ z.1 z.2.1)) _root_.id
  refine ⟨fun i ω' S H' hi s t => ?_, fun i ω' S H' hi s t => ⟨vs, q ω' H' s, by rw [hi, r.length]; exact Nat.le_refl _⟩, fun i ω' S H' x H2 hi s t y => ?_⟩
  · have hi' : i < vs.length := by rw [← r.length]; exact hi
    exact ⟨vs, vs[i], q ω' H' s, List.getElem?_eq_getElem hi'⟩
  · obtain ⟨rfl, y⟩ := y
    have hx := y vs (q ω' _ s)
    obtain ⟨z, h1, h2⟩ := r.get' hx
    exact ⟨.refl, t, z, h1, h2.up s.up⟩
def nums (lo : Int) (n : Nat) : List PV := (List.range n).map fun i => .int (lo + (i : Nat))
theorem walks_range {K : PySem.W.Frag} {ω : Ad} {H : Hp} {lo : Int} {n : Nat} : Walks K (Itr lo n) ω H (nums lo n) where
  go := fun i ω' S H' hi s t => by
    show i < n
    simpa [nums] using hi
  stop := fun i ω' S H' hi s t => by
    show n ≤ i
    simp [nums] at hi; exact Nat.le_of_eq hi.symm
  yld := fun i ω' S H' x H2 hi s t y => by
    obtain ⟨rfl, rfl⟩ := y
    have hi : i < n := by simpa [nums] using hi
    exact ⟨.refl, t, .int (lo + i), by simp [nums, hi], rfl⟩
theorem walks_str {K : PySem.W.Frag} {ω : Ad} {H : Hp} {z : Str} : Walks K (Its z) ω H (z.cps.toList.map fun c => .str ⟨#[c]⟩) where
  go := fun i ω' S H' hi s t => by
    show i < z.cps.size
    simpa using hi
  stop := fun i ω' S H' hi s t => by
    show z.cps.size ≤ i
    simp at hi; exact Nat.le_of_eq hi.symm
  yld := fun i ω' S H' x H2 hi s t y => by
    obtain ⟨rfl, c, hc, rfl⟩ := y
    exact ⟨.refl, t, .str ⟨#[c]⟩, by rw [List.getElem?_map, Array.getElem?_toList, hc]; rfl, rfl⟩
/-- over a list, a tuple that never change; over a text's signs -/
@[simp] def iL (d : Den) : DenA := fun ρ S => (d ρ S).then fun x S1 => match x with
  | .lst xs => .ok xs S1
  | _ => .stuck
@[simp] def iT (d : Den) : DenA := fun ρ S => (d ρ S).then fun x S1 => match x with
  | .tup xs => .ok xs S1
  | _ => .stuck
@[simp] def iS (d : Den) : DenA := fun ρ S => (d ρ S).then fun x S1 => match x with
  | .str z => .ok (z.cps.toList.map fun c => .str ⟨#[c]⟩) S1
  | _ => .stuck
theorem ix_l (he : EX X W e de) : IX X W tg e (iL de) := (pi_list he).imp fun σ H R ⟨ω, S, ρ, f, o⟩ => ⟨ω, S, ρ, f, (OutP.bind o).imp fun x S1 H1 ω1 s1 t1 o1 v rv => by
  split at o1
  · obtain ⟨a, vs, rfl, h, f', r⟩ := rv
    exact ⟨a, rfl, ⟨vs, .of h⟩, o1 H1 ω1 .refl t1 _ (walks_list h f' r)⟩
  · exact o1.elim⟩
theorem ix_t (he : EX X W e de) : IX X W tg e (iT de) := (pi_tup he).imp fun σ H R ⟨ω, S, ρ, f, o⟩ => ⟨ω, S, ρ, f, (OutP.bind o).imp fun x S1 H1 ω1 s1 t1 o1 v rv => by
  split at o1
  · obtain ⟨a, vs, rfl, h, r⟩ := rv
    exact ⟨a, rfl, ⟨vs, h.imp (fun z => .inl z.1) _root_.id⟩, o1 H1 ω1 .refl t1 _ (walks_tup h r)⟩
  · exact o1.elim⟩
theorem ix_s (he : EX X W e de) : IX X W tg e (iS de) := (pi_str he).imp fun σ H R ⟨ω, S, ρ, f, o⟩ => ⟨ω, S, ρ, f, (OutP.bind o).imp fun x S1 H1 ω1 s1 t1 o1 v rv => by
  split at o1
  · rename_i z
    exact ⟨z, rv, o1 H1 ω1 .refl t1 _ walks_str⟩
  · exact o1.elim⟩
@[simp] def iR1 (ds : DenA) : DenA := fun ρ S => (ds ρ S).then fun xs S1 => match xs with
  | [.int j] => if -(2 ^ 62) ≤ j ∧ j < 2 ^ 62 then .ok (nums 0 j.toNat) S1 else .stuck
  | _ => .stuck
@[simp] def iR2 (ds : DenA) : DenA := fun ρ S => (ds ρ S).then fun xs S1 => match xs with
  | [.int i, .int j] => if -(2 ^ 62) ≤ i ∧ i < 2 ^ 62 ∧ -(2 ^ 62) ≤ j ∧ j < 2 ^ 62 then .ok (nums i (j - i).toNat) S1 else .stuck
  | _ => .stuck
theorem ix_r1 (hg : Gl X "range") (hm : X.mg "range" = none) (ha : AX X W [a] ds) (hs : starEach [a] X.env = [(false, eval a X.env)] := by rfl) : IX X W tg (.Call (.Name "range" p) [a] [] pos) (iR1 ds) :=
  (pi_range1 hg hm ha hs).imp fun σ H R ⟨ω, S, ρ, f, o⟩ => ⟨ω, S, ρ, f, (OutP.bind o).imp fun xs S1 H1 ω1 s1 t1 o1 vs rvs => by
    split at o1
    · rename_i j
      obtain ⟨v, rfl, rfl⟩ := rvs.one
      split at o1
      · rename_i hj
        exact ⟨j, rfl, hj.1, hj.2, o1 H1 ω1 .refl t1 _ walks_range⟩
      · exact o1.elim
    · exact o1.elim⟩
theorem ix_r2 (hg : Gl X "range") (hm : X.mg "range" = none) (ha : AX X W [a, b] ds) (hs : starEach [a, b] X.env = [(false, eval a X.env), (false, eval b X.env)] := by rfl) (hs2 : starEach [b] X.env = [(false, eval b X.env)] := by rfl) :
    IX X W tg (.Call (.Name "range" p) [a, b] [] pos) (iR2 ds) :=
  (pi_range2 hg hm ha hs hs2).imp fun σ H R ⟨ω, S, ρ, f, o⟩ => ⟨ω, S, ρ, f, (OutP.bind o).imp fun xs S1 H1 ω1 s1 t1 o1 vs rvs => by
    split at o1
    · rename_i i j
      obtain ⟨v, w, rfl, rfl, rfl⟩ := rvs.two
      split at o1
      · rename_i hj
        exact ⟨i, j, rfl, hj, o1 H1 ω1 .refl t1 _ walks_range⟩
      · exact o1.elim
    · exact o1.elim⟩
/-! ### for -/
def forD (b : Bd) (body : SDen) : List PV → SDen
  | [], ρ, S => .nx ρ S
  | x :: xs, ρ, S => match b x ρ with
    | none => .stuck
    | some ρ1 => match body ρ1 S with
      | .nx ρ2 S2 => forD b body xs ρ2 S2
      | .ct ρ2 S2 => forD b body xs ρ2 S2
      | .bk ρ2 S2 => .nx ρ2 S2
      | .rt v S2 => .rt v S2
      | .exc x ρ2 S2 => .exc x ρ2 S2
      | .stuck => .stuck
@[simp] def sFor (ds : DenA) (b : Bd) (body : SDen) : SDen := fun ρ S => stE (ds ρ S) ρ fun xs S' => forD b body xs ρ S'
theorem sx_for {iter : Expr} {body : List Stmt} {b : Bd} {vs : List Nat} {db : SDen} (hp : PassesOwn (model X.prog X.w) X.A X.env X.xe) (hc : X.calm = true) (hi : IX X W tg iter ds) (hg : GX X tg b vs) (hb : SsX X W body db)
    (hs : ∀ x, foldedSetIterable iter X.env x = pure x := by intro _; rfl) : SX X W (.For tg iter body [] pos) (sFor ds b db) :=
  (ps_for hp hc hi hg hb hs).imp fun D σ H ⟨ω, S, ρ, f, o⟩ => ⟨ω, S, ρ, f, (SoP.ex f o).imp fun xs S1 H1 ω1 s1 t1 o1 J w => by
    refine ⟨fun i m σ' H' => m = xs.length - i ∧ i ≤ xs.length ∧ ∃ ω' S' ρ', Stp ω1 H1 ω' H' ∧ From X.K ρ' S' ω' σ' H' ∧ SoP X.K W D ω' H' (forD b db (xs.drop i) ρ' S'), ⟨xs.length, rfl, Nat.zero_le _, ω1, S1, ρ, .refl, f.later s1 t1, o1⟩, ?_⟩
    rintro i m σ' H' ⟨rfl, hi, ω', S', ρ', s', f', o'⟩
    by_cases hl : i < xs.length
    · refine .inr ⟨w.go i ω' S' H' hl s'.lat f'.1, ?_⟩
      rw [List.drop_eq_getElem_cons hl] at o'
      unfold forD at o'
      refine ⟨fun σ2 H2 => ∃ ω2 S2 ρ2, Stp ω1 H1 ω2 H2 ∧ From X.K ρ2 S2 ω2 σ2 H2 ∧ SoP X.K W D ω2 H2 (forD b db (xs.drop (i + 1)) ρ2 S2), fun σ2 H2 h2 => ⟨xs.length - (i + 1), by omega, rfl, hl, h2⟩, fun x H3 y => ?_⟩
      obtain ⟨s3, t3, z, hz, rz⟩ := w.yld i ω' S' H' x H3 hl s'.lat f'.1 y
      rw [List.getElem?_eq_getElem hl] at hz
      cases hz
      split at o'
      · exact o'.elim
      · rename_i ρ1 hb1
        have f3 := f'.later s3 t3
        refine ⟨ω', S', ρ', _, ρ1, f3, rz, hb1, fun σ4 _ f4 => ⟨ω', S', ρ1, f4, ?_⟩⟩
        have o3 := SoP.later s3 o'
        revert o3
        cases db ρ1 S' with
        | nx ρ2 S2 => exact fun o3 σ5 H5 ω5 s5 f5 => ⟨ω5, S2, ρ2, (s'.trans s3).trans s5, f5, o3.later s5⟩
        | ct ρ2 S2 => exact fun o3 σ5 H5 ω5 s5 f5 => ⟨ω5, S2, ρ2, (s'.trans s3).trans s5, f5, o3.later s5⟩
        | bk ρ2 S2 => exact _root_.id
        | rt v S2 => exact _root_.id
        | exc x ρ2 S2 => exact _root_.id
        | stuck => exact _root_.id
    · have : i = xs.length := by omega
      subst this
      refine .inl ⟨w.stop _ ω' S' H' rfl s'.lat f'.1, ?_⟩
      rw [List.drop_length] at o'
      exact o' σ' H' ω' .refl f'⟩
/-! ### comprehensions -/
@[simp] def wipeR (ρ : PEnv) : List Nat → PEnv
  | [] => ρ
  | v :: vs => (wipeR ρ vs).set v none
/-- no exception comes out -/
@[simp] def noX {α : Type} (o : Out α) : Out α := match o with
  | .exc _ _ => .stuck
  | o => o
def compD (b : Bd) (test : DenT) (elt : Den) (ρ : PEnv) : List PV → Nat → M (List PV)
  | [], _, S => .ok [] S
  | x :: xs, n, S => match b x ρ with
    | none => .stuck
    | some ρ1 => (noX (test ρ1 S)).then fun k S1 => if k = true then (noX (elt ρ1 S1)).then fun y S2 => if n < sizeLine then (compD b test elt ρ xs (n + 1) S2).then fun ys S3 => .ok (y :: ys) S3 else .stuck
      else compD b test elt ρ xs n S1
@[simp] def dYes : DenT := fun _ S => .ok true S
@[simp] def dLc (ds : DenA) (vs : List Nat) (b : Bd) (test : DenT) (elt : Den) : Den := fun ρ S => (ds ρ S).then fun xs S1 => (compD b test elt (wipeR ρ vs) xs 0 S1).then fun ys S2 => .ok (.lst ys) S2
abbrev W0 : WX := fun _ _ _ _ => False
theorem wipe_env {K : PySem.W.Frag} {H : Hp} {ω : Ad} {ρ : PEnv} {σ : St} (h : EnvR K H ω ρ σ) : ∀ vs : List Nat, EnvR K H ω (wipeR ρ vs) (wipe σ vs)
  | [] => h
  | v :: vs => by
    have ih := wipe_env h vs
    refine ⟨by simpa [wipeR, wipe] using ih.1, fun i x e => ?_⟩
    unfold wipeR at e
    unfold wipe
    by_cases hi : i = v
    · subst hi
      have hl : i < (wipeR ρ vs).length := by simpa using (List.getElem?_eq_some_iff.mp e).1
      rw [List.getElem?_set_self hl] at e
      cases e
    · rw [List.getElem?_set_ne (Ne.symm hi)] at e ⊢
      exact ih.2 i x e
theorem wipe_eq {σ σ' : St} : ∀ {vs : List Nat}, σ'.length = σ.length → (∀ j, j ∉ vs → σ'[j]? = σ[j]?) → wipe σ' vs = wipe σ vs := by
  intro vs hl h
  refine List.ext_getElem? fun j => ?_
  by_cases hj : j ∈ vs
  · have aux : ∀ (τ : St) (us : List Nat), j ∈ us → (wipe τ us)[j]? = if j < τ.length then some none else none := by
      intro τ us
      induction us with
      | nil => intro z; cases z
      | cons u us ih =>
        intro z
        unfold wipe
        by_cases hu : u = j
        · subst hu
          rw [List.getElem?_set_self']
          by_cases hlt : u < τ.length
          · rw [if_pos hlt, List.getElem?_eq_getElem (by rw [wipe_length]; exact hlt)]; rfl
          · rw [if_neg hlt, List.getElem?_eq_none (by rw [wipe_length]; omega)]; rfl
        · rw [List.getElem?_set_ne hu]
          exact ih (by
            rcases List.mem_cons.mp z with z | z
            · exact absurd z.symm hu
            · exact z)
    rw [aux σ' vs hj, aux σ vs hj, hl]
  · have aux : ∀ (τ : St) (us : List Nat), j ∉ us → (wipe τ us)[j]? = τ[j]? := by
      intro τ us
      induction us with
      | nil => intro _; rfl
      | cons u us ih =>
        intro z
        unfold wipe
        rw [List.getElem?_set_ne (fun q => z (by rw [q]; exact List.mem_cons_self))]
        exact ih fun q => z (List.mem_cons_of_mem _ q)
    rw [aux σ' vs hj, aux σ vs hj]
    exact h j hj
theorem noX_P {α : Type} {K : PySem.W.Frag} {E : XK} {ω : Ad} {H : Hp} {o : Out α} {Q : α → Store → Hp → Ad → Prop} (h : OutP K E ω H (noX o) Q) : OutP K (fun _ _ _ => False) ω H o Q := by
  cases o with
  | ok r S => exact h
  | exc x S => exact h.elim
  | stuck => exact h
/-- as OutP.bind, what is owed told from an anchor -/
theorem OutP.bindA {α β : Type} {K : PySem.W.Frag} {E E' : XK} {ωa ω : Ad} {Ha H : Hp} {o : Out α} {f : α → M β} {Q : β → Store → Hp → Ad → Prop} (h : OutP K E ωa Ha ((noX o).then f) Q) :
    OutP K E' ω H o fun r S' H' ω' => OutP K E ωa Ha (f r S') Q := by
  cases o with
  | ok r S' => exact fun H' ω' _ _ => h
  | exc x S' => exact h.elim
  | stuck => exact h.elim
theorem then_assoc {α β γ : Type} (o : Out α) (f : α → M β) (g : β → M γ) : (o.then f).then g = o.then fun a S => (f a S).then g := by
  cases o <;> rfl
theorem wipe_wipe {σ σ' : St} {vs us : List Nat} (hu : ∀ j, j ∈ us → j ∈ vs) (h : σ'.length = (wipe σ vs).length ∧ ∀ j, j ∉ us → σ'[j]? = (wipe σ vs)[j]?) : wipe σ' vs = wipe σ vs := by
  have h1 : wipe σ' vs = wipe (wipe σ vs) vs := wipe_eq h.1 fun j hj => h.2 j fun z => hj (hu j z)
  rw [h1]
  refine wipe_eq (wipe_length _ _) fun j hj => ?_
  have aux : ∀ us : List Nat, j ∉ us → (wipe σ us)[j]? = σ[j]? := by
    intro us
    induction us with
    | nil => intro _; rfl
    | cons u us ih =>
      intro z
      unfold wipe
      rw [List.getElem?_set_ne (fun q => z (by rw [q]; exact List.mem_cons_self))]
      exact ih fun q => z (List.mem_cons_of_mem _ q)
  exact aux vs hj
theorem lc_P {wi : TI} {g : TG} {tt : TT} {te : TE} {vs us : List Nat} {b : Bd} {dt : DenT} {σ : St} {H : Hp} {Q : VK} (hu : ∀ j, j ∈ us → j ∈ vs)
    (hi : ∀ σ H R, tXI X.K W ds σ H R → wi σ H R) (hg : ∀ v σ H Q, tXG X.K b us v σ H Q → g v σ H Q) (ht : ∀ σ H Q, tXT X.K W0 dt σ H Q → tt σ H Q) (he : ∀ σ H Q, tX X.K W0 de σ H Q → te σ H Q)
    (h : tXF X.K W (dLc ds vs b dt de) σ H Q) : tLc wi g tt te vs σ H Q := by
  obtain ⟨ω, S, ρ, f, o⟩ := h
  refine hi _ _ _ ⟨ω, S, ρ, f, ?_⟩
  have oo : OutP X.K (fun c x H' => W c x σ H') ω H (ds ρ S) fun xs S1 H1 ω1 => OutP X.K (fun c x H' => W c x σ H') ω1 H1 ((compD b dt de (wipeR ρ vs) xs 0 S1).then fun ys S2 => .ok (PV.lst ys) S2) _ := OutP.bind o
  refine oo.imp fun xs S1 H1 ω1 s1 t1 o1 J w D hD => ?_
  have hD0 : H D = none := by
    cases hq : H D with
    | none => rfl
    | some u => exact absurd hD (s1.tr D (by rw [hq]; simp))
  have fD := t1.out hD
  have f1 := f.later s1 t1
  -- the invariant
  refine ⟨fun i m H' => m = xs.length - i ∧ i ≤ xs.length ∧ ∃ ν S' ys ws, Stp ω1 H1 ⟨ν, ω1.B⟩ H' ∧ StR X.K ⟨ν, D :: ω1.B⟩ S' H' ∧ H' D = some (.lst ws) ∧ RpL X.K H' ⟨ν, D :: ω1.B⟩ ys ws ∧
    OutP X.K (fun c x H' => W c x σ H') ω1 H1 ((compD b dt de (wipeR ρ vs) (xs.drop i) ys.length S').then fun zs S2 => .ok (PV.lst (ys ++ zs)) S2)
      (fun r S' H' ω' => ∀ p o, H' p = some o → H p = none → p ∉ ω'.ν → StR X.K ⟨ω'.ν, p :: ω'.B⟩ S' H' → CoR X.K H' ⟨ω'.ν, p :: ω'.B⟩ r o → Q (.ref p) H'),
    ⟨xs.length, rfl, Nat.zero_le _, ω1.ν, S1, [], [], new_stp hD, new_str t1 hD, upd_same, rfl, o1⟩, ?_⟩
  rintro i m H' ⟨rfl, hle, ν, S', ys, ws, s', t', hDw, rw', o'⟩
  have t0 := open_str (ω := ⟨ν, ω1.B⟩) t'
  have hDν : D ∉ ν := fun z => t'.nb D z List.mem_cons_self
  by_cases hl : i < xs.length
  · refine .inr ⟨w.go i _ S' H' hl (s'.lat1 hD) t', ?_⟩
    refine ⟨fun H2 => ∃ ν S' ys ws, Stp ω1 H1 ⟨ν, ω1.B⟩ H2 ∧ StR X.K ⟨ν, D :: ω1.B⟩ S' H2 ∧ H2 D = some (.lst ws) ∧ RpL X.K H2 ⟨ν, D :: ω1.B⟩ ys ws ∧
      OutP X.K (fun c x H' => W c x σ H') ω1 H1 ((compD b dt de (wipeR ρ vs) (xs.drop (i + 1)) ys.length S').then fun zs S2 => .ok (PV.lst (ys ++ zs)) S2)
        (fun r S' H' ω' => ∀ p o, H' p = some o → H p = none → p ∉ ω'.ν → StR X.K ⟨ω'.ν, p :: ω'.B⟩ S' H' → CoR X.K H' ⟨ω'.ν, p :: ω'.B⟩ r o → Q (.ref p) H'),
      fun H2 h2 => ⟨xs.length - (i + 1), by omega, rfl, hl, h2⟩, fun x H3 y => ?_⟩
    obtain ⟨s3, t3, z, hz, rz⟩ := w.yld i _ S' H' x H3 hl (s'.lat1 hD) t' y
    rw [List.getElem?_eq_getElem hl] at hz
    cases hz
    have env : EnvR X.K H3 ⟨ν, D :: ω1.B⟩ (wipeR ρ vs) (wipe σ vs) := ((wipe_env f1.2 vs).up (s'.lat1 hD).up).up s3.up
    rw [List.drop_eq_getElem_cons hl] at o'
    unfold compD at o'
    cases hb : b xs[i] (wipeR ρ vs) with
    | none => rw [hb] at o'; exact o'.elim
    | some ρ1 =>
      rw [hb] at o'
      have s13 : Stp ω1 H1 ⟨ν, ω1.B⟩ H3 := s'.trans ⟨⟨[], by simp, by simp⟩, rfl, s3.kp, s3.tr⟩
      refine hg _ _ _ _ ⟨⟨ν, D :: ω1.B⟩, S', wipeR ρ vs, _, ρ1, ⟨t3, env⟩, rz, hb, fun σ4 h4 f4 => ⟨wipe_wipe hu h4, ht _ _ _ ⟨⟨ν, D :: ω1.B⟩, S', ρ1, f4, ?_⟩⟩⟩
      have o4 := OutP.bindA (E' := fun c x H' => W0 c x σ4 H') (ω := ⟨ν, D :: ω1.B⟩) (H := H3) (show OutP X.K (fun c x H' => W c x σ H') ω1 H1 ((noX (dt ρ1 S')).then fun k S1 => (if k = true then (noX (de ρ1 S1)).then fun y S2 => if ys.length < sizeLine then (compD b dt de (wipeR ρ vs) (xs.drop (i + 1)) (ys.length + 1) S2).then fun zs S3 => .ok (y :: zs) S3 else .stuck
        else compD b dt de (wipeR ρ vs) (xs.drop (i + 1)) ys.length S1).then fun zs S2 => .ok (PV.lst (ys ++ zs)) S2) _ by rw [← then_assoc]; exact o')
      refine o4.imp fun k S5 H5 ω5 s5 t5 o5 => ?_
      obtain ⟨ν5, B5⟩ := ω5
      have e5 : B5 = D :: ω1.B := s5.bl
      subst e5
      have s15 : Stp ω1 H1 ⟨ν5, ω1.B⟩ H5 := s13.trans ⟨s5.nu, rfl, s5.kp, s5.tr⟩
      have hD5 : H5 D = some (.lst ws) := s5.kp D _ (s3.kp D _ hDw hDν) hDν
      have rw5 : RpL X.K H5 ⟨ν5, D :: ω1.B⟩ ys ws := (rw'.up s3.up).up s5.up
      cases k with
      | false => exact iteF ⟨ν5, S5, ys, ws, s15, t5, hD5, rw5, o5⟩
      | true =>
        refine iteT (he _ _ _ ⟨⟨ν5, D :: ω1.B⟩, S5, ρ1, (f4.later s5 t5), ?_⟩)
        have o6 := OutP.bindA (E' := fun c x H' => W0 c x σ4 H') (ω := ⟨ν5, D :: ω1.B⟩) (H := H5) (show OutP X.K (fun c x H' => W c x σ H') ω1 H1 ((noX (de ρ1 S5)).then fun y S2 => (if ys.length < sizeLine then (compD b dt de (wipeR ρ vs) (xs.drop (i + 1)) (ys.length + 1) S2).then fun zs S3 => .ok (y :: zs) S3 else .stuck).then fun zs S2 => .ok (PV.lst (ys ++ zs)) S2) _ by rw [← then_assoc]; exact o5)
        refine o6.imp fun yv S7 H7 ω7 s7 t7 o7 v rv => ?_
        obtain ⟨ν7, B7⟩ := ω7
        have e7 : B7 = D :: ω1.B := s7.bl
        subst e7
        have hD7 : H7 D = some (.lst ws) := s7.kp D _ hD5 fun z => t5.nb D z List.mem_cons_self
        have s17 : Stp ω1 H1 ⟨ν7, ω1.B⟩ H7 := s15.trans ⟨s7.nu, rfl, s7.kp, s7.tr⟩
        split at o7
        · rename_i hlt
          have hDν7 : D ∉ ν7 := fun z => t7.nb D z List.mem_cons_self
          have up7 : ∀ o, Up ⟨ν7, D :: ω1.B⟩ H7 ⟨ν7, D :: ω1.B⟩ (upd H7 D o) := fun o => ⟨fun _ _ z => z, fun a u e f' => ⟨by rw [upd_ne (fun z => f'.2 (by rw [z]; exact List.mem_cons_self))]; exact e, f'⟩⟩
          refine ⟨ws, hD7, by rw [← (rw5.length)]; exact hlt, ν7, S7, ys ++ [yv], ws ++ [v], ?_, ?_, upd_same, ?_, ?_⟩
          · refine ⟨s17.nu, rfl, fun a u e nf => ?_, fun a e => ?_⟩
            · rw [upd_ne (ne_of_none e hD)]; exact s17.kp a u e nf
            · unfold upd; split
              · simp
              · exact s17.tr a e
          · refine ⟨t7.len, t7.nd, t7.nb, fun a ha => ?_, fun n c a e1 e2 => ?_⟩
            · unfold upd; split
              · simp
              · exact t7.tb a ha
            · obtain ⟨u, hu', ru⟩ := t7.at n c a e1 e2
              have : a ≠ D := fun z => hDν7 (by rw [← z]; exact List.mem_of_getElem? e2)
              exact ⟨u, by rw [upd_ne this]; exact hu', ru.up (up7 _)⟩
          · exact ((rw5.up s7.up).append (show RpL X.K H7 ⟨ν7, D :: ω1.B⟩ [yv] [v] from ⟨v, [], rfl, rv, rfl⟩)).up (up7 _)
          · have e8 : (ys ++ [yv]).length = ys.length + 1 := by simp
            rw [e8]
            have o8 : OutP X.K (fun c x H' => W c x σ H') ω1 H1 (((compD b dt de (wipeR ρ vs) (xs.drop (i + 1)) (ys.length + 1) S7).then fun zs S3 => .ok (yv :: zs) S3).then fun zs S2 => .ok (PV.lst (ys ++ zs)) S2) _ := o7
            rw [then_assoc] at o8
            simpa [then_ok] using o8
        · exact o7.elim
  · have hi' : i = xs.length := by omega
    subst hi'
    refine .inl ⟨w.stop _ _ S' H' rfl (s'.lat1 hD) t', ?_⟩
    rw [List.drop_length] at o'
    have o' : OutP X.K (fun c x H' => W c x σ H') ω1 H1 (.ok (PV.lst (ys ++ [])) S') _ := o'
    rw [List.append_nil] at o'
    exact o' H' ⟨ν, ω1.B⟩ s' t0 D _ hDw hD0 hDν t' ⟨ws, rfl, rw'⟩
section
variable {elt iter : Expr} {ifs : List Expr} {scope : Scope} {own : List (Str × Nat)} {us : List Nat} {b : Bd} {dt : DenT} {d : Den}
abbrev TsX (X : Cx) (ifs : List Expr) (dt : DenT) : Prop := PTs X ifs (tXT X.K W0 dt)
theorem _root_.L2.PTs.imp {X : Cx} {es : List Expr} {t t' : TT} (h : PTs X es t) (i : ∀ σ H Q, t' σ H Q → t σ H Q) : PTs X es t' := ⟨fun pins s σ H Q I q => h.run pins s σ H Q I (i σ H Q q)⟩
theorem ts_nil : TsX X [] dYes := pts_nil.imp fun σ H Q ⟨ω, S, ρ, f, o⟩ => o H ω .refl f.1
theorem ts_one {c : Expr} (h : BX X W0 c dt) : TsX X [c] dt := pts_one h
theorem ef_lc (hc : X.calm = true) (hN : X.N.Nodup) (hi : IX X W tg iter ds) (ok : BlkOk X.N X.env.scope scope own) (hu : ∀ j, j ∈ us → j ∈ own.map (·.2))
    (hg : ∀ (s : Shared) (H : Hp) (C : Addr) (cl : List (Str × Addr)) (fp : List Addr), GX (X.blk s H scope (compEnvC scope cl C X.env) fp) tg b us)
    (ht : ∀ (s : Shared) (H : Hp) (C : Addr) (cl : List (Str × Addr)) (fp : List Addr), TsX (X.blk s H scope (compEnvC scope cl C X.env) fp) ifs dt)
    (he : ∀ (s : Shared) (H : Hp) (C : Addr) (cl : List (Str × Addr)) (fp : List Addr), EX (X.blk s H scope (compEnvC scope cl C X.env) fp) W0 elt de) (hs : ∀ x, foldedSetIterable iter X.env x = pure x := by intro _; rfl) :
    EF X W (.ListComp elt [⟨tg, iter, ifs, 0⟩] scope pos) (dLc ds (own.map (·.2)) b dt de) :=
  (pe_lc hc hN hi ok hg ht he hs).imp fun _ _ _ h => lc_P (us := us) hu (fun _ _ _ q => q) (fun _ _ _ _ q => q) (fun _ _ _ q => q) (fun _ _ _ q => q) h
theorem sx_setLcV {i : Nat} {y : Str} {py spos : Pos} (hd : ∀ σ H Q, tX X.K W d σ H Q → tXF X.K W (dLc ds (own.map (·.2)) b dt de) σ H Q) (hc : X.calm = true) (hN : X.N.Nodup) (hy : X.N[i]? = some y) (hyl : X.env.scope.names.lookup y = some .local)
    (hsw : swapsWith (.ListComp elt [⟨tg, iter, ifs, 0⟩] scope pos) (some (.Name y py)) spos.line X.env = pure true) (hi : IX X W tg iter ds) (ok : BlkOk X.N X.env.scope scope own) (hu : ∀ j, j ∈ us → j ∈ own.map (·.2))
    (hg : ∀ (s : Shared) (H : Hp) (C : Addr) (cl : List (Str × Addr)) (fp : List Addr), GX (X.blk s H scope (compEnvC scope cl C X.env) fp) tg b us)
    (ht : ∀ (s : Shared) (H : Hp) (C : Addr) (cl : List (Str × Addr)) (fp : List Addr), TsX (X.blk s H scope (compEnvC scope cl C X.env) fp) ifs dt)
    (he : ∀ (s : Shared) (H : Hp) (C : Addr) (cl : List (Str × Addr)) (fp : List Addr), EX (X.blk s H scope (compEnvC scope cl C X.env) fp) W0 elt de) (hs : ∀ x, foldedSetIterable iter X.env x = pure x := by intro _; rfl) :
    SX X W (.Assign [.Name y py] (.ListComp elt [⟨tg, iter, ifs, 0⟩] scope pos) spos) (sAsg d (bN i)) :=
  (ps_setLc hc hN hy hyl hsw hi ok hg ht he hs).imp fun D σ H h => by
    have h1 : tAsg (tX X.K W d) (gName i) D σ H := asg_P (vs := [i]) (fun v σ H Q ⟨ω, S, ρ, y, ρ', f, r, e, k⟩ => by
      cases e
      refine k _ ⟨by simp, fun j hj => ?_⟩ ⟨f.1, f.2.set r⟩
      rw [List.getElem?_set_ne]
      intro z
      exact hj (by simp [z])) h
    exact lc_P (us := us) hu (fun _ _ _ q => q) (fun _ _ _ _ q => q) (fun _ _ _ q => q) (fun _ _ _ q => q) (hd _ _ _ h1)
/-- name = [..], a value; a cell -/
theorem sx_setLc {i : Nat} {y : Str} {py spos : Pos} (hc : X.calm = true) (hN : X.N.Nodup) (hy : X.N[i]? = some y) (hyl : X.env.scope.names.lookup y = some .local)
    (hsw : swapsWith (.ListComp elt [⟨tg, iter, ifs, 0⟩] scope pos) (some (.Name y py)) spos.line X.env = pure true) (hi : IX X W tg iter ds) (ok : BlkOk X.N X.env.scope scope own) (hu : ∀ j, j ∈ us → j ∈ own.map (·.2))
    (hg : ∀ (s : Shared) (H : Hp) (C : Addr) (cl : List (Str × Addr)) (fp : List Addr), GX (X.blk s H scope (compEnvC scope cl C X.env) fp) tg b us)
    (ht : ∀ (s : Shared) (H : Hp) (C : Addr) (cl : List (Str × Addr)) (fp : List Addr), TsX (X.blk s H scope (compEnvC scope cl C X.env) fp) ifs dt)
    (he : ∀ (s : Shared) (H : Hp) (C : Addr) (cl : List (Str × Addr)) (fp : List Addr), EX (X.blk s H scope (compEnvC scope cl C X.env) fp) W0 elt de) (hs : ∀ x, foldedSetIterable iter X.env x = pure x := by intro _; rfl) :
    SX X W (.Assign [.Name y py] (.ListComp elt [⟨tg, iter, ifs, 0⟩] scope pos) spos) (sAsg (dLc ds (own.map (·.2)) b dt de) (bN i)) := sx_setLcV (us := us) (fun _ _ _ => f_P) hc hN hy hyl hsw hi ok hu hg ht he hs
theorem sx_setLcC {i : Nat} {y : Str} {py spos : Pos} (hc : X.calm = true) (hN : X.N.Nodup) (hy : X.N[i]? = some y) (hyl : X.env.scope.names.lookup y = some .local)
    (hsw : swapsWith (.ListComp elt [⟨tg, iter, ifs, 0⟩] scope pos) (some (.Name y py)) spos.line X.env = pure true) (hi : IX X W tg iter ds) (ok : BlkOk X.N X.env.scope scope own) (hu : ∀ j, j ∈ us → j ∈ own.map (·.2))
    (hg : ∀ (s : Shared) (H : Hp) (C : Addr) (cl : List (Str × Addr)) (fp : List Addr), GX (X.blk s H scope (compEnvC scope cl C X.env) fp) tg b us)
    (ht : ∀ (s : Shared) (H : Hp) (C : Addr) (cl : List (Str × Addr)) (fp : List Addr), TsX (X.blk s H scope (compEnvC scope cl C X.env) fp) ifs dt)
    (he : ∀ (s : Shared) (H : Hp) (C : Addr) (cl : List (Str × Addr)) (fp : List Addr), EX (X.blk s H scope (compEnvC scope cl C X.env) fp) W0 elt de) (hs : ∀ x, foldedSetIterable iter X.env x = pure x := by intro _; rfl) :
    SX X W (.Assign [.Name y py] (.ListComp elt [⟨tg, iter, ifs, 0⟩] scope pos) spos) (sAsg (dCell (dLc ds (own.map (·.2)) b dt de)) (bN i)) := sx_setLcV (us := us) (fun _ _ _ => cell_P) hc hN hy hyl hsw hi ok hu hg ht he hs
end
end
/-! ### defs -/
/-- what a def is worth -/
abbrev FDen := List PV → M PV
@[simp] def callD (N n : Nat) (body : SDen) : FDen := fun ps S => if ps.length = n then
    match body (ps.map some ++ List.replicate (N - n) none) S with
    | .nx _ S' => .ok .non S'
    | .rt v S' => .ok v S'
    | .exc x _ S' => .exc x S'
    | _ => .stuck
  else .stuck
def spF (K : PySem.W.Frag) (n : Nat) (F : FDen) : Sp := fun vs H Q E => vs.length = n ∧ ∃ ω S ps, StR K ω S H ∧ RpL K H ω ps vs ∧ OutP K E ω H (F ps S) fun r S' H' ω' => ∀ v, Rp K H' ω' r v → Q v H'
structure Fn (P : Program) (w : World) (K : PySem.W.Frag) (mg : Str → Option Value) (base : Heap) (k : Nat) (x : Str) (n : Nat) (ds : List PV) (F : FDen) : Prop where
  ex : ∃ (f : Addr) (fd : FuncData) (ps : List Str) (dvs : List V) (dus : List Value), FnOk P w K mg base (L2.CX P w) k f fd ps (spF K n F) ∧ mg x = some (.ref f) ∧ PySem.W.keepIn K (.ref f) = true ∧ Binds K fd ps dus ∧ Vals dvs dus ∧
    (∀ H ω, RpL K H ω ds dvs) ∧ ∀ qs S, F qs S ≠ .stuck → qs.length = n
theorem OutP.ns {α : Type} {K : PySem.W.Frag} {E : XK} {ω : Ad} {H : Hp} {o : Out α} {Q : α → Store → Hp → Ad → Prop} (h : OutP K E ω H o Q) : o ≠ .stuck := by
  rintro rfl
  exact h
section
variable {X : Cx} {W : WX} {e : Expr} {es : List Expr} {das : DenA} {pos p : Pos} {x : Str} {k n : Nat} {ds : List PV} {F : FDen}
@[simp] def dFn (F : FDen) (ds : List PV) (das : DenA) : Den := fun ρ S => (das ρ S).then fun xs S1 => F (xs ++ ds) S1
theorem passAt' (tk : Takes X W) (σ : L2.St) : PassesAt (L2.CX X.prog X.w) X σ (fun c d H' => W c d σ H') := fun pins H s e s' I c => tk e s' (XE.of_call I (fun cls d H' h => h) c)
theorem ex_call (G : Fn X.prog X.w X.K X.mg X.base k x n ds F) (hr : Room k X.A) (tk : Takes X W) (hg : Gl X x) (ha : AX X W (e :: es) das) (hdb : (x == ("__debug__" : Str)) = false := by decide)
    (he : starEach (e :: es) X.env = (false, eval e X.env) :: starEach es X.env := by rfl) (hpl : (backTo pos (starEach es X.env)).any (·.1) = false := by rfl) : EX X W (.Call (.Name x p) (e :: es) [] pos) (dFn F ds das) := by
  obtain ⟨f, fd, ps, dvs, dus, G, hm, hk, hb, hd, hds, hl⟩ := G.ex
  refine (pe_callSD (E := fun σ c d H' => W c d σ H') G hr hg hm hk hb hd (passAt' tk) ha hdb he hpl).imp fun σ H Q ⟨ω, S, ρ, f, o⟩ => ⟨ω, S, ρ, f, (OutP.bind o).imp fun xs S1 H1 ω1 s1 t1 o1 vs rvs => ?_⟩
  have r2 := rvs.append (hds H1 ω1)
  exact ⟨by rw [← r2.length]; exact hl _ _ o1.ns, ω1, S1, _, t1, r2, o1⟩
end
section
variable {P : Program} {w : World} {K : PySem.W.Frag} {mg : Str → Option Value} {base : Heap}
theorem start_env {ω : Ad} {H : Hp} {S : Store} {ps : List PV} {vs : List V} (N : List Str) (t : StR K ω S H) (r : RpL K H ω ps vs) (n : Nat) (hn : ps.length = n) :
    From K (ps.map some ++ List.replicate (N.length - n) none) S ω (L2.start N vs) H := by
  subst hn
  refine ⟨t, by simp [L2.start, r.length], fun i x e => ?_⟩
  by_cases hi : i < ps.length
  · rw [List.getElem?_append_left (by simpa using hi), List.getElem?_map, List.getElem?_eq_getElem hi] at e
    simp at e
    subst e
    obtain ⟨v, h1, h2⟩ := r.get (List.getElem?_eq_getElem hi)
    refine ⟨v, ?_, h2⟩
    unfold L2.start
    have hv : i < vs.length := (List.getElem?_eq_some_iff.mp h1).1
    rw [List.getElem?_append_left (by simpa using hv), List.getElem?_map, h1]
    rfl
  · rw [List.getElem?_append_right (by simpa using hi), List.getElem?_replicate] at e
    split at e <;> cases e
/-- THE RULE for a def -/
theorem fn_ok {x qual : Str} {st : Stmt} {f : Addr} {fd : FuncData} {N ps : List Str} {k : Nat} {d : SDen} (G : L2.Fun K x qual st f fd) (S : FnScope N ps (defScope st))
    (body : ∀ (cdv : Value) (A : Around) (outer : List Env) (s : Shared) (H : Hp) (E : XK), Room k (A.deeper (PyProof.Rows.envOfC qual (defScope st) s.heap.objs.size f cdv)) →
      Takes (cxOf (L2.CX P w) P w K mg base N qual (defScope st) f cdv A outer s H E) (fun c d _ H' => E c d H') →
      SsX (cxOf (L2.CX P w) P w K mg base N qual (defScope st) f cdv A outer s H E) (fun c d _ H' => E c d H') (defBody st) d) : FnOk P w K mg base (L2.CX P w) (k + 1) f fd ps (spF K ps.length (callD N.length ps.length d)) := by
  refine G.okX S (fun vs H Q E h => h.1) fun cdv A outer s H vs Q E hr h => ?_
  obtain ⟨hl, ω, St, qs, t, r, o⟩ := h
  refine ⟨_, body cdv A outer s H E hr (takes_of rfl rfl rfl rfl), ω, St, _, start_env N t r ps.length (by rw [r.length]; exact hl), ?_⟩
  unfold callD at o
  rw [if_pos (by rw [r.length]; exact hl)] at o
  revert o
  show OutP K E ω H (match d (qs.map some ++ List.replicate (N.length - ps.length) none) St with
    | .nx _ S' => .ok .non S'
    | .rt v S' => .ok v S'
    | .exc x _ S' => .exc x S'
    | _ => .stuck) _ → _
  cases d (qs.map some ++ List.replicate (N.length - ps.length) none) St with
  | nx ρ S' => exact fun o σ H' ω' s f => o H' ω' s f.1 .non rfl
  | rt v S' => exact fun o u H' ω' s t r => o H' ω' s t u r
  | exc x ρ S' => exact fun o σ d H' ω' s f e => o d H' ω' s f.1 e
  | bk ρ S' => exact fun o => o.elim
  | ct ρ S' => exact fun o => o.elim
  | stuck => exact fun o => o.elim
theorem callD_len {N n : Nat} {d : SDen} : ∀ qs S, callD N n d qs S ≠ .stuck → qs.length = n := fun qs S h => by
  unfold callD at h
  split at h
  · assumption
  · exact absurd rfl h
theorem fn_mk' {x qual : Str} {st : Stmt} {f : Addr} {fd : FuncData} {N ps : List Str} {k : Nat} {d : SDen} (G : L2.Fun K x qual st f fd) (S : FnScope N ps (defScope st)) (hm : mg x = some (.ref f)) (hb : Binds K fd ps [])
    (body : ∀ (cdv : Value) (A : Around) (outer : List Env) (s : Shared) (H : Hp) (E : XK), Room k (A.deeper (PyProof.Rows.envOfC qual (defScope st) s.heap.objs.size f cdv)) →
      Takes (cxOf (L2.CX P w) P w K mg base N qual (defScope st) f cdv A outer s H E) (fun c d _ H' => E c d H') →
      SsX (cxOf (L2.CX P w) P w K mg base N qual (defScope st) f cdv A outer s H E) (fun c d _ H' => E c d H') (defBody st) d) : Fn P w K mg base (k + 1) x ps.length [] (callD N.length ps.length d) :=
  ⟨⟨f, fd, ps, [], [], fn_ok G S body, hm, G.kp, hb, .nil, fun _ _ => rfl, callD_len⟩⟩
theorem fn_ok' {x qual : Str} {st : Stmt} {f : Addr} {fd : FuncData} {N ps : List Str} {k m n : Nat} {d : SDen} (G : L2.Fun K x qual st f fd) (S : FnScope N ps (defScope st)) (hm : N.length = m) (hn : ps.length = n)
    (body : ∀ (cdv : Value) (A : Around) (outer : List Env) (s : Shared) (H : Hp) (E : XK), Room k (A.deeper (PyProof.Rows.envOfC qual (defScope st) s.heap.objs.size f cdv)) →
      Takes (cxOf (L2.CX P w) P w K mg base N qual (defScope st) f cdv A outer s H E) (fun c d _ H' => E c d H') →
      SsX (cxOf (L2.CX P w) P w K mg base N qual (defScope st) f cdv A outer s H E) (fun c d _ H' => E c d H') (defBody st) d) : FnOk P w K mg base (L2.CX P w) (k + 1) f fd ps (spF K n (callD m n d)) := by
  subst hm hn
  exact fn_ok G S body
end
end Pv

namespace Pv
open PySem PySem.Spec L2
theorem bt_len : bootBuiltins "len" = some (.builtin "len") := by first | exact PyProof.Rows.boot_len | exact PySem.boot_len | decide +kernel
theorem bt_abs : bootBuiltins "abs" = some (.builtin "abs") := by first | exact PyProof.Rows.boot_abs | exact PySem.boot_abs | decide +kernel
theorem bt_max : bootBuiltins "max" = some (.builtin "max") := by first | exact PyProof.Rows.boot_max | exact PySem.boot_max | decide +kernel
theorem bt_min : bootBuiltins "min" = some (.builtin "min") := by first | exact PyProof.Rows.boot_min | exact PySem.boot_min | decide +kernel
theorem bt_all : bootBuiltins "all" = some (.builtin "all") := by first | exact PyProof.Rows.boot_all | exact PySem.boot_all | decide +kernel
theorem bt_any : bootBuiltins "any" = some (.builtin "any") := by first | exact PyProof.Rows.boot_any | exact PySem.boot_any | decide +kernel
theorem bt_repr : bootBuiltins "repr" = some (.builtin "repr") := by first | exact PyProof.Rows.boot_repr | exact PySem.boot_repr | decide +kernel
theorem bt_isinstance : bootBuiltins "isinstance" = some (.builtin "isinstance") := by first | exact PyProof.Rows.boot_isinstance | exact PySem.boot_isinstance | decide +kernel
theorem bt_sorted : bootBuiltins "sorted" = some (.builtin "sorted") := by first | exact PyProof.Rows.boot_sorted | exact PySem.boot_sorted | decide +kernel
theorem bt_sum : bootBuiltins "sum" = some (.builtin "sum") := by first | exact PyProof.Rows.boot_sum | exact PySem.boot_sum | decide +kernel
theorem bt_iter : bootBuiltins "iter" = some (.builtin "iter") := by first | exact PyProof.Rows.boot_iter | exact PySem.boot_iter | decide +kernel
theorem bt_next : bootBuiltins "next" = some (.builtin "next") := by first | exact PyProof.Rows.boot_next | exact PySem.boot_next | decide +kernel
theorem bt_int : bootBuiltins "int" = some (.type "int") := by first | exact PyProof.Rows.boot_int | exact PySem.boot_int | decide +kernel
theorem bt_str : bootBuiltins "str" = some (.type "str") := by first | exact PyProof.Rows.boot_str | exact PySem.boot_str | decide +kernel
theorem bt_bool : bootBuiltins "bool" = some (.type "bool") := by first | exact PyProof.Rows.boot_bool | exact PySem.boot_bool | decide +kernel
theorem bt_list : bootBuiltins "list" = some (.type "list") := by first | exact PyProof.Rows.boot_list | exact PySem.boot_list | decide +kernel
theorem bt_tuple : bootBuiltins "tuple" = some (.type "tuple") := by first | exact PyProof.Rows.boot_tuple | exact PySem.boot_tuple | decide +kernel
theorem bt_dict : bootBuiltins "dict" = some (.type "dict") := by first | exact PyProof.Rows.boot_dict | exact PySem.boot_dict | decide +kernel
theorem bt_set : bootBuiltins "set" = some (.type "set") := by first | exact PyProof.Rows.boot_set | exact PySem.boot_set | decide +kernel
theorem bt_range : bootBuiltins "range" = some (.type "range") := by first | exact PyProof.Rows.boot_range | exact PySem.boot_range | decide +kernel
theorem bt_zip : bootBuiltins "zip" = some (.type "zip") := by first | exact PyProof.Rows.boot_zip | exact PySem.boot_zip | decide +kernel
theorem bt_enumerate : bootBuiltins "enumerate" = some (.type "enumerate") := by first | exact PyProof.Rows.boot_enumerate | exact PySem.boot_enumerate | decide +kernel
section
variable {X : Cx} {W : WX} {a e : Expr} {da de : Den} {pos : Pos}
/-! ### more expressions -/
@[simp] def dNeg (d : Den) : Den := fun ρ S => (d ρ S).then fun x S1 => match x with
  | .int i => .ok (.int (-i)) S1
  | _ => .stuck
theorem ex_neg (ha : EX X W a da) : EX X W (.UnaryOp .USub a pos) (dNeg da) := (pe_un un_neg ha).imp fun σ H Q ⟨ω, S, ρ, f, o⟩ => ⟨ω, S, ρ, f, (OutP.bind o).imp fun x S1 H1 ω1 s1 t1 o1 v rv => by
  cases x with
  | int i => exact ⟨i, rv, o1 H1 ω1 .refl t1 _ rfl⟩
  | _ => exact o1.elim⟩
theorem ef_dict0 : EF X W (.Dict [] [] pos) (dK (.dct [])) := pe_dnewK.imp fun σ H Q ⟨ω, S, ρ, f, o⟩ p hp => o _ ω (new_stp hp) (open_str (new_str f.1 hp)) p _ upd_same hp (f.1.out hp).1 (new_str f.1 hp) (.inl ⟨[], rfl, rfl⟩)
theorem ef_dictT0 : EF X W (.Dict [] [] pos) (dK (.dct [])) := pe_dnewT.imp fun σ H Q ⟨ω, S, ρ, f, o⟩ p hp => o _ ω (new_stp hp) (open_str (new_str f.1 hp)) p _ upd_same hp (f.1.out hp).1 (new_str f.1 hp) (.inr ⟨[], rfl, rfl⟩)
end
/-! ### the law's end -/
theorem walk_law {l : PySem.W.OpenLaw} {q : Program} {loose : List Str} {XP : (Str → Option Value) → Heap → Prop} {YP : World → Heap → Prop} {d : DefRec} {K : Params → PySem.W.Frag} {k : Nat} {F : FDen} (hn : l.most = some 63) (hdf : d.params.defaults = []) (hr : Room k callerA)
    (hY : ∀ (w : World) (h : Heap), YP w h → (K w.params).In h) (hF : ∀ ns : List Int, ns.length ≤ 63 → ∃ S, F [.scr ns] [] = .ok (.bl true) S)
    (G : ∀ (w : World) (mg : Str → Option Value) (fa : Addr) (h : Heap), (K w.params).In h → h.Ns mainGlobals mg → mg d.name = some (.ref fa) →
      ∃ fd : FuncData, (∀ (s : Shared) (u : Value), BindsTo s fd ⟨[u], []⟩ [("script", u)]) ∧ ∀ base : Heap, (K w.params).In base → base.Ns mainGlobals mg → FnOk l.prog w (K w.params) mg base (L2.CX l.prog w) k fa fd ["script"] (spF (K w.params) 1 F)) :
    PySem.W.WalkO q loose XP YP l.row.toRowW d [] (fun f vs => PySem.call f vs) :=
  L2.walk_of (n := 63) (k := k) (x := "script") (CX := fun w => L2.CX l.prog w) (sp := fun w => spF (K w.params) 1 F) hn (by decide) hdf hr hY G
    (fun w H a ns hl ho hS => ⟨rfl, ⟨[], []⟩, [], [.scr ns], ⟨rfl, List.nodup_nil, (fun _ z => nomatch z), (fun _ z => nomatch z), (fun n c a e => by simp at e)⟩,
      ⟨_, _, rfl, ⟨a, rfl, hS.imp (fun z => ⟨z, (fun z => nomatch z), (fun z => nomatch z)⟩) _root_.id⟩, rfl⟩, by
        obtain ⟨S, e⟩ := hF ns hl
        rw [e]
        exact fun H' ω' s t v r => r⟩) fun w H s e s' ⟨_, _, _, _, _, _, _, _, _, _, _, _, z⟩ => z
end Pv
namespace Pv
open PySem PySem.Spec L2
section
variable {X : Cx} {W : WX} {tg e : Expr} {te : TE} {de : Den} {pos : Pos} {x : Str}
/-- over a list, a tuple, a text, as it comes -/
def iAny (K : PySem.W.Frag) (tl : TE) : TI := fun σ H R => tl σ H fun x H1 => (∃ a xs, x = .ref a ∧ SqL K H1 a xs ∧ R (Itl K a) H1) ∨ (∃ a xs, x = .ref a ∧ SqT K H1 a xs ∧ R (Itt K a) H1) ∨ ∃ z, x = .str z ∧ R (Its z) H1
theorem pi_any {tl : TE} (hl : PE X e tl) : PI X tg e (iAny X.K tl) := by
  refine ⟨fun pins s σ H R I h => ?_⟩
  refine thn (hl.run pins s σ H _ I h) fun v s1 ⟨x, H1, I1, r1, q1⟩ => ?_
  rcases q1 with ⟨a, xs, e, hq, q⟩ | ⟨a, xs, e, hq, q⟩ | ⟨z, e, q⟩
  · subst e
    cases r1
    obtain ⟨its, rv, p, hz⟩ := I1.list hq
    refine wpAny_pyIter_list p.isList ?_
    refine ⟨s1.heap.objs.size, [s1.heap.objs.size], _, _, H1, rfl, I1.kept (t' := s1.toks) fun b o e => Heap.get?_push_of_some _ e, turn_list a _, ⟨_, Heap.get?_push_size _ rfl, rfl, rfl⟩, fun b hb => ?_, q⟩
    have e : b = s1.heap.objs.size := by simpa using hb
    subst e
    exact I1.fpOk (Nat.le_refl _) (I1.hok.fresh (Nat.le_refl _))
  · subst e
    cases r1
    obtain ⟨its, rv, p, hz⟩ := I1.tuple hq
    refine wpAny_pyIter_tuple (show s1.heap.IsTuple a its.toArray from p) ?_
    refine ⟨s1.heap.objs.size, [s1.heap.objs.size], _, _, H1, rfl, I1.kept (t' := s1.toks) fun b o e => Heap.get?_push_of_some _ e, turn_tuple a _, ⟨_, Heap.get?_push_size _ rfl, rfl, rfl⟩, fun b hb => ?_, q⟩
    have e : b = s1.heap.objs.size := by simpa using hb
    subst e
    exact I1.fpOk (Nat.le_refl _) (I1.hok.fresh (Nat.le_refl _))
  · subst e
    obtain ⟨t, rfl⟩ := r1
    cases ha : z.cps.all (· < 128)
    · exact wpAny_pyIter_wide ha (pi_one (tk := s1.toks) I1 _ (turn_str _ z t "str_iterator" (.inr rfl)) ⟨_, Heap.get?_push_size _ rfl, rfl, rfl⟩ q)
    · exact wpAny_pyIter_ascii ha (pi_one (tk := s1.toks) I1 _ (turn_str _ z t "str_ascii_iterator" (.inl rfl)) ⟨_, Heap.get?_push_size _ rfl, rfl, rfl⟩ q)
@[simp] def iA (d : Den) : DenA := fun ρ S => (d ρ S).then fun x S1 => match x with
  | .lst xs => .ok xs S1
  | .tup xs => .ok xs S1
  | .str z => .ok (z.cps.toList.map fun c => .str ⟨#[c]⟩) S1
  | _ => .stuck
theorem ix_a (he : EX X W e de) : IX X W tg e (iA de) := (pi_any he).imp fun σ H R ⟨ω, S, ρ, f, o⟩ => ⟨ω, S, ρ, f, (OutP.bind o).imp fun x S1 H1 ω1 s1 t1 o1 v rv => by
  split at o1
  · obtain ⟨a, vs, rfl, h, f', r⟩ := rv
    exact .inl ⟨a, vs, rfl, .of h, o1 H1 ω1 .refl t1 _ (walks_list h f' r)⟩
  · obtain ⟨a, vs, rfl, h, r⟩ := rv
    exact .inr (.inl ⟨a, vs, rfl, h.imp (fun z => .inl z.1) _root_.id, o1 H1 ω1 .refl t1 _ (walks_tup h r)⟩)
  · rename_i z
    exact .inr (.inr ⟨z, rv, o1 H1 ω1 .refl t1 _ walks_str⟩)
  · exact o1.elim⟩
theorem ex_globI {i : Int} (hg : Gl X x) (h : ∃ t, X.mg x = some (.int i t)) (hd : (x == ("__debug__" : Str)) = false := by decide) : EX X W (.Name x pos) (dK (.int i)) := by
  obtain ⟨t, h⟩ := h
  exact ex_glob (w := .int i) hg h ⟨t, rfl⟩ (fun _ _ => rfl) hd
theorem ex_globS {z : Str} (hg : Gl X x) (h : ∃ t, X.mg x = some (.str z t)) (hd : (x == ("__debug__" : Str)) = false := by decide) : EX X W (.Name x pos) (dK (.str z)) := by
  obtain ⟨t, h⟩ := h
  exact ex_glob (w := .str z) hg h ⟨t, rfl⟩ (fun _ _ => rfl) hd
theorem hu65 {A : Around} {k : Nat} (hr : Room k A) : A.units + 65 < cLine := by have := hr.un; omega
end
end Pv

namespace Pv
open PySem PySem.Spec L2
/-! ### loops and comprehensions, told -/
theorem forD_inv {b : Bd} {body : SDen} (P : Nat → PEnv → Store → Prop) : ∀ (xs : List PV) (i : Nat) (ρ : PEnv) (S : Store), P i ρ S →
    (∀ (j : Nat) (x : PV) (ρ : PEnv) (S : Store), xs[j]? = some x → P (i + j) ρ S → ∃ ρ1, b x ρ = some ρ1 ∧ ∃ ρ2 S2, (body ρ1 S = .nx ρ2 S2 ∨ body ρ1 S = .ct ρ2 S2) ∧ P (i + j + 1) ρ2 S2) →
    ∃ ρ' S', forD b body xs ρ S = .nx ρ' S' ∧ P (i + xs.length) ρ' S'
  | [], i, ρ, S, h, _ => ⟨ρ, S, rfl, h⟩
  | x :: xs, i, ρ, S, h, hs => by
    obtain ⟨ρ1, hb, ρ2, S2, e, p⟩ := hs 0 x ρ S rfl h
    obtain ⟨ρ', S', e', p'⟩ := forD_inv P xs (i + 1) ρ2 S2 p fun j y ρ S hy q => by
      have := hs (j + 1) y ρ S (by simpa using hy) (by rw [show i + (j + 1) = i + 1 + j by omega]; exact q)
      rw [show i + (j + 1) + 1 = i + 1 + j + 1 by omega] at this
      exact this
    refine ⟨ρ', S', ?_, by rw [show i + (x :: xs).length = i + 1 + xs.length by simp; omega]; exact p'⟩
    rcases e with e | e <;> simp [forD, hb, e, e']
theorem compD_inv {b : Bd} {test : DenT} {elt : Den} {ρ : PEnv} (P : Nat → List PV → Store → Prop) : ∀ (xs : List PV) (i n : Nat) (acc : List PV) (S : Store), P i acc S → acc.length = n → n + xs.length ≤ sizeLine →
    (∀ (j : Nat) (x : PV) (acc : List PV) (S : Store), xs[j]? = some x → P (i + j) acc S → ∃ ρ1, b x ρ = some ρ1 ∧ ∃ k S1, test ρ1 S = .ok k S1 ∧ if k = true then ∃ y S2, elt ρ1 S1 = .ok y S2 ∧ P (i + j + 1) (acc ++ [y]) S2 else P (i + j + 1) acc S1) →
    ∃ ys S', compD b test elt ρ xs n S = .ok ys S' ∧ P (i + xs.length) (acc ++ ys) S'
  | [], i, n, acc, S, h, _, _, _ => ⟨[], S, rfl, by simpa using h⟩
  | x :: xs, i, n, acc, S, h, hl, hz, hs => by
    obtain ⟨ρ1, hb, k, S1, e, q⟩ := hs 0 x acc S rfl h
    have step : ∀ (j : Nat) (y : PV) (acc : List PV) (S : Store), xs[j]? = some y → P (i + 1 + j) acc S → ∃ ρ1, b y ρ = some ρ1 ∧ ∃ k S1, test ρ1 S = .ok k S1 ∧ if k = true then ∃ z S2, elt ρ1 S1 = .ok z S2 ∧ P (i + 1 + j + 1) (acc ++ [z]) S2 else P (i + 1 + j + 1) acc S1 := fun j y acc S hy q => by
      have := hs (j + 1) y acc S (by simpa using hy) (by rw [show i + (j + 1) = i + 1 + j by omega]; exact q)
      rw [show i + (j + 1) + 1 = i + 1 + j + 1 by omega] at this
      exact this
    have el : i + (x :: xs).length = i + 1 + xs.length := by simp; omega
    simp at hz
    cases k with
    | false =>
      obtain ⟨ys, S', e', p'⟩ := compD_inv P xs (i + 1) n acc S1 (by simpa using q) hl (by omega) step
      exact ⟨ys, S', by simp [compD, hb, e, e'], by rw [el]; exact p'⟩
    | true =>
      simp at q
      obtain ⟨y, S2, e2, p2⟩ := q
      obtain ⟨ys, S', e', p'⟩ := compD_inv P xs (i + 1) (n + 1) (acc ++ [y]) S2 p2 (by simp [hl]) (by omega) step
      have hn : n < sizeLine := by omega
      exact ⟨y :: ys, S', by simp [compD, hb, e, e2, hn, e'], by rw [el]; simpa using p'⟩
/-- one that changes nothing -/
theorem compD_map {b : Bd} {test : DenT} {elt : Den} {ρ : PEnv} {S : Store} (p : PV → Bool) (f : PV → PV) : ∀ (xs : List PV) (n : Nat), n + xs.length ≤ sizeLine →
    (∀ x ∈ xs, ∃ ρ1, b x ρ = some ρ1 ∧ test ρ1 S = .ok (p x) S ∧ (p x = true → elt ρ1 S = .ok (f x) S)) → compD b test elt ρ xs n S = .ok ((xs.filter p).map f) S
  | [], _, _, _ => rfl
  | x :: xs, n, hz, hs => by
    obtain ⟨ρ1, hb, e, q⟩ := hs x List.mem_cons_self
    simp at hz
    cases hp : p x with
    | false =>
      have ih := compD_map p f xs n (by omega) fun y hy => hs y (List.mem_cons_of_mem _ hy)
      simp [compD, hb, e, hp, ih]
    | true =>
      have ih := compD_map p f xs (n + 1) (by omega) fun y hy => hs y (List.mem_cons_of_mem _ hy)
      have hn : n < sizeLine := by omega
      simp [compD, hb, e, hp, q hp, hn, ih]
theorem nums_length (lo : Int) (n : Nat) : (nums lo n).length = n := by simp [nums]
theorem nums_get {lo : Int} {n i : Nat} {x : PV} (h : (nums lo n)[i]? = some x) : x = .int (lo + (i : Nat)) ∧ i < n := by
  have hi : i < n := by simpa [nums] using (List.getElem?_eq_some_iff.mp h).1
  simp [nums, hi] at h
  exact ⟨h.symm, hi⟩
theorem atI_of {α : Type} {xs : List α} {k : Int} (h0 : 0 ≤ k) (h : k < xs.length) : ∃ x, L2.atI xs k = some x ∧ x ∈ xs ∧ xs[k.toNat]? = some x := by
  have hk : k.toNat < xs.length := by omega
  refine ⟨xs[k.toNat], ?_, List.getElem_mem hk, List.getElem?_eq_getElem hk⟩
  simp [L2.atI, ixN, h0, h, hk]
theorem seqIndex_of {n : Nat} {k : Int} (h0 : 0 ≤ k) (h : k < n) : seqIndex? k n = some k.toNat := (L2.ixN_seq (by simp [ixN, h0, h])).1
@[simp] theorem sz_le {n : Nat} (h : n ≤ 1048576) : (n ≤ sizeLine) = True := by
  have : (1048576 : Nat) ≤ sizeLine := by rw [sizeLine_eq]; decide
  simp; omega
@[simp] theorem sz_lt {n : Nat} (h : n < 1048576) : (n < sizeLine) = True := by
  have : (1048576 : Nat) ≤ sizeLine := by rw [sizeLine_eq]; decide
  simp; omega
@[simp] theorem dEq_pv (S : Store) (x y : PV) : dEq S x y = pvEq 60 (look S x) (look S y) := rfl
@[simp] theorem pvEq_lst (n : Nat) (xs ys : List PV) : pvEq (n + 1) (.lst xs) (.lst ys) = if xs.length = ys.length then allEq (pvEq n) xs ys else some false := rfl
@[simp] theorem pvEq_tup (n : Nat) (xs ys : List PV) : pvEq (n + 1) (.tup xs) (.tup ys) = (allEq (pvEq n) xs ys).map (· && xs.length == ys.length) := rfl
@[simp] theorem pvEq_str (n : Nat) (x y : Str) : pvEq n (.str x) (.str y) = some (x == y) := by cases n <;> rfl
@[simp] theorem pvEq_int (n : Nat) (x y : Int) : pvEq n (.int x) (.int y) = some (x == y) := by cases n <;> rfl
@[simp] theorem pvEq_bl (n : Nat) (x y : Bool) : pvEq n (.bl x) (.bl y) = some (x == y) := by cases n <;> rfl
@[simp] theorem pvEq_non (n : Nat) : pvEq n .non .non = some true := by cases n <;> rfl
@[simp] theorem pvEq_bi (n : Nat) (a : Bool) (j : Int) : pvEq n (.bl a) (.int j) = some ((if a then 1 else 0) == j) := by cases n <;> rfl
@[simp] theorem pvEq_ib (n : Nat) (a : Bool) (j : Int) : pvEq n (.int j) (.bl a) = some (j == (if a then 1 else 0)) := by cases n <;> rfl
@[simp] theorem allEq_cons (f : PV → PV → Option Bool) (x y : PV) (xs ys : List PV) : allEq f (x :: xs) (y :: ys) = (match f x y, allEq f xs ys with | some a, some b => some (a && b) | _, _ => none) := rfl
@[simp] theorem allEq_nil (f : PV → PV → Option Bool) : allEq f [] [] = some true := rfl
end Pv

/-! defs that tell values as texts: no text of a value is being made around them -/
namespace Pv
open PySem PySem.Spec L2 PyProof.Rows
/-- a def's promise where nothing around is telling a value -/
structure FnG (P : Program) (w : World) (K : PySem.W.Frag) (mg : Str → Option Value) (base : Heap) (k : Nat) (f : Addr) (fd : FuncData) (ps : List Str) (sp : Sp) : Prop where
  arity : ∀ vs H Q E, sp vs H Q E → vs.length = ps.length
  runs : ∀ (A : Around) (out : List Env) (s : Shared) (H : Hp) (args : Args) (us : List Value) (vs : List V) (Q : VK) (E : XK), A.guards = some [] → Room k A → Env0 P w K mg base A out s H →
    BindsTo s fd args (ps.zip us) → Vals vs us → sp vs H Q E → codeAny (model P w) A (.call (.ref f) args) (CR (L2.CX P w) out P w H s Q E) s
section
variable {P : Program} {w : World} {K : PySem.W.Frag} {mg : Str → Option Value} {base : Heap} {k : Nat} {f : Addr} {fd : FuncData} {ps : List Str} {sp : Sp}
theorem FnG.of_ok (F : FnOk P w K mg base (L2.CX P w) k f fd ps sp) : FnG P w K mg base k f fd ps sp := ⟨F.len, fun A out s H args us vs Q E _ => F.run A out s H args us vs Q E⟩
theorem fnG_of {N : List Str} {x qual : Str} {st : Stmt} (G : L2.Fun K x qual st f fd) (sc : FnScope N ps (defScope st)) (ar : ∀ vs H Q E, sp vs H Q E → vs.length = ps.length)
    (body : ∀ (cdv : Value) (A : Around) (out : List Env) (s : Shared) (H : Hp) (vs : List V) (Q : VK) (E : XK), A.guards = some [] → Room k (A.deeper (envOfC qual (defScope st) s.heap.objs.size f cdv)) → sp vs H Q E →
      ∃ t, PSs (cxOf (L2.CX P w) P w K mg base N qual (defScope st) f cdv A out s H E) (defBody st) t ∧ t { nx := fun _ H' => Q .non H', rt := Q } (start N vs) H) : FnG P w K mg base (k + 1) f fd ps sp := by
  obtain ⟨oc, od, kV, doc, pm, an, cdv, ct, osl, rfl, found, code⟩ := G.ex
  refine ⟨ar, fun A out s H args us vs Q E gd room e0 bound rel want => ?_⟩
  have inK : K.In s.heap := e0.mod.kin.keeps fun b o z => (e0.bs b o z).1
  have noL : s.heap.NoLimit := e0.mod.nolimit.keeps fun b o z => (e0.bs b o z).1
  have place : ∀ y ∈ ps.zip us, (defScope st).names.lookup y.1 = some .local ∨ ((defScope st).names.lookup y.1 = some .cell ∧ ((cellsFrom (s.heap.objs.size + 1) (defScope st).names []).lookup y.1).isSome = true) := by
    rintro ⟨n, v⟩ mem
    have := sc.par n (List.of_mem_zip mem).1
    exact this.imp id fun z => ⟨z, PySem.W.cellsFrom_some _ _ _ (.inl z)⟩
  apply codeAny_call_function room.depth (inK _ _ found) rfl sc.co sc.gen rfl (PySem.W.codeRec_of inK code) (bound _ _ _ _ ?_)
  apply wpAny_newFunctionEnv_cells sc.kind place
  intro env ev s1 entry
  subst ev
  constructor
  · exact noL.keeps entry.toInCall.keep
  apply codeAny_func
  obtain ⟨t, run, goal⟩ := body cdv A out s H vs Q E gd (room.deeper _) want
  have inv := inv_start (CX := L2.CX P w) (mg := mg) (base := base) (E := E) (f := f) (cd := cdv) (qual := qual) sc room.hd e0 (ar _ _ _ _ want) rel entry
  apply wpAny_mono (run.run [] s1 (start N vs) H _ inv goal) _ (fun _ _ z => z)
  intro fl s2 res
  match fl, res with
  | .ret u, ⟨v, σ2, H2, J, rv, q⟩ => exact ⟨v, H2, J.os, J.bare, J.base, J.hok, rv, q⟩
  | .next, ⟨σ2, H2, J, q⟩ => exact ⟨V.non, H2, J.os, J.bare, J.base, J.hok, rfl, q⟩
  | .brk, ⟨_, _, _, q⟩ => exact q.elim
  | .cont, ⟨_, _, _, q⟩ => exact q.elim
end
section
variable {X : Cx} {k : Nat} {f : Addr} {fd : FuncData} {ps : List Str} {sp : Sp} {E : L2.St → XK} {t : TA} {x : Str} {p pos : Pos} {e : Expr} {es : List Expr}
theorem pe_callG (F : FnG X.prog X.w X.K X.mg X.base k f fd ps sp) (gd : X.A.guards = some []) (room : Room k X.A) (gl : Gl X x) (glob : X.mg x = some (.ref f)) (keep : PySem.W.keepIn X.K (.ref f) = true) (bs : Binds X.K fd ps [])
    (pass : ∀ σ, PassesAt (L2.CX X.prog X.w) X σ (E σ)) (args : PA X (e :: es) t) (nodbg : (x == ("__debug__" : Str)) = false) (h1 : starEach (e :: es) X.env = (false, eval e X.env) :: starEach es X.env) (h2 : (backTo pos (starEach es X.env)).any (·.1) = false) :
    PE X (.Call (.Name x p) (e :: es) [] pos) (fun σ H Q => t σ H fun vs H1 => sp vs H1 Q (E σ)) := by
  constructor
  intro pins s σ H Q inv h
  apply wpAny_Call_Name_kw
  apply ld_glob inv gl glob _ nodbg
  refine PySem.W.callWith_K (h₀ := X.base) inv.ok.mod.kin keep (thn (args.run pos pins s σ H _ inv h) fun us s1 ⟨vs, H1, inv1, rel, goal⟩ => ⟨inv1.kIn, ?_⟩) h1 h2
  have ar : (us ++ []).length = ps.length := by rw [List.append_nil, ← rel.length]; exact F.arity _ _ _ _ goal
  have bd := bs s1 us inv1.kIn ar
  rw [List.append_nil] at bd
  apply wpAny_call
  apply codeAny_mono (F.runs X.A X.stack s1 H1 ⟨us, []⟩ us vs Q (E σ) gd room inv1.env0 bd rel goal)
  intro r s2 q
  match r, q with
  | .error u, q => exact pass σ pins H1 s1 u s2 inv1 q
  | .ok (.ret u), q => exact inv1.after q
end
/-- a def of the text, over values, where nothing around is telling a value -/
structure FnT (P : Program) (w : World) (K : PySem.W.Frag) (mg : Str → Option Value) (base : Heap) (k : Nat) (x : Str) (n : Nat) (F : FDen) : Prop where
  ex : ∃ (f : Addr) (fd : FuncData) (ps : List Str), FnG P w K mg base k f fd ps (spF K n F) ∧ mg x = some (.ref f) ∧ PySem.W.keepIn K (.ref f) = true ∧ Binds K fd ps [] ∧ ∀ qs S, F qs S ≠ .stuck → qs.length = n
section
variable {X : Cx} {W : WX} {e : Expr} {es : List Expr} {das : DenA} {pos p : Pos} {x : Str} {k n : Nat} {F : FDen}
theorem ex_callT (G : FnT X.prog X.w X.K X.mg X.base k x n F) (gd : X.A.guards = some []) (hr : Room k X.A) (tk : Takes X W) (hg : Gl X x) (ha : AX X W (e :: es) das) (hdb : (x == ("__debug__" : Str)) = false := by decide)
    (he : starEach (e :: es) X.env = (false, eval e X.env) :: starEach es X.env := by rfl) (hpl : (backTo pos (starEach es X.env)).any (·.1) = false := by rfl) : EX X W (.Call (.Name x p) (e :: es) [] pos) (dFn F [] das) := by
  obtain ⟨f, fd, ps, G, hm, hk, hb, hl⟩ := G.ex
  refine (pe_callG (E := fun σ c d H' => W c d σ H') G gd hr hg hm hk hb (passAt' tk) ha hdb he hpl).imp fun σ H Q ⟨ω, S, ρ, f, o⟩ => ⟨ω, S, ρ, f, (OutP.bind o).imp fun xs S1 H1 ω1 s1 t1 o1 vs rvs => ?_⟩
  rw [List.append_nil] at o1
  exact ⟨by rw [← rvs.length]; exact hl _ _ o1.ns, ω1, S1, _, t1, rvs, o1⟩
end
section
variable {P : Program} {w : World} {K : PySem.W.Frag} {mg : Str → Option Value} {base : Heap}
theorem fn_okT {x qual : Str} {st : Stmt} {f : Addr} {fd : FuncData} {N ps : List Str} {k m n : Nat} {d : SDen} (G : L2.Fun K x qual st f fd) (S : FnScope N ps (defScope st)) (hm : N.length = m) (hn : ps.length = n)
    (body : ∀ (cdv : Value) (A : Around) (outer : List Env) (s : Shared) (H : Hp) (E : XK), A.guards = some [] → Room k (A.deeper (PyProof.Rows.envOfC qual (defScope st) s.heap.objs.size f cdv)) →
      Takes (cxOf (L2.CX P w) P w K mg base N qual (defScope st) f cdv A outer s H E) (fun c d _ H' => E c d H') →
      SsX (cxOf (L2.CX P w) P w K mg base N qual (defScope st) f cdv A outer s H E) (fun c d _ H' => E c d H') (defBody st) d) : FnG P w K mg base (k + 1) f fd ps (spF K n (callD m n d)) := by
  subst hm hn
  refine fnG_of G S (fun vs H Q E h => h.1) fun cdv A outer s H vs Q E gd hr h => ?_
  obtain ⟨hl, ω, St, qs, t, r, o⟩ := h
  refine ⟨_, body cdv A outer s H E gd hr (takes_of rfl rfl rfl rfl), ω, St, _, start_env N t r ps.length (by rw [r.length]; exact hl), ?_⟩
  unfold callD at o
  rw [if_pos (by rw [r.length]; exact hl)] at o
  revert o
  show OutP K E ω H (match d (qs.map some ++ List.replicate (N.length - ps.length) none) St with
    | .nx _ S' => .ok .non S'
    | .rt v S' => .ok v S'
    | .exc x _ S' => .exc x S'
    | _ => .stuck) _ → _
  cases d (qs.map some ++ List.replicate (N.length - ps.length) none) St with
  | nx ρ S' => exact fun o σ H' ω' s f => o H' ω' s f.1 .non rfl
  | rt v S' => exact fun o u H' ω' s t r => o H' ω' s t u r
  | exc x ρ S' => exact fun o σ d H' ω' s f e => o d H' ω' s f.1 e
  | bk ρ S' => exact fun o => o.elim
  | ct ρ S' => exact fun o => o.elim
  | stuck => exact fun o => o.elim
theorem fn_mkT {x qual : Str} {st : Stmt} {f : Addr} {fd : FuncData} {N ps : List Str} {k : Nat} {d : SDen} (G : L2.Fun K x qual st f fd) (S : FnScope N ps (defScope st)) (hm : mg x = some (.ref f)) (hb : Binds K fd ps [])
    (body : ∀ (cdv : Value) (A : Around) (outer : List Env) (s : Shared) (H : Hp) (E : XK), A.guards = some [] → Room k (A.deeper (PyProof.Rows.envOfC qual (defScope st) s.heap.objs.size f cdv)) →
      Takes (cxOf (L2.CX P w) P w K mg base N qual (defScope st) f cdv A outer s H E) (fun c d _ H' => E c d H') →
      SsX (cxOf (L2.CX P w) P w K mg base N qual (defScope st) f cdv A outer s H E) (fun c d _ H' => E c d H') (defBody st) d) : FnT P w K mg base (k + 1) x ps.length (callD N.length ps.length d) :=
  ⟨⟨f, fd, ps, fn_okT G S rfl rfl body, hm, G.kp, hb, callD_len⟩⟩
end
/-! ### the top -/
section
variable {P : Program} {w : World} {K : PySem.W.Frag} {mg mb : Str → Option Value} {k : Nat} {fa a : Addr} {fd : FuncData} {x : Str} {sp : Sp} {s₁ : Shared} {vs : List Value} {ns : List Int}
/-- only the script's object may be known ahead of the call -/
theorem top_run {H : Hp} (inK : K.In s₁.heap) (g : s₁.heap.Ns mainGlobals mg) (gb : s₁.heap.Ns builtinsNs mb) (boot : ∀ x : Str, x ≠ "__name__" → mb x = bootBuiltins x) (noL : s₁.heap.NoLimit) (noG : s₁.gens = #[])
    (obj : s₁.heap.get? a = some { cls := .type "list", data := .seq vs.toArray }) (room : Room k callerA) (F : ∀ base : Heap, K.In base → base.Ns mainGlobals mg → FnG P w K mg base k fa fd [x] sp)
    (bind : ∀ (s : Shared) (u : Value), BindsTo s fd ⟨[u], []⟩ [(x, u)]) (good : sp [.ref a] H (fun v _ => v = .bl true) fun _ _ _ => False) (hok : HOk P w H s₁.heap) (only : ∀ b, H b ≠ none → b = a ∧ K.lookup a = none ∧ ∃ o xs, H b = some (.frz o (.lst xs))) :
    codeAny (model P w) callerA (.call (.ref fa) ⟨[.ref a], []⟩) (fun r s' => r = .ok (.ret (.bool true)) ∧ OldK s₁.heap s'.heap ∧ s'.os = s₁.os ∧ AllBare s'.gens) s₁ := by
  -- names are no lists
  have names : ∀ {b : Addr} {m : Str → Option Value}, s₁.heap.Ns b m → (hidT s₁.heap H).Ns b m := by
    rintro b m ⟨o, es, ep, at_, isD, rest⟩
    refine ⟨o, es, ep, hidT_get at_ ?_, isD, rest⟩
    by_cases q : H b = none
    · exact q
    · obtain ⟨rfl, _⟩ := only b q
      rw [obj] at at_
      cases at_
      cases isD
  have inB : K.In (hidT s₁.heap H) := by
    intro b o at_
    refine hidT_get (inK b o at_) ?_
    by_cases q : H b = none
    · exact q
    · obtain ⟨rfl, z, _⟩ := only b q
      rw [z] at at_
      cases at_
  have mod : Mod K mg (hidT s₁.heap H) := ⟨inB, names g, ⟨mb, names gb, boot⟩, by obtain ⟨mc, z1, z2⟩ := noL; exact ⟨mc, names z1, z2⟩⟩
  have e0 : Env0 P w K mg (hidT s₁.heap H) callerA [] s₁ H :=
    { frames := rfl, mod := mod, bs := fun b o z => of_hidT z, bsz := Nat.le_of_eq (hidT_size _ _), funs := trivial, frf := fun b z => absurd z List.not_mem_nil, hok := hok, bare := .of_eq noG }
  apply codeAny_mono ((F _ inB (names g)).runs callerA [] s₁ H ⟨[.ref a], []⟩ [.ref a] [.ref a] _ _ rfl room e0 (bind s₁ (.ref a)) (.cons rfl .nil) good)
  intro r s2 q
  match r, q with
  | .error u, ⟨_, _, _, _, _, _, _, _, _, _, _, _, z⟩ => exact z.elim
  | .ok (.ret u), ⟨v, H2, os, bare, un, hok2, rel, z⟩ =>
    obtain rfl : v = .bl true := z
    cases rel
    refine ⟨rfl, OldK.of_keep fun b o at_ => ?_, os, bare⟩
    by_cases q : H b = none
    · exact un.keep b o at_ q List.not_mem_nil List.not_mem_nil
    · obtain ⟨_, _, ob, xs, fz⟩ := only b q
      have old := (hok b _ fz).1
      rw [at_] at old
      cases old
      exact (hok2 b _ (un.frzs b _ _ fz)).1
theorem law_callT (inK : K.In s₁.heap) (g : s₁.heap.Ns mainGlobals mg) (gb : s₁.heap.Ns builtinsNs mb) (boot : ∀ x : Str, x ≠ "__name__" → mb x = bootBuiltins x) (noL : s₁.heap.NoLimit) (noG : s₁.gens = #[])
    (obj : s₁.heap.get? a = some { cls := .type "list", data := .seq vs.toArray }) (iz : IntsAre vs ns) (len : ns.length ≤ sizeLine) (room : Room k callerA) (F : ∀ base : Heap, K.In base → base.Ns mainGlobals mg → FnG P w K mg base k fa fd [x] sp)
    (bind : ∀ (s : Shared) (u : Value), BindsTo s fd ⟨[u], []⟩ [(x, u)]) (good : ∀ H : Hp, Only H → SqL K H a (ns.map V.int) → sp [.ref a] H (fun v _ => v = .bl true) fun _ _ _ => False) :
    codeAny (model P w) callerA (.call (.ref fa) ⟨[.ref a], []⟩) (fun r s' => r = .ok (.ret (.bool true)) ∧ OldK s₁.heap s'.heap ∧ s'.os = s₁.os ∧ AllBare s'.gens) s₁ := by
  have rel := vals_ints iz
  cases known : K.lookup a with
  | some o =>
    have z := inK a o known
    rw [obj] at z
    cases z
    refine top_run (H := fun _ => none) inK g gb boot noL noG obj room F bind (good _ (fun _ => .inl rfl) (.inr ⟨_, vs.toArray, _, known, rfl, rfl, rfl, ?_, by simpa using rel⟩)) (fun b u (q : none = some u) => nomatch q) fun b q => absurd rfl q
    rw [List.size_toArray, iz.length]
    exact len
  | none =>
    let one : Hp := fun b => if b = a then some (.frz { cls := .type "list", data := .seq vs.toArray } (.lst (ns.map V.int))) else none
    have at_a : one a = some (.frz { cls := .type "list", data := .seq vs.toArray } (.lst (ns.map V.int))) := if_pos rfl
    have off : ∀ b, b ≠ a → one b = none := fun b q => if_neg q
    refine top_run (H := one) inK g gb boot noL noG obj room F bind (good _ (fun b => ?_) (.inl (.inr ⟨_, at_a⟩))) (fun b u q => ?_) fun b q => ?_
    · by_cases hb : b = a
      · exact .inr ⟨_, _, hb ▸ at_a⟩
      · exact .inl (off b hb)
    · by_cases hb : b = a
      · subst hb
        cases at_a.symm.trans q
        exact ⟨obj, by rw [List.length_map]; exact len, vs, _, rel, obj⟩
      · cases (off b hb).symm.trans q
    · by_cases hb : b = a
      · exact ⟨hb, known, _, _, hb ▸ at_a⟩
      · exact absurd (off b hb) q
end
theorem walk_lawT {l : PySem.W.OpenLaw} {q : Program} {loose : List Str} {XP : (Str → Option Value) → Heap → Prop} {YP : World → Heap → Prop} {d : DefRec} {K : Params → PySem.W.Frag} {k : Nat} {F : FDen} (hn : l.most = some 63) (hdf : d.params.defaults = []) (hr : Room k callerA)
    (hY : ∀ (w : World) (h : Heap), YP w h → (K w.params).In h) (hF : ∀ ns : List Int, ns.length ≤ 63 → ∃ S, F [.scr ns] [] = .ok (.bl true) S)
    (G : ∀ (w : World) (mg : Str → Option Value) (fa : Addr) (h : Heap), (K w.params).In h → h.Ns mainGlobals mg → mg d.name = some (.ref fa) →
      ∃ fd : FuncData, (∀ (s : Shared) (u : Value), BindsTo s fd ⟨[u], []⟩ [("script", u)]) ∧ ∀ base : Heap, (K w.params).In base → base.Ns mainGlobals mg → FnG l.prog w (K w.params) mg base k fa fd ["script"] (spF (K w.params) 1 F)) :
    PySem.W.WalkO q loose XP YP l.row.toRowW d [] (fun f vs => PySem.call f vs) := by
  apply Att.attach_call hn hdf
  intro w s₀ s₁ mg mb fa o pm cd doc a vs ns start Y at_ isF dp isG obj iz len noG
  have inK := hY w _ Y
  obtain ⟨fd, bind, prom⟩ := G w mg fa _ inK start.T.g isG
  apply law_callT inK start.T.g start.T.b start.T.builtins start.T.nolimit noG obj iz (Nat.le_trans len (by decide)) hr prom bind
  intro H hO hS
  refine ⟨rfl, ⟨[], []⟩, [], [.scr ns], ⟨rfl, List.nodup_nil, (fun _ z => nomatch z), (fun _ z => nomatch z), (fun n c a e => by simp at e)⟩,
      ⟨_, _, rfl, ⟨a, rfl, hS.imp (fun z => ⟨z, (fun z => nomatch z), (fun z => nomatch z)⟩) _root_.id⟩, rfl⟩, ?_⟩
  obtain ⟨S, e⟩ := hF ns len
  rw [e]
  exact fun H' ω' s t v r => r
end Pv

/-! a value's text; times -/
namespace Pv
open PySem PySem.Spec L2 PyProof.Rows
mutual
/-- a value as plain data -/
@[simp] def pd : PV → Option PyData
  | .non => some .none
  | .bl b => some (.bool b)
  | .int i => some (.int i)
  | .str z => some (.str z)
  | .tup xs => (pdL xs).map .tuple
  | .lst xs => (pdL xs).map .list
  | _ => none
@[simp] def pdL : List PV → Option (List PyData)
  | [] => some []
  | x :: xs => match pd x, pdL xs with
    | some d, some ds => some (d :: ds)
    | _, _ => none
end
section
variable {K : PySem.W.Frag} {H : Hp} {ω : Ad}
mutual
theorem dp_of : ∀ {x : PV} {v : V} {d : PyData}, Rp K H ω x v → pd x = some d → Dp K H v d
  | .non, _, _, rfl, e => by cases e; exact .non
  | .bl b, _, _, rfl, e => by cases e; exact .bl b
  | .int i, _, _, rfl, e => by cases e; exact .int i
  | .str z, _, _, rfl, e => by cases e; exact .str z
  | .tup xs, _, _, r, e => by
    obtain ⟨ds, e1, rfl⟩ := Option.map_eq_some_iff.mp (show (pdL xs).map PyData.tuple = some _ from e)
    obtain ⟨a, vs, rfl, h, rr⟩ := tup_of r
    exact .tup h (dpL_of rr e1)
  | .lst xs, _, _, r, e => by
    obtain ⟨ds, e1, rfl⟩ := Option.map_eq_some_iff.mp (show (pdL xs).map PyData.list = some _ from e)
    obtain ⟨a, vs, rfl, h, _, rr⟩ := r
    exact .lst (.of h) (dpL_of rr e1)
  | .dct _, _, _, _, e => by cases e
  | .set _, _, _, _, e => by cases e
  | .ins _ _, _, _, _, e => by cases e
  | .scr _, _, _, _, e => by cases e
  | .loc _, _, _, _, e => by cases e
  | .cls _, _, _, _, e => by cases e
  | .ty _, _, _, _, e => by cases e
theorem dpL_of : ∀ {xs : List PV} {vs : List V} {ds : List PyData}, RpL K H ω xs vs → pdL xs = some ds → DpAll K H vs ds
  | [], _, _, rfl, e => by cases e; exact .nil
  | x :: xs, _, ds, ⟨v, ws, e0, h, r⟩, e => by
    subst e0
    unfold pdL at e
    cases q1 : pd x with
    | none => rw [q1] at e; cases e
    | some d =>
      cases q2 : pdL xs with
      | none => rw [q1, q2] at e; cases e
      | some ds2 =>
        rw [q1, q2] at e; cases e
        exact .cons (dp_of h q1) (dpL_of r q2)
end
end
/-- repr(..): lists and tuples too -/
@[simp] def cReprD : PC' := fun S xs => match xs with
  | [.bl b] => some (.str (if b then "True" else "False"))
  | [.non] => some (.str "None")
  | [.int i] => if i.natAbs.log2 < 1920 then some (.str (toString i)) else none
  | [.str z] => if (reprText z).length ≤ sizeLine then some (.str (reprText z)) else none
  | [.lst xs] => (pd (.lst xs)).bind fun d => if d.showable = true ∧ d.hasDict = false ∧ d.depth ≤ 40 ∧ d.shown.length ≤ sizeLine then some (.str d.shown) else none
  | [.tup xs] => (pd (.tup xs)).bind fun d => if d.showable = true ∧ d.hasDict = false ∧ d.depth ≤ 40 ∧ d.shown.length ≤ sizeLine then some (.str d.shown) else none
  | _ => none
section
variable {X : Cx}
theorem pd_ref {K : PySem.W.Frag} {H : Hp} {v : V} {d : PyData} (h : Dp K H v d) (n : ∀ b, d ≠ .bool b) (n1 : d ≠ .none) (n2 : ∀ i, d ≠ .int i) (n3 : ∀ z, d ≠ .str z) : ∃ a, v = .ref a := by
  cases h with
  | non => exact absurd rfl n1
  | bl b => exact absurd rfl (n b)
  | int i => exact absurd rfl (n2 i)
  | str z => exact absurd rfl (n3 z)
  | lst _ _ => exact ⟨_, rfl⟩
  | tup _ _ => exact ⟨_, rfl⟩
theorem repr_run {pins : List (Addr × Obj)} {s : Shared} {σ : L2.St} {H : Hp} {Q : VK} {a : Addr} {d : PyData} (gd : X.A.guards = some []) (hu : X.A.units + 64 < cLine) (I : Inv X pins σ H s) (dp : Dp X.K H (.ref a) d)
    (h1 : d.showable = true) (h2 : d.hasDict = false) (h3 : d.depth ≤ 40) (h4 : d.shown.length ≤ sizeLine) (q : Q (.str d.shown) H) : wpAny (model X.prog X.w) X.A (call (.builtin "repr") [.ref a]) (EP X pins σ Q) X.xe s := by
  obtain ⟨as, rd⟩ := Dp.reads I d _ _ dp rfl
  exact repr_of_reads' rd h1 (PyData.noDict_hsm h2) gd (by omega) (fun _ _ z => z) (fun h' u tk hk => ⟨.str d.shown, H, I.kept hk, ⟨u, rfl⟩, q⟩) h4
theorem callP_reprD (gd : X.A.guards = some []) (hu : X.A.units + 64 < cLine) : CallP X (.builtin "repr") cReprD := by
  intro pins s σ H vs us Q I r ⟨ω, S, ps, r', t, rv, e, k⟩
  match ps, e with
  | [.bl b], e => exact callP_repr pins s σ H vs us Q I r ⟨ω, S, _, _, t, rv, e, k⟩
  | [.non], e => exact callP_repr pins s σ H vs us Q I r ⟨ω, S, _, _, t, rv, e, k⟩
  | [.int i], e => exact callP_repr pins s σ H vs us Q I r ⟨ω, S, _, _, t, rv, e, k⟩
  | [.str z], e =>
    obtain ⟨v, rfl, rfl⟩ := rv.one
    simp only [cReprD] at e
    split at e
    · rename_i hz
      cases e
      obtain ⟨u, rfl, tk, rfl⟩ := vals1 r
      exact PySem.P.repr_of_str ⟨.str _, H, I.tok _, ⟨_, rfl⟩, k _ _ .refl t rfl⟩ hz
    · cases e
  | [.lst xs], e =>
    obtain ⟨v, rfl, rx⟩ := rv.one
    simp only [cReprD] at e
    obtain ⟨d, e1, e2⟩ := Option.bind_eq_some_iff.mp e
    split at e2
    · rename_i hc
      cases e2
      obtain ⟨a, ws, rfl, h, _, rr⟩ := rx
      obtain ⟨u, rfl, ru⟩ := vals1 r
      cases ru
      exact repr_run gd hu I (dp_of (x := .lst xs) ⟨a, ws, rfl, h, ‹_›, rr⟩ e1) hc.1 hc.2.1 hc.2.2.1 hc.2.2.2 (k _ _ .refl t rfl)
    · cases e2
  | [.tup xs], e =>
    obtain ⟨v, rfl, rx⟩ := rv.one
    simp only [cReprD] at e
    obtain ⟨d, e1, e2⟩ := Option.bind_eq_some_iff.mp e
    split at e2
    · rename_i hc
      cases e2
      have dp := dp_of (x := .tup xs) rx e1
      obtain ⟨a, ws, rfl, h, rr⟩ := tup_of rx
      obtain ⟨u, rfl, ru⟩ := vals1 r
      cases ru
      exact repr_run gd hu I dp hc.1 hc.2.1 hc.2.2.1 hc.2.2.2 (k _ _ .refl t rfl)
    · cases e2
end
/-- x * y: numbers, a list or a text so many times -/
@[simp] def pMul : P2 := fun S x y => match look S x, look S y with
  | .int i, .int j => if (-(2 ^ 64) < i ∧ i < 2 ^ 64) ∨ (-(2 ^ 64) < j ∧ j < 2 ^ 64) then some (.int (i * j)) else none
  | .lst xs, .int k => if 0 ≤ k ∧ k ≤ 1000000 ∧ xs.length * k.toNat ≤ sizeLine then some (.lst (List.replicate k.toNat xs).flatten) else none
  | .str z, .int k => if 0 ≤ k ∧ k ≤ 1000 ∧ z.length ≤ 1000 then some (.str (Txt.mul z k)) else none
  | _, _ => none
section
variable {X : Cx} {K : PySem.W.Frag} {H : Hp} {ω : Ad}
theorem RpL.flat {xs : List PV} {vs : List V} (r : RpL K H ω xs vs) : ∀ n : Nat, RpL K H ω (List.replicate n xs).flatten (List.replicate n vs).flatten
  | 0 => rfl
  | n + 1 => by
    simp only [List.replicate_succ, List.flatten_cons]
    exact r.append (RpL.flat r n)
theorem opP_mul : OpP X (binaryOp .Mult) pMul := by
  intro pins s σ H x y v u Q I rx ry ⟨ω, S, px, py, r, t, r1, r2, e, k⟩
  unfold pMul at e
  split at e
  · rename_i i j e1 e2
    cases look_eq t r1 e1 rfl
    cases look_eq t r2 e2 rfl
    exact opP_mulI pins s σ H x y v u Q I rx ry ⟨ω, S, .int i, .int j, r, t, r1, r2, by simp only [pMulI, pInt]; split at e <;> simp_all, k⟩
  · rename_i xs j e1 e2
    cases look_eq t r2 e2 rfl
    obtain ⟨a, vs, rfl, h, rr⟩ := lst_of t r1 e1
    split at e
    · rename_i hc
      cases e
      refine op_rep pins s σ H _ y v u Q I rx ry ⟨a, j, vs, rfl, r2, h, by omega, by omega, by rw [← rr.length]; exact hc.2.2, fun p hp => ?_⟩
      exact new_lst t hp (rr.flat _) fun q o H' s1 n1 n2 t1 c => k _ _ s1 (open_str t1) (c.pure (t.out n1) n2)
    · cases e
  · rename_i z j e1 e2
    cases look_eq t r1 e1 rfl
    cases look_eq t r2 e2 rfl
    split at e
    · rename_i hc
      cases e
      cases r1; cases r2
      obtain ⟨t1, rfl⟩ := rx
      obtain ⟨t2, rfl⟩ := ry
      refine SB.mul ⟨?_, fun _ _ => ?_, fun _ _ => ?_⟩ fun t' k' => ⟨.str _, H, I.tok _, ⟨_, rfl⟩, k _ _ .refl t rfl⟩
      · simp; omega
      · have hj : 0 < j := by omega
        have : (1000 : Int) ≤ (2 ^ 63 - 1) / j := (Int.le_ediv_iff_mul_le hj).mpr (by omega)
        omega
      · have : z.length * j.toNat ≤ 1000 * 1000 := Nat.mul_le_mul hc.2.2 (by omega)
        have hL : (1048576 : Nat) ≤ sizeLine := by rw [sizeLine_eq]; decide
        simp only [Builtin.Str.tooLong, decide_eq_false_iff_not]
        omega
    · cases e
  · cases e
end
end Pv

/-! several names at once -/
namespace Pv
open PySem PySem.Spec L2 PyProof.Rows
section
variable {X : Cx} {W : WX} {a b c : Expr} {das : DenA} {pos px py pz pt : Pos} {x y z : Str} {i j l : Nat}
@[simp] def sPar (i j : Nat) (das : DenA) : SDen := fun ρ S => stE (das ρ S) ρ fun vs S' => match vs with
  | [v, w] => .nx ((ρ.set i (some v)).set j (some w)) S'
  | _ => .stuck
@[simp] def sPar3 (i j l : Nat) (das : DenA) : SDen := fun ρ S => stE (das ρ S) ρ fun vs S' => match vs with
  | [u, v, w] => .nx (((ρ.set i (some u)).set j (some v)).set l (some w)) S'
  | _ => .stuck
theorem RpL.three {K : PySem.W.Frag} {H : Hp} {ω : Ad} {x y z : PV} {vs : List V} (r : RpL K H ω [x, y, z] vs) : ∃ u v w, vs = [u, v, w] ∧ Rp K H ω x u ∧ Rp K H ω y v ∧ Rp K H ω z w := by
  obtain ⟨u, ws, rfl, rx, r⟩ := r
  obtain ⟨v, w, rfl, ry, rz⟩ := r.two
  exact ⟨u, v, w, rfl, rx, ry, rz⟩
theorem sx_par {kt k2 pt2} (hc : X.calm = true) (hN : X.N.Nodup) (hi : X.N[i]? = some x) (hj : X.N[j]? = some y) (hij : i ≠ j) (hx : X.env.scope.names.lookup x = some .local) (hy : X.env.scope.names.lookup y = some .local) (ha : AX X W [a, b] das)
    (hw : swappedStores [.Tuple [.Name x px, .Name y py] kt pt] (.Tuple [a, b] k2 pt2) X.env = pure (some [x, y])) (hs : swapsWithSole [.Tuple [.Name x px, .Name y py] kt pt] (.Tuple [a, b] k2 pt2) pos.line X.env = pure false := by rfl) :
    SX X W (.Assign [.Tuple [.Name x px, .Name y py] kt pt] (.Tuple [a, b] k2 pt2) pos) (sPar i j das) :=
  (ps_par hc hN hi hj hij hx hy ha hw hs).imp fun D σ H ⟨ω, S, ρ, f, o⟩ => ⟨ω, S, ρ, f, (SoP.ex f o).imp fun xs S1 H1 ω1 s1 t1 o1 vs rv => by
    match xs, o1 with
    | [p, q], o1 =>
      obtain ⟨v, w, rfl, rp, rq⟩ := rv.two
      exact ⟨v, w, rfl, o1 _ H1 ω1 .refl ⟨t1, ((f.later s1 t1).2.set rp).set rq⟩⟩⟩
theorem sx_par3 {kt k2 pt2} (hc : X.calm = true) (hN : X.N.Nodup) (hi : X.N[i]? = some x) (hj : X.N[j]? = some y) (hl : X.N[l]? = some z) (hij : i ≠ j) (hil : i ≠ l) (hjl : j ≠ l) (hx : X.env.scope.names.lookup x = some .local) (hy : X.env.scope.names.lookup y = some .local)
    (hz : X.env.scope.names.lookup z = some .local) (ha : AX X W [a, b, c] das) (hw : swappedStores [.Tuple [.Name x px, .Name y py, .Name z pz] kt pt] (.Tuple [a, b, c] k2 pt2) X.env = pure (some [x, y, z]))
    (hs : swapsWithSole [.Tuple [.Name x px, .Name y py, .Name z pz] kt pt] (.Tuple [a, b, c] k2 pt2) pos.line X.env = pure false := by rfl) :
    SX X W (.Assign [.Tuple [.Name x px, .Name y py, .Name z pz] kt pt] (.Tuple [a, b, c] k2 pt2) pos) (sPar3 i j l das) :=
  (ps_par3 hc hN hi hj hl hij hil hjl hx hy hz ha hw hs).imp fun D σ H ⟨ω, S, ρ, f, o⟩ => ⟨ω, S, ρ, f, (SoP.ex f o).imp fun xs S1 H1 ω1 s1 t1 o1 vs rv => by
    match xs, o1 with
    | [p, q, r], o1 =>
      obtain ⟨u, v, w, rfl, rp, rq, rr⟩ := rv.three
      exact ⟨u, v, w, rfl, o1 _ H1 ω1 .refl ⟨t1, (((f.later s1 t1).2.set rp).set rq).set rr⟩⟩⟩
@[simp] def bSeq (n : Nat) (bs : Bds) : Bd := fun x ρ => match x with
  | .tup xs => if xs.length = n then bs xs ρ else none
  | .lst xs => if xs.length = n then bs xs ρ else none
  | _ => none
theorem pg_either {tg : Expr} {t1 t2 : TG} (h1 : PG X tg t1) (h2 : PG X tg t2) : PG X tg (fun v σ H Q => t1 v σ H Q ∨ t2 v σ H Q) := ⟨fun pins s σ H v u Q I r q => q.elim (h1.run pins s σ H v u Q I r) (h2.run pins s σ H v u Q I r)⟩
theorem gx_seq {es : List Expr} {k : Nat} {bs : Bds} {vs : List Nat} {n : Nat} (hc : X.calm = true) (h : GsX X es bs vs) (hn : (assignEach es X.env).length = n := by rfl) (hst : (assignEach es X.env).findIdx? (·.1) = none := by rfl) :
    GX X (.Tuple es k pos) (bSeq n bs) vs := (pg_either (pg_tup hc h hn hst) (pg_unl hc h hn hst)).imp fun v σ H Q ⟨ω, S, ρ, x, ρ', f, r, e, k⟩ => by
  unfold bSeq at e
  split at e
  · rename_i xs
    split at e
    · rename_i hl
      obtain ⟨a, us, rfl, h1, r1⟩ := tup_of r
      exact .inl ⟨a, us, rfl, h1, by rw [← r1.length]; exact hl, ω, S, ρ, xs, ρ', f, r1, e, k⟩
    · cases e
  · rename_i xs
    split at e
    · rename_i hl
      obtain ⟨a, us, rfl, h1, r1⟩ := lst_of f.1 r rfl
      exact .inr ⟨a, us, rfl, .of h1, by rw [← r1.length]; exact hl, ω, S, ρ, xs, ρ', f, r1, e, k⟩
    · cases e
  · cases e
end
end Pv

namespace Lw
open PySem PySem.Spec L2 Pv
/-! ### the text by places -/
def top (i : Nat) : Stmt := PySem.Challenge.pw_keptways_k02_pairs_and_integers_judged.main.body.getD i (.Pass ⟨0, 0, 0, 0⟩)
abbrev s_is_integer : Stmt := top 4
abbrev N_is_integer : List Str := ["value"]
abbrev s_is_word : Stmt := top 5
abbrev N_is_word : List Str := ["value", "sign"]
abbrev s_is_pair : Stmt := top 6
abbrev N_is_pair : List Str := ["value"]
abbrev s__law_dice : Stmt := top 8
abbrev N__law_dice : List Str := ["script", "spot", "cell", "great", "blend"]
abbrev s__law_roll : Stmt := top 9
abbrev N__law_roll : List Str := ["dice", "total", "found", "one", "two"]
abbrev s__law_pick : Stmt := top 10
abbrev N__law_pick : List Str := ["dice", "items"]
abbrev s__law_some : Stmt := top 11
abbrev N__law_some : List Str := ["dice", "items", "size", "left", "turn"]
abbrev s__law_row : Stmt := top 12
abbrev N__law_row : List Str := ["dice", "size", "small", "one", "other", "some", "odd"]
abbrev s_law : Stmt := top 13
abbrev N_law : List Str := ["script", "spot", "dice", "turn", "value", "is_number", "fits"]
/-! ### what each def is worth -/
def B_is_integer : SDen := (sRet (dAnd (dCB cIsi (dCons (dV 0) (dCons (dK (.ty "int")) dNil))) (dAnd (dNot (dCB cIsi (dCons (dV 0) (dCons (dK (.ty "bool")) dNil)))) (dChain pLt pLt (dNeg (dK (.int 1000000000000000000000000000000000000000000000000000000000000))) (dV 0) (dK (.int 1000000000000000000000000000000000000000000000000000000000000))))))
def D_is_integer : FDen := callD 1 1 B_is_integer
def B_is_word : SDen := (sRet (dAnd (dCB cIsi (dCons (dV 0) (dCons (dK (.ty "str")) dNil))) (dAnd (dChain pLe pLe (dK (.int 1)) (dCB cLen (dCons (dV 0) dNil)) (dK (.int 8))) (dCB cAll (dCons (dLc (iA (dV 0)) [1] (bN 1) dYes (dBin pIn (dV 1) (dK (.str "abcdefghijklmnopqrstuvwxyz")))) dNil)))))
def D_is_word : FDen := callD 2 1 B_is_word
def B__law_dice : SDen := (sSeq (sAsg (dBin pAdd (dBin pMul (dK (.int 67)) (dV 1)) (dK (.int 23))) (bN 2)) (sSeq (sIf (dB (dBin pLt (dV 1) (dCB cLen (dCons (dV 0) dNil)))) (sAsg (dBin pIx (dV 0) (dV 1)) (bN 2)) sNil) (sSeq (sAsg (dBin pMod (dCB cInt (dCons (dCB cAbs (dCons (dV 2) dNil)) dNil)) (dBin pPow (dBin pPow (dK (.int 10)) (dK (.int 60))) (dK (.int 10)))) (bN 3)) (sSeq (sAsg (dBin pAdd (dBin pAdd (dBin pAdd (dBin pMul (dBin pMod (dCB cInt (dCons (dV 3) dNil)) (dK (.int 2305843009213693661))) (dK (.int 1000409))) (dBin pMul (dK (.int 8081)) (dV 1))) (dBin pMul (dK (.int 53)) (dCB cInt (dCons (dBin pLt (dV 2) (dK (.int 0))) dNil)))) (dK (.int 29))) (bN 4)) (sRet (dCell (dLst (dCons (dCB cMax2 (dCons (dK (.int 0)) (dCons (dBin pSub (dV 3) (dBin pPow (dK (.int 10)) (dK (.int 18)))) dNil))) (dCons (dBin pMod (dCB cInt (dCons (dV 4) dNil)) (dK (.int 2305843009213693661))) (dCons (dK (.int 0)) dNil))))))))))
def D__law_dice : FDen := callD 5 2 B__law_dice
def B__law_roll : SDen := (sSeq (sIf (dB (dBin pGt (dBin pIx (dV 0) (dK (.int 0))) (dK (.int 0)))) (sSeq (sAsg (dBin pMod (dCB cInt (dCons (dBin pIx (dV 0) (dK (.int 0))) dNil)) (dV 1)) (bN 2)) (sSeq (sSub (dBin pDiv (dBin pIx (dV 0) (dK (.int 0))) (dV 1)) (dV 0) (dK (.int 0)) qSetL) (sRet (dV 2)))) sNil) (sSeq (sSub (dBin pAdd (dBin pIx (dV 0) (dK (.int 2))) (dK (.int 1))) (dV 0) (dK (.int 2)) qSetL) (sSeq (sAsg (dBin pMod (dCB cInt (dCons (dBin pAdd (dBin pIx (dV 0) (dK (.int 1))) (dBin pMul (dK (.int 998244319)) (dBin pIx (dV 0) (dK (.int 2))))) dNil)) (dK (.int 2305843009213693951))) (bN 3)) (sSeq (sAsg (dBin pAdd (dBin pMul (dBin pMod (dCB cInt (dCons (dBin pMul (dV 3) (dV 3)) dNil)) (dK (.int 2305843009213693907))) (dV 3)) (dBin pMul (dK (.int 9421)) (dBin pIx (dV 0) (dK (.int 2))))) (bN 4)) (sSeq (sAsg (dBin pMod (dCB cInt (dCons (dV 4) dNil)) (dK (.int 2305843009213693661))) (bN 4)) (sRet (dBin pMod (dCB cInt (dCons (dBin pDiv (dV 4) (dK (.int 8192))) dNil)) (dV 1))))))))
def D__law_roll : FDen := callD 5 2 B__law_roll
def B_is_pair : SDen := (sSeq (sIf (dOrT (dNotT (dB (dCB cIsi (dCons (dV 0) (dCons (dK (.ty "tuple")) dNil))))) (dOrT (dB (dBin pNe (dCB cLen (dCons (dV 0) dNil)) (dK (.int 2)))) (dOrT (dNotT (dB (dFn D_is_word [] (dCons (dBin pIx (dV 0) (dK (.int 0))) dNil)))) (dNotT (dB (dFn D_is_word [] (dCons (dBin pIx (dV 0) (dK (.int 1))) dNil))))))) (sRet (dK (.bl false))) sNil) (sRet (dBin pLt (dBin pIx (dV 0) (dK (.int 0))) (dBin pIx (dV 0) (dK (.int 1))))))
def D_is_pair : FDen := callD 1 1 B_is_pair
def B__law_pick : SDen := (sRet (dBin pIx (dV 1) (dFn D__law_roll [] (dCons (dV 0) (dCons (dCB cLen (dCons (dV 1) dNil)) dNil)))))
def D__law_pick : FDen := callD 2 2 B__law_pick
def B__law_some : SDen := (sSeq (sAsg (dCell (dCB cList (dCons (dV 1) dNil))) (bN 3)) (sRet (dLc (iR1 (dCons (dCB cMin2 (dCons (dV 2) (dCons (dCB cLen (dCons (dV 3) dNil)) dNil))) dNil)) [4] (bN 4) dYes (dM isLst mPop (dV 3) (dCons (dFn D__law_roll [] (dCons (dV 0) (dCons (dCB cLen (dCons (dV 3) dNil)) dNil))) dNil)))))
def D__law_some : FDen := callD 5 3 B__law_some
def B__law_row : SDen := (sSeq (sPar 1 2 (dCons (dFn D__law_pick [] (dCons (dV 0) (dCons (dLst (dCons (dBin pPow (dK (.int 10)) (dK (.int 59))) (dCons (dBin pSub (dBin pPow (dK (.int 10)) (dK (.int 60))) (dK (.int 1))) (dCons (dK (.int 200)) (dCons (dBin pPow (dK (.int 10)) (dK (.int 18))) dNil))))) dNil))) (dCons (dFn D__law_roll [] (dCons (dV 0) (dCons (dK (.int 100)) dNil))) dNil))) (sSeq (sAsg (dFn D__law_some [] (dCons (dV 0) (dCons (dLst (dCons (dK (.str "a")) (dCons (dK (.str "ab")) (dCons (dK (.str "b")) (dCons (dK (.str "dock")) (dCons (dK (.str "z")) (dCons (dK (.str "zz")) (dCons (dK (.str "zzzzzzzz")) (dCons (dK (.str "m")) (dCons (dK (.str "ma")) dNil)))))))))) (dCons (dK (.int 2)) dNil)))) (bSeq 2 (bsCons (bN 3) (bsCons (bN 4) bsNil)))) (sSeq (sAsg (dCell (dLst (dCons (dTup (dCons (dV 1) (dCons (dK (.bl true)) (dCons (dK (.bl false)) dNil)))) (dCons (dTup (dCons (dNeg (dV 1)) (dCons (dK (.bl true)) (dCons (dK (.bl false)) dNil)))) (dCons (dTup (dCons (dBin pAdd (dBin pPow (dK (.int 10)) (dK (.int 60))) (dV 2)) (dCons (dK (.bl false)) (dCons (dK (.bl false)) dNil)))) (dCons (dTup (dCons (dV 2) (dCons (dK (.bl true)) (dCons (dK (.bl false)) dNil)))) dNil)))))) (bN 5)) (sSeq (sAsg (dCell (dBin pCat (dV 5) (dLst (dCons (dTup (dCons (dBin pSub (dNeg (dBin pPow (dK (.int 10)) (dK (.int 60)))) (dV 2)) (dCons (dK (.bl false)) (dCons (dK (.bl false)) dNil)))) (dCons (dTup (dCons (dBin pEq (dBin pMod (dV 2) (dK (.int 2))) (dK (.int 1))) (dCons (dK (.bl false)) (dCons (dK (.bl false)) dNil)))) (dCons (dTup (dCons (dTup (dCons (dV 3) (dCons (dV 3) dNil))) (dCons (dK (.bl false)) (dCons (dK (.bl false)) dNil)))) dNil)))))) (bN 5)) (sSeq (sAsg (dCell (dBin pCat (dV 5) (dBin pMul (dLst (dCons (dTup (dCons (dTup (dCons (dV 3) (dCons (dV 4) dNil))) (dCons (dK (.bl false)) (dCons (dBin pLt (dV 3) (dV 4)) dNil)))) (dCons (dTup (dCons (dTup (dCons (dV 4) (dCons (dV 3) dNil))) (dCons (dK (.bl false)) (dCons (dBin pLt (dV 4) (dV 3)) dNil)))) dNil))) (dK (.int 4))))) (bN 5)) (sSeq (sFor (iA (dLst (dCons (dK .non) (dCons (dK (.str "1")) (dCons (dK (.str "")) (dCons (dTup (dCons (dK (.int 1)) dNil)) (dCons (dLst dNil) (dCons (dK (.dct [])) (dCons (dTup dNil) (dCons (dTup (dCons (dV 3) dNil)) (dCons (dTup (dCons (dV 3) (dCons (dV 4) (dCons (dK (.str "zz")) dNil)))) (dCons (dLst (dCons (dV 3) (dCons (dV 4) dNil))) (dCons (dTup (dCons (dV 3) (dCons (dK (.int 1)) dNil))) (dCons (dTup (dCons (dK (.int 0)) (dCons (dK (.int 1)) dNil))) (dCons (dTup (dCons (dK (.str "A")) (dCons (dK (.str "b")) dNil))) dNil))))))))))))))) (bN 6) (sExpr (dM isLst mAppend (dV 5) (dCons (dTup (dCons (dV 6) (dCons (dK (.bl false)) (dCons (dK (.bl false)) dNil)))) dNil)))) (sSeq (sFor (iA (dLst (dCons (dTup (dCons (dK (.str "")) (dCons (dK (.str "a")) dNil))) (dCons (dTup (dCons (dK (.str "a")) (dCons (dK (.str "abcdefghi")) dNil))) (dCons (dTup (dCons (dK (.str "a b")) (dCons (dK (.str "c")) dNil))) (dCons (dBin pAdd (dV 3) (dV 4)) (dCons (dTup (dCons (dTup (dCons (dV 3) (dCons (dV 4) dNil))) dNil)) (dCons (dTup (dCons (dK .non) (dCons (dV 3) dNil))) (dCons (dTup (dCons (dV 3) (dCons (dK .non) dNil))) dNil))))))))) (bN 6) (sExpr (dM isLst mAppend (dV 5) (dCons (dTup (dCons (dV 6) (dCons (dK (.bl false)) (dCons (dK (.bl false)) dNil)))) dNil)))) (sRet (dFn D__law_pick [] (dCons (dV 0) (dCons (dV 5) dNil)))))))))))
def D__law_row : FDen := callD 7 1 B__law_row
def B_law : SDen := (sSeq (sFor (iR1 (dCons (dCB cMax2 (dCons (dK (.int 1)) (dCons (dCB cMin2 (dCons (dK (.int 8)) (dCons (dCB cLen (dCons (dV 0) dNil)) dNil))) dNil))) dNil)) (bN 1) (sSeq (sAsg (dFn D__law_dice [] (dCons (dV 0) (dCons (dV 1) dNil))) (bN 2)) (sFor (iR1 (dCons (dK (.int 30)) dNil)) (bN 3) (sSeq (sAsg (dFn D__law_row [] (dCons (dV 2) dNil)) (bSeq 3 (bsCons (bN 4) (bsCons (bN 5) (bsCons (bN 6) bsNil))))) (sIf (dB (dBin pNe (dCB cReprD (dCons (dLst (dCons (dFn D_is_integer [] (dCons (dV 4) dNil)) (dCons (dFn D_is_pair [] (dCons (dV 4) dNil)) dNil))) dNil)) (dCB cReprD (dCons (dLst (dCons (dV 5) (dCons (dV 6) dNil))) dNil)))) (sRet (dK (.bl false))) sNil))))) (sSeq (sIf (dB (dBin pNe (dLst (dCons (dFn D_is_integer [] (dCons (dBin pSub (dBin pPow (dK (.int 10)) (dK (.int 60))) (dK (.int 1))) dNil)) (dCons (dFn D_is_integer [] (dCons (dBin pPow (dK (.int 10)) (dK (.int 60))) dNil)) (dCons (dFn D_is_integer [] (dCons (dNeg (dBin pPow (dK (.int 10)) (dK (.int 60)))) dNil)) (dCons (dFn D_is_integer [] (dCons (dK (.bl true)) dNil)) dNil))))) (dBin pAdd (dLst (dCons (dK (.bl true)) dNil)) (dBin pMul (dLst (dCons (dK (.bl false)) dNil)) (dK (.int 3)))))) (sRet (dK (.bl false))) sNil) (sRet (dBin pEq (dLst (dCons (dFn D_is_pair [] (dCons (dTup (dCons (dK (.str "a")) (dCons (dK (.str "b")) dNil))) dNil)) (dCons (dFn D_is_pair [] (dCons (dTup (dCons (dK (.str "b")) (dCons (dK (.str "a")) dNil))) dNil)) (dCons (dFn D_is_pair [] (dCons (dTup (dCons (dK (.str "a")) (dCons (dK (.str "a")) dNil))) dNil)) dNil)))) (dLst (dCons (dK (.bl true)) (dCons (dK (.bl false)) (dCons (dK (.bl false)) dNil))))))))
def D_law : FDen := callD 7 1 B_law
/-! ### .. and that it is so -/
structure Txt (K : PySem.W.Frag) (mg : Str → Option Value) : Prop where
  z_abs : mg "abs" = none
  z_all : mg "all" = none
  z_bool : mg "bool" = none
  z_int : mg "int" = none
  z_isinstance : mg "isinstance" = none
  z_len : mg "len" = none
  z_list : mg "list" = none
  z_max : mg "max" = none
  z_min : mg "min" = none
  z_range : mg "range" = none
  z_repr : mg "repr" = none
  z_str : mg "str" = none
  z_tuple : mg "tuple" = none
  c_LETTERS : ∃ t, mg "LETTERS" = some (.str "abcdefghijklmnopqrstuvwxyz" t)
  c_LONGEST : ∃ t, mg "LONGEST" = some (.int 1000000000000000000000000000000000000000000000000000000000000 t)
  c_MAX_LETTERS : ∃ t, mg "MAX_LETTERS" = some (.int 8 t)
section
variable {P : Program} {w : World} {K : PySem.W.Frag} {mg : Str → Option Value} {base : Heap}
theorem sc_is_integer : FnScope N_is_integer ["value"] (defScope s_is_integer) := ⟨rfl, rfl, rfl, by decide +kernel, rfl, by decide +kernel, by decide +kernel⟩
theorem ok_is_integer {f : Addr} {fd : FuncData} (T : Txt K mg)  (F : L2.Fun K "is_integer" "is_integer" s_is_integer f fd) (hm : mg "is_integer" = some (.ref f)) : Fn P w K mg base 1 "is_integer" 1 [] D_is_integer := by
  refine fn_mk' (k := 0) (d := B_is_integer) F sc_is_integer hm (F.binds (ps := ["value"]) fun _ _ _ _ _ _ us hl => match us, hl with | [_], _ => rfl) fun cdv A outer s H E hr tk => ?_
  have nd := sc_is_integer.nd
  have hu64 := hr.units
  have hu65 := hu65 hr
  have pso := passes_of (X := cxOf (L2.CX P w) P w K mg base N_is_integer "is_integer" (defScope s_is_integer) f cdv A outer s H E) rfl
  refine ss_one ?_
  refine sx_ret ?_
  refine ex_and ?_ ?_
  · refine ex_cb (callP_isi) rfl T.z_isinstance bt_isinstance ?_
    refine ax_cons ?_ ?_
    · exact ex_v 0
    refine ax_cons ?_ ?_
    · exact ex_bltn rfl T.z_int bt_int
    exact ax_nil
  refine ex_and ?_ ?_
  · refine ex_not ?_
    refine ex_cb (callP_isi) rfl T.z_isinstance bt_isinstance ?_
    refine ax_cons ?_ ?_
    · exact ex_v 0
    refine ax_cons ?_ ?_
    · exact ex_bltn rfl T.z_bool bt_bool
    exact ax_nil
  refine ex_one ?_
  refine ex_chain opP_lt opP_lt ?_ ?_ ?_
  · refine ex_neg ?_
    exact ex_globI rfl T.c_LONGEST
  · exact ex_v 0
  exact ex_globI rfl T.c_LONGEST

theorem sc_is_word : FnScope N_is_word ["value"] (defScope s_is_word) := ⟨rfl, rfl, rfl, by decide +kernel, rfl, by decide +kernel, by decide +kernel⟩
theorem ok_is_word {f : Addr} {fd : FuncData} (T : Txt K mg)  (F : L2.Fun K "is_word" "is_word" s_is_word f fd) (hm : mg "is_word" = some (.ref f)) : Fn P w K mg base 1 "is_word" 1 [] D_is_word := by
  refine fn_mk' (k := 0) (d := B_is_word) F sc_is_word hm (F.binds (ps := ["value"]) fun _ _ _ _ _ _ us hl => match us, hl with | [_], _ => rfl) fun cdv A outer s H E hr tk => ?_
  have nd := sc_is_word.nd
  have hu64 := hr.units
  have hu65 := hu65 hr
  have pso := passes_of (X := cxOf (L2.CX P w) P w K mg base N_is_word "is_word" (defScope s_is_word) f cdv A outer s H E) rfl
  refine ss_one ?_
  refine sx_ret ?_
  refine ex_and ?_ ?_
  · refine ex_cb (callP_isi) rfl T.z_isinstance bt_isinstance ?_
    refine ax_cons ?_ ?_
    · exact ex_v 0
    refine ax_cons ?_ ?_
    · exact ex_bltn rfl T.z_str bt_str
    exact ax_nil
  refine ex_and ?_ ?_
  · refine ex_chain opP_le opP_le ?_ ?_ ?_
    · exact ex_int
    · refine ex_cb (callP_len) rfl T.z_len bt_len ?_
      refine ax_cons ?_ ?_
      · exact ex_v 0
      exact ax_nil
    exact ex_globI rfl T.c_MAX_LETTERS
  refine ex_one ?_
  refine ex_cb (callP_all rfl) rfl T.z_all bt_all ?_
  refine ax_cons ?_ ?_
  · refine ex_f ?_
    refine ef_lc (own := [("sign", 1)]) (us := [1]) rfl nd ?_ (blkOk_by (own := [("sign", 1)]) (N := N_is_word) (sc := defScope s_is_word) (by decide +kernel)) (by decide) ?_ ?_ ?_
    · refine ix_a ?_
      exact ex_v 0
    · intro _ _ _ _ _
      exact gx_name (i := 1) nd rfl (Or.inl rfl)
    · intro _ _ _ _ _
      exact ts_nil
    intro _ _ _ _ _
    refine ex_cmp (opP_in hu65) ?_ ?_
    · exact ex_v 1
    exact ex_globS rfl T.c_LETTERS
  exact ax_nil

theorem sc__law_dice : FnScope N__law_dice ["script", "spot"] (defScope s__law_dice) := ⟨rfl, rfl, rfl, by decide +kernel, rfl, by decide +kernel, by decide +kernel⟩
theorem ok__law_dice {f : Addr} {fd : FuncData} (T : Txt K mg)  (F : L2.Fun K "_law_dice" "_law_dice" s__law_dice f fd) (hm : mg "_law_dice" = some (.ref f)) : Fn P w K mg base 1 "_law_dice" 2 [] D__law_dice := by
  refine fn_mk' (k := 0) (d := B__law_dice) F sc__law_dice hm (F.binds (ps := ["script", "spot"]) fun _ _ _ _ _ _ us hl => match us, hl with | [_, _], _ => rfl) fun cdv A outer s H E hr tk => ?_
  have nd := sc__law_dice.nd
  have hu64 := hr.units
  have hu65 := hu65 hr
  have pso := passes_of (X := cxOf (L2.CX P w) P w K mg base N__law_dice "_law_dice" (defScope s__law_dice) f cdv A outer s H E) rfl
  refine ss_cons ?_ ?_
  · refine sx_set (i := 2) nd rfl (Or.inl rfl) ?_
    refine ex_bin opP_add ?_ ?_
    · refine ex_bin opP_mul ?_ ?_
      · exact ex_int
      exact ex_v 1
    exact ex_int
  refine ss_cons ?_ ?_
  · refine sx_if ?_ ?_ ?_
    · refine bx_cmp opP_lt ?_ ?_
      · exact ex_v 1
      refine ex_cb (callP_len) rfl T.z_len bt_len ?_
      refine ax_cons ?_ ?_
      · exact ex_v 0
      exact ax_nil
    · refine ss_one ?_
      refine sx_set (i := 2) nd rfl (Or.inl rfl) ?_
      refine ex_ix ?_ ?_
      · exact ex_v 0
      exact ex_v 1
    exact ss_nil
  refine ss_cons ?_ ?_
  · refine sx_set (i := 3) nd rfl (Or.inl rfl) ?_
    refine ex_bin opP_mod ?_ ?_
    · refine ex_ct (callP_int) rfl T.z_int bt_int ?_
      refine ax_cons ?_ ?_
      · refine ex_cb (callP_abs) rfl T.z_abs bt_abs ?_
        refine ax_cons ?_ ?_
        · exact ex_v 2
        exact ax_nil
      exact ax_nil
    refine ex_bin opP_pow ?_ ?_
    · refine ex_bin opP_pow ?_ ?_
      · exact ex_int
      exact ex_int
    exact ex_int
  refine ss_cons ?_ ?_
  · refine sx_set (i := 4) nd rfl (Or.inl rfl) ?_
    refine ex_bin opP_add ?_ ?_
    · refine ex_bin opP_add ?_ ?_
      · refine ex_bin opP_add ?_ ?_
        · refine ex_bin opP_mul ?_ ?_
          · refine ex_bin opP_mod ?_ ?_
            · refine ex_ct (callP_int) rfl T.z_int bt_int ?_
              refine ax_cons ?_ ?_
              · exact ex_v 3
              exact ax_nil
            exact ex_int
          exact ex_int
        refine ex_bin opP_mul ?_ ?_
        · exact ex_int
        exact ex_v 1
      refine ex_bin opP_mul ?_ ?_
      · exact ex_int
      refine ex_ct (callP_int) rfl T.z_int bt_int ?_
      refine ax_cons ?_ ?_
      · refine ex_cmp opP_lt ?_ ?_
        · exact ex_v 2
        exact ex_int
      exact ax_nil
    exact ex_int
  refine ss_one ?_
  refine sx_ret ?_
  refine ex_cell ?_
  refine ef_lst ?_
  refine ax_cons ?_ ?_
  · refine ex_cb (callP_max2 rfl) rfl T.z_max bt_max ?_
    refine ax_cons ?_ ?_
    · exact ex_int
    refine ax_cons ?_ ?_
    · refine ex_bin opP_sub ?_ ?_
      · exact ex_v 3
      refine ex_bin opP_pow ?_ ?_
      · exact ex_int
      exact ex_int
    exact ax_nil
  refine ax_cons ?_ ?_
  · refine ex_bin opP_mod ?_ ?_
    · refine ex_ct (callP_int) rfl T.z_int bt_int ?_
      refine ax_cons ?_ ?_
      · exact ex_v 4
      exact ax_nil
    exact ex_int
  refine ax_cons ?_ ?_
  · exact ex_int
  exact ax_nil

theorem sc__law_roll : FnScope N__law_roll ["dice", "total"] (defScope s__law_roll) := ⟨rfl, rfl, rfl, by decide +kernel, rfl, by decide +kernel, by decide +kernel⟩
theorem ok__law_roll {f : Addr} {fd : FuncData} (T : Txt K mg)  (F : L2.Fun K "_law_roll" "_law_roll" s__law_roll f fd) (hm : mg "_law_roll" = some (.ref f)) : Fn P w K mg base 1 "_law_roll" 2 [] D__law_roll := by
  refine fn_mk' (k := 0) (d := B__law_roll) F sc__law_roll hm (F.binds (ps := ["dice", "total"]) fun _ _ _ _ _ _ us hl => match us, hl with | [_, _], _ => rfl) fun cdv A outer s H E hr tk => ?_
  have nd := sc__law_roll.nd
  have hu64 := hr.units
  have hu65 := hu65 hr
  have pso := passes_of (X := cxOf (L2.CX P w) P w K mg base N__law_roll "_law_roll" (defScope s__law_roll) f cdv A outer s H E) rfl
  refine ss_cons ?_ ?_
  · refine sx_if ?_ ?_ ?_
    · refine bx_cmp opP_gt ?_ ?_
      · refine ex_ix ?_ ?_
        · exact ex_v 0
        exact ex_int
      exact ex_int
    · refine ss_cons ?_ ?_
      · refine sx_set (i := 2) nd rfl (Or.inl rfl) ?_
        refine ex_bin opP_mod ?_ ?_
        · refine ex_ct (callP_int) rfl T.z_int bt_int ?_
          refine ax_cons ?_ ?_
          · refine ex_ix ?_ ?_
            · exact ex_v 0
            exact ex_int
          exact ax_nil
        exact ex_v 1
      refine ss_cons ?_ ?_
      · refine sx_sub ?_ ?_ ?_ setP_list
        · refine ex_bin opP_div ?_ ?_
          · refine ex_ix ?_ ?_
            · exact ex_v 0
            exact ex_int
          exact ex_v 1
        · exact ex_v 0
        exact ex_int
      refine ss_one ?_
      refine sx_ret ?_
      exact ex_v 2
    exact ss_nil
  refine ss_cons ?_ ?_
  · refine sx_sub ?_ ?_ ?_ setP_list
    · refine ex_bin opP_add ?_ ?_
      · refine ex_ix ?_ ?_
        · exact ex_v 0
        exact ex_int
      exact ex_int
    · exact ex_v 0
    exact ex_int
  refine ss_cons ?_ ?_
  · refine sx_set (i := 3) nd rfl (Or.inl rfl) ?_
    refine ex_bin opP_mod ?_ ?_
    · refine ex_ct (callP_int) rfl T.z_int bt_int ?_
      refine ax_cons ?_ ?_
      · refine ex_bin opP_add ?_ ?_
        · refine ex_ix ?_ ?_
          · exact ex_v 0
          exact ex_int
        refine ex_bin opP_mul ?_ ?_
        · exact ex_int
        refine ex_ix ?_ ?_
        · exact ex_v 0
        exact ex_int
      exact ax_nil
    exact ex_int
  refine ss_cons ?_ ?_
  · refine sx_set (i := 4) nd rfl (Or.inl rfl) ?_
    refine ex_bin opP_add ?_ ?_
    · refine ex_bin opP_mul ?_ ?_
      · refine ex_bin opP_mod ?_ ?_
        · refine ex_ct (callP_int) rfl T.z_int bt_int ?_
          refine ax_cons ?_ ?_
          · refine ex_bin opP_mul ?_ ?_
            · exact ex_v 3
            exact ex_v 3
          exact ax_nil
        exact ex_int
      exact ex_v 3
    refine ex_bin opP_mul ?_ ?_
    · exact ex_int
    refine ex_ix ?_ ?_
    · exact ex_v 0
    exact ex_int
  refine ss_cons ?_ ?_
  · refine sx_set (i := 4) nd rfl (Or.inl rfl) ?_
    refine ex_bin opP_mod ?_ ?_
    · refine ex_ct (callP_int) rfl T.z_int bt_int ?_
      refine ax_cons ?_ ?_
      · exact ex_v 4
      exact ax_nil
    exact ex_int
  refine ss_one ?_
  refine sx_ret ?_
  refine ex_bin opP_mod ?_ ?_
  · refine ex_ct (callP_int) rfl T.z_int bt_int ?_
    refine ax_cons ?_ ?_
    · refine ex_bin opP_div ?_ ?_
      · exact ex_v 4
      exact ex_int
    exact ax_nil
  exact ex_v 1

theorem sc_is_pair : FnScope N_is_pair ["value"] (defScope s_is_pair) := ⟨rfl, rfl, rfl, by decide +kernel, rfl, by decide +kernel, by decide +kernel⟩
theorem ok_is_pair {f : Addr} {fd : FuncData} (T : Txt K mg) (G_is_word : Fn P w K mg base 1 "is_word" 1 [] D_is_word) (F : L2.Fun K "is_pair" "is_pair" s_is_pair f fd) (hm : mg "is_pair" = some (.ref f)) : Fn P w K mg base 2 "is_pair" 1 [] D_is_pair := by
  refine fn_mk' (k := 1) (d := B_is_pair) F sc_is_pair hm (F.binds (ps := ["value"]) fun _ _ _ _ _ _ us hl => match us, hl with | [_], _ => rfl) fun cdv A outer s H E hr tk => ?_
  have nd := sc_is_pair.nd
  have hu64 := hr.units
  have hu65 := hu65 hr
  have pso := passes_of (X := cxOf (L2.CX P w) P w K mg base N_is_pair "is_pair" (defScope s_is_pair) f cdv A outer s H E) rfl
  refine ss_cons ?_ ?_
  · refine sx_if ?_ ?_ ?_
    · refine bx_w ?_
      refine wx_or ?_ ?_
      · refine bx_not ?_
        refine bx_val ?_
        refine ex_cb (callP_isi) rfl T.z_isinstance bt_isinstance ?_
        refine ax_cons ?_ ?_
        · exact ex_v 0
        refine ax_cons ?_ ?_
        · exact ex_bltn rfl T.z_tuple bt_tuple
        exact ax_nil
      refine wx_or ?_ ?_
      · refine bx_cmp (opP_ne hu64) ?_ ?_
        · refine ex_cb (callP_len) rfl T.z_len bt_len ?_
          refine ax_cons ?_ ?_
          · exact ex_v 0
          exact ax_nil
        exact ex_int
      refine wx_or ?_ ?_
      · refine bx_not ?_
        refine bx_val ?_
        refine ex_call G_is_word (hr.mono (by decide)) tk rfl ?_
        refine ax_cons ?_ ?_
        · refine ex_ix ?_ ?_
          · exact ex_v 0
          exact ex_int
        exact ax_nil
      refine wx_or1 ?_
      refine bx_not ?_
      refine bx_val ?_
      refine ex_call G_is_word (hr.mono (by decide)) tk rfl ?_
      refine ax_cons ?_ ?_
      · refine ex_ix ?_ ?_
        · exact ex_v 0
        exact ex_int
      exact ax_nil
    · refine ss_one ?_
      refine sx_ret ?_
      exact ex_bl
    exact ss_nil
  refine ss_one ?_
  refine sx_ret ?_
  refine ex_cmp opP_lt ?_ ?_
  · refine ex_ix ?_ ?_
    · exact ex_v 0
    exact ex_int
  refine ex_ix ?_ ?_
  · exact ex_v 0
  exact ex_int

theorem sc__law_pick : FnScope N__law_pick ["dice", "items"] (defScope s__law_pick) := ⟨rfl, rfl, rfl, by decide +kernel, rfl, by decide +kernel, by decide +kernel⟩
theorem ok__law_pick {f : Addr} {fd : FuncData} (T : Txt K mg) (G__law_roll : Fn P w K mg base 1 "_law_roll" 2 [] D__law_roll) (F : L2.Fun K "_law_pick" "_law_pick" s__law_pick f fd) (hm : mg "_law_pick" = some (.ref f)) : Fn P w K mg base 2 "_law_pick" 2 [] D__law_pick := by
  refine fn_mk' (k := 1) (d := B__law_pick) F sc__law_pick hm (F.binds (ps := ["dice", "items"]) fun _ _ _ _ _ _ us hl => match us, hl with | [_, _], _ => rfl) fun cdv A outer s H E hr tk => ?_
  have nd := sc__law_pick.nd
  have hu64 := hr.units
  have hu65 := hu65 hr
  have pso := passes_of (X := cxOf (L2.CX P w) P w K mg base N__law_pick "_law_pick" (defScope s__law_pick) f cdv A outer s H E) rfl
  refine ss_one ?_
  refine sx_ret ?_
  refine ex_ix ?_ ?_
  · exact ex_v 1
  refine ex_call G__law_roll (hr.mono (by decide)) tk rfl ?_
  refine ax_cons ?_ ?_
  · exact ex_v 0
  refine ax_cons ?_ ?_
  · refine ex_cb (callP_len) rfl T.z_len bt_len ?_
    refine ax_cons ?_ ?_
    · exact ex_v 1
    exact ax_nil
  exact ax_nil

theorem sc__law_some : FnScope N__law_some ["dice", "items", "size"] (defScope s__law_some) := ⟨rfl, rfl, rfl, by decide +kernel, rfl, by decide +kernel, by decide +kernel⟩
theorem ok__law_some {f : Addr} {fd : FuncData} (T : Txt K mg) (G__law_roll : Fn P w K mg base 1 "_law_roll" 2 [] D__law_roll) (F : L2.Fun K "_law_some" "_law_some" s__law_some f fd) (hm : mg "_law_some" = some (.ref f)) : Fn P w K mg base 2 "_law_some" 3 [] D__law_some := by
  refine fn_mk' (k := 1) (d := B__law_some) F sc__law_some hm (F.binds (ps := ["dice", "items", "size"]) fun _ _ _ _ _ _ us hl => match us, hl with | [_, _, _], _ => rfl) fun cdv A outer s H E hr tk => ?_
  have nd := sc__law_some.nd
  have hu64 := hr.units
  have hu65 := hu65 hr
  have pso := passes_of (X := cxOf (L2.CX P w) P w K mg base N__law_some "_law_some" (defScope s__law_some) f cdv A outer s H E) rfl
  refine ss_cons ?_ ?_
  · refine sx_set (i := 3) nd rfl (Or.inr rfl) ?_
    refine ex_cell ?_
    refine ef_ct (callF_list rfl) rfl T.z_list bt_list ?_
    refine ax_cons ?_ ?_
    · exact ex_v 1
    exact ax_nil
  refine ss_one ?_
  refine sx_ret ?_
  refine ex_f ?_
  refine ef_lc (own := [("turn", 4)]) (us := [4]) rfl nd ?_ (blkOk_by (own := [("turn", 4)]) (N := N__law_some) (sc := defScope s__law_some) (by decide +kernel)) (by decide) ?_ ?_ ?_
  · refine ix_r1 rfl T.z_range ?_
    refine ax_cons ?_ ?_
    · refine ex_cb (callP_min2 rfl) rfl T.z_min bt_min ?_
      refine ax_cons ?_ ?_
      · exact ex_v 2
      refine ax_cons ?_ ?_
      · refine ex_cb (callP_len) rfl T.z_len bt_len ?_
        refine ax_cons ?_ ?_
        · exact ex_v 3
        exact ax_nil
      exact ax_nil
    exact ax_nil
  · intro _ _ _ _ _
    exact gx_name (i := 4) nd rfl (Or.inl rfl)
  · intro _ _ _ _ _
    exact ts_nil
  intro _ _ _ _ _
  refine ex_m tyM_lst PySem.F.plainAttrs_list PySem.F.slot_list_pop PySem.F.type_list_pop mtP_pop ?_ ?_
  · exact ex_v 3
  refine ax_cons ?_ ?_
  · refine ex_call G__law_roll (hr.mono (by decide)) takes0 rfl ?_
    refine ax_cons ?_ ?_
    · exact ex_v 0
    refine ax_cons ?_ ?_
    · refine ex_cb (callP_len) rfl T.z_len bt_len ?_
      refine ax_cons ?_ ?_
      · exact ex_v 3
      exact ax_nil
    exact ax_nil
  exact ax_nil

theorem sc__law_row : FnScope N__law_row ["dice"] (defScope s__law_row) := ⟨rfl, rfl, rfl, by decide +kernel, rfl, by decide +kernel, by decide +kernel⟩
theorem ok__law_row {f : Addr} {fd : FuncData} (T : Txt K mg) (G__law_roll : Fn P w K mg base 1 "_law_roll" 2 [] D__law_roll) (G__law_pick : Fn P w K mg base 2 "_law_pick" 2 [] D__law_pick) (G__law_some : Fn P w K mg base 2 "_law_some" 3 [] D__law_some) (F : L2.Fun K "_law_row" "_law_row" s__law_row f fd) (hm : mg "_law_row" = some (.ref f)) : Fn P w K mg base 3 "_law_row" 1 [] D__law_row := by
  refine fn_mk' (k := 2) (d := B__law_row) F sc__law_row hm (F.binds (ps := ["dice"]) fun _ _ _ _ _ _ us hl => match us, hl with | [_], _ => rfl) fun cdv A outer s H E hr tk => ?_
  have nd := sc__law_row.nd
  have hu64 := hr.units
  have hu65 := hu65 hr
  have pso := passes_of (X := cxOf (L2.CX P w) P w K mg base N__law_row "_law_row" (defScope s__law_row) f cdv A outer s H E) rfl
  refine ss_cons ?_ ?_
  · refine sx_par (i := 1) (j := 2) rfl nd rfl rfl (by decide) rfl rfl ?_ (by rfl)
    refine ax_cons ?_ ?_
    · refine ex_call G__law_pick (hr.mono (by decide)) tk rfl ?_
      refine ax_cons ?_ ?_
      · exact ex_v 0
      refine ax_cons ?_ ?_
      · refine ex_f ?_
        refine ef_lst ?_
        refine ax_cons ?_ ?_
        · refine ex_bin opP_pow ?_ ?_
          · exact ex_int
          exact ex_int
        refine ax_cons ?_ ?_
        · refine ex_bin opP_sub ?_ ?_
          · refine ex_bin opP_pow ?_ ?_
            · exact ex_int
            exact ex_int
          exact ex_int
        refine ax_cons ?_ ?_
        · exact ex_int
        refine ax_cons ?_ ?_
        · refine ex_bin opP_pow ?_ ?_
          · exact ex_int
          exact ex_int
        exact ax_nil
      exact ax_nil
    refine ax_cons ?_ ?_
    · refine ex_call G__law_roll (hr.mono (by decide)) tk rfl ?_
      refine ax_cons ?_ ?_
      · exact ex_v 0
      refine ax_cons ?_ ?_
      · exact ex_int
      exact ax_nil
    exact ax_nil
  refine ss_cons ?_ ?_
  · refine sx_asg (vs := [3, 4]) ?_ ?_
    · refine ex_call G__law_some (hr.mono (by decide)) tk rfl ?_
      refine ax_cons ?_ ?_
      · exact ex_v 0
      refine ax_cons ?_ ?_
      · refine ex_f ?_
        refine ef_lst ?_
        refine ax_cons ?_ ?_
        · exact ex_str
        refine ax_cons ?_ ?_
        · exact ex_str
        refine ax_cons ?_ ?_
        · exact ex_str
        refine ax_cons ?_ ?_
        · exact ex_str
        refine ax_cons ?_ ?_
        · exact ex_str
        refine ax_cons ?_ ?_
        · exact ex_str
        refine ax_cons ?_ ?_
        · exact ex_str
        refine ax_cons ?_ ?_
        · exact ex_str
        refine ax_cons ?_ ?_
        · exact ex_str
        exact ax_nil
      refine ax_cons ?_ ?_
      · exact ex_int
      exact ax_nil
    refine gx_seq rfl ?_
    refine gs_cons (v1 := [3]) (v2 := [4]) ?_ ?_
    · exact gx_name (i := 3) nd rfl (Or.inl rfl)
    refine gs_cons (v1 := [4]) (v2 := []) ?_ ?_
    · exact gx_name (i := 4) nd rfl (Or.inl rfl)
    exact gs_nil
  refine ss_cons ?_ ?_
  · refine sx_set (i := 5) nd rfl (Or.inl rfl) ?_
    refine ex_cell ?_
    refine ef_lst ?_
    refine ax_cons ?_ ?_
    · refine ex_tup ?_
      refine ax_cons ?_ ?_
      · exact ex_v 1
      refine ax_cons ?_ ?_
      · exact ex_bl
      refine ax_cons ?_ ?_
      · exact ex_bl
      exact ax_nil
    refine ax_cons ?_ ?_
    · refine ex_tup ?_
      refine ax_cons ?_ ?_
      · refine ex_neg ?_
        exact ex_v 1
      refine ax_cons ?_ ?_
      · exact ex_bl
      refine ax_cons ?_ ?_
      · exact ex_bl
      exact ax_nil
    refine ax_cons ?_ ?_
    · refine ex_tup ?_
      refine ax_cons ?_ ?_
      · refine ex_bin opP_add ?_ ?_
        · refine ex_bin opP_pow ?_ ?_
          · exact ex_int
          exact ex_int
        exact ex_v 2
      refine ax_cons ?_ ?_
      · exact ex_bl
      refine ax_cons ?_ ?_
      · exact ex_bl
      exact ax_nil
    refine ax_cons ?_ ?_
    · refine ex_tup ?_
      refine ax_cons ?_ ?_
      · exact ex_v 2
      refine ax_cons ?_ ?_
      · exact ex_bl
      refine ax_cons ?_ ?_
      · exact ex_bl
      exact ax_nil
    exact ax_nil
  refine ss_cons ?_ ?_
  · refine sx_set (i := 5) nd rfl (Or.inl rfl) ?_
    refine ex_cell ?_
    refine ef_bin opF_cat ?_ ?_
    · exact ex_v 5
    refine ex_f ?_
    refine ef_lst ?_
    refine ax_cons ?_ ?_
    · refine ex_tup ?_
      refine ax_cons ?_ ?_
      · refine ex_bin opP_sub ?_ ?_
        · refine ex_neg ?_
          refine ex_bin opP_pow ?_ ?_
          · exact ex_int
          exact ex_int
        exact ex_v 2
      refine ax_cons ?_ ?_
      · exact ex_bl
      refine ax_cons ?_ ?_
      · exact ex_bl
      exact ax_nil
    refine ax_cons ?_ ?_
    · refine ex_tup ?_
      refine ax_cons ?_ ?_
      · refine ex_cmp (opP_eq hu64) ?_ ?_
        · refine ex_bin opP_mod ?_ ?_
          · exact ex_v 2
          exact ex_int
        exact ex_int
      refine ax_cons ?_ ?_
      · exact ex_bl
      refine ax_cons ?_ ?_
      · exact ex_bl
      exact ax_nil
    refine ax_cons ?_ ?_
    · refine ex_tup ?_
      refine ax_cons ?_ ?_
      · refine ex_tup ?_
        refine ax_cons ?_ ?_
        · exact ex_v 3
        refine ax_cons ?_ ?_
        · exact ex_v 3
        exact ax_nil
      refine ax_cons ?_ ?_
      · exact ex_bl
      refine ax_cons ?_ ?_
      · exact ex_bl
      exact ax_nil
    exact ax_nil
  refine ss_cons ?_ ?_
  · refine sx_set (i := 5) nd rfl (Or.inl rfl) ?_
    refine ex_cell ?_
    refine ef_bin opF_cat ?_ ?_
    · exact ex_v 5
    refine ex_bin opP_mul ?_ ?_
    · refine ex_f ?_
      refine ef_lst ?_
      refine ax_cons ?_ ?_
      · refine ex_tup ?_
        refine ax_cons ?_ ?_
        · refine ex_tup ?_
          refine ax_cons ?_ ?_
          · exact ex_v 3
          refine ax_cons ?_ ?_
          · exact ex_v 4
          exact ax_nil
        refine ax_cons ?_ ?_
        · exact ex_bl
        refine ax_cons ?_ ?_
        · refine ex_cmp opP_lt ?_ ?_
          · exact ex_v 3
          exact ex_v 4
        exact ax_nil
      refine ax_cons ?_ ?_
      · refine ex_tup ?_
        refine ax_cons ?_ ?_
        · refine ex_tup ?_
          refine ax_cons ?_ ?_
          · exact ex_v 4
          refine ax_cons ?_ ?_
          · exact ex_v 3
          exact ax_nil
        refine ax_cons ?_ ?_
        · exact ex_bl
        refine ax_cons ?_ ?_
        · refine ex_cmp opP_lt ?_ ?_
          · exact ex_v 4
          exact ex_v 3
        exact ax_nil
      exact ax_nil
    exact ex_int
  refine ss_cons ?_ ?_
  · refine sx_for (vs := [6]) pso rfl ?_ ?_ ?_
    · refine ix_a ?_
      refine ex_f ?_
      refine ef_lst ?_
      refine ax_cons ?_ ?_
      · exact ex_non
      refine ax_cons ?_ ?_
      · exact ex_str
      refine ax_cons ?_ ?_
      · exact ex_str
      refine ax_cons ?_ ?_
      · refine ex_tup ?_
        refine ax_cons ?_ ?_
        · exact ex_int
        exact ax_nil
      refine ax_cons ?_ ?_
      · refine ex_f ?_
        refine ef_lst ?_
        exact ax_nil
      refine ax_cons ?_ ?_
      · refine ex_f ?_
        exact ef_dict0
      refine ax_cons ?_ ?_
      · refine ex_tup ?_
        exact ax_nil
      refine ax_cons ?_ ?_
      · refine ex_tup ?_
        refine ax_cons ?_ ?_
        · exact ex_v 3
        exact ax_nil
      refine ax_cons ?_ ?_
      · refine ex_tup ?_
        refine ax_cons ?_ ?_
        · exact ex_v 3
        refine ax_cons ?_ ?_
        · exact ex_v 4
        refine ax_cons ?_ ?_
        · exact ex_str
        exact ax_nil
      refine ax_cons ?_ ?_
      · refine ex_f ?_
        refine ef_lst ?_
        refine ax_cons ?_ ?_
        · exact ex_v 3
        refine ax_cons ?_ ?_
        · exact ex_v 4
        exact ax_nil
      refine ax_cons ?_ ?_
      · refine ex_tup ?_
        refine ax_cons ?_ ?_
        · exact ex_v 3
        refine ax_cons ?_ ?_
        · exact ex_int
        exact ax_nil
      refine ax_cons ?_ ?_
      · refine ex_tup ?_
        refine ax_cons ?_ ?_
        · exact ex_int
        refine ax_cons ?_ ?_
        · exact ex_int
        exact ax_nil
      refine ax_cons ?_ ?_
      · refine ex_tup ?_
        refine ax_cons ?_ ?_
        · exact ex_str
        refine ax_cons ?_ ?_
        · exact ex_str
        exact ax_nil
      exact ax_nil
    · exact gx_name (i := 6) nd rfl (Or.inl rfl)
    refine ss_one ?_
    refine sx_expr ?_
    refine ex_m tyM_lst PySem.F.plainAttrs_list PySem.F.slot_list_append PySem.F.type_list_append mtP_append ?_ ?_
    · exact ex_v 5
    refine ax_cons ?_ ?_
    · refine ex_tup ?_
      refine ax_cons ?_ ?_
      · exact ex_v 6
      refine ax_cons ?_ ?_
      · exact ex_bl
      refine ax_cons ?_ ?_
      · exact ex_bl
      exact ax_nil
    exact ax_nil
  refine ss_cons ?_ ?_
  · refine sx_for (vs := [6]) pso rfl ?_ ?_ ?_
    · refine ix_a ?_
      refine ex_f ?_
      refine ef_lst ?_
      refine ax_cons ?_ ?_
      · refine ex_tup ?_
        refine ax_cons ?_ ?_
        · exact ex_str
        refine ax_cons ?_ ?_
        · exact ex_str
        exact ax_nil
      refine ax_cons ?_ ?_
      · refine ex_tup ?_
        refine ax_cons ?_ ?_
        · exact ex_str
        refine ax_cons ?_ ?_
        · exact ex_str
        exact ax_nil
      refine ax_cons ?_ ?_
      · refine ex_tup ?_
        refine ax_cons ?_ ?_
        · exact ex_str
        refine ax_cons ?_ ?_
        · exact ex_str
        exact ax_nil
      refine ax_cons ?_ ?_
      · refine ex_bin opP_add ?_ ?_
        · exact ex_v 3
        exact ex_v 4
      refine ax_cons ?_ ?_
      · refine ex_tup ?_
        refine ax_cons ?_ ?_
        · refine ex_tup ?_
          refine ax_cons ?_ ?_
          · exact ex_v 3
          refine ax_cons ?_ ?_
          · exact ex_v 4
          exact ax_nil
        exact ax_nil
      refine ax_cons ?_ ?_
      · refine ex_tup ?_
        refine ax_cons ?_ ?_
        · exact ex_non
        refine ax_cons ?_ ?_
        · exact ex_v 3
        exact ax_nil
      refine ax_cons ?_ ?_
      · refine ex_tup ?_
        refine ax_cons ?_ ?_
        · exact ex_v 3
        refine ax_cons ?_ ?_
        · exact ex_non
        exact ax_nil
      exact ax_nil
    · exact gx_name (i := 6) nd rfl (Or.inl rfl)
    refine ss_one ?_
    refine sx_expr ?_
    refine ex_m tyM_lst PySem.F.plainAttrs_list PySem.F.slot_list_append PySem.F.type_list_append mtP_append ?_ ?_
    · exact ex_v 5
    refine ax_cons ?_ ?_
    · refine ex_tup ?_
      refine ax_cons ?_ ?_
      · exact ex_v 6
      refine ax_cons ?_ ?_
      · exact ex_bl
      refine ax_cons ?_ ?_
      · exact ex_bl
      exact ax_nil
    exact ax_nil
  refine ss_one ?_
  refine sx_ret ?_
  refine ex_call G__law_pick (hr.mono (by decide)) tk rfl ?_
  refine ax_cons ?_ ?_
  · exact ex_v 0
  refine ax_cons ?_ ?_
  · exact ex_v 5
  exact ax_nil

theorem sc_law : FnScope N_law ["script"] (defScope s_law) := ⟨rfl, rfl, rfl, by decide +kernel, rfl, by decide +kernel, by decide +kernel⟩
end
theorem ok_law_fn {P : Program} {w : World} {K : PySem.W.Frag} {mg : Str → Option Value} {base : Heap} {f : Addr} {fd : FuncData} (T : Txt K mg) (G__law_dice : Fn P w K mg base 1 "_law_dice" 2 [] D__law_dice) (G__law_row : Fn P w K mg base 3 "_law_row" 1 [] D__law_row) (G_is_pair : Fn P w K mg base 2 "is_pair" 1 [] D_is_pair) (G_is_integer : Fn P w K mg base 1 "is_integer" 1 [] D_is_integer) (F : L2.Fun K "law" "law" s_law f fd) (hm : mg "law" = some (.ref f)) : FnG P w K mg base 4 f fd ["script"] (spF K 1 D_law) := by
  unfold D_law
  refine fn_okT (k := 3) (d := B_law) F sc_law rfl rfl fun cdv A outer s H E hgd hr tk => ?_
  have nd := sc_law.nd
  have hu64 := hr.units
  have hu65 := hu65 hr
  have pso := passes_of (X := cxOf (L2.CX P w) P w K mg base N_law "law" (defScope s_law) f cdv A outer s H E) rfl
  refine ss_cons ?_ ?_
  · refine sx_for (vs := [1]) pso rfl ?_ ?_ ?_
    · refine ix_r1 rfl T.z_range ?_
      refine ax_cons ?_ ?_
      · refine ex_cb (callP_max2 rfl) rfl T.z_max bt_max ?_
        refine ax_cons ?_ ?_
        · exact ex_int
        refine ax_cons ?_ ?_
        · refine ex_cb (callP_min2 rfl) rfl T.z_min bt_min ?_
          refine ax_cons ?_ ?_
          · exact ex_int
          refine ax_cons ?_ ?_
          · refine ex_cb (callP_len) rfl T.z_len bt_len ?_
            refine ax_cons ?_ ?_
            · exact ex_v 0
            exact ax_nil
          exact ax_nil
        exact ax_nil
      exact ax_nil
    · exact gx_name (i := 1) nd rfl (Or.inl rfl)
    refine ss_cons ?_ ?_
    · refine sx_set (i := 2) nd rfl (Or.inl rfl) ?_
      refine ex_call G__law_dice (hr.mono (by decide)) tk rfl ?_
      refine ax_cons ?_ ?_
      · exact ex_v 0
      refine ax_cons ?_ ?_
      · exact ex_v 1
      exact ax_nil
    refine ss_one ?_
    refine sx_for (vs := [3]) pso rfl ?_ ?_ ?_
    · refine ix_r1 rfl T.z_range ?_
      refine ax_cons ?_ ?_
      · exact ex_int
      exact ax_nil
    · exact gx_name (i := 3) nd rfl (Or.inl rfl)
    refine ss_cons ?_ ?_
    · refine sx_asg (vs := [4, 5, 6]) ?_ ?_
      · refine ex_call G__law_row (hr.mono (by decide)) tk rfl ?_
        refine ax_cons ?_ ?_
        · exact ex_v 2
        exact ax_nil
      refine gx_seq rfl ?_
      refine gs_cons (v1 := [4]) (v2 := [5, 6]) ?_ ?_
      · exact gx_name (i := 4) nd rfl (Or.inl rfl)
      refine gs_cons (v1 := [5]) (v2 := [6]) ?_ ?_
      · exact gx_name (i := 5) nd rfl (Or.inl rfl)
      refine gs_cons (v1 := [6]) (v2 := []) ?_ ?_
      · exact gx_name (i := 6) nd rfl (Or.inl rfl)
      exact gs_nil
    refine ss_one ?_
    refine sx_if ?_ ?_ ?_
    · refine bx_cmp (opP_ne hu64) ?_ ?_
      · refine ex_cb (callP_reprD hgd hu64) rfl T.z_repr bt_repr ?_
        refine ax_cons ?_ ?_
        · refine ex_f ?_
          refine ef_lst ?_
          refine ax_cons ?_ ?_
          · refine ex_call G_is_integer (hr.mono (by decide)) tk rfl ?_
            refine ax_cons ?_ ?_
            · exact ex_v 4
            exact ax_nil
          refine ax_cons ?_ ?_
          · refine ex_call G_is_pair (hr.mono (by decide)) tk rfl ?_
            refine ax_cons ?_ ?_
            · exact ex_v 4
            exact ax_nil
          exact ax_nil
        exact ax_nil
      refine ex_cb (callP_reprD hgd hu64) rfl T.z_repr bt_repr ?_
      refine ax_cons ?_ ?_
      · refine ex_f ?_
        refine ef_lst ?_
        refine ax_cons ?_ ?_
        · exact ex_v 5
        refine ax_cons ?_ ?_
        · exact ex_v 6
        exact ax_nil
      exact ax_nil
    · refine ss_one ?_
      refine sx_ret ?_
      exact ex_bl
    exact ss_nil
  refine ss_cons ?_ ?_
  · refine sx_if ?_ ?_ ?_
    · refine bx_cmp (opP_ne hu64) ?_ ?_
      · refine ex_f ?_
        refine ef_lst ?_
        refine ax_cons ?_ ?_
        · refine ex_call G_is_integer (hr.mono (by decide)) tk rfl ?_
          refine ax_cons ?_ ?_
          · refine ex_bin opP_sub ?_ ?_
            · refine ex_bin opP_pow ?_ ?_
              · exact ex_int
              exact ex_int
            exact ex_int
          exact ax_nil
        refine ax_cons ?_ ?_
        · refine ex_call G_is_integer (hr.mono (by decide)) tk rfl ?_
          refine ax_cons ?_ ?_
          · refine ex_bin opP_pow ?_ ?_
            · exact ex_int
            exact ex_int
          exact ax_nil
        refine ax_cons ?_ ?_
        · refine ex_call G_is_integer (hr.mono (by decide)) tk rfl ?_
          refine ax_cons ?_ ?_
          · refine ex_neg ?_
            refine ex_bin opP_pow ?_ ?_
            · exact ex_int
            exact ex_int
          exact ax_nil
        refine ax_cons ?_ ?_
        · refine ex_call G_is_integer (hr.mono (by decide)) tk rfl ?_
          refine ax_cons ?_ ?_
          · exact ex_bl
          exact ax_nil
        exact ax_nil
      refine ex_bin opP_add ?_ ?_
      · refine ex_f ?_
        refine ef_lst ?_
        refine ax_cons ?_ ?_
        · exact ex_bl
        exact ax_nil
      refine ex_bin opP_mul ?_ ?_
      · refine ex_f ?_
        refine ef_lst ?_
        refine ax_cons ?_ ?_
        · exact ex_bl
        exact ax_nil
      exact ex_int
    · refine ss_one ?_
      refine sx_ret ?_
      exact ex_bl
    exact ss_nil
  refine ss_one ?_
  refine sx_ret ?_
  refine ex_cmp (opP_eq hu64) ?_ ?_
  · refine ex_f ?_
    refine ef_lst ?_
    refine ax_cons ?_ ?_
    · refine ex_call G_is_pair (hr.mono (by decide)) tk rfl ?_
      refine ax_cons ?_ ?_
      · refine ex_tup ?_
        refine ax_cons ?_ ?_
        · exact ex_str
        refine ax_cons ?_ ?_
        · exact ex_str
        exact ax_nil
      exact ax_nil
    refine ax_cons ?_ ?_
    · refine ex_call G_is_pair (hr.mono (by decide)) tk rfl ?_
      refine ax_cons ?_ ?_
      · refine ex_tup ?_
        refine ax_cons ?_ ?_
        · exact ex_str
        refine ax_cons ?_ ?_
        · exact ex_str
        exact ax_nil
      exact ax_nil
    refine ax_cons ?_ ?_
    · refine ex_call G_is_pair (hr.mono (by decide)) tk rfl ?_
      refine ax_cons ?_ ?_
      · refine ex_tup ?_
        refine ax_cons ?_ ?_
        · exact ex_str
        refine ax_cons ?_ ?_
        · exact ex_str
        exact ax_nil
      exact ax_nil
    exact ax_nil
  refine ex_f ?_
  refine ef_lst ?_
  refine ax_cons ?_ ?_
  · exact ex_bl
  refine ax_cons ?_ ?_
  · exact ex_bl
  refine ax_cons ?_ ?_
  · exact ex_bl
  exact ax_nil

end Lw

namespace Lw
open PySem PySem.Spec L2 Pv
/-! ### the law's dice -/
def Dice (S : Store) (n : Nat) : Prop := ∃ a b c : Int, S[n]? = some (.lst [.int a, .int b, .int c])
/-- the dice at n have been thrown, cells may have come -/
structure Roll (n : Nat) (S S' : Store) : Prop where
  dice : Dice S' n
  ne : ∀ (m : Nat), m < S.length → m ≠ n → S'[m]? = S[m]?
  len : S.length ≤ S'.length
theorem Roll.lt {S : Store} {n : Nat} (d : Dice S n) : n < S.length := by
  obtain ⟨a, b, c, h⟩ := d
  exact (List.getElem?_eq_some_iff.mp h).1
theorem Roll.refl {S : Store} {n : Nat} (d : Dice S n) : Roll n S S := ⟨d, fun _ _ _ => rfl, Nat.le_refl _⟩
theorem Roll.trans {S S' S'' : Store} {n : Nat} (a : Roll n S S') (b : Roll n S' S'') : Roll n S S'' :=
  ⟨b.dice, fun m h1 h2 => (b.ne m (Nat.lt_of_lt_of_le h1 a.len) h2).trans (a.ne m h1 h2), Nat.le_trans a.len b.len⟩
theorem set_rolled {S : Store} {n : Nat} (h : n < S.length) (a b c : Int) : Roll n S (S.set n (.lst [.int a, .int b, .int c])) :=
  ⟨⟨a, b, c, by rw [List.getElem?_set_self h]⟩, fun m _ hm => List.getElem?_set_ne (Ne.symm hm), by simp⟩
theorem log_small {t : Int} (h0 : 0 < t) (hb : t < 2 ^ 1000) : t.natAbs.log2 < 9000 := by
  have h : t.natAbs < 2 ^ 1000 := by omega
  have h1 : t.natAbs ≠ 0 := by omega
  have := (Nat.log2_lt h1).mpr h
  omega
theorem mod_ok {x m : Int} (h0 : 0 < m) (h : m ≤ 18446744073709551616) : ((-18446744073709551616 < x % m ∧ x % m < 18446744073709551616)) = True := by
  have := Int.emod_nonneg x (show m ≠ 0 by omega)
  have := Int.emod_lt_of_pos x h0
  simp
  omega
theorem roll_spec {S : Store} {n : Nat} {t : Int} (d : Dice S n) (ht : 0 < t) (hb : t < 2 ^ 1000) : ∃ (k : Int) (S' : Store), D__law_roll [.loc n, .int t] S = .ok (.int k) S' ∧ 0 ≤ k ∧ k < t ∧ Roll n S S' ∧ S'.length = S.length := by
  have hn := Roll.lt d
  obtain ⟨a, b, c, h⟩ := d
  have hl := look_at h
  have hlog := log_small ht hb
  by_cases ha : 0 < a
  · refine ⟨a % t, _, ?_, Int.emod_nonneg _ (by omega), Int.emod_lt_of_pos _ ht, set_rolled hn (a / t) b c, by simp⟩
    simp [D__law_roll, B__law_roll, hl, atI, ixN, ha, ht, hlog, h]
  · have hl8 : (Nat.log2 8192 < 9000) = True := by simp; decide
    have hl2 := look_set (c := .lst [.int a, .int b, .int (c + 1)]) hn
    have o1 : ∀ x : Int, (-18446744073709551616 < x % 2305843009213693951 ∧ x % 2305843009213693951 < 18446744073709551616) = True := fun x => mod_ok (by decide) (by decide)
    have o2 : ∀ x : Int, (-18446744073709551616 < x % 2305843009213693907 ∧ x % 2305843009213693907 < 18446744073709551616) = True := fun x => mod_ok (by decide) (by decide)
    refine ⟨((((b + 998244319 * (c + 1)) % 2305843009213693951 * ((b + 998244319 * (c + 1)) % 2305843009213693951)) % 2305843009213693907 * ((b + 998244319 * (c + 1)) % 2305843009213693951) + 9421 * (c + 1)) % 2305843009213693661) / 8192 % t, _, ?_, Int.emod_nonneg _ (by omega), Int.emod_lt_of_pos _ ht, set_rolled hn a b (c + 1), by simp⟩
    simp [D__law_roll, B__law_roll, hl, atI, ixN, ha, ht, hlog, h, hl2, o1, o2, hl8]
theorem small_len {α : Type} {xs : List α} (h : xs.length ≤ 2 ^ 30) : (xs.length : Int) < 2 ^ 1000 := by
  have : ((2 : Int) ^ 30) ≤ 2 ^ 1000 := by decide +kernel
  omega
theorem pick_spec {S : Store} {n : Nat} {xs : List PV} (d : Dice S n) (hx : xs ≠ []) (hz : xs.length ≤ 2 ^ 30) : ∃ x S', D__law_pick [.loc n, .lst xs] S = .ok x S' ∧ x ∈ xs ∧ Roll n S S' ∧ S'.length = S.length := by
  have hp : 0 < xs.length := List.length_pos_iff.mpr hx
  obtain ⟨k, S', e, h0, h1, r, hl⟩ := roll_spec d (show (0 : Int) < xs.length by omega) (small_len hz)
  obtain ⟨x, h2, h3, _⟩ := atI_of h0 h1
  exact ⟨x, S', by simp [D__law_pick, B__law_pick, e, h2], h3, r, hl⟩
theorem pick_tup {S : Store} {n : Nat} {xs : List PV} (d : Dice S n) (hx : xs ≠ []) (hz : xs.length ≤ 2 ^ 30) : ∃ x S', D__law_pick [.loc n, .tup xs] S = .ok x S' ∧ x ∈ xs ∧ Roll n S S' ∧ S'.length = S.length := by
  have hp : 0 < xs.length := List.length_pos_iff.mpr hx
  obtain ⟨k, S', e, h0, h1, r, hl⟩ := roll_spec d (show (0 : Int) < xs.length by omega) (small_len hz)
  obtain ⟨x, h2, h3, _⟩ := atI_of h0 h1
  exact ⟨x, S', by simp [D__law_pick, B__law_pick, e, h2], h3, r, hl⟩
theorem erase_perm {α : Type} : ∀ {xs : List α} {k : Nat} {x : α}, xs[k]? = some x → List.Perm xs (x :: xs.eraseIdx k)
  | [], _, _, h => by simp at h
  | y :: ys, 0, x, h => by simp at h; subst h; simp
  | y :: ys, k + 1, x, h => by
    have ih := erase_perm (xs := ys) (k := k) (x := x) (by simpa using h)
    simp
    exact (List.Perm.cons y ih).trans (List.Perm.swap x y _)
/-- some of them, in a drawn order: with the rest they are all -/
theorem some_spec {S : Store} {n : Nat} {v : PV} {xs : List PV} {z : Int} (d : Dice S n) (hv : look S v = .lst xs ∨ look S v = .tup xs) (hz : xs.length ≤ 2 ^ 20) (h0 : 0 ≤ z) : ∃ ys S' rest, D__law_some [.loc n, v, .int z] S = .ok (.lst ys) S' ∧ List.Perm xs (ys ++ rest) ∧
    (ys.length : Int) = min z xs.length ∧ Roll n S S' ∧ S'.length = S.length + 1 := by
  have hn := Roll.lt d
  have hL : (2 : Nat) ^ 20 ≤ sizeLine := by rw [sizeLine_eq]; decide
  have m0 : 0 ≤ min z (xs.length : Int) := by omega
  obtain ⟨m, hm⟩ : ∃ m : Nat, (m : Int) = min z xs.length := ⟨(min z (xs.length : Int)).toNat, by omega⟩
  have d1 : Dice (S ++ [.lst xs]) n := by
    obtain ⟨a, b, c, h⟩ := d
    exact ⟨a, b, c, by rw [List.getElem?_append_left hn]; exact h⟩
  obtain ⟨ys, S', e, rest, p1, p2, p3, p4, p5, p6⟩ := compD_inv (b := bN 4) (test := dYes) (elt := dM isLst mPop (dV 3) (dCons (dFn D__law_roll [] (dCons (dV 0) (dCons (dCB cLen (dCons (dV 3) dNil)) dNil))) dNil))
    (ρ := [some (.loc n), some v, some (.int z), some (.loc S.length), none])
    (fun i acc S' => ∃ rest, S'[S.length]? = some (.lst rest) ∧ List.Perm xs (acc ++ rest) ∧ acc.length = i ∧ Dice S' n ∧ (∀ (k : Nat), k < S.length → k ≠ n → S'[k]? = S[k]?) ∧ S'.length = S.length + 1)
    (nums 0 m) 0 0 [] (S ++ [.lst xs]) ⟨xs, by simp, by simp, rfl, d1, fun k h1 _ => by rw [List.getElem?_append_left h1], by simp⟩ rfl (by rw [nums_length]; omega) (by
      rintro j x acc S1 hx ⟨rest, p1, p2, p3, p4, p5, p6⟩
      obtain ⟨rfl, hj⟩ := nums_get hx
      have hlen := p2.length_eq
      simp at hlen
      have hr : 0 < rest.length := by omega
      obtain ⟨k, S2, e, k0, k1, r, hl⟩ := roll_spec p4 (show (0 : Int) < rest.length by omega) (small_len (by omega))
      have q1 : S2[S.length]? = some (.lst rest) := by rw [r.ne _ (by omega) (by omega)]; exact p1
      obtain ⟨y, _, _, y3⟩ := atI_of k0 k1
      refine ⟨_, rfl, true, S1, rfl, ?_⟩
      simp
      refine ⟨y, S2.set S.length (.lst (rest.eraseIdx k.toNat)), ?_, rest.eraseIdx k.toNat, ?_, ?_, by simp [p3], ?_, fun m h1 h2 => ?_, by simp [hl, p6]⟩
      · have hb : -9223372036854775808 ≤ k ∧ k < 9223372036854775808 := by omega
        simp [look_at p1, e, q1, Pv.seqIndex_of k0 k1, y3, hb]
      · rw [List.getElem?_set_self (by omega)]
      · have := erase_perm y3
        exact p2.trans (by simpa using List.Perm.append_left acc this)
      · obtain ⟨a, b, c, h⟩ := r.dice
        exact ⟨a, b, c, by rw [List.getElem?_set_ne (by omega)]; exact h⟩
      · rw [List.getElem?_set_ne (by omega), r.ne m (by omega) h2, p5 m h1 h2])
  have hm2 : -4611686018427387904 ≤ (m : Int) ∧ (m : Int) < 4611686018427387904 := by omega
  refine ⟨ys, S', rest, ?_, by simpa using p2, ?_, ⟨p4, fun k h1 h2 => p5 k h1 h2, by omega⟩, p6⟩
  · have e1 : (if (xs.length : Int) < z then (xs.length : Int) else z) = (m : Int) := by split <;> omega
    have hlk : look (S ++ [.lst xs]) (.loc S.length) = .lst xs := look_at (by simp)
    simp at e
    rcases hv with hv | hv <;> simp [D__law_some, B__law_some, hv, hlk, e1, hm2, e]
  · simp [nums_length] at p3
    omega


theorem dice_spec {S : Store} {ns : List Int} {spot : Int} (h0 : 0 ≤ spot) : ∃ S', D__law_dice [.scr ns, .int spot] S = .ok (.loc S.length) S' ∧ Dice S' S.length ∧ S'.length = S.length + 1 ∧ ∀ (m : Nat), m < S.length → S'[m]? = S[m]? := by
  have b1 : (Builtin.Int.intBits 10) = 4 := by decide
  have b2 : (Builtin.Int.intBits 1000000000000000000000000000000000000000000000000000000000000) = 200 := by decide +kernel
  have fin : ∀ a b c : Int, Dice (S ++ [PV.lst [PV.int a, PV.int b, PV.int c]]) S.length ∧ ∀ (m : Nat), m < S.length → (S ++ [PV.lst [PV.int a, PV.int b, PV.int c]])[m]? = S[m]? := fun a b c =>
    ⟨⟨a, b, c, by simp⟩, fun m hm => by rw [List.getElem?_append_left hm]⟩
  by_cases hs : spot < ns.length
  · obtain ⟨x, hx, _, _⟩ := atI_of h0 hs
    simp [D__law_dice, B__law_dice, hs, hx, b1, b2]
    exact fin _ _ _
  · simp [D__law_dice, B__law_dice, hs, b1, b2]
    exact fin _ _ _


end Lw

namespace Lw
open PySem PySem.Spec L2 Pv
def small : Str := "abcdefghijklmnopqrstuvwxyz"
/-- a word, told plainly -/
def wordB : PV → Bool
  | .str z => decide (1 ≤ z.length) && decide (z.length ≤ 8) && z.cps.toList.all fun c => decide (c ∈ small.cps.toList)
  | _ => false
/-- what the law draws: a text that is not too long, or a thing of another kind -/
def Drawn : PV → Prop
  | .str z => z.length ≤ 1000
  | .non => True
  | .int _ => True
  | .bl _ => True
  | .tup _ => True
  | .lst _ => True
  | .dct _ => True
  | _ => False
theorem k_ss : kitB "str" "str" = some true := by decide +kernel
theorem k_ns : kitB "NoneType" "str" = some false := by decide +kernel
theorem k_is : kitB "int" "str" = some false := by decide +kernel
theorem k_bs : kitB "bool" "str" = some false := by decide +kernel
theorem k_ts : kitB "tuple" "str" = some false := by decide +kernel
theorem k_ls : kitB "list" "str" = some false := by decide +kernel
theorem k_ds : kitB "dict" "str" = some false := by decide +kernel
theorem line_big : (1048576 : Nat) ≤ sizeLine := by rw [sizeLine_eq]; decide
theorem len_le {n : Nat} (h : n ≤ 1000) : (n ≤ sizeLine) = True := by
  have := line_big
  simp; omega
theorem sign_size (c : Nat) : (⟨#[c]⟩ : Str).cps.size = 1 := rfl
theorem all_map {α : Type} (p : α → Bool) (xs : List α) : (xs.map p).all id = xs.all p := by simp
theorem str_len (z : Str) : z.length = z.cps.toList.length := by simp; rfl
/-- a loop over a text's signs -/
theorem signs_map {cs : List Nat} (hz : cs.length ≤ 1000) (S : Store) (q : Nat → Bool) (f : Nat → PV) {b : Bd} {ρ : PEnv} {test : DenT} {elt : Den} (h : ∀ c : Nat, ∃ ρ1, b (.str ⟨#[c]⟩) ρ = some ρ1 ∧ test ρ1 S = .ok (q c) S ∧ (q c = true → elt ρ1 S = .ok (f c) S)) :
    compD b test elt ρ (cs.map fun c => .str ⟨#[c]⟩) 0 S = .ok ((cs.filter q).map f) S := by
  have hL := line_big
  have := compD_map (b := b) (test := test) (elt := elt) (ρ := ρ) (S := S) (fun x => match x with | .str s => q (s.cps.getD 0 0) | _ => true) (fun x => match x with | .str s => f (s.cps.getD 0 0) | _ => .non) (cs.map fun c => PV.str ⟨#[c]⟩) 0 (by simp; omega) fun x hx => by
    obtain ⟨c, _, rfl⟩ := List.mem_map.mp hx
    obtain ⟨ρ1, h1, h2, h3⟩ := h c
    exact ⟨ρ1, h1, h2, h3⟩
  rw [this, List.filter_map, List.map_map]
  rfl
theorem bls_of {α : Type} (p : α → Bool) : ∀ xs : List α, bls (xs.map fun x => .bl (p x)) = some (xs.map p)
  | [] => rfl
  | x :: xs => by simp [bls, bls_of p xs]
theorem is_word_spec {v : PV} {S : Store} (h : Drawn v) : D_is_word [v] S = .ok (.bl (wordB v)) S := by
  cases v with
  | str z =>
    have hz : z.length ≤ 1000 := h
    have hz2 : z.cps.toList.length ≤ 1000 := by rw [← str_len]; exact hz
    have e := signs_map hz2 S (fun _ => true) (fun c => .bl (decide (c ∈ small.cps.toList))) (b := bN 1) (ρ := [some (.str z), none]) (test := dYes) (elt := dBin pIn (dV 1) (dK (.str "abcdefghijklmnopqrstuvwxyz"))) fun c => ⟨_, rfl, rfl, fun _ => by simp [dIn]; rfl⟩
    simp at e
    by_cases h1 : 1 ≤ z.length
    · have i1 : (1 : Int) ≤ (z.length : Int) := by omega
      by_cases h8 : z.length ≤ 8
      · have i8 : (z.length : Int) ≤ 8 := by omega
        simp [D_is_word, B_is_word, k_ss, len_le hz, wordB, h1, h8, i1, i8, e, bls_of]
      · have i8 : ¬ (z.length : Int) ≤ 8 := by omega
        simp [D_is_word, B_is_word, k_ss, len_le hz, wordB, h1, h8, i1, i8]
    · have i1 : ¬ (1 : Int) ≤ (z.length : Int) := by omega
      simp [D_is_word, B_is_word, k_ss, len_le hz, wordB, h1, i1]
  | non => simp [D_is_word, B_is_word, k_ns, wordB]
  | int _ => simp [D_is_word, B_is_word, k_is, wordB]
  | bl _ => simp [D_is_word, B_is_word, k_bs, wordB]
  | tup _ => simp [D_is_word, B_is_word, k_ts, wordB]
  | lst _ => simp [D_is_word, B_is_word, k_ls, wordB]
  | dct _ => simp [D_is_word, B_is_word, k_ds, wordB]
  | _ => exact h.elim

def intB : PV → Bool
  | .int i => decide (-(10 ^ 60) < i) && decide (i < 10 ^ 60)
  | _ => false
def strB : PV → Bool
  | .str _ => true
  | _ => false
def ltB : PV → PV → Bool
  | .str a, .str b => decide (a.cps.toList < b.cps.toList)
  | _, _ => false
def pairB : PV → Bool
  | .tup [a, b] => wordB a && wordB b && ltB a b
  | _ => false
/-- a drawn thing, and what is in it -/
def DrawnP (v : PV) : Prop := Drawn v ∧ ∀ xs, v = .tup xs → ∀ x ∈ xs, Drawn x
theorem k_st : kitB "str" "tuple" = some false := by decide +kernel
theorem k_nt : kitB "NoneType" "tuple" = some false := by decide +kernel
theorem k_it : kitB "int" "tuple" = some false := by decide +kernel
theorem k_bt : kitB "bool" "tuple" = some false := by decide +kernel
theorem k_tt : kitB "tuple" "tuple" = some true := by decide +kernel
theorem k_lt : kitB "list" "tuple" = some false := by decide +kernel
theorem k_dt : kitB "dict" "tuple" = some false := by decide +kernel
theorem k_si : kitB "str" "int" = some false := by decide +kernel
theorem k_ni : kitB "NoneType" "int" = some false := by decide +kernel
theorem k_ii : kitB "int" "int" = some true := by decide +kernel
theorem k_bi : kitB "bool" "int" = some true := by decide +kernel
theorem k_ti : kitB "tuple" "int" = some false := by decide +kernel
theorem k_li : kitB "list" "int" = some false := by decide +kernel
theorem k_di : kitB "dict" "int" = some false := by decide +kernel
theorem k_ib : kitB "int" "bool" = some false := by decide +kernel
theorem k_bb : kitB "bool" "bool" = some true := by decide +kernel
theorem wordB_str {a : PV} (h : wordB a = true) : ∃ z, a = .str z := by
  cases a <;> first | exact ⟨_, rfl⟩ | cases h
theorem is_pair_spec {v : PV} {S : Store} (h : DrawnP v) : D_is_pair [v] S = .ok (.bl (pairB v)) S := by
  cases v with
  | tup xs =>
    match xs, h.2 _ rfl with
    | [], _ => simp [D_is_pair, B_is_pair, k_tt, pairB]
    | [a], _ => simp [D_is_pair, B_is_pair, k_tt, pairB]
    | [a, b], hx =>
      have ha := is_word_spec (S := S) (hx a (by simp))
      have hb := is_word_spec (S := S) (hx b (by simp))
      have i0 : atI [a, b] 0 = some a := rfl
      have i1 : atI [a, b] 1 = some b := rfl
      cases wa : wordB a with
      | false => simp [D_is_pair, B_is_pair, k_tt, pairB, i0, i1, ha, hb, wa]
      | true =>
        cases wb : wordB b with
        | false => simp [D_is_pair, B_is_pair, k_tt, pairB, i0, i1, ha, hb, wa, wb]
        | true =>
          obtain ⟨y, rfl⟩ := wordB_str wa
          obtain ⟨z, rfl⟩ := wordB_str wb
          simp [D_is_pair, B_is_pair, k_tt, pairB, i0, i1, ha, hb, wa, wb, ltB]
    | a :: b :: c :: d, _ =>
      have hn : ¬ ((d.length : Int) + 1 + 1 + 1 = 2) := by omega
      simp [D_is_pair, B_is_pair, k_tt, pairB, hn]
  | str _ => simp [D_is_pair, B_is_pair, k_st, pairB]
  | non => simp [D_is_pair, B_is_pair, k_nt, pairB]
  | int _ => simp [D_is_pair, B_is_pair, k_it, pairB]
  | bl _ => simp [D_is_pair, B_is_pair, k_bt, pairB]
  | lst _ => simp [D_is_pair, B_is_pair, k_lt, pairB]
  | dct _ => simp [D_is_pair, B_is_pair, k_dt, pairB]
  | _ => exact h.1.elim
theorem is_integer_spec {v : PV} {S : Store} (h : Drawn v) : D_is_integer [v] S = .ok (.bl (intB v)) S := by
  cases v with
  | int i => 
    by_cases h1 : -(10 ^ 60) < i
    · by_cases h2 : i < 10 ^ 60
      · simp at h1 h2
        simp [D_is_integer, B_is_integer, k_ii, k_ib, intB, h1, h2]
      · simp at h1 h2
        simp [D_is_integer, B_is_integer, k_ii, k_ib, intB, h1, h2]
    · simp at h1
      have h1' : ¬ (-1000000000000000000000000000000000000000000000000000000000000 < i) := by omega
      simp [D_is_integer, B_is_integer, k_ii, k_ib, intB, h1']
  | str _ => simp [D_is_integer, B_is_integer, k_si, intB]
  | non => simp [D_is_integer, B_is_integer, k_ni, intB]
  | tup _ => simp [D_is_integer, B_is_integer, k_ti, intB]
  | bl _ => simp [D_is_integer, B_is_integer, k_bi, k_bb, intB]
  | lst _ => simp [D_is_integer, B_is_integer, k_li, intB]
  | dct _ => simp [D_is_integer, B_is_integer, k_di, intB]
  | _ => exact h.elim

end Lw

namespace Lw
open PySem PySem.Spec L2 Pv
theorem pick_loc {S : Store} {n m : Nat} {xs : List PV} (d : Dice S n) (hm : S[m]? = some (.lst xs)) (hne : m ≠ n) (hx : xs ≠ []) (hz : xs.length ≤ 2 ^ 30) : ∃ x S', D__law_pick [.loc n, .loc m] S = .ok x S' ∧ x ∈ xs ∧ Roll n S S' ∧ S'.length = S.length := by
  have hp : 0 < xs.length := List.length_pos_iff.mpr hx
  obtain ⟨k, S', e, h0, h1, r, hl⟩ := roll_spec d (show (0 : Int) < xs.length by omega) (small_len hz)
  obtain ⟨x, h2, h3, _⟩ := atI_of h0 h1
  have hm' : S'[m]? = some (.lst xs) := by rw [r.ne m (List.getElem?_eq_some_iff.mp hm).1 hne]; exact hm
  exact ⟨x, S', by simp [D__law_pick, B__law_pick, look_at hm, look_at hm', e, h2], h3, r, hl⟩
/-- the rows of odd things -/
abbrev appB : SDen := sExpr (dM isLst mAppend (dV 5) (dCons (dTup (dCons (dV 6) (dCons (dK (.bl false)) (dCons (dK (.bl false)) dNil)))) dNil))
theorem app_loop {m : Nat} {a0 a1 a2 a3 a4 a6 : Option PV} (xs : List PV) {acc : List PV} {S : Store} (hm : S[m]? = some (.lst acc)) (hz : acc.length + xs.length ≤ 1048576) :
    ∃ z S', forD (bN 6) appB xs [a0, a1, a2, a3, a4, some (.loc m), a6] S = .nx [a0, a1, a2, a3, a4, some (.loc m), z] S' ∧ S'[m]? = some (.lst (acc ++ xs.map fun x => .tup [x, .bl false, .bl false])) ∧ (∀ k, k ≠ m → S'[k]? = S[k]?) ∧ S'.length = S.length := by
  obtain ⟨ρ', S', e, ⟨z, rfl⟩, h1, h2, h3⟩ := forD_inv (b := bN 6) (body := appB) (fun i ρ S' => (∃ z, ρ = [a0, a1, a2, a3, a4, some (.loc m), z]) ∧ S'[m]? = some (.lst (acc ++ (xs.take i).map fun x => .tup [x, .bl false, .bl false])) ∧ (∀ k, k ≠ m → S'[k]? = S[k]?) ∧ S'.length = S.length)
    xs 0 [a0, a1, a2, a3, a4, some (.loc m), a6] S ⟨⟨_, rfl⟩, by simpa using hm, fun _ _ => rfl, rfl⟩ (by
      rintro j x ρ S1 hx ⟨⟨z, rfl⟩, h1, h2, h3⟩
      have hj : j < xs.length := (List.getElem?_eq_some_iff.mp hx).1
      have hml : m < S1.length := (List.getElem?_eq_some_iff.mp h1).1
      have hl : ((acc ++ (xs.take (0 + j)).map fun x => PV.tup [x, .bl false, .bl false]).length < 1048576) = True := by simp; omega
      have hlz : ((acc ++ (xs.take (0 + j)).map fun x => PV.tup [x, .bl false, .bl false]).length < sizeLine) = True := sz_lt (by simpa using hl)
      refine ⟨_, rfl, _, S1.set m (.lst ((acc ++ (xs.take (0 + j)).map fun x => .tup [x, .bl false, .bl false]) ++ [.tup [x, .bl false, .bl false]])), .inl ?_, ⟨some x, rfl⟩, ?_, fun k hk => ?_, by simp [h3]⟩
      · revert h1 hlz
        generalize (acc ++ (xs.take (0 + j)).map fun x => PV.tup [x, .bl false, .bl false]) = L
        intro h1 hlz
        have hlk := look_at h1
        simp at hlz
        simp [appB, hlk, h1, hlz]
      · rw [List.getElem?_set_self hml, List.append_assoc, show 0 + j + 1 = (0 + j) + 1 from rfl, List.take_add_one, List.map_append]
        simp [hx]
      · rw [List.getElem?_set_ne (Ne.symm hk), h2 k hk])
  exact ⟨z, S', e, by simpa using h1, h2, h3⟩
/-- a row, as it should be -/
def RowOk (v : PV) : Prop := ∃ x n f, v = .tup [x, .bl n, .bl f] ∧ DrawnP x ∧ intB x = n ∧ pairB x = f
def words9 : List PV := [.str "a", .str "ab", .str "b", .str "dock", .str "z", .str "zz", .str "zzzzzzzz", .str "m", .str "ma"]
theorem words9_ok {a : PV} (h : a ∈ words9) : ∃ z, a = .str z ∧ wordB (.str z) = true ∧ z.length ≤ 8 := by
  simp [words9] at h
  rcases h with rfl | rfl | rfl | rfl | rfl | rfl | rfl | rfl | rfl <;> exact ⟨_, rfl, by decide +kernel, by decide⟩
theorem rowOk {x : PV} {n f : Bool} (h : DrawnP x) (h1 : intB x = n) (h2 : pairB x = f) : RowOk (.tup [x, .bl n, .bl f]) := ⟨x, n, f, rfl, h, h1, h2⟩
theorem dp_str {z : Str} (h : z.length ≤ 1000) : DrawnP (.str z) := ⟨h, fun xs e => nomatch e⟩
theorem dp_tup {xs : List PV} (h : ∀ x ∈ xs, Drawn x) : DrawnP (.tup xs) := ⟨trivial, fun ys e => by cases e; exact h⟩
theorem dp_else {v : PV} (h : Drawn v) (n : ∀ xs, v ≠ .tup xs) : DrawnP v := ⟨h, fun xs e => absurd e (n xs)⟩
theorem rows_ok {y z : Str} {i k : Int} (wy : wordB (.str y) = true) (wz : wordB (.str z) = true) (ly : y.length ≤ 8) (lz : z.length ≤ 8) (hi : 0 < i ∧ i < 10 ^ 60) (hk : 0 ≤ k ∧ k < 100) {v : PV}
    (h : v ∈ [PV.tup [.int i, .bl true, .bl false], .tup [.int (-i), .bl true, .bl false], .tup [.int (10 ^ 60 + k), .bl false, .bl false], .tup [.int k, .bl true, .bl false], .tup [.int (-(10 ^ 60) - k), .bl false, .bl false], .tup [.bl (k % 2 == 1), .bl false, .bl false], .tup [.tup [.str y, .str y], .bl false, .bl false],
      .tup [.tup [.str y, .str z], .bl false, .bl (decide (y.cps.toList < z.cps.toList))], .tup [.tup [.str z, .str y], .bl false, .bl (decide (z.cps.toList < y.cps.toList))]]) : RowOk v := by
  have dy : Drawn (.str y) := Nat.le_trans ly (by decide)
  have dz : Drawn (.str z) := Nat.le_trans lz (by decide)
  have ir : ¬ y.cps.toList < y.cps.toList := List.lt_irrefl _
  simp only [List.mem_cons, List.not_mem_nil, or_false] at h
  rcases h with rfl | rfl | rfl | rfl | rfl | rfl | rfl | rfl | rfl
  · exact rowOk (dp_else trivial nofun) (by simp [intB]; omega) rfl
  · exact rowOk (dp_else trivial nofun) (by simp [intB]; omega) rfl
  · exact rowOk (dp_else trivial nofun) (by simp [intB]; omega) rfl
  · exact rowOk (dp_else trivial nofun) (by simp [intB]; omega) rfl
  · exact rowOk (dp_else trivial nofun) (by simp [intB]; omega) rfl
  · exact rowOk (dp_else trivial nofun) rfl rfl
  · exact rowOk (dp_tup (by simp [dy])) rfl (by simp [pairB, ltB])
  · exact rowOk (dp_tup (by simp [dy, dz])) rfl (by simp [pairB, ltB, wy, wz])
  · exact rowOk (dp_tup (by simp [dy, dz])) rfl (by simp [pairB, ltB, wy, wz])
theorem odds_ok {y z : Str} (ly : y.length ≤ 8) (lz : z.length ≤ 8) {v : PV}
    (h : v ∈ [PV.non, .str "1", .str "", .tup [.int 1], .lst [], .dct [], .tup [], .tup [.str y], .tup [.str y, .str z, .str "zz"], .lst [.str y, .str z], .tup [.str y, .int 1], .tup [.int 0, .int 1], .tup [.str "A", .str "b"],
      .tup [.str "", .str "a"], .tup [.str "a", .str "abcdefghi"], .tup [.str "a b", .str "c"], .str (y ++ z), .tup [.tup [.str y, .str z]], .tup [.non, .str y], .tup [.str y, .non]]) : RowOk (.tup [v, .bl false, .bl false]) := by
  have dy : Drawn (.str y) := Nat.le_trans ly (by decide)
  have dz : Drawn (.str z) := Nat.le_trans lz (by decide)
  have dyz : Drawn (.str (y ++ z)) := by
    show Str.length (y ++ z) ≤ 1000
    rw [Str.length_append]; omega
  have c1 : wordB (.str "A") = false := by decide +kernel
  have c2 : wordB (.str "") = false := by decide +kernel
  have c3 : wordB (.str "abcdefghi") = false := by decide +kernel
  have c4 : wordB (.str "a b") = false := by decide +kernel
  have c5 : wordB .non = false := rfl
  have c6 : ∀ i, wordB (.int i) = false := fun _ => rfl
  have s1 : ∀ s : Str, s.length ≤ 1000 → Drawn (.str s) := fun s h => h
  simp only [List.mem_cons, List.not_mem_nil, or_false] at h
  rcases h with rfl | rfl | rfl | rfl | rfl | rfl | rfl | rfl | rfl | rfl | rfl | rfl | rfl | rfl | rfl | rfl | rfl | rfl | rfl | rfl
  · exact rowOk (dp_else trivial nofun) rfl rfl
  · exact rowOk (dp_str (by decide)) rfl rfl
  · exact rowOk (dp_str (by decide)) rfl rfl
  · exact rowOk (dp_tup (by simp [Drawn])) rfl rfl
  · exact rowOk (dp_else trivial nofun) rfl rfl
  · exact rowOk (dp_else trivial nofun) rfl rfl
  · exact rowOk (dp_tup (by simp)) rfl rfl
  · exact rowOk (dp_tup (by simp [dy])) rfl rfl
  · exact rowOk (dp_tup (by simp [dy, dz]; exact s1 _ (by decide))) rfl rfl
  · exact rowOk (dp_else trivial nofun) rfl rfl
  · exact rowOk (dp_tup (by simp [Drawn]; omega)) rfl (by simp [pairB, c6])
  · exact rowOk (dp_tup (by simp [Drawn])) rfl (by simp [pairB, c6])
  · exact rowOk (dp_tup (by simp; exact ⟨s1 _ (by decide), s1 _ (by decide)⟩)) rfl (by simp [pairB, c1])
  · exact rowOk (dp_tup (by simp; exact ⟨s1 _ (by decide), s1 _ (by decide)⟩)) rfl (by simp [pairB, c2])
  · exact rowOk (dp_tup (by simp; exact ⟨s1 _ (by decide), s1 _ (by decide)⟩)) rfl (by simp [pairB, c3])
  · exact rowOk (dp_tup (by simp; exact ⟨s1 _ (by decide), s1 _ (by decide)⟩)) rfl (by simp [pairB, c4])
  · exact rowOk (dp_str dyz) rfl rfl
  · exact rowOk (dp_tup (by simp [Drawn])) rfl rfl
  · exact rowOk (dp_tup (by simp [Drawn]; omega)) rfl (by simp [pairB, c5])
  · exact rowOk (dp_tup (by simp [Drawn]; omega)) rfl (by simp [pairB, c5])
theorem law_row_spec {S : Store} {n : Nat} (d : Dice S n) : ∃ v S', D__law_row [.loc n] S = .ok v S' ∧ RowOk v ∧ Roll n S S' := by
  obtain ⟨size, S1, e1, m1, r1, l1⟩ := pick_spec (xs := [.int (10 ^ 59), .int (10 ^ 60 - 1), .int 200, .int (10 ^ 18)]) d (by simp) (by simp)
  obtain ⟨k, S2, e2, k0, k1, r2, l2⟩ := roll_spec (t := 100) r1.dice (by decide) (by decide +kernel)
  obtain ⟨ys, S3, rest, e3, q1, q2, r3, l3⟩ := some_spec (z := 2) (v := .lst words9) (xs := words9) r2.dice (.inl rfl) (by simp [words9]) (by decide)
  have hys : ys.length = 2 := by simp [words9] at q2; omega
  obtain ⟨a, b, rfl⟩ : ∃ a b, ys = [a, b] := by
    match ys, hys with
    | [a, b], _ => exact ⟨a, b, rfl⟩
  obtain ⟨y, rfl, wy, ly⟩ := words9_ok (q1.symm.subset (by simp : a ∈ [a, b] ++ rest))
  obtain ⟨z, rfl, wz, lz⟩ := words9_ok (q1.symm.subset (by simp : b ∈ [.str y, b] ++ rest))
  obtain ⟨i, rfl, hi⟩ : ∃ i : Int, size = .int i ∧ (0 < i ∧ i < 10 ^ 60) := by
    simp at m1
    rcases m1 with rfl | rfl | rfl | rfl <;> exact ⟨_, rfl, by decide⟩
  have hL : S3.length ≠ n := by have := Roll.lt d; have := r1.len; have := r2.len; have := r3.len; omega
  have d3 := r3.dice
  have hn3 := Roll.lt d3
  obtain ⟨c1, hc1⟩ : ∃ c : List PV, c = [.tup [.int i, .bl true, .bl false], .tup [.int (-i), .bl true, .bl false], .tup [.int (10 ^ 60 + k), .bl false, .bl false], .tup [.int k, .bl true, .bl false]] := ⟨_, rfl⟩
  obtain ⟨c2, hc2⟩ : ∃ c : List PV, c = c1 ++ [.tup [.int (-(10 ^ 60) - k), .bl false, .bl false], .tup [.bl (k % 2 == 1), .bl false, .bl false], .tup [.tup [.str y, .str y], .bl false, .bl false]] := ⟨_, rfl⟩
  obtain ⟨c3, hc3⟩ : ∃ c : List PV, c = c2 ++ (List.replicate 4 [.tup [.tup [.str y, .str z], .bl false, .bl (decide (y.cps.toList < z.cps.toList))], .tup [.tup [.str z, .str y], .bl false, .bl (decide (z.cps.toList < y.cps.toList))]]).flatten := ⟨_, rfl⟩
  obtain ⟨o1, ho1⟩ : ∃ o : List PV, o = [.non, .str "1", .str "", .tup [.int 1], .lst [], .dct [], .tup [], .tup [.str y], .tup [.str y, .str z, .str "zz"], .lst [.str y, .str z], .tup [.str y, .int 1], .tup [.int 0, .int 1], .tup [.str "A", .str "b"]] := ⟨_, rfl⟩
  obtain ⟨o2, ho2⟩ : ∃ o : List PV, o = [.tup [.str "", .str "a"], .tup [.str "a", .str "abcdefghi"], .tup [.str "a b", .str "c"], .str (y ++ z), .tup [.tup [.str y, .str z]], .tup [.non, .str y], .tup [.str y, .non]] := ⟨_, rfl⟩
  have l3' : c3.length = 15 := by rw [hc3, hc2, hc1]; rfl
  have hS6 : (S3 ++ [PV.lst c1] ++ [PV.lst c2] ++ [PV.lst c3])[S3.length + 2]? = some (.lst c3) := by
    rw [List.getElem?_append_right (by simp)]; simp
  obtain ⟨z1, S7, e7, h7, k7, l7⟩ := app_loop (a0 := some (.loc n)) (a1 := some (.int i)) (a2 := some (.int k)) (a3 := some (.str y)) (a4 := some (.str z)) (a6 := none) o1 hS6 (by rw [l3', ho1]; simp)
  obtain ⟨z2, S8, e8, h8, k8, l8⟩ := app_loop (a0 := some (.loc n)) (a1 := some (.int i)) (a2 := some (.int k)) (a3 := some (.str y)) (a4 := some (.str z)) (a6 := z1) o2 h7 (by rw [ho1, ho2]; simp [l3'])
  have hne : S3.length + 2 ≠ n := by omega
  have at8 : ∀ j, j < S3.length → S8[j]? = S3[j]? := fun j hj => by
    rw [k8 j (by omega), k7 j (by omega), List.getElem?_append_left (by simp; omega), List.getElem?_append_left (by simp; omega), List.getElem?_append_left (by omega)]
  have d8 : Dice S8 n := by
    obtain ⟨p, q, r, h⟩ := d3
    exact ⟨p, q, r, by rw [at8 n hn3]; exact h⟩
  obtain ⟨v, S9, e9, v9, r9, l9⟩ := pick_loc d8 h8 hne (by simp [ho1]) (by rw [ho1, ho2]; simp [l3'])
  have r38 : Roll n S3 S8 := ⟨d8, fun m h1 h2 => at8 m h1, by rw [l8, l7]; simp⟩
  refine ⟨v, S9, ?_, ?_, (r1.trans r2).trans (r3.trans (r38.trans r9))⟩
  · have hk : (0 ≤ k ∧ k < 100) := ⟨k0, k1⟩
    simp [words9] at e3
    have b1 : (Builtin.Int.intBits 10) = 4 := by decide
    have yz : (y.length + z.length ≤ 1048576) := by omega
    have ez : ((k % 2 == 1) = decide (k % 2 = 1)) := rfl
    subst hc1 hc2 hc3 ho1 ho2
    simp [appB] at e1 e7 e8
    simp [D__law_row, B__law_row, e1, e2, e3, b1, look, e7, e8, e9, yz]
  · have hk : (0 ≤ k ∧ k < 100) := ⟨k0, k1⟩
    rw [hc3, hc2, hc1, ho1, ho2] at v9
    rcases List.mem_append.mp v9 with v9 | v9
    · rcases List.mem_append.mp v9 with v9 | v9
      · refine rows_ok wy wz ly lz hi hk ?_
        simp [List.replicate] at v9 ⊢
        grind
      · obtain ⟨x, hx, rfl⟩ := List.mem_map.mp v9
        exact odds_ok ly lz (by simp at hx ⊢; grind)
    · obtain ⟨x, hx, rfl⟩ := List.mem_map.mp v9
      exact odds_ok ly lz (by simp at hx ⊢; grind)

end Lw

namespace Lw
open PySem PySem.Spec L2 Pv
theorem law_true : ∀ ns : List Int, ns.length ≤ 63 → ∃ S, D_law [.scr ns] [] = .ok (.bl true) S := by
  intro ns hn
  have inner : ∀ (ρ : PEnv) (n : Nat) (S : Store), Dice S n → (∃ a d e f g, ρ = [some (.scr ns), a, some (.loc n), d, e, f, g]) → ∃ ρ' S', forD (bN 3) (sSeq (sAsg (dFn D__law_row [] (dCons (dV 2) dNil)) (bSeq 3 (bsCons (bN 4) (bsCons (bN 5) (bsCons (bN 6) bsNil))))) (sIf (dB (dBin pNe (dCB cReprD (dCons (dLst (dCons (dFn D_is_integer [] (dCons (dV 4) dNil)) (dCons (dFn D_is_pair [] (dCons (dV 4) dNil)) dNil))) dNil)) (dCB cReprD (dCons (dLst (dCons (dV 5) (dCons (dV 6) dNil))) dNil)))) (sRet (dK (.bl false))) sNil)) (nums 0 30) ρ S = .nx ρ' S' ∧ (∃ a c d e f g, ρ' = [some (.scr ns), a, c, d, e, f, g]) := by
    rintro ρ n S d ⟨a, d', e, f, g, rfl⟩
    obtain ⟨ρ', S', e, h⟩ := forD_inv (b := bN 3) (body := (sSeq (sAsg (dFn D__law_row [] (dCons (dV 2) dNil)) (bSeq 3 (bsCons (bN 4) (bsCons (bN 5) (bsCons (bN 6) bsNil))))) (sIf (dB (dBin pNe (dCB cReprD (dCons (dLst (dCons (dFn D_is_integer [] (dCons (dV 4) dNil)) (dCons (dFn D_is_pair [] (dCons (dV 4) dNil)) dNil))) dNil)) (dCB cReprD (dCons (dLst (dCons (dV 5) (dCons (dV 6) dNil))) dNil)))) (sRet (dK (.bl false))) sNil)))
      (fun i ρ S => Dice S n ∧ ∃ a d e f g, ρ = [some (.scr ns), a, some (.loc n), d, e, f, g]) (nums 0 30) 0 _ S ⟨d, _, _, _, _, _, rfl⟩ (by
        rintro j x ρ S hx ⟨d, a, d', e, f, g, rfl⟩
        obtain ⟨v, S1, e1, ⟨y, p, q, rfl, dy, h1, h2⟩, r⟩ := law_row_spec d
        refine ⟨_, rfl, _, _, .inl ?_, r.dice, a, some x, some y, some (.bl p), some (.bl q), rfl⟩
        have hs : ∀ a b : Bool, (PyData.list [.bool a, .bool b]).showable = true ∧ (PyData.list [.bool a, .bool b]).hasDict = false ∧ (PyData.list [.bool a, .bool b]).depth ≤ 40 ∧ (PyData.list [.bool a, .bool b]).shown.length ≤ sizeLine := fun a b => by
          cases a <;> cases b <;> exact ⟨rfl, rfl, by decide, by rw [sizeLine_eq]; decide +kernel⟩
        simp [e1, is_integer_spec dy.1, is_pair_spec dy, h1, h2, hs])
    obtain ⟨_, a, d, e', f, g, rfl⟩ := h
    exact ⟨_, S', e, a, _, d, e', f, g, rfl⟩
  obtain ⟨ρ', S', e, a, b, c, d, e', f, rfl⟩ := forD_inv (b := bN 1) (body := (sSeq (sAsg (dFn D__law_dice [] (dCons (dV 0) (dCons (dV 1) dNil))) (bN 2)) (sFor (iR1 (dCons (dK (.int 30)) dNil)) (bN 3) (sSeq (sAsg (dFn D__law_row [] (dCons (dV 2) dNil)) (bSeq 3 (bsCons (bN 4) (bsCons (bN 5) (bsCons (bN 6) bsNil))))) (sIf (dB (dBin pNe (dCB cReprD (dCons (dLst (dCons (dFn D_is_integer [] (dCons (dV 4) dNil)) (dCons (dFn D_is_pair [] (dCons (dV 4) dNil)) dNil))) dNil)) (dCB cReprD (dCons (dLst (dCons (dV 5) (dCons (dV 6) dNil))) dNil)))) (sRet (dK (.bl false))) sNil)))))
    (fun i ρ S => ∃ a c d e f g, ρ = [some (.scr ns), a, c, d, e, f, g]) (nums 0 (max 1 (min 8 ns.length))) 0 [some (.scr ns), none, none, none, none, none, none] [] ⟨_, _, _, _, _, _, rfl⟩ (by
      rintro j x ρ S hx ⟨a, c, d, e, f, g, rfl⟩
      obtain ⟨rfl, hj⟩ := nums_get hx
      obtain ⟨S1, e1, d1, l1, _⟩ := dice_spec (S := S) (ns := ns) (spot := 0 + (j : Int)) (by omega)
      obtain ⟨ρ', S', e2, h2⟩ := inner [some (.scr ns), some (.int (0 + (j : Int))), some (.loc S.length), d, e, f, g] S.length S1 d1 ⟨_, _, _, _, _, rfl⟩
      simp at e1 e2
      refine ⟨_, rfl, ρ', S', .inl ?_, h2⟩
      simp [e1, e2])
  refine ⟨S', ?_⟩
  obtain ⟨m, hm⟩ : ∃ m : Nat, m = max 1 (min 8 ns.length) := ⟨_, rfl⟩
  rw [← hm] at e
  have hi : (if 1 < (if (ns.length : Int) < 8 then (ns.length : Int) else 8) then (if (ns.length : Int) < 8 then (ns.length : Int) else 8) else 1) = (m : Int) := by
    rw [hm]; split <;> split <;> omega
  have hb : -4611686018427387904 ≤ (m : Int) ∧ (m : Int) < 4611686018427387904 := by omega
  have b1 : (Builtin.Int.intBits 10) = 4 := by decide
  have I : ∀ i : Int, D_is_integer [.int i] S' = .ok (.bl (intB (.int i))) S' := fun i => is_integer_spec trivial
  have J : D_is_integer [.bl true] S' = .ok (.bl false) S' := is_integer_spec (v := .bl true) trivial
  have W : ∀ (y z : Str) (k : Bool), y.length ≤ 1000 → z.length ≤ 1000 → pairB (.tup [.str y, .str z]) = k → D_is_pair [.tup [.str y, .str z]] S' = .ok (.bl k) S' := fun y z k h1 h2 h3 => by
    rw [is_pair_spec (dp_tup (by simp; exact ⟨h1, h2⟩)), h3]
  have w1 := W "a" "b" true (by decide) (by decide) (by decide +kernel)
  have w2 := W "b" "a" false (by decide) (by decide) (by decide +kernel)
  have w3 := W "a" "a" false (by decide) (by decide) (by decide +kernel)
  simp [D_law, B_law, hi, hb, e, compD, w1, w2, w3, I, J, intB, b1, look]

end Lw

namespace Lw
open PySem PySem.Spec L2 Pv
/-! ### the end -/
theorem all_mk {l : PySem.W.OpenLaw} {w : World} {K : PySem.W.Frag} {h : Heap} {mg : Str → Option Value} {fa f0 f1 f2 f3 f4 f5 f6 f7 f8 : Addr} (X : K.In h) (G : h.Ns mainGlobals mg) (hfa : mg "law" = some (.ref fa))
    {oc0 kV0 dc0 pm0 cd0 ct0 : Value} {od0 an0 : Option Addr} {sl0 : Array (Option Value)} (a0 : PySem.W.nsIn K mainGlobals "is_integer" = some (some (.ref f0))) (l0 : K.lookup f0 = some ⟨oc0, od0, .func (PySem.W.fnOf "is_integer" "is_integer" (defArgs s_is_integer) (defBody s_is_integer) (defScope s_is_integer) .none kV0 dc0 pm0 an0 cd0 ct0), sl0⟩) (c0 : PySem.W.codeIn K cd0 "is_integer" = true) (k0 : PySem.W.keepIn K (.ref f0) = true)
    {oc1 kV1 dc1 pm1 cd1 ct1 : Value} {od1 an1 : Option Addr} {sl1 : Array (Option Value)} (a1 : PySem.W.nsIn K mainGlobals "is_word" = some (some (.ref f1))) (l1 : K.lookup f1 = some ⟨oc1, od1, .func (PySem.W.fnOf "is_word" "is_word" (defArgs s_is_word) (defBody s_is_word) (defScope s_is_word) .none kV1 dc1 pm1 an1 cd1 ct1), sl1⟩) (c1 : PySem.W.codeIn K cd1 "is_word" = true) (k1 : PySem.W.keepIn K (.ref f1) = true)
    {oc2 kV2 dc2 pm2 cd2 ct2 : Value} {od2 an2 : Option Addr} {sl2 : Array (Option Value)} (a2 : PySem.W.nsIn K mainGlobals "_law_dice" = some (some (.ref f2))) (l2 : K.lookup f2 = some ⟨oc2, od2, .func (PySem.W.fnOf "_law_dice" "_law_dice" (defArgs s__law_dice) (defBody s__law_dice) (defScope s__law_dice) .none kV2 dc2 pm2 an2 cd2 ct2), sl2⟩) (c2 : PySem.W.codeIn K cd2 "_law_dice" = true) (k2 : PySem.W.keepIn K (.ref f2) = true)
    {oc3 kV3 dc3 pm3 cd3 ct3 : Value} {od3 an3 : Option Addr} {sl3 : Array (Option Value)} (a3 : PySem.W.nsIn K mainGlobals "_law_roll" = some (some (.ref f3))) (l3 : K.lookup f3 = some ⟨oc3, od3, .func (PySem.W.fnOf "_law_roll" "_law_roll" (defArgs s__law_roll) (defBody s__law_roll) (defScope s__law_roll) .none kV3 dc3 pm3 an3 cd3 ct3), sl3⟩) (c3 : PySem.W.codeIn K cd3 "_law_roll" = true) (k3 : PySem.W.keepIn K (.ref f3) = true)
    {oc4 kV4 dc4 pm4 cd4 ct4 : Value} {od4 an4 : Option Addr} {sl4 : Array (Option Value)} (a4 : PySem.W.nsIn K mainGlobals "is_pair" = some (some (.ref f4))) (l4 : K.lookup f4 = some ⟨oc4, od4, .func (PySem.W.fnOf "is_pair" "is_pair" (defArgs s_is_pair) (defBody s_is_pair) (defScope s_is_pair) .none kV4 dc4 pm4 an4 cd4 ct4), sl4⟩) (c4 : PySem.W.codeIn K cd4 "is_pair" = true) (k4 : PySem.W.keepIn K (.ref f4) = true)
    {oc5 kV5 dc5 pm5 cd5 ct5 : Value} {od5 an5 : Option Addr} {sl5 : Array (Option Value)} (a5 : PySem.W.nsIn K mainGlobals "_law_pick" = some (some (.ref f5))) (l5 : K.lookup f5 = some ⟨oc5, od5, .func (PySem.W.fnOf "_law_pick" "_law_pick" (defArgs s__law_pick) (defBody s__law_pick) (defScope s__law_pick) .none kV5 dc5 pm5 an5 cd5 ct5), sl5⟩) (c5 : PySem.W.codeIn K cd5 "_law_pick" = true) (k5 : PySem.W.keepIn K (.ref f5) = true)
    {oc6 kV6 dc6 pm6 cd6 ct6 : Value} {od6 an6 : Option Addr} {sl6 : Array (Option Value)} (a6 : PySem.W.nsIn K mainGlobals "_law_some" = some (some (.ref f6))) (l6 : K.lookup f6 = some ⟨oc6, od6, .func (PySem.W.fnOf "_law_some" "_law_some" (defArgs s__law_some) (defBody s__law_some) (defScope s__law_some) .none kV6 dc6 pm6 an6 cd6 ct6), sl6⟩) (c6 : PySem.W.codeIn K cd6 "_law_some" = true) (k6 : PySem.W.keepIn K (.ref f6) = true)
    {oc7 kV7 dc7 pm7 cd7 ct7 : Value} {od7 an7 : Option Addr} {sl7 : Array (Option Value)} (a7 : PySem.W.nsIn K mainGlobals "_law_row" = some (some (.ref f7))) (l7 : K.lookup f7 = some ⟨oc7, od7, .func (PySem.W.fnOf "_law_row" "_law_row" (defArgs s__law_row) (defBody s__law_row) (defScope s__law_row) .none kV7 dc7 pm7 an7 cd7 ct7), sl7⟩) (c7 : PySem.W.codeIn K cd7 "_law_row" = true) (k7 : PySem.W.keepIn K (.ref f7) = true)
    {oc8 kV8 dc8 pm8 cd8 ct8 : Value} {od8 an8 : Option Addr} {sl8 : Array (Option Value)} (a8 : PySem.W.nsIn K mainGlobals "law" = some (some (.ref f8))) (l8 : K.lookup f8 = some ⟨oc8, od8, .func (PySem.W.fnOf "law" "law" (defArgs s_law) (defBody s_law) (defScope s_law) .none kV8 dc8 pm8 an8 cd8 ct8), sl8⟩) (c8 : PySem.W.codeIn K cd8 "law" = true) (k8 : PySem.W.keepIn K (.ref f8) = true)
    (z_abs : PySem.W.nsIn K mainGlobals "abs" = some none)
    (z_all : PySem.W.nsIn K mainGlobals "all" = some none)
    (z_bool : PySem.W.nsIn K mainGlobals "bool" = some none)
    (z_int : PySem.W.nsIn K mainGlobals "int" = some none)
    (z_isinstance : PySem.W.nsIn K mainGlobals "isinstance" = some none)
    (z_len : PySem.W.nsIn K mainGlobals "len" = some none)
    (z_list : PySem.W.nsIn K mainGlobals "list" = some none)
    (z_max : PySem.W.nsIn K mainGlobals "max" = some none)
    (z_min : PySem.W.nsIn K mainGlobals "min" = some none)
    (z_range : PySem.W.nsIn K mainGlobals "range" = some none)
    (z_repr : PySem.W.nsIn K mainGlobals "repr" = some none)
    (z_str : PySem.W.nsIn K mainGlobals "str" = some none)
    (z_tuple : PySem.W.nsIn K mainGlobals "tuple" = some none)
    {t_LETTERS : Tok} (c_LETTERS : PySem.W.nsIn K mainGlobals "LETTERS" = some (some (.str "abcdefghijklmnopqrstuvwxyz" t_LETTERS)))
    {t_LONGEST : Tok} (c_LONGEST : PySem.W.nsIn K mainGlobals "LONGEST" = some (some (.int 1000000000000000000000000000000000000000000000000000000000000 t_LONGEST)))
    {t_MAX_LETTERS : Tok} (c_MAX_LETTERS : PySem.W.nsIn K mainGlobals "MAX_LETTERS" = some (some (.int 8 t_MAX_LETTERS)))
    : ∃ fd : FuncData, (∀ (s : Shared) (v : Value), BindsTo s fd ⟨[v], []⟩ [("script", v)]) ∧ ∀ base : Heap, K.In base → base.Ns mainGlobals mg → FnG l.prog w K mg base 4 fa fd ["script"] (spF K 1 D_law) := by
  have e := hfa.symm.trans (PySem.W.mg_of X G a8)
  cases e
  have T : Txt K mg := ⟨PySem.W.mg_none_of X G z_abs, PySem.W.mg_none_of X G z_all, PySem.W.mg_none_of X G z_bool, PySem.W.mg_none_of X G z_int, PySem.W.mg_none_of X G z_isinstance, PySem.W.mg_none_of X G z_len, PySem.W.mg_none_of X G z_list, PySem.W.mg_none_of X G z_max, PySem.W.mg_none_of X G z_min, PySem.W.mg_none_of X G z_range, PySem.W.mg_none_of X G z_repr, PySem.W.mg_none_of X G z_str, PySem.W.mg_none_of X G z_tuple, ⟨_, PySem.W.mg_of X G c_LETTERS⟩, ⟨_, PySem.W.mg_of X G c_LONGEST⟩, ⟨_, PySem.W.mg_of X G c_MAX_LETTERS⟩⟩
  have F0 := fun_mk (st := s_is_integer) l0 c0 k0
  have F1 := fun_mk (st := s_is_word) l1 c1 k1
  have F2 := fun_mk (st := s__law_dice) l2 c2 k2
  have F3 := fun_mk (st := s__law_roll) l3 c3 k3
  have F4 := fun_mk (st := s_is_pair) l4 c4 k4
  have F5 := fun_mk (st := s__law_pick) l5 c5 k5
  have F6 := fun_mk (st := s__law_some) l6 c6 k6
  have F7 := fun_mk (st := s__law_row) l7 c7 k7
  have F8 := fun_mk (st := s_law) l8 c8 k8
  refine ⟨PySem.W.fnOf "law" "law" (defArgs s_law) (defBody s_law) (defScope s_law) .none kV8 dc8 pm8 an8 cd8 ct8, fun s v => .of_eq rfl, fun base _ _ => ?_⟩
  have G_is_integer := ok_is_integer (P := l.prog) (w := w) (base := base) T  F0 (PySem.W.mg_of X G a0)
  have G_is_word := ok_is_word (P := l.prog) (w := w) (base := base) T  F1 (PySem.W.mg_of X G a1)
  have G__law_dice := ok__law_dice (P := l.prog) (w := w) (base := base) T  F2 (PySem.W.mg_of X G a2)
  have G__law_roll := ok__law_roll (P := l.prog) (w := w) (base := base) T  F3 (PySem.W.mg_of X G a3)
  have G_is_pair := ok_is_pair (P := l.prog) (w := w) (base := base) T G_is_word F4 (PySem.W.mg_of X G a4)
  have G__law_pick := ok__law_pick (P := l.prog) (w := w) (base := base) T G__law_roll F5 (PySem.W.mg_of X G a5)
  have G__law_some := ok__law_some (P := l.prog) (w := w) (base := base) T G__law_roll F6 (PySem.W.mg_of X G a6)
  have G__law_row := ok__law_row (P := l.prog) (w := w) (base := base) T G__law_roll G__law_pick G__law_some F7 (PySem.W.mg_of X G a7)
  exact ok_law_fn (P := l.prog) (w := w) (base := base) T G__law_dice G__law_row G_is_pair G_is_integer F8 (PySem.W.mg_of X G a8)
end Lw
open PySem PySem.W PyProof.Rows
set_option maxRecDepth 100000 in
set_option maxHeartbeats 0 in
theorem PySem.Challenge.cw_keptways_k02_pairs_and_integers_judged_holds : PySem.Challenge.rw_keptways_k02_pairs_and_integers_judged.Holds := by
  w_on; o_law; k_head; (case hw => w_witness2)
  k_fill
  refine Pv.walk_lawT (l := PySem.Challenge.rw_keptways_k02_pairs_and_integers_judged) (k := 4) (F := Lw.D_law) rfl rfl ⟨rfl, by decide, by decide⟩ (fun w h Y => PySem.W.kIn_of Y) Lw.law_true ?G
  case G =>
    intro w mg fa h KX G hmg
    refine' Lw.all_mk KX G hmg ?a0 ?l0 ?c0 ?k0 ?a1 ?l1 ?c1 ?k1 ?a2 ?l2 ?c2 ?k2 ?a3 ?l3 ?c3 ?k3 ?a4 ?l4 ?c4 ?k4 ?a5 ?l5 ?c5 ?k5 ?a6 ?l6 ?c6 ?k6 ?a7 ?l7 ?c7 ?k7 ?a8 ?l8 ?c8 ?k8 ?z_abs ?z_all ?z_bool ?z_int ?z_isinstance ?z_len ?z_list ?z_max ?z_min ?z_range ?z_repr ?z_str ?z_tuple ?c_LETTERS ?c_LONGEST ?c_MAX_LETTERS
    (case a0 => k_is); (case l0 => k_is); (case c0 => k_is); (case k0 => k_is); (case a1 => k_is); (case l1 => k_is); (case c1 => k_is); (case k1 => k_is); (case a2 => k_is); (case l2 => k_is); (case c2 => k_is); (case k2 => k_is); (case a3 => k_is); (case l3 => k_is); (case c3 => k_is); (case k3 => k_is); (case a4 => k_is); (case l4 => k_is); (case c4 => k_is); (case k4 => k_is); (case a5 => k_is); (case l5 => k_is); (case c5 => k_is); (case k5 => k_is); (case a6 => k_is); (case l6 => k_is); (case c6 => k_is); (case k6 => k_is); (case a7 => k_is); (case l7 => k_is); (case c7 => k_is); (case k7 => k_is); (case a8 => k_is); (case l8 => k_is); (case c8 => k_is); (case k8 => k_is); (case z_abs => k_is); (case z_all => k_is); (case z_bool => k_is); (case z_int => k_is); (case z_isinstance => k_is); (case z_len => k_is); (case z_list => k_is); (case z_max => k_is); (case z_min => k_is); (case z_range => k_is); (case z_repr => k_is); (case z_str => k_is); (case z_tuple => k_is); (case c_LETTERS => k_is); (case c_LONGEST => k_is); (case c_MAX_LETTERS => k_is)
#print axioms PySem.Challenge.cw_keptways_k02_pairs_and_integers_judged_holds
