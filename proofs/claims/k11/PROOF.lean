import PyProof.Rows.All
import Wide.All
import OpenK.AllK
import Wide.FinOn
import KE.RegKTryMore
import HandS.ForMost
import HandS.IsInst
import HandS.Exc
import HandS.ExcOwn
import HandS.TryOnly
import HandS.Set
import HandS.TupAny
import HandS.Wide
import HandS.Deep
import HandS.ListEq
import HandS.Conv
import HandS.RaiseMore
import HandS.CallSlots
import HandS.WordsExc
import HandS.Ends
import HandS.Slots
import HandS.TupMul
import HandS.Style
import HandS.NoneIn
import HandS.Dict
import HandS.TupLen
import HandS.Small
import HandS.DictTup
import KE.KDictCopyH
import KE.SortData
import KE.KDictPairs
import KE.KDictDisplayH
import HandS.Steps
import HandS.Property
import HandS.Lambda
import KE.KDictWalk
import HandS.DictComp
import HandS.SetFor
import HandS.Strs
import HandS.ExcValue
import HandS.Defaults
import KE.KDictList
import PyProof.TupleOfSeq
import HandS.TupLe
import PyProof.Draws
import PyProof.EnumMake
import HandS.ClsMeth
import HandS.Star
import PySem.Challenge.RW_keptways_k11_whole_cuts_of_two_lots
set_option Elab.async false
set_option linter.all false
set_option autoImplicit false
set_option maxRecDepth 100000
set_option maxHeartbeats 4000000
/-! Pure values over the hand layer: PV, how the heap bears them, the outcomes. -/
namespace Pv
open PySem PySem.Spec L2
/-- the world that the hashes are of -/
class HW where
  w : World
variable [HW]
/-! ### values -/
/-- a class of exceptions: one of the text's own, by its name, or one of the language -/
inductive XCls where
  | own (n : Str) | blt (n : String)
  deriving DecidableEq
inductive PV where
  | non | bl (b : Bool) | int (i : Int) | str (s : Str)
  | tup (xs : List PV) | lst (xs : List PV) | dct (kvs : List (PV × PV)) | dcm (kvs : List (PV × PV)) | set (xs : List PV)
  | ins (C : Str) (fs : List (Str × PV))
  | exn (C : XCls) (args : List PV) (fs : Option (List (Str × PV)))
  | scr (ns : List Int)
  | loc (n : Nat)
  | cls (C : Str) | ty (n : String)
instance : Inhabited PV := ⟨.non⟩
def keyOf : PV → Option Key
  | .int i => some (.inl i)
  | .str s => some (.inr s)
  | _ => none
def keysOf : List PV → Option (List Key)
  | [] => some []
  | x :: xs => match keyOf x, keysOf xs with
    | some k, some ks => some (k :: ks)
    | _, _ => none
/-- the addresses of cells; those that nothing may reach -/
structure Ad where
  ν : List Addr
  B : List Addr
/-- an address of what never changes -/
def Ad.Free (ω : Ad) (a : Addr) : Prop := a ∉ ω.ν ∧ a ∉ ω.B
abbrev Store := List PV
abbrev PEnv := List (Option PV)
/-- a list of the written part -/
def KL (K : PySem.W.Frag) (a : Addr) (xs : List V) : Prop := ∃ (o : Obj) (its : Array Value) (n : Nat), K.lookup a = some o ∧ o.cls = .type "list" ∧ o.dict = none ∧ o.data = .seq its n ∧ its.size ≤ sizeLine ∧ Vals xs its.toList
/-- where a class of the text stands -/
def clA (K : PySem.W.Frag) (n : Str) : Option Addr := match PySem.W.nsIn K mainGlobals n with
  | some (some (.ref C)) => some C
  | _ => none
/-- an instance -/
def InsO (K : PySem.W.Frag) (n : Str) (dx : Addr) (vs : List (Str × V)) (o : HO) : Prop := ∃ C, clA K n = some C ∧ o = .ins C dx vs
/-- the keys of a dict with keys of all kinds -/
abbrev MKey := Sum Key (List Key)
def mHash (w : World) : MKey → Int
  | .inl k => keyH w k
  | .inr ks => reduceHash (Builtin.Tuple.tupleHashOf (ks.map (keyH w)))
/-- an object that is a dict with such keys -/
def MixO (w : World) (o : Obj) (xs : List (MKey × V × V)) : Prop := o.ExactDict ∧ (xs.map (·.1)).Nodup ∧ xs.length ≤ sizeLine ∧ ∃ es ep, o.data = .dict es ep ∧
  Paired (fun (p : MKey × V × V) (e : DictEntry) => e.hash = mHash w p.1 ∧ RelV p.2.1 e.key ∧ RelV p.2.2 e.val) xs es.toList
/-- a set of texts: ks its members, in the order in which they came -/
def strOf (e : Int × Value) : Str := match e.2 with
  | .str x _ => x
  | _ => ⟨#[]⟩
def GoodS (w : World) (e : Int × Value) : Prop := ∃ x tk, e.2 = Value.str x tk ∧ e.1 = hashStr w x
def SetS (w : World) (h : Heap) (a : Addr) (ks : List Str) : Prop := ∃ o es ep t, h.get? a = some o ∧ o.ExactSet ∧ o.data = .set es ep t ∧ (∀ e ∈ es.toList, GoodS w e) ∧ (es.toList.map strOf).Perm ks ∧ ks.Nodup ∧
  es.size < scanBound ∧ t.fits es.size = true ∧ Ris t.place.toList ∧ (w.params.followText "set-order" = true ∨ t.led = true)
theorem SetS.at {w : World} {h h' : Heap} {a : Addr} {ks : List Str} (R : SetS w h a ks) (k : ∀ o, h.get? a = some o → h'.get? a = some o) : SetS w h' a ks := by
  obtain ⟨o, es, ep, t, ho, r⟩ := R
  exact ⟨o, es, ep, t, k o ho, r⟩
def SetSO (w : World) (a : Addr) (ks : List Str) : HO := .ext fun h => SetS w h a ks
/-- a key's value -/
def MKV (H : Hp) (k : PV) (m : MKey) (v : V) : Prop := (∃ kk, keyOf k = some kk ∧ m = .inl kk ∧ v = kV kk) ∨ ∃ ks kk b, k = .tup ks ∧ keysOf ks = some kk ∧ m = .inr kk ∧ v = .ref b ∧ H b = some (.tup (kk.map kV))
mutual
def Rp (K : PySem.W.Frag) (H : Hp) (ω : Ad) : PV → V → Prop
  | .non, v => v = .non
  | .bl b, v => v = .bl b
  | .int i, v => v = .int i
  | .str s, v => v = .str s
  | .tup xs, v => ∃ a vs, v = .ref a ∧ H a = some (.tup vs) ∧ RpL K H ω xs vs
  | .lst xs, v => ∃ a vs, v = .ref a ∧ H a = some (.lst vs) ∧ ω.Free a ∧ RpL K H ω xs vs
  | .dct kvs, v => ∃ a, v = .ref a ∧ ω.Free a ∧ ((∃ xs, Rd H a (.dK xs) ∧ RpK K H ω kvs xs) ∨ (∃ xs, Rd H a (.dT xs) ∧ RpT K H ω kvs xs))
  | .set xs, v => ∃ a ks, v = .ref a ∧ H a = some (SetSO HW.w a ks) ∧ ω.Free a ∧ xs = ks.map .str
  | .ins C fs, v => ∃ a dx vs c, v = .ref a ∧ clA K C = some c ∧ H a = some (.ins c dx vs) ∧ ω.Free a ∧ RpF K H ω fs vs
  | .exn _ _ _, v => False
  | .dcm kvs, v => ∃ a o xs, v = .ref a ∧ H a = some (.frz o (.own 0)) ∧ ω.Free a ∧ (a == sysModules) = false ∧ MixO HW.w o xs ∧ RpM K H ω kvs xs
  | .scr ns, v => ∃ a, v = .ref a ∧ ((Rd H a (.lst (ns.map V.int)) ∧ ω.Free a) ∨ KL K a (ns.map V.int))
  | .loc n, v => ∃ a, v = .ref a ∧ ω.ν[n]? = some a
  | .cls C, v => ∃ c, clA K C = some c ∧ v = .ref c
  | .ty n, v => v = .ty n
def RpL (K : PySem.W.Frag) (H : Hp) (ω : Ad) : List PV → List V → Prop
  | [], vs => vs = []
  | x :: xs, vs => ∃ v ws, vs = v :: ws ∧ Rp K H ω x v ∧ RpL K H ω xs ws
def RpK (K : PySem.W.Frag) (H : Hp) (ω : Ad) : List (PV × PV) → List (Key × V) → Prop
  | [], vs => vs = []
  | (k, x) :: xs, vs => ∃ kk v ws, vs = (kk, v) :: ws ∧ keyOf k = some kk ∧ Rp K H ω x v ∧ RpK K H ω xs ws
def RpT (K : PySem.W.Frag) (H : Hp) (ω : Ad) : List (PV × PV) → List (List Key × V) → Prop
  | [], vs => vs = []
  | (k, x) :: xs, vs => ∃ ks kk v ws, vs = (kk, v) :: ws ∧ k = .tup ks ∧ keysOf ks = some kk ∧ Rp K H ω x v ∧ RpT K H ω xs ws
def RpM (K : PySem.W.Frag) (H : Hp) (ω : Ad) : List (PV × PV) → List (MKey × V × V) → Prop
  | [], vs => vs = []
  | (k, x) :: xs, vs => ∃ m u v ws, vs = (m, u, v) :: ws ∧ MKV H k m u ∧ Rp K H ω x v ∧ RpM K H ω xs ws
def RpF (K : PySem.W.Frag) (H : Hp) (ω : Ad) : List (Str × PV) → List (Str × V) → Prop
  | [], vs => vs = []
  | (k, x) :: xs, vs => ∃ v ws, vs = (k, v) :: ws ∧ Rp K H ω x v ∧ RpF K H ω xs ws
end
/-! ### what stays -/
@[simp] def isDct : HO → Bool
  | .dK _ => true
  | .dT _ => true
  | _ => false
/-- what may become of an object: it stays, or a loop has locked a dict -/
def Kp (u x : HO) : Prop := x = u ∨ (isDct u = true ∧ ∃ o, x = .frz o u)
theorem Kp.refl {u : HO} : Kp u u := .inl rfl
theorem Kp.trans {u x y : HO} (a : Kp u x) (b : Kp x y) : Kp u y := by
  rcases a with rfl | ⟨d, o, rfl⟩
  · exact b
  · rcases b with rfl | ⟨d2, _⟩
    · exact .inr ⟨d, o, rfl⟩
    · cases d2
theorem Kp.same {u x : HO} (a : Kp u x) (h : isDct u = false) : x = u := by
  rcases a with rfl | ⟨d, _⟩
  · rfl
  · rw [h] at d; cases d
/-- from one state to a later one: cells are added at new places, all else stands -/
structure Stp (ω : Ad) (H : Hp) (ω' : Ad) (H' : Hp) : Prop where
  nu : ∃ ex, ω'.ν = ω.ν ++ ex ∧ ∀ a ∈ ex, H a = none
  bl : ω'.B = ω.B
  kp : ∀ a u, H a = some u → a ∉ ω.ν → ∃ x, H' a = some x ∧ Kp u x
  tr : ∀ a, H a ≠ none → H' a ≠ none
  tp : ∀ a xs, H a = some (.tup xs) → H' a = some (.tup xs)
  bk : ∀ a ∈ ω.B, ∀ u, H a = some u → H' a = some u
theorem Stp.kn {ω ω' : Ad} {H H' : Hp} (s : Stp ω H ω' H') {a : Addr} {u : HO} (h : H a = some u) (n : a ∉ ω.ν) (d : isDct u = false) : H' a = some u := by
  obtain ⟨x, e, k⟩ := s.kp a u h n
  rw [e, k.same d]
theorem Stp.refl {ω : Ad} {H : Hp} : Stp ω H ω H := ⟨⟨[], by simp, by simp⟩, rfl, fun _ u h _ => ⟨u, h, .refl⟩, fun _ h => h, fun _ _ h => h, fun _ _ _ h => h⟩
theorem Stp.trans {ω ω1 ω2 : Ad} {H H1 H2 : Hp} (a : Stp ω H ω1 H1) (b : Stp ω1 H1 ω2 H2) : Stp ω H ω2 H2 := by
  obtain ⟨ex, e1, f1⟩ := a.nu
  obtain ⟨ex2, e2, f2⟩ := b.nu
  refine ⟨⟨ex ++ ex2, by rw [e2, e1, List.append_assoc], fun c hc => ?_⟩, b.bl.trans a.bl, fun c u h n => ?_, fun c h => b.tr c (a.tr c h), fun c xs h => b.tp c xs (a.tp c xs h), fun c hc u h => b.bk c (by rw [a.bl]; exact hc) u (a.bk c hc u h)⟩
  · rcases List.mem_append.mp hc with h | h
    · exact f1 c h
    · cases q : H c with
      | none => rfl
      | some u => exact absurd (f2 c h) (a.tr c (by rw [q]; simp))
  · obtain ⟨x, hx, kx⟩ := a.kp c u h n
    obtain ⟨y, hy, ky⟩ := b.kp c x hx (by
      rw [e1]
      intro hm
      rcases List.mem_append.mp hm with z | z
      · exact n z
      · rw [f1 c z] at h; cases h)
    exact ⟨y, hy, kx.trans ky⟩
/-- what a change of the heap, of the cells and of what is closed lets stand -/
structure Up (ω : Ad) (H : Hp) (ω' : Ad) (H' : Hp) : Prop where
  nu : ∀ (n : Nat) (a : Addr), ω.ν[n]? = some a → ω'.ν[n]? = some a
  kp : ∀ a u, H a = some u → ω.Free a → (∃ x, H' a = some x ∧ Kp u x) ∧ ω'.Free a
  tp : ∀ a xs, H a = some (.tup xs) → H' a = some (.tup xs)
theorem Up.kn {ω ω' : Ad} {H H' : Hp} (s : Up ω H ω' H') {a : Addr} {u : HO} (h : H a = some u) (f : ω.Free a) (d : isDct u = false) : H' a = some u := by
  obtain ⟨⟨x, e, k⟩, _⟩ := s.kp a u h f
  rw [e, k.same d]
theorem Stp.up {ω ω' : Ad} {H H' : Hp} (s : Stp ω H ω' H') : Up ω H ω' H' := by
  obtain ⟨ex, e1, f1⟩ := s.nu
  refine ⟨fun n a h => ?_, fun a u h f => ⟨s.kp a u h f.1, ?_, ?_⟩, s.tp⟩
  · rw [e1, List.getElem?_append_left (List.getElem?_eq_some_iff.mp h).1]; exact h
  · rw [e1]
    intro hm
    rcases List.mem_append.mp hm with z | z
    · exact f.1 z
    · rw [f1 a z] at h; cases h
  · rw [s.bl]; exact f.2
theorem Up.rd {ω ω' : Ad} {H H' : Hp} (u : Up ω H ω' H') {a : Addr} {o : HO} (f : ω.Free a) (h : Rd H a o) : Rd H' a o := by
  rcases h with h | ⟨ob, h⟩
  · obtain ⟨⟨x, hx, k⟩, _⟩ := u.kp a _ h f
    rcases k with rfl | ⟨_, ob, rfl⟩
    · exact .inl hx
    · exact .inr ⟨ob, hx⟩
  · exact .inr ⟨ob, u.kn h f rfl⟩
theorem Up.fr {ω ω' : Ad} {H H' : Hp} (u : Up ω H ω' H') {a : Addr} {o : HO} (f : ω.Free a) (h : Rd H a o) : ω'.Free a := by
  rcases h with h | ⟨ob, h⟩
  · exact (u.kp a _ h f).2
  · exact (u.kp a _ h f).2
section
variable {K : PySem.W.Frag} {ω ω' : Ad} {H H' : Hp}
mutual
theorem Rp.up (u : Up ω H ω' H') : ∀ {x : PV} {v : V}, Rp K H ω x v → Rp K H' ω' x v
  | .non, _, h => h
  | .bl _, _, h => h
  | .int _, _, h => h
  | .str _, _, h => h
  | .tup xs, _, ⟨a, vs, e, h, r⟩ => ⟨a, vs, e, u.tp _ _ h, RpL.up u r⟩
  | .lst xs, _, ⟨a, vs, e, h, f, r⟩ => ⟨a, vs, e, u.kn h f rfl, (u.kp _ _ h f).2, RpL.up u r⟩
  | .dct kvs, _, ⟨a, e, f, .inl ⟨xs, h, r⟩⟩ => ⟨a, e, u.fr f h, .inl ⟨xs, u.rd f h, RpK.up u r⟩⟩
  | .dct kvs, _, ⟨a, e, f, .inr ⟨xs, h, r⟩⟩ => ⟨a, e, u.fr f h, .inr ⟨xs, u.rd f h, RpT.up u r⟩⟩
  | .dcm kvs, _, ⟨a, o, xs, e, h, f, sm, m, r⟩ => ⟨a, o, xs, e, u.kn h f rfl, (u.kp _ _ h f).2, sm, m, RpM.up u r⟩
  | .set _, _, ⟨a, ks, e, h, f, q⟩ => ⟨a, ks, e, u.kn h f rfl, (u.kp _ _ h f).2, q⟩
  | .ins C fs, _, ⟨a, dx, vs, c, e, hc, h, f, r⟩ => ⟨a, dx, vs, c, e, hc, u.kn h f rfl, (u.kp _ _ h f).2, RpF.up u r⟩
  | .exn _ _ _, _, h => h
  | .scr ns, _, ⟨a, e, h⟩ => ⟨a, e, h.imp (fun z => ⟨u.rd z.2 z.1, u.fr z.2 z.1⟩) id⟩
  | .loc n, _, ⟨a, e, h⟩ => ⟨a, e, u.nu n a h⟩
  | .cls _, _, h => h
  | .ty _, _, h => h
theorem RpL.up (u : Up ω H ω' H') : ∀ {xs : List PV} {vs : List V}, RpL K H ω xs vs → RpL K H' ω' xs vs
  | [], _, h => h
  | x :: xs, _, ⟨v, ws, e, h, r⟩ => ⟨v, ws, e, Rp.up u h, RpL.up u r⟩
theorem RpK.up (u : Up ω H ω' H') : ∀ {xs : List (PV × PV)} {vs : List (Key × V)}, RpK K H ω xs vs → RpK K H' ω' xs vs
  | [], _, h => h
  | (_, _) :: xs, _, ⟨kk, v, ws, e, k, h, r⟩ => ⟨kk, v, ws, e, k, Rp.up u h, RpK.up u r⟩
theorem RpT.up (u : Up ω H ω' H') : ∀ {xs : List (PV × PV)} {vs : List (List Key × V)}, RpT K H ω xs vs → RpT K H' ω' xs vs
  | [], _, h => h
  | (_, _) :: xs, _, ⟨ks, kk, v, ws, e, k, k2, h, r⟩ => ⟨ks, kk, v, ws, e, k, k2, Rp.up u h, RpT.up u r⟩
theorem RpM.up (u : Up ω H ω' H') : ∀ {xs : List (PV × PV)} {vs : List (MKey × V × V)}, RpM K H ω xs vs → RpM K H' ω' xs vs
  | [], _, h => h
  | (_, _) :: xs, _, ⟨m, w, v, ws, e, k, h, r⟩ => ⟨m, w, v, ws, e, k.imp id fun ⟨ks, kk, b, e1, e2, e3, e4, e5⟩ => ⟨ks, kk, b, e1, e2, e3, e4, u.tp _ _ e5⟩, Rp.up u h, RpM.up u r⟩
theorem RpF.up (u : Up ω H ω' H') : ∀ {xs : List (Str × PV)} {vs : List (Str × V)}, RpF K H ω xs vs → RpF K H' ω' xs vs
  | [], _, h => h
  | (_, _) :: xs, _, ⟨v, ws, e, h, r⟩ => ⟨v, ws, e, Rp.up u h, RpF.up u r⟩
end
end
/-! ### cells -/
/-- what a changing object holds -/
def CoR (K : PySem.W.Frag) (H : Hp) (ω : Ad) (p : Addr) : PV → HO → Prop
  | .lst xs, o => ∃ vs, o = .lst vs ∧ RpL K H ω xs vs
  | .dct kvs, o => (∃ xs, o = .dK xs ∧ RpK K H ω kvs xs) ∨ (∃ xs, o = .dT xs ∧ RpT K H ω kvs xs)
  | .dcm kvs, o => ∃ ob xs, o = .frz ob (.own 0) ∧ (p == sysModules) = false ∧ MixO HW.w ob xs ∧ RpM K H ω kvs xs
  | .ins C fs, o => ∃ c dx vs, clA K C = some c ∧ o = .ins c dx vs ∧ RpF K H ω fs vs
  | _, _ => False
theorem CoR.up {K : PySem.W.Frag} {ω ω' : Ad} {H H' : Hp} {p : Addr} (u : Up ω H ω' H') : ∀ {x : PV} {o : HO}, CoR K H ω p x o → CoR K H' ω' p x o
  | .lst _, _, ⟨vs, e, r⟩ => ⟨vs, e, r.up u⟩
  | .dct _, _, .inl ⟨xs, e, r⟩ => .inl ⟨xs, e, r.up u⟩
  | .dct _, _, .inr ⟨xs, e, r⟩ => .inr ⟨xs, e, r.up u⟩
  | .dcm _, _, ⟨ob, xs, e, sm, m, r⟩ => ⟨ob, xs, e, sm, m, r.up u⟩
  | .ins _ _, _, ⟨c, dx, vs, hc, e, r⟩ => ⟨c, dx, vs, hc, e, r.up u⟩
  | .exn _ _ _, _, h => h
  | .non, _, h => h
  | .bl _, _, h => h
  | .int _, _, h => h
  | .str _, _, h => h
  | .tup _, _, h => h
  | .set _, _, h => h
  | .scr _, _, h => h
  | .loc _, _, h => h
  | .cls _, _, h => h
  | .ty _, _, h => h
structure StR (K : PySem.W.Frag) (ω : Ad) (S : Store) (H : Hp) : Prop where
  len : ω.ν.length = S.length
  nd : ω.ν.Nodup
  nb : ∀ a ∈ ω.ν, a ∉ ω.B
  tb : ∀ a ∈ ω.B, H a ≠ none
  «at» : ∀ (n : Nat) (c : PV) (a : Addr), S[n]? = some c → ω.ν[n]? = some a → ∃ o, H a = some o ∧ CoR K H ω a c o
theorem StR.tracked {K : PySem.W.Frag} {ω : Ad} {S : Store} {H : Hp} (s : StR K ω S H) {a : Addr} (h : a ∈ ω.ν) : H a ≠ none := by
  obtain ⟨n, hn⟩ := List.mem_iff_getElem?.mp h
  have hl : n < S.length := by rw [← s.len]; exact (List.getElem?_eq_some_iff.mp hn).1
  obtain ⟨o, ho, _⟩ := s.at n S[n] a (List.getElem?_eq_getElem hl) hn
  rw [ho]; simp
def EnvR (K : PySem.W.Frag) (H : Hp) (ω : Ad) (ρ : PEnv) (σ : St) : Prop :=
  ρ.length = σ.length ∧ ∀ (i : Nat) (x : PV), ρ[i]? = some (some x) → ∃ v, σ[i]? = some (some v) ∧ Rp K H ω x v
theorem EnvR.up {K : PySem.W.Frag} {ω ω' : Ad} {H H' : Hp} {ρ : PEnv} {σ : St} (u : Up ω H ω' H') (e : EnvR K H ω ρ σ) : EnvR K H' ω' ρ σ :=
  ⟨e.1, fun i x h => let ⟨v, h1, h2⟩ := e.2 i x h; ⟨v, h1, h2.up u⟩⟩
/-! ### outcomes -/
structure PX where
  cls : XCls
  fs : Option (List (Str × PV))
/-- which class it is -/
def XcR (K : PySem.W.Frag) : XCls → Value → Prop
  | .own n, v => ∃ C, clA K n = some C ∧ v = .ref C
  | .blt n, v => v = .type n
def ExR (K : PySem.W.Frag) (H : Hp) (ω : Ad) (x : PX) (d : Option Addr) : Prop :=
  match x.fs with
  | none => d = none
  | some fs => ∃ a vs, d = some a ∧ H a = some (.xd vs) ∧ ω.Free a ∧ RpF K H ω fs vs
theorem ExR.up {K : PySem.W.Frag} {ω ω' : Ad} {H H' : Hp} {x : PX} {d : Option Addr} (u : Up ω H ω' H') (h : ExR K H ω x d) : ExR K H' ω' x d := by
  unfold ExR at h ⊢
  split
  · rename_i e; rw [e] at h; exact h
  · rename_i fs e
    rw [e] at h
    obtain ⟨a, vs, e, h1, f, r⟩ := h
    exact ⟨a, vs, e, u.kn h1 f rfl, (u.kp _ _ h1 f).2, r.up u⟩
inductive Out (α : Type) where
  | ok (a : α) (S : Store)
  | exc (x : PX) (S : Store)
  | stuck
abbrev M (α : Type) := Store → Out α
def M.ret {α : Type} (a : α) : M α := fun S => .ok a S
@[simp] def Out.then {α β : Type} (o : Out α) (f : α → M β) : Out β := match o with
  | .ok a S => f a S
  | .exc x S => .exc x S
  | .stuck => .stuck
def M.bind {α β : Type} (m : M α) (f : α → M β) : M β := fun S => (m S).then f
def M.stuck {α : Type} : M α := fun _ => .stuck
instance : Monad M where
  pure := M.ret
  bind := M.bind
theorem then_ok {α β : Type} (a : α) (S : Store) (f : α → M β) : (Out.ok a S).then f = f a S := rfl
theorem then_exc {α β : Type} (x : PX) (S : Store) (f : α → M β) : (Out.exc x S).then f = .exc x S := rfl
theorem then_stuck {α β : Type} (f : α → M β) : (Out.stuck : Out α).then f = .stuck := rfl
theorem bind_ap {α β : Type} (m : M α) (f : α → M β) (S : Store) : (m >>= f) S = (m S).then f := rfl
theorem pure_ap {α : Type} (a : α) (S : Store) : (pure a : M α) S = .ok a S := rfl
theorem ret_ap {α : Type} (a : α) (S : Store) : (M.ret a : M α) S = .ok a S := rfl
theorem stuck_ap {α : Type} (S : Store) : (M.stuck : M α) S = .stuck := rfl
/-- what an outcome owes -/
def OutP {α : Type} (K : PySem.W.Frag) (E : XK) (ω : Ad) (H : Hp) (o : Out α) (Q : α → Store → Hp → Ad → Prop) : Prop :=
  match o with
  | .ok r S' => ∀ H' ω', Stp ω H ω' H' → StR K ω' S' H' → Q r S' H' ω'
  | .exc x S' => ∀ cv d H' ω', XcR K x.cls cv → Stp ω H ω' H' → StR K ω' S' H' → ExR K H' ω' x d → E cv d H'
  | .stuck => False
theorem OutP.imp {α : Type} {K : PySem.W.Frag} {E : XK} {ω : Ad} {H : Hp} {o : Out α} {Q Q' : α → Store → Hp → Ad → Prop} (h : OutP K E ω H o Q)
    (i : ∀ r S' H' ω', Stp ω H ω' H' → StR K ω' S' H' → Q r S' H' ω' → Q' r S' H' ω') : OutP K E ω H o Q' := by
  cases o with
  | ok r S' => exact fun H' ω' s t => i r S' H' ω' s t (h H' ω' s t)
  | exc x S' => exact h
  | stuck => exact h
/-- later -/
theorem OutP.later {α : Type} {K : PySem.W.Frag} {E : XK} {ω ω1 : Ad} {H H1 : Hp} {o : Out α} {Q : α → Store → Hp → Ad → Prop} (s : Stp ω H ω1 H1) (h : OutP K E ω H o Q) : OutP K E ω1 H1 o Q := by
  cases o with
  | ok r S' => exact fun H' ω' s1 t => h H' ω' (s.trans s1) t
  | exc x S' => exact fun cv d H' ω' c s1 t => h cv d H' ω' c (s.trans s1) t
  | stuck => exact h
theorem OutP.bind {α β : Type} {K : PySem.W.Frag} {E : XK} {ω : Ad} {H : Hp} {o : Out α} {f : α → M β} {Q : β → Store → Hp → Ad → Prop} (h : OutP K E ω H (o.then f) Q) :
    OutP K E ω H o fun r S' H' ω' => OutP K E ω' H' (f r S') Q := by
  cases o with
  | ok r S' => exact fun H' ω' s _ => OutP.later s h
  | exc x S' => exact h
  | stuck => exact h
/-! ### readings by denotations -/
abbrev Den := PEnv → M PV
abbrev DenA := PEnv → M (List PV)
abbrev DenT := PEnv → M Bool
section
variable (K : PySem.W.Frag) (W : WX)
/-- from a state that is borne -/
def From (ρ : PEnv) (S : Store) (ω : Ad) (σ : St) (H : Hp) : Prop := StR K ω S H ∧ EnvR K H ω ρ σ
def tX (d : Den) : TE := fun σ H Q => ∃ ω S ρ, From K ρ S ω σ H ∧ OutP K (fun c x H' => W c x σ H') ω H (d ρ S) fun r S' H' ω' => ∀ v, Rp K H' ω' r v → Q v H'
def tXA (d : DenA) : TA := fun σ H Q => ∃ ω S ρ, From K ρ S ω σ H ∧ OutP K (fun c x H' => W c x σ H') ω H (d ρ S) fun r S' H' ω' => ∀ vs, RpL K H' ω' r vs → Q vs H'
def tXT (d : DenT) : TT := fun σ H Q => ∃ ω S ρ, From K ρ S ω σ H ∧ OutP K (fun c x H' => W c x σ H') ω H (d ρ S) fun r S' H' ω' => Q r H'
/-- a new object, which nothing knows yet -/
def tXF (d : Den) : TE := fun σ H Q => ∃ ω S ρ, From K ρ S ω σ H ∧ OutP K (fun c x H' => W c x σ H') ω H (d ρ S) fun r S' H' ω' =>
  ∀ p o, H' p = some o → H p = none → p ∉ ω'.ν → StR K ⟨ω'.ν, p :: ω'.B⟩ S' H' → CoR K H' ⟨ω'.ν, p :: ω'.B⟩ p r o → Q (.ref p) H'
end
theorem From.later {K : PySem.W.Frag} {ρ : PEnv} {S S' : Store} {ω ω' : Ad} {σ : St} {H H' : Hp} (f : From K ρ S ω σ H) (s : Stp ω H ω' H') (t : StR K ω' S' H') : From K ρ S' ω' σ H' := ⟨t, f.2.up s.up⟩
theorem _root_.L2.PE.imp {X : Cx} {e : Expr} {t t' : TE} (h : PE X e t) (i : ∀ σ H Q, t' σ H Q → t σ H Q) : PE X e t' := ⟨fun pins s σ H Q I q => h.run pins s σ H Q I (i σ H Q q)⟩
theorem _root_.L2.PT.imp {X : Cx} {e : Expr} {t t' : TT} (h : PT X e t) (i : ∀ σ H Q, t' σ H Q → t σ H Q) : PT X e t' := ⟨fun pins s σ H Q I q => h.run pins s σ H Q I (i σ H Q q)⟩
theorem _root_.L2.PW.imp {X : Cx} {e : Expr} {t t' : TT} (h : PW X e t) (i : ∀ σ H Q, t' σ H Q → t σ H Q) : PW X e t' := ⟨fun wh pins s σ H Q I q => h.run wh pins s σ H Q I (i σ H Q q)⟩
theorem _root_.L2.PA.imp {X : Cx} {es : List Expr} {t t' : TA} (h : PA X es t) (i : ∀ σ H Q, t' σ H Q → t σ H Q) : PA X es t' := ⟨fun pos pins s σ H Q I q => h.run pos pins s σ H Q I (i σ H Q q)⟩
theorem _root_.L2.PS.imp {X : Cx} {st : Stmt} {t t' : TS} (h : PS X st t) (i : ∀ D σ H, t' D σ H → t D σ H) : PS X st t' := ⟨fun pins s σ H D I q => h.run pins s σ H D I (i D σ H q)⟩
theorem _root_.L2.PSs.imp {X : Cx} {st : List Stmt} {t t' : TS} (h : PSs X st t) (i : ∀ D σ H, t' D σ H → t D σ H) : PSs X st t' := ⟨fun pins s σ H D I q => h.run pins s σ H D I (i D σ H q)⟩
abbrev EX (X : Cx) (W : WX) (e : Expr) (d : Den) : Prop := PE X e (tX X.K W d)
abbrev EF (X : Cx) (W : WX) (e : Expr) (d : Den) : Prop := PE X e (tXF X.K W d)
abbrev AX (X : Cx) (W : WX) (es : List Expr) (d : DenA) : Prop := PA X es (tXA X.K W d)
abbrev BX (X : Cx) (W : WX) (e : Expr) (d : DenT) : Prop := PT X e (tXT X.K W d)
end Pv

namespace Pv
open PySem PySem.Spec L2
variable [HW]
/-! ### new objects -/
section
variable {K : PySem.W.Frag} {ω : Ad} {S : Store} {H H' : Hp} {p : Addr} {o : HO}
theorem StR.out (t : StR K ω S H) (h : H p = none) : ω.Free p :=
  ⟨fun z => t.tracked z h, fun z => t.tb p z h⟩
theorem new_up (t : StR K ω S H) (h : H p = none) : Up ω H ⟨ω.ν, p :: ω.B⟩ (upd H p o) := by
  refine ⟨fun _ _ z => z, fun a u e f => ?_, fun a xs e => by rw [upd_ne (ne_of_none e h)]; exact e⟩
  have hne : a ≠ p := ne_of_none e h
  exact ⟨⟨u, by rw [upd_ne hne]; exact e, .refl⟩, f.1, fun z => by
    rcases List.mem_cons.mp z with z | z
    · exact hne z
    · exact f.2 z⟩
theorem new_stp (h : H p = none) : Stp ω H ω (upd H p o) := by
  refine ⟨⟨[], by simp, by simp⟩, rfl, fun a u e _ => ⟨u, ?_, .refl⟩, fun a e => ?_, fun a xs e => by rw [upd_ne (ne_of_none e h)]; exact e, fun a _ u e => by rw [upd_ne (ne_of_none e h)]; exact e⟩
  · rw [upd_ne (ne_of_none e h)]; exact e
  · unfold upd; split
    · simp
    · exact e
theorem new_str (t : StR K ω S H) (h : H p = none) : StR K ⟨ω.ν, p :: ω.B⟩ S (upd H p o) := by
  refine ⟨t.len, t.nd, fun a ha z => ?_, fun a ha => ?_, fun n c a e1 e2 => ?_⟩
  · rcases List.mem_cons.mp z with z | z
    · subst z; exact t.tracked ha h
    · exact t.nb a ha z
  · unfold upd; split
    · simp
    · rcases List.mem_cons.mp ha with z | z
      · contradiction
      · exact t.tb a z
  · obtain ⟨u, hu, r⟩ := t.at n c a e1 e2
    exact ⟨u, by rw [upd_ne (ne_of_none hu h)]; exact hu, r.up (new_up t h)⟩
/-- what was closed is opened -/
theorem open_up : Up ⟨ω.ν, p :: ω.B⟩ H ω H := ⟨fun _ _ z => z, fun a u e f => ⟨⟨u, e, .refl⟩, f.1, fun z => f.2 (List.mem_cons_of_mem _ z)⟩, fun _ _ z => z⟩
theorem open_str (t : StR K ⟨ω.ν, p :: ω.B⟩ S H) : StR K ω S H :=
  ⟨t.len, t.nd, fun a ha z => t.nb a ha (List.mem_cons_of_mem _ z), fun a ha => t.tb a (List.mem_cons_of_mem _ ha), fun n c a e1 e2 => let ⟨u, hu, r⟩ := t.at n c a e1 e2; ⟨u, hu, r.up open_up⟩⟩
theorem CoR.noTup {c : PV} {xs : List V} {q : Addr} (r : CoR K H ω q c (.tup xs)) : False := by
  cases c <;> first | exact r.elim | skip
  · obtain ⟨vs, e, _⟩ := r; cases e
  · rcases r with ⟨vs, e, _⟩ | ⟨vs, e, _⟩ <;> cases e
  · obtain ⟨o, vs, e, _⟩ := r; cases e
  · obtain ⟨c, dx, vs, _, e, _⟩ := r; cases e
/-- a new object as a value that never changes -/
theorem CoR.pure {r : PV} (hp : ω.Free p) (e : H p = some o) (c : CoR K H ⟨ω.ν, p :: ω.B⟩ p r o) : Rp K H ω r (.ref p) := by
  have c := c.up (open_up (ω := ω) (p := p) (H := H))
  cases r with
  | lst xs => obtain ⟨vs, rfl, r⟩ := c; exact ⟨p, vs, rfl, e, hp, r⟩
  | dct kvs =>
    rcases c with ⟨xs, rfl, r⟩ | ⟨xs, rfl, r⟩
    · exact ⟨p, rfl, hp, .inl ⟨xs, .of e, r⟩⟩
    · exact ⟨p, rfl, hp, .inr ⟨xs, .of e, r⟩⟩
  | ins C fs => obtain ⟨cc, dx, vs, hc, rfl, r⟩ := c; exact ⟨p, dx, vs, cc, rfl, hc, e, hp, r⟩
  | dcm kvs => obtain ⟨ob, xs, rfl, sm, m, r⟩ := c; exact ⟨p, ob, xs, rfl, e, hp, sm, m, r⟩
  | exn _ _ _ => exact c.elim
  | non => exact c.elim
  | bl _ => exact c.elim
  | int _ => exact c.elim
  | str _ => exact c.elim
  | tup _ => exact c.elim
  | set _ => exact c.elim
  | scr _ => exact c.elim
  | loc _ => exact c.elim
  | cls _ => exact c.elim
  | ty _ => exact c.elim
/-- a new object as a cell -/
theorem cell_up (h : H p = none) (t : StR K ω S H) (e : H' p = some o) (s : Stp ω H ω H') : Up ⟨ω.ν, p :: ω.B⟩ H' ⟨ω.ν ++ [p], ω.B⟩ H' := by
  refine ⟨fun n a z => ?_, fun a u e f => ⟨⟨u, e, .refl⟩, fun z => ?_, fun z => f.2 (List.mem_cons_of_mem _ z)⟩, fun _ _ z => z⟩
  · rw [List.getElem?_append_left (List.getElem?_eq_some_iff.mp z).1]; exact z
  · rcases List.mem_append.mp z with z | z
    · exact f.1 z
    · exact f.2 (by simp at z; rw [z]; exact List.mem_cons_self)
theorem cell_str {c : PV} (hp : ω.Free p) (t' : StR K ⟨ω.ν, p :: ω.B⟩ S H') (e : H' p = some o) (u : Up ⟨ω.ν, p :: ω.B⟩ H' ⟨ω.ν ++ [p], ω.B⟩ H') (r : CoR K H' ⟨ω.ν, p :: ω.B⟩ p c o) :
    StR K ⟨ω.ν ++ [p], ω.B⟩ (S ++ [c]) H' := by
  have hl := t'.len
  refine ⟨by simpa using hl, ?_, fun a ha z => ?_, fun a ha => t'.tb a (List.mem_cons_of_mem _ ha), fun n c' a e1 e2 => ?_⟩
  · refine List.nodup_append.mpr ⟨t'.nd, by simp, ?_⟩
    intro a ha b hb
    simp at hb
    subst hb
    rintro rfl
    exact hp.1 ha
  · rcases List.mem_append.mp ha with ha | ha
    · exact t'.nb a ha (List.mem_cons_of_mem _ z)
    · simp at ha; subst ha; exact hp.2 z
  · by_cases hn : n < S.length
    · rw [List.getElem?_append_left hn] at e1
      rw [List.getElem?_append_left (show n < ω.ν.length by rw [hl]; exact hn)] at e2
      obtain ⟨w, hw, rw'⟩ := t'.at n c' a e1 e2
      exact ⟨w, hw, rw'.up u⟩
    · have hn1 : n < (S ++ [c]).length := (List.getElem?_eq_some_iff.mp e1).1
      have hn2 : n = S.length := by simp at hn1; omega
      subst hn2
      rw [List.getElem?_append_right (Nat.le_refl _)] at e1
      rw [List.getElem?_append_right (by show ω.ν.length ≤ _; rw [hl]; exact Nat.le_refl _)] at e2
      simp at e1
      have hl' : ω.ν.length = S.length := hl
      simp [hl'] at e2
      subst e1; subst e2
      exact ⟨o, e, r.up u⟩
end
/-! ### what is looked at -/
def look (S : Store) : PV → PV
  | .loc n => S.getD n .non
  | x => x
@[simp] theorem look_non (S : Store) : look S .non = .non := rfl
@[simp] theorem look_bl (S : Store) (b : Bool) : look S (.bl b) = .bl b := rfl
@[simp] theorem look_int (S : Store) (i : Int) : look S (.int i) = .int i := rfl
@[simp] theorem look_str (S : Store) (z : Str) : look S (.str z) = .str z := rfl
@[simp] theorem look_tup (S : Store) (xs : List PV) : look S (.tup xs) = .tup xs := rfl
@[simp] theorem look_lst (S : Store) (xs : List PV) : look S (.lst xs) = .lst xs := rfl
@[simp] theorem look_dct (S : Store) (xs : List (PV × PV)) : look S (.dct xs) = .dct xs := rfl
@[simp] theorem look_set' (S : Store) (xs : List PV) : look S (.set xs) = .set xs := rfl
@[simp] theorem look_scr (S : Store) (xs : List Int) : look S (.scr xs) = .scr xs := rfl
@[simp] theorem look_exn (S : Store) (C : XCls) (xs : List PV) (f : Option (List (Str × PV))) : look S (.exn C xs f) = .exn C xs f := rfl
@[simp] theorem look_dcm (S : Store) (xs : List (PV × PV)) : look S (.dcm xs) = .dcm xs := rfl
@[simp] theorem look_ins (S : Store) (C : Str) (xs : List (Str × PV)) : look S (.ins C xs) = .ins C xs := rfl
@[simp] theorem look_cls (S : Store) (C : Str) : look S (.cls C) = .cls C := rfl
@[simp] theorem look_ty (S : Store) (C : String) : look S (.ty C) = .ty C := rfl
theorem look_at {S : Store} {n : Nat} {c : PV} (h : S[n]? = some c) : look S (.loc n) = c := by
  show S.getD n .non = c
  rw [List.getD_eq_getElem?_getD, h]; rfl
theorem look_set {S : Store} {n : Nat} {c : PV} (h : n < S.length) : look (S.set n c) (.loc n) = c := look_at (by rw [List.getElem?_set_self h])
theorem look_ne {S : Store} {n m : Nat} {c : PV} (h : m ≠ n) : look (S.set n c) (.loc m) = look S (.loc m) := by
  show (S.set n c).getD m .non = S.getD m .non
  rw [List.getD_eq_getElem?_getD, List.getD_eq_getElem?_getD, List.getElem?_set_ne (Ne.symm h)]
section
variable {K : PySem.W.Frag} {ω : Ad} {S : Store} {H : Hp} {x : PV} {v : V}
theorem lst_of (t : StR K ω S H) {xs : List PV} (r : Rp K H ω x v) (e : look S x = .lst xs) : ∃ a vs, v = .ref a ∧ H a = some (.lst vs) ∧ RpL K H ω xs vs := by
  cases x with
  | loc n =>
    obtain ⟨a, rfl, h⟩ := r
    have hn : n < S.length := by rw [← t.len]; exact (List.getElem?_eq_some_iff.mp h).1
    have e' : S[n]? = some (.lst xs) := by
      have e : S.getD n .non = .lst xs := e
      rw [List.getD_eq_getElem?_getD, List.getElem?_eq_getElem hn] at e
      rw [List.getElem?_eq_getElem hn]
      simpa using e
    obtain ⟨o, ho, vs, rfl, rr⟩ := t.at n _ a e' h
    exact ⟨a, vs, rfl, ho, rr⟩
  | lst ys =>
    obtain ⟨a, vs, e1, h, f, rr⟩ := r
    cases (show ys = xs from PV.lst.inj e)
    exact ⟨a, vs, e1, h, rr⟩
  | non => cases e
  | bl _ => cases e
  | int _ => cases e
  | str _ => cases e
  | tup _ => cases e
  | set _ => cases e
  | scr _ => cases e
  | cls _ => cases e
  | ty _ => cases e
  | dct _ => cases e
  | ins _ _ => cases e
  | exn _ _ _ => cases e
  | dcm _ => cases e
/-- what a cell can hold -/
def isCo : PV → Bool
  | .lst _ => true
  | .dct _ => true
  | .ins _ _ => true
  | .dcm _ => true
  | _ => false
theorem CoR.isCo {r : PV} {o : HO} {q : Addr} (c : CoR K H ω q r o) : isCo r = true := by
  cases r <;> first | rfl | exact c.elim
theorem look_loc (t : StR K ω S H) {n : Nat} (r : Rp K H ω (.loc n) v) : ∃ a c o, v = .ref a ∧ ω.ν[n]? = some a ∧ S[n]? = some c ∧ look S (.loc n) = c ∧ H a = some o ∧ CoR K H ω a c o := by
  obtain ⟨a, rfl, h⟩ := r
  have hn : n < S.length := by rw [← t.len]; exact (List.getElem?_eq_some_iff.mp h).1
  have e' : S[n]? = some S[n] := List.getElem?_eq_getElem hn
  obtain ⟨o, ho, c⟩ := t.at n _ a e' h
  refine ⟨a, S[n], o, rfl, h, e', ?_, ho, c⟩
  show S.getD n .non = _
  rw [List.getD_eq_getElem?_getD, e']; rfl
theorem look_eq (t : StR K ω S H) {y : PV} (r : Rp K H ω x v) (e : look S x = y) (h : isCo y = false) : x = y := by
  cases x with
  | loc n =>
    obtain ⟨a, c, o, _, _, _, e2, _, hc⟩ := look_loc t r
    rw [e2] at e; subst e
    rw [hc.isCo] at h; cases h
  | lst ys => exact e
  | non => exact e
  | bl _ => exact e
  | int _ => exact e
  | str _ => exact e
  | tup _ => exact e
  | set _ => exact e
  | scr _ => exact e
  | cls _ => exact e
  | ty _ => exact e
  | dct _ => exact e
  | ins _ _ => exact e
  | exn _ _ _ => exact e
  | dcm _ => exact e
theorem tup_of {xs : List PV} (r : Rp K H ω (.tup xs) v) : ∃ a vs, v = .ref a ∧ SqT K H a vs ∧ RpL K H ω xs vs := by
  obtain ⟨a, vs, e, h, rr⟩ := r
  exact ⟨a, vs, e, .of h, rr⟩
theorem RpL.length : ∀ {xs : List PV} {vs : List V}, RpL K H ω xs vs → xs.length = vs.length
  | [], _, h => by cases h; rfl
  | x :: xs, _, ⟨v, ws, e, _, r⟩ => by subst e; simp [RpL.length r]
theorem RpL.get : ∀ {xs : List PV} {vs : List V} {i : Nat} {x : PV}, RpL K H ω xs vs → xs[i]? = some x → ∃ v, vs[i]? = some v ∧ Rp K H ω x v
  | [], _, _, _, _, h => by simp at h
  | y :: ys, _, 0, x, ⟨v, ws, e, r, _⟩, h => by subst e; simp at h; subst h; exact ⟨v, by simp, r⟩
  | y :: ys, _, i + 1, x, ⟨v, ws, e, _, r⟩, h => by
    subst e
    obtain ⟨w, h1, h2⟩ := RpL.get (i := i) r (by simpa using h)
    exact ⟨w, by simpa using h1, h2⟩
theorem RpL.get' : ∀ {xs : List PV} {vs : List V} {i : Nat} {v : V}, RpL K H ω xs vs → vs[i]? = some v → ∃ x, xs[i]? = some x ∧ Rp K H ω x v := fun {xs vs i v} r h => by
  have hi : i < xs.length := by rw [r.length]; exact (List.getElem?_eq_some_iff.mp h).1
  obtain ⟨w, h1, h2⟩ := r.get (List.getElem?_eq_getElem hi)
  rw [h] at h1; cases h1
  exact ⟨_, List.getElem?_eq_getElem hi, h2⟩
theorem RpL.append : ∀ {xs ys : List PV} {vs ws : List V}, RpL K H ω xs vs → RpL K H ω ys ws → RpL K H ω (xs ++ ys) (vs ++ ws)
  | [], _, _, _, h, q => by cases h; exact q
  | x :: xs, _, _, _, ⟨v, us, e, h, r⟩, q => by subst e; exact ⟨v, us ++ _, rfl, h, r.append q⟩
theorem RpL.take : ∀ {xs : List PV} {vs : List V} (n : Nat), RpL K H ω xs vs → RpL K H ω (xs.take n) (vs.take n)
  | _, _, 0, _ => by simp; rfl
  | [], _, _ + 1, h => by cases h; rfl
  | x :: xs, _, n + 1, ⟨v, us, e, h, r⟩ => by subst e; exact ⟨v, _, rfl, h, r.take n⟩
theorem RpL.drop : ∀ {xs : List PV} {vs : List V} (n : Nat), RpL K H ω xs vs → RpL K H ω (xs.drop n) (vs.drop n)
  | _, _, 0, h => h
  | [], _, _ + 1, h => by cases h; rfl
  | x :: xs, _, n + 1, ⟨v, us, e, h, r⟩ => by subst e; exact r.drop n
theorem RpL.set {y : PV} {w : V} (hy : Rp K H ω y w) : ∀ {xs : List PV} {vs : List V} (n : Nat), RpL K H ω xs vs → RpL K H ω (xs.set n y) (vs.set n w)
  | [], _, _, h => by cases h; rfl
  | x :: xs, _, 0, ⟨v, us, e, h, r⟩ => by subst e; exact ⟨w, us, rfl, hy, r⟩
  | x :: xs, _, n + 1, ⟨v, us, e, h, r⟩ => by subst e; exact ⟨v, _, rfl, h, r.set hy n⟩
theorem RpL.eraseIdx : ∀ {xs : List PV} {vs : List V} (n : Nat), RpL K H ω xs vs → RpL K H ω (xs.eraseIdx n) (vs.eraseIdx n)
  | [], _, _, h => by cases h; rfl
  | x :: xs, _, 0, ⟨v, us, e, h, r⟩ => by subst e; exact r
  | x :: xs, _, n + 1, ⟨v, us, e, h, r⟩ => by subst e; exact ⟨v, _, rfl, h, r.eraseIdx n⟩
theorem RpL.one {x : PV} {vs : List V} (r : RpL K H ω [x] vs) : ∃ v, vs = [v] ∧ Rp K H ω x v := by
  obtain ⟨v, ws, rfl, h, r⟩ := r
  cases r
  exact ⟨v, rfl, h⟩
theorem RpL.two {x y : PV} {vs : List V} (r : RpL K H ω [x, y] vs) : ∃ v w, vs = [v, w] ∧ Rp K H ω x v ∧ Rp K H ω y w := by
  obtain ⟨v, ws, rfl, h, r⟩ := r
  obtain ⟨w, rfl, h2⟩ := r.one
  exact ⟨v, w, rfl, h, h2⟩
theorem RpL.zero {vs : List V} (r : RpL K H ω [] vs) : vs = [] := r
end
/-! ### operators by values -/
@[simp] def optO (o : Option PV) (S : Store) : Out PV := match o with
  | some v => .ok v S
  | none => .stuck
abbrev P2 := Store → PV → PV → Option PV
abbrev PC' := Store → List PV → Option PV
/-- an operator whose answer is a value that never changes -/
def rP (K : PySem.W.Frag) (p : P2) : R2 := fun x y H Q => ∃ ω S px py r, StR K ω S H ∧ Rp K H ω px x ∧ Rp K H ω py y ∧ p S px py = some r ∧
  ∀ v H', Stp ω H ω H' → StR K ω S H' → Rp K H' ω r v → Q v H'
/-- .. a new object -/
def rF (K : PySem.W.Frag) (p : P2) : R2 := fun x y H Q => ∃ ω S px py r, StR K ω S H ∧ Rp K H ω px x ∧ Rp K H ω py y ∧ p S px py = some r ∧
  ∀ q o H', Stp ω H ω H' → H q = none → H' q = some o → StR K ⟨ω.ν, q :: ω.B⟩ S H' → CoR K H' ⟨ω.ν, q :: ω.B⟩ q r o → Q (.ref q) H'
def rCP (K : PySem.W.Frag) (p : PC') : List V → Hp → VK → Prop := fun vs H Q => ∃ ω S ps r, StR K ω S H ∧ RpL K H ω ps vs ∧ p S ps = some r ∧
  ∀ v H', Stp ω H ω H' → StR K ω S H' → Rp K H' ω r v → Q v H'
def rCF (K : PySem.W.Frag) (p : PC') : List V → Hp → VK → Prop := fun vs H Q => ∃ ω S ps r, StR K ω S H ∧ RpL K H ω ps vs ∧ p S ps = some r ∧
  ∀ q o H', Stp ω H ω H' → H q = none → H' q = some o → StR K ⟨ω.ν, q :: ω.B⟩ S H' → CoR K H' ⟨ω.ν, q :: ω.B⟩ q r o → Q (.ref q) H'
abbrev OpP (X : Cx) (f : Value → Value → Sem Value) (p : P2) : Prop := OpR X f (rP X.K p)
abbrev OpF (X : Cx) (f : Value → Value → Sem Value) (p : P2) : Prop := OpR X f (rF X.K p)
abbrev CallP (X : Cx) (f : Value) (p : PC') : Prop := CallR X f (rCP X.K p)
abbrev CallF (X : Cx) (f : Value) (p : PC') : Prop := CallR X f (rCF X.K p)
theorem OpR.weak {X : Cx} {f : Value → Value → Sem Value} {r r' : R2} (h : OpR X f r) (i : ∀ x y H Q, r' x y H Q → r x y H Q) : OpR X f r' :=
  fun pins s σ H x y v u Q I rx ry q => h pins s σ H x y v u Q I rx ry (i _ _ _ _ q)
theorem CallR.weak {X : Cx} {f : Value} {r r' : List V → Hp → VK → Prop} (h : CallR X f r) (i : ∀ vs H Q, r' vs H Q → r vs H Q) : CallR X f r' :=
  fun pins s σ H vs us Q I rx q => h pins s σ H vs us Q I rx (i _ _ _ q)
theorem OpF.pure {X : Cx} {f : Value → Value → Sem Value} {p : P2} (h : OpF X f p) : OpP X f p := OpR.weak h fun x y H Q ⟨ω, S, px, py, r, t, rx, ry, e, k⟩ =>
  ⟨ω, S, px, py, r, t, rx, ry, e, fun q o H' s hn he t' c => k _ _ s (open_str t') (c.pure (t.out hn) he)⟩
theorem CallF.pure {X : Cx} {f : Value} {p : PC'} (h : CallF X f p) : CallP X f p := CallR.weak h fun vs H Q ⟨ω, S, ps, r, t, rx, e, k⟩ =>
  ⟨ω, S, ps, r, t, rx, e, fun q o H' s hn he t' c => k _ _ s (open_str t') (c.pure (t.out hn) he)⟩
/-- a new list -/
theorem new_lst {K : PySem.W.Frag} {ω : Ad} {S : Store} {H : Hp} {p : Addr} {xs : List PV} {vs : List V} {Q : VK} (t : StR K ω S H) (hp : H p = none) (r : RpL K H ω xs vs)
    (k : ∀ q o H', Stp ω H ω H' → H q = none → H' q = some o → StR K ⟨ω.ν, q :: ω.B⟩ S H' → CoR K H' ⟨ω.ν, q :: ω.B⟩ q (.lst xs) o → Q (.ref q) H') : Q (.ref p) (upd H p (.lst vs)) :=
  k p _ _ (new_stp hp) hp upd_same (new_str t hp) ⟨vs, rfl, r.up (new_up t hp)⟩
/-- a new tuple -/
theorem new_tup {K : PySem.W.Frag} {ω : Ad} {S : Store} {H : Hp} {p : Addr} {xs : List PV} {vs : List V} {Q : VK} (t : StR K ω S H) (hp : H p = none) (r : RpL K H ω xs vs)
    (k : ∀ v H', Stp ω H ω H' → StR K ω S H' → Rp K H' ω (.tup xs) v → Q v H') : Q (.ref p) (upd H p (.tup vs)) :=
  k _ _ (new_stp hp) (open_str (new_str t hp)) ⟨p, vs, rfl, upd_same, r.up (new_stp hp).up⟩
/-! #### arithmetic -/
@[simp] def pAdd : P2 := fun S x y => match look S x, look S y with
  | .int i, .int j => some (.int (i + j))
  | .str a, .str b => if a.length + b.length ≤ sizeLine then some (.str (a ++ b)) else none
  | .lst xs, .lst ys => if xs.length + ys.length ≤ sizeLine then some (.lst (xs ++ ys)) else none
  | .tup xs, .tup ys => if xs.length + ys.length ≤ sizeLine then some (.tup (xs ++ ys)) else none
  | _, _ => none
@[simp] def pCat : P2 := fun S x y => match look S x, look S y with
  | .lst xs, .lst ys => if xs.length + ys.length ≤ sizeLine then some (.lst (xs ++ ys)) else none
  | _, _ => none
@[simp] def pInt (f : Int → Int → Option Int) : P2 := fun _ x y => match x, y with
  | .int i, .int j => (f i j).map .int
  | _, _ => none
@[simp] def pSub : P2 := pInt fun i j => some (i - j)
@[simp] def pMulI : P2 := pInt fun i j => if (-(2 ^ 64) < i ∧ i < 2 ^ 64) ∨ (-(2 ^ 64) < j ∧ j < 2 ^ 64) then some (i * j) else none
@[simp] def pMod : P2 := pInt fun i j => if 0 < j then some (i % j) else none
@[simp] def pDiv : P2 := pInt fun i j => if 0 < j ∧ j.natAbs.log2 < 9000 then some (i / j) else none
@[simp] def pPow : P2 := pInt fun i j => if 0 ≤ j ∧ (Builtin.Int.intBits i : Int) * j ≤ 2 ^ 27 then some (i ^ j.toNat) else none
section
variable {X : Cx}
theorem opP_int {op : Operator} {C : Int → Int → Prop} [∀ i j, Decidable (C i j)] {g : Int → Int → Int} (h : OpR X (binaryOp op) (rI C fun i j => .int (g i j))) : OpP X (binaryOp op) (pInt fun i j => if C i j then some (g i j) else none) :=
  OpR.weak h fun x y H Q ⟨ω, S, px, py, r, t, rx, ry, e, k⟩ => by
    cases px <;> first | cases e | skip
    cases py <;> first | cases e | skip
    rename_i i j
    simp only [pInt] at e
    split at e
    · rename_i hc
      cases e
      exact ⟨i, j, rx, ry, hc, k _ _ .refl t rfl⟩
    · cases e
theorem opP_sub : OpP X (binaryOp .Sub) pSub := OpR.weak op_sub fun x y H Q ⟨ω, S, px, py, r, t, rx, ry, e, k⟩ => by
  cases px <;> first | (cases e; done) | skip
  cases py <;> first | (cases e; done) | skip
  rename_i i j
  cases e
  exact ⟨i, j, rx, ry, k _ _ .refl t rfl⟩
theorem opP_mulI : OpP X (binaryOp .Mult) pMulI := opP_int (C := fun i j => (-(2 ^ 64) < i ∧ i < 2 ^ 64) ∨ (-(2 ^ 64) < j ∧ j < 2 ^ 64)) op_mul
theorem opP_mod : OpP X (binaryOp .Mod) pMod := opP_int (C := fun _ j => 0 < j) op_mod
theorem opP_div : OpP X (binaryOp .FloorDiv) pDiv := opP_int (C := fun _ j => 0 < j ∧ j.natAbs.log2 < 9000) op_fdivW
theorem opP_pow : OpP X (binaryOp .Pow) pPow := opP_int (C := fun i j => 0 ≤ j ∧ (Builtin.Int.intBits i : Int) * j ≤ 2 ^ 27) (opI fun _ _ _ _ _ _ _ hc q => PyProof.Rows.pow_int hc.1 hc.2 q)
theorem opF_cat : OpF X (binaryOp .Add) pCat := OpR.weak op_cat fun x y H Q ⟨ω, S, px, py, r, t, rx, ry, e, k⟩ => by
  unfold pCat at e
  split at e
  · rename_i xs ys e1 e2
    obtain ⟨a, vs, rfl, h1, r1⟩ := lst_of t rx e1
    obtain ⟨b, ws, rfl, h2, r2⟩ := lst_of t ry e2
    split at e
    · rename_i hl
      cases e
      exact ⟨a, b, vs, ws, rfl, rfl, h1, h2, by rw [← r1.length, ← r2.length]; exact hl, fun p hp => new_lst t hp (r1.append r2) k⟩
    · cases e
  · cases e
theorem opP_add : OpP X (binaryOp .Add) pAdd := by
  intro pins s σ H x y v u Q I rx ry ⟨ω, S, px, py, r, t, r1, r2, e, k⟩
  unfold pAdd at e
  split at e
  · rename_i i j e1 e2
    cases e
    cases look_eq t r1 e1 rfl
    cases look_eq t r2 e2 rfl
    exact op_add pins s σ H x y v u Q I rx ry ⟨i, j, r1, r2, k _ _ .refl t rfl⟩
  · rename_i i j e1 e2
    cases look_eq t r1 e1 rfl
    cases look_eq t r2 e2 rfl
    split at e
    · rename_i hl
      cases e
      exact op_add_str pins s σ H x y v u Q I rx ry ⟨i, j, r1, r2, hl, k _ _ .refl t rfl⟩
    · cases e
  · rename_i xs ys e1 e2
    split at e
    · rename_i hl
      cases e
      exact opF_cat.pure pins s σ H x y v u Q I rx ry ⟨ω, S, px, py, _, t, r1, r2, by unfold pCat; rw [e1, e2]; exact if_pos hl, k⟩
    · cases e
  · rename_i xs ys e1 e2
    cases look_eq t r1 e1 rfl
    cases look_eq t r2 e2 rfl
    split at e
    · rename_i hl
      cases e
      obtain ⟨a, vs, rfl, h1, q1⟩ := tup_of r1
      obtain ⟨b, ws, rfl, h2, q2⟩ := tup_of r2
      refine op_catA pins s σ H _ _ v u Q I rx ry ⟨a, b, vs, ws, rfl, rfl, h1, h2, by rw [← q1.length, ← q2.length]; exact hl, fun z => ?_, fun _ z => ?_, fun _ _ p hp => new_tup t hp (q1.append q2) k⟩
      · subst z
        have : xs = [] := List.length_eq_zero_iff.mp (by rw [q1.length]; rfl)
        subst this
        exact k _ _ .refl t r2
      · subst z
        have : ys = [] := List.length_eq_zero_iff.mp (by rw [q2.length]; rfl)
        subst this
        rw [List.append_nil] at k
        exact k _ _ .refl t r1
    · cases e
  · cases e
/-! #### order, membership, identity -/
@[simp] def pCmp (f : Int → Int → Bool) : P2 := fun _ x y => match x, y with
  | .int i, .int j => some (.bl (f i j))
  | _, _ => none
@[simp] def pLt : P2 := fun _ x y => match x, y with
  | .int i, .int j => some (.bl (decide (i < j)))
  | .str i, .str j => some (.bl (decide (i.cps.toList < j.cps.toList)))
  | _, _ => none
@[simp] def pLe : P2 := fun _ x y => match x, y with
  | .int i, .int j => some (.bl (decide (i ≤ j)))
  | .str i, .str j => some (.bl (!decide (j.cps.toList < i.cps.toList)))
  | _, _ => none
@[simp] def pGt : P2 := pCmp fun i j => decide (j < i)
@[simp] def pGe : P2 := pCmp fun i j => decide (j ≤ i)
theorem opP_lt : OpP X (compareOp .Lt) pLt := by
  intro pins s σ H x y v u Q I rx ry ⟨ω, S, px, py, r, t, r1, r2, e, k⟩
  unfold pLt at e
  split at e
  · cases e; exact op_lt pins s σ H x y v u Q I rx ry ⟨_, _, r1, r2, k _ _ .refl t rfl⟩
  · cases e; exact op_lt_str pins s σ H x y v u Q I rx ry ⟨_, _, r1, r2, k _ _ .refl t rfl⟩
  · cases e
theorem opP_le : OpP X (compareOp .LtE) pLe := by
  intro pins s σ H x y v u Q I rx ry ⟨ω, S, px, py, r, t, r1, r2, e, k⟩
  unfold pLe at e
  split at e
  · cases e; exact op_le pins s σ H x y v u Q I rx ry ⟨_, _, r1, r2, k _ _ .refl t rfl⟩
  · cases e; exact op_le_str pins s σ H x y v u Q I rx ry ⟨_, _, r1, r2, k _ _ .refl t rfl⟩
  · cases e
theorem opP_gt : OpP X (compareOp .Gt) pGt := OpR.weak op_gt fun x y H Q ⟨ω, S, px, py, r, t, rx, ry, e, k⟩ => by
  cases px <;> first | (cases e; done) | skip
  cases py <;> first | (cases e; done) | skip
  cases e
  exact ⟨_, _, rx, ry, k _ _ .refl t rfl⟩
theorem opP_ge : OpP X (compareOp .GtE) pGe := OpR.weak op_ge fun x y H Q ⟨ω, S, px, py, r, t, rx, ry, e, k⟩ => by
  cases px <;> first | (cases e; done) | skip
  cases py <;> first | (cases e; done) | skip
  cases e
  exact ⟨_, _, rx, ry, k _ _ .refl t rfl⟩
theorem sign_of {i : Str} (h : i.cps.size = 1) : i = ⟨#[i.cps.getD 0 0]⟩ := by
  obtain ⟨a⟩ := i
  obtain ⟨l⟩ := a
  match l, h with
  | [c], _ => rfl
end
end Pv

namespace Pv
open PySem PySem.Spec L2
variable [HW]
def kindP : PV → Option Nat
  | .non => some 0
  | .bl _ => some 1
  | .int _ => some 1
  | .str _ => some 2
  | .lst _ => some 3
  | .tup _ => some 4
  | _ => none
def allEq (f : PV → PV → Option Bool) : List PV → List PV → Option Bool
  | x :: xs, y :: ys => match f x y, allEq f xs ys with
    | some a, some b => some (a && b)
    | _, _ => none
  | _, _ => some true
def flatEq (x y : PV) : Option Bool := match x, y with
  | .non, .non => some true
  | .bl a, .bl b => some (a == b)
  | .int i, .int j => some (i == j)
  | .str x, .str y => some (x == y)
  | .bl a, .int j => some ((if a then 1 else 0) == j)
  | .int i, .bl b => some (i == (if b then 1 else 0))
  | x, y => match kindP x, kindP y with
    | some i, some j => if i = j then none else some false
    | _, _ => none
/-- x == y, as deep as n -/
def pvEq : Nat → PV → PV → Option Bool
  | n + 1, .lst xs, .lst ys => if xs.length = ys.length then allEq (pvEq n) xs ys else some false
  | n + 1, .tup xs, .tup ys => (allEq (pvEq n) xs ys).map (· && xs.length == ys.length)
  | _, x, y => flatEq x y
theorem allEq_get {f : PV → PV → Option Bool} : ∀ {xs ys : List PV} {b : Bool}, allEq f xs ys = some b → ∃ e : Nat → Bool, (∀ (j : Nat) (x y : PV), xs[j]? = some x → ys[j]? = some y → f x y = some (e j)) ∧ (List.range (min xs.length ys.length)).all e = b
  | [], ys, b, h => by cases ys <;> (cases h; exact ⟨fun _ => true, fun j x y h => by simp at h, by simp⟩)
  | x :: xs, [], b, h => by cases h; exact ⟨fun _ => true, fun j x y _ h => by simp at h, by simp⟩
  | x :: xs, y :: ys, b, h => by
    unfold allEq at h
    cases q1 : f x y with
    | none => rw [q1] at h; cases h
    | some a =>
      cases q2 : allEq f xs ys with
      | none => rw [q1, q2] at h; cases h
      | some c =>
        rw [q1, q2] at h; cases h
        obtain ⟨e, he, hb⟩ := allEq_get q2
        refine ⟨fun j => match j with | 0 => a | j + 1 => e j, fun j u w h1 h2 => ?_, ?_⟩
        · cases j with
          | zero => simp at h1 h2; subst h1; subst h2; exact q1
          | succ j => exact he j u w (by simpa using h1) (by simpa using h2)
        · have : min (x :: xs).length (y :: ys).length = min xs.length ys.length + 1 := by simp
          rw [this, List.range_succ_eq_map, List.all_cons, List.all_map, ← hb]
          all_goals rfl
section
variable {X : Cx} {ω : Ad} {H : Hp} {pins : List (Addr × Obj)} {σ : L2.St} {s : Shared} {A : Around}
/-- what the compared things are, in the heap -/
inductive Seen (s : Shared) : PV → Value → Prop where
  | non : Seen s .non .none
  | bl (b : Bool) : Seen s (.bl b) (.bool b)
  | int (i : Int) (t : Tok) : Seen s (.int i) (.int i t)
  | str (z : Str) (t : Tok) : Seen s (.str z) (.str z t)
  | lst {a : Addr} {xs : List PV} {its : List Value} (h : s.heap.IsList a its.toArray) (hl : xs.length = its.length) : Seen s (.lst xs) (.ref a)
  | tup {a : Addr} {xs : List PV} {its : List Value} (h : s.heap.IsTuple a its.toArray) (hl : xs.length = its.length) : Seen s (.tup xs) (.ref a)
theorem flat_rc {x y : PV} {v u : Value} {b : Bool} (hu : A.units < cLine) (sx : Seen s x v) (sy : Seen s y u) (e : flatEq x y = some b) : SeqAt.RcAt A s v u b := by
  cases sx <;> cases sy <;> simp [flatEq, kindP] at e <;> (try subst e)
  all_goals first
    | with_reducible exact SeqAt.RcAt.none_none
    | with_reducible exact SeqAt.RcAt.none_bool _
    | with_reducible exact SeqAt.RcAt.none_int _ _
    | with_reducible exact SeqAt.RcAt.none_str _ _
    | with_reducible exact SeqAt.RcAt.none_list (by assumption) hu
    | with_reducible exact SeqAt.RcAt.none_tuple (by assumption) hu
    | with_reducible exact SeqAt.RcAt.bool_none _
    | with_reducible exact SeqAt.RcAt.bool_bool _ _
    | with_reducible exact SeqAt.RcAt.bool_int _ _ _
    | with_reducible exact SeqAt.RcAt.bool_str _ _ _
    | with_reducible exact SeqAt.RcAt.bool_list _ (by assumption) hu
    | with_reducible exact SeqAt.RcAt.bool_tuple _ (by assumption) hu
    | with_reducible exact SeqAt.RcAt.int_none _ _
    | with_reducible exact SeqAt.RcAt.int_bool _ _ _
    | with_reducible exact SeqAt.RcAt.int_int _ _ _ _
    | with_reducible exact SeqAt.RcAt.int_str _ _ _ _
    | with_reducible exact SeqAt.RcAt.int_list _ _ (by assumption) hu
    | with_reducible exact SeqAt.RcAt.int_tuple _ _ (by assumption) hu
    | with_reducible exact SeqAt.RcAt.str_none _ _
    | with_reducible exact SeqAt.RcAt.str_bool _ _ _
    | with_reducible exact SeqAt.RcAt.str_int _ _ _ _
    | with_reducible exact SeqAt.RcAt.str_str _ _ _ _
    | with_reducible exact SeqAt.RcAt.str_list _ _ (by assumption) hu
    | with_reducible exact SeqAt.RcAt.str_tuple _ _ (by assumption) hu
    | with_reducible exact SeqAt.RcAt.list_none (by assumption) hu
    | with_reducible exact SeqAt.RcAt.list_bool _ (by assumption) hu
    | with_reducible exact SeqAt.RcAt.list_int _ _ (by assumption) hu
    | with_reducible exact SeqAt.RcAt.list_str _ _ (by assumption) hu
    | with_reducible exact SeqAt.RcAt.list_tuple (by assumption) (by assumption) hu
    | with_reducible exact SeqAt.RcAt.tuple_none (by assumption) hu
    | with_reducible exact SeqAt.RcAt.tuple_bool _ (by assumption) hu
    | with_reducible exact SeqAt.RcAt.tuple_int _ _ (by assumption) hu
    | with_reducible exact SeqAt.RcAt.tuple_str _ _ (by assumption) hu
    | with_reducible exact SeqAt.RcAt.tuple_list (by assumption) (by assumption) hu
/-- the value itself, or what a cell at it holds -/
def RpC (K : PySem.W.Frag) (H : Hp) (ω : Ad) (c : PV) (v : V) : Prop := Rp K H ω c v ∨ ∃ a o, v = .ref a ∧ H a = some o ∧ CoR K H ω a c o
theorem rpc_look {K : PySem.W.Frag} {S : Store} {x : PV} {v : V} (t : StR K ω S H) (r : Rp K H ω x v) : RpC K H ω (look S x) v := by
  cases x with
  | loc n =>
    obtain ⟨a, c, o, rfl, _, _, e2, ho, hc⟩ := look_loc t r
    rw [e2]
    exact .inr ⟨a, o, rfl, ho, hc⟩
  | _ => exact .inl r
theorem rpc_lst {K : PySem.W.Frag} {xs : List PV} {v : V} (r : RpC K H ω (.lst xs) v) : ∃ a vs, v = .ref a ∧ H a = some (.lst vs) ∧ RpL K H ω xs vs := by
  rcases r with ⟨a, vs, e, h, _, rr⟩ | ⟨a, o, e, h, vs, rfl, rr⟩
  · exact ⟨a, vs, e, h, rr⟩
  · exact ⟨a, vs, e, h, rr⟩
theorem rpc_rp {K : PySem.W.Frag} {x : PV} {v : V} (r : RpC K H ω x v) (h : isCo x = false) : Rp K H ω x v := by
  rcases r with r | ⟨a, o, _, _, c⟩
  · exact r
  · rw [c.isCo] at h; cases h
theorem seen_of {x : PV} {v : V} {u : Value} (I : L2.Inv X pins σ H s) (r : RpC X.K H ω x v) (rv : RelV v u) (k : kindP x ≠ none) : Seen s x u := by
  cases x with
  | non => cases (show v = .non from rpc_rp r rfl); cases rv; exact .non
  | bl b => cases (show v = .bl b from rpc_rp r rfl); cases rv; exact .bl b
  | int i => cases (show v = .int i from rpc_rp r rfl); obtain ⟨t, rfl⟩ := rv; exact .int i t
  | str z => cases (show v = .str z from rpc_rp r rfl); obtain ⟨t, rfl⟩ := rv; exact .str z t
  | lst xs =>
    obtain ⟨a, vs, rfl, h, rr⟩ := rpc_lst r
    cases rv
    obtain ⟨its, rits, p, _⟩ := I.list (.of h)
    exact .lst p.isList (by rw [rr.length]; exact rits.length)
  | tup xs =>
    obtain ⟨a, vs, rfl, h, rr⟩ := tup_of (rpc_rp r rfl)
    cases rv
    obtain ⟨its, rits, p, _⟩ := I.tuple h
    exact .tup p (by rw [rr.length]; exact rits.length)
  | _ => exact absurd rfl k
def NF : Value → Prop
  | .float _ _ => False
  | _ => True
theorem Seen.nf {x : PV} {v : Value} (h : Seen s x v) : NF v := by cases h <;> exact True.intro
theorem eqAt_rc {v u : Value} {b : Bool} (h : SeqAt.RcAt A s v u b) (hs : v = u → b = true) (nf : NF v) : SeqAt.EqAt A s v u b := fun prog w E Q hq => by
  unfold eqBool
  refine wpAny_holding ?_
  refine wpAny_ite_split (fun hab => ?_) (fun _ => ?_)
  · rw [hs (eq_of_beq hab)] at hq
    exact wpAny_bind (wpAny_rule (wpAny_pure hq))
  · cases v <;> first | (exact nf.elim) | exact wpAny_bind (h prog w E _ (wpAny_truthy_bool hq))
theorem flat_same {x y : PV} {v : Value} {b : Bool} (sx : Seen s x v) (sy : Seen s y v) (e : flatEq x y = some b) : b = true := by
  have nl : ∀ {a : Addr} {l m : Array Value}, s.heap.IsList a l → s.heap.IsTuple a m → False := fun {a l m} h1 h2 => by
    obtain ⟨o, e1, c1, _⟩ := h1
    obtain ⟨o', e2, c2, _⟩ := h2
    rw [e1] at e2; cases e2
    rw [c1] at c2
    exact absurd c2 (by decide)
  cases sx <;> cases sy <;> simp [flatEq, kindP] at e <;> (try subst e) <;> first
    | rfl
    | exact (nl (by assumption) (by assumption)).elim
    | (simp; done)
theorem rp_items {xs : List PV} {vs : List V} {its : List Value} {j : Nat} (rr : RpL X.K H ω xs vs) (rits : Vals vs its) (h : j < its.length) : ∃ x v, xs[j]? = some x ∧ Rp X.K H ω x v ∧ RelV v its[j] := by
  have hv : j < vs.length := by rw [rits.length]; exact h
  obtain ⟨x, h1, h2⟩ := rr.get' (List.getElem?_eq_getElem hv)
  obtain ⟨u, h3, h4⟩ := rits.get (List.getElem?_eq_getElem hv)
  rw [List.getElem?_eq_getElem h] at h3
  cases h3
  exact ⟨x, _, h1, h2, h4⟩
theorem rc_run (I : L2.Inv X pins σ H s) : ∀ (n : Nat) (A : Around) (x y : PV) (v w : V) (u t : Value) (b : Bool), A.units + n < cLine → RpC X.K H ω x v → RpC X.K H ω y w → RelV v u → RelV w t → pvEq n x y = some b →
    SeqAt.RcAt A s u t b ∧ (u = t → b = true) ∧ NF u := by
  intro n
  induction n with
  | zero =>
    intro A x y v w u t b hu rx ry ru rt e
    have e : flatEq x y = some b := by
      unfold pvEq at e
      exact e
    have kx : kindP x ≠ none := by intro z; cases x <;> cases y <;> simp [flatEq, kindP] at e z
    have ky : kindP y ≠ none := by intro z; cases x <;> cases y <;> simp [flatEq, kindP] at e z
    have sx := seen_of I rx ru kx
    have sy := seen_of I ry rt ky
    exact ⟨flat_rc (by omega) sx sy e, fun q => flat_same sx (q ▸ sy) e, sx.nf⟩
  | succ n ih =>
    intro A x y v w u t b hu rx ry ru rt e
    have flat : flatEq x y = some b → SeqAt.RcAt A s u t b ∧ (u = t → b = true) ∧ NF u := fun e => by
      have kx : kindP x ≠ none := by intro z; cases x <;> cases y <;> simp [flatEq, kindP] at e z
      have ky : kindP y ≠ none := by intro z; cases x <;> cases y <;> simp [flatEq, kindP] at e z
      have sx := seen_of I rx ru kx
      have sy := seen_of I ry rt ky
      exact ⟨flat_rc (by omega) sx sy e, fun q => flat_same sx (q ▸ sy) e, sx.nf⟩
    have hin : A.in1.units + n < cLine := by show A.units + 1 + n < cLine; omega
    unfold pvEq at e
    split at e
    · rename_i n' xs ys en
      cases en
      obtain ⟨a, vs, rfl, h1, r1⟩ := rpc_lst rx
      obtain ⟨c, ws, rfl, h2, r2⟩ := rpc_lst ry
      cases ru; cases rt
      obtain ⟨i1, q1, p1, _⟩ := I.list (.of h1)
      obtain ⟨i2, q2, p2, _⟩ := I.list (.of h2)
      have l1 := r1.length.trans q1.length
      have l2 := r2.length.trans q2.length
      split at e
      · rename_i hl
        obtain ⟨f, hf, hb⟩ := allEq_get e
        have items : ∀ j (h1 : j < i1.length) (h2 : j < i2.length), SeqAt.EqAt A.in1 s i1[j] i2[j] (f j) ∧ (i1[j] = i2[j] → f j = true) := fun j g1 g2 => by
          obtain ⟨x, v, a1, a2, a3⟩ := rp_items r1 q1 g1
          obtain ⟨y, w, b1, b2, b3⟩ := rp_items r2 q2 g2
          obtain ⟨rc, sm, nf⟩ := ih A.in1 x y v w _ _ (f j) hin (.inl a2) (.inl b2) a3 b3 (hf j x y a1 b1)
          exact ⟨eqAt_rc rc sm nf, sm⟩
        refine ⟨?_, fun q => ?_, True.intro⟩
        · have := SeqAt.RcAt.lists (A := A) (e := f) p1.isList p2.isList (by simp; omega) (by omega) fun j g1 g2 => by
            simp at g1 g2
            simpa using (items j g1 g2).1
          rw [show min xs.length ys.length = i1.length by omega] at hb
          simpa [hb] using this
        · cases q
          have : vs = ws := by rw [h1] at h2; cases h2; rfl
          subst this
          have ei : i1 = i2 := by
            obtain ⟨o1, m1, e1, _, _, d1⟩ := p1
            obtain ⟨o2, m2, e2, _, _, d2⟩ := p2
            rw [e1] at e2; cases e2
            rw [d1] at d2
            injection d2 with d3 _
            simpa using congrArg Array.toList d3
          subst ei
          rw [← hb, List.all_eq_true]
          intro j hj
          have hj : j < min xs.length ys.length := List.mem_range.mp hj
          exact (items j (by omega) (by omega)).2 rfl
      · rename_i hl
        cases e
        refine ⟨SeqAt.RcAt.lists_lengths p1.isList p2.isList (by simp; omega) (by omega), fun q => ?_, True.intro⟩
        cases q
        rw [h1] at h2
        cases h2
        exact absurd (r1.length.trans r2.length.symm) hl
    · rename_i n' xs ys en
      cases en
      obtain ⟨a, vs, rfl, h1, r1⟩ := tup_of (rpc_rp rx rfl)
      obtain ⟨c, ws, rfl, h2, r2⟩ := tup_of (rpc_rp ry rfl)
      cases ru; cases rt
      obtain ⟨i1, q1, p1, _⟩ := I.tuple h1
      obtain ⟨i2, q2, p2, _⟩ := I.tuple h2
      have l1 := r1.length.trans q1.length
      have l2 := r2.length.trans q2.length
      cases ea : allEq (pvEq n) xs ys with
      | none => rw [ea] at e; cases e
      | some k =>
        rw [ea] at e
        cases e
        obtain ⟨f, hf, hb⟩ := allEq_get ea
        have items : ∀ j (h1 : j < i1.length) (h2 : j < i2.length), SeqAt.EqAt A.in1 s i1[j] i2[j] (f j) ∧ (i1[j] = i2[j] → f j = true) := fun j g1 g2 => by
          obtain ⟨x, v, a1, a2, a3⟩ := rp_items r1 q1 g1
          obtain ⟨y, w, b1, b2, b3⟩ := rp_items r2 q2 g2
          obtain ⟨rc, sm, nf⟩ := ih A.in1 x y v w _ _ (f j) hin (.inl a2) (.inl b2) a3 b3 (hf j x y a1 b1)
          exact ⟨eqAt_rc rc sm nf, sm⟩
        refine ⟨?_, fun q => ?_, True.intro⟩
        · have := SeqAt.RcAt.tuples (A := A) (e := f) p1 p2 (by omega) fun j g1 g2 => by
            simp at g1 g2
            simpa using (items j g1 g2).1
          rw [← hb, show min xs.length ys.length = min i1.length i2.length by omega, l1, l2]
          simpa using this
        · cases q
          have ei := I.tuple_inj h1 h2
          subst ei
          have ei : i1 = i2 := by
            obtain ⟨o1, e1, _, m1, d1⟩ := p1
            obtain ⟨o2, e2, _, m2, d2⟩ := p2
            rw [e1] at e2; cases e2
            rw [d1] at d2
            injection d2 with d3 _
            simpa using congrArg Array.toList d3
          subst ei
          have hl : xs.length = ys.length := by omega
          rw [← hb]
          simp only [hl, beq_self_eq_true, Bool.and_true]
          rw [List.all_eq_true]
          intro j hj
          have hj : j < min ys.length ys.length := List.mem_range.mp hj
          exact (items j (by omega) (by omega)).2 rfl
    · exact flat e
end
/-! #### == and != -/
def dEq (S : Store) (x y : PV) : Option Bool := pvEq 60 (look S x) (look S y)
@[simp] def pEq : P2 := fun S x y => (dEq S x y).map .bl
@[simp] def pNe : P2 := fun S x y => (dEq S x y).map fun b => .bl (!b)
section
variable {X : Cx}
theorem opP_eq (hu : X.A.units + 64 < cLine) : OpP X (compareOp .Eq) pEq := by
  intro pins s σ H x y v u Q I rx ry ⟨ω, S, px, py, r, t, r1, r2, e, k⟩
  simp only [pEq] at e
  cases q : dEq S px py with
  | none => rw [q] at e; cases e
  | some b =>
    rw [q] at e
    cases e
    obtain ⟨rc, _, _⟩ := rc_run I 60 X.A _ _ x y v u b (by omega) (rpc_look t r1) (rpc_look t r2) rx ry q
    exact rc X.prog X.w _ _ ⟨.bl b, H, I, rfl, k _ _ .refl t rfl⟩
theorem flat_ne {s : Shared} {A : Around} {x y : PV} {v u : Value} {b : Bool} (hu : A.units < cLine) (sx : Seen s x v) (sy : Seen s y u) (e : flatEq x y = some b) {c : Bool} (hc : (!b) = c) : SeqAt.RcNeAt A s v u c := by
  cases sx <;> cases sy <;> simp [flatEq, kindP] at e <;> (try subst e) <;> (try (obtain rfl : c = true := hc.symm)) <;> (try (obtain rfl : c = false := hc.symm)) <;> (try subst hc)
  all_goals first
    | with_reducible exact SeqAt.RcNeAt.none_none
    | with_reducible exact SeqAt.RcNeAt.none_bool _
    | with_reducible exact SeqAt.RcNeAt.none_int _ _
    | with_reducible exact SeqAt.RcNeAt.none_str _ _
    | with_reducible exact SeqAt.RcNeAt.none_list (by assumption) hu
    | with_reducible exact SeqAt.RcNeAt.none_tuple (by assumption) hu
    | with_reducible exact SeqAt.RcNeAt.bool_none _
    | with_reducible exact SeqAt.RcNeAt.bool_bool _ _
    | with_reducible exact SeqAt.RcNeAt.bool_int _ _ _
    | with_reducible exact SeqAt.RcNeAt.bool_str _ _ _
    | with_reducible exact SeqAt.RcNeAt.bool_list _ (by assumption) hu
    | with_reducible exact SeqAt.RcNeAt.bool_tuple _ (by assumption) hu
    | with_reducible exact SeqAt.RcNeAt.int_none _ _
    | with_reducible exact SeqAt.RcNeAt.int_bool _ _ _
    | with_reducible exact SeqAt.RcNeAt.int_int _ _ _ _
    | with_reducible exact SeqAt.RcNeAt.int_str _ _ _ _
    | with_reducible exact SeqAt.RcNeAt.int_list _ _ (by assumption) hu
    | with_reducible exact SeqAt.RcNeAt.int_tuple _ _ (by assumption) hu
    | with_reducible exact SeqAt.RcNeAt.str_none _ _
    | with_reducible exact SeqAt.RcNeAt.str_bool _ _ _
    | with_reducible exact SeqAt.RcNeAt.str_int _ _ _ _
    | with_reducible exact SeqAt.RcNeAt.str_str _ _ _ _
    | with_reducible exact SeqAt.RcNeAt.str_list _ _ (by assumption) hu
    | with_reducible exact SeqAt.RcNeAt.str_tuple _ _ (by assumption) hu
    | with_reducible exact SeqAt.RcNeAt.list_none (by assumption) hu
    | with_reducible exact SeqAt.RcNeAt.list_bool _ (by assumption) hu
    | with_reducible exact SeqAt.RcNeAt.list_int _ _ (by assumption) hu
    | with_reducible exact SeqAt.RcNeAt.list_str _ _ (by assumption) hu
    | with_reducible exact SeqAt.RcNeAt.list_tuple (by assumption) (by assumption) hu
    | with_reducible exact SeqAt.RcNeAt.tuple_none (by assumption) hu
    | with_reducible exact SeqAt.RcNeAt.tuple_bool _ (by assumption) hu
    | with_reducible exact SeqAt.RcNeAt.tuple_int _ _ (by assumption) hu
    | with_reducible exact SeqAt.RcNeAt.tuple_str _ _ (by assumption) hu
    | with_reducible exact SeqAt.RcNeAt.tuple_list (by assumption) (by assumption) hu
theorem ne_run {ω : Ad} {H : Hp} {pins : List (Addr × Obj)} {σ : L2.St} {s : Shared} (I : L2.Inv X pins σ H s) (n : Nat) (A : Around) (x y : PV) (v w : V) (u t : Value) (b : Bool) (hu : A.units + (n + 1) < cLine) (rx : RpC X.K H ω x v) (ry : RpC X.K H ω y w) (ru : RelV v u) (rt : RelV w t)
    (e : pvEq (n + 1) x y = some b) : SeqAt.RcNeAt A s u t (!b) := by
  have flat : flatEq x y = some b → SeqAt.RcNeAt A s u t (!b) := fun e => by
    have kx : kindP x ≠ none := by intro z; cases x <;> cases y <;> simp [flatEq, kindP] at e z
    have ky : kindP y ≠ none := by intro z; cases x <;> cases y <;> simp [flatEq, kindP] at e z
    exact flat_ne (by omega) (seen_of I rx ru kx) (seen_of I ry rt ky) e rfl
  have hin : A.in1.units + n < cLine := by show A.units + 1 + n < cLine; omega
  unfold pvEq at e
  split at e
  · rename_i n' xs ys en
    cases en
    obtain ⟨a, vs, rfl, h1, r1⟩ := rpc_lst rx
    obtain ⟨c, ws, rfl, h2, r2⟩ := rpc_lst ry
    cases ru; cases rt
    obtain ⟨i1, q1, p1, _⟩ := I.list (.of h1)
    obtain ⟨i2, q2, p2, _⟩ := I.list (.of h2)
    have l1 := r1.length.trans q1.length
    have l2 := r2.length.trans q2.length
    split at e
    · rename_i hl
      obtain ⟨f, hf, hb⟩ := allEq_get e
      have := SeqAt.RcNeAt.lists (A := A) (e := f) p1.isList p2.isList (by simp; omega) (by omega) fun j g1 g2 => by
        simp at g1 g2
        obtain ⟨x, v, a1, a2, a3⟩ := rp_items r1 q1 g1
        obtain ⟨y, w, b1, b2, b3⟩ := rp_items r2 q2 g2
        obtain ⟨rc, sm, nf⟩ := rc_run I n A.in1 x y v w _ _ (f j) hin (.inl a2) (.inl b2) a3 b3 (hf j x y a1 b1)
        simpa using eqAt_rc rc sm nf
      rw [show min xs.length ys.length = i1.length by omega] at hb
      simpa [hb] using this
    · rename_i hl
      cases e
      exact SeqAt.RcNeAt.lists_lengths p1.isList p2.isList (by simp; omega) (by omega)
  · rename_i n' xs ys en
    cases en
    obtain ⟨a, vs, rfl, h1, r1⟩ := tup_of (rpc_rp rx rfl)
    obtain ⟨c, ws, rfl, h2, r2⟩ := tup_of (rpc_rp ry rfl)
    cases ru; cases rt
    obtain ⟨i1, q1, p1, _⟩ := I.tuple h1
    obtain ⟨i2, q2, p2, _⟩ := I.tuple h2
    have l1 := r1.length.trans q1.length
    have l2 := r2.length.trans q2.length
    cases ea : allEq (pvEq n) xs ys with
    | none => rw [ea] at e; cases e
    | some k =>
      rw [ea] at e
      cases e
      obtain ⟨f, hf, hb⟩ := allEq_get ea
      have := SeqAt.RcNeAt.tuples (A := A) (e := f) p1 p2 (by omega) fun j g1 g2 => by
        simp at g1 g2
        obtain ⟨x, v, a1, a2, a3⟩ := rp_items r1 q1 g1
        obtain ⟨y, w, b1, b2, b3⟩ := rp_items r2 q2 g2
        obtain ⟨rc, sm, nf⟩ := rc_run I n A.in1 x y v w _ _ (f j) hin (.inl a2) (.inl b2) a3 b3 (hf j x y a1 b1)
        simpa using eqAt_rc rc sm nf
      rw [← hb, show min xs.length ys.length = min i1.length i2.length by omega, l1, l2]
      simpa using this
  · exact flat e
theorem opP_ne (hu : X.A.units + 64 < cLine) : OpP X (compareOp .NotEq) pNe := by
  intro pins s σ H x y v u Q I rx ry ⟨ω, S, px, py, r, t, r1, r2, e, k⟩
  simp only [pNe] at e
  cases q : dEq S px py with
  | none => rw [q] at e; cases e
  | some b =>
    rw [q] at e
    cases e
    exact ne_run I 59 X.A _ _ x y v u b (by omega) (rpc_look t r1) (rpc_look t r2) rx ry q X.prog X.w _ _ ⟨.bl (!b), H, I, rfl, k _ _ .refl t rfl⟩
/-! #### in and not in -/
/-- a sign in a text -/
def dIn (S : Store) (x y : PV) : Option Bool := match x, y with
  | .str i, .str j => if i.cps.size = 1 then some (decide (i.cps.getD 0 0 ∈ j.cps.toList)) else none
  | _, _ => none
@[simp] def pIn : P2 := fun S x y => (dIn S x y).map .bl
@[simp] def pNotIn : P2 := fun S x y => (dIn S x y).map fun b => .bl (!b)
theorem opP_in (hu : X.A.units + 65 < cLine) : OpP X (compareOp .In) pIn := by
  intro pins s σ H x y v u Q I rx ry ⟨ω, S, px, py, r, t, r1, r2, e, k⟩
  unfold pIn dIn at e
  split at e
  · rename_i i j
    split at e
    · rename_i h1
      cases e
      have hi := sign_of h1
      rw [hi] at r1
      exact op_in_sign pins s σ H x y v u Q I rx ry ⟨_, j, r1, r2, k _ _ .refl t rfl⟩
    · cases e
  · cases e
theorem opP_notIn (hu : X.A.units + 65 < cLine) : OpP X (compareOp .NotIn) pNotIn := by
  intro pins s σ H x y v u Q I rx ry ⟨ω, S, px, py, r, t, r1, r2, e, k⟩
  unfold pNotIn dIn at e
  split at e
  · rename_i i j
    split at e
    · rename_i h1
      cases e
      have hi := sign_of h1
      rw [hi] at r1
      exact op_notIn_sign pins s σ H x y v u Q I rx ry ⟨_, j, r1, r2, k _ _ .refl t rfl⟩
    · cases e
  · cases e
end
end Pv

namespace Pv
open PySem PySem.Spec L2
variable [HW]
/-! ### expressions -/
section
variable {X : Cx} {W : WX} {a b c e : Expr} {da db dc de : Den} {pos : Pos}
/-- a wish, at the slots as they stand -/
abbrev xk (W : WX) (σ : St) : XK := fun c x H' => W c x σ H'
theorem optO_P {K : PySem.W.Frag} {E : XK} {ω : Ad} {H : Hp} {o : Option PV} {S : Store} {Q : PV → Store → Hp → Ad → Prop} (t : StR K ω S H) (h : OutP K E ω H (optO o S) Q) :
    ∃ r, o = some r ∧ ∀ H' , Stp ω H ω H' → StR K ω S H' → Q r S H' ω := by
  cases o with
  | none => exact h.elim
  | some r => exact ⟨r, rfl, fun H' s t' => h H' ω s t'⟩
/-! #### names, constants -/
@[simp] def dV (i : Nat) : Den := fun ρ S => match ρ[i]? with
  | some (some v) => .ok v S
  | _ => .stuck
@[simp] def dK (v : PV) : Den := fun _ S => .ok v S
theorem ex_v (i : Nat) {x : Str} (hN : X.N[i]? = some x := by rfl) (hv : Vis X.env.scope x := by first | exact Or.inl rfl | exact Or.inr (Or.inl rfl) | exact Or.inr (Or.inr rfl)) (hd : (x == ("__debug__" : Str)) = false := by decide)
    (hcd : (x == ("__classdict__" : Str)) = false := by decide) : EX X W (.Name x pos) (dV i) := (pe_var hN hv hd hcd).imp fun σ H Q ⟨ω, S, ρ, f, o⟩ => by
  unfold dV at o
  split at o
  · rename_i v hv
    obtain ⟨w, h1, h2⟩ := f.2.2 i v hv
    exact ⟨w, h1, o H ω .refl f.1 w h2⟩
  · exact o.elim
theorem ex_k {t : TE} {v : PV} {u : V} (h : PE X e (tC u)) (r : ∀ K H ω, Rp K H ω v u) : EX X W e (dK v) := h.imp fun σ H Q ⟨ω, S, ρ, f, o⟩ => o H ω .refl f.1 u (r _ _ _)
theorem ex_int {i : Int} {j} : EX X W (.Constant (.int i) j pos) (dK (.int i)) := ex_k (t := tC .non) pe_int fun _ _ _ => rfl
theorem ex_bl {b : Bool} {j} : EX X W (.Constant (.bool b) j pos) (dK (.bl b)) := ex_k (t := tC .non) pe_bl fun _ _ _ => rfl
theorem ex_non {j} : EX X W (.Constant .none j pos) (dK .non) := ex_k (t := tC .non) pe_non fun _ _ _ => rfl
theorem ex_str {x : Str} {j} : EX X W (.Constant (.str x) j pos) (dK (.str x)) := ex_k (t := tC .non) pe_str fun _ _ _ => rfl
/-- a module's int, text, bool, class -/
theorem ex_glob {x : Str} {v : PV} {w : V} {u : Value} (hg : Gl X x) (hm : X.mg x = some u) (r : RelV w u) (q : ∀ H ω, Rp X.K H ω v w) (hd : (x == ("__debug__" : Str)) = false := by decide) : EX X W (.Name x pos) (dK v) :=
  (pe_glob hg hm r hd).imp fun σ H Q ⟨ω, S, ρ, f, o⟩ => o H ω .refl f.1 w (q _ _)
theorem ex_bltn {x : Str} {n : String} (hg : Gl X x) (hm : X.mg x = none) (hv : bootBuiltins x = some (.type n)) (hn : x ≠ "__name__" := by decide) (hd : (x == ("__debug__" : Str)) = false := by decide) : EX X W (.Name x pos) (dK (.ty n)) :=
  (pe_bltn hg hm hv (v := .ty n) rfl hn hd).imp fun σ H Q ⟨ω, S, ρ, f, o⟩ => o H ω .refl f.1 _ rfl
/-! #### operators -/
@[simp] def dBin (p : P2) (da db : Den) : Den := fun ρ S => (da ρ S).then fun x S1 => (db ρ S1).then fun y S2 => optO (p S2 x y) S2
theorem bin_P {p : P2} {σ : St} {H : Hp} {Q : VK} (h : tX X.K W (dBin p da db) σ H Q) : tOp (rP X.K p) (tX X.K W da) (tX X.K W db) σ H Q := by
  obtain ⟨ω, S, ρ, f, o⟩ := h
  refine ⟨ω, S, ρ, f, (OutP.bind o).imp fun x S1 H1 ω1 s1 t1 o1 v rv => ⟨ω1, S1, ρ, f.later s1 t1, (OutP.bind o1).imp fun y S2 H2 ω2 s2 t2 o2 w rw => ?_⟩⟩
  obtain ⟨r, e, k⟩ := optO_P t2 o2
  exact ⟨ω2, S2, x, y, r, t2, rv.up s2.up, rw, e, fun v' H' s' t' r' => k H' s' t' v' r'⟩
theorem bin_F {p : P2} {σ : St} {H : Hp} {Q : VK} (h : tXF X.K W (dBin p da db) σ H Q) : tOp (rF X.K p) (tX X.K W da) (tX X.K W db) σ H Q := by
  obtain ⟨ω, S, ρ, f, o⟩ := h
  refine ⟨ω, S, ρ, f, (OutP.bind o).imp fun x S1 H1 ω1 s1 t1 o1 v rv => ⟨ω1, S1, ρ, f.later s1 t1, (OutP.bind o1).imp fun y S2 H2 ω2 s2 t2 o2 w rw => ?_⟩⟩
  obtain ⟨r, e, k⟩ := optO_P t2 o2
  refine ⟨ω2, S2, x, y, r, t2, rv.up s2.up, rw, e, fun q o H' s' hn he t' c => k H' s' (open_str t') q o he ?_ ?_ t' c⟩
  · cases hq : H q with
    | none => rfl
    | some u => exact absurd hn ((s1.trans s2).tr q (by rw [hq]; simp))
  · exact (t2.out hn).1
theorem ex_bin {op : Operator} {p : P2} (ho : OpP X (binaryOp op) p) (ha : EX X W a da) (hb : EX X W b db) : EX X W (.BinOp a op b pos) (dBin p da db) := (pe_op ho ha hb).imp fun _ _ _ => bin_P
theorem ef_bin {op : Operator} {p : P2} (ho : OpF X (binaryOp op) p) (ha : EX X W a da) (hb : EX X W b db) : EF X W (.BinOp a op b pos) (dBin p da db) := (pe_op ho ha hb).imp fun _ _ _ => bin_F
theorem ex_cmp {op : CmpOp} {p : P2} (ho : OpP X (compareOp op) p) (ha : EX X W a da) (hb : EX X W b db) (hm : behindInMarks op b = false := by rfl) : EX X W (.Compare a [op] [b] pos) (dBin p da db) := (pe_cmpR ho ha hb hm).imp fun _ _ _ => bin_P
/-- a denotation as a test -/
@[simp] def dB (d : Den) : DenT := fun ρ S => (d ρ S).then fun x S1 => match x with
  | .bl b => .ok b S1
  | _ => .stuck
theorem test_of {t : TE} {d : Den} {σ : St} {H : Hp} {Q : Bool → Hp → Prop} (h : tXT X.K W (dB d) σ H Q) (i : ∀ Q, tX X.K W d σ H Q → t σ H Q) : tTest t σ H Q := by
  obtain ⟨ω, S, ρ, f, o⟩ := h
  refine i _ ⟨ω, S, ρ, f, (OutP.bind o).imp fun x S1 H1 ω1 s1 t1 o1 v rv => ?_⟩
  cases x with
  | bl b => exact ⟨b, rv, o1 H1 ω1 .refl t1⟩
  | _ => exact o1.elim
theorem bx_cmp {op : CmpOp} {p : P2} (ho : OpP X (compareOp op) p) (ha : EX X W a da) (hb : EX X W b db) (hm : behindInMarks op b = false := by rfl) : BX X W (.Compare a [op] [b] pos) (dB (dBin p da db)) :=
  (pt_cmpR ho ha hb hm).imp fun _ _ _ h => test_of h fun _ => bin_P
/-- an expression that is a bool, as a test -/
theorem bx_val (he : EX X W e de) (hw : ∀ whole, isTrue e X.env whole = (do let v ← whole; standAt e.pos; holding [v] (truthy v)) := by intro _; rfl) : BX X W e (dB de) :=
  (pt_val he hw).imp fun _ _ _ h => test_of h fun _ q => q
/-- a chain a < b < c -/
@[simp] def dChain (p p' : P2) (da db dc : Den) : Den := fun ρ S => (da ρ S).then fun x S1 => (db ρ S1).then fun y S2 => (optO (p S2 x y) S2).then fun z S3 => match z with
  | .bl true => (dc ρ S3).then fun w S4 => optO (p' S4 y w) S4
  | .bl false => .ok (.bl false) S3
  | _ => .stuck
theorem chain_P {p p' : P2} {σ : St} {H : Hp} {Q : VK} (h : tX X.K W (dChain p p' da db dc) σ H Q) : tChain (rP X.K p) (rP X.K p') (tX X.K W da) (tX X.K W db) (tX X.K W dc) σ H Q := by
  obtain ⟨ω, S, ρ, f, o⟩ := h
  refine ⟨ω, S, ρ, f, (OutP.bind o).imp fun x S1 H1 ω1 s1 t1 o1 v rv => ⟨ω1, S1, ρ, f.later s1 t1, (OutP.bind o1).imp fun y S2 H2 ω2 s2 t2 o2 w rw => ?_⟩⟩
  obtain ⟨z, e, k⟩ := optO_P t2 (OutP.bind o2)
  refine ⟨ω2, S2, x, y, z, t2, rv.up s2.up, rw, e, fun v' H' s' t' r' => ?_⟩
  have k' := k H' s' t'
  cases z with
  | bl b =>
    refine ⟨b, r', ?_⟩
    cases b with
    | true =>
      refine iteT ⟨ω2, S2, ρ, (f.later (s1.trans s2) t2).later s' t', (OutP.bind k').imp fun u S4 H4 ω4 s4 t4 o4 x4 r4 => ?_⟩
      obtain ⟨r, e', k4⟩ := optO_P t4 o4
      exact ⟨ω4, S4, y, u, r, t4, (rw.up s'.up).up s4.up, r4, e', fun v5 H5 s5 t5 r5 => k4 H5 s5 t5 v5 r5⟩
    | false => exact iteF (k' H' ω2 .refl t' _ rfl)
  | _ => exact k'.elim
theorem ex_chain {op op' : CmpOp} {p p' : P2} (ho : OpP X (compareOp op) p) (ho' : OpP X (compareOp op') p') (ha : EX X W a da) (hb : EX X W b db) (hc : EX X W c dc) (hm : lastMarks [op, op'] [b, c] = false := by with_unfolding_all rfl) :
    EX X W (.Compare a [op, op'] [b, c] pos) (dChain p p' da db dc) := (pe_chain ho ho' ha hb hc hm).imp fun σ H Q h => chain_P h
theorem bx_chain {op op' : CmpOp} {p p' : P2} (ho : OpP X (compareOp op) p) (ho' : OpP X (compareOp op') p') (ha : EX X W a da) (hb : EX X W b db) (hc : EX X W c dc) (hm : lastMarks [op, op'] [b, c] = false := by with_unfolding_all rfl) :
    BX X W (.Compare a [op, op'] [b, c] pos) (dB (dChain p p' da db dc)) := (pt_chain ho ho' ha hb hc hm).imp fun _ _ _ h => test_of h fun _ => chain_P
/-! #### and, or, not, if .. else -/
@[simp] def dAnd (da db : Den) : Den := fun ρ S => (da ρ S).then fun x S1 => match x with
  | .bl true => db ρ S1
  | .bl false => .ok (.bl false) S1
  | _ => .stuck
@[simp] def dOr (da db : Den) : Den := fun ρ S => (da ρ S).then fun x S1 => match x with
  | .bl true => .ok (.bl true) S1
  | .bl false => db ρ S1
  | _ => .stuck
@[simp] def dNot (da : Den) : Den := fun ρ S => (da ρ S).then fun x S1 => match x with
  | .bl b => .ok (.bl (!b)) S1
  | _ => .stuck
@[simp] def dAndT (t u : DenT) : DenT := fun ρ S => (t ρ S).then fun c S1 => if c = true then u ρ S1 else .ok false S1
@[simp] def dOrT (t u : DenT) : DenT := fun ρ S => (t ρ S).then fun c S1 => if c = true then .ok true S1 else u ρ S1
@[simp] def dNotT (t : DenT) : DenT := fun ρ S => (t ρ S).then fun c S1 => .ok (!c) S1
@[simp] def dIf (t : DenT) (da db : Den) : Den := fun ρ S => (t ρ S).then fun c S1 => if c = true then da ρ S1 else db ρ S1
variable {rest : List Expr} {dt du : DenT}
theorem ex_one {op} (h : EX X W a da) : EX X W (.BoolOp op [a] pos) da := pe_one h
theorem ex_and (ha : EX X W a da) (hb : EX X W (.BoolOp .And (b :: rest) pos) db) : EX X W (.BoolOp .And (a :: b :: rest) pos) (dAnd da db) :=
  (pe_and ha hb).imp fun σ H Q ⟨ω, S, ρ, f, o⟩ => ⟨ω, S, ρ, f, (OutP.bind o).imp fun x S1 H1 ω1 s1 t1 o1 v rv => by
    cases x with
    | bl k =>
      refine ⟨k, rv, ?_⟩
      cases k with
      | true => exact iteT ⟨ω1, S1, ρ, f.later s1 t1, o1⟩
      | false => exact iteF (o1 H1 ω1 .refl t1 _ rfl)
    | _ => exact o1.elim⟩
theorem ex_or (ha : EX X W a da) (hb : EX X W (.BoolOp .Or (b :: rest) pos) db) : EX X W (.BoolOp .Or (a :: b :: rest) pos) (dOr da db) :=
  (pe_or ha hb).imp fun σ H Q ⟨ω, S, ρ, f, o⟩ => ⟨ω, S, ρ, f, (OutP.bind o).imp fun x S1 H1 ω1 s1 t1 o1 v rv => by
    cases x with
    | bl k =>
      refine ⟨k, rv, ?_⟩
      cases k with
      | true => exact iteT (o1 H1 ω1 .refl t1 _ rfl)
      | false => exact iteF ⟨ω1, S1, ρ, f.later s1 t1, o1⟩
    | _ => exact o1.elim⟩
theorem ex_not (ha : EX X W a da) : EX X W (.UnaryOp .Not a pos) (dNot da) :=
  (pe_not ha).imp fun σ H Q ⟨ω, S, ρ, f, o⟩ => ⟨ω, S, ρ, f, (OutP.bind o).imp fun x S1 H1 ω1 s1 t1 o1 v rv => by
    cases x with
    | bl k => exact ⟨k, rv, o1 H1 ω1 .refl t1 _ rfl⟩
    | _ => exact o1.elim⟩
abbrev WX' (X : Cx) (W : WX) (e : Expr) (d : DenT) : Prop := PW X e (tXT X.K W d)
theorem wx_and1 (ha : BX X W a dt) : WX' X W (.BoolOp .And [a] pos) dt := pw_and1 ha
theorem wx_or1 (ha : BX X W a dt) : WX' X W (.BoolOp .Or [a] pos) dt := pw_or1 ha
theorem wx_and (ha : BX X W a dt) (hb : WX' X W (.BoolOp .And (b :: rest) pos) du) : WX' X W (.BoolOp .And (a :: b :: rest) pos) (dAndT dt du) :=
  (pw_and ha hb).imp fun σ H Q ⟨ω, S, ρ, f, o⟩ => ⟨ω, S, ρ, f, (OutP.bind o).imp fun k S1 H1 ω1 s1 t1 o1 => by
    cases k with
    | true => exact iteT ⟨ω1, S1, ρ, f.later s1 t1, o1⟩
    | false => exact iteF (o1 H1 ω1 .refl t1)⟩
theorem wx_or (ha : BX X W a dt) (hb : WX' X W (.BoolOp .Or (b :: rest) pos) du) : WX' X W (.BoolOp .Or (a :: b :: rest) pos) (dOrT dt du) :=
  (pw_or ha hb).imp fun σ H Q ⟨ω, S, ρ, f, o⟩ => ⟨ω, S, ρ, f, (OutP.bind o).imp fun k S1 H1 ω1 s1 t1 o1 => by
    cases k with
    | true => exact iteT (o1 H1 ω1 .refl t1)
    | false => exact iteF ⟨ω1, S1, ρ, f.later s1 t1, o1⟩⟩
theorem bx_w (h : WX' X W e dt) : BX X W e dt := h.pt
theorem bx_not (ha : BX X W a dt) : BX X W (.UnaryOp .Not a pos) (dNotT dt) :=
  (pt_not ha).imp fun σ H Q ⟨ω, S, ρ, f, o⟩ => ⟨ω, S, ρ, f, (OutP.bind o).imp fun k S1 H1 ω1 s1 t1 o1 => o1 H1 ω1 .refl t1⟩
theorem ex_if (hc : BX X W c dt) (ha : EX X W a da) (hb : EX X W b db) : EX X W (.IfExp c a b pos) (dIf dt da db) :=
  (pe_ifExp hc ha hb).imp fun σ H Q ⟨ω, S, ρ, f, o⟩ => ⟨ω, S, ρ, f, (OutP.bind o).imp fun k S1 H1 ω1 s1 t1 o1 => by
    cases k with
    | true => exact iteT ⟨ω1, S1, ρ, f.later s1 t1, o1⟩
    | false => exact iteF ⟨ω1, S1, ρ, f.later s1 t1, o1⟩⟩
/-! #### argument lists, displays -/
@[simp] def dNil : DenA := fun _ S => .ok [] S
@[simp] def dCons (d : Den) (ds : DenA) : DenA := fun ρ S => (d ρ S).then fun x S1 => (ds ρ S1).then fun xs S2 => .ok (x :: xs) S2
variable {es : List Expr} {ds : DenA}
theorem ax_nil : AX X W [] dNil := pa_nil.imp fun σ H Q ⟨ω, S, ρ, f, o⟩ => o H ω .refl f.1 [] rfl
theorem ax_cons (he : EX X W e de) (hr : AX X W es ds) (hs : starEach (e :: es) X.env = (false, eval e X.env) :: starEach es X.env := by rfl) : AX X W (e :: es) (dCons de ds) :=
  (pa_cons he hr hs).imp fun σ H Q ⟨ω, S, ρ, f, o⟩ => ⟨ω, S, ρ, f, (OutP.bind o).imp fun x S1 H1 ω1 s1 t1 o1 v rv => ⟨ω1, S1, ρ, f.later s1 t1, (OutP.bind o1).imp fun xs S2 H2 ω2 s2 t2 o2 vs rvs =>
    o2 H2 ω2 .refl t2 _ ⟨v, vs, rfl, rv.up s2.up, rvs⟩⟩⟩
@[simp] def dTup (ds : DenA) : Den := fun ρ S => (ds ρ S).then fun xs S1 => if xs.length ≤ sizeLine then .ok (.tup xs) S1 else .stuck
@[simp] def dLst (ds : DenA) : Den := fun ρ S => (ds ρ S).then fun xs S1 => if xs.length ≤ sizeLine then .ok (.lst xs) S1 else .stuck
theorem ex_tup {x1} (h : AX X W es ds) : EX X W (.Tuple es x1 pos) (dTup ds) := (pe_tup h).imp fun σ H Q ⟨ω, S, ρ, f, o⟩ => ⟨ω, S, ρ, f, (OutP.bind o).imp fun xs S1 H1 ω1 s1 t1 o1 vs rvs => by
  split at o1
  · rename_i hl
    exact ⟨by rw [← rvs.length]; exact hl, fun p hp => new_tup t1 hp rvs fun v H' s' t' r' => o1 H' ω1 s' t' v r'⟩
  · exact o1.elim⟩
theorem ef_lst (h : AX X W es ds) : EF X W (.List es pos) (dLst ds) := (pe_lst h).imp fun σ H Q ⟨ω, S, ρ, f, o⟩ => ⟨ω, S, ρ, f, (OutP.bind o).imp fun xs S1 H1 ω1 s1 t1 o1 vs rvs => by
  split at o1
  · rename_i hl
    refine ⟨by rw [← rvs.length]; exact hl, fun p hp => new_lst t1 hp rvs fun q u H' s' hn he t' r' => o1 H' ω1 s' (open_str t') q u he ?_ (t1.out hn).1 t' r'⟩
    cases hq : H q with
    | none => rfl
    | some w => exact absurd hn (s1.tr q (by rw [hq]; simp))
  · exact o1.elim⟩
/-- a new object as a value -/
theorem f_P {d : Den} {σ : St} {H : Hp} {Q : VK} (h : tX X.K W d σ H Q) : tXF X.K W d σ H Q := by
  obtain ⟨ω, S, ρ, f, o⟩ := h
  exact ⟨ω, S, ρ, f, o.imp fun r S1 H1 ω1 s1 t1 k p u he hn hp t' c => k (.ref p) (c.pure ⟨hp, fun z => t'.nb p (by
    exfalso
    have : p ∈ ω.B := by rw [← s1.bl]; exact z
    exact f.1.tb p this hn) (List.mem_cons_self)⟩ he)⟩
theorem ex_f (h : EF X W e de) : EX X W e de := h.imp fun _ _ _ => f_P
/-- a new object as a cell -/
@[simp] def dCell (d : Den) : Den := fun ρ S => (d ρ S).then fun c S1 => .ok (.loc S1.length) (S1 ++ [c])
theorem cell_P {d : Den} {σ : St} {H : Hp} {Q : VK} (h : tX X.K W (dCell d) σ H Q) : tXF X.K W d σ H Q := by
  obtain ⟨ω, S, ρ, f, o⟩ := h
  refine ⟨ω, S, ρ, f, ?_⟩
  unfold dCell at o
  revert o
  cases d ρ S with
  | exc x S' => exact id
  | stuck => exact id
  | ok r S1 =>
    intro o H1 ω1 s1 t1 p u he hn hp t' c
    have hpB : p ∉ ω1.B := fun z => by
      have : p ∈ ω.B := by rw [← s1.bl]; exact z
      exact f.1.tb p this hn
    have up : Up ⟨ω1.ν, p :: ω1.B⟩ H1 ⟨ω1.ν ++ [p], ω1.B⟩ H1 := by
      refine ⟨fun n a z => ?_, fun a w e f' => ⟨⟨w, e, .refl⟩, fun z => ?_, fun z => f'.2 (List.mem_cons_of_mem _ z)⟩, fun _ _ z => z⟩
      · show (ω1.ν ++ [p])[n]? = some a
        rw [List.getElem?_append_left (List.getElem?_eq_some_iff.mp z).1]; exact z
      · rcases List.mem_append.mp z with z | z
        · exact f'.1 z
        · exact f'.2 (by simp at z; rw [z]; exact List.mem_cons_self)
    have t2 : StR X.K ⟨ω1.ν ++ [p], ω1.B⟩ (S1 ++ [r]) H1 := cell_str (ω := ω1) ⟨hp, hpB⟩ t' he up c
    refine o H1 ⟨ω1.ν ++ [p], ω1.B⟩ ?_ t2 _ ⟨p, rfl, ?_⟩
    · obtain ⟨ex, e1, f1⟩ := s1.nu
      refine ⟨⟨ex ++ [p], by show ω1.ν ++ [p] = _; rw [e1, List.append_assoc], fun a ha => ?_⟩, s1.bl, s1.kp, s1.tr, s1.tp, s1.bk⟩
      rcases List.mem_append.mp ha with z | z
      · exact f1 a z
      · simp at z; rw [z]; exact hn
    · show (ω1.ν ++ [p])[S1.length]? = some p
      rw [List.getElem?_append_right (by rw [t1.len]; exact Nat.le_refl _)]
      simp [t1.len]
theorem ex_cell (h : EF X W e de) : EX X W e (dCell de) := h.imp fun _ _ _ => cell_P
end
end Pv

namespace Pv
open PySem PySem.Spec L2
variable [HW]
section
variable {X : Cx} {W : WX} {a b c e o : Expr} {da db dc de : Den} {pos p : Pos} {es : List Expr} {ds : DenA} {x : Str} {id T : String}
/-! ### calls of built-ins -/
@[simp] def dCB (q : PC') (ds : DenA) : Den := fun ρ S => (ds ρ S).then fun xs S1 => optO (q S1 xs) S1
theorem cb_P {q : PC'} {σ : St} {H : Hp} {Q : VK} (h : tX X.K W (dCB q ds) σ H Q) : tCB (rCP X.K q) (tXA X.K W ds) σ H Q := by
  obtain ⟨ω, S, ρ, f, o⟩ := h
  refine ⟨ω, S, ρ, f, (OutP.bind o).imp fun xs S1 H1 ω1 s1 t1 o1 vs rvs => ?_⟩
  obtain ⟨r, e, k⟩ := optO_P t1 o1
  exact ⟨ω1, S1, xs, r, t1, rvs, e, fun v' H' s' t' r' => k H' s' t' v' r'⟩
theorem cb_F {q : PC'} {σ : St} {H : Hp} {Q : VK} (h : tXF X.K W (dCB q ds) σ H Q) : tCB (rCF X.K q) (tXA X.K W ds) σ H Q := by
  obtain ⟨ω, S, ρ, f, o⟩ := h
  refine ⟨ω, S, ρ, f, (OutP.bind o).imp fun xs S1 H1 ω1 s1 t1 o1 vs rvs => ?_⟩
  obtain ⟨r, e, k⟩ := optO_P t1 o1
  refine ⟨ω1, S1, xs, r, t1, rvs, e, fun q o H' s' hn he t' c => k H' s' (open_str t') q o he ?_ (t1.out hn).1 t' c⟩
  cases hq : H q with
  | none => rfl
  | some u => exact absurd hn (s1.tr q (by rw [hq]; simp))
theorem ex_cb {q : PC'} (hc : CallP X (.builtin id) q) (hg : Gl X x) (hm : X.mg x = none) (hv : bootBuiltins x = some (.builtin id)) (ha : AX X W (e :: es) ds) (hn : x ≠ "__name__" := by decide) (hdb : (x == ("__debug__" : Str)) = false := by decide)
    (he : starEach (e :: es) X.env = (false, eval e X.env) :: starEach es X.env := by rfl) (hpl : (backTo pos (starEach es X.env)).any (·.1) = false := by rfl) : EX X W (.Call (.Name x p) (e :: es) [] pos) (dCB q ds) :=
  (pe_callB hc hg hm hv ha hn hdb he hpl).imp fun _ _ _ => cb_P
theorem ef_cb {q : PC'} (hc : CallF X (.builtin id) q) (hg : Gl X x) (hm : X.mg x = none) (hv : bootBuiltins x = some (.builtin id)) (ha : AX X W (e :: es) ds) (hn : x ≠ "__name__" := by decide) (hdb : (x == ("__debug__" : Str)) = false := by decide)
    (he : starEach (e :: es) X.env = (false, eval e X.env) :: starEach es X.env := by rfl) (hpl : (backTo pos (starEach es X.env)).any (·.1) = false := by rfl) : EF X W (.Call (.Name x p) (e :: es) [] pos) (dCB q ds) :=
  (pe_callB hc hg hm hv ha hn hdb he hpl).imp fun _ _ _ => cb_F
theorem ex_ct {q : PC'} (hc : CallP X (.type T) q) (hg : Gl X x) (hm : X.mg x = none) (hv : bootBuiltins x = some (.type T)) (ha : AX X W (e :: es) ds) (hn : x ≠ "__name__" := by decide) (hdb : (x == ("__debug__" : Str)) = false := by decide)
    (he : starEach (e :: es) X.env = (false, eval e X.env) :: starEach es X.env := by rfl) (hpl : (backTo pos (starEach es X.env)).any (·.1) = false := by rfl) : EX X W (.Call (.Name x p) (e :: es) [] pos) (dCB q ds) :=
  (pe_callTy hc hg hm hv ha hn hdb he hpl).imp fun _ _ _ => cb_P
theorem ef_ct {q : PC'} (hc : CallF X (.type T) q) (hg : Gl X x) (hm : X.mg x = none) (hv : bootBuiltins x = some (.type T)) (ha : AX X W (e :: es) ds) (hn : x ≠ "__name__" := by decide) (hdb : (x == ("__debug__" : Str)) = false := by decide)
    (he : starEach (e :: es) X.env = (false, eval e X.env) :: starEach es X.env := by rfl) (hpl : (backTo pos (starEach es X.env)).any (·.1) = false := by rfl) : EF X W (.Call (.Name x p) (e :: es) [] pos) (dCB q ds) :=
  (pe_callTy hc hg hm hv ha hn hdb he hpl).imp fun _ _ _ => cb_F
/-! #### len, int, abs, max, min, all, any, repr, list -/
@[simp] def cLen : PC' := fun S xs => match xs with
  | [x] => match look S x with
    | .str s => if s.length ≤ sizeLine then some (.int s.length) else none
    | .lst ys => some (.int ys.length)
    | .tup ys => some (.int ys.length)
    | .scr ns => some (.int ns.length)
    | _ => none
  | _ => none
theorem callP_len : CallP X (.builtin "len") cLen := CallR.weak call_len fun vs H Q ⟨ω, S, ps, r, t, rv, e, k⟩ => by
  match ps, e with
  | [px], e =>
    obtain ⟨v, rfl, rx⟩ := rv.one
    simp only [cLen] at e
    split at e
    · rename_i s e1
      cases look_eq t rx e1 rfl
      split at e
      · rename_i hs
        cases e
        exact ⟨v, s.length, rfl, by rw [show v = .str s from rx]; exact ⟨hs, rfl⟩, k _ _ .refl t rfl⟩
      · cases e
    · rename_i ys e1
      obtain ⟨a, ws, rfl, h1, r1⟩ := lst_of t rx e1
      cases e
      exact ⟨_, ys.length, rfl, .inl ⟨ws, .of h1, r1.length⟩, k _ _ .refl t rfl⟩
    · rename_i ys e1
      cases look_eq t rx e1 rfl
      obtain ⟨a, ws, rfl, h1, r1⟩ := tup_of rx
      cases e
      exact ⟨_, ys.length, rfl, .inr ⟨ws, h1, r1.length⟩, k _ _ .refl t rfl⟩
    · rename_i ns e1
      cases look_eq t rx e1 rfl
      obtain ⟨a, rfl, h1⟩ := rx
      cases e
      exact ⟨_, ns.length, rfl, .inl ⟨_, h1.imp And.left _root_.id, by simp⟩, k _ _ .refl t rfl⟩
    · cases e
@[simp] def cAbs : PC' := fun _ xs => match xs with
  | [.int i] => some (.int (if i < 0 then -i else i))
  | _ => none
theorem callP_abs : CallP X (.builtin "abs") cAbs := CallR.weak call_abs fun vs H Q ⟨ω, S, ps, r, t, rv, e, k⟩ => by
  match ps, e with
  | [.int i], e =>
    obtain ⟨v, rfl, rfl⟩ := rv.one
    cases e
    exact ⟨i, rfl, k _ _ .refl t rfl⟩
@[simp] def cInt : PC' := fun _ xs => match xs with
  | [.int i] => some (.int i)
  | [.bl b] => some (.int (if b then 1 else 0))
  | _ => none
theorem callP_int : CallP X (.type "int") cInt := CallR.weak call_int1 fun vs H Q ⟨ω, S, ps, r, t, rv, e, k⟩ => by
  match ps, e with
  | [.int i], e =>
    obtain ⟨v, rfl, rfl⟩ := rv.one
    cases e
    exact .inl ⟨i, rfl, k _ _ .refl t rfl⟩
  | [.bl b], e =>
    obtain ⟨v, rfl, rfl⟩ := rv.one
    cases e
    exact .inr ⟨b, rfl, k _ _ .refl t rfl⟩
@[simp] def cMax2 : PC' := fun _ xs => match xs with
  | [.int i, .int j] => some (.int (if j > i then j else i))
  | _ => none
@[simp] def cMin2 : PC' := fun _ xs => match xs with
  | [.int i, .int j] => some (.int (if j < i then j else i))
  | _ => none
theorem callP_max2 (hc : X.calm = true) : CallP X (.builtin "max") cMax2 := CallR.weak (call_max2 hc) fun vs H Q ⟨ω, S, ps, r, t, rv, e, k⟩ => by
  match ps, e with
  | [.int i, .int j], e =>
    obtain ⟨v, w, rfl, rfl, rfl⟩ := rv.two
    cases e
    exact ⟨i, j, rfl, k _ _ .refl t rfl⟩
theorem callP_min2 (hc : X.calm = true) : CallP X (.builtin "min") cMin2 := CallR.weak (call_min2 hc) fun vs H Q ⟨ω, S, ps, r, t, rv, e, k⟩ => by
  match ps, e with
  | [.int i, .int j], e =>
    obtain ⟨v, w, rfl, rfl, rfl⟩ := rv.two
    cases e
    exact ⟨i, j, rfl, k _ _ .refl t rfl⟩
def bls : List PV → Option (List Bool)
  | [] => some []
  | .bl b :: xs => (bls xs).map (b :: ·)
  | _ :: _ => none
theorem bls_map (f : PV → Bool) (xs : List PV) : bls (xs.map fun x => .bl (f x)) = some (xs.map f) := by
  induction xs with
  | nil => rfl
  | cons x xs ih => simp [bls, ih]
theorem bls_vals {K : PySem.W.Frag} {H : Hp} {ω : Ad} : ∀ {xs : List PV} {bs : List Bool} {vs : List V}, RpL K H ω xs vs → bls xs = some bs → vs = bs.map V.bl
  | [], _, _, r, e => by cases r; cases e; rfl
  | x :: xs, bs, _, ⟨v, ws, rfl, r, rs⟩, e => by
    cases x with
    | bl b =>
      simp only [bls] at e
      cases q : bls xs with
      | none => rw [q] at e; cases e
      | some cs =>
        rw [q] at e; cases e
        cases (show v = .bl b from r)
        rw [bls_vals rs q]; rfl
    | _ => cases e
@[simp] def cAll : PC' := fun S xs => match xs with
  | [x] => match look S x with
    | .lst ys => (bls ys).map fun bs => .bl (bs.all _root_.id)
    | _ => none
  | _ => none
@[simp] def cAny : PC' := fun S xs => match xs with
  | [x] => match look S x with
    | .lst ys => (bls ys).map fun bs => .bl (bs.any _root_.id)
    | _ => none
  | _ => none
theorem callP_all (hc : X.calm = true) : CallP X (.builtin "all") cAll := CallR.weak (cr_all hc) fun vs H Q ⟨ω, S, ps, r, t, rv, e, k⟩ => by
  match ps, e with
  | [px], e =>
    obtain ⟨v, rfl, rx⟩ := rv.one
    simp only [cAll] at e
    split at e
    · rename_i ys e1
      obtain ⟨a, ws, rfl, h1, r1⟩ := lst_of t rx e1
      cases q : bls ys with
      | none => rw [q] at e; cases e
      | some bs =>
        rw [q] at e; cases e
        have := bls_vals r1 q
        subst this
        exact ⟨a, bs, rfl, .of h1, k _ _ .refl t rfl⟩
    · cases e
theorem callP_any (hc : X.calm = true) : CallP X (.builtin "any") cAny := CallR.weak (cr_any hc) fun vs H Q ⟨ω, S, ps, r, t, rv, e, k⟩ => by
  match ps, e with
  | [px], e =>
    obtain ⟨v, rfl, rx⟩ := rv.one
    simp only [cAny] at e
    split at e
    · rename_i ys e1
      obtain ⟨a, ws, rfl, h1, r1⟩ := lst_of t rx e1
      cases q : bls ys with
      | none => rw [q] at e; cases e
      | some bs =>
        rw [q] at e; cases e
        have := bls_vals r1 q
        subst this
        exact ⟨a, bs, rfl, .of h1, k _ _ .refl t rfl⟩
    · cases e
/-- repr of a bool, an int, a text, None -/
@[simp] def cRepr : PC' := fun _ xs => match xs with
  | [.bl b] => some (.str (if b then "True" else "False"))
  | [.non] => some (.str "None")
  | [.int i] => if i.natAbs.log2 < 1920 then some (.str (toString i)) else none
  | _ => none
theorem callP_repr : CallP X (.builtin "repr") cRepr := by
  intro pins s σ H vs us Q I r ⟨ω, S, ps, r', t, rv, e, k⟩
  match ps, e with
  | [.bl b], e =>
    obtain ⟨v, rfl, rfl⟩ := rv.one
    cases e
    obtain ⟨u, rfl, rx⟩ := vals1 r
    cases rx
    exact PySem.P.repr_of_bool ⟨.str _, H, I.tok _, ⟨_, rfl⟩, k _ _ .refl t rfl⟩
  | [.non], e =>
    obtain ⟨v, rfl, rfl⟩ := rv.one
    cases e
    obtain ⟨u, rfl, rx⟩ := vals1 r
    cases rx
    exact PySem.P.repr_of_none ⟨.str _, H, I.tok _, ⟨_, rfl⟩, k _ _ .refl t rfl⟩
  | [.int i], e =>
    obtain ⟨v, rfl, rfl⟩ := rv.one
    simp only [cRepr] at e
    split at e
    · rename_i hi
      cases e
      exact SkE.call_repr_int pins s σ H _ us Q I r ⟨i, rfl, hi, k _ _ .refl t rfl⟩
    · cases e
/-- list(..) of a list, a tuple, a text -/
@[simp] def cList : PC' := fun S xs => match xs with
  | [x] => match look S x with
    | .lst ys => some (.lst ys)
    | .tup ys => some (.lst ys)
    | .str s => if s.cps.size ≤ sizeLine then some (.lst (s.cps.toList.map fun c => .str ⟨#[c]⟩)) else none
    | _ => none
  | _ => none
theorem signs_vals {s : Str} {acc : Array Value} (h : ItemsOf (SignAt s) acc s.cps.size) : Vals (s.cps.toList.map fun c => V.str ⟨#[c]⟩) acc.toList := by
  refine vals_of_at ?_ ?_
  · have := h.1
    simp [this]
  · intro j y u h1 h2
    obtain ⟨c, w, h3, rfl⟩ := h.2 j u (by rw [← Array.getElem?_toList]; exact h2)
    rw [List.getElem?_map, Array.getElem?_toList, h3] at h1
    cases h1
    exact ⟨w, rfl⟩
theorem RpL.signs {K : PySem.W.Frag} {H : Hp} {ω : Ad} : ∀ cs : List Nat, RpL K H ω (cs.map fun c => PV.str ⟨#[c]⟩) (cs.map fun c => V.str ⟨#[c]⟩)
  | [] => rfl
  | c :: cs => ⟨_, _, rfl, rfl, RpL.signs cs⟩
theorem callF_list (hc : X.calm = true) : CallF X (.type "list") cList := by
  intro pins s σ H vs us Q I r ⟨ω, S, ps, r', t, rv, e, k⟩
  match ps, e with
  | [px], e =>
    obtain ⟨v, rfl, rx⟩ := rv.one
    simp only [cList] at e
    split at e
    · rename_i ys e1
      obtain ⟨a, ws, rfl, h1, r1⟩ := lst_of t rx e1
      cases e
      exact call_list_of pins s σ H _ us Q I r ⟨a, ws, rfl, .inl (.of h1), fun l hl => new_lst t hl r1 k⟩
    · rename_i ys e1
      cases look_eq t rx e1 rfl
      obtain ⟨a, ws, rfl, h1, r1⟩ := tup_of rx
      cases e
      exact call_list_of pins s σ H _ us Q I r ⟨a, ws, rfl, .inr h1, fun l hl => new_lst t hl r1 k⟩
    · rename_i z e1
      cases look_eq t rx e1 rfl
      split at e
      · rename_i hz
        cases e
        cases rx
        obtain ⟨u, rfl, tk, rfl⟩ := vals1 r
        refine call_list_str (I.ok.hd hc) z tk (fun h' t2 acc c hk hS hacc => ?_) hz
        have hf : H s.heap.objs.size = none := I.hok.fresh (Nat.le_refl _)
        refine ⟨.ref s.heap.objs.size, upd H s.heap.objs.size (.lst (z.cps.toList.map fun c => V.str ⟨#[c]⟩)), I.laid hk (Nat.le_refl _) ⟨?_, acc.toList, c, signs_vals hacc, ?_⟩, rfl, ?_⟩
        · simpa using hz
        · rw [Array.toArray_toList]; exact hS
        · exact new_lst t hf (RpL.signs _) k
      · cases e
    · cases e
end
end Pv

namespace Pv
open PySem PySem.Spec L2
variable [HW]
/-! ### isinstance of built-in types -/
@[simp] def tyN : PV → Option String
  | .non => some "NoneType"
  | .bl _ => some "bool"
  | .int _ => some "int"
  | .str _ => some "str"
  | .tup _ => some "tuple"
  | .lst _ => some "list"
  | .dct _ => some "dict"
  | .dcm _ => some "dict"
  | _ => none
@[simp] def cIsi : PC' := fun S xs => match xs with
  | [x, .ty n] => (tyN (look S x)).bind fun t => (kitB t n).map .bl
  | _ => none
section
variable {X : Cx} {pins : List (Addr × Obj)} {σ : St} {H : Hp} {s : Shared}
theorem dK_there {a : Addr} {xs : List (Key × V)} (I : L2.Inv X pins σ H s) (h : Rd H a (.dK xs)) : ∃ o, s.heap.get? a = some o ∧ o.cls = .type "dict" := by
  obtain ⟨_, _, vs, _, o, es, ep, h1, h2, _⟩ := h.ok I.hok
  exact ⟨o, h1, h2.1⟩
theorem dT_there {a : Addr} {xs : List (List Key × V)} (I : L2.Inv X pins σ H s) (h : Rd H a (.dT xs)) : ∃ o, s.heap.get? a = some o ∧ o.cls = .type "dict" := by
  obtain ⟨_, _, vs, _, o, es, ep, h1, h2, _⟩ := h.ok I.hok
  exact ⟨o, h1, h2.1⟩
theorem kit_pv {ω : Ad} {S : Store} {x : PV} {v : V} {u : Value} {n : String} (I : L2.Inv X pins σ H s) (t : StR X.K ω S H) (r : Rp X.K H ω x v) (rv : RelV v u) (e : tyN (look S x) = some n) :
    ∃ P : Heap → Prop, PySem.W.KitX X.K u (.type n) P ∧ P s.heap ∧ u ≠ .builtin "__main__.__loader__#opaque" := by
  have isL : ∀ {xs : List PV}, look S x = .lst xs → n = "list" → ∃ P : Heap → Prop, PySem.W.KitX X.K u (.type n) P ∧ P s.heap ∧ u ≠ .builtin "__main__.__loader__#opaque" := fun {xs} e1 hn => by
    subst hn
    obtain ⟨a, vs, rfl, h, _⟩ := lst_of t r e1
    cases rv
    obtain ⟨_, _, n, _, h1⟩ := (show ObjOk X.prog X.w H s.heap a (.lst vs) from I.hok a _ h)
    exact ⟨_, PySem.W.kitx_list, ⟨_, h1, rfl⟩, fun z => nomatch z⟩
  cases hx : look S x with
  | non => rw [hx] at e; cases e; cases look_eq t r hx rfl; cases (show v = .non from r); cases rv; exact ⟨_, PySem.W.kitx_none, True.intro, fun z => nomatch z⟩
  | bl b => rw [hx] at e; cases e; cases look_eq t r hx rfl; cases (show v = .bl b from r); cases rv; exact ⟨_, PySem.W.kitx_bool, True.intro, fun z => nomatch z⟩
  | int i => rw [hx] at e; cases e; cases look_eq t r hx rfl; cases (show v = .int i from r); obtain ⟨tk, rfl⟩ := rv; exact ⟨_, PySem.W.kitx_int, True.intro, fun z => nomatch z⟩
  | str y => rw [hx] at e; cases e; cases look_eq t r hx rfl; cases (show v = .str y from r); obtain ⟨tk, rfl⟩ := rv; exact ⟨_, PySem.W.kitx_str, True.intro, fun z => nomatch z⟩
  | tup xs =>
    rw [hx] at e; cases e
    cases look_eq t r hx rfl
    obtain ⟨a, vs, rfl, h, _⟩ := tup_of r
    cases rv
    obtain ⟨its, _, ⟨o, h1, h2, _⟩, _⟩ := I.tuple h
    exact ⟨_, PySem.W.kitx_tuple, ⟨o, h1, h2⟩, fun z => nomatch z⟩
  | lst xs => rw [hx] at e; exact isL hx (Option.some.inj e).symm
  | dct kvs =>
    rw [hx] at e; cases e
    cases x with
    | loc m =>
      obtain ⟨a, c, o, rfl, _, _, e2, ho, hc⟩ := look_loc t r
      rw [e2] at hx; subst hx
      cases rv
      rcases hc with ⟨xs, rfl, _⟩ | ⟨xs, rfl, _⟩
      · exact ⟨_, PySem.W.kitx_dict, dK_there I (.of ho), fun z => nomatch z⟩
      · exact ⟨_, PySem.W.kitx_dict, dT_there I (.of ho), fun z => nomatch z⟩
    | dct kvs' =>
      obtain ⟨a, rfl, _, ⟨xs, h, _⟩ | ⟨xs, h, _⟩⟩ := r
      · cases rv; exact ⟨_, PySem.W.kitx_dict, dK_there I h, fun z => nomatch z⟩
      · cases rv; exact ⟨_, PySem.W.kitx_dict, dT_there I h, fun z => nomatch z⟩
    | _ => cases hx
  | dcm kvs =>
    rw [hx] at e; cases e
    cases x with
    | loc m =>
      obtain ⟨a, c, o, rfl, _, _, e2, ho, hc⟩ := look_loc t r
      rw [e2] at hx; subst hx
      cases rv
      obtain ⟨ob, xs, rfl, _, m, _⟩ := hc
      exact ⟨_, PySem.W.kitx_dict, ⟨ob, (I.hok a _ ho).1, m.1.1⟩, fun z => nomatch z⟩
    | dcm kvs' =>
      obtain ⟨a, ob, xs, rfl, h, _, _, m, _⟩ := r
      cases rv
      exact ⟨_, PySem.W.kitx_dict, ⟨ob, (I.hok a _ h).1, m.1.1⟩, fun z => nomatch z⟩
    | _ => cases hx
  | _ => rw [hx] at e; cases e
end
theorem callP_isi {X : Cx} : CallP X (.builtin "isinstance") cIsi := by
  intro pins s σ H vs us Q I r ⟨ω, S, ps, r', t, rv, e, k⟩
  match ps, e with
  | [px, .ty n], e =>
    obtain ⟨v, w, rfl, rx, rfl⟩ := rv.two
    obtain ⟨u1, u2, rfl, r1, r2⟩ := vals2 r
    cases (show u2 = Value.type n from r2)
    simp only [cIsi] at e
    cases q : tyN (look S px) with
    | none => rw [q] at e; cases e
    | some tn =>
      rw [q] at e
      cases q2 : kitB tn n with
      | none => simp [q2] at e
      | some b =>
        simp [q2] at e
        subst e
        obtain ⟨P, Z, pp, hx⟩ := kit_pv I t rx r1 q
        exact PySem.W.kia_one Z I.kIn pp (kit_ty q2) hx fun tk => ⟨.bl b, H, I.tok tk, rfl, k _ _ .refl t rfl⟩
/-! ### subscripts -/
section
variable {K : PySem.W.Frag} {ω : Ad} {S : Store} {H : Hp}
theorem RpL.atI {xs : List PV} {vs : List V} {i : Int} {x : PV} (r : RpL K H ω xs vs) (h : L2.atI xs i = some x) : ∃ v, L2.atI vs i = some v ∧ Rp K H ω x v := by
  unfold L2.atI at h ⊢
  rw [← r.length]
  cases q : ixN xs.length i with
  | none => rw [q] at h; cases h
  | some j =>
    rw [q] at h
    exact r.get h
end
@[simp] def pIx : P2 := fun S x y => match look S x, y with
  | .lst xs, .int i => L2.atI xs i
  | .tup xs, .int i => L2.atI xs i
  | .scr ns, .int i => (L2.atI ns i).map .int
  | .str z, .int i => if z.length ≤ sizeLine then (L2.atI z.cps.toList i).map fun c => .str ⟨#[c]⟩ else none
  | _, _ => none
theorem atI_map {α β : Type} (f : α → β) (xs : List α) (i : Int) : L2.atI (xs.map f) i = (L2.atI xs i).map f := by
  unfold L2.atI
  rw [List.length_map]
  cases ixN xs.length i with
  | none => rfl
  | some j => simp
section
variable {X : Cx} {W : WX} {a b c e o : Expr} {da db dc de : Den} {pos p : Pos} {es : List Expr} {ds : DenA} {x : Str} {id T : String}
theorem ixP : IxR X (rP X.K pIx) := by
  intro value slice pins s σ H x y v u Q I rx ry ⟨ω, S, px, py, r, t, r1, r2, e, k⟩ hs
  unfold pIx at e
  split at e
  · rename_i xs i e1
    obtain ⟨a, vs, rfl, h1, q1⟩ := lst_of t r1 e1
    obtain ⟨w, h2, r3⟩ := q1.atI e
    exact ix_list value slice pins s σ H _ y v u Q I rx ry ⟨a, vs, i, w, rfl, r2, .of h1, h2, k _ _ .refl t r3⟩ hs
  · rename_i xs i e1
    cases look_eq t r1 e1 rfl
    obtain ⟨a, vs, rfl, h1, q1⟩ := tup_of r1
    obtain ⟨w, h2, r3⟩ := q1.atI e
    exact ix_tup value slice pins s σ H _ y v u Q I rx ry ⟨a, vs, i, w, rfl, r2, h1, h2, k _ _ .refl t r3⟩ hs
  · rename_i ns i e1
    cases look_eq t r1 e1 rfl
    obtain ⟨a, rfl, h1⟩ := r1
    cases q : L2.atI ns i with
    | none => rw [q] at e; cases e
    | some n =>
      rw [q] at e; cases e
      exact ix_list value slice pins s σ H _ y v u Q I rx ry ⟨a, _, i, .int n, rfl, r2, h1.imp And.left _root_.id, by rw [atI_map, q]; rfl, k _ _ .refl t rfl⟩ hs
  · rename_i z i e1
    cases look_eq t r1 e1 rfl
    split at e
    · rename_i hz
      cases q : L2.atI z.cps.toList i with
      | none => rw [q] at e; cases e
      | some c =>
        rw [q] at e; cases e
        exact ix_str value slice pins s σ H x y v u Q I rx ry ⟨z, i, c, r1, r2, hz, q, k _ _ .refl t rfl⟩ hs
    · cases e
  · cases e
theorem ex_ix (ha : EX X W a da) (hb : EX X W b db) (hs : PlainIx b := by intro _ _; rfl) : EX X W (.Subscript a b pos) (dBin pIx da db) := (pe_ix ixP ha hb hs).imp fun _ _ _ => bin_P
/-! ### cells that change -/
theorem cell_set {K : PySem.W.Frag} {ω : Ad} {S : Store} {H : Hp} {n : Nat} {a : Addr} {c : PV} {o : HO} (t : StR K ω S H) (h : ω.ν[n]? = some a) (r : CoR K H ω a c o) :
    Stp ω H ω (upd H a o) ∧ StR K ω (S.set n c) (upd H a o) := by
  have ha : a ∈ ω.ν := List.mem_of_getElem? h
  have s : Stp ω H ω (upd H a o) := ⟨⟨[], by simp, by simp⟩, rfl, fun b u e f => ⟨u, by
    rw [upd_ne (fun z => f (by rw [z]; exact ha))]; exact e, .refl⟩, fun b e => by
    unfold upd; split
    · simp
    · exact e, fun b xs e => by
    have hl : n < S.length := by rw [← t.len]; exact (List.getElem?_eq_some_iff.mp h).1
    obtain ⟨u, hu, ru⟩ := t.at n S[n] a (List.getElem?_eq_getElem hl) h
    rw [upd_ne (fun z => by
      rw [z, hu] at e
      cases e
      exact ru.noTup)]
    exact e, fun b hb u e => by
    rw [upd_ne (fun z => t.nb a ha (by rw [← z]; exact hb))]
    exact e⟩
  refine ⟨s, by simpa using t.len, t.nd, t.nb, fun b hb => s.tr b (t.tb b hb), fun m c' b e1 e2 => ?_⟩
  by_cases hm : m = n
  · subst hm
    rw [h] at e2; cases e2
    have hl : m < S.length := by rw [← t.len]; exact (List.getElem?_eq_some_iff.mp h).1
    rw [List.getElem?_set_self hl] at e1
    cases e1
    exact ⟨o, upd_same, r.up s.up⟩
  · rw [List.getElem?_set_ne (Ne.symm hm)] at e1
    obtain ⟨u, hu, ru⟩ := t.at m c' b e1 e2
    have hb : b ≠ a := by
      rintro rfl
      obtain ⟨h1, e3⟩ := List.getElem?_eq_some_iff.mp e2
      obtain ⟨h2, e4⟩ := List.getElem?_eq_some_iff.mp h
      exact hm ((List.getElem_inj t.nd).mp (e3.trans e4.symm))
    exact ⟨u, by rw [upd_ne hb]; exact hu, ru.up s.up⟩
/-- a method of a built-in type -/
abbrev PM := PV → List PV → Store → Option (PV × Store)
@[simp] def optM (o : Option (PV × Store)) : Out PV := match o with
  | some (v, S) => .ok v S
  | none => .stuck
def rM (K : PySem.W.Frag) (p : PM) : V → List V → Hp → VK → Prop := fun x vs H Q => ∃ ω S px ps r S', StR K ω S H ∧ Rp K H ω px x ∧ RpL K H ω ps vs ∧ p px ps S = some (r, S') ∧
  ∀ v H', Stp ω H ω H' → StR K ω S' H' → Rp K H' ω r v → Q v H'
@[simp] def dM (tk : Store → PV → Bool) (q : PM) (d : Den) (ds : DenA) : Den := fun ρ S => (d ρ S).then fun x S1 => if tk S1 x = true then (ds ρ S1).then fun xs S2 => optM (q x xs S2) else .stuck
theorem optM_P {K : PySem.W.Frag} {E : XK} {ω : Ad} {H : Hp} {o : Option (PV × Store)} {Q : PV → Store → Hp → Ad → Prop} (h : OutP K E ω H (optM o) Q) :
    ∃ r S', o = some (r, S') ∧ ∀ H', Stp ω H ω H' → StR K ω S' H' → Q r S' H' ω := by
  cases o with
  | none => exact h.elim
  | some r => exact ⟨r.1, r.2, rfl, fun H' s t' => h H' ω s t'⟩
/-- what a method's receiver is, ahead of its arguments -/
def TyM (K : PySem.W.Frag) (T : String) (tk : Store → PV → Bool) : Prop := ∀ S x H ω v, tk S x = true → StR K ω S H → Rp K H ω x v → tyV K T v H
@[simp] def isLst (S : Store) (x : PV) : Bool := match look S x with
  | .lst _ => true
  | _ => false
@[simp] def isStr (_ : Store) (x : PV) : Bool := match x with
  | .str _ => true
  | _ => false
theorem tyM_lst {K : PySem.W.Frag} : TyM K "list" isLst := fun S x H ω v h t r => by
  unfold isLst at h
  split at h
  · rename_i xs e
    obtain ⟨a, vs, rfl, h1, _⟩ := lst_of t r e
    exact .inl ⟨rfl, vs, .of h1⟩
  · cases h
theorem tyM_str {K : PySem.W.Frag} : TyM K "str" isStr := fun S x H ω v h t r => by
  unfold isStr at h
  split at h
  · rename_i z
    cases (show v = .str z from r)
    rfl
  · cases h
theorem mt_P {tk : Store → PV → Bool} {q : PM} {σ : St} {H : Hp} {Q : VK} (ty : TyM X.K T tk) (h : tX X.K W (dM tk q da ds) σ H Q) : tBM X.K T (rM X.K q) (tX X.K W da) (tXA X.K W ds) σ H Q := by
  obtain ⟨ω, S, ρ, f, o⟩ := h
  refine ⟨ω, S, ρ, f, (OutP.bind o).imp fun x S1 H1 ω1 s1 t1 o1 v rv => ?_⟩
  split at o1
  · rename_i hk
    refine ⟨ty S1 x H1 ω1 v hk t1 rv, ω1, S1, ρ, f.later s1 t1, (OutP.bind o1).imp fun xs S2 H2 ω2 s2 t2 o2 vs rvs => ?_⟩
    obtain ⟨r, S3, e, k⟩ := optM_P o2
    exact ⟨ω2, S2, x, xs, r, S3, t2, rv.up s2.up, rvs, e, fun v' H' s' t' r' => k H' s' t' v' r'⟩
  · exact o1.elim
theorem mt_P0 {tk : Store → PV → Bool} {q : PM} {σ : St} {H : Hp} {Q : VK} (ty : TyM X.K T tk) (h : tX X.K W (dM tk q da dNil) σ H Q) : tBM0 X.K T (rM X.K q) (tX X.K W da) σ H Q := by
  obtain ⟨ω, S, ρ, f, o⟩ := h
  refine ⟨ω, S, ρ, f, (OutP.bind o).imp fun x S1 H1 ω1 s1 t1 o1 v rv => ?_⟩
  split at o1
  · rename_i hk
    refine ⟨ty S1 x H1 ω1 v hk t1 rv, ?_⟩
    obtain ⟨r, S3, e, k⟩ := optM_P (show OutP X.K _ ω1 H1 (optM (q x [] S1)) _ from o1)
    exact ⟨ω1, S1, x, [], r, S3, t1, rv, rfl, e, fun v' H' s' t' r' => k H' s' t' v' r'⟩
  · exact o1.elim
abbrev MtP (X : Cx) (id : String) (q : PM) : Prop := MtR X id (rM X.K q)
theorem ex_m {tk : Store → PV → Bool} {q : PM} {name : Str} {apos cpos : Pos} (ty : TyM X.K T tk) (pa : PlainAttrs T) (slot : Slot T name id) (hty : typeOf (.builtin id) = pure (.type "method_descriptor")) (hm : MtP X id q) (ho : EX X W o da) (ha : AX X W (e :: es) ds)
    (hbase : attributeBase o name X.env (eval o X.env) = eval o X.env := by rfl)
    (hfew : ((backTo cpos (starEach (e :: es) X.env)).all (fun x => !x.1) && (backToKw cpos (keywordEach [] X.env)).all (fun x => x.1.isSome)
      && decide ((e :: es).length + ([] : List Keyword).length + (if ([] : List Keyword).isEmpty then 0 else 1) < 30)) = true := by rfl)
    (hline : (apos.endLine == cpos.line) = true := by rfl) (hs : starEach (e :: es) X.env = (false, eval e X.env) :: starEach es X.env := by rfl) (hplain : (backTo cpos (starEach es X.env)).any (·.1) = false := by rfl) :
    EX X W (.Call (.Attribute o name apos) (e :: es) [] cpos) (dM tk q da ds) := (pe_bm pa slot hty hm ho ha hbase hfew hline hs hplain).imp fun _ _ _ => mt_P ty
theorem ex_m0 {tk : Store → PV → Bool} {q : PM} {name : Str} {apos cpos : Pos} (ty : TyM X.K T tk) (pa : PlainAttrs T) (slot : Slot T name id) (hty : typeOf (.builtin id) = pure (.type "method_descriptor")) (hm : MtP X id q) (ho : EX X W o da)
    (hbase : attributeBase o name X.env (eval o X.env) = eval o X.env := by rfl) (hline : (apos.endLine == cpos.line) = true := by rfl) : EX X W (.Call (.Attribute o name apos) [] [] cpos) (dM tk q da dNil) :=
  (pe_bm0 pa slot hty hm ho hbase hline).imp fun _ _ _ => mt_P0 ty
/-! #### lists' methods -/
theorem MtR.weak {id : String} {r r' : V → List V → Hp → VK → Prop} (h : MtR X id r) (i : ∀ x vs H Q, r' x vs H Q → r x vs H Q) : MtR X id r' :=
  fun pins s σ H x xs v us Q I rx rs q => h pins s σ H x xs v us Q I rx rs (i _ _ _ _ q)
/-- on the list of a cell -/
@[simp] def onLst (f : List PV → List PV → Option (PV × List PV)) : PM := fun x vs S => match x with
  | .loc n => match S[n]? with
    | some (.lst xs) => (f xs vs).map fun r => (r.1, S.set n (.lst r.2))
    | _ => none
  | _ => none
theorem onLst_P {f : List PV → List PV → Option (PV × List PV)} {x : V} {vs : List V} {H : Hp} {Q : VK} (h : rM X.K (onLst f) x vs H Q) :
    ∃ (ω : Ad) (S : Store) (n : Nat) (a : Addr) (xs ps : List PV) (ws : List V) (r : PV) (ys : List PV), StR X.K ω S H ∧ x = .ref a ∧ ω.ν[n]? = some a ∧ S[n]? = some (.lst xs) ∧ H a = some (.lst ws) ∧ RpL X.K H ω xs ws ∧ RpL X.K H ω ps vs ∧ f xs ps = some (r, ys) ∧
      ∀ v us, Rp X.K H ω r v → RpL X.K H ω ys us → Q v (upd H a (.lst us)) := by
  obtain ⟨ω, S, px, ps, r, S', t, rx, rs, e, k⟩ := h
  unfold onLst at e
  split at e
  · rename_i n
    split at e
    · rename_i xs e1
      cases q : f xs ps with
      | none => rw [q] at e; cases e
      | some ry =>
        rw [q] at e
        cases e
        obtain ⟨a, c, o, rfl, e2, e3, _, ho, hc⟩ := look_loc t rx
        rw [e1] at e3; cases e3
        obtain ⟨ws, rfl, rw'⟩ := hc
        refine ⟨ω, S, n, a, xs, ps, ws, ry.1, ry.2, t, rfl, e2, e1, ho, rw', rs, q, fun v us r1 r2 => ?_⟩
        obtain ⟨s', t'⟩ := cell_set (c := .lst ry.2) (o := .lst us) t e2 ⟨us, rfl, r2⟩
        exact k v _ s' t' (r1.up s'.up)
    · cases e
  · cases e
@[simp] def mAppend : PM := onLst fun xs vs => match vs with
  | [y] => if xs.length < sizeLine then some (.non, xs ++ [y]) else none
  | _ => none
theorem mtP_append : MtP X "list.append" mAppend := MtR.weak mt_append fun x vs H Q h => by
  obtain ⟨ω, S, n, a, xs, ps, ws, r, ys, t, rfl, e2, e1, ho, rw', rs, q, k⟩ := onLst_P h
  match ps, q with
  | [y], q =>
    obtain ⟨v, rfl, ry⟩ := rs.one
    simp only at q
    split at q
    · rename_i hl
      cases q
      exact ⟨a, ws, v, rfl, rfl, ho, by rw [← rw'.length]; exact hl, k _ _ rfl (rw'.append ⟨v, [], rfl, ry, rfl⟩)⟩
    · cases q
@[simp] def mPop : PM := onLst fun xs vs => match vs with
  | [] => (xs[xs.length - 1]?).map fun y => (y, xs.dropLast)
  | [.int i] => if -(2 ^ 63) ≤ i ∧ i < 2 ^ 63 then (seqIndex? i xs.length).bind fun k => (xs[k]?).map fun y => (y, xs.eraseIdx k) else none
  | _ => none
theorem RpL.dropLast {K : PySem.W.Frag} {H : Hp} {ω : Ad} {xs : List PV} {vs : List V} (r : RpL K H ω xs vs) : RpL K H ω xs.dropLast vs.dropLast := by
  rw [List.dropLast_eq_take, List.dropLast_eq_take, r.length]
  exact r.take _
theorem mtP_pop : MtP X "list.pop" mPop := fun pins s σ H x vs v us Q I rx rs h => by
  obtain ⟨ω, S, n, a, xs, ps, ws, r, ys, t, rfl, e2, e1, ho, rw', rs', q, k⟩ := onLst_P h
  match ps, q with
  | [], q =>
    cases rs'
    simp only at q
    cases q1 : xs[xs.length - 1]? with
    | none => rw [q1] at q; cases q
    | some y =>
      rw [q1] at q; cases q
      obtain ⟨w, h1, r1⟩ := rw'.get q1
      exact mt_pop pins s σ H _ _ v us Q I rx rs ⟨a, ws, w, rfl, rfl, ho, by rw [← rw'.length]; exact h1, k _ _ r1 rw'.dropLast⟩
  | [.int i], q =>
    obtain ⟨u, rfl, rfl⟩ := rs'.one
    simp only at q
    split at q
    · rename_i hi
      cases q1 : seqIndex? i xs.length with
      | none => rw [q1] at q; cases q
      | some j =>
        rw [q1] at q
        cases q2 : xs[j]? with
        | none => simp [q2] at q
        | some y =>
          simp [q2] at q
          obtain ⟨rfl, rfl⟩ := q
          obtain ⟨w, h1, r1⟩ := rw'.get q2
          exact mt_popAt pins s σ H _ _ v us Q I rx rs ⟨a, ws, i, j, w, rfl, rfl, ho, hi.1, hi.2, by rw [← rw'.length]; exact q1, h1, k _ _ r1 (rw'.eraseIdx j)⟩
    · cases q
/-! #### texts' methods -/
def txts : List PV → Option (List Str)
  | [] => some []
  | .str s :: xs => (txts xs).map (s :: ·)
  | _ :: _ => none
theorem txts_vals {K : PySem.W.Frag} {H : Hp} {ω : Ad} : ∀ {xs : List PV} {bs : List Str} {vs : List V}, RpL K H ω xs vs → txts xs = some bs → vs = bs.map V.str
  | [], _, _, r, e => by cases r; cases e; rfl
  | x :: xs, bs, _, ⟨v, ws, rfl, r, rs⟩, e => by
    cases x with
    | str b =>
      simp only [txts] at e
      cases q : txts xs with
      | none => rw [q] at e; cases e
      | some cs =>
        rw [q] at e; cases e
        cases (show v = .str b from r)
        rw [txts_vals rs q]; rfl
    | _ => cases e
def seqOf : PV → Option (List PV)
  | .lst xs => some xs
  | .tup xs => some xs
  | _ => none
@[simp] def mJoin : PM := fun x vs S => match x, vs with
  | .str a, [l] => (seqOf (look S l)).bind fun xs => (txts xs).bind fun ys => if (ys.map (·.length)).sum + ys.length * a.length ≤ 16777216 then some (.str (Txt.join a ys), S) else none
  | _, _ => none
theorem mtP_join : MtP X "str.join" mJoin := MtR.weak mt_join fun x vs H Q ⟨ω, S, px, ps, r, S', t, rx, rs, e, k⟩ => by
  match px, ps, e with
  | .str a, [l], e =>
    obtain ⟨v, rfl, rl⟩ := rs.one
    simp only [mJoin] at e
    have fin : ∀ {xs ws b}, txts xs = some b → RpL X.K H ω xs ws → ((txts xs).bind fun ys => if (ys.map (·.length)).sum + ys.length * a.length ≤ 16777216 then some (PV.str (Txt.join a ys), S) else none) = some (r, S') →
        ws = b.map V.str ∧ (b.map (·.length)).sum + b.length * a.length ≤ 16777216 ∧ Q (.str (Txt.join a b)) H := fun {xs ws b} e1 r1 e2 => by
      rw [e1] at e2
      simp only [Option.bind_some] at e2
      split at e2
      · rename_i hl
        cases e2
        exact ⟨txts_vals r1 e1, hl, k _ _ .refl t rfl⟩
      · cases e2
    have hs : ∀ {xs : List PV}, ((txts xs).bind fun ys => if (ys.map (·.length)).sum + ys.length * a.length ≤ 16777216 then some (PV.str (Txt.join a ys), S) else none) = some (r, S') → ∃ b, txts xs = some b := fun {xs} e1 => by
      cases q : txts xs with
      | none => rw [q] at e1; cases e1
      | some b => exact ⟨b, rfl⟩
    cases q : look S l with
    | lst xs =>
      rw [q] at e
      have e : ((txts xs).bind fun ys => if (ys.map (·.length)).sum + ys.length * a.length ≤ 16777216 then some (PV.str (Txt.join a ys), S) else none) = some (r, S') := e
      obtain ⟨b, hb⟩ := hs e
      obtain ⟨p, ws, rfl, h1, r1⟩ := lst_of t rl q
      obtain ⟨e1, e2, e3⟩ := fin hb r1 e
      subst e1
      exact ⟨a, p, b, rx, rfl, .inl (.of h1), e2, e3⟩
    | tup xs =>
      rw [q] at e
      cases look_eq t rl q rfl
      have e : ((txts xs).bind fun ys => if (ys.map (·.length)).sum + ys.length * a.length ≤ 16777216 then some (PV.str (Txt.join a ys), S) else none) = some (r, S') := e
      obtain ⟨b, hb⟩ := hs e
      obtain ⟨p, ws, rfl, h1, r1⟩ := tup_of rl
      obtain ⟨e1, e2, e3⟩ := fin hb r1 e
      subst e1
      exact ⟨a, p, b, rx, rfl, .inr h1, e2, e3⟩
    | _ => rw [q] at e; cases e
end
end Pv

namespace Pv
open PySem PySem.Spec L2
variable [HW]
/-! ### statements -/
inductive SOut where
  | nx (ρ : PEnv) (S : Store)
  | rt (v : PV) (S : Store)
  | bk (ρ : PEnv) (S : Store)
  | ct (ρ : PEnv) (S : Store)
  | exc (x : PX) (ρ : PEnv) (S : Store)
  | stuck
abbrev SDen := PEnv → Store → SOut
def SoP (K : PySem.W.Frag) (W : WX) (D : Ends) (ω : Ad) (H : Hp) (o : SOut) : Prop := match o with
  | .nx ρ S => ∀ σ H' ω', Stp ω H ω' H' → From K ρ S ω' σ H' → D.nx σ H'
  | .rt v S => ∀ u H' ω', Stp ω H ω' H' → StR K ω' S H' → Rp K H' ω' v u → D.rt u H'
  | .bk ρ S => ∀ σ H' ω', Stp ω H ω' H' → From K ρ S ω' σ H' → D.bk σ H'
  | .ct ρ S => ∀ σ H' ω', Stp ω H ω' H' → From K ρ S ω' σ H' → D.ct σ H'
  | .exc x ρ S => ∀ cv σ d H' ω', XcR K x.cls cv → Stp ω H ω' H' → From K ρ S ω' σ H' → ExR K H' ω' x d → W cv d σ H'
  | .stuck => False
def tS (K : PySem.W.Frag) (W : WX) (d : SDen) : TS := fun D σ H => ∃ ω S ρ, From K ρ S ω σ H ∧ SoP K W D ω H (d ρ S)
abbrev SX (X : Cx) (W : WX) (st : Stmt) (d : SDen) : Prop := PS X st (tS X.K W d)
abbrev SsX (X : Cx) (W : WX) (st : List Stmt) (d : SDen) : Prop := PSs X st (tS X.K W d)
theorem SoP.later {K : PySem.W.Frag} {W : WX} {D : Ends} {ω ω1 : Ad} {H H1 : Hp} {o : SOut} (s : Stp ω H ω1 H1) (h : SoP K W D ω H o) : SoP K W D ω1 H1 o := by
  cases o with
  | nx ρ S => exact fun σ H' ω' s1 f => h σ H' ω' (s.trans s1) f
  | rt v S => exact fun u H' ω' s1 t r => h u H' ω' (s.trans s1) t r
  | bk ρ S => exact fun σ H' ω' s1 f => h σ H' ω' (s.trans s1) f
  | ct ρ S => exact fun σ H' ω' s1 f => h σ H' ω' (s.trans s1) f
  | exc x ρ S => exact fun cv σ d H' ω' c s1 f => h cv σ d H' ω' c (s.trans s1) f
  | stuck => exact h
@[simp] def stE {α : Type} (o : Out α) (ρ : PEnv) (f : α → Store → SOut) : SOut := match o with
  | .ok a S => f a S
  | .exc x S => .exc x ρ S
  | .stuck => .stuck
theorem SoP.ex {α : Type} {K : PySem.W.Frag} {W : WX} {D : Ends} {ω : Ad} {H : Hp} {o : Out α} {ρ : PEnv} {S0 : Store} {σ : St} {f : α → Store → SOut} (fr : From K ρ S0 ω σ H) (h : SoP K W D ω H (stE o ρ f)) :
    OutP K (fun c x H' => W c x σ H') ω H o fun r S' H' ω' => SoP K W D ω' H' (f r S') := by
  cases o with
  | ok r S' => exact fun H' ω' s _ => SoP.later s h
  | exc x S' => exact fun cv d H' ω' c s t e => h cv σ d H' ω' c s (fr.later s t) e
  | stuck => exact h
section
variable {X : Cx} {W : WX} {st : Stmt} {rest : List Stmt} {e a c : Expr} {d d1 d2 : SDen} {de da dv : Den} {dt : DenT} {pos : Pos}
@[simp] def sNil : SDen := fun ρ S => .nx ρ S
@[simp] def sSeq (d1 d2 : SDen) : SDen := fun ρ S => match d1 ρ S with
  | .nx ρ' S' => d2 ρ' S'
  | o => o
theorem ss_nil : SsX X W [] sNil := pss_nil.imp fun D σ H ⟨ω, S, ρ, f, o⟩ => o σ H ω .refl f
theorem ss_cons (h1 : SX X W st d1) (h2 : SsX X W rest d2) : SsX X W (st :: rest) (sSeq d1 d2) := (pss_cons h1 h2).imp fun D σ H ⟨ω, S, ρ, f, o⟩ => ⟨ω, S, ρ, f, by
  unfold sSeq at o
  revert o
  cases d1 ρ S with
  | nx ρ' S' => exact fun o σ' H' ω' s f' => ⟨ω', S', ρ', f', o.later s⟩
  | rt v S' => exact id
  | bk ρ' S' => exact id
  | ct ρ' S' => exact id
  | exc x ρ' S' => exact id
  | stuck => exact id⟩
theorem ss_one (h1 : SX X W st d1) : SsX X W [st] d1 := pss_one h1
@[simp] def sPass : SDen := fun ρ S => .nx ρ S
@[simp] def sBreak : SDen := fun ρ S => .bk ρ S
@[simp] def sCont : SDen := fun ρ S => .ct ρ S
theorem sx_pass : SX X W (.Pass pos) sPass := ps_pass.imp fun D σ H ⟨ω, S, ρ, f, o⟩ => o σ H ω .refl f
theorem sx_break : SX X W (.Break pos) sBreak := ps_break.imp fun D σ H ⟨ω, S, ρ, f, o⟩ => o σ H ω .refl f
theorem sx_cont : SX X W (.Continue pos) sCont := ps_continue.imp fun D σ H ⟨ω, S, ρ, f, o⟩ => o σ H ω .refl f
theorem sx_doc {x : Str} {j} {pos' : Pos} : SX X W (.Expr (.Constant (.str x) j pos) pos') sPass := ps_doc.imp fun D σ H ⟨ω, S, ρ, f, o⟩ => o σ H ω .refl f
@[simp] def sRet (d : Den) : SDen := fun ρ S => stE (d ρ S) ρ fun v S' => .rt v S'
theorem sx_ret (he : EX X W e de) : SX X W (.Return (some e) pos) (sRet de) := (ps_ret he).imp fun D σ H ⟨ω, S, ρ, f, o⟩ => ⟨ω, S, ρ, f, (SoP.ex f o).imp fun r S' H' ω' s t o1 v rv => o1 v H' ω' .refl t rv⟩
@[simp] def sRetN : SDen := fun _ S => .rt .non S
theorem sx_retN : SX X W (.Return none pos) sRetN := ps_retN.imp fun D σ H ⟨ω, S, ρ, f, o⟩ => o _ H ω .refl f.1 rfl
@[simp] def sExpr (d : Den) : SDen := fun ρ S => stE (d ρ S) ρ fun _ S' => .nx ρ S'
theorem sx_expr (he : EX X W e de) (hs : swapsWith e none pos.line X.env = pure false := by rfl) : SX X W (.Expr e pos) (sExpr de) := (ps_expr he hs).imp fun D σ H ⟨ω, S, ρ, f, o⟩ => ⟨ω, S, ρ, f, (SoP.ex f o).imp fun r S' H' ω' s t o1 v rv => o1 σ H' ω' .refl (f.later s t)⟩
@[simp] def sIf (t : DenT) (d1 d2 : SDen) : SDen := fun ρ S => stE (t ρ S) ρ fun b S' => if b = true then d1 ρ S' else d2 ρ S'
theorem sx_if {l1 l2 : List Stmt} (hc : BX X W c dt) (h1 : SsX X W l1 d1) (h2 : SsX X W l2 d2) : SX X W (.If c l1 l2 pos) (sIf dt d1 d2) := (ps_if hc h1 h2).imp fun D σ H ⟨ω, S, ρ, f, o⟩ => ⟨ω, S, ρ, f, (SoP.ex f o).imp fun b S' H' ω' s t o1 => by
  cases b with
  | true => exact iteT ⟨ω', S', ρ, f.later s t, o1⟩
  | false => exact iteF ⟨ω', S', ρ, f.later s t, o1⟩⟩
/-! #### targets -/
abbrev Bd := PV → PEnv → Option PEnv
def tXG (K : PySem.W.Frag) (b : Bd) (vs : List Nat) : TG := fun v σ H Q => ∃ ω S ρ x ρ', From K ρ S ω σ H ∧ Rp K H ω x v ∧ b x ρ = some ρ' ∧
  ∀ σ', (σ'.length = σ.length ∧ ∀ j, j ∉ vs → σ'[j]? = σ[j]?) → From K ρ' S ω σ' H → Q σ' H
abbrev GX (X : Cx) (tg : Expr) (b : Bd) (vs : List Nat) : Prop := PG X tg (tXG X.K b vs)
theorem _root_.L2.PG.imp {X : Cx} {tg : Expr} {t t' : TG} (h : PG X tg t) (i : ∀ v σ H Q, t' v σ H Q → t v σ H Q) : PG X tg t' := ⟨fun pins s σ H v u Q I r q => h.run pins s σ H v u Q I r (i _ _ _ _ q)⟩
theorem EnvR.set {K : PySem.W.Frag} {H : Hp} {ω : Ad} {ρ : PEnv} {σ : St} {i : Nat} {x : PV} {v : V} (h : EnvR K H ω ρ σ) (r : Rp K H ω x v) : EnvR K H ω (ρ.set i (some x)) (σ.set i (some v)) := by
  refine ⟨by simpa using h.1, fun j y e => ?_⟩
  by_cases hj : j = i
  · subst hj
    have hl : j < ρ.length := by
      have := (List.getElem?_eq_some_iff.mp e).1
      simpa using this
    rw [List.getElem?_set_self hl] at e
    cases e
    exact ⟨v, by rw [List.getElem?_set_self (by rw [← h.1]; exact hl)], r⟩
  · rw [List.getElem?_set_ne (Ne.symm hj)] at e ⊢
    exact h.2 j y e
@[simp] def bN (i : Nat) : Bd := fun x ρ => some (ρ.set i (some x))
theorem gx_name {i : Nat} {x : Str} (hN : X.N.Nodup) (hi : X.N[i]? = some x) (hx : Loc X.env.scope x) (hf : X.fn x = true ∨ X.env.scope.names.lookup x = some .local := by first | exact .inl rfl | exact .inr rfl | assumption) : GX X (.Name x pos) (bN i) [i] :=
  (pg_name hN hi hx hf).imp fun v σ H Q ⟨ω, S, ρ, y, ρ', f, r, e, k⟩ => by
    cases e
    refine k _ ⟨by simp, fun j hj => ?_⟩ ⟨f.1, f.2.set r⟩
    rw [List.getElem?_set_ne]
    intro z
    exact hj (by simp [z])
abbrev Bds := List PV → PEnv → Option PEnv
def tXGs (K : PySem.W.Frag) (b : Bds) (vs : List Nat) : TGs := fun us σ H Q => ∃ ω S ρ xs ρ', From K ρ S ω σ H ∧ RpL K H ω xs us ∧ b xs ρ = some ρ' ∧
  ∀ σ', (σ'.length = σ.length ∧ ∀ j, j ∉ vs → σ'[j]? = σ[j]?) → From K ρ' S ω σ' H → Q σ' H
abbrev GsX (X : Cx) (ts : List Expr) (b : Bds) (vs : List Nat) : Prop := PGs X ts (tXGs X.K b vs)
theorem _root_.L2.PGs.imp {X : Cx} {tg : List Expr} {t t' : TGs} (h : PGs X tg t) (i : ∀ v σ H Q, t' v σ H Q → t v σ H Q) : PGs X tg t' := ⟨fun pins s σ H v u Q I r q => h.run pins s σ H v u Q I r (i _ _ _ _ q)⟩
@[simp] def bsNil : Bds := fun xs ρ => match xs with
  | [] => some ρ
  | _ => none
@[simp] def bsCons (b : Bd) (bs : Bds) : Bds := fun xs ρ => match xs with
  | x :: xs => (b x ρ).bind (bs xs)
  | _ => none
theorem gs_nil : GsX X [] bsNil [] := pgs_nil.imp fun vs σ H Q ⟨ω, S, ρ, xs, ρ', f, r, e, k⟩ => by
  match xs, e with
  | [], e =>
    cases e
    cases r
    exact ⟨rfl, k σ ⟨rfl, fun _ _ => rfl⟩ f⟩
theorem gs_cons {e : Expr} {es : List Expr} {b : Bd} {bs : Bds} {v1 v2 : List Nat} (h1 : GX X e b v1) (h2 : GsX X es bs v2)
    (hs : (assignEach (e :: es) X.env).map (·.2) = assign e X.env :: (assignEach es X.env).map (·.2) := by rfl) : GsX X (e :: es) (bsCons b bs) (v1 ++ v2) :=
  (pgs_cons h1 h2 hs).imp fun us σ H Q ⟨ω, S, ρ, xs, ρ', f, r, e, k⟩ => by
    match xs, e with
    | x :: xs, e =>
      obtain ⟨v, ws, rfl, rx, rs⟩ := r
      simp only [bsCons] at e
      cases q : b x ρ with
      | none => rw [q] at e; cases e
      | some ρ1 =>
        rw [q] at e
        refine ⟨v, ws, rfl, ω, S, ρ, x, ρ1, f, rx, q, fun σ1 h1 f1 => ⟨ω, S, ρ1, xs, ρ', f1, rs, e, fun σ2 h2 f2 => k σ2 ⟨h2.1.trans h1.1, fun j hj => ?_⟩ f2⟩⟩
        exact (h2.2 j fun z => hj (List.mem_append_right _ z)).trans (h1.2 j fun z => hj (List.mem_append_left _ z))
@[simp] def bTup (n : Nat) (bs : Bds) : Bd := fun x ρ => match x with
  | .tup xs => if xs.length = n then bs xs ρ else none
  | _ => none
theorem gx_tup {es : List Expr} {k : Nat} {bs : Bds} {vs : List Nat} {n : Nat} (hc : X.calm = true) (h : GsX X es bs vs) (hn : (assignEach es X.env).length = n := by rfl) (hst : (assignEach es X.env).findIdx? (·.1) = none := by rfl) :
    GX X (.Tuple es k pos) (bTup n bs) vs := (pg_tup hc h hn hst).imp fun v σ H Q ⟨ω, S, ρ, x, ρ', f, r, e, k⟩ => by
  unfold bTup at e
  split at e
  · rename_i xs
    split at e
    · rename_i hl
      obtain ⟨a, us, rfl, h1, r1⟩ := tup_of r
      exact ⟨a, us, rfl, h1, by rw [← r1.length]; exact hl, ω, S, ρ, xs, ρ', f, r1, e, k⟩
    · cases e
  · cases e
/-! #### assignments -/
@[simp] def sAsg (d : Den) (b : Bd) : SDen := fun ρ S => stE (d ρ S) ρ fun v S' => match b v ρ with
  | some ρ' => .nx ρ' S'
  | none => .stuck
theorem asg_P {g : TG} {b : Bd} {vs : List Nat} (hg : ∀ v σ H Q, tXG X.K b vs v σ H Q → g v σ H Q) {D : Ends} {σ : St} {H : Hp} (h : tS X.K W (sAsg de b) D σ H) : tAsg (tX X.K W de) g D σ H := by
  obtain ⟨ω, S, ρ, f, o⟩ := h
  refine ⟨ω, S, ρ, f, (SoP.ex f o).imp fun x S1 H1 ω1 s1 t1 o1 v rv => hg _ _ _ _ ?_⟩
  split at o1
  · rename_i ρ' hb
    exact ⟨ω1, S1, ρ, x, ρ', f.later s1 t1, rv, hb, fun σ' _ f' => o1 σ' H1 ω1 .refl f'⟩
  · exact o1.elim
theorem sx_asg {tg : Expr} {b : Bd} {vs : List Nat} (he : EX X W e de) (hg : GX X tg b vs) (hs : swapsWithSole [tg] e pos.line X.env = pure false := by rfl) (hw : swappedStores [tg] e X.env = pure none := by rfl)
    (h1 : (assignEach [tg] X.env).map (·.2) = [assign tg X.env] := by rfl) : SX X W (.Assign [tg] e pos) (sAsg de b) := (ps_asg he hg hs hw h1).imp fun _ _ _ h => asg_P (fun _ _ _ _ q => q) h
theorem sx_set {i : Nat} {x : Str} {pos' : Pos} (hN : X.N.Nodup) (hi : X.N[i]? = some x) (hx : Loc X.env.scope x) (he : EX X W e de) (hs : swapsWith e (some (.Name x pos')) pos.line X.env = pure false := by rfl)
    (hf : X.fn x = true ∨ X.env.scope.names.lookup x = some .local := by first | exact .inl rfl | exact .inr rfl | assumption) : SX X W (.Assign [.Name x pos'] e pos) (sAsg de (bN i)) :=
  (ps_set hN hi hx he hs hf).imp fun _ _ _ h => asg_P (vs := [i]) (fun v σ H Q ⟨ω, S, ρ, y, ρ', f, r, e, k⟩ => by
    cases e
    refine k _ ⟨by simp, fun j hj => ?_⟩ ⟨f.1, f.2.set r⟩
    rw [List.getElem?_set_ne]
    intro z
    exact hj (by simp [z])) h
/-- o[i] = e -/
abbrev P3 := PV → PV → PV → Store → Option Store
@[simp] def sSub (dv dO dI : Den) (q : P3) : SDen := fun ρ S => stE (dv ρ S) ρ fun v S1 => stE (dO ρ S1) ρ fun o S2 => stE (dI ρ S2) ρ fun i S3 => match q o i v S3 with
  | some S4 => .nx ρ S4
  | none => .stuck
def rSet (K : PySem.W.Frag) (q : P3) : TSet := fun o i v H Q => ∃ ω S po pi pv S', StR K ω S H ∧ Rp K H ω po o ∧ Rp K H ω pi i ∧ Rp K H ω pv v ∧ q po pi pv S = some S' ∧ ∀ H', Stp ω H ω H' → StR K ω S' H' → Q H'
theorem PSet.weak {t t' : TSet} (h : PSet X t) (i : ∀ o j v H Q, t' o j v H Q → t o j v H Q) : PSet X t' := fun pins s σ H o j v ov iv u Q I r1 r2 r3 q => h pins s σ H o j v ov iv u Q I r1 r2 r3 (i _ _ _ _ _ q)
theorem sx_sub {o i : Expr} {dO dI : Den} {q : P3} {pos' : Pos} (he : EX X W e dv) (ho : EX X W o dO) (hi : EX X W i dI) (hq : PSet X (rSet X.K q))
    (ha : ∀ v, assign (.Subscript o i pos') X.env v = (do
      let ov ← holding [v] (eval o X.env)
      let iv ← holding [v, ov] (eval i X.env)
      standAt pos'
      holding [v, ov, iv] (setItem ov iv v)
      release [v, ov, iv] []) := by intro _; rfl)
    (hs : swapsWithSole [.Subscript o i pos'] e pos.line X.env = pure false := by rfl) (hw : swappedStores [.Subscript o i pos'] e X.env = pure none := by rfl)
    (h1 : (assignEach [.Subscript o i pos'] X.env).map (·.2) = [assign (.Subscript o i pos') X.env] := by rfl) : SX X W (.Assign [.Subscript o i pos'] e pos) (sSub dv dO dI q) :=
  (ps_asg he (pg_sub ho hi hq ha) hs hw h1).imp fun D σ H ⟨ω, S, ρ, f, o⟩ => ⟨ω, S, ρ, f, (SoP.ex f o).imp fun x S1 H1 ω1 s1 t1 o1 v rv => ⟨ω1, S1, ρ, f.later s1 t1, (SoP.ex (f.later s1 t1) o1).imp fun y S2 H2 ω2 s2 t2 o2 w rw =>
    ⟨ω2, S2, ρ, (f.later s1 t1).later s2 t2, (SoP.ex ((f.later s1 t1).later s2 t2) o2).imp fun z S3 H3 ω3 s3 t3 o3 u ru => by
      split at o3
      · rename_i S4 hq
        exact ⟨ω3, S3, y, z, x, S4, t3, rw.up s3.up, ru, (rv.up s2.up).up s3.up, hq, fun H4 s4 t4 => o3 σ H4 ω3 s4 ((((f.later s1 t1).later s2 t2).later s3 t3).later s4 t4)⟩
      · exact o3.elim⟩⟩⟩
/-- x[i] = v on a cell's list -/
@[simp] def qSetL : P3 := fun o i v S => match o, i with
  | .loc n, .int k => match S[n]? with
    | some (.lst xs) => (ixN xs.length k).map fun j => S.set n (.lst (xs.set j v))
    | _ => none
  | _, _ => none
theorem setP_list : PSet X (rSet X.K qSetL) := PSet.weak set_list fun o i v H Q ⟨ω, S, po, pi, pv, S', t, r1, r2, r3, e, k⟩ => by
  unfold qSetL at e
  split at e
  · rename_i n j
    split at e
    · rename_i xs e1
      cases q : ixN xs.length j with
      | none => rw [q] at e; cases e
      | some m =>
        rw [q] at e
        cases e
        obtain ⟨a, c, o', rfl, e2, e3, _, ho, hc⟩ := look_loc t r1
        rw [e1] at e3; cases e3
        obtain ⟨ws, rfl, rw'⟩ := hc
        obtain ⟨s', t'⟩ := cell_set (c := .lst (xs.set m pv)) (o := .lst (ws.set m v)) t e2 ⟨_, rfl, rw'.set r3 m⟩
        exact ⟨a, ws, j, m, rfl, r2, ho, by rw [← rw'.length]; exact q, k _ s' t'⟩
    · cases e
  · cases e
end
end Pv

namespace Pv
open PySem PySem.Spec L2
variable [HW]
/-! ### what is walked -/
/-- later, perhaps with more closed -/
structure Lat (ω : Ad) (H : Hp) (ω' : Ad) (H' : Hp) : Prop where
  nu : ∃ ex, ω'.ν = ω.ν ++ ex ∧ ∀ a ∈ ex, H a = none
  bb : ∀ a ∈ ω'.B, a ∈ ω.B ∨ H a = none
  kp : ∀ a u, H a = some u → a ∉ ω.ν → ∃ x, H' a = some x ∧ Kp u x
  tr : ∀ a, H a ≠ none → H' a ≠ none
  tp : ∀ a xs, H a = some (.tup xs) → H' a = some (.tup xs)
theorem Lat.kn {ω ω' : Ad} {H H' : Hp} (s : Lat ω H ω' H') {a : Addr} {u : HO} (h : H a = some u) (n : a ∉ ω.ν) (d : isDct u = false) : H' a = some u := by
  obtain ⟨x, e, k⟩ := s.kp a u h n
  rw [e, k.same d]
theorem Stp.lat {ω ω' : Ad} {H H' : Hp} (s : Stp ω H ω' H') : Lat ω H ω' H' := ⟨s.nu, fun a ha => .inl (by rw [← s.bl]; exact ha), s.kp, s.tr, s.tp⟩
theorem Stp.lat1 {ω : Ad} {ν : List Addr} {H H' : Hp} {D : Addr} (s : Stp ω H ⟨ν, ω.B⟩ H') (h : H D = none) : Lat ω H ⟨ν, D :: ω.B⟩ H' := ⟨s.nu, fun a ha => by
  rcases List.mem_cons.mp ha with z | z
  · exact .inr (by rw [z]; exact h)
  · exact .inl z, s.kp, s.tr, s.tp⟩
theorem Lat.up {ω ω' : Ad} {H H' : Hp} (s : Lat ω H ω' H') : Up ω H ω' H' := by
  obtain ⟨ex, e1, f1⟩ := s.nu
  refine ⟨fun n a h => ?_, fun a u h f => ⟨s.kp a u h f.1, ?_, fun z => ?_⟩, s.tp⟩
  · rw [e1, List.getElem?_append_left (List.getElem?_eq_some_iff.mp h).1]; exact h
  · rw [e1]
    intro hm
    rcases List.mem_append.mp hm with z | z
    · exact f.1 z
    · rw [f1 a z] at h; cases h
  · rcases s.bb a z with z | z
    · exact f.2 z
    · rw [h] at z; cases z
/-- what a walk yields: xs, one by one -/
structure Walks (K : PySem.W.Frag) (J : It) (ω0 : Ad) (H0 : Hp) (xs : List PV) : Prop where
  go : ∀ (i : Nat) ω S H, i < xs.length → Lat ω0 H0 ω H → StR K ω S H → J.go i H
  stop : ∀ (i : Nat) ω S H, i = xs.length → Lat ω0 H0 ω H → StR K ω S H → J.stop i H
  yld : ∀ (i : Nat) ω S H x H', i < xs.length → Lat ω0 H0 ω H → StR K ω S H → J.yld i H x H' → Stp ω H ω H' ∧ StR K ω S H' ∧ ∃ y, xs[i]? = some y ∧ Rp K H' ω y x
def tXI (K : PySem.W.Frag) (W : WX) (d : DenA) : TI := fun σ H R => ∃ ω S ρ, From K ρ S ω σ H ∧ OutP K (fun c x H' => W c x σ H') ω H (d ρ S) fun xs S' H' ω' => ∀ J, Walks K J ω' H' xs → R J H'
abbrev IX (X : Cx) (W : WX) (tg e : Expr) (d : DenA) : Prop := PI X tg e (tXI X.K W d)
theorem _root_.L2.PI.imp {X : Cx} {tg e : Expr} {t t' : TI} (h : PI X tg e t) (i : ∀ σ H R, t' σ H R → t σ H R) : PI X tg e t' := ⟨fun pins s σ H R I q => h.run pins s σ H R I (i _ _ _ q)⟩
section
variable {X : Cx} {W : WX} {tg e a b : Expr} {de da db : Den} {ds : DenA} {pos p : Pos}
theorem walks_list {K : PySem.W.Frag} {ω : Ad} {H : Hp} {a : Addr} {xs : List PV} {vs : List V} (h : H a = some (.lst vs)) (f : ω.Free a) (r : RpL K H ω xs vs) : Walks K (Itl K a) ω H xs where
  go := fun i ω' S H' hi s t => by
    have h' := s.kn h f.1 rfl
    have hi' : i < vs.length := by rw [← r.length]; exact hi
    exact ⟨vs, vs[i], .of h', List.getElem?_eq_getElem hi'⟩
  stop := fun i ω' S H' hi s t => ⟨vs, .of (s.kn h f.1 rfl), by rw [hi, r.length]; exact Nat.le_refl _⟩
  yld := fun i ω' S H' x H2 hi s t y => by
    obtain ⟨rfl, y⟩ := y
    have hx := y vs (.of (s.kn h f.1 rfl))
    obtain ⟨z, h1, h2⟩ := r.get' hx
    exact ⟨.refl, t, z, h1, h2.up s.up⟩
theorem walks_tup {K : PySem.W.Frag} {ω : Ad} {H : Hp} {a : Addr} {xs : List PV} {vs : List V} (h : H a = some (.tup vs)) (r : RpL K H ω xs vs) : Walks K (Itt K a) ω H xs := by
  have q : ∀ ω' H', Lat ω H ω' H' → SqT K H' a vs := fun ω' H' s => .of (s.tp a _ h)
  refine ⟨fun i ω' S H' hi s t => ?_, fun i ω' S H' hi s t => ⟨vs, q ω' H' s, by rw [hi, r.length]; exact Nat.le_refl _⟩, fun i ω' S H' x H2 hi s t y => ?_⟩
  · have hi' : i < vs.length := by rw [← r.length]; exact hi
    exact ⟨vs, vs[i], q ω' H' s, List.getElem?_eq_getElem hi'⟩
  · obtain ⟨rfl, y⟩ := y
    have hx := y vs (q ω' _ s)
    obtain ⟨z, h1, h2⟩ := r.get' hx
    exact ⟨.refl, t, z, h1, h2.up s.up⟩
def nums (lo : Int) (n : Nat) : List PV := (List.range n).map fun i => .int (lo + (i : Nat))
theorem walks_range {K : PySem.W.Frag} {ω : Ad} {H : Hp} {lo : Int} {n : Nat} : Walks K (Itr lo n) ω H (nums lo n) where
  go := fun i ω' S H' hi s t => by
    show i < n
    simpa [nums] using hi
  stop := fun i ω' S H' hi s t => by
    show n ≤ i
    simp [nums] at hi; exact Nat.le_of_eq hi.symm
  yld := fun i ω' S H' x H2 hi s t y => by
    obtain ⟨rfl, rfl⟩ := y
    have hi : i < n := by simpa [nums] using hi
    exact ⟨.refl, t, .int (lo + i), by simp [nums, hi], rfl⟩
theorem walks_str {K : PySem.W.Frag} {ω : Ad} {H : Hp} {z : Str} : Walks K (Its z) ω H (z.cps.toList.map fun c => .str ⟨#[c]⟩) where
  go := fun i ω' S H' hi s t => by
    show i < z.cps.size
    simpa using hi
  stop := fun i ω' S H' hi s t => by
    show z.cps.size ≤ i
    simp at hi; exact Nat.le_of_eq hi.symm
  yld := fun i ω' S H' x H2 hi s t y => by
    obtain ⟨rfl, c, hc, rfl⟩ := y
    exact ⟨.refl, t, .str ⟨#[c]⟩, by rw [List.getElem?_map, Array.getElem?_toList, hc]; rfl, rfl⟩
/-- over a list, a tuple that never change; over a text's signs -/
@[simp] def iL (d : Den) : DenA := fun ρ S => (d ρ S).then fun x S1 => match x with
  | .lst xs => .ok xs S1
  | _ => .stuck
@[simp] def iT (d : Den) : DenA := fun ρ S => (d ρ S).then fun x S1 => match x with
  | .tup xs => .ok xs S1
  | _ => .stuck
@[simp] def iS (d : Den) : DenA := fun ρ S => (d ρ S).then fun x S1 => match x with
  | .str z => .ok (z.cps.toList.map fun c => .str ⟨#[c]⟩) S1
  | _ => .stuck
theorem ix_l (he : EX X W e de) : IX X W tg e (iL de) := (pi_list he).imp fun σ H R ⟨ω, S, ρ, f, o⟩ => ⟨ω, S, ρ, f, (OutP.bind o).imp fun x S1 H1 ω1 s1 t1 o1 v rv => by
  split at o1
  · obtain ⟨a, vs, rfl, h, f', r⟩ := rv
    exact ⟨a, rfl, ⟨vs, .of h⟩, o1 H1 ω1 .refl t1 _ (walks_list h f' r)⟩
  · exact o1.elim⟩
theorem ix_t (he : EX X W e de) : IX X W tg e (iT de) := (pi_tup he).imp fun σ H R ⟨ω, S, ρ, f, o⟩ => ⟨ω, S, ρ, f, (OutP.bind o).imp fun x S1 H1 ω1 s1 t1 o1 v rv => by
  split at o1
  · obtain ⟨a, vs, rfl, h, r⟩ := rv
    exact ⟨a, rfl, ⟨vs, .of h⟩, o1 H1 ω1 .refl t1 _ (walks_tup h r)⟩
  · exact o1.elim⟩
theorem ix_s (he : EX X W e de) : IX X W tg e (iS de) := (pi_str he).imp fun σ H R ⟨ω, S, ρ, f, o⟩ => ⟨ω, S, ρ, f, (OutP.bind o).imp fun x S1 H1 ω1 s1 t1 o1 v rv => by
  split at o1
  · rename_i z
    exact ⟨z, rv, o1 H1 ω1 .refl t1 _ walks_str⟩
  · exact o1.elim⟩
@[simp] def iR1 (ds : DenA) : DenA := fun ρ S => (ds ρ S).then fun xs S1 => match xs with
  | [.int j] => if -(2 ^ 62) ≤ j ∧ j < 2 ^ 62 then .ok (nums 0 j.toNat) S1 else .stuck
  | _ => .stuck
@[simp] def iR2 (ds : DenA) : DenA := fun ρ S => (ds ρ S).then fun xs S1 => match xs with
  | [.int i, .int j] => if -(2 ^ 62) ≤ i ∧ i < 2 ^ 62 ∧ -(2 ^ 62) ≤ j ∧ j < 2 ^ 62 then .ok (nums i (j - i).toNat) S1 else .stuck
  | _ => .stuck
theorem ix_r1 (hg : Gl X "range") (hm : X.mg "range" = none) (ha : AX X W [a] ds) (hs : starEach [a] X.env = [(false, eval a X.env)] := by rfl) : IX X W tg (.Call (.Name "range" p) [a] [] pos) (iR1 ds) :=
  (pi_range1 hg hm ha hs).imp fun σ H R ⟨ω, S, ρ, f, o⟩ => ⟨ω, S, ρ, f, (OutP.bind o).imp fun xs S1 H1 ω1 s1 t1 o1 vs rvs => by
    split at o1
    · rename_i j
      obtain ⟨v, rfl, rfl⟩ := rvs.one
      split at o1
      · rename_i hj
        exact ⟨j, rfl, hj.1, hj.2, o1 H1 ω1 .refl t1 _ walks_range⟩
      · exact o1.elim
    · exact o1.elim⟩
theorem ix_r2 (hg : Gl X "range") (hm : X.mg "range" = none) (ha : AX X W [a, b] ds) (hs : starEach [a, b] X.env = [(false, eval a X.env), (false, eval b X.env)] := by rfl) (hs2 : starEach [b] X.env = [(false, eval b X.env)] := by rfl) :
    IX X W tg (.Call (.Name "range" p) [a, b] [] pos) (iR2 ds) :=
  (pi_range2 hg hm ha hs hs2).imp fun σ H R ⟨ω, S, ρ, f, o⟩ => ⟨ω, S, ρ, f, (OutP.bind o).imp fun xs S1 H1 ω1 s1 t1 o1 vs rvs => by
    split at o1
    · rename_i i j
      obtain ⟨v, w, rfl, rfl, rfl⟩ := rvs.two
      split at o1
      · rename_i hj
        exact ⟨i, j, rfl, hj, o1 H1 ω1 .refl t1 _ walks_range⟩
      · exact o1.elim
    · exact o1.elim⟩
/-! ### for -/
def forD (b : Bd) (body : SDen) : List PV → SDen
  | [], ρ, S => .nx ρ S
  | x :: xs, ρ, S => match b x ρ with
    | none => .stuck
    | some ρ1 => match body ρ1 S with
      | .nx ρ2 S2 => forD b body xs ρ2 S2
      | .ct ρ2 S2 => forD b body xs ρ2 S2
      | .bk ρ2 S2 => .nx ρ2 S2
      | .rt v S2 => .rt v S2
      | .exc x ρ2 S2 => .exc x ρ2 S2
      | .stuck => .stuck
@[simp] def sFor (ds : DenA) (b : Bd) (body : SDen) : SDen := fun ρ S => stE (ds ρ S) ρ fun xs S' => forD b body xs ρ S'
theorem sx_for {iter : Expr} {body : List Stmt} {b : Bd} {vs : List Nat} {db : SDen} (hp : PassesOwn (model X.prog X.w) X.A X.env X.xe) (hc : X.calm = true) (hi : IX X W tg iter ds) (hg : GX X tg b vs) (hb : SsX X W body db)
    (hs : ∀ x, foldedSetIterable iter X.env x = pure x := by intro _; rfl) : SX X W (.For tg iter body [] pos) (sFor ds b db) :=
  (ps_for hp hc hi hg hb hs).imp fun D σ H ⟨ω, S, ρ, f, o⟩ => ⟨ω, S, ρ, f, (SoP.ex f o).imp fun xs S1 H1 ω1 s1 t1 o1 J w => by
    refine ⟨fun i m σ' H' => m = xs.length - i ∧ i ≤ xs.length ∧ ∃ ω' S' ρ', Stp ω1 H1 ω' H' ∧ From X.K ρ' S' ω' σ' H' ∧ SoP X.K W D ω' H' (forD b db (xs.drop i) ρ' S'), ⟨xs.length, rfl, Nat.zero_le _, ω1, S1, ρ, .refl, f.later s1 t1, o1⟩, ?_⟩
    rintro i m σ' H' ⟨rfl, hi, ω', S', ρ', s', f', o'⟩
    by_cases hl : i < xs.length
    · refine .inr ⟨w.go i ω' S' H' hl s'.lat f'.1, ?_⟩
      rw [List.drop_eq_getElem_cons hl] at o'
      unfold forD at o'
      refine ⟨fun σ2 H2 => ∃ ω2 S2 ρ2, Stp ω1 H1 ω2 H2 ∧ From X.K ρ2 S2 ω2 σ2 H2 ∧ SoP X.K W D ω2 H2 (forD b db (xs.drop (i + 1)) ρ2 S2), fun σ2 H2 h2 => ⟨xs.length - (i + 1), by omega, rfl, hl, h2⟩, fun x H3 y => ?_⟩
      obtain ⟨s3, t3, z, hz, rz⟩ := w.yld i ω' S' H' x H3 hl s'.lat f'.1 y
      rw [List.getElem?_eq_getElem hl] at hz
      cases hz
      split at o'
      · exact o'.elim
      · rename_i ρ1 hb1
        have f3 := f'.later s3 t3
        refine ⟨ω', S', ρ', _, ρ1, f3, rz, hb1, fun σ4 _ f4 => ⟨ω', S', ρ1, f4, ?_⟩⟩
        have o3 := SoP.later s3 o'
        revert o3
        cases db ρ1 S' with
        | nx ρ2 S2 => exact fun o3 σ5 H5 ω5 s5 f5 => ⟨ω5, S2, ρ2, (s'.trans s3).trans s5, f5, o3.later s5⟩
        | ct ρ2 S2 => exact fun o3 σ5 H5 ω5 s5 f5 => ⟨ω5, S2, ρ2, (s'.trans s3).trans s5, f5, o3.later s5⟩
        | bk ρ2 S2 => exact _root_.id
        | rt v S2 => exact _root_.id
        | exc x ρ2 S2 => exact _root_.id
        | stuck => exact _root_.id
    · have : i = xs.length := by omega
      subst this
      refine .inl ⟨w.stop _ ω' S' H' rfl s'.lat f'.1, ?_⟩
      rw [List.drop_length] at o'
      exact o' σ' H' ω' .refl f'⟩
/-! ### comprehensions -/
@[simp] def wipeR (ρ : PEnv) : List Nat → PEnv
  | [] => ρ
  | v :: vs => (wipeR ρ vs).set v none
/-- no exception comes out -/
@[simp] def noX {α : Type} (o : Out α) : Out α := match o with
  | .exc _ _ => .stuck
  | o => o
def compD (b : Bd) (test : DenT) (elt : Den) (ρ : PEnv) : List PV → Nat → M (List PV)
  | [], _, S => .ok [] S
  | x :: xs, n, S => match b x ρ with
    | none => .stuck
    | some ρ1 => (noX (test ρ1 S)).then fun k S1 => if k = true then (noX (elt ρ1 S1)).then fun y S2 => if n < sizeLine then (compD b test elt ρ xs (n + 1) S2).then fun ys S3 => .ok (y :: ys) S3 else .stuck
      else compD b test elt ρ xs n S1
@[simp] def dYes : DenT := fun _ S => .ok true S
@[simp] def dLc (ds : DenA) (vs : List Nat) (b : Bd) (test : DenT) (elt : Den) : Den := fun ρ S => (ds ρ S).then fun xs S1 => (compD b test elt (wipeR ρ vs) xs 0 S1).then fun ys S2 => .ok (.lst ys) S2
abbrev W0 : WX := fun _ _ _ _ => False
theorem wipe_env {K : PySem.W.Frag} {H : Hp} {ω : Ad} {ρ : PEnv} {σ : St} (h : EnvR K H ω ρ σ) : ∀ vs : List Nat, EnvR K H ω (wipeR ρ vs) (wipe σ vs)
  | [] => h
  | v :: vs => by
    have ih := wipe_env h vs
    refine ⟨by simpa [wipeR, wipe] using ih.1, fun i x e => ?_⟩
    unfold wipeR at e
    unfold wipe
    by_cases hi : i = v
    · subst hi
      have hl : i < (wipeR ρ vs).length := by simpa using (List.getElem?_eq_some_iff.mp e).1
      rw [List.getElem?_set_self hl] at e
      cases e
    · rw [List.getElem?_set_ne (Ne.symm hi)] at e ⊢
      exact ih.2 i x e
theorem wipe_eq {σ σ' : St} : ∀ {vs : List Nat}, σ'.length = σ.length → (∀ j, j ∉ vs → σ'[j]? = σ[j]?) → wipe σ' vs = wipe σ vs := by
  intro vs hl h
  refine List.ext_getElem? fun j => ?_
  by_cases hj : j ∈ vs
  · have aux : ∀ (τ : St) (us : List Nat), j ∈ us → (wipe τ us)[j]? = if j < τ.length then some none else none := by
      intro τ us
      induction us with
      | nil => intro z; cases z
      | cons u us ih =>
        intro z
        unfold wipe
        by_cases hu : u = j
        · subst hu
          rw [List.getElem?_set_self']
          by_cases hlt : u < τ.length
          · rw [if_pos hlt, List.getElem?_eq_getElem (by rw [wipe_length]; exact hlt)]; rfl
          · rw [if_neg hlt, List.getElem?_eq_none (by rw [wipe_length]; omega)]; rfl
        · rw [List.getElem?_set_ne hu]
          exact ih (by
            rcases List.mem_cons.mp z with z | z
            · exact absurd z.symm hu
            · exact z)
    rw [aux σ' vs hj, aux σ vs hj, hl]
  · have aux : ∀ (τ : St) (us : List Nat), j ∉ us → (wipe τ us)[j]? = τ[j]? := by
      intro τ us
      induction us with
      | nil => intro _; rfl
      | cons u us ih =>
        intro z
        unfold wipe
        rw [List.getElem?_set_ne (fun q => z (by rw [q]; exact List.mem_cons_self))]
        exact ih fun q => z (List.mem_cons_of_mem _ q)
    rw [aux σ' vs hj, aux σ vs hj]
    exact h j hj
theorem noX_P {α : Type} {K : PySem.W.Frag} {E : XK} {ω : Ad} {H : Hp} {o : Out α} {Q : α → Store → Hp → Ad → Prop} (h : OutP K E ω H (noX o) Q) : OutP K (fun _ _ _ => False) ω H o Q := by
  cases o with
  | ok r S => exact h
  | exc x S => exact h.elim
  | stuck => exact h
/-- as OutP.bind, what is owed told from an anchor -/
theorem OutP.bindA {α β : Type} {K : PySem.W.Frag} {E E' : XK} {ωa ω : Ad} {Ha H : Hp} {o : Out α} {f : α → M β} {Q : β → Store → Hp → Ad → Prop} (h : OutP K E ωa Ha ((noX o).then f) Q) :
    OutP K E' ω H o fun r S' H' ω' => OutP K E ωa Ha (f r S') Q := by
  cases o with
  | ok r S' => exact fun H' ω' _ _ => h
  | exc x S' => exact h.elim
  | stuck => exact h.elim
theorem then_assoc {α β γ : Type} (o : Out α) (f : α → M β) (g : β → M γ) : (o.then f).then g = o.then fun a S => (f a S).then g := by
  cases o <;> rfl
theorem wipe_wipe {σ σ' : St} {vs us : List Nat} (hu : ∀ j, j ∈ us → j ∈ vs) (h : σ'.length = (wipe σ vs).length ∧ ∀ j, j ∉ us → σ'[j]? = (wipe σ vs)[j]?) : wipe σ' vs = wipe σ vs := by
  have h1 : wipe σ' vs = wipe (wipe σ vs) vs := wipe_eq h.1 fun j hj => h.2 j fun z => hj (hu j z)
  rw [h1]
  refine wipe_eq (wipe_length _ _) fun j hj => ?_
  have aux : ∀ us : List Nat, j ∉ us → (wipe σ us)[j]? = σ[j]? := by
    intro us
    induction us with
    | nil => intro _; rfl
    | cons u us ih =>
      intro z
      unfold wipe
      rw [List.getElem?_set_ne (fun q => z (by rw [q]; exact List.mem_cons_self))]
      exact ih fun q => z (List.mem_cons_of_mem _ q)
  exact aux vs hj
theorem lc_P {wi : TI} {g : TG} {tt : TT} {te : TE} {vs us : List Nat} {b : Bd} {dt : DenT} {σ : St} {H : Hp} {Q : VK} (hu : ∀ j, j ∈ us → j ∈ vs)
    (hi : ∀ σ H R, tXI X.K W ds σ H R → wi σ H R) (hg : ∀ v σ H Q, tXG X.K b us v σ H Q → g v σ H Q) (ht : ∀ σ H Q, tXT X.K W0 dt σ H Q → tt σ H Q) (he : ∀ σ H Q, tX X.K W0 de σ H Q → te σ H Q)
    (h : tXF X.K W (dLc ds vs b dt de) σ H Q) : tLc wi g tt te vs σ H Q := by
  obtain ⟨ω, S, ρ, f, o⟩ := h
  refine hi _ _ _ ⟨ω, S, ρ, f, ?_⟩
  have oo : OutP X.K (fun c x H' => W c x σ H') ω H (ds ρ S) fun xs S1 H1 ω1 => OutP X.K (fun c x H' => W c x σ H') ω1 H1 ((compD b dt de (wipeR ρ vs) xs 0 S1).then fun ys S2 => .ok (PV.lst ys) S2) _ := OutP.bind o
  refine oo.imp fun xs S1 H1 ω1 s1 t1 o1 J w D hD => ?_
  have hD0 : H D = none := by
    cases hq : H D with
    | none => rfl
    | some u => exact absurd hD (s1.tr D (by rw [hq]; simp))
  have fD := t1.out hD
  have f1 := f.later s1 t1
  -- the invariant
  refine ⟨fun i m H' => m = xs.length - i ∧ i ≤ xs.length ∧ ∃ ν S' ys ws, Stp ω1 H1 ⟨ν, ω1.B⟩ H' ∧ StR X.K ⟨ν, D :: ω1.B⟩ S' H' ∧ H' D = some (.lst ws) ∧ RpL X.K H' ⟨ν, D :: ω1.B⟩ ys ws ∧
    OutP X.K (fun c x H' => W c x σ H') ω1 H1 ((compD b dt de (wipeR ρ vs) (xs.drop i) ys.length S').then fun zs S2 => .ok (PV.lst (ys ++ zs)) S2)
      (fun r S' H' ω' => ∀ p o, H' p = some o → H p = none → p ∉ ω'.ν → StR X.K ⟨ω'.ν, p :: ω'.B⟩ S' H' → CoR X.K H' ⟨ω'.ν, p :: ω'.B⟩ p r o → Q (.ref p) H'),
    ⟨xs.length, rfl, Nat.zero_le _, ω1.ν, S1, [], [], new_stp hD, new_str t1 hD, upd_same, rfl, o1⟩, ?_⟩
  rintro i m H' ⟨rfl, hle, ν, S', ys, ws, s', t', hDw, rw', o'⟩
  have t0 := open_str (ω := ⟨ν, ω1.B⟩) t'
  have hDν : D ∉ ν := fun z => t'.nb D z List.mem_cons_self
  by_cases hl : i < xs.length
  · refine .inr ⟨w.go i _ S' H' hl (s'.lat1 hD) t', ?_⟩
    refine ⟨fun H2 => ∃ ν S' ys ws, Stp ω1 H1 ⟨ν, ω1.B⟩ H2 ∧ StR X.K ⟨ν, D :: ω1.B⟩ S' H2 ∧ H2 D = some (.lst ws) ∧ RpL X.K H2 ⟨ν, D :: ω1.B⟩ ys ws ∧
      OutP X.K (fun c x H' => W c x σ H') ω1 H1 ((compD b dt de (wipeR ρ vs) (xs.drop (i + 1)) ys.length S').then fun zs S2 => .ok (PV.lst (ys ++ zs)) S2)
        (fun r S' H' ω' => ∀ p o, H' p = some o → H p = none → p ∉ ω'.ν → StR X.K ⟨ω'.ν, p :: ω'.B⟩ S' H' → CoR X.K H' ⟨ω'.ν, p :: ω'.B⟩ p r o → Q (.ref p) H'),
      fun H2 h2 => ⟨xs.length - (i + 1), by omega, rfl, hl, h2⟩, fun x H3 y => ?_⟩
    obtain ⟨s3, t3, z, hz, rz⟩ := w.yld i _ S' H' x H3 hl (s'.lat1 hD) t' y
    rw [List.getElem?_eq_getElem hl] at hz
    cases hz
    have env : EnvR X.K H3 ⟨ν, D :: ω1.B⟩ (wipeR ρ vs) (wipe σ vs) := ((wipe_env f1.2 vs).up (s'.lat1 hD).up).up s3.up
    rw [List.drop_eq_getElem_cons hl] at o'
    unfold compD at o'
    cases hb : b xs[i] (wipeR ρ vs) with
    | none => rw [hb] at o'; exact o'.elim
    | some ρ1 =>
      rw [hb] at o'
      have s13 : Stp ω1 H1 ⟨ν, ω1.B⟩ H3 := s'.trans ⟨⟨[], by simp, by simp⟩, rfl, s3.kp, s3.tr, s3.tp, fun a ha u e => s3.bk a (List.mem_cons_of_mem _ ha) u e⟩
      refine hg _ _ _ _ ⟨⟨ν, D :: ω1.B⟩, S', wipeR ρ vs, _, ρ1, ⟨t3, env⟩, rz, hb, fun σ4 h4 f4 => ⟨wipe_wipe hu h4, ht _ _ _ ⟨⟨ν, D :: ω1.B⟩, S', ρ1, f4, ?_⟩⟩⟩
      have o4 := OutP.bindA (E' := fun c x H' => W0 c x σ4 H') (ω := ⟨ν, D :: ω1.B⟩) (H := H3) (show OutP X.K (fun c x H' => W c x σ H') ω1 H1 ((noX (dt ρ1 S')).then fun k S1 => (if k = true then (noX (de ρ1 S1)).then fun y S2 => if ys.length < sizeLine then (compD b dt de (wipeR ρ vs) (xs.drop (i + 1)) (ys.length + 1) S2).then fun zs S3 => .ok (y :: zs) S3 else .stuck
        else compD b dt de (wipeR ρ vs) (xs.drop (i + 1)) ys.length S1).then fun zs S2 => .ok (PV.lst (ys ++ zs)) S2) _ by rw [← then_assoc]; exact o')
      refine o4.imp fun k S5 H5 ω5 s5 t5 o5 => ?_
      obtain ⟨ν5, B5⟩ := ω5
      have e5 : B5 = D :: ω1.B := s5.bl
      subst e5
      have s15 : Stp ω1 H1 ⟨ν5, ω1.B⟩ H5 := s13.trans ⟨s5.nu, rfl, s5.kp, s5.tr, s5.tp, fun a ha u e => s5.bk a (List.mem_cons_of_mem _ ha) u e⟩
      have hD5 : H5 D = some (.lst ws) := s5.kn (s3.kn hDw hDν rfl) hDν rfl
      have rw5 : RpL X.K H5 ⟨ν5, D :: ω1.B⟩ ys ws := (rw'.up s3.up).up s5.up
      cases k with
      | false => exact iteF ⟨ν5, S5, ys, ws, s15, t5, hD5, rw5, o5⟩
      | true =>
        refine iteT (he _ _ _ ⟨⟨ν5, D :: ω1.B⟩, S5, ρ1, (f4.later s5 t5), ?_⟩)
        have o6 := OutP.bindA (E' := fun c x H' => W0 c x σ4 H') (ω := ⟨ν5, D :: ω1.B⟩) (H := H5) (show OutP X.K (fun c x H' => W c x σ H') ω1 H1 ((noX (de ρ1 S5)).then fun y S2 => (if ys.length < sizeLine then (compD b dt de (wipeR ρ vs) (xs.drop (i + 1)) (ys.length + 1) S2).then fun zs S3 => .ok (y :: zs) S3 else .stuck).then fun zs S2 => .ok (PV.lst (ys ++ zs)) S2) _ by rw [← then_assoc]; exact o5)
        refine o6.imp fun yv S7 H7 ω7 s7 t7 o7 v rv => ?_
        obtain ⟨ν7, B7⟩ := ω7
        have e7 : B7 = D :: ω1.B := s7.bl
        subst e7
        have hD7 : H7 D = some (.lst ws) := s7.kn hD5 (fun z => t5.nb D z List.mem_cons_self) rfl
        have s17 : Stp ω1 H1 ⟨ν7, ω1.B⟩ H7 := s15.trans ⟨s7.nu, rfl, s7.kp, s7.tr, s7.tp, fun a ha u e => s7.bk a (List.mem_cons_of_mem _ ha) u e⟩
        split at o7
        · rename_i hlt
          have hDν7 : D ∉ ν7 := fun z => t7.nb D z List.mem_cons_self
          have up7 : ∀ o, Up ⟨ν7, D :: ω1.B⟩ H7 ⟨ν7, D :: ω1.B⟩ (upd H7 D o) := fun o => ⟨fun _ _ z => z, fun a u e f' => ⟨⟨u, by rw [upd_ne (fun z => f'.2 (by rw [z]; exact List.mem_cons_self))]; exact e, .refl⟩, f'⟩, fun a xs e => by rw [upd_ne (fun z => by rw [z, hD7] at e; cases e)]; exact e⟩
          refine ⟨ws, hD7, by rw [← (rw5.length)]; exact hlt, ν7, S7, ys ++ [yv], ws ++ [v], ?_, ?_, upd_same, ?_, ?_⟩
          · refine ⟨s17.nu, rfl, fun a u e nf => ?_, fun a e => ?_, fun a xs e => ?_, fun a ha u e => by rw [upd_ne (ne_of_none e hD)]; exact s17.bk a ha u e⟩
            · rw [upd_ne (ne_of_none e hD)]; exact s17.kp a u e nf
            · unfold upd; split
              · simp
              · exact s17.tr a e
            · rw [upd_ne (ne_of_none e hD)]; exact s17.tp a xs e
          · refine ⟨t7.len, t7.nd, t7.nb, fun a ha => ?_, fun n c a e1 e2 => ?_⟩
            · unfold upd; split
              · simp
              · exact t7.tb a ha
            · obtain ⟨u, hu', ru⟩ := t7.at n c a e1 e2
              have : a ≠ D := fun z => hDν7 (by rw [← z]; exact List.mem_of_getElem? e2)
              exact ⟨u, by rw [upd_ne this]; exact hu', ru.up (up7 _)⟩
          · exact ((rw5.up s7.up).append (show RpL X.K H7 ⟨ν7, D :: ω1.B⟩ [yv] [v] from ⟨v, [], rfl, rv, rfl⟩)).up (up7 _)
          · have e8 : (ys ++ [yv]).length = ys.length + 1 := by simp
            rw [e8]
            have o8 : OutP X.K (fun c x H' => W c x σ H') ω1 H1 (((compD b dt de (wipeR ρ vs) (xs.drop (i + 1)) (ys.length + 1) S7).then fun zs S3 => .ok (yv :: zs) S3).then fun zs S2 => .ok (PV.lst (ys ++ zs)) S2) _ := o7
            rw [then_assoc] at o8
            simpa [then_ok] using o8
        · exact o7.elim
  · have hi' : i = xs.length := by omega
    subst hi'
    refine .inl ⟨w.stop _ _ S' H' rfl (s'.lat1 hD) t', ?_⟩
    rw [List.drop_length] at o'
    have o' : OutP X.K (fun c x H' => W c x σ H') ω1 H1 (.ok (PV.lst (ys ++ [])) S') _ := o'
    rw [List.append_nil] at o'
    exact o' H' ⟨ν, ω1.B⟩ s' t0 D _ hDw hD0 hDν t' ⟨ws, rfl, rw'⟩
section
variable {elt iter : Expr} {ifs : List Expr} {scope : Scope} {own : List (Str × Nat)} {us : List Nat} {b : Bd} {dt : DenT} {d : Den}
abbrev TsX (X : Cx) (ifs : List Expr) (dt : DenT) : Prop := PTs X ifs (tXT X.K W0 dt)
theorem _root_.L2.PTs.imp {X : Cx} {es : List Expr} {t t' : TT} (h : PTs X es t) (i : ∀ σ H Q, t' σ H Q → t σ H Q) : PTs X es t' := ⟨fun pins s σ H Q I q => h.run pins s σ H Q I (i σ H Q q)⟩
theorem ts_nil : TsX X [] dYes := pts_nil.imp fun σ H Q ⟨ω, S, ρ, f, o⟩ => o H ω .refl f.1
theorem ts_one {c : Expr} (h : BX X W0 c dt) : TsX X [c] dt := pts_one h
theorem ef_lc (hc : X.calm = true) (hN : X.N.Nodup) (hi : IX X W tg iter ds) (ok : BlkOk X.N X.env.scope scope own) (hu : ∀ j, j ∈ us → j ∈ own.map (·.2))
    (hg : ∀ (s : Shared) (H : Hp) (C : Addr) (cl : List (Str × Addr)) (fp : List Addr), GX (X.blk s H scope (compEnvC scope cl C X.env) fp) tg b us)
    (ht : ∀ (s : Shared) (H : Hp) (C : Addr) (cl : List (Str × Addr)) (fp : List Addr), TsX (X.blk s H scope (compEnvC scope cl C X.env) fp) ifs dt)
    (he : ∀ (s : Shared) (H : Hp) (C : Addr) (cl : List (Str × Addr)) (fp : List Addr), EX (X.blk s H scope (compEnvC scope cl C X.env) fp) W0 elt de) (hs : ∀ x, foldedSetIterable iter X.env x = pure x := by intro _; rfl) :
    EF X W (.ListComp elt [⟨tg, iter, ifs, 0⟩] scope pos) (dLc ds (own.map (·.2)) b dt de) :=
  (pe_lc hc hN hi ok hg ht he hs).imp fun _ _ _ h => lc_P (us := us) hu (fun _ _ _ q => q) (fun _ _ _ _ q => q) (fun _ _ _ q => q) (fun _ _ _ q => q) h
theorem sx_setLcV {i : Nat} {y : Str} {py spos : Pos} (hd : ∀ σ H Q, tX X.K W d σ H Q → tXF X.K W (dLc ds (own.map (·.2)) b dt de) σ H Q) (hc : X.calm = true) (hN : X.N.Nodup) (hy : X.N[i]? = some y) (hyl : X.env.scope.names.lookup y = some .local)
    (hsw : swapsWith (.ListComp elt [⟨tg, iter, ifs, 0⟩] scope pos) (some (.Name y py)) spos.line X.env = pure true) (hi : IX X W tg iter ds) (ok : BlkOk X.N X.env.scope scope own) (hu : ∀ j, j ∈ us → j ∈ own.map (·.2))
    (hg : ∀ (s : Shared) (H : Hp) (C : Addr) (cl : List (Str × Addr)) (fp : List Addr), GX (X.blk s H scope (compEnvC scope cl C X.env) fp) tg b us)
    (ht : ∀ (s : Shared) (H : Hp) (C : Addr) (cl : List (Str × Addr)) (fp : List Addr), TsX (X.blk s H scope (compEnvC scope cl C X.env) fp) ifs dt)
    (he : ∀ (s : Shared) (H : Hp) (C : Addr) (cl : List (Str × Addr)) (fp : List Addr), EX (X.blk s H scope (compEnvC scope cl C X.env) fp) W0 elt de) (hs : ∀ x, foldedSetIterable iter X.env x = pure x := by intro _; rfl) :
    SX X W (.Assign [.Name y py] (.ListComp elt [⟨tg, iter, ifs, 0⟩] scope pos) spos) (sAsg d (bN i)) :=
  (ps_setLc hc hN hy hyl hsw hi ok hg ht he hs).imp fun D σ H h => by
    have h1 : tAsg (tX X.K W d) (gName i) D σ H := asg_P (vs := [i]) (fun v σ H Q ⟨ω, S, ρ, y, ρ', f, r, e, k⟩ => by
      cases e
      refine k _ ⟨by simp, fun j hj => ?_⟩ ⟨f.1, f.2.set r⟩
      rw [List.getElem?_set_ne]
      intro z
      exact hj (by simp [z])) h
    exact lc_P (us := us) hu (fun _ _ _ q => q) (fun _ _ _ _ q => q) (fun _ _ _ q => q) (fun _ _ _ q => q) (hd _ _ _ h1)
/-- name = [..], a value; a cell -/
theorem sx_setLc {i : Nat} {y : Str} {py spos : Pos} (hc : X.calm = true) (hN : X.N.Nodup) (hy : X.N[i]? = some y) (hyl : X.env.scope.names.lookup y = some .local)
    (hsw : swapsWith (.ListComp elt [⟨tg, iter, ifs, 0⟩] scope pos) (some (.Name y py)) spos.line X.env = pure true) (hi : IX X W tg iter ds) (ok : BlkOk X.N X.env.scope scope own) (hu : ∀ j, j ∈ us → j ∈ own.map (·.2))
    (hg : ∀ (s : Shared) (H : Hp) (C : Addr) (cl : List (Str × Addr)) (fp : List Addr), GX (X.blk s H scope (compEnvC scope cl C X.env) fp) tg b us)
    (ht : ∀ (s : Shared) (H : Hp) (C : Addr) (cl : List (Str × Addr)) (fp : List Addr), TsX (X.blk s H scope (compEnvC scope cl C X.env) fp) ifs dt)
    (he : ∀ (s : Shared) (H : Hp) (C : Addr) (cl : List (Str × Addr)) (fp : List Addr), EX (X.blk s H scope (compEnvC scope cl C X.env) fp) W0 elt de) (hs : ∀ x, foldedSetIterable iter X.env x = pure x := by intro _; rfl) :
    SX X W (.Assign [.Name y py] (.ListComp elt [⟨tg, iter, ifs, 0⟩] scope pos) spos) (sAsg (dLc ds (own.map (·.2)) b dt de) (bN i)) := sx_setLcV (us := us) (fun _ _ _ => f_P) hc hN hy hyl hsw hi ok hu hg ht he hs
theorem sx_setLcC {i : Nat} {y : Str} {py spos : Pos} (hc : X.calm = true) (hN : X.N.Nodup) (hy : X.N[i]? = some y) (hyl : X.env.scope.names.lookup y = some .local)
    (hsw : swapsWith (.ListComp elt [⟨tg, iter, ifs, 0⟩] scope pos) (some (.Name y py)) spos.line X.env = pure true) (hi : IX X W tg iter ds) (ok : BlkOk X.N X.env.scope scope own) (hu : ∀ j, j ∈ us → j ∈ own.map (·.2))
    (hg : ∀ (s : Shared) (H : Hp) (C : Addr) (cl : List (Str × Addr)) (fp : List Addr), GX (X.blk s H scope (compEnvC scope cl C X.env) fp) tg b us)
    (ht : ∀ (s : Shared) (H : Hp) (C : Addr) (cl : List (Str × Addr)) (fp : List Addr), TsX (X.blk s H scope (compEnvC scope cl C X.env) fp) ifs dt)
    (he : ∀ (s : Shared) (H : Hp) (C : Addr) (cl : List (Str × Addr)) (fp : List Addr), EX (X.blk s H scope (compEnvC scope cl C X.env) fp) W0 elt de) (hs : ∀ x, foldedSetIterable iter X.env x = pure x := by intro _; rfl) :
    SX X W (.Assign [.Name y py] (.ListComp elt [⟨tg, iter, ifs, 0⟩] scope pos) spos) (sAsg (dCell (dLc ds (own.map (·.2)) b dt de)) (bN i)) := sx_setLcV (us := us) (fun _ _ _ => cell_P) hc hN hy hyl hsw hi ok hu hg ht he hs
end
end
/-! ### defs -/
/-- what a def is worth -/
abbrev FDen := List PV → M PV
@[simp] def callD (N n : Nat) (body : SDen) : FDen := fun ps S => if ps.length = n then
    match body (ps.map some ++ List.replicate (N - n) none) S with
    | .nx _ S' => .ok .non S'
    | .rt v S' => .ok v S'
    | .exc x _ S' => .exc x S'
    | _ => .stuck
  else .stuck
def spF (K : PySem.W.Frag) (n : Nat) (F : FDen) : Sp := fun vs H Q E => vs.length = n ∧ ∃ ω S ps, StR K ω S H ∧ RpL K H ω ps vs ∧ OutP K E ω H (F ps S) fun r S' H' ω' => ∀ v, Rp K H' ω' r v → Q v H'
structure Fn (P : Program) (w : World) (K : PySem.W.Frag) (mg : Str → Option Value) (base : Heap) (k : Nat) (x : Str) (n : Nat) (ds : List PV) (F : FDen) : Prop where
  ex : ∃ (f : Addr) (fd : FuncData) (ps : List Str) (dvs : List V) (dus : List Value), FnOk P w K mg base (L2.CX P w) k f fd ps (spF K n F) ∧ mg x = some (.ref f) ∧ PySem.W.keepIn K (.ref f) = true ∧ Binds K fd ps dus ∧ Vals dvs dus ∧
    (∀ H ω, RpL K H ω ds dvs) ∧ ∀ qs S, F qs S ≠ .stuck → qs.length = n
theorem OutP.ns {α : Type} {K : PySem.W.Frag} {E : XK} {ω : Ad} {H : Hp} {o : Out α} {Q : α → Store → Hp → Ad → Prop} (h : OutP K E ω H o Q) : o ≠ .stuck := by
  rintro rfl
  exact h
section
variable {X : Cx} {W : WX} {e : Expr} {es : List Expr} {das : DenA} {pos p : Pos} {x : Str} {k n : Nat} {ds : List PV} {F : FDen}
@[simp] def dFn (F : FDen) (ds : List PV) (das : DenA) : Den := fun ρ S => (das ρ S).then fun xs S1 => F (xs ++ ds) S1
theorem passAt' (tk : Takes X W) (σ : L2.St) : PassesAt (L2.CX X.prog X.w) X σ (fun c d H' => W c d σ H') := fun pins H s e s' I c => tk e s' (XE.of_call I (fun cls d H' h => h) c)
theorem ex_call (G : Fn X.prog X.w X.K X.mg X.base k x n ds F) (hr : Room k X.A) (tk : Takes X W) (hg : Gl X x) (ha : AX X W (e :: es) das) (hdb : (x == ("__debug__" : Str)) = false := by decide)
    (he : starEach (e :: es) X.env = (false, eval e X.env) :: starEach es X.env := by rfl) (hpl : (backTo pos (starEach es X.env)).any (·.1) = false := by rfl) : EX X W (.Call (.Name x p) (e :: es) [] pos) (dFn F ds das) := by
  obtain ⟨f, fd, ps, dvs, dus, G, hm, hk, hb, hd, hds, hl⟩ := G.ex
  refine (pe_callSD (E := fun σ c d H' => W c d σ H') G hr hg hm hk hb hd (passAt' tk) ha hdb he hpl).imp fun σ H Q ⟨ω, S, ρ, f, o⟩ => ⟨ω, S, ρ, f, (OutP.bind o).imp fun xs S1 H1 ω1 s1 t1 o1 vs rvs => ?_⟩
  have r2 := rvs.append (hds H1 ω1)
  exact ⟨by rw [← r2.length]; exact hl _ _ o1.ns, ω1, S1, _, t1, r2, o1⟩
end
section
variable {P : Program} {w : World} {K : PySem.W.Frag} {mg : Str → Option Value} {base : Heap}
theorem start_env {ω : Ad} {H : Hp} {S : Store} {ps : List PV} {vs : List V} (N : List Str) (t : StR K ω S H) (r : RpL K H ω ps vs) (n : Nat) (hn : ps.length = n) :
    From K (ps.map some ++ List.replicate (N.length - n) none) S ω (L2.start N vs) H := by
  subst hn
  refine ⟨t, by simp [L2.start, r.length], fun i x e => ?_⟩
  by_cases hi : i < ps.length
  · rw [List.getElem?_append_left (by simpa using hi), List.getElem?_map, List.getElem?_eq_getElem hi] at e
    simp at e
    subst e
    obtain ⟨v, h1, h2⟩ := r.get (List.getElem?_eq_getElem hi)
    refine ⟨v, ?_, h2⟩
    unfold L2.start
    have hv : i < vs.length := (List.getElem?_eq_some_iff.mp h1).1
    rw [List.getElem?_append_left (by simpa using hv), List.getElem?_map, h1]
    rfl
  · rw [List.getElem?_append_right (by simpa using hi), List.getElem?_replicate] at e
    split at e <;> cases e
/-- THE RULE for a def -/
theorem fn_ok {x qual : Str} {st : Stmt} {f : Addr} {fd : FuncData} {N ps : List Str} {k : Nat} {d : SDen} (G : L2.Fun K x qual st f fd) (S : FnScope N ps (defScope st))
    (body : ∀ (cdv : Value) (A : Around) (outer : List Env) (s : Shared) (H : Hp) (E : XK), Room k (A.deeper (PyProof.Rows.envOfC qual (defScope st) s.heap.objs.size f cdv)) →
      Takes (cxOf (L2.CX P w) P w K mg base N qual (defScope st) f cdv A outer s H E) (fun c d _ H' => E c d H') →
      SsX (cxOf (L2.CX P w) P w K mg base N qual (defScope st) f cdv A outer s H E) (fun c d _ H' => E c d H') (defBody st) d) : FnOk P w K mg base (L2.CX P w) (k + 1) f fd ps (spF K ps.length (callD N.length ps.length d)) := by
  refine G.okX S (fun vs H Q E h => h.1) fun cdv A outer s H vs Q E hr h => ?_
  obtain ⟨hl, ω, St, qs, t, r, o⟩ := h
  refine ⟨_, body cdv A outer s H E hr (takes_of rfl rfl rfl rfl), ω, St, _, start_env N t r ps.length (by rw [r.length]; exact hl), ?_⟩
  unfold callD at o
  rw [if_pos (by rw [r.length]; exact hl)] at o
  revert o
  show OutP K E ω H (match d (qs.map some ++ List.replicate (N.length - ps.length) none) St with
    | .nx _ S' => .ok .non S'
    | .rt v S' => .ok v S'
    | .exc x _ S' => .exc x S'
    | _ => .stuck) _ → _
  cases d (qs.map some ++ List.replicate (N.length - ps.length) none) St with
  | nx ρ S' => exact fun o σ H' ω' s f => o H' ω' s f.1 .non rfl
  | rt v S' => exact fun o u H' ω' s t r => o H' ω' s t u r
  | exc x ρ S' => exact fun o cv σ d H' ω' c s f e => o cv d H' ω' c s f.1 e
  | bk ρ S' => exact fun o => o.elim
  | ct ρ S' => exact fun o => o.elim
  | stuck => exact fun o => o.elim
theorem callD_len {N n : Nat} {d : SDen} : ∀ qs S, callD N n d qs S ≠ .stuck → qs.length = n := fun qs S h => by
  unfold callD at h
  split at h
  · assumption
  · exact absurd rfl h
theorem fn_mk' {x qual : Str} {st : Stmt} {f : Addr} {fd : FuncData} {N ps : List Str} {k : Nat} {d : SDen} (G : L2.Fun K x qual st f fd) (S : FnScope N ps (defScope st)) (hm : mg x = some (.ref f)) (hb : Binds K fd ps [])
    (body : ∀ (cdv : Value) (A : Around) (outer : List Env) (s : Shared) (H : Hp) (E : XK), Room k (A.deeper (PyProof.Rows.envOfC qual (defScope st) s.heap.objs.size f cdv)) →
      Takes (cxOf (L2.CX P w) P w K mg base N qual (defScope st) f cdv A outer s H E) (fun c d _ H' => E c d H') →
      SsX (cxOf (L2.CX P w) P w K mg base N qual (defScope st) f cdv A outer s H E) (fun c d _ H' => E c d H') (defBody st) d) : Fn P w K mg base (k + 1) x ps.length [] (callD N.length ps.length d) :=
  ⟨⟨f, fd, ps, [], [], fn_ok G S body, hm, G.kp, hb, .nil, fun _ _ => rfl, callD_len⟩⟩
theorem fn_ok' {x qual : Str} {st : Stmt} {f : Addr} {fd : FuncData} {N ps : List Str} {k m n : Nat} {d : SDen} (G : L2.Fun K x qual st f fd) (S : FnScope N ps (defScope st)) (hm : N.length = m) (hn : ps.length = n)
    (body : ∀ (cdv : Value) (A : Around) (outer : List Env) (s : Shared) (H : Hp) (E : XK), Room k (A.deeper (PyProof.Rows.envOfC qual (defScope st) s.heap.objs.size f cdv)) →
      Takes (cxOf (L2.CX P w) P w K mg base N qual (defScope st) f cdv A outer s H E) (fun c d _ H' => E c d H') →
      SsX (cxOf (L2.CX P w) P w K mg base N qual (defScope st) f cdv A outer s H E) (fun c d _ H' => E c d H') (defBody st) d) : FnOk P w K mg base (L2.CX P w) (k + 1) f fd ps (spF K n (callD m n d)) := by
  subst hm hn
  exact fn_ok G S body
end
end Pv

namespace Pv
open PySem PySem.Spec L2
variable [HW]
theorem bt_len : bootBuiltins "len" = some (.builtin "len") := by first | exact PyProof.Rows.boot_len | exact PySem.boot_len | decide +kernel
theorem bt_abs : bootBuiltins "abs" = some (.builtin "abs") := by first | exact PyProof.Rows.boot_abs | exact PySem.boot_abs | decide +kernel
theorem bt_max : bootBuiltins "max" = some (.builtin "max") := by first | exact PyProof.Rows.boot_max | exact PySem.boot_max | decide +kernel
theorem bt_min : bootBuiltins "min" = some (.builtin "min") := by first | exact PyProof.Rows.boot_min | exact PySem.boot_min | decide +kernel
theorem bt_all : bootBuiltins "all" = some (.builtin "all") := by first | exact PyProof.Rows.boot_all | exact PySem.boot_all | decide +kernel
theorem bt_any : bootBuiltins "any" = some (.builtin "any") := by first | exact PyProof.Rows.boot_any | exact PySem.boot_any | decide +kernel
theorem bt_repr : bootBuiltins "repr" = some (.builtin "repr") := by first | exact PyProof.Rows.boot_repr | exact PySem.boot_repr | decide +kernel
theorem bt_isinstance : bootBuiltins "isinstance" = some (.builtin "isinstance") := by first | exact PyProof.Rows.boot_isinstance | exact PySem.boot_isinstance | decide +kernel
theorem bt_sorted : bootBuiltins "sorted" = some (.builtin "sorted") := by first | exact PyProof.Rows.boot_sorted | exact PySem.boot_sorted | decide +kernel
theorem bt_sum : bootBuiltins "sum" = some (.builtin "sum") := by first | exact PyProof.Rows.boot_sum | exact PySem.boot_sum | decide +kernel
theorem bt_iter : bootBuiltins "iter" = some (.builtin "iter") := by first | exact PyProof.Rows.boot_iter | exact PySem.boot_iter | decide +kernel
theorem bt_next : bootBuiltins "next" = some (.builtin "next") := by first | exact PyProof.Rows.boot_next | exact PySem.boot_next | decide +kernel
theorem bt_int : bootBuiltins "int" = some (.type "int") := by first | exact PyProof.Rows.boot_int | exact PySem.boot_int | decide +kernel
theorem bt_str : bootBuiltins "str" = some (.type "str") := by first | exact PyProof.Rows.boot_str | exact PySem.boot_str | decide +kernel
theorem bt_bool : bootBuiltins "bool" = some (.type "bool") := by first | exact PyProof.Rows.boot_bool | exact PySem.boot_bool | decide +kernel
theorem bt_list : bootBuiltins "list" = some (.type "list") := by first | exact PyProof.Rows.boot_list | exact PySem.boot_list | decide +kernel
theorem bt_tuple : bootBuiltins "tuple" = some (.type "tuple") := by first | exact PyProof.Rows.boot_tuple | exact PySem.boot_tuple | decide +kernel
theorem bt_dict : bootBuiltins "dict" = some (.type "dict") := by first | exact PyProof.Rows.boot_dict | exact PySem.boot_dict | decide +kernel
theorem bt_set : bootBuiltins "set" = some (.type "set") := by first | exact PyProof.Rows.boot_set | exact PySem.boot_set | decide +kernel
theorem bt_range : bootBuiltins "range" = some (.type "range") := by first | exact PyProof.Rows.boot_range | exact PySem.boot_range | decide +kernel
theorem bt_zip : bootBuiltins "zip" = some (.type "zip") := by first | exact PyProof.Rows.boot_zip | exact PySem.boot_zip | decide +kernel
theorem bt_enumerate : bootBuiltins "enumerate" = some (.type "enumerate") := by first | exact PyProof.Rows.boot_enumerate | exact PySem.boot_enumerate | decide +kernel
section
variable {X : Cx} {W : WX} {a e : Expr} {da de : Den} {pos : Pos}
/-! ### more expressions -/
@[simp] def dNeg (d : Den) : Den := fun ρ S => (d ρ S).then fun x S1 => match x with
  | .int i => .ok (.int (-i)) S1
  | _ => .stuck
theorem ex_neg (ha : EX X W a da) : EX X W (.UnaryOp .USub a pos) (dNeg da) := (pe_un un_neg ha).imp fun σ H Q ⟨ω, S, ρ, f, o⟩ => ⟨ω, S, ρ, f, (OutP.bind o).imp fun x S1 H1 ω1 s1 t1 o1 v rv => by
  cases x with
  | int i => exact ⟨i, rv, o1 H1 ω1 .refl t1 _ rfl⟩
  | _ => exact o1.elim⟩
theorem ef_dict0 : EF X W (.Dict [] [] pos) (dK (.dct [])) := pe_dnewK.imp fun σ H Q ⟨ω, S, ρ, f, o⟩ p hp => o _ ω (new_stp hp) (open_str (new_str f.1 hp)) p _ upd_same hp (f.1.out hp).1 (new_str f.1 hp) (.inl ⟨[], rfl, rfl⟩)
theorem ef_dictT0 : EF X W (.Dict [] [] pos) (dK (.dct [])) := pe_dnewT.imp fun σ H Q ⟨ω, S, ρ, f, o⟩ p hp => o _ ω (new_stp hp) (open_str (new_str f.1 hp)) p _ upd_same hp (f.1.out hp).1 (new_str f.1 hp) (.inr ⟨[], rfl, rfl⟩)
end
/-! ### the law's end -/
theorem walk_law {l : PySem.W.OpenLaw} {q : Program} {loose : List Str} {XP : (Str → Option Value) → Heap → Prop} {YP : World → Heap → Prop} {d : DefRec} {K : Params → PySem.W.Frag} {k : Nat} {F : FDen} (hn : l.most = some 63) (hdf : d.params.defaults = []) (hr : Room k callerA)
    (hY : ∀ (w : World) (h : Heap), YP w h → (K w.params).In h) (hF : ∀ ns : List Int, ns.length ≤ 63 → ∃ S, F [.scr ns] [] = .ok (.bl true) S)
    (G : ∀ (w : World) (mg : Str → Option Value) (fa : Addr) (h : Heap), (K w.params).In h → h.Ns mainGlobals mg → mg d.name = some (.ref fa) →
      ∃ fd : FuncData, (∀ (s : Shared) (u : Value), BindsTo s fd ⟨[u], []⟩ [("script", u)]) ∧ ∀ base : Heap, (K w.params).In base → base.Ns mainGlobals mg → FnOk l.prog w (K w.params) mg base (L2.CX l.prog w) k fa fd ["script"] (spF (K w.params) 1 F)) :
    PySem.W.WalkO q loose XP YP l.row.toRowW d [] (fun f vs => PySem.call f vs) :=
  L2.walk_of (n := 63) (k := k) (x := "script") (CX := fun w => L2.CX l.prog w) (sp := fun w => spF (K w.params) 1 F) hn (by decide) hdf hr hY G
    (fun w H a ns hl ho hS => ⟨rfl, ⟨[], []⟩, [], [.scr ns], ⟨rfl, List.nodup_nil, (fun _ z => nomatch z), (fun _ z => nomatch z), (fun n c a e => by simp at e)⟩,
      ⟨_, _, rfl, ⟨a, rfl, hS.imp (fun z => ⟨z, (fun z => nomatch z), (fun z => nomatch z)⟩) _root_.id⟩, rfl⟩, by
        obtain ⟨S, e⟩ := hF ns hl
        rw [e]
        exact fun H' ω' s t v r => r⟩) fun w H s e s' ⟨_, _, _, _, _, _, _, _, _, _, _, _, z⟩ => z
end Pv
namespace Pv
open PySem PySem.Spec L2
variable [HW]
section
variable {X : Cx} {W : WX} {tg e : Expr} {te : TE} {de : Den} {pos : Pos} {x : Str}
/-- over a list, a tuple, a text, as it comes -/
def iAny (K : PySem.W.Frag) (tl : TE) : TI := fun σ H R => tl σ H fun x H1 => (∃ a xs, x = .ref a ∧ SqL K H1 a xs ∧ R (Itl K a) H1) ∨ (∃ a xs, x = .ref a ∧ SqT K H1 a xs ∧ R (Itt K a) H1) ∨ ∃ z, x = .str z ∧ R (Its z) H1
theorem pi_any {tl : TE} (hl : PE X e tl) : PI X tg e (iAny X.K tl) := by
  refine ⟨fun pins s σ H R I h => ?_⟩
  refine thn (hl.run pins s σ H _ I h) fun v s1 ⟨x, H1, I1, r1, q1⟩ => ?_
  rcases q1 with ⟨a, xs, e, hq, q⟩ | ⟨a, xs, e, hq, q⟩ | ⟨z, e, q⟩
  · subst e
    cases r1
    obtain ⟨its, rv, p, hz⟩ := I1.list hq
    refine wpAny_pyIter_list p.isList ?_
    refine ⟨s1.heap.objs.size, [s1.heap.objs.size], _, _, H1, rfl, I1.kept (t' := s1.toks) fun b o e => Heap.get?_push_of_some _ e, turn_list a _, ⟨_, Heap.get?_push_size _ rfl, rfl, rfl⟩, fun b hb => ?_, q⟩
    have e : b = s1.heap.objs.size := by simpa using hb
    subst e
    exact I1.fpOk (Nat.le_refl _) (I1.hok.fresh (Nat.le_refl _))
  · subst e
    cases r1
    obtain ⟨its, rv, p, hz⟩ := I1.tuple hq
    refine wpAny_pyIter_tuple (show s1.heap.IsTuple a its.toArray from p) ?_
    refine ⟨s1.heap.objs.size, [s1.heap.objs.size], _, _, H1, rfl, I1.kept (t' := s1.toks) fun b o e => Heap.get?_push_of_some _ e, turn_tuple a _, ⟨_, Heap.get?_push_size _ rfl, rfl, rfl⟩, fun b hb => ?_, q⟩
    have e : b = s1.heap.objs.size := by simpa using hb
    subst e
    exact I1.fpOk (Nat.le_refl _) (I1.hok.fresh (Nat.le_refl _))
  · subst e
    obtain ⟨t, rfl⟩ := r1
    cases ha : z.cps.all (· < 128)
    · exact wpAny_pyIter_wide ha (pi_one (tk := s1.toks) I1 _ (turn_str _ z t "str_iterator" (.inr rfl)) ⟨_, Heap.get?_push_size _ rfl, rfl, rfl⟩ q)
    · exact wpAny_pyIter_ascii ha (pi_one (tk := s1.toks) I1 _ (turn_str _ z t "str_ascii_iterator" (.inl rfl)) ⟨_, Heap.get?_push_size _ rfl, rfl, rfl⟩ q)
@[simp] def iA (d : Den) : DenA := fun ρ S => (d ρ S).then fun x S1 => match x with
  | .lst xs => .ok xs S1
  | .tup xs => .ok xs S1
  | .str z => .ok (z.cps.toList.map fun c => .str ⟨#[c]⟩) S1
  | _ => .stuck
theorem ix_a (he : EX X W e de) : IX X W tg e (iA de) := (pi_any he).imp fun σ H R ⟨ω, S, ρ, f, o⟩ => ⟨ω, S, ρ, f, (OutP.bind o).imp fun x S1 H1 ω1 s1 t1 o1 v rv => by
  split at o1
  · obtain ⟨a, vs, rfl, h, f', r⟩ := rv
    exact .inl ⟨a, vs, rfl, .of h, o1 H1 ω1 .refl t1 _ (walks_list h f' r)⟩
  · obtain ⟨a, vs, rfl, h, r⟩ := rv
    exact .inr (.inl ⟨a, vs, rfl, .of h, o1 H1 ω1 .refl t1 _ (walks_tup h r)⟩)
  · rename_i z
    exact .inr (.inr ⟨z, rv, o1 H1 ω1 .refl t1 _ walks_str⟩)
  · exact o1.elim⟩
theorem ex_globI {i : Int} (hg : Gl X x) (h : ∃ t, X.mg x = some (.int i t)) (hd : (x == ("__debug__" : Str)) = false := by decide) : EX X W (.Name x pos) (dK (.int i)) := by
  obtain ⟨t, h⟩ := h
  exact ex_glob (w := .int i) hg h ⟨t, rfl⟩ (fun _ _ => rfl) hd
theorem ex_globS {z : Str} (hg : Gl X x) (h : ∃ t, X.mg x = some (.str z t)) (hd : (x == ("__debug__" : Str)) = false := by decide) : EX X W (.Name x pos) (dK (.str z)) := by
  obtain ⟨t, h⟩ := h
  exact ex_glob (w := .str z) hg h ⟨t, rfl⟩ (fun _ _ => rfl) hd
theorem hu65 {A : Around} {k : Nat} (hr : Room k A) : A.units + 65 < cLine := by have := hr.un; omega
end
end Pv

namespace Pv
open PySem PySem.Spec L2
variable [HW]
/-! ### loops and comprehensions, told -/
theorem forD_inv {b : Bd} {body : SDen} (P : Nat → PEnv → Store → Prop) : ∀ (xs : List PV) (i : Nat) (ρ : PEnv) (S : Store), P i ρ S →
    (∀ (j : Nat) (x : PV) (ρ : PEnv) (S : Store), xs[j]? = some x → P (i + j) ρ S → ∃ ρ1, b x ρ = some ρ1 ∧ ∃ ρ2 S2, (body ρ1 S = .nx ρ2 S2 ∨ body ρ1 S = .ct ρ2 S2) ∧ P (i + j + 1) ρ2 S2) →
    ∃ ρ' S', forD b body xs ρ S = .nx ρ' S' ∧ P (i + xs.length) ρ' S'
  | [], i, ρ, S, h, _ => ⟨ρ, S, rfl, h⟩
  | x :: xs, i, ρ, S, h, hs => by
    obtain ⟨ρ1, hb, ρ2, S2, e, p⟩ := hs 0 x ρ S rfl h
    obtain ⟨ρ', S', e', p'⟩ := forD_inv P xs (i + 1) ρ2 S2 p fun j y ρ S hy q => by
      have := hs (j + 1) y ρ S (by simpa using hy) (by rw [show i + (j + 1) = i + 1 + j by omega]; exact q)
      rw [show i + (j + 1) + 1 = i + 1 + j + 1 by omega] at this
      exact this
    refine ⟨ρ', S', ?_, by rw [show i + (x :: xs).length = i + 1 + xs.length by simp; omega]; exact p'⟩
    rcases e with e | e <;> simp [forD, hb, e, e']
theorem compD_inv {b : Bd} {test : DenT} {elt : Den} {ρ : PEnv} (P : Nat → List PV → Store → Prop) : ∀ (xs : List PV) (i n : Nat) (acc : List PV) (S : Store), P i acc S → acc.length = n → n + xs.length ≤ sizeLine →
    (∀ (j : Nat) (x : PV) (acc : List PV) (S : Store), xs[j]? = some x → P (i + j) acc S → ∃ ρ1, b x ρ = some ρ1 ∧ ∃ k S1, test ρ1 S = .ok k S1 ∧ if k = true then ∃ y S2, elt ρ1 S1 = .ok y S2 ∧ P (i + j + 1) (acc ++ [y]) S2 else P (i + j + 1) acc S1) →
    ∃ ys S', compD b test elt ρ xs n S = .ok ys S' ∧ P (i + xs.length) (acc ++ ys) S'
  | [], i, n, acc, S, h, _, _, _ => ⟨[], S, rfl, by simpa using h⟩
  | x :: xs, i, n, acc, S, h, hl, hz, hs => by
    obtain ⟨ρ1, hb, k, S1, e, q⟩ := hs 0 x acc S rfl h
    have step : ∀ (j : Nat) (y : PV) (acc : List PV) (S : Store), xs[j]? = some y → P (i + 1 + j) acc S → ∃ ρ1, b y ρ = some ρ1 ∧ ∃ k S1, test ρ1 S = .ok k S1 ∧ if k = true then ∃ z S2, elt ρ1 S1 = .ok z S2 ∧ P (i + 1 + j + 1) (acc ++ [z]) S2 else P (i + 1 + j + 1) acc S1 := fun j y acc S hy q => by
      have := hs (j + 1) y acc S (by simpa using hy) (by rw [show i + (j + 1) = i + 1 + j by omega]; exact q)
      rw [show i + (j + 1) + 1 = i + 1 + j + 1 by omega] at this
      exact this
    have el : i + (x :: xs).length = i + 1 + xs.length := by simp; omega
    simp at hz
    cases k with
    | false =>
      obtain ⟨ys, S', e', p'⟩ := compD_inv P xs (i + 1) n acc S1 (by simpa using q) hl (by omega) step
      exact ⟨ys, S', by simp [compD, hb, e, e'], by rw [el]; exact p'⟩
    | true =>
      simp at q
      obtain ⟨y, S2, e2, p2⟩ := q
      obtain ⟨ys, S', e', p'⟩ := compD_inv P xs (i + 1) (n + 1) (acc ++ [y]) S2 p2 (by simp [hl]) (by omega) step
      have hn : n < sizeLine := by omega
      exact ⟨y :: ys, S', by simp [compD, hb, e, e2, hn, e'], by rw [el]; simpa using p'⟩
/-- one that changes nothing -/
theorem compD_map {b : Bd} {test : DenT} {elt : Den} {ρ : PEnv} {S : Store} (p : PV → Bool) (f : PV → PV) : ∀ (xs : List PV) (n : Nat), n + xs.length ≤ sizeLine →
    (∀ x ∈ xs, ∃ ρ1, b x ρ = some ρ1 ∧ test ρ1 S = .ok (p x) S ∧ (p x = true → elt ρ1 S = .ok (f x) S)) → compD b test elt ρ xs n S = .ok ((xs.filter p).map f) S
  | [], _, _, _ => rfl
  | x :: xs, n, hz, hs => by
    obtain ⟨ρ1, hb, e, q⟩ := hs x List.mem_cons_self
    simp at hz
    cases hp : p x with
    | false =>
      have ih := compD_map p f xs n (by omega) fun y hy => hs y (List.mem_cons_of_mem _ hy)
      simp [compD, hb, e, hp, ih]
    | true =>
      have ih := compD_map p f xs (n + 1) (by omega) fun y hy => hs y (List.mem_cons_of_mem _ hy)
      have hn : n < sizeLine := by omega
      simp [compD, hb, e, hp, q hp, hn, ih]
theorem nums_length (lo : Int) (n : Nat) : (nums lo n).length = n := by simp [nums]
theorem nums_get {lo : Int} {n i : Nat} {x : PV} (h : (nums lo n)[i]? = some x) : x = .int (lo + (i : Nat)) ∧ i < n := by
  have hi : i < n := by simpa [nums] using (List.getElem?_eq_some_iff.mp h).1
  simp [nums, hi] at h
  exact ⟨h.symm, hi⟩
theorem atI_of {α : Type} {xs : List α} {k : Int} (h0 : 0 ≤ k) (h : k < xs.length) : ∃ x, L2.atI xs k = some x ∧ x ∈ xs ∧ xs[k.toNat]? = some x := by
  have hk : k.toNat < xs.length := by omega
  refine ⟨xs[k.toNat], ?_, List.getElem_mem hk, List.getElem?_eq_getElem hk⟩
  simp [L2.atI, ixN, h0, h, hk]
theorem seqIndex_of {n : Nat} {k : Int} (h0 : 0 ≤ k) (h : k < n) : seqIndex? k n = some k.toNat := (L2.ixN_seq (by simp [ixN, h0, h])).1
@[simp] theorem sz_le {n : Nat} (h : n ≤ 1048576) : (n ≤ sizeLine) = True := by
  have : (1048576 : Nat) ≤ sizeLine := by rw [sizeLine_eq]; decide
  simp; omega
@[simp] theorem sz_lt {n : Nat} (h : n < 1048576) : (n < sizeLine) = True := by
  have : (1048576 : Nat) ≤ sizeLine := by rw [sizeLine_eq]; decide
  simp; omega
@[simp] theorem dEq_pv (S : Store) (x y : PV) : dEq S x y = pvEq 60 (look S x) (look S y) := rfl
@[simp] theorem pvEq_lst (n : Nat) (xs ys : List PV) : pvEq (n + 1) (.lst xs) (.lst ys) = if xs.length = ys.length then allEq (pvEq n) xs ys else some false := rfl
@[simp] theorem pvEq_tup (n : Nat) (xs ys : List PV) : pvEq (n + 1) (.tup xs) (.tup ys) = (allEq (pvEq n) xs ys).map (· && xs.length == ys.length) := rfl
@[simp] theorem pvEq_str (n : Nat) (x y : Str) : pvEq n (.str x) (.str y) = some (x == y) := by cases n <;> rfl
@[simp] theorem pvEq_int (n : Nat) (x y : Int) : pvEq n (.int x) (.int y) = some (x == y) := by cases n <;> rfl
@[simp] theorem pvEq_bl (n : Nat) (x y : Bool) : pvEq n (.bl x) (.bl y) = some (x == y) := by cases n <;> rfl
@[simp] theorem pvEq_non (n : Nat) : pvEq n .non .non = some true := by cases n <;> rfl
@[simp] theorem pvEq_bi (n : Nat) (a : Bool) (j : Int) : pvEq n (.bl a) (.int j) = some ((if a then 1 else 0) == j) := by cases n <;> rfl
@[simp] theorem pvEq_ib (n : Nat) (a : Bool) (j : Int) : pvEq n (.int j) (.bl a) = some (j == (if a then 1 else 0)) := by cases n <;> rfl
@[simp] theorem allEq_cons (f : PV → PV → Option Bool) (x y : PV) (xs ys : List PV) : allEq f (x :: xs) (y :: ys) = (match f x y, allEq f xs ys with | some a, some b => some (a && b) | _, _ => none) := rfl
@[simp] theorem allEq_nil (f : PV → PV → Option Bool) : allEq f [] [] = some true := rfl
end Pv

/-! defs that tell values as texts: no text of a value is being made around them -/
namespace Pv
open PySem PySem.Spec L2 PyProof.Rows
variable [HW]
/-- a def's promise where nothing around is telling a value -/
structure FnG (P : Program) (w : World) (K : PySem.W.Frag) (mg : Str → Option Value) (base : Heap) (k : Nat) (f : Addr) (fd : FuncData) (ps : List Str) (sp : Sp) : Prop where
  arity : ∀ vs H Q E, sp vs H Q E → vs.length = ps.length
  runs : ∀ (A : Around) (out : List Env) (s : Shared) (H : Hp) (args : Args) (us : List Value) (vs : List V) (Q : VK) (E : XK), A.guards = some [] → Room k A → Env0 P w K mg base A out s H →
    BindsTo s fd args (ps.zip us) → Vals vs us → sp vs H Q E → codeAny (model P w) A (.call (.ref f) args) (CR (L2.CX P w) out P w H s Q E) s
section
variable {P : Program} {w : World} {K : PySem.W.Frag} {mg : Str → Option Value} {base : Heap} {k : Nat} {f : Addr} {fd : FuncData} {ps : List Str} {sp : Sp}
theorem FnG.of_ok (F : FnOk P w K mg base (L2.CX P w) k f fd ps sp) : FnG P w K mg base k f fd ps sp := ⟨F.len, fun A out s H args us vs Q E _ => F.run A out s H args us vs Q E⟩
theorem fnG_of {N : List Str} {x qual : Str} {st : Stmt} (G : L2.Fun K x qual st f fd) (sc : FnScope N ps (defScope st)) (ar : ∀ vs H Q E, sp vs H Q E → vs.length = ps.length)
    (body : ∀ (cdv : Value) (A : Around) (out : List Env) (s : Shared) (H : Hp) (vs : List V) (Q : VK) (E : XK), A.guards = some [] → Room k (A.deeper (envOfC qual (defScope st) s.heap.objs.size f cdv)) → sp vs H Q E →
      ∃ t, PSs (cxOf (L2.CX P w) P w K mg base N qual (defScope st) f cdv A out s H E) (defBody st) t ∧ t { nx := fun _ H' => Q .non H', rt := Q } (start N vs) H) : FnG P w K mg base (k + 1) f fd ps sp := by
  obtain ⟨oc, od, kV, doc, pm, an, cdv, ct, osl, rfl, found, code⟩ := G.ex
  refine ⟨ar, fun A out s H args us vs Q E gd room e0 bound rel want => ?_⟩
  have inK : K.In s.heap := e0.mod.kin.keeps fun b o z => (e0.bs b o z).1
  have noL : s.heap.NoLimit := e0.mod.nolimit.keeps fun b o z => (e0.bs b o z).1
  have place : ∀ y ∈ ps.zip us, (defScope st).names.lookup y.1 = some .local ∨ ((defScope st).names.lookup y.1 = some .cell ∧ ((cellsFrom (s.heap.objs.size + 1) (defScope st).names []).lookup y.1).isSome = true) := by
    rintro ⟨n, v⟩ mem
    have := sc.par n (List.of_mem_zip mem).1
    exact this.imp id fun z => ⟨z, PySem.W.cellsFrom_some _ _ _ (.inl z)⟩
  apply codeAny_call_function room.depth (inK _ _ found) rfl sc.co sc.gen rfl (PySem.W.codeRec_of inK code) (bound _ _ _ _ ?_)
  apply wpAny_newFunctionEnv_cells sc.kind place
  intro env ev s1 entry
  subst ev
  constructor
  · exact noL.keeps entry.toInCall.keep
  apply codeAny_func
  obtain ⟨t, run, goal⟩ := body cdv A out s H vs Q E gd (room.deeper _) want
  have inv := inv_start (CX := L2.CX P w) (mg := mg) (base := base) (E := E) (f := f) (cd := cdv) (qual := qual) sc room.hd e0 (ar _ _ _ _ want) rel entry
  apply wpAny_mono (run.run [] s1 (start N vs) H _ inv goal) _ (fun _ _ z => z)
  intro fl s2 res
  match fl, res with
  | .ret u, ⟨v, σ2, H2, J, rv, q⟩ => exact ⟨v, H2, J.os, J.bare, J.base, J.hok, rv, q⟩
  | .next, ⟨σ2, H2, J, q⟩ => exact ⟨V.non, H2, J.os, J.bare, J.base, J.hok, rfl, q⟩
  | .brk, ⟨_, _, _, q⟩ => exact q.elim
  | .cont, ⟨_, _, _, q⟩ => exact q.elim
end
section
variable {X : Cx} {k : Nat} {f : Addr} {fd : FuncData} {ps : List Str} {sp : Sp} {E : L2.St → XK} {t : TA} {x : Str} {p pos : Pos} {e : Expr} {es : List Expr}
theorem pe_callG (F : FnG X.prog X.w X.K X.mg X.base k f fd ps sp) (gd : X.A.guards = some []) (room : Room k X.A) (gl : Gl X x) (glob : X.mg x = some (.ref f)) (keep : PySem.W.keepIn X.K (.ref f) = true) (bs : Binds X.K fd ps [])
    (pass : ∀ σ, PassesAt (L2.CX X.prog X.w) X σ (E σ)) (args : PA X (e :: es) t) (nodbg : (x == ("__debug__" : Str)) = false) (h1 : starEach (e :: es) X.env = (false, eval e X.env) :: starEach es X.env) (h2 : (backTo pos (starEach es X.env)).any (·.1) = false) :
    PE X (.Call (.Name x p) (e :: es) [] pos) (fun σ H Q => t σ H fun vs H1 => sp vs H1 Q (E σ)) := by
  constructor
  intro pins s σ H Q inv h
  apply wpAny_Call_Name_kw
  apply ld_glob inv gl glob _ nodbg
  refine PySem.W.callWith_K (h₀ := X.base) inv.ok.mod.kin keep (thn (args.run pos pins s σ H _ inv h) fun us s1 ⟨vs, H1, inv1, rel, goal⟩ => ⟨inv1.kIn, ?_⟩) h1 h2
  have ar : (us ++ []).length = ps.length := by rw [List.append_nil, ← rel.length]; exact F.arity _ _ _ _ goal
  have bd := bs s1 us inv1.kIn ar
  rw [List.append_nil] at bd
  apply wpAny_call
  apply codeAny_mono (F.runs X.A X.stack s1 H1 ⟨us, []⟩ us vs Q (E σ) gd room inv1.env0 bd rel goal)
  intro r s2 q
  match r, q with
  | .error u, q => exact pass σ pins H1 s1 u s2 inv1 q
  | .ok (.ret u), q => exact inv1.after q
end
/-- a def of the text, over values, where nothing around is telling a value -/
structure FnT (P : Program) (w : World) (K : PySem.W.Frag) (mg : Str → Option Value) (base : Heap) (k : Nat) (x : Str) (n : Nat) (F : FDen) : Prop where
  ex : ∃ (f : Addr) (fd : FuncData) (ps : List Str), FnG P w K mg base k f fd ps (spF K n F) ∧ mg x = some (.ref f) ∧ PySem.W.keepIn K (.ref f) = true ∧ Binds K fd ps [] ∧ ∀ qs S, F qs S ≠ .stuck → qs.length = n
section
variable {X : Cx} {W : WX} {e : Expr} {es : List Expr} {das : DenA} {pos p : Pos} {x : Str} {k n : Nat} {F : FDen}
theorem ex_callT (G : FnT X.prog X.w X.K X.mg X.base k x n F) (gd : X.A.guards = some []) (hr : Room k X.A) (tk : Takes X W) (hg : Gl X x) (ha : AX X W (e :: es) das) (hdb : (x == ("__debug__" : Str)) = false := by decide)
    (he : starEach (e :: es) X.env = (false, eval e X.env) :: starEach es X.env := by rfl) (hpl : (backTo pos (starEach es X.env)).any (·.1) = false := by rfl) : EX X W (.Call (.Name x p) (e :: es) [] pos) (dFn F [] das) := by
  obtain ⟨f, fd, ps, G, hm, hk, hb, hl⟩ := G.ex
  refine (pe_callG (E := fun σ c d H' => W c d σ H') G gd hr hg hm hk hb (passAt' tk) ha hdb he hpl).imp fun σ H Q ⟨ω, S, ρ, f, o⟩ => ⟨ω, S, ρ, f, (OutP.bind o).imp fun xs S1 H1 ω1 s1 t1 o1 vs rvs => ?_⟩
  rw [List.append_nil] at o1
  exact ⟨by rw [← rvs.length]; exact hl _ _ o1.ns, ω1, S1, _, t1, rvs, o1⟩
end
section
variable {P : Program} {w : World} {K : PySem.W.Frag} {mg : Str → Option Value} {base : Heap}
theorem fn_okT {x qual : Str} {st : Stmt} {f : Addr} {fd : FuncData} {N ps : List Str} {k m n : Nat} {d : SDen} (G : L2.Fun K x qual st f fd) (S : FnScope N ps (defScope st)) (hm : N.length = m) (hn : ps.length = n)
    (body : ∀ (cdv : Value) (A : Around) (outer : List Env) (s : Shared) (H : Hp) (E : XK), A.guards = some [] → Room k (A.deeper (PyProof.Rows.envOfC qual (defScope st) s.heap.objs.size f cdv)) →
      Takes (cxOf (L2.CX P w) P w K mg base N qual (defScope st) f cdv A outer s H E) (fun c d _ H' => E c d H') →
      SsX (cxOf (L2.CX P w) P w K mg base N qual (defScope st) f cdv A outer s H E) (fun c d _ H' => E c d H') (defBody st) d) : FnG P w K mg base (k + 1) f fd ps (spF K n (callD m n d)) := by
  subst hm hn
  refine fnG_of G S (fun vs H Q E h => h.1) fun cdv A outer s H vs Q E gd hr h => ?_
  obtain ⟨hl, ω, St, qs, t, r, o⟩ := h
  refine ⟨_, body cdv A outer s H E gd hr (takes_of rfl rfl rfl rfl), ω, St, _, start_env N t r ps.length (by rw [r.length]; exact hl), ?_⟩
  unfold callD at o
  rw [if_pos (by rw [r.length]; exact hl)] at o
  revert o
  show OutP K E ω H (match d (qs.map some ++ List.replicate (N.length - ps.length) none) St with
    | .nx _ S' => .ok .non S'
    | .rt v S' => .ok v S'
    | .exc x _ S' => .exc x S'
    | _ => .stuck) _ → _
  cases d (qs.map some ++ List.replicate (N.length - ps.length) none) St with
  | nx ρ S' => exact fun o σ H' ω' s f => o H' ω' s f.1 .non rfl
  | rt v S' => exact fun o u H' ω' s t r => o H' ω' s t u r
  | exc x ρ S' => exact fun o cv σ d H' ω' c s f e => o cv d H' ω' c s f.1 e
  | bk ρ S' => exact fun o => o.elim
  | ct ρ S' => exact fun o => o.elim
  | stuck => exact fun o => o.elim
theorem fn_mkT {x qual : Str} {st : Stmt} {f : Addr} {fd : FuncData} {N ps : List Str} {k : Nat} {d : SDen} (G : L2.Fun K x qual st f fd) (S : FnScope N ps (defScope st)) (hm : mg x = some (.ref f)) (hb : Binds K fd ps [])
    (body : ∀ (cdv : Value) (A : Around) (outer : List Env) (s : Shared) (H : Hp) (E : XK), A.guards = some [] → Room k (A.deeper (PyProof.Rows.envOfC qual (defScope st) s.heap.objs.size f cdv)) →
      Takes (cxOf (L2.CX P w) P w K mg base N qual (defScope st) f cdv A outer s H E) (fun c d _ H' => E c d H') →
      SsX (cxOf (L2.CX P w) P w K mg base N qual (defScope st) f cdv A outer s H E) (fun c d _ H' => E c d H') (defBody st) d) : FnT P w K mg base (k + 1) x ps.length (callD N.length ps.length d) :=
  ⟨⟨f, fd, ps, fn_okT G S rfl rfl body, hm, G.kp, hb, callD_len⟩⟩
end
/-! ### the top -/
section
variable {P : Program} {w : World} {K : PySem.W.Frag} {mg mb : Str → Option Value} {k : Nat} {fa a : Addr} {fd : FuncData} {x : Str} {sp : Sp} {s₁ : Shared} {vs : List Value} {ns : List Int}
/-- only the script's object may be known ahead of the call -/
theorem top_run {H : Hp} (inK : K.In s₁.heap) (g : s₁.heap.Ns mainGlobals mg) (gb : s₁.heap.Ns builtinsNs mb) (boot : ∀ x : Str, x ≠ "__name__" → mb x = bootBuiltins x) (noL : s₁.heap.NoLimit) (noG : s₁.gens = #[])
    (obj : s₁.heap.get? a = some { cls := .type "list", data := .seq vs.toArray }) (room : Room k callerA) (F : ∀ base : Heap, K.In base → base.Ns mainGlobals mg → FnG P w K mg base k fa fd [x] sp)
    (bind : ∀ (s : Shared) (u : Value), BindsTo s fd ⟨[u], []⟩ [(x, u)]) (good : sp [.ref a] H (fun v _ => v = .bl true) fun _ _ _ => False) (hok : HOk P w H s₁.heap) (only : ∀ b, H b ≠ none → b = a ∧ K.lookup a = none ∧ ∃ o xs, H b = some (.frz o (.lst xs))) :
    codeAny (model P w) callerA (.call (.ref fa) ⟨[.ref a], []⟩) (fun r s' => r = .ok (.ret (.bool true)) ∧ OldK s₁.heap s'.heap ∧ s'.os = s₁.os ∧ AllBare s'.gens) s₁ := by
  -- names are no lists
  have names : ∀ {b : Addr} {m : Str → Option Value}, s₁.heap.Ns b m → (hidT s₁.heap H).Ns b m := by
    rintro b m ⟨o, es, ep, at_, isD, rest⟩
    refine ⟨o, es, ep, hidT_get at_ ?_, isD, rest⟩
    by_cases q : H b = none
    · exact q
    · obtain ⟨rfl, _⟩ := only b q
      rw [obj] at at_
      cases at_
      cases isD
  have inB : K.In (hidT s₁.heap H) := by
    intro b o at_
    refine hidT_get (inK b o at_) ?_
    by_cases q : H b = none
    · exact q
    · obtain ⟨rfl, z, _⟩ := only b q
      rw [z] at at_
      cases at_
  have mod : Mod K mg (hidT s₁.heap H) := ⟨inB, names g, ⟨mb, names gb, boot⟩, by obtain ⟨mc, z1, z2⟩ := noL; exact ⟨mc, names z1, z2⟩⟩
  have e0 : Env0 P w K mg (hidT s₁.heap H) callerA [] s₁ H :=
    { frames := rfl, mod := mod, bs := fun b o z => of_hidT z, bsz := Nat.le_of_eq (hidT_size _ _), funs := trivial, frf := fun b z => absurd z List.not_mem_nil, hok := hok, bare := .of_eq noG }
  apply codeAny_mono ((F _ inB (names g)).runs callerA [] s₁ H ⟨[.ref a], []⟩ [.ref a] [.ref a] _ _ rfl room e0 (bind s₁ (.ref a)) (.cons rfl .nil) good)
  intro r s2 q
  match r, q with
  | .error u, ⟨_, _, _, _, _, _, _, _, _, _, _, _, z⟩ => exact z.elim
  | .ok (.ret u), ⟨v, H2, os, bare, un, hok2, rel, z⟩ =>
    obtain rfl : v = .bl true := z
    cases rel
    refine ⟨rfl, OldK.of_keep fun b o at_ => ?_, os, bare⟩
    by_cases q : H b = none
    · exact un.keep b o at_ q List.not_mem_nil List.not_mem_nil
    · obtain ⟨_, _, ob, xs, fz⟩ := only b q
      have old := (hok b _ fz).1
      rw [at_] at old
      cases old
      exact (hok2 b _ (un.frzs b _ _ fz)).1
theorem law_callT (inK : K.In s₁.heap) (g : s₁.heap.Ns mainGlobals mg) (gb : s₁.heap.Ns builtinsNs mb) (boot : ∀ x : Str, x ≠ "__name__" → mb x = bootBuiltins x) (noL : s₁.heap.NoLimit) (noG : s₁.gens = #[])
    (obj : s₁.heap.get? a = some { cls := .type "list", data := .seq vs.toArray }) (iz : IntsAre vs ns) (len : ns.length ≤ sizeLine) (room : Room k callerA) (F : ∀ base : Heap, K.In base → base.Ns mainGlobals mg → FnG P w K mg base k fa fd [x] sp)
    (bind : ∀ (s : Shared) (u : Value), BindsTo s fd ⟨[u], []⟩ [(x, u)]) (good : ∀ H : Hp, Only H → SqL K H a (ns.map V.int) → sp [.ref a] H (fun v _ => v = .bl true) fun _ _ _ => False) :
    codeAny (model P w) callerA (.call (.ref fa) ⟨[.ref a], []⟩) (fun r s' => r = .ok (.ret (.bool true)) ∧ OldK s₁.heap s'.heap ∧ s'.os = s₁.os ∧ AllBare s'.gens) s₁ := by
  have rel := vals_ints iz
  cases known : K.lookup a with
  | some o =>
    have z := inK a o known
    rw [obj] at z
    cases z
    refine top_run (H := fun _ => none) inK g gb boot noL noG obj room F bind (good _ (fun _ => .inl rfl) (.inr ⟨_, vs.toArray, _, known, rfl, rfl, rfl, ?_, by simpa using rel⟩)) (fun b u (q : none = some u) => nomatch q) fun b q => absurd rfl q
    rw [List.size_toArray, iz.length]
    exact len
  | none =>
    let one : Hp := fun b => if b = a then some (.frz { cls := .type "list", data := .seq vs.toArray } (.lst (ns.map V.int))) else none
    have at_a : one a = some (.frz { cls := .type "list", data := .seq vs.toArray } (.lst (ns.map V.int))) := if_pos rfl
    have off : ∀ b, b ≠ a → one b = none := fun b q => if_neg q
    refine top_run (H := one) inK g gb boot noL noG obj room F bind (good _ (fun b => ?_) (.inl (.inr ⟨_, at_a⟩))) (fun b u q => ?_) fun b q => ?_
    · by_cases hb : b = a
      · exact .inr ⟨_, _, hb ▸ at_a⟩
      · exact .inl (off b hb)
    · by_cases hb : b = a
      · subst hb
        cases at_a.symm.trans q
        exact ⟨obj, by rw [List.length_map]; exact len, vs, _, rel, obj⟩
      · cases (off b hb).symm.trans q
    · by_cases hb : b = a
      · exact ⟨hb, known, _, _, hb ▸ at_a⟩
      · exact absurd (off b hb) q
end
theorem walk_lawT {l : PySem.W.OpenLaw} {q : Program} {loose : List Str} {XP : (Str → Option Value) → Heap → Prop} {YP : World → Heap → Prop} {d : DefRec} {K : Params → PySem.W.Frag} {k : Nat} {F : FDen} (hn : l.most = some 63) (hdf : d.params.defaults = []) (hr : Room k callerA)
    (hY : ∀ (w : World) (h : Heap), YP w h → (K w.params).In h) (hF : ∀ ns : List Int, ns.length ≤ 63 → ∃ S, F [.scr ns] [] = .ok (.bl true) S)
    (G : ∀ (w : World) (mg : Str → Option Value) (fa : Addr) (h : Heap), (K w.params).In h → h.Ns mainGlobals mg → mg d.name = some (.ref fa) →
      ∃ fd : FuncData, (∀ (s : Shared) (u : Value), BindsTo s fd ⟨[u], []⟩ [("script", u)]) ∧ ∀ base : Heap, (K w.params).In base → base.Ns mainGlobals mg → FnG l.prog w (K w.params) mg base k fa fd ["script"] (spF (K w.params) 1 F)) :
    PySem.W.WalkO q loose XP YP l.row.toRowW d [] (fun f vs => PySem.call f vs) := by
  apply Att.attach_call hn hdf
  intro w s₀ s₁ mg mb fa o pm cd doc a vs ns start Y at_ isF dp isG obj iz len noG
  have inK := hY w _ Y
  obtain ⟨fd, bind, prom⟩ := G w mg fa _ inK start.T.g isG
  apply law_callT inK start.T.g start.T.b start.T.builtins start.T.nolimit noG obj iz (Nat.le_trans len (by decide)) hr prom bind
  intro H hO hS
  refine ⟨rfl, ⟨[], []⟩, [], [.scr ns], ⟨rfl, List.nodup_nil, (fun _ z => nomatch z), (fun _ z => nomatch z), (fun n c a e => by simp at e)⟩,
      ⟨_, _, rfl, ⟨a, rfl, hS.imp (fun z => ⟨z, (fun z => nomatch z), (fun z => nomatch z)⟩) _root_.id⟩, rfl⟩, ?_⟩
  obtain ⟨S, e⟩ := hF ns len
  rw [e]
  exact fun H' ω' s t v r => r
end Pv

/-! a value's text; times -/
namespace Pv
open PySem PySem.Spec L2 PyProof.Rows
variable [HW]
mutual
/-- a value as plain data -/
@[simp] def pd : PV → Option PyData
  | .non => some .none
  | .bl b => some (.bool b)
  | .int i => some (.int i)
  | .str z => some (.str z)
  | .tup xs => (pdL xs).map .tuple
  | .lst xs => (pdL xs).map .list
  | _ => none
@[simp] def pdL : List PV → Option (List PyData)
  | [] => some []
  | x :: xs => match pd x, pdL xs with
    | some d, some ds => some (d :: ds)
    | _, _ => none
end
section
variable {K : PySem.W.Frag} {H : Hp} {ω : Ad}
mutual
theorem dp_of : ∀ {x : PV} {v : V} {d : PyData}, Rp K H ω x v → pd x = some d → Dp K H v d
  | .non, _, _, rfl, e => by cases e; exact .non
  | .bl b, _, _, rfl, e => by cases e; exact .bl b
  | .int i, _, _, rfl, e => by cases e; exact .int i
  | .str z, _, _, rfl, e => by cases e; exact .str z
  | .tup xs, _, _, r, e => by
    obtain ⟨ds, e1, rfl⟩ := Option.map_eq_some_iff.mp (show (pdL xs).map PyData.tuple = some _ from e)
    obtain ⟨a, vs, rfl, h, rr⟩ := tup_of r
    exact .tup h (dpL_of rr e1)
  | .lst xs, _, _, r, e => by
    obtain ⟨ds, e1, rfl⟩ := Option.map_eq_some_iff.mp (show (pdL xs).map PyData.list = some _ from e)
    obtain ⟨a, vs, rfl, h, _, rr⟩ := r
    exact .lst (.of h) (dpL_of rr e1)
  | .dct _, _, _, _, e => by cases e
  | .set _, _, _, _, e => by cases e
  | .ins _ _, _, _, _, e => by cases e
  | .exn _ _ _, _, _, _, e => by cases e
  | .dcm _, _, _, _, e => by cases e
  | .scr _, _, _, _, e => by cases e
  | .loc _, _, _, _, e => by cases e
  | .cls _, _, _, _, e => by cases e
  | .ty _, _, _, _, e => by cases e
theorem dpL_of : ∀ {xs : List PV} {vs : List V} {ds : List PyData}, RpL K H ω xs vs → pdL xs = some ds → DpAll K H vs ds
  | [], _, _, rfl, e => by cases e; exact .nil
  | x :: xs, _, ds, ⟨v, ws, e0, h, r⟩, e => by
    subst e0
    unfold pdL at e
    cases q1 : pd x with
    | none => rw [q1] at e; cases e
    | some d =>
      cases q2 : pdL xs with
      | none => rw [q1, q2] at e; cases e
      | some ds2 =>
        rw [q1, q2] at e; cases e
        exact .cons (dp_of h q1) (dpL_of r q2)
end
end
/-- repr(..): lists and tuples too -/
@[simp] def cReprD : PC' := fun S xs => match xs with
  | [.bl b] => some (.str (if b then "True" else "False"))
  | [.non] => some (.str "None")
  | [.int i] => if i.natAbs.log2 < 1920 then some (.str (toString i)) else none
  | [.str z] => if (reprText z).length ≤ sizeLine then some (.str (reprText z)) else none
  | [.lst xs] => (pd (.lst xs)).bind fun d => if d.showable = true ∧ d.hasDict = false ∧ d.depth ≤ 40 ∧ d.shown.length ≤ sizeLine then some (.str d.shown) else none
  | [.tup xs] => (pd (.tup xs)).bind fun d => if d.showable = true ∧ d.hasDict = false ∧ d.depth ≤ 40 ∧ d.shown.length ≤ sizeLine then some (.str d.shown) else none
  | _ => none
section
variable {X : Cx}
theorem pd_ref {K : PySem.W.Frag} {H : Hp} {v : V} {d : PyData} (h : Dp K H v d) (n : ∀ b, d ≠ .bool b) (n1 : d ≠ .none) (n2 : ∀ i, d ≠ .int i) (n3 : ∀ z, d ≠ .str z) : ∃ a, v = .ref a := by
  cases h with
  | non => exact absurd rfl n1
  | bl b => exact absurd rfl (n b)
  | int i => exact absurd rfl (n2 i)
  | str z => exact absurd rfl (n3 z)
  | lst _ _ => exact ⟨_, rfl⟩
  | tup _ _ => exact ⟨_, rfl⟩
theorem repr_run {pins : List (Addr × Obj)} {s : Shared} {σ : L2.St} {H : Hp} {Q : VK} {a : Addr} {d : PyData} (gd : X.A.guards = some []) (hu : X.A.units + 64 < cLine) (I : Inv X pins σ H s) (dp : Dp X.K H (.ref a) d)
    (h1 : d.showable = true) (h2 : d.hasDict = false) (h3 : d.depth ≤ 40) (h4 : d.shown.length ≤ sizeLine) (q : Q (.str d.shown) H) : wpAny (model X.prog X.w) X.A (call (.builtin "repr") [.ref a]) (EP X pins σ Q) X.xe s := by
  obtain ⟨as, rd⟩ := Dp.reads I d _ _ dp rfl
  exact repr_of_reads' rd h1 (PyData.noDict_hsm h2) gd (by omega) (fun _ _ z => z) (fun h' u tk hk => ⟨.str d.shown, H, I.kept hk, ⟨u, rfl⟩, q⟩) h4
theorem callP_reprD (gd : X.A.guards = some []) (hu : X.A.units + 64 < cLine) : CallP X (.builtin "repr") cReprD := by
  intro pins s σ H vs us Q I r ⟨ω, S, ps, r', t, rv, e, k⟩
  match ps, e with
  | [.bl b], e => exact callP_repr pins s σ H vs us Q I r ⟨ω, S, _, _, t, rv, e, k⟩
  | [.non], e => exact callP_repr pins s σ H vs us Q I r ⟨ω, S, _, _, t, rv, e, k⟩
  | [.int i], e => exact callP_repr pins s σ H vs us Q I r ⟨ω, S, _, _, t, rv, e, k⟩
  | [.str z], e =>
    obtain ⟨v, rfl, rfl⟩ := rv.one
    simp only [cReprD] at e
    split at e
    · rename_i hz
      cases e
      obtain ⟨u, rfl, tk, rfl⟩ := vals1 r
      exact PySem.P.repr_of_str ⟨.str _, H, I.tok _, ⟨_, rfl⟩, k _ _ .refl t rfl⟩ hz
    · cases e
  | [.lst xs], e =>
    obtain ⟨v, rfl, rx⟩ := rv.one
    simp only [cReprD] at e
    obtain ⟨d, e1, e2⟩ := Option.bind_eq_some_iff.mp e
    split at e2
    · rename_i hc
      cases e2
      obtain ⟨a, ws, rfl, h, _, rr⟩ := rx
      obtain ⟨u, rfl, ru⟩ := vals1 r
      cases ru
      exact repr_run gd hu I (dp_of (x := .lst xs) ⟨a, ws, rfl, h, ‹_›, rr⟩ e1) hc.1 hc.2.1 hc.2.2.1 hc.2.2.2 (k _ _ .refl t rfl)
    · cases e2
  | [.tup xs], e =>
    obtain ⟨v, rfl, rx⟩ := rv.one
    simp only [cReprD] at e
    obtain ⟨d, e1, e2⟩ := Option.bind_eq_some_iff.mp e
    split at e2
    · rename_i hc
      cases e2
      have dp := dp_of (x := .tup xs) rx e1
      obtain ⟨a, ws, rfl, h, rr⟩ := tup_of rx
      obtain ⟨u, rfl, ru⟩ := vals1 r
      cases ru
      exact repr_run gd hu I dp hc.1 hc.2.1 hc.2.2.1 hc.2.2.2 (k _ _ .refl t rfl)
    · cases e2
end
/-- x * y: numbers, a list or a text so many times -/
@[simp] def pMul : P2 := fun S x y => match look S x, look S y with
  | .int i, .int j => if (-(2 ^ 64) < i ∧ i < 2 ^ 64) ∨ (-(2 ^ 64) < j ∧ j < 2 ^ 64) then some (.int (i * j)) else none
  | .lst xs, .int k => if 0 ≤ k ∧ k ≤ 1000000 ∧ xs.length * k.toNat ≤ sizeLine then some (.lst (List.replicate k.toNat xs).flatten) else none
  | .str z, .int k => if 0 ≤ k ∧ k ≤ 1000 ∧ z.length ≤ 1000 then some (.str (Txt.mul z k)) else none
  | _, _ => none
section
variable {X : Cx} {K : PySem.W.Frag} {H : Hp} {ω : Ad}
theorem RpL.flat {xs : List PV} {vs : List V} (r : RpL K H ω xs vs) : ∀ n : Nat, RpL K H ω (List.replicate n xs).flatten (List.replicate n vs).flatten
  | 0 => rfl
  | n + 1 => by
    simp only [List.replicate_succ, List.flatten_cons]
    exact r.append (RpL.flat r n)
theorem opP_mul : OpP X (binaryOp .Mult) pMul := by
  intro pins s σ H x y v u Q I rx ry ⟨ω, S, px, py, r, t, r1, r2, e, k⟩
  unfold pMul at e
  split at e
  · rename_i i j e1 e2
    cases look_eq t r1 e1 rfl
    cases look_eq t r2 e2 rfl
    exact opP_mulI pins s σ H x y v u Q I rx ry ⟨ω, S, .int i, .int j, r, t, r1, r2, by simp only [pMulI, pInt]; split at e <;> simp_all, k⟩
  · rename_i xs j e1 e2
    cases look_eq t r2 e2 rfl
    obtain ⟨a, vs, rfl, h, rr⟩ := lst_of t r1 e1
    split at e
    · rename_i hc
      cases e
      refine op_rep pins s σ H _ y v u Q I rx ry ⟨a, j, vs, rfl, r2, h, by omega, by omega, by rw [← rr.length]; exact hc.2.2, fun p hp => ?_⟩
      exact new_lst t hp (rr.flat _) fun q o H' s1 n1 n2 t1 c => k _ _ s1 (open_str t1) (c.pure (t.out n1) n2)
    · cases e
  · rename_i z j e1 e2
    cases look_eq t r1 e1 rfl
    cases look_eq t r2 e2 rfl
    split at e
    · rename_i hc
      cases e
      cases r1; cases r2
      obtain ⟨t1, rfl⟩ := rx
      obtain ⟨t2, rfl⟩ := ry
      refine SB.mul ⟨?_, fun _ _ => ?_, fun _ _ => ?_⟩ fun t' k' => ⟨.str _, H, I.tok _, ⟨_, rfl⟩, k _ _ .refl t rfl⟩
      · simp; omega
      · have hj : 0 < j := by omega
        have : (1000 : Int) ≤ (2 ^ 63 - 1) / j := (Int.le_ediv_iff_mul_le hj).mpr (by omega)
        omega
      · have : z.length * j.toNat ≤ 1000 * 1000 := Nat.mul_le_mul hc.2.2 (by omega)
        have hL : (1048576 : Nat) ≤ sizeLine := by rw [sizeLine_eq]; decide
        simp only [Builtin.Str.tooLong, decide_eq_false_iff_not]
        omega
    · cases e
  · cases e
end
end Pv

/-! several names at once -/
namespace Pv
open PySem PySem.Spec L2 PyProof.Rows
variable [HW]
section
variable {X : Cx} {W : WX} {a b c : Expr} {das : DenA} {pos px py pz pt : Pos} {x y z : Str} {i j l : Nat}
@[simp] def sPar (i j : Nat) (das : DenA) : SDen := fun ρ S => stE (das ρ S) ρ fun vs S' => match vs with
  | [v, w] => .nx ((ρ.set i (some v)).set j (some w)) S'
  | _ => .stuck
@[simp] def sPar3 (i j l : Nat) (das : DenA) : SDen := fun ρ S => stE (das ρ S) ρ fun vs S' => match vs with
  | [u, v, w] => .nx (((ρ.set i (some u)).set j (some v)).set l (some w)) S'
  | _ => .stuck
theorem RpL.three {K : PySem.W.Frag} {H : Hp} {ω : Ad} {x y z : PV} {vs : List V} (r : RpL K H ω [x, y, z] vs) : ∃ u v w, vs = [u, v, w] ∧ Rp K H ω x u ∧ Rp K H ω y v ∧ Rp K H ω z w := by
  obtain ⟨u, ws, rfl, rx, r⟩ := r
  obtain ⟨v, w, rfl, ry, rz⟩ := r.two
  exact ⟨u, v, w, rfl, rx, ry, rz⟩
theorem sx_par {kt k2 pt2} (hc : X.calm = true) (hN : X.N.Nodup) (hi : X.N[i]? = some x) (hj : X.N[j]? = some y) (hij : i ≠ j) (hx : X.env.scope.names.lookup x = some .local) (hy : X.env.scope.names.lookup y = some .local) (ha : AX X W [a, b] das)
    (hw : swappedStores [.Tuple [.Name x px, .Name y py] kt pt] (.Tuple [a, b] k2 pt2) X.env = pure (some [x, y])) (hs : swapsWithSole [.Tuple [.Name x px, .Name y py] kt pt] (.Tuple [a, b] k2 pt2) pos.line X.env = pure false := by rfl) :
    SX X W (.Assign [.Tuple [.Name x px, .Name y py] kt pt] (.Tuple [a, b] k2 pt2) pos) (sPar i j das) :=
  (ps_par hc hN hi hj hij hx hy ha hw hs).imp fun D σ H ⟨ω, S, ρ, f, o⟩ => ⟨ω, S, ρ, f, (SoP.ex f o).imp fun xs S1 H1 ω1 s1 t1 o1 vs rv => by
    match xs, o1 with
    | [p, q], o1 =>
      obtain ⟨v, w, rfl, rp, rq⟩ := rv.two
      exact ⟨v, w, rfl, o1 _ H1 ω1 .refl ⟨t1, ((f.later s1 t1).2.set rp).set rq⟩⟩⟩
theorem sx_par3 {kt k2 pt2} (hc : X.calm = true) (hN : X.N.Nodup) (hi : X.N[i]? = some x) (hj : X.N[j]? = some y) (hl : X.N[l]? = some z) (hij : i ≠ j) (hil : i ≠ l) (hjl : j ≠ l) (hx : X.env.scope.names.lookup x = some .local) (hy : X.env.scope.names.lookup y = some .local)
    (hz : X.env.scope.names.lookup z = some .local) (ha : AX X W [a, b, c] das) (hw : swappedStores [.Tuple [.Name x px, .Name y py, .Name z pz] kt pt] (.Tuple [a, b, c] k2 pt2) X.env = pure (some [x, y, z]))
    (hs : swapsWithSole [.Tuple [.Name x px, .Name y py, .Name z pz] kt pt] (.Tuple [a, b, c] k2 pt2) pos.line X.env = pure false := by rfl) :
    SX X W (.Assign [.Tuple [.Name x px, .Name y py, .Name z pz] kt pt] (.Tuple [a, b, c] k2 pt2) pos) (sPar3 i j l das) :=
  (ps_par3 hc hN hi hj hl hij hil hjl hx hy hz ha hw hs).imp fun D σ H ⟨ω, S, ρ, f, o⟩ => ⟨ω, S, ρ, f, (SoP.ex f o).imp fun xs S1 H1 ω1 s1 t1 o1 vs rv => by
    match xs, o1 with
    | [p, q, r], o1 =>
      obtain ⟨u, v, w, rfl, rp, rq, rr⟩ := rv.three
      exact ⟨u, v, w, rfl, o1 _ H1 ω1 .refl ⟨t1, (((f.later s1 t1).2.set rp).set rq).set rr⟩⟩⟩
@[simp] def bSeq (n : Nat) (bs : Bds) : Bd := fun x ρ => match x with
  | .tup xs => if xs.length = n then bs xs ρ else none
  | .lst xs => if xs.length = n then bs xs ρ else none
  | _ => none
theorem pg_either {tg : Expr} {t1 t2 : TG} (h1 : PG X tg t1) (h2 : PG X tg t2) : PG X tg (fun v σ H Q => t1 v σ H Q ∨ t2 v σ H Q) := ⟨fun pins s σ H v u Q I r q => q.elim (h1.run pins s σ H v u Q I r) (h2.run pins s σ H v u Q I r)⟩
theorem gx_seq {es : List Expr} {k : Nat} {bs : Bds} {vs : List Nat} {n : Nat} (hc : X.calm = true) (h : GsX X es bs vs) (hn : (assignEach es X.env).length = n := by rfl) (hst : (assignEach es X.env).findIdx? (·.1) = none := by rfl) :
    GX X (.Tuple es k pos) (bSeq n bs) vs := (pg_either (pg_tup hc h hn hst) (pg_unl hc h hn hst)).imp fun v σ H Q ⟨ω, S, ρ, x, ρ', f, r, e, k⟩ => by
  unfold bSeq at e
  split at e
  · rename_i xs
    split at e
    · rename_i hl
      obtain ⟨a, us, rfl, h1, r1⟩ := tup_of r
      exact .inl ⟨a, us, rfl, h1, by rw [← r1.length]; exact hl, ω, S, ρ, xs, ρ', f, r1, e, k⟩
    · cases e
  · rename_i xs
    split at e
    · rename_i hl
      obtain ⟨a, us, rfl, h1, r1⟩ := lst_of f.1 r rfl
      exact .inr ⟨a, us, rfl, .of h1, by rw [← r1.length]; exact hl, ω, S, ρ, xs, ρ', f, r1, e, k⟩
    · cases e
  · cases e
end
end Pv

/-! a def's own cells become plain values at its return -/
namespace Pv
open PySem PySem.Spec L2 PyProof.Rows
variable [HW]
mutual
/-- every cell in x replaced by what h says of it -/
@[simp] def fzP (h : Nat → Option PV) : PV → Option PV
  | .loc m => h m
  | .tup xs => (fzL h xs).map .tup
  | .lst xs => (fzL h xs).map .lst
  | .dct kvs => (fzK h kvs).map .dct
  | .ins C fs => (fzF h fs).map (.ins C)
  | .dcm kvs => (fzK h kvs).map .dcm
  | .exn C xs f => some (.exn C xs f)
  | .non => some .non
  | .bl b => some (.bl b)
  | .int i => some (.int i)
  | .str s => some (.str s)
  | .set xs => some (.set xs)
  | .scr ns => some (.scr ns)
  | .cls C => some (.cls C)
  | .ty n => some (.ty n)
@[simp] def fzL (h : Nat → Option PV) : List PV → Option (List PV)
  | [] => some []
  | x :: xs => (fzP h x).bind fun y => (fzL h xs).map (y :: ·)
@[simp] def fzK (h : Nat → Option PV) : List (PV × PV) → Option (List (PV × PV))
  | [] => some []
  | (k, x) :: xs => (fzP h x).bind fun y => (fzK h xs).map ((k, y) :: ·)
@[simp] def fzF (h : Nat → Option PV) : List (Str × PV) → Option (List (Str × PV))
  | [] => some []
  | (k, x) :: xs => (fzP h x).bind fun y => (fzF h xs).map ((k, y) :: ·)
end
/-- the cells from n0 on are opened, k deep -/
@[simp] def fz (n0 : Nat) (S : Store) : Nat → PV → Option PV
  | 0 => fzP fun m => if m < n0 then some (.loc m) else none
  | k + 1 => fzP fun m => if m < n0 then some (.loc m) else (S[m]?).bind fun c => if isCo c = true then fz n0 S k c else none
mutual
/-- no cell in it -/
@[simp] def noLoc : PV → Bool
  | .loc _ => false
  | .tup xs => noLocL xs
  | .lst xs => noLocL xs
  | .dct kvs => noLocK kvs
  | .ins _ fs => noLocF fs
  | .dcm kvs => noLocK kvs
  | _ => true
@[simp] def noLocL : List PV → Bool
  | [] => true
  | x :: xs => noLoc x && noLocL xs
@[simp] def noLocK : List (PV × PV) → Bool
  | [] => true
  | (_, x) :: xs => noLoc x && noLocK xs
@[simp] def noLocF : List (Str × PV) → Bool
  | [] => true
  | (_, x) :: xs => noLoc x && noLocF xs
end
mutual
theorem fzP_no {h : Nat → Option PV} : ∀ {x : PV}, noLoc x = true → fzP h x = some x
  | .loc _, e => by cases e
  | .tup xs, e => by simp [fzL_no (show noLocL xs = true from e)]
  | .lst xs, e => by simp [fzL_no (show noLocL xs = true from e)]
  | .dct xs, e => by simp [fzK_no (show noLocK xs = true from e)]
  | .ins _ xs, e => by simp [fzF_no (show noLocF xs = true from e)]
  | .non, _ => rfl
  | .bl _, _ => rfl
  | .int _, _ => rfl
  | .str _, _ => rfl
  | .set _, _ => rfl
  | .scr _, _ => rfl
  | .cls _, _ => rfl
  | .exn _ _ _, _ => rfl
  | .dcm xs, e => by simp [fzK_no (show noLocK xs = true from e)]
  | .ty _, _ => rfl
theorem fzL_no {h : Nat → Option PV} : ∀ {xs : List PV}, noLocL xs = true → fzL h xs = some xs
  | [], _ => rfl
  | x :: xs, e => by
    simp at e
    simp [fzP_no e.1, fzL_no e.2]
theorem fzK_no {h : Nat → Option PV} : ∀ {xs : List (PV × PV)}, noLocK xs = true → fzK h xs = some xs
  | [], _ => rfl
  | (k, x) :: xs, e => by
    simp at e
    simp [fzP_no e.1, fzK_no e.2]
theorem fzF_no {h : Nat → Option PV} : ∀ {xs : List (Str × PV)}, noLocF xs = true → fzF h xs = some xs
  | [], _ => rfl
  | (k, x) :: xs, e => by
    simp at e
    simp [fzP_no e.1, fzF_no e.2]
end
theorem fz_no {n0 : Nat} {S : Store} {k : Nat} {x : PV} (e : noLoc x = true) : fz n0 S k x = some x := by cases k <;> exact fzP_no e
/-- a cell that stays -/
@[simp] def fzC (n0 : Nat) (S : Store) (c : PV) : Option PV := if noLoc c = true then some c else if isCo c = true then fz n0 S 8 c else none
@[simp] def fzS (n0 : Nat) (S : Store) : List PV → Option (List PV)
  | [] => some []
  | c :: cs => (fzC n0 S c).bind fun y => (fzS n0 S cs).map (y :: ·)
@[simp] def gcO (n0 : Nat) (o : Out PV) : Out PV := match o with
  | .ok r S => match fz n0 S 8 r, fzS n0 S (S.take n0) with
    | some r', some S' => .ok r' S'
    | _, _ => .stuck
  | .exc x S => match x.fs with
    | none => match fzS n0 S (S.take n0) with
      | some S' => .exc x S'
      | none => .stuck
    | some fs => match fzF (fun m => if m < n0 then some (.loc m) else (S[m]?).bind fun c => if isCo c = true then fz n0 S 8 c else none) fs, fzS n0 S (S.take n0) with
      | some fs', some S' => .exc ⟨x.cls, some fs'⟩ S'
      | _, _ => .stuck
  | .stuck => .stuck
@[simp] def gcF (F : FDen) : FDen := fun qs S => gcO S.length (F qs S)
section
variable {K : PySem.W.Frag} {H : Hp} {ω ω' : Ad}
mutual
theorem fzP_ok {h : Nat → Option PV} (fr : ∀ a, ω'.Free a → ω.Free a) (hh : ∀ m y v, h m = some y → Rp K H ω' (.loc m) v → Rp K H ω y v) : ∀ {x y : PV} {v : V}, fzP h x = some y → Rp K H ω' x v → Rp K H ω y v
  | .loc m, y, v, e, r => hh m y v e r
  | .tup xs, y, v, e, r => by
    obtain ⟨ys, e1, rfl⟩ := Option.map_eq_some_iff.mp (show (fzL h xs).map PV.tup = some y from e)
    obtain ⟨a, vs, rfl, q, rr⟩ := r
    exact ⟨a, vs, rfl, q, fzL_ok fr hh e1 rr⟩
  | .lst xs, y, v, e, r => by
    obtain ⟨ys, e1, rfl⟩ := Option.map_eq_some_iff.mp (show (fzL h xs).map PV.lst = some y from e)
    obtain ⟨a, vs, rfl, q, f, rr⟩ := r
    exact ⟨a, vs, rfl, q, fr a f, fzL_ok fr hh e1 rr⟩
  | .dct xs, y, v, e, r => by
    obtain ⟨ys, e1, rfl⟩ := Option.map_eq_some_iff.mp (show (fzK h xs).map PV.dct = some y from e)
    obtain ⟨a, rfl, f, q⟩ := r
    exact ⟨a, rfl, fr a f, q.imp (fun ⟨zs, z1, z2⟩ => ⟨zs, z1, fzK_ok fr hh e1 z2⟩) fun ⟨zs, z1, z2⟩ => ⟨zs, z1, fzT_ok fr hh e1 z2⟩⟩
  | .ins C xs, y, v, e, r => by
    obtain ⟨ys, e1, rfl⟩ := Option.map_eq_some_iff.mp (show (fzF h xs).map (PV.ins C) = some y from e)
    obtain ⟨a, dx, vs, c, rfl, hc, q, f, rr⟩ := r
    exact ⟨a, dx, vs, c, rfl, hc, q, fr a f, fzF_ok fr hh e1 rr⟩
  | .dcm xs, y, v, e, r => by
    obtain ⟨ys, e1, rfl⟩ := Option.map_eq_some_iff.mp (show (fzK h xs).map PV.dcm = some y from e)
    obtain ⟨a, o, zs, rfl, q, f, sm, m, rr⟩ := r
    exact ⟨a, o, zs, rfl, q, fr a f, sm, m, fzM_ok fr hh e1 rr⟩
  | .exn _ _ _, y, v, e, r => r.elim
  | .non, y, v, e, r => by cases e; exact r
  | .bl _, y, v, e, r => by cases e; exact r
  | .int _, y, v, e, r => by cases e; exact r
  | .str _, y, v, e, r => by cases e; exact r
  | .set _, y, v, e, r => by
    cases e
    obtain ⟨a, ks, rfl, h, f, q⟩ := r
    exact ⟨a, ks, rfl, h, fr a f, q⟩
  | .scr _, y, v, e, r => by
    cases e
    obtain ⟨a, rfl, q⟩ := r
    exact ⟨a, rfl, q.imp (fun z => ⟨z.1, fr a z.2⟩) id⟩
  | .cls _, y, v, e, r => by cases e; exact r
  | .ty _, y, v, e, r => by cases e; exact r
theorem fzL_ok {h : Nat → Option PV} (fr : ∀ a, ω'.Free a → ω.Free a) (hh : ∀ m y v, h m = some y → Rp K H ω' (.loc m) v → Rp K H ω y v) : ∀ {xs ys : List PV} {vs : List V}, fzL h xs = some ys → RpL K H ω' xs vs → RpL K H ω ys vs
  | [], ys, vs, e, r => by cases e; exact r
  | x :: xs, ys, vs, e, r => by
    obtain ⟨y, e1, e2⟩ := Option.bind_eq_some_iff.mp (show (fzP h x).bind _ = some ys from e)
    obtain ⟨zs, e3, rfl⟩ := Option.map_eq_some_iff.mp e2
    obtain ⟨v, ws, rfl, q, rr⟩ := r
    exact ⟨v, ws, rfl, fzP_ok fr hh e1 q, fzL_ok fr hh e3 rr⟩
theorem fzK_ok {h : Nat → Option PV} (fr : ∀ a, ω'.Free a → ω.Free a) (hh : ∀ m y v, h m = some y → Rp K H ω' (.loc m) v → Rp K H ω y v) : ∀ {xs ys : List (PV × PV)} {vs : List (Key × V)}, fzK h xs = some ys → RpK K H ω' xs vs → RpK K H ω ys vs
  | [], ys, vs, e, r => by cases e; exact r
  | (k, x) :: xs, ys, vs, e, r => by
    obtain ⟨y, e1, e2⟩ := Option.bind_eq_some_iff.mp (show (fzP h x).bind _ = some ys from e)
    obtain ⟨zs, e3, rfl⟩ := Option.map_eq_some_iff.mp e2
    obtain ⟨kk, v, ws, rfl, ke, q, rr⟩ := r
    exact ⟨kk, v, ws, rfl, ke, fzP_ok fr hh e1 q, fzK_ok fr hh e3 rr⟩
theorem fzT_ok {h : Nat → Option PV} (fr : ∀ a, ω'.Free a → ω.Free a) (hh : ∀ m y v, h m = some y → Rp K H ω' (.loc m) v → Rp K H ω y v) : ∀ {xs ys : List (PV × PV)} {vs : List (List Key × V)}, fzK h xs = some ys → RpT K H ω' xs vs → RpT K H ω ys vs
  | [], ys, vs, e, r => by cases e; exact r
  | (k, x) :: xs, ys, vs, e, r => by
    obtain ⟨y, e1, e2⟩ := Option.bind_eq_some_iff.mp (show (fzP h x).bind _ = some ys from e)
    obtain ⟨zs, e3, rfl⟩ := Option.map_eq_some_iff.mp e2
    obtain ⟨ks, kk, v, ws, rfl, ke, ke2, q, rr⟩ := r
    exact ⟨ks, kk, v, ws, rfl, ke, ke2, fzP_ok fr hh e1 q, fzT_ok fr hh e3 rr⟩
theorem fzM_ok {h : Nat → Option PV} (fr : ∀ a, ω'.Free a → ω.Free a) (hh : ∀ m y v, h m = some y → Rp K H ω' (.loc m) v → Rp K H ω y v) : ∀ {xs ys : List (PV × PV)} {vs : List (MKey × V × V)}, fzK h xs = some ys → RpM K H ω' xs vs → RpM K H ω ys vs
  | [], ys, vs, e, r => by cases e; exact r
  | (k, x) :: xs, ys, vs, e, r => by
    obtain ⟨y, e1, e2⟩ := Option.bind_eq_some_iff.mp (show (fzP h x).bind _ = some ys from e)
    obtain ⟨zs, e3, rfl⟩ := Option.map_eq_some_iff.mp e2
    obtain ⟨m, u, v, ws, rfl, ke, q, rr⟩ := r
    exact ⟨m, u, v, ws, rfl, ke, fzP_ok fr hh e1 q, fzM_ok fr hh e3 rr⟩
theorem fzF_ok {h : Nat → Option PV} (fr : ∀ a, ω'.Free a → ω.Free a) (hh : ∀ m y v, h m = some y → Rp K H ω' (.loc m) v → Rp K H ω y v) : ∀ {xs ys : List (Str × PV)} {vs : List (Str × V)}, fzF h xs = some ys → RpF K H ω' xs vs → RpF K H ω ys vs
  | [], ys, vs, e, r => by cases e; exact r
  | (k, x) :: xs, ys, vs, e, r => by
    obtain ⟨y, e1, e2⟩ := Option.bind_eq_some_iff.mp (show (fzP h x).bind _ = some ys from e)
    obtain ⟨zs, e3, rfl⟩ := Option.map_eq_some_iff.mp e2
    obtain ⟨v, ws, rfl, q, rr⟩ := r
    exact ⟨v, ws, rfl, fzP_ok fr hh e1 q, fzF_ok fr hh e3 rr⟩
end
theorem co_val {p : Addr} {o : HO} {r : PV} (hp : ω.Free p) (e : H p = some o) (c : CoR K H ω p r o) : Rp K H ω r (.ref p) := by
  cases r <;> first | exact c.elim | skip
  · obtain ⟨vs, rfl, r⟩ := c
    exact ⟨p, vs, rfl, e, hp, r⟩
  · rcases c with ⟨xs, rfl, r⟩ | ⟨xs, rfl, r⟩
    · exact ⟨p, rfl, hp, .inl ⟨xs, .of e, r⟩⟩
    · exact ⟨p, rfl, hp, .inr ⟨xs, .of e, r⟩⟩
  · obtain ⟨o, xs, rfl, m, r⟩ := c
    exact ⟨p, o, xs, rfl, e, hp, m, r⟩
  · obtain ⟨cc, dx, vs, hc, rfl, r⟩ := c
    exact ⟨p, dx, vs, cc, rfl, hc, e, hp, r⟩
/-- what a cell holds, frozen -/
theorem co_ok {h : Nat → Option PV} (fr : ∀ a, ω'.Free a → ω.Free a) (hh : ∀ m y v, h m = some y → Rp K H ω' (.loc m) v → Rp K H ω y v) {c y : PV} {o : HO} {q : Addr} (e : fzP h c = some y) (r : CoR K H ω' q c o) : CoR K H ω q y o := by
  cases c <;> first | exact r.elim | skip
  · rename_i xs
    obtain ⟨ys, e1, rfl⟩ := Option.map_eq_some_iff.mp (show (fzL h xs).map PV.lst = some y from e)
    obtain ⟨vs, rfl, rr⟩ := r
    exact ⟨vs, rfl, fzL_ok fr hh e1 rr⟩
  · rename_i xs
    obtain ⟨ys, e1, rfl⟩ := Option.map_eq_some_iff.mp (show (fzK h xs).map PV.dct = some y from e)
    exact r.imp (fun ⟨zs, z1, z2⟩ => ⟨zs, z1, fzK_ok fr hh e1 z2⟩) fun ⟨zs, z1, z2⟩ => ⟨zs, z1, fzT_ok fr hh e1 z2⟩
  · rename_i xs
    obtain ⟨ys, e1, rfl⟩ := Option.map_eq_some_iff.mp (show (fzK h xs).map PV.dcm = some y from e)
    obtain ⟨ob, zs, rfl, sm, m, rr⟩ := r
    exact ⟨ob, zs, rfl, sm, m, fzM_ok fr hh e1 rr⟩
  · rename_i C xs
    obtain ⟨ys, e1, rfl⟩ := Option.map_eq_some_iff.mp (show (fzF h xs).map (PV.ins C) = some y from e)
    obtain ⟨c, dx, vs, hc, rfl, rr⟩ := r
    exact ⟨c, dx, vs, hc, rfl, fzF_ok fr hh e1 rr⟩
end
section
variable {K : PySem.W.Frag} {H : Hp} {ω ω' : Ad} {S : Store} {ex : List Addr}
theorem fz_ok (t : StR K ω' S H) (e1 : ω'.ν = ω.ν ++ ex) (e2 : ω'.B = ω.B) : ∀ (k : Nat), (∀ {x y : PV} {v : V}, fz ω.ν.length S k x = some y → Rp K H ω' x v → Rp K H ω y v) ∧ ∀ {c y : PV} {o : HO} {q : Addr}, fz ω.ν.length S k c = some y → CoR K H ω' q c o → CoR K H ω q y o := by
  have fr : ∀ a, ω'.Free a → ω.Free a := fun a f => ⟨fun z => f.1 (by rw [e1]; exact List.mem_append_left _ z), fun z => f.2 (by rw [e2]; exact z)⟩
  have old : ∀ (m : Nat) (v : V), m < ω.ν.length → Rp K H ω' (.loc m) v → Rp K H ω (.loc m) v := fun m v hm ⟨a, e, h⟩ => ⟨a, e, by rw [e1, List.getElem?_append_left hm] at h; exact h⟩
  have step : ∀ (k : Nat), (∀ {c y : PV} {o : HO} {q : Addr}, fz ω.ν.length S k c = some y → CoR K H ω' q c o → CoR K H ω q y o) →
      ∀ m y v, (if m < ω.ν.length then some (PV.loc m) else (S[m]?).bind fun c => if isCo c = true then fz ω.ν.length S k c else none) = some y → Rp K H ω' (.loc m) v → Rp K H ω y v := fun k ih m y v e r => by
    by_cases hm : m < ω.ν.length
    · rw [if_pos hm] at e
      cases e
      exact old m v hm r
    · rw [if_neg hm] at e
      obtain ⟨c, hc, e3⟩ := Option.bind_eq_some_iff.mp e
      split at e3
      · obtain ⟨a, rfl, ha⟩ := r
        obtain ⟨o, ho, co⟩ := t.at m c a hc ha
        have hf : ω.Free a := by
          have hin : a ∈ ω'.ν := List.mem_of_getElem? ha
          refine ⟨fun z => ?_, fun z => t.nb a hin (by rw [e2]; exact z)⟩
          obtain ⟨j, hj⟩ := List.mem_iff_getElem?.mp z
          have hjl : j < ω.ν.length := (List.getElem?_eq_some_iff.mp hj).1
          have hj' : ω'.ν[j]? = some a := by rw [e1, List.getElem?_append_left hjl]; exact hj
          have := (List.getElem?_inj (List.getElem?_eq_some_iff.mp ha).1 t.nd).mp (ha.trans hj'.symm)
          omega
        have co := ih e3 co
        exact co_val hf ho co
      · cases e3
  intro k
  induction k with
  | zero =>
    have hh : ∀ m y v, (if m < ω.ν.length then some (PV.loc m) else none) = some y → Rp K H ω' (.loc m) v → Rp K H ω y v := fun m y v e r => by
      by_cases hm : m < ω.ν.length
      · rw [if_pos hm] at e; cases e; exact old m v hm r
      · rw [if_neg hm] at e; cases e
    exact ⟨fun e r => fzP_ok fr hh e r, fun e r => co_ok fr hh e r⟩
  | succ k ih => exact ⟨fun e r => fzP_ok fr (step k ih.2) e r, fun e r => co_ok fr (step k ih.2) e r⟩
theorem fzC_ok (t : StR K ω' S H) (e1 : ω'.ν = ω.ν ++ ex) (e2 : ω'.B = ω.B) {c y : PV} {o : HO} {q : Addr} (e : fzC ω.ν.length S c = some y) (r : CoR K H ω' q c o) : CoR K H ω q y o := by
  unfold fzC at e
  split at e
  · rename_i h
    cases e
    have h2 : fz ω.ν.length S 0 c = some c := fz_no h
    exact (fz_ok t e1 e2 0).2 h2 r
  · split at e
    · exact (fz_ok t e1 e2 8).2 e r
    · cases e
theorem fzS_get {n0 : Nat} : ∀ {cs ds : List PV}, fzS n0 S cs = some ds → cs.length = ds.length ∧ ∀ (i : Nat) (d : PV), ds[i]? = some d → ∃ c, cs[i]? = some c ∧ fzC n0 S c = some d
  | [], ds, e => by
    cases e
    exact ⟨rfl, fun i d h => by simp at h⟩
  | c :: cs, ds, e => by
    obtain ⟨y, e1, e2⟩ := Option.bind_eq_some_iff.mp (show (fzC n0 S c).bind _ = some ds from e)
    obtain ⟨zs, e3, rfl⟩ := Option.map_eq_some_iff.mp e2
    obtain ⟨h1, h2⟩ := fzS_get e3
    refine ⟨by simp [h1], fun i d h => ?_⟩
    cases i with
    | zero => simp at h; subst h; exact ⟨c, rfl, e1⟩
    | succ i => exact h2 i d (by simpa using h)
/-- the store that stays -/
theorem gc_str {S0 S' : Store} (t0 : ω.ν.length = S0.length) (nd : ω.ν.Nodup) (nb : ∀ a ∈ ω.ν, a ∉ ω.B) (t : StR K ω' S H) (e1 : ω'.ν = ω.ν ++ ex) (e2 : ω'.B = ω.B) (e : fzS S0.length S (S.take S0.length) = some S') : StR K ω S' H := by
  obtain ⟨h1, h2⟩ := fzS_get e
  have hl : S0.length ≤ S.length := by rw [← t0, ← t.len, e1]; simp
  have hl2 : S'.length = S0.length := by rw [← h1]; simp; omega
  refine ⟨by rw [t0, hl2], nd, nb, fun a ha => t.tb a (by rw [e2]; exact ha), fun n c a hc ha => ?_⟩
  obtain ⟨d, hd, ed⟩ := h2 n c hc
  have hn : n < S0.length := by rw [← hl2]; exact (List.getElem?_eq_some_iff.mp hc).1
  have hd' : S[n]? = some d := by rw [List.getElem?_take_of_lt hn] at hd; exact hd
  have ha' : ω'.ν[n]? = some a := by rw [e1, List.getElem?_append_left (by omega)]; exact ha
  obtain ⟨o, ho, co⟩ := t.at n d a hd' ha'
  exact ⟨o, ho, fzC_ok t e1 e2 (by rw [t0]; exact ed) co⟩
end
/-- a def's answer over frozen cells is as good -/
theorem gc_out {K : PySem.W.Frag} {E : XK} {ω : Ad} {H : Hp} {S : Store} {o : Out PV} {Q : VK} (t : StR K ω S H) (h : OutP K E ω H (gcO S.length o) fun r S' H' ω' => ∀ v, Rp K H' ω' r v → Q v H') : OutP K E ω H o fun r S' H' ω' => ∀ v, Rp K H' ω' r v → Q v H' := by
  cases o with
  | stuck => exact h
  | ok r S1 =>
    unfold gcO at h
    split at h
    · rename_i o' r' S' q
      injection q with q1 q2
      subst q1 q2
      intro H' ω' s t' v rv
      obtain ⟨ex, e1, f1⟩ := s.nu
      split at h
      · rename_i r2 S2 g1 g2
        have s0 : Stp ω H ω H' := ⟨⟨[], by simp, by simp⟩, rfl, s.kp, s.tr, s.tp, s.bk⟩
        exact h H' ω s0 (gc_str t.len t.nd t.nb t' e1 s.bl g2) v ((fz_ok t' e1 s.bl 8).1 (by rw [t.len]; exact g1) rv)
      · exact h.elim
    · rename_i q; cases q
    · rename_i q; cases q
  | exc x S1 =>
    unfold gcO at h
    split at h
    · rename_i q; cases q
    · rename_i o' x' S' q
      injection q with q1 q2
      subst q1 q2
      intro cv d H' ω' c s t' er
      obtain ⟨ex, e1, f1⟩ := s.nu
      have s0 : Stp ω H ω H' := ⟨⟨[], by simp, by simp⟩, rfl, s.kp, s.tr, s.tp, s.bk⟩
      have fr : ∀ a, ω'.Free a → ω.Free a := fun a f => ⟨fun z => f.1 (by rw [e1]; exact List.mem_append_left _ z), fun z => f.2 (by rw [s.bl]; exact z)⟩
      split at h
      · rename_i ef
        split at h
        · rename_i S2 g2
          exact h cv d H' ω c s0 (gc_str t.len t.nd t.nb t' e1 s.bl g2) (by unfold ExR at er ⊢; rw [ef] at er ⊢; exact er)
        · exact h.elim
      · rename_i fs ef
        split at h
        · rename_i fs2 S2 g1 g2
          refine h cv d H' ω c s0 (gc_str t.len t.nd t.nb t' e1 s.bl g2) ?_
          unfold ExR at er ⊢
          rw [ef] at er
          obtain ⟨a, vs, rfl, h1, f, r⟩ := er
          have one : ∀ m y v, (if m < S.length then some (PV.loc m) else (S1[m]?).bind fun c => if isCo c = true then fz S.length S1 8 c else none) = some y → Rp K H' ω' (.loc m) v → Rp K H' ω y v := fun m y v e r => by
            have := (fz_ok t' e1 s.bl 9).1 (x := .loc m) (y := y) (v := v) (by rw [t.len]; exact e)
            exact this r
          exact ⟨a, vs, rfl, h1, fr a f, fzF_ok fr one g1 r⟩
        · exact h.elim
    · rename_i q; cases q
section
variable {P : Program} {w : World} {K : PySem.W.Frag} {mg : Str → Option Value} {base : Heap} {k : Nat} {f : Addr} {fd : FuncData} {ps : List Str} {n : Nat} {F : FDen}
theorem spF_gc {vs : List V} {H : Hp} {Q : VK} {E : XK} (h : spF K n (gcF F) vs H Q E) : spF K n F vs H Q E := by
  obtain ⟨hl, ω, S, qs, t, r, o⟩ := h
  exact ⟨hl, ω, S, qs, t, r, gc_out t o⟩
theorem fn_gc (h : FnOk P w K mg base (L2.CX P w) k f fd ps (spF K n F)) : FnOk P w K mg base (L2.CX P w) k f fd ps (spF K n (gcF F)) := h.imp fun _ _ _ _ q => spF_gc q
theorem gc_ns {qs : List PV} {S : Store} (h : gcF F qs S ≠ .stuck) : F qs S ≠ .stuck := fun e => h (by simp [e])
theorem Fn.gc {x : Str} {ds : List PV} (h : Fn P w K mg base k x n ds F) : Fn P w K mg base k x n ds (gcF F) := by
  obtain ⟨f, fd, ps, dvs, dus, a, b, c, d, e, g, l⟩ := h.ex
  exact ⟨f, fd, ps, dvs, dus, fn_gc a, b, c, d, e, g, fun qs S z => l qs S (gc_ns z)⟩
theorem FnT.gc {x : Str} (h : FnT P w K mg base k x n F) : FnT P w K mg base k x n (gcF F) := by
  obtain ⟨f, fd, ps, a, b, c, d, l⟩ := h.ex
  exact ⟨f, fd, ps, ⟨fun vs H Q E z => a.arity vs H Q E (spF_gc z), fun A out s H args us vs Q E g r e0 bt v z => a.runs A out s H args us vs Q E g r e0 bt v (spF_gc z)⟩, b, c, d, fun qs S z => l qs S (gc_ns z)⟩
end
end Pv

/-! dicts read -/
namespace Pv
open PySem PySem.Spec L2 PyProof.Rows
variable [HW]
/-! ### keys -/
@[simp] def ckey : PV → Option (Key ⊕ List Key)
  | .int i => some (.inl (.inl i))
  | .str z => some (.inl (.inr z))
  | .tup xs => (keysOf xs).map .inr
  | _ => none
def keq (x y : PV) : Bool := match ckey x, ckey y with
  | some a, some b => decide (a = b)
  | _, _ => false
/-- what stands at y -/
def valP : List (PV × PV) → PV → Option PV
  | [], _ => none
  | (k, x) :: r, y => if keq k y = true then some x else valP r y
def putP (kvs : List (PV × PV)) (y v : PV) : List (PV × PV) := if (valP kvs y).isSome = true then kvs.map fun p => if keq p.1 y = true then (p.1, v) else p else kvs ++ [(y, v)]
def dropP (kvs : List (PV × PV)) (y : PV) : List (PV × PV) := kvs.filter fun p => !keq p.1 y
def tkey : PV → Option (List Key)
  | .tup xs => keysOf xs
  | _ => none
section
variable {K : PySem.W.Frag} {H : Hp} {ω : Ad} {κ : Type} [DecidableEq κ]
/-- entries whose keys f reads -/
def RpX (f : PV → Option κ) (K : PySem.W.Frag) (H : Hp) (ω : Ad) : List (PV × PV) → List (κ × V) → Prop
  | [], vs => vs = []
  | (k, x) :: xs, vs => ∃ kk v ws, vs = (kk, v) :: ws ∧ f k = some kk ∧ Rp K H ω x v ∧ RpX f K H ω xs ws
theorem rpK_X : ∀ {kvs : List (PV × PV)} {xs : List (Key × V)}, RpK K H ω kvs xs ↔ RpX keyOf K H ω kvs xs
  | [], xs => Iff.rfl
  | (k, x) :: r, xs => by
    constructor
    · rintro ⟨kk, v, ws, e, h1, h2, h3⟩; exact ⟨kk, v, ws, e, h1, h2, rpK_X.mp h3⟩
    · rintro ⟨kk, v, ws, e, h1, h2, h3⟩; exact ⟨kk, v, ws, e, h1, h2, rpK_X.mpr h3⟩
theorem tkey_of {k : PV} {kk : List Key} : tkey k = some kk ↔ ∃ ks, k = .tup ks ∧ keysOf ks = some kk := by
  constructor
  · intro e
    cases k <;> first | cases e; done | skip
    exact ⟨_, rfl, e⟩
  · rintro ⟨ks, rfl, e⟩; exact e
theorem rpT_X : ∀ {kvs : List (PV × PV)} {xs : List (List Key × V)}, RpT K H ω kvs xs ↔ RpX tkey K H ω kvs xs
  | [], xs => Iff.rfl
  | (k, x) :: r, xs => by
    constructor
    · rintro ⟨ks, kk, v, ws, e, h0, h1, h2, h3⟩; exact ⟨kk, v, ws, e, tkey_of.mpr ⟨ks, h0, h1⟩, h2, rpT_X.mp h3⟩
    · rintro ⟨kk, v, ws, e, h1, h2, h3⟩
      obtain ⟨ks, h0, h4⟩ := tkey_of.mp h1
      exact ⟨ks, kk, v, ws, e, h0, h4, h2, rpT_X.mpr h3⟩
theorem keyOf_ck {x : PV} {a : Key} (h : keyOf x = some a) : ckey x = some (.inl a) := by
  cases x <;> first | (cases h; done) | (cases h; rfl)
theorem tkey_ck {x : PV} {a : List Key} (h : tkey x = some a) : ckey x = some (.inr a) := by
  obtain ⟨ks, rfl, e⟩ := tkey_of.mp h
  simp [e]
theorem ck_cases {x : PV} {c : Key ⊕ List Key} (h : ckey x = some c) : (∃ a, keyOf x = some a ∧ c = .inl a) ∨ ∃ a, tkey x = some a ∧ c = .inr a := by
  cases x <;> first | (cases h; done) | skip
  · cases h; exact .inl ⟨_, rfl, rfl⟩
  · cases h; exact .inl ⟨_, rfl, rfl⟩
  · obtain ⟨a, e, rfl⟩ := Option.map_eq_some_iff.mp h
    exact .inr ⟨a, e, rfl⟩
/-- f reads keys as keq compares them -/
def Reads1 (f : PV → Option κ) : Prop := ∀ k y a b, f k = some a → f y = some b → keq k y = decide (a = b)
theorem reads_K : Reads1 keyOf := fun k y a b h1 h2 => by
  unfold keq; rw [keyOf_ck h1, keyOf_ck h2]; simp
theorem reads_T : Reads1 tkey := fun k y a b h1 h2 => by
  unfold keq; rw [tkey_ck h1, tkey_ck h2]; simp
theorem val_X {f : PV → Option κ} (hf : Reads1 f) {y : PV} {b : κ} (hy : f y = some b) : ∀ {kvs : List (PV × PV)} {xs : List (κ × V)}, RpX f K H ω kvs xs →
    (valP kvs y = none ∧ valV xs b = none) ∨ ∃ r v, valP kvs y = some r ∧ valV xs b = some v ∧ Rp K H ω r v
  | [], xs, e => by cases e; exact .inl ⟨rfl, rfl⟩
  | (k, x) :: r, xs, ⟨kk, v, ws, e, h1, h2, h3⟩ => by
    subst e
    have q := hf k y kk b h1 hy
    by_cases hk : kk = b
    · rw [decide_eq_true hk] at q
      exact .inr ⟨x, v, by simp [valP, q], valV_pos (p := (kk, v)) hk, h2⟩
    · rw [decide_eq_false hk] at q
      have := val_X hf hy h3
      simp only [valP, q, Bool.false_eq_true, if_false]
      rw [valV_neg (p := (kk, v)) hk]
      exact this
theorem RpX.append {f : PV → Option κ} : ∀ {kvs ls : List (PV × PV)} {xs ys : List (κ × V)}, RpX f K H ω kvs xs → RpX f K H ω ls ys → RpX f K H ω (kvs ++ ls) (xs ++ ys)
  | [], ls, xs, ys, e, h => by cases e; exact h
  | (k, x) :: r, ls, xs, ys, ⟨kk, v, ws, e, h1, h2, h3⟩, h => by
    subst e
    exact ⟨kk, v, ws ++ ys, rfl, h1, h2, RpX.append h3 h⟩
theorem RpX.length {f : PV → Option κ} : ∀ {kvs : List (PV × PV)} {xs : List (κ × V)}, RpX f K H ω kvs xs → kvs.length = xs.length
  | [], xs, e => by cases e; rfl
  | (k, x) :: r, xs, ⟨kk, v, ws, e, h1, h2, h3⟩ => by subst e; simp [RpX.length h3]
theorem set_X {f : PV → Option κ} (hf : Reads1 f) {y v : PV} {b : κ} {w : V} (hy : f y = some b) (rv : Rp K H ω v w) : ∀ {kvs : List (PV × PV)} {xs : List (κ × V)}, RpX f K H ω kvs xs →
    RpX f K H ω (kvs.map fun p => if keq p.1 y = true then (p.1, v) else p) (xs.map fun kv => if kv.1 = b then (kv.1, w) else kv)
  | [], xs, e => by cases e; rfl
  | (k, x) :: r, xs, ⟨kk, u, ws, e, h1, h2, h3⟩ => by
    subst e
    have q := hf k y kk b h1 hy
    have ih := set_X hf hy rv h3
    by_cases hk : kk = b
    · rw [decide_eq_true hk] at q
      simp only [List.map_cons, q, if_true, if_pos hk]
      exact ⟨kk, w, _, rfl, h1, rv, ih⟩
    · rw [decide_eq_false hk] at q
      simp only [List.map_cons, q, Bool.false_eq_true, if_false, if_neg hk]
      exact ⟨kk, u, _, rfl, h1, h2, ih⟩
theorem put_X {f : PV → Option κ} (hf : Reads1 f) {y v : PV} {b : κ} {w : V} (hy : f y = some b) (rv : Rp K H ω v w) {kvs : List (PV × PV)} {xs : List (κ × V)} (h : RpX f K H ω kvs xs) : RpX f K H ω (putP kvs y v) (putK xs b w) := by
  unfold putP putK
  rw [valV_any]
  rcases val_X hf hy h with ⟨e1, e2⟩ | ⟨r, u, e1, e2, _⟩
  · rw [e1, e2]
    exact h.append ⟨b, w, [], rfl, hy, rv, rfl⟩
  · rw [e1, e2]
    exact set_X hf hy rv h
theorem drop_X {f : PV → Option κ} (hf : Reads1 f) {y : PV} {b : κ} (hy : f y = some b) : ∀ {kvs : List (PV × PV)} {xs : List (κ × V)}, RpX f K H ω kvs xs → RpX f K H ω (dropP kvs y) (dropK xs b)
  | [], xs, e => by cases e; rfl
  | (k, x) :: r, xs, ⟨kk, u, ws, e, h1, h2, h3⟩ => by
    subst e
    have q := hf k y kk b h1 hy
    have ih := drop_X hf hy h3
    unfold dropP dropK at ih ⊢
    by_cases hk : kk = b
    · rw [decide_eq_true hk] at q
      simpa [q, hk] using ih
    · rw [decide_eq_false hk] at q
      simp only [List.filter_cons, q, Bool.not_false, if_true, hk, ne_eq, not_false_eq_true, decide_true]
      exact ⟨kk, u, _, rfl, h1, h2, ih⟩
theorem RpX.up {f : PV → Option κ} {ω' : Ad} {H' : Hp} (u : Up ω H ω' H') : ∀ {kvs : List (PV × PV)} {xs : List (κ × V)}, RpX f K H ω kvs xs → RpX f K H' ω' kvs xs
  | [], _, e => e
  | (k, x) :: r, _, ⟨kk, v, ws, e, h1, h2, h3⟩ => ⟨kk, v, ws, e, h1, h2.up u, RpX.up u h3⟩
/-- a key's value -/
theorem keyOf_V {x : PV} {a : Key} {v : V} (h : keyOf x = some a) (r : Rp K H ω x v) : v = kV a := by
  cases x <;> first | (cases h; done) | (cases h; exact r)
theorem keysOf_V : ∀ {xs : List PV} {as : List Key} {vs : List V}, keysOf xs = some as → RpL K H ω xs vs → vs = as.map kV
  | [], as, vs, h, r => by cases h; exact r
  | x :: xs, as, vs, h, ⟨v, ws, e, r, rs⟩ => by
    subst e
    unfold keysOf at h
    cases q1 : keyOf x with
    | none => rw [q1] at h; cases h
    | some a =>
      cases q2 : keysOf xs with
      | none => rw [q1, q2] at h; cases h
      | some bs =>
        rw [q1, q2] at h; cases h
        rw [keyOf_V q1 r, keysOf_V q2 rs]; rfl
theorem tkey_V {x : PV} {a : List Key} {v : V} (h : tkey x = some a) (r : Rp K H ω x v) : ∃ b, v = .ref b ∧ H b = some (.tup (a.map kV)) := by
  obtain ⟨ks, rfl, e⟩ := tkey_of.mp h
  obtain ⟨b, vs, rfl, hb, rr⟩ := r
  rw [keysOf_V e rr] at hb
  exact ⟨b, rfl, hb⟩
/-- what a thing that looks like a dict is -/
theorem dct_of {S : Store} {x : PV} {v : V} {kvs : List (PV × PV)} (t : StR K ω S H) (r : Rp K H ω x v) (e : look S x = .dct kvs) : ∃ a, v = .ref a ∧ ((∃ xs, Rd H a (.dK xs) ∧ RpX keyOf K H ω kvs xs) ∨ ∃ xs, Rd H a (.dT xs) ∧ RpX tkey K H ω kvs xs) := by
  cases x <;> first | (cases e; done) | skip
  · cases (show _ = kvs from PV.dct.inj e)
    obtain ⟨a, rfl, f, q⟩ := r
    exact ⟨a, rfl, q.imp (fun ⟨xs, h1, h2⟩ => ⟨xs, h1, rpK_X.mp h2⟩) fun ⟨xs, h1, h2⟩ => ⟨xs, h1, rpT_X.mp h2⟩⟩
  · obtain ⟨a, c, o, rfl, _, _, e2, ho, hc⟩ := look_loc t r
    rw [e2] at e
    subst e
    refine ⟨a, rfl, hc.imp (fun ⟨xs, h1, h2⟩ => ⟨xs, ?_, rpK_X.mp h2⟩) fun ⟨xs, h1, h2⟩ => ⟨xs, ?_, rpT_X.mp h2⟩⟩ <;> (rw [h1] at ho; exact .of ho)
end
end Pv

namespace Pv
open PySem PySem.Spec L2 PyProof.Rows
variable [HW]
section
variable {X : Cx} {pins : List (Addr × Obj)} {σ : L2.St} {H : Hp} {s : Shared} {a : Addr} {y d : V} {u r : Value} {o : Option V} {A : Around} {E : Value → Shared → Prop}
/-- an empty dict is of either kind -/
theorem emp_both (I : Inv X pins σ H s) (e : Rd H a (.dK []) ∨ Rd H a (.dT [])) : (a == sysModules) = false ∧ s.heap.DictOf (mixKind X.prog X.w) a [] ∧ s.heap.DictOfH (tupleKind (mixKind X.prog X.w)) a [] := by
  rcases e with e | e
  · obtain ⟨_, hd, vs, rel, dd⟩ := dk_rd I.hok e
    cases rel
    refine ⟨hd, dd, ?_⟩
    obtain ⟨o, es, ep, ho, hx, hdt, hk, hp, nd⟩ := dd
    have he : es.toList = [] := by cases h : es.toList with
      | nil => rfl
      | cons b l => rw [h] at hp; cases hp
    exact ⟨o, es, ep, ho, hx, hdt, by rw [he]; rfl, (fun _ z => nomatch z), List.nodup_nil⟩
  · obtain ⟨_, hd, xs, rel, dd⟩ := dt_rd I.hok e
    cases rel
    refine ⟨hd, ?_, dd⟩
    obtain ⟨o, es, ep, ho, hx, hdt, he, hall, nd⟩ := dd
    have he' : es = #[] := by
      have : es.toList = [] := he
      exact Array.toList_eq_nil_iff.mp this
    subst he'
    exact ⟨o, _, ep, ho, hx, hdt, by intro i hi; simp at hi, .nil, List.nodup_nil⟩
def IsKey (H : Hp) (y : V) : Prop := (∃ k, y = kV k) ∨ ∃ (k : List Key) (b : Addr), y = .ref b ∧ H b = some (.tup (k.map kV))
/-- what the dict at a holds at y; an empty one of either kind -/
def DGe (H : Hp) (a : Addr) (y : V) (o : Option V) : Prop := DGet H a y o ∨ (o = none ∧ IsKey H y ∧ (Rd H a (.dK []) ∨ Rd H a (.dT [])))
theorem e_in {Q : Value → Shared → Prop} (hu : A.units + 1 < cLine) (I : Inv X pins σ H s) (g : DGe H a y o) (ry : RelV y u) (h : ∀ s', Inv X pins σ H s' → Q (.bool o.isSome) s') : wpAny (model X.prog X.w) A (compareOp .In u (.ref a)) Q E s := by
  rcases g with g | ⟨rfl, ⟨k, rfl⟩ | ⟨k, b, rfl, hb⟩, e⟩
  · exact d_in hu I g ry h
  · obtain ⟨hd, dk, _⟩ := emp_both I e
    exact wpAny_in_of (kV_is ry) hd dk.mapOf (h _ (I.tok _))
  · obtain ⟨hd, _, dt⟩ := emp_both I e
    cases (show u = Value.ref b from ry)
    exact wpAny_in_heap (tupleKind_room_in1 hu) (key_of I.hok hb) hd dt (h _ (I.tok _))
theorem e_notIn {Q : Value → Shared → Prop} (hu : A.units + 1 < cLine) (I : Inv X pins σ H s) (g : DGe H a y o) (ry : RelV y u) (h : ∀ s', Inv X pins σ H s' → Q (.bool (!o.isSome)) s') : wpAny (model X.prog X.w) A (compareOp .NotIn u (.ref a)) Q E s := by
  rcases g with g | ⟨rfl, ⟨k, rfl⟩ | ⟨k, b, rfl, hb⟩, e⟩
  · exact d_notIn hu I g ry h
  · obtain ⟨hd, dk, _⟩ := emp_both I e
    exact wpAny_notIn_of (kV_is ry) hd dk.mapOf (h _ (I.tok _))
  · obtain ⟨hd, _, dt⟩ := emp_both I e
    cases (show u = Value.ref b from ry)
    exact wpAny_notIn_heap (tupleKind_room_in1 hu) (key_of I.hok hb) hd dt (h _ (I.tok _))
theorem e_get1 {Q : Value → Shared → Prop} (hu : A.units + 1 < cLine) (I : Inv X pins σ H s) (g : DGe H a y o) (ry : RelV y u) (h : ∀ w' s', Inv X pins σ H s' → RelV (o.getD .non) w' → Q w' s') : wpAny (model X.prog X.w) A (call (.builtin "dict.get") [.ref a, u]) Q E s := by
  rcases g with g | ⟨rfl, ⟨k, rfl⟩ | ⟨k, b, rfl, hb⟩, e⟩
  · exact d_get1 hu I g ry h
  · obtain ⟨hd, dk, _⟩ := emp_both I e
    exact call_meetsIn PySem.F.slot_dict_get dk.typeIs PySem.F.entry_dict_get (PySem.F.args_dict_get_2 _ _) (meets_dict_get (mixKind X.prog X.w) a (kV_is ry) hd) ⟨_, dk.mapOf, h _ _ (I.tok _) rfl⟩
  · obtain ⟨hd, _, dt⟩ := emp_both I e
    cases (show u = Value.ref b from ry)
    exact call_meetsIn PySem.F.slot_dict_get dt.typeIs PySem.F.entry_dict_get (PySem.F.args_dict_get_2 _ _) (meetsH_dict_get (tupleKind (mixKind X.prog X.w)) a b hd) ⟨tupleKind_room_in1 hu, k, [], key_of I.hok hb, dt, h _ _ (I.tok _) rfl⟩
theorem e_get2 {Q : Value → Shared → Prop} (hu : A.units + 1 < cLine) (I : Inv X pins σ H s) (g : DGe H a y o) (ry : RelV y u) (rd : RelV d r) (h : ∀ w' s', Inv X pins σ H s' → RelV (o.getD d) w' → Q w' s') : wpAny (model X.prog X.w) A (call (.builtin "dict.get") [.ref a, u, r]) Q E s := by
  rcases g with g | ⟨rfl, ⟨k, rfl⟩ | ⟨k, b, rfl, hb⟩, e⟩
  · exact d_get2 hu I g ry rd h
  · obtain ⟨hd, dk, _⟩ := emp_both I e
    exact call_meetsIn PySem.F.slot_dict_get dk.typeIs PySem.F.entry_dict_get (PySem.F.args_dict_get_3 _ _ _) (meets_dict_get_default (mixKind X.prog X.w) a (kV_is ry) hd r) ⟨_, dk.mapOf, h _ _ (I.tok _) rd⟩
  · obtain ⟨hd, _, dt⟩ := emp_both I e
    cases (show u = Value.ref b from ry)
    exact call_meetsIn PySem.F.slot_dict_get dt.typeIs PySem.F.entry_dict_get (PySem.F.args_dict_get_3 _ _ _) (meetsH_dict_get_default (tupleKind (mixKind X.prog X.w)) a b hd r) ⟨tupleKind_room_in1 hu, k, [], key_of I.hok hb, dt, h _ _ (I.tok _) rd⟩
theorem e_len {Q : Value → Shared → Prop} {kvs : List (List Key × V)} (I : Inv X pins σ H s) (e : Rd H a (.dT kvs)) (h : ∀ t s', Inv X pins σ H s' → Q (.int kvs.length t) s') : wpAny (model X.prog X.w) A (call (.builtin "len") [.ref a]) Q E s := by
  obtain ⟨z, hd, ys, rel, dd⟩ := dt_rd I.hok e
  have hl : kvs.length = ys.length := Paired.length rel
  refine call_len_dictH hd dd (by rw [← hl]; rw [sizeLine_eq] at z; omega) ?_
  rw [← hl]
  exact h _ _ (I.tok _)
end
/-- none, a bool, a number, a text -/
@[simp] def flatP : PV → Bool
  | .non => true
  | .bl _ => true
  | .int _ => true
  | .str _ => true
  | _ => false
@[simp] def eqP : PV → PV → Bool
  | .non, .non => true
  | .bl a, .bl b => a == b
  | .bl a, .int b => (if a then 1 else 0) == b
  | .int a, .bl b => a == (if b then 1 else 0)
  | .int a, .int b => a == b
  | .str a, .str b => a == b
  | _, _ => false
/-- y may be asked of a dict with these keys -/
@[simp] def kindOk (kvs : List (PV × PV)) (y : PV) : Bool := match ckey y with
  | some (.inl _) => kvs.all fun p => (keyOf p.1).isSome
  | some (.inr _) => kvs.all fun p => (tkey p.1).isSome
  | none => false
section
variable {K : PySem.W.Frag} {H : Hp} {ω : Ad} {S : Store}
theorem isKey_of {y : PV} {w : V} {c : Key ⊕ List Key} (h : ckey y = some c) (r : Rp K H ω y w) : IsKey H w := by
  rcases ck_cases h with ⟨a, e, _⟩ | ⟨a, e, _⟩
  · exact .inl ⟨a, keyOf_V e r⟩
  · obtain ⟨b, rfl, hb⟩ := tkey_V e r
    exact .inr ⟨a, b, rfl, hb⟩
theorem allX {κ : Type} {f : PV → Option κ} {kvs : List (PV × PV)} {xs : List (κ × V)} (r : RpX f K H ω kvs xs) : kvs.all (fun p => (f p.1).isSome) = true := by
  induction kvs generalizing xs with
  | nil => rfl
  | cons p l ih =>
    obtain ⟨k, x⟩ := p
    obtain ⟨kk, v, ws, e, h1, h2, h3⟩ := r
    simp [h1, ih h3]
theorem noBoth {k : PV} {a : Key} {b : List Key} (h1 : keyOf k = some a) (h2 : tkey k = some b) : False := by
  cases k <;> first | cases h1; done | cases h2
theorem dge_of {x y : PV} {v w : V} {kvs : List (PV × PV)} (t : StR K ω S H) (r : Rp K H ω x v) (e : look S x = .dct kvs) (ry : Rp K H ω y w) (hk : kindOk kvs y = true) :
    ∃ a, v = .ref a ∧ IsD H a ∧ ((valP kvs y = none ∧ DGe H a w none) ∨ ∃ r z, valP kvs y = some r ∧ DGet H a w (some z) ∧ Rp K H ω r z) := by
  obtain ⟨a, rfl, d⟩ := dct_of t r e
  refine ⟨a, rfl, d.imp (fun ⟨xs, h, _⟩ => ⟨xs, h⟩) (fun ⟨xs, h, _⟩ => ⟨xs, h⟩), ?_⟩
  unfold kindOk at hk
  cases hc : ckey y with
  | none => rw [hc] at hk; cases hk
  | some c =>
    rw [hc] at hk
    rcases ck_cases hc with ⟨k, ek, rfl⟩ | ⟨k, ek, rfl⟩
    · have hk : kvs.all (fun p => (keyOf p.1).isSome) = true := hk
      rcases d with ⟨xs, h, rr⟩ | ⟨xs, h, rr⟩
      · have ew := keyOf_V ek ry
        rcases val_X reads_K ek rr with ⟨e1, e2⟩ | ⟨r0, z, e1, e2, rz⟩
        · exact .inl ⟨e1, .inl (.inl ⟨xs, k, h, ew, e2.symm⟩)⟩
        · exact .inr ⟨r0, z, e1, .inl ⟨xs, k, h, ew, e2.symm⟩, rz⟩
      · cases kvs with
        | nil => cases rr; exact .inl ⟨rfl, .inr ⟨rfl, isKey_of hc ry, .inr h⟩⟩
        | cons p l =>
          obtain ⟨k0, x0⟩ := p
          obtain ⟨kk, v0, ws, e0, h1, _, _⟩ := rr
          simp at hk
          obtain ⟨a0, ha0⟩ := Option.isSome_iff_exists.mp hk.1
          exact (noBoth ha0 h1).elim
    · have hk : kvs.all (fun p => (tkey p.1).isSome) = true := hk
      rcases d with ⟨xs, h, rr⟩ | ⟨xs, h, rr⟩
      · cases kvs with
        | nil => cases rr; exact .inl ⟨rfl, .inr ⟨rfl, isKey_of hc ry, .inl h⟩⟩
        | cons p l =>
          obtain ⟨k0, x0⟩ := p
          obtain ⟨kk, v0, ws, e0, h1, _, _⟩ := rr
          simp at hk
          obtain ⟨a0, ha0⟩ := Option.isSome_iff_exists.mp hk.1
          exact (noBoth h1 ha0).elim
      · obtain ⟨b, rfl, hb⟩ := tkey_V ek ry
        rcases val_X reads_T ek rr with ⟨e1, e2⟩ | ⟨r0, z, e1, e2, rz⟩
        · exact .inl ⟨e1, .inl (.inr ⟨xs, k, b, h, rfl, hb, e2.symm⟩)⟩
        · exact .inr ⟨r0, z, e1, .inr ⟨xs, k, b, h, rfl, hb, e2.symm⟩, rz⟩
end
/-! ### a[b], of dicts too -/
@[simp] def pIxD : P2 := fun S x y => match look S x with
  | .dct kvs => if kindOk kvs y = true then valP kvs y else none
  | _ => pIx S x y
@[simp] def dInD (S : Store) (x y : PV) : Option Bool := match look S y with
  | .dct kvs => if kindOk kvs x = true then some (valP kvs x).isSome else none
  | .lst xs => if flatP x = true ∧ xs.all flatP = true then some (xs.any fun z => eqP z x) else none
  | .tup xs => if flatP x = true ∧ xs.all flatP = true then some (xs.any fun z => eqP z x) else none
  | _ => dIn S x y
@[simp] def pInD : P2 := fun S x y => (dInD S x y).map .bl
@[simp] def pNotInD : P2 := fun S x y => (dInD S x y).map fun b => .bl (!b)
section
variable {X : Cx} {W : WX} {a b : Expr} {da db : Den} {pos : Pos}
theorem ixDP (hu : X.A.units + 1 < cLine) : IxR X (rP X.K pIxD) := by
  intro value slice pins s σ H x y v u Q I rx ry ⟨ω, S, px, py, r, t, r1, r2, e, k⟩ hs
  by_cases hd : ∃ kvs, look S px = .dct kvs
  · obtain ⟨kvs, hd⟩ := hd
    unfold pIxD at e
    rw [hd] at e
    simp only at e
    split at e
    · rename_i hk
      obtain ⟨a, rfl, isd, ⟨e1, _⟩ | ⟨r0, z, e1, g, rz⟩⟩ := dge_of t r1 hd r2 hk
      · rw [e1] at e; cases e
      · rw [e1] at e; cases e
        obtain rfl : v = Value.ref a := rx
        exact tail_any (dict_typeIs I g) PySem.F.slot_dict_getitem.lookup (d_getItem hu I g ry fun w' s' I' rw' => ⟨z, H, I', rw', k _ _ .refl t rz⟩) hs
    · cases e
  · have e' : pIx S px py = some r := by
      unfold pIxD at e
      split at e
      · rename_i kvs hk; exact absurd ⟨kvs, hk⟩ hd
      · exact e
    exact ixP value slice pins s σ H x y v u Q I rx ry ⟨ω, S, px, py, r, t, r1, r2, e', k⟩ hs
theorem ex_ixD (hu : X.A.units + 64 < cLine) (ha : EX X W a da) (hb : EX X W b db) (hs : PlainIx b := by intro _ _; rfl) : EX X W (.Subscript a b pos) (dBin pIxD da db) := (pe_ix (ixDP (by omega)) ha hb hs).imp fun _ _ _ => bin_P
end
end Pv

/-! dicts: in, get, len, put -/
namespace Pv
open PySem PySem.Spec L2 PyProof.Rows
variable [HW]
section
variable {K : PySem.W.Frag} {H : Hp} {ω : Ad}
theorem flatP_V {x : PV} {v : V} (f : flatP x = true) (r : Rp K H ω x v) : flatV v = true := by
  cases x <;> first | (cases f; done) | (cases (show v = _ from r); rfl)
theorem eqP_V {x y : PV} {v w : V} (f : flatP x = true) (g : flatP y = true) (r : Rp K H ω x v) (q : Rp K H ω y w) : eqP x y = eqV v w := by
  cases x <;> first | (cases f; done) | skip
  all_goals (cases y <;> first | (cases g; done) | skip)
  all_goals (cases (show v = _ from r); cases (show w = _ from q); rfl)
theorem allP_V : ∀ {xs : List PV} {vs : List V}, xs.all flatP = true → RpL K H ω xs vs → vs.all flatV = true
  | [], vs, _, r => by cases r; rfl
  | x :: xs, vs, h, ⟨v, ws, e, r, rs⟩ => by
    subst e
    simp at h
    simp [flatP_V h.1 r]
    have := allP_V (xs := xs) (by simpa using h.2) rs
    simpa using this
theorem anyP_V {x : PV} {v : V} (f : flatP x = true) (r : Rp K H ω x v) : ∀ {xs : List PV} {vs : List V}, xs.all flatP = true → RpL K H ω xs vs → (xs.any fun z => eqP z x) = inV v vs
  | [], vs, _, e => by cases e; rfl
  | y :: xs, vs, h, ⟨w, ws, e, q, rs⟩ => by
    subst e
    simp at h
    have ih := anyP_V f r (xs := xs) (by simpa using h.2) rs
    unfold inV at ih ⊢
    simp only [List.any_cons]
    rw [eqP_V h.1 f q r, ih]
end
section
variable {X : Cx} {W : WX} {o e : Expr} {es : List Expr} {da : Den} {ds : DenA}
theorem dIn_of {S : Store} {x y : PV} (h1 : ∀ kvs, look S y ≠ .dct kvs) (h2 : ∀ xs, look S y ≠ .lst xs) (h3 : ∀ xs, look S y ≠ .tup xs) : dInD S x y = dIn S x y := by
  unfold dInD
  split
  · rename_i kvs e; exact absurd e (h1 kvs)
  · rename_i kvs e; exact absurd e (h2 kvs)
  · rename_i kvs e; exact absurd e (h3 kvs)
  · rfl
theorem opP_inD (hu : X.A.units + 65 < cLine) : OpP X (compareOp .In) pInD := by
  intro pins s σ H x y v u Q I rx ry ⟨ω, S, px, py, r, t, r1, r2, e, k⟩
  by_cases hd : ∃ kvs, look S py = .dct kvs
  · obtain ⟨kvs, hd⟩ := hd
    simp only [pInD, dInD, hd] at e
    split at e
    · rename_i hk
      obtain ⟨a, rfl, isd, ⟨e1, g⟩ | ⟨r0, z, e1, g, rz⟩⟩ := dge_of t r2 hd r1 hk
      · rw [e1] at e; cases e
        obtain rfl : u = Value.ref a := ry
        exact e_in (by omega) I g rx fun s' I' => ⟨.bl false, H, I', rfl, k _ _ .refl t rfl⟩
      · rw [e1] at e; cases e
        obtain rfl : u = Value.ref a := ry
        exact e_in (by omega) I (.inl g) rx fun s' I' => ⟨.bl true, H, I', rfl, k _ _ .refl t rfl⟩
    · cases e
  · by_cases hl : ∃ xs, look S py = .lst xs
    · obtain ⟨xs, hl⟩ := hl
      simp only [pInD, dInD, hl] at e
      split at e
      · rename_i hc
        cases e
        obtain ⟨a, vs, rfl, h, rr⟩ := lst_of t r2 hl
        exact op_in_seq pins s σ H x _ v u Q I rx ry ⟨a, vs, rfl, .inl (.of h), flatP_V hc.1 r1, allP_V hc.2 rr, by rw [← anyP_V hc.1 r1 hc.2 rr]; exact k _ _ .refl t rfl⟩
      · cases e
    · by_cases ht : ∃ xs, look S py = .tup xs
      · obtain ⟨xs, ht⟩ := ht
        simp only [pInD, dInD, ht] at e
        split at e
        · rename_i hc
          cases e
          cases look_eq t r2 ht rfl
          obtain ⟨a, vs, rfl, h, rr⟩ := tup_of r2
          exact op_in_seq pins s σ H x _ v u Q I rx ry ⟨a, vs, rfl, .inr h, flatP_V hc.1 r1, allP_V hc.2 rr, by rw [← anyP_V hc.1 r1 hc.2 rr]; exact k _ _ .refl t rfl⟩
        · cases e
      · rw [pInD, dIn_of (fun z q => hd ⟨z, q⟩) (fun z q => hl ⟨z, q⟩) (fun z q => ht ⟨z, q⟩)] at e
        exact opP_in hu pins s σ H x y v u Q I rx ry ⟨ω, S, px, py, r, t, r1, r2, e, k⟩
theorem opP_notInD (hu : X.A.units + 65 < cLine) : OpP X (compareOp .NotIn) pNotInD := by
  intro pins s σ H x y v u Q I rx ry ⟨ω, S, px, py, r, t, r1, r2, e, k⟩
  by_cases hd : ∃ kvs, look S py = .dct kvs
  · obtain ⟨kvs, hd⟩ := hd
    simp only [pNotInD, dInD, hd] at e
    split at e
    · rename_i hk
      obtain ⟨a, rfl, isd, ⟨e1, g⟩ | ⟨r0, z, e1, g, rz⟩⟩ := dge_of t r2 hd r1 hk
      · rw [e1] at e; cases e
        obtain rfl : u = Value.ref a := ry
        exact e_notIn (by omega) I g rx fun s' I' => ⟨.bl true, H, I', rfl, k _ _ .refl t rfl⟩
      · rw [e1] at e; cases e
        obtain rfl : u = Value.ref a := ry
        exact e_notIn (by omega) I (.inl g) rx fun s' I' => ⟨.bl false, H, I', rfl, k _ _ .refl t rfl⟩
    · cases e
  · by_cases hl : ∃ xs, look S py = .lst xs
    · obtain ⟨xs, hl⟩ := hl
      simp only [pNotInD, dInD, hl] at e
      split at e
      · rename_i hc
        cases e
        obtain ⟨a, vs, rfl, h, rr⟩ := lst_of t r2 hl
        exact op_notIn_seq pins s σ H x _ v u Q I rx ry ⟨a, vs, rfl, .inl (.of h), flatP_V hc.1 r1, allP_V hc.2 rr, by rw [← anyP_V hc.1 r1 hc.2 rr]; exact k _ _ .refl t rfl⟩
      · cases e
    · by_cases ht : ∃ xs, look S py = .tup xs
      · obtain ⟨xs, ht⟩ := ht
        simp only [pNotInD, dInD, ht] at e
        split at e
        · rename_i hc
          cases e
          cases look_eq t r2 ht rfl
          obtain ⟨a, vs, rfl, h, rr⟩ := tup_of r2
          exact op_notIn_seq pins s σ H x _ v u Q I rx ry ⟨a, vs, rfl, .inr h, flatP_V hc.1 r1, allP_V hc.2 rr, by rw [← anyP_V hc.1 r1 hc.2 rr]; exact k _ _ .refl t rfl⟩
        · cases e
      · rw [pNotInD, dIn_of (fun z q => hd ⟨z, q⟩) (fun z q => hl ⟨z, q⟩) (fun z q => ht ⟨z, q⟩)] at e
        exact opP_notIn hu pins s σ H x y v u Q I rx ry ⟨ω, S, px, py, r, t, r1, r2, e, k⟩
/-! ### a dict's methods -/
@[simp] def isDic (S : Store) (x : PV) : Bool := match look S x with
  | .dct _ => true
  | _ => false
variable {to : TE} {t : TA} {name : Str} {apos cpos : Pos} {id : String} {r : V → List V → Hp → VK → Prop}
def IsDV (H : Hp) (x : V) : Prop := ∃ a, x = .ref a ∧ IsD H a
theorem pe_dm0 (slot : Slot "dict" name id) (hty : typeOf (.builtin id) = pure (.type "method_descriptor")) (hm : MtR X id r) (ho : PE X o to) (h1 : attributeBase o name X.env (eval o X.env) = eval o X.env := by rfl) (h2 : (apos.endLine == cpos.line) = true := by rfl) :
    PE X (.Call (.Attribute o name apos) [] [] cpos) (fun σ H Q => to σ H fun x H1 => IsDV H1 x ∧ r x [] H1 Q) := by
  constructor
  intro pins s σ H Q inv h
  apply wpAny_Call_method0_late h1 h2
  apply thn (ho.run pins s σ H _ inv h)
  rintro v s1 ⟨x, H1, inv1, rx, ⟨a, rfl, isd⟩, q⟩
  obtain rfl : v = Value.ref a := rx
  obtain ⟨t1, t2, _⟩ := isD_at inv1 isd
  exact ⟨"dict", id, PySem.F.plainAttrs_dict, slot, hty, t1, t2, Calls.callWith_builtin rfl (PySem.evalArgs_none (hm pins s1 σ H1 (.ref a) [] _ [] Q inv1 rfl .nil q))⟩
theorem pe_dm (slot : Slot "dict" name id) (hty : typeOf (.builtin id) = pure (.type "method_descriptor")) (hm : MtR X id r) (ho : PE X o to) (ha : PA X (e :: es) t) (h1 : attributeBase o name X.env (eval o X.env) = eval o X.env := by rfl)
    (h2 : ((backTo cpos (starEach (e :: es) X.env)).all (fun x => !x.1) && (backToKw cpos (keywordEach [] X.env)).all (fun x => x.1.isSome) && decide ((e :: es).length + ([] : List Keyword).length + (if ([] : List Keyword).isEmpty then 0 else 1) < 30)) = true := by rfl)
    (h3 : (apos.endLine == cpos.line) = true := by rfl) (h4 : starEach (e :: es) X.env = (false, eval e X.env) :: starEach es X.env := by rfl) (h5 : (backTo cpos (starEach es X.env)).any (·.1) = false := by rfl) :
    PE X (.Call (.Attribute o name apos) (e :: es) [] cpos) (fun σ H Q => to σ H fun x H1 => IsDV H1 x ∧ t σ H1 fun xs H2 => r x xs H2 Q) := by
  constructor
  intro pins s σ H Q inv h
  apply wpAny_Call_method_late h1 h2 h3 rfl
  apply thn (ho.run pins s σ H _ inv h)
  rintro v s1 ⟨x, H1, inv1, rx, ⟨a, rfl, isd⟩, q⟩
  obtain rfl : v = Value.ref a := rx
  obtain ⟨t1, t2, _⟩ := isD_at inv1 isd
  refine ⟨"dict", id, PySem.F.plainAttrs_dict, slot, hty, t1, t2, ?_⟩
  have args := ha.run cpos pins s1 σ H1 _ inv1 q
  rw [h4] at args ⊢
  refine Calls.callWith_builtin (by show (false || (backTo cpos (starEach es X.env)).any (·.1)) = false; rw [h5] <;> rfl) (Calls.evalArgs_plain (thn args ?_))
  rintro us s2 ⟨vs, H2, inv2, rv, z⟩
  exact hm pins s2 σ H2 (.ref a) vs _ us Q inv2 rfl rv z
theorem isDic_V {S : Store} {x : PV} {H : Hp} {ω : Ad} {v : V} (h : isDic S x = true) (t : StR X.K ω S H) (r : Rp X.K H ω x v) : IsDV H v := by
  unfold isDic at h
  split at h
  · rename_i kvs e
    obtain ⟨a, rfl, q⟩ := dct_of t r e
    exact ⟨a, rfl, q.imp (fun ⟨xs, h1, _⟩ => ⟨xs, h1⟩) fun ⟨xs, h1, _⟩ => ⟨xs, h1⟩⟩
  · cases h
theorem ex_dm {q : PM} (slot : Slot "dict" name id) (hty : typeOf (.builtin id) = pure (.type "method_descriptor")) (hm : MtP X id q) (ho : EX X W o da) (ha : AX X W (e :: es) ds) (h1 : attributeBase o name X.env (eval o X.env) = eval o X.env := by rfl)
    (h2 : ((backTo cpos (starEach (e :: es) X.env)).all (fun x => !x.1) && (backToKw cpos (keywordEach [] X.env)).all (fun x => x.1.isSome) && decide ((e :: es).length + ([] : List Keyword).length + (if ([] : List Keyword).isEmpty then 0 else 1) < 30)) = true := by rfl)
    (h3 : (apos.endLine == cpos.line) = true := by rfl) (h4 : starEach (e :: es) X.env = (false, eval e X.env) :: starEach es X.env := by rfl) (h5 : (backTo cpos (starEach es X.env)).any (·.1) = false := by rfl) :
    EX X W (.Call (.Attribute o name apos) (e :: es) [] cpos) (dM isDic q da ds) := (pe_dm slot hty hm ho ha h1 h2 h3 h4 h5).imp fun σ H Q ⟨ω, S, ρ, f, o⟩ => by
  refine ⟨ω, S, ρ, f, (OutP.bind o).imp fun x S1 H1 ω1 s1 t1 o1 v rv => ?_⟩
  split at o1
  · rename_i hk
    refine ⟨isDic_V hk t1 rv, ω1, S1, ρ, f.later s1 t1, (OutP.bind o1).imp fun xs S2 H2 ω2 s2 t2 o2 vs rvs => ?_⟩
    obtain ⟨r, S3, e, k⟩ := optM_P o2
    exact ⟨ω2, S2, x, xs, r, S3, t2, rv.up s2.up, rvs, e, fun v' H' s' t' r' => k H' s' t' v' r'⟩
  · exact o1.elim
theorem ex_dm0 {q : PM} (slot : Slot "dict" name id) (hty : typeOf (.builtin id) = pure (.type "method_descriptor")) (hm : MtP X id q) (ho : EX X W o da) (h1 : attributeBase o name X.env (eval o X.env) = eval o X.env := by rfl) (h2 : (apos.endLine == cpos.line) = true := by rfl) :
    EX X W (.Call (.Attribute o name apos) [] [] cpos) (dM isDic q da dNil) := (pe_dm0 slot hty hm ho h1 h2).imp fun σ H Q ⟨ω, S, ρ, f, o⟩ => by
  refine ⟨ω, S, ρ, f, (OutP.bind o).imp fun x S1 H1 ω1 s1 t1 o1 v rv => ?_⟩
  split at o1
  · rename_i hk
    refine ⟨isDic_V hk t1 rv, ?_⟩
    obtain ⟨r, S3, e, k⟩ := optM_P (show OutP X.K _ ω1 H1 (optM (q x [] S1)) _ from o1)
    exact ⟨ω1, S1, x, [], r, S3, t1, rv, rfl, e, fun v' H' s' t' r' => k H' s' t' v' r'⟩
  · exact o1.elim
@[simp] def mGet : PM := fun x vs S => match look S x, vs with
  | .dct kvs, [y] => if kindOk kvs y = true then some ((valP kvs y).getD .non, S) else none
  | .dct kvs, [y, d] => if kindOk kvs y = true then some ((valP kvs y).getD d, S) else none
  | _, _ => none
theorem mtP_get (hu : X.A.units + 1 < cLine) : MtP X "dict.get" mGet := by
  intro pins s σ H x xs v us Q I rx rs ⟨ω, S, px, ps, r, S', t, r1, r2, e, k⟩
  unfold mGet at e
  split at e
  · rename_i kvs y hd
    split at e
    · rename_i hk
      cases e
      obtain ⟨w, rfl, ry⟩ := r2.one
      obtain ⟨u, rfl, ru⟩ := vals1 rs
      obtain ⟨a, rfl, isd, ⟨e1, g⟩ | ⟨r0, z, e1, g, rz⟩⟩ := dge_of t r1 hd ry hk
      · obtain rfl : v = Value.ref a := rx
        rw [e1] at k
        exact e_get1 hu I g ru fun w' s' I' rw' => ⟨.non, H, I', rw', k _ _ .refl t rfl⟩
      · obtain rfl : v = Value.ref a := rx
        rw [e1] at k
        exact e_get1 hu I (.inl g) ru fun w' s' I' rw' => ⟨z, H, I', rw', k _ _ .refl t rz⟩
    · cases e
  · rename_i kvs y d hd
    split at e
    · rename_i hk
      cases e
      obtain ⟨w, w2, rfl, ry, rd⟩ := r2.two
      obtain ⟨u, u2, rfl, ru, ru2⟩ := vals2 rs
      obtain ⟨a, rfl, isd, ⟨e1, g⟩ | ⟨r0, z, e1, g, rz⟩⟩ := dge_of t r1 hd ry hk
      · obtain rfl : v = Value.ref a := rx
        rw [e1] at k
        exact e_get2 hu I g ru ru2 fun w' s' I' rw' => ⟨w2, H, I', rw', k _ _ .refl t rd⟩
      · obtain rfl : v = Value.ref a := rx
        rw [e1] at k
        exact e_get2 hu I (.inl g) ru ru2 fun w' s' I' rw' => ⟨z, H, I', rw', k _ _ .refl t rz⟩
    · cases e
  · cases e
end
end Pv

/-! dicts: put, pop, len -/
namespace Pv
open PySem PySem.Spec L2 PyProof.Rows
variable [HW]
section
variable {X : Cx} {pins : List (Addr × Obj)} {σ : L2.St} {H : Hp} {s : Shared} {a : Addr} {v : V} {u r : Value} {A : Around} {E : Value → Shared → Prop}
/-- an empty dict of the other kind takes its first entry -/
theorem e_setK {k : Key} {Q : Unit → Shared → Prop} (I : Inv X pins σ H s) (e : H a = some (.dT [])) (ry : RelV (kV k) u) (rv : RelV v r) (h : ∀ s', Inv X pins σ (upd H a (.dK [(k, v)])) s' → Q () s') : wpAny (model X.prog X.w) A (setItem (.ref a) u r) Q E s := by
  obtain ⟨hd, dk, _⟩ := emp_both I (.inr (.of e))
  have rel : KV ([] : List (Key × V)) ([] : List (Key × Value)) := .nil
  refine wpAny_setItem_pairs (hsz := Nat.zero_le _) (kV_is ry) dk fun h' dd' hs => h _ ?_
  have he : ∃ q, h'.get? a = some q := let ⟨q, _, _, hq, _⟩ := dd'; ⟨q, hq⟩
  exact d_write I (by rw [e]; exact True.intro) hs he (dk_new (by have := sizeLine_eq; show 1 ≤ sizeLine; omega) hd (rel.put k rv) dd')
theorem e_setT {k : List Key} {b : Addr} {Q : Unit → Shared → Prop} (hu : A.units + 1 < cLine) (I : Inv X pins σ H s) (e : H a = some (.dK [])) (hb : H b = some (.tup (k.map kV))) (rv : RelV v r) (h : ∀ s', Inv X pins σ (upd H a (.dT [(k, v)])) s' → Q () s') : wpAny (model X.prog X.w) A (setItem (.ref a) (.ref b) r) Q E s := by
  obtain ⟨hd, _, dt⟩ := emp_both I (.inl (.of e))
  have rel : KT H ([] : List (List Key × V)) [] := .nil
  refine wpAny_setItem_heap (hsz := Nat.zero_le _) (tupleKind_room_in1 hu) (key_of I.hok hb) dt fun h' dd' hs => h _ ?_
  obtain ⟨q, es, ep, hq, h2, h3, h4, _, h5⟩ := dd'
  refine d_write I (by rw [e]; exact True.intro) hs ⟨q, hq⟩ ⟨by have := sizeLine_eq; show 1 ≤ sizeLine; omega, hd, _, (rel.put k hb rv).keeps fun c ys ec => ?_, q, es, ep, hq, h2, h3, h4, h5⟩
  rw [upd_ne (ne_of ec e (fun z => nomatch z))]
  exact ec
end
/-- what a cell that is a dict holds -/
theorem dct_cell {K : PySem.W.Frag} {H : Hp} {ω : Ad} {S : Store} {n : Nat} {v : V} {kvs : List (PV × PV)} (t : StR K ω S H) (r : Rp K H ω (.loc n) v) (e : S[n]? = some (.dct kvs)) :
    ∃ a, v = .ref a ∧ ω.ν[n]? = some a ∧ ((∃ xs, H a = some (.dK xs) ∧ RpX keyOf K H ω kvs xs) ∨ ∃ xs, H a = some (.dT xs) ∧ RpX tkey K H ω kvs xs) := by
  obtain ⟨a, c, o, rfl, e2, e3, _, ho, hc⟩ := look_loc t r
  rw [e] at e3
  cases e3
  refine ⟨a, rfl, e2, hc.imp (fun ⟨xs, h1, h2⟩ => ⟨xs, ?_, rpK_X.mp h2⟩) fun ⟨xs, h1, h2⟩ => ⟨xs, ?_, rpT_X.mp h2⟩⟩ <;> (rw [h1] at ho; exact ho)
/-- o[i] = v, o the cell of a list or of a dict -/
@[simp] def qSetA : P3 := fun o i v S => match o with
  | .loc n => match S[n]? with
    | some (.dct kvs) => if kindOk kvs i = true ∧ kvs.length < sizeLine then some (S.set n (.dct (putP kvs i v))) else none
    | _ => qSetL o i v S
  | _ => none
section
variable {X : Cx}
theorem setP_any (hu : X.A.units + 64 < cLine) : PSet X (rSet X.K qSetA) := by
  intro pins s σ H o i v ov iv u Q I r1' r2' r3' ⟨ω, S, po, pi, pv, S', t, r1, r2, r3, e, k⟩
  have hu1 : X.A.units + 1 < cLine := by omega
  unfold qSetA at e
  split at e
  · rename_i n
    split at e
    · rename_i kvs e1
      split at e
      · rename_i hc
        cases e
        obtain ⟨a, rfl, ha, d⟩ := dct_cell t r1 e1
        obtain rfl : ov = Value.ref a := r1'
        have fin : ∀ {o' : HO} {H' : Hp}, H' = upd H a o' → CoR X.K H ω a (.dct (putP kvs pi pv)) o' → Q H' := fun {o' H'} eh c => by
          subst eh
          obtain ⟨s', t'⟩ := cell_set (c := .dct (putP kvs pi pv)) (o := o') t ha c
          exact k _ s' t'
        obtain ⟨hk, hl⟩ := hc
        unfold kindOk at hk
        cases hck : ckey pi with
        | none => rw [hck] at hk; cases hk
        | some c =>
          rw [hck] at hk
          rcases ck_cases hck with ⟨ky, ek, rfl⟩ | ⟨ky, ek, rfl⟩
          · have hk : kvs.all (fun p => (keyOf p.1).isSome) = true := hk
            have ew := keyOf_V ek r2
            subst ew
            rcases d with ⟨xs, h, rr⟩ | ⟨xs, h, rr⟩
            · exact d_setItem hu1 I (.inl ⟨xs, ky, h, rfl, by rw [← rr.length]; exact hl, rfl⟩) r2' r3' fun s' I' => ⟨_, I', fin rfl (.inl ⟨_, rfl, rpK_X.mpr (put_X reads_K ek r3 rr)⟩)⟩
            · cases kvs with
              | nil =>
                cases rr
                exact e_setK I h r2' r3' fun s' I' => ⟨_, I', fin rfl (.inl ⟨_, rfl, rpK_X.mpr ⟨ky, v, [], rfl, ek, r3, rfl⟩⟩)⟩
              | cons p l =>
                obtain ⟨k0, x0⟩ := p
                obtain ⟨kk, v0, ws, e0, h1, _, _⟩ := rr
                simp at hk
                obtain ⟨a0, ha0⟩ := Option.isSome_iff_exists.mp hk.1
                exact (noBoth ha0 h1).elim
          · have hk : kvs.all (fun p => (tkey p.1).isSome) = true := hk
            obtain ⟨b, rfl, hb⟩ := tkey_V ek r2
            obtain rfl : iv = Value.ref b := r2'
            rcases d with ⟨xs, h, rr⟩ | ⟨xs, h, rr⟩
            · cases kvs with
              | nil =>
                cases rr
                exact e_setT hu1 I h hb r3' fun s' I' => ⟨_, I', fin rfl (.inr ⟨_, rfl, rpT_X.mpr ⟨ky, v, [], rfl, ek, r3, rfl⟩⟩)⟩
              | cons p l =>
                obtain ⟨k0, x0⟩ := p
                obtain ⟨kk, v0, ws, e0, h1, _, _⟩ := rr
                simp at hk
                obtain ⟨a0, ha0⟩ := Option.isSome_iff_exists.mp hk.1
                exact (noBoth h1 ha0).elim
            · exact d_setItem hu1 I (.inr ⟨xs, ky, b, h, rfl, hb, by rw [← rr.length]; exact hl, rfl⟩) (show RelV (.ref b) (.ref b) from rfl) r3' fun s' I' => ⟨_, I', fin rfl (.inr ⟨_, rfl, rpT_X.mpr (put_X reads_T ek r3 rr)⟩)⟩
      · cases e
    · exact setP_list pins s σ H o i v ov iv u Q I r1' r2' r3' ⟨ω, S, _, pi, pv, S', t, r1, r2, r3, e, k⟩
  · cases e
end
/-- len(..), of dicts too -/
@[simp] def cLenD : PC' := fun S xs => match xs with
  | [x] => match look S x with
    | .dct kvs => some (.int kvs.length)
    | _ => cLen S xs
  | _ => none
section
variable {X : Cx}
theorem callP_lenD : CallP X (.builtin "len") cLenD := by
  intro pins s σ H vs us Q I r ⟨ω, S, ps, r', t, rv, e, k⟩
  match ps, e with
  | [x], e =>
    by_cases hd : ∃ kvs, look S x = .dct kvs
    · obtain ⟨kvs, hd⟩ := hd
      simp only [cLenD, hd] at e
      cases e
      obtain ⟨w, rfl, rx⟩ := rv.one
      obtain ⟨u, rfl, ru⟩ := vals1 r
      obtain ⟨a, rfl, ⟨xs, h, rr⟩ | ⟨xs, h, rr⟩⟩ := dct_of t rx hd
      · obtain rfl : u = Value.ref a := ru
        exact d_len I h fun t' s' I' => ⟨.int kvs.length, H, I', ⟨t', by rw [rr.length]⟩, k _ _ .refl t rfl⟩
      · obtain rfl : u = Value.ref a := ru
        exact e_len I h fun t' s' I' => ⟨.int kvs.length, H, I', ⟨t', by rw [rr.length]⟩, k _ _ .refl t rfl⟩
    · have e' : cLen S [x] = some r' := by
        simp only [cLenD] at e
        split at e
        · rename_i kvs hk; exact absurd ⟨kvs, hk⟩ hd
        · exact e
      exact callP_len pins s σ H vs us Q I r ⟨ω, S, _, _, t, rv, e', k⟩
end
end Pv

/-! dicts: pop -/
namespace DT
open PySem PySem.Spec PyProof.Rows
section
variable {prog : Program} {w : World} {K : Type} [DecidableEq K] {knd : HeapKind prog w K}
/-- d.pop(k), there -/
theorem popThere {d b : Addr} {k : K} (hd : (d == sysModules) = false) :
    MeetsIn prog w (Builtin.«dict.pop» ⟨[.ref d, .ref b], []⟩) (fun A R s => ∃ xs p, knd.room A.in1 ∧ knd.is s.heap k b ∧ s.heap.DictOfH knd d xs ∧ xs.length ≤ sizeLine ∧ atKey xs k = some p ∧
      ∀ h' tk, h'.DictOfH knd d (dropH xs k) → Heap.SameBut d s.heap h' → R (.ok (.ret p.2)) { s with heap := h', toks := tk }) := by
  refine .of_wp fun A R s hyp => ?_
  obtain ⟨xs, p, room, isk, dic, len, there, fin⟩ := hyp
  obtain ⟨o, es, ep, ho, hc, hdat, he, his, hn⟩ := id dic
  have size : es.size = xs.length := size_of_entries he
  have part : (keyPart (Value.ref b)).isSome = false := rfl
  unfold Builtin.«dict.pop» Builtin.Dict.keyAndDefault
  apply wpAny_bind
  apply wpAny_bind
  apply wpAny_notOrdered_dict dic.typeIs
  show wpAny _ _ (pure (d, Value.ref b, (none : Option Value))) _ _ s
  apply wpAny_pure
  simp only [part, Bool.false_eq_true, if_false]
  apply wpAny_bind
  apply wpAny_dictEntries ho hdat
  apply wpAny_bind
  apply wpAny_pure
  have full : es.isEmpty = false := by
    cases q : es.isEmpty with
    | false => rfl
    | true =>
      have z : es.size = 0 := by simpa using q
      have : xs = [] := List.length_eq_zero_iff.mp (by omega)
      rw [this] at there
      cases there
  rw [full]
  simp only [Bool.false_eq_true, if_false]
  apply wpAny_bind
  refine takeH room isk dic len (fun no => ?_) fun p' e hp hev h' hm' hs' => ?_
  · rw [there] at no; cases no
  · rw [there] at hp
    cases hp
    simp only [Option.isNone_some, Bool.false_eq_true, if_false]
    exact wpAny_bind (wpAny_letGo (wpAny_pure ⟨e.val, rfl, by rw [hev]; exact fin h' _ hm' hs'⟩))
end
end DT
namespace Pv
open PySem PySem.Spec L2 PyProof.Rows
variable [HW]
section
variable {X : Cx} {pins : List (Addr × Obj)} {σ : L2.St} {H : Hp} {s : Shared} {a : Addr} {A : Around} {E : Value → Shared → Prop}
theorem e_popT {k : List Key} {b : Addr} {kvs : List (List Key × V)} {v : V} {Q : Value → Shared → Prop} (hu : A.units + 1 < cLine) (I : Inv X pins σ H s) (e : H a = some (.dT kvs)) (hb : H b = some (.tup (k.map kV))) (l : valV kvs k = some v)
    (h : ∀ w' s', Inv X pins σ (upd H a (.dT (dropK kvs k))) s' → RelV v w' → Q w' s') : wpAny (model X.prog X.w) A (call (.builtin "dict.pop") [.ref a, .ref b]) Q E s := by
  obtain ⟨z, hd, xs, rel, dd⟩ := dt_of I.hok e
  have hz : xs.length ≤ sizeLine := by rw [← Paired.length rel]; exact z
  obtain ⟨w', hw, rw'⟩ := RelO.some_of (v := v) (o := (atKey xs k).map (·.2)) (by rw [← l]; exact rel.val k)
  obtain ⟨p, hp, rfl⟩ := Option.map_eq_some_iff.mp hw
  refine call_meetsIn PySem.F.slot_dict_pop dd.typeIs PySem.F.entry_dict_pop (PySem.F.args_dict_pop_2 _ _) (DT.popThere (knd := tupleKind (mixKind X.prog X.w)) (k := k) hd) ⟨xs, p, tupleKind_room_in1 hu, key_of I.hok hb, dd, hz, hp, fun h' tk dd' hs => ?_⟩
  obtain ⟨o, es, ep, hq, h2, h3, h4, _, h5⟩ := dd'
  refine h _ _ (d_write I (by rw [e]; exact True.intro) hs ⟨o, hq⟩ ⟨Nat.le_trans (dropK_le kvs k) z, hd, _, (L2.DX.KT_drop k rel).keeps fun c ys ec => ?_, o, es, ep, hq, h2, h3, h4, h5⟩) rw'
  rw [upd_ne (ne_of ec e (fun z => nomatch z))]
  exact ec
/-- d.pop(k), there, d a cell -/
@[simp] def mDPop : PM := fun x vs S => match x, vs with
  | .loc n, [y] => match S[n]? with
    | some (.dct kvs) => if kindOk kvs y = true then (valP kvs y).map fun r => (r, S.set n (.dct (dropP kvs y))) else none
    | _ => none
  | _, _ => none
theorem mtP_dpop (hu : X.A.units + 64 < cLine) : MtP X "dict.pop" mDPop := by
  intro pins s σ H x xs v us Q I rx rs ⟨ω, S, px, ps, r, S', t, r1, r2, e, k⟩
  unfold mDPop at e
  split at e
  · rename_i n y
    split at e
    · rename_i kvs e1
      split at e
      · rename_i hk
        obtain ⟨r0, e2, e3⟩ := Option.map_eq_some_iff.mp e
        cases e3
        obtain ⟨w, rfl, ry⟩ := r2.one
        obtain ⟨u, rfl, ru⟩ := vals1 rs
        obtain ⟨a, rfl, ha, d⟩ := dct_cell t r1 e1
        obtain rfl : v = Value.ref a := rx
        have fin : ∀ {o' : HO} {z : V} {H' : Hp}, H' = upd H a o' → Rp X.K H ω r z → CoR X.K H ω a (.dct (dropP kvs y)) o' → Q z H' := fun {o' z H'} eh rz c => by
          subst eh
          obtain ⟨s', t'⟩ := cell_set (c := .dct (dropP kvs y)) (o := o') t ha c
          exact k _ _ s' t' (rz.up s'.up)
        unfold kindOk at hk
        cases hck : ckey y with
        | none => rw [hck] at hk; cases hk
        | some c =>
          rw [hck] at hk
          rcases ck_cases hck with ⟨ky, ek, rfl⟩ | ⟨ky, ek, rfl⟩
          · have hk : kvs.all (fun p => (keyOf p.1).isSome) = true := hk
            have ew := keyOf_V ek ry
            subst ew
            rcases d with ⟨xs, h, rr⟩ | ⟨xs, h, rr⟩
            · rcases val_X reads_K ek rr with ⟨q1, q2⟩ | ⟨r1', z, q1, q2, rz⟩
              · rw [q1] at e2; cases e2
              · rw [q1] at e2; cases e2
                exact d_pop I h ru q2 (.inl rfl) fun w' s' I' rw' => ⟨z, _, I', rw', fin rfl rz (.inl ⟨_, rfl, rpK_X.mpr (drop_X reads_K ek rr)⟩)⟩
            · cases kvs with
              | nil => cases e2
              | cons p l =>
                obtain ⟨k0, x0⟩ := p
                obtain ⟨kk, v0, ws, e0, h1, _, _⟩ := rr
                simp at hk
                obtain ⟨a0, ha0⟩ := Option.isSome_iff_exists.mp hk.1
                exact (noBoth ha0 h1).elim
          · have hk : kvs.all (fun p => (tkey p.1).isSome) = true := hk
            obtain ⟨b, rfl, hb⟩ := tkey_V ek ry
            obtain rfl : u = Value.ref b := ru
            rcases d with ⟨xs, h, rr⟩ | ⟨xs, h, rr⟩
            · cases kvs with
              | nil => cases e2
              | cons p l =>
                obtain ⟨k0, x0⟩ := p
                obtain ⟨kk, v0, ws, e0, h1, _, _⟩ := rr
                simp at hk
                obtain ⟨a0, ha0⟩ := Option.isSome_iff_exists.mp hk.1
                exact (noBoth h1 ha0).elim
            · rcases val_X reads_T ek rr with ⟨q1, q2⟩ | ⟨r1', z, q1, q2, rz⟩
              · rw [q1] at e2; cases e2
              · rw [q1] at e2; cases e2
                exact e_popT (by omega) I h hb q2 fun w' s' I' rw' => ⟨z, _, I', rw', fin rfl rz (.inr ⟨_, rfl, rpT_X.mpr (drop_X reads_T ek rr)⟩)⟩
      · cases e
    · cases e
  · cases e
end
end Pv

/-! list(d.items()) -/
namespace DT
open PySem PySem.Spec PyProof.Rows
section
variable {prog : Program} {w : World} {A : Around} {E : Value → Shared → Prop} {s : Shared} {es : Array DictEntry} {ep : Nat} {r d : Addr}
/-- list(view) -/
theorem listOf {Q : Value → Shared → Prop} (calm : A.handled = none) (view : s.heap.IsItemsView r d) (raw : Raw s.heap d es ep) (len : es.size ≤ sizeLine)
    (fin : ∀ h' tk acc c as, (∀ b o, s.heap.get? b = some o → h'.get? b = some o) → h'.get? s.heap.objs.size = some { cls := .type "list", dict := none, data := .seq acc c, slots := #[] } → as.length = es.size → Made es s.heap.objs.size h' as →
      acc.toList = as.map Value.ref → Q (.ref s.heap.objs.size) { s with heap := h', toks := tk }) : wpAny (model prog w) A (call (.type "list") [.ref r]) Q E s := by
  apply callType_codes (Q₁ := fun obj s₁ => obj = .ref s.heap.objs.size ∧ s₁ = { s with heap := s.heap.push { cls := .type "list", data := .seq #[] } }) PySem.F.called_list (PySem.F.typeCall_list_1 _) PySem.F.entry_list_init (code_list_new _ ⟨rfl, rfl⟩)
  rintro obj s₁ ⟨rfl, rfl⟩
  have new : (s.heap.push { cls := .type "list", data := .seq #[] }).get? s.heap.objs.size = some { cls := .type "list", data := .seq #[] } := Heap.get?_push_size _ rfl
  have below : r < s.heap.objs.size := let ⟨_, ho, _⟩ := view; Heap.lt_size ho
  have belowD : d < s.heap.objs.size := raw.lt
  refine ⟨⟨_, new, rfl⟩, PySem.F.args_list_init_2 _ _, ?_⟩
  show wpAny _ _ (do let old ← Builtin.List.listItems (.ref s.heap.objs.size); Builtin.List.listUpdate (.ref s.heap.objs.size) (fun _ => #[]); letGo old.toList.reverse; Builtin.List.listExtendWith (.ref s.heap.objs.size) (.ref r) .none) _ _ _
  apply wpAny_bind
  unfold Builtin.List.listItems
  apply wpAny_bind
  apply wpAny_seqItems new rfl
  apply wpAny_pure
  show wpAny _ _ (updateSeq s.heap.objs.size (fun _ => #[]) >>= fun _ => letGo (#[] : Array Value).toList.reverse >>= fun _ => Builtin.List.listExtendWith (.ref s.heap.objs.size) (.ref r) .none) _ _ _
  apply wpAny_bind
  apply wpAny_updateSeq new rfl
  have new2 := Heap.get?_update_self (Obj.mapSeq (fun _ => (#[] : Array Value))) new rfl
  have keep : ∀ b o, s.heap.get? b = some o → ((s.heap.push { cls := .type "list", data := .seq #[] }).update s.heap.objs.size (Obj.mapSeq (fun _ => (#[] : Array Value)))).get? b = some o :=
    fun b o z => (Heap.get?_update_other _ _ (Nat.ne_of_gt (Heap.lt_size z))).trans (Heap.get?_push_of_some _ z)
  apply wpAny_bind
  apply wpAny_letGo
  refine extI (A := A.in1) (es := es) (ep := ep) calm (let ⟨o, ho, x⟩ := view; ⟨o, keep r o ho, x⟩) (raw.at' fun o z => keep d o z) _ (Nat.ne_of_gt below) (Nat.ne_of_lt belowD) .none _ new2 (fun h' tk acc c as k k2 hl made hacc => ?_) len
  exact ⟨rfl, fin h' tk acc c as (fun b o z => k b o (Nat.ne_of_lt (Heap.lt_size z)) (keep b o z)) k2 hl (made.low (Nat.le_of_lt (Heap.lt_size new2))) hacc⟩
end
end DT
namespace Pv
open PySem PySem.Spec L2 PyProof.Rows
variable [HW]
/-- a dict's object and its entries, as values -/
def Ents (K : PySem.W.Frag) (H : Hp) (ω : Ad) (kvs : List (PV × PV)) (es : Array DictEntry) : Prop := kvs.length = es.size ∧ ∀ (j : Nat) (p : PV × PV) (e : DictEntry), kvs[j]? = some p → es[j]? = some e → ∃ kv v, RelV kv e.key ∧ RelV v e.val ∧ Rp K H ω p.1 kv ∧ Rp K H ω p.2 v
section
variable {X : Cx} {pins : List (Addr × Obj)} {σ : L2.St} {H : Hp} {s : Shared} {ω : Ad} {S : Store}
theorem RpX.get {κ : Type} {f : PV → Option κ} {K : PySem.W.Frag} : ∀ {kvs : List (PV × PV)} {xs : List (κ × V)} {j : Nat} {p : PV × PV}, RpX f K H ω kvs xs → kvs[j]? = some p → ∃ kk v, xs[j]? = some (kk, v) ∧ f p.1 = some kk ∧ Rp K H ω p.2 v
  | [], _, _, _, _, h => by simp at h
  | (k, x) :: r, _, 0, p, ⟨kk, v, ws, e, h1, h2, h3⟩, h => by
    subst e
    simp at h
    subst h
    exact ⟨kk, v, rfl, h1, h2⟩
  | (k, x) :: r, _, j + 1, p, ⟨kk, v, ws, e, h1, h2, h3⟩, h => by
    subst e
    obtain ⟨kk', v', e1, e2⟩ := RpX.get (j := j) h3 (by simpa using h)
    exact ⟨kk', v', by simpa using e1, e2⟩
theorem key_Rp {K : PySem.W.Frag} {x : PV} {a : Key} (h : keyOf x = some a) : Rp K H ω x (kV a) := by
  cases x <;> first | (cases h; done) | (cases h; rfl)
theorem keys_Rp {K : PySem.W.Frag} : ∀ {xs : List PV} {as : List Key}, keysOf xs = some as → RpL K H ω xs (as.map kV)
  | [], as, h => by cases h; rfl
  | x :: xs, as, h => by
    unfold keysOf at h
    cases q1 : keyOf x with
    | none => rw [q1] at h; cases h
    | some a =>
      cases q2 : keysOf xs with
      | none => rw [q1, q2] at h; cases h
      | some bs =>
        rw [q1, q2] at h; cases h
        exact ⟨kV a, bs.map kV, rfl, key_Rp q1, keys_Rp q2⟩
theorem tkey_Rp {K : PySem.W.Frag} {x : PV} {a : List Key} {b : Addr} (h : tkey x = some a) (hb : H b = some (.tup (a.map kV))) : Rp K H ω x (.ref b) := by
  obtain ⟨ks, rfl, e⟩ := tkey_of.mp h
  exact ⟨b, _, rfl, hb, keys_Rp e⟩
theorem pair_at {α β : Type} {F : α → β → Prop} : ∀ {xs : List α} {ys : List β} {i : Nat} {x : α} {y : β}, Paired F xs ys → xs[i]? = some x → ys[i]? = some y → F x y
  | _, _, i, x, y, .nil, h, _ => by simp at h
  | _, _, 0, x, y, .cons r t, h, g => by simp at h g; subst h; subst g; exact r
  | _, _, i + 1, x, y, .cons r t, h, g => pair_at t (by simpa using h) (by simpa using g)
/-- what a dict is in the heap, of either kind -/
theorem ents_of {x : PV} {v : V} {kvs : List (PV × PV)} (I : Inv X pins σ H s) (t : StR X.K ω S H) (r : Rp X.K H ω x v) (e : look S x = .dct kvs) :
    ∃ a es ep, v = .ref a ∧ IsD H a ∧ (a == sysModules) = false ∧ DT.Raw s.heap a es ep ∧ kvs.length ≤ sizeLine ∧ Ents X.K H ω kvs es := by
  obtain ⟨a, rfl, ⟨xs, h, rr⟩ | ⟨xs, h, rr⟩⟩ := dct_of t r e
  · obtain ⟨z, hd, vs, rel, o, es, ep, ho, hx, hdt, hk, hp, nd⟩ := dk_rd I.hok h
    have l1 : es.toList.length = vs.length := hp.length
    have l2 : xs.length = vs.length := Paired.length rel
    refine ⟨a, es, ep, rfl, .inl ⟨xs, h⟩, hd, ⟨o, ho, hx, hdt⟩, by rw [rr.length]; exact z, by rw [rr.length, l2, ← l1, Array.length_toList], fun j p en h1 h2 => ?_⟩
    obtain ⟨kk, u, e1, e2, e3⟩ := rr.get h1
    have hj : j < vs.length := by rw [← l2]; exact (List.getElem?_eq_some_iff.mp e1).1
    have q := pair_at rel e1 (List.getElem?_eq_getElem hj)
    have ent : ∀ {l : List DictEntry} {ws : List (Key × Value)} {i : Nat} {en : DictEntry} {w : Key × Value}, Pairs (mixKind X.prog X.w) l ws → l[i]? = some en → ws[i]? = some w → (mixKind X.prog X.w).is w.1 en.key = true ∧ en.val = w.2 := by
      intro l ws i en w hp
      induction hp generalizing i with
      | nil => intro h; simp at h
      | cons a1 a2 a3 ih =>
        cases i with
        | zero => intro h g; simp at h g; subst h; subst g; exact ⟨a1, a2⟩
        | succ i => intro h g; exact ih (by simpa using h) (by simpa using g)
    obtain ⟨g1, g2⟩ := ent hp (by rw [Array.getElem?_toList]; exact h2) (List.getElem?_eq_getElem hj)
    refine ⟨kV kk, u, ?_, by rw [g2]; exact q.2, key_Rp e2, e3⟩
    have q1 : kk = (vs[j]).1 := q.1
    rw [q1]
    exact relV_key (show keyIs (vs[j]).1 en.key = true from g1)
  · obtain ⟨z, hd, ks, rel, o, es, ep, ho, hx, hdt, he, hall, nd⟩ := dt_rd I.hok h
    have l1 : es.size = ks.length := size_of_entries he
    have l2 : xs.length = ks.length := Paired.length rel
    refine ⟨a, es, ep, rfl, .inr ⟨xs, h⟩, hd, ⟨o, ho, hx, hdt⟩, by rw [rr.length]; exact z, by rw [rr.length, l2, l1], fun j p en h1 h2 => ?_⟩
    obtain ⟨kk, u, e1, e2, e3⟩ := rr.get h1
    have hj : j < ks.length := by rw [← l2]; exact (List.getElem?_eq_some_iff.mp e1).1
    have q := pair_at rel e1 (List.getElem?_eq_getElem hj)
    have qe := entry_at he j
    rw [h2, List.getElem?_eq_getElem hj] at qe
    have qe : en = entryOfKey (tupleKind (mixKind X.prog X.w)) ks[j] := Option.some.inj qe
    obtain ⟨q1, q2, q3⟩ := q
    subst qe
    exact ⟨.ref (ks[j]).2.1, u, rfl, q3, tkey_Rp e2 q2, e3⟩
/-- new pairs are tracked -/
theorem track_pairs {tk : Nat} {h' : Heap} {S : Store} (lo : Addr) (hlo : s.heap.objs.size ≤ lo) (I0 : Inv X pins σ H s) : ∀ (kvs : List (PV × PV)) (as : List Addr) (H1 : Hp), Inv X pins σ H1 { s with heap := h', toks := tk } → StR X.K ω S H1 → as.Nodup → kvs.length = as.length →
    (∀ a ∈ as, lo < a ∧ H1 a = none) → (∀ (j : Nat) (p : PV × PV) (a : Addr), kvs[j]? = some p → as[j]? = some a → ∃ key val kv v, h'.get? a = some { cls := .type "tuple", data := .seq #[key, val] } ∧ RelV kv key ∧ RelV v val ∧ Rp X.K H1 ω p.1 kv ∧ Rp X.K H1 ω p.2 v) →
    ∃ H2, Inv X pins σ H2 { s with heap := h', toks := tk } ∧ Stp ω H1 ω H2 ∧ StR X.K ω S H2 ∧ (∀ b, b ∉ as → H2 b = H1 b) ∧ RpL X.K H2 ω (kvs.map fun p => .tup [p.1, p.2]) (as.map V.ref)
  | [], as, H1, I1, t1, _, hl, _, _ => by
    cases as with
    | nil => exact ⟨H1, I1, .refl, t1, fun _ _ => rfl, rfl⟩
    | cons a as => cases hl
  | p :: kvs, [], H1, _, _, _, hl, _, _ => by cases hl
  | p :: kvs, a :: as, H1, I1, t1, nd, hl, new, ent => by
    obtain ⟨key, val, kv, v, ho, rk, rv, r1, r2⟩ := ent 0 p a rfl rfl
    obtain ⟨hlt, hn⟩ := new a List.mem_cons_self
    have nd' := List.nodup_cons.mp nd
    have ok : ObjOk X.prog X.w (upd H1 a (.tup [kv, v])) h' a (.tup [kv, v]) := ⟨by show 2 ≤ sizeLine; have := sizeLine_eq; omega, [key, val], .cons rk (.cons rv .nil), ⟨_, ho, rfl, _, rfl⟩⟩
    have I2 : Inv X pins σ (upd H1 a (.tup [kv, v])) { s with heap := h', toks := tk } := I1.take (h' := h') (t' := tk) (fun b ob _ e => e) (I0.fpOk (Nat.le_trans hlo (Nat.le_of_lt hlt)) hn) ok
    have s2 : Stp ω H1 ω (upd H1 a (.tup [kv, v])) := new_stp hn
    have t2 : StR X.K ω S (upd H1 a (.tup [kv, v])) := open_str (new_str t1 hn)
    obtain ⟨H2, I3, s3, t3, off, rr⟩ := track_pairs lo hlo I0 kvs as (upd H1 a (.tup [kv, v])) I2 t2 nd'.2 (by simpa using hl) (fun b hb => by
        obtain ⟨g1, g2⟩ := new b (List.mem_cons_of_mem _ hb)
        exact ⟨g1, by rw [upd_ne (fun z => nd'.1 (by rw [← z]; exact hb))]; exact g2⟩) fun j q b e1 e2 => by
      obtain ⟨key, val, kv, v, f1, f2, f3, f4, f5⟩ := ent (j + 1) q b (by simpa using e1) (by simpa using e2)
      exact ⟨key, val, kv, v, f1, f2, f3, f4.up s2.up, f5.up s2.up⟩
    refine ⟨H2, I3, s2.trans s3, t3, fun b hb => ?_, .ref a, as.map V.ref, rfl, ⟨a, [kv, v], rfl, ?_, kv, [v], rfl, (r1.up s2.up).up s3.up, v, [], rfl, (r2.up s2.up).up s3.up, rfl⟩, rr⟩
    · rw [off b (fun z => hb (List.mem_cons_of_mem _ z)), upd_ne (fun z => hb (by rw [z]; exact List.mem_cons_self))]
    · rw [off a nd'.1, upd_same]
/-- list(e.items()) -/
@[simp] def dItems (d : Den) : Den := fun ρ S => (d ρ S).then fun x S1 => match look S1 x with
  | .dct kvs => .ok (.lst (kvs.map fun p => .tup [p.1, p.2])) S1
  | _ => .stuck
end
section
variable {X : Cx} {W : WX} {e : Expr} {de : Den} {p apos cpos pos : Pos}
theorem ef_items (hc : X.calm = true) (he : EX X W e de) (hg : Gl X "list") (hm : X.mg "list" = none) (hv : bootBuiltins "list" = some (.type "list")) (hbase : attributeBase e "items" X.env (eval e X.env) = eval e X.env := by rfl) (hline : (apos.endLine == cpos.line) = true := by rfl)
    (hs : starEach [.Call (.Attribute e "items" apos) [] [] cpos] X.env = (false, eval (.Call (.Attribute e "items" apos) [] [] cpos) X.env) :: starEach [] X.env := by rfl) :
    EF X W (.Call (.Name "list" p) [.Call (.Attribute e "items" apos) [] [] cpos] [] pos) (dItems de) := by
  constructor
  rintro pins s σ H Q I ⟨ω, S, ρ, f, o⟩
  apply wpAny_Call_Name_kw
  apply ld_blt I hg hm hv
  refine PyProof.Rows.callWith_type1 ?_ hs rfl
  rw [hs]
  show wpAny _ _ (spliced ((false, eval (.Call (.Attribute e "items" apos) [] [] cpos) X.env) :: backTo pos (starEach [] X.env))) _ _ s
  apply Calls.spliced_cons
  have run := he.run pins s σ H (fun v H1 => ∃ ω1 S1 x kvs, Stp ω H ω1 H1 ∧ StR X.K ω1 S1 H1 ∧ Rp X.K H1 ω1 x v ∧ look S1 x = .dct kvs ∧ ∀ H' p o', Stp ω1 H1 ω1 H' → H' p = some o' → H p = none → p ∉ ω1.ν → StR X.K ⟨ω1.ν, p :: ω1.B⟩ S1 H' →
      CoR X.K H' ⟨ω1.ν, p :: ω1.B⟩ p (.lst (kvs.map fun p => .tup [p.1, p.2])) o' → Q (.ref p) H') I ⟨ω, S, ρ, f, (OutP.bind o).imp fun x S1 H1 ω1 s1 t1 o1 v rv => by
    split at o1
    · rename_i kvs hk
      exact ⟨ω1, S1, x, kvs, s1, t1, rv, hk, fun H' p o' s' hp hn hν t' c => o1 H' ω1 s' (open_str t') p o' hp hn hν t' c⟩
    · exact o1.elim⟩
  refine wpAny_Call_method (T := "dict") (id := "dict.items") hbase rfl hline PySem.F.plainAttrs_dict PySem.F.slot_dict_items PySem.F.type_dict_items (thn run ?_)
  rintro u s1 ⟨x, H1, I1, rx, ω1, S1, px, kvs, st1, t1, rp, hk, fin⟩
  obtain ⟨a, es, ep, rfl, isd, low, raw, len, ents⟩ := ents_of I1 t1 rp hk
  obtain rfl : u = Value.ref a := rx
  obtain ⟨d1, d2, _⟩ := isD_at I1 isd
  refine ⟨d1, d2, ?_⟩
  show wpAny _ _ (callWith cpos (.builtin "dict.items") [.ref a] [] []) _ X.xe s1
  refine method_meetsIn PySem.F.slot_dict_items PySem.F.entry_dict_items rfl (PySem.evalArgs_none ⟨rfl, d1, PySem.F.args_dict_items_1 _, _, DT.meetsItems low, raw, ?_⟩)
  apply Calls.spliced_nil
  have I2 : Inv X pins σ H1 { s1 with heap := s1.heap.push { cls := .type "dict_items", data := .fields #[.ref a] } } := I1.kept (t' := s1.toks) fun b ob q => Heap.get?_push_of_some _ q
  have hz : es.size ≤ sizeLine := by rw [← ents.1]; exact len
  refine DT.listOf (es := es) (ep := ep) (I1.ok.hd hc) ⟨_, Heap.get?_push_size _ rfl, rfl, rfl⟩ (raw.push _) hz fun h' tk acc c as k2 hS hl made hacc => ?_
  have hS' : h'.get? (s1.heap.push { cls := .type "dict_items", data := .fields #[.ref a] }).objs.size = some { cls := .type "list", dict := none, data := .seq acc c, slots := #[] } := hS
  have I3 : Inv X pins σ H1 { s1 with heap := h', toks := tk } := I1.kept (t' := tk) fun b ob q => k2 b ob (Heap.get?_push_of_some _ q)
  have nd : as.Nodup := List.Pairwise.imp (fun {a b} (h : a < b) => Nat.ne_of_lt h) made.rise
  have bigger : s1.heap.objs.size ≤ (s1.heap.push { cls := .type "dict_items", data := .fields #[.ref a] }).objs.size := by rw [Heap.size_push]; exact Nat.le_succ _
  have new : ∀ b ∈ as, (s1.heap.push { cls := .type "dict_items", data := .fields #[.ref a] }).objs.size < b ∧ H1 b = none := fun b hb => ⟨made.above b hb, I1.hok.fresh (Nat.le_trans bigger (Nat.le_of_lt (made.above b hb)))⟩
  obtain ⟨H2, I4, s2, t2, off, rr⟩ := track_pairs (s := s1) (ω := ω1) (S := S1) (h' := h') (tk := tk) _ bigger I1 kvs as H1 I3 t1 nd (by rw [ents.1, hl]) new fun j p b e1 e2 => by
    obtain ⟨en, f1, f2⟩ := made.pairs j b e2
    obtain ⟨kv, v, g1, g2, g3, g4⟩ := ents.2 j p en e1 f1
    exact ⟨_, _, kv, v, f2, g1, g2, g3, g4⟩
  have q0 : (s1.heap.push { cls := .type "dict_items", data := .fields #[.ref a] }).objs.size ∉ as := fun z => Nat.lt_irrefl _ (new _ z).1
  have q1 : H1 (s1.heap.push { cls := .type "dict_items", data := .fields #[.ref a] }).objs.size = none := I1.hok.fresh bigger
  have q2 : H2 (s1.heap.push { cls := .type "dict_items", data := .fields #[.ref a] }).objs.size = none := by rw [off _ q0]; exact q1
  have q3 : H (s1.heap.push { cls := .type "dict_items", data := .fields #[.ref a] }).objs.size = none := by
    cases q : H (s1.heap.push { cls := .type "dict_items", data := .fields #[.ref a] }).objs.size with
    | none => rfl
    | some u => exact absurd q1 (st1.tr _ (by rw [q]; simp))
  have ok : ObjOk X.prog X.w (upd H2 (s1.heap.push { cls := .type "dict_items", data := .fields #[.ref a] }).objs.size (.lst (as.map V.ref))) h' (s1.heap.push { cls := .type "dict_items", data := .fields #[.ref a] }).objs.size (.lst (as.map V.ref)) := by
    refine ⟨by rw [List.length_map, hl]; exact hz, acc.toList, c, by rw [hacc]; exact vals_refs as, ?_⟩
    rw [Array.toArray_toList]
    exact hS'
  have I5 : Inv X pins σ (upd H2 _ (.lst (as.map V.ref))) { s1 with heap := h', toks := tk } := I4.take (h' := h') (t' := tk) (fun b ob _ e => e) (I1.fpOk bigger q2) ok
  exact ⟨.ref _, _, I5, rfl, fin _ _ _ (s2.trans (new_stp q2)) upd_same q3 (t2.out q2).1 (new_str t2 q2) ⟨_, rfl, rr.up (new_up t2 q2)⟩⟩
end
end Pv

/-! list(d), list(d.values()) -/
namespace DT
open PySem PySem.Spec PyProof.Rows
section
variable {prog : Program} {w : World}
theorem valsRaw {d : Addr} {es : Array DictEntry} {ep : Nat} (hd : (d == sysModules) = false) :
    MeetsIn prog w (Builtin.«dict.values» ⟨[.ref d], []⟩) (fun _ R s => Raw s.heap d es ep ∧ R (.ok (.ret (.ref s.heap.objs.size))) { s with heap := s.heap.push { cls := .type "dict_values", data := .fields #[.ref d] } }) := by
  refine .of_wp fun A R s hyp => ?_
  obtain ⟨raw, fin⟩ := hyp
  unfold Builtin.«dict.values»
  apply wpAny_bind
  unfold Builtin.Dict.noArgs
  apply wpAny_bind
  apply wpAny_notOrdered_dict raw.typeIs
  show wpAny _ _ (pure d) _ _ s
  apply wpAny_pure
  show wpAny _ _ (Builtin.Dict.showsAll d >>= _) _ _ s
  unfold Builtin.Dict.showsAll
  rw [if_neg (by rw [hd]; exact Bool.false_ne_true)]
  apply wpAny_bind
  apply wpAny_pure
  apply wpAny_bind
  exact wpAny_newObj_type (wpAny_pure ⟨_, rfl, fin⟩)
end
end DT
namespace Pv
open PySem PySem.Spec L2 PyProof.Rows
variable [HW]
theorem vals_of {n : Nat} {kvs : List (PV × PV)} {K : PySem.W.Frag} {H : Hp} {ω : Ad} {es : Array DictEntry} (f : PV × PV → PV) (g : DictEntry → Value) (hn : kvs.length = es.size) (h : ∀ (j : Nat) (p : PV × PV) (e : DictEntry), kvs[j]? = some p → es[j]? = some e → ∃ v, RelV v (g e) ∧ Rp K H ω (f p) v)
    {acc : Array Value} (it : ItemsOf (fun i v => ∃ hi : i < es.size, v = g es[i]) acc es.size) : ∃ vs, Vals vs acc.toList ∧ RpL K H ω (kvs.map f) vs := by
  have key : ∀ (l : List (PV × PV)) (us : List Value) (k : Nat), l.length = us.length → (∀ (j : Nat) (p : PV × PV) (u : Value), l[j]? = some p → us[j]? = some u → ∃ v, RelV v u ∧ Rp K H ω (f p) v) → ∃ vs, Vals vs us ∧ RpL K H ω (l.map f) vs := by
    intro l
    induction l with
    | nil =>
      intro us k hl _
      cases us with
      | nil => exact ⟨[], .nil, rfl⟩
      | cons a b => cases hl
    | cons p l ih =>
      intro us k hl hh
      cases us with
      | nil => cases hl
      | cons u us =>
        obtain ⟨v, r1, r2⟩ := hh 0 p u rfl rfl
        obtain ⟨vs, q1, q2⟩ := ih us k (by simpa using hl) fun j p u e1 e2 => hh (j + 1) p u (by simpa using e1) (by simpa using e2)
        exact ⟨v :: vs, .cons r1 q1, v, vs, rfl, r2, q2⟩
  refine key kvs acc.toList 0 (by have := it.1; rw [hn, ← this]; exact (Array.length_toList).symm) fun j p u e1 e2 => ?_
  obtain ⟨hi, rfl⟩ := it.2 j u (by rw [← Array.getElem?_toList]; exact e2)
  exact h j p es[j] e1 (Array.getElem?_eq_getElem hi)
/-- list(..), of dicts too -/
@[simp] def cListD : PC' := fun S xs => match xs with
  | [x] => match look S x with
    | .dct kvs => some (.lst (kvs.map (·.1)))
    | _ => cList S xs
  | _ => none
section
variable {X : Cx}
theorem callF_listD (hc : X.calm = true) : CallF X (.type "list") cListD := by
  intro pins s σ H vs us Q I r ⟨ω, S, ps, r', t, rv, e, k⟩
  match ps, e with
  | [x], e =>
    by_cases hd : ∃ kvs, look S x = .dct kvs
    · obtain ⟨kvs, hd⟩ := hd
      simp only [cListD, hd] at e
      cases e
      obtain ⟨w, rfl, rx⟩ := rv.one
      obtain ⟨u, rfl, ru⟩ := vals1 r
      obtain ⟨a, es, ep, rfl, isd, low, raw, len, ents⟩ := ents_of I t rx hd
      obtain rfl : u = Value.ref a := ru
      have hz : es.size ≤ sizeLine := by rw [← ents.1]; exact len
      refine PySem.W.kdl_call (KdlSrc.rawDict (es := es) (ep := ep) low) (I.ok.hd hc) raw hz fun h' tk acc c kp hS it => ?_
      obtain ⟨vs, q1, q2⟩ := vals_of (n := 0) (K := X.K) (H := H) (ω := ω) (kvs := kvs) (es := es) (·.1) (·.key) ents.1 (fun j p e e1 e2 => let ⟨kv, v, g1, _, g3, _⟩ := ents.2 j p e e1 e2; ⟨kv, g1, g3⟩) it
      have hn : H s.heap.objs.size = none := I.hok.fresh (Nat.le_refl _)
      have hl : vs.length ≤ sizeLine := by rw [q1.length, Array.length_toList, it.1]; exact hz
      refine ⟨.ref s.heap.objs.size, _, I.laid (t' := tk) (o := .lst vs) kp (Nat.le_refl _) ⟨hl, acc.toList, c, q1, by rw [Array.toArray_toList]; exact hS⟩, rfl, ?_⟩
      exact new_lst t hn q2 k
    · have e' : cList S [x] = some r' := by
        simp only [cListD] at e
        split at e
        · rename_i kvs hk; exact absurd ⟨kvs, hk⟩ hd
        · exact e
      exact callF_list hc pins s σ H vs us Q I r ⟨ω, S, _, _, t, rv, e', k⟩
end
/-- list(e.values()) -/
@[simp] def dVals (d : Den) : Den := fun ρ S => (d ρ S).then fun x S1 => match look S1 x with
  | .dct kvs => .ok (.lst (kvs.map (·.2))) S1
  | _ => .stuck
section
variable {X : Cx} {W : WX} {e : Expr} {de : Den} {p apos cpos pos : Pos}
theorem ef_vals (hc : X.calm = true) (he : EX X W e de) (hg : Gl X "list") (hm : X.mg "list" = none) (hv : bootBuiltins "list" = some (.type "list")) (hbase : attributeBase e "values" X.env (eval e X.env) = eval e X.env := by rfl) (hline : (apos.endLine == cpos.line) = true := by rfl)
    (hs : starEach [.Call (.Attribute e "values" apos) [] [] cpos] X.env = (false, eval (.Call (.Attribute e "values" apos) [] [] cpos) X.env) :: starEach [] X.env := by rfl) :
    EF X W (.Call (.Name "list" p) [.Call (.Attribute e "values" apos) [] [] cpos] [] pos) (dVals de) := by
  constructor
  rintro pins s σ H Q I ⟨ω, S, ρ, f, o⟩
  apply wpAny_Call_Name_kw
  apply ld_blt I hg hm hv
  refine PyProof.Rows.callWith_type1 ?_ hs rfl
  rw [hs]
  show wpAny _ _ (spliced ((false, eval (.Call (.Attribute e "values" apos) [] [] cpos) X.env) :: backTo pos (starEach [] X.env))) _ _ s
  apply Calls.spliced_cons
  have run := he.run pins s σ H (fun v H1 => ∃ ω1 S1 x kvs, Stp ω H ω1 H1 ∧ StR X.K ω1 S1 H1 ∧ Rp X.K H1 ω1 x v ∧ look S1 x = .dct kvs ∧ ∀ H' p o', Stp ω1 H1 ω1 H' → H' p = some o' → H p = none → p ∉ ω1.ν → StR X.K ⟨ω1.ν, p :: ω1.B⟩ S1 H' →
      CoR X.K H' ⟨ω1.ν, p :: ω1.B⟩ p (.lst (kvs.map (·.2))) o' → Q (.ref p) H') I ⟨ω, S, ρ, f, (OutP.bind o).imp fun x S1 H1 ω1 s1 t1 o1 v rv => by
    split at o1
    · rename_i kvs hk
      exact ⟨ω1, S1, x, kvs, s1, t1, rv, hk, fun H' p o' s' hp hn hν t' c => o1 H' ω1 s' (open_str t') p o' hp hn hν t' c⟩
    · exact o1.elim⟩
  refine wpAny_Call_method (T := "dict") (id := "dict.values") hbase rfl hline PySem.F.plainAttrs_dict PySem.F.slot_dict_values PySem.F.type_dict_values (thn run ?_)
  rintro u s1 ⟨x, H1, I1, rx, ω1, S1, px, kvs, st1, t1, rp, hk, fin⟩
  obtain ⟨a, es, ep, rfl, isd, low, raw, len, ents⟩ := ents_of I1 t1 rp hk
  obtain rfl : u = Value.ref a := rx
  obtain ⟨d1, d2, _⟩ := isD_at I1 isd
  refine ⟨d1, d2, ?_⟩
  show wpAny _ _ (callWith cpos (.builtin "dict.values") [.ref a] [] []) _ X.xe s1
  refine method_meetsIn PySem.F.slot_dict_values PySem.F.entry_dict_values rfl (PySem.evalArgs_none ⟨rfl, d1, PySem.F.args_dict_values_1 _, _, DT.valsRaw low, raw, ?_⟩)
  apply Calls.spliced_nil
  have hz : es.size ≤ sizeLine := by rw [← ents.1]; exact len
  have bigger : s1.heap.objs.size ≤ (s1.heap.push { cls := .type "dict_values", data := .fields #[.ref a] }).objs.size := by rw [Heap.size_push]; exact Nat.le_succ _
  refine PySem.W.kdl_call (KdlSrc.rawValues (es := es) (ep := ep)) (I1.ok.hd hc) ⟨⟨_, Heap.get?_push_size _ rfl, rfl, rfl⟩, raw.push _⟩ hz fun h' tk acc c k2 hS it => ?_
  have hS' : h'.get? (s1.heap.push { cls := .type "dict_values", data := .fields #[.ref a] }).objs.size = some { cls := .type "list", dict := none, data := .seq acc c, slots := #[] } := hS
  obtain ⟨vs, q1, q2⟩ := vals_of (n := 0) (K := X.K) (H := H1) (ω := ω1) (kvs := kvs) (es := es) (·.2) (·.val) ents.1 (fun j p e e1 e2 => let ⟨kv, v, _, g2, _, g4⟩ := ents.2 j p e e1 e2; ⟨v, g2, g4⟩) it
  have hn : H1 (s1.heap.push { cls := .type "dict_values", data := .fields #[.ref a] }).objs.size = none := I1.hok.fresh bigger
  have hn0 : H (s1.heap.push { cls := .type "dict_values", data := .fields #[.ref a] }).objs.size = none := by
    cases q : H (s1.heap.push { cls := .type "dict_values", data := .fields #[.ref a] }).objs.size with
    | none => rfl
    | some u => exact absurd hn (st1.tr _ (by rw [q]; simp))
  have hl : vs.length ≤ sizeLine := by rw [q1.length, Array.length_toList, it.1]; exact hz
  have I5 : Inv X pins σ (upd H1 (s1.heap.push { cls := .type "dict_values", data := .fields #[.ref a] }).objs.size (.lst vs)) { s1 with heap := h', toks := tk } :=
    I1.laid (t' := tk) (fun b ob q => k2 b ob (Heap.get?_push_of_some _ q)) bigger ⟨hl, acc.toList, c, q1, by rw [Array.toArray_toList]; exact hS'⟩
  exact ⟨.ref _, _, I5, rfl, fin _ _ _ (new_stp hn) upd_same hn0 (t1.out hn).1 (new_str t1 hn) ⟨vs, rfl, q2.up (new_up t1 hn)⟩⟩
end
end Pv

/-! sorted(..) of data -/
namespace Pv
open PySem PySem.Spec L2 PyProof.Rows
variable [HW]
open PySem.W (alike dataLe AllAlike Sortable EachIs)
def enc (x : PV) : PyData := (pd x).getD .none
def isTup1 : PyData → Bool
  | .tuple (_ :: _) => true
  | _ => false
def notNT : PyData → Bool
  | .none => false
  | .tuple _ => false
  | _ => true
/-- these can be sorted -/
def sortOk (xs : List PV) : Bool := xs.all (fun x => (pd x).isSome && decide ((enc x).depth ≤ 40)) && (xs.all fun x => xs.all fun y => alike (enc x) (enc y)) && ((xs.all fun x => isTup1 (enc x)) || xs.all fun x => notNT (enc x))
def sortP (xs : List PV) : List PV := xs.mergeSort (dataLe false enc)
@[simp] def cSorted : PC' := fun S xs => match xs with
  | [x] => match look S x with
    | .lst ys => if sortOk ys = true then some (.lst (sortP ys)) else none
    | _ => none
  | _ => none
section
variable {K : PySem.W.Frag} {H : Hp} {ω : Ad}
theorem each_of : ∀ {xs : List PV} {vs : List V} {us : List Value}, RpL K H ω xs vs → Vals vs us → EachIs (fun u x => ∃ v, RelV v u ∧ Rp K H ω x v) us xs
  | [], _, _, r, q => by cases r; cases q; exact .nil
  | x :: xs, _, _, ⟨v, ws, e, r, rs⟩, q => by
    subst e
    cases q with
    | cons h t => exact .cons ⟨v, h, r⟩ (each_of rs t)
theorem of_each : ∀ {xs : List PV} {us : List Value}, EachIs (fun u x => ∃ v, RelV v u ∧ Rp K H ω x v) us xs → ∃ vs, RpL K H ω xs vs ∧ Vals vs us
  | _, _, .nil => ⟨[], rfl, .nil⟩
  | _, _, .cons ⟨v, h, r⟩ t => let ⟨vs, a, b⟩ := of_each t; ⟨v :: vs, ⟨v, vs, rfl, r, a⟩, .cons h b⟩
end
section
variable {X : Cx}
theorem each_reads {pins : List (Addr × Obj)} {σ : L2.St} {H : Hp} {s : Shared} {ω : Ad} (I : Inv X pins σ H s) : ∀ {xs : List PV} {us : List Value}, (∀ x ∈ xs, (pd x).isSome = true) → EachIs (fun u x => ∃ v, RelV v u ∧ Rp X.K H ω x v) us xs →
    EachIs (fun u x => ∃ as, Reads s.heap u (enc x) as) us xs
  | _, _, _, .nil => .nil
  | x :: xs, _, h, .cons ⟨v, r, q⟩ t => by
    obtain ⟨d, hd⟩ := Option.isSome_iff_exists.mp (h x List.mem_cons_self)
    refine .cons ?_ (each_reads I (fun y hy => h y (List.mem_cons_of_mem _ hy)) t)
    unfold enc
    rw [hd]
    exact Dp.reads I d v _ (dp_of q hd) r
theorem callF_sorted (hu : X.A.units + 64 < cLine) : CallF X (.builtin "sorted") cSorted := by
  intro pins s σ H vs us Q I r ⟨ω, S, ps, r', t, rv, e, k⟩
  match ps, e with
  | [x], e =>
    simp only [cSorted] at e
    split at e
    · rename_i ys hk
      split at e
      · rename_i ok
        cases e
        obtain ⟨w, rfl, rx⟩ := rv.one
        obtain ⟨u, rfl, ru⟩ := vals1 r
        obtain ⟨a, ws, rfl, ha, rr⟩ := lst_of t rx hk
        obtain rfl : u = Value.ref a := ru
        obtain ⟨its, rel, pl, hz⟩ := I.list (xs := ws) (.of ha)
        unfold sortOk at ok
        simp only [Bool.and_eq_true, List.all_eq_true, decide_eq_true_eq, Bool.or_eq_true] at ok
        obtain ⟨⟨o1, o2⟩, o3⟩ := ok
        have ea := each_of rr rel
        have er := each_reads I (fun x hx => (o1 x hx).1) ea
        have al : AllAlike (ys.map enc) := by
          intro d hd d' hd'
          obtain ⟨b, hb, rfl⟩ := List.mem_map.mp hd
          obtain ⟨b', hb', rfl⟩ := List.mem_map.mp hd'
          exact o2 b hb b' hb'
        have so : Sortable (ys.map enc) := by
          rcases o3 with o3 | o3
          · refine .inl fun d hd => ?_
            obtain ⟨b, hb, rfl⟩ := List.mem_map.mp hd
            have := o3 b hb
            unfold isTup1 at this
            split at this
            · rename_i x r q; exact ⟨x, r, q⟩
            · cases this
          · refine .inr fun d hd => ?_
            obtain ⟨b, hb, rfl⟩ := List.mem_map.mp hd
            have := o3 b hb
            refine ⟨fun z => ?_, fun xs z => ?_⟩ <;> (rw [z] at this; cases this)
        have len : ys.length ≤ sizeLine := by rw [rr.length]; exact hz
        refine PySem.W.sorted_data (R := fun u x => ∃ v, RelV v u ∧ Rp X.K H ω x v) pl.isList ea er al so len (fun b hb => by have := (o1 b hb).2; omega) fun out ho hr => ?_
        obtain ⟨ws2, q1, q2⟩ := of_each hr
        obtain ⟨ep, he'⟩ := PyProof.Rows.sortedAll_at s.heap its out.toArray
        have hn : H (s.heap.objs.size + 1) = none := I.hok.fresh (Nat.le_succ _)
        have hl : ws2.length ≤ sizeLine := by rw [q2.length, ho]; exact len
        exact ⟨.ref _, upd H (s.heap.objs.size + 1) (.lst ws2), I.laid (t' := s.toks) (fun _ _ => PyProof.Rows.sortedAll_old) (Nat.le_succ _) ⟨hl, out, ep, q2, he'⟩, rfl, new_lst t hn q1 k⟩
      · cases e
    · cases e
end
end Pv

/-! tuple(..), sum(..), max(..), min(..) -/
namespace Pv
open PySem PySem.Spec L2 PyProof.Rows
variable [HW]
@[simp] def cTuple : PC' := fun S xs => match xs with
  | [x] => match look S x with
    | .lst ys => some (.tup ys)
    | .tup ys => some (.tup ys)
    | _ => none
  | _ => none
/-- all of them numbers -/
@[simp] def intsP : List PV → Option (List Int)
  | [] => some []
  | .int i :: xs => (intsP xs).map (i :: ·)
  | _ => none
@[simp] def cSum : PC' := fun S xs => match xs with
  | [x] => match look S x with
    | .lst ys => (intsP ys).map fun ns => .int ns.sum
    | _ => none
  | _ => none
@[simp] def cMaxL : PC' := fun S xs => match xs with
  | [x] => match look S x with
    | .lst ys => (intsP ys).bind fun ns => ns.max?.map .int
    | _ => none
  | _ => none
@[simp] def cMinL : PC' := fun S xs => match xs with
  | [x] => match look S x with
    | .lst ys => (intsP ys).bind fun ns => ns.min?.map .int
    | _ => none
  | _ => none
theorem intsP_V {K : PySem.W.Frag} {H : Hp} {ω : Ad} : ∀ {xs : List PV} {ns : List Int} {vs : List V}, intsP xs = some ns → RpL K H ω xs vs → vs = ns.map V.int
  | [], ns, vs, h, r => by cases h; exact r
  | x :: xs, ns, vs, h, ⟨v, ws, e, r, rs⟩ => by
    subst e
    cases x <;> first | (cases h; done) | skip
    obtain ⟨ms, e1, rfl⟩ := Option.map_eq_some_iff.mp (show (intsP xs).map _ = some ns from h)
    cases (show v = _ from r)
    rw [intsP_V e1 rs]; rfl
section
variable {X : Cx}
theorem callP_tuple : CallP X (.type "tuple") cTuple := CallR.weak call_tuple_of fun vs H Q ⟨ω, S, ps, r, t, rx, e, k⟩ => by
  match ps, e with
  | [x], e =>
    obtain ⟨v, rfl, rv⟩ := rx.one
    simp only [cTuple] at e
    split at e
    · rename_i ys hk
      cases e
      obtain ⟨a, ws, rfl, ha, rr⟩ := lst_of t rv hk
      exact ⟨a, ws, rfl, .inl ⟨.of ha, fun l hl => new_tup t hl rr fun v' H' s' t' r' => k v' H' s' t' r'⟩⟩
    · rename_i ys hk
      cases e
      cases look_eq t rv hk rfl
      obtain ⟨a, ws, rfl, ha, rr⟩ := tup_of rv
      exact ⟨a, ws, rfl, .inr ⟨ha, k _ _ .refl t rv⟩⟩
    · cases e
theorem callP_sum (hc : X.calm = true) : CallP X (.builtin "sum") cSum := CallR.weak (cr_sum hc) fun vs H Q ⟨ω, S, ps, r, t, rx, e, k⟩ => by
  match ps, e with
  | [x], e =>
    obtain ⟨v, rfl, rv⟩ := rx.one
    simp only [cSum] at e
    split at e
    · rename_i ys hk
      obtain ⟨ns, e1, rfl⟩ := Option.map_eq_some_iff.mp e
      obtain ⟨a, ws, rfl, ha, rr⟩ := lst_of t rv hk
      rw [intsP_V e1 rr] at ha
      exact ⟨a, ns, rfl, .of ha, k _ _ .refl t rfl⟩
    · cases e
theorem callP_maxL (hc : X.calm = true) : CallP X (.builtin "max") cMaxL := CallR.weak (cr_max hc) fun vs H Q ⟨ω, S, ps, r, t, rx, e, k⟩ => by
  match ps, e with
  | [x], e =>
    obtain ⟨v, rfl, rv⟩ := rx.one
    simp only [cMaxL] at e
    split at e
    · rename_i ys hk
      obtain ⟨ns, e1, e2⟩ := Option.bind_eq_some_iff.mp e
      obtain ⟨m, e3, rfl⟩ := Option.map_eq_some_iff.mp e2
      obtain ⟨a, ws, rfl, ha, rr⟩ := lst_of t rv hk
      rw [intsP_V e1 rr] at ha
      obtain ⟨m1, m2⟩ := List.max?_eq_some_iff.mp e3
      refine ⟨a, ns, rfl, .of ha, List.length_pos_of_mem m1, fun m' h1 h2 => ?_⟩
      have : m' = m := Int.le_antisymm (m2 m' h1) (h2 m m1)
      rw [this]
      exact k _ _ .refl t rfl
    · cases e
theorem callP_minL (hc : X.calm = true) : CallP X (.builtin "min") cMinL := CallR.weak (cr_min hc) fun vs H Q ⟨ω, S, ps, r, t, rx, e, k⟩ => by
  match ps, e with
  | [x], e =>
    obtain ⟨v, rfl, rv⟩ := rx.one
    simp only [cMinL] at e
    split at e
    · rename_i ys hk
      obtain ⟨ns, e1, e2⟩ := Option.bind_eq_some_iff.mp e
      obtain ⟨m, e3, rfl⟩ := Option.map_eq_some_iff.mp e2
      obtain ⟨a, ws, rfl, ha, rr⟩ := lst_of t rv hk
      rw [intsP_V e1 rr] at ha
      obtain ⟨m1, m2⟩ := List.min?_eq_some_iff.mp e3
      refine ⟨a, ns, rfl, .of ha, List.length_pos_of_mem m1, fun m' h1 h2 => ?_⟩
      have : m' = m := Int.le_antisymm (h2 m m1) (m2 m' h1)
      rw [this]
      exact k _ _ .refl t rfl
    · cases e
end
end Pv

/-! slices -/
namespace Pv
open PySem PySem.Spec L2 PyProof.Rows
variable [HW]
abbrev DenO := PEnv → M (Option Int)
@[simp] def oNone : DenO := fun _ S => .ok none S
@[simp] def oSome (d : Den) : DenO := fun ρ S => (d ρ S).then fun x S1 => match x with
  | .int i => .ok (some i) S1
  | _ => .stuck
def tXO (K : PySem.W.Frag) (W : WX) (d : DenO) : L2.St → Hp → (Option Int → Hp → Prop) → Prop := fun σ H Q => ∃ ω S ρ, From K ρ S ω σ H ∧ OutP K (fun c x H' => W c x σ H') ω H (d ρ S) fun r S' H' ω' => Q r H'
def cutP (xs : List PV) (lo hi : Option Int) : List PV := (xs.drop (HT.sIx xs.length 0 lo)).take (HT.sIx xs.length xs.length hi - HT.sIx xs.length 0 lo)
@[simp] def pCut (S : Store) (x : PV) (lo hi : Option Int) : Option PV := match look S x with
  | .lst xs => some (.lst (cutP xs lo hi))
  | .tup xs => some (.tup (cutP xs lo hi))
  | .str z => if z.length ≤ sizeLine then some (.str (cutS z lo hi)) else none
  | _ => none
@[simp] def dSl (d : Den) (lo hi : DenO) : Den := fun ρ S => (d ρ S).then fun x S1 => (lo ρ S1).then fun l S2 => (hi ρ S2).then fun h S3 => match pCut S3 x l h with
  | some r => .ok r S3
  | none => .stuck
section
variable {K : PySem.W.Frag} {H : Hp} {ω : Ad}
theorem RpL.cut {xs : List PV} {vs : List V} (r : RpL K H ω xs vs) (lo hi : Option Int) : RpL K H ω (cutP xs lo hi) (cutV vs lo hi) := by
  unfold cutP cutV
  rw [r.length]
  exact RpL.take _ (RpL.drop _ r)
end
section
variable {X : Cx} {W : WX} {e a : Expr} {de da : Den} {lo hi : Option Expr} {dl dh : DenO} {pos p2 : Pos}
theorem ox_none : PO X none (tXO X.K W oNone) := ⟨fun pins s σ H Q I ⟨ω, S, ρ, f, o⟩ => po_none.run pins s σ H Q I (o H ω .refl f.1)⟩
theorem _root_.L2.PO.imp {X : Cx} {e : Option Expr} {t t' : TO} (h : PO X e t) (i : ∀ σ H Q, t' σ H Q → t σ H Q) : PO X e t' := ⟨fun pins s σ H Q I q => h.run pins s σ H Q I (i _ _ _ q)⟩
theorem ox_some (ha : EX X W a da) : PO X (some a) (tXO X.K W (oSome da)) := (po_some ha).imp fun σ H Q ⟨ω, S, ρ, f, o⟩ => ⟨ω, S, ρ, f, (OutP.bind o).imp fun x S1 H1 ω1 s1 t1 o1 v rv => by
  split at o1
  · rename_i i
    exact ⟨i, rv, o1 H1 ω1 .refl t1⟩
  · exact o1.elim⟩
def rCut (K : PySem.W.Frag) : V → Option Int → Option Int → Hp → VK → Prop := fun x l h H Q => ∃ ω S px r, StR K ω S H ∧ Rp K H ω px x ∧ pCut S px l h = some r ∧ ∀ v H', Stp ω H ω H' → StR K ω S H' → Rp K H' ω r v → Q v H'
theorem slP : SlR X (rCut X.K) := by
  intro pins s σ H x v vl vu l h sl Q I rx hs pl pu ⟨ω, S, px, r, t, rp, e, k⟩
  unfold pCut at e
  split at e
  · rename_i xs hk
    cases e
    obtain ⟨b, vs, rfl, hb, rr⟩ := lst_of t rp hk
    exact sl_list pins s σ H _ v vl vu l h sl Q I rx hs pl pu ⟨b, vs, rfl, .of hb, fun p hp => new_lst t hp (rr.cut l h) fun q o H' s1 n1 n2 t1 c => k _ _ s1 (open_str t1) (c.pure (t.out n1) n2)⟩
  · rename_i xs hk
    cases e
    cases look_eq t rp hk rfl
    obtain ⟨b, vs, rfl, hb, rr⟩ := rp
    refine sl_tupA pins s σ H _ v vl vu l h sl Q I rx hs pl pu ⟨b, vs, rfl, .of hb, fun whole => ?_, fun _ p hp => new_tup t hp (rr.cut l h) fun v' H' s1 t1 r1 => k v' H' s1 t1 r1⟩
    refine k _ _ .refl t ⟨b, vs, rfl, hb, ?_⟩
    have := rr.cut l h
    unfold cutV at this
    rw [whole.1, whole.2] at this
    simpa using this
  · rename_i z hk
    split at e
    · rename_i hz
      cases e
      cases look_eq t rp hk rfl
      exact sl_str pins s σ H _ v vl vu l h sl Q I rx hs pl pu ⟨z, rp, hz, k _ _ .refl t rfl⟩
    · cases e
  · cases e
theorem ex_sl (he : EX X W e de) (hl : PO X lo (tXO X.K W dl)) (hh : PO X hi (tXO X.K W dh)) : EX X W (.Subscript e (.Slice lo hi none p2) pos) (dSl de dl dh) := (pe_slice slP he hl hh).imp fun σ H Q ⟨ω, S, ρ, f, o⟩ =>
  ⟨ω, S, ρ, f, (OutP.bind o).imp fun x S1 H1 ω1 s1 t1 o1 v rv => ⟨ω1, S1, ρ, f.later s1 t1, (OutP.bind o1).imp fun l S2 H2 ω2 s2 t2 o2 => ⟨ω2, S2, ρ, (f.later s1 t1).later s2 t2, (OutP.bind o2).imp fun h S3 H3 ω3 s3 t3 o3 => by
    split at o3
    · rename_i r hr
      exact ⟨ω3, S3, x, r, t3, (rv.up s2.up).up s3.up, hr, fun v' H' s4 t4 r4 => o3 H' ω3 s4 t4 v' r4⟩
    · exact o3.elim⟩⟩⟩
end
end Pv

/-! dict(list of pairs) -/
namespace Pv
open PySem PySem.Spec L2 PyProof.Rows
variable [HW]
/-- the pairs that a list holds -/
@[simp] def pairsP : List PV → Option (List (PV × PV))
  | [] => some []
  | .tup [k, v] :: xs => (pairsP xs).map ((k, v) :: ·)
  | _ => none
def mergeP (kvs : List (PV × PV)) : List (PV × PV) := kvs.foldl (fun acc p => putP acc p.1 p.2) []
/-- what the pairs are in the heap -/
structure Prs (X : Cx) (H : Hp) (ω : Ad) (s : Shared) (kvs : List (PV × PV)) (us : List Value) (ts : List Addr) (prs : List (Value × Value)) (vs : List (V × V)) : Prop where
  refs : us = ts.map Value.ref
  lt : ts.length = kvs.length
  lp : prs.length = kvs.length
  lv : vs.length = kvs.length
  «at» : ∀ (j : Nat) (p : PV × PV), kvs[j]? = some p → ∃ t q v, ts[j]? = some t ∧ prs[j]? = some q ∧ vs[j]? = some v ∧ PairAt s.heap t q.1 q.2 ∧ RelV v.1 q.1 ∧ RelV v.2 q.2 ∧ Rp X.K H ω p.1 v.1 ∧ Rp X.K H ω p.2 v.2
section
variable {X : Cx} {pins : List (Addr × Obj)} {σ : L2.St} {H : Hp} {s : Shared} {ω : Ad} {S : Store}
theorem prs_of (I : Inv X pins σ H s) : ∀ {xs : List PV} {kvs : List (PV × PV)} {ws : List V} {us : List Value}, pairsP xs = some kvs → RpL X.K H ω xs ws → Vals ws us → ∃ ts prs vs, Prs X H ω s kvs us ts prs vs
  | [], kvs, ws, us, e, r, q => by
    cases e; cases r; cases q
    exact ⟨[], [], [], rfl, rfl, rfl, rfl, fun j p h => by simp at h⟩
  | x :: xs, kvs, ws, us, e, ⟨w, wt, ew, r, rs⟩, q => by
    subst ew
    unfold pairsP at e
    split at e
    · rename_i z
      cases z
    · rename_i k v xs' z
      cases z
      obtain ⟨kvs', e1, rfl⟩ := Option.map_eq_some_iff.mp e
      cases q with
      | cons q1 q2 =>
        rename_i u ut
        obtain ⟨ts, prs, vs, P⟩ := prs_of I e1 rs q2
        obtain ⟨a, ks, rfl, ha, rr⟩ := r
        obtain ⟨vk, vv, rfl, rk, rv⟩ := rr.two
        obtain rfl : u = Value.ref a := q1
        obtain ⟨its, rel, isT, _⟩ := I.tuple (xs := [vk, vv]) (.of ha)
        obtain ⟨u1, u2, rfl, g1, g2⟩ := rel.two
        refine ⟨a :: ts, (u1, u2) :: prs, (vk, vv) :: vs, by rw [P.refs]; rfl, by simp [P.lt], by simp [P.lp], by simp [P.lv], fun j p h => ?_⟩
        cases j with
        | zero =>
          simp at h
          subst h
          exact ⟨a, (u1, u2), (vk, vv), rfl, rfl, rfl, .inl isT, g1, g2, rk, rv⟩
        | succ j =>
          obtain ⟨t, q, v, e1, e2, e3, e4⟩ := P.at j p (by simpa using h)
          exact ⟨t, q, v, by simpa using e1, by simpa using e2, by simpa using e3, e4⟩
    · cases e
theorem Prs.tail {p : PV × PV} {kvs : List (PV × PV)} {us : List Value} {ts : List Addr} {prs : List (Value × Value)} {vs : List (V × V)} (P : Prs X H ω s (p :: kvs) us ts prs vs) :
    ∃ t ts' q prs' v vs', ts = t :: ts' ∧ prs = q :: prs' ∧ vs = v :: vs' ∧ Prs X H ω s kvs (ts'.map Value.ref) ts' prs' vs' ∧ RelV v.1 q.1 ∧ RelV v.2 q.2 ∧ Rp X.K H ω p.1 v.1 ∧ Rp X.K H ω p.2 v.2 := by
  obtain ⟨h1, h2, h3, h4, h5⟩ := P
  match ts, prs, vs, h2, h3, h4 with
  | t :: ts', q :: prs', v :: vs', h2, h3, h4 =>
    obtain ⟨t0, q0, v0, e1, e2, e3, _, g1, g2, g3, g4⟩ := h5 0 p rfl
    cases e1; cases e2; cases e3
    exact ⟨t, ts', q, prs', v, vs', rfl, rfl, rfl, ⟨rfl, by simpa using h2, by simpa using h3, by simpa using h4, fun j p' e => by
      obtain ⟨a, b, c, f1, f2, f3, f4⟩ := h5 (j + 1) p' (by simpa using e)
      exact ⟨a, b, c, by simpa using f1, by simpa using f2, by simpa using f3, f4⟩⟩, g1, g2, g3, g4⟩
theorem prs_K : ∀ {kvs : List (PV × PV)} {us : List Value} {ts : List Addr} {prs : List (Value × Value)} {vs : List (V × V)}, Prs X H ω s kvs us ts prs vs → kvs.all (fun p => (keyOf p.1).isSome) = true →
    ∃ (ks : List (Key × V)) (rs : List (Key × Value)), RpX keyOf X.K H ω kvs ks ∧ KV ks rs ∧ rs.length = kvs.length ∧ ∀ (j : Nat) (q : Value × Value), prs[j]? = some q → ∃ k, rs[j]? = some (k, q.2) ∧ keyIs k q.1 = true
  | [], us, ts, prs, vs, P, _ => by
    have : prs = [] := List.length_eq_zero_iff.mp P.lp
    subst this
    exact ⟨[], [], rfl, .nil, rfl, fun j q h => by simp at h⟩
  | p :: kvs, us, ts, prs, vs, P, hk => by
    obtain ⟨t, ts', q, prs', v, vs', rfl, rfl, rfl, P', g1, g2, g3, g4⟩ := P.tail
    simp at hk
    obtain ⟨k, ek⟩ := Option.isSome_iff_exists.mp hk.1
    obtain ⟨ks, rs, h1, h2, h3, h4⟩ := prs_K P' (by simpa using hk.2)
    have ev := keyOf_V ek g3
    rw [ev] at g1
    refine ⟨(k, v.2) :: ks, (k, q.2) :: rs, ⟨k, v.2, ks, rfl, ek, g4, h1⟩, .cons ⟨rfl, g2⟩ h2, by simp [h3], fun j q' e => ?_⟩
    cases j with
    | zero => simp at e; subst e; exact ⟨k, rfl, kV_is (P := X.prog) (w := X.w) g1⟩
    | succ j => exact h4 j q' (by simpa using e)
theorem prs_T : ∀ {kvs : List (PV × PV)} {us : List Value} {ts : List Addr} {prs : List (Value × Value)} {vs : List (V × V)}, Prs X H ω s kvs us ts prs vs → kvs.all (fun p => (tkey p.1).isSome) = true →
    ∃ (ks : List (List Key × V)) (rs : List (List Key × Addr × Value)), RpX tkey X.K H ω kvs ks ∧ (∀ (acc : List (List Key × V)) (accs : List (List Key × Addr × Value)), KT H acc accs → KT H (ks.foldl (fun a kv => putK a kv.1 kv.2) acc) (storedAllH accs rs)) ∧
      rs.length = kvs.length ∧ (∀ x ∈ rs, H x.2.1 = some (.tup (x.1.map kV))) ∧ ∀ (j : Nat) (q : Value × Value), prs[j]? = some q → ∃ k b, rs[j]? = some (k, b, q.2) ∧ q.1 = .ref b
  | [], us, ts, prs, vs, P, _ => by
    have : prs = [] := List.length_eq_zero_iff.mp P.lp
    subst this
    exact ⟨[], [], rfl, fun acc accs h => h, rfl, (fun _ z => nomatch z), fun j q h => by simp at h⟩
  | p :: kvs, us, ts, prs, vs, P, hk => by
    obtain ⟨t, ts', q, prs', v, vs', rfl, rfl, rfl, P', g1, g2, g3, g4⟩ := P.tail
    simp at hk
    obtain ⟨k, ek⟩ := Option.isSome_iff_exists.mp hk.1
    obtain ⟨ks, rs, h1, h2, h3, h4, h5⟩ := prs_T P' (by simpa using hk.2)
    obtain ⟨b, ev, hb⟩ := tkey_V ek g3
    rw [ev] at g1
    have hq : q.1 = Value.ref b := g1
    refine ⟨(k, v.2) :: ks, (k, b, q.2) :: rs, ⟨k, v.2, ks, rfl, ek, g4, h1⟩, fun acc accs h => h2 _ _ (h.put k hb g2), by simp [h3], fun x hx => ?_, fun j q' e => ?_⟩
    · rcases List.mem_cons.mp hx with rfl | hx
      · exact hb
      · exact h4 x hx
    · cases j with
      | zero => simp at e; subst e; exact ⟨k, b, rfl, hq⟩
      | succ j => exact h5 j q' (by simpa using e)
theorem merge_X {κ : Type} [DecidableEq κ] {f : PV → Option κ} (hf : Reads1 f) : ∀ {kvs : List (PV × PV)} {ks : List (κ × V)} {acc : List (PV × PV)} {accs : List (κ × V)}, RpX f X.K H ω acc accs → RpX f X.K H ω kvs ks →
    RpX f X.K H ω (kvs.foldl (fun a p => putP a p.1 p.2) acc) (ks.foldl (fun a kv => putK a kv.1 kv.2) accs)
  | [], ks, acc, accs, h, e => by cases e; exact h
  | (k, x) :: r, ks, acc, accs, h, ⟨kk, v, ws, e, h1, h2, h3⟩ => by
    subst e
    have q := merge_X hf (put_X hf h1 h2 h) h3
    exact q
theorem foldput_len {κ : Type} [DecidableEq κ] : ∀ (ks acc : List (κ × V)), (ks.foldl (fun a kv => putK a kv.1 kv.2) acc).length ≤ acc.length + ks.length
  | [], acc => Nat.le_refl _
  | p :: ks, acc => by
    have h1 := foldput_len ks (putK acc p.1 p.2)
    have h2 := length_putK acc p.1 p.2
    simp only [List.foldl_cons, List.length_cons]
    omega
/-- dict(..) of a list of pairs -/
@[simp] def cDictP : PC' := fun S xs => match xs with
  | [x] => match look S x with
    | .lst ys => (pairsP ys).bind fun kvs => if (kvs.all fun p => (keyOf p.1).isSome) = true ∨ (kvs.all fun p => (tkey p.1).isSome) = true then some (.dct (mergeP kvs)) else none
    | _ => none
  | _ => none
theorem callF_dictP (hc : X.calm = true) (hu : X.A.units + 64 < cLine) : CallF X (.type "dict") cDictP := by
  intro pins s σ H vs us Q I r ⟨ω, S, ps, r', t, rv, e, k⟩
  match ps, e with
  | [x], e =>
    simp only [cDictP] at e
    split at e
    · rename_i ys hk
      obtain ⟨kvs, ep, e2⟩ := Option.bind_eq_some_iff.mp e
      split at e2
      · rename_i hkind
        cases e2
        obtain ⟨w, rfl, rx⟩ := rv.one
        obtain ⟨u, rfl, ru⟩ := vals1 r
        obtain ⟨a, ws, rfl, ha, rr⟩ := lst_of t rx hk
        obtain rfl : u = Value.ref a := ru
        obtain ⟨its, rel, pl, hz⟩ := I.list (xs := ws) (.of ha)
        obtain ⟨ts, prs, vs, P⟩ := prs_of I ep rr rel
        obtain ⟨ob, nn, ho, hcl, hdn, hdat⟩ := pl
        have lts := P.lt
        have lits : its.length = kvs.length := by rw [P.refs, List.length_map, lts]
        have hsz : prs.length ≤ sizeLine := by rw [P.lp, ← lits, ← rel.length]; exact hz
        have arg := PairArg.list (prog := X.prog) (w := X.w) a its.toArray (fun j => ts.getD j 0) prs
        have ok : PlainSeq "list" s.heap a its.toArray ∧ PairItems s.heap its.toArray (fun j => ts.getD j 0) prs := by
          refine ⟨⟨ob, nn, ho, hcl, hdn, hdat⟩, by simp [lits, P.lp], fun j kk vv hj => ?_⟩
          have hjl : j < kvs.length := by rw [← P.lp]; exact (List.getElem?_eq_some_iff.mp hj).1
          obtain ⟨t0, q0, v0, f1, f2, f3, f4, _⟩ := P.at j kvs[j] (List.getElem?_eq_getElem hjl)
          rw [hj] at f2
          cases f2
          have : ts.getD j 0 = t0 := by rw [List.getD_eq_getElem?_getD, f1]; rfl
          refine ⟨?_, ?_⟩
          · show its.toArray[j]? = some (Value.ref (ts.getD j 0))
            rw [this, List.getElem?_toArray, P.refs, List.getElem?_map, f1]; rfl
          · show PairAt s.heap (ts.getD j 0) kk vv
            rw [this]; exact f4
        have hn : H s.heap.objs.size = none := I.hok.fresh (Nat.le_refl _)
        have hm : (s.heap.objs.size == sysModules) = false := beq_eq_false_iff_ne.mpr (Nat.ne_of_gt I.big)
        rcases hkind with hkind | hkind
        · obtain ⟨ks, rs, h1, h2, h3, h4⟩ := prs_K P hkind
          refine call_dict_pairs (knd := mixKind X.prog X.w) (kvs := rs) arg (I.ok.hd hc) ok ⟨by rw [h3, P.lp], fun i key v hr => h4 i (key, v) hr⟩ hsz fun h' tk hd' kp => ?_
          have mk : KV (mergeK [] ks) (merged [] rs) := h2.merge .nil
          have len : (mergeK [] ks).length ≤ sizeLine := by
            have l1 := foldput_len ks ([] : List (Key × V))
            have l2 := h1.length
            have l3 : (mergeK [] ks).length ≤ ks.length := by simp at l1; exact l1
            rw [P.lp] at hsz
            omega
          exact ⟨.ref s.heap.objs.size, _, I.laid (t' := tk) (o := .dK (mergeK [] ks)) (fun b o q => kp b o List.not_mem_nil q) (Nat.le_refl _) (dk_new len hm mk hd'), rfl,
            k _ _ _ (new_stp hn) hn upd_same (new_str t hn) (.inl ⟨_, rfl, rpK_X.mpr ((merge_X reads_K (acc := []) (accs := []) rfl h1).up (new_up t hn))⟩)⟩
        · obtain ⟨ks, rs, h1, h2, h3, h4, h5⟩ := prs_T P hkind
          refine call_dict_pairsH (knd := tupleKind (mixKind X.prog X.w)) (ps := rs) arg (I.ok.hd hc) (tupleKind_room_in1 (A := X.A.in1) (by show X.A.units + 1 + 1 < cLine; omega)) ok ⟨by rw [h3, P.lp], fun i key v hr => h5 i (key, v) hr⟩
            (fun h' hk' x hx => key_of (I.hok.kept fun b o q => hk' b o (Nat.ne_of_lt (Heap.lt_size q)) List.not_mem_nil q) (h4 x hx)) hsz fun h' tk hd' kp => ?_
          have kt := h2 [] [] .nil
          have len : (ks.foldl (fun a kv => putK a kv.1 kv.2) []).length ≤ sizeLine := by
            have l1 := foldput_len ks ([] : List (List Key × V))
            have l2 := h1.length
            have l3 : (ks.foldl (fun a kv => putK a kv.1 kv.2) []).length ≤ ks.length := by simpa using l1
            rw [P.lp] at hsz
            omega
          obtain ⟨q, es, ep', hq, g2, g3, g4, _, g5⟩ := hd'
          exact ⟨.ref s.heap.objs.size, _, I.laid (t' := tk) (o := .dT (ks.foldl (fun a kv => putK a kv.1 kv.2) [])) (fun b o q => kp b o List.not_mem_nil q) (Nat.le_refl _)
              ⟨len, hm, _, kt.keeps fun c ys ec => by rw [upd_ne (ne_of_none ec hn)]; exact ec, q, es, ep', hq, g2, g3, g4, g5⟩, rfl,
            k _ _ _ (new_stp hn) hn upd_same (new_str t hn) (.inr ⟨_, rfl, rpT_X.mpr ((merge_X reads_T (acc := []) (accs := []) rfl h1).up (new_up t hn))⟩)⟩
      · cases e2
    · cases e
end
end Pv

/-! dict displays -/
namespace Pv
open PySem PySem.Spec L2 PyProof.Rows
variable [HW]
@[simp] def evalPs : List (Den × Den) → PEnv → M (List (PV × PV))
  | [], _, S => .ok [] S
  | (dk, dv) :: r, ρ, S => (noX (dk ρ S)).then fun k S1 => (noX (dv ρ S1)).then fun v S2 => (evalPs r ρ S2).then fun ps S3 => .ok ((k, v) :: ps) S3
@[simp] def dDispK (ds : List (Den × Den)) : Den := fun ρ S => (evalPs ds ρ S).then fun kvs S1 => if (kvs.all fun p => (keyOf p.1).isSome) = true ∧ kvs.length ≤ 15 then .ok (.dct (mergeP kvs)) S1 else .stuck
def RpVV (K : PySem.W.Frag) (H : Hp) (ω : Ad) : List (PV × PV) → List (V × V) → Prop
  | [], vs => vs = []
  | (k, x) :: xs, vs => ∃ kv v ws, vs = (kv, v) :: ws ∧ Rp K H ω k kv ∧ Rp K H ω x v ∧ RpVV K H ω xs ws
section
variable {K : PySem.W.Frag} {H H' : Hp} {ω ω' : Ad}
theorem rpVV_K : ∀ {kvs : List (PV × PV)} {vs : List (V × V)}, RpVV K H ω kvs vs → kvs.all (fun p => (keyOf p.1).isSome) = true → ∃ ks : List (Key × V), vs = ks.map (fun kv => (kV kv.1, kv.2)) ∧ RpX keyOf K H ω kvs ks ∧ ks.length = kvs.length
  | [], vs, e, _ => by cases e; exact ⟨[], rfl, rfl, rfl⟩
  | (k, x) :: r, vs, ⟨kv, v, ws, e, h1, h2, h3⟩, h => by
    subst e
    simp at h
    obtain ⟨a, ea⟩ := Option.isSome_iff_exists.mp h.1
    obtain ⟨ks, e1, e2, e3⟩ := rpVV_K h3 (by simpa using h.2)
    rw [keyOf_V ea h1, e1]
    exact ⟨(a, v) :: ks, rfl, ⟨a, v, ks, rfl, ea, h2, e2⟩, by simp [e3]⟩
/-- pairs evaluated while p is closed -/
theorem pairs_run {E : XK} {σ : L2.St} {ρ : PEnv} {p : Addr} {ω0 : Ad} {H0 : Hp} {g : List (PV × PV) → M PV} {Qf : PV → Store → Hp → Ad → Prop} {R : List (V × V) → Hp → Prop} : ∀ (ds : List (Den × Den)) (S1 : Store) (ν1 : List Addr) (H1 : Hp),
    StR K ⟨ν1, p :: ω0.B⟩ S1 H1 → EnvR K H1 ⟨ν1, p :: ω0.B⟩ ρ σ → OutP K E ω0 H0 ((evalPs ds ρ S1).then g) Qf →
    (∀ kvs S2 ν2 H2 vs, Stp ⟨ν1, p :: ω0.B⟩ H1 ⟨ν2, p :: ω0.B⟩ H2 → StR K ⟨ν2, p :: ω0.B⟩ S2 H2 → RpVV K H2 ⟨ν2, p :: ω0.B⟩ kvs vs → OutP K E ω0 H0 (g kvs S2) Qf → R vs H2) →
    tPairs (ds.map fun d => (tX K W0 d.1, tX K W0 d.2)) σ H1 R
  | [], S1, ν1, H1, t, en, o, fin => fin [] S1 ν1 H1 [] .refl t rfl o
  | (dk, dv) :: ds, S1, ν1, H1, t, en, o, fin => by
    have o1 := OutP.bindA (E' := fun c x H' => W0 c x σ H') (ω := ⟨ν1, p :: ω0.B⟩) (H := H1) (show OutP K E ω0 H0 ((noX (dk ρ S1)).then fun k S2 => ((noX (dv ρ S2)).then fun v S3 => (evalPs ds ρ S3).then fun ps S4 => .ok ((k, v) :: ps) S4).then g) Qf by rw [← then_assoc]; exact o)
    refine ⟨⟨ν1, p :: ω0.B⟩, S1, ρ, ⟨t, en⟩, o1.imp fun k S2 H2 ω2 s2 t2 o2 kv rk => ?_⟩
    obtain ⟨ν2, B2⟩ := ω2
    have e2 : B2 = p :: ω0.B := s2.bl
    subst e2
    have o3 := OutP.bindA (E' := fun c x H' => W0 c x σ H') (ω := ⟨ν2, p :: ω0.B⟩) (H := H2) (show OutP K E ω0 H0 ((noX (dv ρ S2)).then fun v S3 => ((evalPs ds ρ S3).then fun ps S4 => .ok ((k, v) :: ps) S4).then g) Qf by rw [← then_assoc]; exact o2)
    refine ⟨⟨ν2, p :: ω0.B⟩, S2, ρ, ⟨t2, en.up s2.up⟩, o3.imp fun v S3 H3 ω3 s3 t3 o4 vv rv => ?_⟩
    obtain ⟨ν3, B3⟩ := ω3
    have e3 : B3 = p :: ω0.B := s3.bl
    subst e3
    refine pairs_run ds S3 ν3 H3 t3 ((en.up s2.up).up s3.up) (g := fun ps => g ((k, v) :: ps)) (by rw [then_assoc] at o4; exact o4) fun kvs S4 ν4 H4 vs s4 t4 rr o5 => ?_
    exact fin ((k, v) :: kvs) S4 ν4 H4 ((kv, vv) :: vs) ((s2.trans s3).trans s4) t4 ⟨kv, vv, vs, rfl, ((rk.up s3.up).up s4.up), rv.up s4.up, rr⟩ o5
theorem up_closed {p : Addr} {o o' : HO} (hp : H p = some o) (nt : ∀ xs, o ≠ .tup xs) : Up ⟨ω.ν, p :: ω.B⟩ H ⟨ω.ν, p :: ω.B⟩ (upd H p o') :=
  ⟨fun _ _ z => z, fun a u e f => ⟨⟨u, by rw [upd_ne (fun z => f.2 (by rw [z]; exact List.mem_cons_self))]; exact e, .refl⟩, f⟩, fun a xs e => by
    rw [upd_ne (fun z => by rw [z, hp] at e; exact nt xs (Option.some.inj e))]; exact e⟩
theorem str_closed {p : Addr} {o o' : HO} {S : Store} (t : StR K ⟨ω.ν, p :: ω.B⟩ S H) (hp : H p = some o) (nt : ∀ xs, o ≠ .tup xs) : StR K ⟨ω.ν, p :: ω.B⟩ S (upd H p o') := by
  refine ⟨t.len, t.nd, t.nb, fun a ha => ?_, fun n c a e1 e2 => ?_⟩
  · unfold upd; split
    · simp
    · exact t.tb a ha
  · obtain ⟨u, hu, ru⟩ := t.at n c a e1 e2
    have hne : a ≠ p := fun z => t.nb a (List.mem_of_getElem? e2) (by rw [z]; exact List.mem_cons_self)
    exact ⟨u, by rw [upd_ne hne]; exact hu, ru.up (up_closed hp nt)⟩
/-- a new object that was filled while it was closed -/
theorem stp_closed {p : Addr} {o o1 : HO} {ν2 : List Addr} (hp : H p = none) (s : Stp ⟨ω.ν, p :: ω.B⟩ (upd H p o) ⟨ν2, p :: ω.B⟩ H') : Stp ω H ⟨ν2, ω.B⟩ (upd H' p o1) := by
  have ne : ∀ a u, H a = some u → a ≠ p := fun a u e z => by rw [z, hp] at e; cases e
  have old : ∀ a u, H a = some u → upd H p o a = some u := fun a u e => by rw [upd_ne (ne a u e)]; exact e
  obtain ⟨ex, e1, f1⟩ := s.nu
  refine ⟨⟨ex, e1, fun a ha => ?_⟩, rfl, fun a u e n => ?_, fun a e => ?_, fun a xs e => ?_, fun a ha u e => ?_⟩
  · have := f1 a ha
    by_cases z : a = p
    · rw [z]; exact hp
    · rw [upd_ne z] at this; exact this
  · obtain ⟨x, hx, kx⟩ := s.kp a u (old a u e) n
    exact ⟨x, by rw [upd_ne (ne a u e)]; exact hx, kx⟩
  · cases q : H a with
    | none => exact absurd q e
    | some u =>
      rw [upd_ne (ne a u q)]
      exact s.tr a (by rw [old a u q]; simp)
  · rw [upd_ne (ne a _ e)]; exact s.tp a xs (old a _ e)
  · rw [upd_ne (ne a u e)]; exact s.bk a (List.mem_cons_of_mem _ ha) u (old a u e)
end
section
variable {X : Cx} {W : WX} {pos : Pos} {keys : List (Option Expr)} {values : List Expr}
theorem ef_dispK (ds : List (Den × Den)) (h : PPs X pos keys values (ds.map fun d => (tX X.K W0 d.1, tX X.K W0 d.2))) (hall : keys.all (·.isSome) = true) (hl : keys.length = values.length) (h0 : keys ≠ []) (h15 : keys.length ≤ 15) : EF X W (.Dict keys values pos) (dDispK ds) :=
  (pe_disp h hall hl h0 h15).imp fun σ H Q ⟨ω, S, ρ, f, o⟩ p hp => by
    refine pairs_run ds S ω.ν _ (new_str f.1 hp) (f.2.up (new_up f.1 hp)) o fun kvs S2 ν2 H2 vs s2 t2 rr o2 => ?_
    have hp2 : H2 p = some (.dK []) := s2.bk p List.mem_cons_self _ upd_same
    split at o2
    · rename_i hc
      obtain ⟨ks, e1, e2, e3⟩ := rpVV_K rr hc.1
      refine ⟨hp2, ks, e1, by rw [e3]; exact hc.2, ?_⟩
      have hν : p ∉ ν2 := fun z => t2.nb p z List.mem_cons_self
      have t3 : StR X.K ⟨ν2, p :: ω.B⟩ S2 (upd H2 p (.dK (mergeK [] ks))) := str_closed (ω := ⟨ν2, ω.B⟩) t2 hp2 (fun _ z => nomatch z)
      exact o2 _ ⟨ν2, ω.B⟩ (stp_closed hp s2) (open_str (ω := ⟨ν2, ω.B⟩) t3) p _ upd_same hp hν t3
        (.inl ⟨_, rfl, rpK_X.mpr ((merge_X reads_K (X := X) (acc := []) (accs := []) rfl e2).up (up_closed (ω := ⟨ν2, ω.B⟩) hp2 (fun _ z => nomatch z)))⟩)
    · exact o2.elim
theorem pps_0 : PPs X pos [] [] ((([] : List (Den × Den))).map fun d => (tX X.K W0 d.1, tX X.K W0 d.2)) := pps_nil
theorem pps_1 {k v : Expr} {ks : List (Option Expr)} {vs : List Expr} {dk dv : Den} {ds : List (Den × Den)} (hk : EX X W0 k dk) (hv : EX X W0 v dv) (hr : PPs X pos ks vs (ds.map fun d => (tX X.K W0 d.1, tX X.K W0 d.2))) :
    PPs X pos (some k :: ks) (v :: vs) (((dk, dv) :: ds).map fun d => (tX X.K W0 d.1, tX X.K W0 d.2)) := pps_cons hk hv hr
end
end Pv

/-! dict displays with tuple keys -/
namespace Pv
open PySem PySem.Spec L2 PyProof.Rows
variable [HW]
@[simp] def dDispT (ds : List (Den × Den)) : Den := fun ρ S => (evalPs ds ρ S).then fun kvs S1 => if (kvs.all fun p => (tkey p.1).isSome) = true ∧ kvs.length ≤ 15 then .ok (.dct (mergeP kvs)) S1 else .stuck
/-- pairs whose keys are tuples -/
def TK (H : Hp) : List (V × V) → List (List Key × V) → Prop
  | [], ks => ks = []
  | (x, v) :: vs, ks => ∃ k b r, ks = (k, v) :: r ∧ x = .ref b ∧ H b = some (.tup (k.map kV)) ∧ TK H vs r
theorem TK.length {H : Hp} : ∀ {vs : List (V × V)} {ks : List (List Key × V)}, TK H vs ks → ks.length = vs.length
  | [], _, e => by cases e; rfl
  | (x, v) :: vs, _, ⟨k, b, r, e, _, _, h⟩ => by subst e; simp [TK.length h]
theorem rpVV_T {K : PySem.W.Frag} {H : Hp} {ω : Ad} : ∀ {kvs : List (PV × PV)} {vs : List (V × V)}, RpVV K H ω kvs vs → kvs.all (fun p => (tkey p.1).isSome) = true → ∃ ks : List (List Key × V), TK H vs ks ∧ RpX tkey K H ω kvs ks ∧ ks.length = kvs.length
  | [], vs, e, _ => by cases e; exact ⟨[], rfl, rfl, rfl⟩
  | (k, x) :: r, vs, ⟨kv, v, ws, e, h1, h2, h3⟩, h => by
    subst e
    simp at h
    obtain ⟨a, ea⟩ := Option.isSome_iff_exists.mp h.1
    obtain ⟨ks, e1, e2, e3⟩ := rpVV_T h3 (by simpa using h.2)
    obtain ⟨b, rfl, hb⟩ := tkey_V ea h1
    exact ⟨(a, v) :: ks, ⟨a, b, ks, rfl, rfl, hb, e1⟩, ⟨a, v, ks, rfl, ea, h2, e2⟩, by simp [e3]⟩
section
variable {X : Cx} {W : WX} {pos : Pos} {keys : List (Option Expr)} {values : List Expr} {trs : List (TE × TE)}
theorem carry_T {P : Program} {w : World} {H : Hp} {h : Heap} (ok : HOk P w H h) : ∀ {vs : List (V × V)} {ks : List (List Key × V)} {us : List (Value × Value)}, TK H vs ks → VV vs us →
    ∃ ps, CarriesH (tupleKind (mixKind P w)) h us ps ∧ ∀ (acc : List (List Key × V)) (accs : List (List Key × Addr × Value)), KT H acc accs → KT H (ks.foldl (fun a kv => putK a kv.1 kv.2) acc) (storedAllH accs ps)
  | [], _, _, e, q => by
    cases e; cases q
    exact ⟨[], trivial, fun _ _ h => h⟩
  | (x, v) :: vs, _, _, ⟨k, b, r, e, ex, hb, t⟩, q => by
    subst e
    cases q with
    | cons q1 q2 =>
      rename_i u us
      obtain ⟨ps, c, kt⟩ := carry_T ok t q2
      obtain ⟨uk, uv⟩ := u
      obtain ⟨g1, g2⟩ := q1
      rw [ex] at g1
      have hk : uk = Value.ref b := g1
      exact ⟨(k, b, uv) :: ps, ⟨hk, rfl, key_of ok hb, c⟩, fun acc accs h => kt _ _ (h.put k hb g2)⟩
theorem pe_dispT (hu : X.A.units + 1 < cLine) (h : PPs X pos keys values trs) (hall : keys.all (·.isSome) = true) (hl : keys.length = values.length) (h0 : keys ≠ []) (h15 : keys.length ≤ 15) :
    PE X (.Dict keys values pos) (fun σ H Q => ∀ p, H p = none → tPairs trs σ (upd H p (.dT [])) fun ps H2 => H2 p = some (.dT []) ∧ ∃ ks, TK H2 ps ks ∧ ks.length ≤ 15 ∧ Q (.ref p) (upd H2 p (.dT (ks.foldl (fun a kv => putK a kv.1 kv.2) [])))) := by
  constructor
  intro pins s σ H Q I q
  have hn := I.hok.fresh (Nat.le_refl s.heap.objs.size)
  have I1 := I.laid (a := s.heap.objs.size) (o := .dT []) (h' := s.heap.push { cls := .type "dict", data := .dict #[] }) (t' := s.toks) (fun _ _ q => Heap.get?_push_of_some _ q) (Nat.le_refl _) (dt_empty s.heap I.big)
  have hlen := pairTrees_length keys values X.env pos hall hl
  have ne : pairTrees keys values X.env pos ≠ [] := fun he => by
    rw [he] at hlen
    exact h0 (List.length_eq_zero_iff.mp hlen.symm)
  have le : (pairTrees keys values X.env pos).length ≤ 15 := by rw [hlen]; exact h15
  rw [arm_eval_Dict, zip_pairTrees keys values X.env pos hall hl, dictDisplay_pairs _ ne (by omega)]
  apply wpAny_bind
  apply wpAny_standAt
  apply wpAny_bind
  refine wpAny_subDictH (knd := tupleKind (mixKind X.prog X.w)) (Q := fun d s' => wpAny (model X.prog X.w) X.A (pure (Value.ref d)) (EP X pins σ Q) X.xe s') (show X.A.units < cLine by omega) le (thn (h.run pins _ σ _ _ I1 (q _ hn)) ?_)
  rintro us s2 ⟨ps, H2, I2, rel, e, ks, tk, lk, q2⟩
  obtain ⟨prs, c, kt⟩ := carry_T I2.hok tk rel
  obtain ⟨z, hd, xs0, r0, dd⟩ := dt_of I2.hok e
  cases r0
  refine ⟨prs, c, dd, fun h' tk' dd' hs => wpAny_pure ⟨.ref s.heap.objs.size, _, ?_, rfl, q2⟩⟩
  have len : (ks.foldl (fun a kv => putK a kv.1 kv.2) []).length ≤ sizeLine := by
    have := foldput_len ks ([] : List (List Key × V))
    simp at this
    rw [sizeLine_eq]; omega
  obtain ⟨ob, es, ep, hq, g2, g3, g4, _, g5⟩ := dd'
  refine d_write I2 (by rw [e]; exact True.intro) hs ⟨ob, hq⟩ ⟨len, hd, _, (kt [] [] .nil).keeps fun c ys ec => ?_, ob, es, ep, hq, g2, g3, g4, g5⟩
  rw [upd_ne (ne_of ec e (fun z => nomatch z))]
  exact ec
theorem ef_dispT (hu : X.A.units + 64 < cLine) (ds : List (Den × Den)) (h : PPs X pos keys values (ds.map fun d => (tX X.K W0 d.1, tX X.K W0 d.2))) (hall : keys.all (·.isSome) = true) (hl : keys.length = values.length) (h0 : keys ≠ []) (h15 : keys.length ≤ 15) : EF X W (.Dict keys values pos) (dDispT ds) :=
  (pe_dispT (by omega) h hall hl h0 h15).imp fun σ H Q ⟨ω, S, ρ, f, o⟩ p hp => by
    refine pairs_run ds S ω.ν _ (new_str f.1 hp) (f.2.up (new_up f.1 hp)) o fun kvs S2 ν2 H2 vs s2 t2 rr o2 => ?_
    have hp2 : H2 p = some (.dT []) := s2.bk p List.mem_cons_self _ upd_same
    split at o2
    · rename_i hc
      obtain ⟨ks, e1, e2, e3⟩ := rpVV_T rr hc.1
      refine ⟨hp2, ks, e1, by rw [e3]; exact hc.2, ?_⟩
      have hν : p ∉ ν2 := fun z => t2.nb p z List.mem_cons_self
      have t3 : StR X.K ⟨ν2, p :: ω.B⟩ S2 (upd H2 p (.dT (ks.foldl (fun a kv => putK a kv.1 kv.2) []))) := str_closed (ω := ⟨ν2, ω.B⟩) t2 hp2 (fun _ z => nomatch z)
      exact o2 _ ⟨ν2, ω.B⟩ (stp_closed hp s2) (open_str (ω := ⟨ν2, ω.B⟩) t3) p _ upd_same hp hν t3
        (.inr ⟨_, rfl, rpT_X.mpr ((merge_X reads_T (X := X) (acc := []) (accs := []) rfl e2).up (up_closed (ω := ⟨ν2, ω.B⟩) hp2 (fun _ z => nomatch z)))⟩)
    · exact o2.elim
end
end Pv

/-! is None, split -/
namespace Pv
open PySem PySem.Spec L2 PyProof.Rows
variable [HW]
def isNonP : PV → Bool
  | .non => true
  | _ => false
@[simp] def pIs : P2 := fun _ x y => match y with
  | .non => some (.bl (isNonP x))
  | _ => none
@[simp] def pIsNot : P2 := fun _ x y => match y with
  | .non => some (.bl (!isNonP x))
  | _ => none
theorem isNon_V {K : PySem.W.Frag} {H : Hp} {ω : Ad} {x : PV} {v : V} (r : Rp K H ω x v) : decide (v = .non) = isNonP x := by
  cases x with
  | non => cases (show v = _ from r); rfl
  | bl _ => cases (show v = _ from r); rfl
  | int _ => cases (show v = _ from r); rfl
  | str _ => cases (show v = _ from r); rfl
  | tup _ => obtain ⟨a, vs, rfl, _⟩ := r; rfl
  | lst _ => obtain ⟨a, vs, rfl, _⟩ := r; rfl
  | dct _ => obtain ⟨a, rfl, _⟩ := r; rfl
  | set _ => obtain ⟨a, ks, rfl, _⟩ := r; rfl
  | ins _ _ => obtain ⟨a, dx, vs, c, rfl, _⟩ := r; rfl
  | dcm _ => obtain ⟨a, o, xs, rfl, _⟩ := r; rfl
  | exn _ _ _ => exact r.elim
  | scr _ => obtain ⟨a, rfl, _⟩ := r; rfl
  | loc _ => obtain ⟨a, rfl, _⟩ := r; rfl
  | cls _ => obtain ⟨c, _, rfl⟩ := r; rfl
  | ty _ => cases (show v = _ from r); rfl
section
variable {X : Cx}
theorem opP_is : OpP X (compareOp .Is) pIs := OpR.weak op_isN fun x y H Q ⟨ω, S, px, py, r, t, rx, ry, e, k⟩ => by
  cases py <;> first | (cases e; done) | skip
  cases e
  exact ⟨ry, by rw [isNon_V rx]; exact k _ _ .refl t rfl⟩
theorem opP_isNot : OpP X (compareOp .IsNot) pIsNot := OpR.weak op_notN fun x y H Q ⟨ω, S, px, py, r, t, rx, ry, e, k⟩ => by
  cases py <;> first | (cases e; done) | skip
  cases e
  exact ⟨ry, by rw [isNon_V rx]; exact k _ _ .refl t rfl⟩
/-- s.split(b) -/
@[simp] def mSplit : PM := fun x vs S => match x, vs with
  | .str a, [.str b] => if (b.length == 0) = false ∧ a.length + 2 ≤ sizeLine then some (.lst ((Txt.split a b).map .str), S) else none
  | _, _ => none
theorem RpL.strs {K : PySem.W.Frag} {H : Hp} {ω : Ad} : ∀ ys : List Str, RpL K H ω (ys.map PV.str) (ys.map V.str)
  | [] => rfl
  | y :: ys => ⟨_, _, rfl, rfl, RpL.strs ys⟩
theorem mtP_split : MtP X "str.split" mSplit := MtR.weak mt_split fun x vs H Q ⟨ω, S, px, ps, r, S', t, rx, rs, e, k⟩ => by
  unfold mSplit at e
  split at e
  · rename_i a b
    split at e
    · rename_i hc
      cases e
      obtain ⟨v, rfl, rb⟩ := rs.one
      exact ⟨a, b, rx, by rw [show v = V.str b from rb], hc.1, hc.2, fun p hp => new_lst t hp (RpL.strs _) fun q o H' s1 n1 n2 t1 c => k _ _ s1 (open_str t1) (c.pure (t.out n1) n2)⟩
    · cases e
  · cases e
end
end Pv

/-! fields -/
namespace Pv
open PySem PySem.Spec L2 PyProof.Rows
variable [HW]
section
variable {K : PySem.W.Frag} {H : Hp} {ω : Ad} {S : Store}
theorem ins_of {x : PV} {v : V} {C : Str} {fs : List (Str × PV)} (t : StR K ω S H) (r : Rp K H ω x v) (e : look S x = .ins C fs) : ∃ a dx vs c, v = .ref a ∧ clA K C = some c ∧ H a = some (.ins c dx vs) ∧ RpF K H ω fs vs := by
  cases x <;> first | (cases e; done) | skip
  · cases e
    obtain ⟨a, dx, vs, c, rfl, hc, h, _, rr⟩ := r
    exact ⟨a, dx, vs, c, rfl, hc, h, rr⟩
  · obtain ⟨a, c, o, rfl, _, _, e2, ho, hc⟩ := look_loc t r
    rw [e2] at e
    subst e
    obtain ⟨c, dx, vs, hcl, rfl, rr⟩ := hc
    exact ⟨a, dx, vs, c, rfl, hcl, ho, rr⟩
theorem RpF.look {f : Str} : ∀ {fs : List (Str × PV)} {vs : List (Str × V)} {x : PV}, RpF K H ω fs vs → fs.lookup f = some x → ∃ v, vs.lookup f = some v ∧ Rp K H ω x v
  | [], _, _, _, h => by simp at h
  | (k, y) :: r, _, x, ⟨v, ws, e, h1, h2⟩, h => by
    subst e
    cases q : (f == k) with
    | true =>
      simp [List.lookup, q] at h ⊢
      subst h
      exact h1
    | false =>
      simp [List.lookup, q] at h ⊢
      exact RpF.look h2 h
end
@[simp] def dFld (C : Str) (f : Str) (d : Den) : Den := fun ρ S => (d ρ S).then fun x S1 => match look S1 x with
  | .ins C' fs => if C' = C then (match fs.lookup f with | some y => .ok y S1 | none => .stuck) else .stuck
  | _ => .stuck
section
variable {X : Cx} {W : WX} {e : Expr} {de : Den} {pos : Pos} {C f : Str}
/-- a class of the text and that it has no such name -/
def ClsN (K : PySem.W.Frag) (n : Str) : Prop := ∃ C, clA K n = some C ∧ Cls K C
def NoAt (K : PySem.W.Frag) (n f : Str) : Prop := ∃ C, clA K n = some C ∧ NoAttr K C f
theorem ex_fld (c : ClsN X.K C) (n : NoAt X.K C f) (he : EX X W e de) (hb : attributeBase e f X.env (eval e X.env) = eval e X.env := by rfl) : EX X W (.Attribute e f pos) (dFld C f de) :=
  (pe_fld he hb).imp fun σ H Q ⟨ω, S, ρ, fr, o⟩ => ⟨ω, S, ρ, fr, (OutP.bind o).imp fun x S1 H1 ω1 s1 t1 o1 v rv => by
    split at o1
    · rename_i C' fs hk
      split at o1
      · rename_i hC
        subst hC
        split at o1
        · rename_i y hy
          obtain ⟨a, dx, vs, cc, rfl, hcc, ha, rr⟩ := ins_of t1 rv hk
          obtain ⟨w, h1, h2⟩ := rr.look hy
          obtain ⟨c1, e1, c⟩ := c
          obtain ⟨c2, e2, n⟩ := n
          rw [hcc] at e1 e2
          cases e1; cases e2
          exact ⟨a, _, dx, vs, w, rfl, ha, c, n, h1, o1 H1 ω1 .refl t1 w h2⟩
        · exact o1.elim
      · exact o1.elim
    · exact o1.elim⟩
end
end Pv

/-! a field set -/
namespace Pv
open PySem PySem.Spec L2 PyProof.Rows
variable [HW]
theorem map_RpF {K : PySem.W.Frag} {H : Hp} {ω : Ad} {fs : List (Str × PV)} {vs : List (Str × V)} (r : RpF K H ω fs vs) : fs.map (·.1) = vs.map (·.1) := by
  induction fs generalizing vs with
  | nil => cases r; rfl
  | cons p l ih =>
    obtain ⟨k, x⟩ := p
    obtain ⟨v, ws, rfl, _, h⟩ := r
    simp [ih h]
def putFP (f : Str) (x : PV) : List (Str × PV) → List (Str × PV)
  | [] => [(f, x)]
  | (g, y) :: r => if g = f then (g, x) :: r else (g, y) :: putFP f x r
theorem RpF.put {K : PySem.W.Frag} {H : Hp} {ω : Ad} {f : Str} {x : PV} {v : V} (rx : Rp K H ω x v) : ∀ {fs : List (Str × PV)} {vs : List (Str × V)}, RpF K H ω fs vs → RpF K H ω (putFP f x fs) (putF f v vs)
  | [], _, e => by cases e; exact ⟨v, [], rfl, rx, rfl⟩
  | (g, y) :: r, _, ⟨w, ws, e, h1, h2⟩ => by
    subst e
    by_cases hg : g = f
    · simp only [putFP, putF, if_pos hg]
      exact ⟨v, ws, rfl, rx, h2⟩
    · simp only [putFP, putF, if_neg hg]
      exact ⟨w, _, rfl, h1, RpF.put rx h2⟩
theorem RpF.length {K : PySem.W.Frag} {H : Hp} {ω : Ad} : ∀ {fs : List (Str × PV)} {vs : List (Str × V)}, RpF K H ω fs vs → fs.length = vs.length
  | [], _, e => by cases e; rfl
  | (_, _) :: r, _, ⟨w, ws, e, _, h⟩ => by subst e; simp [RpF.length h]
/-- o.f = v, o the cell of an instance of C -/
@[simp] def sFldSet (C : Str) (f : Str) (dv dO : Den) : SDen := fun ρ S => stE (dv ρ S) ρ fun y S1 => stE (dO ρ S1) ρ fun x S2 => match x with
  | .loc n => match S2[n]? with
    | some (.ins C' fs) => if C' = C ∧ fs.length < 1000 then .nx ρ (S2.set n (.ins C' (putFP f y fs))) else .stuck
    | _ => .stuck
  | _ => .stuck
section
variable {X : Cx} {W : WX} {o value : Expr} {dO dv : Den} {pos pos' : Pos} {C f : Str}
theorem sx_fld (c : ClsN X.K C) (n : NoAt X.K C f) (ho : EX X W o dO) (hv : EX X W value dv) (hs : swapsWith value (some (.Attribute o f pos')) pos.line X.env = pure false := by rfl) : SX X W (.Assign [.Attribute o f pos'] value pos) (sFldSet C f dv dO) :=
  (ps_fld ho hv hs).imp fun D σ H ⟨ω, S, ρ, fr, o⟩ => ⟨ω, S, ρ, fr, (SoP.ex fr o).imp fun y S1 H1 ω1 s1 t1 o1 w rw => ⟨ω1, S1, ρ, fr.later s1 t1, (SoP.ex (fr.later s1 t1) o1).imp fun x S2 H2 ω2 s2 t2 o2 v rv => by
    split at o2
    · rename_i m
      split at o2
      · rename_i C' fs hk
        split at o2
        · rename_i hC
          obtain ⟨hC, hlen⟩ := hC
          subst hC
          obtain ⟨a, c0, o', rfl, ha, e3, _, ho', hc⟩ := look_loc t2 rv
          rw [hk] at e3; cases e3
          obtain ⟨cc, dx, vs, hcc, rfl, rr⟩ := hc
          obtain ⟨c1, q1, c⟩ := c
          obtain ⟨c2, q2, n⟩ := n
          rw [hcc] at q1 q2
          cases q1; cases q2
          obtain ⟨s', t'⟩ := cell_set (c := .ins C' (putFP f y fs)) (o := .ins cc dx (putF f w vs)) t2 ha ⟨cc, dx, _, hcc, rfl, rr.put (rw.up s2.up)⟩
          exact ⟨a, _, dx, vs, rfl, ho', c, n, by rw [← rr.length]; exact hlen, o2 σ _ ω2 s' (((fr.later s1 t1).later s2 t2).later s' t')⟩
        · exact o2.elim
      · exact o2.elim
    · exact o2.elim⟩⟩
end
end Pv

/-! what has no rule is stuck; methods, making, properties -/
namespace Pv
open PySem PySem.Spec L2 PyProof.Rows
variable [HW]
/-! ### stuck -/
@[simp] def dStuck : Den := fun _ _ => .stuck
@[simp] def dStuckT : DenT := fun _ _ => .stuck
@[simp] def dStuckA : DenA := fun _ _ => .stuck
@[simp] def sStuck : SDen := fun _ _ => .stuck
section
variable {X : Cx} {W : WX} {e : Expr} {st : Stmt} {es : List Expr} {sts : List Stmt} {tg : Expr}
theorem ex_stuck : EX X W e dStuck := ⟨fun _ _ _ _ _ _ ⟨_, _, _, _, o⟩ => o.elim⟩
theorem ef_stuck : EF X W e dStuck := ⟨fun _ _ _ _ _ _ ⟨_, _, _, _, o⟩ => o.elim⟩
theorem bx_stuck : BX X W e dStuckT := ⟨fun _ _ _ _ _ _ ⟨_, _, _, _, o⟩ => o.elim⟩
theorem ix_stuck : IX X W tg e dStuckA := ⟨fun _ _ _ _ _ _ ⟨_, _, _, _, o⟩ => o.elim⟩
theorem sx_stuck : SX X W st sStuck := ⟨fun _ _ _ _ _ _ ⟨_, _, _, _, o⟩ => o.elim⟩
theorem ss_stuck : SsX X W sts sStuck := ⟨fun _ _ _ _ _ _ ⟨_, _, _, _, o⟩ => o.elim⟩
end
/-! ### methods -/
structure FnM (P : Program) (w : World) (K : PySem.W.Frag) (mg : Str → Option Value) (base : Heap) (k : Nat) (C m : Str) (n : Nat) (ds : List PV) (F : FDen) : Prop where
  ex : ∃ (c f : Addr) (fd : FuncData) (ps : List Str) (dvs : List V) (dus : List Value), FnOk P w K mg base (L2.CX P w) k f fd ps (spF K n F) ∧ clA K C = some c ∧ Meth K c m f ∧ Binds K fd ps dus ∧ Vals dvs dus ∧
    (∀ H ω, RpL K H ω ds dvs) ∧ ∀ qs S, F qs S ≠ .stuck → qs.length = n
theorem FnM.gc {P : Program} {w : World} {K : PySem.W.Frag} {mg : Str → Option Value} {base : Heap} {k : Nat} {C m : Str} {n : Nat} {ds : List PV} {F : FDen} (h : FnM P w K mg base k C m n ds F) : FnM P w K mg base k C m n ds (gcF F) := by
  obtain ⟨c, f, fd, ps, dvs, dus, a, b, d, e, g, l, z⟩ := h.ex
  exact ⟨c, f, fd, ps, dvs, dus, fn_gc a, b, d, e, g, l, fun qs S z' => z qs S (gc_ns z')⟩
theorem RpF.lookN {K : PySem.W.Frag} {H : Hp} {ω : Ad} {f : Str} : ∀ {fs : List (Str × PV)} {vs : List (Str × V)}, RpF K H ω fs vs → fs.lookup f = none → vs.lookup f = none
  | [], _, e, _ => by cases e; rfl
  | (k, y) :: r, _, ⟨v, ws, e, h1, h2⟩, h => by
    subst e
    cases q : (f == k) with
    | true => simp only [List.lookup, q] at h; cases h
    | false => simp only [List.lookup, q] at h ⊢; exact RpF.lookN h2 h
/-- o.m(..), o an instance of C -/
@[simp] def dMeth (C m : Str) (F : FDen) (ds : List PV) (dO : Den) (das : DenA) : Den := fun ρ S => (dO ρ S).then fun x S1 => match look S1 x with
  | .ins C' fs => if C' = C ∧ fs.lookup m = none then (das ρ S1).then fun xs S2 => F (x :: (xs ++ ds)) S2 else .stuck
  | _ => .stuck
section
variable {X : Cx} {CX : CXT} {k : Nat} {f C : Addr} {fd : FuncData} {ps : List Str} {sp : Sp} {dvs : List V} {ds : List Value} {E : L2.St → XK} {x m : Str} {p pos apos : Pos} {e o : Expr} {es : List Expr} {ta : TE} {t : TA}
def tMethS (C : Addr) (m : Str) (sp : Sp) (dvs : List V) (E : L2.St → XK) (ta : TE) (t : TA) : TE := fun σ H Q => ta σ H fun x H1 => ∃ a dx fs, x = .ref a ∧ H1 a = some (.ins C dx fs) ∧ fs.lookup m = none ∧
  t σ H1 fun vs H2 => sp (x :: (vs ++ dvs)) H2 Q (E σ)
theorem pe_methS {pl : Sem Bool} (he : PE X o ta) (c : Cls X.K C) (hm : Meth X.K C m f) (F : FnOk X.prog X.w X.K X.mg X.base CX k f fd ps sp) (hr : Room k X.A) (hb : Binds X.K fd ps ds) (hd : Vals dvs ds) (hx : ∀ σ, PassesAt CX X σ (E σ)) (ha : PA X (e :: es) t)
    (hst : starEach (e :: es) X.env = (false, eval e X.env) :: starEach es X.env := by rfl) (hpl : (backTo pos (starEach es X.env)).any (·.1) = false := by rfl)
    (ht : eval (.Call (.Attribute o m apos) (e :: es) [] pos) X.env = (do
      let ov ← eval o X.env
      standAt apos.atName
      let (f, first) ← holding [ov] (getMethod ov m pl)
      callWith pos f first (backTo pos (starEach (e :: es) X.env)) (backToKw pos (keywordEach [] X.env))) := by rfl) :
    PE X (.Call (.Attribute o m apos) (e :: es) [] pos) (tMethS C m sp dvs E ta t) := by
  refine ⟨fun pins s σ H Q I h => ?_⟩
  refine PySem.W.methodCall_KW (pl := pl) (thn (he.run pins s σ H _ I h) fun u s1 ⟨x, H1, I1, rx, a, dx, fs, ex, ea, l, q⟩ => ?_) ht
  subst ex
  obtain rfl : u = Value.ref a := rx
  refine getmeth_ok I1 ea c hm l ?_
  refine PySem.W.callWith_K (first := [.ref a]) (h₀ := X.base) I.ok.mod.kin hm.kp (thn (ha.run pos pins s1 σ H1 _ I1 q) fun us s2 ⟨vs, H2, I2, r, q2⟩ => ⟨I2.kIn, ?_⟩) hst hpl
  exact run_fnSD (us := .ref a :: us) (vs := .ref a :: vs) F hr hb hd (hx σ) I2 (.cons rfl r) q2
theorem pe_meth0S {pl : Sem Bool} (he : PE X o ta) (c : Cls X.K C) (hm : Meth X.K C m f) (F : FnOk X.prog X.w X.K X.mg X.base CX k f fd ps sp) (hr : Room k X.A) (hb : Binds X.K fd ps ds) (hd : Vals dvs ds) (hx : ∀ σ, PassesAt CX X σ (E σ))
    (ht : eval (.Call (.Attribute o m apos) [] [] pos) X.env = (do
      let ov ← eval o X.env
      standAt apos.atName
      let (f, first) ← holding [ov] (getMethod ov m pl)
      callWith pos f first (backTo pos (starEach [] X.env)) (backToKw pos (keywordEach [] X.env))) := by rfl) :
    PE X (.Call (.Attribute o m apos) [] [] pos) (tMethS C m sp dvs E ta tNil) := by
  refine ⟨fun pins s σ H Q I h => ?_⟩
  refine PySem.W.methodCall_KW (pl := pl) (thn (he.run pins s σ H _ I h) fun u s1 ⟨x, H1, I1, rx, a, dx, fs, ex, ea, l, q⟩ => ?_) ht
  subst ex
  obtain rfl : u = Value.ref a := rx
  refine getmeth_ok I1 ea c hm l ?_
  exact PySem.W.callWith_K0 (first := [.ref a]) I1.kIn hm.kp (run_fnSD (us := [.ref a]) (vs := [.ref a]) F hr hb hd (hx σ) I1 (.cons rfl .nil) q)
/-- C(..) -/
def tMakeS (C : Addr) (sp : Sp) (dvs : List V) (E : L2.St → XK) (t : TA) : TE := fun σ H Q => t σ H fun vs H1 => ∀ x dx, H1 x = none → H1 dx = none → dx ≠ x →
  sp (.ref x :: (vs ++ dvs)) (upd (upd H1 dx (.own x)) x (.ins C dx [])) (fun v H2 => v = .non ∧ Q (.ref x) H2) (E σ)
theorem run_makeS {pins : List (Addr × Obj)} {σ : L2.St} {H : Hp} {s : Shared} {Q : VK} {E : XK} {us : List Value} {vs : List V} (M : Mk X.K C f) (F : FnOk X.prog X.w X.K X.mg X.base CX k f fd ps sp) (hr : Room (k + 1) X.A) (hb : Binds X.K fd ps ds) (hd : Vals dvs ds)
    (hx : PassesAt CX X σ E) (I : Inv X pins σ H s) (r : Vals vs us)
    (h : ∀ x dx, H x = none → H dx = none → dx ≠ x → sp (.ref x :: (vs ++ dvs)) (upd (upd H dx (.own x)) x (.ins C dx [])) (fun v H2 => v = .non ∧ Q (.ref x) H2) E) :
    wpAny (model X.prog X.w) X.A (call (.ref C) us) (EP X pins σ Q) X.xe s := by
  have hq := h (s.heap.objs.size + 1) s.heap.objs.size (I.hok.fresh (Nat.le_succ _)) (I.hok.fresh (Nat.le_refl _)) (Nat.ne_of_lt (Nat.lt_succ_self _))
  have I2 := Inv.made (C := C) I
  have r2 : Vals (V.ref (s.heap.objs.size + 1) :: (vs ++ dvs)) (Value.ref (s.heap.objs.size + 1) :: (us ++ ds)) := .cons rfl (r.append hd)
  have hl : (Value.ref (s.heap.objs.size + 1) :: us ++ ds).length = ps.length := by
    have e := r2.length
    rw [F.len _ _ _ _ hq] at e
    exact e.symm
  refine wpAny_call (make_map (f := f) I.kIn M.makes M.init (beq_iff_eq.mp M.fn) (codeAny_mono (F.run _ X.stack _ _ ⟨Value.ref (s.heap.objs.size + 1) :: us, []⟩ (Value.ref (s.heap.objs.size + 1) :: (us ++ ds)) _ _ E (hr.make C us [])
    (I2.env0.make C us []) (hb _ (Value.ref (s.heap.objs.size + 1) :: us) I2.kIn hl) r2 hq) fun r s' hq' => ?_))
  cases r with
  | error e => exact hx _ _ _ e s' I2 hq'
  | ok fl =>
    cases fl with
    | ret u =>
      obtain ⟨v, H', I3, rv, ev, q3⟩ := I2.after hq'
      subst ev
      exact ⟨rv, ⟨V.ref (s.heap.objs.size + 1), H', I3, rfl, q3⟩⟩
    | next => exact False.elim hq'
    | brk => exact False.elim hq'
    | cont => exact False.elim hq'
theorem pe_makeS (M : Mk X.K C f) (F : FnOk X.prog X.w X.K X.mg X.base CX k f fd ps sp) (hr : Room (k + 1) X.A) (hg : Gl X x) (hm : X.mg x = some (.ref C)) (hb : Binds X.K fd ps ds) (hd : Vals dvs ds) (hx : ∀ σ, PassesAt CX X σ (E σ))
    (ha : PA X (e :: es) t) (hdb : (x == ("__debug__" : Str)) = false := by decide) (he : starEach (e :: es) X.env = (false, eval e X.env) :: starEach es X.env := by rfl) (hpl : (backTo pos (starEach es X.env)).any (·.1) = false := by rfl) :
    PE X (.Call (.Name x p) (e :: es) [] pos) (tMakeS C sp dvs E t) := by
  refine ⟨fun pins s σ H Q I h => ?_⟩
  refine wpAny_Call_Name_kw (ld_glob I hg hm ?_ hdb)
  refine PySem.W.callWith_K (h₀ := X.base) I.ok.mod.kin M.kp (thn (ha.run pos pins s σ H _ I h) fun us s1 ⟨vs, H1, I1, r, q⟩ => ⟨I1.kIn, ?_⟩) he hpl
  exact run_makeS M F hr hb hd (hx σ) I1 r q
end
section
variable {X : Cx} {W : WX} {o e : Expr} {es : List Expr} {dO : Den} {das : DenA} {pos apos p : Pos} {C m : Str} {k n : Nat} {ds : List PV} {F : FDen}
theorem meth_P {c : Addr} {dvs : List V} {σ : L2.St} {H : Hp} {Q : VK} (hc : clA X.K C = some c) (hds : ∀ H ω, RpL X.K H ω ds dvs) (hl : ∀ qs S, F qs S ≠ .stuck → qs.length = n) (h : tX X.K W (dMeth C m F ds dO das) σ H Q) :
    tMethS c m (spF X.K n F) dvs (fun σ c d H' => W c d σ H') (tX X.K W dO) (tXA X.K W das) σ H Q := by
  obtain ⟨ω, S, ρ, fr, q⟩ := h
  refine ⟨ω, S, ρ, fr, (OutP.bind q).imp fun x S1 H1 ω1 s1 t1 o1 v rv => ?_⟩
  split at o1
  · rename_i C' fs hk
    split at o1
    · rename_i hC
      obtain ⟨hC, hlk⟩ := hC
      subst hC
      obtain ⟨a, dx, vs, c3, rfl, hc3, ha, rr⟩ := ins_of t1 rv hk
      rw [hc] at hc3; cases hc3
      refine ⟨a, dx, vs, rfl, ha, rr.lookN hlk, ω1, S1, ρ, fr.later s1 t1, (OutP.bind o1).imp fun xs S2 H2 ω2 s2 t2 o2 vs2 r2 => ?_⟩
      have r3 : RpL X.K H2 ω2 (x :: (xs ++ ds)) (.ref a :: (vs2 ++ dvs)) := ⟨_, _, rfl, rv.up s2.up, r2.append (hds H2 ω2)⟩
      exact ⟨by rw [← r3.length]; exact hl _ _ o2.ns, ω2, S2, _, t2, r3, o2⟩
    · exact o1.elim
  · exact o1.elim
theorem ex_meth {pl : Sem Bool} (c : ClsN X.K C) (G : FnM X.prog X.w X.K X.mg X.base k C m n ds F) (hr : Room k X.A) (tk : Takes X W) (ho : EX X W o dO) (ha : AX X W (e :: es) das)
    (hst : starEach (e :: es) X.env = (false, eval e X.env) :: starEach es X.env := by rfl) (hpl : (backTo pos (starEach es X.env)).any (·.1) = false := by rfl)
    (ht : eval (.Call (.Attribute o m apos) (e :: es) [] pos) X.env = (do
      let ov ← eval o X.env
      standAt apos.atName
      let (f, first) ← holding [ov] (getMethod ov m pl)
      callWith pos f first (backTo pos (starEach (e :: es) X.env)) (backToKw pos (keywordEach [] X.env))) := by rfl) :
    EX X W (.Call (.Attribute o m apos) (e :: es) [] pos) (dMeth C m F ds dO das) := by
  obtain ⟨cc, f, fd, ps, dvs, dus, G, hc, hm, hb, hd, hds, hl⟩ := G.ex
  obtain ⟨c2, e2, c⟩ := c
  rw [hc] at e2; cases e2
  exact (pe_methS (E := fun σ c d H' => W c d σ H') ho c hm G hr hb hd (passAt' tk) ha hst hpl ht).imp fun σ H Q h => meth_P hc hds hl h
theorem ex_meth0 {pl : Sem Bool} (c : ClsN X.K C) (G : FnM X.prog X.w X.K X.mg X.base k C m n ds F) (hr : Room k X.A) (tk : Takes X W) (ho : EX X W o dO)
    (ht : eval (.Call (.Attribute o m apos) [] [] pos) X.env = (do
      let ov ← eval o X.env
      standAt apos.atName
      let (f, first) ← holding [ov] (getMethod ov m pl)
      callWith pos f first (backTo pos (starEach [] X.env)) (backToKw pos (keywordEach [] X.env))) := by rfl) :
    EX X W (.Call (.Attribute o m apos) [] [] pos) (dMeth C m F ds dO dNil) := by
  obtain ⟨cc, f, fd, ps, dvs, dus, G, hc, hm, hb, hd, hds, hl⟩ := G.ex
  obtain ⟨c2, e2, c⟩ := c
  rw [hc] at e2; cases e2
  exact (pe_meth0S (E := fun σ c d H' => W c d σ H') ho c hm G hr hb hd (passAt' tk) ht).imp fun σ H Q h => by
    obtain ⟨ω, S, ρ, fr, q⟩ := meth_P (das := dNil) hc hds hl h
    refine ⟨ω, S, ρ, fr, q.imp fun x S1 H1 ω1 s1 t1 o1 v rv => ?_⟩
    obtain ⟨a, dx, fs, ea, h1, h2, ω2, S2, ρ2, fr2, q2⟩ := o1 v rv
    exact ⟨a, dx, fs, ea, h1, h2, q2 H1 ω2 .refl fr2.1 [] rfl⟩
end
end Pv

/-! making an instance, properties, len and in by own methods -/
namespace Pv
open PySem PySem.Spec L2 PyProof.Rows
variable [HW]
/-! ### making -/
/-- C(..), the new object as a plain value -/
@[simp] def dMake (C : Str) (F : FDen) (ds : List PV) (das : DenA) : Den := fun ρ S => (das ρ S).then fun xs S1 =>
  gcO S1.length ((F (.loc S1.length :: (xs ++ ds)) (S1 ++ [.ins C []])).then fun v S2 => match v with
    | .non => .ok (.loc S1.length) S2
    | _ => .stuck)
section
variable {K : PySem.W.Frag} {ω : Ad} {S : Store} {H : Hp}
/-- the state in which __init__ starts -/
theorem made_start {c x dx : Addr} {C : Str} (hc : clA K C = some c) (t : StR K ω S H) (hx : H x = none) (hd : H dx = none) (ne : dx ≠ x) :
    Stp ω H ⟨ω.ν ++ [x], ω.B⟩ (upd (upd H dx (.own x)) x (.ins c dx [])) ∧ StR K ⟨ω.ν ++ [x], ω.B⟩ (S ++ [.ins C []]) (upd (upd H dx (.own x)) x (.ins c dx [])) ∧ Rp K (upd (upd H dx (.own x)) x (.ins c dx [])) ⟨ω.ν ++ [x], ω.B⟩ (.loc S.length) (.ref x) := by
  have hx2 : upd H dx (.own x) x = none := by rw [upd_ne (Ne.symm ne)]; exact hx
  have s1 : Stp ω H ω (upd H dx (.own x)) := new_stp hd
  have t1 : StR K ω S (upd H dx (.own x)) := open_str (new_str t hd)
  have s2 : Stp ω (upd H dx (.own x)) ω (upd (upd H dx (.own x)) x (.ins c dx [])) := new_stp hx2
  have t2 : StR K ⟨ω.ν, x :: ω.B⟩ S (upd (upd H dx (.own x)) x (.ins c dx [])) := new_str t1 hx2
  have u := cell_up hx2 t1 (upd_same (H := upd H dx (.own x)) (a := x) (o := .ins c dx [])) s2
  have t3 := cell_str (c := .ins C []) (t1.out hx2) t2 upd_same u ⟨c, dx, [], hc, rfl, rfl⟩
  have s3 := s1.trans s2
  refine ⟨⟨⟨[x], rfl, fun a ha => by simp at ha; subst ha; exact hx⟩, rfl, s3.kp, s3.tr, s3.tp, s3.bk⟩, t3, x, rfl, ?_⟩
  show (ω.ν ++ [x])[S.length]? = some x
  rw [← t.len]
  simp
end
section
variable {X : Cx} {W : WX} {o e : Expr} {es : List Expr} {dO : Den} {das : DenA} {pos p : Pos} {C : Str} {k n : Nat} {ds : List PV} {F : FDen}
/-- a class that can be made, and its __init__ -/
structure MkN (K : PySem.W.Frag) (mg : Str → Option Value) (C : Str) : Prop where
  ex : ∀ c, clA K C = some c → mg C = some (.ref c) ∧ PySem.W.makesIn K c = true ∧ PySem.W.keepIn K (.ref c) = true
theorem make_P {c : Addr} {dvs : List V} {σ : L2.St} {H : Hp} {Q : VK} (hc : clA X.K C = some c) (hds : ∀ H ω, RpL X.K H ω ds dvs) (hl : ∀ qs S, F qs S ≠ .stuck → qs.length = n) (h : tX X.K W (dMake C F ds das) σ H Q) :
    tMakeS c (spF X.K n F) dvs (fun σ c d H' => W c d σ H') (tXA X.K W das) σ H Q := by
  obtain ⟨ω, S, ρ, fr, q⟩ := h
  refine ⟨ω, S, ρ, fr, (OutP.bind q).imp fun xs S1 H1 ω1 s1 t1 o1 vs r1 => fun x dx hx hd ne => ?_⟩
  obtain ⟨s2, t2, r2⟩ := made_start (C := C) hc t1 hx hd ne
  have o2 := OutP.bind (OutP.later s2 (gc_out t1 o1))
  have r3 : RpL X.K _ _ (.loc S1.length :: (xs ++ ds)) (.ref x :: (vs ++ dvs)) := ⟨_, _, rfl, r2, (r1.up s2.up).append (hds _ _)⟩
  refine ⟨by rw [← r3.length]; exact hl _ _ o2.ns, _, _, _, t2, r3, o2.imp fun r S3 H3 ω3 s3 t3 o3 v rv => ?_⟩
  cases r <;> first | exact o3.elim | skip
  exact ⟨rv, o3 H3 ω3 .refl t3 _ (r2.up s3.up)⟩
theorem ex_make (M : MkN X.K X.mg C) (G : FnM X.prog X.w X.K X.mg X.base k C "__init__" n ds F) (hr : Room (k + 1) X.A) (tk : Takes X W) (hg : Gl X C) (ha : AX X W (e :: es) das)
    (hdb : (C == ("__debug__" : Str)) = false := by decide) (he : starEach (e :: es) X.env = (false, eval e X.env) :: starEach es X.env := by rfl) (hpl : (backTo pos (starEach es X.env)).any (·.1) = false := by rfl) :
    EX X W (.Call (.Name C p) (e :: es) [] pos) (dMake C F ds das) := by
  obtain ⟨cc, f, fd, ps, dvs, dus, G, hc, hm, hb, hd, hds, hl⟩ := G.ex
  obtain ⟨m1, m2, m3⟩ := M.ex cc hc
  exact (pe_makeS (E := fun σ c d H' => W c d σ H') ⟨m2, hm.at_, hm.fn, m3⟩ G hr hg m1 hb hd (passAt' tk) ha hdb he hpl).imp fun σ H Q h => make_P hc hds hl h
end
/-! ### properties -/
structure PropN (K : PySem.W.Frag) (C f : Str) (g : Addr) : Prop where
  ex : ∃ c p, clA K C = some c ∧ PropOf K c f p g
structure FnP (P : Program) (w : World) (K : PySem.W.Frag) (mg : Str → Option Value) (base : Heap) (k : Nat) (C f : Str) (F : FDen) : Prop where
  ex : ∃ (g : Addr) (fd : FuncData) (ps : List Str), FnOk P w K mg base (L2.CX P w) k g fd ps (spF K 1 F) ∧ PropN K C f g ∧ Binds K fd ps []
theorem FnP.gc {P : Program} {w : World} {K : PySem.W.Frag} {mg : Str → Option Value} {base : Heap} {k : Nat} {C m : Str} {F : FDen} (h : FnP P w K mg base k C m F) : FnP P w K mg base k C m (gcF F) := by
  obtain ⟨g, fd, ps, a, b, c⟩ := h.ex
  exact ⟨g, fd, ps, fn_gc a, b, c⟩
/-- o.f, f a property -/
@[simp] def dProp (C : Str) (F : FDen) (dO : Den) : Den := fun ρ S => (dO ρ S).then fun x S1 => match look S1 x with
  | .ins C' _ => if C' = C then noX (F [x] S1) else .stuck
  | _ => .stuck
section
variable {X : Cx} {W : WX} {e : Expr} {dO : Den} {pos : Pos} {C f : Str} {k : Nat} {F : FDen}
theorem ex_prop (c : ClsN X.K C) (G : FnP X.prog X.w X.K X.mg X.base k C f F) (hr : Room (k + 1) X.A) (he : EX X W e dO) (hb : attributeBase e f X.env (eval e X.env) = eval e X.env := by rfl) : EX X W (.Attribute e f pos) (dProp C F dO) := by
  obtain ⟨g, fd, ps, G, ⟨cc, p, hc, hp⟩, bs⟩ := G.ex
  obtain ⟨c2, e2, c⟩ := c
  rw [hc] at e2; cases e2
  refine (pe_prop (E := fun _ _ _ => False) (dvs := []) he c hp G hr bs .nil (passes_call (W := fun _ _ _ _ => False) takes0 fun _ _ _ _ z => z) hb).imp fun σ H Q ⟨ω, S, ρ, fr, q⟩ => ⟨ω, S, ρ, fr, (OutP.bind q).imp fun x S1 H1 ω1 s1 t1 o1 v rv => ?_⟩
  split at o1
  · rename_i C' fs hk
    split at o1
    · rename_i hC
      subst hC
      obtain ⟨a, dx, vs, c3, rfl, hc3, ha, rr⟩ := ins_of t1 rv hk
      rw [hc] at hc3; cases hc3
      exact ⟨a, dx, vs, rfl, ha, rfl, ω1, S1, [x], t1, ⟨_, _, rfl, rv, rfl⟩, noX_P o1⟩
    · exact o1.elim
  · exact o1.elim
end
end Pv

/-! operators and calls that run a def: len(o), x in o -/
namespace Pv
open PySem PySem.Spec L2 PyProof.Rows
variable [HW]
abbrev P2M := PV → PV → M PV
abbrev PCM := List PV → M PV
/-- an operator that may run defs of the text -/
def rPM (K : PySem.W.Frag) (p : P2M) : R2 := fun x y H Q => ∃ ω S px py, StR K ω S H ∧ Rp K H ω px x ∧ Rp K H ω py y ∧ OutP K (fun _ _ _ => False) ω H (p px py S) fun r S' H' ω' => ∀ v, Rp K H' ω' r v → Q v H'
def rCM (K : PySem.W.Frag) (p : PCM) : List V → Hp → VK → Prop := fun vs H Q => ∃ ω S ps, StR K ω S H ∧ RpL K H ω ps vs ∧ OutP K (fun _ _ _ => False) ω H (p ps S) fun r S' H' ω' => ∀ v, Rp K H' ω' r v → Q v H'
abbrev OpM (X : Cx) (f : Value → Value → Sem Value) (p : P2M) : Prop := OpR X f (rPM X.K p)
abbrev CallM (X : Cx) (f : Value) (p : PCM) : Prop := CallR X f (rCM X.K p)
@[simp] def dBinM (p : P2M) (da db : Den) : Den := fun ρ S => (da ρ S).then fun x S1 => (db ρ S1).then fun y S2 => noX (p x y S2)
@[simp] def dCM (q : PCM) (ds : DenA) : Den := fun ρ S => (ds ρ S).then fun xs S1 => noX (q xs S1)
section
variable {X : Cx} {W : WX} {a b e : Expr} {es : List Expr} {da db de : Den} {ds : DenA} {pos p : Pos} {x : Str} {id T : String}
theorem binM_P {p : P2M} {σ : L2.St} {H : Hp} {Q : VK} (h : tX X.K W (dBinM p da db) σ H Q) : tOp (rPM X.K p) (tX X.K W da) (tX X.K W db) σ H Q := by
  obtain ⟨ω, S, ρ, f, o⟩ := h
  refine ⟨ω, S, ρ, f, (OutP.bind o).imp fun x S1 H1 ω1 s1 t1 o1 v rv => ⟨ω1, S1, ρ, f.later s1 t1, (OutP.bind o1).imp fun y S2 H2 ω2 s2 t2 o2 w rw => ?_⟩⟩
  exact ⟨ω2, S2, x, y, t2, rv.up s2.up, rw, noX_P o2⟩
theorem cM_P {q : PCM} {σ : L2.St} {H : Hp} {Q : VK} (h : tX X.K W (dCM q ds) σ H Q) : tCB (rCM X.K q) (tXA X.K W ds) σ H Q := by
  obtain ⟨ω, S, ρ, f, o⟩ := h
  exact ⟨ω, S, ρ, f, (OutP.bind o).imp fun xs S1 H1 ω1 s1 t1 o1 vs rvs => ⟨ω1, S1, xs, t1, rvs, noX_P o1⟩⟩
theorem ex_binM {op : Operator} {p : P2M} (ho : OpM X (binaryOp op) p) (ha : EX X W a da) (hb : EX X W b db) : EX X W (.BinOp a op b pos) (dBinM p da db) := (pe_op ho ha hb).imp fun _ _ _ => binM_P
theorem ex_cmpM {op : CmpOp} {p : P2M} (ho : OpM X (compareOp op) p) (ha : EX X W a da) (hb : EX X W b db) (hm : behindInMarks op b = false := by rfl) : EX X W (.Compare a [op] [b] pos) (dBinM p da db) := (pe_cmpR ho ha hb hm).imp fun _ _ _ => binM_P
theorem bx_cmpM {op : CmpOp} {p : P2M} (ho : OpM X (compareOp op) p) (ha : EX X W a da) (hb : EX X W b db) (hm : behindInMarks op b = false := by rfl) : BX X W (.Compare a [op] [b] pos) (dB (dBinM p da db)) :=
  (pt_cmpR ho ha hb hm).imp fun _ _ _ h => test_of h fun _ => binM_P
theorem ex_cbM {q : PCM} (hc : CallM X (.builtin id) q) (hg : Gl X x) (hm : X.mg x = none) (hv : bootBuiltins x = some (.builtin id)) (ha : AX X W (e :: es) ds) (hn : x ≠ "__name__" := by decide) (hdb : (x == ("__debug__" : Str)) = false := by decide)
    (he : starEach (e :: es) X.env = (false, eval e X.env) :: starEach es X.env := by rfl) (hpl : (backTo pos (starEach es X.env)).any (·.1) = false := by rfl) : EX X W (.Call (.Name x p) (e :: es) [] pos) (dCM q ds) :=
  (pe_callB hc hg hm hv ha hn hdb he hpl).imp fun _ _ _ => cM_P
end
/-! ### the callee at another around -/
section
variable {X : Cx} {k : Nat} {g C a dx : Addr} {fd : FuncData} {ps : List Str} {n : Nat} {F : FDen} {pins : List (Addr × Obj)} {σ : L2.St} {H : Hp} {s : Shared} {fs : List (Str × V)}
theorem run_in {A : Around} {sp : Sp} {dvs : List V} {dus us : List Value} {ws : List V} {Q : VK} (G : FnOk X.prog X.w X.K X.mg X.base (L2.CX X.prog X.w) k g fd ps sp) (hr : Room k A) (e0 : Env0 X.prog X.w X.K X.mg X.base A X.stack s H) (hb : Binds X.K fd ps dus) (hd : Vals dvs dus) (I : L2.Inv X pins σ H s) (r : Vals ws us)
    (h : sp (ws ++ dvs) H Q (fun _ _ _ => False)) : wpAny (model X.prog X.w) A (call (.ref g) us) (EP X pins σ Q) X.xe s := by
  have r2 : Vals (ws ++ dvs) (us ++ dus) := r.append hd
  have hl : (us ++ dus).length = ps.length := by rw [← r2.length]; exact G.len _ _ _ _ h
  refine wpAny_call (codeAny_mono (G.run A X.stack s H ⟨us, []⟩ (us ++ dus) (ws ++ dvs) Q _ hr e0 (hb s us I.kIn hl) r2 h) fun r s' hq => ?_)
  cases r with
  | error e => exact passes_call (W := fun _ _ _ _ => False) takes0 (fun _ _ _ _ z => z) pins σ H s e s' I hq
  | ok fl =>
    cases fl with
    | ret u => exact I.after hq
    | next => exact False.elim hq
    | brk => exact False.elim hq
    | cont => exact False.elim hq
end
/-- an own method of that name -/
structure OwnN (K : PySem.W.Frag) (C m : Str) (g : Addr) : Prop where
  ex : ∃ c, clA K C = some c ∧ PySem.W.findIn K (.ref c) m = some (some (.ref g)) ∧ PySem.W.isFn K (.ref g) = true
theorem FnM.own {P : Program} {w : World} {K : PySem.W.Frag} {mg : Str → Option Value} {base : Heap} {k : Nat} {C m : Str} {n : Nat} {F : FDen} (h : FnM P w K mg base k C m n [] F) :
    ∃ (c g : Addr) (fd : FuncData) (ps : List Str) (dvs : List V) (dus : List Value), clA K C = some c ∧ PySem.W.findIn K (.ref c) m = some (some (.ref g)) ∧ PySem.W.isFn K (.ref g) = true ∧ FnOk P w K mg base (L2.CX P w) k g fd ps (spF K n F) ∧ Binds K fd ps dus ∧ Vals dvs dus ∧
      (∀ H ω, RpL K H ω [] dvs) ∧ ∀ qs S, F qs S ≠ .stuck → qs.length = n := by
  obtain ⟨c, f, fd, ps, dvs, dus, a, b, d, e, g, l, z⟩ := h.ex
  exact ⟨c, f, fd, ps, dvs, dus, b, d.at_, d.fn, a, e, g, l, z⟩
/-- len(x), x perhaps an instance of C -/
@[simp] def cLenM (D : Store → List PV → Option PV) (C : Str) (F : FDen) : PCM := fun xs S => match xs with
  | [x] => match look S x with
    | .ins C' _ => if C' = C then (F [x] S).then fun r S' => match r with
      | .int i => if 0 ≤ i ∧ i < 2 ^ 63 then .ok (.int i) S' else .stuck
      | _ => .stuck else .stuck
    | _ => optO (D S [x]) S
  | _ => .stuck
section
variable {X : Cx} {W : WX} {C : Str} {k n : Nat} {F : FDen}
open PySem.W in
theorem callM_len {j : Nat} {D : Store → List PV → Option PV} (hD : CallP X (.builtin "len") D) (G : FnM X.prog X.w X.K X.mg X.base k C "__len__" 1 [] F) (hr0 : Room j X.A) (hj : k + 1 ≤ j) : CallM X (.builtin "len") (cLenM D C F) := by
  intro pins s σ H vs us Q I rx h
  have hr := hr0.mono hj
  obtain ⟨ω, S, qs, t, r, o⟩ := h
  unfold cLenM at o
  split at o
  · rename_i x
    split at o
    · rename_i C' fs hk
      split at o
      · rename_i hC
        subst hC
        obtain ⟨v, rfl, rv⟩ := r.one
        obtain ⟨u, rfl, ru⟩ := rx.one
        obtain ⟨a, dx, vs, c, rfl, hc, ha, rr⟩ := ins_of t rv hk
        obtain ⟨c2, g, fd, ps, dvs, dus, hc2, hs, hf, GF, hb, hd, hds, hl⟩ := G.own
        rw [hc] at hc2; cases hc2
        cases (show u = Value.ref a from ru)
        obtain ⟨mA, O, _, _, _, _⟩ := ins_get I.hok ha
        obtain ⟨od, J, _⟩ := O.look
        have oo := OutP.bind o
        have z0 := hds H ω
        cases (show dvs = [] from z0)
        have run := run_in (ws := [.ref a]) (us := [.ref a]) (Q := fun v H' => ∃ i, v = .int i ∧ (0 ≤ i ∧ i < 2 ^ 63) ∧ Q (.int i) H') GF hr.in1 I.env0.in1 hb hd I (.cons rfl .nil) ⟨rfl, ω, S, [x], t, ⟨_, _, rfl, rv, rfl⟩, oo.imp fun r S2 H2 ω2 s2 t2 o2 v rv2 => by
          split at o2
          · split at o2
            · rename_i i hi
              exact ⟨i, rv2, hi, o2 H2 ω2 .refl t2 _ rfl⟩
            · exact o2.elim
          · exact o2.elim⟩
        refine Calls.call_function_entry kind_len plain_len entry_len (args_len1 _) ?_
        unfold Builtin.«len»
        refine wpAny_bind (m := oneArg "len" _) (wpAny_pure ?_)
        refine wpAny_bind (m := callSpecial? (.ref a) (Str.ofString "__len__")) (special_fn I.kIn J hs (beq_iff_eq.mp hf) (wpAny_mono run (fun r s' hr => ?_) fun _ _ y => y))
        obtain ⟨w, H', I', rw', i, rfl, ⟨h0, h1⟩, hq⟩ := hr
        obtain ⟨tk, rfl⟩ := (show ∃ t, r = Value.int i t from rw')
        refine wpAny_bind (wpAny_holding (wpAny_pure ?_))
        refine wpAny_bind (wpAny_letGo ?_)
        show wpAny _ _ (if i < 0 then _ else _) _ _ _
        rw [if_neg (by omega)]
        show wpAny _ _ (if i ≥ 2 ^ 63 then _ else _) _ _ _
        rw [if_neg (by omega)]
        exact wpAny_bind (wpAny_mkInt (wpAny_pure ⟨_, rfl, V.int i, H', I'.tok _, ⟨_, rfl⟩, hq⟩))
      · exact o.elim
    · rename_i hk
      obtain ⟨r1, e1, k1⟩ := optO_P t o
      exact hD pins s σ H vs us Q I rx ⟨ω, S, [x], r1, t, r, e1, fun v H' s' t' r' => k1 H' s' t' v r'⟩
  · exact o.elim
end
/-- x in y, y perhaps an instance of C -/
@[simp] def pInM (C : Str) (F : FDen) : P2M := fun x y S => match look S y with
  | .ins C' _ => if C' = C then (F [y, x] S).then fun r S' => match r with
    | .bl b => .ok (.bl b) S'
    | _ => .stuck else .stuck
  | _ => optO (pInD S x y) S
@[simp] def pNotInM (C : Str) (F : FDen) : P2M := fun x y S => match look S y with
  | .ins C' _ => if C' = C then (F [y, x] S).then fun r S' => match r with
    | .bl b => .ok (.bl (!b)) S'
    | _ => .stuck else .stuck
  | _ => optO (pNotInD S x y) S
section
variable {X : Cx} {W : WX} {C : Str} {k n : Nat} {F : FDen}
open PySem.W in
theorem contains_own {pins : List (Addr × Obj)} {σ : L2.St} {H : Hp} {s : Shared} {ω : Ad} {S : Store} {x y : PV} {v w : V} {u t : Value} {fs : List (Str × PV)} {Q : Bool → Shared → Prop} (G : FnM X.prog X.w X.K X.mg X.base k C "__contains__" 2 [] F) (hr : Room k X.A) (I : L2.Inv X pins σ H s) (t0 : StR X.K ω S H)
    (rx : Rp X.K H ω x v) (ry : Rp X.K H ω y w) (ru : RelV v u) (rt : RelV w t) (hk : look S y = .ins C fs) {f : Bool → PV}
    (o : OutP X.K (fun _ _ _ => False) ω H ((F [y, x] S).then fun r S' => match r with | .bl b => .ok (f b) S' | _ => .stuck) fun r S' H' ω' => ∀ b s', r = f b → Inv X pins σ H' s' → Q b s') :
    wpAny (model X.prog X.w) X.A (contains t u) Q X.xe s := by
  obtain ⟨a, dx, vs, c, rfl, hc, ha, rr⟩ := ins_of t0 ry hk
  obtain ⟨c2, g, fd, ps, dvs, dus, hc2, hs, hf, GF, hb, hd, hds, hl⟩ := G.own
  rw [hc] at hc2; cases hc2
  cases (show t = Value.ref a from rt)
  obtain ⟨mA, O, _, _, _, _⟩ := ins_get I.hok ha
  obtain ⟨od, J, _⟩ := O.look
  have oo := OutP.bind o
  have z0 := hds H ω
  cases (show dvs = [] from z0)
  have run := run_in (ws := [.ref a, v]) (us := [.ref a, u]) (Q := fun v H' => ∃ b, v = .bl b ∧ ∀ s', Inv X pins σ H' s' → Q b s') GF hr I.env0 hb hd I (.cons rfl (.cons ru .nil)) ⟨rfl, ω, S, [y, x], t0, ⟨_, _, rfl, ry, _, _, rfl, rx, rfl⟩, oo.imp fun r S2 H2 ω2 s2 t2 o2 v rv2 => by
    split at o2
    · rename_i b
      exact ⟨b, rv2, fun s' I' => o2 H2 ω2 .refl t2 b s' rfl I'⟩
    · exact o2.elim⟩
  have X0 := I.kIn
  unfold contains
  refine wpAny_holding (wpAny_bind (wpAny_bind (J.type.here ((looks_findIn X0 hs).here ?_))))
  rw [if_neg (by simp)]
  refine wpAny_bind (unlessNone_K X0 J hs hf (wpAny_mono run (fun r s' hr => ?_) fun _ _ z => z))
  obtain ⟨w, H', I', rw', b, rfl, hq⟩ := hr
  cases (show r = Value.bool b from rw')
  exact wpAny_truthy_bool (hq _ I')
theorem opM_in (G : FnM X.prog X.w X.K X.mg X.base k C "__contains__" 2 [] F) (hr : Room k X.A) (hu : X.A.units + 65 < cLine) : OpM X (compareOp .In) (pInM C F) := by
  intro pins s σ H x y v u Q I rx ry ⟨ω, S, px, py, t, r1, r2, o⟩
  unfold pInM at o
  split at o
  · rename_i C' fs hk
    split at o
    · rename_i hC
      subst hC
      refine wpAny_bind (contains_own (f := PV.bl) G hr I t r1 r2 rx ry hk (o.imp fun r S' H' ω' s' t' q b s2 e I' => wpAny_pure ?_))
      subst e
      exact ⟨.bl b, H', I', rfl, q _ rfl⟩
    · exact o.elim
  · obtain ⟨r0, e1, k1⟩ := optO_P t o
    exact opP_inD hu pins s σ H x y v u Q I rx ry ⟨ω, S, px, py, r0, t, r1, r2, e1, fun v H' s' t' r' => k1 H' s' t' v r'⟩
theorem opM_notIn (G : FnM X.prog X.w X.K X.mg X.base k C "__contains__" 2 [] F) (hr : Room k X.A) (hu : X.A.units + 65 < cLine) : OpM X (compareOp .NotIn) (pNotInM C F) := by
  intro pins s σ H x y v u Q I rx ry ⟨ω, S, px, py, t, r1, r2, o⟩
  unfold pNotInM at o
  split at o
  · rename_i C' fs hk
    split at o
    · rename_i hC
      subst hC
      refine wpAny_bind (contains_own (f := fun b => PV.bl (!b)) G hr I t r1 r2 rx ry hk (o.imp fun r S' H' ω' s' t' q b s2 e I' => wpAny_pure ?_))
      subst e
      exact ⟨.bl (!b), H', I', rfl, q _ rfl⟩
    · exact o.elim
  · obtain ⟨r0, e1, k1⟩ := optO_P t o
    exact opP_notInD hu pins s σ H x y v u Q I rx ry ⟨ω, S, px, py, r0, t, r1, r2, e1, fun v H' s' t' r' => k1 H' s' t' v r'⟩
end
end Pv

/-! raise, try .. except -/
namespace Pv
open PySem PySem.Spec L2 PyProof.Rows
variable [HW]
/-- an own class of exceptions over ValueError, without an own __init__ -/
structure ExcN (K : PySem.W.Frag) (mg : Str → Option Value) (n : Str) : Prop where
  ex : ∃ C, clA K n = some C ∧ mg n = some (.ref C) ∧ PySem.W.excIn K C [.type "ValueError", .type "Exception", .type "BaseException", .type "object"] "ValueError.__new__" = true ∧ PySem.W.keepIn K (.ref C) = true ∧
    PySem.W.subIn K (.ref C) (.type "BaseException") = some true ∧ PySem.W.typeIn K (.ref C) = some (.type "type")
@[simp] def sRaise (n : Str) : SDen := fun ρ S => .exc ⟨.own n, none⟩ ρ S
@[simp] def sNoX (o : SOut) : SOut := match o with
  | .exc _ _ _ => .stuck
  | o => o
theorem sNoX_P {K : PySem.W.Frag} {W : WX} {D : Ends} {ω : Ad} {H : Hp} {o : SOut} (h : SoP K W D ω H (sNoX o)) : SoP K (fun _ _ _ _ => False) D ω H o := by
  cases o <;> first | exact h | exact h.elim
section
variable {X : Cx} {W : WX} {m : Str} {j : Nat} {p p2 pos pos2 : Pos} {n : Str}
theorem sx_raise (hc : X.calm = true) (tk : Takes X W) (T : ExcN X.K X.mg n) (hg : Gl X n) (hdb : (n == ("__debug__" : Str)) = false := by decide) :
    SX X W (.Raise (some (.Call (.Name n p) [.Constant (.str m) j p2] [] pos)) none pos2) (sRaise n) := by
  obtain ⟨C, h1, h2, h3, h4, h5, h6⟩ := T.ex
  exact (ps_raise hc tk (pmk_own PySem.F.excBase_ValueError h3 h2 h4 (raises_own h5 h6) hg hdb)).imp fun D σ H ⟨ω, S, ρ, f, o⟩ => o (.ref C) σ none H ω ⟨C, h1, rfl⟩ .refl f rfl
end
/-- which of the exceptions a clause takes -/
def SubX (K : PySem.W.Frag) (c : Value) (sub : List (XCls × Bool)) : Prop := ∀ k b, sub.lookup k = some b → ∀ cv, XcR K k cv → PySem.W.exmOne K cv c = some b
theorem SubX.nil {K : PySem.W.Frag} {c : Value} : SubX K c [] := fun k b h => by simp at h
theorem SubX.cons {K : PySem.W.Frag} {c : Value} {k : XCls} {b : Bool} {l : List (XCls × Bool)} (h : ∀ cv, XcR K k cv → PySem.W.exmOne K cv c = some b) (r : SubX K c l) : SubX K c ((k, b) :: l) := fun k' b' e cv x => by
  cases q : (k' == k) with
  | true =>
    simp only [List.lookup, q] at e
    cases e
    cases beq_iff_eq.mp q
    exact h cv x
  | false =>
    simp only [List.lookup, q] at e
    exact r k' b' e cv x
theorem SubX.one {K : PySem.W.Frag} {n : Str} {C : Addr} {c : Value} {b : Bool} (hc : clA K n = some C) (h : PySem.W.exmOne K (.ref C) c = some b) : ∀ cv, XcR K (.own n) cv → PySem.W.exmOne K cv c = some b := fun cv ⟨C', e, z⟩ => by
  rw [hc] at e; cases e; subst z; exact h
@[simp] def sTry (d : SDen) (sub : List (XCls × Bool)) (ds : SDen) : SDen := fun ρ S => match d ρ S with
  | .exc x ρ' S' => match sub.lookup x.cls with
    | some true => sNoX (ds ρ' S')
    | some false => .exc x ρ' S'
    | none => .stuck
  | .nx ρ' S' => .nx ρ' S'
  | .rt v S' => .rt v S'
  | .bk ρ' S' => .bk ρ' S'
  | .ct ρ' S' => .ct ρ' S'
  | .stuck => .stuck
section
variable {X : Cx} {W : WX} {x : Str} {c : Value} {body suite : List Stmt} {b₀ : Stmt} {np pos pos' : Pos} {d ds : SDen} {sub : List (XCls × Bool)}
theorem sx_try (hs : X.stack = X.env :: X.outer) (hf : X.env.frame = some X.env.locals) (hc : Names X x c) (hsub : SubX X.K c sub) (tk : Takes X W)
    (hb : ∀ (W' : WX) (pn : List (Addr × Obj)) (xe : Value → Shared → Prop), Takes (X.tr pn xe) W' → PassesOwn (model X.prog X.w) X.A X.env xe → SsX (X.tr pn xe) W' body d)
    (hsu : ∀ (a : Addr) (oe : Obj) (pn : List (Addr × Obj)), SsX (X.suite a ((a, oe) :: pn)) W0 (b₀ :: suite) ds) :
    SX X W (.Try body [.ExceptHandler (some (.Name x np)) none (b₀ :: suite) pos'] [] [] pos) (sTry d sub ds) :=
  (ps_try_only (tb := fun W' => tS X.K W' d) (ts := fun _ _ _ => tS X.K W0 ds) hs hf hc tk hb fun a oe cls dd pn _ _ => hsu a oe pn).imp fun D σ H ⟨ω, S, ρ, f, o⟩ => by
    refine ⟨ω, S, ρ, f, ?_⟩
    revert o
    show SoP X.K W D ω H (match d ρ S with
      | .exc x ρ' S' => match sub.lookup x.cls with
        | some true => sNoX (ds ρ' S')
        | some false => .exc x ρ' S'
        | none => .stuck
      | .nx ρ' S' => .nx ρ' S'
      | .rt v S' => .rt v S'
      | .bk ρ' S' => .bk ρ' S'
      | .ct ρ' S' => .ct ρ' S'
      | .stuck => .stuck) → _
    cases d ρ S with
    | nx ρ' S' => exact fun o => o
    | rt v S' => exact fun o => o
    | bk ρ' S' => exact fun o => o
    | ct ρ' S' => exact fun o => o
    | stuck => exact fun o => o
    | exc x ρ' S' =>
      intro o cv σ' dd H' ω' xc st fr er
      cases q : sub.lookup x.cls with
      | none => simp only [q] at o; exact o.elim
      | some b =>
        refine ⟨b, hsub _ _ q cv xc, fun hb2 a ha => ?_, fun hb2 => ?_⟩
        · subst hb2
          simp only [q] at o
          exact ⟨ω', S', ρ', fr, sNoX_P (SoP.later st o)⟩
        · subst hb2
          simp only [q] at o
          exact o cv σ' dd H' ω' xc st fr er
end
end Pv

/-! walks over a dict's keys, values, items, whatever its keys are -/
namespace Pv
open PySem PySem.Spec L2 PyProof.Rows
variable [HW]
theorem relV_inj {a b : V} {u : Value} (h : L2.RelV a u) (g : L2.RelV b u) : a = b := by
  have key : ∀ {a : V} {u : Value}, L2.RelV a u → a = (match u with
    | .none => .non | .bool b => .bl b | .int i _ => .int i | .str x _ => .str x | .bytes b _ => .byt b | .float b _ => .flt b | .ref a => .ref a | .type n => .ty n | _ => .non) := by
    intro a u h
    cases a with
    | non => cases (show u = _ from h); rfl
    | bl b => cases (show u = _ from h); rfl
    | int i => obtain ⟨t, rfl⟩ := (show ∃ t, u = _ from h); rfl
    | str x => obtain ⟨t, rfl⟩ := (show ∃ t, u = _ from h); rfl
    | byt b => obtain ⟨t, rfl⟩ := (show ∃ t, u = _ from h); rfl
    | flt b => obtain ⟨t, rfl⟩ := (show ∃ t, u = _ from h); rfl
    | ref a => cases (show u = _ from h); rfl
    | ty n => cases (show u = _ from h); rfl
  rw [key h, key g]
/-- the dict at d is locked: its object is o, with the entries es -/
def Itq (d : Addr) (o : Obj) (u : HO) (es : Array DictEntry) (g : DictEntry → Value) : It :=
  ⟨fun i H => H d = some (.frz o u) ∧ i < es.size, fun i H x H' => H' = H ∧ ∃ e, es[i]? = some e ∧ L2.RelV x (g e), fun i H => H d = some (.frz o u) ∧ es.size ≤ i⟩
def Itp (d : Addr) (o : Obj) (u : HO) (es : Array DictEntry) : It :=
  ⟨fun i H => H d = some (.frz o u) ∧ i < es.size, fun i H x H' => ∃ T k v e, es[i]? = some e ∧ L2.RelV k e.key ∧ L2.RelV v e.val ∧ x = .ref T ∧ H T = none ∧ H' = upd H T (.tup [k, v]), fun i H => H d = some (.frz o u) ∧ es.size ≤ i⟩
section
variable {P : Program} {w : World} {K : PySem.W.Frag} {tg : Expr} {d : Addr} {o : Obj} {u : HO} {es : Array DictEntry} {ep : Nat}
theorem frz_raw {X : Cx} {pins : List (Addr × Obj)} {σ : L2.St} {H : Hp} {s : Shared} (I : L2.Inv X pins σ H s) (h : H d = some (.frz o u)) (hx : o.ExactDict) (hod : o.data = .dict es ep) : s.heap.DictRaw d es ep := by
  have q := I.hok d _ h
  obtain ⟨q1, _⟩ := q
  exact ⟨o, q1, hx, hod⟩
theorem turnq_keys (it : Addr) (hx : o.ExactDict) (hod : o.data = .dict es ep) (hV : ∀ e ∈ es.toList, ∃ x, L2.RelV x e.key) : Turn P w K tg (Itq d o u es (·.key)) [it] it (fun i h => h.IsKeyIter it d i es.size ep) where
  mem := by simp
  obj := fun i h st b hb => by
    have e : b = it := by simpa using hb
    subst e
    obtain ⟨oi, e, c, dd⟩ := st
    exact ⟨oi, e, fun v z => by rw [dd] at z; cases z⟩
  keep := fun i h h' st k => st.at fun oi e => k it (by simp) oi e
  item := by
    intro X hP hw hK hc i pins s σ H E I hf st hg
    subst hP hw hK
    obtain ⟨hd, hi⟩ := hg
    obtain ⟨f0, f1, f2, f3, f4, f5⟩ := hf it (by simp)
    refine wpAny_pyNext_keys_item_raw st (frz_raw I hd hx hod) hi fun h' st' sb => ?_
    have I1 : L2.Inv X pins σ H { s with heap := h' } := I.turned (t' := s.toks) (fun b ob hb e => (sb.2 b hb).trans e) f0 f1 f3 f4 f5
    obtain ⟨oi, e, c, dd⟩ := id st'
    obtain ⟨x, rx⟩ := hV es[i] (by simp)
    exact ⟨_, rfl, go_of (s := { s with heap := h' }) e c dd (by decide) ⟨x, H, I1, rx, ⟨rfl, es[i], by simp [hi], rx⟩, st', fun b hb => (hf b hb).1⟩⟩
  done := by
    intro X hP hw hK hc i pins s σ H E I hf st hg
    subst hP hw hK
    obtain ⟨hd, hi⟩ := hg
    obtain ⟨f0, f1, f2, f3, f4, f5⟩ := hf it (by simp)
    exact wpAny_pyNext_keys_end_raw (I.ok.hd hc) st (frz_raw I hd hx hod) hi fun h' eb => ⟨rfl, I.turned (t' := s.toks) (fun b ob hb e => eb b ob hb e) f0 f1 f3 f4 f5⟩
  self := fun A i s Q E st h => by
    refine wpAny_pyIter_slot st.typeIs F.slot_dict_keyiterator_iter (wpAny_call_entry F.slot_dict_keyiterator_iter st.typeIs F.entry_dict_keyiterator_iter ?_ (F.args_dict_keyiterator_iter_1 _))
    show wpAny _ _ (ret (.ref it)) _ _ s
    exact wpAny_pure ⟨_, rfl, "dict_keyiterator", _, st.typeIs, F.slot_dict_keyiterator_next.lookup, h⟩
theorem turnq_vals (it : Addr) (hx : o.ExactDict) (hod : o.data = .dict es ep) (hV : ∀ e ∈ es.toList, ∃ x, L2.RelV x e.val) : Turn P w K tg (Itq d o u es (·.val)) [it] it (fun i h => h.IsValIter it d i es.size ep) where
  mem := by simp
  obj := fun i h st b hb => by
    have e : b = it := by simpa using hb
    subst e
    obtain ⟨oi, e, c, dd⟩ := st
    exact ⟨oi, e, fun v z => by rw [dd] at z; cases z⟩
  keep := fun i h h' st k => st.at fun oi e => k it (by simp) oi e
  item := by
    intro X hP hw hK hc i pins s σ H E I hf st hg
    subst hP hw hK
    obtain ⟨hd, hi⟩ := hg
    obtain ⟨f0, f1, f2, f3, f4, f5⟩ := hf it (by simp)
    refine wpAny_pyNext_values_item_raw st (frz_raw I hd hx hod) hi fun h' st' sb => ?_
    have I1 : L2.Inv X pins σ H { s with heap := h' } := I.turned (t' := s.toks) (fun b ob hb e => (sb.2 b hb).trans e) f0 f1 f3 f4 f5
    obtain ⟨oi, e, c, dd⟩ := id st'
    obtain ⟨x, rx⟩ := hV es[i] (by simp)
    exact ⟨_, rfl, go_of (s := { s with heap := h' }) e c dd (by decide) ⟨x, H, I1, rx, ⟨rfl, es[i], by simp [hi], rx⟩, st', fun b hb => (hf b hb).1⟩⟩
  done := by
    intro X hP hw hK hc i pins s σ H E I hf st hg
    subst hP hw hK
    obtain ⟨hd, hi⟩ := hg
    obtain ⟨f0, f1, f2, f3, f4, f5⟩ := hf it (by simp)
    exact wpAny_pyNext_values_end_raw (I.ok.hd hc) st (frz_raw I hd hx hod) hi fun h' eb => ⟨rfl, I.turned (t' := s.toks) (fun b ob hb e => eb b ob hb e) f0 f1 f3 f4 f5⟩
  self := fun A i s Q E st h => wpAny_pyIter_valiter st h
theorem turnq_items {elts : List Expr} {kk : Nat} {tpos : Pos} (it : Addr) (hx : o.ExactDict) (hod : o.data = .dict es ep) (hV : ∀ e ∈ es.toList, (∃ x, L2.RelV x e.key) ∧ ∃ x, L2.RelV x e.val) :
    Turn P w K (.Tuple elts kk tpos) (Itp d o u es) [it] it (fun i h => ∃ ok ov, IsItemIter h it d i es.size ep ok ov) where
  mem := by simp
  obj := fun i h st b hb => by
    have e : b = it := by simpa using hb
    subst e
    obtain ⟨ok, ov, e⟩ := st
    exact ⟨_, e, fun v z => nomatch z⟩
  keep := fun i h h' st k => let ⟨ok, ov, e⟩ := st; ⟨ok, ov, k it (by simp) _ e⟩
  item := by
    intro X hP hw hK hc i pins s σ H E I hf st hg
    subst hP hw hK
    obtain ⟨hd, hi⟩ := hg
    obtain ⟨ok, ov, he⟩ := st
    have hlt : it < s.heap.objs.size := Heap.lt_size he
    obtain ⟨⟨kx, rk⟩, vx, rv⟩ := hV es[i] (by simp)
    refine wpAny_pyNext_items_item_raw he (frz_raw I hd hx hod) hi fun h' ho hT hz hk => ?_
    refine ⟨_, rfl, wpAny_letOwnedTupleGo_items (s := { s with heap := h' }) ho fun h'' he' sb => ?_⟩
    have hT2 : h''.get? s.heap.objs.size = some { cls := .type "tuple", data := .seq #[es[i].key, es[i].val] } := (sb.2 _ (Nat.ne_of_gt hlt)).trans hT
    have new : ObjOk X.prog X.w (upd H s.heap.objs.size (.tup [kx, vx])) h'' s.heap.objs.size (.tup [kx, vx]) :=
      ⟨by show 2 ≤ sizeLine; decide, [es[i].key, es[i].val], .cons rk (.cons rv .nil), ⟨_, hT2, rfl, _, rfl⟩⟩
    have I1 : L2.Inv X pins σ (upd H s.heap.objs.size (.tup [kx, vx])) { s with heap := h'' } :=
      I.turnedNew (t' := s.toks) (ch := [it]) (fun b ob hb e => (sb.2 b (by simpa using hb)).trans (hk b ob (by simpa using hb) e)) hf (Nat.le_refl _) new
    refine ⟨.ref s.heap.objs.size, _, I1, rfl, ⟨_, kx, vx, es[i], by simp [hi], rk, rv, rfl, I.hok.fresh (Nat.le_refl _), rfl⟩, ⟨_, _, he'⟩, fun b hb => ?_⟩
    have e : b = it := by simpa using hb
    rw [e, upd_ne (Nat.ne_of_lt hlt)]
    exact (hf it (by simp)).1
  done := by
    intro X hP hw hK hc i pins s σ H E I hf st hg
    subst hP hw hK
    obtain ⟨hd, hi⟩ := hg
    obtain ⟨f0, f1, f2, f3, f4, f5⟩ := hf it (by simp)
    obtain ⟨ok, ov, he⟩ := st
    exact wpAny_pyNext_items_end_raw (I.ok.hd hc) he (frz_raw I hd hx hod) hi fun h' eb => ⟨rfl, I.turned (t' := s.toks) (fun b ob hb e => eb b ob hb e) f0 f1 f3 f4 f5⟩
  self := fun A i s Q E st h => let ⟨_, _, e⟩ := st; PySem.W.kcp_self e h
end
section
variable {K : PySem.W.Frag} {ω : Ad} {S : Store} {H : Hp} {a : Addr} {o : Obj} {u : HO}
theorem lock_stp (h : H a = some u) (f : ω.Free a) (d : isDct u = true) : Stp ω H ω (upd H a (.frz o u)) := by
  refine ⟨⟨[], by simp, by simp⟩, rfl, fun b v e hb => ?_, fun b hb => ?_, fun b xs e => ?_, fun b hb v e => ?_⟩
  · by_cases q : b = a
    · subst q
      rw [h] at e; cases e
      exact ⟨_, upd_same, .inr ⟨d, o, rfl⟩⟩
    · exact ⟨v, by rw [upd_ne q]; exact e, .refl⟩
  · by_cases q : b = a
    · rw [q, upd_same]; simp
    · rw [upd_ne q]; exact hb
  · rw [upd_ne (fun q => by rw [q, h] at e; cases e; cases d)]; exact e
  · rw [upd_ne (fun q => f.2 (by rw [← q]; exact hb))]; exact e
theorem lock_str (t : StR K ω S H) (h : H a = some u) (f : ω.Free a) (d : isDct u = true) : StR K ω S (upd H a (.frz o u)) := by
  refine ⟨t.len, t.nd, t.nb, fun b hb => (lock_stp h f d).tr b (t.tb b hb), fun n c b e1 e2 => ?_⟩
  obtain ⟨v, hv, r⟩ := t.at n c b e1 e2
  have hb : b ≠ a := fun q => f.1 (by rw [← q]; exact List.mem_of_getElem? e2)
  exact ⟨v, by rw [upd_ne hb]; exact hv, r.up (lock_stp h f d).up⟩
end
/-- a dict's entries, by their pure keys and values -/
theorem ents_V {K : PySem.W.Frag} {H : Hp} {ω : Ad} {kvs : List (PV × PV)} {es : Array DictEntry} (h : Ents K H ω kvs es) : ∀ e ∈ es.toList, (∃ x, L2.RelV x e.key) ∧ ∃ x, L2.RelV x e.val := fun e he => by
  obtain ⟨j, hj⟩ := List.mem_iff_getElem?.mp he
  have hj' : es[j]? = some e := by rw [← Array.getElem?_toList]; exact hj
  have hl : j < kvs.length := by rw [h.1]; exact (Array.getElem?_eq_some_iff.mp hj').1
  obtain ⟨kv, v, r1, r2, _⟩ := h.2 j kvs[j] e (List.getElem?_eq_getElem hl) hj'
  exact ⟨⟨kv, r1⟩, v, r2⟩
theorem walks_q {K : PySem.W.Frag} {ω : Ad} {H : Hp} {a : Addr} {o : Obj} {u : HO} {kvs : List (PV × PV)} {es : Array DictEntry} {f : PV × PV → PV} {g : DictEntry → Value} (h : H a = some (.frz o u)) (fr : ω.Free a) (hn : kvs.length = es.size)
    (he : ∀ (j : Nat) (p : PV × PV) (e : DictEntry), kvs[j]? = some p → es[j]? = some e → ∃ x, L2.RelV x (g e) ∧ Rp K H ω (f p) x) : Walks K (Itq a o u es g) ω H (kvs.map f) where
  go := fun i ω' S H' hi s t => ⟨s.kn h fr.1 rfl, by rw [List.length_map] at hi; rw [← hn]; exact hi⟩
  stop := fun i ω' S H' hi s t => ⟨s.kn h fr.1 rfl, by rw [List.length_map] at hi; rw [hi, hn]; exact Nat.le_refl _⟩
  yld := fun i ω' S H' x H2 hi s t y => by
    obtain ⟨rfl, e, h1, h2⟩ := y
    rw [List.length_map] at hi
    obtain ⟨x', r1, r2⟩ := he i kvs[i] e (List.getElem?_eq_getElem hi) h1
    cases relV_inj r1 h2
    exact ⟨.refl, t, f kvs[i], by simp [hi], r2.up s.up⟩
theorem walks_p {K : PySem.W.Frag} {ω : Ad} {H : Hp} {a : Addr} {o : Obj} {u : HO} {kvs : List (PV × PV)} {es : Array DictEntry} (h : H a = some (.frz o u)) (fr : ω.Free a) (he : Ents K H ω kvs es) : Walks K (Itp a o u es) ω H (kvs.map fun p => .tup [p.1, p.2]) where
  go := fun i ω' S H' hi s t => ⟨s.kn h fr.1 rfl, by rw [List.length_map] at hi; rw [← he.1]; exact hi⟩
  stop := fun i ω' S H' hi s t => ⟨s.kn h fr.1 rfl, by rw [List.length_map] at hi; rw [hi, he.1]; exact Nat.le_refl _⟩
  yld := fun i ω' S H' x H2 hi s t y => by
    obtain ⟨T, k, v, e, h1, rk, rv, rfl, hT, rfl⟩ := y
    rw [List.length_map] at hi
    obtain ⟨k', v', r1, r2, r3, r4⟩ := he.2 i kvs[i] e (List.getElem?_eq_getElem hi) h1
    cases relV_inj r1 rk
    cases relV_inj r2 rv
    have s2 : Stp ω' H' ω' (upd H' T (.tup [k, v])) := new_stp hT
    exact ⟨s2, open_str (new_str t hT), .tup [kvs[i].1, kvs[i].2], by simp [hi], T, _, rfl, upd_same, ⟨_, _, rfl, (r3.up s.up).up s2.up, _, _, rfl, (r4.up s.up).up s2.up, rfl⟩⟩
/-- the entries of a dict with keys of all kinds -/
theorem MKV.rp {K : PySem.W.Frag} {H : Hp} {ω : Ad} {k : PV} {m : MKey} {v : V} (h : MKV H k m v) : Rp K H ω k v := by
  rcases h with ⟨kk, e, _, rfl⟩ | ⟨ks, kk, b, rfl, e, _, rfl, hb⟩
  · cases k <;> cases e <;> rfl
  · exact tkey_Rp (tkey_of.mpr ⟨ks, rfl, e⟩) hb
theorem mix_ents {K : PySem.W.Frag} {H : Hp} {ω : Ad} {w : World} : ∀ {kvs : List (PV × PV)} {xs : List (MKey × V × V)} {es : Array DictEntry}, RpM K H ω kvs xs →
    Paired (fun (p : MKey × V × V) (e : DictEntry) => e.hash = mHash w p.1 ∧ L2.RelV p.2.1 e.key ∧ L2.RelV p.2.2 e.val) xs es.toList → Ents K H ω kvs es := by
  have key : ∀ {kvs : List (PV × PV)} {xs : List (MKey × V × V)} {el : List DictEntry}, RpM K H ω kvs xs →
    Paired (fun (p : MKey × V × V) (e : DictEntry) => e.hash = mHash w p.1 ∧ L2.RelV p.2.1 e.key ∧ L2.RelV p.2.2 e.val) xs el → kvs.length = el.length ∧ ∀ (j : Nat) (p : PV × PV) (e : DictEntry), kvs[j]? = some p → el[j]? = some e →
      ∃ kv v, L2.RelV kv e.key ∧ L2.RelV v e.val ∧ Rp K H ω p.1 kv ∧ Rp K H ω p.2 v := by
    intro kvs
    induction kvs with
    | nil => intro xs el r q; cases (show xs = [] from r); cases q; exact ⟨rfl, fun j p e h => by simp at h⟩
    | cons p l ih =>
      intro xs el r q
      obtain ⟨k, x⟩ := p
      obtain ⟨m, u, v, ws, rfl, mk, rx, rr⟩ := r
      cases q with
      | cons q1 q2 =>
        obtain ⟨i1, i2⟩ := ih rr q2
        refine ⟨by simp [i1], fun j p e h1 h2 => ?_⟩
        cases j with
        | zero =>
          simp at h1 h2
          subst h1; subst h2
          exact ⟨u, v, q1.2.1, q1.2.2, mk.rp, rx⟩
        | succ j => exact i2 j p e (by simpa using h1) (by simpa using h2)
  intro kvs xs es r q
  obtain ⟨k1, k2⟩ := key r q
  exact ⟨by rw [k1, Array.length_toList], fun j p e h1 h2 => k2 j p e h1 (by rw [Array.getElem?_toList]; exact h2)⟩
theorem ents_up {K : PySem.W.Frag} {ω ω' : Ad} {H H' : Hp} {kvs : List (PV × PV)} {es : Array DictEntry} (u : Up ω H ω' H') (h : Ents K H ω kvs es) : Ents K H' ω' kvs es :=
  ⟨h.1, fun j p e h1 h2 => let ⟨kv, v, r1, r2, r3, r4⟩ := h.2 j p e h1 h2; ⟨kv, v, r1, r2, r3.up u, r4.up u⟩⟩
section
variable {X : Cx} {pins : List (Addr × Obj)} {σ : L2.St} {H : Hp} {s : Shared} {ω : Ad} {S : Store}
/-- a plain dict, locked -/
theorem lock_dct {v : V} {kvs : List (PV × PV)} (I : L2.Inv X pins σ H s) (t : StR X.K ω S H) (r : Rp X.K H ω (.dct kvs) v) : ∃ a o u es ep H', v = .ref a ∧ L2.Inv X pins σ H' s ∧ Stp ω H ω H' ∧ StR X.K ω S H' ∧ H' a = some (.frz o u) ∧ ω.Free a ∧ (a == sysModules) = false ∧
    o.ExactDict ∧ o.data = .dict es ep ∧ s.heap.get? a = some o ∧ Ents X.K H' ω kvs es := by
  obtain ⟨a, es, ep, rfl, hd, hs, hr, hl, he⟩ := ents_of I t r rfl
  obtain ⟨a', e, f, hh⟩ := r
  cases e
  obtain ⟨o, ho, hx, hdt⟩ := hr
  have fin : ∀ u, isDct u = true → Rd H a u → ∃ H', L2.Inv X pins σ H' s ∧ Stp ω H ω H' ∧ StR X.K ω S H' ∧ ∃ o', H' a = some (.frz o' u) := fun u hu rd => by
    rcases rd with h | ⟨ob, h⟩
    · obtain ⟨od, I'⟩ := L2.Inv.lock I h (by cases u <;> first | exact True.intro | cases hu)
      exact ⟨_, I', lock_stp h f hu, lock_str t h f hu, od, upd_same⟩
    · exact ⟨H, I, .refl, t, ob, h⟩
  have key : ∀ u, isDct u = true → Rd H a u → ∃ a_1 o u es ep H', V.ref a = .ref a_1 ∧ L2.Inv X pins σ H' s ∧ Stp ω H ω H' ∧ StR X.K ω S H' ∧ H' a_1 = some (.frz o u) ∧ ω.Free a_1 ∧ (a_1 == sysModules) = false ∧
    o.ExactDict ∧ o.data = .dict es ep ∧ s.heap.get? a_1 = some o ∧ Ents X.K H' ω kvs es := fun u hu rd => by
    obtain ⟨H', I', st, t', o', h'⟩ := fin u hu rd
    have q : s.heap.get? a = some o' := (I'.hok a _ h').1
    rw [ho] at q
    cases q
    exact ⟨a, o, u, es, ep, H', rfl, I', st, t', h', f, hs, hx, hdt, ho, ents_up st.up he⟩
  rcases hh with ⟨xs, rd, _⟩ | ⟨xs, rd, _⟩
  · exact key _ rfl rd
  · exact key _ rfl rd
end
/-- over a list, a tuple, a text, a dict's keys -/
@[simp] def iAD (d : Den) : DenA := fun ρ S => (d ρ S).then fun x S1 => match x with
  | .lst xs => .ok xs S1
  | .tup xs => .ok xs S1
  | .str z => .ok (z.cps.toList.map fun c => .str ⟨#[c]⟩) S1
  | .dct kvs => .ok (kvs.map (·.1)) S1
  | .dcm kvs => .ok (kvs.map (·.1)) S1
  | _ => .stuck
@[simp] def iVals (d : Den) : DenA := fun ρ S => (d ρ S).then fun x S1 => match x with
  | .dct kvs => .ok (kvs.map (·.2)) S1
  | _ => .stuck
@[simp] def iItems (d : Den) : DenA := fun ρ S => (d ρ S).then fun x S1 => match x with
  | .dct kvs => .ok (kvs.map fun p => .tup [p.1, p.2]) S1
  | _ => .stuck
def fAD : PV → Option (List PV)
  | .lst xs => some xs
  | .tup xs => some xs
  | .str z => some (z.cps.toList.map fun c => .str ⟨#[c]⟩)
  | .dct kvs => some (kvs.map (·.1))
  | .dcm kvs => some (kvs.map (·.1))
  | _ => none
def fVals : PV → Option (List PV)
  | .dct kvs => some (kvs.map (·.2))
  | _ => none
def fItems : PV → Option (List PV)
  | .dct kvs => some (kvs.map fun p => .tup [p.1, p.2])
  | _ => none
@[simp] def optL (o : Option (List PV)) (S : Store) : Out (List PV) := match o with
  | some xs => .ok xs S
  | none => .stuck
theorem iAD_eq (de : Den) : iAD de = fun ρ S => (de ρ S).then fun x S1 => optL (fAD x) S1 := by
  funext ρ S
  unfold iAD
  cases de ρ S with
  | ok x S1 => cases x <;> rfl
  | exc x S1 => rfl
  | stuck => rfl
theorem iVals_eq (de : Den) : iVals de = fun ρ S => (de ρ S).then fun x S1 => optL (fVals x) S1 := by
  funext ρ S
  unfold iVals
  cases de ρ S with
  | ok x S1 => cases x <;> rfl
  | exc x S1 => rfl
  | stuck => rfl
theorem iItems_eq (de : Den) : iItems de = fun ρ S => (de ρ S).then fun x S1 => optL (fItems x) S1 := by
  funext ρ S
  unfold iItems
  cases de ρ S with
  | ok x S1 => cases x <;> rfl
  | exc x S1 => rfl
  | stuck => rfl
section
variable {X : Cx} {W : WX} {tg e : Expr} {de : Den} {pos apos cpos : Pos}
/-- what a walked value owes, from what it was read -/
theorem ix_run {pins : List (Addr × Obj)} {s : Shared} {σ : L2.St} {H : Hp} {R : It → Hp → Prop} {f : PV → Option (List PV)} {B : Value → Shared → Prop} (he : EX X W e de) (I : L2.Inv X pins σ H s)
    (h : tXI X.K W (fun ρ S => (de ρ S).then fun x S1 => optL (f x) S1) σ H R)
    (k : ∀ (v : V) (u : Value) (s1 : Shared) (H1 : Hp) (ω1 : Ad) (S1 : Store) (ρ : PEnv) (x : PV) (xs : List PV), L2.Inv X pins σ H1 s1 → StR X.K ω1 S1 H1 → Rp X.K H1 ω1 x v → L2.RelV v u → f x = some xs → (∀ ω' H', Stp ω1 H1 ω' H' → StR X.K ω' S1 H' → ∀ J, Walks X.K J ω' H' xs → R J H') → B u s1) :
    wpAny (model X.prog X.w) X.A (eval e X.env) B X.xe s := by
  obtain ⟨ω, S, ρ, fr, o⟩ := h
  refine thn (he.run pins s σ H (fun v H1 => ∃ ω1 S1 x xs, StR X.K ω1 S1 H1 ∧ Rp X.K H1 ω1 x v ∧ f x = some xs ∧ ∀ ω' H', Stp ω1 H1 ω' H' → StR X.K ω' S1 H' → ∀ J, Walks X.K J ω' H' xs → R J H') I ⟨ω, S, ρ, fr, (OutP.bind o).imp fun x S1 H1 ω1 s1 t1 o1 v rv => ?_⟩) fun u s1 ⟨v, H1, I1, rv, ω1, S1, x, xs, t1, rx, hf, kk⟩ => k v u s1 H1 ω1 S1 ρ x xs I1 t1 rx rv hf kk
  cases q : f x with
  | none => rw [q] at o1; exact o1.elim
  | some xs =>
    rw [q] at o1
    exact ⟨ω1, S1, x, xs, t1, rv, q, fun ω' H' s' t' J w => o1 H' ω' s' t' J w⟩
theorem ix_ad (he : EX X W e de) : IX X W tg e (iAD de) := by
  rw [iAD_eq]
  refine ⟨fun pins s σ H R I h => ?_⟩
  refine ix_run (f := fAD) he I h fun v u s1 H1 ω1 S1 ρ x xs I1 t1 rx rv hf kk => ?_
  cases x <;> first | (cases hf; done) | skip
  · rename_i z
    cases hf
    cases (show v = V.str z from rx)
    obtain ⟨t, rfl⟩ := rv
    have q := kk ω1 H1 .refl t1 _ (walks_str (z := z))
    cases ha : z.cps.all (· < 128)
    · exact wpAny_pyIter_wide ha (pi_one (tk := s1.toks) I1 _ (turn_str _ z t "str_iterator" (.inr rfl)) ⟨_, Heap.get?_push_size _ rfl, rfl, rfl⟩ q)
    · exact wpAny_pyIter_ascii ha (pi_one (tk := s1.toks) I1 _ (turn_str _ z t "str_ascii_iterator" (.inl rfl)) ⟨_, Heap.get?_push_size _ rfl, rfl, rfl⟩ q)
  · cases hf
    obtain ⟨a, vs, rfl, ha, rr⟩ := rx
    cases rv
    obtain ⟨its, rv, p, hz⟩ := I1.tuple (SqT.of ha)
    exact wpAny_pyIter_tuple (show s1.heap.IsTuple a its.toArray from p) (pi_one (tk := s1.toks) I1 _ (turn_tuple a _) ⟨_, Heap.get?_push_size _ rfl, rfl, rfl⟩ (kk ω1 H1 .refl t1 _ (walks_tup ha rr)))
  · cases hf
    obtain ⟨a, vs, rfl, ha, f, rr⟩ := rx
    cases rv
    obtain ⟨its, rv, p, hz⟩ := I1.list (SqL.of ha)
    exact wpAny_pyIter_list p.isList (pi_one (tk := s1.toks) I1 _ (turn_list a _) ⟨_, Heap.get?_push_size _ rfl, rfl, rfl⟩ (kk ω1 H1 .refl t1 _ (walks_list ha f rr)))
  · rename_i kvs
    cases hf
    obtain ⟨a, o, u', es, ep, H', rfl, I', st, t', h', f, hs, hx, hdt, ho, he2⟩ := lock_dct I1 t1 rx
    cases rv
    refine wpAny_pyIter_dict_raw hs ⟨o, ho, hx, hdt⟩ (pi_one (tk := s1.toks) I' _ (turnq_keys _ hx hdt fun e he => (ents_V he2 e he).1) ⟨_, Heap.get?_push_size _ rfl, rfl, rfl⟩ (kk ω1 H' st t' _ (walks_q h' f he2.1 fun j p e h1 h2 => ?_)))
    obtain ⟨kv, v, r1, r2, r3, r4⟩ := he2.2 j p e h1 h2
    exact ⟨kv, r1, r3⟩
  · rename_i kvs
    cases hf
    obtain ⟨a, o, xs, rfl, ha, f, hs, ⟨hx, hnd, hz, es, ep, hdt, pr⟩, rr⟩ := rx
    cases rv
    have he2 := mix_ents rr pr
    exact wpAny_pyIter_dict_raw hs ⟨o, (I1.hok a _ ha).1, hx, hdt⟩ (pi_one (tk := s1.toks) I1 _ (turnq_keys _ hx hdt fun e he => (ents_V he2 e he).1) ⟨_, Heap.get?_push_size _ rfl, rfl, rfl⟩ (kk ω1 H1 .refl t1 _ (walks_q ha f he2.1 fun j p e h1 h2 => by
      obtain ⟨kv, v, r1, r2, r3, r4⟩ := he2.2 j p e h1 h2
      exact ⟨kv, r1, r3⟩)))
theorem ix_vals (he : EX X W e de) (hbase : attributeBase e "values" X.env (eval e X.env) = eval e X.env := by rfl) (hline : (apos.endLine == cpos.line) = true := by rfl) : IX X W tg (.Call (.Attribute e "values" apos) [] [] cpos) (iVals de) := by
  rw [iVals_eq]
  refine ⟨fun pins s σ H R I h => ?_⟩
  refine wpAny_Call_method (T := "dict") (id := "dict.values") hbase rfl hline F.plainAttrs_dict F.slot_dict_values F.type_dict_values (ix_run (f := fVals) he I h fun v u s1 H1 ω1 S1 ρ x xs I1 t1 rx rv hf kk => ?_)
  cases x <;> first | (cases hf; done) | skip
  cases hf
  obtain ⟨a, o, u', es, ep, H', rfl, I', st, t', h', f, hs, hx, hdt, ho, he2⟩ := lock_dct I1 t1 rx
  cases rv
  have hm : s1.heap.DictRaw a es ep := ⟨o, ho, hx, hdt⟩
  refine ⟨hm.typeIs, fun b e => by cases e; exact ⟨o, ho, hx.2.1⟩, ?_⟩
  have I2 : L2.Inv X pins σ H' { s1 with heap := s1.heap.push { cls := .type "dict_values", data := .fields #[.ref a] } } := I'.kept (t' := s1.toks) fun b ob q => Heap.get?_push_of_some _ q
  have fin : wpAny (model X.prog X.w) X.A (pyIter (.ref s1.heap.objs.size)) (PIE X pins σ tg R) X.xe { s1 with heap := s1.heap.push { cls := .type "dict_values", data := .fields #[.ref a] } } :=
    wpAny_pyIter_values_raw (d := a) ⟨_, Heap.get?_push_size _ rfl, rfl, rfl⟩ (hm.at fun _ e => Heap.get?_push_of_some _ e) (pi_one (tk := s1.toks) I2 _ (turnq_vals _ hx hdt fun e he => (ents_V he2 e he).2) ⟨_, Heap.get?_push_size _ rfl, rfl, rfl⟩ (kk ω1 H' st t' _ (walks_q h' f he2.1 fun j p e h1 h2 => by
      obtain ⟨kv, v, r1, r2, r3, r4⟩ := he2.2 j p e h1 h2
      exact ⟨v, r2, r4⟩)))
  show wpAny _ _ (callWith cpos (.builtin "dict.values") [.ref a] [] []) _ X.xe s1
  exact method_meetsIn F.slot_dict_values F.entry_dict_values rfl (PySem.evalArgs_none ⟨rfl, hm.typeIs, F.args_dict_values_1 _, _, meets_dict_values_raw a hs, ⟨es, ep, hm⟩, fin⟩)
theorem ix_items {elts : List Expr} {nn : Nat} {tpos : Pos} (he : EX X W e de) (hbase : attributeBase e "items" X.env (eval e X.env) = eval e X.env := by rfl) (hline : (apos.endLine == cpos.line) = true := by rfl) : IX X W (.Tuple elts nn tpos) (.Call (.Attribute e "items" apos) [] [] cpos) (iItems de) := by
  rw [iItems_eq]
  refine ⟨fun pins s σ H R I h => ?_⟩
  refine wpAny_Call_method (T := "dict") (id := "dict.items") hbase rfl hline F.plainAttrs_dict F.slot_dict_items F.type_dict_items (ix_run (f := fItems) he I h fun v u s1 H1 ω1 S1 ρ x xs I1 t1 rx rv hf kk => ?_)
  cases x <;> first | (cases hf; done) | skip
  cases hf
  obtain ⟨a, o, u', es, ep, H', rfl, I', st, t', h', f, hs, hx, hdt, ho, he2⟩ := lock_dct I1 t1 rx
  cases rv
  have hm : s1.heap.DictRaw a es ep := ⟨o, ho, hx, hdt⟩
  refine ⟨hm.typeIs, fun b e => by cases e; exact ⟨o, ho, hx.2.1⟩, ?_⟩
  have I2 : L2.Inv X pins σ H' { s1 with heap := s1.heap.push { cls := .type "dict_items", data := .fields #[.ref a] } } := I'.kept (t' := s1.toks) fun b ob q => Heap.get?_push_of_some _ q
  have fin : wpAny (model X.prog X.w) X.A (pyIter (.ref s1.heap.objs.size)) (PIE X pins σ (.Tuple elts nn tpos) R) X.xe { s1 with heap := s1.heap.push { cls := .type "dict_items", data := .fields #[.ref a] } } :=
    wpAny_pyIter_items_raw (d := a) ⟨_, Heap.get?_push_size _ rfl, rfl, rfl⟩ (hm.at fun _ e => Heap.get?_push_of_some _ e) (pi_one (tk := s1.toks) I2 _ (turnq_items _ hx hdt (ents_V he2)) ⟨.none, .none, Heap.get?_push_size _ rfl⟩ (kk ω1 H' st t' _ (walks_p h' f he2)))
  show wpAny _ _ (callWith cpos (.builtin "dict.items") [.ref a] [] []) _ X.xe s1
  exact method_meetsIn F.slot_dict_items F.entry_dict_items rfl (PySem.evalArgs_none ⟨rfl, hm.typeIs, F.args_dict_items_1 _, _, meets_dict_items_raw a hs, ⟨es, ep, hm⟩, fin⟩)
end
end Pv

/-! dict comprehensions, keys numbers or texts, or tuples of them -/
namespace Pv
open PySem PySem.Spec L2 PyProof.Rows
variable [HW]
section
variable {X : Cx} {pins : List (Addr × Obj)} {σ : L2.St} {H : Hp} {s : Shared} {ω : Ad} {D : Addr}
/-- a key and a value are put into a dict that is being filled -/
theorem put_any {acc : List (PV × PV)} {o : HO} {y z : PV} {vy vz : V} {u r : Value} {E : Value → Shared → Prop} {Q : Unit → Shared → Prop} (hu : X.A.units + 1 < cLine) (I : L2.Inv X pins σ H s) (hD : H D = some o) (co : CoR X.K H ω D (.dct acc) o)
    (ry : Rp X.K H ω y vy) (rz : Rp X.K H ω z vz) (qy : L2.RelV vy u) (qz : L2.RelV vz r) (hk : kindOk acc y = true) (hl : acc.length < sizeLine)
    (h : ∀ o' s', L2.Inv X pins σ (upd H D o') s' → CoR X.K H ω D (.dct (putP acc y z)) o' → Q () s') : wpAny (model X.prog X.w) X.A (dictSet D u r) Q E s := by
  have one : (1 : Nat) ≤ sizeLine := by rw [sizeLine_eq]; decide
  -- into a dict of numbers and texts
  have putK' : ∀ (ws : List (Key × V)) (k : Key) (vs : List (Key × Value)) (u' : Value), RelV (kV k) u' → ws.length < sizeLine → (D == sysModules) = false → KV ws vs → s.heap.DictOf (mixKind X.prog X.w) D vs → (∀ s', L2.Inv X pins σ (upd H D (.dK (putK ws k vz))) s' → Q () s') →
      wpAny (model X.prog X.w) X.A (dictSet D u' r) Q E s := fun ws k vs u' rk hz hs rel dd hq => by
    have hzv : vs.length ≤ sizeLine := by rw [← rel.length]; omega
    have hz2 : (putK ws k vz).length ≤ sizeLine := by have := length_putK ws k vz; omega
    refine wpAny_dictSet_pairs (hsz := hzv) (kV_is rk) dd fun h' dd' sb => hq _ ?_
    have there : ∃ q, h'.get? D = some q := let ⟨q, _, _, e, _⟩ := dd'; ⟨q, e⟩
    refine d_write I ?_ sb there (dk_new hz2 hs (rel.put k qz) dd')
    rw [hD]
    rcases co with ⟨xs, rfl, _⟩ | ⟨xs, rfl, _⟩ <;> exact True.intro
  have putT' : ∀ (ws : List (List Key × V)) (k : List Key) (b : Addr) (xs : List (List Key × Addr × Value)), H b = some (.tup (k.map kV)) → ws.length < sizeLine → (D == sysModules) = false → KT H ws xs → s.heap.DictOfH (tupleKind (mixKind X.prog X.w)) D xs → (∀ s', L2.Inv X pins σ (upd H D (.dT (putK ws k vz))) s' → Q () s') →
      wpAny (model X.prog X.w) X.A (dictSet D (.ref b) r) Q E s := fun ws k b xs hb hz hs rel dd hq => by
    have hzv : xs.length ≤ sizeLine := by rw [← Paired.length rel]; omega
    have hz2 : (putK ws k vz).length ≤ sizeLine := by have := length_putK ws k vz; omega
    refine wpAny_dictSet_heap (hsz := hzv) (show X.A.units < cLine by omega) (key_of I.hok hb) dd fun h' dd' sb => hq _ ?_
    obtain ⟨q, es, ep, e, h2, h3, h4, _, h5⟩ := dd'
    refine d_write I ?_ sb ⟨q, e⟩ ⟨hz2, hs, _, (rel.put k hb qz).keeps fun c ys ec => ?_, q, es, ep, e, h2, h3, h4, h5⟩
    · rw [hD]
      rcases co with ⟨xs, rfl, _⟩ | ⟨xs, rfl, _⟩ <;> exact True.intro
    · rw [upd_ne (fun z => by
        rw [z, hD] at ec
        rcases co with ⟨xs, rfl, _⟩ | ⟨xs, rfl, _⟩ <;> cases ec)]
      exact ec
  unfold kindOk at hk
  cases hck : ckey y with
  | none => rw [hck] at hk; cases hk
  | some c =>
    rw [hck] at hk
    rcases ck_cases hck with ⟨ky, ek, rfl⟩ | ⟨ky, ek, rfl⟩
    · have hk : acc.all (fun p => (keyOf p.1).isSome) = true := hk
      have ew := keyOf_V ek ry
      subst ew
      rcases co with ⟨xs, rfl, rr⟩ | ⟨xs, rfl, rr⟩
      · obtain ⟨z0, hs, vs, rel, dd⟩ := dk_of I.hok hD
        have rr := rpK_X.mp rr
        exact putK' xs ky vs u qy (by rw [← rr.length]; exact hl) hs rel dd fun s' I' => h _ s' I' (.inl ⟨_, rfl, rpK_X.mpr (put_X reads_K ek rz rr)⟩)
      · cases acc with
        | nil =>
          cases rr
          obtain ⟨hs, dk, _⟩ := emp_both I (.inr (.of hD))
          exact putK' [] ky [] u qy (Nat.lt_of_lt_of_le Nat.zero_lt_one one) hs .nil dk fun s' I' => h _ s' I' (.inl ⟨_, rfl, rpK_X.mpr (put_X (kvs := []) (xs := []) reads_K ek rz rfl)⟩)
        | cons p l =>
          obtain ⟨k0, x0⟩ := p
          obtain ⟨kk, v0, ws, e0, h1, _, _⟩ := rpT_X.mp rr
          simp at hk
          obtain ⟨a0, ha0⟩ := Option.isSome_iff_exists.mp hk.1
          exact (noBoth ha0 h1).elim
    · have hk : acc.all (fun p => (tkey p.1).isSome) = true := hk
      obtain ⟨b, rfl, hb⟩ := tkey_V ek ry
      obtain rfl : u = Value.ref b := qy
      rcases co with ⟨xs, rfl, rr⟩ | ⟨xs, rfl, rr⟩
      · cases acc with
        | nil =>
          cases rr
          obtain ⟨hs, _, dt⟩ := emp_both I (.inl (.of hD))
          exact putT' [] ky b [] hb (Nat.lt_of_lt_of_le Nat.zero_lt_one one) hs .nil dt fun s' I' => h _ s' I' (.inr ⟨_, rfl, rpT_X.mpr (put_X (kvs := []) (xs := []) reads_T ek rz rfl)⟩)
        | cons p l =>
          obtain ⟨k0, x0⟩ := p
          obtain ⟨kk, v0, ws, e0, h1, _, _⟩ := rpK_X.mp rr
          simp at hk
          obtain ⟨a0, ha0⟩ := Option.isSome_iff_exists.mp hk.1
          exact (noBoth h1 ha0).elim
      · obtain ⟨z0, hs, vs, rel, dd⟩ := dt_of I.hok hD
        have rr := rpT_X.mp rr
        exact putT' xs ky b vs hb (by rw [← rr.length]; exact hl) hs rel dd fun s' I' => h _ s' I' (.inr ⟨_, rfl, rpT_X.mpr (put_X reads_T ek rz rr)⟩)
end
/-! ### the comprehension -/
/-- y: z goes into the dict at D, which is being filled; what stands behind is as is wanted -/
def PutOk (K : PySem.W.Frag) (D : Addr) (y z : V) (H : Hp) (N : Hp → Prop) : Prop := ∃ ω acc o py pz, H D = some o ∧ CoR K H ω D (.dct acc) o ∧ Rp K H ω py y ∧ Rp K H ω pz z ∧ kindOk acc py = true ∧ acc.length < sizeLine ∧
  ∀ o', CoR K H ω D (.dct (putP acc py pz)) o' → N (upd H D o')
/-- {k: v for target in iter if ..} -/
def tDcG (K : PySem.W.Frag) (wi : TI) (g : TG) (tt : TT) (tk tv : TE) (vs : List Nat) : TE := fun σ H Q => wi σ H fun J H1 => ∀ D, H1 D = none → ∃ W : Nat → Nat → Hp → Prop, (∃ m, W 0 m (upd H1 D (.dK []))) ∧ ∀ i m H, W i m H →
  (J.stop i H ∧ Q (.ref D) H) ∨ (J.go i H ∧ ∃ N : Hp → Prop, (∀ H', N H' → ∃ m', m' < m ∧ W (i + 1) m' H') ∧ ∀ x H', J.yld i H x H' → g x (wipe σ vs) H' fun σ2 H2 => wipe σ2 vs = wipe σ vs ∧ tt σ2 H2 fun b H3 =>
    if b = true then tk σ2 H3 fun y H4 => tv σ2 H4 fun z H5 => PutOk K D y z H5 N else N H3)
section
variable {X : Cx}
theorem ex_dcG {kx vx tg iter : Expr} {ifs : List Expr} {scope : Scope} {own : List (Str × Nat)} {pos : Pos} {wi : TI} {g : TG} {tt : TT} {tk tv : TE} (hu : X.A.units + 1 < cLine) (hc : X.calm = true) (hN : X.N.Nodup) (hi : PI X tg iter wi) (ok : BlkOk X.N X.env.scope scope own)
    (hg : ∀ (s : Shared) (H : Hp) (C : Addr) (cl : List (Str × Addr)) (fp : List Addr), PG (X.blk s H scope (compEnvC scope cl C X.env) fp) tg g)
    (ht : ∀ (s : Shared) (H : Hp) (C : Addr) (cl : List (Str × Addr)) (fp : List Addr), PTs (X.blk s H scope (compEnvC scope cl C X.env) fp) ifs tt)
    (hk : ∀ (s : Shared) (H : Hp) (C : Addr) (cl : List (Str × Addr)) (fp : List Addr), PE (X.blk s H scope (compEnvC scope cl C X.env) fp) kx tk)
    (he : ∀ (s : Shared) (H : Hp) (C : Addr) (cl : List (Str × Addr)) (fp : List Addr), PE (X.blk s H scope (compEnvC scope cl C X.env) fp) vx tv) (hs : ∀ x, foldedSetIterable iter X.env x = pure x) :
    PE X (.DictComp kx vx [⟨tg, iter, ifs, 0⟩] scope pos) (tDcG X.K wi g tt tk tv (own.map (·.2))) := by
  refine ⟨fun pins s σ H Q I h => ?_⟩
  rw [arm_eval_DictComp]
  have cells : ∀ y ∈ scope.names, y.2 = .free → ∃ c, X.env.cells.lookup y.1 = some c := fun y hy e => by
    rcases ok.free y hy e with k | k
    · exact I.ok.has _ (.inl k)
    · exact I.ok.has _ (.inr k)
  refine wpAny_comprehension_free (use := none) rfl hs (closure_ok cells) ok.kind (fun y hy e => by rw [ok.uniq y hy, e]) (thn (hi.run pins s σ H _ I h) fun xv s1 hx => thn hx fun itv s2 ⟨it, fp, tn, J, H2, e, I2, T, st2, f2, q⟩ => ?_)
  subst e
  refine wpAny_newObj_type (newEnv_comp ?_)
  -- the dict that is filled, D
  have hDn : H2 s2.heap.objs.size = none := I2.hok.fresh (Nat.le_refl _)
  obtain ⟨W, ⟨m0, w0⟩, turn⟩ := q s2.heap.objs.size hDn
  revert w0 turn
  generalize eD : s2.heap.objs.size = D at hDn ⊢
  intro turn w0
  generalize e3 : ({ s2 with heap := s2.heap.push { cls := .type "dict", data := .dict #[] } } : Shared) = s3
  have h3 : s3.heap = s2.heap.push { cls := .type "dict", data := .dict #[] } := by rw [← e3]
  have I3 : L2.Inv X pins σ (upd H2 D (.dK [])) s3 := by
    have new := dk_empty (P := X.prog) (w := X.w) (H := upd H2 D (.dK [])) s2.heap I2.big
    rw [eD] at new
    rw [← e3]
    exact I2.laid (t' := s2.toks) (fun b o e => Heap.get?_push_of_some _ e) (Nat.le_of_eq eD) new
  have old : ∀ b ∈ fp, b < s2.heap.objs.size := fun b hb => let ⟨o, e, _⟩ := T.obj _ _ st2 b hb; Heap.lt_size e
  have f3 : ∀ b ∈ fp, FpOk X pins (upd H2 D (.dK [])) b ∧ b < s3.heap.objs.size := fun b hb =>
    ⟨⟨by rw [upd_ne (by rw [← eD]; exact Nat.ne_of_lt (old b hb))]; exact (f2 b hb).1, (f2 b hb).2⟩, by rw [h3, Heap.size_push]; exact Nat.lt_succ_of_lt (old b hb)⟩
  have st3 : tn 0 s3.heap := T.keep _ _ _ st2 fun b _ o e => by rw [h3]; exact Heap.get?_push_of_some _ e
  have I4 := block_start I3 ok hN f3
  generalize eH : upd H2 D (.dK []) = H3 at I3 I4 w0 f3
  have pg := hg s3 H3 s3.heap.objs.size (cellsFrom (s3.heap.objs.size + 1) scope.names (cloFrom X.env.cells scope.names [])) fp
  have pt := ht s3 H3 s3.heap.objs.size (cellsFrom (s3.heap.objs.size + 1) scope.names (cloFrom X.env.cells scope.names [])) fp
  have pk := hk s3 H3 s3.heap.objs.size (cellsFrom (s3.heap.objs.size + 1) scope.names (cloFrom X.env.cells scope.names [])) fp
  have pv := he s3 H3 s3.heap.objs.size (cellsFrom (s3.heap.objs.size + 1) scope.names (cloFrom X.env.cells scope.names [])) fp
  show codeAny _ _ (.compStart (.DictComp kx vx [⟨tg, iter, ifs, 0⟩] scope pos) 0 (.ref it) (.ref D) (compEnvC scope (cellsFrom (s3.heap.objs.size + 1) scope.names (cloFrom X.env.cells scope.names [])) s3.heap.objs.size X.env)) (compPost (model X.prog X.w) X.A X.xe none (EP X pins σ Q) (.ref D) s3.heap.objs.size) { s3 with heap := pushCells (s3.heap.push { cls := .type "dict", data := .dict #[] }) scope.names }
  generalize ec : compEnvC scope (cellsFrom (s3.heap.objs.size + 1) scope.names (cloFrom X.env.cells scope.names [])) s3.heap.objs.size X.env = ce at I4 pg pt pk pv ⊢
  have eL : ce.locals = s3.heap.objs.size := by subst ec; rfl
  generalize e4 : ({ s3 with heap := pushCells (s3.heap.push { cls := .type "dict", data := .dict #[] }) scope.names } : Shared) = s4 at I4 ⊢
  have st4 : tn 0 s4.heap := T.keep _ _ _ st3 fun b _ o e => by rw [← e4]; exact pushCells_keeps _ _ _ _ (Heap.get?_push_of_some _ e)
  have own' : ∀ {σ' : L2.St} {H' : Hp} {s' : Shared}, L2.Inv (X.blk s3 H3 scope ce fp) [] σ' H' s' → (∀ b ∈ fp, H' b = none) → ∀ b ∈ fp, FpOk (X.blk s3 H3 scope ce fp) [] H' b := fun {σ' H' s'} I' hn b hb =>
    ⟨hn b hb, (I'.ok.exf b hb).1, I'.ok.exfs b hb, .inl hb, (I'.ok.exf b hb).2, fun p hp => by simp [Cx.blk] at hp⟩
  have loop : codeAny (model X.prog X.w) X.A (.compLoop (.DictComp kx vx [⟨tg, iter, ifs, 0⟩] scope pos) 0 (.ref it) (.ref D) ce) (compPost (model X.prog X.w) X.A X.xe none (EP X pins σ Q) (.ref D) s3.heap.objs.size) s4 := by
    refine compLoop_anyD (fun n s' => ∃ i H', L2.Inv (X.blk s3 H3 scope ce fp) [] (wipe σ (own.map (·.2))) H' s' ∧ tn i s'.heap ∧ (∀ b ∈ fp, H' b = none) ∧ W i n H') ?_ m0 ⟨0, H3, I4, st4, fun b hb => (f3 b hb).1.1, w0⟩
    rintro n s5 ⟨i, H5, I5, st5, n5, w5⟩
    rcases turn i n H5 w5 with ⟨stop, qq⟩ | ⟨go, N, hN', step⟩
    · refine thnF (T.done (X.blk s3 H3 scope ce fp) rfl rfl rfl hc i [] s5 _ H5 (fun _ _ => False) I5 (own' I5 n5) st5 stop) fun r s6 ⟨hr, I6⟩ => ?_
      subst hr
      have I7 : L2.Inv X pins σ H5 s6 := I3.call' (ch := fp) I6.os I6.base I6.hok I6.bare fun b hb => ⟨(f3 b hb).1.2.2.2.1, (f3 b hb).1.2.1, (f3 b hb).1.2.2.2.2.1, (f3 b hb).1.2.2.2.2.2⟩
      obtain ⟨m, hm, _⟩ := I6.loc
      have hm : s6.heap.Ns s3.heap.objs.size m := by rw [← eL]; exact hm
      have hf : H5 s3.heap.objs.size = none := by rw [← eL]; exact I6.free
      obtain ⟨g0, g1, g2, g3, g4, g5⟩ := I3.fpOk (H' := H5) (Nat.le_refl _) hf
      exact ⟨m, hm, fun h'' sb => ⟨.ref D, H5, I7.turned (t' := s6.toks) (fun b o hb e => (sb.2 b hb).trans e) g0 g1 g3 g4 g5, rfl, qq⟩⟩
    · refine thnF (T.item (X.blk s3 H3 scope ce fp) rfl rfl rfl hc i [] s5 _ H5 (fun _ _ => False) I5 (own' I5 n5) st5 go) fun r s6 ⟨u, hr, h6⟩ => ?_
      subst hr
      refine thnF h6 fun _ s7 ⟨x, H7, I7, r7, y7, st7, n7⟩ => ?_
      refine thnF (pg.run _ s7 _ H7 x u _ (I7.pinned (own' I7 n7) (T.obj _ _ st7)) r7 (step x H7 y7)) fun _ s8 ⟨σ8, H8, I8, w8, q8⟩ => ?_
      refine thnF (pt.run _ s8 σ8 H8 _ I8 q8) fun b s9 ⟨H9, I9, q9⟩ => ?_
      have fin : ∀ {s' : Shared} {H' : Hp}, L2.Inv (X.blk s3 H3 scope ce fp) ([] ++ pinsAt fp s7.heap) σ8 H' s' → N H' → ∃ m, m < n ∧ ∃ i H', L2.Inv (X.blk s3 H3 scope ce fp) [] (wipe σ (own.map (·.2))) H' s' ∧ tn i s'.heap ∧ (∀ b ∈ fp, H' b = none) ∧ W i m H' := fun {s' H'} I' nx => by
        obtain ⟨m', hm, w'⟩ := hN' H' nx
        have stay : ∀ b ∈ fp, ∀ o, s7.heap.get? b = some o → s'.heap.get? b = some o ∧ H' b = none := fun b hb o e => let z := I'.pin (b, o) (List.mem_append_right _ (List.mem_append_right _ (mem_pinsAt hb e))); ⟨z.1, z.2.1⟩
        refine ⟨m', hm, i + 1, H', (I'.unpinned (pins := [])).weak (by rw [← w8, wipe_length]) (fun j v e => (wipe_some (by rw [← w8] at e; exact e)).1), T.keep _ _ _ st7 fun b hb o e => (stay b hb o e).1, fun b hb => ?_, w'⟩
        obtain ⟨o, e, _⟩ := T.obj _ _ st7 b hb
        exact (stay b hb o e).2
      cases b with
      | false => exact fin I9 q9
      | true =>
        refine thnF (pk.run _ s9 σ8 H9 _ I9 q9) fun z s10 ⟨yk, H10, I10, r10, q10⟩ => ?_
        refine thnF (pv.run _ s10 σ8 H10 _ I10 q10) fun z2 s11 ⟨yv, H11, I11, r11, ω, acc, o, py, pz, c1, c2, c3, c4, c5, c6, c7⟩ => ?_
        exact put_any (X := X.blk s3 H3 scope ce fp) hu I11 c1 c2 c3 c4 r10 r11 c5 c6 fun o' s12 I12 co => fin I12 (c7 o' co)
  exact codeAny_compStart_dict loop (T.self X.A 0 _ _ _ st4 loop)
end
end Pv

/-! dict comprehensions, by denotations -/
namespace Pv
open PySem PySem.Spec L2 PyProof.Rows
variable [HW]
def compK (b : Bd) (test : DenT) (dk dv : Den) (ρ : PEnv) : List PV → List (PV × PV) → M (List (PV × PV))
  | [], acc, S => .ok acc S
  | x :: xs, acc, S => match b x ρ with
    | none => .stuck
    | some ρ1 => (noX (test ρ1 S)).then fun k S1 => if k = true then (noX (dk ρ1 S1)).then fun y S2 => (noX (dv ρ1 S2)).then fun z S3 => if kindOk acc y = true ∧ acc.length < sizeLine then compK b test dk dv ρ xs (putP acc y z) S3 else .stuck
      else compK b test dk dv ρ xs acc S1
@[simp] def dDc (ds : DenA) (vs : List Nat) (b : Bd) (test : DenT) (dk dv : Den) : Den := fun ρ S => (ds ρ S).then fun xs S1 => (compK b test dk dv (wipeR ρ vs) xs [] S1).then fun kvs S2 => .ok (.dct kvs) S2
section
variable {X : Cx} {W : WX} {ds : DenA} {dk dv : Den}
theorem dc_P {wi : TI} {g : TG} {tt : TT} {tk tv : TE} {vs us : List Nat} {b : Bd} {dt : DenT} {σ : L2.St} {H : Hp} {Q : VK} (hu : ∀ j, j ∈ us → j ∈ vs)
    (hi : ∀ σ H R, tXI X.K W ds σ H R → wi σ H R) (hg : ∀ v σ H Q, tXG X.K b us v σ H Q → g v σ H Q) (ht : ∀ σ H Q, tXT X.K W0 dt σ H Q → tt σ H Q) (hk : ∀ σ H Q, tX X.K W0 dk σ H Q → tk σ H Q) (hv : ∀ σ H Q, tX X.K W0 dv σ H Q → tv σ H Q)
    (h : tXF X.K W (dDc ds vs b dt dk dv) σ H Q) : tDcG X.K wi g tt tk tv vs σ H Q := by
  obtain ⟨ω, S, ρ, f, o⟩ := h
  refine hi _ _ _ ⟨ω, S, ρ, f, ?_⟩
  have oo : OutP X.K (fun c x H' => W c x σ H') ω H (ds ρ S) fun xs S1 H1 ω1 => OutP X.K (fun c x H' => W c x σ H') ω1 H1 ((compK b dt dk dv (wipeR ρ vs) xs [] S1).then fun kvs S2 => .ok (PV.dct kvs) S2) _ := OutP.bind o
  refine oo.imp fun xs S1 H1 ω1 s1 t1 o1 J w D hD => ?_
  have hD0 : H D = none := by
    cases hq : H D with
    | none => rfl
    | some u => exact absurd hD (s1.tr D (by rw [hq]; simp))
  have f1 := f.later s1 t1
  refine ⟨fun i m H' => m = xs.length - i ∧ i ≤ xs.length ∧ ∃ ν S' acc od, Stp ω1 H1 ⟨ν, ω1.B⟩ H' ∧ StR X.K ⟨ν, D :: ω1.B⟩ S' H' ∧ H' D = some od ∧ CoR X.K H' ⟨ν, D :: ω1.B⟩ D (.dct acc) od ∧
    OutP X.K (fun c x H' => W c x σ H') ω1 H1 ((compK b dt dk dv (wipeR ρ vs) (xs.drop i) acc S').then fun kvs S2 => .ok (PV.dct kvs) S2)
      (fun r S' H' ω' => ∀ p o, H' p = some o → H p = none → p ∉ ω'.ν → StR X.K ⟨ω'.ν, p :: ω'.B⟩ S' H' → CoR X.K H' ⟨ω'.ν, p :: ω'.B⟩ p r o → Q (.ref p) H'),
    ⟨xs.length, rfl, Nat.zero_le _, ω1.ν, S1, [], .dK [], new_stp hD, new_str t1 hD, upd_same, .inl ⟨[], rfl, rfl⟩, o1⟩, ?_⟩
  rintro i m H' ⟨rfl, hle, ν, S', acc, od, s', t', hDw, co, o'⟩
  have t0 := open_str (ω := ⟨ν, ω1.B⟩) t'
  have hDν : D ∉ ν := fun z => t'.nb D z List.mem_cons_self
  by_cases hl : i < xs.length
  · refine .inr ⟨w.go i _ S' H' hl (s'.lat1 hD) t', ?_⟩
    refine ⟨fun H2 => ∃ ν S' acc od, Stp ω1 H1 ⟨ν, ω1.B⟩ H2 ∧ StR X.K ⟨ν, D :: ω1.B⟩ S' H2 ∧ H2 D = some od ∧ CoR X.K H2 ⟨ν, D :: ω1.B⟩ D (.dct acc) od ∧
      OutP X.K (fun c x H' => W c x σ H') ω1 H1 ((compK b dt dk dv (wipeR ρ vs) (xs.drop (i + 1)) acc S').then fun kvs S2 => .ok (PV.dct kvs) S2)
        (fun r S' H' ω' => ∀ p o, H' p = some o → H p = none → p ∉ ω'.ν → StR X.K ⟨ω'.ν, p :: ω'.B⟩ S' H' → CoR X.K H' ⟨ω'.ν, p :: ω'.B⟩ p r o → Q (.ref p) H'),
      fun H2 h2 => ⟨xs.length - (i + 1), by omega, rfl, hl, h2⟩, fun x H3 y => ?_⟩
    obtain ⟨s3, t3, z, hz, rz⟩ := w.yld i _ S' H' x H3 hl (s'.lat1 hD) t' y
    rw [List.getElem?_eq_getElem hl] at hz
    cases hz
    have env : EnvR X.K H3 ⟨ν, D :: ω1.B⟩ (wipeR ρ vs) (wipe σ vs) := ((wipe_env f1.2 vs).up (s'.lat1 hD).up).up s3.up
    rw [List.drop_eq_getElem_cons hl] at o'
    unfold compK at o'
    cases hb : b xs[i] (wipeR ρ vs) with
    | none => rw [hb] at o'; exact o'.elim
    | some ρ1 =>
      rw [hb] at o'
      have s13 : Stp ω1 H1 ⟨ν, ω1.B⟩ H3 := s'.trans ⟨⟨[], by simp, by simp⟩, rfl, s3.kp, s3.tr, s3.tp, fun a ha u e => s3.bk a (List.mem_cons_of_mem _ ha) u e⟩
      refine hg _ _ _ _ ⟨⟨ν, D :: ω1.B⟩, S', wipeR ρ vs, _, ρ1, ⟨t3, env⟩, rz, hb, fun σ4 h4 f4 => ⟨wipe_wipe hu h4, ht _ _ _ ⟨⟨ν, D :: ω1.B⟩, S', ρ1, f4, ?_⟩⟩⟩
      have o4 := OutP.bindA (E' := fun c x H' => W0 c x σ4 H') (ω := ⟨ν, D :: ω1.B⟩) (H := H3) (show OutP X.K (fun c x H' => W c x σ H') ω1 H1 ((noX (dt ρ1 S')).then fun k S1 => (if k = true then (noX (dk ρ1 S1)).then fun y S2 => (noX (dv ρ1 S2)).then fun z S3 => if kindOk acc y = true ∧ acc.length < sizeLine then compK b dt dk dv (wipeR ρ vs) (xs.drop (i + 1)) (putP acc y z) S3 else .stuck
        else compK b dt dk dv (wipeR ρ vs) (xs.drop (i + 1)) acc S1).then fun kvs S2 => .ok (PV.dct kvs) S2) _ by rw [← then_assoc]; exact o')
      refine o4.imp fun k S5 H5 ω5 s5 t5 o5 => ?_
      obtain ⟨ν5, B5⟩ := ω5
      have e5 : B5 = D :: ω1.B := s5.bl
      subst e5
      have s15 : Stp ω1 H1 ⟨ν5, ω1.B⟩ H5 := s13.trans ⟨s5.nu, rfl, s5.kp, s5.tr, s5.tp, fun a ha u e => s5.bk a (List.mem_cons_of_mem _ ha) u e⟩
      have hD5 : H5 D = some od := s5.bk D List.mem_cons_self _ (s3.bk D List.mem_cons_self _ hDw)
      have co5 : CoR X.K H5 ⟨ν5, D :: ω1.B⟩ D (.dct acc) od := (co.up s3.up).up s5.up
      cases k with
      | false => exact iteF ⟨ν5, S5, acc, od, s15, t5, hD5, co5, o5⟩
      | true =>
        refine iteT (hk _ _ _ ⟨⟨ν5, D :: ω1.B⟩, S5, ρ1, (f4.later s5 t5), ?_⟩)
        have o6 := OutP.bindA (E' := fun c x H' => W0 c x σ4 H') (ω := ⟨ν5, D :: ω1.B⟩) (H := H5) (show OutP X.K (fun c x H' => W c x σ H') ω1 H1 ((noX (dk ρ1 S5)).then fun y S2 => ((noX (dv ρ1 S2)).then fun z S3 => if kindOk acc y = true ∧ acc.length < sizeLine then compK b dt dk dv (wipeR ρ vs) (xs.drop (i + 1)) (putP acc y z) S3 else .stuck).then fun kvs S2 => .ok (PV.dct kvs) S2) _ by rw [← then_assoc]; exact o5)
        refine o6.imp fun ky S6 H6 ω6 s6 t6 o6 vk rk => ?_
        obtain ⟨ν6, B6⟩ := ω6
        have e6 : B6 = D :: ω1.B := s6.bl
        subst e6
        refine hv _ _ _ ⟨⟨ν6, D :: ω1.B⟩, S6, ρ1, ((f4.later s5 t5).later s6 t6), ?_⟩
        have o7 := OutP.bindA (E' := fun c x H' => W0 c x σ4 H') (ω := ⟨ν6, D :: ω1.B⟩) (H := H6) (show OutP X.K (fun c x H' => W c x σ H') ω1 H1 ((noX (dv ρ1 S6)).then fun z S3 => (if kindOk acc ky = true ∧ acc.length < sizeLine then compK b dt dk dv (wipeR ρ vs) (xs.drop (i + 1)) (putP acc ky z) S3 else .stuck).then fun kvs S2 => .ok (PV.dct kvs) S2) _ by rw [← then_assoc]; exact o6)
        refine o7.imp fun zv S7 H7 ω7 s7 t7 o7 vz rz => ?_
        obtain ⟨ν7, B7⟩ := ω7
        have e7 : B7 = D :: ω1.B := s7.bl
        subst e7
        have hD7 : H7 D = some od := s7.bk D List.mem_cons_self _ (s6.bk D List.mem_cons_self _ hD5)
        have s16 : Stp ω1 H1 ⟨ν6, ω1.B⟩ H6 := s15.trans ⟨s6.nu, rfl, s6.kp, s6.tr, s6.tp, fun a ha u e => s6.bk a (List.mem_cons_of_mem _ ha) u e⟩
        have s17 : Stp ω1 H1 ⟨ν7, ω1.B⟩ H7 := s16.trans ⟨s7.nu, rfl, s7.kp, s7.tr, s7.tp, fun a ha u e => s7.bk a (List.mem_cons_of_mem _ ha) u e⟩
        split at o7
        · rename_i hc
          have hDν7 : D ∉ ν7 := fun z => t7.nb D z List.mem_cons_self
          have notup : ∀ xs, od ≠ .tup xs := fun xs e => by subst e; exact co.noTup
          have up7 : ∀ o, Up ⟨ν7, D :: ω1.B⟩ H7 ⟨ν7, D :: ω1.B⟩ (upd H7 D o) := fun o => ⟨fun _ _ z => z, fun a u e f' => ⟨⟨u, by rw [upd_ne (fun z => f'.2 (by rw [z]; exact List.mem_cons_self))]; exact e, .refl⟩, f'⟩, fun a xs e => by rw [upd_ne (fun z => by rw [z, hD7] at e; cases e; exact notup _ rfl)]; exact e⟩
          refine ⟨⟨ν7, D :: ω1.B⟩, acc, od, ky, zv, hD7, (co5.up s6.up).up s7.up, rk.up s7.up, rz, hc.1, hc.2, fun o' co' => ⟨ν7, S7, putP acc ky zv, o', ?_, ?_, upd_same, co'.up (up7 _), o7⟩⟩
          · refine ⟨s17.nu, rfl, fun a u e nf => ?_, fun a e => ?_, fun a xs e => ?_, fun a ha u e => by rw [upd_ne (ne_of_none e hD)]; exact s17.bk a ha u e⟩
            · rw [upd_ne (ne_of_none e hD)]; exact s17.kp a u e nf
            · unfold upd; split
              · simp
              · exact s17.tr a e
            · rw [upd_ne (ne_of_none e hD)]; exact s17.tp a xs e
          · refine ⟨t7.len, t7.nd, t7.nb, fun a ha => ?_, fun n c a e1 e2 => ?_⟩
            · unfold upd; split
              · simp
              · exact t7.tb a ha
            · obtain ⟨u, hu', ru⟩ := t7.at n c a e1 e2
              have : a ≠ D := fun z => hDν7 (by rw [← z]; exact List.mem_of_getElem? e2)
              exact ⟨u, by rw [upd_ne this]; exact hu', ru.up (up7 _)⟩
        · exact o7.elim
  · have hi' : i = xs.length := by omega
    subst hi'
    refine .inl ⟨w.stop _ _ S' H' rfl (s'.lat1 hD) t', ?_⟩
    rw [List.drop_length] at o'
    have o' : OutP X.K (fun c x H' => W c x σ H') ω1 H1 (.ok (PV.dct acc) S') _ := o'
    exact o' H' ⟨ν, ω1.B⟩ s' t0 D _ hDw hD0 hDν t' co
variable {kx vx tg iter : Expr} {ifs : List Expr} {scope : Scope} {own : List (Str × Nat)} {us : List Nat} {b : Bd} {dt : DenT} {pos : Pos}
theorem ef_dc (hu0 : X.A.units + 1 < cLine) (hc : X.calm = true) (hN : X.N.Nodup) (hi : IX X W tg iter ds) (ok : BlkOk X.N X.env.scope scope own) (hu : ∀ j, j ∈ us → j ∈ own.map (·.2))
    (hg : ∀ (s : Shared) (H : Hp) (C : Addr) (cl : List (Str × Addr)) (fp : List Addr), GX (X.blk s H scope (compEnvC scope cl C X.env) fp) tg b us)
    (ht : ∀ (s : Shared) (H : Hp) (C : Addr) (cl : List (Str × Addr)) (fp : List Addr), TsX (X.blk s H scope (compEnvC scope cl C X.env) fp) ifs dt)
    (hk : ∀ (s : Shared) (H : Hp) (C : Addr) (cl : List (Str × Addr)) (fp : List Addr), EX (X.blk s H scope (compEnvC scope cl C X.env) fp) W0 kx dk)
    (hv : ∀ (s : Shared) (H : Hp) (C : Addr) (cl : List (Str × Addr)) (fp : List Addr), EX (X.blk s H scope (compEnvC scope cl C X.env) fp) W0 vx dv) (hs : ∀ x, foldedSetIterable iter X.env x = pure x := by intro _; rfl) :
    EF X W (.DictComp kx vx [⟨tg, iter, ifs, 0⟩] scope pos) (dDc ds (own.map (·.2)) b dt dk dv) :=
  (ex_dcG hu0 hc hN hi ok hg ht hk hv hs).imp fun _ _ _ h => dc_P (us := us) hu (fun _ _ _ q => q) (fun _ _ _ _ q => q) (fun _ _ _ q => q) (fun _ _ _ q => q) (fun _ _ _ q => q) h
end
end Pv

/-! sets of texts: one text more -/
namespace Pv
open PySem PySem.Spec L2 PyProof.Rows
variable [HW]
/-- a member more -/
def addS (ks : List Str) (k : Str) : List Str := if k ∈ ks then ks else ks ++ [k]
theorem addS_len (ks : List Str) (k : Str) : (addS ks k).length ≤ ks.length + 1 := by
  unfold addS; split <;> simp
section
variable {P : Program} {w : World} {A : Around} {E : Value → Shared → Prop} {s : Shared} {a : Addr} {ks : List Str}
theorem goodS_elems {l : List (Int × Value)} (g : ∀ e ∈ l, GoodS w e) : ElemsOf (strKind P w) l := fun e he => by
  obtain ⟨x, tk, h1, h2⟩ := g e he
  exact ⟨⟨x, by rw [h1]; exact strKind_is P w x tk, h2⟩, by rw [h1]; rfl⟩
theorem goodS_is {e : Int × Value} (g : GoodS w e) (k : Str) : (strKind P w).is k e.2 = true ↔ strOf e = k := by
  obtain ⟨x, tk, h1, h2⟩ := g
  have q : strOf e = x := by unfold strOf; rw [h1]
  rw [h1, q]
  constructor
  · intro h
    obtain ⟨t, e⟩ := Value.isStrOf_shape (show Value.isStrOf k (.str x tk) = true from h)
    cases e; rfl
  · rintro rfl
    exact strKind_is P w x tk
/-- the end of putting a text in: the table is stored, perhaps laid anew -/
theorem setS_tail {g : Bool → Sem Unit} (hg : ∀ (b : Bool) (s₁ : Shared) (Q' : Unit → Shared → Prop), Q' () s₁ → wpAny (model P w) A (g b) Q' E s₁)
    {o : Obj} {es : Array (Int × Value)} {ep : Nat} {t : SetTable} (ho : s.heap.get? a = some o) (hex : o.ExactSet) (hd : o.data = .set es ep t)
    {es1 : Array (Int × Value)} {t2 : SetTable} (g1 : ∀ e ∈ es1.toList, GoodS w e) (pm : (es1.toList.map strOf).Perm ks) (nd : ks.Nodup)
    (hb : es1.size < scanBound) (hf : t2.fits es1.size = true) (hr : Ris t2.place.toList) (hl : w.params.followText "set-order" = true ∨ t2.led = true) {was : Bool} {R : Option Bool → Shared → Prop}
    (hR : ∀ h', Heap.SameBut a s.heap h' → SetS w h' a ks → R (some true) { s with heap := h' }) :
    wpAny (model P w) A (do
        storeSet a es1 t2
        if (!was && t2.tooFull) = true then do
            g (relayAll t2 es1 (SetTable.grown es1.size)).2.2
            storeSet a (relayAll t2 es1 (SetTable.grown es1.size)).1 (relayAll t2 es1 (SetTable.grown es1.size)).2.1
            pure (some true)
          else pure (some true)) R E s := by
  have ho1 := store_at (es' := es1) (t' := t2) ho hd
  have sb := Heap.SameBut.update s.heap a (Obj.putSet es1 t2)
  refine wpAny_bind (wpAny_storeSet_of ho hd ?_ (fits_of_scanBound hb))
  cases q : (!was && t2.tooFull) with
  | false =>
    rw [if_neg Bool.false_ne_true]
    exact wpAny_pure (hR _ sb ⟨_, es1, _, t2, ho1, hex, rfl, g1, pm, nd, hb, hf, hr, hl⟩)
  | true =>
    rw [if_pos rfl]
    have p2 := relayAll_perm t2 es1 (SetTable.grown es1.size)
    have f2 := relayAll_fits t2 es1 (SetTable.grown es1.size)
    have r2 := relayAll_ris t2 es1 (SetTable.grown es1.size)
    have l2 := relayAll_led t2 es1 (SetTable.grown es1.size)
    revert p2 f2 r2 l2
    generalize relayAll t2 es1 (SetTable.grown es1.size) = Z
    obtain ⟨es2, t3, gave⟩ := Z
    intro p2 f2 r2 l2
    have sz : es2.size = es1.size := by rw [← Array.length_toList, p2.length_eq, Array.length_toList]
    have hb2 : es2.size < scanBound := by rw [sz]; exact hb
    refine wpAny_bind (hg _ _ _ (wpAny_bind (wpAny_storeSet_of ho1 rfl ?_ (fits_of_scanBound hb2))))
    refine wpAny_pure (hR _ (sb.trans (Heap.SameBut.update _ a _)) ⟨_, es2, _, t3, store_at (es' := es2) (t' := t3) ho1 rfl, hex, rfl, fun e he => g1 e (p2.mem_iff.mp he), (p2.map strOf).trans pm, nd, hb2, f2, r2, hl.imp _root_.id fun z => ?_⟩)
    exact l2.trans z
theorem setS_add_hashed {k : Str} {tk : Tok} {Q : Bool → Shared → Prop} (R : SetS w s.heap a ks) (room : ks.length + 1 < scanBound)
    (hQ : ∀ h' b, Heap.SameBut a s.heap h' → SetS w h' a (addS ks k) → Q b { s with heap := h' }) : wpAny (model P w) A (setAddHashed a (.str k tk) ((strKind P w).hash k)) Q E s := by
  obtain ⟨o, es, ep, t, ho, hex, hd, g, pm, nd, hb, hf, hr, hl⟩ := R
  have hkey : (strKind P w).is k (.str k tk) = true := strKind_is P w k tk
  have hsc : (Value.str k tk).scannable = true := rfl
  have hel : ElemsOf (strKind P w) es.toList := goodS_elems g
  have hn : es.size = ks.length := by rw [← pm.length_eq, List.length_map, Array.length_toList]
  unfold setAddHashed setAddHashedIn
  refine wpAny_holding (wpAny_bind (wpAny_setState_of ho hd hf ?_))
  dsimp only
  rw [byScan_of hsc hb hel]
  simp only [↓reduceIte]
  unfold setAddByScan
  refine wpAny_bind (wpAny_bind (wpAny_rule (wpAny_bind (wpAny_setScan_of hkey ho hd hf hel ?_))))
  cases hfi : List.findIdx? (fun e => (strKind P w).is k e.2) es.toList with
  | some j =>
    dsimp only
    obtain ⟨hj, pj, _⟩ := List.findIdx?_eq_some_iff_getElem.mp hfi
    have mem : k ∈ ks := pm.mem_iff.mp (List.mem_map.mpr ⟨es.toList[j], List.getElem_mem hj, (goodS_is (P := P) (g _ (List.getElem_mem hj)) k).mp pj⟩)
    refine wpAny_pure (wpAny_pure (hQ s.heap _ (Heap.SameBut.refl a s.heap) ?_))
    unfold addS
    rw [if_pos mem]
    exact ⟨o, es, ep, t, ho, hex, hd, g, pm, nd, hb, hf, hr, hl⟩
  | none =>
    dsimp only
    have new : k ∉ ks := fun z => by
      obtain ⟨e, he, q⟩ := List.mem_map.mp (pm.mem_iff.mpr z)
      have c := List.findIdx?_eq_none_iff.mp hfi e he
      rw [(goodS_is (P := P) (g e he) k).mpr q] at c
      cases c
    have hgw : ∀ (b : Bool) {s₁ : Shared} {Q' : Unit → Shared → Prop}, Q' () s₁ → wpAny (model P w) A (match b with | true => rule "set.scan.the-table-gave-way" | false => pure ()) Q' E s₁ :=
      fun b s₁ Q' q => by cases b <;> first | exact wpAny_pure q | exact wpAny_rule q
    have p1 := layNew_perm t es ((strKind P w).hash k) (.str k tk)
    have f1 := layNew_fits t es ((strKind P w).hash k) (.str k tk)
    have r1 := layNew_ris t es ((strKind P w).hash k) (.str k tk) hr
    have l1 := layNew_led t es ((strKind P w).hash k) (.str k tk)
    revert p1 f1 r1 l1
    generalize layNew t es ((strKind P w).hash k) (.str k tk) = Z
    obtain ⟨es1, t1, was, gave⟩ := Z
    intro p1 f1 r1 l1
    have p1 : es1.toList.Perm (es.push ((strKind P w).hash k, Value.str k tk)).toList := p1
    rw [Array.toList_push] at p1
    have g1 : ∀ e ∈ es1.toList, GoodS w e := fun e he => by
      rcases List.mem_append.mp (p1.mem_iff.mp he) with z | z
      · exact g e z
      · rw [List.mem_singleton.mp z]; exact ⟨k, tk, rfl, rfl⟩
    have pk : (es1.toList.map strOf).Perm (addS ks k) := by
      unfold addS
      rw [if_neg new]
      refine (p1.map strOf).trans ?_
      rw [List.map_append]
      exact pm.append_right _
    have ndk : (addS ks k).Nodup := by
      unfold addS
      rw [if_neg new]
      exact List.nodup_append.mpr ⟨nd, by simp, fun x hx y hy => by simp at hy; subst hy; exact fun z => new (z ▸ hx)⟩
    have hsz : es1.size = es.size + 1 := by rw [← Array.length_toList, p1.length_eq, List.length_append, Array.length_toList]; rfl
    have hb1 : es1.size < scanBound := by rw [hsz, hn]; exact room
    have led : w.params.followText "set-order" = true ∨ t1.led = true := hl.imp _root_.id fun z => (show t1.led = t.led from l1).trans z
    refine wpAny_bind (hgw _ ?_)
    have fin : ∀ h', Heap.SameBut a s.heap h' → SetS w h' a (addS ks k) → wpAny (model P w) A (pure true) Q E { s with heap := h' } := fun h' sb r => wpAny_pure (hQ h' _ sb r)
    split
    · refine wpAny_bind ?_
      rw [hashByValue_scannable 8 hsc]
      refine wpAny_pure ?_
      refine setS_tail ?_ ho hex hd g1 pk ndk hb1 ?_ ?_ ?_ ?_
      · intro b s₁ Q' q; cases b <;> first | exact wpAny_pure q | exact wpAny_rule q
      · first | (split <;> first | exact f1 | exact SetTable.fits_plain_off f1) | exact f1
      · first | (split <;> exact r1) | exact r1
      · first | (split <;> exact led) | exact led
      · exact fun h' sb r => fin h' sb r
    · refine wpAny_bind (wpAny_pure ?_)
      simp only [↓reduceIte]
      refine setS_tail ?_ ho hex hd g1 pk ndk hb1 f1 r1 led ?_
      · intro b s₁ Q' q; cases b <;> first | exact wpAny_pure q | exact wpAny_rule q
      · exact fun h' sb r => fin h' sb r
theorem setS_fresh {h : Heap} (w : World) (ho : h.get? a = some { cls := .type "set", dict := none, data := .set #[] 0 (.fresh 0 0 (!w.params.followText "set-order")) }) : SetS w h a [] := by
  refine ⟨_, #[], 0, _, ho, ⟨rfl, rfl, rfl⟩, rfl, fun e he => by simp at he, by simp, List.nodup_nil, by decide, by rfl, ?_, ?_⟩
  · exact List.Pairwise.nil
  · cases q : w.params.followText "set-order" with
    | true => exact .inl rfl
    | false => exact .inr rfl
end
end Pv

/-! set(..) of a list or a tuple of texts -/
namespace Pv
open PySem PySem.Spec L2 PyProof.Rows
variable [HW]
theorem strs_get : ∀ {us : List Value} {xs : List Str}, StrsAre us xs → ∀ (i : Nat) (v : Value), us[i]? = some v → ∃ t, v = .str (xs.getD i Str.empty) t
  | _, _, .nil, i, v, h => by simp at h
  | _, _, .cons n t hr, 0, v, h => ⟨t, by simpa using h.symm⟩
  | _, _, .cons n t hr, i + 1, v, h => let ⟨t', e⟩ := strs_get hr i v (by simpa using h); ⟨t', by simpa using e⟩
/-- the different ones of some texts -/
def distinct (xs : List Str) : List Str := xs.foldl addS []
theorem distinct_take (xs : List Str) {i : Nat} (h : i < xs.length) : distinct (xs.take (i + 1)) = addS (distinct (xs.take i)) xs[i] := by
  have e : xs.take (i + 1) = xs.take i ++ [xs[i]] := by rw [List.take_succ, List.getElem?_eq_getElem h]; rfl
  unfold distinct
  rw [e, List.foldl_append]
  rfl
theorem distinct_len (xs : List Str) : (distinct xs).length ≤ xs.length := by
  have : ∀ (l acc : List Str), (l.foldl addS acc).length ≤ acc.length + l.length := by
    intro l
    induction l with
    | nil => intro acc; simp
    | cons x l ih => intro acc; simp only [List.foldl_cons, List.length_cons]; have := ih (addS acc x); have := addS_len acc x; omega
  simpa [distinct] using this xs []
section
variable {P : Program} {w : World} {A : Around} {R : Result → Shared → Prop} {I : Addr} {fp wr : List Addr} {G : Array GenState → Array GenState → Prop} {n : Nat} {Pd : Nat → Value → Prop} {St : Nat → Shared → Prop}
/-- the texts are put in, one by one -/
theorem fill_set (W : WalksS P w A.in1 I fp wr G n Pd St) (S : Addr) (out : S ∉ fp) (xs : List Str) (hn : xs.length = n) (few : n + 1 < scanBound) (hval : ∀ i v, Pd i v → ∃ t, v = .str (xs.getD i Str.empty) t) :
    ∀ (k i : Nat) (s : Shared), n - i = k → i ≤ n → St i s → SetS w s.heap S (distinct (xs.take i)) → (∀ s', Moved (S :: wr) G s s' → SetS w s'.heap S (distinct xs) → R (.ok (.ret .none)) s') →
      codeAny (model P w) A (.builtin "set.update.loop" ⟨[.ref S, .ref I], []⟩) R s := by
  have outw : S ∉ wr := fun h => out (W.sub _ h)
  have sub : ∀ b ∈ wr, b ∈ S :: wr := fun b hb => List.mem_cons_of_mem _ hb
  intro k
  induction k with
  | zero =>
    intro i s hk hi hst hS hR
    obtain rfl : i = n := by omega
    refine codeAny_builtin PyProof.Rows.F.entry_set_update_loop ?_
    rw [Around.under_plainId PyProof.Rows.F.plain_set_update_loop _]
    show wpAny _ A.in1 (pyNext (.ref I) >>= _) _ _ s
    refine wpAny_bind (W.done s _ _ hst fun s' hm => ?_)
    rw [← hn, List.take_length] at hS
    exact wpAny_pure (hR s' (hm.mono sub) (hS.at fun o e => hm.heap S o outw e))
  | succ k ih =>
    intro i s hk hi hst hS hR
    have lt : i < n := by omega
    refine codeAny_builtin PyProof.Rows.F.entry_set_update_loop ?_
    rw [Around.under_plainId PyProof.Rows.F.plain_set_update_loop _]
    show wpAny _ A.in1 (pyNext (.ref I) >>= _) _ _ s
    refine wpAny_bind (W.item i s _ _ lt hst fun v s' hP hst' hm => ?_)
    obtain ⟨t, rfl⟩ := hval i v hP
    have hx : xs.getD i Str.empty = xs[i]'(by omega) := by rw [List.getD_eq_getElem?_getD, List.getElem?_eq_getElem (by omega)]; rfl
    show wpAny _ A.in1 (holding [Value.str (xs.getD i Str.empty) t] (setAdd S (.str (xs.getD i Str.empty) t)) >>= _) _ _ s'
    refine wpAny_bind (wpAny_holding ?_)
    unfold setAdd
    refine wpAny_holding (wpAny_bind ((PySem.strKind P w).pyHash (k := xs.getD i Str.empty) (strKind_is _ _ _ _) ?_))
    have hl := distinct_len (xs.take i)
    rw [List.length_take] at hl
    refine setS_add_hashed (s := { s' with toks := s'.toks + 1 }) (hS.at fun o e => hm.heap S o outw e) (by omega) fun h' b sb hS2 => ?_
    have hS3 : SetS w h' S (distinct (xs.take (i + 1))) := by rw [distinct_take xs (by omega), ← hx]; exact hS2
    refine wpAny_pure ⟨plainId_quiet PyProof.Rows.F.plain_set_update_loop _, ih (i + 1) _ (by omega) lt (W.frame _ s' _ _ hst' (Nat.le_succ _) fun b hb o e => ?_) hS3 fun s'' hm'' hS'' => ?_⟩
    · rw [sb.2 b (fun h : b = S => out (by rw [← h]; exact hb))]; exact e
    · refine hR s'' (Moved.trans W.gtrans ((hm.mono sub).then_heap (Nat.le_succ _) fun b o hb e => ?_) hm'') hS''
      rw [sb.2 b (fun h : b = S => hb (by rw [h]; exact List.mem_cons_self))]; exact e
end
section
variable {prog : Program} {w : World} {A : Around} {E : Value → Shared → Prop} {s : Shared}
theorem set_of_list {l : Addr} {items : Array Value} {xs : List Str} {Q : Value → Shared → Prop} (hh : A.handled = none) (hl : s.heap.IsList l items) (hi : StrsAre items.toList xs) (few : xs.length + 1 < scanBound)
    (h : ∀ (h' : Heap) (tk : Nat), SetS w h' s.heap.objs.size (distinct xs) → (∀ b o, s.heap.get? b = some o → h'.get? b = some o) → Q (.ref s.heap.objs.size) { s with heap := h', toks := tk }) : wpAny (model prog w) A (call (.type "set") [.ref l]) Q E s := by
  obtain ⟨c, tl, hmro⟩ := PySem.F.called_set.mro
  have hmade := PySem.F.called_set.made
  have hsub := PySem.F.called_set.sub
  refine wpAny_call (codeAny_of_tree ?_)
  show wpAny _ _ (callAny (.type "set") _) _ _ _
  refine wpAny_pure ⟨Code.quiet_builtin _ (by decide +kernel), codeAny_builtin PySem.F.entry_type_call ?_⟩
  rw [Around.under_plain (weight_type_call_type "set" [.ref l] []) rfl]
  have h1 := PySem.F.called_set.notType
  have h2 := PySem.F.called_set.canCreate
  have hct := PySem.F.typeCall_set_1 (.ref l)
  repeat (any_goals (first | assumption | wp_step))

  refine codeAny_mono (code_set_led1 (.ref l) (E := E) (Q₁ := fun obj s₁ => obj = .ref s.heap.objs.size ∧ s₁ = { s with heap := s.heap.push { cls := .type "set", dict := none, data := .set #[] 0 (.fresh 0 0 (!w.params.followText "set-order")) } }) ⟨rfl, rfl⟩) fun r s₁ hr => ?_
  cases r with
  | error e => exact hr
  | ok fl =>
    cases fl with
    | ret obj =>
      obtain ⟨rfl, rfl⟩ := hr
      generalize eL : (!w.params.followText "set-order") = led
      have hS : (s.heap.push { cls := .type "set", dict := none, data := .set #[] 0 (.fresh 0 0 led) }).get? s.heap.objs.size = some { cls := .type "set", dict := none, data := .set #[] 0 (.fresh 0 0 led) } := Heap.get?_push_size _ rfl
      have hT : Shared.TypeIs { s with heap := s.heap.push { cls := .type "set", dict := none, data := .set #[] 0 (.fresh 0 0 led) } } (.ref s.heap.objs.size) "set" := ⟨_, hS, rfl⟩
      have hli := PySem.F.called_set.init.lookup
      have hbi := PySem.F.called_set.init.bind (.ref s.heap.objs.size)
      repeat (any_goals (first | assumption | wp_step))

      refine codeAny_mono (codeAny_call_builtin (R := wants (fun r s₂ => r = .none ∧ ∃ h' tk, s₂ = { s with heap := h', toks := tk } ∧ SetS w h' s.heap.objs.size (distinct xs) ∧ (∀ b o, s.heap.get? b = some o → h'.get? b = some o)) E) PySem.F.called_set.init.plain PySem.F.entry_set_init (check_set_init_1 hT ?_)) fun r₂ s₂ hr₂ => ?_
      · obtain ⟨ol, hol, hcl, nl, hdl⟩ := hl
        obtain ⟨ocls, odict, odata, oslots⟩ := ol
        simp only at hcl hdl
        subst hcl; subst hdl
        have lt : l < s.heap.objs.size := Heap.lt_size hol
        have hol' : (s.heap.push { cls := .type "set", dict := none, data := .set #[] 0 (.fresh 0 0 led) }).get? l = some { cls := .type "list", dict := odict, data := .seq items nl, slots := oslots } := Heap.get?_push_of_some _ hol
        have hsls := PySem.F.sub_list_set
        have hslf := PySem.F.sub_list_frozenset
        have hne : (Value.type "list" == Value.type "dict") = false := by decide
        have hl1 : (s.heap.push { cls := .type "set", dict := none, data := .set #[] 0 (.fresh 0 0 led) }).IsList l items := ⟨_, hol', rfl, nl, rfl⟩
        unfold Builtin.«set.__init__» noKeywords Builtin.Frozenset.updateFrom
        generalize hPI : pyIter = PI
        wp_walk
        subst hPI

        refine wpAny_pyIter_list hl1 ?_
        refine wpAny_bind (wpAny_runValue ?_)
        have hh3 : A.in1.in1.in1.handled = none := by simp [hh]
        have sz : (s.heap.push { cls := .type "set", dict := none, data := .set #[] 0 (.fresh 0 0 led) }).objs.size = s.heap.objs.size + 1 := Heap.size_push _ _
        have hneI : l ≠ (s.heap.push { cls := .type "set", dict := none, data := .set #[] 0 (.fresh 0 0 led) }).objs.size := by rw [sz]; exact Nat.ne_of_lt (Nat.lt_succ_of_lt lt)
        have out : s.heap.objs.size ∉ [(s.heap.push { cls := .type "set", dict := none, data := .set #[] 0 (.fresh 0 0 led) }).objs.size, l] := by
          rw [sz]
          simp only [List.mem_cons, List.not_mem_nil, or_false, not_or]
          exact ⟨Nat.ne_of_lt (Nat.lt_succ_self _), Nat.ne_of_gt lt⟩
        have hsz : xs.length = items.size := by rw [← StrsAre.len_eq hi, Array.length_toList]
        refine fill_set ((Walks.list hh3 _ l hneI items).toS) s.heap.objs.size out xs hsz (by rw [← hsz]; exact few) (fun i v hv => strs_get hi i v (by rw [Array.getElem?_toList]; exact hv)) (items.size - 0) 0 _ (by omega) (Nat.zero_le _) ⟨⟨_, Heap.get?_push_size _ rfl, rfl, rfl⟩, (hl1.push _)⟩ ?S0 ?fin
        case S0 => exact setS_fresh w (by rw [eL]; exact Heap.get?_push_of_some _ hS)
        case fin =>
          intro s' hm hS'
          obtain ⟨h', g', d', tk', os'⟩ := s'
          have eg : g' = s.gens := hm.gens
          have ed : d' = s.drawn := hm.drawn
          have eo : os' = s.os := hm.os
          subst eg; subst ed; subst eo
          show wpAny _ _ _ _ _ _
          refine wpAny_pure ?_
          show wpAny _ _ (ret Value.none) _ _ _
          refine wpAny_pure ⟨rfl, h', tk', rfl, hS', fun b o e => ?_⟩
          have hb := Heap.lt_size e
          refine hm.heap b o ?_ (Heap.get?_push_of_some _ (Heap.get?_push_of_some _ e))
          rw [sz]
          simp only [List.mem_cons, List.not_mem_nil, or_false, not_or]
          exact ⟨Nat.ne_of_lt hb, Nat.ne_of_lt (Nat.lt_succ_of_lt hb)⟩
      · cases r₂ with
        | error e => exact hr₂
        | ok fl₂ =>
          cases fl₂ with
          | ret r =>
            obtain ⟨rfl, h', tk, rfl, hS', hk'⟩ := hr₂
            repeat (any_goals (first | assumption | wp_step))
            exact h _ _ hS' hk'
          | _ => exact hr₂.elim
    | _ => exact hr.elim
theorem set_of_tuple {l : Addr} {items : Array Value} {xs : List Str} {Q : Value → Shared → Prop} (hh : A.handled = none) (hl : s.heap.IsTuple l items) (hi : StrsAre items.toList xs) (few : xs.length + 1 < scanBound)
    (h : ∀ (h' : Heap) (tk : Nat), SetS w h' s.heap.objs.size (distinct xs) → (∀ b o, s.heap.get? b = some o → h'.get? b = some o) → Q (.ref s.heap.objs.size) { s with heap := h', toks := tk }) : wpAny (model prog w) A (call (.type "set") [.ref l]) Q E s := by
  obtain ⟨c, tl, hmro⟩ := PySem.F.called_set.mro
  have hmade := PySem.F.called_set.made
  have hsub := PySem.F.called_set.sub
  refine wpAny_call (codeAny_of_tree ?_)
  show wpAny _ _ (callAny (.type "set") _) _ _ _
  refine wpAny_pure ⟨Code.quiet_builtin _ (by decide +kernel), codeAny_builtin PySem.F.entry_type_call ?_⟩
  rw [Around.under_plain (weight_type_call_type "set" [.ref l] []) rfl]
  have h1 := PySem.F.called_set.notType
  have h2 := PySem.F.called_set.canCreate
  have hct := PySem.F.typeCall_set_1 (.ref l)
  repeat (any_goals (first | assumption | wp_step))

  refine codeAny_mono (code_set_led1 (.ref l) (E := E) (Q₁ := fun obj s₁ => obj = .ref s.heap.objs.size ∧ s₁ = { s with heap := s.heap.push { cls := .type "set", dict := none, data := .set #[] 0 (.fresh 0 0 (!w.params.followText "set-order")) } }) ⟨rfl, rfl⟩) fun r s₁ hr => ?_
  cases r with
  | error e => exact hr
  | ok fl =>
    cases fl with
    | ret obj =>
      obtain ⟨rfl, rfl⟩ := hr
      generalize eL : (!w.params.followText "set-order") = led
      have hS : (s.heap.push { cls := .type "set", dict := none, data := .set #[] 0 (.fresh 0 0 led) }).get? s.heap.objs.size = some { cls := .type "set", dict := none, data := .set #[] 0 (.fresh 0 0 led) } := Heap.get?_push_size _ rfl
      have hT : Shared.TypeIs { s with heap := s.heap.push { cls := .type "set", dict := none, data := .set #[] 0 (.fresh 0 0 led) } } (.ref s.heap.objs.size) "set" := ⟨_, hS, rfl⟩
      have hli := PySem.F.called_set.init.lookup
      have hbi := PySem.F.called_set.init.bind (.ref s.heap.objs.size)
      repeat (any_goals (first | assumption | wp_step))

      refine codeAny_mono (codeAny_call_builtin (R := wants (fun r s₂ => r = .none ∧ ∃ h' tk, s₂ = { s with heap := h', toks := tk } ∧ SetS w h' s.heap.objs.size (distinct xs) ∧ (∀ b o, s.heap.get? b = some o → h'.get? b = some o)) E) PySem.F.called_set.init.plain PySem.F.entry_set_init (check_set_init_1 hT ?_)) fun r₂ s₂ hr₂ => ?_
      · obtain ⟨ol, hol, hcl, nl, hdl⟩ := hl
        obtain ⟨ocls, odict, odata, oslots⟩ := ol
        simp only at hcl hdl
        subst hcl; subst hdl
        have lt : l < s.heap.objs.size := Heap.lt_size hol
        have hol' : (s.heap.push { cls := .type "set", dict := none, data := .set #[] 0 (.fresh 0 0 led) }).get? l = some { cls := .type "tuple", dict := odict, data := .seq items nl, slots := oslots } := Heap.get?_push_of_some _ hol
        have hsls := PySem.F.sub_tuple_set
        have hslf := PySem.F.sub_tuple_frozenset
        have hne : (Value.type "tuple" == Value.type "dict") = false := by decide
        have hl1 : (s.heap.push { cls := .type "set", dict := none, data := .set #[] 0 (.fresh 0 0 led) }).IsTuple l items := ⟨_, hol', rfl, nl, rfl⟩
        unfold Builtin.«set.__init__» noKeywords Builtin.Frozenset.updateFrom
        generalize hPI : pyIter = PI
        wp_walk
        subst hPI

        refine wpAny_pyIter_tuple hl1 ?_
        refine wpAny_bind (wpAny_runValue ?_)
        have hh3 : A.in1.in1.in1.handled = none := by simp [hh]
        have sz : (s.heap.push { cls := .type "set", dict := none, data := .set #[] 0 (.fresh 0 0 led) }).objs.size = s.heap.objs.size + 1 := Heap.size_push _ _
        have hneI : l ≠ (s.heap.push { cls := .type "set", dict := none, data := .set #[] 0 (.fresh 0 0 led) }).objs.size := by rw [sz]; exact Nat.ne_of_lt (Nat.lt_succ_of_lt lt)
        have out : s.heap.objs.size ∉ [(s.heap.push { cls := .type "set", dict := none, data := .set #[] 0 (.fresh 0 0 led) }).objs.size, l] := by
          rw [sz]
          simp only [List.mem_cons, List.not_mem_nil, or_false, not_or]
          exact ⟨Nat.ne_of_lt (Nat.lt_succ_self _), Nat.ne_of_gt lt⟩
        have hsz : xs.length = items.size := by rw [← StrsAre.len_eq hi, Array.length_toList]
        refine fill_set ((Walks.tuple hh3 _ l hneI items).toS) s.heap.objs.size out xs hsz (by rw [← hsz]; exact few) (fun i v hv => strs_get hi i v (by rw [Array.getElem?_toList]; exact hv)) (items.size - 0) 0 _ (by omega) (Nat.zero_le _) ⟨⟨_, Heap.get?_push_size _ rfl, rfl, rfl⟩, (hl1.push _)⟩ ?S0 ?fin
        case S0 => exact setS_fresh w (by rw [eL]; exact Heap.get?_push_of_some _ hS)
        case fin =>
          intro s' hm hS'
          obtain ⟨h', g', d', tk', os'⟩ := s'
          have eg : g' = s.gens := hm.gens
          have ed : d' = s.drawn := hm.drawn
          have eo : os' = s.os := hm.os
          subst eg; subst ed; subst eo
          show wpAny _ _ _ _ _ _
          refine wpAny_pure ?_
          show wpAny _ _ (ret Value.none) _ _ _
          refine wpAny_pure ⟨rfl, h', tk', rfl, hS', fun b o e => ?_⟩
          have hb := Heap.lt_size e
          refine hm.heap b o ?_ (Heap.get?_push_of_some _ (Heap.get?_push_of_some _ e))
          rw [sz]
          simp only [List.mem_cons, List.not_mem_nil, or_false, not_or]
          exact ⟨Nat.ne_of_lt hb, Nat.ne_of_lt (Nat.lt_succ_of_lt hb)⟩
      · cases r₂ with
        | error e => exact hr₂
        | ok fl₂ =>
          cases fl₂ with
          | ret r =>
            obtain ⟨rfl, h', tk, rfl, hS', hk'⟩ := hr₂
            repeat (any_goals (first | assumption | wp_step))
            exact h _ _ hS' hk'
          | _ => exact hr₂.elim
    | _ => exact hr.elim
end
end Pv

/-! set(..), len(set), sorted of anything that is walked -/
namespace Pv
open PySem PySem.Spec L2 PyProof.Rows
variable [HW]
/-- set(xs) -/
@[simp] def cSet : PC' := fun S xs => match xs with
  | [x] => match look S x with
    | .lst ys => match txts ys with
      | some ss => if ss.length + 1 < scanBound then some (.set ((distinct ss).map .str)) else none
      | none => none
    | .tup ys => match txts ys with
      | some ss => if ss.length + 1 < scanBound then some (.set ((distinct ss).map .str)) else none
      | none => none
    | _ => none
  | _ => none
section
variable {K : PySem.W.Frag} {ω : Ad} {S : Store} {H : Hp}
theorem setSO_ok {P : Program} {w w' : World} {H : Hp} {h : Heap} {a : Addr} {ks : List Str} (R : SetS w h a ks) : ObjOk P w' H h a (SetSO w a ks) :=
  ⟨R, let ⟨o, _, _, _, e, _⟩ := R; ⟨o, e⟩, fun _ _ q k => q.at k⟩
theorem strsAre_of : ∀ {xs : List Str} {us : List Value}, Vals (xs.map V.str) us → StrsAre us xs
  | [], _, .nil => .nil
  | x :: xs, _, .cons ⟨t, e⟩ r => by subst e; exact .cons x t (strsAre_of r)
end
section
variable {X : Cx}
theorem callP_set (hw : HW.w = X.w) (hc : X.calm = true) : CallP X (.type "set") cSet := by
  intro pins s σ H vs us Q I rx ⟨ω, S, ps, r, t, rv, e, k⟩
  match ps, e with
  | [x], e =>
    obtain ⟨v, rfl, r1⟩ := rv.one
    obtain ⟨u, rfl, ru⟩ := rx.one
    have fin : ∀ (ss : List Str) (h' : Heap) (tk : Nat), r = .set ((distinct ss).map .str) → SetS X.w h' s.heap.objs.size (distinct ss) → (∀ b o, s.heap.get? b = some o → h'.get? b = some o) → EP X pins σ Q (.ref s.heap.objs.size) { s with heap := h', toks := tk } := fun ss h' tk er R kp => by
      subst er
      have hn : H s.heap.objs.size = none := I.hok.fresh (Nat.le_refl _)
      rw [← hw] at R
      refine ⟨.ref s.heap.objs.size, upd H s.heap.objs.size (SetSO HW.w s.heap.objs.size (distinct ss)), I.laid (t' := tk) kp (Nat.le_refl _) (setSO_ok R), rfl, k _ _ (new_stp hn) (open_str (new_str t hn)) ⟨_, _, rfl, upd_same, t.out hn, rfl⟩⟩
    simp only [cSet] at e
    split at e
    · rename_i ys hk
      split at e
      · rename_i ss hs
        split at e
        · rename_i few
          cases e
          obtain ⟨a, ws, rfl, ha, rr⟩ := lst_of t r1 hk
          cases (show u = Value.ref a from ru)
          obtain ⟨its, rw', p, hz⟩ := I.list (SqL.of ha)
          have := txts_vals rr hs
          subst this
          exact set_of_list (I.ok.hd hc) p.isList (by simpa using strsAre_of rw') few fun h' tk R kp => fin ss h' tk rfl R kp
        · cases e
      · cases e
    · rename_i ys hk
      split at e
      · rename_i ss hs
        split at e
        · rename_i few
          cases e
          cases look_eq t r1 hk rfl
          obtain ⟨a, ws, rfl, ha, rr⟩ := tup_of r1
          cases (show u = Value.ref a from ru)
          obtain ⟨its, rw', p, hz⟩ := I.tuple ha
          have := txts_vals rr hs
          subst this
          exact set_of_tuple (I.ok.hd hc) (show s.heap.IsTuple a its.toArray from p) (by simpa using strsAre_of rw') few fun h' tk R kp => fin ss h' tk rfl R kp
        · cases e
      · cases e
    · cases e
/-- len of a set, too -/
@[simp] def cLenE : PC' := fun S xs => match xs with
  | [.set ks] => some (.int ks.length)
  | _ => cLenD S xs
theorem callP_lenE (hw : HW.w = X.w) : CallP X (.builtin "len") cLenE := by
  intro pins s σ H vs us Q I rx h
  obtain ⟨ω, S, ps, r, t, rv, e, k⟩ := h
  unfold cLenE at e
  split at e
  · rename_i ks
    cases e
    obtain ⟨v, rfl, r1⟩ := rv.one
    obtain ⟨u, rfl, ru⟩ := rx.one
    obtain ⟨a, ss, rfl, ha, f, rfl⟩ := r1
    cases (show u = Value.ref a from ru)
    obtain ⟨⟨o, es, ep, tb, ho, hex, hd, g, pm, nd, hb, hf, hr, hl⟩, _⟩ := I.hok a _ ha
    have n1 : es.size = (ss.map PV.str).length := by rw [List.length_map, ← pm.length_eq, List.length_map, Array.length_toList]
    refine call_len_set ho hex hd hf (by have : scanBound = 4096 := rfl; omega) ⟨.int (ss.map PV.str).length, H, I.tok _, ⟨_, by rw [n1]⟩, k _ _ .refl t rfl⟩
  · exact callP_lenD pins s σ H vs us Q I rx ⟨ω, S, ps, r, t, rv, e, k⟩
end
/-! ### sorted of what is walked -/
/-- what a walked thing gives, as a list -/
def itemsOf : PV → Option (List PV)
  | .lst xs => some xs
  | .tup xs => some xs
  | .dct kvs => some (kvs.map (·.1))
  | .set xs => some xs
  | _ => none
@[simp] def cSortedE : PC' := fun S xs => match xs with
  | [x] => match itemsOf (look S x) with
    | some ys => if sortOk ys = true ∧ ys.length < scanBound then some (.lst (sortP ys)) else none
    | none => none
  | _ => none
/-- texts in order -/
def leS (a b : Str) : Bool := decide (a.cps.toList ≤ b.cps.toList)
def sortS (xs : List Str) : List Str := xs.mergeSort leS
open PySem.W (dataLe dataLe_str) in
theorem dataLe_S (a b : Str) : dataLe false enc (.str a) (.str b) = leS a b := by
  have := congrFun (congrFun (dataLe_str (fun x : Str => x)) a) b
  exact this
theorem map_str_inj {xs ys : List Str} (h : xs.map PV.str = ys.map PV.str) : xs = ys := by
  induction xs generalizing ys with
  | nil => cases ys with
    | nil => rfl
    | cons y ys => cases h
  | cons x xs ih => cases ys with
    | nil => cases h
    | cons y ys => injection h with h1 h2; injection h1 with h1; rw [h1, ih h2]
theorem sortP_str (xs : List Str) : sortP (xs.map .str) = (sortS xs).map .str := by
  unfold sortP sortS
  rw [List.map_mergeSort (r := leS) (s := PySem.W.dataLe false enc) (fun a _ b _ => (dataLe_S a b).symm)]
theorem leS_trans (a b c : Str) (h : leS a b = true) (g : leS b c = true) : leS a c = true := by
  unfold leS at *
  exact decide_eq_true (List.le_trans (of_decide_eq_true h) (of_decide_eq_true g))
theorem leS_total (a b : Str) : (leS a b || leS b a) = true := by
  unfold leS
  rcases List.le_total a.cps.toList b.cps.toList with h | h <;> simp [h]
theorem leS_antisymm {a b : Str} (h : leS a b = true) (g : leS b a = true) : a = b := by
  unfold leS at *
  have := List.le_antisymm (of_decide_eq_true h) (of_decide_eq_true g)
  cases a; cases b
  simpa using this
theorem sortS_perm {xs ys : List Str} (h : xs.Perm ys) : sortS xs = sortS ys :=
  List.Perm.eq_of_pairwise (le := fun a b => leS a b = true) (fun a b _ _ => leS_antisymm) (List.pairwise_mergeSort leS_trans leS_total xs) (List.pairwise_mergeSort leS_trans leS_total ys) (((List.mergeSort_perm xs leS).trans h).trans (List.mergeSort_perm ys leS).symm)
section
variable {X : Cx} {pins : List (Addr × Obj)} {σ : L2.St} {H : Hp} {s : Shared} {ω : Ad} {S : Store}
open PySem.W (EachIs AllAlike Sortable) in
theorem sorted_set_shell (hu : X.A.units + 64 < cLine) (hc : X.calm = true) {a : Addr} {ys : List PV} {Good : List PV → Prop} {Q : VK} (I : L2.Inv X pins σ H s) (t : StR X.K ω S H) (good : ∀ ys', Good ys' → sortOk ys' = true ∧ ys'.length ≤ sizeLine ∧ sortP ys' = sortP ys)
    (hcol : ∀ Qc : List Value → Shared → Prop, (∀ us (s1 : Shared) (ys' : List PV), (∀ b o, s.heap.get? b = some o → s1.heap.get? b = some o) → s1.gens = s.gens → s1.os = s.os → Good ys' → EachIs (fun u x => ∃ v, L2.RelV v u ∧ Rp X.K H ω x v) us ys' → Qc us s1) →
      wpAny (model X.prog X.w) X.A.in1 (collect (.ref a)) Qc X.xe s)
    (k : ∀ q o H', Stp ω H ω H' → H q = none → H' q = some o → StR X.K ⟨ω.ν, q :: ω.B⟩ S H' → CoR X.K H' ⟨ω.ν, q :: ω.B⟩ q (.lst (sortP ys)) o → Q (.ref q) H') :
    wpAny (model X.prog X.w) X.A (call (.builtin "sorted") [.ref a]) (EP X pins σ Q) X.xe s := by
  refine Calls.call_function_entry kind_sorted plain_sorted entry_sorted (args_sorted1 _) ?_
  unfold Builtin.«sorted»
  refine wpAny_bind (m := checkCount "sorted" 1 1 _) (wpAny_pure ?_)
  refine wpAny_bind (hcol _ fun us s1 ys' k1 g1 o1' gd ea => ?_)
  obtain ⟨hok, hlen, same⟩ := good ys' gd
  rw [← same] at k
  clear same
  unfold sortOk at hok
  simp only [Bool.and_eq_true, List.all_eq_true, decide_eq_true_eq, Bool.or_eq_true] at hok
  obtain ⟨⟨o1, o2⟩, o3⟩ := hok
  have al : AllAlike (ys'.map enc) := by
    intro d hd d' hd'
    obtain ⟨b, hb, rfl⟩ := List.mem_map.mp hd
    obtain ⟨b', hb', rfl⟩ := List.mem_map.mp hd'
    exact o2 b hb b' hb'
  have so : Sortable (ys'.map enc) := by
    rcases o3 with o3 | o3
    · refine .inl fun d hd => ?_
      obtain ⟨b, hb, rfl⟩ := List.mem_map.mp hd
      have := o3 b hb
      unfold isTup1 at this
      split at this
      · rename_i x r q; exact ⟨x, r, q⟩
      · cases this
    · refine .inr fun d hd => ?_
      obtain ⟨b, hb, rfl⟩ := List.mem_map.mp hd
      have := o3 b hb
      refine ⟨fun z => ?_, fun xs z => ?_⟩ <;> (rw [z] at this; cases this)
  have hul : us.length = ys'.length := ea.length
  refine wpAny_bind (wpAny_newList ?_ (by rw [hul]; exact hlen))
  have hoL : (s1.heap.push (seqObj "list" us.toArray 0)).get? s1.heap.objs.size = some (seqObj "list" us.toArray 0) := Heap.get?_push_size _ rfl
  have er := each_reads I (fun x hx => (o1 x hx).1) ea
  have er' : EachIs (fun v b => ∃ as, Reads (PySem.W.sortingHeap (s1.heap.push (seqObj "list" us.toArray 0)) s1.heap.objs.size us) v (enc b) as) us ys' := er.mono fun _ _ ⟨as, r⟩ => ⟨as, PyProof.Rows.Reads.keeps (fun b o e => by
    have e1 := k1 b o e
    have lt := Heap.lt_size e1
    exact PySem.W.sortingHeap_old (Nat.ne_of_lt lt) (Heap.get?_push_of_some _ e1)) r⟩
  refine wpAny_bind (wpAny_holding (wpAny_call_entry slot_list_sort ⟨_, hoL, rfl⟩ entry_list_sort (PySem.W.list_sort_vals (κ := PySem.W.dataKind (PySem.W.sortingHeap (s1.heap.push (seqObj "list" us.toArray 0)) s1.heap.objs.size us) (ys'.map enc)) hoL
    (PySem.W.SortsAt.data (s := { s1 with heap := PySem.W.sortingHeap (s1.heap.push (seqObj "list" us.toArray 0)) s1.heap.objs.size us }) (PySem.W.each_map (R := fun v d => ∃ as, Reads (PySem.W.sortingHeap (s1.heap.push (seqObj "list" us.toArray 0)) s1.heap.objs.size us) v d as) enc er') al so (fun d hd => ?_)) (by rw [hul]; exact hlen) ⟨_, rfl, ?_⟩) (args_list_sort _)))
  · obtain ⟨b, hb, rfl⟩ := List.mem_map.mp hd
    have := (o1 b hb).2
    show X.A.units + 1 + 1 + (enc b).depth < cLine
    omega
  have hr := PySem.W.sortVals_data (R := fun u x => ∃ v, L2.RelV v u ∧ Rp X.K H ω x v) false ea er' al
  generalize eo : PySem.W.sortVals (PySem.W.dataKind (PySem.W.sortingHeap (s1.heap.push (seqObj "list" us.toArray 0)) s1.heap.objs.size us) (ys'.map enc)) false us us = out at hr
  obtain ⟨ws, q1, q2⟩ := of_each hr
  obtain ⟨c, hcg⟩ := sortedHeap_at (vs := us) (out := out.toArray) hoL
  have h0 : s.heap.get? s1.heap.objs.size = none := by
    cases q : s.heap.get? s1.heap.objs.size with
    | none => rfl
    | some o => exact absurd (Heap.lt_size (k1 _ _ q)) (Nat.lt_irrefl _)
  have hn : H s1.heap.objs.size = none := I.hok.gone h0
  have hl : ws.length ≤ sizeLine := by
    rw [← q1.length]
    show (ys'.mergeSort _).length ≤ sizeLine
    rw [List.length_mergeSort]; exact hlen
  have kp : ∀ b o, s.heap.get? b = some o → (sortedHeap (s1.heap.push (seqObj "list" us.toArray 0)) s1.heap.objs.size us out.toArray).get? b = some o := fun b o e => by
    have e1 := k1 b o e
    have lt := Heap.lt_size e1
    rw [sortedHeap_old (Nat.ne_of_lt lt) (by rw [size_push']; exact Nat.lt_succ_of_lt lt)]
    exact Heap.get?_push_of_some _ e1
  have J : L2.Inv X pins σ (upd H s1.heap.objs.size (.lst ws)) { s with heap := sortedHeap (s1.heap.push (seqObj "list" us.toArray 0)) s1.heap.objs.size us out.toArray, gens := s1.gens, drawn := s1.drawn, toks := s1.toks } :=
    I.call (ch := []) (Un.laidN kp h0 hn) (I.hok.laidN kp hn ⟨hl, out, c, q2, by simpa using hcg⟩) (by rw [g1]; exact I.bare) (fun _ z => nomatch z)
  refine wpAny_pure ⟨_, rfl, ⟨.ref s1.heap.objs.size, _, ?_, rfl, new_lst t hn q1 k⟩⟩
  have e2 : ({ s1 with heap := sortedHeap (s1.heap.push (seqObj "list" us.toArray 0)) s1.heap.objs.size us out.toArray } : Shared) = { s with heap := sortedHeap (s1.heap.push (seqObj "list" us.toArray 0)) s1.heap.objs.size us out.toArray, gens := s1.gens, drawn := s1.drawn, toks := s1.toks } := by
    cases s1
    cases s
    cases o1'
    rfl
  rw [← e2] at J
  exact J
open PySem.W (EachIs) in
theorem sorted_shell (hu : X.A.units + 64 < cLine) (hc : X.calm = true) {a : Addr} {ys : List PV} {Q : VK} (I : L2.Inv X pins σ H s) (t : StR X.K ω S H) (hok : sortOk ys = true) (hlen : ys.length ≤ sizeLine)
    (hcol : ∀ Qc : List Value → Shared → Prop, (∀ us (s1 : Shared), (∀ b o, s.heap.get? b = some o → s1.heap.get? b = some o) → s1.gens = s.gens → s1.os = s.os → EachIs (fun u x => ∃ v, L2.RelV v u ∧ Rp X.K H ω x v) us ys → Qc us s1) →
      wpAny (model X.prog X.w) X.A.in1 (collect (.ref a)) Qc X.xe s)
    (k : ∀ q o H', Stp ω H ω H' → H q = none → H' q = some o → StR X.K ⟨ω.ν, q :: ω.B⟩ S H' → CoR X.K H' ⟨ω.ν, q :: ω.B⟩ q (.lst (sortP ys)) o → Q (.ref q) H') :
    wpAny (model X.prog X.w) X.A (call (.builtin "sorted") [.ref a]) (EP X pins σ Q) X.xe s :=
  sorted_set_shell hu hc I t (Good := fun ys' => ys' = ys) (fun ys' e => by subst e; exact ⟨hok, hlen, rfl⟩) (fun Qc hq => hcol Qc fun us s1 k1 g1 o1 ea => hq us s1 ys k1 g1 o1 rfl ea) k
end
section
variable {X : Cx}
open PySem.W (EachIs) in
theorem callF_sortedE (hw : HW.w = X.w) (hu : X.A.units + 64 < cLine) (hc : X.calm = true) : CallF X (.builtin "sorted") cSortedE := by
  intro pins s σ H vs us Q I rx ⟨ω, S, ps, r, t, rv, e, k⟩
  match ps, e with
  | [x], e =>
    obtain ⟨v, rfl, r1⟩ := rv.one
    obtain ⟨u, rfl, ru⟩ := rx.one
    simp only [cSortedE] at e
    split at e
    · rename_i ys hk
      split at e
      · rename_i ok
        obtain ⟨ok, few⟩ := ok
        cases e
        have fits : ys.length ≤ sizeLine := fits_of_scanBound few
        cases q : look S x with
        | lst zs =>
          rw [q] at hk; cases hk
          obtain ⟨a, ws, rfl, ha, rr⟩ := lst_of t r1 q
          cases (show u = Value.ref a from ru)
          obtain ⟨its, rw', p, hz⟩ := I.list (SqL.of ha)
          obtain ⟨o, ho, c1, n, d1⟩ := p.isList
          refine sorted_shell hu hc I t ok fits (fun Qc hq => wpAny_collect_seq (A := X.A.in1) a (.inl rfl) ho c1 d1 (fun h' kp => hq _ _ kp rfl rfl (by simpa using each_of rr rw')) (by simpa using (by rw [← rw'.length, ← rr.length]; exact fits))) k
        | tup zs =>
          rw [q] at hk; cases hk
          cases look_eq t r1 q rfl
          obtain ⟨a, ws, rfl, ha, rr⟩ := tup_of r1
          cases (show u = Value.ref a from ru)
          obtain ⟨its, rw', p, hz⟩ := I.tuple ha
          obtain ⟨o, ho, c1, n, d1⟩ := p
          refine sorted_shell hu hc I t ok fits (fun Qc hq => wpAny_collect_seq (A := X.A.in1) a (.inr rfl) ho c1 d1 (fun h' kp => hq _ _ kp rfl rfl (by simpa using each_of rr rw')) (by simpa using (by rw [← rw'.length, ← rr.length]; exact fits))) k
        | dct kvs =>
          rw [q] at hk; cases hk
          obtain ⟨a, es, ep, rfl, isd, low, raw, len, ents⟩ := ents_of I t r1 q
          cases (show u = Value.ref a from ru)
          refine sorted_shell hu hc I t ok fits (fun Qc hq => PySem.W.kdu_collect (A := X.A.in1) (KdlSrc.rawDict low) (by have := I.ok.hd hc; simpa using this) raw (by rw [← ents.1]; exact len) (fun h' tk acc kp it => hq _ _ kp rfl rfl ?_)) k
          obtain ⟨vs, q1, q2⟩ := vals_of (n := 0) (K := X.K) (H := H) (ω := ω) (kvs := kvs) (es := es) (·.1) (·.key) ents.1 (fun j p e e1 e2 => let ⟨kv, v, g1, _, g3, _⟩ := ents.2 j p e e1 e2; ⟨kv, g1, g3⟩) it
          exact each_of q2 q1
        | set zs =>
          rw [q] at hk; cases hk
          cases look_eq t r1 q rfl
          obtain ⟨a, ss, rfl, ha, f, rfl⟩ := r1
          cases (show u = Value.ref a from ru)
          obtain ⟨⟨o, es, ep, tb, ho, hex, hd, g, pm, nd, hb, hf, hr, hl⟩, _⟩ := I.hok a _ ha
          rw [hw] at hl
          have texts1 : ∀ {l : List Value} {zs : List Str}, l.map (fun v => match v with | .str x _ => x | _ => ⟨#[]⟩) = zs → (∀ v ∈ l, ∃ x tk, v = Value.str x tk) → EachIs (fun u x => ∃ v, L2.RelV v u ∧ Rp X.K H ω x v) l (zs.map PV.str) := by
            intro l
            induction l with
            | nil => intro zs e _; subst e; exact .nil
            | cons v l ih =>
              intro zs e h
              subst e
              obtain ⟨x, tk, rfl⟩ := h v List.mem_cons_self
              exact .cons ⟨.str x, ⟨tk, rfl⟩, rfl⟩ (ih rfl fun w hw => h w (List.mem_cons_of_mem _ hw))
          -- in some order, which sorting undoes
          have many : ∀ ss' : List Str, ss'.Perm ss → sortOk (ss'.map .str) = true ∧ (ss'.map PV.str).length ≤ sizeLine ∧ sortP (ss'.map .str) = sortP (ss.map .str) := fun ss' p => by
            refine ⟨?_, by rw [List.length_map, p.length_eq, ← List.length_map (f := PV.str)]; exact fits, by rw [sortP_str, sortP_str, sortS_perm p]⟩
            unfold sortOk at ok ⊢
            simp only [Bool.and_eq_true, List.all_eq_true, Bool.or_eq_true] at ok ⊢
            have mem : ∀ x, x ∈ ss'.map PV.str → x ∈ ss.map PV.str := fun x hx => (p.map PV.str).mem_iff.mp hx
            exact ⟨⟨fun x hx => ok.1.1 x (mem x hx), fun x hx y hy => ok.1.2 x (mem x hx) y (mem y hy)⟩, ok.2.imp (fun h x hx => h x (mem x hx)) fun h x hx => h x (mem x hx)⟩
          refine sorted_set_shell hu hc I t (ys := ss.map .str) (Good := fun ys' => sortOk ys' = true ∧ ys'.length ≤ sizeLine ∧ sortP ys' = sortP (ss.map .str)) (fun _ z => z) (fun Qc hq => collect_set (A := X.A.in1) (by have := I.ok.hd hc; simpa using this) ⟨o, ho, hex.1, hd⟩ hf hb hr hl fun s1 out kp hz g1 o1 pm2 => ?_) k
          have p3 : (out.map (fun v => match v with | .str x _ => x | _ => (⟨#[]⟩ : Str))).Perm ss := by
            refine ((pm2.map _).trans ?_).trans pm
            rw [List.map_map]
            exact List.Perm.of_eq rfl
          refine hq out s1 _ kp g1 o1 (many _ p3) (texts1 rfl fun v hv => ?_)
          obtain ⟨e, he, rfl⟩ := List.mem_map.mp (pm2.mem_iff.mp hv)
          obtain ⟨x, tk, h1, _⟩ := g e he
          exact ⟨x, tk, h1⟩
        | _ => rw [q] at hk; cases hk
      · cases e
    · cases e
end
end Pv

/-! methods, properties and defs with defaults, from their bodies; isinstance of own classes; is True -/
namespace Pv
open PySem PySem.Spec L2 PyProof.Rows
variable [HW]
section
variable {P : Program} {w : World} {K : PySem.W.Frag} {mg : Str → Option Value} {base : Heap}
theorem fn_mkM {C m x qual : Str} {st : Stmt} {c f : Addr} {fd : FuncData} {N ps : List Str} {k : Nat} {d : SDen} (G : L2.Fun K x qual st f fd) (S : FnScope N ps (defScope st)) (hc : clA K C = some c) (hm : Meth K c m f) (hb : Binds K fd ps [])
    (body : ∀ (cdv : Value) (A : Around) (outer : List Env) (s : Shared) (H : Hp) (E : XK), Room k (A.deeper (PyProof.Rows.envOfC qual (defScope st) s.heap.objs.size f cdv)) →
      Takes (cxOf (L2.CX P w) P w K mg base N qual (defScope st) f cdv A outer s H E) (fun c d _ H' => E c d H') →
      SsX (cxOf (L2.CX P w) P w K mg base N qual (defScope st) f cdv A outer s H E) (fun c d _ H' => E c d H') (defBody st) d) : FnM P w K mg base (k + 1) C m ps.length [] (callD N.length ps.length d) :=
  ⟨⟨c, f, fd, ps, [], [], fn_ok G S body, hc, hm, hb, .nil, fun _ _ => rfl, callD_len⟩⟩
theorem fn_mkP {C m x qual : Str} {st : Stmt} {c p f : Addr} {fd : FuncData} {N : List Str} {k : Nat} {d : SDen} (G : L2.Fun K x qual st f fd) (S : FnScope N ["self"] (defScope st)) (hc : clA K C = some c) (hp : PropOf K c m p f) (hb : Binds K fd ["self"] [])
    (body : ∀ (cdv : Value) (A : Around) (outer : List Env) (s : Shared) (H : Hp) (E : XK), Room k (A.deeper (PyProof.Rows.envOfC qual (defScope st) s.heap.objs.size f cdv)) →
      Takes (cxOf (L2.CX P w) P w K mg base N qual (defScope st) f cdv A outer s H E) (fun c d _ H' => E c d H') →
      SsX (cxOf (L2.CX P w) P w K mg base N qual (defScope st) f cdv A outer s H E) (fun c d _ H' => E c d H') (defBody st) d) : FnP P w K mg base (k + 1) C m (callD N.length 1 d) :=
  ⟨⟨f, fd, ["self"], fn_ok G S body, ⟨c, p, hc, hp⟩, hb⟩⟩
theorem fn_okD {x qual : Str} {st : Stmt} {f : Addr} {fd : FuncData} {N ps : List Str} {k : Nat} {d : SDen} {dvs : List V} (G : L2.FunD K x qual (defArgs st) (defBody st) (defScope st) dvs [] f fd) (S : FnScope N ps (defScope st))
    (body : ∀ (cdv : Value) (A : Around) (outer : List Env) (s : Shared) (H : Hp) (E : XK), Room k (A.deeper (PyProof.Rows.envOfC qual (defScope st) s.heap.objs.size f cdv)) →
      Takes (cxOf (L2.CX P w) P w K mg base N qual (defScope st) f cdv A outer s H E) (fun c d _ H' => E c d H') →
      SsX (cxOf (L2.CX P w) P w K mg base N qual (defScope st) f cdv A outer s H E) (fun c d _ H' => E c d H') (defBody st) d) : FnOk P w K mg base (L2.CX P w) (k + 1) f fd ps (spF K ps.length (callD N.length ps.length d)) := by
  refine G.ok S (fun vs H Q E h => h.1) fun cdv A outer s H vs Q E hr h => ?_
  obtain ⟨hl, ω, St, qs, t, r, o⟩ := h
  refine ⟨_, body cdv A outer s H E hr (takes_of rfl rfl rfl rfl), ω, St, _, start_env N t r ps.length (by rw [r.length]; exact hl), ?_⟩
  unfold callD at o
  rw [if_pos (by rw [r.length]; exact hl)] at o
  revert o
  show OutP K E ω H (match d (qs.map some ++ List.replicate (N.length - ps.length) none) St with
    | .nx _ S' => .ok .non S'
    | .rt v S' => .ok v S'
    | .exc x _ S' => .exc x S'
    | _ => .stuck) _ → _
  cases d (qs.map some ++ List.replicate (N.length - ps.length) none) St with
  | nx ρ S' => exact fun o σ H' ω' s f => o H' ω' s f.1 .non rfl
  | rt v S' => exact fun o u H' ω' s t r => o H' ω' s t u r
  | exc x ρ S' => exact fun o cv σ d H' ω' c s f e => o cv d H' ω' c s f.1 e
  | bk ρ S' => exact fun o => o.elim
  | ct ρ S' => exact fun o => o.elim
  | stuck => exact fun o => o.elim
/-- a method with defaults, called so that those behind the first j fill up -/
theorem fn_mkMD {C m x qual : Str} {st : Stmt} {c f : Addr} {fd : FuncData} {N ps : List Str} {k : Nat} {d : SDen} {dvs : List V} {ds : List PV} (n j : Nat) (G : L2.FunD K x qual (defArgs st) (defBody st) (defScope st) dvs [] f fd) (S : FnScope N ps (defScope st)) (hc : clA K C = some c) (hm : Meth K c m f)
    (hd : dvs ≠ []) (hn : n + (dvs.length - j) = ps.length) (rd : ∀ H ω, RpL K H ω ds (dvs.drop j))
    (hb : ∀ (T : Addr) (kV doc pm : Value) (an : Option Addr) (cdv ct : Value) (us its : List Value), us.length = n → its.length = dvs.length →
      ∃ k, bindArgs (PySem.W.fnOf x qual (defArgs st) (defBody st) (defScope st) (.ref T) kV doc pm an cdv ct) ⟨us, []⟩ = seqItems? (.ref T) >>= k ∧ k (some its.toArray) = pure (ps.zip (us ++ its.drop j)))
    (body : ∀ (cdv : Value) (A : Around) (outer : List Env) (s : Shared) (H : Hp) (E : XK), Room k (A.deeper (PyProof.Rows.envOfC qual (defScope st) s.heap.objs.size f cdv)) →
      Takes (cxOf (L2.CX P w) P w K mg base N qual (defScope st) f cdv A outer s H E) (fun c d _ H' => E c d H') →
      SsX (cxOf (L2.CX P w) P w K mg base N qual (defScope st) f cdv A outer s H E) (fun c d _ H' => E c d H') (defBody st) d) : FnM P w K mg base (k + 1) C m ps.length ds (callD N.length ps.length d) := by
  obtain ⟨dus, q1, q2⟩ := G.binds1 n j hd hn hb
  exact ⟨⟨c, f, fd, ps, dvs.drop j, dus, fn_okD G S body, hc, hm, q2, q1, rd, callD_len⟩⟩
end
/-! ### is True, is False -/
/-- x is y, y None or a truth value -/
def isB (b : Bool) : PV → Option Bool
  | .bl c => some (c == b)
  | .int _ => some false
  | .non => some false
  | .str _ => some false
  | _ => none
@[simp] def pIsE : P2 := fun S x y => match y with
  | .bl b => (isB b x).map .bl
  | _ => pIs S x y
@[simp] def pIsNotE : P2 := fun S x y => match y with
  | .bl b => (isB b x).map fun c => .bl (!c)
  | _ => pIsNot S x y
section
variable {X : Cx}
theorem same_B {M : Model} {A : Around} {E : Value → Shared → Prop} {s : Shared} {K : PySem.W.Frag} {H : Hp} {ω : Ad} {x : PV} {v : V} {u : Value} {b c : Bool} {Q : Bool → Shared → Prop} (r : Rp K H ω x v) (q : L2.RelV v u) (e : isB b x = some c) (h : Q c s) : wpAny M A (isSame u (.bool b)) Q E s := by
  cases x <;> first | (cases e; done) | skip
  · cases e
    cases (show v = _ from r)
    cases (show u = _ from q)
    exact wpAny_pure h
  · cases e
    cases (show v = _ from r)
    cases (show u = _ from q)
    refine wpAny_pure ?_
    rename_i b1
    cases b1 <;> cases b <;> exact h
  · cases e
    cases (show v = _ from r)
    obtain ⟨t, rfl⟩ := q
    exact wpAny_pure h
  · cases e
    cases (show v = _ from r)
    obtain ⟨t, rfl⟩ := q
    exact wpAny_pure h
theorem opP_isE : OpP X (compareOp .Is) pIsE := by
  intro pins s σ H x y v u Q I rx ry ⟨ω, S, px, py, r, t, r1, r2, e, k⟩
  unfold pIsE at e
  split at e
  · rename_i b
    obtain ⟨c, hc, rfl⟩ := Option.map_eq_some_iff.mp e
    cases (show y = _ from r2)
    cases (show u = _ from ry)
    show wpAny _ _ (do return Value.bool (← isSame v (Value.bool b))) _ _ _
    exact wpAny_bind (same_B r1 rx hc (wpAny_pure ⟨.bl c, H, I, rfl, k _ _ .refl t rfl⟩))
  · exact opP_is pins s σ H x y v u Q I rx ry ⟨ω, S, px, py, r, t, r1, r2, e, k⟩
theorem opP_isNotE : OpP X (compareOp .IsNot) pIsNotE := by
  intro pins s σ H x y v u Q I rx ry ⟨ω, S, px, py, r, t, r1, r2, e, k⟩
  unfold pIsNotE at e
  split at e
  · rename_i b
    obtain ⟨c, hc, rfl⟩ := Option.map_eq_some_iff.mp e
    cases (show y = _ from r2)
    cases (show u = _ from ry)
    show wpAny _ _ (do return Value.bool (!(← isSame v (Value.bool b)))) _ _ _
    exact wpAny_bind (same_B r1 rx hc (wpAny_pure ⟨.bl (!c), H, I, rfl, k _ _ .refl t rfl⟩))
  · exact opP_isNot pins s σ H x y v u Q I rx ry ⟨ω, S, px, py, r, t, r1, r2, e, k⟩
end
end Pv

/-! a law's end, world by world; except by a class's name -/
namespace Pv
open PySem PySem.Spec L2 PyProof.Rows
theorem walk_lawW {l : PySem.W.OpenLaw} {q : Program} {loose : List Str} {XP : (Str → Option Value) → Heap → Prop} {YP : World → Heap → Prop} {d : DefRec} {K : Params → PySem.W.Frag} {k : Nat} {F : FDen} (hn : l.most = some 63) (hdf : d.params.defaults = []) (hr : Room k callerA)
    (hY : ∀ (w : World) (h : Heap), YP w h → (K w.params).In h) (hF : ∀ (w : World) (ns : List Int), ns.length ≤ 63 → ∃ S, F [.scr ns] [] = .ok (.bl true) S)
    (G : ∀ (w : World) (mg : Str → Option Value) (fa : Addr) (h : Heap), (K w.params).In h → h.Ns mainGlobals mg → mg d.name = some (.ref fa) →
      ∃ fd : FuncData, (∀ (s : Shared) (u : Value), BindsTo s fd ⟨[u], []⟩ [("script", u)]) ∧ ∀ base : Heap, (K w.params).In base → base.Ns mainGlobals mg → FnOk l.prog w (K w.params) mg base (L2.CX l.prog w) k fa fd ["script"] (@spF ⟨w⟩ (K w.params) 1 F)) :
    PySem.W.WalkO q loose XP YP l.row.toRowW d [] (fun f vs => PySem.call f vs) :=
  L2.walk_of (n := 63) (k := k) (x := "script") (CX := fun w => L2.CX l.prog w) (sp := fun w => @spF ⟨w⟩ (K w.params) 1 F) hn (by decide) hdf hr hY G
    (fun w H a ns hl ho hS => by
        letI : HW := ⟨w⟩
        refine ⟨rfl, ⟨[], []⟩, [], [.scr ns], ⟨rfl, List.nodup_nil, (fun _ z => nomatch z), (fun _ z => nomatch z), (fun n c a e => by simp at e)⟩,
          ⟨_, _, rfl, ⟨a, rfl, hS.imp (fun z => ⟨z, (fun z => nomatch z), (fun z => nomatch z)⟩) _root_.id⟩, rfl⟩, ?_⟩
        obtain ⟨S, e⟩ := hF w ns hl
        rw [e]
        exact fun H' ω' s t v r => r) fun w H s e s' ⟨_, _, _, _, _, _, _, _, _, _, _, _, z⟩ => z
variable [HW]
/-- a class of the text in a clause, and which exceptions it takes -/
def HandN (K : PySem.W.Frag) (mg : Str → Option Value) (x : Str) (sub : List (XCls × Bool)) : Prop := ∃ C, mg x = some (.ref C) ∧ SubX K (.ref C) sub
section
variable {X : Cx} {W : WX} {x : Str} {body suite : List Stmt} {b₀ : Stmt} {np pos pos' : Pos} {d ds : SDen} {sub : List (XCls × Bool)}
theorem sx_tryN (hs : X.stack = X.env :: X.outer) (hf : X.env.frame = some X.env.locals) (hc : HandN X.K X.mg x sub) (hg : Gl X x) (tk : Takes X W)
    (hb : ∀ (W' : WX) (pn : List (Addr × Obj)) (xe : Value → Shared → Prop), Takes (X.tr pn xe) W' → PassesOwn (model X.prog X.w) X.A X.env xe → SsX (X.tr pn xe) W' body d)
    (hsu : ∀ (a : Addr) (oe : Obj) (pn : List (Addr × Obj)), SsX (X.suite a ((a, oe) :: pn)) W0 (b₀ :: suite) ds) (hd : (x == ("__debug__" : Str)) = false := by decide) :
    SX X W (.Try body [.ExceptHandler (some (.Name x np)) none (b₀ :: suite) pos'] [] [] pos) (sTry d sub ds) := by
  obtain ⟨C, h1, h2⟩ := hc
  exact sx_try hs hf ⟨hg, hd, .inl h1⟩ h2 tk hb hsu
end
end Pv

/-! dicts with keys of all kinds: found, put, read -/
namespace Pv
open PySem PySem.Spec L2 PyProof.Rows
variable [HW]
section
variable {P : Program} {w : World} {A : Around} {E : Value → Shared → Prop} {s : Shared}
/-- v is the key m -/
def MIs (P : Program) (w : World) (h : Heap) : MKey → Value → Prop
  | .inl k, v => (mixKind P w).is k v = true
  | .inr ks, v => ∃ b, v = .ref b ∧ (tupleKind (mixKind P w)).is h ks b
theorem tup_is {h : Heap} {ks : List Key} {b : Addr} (x : (tupleKind (mixKind P w)).is h ks b) : ∃ its, h.IsTuple b its := by
  obtain ⟨o, its, n, h1, h2, h3, _⟩ := x
  exact ⟨its, o, h1, h2, n, h3⟩
theorem mis_eq {m m' : MKey} {u v : Value} {Q : Bool → Shared → Prop} (hu : A.units + 1 < cLine) (x : MIs P w s.heap m u) (y : MIs P w s.heap m' v) (h : Q (decide (m = m')) s) : wpAny (model P w) A (eqBool u v) Q E s := by
  have hu1 : A.units < cLine := by omega
  cases m with
  | inl k =>
    cases m' with
    | inl k' =>
      refine (mixKind P w).eqBool x y ?_
      have e : decide (k = k') = decide ((Sum.inl k : MKey) = .inl k') := by simp
      rw [e]; exact h
    | inr k' =>
      obtain ⟨b, rfl, z⟩ := y
      obtain ⟨its, z⟩ := tup_is z
      have e : decide ((Sum.inl k : MKey) = .inr k') = false := by simp
      rw [e] at h
      rcases keyIs_shape x with ⟨i, t, rfl, rfl⟩ | ⟨q, t, rfl, rfl⟩
      · exact SeqAt.EqAt.int_tuple i t z hu1 _ _ _ _ h
      · exact SeqAt.EqAt.str_tuple q t z hu1 _ _ _ _ h
  | inr k =>
    obtain ⟨b, rfl, z⟩ := x
    cases m' with
    | inl k' =>
      obtain ⟨its, z⟩ := tup_is z
      have e : decide ((Sum.inr k : MKey) = .inl k') = false := by simp
      rw [e] at h
      rcases keyIs_shape y with ⟨i, t, rfl, rfl⟩ | ⟨q, t, rfl, rfl⟩
      · exact SeqAt.EqAt.tuple_int i t z hu1 _ _ _ _ h
      · exact SeqAt.EqAt.tuple_str q t z hu1 _ _ _ _ h
    | inr k' =>
      obtain ⟨b', rfl, z'⟩ := y
      refine (tupleKind (mixKind P w)).eqBool hu1 z z' ?_
      have e : decide (k = k') = decide ((Sum.inr k : MKey) = .inr k') := by simp
      rw [e]; exact h
theorem mis_quiet {m : MKey} {v : Value} {Q : Bool → Shared → Prop} (x : MIs P w s.heap m v) (h : Q true s) : wpAny (model P w) A (eqIsQuiet 8 v) Q E s := by
  cases m with
  | inl k =>
    rcases keyIs_shape x with ⟨i, t, rfl, rfl⟩ | ⟨q, t, rfl, rfl⟩
    · exact wpAny_pure h
    · exact wpAny_pure h
  | inr k =>
    obtain ⟨b, rfl, z⟩ := x
    exact (tupleKind (mixKind P w)).quiet z h
theorem mis_hash {m : MKey} {v : Value} {Q : Int → Shared → Prop} (hu : A.units < cLine) (x : MIs P w s.heap m v) (h : ∀ tk, Q (mHash w m) { s with toks := tk }) : wpAny (model P w) A (pyHash v) Q E s := by
  cases m with
  | inl k => exact (mixKind P w).pyHash x (h _)
  | inr k =>
    obtain ⟨b, rfl, z⟩ := x
    exact (tupleKind (mixKind P w)).pyHash hu z (h _)
theorem mis_inj {h : Heap} {m m' : MKey} {v : Value} (x : MIs P w h m v) (y : MIs P w h m' v) : m = m' := by
  cases m with
  | inl k =>
    cases m' with
    | inl k' => rw [(mixKind P w).inj v k k' x y]
    | inr k' =>
      obtain ⟨b, rfl, _⟩ := y
      exact absurd (show keyIs k (.ref b) = true from x) (by cases k <;> simp [keyIs, Value.isInt, Value.isStrOf])
  | inr k =>
    obtain ⟨b, rfl, z⟩ := x
    cases m' with
    | inl k' => exact absurd (show keyIs k' (.ref b) = true from y) (by cases k' <;> simp [keyIs, Value.isInt, Value.isStrOf])
    | inr k' =>
      obtain ⟨b', e, z'⟩ := y
      cases e
      rw [(tupleKind (mixKind P w)).inj z z']
theorem tell_quiet {m : MKey} {key : Value} {stored : List Value} {Q : Bool → Shared → Prop} (hk : MIs P w s.heap m key) (hst : ∀ v ∈ stored, ∃ m', MIs P w s.heap m' v) (h : Q false s) :
    wpAny (model P w) A (tableMayTell key stored) Q E s := by
  unfold tableMayTell
  split
  · exact wpAny_pure h
  · refine wpAny_bind (mis_quiet hk ?_)
    simp only [Bool.not_true, Bool.false_eq_true, if_false]
    refine wpAny_bind ?_
    refine wpAny_forIn_list _ (fun rest r s' => s' = s ∧ r = (none, ()) ∧ ∀ v ∈ rest, ∃ m', MIs P w s.heap m' v) _ ?_ ?_ _ _ ⟨rfl, rfl, hst⟩
    · rintro x rest r s' ⟨rfl, rfl, hr⟩
      obtain ⟨m', hb⟩ := hr x List.mem_cons_self
      refine wpAny_bind (mis_quiet hb ?_)
      simp only [Bool.not_true, Bool.false_eq_true, if_false]
      exact wpAny_pure ⟨rfl, rfl, fun v hv => hr v (List.mem_cons_of_mem _ hv)⟩
    · rintro r s' ⟨rfl, rfl, _⟩
      exact wpAny_pure h
/-- the keys ms stand in es -/
def MEs (P : Program) (w : World) (h : Heap) (ms : List MKey) (es : Array DictEntry) : Prop := es.size = ms.length ∧ ∀ (j : Nat) (e : DictEntry) (m : MKey), es[j]? = some e → ms[j]? = some m → e.hash = mHash w m ∧ MIs P w h m e.key
theorem find_mix {d : Addr} {o : Obj} {es : Array DictEntry} {ep : Nat} {ms : List MKey} {m : MKey} {key : Value} {Q : Option Nat → Shared → Prop} (hu : A.units + 1 < cLine) (hk : MIs P w s.heap m key) (ho : s.heap.get? d = some o) (hd : o.data = .dict es ep)
    (he : MEs P w s.heap ms es) (hn : ms.Nodup) (h0 : (∃ b, key = .ref b) ∨ (ms ≠ [] ∧ ∀ m ∈ ms, ∃ ks, m = .inr ks)) (hnone : m ∉ ms → Q none s) (hsome : ∀ j : Nat, ms[j]? = some m → Q (some j) s) :
    wpAny (model P w) A (dictFind d key (mHash w m)) Q E s := by
  have at_ : ∀ j (hj : j < es.size), ∃ m', ms[j]? = some m' := fun j hj => ⟨ms[j]'(by rw [← he.1]; exact hj), List.getElem?_eq_getElem _⟩
  have ask : ∀ j : Nat, ms[j]? = some m → ((es[j]?.map fun e : DictEntry => e.hash) == some (mHash w m)) = true := by
    intro j hj
    have hl : j < es.size := by rw [he.1]; exact (List.getElem?_eq_some_iff.mp hj).1
    rw [Array.getElem?_eq_getElem hl, Option.map_some, (he.2 j _ m (Array.getElem?_eq_getElem hl) hj).1]
    simp
  have key_ : ∀ e ∈ es.toList, ∃ m', m' ∈ ms ∧ e.hash = mHash w m' ∧ MIs P w s.heap m' e.key := by
    intro e hin
    obtain ⟨j, hj⟩ := List.mem_iff_getElem?.mp hin
    have hj' : es[j]? = some e := by rw [← Array.getElem?_toList]; exact hj
    obtain ⟨m', hm⟩ := at_ j (Array.getElem?_eq_some_iff.mp hj').1
    exact ⟨m', List.mem_of_getElem? hm, he.2 j e m' hj' hm⟩
  have hany : ¬ (es.any fun e => e.key == key && e.hash != mHash w m) = true := by
    rw [← Array.any_toList, List.any_eq_true]
    rintro ⟨e, hin, hc⟩
    obtain ⟨m', _, h1, h2⟩ := key_ e hin
    simp only [Bool.and_eq_true, beq_iff_eq, bne_iff_ne, ne_eq] at hc
    obtain ⟨hxa, hne⟩ := hc
    rw [hxa] at h2
    exact hne (by rw [h1, mis_inj h2 hk])
  have hst : ∀ v ∈ (placesWithHash es.size (fun i => es[i]?.map (·.hash)) (mHash w m)).filterMap (fun i => es[i]?.map (·.key)), ∃ m', m' ∈ ms ∧ MIs P w s.heap m' v := by
    intro v hv
    obtain ⟨i, _, hi⟩ := List.mem_filterMap.mp hv
    cases hei : es[i]? with
    | none => rw [hei] at hi; cases hi
    | some e =>
      rw [hei] at hi
      obtain rfl : e.key = v := by simpa using hi
      obtain ⟨m', hm, _, z⟩ := key_ e (List.mem_of_getElem? (by rw [Array.getElem?_toList]; exact hei))
      exact ⟨m', hm, z⟩
  have hcar : ∀ (h1 : ¬ carriedByValue key = true ∨ ∃ v ∈ (placesWithHash es.size (fun i => es[i]?.map (·.hash)) (mHash w m)).filterMap (fun i => es[i]?.map (·.key)), ¬ carriedByValue v = true), ¬ ((key :: (placesWithHash es.size (fun i => es[i]?.map (·.hash)) (mHash w m)).filterMap (fun i => es[i]?.map (·.key))).all carriedByValue) = true := by
    intro h1 h2
    rw [List.all_eq_true] at h2
    rcases h1 with h1 | ⟨v, hv, h1⟩
    · exact h1 (h2 _ List.mem_cons_self)
    · exact h1 (h2 _ (List.mem_cons_of_mem _ hv))
  have tells : ∀ {Q : Bool → Shared → Prop}, Q false s → wpAny (model P w) A (tableMayTell key ((placesWithHash es.size (fun i => es[i]?.map (·.hash)) (mHash w m)).filterMap (fun i => es[i]?.map (·.key)))) Q E s := by
    intro Q h
    exact tell_quiet hk (fun v hv => let ⟨m', _, z⟩ := hst v hv; ⟨m', z⟩) h
  have nil_ : ((placesWithHash es.size (fun i => es[i]?.map (·.hash)) (mHash w m)) = [] → wpAny (model P w) A (dictWalkPlain d key (mHash w m) es (placesWithHash es.size (fun i => es[i]?.map (·.hash)) (mHash w m))) Q E s) := by
    intro h
    rw [h]
    unfold dictWalkPlain
    refine wpAny_bind ?_
    refine wpAny_pure ?_
    refine wpAny_pure (hnone fun hm => ?_)
    obtain ⟨j, hj⟩ := List.mem_iff_getElem?.mp hm
    have hl : j < es.size := by rw [he.1]; exact (List.getElem?_eq_some_iff.mp hj).1
    have : j ∈ placesWithHash es.size (fun i => es[i]?.map (·.hash)) (mHash w m) := by
      unfold placesWithHash
      exact List.mem_filter.mpr ⟨List.mem_range.mpr hl, ask j hj⟩
    rw [h] at this
    cases this
  have nstr : ∀ (_ : ms ≠ [] ∧ ∀ m ∈ ms, ∃ ks, m = (.inr ks : MKey)), ¬ (es.all fun e => isExactStrKey e.key) = true := by
    rintro ⟨h1, h2⟩ h3
    cases ms with
    | nil => exact h1 rfl
    | cons m0 l =>
      obtain ⟨ks, rfl⟩ := h2 m0 List.mem_cons_self
      have hl : 0 < es.size := by rw [he.1]; simp
      obtain ⟨_, b, hb, _⟩ := he.2 0 es[0] _ (Array.getElem?_eq_getElem hl) rfl
      have := (Array.all_eq_true.mp h3) 0 hl
      rw [hb] at this
      cases this
  have refs : ∀ (_ : ms ≠ [] ∧ ∀ m ∈ ms, ∃ ks, m = (.inr ks : MKey)), placesWithHash es.size (fun i => es[i]?.map (·.hash)) (mHash w m) = [] ∨ ∃ v ∈ (placesWithHash es.size (fun i => es[i]?.map (·.hash)) (mHash w m)).filterMap (fun i => es[i]?.map (·.key)), ¬ carriedByValue v = true := by
    rintro ⟨h1, h2⟩
    cases q : placesWithHash es.size (fun i => es[i]?.map (·.hash)) (mHash w m) with
    | nil => exact .inl rfl
    | cons j l =>
      refine .inr ?_
      have hj : j ∈ placesWithHash es.size (fun i => es[i]?.map (·.hash)) (mHash w m) := by rw [q]; exact List.mem_cons_self
      have hl : j < es.size := List.mem_range.mp (List.mem_filter.mp hj).1
      obtain ⟨m', hm⟩ := at_ j hl
      obtain ⟨ks, rfl⟩ := h2 m' (List.mem_of_getElem? hm)
      obtain ⟨_, b, hb, _⟩ := he.2 j es[j] _ (Array.getElem?_eq_getElem hl) hm
      refine ⟨.ref b, List.mem_filterMap.mpr ⟨j, List.mem_cons_self, by rw [Array.getElem?_eq_getElem hl, Option.map_some, hb]⟩, by simp [carriedByValue]⟩
  unfold dictFind
  try with_reducible refine wpAny_holding ?_
  refine wpAny_bind (wpAny_dictEntries ho hd ?_)
  rcases h0 with ⟨b, rfl⟩ | h0
  · dsimp only
    rw [if_neg (hcar (.inl (by simp [carriedByValue])))]
    rw [if_neg hany]
    by_cases hone : (((placesWithHash es.size (fun i => es[i]?.map (·.hash)) (mHash w m)).filterMap (fun i => es[i]?.map (·.key))) == [Value.ref b]) = true <;>
      (first | rw [if_pos hone] | rw [if_neg hone]) <;> (first | refine wpAny_bind (wpAny_pure ?_) | refine wpAny_bind (tells ?_)) <;> (
        rw [if_neg (by simp)]
        refine wpAny_bind ?_
        refine wpAny_forIn_list _
          (fun rest b s' => s' = s ∧ ∃ i hit, b = (none, hit) ∧ rest = (List.range' i (es.size - i)).filter (fun i => (es[i]?.map (·.hash)) == some (mHash w m)) ∧ i ≤ es.size ∧
            ((hit = none ∧ ∀ j : Nat, j < i → ms[j]? ≠ some m) ∨ ∃ j : Nat, hit = some j ∧ j < i ∧ ms[j]? = some m)) _ ?_ ?_ _ _
          ⟨rfl, 0, none, rfl, by rw [placesWithHash, List.range_eq_range', Nat.sub_zero], Nat.zero_le _, .inl ⟨rfl, fun _ h => absurd h (Nat.not_lt_zero _)⟩⟩
        · rintro x rest b s' ⟨rfl, i, hit, rfl, hr, hi, hH⟩
          obtain ⟨hix, hxn, hpx, hskip, hrest⟩ := filter_range'_cons _ _ _ _ _ hr.symm
          have hlt : x < es.size := by omega
          have hrest' : rest = (List.range' (x + 1) (es.size - (x + 1))).filter (fun i => (es[i]?.map (·.hash)) == some (mHash w m)) := by rw [hrest]; congr 2; omega
          obtain ⟨m', hkv⟩ := at_ x hlt
          obtain ⟨hash', his⟩ := he.2 x es[x] m' (Array.getElem?_eq_getElem hlt) hkv
          have hHx : (hit = none ∧ ∀ j : Nat, j < x → ms[j]? ≠ some m) ∨ ∃ j : Nat, hit = some j ∧ j < x ∧ ms[j]? = some m := by
            rcases hH with ⟨h0, hno⟩ | ⟨j, h1, hji, hj⟩
            · refine .inl ⟨h0, fun j hjx hj => ?_⟩
              rcases Nat.lt_or_ge j i with h | h
              · exact hno j h hj
              · have := hskip j h hjx
                rw [ask j hj] at this
                exact absurd this (by decide)
            · exact .inr ⟨j, h1, by omega, hj⟩
          have hstay : ¬ m' = m → ((hit = none ∧ ∀ j : Nat, j < x + 1 → ms[j]? ≠ some m) ∨ ∃ j : Nat, hit = some j ∧ j < x + 1 ∧ ms[j]? = some m) := by
            intro hne
            rcases hHx with ⟨h0, hno⟩ | ⟨j, h1, hjx, hj⟩
            · refine .inl ⟨h0, fun j hjx hj => ?_⟩
              rcases Nat.lt_or_ge j x with h | h
              · exact hno j h hj
              · have hjx' : j = x := by omega
                subst hjx'
                rw [hkv] at hj
                injection hj with hj
                exact hne hj
            · exact .inr ⟨j, h1, by omega, hj⟩
          rw [Array.getElem?_eq_getElem hlt]
          dsimp only
          by_cases hh : (es[x].hash == mHash w m) = true
          · rw [if_pos hh]
            refine wpAny_bind (wpAny_dictEpoch ho hd (wpAny_bind (mis_eq hu his hk (wpAny_bind (wpAny_dictEpoch ho hd ?_)))))
            show wpAny _ _ (if (ep != ep) = true then _ else _) _ E _
            rw [if_neg (by simp)]
            by_cases hkk : m' = m
            · rw [decide_eq_true hkk]
              subst hkk
              rcases hHx with ⟨rfl, _⟩ | ⟨j, _, hjx, hj⟩
              · first | rw [if_pos rfl] | skip
                simp only [Option.isSome_none, Bool.false_eq_true, if_false]
                first | refine wpAny_bind (wpAny_pure ?_) | skip
                refine wpAny_bind (wpAny_rule ?_)
                split
                · exact wpAny_pure (wpAny_pure (hsome x hkv))
                · exact wpAny_pure ⟨rfl, x + 1, some x, rfl, hrest', hlt, .inr ⟨x, rfl, Nat.lt_succ_self x, hkv⟩⟩
              · exact absurd ((List.getElem?_inj (List.getElem?_eq_some_iff.mp hj).1 hn).mp (hj.trans hkv.symm)) (by omega)
            · rw [decide_eq_false hkk]
              simp only [Bool.false_eq_true, if_false]
              refine wpAny_bind (wpAny_rule ?_)
              first | rw [if_neg (by simp)] | skip
              first
                | exact wpAny_pure ⟨rfl, x + 1, hit, rfl, hrest', hlt, hstay hkk⟩
                | exact wpAny_bind (wpAny_pure (wpAny_pure ⟨rfl, x + 1, hit, rfl, hrest', hlt, hstay hkk⟩))
          · rw [if_neg hh]
            refine wpAny_pure ⟨rfl, x + 1, hit, rfl, hrest', hlt, hstay ?_⟩
            intro hkk
            rw [hash', hkk] at hh; simp at hh
        · rintro b s' ⟨rfl, i, hit, rfl, hr, hi, hH⟩
          have hall : ∀ j, i ≤ j → j < es.size → ((es[j]?.map fun e : DictEntry => e.hash) == some (mHash w m)) = false := by
            intro j h1 h2
            have := List.filter_eq_nil_iff.mp hr.symm j (List.mem_range'_1.mpr ⟨h1, by omega⟩)
            simpa using this
          rcases hH with ⟨rfl, hno⟩ | ⟨j, rfl, _, hj⟩
          · refine wpAny_pure (hnone fun hm => ?_)
            obtain ⟨j, hj⟩ := List.mem_iff_getElem?.mp hm
            rcases Nat.lt_or_ge j i with h | h
            · exact hno j h hj
            · have hjl : j < es.size := by rw [he.1]; exact (List.getElem?_eq_some_iff.mp hj).1
              have := hall j h hjl
              rw [ask j hj] at this
              exact absurd this (by decide)
          · exact wpAny_pure (hsome j hj))
  · cases m with
    | inr ks =>
      obtain ⟨b, rfl, _⟩ := id hk
      dsimp only
      rw [if_neg (hcar (.inl (by simp [carriedByValue])))]
      rw [if_neg hany]
      by_cases hone : (((placesWithHash es.size (fun i => es[i]?.map (·.hash)) (mHash w (.inr ks))).filterMap (fun i => es[i]?.map (·.key))) == [Value.ref b]) = true <;>
        (first | rw [if_pos hone] | rw [if_neg hone]) <;> (first | refine wpAny_bind (wpAny_pure ?_) | refine wpAny_bind (tells ?_)) <;> (
          rw [if_neg (by simp)]
          refine wpAny_bind ?_
          refine wpAny_forIn_list _
            (fun rest b s' => s' = s ∧ ∃ i hit, b = (none, hit) ∧ rest = (List.range' i (es.size - i)).filter (fun i => (es[i]?.map (·.hash)) == some (mHash w (.inr ks))) ∧ i ≤ es.size ∧
              ((hit = none ∧ ∀ j : Nat, j < i → ms[j]? ≠ some (.inr ks)) ∨ ∃ j : Nat, hit = some j ∧ j < i ∧ ms[j]? = some (.inr ks))) _ ?_ ?_ _ _
            ⟨rfl, 0, none, rfl, by rw [placesWithHash, List.range_eq_range', Nat.sub_zero], Nat.zero_le _, .inl ⟨rfl, fun _ h => absurd h (Nat.not_lt_zero _)⟩⟩
          · rintro x rest b s' ⟨rfl, i, hit, rfl, hr, hi, hH⟩
            obtain ⟨hix, hxn, hpx, hskip, hrest⟩ := filter_range'_cons _ _ _ _ _ hr.symm
            have hlt : x < es.size := by omega
            have hrest' : rest = (List.range' (x + 1) (es.size - (x + 1))).filter (fun i => (es[i]?.map (·.hash)) == some (mHash w (.inr ks))) := by rw [hrest]; congr 2; omega
            obtain ⟨m', hkv⟩ := at_ x hlt
            obtain ⟨hash', his⟩ := he.2 x es[x] m' (Array.getElem?_eq_getElem hlt) hkv
            have hHx : (hit = none ∧ ∀ j : Nat, j < x → ms[j]? ≠ some (.inr ks)) ∨ ∃ j : Nat, hit = some j ∧ j < x ∧ ms[j]? = some (.inr ks) := by
              rcases hH with ⟨h0, hno⟩ | ⟨j, h1, hji, hj⟩
              · refine .inl ⟨h0, fun j hjx hj => ?_⟩
                rcases Nat.lt_or_ge j i with h | h
                · exact hno j h hj
                · have := hskip j h hjx
                  rw [ask j hj] at this
                  exact absurd this (by decide)
              · exact .inr ⟨j, h1, by omega, hj⟩
            have hstay : ¬ m' = .inr ks → ((hit = none ∧ ∀ j : Nat, j < x + 1 → ms[j]? ≠ some (.inr ks)) ∨ ∃ j : Nat, hit = some j ∧ j < x + 1 ∧ ms[j]? = some (.inr ks)) := by
              intro hne
              rcases hHx with ⟨h0, hno⟩ | ⟨j, h1, hjx, hj⟩
              · refine .inl ⟨h0, fun j hjx hj => ?_⟩
                rcases Nat.lt_or_ge j x with h | h
                · exact hno j h hj
                · have hjx' : j = x := by omega
                  subst hjx'
                  rw [hkv] at hj
                  injection hj with hj
                  exact hne hj
              · exact .inr ⟨j, h1, by omega, hj⟩
            rw [Array.getElem?_eq_getElem hlt]
            dsimp only
            by_cases hh : (es[x].hash == mHash w (.inr ks)) = true
            · rw [if_pos hh]
              refine wpAny_bind (wpAny_dictEpoch ho hd (wpAny_bind (mis_eq hu his hk (wpAny_bind (wpAny_dictEpoch ho hd ?_)))))
              show wpAny _ _ (if (ep != ep) = true then _ else _) _ E _
              rw [if_neg (by simp)]
              by_cases hkk : m' = .inr ks
              · rw [decide_eq_true hkk]
                subst hkk
                rcases hHx with ⟨rfl, _⟩ | ⟨j, _, hjx, hj⟩
                · first | rw [if_pos rfl] | skip
                  simp only [Option.isSome_none, Bool.false_eq_true, if_false]
                  first | refine wpAny_bind (wpAny_pure ?_) | skip
                  refine wpAny_bind (wpAny_rule ?_)
                  split
                  · exact wpAny_pure (wpAny_pure (hsome x hkv))
                  · exact wpAny_pure ⟨rfl, x + 1, some x, rfl, hrest', hlt, .inr ⟨x, rfl, Nat.lt_succ_self x, hkv⟩⟩
                · exact absurd ((List.getElem?_inj (List.getElem?_eq_some_iff.mp hj).1 hn).mp (hj.trans hkv.symm)) (by omega)
              · rw [decide_eq_false hkk]
                simp only [Bool.false_eq_true, if_false]
                refine wpAny_bind (wpAny_rule ?_)
                first | rw [if_neg (by simp)] | skip
                first
                  | exact wpAny_pure ⟨rfl, x + 1, hit, rfl, hrest', hlt, hstay hkk⟩
                  | exact wpAny_bind (wpAny_pure (wpAny_pure ⟨rfl, x + 1, hit, rfl, hrest', hlt, hstay hkk⟩))
            · rw [if_neg hh]
              refine wpAny_pure ⟨rfl, x + 1, hit, rfl, hrest', hlt, hstay ?_⟩
              intro hkk
              rw [hash', hkk] at hh; simp at hh
          · rintro b s' ⟨rfl, i, hit, rfl, hr, hi, hH⟩
            have hall : ∀ j, i ≤ j → j < es.size → ((es[j]?.map fun e : DictEntry => e.hash) == some (mHash w (.inr ks))) = false := by
              intro j h1 h2
              have := List.filter_eq_nil_iff.mp hr.symm j (List.mem_range'_1.mpr ⟨h1, by omega⟩)
              simpa using this
            rcases hH with ⟨rfl, hno⟩ | ⟨j, rfl, _, hj⟩
            · refine wpAny_pure (hnone fun hm => ?_)
              obtain ⟨j, hj⟩ := List.mem_iff_getElem?.mp hm
              rcases Nat.lt_or_ge j i with h | h
              · exact hno j h hj
              · have hjl : j < es.size := by rw [he.1]; exact (List.getElem?_eq_some_iff.mp hj).1
                have := hall j h hjl
                rw [ask j hj] at this
                exact absurd this (by decide)
            · exact wpAny_pure (hsome j hj))
    | inl k =>
      rcases keyIs_shape hk with ⟨q, t, rfl, rfl⟩ | ⟨q, t, rfl, rfl⟩
      · dsimp only
        rcases refs h0 with hnil | hr
        · rw [if_pos (by rw [hnil]; rfl)]
          exact nil_ hnil
        · rw [if_neg (hcar (.inr hr))]
          by_cases hone : (((placesWithHash es.size (fun i => es[i]?.map (·.hash)) (mHash w (.inl (.inl q)))).filterMap (fun i => es[i]?.map (·.key))) == [Value.int q t]) = true <;>
            (first | rw [if_pos hone] | rw [if_neg hone]) <;> (first | refine wpAny_bind (wpAny_pure ?_) | refine wpAny_bind (tells ?_)) <;> (
              rw [if_neg (by simp)]
              refine wpAny_bind ?_
              refine wpAny_forIn_list _
                (fun rest b s' => s' = s ∧ ∃ i hit, b = (none, hit) ∧ rest = (List.range' i (es.size - i)).filter (fun i => (es[i]?.map (·.hash)) == some (mHash w (.inl (.inl q)))) ∧ i ≤ es.size ∧
                  ((hit = none ∧ ∀ j : Nat, j < i → ms[j]? ≠ some (.inl (.inl q))) ∨ ∃ j : Nat, hit = some j ∧ j < i ∧ ms[j]? = some (.inl (.inl q)))) _ ?_ ?_ _ _
                ⟨rfl, 0, none, rfl, by rw [placesWithHash, List.range_eq_range', Nat.sub_zero], Nat.zero_le _, .inl ⟨rfl, fun _ h => absurd h (Nat.not_lt_zero _)⟩⟩
              · rintro x rest b s' ⟨rfl, i, hit, rfl, hr, hi, hH⟩
                obtain ⟨hix, hxn, hpx, hskip, hrest⟩ := filter_range'_cons _ _ _ _ _ hr.symm
                have hlt : x < es.size := by omega
                have hrest' : rest = (List.range' (x + 1) (es.size - (x + 1))).filter (fun i => (es[i]?.map (·.hash)) == some (mHash w (.inl (.inl q)))) := by rw [hrest]; congr 2; omega
                obtain ⟨m', hkv⟩ := at_ x hlt
                obtain ⟨hash', his⟩ := he.2 x es[x] m' (Array.getElem?_eq_getElem hlt) hkv
                have hHx : (hit = none ∧ ∀ j : Nat, j < x → ms[j]? ≠ some (.inl (.inl q))) ∨ ∃ j : Nat, hit = some j ∧ j < x ∧ ms[j]? = some (.inl (.inl q)) := by
                  rcases hH with ⟨h0, hno⟩ | ⟨j, h1, hji, hj⟩
                  · refine .inl ⟨h0, fun j hjx hj => ?_⟩
                    rcases Nat.lt_or_ge j i with h | h
                    · exact hno j h hj
                    · have := hskip j h hjx
                      rw [ask j hj] at this
                      exact absurd this (by decide)
                  · exact .inr ⟨j, h1, by omega, hj⟩
                have hstay : ¬ m' = (.inl (.inl q)) → ((hit = none ∧ ∀ j : Nat, j < x + 1 → ms[j]? ≠ some (.inl (.inl q))) ∨ ∃ j : Nat, hit = some j ∧ j < x + 1 ∧ ms[j]? = some (.inl (.inl q))) := by
                  intro hne
                  rcases hHx with ⟨h0, hno⟩ | ⟨j, h1, hjx, hj⟩
                  · refine .inl ⟨h0, fun j hjx hj => ?_⟩
                    rcases Nat.lt_or_ge j x with h | h
                    · exact hno j h hj
                    · have hjx' : j = x := by omega
                      subst hjx'
                      rw [hkv] at hj
                      injection hj with hj
                      exact hne hj
                  · exact .inr ⟨j, h1, by omega, hj⟩
                rw [Array.getElem?_eq_getElem hlt]
                dsimp only
                by_cases hh : (es[x].hash == mHash w (.inl (.inl q))) = true
                · rw [if_pos hh]
                  refine wpAny_bind (wpAny_dictEpoch ho hd (wpAny_bind (mis_eq hu his hk (wpAny_bind (wpAny_dictEpoch ho hd ?_)))))
                  show wpAny _ _ (if (ep != ep) = true then _ else _) _ E _
                  rw [if_neg (by simp)]
                  by_cases hkk : m' = (.inl (.inl q))
                  · rw [decide_eq_true hkk]
                    subst hkk
                    rcases hHx with ⟨rfl, _⟩ | ⟨j, _, hjx, hj⟩
                    · first | rw [if_pos rfl] | skip
                      simp only [Option.isSome_none, Bool.false_eq_true, if_false]
                      first | refine wpAny_bind (wpAny_pure ?_) | skip
                      refine wpAny_bind (wpAny_rule ?_)
                      split
                      · exact wpAny_pure (wpAny_pure (hsome x hkv))
                      · exact wpAny_pure ⟨rfl, x + 1, some x, rfl, hrest', hlt, .inr ⟨x, rfl, Nat.lt_succ_self x, hkv⟩⟩
                    · exact absurd ((List.getElem?_inj (List.getElem?_eq_some_iff.mp hj).1 hn).mp (hj.trans hkv.symm)) (by omega)
                  · rw [decide_eq_false hkk]
                    simp only [Bool.false_eq_true, if_false]
                    refine wpAny_bind (wpAny_rule ?_)
                    first | rw [if_neg (by simp)] | skip
                    first
                      | exact wpAny_pure ⟨rfl, x + 1, hit, rfl, hrest', hlt, hstay hkk⟩
                      | exact wpAny_bind (wpAny_pure (wpAny_pure ⟨rfl, x + 1, hit, rfl, hrest', hlt, hstay hkk⟩))
                · rw [if_neg hh]
                  refine wpAny_pure ⟨rfl, x + 1, hit, rfl, hrest', hlt, hstay ?_⟩
                  intro hkk
                  rw [hash', hkk] at hh; simp at hh
              · rintro b s' ⟨rfl, i, hit, rfl, hr, hi, hH⟩
                have hall : ∀ j, i ≤ j → j < es.size → ((es[j]?.map fun e : DictEntry => e.hash) == some (mHash w (.inl (.inl q)))) = false := by
                  intro j h1 h2
                  have := List.filter_eq_nil_iff.mp hr.symm j (List.mem_range'_1.mpr ⟨h1, by omega⟩)
                  simpa using this
                rcases hH with ⟨rfl, hno⟩ | ⟨j, rfl, _, hj⟩
                · refine wpAny_pure (hnone fun hm => ?_)
                  obtain ⟨j, hj⟩ := List.mem_iff_getElem?.mp hm
                  rcases Nat.lt_or_ge j i with h | h
                  · exact hno j h hj
                  · have hjl : j < es.size := by rw [he.1]; exact (List.getElem?_eq_some_iff.mp hj).1
                    have := hall j h hjl
                    rw [ask j hj] at this
                    exact absurd this (by decide)
                · exact wpAny_pure (hsome j hj))
      · dsimp only
        rw [if_neg (nstr h0)]
        rcases refs h0 with hnil | hr
        · rw [if_pos (by rw [hnil]; rfl)]
          exact nil_ hnil
        · rw [if_neg (hcar (.inr hr))]
          by_cases hone : (((placesWithHash es.size (fun i => es[i]?.map (·.hash)) (mHash w (.inl (.inr q)))).filterMap (fun i => es[i]?.map (·.key))) == [Value.str q t]) = true <;>
            (first | rw [if_pos hone] | rw [if_neg hone]) <;> (first | refine wpAny_bind (wpAny_pure ?_) | refine wpAny_bind (tells ?_)) <;> (
              rw [if_neg (by simp)]
              refine wpAny_bind ?_
              refine wpAny_forIn_list _
                (fun rest b s' => s' = s ∧ ∃ i hit, b = (none, hit) ∧ rest = (List.range' i (es.size - i)).filter (fun i => (es[i]?.map (·.hash)) == some (mHash w (.inl (.inr q)))) ∧ i ≤ es.size ∧
                  ((hit = none ∧ ∀ j : Nat, j < i → ms[j]? ≠ some (.inl (.inr q))) ∨ ∃ j : Nat, hit = some j ∧ j < i ∧ ms[j]? = some (.inl (.inr q)))) _ ?_ ?_ _ _
                ⟨rfl, 0, none, rfl, by rw [placesWithHash, List.range_eq_range', Nat.sub_zero], Nat.zero_le _, .inl ⟨rfl, fun _ h => absurd h (Nat.not_lt_zero _)⟩⟩
              · rintro x rest b s' ⟨rfl, i, hit, rfl, hr, hi, hH⟩
                obtain ⟨hix, hxn, hpx, hskip, hrest⟩ := filter_range'_cons _ _ _ _ _ hr.symm
                have hlt : x < es.size := by omega
                have hrest' : rest = (List.range' (x + 1) (es.size - (x + 1))).filter (fun i => (es[i]?.map (·.hash)) == some (mHash w (.inl (.inr q)))) := by rw [hrest]; congr 2; omega
                obtain ⟨m', hkv⟩ := at_ x hlt
                obtain ⟨hash', his⟩ := he.2 x es[x] m' (Array.getElem?_eq_getElem hlt) hkv
                have hHx : (hit = none ∧ ∀ j : Nat, j < x → ms[j]? ≠ some (.inl (.inr q))) ∨ ∃ j : Nat, hit = some j ∧ j < x ∧ ms[j]? = some (.inl (.inr q)) := by
                  rcases hH with ⟨h0, hno⟩ | ⟨j, h1, hji, hj⟩
                  · refine .inl ⟨h0, fun j hjx hj => ?_⟩
                    rcases Nat.lt_or_ge j i with h | h
                    · exact hno j h hj
                    · have := hskip j h hjx
                      rw [ask j hj] at this
                      exact absurd this (by decide)
                  · exact .inr ⟨j, h1, by omega, hj⟩
                have hstay : ¬ m' = (.inl (.inr q)) → ((hit = none ∧ ∀ j : Nat, j < x + 1 → ms[j]? ≠ some (.inl (.inr q))) ∨ ∃ j : Nat, hit = some j ∧ j < x + 1 ∧ ms[j]? = some (.inl (.inr q))) := by
                  intro hne
                  rcases hHx with ⟨h0, hno⟩ | ⟨j, h1, hjx, hj⟩
                  · refine .inl ⟨h0, fun j hjx hj => ?_⟩
                    rcases Nat.lt_or_ge j x with h | h
                    · exact hno j h hj
                    · have hjx' : j = x := by omega
                      subst hjx'
                      rw [hkv] at hj
                      injection hj with hj
                      exact hne hj
                  · exact .inr ⟨j, h1, by omega, hj⟩
                rw [Array.getElem?_eq_getElem hlt]
                dsimp only
                by_cases hh : (es[x].hash == mHash w (.inl (.inr q))) = true
                · rw [if_pos hh]
                  refine wpAny_bind (wpAny_dictEpoch ho hd (wpAny_bind (mis_eq hu his hk (wpAny_bind (wpAny_dictEpoch ho hd ?_)))))
                  show wpAny _ _ (if (ep != ep) = true then _ else _) _ E _
                  rw [if_neg (by simp)]
                  by_cases hkk : m' = (.inl (.inr q))
                  · rw [decide_eq_true hkk]
                    subst hkk
                    rcases hHx with ⟨rfl, _⟩ | ⟨j, _, hjx, hj⟩
                    · first | rw [if_pos rfl] | skip
                      simp only [Option.isSome_none, Bool.false_eq_true, if_false]
                      first | refine wpAny_bind (wpAny_pure ?_) | skip
                      refine wpAny_bind (wpAny_rule ?_)
                      split
                      · exact wpAny_pure (wpAny_pure (hsome x hkv))
                      · exact wpAny_pure ⟨rfl, x + 1, some x, rfl, hrest', hlt, .inr ⟨x, rfl, Nat.lt_succ_self x, hkv⟩⟩
                    · exact absurd ((List.getElem?_inj (List.getElem?_eq_some_iff.mp hj).1 hn).mp (hj.trans hkv.symm)) (by omega)
                  · rw [decide_eq_false hkk]
                    simp only [Bool.false_eq_true, if_false]
                    refine wpAny_bind (wpAny_rule ?_)
                    first | rw [if_neg (by simp)] | skip
                    first
                      | exact wpAny_pure ⟨rfl, x + 1, hit, rfl, hrest', hlt, hstay hkk⟩
                      | exact wpAny_bind (wpAny_pure (wpAny_pure ⟨rfl, x + 1, hit, rfl, hrest', hlt, hstay hkk⟩))
                · rw [if_neg hh]
                  refine wpAny_pure ⟨rfl, x + 1, hit, rfl, hrest', hlt, hstay ?_⟩
                  intro hkk
                  rw [hash', hkk] at hh; simp at hh
              · rintro b s' ⟨rfl, i, hit, rfl, hr, hi, hH⟩
                have hall : ∀ j, i ≤ j → j < es.size → ((es[j]?.map fun e : DictEntry => e.hash) == some (mHash w (.inl (.inr q)))) = false := by
                  intro j h1 h2
                  have := List.filter_eq_nil_iff.mp hr.symm j (List.mem_range'_1.mpr ⟨h1, by omega⟩)
                  simpa using this
                rcases hH with ⟨rfl, hno⟩ | ⟨j, rfl, _, hj⟩
                · refine wpAny_pure (hnone fun hm => ?_)
                  obtain ⟨j, hj⟩ := List.mem_iff_getElem?.mp hm
                  rcases Nat.lt_or_ge j i with h | h
                  · exact hno j h hj
                  · have hjl : j < es.size := by rw [he.1]; exact (List.getElem?_eq_some_iff.mp hj).1
                    have := hall j h hjl
                    rw [ask j hj] at this
                    exact absurd this (by decide)
                · exact wpAny_pure (hsome j hj))
end
section
variable {K : PySem.W.Frag} {H : Hp} {ω : Ad}
theorem mkv_ck {k : PV} {m : MKey} {v : V} (h : MKV H k m v) : ckey k = some m := by
  rcases h with ⟨kk, e, rfl, rfl⟩ | ⟨ks, kk, b, rfl, e, rfl, rfl, hb⟩
  · exact keyOf_ck e
  · simp [e]
theorem mix_val : ∀ {kvs : List (PV × PV)} {xs : List (MKey × V × V)} {y r : PV} {m : MKey}, RpM K H ω kvs xs → ckey y = some m → valP kvs y = some r → ∃ (j : Nat) (u v : V), xs[j]? = some (m, u, v) ∧ Rp K H ω r v
  | [], _, _, _, _, _, _, h => by cases h
  | (k, x) :: l, _, y, r, m, ⟨m', u, v, ws, rfl, mk, rx, rr⟩, hy, h => by
    unfold valP at h
    split at h
    · rename_i he
      cases h
      have e : m' = m := by
        unfold keq at he
        rw [mkv_ck mk, hy] at he
        simpa using he
      subst e
      exact ⟨0, u, v, rfl, rx⟩
    · obtain ⟨j, u', v', hj, rv⟩ := mix_val rr hy h
      exact ⟨j + 1, u', v', by simpa using hj, rv⟩
theorem mix_ms {w : World} {P : Program} {h : Heap} (ok : HOk P w H h) : ∀ {kvs : List (PV × PV)} {xs : List (MKey × V × V)} {el : List DictEntry}, RpM K H ω kvs xs →
    Paired (fun (p : MKey × V × V) (e : DictEntry) => e.hash = mHash w p.1 ∧ L2.RelV p.2.1 e.key ∧ L2.RelV p.2.2 e.val) xs el → el.length = xs.length ∧ ∀ (j : Nat) (e : DictEntry) (m : MKey), el[j]? = some e → (xs.map (·.1))[j]? = some m → e.hash = mHash w m ∧ MIs P w h m e.key
  | [], _, _, rfl, .nil => ⟨rfl, fun j e m h => by simp at h⟩
  | (k, x) :: l, _, _, ⟨m', u, v, ws, rfl, mk, rx, rr⟩, .cons q1 q2 => by
    obtain ⟨i1, i2⟩ := mix_ms ok rr q2
    refine ⟨by simp [i1], fun j e m h1 h2 => ?_⟩
    cases j with
    | zero =>
      simp at h1 h2
      subst h1; subst h2
      refine ⟨q1.1, ?_⟩
      rcases mk with ⟨kk, _, rfl, rfl⟩ | ⟨ks, kk, b, _, _, rfl, rfl, hb⟩
      · exact kV_is q1.2.1
      · exact ⟨b, q1.2.1, key_of ok hb⟩
    | succ j => exact i2 j e m (by simpa using h1) (by simpa using h2)
/-- a dict with tuple keys as one with keys of all kinds -/
theorem mix_of : ∀ {kvs : List (PV × PV)} {xs : List (List Key × V)} {ys : List (List Key × Addr × Value)} {P : Program} {w : World}, RpX tkey K H ω kvs xs →
    Paired (fun (p : List Key × V) (q : List Key × Addr × Value) => p.1 = q.1 ∧ H q.2.1 = some (.tup (p.1.map kV)) ∧ L2.RelV p.2 q.2.2) xs ys → ∃ zs : List (MKey × V × V), zs.map (·.1) = ys.map (fun y => .inr y.1) ∧ RpM K H ω kvs zs ∧
      Paired (fun (p : MKey × V × V) (e : DictEntry) => e.hash = mHash w p.1 ∧ L2.RelV p.2.1 e.key ∧ L2.RelV p.2.2 e.val) zs (ys.map (entryOfKey (tupleKind (mixKind P w))))
  | [], _, _, _, _, rfl, .nil => ⟨[], rfl, rfl, .nil⟩
  | (k, x) :: l, _, _, P, w, ⟨kk, v, ws, rfl, hk, rx, rr⟩, .cons (b := q) q1 q2 => by
    obtain ⟨zs, h1, h2, h3⟩ := mix_of (P := P) (w := w) rr q2
    obtain ⟨ks, rfl, e⟩ := tkey_of.mp hk
    obtain ⟨e1, e2, e3⟩ := q1
    refine ⟨(.inr kk, .ref q.2.1, v) :: zs, by simp [h1, ← e1], ⟨.inr kk, .ref q.2.1, v, zs, rfl, .inr ⟨ks, kk, q.2.1, rfl, e, rfl, rfl, e2⟩, rx, h2⟩, .cons ⟨?_, rfl, e3⟩ h3⟩
    show (tupleKind (mixKind P w)).hash q.1 = mHash w (.inr kk)
    rw [← e1]
    rfl
theorem mix_len : ∀ {kvs : List (PV × PV)} {xs : List (MKey × V × V)}, RpM K H ω kvs xs → kvs.length = xs.length
  | [], _, rfl => rfl
  | (k, x) :: l, _, ⟨m', u, v, ws, rfl, _, _, rr⟩ => by simp [mix_len rr]
theorem mix_app {ks : List (PV × PV)} {ys : List (MKey × V × V)} : ∀ {kvs : List (PV × PV)} {xs : List (MKey × V × V)}, RpM K H ω kvs xs → RpM K H ω ks ys → RpM K H ω (kvs ++ ks) (xs ++ ys)
  | [], _, rfl, g => g
  | (k, x) :: l, _, ⟨m', u, v, ws, rfl, a, b, rr⟩, g => ⟨m', u, v, ws ++ ys, rfl, a, b, mix_app rr g⟩
theorem paired_app {α β : Type} {F : α → β → Prop} {a : α} {b : β} (h : F a b) : ∀ {xs : List α} {ys : List β}, Paired F xs ys → Paired F (xs ++ [a]) (ys ++ [b])
  | _, _, .nil => .cons h .nil
  | _, _, .cons r t => .cons r (paired_app h t)
end
@[simp] def mixOk (kvs : List (PV × PV)) (i : PV) : Bool := !kvs.isEmpty && kvs.all (fun p => (tkey p.1).isSome) && (keyOf i).isSome && decide (kvs.length < sizeLine)
/-- o[i] = v, also when i is the first key that is no tuple -/
@[simp] def qSetM : P3 := fun o i v S => match o with
  | .loc n => match S[n]? with
    | some (.dct kvs) => if mixOk kvs i = true then some (S.set n (.dcm (kvs ++ [(i, v)]))) else qSetA o i v S
    | _ => qSetA o i v S
  | _ => none
/-- x[y], also of a dict with keys of all kinds -/
@[simp] def pIxM : P2 := fun S x y => match look S x with
  | .dcm kvs => if (tkey y).isSome = true then valP kvs y else none
  | _ => pIxD S x y
section
variable {X : Cx} {pins : List (Addr × Obj)} {σ : L2.St} {H : Hp} {s : Shared}
theorem set_mix {ω : Ad} {a : Addr} {kvs : List (PV × PV)} {xs : List (List Key × V)} {pi pv : PV} {k : Key} {v : V} {u r : Value} {E : Value → Shared → Prop} {Q : Unit → Shared → Prop} (hu : X.A.units + 2 < cLine) (I : L2.Inv X pins σ H s) (h : H a = some (.dT xs)) (rr : RpX tkey X.K H ω kvs xs)
    (hne : kvs ≠ []) (hl : kvs.length < sizeLine) (hk : keyOf pi = some k) (ru : RelV (kV k) u) (rp : Rp X.K H ω pv v) (rv : RelV v r) (hw : HW.w = X.w)
    (f : ∀ o s', L2.Inv X pins σ (upd H a (.frz o (.own 0))) s' → CoR X.K H ω a (.dcm (kvs ++ [(pi, pv)])) (.frz o (.own 0)) → Q () s') : wpAny (model X.prog X.w) X.A (setItem (.ref a) u r) Q E s := by
  obtain ⟨hz, hs, ys, rel, o, es, ep, ho, hx, hd, he, hn⟩ := (show ObjOk X.prog X.w H s.heap a (.dT xs) from I.hok a _ h)
  obtain ⟨zs, z1, z2, z3⟩ := mix_of (P := X.prog) (w := X.w) rr rel
  have hm := mix_ms I.hok z2 z3
  have ms : MEs X.prog X.w s.heap (zs.map (·.1)) es := ⟨by rw [← Array.length_toList, he, hm.1, List.length_map], fun j e m h1 h2 => hm.2 j e m (by rw [← he, Array.getElem?_toList]; exact h1) h2⟩
  have nd : (zs.map (·.1)).Nodup := by
    rw [z1]
    have : (ys.map (·.1)).Nodup := hn
    have e : ys.map (fun y => (Sum.inr y.1 : MKey)) = (ys.map (·.1)).map Sum.inr := by rw [List.map_map]; rfl
    rw [e]
    exact List.Pairwise.map Sum.inr (fun _ _ z w => z (Sum.inr.inj w)) this
  have all : ∀ m ∈ zs.map (·.1), ∃ ks, m = (.inr ks : MKey) := by
    rw [z1]
    intro m hm
    obtain ⟨y, _, rfl⟩ := List.mem_map.mp hm
    exact ⟨_, rfl⟩
  have ne : zs.map (·.1) ≠ [] := by
    intro z
    have : kvs.length = 0 := by rw [mix_len z2, ← List.length_map (as := zs) (f := (·.1)), z]; rfl
    exact hne (List.length_eq_zero_iff.mp this)
  have nin : (Sum.inl k : MKey) ∉ zs.map (·.1) := fun z => by obtain ⟨_, e⟩ := all _ z; cases e
  have mi : MIs X.prog X.w s.heap (.inl k) u := kV_is ru
  unfold setItem
  try with_reducible refine wpAny_holding ?_
  have ty : s.TypeIs (.ref a) "dict" := ⟨o, ho, hx.1⟩
  refine wpAny_bind (wpAny_sequenceKey ty (by decide) ?_)
  refine wpAny_bind (wpAny_callSpecial?_slot (name := Str.ofString "__setitem__") ty slot_dict_setitem
    (wpAny_call_entry slot_dict_setitem ty entry_dict_setitem ?_ (args_dict_setitem _ _ _)))
  show wpAny _ _ (Builtin.Dict.notOrdered "__setitem__" ⟨[.ref a, u, r], []⟩ >>= _) _ _ s
  refine wpAny_bind (wpAny_notOrdered_dict ty ?_)
  show wpAny _ _ (dictSet a u r >>= _) _ _ s
  refine wpAny_bind ?_
  unfold dictSet
  try with_reducible refine wpAny_holding ?_
  refine wpAny_bind (mis_hash (by show X.A.units + 1 < cLine; omega) mi fun tk => ?_)
  unfold dictSetHashed
  try with_reducible refine wpAny_holding ?_
  refine wpAny_bind (find_mix (s := { s with toks := tk }) (by show X.A.units + 1 + 1 < cLine; omega) mi ho hd ms nd (.inr ⟨ne, all⟩) (fun _ => ?_) fun j hj => absurd (List.mem_of_getElem? hj) nin)
  have hzs : es.size ≤ sizeLine := by rw [ms.1, List.length_map, ← mix_len z2]; omega
  refine wpAny_bind (wpAny_rule (wpAny_updateDictKeys (hz := by omega) (s := { s with toks := tk }) ho hd (wpAny_pure ⟨.none, rfl, wpAny_pure ?_⟩)))
  have ho' : (s.heap.update a fun o => o.mapDictKeys fun es => es.push ⟨mHash X.w (.inl k), u, r⟩).get? a = some (o.mapDictKeys fun es => es.push ⟨mHash X.w (.inl k), u, r⟩) := Heap.get?_update_self _ ho (Obj.isFreed_of_dict (Obj.data_mapDictKeys hd _))
  refine f (o.mapDictKeys fun es => es.push ⟨mHash X.w (.inl k), u, r⟩) _ (d_write (s := s) (t' := tk) I (by rw [h]; exact True.intro) (Heap.SameBut.update ..) ⟨_, ho'⟩ ⟨ho', _, ho'⟩) ⟨_, zs ++ [(.inl k, kV k, v)], rfl, hs, ⟨hx.mapDictKeys _, ?_, ?_, _, ep + 1, Obj.data_mapDictKeys hd _, ?_⟩, mix_app z2 ⟨.inl k, kV k, v, [], rfl, .inl ⟨k, hk, rfl, rfl⟩, rp, rfl⟩⟩
  · rw [List.map_append, List.nodup_append]
    refine ⟨nd, by simp, ?_⟩
    intro x hx y hy
    simp only [List.map_cons, List.map_nil, List.mem_singleton] at hy
    subst hy
    exact fun e => nin (e ▸ hx)
  · have := mix_len z2
    simp only [List.length_append, List.length_cons, List.length_nil]
    omega
  · rw [hw, Array.toList_push, he]
    exact paired_app (by exact ⟨rfl, ru, rv⟩) z3
/-- a tuple in a dict with keys of all kinds -/
theorem get_mix {ω : Ad} {a b : Addr} {o : Obj} {kvs : List (PV × PV)} {xs : List (MKey × V × V)} {y r : PV} {k : List Key} {Q : Value → Shared → Prop} {E : Value → Shared → Prop} {A : Around} (hu : A.units + 2 < cLine) (I : L2.Inv X pins σ H s) (h : H a = some (.frz o (.own 0))) (m : MixO X.w o xs) (rr : RpM X.K H ω kvs xs)
    (hb : H b = some (.tup (k.map kV))) (hy : ckey y = some (.inr k)) (hr : valP kvs y = some r) (f : ∀ v w' s', L2.Inv X pins σ H s' → Rp X.K H ω r v → L2.RelV v w' → Q w' s') : wpAny (model X.prog X.w) A (getItem (.ref a) (.ref b)) Q E s := by
  obtain ⟨hx, nd, hz, es, ep, hd, pr⟩ := m
  have ho : s.heap.get? a = some o := (I.hok a _ h).1
  have hm := mix_ms I.hok rr pr
  have ms : MEs X.prog X.w s.heap (xs.map (·.1)) es := ⟨by rw [← Array.length_toList, hm.1, List.length_map], fun j e m h1 h2 => hm.2 j e m (by rw [Array.getElem?_toList]; exact h1) h2⟩
  obtain ⟨j, ku, v, hj, rv⟩ := mix_val rr hy hr
  have hj1 : (xs.map (·.1))[j]? = some (.inr k) := by rw [List.getElem?_map, hj]; rfl
  have mi : MIs X.prog X.w s.heap (.inr k) (.ref b) := ⟨b, rfl, key_of I.hok hb⟩
  have ty : s.TypeIs (.ref a) "dict" := ⟨o, ho, hx.1⟩
  unfold getItem
  try with_reducible refine wpAny_holding ?_
  refine wpAny_bind (wpAny_sequenceKey ty (by decide) ?_)
  refine wpAny_bind (wpAny_callSpecial?_slot (name := Str.ofString "__getitem__") ty slot_dict_getitem
    (wpAny_call_entry slot_dict_getitem ty entry_dict_getitem ?_ (args_dict_getitem _ _)))
  show wpAny _ _ (dictGet a (.ref b) >>= _) _ _ s
  refine wpAny_bind ?_
  unfold dictGet
  try with_reducible refine wpAny_holding ?_
  refine wpAny_bind (mis_hash (by show A.units + 1 < cLine; omega) mi fun tk => ?_)
  refine wpAny_bind (find_mix (s := { s with toks := tk }) (by show A.units + 1 + 1 < cLine; omega) mi ho hd ms nd (.inl ⟨b, rfl⟩) (fun n => absurd (List.mem_of_getElem? hj1) n) fun j' hj' => ?_)
  have ej : j' = j := (List.getElem?_inj (List.getElem?_eq_some_iff.mp hj').1 nd).mp (hj'.trans hj1.symm)
  subst ej
  refine wpAny_bind (wpAny_dictEntries (s := { s with toks := tk }) ho hd ?_)
  have hl : j' < es.size := by rw [ms.1]; exact (List.getElem?_eq_some_iff.mp hj1).1
  rw [Array.getElem?_eq_getElem hl]
  have q := pair_at pr hj (show es.toList[j']? = some es[j'] by rw [Array.getElem?_toList, Array.getElem?_eq_getElem hl])
  exact wpAny_pure (wpAny_pure ⟨_, rfl, wpAny_pure (f v _ _ (I.tok _) rv q.2.2)⟩)
theorem setP_mix (hu : X.A.units + 64 < cLine) (hw : HW.w = X.w) : PSet X (rSet X.K qSetM) := by
  intro pins s σ H o i v ov iv u Q I r1' r2' r3' ⟨ω, S, po, pi, pv, S', t, r1, r2, r3, e, k⟩
  unfold qSetM at e
  split at e
  · rename_i n
    split at e
    · rename_i kvs e1
      split at e
      · rename_i hc
        cases e
        obtain ⟨a, rfl, ha, d⟩ := dct_cell t r1 e1
        obtain rfl : ov = Value.ref a := r1'
        simp only [mixOk, Bool.and_eq_true, decide_eq_true_eq] at hc
        obtain ⟨⟨⟨h1, h2⟩, h3⟩, h4⟩ := hc
        obtain ⟨ky, ek⟩ := Option.isSome_iff_exists.mp h3
        have ne : kvs ≠ [] := by rintro rfl; cases h1
        have ew := keyOf_V ek r2
        subst ew
        rcases d with ⟨xs, h, rr⟩ | ⟨xs, h, rr⟩
        · cases kvs with
          | nil => exact absurd rfl ne
          | cons p l =>
            obtain ⟨k0, x0⟩ := p
            obtain ⟨kk, v0, ws, e0, g1, _, _⟩ := rr
            simp at h2
            obtain ⟨a0, ha0⟩ := Option.isSome_iff_exists.mp h2.1
            exact (noBoth g1 ha0).elim
        · refine set_mix (by omega) I h rr ne h4 ek r2' r3 r3' hw fun o s' I' c => ⟨_, I', ?_⟩
          obtain ⟨s', t'⟩ := cell_set t ha c
          exact k _ s' t'
      · exact setP_any hu pins s σ H _ i v ov iv u Q I r1' r2' r3' ⟨ω, S, _, pi, pv, S', t, r1, r2, r3, e, k⟩
    · exact setP_any hu pins s σ H _ i v ov iv u Q I r1' r2' r3' ⟨ω, S, _, pi, pv, S', t, r1, r2, r3, e, k⟩
  · cases e
end
section
variable {X : Cx} {W : WX} {a b : Expr} {da db : Den} {pos : Pos}
theorem ixMP (hu : X.A.units + 2 < cLine) (hw : HW.w = X.w) : IxR X (rP X.K pIxM) := by
  intro value slice pins s σ H x y v u Q I rx ry ⟨ω, S, px, py, r, t, r1, r2, e, k⟩ hs
  by_cases hd : ∃ kvs, look S px = .dcm kvs
  · obtain ⟨kvs, hd⟩ := hd
    unfold pIxM at e
    rw [hd] at e
    simp only at e
    split at e
    · rename_i hk
      obtain ⟨ks, hks⟩ := Option.isSome_iff_exists.mp hk
      obtain ⟨b, rfl, hb⟩ := tkey_V hks r2
      obtain rfl : u = Value.ref b := ry
      have there : ∃ a o xs, x = .ref a ∧ H a = some (.frz o (.own 0)) ∧ MixO HW.w o xs ∧ RpM X.K H ω kvs xs := by
        cases px with
        | loc n =>
          obtain ⟨a, c, o, ea, _, _, e2, ho, hc⟩ := look_loc t r1
          rw [e2] at hd; subst hd
          obtain ⟨ob, xs, rfl, _, m, rr⟩ := hc
          exact ⟨a, ob, xs, ea, ho, m, rr⟩
        | dcm kvs' =>
          cases (show kvs' = kvs from by simpa using hd)
          obtain ⟨a, ob, xs, ea, h, _, _, m, rr⟩ := r1
          exact ⟨a, ob, xs, ea, h, m, rr⟩
        | _ => cases hd
      obtain ⟨a, o, xs, rfl, ha, m, rr⟩ := there
      obtain rfl : v = Value.ref a := rx
      have ty : s.TypeIs (.ref a) "dict" := ⟨o, (I.hok a _ ha).1, m.1.1⟩
      exact tail_any ty PySem.F.slot_dict_getitem.lookup (get_mix (by show X.A.units + 2 < cLine; omega) I ha (hw ▸ m) rr hb (tkey_ck hks) e fun v w' s' I' rv rw' => ⟨v, H, I', rw', k _ _ .refl t rv⟩) hs
    · cases e
  · have e' : pIxD S px py = some r := by
      unfold pIxM at e
      split at e
      · rename_i kvs hk; exact absurd ⟨kvs, hk⟩ hd
      · exact e
    exact ixDP (by omega) value slice pins s σ H x y v u Q I rx ry ⟨ω, S, px, py, r, t, r1, r2, e', k⟩ hs
theorem ex_ixM (hu : X.A.units + 64 < cLine) (hw : HW.w = X.w) (ha : EX X W a da) (hb : EX X W b db) (hs : PlainIx b := by intro _ _; rfl) : EX X W (.Subscript a b pos) (dBin pIxM da db) := (pe_ix (ixMP (by omega) hw) ha hb hs).imp fun _ _ _ => bin_P
end
end Pv

/-! tuple(d) -/
namespace DT
open PySem PySem.Spec PyProof.Rows
section
variable {prog : Program} {w : World} {A : Around} {E : Value → Shared → Prop} {s : Shared} {T : String} {r d : Addr} {n : Nat} {P : Nat → Value → Prop} {OK : Heap → Prop}
theorem collect_kdl {Q : List Value → Shared → Prop} (K : PySem.W.KdlSrc prog w T r d n P OK) (hh : A.handled = none) (hok : OK s.heap) (hn : n ≤ sizeLine)
    (hQ : ∀ h' tk acc, (∀ b o, s.heap.get? b = some o → h'.get? b = some o) → ItemsOf P acc n → Q acc.toList { s with heap := h', toks := tk }) : wpAny (model prog w) A (collect (.ref r)) Q E s := by
  unfold collect
  refine wpAny_bind (wpAny_runValue (codeAny_builtin F.entry_proto_collect ?_))
  rw [Around.under_plainId F.plain_proto_collect _]
  show wpAny _ A.in1 (newList [] >>= fun l => again (.builtin "list.__iadd__" ⟨[l, .ref r], []⟩)) _ _ s
  refine wpAny_bind (wpAny_newObj_type ?_)
  refine wpAny_pure ⟨plainId_quiet F.plain_list_iadd _, codeAny_builtin F.entry_list_iadd ?_⟩
  rw [Around.under_plainId F.plain_list_iadd _]
  have hlt := K.there _ hok
  have hS : (s.heap.push { cls := .type "list", data := .seq ([] : List Value).toArray }).get? s.heap.objs.size = some { cls := .type "list", data := .seq #[] 0 } := Heap.get?_push_size _ rfl
  show wpAny _ A.in1 (Builtin.List.listExtendWith (.ref s.heap.objs.size) (.ref r) (.ref s.heap.objs.size)) _ _ _
  have fin : ∀ (h' : Heap) (tk : Nat) (acc : Array Value) (c : Nat), (∀ b o, s.heap.get? b = some o → h'.get? b = some o) → h'.get? s.heap.objs.size = some { cls := .type "list", dict := none, data := .seq acc c, slots := #[] } → ItemsOf P acc n → wpAny (model prog w) A (match Value.ref s.heap.objs.size with
      | Value.ref a => do
        match (← load a).data with
          | Data.seq xs _ => pure xs.toList
          | _ => unsupported "internal:collect"
      | _ => unsupported "internal:collect") Q E { s with heap := h', toks := tk } := fun h' tk acc c hk hS' hacc => by
    show wpAny _ A (load s.heap.objs.size >>= _) _ _ _
    exact wpAny_bind (wpAny_load hS' (wpAny_pure (hQ h' tk acc hk hacc)))
  refine wpAny_mono (PySem.W.kdl_extend (A := A) (s := { s with heap := s.heap.push { cls := .type "list", data := .seq ([] : List Value).toArray } }) (R := fun r s' => r = .ok (.ret (.ref s.heap.objs.size)) ∧ ∃ (h' : Heap) (tk : Nat) (acc : Array Value) (c : Nat), (∀ b o, s.heap.get? b = some o → h'.get? b = some o) ∧ h'.get? s.heap.objs.size = some { cls := .type "list", dict := none, data := .seq acc c, slots := #[] } ∧ ItemsOf P acc n ∧ s' = { s with heap := h', toks := tk })
    K hh (K.keep s.heap _ hok fun b _ o e => Heap.get?_push_of_some _ e) _ (Nat.ne_of_gt hlt.1) (Nat.ne_of_gt hlt.2) _ 0 hS (fun h' tk acc c hk hS' hacc => ⟨rfl, h', tk, acc, c, fun b o e => hk b o (Nat.ne_of_lt (Heap.lt_size e)) (Heap.get?_push_of_some _ e), hS', hacc, rfl⟩) hn) (fun fi s' h => ?_) (fun e s' h => ?_)
  · cases fi with
    | done f =>
      obtain ⟨e, h', tk, acc, c, h1, h2, h3, rfl⟩ := h
      cases e
      exact fin h' tk acc c h1 h2 h3
    | again c' => exact ⟨h.1, codeAny_mono h.2 fun r s'' hr => by obtain ⟨rfl, h', tk, acc, c, h1, h2, h3, rfl⟩ := hr; exact fin h' tk acc c h1 h2 h3⟩
  · exact absurd h.1 (by simp)
end
theorem meets_tuple_dict {d : Addr} {o : Obj} {es : Array DictEntry} {ep : Nat} (lo : (d == sysModules) = false) (hx : o.ExactDict) (hd : o.data = .dict es ep) (hn : es.size ≤ sizeLine) :
    Meets (Builtin.«tuple.__new__» ⟨[.type "tuple", .ref d], []⟩)
      (fun A R s => A.handled = none ∧ s.heap.get? d = some o ∧ ∀ (h' : Heap) (tk : Nat) (acc : Array Value), (∀ b o', s.heap.get? b = some o' → h'.get? b = some o') → ItemsOf (fun i v => ∃ en : DictEntry, es[i]? = some en ∧ v = en.key) acc es.size →
        R (.ok (.ret (.ref h'.objs.size))) { s with heap := h'.push { cls := .type "tuple", data := .seq acc }, toks := tk }) :=
  .of_wp fun prog w A R s h => by
    obtain ⟨hp, g, d', tk, os⟩ := s; obtain ⟨hh, ht, h⟩ := h
    have hsub := sub_tuple_self
    have hinit := init_tuple_lookup
    have hmh := madeHere_tuple
    have hT : Shared.TypeIs ⟨hp, g, d', tk, os⟩ (.ref d) "dict" := ⟨o, ht, hx.1⟩
    have hh1 : A.in1.handled = none := hh
    wp_walk using wpAny_typeOf hT, collect_kdl (L2.kdl_raw lo hx hd) hh1 ht hn
    intro h' tk acc hk hacc
    show wpAny _ _ (Builtin.Tuple.tupleExact acc.toList.toArray >>= fun v => ret v) _ _ _
    unfold Builtin.Tuple.tupleExact
    refine wpAny_bind (wpAny_newObj_type ?_ (show acc.toList.toArray.size ≤ sizeLine by simp only [Array.toArray_toList]; rw [hacc.1]; exact hn))
    refine wpAny_pure ⟨_, rfl, ?_⟩
    have e : acc.toList.toArray = acc := by simp
    rw [e]
    exact h h' tk acc hk hacc
theorem call_tuple_raw {prog : Program} {w : World} {A : Around} {E : Value → Shared → Prop} {s : Shared} {Q : Value → Shared → Prop} {d : Addr} {o : Obj} {es : Array DictEntry} {ep : Nat} (hh : A.handled = none) (lo : (d == sysModules) = false) (hx : o.ExactDict) (hd : o.data = .dict es ep) (hn : es.size ≤ sizeLine) (ho : s.heap.get? d = some o)
    (h : ∀ (h' : Heap) (tk : Nat) (acc : Array Value), (∀ b o', s.heap.get? b = some o' → h'.get? b = some o') → ItemsOf (fun i v => ∃ en : DictEntry, es[i]? = some en ∧ v = en.key) acc es.size → Q (.ref h'.objs.size) { s with heap := h'.push { cls := .type "tuple", data := .seq acc }, toks := tk }) :
    wpAny (model prog w) A (call (.type "tuple") [.ref d]) Q E s :=
  callType_new F.called_tuple (by decide) (F.typeCall_tuple_1 _) (F.newCall_tuple_1 _) (fun obj => F.args_object_init_2 obj _) F.entry_tuple_new
    (meets_tuple_dict lo hx hd hn) ⟨hh, ho, fun h' tk acc hk hacc => ⟨⟨_, Heap.get?_push_size _ rfl, rfl⟩, h h' tk acc hk hacc⟩⟩
end DT
namespace Pv
open PySem PySem.Spec L2 PyProof.Rows
variable [HW]
/-- tuple(..), of dicts too -/
@[simp] def cTupleD : PC' := fun S xs => match xs with
  | [x] => match look S x with
    | .dct kvs => some (.tup (kvs.map (·.1)))
    | _ => cTuple S xs
  | _ => none
section
variable {X : Cx}
theorem callP_tupleD (hc : X.calm = true) : CallP X (.type "tuple") cTupleD := by
  intro pins s σ H vs us Q I r ⟨ω, S, ps, r', t, rv, e, k⟩
  match ps, e with
  | [x], e =>
    by_cases hd : ∃ kvs, look S x = .dct kvs
    · obtain ⟨kvs, hd⟩ := hd
      simp only [cTupleD, hd] at e
      cases e
      obtain ⟨w, rfl, rx⟩ := rv.one
      obtain ⟨u, rfl, ru⟩ := vals1 r
      obtain ⟨a, es, ep, rfl, isd, low, raw, len, ents⟩ := ents_of I t rx hd
      obtain rfl : u = Value.ref a := ru
      obtain ⟨o, ho, hx, hdt⟩ := raw
      refine DT.call_tuple_raw (I.ok.hd hc) low hx hdt (by rw [← ents.1]; exact len) ho fun h' tk acc hk it => ?_
      obtain ⟨vs, q1, q2⟩ := vals_of (n := 0) (K := X.K) (H := H) (ω := ω) (kvs := kvs) (es := es) (·.1) (·.key) ents.1 (fun j p e e1 e2 => let ⟨kv, v, g1, _, g3, _⟩ := ents.2 j p e e1 e2; ⟨kv, g1, g3⟩) ⟨it.1, fun j v hj => by
        obtain ⟨en, h1, h2⟩ := it.2 j v hj
        obtain ⟨hi, h3⟩ := Array.getElem?_eq_some_iff.mp h1
        exact ⟨hi, by rw [h3]; exact h2⟩⟩
      have hl : vs.length ≤ sizeLine := by rw [q1.length, Array.length_toList, it.1, ← ents.1]; exact len
      have I1 : L2.Inv X pins σ H { s with heap := h', toks := tk } := I.kept (t' := tk) hk
      have hn : H h'.objs.size = none := I1.hok.fresh (Nat.le_refl _)
      have I2 : L2.Inv X pins σ (upd H h'.objs.size (.tup vs)) { s with heap := h'.push { cls := .type "tuple", data := .seq acc }, toks := tk } :=
        I1.laid (t' := tk) (fun b o e => Heap.get?_push_of_some _ e) (Nat.le_refl _) (show ObjOk X.prog X.w _ _ _ (.tup vs) from ⟨hl, acc.toList, q1, by rw [Array.toArray_toList]; exact IsTup.new _ _⟩)
      exact ⟨.ref h'.objs.size, _, I2, rfl, new_tup t hn q2 fun v' H' s' t' r' => k v' H' s' t' r'⟩
    · have e' : cTuple S [x] = some r' := by
        simp only [cTupleD] at e
        split at e
        · rename_i kvs hk; exact absurd ⟨kvs, hk⟩ hd
        · exact e
      exact callP_tuple pins s σ H vs us Q I r ⟨ω, S, _, _, t, rv, e', k⟩
end
end Pv

/-! isinstance of a class of the text; name += number -/
namespace Pv
open PySem PySem.Spec L2 PyProof.Rows
variable [HW]
/-- what isinstance asks of a class of the text -/
structure IsiN (K : PySem.W.Frag) (mg : Str → Option Value) (n : Str) : Prop where
  ex : ∃ C, clA K n = some C ∧ mg n = some (.ref C) ∧ Cls K C ∧ PySem.W.findIn K (.ref C) "__class__" = some (some (.builtin "object.__class__")) ∧
    PySem.W.specialIn K (.builtin "object.__class__") "__get__" = some (some (.builtin "getset_descriptor.__get__")) ∧ PySem.W.takesIn K (.builtin "object.__class__") = some true ∧ PySem.W.mroIn K C (.type "object") = some true
@[simp] def cIsiC (n : Str) : PC' := fun S xs => match xs with
  | [x, .cls m] => match look S x with
    | .ins C _ => if C = n ∧ m = n then some (.bl true) else none
    | _ => none
  | _ => none
section
variable {X : Cx} {W : WX} {n : Str} {e : Expr} {de : Den} {p p2 pos : Pos}
theorem callP_isiC (h : IsiN X.K X.mg n) : CallP X (.builtin "isinstance") (cIsiC n) := by
  intro pins s σ H vs us Q I r ⟨ω, S, ps, r', t, rv, e, k⟩
  unfold cIsiC at e
  split at e
  · rename_i x m
    split at e
    · rename_i C fs hk
      split at e
      · rename_i hc
        cases e
        obtain ⟨rfl, rfl⟩ := hc
        obtain ⟨v, w, rfl, rx, cc, hcc, rfl⟩ := rv.two
        obtain ⟨u1, u2, rfl, r1, r2⟩ := vals2 r
        cases (show u2 = Value.ref cc from r2)
        obtain ⟨a, dx, vs, c, rfl, hc, ha, rr⟩ := ins_of t rx hk
        rw [hcc] at hc; cases hc
        obtain ⟨C', q1, q2, q3, q4, q5, q6, q7⟩ := h.ex
        rw [hcc] at q1; cases q1
        exact isinst_ok I r1 (TyOf.ins ha q3 q4 q5 q6 q7) (by unfold PySem.W.kitOne; rw [if_pos (by simp)]) fun tk => ⟨.bl true, H, I.tok tk, rfl, k _ _ .refl t rfl⟩
      · cases e
    · cases e
  · cases e
@[simp] def dIsiC (n : Str) (d : Den) : Den := dCB (cIsiC n) (dCons d (dCons (dK (.cls n)) dNil))
theorem ex_isiC (h : IsiN X.K X.mg n) (hg1 : Gl X "isinstance") (hg2 : Gl X n) (hm : X.mg "isinstance" = none) (hv : bootBuiltins "isinstance" = some (.builtin "isinstance")) (he : EX X W e de) (hd : (n == ("__debug__" : Str)) = false := by decide)
    (hs : starEach [e, .Name n p2] X.env = (false, eval e X.env) :: starEach [.Name n p2] X.env := by rfl) (hpl : (backTo pos (starEach [.Name n p2] X.env)).any (·.1) = false := by rfl) (hs2 : starEach [.Name n p2] X.env = (false, eval (.Name n p2) X.env) :: starEach [] X.env := by rfl) :
    EX X W (.Call (.Name "isinstance" p) [e, .Name n p2] [] pos) (dIsiC n de) := by
  obtain ⟨C, q1, q2, _⟩ := id h.ex
  exact ex_cb (callP_isiC h) hg1 hm hv (ax_cons he (ax_cons (ex_glob (w := .ref C) hg2 q2 rfl (fun _ _ => ⟨C, q1, rfl⟩) hd) ax_nil hs2) hs) (by decide) (by decide) hs hpl
/-- name += number -/
@[simp] def sAugI (f : Int → Int → Int) (i : Nat) (d : Den) : SDen := fun ρ S => match ρ[i]? with
  | some (some (.int a)) => stE (d ρ S) ρ fun y S1 => match y with
    | .int b => .nx (ρ.set i (some (.int (f a b)))) S1
    | _ => .stuck
  | _ => .stuck
theorem sx_augI {f : Int → Int → Int} {i : Nat} {x : Str} {op : Operator} {pos' : Pos} (ho : PIp X op (ipI f)) (hN : X.N.Nodup) (hi : X.N[i]? = some x) (hx : Loc X.env.scope x) (he : EX X W e de)
    (hf : X.fn x = true ∨ X.env.scope.names.lookup x = some .local := by first | exact .inl rfl | exact .inr rfl | assumption) : SX X W (.AugAssign (.Name x pos') op e pos) (sAugI f i de) :=
  (ps_aug hN hi hx he ho hf).imp fun D σ H ⟨ω, S, ρ, fr, o⟩ => by
    unfold sAugI at o
    split at o
    · rename_i a ha
      obtain ⟨v, h1, h2⟩ := fr.2.2 i (.int a) ha
      cases (show v = V.int a from h2)
      refine ⟨.int a, h1, ω, S, ρ, fr, (SoP.ex fr o).imp fun y S1 H1 ω1 s1 t1 o1 w rw => ?_⟩
      split at o1
      · rename_i b
        cases (show w = V.int b from rw)
        refine ⟨a, b, rfl, rfl, ?_⟩
        have f1 := fr.later s1 t1
        exact o1 _ H1 ω1 .refl ⟨f1.1, f1.2.set rfl⟩
      · exact o1.elim
    · exact o.elim
end
end Pv

/-! int of a text; tuples of texts by <= -/
namespace Pv
open PySem PySem.Spec L2 PyProof.Rows
variable [HW]
/-- int(..), of a text too -/
@[simp] def cIntS : PC' := fun S xs => match xs with
  | [.str a] => if a.length ≤ 640 then (PySem.intText? a).map .int else none
  | _ => cInt S xs
section
variable {X : Cx}
theorem callP_intS : CallP X (.type "int") cIntS := by
  intro pins s σ H vs us Q I r ⟨ω, S, ps, r', t, rv, e, k⟩
  unfold cIntS at e
  split at e
  · rename_i a
    split at e
    · rename_i hl
      obtain ⟨n, hn, rfl⟩ := Option.map_eq_some_iff.mp e
      obtain ⟨v, rfl, rx⟩ := rv.one
      cases (show v = V.str a from rx)
      exact call_int_str pins s σ H _ us Q I r ⟨a, n, rfl, hn, hl, k _ _ .refl t rfl⟩
    · cases e
  · exact callP_int pins s σ H vs us Q I r ⟨ω, S, _, _, t, rv, e, k⟩
end
theorem strs_at : ∀ {us : List Value} {xs : List Str}, Vals (xs.map V.str) us → ∀ (i : Nat) (v : Value), us[i]? = some v → ∃ t, v = .str (xs.getD i Str.empty) t
  | _, [], .nil, i, v, h => by simp at h
  | _, x :: xs, .cons ⟨t, e⟩ hr, 0, v, h => ⟨t, by simp at h; rw [← h, e]; rfl⟩
  | _, x :: xs, .cons _ hr, i + 1, v, h => let ⟨t', e⟩ := strs_at hr i v (by simpa using h); ⟨t', by simpa using e⟩
def leTxt (as bs : List Str) : Bool := Ob.lexAt (fun j => as.getD j Str.empty == bs.getD j Str.empty) (fun j => !decide ((bs.getD j Str.empty).cps.toList < (as.getD j Str.empty).cps.toList)) (decide (as.length ≤ bs.length)) 0 (min as.length bs.length)
/-- x <= y, of tuples of texts too -/
@[simp] def pLeT : P2 := fun S x y => match x, y with
  | .tup xs, .tup ys => (txts xs).bind fun as => (txts ys).map fun bs => .bl (leTxt as bs)
  | _, _ => pLe S x y
section
variable {X : Cx}
theorem opP_leT (hu : X.A.units < cLine) : OpP X (compareOp .LtE) pLeT := by
  intro pins s σ H x y v u Q I rx ry ⟨ω, S, px, py, r, t, r1, r2, e, k⟩
  unfold pLeT at e
  split at e
  · rename_i xs ys
    obtain ⟨as, h1, e⟩ := Option.bind_eq_some_iff.mp e
    obtain ⟨bs, h2, rfl⟩ := Option.map_eq_some_iff.mp e
    obtain ⟨a, vs, rfl, ha, q1⟩ := tup_of r1
    obtain ⟨b, ws, rfl, hb, q2⟩ := tup_of r2
    cases rx
    cases ry
    rw [txts_vals q1 h1] at ha
    rw [txts_vals q2 h2] at hb
    obtain ⟨its, g1, p1, _⟩ := I.tuple ha
    obtain ⟨its2, g2, p2, _⟩ := I.tuple hb
    have l1 : its.toArray.size = as.length := by rw [List.size_toArray]; have := g1.length; rw [List.length_map] at this; exact this.symm
    have l2 : its2.toArray.size = bs.length := by rw [List.size_toArray]; have := g2.length; rw [List.length_map] at this; exact this.symm
    have at1 : ∀ j (h : j < its.toArray.size), ∃ t, its.toArray[j] = .str (as.getD j Str.empty) t := fun j h => strs_at g1 j _ (by simp at h; simp [h])
    have at2 : ∀ j (h : j < its2.toArray.size), ∃ t, its2.toArray[j] = .str (bs.getD j Str.empty) t := fun j h => strs_at g2 j _ (by simp at h; simp [h])
    have R := Ob.RcOp.tuples_le (A := X.A) (s := s) (e := fun j => as.getD j Str.empty == bs.getD j Str.empty) (r := fun j => !decide ((bs.getD j Str.empty).cps.toList < (as.getD j Str.empty).cps.toList)) p1 p2 hu (fun j h1 h2 => by
      obtain ⟨t, et⟩ := at1 j h1
      obtain ⟨t', et'⟩ := at2 j h2
      rw [et, et']
      exact SeqAt.EqAt.str_str _ _ _ _) (fun j h1 h2 _ => by
      obtain ⟨t, et⟩ := at1 j h1
      obtain ⟨t', et'⟩ := at2 j h2
      rw [et, et']
      exact fun _ _ _ _ h => PySem.P.le_str h)
    rw [l1, l2] at R
    exact R X.prog X.w X.xe (EP X pins σ Q) ⟨.bl (leTxt as bs), H, I, rfl, k _ _ .refl t rfl⟩
  · exact opP_le pins s σ H x y v u Q I rx ry ⟨ω, S, px, py, r, t, r1, r2, e, k⟩
end
end Pv

/-! enumerate of a tuple, of a list -/
namespace DT
open PySem PySem.Spec PyProof.Rows
section
variable {P : Program} {w : World} {A : Around} {E : Value → Shared → Prop} {s : Shared}
/-- a tuple's iterator gives its next item -/
theorem tup_next {it a : Addr} {j : Nat} {vs : Array Value} {x : Value} {Q : Value → Shared → Prop} (hi : s.heap.IsTupleIter it a j) (ha : s.heap.IsTuple a vs) (hx : vs[j]? = some x)
    (k : ∀ h', h'.IsTupleIter it a (j + 1) → Heap.SameBut it s.heap h' → Q x { s with heap := h' }) : wpAny (model P w) A (Builtin.SmallTypes.nextOf (.ref it)) Q E s := by
  obtain ⟨oi, g1, g2, g3⟩ := id hi
  obtain ⟨oa, f1, _, n, f2⟩ := ha
  unfold Builtin.SmallTypes.nextOf
  apply wpAny_bind
  apply wpAny_callSpecial?_slot (name := Str.ofString "__next__") hi.typeIs F.slot_tuple_iterator_next
  apply wpAny_call_entry F.slot_tuple_iterator_next hi.typeIs F.entry_tuple_iterator_next ?_ (F.args_tuple_iterator_next_1 _)
  show wpAny _ _ (field (.ref it) 0 >>= _) _ _ s
  apply wpAny_bind
  apply wpAny_field g1 g3 (x := .ref a) rfl
  have nn : ¬ ((Value.ref a == Value.none) = true) := Bool.false_ne_true
  show wpAny _ _ (if (Value.ref a == Value.none) = true then _ else _) _ _ s
  rw [if_neg nn]
  show wpAny _ _ (field (.ref it) 1 >>= _) _ _ s
  apply wpAny_bind
  apply wpAny_field g1 g3 (x := .int j 0) rfl
  show wpAny _ _ (seqItems? (.ref a) >>= _) _ _ s
  apply wpAny_bind
  apply wpAny_seqItems f1 f2
  simp only [Int.toNat_natCast, hx]
  apply wpAny_bind
  apply wpAny_setField g1 g3 (by simp)
  refine wpAny_pure ⟨x, rfl, wpAny_pure (k _ ⟨_, Heap.get?_update_self _ g1 (Obj.isFreed_of_fields (Obj.data_mapFields g3 _)), (Obj.cls_mapFields ..).trans g2, ?_⟩ (Heap.SameBut.update ..))⟩
  rw [Obj.data_mapFields g3]
  simp [rawInt]
/-- .. or is at its end -/
theorem tup_over {it a : Addr} {j : Nat} {vs : Array Value} {Q : Value → Shared → Prop} (hc : A.handled = none) (hi : s.heap.IsTupleIter it a j) (ha : s.heap.IsTuple a vs) (hx : vs[j]? = none)
    (k : ∀ h' e, Heap.ExtBut it s.heap h' → (∃ o, h'.get? e = some o ∧ o.cls = .type "StopIteration") → E (.ref e) { s with heap := h' }) : wpAny (model P w) A (Builtin.SmallTypes.nextOf (.ref it)) Q E s := by
  obtain ⟨oi, g1, g2, g3⟩ := id hi
  obtain ⟨oa, f1, _, n, f2⟩ := ha
  unfold Builtin.SmallTypes.nextOf
  apply wpAny_bind
  apply wpAny_callSpecial?_slot (name := Str.ofString "__next__") hi.typeIs F.slot_tuple_iterator_next
  apply wpAny_call_entry F.slot_tuple_iterator_next hi.typeIs F.entry_tuple_iterator_next ?_ (F.args_tuple_iterator_next_1 _)
  show wpAny _ _ (field (.ref it) 0 >>= _) _ _ s
  apply wpAny_bind
  apply wpAny_field g1 g3 (x := .ref a) rfl
  have nn : ¬ ((Value.ref a == Value.none) = true) := Bool.false_ne_true
  show wpAny _ _ (if (Value.ref a == Value.none) = true then _ else _) _ _ s
  rw [if_neg nn]
  show wpAny _ _ (field (.ref it) 1 >>= _) _ _ s
  apply wpAny_bind
  apply wpAny_field g1 g3 (x := .int j 0) rfl
  show wpAny _ _ (seqItems? (.ref a) >>= _) _ _ s
  apply wpAny_bind
  apply wpAny_seqItems f1 f2
  simp only [Int.toNat_natCast, hx]
  apply wpAny_bind
  apply wpAny_rule
  apply wpAny_bind
  apply wpAny_setField g1 g3 (by simp)
  show wpAny _ _ (newExc (.type "StopIteration") [] >>= _) _ _ _
  apply wpAny_bind
  simp only [newExc, newTuple]
  apply wpAny_bind
  apply wpAny_newObj_type _ (by size_fits)
  refine wpAny_bind (m := firstArgMember _ _) (wpAny_of_eq (a := Value.none) (by first | rfl | (simp only [firstArgMember]; rfl)) ?_)
  apply wpAny_newObj_type _ (by size_fits)
  simp only [raiseNew]
  apply wpAny_bind
  apply wpAny_handled
  first | rw [show A.in1.handled = none from hc] | rw [hc]
  exact wpAny_bind (wpAny_pure (wpAny_throw (k _ _ (((Heap.SameBut.update ..).extBut.push _).push _) ⟨_, Heap.get?_push_size _ rfl, rfl⟩)))
end
theorem draws_tup {P : Program} {w : World} {A : Around} (hc : A.handled = none) (it a : Addr) (hne : a ≠ it) (vs : Array Value) : Draws P w A it [it, a] vs.size (fun i v => vs[i]? = some v) (fun i h => h.IsTupleIter it a i ∧ h.IsTuple a vs) where
  live := fun _ _ ⟨⟨o, e, _⟩, _⟩ => ⟨o, e⟩
  frame := fun _ _ _ ⟨x, y⟩ kk => ⟨x.at fun o e => kk it (by simp) o e, y.at fun o e => kk a (by simp) o e⟩
  item := fun i s Q E hi ⟨x, y⟩ hQ => tup_next x y (x := vs[i]) (by simp [hi]) fun h' x' sb => hQ _ h' s.toks (by simp [hi]) ⟨x', y.extBut sb.extBut hne⟩ sb
  done := fun s Q E ⟨x, y⟩ hE => tup_over hc x y (by simp) hE
abbrev tupIt (a : Addr) : Obj := { cls := .type "tuple_iterator", data := .fields #[.ref a, .int 0 0] }
abbrev enumOf (it : Addr) : Obj := { cls := .type "enumerate", data := .fields #[.none, .bool false, .ref it, rawInt 0, .none, .none] }
theorem enum_new (a : Addr) (vs : Array Value) (o : Obj) (n : Nat) (hc : o.cls = .type "tuple") (hd : o.data = .seq vs n) : Meets (Builtin.«enumerate.__new__» ⟨[.type "enumerate", .ref a], []⟩) (fun _ R s => s.heap.get? a = some o ∧
    R (.ok (.ret (.ref (s.heap.push (tupIt a)).objs.size))) { s with heap := (s.heap.push (tupIt a)).push (enumOf s.heap.objs.size) }) :=
  .of_wp fun prog w A R s h => by
    obtain ⟨hp, g, d, tk, os⟩ := s
    obtain ⟨hl, h⟩ := h
    have below := sub_enumerate
    have isT : Heap.IsTuple (Shared.heap ⟨hp, g, d, tk, os⟩) a vs := ⟨o, hl, hc, n, hd⟩
    wp_walk using AutoSeq1.wpAny_loadPart' hl
    refine wpAny_stack_any fun st => wpAny_pure ?_
    split
    · rename_i c _ _ _ _ _
      cases (c == Value.type "enumerate") <;> (wp_walk using AutoSeq1.wpAny_loadPart' hl, wpAny_pyIter_tuple isT; exact ⟨_, rfl, h⟩)
    · wp_walk using AutoSeq1.wpAny_loadPart' hl, wpAny_pyIter_tuple isT
      exact ⟨_, rfl, h⟩
theorem call_enum {P : Program} {w : World} {A : Around} {E : Value → Shared → Prop} {s : Shared} {a : Addr} {vs : Array Value} {Q : Value → Shared → Prop} (ha : s.heap.IsTuple a vs)
    (k : ∀ h', IsEnum h' (s.heap.objs.size + 1) s.heap.objs.size 0 .none → h'.IsTupleIter s.heap.objs.size a 0 → (∀ b o, s.heap.get? b = some o → h'.get? b = some o) → Q (.ref (s.heap.objs.size + 1)) { s with heap := h' }) :
    wpAny (model P w) A (call (.type "enumerate") [.ref a]) Q E s := by
  obtain ⟨o, ho, hc, n, hd⟩ := ha
  have z : (s.heap.push (tupIt a)).objs.size = s.heap.objs.size + 1 := Heap.size_push ..
  have e : IsEnum ((s.heap.push (tupIt a)).push (enumOf s.heap.objs.size)) (s.heap.objs.size + 1) s.heap.objs.size 0 .none := by
    have q := Heap.get?_push_size (s.heap.push (tupIt a)) (o := enumOf s.heap.objs.size) rfl
    rw [z] at q
    exact q
  refine callType_new F.called_enumerate (by decide) (F.typeCall_enumerate_1 _) (F.newCall_enumerate_1 _) (fun obj => F.args_object_init_2 obj _) F.entry_enumerate_new (enum_new a vs o n hc hd) ⟨ho, ?_⟩
  show _ ∧ _
  rw [z]
  exact ⟨⟨_, e, rfl⟩, k _ e ⟨_, Heap.get?_push_of_some _ (Heap.get?_push_size _ rfl), rfl, rfl⟩ fun b o x => Heap.get?_push_of_some _ (Heap.get?_push_of_some _ x)⟩
end DT

/-! walks by enumerate -/
namespace Pv
open PySem PySem.Spec L2 PyProof.Rows
variable [HW]
/-- the tuple at a, its items with their places -/
def Ien (K : PySem.W.Frag) (a : Addr) : It :=
  ⟨fun i H => ∃ (xs : List V) (x : V), SqT K H a xs ∧ xs[i]? = some x, fun i H v H' => ∃ T x, v = .ref T ∧ H T = none ∧ H' = upd H T (.tup [.int (i : Nat), x]) ∧ ∀ xs, SqT K H a xs → xs[i]? = some x, fun i H => ∃ xs, SqT K H a xs ∧ xs.length = i⟩
theorem enum_apart {h : Heap} {e it a : Addr} {i : Int} {old : Value} {vs : Array Value} (x : IsEnum h e it i old) (y : h.IsTuple a vs) : e ≠ a := fun z => by
  subst z
  obtain ⟨o, h1, h2, _⟩ := y
  have q := (show h.get? e = some _ from x)
  rw [h1] at q
  cases q
  injection h2 with z
  exact absurd z (by decide)
theorem iter_apart {h : Heap} {it a : Addr} {i : Nat} {vs : Array Value} (x : h.IsTupleIter it a i) (y : h.IsTuple a vs) : a ≠ it := fun z => by
  subst z
  obtain ⟨o, h1, h2, _⟩ := y
  obtain ⟨o2, g1, g2, _⟩ := x
  rw [h1] at g1
  cases g1
  rw [h2] at g2
  injection g2 with z
  exact absurd z (by decide)
theorem turn_en {P : Program} {w : World} {K : PySem.W.Frag} {elts : List Expr} {kk : Nat} {tpos : Pos} (a e it : Addr) :
    Turn P w K (.Tuple elts kk tpos) (Ien K a) [e, it] e (fun i h => (∃ old, IsEnum h e it ((i : Nat) : Int) old) ∧ h.IsTupleIter it a i ∧ e ≠ it) where
  mem := by simp
  obj := fun i h ⟨⟨old, x⟩, ⟨o, y, c, d⟩, _⟩ b hb => by
    rcases (show b = e ∨ b = it by simpa using hb) with rfl | rfl
    · exact ⟨_, x, fun v q => nomatch q⟩
    · exact ⟨o, y, fun v q => by rw [d] at q; cases q⟩
  keep := fun i h h' ⟨⟨old, x⟩, y, ne⟩ k => ⟨⟨old, k e (by simp) _ x⟩, y.at fun o q => k it (by simp) o q, ne⟩
  item := by
    intro X hP hw hK hc i pins s σ H E I hf st hg
    subst hP hw hK
    obtain ⟨⟨old, he⟩, hit, hne⟩ := st
    obtain ⟨xs, x, hq, hx⟩ := hg
    obtain ⟨its, rv, p, hz⟩ := I.tuple hq
    have isT : s.heap.IsTuple a its.toArray := p
    obtain ⟨u, hu, ru⟩ := rv.get hx
    have lt : i < its.toArray.size := by
      have := (List.getElem?_eq_some_iff.mp hu).1
      simpa using this
    have le : e < s.heap.objs.size := Heap.lt_size he
    have li : it < s.heap.objs.size := by obtain ⟨_, q, _⟩ := hit; exact Heap.lt_size q
    have ea := enum_apart he isT
    refine wpAny_pyNext_enum_itemD (DT.draws_tup (A := X.A.in1) (show X.A.in1.handled = none from I.ok.hd hc) it a (iter_apart hit isT) its.toArray) he ⟨hit, isT⟩ lt hne (by simp [hne, ea]) fun y h' tk hy ho hst hT hsz kp => ?_
    have ey : y = u := by
      have : its.toArray[i]? = some u := by simpa using hu
      rw [this] at hy
      exact (Option.some.inj hy).symm
    subst ey
    refine ⟨_, rfl, wpAny_letOwnedTupleGo_enum (s := { s with heap := h', toks := tk + 1 }) ho fun h2 he2 sb => ?_⟩
    have hT2 : h2.get? s.heap.objs.size = some { cls := .type "tuple", data := .seq #[.int i tk, y] } := (sb.2 _ (Nat.ne_of_gt le)).trans hT
    have fresh : ObjOk X.prog X.w (upd H s.heap.objs.size (.tup [.int (i : Nat), x])) h2 s.heap.objs.size (.tup [.int (i : Nat), x]) :=
      ⟨by show 2 ≤ sizeLine; decide, [.int i tk, y], .cons ⟨_, rfl⟩ (.cons ru .nil), ⟨_, hT2, rfl, _, rfl⟩⟩
    have I2 : L2.Inv X pins σ (upd H s.heap.objs.size (.tup [.int (i : Nat), x])) { s with heap := h2, toks := tk + 1 } :=
      I.turnedNew (ch := [e, it]) (fun b ob hb q => (sb.2 b (fun z => hb (by simp [z]))).trans (kp b ob (fun z => hb (by simp [z])) (fun z => hb (by simp [z])) q)) hf (Nat.le_refl _) fresh
    have e1 : ((i + 1 : Nat) : Int) = (i : Int) + 1 := by omega
    refine ⟨.ref s.heap.objs.size, _, I2, rfl, ⟨_, x, rfl, I.hok.fresh (Nat.le_refl _), rfl, fun l hl => by rw [I.tuple_inj hl hq]; exact hx⟩, ⟨⟨y, by rw [e1]; exact he2⟩, hst.1.at fun o q => (sb.2 it (Ne.symm hne)).trans q, hne⟩, fun b hb => ?_⟩
    have hb' : b < s.heap.objs.size := by
      rcases (show b = e ∨ b = it by simpa using hb) with z | z <;> rw [z]
      · exact le
      · exact li
    rw [upd_ne (Nat.ne_of_lt hb')]
    exact (hf b hb).1
  done := by
    intro X hP hw hK hc i pins s σ H E I hf st hg
    subst hP hw hK
    obtain ⟨⟨old, he⟩, hit, hne⟩ := st
    obtain ⟨xs, hq, hx⟩ := hg
    obtain ⟨its, rv, p, hz⟩ := I.tuple hq
    have isT : s.heap.IsTuple a its.toArray := p
    obtain ⟨f0, f1, f2, f3, f4, f5⟩ := hf it (by simp)
    have hit' : s.heap.IsTupleIter it a its.toArray.size := by
      have := rv.length
      rw [List.size_toArray, ← this, hx]; exact hit
    exact wpAny_pyNext_enum_endD (DT.draws_tup (A := X.A.in1) (show X.A.in1.handled = none from I.ok.hd hc) it a (iter_apart hit isT) its.toArray) he ⟨hit', isT⟩ fun h' eb => ⟨rfl, I.turned (t' := s.toks) (fun b o hb q => eb b o hb q) f0 f1 f3 f4 f5⟩
  self := fun A i s Q E ⟨⟨_, x⟩, _⟩ h => wpAny_pyIter_enum x h
/-- the items with their places -/
def numd (xs : List PV) : List PV := xs.mapIdx fun i x => .tup [.int (i : Nat), x]
theorem numd_len (xs : List PV) : (numd xs).length = xs.length := by simp [numd]
theorem numd_get {xs : List PV} {i : Nat} {x : PV} (h : xs[i]? = some x) : (numd xs)[i]? = some (.tup [.int (i : Nat), x]) := by
  unfold numd
  rw [List.getElem?_mapIdx, h]
  rfl
theorem walks_en {K : PySem.W.Frag} {ω : Ad} {H : Hp} {a : Addr} {xs : List PV} {vs : List V} (h : H a = some (.tup vs)) (r : RpL K H ω xs vs) : Walks K (Ien K a) ω H (numd xs) where
  go := fun i ω' S H' hi s t => by
    rw [numd_len, r.length] at hi
    exact ⟨vs, vs[i], .of (s.tp a _ h), List.getElem?_eq_getElem hi⟩
  stop := fun i ω' S H' hi s t => ⟨vs, .of (s.tp a _ h), by rw [hi, numd_len, r.length]⟩
  yld := fun i ω' S H' x H2 hi s t ⟨T, v, e1, hT, e2, hx⟩ => by
    subst e1 e2
    have st : Stp ω' H' ω' (upd H' T (.tup [.int (i : Nat), v])) := new_stp hT
    obtain ⟨y, h1, h2⟩ := r.get' (hx vs (.of (s.tp a _ h)))
    exact ⟨st, open_str (new_str t hT), _, numd_get h1, T, _, rfl, upd_same, ⟨_, _, rfl, rfl, _, _, rfl, (h2.up s.up).up st.up, rfl⟩⟩
/-- enumerate(e), e a tuple -/
@[simp] def iEnum (d : Den) : DenA := fun ρ S => (d ρ S).then fun x S1 => match x with
  | .tup xs => .ok (numd xs) S1
  | _ => .stuck
def fEnum : PV → Option (List PV)
  | .tup xs => some (numd xs)
  | _ => none
theorem iEnum_eq (de : Den) : iEnum de = fun ρ S => (de ρ S).then fun x S1 => optL (fEnum x) S1 := by
  funext ρ S
  unfold iEnum
  cases de ρ S with
  | ok x S1 => cases x <;> rfl
  | exc x S1 => rfl
  | stuck => rfl
theorem ix_enum {X : Cx} {W : WX} {e : Expr} {de : Den} {p pos tpos : Pos} {elts : List Expr} {kk : Nat} (he : EX X W e de) (hg : Gl X "enumerate") (hm : X.mg "enumerate" = none) (hs : starEach [e] X.env = [(false, eval e X.env)] := by rfl) :
    IX X W (.Tuple elts kk tpos) (.Call (.Name "enumerate" p) [e] [] pos) (iEnum de) := by
  rw [iEnum_eq]
  refine ⟨fun pins s σ H R I h => ?_⟩
  refine Call_ (ld_blt I hg hm boot_enumerate (PyProof.Rows.callWith_type1 ?_ hs rfl))
  rw [hs]
  show wpAny _ _ (spliced (backTo pos [(false, eval e X.env)])) _ _ s
  apply Calls.spliced_cons
  refine ix_run (f := fEnum) he I h fun v u s1 H1 ω1 S1 ρ x xs I1 t1 rx rv hf kk2 => ?_
  apply Calls.spliced_nil
  cases x <;> first | (cases hf; done) | skip
  cases hf
  obtain ⟨a, vs, rfl, ha, rr⟩ := rx
  cases rv
  obtain ⟨its, q, p', hz⟩ := I1.tuple (SqT.of ha)
  have isT : s1.heap.IsTuple a its.toArray := p'
  refine DT.call_enum isT fun h' x1 x2 kp => wpAny_pyIter_enum x1 ?_
  have I2 : L2.Inv X pins σ H1 { s1 with heap := h' } := I1.kept (t' := s1.toks) kp
  refine ⟨s1.heap.objs.size + 1, [s1.heap.objs.size + 1, s1.heap.objs.size], _, _, H1, rfl, I2, turn_en a (s1.heap.objs.size + 1) s1.heap.objs.size, ⟨⟨.none, x1⟩, x2, Nat.succ_ne_self _⟩, fun b hb => ?_, kk2 ω1 H1 .refl t1 _ (walks_en ha rr)⟩
  have big : s1.heap.objs.size ≤ b := by
    rcases (show b = s1.heap.objs.size + 1 ∨ b = s1.heap.objs.size by simpa using hb) with z | z <;> rw [z]
    · exact Nat.le_add_right _ _
    · exact Nat.le_refl _
  exact I1.fpOk big (I1.hok.fresh big)
end Pv

/-! classmethods that take all that is left as a tuple -/
namespace Pv
open PySem PySem.Spec L2 PyProof.Rows
variable [HW]
theorem big_line48 : (1048576 : Nat) ≤ sizeLine := by rw [sizeLine_eq]; decide
/-- n places, the rest in a new tuple -/
def spSt (K : PySem.W.Frag) (n : Nat) (F : FDen) : Sp := fun vs H Q E => ∃ ws rest, vs = ws ++ rest ∧ ws.length = n ∧ rest.length ≤ sizeLine ∧ ∀ p, H p = none → spF K (n + 1) F (ws ++ [V.ref p]) (upd H p (.tup rest)) Q E
/-- a classmethod def m(cls, *rest) of C -/
structure FnC (P : Program) (w : World) (K : PySem.W.Frag) (mg : Str → Option Value) (base : Heap) (k : Nat) (C m : Str) (F : FDen) : Prop where
  ex : ∃ (c p g : Addr) (mc : Value), clA K C = some c ∧ mg C = some (.ref c) ∧ ClX.CRead K c mc ∧ ClX.CMet K c mc m p g ∧ FnR P w K mg base (L2.CX P w) k g (spSt K 1 F)
theorem FnC.gc {P : Program} {w : World} {K : PySem.W.Frag} {mg : Str → Option Value} {base : Heap} {k : Nat} {C m : Str} {F : FDen} (h : FnC P w K mg base k C m F) : FnC P w K mg base k C m (gcF F) := by
  obtain ⟨c, p, g, mc, a, b, d, e, G⟩ := h.ex
  refine ⟨c, p, g, mc, a, b, d, e, fun A outer s H us vs Q E hr e0 r ⟨ws, rest, e1, e2, e3, f⟩ => G A outer s H us vs Q E hr e0 r ⟨ws, rest, e1, e2, e3, fun q hq => ?_⟩⟩
  obtain ⟨hl, ω, S, qs, t, rr, o⟩ := f q hq
  exact ⟨hl, ω, S, qs, t, rr, gc_out t o⟩
@[simp] def dCMeth (C : Str) (F : FDen) (das : DenA) : Den := fun ρ S => (das ρ S).then fun xs S1 => if xs.length ≤ 1000 then F [.cls C, .tup xs] S1 else .stuck
section
variable {X : Cx} {W : WX} {CX : CXT} {k : Nat} {C p g : Addr} {mc : Value} {sp : Sp} {E : L2.St → XK} {o e : Expr} {es : List Expr} {f m : Str} {pos apos np : Pos} {ta : TE} {t : TA} {pl : Sem Bool} {das : DenA} {n : Str} {F : FDen}
theorem run_fnRS {pins : List (Addr × Obj)} {σ : L2.St} {H : Hp} {s : Shared} {Q : VK} {us : List Value} {vs : List V} (F : FnR X.prog X.w X.K X.mg X.base CX k g sp) (hr : Room k X.A) (hx : PassesAt CX X σ (E σ)) (I : L2.Inv X pins σ H s) (r : Vals vs us)
    (h : sp vs H Q (E σ)) : codeAny (model X.prog X.w) X.A (.call (.ref g) ⟨us, []⟩) (fun r s' => match r with | .ok (.ret v) => EP X pins σ Q v s' | .ok _ => False | .error e => X.xe e s') s :=
  codeAny_mono (F X.A X.stack s H us vs Q (E σ) hr I.env0 r h) fun r s' hq => by
    cases r with
    | error e => exact hx pins H s e s' I hq
    | ok fl =>
      cases fl with
      | ret u => exact I.after hq
      | next => exact hq.elim
      | brk => exact hq.elim
      | cont => exact hq.elim
def tCMethS (C : Addr) (sp : Sp) (E : L2.St → XK) (t : TA) : TE := fun σ H Q => t σ H fun vs H2 => sp (.ref C :: vs) H2 Q (E σ)
theorem pe_cmethS (he : PE X o (fun σ H Q => Q (.ref C) H)) (r : ClX.CRead X.K C mc) (c : ClX.CMet X.K C mc m p g) (F : FnR X.prog X.w X.K X.mg X.base CX k g sp) (hr : Room k X.A) (hx : ∀ σ, PassesAt CX X σ (E σ)) (ha : PA X (e :: es) t)
    (hst : starEach (e :: es) X.env = (false, eval e X.env) :: starEach es X.env := by rfl) (hpl : (backTo pos (starEach es X.env)).any (·.1) = false := by rfl)
    (ht : eval (.Call (.Attribute o m apos) (e :: es) [] pos) X.env = (do
      let ov ← eval o X.env
      standAt apos.atName
      let (f, first) ← holding [ov] (getMethod ov m pl)
      callWith pos f first (backTo pos (starEach (e :: es) X.env)) (backToKw pos (keywordEach [] X.env))) := by rfl) :
    PE X (.Call (.Attribute o m apos) (e :: es) [] pos) (tCMethS C sp E t) := by
  refine ⟨fun pins s σ H Q I h => PySem.W.methodCall_KW (pl := pl) (thn (he.run pins s σ H (fun v H1 => v = .ref C ∧ H1 = H) I ⟨rfl, rfl⟩) fun u s1 ⟨x, H1, I1, rx, ex, eh⟩ => ?_) ht⟩
  subst ex eh
  obtain rfl : u = Value.ref C := rx
  refine ClX.getmethcm_ok I1 r c fun s2 I2 => ClX.callwith_cm I2 (ClX.base_none I1 (Nat.le_refl _)) c.fi (thn (ha.run pos _ s2 σ H1 _ I2 h) fun us s3 ⟨vs, H2, I3, rv, q2⟩ => ⟨⟨ClX.pin_at I3, I3.kIn⟩, ?_⟩) hst hpl
  exact thn (wpAny_call (PySem.W.method_call (ClX.pin_at I3) (run_fnRS (us := .ref C :: us) (vs := .ref C :: vs) F hr (hx σ) I3 (.cons rfl rv) q2))) fun _ _ y => ClX.unpinE y
theorem ex_cmeth (G : FnC X.prog X.w X.K X.mg X.base k n m F) (hr : Room k X.A) (tk : Takes X W) (hg : Gl X n) (ha : AX X W (e :: es) das) (hd : (n == ("__debug__" : Str)) = false := by decide)
    (hst : starEach (e :: es) X.env = (false, eval e X.env) :: starEach es X.env := by rfl) (hpl : (backTo pos (starEach es X.env)).any (·.1) = false := by rfl)
    (ht : eval (.Call (.Attribute (.Name n np) m apos) (e :: es) [] pos) X.env = (do
      let ov ← eval (.Name n np) X.env
      standAt apos.atName
      let (f, first) ← holding [ov] (getMethod ov m pl)
      callWith pos f first (backTo pos (starEach (e :: es) X.env)) (backToKw pos (keywordEach [] X.env))) := by rfl) :
    EX X W (.Call (.Attribute (.Name n np) m apos) (e :: es) [] pos) (dCMeth n F das) := by
  obtain ⟨c, p, g, mc, hc, hm, r, cm, G⟩ := G.ex
  refine (pe_cmethS (E := fun σ c d H' => W c d σ H') (pe_glob (v := .ref c) hg hm rfl hd) r cm G hr (passAt' tk) ha hst hpl ht).imp fun σ H Q ⟨ω, S, ρ, fr, o⟩ => ⟨ω, S, ρ, fr, (OutP.bind o).imp fun xs S2 H2 ω2 s2 t2 o2 vs2 r2 => ?_⟩
  split at o2
  · rename_i hl
    have hz := big_line48
    refine ⟨[.ref c], vs2, rfl, rfl, by rw [← r2.length]; omega, fun q hq => ?_⟩
    have st := new_stp (ω := ω2) (o := .tup vs2) hq
    exact ⟨rfl, ω2, S2, [.cls n, .tup xs], open_str (new_str t2 hq), ⟨_, _, rfl, ⟨c, hc, rfl⟩, _, _, rfl, ⟨q, vs2, rfl, upd_same, r2.up st.up⟩, rfl⟩, OutP.later st o2⟩
  · exact o2.elim
end
end Pv

/-! making by a class that a name holds; star defs -/
namespace Pv
open PySem PySem.Spec L2 PyProof.Rows
variable [HW]
section
variable {X : Cx} {W : WX} {CX : CXT} {k i n : Nat} {f C : Addr} {fd : FuncData} {ps : List Str} {sp : Sp} {dvs : List V} {dus : List Value} {E : L2.St → XK} {x c : Str} {p pos : Pos} {e : Expr} {es : List Expr} {t : TA} {das : DenA} {ds : List PV} {F : FDen}
def tMakeL (i : Nat) (C : Addr) (sp : Sp) (dvs : List V) (E : L2.St → XK) (t : TA) : TE := fun σ H Q => σ[i]? = some (some (.ref C)) ∧ tMakeS C sp dvs E t σ H Q
theorem pe_makeL (M : Mk X.K C f) (F : FnOk X.prog X.w X.K X.mg X.base CX k f fd ps sp) (hr : Room (k + 1) X.A) (hN : X.N[i]? = some x) (hv : Vis X.env.scope x) (hb : Binds X.K fd ps dus) (hd : Vals dvs dus) (hx : ∀ σ, PassesAt CX X σ (E σ)) (ha : PA X (e :: es) t)
    (hdb : (x == ("__debug__" : Str)) = false := by decide) (hcd : (x == ("__classdict__" : Str)) = false := by decide)
    (he : starEach (e :: es) X.env = (false, eval e X.env) :: starEach es X.env := by rfl) (hpl : (backTo pos (starEach es X.env)).any (·.1) = false := by rfl) : PE X (.Call (.Name x p) (e :: es) [] pos) (tMakeL i C sp dvs E t) := by
  refine ⟨fun pins s σ H Q I ⟨hs, h⟩ => ?_⟩
  refine wpAny_Call_Name_kw (thn ((pe_var (pos := p) hN hv hdb hcd).run pins s σ H (fun v H1 => v = .ref C ∧ H1 = H) I ⟨.ref C, hs, rfl, rfl⟩) fun u s1 ⟨v, H1, I1, r1, q1⟩ => ?_)
  obtain ⟨rfl, rfl⟩ := q1
  cases r1
  exact PySem.W.callWith_K (h₀ := X.base) I.ok.mod.kin M.kp (thn (ha.run pos pins s1 σ _ _ I1 h) fun us s2 ⟨vs, H2, I2, r, q⟩ => ⟨I2.kIn, run_makeS M F hr hb hd (hx σ) I2 r q⟩) he hpl
/-- x(..), x a name that holds the class C -/
@[simp] def dMakeL (i : Nat) (c : Str) (F : FDen) (ds : List PV) (das : DenA) : Den := fun ρ S => match ρ[i]? with
  | some (some (.cls c')) => if c' = c then dMake c F ds das ρ S else .stuck
  | _ => .stuck
theorem ex_makeL (M : MkN X.K X.mg c) (G : FnM X.prog X.w X.K X.mg X.base k c "__init__" n ds F) (hr : Room (k + 1) X.A) (tk : Takes X W) (hN : X.N[i]? = some x) (hv : Vis X.env.scope x) (ha : AX X W (e :: es) das)
    (hdb : (x == ("__debug__" : Str)) = false := by decide) (hcd : (x == ("__classdict__" : Str)) = false := by decide)
    (he : starEach (e :: es) X.env = (false, eval e X.env) :: starEach es X.env := by rfl) (hpl : (backTo pos (starEach es X.env)).any (·.1) = false := by rfl) : EX X W (.Call (.Name x p) (e :: es) [] pos) (dMakeL i c F ds das) := by
  obtain ⟨cc, f, fd, ps, dvs, dus, G, hc, hm, hb, hd, hds, hl⟩ := G.ex
  obtain ⟨m1, m2, m3⟩ := M.ex cc hc
  refine (pe_makeL (E := fun σ c d H' => W c d σ H') ⟨m2, hm.at_, hm.fn, m3⟩ G hr hN hv hb hd (passAt' tk) ha hdb hcd he hpl).imp fun σ H Q ⟨ω, S, ρ, fr, o⟩ => ?_
  unfold dMakeL at o
  split at o
  · rename_i c' hi
    split at o
    · rename_i hcc
      subst hcc
      obtain ⟨v, h1, c2, h2, rfl⟩ := fr.2.2 i _ hi
      rw [hc] at h2; cases h2
      exact ⟨h1, make_P hc hds hl ⟨ω, S, ρ, fr, o⟩⟩
    · exact o.elim
  · exact o.elim
end
section
variable {P : Program} {w : World} {K : PySem.W.Frag} {mg : Str → Option Value} {base : Heap}
/-- def m(cls, *rest) -/
theorem fn_mkS {C m x qual p1 pv : Str} {st : Stmt} {c p g : Addr} {mc : Value} {fd : FuncData} {N : List Str} {k : Nat} {d : SDen} (G : L2.Fun K x qual st g fd) (S : FnScope N ([p1] ++ [pv]) (defScope st)) (hc : clA K C = some c) (hm : mg C = some (.ref c)) (r : ClX.CRead K c mc) (cm : ClX.CMet K c mc m p g)
    (hb : ∀ (kV doc pm : Value) (an : Option Addr) (cdv ct : Value) (us rest : List Value), us.length = 1 → bindArgs (PySem.W.fnOf x qual (defArgs st) (defBody st) (defScope st) .none kV doc pm an cdv ct) ⟨us ++ rest, []⟩ = (newTuple rest >>= fun t => pure ([p1].zip us ++ [(pv, t)])))
    (body : ∀ (cdv : Value) (A : Around) (outer : List Env) (s : Shared) (H : Hp) (E : XK), Room k (A.deeper (PyProof.Rows.envOfC qual (defScope st) s.heap.objs.size g cdv)) →
      Takes (cxOf (L2.CX P w) P w K mg base N qual (defScope st) g cdv A outer s H E) (fun c d _ H' => E c d H') →
      SsX (cxOf (L2.CX P w) P w K mg base N qual (defScope st) g cdv A outer s H E) (fun c d _ H' => E c d H') (defBody st) d) : FnC P w K mg base (k + 1) C m (callD N.length 2 d) := by
  obtain ⟨oc, od, kV, doc, pm, an, cdv, ct, osl, rfl, hl, hcd⟩ := G.ex
  refine ⟨⟨c, p, g, mc, hc, hm, r, cm, ?_⟩⟩
  refine StX.fn_star (ps := [p1]) (pv := pv) (sp := spF K 2 (callD N.length 2 d)) hl hcd S StX.cxUp (fun us rest h => hb _ _ _ _ _ _ us rest h) fun A outer s H vs Q E hr h => ?_
  obtain ⟨hl, ω, St, qs, t, rr, o⟩ := h
  have h2 : qs.length = 2 := by rw [rr.length]; exact hl
  refine ⟨_, body cdv A outer s H E hr (takes_of rfl rfl rfl rfl), ω, St, _, start_env N t rr 2 h2, ?_⟩
  unfold callD at o
  rw [if_pos h2] at o
  revert o
  show OutP K E ω H (match d (qs.map some ++ List.replicate (N.length - 2) none) St with
    | .nx _ S' => .ok .non S'
    | .rt v S' => .ok v S'
    | .exc x _ S' => .exc x S'
    | _ => .stuck) _ → _
  cases d (qs.map some ++ List.replicate (N.length - 2) none) St with
  | nx ρ S' => exact fun o σ H' ω' s f => o H' ω' s f.1 .non rfl
  | rt v S' => exact fun o u H' ω' s t r => o H' ω' s t u r
  | exc x ρ S' => exact fun o cv σ d H' ω' c s f e => o cv d H' ω' c s f.1 e
  | bk ρ S' => exact fun o => o.elim
  | ct ρ S' => exact fun o => o.elim
  | stuck => exact fun o => o.elim
end
end Pv

/-! a def's own cells become plain values in the midst of it -/
namespace Pv
open PySem PySem.Spec L2 PyProof.Rows
variable [HW]
@[simp] def fzEnv (n : Nat) (S : Store) (ρ : PEnv) : PEnv := ρ.map fun o => o.bind (fz n S 8)
/-- statements of a def's body, that know where the def began -/
abbrev SsZ (X : Cx) (W : WX) (st : List Stmt) (d : Nat → SDen) : Prop := PSs X st fun D σ H => ∃ ω0 S0 H0 ω S ρ, StR X.K ω0 S0 H0 ∧ Stp ω0 H0 ω H ∧ From X.K ρ S ω σ H ∧ SoP X.K W D ω0 H0 (d S0.length ρ S)
section
variable {X : Cx} {W : WX} {st : Stmt} {rest : List Stmt} {d1 d2 : SDen} {d : Nat → SDen}
@[simp] def zStart (d : Nat → SDen) : SDen := fun ρ S => d S.length ρ S
theorem sz_start (h : SsZ X W rest d) : SsX X W rest (zStart d) := h.imp fun D σ H ⟨ω, S, ρ, f, o⟩ => ⟨ω, S, H, ω, S, ρ, f.1, .refl, f, o⟩
@[simp] def zSeq (d1 : SDen) (d : Nat → SDen) : Nat → SDen := fun n => sSeq d1 (d n)
theorem sz_cons (h1 : SX X W st d1) (h2 : SsZ X W rest d) : SsZ X W (st :: rest) (zSeq d1 d) := (pss_cons h1 h2).imp fun D σ H ⟨ω0, S0, H0, ω, S, ρ, t0, s0, f, o⟩ => ⟨ω, S, ρ, f, by
  unfold zSeq sSeq at o
  revert o
  cases d1 ρ S with
  | nx ρ' S' => exact fun o σ' H' ω' s f' => ⟨ω0, S0, H0, ω', S', ρ', t0, s0.trans s, f', o⟩
  | rt v S' => exact fun o => SoP.later (o := .rt v S') s0 o
  | bk ρ' S' => exact fun o => SoP.later (o := .bk ρ' S') s0 o
  | ct ρ' S' => exact fun o => SoP.later (o := .ct ρ' S') s0 o
  | exc x ρ' S' => exact fun o => SoP.later (o := .exc x ρ' S') s0 o
  | stuck => exact id⟩
@[simp] def zFz (d : SDen) : Nat → SDen := fun n ρ S => match fzS n S (S.take n) with
  | some S' => d (fzEnv n S ρ) S'
  | none => .stuck
theorem sz_fz (h : SsX X W rest d1) : SsZ X W rest (zFz d1) := h.imp fun D σ H ⟨ω0, S0, H0, ω, S, ρ, t0, s0, f, o⟩ => by
  unfold zFz at o
  split at o
  · rename_i S' e
    obtain ⟨ex, e1, f1⟩ := s0.nu
    have s1 : Stp ω0 H0 ω0 H := ⟨⟨[], by simp, by simp⟩, rfl, s0.kp, s0.tr, s0.tp, s0.bk⟩
    have t1 := gc_str t0.len t0.nd t0.nb f.1 e1 s0.bl e
    refine ⟨ω0, S', _, ⟨t1, ⟨by simpa using f.2.1, fun i x hx => ?_⟩⟩, o.later s1⟩
    unfold fzEnv at hx
    rw [List.getElem?_map] at hx
    cases q : ρ[i]? with
    | none => rw [q] at hx; cases hx
    | some u =>
      rw [q] at hx
      cases u with
      | none => simp at hx
      | some y =>
        have hx : fz S0.length S 8 y = some x := by simpa using hx
        obtain ⟨v, hv, rv⟩ := f.2.2 i y q
        exact ⟨v, hv, (fz_ok f.1 e1 s0.bl 8).1 (by rw [t0.len]; exact hx) rv⟩
  · exact o.elim
end
end Pv

namespace Lw
open PySem PySem.Spec L2 Pv
/-! ### the text by places -/
def top (i : Nat) : Stmt := PySem.Challenge.pw_keptways_k11_whole_cuts_of_two_lots.main.body.getD i (.Pass ⟨0, 0, 0, 0⟩)
abbrev s_Net___contains__ : Stmt := inClass (top 28) 29
abbrev N_Net___contains__ : List Str := ["self", "value"]
abbrev s_is_integer : Stmt := top 5
abbrev N_is_integer : List Str := ["value"]
abbrev s_is_word : Stmt := top 7
abbrev N_is_word : List Str := ["value", "sign"]
abbrev s_ascending_rows : Stmt := top 10
abbrev N_ascending_rows : List Str := ["rows", "key"]
abbrev s_integer_of_word : Stmt := top 25
abbrev N_integer_of_word : List Str := ["word", "sign"]
abbrev s_require_net : Stmt := top 30
abbrev N_require_net : List Str := ["value"]
abbrev s_cut_in : Stmt := top 33
abbrev N_cut_in : List Str := ["net", "lot", "one", "other", "many"]
abbrev s_opposite_in : Stmt := top 43
abbrev N_opposite_in : List Str := ["net", "lot", "place"]
abbrev s_corners_in : Stmt := top 46
abbrev N_corners_in : List Str := ["net", "one", "other", "told", "place", "kinds", "first", "second", "kind"]
abbrev s_between_in : Stmt := top 48
abbrev N_between_in : List Str := ["net", "one", "other", "found", "pair", "many"]
abbrev s__law_dice : Stmt := top 52
abbrev N__law_dice : List Str := ["script", "spot", "cell", "great", "blend"]
abbrev s__law_roll : Stmt := top 53
abbrev N__law_roll : List Str := ["dice", "total", "found", "one", "two"]
abbrev s__law_pair : Stmt := top 56
abbrev N__law_pair : List Str := ["one", "other"]
abbrev s__law_pairs : Stmt := top 57
abbrev N__law_pairs : List Str := ["places", "found", "one", "other"]
abbrev s__law_with : Stmt := top 58
abbrev N__law_with : List Str := ["net", "pair", "more", "ties"]
abbrev s__law_cut : Stmt := top 62
abbrev N__law_cut : List Str := ["net", "lot", "pair"]
abbrev s_is_within : Stmt := top 6
abbrev N_is_within : List Str := ["value", "least", "most"]
abbrev s_is_pair : Stmt := top 8
abbrev N_is_pair : List Str := ["value"]
abbrev s_are_places : Stmt := top 23
abbrev N_are_places : List Str := ["value", "one"]
abbrev s_places_of_line : Stmt := top 26
abbrev N_places_of_line : List Str := ["line", "words", "word"]
abbrev s_near_in : Stmt := top 29
abbrev N_near_in : List Str := ["ties", "place", "found", "one", "other", "many"]
abbrev s_is_lot_in : Stmt := top 31
abbrev N_is_lot_in : List Str := ["net", "value", "one"]
abbrev s__law_pick : Stmt := top 54
abbrev N__law_pick : List Str := ["dice", "items"]
abbrev s__law_some : Stmt := top 55
abbrev N__law_some : List Str := ["dice", "items", "size", "left", "turn"]
abbrev s__law_lot : Stmt := top 63
abbrev N__law_lot : List Str := ["dice", "net", "place"]
abbrev s_are_ties : Stmt := top 24
abbrev N_are_ties : List Str := ["places", "value", "pair", "many"]
abbrev s_tie_of_line : Stmt := top 27
abbrev N_tie_of_line : List Str := ["line", "words", "many"]
abbrev s_require_lot : Stmt := top 32
abbrev N_require_lot : List Str := ["net", "value"]
abbrev s__law_known_net : Stmt := top 60
abbrev N__law_known_net : List Str := ["dice", "names", "full", "pair", "ring", "at", "hub", "some", "star", "place", "places", "ties"]
abbrev s_Net___init__ : Stmt := inClass (top 28) 0
abbrev N_Net___init__ : List Str := ["self", "places", "ties", "told", "place", "near"]
abbrev s_Net_cut : Stmt := inClass (top 28) 14
abbrev N_Net_cut : List Str := ["self", "lot"]
abbrev s_opposite : Stmt := top 44
abbrev N_opposite : List Str := ["net", "lot"]
abbrev s_require_two_lots : Stmt := top 45
abbrev N_require_two_lots : List Str := ["net", "one", "other"]
abbrev s__law_net : Stmt := top 59
abbrev N__law_net : List Str := ["dice", "way", "size", "places", "net", "order", "at", "pairs", "turn"]
abbrev s_corners : Stmt := top 47
abbrev N_corners : List Str := ["net", "one", "other"]
abbrev s_between : Stmt := top 49
abbrev N_between : List Str := ["net", "one", "other", "place"]
abbrev s_excesses : Stmt := top 50
abbrev N_excesses : List Str := ["net", "one", "other", "both", "first", "second", "rest"]
abbrev s_Net_read : Stmt := inClass (top 28) 1
abbrev N_Net_read : List Str := ["cls", "lines", "places", "found", "last", "at", "line", "told"]
abbrev s__law_made : Stmt := top 61
abbrev N__law_made : List Str := ["net"]
abbrev s__law_pair_right : Stmt := top 64
abbrev N__law_pair_right : List Str := ["made", "net", "one", "other", "both", "first", "second", "rest", "joined", "sums", "due", "told", "number"]
abbrev s_law : Stmt := top 65
abbrev N_law : List Str := ["script", "spot", "dice", "turn", "net", "made", "some", "draw", "one", "other", "ring", "hub", "told"]
/-! ### what each def is worth -/
def B_Net___contains__ : SDen := (sRet (dAnd (dCB cIsi (dCons (dV 1) (dCons (dK (.ty "str")) dNil))) (dBin pInD (dV 1) (dFld "Net" "own_places" (dV 0)))))
def D_Net___contains__ : FDen := gcF (callD 2 2 B_Net___contains__)
def B_is_integer : SDen := (sRet (dAnd (dCB cIsi (dCons (dV 0) (dCons (dK (.ty "int")) dNil))) (dAnd (dNot (dCB cIsi (dCons (dV 0) (dCons (dK (.ty "bool")) dNil)))) (dChain pLt pLt (dNeg (dK (.int 1000000000000000000000000000000000000000000000000000000000000))) (dV 0) (dK (.int 1000000000000000000000000000000000000000000000000000000000000))))))
def D_is_integer : FDen := gcF (callD 1 1 B_is_integer)
def B_is_word : SDen := (sRet (dAnd (dCB cIsi (dCons (dV 0) (dCons (dK (.ty "str")) dNil))) (dAnd (dChain pLe pLe (dK (.int 1)) (dCB cLenE (dCons (dV 0) dNil)) (dK (.int 8))) (dCB cAll (dCons (dLc (iAD (dV 0)) [1] (bN 1) dYes (dBin pInD (dV 1) (dK (.str "abcdefghijklmnopqrstuvwxyz")))) dNil)))))
def D_is_word : FDen := gcF (callD 2 1 B_is_word)
def B_ascending_rows : SDen := (sRet (dDc (iAD (dCB cSortedE (dCons (dCB cListD (dCons (dV 0) dNil)) dNil))) [1] (bN 1) dYes (dV 1) (dBin pIxM (dV 0) (dV 1))))
def D_ascending_rows : FDen := gcF (callD 2 1 B_ascending_rows)
def B_integer_of_word : SDen := (sSeq (sIf (dOrT (dNotT (dB (dChain pLe pLe (dK (.int 1)) (dCB cLenE (dCons (dV 0) dNil)) (dK (.int 2))))) (dOrT (dNotT (dB (dCB cAll (dCons (dLc (iAD (dV 0)) [1] (bN 1) dYes (dBin pInD (dV 1) (dK (.str "0123456789")))) dNil)))) (dB (dBin pEq (dBin pIxM (dV 0) (dK (.int 0))) (dK (.str "0")))))) (sRet (dK .non)) sNil) (sRet (dCB cIntS (dCons (dV 0) dNil))))
def D_integer_of_word : FDen := gcF (callD 2 1 B_integer_of_word)
def B_require_net : SDen := (sIf (dNotT (dB (dIsiC "Net" (dV 0)))) (sRaise "InvalidNet") sNil)
def D_require_net : FDen := gcF (callD 1 1 B_require_net)
def B_cut_in : SDen := (sRet (dCB cSum (dCons (dLc (iItems (dFld "Net" "own_ties" (dV 0))) [4, 2, 3] (bSeq 2 (bsCons (bSeq 2 (bsCons (bN 2) (bsCons (bN 3) bsNil))) (bsCons (bN 4) bsNil))) (dB (dBin pNe (dBin pInD (dV 2) (dV 1)) (dBin pInD (dV 3) (dV 1)))) (dV 4)) dNil)))
def D_cut_in : FDen := gcF (callD 5 2 B_cut_in)
def B_opposite_in : SDen := (sRet (dCB cTupleD (dCons (dLc (iAD (dFld "Net" "own_places" (dV 0))) [2] (bN 2) (dB (dBin pNotInD (dV 2) (dV 1))) (dV 2)) dNil)))
def D_opposite_in : FDen := gcF (callD 3 2 B_opposite_in)
def B_corners_in : SDen := (sSeq (sAsg (dLc (iAD (dFld "Net" "own_places" (dV 0))) [4] (bN 4) dYes (dTup (dCons (dV 4) (dCons (dBin pInD (dV 4) (dV 1)) (dCons (dBin pInD (dV 4) (dV 2)) dNil))))) (bN 3)) (sSeq (sAsg (dTup (dCons (dTup (dCons (dK (.bl true)) (dCons (dK (.bl true)) dNil))) (dCons (dTup (dCons (dK (.bl true)) (dCons (dK (.bl false)) dNil))) (dCons (dTup (dCons (dK (.bl false)) (dCons (dK (.bl true)) dNil))) (dCons (dTup (dCons (dK (.bl false)) (dCons (dK (.bl false)) dNil))) dNil))))) (bN 5)) (sRet (dCB cTupleD (dCons (dLc (iAD (dV 5)) [8] (bN 8) dYes (dCB cTupleD (dCons (dLc (iAD (dV 3)) [4, 6, 7] (bSeq 3 (bsCons (bN 4) (bsCons (bN 6) (bsCons (bN 7) bsNil)))) (dB (dBin pEq (dTup (dCons (dV 6) (dCons (dV 7) dNil))) (dV 8))) (dV 4)) dNil))) dNil)))))
def D_corners_in : FDen := gcF (callD 9 3 B_corners_in)
def B_between_in : SDen := (sSeq (sAsg (dK (.int 0)) (bN 3)) (sSeq (sFor (iItems (dFld "Net" "own_ties" (dV 0))) (bSeq 2 (bsCons (bN 4) (bsCons (bN 5) bsNil))) (sIf (dOrT (dAndT (dB (dBin pInD (dBin pIxM (dV 4) (dK (.int 0))) (dV 1))) (dB (dBin pInD (dBin pIxM (dV 4) (dK (.int 1))) (dV 2)))) (dAndT (dB (dBin pInD (dBin pIxM (dV 4) (dK (.int 0))) (dV 2))) (dB (dBin pInD (dBin pIxM (dV 4) (dK (.int 1))) (dV 1))))) (sAugI (fun i j => i + j) 3 (dV 5)) sNil)) (sRet (dV 3))))
def D_between_in : FDen := gcF (callD 6 3 B_between_in)
def B__law_dice : SDen := (sSeq (sAsg (dBin pAdd (dBin pMul (dK (.int 67)) (dV 1)) (dK (.int 23))) (bN 2)) (sSeq (sIf (dB (dBin pLt (dV 1) (dCB cLenE (dCons (dV 0) dNil)))) (sAsg (dBin pIxM (dV 0) (dV 1)) (bN 2)) sNil) (sSeq (sAsg (dBin pMod (dCB cInt (dCons (dCB cAbs (dCons (dV 2) dNil)) dNil)) (dBin pPow (dBin pPow (dK (.int 10)) (dK (.int 60))) (dK (.int 10)))) (bN 3)) (sSeq (sAsg (dBin pAdd (dBin pAdd (dBin pAdd (dBin pMul (dBin pMod (dCB cInt (dCons (dV 3) dNil)) (dK (.int 2305843009213693661))) (dK (.int 1000409))) (dBin pMul (dK (.int 8081)) (dV 1))) (dBin pMul (dK (.int 53)) (dCB cInt (dCons (dBin pLt (dV 2) (dK (.int 0))) dNil)))) (dK (.int 29))) (bN 4)) (sRet (dCell (dLst (dCons (dCB cMax2 (dCons (dK (.int 0)) (dCons (dBin pSub (dV 3) (dBin pPow (dK (.int 10)) (dK (.int 18)))) dNil))) (dCons (dBin pMod (dCB cInt (dCons (dV 4) dNil)) (dK (.int 2305843009213693661))) (dCons (dK (.int 0)) dNil))))))))))
def D__law_dice : FDen := callD 5 2 B__law_dice
def B__law_roll : SDen := (sSeq (sIf (dB (dBin pGt (dBin pIxM (dV 0) (dK (.int 0))) (dK (.int 0)))) (sSeq (sAsg (dBin pMod (dCB cInt (dCons (dBin pIxM (dV 0) (dK (.int 0))) dNil)) (dV 1)) (bN 2)) (sSeq (sSub (dBin pDiv (dBin pIxM (dV 0) (dK (.int 0))) (dV 1)) (dV 0) (dK (.int 0)) qSetM) (sRet (dV 2)))) sNil) (sSeq (sSub (dBin pAdd (dBin pIxM (dV 0) (dK (.int 2))) (dK (.int 1))) (dV 0) (dK (.int 2)) qSetM) (sSeq (sAsg (dBin pMod (dCB cInt (dCons (dBin pAdd (dBin pIxM (dV 0) (dK (.int 1))) (dBin pMul (dK (.int 998244319)) (dBin pIxM (dV 0) (dK (.int 2))))) dNil)) (dK (.int 2305843009213693951))) (bN 3)) (sSeq (sAsg (dBin pAdd (dBin pMul (dBin pMod (dCB cInt (dCons (dBin pMul (dV 3) (dV 3)) dNil)) (dK (.int 2305843009213693907))) (dV 3)) (dBin pMul (dK (.int 9421)) (dBin pIxM (dV 0) (dK (.int 2))))) (bN 4)) (sSeq (sAsg (dBin pMod (dCB cInt (dCons (dV 4) dNil)) (dK (.int 2305843009213693661))) (bN 4)) (sRet (dBin pMod (dCB cInt (dCons (dBin pDiv (dV 4) (dK (.int 8192))) dNil)) (dV 1))))))))
def D__law_roll : FDen := gcF (callD 5 2 B__law_roll)
def B__law_pair : SDen := (sRet (dIf (dB (dBin pLt (dV 0) (dV 1))) (dTup (dCons (dV 0) (dCons (dV 1) dNil))) (dTup (dCons (dV 1) (dCons (dV 0) dNil)))))
def D__law_pair : FDen := gcF (callD 2 2 B__law_pair)
def B__law_pairs : SDen := (sSeq (sAsg (dLst dNil) (bN 1)) (sSeq (sFor (iAD (dV 0)) (bN 2) (sAsg (dBin pAdd (dV 1) (dLc (iAD (dV 0)) [3] (bN 3) (dB (dBin pLt (dV 2) (dV 3))) (dTup (dCons (dV 2) (dCons (dV 3) dNil))))) (bN 1))) (sRet (dV 1))))
def D__law_pairs : FDen := gcF (callD 4 1 B__law_pairs)
def B__law_with : SDen := (sSeq (sAsg (dCell (dCB cDictP (dCons (dItems (dBin pIxM (dV 0) (dK (.str "ties")))) dNil))) (bN 3)) (sSeq (sSub (dBin pAdd (dM isDic mGet (dV 3) (dCons (dV 1) (dCons (dK (.int 0)) dNil))) (dV 2)) (dV 3) (dV 1) qSetM) (sSeq (sIf (dB (dBin pEq (dBin pIxM (dV 3) (dV 1)) (dK (.int 0)))) (sExpr (dM isLst mPop (dV 3) (dCons (dV 1) dNil))) sNil) (sRet (dDispK [((dK (.str "places")), (dCB cListD (dCons (dBin pIxM (dV 0) (dK (.str "places"))) dNil))), ((dK (.str "ties")), (dV 3))])))))
def D__law_with : FDen := callD 4 3 B__law_with
def B__law_cut : SDen := (sRet (dCB cSum (dCons (dLc (iAD (dBin pIxM (dV 0) (dK (.str "ties")))) [2] (bN 2) (dB (dBin pNe (dBin pInD (dBin pIxM (dV 2) (dK (.int 0))) (dV 1)) (dBin pInD (dBin pIxM (dV 2) (dK (.int 1))) (dV 1)))) (dBin pIxM (dBin pIxM (dV 0) (dK (.str "ties"))) (dV 2))) dNil)))
def D__law_cut : FDen := gcF (callD 3 2 B__law_cut)
def B_is_within : SDen := (sRet (dAnd (dFn D_is_integer [] (dCons (dV 0) dNil)) (dChain pLe pLe (dV 1) (dV 0) (dV 2))))
def D_is_within : FDen := gcF (callD 3 3 B_is_within)
def B_is_pair : SDen := (sSeq (sIf (dOrT (dNotT (dB (dCB cIsi (dCons (dV 0) (dCons (dK (.ty "tuple")) dNil))))) (dOrT (dB (dBin pNe (dCB cLenE (dCons (dV 0) dNil)) (dK (.int 2)))) (dOrT (dNotT (dB (dFn D_is_word [] (dCons (dBin pIxM (dV 0) (dK (.int 0))) dNil)))) (dNotT (dB (dFn D_is_word [] (dCons (dBin pIxM (dV 0) (dK (.int 1))) dNil))))))) (sRet (dK (.bl false))) sNil) (sRet (dBin pLt (dBin pIxM (dV 0) (dK (.int 0))) (dBin pIxM (dV 0) (dK (.int 1))))))
def D_is_pair : FDen := gcF (callD 1 1 B_is_pair)
def B_are_places : SDen := (sSeq (sIf (dOrT (dNotT (dB (dCB cIsi (dCons (dV 0) (dCons (dK (.ty "tuple")) dNil))))) (dOrT (dNotT (dB (dChain pLe pLe (dK (.int 1)) (dCB cLenE (dCons (dV 0) dNil)) (dK (.int 9))))) (dNotT (dB (dCB cAll (dCons (dLc (iAD (dV 0)) [1] (bN 1) dYes (dFn D_is_word [] (dCons (dV 1) dNil))) dNil)))))) (sRet (dK (.bl false))) sNil) (sRet (dBin pEq (dCB cLenE (dCons (dCB cSet (dCons (dV 0) dNil)) dNil)) (dCB cLenE (dCons (dV 0) dNil)))))
def D_are_places : FDen := gcF (callD 2 1 B_are_places)
def B_places_of_line : SDen := (sSeq (sAsg (dIf (dB (dCB cIsi (dCons (dV 0) (dCons (dK (.ty "str")) dNil)))) (dM isStr mSplit (dV 0) (dCons (dK (.str " ")) dNil)) (dLst dNil)) (bN 1)) (sSeq (sIf (dOrT (dB (dBin pEq (dV 1) (dLst dNil))) (dNotT (dB (dCB cAll (dCons (dLc (iAD (dV 1)) [2] (bN 2) dYes (dFn D_is_word [] (dCons (dV 2) dNil))) dNil))))) (sRet (dK .non)) sNil) (sRet (dIf (dB (dBin pEq (dV 1) (dCB cSortedE (dCons (dCB cSet (dCons (dV 1) dNil)) dNil)))) (dCB cTupleD (dCons (dV 1) dNil)) (dK .non)))))
def D_places_of_line : FDen := gcF (callD 3 1 B_places_of_line)
def B_near_in : SDen := (sSeq (sAsg (dCell (dK (.dct []))) (bN 2)) (sSeq (sFor (iItems (dV 0)) (bSeq 2 (bsCons (bSeq 2 (bsCons (bN 3) (bsCons (bN 4) bsNil))) (bsCons (bN 5) bsNil))) (sIf (dB (dBin pEq (dV 1) (dV 3))) (sSub (dV 5) (dV 2) (dV 4) qSetM) (sIf (dB (dBin pEq (dV 1) (dV 4))) (sSub (dV 5) (dV 2) (dV 3) qSetM) sNil))) (sRet (dFn D_ascending_rows [] (dCons (dV 2) dNil)))))
def D_near_in : FDen := gcF (callD 6 2 B_near_in)
def B_is_lot_in : SDen := (sSeq (sIf (dOrT (dNotT (dB (dCB cIsi (dCons (dV 1) (dCons (dK (.ty "tuple")) dNil))))) (dNotT (dB (dCB cAll (dCons (dLc (iAD (dV 1)) [2] (bN 2) dYes (dBinM (pInM "Net" D_Net___contains__) (dV 2) (dV 0))) dNil))))) (sRet (dK (.bl false))) sNil) (sRet (dBin pEq (dCB cListD (dCons (dV 1) dNil)) (dCB cSortedE (dCons (dCB cSet (dCons (dV 1) dNil)) dNil)))))
def D_is_lot_in : FDen := gcF (callD 3 2 B_is_lot_in)
def B__law_pick : SDen := (sRet (dBin pIxM (dV 1) (dFn D__law_roll [] (dCons (dV 0) (dCons (dCB cLenE (dCons (dV 1) dNil)) dNil)))))
def D__law_pick : FDen := gcF (callD 2 2 B__law_pick)
def B__law_some : SDen := (sSeq (sAsg (dCell (dCB cListD (dCons (dV 1) dNil))) (bN 3)) (sRet (dLc (iR1 (dCons (dCB cMin2 (dCons (dV 2) (dCons (dCB cLenE (dCons (dV 3) dNil)) dNil))) dNil)) [4] (bN 4) dYes (dM isLst mPop (dV 3) (dCons (dFn D__law_roll [] (dCons (dV 0) (dCons (dCB cLenE (dCons (dV 3) dNil)) dNil))) dNil)))))
def D__law_some : FDen := gcF (callD 5 3 B__law_some)
def B__law_lot : SDen := (sRet (dCB cTupleD (dCons (dLc (iAD (dBin pIxM (dV 1) (dK (.str "places")))) [2] (bN 2) (dB (dBin pEq (dFn D__law_roll [] (dCons (dV 0) (dCons (dK (.int 2)) dNil))) (dK (.int 0)))) (dV 2)) dNil)))
def D__law_lot : FDen := gcF (callD 3 2 B__law_lot)
def B_are_ties : SDen := (sSeq (sIf (dOrT (dNotT (dB (dCB cIsi (dCons (dV 1) (dCons (dK (.ty "dict")) dNil))))) (dNotT (dB (dCB cAll (dCons (dLc (iAD (dV 1)) [2] (bN 2) dYes (dFn D_is_pair [] (dCons (dV 2) dNil))) dNil))))) (sRet (dK (.bl false))) sNil) (sSeq (sIf (dNotT (dB (dCB cAll (dCons (dLc (iAD (dV 1)) [2] (bN 2) dYes (dAnd (dBin pInD (dBin pIxM (dV 2) (dK (.int 0))) (dV 0)) (dBin pInD (dBin pIxM (dV 2) (dK (.int 1))) (dV 0)))) dNil)))) (sRet (dK (.bl false))) sNil) (sRet (dAnd (dCB cAll (dCons (dLc (iVals (dV 1)) [3] (bN 3) dYes (dFn D_is_within [] (dCons (dV 3) (dCons (dK (.int 1)) (dCons (dK (.int 60)) dNil))))) dNil)) (dBin pLe (dCB cSum (dCons (dVals (dV 1)) dNil)) (dK (.int 60)))))))
def D_are_ties : FDen := gcF (callD 4 2 B_are_ties)
def B_tie_of_line : SDen := (sSeq (sAsg (dIf (dB (dCB cIsi (dCons (dV 0) (dCons (dK (.ty "str")) dNil)))) (dM isStr mSplit (dV 0) (dCons (dK (.str " ")) dNil)) (dLst dNil)) (bN 1)) (sSeq (sIf (dOrT (dB (dBin pNe (dCB cLenE (dCons (dV 1) dNil)) (dK (.int 3)))) (dNotT (dB (dFn D_is_pair [] (dCons (dTup (dCons (dBin pIxM (dV 1) (dK (.int 0))) (dCons (dBin pIxM (dV 1) (dK (.int 1))) dNil))) dNil))))) (sRet (dK .non)) sNil) (sSeq (sAsg (dFn D_integer_of_word [] (dCons (dBin pIxM (dV 1) (dK (.int 2))) dNil)) (bN 2)) (sRet (dIf (dB (dBin pIsE (dV 2) (dK .non))) (dK .non) (dTup (dCons (dTup (dCons (dBin pIxM (dV 1) (dK (.int 0))) (dCons (dBin pIxM (dV 1) (dK (.int 1))) dNil))) (dCons (dV 2) dNil))))))))
def D_tie_of_line : FDen := gcF (callD 3 1 B_tie_of_line)
def B_require_lot : SDen := (sIf (dNotT (dB (dFn D_is_lot_in [] (dCons (dV 0) (dCons (dV 1) dNil))))) (sRaise "InvalidLot") sNil)
def D_require_lot : FDen := gcF (callD 2 2 B_require_lot)
def B__law_known_net : SDen := (sSeq (sAsg (dLst (dCons (dK (.str "a")) (dCons (dK (.str "b")) (dCons (dK (.str "c")) (dCons (dK (.str "d")) (dCons (dK (.str "e")) dNil)))))) (bN 1)) (sSeq (sAsg (dCB cDictP (dCons (dLc (iAD (dFn D__law_pairs [] (dCons (dSl (dV 1) oNone (oSome (dK (.int 4)))) dNil))) [3] (bN 3) dYes (dTup (dCons (dV 3) (dCons (dK (.int 1)) dNil)))) dNil)) (bN 2)) (sSeq (sAsg (dCB cDictP (dCons (dLc (iR1 (dCons (dK (.int 5)) dNil)) [5] (bN 5) dYes (dTup (dCons (dFn D__law_pair [] (dCons (dBin pIxM (dV 1) (dBin pSub (dV 5) (dK (.int 1)))) (dCons (dBin pIxM (dV 1) (dV 5)) dNil))) (dCons (dK (.int 1)) dNil)))) dNil)) (bN 4)) (sSeq (sAsg (dDispT [((dTup (dCons (dK (.str "a")) (dCons (dK (.str "z")) dNil))), (dK (.int 2))), ((dTup (dCons (dK (.str "b")) (dCons (dK (.str "z")) dNil))), (dK (.int 1))), ((dTup (dCons (dK (.str "c")) (dCons (dK (.str "z")) dNil))), (dK (.int 1))), ((dTup (dCons (dK (.str "a")) (dCons (dK (.str "b")) dNil))), (dK (.int 1))), ((dTup (dCons (dK (.str "b")) (dCons (dK (.str "c")) dNil))), (dK (.int 1))), ((dTup (dCons (dK (.str "a")) (dCons (dK (.str "c")) dNil))), (dK (.int 1)))]) (bN 6)) (sSeq (sAsg (dLst (dCons (dTup (dCons (dSl (dV 1) oNone (oSome (dK (.int 4)))) (dCons (dV 2) dNil))) (dCons (dTup (dCons (dV 1) (dCons (dV 4) dNil))) (dCons (dTup (dCons (dLst (dCons (dK (.str "a")) (dCons (dK (.str "b")) (dCons (dK (.str "c")) (dCons (dK (.str "z")) dNil))))) (dCons (dV 6) dNil))) (dCons (dTup (dCons (dLst (dCons (dK (.str "a")) (dCons (dK (.str "b")) dNil))) (dCons (dDispT [((dTup (dCons (dK (.str "a")) (dCons (dK (.str "b")) dNil))), (dK (.int 4)))]) dNil))) dNil))))) (bN 7)) (sSeq (sAsg (dCB cDictP (dCons (dLc (iAD (dSl (dV 1) oNone (oSome (dK (.int 4))))) [9] (bN 9) dYes (dTup (dCons (dTup (dCons (dV 9) (dCons (dK (.str "z")) dNil))) (dCons (dK (.int 1)) dNil)))) dNil)) (bN 8)) (sSeq (sAsg (dBin pAdd (dV 7) (dLst (dCons (dTup (dCons (dBin pAdd (dSl (dV 1) oNone (oSome (dK (.int 4)))) (dLst (dCons (dK (.str "z")) dNil))) (dCons (dV 8) dNil))) (dCons (dTup (dCons (dSl (dV 1) oNone (oSome (dK (.int 3)))) (dCons (dDispT [((dTup (dCons (dK (.str "a")) (dCons (dK (.str "b")) dNil))), (dK (.int 1))), ((dTup (dCons (dK (.str "b")) (dCons (dK (.str "c")) dNil))), (dK (.int 1)))]) dNil))) (dCons (dTup (dCons (dSl (dV 1) oNone (oSome (dK (.int 3)))) (dCons (dK (.dct [])) dNil))) dNil))))) (bN 7)) (sSeq (sAsg (dFn D__law_pick [] (dCons (dV 0) (dCons (dV 7) dNil))) (bSeq 2 (bsCons (bN 10) (bsCons (bN 11) bsNil)))) (sRet (dDispK [((dK (.str "places")), (dCB cListD (dCons (dV 10) dNil))), ((dK (.str "ties")), (dCB cDictP (dCons (dItems (dV 11)) dNil)))]))))))))))
def D__law_known_net : FDen := gcF (callD 12 1 B__law_known_net)
def B_Net___init__ : SDen := (sSeq (sAsg (dIf (dB (dBin pIsE (dV 2) (dK .non))) (dK (.dct [])) (dV 2)) (bN 3)) (sSeq (sIf (dOrT (dNotT (dB (dFn D_are_places [] (dCons (dV 1) dNil)))) (dNotT (dB (dFn D_are_ties [] (dCons (dV 1) (dCons (dV 3) dNil)))))) (sRaise "InvalidNet") sNil) (sSeq (sFldSet "Net" "own_places" (dCB cTupleD (dCons (dCB cSortedE (dCons (dV 1) dNil)) dNil)) (dV 0)) (sSeq (sFldSet "Net" "own_ties" (dFn D_ascending_rows [] (dCons (dV 3) dNil)) (dV 0)) (sSeq (sFldSet "Net" "own_near" (dDc (iAD (dFld "Net" "own_places" (dV 0))) [4] (bN 4) dYes (dV 4) (dFn D_near_in [] (dCons (dFld "Net" "own_ties" (dV 0)) (dCons (dV 4) dNil)))) (dV 0)) (sFldSet "Net" "own_degrees" (dDc (iItems (dFld "Net" "own_near" (dV 0))) [4, 5] (bSeq 2 (bsCons (bN 4) (bsCons (bN 5) bsNil))) dYes (dV 4) (dCB cSum (dCons (dVals (dV 5)) dNil))) (dV 0)))))))
def D_Net___init__ : FDen := gcF (callD 6 3 B_Net___init__)
def B_Net_cut : SDen := (sSeq (sExpr (dFn D_require_lot [] (dCons (dV 0) (dCons (dV 1) dNil)))) (sRet (dFn D_cut_in [] (dCons (dV 0) (dCons (dV 1) dNil)))))
def D_Net_cut : FDen := gcF (callD 2 2 B_Net_cut)
def B_opposite : SDen := (sSeq (sExpr (dFn D_require_net [] (dCons (dV 0) dNil))) (sSeq (sExpr (dFn D_require_lot [] (dCons (dV 0) (dCons (dV 1) dNil)))) (sRet (dFn D_opposite_in [] (dCons (dV 0) (dCons (dV 1) dNil))))))
def D_opposite : FDen := gcF (callD 2 2 B_opposite)
def B_require_two_lots : SDen := (sSeq (sExpr (dFn D_require_net [] (dCons (dV 0) dNil))) (sSeq (sExpr (dFn D_require_lot [] (dCons (dV 0) (dCons (dV 1) dNil)))) (sExpr (dFn D_require_lot [] (dCons (dV 0) (dCons (dV 2) dNil))))))
def D_require_two_lots : FDen := gcF (callD 3 3 B_require_two_lots)
def B__law_net : SDen := (sSeq (sAsg (dFn D__law_roll [] (dCons (dV 0) (dCons (dK (.int 8)) dNil))) (bN 1)) (sSeq (sIf (dB (dBin pEq (dV 1) (dK (.int 0)))) (sRet (dFn D__law_known_net [] (dCons (dV 0) dNil))) sNil) (sSeq (sAsg (dFn D__law_pick [] (dCons (dV 0) (dCons (dLst (dCons (dK (.int 3)) (dCons (dK (.int 4)) (dCons (dK (.int 4)) (dCons (dK (.int 5)) (dCons (dK (.int 5)) (dCons (dK (.int 6)) dNil))))))) dNil))) (bN 2)) (sSeq (sAsg (dCB cSortedE (dCons (dFn D__law_some [] (dCons (dV 0) (dCons (dLst (dCons (dK (.str "a")) (dCons (dK (.str "b")) (dCons (dK (.str "c")) (dCons (dK (.str "d")) (dCons (dK (.str "e")) (dCons (dK (.str "f")) (dCons (dK (.str "h")) (dCons (dK (.str "m")) (dCons (dK (.str "z")) dNil)))))))))) (dCons (dV 2) dNil)))) dNil)) (bN 3)) (sSeq (sAsg (dDispK [((dK (.str "places")), (dV 3)), ((dK (.str "ties")), (dCell (dK (.dct []))))]) (bN 4)) (sSeq (sIf (dB (dBin pGt (dV 1) (dK (.int 1)))) (sSeq (sAsg (dFn D__law_some [] (dCons (dV 0) (dCons (dV 3) (dCons (dV 2) dNil)))) (bN 5)) (sFor (iR1 (dCons (dV 2) dNil)) (bN 6) (sAsg (dFn D__law_with [] (dCons (dV 4) (dCons (dFn D__law_pair [] (dCons (dBin pIxM (dV 5) (dBin pSub (dV 6) (dK (.int 1)))) (dCons (dBin pIxM (dV 5) (dV 6)) dNil))) (dCons (dK (.int 1)) dNil)))) (bN 4)))) sNil) (sSeq (sAsg (dFn D__law_pairs [] (dCons (dV 3) dNil)) (bN 7)) (sSeq (sFor (iR1 (dCons (dFn D__law_pick [] (dCons (dV 0) (dCons (dLst (dCons (dK (.int 0)) (dCons (dK (.int 1)) (dCons (dK (.int 2)) (dCons (dK (.int 3)) (dCons (dK (.int 4)) (dCons (dK (.int 6)) (dCons (dK (.int 8)) dNil)))))))) dNil))) dNil)) (bN 8) (sAsg (dFn D__law_with [] (dCons (dV 4) (dCons (dFn D__law_pick [] (dCons (dV 0) (dCons (dV 7) dNil))) (dCons (dFn D__law_pick [] (dCons (dV 0) (dCons (dLst (dCons (dK (.int 1)) (dCons (dK (.int 1)) (dCons (dK (.int 1)) (dCons (dK (.int 2)) dNil))))) dNil))) dNil)))) (bN 4))) (sSeq (sIf (dAndT (dB (dBin pEq (dFn D__law_roll [] (dCons (dV 0) (dCons (dK (.int 4)) dNil))) (dK (.int 0)))) (dB (dBin pGt (dCB cLenE (dCons (dBin pIxM (dV 4) (dK (.str "ties"))) dNil)) (dK (.int 0))))) (sExpr (dM isDic mDPop (dBin pIxM (dV 4) (dK (.str "ties"))) (dCons (dFn D__law_pick [] (dCons (dV 0) (dCons (dCB cSortedE (dCons (dBin pIxM (dV 4) (dK (.str "ties"))) dNil)) dNil))) dNil))) sNil) (sRet (dV 4)))))))))))
def D__law_net : FDen := gcF (callD 9 1 B__law_net)
def B_corners : SDen := (sSeq (sExpr (dFn D_require_two_lots [] (dCons (dV 0) (dCons (dV 1) (dCons (dV 2) dNil))))) (sRet (dFn D_corners_in [] (dCons (dV 0) (dCons (dV 1) (dCons (dV 2) dNil))))))
def D_corners : FDen := gcF (callD 3 3 B_corners)
def B_between : SDen := (sSeq (sExpr (dFn D_require_two_lots [] (dCons (dV 0) (dCons (dV 1) (dCons (dV 2) dNil))))) (sSeq (sIf (dB (dCB cAny (dCons (dLc (iAD (dV 1)) [3] (bN 3) dYes (dBin pInD (dV 3) (dV 2))) dNil))) (sRaise "InvalidOperation") sNil) (sRet (dFn D_between_in [] (dCons (dV 0) (dCons (dV 1) (dCons (dV 2) dNil)))))))
def D_between : FDen := gcF (callD 4 3 B_between)
def B_excesses : SDen := (sSeq (sExpr (dFn D_require_two_lots [] (dCons (dV 0) (dCons (dV 1) (dCons (dV 2) dNil))))) (sSeq (sAsg (dFn D_corners_in [] (dCons (dV 0) (dCons (dV 1) (dCons (dV 2) dNil)))) (bSeq 4 (bsCons (bN 3) (bsCons (bN 4) (bsCons (bN 5) (bsCons (bN 6) bsNil)))))) (sRet (dTup (dCons (dBin pMul (dK (.int 2)) (dFn D_between_in [] (dCons (dV 0) (dCons (dV 4) (dCons (dV 5) dNil))))) (dCons (dBin pMul (dK (.int 2)) (dFn D_between_in [] (dCons (dV 0) (dCons (dV 3) (dCons (dV 6) dNil))))) dNil))))))
def D_excesses : FDen := gcF (callD 7 3 B_excesses)
def B_Net_read : SDen := (zStart (zSeq (sAsg (dIf (dB (dBin pNe (dV 1) (dTup dNil))) (dFn D_places_of_line [] (dCons (dBin pIxM (dV 1) (dK (.int 0))) dNil)) (dK .non)) (bN 2)) (zSeq (sIf (dB (dBin pIsE (dV 2) (dK .non))) sStuck sNil) (zSeq (sPar 3 4 (dCons (dCell (dK (.dct []))) (dCons (dTup (dCons (dK (.str "")) (dCons (dK (.str "")) dNil))) dNil))) (zSeq (sFor (iEnum (dSl (dV 1) (oSome (dK (.int 1))) oNone)) (bSeq 2 (bsCons (bN 5) (bsCons (bN 6) bsNil))) (sSeq (sAsg (dFn D_tie_of_line [] (dCons (dV 6) dNil)) (bN 7)) (sSeq (sIf (dOrT (dB (dBin pIsE (dV 7) (dK .non))) (dB (dBin pLeT (dBin pIxM (dV 7) (dK (.int 0))) (dV 4)))) sStuck sNil) (sSeq (sAsg (dBin pIxM (dV 7) (dK (.int 0))) (bN 4)) (sSub (dBin pIxM (dV 7) (dK (.int 1))) (dV 3) (dV 4) qSetM))))) (zFz (sRet (dMakeL 0 "Net" D_Net___init__ [] (dCons (dV 2) (dCons (dV 3) dNil))))))))))
def D_Net_read : FDen := gcF (callD 8 2 B_Net_read)
def B__law_made : SDen := (sRet (dMake "Net" D_Net___init__ [] (dCons (dCB cTupleD (dCons (dBin pIxM (dV 0) (dK (.str "places"))) dNil)) (dCons (dCB cDictP (dCons (dItems (dBin pIxM (dV 0) (dK (.str "ties")))) dNil)) dNil))))
def D__law_made : FDen := gcF (callD 1 1 B__law_made)
def B__law_pair_right : SDen := (sSeq (sAsg (dFn D_corners [] (dCons (dV 0) (dCons (dV 2) (dCons (dV 3) dNil)))) (bSeq 4 (bsCons (bN 4) (bsCons (bN 5) (bsCons (bN 6) (bsCons (bN 7) bsNil)))))) (sSeq (sPar 8 9 (dCons (dCB cTupleD (dCons (dCB cSortedE (dCons (dCB cSet (dCons (dBin pAdd (dV 2) (dV 3)) dNil)) dNil)) dNil)) (dCons (dBin pAdd (dFn D__law_cut [] (dCons (dV 1) (dCons (dV 2) dNil))) (dFn D__law_cut [] (dCons (dV 1) (dCons (dV 3) dNil)))) dNil))) (sSeq (sAsg (dLst (dCons (dBin pSub (dBin pSub (dV 9) (dFn D__law_cut [] (dCons (dV 1) (dCons (dV 4) dNil)))) (dFn D__law_cut [] (dCons (dV 1) (dCons (dV 8) dNil)))) (dCons (dBin pSub (dBin pSub (dV 9) (dFn D__law_cut [] (dCons (dV 1) (dCons (dV 5) dNil)))) (dFn D__law_cut [] (dCons (dV 1) (dCons (dV 6) dNil)))) dNil))) (bN 10)) (sSeq (sAsg (dCB cListD (dCons (dFn D_excesses [] (dCons (dV 0) (dCons (dV 2) (dCons (dV 3) dNil)))) dNil)) (bN 11)) (sSeq (sIf (dOrT (dB (dBin pNe (dV 11) (dV 10))) (dOrT (dB (dBin pNe (dBin pIxM (dV 11) (dK (.int 0))) (dBin pMul (dK (.int 2)) (dFn D_between [] (dCons (dV 0) (dCons (dV 5) (dCons (dV 6) dNil))))))) (dB (dBin pNe (dBin pIxM (dV 11) (dK (.int 1))) (dBin pMul (dK (.int 2)) (dFn D_between [] (dCons (dV 0) (dCons (dV 4) (dCons (dV 7) dNil))))))))) (sRet (dK (.bl false))) sNil) (sSeq (sIf (dOrT (dB (dBin pLt (dCB cMinL (dCons (dV 11) dNil)) (dK (.int 0)))) (dB (dBin pNe (dLc (iAD (dV 11)) [12] (bN 12) dYes (dBin pMod (dV 12) (dK (.int 2)))) (dLst (dCons (dK (.int 0)) (dCons (dK (.int 0)) dNil)))))) (sRet (dK (.bl false))) sNil) (sSeq (sIf (dOrT (dB (dBin pNe (dMeth "Net" "cut" D_Net_cut [] (dV 0) (dCons (dFn D_opposite [] (dCons (dV 0) (dCons (dV 2) dNil))) dNil)) (dMeth "Net" "cut" D_Net_cut [] (dV 0) (dCons (dV 2) dNil)))) (dB (dBin pNe (dFn D_excesses [] (dCons (dV 0) (dCons (dV 3) (dCons (dV 2) dNil)))) (dTup (dCons (dBin pIxM (dV 11) (dK (.int 0))) (dCons (dBin pIxM (dV 11) (dK (.int 1))) dNil)))))) (sRet (dK (.bl false))) sNil) (sRet (dBin pEq (dBin pSub (dBin pAdd (dMeth "Net" "cut" D_Net_cut [] (dV 0) (dCons (dV 5) dNil)) (dMeth "Net" "cut" D_Net_cut [] (dV 0) (dCons (dV 6) dNil))) (dBin pMul (dK (.int 2)) (dFn D_between [] (dCons (dV 0) (dCons (dV 5) (dCons (dV 6) dNil)))))) (dMeth "Net" "cut" D_Net_cut [] (dV 0) (dCons (dCB cTupleD (dCons (dCB cSortedE (dCons (dBin pAdd (dV 5) (dV 6)) dNil)) dNil)) dNil)))))))))))
def D__law_pair_right : FDen := gcF (callD 13 4 B__law_pair_right)
def B_law : SDen := (sSeq (sFor (iR1 (dCons (dCB cMax2 (dCons (dK (.int 1)) (dCons (dCB cMin2 (dCons (dK (.int 8)) (dCons (dCB cLenE (dCons (dV 0) dNil)) dNil))) dNil))) dNil)) (bN 1) (sSeq (sAsg (dFn D__law_dice [] (dCons (dV 0) (dCons (dV 1) dNil))) (bN 2)) (sFor (iR1 (dCons (dK (.int 3)) dNil)) (bN 3) (sSeq (sAsg (dFn D__law_net [] (dCons (dV 2) dNil)) (bN 4)) (sSeq (sAsg (dTup (dCons (dFn D__law_made [] (dCons (dV 4) dNil)) (dCons (dLc (iR1 (dCons (dK (.int 4)) dNil)) [7] (bN 7) dYes (dFn D__law_lot [] (dCons (dV 2) (dCons (dV 4) dNil)))) dNil))) (bSeq 2 (bsCons (bN 5) (bsCons (bN 6) bsNil)))) (sFor (iAD (dV 6)) (bN 8) (sIf (dB (dBin pNe (dLc (iAD (dV 6)) [9] (bN 9) (dNotT (dB (dFn D__law_pair_right [] (dCons (dV 5) (dCons (dV 4) (dCons (dV 8) (dCons (dV 9) dNil))))))) (dV 9)) (dLst dNil))) (sRet (dK (.bl false))) sNil))))))) (sSeq (sAsg (dCMeth "Net" D_Net_read (dCons (dK (.str "a b c d e")) (dCons (dK (.str "a b 1")) (dCons (dK (.str "a e 1")) (dCons (dK (.str "b c 1")) (dCons (dK (.str "c d 1")) (dCons (dK (.str "d e 1")) dNil))))))) (bN 10)) (sSeq (sAsg (dCMeth "Net" D_Net_read (dCons (dK (.str "a b c z")) (dCons (dK (.str "a b 1")) (dCons (dK (.str "a c 1")) (dCons (dK (.str "a z 2")) (dCons (dK (.str "b c 1")) (dCons (dK (.str "b z 1")) (dCons (dK (.str "c z 1")) dNil)))))))) (bN 11)) (sSeq (sAsg (dLst (dCons (dFn D_excesses [] (dCons (dV 10) (dCons (dTup (dCons (dK (.str "a")) (dCons (dK (.str "b")) dNil))) (dCons (dTup (dCons (dK (.str "b")) (dCons (dK (.str "c")) dNil))) dNil)))) (dCons (dFn D_excesses [] (dCons (dV 10) (dCons (dTup (dCons (dK (.str "a")) (dCons (dK (.str "c")) dNil))) (dCons (dTup (dCons (dK (.str "c")) (dCons (dK (.str "d")) dNil))) dNil)))) (dCons (dFn D_between [] (dCons (dV 11) (dCons (dTup (dCons (dK (.str "a")) (dCons (dK (.str "b")) dNil))) (dCons (dTup (dCons (dK (.str "z")) dNil)) dNil)))) dNil)))) (bN 12)) (sRet (dBin pEq (dV 12) (dLst (dCons (dTup (dCons (dK (.int 0)) (dCons (dK (.int 0)) dNil))) (dCons (dTup (dCons (dK (.int 0)) (dCons (dK (.int 2)) dNil))) (dCons (dK (.int 3)) dNil))))))))))
def D_law : FDen := callD 13 1 B_law
/-! ### .. and that it is so -/
structure Txt [HW] (w : World) (K : PySem.W.Frag) (mg : Str → Option Value) : Prop where
  hw : HW.w = w
  z_abs : mg "abs" = none
  z_all : mg "all" = none
  z_any : mg "any" = none
  z_bool : mg "bool" = none
  z_dict : mg "dict" = none
  z_enumerate : mg "enumerate" = none
  z_int : mg "int" = none
  z_isinstance : mg "isinstance" = none
  z_len : mg "len" = none
  z_list : mg "list" = none
  z_max : mg "max" = none
  z_min : mg "min" = none
  z_range : mg "range" = none
  z_set : mg "set" = none
  z_sorted : mg "sorted" = none
  z_str : mg "str" = none
  z_sum : mg "sum" = none
  z_tuple : mg "tuple" = none
  c_DIGITS : ∃ t, mg "DIGITS" = some (.str "0123456789" t)
  c_LETTERS : ∃ t, mg "LETTERS" = some (.str "abcdefghijklmnopqrstuvwxyz" t)
  c_LONGEST : ∃ t, mg "LONGEST" = some (.int 1000000000000000000000000000000000000000000000000000000000000 t)
  c_MAX_LETTERS : ∃ t, mg "MAX_LETTERS" = some (.int 8 t)
  c_MAX_PLACES : ∃ t, mg "MAX_PLACES" = some (.int 9 t)
  c_MAX_TIES : ∃ t, mg "MAX_TIES" = some (.int 60 t)
  cl_Net : ClsN K "Net"
  no_Net_own_degrees : NoAt K "Net" "own_degrees"
  no_Net_own_near : NoAt K "Net" "own_near"
  no_Net_own_places : NoAt K "Net" "own_places"
  no_Net_own_ties : NoAt K "Net" "own_ties"
  mk_Net : MkN K mg "Net"
  ic_Net : IsiN K mg "Net"
  ex_InvalidLot : ExcN K mg "InvalidLot"
  ex_InvalidNet : ExcN K mg "InvalidNet"
  ex_InvalidOperation : ExcN K mg "InvalidOperation"
section
variable [HW]
variable {P : Program} {w : World} {K : PySem.W.Frag} {mg : Str → Option Value} {base : Heap}
theorem sc_Net___contains__ : FnScope N_Net___contains__ ["self", "value"] (defScope s_Net___contains__) := ⟨rfl, rfl, rfl, by decide +kernel, rfl, by decide +kernel, by decide +kernel⟩
theorem ok_Net___contains__ {c f : Addr} {fd : FuncData} (T : Txt w K mg)  (F : L2.Fun K "__contains__" "Net.__contains__" s_Net___contains__ f fd) (hc : clA K "Net" = some c) (hm : Meth K c "__contains__" f) : FnM P w K mg base 1 "Net" "__contains__" 2 [] D_Net___contains__ := by
  refine FnM.gc (fn_mkM (k := 0) (d := B_Net___contains__) F sc_Net___contains__ hc hm (F.binds (ps := ["self", "value"]) fun _ _ _ _ _ _ us hl => match us, hl with | [_, _], _ => rfl) fun cdv A outer s H E hr tk => ?_)
  have nd := sc_Net___contains__.nd
  have hu64 := hr.units
  have hu65 := hu65 hr
  have hw := T.hw
  have pso := passes_of (X := cxOf (L2.CX P w) P w K mg base N_Net___contains__ "Net.__contains__" (defScope s_Net___contains__) f cdv A outer s H E) rfl
  refine ss_one ?_
  refine sx_ret ?_
  refine ex_and ?_ ?_
  · refine ex_cb (callP_isi) rfl T.z_isinstance bt_isinstance ?_
    refine ax_cons ?_ ?_
    · exact ex_v 1
    refine ax_cons ?_ ?_
    · exact ex_bltn rfl T.z_str bt_str
    exact ax_nil
  refine ex_one ?_
  refine ex_cmp (opP_inD hu65) ?_ ?_
  · exact ex_v 1
  refine ex_fld T.cl_Net T.no_Net_own_places ?_
  exact ex_v 0

theorem sc_is_integer : FnScope N_is_integer ["value"] (defScope s_is_integer) := ⟨rfl, rfl, rfl, by decide +kernel, rfl, by decide +kernel, by decide +kernel⟩
theorem ok_is_integer {f : Addr} {fd : FuncData} (T : Txt w K mg)  (F : L2.Fun K "is_integer" "is_integer" s_is_integer f fd) (hm : mg "is_integer" = some (.ref f)) : Fn P w K mg base 1 "is_integer" 1 [] D_is_integer := by
  refine Fn.gc (fn_mk' (k := 0) (d := B_is_integer) F sc_is_integer hm (F.binds (ps := ["value"]) fun _ _ _ _ _ _ us hl => match us, hl with | [_], _ => rfl) fun cdv A outer s H E hr tk => ?_)
  have nd := sc_is_integer.nd
  have hu64 := hr.units
  have hu65 := hu65 hr
  have hw := T.hw
  have pso := passes_of (X := cxOf (L2.CX P w) P w K mg base N_is_integer "is_integer" (defScope s_is_integer) f cdv A outer s H E) rfl
  refine ss_one ?_
  refine sx_ret ?_
  refine ex_and ?_ ?_
  · refine ex_cb (callP_isi) rfl T.z_isinstance bt_isinstance ?_
    refine ax_cons ?_ ?_
    · exact ex_v 0
    refine ax_cons ?_ ?_
    · exact ex_bltn rfl T.z_int bt_int
    exact ax_nil
  refine ex_and ?_ ?_
  · refine ex_not ?_
    refine ex_cb (callP_isi) rfl T.z_isinstance bt_isinstance ?_
    refine ax_cons ?_ ?_
    · exact ex_v 0
    refine ax_cons ?_ ?_
    · exact ex_bltn rfl T.z_bool bt_bool
    exact ax_nil
  refine ex_one ?_
  refine ex_chain opP_lt opP_lt ?_ ?_ ?_
  · refine ex_neg ?_
    exact ex_globI rfl T.c_LONGEST
  · exact ex_v 0
  exact ex_globI rfl T.c_LONGEST

theorem sc_is_word : FnScope N_is_word ["value"] (defScope s_is_word) := ⟨rfl, rfl, rfl, by decide +kernel, rfl, by decide +kernel, by decide +kernel⟩
theorem ok_is_word {f : Addr} {fd : FuncData} (T : Txt w K mg)  (F : L2.Fun K "is_word" "is_word" s_is_word f fd) (hm : mg "is_word" = some (.ref f)) : Fn P w K mg base 1 "is_word" 1 [] D_is_word := by
  refine Fn.gc (fn_mk' (k := 0) (d := B_is_word) F sc_is_word hm (F.binds (ps := ["value"]) fun _ _ _ _ _ _ us hl => match us, hl with | [_], _ => rfl) fun cdv A outer s H E hr tk => ?_)
  have nd := sc_is_word.nd
  have hu64 := hr.units
  have hu65 := hu65 hr
  have hw := T.hw
  have pso := passes_of (X := cxOf (L2.CX P w) P w K mg base N_is_word "is_word" (defScope s_is_word) f cdv A outer s H E) rfl
  refine ss_one ?_
  refine sx_ret ?_
  refine ex_and ?_ ?_
  · refine ex_cb (callP_isi) rfl T.z_isinstance bt_isinstance ?_
    refine ax_cons ?_ ?_
    · exact ex_v 0
    refine ax_cons ?_ ?_
    · exact ex_bltn rfl T.z_str bt_str
    exact ax_nil
  refine ex_and ?_ ?_
  · refine ex_chain opP_le opP_le ?_ ?_ ?_
    · exact ex_int
    · refine ex_cb (callP_lenE hw) rfl T.z_len bt_len ?_
      refine ax_cons ?_ ?_
      · exact ex_v 0
      exact ax_nil
    exact ex_globI rfl T.c_MAX_LETTERS
  refine ex_one ?_
  refine ex_cb (callP_all rfl) rfl T.z_all bt_all ?_
  refine ax_cons ?_ ?_
  · refine ex_f ?_
    refine ef_lc (own := [("sign", 1)]) (us := [1]) rfl nd ?_ (blkOk_by (own := [("sign", 1)]) (N := N_is_word) (sc := defScope s_is_word) (by decide +kernel)) (by decide) ?_ ?_ ?_
    · refine ix_ad ?_
      exact ex_v 0
    · intro _ _ _ _ _
      exact gx_name (i := 1) nd rfl (Or.inl rfl)
    · intro _ _ _ _ _
      exact ts_nil
    intro _ _ _ _ _
    refine ex_cmp (opP_inD hu65) ?_ ?_
    · exact ex_v 1
    exact ex_globS rfl T.c_LETTERS
  exact ax_nil

theorem sc_ascending_rows : FnScope N_ascending_rows ["rows"] (defScope s_ascending_rows) := ⟨rfl, rfl, rfl, by decide +kernel, rfl, by decide +kernel, by decide +kernel⟩
theorem ok_ascending_rows {f : Addr} {fd : FuncData} (T : Txt w K mg)  (F : L2.Fun K "ascending_rows" "ascending_rows" s_ascending_rows f fd) (hm : mg "ascending_rows" = some (.ref f)) : Fn P w K mg base 1 "ascending_rows" 1 [] D_ascending_rows := by
  refine Fn.gc (fn_mk' (k := 0) (d := B_ascending_rows) F sc_ascending_rows hm (F.binds (ps := ["rows"]) fun _ _ _ _ _ _ us hl => match us, hl with | [_], _ => rfl) fun cdv A outer s H E hr tk => ?_)
  have nd := sc_ascending_rows.nd
  have hu64 := hr.units
  have hu65 := hu65 hr
  have hw := T.hw
  have pso := passes_of (X := cxOf (L2.CX P w) P w K mg base N_ascending_rows "ascending_rows" (defScope s_ascending_rows) f cdv A outer s H E) rfl
  refine ss_one ?_
  refine sx_ret ?_
  refine ex_f ?_
  refine ef_dc (Nat.lt_of_le_of_lt (Nat.add_le_add_left (by decide : 1 ≤ 64) _) hu64) (own := [("key", 1)]) (us := [1]) rfl nd ?_ (blkOk_by (own := [("key", 1)]) (N := N_ascending_rows) (sc := defScope s_ascending_rows) (by decide +kernel)) (by decide) ?_ ?_ ?_ ?_
  · refine ix_ad ?_
    refine ex_f ?_
    refine ef_cb (callF_sortedE hw hu64 rfl) rfl T.z_sorted bt_sorted ?_
    refine ax_cons ?_ ?_
    · refine ex_f ?_
      refine ef_ct (callF_listD rfl) rfl T.z_list bt_list ?_
      refine ax_cons ?_ ?_
      · exact ex_v 0
      exact ax_nil
    exact ax_nil
  · intro _ _ _ _ _
    exact gx_name (i := 1) nd rfl (Or.inl rfl)
  · intro _ _ _ _ _
    exact ts_nil
  · intro _ _ _ _ _
    exact ex_v 1
  intro _ _ _ _ _
  refine ex_ixM hu64 hw ?_ ?_
  · exact ex_v 0
  exact ex_v 1

theorem sc_integer_of_word : FnScope N_integer_of_word ["word"] (defScope s_integer_of_word) := ⟨rfl, rfl, rfl, by decide +kernel, rfl, by decide +kernel, by decide +kernel⟩
theorem ok_integer_of_word {f : Addr} {fd : FuncData} (T : Txt w K mg)  (F : L2.Fun K "integer_of_word" "integer_of_word" s_integer_of_word f fd) (hm : mg "integer_of_word" = some (.ref f)) : Fn P w K mg base 1 "integer_of_word" 1 [] D_integer_of_word := by
  refine Fn.gc (fn_mk' (k := 0) (d := B_integer_of_word) F sc_integer_of_word hm (F.binds (ps := ["word"]) fun _ _ _ _ _ _ us hl => match us, hl with | [_], _ => rfl) fun cdv A outer s H E hr tk => ?_)
  have nd := sc_integer_of_word.nd
  have hu64 := hr.units
  have hu65 := hu65 hr
  have hw := T.hw
  have pso := passes_of (X := cxOf (L2.CX P w) P w K mg base N_integer_of_word "integer_of_word" (defScope s_integer_of_word) f cdv A outer s H E) rfl
  refine ss_cons ?_ ?_
  · refine sx_if ?_ ?_ ?_
    · refine bx_w ?_
      refine wx_or ?_ ?_
      · refine bx_not ?_
        refine bx_chain opP_le opP_le ?_ ?_ ?_
        · exact ex_int
        · refine ex_cb (callP_lenE hw) rfl T.z_len bt_len ?_
          refine ax_cons ?_ ?_
          · exact ex_v 0
          exact ax_nil
        exact ex_int
      refine wx_or ?_ ?_
      · refine bx_not ?_
        refine bx_val ?_
        refine ex_cb (callP_all rfl) rfl T.z_all bt_all ?_
        refine ax_cons ?_ ?_
        · refine ex_f ?_
          refine ef_lc (own := [("sign", 1)]) (us := [1]) rfl nd ?_ (blkOk_by (own := [("sign", 1)]) (N := N_integer_of_word) (sc := defScope s_integer_of_word) (by decide +kernel)) (by decide) ?_ ?_ ?_
          · refine ix_ad ?_
            exact ex_v 0
          · intro _ _ _ _ _
            exact gx_name (i := 1) nd rfl (Or.inl rfl)
          · intro _ _ _ _ _
            exact ts_nil
          intro _ _ _ _ _
          refine ex_cmp (opP_inD hu65) ?_ ?_
          · exact ex_v 1
          exact ex_globS rfl T.c_DIGITS
        exact ax_nil
      refine wx_or1 ?_
      refine bx_cmp (opP_eq hu64) ?_ ?_
      · refine ex_ixM hu64 hw ?_ ?_
        · exact ex_v 0
        exact ex_int
      exact ex_str
    · refine ss_one ?_
      refine sx_ret ?_
      exact ex_non
    exact ss_nil
  refine ss_one ?_
  refine sx_ret ?_
  refine ex_ct (callP_intS) rfl T.z_int bt_int ?_
  refine ax_cons ?_ ?_
  · exact ex_v 0
  exact ax_nil

theorem sc_require_net : FnScope N_require_net ["value"] (defScope s_require_net) := ⟨rfl, rfl, rfl, by decide +kernel, rfl, by decide +kernel, by decide +kernel⟩
theorem ok_require_net {f : Addr} {fd : FuncData} (T : Txt w K mg)  (F : L2.Fun K "require_net" "require_net" s_require_net f fd) (hm : mg "require_net" = some (.ref f)) : Fn P w K mg base 1 "require_net" 1 [] D_require_net := by
  refine Fn.gc (fn_mk' (k := 0) (d := B_require_net) F sc_require_net hm (F.binds (ps := ["value"]) fun _ _ _ _ _ _ us hl => match us, hl with | [_], _ => rfl) fun cdv A outer s H E hr tk => ?_)
  have nd := sc_require_net.nd
  have hu64 := hr.units
  have hu65 := hu65 hr
  have hw := T.hw
  have pso := passes_of (X := cxOf (L2.CX P w) P w K mg base N_require_net "require_net" (defScope s_require_net) f cdv A outer s H E) rfl
  refine ss_one ?_
  refine sx_if ?_ ?_ ?_
  · refine bx_not ?_
    refine bx_val ?_
    refine ex_isiC T.ic_Net rfl rfl T.z_isinstance bt_isinstance ?_
    exact ex_v 0
  · refine ss_one ?_
    exact sx_raise rfl tk T.ex_InvalidNet rfl
  exact ss_nil

theorem sc_cut_in : FnScope N_cut_in ["net", "lot"] (defScope s_cut_in) := ⟨rfl, rfl, rfl, by decide +kernel, rfl, by decide +kernel, by decide +kernel⟩
theorem ok_cut_in {f : Addr} {fd : FuncData} (T : Txt w K mg)  (F : L2.Fun K "cut_in" "cut_in" s_cut_in f fd) (hm : mg "cut_in" = some (.ref f)) : Fn P w K mg base 1 "cut_in" 2 [] D_cut_in := by
  refine Fn.gc (fn_mk' (k := 0) (d := B_cut_in) F sc_cut_in hm (F.binds (ps := ["net", "lot"]) fun _ _ _ _ _ _ us hl => match us, hl with | [_, _], _ => rfl) fun cdv A outer s H E hr tk => ?_)
  have nd := sc_cut_in.nd
  have hu64 := hr.units
  have hu65 := hu65 hr
  have hw := T.hw
  have pso := passes_of (X := cxOf (L2.CX P w) P w K mg base N_cut_in "cut_in" (defScope s_cut_in) f cdv A outer s H E) rfl
  refine ss_one ?_
  refine sx_ret ?_
  refine ex_cb (callP_sum rfl) rfl T.z_sum bt_sum ?_
  refine ax_cons ?_ ?_
  · refine ex_f ?_
    refine ef_lc (own := [("many", 4), ("one", 2), ("other", 3)]) (us := [2, 3, 4]) rfl nd ?_ (blkOk_by (own := [("many", 4), ("one", 2), ("other", 3)]) (N := N_cut_in) (sc := defScope s_cut_in) (by decide +kernel)) (by decide) ?_ ?_ ?_
    · refine ix_items ?_
      refine ex_fld T.cl_Net T.no_Net_own_ties ?_
      exact ex_v 0
    · intro _ _ _ _ _
      refine gx_seq rfl ?_
      refine gs_cons (v1 := [2, 3]) (v2 := [4]) ?_ ?_
      · refine gx_seq rfl ?_
        refine gs_cons (v1 := [2]) (v2 := [3]) ?_ ?_
        · exact gx_name (i := 2) nd rfl (Or.inl rfl)
        refine gs_cons (v1 := [3]) (v2 := []) ?_ ?_
        · exact gx_name (i := 3) nd rfl (Or.inl rfl)
        exact gs_nil
      refine gs_cons (v1 := [4]) (v2 := []) ?_ ?_
      · exact gx_name (i := 4) nd rfl (Or.inl rfl)
      exact gs_nil
    · intro _ _ _ _ _
      refine ts_one ?_
      refine bx_cmp (opP_ne hu64) ?_ ?_
      · refine ex_cmp (opP_inD hu65) ?_ ?_
        · exact ex_v 2
        exact ex_v 1
      refine ex_cmp (opP_inD hu65) ?_ ?_
      · exact ex_v 3
      exact ex_v 1
    intro _ _ _ _ _
    exact ex_v 4
  exact ax_nil

theorem sc_opposite_in : FnScope N_opposite_in ["net", "lot"] (defScope s_opposite_in) := ⟨rfl, rfl, rfl, by decide +kernel, rfl, by decide +kernel, by decide +kernel⟩
theorem ok_opposite_in {f : Addr} {fd : FuncData} (T : Txt w K mg)  (F : L2.Fun K "opposite_in" "opposite_in" s_opposite_in f fd) (hm : mg "opposite_in" = some (.ref f)) : Fn P w K mg base 1 "opposite_in" 2 [] D_opposite_in := by
  refine Fn.gc (fn_mk' (k := 0) (d := B_opposite_in) F sc_opposite_in hm (F.binds (ps := ["net", "lot"]) fun _ _ _ _ _ _ us hl => match us, hl with | [_, _], _ => rfl) fun cdv A outer s H E hr tk => ?_)
  have nd := sc_opposite_in.nd
  have hu64 := hr.units
  have hu65 := hu65 hr
  have hw := T.hw
  have pso := passes_of (X := cxOf (L2.CX P w) P w K mg base N_opposite_in "opposite_in" (defScope s_opposite_in) f cdv A outer s H E) rfl
  refine ss_one ?_
  refine sx_ret ?_
  refine ex_ct (callP_tupleD rfl) rfl T.z_tuple bt_tuple ?_
  refine ax_cons ?_ ?_
  · refine ex_f ?_
    refine ef_lc (own := [("place", 2)]) (us := [2]) rfl nd ?_ (blkOk_by (own := [("place", 2)]) (N := N_opposite_in) (sc := defScope s_opposite_in) (by decide +kernel)) (by decide) ?_ ?_ ?_
    · refine ix_ad ?_
      refine ex_fld T.cl_Net T.no_Net_own_places ?_
      exact ex_v 0
    · intro _ _ _ _ _
      exact gx_name (i := 2) nd rfl (Or.inl rfl)
    · intro _ _ _ _ _
      refine ts_one ?_
      refine bx_cmp (opP_notInD hu65) ?_ ?_
      · exact ex_v 2
      exact ex_v 1
    intro _ _ _ _ _
    exact ex_v 2
  exact ax_nil

theorem sc_corners_in : FnScope N_corners_in ["net", "one", "other"] (defScope s_corners_in) := ⟨rfl, rfl, rfl, by decide +kernel, rfl, by decide +kernel, by decide +kernel⟩
theorem ok_corners_in {f : Addr} {fd : FuncData} (T : Txt w K mg)  (F : L2.Fun K "corners_in" "corners_in" s_corners_in f fd) (hm : mg "corners_in" = some (.ref f)) : Fn P w K mg base 1 "corners_in" 3 [] D_corners_in := by
  refine Fn.gc (fn_mk' (k := 0) (d := B_corners_in) F sc_corners_in hm (F.binds (ps := ["net", "one", "other"]) fun _ _ _ _ _ _ us hl => match us, hl with | [_, _, _], _ => rfl) fun cdv A outer s H E hr tk => ?_)
  have nd := sc_corners_in.nd
  have hu64 := hr.units
  have hu65 := hu65 hr
  have hw := T.hw
  have pso := passes_of (X := cxOf (L2.CX P w) P w K mg base N_corners_in "corners_in" (defScope s_corners_in) f cdv A outer s H E) rfl
  refine ss_cons ?_ ?_
  · refine sx_set (i := 3) nd rfl (Or.inr rfl) ?_
    refine ex_f ?_
    refine ef_lc (own := [("place", 4)]) (us := [4]) rfl nd ?_ (blkOk_by (own := [("place", 4)]) (N := N_corners_in) (sc := defScope s_corners_in) (by decide +kernel)) (by decide) ?_ ?_ ?_
    · refine ix_ad ?_
      refine ex_fld T.cl_Net T.no_Net_own_places ?_
      exact ex_v 0
    · intro _ _ _ _ _
      exact gx_name (i := 4) nd rfl (Or.inl rfl)
    · intro _ _ _ _ _
      exact ts_nil
    intro _ _ _ _ _
    refine ex_tup ?_
    refine ax_cons ?_ ?_
    · exact ex_v 4
    refine ax_cons ?_ ?_
    · refine ex_cmp (opP_inD hu65) ?_ ?_
      · exact ex_v 4
      exact ex_v 1
    refine ax_cons ?_ ?_
    · refine ex_cmp (opP_inD hu65) ?_ ?_
      · exact ex_v 4
      exact ex_v 2
    exact ax_nil
  refine ss_cons ?_ ?_
  · refine sx_set (i := 5) nd rfl (Or.inl rfl) ?_
    refine ex_tup ?_
    refine ax_cons ?_ ?_
    · refine ex_tup ?_
      refine ax_cons ?_ ?_
      · exact ex_bl
      refine ax_cons ?_ ?_
      · exact ex_bl
      exact ax_nil
    refine ax_cons ?_ ?_
    · refine ex_tup ?_
      refine ax_cons ?_ ?_
      · exact ex_bl
      refine ax_cons ?_ ?_
      · exact ex_bl
      exact ax_nil
    refine ax_cons ?_ ?_
    · refine ex_tup ?_
      refine ax_cons ?_ ?_
      · exact ex_bl
      refine ax_cons ?_ ?_
      · exact ex_bl
      exact ax_nil
    refine ax_cons ?_ ?_
    · refine ex_tup ?_
      refine ax_cons ?_ ?_
      · exact ex_bl
      refine ax_cons ?_ ?_
      · exact ex_bl
      exact ax_nil
    exact ax_nil
  refine ss_one ?_
  refine sx_ret ?_
  refine ex_ct (callP_tupleD rfl) rfl T.z_tuple bt_tuple ?_
  refine ax_cons ?_ ?_
  · refine ex_f ?_
    refine ef_lc (own := [("kind", 8)]) (us := [8]) rfl nd ?_ (blkOk_by (own := [("kind", 8)]) (N := N_corners_in) (sc := defScope s_corners_in) (by decide +kernel)) (by decide) ?_ ?_ ?_
    · refine ix_ad ?_
      exact ex_v 5
    · intro _ _ _ _ _
      exact gx_name (i := 8) nd rfl (Or.inr rfl)
    · intro _ _ _ _ _
      exact ts_nil
    intro _ _ _ _ _
    refine ex_ct (callP_tupleD rfl) rfl T.z_tuple bt_tuple ?_
    refine ax_cons ?_ ?_
    · refine ex_f ?_
      refine ef_lc (own := [("place", 4), ("first", 6), ("second", 7)]) (us := [4, 6, 7]) rfl nd ?_ (show BlkOk N_corners_in (relS _ (defScope s_corners_in)) _ [("place", 4), ("first", 6), ("second", 7)] from blkOk_by (by decide +kernel)) (by decide) ?_ ?_ ?_
      · refine ix_ad ?_
        exact ex_v 3
      · intro _ _ _ _ _
        refine gx_seq rfl ?_
        refine gs_cons (v1 := [4]) (v2 := [6, 7]) ?_ ?_
        · exact gx_name (i := 4) nd rfl (Or.inl rfl)
        refine gs_cons (v1 := [6]) (v2 := [7]) ?_ ?_
        · exact gx_name (i := 6) nd rfl (Or.inl rfl)
        refine gs_cons (v1 := [7]) (v2 := []) ?_ ?_
        · exact gx_name (i := 7) nd rfl (Or.inl rfl)
        exact gs_nil
      · intro _ _ _ _ _
        refine ts_one ?_
        refine bx_cmp (opP_eq hu64) ?_ ?_
        · refine ex_tup ?_
          refine ax_cons ?_ ?_
          · exact ex_v 6
          refine ax_cons ?_ ?_
          · exact ex_v 7
          exact ax_nil
        exact ex_v 8
      intro _ _ _ _ _
      exact ex_v 4
    exact ax_nil
  exact ax_nil

theorem sc_between_in : FnScope N_between_in ["net", "one", "other"] (defScope s_between_in) := ⟨rfl, rfl, rfl, by decide +kernel, rfl, by decide +kernel, by decide +kernel⟩
theorem ok_between_in {f : Addr} {fd : FuncData} (T : Txt w K mg)  (F : L2.Fun K "between_in" "between_in" s_between_in f fd) (hm : mg "between_in" = some (.ref f)) : Fn P w K mg base 1 "between_in" 3 [] D_between_in := by
  refine Fn.gc (fn_mk' (k := 0) (d := B_between_in) F sc_between_in hm (F.binds (ps := ["net", "one", "other"]) fun _ _ _ _ _ _ us hl => match us, hl with | [_, _, _], _ => rfl) fun cdv A outer s H E hr tk => ?_)
  have nd := sc_between_in.nd
  have hu64 := hr.units
  have hu65 := hu65 hr
  have hw := T.hw
  have pso := passes_of (X := cxOf (L2.CX P w) P w K mg base N_between_in "between_in" (defScope s_between_in) f cdv A outer s H E) rfl
  refine ss_cons ?_ ?_
  · refine sx_set (i := 3) nd rfl (Or.inl rfl) ?_
    exact ex_int
  refine ss_cons ?_ ?_
  · refine sx_for (vs := [4, 5]) pso rfl ?_ ?_ ?_
    · refine ix_items ?_
      refine ex_fld T.cl_Net T.no_Net_own_ties ?_
      exact ex_v 0
    · refine gx_seq rfl ?_
      refine gs_cons (v1 := [4]) (v2 := [5]) ?_ ?_
      · exact gx_name (i := 4) nd rfl (Or.inl rfl)
      refine gs_cons (v1 := [5]) (v2 := []) ?_ ?_
      · exact gx_name (i := 5) nd rfl (Or.inl rfl)
      exact gs_nil
    refine ss_one ?_
    refine sx_if ?_ ?_ ?_
    · refine bx_w ?_
      refine wx_or ?_ ?_
      · refine bx_w ?_
        refine wx_and ?_ ?_
        · refine bx_cmp (opP_inD hu65) ?_ ?_
          · refine ex_ixM hu64 hw ?_ ?_
            · exact ex_v 4
            exact ex_int
          exact ex_v 1
        refine wx_and1 ?_
        refine bx_cmp (opP_inD hu65) ?_ ?_
        · refine ex_ixM hu64 hw ?_ ?_
          · exact ex_v 4
          exact ex_int
        exact ex_v 2
      refine wx_or1 ?_
      refine bx_w ?_
      refine wx_and ?_ ?_
      · refine bx_cmp (opP_inD hu65) ?_ ?_
        · refine ex_ixM hu64 hw ?_ ?_
          · exact ex_v 4
          exact ex_int
        exact ex_v 2
      refine wx_and1 ?_
      refine bx_cmp (opP_inD hu65) ?_ ?_
      · refine ex_ixM hu64 hw ?_ ?_
        · exact ex_v 4
        exact ex_int
      exact ex_v 1
    · refine ss_one ?_
      refine sx_augI (i := 3) L2.ip_add nd rfl (Or.inl rfl) ?_
      exact ex_v 5
    exact ss_nil
  refine ss_one ?_
  refine sx_ret ?_
  exact ex_v 3

theorem sc__law_dice : FnScope N__law_dice ["script", "spot"] (defScope s__law_dice) := ⟨rfl, rfl, rfl, by decide +kernel, rfl, by decide +kernel, by decide +kernel⟩
theorem ok__law_dice {f : Addr} {fd : FuncData} (T : Txt w K mg)  (F : L2.Fun K "_law_dice" "_law_dice" s__law_dice f fd) (hm : mg "_law_dice" = some (.ref f)) : Fn P w K mg base 1 "_law_dice" 2 [] D__law_dice := by
  refine (fn_mk' (k := 0) (d := B__law_dice) F sc__law_dice hm (F.binds (ps := ["script", "spot"]) fun _ _ _ _ _ _ us hl => match us, hl with | [_, _], _ => rfl) fun cdv A outer s H E hr tk => ?_)
  have nd := sc__law_dice.nd
  have hu64 := hr.units
  have hu65 := hu65 hr
  have hw := T.hw
  have pso := passes_of (X := cxOf (L2.CX P w) P w K mg base N__law_dice "_law_dice" (defScope s__law_dice) f cdv A outer s H E) rfl
  refine ss_cons ?_ ?_
  · refine sx_set (i := 2) nd rfl (Or.inl rfl) ?_
    refine ex_bin opP_add ?_ ?_
    · refine ex_bin opP_mul ?_ ?_
      · exact ex_int
      exact ex_v 1
    exact ex_int
  refine ss_cons ?_ ?_
  · refine sx_if ?_ ?_ ?_
    · refine bx_cmp opP_lt ?_ ?_
      · exact ex_v 1
      refine ex_cb (callP_lenE hw) rfl T.z_len bt_len ?_
      refine ax_cons ?_ ?_
      · exact ex_v 0
      exact ax_nil
    · refine ss_one ?_
      refine sx_set (i := 2) nd rfl (Or.inl rfl) ?_
      refine ex_ixM hu64 hw ?_ ?_
      · exact ex_v 0
      exact ex_v 1
    exact ss_nil
  refine ss_cons ?_ ?_
  · refine sx_set (i := 3) nd rfl (Or.inl rfl) ?_
    refine ex_bin opP_mod ?_ ?_
    · refine ex_ct (callP_int) rfl T.z_int bt_int ?_
      refine ax_cons ?_ ?_
      · refine ex_cb (callP_abs) rfl T.z_abs bt_abs ?_
        refine ax_cons ?_ ?_
        · exact ex_v 2
        exact ax_nil
      exact ax_nil
    refine ex_bin opP_pow ?_ ?_
    · refine ex_bin opP_pow ?_ ?_
      · exact ex_int
      exact ex_int
    exact ex_int
  refine ss_cons ?_ ?_
  · refine sx_set (i := 4) nd rfl (Or.inl rfl) ?_
    refine ex_bin opP_add ?_ ?_
    · refine ex_bin opP_add ?_ ?_
      · refine ex_bin opP_add ?_ ?_
        · refine ex_bin opP_mul ?_ ?_
          · refine ex_bin opP_mod ?_ ?_
            · refine ex_ct (callP_int) rfl T.z_int bt_int ?_
              refine ax_cons ?_ ?_
              · exact ex_v 3
              exact ax_nil
            exact ex_int
          exact ex_int
        refine ex_bin opP_mul ?_ ?_
        · exact ex_int
        exact ex_v 1
      refine ex_bin opP_mul ?_ ?_
      · exact ex_int
      refine ex_ct (callP_int) rfl T.z_int bt_int ?_
      refine ax_cons ?_ ?_
      · refine ex_cmp opP_lt ?_ ?_
        · exact ex_v 2
        exact ex_int
      exact ax_nil
    exact ex_int
  refine ss_one ?_
  refine sx_ret ?_
  refine ex_cell ?_
  refine ef_lst ?_
  refine ax_cons ?_ ?_
  · refine ex_cb (callP_max2 rfl) rfl T.z_max bt_max ?_
    refine ax_cons ?_ ?_
    · exact ex_int
    refine ax_cons ?_ ?_
    · refine ex_bin opP_sub ?_ ?_
      · exact ex_v 3
      refine ex_bin opP_pow ?_ ?_
      · exact ex_int
      exact ex_int
    exact ax_nil
  refine ax_cons ?_ ?_
  · refine ex_bin opP_mod ?_ ?_
    · refine ex_ct (callP_int) rfl T.z_int bt_int ?_
      refine ax_cons ?_ ?_
      · exact ex_v 4
      exact ax_nil
    exact ex_int
  refine ax_cons ?_ ?_
  · exact ex_int
  exact ax_nil

theorem sc__law_roll : FnScope N__law_roll ["dice", "total"] (defScope s__law_roll) := ⟨rfl, rfl, rfl, by decide +kernel, rfl, by decide +kernel, by decide +kernel⟩
theorem ok__law_roll {f : Addr} {fd : FuncData} (T : Txt w K mg)  (F : L2.Fun K "_law_roll" "_law_roll" s__law_roll f fd) (hm : mg "_law_roll" = some (.ref f)) : Fn P w K mg base 1 "_law_roll" 2 [] D__law_roll := by
  refine Fn.gc (fn_mk' (k := 0) (d := B__law_roll) F sc__law_roll hm (F.binds (ps := ["dice", "total"]) fun _ _ _ _ _ _ us hl => match us, hl with | [_, _], _ => rfl) fun cdv A outer s H E hr tk => ?_)
  have nd := sc__law_roll.nd
  have hu64 := hr.units
  have hu65 := hu65 hr
  have hw := T.hw
  have pso := passes_of (X := cxOf (L2.CX P w) P w K mg base N__law_roll "_law_roll" (defScope s__law_roll) f cdv A outer s H E) rfl
  refine ss_cons ?_ ?_
  · refine sx_if ?_ ?_ ?_
    · refine bx_cmp opP_gt ?_ ?_
      · refine ex_ixM hu64 hw ?_ ?_
        · exact ex_v 0
        exact ex_int
      exact ex_int
    · refine ss_cons ?_ ?_
      · refine sx_set (i := 2) nd rfl (Or.inl rfl) ?_
        refine ex_bin opP_mod ?_ ?_
        · refine ex_ct (callP_int) rfl T.z_int bt_int ?_
          refine ax_cons ?_ ?_
          · refine ex_ixM hu64 hw ?_ ?_
            · exact ex_v 0
            exact ex_int
          exact ax_nil
        exact ex_v 1
      refine ss_cons ?_ ?_
      · refine sx_sub ?_ ?_ ?_ (setP_mix hu64 hw)
        · refine ex_bin opP_div ?_ ?_
          · refine ex_ixM hu64 hw ?_ ?_
            · exact ex_v 0
            exact ex_int
          exact ex_v 1
        · exact ex_v 0
        exact ex_int
      refine ss_one ?_
      refine sx_ret ?_
      exact ex_v 2
    exact ss_nil
  refine ss_cons ?_ ?_
  · refine sx_sub ?_ ?_ ?_ (setP_mix hu64 hw)
    · refine ex_bin opP_add ?_ ?_
      · refine ex_ixM hu64 hw ?_ ?_
        · exact ex_v 0
        exact ex_int
      exact ex_int
    · exact ex_v 0
    exact ex_int
  refine ss_cons ?_ ?_
  · refine sx_set (i := 3) nd rfl (Or.inl rfl) ?_
    refine ex_bin opP_mod ?_ ?_
    · refine ex_ct (callP_int) rfl T.z_int bt_int ?_
      refine ax_cons ?_ ?_
      · refine ex_bin opP_add ?_ ?_
        · refine ex_ixM hu64 hw ?_ ?_
          · exact ex_v 0
          exact ex_int
        refine ex_bin opP_mul ?_ ?_
        · exact ex_int
        refine ex_ixM hu64 hw ?_ ?_
        · exact ex_v 0
        exact ex_int
      exact ax_nil
    exact ex_int
  refine ss_cons ?_ ?_
  · refine sx_set (i := 4) nd rfl (Or.inl rfl) ?_
    refine ex_bin opP_add ?_ ?_
    · refine ex_bin opP_mul ?_ ?_
      · refine ex_bin opP_mod ?_ ?_
        · refine ex_ct (callP_int) rfl T.z_int bt_int ?_
          refine ax_cons ?_ ?_
          · refine ex_bin opP_mul ?_ ?_
            · exact ex_v 3
            exact ex_v 3
          exact ax_nil
        exact ex_int
      exact ex_v 3
    refine ex_bin opP_mul ?_ ?_
    · exact ex_int
    refine ex_ixM hu64 hw ?_ ?_
    · exact ex_v 0
    exact ex_int
  refine ss_cons ?_ ?_
  · refine sx_set (i := 4) nd rfl (Or.inl rfl) ?_
    refine ex_bin opP_mod ?_ ?_
    · refine ex_ct (callP_int) rfl T.z_int bt_int ?_
      refine ax_cons ?_ ?_
      · exact ex_v 4
      exact ax_nil
    exact ex_int
  refine ss_one ?_
  refine sx_ret ?_
  refine ex_bin opP_mod ?_ ?_
  · refine ex_ct (callP_int) rfl T.z_int bt_int ?_
    refine ax_cons ?_ ?_
    · refine ex_bin opP_div ?_ ?_
      · exact ex_v 4
      exact ex_int
    exact ax_nil
  exact ex_v 1

theorem sc__law_pair : FnScope N__law_pair ["one", "other"] (defScope s__law_pair) := ⟨rfl, rfl, rfl, by decide +kernel, rfl, by decide +kernel, by decide +kernel⟩
theorem ok__law_pair {f : Addr} {fd : FuncData} (T : Txt w K mg)  (F : L2.Fun K "_law_pair" "_law_pair" s__law_pair f fd) (hm : mg "_law_pair" = some (.ref f)) : Fn P w K mg base 1 "_law_pair" 2 [] D__law_pair := by
  refine Fn.gc (fn_mk' (k := 0) (d := B__law_pair) F sc__law_pair hm (F.binds (ps := ["one", "other"]) fun _ _ _ _ _ _ us hl => match us, hl with | [_, _], _ => rfl) fun cdv A outer s H E hr tk => ?_)
  have nd := sc__law_pair.nd
  have hu64 := hr.units
  have hu65 := hu65 hr
  have hw := T.hw
  have pso := passes_of (X := cxOf (L2.CX P w) P w K mg base N__law_pair "_law_pair" (defScope s__law_pair) f cdv A outer s H E) rfl
  refine ss_one ?_
  refine sx_ret ?_
  refine ex_if ?_ ?_ ?_
  · refine bx_cmp opP_lt ?_ ?_
    · exact ex_v 0
    exact ex_v 1
  · refine ex_tup ?_
    refine ax_cons ?_ ?_
    · exact ex_v 0
    refine ax_cons ?_ ?_
    · exact ex_v 1
    exact ax_nil
  refine ex_tup ?_
  refine ax_cons ?_ ?_
  · exact ex_v 1
  refine ax_cons ?_ ?_
  · exact ex_v 0
  exact ax_nil

theorem sc__law_pairs : FnScope N__law_pairs ["places"] (defScope s__law_pairs) := ⟨rfl, rfl, rfl, by decide +kernel, rfl, by decide +kernel, by decide +kernel⟩
theorem ok__law_pairs {f : Addr} {fd : FuncData} (T : Txt w K mg)  (F : L2.Fun K "_law_pairs" "_law_pairs" s__law_pairs f fd) (hm : mg "_law_pairs" = some (.ref f)) : Fn P w K mg base 1 "_law_pairs" 1 [] D__law_pairs := by
  refine Fn.gc (fn_mk' (k := 0) (d := B__law_pairs) F sc__law_pairs hm (F.binds (ps := ["places"]) fun _ _ _ _ _ _ us hl => match us, hl with | [_], _ => rfl) fun cdv A outer s H E hr tk => ?_)
  have nd := sc__law_pairs.nd
  have hu64 := hr.units
  have hu65 := hu65 hr
  have hw := T.hw
  have pso := passes_of (X := cxOf (L2.CX P w) P w K mg base N__law_pairs "_law_pairs" (defScope s__law_pairs) f cdv A outer s H E) rfl
  refine ss_cons ?_ ?_
  · refine sx_set (i := 1) nd rfl (Or.inl rfl) ?_
    refine ex_f ?_
    refine ef_lst ?_
    exact ax_nil
  refine ss_cons ?_ ?_
  · refine sx_for (vs := [2]) pso rfl ?_ ?_ ?_
    · refine ix_ad ?_
      exact ex_v 0
    · exact gx_name (i := 2) nd rfl (Or.inr rfl)
    refine ss_one ?_
    refine sx_set (i := 1) nd rfl (Or.inl rfl) ?_
    refine ex_bin opP_add ?_ ?_
    · exact ex_v 1
    refine ex_f ?_
    refine ef_lc (own := [("other", 3)]) (us := [3]) rfl nd ?_ (blkOk_by (own := [("other", 3)]) (N := N__law_pairs) (sc := defScope s__law_pairs) (by decide +kernel)) (by decide) ?_ ?_ ?_
    · refine ix_ad ?_
      exact ex_v 0
    · intro _ _ _ _ _
      exact gx_name (i := 3) nd rfl (Or.inl rfl)
    · intro _ _ _ _ _
      refine ts_one ?_
      refine bx_cmp opP_lt ?_ ?_
      · exact ex_v 2
      exact ex_v 3
    intro _ _ _ _ _
    refine ex_tup ?_
    refine ax_cons ?_ ?_
    · exact ex_v 2
    refine ax_cons ?_ ?_
    · exact ex_v 3
    exact ax_nil
  refine ss_one ?_
  refine sx_ret ?_
  exact ex_v 1

theorem sc__law_with : FnScope N__law_with ["net", "pair", "more"] (defScope s__law_with) := ⟨rfl, rfl, rfl, by decide +kernel, rfl, by decide +kernel, by decide +kernel⟩
theorem ok__law_with {f : Addr} {fd : FuncData} (T : Txt w K mg)  (F : L2.Fun K "_law_with" "_law_with" s__law_with f fd) (hm : mg "_law_with" = some (.ref f)) : Fn P w K mg base 1 "_law_with" 3 [] D__law_with := by
  refine (fn_mk' (k := 0) (d := B__law_with) F sc__law_with hm (F.binds (ps := ["net", "pair", "more"]) fun _ _ _ _ _ _ us hl => match us, hl with | [_, _, _], _ => rfl) fun cdv A outer s H E hr tk => ?_)
  have nd := sc__law_with.nd
  have hu64 := hr.units
  have hu65 := hu65 hr
  have hw := T.hw
  have pso := passes_of (X := cxOf (L2.CX P w) P w K mg base N__law_with "_law_with" (defScope s__law_with) f cdv A outer s H E) rfl
  refine ss_cons ?_ ?_
  · refine sx_set (i := 3) nd rfl (Or.inl rfl) ?_
    refine ex_cell ?_
    refine ef_ct (callF_dictP rfl hu64) rfl T.z_dict bt_dict ?_
    refine ax_cons ?_ ?_
    · refine ex_f ?_
      refine ef_items rfl ?_ rfl T.z_list bt_list
      refine ex_ixM hu64 hw ?_ ?_
      · exact ex_v 0
      exact ex_str
    exact ax_nil
  refine ss_cons ?_ ?_
  · refine sx_sub ?_ ?_ ?_ (setP_mix hu64 hw)
    · refine ex_bin opP_add ?_ ?_
      · refine ex_dm PySem.F.slot_dict_get PySem.F.type_dict_get (mtP_get (Nat.lt_of_le_of_lt (Nat.add_le_add_left (by decide : 1 ≤ 64) _) hu64)) ?_ ?_
        · exact ex_v 3
        refine ax_cons ?_ ?_
        · exact ex_v 1
        refine ax_cons ?_ ?_
        · exact ex_int
        exact ax_nil
      exact ex_v 2
    · exact ex_v 3
    exact ex_v 1
  refine ss_cons ?_ ?_
  · refine sx_if ?_ ?_ ?_
    · refine bx_cmp (opP_eq hu64) ?_ ?_
      · refine ex_ixM hu64 hw ?_ ?_
        · exact ex_v 3
        exact ex_v 1
      exact ex_int
    · refine ss_one ?_
      refine sx_expr ?_
      refine ex_m tyM_lst PySem.F.plainAttrs_list PySem.F.slot_list_pop PySem.F.type_list_pop mtP_pop ?_ ?_
      · exact ex_v 3
      refine ax_cons ?_ ?_
      · exact ex_v 1
      exact ax_nil
    exact ss_nil
  refine ss_one ?_
  refine sx_ret ?_
  refine ex_f ?_
  refine ef_dispK [((dK (.str "places")), (dCB cListD (dCons (dBin pIxM (dV 0) (dK (.str "places"))) dNil))), ((dK (.str "ties")), (dV 3))] ?_ rfl rfl (by intro z; cases z) (by decide)
  refine pps_1 ?_ ?_ ?_
  · exact ex_str
  · refine ex_f ?_
    refine ef_ct (callF_listD rfl) rfl T.z_list bt_list ?_
    refine ax_cons ?_ ?_
    · refine ex_ixM hu64 hw ?_ ?_
      · exact ex_v 0
      exact ex_str
    exact ax_nil
  refine pps_1 ?_ ?_ ?_
  · exact ex_str
  · exact ex_v 3
  exact pps_0

theorem sc__law_cut : FnScope N__law_cut ["net", "lot"] (defScope s__law_cut) := ⟨rfl, rfl, rfl, by decide +kernel, rfl, by decide +kernel, by decide +kernel⟩
theorem ok__law_cut {f : Addr} {fd : FuncData} (T : Txt w K mg)  (F : L2.Fun K "_law_cut" "_law_cut" s__law_cut f fd) (hm : mg "_law_cut" = some (.ref f)) : Fn P w K mg base 1 "_law_cut" 2 [] D__law_cut := by
  refine Fn.gc (fn_mk' (k := 0) (d := B__law_cut) F sc__law_cut hm (F.binds (ps := ["net", "lot"]) fun _ _ _ _ _ _ us hl => match us, hl with | [_, _], _ => rfl) fun cdv A outer s H E hr tk => ?_)
  have nd := sc__law_cut.nd
  have hu64 := hr.units
  have hu65 := hu65 hr
  have hw := T.hw
  have pso := passes_of (X := cxOf (L2.CX P w) P w K mg base N__law_cut "_law_cut" (defScope s__law_cut) f cdv A outer s H E) rfl
  refine ss_one ?_
  refine sx_ret ?_
  refine ex_cb (callP_sum rfl) rfl T.z_sum bt_sum ?_
  refine ax_cons ?_ ?_
  · refine ex_f ?_
    refine ef_lc (own := [("pair", 2)]) (us := [2]) rfl nd ?_ (blkOk_by (own := [("pair", 2)]) (N := N__law_cut) (sc := defScope s__law_cut) (by decide +kernel)) (by decide) ?_ ?_ ?_
    · refine ix_ad ?_
      refine ex_ixM hu64 hw ?_ ?_
      · exact ex_v 0
      exact ex_str
    · intro _ _ _ _ _
      exact gx_name (i := 2) nd rfl (Or.inl rfl)
    · intro _ _ _ _ _
      refine ts_one ?_
      refine bx_cmp (opP_ne hu64) ?_ ?_
      · refine ex_cmp (opP_inD hu65) ?_ ?_
        · refine ex_ixM hu64 hw ?_ ?_
          · exact ex_v 2
          exact ex_int
        exact ex_v 1
      refine ex_cmp (opP_inD hu65) ?_ ?_
      · refine ex_ixM hu64 hw ?_ ?_
        · exact ex_v 2
        exact ex_int
      exact ex_v 1
    intro _ _ _ _ _
    refine ex_ixM hu64 hw ?_ ?_
    · refine ex_ixM hu64 hw ?_ ?_
      · exact ex_v 0
      exact ex_str
    exact ex_v 2
  exact ax_nil

theorem sc_is_within : FnScope N_is_within ["value", "least", "most"] (defScope s_is_within) := ⟨rfl, rfl, rfl, by decide +kernel, rfl, by decide +kernel, by decide +kernel⟩
theorem ok_is_within {f : Addr} {fd : FuncData} (T : Txt w K mg) (G_is_integer : Fn P w K mg base 1 "is_integer" 1 [] D_is_integer) (F : L2.Fun K "is_within" "is_within" s_is_within f fd) (hm : mg "is_within" = some (.ref f)) : Fn P w K mg base 2 "is_within" 3 [] D_is_within := by
  refine Fn.gc (fn_mk' (k := 1) (d := B_is_within) F sc_is_within hm (F.binds (ps := ["value", "least", "most"]) fun _ _ _ _ _ _ us hl => match us, hl with | [_, _, _], _ => rfl) fun cdv A outer s H E hr tk => ?_)
  have nd := sc_is_within.nd
  have hu64 := hr.units
  have hu65 := hu65 hr
  have hw := T.hw
  have pso := passes_of (X := cxOf (L2.CX P w) P w K mg base N_is_within "is_within" (defScope s_is_within) f cdv A outer s H E) rfl
  refine ss_one ?_
  refine sx_ret ?_
  refine ex_and ?_ ?_
  · refine ex_call G_is_integer (hr.mono (by decide)) tk rfl ?_
    refine ax_cons ?_ ?_
    · exact ex_v 0
    exact ax_nil
  refine ex_one ?_
  refine ex_chain opP_le opP_le ?_ ?_ ?_
  · exact ex_v 1
  · exact ex_v 0
  exact ex_v 2

theorem sc_is_pair : FnScope N_is_pair ["value"] (defScope s_is_pair) := ⟨rfl, rfl, rfl, by decide +kernel, rfl, by decide +kernel, by decide +kernel⟩
theorem ok_is_pair {f : Addr} {fd : FuncData} (T : Txt w K mg) (G_is_word : Fn P w K mg base 1 "is_word" 1 [] D_is_word) (F : L2.Fun K "is_pair" "is_pair" s_is_pair f fd) (hm : mg "is_pair" = some (.ref f)) : Fn P w K mg base 2 "is_pair" 1 [] D_is_pair := by
  refine Fn.gc (fn_mk' (k := 1) (d := B_is_pair) F sc_is_pair hm (F.binds (ps := ["value"]) fun _ _ _ _ _ _ us hl => match us, hl with | [_], _ => rfl) fun cdv A outer s H E hr tk => ?_)
  have nd := sc_is_pair.nd
  have hu64 := hr.units
  have hu65 := hu65 hr
  have hw := T.hw
  have pso := passes_of (X := cxOf (L2.CX P w) P w K mg base N_is_pair "is_pair" (defScope s_is_pair) f cdv A outer s H E) rfl
  refine ss_cons ?_ ?_
  · refine sx_if ?_ ?_ ?_
    · refine bx_w ?_
      refine wx_or ?_ ?_
      · refine bx_not ?_
        refine bx_val ?_
        refine ex_cb (callP_isi) rfl T.z_isinstance bt_isinstance ?_
        refine ax_cons ?_ ?_
        · exact ex_v 0
        refine ax_cons ?_ ?_
        · exact ex_bltn rfl T.z_tuple bt_tuple
        exact ax_nil
      refine wx_or ?_ ?_
      · refine bx_cmp (opP_ne hu64) ?_ ?_
        · refine ex_cb (callP_lenE hw) rfl T.z_len bt_len ?_
          refine ax_cons ?_ ?_
          · exact ex_v 0
          exact ax_nil
        exact ex_int
      refine wx_or ?_ ?_
      · refine bx_not ?_
        refine bx_val ?_
        refine ex_call G_is_word (hr.mono (by decide)) tk rfl ?_
        refine ax_cons ?_ ?_
        · refine ex_ixM hu64 hw ?_ ?_
          · exact ex_v 0
          exact ex_int
        exact ax_nil
      refine wx_or1 ?_
      refine bx_not ?_
      refine bx_val ?_
      refine ex_call G_is_word (hr.mono (by decide)) tk rfl ?_
      refine ax_cons ?_ ?_
      · refine ex_ixM hu64 hw ?_ ?_
        · exact ex_v 0
        exact ex_int
      exact ax_nil
    · refine ss_one ?_
      refine sx_ret ?_
      exact ex_bl
    exact ss_nil
  refine ss_one ?_
  refine sx_ret ?_
  refine ex_cmp opP_lt ?_ ?_
  · refine ex_ixM hu64 hw ?_ ?_
    · exact ex_v 0
    exact ex_int
  refine ex_ixM hu64 hw ?_ ?_
  · exact ex_v 0
  exact ex_int

theorem sc_are_places : FnScope N_are_places ["value"] (defScope s_are_places) := ⟨rfl, rfl, rfl, by decide +kernel, rfl, by decide +kernel, by decide +kernel⟩
theorem ok_are_places {f : Addr} {fd : FuncData} (T : Txt w K mg) (G_is_word : Fn P w K mg base 1 "is_word" 1 [] D_is_word) (F : L2.Fun K "are_places" "are_places" s_are_places f fd) (hm : mg "are_places" = some (.ref f)) : Fn P w K mg base 2 "are_places" 1 [] D_are_places := by
  refine Fn.gc (fn_mk' (k := 1) (d := B_are_places) F sc_are_places hm (F.binds (ps := ["value"]) fun _ _ _ _ _ _ us hl => match us, hl with | [_], _ => rfl) fun cdv A outer s H E hr tk => ?_)
  have nd := sc_are_places.nd
  have hu64 := hr.units
  have hu65 := hu65 hr
  have hw := T.hw
  have pso := passes_of (X := cxOf (L2.CX P w) P w K mg base N_are_places "are_places" (defScope s_are_places) f cdv A outer s H E) rfl
  refine ss_cons ?_ ?_
  · refine sx_if ?_ ?_ ?_
    · refine bx_w ?_
      refine wx_or ?_ ?_
      · refine bx_not ?_
        refine bx_val ?_
        refine ex_cb (callP_isi) rfl T.z_isinstance bt_isinstance ?_
        refine ax_cons ?_ ?_
        · exact ex_v 0
        refine ax_cons ?_ ?_
        · exact ex_bltn rfl T.z_tuple bt_tuple
        exact ax_nil
      refine wx_or ?_ ?_
      · refine bx_not ?_
        refine bx_chain opP_le opP_le ?_ ?_ ?_
        · exact ex_int
        · refine ex_cb (callP_lenE hw) rfl T.z_len bt_len ?_
          refine ax_cons ?_ ?_
          · exact ex_v 0
          exact ax_nil
        exact ex_globI rfl T.c_MAX_PLACES
      refine wx_or1 ?_
      refine bx_not ?_
      refine bx_val ?_
      refine ex_cb (callP_all rfl) rfl T.z_all bt_all ?_
      refine ax_cons ?_ ?_
      · refine ex_f ?_
        refine ef_lc (own := [("one", 1)]) (us := [1]) rfl nd ?_ (blkOk_by (own := [("one", 1)]) (N := N_are_places) (sc := defScope s_are_places) (by decide +kernel)) (by decide) ?_ ?_ ?_
        · refine ix_ad ?_
          exact ex_v 0
        · intro _ _ _ _ _
          exact gx_name (i := 1) nd rfl (Or.inl rfl)
        · intro _ _ _ _ _
          exact ts_nil
        intro _ _ _ _ _
        refine ex_call G_is_word (hr.mono (by decide)) takes0 rfl ?_
        refine ax_cons ?_ ?_
        · exact ex_v 1
        exact ax_nil
      exact ax_nil
    · refine ss_one ?_
      refine sx_ret ?_
      exact ex_bl
    exact ss_nil
  refine ss_one ?_
  refine sx_ret ?_
  refine ex_cmp (opP_eq hu64) ?_ ?_
  · refine ex_cb (callP_lenE hw) rfl T.z_len bt_len ?_
    refine ax_cons ?_ ?_
    · refine ex_ct (callP_set hw rfl) rfl T.z_set bt_set ?_
      refine ax_cons ?_ ?_
      · exact ex_v 0
      exact ax_nil
    exact ax_nil
  refine ex_cb (callP_lenE hw) rfl T.z_len bt_len ?_
  refine ax_cons ?_ ?_
  · exact ex_v 0
  exact ax_nil

theorem sc_places_of_line : FnScope N_places_of_line ["line"] (defScope s_places_of_line) := ⟨rfl, rfl, rfl, by decide +kernel, rfl, by decide +kernel, by decide +kernel⟩
theorem ok_places_of_line {f : Addr} {fd : FuncData} (T : Txt w K mg) (G_is_word : Fn P w K mg base 1 "is_word" 1 [] D_is_word) (F : L2.Fun K "places_of_line" "places_of_line" s_places_of_line f fd) (hm : mg "places_of_line" = some (.ref f)) : Fn P w K mg base 2 "places_of_line" 1 [] D_places_of_line := by
  refine Fn.gc (fn_mk' (k := 1) (d := B_places_of_line) F sc_places_of_line hm (F.binds (ps := ["line"]) fun _ _ _ _ _ _ us hl => match us, hl with | [_], _ => rfl) fun cdv A outer s H E hr tk => ?_)
  have nd := sc_places_of_line.nd
  have hu64 := hr.units
  have hu65 := hu65 hr
  have hw := T.hw
  have pso := passes_of (X := cxOf (L2.CX P w) P w K mg base N_places_of_line "places_of_line" (defScope s_places_of_line) f cdv A outer s H E) rfl
  refine ss_cons ?_ ?_
  · refine sx_set (i := 1) nd rfl (Or.inl rfl) ?_
    refine ex_if ?_ ?_ ?_
    · refine bx_val ?_
      refine ex_cb (callP_isi) rfl T.z_isinstance bt_isinstance ?_
      refine ax_cons ?_ ?_
      · exact ex_v 0
      refine ax_cons ?_ ?_
      · exact ex_bltn rfl T.z_str bt_str
      exact ax_nil
    · refine ex_m tyM_str PySem.F.plainAttrs_str PySem.F.slot_str_split PySem.F.type_str_split mtP_split ?_ ?_
      · exact ex_v 0
      refine ax_cons ?_ ?_
      · exact ex_str
      exact ax_nil
    refine ex_f ?_
    refine ef_lst ?_
    exact ax_nil
  refine ss_cons ?_ ?_
  · refine sx_if ?_ ?_ ?_
    · refine bx_w ?_
      refine wx_or ?_ ?_
      · refine bx_cmp (opP_eq hu64) ?_ ?_
        · exact ex_v 1
        refine ex_f ?_
        refine ef_lst ?_
        exact ax_nil
      refine wx_or1 ?_
      refine bx_not ?_
      refine bx_val ?_
      refine ex_cb (callP_all rfl) rfl T.z_all bt_all ?_
      refine ax_cons ?_ ?_
      · refine ex_f ?_
        refine ef_lc (own := [("word", 2)]) (us := [2]) rfl nd ?_ (blkOk_by (own := [("word", 2)]) (N := N_places_of_line) (sc := defScope s_places_of_line) (by decide +kernel)) (by decide) ?_ ?_ ?_
        · refine ix_ad ?_
          exact ex_v 1
        · intro _ _ _ _ _
          exact gx_name (i := 2) nd rfl (Or.inl rfl)
        · intro _ _ _ _ _
          exact ts_nil
        intro _ _ _ _ _
        refine ex_call G_is_word (hr.mono (by decide)) takes0 rfl ?_
        refine ax_cons ?_ ?_
        · exact ex_v 2
        exact ax_nil
      exact ax_nil
    · refine ss_one ?_
      refine sx_ret ?_
      exact ex_non
    exact ss_nil
  refine ss_one ?_
  refine sx_ret ?_
  refine ex_if ?_ ?_ ?_
  · refine bx_cmp (opP_eq hu64) ?_ ?_
    · exact ex_v 1
    refine ex_f ?_
    refine ef_cb (callF_sortedE hw hu64 rfl) rfl T.z_sorted bt_sorted ?_
    refine ax_cons ?_ ?_
    · refine ex_ct (callP_set hw rfl) rfl T.z_set bt_set ?_
      refine ax_cons ?_ ?_
      · exact ex_v 1
      exact ax_nil
    exact ax_nil
  · refine ex_ct (callP_tupleD rfl) rfl T.z_tuple bt_tuple ?_
    refine ax_cons ?_ ?_
    · exact ex_v 1
    exact ax_nil
  exact ex_non

theorem sc_near_in : FnScope N_near_in ["ties", "place"] (defScope s_near_in) := ⟨rfl, rfl, rfl, by decide +kernel, rfl, by decide +kernel, by decide +kernel⟩
theorem ok_near_in {f : Addr} {fd : FuncData} (T : Txt w K mg) (G_ascending_rows : Fn P w K mg base 1 "ascending_rows" 1 [] D_ascending_rows) (F : L2.Fun K "near_in" "near_in" s_near_in f fd) (hm : mg "near_in" = some (.ref f)) : Fn P w K mg base 2 "near_in" 2 [] D_near_in := by
  refine Fn.gc (fn_mk' (k := 1) (d := B_near_in) F sc_near_in hm (F.binds (ps := ["ties", "place"]) fun _ _ _ _ _ _ us hl => match us, hl with | [_, _], _ => rfl) fun cdv A outer s H E hr tk => ?_)
  have nd := sc_near_in.nd
  have hu64 := hr.units
  have hu65 := hu65 hr
  have hw := T.hw
  have pso := passes_of (X := cxOf (L2.CX P w) P w K mg base N_near_in "near_in" (defScope s_near_in) f cdv A outer s H E) rfl
  refine ss_cons ?_ ?_
  · refine sx_set (i := 2) nd rfl (Or.inl rfl) ?_
    refine ex_cell ?_
    exact ef_dict0
  refine ss_cons ?_ ?_
  · refine sx_for (vs := [3, 4, 5]) pso rfl ?_ ?_ ?_
    · refine ix_items ?_
      exact ex_v 0
    · refine gx_seq rfl ?_
      refine gs_cons (v1 := [3, 4]) (v2 := [5]) ?_ ?_
      · refine gx_seq rfl ?_
        refine gs_cons (v1 := [3]) (v2 := [4]) ?_ ?_
        · exact gx_name (i := 3) nd rfl (Or.inl rfl)
        refine gs_cons (v1 := [4]) (v2 := []) ?_ ?_
        · exact gx_name (i := 4) nd rfl (Or.inl rfl)
        exact gs_nil
      refine gs_cons (v1 := [5]) (v2 := []) ?_ ?_
      · exact gx_name (i := 5) nd rfl (Or.inl rfl)
      exact gs_nil
    refine ss_one ?_
    refine sx_if ?_ ?_ ?_
    · refine bx_cmp (opP_eq hu64) ?_ ?_
      · exact ex_v 1
      exact ex_v 3
    · refine ss_one ?_
      refine sx_sub ?_ ?_ ?_ (setP_mix hu64 hw)
      · exact ex_v 5
      · exact ex_v 2
      exact ex_v 4
    refine ss_one ?_
    refine sx_if ?_ ?_ ?_
    · refine bx_cmp (opP_eq hu64) ?_ ?_
      · exact ex_v 1
      exact ex_v 4
    · refine ss_one ?_
      refine sx_sub ?_ ?_ ?_ (setP_mix hu64 hw)
      · exact ex_v 5
      · exact ex_v 2
      exact ex_v 3
    exact ss_nil
  refine ss_one ?_
  refine sx_ret ?_
  refine ex_call G_ascending_rows (hr.mono (by decide)) tk rfl ?_
  refine ax_cons ?_ ?_
  · exact ex_v 2
  exact ax_nil

theorem sc_is_lot_in : FnScope N_is_lot_in ["net", "value"] (defScope s_is_lot_in) := ⟨rfl, rfl, rfl, by decide +kernel, rfl, by decide +kernel, by decide +kernel⟩
theorem ok_is_lot_in {f : Addr} {fd : FuncData} (T : Txt w K mg) (G_Net___contains__ : FnM P w K mg base 1 "Net" "__contains__" 2 [] D_Net___contains__) (F : L2.Fun K "is_lot_in" "is_lot_in" s_is_lot_in f fd) (hm : mg "is_lot_in" = some (.ref f)) : Fn P w K mg base 2 "is_lot_in" 2 [] D_is_lot_in := by
  refine Fn.gc (fn_mk' (k := 1) (d := B_is_lot_in) F sc_is_lot_in hm (F.binds (ps := ["net", "value"]) fun _ _ _ _ _ _ us hl => match us, hl with | [_, _], _ => rfl) fun cdv A outer s H E hr tk => ?_)
  have nd := sc_is_lot_in.nd
  have hu64 := hr.units
  have hu65 := hu65 hr
  have hw := T.hw
  have pso := passes_of (X := cxOf (L2.CX P w) P w K mg base N_is_lot_in "is_lot_in" (defScope s_is_lot_in) f cdv A outer s H E) rfl
  refine ss_cons ?_ ?_
  · refine sx_if ?_ ?_ ?_
    · refine bx_w ?_
      refine wx_or ?_ ?_
      · refine bx_not ?_
        refine bx_val ?_
        refine ex_cb (callP_isi) rfl T.z_isinstance bt_isinstance ?_
        refine ax_cons ?_ ?_
        · exact ex_v 1
        refine ax_cons ?_ ?_
        · exact ex_bltn rfl T.z_tuple bt_tuple
        exact ax_nil
      refine wx_or1 ?_
      refine bx_not ?_
      refine bx_val ?_
      refine ex_cb (callP_all rfl) rfl T.z_all bt_all ?_
      refine ax_cons ?_ ?_
      · refine ex_f ?_
        refine ef_lc (own := [("one", 2)]) (us := [2]) rfl nd ?_ (blkOk_by (own := [("one", 2)]) (N := N_is_lot_in) (sc := defScope s_is_lot_in) (by decide +kernel)) (by decide) ?_ ?_ ?_
        · refine ix_ad ?_
          exact ex_v 1
        · intro _ _ _ _ _
          exact gx_name (i := 2) nd rfl (Or.inl rfl)
        · intro _ _ _ _ _
          exact ts_nil
        intro _ _ _ _ _
        refine ex_cmpM (opM_in G_Net___contains__ (hr.mono (by decide)) hu65) ?_ ?_
        · exact ex_v 2
        exact ex_v 0
      exact ax_nil
    · refine ss_one ?_
      refine sx_ret ?_
      exact ex_bl
    exact ss_nil
  refine ss_one ?_
  refine sx_ret ?_
  refine ex_cmp (opP_eq hu64) ?_ ?_
  · refine ex_f ?_
    refine ef_ct (callF_listD rfl) rfl T.z_list bt_list ?_
    refine ax_cons ?_ ?_
    · exact ex_v 1
    exact ax_nil
  refine ex_f ?_
  refine ef_cb (callF_sortedE hw hu64 rfl) rfl T.z_sorted bt_sorted ?_
  refine ax_cons ?_ ?_
  · refine ex_ct (callP_set hw rfl) rfl T.z_set bt_set ?_
    refine ax_cons ?_ ?_
    · exact ex_v 1
    exact ax_nil
  exact ax_nil

theorem sc__law_pick : FnScope N__law_pick ["dice", "items"] (defScope s__law_pick) := ⟨rfl, rfl, rfl, by decide +kernel, rfl, by decide +kernel, by decide +kernel⟩
theorem ok__law_pick {f : Addr} {fd : FuncData} (T : Txt w K mg) (G__law_roll : Fn P w K mg base 1 "_law_roll" 2 [] D__law_roll) (F : L2.Fun K "_law_pick" "_law_pick" s__law_pick f fd) (hm : mg "_law_pick" = some (.ref f)) : Fn P w K mg base 2 "_law_pick" 2 [] D__law_pick := by
  refine Fn.gc (fn_mk' (k := 1) (d := B__law_pick) F sc__law_pick hm (F.binds (ps := ["dice", "items"]) fun _ _ _ _ _ _ us hl => match us, hl with | [_, _], _ => rfl) fun cdv A outer s H E hr tk => ?_)
  have nd := sc__law_pick.nd
  have hu64 := hr.units
  have hu65 := hu65 hr
  have hw := T.hw
  have pso := passes_of (X := cxOf (L2.CX P w) P w K mg base N__law_pick "_law_pick" (defScope s__law_pick) f cdv A outer s H E) rfl
  refine ss_one ?_
  refine sx_ret ?_
  refine ex_ixM hu64 hw ?_ ?_
  · exact ex_v 1
  refine ex_call G__law_roll (hr.mono (by decide)) tk rfl ?_
  refine ax_cons ?_ ?_
  · exact ex_v 0
  refine ax_cons ?_ ?_
  · refine ex_cb (callP_lenE hw) rfl T.z_len bt_len ?_
    refine ax_cons ?_ ?_
    · exact ex_v 1
    exact ax_nil
  exact ax_nil

theorem sc__law_some : FnScope N__law_some ["dice", "items", "size"] (defScope s__law_some) := ⟨rfl, rfl, rfl, by decide +kernel, rfl, by decide +kernel, by decide +kernel⟩
theorem ok__law_some {f : Addr} {fd : FuncData} (T : Txt w K mg) (G__law_roll : Fn P w K mg base 1 "_law_roll" 2 [] D__law_roll) (F : L2.Fun K "_law_some" "_law_some" s__law_some f fd) (hm : mg "_law_some" = some (.ref f)) : Fn P w K mg base 2 "_law_some" 3 [] D__law_some := by
  refine Fn.gc (fn_mk' (k := 1) (d := B__law_some) F sc__law_some hm (F.binds (ps := ["dice", "items", "size"]) fun _ _ _ _ _ _ us hl => match us, hl with | [_, _, _], _ => rfl) fun cdv A outer s H E hr tk => ?_)
  have nd := sc__law_some.nd
  have hu64 := hr.units
  have hu65 := hu65 hr
  have hw := T.hw
  have pso := passes_of (X := cxOf (L2.CX P w) P w K mg base N__law_some "_law_some" (defScope s__law_some) f cdv A outer s H E) rfl
  refine ss_cons ?_ ?_
  · refine sx_set (i := 3) nd rfl (Or.inr rfl) ?_
    refine ex_cell ?_
    refine ef_ct (callF_listD rfl) rfl T.z_list bt_list ?_
    refine ax_cons ?_ ?_
    · exact ex_v 1
    exact ax_nil
  refine ss_one ?_
  refine sx_ret ?_
  refine ex_f ?_
  refine ef_lc (own := [("turn", 4)]) (us := [4]) rfl nd ?_ (blkOk_by (own := [("turn", 4)]) (N := N__law_some) (sc := defScope s__law_some) (by decide +kernel)) (by decide) ?_ ?_ ?_
  · refine ix_r1 rfl T.z_range ?_
    refine ax_cons ?_ ?_
    · refine ex_cb (callP_min2 rfl) rfl T.z_min bt_min ?_
      refine ax_cons ?_ ?_
      · exact ex_v 2
      refine ax_cons ?_ ?_
      · refine ex_cb (callP_lenE hw) rfl T.z_len bt_len ?_
        refine ax_cons ?_ ?_
        · exact ex_v 3
        exact ax_nil
      exact ax_nil
    exact ax_nil
  · intro _ _ _ _ _
    exact gx_name (i := 4) nd rfl (Or.inl rfl)
  · intro _ _ _ _ _
    exact ts_nil
  intro _ _ _ _ _
  refine ex_m tyM_lst PySem.F.plainAttrs_list PySem.F.slot_list_pop PySem.F.type_list_pop mtP_pop ?_ ?_
  · exact ex_v 3
  refine ax_cons ?_ ?_
  · refine ex_call G__law_roll (hr.mono (by decide)) takes0 rfl ?_
    refine ax_cons ?_ ?_
    · exact ex_v 0
    refine ax_cons ?_ ?_
    · refine ex_cb (callP_lenE hw) rfl T.z_len bt_len ?_
      refine ax_cons ?_ ?_
      · exact ex_v 3
      exact ax_nil
    exact ax_nil
  exact ax_nil

theorem sc__law_lot : FnScope N__law_lot ["dice", "net"] (defScope s__law_lot) := ⟨rfl, rfl, rfl, by decide +kernel, rfl, by decide +kernel, by decide +kernel⟩
theorem ok__law_lot {f : Addr} {fd : FuncData} (T : Txt w K mg) (G__law_roll : Fn P w K mg base 1 "_law_roll" 2 [] D__law_roll) (F : L2.Fun K "_law_lot" "_law_lot" s__law_lot f fd) (hm : mg "_law_lot" = some (.ref f)) : Fn P w K mg base 2 "_law_lot" 2 [] D__law_lot := by
  refine Fn.gc (fn_mk' (k := 1) (d := B__law_lot) F sc__law_lot hm (F.binds (ps := ["dice", "net"]) fun _ _ _ _ _ _ us hl => match us, hl with | [_, _], _ => rfl) fun cdv A outer s H E hr tk => ?_)
  have nd := sc__law_lot.nd
  have hu64 := hr.units
  have hu65 := hu65 hr
  have hw := T.hw
  have pso := passes_of (X := cxOf (L2.CX P w) P w K mg base N__law_lot "_law_lot" (defScope s__law_lot) f cdv A outer s H E) rfl
  refine ss_one ?_
  refine sx_ret ?_
  refine ex_ct (callP_tupleD rfl) rfl T.z_tuple bt_tuple ?_
  refine ax_cons ?_ ?_
  · refine ex_f ?_
    refine ef_lc (own := [("place", 2)]) (us := [2]) rfl nd ?_ (blkOk_by (own := [("place", 2)]) (N := N__law_lot) (sc := defScope s__law_lot) (by decide +kernel)) (by decide) ?_ ?_ ?_
    · refine ix_ad ?_
      refine ex_ixM hu64 hw ?_ ?_
      · exact ex_v 1
      exact ex_str
    · intro _ _ _ _ _
      exact gx_name (i := 2) nd rfl (Or.inl rfl)
    · intro _ _ _ _ _
      refine ts_one ?_
      refine bx_cmp (opP_eq hu64) ?_ ?_
      · refine ex_call G__law_roll (hr.mono (by decide)) takes0 rfl ?_
        refine ax_cons ?_ ?_
        · exact ex_v 0
        refine ax_cons ?_ ?_
        · exact ex_int
        exact ax_nil
      exact ex_int
    intro _ _ _ _ _
    exact ex_v 2
  exact ax_nil

theorem sc_are_ties : FnScope N_are_ties ["places", "value"] (defScope s_are_ties) := ⟨rfl, rfl, rfl, by decide +kernel, rfl, by decide +kernel, by decide +kernel⟩
theorem ok_are_ties {f : Addr} {fd : FuncData} (T : Txt w K mg) (G_is_pair : Fn P w K mg base 2 "is_pair" 1 [] D_is_pair) (G_is_within : Fn P w K mg base 2 "is_within" 3 [] D_is_within) (F : L2.Fun K "are_ties" "are_ties" s_are_ties f fd) (hm : mg "are_ties" = some (.ref f)) : Fn P w K mg base 3 "are_ties" 2 [] D_are_ties := by
  refine Fn.gc (fn_mk' (k := 2) (d := B_are_ties) F sc_are_ties hm (F.binds (ps := ["places", "value"]) fun _ _ _ _ _ _ us hl => match us, hl with | [_, _], _ => rfl) fun cdv A outer s H E hr tk => ?_)
  have nd := sc_are_ties.nd
  have hu64 := hr.units
  have hu65 := hu65 hr
  have hw := T.hw
  have pso := passes_of (X := cxOf (L2.CX P w) P w K mg base N_are_ties "are_ties" (defScope s_are_ties) f cdv A outer s H E) rfl
  refine ss_cons ?_ ?_
  · refine sx_if ?_ ?_ ?_
    · refine bx_w ?_
      refine wx_or ?_ ?_
      · refine bx_not ?_
        refine bx_val ?_
        refine ex_cb (callP_isi) rfl T.z_isinstance bt_isinstance ?_
        refine ax_cons ?_ ?_
        · exact ex_v 1
        refine ax_cons ?_ ?_
        · exact ex_bltn rfl T.z_dict bt_dict
        exact ax_nil
      refine wx_or1 ?_
      refine bx_not ?_
      refine bx_val ?_
      refine ex_cb (callP_all rfl) rfl T.z_all bt_all ?_
      refine ax_cons ?_ ?_
      · refine ex_f ?_
        refine ef_lc (own := [("pair", 2)]) (us := [2]) rfl nd ?_ (blkOk_by (own := [("pair", 2)]) (N := N_are_ties) (sc := defScope s_are_ties) (by decide +kernel)) (by decide) ?_ ?_ ?_
        · refine ix_ad ?_
          exact ex_v 1
        · intro _ _ _ _ _
          exact gx_name (i := 2) nd rfl (Or.inl rfl)
        · intro _ _ _ _ _
          exact ts_nil
        intro _ _ _ _ _
        refine ex_call G_is_pair (hr.mono (by decide)) takes0 rfl ?_
        refine ax_cons ?_ ?_
        · exact ex_v 2
        exact ax_nil
      exact ax_nil
    · refine ss_one ?_
      refine sx_ret ?_
      exact ex_bl
    exact ss_nil
  refine ss_cons ?_ ?_
  · refine sx_if ?_ ?_ ?_
    · refine bx_not ?_
      refine bx_val ?_
      refine ex_cb (callP_all rfl) rfl T.z_all bt_all ?_
      refine ax_cons ?_ ?_
      · refine ex_f ?_
        refine ef_lc (own := [("pair", 2)]) (us := [2]) rfl nd ?_ (blkOk_by (own := [("pair", 2)]) (N := N_are_ties) (sc := defScope s_are_ties) (by decide +kernel)) (by decide) ?_ ?_ ?_
        · refine ix_ad ?_
          exact ex_v 1
        · intro _ _ _ _ _
          exact gx_name (i := 2) nd rfl (Or.inl rfl)
        · intro _ _ _ _ _
          exact ts_nil
        intro _ _ _ _ _
        refine ex_and ?_ ?_
        · refine ex_cmp (opP_inD hu65) ?_ ?_
          · refine ex_ixM hu64 hw ?_ ?_
            · exact ex_v 2
            exact ex_int
          exact ex_v 0
        refine ex_one ?_
        refine ex_cmp (opP_inD hu65) ?_ ?_
        · refine ex_ixM hu64 hw ?_ ?_
          · exact ex_v 2
          exact ex_int
        exact ex_v 0
      exact ax_nil
    · refine ss_one ?_
      refine sx_ret ?_
      exact ex_bl
    exact ss_nil
  refine ss_one ?_
  refine sx_ret ?_
  refine ex_and ?_ ?_
  · refine ex_cb (callP_all rfl) rfl T.z_all bt_all ?_
    refine ax_cons ?_ ?_
    · refine ex_f ?_
      refine ef_lc (own := [("many", 3)]) (us := [3]) rfl nd ?_ (blkOk_by (own := [("many", 3)]) (N := N_are_ties) (sc := defScope s_are_ties) (by decide +kernel)) (by decide) ?_ ?_ ?_
      · refine ix_vals ?_
        exact ex_v 1
      · intro _ _ _ _ _
        exact gx_name (i := 3) nd rfl (Or.inl rfl)
      · intro _ _ _ _ _
        exact ts_nil
      intro _ _ _ _ _
      refine ex_call G_is_within (hr.mono (by decide)) takes0 rfl ?_
      refine ax_cons ?_ ?_
      · exact ex_v 3
      refine ax_cons ?_ ?_
      · exact ex_int
      refine ax_cons ?_ ?_
      · exact ex_globI rfl T.c_MAX_TIES
      exact ax_nil
    exact ax_nil
  refine ex_one ?_
  refine ex_cmp opP_le ?_ ?_
  · refine ex_cb (callP_sum rfl) rfl T.z_sum bt_sum ?_
    refine ax_cons ?_ ?_
    · refine ex_f ?_
      refine ef_vals rfl ?_ rfl T.z_list bt_list
      exact ex_v 1
    exact ax_nil
  exact ex_globI rfl T.c_MAX_TIES

theorem sc_tie_of_line : FnScope N_tie_of_line ["line"] (defScope s_tie_of_line) := ⟨rfl, rfl, rfl, by decide +kernel, rfl, by decide +kernel, by decide +kernel⟩
theorem ok_tie_of_line {f : Addr} {fd : FuncData} (T : Txt w K mg) (G_is_pair : Fn P w K mg base 2 "is_pair" 1 [] D_is_pair) (G_integer_of_word : Fn P w K mg base 1 "integer_of_word" 1 [] D_integer_of_word) (F : L2.Fun K "tie_of_line" "tie_of_line" s_tie_of_line f fd) (hm : mg "tie_of_line" = some (.ref f)) : Fn P w K mg base 3 "tie_of_line" 1 [] D_tie_of_line := by
  refine Fn.gc (fn_mk' (k := 2) (d := B_tie_of_line) F sc_tie_of_line hm (F.binds (ps := ["line"]) fun _ _ _ _ _ _ us hl => match us, hl with | [_], _ => rfl) fun cdv A outer s H E hr tk => ?_)
  have nd := sc_tie_of_line.nd
  have hu64 := hr.units
  have hu65 := hu65 hr
  have hw := T.hw
  have pso := passes_of (X := cxOf (L2.CX P w) P w K mg base N_tie_of_line "tie_of_line" (defScope s_tie_of_line) f cdv A outer s H E) rfl
  refine ss_cons ?_ ?_
  · refine sx_set (i := 1) nd rfl (Or.inl rfl) ?_
    refine ex_if ?_ ?_ ?_
    · refine bx_val ?_
      refine ex_cb (callP_isi) rfl T.z_isinstance bt_isinstance ?_
      refine ax_cons ?_ ?_
      · exact ex_v 0
      refine ax_cons ?_ ?_
      · exact ex_bltn rfl T.z_str bt_str
      exact ax_nil
    · refine ex_m tyM_str PySem.F.plainAttrs_str PySem.F.slot_str_split PySem.F.type_str_split mtP_split ?_ ?_
      · exact ex_v 0
      refine ax_cons ?_ ?_
      · exact ex_str
      exact ax_nil
    refine ex_f ?_
    refine ef_lst ?_
    exact ax_nil
  refine ss_cons ?_ ?_
  · refine sx_if ?_ ?_ ?_
    · refine bx_w ?_
      refine wx_or ?_ ?_
      · refine bx_cmp (opP_ne hu64) ?_ ?_
        · refine ex_cb (callP_lenE hw) rfl T.z_len bt_len ?_
          refine ax_cons ?_ ?_
          · exact ex_v 1
          exact ax_nil
        exact ex_int
      refine wx_or1 ?_
      refine bx_not ?_
      refine bx_val ?_
      refine ex_call G_is_pair (hr.mono (by decide)) tk rfl ?_
      refine ax_cons ?_ ?_
      · refine ex_tup ?_
        refine ax_cons ?_ ?_
        · refine ex_ixM hu64 hw ?_ ?_
          · exact ex_v 1
          exact ex_int
        refine ax_cons ?_ ?_
        · refine ex_ixM hu64 hw ?_ ?_
          · exact ex_v 1
          exact ex_int
        exact ax_nil
      exact ax_nil
    · refine ss_one ?_
      refine sx_ret ?_
      exact ex_non
    exact ss_nil
  refine ss_cons ?_ ?_
  · refine sx_set (i := 2) nd rfl (Or.inl rfl) ?_
    refine ex_call G_integer_of_word (hr.mono (by decide)) tk rfl ?_
    refine ax_cons ?_ ?_
    · refine ex_ixM hu64 hw ?_ ?_
      · exact ex_v 1
      exact ex_int
    exact ax_nil
  refine ss_one ?_
  refine sx_ret ?_
  refine ex_if ?_ ?_ ?_
  · refine bx_cmp opP_isE ?_ ?_
    · exact ex_v 2
    exact ex_non
  · exact ex_non
  refine ex_tup ?_
  refine ax_cons ?_ ?_
  · refine ex_tup ?_
    refine ax_cons ?_ ?_
    · refine ex_ixM hu64 hw ?_ ?_
      · exact ex_v 1
      exact ex_int
    refine ax_cons ?_ ?_
    · refine ex_ixM hu64 hw ?_ ?_
      · exact ex_v 1
      exact ex_int
    exact ax_nil
  refine ax_cons ?_ ?_
  · exact ex_v 2
  exact ax_nil

theorem sc_require_lot : FnScope N_require_lot ["net", "value"] (defScope s_require_lot) := ⟨rfl, rfl, rfl, by decide +kernel, rfl, by decide +kernel, by decide +kernel⟩
theorem ok_require_lot {f : Addr} {fd : FuncData} (T : Txt w K mg) (G_is_lot_in : Fn P w K mg base 2 "is_lot_in" 2 [] D_is_lot_in) (F : L2.Fun K "require_lot" "require_lot" s_require_lot f fd) (hm : mg "require_lot" = some (.ref f)) : Fn P w K mg base 3 "require_lot" 2 [] D_require_lot := by
  refine Fn.gc (fn_mk' (k := 2) (d := B_require_lot) F sc_require_lot hm (F.binds (ps := ["net", "value"]) fun _ _ _ _ _ _ us hl => match us, hl with | [_, _], _ => rfl) fun cdv A outer s H E hr tk => ?_)
  have nd := sc_require_lot.nd
  have hu64 := hr.units
  have hu65 := hu65 hr
  have hw := T.hw
  have pso := passes_of (X := cxOf (L2.CX P w) P w K mg base N_require_lot "require_lot" (defScope s_require_lot) f cdv A outer s H E) rfl
  refine ss_one ?_
  refine sx_if ?_ ?_ ?_
  · refine bx_not ?_
    refine bx_val ?_
    refine ex_call G_is_lot_in (hr.mono (by decide)) tk rfl ?_
    refine ax_cons ?_ ?_
    · exact ex_v 0
    refine ax_cons ?_ ?_
    · exact ex_v 1
    exact ax_nil
  · refine ss_one ?_
    exact sx_raise rfl tk T.ex_InvalidLot rfl
  exact ss_nil

theorem sc__law_known_net : FnScope N__law_known_net ["dice"] (defScope s__law_known_net) := ⟨rfl, rfl, rfl, by decide +kernel, rfl, by decide +kernel, by decide +kernel⟩
theorem ok__law_known_net {f : Addr} {fd : FuncData} (T : Txt w K mg) (G__law_pairs : Fn P w K mg base 1 "_law_pairs" 1 [] D__law_pairs) (G__law_pair : Fn P w K mg base 1 "_law_pair" 2 [] D__law_pair) (G__law_pick : Fn P w K mg base 2 "_law_pick" 2 [] D__law_pick) (F : L2.Fun K "_law_known_net" "_law_known_net" s__law_known_net f fd) (hm : mg "_law_known_net" = some (.ref f)) : Fn P w K mg base 3 "_law_known_net" 1 [] D__law_known_net := by
  refine Fn.gc (fn_mk' (k := 2) (d := B__law_known_net) F sc__law_known_net hm (F.binds (ps := ["dice"]) fun _ _ _ _ _ _ us hl => match us, hl with | [_], _ => rfl) fun cdv A outer s H E hr tk => ?_)
  have nd := sc__law_known_net.nd
  have hu64 := hr.units
  have hu65 := hu65 hr
  have hw := T.hw
  have pso := passes_of (X := cxOf (L2.CX P w) P w K mg base N__law_known_net "_law_known_net" (defScope s__law_known_net) f cdv A outer s H E) rfl
  refine ss_cons ?_ ?_
  · refine sx_set (i := 1) nd rfl (Or.inr rfl) ?_
    refine ex_f ?_
    refine ef_lst ?_
    refine ax_cons ?_ ?_
    · exact ex_str
    refine ax_cons ?_ ?_
    · exact ex_str
    refine ax_cons ?_ ?_
    · exact ex_str
    refine ax_cons ?_ ?_
    · exact ex_str
    refine ax_cons ?_ ?_
    · exact ex_str
    exact ax_nil
  refine ss_cons ?_ ?_
  · refine sx_set (i := 2) nd rfl (Or.inl rfl) ?_
    refine ex_f ?_
    refine ef_ct (callF_dictP rfl hu64) rfl T.z_dict bt_dict ?_
    refine ax_cons ?_ ?_
    · refine ex_f ?_
      refine ef_lc (own := [("pair", 3)]) (us := [3]) rfl nd ?_ (blkOk_by (own := [("pair", 3)]) (N := N__law_known_net) (sc := defScope s__law_known_net) (by decide +kernel)) (by decide) ?_ ?_ ?_
      · refine ix_ad ?_
        refine ex_call G__law_pairs (hr.mono (by decide)) tk rfl ?_
        refine ax_cons ?_ ?_
        · refine ex_sl ?_ ?_ ?_
          · exact ex_v 1
          · exact ox_none
          refine ox_some ?_
          exact ex_int
        exact ax_nil
      · intro _ _ _ _ _
        exact gx_name (i := 3) nd rfl (Or.inl rfl)
      · intro _ _ _ _ _
        exact ts_nil
      intro _ _ _ _ _
      refine ex_tup ?_
      refine ax_cons ?_ ?_
      · exact ex_v 3
      refine ax_cons ?_ ?_
      · exact ex_int
      exact ax_nil
    exact ax_nil
  refine ss_cons ?_ ?_
  · refine sx_set (i := 4) nd rfl (Or.inl rfl) ?_
    refine ex_f ?_
    refine ef_ct (callF_dictP rfl hu64) rfl T.z_dict bt_dict ?_
    refine ax_cons ?_ ?_
    · refine ex_f ?_
      refine ef_lc (own := [("at", 5)]) (us := [5]) rfl nd ?_ (blkOk_by (own := [("at", 5)]) (N := N__law_known_net) (sc := defScope s__law_known_net) (by decide +kernel)) (by decide) ?_ ?_ ?_
      · refine ix_r1 rfl T.z_range ?_
        refine ax_cons ?_ ?_
        · exact ex_int
        exact ax_nil
      · intro _ _ _ _ _
        exact gx_name (i := 5) nd rfl (Or.inl rfl)
      · intro _ _ _ _ _
        exact ts_nil
      intro _ _ _ _ _
      refine ex_tup ?_
      refine ax_cons ?_ ?_
      · refine ex_call G__law_pair (hr.mono (by decide)) takes0 rfl ?_
        refine ax_cons ?_ ?_
        · refine ex_ixM hu64 hw ?_ ?_
          · exact ex_v 1
          refine ex_bin opP_sub ?_ ?_
          · exact ex_v 5
          exact ex_int
        refine ax_cons ?_ ?_
        · refine ex_ixM hu64 hw ?_ ?_
          · exact ex_v 1
          exact ex_v 5
        exact ax_nil
      refine ax_cons ?_ ?_
      · exact ex_int
      exact ax_nil
    exact ax_nil
  refine ss_cons ?_ ?_
  · refine sx_set (i := 6) nd rfl (Or.inl rfl) ?_
    refine ex_f ?_
    refine ef_dispT hu64 [((dTup (dCons (dK (.str "a")) (dCons (dK (.str "z")) dNil))), (dK (.int 2))), ((dTup (dCons (dK (.str "b")) (dCons (dK (.str "z")) dNil))), (dK (.int 1))), ((dTup (dCons (dK (.str "c")) (dCons (dK (.str "z")) dNil))), (dK (.int 1))), ((dTup (dCons (dK (.str "a")) (dCons (dK (.str "b")) dNil))), (dK (.int 1))), ((dTup (dCons (dK (.str "b")) (dCons (dK (.str "c")) dNil))), (dK (.int 1))), ((dTup (dCons (dK (.str "a")) (dCons (dK (.str "c")) dNil))), (dK (.int 1)))] ?_ rfl rfl (by intro z; cases z) (by decide)
    refine pps_1 ?_ ?_ ?_
    · refine ex_tup ?_
      refine ax_cons ?_ ?_
      · exact ex_str
      refine ax_cons ?_ ?_
      · exact ex_str
      exact ax_nil
    · exact ex_int
    refine pps_1 ?_ ?_ ?_
    · refine ex_tup ?_
      refine ax_cons ?_ ?_
      · exact ex_str
      refine ax_cons ?_ ?_
      · exact ex_str
      exact ax_nil
    · exact ex_int
    refine pps_1 ?_ ?_ ?_
    · refine ex_tup ?_
      refine ax_cons ?_ ?_
      · exact ex_str
      refine ax_cons ?_ ?_
      · exact ex_str
      exact ax_nil
    · exact ex_int
    refine pps_1 ?_ ?_ ?_
    · refine ex_tup ?_
      refine ax_cons ?_ ?_
      · exact ex_str
      refine ax_cons ?_ ?_
      · exact ex_str
      exact ax_nil
    · exact ex_int
    refine pps_1 ?_ ?_ ?_
    · refine ex_tup ?_
      refine ax_cons ?_ ?_
      · exact ex_str
      refine ax_cons ?_ ?_
      · exact ex_str
      exact ax_nil
    · exact ex_int
    refine pps_1 ?_ ?_ ?_
    · refine ex_tup ?_
      refine ax_cons ?_ ?_
      · exact ex_str
      refine ax_cons ?_ ?_
      · exact ex_str
      exact ax_nil
    · exact ex_int
    exact pps_0
  refine ss_cons ?_ ?_
  · refine sx_set (i := 7) nd rfl (Or.inl rfl) ?_
    refine ex_f ?_
    refine ef_lst ?_
    refine ax_cons ?_ ?_
    · refine ex_tup ?_
      refine ax_cons ?_ ?_
      · refine ex_sl ?_ ?_ ?_
        · exact ex_v 1
        · exact ox_none
        refine ox_some ?_
        exact ex_int
      refine ax_cons ?_ ?_
      · exact ex_v 2
      exact ax_nil
    refine ax_cons ?_ ?_
    · refine ex_tup ?_
      refine ax_cons ?_ ?_
      · exact ex_v 1
      refine ax_cons ?_ ?_
      · exact ex_v 4
      exact ax_nil
    refine ax_cons ?_ ?_
    · refine ex_tup ?_
      refine ax_cons ?_ ?_
      · refine ex_f ?_
        refine ef_lst ?_
        refine ax_cons ?_ ?_
        · exact ex_str
        refine ax_cons ?_ ?_
        · exact ex_str
        refine ax_cons ?_ ?_
        · exact ex_str
        refine ax_cons ?_ ?_
        · exact ex_str
        exact ax_nil
      refine ax_cons ?_ ?_
      · exact ex_v 6
      exact ax_nil
    refine ax_cons ?_ ?_
    · refine ex_tup ?_
      refine ax_cons ?_ ?_
      · refine ex_f ?_
        refine ef_lst ?_
        refine ax_cons ?_ ?_
        · exact ex_str
        refine ax_cons ?_ ?_
        · exact ex_str
        exact ax_nil
      refine ax_cons ?_ ?_
      · refine ex_f ?_
        refine ef_dispT hu64 [((dTup (dCons (dK (.str "a")) (dCons (dK (.str "b")) dNil))), (dK (.int 4)))] ?_ rfl rfl (by intro z; cases z) (by decide)
        refine pps_1 ?_ ?_ ?_
        · refine ex_tup ?_
          refine ax_cons ?_ ?_
          · exact ex_str
          refine ax_cons ?_ ?_
          · exact ex_str
          exact ax_nil
        · exact ex_int
        exact pps_0
      exact ax_nil
    exact ax_nil
  refine ss_cons ?_ ?_
  · refine sx_set (i := 8) nd rfl (Or.inl rfl) ?_
    refine ex_f ?_
    refine ef_ct (callF_dictP rfl hu64) rfl T.z_dict bt_dict ?_
    refine ax_cons ?_ ?_
    · refine ex_f ?_
      refine ef_lc (own := [("place", 9)]) (us := [9]) rfl nd ?_ (blkOk_by (own := [("place", 9)]) (N := N__law_known_net) (sc := defScope s__law_known_net) (by decide +kernel)) (by decide) ?_ ?_ ?_
      · refine ix_ad ?_
        refine ex_sl ?_ ?_ ?_
        · exact ex_v 1
        · exact ox_none
        refine ox_some ?_
        exact ex_int
      · intro _ _ _ _ _
        exact gx_name (i := 9) nd rfl (Or.inl rfl)
      · intro _ _ _ _ _
        exact ts_nil
      intro _ _ _ _ _
      refine ex_tup ?_
      refine ax_cons ?_ ?_
      · refine ex_tup ?_
        refine ax_cons ?_ ?_
        · exact ex_v 9
        refine ax_cons ?_ ?_
        · exact ex_str
        exact ax_nil
      refine ax_cons ?_ ?_
      · exact ex_int
      exact ax_nil
    exact ax_nil
  refine ss_cons ?_ ?_
  · refine sx_set (i := 7) nd rfl (Or.inl rfl) ?_
    refine ex_bin opP_add ?_ ?_
    · exact ex_v 7
    refine ex_f ?_
    refine ef_lst ?_
    refine ax_cons ?_ ?_
    · refine ex_tup ?_
      refine ax_cons ?_ ?_
      · refine ex_bin opP_add ?_ ?_
        · refine ex_sl ?_ ?_ ?_
          · exact ex_v 1
          · exact ox_none
          refine ox_some ?_
          exact ex_int
        refine ex_f ?_
        refine ef_lst ?_
        refine ax_cons ?_ ?_
        · exact ex_str
        exact ax_nil
      refine ax_cons ?_ ?_
      · exact ex_v 8
      exact ax_nil
    refine ax_cons ?_ ?_
    · refine ex_tup ?_
      refine ax_cons ?_ ?_
      · refine ex_sl ?_ ?_ ?_
        · exact ex_v 1
        · exact ox_none
        refine ox_some ?_
        exact ex_int
      refine ax_cons ?_ ?_
      · refine ex_f ?_
        refine ef_dispT hu64 [((dTup (dCons (dK (.str "a")) (dCons (dK (.str "b")) dNil))), (dK (.int 1))), ((dTup (dCons (dK (.str "b")) (dCons (dK (.str "c")) dNil))), (dK (.int 1)))] ?_ rfl rfl (by intro z; cases z) (by decide)
        refine pps_1 ?_ ?_ ?_
        · refine ex_tup ?_
          refine ax_cons ?_ ?_
          · exact ex_str
          refine ax_cons ?_ ?_
          · exact ex_str
          exact ax_nil
        · exact ex_int
        refine pps_1 ?_ ?_ ?_
        · refine ex_tup ?_
          refine ax_cons ?_ ?_
          · exact ex_str
          refine ax_cons ?_ ?_
          · exact ex_str
          exact ax_nil
        · exact ex_int
        exact pps_0
      exact ax_nil
    refine ax_cons ?_ ?_
    · refine ex_tup ?_
      refine ax_cons ?_ ?_
      · refine ex_sl ?_ ?_ ?_
        · exact ex_v 1
        · exact ox_none
        refine ox_some ?_
        exact ex_int
      refine ax_cons ?_ ?_
      · refine ex_f ?_
        exact ef_dict0
      exact ax_nil
    exact ax_nil
  refine ss_cons ?_ ?_
  · refine sx_asg (vs := [10, 11]) ?_ ?_
    · refine ex_call G__law_pick (hr.mono (by decide)) tk rfl ?_
      refine ax_cons ?_ ?_
      · exact ex_v 0
      refine ax_cons ?_ ?_
      · exact ex_v 7
      exact ax_nil
    refine gx_seq rfl ?_
    refine gs_cons (v1 := [10]) (v2 := [11]) ?_ ?_
    · exact gx_name (i := 10) nd rfl (Or.inl rfl)
    refine gs_cons (v1 := [11]) (v2 := []) ?_ ?_
    · exact gx_name (i := 11) nd rfl (Or.inl rfl)
    exact gs_nil
  refine ss_one ?_
  refine sx_ret ?_
  refine ex_f ?_
  refine ef_dispK [((dK (.str "places")), (dCB cListD (dCons (dV 10) dNil))), ((dK (.str "ties")), (dCB cDictP (dCons (dItems (dV 11)) dNil)))] ?_ rfl rfl (by intro z; cases z) (by decide)
  refine pps_1 ?_ ?_ ?_
  · exact ex_str
  · refine ex_f ?_
    refine ef_ct (callF_listD rfl) rfl T.z_list bt_list ?_
    refine ax_cons ?_ ?_
    · exact ex_v 10
    exact ax_nil
  refine pps_1 ?_ ?_ ?_
  · exact ex_str
  · refine ex_f ?_
    refine ef_ct (callF_dictP rfl hu64) rfl T.z_dict bt_dict ?_
    refine ax_cons ?_ ?_
    · refine ex_f ?_
      refine ef_items rfl ?_ rfl T.z_list bt_list
      exact ex_v 11
    exact ax_nil
  exact pps_0

theorem sc_Net___init__ : FnScope N_Net___init__ ["self", "places", "ties"] (defScope s_Net___init__) := ⟨rfl, rfl, rfl, by decide +kernel, rfl, by decide +kernel, by decide +kernel⟩
theorem ok_Net___init___3 {c f : Addr} {fd : FuncData} (T : Txt w K mg) (G_are_places : Fn P w K mg base 2 "are_places" 1 [] D_are_places) (G_are_ties : Fn P w K mg base 3 "are_ties" 2 [] D_are_ties) (G_ascending_rows : Fn P w K mg base 1 "ascending_rows" 1 [] D_ascending_rows) (G_near_in : Fn P w K mg base 2 "near_in" 2 [] D_near_in) (F : L2.FunD K "__init__" "Net.__init__" (defArgs s_Net___init__) (defBody s_Net___init__) (defScope s_Net___init__) [V.non] [] f fd) (hc : clA K "Net" = some c) (hm : Meth K c "__init__" f) : FnM P w K mg base 4 "Net" "__init__" 3 [] D_Net___init__ := by
  refine FnM.gc (fn_mkMD (k := 3) (d := B_Net___init__) 3 1 F sc_Net___init__ hc hm (by intro z; cases z) rfl (fun _ _ => rfl) (fun _ _ _ _ _ _ _ us its hu hi => match us, its, hu, hi with | [_, _, _], [_], _, _ => ⟨_, rfl, rfl⟩) fun cdv A outer s H E hr tk => ?_)
  have nd := sc_Net___init__.nd
  have hu64 := hr.units
  have hu65 := hu65 hr
  have hw := T.hw
  have pso := passes_of (X := cxOf (L2.CX P w) P w K mg base N_Net___init__ "Net.__init__" (defScope s_Net___init__) f cdv A outer s H E) rfl
  refine ss_cons ?_ ?_
  · refine sx_set (i := 3) nd rfl (Or.inl rfl) ?_
    refine ex_if ?_ ?_ ?_
    · refine bx_cmp opP_isE ?_ ?_
      · exact ex_v 2
      exact ex_non
    · refine ex_f ?_
      exact ef_dict0
    exact ex_v 2
  refine ss_cons ?_ ?_
  · refine sx_if ?_ ?_ ?_
    · refine bx_w ?_
      refine wx_or ?_ ?_
      · refine bx_not ?_
        refine bx_val ?_
        refine ex_call G_are_places (hr.mono (by decide)) tk rfl ?_
        refine ax_cons ?_ ?_
        · exact ex_v 1
        exact ax_nil
      refine wx_or1 ?_
      refine bx_not ?_
      refine bx_val ?_
      refine ex_call G_are_ties (hr.mono (by decide)) tk rfl ?_
      refine ax_cons ?_ ?_
      · exact ex_v 1
      refine ax_cons ?_ ?_
      · exact ex_v 3
      exact ax_nil
    · refine ss_one ?_
      exact sx_raise rfl tk T.ex_InvalidNet rfl
    exact ss_nil
  refine ss_cons ?_ ?_
  · refine sx_fld T.cl_Net T.no_Net_own_places ?_ ?_
    · exact ex_v 0
    refine ex_ct (callP_tupleD rfl) rfl T.z_tuple bt_tuple ?_
    refine ax_cons ?_ ?_
    · refine ex_f ?_
      refine ef_cb (callF_sortedE hw hu64 rfl) rfl T.z_sorted bt_sorted ?_
      refine ax_cons ?_ ?_
      · exact ex_v 1
      exact ax_nil
    exact ax_nil
  refine ss_cons ?_ ?_
  · refine sx_fld T.cl_Net T.no_Net_own_ties ?_ ?_
    · exact ex_v 0
    refine ex_call G_ascending_rows (hr.mono (by decide)) tk rfl ?_
    refine ax_cons ?_ ?_
    · exact ex_v 3
    exact ax_nil
  refine ss_cons ?_ ?_
  · refine sx_fld T.cl_Net T.no_Net_own_near ?_ ?_
    · exact ex_v 0
    refine ex_f ?_
    refine ef_dc (Nat.lt_of_le_of_lt (Nat.add_le_add_left (by decide : 1 ≤ 64) _) hu64) (own := [("place", 4)]) (us := [4]) rfl nd ?_ (blkOk_by (own := [("place", 4)]) (N := N_Net___init__) (sc := defScope s_Net___init__) (by decide +kernel)) (by decide) ?_ ?_ ?_ ?_
    · refine ix_ad ?_
      refine ex_fld T.cl_Net T.no_Net_own_places ?_
      exact ex_v 0
    · intro _ _ _ _ _
      exact gx_name (i := 4) nd rfl (Or.inl rfl)
    · intro _ _ _ _ _
      exact ts_nil
    · intro _ _ _ _ _
      exact ex_v 4
    intro _ _ _ _ _
    refine ex_call G_near_in (hr.mono (by decide)) takes0 rfl ?_
    refine ax_cons ?_ ?_
    · refine ex_fld T.cl_Net T.no_Net_own_ties ?_
      exact ex_v 0
    refine ax_cons ?_ ?_
    · exact ex_v 4
    exact ax_nil
  refine ss_one ?_
  refine sx_fld T.cl_Net T.no_Net_own_degrees ?_ ?_
  · exact ex_v 0
  refine ex_f ?_
  refine ef_dc (Nat.lt_of_le_of_lt (Nat.add_le_add_left (by decide : 1 ≤ 64) _) hu64) (own := [("place", 4), ("near", 5)]) (us := [4, 5]) rfl nd ?_ (blkOk_by (own := [("place", 4), ("near", 5)]) (N := N_Net___init__) (sc := defScope s_Net___init__) (by decide +kernel)) (by decide) ?_ ?_ ?_ ?_
  · refine ix_items ?_
    refine ex_fld T.cl_Net T.no_Net_own_near ?_
    exact ex_v 0
  · intro _ _ _ _ _
    refine gx_seq rfl ?_
    refine gs_cons (v1 := [4]) (v2 := [5]) ?_ ?_
    · exact gx_name (i := 4) nd rfl (Or.inl rfl)
    refine gs_cons (v1 := [5]) (v2 := []) ?_ ?_
    · exact gx_name (i := 5) nd rfl (Or.inl rfl)
    exact gs_nil
  · intro _ _ _ _ _
    exact ts_nil
  · intro _ _ _ _ _
    exact ex_v 4
  intro _ _ _ _ _
  refine ex_cb (callP_sum rfl) rfl T.z_sum bt_sum ?_
  refine ax_cons ?_ ?_
  · refine ex_f ?_
    refine ef_vals rfl ?_ rfl T.z_list bt_list
    exact ex_v 5
  exact ax_nil

theorem sc_Net_cut : FnScope N_Net_cut ["self", "lot"] (defScope s_Net_cut) := ⟨rfl, rfl, rfl, by decide +kernel, rfl, by decide +kernel, by decide +kernel⟩
theorem ok_Net_cut {c f : Addr} {fd : FuncData} (T : Txt w K mg) (G_require_lot : Fn P w K mg base 3 "require_lot" 2 [] D_require_lot) (G_cut_in : Fn P w K mg base 1 "cut_in" 2 [] D_cut_in) (F : L2.Fun K "cut" "Net.cut" s_Net_cut f fd) (hc : clA K "Net" = some c) (hm : Meth K c "cut" f) : FnM P w K mg base 4 "Net" "cut" 2 [] D_Net_cut := by
  refine FnM.gc (fn_mkM (k := 3) (d := B_Net_cut) F sc_Net_cut hc hm (F.binds (ps := ["self", "lot"]) fun _ _ _ _ _ _ us hl => match us, hl with | [_, _], _ => rfl) fun cdv A outer s H E hr tk => ?_)
  have nd := sc_Net_cut.nd
  have hu64 := hr.units
  have hu65 := hu65 hr
  have hw := T.hw
  have pso := passes_of (X := cxOf (L2.CX P w) P w K mg base N_Net_cut "Net.cut" (defScope s_Net_cut) f cdv A outer s H E) rfl
  refine ss_cons ?_ ?_
  · refine sx_expr ?_
    refine ex_call G_require_lot (hr.mono (by decide)) tk rfl ?_
    refine ax_cons ?_ ?_
    · exact ex_v 0
    refine ax_cons ?_ ?_
    · exact ex_v 1
    exact ax_nil
  refine ss_one ?_
  refine sx_ret ?_
  refine ex_call G_cut_in (hr.mono (by decide)) tk rfl ?_
  refine ax_cons ?_ ?_
  · exact ex_v 0
  refine ax_cons ?_ ?_
  · exact ex_v 1
  exact ax_nil

theorem sc_opposite : FnScope N_opposite ["net", "lot"] (defScope s_opposite) := ⟨rfl, rfl, rfl, by decide +kernel, rfl, by decide +kernel, by decide +kernel⟩
theorem ok_opposite {f : Addr} {fd : FuncData} (T : Txt w K mg) (G_require_net : Fn P w K mg base 1 "require_net" 1 [] D_require_net) (G_require_lot : Fn P w K mg base 3 "require_lot" 2 [] D_require_lot) (G_opposite_in : Fn P w K mg base 1 "opposite_in" 2 [] D_opposite_in) (F : L2.Fun K "opposite" "opposite" s_opposite f fd) (hm : mg "opposite" = some (.ref f)) : Fn P w K mg base 4 "opposite" 2 [] D_opposite := by
  refine Fn.gc (fn_mk' (k := 3) (d := B_opposite) F sc_opposite hm (F.binds (ps := ["net", "lot"]) fun _ _ _ _ _ _ us hl => match us, hl with | [_, _], _ => rfl) fun cdv A outer s H E hr tk => ?_)
  have nd := sc_opposite.nd
  have hu64 := hr.units
  have hu65 := hu65 hr
  have hw := T.hw
  have pso := passes_of (X := cxOf (L2.CX P w) P w K mg base N_opposite "opposite" (defScope s_opposite) f cdv A outer s H E) rfl
  refine ss_cons ?_ ?_
  · refine sx_expr ?_
    refine ex_call G_require_net (hr.mono (by decide)) tk rfl ?_
    refine ax_cons ?_ ?_
    · exact ex_v 0
    exact ax_nil
  refine ss_cons ?_ ?_
  · refine sx_expr ?_
    refine ex_call G_require_lot (hr.mono (by decide)) tk rfl ?_
    refine ax_cons ?_ ?_
    · exact ex_v 0
    refine ax_cons ?_ ?_
    · exact ex_v 1
    exact ax_nil
  refine ss_one ?_
  refine sx_ret ?_
  refine ex_call G_opposite_in (hr.mono (by decide)) tk rfl ?_
  refine ax_cons ?_ ?_
  · exact ex_v 0
  refine ax_cons ?_ ?_
  · exact ex_v 1
  exact ax_nil

theorem sc_require_two_lots : FnScope N_require_two_lots ["net", "one", "other"] (defScope s_require_two_lots) := ⟨rfl, rfl, rfl, by decide +kernel, rfl, by decide +kernel, by decide +kernel⟩
theorem ok_require_two_lots {f : Addr} {fd : FuncData} (T : Txt w K mg) (G_require_net : Fn P w K mg base 1 "require_net" 1 [] D_require_net) (G_require_lot : Fn P w K mg base 3 "require_lot" 2 [] D_require_lot) (F : L2.Fun K "require_two_lots" "require_two_lots" s_require_two_lots f fd) (hm : mg "require_two_lots" = some (.ref f)) : Fn P w K mg base 4 "require_two_lots" 3 [] D_require_two_lots := by
  refine Fn.gc (fn_mk' (k := 3) (d := B_require_two_lots) F sc_require_two_lots hm (F.binds (ps := ["net", "one", "other"]) fun _ _ _ _ _ _ us hl => match us, hl with | [_, _, _], _ => rfl) fun cdv A outer s H E hr tk => ?_)
  have nd := sc_require_two_lots.nd
  have hu64 := hr.units
  have hu65 := hu65 hr
  have hw := T.hw
  have pso := passes_of (X := cxOf (L2.CX P w) P w K mg base N_require_two_lots "require_two_lots" (defScope s_require_two_lots) f cdv A outer s H E) rfl
  refine ss_cons ?_ ?_
  · refine sx_expr ?_
    refine ex_call G_require_net (hr.mono (by decide)) tk rfl ?_
    refine ax_cons ?_ ?_
    · exact ex_v 0
    exact ax_nil
  refine ss_cons ?_ ?_
  · refine sx_expr ?_
    refine ex_call G_require_lot (hr.mono (by decide)) tk rfl ?_
    refine ax_cons ?_ ?_
    · exact ex_v 0
    refine ax_cons ?_ ?_
    · exact ex_v 1
    exact ax_nil
  refine ss_one ?_
  refine sx_expr ?_
  refine ex_call G_require_lot (hr.mono (by decide)) tk rfl ?_
  refine ax_cons ?_ ?_
  · exact ex_v 0
  refine ax_cons ?_ ?_
  · exact ex_v 2
  exact ax_nil

theorem sc__law_net : FnScope N__law_net ["dice"] (defScope s__law_net) := ⟨rfl, rfl, rfl, by decide +kernel, rfl, by decide +kernel, by decide +kernel⟩
theorem ok__law_net {f : Addr} {fd : FuncData} (T : Txt w K mg) (G__law_roll : Fn P w K mg base 1 "_law_roll" 2 [] D__law_roll) (G__law_known_net : Fn P w K mg base 3 "_law_known_net" 1 [] D__law_known_net) (G__law_pick : Fn P w K mg base 2 "_law_pick" 2 [] D__law_pick) (G__law_some : Fn P w K mg base 2 "_law_some" 3 [] D__law_some) (G__law_pair : Fn P w K mg base 1 "_law_pair" 2 [] D__law_pair) (G__law_with : Fn P w K mg base 1 "_law_with" 3 [] D__law_with) (G__law_pairs : Fn P w K mg base 1 "_law_pairs" 1 [] D__law_pairs) (F : L2.Fun K "_law_net" "_law_net" s__law_net f fd) (hm : mg "_law_net" = some (.ref f)) : Fn P w K mg base 4 "_law_net" 1 [] D__law_net := by
  refine Fn.gc (fn_mk' (k := 3) (d := B__law_net) F sc__law_net hm (F.binds (ps := ["dice"]) fun _ _ _ _ _ _ us hl => match us, hl with | [_], _ => rfl) fun cdv A outer s H E hr tk => ?_)
  have nd := sc__law_net.nd
  have hu64 := hr.units
  have hu65 := hu65 hr
  have hw := T.hw
  have pso := passes_of (X := cxOf (L2.CX P w) P w K mg base N__law_net "_law_net" (defScope s__law_net) f cdv A outer s H E) rfl
  refine ss_cons ?_ ?_
  · refine sx_set (i := 1) nd rfl (Or.inl rfl) ?_
    refine ex_call G__law_roll (hr.mono (by decide)) tk rfl ?_
    refine ax_cons ?_ ?_
    · exact ex_v 0
    refine ax_cons ?_ ?_
    · exact ex_int
    exact ax_nil
  refine ss_cons ?_ ?_
  · refine sx_if ?_ ?_ ?_
    · refine bx_cmp (opP_eq hu64) ?_ ?_
      · exact ex_v 1
      exact ex_int
    · refine ss_one ?_
      refine sx_ret ?_
      refine ex_call G__law_known_net (hr.mono (by decide)) tk rfl ?_
      refine ax_cons ?_ ?_
      · exact ex_v 0
      exact ax_nil
    exact ss_nil
  refine ss_cons ?_ ?_
  · refine sx_set (i := 2) nd rfl (Or.inl rfl) ?_
    refine ex_call G__law_pick (hr.mono (by decide)) tk rfl ?_
    refine ax_cons ?_ ?_
    · exact ex_v 0
    refine ax_cons ?_ ?_
    · refine ex_f ?_
      refine ef_lst ?_
      refine ax_cons ?_ ?_
      · exact ex_int
      refine ax_cons ?_ ?_
      · exact ex_int
      refine ax_cons ?_ ?_
      · exact ex_int
      refine ax_cons ?_ ?_
      · exact ex_int
      refine ax_cons ?_ ?_
      · exact ex_int
      refine ax_cons ?_ ?_
      · exact ex_int
      exact ax_nil
    exact ax_nil
  refine ss_cons ?_ ?_
  · refine sx_set (i := 3) nd rfl (Or.inl rfl) ?_
    refine ex_f ?_
    refine ef_cb (callF_sortedE hw hu64 rfl) rfl T.z_sorted bt_sorted ?_
    refine ax_cons ?_ ?_
    · refine ex_call G__law_some (hr.mono (by decide)) tk rfl ?_
      refine ax_cons ?_ ?_
      · exact ex_v 0
      refine ax_cons ?_ ?_
      · refine ex_f ?_
        refine ef_lst ?_
        refine ax_cons ?_ ?_
        · exact ex_str
        refine ax_cons ?_ ?_
        · exact ex_str
        refine ax_cons ?_ ?_
        · exact ex_str
        refine ax_cons ?_ ?_
        · exact ex_str
        refine ax_cons ?_ ?_
        · exact ex_str
        refine ax_cons ?_ ?_
        · exact ex_str
        refine ax_cons ?_ ?_
        · exact ex_str
        refine ax_cons ?_ ?_
        · exact ex_str
        refine ax_cons ?_ ?_
        · exact ex_str
        exact ax_nil
      refine ax_cons ?_ ?_
      · exact ex_v 2
      exact ax_nil
    exact ax_nil
  refine ss_cons ?_ ?_
  · refine sx_set (i := 4) nd rfl (Or.inl rfl) ?_
    refine ex_f ?_
    refine ef_dispK [((dK (.str "places")), (dV 3)), ((dK (.str "ties")), (dCell (dK (.dct []))))] ?_ rfl rfl (by intro z; cases z) (by decide)
    refine pps_1 ?_ ?_ ?_
    · exact ex_str
    · exact ex_v 3
    refine pps_1 ?_ ?_ ?_
    · exact ex_str
    · refine ex_cell ?_
      exact ef_dict0
    exact pps_0
  refine ss_cons ?_ ?_
  · refine sx_if ?_ ?_ ?_
    · refine bx_cmp opP_gt ?_ ?_
      · exact ex_v 1
      exact ex_int
    · refine ss_cons ?_ ?_
      · refine sx_set (i := 5) nd rfl (Or.inl rfl) ?_
        refine ex_call G__law_some (hr.mono (by decide)) tk rfl ?_
        refine ax_cons ?_ ?_
        · exact ex_v 0
        refine ax_cons ?_ ?_
        · exact ex_v 3
        refine ax_cons ?_ ?_
        · exact ex_v 2
        exact ax_nil
      refine ss_one ?_
      refine sx_for (vs := [6]) pso rfl ?_ ?_ ?_
      · refine ix_r1 rfl T.z_range ?_
        refine ax_cons ?_ ?_
        · exact ex_v 2
        exact ax_nil
      · exact gx_name (i := 6) nd rfl (Or.inl rfl)
      refine ss_one ?_
      refine sx_set (i := 4) nd rfl (Or.inl rfl) ?_
      refine ex_call G__law_with (hr.mono (by decide)) tk rfl ?_
      refine ax_cons ?_ ?_
      · exact ex_v 4
      refine ax_cons ?_ ?_
      · refine ex_call G__law_pair (hr.mono (by decide)) tk rfl ?_
        refine ax_cons ?_ ?_
        · refine ex_ixM hu64 hw ?_ ?_
          · exact ex_v 5
          refine ex_bin opP_sub ?_ ?_
          · exact ex_v 6
          exact ex_int
        refine ax_cons ?_ ?_
        · refine ex_ixM hu64 hw ?_ ?_
          · exact ex_v 5
          exact ex_v 6
        exact ax_nil
      refine ax_cons ?_ ?_
      · exact ex_int
      exact ax_nil
    exact ss_nil
  refine ss_cons ?_ ?_
  · refine sx_set (i := 7) nd rfl (Or.inl rfl) ?_
    refine ex_call G__law_pairs (hr.mono (by decide)) tk rfl ?_
    refine ax_cons ?_ ?_
    · exact ex_v 3
    exact ax_nil
  refine ss_cons ?_ ?_
  · refine sx_for (vs := [8]) pso rfl ?_ ?_ ?_
    · refine ix_r1 rfl T.z_range ?_
      refine ax_cons ?_ ?_
      · refine ex_call G__law_pick (hr.mono (by decide)) tk rfl ?_
        refine ax_cons ?_ ?_
        · exact ex_v 0
        refine ax_cons ?_ ?_
        · refine ex_f ?_
          refine ef_lst ?_
          refine ax_cons ?_ ?_
          · exact ex_int
          refine ax_cons ?_ ?_
          · exact ex_int
          refine ax_cons ?_ ?_
          · exact ex_int
          refine ax_cons ?_ ?_
          · exact ex_int
          refine ax_cons ?_ ?_
          · exact ex_int
          refine ax_cons ?_ ?_
          · exact ex_int
          refine ax_cons ?_ ?_
          · exact ex_int
          exact ax_nil
        exact ax_nil
      exact ax_nil
    · exact gx_name (i := 8) nd rfl (Or.inl rfl)
    refine ss_one ?_
    refine sx_set (i := 4) nd rfl (Or.inl rfl) ?_
    refine ex_call G__law_with (hr.mono (by decide)) tk rfl ?_
    refine ax_cons ?_ ?_
    · exact ex_v 4
    refine ax_cons ?_ ?_
    · refine ex_call G__law_pick (hr.mono (by decide)) tk rfl ?_
      refine ax_cons ?_ ?_
      · exact ex_v 0
      refine ax_cons ?_ ?_
      · exact ex_v 7
      exact ax_nil
    refine ax_cons ?_ ?_
    · refine ex_call G__law_pick (hr.mono (by decide)) tk rfl ?_
      refine ax_cons ?_ ?_
      · exact ex_v 0
      refine ax_cons ?_ ?_
      · refine ex_f ?_
        refine ef_lst ?_
        refine ax_cons ?_ ?_
        · exact ex_int
        refine ax_cons ?_ ?_
        · exact ex_int
        refine ax_cons ?_ ?_
        · exact ex_int
        refine ax_cons ?_ ?_
        · exact ex_int
        exact ax_nil
      exact ax_nil
    exact ax_nil
  refine ss_cons ?_ ?_
  · refine sx_if ?_ ?_ ?_
    · refine bx_w ?_
      refine wx_and ?_ ?_
      · refine bx_cmp (opP_eq hu64) ?_ ?_
        · refine ex_call G__law_roll (hr.mono (by decide)) tk rfl ?_
          refine ax_cons ?_ ?_
          · exact ex_v 0
          refine ax_cons ?_ ?_
          · exact ex_int
          exact ax_nil
        exact ex_int
      refine wx_and1 ?_
      refine bx_cmp opP_gt ?_ ?_
      · refine ex_cb (callP_lenE hw) rfl T.z_len bt_len ?_
        refine ax_cons ?_ ?_
        · refine ex_ixM hu64 hw ?_ ?_
          · exact ex_v 4
          exact ex_str
        exact ax_nil
      exact ex_int
    · refine ss_one ?_
      refine sx_expr ?_
      refine ex_dm PySem.F.slot_dict_pop PySem.F.type_dict_pop (mtP_dpop hu64) ?_ ?_
      · refine ex_ixM hu64 hw ?_ ?_
        · exact ex_v 4
        exact ex_str
      refine ax_cons ?_ ?_
      · refine ex_call G__law_pick (hr.mono (by decide)) tk rfl ?_
        refine ax_cons ?_ ?_
        · exact ex_v 0
        refine ax_cons ?_ ?_
        · refine ex_f ?_
          refine ef_cb (callF_sortedE hw hu64 rfl) rfl T.z_sorted bt_sorted ?_
          refine ax_cons ?_ ?_
          · refine ex_ixM hu64 hw ?_ ?_
            · exact ex_v 4
            exact ex_str
          exact ax_nil
        exact ax_nil
      exact ax_nil
    exact ss_nil
  refine ss_one ?_
  refine sx_ret ?_
  exact ex_v 4

theorem sc_corners : FnScope N_corners ["net", "one", "other"] (defScope s_corners) := ⟨rfl, rfl, rfl, by decide +kernel, rfl, by decide +kernel, by decide +kernel⟩
theorem ok_corners {f : Addr} {fd : FuncData} (T : Txt w K mg) (G_require_two_lots : Fn P w K mg base 4 "require_two_lots" 3 [] D_require_two_lots) (G_corners_in : Fn P w K mg base 1 "corners_in" 3 [] D_corners_in) (F : L2.Fun K "corners" "corners" s_corners f fd) (hm : mg "corners" = some (.ref f)) : Fn P w K mg base 5 "corners" 3 [] D_corners := by
  refine Fn.gc (fn_mk' (k := 4) (d := B_corners) F sc_corners hm (F.binds (ps := ["net", "one", "other"]) fun _ _ _ _ _ _ us hl => match us, hl with | [_, _, _], _ => rfl) fun cdv A outer s H E hr tk => ?_)
  have nd := sc_corners.nd
  have hu64 := hr.units
  have hu65 := hu65 hr
  have hw := T.hw
  have pso := passes_of (X := cxOf (L2.CX P w) P w K mg base N_corners "corners" (defScope s_corners) f cdv A outer s H E) rfl
  refine ss_cons ?_ ?_
  · refine sx_expr ?_
    refine ex_call G_require_two_lots (hr.mono (by decide)) tk rfl ?_
    refine ax_cons ?_ ?_
    · exact ex_v 0
    refine ax_cons ?_ ?_
    · exact ex_v 1
    refine ax_cons ?_ ?_
    · exact ex_v 2
    exact ax_nil
  refine ss_one ?_
  refine sx_ret ?_
  refine ex_call G_corners_in (hr.mono (by decide)) tk rfl ?_
  refine ax_cons ?_ ?_
  · exact ex_v 0
  refine ax_cons ?_ ?_
  · exact ex_v 1
  refine ax_cons ?_ ?_
  · exact ex_v 2
  exact ax_nil

theorem sc_between : FnScope N_between ["net", "one", "other"] (defScope s_between) := ⟨rfl, rfl, rfl, by decide +kernel, rfl, by decide +kernel, by decide +kernel⟩
theorem ok_between {f : Addr} {fd : FuncData} (T : Txt w K mg) (G_require_two_lots : Fn P w K mg base 4 "require_two_lots" 3 [] D_require_two_lots) (G_between_in : Fn P w K mg base 1 "between_in" 3 [] D_between_in) (F : L2.Fun K "between" "between" s_between f fd) (hm : mg "between" = some (.ref f)) : Fn P w K mg base 5 "between" 3 [] D_between := by
  refine Fn.gc (fn_mk' (k := 4) (d := B_between) F sc_between hm (F.binds (ps := ["net", "one", "other"]) fun _ _ _ _ _ _ us hl => match us, hl with | [_, _, _], _ => rfl) fun cdv A outer s H E hr tk => ?_)
  have nd := sc_between.nd
  have hu64 := hr.units
  have hu65 := hu65 hr
  have hw := T.hw
  have pso := passes_of (X := cxOf (L2.CX P w) P w K mg base N_between "between" (defScope s_between) f cdv A outer s H E) rfl
  refine ss_cons ?_ ?_
  · refine sx_expr ?_
    refine ex_call G_require_two_lots (hr.mono (by decide)) tk rfl ?_
    refine ax_cons ?_ ?_
    · exact ex_v 0
    refine ax_cons ?_ ?_
    · exact ex_v 1
    refine ax_cons ?_ ?_
    · exact ex_v 2
    exact ax_nil
  refine ss_cons ?_ ?_
  · refine sx_if ?_ ?_ ?_
    · refine bx_val ?_
      refine ex_cb (callP_any rfl) rfl T.z_any bt_any ?_
      refine ax_cons ?_ ?_
      · refine ex_f ?_
        refine ef_lc (own := [("place", 3)]) (us := [3]) rfl nd ?_ (blkOk_by (own := [("place", 3)]) (N := N_between) (sc := defScope s_between) (by decide +kernel)) (by decide) ?_ ?_ ?_
        · refine ix_ad ?_
          exact ex_v 1
        · intro _ _ _ _ _
          exact gx_name (i := 3) nd rfl (Or.inl rfl)
        · intro _ _ _ _ _
          exact ts_nil
        intro _ _ _ _ _
        refine ex_cmp (opP_inD hu65) ?_ ?_
        · exact ex_v 3
        exact ex_v 2
      exact ax_nil
    · refine ss_one ?_
      exact sx_raise rfl tk T.ex_InvalidOperation rfl
    exact ss_nil
  refine ss_one ?_
  refine sx_ret ?_
  refine ex_call G_between_in (hr.mono (by decide)) tk rfl ?_
  refine ax_cons ?_ ?_
  · exact ex_v 0
  refine ax_cons ?_ ?_
  · exact ex_v 1
  refine ax_cons ?_ ?_
  · exact ex_v 2
  exact ax_nil

theorem sc_excesses : FnScope N_excesses ["net", "one", "other"] (defScope s_excesses) := ⟨rfl, rfl, rfl, by decide +kernel, rfl, by decide +kernel, by decide +kernel⟩
theorem ok_excesses {f : Addr} {fd : FuncData} (T : Txt w K mg) (G_require_two_lots : Fn P w K mg base 4 "require_two_lots" 3 [] D_require_two_lots) (G_corners_in : Fn P w K mg base 1 "corners_in" 3 [] D_corners_in) (G_between_in : Fn P w K mg base 1 "between_in" 3 [] D_between_in) (F : L2.Fun K "excesses" "excesses" s_excesses f fd) (hm : mg "excesses" = some (.ref f)) : Fn P w K mg base 5 "excesses" 3 [] D_excesses := by
  refine Fn.gc (fn_mk' (k := 4) (d := B_excesses) F sc_excesses hm (F.binds (ps := ["net", "one", "other"]) fun _ _ _ _ _ _ us hl => match us, hl with | [_, _, _], _ => rfl) fun cdv A outer s H E hr tk => ?_)
  have nd := sc_excesses.nd
  have hu64 := hr.units
  have hu65 := hu65 hr
  have hw := T.hw
  have pso := passes_of (X := cxOf (L2.CX P w) P w K mg base N_excesses "excesses" (defScope s_excesses) f cdv A outer s H E) rfl
  refine ss_cons ?_ ?_
  · refine sx_expr ?_
    refine ex_call G_require_two_lots (hr.mono (by decide)) tk rfl ?_
    refine ax_cons ?_ ?_
    · exact ex_v 0
    refine ax_cons ?_ ?_
    · exact ex_v 1
    refine ax_cons ?_ ?_
    · exact ex_v 2
    exact ax_nil
  refine ss_cons ?_ ?_
  · refine sx_asg (vs := [3, 4, 5, 6]) ?_ ?_
    · refine ex_call G_corners_in (hr.mono (by decide)) tk rfl ?_
      refine ax_cons ?_ ?_
      · exact ex_v 0
      refine ax_cons ?_ ?_
      · exact ex_v 1
      refine ax_cons ?_ ?_
      · exact ex_v 2
      exact ax_nil
    refine gx_seq rfl ?_
    refine gs_cons (v1 := [3]) (v2 := [4, 5, 6]) ?_ ?_
    · exact gx_name (i := 3) nd rfl (Or.inl rfl)
    refine gs_cons (v1 := [4]) (v2 := [5, 6]) ?_ ?_
    · exact gx_name (i := 4) nd rfl (Or.inl rfl)
    refine gs_cons (v1 := [5]) (v2 := [6]) ?_ ?_
    · exact gx_name (i := 5) nd rfl (Or.inl rfl)
    refine gs_cons (v1 := [6]) (v2 := []) ?_ ?_
    · exact gx_name (i := 6) nd rfl (Or.inl rfl)
    exact gs_nil
  refine ss_one ?_
  refine sx_ret ?_
  refine ex_tup ?_
  refine ax_cons ?_ ?_
  · refine ex_bin opP_mul ?_ ?_
    · exact ex_int
    refine ex_call G_between_in (hr.mono (by decide)) tk rfl ?_
    refine ax_cons ?_ ?_
    · exact ex_v 0
    refine ax_cons ?_ ?_
    · exact ex_v 4
    refine ax_cons ?_ ?_
    · exact ex_v 5
    exact ax_nil
  refine ax_cons ?_ ?_
  · refine ex_bin opP_mul ?_ ?_
    · exact ex_int
    refine ex_call G_between_in (hr.mono (by decide)) tk rfl ?_
    refine ax_cons ?_ ?_
    · exact ex_v 0
    refine ax_cons ?_ ?_
    · exact ex_v 3
    refine ax_cons ?_ ?_
    · exact ex_v 6
    exact ax_nil
  exact ax_nil

theorem sc_Net_read : FnScope N_Net_read ["cls", "lines"] (defScope s_Net_read) := ⟨rfl, rfl, rfl, by decide +kernel, rfl, by decide +kernel, by decide +kernel⟩
theorem ok_Net_read {c p f : Addr} {mc : Value} {fd : FuncData} (T : Txt w K mg) (G_places_of_line : Fn P w K mg base 2 "places_of_line" 1 [] D_places_of_line) (G_tie_of_line : Fn P w K mg base 3 "tie_of_line" 1 [] D_tie_of_line) (G_Net___init___3 : FnM P w K mg base 4 "Net" "__init__" 3 [] D_Net___init__) (F : L2.Fun K "read" "Net.read" s_Net_read f fd) (hc : clA K "Net" = some c) (hN : mg "Net" = some (.ref c)) (hR : ClX.CRead K c mc) (hM : ClX.CMet K c mc "read" p f) : FnC P w K mg base 6 "Net" "read" D_Net_read := by
  refine FnC.gc (fn_mkS (k := 5) (d := B_Net_read) F sc_Net_read hc hN hR hM (fun kV doc pm an cdv ct us rest h => StX.bind_star1 (B := fun l => bindArgs (PySem.W.fnOf "read" "Net.read" (defArgs s_Net_read) (defBody s_Net_read) (defScope s_Net_read) .none kV doc pm an cdv ct) ⟨l, []⟩) (fun _ => rfl) (fun _ _ _ => rfl) us rest h) fun cdv A outer s H E hr tk => ?_)
  have nd := sc_Net_read.nd
  have hu64 := hr.units
  have hu65 := hu65 hr
  have hw := T.hw
  have pso := passes_of (X := cxOf (L2.CX P w) P w K mg base N_Net_read "Net.read" (defScope s_Net_read) f cdv A outer s H E) rfl
  refine sz_start ?_
  refine sz_cons ?_ ?_
  · refine sx_set (i := 2) nd rfl (Or.inl rfl) ?_
    refine ex_if ?_ ?_ ?_
    · refine bx_cmp (opP_ne hu64) ?_ ?_
      · exact ex_v 1
      refine ex_tup ?_
      exact ax_nil
    · refine ex_call G_places_of_line (hr.mono (by decide)) tk rfl ?_
      refine ax_cons ?_ ?_
      · refine ex_ixM hu64 hw ?_ ?_
        · exact ex_v 1
        exact ex_int
      exact ax_nil
    exact ex_non
  refine sz_cons ?_ ?_
  · refine sx_if ?_ ?_ ?_
    · refine bx_cmp opP_isE ?_ ?_
      · exact ex_v 2
      exact ex_non
    · refine ss_one ?_
      exact sx_stuck
    exact ss_nil
  refine sz_cons ?_ ?_
  · refine sx_par (i := 3) (j := 4) rfl nd rfl rfl (by decide) rfl rfl ?_ (by rfl)
    refine ax_cons ?_ ?_
    · refine ex_cell ?_
      exact ef_dict0
    refine ax_cons ?_ ?_
    · refine ex_tup ?_
      refine ax_cons ?_ ?_
      · exact ex_str
      refine ax_cons ?_ ?_
      · exact ex_str
      exact ax_nil
    exact ax_nil
  refine sz_cons ?_ ?_
  · refine sx_for (vs := [5, 6]) pso rfl ?_ ?_ ?_
    · refine ix_enum ?_ rfl T.z_enumerate
      refine ex_sl ?_ ?_ ?_
      · exact ex_v 1
      · refine ox_some ?_
        exact ex_int
      exact ox_none
    · refine gx_seq rfl ?_
      refine gs_cons (v1 := [5]) (v2 := [6]) ?_ ?_
      · exact gx_name (i := 5) nd rfl (Or.inl rfl)
      refine gs_cons (v1 := [6]) (v2 := []) ?_ ?_
      · exact gx_name (i := 6) nd rfl (Or.inl rfl)
      exact gs_nil
    refine ss_cons ?_ ?_
    · refine sx_set (i := 7) nd rfl (Or.inl rfl) ?_
      refine ex_call G_tie_of_line (hr.mono (by decide)) tk rfl ?_
      refine ax_cons ?_ ?_
      · exact ex_v 6
      exact ax_nil
    refine ss_cons ?_ ?_
    · refine sx_if ?_ ?_ ?_
      · refine bx_w ?_
        refine wx_or ?_ ?_
        · refine bx_cmp opP_isE ?_ ?_
          · exact ex_v 7
          exact ex_non
        refine wx_or1 ?_
        refine bx_cmp (opP_leT (Nat.lt_of_le_of_lt (Nat.le_add_right _ 65) hu65)) ?_ ?_
        · refine ex_ixM hu64 hw ?_ ?_
          · exact ex_v 7
          exact ex_int
        exact ex_v 4
      · refine ss_one ?_
        exact sx_stuck
      exact ss_nil
    refine ss_cons ?_ ?_
    · refine sx_set (i := 4) nd rfl (Or.inl rfl) ?_
      refine ex_ixM hu64 hw ?_ ?_
      · exact ex_v 7
      exact ex_int
    refine ss_one ?_
    refine sx_sub ?_ ?_ ?_ (setP_mix hu64 hw)
    · refine ex_ixM hu64 hw ?_ ?_
      · exact ex_v 7
      exact ex_int
    · exact ex_v 3
    exact ex_v 4
  refine sz_fz ?_
  refine ss_one ?_
  refine sx_ret ?_
  refine ex_makeL T.mk_Net G_Net___init___3 (hr.mono (by decide)) tk rfl (by first | exact Or.inl rfl | exact Or.inr (Or.inl rfl) | exact Or.inr (Or.inr rfl)) ?_
  refine ax_cons ?_ ?_
  · exact ex_v 2
  refine ax_cons ?_ ?_
  · exact ex_v 3
  exact ax_nil

theorem sc__law_made : FnScope N__law_made ["net"] (defScope s__law_made) := ⟨rfl, rfl, rfl, by decide +kernel, rfl, by decide +kernel, by decide +kernel⟩
theorem ok__law_made {f : Addr} {fd : FuncData} (T : Txt w K mg) (G_Net___init___3 : FnM P w K mg base 4 "Net" "__init__" 3 [] D_Net___init__) (F : L2.Fun K "_law_made" "_law_made" s__law_made f fd) (hm : mg "_law_made" = some (.ref f)) : Fn P w K mg base 6 "_law_made" 1 [] D__law_made := by
  refine Fn.gc (fn_mk' (k := 5) (d := B__law_made) F sc__law_made hm (F.binds (ps := ["net"]) fun _ _ _ _ _ _ us hl => match us, hl with | [_], _ => rfl) fun cdv A outer s H E hr tk => ?_)
  have nd := sc__law_made.nd
  have hu64 := hr.units
  have hu65 := hu65 hr
  have hw := T.hw
  have pso := passes_of (X := cxOf (L2.CX P w) P w K mg base N__law_made "_law_made" (defScope s__law_made) f cdv A outer s H E) rfl
  refine ss_one ?_
  refine sx_ret ?_
  refine ex_make T.mk_Net G_Net___init___3 (hr.mono (by decide)) tk rfl ?_
  refine ax_cons ?_ ?_
  · refine ex_ct (callP_tupleD rfl) rfl T.z_tuple bt_tuple ?_
    refine ax_cons ?_ ?_
    · refine ex_ixM hu64 hw ?_ ?_
      · exact ex_v 0
      exact ex_str
    exact ax_nil
  refine ax_cons ?_ ?_
  · refine ex_f ?_
    refine ef_ct (callF_dictP rfl hu64) rfl T.z_dict bt_dict ?_
    refine ax_cons ?_ ?_
    · refine ex_f ?_
      refine ef_items rfl ?_ rfl T.z_list bt_list
      refine ex_ixM hu64 hw ?_ ?_
      · exact ex_v 0
      exact ex_str
    exact ax_nil
  exact ax_nil

theorem sc__law_pair_right : FnScope N__law_pair_right ["made", "net", "one", "other"] (defScope s__law_pair_right) := ⟨rfl, rfl, rfl, by decide +kernel, rfl, by decide +kernel, by decide +kernel⟩
theorem ok__law_pair_right {f : Addr} {fd : FuncData} (T : Txt w K mg) (G_corners : Fn P w K mg base 5 "corners" 3 [] D_corners) (G__law_cut : Fn P w K mg base 1 "_law_cut" 2 [] D__law_cut) (G_excesses : Fn P w K mg base 5 "excesses" 3 [] D_excesses) (G_between : Fn P w K mg base 5 "between" 3 [] D_between) (G_opposite : Fn P w K mg base 4 "opposite" 2 [] D_opposite) (G_Net_cut : FnM P w K mg base 4 "Net" "cut" 2 [] D_Net_cut) (F : L2.Fun K "_law_pair_right" "_law_pair_right" s__law_pair_right f fd) (hm : mg "_law_pair_right" = some (.ref f)) : Fn P w K mg base 6 "_law_pair_right" 4 [] D__law_pair_right := by
  refine Fn.gc (fn_mk' (k := 5) (d := B__law_pair_right) F sc__law_pair_right hm (F.binds (ps := ["made", "net", "one", "other"]) fun _ _ _ _ _ _ us hl => match us, hl with | [_, _, _, _], _ => rfl) fun cdv A outer s H E hr tk => ?_)
  have nd := sc__law_pair_right.nd
  have hu64 := hr.units
  have hu65 := hu65 hr
  have hw := T.hw
  have pso := passes_of (X := cxOf (L2.CX P w) P w K mg base N__law_pair_right "_law_pair_right" (defScope s__law_pair_right) f cdv A outer s H E) rfl
  refine ss_cons ?_ ?_
  · refine sx_asg (vs := [4, 5, 6, 7]) ?_ ?_
    · refine ex_call G_corners (hr.mono (by decide)) tk rfl ?_
      refine ax_cons ?_ ?_
      · exact ex_v 0
      refine ax_cons ?_ ?_
      · exact ex_v 2
      refine ax_cons ?_ ?_
      · exact ex_v 3
      exact ax_nil
    refine gx_seq rfl ?_
    refine gs_cons (v1 := [4]) (v2 := [5, 6, 7]) ?_ ?_
    · exact gx_name (i := 4) nd rfl (Or.inl rfl)
    refine gs_cons (v1 := [5]) (v2 := [6, 7]) ?_ ?_
    · exact gx_name (i := 5) nd rfl (Or.inl rfl)
    refine gs_cons (v1 := [6]) (v2 := [7]) ?_ ?_
    · exact gx_name (i := 6) nd rfl (Or.inl rfl)
    refine gs_cons (v1 := [7]) (v2 := []) ?_ ?_
    · exact gx_name (i := 7) nd rfl (Or.inl rfl)
    exact gs_nil
  refine ss_cons ?_ ?_
  · refine sx_par (i := 8) (j := 9) rfl nd rfl rfl (by decide) rfl rfl ?_ (by rfl)
    refine ax_cons ?_ ?_
    · refine ex_ct (callP_tupleD rfl) rfl T.z_tuple bt_tuple ?_
      refine ax_cons ?_ ?_
      · refine ex_f ?_
        refine ef_cb (callF_sortedE hw hu64 rfl) rfl T.z_sorted bt_sorted ?_
        refine ax_cons ?_ ?_
        · refine ex_ct (callP_set hw rfl) rfl T.z_set bt_set ?_
          refine ax_cons ?_ ?_
          · refine ex_bin opP_add ?_ ?_
            · exact ex_v 2
            exact ex_v 3
          exact ax_nil
        exact ax_nil
      exact ax_nil
    refine ax_cons ?_ ?_
    · refine ex_bin opP_add ?_ ?_
      · refine ex_call G__law_cut (hr.mono (by decide)) tk rfl ?_
        refine ax_cons ?_ ?_
        · exact ex_v 1
        refine ax_cons ?_ ?_
        · exact ex_v 2
        exact ax_nil
      refine ex_call G__law_cut (hr.mono (by decide)) tk rfl ?_
      refine ax_cons ?_ ?_
      · exact ex_v 1
      refine ax_cons ?_ ?_
      · exact ex_v 3
      exact ax_nil
    exact ax_nil
  refine ss_cons ?_ ?_
  · refine sx_set (i := 10) nd rfl (Or.inl rfl) ?_
    refine ex_f ?_
    refine ef_lst ?_
    refine ax_cons ?_ ?_
    · refine ex_bin opP_sub ?_ ?_
      · refine ex_bin opP_sub ?_ ?_
        · exact ex_v 9
        refine ex_call G__law_cut (hr.mono (by decide)) tk rfl ?_
        refine ax_cons ?_ ?_
        · exact ex_v 1
        refine ax_cons ?_ ?_
        · exact ex_v 4
        exact ax_nil
      refine ex_call G__law_cut (hr.mono (by decide)) tk rfl ?_
      refine ax_cons ?_ ?_
      · exact ex_v 1
      refine ax_cons ?_ ?_
      · exact ex_v 8
      exact ax_nil
    refine ax_cons ?_ ?_
    · refine ex_bin opP_sub ?_ ?_
      · refine ex_bin opP_sub ?_ ?_
        · exact ex_v 9
        refine ex_call G__law_cut (hr.mono (by decide)) tk rfl ?_
        refine ax_cons ?_ ?_
        · exact ex_v 1
        refine ax_cons ?_ ?_
        · exact ex_v 5
        exact ax_nil
      refine ex_call G__law_cut (hr.mono (by decide)) tk rfl ?_
      refine ax_cons ?_ ?_
      · exact ex_v 1
      refine ax_cons ?_ ?_
      · exact ex_v 6
      exact ax_nil
    exact ax_nil
  refine ss_cons ?_ ?_
  · refine sx_set (i := 11) nd rfl (Or.inl rfl) ?_
    refine ex_f ?_
    refine ef_ct (callF_listD rfl) rfl T.z_list bt_list ?_
    refine ax_cons ?_ ?_
    · refine ex_call G_excesses (hr.mono (by decide)) tk rfl ?_
      refine ax_cons ?_ ?_
      · exact ex_v 0
      refine ax_cons ?_ ?_
      · exact ex_v 2
      refine ax_cons ?_ ?_
      · exact ex_v 3
      exact ax_nil
    exact ax_nil
  refine ss_cons ?_ ?_
  · refine sx_if ?_ ?_ ?_
    · refine bx_w ?_
      refine wx_or ?_ ?_
      · refine bx_cmp (opP_ne hu64) ?_ ?_
        · exact ex_v 11
        exact ex_v 10
      refine wx_or ?_ ?_
      · refine bx_cmp (opP_ne hu64) ?_ ?_
        · refine ex_ixM hu64 hw ?_ ?_
          · exact ex_v 11
          exact ex_int
        refine ex_bin opP_mul ?_ ?_
        · exact ex_int
        refine ex_call G_between (hr.mono (by decide)) tk rfl ?_
        refine ax_cons ?_ ?_
        · exact ex_v 0
        refine ax_cons ?_ ?_
        · exact ex_v 5
        refine ax_cons ?_ ?_
        · exact ex_v 6
        exact ax_nil
      refine wx_or1 ?_
      refine bx_cmp (opP_ne hu64) ?_ ?_
      · refine ex_ixM hu64 hw ?_ ?_
        · exact ex_v 11
        exact ex_int
      refine ex_bin opP_mul ?_ ?_
      · exact ex_int
      refine ex_call G_between (hr.mono (by decide)) tk rfl ?_
      refine ax_cons ?_ ?_
      · exact ex_v 0
      refine ax_cons ?_ ?_
      · exact ex_v 4
      refine ax_cons ?_ ?_
      · exact ex_v 7
      exact ax_nil
    · refine ss_one ?_
      refine sx_ret ?_
      exact ex_bl
    exact ss_nil
  refine ss_cons ?_ ?_
  · refine sx_if ?_ ?_ ?_
    · refine bx_w ?_
      refine wx_or ?_ ?_
      · refine bx_cmp opP_lt ?_ ?_
        · refine ex_cb (callP_minL rfl) rfl T.z_min bt_min ?_
          refine ax_cons ?_ ?_
          · exact ex_v 11
          exact ax_nil
        exact ex_int
      refine wx_or1 ?_
      refine bx_cmp (opP_ne hu64) ?_ ?_
      · refine ex_f ?_
        refine ef_lc (own := [("number", 12)]) (us := [12]) rfl nd ?_ (blkOk_by (own := [("number", 12)]) (N := N__law_pair_right) (sc := defScope s__law_pair_right) (by decide +kernel)) (by decide) ?_ ?_ ?_
        · refine ix_ad ?_
          exact ex_v 11
        · intro _ _ _ _ _
          exact gx_name (i := 12) nd rfl (Or.inl rfl)
        · intro _ _ _ _ _
          exact ts_nil
        intro _ _ _ _ _
        refine ex_bin opP_mod ?_ ?_
        · exact ex_v 12
        exact ex_int
      refine ex_f ?_
      refine ef_lst ?_
      refine ax_cons ?_ ?_
      · exact ex_int
      refine ax_cons ?_ ?_
      · exact ex_int
      exact ax_nil
    · refine ss_one ?_
      refine sx_ret ?_
      exact ex_bl
    exact ss_nil
  refine ss_cons ?_ ?_
  · refine sx_if ?_ ?_ ?_
    · refine bx_w ?_
      refine wx_or ?_ ?_
      · refine bx_cmp (opP_ne hu64) ?_ ?_
        · refine ex_meth T.cl_Net G_Net_cut (hr.mono (by decide)) tk ?_ ?_
          · exact ex_v 0
          refine ax_cons ?_ ?_
          · refine ex_call G_opposite (hr.mono (by decide)) tk rfl ?_
            refine ax_cons ?_ ?_
            · exact ex_v 0
            refine ax_cons ?_ ?_
            · exact ex_v 2
            exact ax_nil
          exact ax_nil
        refine ex_meth T.cl_Net G_Net_cut (hr.mono (by decide)) tk ?_ ?_
        · exact ex_v 0
        refine ax_cons ?_ ?_
        · exact ex_v 2
        exact ax_nil
      refine wx_or1 ?_
      refine bx_cmp (opP_ne hu64) ?_ ?_
      · refine ex_call G_excesses (hr.mono (by decide)) tk rfl ?_
        refine ax_cons ?_ ?_
        · exact ex_v 0
        refine ax_cons ?_ ?_
        · exact ex_v 3
        refine ax_cons ?_ ?_
        · exact ex_v 2
        exact ax_nil
      refine ex_tup ?_
      refine ax_cons ?_ ?_
      · refine ex_ixM hu64 hw ?_ ?_
        · exact ex_v 11
        exact ex_int
      refine ax_cons ?_ ?_
      · refine ex_ixM hu64 hw ?_ ?_
        · exact ex_v 11
        exact ex_int
      exact ax_nil
    · refine ss_one ?_
      refine sx_ret ?_
      exact ex_bl
    exact ss_nil
  refine ss_one ?_
  refine sx_ret ?_
  refine ex_cmp (opP_eq hu64) ?_ ?_
  · refine ex_bin opP_sub ?_ ?_
    · refine ex_bin opP_add ?_ ?_
      · refine ex_meth T.cl_Net G_Net_cut (hr.mono (by decide)) tk ?_ ?_
        · exact ex_v 0
        refine ax_cons ?_ ?_
        · exact ex_v 5
        exact ax_nil
      refine ex_meth T.cl_Net G_Net_cut (hr.mono (by decide)) tk ?_ ?_
      · exact ex_v 0
      refine ax_cons ?_ ?_
      · exact ex_v 6
      exact ax_nil
    refine ex_bin opP_mul ?_ ?_
    · exact ex_int
    refine ex_call G_between (hr.mono (by decide)) tk rfl ?_
    refine ax_cons ?_ ?_
    · exact ex_v 0
    refine ax_cons ?_ ?_
    · exact ex_v 5
    refine ax_cons ?_ ?_
    · exact ex_v 6
    exact ax_nil
  refine ex_meth T.cl_Net G_Net_cut (hr.mono (by decide)) tk ?_ ?_
  · exact ex_v 0
  refine ax_cons ?_ ?_
  · refine ex_ct (callP_tupleD rfl) rfl T.z_tuple bt_tuple ?_
    refine ax_cons ?_ ?_
    · refine ex_f ?_
      refine ef_cb (callF_sortedE hw hu64 rfl) rfl T.z_sorted bt_sorted ?_
      refine ax_cons ?_ ?_
      · refine ex_bin opP_add ?_ ?_
        · exact ex_v 5
        exact ex_v 6
      exact ax_nil
    exact ax_nil
  exact ax_nil

theorem sc_law : FnScope N_law ["script"] (defScope s_law) := ⟨rfl, rfl, rfl, by decide +kernel, rfl, by decide +kernel, by decide +kernel⟩
end
theorem ok_law_fn [HW] {P : Program} {w : World} {K : PySem.W.Frag} {mg : Str → Option Value} {base : Heap} {f : Addr} {fd : FuncData} (T : Txt w K mg) (G__law_dice : Fn P w K mg base 1 "_law_dice" 2 [] D__law_dice) (G__law_net : Fn P w K mg base 4 "_law_net" 1 [] D__law_net) (G__law_lot : Fn P w K mg base 2 "_law_lot" 2 [] D__law_lot) (G__law_made : Fn P w K mg base 6 "_law_made" 1 [] D__law_made) (G__law_pair_right : Fn P w K mg base 6 "_law_pair_right" 4 [] D__law_pair_right) (G_Net_read : FnC P w K mg base 6 "Net" "read" D_Net_read) (G_between : Fn P w K mg base 5 "between" 3 [] D_between) (G_excesses : Fn P w K mg base 5 "excesses" 3 [] D_excesses) (F : L2.Fun K "law" "law" s_law f fd) (hm : mg "law" = some (.ref f)) : FnOk P w K mg base (L2.CX P w) 7 f fd ["script"] (spF K 1 D_law) := by
  unfold D_law
  refine fn_ok' (k := 6) (d := B_law) F sc_law rfl rfl fun cdv A outer s H E hr tk => ?_
  have nd := sc_law.nd
  have hu64 := hr.units
  have hu65 := hu65 hr
  have hw := T.hw
  have pso := passes_of (X := cxOf (L2.CX P w) P w K mg base N_law "law" (defScope s_law) f cdv A outer s H E) rfl
  refine ss_cons ?_ ?_
  · refine sx_for (vs := [1]) pso rfl ?_ ?_ ?_
    · refine ix_r1 rfl T.z_range ?_
      refine ax_cons ?_ ?_
      · refine ex_cb (callP_max2 rfl) rfl T.z_max bt_max ?_
        refine ax_cons ?_ ?_
        · exact ex_int
        refine ax_cons ?_ ?_
        · refine ex_cb (callP_min2 rfl) rfl T.z_min bt_min ?_
          refine ax_cons ?_ ?_
          · exact ex_int
          refine ax_cons ?_ ?_
          · refine ex_cb (callP_lenE hw) rfl T.z_len bt_len ?_
            refine ax_cons ?_ ?_
            · exact ex_v 0
            exact ax_nil
          exact ax_nil
        exact ax_nil
      exact ax_nil
    · exact gx_name (i := 1) nd rfl (Or.inl rfl)
    refine ss_cons ?_ ?_
    · refine sx_set (i := 2) nd rfl (Or.inr rfl) ?_
      refine ex_call G__law_dice (hr.mono (by decide)) tk rfl ?_
      refine ax_cons ?_ ?_
      · exact ex_v 0
      refine ax_cons ?_ ?_
      · exact ex_v 1
      exact ax_nil
    refine ss_one ?_
    refine sx_for (vs := [3]) pso rfl ?_ ?_ ?_
    · refine ix_r1 rfl T.z_range ?_
      refine ax_cons ?_ ?_
      · exact ex_int
      exact ax_nil
    · exact gx_name (i := 3) nd rfl (Or.inl rfl)
    refine ss_cons ?_ ?_
    · refine sx_set (i := 4) nd rfl (Or.inr rfl) ?_
      refine ex_call G__law_net (hr.mono (by decide)) tk rfl ?_
      refine ax_cons ?_ ?_
      · exact ex_v 2
      exact ax_nil
    refine ss_cons ?_ ?_
    · refine sx_asg (vs := [5, 6]) ?_ ?_
      · refine ex_tup ?_
        refine ax_cons ?_ ?_
        · refine ex_call G__law_made (hr.mono (by decide)) tk rfl ?_
          refine ax_cons ?_ ?_
          · exact ex_v 4
          exact ax_nil
        refine ax_cons ?_ ?_
        · refine ex_f ?_
          refine ef_lc (own := [("draw", 7)]) (us := [7]) rfl nd ?_ (blkOk_by (own := [("draw", 7)]) (N := N_law) (sc := defScope s_law) (by decide +kernel)) (by decide) ?_ ?_ ?_
          · refine ix_r1 rfl T.z_range ?_
            refine ax_cons ?_ ?_
            · exact ex_int
            exact ax_nil
          · intro _ _ _ _ _
            exact gx_name (i := 7) nd rfl (Or.inl rfl)
          · intro _ _ _ _ _
            exact ts_nil
          intro _ _ _ _ _
          refine ex_call G__law_lot (hr.mono (by decide)) takes0 rfl ?_
          refine ax_cons ?_ ?_
          · exact ex_v 2
          refine ax_cons ?_ ?_
          · exact ex_v 4
          exact ax_nil
        exact ax_nil
      refine gx_seq rfl ?_
      refine gs_cons (v1 := [5]) (v2 := [6]) ?_ ?_
      · exact gx_name (i := 5) nd rfl (Or.inr rfl)
      refine gs_cons (v1 := [6]) (v2 := []) ?_ ?_
      · exact gx_name (i := 6) nd rfl (Or.inl rfl)
      exact gs_nil
    refine ss_one ?_
    refine sx_for (vs := [8]) pso rfl ?_ ?_ ?_
    · refine ix_ad ?_
      exact ex_v 6
    · exact gx_name (i := 8) nd rfl (Or.inr rfl)
    refine ss_one ?_
    refine sx_if ?_ ?_ ?_
    · refine bx_cmp (opP_ne hu64) ?_ ?_
      · refine ex_f ?_
        refine ef_lc (own := [("other", 9)]) (us := [9]) rfl nd ?_ (blkOk_by (own := [("other", 9)]) (N := N_law) (sc := defScope s_law) (by decide +kernel)) (by decide) ?_ ?_ ?_
        · refine ix_ad ?_
          exact ex_v 6
        · intro _ _ _ _ _
          exact gx_name (i := 9) nd rfl (Or.inl rfl)
        · intro _ _ _ _ _
          refine ts_one ?_
          refine bx_not ?_
          refine bx_val ?_
          refine ex_call G__law_pair_right (hr.mono (by decide)) takes0 rfl ?_
          refine ax_cons ?_ ?_
          · exact ex_v 5
          refine ax_cons ?_ ?_
          · exact ex_v 4
          refine ax_cons ?_ ?_
          · exact ex_v 8
          refine ax_cons ?_ ?_
          · exact ex_v 9
          exact ax_nil
        intro _ _ _ _ _
        exact ex_v 9
      refine ex_f ?_
      refine ef_lst ?_
      exact ax_nil
    · refine ss_one ?_
      refine sx_ret ?_
      exact ex_bl
    exact ss_nil
  refine ss_cons ?_ ?_
  · refine sx_set (i := 10) nd rfl (Or.inl rfl) ?_
    refine ex_cmeth G_Net_read (hr.mono (by decide)) tk rfl ?_
    refine ax_cons ?_ ?_
    · exact ex_str
    refine ax_cons ?_ ?_
    · exact ex_str
    refine ax_cons ?_ ?_
    · exact ex_str
    refine ax_cons ?_ ?_
    · exact ex_str
    refine ax_cons ?_ ?_
    · exact ex_str
    refine ax_cons ?_ ?_
    · exact ex_str
    exact ax_nil
  refine ss_cons ?_ ?_
  · refine sx_set (i := 11) nd rfl (Or.inl rfl) ?_
    refine ex_cmeth G_Net_read (hr.mono (by decide)) tk rfl ?_
    refine ax_cons ?_ ?_
    · exact ex_str
    refine ax_cons ?_ ?_
    · exact ex_str
    refine ax_cons ?_ ?_
    · exact ex_str
    refine ax_cons ?_ ?_
    · exact ex_str
    refine ax_cons ?_ ?_
    · exact ex_str
    refine ax_cons ?_ ?_
    · exact ex_str
    refine ax_cons ?_ ?_
    · exact ex_str
    exact ax_nil
  refine ss_cons ?_ ?_
  · refine sx_set (i := 12) nd rfl (Or.inl rfl) ?_
    refine ex_f ?_
    refine ef_lst ?_
    refine ax_cons ?_ ?_
    · refine ex_call G_excesses (hr.mono (by decide)) tk rfl ?_
      refine ax_cons ?_ ?_
      · exact ex_v 10
      refine ax_cons ?_ ?_
      · refine ex_tup ?_
        refine ax_cons ?_ ?_
        · exact ex_str
        refine ax_cons ?_ ?_
        · exact ex_str
        exact ax_nil
      refine ax_cons ?_ ?_
      · refine ex_tup ?_
        refine ax_cons ?_ ?_
        · exact ex_str
        refine ax_cons ?_ ?_
        · exact ex_str
        exact ax_nil
      exact ax_nil
    refine ax_cons ?_ ?_
    · refine ex_call G_excesses (hr.mono (by decide)) tk rfl ?_
      refine ax_cons ?_ ?_
      · exact ex_v 10
      refine ax_cons ?_ ?_
      · refine ex_tup ?_
        refine ax_cons ?_ ?_
        · exact ex_str
        refine ax_cons ?_ ?_
        · exact ex_str
        exact ax_nil
      refine ax_cons ?_ ?_
      · refine ex_tup ?_
        refine ax_cons ?_ ?_
        · exact ex_str
        refine ax_cons ?_ ?_
        · exact ex_str
        exact ax_nil
      exact ax_nil
    refine ax_cons ?_ ?_
    · refine ex_call G_between (hr.mono (by decide)) tk rfl ?_
      refine ax_cons ?_ ?_
      · exact ex_v 11
      refine ax_cons ?_ ?_
      · refine ex_tup ?_
        refine ax_cons ?_ ?_
        · exact ex_str
        refine ax_cons ?_ ?_
        · exact ex_str
        exact ax_nil
      refine ax_cons ?_ ?_
      · refine ex_tup ?_
        refine ax_cons ?_ ?_
        · exact ex_str
        exact ax_nil
      exact ax_nil
    exact ax_nil
  refine ss_one ?_
  refine sx_ret ?_
  refine ex_cmp (opP_eq hu64) ?_ ?_
  · exact ex_v 12
  refine ex_f ?_
  refine ef_lst ?_
  refine ax_cons ?_ ?_
  · refine ex_tup ?_
    refine ax_cons ?_ ?_
    · exact ex_int
    refine ax_cons ?_ ?_
    · exact ex_int
    exact ax_nil
  refine ax_cons ?_ ?_
  · refine ex_tup ?_
    refine ax_cons ?_ ?_
    · exact ex_int
    refine ax_cons ?_ ?_
    · exact ex_int
    exact ax_nil
  refine ax_cons ?_ ?_
  · exact ex_int
  exact ax_nil

end Lw

namespace Lw
open PySem PySem.Spec L2 Pv
variable [HW]
@[simp] theorem lenE_look (S : Store) (v : PV) : cLenE S [v] = match look S v with
    | .set ks => (match v with | .loc _ => cLenD S [v] | _ => some (.int ks.length))
    | _ => cLenD S [v] := by
  cases v <;> try rfl
  rename_i n
  show cLenD S [.loc n] = _
  cases look S (.loc n) <;> rfl
/-! ### what stays flat -/
def FlatS (S : Store) : Prop := ∀ c ∈ S, noLoc c = true
theorem fzS_flat {n0 : Nat} {S : Store} : ∀ {cs : List PV}, (∀ c ∈ cs, noLoc c = true) → fzS n0 S cs = some cs
  | [], _ => rfl
  | c :: cs, h => by
    have h1 := h c List.mem_cons_self
    have h2 := fzS_flat (n0 := n0) (S := S) (cs := cs) fun d hd => h d (List.mem_cons_of_mem _ hd)
    unfold fzS fzC
    rw [if_pos h1, h2]
    rfl
theorem gc_flat {F : FDen} {qs : List PV} {S S' : Store} {r : PV} (h : F qs S = .ok r S') (hr : noLoc r = true) (hS : ∀ c ∈ S'.take S.length, noLoc c = true) : gcF F qs S = .ok r (S'.take S.length) := by
  show gcO S.length (F qs S) = _
  rw [h]
  unfold gcO
  simp only [fz_no hr, fzS_flat hS]
/-- a def that makes no cells -/
theorem gc_same {F : FDen} {qs : List PV} {S S' : Store} {r : PV} (h : F qs S = .ok r S') (hr : noLoc r = true) (hl : S'.length = S.length) (hS : FlatS S') : gcF F qs S = .ok r S' := by
  have := gc_flat h hr (by rw [← hl, List.take_length]; exact hS)
  rw [← hl, List.take_length] at this
  exact this
/-- a def that keeps the cells and may make some -/
theorem gc_more {F : FDen} {qs : List PV} {S M : Store} {r : PV} (h : F qs S = .ok r (S ++ M)) (hr : noLoc r = true) (hS : FlatS S) : gcF F qs S = .ok r S := by
  have := gc_flat h hr (by rw [List.take_left]; exact hS)
  rw [List.take_left] at this
  exact this
/-! ### the law's dice -/
def Dice (S : Store) (n : Nat) : Prop := ∃ a b c : Int, S[n]? = some (.lst [.int a, .int b, .int c])
def Ok (S : Store) (n : Nat) : Prop := Dice S n ∧ FlatS S
/-- the dice at n have been thrown -/
def Roll (n : Nat) (S S' : Store) : Prop := ∃ a b c : Int, S' = S.set n (.lst [.int a, .int b, .int c])
theorem Ok.lt {S : Store} {n : Nat} (d : Ok S n) : n < S.length := by
  obtain ⟨⟨a, b, c, h⟩, _⟩ := d
  exact (List.getElem?_eq_some_iff.mp h).1
theorem Ok.roll {S : Store} {n : Nat} (d : Ok S n) : Roll n S S := by
  obtain ⟨⟨a, b, c, h⟩, _⟩ := d
  obtain ⟨hn, e⟩ := List.getElem?_eq_some_iff.mp h
  exact ⟨a, b, c, by rw [← e, List.set_getElem_self]⟩
theorem Roll.trans {n : Nat} {S S' S'' : Store} (r : Roll n S S') (q : Roll n S' S'') : Roll n S S'' := by
  obtain ⟨a, b, c, rfl⟩ := r
  obtain ⟨a', b', c', rfl⟩ := q
  exact ⟨a', b', c', by rw [List.set_set]⟩
theorem Roll.len {n : Nat} {S S' : Store} (r : Roll n S S') : S'.length = S.length := by
  obtain ⟨a, b, c, rfl⟩ := r
  simp [-cLenE]
theorem Roll.ok {n : Nat} {S S' : Store} (r : Roll n S S') (d : Ok S n) : Ok S' n := by
  have hn := d.lt
  obtain ⟨a, b, c, rfl⟩ := r
  refine ⟨⟨a, b, c, by rw [List.getElem?_set_self hn]⟩, fun x hx => ?_⟩
  rcases List.mem_or_eq_of_mem_set hx with h | rfl
  · exact d.2 x h
  · rfl
theorem Roll.ne {n : Nat} {S S' : Store} (r : Roll n S S') {m : Nat} (h : m ≠ n) : S'[m]? = S[m]? := by
  obtain ⟨a, b, c, rfl⟩ := r
  rw [List.getElem?_set_ne (Ne.symm h)]
theorem Roll.app {n : Nat} {S S' M : Store} (r : Roll n S S') (h : n < S.length) : Roll n (S ++ M) (S' ++ M) := by
  obtain ⟨a, b, c, rfl⟩ := r
  exact ⟨a, b, c, by rw [List.set_append_left _ _ h]⟩
theorem log_small {t : Int} (h0 : 0 < t) (hb : t < 2 ^ 1000) : t.natAbs.log2 < 9000 := by
  have h : t.natAbs < 2 ^ 1000 := by omega
  have h1 : t.natAbs ≠ 0 := by omega
  have := (Nat.log2_lt h1).mpr h
  omega
theorem mod_ok {x m : Int} (h0 : 0 < m) (h : m ≤ 18446744073709551616) : ((-18446744073709551616 < x % m ∧ x % m < 18446744073709551616)) = True := by
  have := Int.emod_nonneg x (show m ≠ 0 by omega)
  have := Int.emod_lt_of_pos x h0
  simp [-cLenE]
  omega
theorem roll_spec {S : Store} {n : Nat} {t : Int} (d : Ok S n) (ht : 0 < t) (hb : t < 2 ^ 1000) : ∃ (k : Int) (S' : Store), D__law_roll [.loc n, .int t] S = .ok (.int k) S' ∧ 0 ≤ k ∧ k < t ∧ Roll n S S' := by
  have hn := d.lt
  suffices q : ∃ (k : Int) (S' : Store), callD 5 2 B__law_roll [.loc n, .int t] S = .ok (.int k) S' ∧ 0 ≤ k ∧ k < t ∧ Roll n S S' by
    obtain ⟨k, S', e, h0, h1, r⟩ := q
    exact ⟨k, S', gc_same e rfl r.len (r.ok d).2, h0, h1, r⟩
  obtain ⟨⟨a, b, c, h⟩, _⟩ := d
  have hl := look_at h
  have hlog := log_small ht hb
  by_cases ha : 0 < a
  · refine ⟨a % t, _, ?_, Int.emod_nonneg _ (by omega), Int.emod_lt_of_pos _ ht, ⟨a / t, b, c, rfl⟩⟩
    simp [-cLenE, B__law_roll, hl, atI, ixN, ha, ht, hlog, h]
  · have hl8 : (Nat.log2 8192 < 9000) = True := by simp [-cLenE]; decide
    have hl2 := look_set (c := .lst [.int a, .int b, .int (c + 1)]) hn
    have o1 : ∀ x : Int, (-18446744073709551616 < x % 2305843009213693951 ∧ x % 2305843009213693951 < 18446744073709551616) = True := fun x => mod_ok (by decide) (by decide)
    have o2 : ∀ x : Int, (-18446744073709551616 < x % 2305843009213693907 ∧ x % 2305843009213693907 < 18446744073709551616) = True := fun x => mod_ok (by decide) (by decide)
    refine ⟨((((b + 998244319 * (c + 1)) % 2305843009213693951 * ((b + 998244319 * (c + 1)) % 2305843009213693951)) % 2305843009213693907 * ((b + 998244319 * (c + 1)) % 2305843009213693951) + 9421 * (c + 1)) % 2305843009213693661) / 8192 % t, _, ?_, Int.emod_nonneg _ (by omega), Int.emod_lt_of_pos _ ht, ⟨a, b, c + 1, rfl⟩⟩
    simp [-cLenE, B__law_roll, hl, atI, ixN, ha, ht, hlog, h, hl2, o1, o2, hl8]
theorem small_len {α : Type} {xs : List α} (h : xs.length ≤ 2 ^ 30) : (xs.length : Int) < 2 ^ 1000 := by
  have : ((2 : Int) ^ 30) ≤ 2 ^ 1000 := by decide +kernel
  omega
theorem noLocL_iff {xs : List PV} : noLocL xs = true ↔ ∀ x ∈ xs, noLoc x = true := by
  induction xs with
  | nil => simp [-cLenE]
  | cons x xs ih => simp [-cLenE, ih]
/-- v holds the items xs -/
def Holds (S : Store) (v : PV) (xs : List PV) : Prop := look S v = .lst xs ∨ look S v = .tup xs
theorem pick_spec {S : Store} {n : Nat} {v : PV} {xs : List PV} (d : Ok S n) (hv : ∀ S', Roll n S S' → Holds S' v xs) (hx : xs ≠ []) (hz : xs.length ≤ 2 ^ 30) (hf : noLocL xs = true) : ∃ x S', D__law_pick [.loc n, v] S = .ok x S' ∧ x ∈ xs ∧ Roll n S S' := by
  have hp : 0 < xs.length := List.length_pos_iff.mpr hx
  obtain ⟨k, S', e, h0, h1, r⟩ := roll_spec d (show (0 : Int) < xs.length by omega) (small_len hz)
  obtain ⟨x, h2, h3, _⟩ := atI_of h0 h1
  have e1 := hv S d.roll
  have e2 := hv S' r
  refine ⟨x, S', gc_same (F := callD 2 2 B__law_pick) ?_ (noLocL_iff.mp hf x h3) r.len (r.ok d).2, h3, r⟩
  rcases e1 with e1 | e1 <;> rcases e2 with e2 | e2 <;> simp [-cLenE, B__law_pick, e1, e2, e, h2]
theorem pick_lst {S : Store} {n : Nat} {xs : List PV} (d : Ok S n) (hx : xs ≠ []) (hz : xs.length ≤ 2 ^ 30) (hf : noLocL xs = true) : ∃ x S', D__law_pick [.loc n, .lst xs] S = .ok x S' ∧ x ∈ xs ∧ Roll n S S' :=
  pick_spec d (fun _ _ => .inl rfl) hx hz hf
theorem erase_perm {α : Type} : ∀ {xs : List α} {k : Nat} {x : α}, xs[k]? = some x → List.Perm xs (x :: xs.eraseIdx k)
  | [], _, _, h => by simp [-cLenE] at h
  | y :: ys, 0, x, h => by simp [-cLenE] at h; subst h; simp [-cLenE]
  | y :: ys, k + 1, x, h => by
    have ih := erase_perm (xs := ys) (k := k) (x := x) (by simpa [-cLenE] using h)
    simp [-cLenE]
    exact (List.Perm.cons y ih).trans (List.Perm.swap x y _)
end Lw


namespace Lw
open PySem PySem.Spec L2 Pv
variable [HW]
/-- some of them, in a drawn order: with the rest they are all -/
theorem some_spec {S : Store} {n : Nat} {v : PV} {xs : List PV} {z : Int} (d : Ok S n) (hv : Holds S v xs) (hz : xs.length ≤ 2 ^ 20) (h0 : 0 ≤ z) (hf : noLocL xs = true) : ∃ ys S' rest, D__law_some [.loc n, v, .int z] S = .ok (.lst ys) S' ∧ List.Perm xs (ys ++ rest) ∧
    (ys.length : Int) = min z xs.length ∧ Roll n S S' := by
  have hn := d.lt
  have hL : (2 : Nat) ^ 20 ≤ sizeLine := by rw [sizeLine_eq]; decide
  have m0 : 0 ≤ min z (xs.length : Int) := by omega
  obtain ⟨m, hm⟩ : ∃ m : Nat, (m : Int) = min z xs.length := ⟨(min z (xs.length : Int)).toNat, by omega⟩
  obtain ⟨ys, S', e, rest, p2, p3, p4⟩ := compD_inv (b := bN 4) (test := dYes) (elt := dM isLst mPop (dV 3) (dCons (dFn D__law_roll [] (dCons (dV 0) (dCons (dCB cLenE (dCons (dV 3) dNil)) dNil))) dNil))
    (ρ := [some (.loc n), some v, some (.int z), some (.loc S.length), none])
    (fun i acc S' => ∃ rest, List.Perm xs (acc ++ rest) ∧ acc.length = i ∧ ∃ S1, Roll n S S1 ∧ S' = S1 ++ [.lst rest])
    (nums 0 m) 0 0 [] (S ++ [.lst xs]) ⟨xs, by simp, rfl, S, d.roll, rfl⟩ rfl (by rw [nums_length]; omega) (by
      rintro j x acc S1 hx ⟨rest, p2, p3, S0, r0, rfl⟩
      obtain ⟨rfl, hj⟩ := nums_get hx
      have hlen := p2.length_eq
      simp at hlen
      have hr : 0 < rest.length := by omega
      have d0 := r0.ok d
      have hn0 := d0.lt
      have hrest : noLocL rest = true := noLocL_iff.mpr fun y hy => noLocL_iff.mp hf y (p2.symm.subset (List.mem_append_right _ hy))
      have d1 : Ok (S0 ++ [.lst rest]) n := ⟨by
        obtain ⟨⟨a, b, c, h⟩, _⟩ := d0
        exact ⟨a, b, c, by rw [List.getElem?_append_left hn0]; exact h⟩, fun c hc => by
        rcases List.mem_append.mp hc with h | h
        · exact d0.2 c h
        · cases (List.mem_singleton.mp h); exact hrest⟩
      obtain ⟨k, S2, e, k0, k1, r⟩ := roll_spec d1 (show (0 : Int) < rest.length by omega) (small_len (by omega))
      have hl0 := r0.len
      have p1 : (S0 ++ [PV.lst rest])[S.length]? = some (.lst rest) := by rw [← hl0]; simp
      have q1 : S2[S.length]? = some (.lst rest) := by rw [r.ne (by omega)]; exact p1
      obtain ⟨y, _, _, y3⟩ := atI_of k0 k1
      refine ⟨_, rfl, true, _, rfl, ?_⟩
      simp
      obtain ⟨a, b, c, rfl⟩ := r
      rw [List.set_append_left _ _ d0.lt] at q1 e
      refine ⟨y, (S0.set n (PV.lst [.int a, .int b, .int c]) ++ [PV.lst rest]).set S.length (PV.lst (rest.eraseIdx k.toNat)), ?_, rest.eraseIdx k.toNat, ?_, by simp [p3], S0.set n (PV.lst [.int a, .int b, .int c]), r0.trans ⟨a, b, c, rfl⟩, ?_⟩
      · have hb : -9223372036854775808 ≤ k ∧ k < 9223372036854775808 := by omega
        simp [look_at p1, e, q1, Pv.seqIndex_of k0 k1, y3, hb]
      · have := erase_perm y3
        exact p2.trans (by simpa using List.Perm.append_left acc this)
      · rw [List.set_append_right _ _ (by simp; omega)]
        simp [hl0])
  obtain ⟨S1, r1, rfl⟩ := p4
  have hm2 : -4611686018427387904 ≤ (m : Int) ∧ (m : Int) < 4611686018427387904 := by omega
  have hys : noLocL ys = true := noLocL_iff.mpr fun y hy => noLocL_iff.mp hf y ((show List.Perm xs (ys ++ rest) by simpa using p2).symm.subset (List.mem_append_left _ hy))
  refine ⟨ys, S1, rest, ?_, by simpa using p2, ?_, r1⟩
  · have := gc_flat (F := callD 5 3 B__law_some) (qs := [.loc n, v, .int z]) (S := S) (S' := S1 ++ [.lst rest]) (r := .lst ys) ?_ hys (by rw [← r1.len, List.take_left]; exact (r1.ok d).2)
    · rw [← r1.len, List.take_left] at this
      exact this
    · have e1 : (if (xs.length : Int) < z then (xs.length : Int) else z) = (m : Int) := by split <;> omega
      have hlk : look (S ++ [.lst xs]) (.loc S.length) = .lst xs := look_at (by simp)
      simp at e
      rcases hv with hv | hv <;> simp [B__law_some, hv, hlk, e1, hm2, e]
  · simp [nums_length] at p3
    omega
theorem dice_spec {S : Store} {ns : List Int} {spot : Int} (h0 : 0 ≤ spot) : ∃ a b c : Int, D__law_dice [.scr ns, .int spot] S = .ok (.loc S.length) (S ++ [.lst [.int a, .int b, .int c]]) := by
  have b1 : (Builtin.Int.intBits 10) = 4 := by decide
  have b2 : (Builtin.Int.intBits 1000000000000000000000000000000000000000000000000000000000000) = 200 := by decide +kernel
  by_cases hs : spot < ns.length
  · obtain ⟨x, hx, _, _⟩ := atI_of h0 hs
    exact ⟨_, _, _, by simp [D__law_dice, B__law_dice, hs, hx, b1, b2]; exact ⟨rfl, rfl, rfl⟩⟩
  · exact ⟨_, _, _, by simp [D__law_dice, B__law_dice, hs, b1, b2]; exact ⟨rfl, rfl, rfl⟩⟩
end Lw


namespace Lw
open PySem PySem.Spec L2 Pv
variable [HW]
/-! ### ties, told plainly -/
abbrev Pr := Str × Str
abbrev Tie := Pr × Int
def kp (p : Pr) : PV := .tup [.str p.1, .str p.2]
/-- counts by keys -/
def ent {κ : Type} (f : κ → PV) (T : List (κ × Int)) : List (PV × PV) := T.map fun t => (f t.1, .int t.2)
abbrev tp (T : List Tie) : List (PV × PV) := ent kp T
abbrev sp (T : List (Str × Int)) : List (PV × PV) := ent .str T
/-- different keys are different to a dict -/
def KF {κ : Type} [DecidableEq κ] (f : κ → PV) : Prop := ∀ a b, keq (f a) (f b) = decide (a = b)
theorem ckey_kp (p : Pr) : ckey (kp p) = some (.inr [.inr p.1, .inr p.2]) := rfl
theorem tkey_kp (p : Pr) : tkey (kp p) = some [.inr p.1, .inr p.2] := rfl
theorem keq_kp (p q : Pr) : keq (kp p) (kp q) = decide (p = q) := by
  unfold keq
  rw [ckey_kp, ckey_kp]
  by_cases h : p = q
  · subst h; simp
  · have : ¬ ((Sum.inr [Sum.inr p.1, Sum.inr p.2] : Key ⊕ List Key) = Sum.inr [Sum.inr q.1, Sum.inr q.2]) := by
      intro e
      simp at e
      exact h (Prod.ext e.1 e.2)
    simp only [decide_eq_false h, decide_eq_false this]
section
variable {κ : Type} [DecidableEq κ]
def getT : List (κ × Int) → κ → Option Int
  | [], _ => none
  | (k, v) :: r, p => if k = p then some v else getT r p
def putT (T : List (κ × Int)) (p : κ) (v : Int) : List (κ × Int) := if (getT T p).isSome = true then T.map (fun t => if t.1 = p then (t.1, v) else t) else T ++ [(p, v)]
def dropT (T : List (κ × Int)) (p : κ) : List (κ × Int) := T.filter fun t => !decide (t.1 = p)
def sumT (T : List (κ × Int)) : Int := (T.map (·.2)).sum
theorem valP_ent {f : κ → PV} (hf : KF f) (T : List (κ × Int)) (p : κ) : valP (ent f T) (f p) = (getT T p).map .int := by
  induction T with
  | nil => rfl
  | cons t T ih =>
    obtain ⟨k, v⟩ := t
    show (if keq (f k) (f p) = true then some (PV.int v) else valP (ent f T) (f p)) = _
    unfold getT
    rw [hf, ih]
    by_cases h : k = p <;> simp [h]
theorem putP_ent {f : κ → PV} (hf : KF f) (T : List (κ × Int)) (p : κ) (v : Int) : putP (ent f T) (f p) (.int v) = ent f (putT T p v) := by
  unfold putP putT
  rw [valP_ent hf]
  by_cases h : (getT T p).isSome = true
  · rw [if_pos (by simpa using h), if_pos h]
    simp only [ent, List.map_map]
    refine List.map_congr_left fun t _ => ?_
    show (if keq (f t.1) (f p) = true then (f t.1, PV.int v) else (f t.1, PV.int t.2)) = _
    rw [hf]
    by_cases e : t.1 = p <;> simp [e]
  · rw [if_neg (by simpa using h), if_neg h]
    simp [ent]
theorem dropP_ent {f : κ → PV} (hf : KF f) (T : List (κ × Int)) (p : κ) : dropP (ent f T) (f p) = ent f (dropT T p) := by
  unfold dropP dropT ent
  rw [List.filter_map]
  congr 1
  refine List.filter_congr fun t _ => ?_
  show (!keq (f t.1) (f p)) = _
  rw [hf]
end
theorem kf_kp : KF kp := keq_kp
theorem kf_str : KF PV.str := fun a b => by
  unfold keq
  by_cases h : a = b <;> simp [ckey, h]
theorem valP_tp (T : List Tie) (p : Pr) : valP (tp T) (kp p) = (getT T p).map .int := valP_ent kf_kp T p
theorem putP_tp (T : List Tie) (p : Pr) (v : Int) : putP (tp T) (kp p) (.int v) = tp (putT T p v) := putP_ent kf_kp T p v
theorem dropP_tp (T : List Tie) (p : Pr) : dropP (tp T) (kp p) = tp (dropT T p) := dropP_ent kf_kp T p
theorem tp_tkey (T : List Tie) : ((tp T).all fun p => (tkey p.1).isSome) = true := by
  simp only [List.all_eq_true]
  intro x hx
  obtain ⟨t, _, rfl⟩ := List.mem_map.mp hx
  rfl
theorem tp_noLoc (T : List Tie) : noLocK (tp T) = true := by
  induction T with
  | nil => rfl
  | cons t T ih => exact (by simpa [ent] using ih)
theorem tp_len (T : List Tie) : (tp T).length = T.length := by simp [ent]
/-- a dict's own pairs make it again -/
theorem valP_none {kvs : List (PV × PV)} {y : PV} (h : ∀ a ∈ kvs, keq a.1 y = false) : valP kvs y = none := by
  induction kvs with
  | nil => rfl
  | cons a l ih =>
    obtain ⟨k, v⟩ := a
    show (if keq k y = true then some v else valP l y) = none
    rw [if_neg (by rw [h (k, v) List.mem_cons_self]; simp), ih fun a ha => h a (List.mem_cons_of_mem _ ha)]
theorem merge_id : ∀ (kvs acc : List (PV × PV)), (acc ++ kvs).Pairwise (fun a b => keq a.1 b.1 = false) → kvs.foldl (fun acc p => putP acc p.1 p.2) acc = acc ++ kvs
  | [], acc, _ => by simp
  | p :: l, acc, h => by
    have h1 : ∀ a ∈ acc, keq a.1 p.1 = false := fun a ha => (List.pairwise_append.mp h).2.2 a ha p List.mem_cons_self
    have e : putP acc p.1 p.2 = acc ++ [p] := by
      unfold putP
      rw [valP_none h1]
      rfl
    rw [List.foldl_cons, e, merge_id l (acc ++ [p]) (by rw [List.append_assoc]; exact h), List.append_assoc]
    rfl
def NodT {κ : Type} (T : List (κ × Int)) : Prop := (T.map (·.1)).Nodup
theorem ent_pw {κ : Type} [DecidableEq κ] {f : κ → PV} (hf : KF f) {T : List (κ × Int)} (h : NodT T) : (ent f T).Pairwise fun a b => keq a.1 b.1 = false := by
  unfold ent
  refine List.pairwise_map.mpr ?_
  have := List.pairwise_map.mp h
  refine this.imp fun {a b} hab => ?_
  rw [hf]
  exact decide_eq_false hab
theorem merge_tp {T : List Tie} (h : NodT T) : mergeP (tp T) = tp T := by
  have := merge_id (tp T) [] (by
    rw [List.nil_append]
    unfold tp ent
    refine List.pairwise_map.mpr ?_
    have := List.pairwise_map.mp h
    refine this.imp fun {a b} hab => ?_
    rw [keq_kp]
    exact decide_eq_false hab)
  exact this
theorem pairsP_items (kvs : List (PV × PV)) : pairsP (kvs.map fun p => .tup [p.1, p.2]) = some kvs := by
  induction kvs with
  | nil => rfl
  | cons p l ih => simp [ih]
/-! ### laws of the plain ties -/
section
variable {κ : Type} [DecidableEq κ]
theorem getT_none {T : List (κ × Int)} {p : κ} (h : getT T p = none) : p ∉ T.map (·.1) := by
  induction T with
  | nil => simp
  | cons t T ih =>
    obtain ⟨k, v⟩ := t
    unfold getT at h
    split at h
    · cases h
    · rename_i e
      simp only [List.map_cons, List.mem_cons, not_or]
      exact ⟨fun q => e q.symm, ih h⟩
theorem getT_some {T : List (κ × Int)} {p : κ} {v : Int} (h : getT T p = some v) : (p, v) ∈ T := by
  induction T with
  | nil => cases h
  | cons t T ih =>
    obtain ⟨k, w⟩ := t
    unfold getT at h
    split at h
    · rename_i e; cases h; subst e; exact List.mem_cons_self
    · exact List.mem_cons_of_mem _ (ih h)
theorem getT_of {T : List (κ × Int)} (n : NodT T) {p : κ} {v : Int} (h : (p, v) ∈ T) : getT T p = some v := by
  induction T with
  | nil => cases h
  | cons t T ih =>
    obtain ⟨k, w⟩ := t
    have n' : k ∉ T.map (·.1) ∧ NodT T := List.nodup_cons.mp n
    unfold getT
    rcases List.mem_cons.mp h with e | h
    · cases e; rw [if_pos rfl]
    · rw [if_neg (fun e => n'.1 (by rw [e]; exact List.mem_map.mpr ⟨_, h, rfl⟩)), ih n'.2 h]
theorem putT_nod {T : List (κ × Int)} (n : NodT T) (p : κ) (v : Int) : NodT (putT T p v) := by
  unfold putT
  split
  · have e : (T.map fun t => if t.1 = p then (t.1, v) else t).map (·.1) = T.map (·.1) := by
      rw [List.map_map]
      refine List.map_congr_left fun t _ => ?_
      simp only [Function.comp]
      split <;> rfl
    unfold NodT
    rw [e]; exact n
  · rename_i h
    have h' : getT T p = none := by simpa using h
    unfold NodT
    rw [List.map_append, List.nodup_append]
    refine ⟨n, by simp, ?_⟩
    intro x hx y hy
    simp at hy
    subst hy
    exact fun e => getT_none h' (e ▸ hx)
theorem putT_mem {T : List (κ × Int)} {p : κ} {v : Int} {t : κ × Int} (h : t ∈ putT T p v) : t ∈ T ∨ t = (p, v) := by
  unfold putT at h
  split at h
  · obtain ⟨u, hu, e⟩ := List.mem_map.mp h
    split at e
    · rename_i q; exact .inr (by rw [← e, q])
    · exact .inl (by rw [← e]; exact hu)
  · rcases List.mem_append.mp h with h | h
    · exact .inl h
    · exact .inr (by simpa using h)
theorem sum_put {T : List (κ × Int)} (n : NodT T) (p : κ) (m : Int) : sumT (putT T p ((getT T p).getD 0 + m)) = sumT T + m := by
  cases q : getT T p with
  | none => simp [putT, q, sumT]
  | some v =>
    have key : ∀ (L : List (κ × Int)), (L.map (·.1)).Nodup → getT L p = some v → ((L.map fun t => if t.1 = p then (t.1, v + m) else t).map (·.2)).sum = (L.map (·.2)).sum + m := by
      intro L
      induction L with
      | nil => intro _ h; cases h
      | cons t L ih =>
        intro nd h
        obtain ⟨k, w⟩ := t
        have n' : k ∉ L.map (·.1) ∧ (L.map (·.1)).Nodup := List.nodup_cons.mp nd
        unfold getT at h
        split at h
        · rename_i e
          cases h
          subst e
          have : (L.map fun t => if t.1 = k then (t.1, v + m) else t) = L := by
            conv => rhs; rw [← List.map_id L]
            refine List.map_congr_left fun t ht => ?_
            rw [if_neg (fun e => n'.1 (by rw [← e]; exact List.mem_map.mpr ⟨_, ht, rfl⟩))]
            rfl
          simp only [List.map_cons, if_true, List.sum_cons, this]
          generalize hx : (L.map fun x => x.2).sum = x
          exact Int.add_right_comm v m x
        · rename_i e
          have := ih n'.2 h
          simp only [List.map_cons, if_neg e, List.sum_cons, this]
          omega
    have := key T n q
    simp only [putT, q, sumT, Option.isSome_some, if_true, Option.getD_some, this]
theorem put_len (T : List (κ × Int)) (p : κ) (v : Int) : (putT T p v).length ≤ T.length + 1 := by
  unfold putT
  split <;> simp
theorem drop_sub {T : List (κ × Int)} {p : κ} : (dropT T p).Sublist T := List.filter_sublist
theorem sum_sub {A B : List (κ × Int)} (h : A.Sublist B) (p : ∀ t ∈ B, 0 ≤ t.2) : sumT A ≤ sumT B := by
  induction h with
  | slnil => exact Int.le_refl _
  | cons a h ih =>
    have := ih fun t ht => p t (List.mem_cons_of_mem _ ht)
    have := p a List.mem_cons_self
    simp only [sumT, List.map_cons, List.sum_cons] at *
    omega
  | cons_cons a h ih =>
    have := ih fun t ht => p t (List.mem_cons_of_mem _ ht)
    simp only [sumT, List.map_cons, List.sum_cons] at *
    omega
end
/-- a net's ties: pairs of its places, in order, each told once, with a number -/
structure TiesOk (ps : List Str) (T : List Tie) (b : Int) : Prop where
  nod : NodT T
  mem : ∀ t ∈ T, t.1.1 ∈ ps ∧ t.1.2 ∈ ps ∧ t.1.1.cps.toList < t.1.2.cps.toList ∧ 1 ≤ t.2
  sum : sumT T ≤ b
  len : (T.length : Int) ≤ b
theorem TiesOk.nil {ps : List Str} : TiesOk ps [] 0 := ⟨List.nodup_nil, (fun _ h => nomatch h), Int.le_refl _, Int.le_refl _⟩
theorem TiesOk.put {ps : List Str} {T : List Tie} {b m : Int} {p : Pr} (h : TiesOk ps T b) (h1 : p.1 ∈ ps) (h2 : p.2 ∈ ps) (h3 : p.1.cps.toList < p.2.cps.toList) (hm : 1 ≤ m) : TiesOk ps (putT T p ((getT T p).getD 0 + m)) (b + m) := by
  refine ⟨putT_nod h.nod _ _, fun t ht => ?_, by rw [sum_put h.nod]; have := h.sum; omega, ?_⟩
  · rcases putT_mem ht with ht | rfl
    · exact h.mem t ht
    · refine ⟨h1, h2, h3, ?_⟩
      show 1 ≤ (getT T p).getD 0 + m
      cases q : getT T p with
      | none => simp; exact hm
      | some v =>
        have := (h.mem _ (getT_some q)).2.2.2
        simp at this ⊢
        omega
  · have := put_len T p ((getT T p).getD 0 + m)
    have := h.len
    omega
theorem TiesOk.drop {ps : List Str} {T : List Tie} {b : Int} {p : Pr} (h : TiesOk ps T b) : TiesOk ps (dropT T p) b :=
  ⟨List.Nodup.sublist (drop_sub.map _) h.nod, fun t ht => h.mem t (drop_sub.subset ht), Int.le_trans (sum_sub drop_sub fun t ht => by have := (h.mem t ht).2.2.2; omega) h.sum, by have := drop_sub (T := T) (p := p) |>.length_le; have := h.len; omega⟩
theorem TiesOk.le {ps : List Str} {T : List Tie} {b c : Int} (h : TiesOk ps T b) (hb : b ≤ c) : TiesOk ps T c := ⟨h.nod, h.mem, Int.le_trans h.sum hb, Int.le_trans h.len hb⟩
end Lw


namespace Lw
open PySem PySem.Spec L2 Pv
variable [HW]
theorem kind_tp (T : List Tie) (p : Pr) : kindOk (tp T) (kp p) = true := by
  unfold kindOk
  rw [ckey_kp]
  exact tp_tkey T
theorem kind_net (a b : PV) (x : Str) : kindOk [(.str "places", a), (.str "ties", b)] (.str x) = true := rfl
theorem keyOf_kp (p : Pr) : Pv.keyOf (kp p) = none := rfl
theorem keyOf_str (x : Str) : Pv.keyOf (.str x) = some (.inr x) := rfl
/-- a net as the law holds it -/
def netV (P : List PV) (tv : PV) : PV := .dct [(.str "places", .lst P), (.str "ties", tv)]
theorem seqk : ∀ a b : Str, keq (.str a) (.str b) = decide (a = b) := fun a b => by
  by_cases h : a = b <;> simp [-ckey, -kindOk, keq, ckey, h]
theorem netV_places (P : List PV) (tv : PV) : valP [(.str "places", .lst P), (.str "ties", tv)] (.str "places") = some (.lst P) := by
  simp [-ckey, -kindOk, valP, seqk]
theorem netV_ties (P : List PV) (tv : PV) : valP [(.str "places", .lst P), (.str "ties", tv)] (.str "ties") = some tv := by
  have : ¬ (("places" : Str) = "ties") := by decide
  simp [-ckey, -kindOk, valP, seqk, this]
theorem merge_net (P : List PV) (tv : PV) : mergeP [(.str "places", .lst P), (.str "ties", tv)] = [(.str "places", .lst P), (.str "ties", tv)] := by
  have : ¬ (("places" : Str) = "ties") := by decide
  simp [-ckey, -kindOk, mergeP, putP, valP, seqk, this]
theorem big_line : (1048576 : Nat) ≤ sizeLine := by rw [sizeLine_eq]; decide
theorem with_spec {S : Store} {P : List PV} {tv : PV} {T : List Tie} {p : Pr} {m : Int} (hv : look S tv = .dct (tp T)) (hn : NodT T) (hp : ∀ t ∈ T, 1 ≤ t.2) (hm : 1 ≤ m) (hl : T.length ≤ 1000) :
    D__law_with [netV P tv, kp p, .int m] S = .ok (netV P (.loc S.length)) (S ++ [.dct (tp (putT T p ((getT T p).getD 0 + m)))]) := by
  have hL := big_line
  have e1 : look (S ++ [.dct (tp T)]) (.loc S.length) = .dct (tp T) := look_at (by simp [-ckey, -kindOk])
  have e2 : ((valP (tp T) (kp p)).getD (.int 0)) = .int ((getT T p).getD 0) := by
    rw [valP_tp]; cases getT T p <;> rfl
  have hlt : ((tp T).length < sizeLine) = True := by rw [tp_len]; simp [-ckey, -kindOk]; omega
  have e3 : look (S ++ [.dct (tp (putT T p ((getT T p).getD 0 + m)))]) (.loc S.length) = .dct (tp (putT T p ((getT T p).getD 0 + m))) := look_at (by simp [-ckey, -kindOk])
  have pos : 1 ≤ (getT T p).getD 0 + m := by
    cases q : getT T p with
    | none => simp [-ckey, -kindOk]; exact hm
    | some v =>
      have := hp _ (getT_some q)
      simp [-ckey, -kindOk] at this ⊢
      omega
  have e4 : valP (tp (putT T p ((getT T p).getD 0 + m))) (kp p) = some (.int ((getT T p).getD 0 + m)) := by
    rw [valP_tp]
    have : getT (putT T p ((getT T p).getD 0 + m)) p = some ((getT T p).getD 0 + m) := by
      refine getT_of (putT_nod hn _ _) ?_
      unfold putT
      split
      · rename_i h
        obtain ⟨v, hv⟩ := Option.isSome_iff_exists.mp h
        exact List.mem_map.mpr ⟨(p, v), getT_some hv, by simp [-ckey, -kindOk]⟩
      · simp [-ckey, -kindOk]
    rw [this]; rfl
  have ne : ¬ ((getT T p).getD 0 + m = 0) := by omega
  have kk : (tkey (kp p)).isSome = true := rfl
  have ck := ckey_kp p
  unfold netV
  simp [-ckey, -kindOk, D__law_with, B__law_with, netV_ties, netV_places, hv, pairsP_items, tp_tkey, merge_tp hn, e1, e2, hlt, putP_tp, e3, e4, ne, merge_net, kk, kind_tp, kind_net, keyOf_str, keyOf_kp]
end Lw


namespace Lw
open PySem PySem.Spec L2 Pv
variable [HW]
/-! ### pairs of places -/
def ltS (a b : Str) : Bool := decide (a.cps.toList < b.cps.toList)
def ordP (a b : Str) : Pr := if ltS a b = true then (a, b) else (b, a)
theorem pair_spec {a b : Str} {S : Store} (hS : FlatS S) : D__law_pair [.str a, .str b] S = .ok (kp (ordP a b)) S := by
  refine gc_same (F := callD 2 2 B__law_pair) ?_ rfl rfl hS
  by_cases h : a.cps.toList < b.cps.toList <;> simp [B__law_pair, ordP, ltS, h, kp]
def overOf (ps : List Str) (a : Str) : List Pr := (ps.filter (ltS a)).map fun b => (a, b)
def pairsOf (ps qs : List Str) : List Pr := qs.flatMap (overOf ps)
theorem over_spec {ps : List Str} {a : Str} {r0 r1 : Option PV} {S : Store} (hz : ps.length ≤ 1000) : compD (bN 3) (dB (dBin pLt (dV 2) (dV 3))) (dTup (dCons (dV 2) (dCons (dV 3) dNil))) [r0, r1, some (.str a), none] (ps.map .str) 0 S = .ok ((overOf ps a).map kp) S := by
  have hL := big_line
  have := compD_map (b := bN 3) (test := dB (dBin pLt (dV 2) (dV 3))) (elt := dTup (dCons (dV 2) (dCons (dV 3) dNil))) (ρ := [r0, r1, some (.str a), none]) (S := S) (fun x => match x with | .str b => ltS a b | _ => false) (fun x => match x with | .str b => kp (a, b) | _ => .non) (ps.map .str) 0 (by simp; omega) (fun x hx => by
    obtain ⟨b, _, rfl⟩ := List.mem_map.mp hx
    exact ⟨_, rfl, by simp [ltS], by simp [kp]⟩)
  rw [this, List.filter_map, List.map_map]
  unfold overOf
  rw [List.map_map]
  rfl
theorem over_len (ps : List Str) (a : Str) : (overOf ps a).length ≤ ps.length := by
  unfold overOf
  rw [List.length_map]
  exact List.length_filter_le _ _
theorem pairs_len (ps : List Str) : ∀ qs : List Str, (pairsOf ps qs).length ≤ qs.length * ps.length
  | [] => by simp [pairsOf]
  | a :: l => by
    have := pairs_len ps l
    have := over_len ps a
    simp only [pairsOf, List.flatMap_cons, List.length_append, List.length_cons] at *
    rw [Nat.succ_mul]
    omega
theorem pairs_spec {ps : List Str} {S : Store} (hS : FlatS S) (hz : ps.length ≤ 30) : D__law_pairs [.lst (ps.map .str)] S = .ok (.lst ((pairsOf ps ps).map kp)) S := by
  have hL := big_line
  have hf : noLoc (.lst ((pairsOf ps ps).map kp)) = true := noLocL_iff.mpr fun x hx => by obtain ⟨p, _, rfl⟩ := List.mem_map.mp hx; rfl
  refine gc_same (F := callD 4 1 B__law_pairs) ?_ hf rfl hS
  obtain ⟨ρ', S', e, ⟨rfl, z, rfl⟩⟩ := forD_inv (b := bN 2) (body := sAsg (dBin pAdd (dV 1) (dLc (iAD (dV 0)) [3] (bN 3) (dB (dBin pLt (dV 2) (dV 3))) (dTup (dCons (dV 2) (dCons (dV 3) dNil))))) (bN 1))
    (fun i ρ S' => S' = S ∧ ∃ z, ρ = [some (.lst (ps.map .str)), some (.lst ((pairsOf ps (ps.take i)).map kp)), z, none]) (ps.map .str) 0 [some (.lst (ps.map .str)), some (.lst []), none, none] S ⟨rfl, none, rfl⟩ (by
      rintro j x ρ S1 hx ⟨rfl, z, rfl⟩
      rw [List.getElem?_map] at hx
      obtain ⟨a, ha, rfl⟩ := Option.map_eq_some_iff.mp hx
      have hj : j < ps.length := (List.getElem?_eq_some_iff.mp ha).1
      have ov := over_spec (ps := ps) (a := a) (r0 := some (.lst (ps.map .str))) (r1 := some (.lst ((pairsOf ps (ps.take j)).map kp))) (S := S1) (by omega)
      have l1 := pairs_len ps (ps.take j)
      have l2 := over_len ps a
      have l3 : (ps.take j).length ≤ 30 := by rw [List.length_take]; omega
      have l4 : (pairsOf ps (ps.take j)).length ≤ 900 := Nat.le_trans l1 (Nat.mul_le_mul l3 hz)
      have hlt : ((pairsOf ps (ps.take j)).length + (overOf ps a).length ≤ sizeLine) = True := by simp; omega
      refine ⟨_, rfl, _, S1, .inl (by simp [wipeR, ov, hlt]; rfl), rfl, some (.str a), ?_⟩
      have e : ps.take (j + 1) = ps.take j ++ [a] := by rw [List.take_succ, ha]; rfl
      rw [show 0 + j + 1 = j + 1 by omega, e]
      simp [pairsOf, List.flatMap_append])
  have hps : ps.take (0 + (ps.map PV.str).length) = ps := by simp
  rw [hps] at e
  simp [B__law_pairs, e]
end Lw


namespace Lw
open PySem PySem.Spec L2 Pv
variable [HW]
/-! ### a def's own cells behind the caller's -/
def Grow (n : Nat) (S0 S : Store) : Prop := ∃ S1 M, Roll n S0 S1 ∧ S = S1 ++ M ∧ FlatS M
theorem Grow.refl {n : Nat} {S : Store} (d : Ok S n) : Grow n S S := ⟨S, [], d.roll, by simp, fun c h => nomatch h⟩
theorem Grow.app {n : Nat} {S0 S : Store} {c : PV} (g : Grow n S0 S) (h : noLoc c = true) : Grow n S0 (S ++ [c]) := by
  obtain ⟨S1, M, r, rfl, f⟩ := g
  refine ⟨S1, M ++ [c], r, by rw [List.append_assoc], fun x hx => ?_⟩
  rcases List.mem_append.mp hx with hx | hx
  · exact f x hx
  · rw [List.mem_singleton.mp hx]; exact h
theorem Grow.roll {n : Nat} {S0 S S' : Store} (d : Ok S0 n) (g : Grow n S0 S) (r : Roll n S S') : Grow n S0 S' := by
  obtain ⟨S1, M, r1, rfl, f⟩ := g
  have hn := (r1.ok d).lt
  obtain ⟨a, b, c, rfl⟩ := r
  refine ⟨S1.set n (.lst [.int a, .int b, .int c]), M, r1.trans ⟨a, b, c, rfl⟩, by rw [List.set_append_left _ _ hn], f⟩
theorem Grow.len {n : Nat} {S0 S : Store} (g : Grow n S0 S) : S0.length ≤ S.length := by
  obtain ⟨S1, M, r, rfl, f⟩ := g
  have := r.len
  rw [List.length_append]; omega
theorem Grow.ok {n : Nat} {S0 S : Store} (d : Ok S0 n) (g : Grow n S0 S) : Ok S n := by
  obtain ⟨S1, M, r, rfl, f⟩ := g
  have o := r.ok d
  have hn := o.lt
  obtain ⟨⟨a, b, c, h⟩, fl⟩ := o
  refine ⟨⟨a, b, c, by rw [List.getElem?_append_left hn]; exact h⟩, fun x hx => ?_⟩
  rcases List.mem_append.mp hx with hx | hx
  · exact fl x hx
  · exact f x hx
theorem Grow.put {n : Nat} {S0 S : Store} (g : Grow n S0 S) {k : Nat} (hk : S0.length ≤ k) {c : PV} (hc : noLoc c = true) : Grow n S0 (S.set k c) := by
  obtain ⟨S1, M, r, rfl, f⟩ := g
  refine ⟨S1, M.set (k - S1.length) c, r, by rw [List.set_append_right _ _ (by rw [r.len]; exact hk)], fun x hx => ?_⟩
  rcases List.mem_or_eq_of_mem_set hx with h | rfl
  · exact f x h
  · exact hc
/-- at the end the own cells are made values -/
theorem gc_grow {F : FDen} {qs : List PV} {n : Nat} {S0 S : Store} {r r' : PV} (d : Ok S0 n) (h : F qs S0 = .ok r S) (g : Grow n S0 S) (hr : fz S0.length S 8 r = some r') : ∃ S1, gcF F qs S0 = .ok r' S1 ∧ Roll n S0 S1 := by
  obtain ⟨S1, M, r1, rfl, f⟩ := g
  refine ⟨S1, ?_, r1⟩
  have o := r1.ok d
  show gcO S0.length (F qs S0) = _
  rw [h]
  unfold gcO
  have e : (S1 ++ M).take S0.length = S1 := by rw [← r1.len, List.take_left]
  simp only [e, hr, fzS_flat o.2]
/-- the net that the law is making -/
structure NetAt (n : Nat) (S0 S : Store) (v : PV) (ps : List Str) (b : Int) : Prop where
  grow : Grow n S0 S
  net : ∃ (k : Nat) (T : List Tie), v = netV (ps.map .str) (.loc k) ∧ S0.length ≤ k ∧ S[k]? = some (.dct (tp T)) ∧ TiesOk ps T b
theorem NetAt.roll {n : Nat} {S0 S S' : Store} {v : PV} {ps : List Str} {b : Int} (d : Ok S0 n) (h : NetAt n S0 S v ps b) (r : Roll n S S') : NetAt n S0 S' v ps b := by
  obtain ⟨g, k, T, rfl, hk, hT, t⟩ := h
  refine ⟨g.roll d r, k, T, rfl, hk, ?_, t⟩
  have := d.lt
  rw [r.ne (by omega)]; exact hT
theorem NetAt.start {n : Nat} {S0 S : Store} {ps : List Str} (g : Grow n S0 S) : NetAt n S0 (S ++ [.dct []]) (netV (ps.map .str) (.loc S.length)) ps 0 :=
  ⟨g.app rfl, S.length, [], rfl, g.len, by simp [ent], .nil⟩
theorem NetAt.le {n : Nat} {S0 S : Store} {v : PV} {ps : List Str} {b c : Int} (h : NetAt n S0 S v ps b) (hb : b ≤ c) : NetAt n S0 S v ps c := by
  obtain ⟨g, k, T, e, hk, hT, t⟩ := h
  exact ⟨g, k, T, e, hk, hT, t.le hb⟩
theorem NetAt.with {n : Nat} {S0 S : Store} {v : PV} {ps : List Str} {b m : Int} {p : Pr} (h : NetAt n S0 S v ps b) (hb : b ≤ 100) (h1 : p.1 ∈ ps) (h2 : p.2 ∈ ps) (h3 : p.1.cps.toList < p.2.cps.toList) (hm : 1 ≤ m) :
    ∃ v' S', D__law_with [v, kp p, .int m] S = .ok v' S' ∧ NetAt n S0 S' v' ps (b + m) := by
  obtain ⟨g, k, T, rfl, hk, hT, t⟩ := h
  have e := with_spec (P := ps.map .str) (p := p) (m := m) (look_at hT) t.nod (fun x hx => (t.mem x hx).2.2.2) hm (by have := t.len; omega)
  exact ⟨_, _, e, g.app (tp_noLoc _), S.length, _, rfl, g.len, by simp, t.put h1 h2 h3 hm⟩
end Lw


namespace Lw
open PySem PySem.Spec L2 Pv
variable [HW]
def abc : List Str := ["a", "b", "c", "d", "e", "f", "h", "m", "z"]
theorem leS_lt {a b : Str} (h : leS a b = true) (n : a ≠ b) : ltS a b = true := by
  unfold leS at h
  unfold ltS
  refine decide_eq_true (List.not_le.mp fun z => n ?_)
  exact leS_antisymm h (decide_eq_true z)
theorem sortS_lt {xs : List Str} (nd : xs.Nodup) : (sortS xs).Pairwise fun a b => ltS a b = true := by
  have h1 : (sortS xs).Pairwise fun a b => leS a b = true := List.pairwise_mergeSort leS_trans leS_total xs
  have h2 : (sortS xs).Nodup := (List.mergeSort_perm xs leS).nodup_iff.mpr nd
  exact (h1.and h2).imp fun h => leS_lt h.1 h.2
theorem sortS_id {xs : List Str} (h : xs.Pairwise fun a b => ltS a b = true) : sortS xs = xs := by
  refine List.mergeSort_of_pairwise (h.imp fun {a b} h => ?_)
  unfold ltS at h
  unfold leS
  exact decide_eq_true (List.le_of_lt (of_decide_eq_true h))
structure PlOk (ps : List Str) : Prop where
  nod : ps.Nodup
  lo : 2 ≤ ps.length
  hi : ps.length ≤ 6
  mem : ∀ p ∈ ps, p ∈ abc
  srt : ps.Pairwise fun a b => ltS a b = true
theorem ord_lt {a b : Str} (h : a ≠ b) : (ordP a b).1.cps.toList < (ordP a b).2.cps.toList := by
  unfold ordP ltS
  split
  · rename_i q; exact of_decide_eq_true q
  · rename_i q
    have q' : ¬ a.cps.toList < b.cps.toList := fun z => q (decide_eq_true z)
    have h1 : b.cps.toList ≤ a.cps.toList := List.not_lt.mp q'
    refine List.not_le.mp fun h2 => h (leS_antisymm (decide_eq_true h2) (decide_eq_true h1))
theorem ord_mem {ps : List Str} {a b : Str} (ha : a ∈ ps) (hb : b ∈ ps) : (ordP a b).1 ∈ ps ∧ (ordP a b).2 ∈ ps := by
  unfold ordP
  split
  · exact ⟨ha, hb⟩
  · exact ⟨hb, ha⟩
theorem mem_pairs {ps : List Str} {p : Pr} (h : p ∈ pairsOf ps ps) : p.1 ∈ ps ∧ p.2 ∈ ps ∧ p.1.cps.toList < p.2.cps.toList := by
  obtain ⟨a, ha, h⟩ := List.mem_flatMap.mp h
  obtain ⟨b, hb, rfl⟩ := List.mem_map.mp h
  obtain ⟨h1, h2⟩ := List.mem_filter.mp hb
  exact ⟨ha, h1, of_decide_eq_true h2⟩
theorem pairs_ne {ps : List Str} (nd : ps.Nodup) (h : 2 ≤ ps.length) : pairsOf ps ps ≠ [] := by
  match ps, h, nd with
  | a :: b :: l, _, nd =>
    have hab : a ≠ b := by
      intro e
      subst e
      exact (List.nodup_cons.mp nd).1 List.mem_cons_self
    intro z
    have key : ∀ x y : Str, x ∈ a :: b :: l → y ∈ a :: b :: l → x.cps.toList < y.cps.toList → False := fun x y hx hy hlt => by
      have : (x, y) ∈ pairsOf (a :: b :: l) (a :: b :: l) := List.mem_flatMap.mpr ⟨x, hx, List.mem_map.mpr ⟨y, List.mem_filter.mpr ⟨hy, decide_eq_true hlt⟩, rfl⟩⟩
      rw [z] at this
      cases this
    have := ord_lt hab
    have m := ord_mem (ps := a :: b :: l) (a := a) (b := b) (by simp) (by simp)
    exact key _ _ m.1 m.2 this
/-- two neighbours of a ring -/
theorem ring_at {os : List Str} (nd : os.Nodup) (h2 : 2 ≤ os.length) {i : Nat} (hi : i < os.length) : ∃ a b, atI (os.map PV.str) ((i : Int) - 1) = some (.str a) ∧ atI (os.map PV.str) (i : Int) = some (.str b) ∧ a ∈ os ∧ b ∈ os ∧ a ≠ b := by
  have e2 : atI (os.map PV.str) (i : Int) = some (.str os[i]) := by
    unfold atI ixN
    rw [if_pos (by omega), if_pos (by rw [List.length_map]; omega)]
    simp [hi]
  by_cases h0 : i = 0
  · subst h0
    refine ⟨os[os.length - 1], os[0], ?_, e2, List.getElem_mem _, List.getElem_mem _, fun e => ?_⟩
    · unfold atI ixN
      rw [if_neg (by omega), if_pos (by rw [List.length_map]; omega)]
      have : (((0 : Nat) : Int) - 1 + ((os.map PV.str).length : Int)).toNat = os.length - 1 := by rw [List.length_map]; omega
      simp only [Option.bind_some, this]
      rw [List.getElem?_map, List.getElem?_eq_getElem (by omega)]
      rfl
    · have := (List.getElem?_inj (i := os.length - 1) (j := 0) (by omega) nd).mp (by rw [List.getElem?_eq_getElem (by omega), List.getElem?_eq_getElem (by omega), e])
      omega
  · refine ⟨os[i - 1], os[i], ?_, e2, List.getElem_mem _, List.getElem_mem _, fun e => ?_⟩
    · unfold atI ixN
      rw [if_pos (by omega), if_pos (by rw [List.length_map]; omega)]
      have : ((i : Int) - 1).toNat = i - 1 := by omega
      simp only [Option.bind_some, this]
      rw [List.getElem?_map, List.getElem?_eq_getElem (by omega)]
      rfl
    · have := (List.getElem?_inj (i := i - 1) (j := i) (by omega) nd).mp (by rw [List.getElem?_eq_getElem (by omega), List.getElem?_eq_getElem (by omega), e])
      omega
abbrev ringB : SDen := sAsg (dFn D__law_with [] (dCons (dV 4) (dCons (dFn D__law_pair [] (dCons (dBin pIxM (dV 5) (dBin pSub (dV 6) (dK (.int 1)))) (dCons (dBin pIxM (dV 5) (dV 6)) dNil))) (dCons (dK (.int 1)) dNil)))) (bN 4)
theorem ring_loop {n : Nat} {S0 S : Store} {v : PV} {ps os : List Str} {r0 r1 r2 r3 r6 r7 r8 : Option PV} (d : Ok S0 n) (h : NetAt n S0 S v ps 0) (nd : os.Nodup) (h2 : 2 ≤ os.length) (h6 : os.length ≤ 6) (sub : ∀ a ∈ os, a ∈ ps) :
    ∃ v' S' z, forD (bN 6) ringB (nums 0 os.length) [r0, r1, r2, r3, some v, some (.lst (os.map .str)), r6, r7, r8] S = .nx [r0, r1, r2, r3, some v', some (.lst (os.map .str)), z, r7, r8] S' ∧ NetAt n S0 S' v' ps 6 := by
  obtain ⟨ρ', S', e, v', z, rfl, hn⟩ := forD_inv (b := bN 6) (body := ringB) (fun i ρ S => ∃ v z, ρ = [r0, r1, r2, r3, some v, some (.lst (os.map .str)), z, r7, r8] ∧ NetAt n S0 S v ps i)
    (nums 0 os.length) 0 _ S ⟨v, r6, rfl, h⟩ (by
      rintro j x ρ S1 hx ⟨v, z, rfl, hn⟩
      obtain ⟨rfl, hj⟩ := nums_get hx
      obtain ⟨a, b, e1, e2, ha, hb, hab⟩ := ring_at nd h2 hj
      have fl := (hn.grow.ok d).2
      have mm := ord_mem (sub a ha) (sub b hb)
      obtain ⟨v', S', e3, hn'⟩ := hn.with (p := ordP a b) (m := 1) (by omega) mm.1 mm.2 (ord_lt hab) (Int.le_refl _)
      have ep := pair_spec (a := a) (b := b) fl
      refine ⟨_, rfl, [r0, r1, r2, r3, some v', some (.lst (os.map .str)), some (.int (0 + (j : Int))), r7, r8], S', .inl ?_, v', some (.int (0 + (j : Int))), rfl, hn'.le (by omega)⟩
      have z0 : (0 : Int) + (j : Int) = j := by omega
      rw [z0]
      simp [ringB, e1, e2, e3, ep])
  exact ⟨v', S', z, e, hn.le (by rw [nums_length]; omega)⟩
abbrev moreB : SDen := sAsg (dFn D__law_with [] (dCons (dV 4) (dCons (dFn D__law_pick [] (dCons (dV 0) (dCons (dV 7) dNil))) (dCons (dFn D__law_pick [] (dCons (dV 0) (dCons (dLst (dCons (dK (.int 1)) (dCons (dK (.int 1)) (dCons (dK (.int 1)) (dCons (dK (.int 2)) dNil))))) dNil))) dNil)))) (bN 4)
theorem more_loop {n m : Nat} {S0 S : Store} {v : PV} {ps : List Str} {r1 r2 r3 r5 r6 r8 : Option PV} (d : Ok S0 n) (h : NetAt n S0 S v ps 6) (pl : PlOk ps) (hm : m ≤ 8) :
    ∃ v' S' z, forD (bN 8) moreB (nums 0 m) [some (.loc n), r1, r2, r3, some v, r5, r6, some (.lst ((pairsOf ps ps).map kp)), r8] S = .nx [some (.loc n), r1, r2, r3, some v', r5, r6, some (.lst ((pairsOf ps ps).map kp)), z] S' ∧ NetAt n S0 S' v' ps 30 := by
  obtain ⟨ρ', S', e, v', z, rfl, hn⟩ := forD_inv (b := bN 8) (body := moreB) (fun i ρ S => ∃ v z, ρ = [some (.loc n), r1, r2, r3, some v, r5, r6, some (.lst ((pairsOf ps ps).map kp)), z] ∧ NetAt n S0 S v ps (6 + 2 * i))
    (nums 0 m) 0 _ S ⟨v, r8, rfl, h.le (by omega)⟩ (by
      rintro j x ρ S1 hx ⟨v, z, rfl, hn⟩
      obtain ⟨rfl, hj⟩ := nums_get hx
      have hl : (pairsOf ps ps).length ≤ 36 := Nat.le_trans (pairs_len ps ps) (Nat.mul_le_mul pl.hi pl.hi)
      obtain ⟨y, S2, e1, my, r1'⟩ := pick_lst (xs := (pairsOf ps ps).map kp) (hn.grow.ok d) (by simpa using pairs_ne pl.nod pl.lo) (by rw [List.length_map]; omega) (noLocL_iff.mpr fun x hx => by obtain ⟨p, _, rfl⟩ := List.mem_map.mp hx; rfl)
      obtain ⟨p, hp, rfl⟩ := List.mem_map.mp my
      have hn2 := hn.roll d r1'
      obtain ⟨y, S3, e2, my2, r2'⟩ := pick_lst (xs := [.int 1, .int 1, .int 1, .int 2]) (hn2.grow.ok d) (by simp) (by simp) rfl
      have hn3 := hn2.roll d r2'
      obtain ⟨k, rfl, hk⟩ : ∃ k : Int, y = .int k ∧ (1 ≤ k ∧ k ≤ 2) := by
        simp at my2
        rcases my2 with rfl | rfl <;> exact ⟨_, rfl, by decide⟩
      obtain ⟨q1, q2, q3⟩ := mem_pairs hp
      obtain ⟨v', S', e3, hn'⟩ := hn3.with (p := p) (m := k) (by omega) q1 q2 q3 hk.1
      refine ⟨_, rfl, [some (.loc n), r1, r2, r3, some v', r5, r6, some (.lst ((pairsOf ps ps).map kp)), some (.int (0 + (j : Int)))], S', .inl ?_, v', _, rfl, hn'.le (by push_cast; omega)⟩
      simp [moreB, e1, e2, e3])
  exact ⟨v', S', z, e, hn.le (by rw [nums_length]; push_cast; omega)⟩
end Lw


namespace Lw
open PySem PySem.Spec L2 Pv
variable [HW]
def full4 : List Tie := [(("a", "b"), 1), (("a", "c"), 1), (("a", "d"), 1), (("b", "c"), 1), (("b", "d"), 1), (("c", "d"), 1)]
def ring5 : List Tie := [(("a", "e"), 1), (("a", "b"), 1), (("b", "c"), 1), (("c", "d"), 1), (("d", "e"), 1)]
def hub4 : List Tie := [(("a", "z"), 2), (("b", "z"), 1), (("c", "z"), 1), (("a", "b"), 1), (("b", "c"), 1), (("a", "c"), 1)]
def star4 : List Tie := [(("a", "z"), 1), (("b", "z"), 1), (("c", "z"), 1), (("d", "z"), 1)]
def known : List (List Str × List Tie) := [(["a", "b", "c", "d"], full4), (["a", "b", "c", "d", "e"], ring5), (["a", "b", "c", "z"], hub4), (["a", "b"], [(("a", "b"), 4)]), (["a", "b", "c", "d", "z"], star4), (["a", "b", "c"], [(("a", "b"), 1), (("b", "c"), 1)]), (["a", "b", "c"], [])]
def knownV : List PV := known.map fun q => .tup [.lst (q.1.map .str), .dct (tp q.2)]
instance (ps : List Str) (T : List Tie) (b : Int) : Decidable (NodT T ∧ (∀ t ∈ T, t.1.1 ∈ ps ∧ t.1.2 ∈ ps ∧ t.1.1.cps.toList < t.1.2.cps.toList ∧ 1 ≤ t.2) ∧ sumT T ≤ b ∧ (T.length : Int) ≤ b) := by
  unfold NodT
  infer_instance
instance (ps : List Str) : Decidable (ps.Nodup ∧ 2 ≤ ps.length ∧ ps.length ≤ 6 ∧ (∀ p ∈ ps, p ∈ abc) ∧ ps.Pairwise fun a b => ltS a b = true) := inferInstance
theorem known_ok : ∀ q ∈ known, (q.1.Nodup ∧ 2 ≤ q.1.length ∧ q.1.length ≤ 6 ∧ (∀ p ∈ q.1, p ∈ abc) ∧ q.1.Pairwise fun a b => ltS a b = true) ∧ NodT q.2 ∧ (∀ t ∈ q.2, t.1.1 ∈ q.1 ∧ t.1.2 ∈ q.1 ∧ t.1.1.cps.toList < t.1.2.cps.toList ∧ 1 ≤ t.2) ∧ sumT q.2 ≤ 60 ∧ (q.2.length : Int) ≤ 60 := by
  decide +kernel
theorem pairs4 : pairsOf ["a", "b", "c", "d"] ["a", "b", "c", "d"] = ([("a", "b"), ("a", "c"), ("a", "d"), ("b", "c"), ("b", "d"), ("c", "d")] : List Pr) := by decide +kernel
theorem known_spec {S : Store} {n : Nat} (d : Ok S n) : ∃ ps T S', D__law_known_net [.loc n] S = .ok (netV (ps.map .str) (.dct (tp T))) S' ∧ Roll n S S' ∧ PlOk ps ∧ TiesOk ps T 60 := by
  obtain ⟨y, S', e1, my, r⟩ := pick_lst (xs := knownV) d (by simp [knownV, known]) (by simp [knownV, known]) (noLocL_iff.mpr fun x hx => by
    obtain ⟨q, _, rfl⟩ := List.mem_map.mp hx
    have h1 : noLocL (q.1.map PV.str) = true := noLocL_iff.mpr fun x hx => by obtain ⟨p, _, rfl⟩ := List.mem_map.mp hx; rfl
    simp [h1, tp_noLoc])
  obtain ⟨q, hq, rfl⟩ := List.mem_map.mp my
  obtain ⟨⟨h1, h2, h3, h4, h5⟩, k1, k2, k3, k4⟩ := known_ok q hq
  refine ⟨q.1, q.2, S', ?_, r, ⟨h1, h2, h3, h4, h5⟩, ⟨k1, k2, k3, k4⟩⟩
  have hf : noLoc (netV (q.1.map .str) (.dct (tp q.2))) = true := by
    have h1 : noLocL (q.1.map PV.str) = true := noLocL_iff.mpr fun x hx => by obtain ⟨p, _, rfl⟩ := List.mem_map.mp hx; rfl
    simp [netV, h1, tp_noLoc]
  refine gc_same (F := callD 12 1 B__law_known_net) ?_ hf r.len (r.ok d).2
  have fl := d.2
  have ep : D__law_pairs [.lst [.str "a", .str "b", .str "c", .str "d"]] S = .ok (.lst (([("a", "b"), ("a", "c"), ("a", "d"), ("b", "c"), ("b", "d"), ("c", "d")] : List Pr).map kp)) S := by
    have := pairs_spec (ps := ["a", "b", "c", "d"]) fl (by decide)
    rw [pairs4] at this
    exact this
  have g1 : ∀ a b x y : Str, ordP a b = (x, y) → D__law_pair [.str a, .str b] S = .ok (kp (x, y)) S := fun a b x y h => by rw [pair_spec fl, h]
  have g2 := g1 "e" "a" "a" "e" (by decide +kernel)
  have g3 := g1 "a" "b" "a" "b" (by decide +kernel)
  have g4 := g1 "b" "c" "b" "c" (by decide +kernel)
  have g5 := g1 "c" "d" "c" "d" (by decide +kernel)
  have g6 := g1 "d" "e" "d" "e" (by decide +kernel)
  have hL := big_line
  have sz : ∀ k : Nat, k ≤ 1000 → (k ≤ sizeLine) = True := fun k h => by simp; omega
  have sz' : ∀ k : Nat, k ≤ 1000 → (k < sizeLine) = True := fun k h => by simp; omega
  have m1 := merge_tp (T := full4) (by unfold NodT; decide +kernel)
  have m2 := merge_tp (T := ring5) (by unfold NodT; decide +kernel)
  have m3 := merge_tp (T := hub4) (by unfold NodT; decide +kernel)
  have m4 := merge_tp (T := star4) (by unfold NodT; decide +kernel)
  have m5 := merge_tp (T := [(("a", "b"), 4)]) (by unfold NodT; decide +kernel)
  have m6 := merge_tp (T := [(("a", "b"), 1), (("b", "c"), 1)]) (by unfold NodT; decide +kernel)
  have m7 := merge_tp k1
  have c4 : ∀ a b c d e : PV, cutP [a, b, c, d, e] none (some 4) = [a, b, c, d] := fun _ _ _ _ _ => rfl
  have c3 : ∀ a b c d e : PV, cutP [a, b, c, d, e] none (some 3) = [a, b, c] := fun _ _ _ _ _ => rfl
  simp only [tp, ent, full4, ring5, hub4, star4, List.map_cons, List.map_nil, kp] at m1 m2 m3 m4 m5 m6
  have tk := tp_tkey q.2
  have kt : ∀ xs : List PV, tkey (.tup xs) = keysOf xs := fun _ => rfl
  have ko : ∀ xs : List PV, Pv.keyOf (.tup xs) = none := fun _ => rfl
  generalize tp q.2 = TV at e1 m7 tk ⊢
  simp only [knownV, known, tp, ent, full4, ring5, hub4, star4, List.map_cons, List.map_nil, kp] at e1
  simp only [List.map_cons, List.map_nil, kp] at ep g2 g3 g4 g5 g6
  simp [B__law_known_net, nums, List.range_succ, atI, ixN, compD, ep, g2, g3, g4, g5, g6, c4, c3, m1, m2, m3, m4, m5, m6, sz, sz', kt, ko, keyOf_str, keysOf, e1, pairsP_items, tk, m7, merge_net, netV]
end Lw


namespace Lw
open PySem PySem.Spec L2 Pv
variable [HW]
/-! ### what can be sorted -/
theorem alike_kp (p q : Pr) : PySem.W.alike (enc (kp p)) (enc (kp q)) = true := rfl
theorem alike_str (a b : Str) : PySem.W.alike (enc (.str a)) (enc (.str b)) = true := rfl
theorem sortOk_kp (L : List Pr) : sortOk (L.map kp) = true := by
  unfold sortOk
  simp only [Bool.and_eq_true, Bool.or_eq_true, List.all_eq_true, List.mem_map, forall_exists_index, and_imp, forall_apply_eq_imp_iff₂]
  exact ⟨⟨fun p _ => ⟨rfl, rfl⟩, fun p _ q _ => alike_kp p q⟩, .inl fun p _ => rfl⟩
theorem sortOk_str (L : List Str) : sortOk (L.map .str) = true := by
  unfold sortOk
  simp only [Bool.and_eq_true, Bool.or_eq_true, List.all_eq_true, List.mem_map, forall_exists_index, and_imp, forall_apply_eq_imp_iff₂]
  exact ⟨⟨fun p _ => ⟨rfl, rfl⟩, fun p _ q _ => alike_str p q⟩, .inr fun p _ => rfl⟩
theorem sortP_perm (L : List PV) : (sortP L).Perm L := List.mergeSort_perm _ _
theorem sortP_mem {L : List PV} {x : PV} : x ∈ sortP L ↔ x ∈ L := (sortP_perm L).mem_iff
theorem map_of_all {α : Type} {f : α → PV} {P : α → Prop} : ∀ {L : List PV}, (∀ x ∈ L, ∃ a, x = f a ∧ P a) → ∃ as : List α, L = as.map f ∧ ∀ a ∈ as, P a
  | [], _ => ⟨[], rfl, fun a h => nomatch h⟩
  | x :: L, h => by
    obtain ⟨as, rfl, h2⟩ := map_of_all (L := L) fun y hy => h y (List.mem_cons_of_mem _ hy)
    obtain ⟨a, rfl, ha⟩ := h x List.mem_cons_self
    refine ⟨a :: as, rfl, fun b hb => ?_⟩
    rcases List.mem_cons.mp hb with rfl | hb
    · exact ha
    · exact h2 b hb
theorem nodup_of_map {α β : Type} {f : α → β} : ∀ {xs : List α}, (xs.map f).Nodup → xs.Nodup
  | [], _ => List.nodup_nil
  | x :: xs, h => by
    obtain ⟨h1, h2⟩ := List.nodup_cons.mp h
    exact List.nodup_cons.mpr ⟨fun z => h1 (List.mem_map.mpr ⟨x, z, rfl⟩), nodup_of_map h2⟩
theorem abc_nodup : (abc.map PV.str).Nodup := by
  have : abc.Nodup := by decide +kernel
  exact List.Pairwise.map PV.str (fun _ _ h e => h (PV.str.inj e)) this
theorem abc_lst : (abc.map PV.str) = [.str "a", .str "b", .str "c", .str "d", .str "e", .str "f", .str "h", .str "m", .str "z"] := rfl
/-- some of different texts are different texts -/
theorem some_strs {xs : List Str} (nd : (xs.map PV.str).Nodup) {ys rest : List PV} (h : List.Perm (xs.map PV.str) (ys ++ rest)) : ∃ os : List Str, ys = os.map .str ∧ os.Nodup ∧ ∀ a ∈ os, a ∈ xs := by
  obtain ⟨os, rfl, hm⟩ := map_of_all (f := PV.str) (P := fun a => a ∈ xs) (L := ys) fun x hx => by
    obtain ⟨a, ha, rfl⟩ := List.mem_map.mp (h.symm.subset (List.mem_append_left _ hx))
    exact ⟨a, rfl, ha⟩
  exact ⟨os, rfl, nodup_of_map (List.nodup_append.mp (h.nodup_iff.mp nd)).1, hm⟩
theorem strs_noLoc (L : List Str) : noLocL (L.map .str) = true := noLocL_iff.mpr fun x hx => by obtain ⟨p, _, rfl⟩ := List.mem_map.mp hx; rfl
theorem kps_noLoc (L : List Pr) : noLocL (L.map kp) = true := noLocL_iff.mpr fun x hx => by obtain ⟨p, _, rfl⟩ := List.mem_map.mp hx; rfl
theorem tp_keys (T : List Tie) : (tp T).map (·.1) = (T.map (·.1)).map kp := by simp [ent]
theorem scan_big : (1000 : Nat) < scanBound := by decide
/-- what is left when the last part of the law's net is made -/
theorem pop_spec {n : Nat} {S0 S : Store} {v : PV} {ps : List Str} (d : Ok S0 n) (h : NetAt n S0 S v ps 30) : ∃ k T S', v = netV (ps.map .str) (.loc k) ∧ S[k]? = some (.dct (tp T)) ∧ T.length ≤ 30 ∧ S0.length ≤ k ∧ TiesOk ps T 30 ∧
    (T ≠ [] → ∃ p S1, D__law_pick [.loc n, .lst (sortP ((tp T).map (·.1)))] S = .ok (kp p) S1 ∧ Roll n S S1 ∧ valP (tp T) (kp p) ≠ none ∧ S' = S1 ∧ S1[k]? = some (.dct (tp T)) ∧ ∀ S2, S2 = S1.set k (.dct (tp (dropT T p))) → NetAt n S0 S2 v ps 30) := by
  obtain ⟨g, k, T, rfl, hk, hT, t⟩ := h
  have hl : T.length ≤ 30 := by have := t.len; omega
  by_cases hT0 : T = []
  · exact ⟨k, T, S, rfl, hT, hl, hk, t, fun z => absurd hT0 z⟩
  · have o := g.ok d
    obtain ⟨x, S1, e1, mx, r⟩ := pick_lst (xs := sortP ((tp T).map (·.1))) o (fun z => hT0 (by
      have := (sortP_perm ((tp T).map (·.1))).length_eq
      rw [z] at this
      simp [ent] at this
      exact List.length_eq_zero_iff.mp this.symm)) (by
      rw [(sortP_perm _).length_eq, List.length_map, tp_len]; omega) (noLocL_iff.mpr fun x hx => by
      rw [sortP_mem, tp_keys] at hx
      obtain ⟨p, _, rfl⟩ := List.mem_map.mp hx
      rfl)
    rw [sortP_mem, tp_keys] at mx
    obtain ⟨p, hp, rfl⟩ := List.mem_map.mp mx
    have hk1 : S1[k]? = some (.dct (tp T)) := by
      have := d.lt
      rw [r.ne (by omega)]; exact hT
    refine ⟨k, T, S1, rfl, hT, hl, hk, t, fun _ => ⟨p, S1, e1, r, ?_, rfl, hk1, ?_⟩⟩
    · rw [valP_tp]
      intro z
      have : getT T p = none := by
        cases q : getT T p with
        | none => rfl
        | some v => rw [q] at z; cases z
      exact getT_none this hp
    · rintro S2 rfl
      have hkl : k < S1.length := (List.getElem?_eq_some_iff.mp hk1).1
      exact ⟨(g.roll d r).put hk (tp_noLoc _), k, dropT T p, rfl, hk, by rw [List.getElem?_set_self hkl], t.drop⟩
end Lw


namespace Lw
open PySem PySem.Spec L2 Pv
variable [HW]
theorem fz_net {n0 k : Nat} {S : Store} {ps : List Str} {T : List Tie} (hk : n0 ≤ k) (hT : S[k]? = some (.dct (tp T))) : fz n0 S 8 (netV (ps.map .str) (.loc k)) = some (netV (ps.map .str) (.dct (tp T))) := by
  have e1 : fz n0 S 7 (.dct (tp T)) = some (.dct (tp T)) := fz_no (tp_noLoc T)
  have e2 : fzL (fun m => if m < n0 then some (PV.loc m) else (S[m]?).bind fun c => if isCo c = true then fz n0 S 7 c else none) (ps.map .str) = some (ps.map .str) := fzL_no (strs_noLoc ps)
  have hn : ¬ k < n0 := by omega
  unfold netV
  show fzP (fun m => if m < n0 then some (PV.loc m) else (S[m]?).bind fun c => if isCo c = true then fz n0 S 7 c else none) _ = _
  simp only [fzP, fzK, e2, hT, hn, if_false, Option.bind_some]
  have : isCo (PV.dct (tp T)) = true := rfl
  simp only [this, if_true, e1]
  rfl
theorem net_end {F : FDen} {qs : List PV} {n : Nat} {S0 S : Store} {v : PV} {ps : List Str} (d : Ok S0 n) (h : F qs S0 = .ok v S) (a : NetAt n S0 S v ps 30) : ∃ T S1, gcF F qs S0 = .ok (netV (ps.map .str) (.dct (tp T))) S1 ∧ Roll n S0 S1 ∧ TiesOk ps T 60 := by
  obtain ⟨g, k, T, rfl, hk, hT, t⟩ := a
  obtain ⟨S1, e, r⟩ := gc_grow d h g (fz_net hk hT)
  exact ⟨T, S1, e, r, t.le (by decide)⟩
theorem net_spec {S : Store} {n : Nat} (d : Ok S n) : ∃ ps T S', D__law_net [.loc n] S = .ok (netV (ps.map .str) (.dct (tp T))) S' ∧ Roll n S S' ∧ PlOk ps ∧ TiesOk ps T 60 := by
  have b1000 : (8 : Int) < 2 ^ 1000 := by decide +kernel
  have b4 : (4 : Int) < 2 ^ 1000 := by decide +kernel
  obtain ⟨way, S1, e1, w0, w1, r1⟩ := roll_spec (t := 8) d (by decide) b1000
  by_cases hw : way = 0
  · subst hw
    obtain ⟨ps, T, S', e2, r2, p, t⟩ := known_spec (r1.ok d)
    have r := r1.trans r2
    have hf : noLoc (netV (ps.map .str) (.dct (tp T))) = true := by simp [-cLenE, -ckey, -kindOk, netV, strs_noLoc, tp_noLoc]
    exact ⟨ps, T, S', gc_same (F := callD 9 1 B__law_net) (by simp [-cLenE, -ckey, -kindOk, B__law_net, e1, e2]) hf r.len (r.ok d).2, r, p, t⟩
  · obtain ⟨y, S2, e2, my, r2⟩ := pick_lst (xs := [.int 3, .int 4, .int 4, .int 5, .int 5, .int 6]) (r1.ok d) (by simp [-cLenE, -ckey, -kindOk]) (by simp [-cLenE, -ckey, -kindOk]) rfl
    obtain ⟨z, rfl, hz⟩ : ∃ z : Int, y = .int z ∧ (3 ≤ z ∧ z ≤ 6) := by
      simp [-cLenE, -ckey, -kindOk] at my
      rcases my with rfl | rfl | rfl | rfl <;> exact ⟨_, rfl, by decide⟩
    have r12 := r1.trans r2
    obtain ⟨ys, S3, rest, e3, pm, hlen, r3⟩ := some_spec (v := .lst (abc.map .str)) (xs := abc.map .str) (z := z) (r12.ok d) (.inl rfl) (by decide) (by omega) (strs_noLoc _)
    have r13 := r12.trans r3
    obtain ⟨os, rfl, nd, sub⟩ := some_strs abc_nodup pm
    have ho : os.length = z.toNat := by
      rw [List.length_map] at hlen
      have : ((abc.map PV.str).length : Int) = 9 := rfl
      omega
    have d3 := r13.ok d
    have pl : PlOk (sortS os) := by
      have pp : (sortS os).Perm os := List.mergeSort_perm _ _
      exact ⟨pp.nodup_iff.mpr nd, by rw [pp.length_eq]; omega, by rw [pp.length_eq]; omega, fun p hp => sub p (pp.mem_iff.mp hp), sortS_lt nd⟩
    have hps : (sortS os).length = z.toNat := by
      have pp : (sortS os).Perm os := List.mergeSort_perm _ _
      rw [pp.length_eq]; exact ho
    generalize hp : sortS os = ps at pl hps
    have so := sortOk_str os
    have sc : (os.length < scanBound) = True := by have := scan_big; simp [-cLenE, -ckey, -kindOk]; omega
    have sp : sortP (os.map .str) = ps.map .str := by rw [sortP_str, hp]
    have n0 : NetAt n S (S3 ++ [.dct []]) (netV (ps.map .str) (.loc S3.length)) ps 0 := NetAt.start ((Grow.refl d).roll d r13)
    rw [abc_lst] at e3
    have mg := merge_net (ps.map .str) (.loc S3.length)
    -- the ring, or none
    have ring : ∃ v' S4 a5 a6, (if way > 1 then (∃ (S35 : Store) (qs : List Str), D__law_some [.loc n, .lst (ps.map .str), .int z] (S3 ++ [.dct []]) = .ok (.lst (qs.map .str)) S35 ∧
        forD (bN 6) ringB (nums 0 z.toNat) [some (.loc n), some (.int way), some (.int z), some (.lst (ps.map .str)), some (netV (ps.map .str) (.loc S3.length)), some (.lst (qs.map .str)), none, none, none] S35 = .nx [some (.loc n), some (.int way), some (.int z), some (.lst (ps.map .str)), some v', a5, a6, none, none] S4)
        else (v' = netV (ps.map .str) (.loc S3.length) ∧ S4 = S3 ++ [.dct []] ∧ a5 = none ∧ a6 = none)) ∧ NetAt n S S4 v' ps 6 := by
      by_cases h1 : way > 1
      · obtain ⟨ys, S5, rest, e5, pm5, hlen5, r5⟩ := some_spec (v := .lst (ps.map .str)) (xs := ps.map .str) (z := z) (n0.grow.ok d) (.inl rfl) (by rw [List.length_map]; omega) (by omega) (strs_noLoc _)
        obtain ⟨qs, rfl, ndq, subq⟩ := some_strs (List.Pairwise.map PV.str (fun _ _ h e => h (PV.str.inj e)) pl.nod) pm5
        have hq : qs.length = z.toNat := by
          rw [List.length_map, List.length_map] at hlen5
          omega
        obtain ⟨v', S', zz, e6, hn'⟩ := ring_loop (r0 := some (.loc n)) (r1 := some (.int way)) (r2 := some (.int z)) (r3 := some (.lst (ps.map .str))) (r6 := none) (r7 := none) (r8 := none) d (n0.roll d r5) ndq (by omega) (by omega) subq
        rw [hq] at e6
        exact ⟨v', S', some (.lst (qs.map .str)), zz, by rw [if_pos h1]; exact ⟨S5, qs, e5, e6⟩, hn'⟩
      · exact ⟨_, _, none, none, by rw [if_neg h1]; exact ⟨rfl, rfl, rfl, rfl⟩, n0.le (by decide)⟩
    obtain ⟨v4, S4, a5, a6, ringE, n4⟩ := ring
    have ep := pairs_spec (ps := ps) (n4.grow.ok d).2 (by have := pl.hi; omega)
    obtain ⟨y, S6, e6, my6, r6⟩ := pick_lst (xs := [.int 0, .int 1, .int 2, .int 3, .int 4, .int 6, .int 8]) (n4.grow.ok d) (by simp [-cLenE, -ckey, -kindOk]) (by simp [-cLenE, -ckey, -kindOk]) rfl
    obtain ⟨m, rfl, hm⟩ : ∃ m : Nat, y = .int (m : Int) ∧ m ≤ 8 := by
      simp [-cLenE, -ckey, -kindOk] at my6
      rcases my6 with rfl | rfl | rfl | rfl | rfl | rfl | rfl
      · exact ⟨0, rfl, by decide⟩
      · exact ⟨1, rfl, by decide⟩
      · exact ⟨2, rfl, by decide⟩
      · exact ⟨3, rfl, by decide⟩
      · exact ⟨4, rfl, by decide⟩
      · exact ⟨6, rfl, by decide⟩
      · exact ⟨8, rfl, by decide⟩
    obtain ⟨v7, S7, z7, e7, n7⟩ := more_loop (r1 := some (.int way)) (r2 := some (.int z)) (r3 := some (.lst (ps.map .str))) (r5 := a5) (r6 := a6) (r8 := none) d (n4.roll d r6) pl hm
    obtain ⟨way4, S8, e8, _, _, r8⟩ := roll_spec (t := 4) (n7.grow.ok d) (by decide) b4
    have n8 := n7.roll d r8
    obtain ⟨k, T, S9, rfl, hT, hTl, hk, t, pop⟩ := pop_spec d n8
    have hm2 : -4611686018427387904 ≤ (m : Int) ∧ (m : Int) < 4611686018427387904 := by omega
    have hz2 : -4611686018427387904 ≤ (z : Int) ∧ (z : Int) < 4611686018427387904 := by omega
    have lk := look_at hT
    have nt := netV_ties (ps.map .str) (.loc k)
    have scT : ((tp T).length < scanBound) = True := by have := scan_big; rw [tp_len]; simp [-cLenE, -ckey, -kindOk]; omega
    have srt : sortOk ((tp T).map (·.1)) = true := by rw [tp_keys]; exact sortOk_kp _
    have fin : ∃ S', callD 9 1 B__law_net [.loc n] S = .ok (netV (ps.map .str) (.loc k)) S' ∧ NetAt n S S' (netV (ps.map .str) (.loc k)) ps 30 := by
      have ko := kind_net (.lst (ps.map .str)) (.loc k) "ties"
      have split : (∃ (S35 : Store) (qs : List Str), 1 < way ∧ D__law_some [.loc n, .lst (ps.map .str), .int z] (S3 ++ [.dct []]) = .ok (.lst (qs.map .str)) S35 ∧
        forD (bN 6) ringB (nums 0 z.toNat) [some (.loc n), some (.int way), some (.int z), some (.lst (ps.map .str)), some (netV (ps.map .str) (.loc S3.length)), some (.lst (qs.map .str)), none, none, none] S35 = .nx [some (.loc n), some (.int way), some (.int z), some (.lst (ps.map .str)), some v4, a5, a6, none, none] S4)
        ∨ (¬ 1 < way ∧ v4 = netV (ps.map .str) (.loc S3.length) ∧ S4 = S3 ++ [.dct []] ∧ a5 = none ∧ a6 = none) := by
        by_cases h1 : way > 1
        · rw [if_pos h1] at ringE
          obtain ⟨S35, qs, h⟩ := ringE
          exact .inl ⟨S35, qs, h1, h⟩
        · rw [if_neg h1] at ringE
          exact .inr ⟨h1, ringE⟩
      by_cases hc : way4 = 0 ∧ T ≠ []
      · obtain ⟨p, S10, e10, r10, hv, rfl, hT10, n10⟩ := pop hc.2
        refine ⟨S9.set k (.dct (tp (dropT T p))), ?_, n10 _ rfl⟩
        have lk10 := look_at hT10
        obtain ⟨u, hu⟩ := Option.ne_none_iff_exists'.mp hv
        have kt := kind_tp T p
        have h4 := hc.1
        have tl : 0 < T.length := List.length_pos_iff.mpr hc.2
        rw [tp_len] at scT
        rcases split with ⟨S35, qs, h1', e5, eR⟩ | ⟨h1', rfl, rfl, rfl, rfl⟩
        · simp only [ringB, pSub] at eR
          unfold netV at *
          simp [-cLenE, -ckey, -kindOk, B__law_net, e1, hw, e2, e3, itemsOf, so, sc, sp, mg, keyOf_str, h1', hz2, e6, ep, hm2, e7, e8, e5, eR, h4, nt, ko, lk, tp_len, tl, srt, scT, e10, lk10, hT10, hu, dropP_tp, kt]
        · unfold netV at *
          simp [-cLenE, -ckey, -kindOk, B__law_net, e1, hw, e2, e3, itemsOf, so, sc, sp, mg, keyOf_str, h1', hz2, e6, ep, hm2, e7, e8, h4, nt, ko, lk, tp_len, tl, srt, scT, e10, lk10, hT10, hu, dropP_tp, kt]
      · refine ⟨S8, ?_, n8⟩
        by_cases h4 : way4 = 0
        · have hT0 : T = [] := Classical.byContradiction fun z => hc ⟨h4, z⟩
          rcases split with ⟨S35, qs, h1', e5, eR⟩ | ⟨h1', rfl, rfl, rfl, rfl⟩
          · simp only [ringB, pSub] at eR
            unfold netV at *
            simp [-cLenE, -ckey, -kindOk, B__law_net, e1, hw, e2, e3, itemsOf, so, sc, sp, mg, keyOf_str, h1', hz2, e6, ep, hm2, e7, e8, e5, eR, h4, nt, ko, lk, hT0, ent]
          · unfold netV at *
            simp [-cLenE, -ckey, -kindOk, B__law_net, e1, hw, e2, e3, itemsOf, so, sc, sp, mg, keyOf_str, h1', hz2, e6, ep, hm2, e7, e8, h4, nt, ko, lk, hT0, ent]
        · rcases split with ⟨S35, qs, h1', e5, eR⟩ | ⟨h1', rfl, rfl, rfl, rfl⟩
          · simp only [ringB, pSub] at eR
            unfold netV at *
            simp [-cLenE, -ckey, -kindOk, B__law_net, e1, hw, e2, e3, itemsOf, so, sc, sp, mg, keyOf_str, h1', hz2, e6, ep, hm2, e7, e8, e5, eR, h4]
          · unfold netV at *
            simp [-cLenE, -ckey, -kindOk, B__law_net, e1, hw, e2, e3, itemsOf, so, sc, sp, mg, keyOf_str, h1', hz2, e6, ep, hm2, e7, e8, h4]
    obtain ⟨S', e, a⟩ := fin
    obtain ⟨T', S1', e', r', t'⟩ := net_end d e a
    exact ⟨ps, T', S1', e', r', pl, t'⟩
end Lw


namespace Lw
open PySem PySem.Spec L2 Pv
variable [HW]
/-! ### words, numbers, pairs -/
def small : Str := "abcdefghijklmnopqrstuvwxyz"
/-- a word, told plainly -/
def wordB : PV → Bool
  | .str z => decide (1 ≤ z.length) && decide (z.length ≤ 8) && z.cps.toList.all fun c => decide (c ∈ small.cps.toList)
  | _ => false
/-- what the law draws: a text that is not too long, or a thing of another kind -/
def Drawn : PV → Prop
  | .str z => z.length ≤ 1000
  | .non => True
  | .int _ => True
  | .bl _ => True
  | .tup _ => True
  | .lst _ => True
  | .dct _ => True
  | _ => False
theorem k_ss : kitB "str" "str" = some true := by decide +kernel
theorem k_ns : kitB "NoneType" "str" = some false := by decide +kernel
theorem k_is : kitB "int" "str" = some false := by decide +kernel
theorem k_bs : kitB "bool" "str" = some false := by decide +kernel
theorem k_ts : kitB "tuple" "str" = some false := by decide +kernel
theorem k_ls : kitB "list" "str" = some false := by decide +kernel
theorem k_ds : kitB "dict" "str" = some false := by decide +kernel
theorem k_st : kitB "str" "tuple" = some false := by decide +kernel
theorem k_nt : kitB "NoneType" "tuple" = some false := by decide +kernel
theorem k_it : kitB "int" "tuple" = some false := by decide +kernel
theorem k_bt : kitB "bool" "tuple" = some false := by decide +kernel
theorem k_tt : kitB "tuple" "tuple" = some true := by decide +kernel
theorem k_lt : kitB "list" "tuple" = some false := by decide +kernel
theorem k_dt : kitB "dict" "tuple" = some false := by decide +kernel
theorem k_si : kitB "str" "int" = some false := by decide +kernel
theorem k_ni : kitB "NoneType" "int" = some false := by decide +kernel
theorem k_ii : kitB "int" "int" = some true := by decide +kernel
theorem k_bi : kitB "bool" "int" = some true := by decide +kernel
theorem k_ti : kitB "tuple" "int" = some false := by decide +kernel
theorem k_li : kitB "list" "int" = some false := by decide +kernel
theorem k_di : kitB "dict" "int" = some false := by decide +kernel
theorem k_ib : kitB "int" "bool" = some false := by decide +kernel
theorem k_bb : kitB "bool" "bool" = some true := by decide +kernel
theorem k_sd : kitB "str" "dict" = some false := by decide +kernel
theorem k_nd : kitB "NoneType" "dict" = some false := by decide +kernel
theorem k_id : kitB "int" "dict" = some false := by decide +kernel
theorem k_bd : kitB "bool" "dict" = some false := by decide +kernel
theorem k_td : kitB "tuple" "dict" = some false := by decide +kernel
theorem k_ld : kitB "list" "dict" = some false := by decide +kernel
theorem k_dd : kitB "dict" "dict" = some true := by decide +kernel
theorem len_le {n : Nat} (h : n ≤ 1000) : (n ≤ sizeLine) = True := by
  have := big_line
  simp [-cLenE, -ckey, -kindOk]; omega
theorem str_len (z : Str) : z.length = z.cps.toList.length := by simp [-cLenE, -ckey, -kindOk]; rfl
/-- a loop over a text's signs -/
theorem signs_map {cs : List Nat} (hz : cs.length ≤ 1000) (S : Store) (q : Nat → Bool) (f : Nat → PV) {b : Bd} {ρ : PEnv} {test : DenT} {elt : Den} (h : ∀ c : Nat, ∃ ρ1, b (.str ⟨#[c]⟩) ρ = some ρ1 ∧ test ρ1 S = .ok (q c) S ∧ (q c = true → elt ρ1 S = .ok (f c) S)) :
    compD b test elt ρ (cs.map fun c => .str ⟨#[c]⟩) 0 S = .ok ((cs.filter q).map f) S := by
  have hL := big_line
  have := compD_map (b := b) (test := test) (elt := elt) (ρ := ρ) (S := S) (fun x => match x with | .str s => q (s.cps.getD 0 0) | _ => true) (fun x => match x with | .str s => f (s.cps.getD 0 0) | _ => .non) (cs.map fun c => PV.str ⟨#[c]⟩) 0 (by simp [-cLenE, -ckey, -kindOk]; omega) (fun x hx => by
    obtain ⟨c, _, rfl⟩ := List.mem_map.mp hx
    obtain ⟨ρ1, h1, h2, h3⟩ := h c
    exact ⟨ρ1, h1, h2, h3⟩)
  rw [this, List.filter_map, List.map_map]
  rfl
theorem bls_of {α : Type} (p : α → Bool) : ∀ xs : List α, bls (xs.map fun x => .bl (p x)) = some (xs.map p)
  | [] => rfl
  | x :: xs => by simp [-cLenE, -ckey, -kindOk, bls, bls_of p xs]
theorem is_word_spec {v : PV} {S : Store} (hS : FlatS S) (h : Drawn v) : D_is_word [v] S = .ok (.bl (wordB v)) S := by
  refine gc_same (F := callD 2 1 B_is_word) ?_ rfl rfl hS
  cases v with
  | str z =>
    have hz : z.length ≤ 1000 := h
    have hz2 : z.cps.toList.length ≤ 1000 := by rw [← str_len]; exact hz
    have e := signs_map hz2 S (fun _ => true) (fun c => .bl (decide (c ∈ small.cps.toList))) (b := bN 1) (ρ := [some (.str z), none]) (test := dYes) (elt := dBin pInD (dV 1) (dK (.str "abcdefghijklmnopqrstuvwxyz"))) fun c => ⟨_, rfl, rfl, fun _ => by simp [-cLenE, -ckey, -kindOk, small, dIn]⟩
    simp [-cLenE, -ckey, -kindOk] at e
    by_cases h1 : 1 ≤ z.length
    · have i1 : (1 : Int) ≤ (z.length : Int) := by omega
      by_cases h8 : z.length ≤ 8
      · have i8 : (z.length : Int) ≤ 8 := by omega
        simp [-cLenE, -ckey, -kindOk, B_is_word, k_ss, len_le hz, wordB, h1, h8, i1, i8, e, bls_of]
      · have i8 : ¬ (z.length : Int) ≤ 8 := by omega
        simp [-cLenE, -ckey, -kindOk, B_is_word, k_ss, len_le hz, wordB, h1, h8, i1, i8]
    · have i1 : ¬ (1 : Int) ≤ (z.length : Int) := by omega
      simp [-cLenE, -ckey, -kindOk, B_is_word, k_ss, len_le hz, wordB, h1, i1]
  | non => simp [-cLenE, -ckey, -kindOk, B_is_word, k_ns, wordB]
  | int _ => simp [-cLenE, -ckey, -kindOk, B_is_word, k_is, wordB]
  | bl _ => simp [-cLenE, -ckey, -kindOk, B_is_word, k_bs, wordB]
  | tup _ => simp [-cLenE, -ckey, -kindOk, B_is_word, k_ts, wordB]
  | lst _ => simp [-cLenE, -ckey, -kindOk, B_is_word, k_ls, wordB]
  | dct _ => simp [-cLenE, -ckey, -kindOk, B_is_word, k_ds, wordB]
  | _ => exact h.elim
end Lw


namespace Lw
open PySem PySem.Spec L2 Pv
variable [HW]
def intB : PV → Bool
  | .int i => decide (-(10 ^ 60) < i) && decide (i < 10 ^ 60)
  | _ => false
/-- a number of ties -/
def numB : PV → Bool
  | .int i => decide (1 ≤ i) && decide (i ≤ 60)
  | _ => false
def pairB : PV → Bool
  | .tup [a, b] => wordB a && wordB b && (match a, b with
    | .str a, .str b => ltS a b
    | _, _ => false)
  | _ => false
theorem is_integer_spec {v : PV} {S : Store} (hS : FlatS S) (h : Drawn v) : D_is_integer [v] S = .ok (.bl (intB v)) S := by
  refine gc_same (F := callD 1 1 B_is_integer) ?_ rfl rfl hS
  cases v with
  | int i =>
    by_cases h1 : -(10 ^ 60) < i
    · by_cases h2 : i < 10 ^ 60
      · simp [-cLenE, -ckey, -kindOk] at h1 h2
        simp [-cLenE, -ckey, -kindOk, B_is_integer, k_ii, k_ib, intB, h1, h2]
      · simp [-cLenE, -ckey, -kindOk] at h1 h2
        simp [-cLenE, -ckey, -kindOk, B_is_integer, k_ii, k_ib, intB, h1, h2]
    · simp [-cLenE, -ckey, -kindOk] at h1
      have h1' : ¬ (-1000000000000000000000000000000000000000000000000000000000000 < i) := by omega
      simp [-cLenE, -ckey, -kindOk, B_is_integer, k_ii, k_ib, intB, h1']
  | str _ => simp [-cLenE, -ckey, -kindOk, B_is_integer, k_si, intB]
  | non => simp [-cLenE, -ckey, -kindOk, B_is_integer, k_ni, intB]
  | tup _ => simp [-cLenE, -ckey, -kindOk, B_is_integer, k_ti, intB]
  | bl _ => simp [-cLenE, -ckey, -kindOk, B_is_integer, k_bi, k_bb, intB]
  | lst _ => simp [-cLenE, -ckey, -kindOk, B_is_integer, k_li, intB]
  | dct _ => simp [-cLenE, -ckey, -kindOk, B_is_integer, k_di, intB]
  | _ => exact h.elim
theorem is_within_spec {v : PV} {S : Store} (hS : FlatS S) (h : Drawn v) : D_is_within [v, .int 1, .int 60] S = .ok (.bl (numB v)) S := by
  refine gc_same (F := callD 3 3 B_is_within) ?_ rfl rfl hS
  have e := is_integer_spec hS h
  cases v with
  | int i =>
    by_cases h1 : 1 ≤ i
    · by_cases h2 : i ≤ 60
      · have q : intB (.int i) = true := by simp [-cLenE, -ckey, -kindOk, intB]; omega
        simp [-cLenE, -ckey, -kindOk, B_is_within, e, q, numB, h1, h2]
      · cases q : intB (.int i) <;> simp [-cLenE, -ckey, -kindOk, B_is_within, e, q, numB, h1, h2]
    · cases q : intB (.int i) <;> simp [-cLenE, -ckey, -kindOk, B_is_within, e, q, numB, h1]
  | _ => first | exact h.elim | simp [-cLenE, -ckey, -kindOk, B_is_within, e, intB, numB]
/-- a drawn thing, and what is in it -/
def DrawnP (v : PV) : Prop := Drawn v ∧ ∀ xs, v = .tup xs → ∀ x ∈ xs, Drawn x
theorem wordB_str {a : PV} (h : wordB a = true) : ∃ z, a = .str z := by
  cases a <;> first | exact ⟨_, rfl⟩ | cases h
theorem is_pair_spec {v : PV} {S : Store} (hS : FlatS S) (h : DrawnP v) : D_is_pair [v] S = .ok (.bl (pairB v)) S := by
  refine gc_same (F := callD 1 1 B_is_pair) ?_ rfl rfl hS
  cases v with
  | tup xs =>
    match xs, h.2 _ rfl with
    | [], _ => simp [-cLenE, -ckey, -kindOk, B_is_pair, k_tt, pairB]
    | [a], _ => simp [-cLenE, -ckey, -kindOk, B_is_pair, k_tt, pairB]
    | [a, b], hx =>
      have ha := is_word_spec hS (hx a (by simp [-cLenE, -ckey, -kindOk]))
      have hb := is_word_spec hS (hx b (by simp [-cLenE, -ckey, -kindOk]))
      have i0 : atI [a, b] 0 = some a := rfl
      have i1 : atI [a, b] 1 = some b := rfl
      cases wa : wordB a with
      | false => simp [-cLenE, -ckey, -kindOk, B_is_pair, k_tt, pairB, i0, i1, ha, hb, wa]
      | true =>
        cases wb : wordB b with
        | false => simp [-cLenE, -ckey, -kindOk, B_is_pair, k_tt, pairB, i0, i1, ha, hb, wa, wb]
        | true =>
          obtain ⟨y, rfl⟩ := wordB_str wa
          obtain ⟨z, rfl⟩ := wordB_str wb
          simp [-cLenE, -ckey, -kindOk, B_is_pair, k_tt, pairB, i0, i1, ha, hb, wa, wb, ltS]
    | a :: b :: c :: d, _ =>
      have hn : ¬ ((d.length : Int) + 1 + 1 + 1 = 2) := by omega
      simp [-cLenE, -ckey, -kindOk, B_is_pair, k_tt, pairB, hn]
  | str _ => simp [-cLenE, -ckey, -kindOk, B_is_pair, k_st, pairB]
  | non => simp [-cLenE, -ckey, -kindOk, B_is_pair, k_nt, pairB]
  | int _ => simp [-cLenE, -ckey, -kindOk, B_is_pair, k_it, pairB]
  | bl _ => simp [-cLenE, -ckey, -kindOk, B_is_pair, k_bt, pairB]
  | lst _ => simp [-cLenE, -ckey, -kindOk, B_is_pair, k_lt, pairB]
  | dct _ => simp [-cLenE, -ckey, -kindOk, B_is_pair, k_dt, pairB]
  | _ => exact h.1.elim
/-- [.. those that are not so ..] == [] -/
theorem eq_none_of {α : Type} (p : α → Bool) (f : α → PV) (xs : List α) : pvEq 60 (.lst ((xs.filter fun x => !p x).map f)) (.lst []) = some (xs.all p) := by
  cases h : xs.all p with
  | true =>
    have : xs.filter (fun x => !p x) = [] := List.filter_eq_nil_iff.mpr fun x hx => by
      have := List.all_eq_true.mp h x hx
      simp [-cLenE, -ckey, -kindOk, this]
    rw [this]
    rfl
  | false =>
    cases q : xs.filter (fun x => !p x) with
    | nil =>
      have : xs.all p = true := List.all_eq_true.mpr fun x hx => by
        have := List.filter_eq_nil_iff.mp q x hx
        simpa [-cLenE, -ckey, -kindOk] using this
      rw [h] at this
      cases this
    | cons a l => rfl
end Lw


namespace Lw
open PySem PySem.Spec L2 Pv
variable [HW]
/-! ### places -/
def uniqB (xs : List PV) : Bool := match txts xs with
  | some ws => decide ((distinct ws).length = ws.length)
  | none => false
def placesB : PV → Bool
  | .tup xs => decide (1 ≤ xs.length) && decide (xs.length ≤ 9) && xs.all wordB && uniqB xs
  | _ => false
theorem txts_str : ∀ ws : List Str, txts (ws.map .str) = some ws
  | [] => rfl
  | w :: ws => by simp [-cLenE, -ckey, -kindOk, txts, txts_str ws]
theorem words_of {xs : List PV} (h : xs.all wordB = true) : ∃ ws : List Str, xs = ws.map .str ∧ ∀ w ∈ ws, wordB (.str w) = true := by
  refine map_of_all fun x hx => ?_
  obtain ⟨z, rfl⟩ := wordB_str (List.all_eq_true.mp h x hx)
  exact ⟨z, rfl, List.all_eq_true.mp h _ hx⟩
theorem map_D {f : FDen} {g : PV → Bool} {xs : List PV} {S : Store} {ρ : PEnv} {i : Nat} {b : Bd} (hz : xs.length ≤ 1000) (hb : ∀ x, ∃ ρ1, b x ρ = some ρ1 ∧ ρ1[i]? = some (some x)) (h : ∀ x ∈ xs, f [x] S = .ok (.bl (g x)) S) :
    compD b dYes (dFn f [] (dCons (dV i) dNil)) ρ xs 0 S = .ok (xs.map fun x => .bl (g x)) S := by
  have hL := big_line
  have := compD_map (b := b) (test := dYes) (elt := dFn f [] (dCons (dV i) dNil)) (ρ := ρ) (S := S) (fun _ => true) (fun x => .bl (g x)) xs 0 (by omega) (fun x hx => by
    obtain ⟨ρ1, h1, h2⟩ := hb x
    exact ⟨ρ1, h1, rfl, fun _ => by simp [-cLenE, -ckey, -kindOk, h2, h x hx]⟩)
  rw [this, List.filter_eq_self.mpr (fun _ _ => rfl)]
theorem are_places_spec {v : PV} {S : Store} (hS : FlatS S) (h : DrawnP v) (hz : ∀ xs, v = .tup xs → xs.length ≤ 1000) : D_are_places [v] S = .ok (.bl (placesB v)) S := by
  refine gc_same (F := callD 2 1 B_are_places) ?_ rfl rfl hS
  cases v with
  | tup xs =>
    have hl := hz xs rfl
    have e := map_D (f := D_is_word) (g := wordB) (xs := xs) (S := S) (ρ := [some (.tup xs), none]) (i := 1) (b := bN 1) hl (fun x => ⟨_, rfl, rfl⟩) fun x hx => is_word_spec hS (h.2 xs rfl x hx)
    by_cases h1 : 1 ≤ xs.length
    · have i1 : (1 : Int) ≤ (xs.length : Int) := by omega
      by_cases h9 : xs.length ≤ 9
      · have i9 : (xs.length : Int) ≤ 9 := by omega
        cases q : xs.all wordB with
        | false => simp [-cLenE, -ckey, -kindOk, B_are_places, k_tt, placesB, h1, i1, h9, i9, e, bls_of, q]
        | true =>
          obtain ⟨ws, rfl, hw⟩ := words_of q
          have hl' : ws.length ≤ 9 := by simpa [-cLenE, -ckey, -kindOk] using h9
          have sc : (ws.length + 1 < scanBound) = True := by have := scan_big; simp [-cLenE, -ckey, -kindOk]; omega
          have u : uniqB (ws.map .str) = decide ((distinct ws).length = ws.length) := by simp [-cLenE, -ckey, -kindOk, uniqB, txts_str]
          simp [-cLenE, -ckey, -kindOk] at h1 i1
          obtain ⟨L, hL⟩ : ∃ L, L = (ws.map PV.str).map fun x => PV.bl (wordB x) := ⟨_, rfl⟩
          obtain ⟨B, hB⟩ : ∃ B, B = (ws.map PV.str).map wordB := ⟨_, rfl⟩
          rw [← hL] at e
          have hb : bls L = some B := by rw [hL, hB]; exact bls_of _ _
          have ha : B.all _root_.id = true := by rw [hB, List.all_map]; exact q
          have hl'' : ¬ (9 < (ws.length : Int)) := by omega
          have qw : ws.all (fun w => wordB (.str w)) = true := List.all_eq_true.mpr hw
          have ie : ((distinct ws).length : Int) = ws.length ↔ (distinct ws).length = ws.length := by omega
          simp only [List.all_eq_true, id_eq] at ha
          have hf : false ∉ B := fun z => by have := ha _ z; cases this
          simp [-cLenE, -ckey, -kindOk, B_are_places, k_tt, placesB, h1, i1, hl', hl'', e, hb, hf, txts_str, sc, u, ie]
          have qw2 : ws.all (wordB ∘ PV.str) = true := qw
          rw [qw2, Bool.true_and, Bool.eq_iff_iff]
          simp only [beq_iff_eq, decide_eq_true_eq]
          exact ie
      · have i9 : ¬ (xs.length : Int) ≤ 9 := by omega
        simp [-cLenE, -ckey, -kindOk, B_are_places, k_tt, placesB, h1, i1, h9, i9]
    · have i1 : ¬ (1 : Int) ≤ (xs.length : Int) := by omega
      simp [-cLenE, -ckey, -kindOk, B_are_places, k_tt, placesB, h1, i1]
  | str _ => simp [-cLenE, -ckey, -kindOk, B_are_places, k_st, placesB]
  | non => simp [-cLenE, -ckey, -kindOk, B_are_places, k_nt, placesB]
  | int _ => simp [-cLenE, -ckey, -kindOk, B_are_places, k_it, placesB]
  | bl _ => simp [-cLenE, -ckey, -kindOk, B_are_places, k_bt, placesB]
  | lst _ => simp [-cLenE, -ckey, -kindOk, B_are_places, k_lt, placesB]
  | dct _ => simp [-cLenE, -ckey, -kindOk, B_are_places, k_dt, placesB]
  | _ => exact h.1.elim
/-- what a dict of ties may hold as a key -/
def KeyV (k : PV) : Prop := (∃ p : Pr, k = kp p ∧ p.1.length ≤ 1000 ∧ p.2.length ≤ 1000) ∨ (∃ a : Str, k = .tup [.str a] ∧ a.length ≤ 1000) ∨ (∃ a : Str, k = .str a ∧ a.length ≤ 1000) ∨ ∃ i : Int, k = .int i
theorem KeyV.drawn {k : PV} (h : KeyV k) : DrawnP k := by
  rcases h with ⟨p, rfl, h1, h2⟩ | ⟨a, rfl, h1⟩ | ⟨a, rfl, h1⟩ | ⟨i, rfl⟩
  · refine ⟨trivial, fun xs e x hx => ?_⟩
    cases e
    rcases List.mem_cons.mp hx with rfl | hx
    · exact h1
    · rcases List.mem_cons.mp hx with rfl | hx
      · exact h2
      · cases hx
  · refine ⟨trivial, fun xs e x hx => ?_⟩
    cases e
    rcases List.mem_cons.mp hx with rfl | hx
    · exact h1
    · cases hx
  · exact ⟨h1, fun xs e => by cases e⟩
  · exact ⟨trivial, fun xs e => by cases e⟩
/-- both places of a pair are among ws -/
def bothB (ws : List Str) : PV → Bool
  | .tup [.str a, .str b] => decide (a ∈ ws) && decide (b ∈ ws)
  | _ => false
def valsSum (kvs : List (PV × PV)) : Int := (kvs.map fun p => match p.2 with | .int i => i | _ => 0).sum
def tiesB (ws : List Str) (kvs : List (PV × PV)) : Bool := kvs.all (fun p => pairB p.1) && kvs.all (fun p => bothB ws p.1) && kvs.all (fun p => numB p.2) && decide (valsSum kvs ≤ 60)
/-- a dict of ties, as the law bends it -/
structure TV (t : PV) (kvs : List (PV × PV)) : Prop where
  shape : (t = .dct kvs ∧ (kvs.all fun p => (tkey p.1).isSome) = true) ∨ (t = .dct kvs ∧ ∀ e ∈ kvs, tkey e.1 = none) ∨ (t = .dcm kvs ∧ ∃ e ∈ kvs, tkey e.1 = none)
  keys : ∀ p ∈ kvs, KeyV p.1
  vals : ∀ p ∈ kvs, Drawn p.2
  pw : kvs.Pairwise fun a b => keq a.1 b.1 = false
  len : kvs.length ≤ 900
end Lw


namespace Lw
open PySem PySem.Spec L2 Pv
variable [HW]
/-! ### ties -/
theorem any_eq (ws : List Str) (a : Str) : ((ws.map PV.str).any fun z => eqP z (.str a)) = decide (a ∈ ws) := by
  induction ws with
  | nil => rfl
  | cons w ws ih =>
    rw [List.map_cons, List.any_cons, ih]
    have : eqP (.str w) (.str a) = decide (a = w) := by
      show (w == a) = _
      by_cases h : a = w
      · subst h; simp [-cLenE, -ckey, -kindOk]
      · have h' : ¬ w = a := fun z => h z.symm
        simp [-cLenE, -ckey, -kindOk, h, h']
    rw [this]
    simp [-cLenE, -ckey, -kindOk]
theorem flat_strs (ws : List Str) : (ws.map PV.str).all flatP = true := List.all_eq_true.mpr fun x hx => by obtain ⟨w, _, rfl⟩ := List.mem_map.mp hx; rfl
theorem in_places {S : Store} (ws : List Str) (a : Str) : pInD S (.str a) (.tup (ws.map .str)) = some (.bl (decide (a ∈ ws))) := by
  have h1 : flatP (.str a) = true := rfl
  have h2 := flat_strs ws
  show (dInD S (.str a) (.tup (ws.map .str))).map PV.bl = _
  unfold dInD
  show (if flatP (.str a) = true ∧ (ws.map PV.str).all flatP = true then some ((ws.map PV.str).any fun z => eqP z (.str a)) else none).map PV.bl = _
  rw [if_pos ⟨h1, h2⟩, any_eq]
  rfl
theorem notIn_places {S : Store} (ws : List Str) (a : Str) : pNotInD S (.str a) (.tup (ws.map .str)) = some (.bl (!decide (a ∈ ws))) := by
  have h1 : flatP (.str a) = true := rfl
  have h2 := flat_strs ws
  show (dInD S (.str a) (.tup (ws.map .str))).map (fun b => PV.bl (!b)) = _
  unfold dInD
  show (if flatP (.str a) = true ∧ (ws.map PV.str).all flatP = true then some ((ws.map PV.str).any fun z => eqP z (.str a)) else none).map (fun b => PV.bl (!b)) = _
  rw [if_pos ⟨h1, h2⟩, any_eq]
  rfl
theorem pairB_kp {k : PV} (h : pairB k = true) : ∃ p : Pr, k = kp p ∧ wordB (.str p.1) = true ∧ wordB (.str p.2) = true ∧ ltS p.1 p.2 = true := by
  unfold pairB at h
  split at h
  · rename_i a b
    simp only [Bool.and_eq_true] at h
    obtain ⟨⟨h1, h2⟩, h3⟩ := h
    obtain ⟨y, rfl⟩ := wordB_str h1
    obtain ⟨z, rfl⟩ := wordB_str h2
    exact ⟨(y, z), rfl, h1, h2, h3⟩
  · cases h
theorem numB_int {v : PV} (h : numB v = true) : ∃ i : Int, v = .int i ∧ 1 ≤ i ∧ i ≤ 60 := by
  unfold numB at h
  split at h
  · rename_i i
    simp only [Bool.and_eq_true, decide_eq_true_eq] at h
    exact ⟨i, rfl, h⟩
  · cases h
/-- good rows are plain ties -/
theorem rows_tp {kvs : List (PV × PV)} (h1 : (kvs.all fun p => pairB p.1) = true) (h2 : (kvs.all fun p => numB p.2) = true) : ∃ T : List Tie, kvs = tp T := by
  induction kvs with
  | nil => exact ⟨[], rfl⟩
  | cons e l ih =>
    rw [List.all_cons, Bool.and_eq_true] at h1 h2
    obtain ⟨T, rfl⟩ := ih h1.2 h2.2
    obtain ⟨p, hp, _⟩ := pairB_kp h1.1
    obtain ⟨i, hi, _⟩ := numB_int h2.1
    exact ⟨(p, i) :: T, by obtain ⟨k, v⟩ := e; cases hp; cases hi; rfl⟩
theorem ints_of {kvs : List (PV × PV)} (h2 : (kvs.all fun p => numB p.2) = true) : ∃ ns : List Int, intsP (kvs.map (·.2)) = some ns ∧ ns.sum = valsSum kvs := by
  induction kvs with
  | nil => exact ⟨[], rfl, rfl⟩
  | cons e l ih =>
    rw [List.all_cons, Bool.and_eq_true] at h2
    obtain ⟨ns, e1, e2⟩ := ih h2.2
    obtain ⟨i, hi, _⟩ := numB_int h2.1
    refine ⟨i :: ns, ?_, ?_⟩
    · rw [List.map_cons, hi]
      simp [-cLenE, -ckey, -kindOk, intsP, e1]
    · rw [List.sum_cons, e2]
      unfold valsSum
      rw [List.map_cons, List.sum_cons, hi]
theorem are_ties_spec {ws : List Str} {t : PV} {kvs : List (PV × PV)} {S : Store} (hS : FlatS S) (h : TV t kvs) : D_are_ties [.tup (ws.map .str), t] S = .ok (.bl (tiesB ws kvs)) S := by
  refine gc_same (F := callD 4 2 B_are_ties) ?_ rfl rfl hS
  have hL := big_line
  have e1 := map_D (f := D_is_pair) (g := pairB) (xs := kvs.map (·.1)) (S := S) (ρ := [some (.tup (ws.map .str)), some t, none, none]) (i := 2) (b := bN 2) (by rw [List.length_map]; exact Nat.le_trans h.len (by decide)) (fun x => ⟨_, rfl, rfl⟩) fun x hx => by
    obtain ⟨p, hp, rfl⟩ := List.mem_map.mp hx
    exact is_pair_spec hS (h.keys p hp).drawn
  obtain ⟨L1, hL1⟩ : ∃ L, L = (kvs.map (·.1)).map fun x => PV.bl (pairB x) := ⟨_, rfl⟩
  obtain ⟨B1, hB1⟩ : ∃ B, B = (kvs.map (·.1)).map pairB := ⟨_, rfl⟩
  rw [← hL1] at e1
  have b1 : bls L1 = some B1 := by rw [hL1, hB1]; exact bls_of _ _
  have a1 : B1.all _root_.id = kvs.all fun p => pairB p.1 := by rw [hB1, List.all_map, List.all_map]; rfl
  cases q1 : kvs.all fun p => pairB p.1 with
  | false =>
    rw [q1] at a1
    have f1 : false ∈ B1 := by
      have := List.all_eq_false.mp a1
      obtain ⟨x, hx, h⟩ := this
      cases x with
      | true => exact absurd rfl h
      | false => exact hx
    have r : tiesB ws kvs = false := by simp only [tiesB, q1, Bool.false_and]
    rw [r]
    rcases h.shape with ⟨rfl, _⟩ | ⟨rfl, _⟩ | ⟨rfl, _⟩ <;> simp [-cLenE, -ckey, -kindOk, B_are_ties, k_dd, e1, b1, f1]
  | true =>
    rw [q1] at a1
    have f1 : false ∉ B1 := fun z => by have := List.all_eq_true.mp a1 _ z; cases this
    have no : ∀ e ∈ kvs, ¬ tkey e.1 = none := fun e he z => by
      obtain ⟨p, hp, _⟩ := pairB_kp (List.all_eq_true.mp q1 e he)
      rw [hp] at z
      cases z
    have ht : t = .dct kvs := by
      rcases h.shape with ⟨h, _⟩ | ⟨h, _⟩ | ⟨_, e, he, z⟩
      · exact h
      · exact h
      · exact absurd z (no e he)
    subst ht
    have e2 : compD (bN 2) dYes (dAnd (dBin pInD (dBin pIxM (dV 2) (dK (.int 0))) (dV 0)) (dBin pInD (dBin pIxM (dV 2) (dK (.int 1))) (dV 0))) [some (.tup (ws.map .str)), some (.dct kvs), none, none] (kvs.map (·.1)) 0 S = .ok ((kvs.map (·.1)).map fun x => .bl (bothB ws x)) S := by
      have := compD_map (b := bN 2) (test := dYes) (elt := dAnd (dBin pInD (dBin pIxM (dV 2) (dK (.int 0))) (dV 0)) (dBin pInD (dBin pIxM (dV 2) (dK (.int 1))) (dV 0))) (ρ := [some (.tup (ws.map .str)), some (.dct kvs), none, none]) (S := S) (fun _ => true) (fun x => .bl (bothB ws x)) (kvs.map (·.1)) 0 (by rw [List.length_map]; have := h.len; omega) (fun x hx => by
        obtain ⟨e, he, rfl⟩ := List.mem_map.mp hx
        obtain ⟨p, hp, _⟩ := pairB_kp (List.all_eq_true.mp q1 e he)
        refine ⟨_, rfl, rfl, fun _ => ?_⟩
        rw [hp]
        have i0 : atI [PV.str p.1, PV.str p.2] 0 = some (.str p.1) := rfl
        have i1 : atI [PV.str p.1, PV.str p.2] 1 = some (.str p.2) := rfl
        have g1 := in_places (S := S) ws p.1
        have g2 := in_places (S := S) ws p.2
        by_cases m1 : p.1 ∈ ws <;> by_cases m2 : p.2 ∈ ws <;> simp [-cLenE, -ckey, -kindOk, kp, i0, i1, g1, g2, bothB, m1, m2, -pInD])
      rw [this, List.filter_eq_self.mpr (fun _ _ => rfl)]
    obtain ⟨L2, hL2⟩ : ∃ L, L = (kvs.map (·.1)).map fun x => PV.bl (bothB ws x) := ⟨_, rfl⟩
    obtain ⟨B2, hB2⟩ : ∃ B, B = (kvs.map (·.1)).map (bothB ws) := ⟨_, rfl⟩
    rw [← hL2] at e2
    have b2 : bls L2 = some B2 := by rw [hL2, hB2]; exact bls_of _ _
    have a2 : B2.all _root_.id = kvs.all fun p => bothB ws p.1 := by rw [hB2, List.all_map, List.all_map]; rfl
    have e3 : compD (bN 3) dYes (dFn D_is_within [] (dCons (dV 3) (dCons (dK (.int 1)) (dCons (dK (.int 60)) dNil)))) [some (.tup (ws.map .str)), some (.dct kvs), none, none] (kvs.map (·.2)) 0 S = .ok ((kvs.map (·.2)).map fun x => .bl (numB x)) S := by
      have := compD_map (b := bN 3) (test := dYes) (elt := dFn D_is_within [] (dCons (dV 3) (dCons (dK (.int 1)) (dCons (dK (.int 60)) dNil)))) (ρ := [some (.tup (ws.map .str)), some (.dct kvs), none, none]) (S := S) (fun _ => true) (fun x => .bl (numB x)) (kvs.map (·.2)) 0 (by rw [List.length_map]; have := h.len; omega) (fun x hx => by
        obtain ⟨e, he, rfl⟩ := List.mem_map.mp hx
        exact ⟨_, rfl, rfl, fun _ => by simp [-cLenE, -ckey, -kindOk, is_within_spec hS (h.vals e he)]⟩)
      rw [this, List.filter_eq_self.mpr (fun _ _ => rfl)]
    obtain ⟨L3, hL3⟩ : ∃ L, L = (kvs.map (·.2)).map fun x => PV.bl (numB x) := ⟨_, rfl⟩
    obtain ⟨B3, hB3⟩ : ∃ B, B = (kvs.map (·.2)).map numB := ⟨_, rfl⟩
    rw [← hL3] at e3
    have b3 : bls L3 = some B3 := by rw [hL3, hB3]; exact bls_of _ _
    have a3 : B3.all _root_.id = kvs.all fun p => numB p.2 := by rw [hB3, List.all_map, List.all_map]; rfl
    cases q2 : kvs.all fun p => bothB ws p.1 with
    | false =>
      rw [q2] at a2
      have f2 : false ∈ B2 := by
        obtain ⟨x, hx, h⟩ := List.all_eq_false.mp a2
        cases x with
        | true => exact absurd rfl h
        | false => exact hx
      have r : tiesB ws kvs = false := by simp only [tiesB, q1, q2, Bool.false_and, Bool.true_and]
      rw [r]
      simp [-cLenE, -ckey, -kindOk, B_are_ties, k_dd, e1, b1, f1, e2, b2, f2]
    | true =>
      rw [q2] at a2
      have f2 : false ∉ B2 := fun z => by have := List.all_eq_true.mp a2 _ z; cases this
      cases q3 : kvs.all fun p => numB p.2 with
      | false =>
        rw [q3] at a3
        have f3 : false ∈ B3 := by
          obtain ⟨x, hx, h⟩ := List.all_eq_false.mp a3
          cases x with
          | true => exact absurd rfl h
          | false => exact hx
        have r : tiesB ws kvs = false := by simp only [tiesB, q1, q2, q3, Bool.false_and, Bool.true_and]
        rw [r]
        simp [-cLenE, -ckey, -kindOk, B_are_ties, k_dd, e1, b1, f1, e2, b2, f2, e3, b3, a3]
      | true =>
        rw [q3] at a3
        have f3 : false ∉ B3 := fun z => by have := List.all_eq_true.mp a3 _ z; cases this
        obtain ⟨ns, i1, i2⟩ := ints_of q3
        have r : tiesB ws kvs = decide (ns.sum ≤ 60) := by simp only [tiesB, q1, q2, q3, Bool.true_and, i2]
        rw [r]
        simp [-cLenE, -ckey, -kindOk, B_are_ties, k_dd, e1, b1, f1, e2, b2, f2, e3, b3, a3, i1]
end Lw


namespace Lw
open PySem PySem.Spec L2 Pv
variable [HW]
/-- a loop that ends the def at the first bad item -/
theorem forD_all {b : Bd} {body : SDen} {S : Store} {v : PV} (P : PEnv → Prop) (g : PV → Bool) : ∀ (xs : List PV) (ρ : PEnv), P ρ →
    (∀ x ∈ xs, ∀ ρ, P ρ → ∃ ρ1, b x ρ = some ρ1 ∧ if g x = true then ∃ ρ2, body ρ1 S = .nx ρ2 S ∧ P ρ2 else body ρ1 S = .rt v S) →
    if xs.all g = true then ∃ ρ', forD b body xs ρ S = .nx ρ' S ∧ P ρ' else forD b body xs ρ S = .rt v S
  | [], ρ, hp, _ => ⟨ρ, rfl, hp⟩
  | x :: xs, ρ, hp, h => by
    obtain ⟨ρ1, e1, e2⟩ := h x List.mem_cons_self ρ hp
    cases q : g x with
    | false =>
      rw [q, if_neg (by simp [-cLenE, -ckey, -kindOk])] at e2
      rw [List.all_cons, q, Bool.false_and, if_neg (by simp [-cLenE, -ckey, -kindOk])]
      simp only [forD, e1, e2]
    | true =>
      rw [q, if_pos rfl] at e2
      obtain ⟨ρ2, e2, hp2⟩ := e2
      have ih := forD_all P g xs ρ2 hp2 fun y hy => h y (List.mem_cons_of_mem _ hy)
      have e : forD b body (x :: xs) ρ S = forD b body xs ρ2 S := by
        simp only [forD, e1, e2]
      rw [e, List.all_cons, q, Bool.true_and]
      exact ih
theorem valP_mem {kvs : List (PV × PV)} {e : PV × PV} (pw : kvs.Pairwise fun a b => keq a.1 b.1 = false) (he : e ∈ kvs) (hr : keq e.1 e.1 = true) : valP kvs e.1 = some e.2 := by
  induction kvs with
  | nil => cases he
  | cons a l ih =>
    obtain ⟨k, v⟩ := a
    obtain ⟨p1, p2⟩ := List.pairwise_cons.mp pw
    show (if keq k e.1 = true then some v else valP l e.1) = _
    rcases List.mem_cons.mp he with rfl | he
    · rw [if_pos hr]
    · have := p1 e he
      rw [if_neg (by rw [this]; simp [-cLenE, -ckey, -kindOk]), ih p2 he]
theorem keq_self (p : Pr) : keq (kp p) (kp p) = true := by rw [keq_kp]; simp [-cLenE, -ckey, -kindOk]
/-- what the law's reading asks of a key -/
def gB (ws : List Str) (kvs : List (PV × PV)) : PV → Bool
  | .tup [.str a, .str b] => decide (a ∈ ws) && decide (b ∈ ws) && ltS a b && (match valP kvs (.tup [.str a, .str b]) with | some v => numB v | none => false)
  | _ => false
theorem gB_eq {ws : List Str} {kvs : List (PV × PV)} {t : PV} (hw : ∀ w ∈ ws, wordB (.str w) = true) (h : TV t kvs) : ((kvs.map (·.1)).all (gB ws kvs)) = (kvs.all (fun p => pairB p.1) && kvs.all (fun p => bothB ws p.1) && kvs.all (fun p => numB p.2)) := by
  have key : ∀ e ∈ kvs, gB ws kvs e.1 = (pairB e.1 && bothB ws e.1 && numB e.2) := fun e he => by
    rcases h.keys e he with ⟨p, hp, _⟩ | ⟨a, hp, _⟩ | ⟨a, hp, _⟩ | ⟨i, hp⟩
    · have hv := valP_mem h.pw he (by rw [hp]; exact keq_self p)
      rw [hp] at hv ⊢
      show (decide (p.1 ∈ ws) && decide (p.2 ∈ ws) && ltS p.1 p.2 && (match valP kvs (kp p) with | some v => numB v | none => false)) = (wordB (.str p.1) && wordB (.str p.2) && ltS p.1 p.2 && (decide (p.1 ∈ ws) && decide (p.2 ∈ ws)) && numB e.2)
      rw [hv]
      by_cases m1 : p.1 ∈ ws
      · by_cases m2 : p.2 ∈ ws
        · rw [hw _ m1, hw _ m2]
          simp [-cLenE, -ckey, -kindOk, m1, m2]
        · simp [-cLenE, -ckey, -kindOk, m2]
      · simp [-cLenE, -ckey, -kindOk, m1]
    · rw [hp]; rfl
    · rw [hp]; rfl
    · rw [hp]; rfl
  rw [List.all_map]
  have e1 : kvs.all (gB ws kvs ∘ fun x => x.1) = kvs.all fun e => (pairB e.1 && bothB ws e.1 && numB e.2) := by
    rw [Bool.eq_iff_iff, List.all_eq_true, List.all_eq_true]
    exact ⟨fun z x hx => by rw [← key x hx]; exact z x hx, fun z x hx => by show gB ws kvs x.1 = true; rw [key x hx]; exact z x hx⟩
  rw [e1, Bool.eq_iff_iff]
  simp only [List.all_eq_true, Bool.and_eq_true]
  exact ⟨fun z => ⟨⟨fun x hx => (z x hx).1.1, fun x hx => (z x hx).1.2⟩, fun x hx => (z x hx).2⟩, fun z x hx => ⟨⟨z.1.1 x hx, z.1.2 x hx⟩, z.2 x hx⟩⟩
/-- ties[pair] -/
theorem read_tie {t : PV} {kvs : List (PV × PV)} {S : Store} (h : TV t kvs) {p : Pr} {v : PV} (hm : (kp p, v) ∈ kvs) : pIxM S t (kp p) = some v := by
  have hv := valP_mem h.pw hm (keq_self p)
  have tk : (tkey (kp p)).isSome = true := rfl
  rcases h.shape with ⟨rfl, a⟩ | ⟨rfl, a⟩ | ⟨rfl, _⟩
  · have hk : kindOk kvs (kp p) = true := by unfold kindOk; rw [ckey_kp]; exact a
    show (if kindOk kvs (kp p) = true then valP kvs (kp p) else none) = _
    rw [if_pos hk]; exact hv
  · have := a _ hm
    cases this
  · show (if (tkey (kp p)).isSome = true then valP kvs (kp p) else none) = _
    rw [if_pos tk]; exact hv
end Lw


namespace Lw
open PySem PySem.Spec L2 Pv
variable [HW]
/-! ### dict comprehensions over different keys -/
theorem putP_new {acc : List (PV × PV)} {y z : PV} (h : ∀ a ∈ acc, keq a.1 y = false) : putP acc y z = acc ++ [(y, z)] := by
  unfold putP
  rw [valP_none h]
  rfl
theorem compK_map {b : Bd} {test : DenT} {dk dv : Den} {ρ : PEnv} {S : Store} (kf vf : PV → PV) : ∀ (xs : List PV) (acc : List (PV × PV)), acc.length + xs.length ≤ 1000 →
    ((acc.map (·.1)) ++ xs.map kf).Pairwise (fun a b => keq a b = false) →
    ((∀ k ∈ (acc.map (·.1)) ++ xs.map kf, (tkey k).isSome = true) ∨ (∀ k ∈ (acc.map (·.1)) ++ xs.map kf, (Pv.keyOf k).isSome = true)) →
    (∀ x ∈ xs, ∃ ρ1, b x ρ = some ρ1 ∧ test ρ1 S = .ok true S ∧ dk ρ1 S = .ok (kf x) S ∧ dv ρ1 S = .ok (vf x) S) →
    compK b test dk dv ρ xs acc S = .ok (acc ++ xs.map fun x => (kf x, vf x)) S
  | [], acc, _, _, _, _ => by simp [-cLenE, -ckey, -kindOk, compK]
  | x :: xs, acc, hl, pw, kd, h => by
    have hL := big_line
    obtain ⟨ρ1, e1, e2, e3, e4⟩ := h x List.mem_cons_self
    have new : ∀ a ∈ acc, keq a.1 (kf x) = false := fun a ha => (List.pairwise_append.mp pw).2.2 a.1 (List.mem_map.mpr ⟨a, ha, rfl⟩) (kf x) List.mem_cons_self
    have kx : kf x ∈ (acc.map (·.1)) ++ (x :: xs).map kf := List.mem_append_right _ List.mem_cons_self
    have ko : kindOk acc (kf x) = true := by
      unfold kindOk
      rcases kd with kd | kd
      · obtain ⟨a, ha⟩ := Option.isSome_iff_exists.mp (kd _ kx)
        rw [tkey_ck ha]
        exact List.all_eq_true.mpr fun e he => kd e.1 (List.mem_append_left _ (List.mem_map.mpr ⟨e, he, rfl⟩))
      · obtain ⟨a, ha⟩ := Option.isSome_iff_exists.mp (kd _ kx)
        rw [keyOf_ck ha]
        exact List.all_eq_true.mpr fun e he => kd e.1 (List.mem_append_left _ (List.mem_map.mpr ⟨e, he, rfl⟩))
    have hlt : acc.length < sizeLine := by rw [List.length_cons] at hl; omega
    have eq : (acc ++ [(kf x, vf x)]).map (·.1) ++ xs.map kf = acc.map (·.1) ++ (x :: xs).map kf := by simp [-cLenE, -ckey, -kindOk]
    have ih := compK_map kf vf xs (acc ++ [(kf x, vf x)]) (by simp [-cLenE, -ckey, -kindOk] at hl ⊢; omega) (by rw [eq]; exact pw) (by rw [eq]; exact kd) fun y hy => h y (List.mem_cons_of_mem _ hy)
    simp [-cLenE, -ckey, -kindOk, compK, e1, e2, e3, e4, ko, hlt, putP_new new, ih]
/-- the keys' order -/
theorem sorted_keys {κ : Type} [DecidableEq κ] {f : κ → PV} (hf : KF f) {T : List (κ × Int)} (nd : NodT T) : ∃ ks : List κ, sortP ((ent f T).map (·.1)) = ks.map f ∧ ks.Nodup ∧ ks.length = T.length ∧ (∀ k ∈ ks, ∃ v, getT T k = some v) ∧ ∀ k ∈ T.map (·.1), k ∈ ks := by
  have e : (ent f T).map (·.1) = (T.map (·.1)).map f := by simp [-cLenE, -ckey, -kindOk, ent]
  obtain ⟨ks, h1, h2⟩ := map_of_all (f := f) (P := fun k => k ∈ T.map (·.1)) (L := sortP ((ent f T).map (·.1))) fun x hx => by
    rw [sortP_mem, e] at hx
    obtain ⟨k, hk, rfl⟩ := List.mem_map.mp hx
    exact ⟨k, rfl, hk⟩
  have pm := sortP_perm ((ent f T).map (·.1))
  rw [h1, e] at pm
  have inj : ∀ a b : κ, f a = f b → a = b := fun a b z => by
    have := hf a b
    rw [z, hf b b] at this
    have q : decide (a = b) = true := by rw [← this]; simp [-cLenE, -ckey, -kindOk]
    exact of_decide_eq_true q
  have nd2 : ((T.map (·.1)).map f).Nodup := List.Pairwise.map f (fun a b h z => h (inj a b z)) nd
  refine ⟨ks, h1, nodup_of_map (pm.nodup_iff.mpr nd2), by have := pm.length_eq; simpa [-cLenE, -ckey, -kindOk] using this, fun k hk => ?_, fun k hk => ?_⟩
  · obtain ⟨t, ht, rfl⟩ := List.mem_map.mp (h2 k hk)
    exact ⟨t.2, getT_of nd ht⟩
  · obtain ⟨j, hj, e2⟩ := List.mem_map.mp (pm.mem_iff.mpr (List.mem_map.mpr ⟨k, hk, rfl⟩))
    rw [← inj j k e2]; exact hj
theorem asc_perm {κ : Type} [DecidableEq κ] {T : List (κ × Int)} {ks : List κ} (nd : NodT T) (h2 : ks.Nodup) (h4 : ∀ k ∈ ks, ∃ v, getT T k = some v) (h5 : ∀ k ∈ T.map (·.1), k ∈ ks) : (ks.map fun k => (k, (getT T k).getD 0)).Perm T := by
  have sub : ∀ k ∈ ks, k ∈ T.map (·.1) := fun k hk => by
    obtain ⟨v, hv⟩ := h4 k hk
    exact List.mem_map.mpr ⟨(k, v), getT_some hv, rfl⟩
  have pm : ks.Perm (T.map (·.1)) := (List.perm_ext_iff_of_nodup h2 nd).mpr fun k => ⟨sub k, h5 k⟩
  have e : (T.map (·.1)).map (fun k => (k, (getT T k).getD 0)) = T := by
    rw [List.map_map]
    have : ∀ t ∈ T, ((fun k => (k, (getT T k).getD 0)) ∘ fun t : κ × Int => t.1) t = t := fun t ht => by
      simp only [Function.comp]
      rw [getT_of nd (show (t.1, t.2) ∈ T from ht)]
      rfl
    exact (List.map_congr_left this).trans (List.map_id' T)
  exact (pm.map _).trans (by rw [e])
theorem ascending_spec {κ : Type} [DecidableEq κ] {f : κ → PV} (hf : KF f) (hk : (∀ a, (tkey (f a)).isSome = true) ∨ (∀ a, (Pv.keyOf (f a)).isSome = true)) {S : Store} {r : PV} {T : List (κ × Int)} (hS : FlatS S) (hr : look S r = .dct (ent f T)) (nd : NodT T)
    (hl : T.length ≤ 1000) (so : sortOk ((ent f T).map (·.1)) = true) : ∃ T', D_ascending_rows [r] S = .ok (.dct (ent f T')) S ∧ NodT T' ∧ T'.length = T.length ∧ T'.Perm T ∧ sortP ((ent f T).map (·.1)) = (ent f T').map (·.1) := by
  obtain ⟨ks, h1, h2, h3, h4, h5⟩ := sorted_keys hf nd
  have nl : ∀ L : List (κ × Int), noLocK (ent f L) = true := fun L => by
    induction L with
    | nil => rfl
    | cons t L ih => exact (by simpa [-cLenE, -ckey, -kindOk, ent] using ih)
  refine ⟨ks.map fun k => (k, (getT T k).getD 0), gc_same (F := callD 2 1 B_ascending_rows) ?_ (nl _) rfl hS, by unfold NodT; simpa [-cLenE, -ckey, -kindOk, List.map_map, Function.comp_def] using h2, by simpa [-cLenE, -ckey, -kindOk] using h3, asc_perm nd h2 h4 h5, by rw [h1]; unfold ent; rw [List.map_map, List.map_map]; rfl⟩
  have pw : ((([] : List (PV × PV)).map (·.1)) ++ (ks.map f).map _root_.id).Pairwise (fun a b => keq a b = false) := by
    simp only [List.map_nil, List.nil_append, List.map_id]
    exact List.Pairwise.map f (fun a b h => by rw [hf]; exact decide_eq_false h) h2
  have e := compK_map (b := bN 1) (test := dYes) (dk := dV 1) (dv := dBin pIxM (dV 0) (dV 1)) (ρ := [some r, none]) (S := S) _root_.id (fun x => (valP (ent f T) x).getD .non) (ks.map f) [] (by simp [-cLenE, -ckey, -kindOk]; omega) pw (by
    refine hk.imp (fun h k hm => ?_) (fun h k hm => ?_)
    all_goals
      simp only [List.map_nil, List.nil_append, List.map_id] at hm
      obtain ⟨a, _, rfl⟩ := List.mem_map.mp hm
      exact h a) (fun x hx => by
    obtain ⟨k, hm, rfl⟩ := List.mem_map.mp hx
    obtain ⟨v, hv⟩ := h4 k hm
    have e1 : valP (ent f T) (f k) = some (.int v) := by rw [valP_ent hf, hv]; rfl
    have ko : kindOk (ent f T) (f k) = true := by
      unfold kindOk
      rcases hk with hk | hk
      · obtain ⟨a, ha⟩ := Option.isSome_iff_exists.mp (hk k)
        rw [tkey_ck ha]
        exact List.all_eq_true.mpr fun e he => by obtain ⟨t, _, rfl⟩ := List.mem_map.mp he; exact hk t.1
      · obtain ⟨a, ha⟩ := Option.isSome_iff_exists.mp (hk k)
        rw [keyOf_ck ha]
        exact List.all_eq_true.mpr fun e he => by obtain ⟨t, _, rfl⟩ := List.mem_map.mp he; exact hk t.1
    exact ⟨_, rfl, rfl, rfl, by simp [-cLenE, -ckey, -kindOk, hr, ko, e1]⟩)
  have e' : (ks.map f).map (fun x => (_root_.id x, (valP (ent f T) x).getD .non)) = ent f (ks.map fun k => (k, (getT T k).getD 0)) := by
    unfold ent
    rw [List.map_map, List.map_map]
    refine List.map_congr_left fun k hm => ?_
    obtain ⟨v, hv⟩ := h4 k hm
    simp only [Function.comp, id]
    rw [show List.map (fun t : κ × Int => (f t.1, PV.int t.2)) T = ent f T from rfl, valP_ent hf, hv]
    rfl
  rw [List.nil_append, e'] at e
  have sc : ((ent f T).length < scanBound) = True := by have := scan_big; simp [-cLenE, -ckey, -kindOk, ent]; omega
  have lk : ∀ x, look S (.lst x) = .lst x := fun _ => rfl
  have so' := so
  simp [-cLenE, -ckey, -kindOk, B_ascending_rows, hr, itemsOf, so, sc, h1, wipeR, e]
end Lw


namespace Lw
open PySem PySem.Spec L2 Pv
variable [HW]
theorem ent_noLoc {κ : Type} (f : κ → PV) : ∀ T : List (κ × Int), noLocK (ent f T) = true
  | [] => rfl
  | t :: T => by
    have := ent_noLoc f T
    simpa [-cLenE, -ckey, -kindOk, ent] using this
theorem tkeys_kp : ∀ a, (tkey (kp a)).isSome = true := fun _ => rfl
theorem keys_str : ∀ a : Str, (Pv.keyOf (.str a)).isSome = true := fun _ => rfl
theorem sp_keys (L : List (Str × Int)) : (sp L).map (·.1) = (L.map (·.1)).map .str := by simp [-cLenE, -ckey, -kindOk, ent]
abbrev nearB : SDen := (sIf (dB (dBin pEq (dV 1) (dV 3))) (sSub (dV 5) (dV 2) (dV 4) qSetM) (sIf (dB (dBin pEq (dV 1) (dV 4))) (sSub (dV 5) (dV 2) (dV 3) qSetM) sNil))
theorem set_sp {S : Store} {L : List (Str × Int)} {a : Str} {i : Int} (hl : L.length ≤ 1000) : qSetM (.loc S.length) (.str a) (.int i) (S ++ [.dct (sp L)]) = some (S ++ [.dct (sp (putT L a i))]) := by
  have hL := big_line
  have e1 : (S ++ [PV.dct (sp L)])[S.length]? = some (.dct (sp L)) := by simp [-cLenE, -ckey, -kindOk]
  have no : mixOk (sp L) (.str a) = false := by
    cases L with
    | nil => rfl
    | cons t L =>
      unfold mixOk
      simp [-cLenE, -ckey, -kindOk, ent, tkey]
  have ko : kindOk (sp L) (.str a) = true := by
    unfold kindOk
    exact List.all_eq_true.mpr fun e he => by obtain ⟨t, _, rfl⟩ := List.mem_map.mp he; rfl
  have hlt : (sp L).length < sizeLine := by simp [-cLenE, -ckey, -kindOk, ent]; omega
  show (match (S ++ [PV.dct (sp L)])[S.length]? with | some (.dct kvs) => _ | _ => _) = _
  rw [e1]
  show (if mixOk (sp L) (.str a) = true then _ else qSetA (.loc S.length) (.str a) (.int i) (S ++ [.dct (sp L)])) = _
  rw [no, if_neg (by simp [-cLenE, -ckey, -kindOk])]
  show (match (S ++ [PV.dct (sp L)])[S.length]? with | some (.dct kvs) => _ | _ => _) = _
  rw [e1]
  show (if kindOk (sp L) (.str a) = true ∧ (sp L).length < sizeLine then some ((S ++ [PV.dct (sp L)]).set S.length (.dct (putP (sp L) (.str a) (.int i)))) else none) = _
  rw [if_pos ⟨ko, hlt⟩, putP_ent kf_str]
  simp [-cLenE, -ckey, -kindOk]
theorem near_spec {S : Store} {T : List Tie} {p : Str} (hS : FlatS S) (hl : T.length ≤ 900) : ∃ L, D_near_in [.dct (tp T), .str p] S = .ok (.dct (sp L)) S ∧ L.length ≤ 1000 := by
  obtain ⟨ρ', S', e, L, z3, z4, z5, rfl, rfl, nd, ll⟩ := forD_inv (b := bSeq 2 (bsCons (bSeq 2 (bsCons (bN 3) (bsCons (bN 4) bsNil))) (bsCons (bN 5) bsNil))) (body := nearB)
    (fun i ρ S' => ∃ L z3 z4 z5, ρ = [some (.dct (tp T)), some (.str p), some (.loc S.length), z3, z4, z5] ∧ S' = S ++ [.dct (sp L)] ∧ NodT L ∧ L.length ≤ i)
    ((tp T).map fun p => .tup [p.1, p.2]) 0 [some (.dct (tp T)), some (.str p), some (.loc S.length), none, none, none] (S ++ [.dct []]) ⟨[], none, none, none, rfl, rfl, List.nodup_nil, Nat.le_refl _⟩ (by
      rintro j x ρ S1 hx ⟨L, z3, z4, z5, rfl, rfl, nd, ll⟩
      rw [List.getElem?_map] at hx
      obtain ⟨e, he, rfl⟩ := Option.map_eq_some_iff.mp hx
      unfold tp ent at he
      rw [List.getElem?_map] at he
      obtain ⟨t, ht, rfl⟩ := Option.map_eq_some_iff.mp he
      have hj : j < T.length := (List.getElem?_eq_some_iff.mp ht).1
      obtain ⟨⟨a, b⟩, i⟩ := t
      refine ⟨[some (.dct (tp T)), some (.str p), some (.loc S.length), some (.str a), some (.str b), some (.int i)], rfl, ?_⟩
      have s1 := set_sp (S := S) (L := L) (a := b) (i := i) (by omega)
      have s2 := set_sp (S := S) (L := L) (a := a) (i := i) (by omega)
      have q1 : pEq (S ++ [PV.dct (sp L)]) (.str p) (.str a) = some (.bl (p == a)) := rfl
      have q2 : pEq (S ++ [PV.dct (sp L)]) (.str p) (.str b) = some (.bl (p == b)) := rfl
      by_cases h1 : (p == a) = true
      · exact ⟨_, S ++ [.dct (sp (putT L b i))], .inl (by simp [-cLenE, -ckey, -kindOk, nearB, -pEq, q1, h1, -qSetM, s1]; exact ⟨rfl, rfl, rfl⟩), _, _, _, _, rfl, rfl, putT_nod nd _ _, by have := put_len L b i; omega⟩
      · by_cases h2 : (p == b) = true
        · exact ⟨_, S ++ [.dct (sp (putT L a i))], .inl (by simp [-cLenE, -ckey, -kindOk, nearB, -pEq, q1, h1, q2, h2, -qSetM, s2]; exact ⟨rfl, rfl, rfl⟩), _, _, _, _, rfl, rfl, putT_nod nd _ _, by have := put_len L a i; omega⟩
        · exact ⟨_, S ++ [.dct (sp L)], .inl (by simp [-cLenE, -ckey, -kindOk, nearB, -pEq, q1, h1, q2, h2, -qSetM]; exact ⟨rfl, rfl, rfl⟩), _, _, _, _, rfl, rfl, nd, by omega⟩)
  have ll' : L.length ≤ T.length := by simpa [-cLenE, -ckey, -kindOk, ent] using ll
  have fl : FlatS (S ++ [.dct (sp L)]) := fun c hc => by
    rcases List.mem_append.mp hc with h | h
    · exact hS c h
    · rw [List.mem_singleton.mp h]; exact ent_noLoc _ _
  obtain ⟨L', e2, nd', ln', _⟩ := ascending_spec kf_str (.inr keys_str) (r := .loc S.length) fl (look_at (by simp [-cLenE, -ckey, -kindOk])) nd (by omega) (by rw [sp_keys]; exact sortOk_str _)
  refine ⟨L', gc_more (F := callD 6 2 B_near_in) (M := [.dct (sp L)]) ?_ (ent_noLoc _ _) hS, by omega⟩
  simp only [nearB] at e
  simp [-cLenE, -ckey, -kindOk, B_near_in, e, e2, -qSetM]
end Lw


namespace Lw
open PySem PySem.Spec L2 Pv
variable [HW]
/-! ### making a net -/
theorem flat_app {S : Store} {c : PV} (hS : FlatS S) (h : noLoc c = true) : FlatS (S ++ [c]) := fun x hx => by
  rcases List.mem_append.mp hx with hx | hx
  · exact hS x hx
  · rw [List.mem_singleton.mp hx]; exact h
def nearF (S : Store) (T : List Tie) (x : PV) : PV := match D_near_in [.dct (tp T), x] S with
  | .ok v _ => v
  | _ => .non
theorem nearF_spec {S : Store} {T : List Tie} {p : Str} (hS : FlatS S) (hl : T.length ≤ 900) : D_near_in [.dct (tp T), .str p] S = .ok (nearF S T (.str p)) S ∧ ∃ L, nearF S T (.str p) = .dct (sp L) := by
  obtain ⟨L, e, _⟩ := near_spec (p := p) hS hl
  have : nearF S T (.str p) = .dct (sp L) := by unfold nearF; rw [e]
  exact ⟨by rw [this]; exact e, L, this⟩
theorem intsP_sp : ∀ L : List (Str × Int), intsP ((sp L).map (·.2)) = some (L.map (·.2))
  | [] => rfl
  | t :: L => by
    have := intsP_sp L
    simp only [ent, List.map_map, List.map_cons] at this ⊢
    simp [-cLenE, -ckey, -kindOk, intsP, this]
theorem nd_strs {ws : List Str} (nd : ws.Nodup) : (ws.map PV.str).Pairwise fun a b => keq a b = false := List.Pairwise.map PV.str (fun a b h => by rw [kf_str]; exact decide_eq_false h) nd
theorem fold_nodup : ∀ (l acc : List Str), (l.foldl addS acc).length = acc.length + l.length → l.Nodup ∧ ∀ x ∈ l, x ∉ acc
  | [], acc, _ => ⟨List.nodup_nil, fun x h => nomatch h⟩
  | x :: l, acc, h => by
    have le : ∀ (l acc : List Str), (l.foldl addS acc).length ≤ acc.length + l.length := by
      intro l
      induction l with
      | nil => intro acc; simp [-cLenE, -ckey, -kindOk]
      | cons x l ih => intro acc; simp only [List.foldl_cons, List.length_cons]; have := ih (addS acc x); have := addS_len acc x; omega
    rw [List.foldl_cons, List.length_cons] at h
    have h1 := le l (addS acc x)
    have h2 := addS_len acc x
    have h3 : (addS acc x).length = acc.length + 1 := by omega
    have nx : x ∉ acc := fun z => by
      unfold addS at h3
      rw [if_pos z] at h3
      omega
    have e : addS acc x = acc ++ [x] := by unfold addS; rw [if_neg nx]
    obtain ⟨i1, i2⟩ := fold_nodup l (addS acc x) (by omega)
    rw [e] at i2
    refine ⟨List.nodup_cons.mpr ⟨fun z => i2 x z (by simp [-cLenE, -ckey, -kindOk]), i1⟩, fun y hy => ?_⟩
    rcases List.mem_cons.mp hy with rfl | hy
    · exact nx
    · exact fun z => i2 y hy (List.mem_append_left _ z)
theorem distinct_nodup {ws : List Str} (h : (distinct ws).length = ws.length) : ws.Nodup := (fold_nodup ws [] (by simpa [-cLenE, -ckey, -kindOk, distinct] using h)).1
theorem nodup_distinct {ws : List Str} (h : ws.Nodup) : distinct ws = ws := by
  have key : ∀ (l acc : List Str), (acc ++ l).Nodup → l.foldl addS acc = acc ++ l := by
    intro l
    induction l with
    | nil => intro acc _; simp [-cLenE, -ckey, -kindOk]
    | cons x l ih =>
      intro acc h
      have nx : x ∉ acc := fun z => (List.nodup_append.mp h).2.2 x z x List.mem_cons_self rfl
      have e : addS acc x = acc ++ [x] := by unfold addS; rw [if_neg nx]
      rw [List.foldl_cons, e, ih _ (by rw [List.append_assoc]; exact h), List.append_assoc]
      rfl
  simpa [-cLenE, -ckey, -kindOk, distinct] using key ws [] (by simpa [-cLenE, -ckey, -kindOk] using h)
theorem look_end (S : Store) (c : PV) : look (S ++ [c]) (.loc S.length) = c := look_at (by simp [-cLenE, -ckey, -kindOk])
def degF : PV → PV
  | .tup [_, .dct kvs] => .int (((intsP (kvs.map (·.2))).getD []).sum)
  | _ => .non
def fstF : PV → PV
  | .tup [k, _] => k
  | _ => .non
def netFs (ps : List Str) (T : List Tie) (NV DV : List (PV × PV)) : List (Str × PV) := [("own_places", .tup (ps.map .str)), ("own_ties", .dct (tp T)), ("own_near", .dct NV), ("own_degrees", .dct DV)]
theorem init_spec {ws : List Str} {t t0 : PV} {kvs : List (PV × PV)} {S : Store} (hS : FlatS S) (hp : placesB (.tup (ws.map .str)) = true) (hwd : ∀ w ∈ ws, w.length ≤ 1000) (h : TV t kvs) (ht : tiesB ws kvs = true) (ht0 : t0 = t ∨ (t0 = .non ∧ t = .dct [])) :
    ∃ fs, callD 6 3 B_Net___init__ [.loc S.length, .tup (ws.map .str), t0] (S ++ [.ins "Net" []]) = .ok .non (S ++ [.ins "Net" fs]) ∧ noLocF fs = true ∧ ∃ (T T' : List Tie) (NV DV : List (PV × PV)), kvs = tp T ∧ T'.Perm T ∧ NodT T' ∧ sortP ((tp T).map (·.1)) = (tp T').map (·.1) ∧ fs = netFs (sortS ws) T' NV DV := by
  have hL := big_line
  have hp' := hp
  simp only [placesB, Bool.and_eq_true, decide_eq_true_eq, List.length_map] at hp'
  obtain ⟨⟨⟨w1, w9⟩, hw⟩, hu⟩ := hp'
  have nd : ws.Nodup := distinct_nodup (by
    unfold uniqB at hu
    rw [txts_str] at hu
    exact of_decide_eq_true hu)
  have ht' := ht
  simp only [tiesB, Bool.and_eq_true, decide_eq_true_eq] at ht'
  obtain ⟨⟨⟨t1, t2⟩, t3⟩, t4⟩ := ht'
  obtain ⟨T, rfl⟩ := rows_tp t1 t3
  have et : t = .dct (tp T) := by
    rcases h.shape with ⟨h, _⟩ | ⟨h, _⟩ | ⟨_, e, he, z⟩
    · exact h
    · exact h
    · obtain ⟨p, hp, _⟩ := pairB_kp (List.all_eq_true.mp t1 e he)
      rw [hp] at z
      cases z
  subst et
  have ndT : NodT T := by
    have := h.pw
    unfold tp ent at this
    rw [List.pairwise_map] at this
    unfold NodT
    refine List.Pairwise.map (·.1) (fun a b z => ?_) this
    intro e
    have : keq (kp a.1) (kp b.1) = false := z
    rw [keq_kp, e] at this
    simp [-cLenE, -ckey, -kindOk] at this
  have lT : T.length ≤ 900 := by have := h.len; rw [tp_len] at this; exact this
  have S1f : FlatS (S ++ [.ins "Net" []]) := flat_app hS rfl
  have dv : DrawnP (.tup (ws.map .str)) := ⟨trivial, fun xs e x hx => by
    cases e
    obtain ⟨w, hw, rfl⟩ := List.mem_map.mp hx
    exact hwd w hw⟩
  have ap := are_places_spec S1f dv fun xs e => by cases e; rw [List.length_map]; omega
  have at' := are_ties_spec (ws := ws) S1f h
  rw [hp] at ap
  rw [ht] at at'
  have sw : sortP (ws.map .str) = (sortS ws).map .str := sortP_str ws
  have pp : (sortS ws).Perm ws := List.mergeSort_perm _ _
  have nds : (sortS ws).Nodup := pp.nodup_iff.mpr nd
  have lns : (sortS ws).length = ws.length := pp.length_eq
  generalize hps : sortS ws = ps at sw nds lns
  have so := sortOk_str ws
  have sc : (ws.length < scanBound) = True := by have := scan_big; simp [-cLenE, -ckey, -kindOk]; omega
  have fn : ∀ a b c d : PV, FlatS (S ++ [.ins "Net" [("own_places", a), ("own_ties", b), ("own_near", c), ("own_degrees", d)]]) → True := fun _ _ _ _ _ => trivial
  have S2f : FlatS (S ++ [.ins "Net" [("own_places", .tup (ps.map .str))]]) := flat_app hS (by simp [-cLenE, -ckey, -kindOk, strs_noLoc])
  obtain ⟨T', e2, ndT', lT', pmT, soT⟩ := ascending_spec kf_kp (.inl tkeys_kp) (r := .dct (tp T)) S2f rfl ndT (by omega) (by rw [tp_keys]; exact sortOk_kp _)
  have S3f : FlatS (S ++ [.ins "Net" [("own_places", .tup (ps.map .str)), ("own_ties", .dct (tp T'))]]) := flat_app hS (by simp [-cLenE, -ckey, -kindOk, strs_noLoc, tp_noLoc])
  have n1 : ¬ (("own_places" : Str) = "own_ties") := by decide
  have n2 : ¬ (("own_places" : Str) = "own_near") := by decide
  have n3 : ¬ (("own_ties" : Str) = "own_near") := by decide
  have n4 : ¬ (("own_places" : Str) = "own_degrees") := by decide
  have n5 : ¬ (("own_ties" : Str) = "own_degrees") := by decide
  have n6 : ¬ (("own_near" : Str) = "own_degrees") := by decide
  have m1 : ((("own_ties" : Str) == "own_places")) = false := by decide
  have m2 : ((("own_near" : Str) == "own_places")) = false := by decide
  have m3 : ((("own_near" : Str) == "own_ties")) = false := by decide
  have e3 := compK_map (b := bN 4) (test := dYes) (dk := dV 4) (dv := dFn D_near_in [] (dCons (dFld "Net" "own_ties" (dV 0)) (dCons (dV 4) dNil))) (ρ := [some (.loc S.length), some (.tup (ws.map .str)), some t0, some (.dct (tp T)), none, none])
    (S := S ++ [.ins "Net" [("own_places", .tup (ps.map .str)), ("own_ties", .dct (tp T'))]]) _root_.id (nearF (S ++ [.ins "Net" [("own_places", .tup (ps.map .str)), ("own_ties", .dct (tp T'))]]) T') (ps.map .str) [] (by simp [-cLenE, -ckey, -kindOk]; omega)
    (by simpa [-cLenE, -ckey, -kindOk] using nd_strs nds) (.inr (by
      simp only [List.map_nil, List.nil_append, List.map_id]
      intro k hk
      obtain ⟨a, _, rfl⟩ := List.mem_map.mp hk
      rfl)) (fun x hx => by
      obtain ⟨p, _, rfl⟩ := List.mem_map.mp hx
      obtain ⟨q1, _⟩ := nearF_spec (T := T') (p := p) S3f (by omega)
      exact ⟨_, rfl, rfl, rfl, by simp [-cLenE, -ckey, -kindOk, m1, q1, look_end, List.lookup]⟩)
  rw [List.nil_append] at e3
  obtain ⟨NV, hNV⟩ : ∃ NV, NV = (ps.map PV.str).map fun x => (_root_.id x, nearF (S ++ [.ins "Net" [("own_places", .tup (ps.map .str)), ("own_ties", .dct (tp T'))]]) T' x) := ⟨_, rfl⟩
  have kNV : NV.map (·.1) = ps.map .str := by rw [hNV, List.map_map]; exact List.map_id _
  have vNV : ∀ e ∈ NV, ∃ L, e.2 = .dct (sp L) := fun e he => by
    rw [hNV] at he
    obtain ⟨x, hx, rfl⟩ := List.mem_map.mp he
    obtain ⟨p, _, rfl⟩ := List.mem_map.mp hx
    exact (nearF_spec (T := T') (p := p) S3f (by omega)).2
  rw [← hNV] at e3
  have fNV : noLocK NV = true := by
    have : ∀ l : List (PV × PV), (∀ e ∈ l, ∃ L, e.2 = .dct (sp L)) → noLocK l = true := by
      intro l
      induction l with
      | nil => intro _; rfl
      | cons e l ih =>
        intro hh
        obtain ⟨L, hL⟩ := hh e List.mem_cons_self
        obtain ⟨k, v⟩ := e
        cases hL
        have := ih fun x hx => hh x (List.mem_cons_of_mem _ hx)
        simp [-cLenE, -ckey, -kindOk, this, ent_noLoc]
    exact this NV vNV
  have lNV : NV.length = ps.length := by rw [hNV]; simp [-cLenE, -ckey, -kindOk]
  have S4f : FlatS (S ++ [.ins "Net" [("own_places", .tup (ps.map .str)), ("own_ties", .dct (tp T')), ("own_near", .dct NV)]]) := flat_app hS (by simp [-cLenE, -ckey, -kindOk, strs_noLoc, tp_noLoc, fNV])
  have e4 := compK_map (b := bSeq 2 (bsCons (bN 4) (bsCons (bN 5) bsNil))) (test := dYes) (dk := dV 4) (dv := dCB cSum (dCons (dVals (dV 5)) dNil)) (ρ := [some (.loc S.length), some (.tup (ws.map .str)), some t0, some (.dct (tp T)), none, none])
    (S := S ++ [.ins "Net" [("own_places", .tup (ps.map .str)), ("own_ties", .dct (tp T')), ("own_near", .dct NV)]]) fstF degF (NV.map fun p => .tup [p.1, p.2]) [] (by simp [-cLenE, -ckey, -kindOk]; omega)
    (by
      rw [List.map_map]
      show (([] : List PV) ++ NV.map (·.1)).Pairwise _
      rw [kNV]
      simpa [-cLenE, -ckey, -kindOk] using nd_strs nds) (.inr (by
      rw [List.map_map]
      show ∀ k ∈ (([] : List PV) ++ NV.map (·.1)), _
      rw [kNV]
      intro k hk
      obtain ⟨a, _, rfl⟩ := List.mem_map.mp (by simpa [-cLenE, -ckey, -kindOk] using hk)
      rfl)) (fun x hx => by
      obtain ⟨e, he, rfl⟩ := List.mem_map.mp hx
      obtain ⟨L, hL⟩ := vNV e he
      obtain ⟨k, v⟩ := e
      cases hL
      have q := intsP_sp L
      refine ⟨[some (.loc S.length), some (.tup (ws.map .str)), some t0, some (.dct (tp T)), some k, some (.dct (sp L))], rfl, rfl, rfl, ?_⟩
      have dg : degF (.tup [k, .dct (sp L)]) = .int (L.map (·.2)).sum := by
        show PV.int (((intsP ((sp L).map (·.2))).getD []).sum) = _
        rw [q]; rfl
      show dCB cSum (dCons (dVals (dV 5)) dNil) _ _ = .ok (degF (.tup [k, .dct (sp L)])) _
      rw [dg]
      simp [-cLenE, -ckey, -kindOk, -List.map_map, q])
  rw [List.nil_append] at e4
  obtain ⟨DV, hDV⟩ : ∃ DV, DV = (NV.map fun p => PV.tup [p.1, p.2]).map fun x => (fstF x, degF x) := ⟨_, rfl⟩
  rw [← hDV] at e4
  refine ⟨[("own_places", .tup (ps.map .str)), ("own_ties", .dct (tp T')), ("own_near", .dct NV), ("own_degrees", .dct DV)], ?_, ?_, T, T', NV, DV, rfl, pmT, ndT', soT, rfl⟩
  · rcases ht0 with rfl | ⟨rfl, e⟩
    · have nn : isNonP (.dct (tp T)) = false := rfl
      simp [-cLenE, -ckey, -kindOk, B_Net___init__, nn, ap, at', itemsOf, so, sc, sw, putFP, n1, n2, n3, n4, n5, n6, look_end, e2, e3, e4, List.lookup, m1, m2, m3, wipeR]
    · have e' : tp T = [] := PV.dct.inj e
      have nn : isNonP .non = true := rfl
      rw [e'] at at' e2 e3 e4
      simp [-cLenE, -ckey, -kindOk, B_Net___init__, nn, ap, at', itemsOf, so, sc, sw, putFP, n1, n2, n3, n4, n5, n6, look_end, e2, e3, e4, List.lookup, m1, m2, m3, wipeR]
  · have fDV : noLocK DV = true := by
      rw [hDV]
      have dg : ∀ x, noLoc (degF x) = true := fun x => by unfold degF; split <;> rfl
      generalize (NV.map fun p => PV.tup [p.1, p.2]) = l
      induction l with
      | nil => rfl
      | cons x l ih => simp [-cLenE, -ckey, -kindOk, dg, ih]
    simp [-cLenE, -ckey, -kindOk, strs_noLoc, tp_noLoc, fNV, fDV]
end Lw


namespace Lw
open PySem PySem.Spec L2 Pv
variable [HW]
theorem gc_exc {F : FDen} {qs : List PV} {S M : Store} {c : XCls} (h : F qs S = .exc ⟨c, none⟩ (S ++ M)) (hS : FlatS S) : gcF F qs S = .exc ⟨c, none⟩ S := by
  show gcO S.length (F qs S) = _
  rw [h]
  unfold gcO
  have e : (S ++ M).take S.length = S := List.take_left
  simp only [e, fzS_flat hS]
theorem gcO_exc {S M : Store} {c : XCls} (hS : FlatS S) : gcO S.length (.exc ⟨c, none⟩ (S ++ M)) = .exc ⟨c, none⟩ S := by
  unfold gcO
  have e : (S ++ M).take S.length = S := List.take_left
  simp only [e, fzS_flat hS]
theorem gcO_ins {S : Store} {fs : List (Str × PV)} (hS : FlatS S) (hf : noLocF fs = true) : gcO S.length (.ok (.loc S.length) (S ++ [.ins "Net" fs])) = .ok (.ins "Net" fs) S := by
  unfold gcO
  have e : (S ++ [PV.ins "Net" fs]).take S.length = S := List.take_left
  have e7 : fz S.length (S ++ [.ins "Net" fs]) 7 (.ins "Net" fs) = some (.ins "Net" fs) := fz_no hf
  have e8 : fz S.length (S ++ [.ins "Net" fs]) 8 (.loc S.length) = some (.ins "Net" fs) := by
    show fzP (fun m => if m < S.length then some (PV.loc m) else ((S ++ [PV.ins "Net" fs])[m]?).bind fun c => if isCo c = true then fz S.length (S ++ [.ins "Net" fs]) 7 c else none) (.loc S.length) = _
    have hn : ¬ S.length < S.length := Nat.lt_irrefl _
    have hg : (S ++ [PV.ins "Net" fs])[S.length]? = some (.ins "Net" fs) := by simp [-cLenE, -ckey, -kindOk]
    have hi : isCo (PV.ins "Net" fs) = true := rfl
    simp only [fzP, hn, if_false, hg, Option.bind_some, hi, if_true, e7]
  simp only [e, e8, fzS_flat hS]
theorem gcO_net {S : Store} {fs : List (Str × PV)} (hS : FlatS S) (hf : noLocF fs = true) {qs : List PV} (h : callD 6 3 B_Net___init__ (.loc S.length :: qs) (S ++ [.ins "Net" []]) = .ok .non (S ++ [.ins "Net" fs])) :
    D_Net___init__ (.loc S.length :: qs) (S ++ [.ins "Net" []]) = .ok .non (S ++ [.ins "Net" fs]) :=
  gc_same (F := callD 6 3 B_Net___init__) h rfl (by simp [-cLenE, -ckey, -kindOk]) (flat_app hS hf)
theorem gcO_nonet {S : Store} (hS : FlatS S) {qs : List PV} {c : XCls} (h : callD 6 3 B_Net___init__ (.loc S.length :: qs) (S ++ [.ins "Net" []]) = .exc ⟨c, none⟩ (S ++ [.ins "Net" []])) :
    D_Net___init__ (.loc S.length :: qs) (S ++ [.ins "Net" []]) = .exc ⟨c, none⟩ (S ++ [.ins "Net" []]) :=
  gc_exc (F := callD 6 3 B_Net___init__) (M := []) (by simpa [-cLenE, -ckey, -kindOk] using h) (flat_app hS rfl)
theorem init_no {p t0 t : PV} {S : Store} (hS : FlatS S) (hp : DrawnP p) (hz : ∀ xs, p = .tup xs → xs.length ≤ 1000) (ht0 : (t0 = t ∧ isNonP t0 = false) ∨ (isNonP t0 = true ∧ t = .dct []))
    (h : placesB p = false ∨ D_are_ties [p, t] (S ++ [.ins "Net" []]) = .ok (.bl false) (S ++ [.ins "Net" []])) : callD 6 3 B_Net___init__ [.loc S.length, p, t0] (S ++ [.ins "Net" []]) = .exc ⟨.own "InvalidNet", none⟩ (S ++ [.ins "Net" []]) := by
  have S1f : FlatS (S ++ [.ins "Net" []]) := flat_app hS rfl
  have ap := are_places_spec S1f hp hz
  cases q : placesB p with
  | false =>
    rw [q] at ap
    rcases ht0 with ⟨rfl, nn⟩ | ⟨nn, rfl⟩ <;> simp [-cLenE, -ckey, -kindOk, B_Net___init__, nn, ap]
  | true =>
    rw [q] at ap
    rcases h with h | h
    · rw [q] at h; cases h
    · rcases ht0 with ⟨rfl, nn⟩ | ⟨nn, rfl⟩ <;> simp [-cLenE, -ckey, -kindOk, B_Net___init__, nn, ap, h]
end Lw


namespace Lw
open PySem PySem.Spec L2 Pv
variable [HW]
theorem TV.notNone {t : PV} {kvs : List (PV × PV)} (h : TV t kvs) : isNonP t = false := by
  rcases h.shape with ⟨rfl, _⟩ | ⟨rfl, _⟩ | ⟨rfl, _⟩ <;> rfl
theorem drawn_short {ws : List Str} (h : ∀ x ∈ ws.map PV.str, Drawn x) : ∀ w ∈ ws, w.length ≤ 1000 := fun w hw => h _ (List.mem_map.mpr ⟨w, hw, rfl⟩)
/-- a net's own ties, as a dict of ties -/
theorem short_abc : ∀ w ∈ abc, w.length ≤ 1 := by decide +kernel
theorem word_abc : ∀ w ∈ abc, wordB (.str w) = true := by decide +kernel
theorem tv_net {ps : List Str} {T : List Tie} (pl : PlOk ps) (t : TiesOk ps T 60) : TV (.dct (tp T)) (tp T) where
  shape := .inl ⟨rfl, tp_tkey T⟩
  keys := fun p hp => by
    obtain ⟨t', ht, rfl⟩ := List.mem_map.mp hp
    obtain ⟨h1, h2, _⟩ := t.mem t' ht
    exact .inl ⟨t'.1, rfl, Nat.le_trans (short_abc _ (pl.mem _ h1)) (by decide), Nat.le_trans (short_abc _ (pl.mem _ h2)) (by decide)⟩
  vals := fun p hp => by
    obtain ⟨t', ht, rfl⟩ := List.mem_map.mp hp
    trivial
  pw := ent_pw kf_kp t.nod
  len := by have := t.len; rw [tp_len]; omega
theorem places_net {ps : List Str} (pl : PlOk ps) : placesB (.tup (ps.map .str)) = true := by
  have h1 := pl.lo
  have h2 := pl.hi
  have hw : ps.all (wordB ∘ PV.str) = true := List.all_eq_true.mpr fun w hw => word_abc w (pl.mem w hw)
  have hu : uniqB (ps.map .str) = true := by
    unfold uniqB
    rw [txts_str]
    exact decide_eq_true (by rw [nodup_distinct pl.nod])
  have i1 : 1 ≤ ps.length := by omega
  have i9 : ps.length ≤ 9 := by omega
  simp [-cLenE, -ckey, -kindOk, placesB, hw, hu, i1, i9]
theorem sum_tp (T : List Tie) : valsSum (tp T) = sumT T := by
  unfold valsSum sumT
  simp only [tp, ent, List.map_map]
  rfl
theorem elem_le {T : List Tie} (h : ∀ t ∈ T, 1 ≤ t.2) : ∀ t ∈ T, t.2 ≤ sumT T := by
  induction T with
  | nil => intro t h; cases h
  | cons a T ih =>
    have pos : ∀ L : List Tie, (∀ t ∈ L, 1 ≤ t.2) → 0 ≤ sumT L := by
      intro L
      induction L with
      | nil => intro _; exact Int.le_refl _
      | cons b L ih =>
        intro hh
        have := ih fun t ht => hh t (List.mem_cons_of_mem _ ht)
        have := hh b List.mem_cons_self
        simp only [sumT, List.map_cons, List.sum_cons] at *
        omega
    intro t ht
    have p := pos T fun t ht => h t (List.mem_cons_of_mem _ ht)
    have ha := h a List.mem_cons_self
    have e : sumT (a :: T) = a.2 + sumT T := by simp [-cLenE, -ckey, -kindOk, sumT]
    rcases List.mem_cons.mp ht with rfl | ht
    · omega
    · have := ih (fun t ht => h t (List.mem_cons_of_mem _ ht)) t ht
      omega
theorem ties_net {ps qs : List Str} {T : List Tie} (pl : PlOk ps) (t : TiesOk ps T 60) (hq : ∀ p ∈ ps, p ∈ qs) : tiesB qs (tp T) = true := by
  have pos : ∀ x ∈ T, 1 ≤ x.2 := fun x hx => (t.mem x hx).2.2.2
  simp only [tiesB, Bool.and_eq_true, List.all_eq_true, decide_eq_true_eq]
  refine ⟨⟨⟨fun e he => ?_, fun e he => ?_⟩, fun e he => ?_⟩, by rw [sum_tp]; exact t.sum⟩
  · obtain ⟨x, hx, rfl⟩ := List.mem_map.mp he
    obtain ⟨h1, h2, h3, _⟩ := t.mem x hx
    have e1 := word_abc _ (pl.mem _ h1)
    have e2 := word_abc _ (pl.mem _ h2)
    show (wordB (.str x.1.1) && wordB (.str x.1.2) && ltS x.1.1 x.1.2) = true
    rw [e1, e2]
    exact decide_eq_true h3
  · obtain ⟨x, hx, rfl⟩ := List.mem_map.mp he
    obtain ⟨h1, h2, _, _⟩ := t.mem x hx
    show (decide (x.1.1 ∈ qs) && decide (x.1.2 ∈ qs)) = true
    simp [-cLenE, -ckey, -kindOk, hq _ h1, hq _ h2]
  · obtain ⟨x, hx, rfl⟩ := List.mem_map.mp he
    have a := pos x hx
    have b := elem_le pos x hx
    have c := t.sum
    show (decide (1 ≤ x.2) && decide (x.2 ≤ 60)) = true
    have : x.2 ≤ 60 := by omega
    simp [-cLenE, -ckey, -kindOk, a, this]
end Lw


namespace Lw
open PySem PySem.Spec L2 Pv
variable [HW]
/-! comprehensions over lists of any kind; the net object; lots -/
theorem comp_of {α : Type} {b : Bd} {test : DenT} {elt : Den} {ρ : PEnv} {S : Store} (g : α → PV) (q : α → Bool) (f : α → PV) : ∀ (xs : List α) (n : Nat), n + xs.length ≤ 1000000 →
    (∀ a ∈ xs, ∃ ρ1, b (g a) ρ = some ρ1 ∧ test ρ1 S = .ok (q a) S ∧ (q a = true → elt ρ1 S = .ok (f a) S)) → compD b test elt ρ (xs.map g) n S = .ok ((xs.filter q).map f) S
  | [], _, _, _ => rfl
  | x :: xs, n, hz, hs => by
    have hL := big_line
    obtain ⟨ρ1, hb, e, k⟩ := hs x List.mem_cons_self
    simp [-cLenE, -ckey, -kindOk] at hz
    cases hp : q x with
    | false =>
      have ih := comp_of g q f xs n (by omega) fun y hy => hs y (List.mem_cons_of_mem _ hy)
      simp [-cLenE, -ckey, -kindOk, compD, hb, e, hp, ih]
    | true =>
      have ih := comp_of g q f xs (n + 1) (by omega) fun y hy => hs y (List.mem_cons_of_mem _ hy)
      have hn : n < sizeLine := by omega
      simp [-cLenE, -ckey, -kindOk, compD, hb, e, hp, k hp, hn, ih]
theorem comp_all {α : Type} {b : Bd} {elt : Den} {ρ : PEnv} {S : Store} (g : α → PV) (f : α → PV) (xs : List α) (hz : xs.length ≤ 1000000)
    (h : ∀ a ∈ xs, ∃ ρ1, b (g a) ρ = some ρ1 ∧ elt ρ1 S = .ok (f a) S) : compD b dYes elt ρ (xs.map g) 0 S = .ok (xs.map f) S := by
  have := comp_of (b := b) (test := dYes) (elt := elt) (ρ := ρ) (S := S) g (fun _ => true) f xs 0 (by omega) fun a ha => by
    obtain ⟨ρ1, h1, h2⟩ := h a ha
    exact ⟨ρ1, h1, rfl, fun _ => h2⟩
  rw [this, List.filter_eq_self.mpr fun _ _ => rfl]
theorem allEq_map {α : Type} [DecidableEq α] {f : PV → PV → Option Bool} {g : α → PV} (h : ∀ a b, f (g a) (g b) = some (decide (a = b))) : ∀ {A B : List α}, A.length = B.length → allEq f (A.map g) (B.map g) = some (decide (A = B))
  | [], [], _ => rfl
  | a :: A, b :: B, hl => by
    have ih := allEq_map h (A := A) (B := B) (by simpa [-cLenE, -ckey, -kindOk] using hl)
    simp only [List.map_cons, allEq, h, ih]
    by_cases e : a = b <;> by_cases e2 : A = B <;> simp [-cLenE, -ckey, -kindOk, e, e2]
  | [], b :: B, hl => by simp [-cLenE, -ckey, -kindOk] at hl
  | a :: A, [], hl => by simp [-cLenE, -ckey, -kindOk] at hl
theorem allEq_map' {α : Type} [DecidableEq α] {f : PV → PV → Option Bool} {g : α → PV} (h : ∀ a b, f (g a) (g b) = some (decide (a = b))) : ∀ (A B : List α), ∃ k, allEq f (A.map g) (B.map g) = some k ∧ (k && A.length == B.length) = decide (A = B)
  | [], [] => ⟨true, rfl, rfl⟩
  | [], b :: B => ⟨true, rfl, by simp [-cLenE, -ckey, -kindOk]⟩
  | a :: A, [] => ⟨true, rfl, by simp [-cLenE, -ckey, -kindOk]⟩
  | a :: A, b :: B => by
    obtain ⟨k, e, ih⟩ := allEq_map' h A B
    refine ⟨decide (a = b) && k, by simp only [List.map_cons, allEq, h, e], ?_⟩
    by_cases e1 : a = b <;> by_cases e2 : A = B <;> simp [-cLenE, -ckey, -kindOk, e1, e2] at ih ⊢ <;> first | exact ih | skip
theorem eq_strs (n : Nat) (A B : List Str) : pvEq (n + 2) (.lst (A.map .str)) (.lst (B.map .str)) = some (decide (A = B)) := by
  have h : ∀ a b : Str, pvEq (n + 1) (.str a) (.str b) = some (decide (a = b)) := fun a b => rfl
  unfold pvEq
  rw [List.length_map, List.length_map]
  by_cases hl : A.length = B.length
  · rw [if_pos hl, allEq_map h hl]
  · rw [if_neg hl, decide_eq_false (fun e => hl (by rw [e]))]
theorem eq_tups (n : Nat) (A B : List Str) : pvEq (n + 2) (.tup (A.map .str)) (.tup (B.map .str)) = some (decide (A = B)) := by
  have h : ∀ a b : Str, pvEq (n + 1) (.str a) (.str b) = some (decide (a = b)) := fun a b => rfl
  obtain ⟨k, e, e2⟩ := allEq_map' h A B
  unfold pvEq
  rw [e, Option.map_some, List.length_map, List.length_map, e2]
/-! ### the net object -/
def netO (ps : List Str) (T : List Tie) (NV DV : List (PV × PV)) : PV := .ins "Net" (netFs ps T NV DV)
theorem fs_places (ps : List Str) (T : List Tie) (NV DV : List (PV × PV)) : List.lookup ("own_places" : Str) (netFs ps T NV DV) = some (PV.tup (ps.map .str)) := rfl
theorem fs_ties (ps : List Str) (T : List Tie) (NV DV : List (PV × PV)) : List.lookup ("own_ties" : Str) (netFs ps T NV DV) = some (PV.dct (tp T)) := rfl
theorem fs_near (ps : List Str) (T : List Tie) (NV DV : List (PV × PV)) : List.lookup ("own_near" : Str) (netFs ps T NV DV) = some (PV.dct NV) := rfl
theorem fs_degrees (ps : List Str) (T : List Tie) (NV DV : List (PV × PV)) : List.lookup ("own_degrees" : Str) (netFs ps T NV DV) = some (PV.dct DV) := rfl
theorem look_net (S : Store) (ps : List Str) (T : List Tie) (NV DV : List (PV × PV)) : look S (netO ps T NV DV) = .ins "Net" (netFs ps T NV DV) := rfl
/-- the object of a right net -/
structure NetOk (ps : List Str) (T : List Tie) (NV DV : List (PV × PV)) : Prop where
  pl : PlOk ps
  ties : TiesOk ps T 60
  flat : noLoc (netO ps T NV DV) = true
theorem TiesOk.perm {ps : List Str} {T T' : List Tie} {b : Int} (h : TiesOk ps T b) (p : T'.Perm T) : TiesOk ps T' b := by
  refine ⟨(p.map _).nodup_iff.mpr h.nod, fun t ht => h.mem t (p.mem_iff.mp ht), ?_, by rw [p.length_eq]; exact h.len⟩
  have : ∀ {A B : List Tie}, A.Perm B → sumT A = sumT B := fun {A B} p => by
    induction p with
    | nil => rfl
    | cons x _ ih => simp only [sumT, List.map_cons, List.sum_cons] at ih ⊢; omega
    | swap x y l => simp only [sumT, List.map_cons, List.sum_cons]; omega
    | trans _ _ h1 h2 => exact h1.trans h2
  rw [this p]; exact h.sum
theorem made_spec {ps : List Str} {T : List Tie} {S : Store} (hS : FlatS S) (pl : PlOk ps) (t : TiesOk ps T 60) : ∃ T' NV DV, D__law_made [netV (ps.map .str) (.dct (tp T))] S = .ok (netO ps T' NV DV) S ∧ NetOk ps T' NV DV ∧ T'.Perm T ∧ sortP ((tp T).map (·.1)) = (tp T').map (·.1) := by
  obtain ⟨fs, e1, hf, T0, T', NV, DV, e0, pm, nd, so, rfl⟩ := init_spec hS (places_net pl) (fun w hw => Nat.le_trans (short_abc _ (pl.mem w hw)) (by decide)) (tv_net pl t) (ties_net pl t fun p hp => hp) (.inl rfl)
  have e0' : T = T0 := by
    have inj : ∀ A B : List Tie, tp A = tp B → A = B := fun A => by
      induction A with
      | nil => intro B h; cases B with
        | nil => rfl
        | cons b B => cases h
      | cons a A ih => intro B h; cases B with
        | nil => cases h
        | cons b B =>
          simp only [tp, ent, List.map_cons, List.cons.injEq, Prod.mk.injEq, PV.int.injEq, kp, PV.tup.injEq, PV.str.injEq] at h
          obtain ⟨⟨⟨h1, h2, _⟩, h3⟩, h4⟩ := h
          rw [ih B h4]
          exact congrArg (· :: B) (Prod.ext (Prod.ext h1 h2) h3)
    exact inj _ _ e0
  subst e0'
  rw [sortS_id pl.srt] at e1 hf
  refine ⟨T', NV, DV, ?_, ⟨pl, t.perm pm, hf⟩, pm, so⟩
  refine gc_same (F := callD 1 1 B__law_made) ?_ hf rfl hS
  have g1 := gcO_net hS hf e1
  have g2 := gcO_ins hS hf
  have tl : (PV.dct (tp T)) = .dct (tp T) := rfl
  have mg := merge_tp t.nod
  have pi := pairsP_items (tp T)
  have tk := tp_tkey T
  have h1 := netV_places (ps.map .str) (.dct (tp T))
  have h2 := netV_ties (ps.map .str) (.dct (tp T))
  have k1 := kind_net (.lst (ps.map .str)) (.dct (tp T)) "places"
  have k2 := kind_net (.lst (ps.map .str)) (.dct (tp T)) "ties"
  have ll := pl.hi
  have sl : ((ps.map PV.str).length ≤ sizeLine) = True := by have := big_line; simp [-cLenE, -ckey, -kindOk]; omega
  have ar : (dCons (dCB cTupleD (dCons (dBin pIxM (dV 0) (dK (.str "places"))) dNil)) (dCons (dCB cDictP (dCons (dItems (dBin pIxM (dV 0) (dK (.str "ties")))) dNil)) dNil)) [some (netV (ps.map .str) (.dct (tp T)))] S = .ok [.tup (ps.map .str), .dct (tp T)] S := by
    unfold netV
    simp [-cLenE, -ckey, -kindOk, h1, h2, k1, k2, pi, tk, mg, -List.map_map]
  have mk : dMake "Net" D_Net___init__ [] (dCons (dCB cTupleD (dCons (dBin pIxM (dV 0) (dK (.str "places"))) dNil)) (dCons (dCB cDictP (dCons (dItems (dBin pIxM (dV 0) (dK (.str "ties")))) dNil)) dNil)) [some (netV (ps.map .str) (.dct (tp T)))] S = .ok (netO ps T' NV DV) S := by
    unfold dMake
    rw [ar, then_ok]
    simp only [List.append_nil]
    rw [g1, then_ok]
    exact g2
  simp [-cLenE, -ckey, -kindOk, B__law_made, mk, -dMake]
end Lw

namespace Lw
open PySem PySem.Spec L2 Pv
variable [HW]
/-! lots -/
abbrev tS (L : List Str) : PV := .tup (L.map .str)
abbrev me (L : List Str) (a : Str) : Bool := decide (a ∈ L)
structure LotOk (ps L : List Str) : Prop where
  mem : ∀ a ∈ L, a ∈ ps
  srt : L.Pairwise fun a b => ltS a b = true
theorem ltS_irr (a : Str) : ltS a a = false := by
  unfold ltS
  exact decide_eq_false (List.lt_irrefl _)
theorem ltS_asym {a b : Str} (h : ltS a b = true) (g : ltS b a = true) : False := by
  unfold ltS at h g
  exact List.lt_irrefl _ (List.lt_trans (of_decide_eq_true h) (of_decide_eq_true g))
theorem srt_nodup {L : List Str} (h : L.Pairwise fun a b => ltS a b = true) : L.Nodup := h.imp fun {a b} h e => by
  subst e
  rw [ltS_irr] at h
  cases h
theorem srt_ext {A B : List Str} (ha : A.Pairwise fun a b => ltS a b = true) (hb : B.Pairwise fun a b => ltS a b = true) (h : ∀ x, x ∈ A ↔ x ∈ B) : A = B :=
  List.Perm.eq_of_pairwise (le := fun a b => ltS a b = true) (fun a b _ _ h g => (ltS_asym h g).elim) ha hb ((List.perm_ext_iff_of_nodup (srt_nodup ha) (srt_nodup hb)).mpr h)
theorem LotOk.filter {ps : List Str} (h : ps.Pairwise fun a b => ltS a b = true) (f : Str → Bool) : LotOk ps (ps.filter f) := ⟨fun a ha => (List.mem_filter.mp ha).1, h.sublist List.filter_sublist⟩
theorem LotOk.eq {ps L : List Str} (h : ps.Pairwise fun a b => ltS a b = true) (l : LotOk ps L) : L = ps.filter (me L) :=
  srt_ext l.srt (LotOk.filter h _).srt fun x => by simp [-cLenE, -ckey, -kindOk]; exact l.mem x
theorem LotOk.len {ps L : List Str} (l : LotOk ps L) : L.length ≤ ps.length := List.Nodup.length_le_of_subset (srt_nodup l.srt) l.mem
theorem dEq_strs (S : Store) (A B : List Str) : dEq S (.lst (A.map .str)) (.lst (B.map .str)) = some (decide (A = B)) := eq_strs 58 A B
theorem dEq_tups (S : Store) (A B : List Str) : dEq S (tS A) (tS B) = some (decide (A = B)) := eq_tups 58 A B
theorem contains_str {S : Store} (hS : FlatS S) (ps : List Str) (T : List Tie) (NV DV : List (PV × PV)) (a : Str) : D_Net___contains__ [netO ps T NV DV, .str a] S = .ok (.bl (me ps a)) S := by
  refine gc_same (F := callD 2 2 B_Net___contains__) ?_ rfl rfl hS
  have h := in_places (S := S) ps a
  simp [-cLenE, -ckey, -kindOk, -pInD, B_Net___contains__, netO, fs_places, h, k_ss]
theorem sorted_set {L : List Str} (h : L.Pairwise fun a b => ltS a b = true) : sortP ((distinct L).map .str) = L.map .str := by
  rw [nodup_distinct (srt_nodup h), sortP_str, sortS_id h]
theorem is_lot_spec {S : Store} (hS : FlatS S) {ps L : List Str} (T : List Tie) (NV DV : List (PV × PV)) (l : LotOk ps L) (hl : L.length ≤ 1000) : D_is_lot_in [netO ps T NV DV, tS L] S = .ok (.bl true) S := by
  refine gc_same (F := callD 3 2 B_is_lot_in) ?_ rfl rfl hS
  have e := comp_all (b := bN 2) (elt := dBinM (pInM "Net" D_Net___contains__) (dV 2) (dV 0)) (ρ := [some (netO ps T NV DV), some (tS L), none]) (S := S) PV.str (fun a => .bl (me ps a)) L (by omega) fun a ha => ⟨_, rfl, by
    have h := contains_str hS ps T NV DV a
    have lk := look_net S ps T NV DV
    simp [-cLenE, -ckey, -kindOk, lk, h]⟩
  have b := bls_of (me ps) L
  have al : (L.map (me ps)).all _root_.id = true := by
    rw [List.all_map]
    exact List.all_eq_true.mpr fun a ha => decide_eq_true (l.mem a ha)
  have s1 := txts_str L
  have s2 := sorted_set l.srt
  have s3 := nodup_distinct (srt_nodup l.srt)
  rw [s3] at s2
  have s4 := sortOk_str L
  have sc : (L.length + 1 < scanBound) = True := by have := scan_big; simp [-cLenE, -ckey, -kindOk]; have : (1002 : Nat) < scanBound := by decide
                                                    omega
  have sc2 : (L.length < scanBound) = True := by have := scan_big; simp [-cLenE, -ckey, -kindOk]; have : (1002 : Nat) < scanBound := by decide
                                                 omega
  have pe : pEq S (.lst (L.map .str)) (.lst (L.map .str)) = some (.bl true) := by
    show (dEq S _ _).map PV.bl = _
    rw [dEq_strs, decide_eq_true rfl]; rfl
  simp [-cLenE, -ckey, -kindOk, -dBinM, -pEq, B_is_lot_in, tS, wipeR, k_tt, e, b, al, s1, s2, s3, s4, sc, sc2, itemsOf, pe, -List.map_map, -List.all_map]
theorem require_lot_spec {S : Store} (hS : FlatS S) {ps L : List Str} (T : List Tie) (NV DV : List (PV × PV)) (l : LotOk ps L) (hl : L.length ≤ 1000) : D_require_lot [netO ps T NV DV, tS L] S = .ok .non S := by
  refine gc_same (F := callD 2 2 B_require_lot) ?_ rfl rfl hS
  have h := is_lot_spec hS T NV DV l hl
  simp [-cLenE, -ckey, -kindOk, B_require_lot, h]
theorem require_net_spec {S : Store} (hS : FlatS S) {ps : List Str} (T : List Tie) (NV DV : List (PV × PV)) : D_require_net [netO ps T NV DV] S = .ok .non S := by
  refine gc_same (F := callD 1 1 B_require_net) ?_ rfl rfl hS
  have lk := look_net S ps T NV DV
  simp [-cLenE, -ckey, -kindOk, B_require_net, lk]
/-! ### cuts -/
def cutP (T : List Tie) (f : Str → Bool) : Int := ((T.filter fun t => f t.1.1 != f t.1.2).map (·.2)).sum
def betP (T : List Tie) (f g : Str → Bool) : Int := ((T.filter fun t => f t.1.1 && g t.1.2 || g t.1.1 && f t.1.2).map (·.2)).sum
theorem intsP_map {α : Type} (f : α → Int) : ∀ xs : List α, intsP (xs.map fun a => PV.int (f a)) = some (xs.map f)
  | [] => rfl
  | x :: xs => by simp only [List.map_cons, intsP, intsP_map f xs, Option.map_some]
theorem pairs_tp (T : List Tie) : ((tp T).map fun p => PV.tup [p.1, p.2]) = T.map fun t => .tup [kp t.1, .int t.2] := by simp [-cLenE, -ckey, -kindOk, ent]
theorem cut_in_spec {S : Store} (hS : FlatS S) (ps L : List Str) (T : List Tie) (NV DV : List (PV × PV)) (hT : T.length ≤ 1000) : D_cut_in [netO ps T NV DV, tS L] S = .ok (.int (cutP T (me L))) S := by
  refine gc_same (F := callD 5 2 B_cut_in) ?_ rfl rfl hS
  have lk := look_net S ps T NV DV
  have e := comp_of (b := bSeq 2 (bsCons (bSeq 2 (bsCons (bN 2) (bsCons (bN 3) bsNil))) (bsCons (bN 4) bsNil))) (test := dB (dBin pNe (dBin pInD (dV 2) (dV 1)) (dBin pInD (dV 3) (dV 1)))) (elt := dV 4) (ρ := [some (netO ps T NV DV), some (tS L), none, none, none]) (S := S)
    (fun t : Tie => .tup [kp t.1, .int t.2]) (fun t => me L t.1.1 != me L t.1.2) (fun t => .int t.2) T 0 (by omega) fun t ht => ⟨_, rfl, by
      have h1 := in_places (S := S) L t.1.1
      have h2 := in_places (S := S) L t.1.2
      have pe : ∀ a b : Bool, dEq S (.bl a) (.bl b) = some (a == b) := fun a b => rfl
      simp [-cLenE, -ckey, -kindOk, -pInD, tS, h1, h2, pe, bne], fun _ => rfl⟩
  have i := intsP_map (fun t : Tie => t.2) (T.filter fun t => me L t.1.1 != me L t.1.2)
  have p := pairs_tp T
  simp [-cLenE, -ckey, -kindOk, -dBin, -bSeq, B_cut_in, lk, fs_ties, wipeR, p, e, i, -List.map_map]
  rfl
theorem cut_spec {S : Store} (hS : FlatS S) {ps L : List Str} {T : List Tie} (NV DV : List (PV × PV)) (l : LotOk ps L) (hl : L.length ≤ 1000) (hT : T.length ≤ 1000) : D_Net_cut [netO ps T NV DV, tS L] S = .ok (.int (cutP T (me L))) S := by
  refine gc_same (F := callD 2 2 B_Net_cut) ?_ rfl rfl hS
  have h1 := require_lot_spec hS T NV DV l hl
  have h2 := cut_in_spec hS ps L T NV DV hT
  simp [-cLenE, -ckey, -kindOk, B_Net_cut, h1, h2]
theorem law_cut_spec {S : Store} (hS : FlatS S) (ps L : List Str) {T : List Tie} (nd : NodT T) (hT : T.length ≤ 1000) : D__law_cut [netV (ps.map .str) (.dct (tp T)), tS L] S = .ok (.int (cutP T (me L))) S := by
  refine gc_same (F := callD 3 2 B__law_cut) ?_ rfl rfl hS
  have h2 := netV_ties (ps.map .str) (.dct (tp T))
  have k2 := kind_net (.lst (ps.map .str)) (.dct (tp T)) "ties"
  have e := comp_of (b := bN 2) (test := dB (dBin pNe (dBin pInD (dBin pIxM (dV 2) (dK (.int 0))) (dV 1)) (dBin pInD (dBin pIxM (dV 2) (dK (.int 1))) (dV 1)))) (elt := dBin pIxM (dBin pIxM (dV 0) (dK (.str "ties"))) (dV 2)) (ρ := [some (netV (ps.map .str) (.dct (tp T))), some (tS L), none]) (S := S)
    (fun t : Tie => kp t.1) (fun t => me L t.1.1 != me L t.1.2) (fun t => .int t.2) T 0 (by omega) fun t ht => ⟨_, rfl, by
      have h1 := in_places (S := S) L t.1.1
      have h2 := in_places (S := S) L t.1.2
      have pe : ∀ a b : Bool, dEq S (.bl a) (.bl b) = some (a == b) := fun a b => rfl
      have x0 : pIxM S (kp t.1) (.int 0) = some (.str t.1.1) := rfl
      have x1 : pIxM S (kp t.1) (.int 1) = some (.str t.1.2) := rfl
      simp [-cLenE, -ckey, -kindOk, -pInD, -pIxM, tS, h1, h2, pe, x0, x1, bne], fun _ => by
      have kt := kind_tp T t.1
      have v := valP_tp T t.1
      rw [getT_of nd (show (t.1, t.2) ∈ T from ht)] at v
      unfold netV
      simp [-cLenE, -ckey, -kindOk, h2, k2, kt, v]⟩
  have i := intsP_map (fun t : Tie => t.2) (T.filter fun t => me L t.1.1 != me L t.1.2)
  have p : (tp T).map (·.1) = T.map fun t => kp t.1 := by simp [-cLenE, -ckey, -kindOk, ent]
  unfold netV at *
  simp [-cLenE, -ckey, -kindOk, B__law_cut, h2, k2, wipeR, p, e, i, -List.map_map]
  rfl
end Lw

namespace Lw
open PySem PySem.Spec L2 Pv
variable [HW]
/-! corners, ties between lots -/
theorem opposite_in_spec {S : Store} (hS : FlatS S) {ps L : List Str} (T : List Tie) (NV DV : List (PV × PV)) (hp : ps.length ≤ 1000) : D_opposite_in [netO ps T NV DV, tS L] S = .ok (tS (ps.filter fun a => !me L a)) S := by
  refine gc_same (F := callD 3 2 B_opposite_in) ?_ (by simp [-cLenE, -ckey, -kindOk, strs_noLoc]) rfl hS
  have lk := look_net S ps T NV DV
  have e := comp_of (b := bN 2) (test := dB (dBin pNotInD (dV 2) (dV 1))) (elt := dV 2) (ρ := [some (netO ps T NV DV), some (tS L), none]) (S := S) PV.str (fun a => !me L a) PV.str ps 0 (by omega) fun a ha => ⟨_, rfl, by
      have h1 := notIn_places (S := S) L a
      simp [-cLenE, -ckey, -kindOk, -pNotInD, tS, h1], fun _ => rfl⟩
  simp [-cLenE, -ckey, -kindOk, B_opposite_in, lk, fs_places, wipeR, e, -List.map_map]
def crn (ps A B : List Str) (x y : Bool) : List Str := ps.filter fun a => me A a == x && me B a == y
def ckind (x y : Bool) : PV := .tup [.bl x, .bl y]
theorem bools_eq (S : Store) (a b x y : Bool) : dEq S (.tup [.bl a, .bl b]) (.tup [.bl x, .bl y]) = some (a == x && b == y) := by
  cases a <;> cases b <;> cases x <;> cases y <;> rfl
theorem corners_in_spec {S : Store} (hS : FlatS S) {ps A B : List Str} (T : List Tie) (NV DV : List (PV × PV)) (hp : ps.length ≤ 1000) :
    D_corners_in [netO ps T NV DV, tS A, tS B] S = .ok (.tup [tS (crn ps A B true true), tS (crn ps A B true false), tS (crn ps A B false true), tS (crn ps A B false false)]) S := by
  refine gc_same (F := callD 9 3 B_corners_in) ?_ (by simp [-cLenE, -ckey, -kindOk, strs_noLoc]) rfl hS
  have hL := big_line
  have lk := look_net S ps T NV DV
  have e1 := comp_all (b := bN 4) (elt := dTup (dCons (dV 4) (dCons (dBin pInD (dV 4) (dV 1)) (dCons (dBin pInD (dV 4) (dV 2)) dNil)))) (ρ := [some (netO ps T NV DV), some (tS A), some (tS B), none, none, none, none, none, none]) (S := S) PV.str (fun a => .tup [.str a, .bl (me A a), .bl (me B a)]) ps (by omega) fun a ha => ⟨_, rfl, by
      have h1 := in_places (S := S) A a
      have h2 := in_places (S := S) B a
      have h3 : ((3 : Nat) ≤ sizeLine) = True := by simp [-cLenE, -ckey, -kindOk]
      simp [-cLenE, -ckey, -kindOk, -pInD, tS, h1, h2, h3]⟩
  have inner : ∀ x y : Bool, (dCB cTupleD (dCons (dLc (iAD (dV 3)) [4, 6, 7] (bSeq 3 (bsCons (bN 4) (bsCons (bN 6) (bsCons (bN 7) bsNil)))) (dB (dBin pEq (dTup (dCons (dV 6) (dCons (dV 7) dNil))) (dV 8))) (dV 4)) dNil))
      [some (netO ps T NV DV), some (tS A), some (tS B), some (.lst (ps.map fun a => .tup [.str a, .bl (me A a), .bl (me B a)])), none, some (.tup [ckind true true, ckind true false, ckind false true, ckind false false]), none, none, some (ckind x y)] S = .ok (tS (crn ps A B x y)) S := fun x y => by
    have e2 := comp_of (b := bSeq 3 (bsCons (bN 4) (bsCons (bN 6) (bsCons (bN 7) bsNil)))) (test := dB (dBin pEq (dTup (dCons (dV 6) (dCons (dV 7) dNil))) (dV 8))) (elt := dV 4) (ρ := [some (netO ps T NV DV), some (tS A), some (tS B), some (.lst (ps.map fun a => .tup [.str a, .bl (me A a), .bl (me B a)])), none, some (.tup [ckind true true, ckind true false, ckind false true, ckind false false]), none, none, some (ckind x y)]) (S := S)
      (fun a => .tup [.str a, .bl (me A a), .bl (me B a)]) (fun a => me A a == x && me B a == y) PV.str ps 0 (by omega) fun a ha => ⟨_, rfl, by
        have h2 : ((2 : Nat) ≤ sizeLine) = True := by simp [-cLenE, -ckey, -kindOk]
        have q := bools_eq S (me A a) (me B a) x y
        have q' : pEq S (.tup [.bl (me A a), .bl (me B a)]) (.tup [.bl x, .bl y]) = some (.bl (me A a == x && me B a == y)) := by
          show (dEq S _ _).map PV.bl = _
          rw [q]; rfl
        simp [-cLenE, -ckey, -kindOk, -pEq, h2, ckind, q'], fun _ => rfl⟩
    simp [-cLenE, -ckey, -kindOk, -dBin, -bSeq, wipeR, e2, -List.map_map]
    rfl
  have e3 := comp_all (b := bN 8) (elt := (dCB cTupleD (dCons (dLc (iAD (dV 3)) [4, 6, 7] (bSeq 3 (bsCons (bN 4) (bsCons (bN 6) (bsCons (bN 7) bsNil)))) (dB (dBin pEq (dTup (dCons (dV 6) (dCons (dV 7) dNil))) (dV 8))) (dV 4)) dNil)))
    (ρ := [some (netO ps T NV DV), some (tS A), some (tS B), some (.lst (ps.map fun a => .tup [.str a, .bl (me A a), .bl (me B a)])), none, some (.tup [ckind true true, ckind true false, ckind false true, ckind false false]), none, none, none]) (S := S) (fun k : Bool × Bool => ckind k.1 k.2) (fun k => tS (crn ps A B k.1 k.2)) [(true, true), (true, false), (false, true), (false, false)] (by simp) fun k hk => ⟨_, rfl, inner k.1 k.2⟩
  have h2 : ((2 : Nat) ≤ sizeLine) = True := by simp [-cLenE, -ckey, -kindOk]
  have h4 : ((4 : Nat) ≤ sizeLine) = True := by simp [-cLenE, -ckey, -kindOk]
  simp only [List.map_cons, List.map_nil, ckind] at e3
  simp [-cLenE, -ckey, -kindOk, -dCB, -dTup, B_corners_in, lk, fs_places, wipeR, e1, -List.map_map]
  simp [-cLenE, -ckey, -kindOk, h2, h4, -dLc]
  simp only [dLc, iAD, dV]
  simp [-cLenE, -ckey, -kindOk, -dCB, -dLc, wipeR, -List.map_map]
  rw [e3]
  rfl
end Lw

namespace Lw
open PySem PySem.Spec L2 Pv
variable [HW]
theorem betP_cons (t : Tie) (T : List Tie) (f g : Str → Bool) : betP (t :: T) f g = (if (f t.1.1 && g t.1.2 || g t.1.1 && f t.1.2) = true then t.2 else 0) + betP T f g := by
  unfold betP
  rw [List.filter_cons]
  split <;> simp [-cLenE, -ckey, -kindOk]
theorem cutP_cons (t : Tie) (T : List Tie) (f : Str → Bool) : cutP (t :: T) f = (if (f t.1.1 != f t.1.2) = true then t.2 else 0) + cutP T f := by
  unfold cutP
  rw [List.filter_cons]
  split <;> simp [-cLenE, -ckey, -kindOk]
abbrev betB : SDen := (sIf (dOrT (dAndT (dB (dBin pInD (dBin pIxM (dV 4) (dK (.int 0))) (dV 1))) (dB (dBin pInD (dBin pIxM (dV 4) (dK (.int 1))) (dV 2)))) (dAndT (dB (dBin pInD (dBin pIxM (dV 4) (dK (.int 0))) (dV 2))) (dB (dBin pInD (dBin pIxM (dV 4) (dK (.int 1))) (dV 1))))) (sAugI (fun i j => i + j) 3 (dV 5)) sNil)
theorem bet_loop {S : Store} (n : PV) (A B : List Str) : ∀ (T : List Tie) (i : Int) (r4 r5 : Option PV), ∃ r4' r5', forD (bSeq 2 (bsCons (bN 4) (bsCons (bN 5) bsNil))) betB (T.map fun t => .tup [kp t.1, .int t.2]) [some n, some (tS A), some (tS B), some (.int i), r4, r5] S = .nx [some n, some (tS A), some (tS B), some (.int (i + betP T (me A) (me B))), r4', r5'] S
  | [], i, r4, r5 => ⟨r4, r5, by simp [-cLenE, -ckey, -kindOk, forD, betP]⟩
  | t :: T, i, r4, r5 => by
    have a1 := in_places (S := S) A t.1.1
    have a2 := in_places (S := S) A t.1.2
    have b1 := in_places (S := S) B t.1.1
    have b2 := in_places (S := S) B t.1.2
    have x0 : pIxM S (kp t.1) (.int 0) = some (.str t.1.1) := rfl
    have x1 : pIxM S (kp t.1) (.int 1) = some (.str t.1.2) := rfl
    have bd : (bSeq 2 (bsCons (bN 4) (bsCons (bN 5) bsNil))) (.tup [kp t.1, .int t.2]) [some n, some (tS A), some (tS B), some (.int i), r4, r5] = some [some n, some (tS A), some (tS B), some (.int i), some (kp t.1), some (.int t.2)] := rfl
    have body : betB [some n, some (tS A), some (tS B), some (.int i), some (kp t.1), some (.int t.2)] S = .nx [some n, some (tS A), some (tS B), some (.int (i + if (me A t.1.1 && me B t.1.2 || me B t.1.1 && me A t.1.2) = true then t.2 else 0)), some (kp t.1), some (.int t.2)] S := by
      by_cases h1 : t.1.1 ∈ A <;> by_cases h2 : t.1.2 ∈ A <;> by_cases h3 : t.1.1 ∈ B <;> by_cases h4 : t.1.2 ∈ B <;>
        simp [-cLenE, -ckey, -kindOk, -pInD, -pIxM, betB, tS, me, a1, a2, b1, b2, x0, x1, h1, h2, h3, h4]
    obtain ⟨r4', r5', e⟩ := bet_loop n A B T (i + if (me A t.1.1 && me B t.1.2 || me B t.1.1 && me A t.1.2) = true then t.2 else 0) (some (kp t.1)) (some (.int t.2))
    refine ⟨r4', r5', ?_⟩
    rw [List.map_cons]
    unfold forD
    rw [bd]
    simp only [body]
    rw [e, betP_cons, Int.add_assoc]
theorem between_in_spec {S : Store} (hS : FlatS S) (ps A B : List Str) (T : List Tie) (NV DV : List (PV × PV)) : D_between_in [netO ps T NV DV, tS A, tS B] S = .ok (.int (betP T (me A) (me B))) S := by
  refine gc_same (F := callD 6 3 B_between_in) ?_ rfl rfl hS
  have lk := look_net S ps T NV DV
  obtain ⟨r4, r5, e⟩ := bet_loop (S := S) (netO ps T NV DV) A B T 0 none none
  have p := pairs_tp T
  rw [Int.zero_add] at e
  simp [-cLenE, -ckey, -kindOk, -bSeq, B_between_in, lk, fs_ties, p, -List.map_map]
  rw [show (sIf (dOrT (dAndT (dB (dBin pInD (dBin pIxM (dV 4) (dK (.int 0))) (dV 1))) (dB (dBin pInD (dBin pIxM (dV 4) (dK (.int 1))) (dV 2)))) (dAndT (dB (dBin pInD (dBin pIxM (dV 4) (dK (.int 0))) (dV 2))) (dB (dBin pInD (dBin pIxM (dV 4) (dK (.int 1))) (dV 1))))) (sAugI (fun i j => i + j) 3 (dV 5)) sNil) = betB from rfl, e]
  rfl
theorem opposite_spec {S : Store} (hS : FlatS S) {ps L : List Str} {T : List Tie} (NV DV : List (PV × PV)) (l : LotOk ps L) (hp : ps.length ≤ 1000) : D_opposite [netO ps T NV DV, tS L] S = .ok (tS (ps.filter fun a => !me L a)) S := by
  refine gc_same (F := callD 2 2 B_opposite) ?_ (by simp [-cLenE, -ckey, -kindOk, strs_noLoc]) rfl hS
  have h0 := require_net_spec hS (ps := ps) T NV DV
  have h1 := require_lot_spec hS T NV DV l (Nat.le_trans l.len hp)
  have h2 := opposite_in_spec hS (ps := ps) (L := L) T NV DV hp
  simp [-cLenE, -ckey, -kindOk, B_opposite, h0, h1, h2]
theorem two_lots_spec {S : Store} (hS : FlatS S) {ps A B : List Str} (T : List Tie) (NV DV : List (PV × PV)) (a : LotOk ps A) (b : LotOk ps B) (hp : ps.length ≤ 1000) : D_require_two_lots [netO ps T NV DV, tS A, tS B] S = .ok .non S := by
  refine gc_same (F := callD 3 3 B_require_two_lots) ?_ rfl rfl hS
  have h0 := require_net_spec hS (ps := ps) T NV DV
  have h1 := require_lot_spec hS T NV DV a (Nat.le_trans a.len hp)
  have h2 := require_lot_spec hS T NV DV b (Nat.le_trans b.len hp)
  simp [-cLenE, -ckey, -kindOk, B_require_two_lots, h0, h1, h2]
theorem corners_spec {S : Store} (hS : FlatS S) {ps A B : List Str} (T : List Tie) (NV DV : List (PV × PV)) (a : LotOk ps A) (b : LotOk ps B) (hp : ps.length ≤ 1000) :
    D_corners [netO ps T NV DV, tS A, tS B] S = .ok (.tup [tS (crn ps A B true true), tS (crn ps A B true false), tS (crn ps A B false true), tS (crn ps A B false false)]) S := by
  refine gc_same (F := callD 3 3 B_corners) ?_ (by simp [-cLenE, -ckey, -kindOk, strs_noLoc]) rfl hS
  have h0 := two_lots_spec hS T NV DV a b hp
  have h1 := corners_in_spec hS (A := A) (B := B) T NV DV hp
  simp [-cLenE, -ckey, -kindOk, B_corners, h0, h1]
theorem between_spec {S : Store} (hS : FlatS S) {ps A B : List Str} {T : List Tie} (NV DV : List (PV × PV)) (a : LotOk ps A) (b : LotOk ps B) (hp : ps.length ≤ 1000) (dj : ∀ x ∈ A, x ∉ B) : D_between [netO ps T NV DV, tS A, tS B] S = .ok (.int (betP T (me A) (me B))) S := by
  refine gc_same (F := callD 4 3 B_between) ?_ rfl rfl hS
  have h0 := two_lots_spec hS T NV DV a b hp
  have h1 := between_in_spec hS ps A B T NV DV
  have e := comp_all (b := bN 3) (elt := dBin pInD (dV 3) (dV 2)) (ρ := [some (netO ps T NV DV), some (tS A), some (tS B), none]) (S := S) PV.str (fun a => .bl (me B a)) A (by have := a.len; omega) fun x hx => ⟨_, rfl, by
    have h := in_places (S := S) B x
    simp [-cLenE, -ckey, -kindOk, -pInD, tS, h]⟩
  have bl := bls_of (me B) A
  have an : (A.map (me B)).any _root_.id = false := by
    rw [List.any_map, List.any_eq_false]
    intro x hx
    simp [-cLenE, -ckey, -kindOk, me, dj x hx]
  simp [-cLenE, -ckey, -kindOk, B_between, h0, h1, wipeR, e, bl, an, -List.map_map, -List.any_map, -dBin]
theorem crn_mem {ps A B : List Str} {x y : Bool} {a : Str} (h : a ∈ ps) : me (crn ps A B x y) a = (me A a == x && me B a == y) := by
  unfold crn me
  rw [Bool.eq_iff_iff, decide_eq_true_iff, List.mem_filter]
  exact ⟨fun z => z.2, fun z => ⟨h, z⟩⟩
theorem excesses_spec {S : Store} (hS : FlatS S) {ps A B : List Str} {T : List Tie} (NV DV : List (PV × PV)) (a : LotOk ps A) (b : LotOk ps B) (hp : ps.length ≤ 1000) :
    D_excesses [netO ps T NV DV, tS A, tS B] S = .ok (.tup [.int (2 * betP T (me (crn ps A B true false)) (me (crn ps A B false true))), .int (2 * betP T (me (crn ps A B true true)) (me (crn ps A B false false)))]) S := by
  refine gc_same (F := callD 7 3 B_excesses) ?_ rfl rfl hS
  have h0 := two_lots_spec hS T NV DV a b hp
  have h1 := corners_in_spec hS (A := A) (B := B) T NV DV hp
  have h2 := between_in_spec hS ps (crn ps A B true false) (crn ps A B false true) T NV DV
  have h3 := between_in_spec hS ps (crn ps A B true true) (crn ps A B false false) T NV DV
  have hs : ((2 : Nat) ≤ sizeLine) = True := by simp [-cLenE, -ckey, -kindOk]
  simp [-cLenE, -ckey, -kindOk, B_excesses, h0, h1, h2, h3, hs]
/-! ### the law of two cuts -/
/-- f and g are alike on the places -/
def On (ps : List Str) (f g : Str → Bool) : Prop := ∀ a ∈ ps, f a = g a
theorem cutP_on {ps : List Str} {f g : Str → Bool} (h : On ps f g) : ∀ {T : List Tie}, (∀ t ∈ T, t.1.1 ∈ ps ∧ t.1.2 ∈ ps) → cutP T f = cutP T g
  | [], _ => rfl
  | t :: T, hm => by
    have h1 := hm t List.mem_cons_self
    rw [cutP_cons, cutP_cons, cutP_on h fun u hu => hm u (List.mem_cons_of_mem _ hu), h _ h1.1, h _ h1.2]
theorem betP_on {ps : List Str} {f g f' g' : Str → Bool} (h : On ps f f') (k : On ps g g') : ∀ {T : List Tie}, (∀ t ∈ T, t.1.1 ∈ ps ∧ t.1.2 ∈ ps) → betP T f g = betP T f' g'
  | [], _ => rfl
  | t :: T, hm => by
    have h1 := hm t List.mem_cons_self
    rw [betP_cons, betP_cons, betP_on h k fun u hu => hm u (List.mem_cons_of_mem _ hu), h _ h1.1, h _ h1.2, k _ h1.1, k _ h1.2]
theorem cut_join (f g : Str → Bool) : ∀ T : List Tie, cutP T f + cutP T g = cutP T (fun a => f a && g a) + cutP T (fun a => f a || g a) + 2 * betP T (fun a => f a && !g a) (fun a => !f a && g a)
  | [] => rfl
  | t :: T => by
    have ih := cut_join f g T
    simp only [cutP_cons, betP_cons]
    cases f t.1.1 <;> cases f t.1.2 <;> cases g t.1.1 <;> cases g t.1.2 <;> simp [-cLenE, -ckey, -kindOk] <;> omega
theorem cut_part (f g : Str → Bool) : ∀ T : List Tie, cutP T f + cutP T g = cutP T (fun a => f a && !g a) + cutP T (fun a => !f a && g a) + 2 * betP T (fun a => f a && g a) (fun a => !f a && !g a)
  | [] => rfl
  | t :: T => by
    have ih := cut_part f g T
    simp only [cutP_cons, betP_cons]
    cases f t.1.1 <;> cases f t.1.2 <;> cases g t.1.1 <;> cases g t.1.2 <;> simp [-cLenE, -ckey, -kindOk] <;> omega
theorem cut_opp (f : Str → Bool) : ∀ T : List Tie, cutP T (fun a => !f a) = cutP T f
  | [] => rfl
  | t :: T => by
    have ih := cut_opp f T
    simp only [cutP_cons, ih]
    cases f t.1.1 <;> cases f t.1.2 <;> simp [-cLenE, -ckey, -kindOk]
theorem cut_two (f g : Str → Bool) (h : ∀ a, f a = true → g a = false) : ∀ T : List Tie, cutP T f + cutP T g = cutP T (fun a => f a || g a) + 2 * betP T f g
  | [] => rfl
  | t :: T => by
    have ih := cut_two f g h T
    have h1 := h t.1.1
    have h2 := h t.1.2
    simp only [cutP_cons, betP_cons]
    revert h1 h2
    cases f t.1.1 <;> cases f t.1.2 <;> cases g t.1.1 <;> cases g t.1.2 <;> simp [-cLenE, -ckey, -kindOk] <;> omega
theorem bet_nonneg (f g : Str → Bool) : ∀ T : List Tie, (∀ t ∈ T, 1 ≤ t.2) → 0 ≤ betP T f g
  | [], _ => Int.le_refl _
  | t :: T, h => by
    have ih := bet_nonneg f g T fun u hu => h u (List.mem_cons_of_mem _ hu)
    have h1 := h t List.mem_cons_self
    rw [betP_cons]
    split <;> omega
theorem bet_symm (f g : Str → Bool) : ∀ T : List Tie, betP T f g = betP T g f
  | [] => rfl
  | t :: T => by
    rw [betP_cons, betP_cons, bet_symm f g T, Bool.or_comm]
theorem cut_perm (f : Str → Bool) {A B : List Tie} (p : A.Perm B) : cutP A f = cutP B f := by
  induction p with
  | nil => rfl
  | cons x _ ih => rw [cutP_cons, cutP_cons, ih]
  | swap x y l => simp only [cutP_cons]; omega
  | trans _ _ h1 h2 => exact h1.trans h2
end Lw

namespace Lw
open PySem PySem.Spec L2 Pv
variable [HW]
/-! sets of texts, drawn lots -/
theorem dist_fold : ∀ (l acc : List Str), acc.Nodup → (l.foldl addS acc).Nodup ∧ ∀ x, x ∈ l.foldl addS acc ↔ x ∈ acc ∨ x ∈ l
  | [], acc, h => ⟨h, fun x => by simp [-cLenE, -ckey, -kindOk]⟩
  | y :: l, acc, h => by
    have hd : (addS acc y).Nodup := by
      unfold addS
      split
      · exact h
      · rename_i hn
        exact List.nodup_append.mpr ⟨h, by simp, fun a ha b hb => by
          simp at hb
          subst hb
          rintro rfl
          exact hn ha⟩
    obtain ⟨i1, i2⟩ := dist_fold l (addS acc y) hd
    refine ⟨i1, fun x => ?_⟩
    rw [List.foldl_cons, i2]
    unfold addS
    split
    · rename_i hy
      constructor
      · rintro (h | h)
        · exact .inl h
        · exact .inr (List.mem_cons_of_mem _ h)
      · rintro (h | h)
        · exact .inl h
        · rcases List.mem_cons.mp h with rfl | h
          · exact .inl hy
          · exact .inr h
    · simp [-cLenE, -ckey, -kindOk, or_assoc]
theorem distinct_nd (l : List Str) : (distinct l).Nodup := (dist_fold l [] List.nodup_nil).1
theorem distinct_mem (l : List Str) (x : Str) : x ∈ distinct l ↔ x ∈ l := by
  have := (dist_fold l [] List.nodup_nil).2 x
  unfold distinct
  rw [this]
  exact ⟨fun h => h.elim (fun z => nomatch z) id, .inr⟩
theorem distinct_len (l : List Str) : (distinct l).length ≤ l.length := List.Nodup.length_le_of_subset (distinct_nd l) fun x hx => (distinct_mem l x).mp hx
theorem sortS_mem (l : List Str) (x : Str) : x ∈ sortS l ↔ x ∈ l := (List.mergeSort_perm l leS).mem_iff
theorem set_lot {ps L : List Str} (h : ∀ a ∈ L, a ∈ ps) : LotOk ps (sortS (distinct L)) := ⟨fun a ha => h a ((distinct_mem L a).mp ((sortS_mem _ a).mp ha)), sortS_lt (distinct_nd L)⟩
theorem me_set (L : List Str) (a : Str) : me (sortS (distinct L)) a = me L a := by
  unfold me
  rw [Bool.eq_iff_iff, decide_eq_true_iff, decide_eq_true_iff, sortS_mem, distinct_mem]
/-- sorted(set(..)) of texts -/
theorem sorted_set_of (S : Store) (L : List Str) (h : L.length ≤ 1000) : ∃ s, cSet S [tS L] = some s ∧ cSortedE S [s] = some (.lst ((sortS (distinct L)).map .str)) := by
  have sc : L.length + 1 < scanBound := by have : (1002 : Nat) < scanBound := by decide
                                           omega
  have hd := distinct_len L
  have s1 := txts_str L
  refine ⟨.set ((distinct L).map .str), by simp [-cLenE, -ckey, -kindOk, s1, sc], ?_⟩
  have s4 := sortOk_str (distinct L)
  have sc2 : ((distinct L).length < scanBound) = True := by simp [-cLenE, -ckey, -kindOk]; omega
  have := sortP_str (distinct L)
  simp [-cLenE, -ckey, -kindOk, itemsOf, s4, sc2, this]
theorem sorted_strs (S : Store) (L : List Str) (h : L.length ≤ 1000) : cSortedE S [tS L] = some (.lst ((sortS L).map .str)) := by
  have sc : (L.length < scanBound) = True := by have : (1002 : Nat) < scanBound := by decide
                                                simp [-cLenE, -ckey, -kindOk]; omega
  have s4 := sortOk_str L
  have := sortP_str L
  simp [-cLenE, -ckey, -kindOk, itemsOf, s4, sc, this]
theorem sub_take {α : Type} {xs : List α} {i : Nat} {a : α} (h : xs[i]? = some a) : xs.take (i + 1) = xs.take i ++ [a] := by
  rw [List.take_succ, h]; rfl
theorem law_lot_spec {S : Store} {n : Nat} (d : Ok S n) {ps : List Str} {tv : PV} (pl : PlOk ps) : ∃ L S', D__law_lot [.loc n, netV (ps.map .str) tv] S = .ok (tS L) S' ∧ LotOk ps L ∧ Roll n S S' := by
  have hL := big_line
  have b2 : (2 : Int) < 2 ^ 1000 := by decide +kernel
  obtain ⟨ys, S', e, r, L, rfl, sub⟩ := compD_inv (b := bN 2) (test := dB (dBin pEq (dFn D__law_roll [] (dCons (dV 0) (dCons (dK (.int 2)) dNil))) (dK (.int 0)))) (elt := dV 2) (ρ := [some (.loc n), some (netV (ps.map .str) tv), none])
    (fun i acc S' => Roll n S S' ∧ ∃ L, acc = L.map PV.str ∧ L.Sublist (ps.take i)) (ps.map .str) 0 0 [] S ⟨d.roll, [], rfl, List.nil_sublist _⟩ rfl (by rw [List.length_map]; have := pl.hi; omega) (by
      rintro j x acc S1 hx ⟨r1, L, rfl, sub⟩
      rw [List.getElem?_map] at hx
      obtain ⟨a, ha, rfl⟩ := Option.map_eq_some_iff.mp hx
      obtain ⟨k, S2, e2, k0, k1, r2⟩ := roll_spec (t := 2) (r1.ok d) (by decide) b2
      rw [Nat.zero_add] at sub
      refine ⟨_, rfl, k == 0, S2, ?_, ?_⟩
      · simp [-cLenE, -ckey, -kindOk, e2]
        try rfl
      · rw [Nat.zero_add, sub_take ha]
        cases hk : (k == 0) with
        | true => exact ⟨.str a, S2, rfl, r1.trans r2, L ++ [a], by simp [-cLenE, -ckey, -kindOk], sub.append (List.Sublist.refl _)⟩
        | false => exact ⟨r1.trans r2, L, rfl, sub.trans (List.sublist_append_left _ _)⟩)
  rw [Nat.zero_add, List.length_map, List.take_length] at sub
  have h1 := netV_places (ps.map .str) tv
  have k1 := kind_net (.lst (ps.map .str)) tv "places"
  refine ⟨L, S', gc_same (F := callD 3 2 B__law_lot) ?_ (by simp [-cLenE, -ckey, -kindOk, strs_noLoc]) r.len (r.ok d).2, ⟨fun a ha => sub.subset ha, pl.srt.sublist sub⟩, r⟩
  unfold netV at *
  simp [-cLenE, -ckey, -kindOk, B__law_lot, h1, k1, wipeR, -List.map_map, e]
end Lw

namespace Lw
open PySem PySem.Spec L2 Pv
variable [HW]
/-! reading a net's lines -/
theorem forD_nx {b : Bd} {body : SDen} {x : PV} {xs : List PV} {ρ ρ1 ρ2 : PEnv} {S S2 : Store} (hb : b x ρ = some ρ1) (h : body ρ1 S = .nx ρ2 S2) : forD b body (x :: xs) ρ S = forD b body xs ρ2 S2 := by
  simp only [forD, hb, h]
theorem scan_ok {n : Nat} (h : n ≤ 1001) : (n < scanBound) = True := by
  have : (1002 : Nat) < scanBound := by decide
  exact eq_true (by omega)
theorem scan_ok1 {n : Nat} (h : n ≤ 1000) : (n + 1 < scanBound) = True := scan_ok (by omega)
theorem set_tkey' {S : Store} {b : Nat} {T : List Tie} {y m : PV} (hp : S[b]? = some (.dct (tp T))) (ht : (tkey y).isSome = true) (hl : T.length ≤ 100) : qSetM (.loc b) y m S = some (S.set b (.dct (putP (tp T) y m))) := by
  have hL := big_line
  obtain ⟨c, hc⟩ := Option.isSome_iff_exists.mp ht
  have ko : kindOk (tp T) y = true := by unfold kindOk; rw [tkey_ck hc]; exact tp_tkey T
  have nk : Pv.keyOf y = none := by
    cases y <;> first | rfl | cases hc
  have mo : mixOk (tp T) y = false := by unfold mixOk; rw [nk]; simp [-cLenE, -ckey, -kindOk]
  have hlt : (tp T).length < sizeLine := by rw [tp_len]; omega
  unfold qSetM qSetA
  simp only [hp, mo, Bool.false_eq_true, if_false]
  rw [if_pos ⟨ko, hlt⟩]
theorem short_word {w : Str} (h : wordB (.str w) = true) : w.length ≤ 1000 := by
  simp only [wordB, Bool.and_eq_true, decide_eq_true_eq] at h
  omega
theorem places_line_spec {S : Store} (hS : FlatS S) {L : Str} {ps : List Str} (hs : Txt.split L " " = ps) (hw : ∀ p ∈ ps, wordB (.str p) = true) (srt : ps.Pairwise fun a b => ltS a b = true) (hn : ps ≠ []) (hl : L.length ≤ 1000) (hp : ps.length ≤ 100) :
    D_places_of_line [.str L] S = .ok (tS ps) S := by
  refine gc_same (F := callD 3 1 B_places_of_line) ?_ (by simp [-cLenE, -ckey, -kindOk, strs_noLoc]) rfl hS
  have hL := big_line
  have sp : ((((" " : Str).length == 0) = false) ∧ L.length + 2 ≤ sizeLine) = True := by
    have : ((" " : Str).length == 0) = false := by decide
    simp only [this, true_and]
    simp [-cLenE, -ckey, -kindOk]; omega
  have ms : mSplit (.str L) [.str " "] S = some (.lst (ps.map .str), S) := by
    unfold mSplit
    simp only [sp, if_true, hs]
  have e := map_D (f := D_is_word) (g := wordB) (xs := ps.map .str) (S := S) (ρ := [some (.str L), some (.lst (ps.map .str)), none]) (i := 2) (b := bN 2) (by rw [List.length_map]; omega) (fun x => ⟨_, rfl, rfl⟩) fun x hx => by
    obtain ⟨w, hw', rfl⟩ := List.mem_map.mp hx
    exact is_word_spec hS (short_word (hw w hw'))
  have b := bls_of wordB (ps.map PV.str)
  have al : ((ps.map PV.str).map wordB).all _root_.id = true := by
    rw [List.all_map]
    refine List.all_eq_true.mpr fun x hx => ?_
    obtain ⟨w, hw', rfl⟩ := List.mem_map.mp hx
    exact hw w hw'
  have ne : pEq S (.lst (ps.map .str)) (.lst []) = some (.bl false) := by
    show (dEq S (.lst (ps.map .str)) (.lst (([] : List Str).map .str))).map PV.bl = _
    rw [dEq_strs, decide_eq_false hn]; rfl
  have s1 := txts_str ps
  have s3 := nodup_distinct (srt_nodup srt)
  have s4 := sortOk_str ps
  have s2 := sorted_set srt
  rw [s3] at s2
  have sc := scan_ok1 (n := ps.length) (by omega)
  have sc2 := scan_ok (n := ps.length) (by omega)
  have pe : pEq S (.lst (ps.map .str)) (.lst (ps.map .str)) = some (.bl true) := by
    show (dEq S _ _).map PV.bl = _
    rw [dEq_strs, decide_eq_true rfl]; rfl
  simp [-cLenE, -ckey, -kindOk, -pEq, -mSplit, B_places_of_line, k_ss, ms, ne, wipeR, e, b, al, s1, s2, s3, s4, sc, sc2, itemsOf, pe, -List.map_map, -List.all_map]
/-- what the second word of a line of ties tells -/
def NumOk (c : Str) (m : Int) : Prop := ∀ S : Store, FlatS S → D_integer_of_word [.str c] S = .ok (.int m) S
theorem num_one : NumOk "1" 1 := fun S hS => by
  refine gc_same (F := callD 2 1 B_integer_of_word) ?_ rfl rfl hS
  have h1 : pInD S (.str "1") (.str "0123456789") = some (.bl true) := rfl
  have h2 : cIntS S [.str "1"] = some (.int 1) := by
    have q : PySem.intText? ("1" : Str) = some 1 := by decide +kernel
    have l : (("1" : Str).length ≤ 640) = True := by decide
    unfold cIntS
    simp only [l, if_true, q, Option.map_some]
  have h3 : (("1" : Str).cps.toList.map fun c => PV.str ⟨#[c]⟩) = [.str "1"] := rfl
  have h4 : cLenE S [.str "1"] = some (.int 1) := rfl
  have h5 : pIxM S (.str "1") (.int 0) = some (.str "1") := rfl
  have h6 : pEq S (.str "1") (.str "0") = some (.bl false) := rfl
  have hz : ((0 : Nat) < sizeLine) = True := by have := big_line; simp [-cLenE, -ckey, -kindOk]
  simp [-cLenE, -ckey, -kindOk, -pInD, -cIntS, -pIxM, -pEq, B_integer_of_word, h1, h2, h3, h4, h5, h6, compD, hz, wipeR, bls]
theorem num_two : NumOk "2" 2 := fun S hS => by
  refine gc_same (F := callD 2 1 B_integer_of_word) ?_ rfl rfl hS
  have h1 : pInD S (.str "2") (.str "0123456789") = some (.bl true) := rfl
  have h2 : cIntS S [.str "2"] = some (.int 2) := by
    have q : PySem.intText? ("2" : Str) = some 2 := by decide +kernel
    have l : (("2" : Str).length ≤ 640) = True := by decide
    unfold cIntS
    simp only [l, if_true, q, Option.map_some]
  have h3 : (("2" : Str).cps.toList.map fun c => PV.str ⟨#[c]⟩) = [.str "2"] := rfl
  have h4 : cLenE S [.str "2"] = some (.int 1) := rfl
  have h5 : pIxM S (.str "2") (.int 0) = some (.str "2") := rfl
  have h6 : pEq S (.str "2") (.str "0") = some (.bl false) := rfl
  have hz : ((0 : Nat) < sizeLine) = True := by have := big_line; simp [-cLenE, -ckey, -kindOk]
  simp [-cLenE, -ckey, -kindOk, -pInD, -cIntS, -pIxM, -pEq, B_integer_of_word, h1, h2, h3, h4, h5, h6, compD, hz, wipeR, bls]
/-- a line that tells a tie -/
structure LineOk (L : Str) (t : Tie) : Prop where
  ex : ∃ c, Txt.split L " " = [t.1.1, t.1.2, c] ∧ NumOk c t.2
  len : L.length ≤ 1000
  w1 : wordB (.str t.1.1) = true
  w2 : wordB (.str t.1.2) = true
  lt : ltS t.1.1 t.1.2 = true
theorem tie_line_spec {S : Store} (hS : FlatS S) {L : Str} {t : Tie} (h : LineOk L t) : D_tie_of_line [.str L] S = .ok (.tup [kp t.1, .int t.2]) S := by
  refine gc_same (F := callD 3 1 B_tie_of_line) ?_ rfl rfl hS
  have hL := big_line
  obtain ⟨c, hs, hc⟩ := h.ex
  have hl := h.len
  have sp : ((((" " : Str).length == 0) = false) ∧ L.length + 2 ≤ sizeLine) = True := by
    have : ((" " : Str).length == 0) = false := by decide
    simp only [this, true_and]
    simp [-cLenE, -ckey, -kindOk]; omega
  have ms : mSplit (.str L) [.str " "] S = some (.lst [.str t.1.1, .str t.1.2, .str c], S) := by
    unfold mSplit
    simp only [sp, if_true, hs]
    rfl
  have dr : DrawnP (kp t.1) := ⟨trivial, fun xs e x hx => by
    cases e
    simp at hx
    rcases hx with rfl | rfl
    · exact short_word h.w1
    · exact short_word h.w2⟩
  have ip := is_pair_spec hS dr
  have pb : pairB (kp t.1) = true := by
    show (wordB (.str t.1.1) && wordB (.str t.1.2) && ltS t.1.1 t.1.2) = true
    rw [h.w1, h.w2, h.lt]; rfl
  rw [pb] at ip
  have hn := hc S hS
  have a0 : pIxM S (.lst [.str t.1.1, .str t.1.2, .str c]) (.int 0) = some (.str t.1.1) := rfl
  have a1 : pIxM S (.lst [.str t.1.1, .str t.1.2, .str c]) (.int 1) = some (.str t.1.2) := rfl
  have a2 : pIxM S (.lst [.str t.1.1, .str t.1.2, .str c]) (.int 2) = some (.str c) := rfl
  have h2 : ((2 : Nat) ≤ sizeLine) = True := by simp [-cLenE, -ckey, -kindOk]
  have l3 : cLenE S [.lst [.str t.1.1, .str t.1.2, .str c]] = some (.int 3) := rfl
  have n3 : pNe S (.int 3) (.int 3) = some (.bl false) := rfl
  have kpe : PV.tup [.str t.1.1, .str t.1.2] = kp t.1 := rfl
  have isn : pIsE S (.int t.2) .non = some (.bl false) := rfl
  simp [-cLenE, -ckey, -kindOk, -mSplit, -pIxM, -pNe, -pIsE, B_tie_of_line, k_ss, ms, l3, n3, a0, a1, a2, h2, kpe, ip, hn, isn]
inductive Lines : List Str → List Tie → Prop
  | nil : Lines [] []
  | cons {L : Str} {t : Tie} {Ls : List Str} {T : List Tie} : LineOk L t → Lines Ls T → Lines (L :: Ls) (t :: T)
/-- ties in ascending order behind a pair -/
def Asc : Pr → List Tie → Prop
  | _, [] => True
  | p, t :: T => leTxt [t.1.1, t.1.2] [p.1, p.2] = false ∧ Asc t.1 T
abbrev readB : SDen := (sSeq (sAsg (dFn D_tie_of_line [] (dCons (dV 6) dNil)) (bN 7)) (sSeq (sIf (dOrT (dB (dBin pIsE (dV 7) (dK .non))) (dB (dBin pLeT (dBin pIxM (dV 7) (dK (.int 0))) (dV 4)))) sStuck sNil) (sSeq (sAsg (dBin pIxM (dV 7) (dK (.int 0))) (bN 4)) (sSub (dBin pIxM (dV 7) (dK (.int 1))) (dV 3) (dV 4) qSetM))))
theorem read_loop {S : Store} (hS : FlatS S) {r0 r1 r2 : Option PV} : ∀ (Ls : List Str) (T D : List Tie) (f : Nat → Int) (last : Pr) (r5 r6 r7 : Option PV), Lines Ls T → Asc last T → NodT (D ++ T) → (D ++ T).length ≤ 100 →
    ∃ r4' r5' r6' r7', forD (bSeq 2 (bsCons (bN 5) (bsCons (bN 6) bsNil))) readB ((Ls.map PV.str).mapIdx fun i x => .tup [.int (f i), x]) [r0, r1, r2, some (.loc S.length), some (kp last), r5, r6, r7] (S ++ [.dct (tp D)]) = .nx [r0, r1, r2, some (.loc S.length), r4', r5', r6', r7'] (S ++ [.dct (tp (D ++ T))])
  | [], [], D, f, last, r5, r6, r7, .nil, _, _, _ => ⟨_, _, _, _, by simp only [List.map_nil, List.mapIdx_nil, forD, List.append_nil]; rfl⟩
  | L :: Ls, t :: T, D, f, last, r5, r6, r7, .cons hl hr, ha, nd, hz => by
    have S1 : FlatS (S ++ [.dct (tp D)]) := flat_app hS (tp_noLoc D)
    have e := tie_line_spec S1 hl
    obtain ⟨ha1, ha2⟩ := ha
    have le : pLeT (S ++ [.dct (tp D)]) (kp t.1) (kp last) = some (.bl false) := by
      unfold pLeT kp
      simp only [txts, Option.map_some, Option.bind_some, ha1]
    have hz' : D.length ≤ 100 := by rw [List.length_append] at hz; omega
    have st := set_tkey' (S := S ++ [.dct (tp D)]) (b := S.length) (T := D) (y := kp t.1) (m := .int t.2) (by simp [-cLenE, -ckey, -kindOk]) rfl hz'
    have gt : getT D t.1 = none := by
      cases q : getT D t.1 with
      | none => rfl
      | some v =>
        exfalso
        have m1 := getT_some q
        unfold NodT at nd
        rw [List.map_append, List.nodup_append] at nd
        exact nd.2.2 t.1 (List.mem_map.mpr ⟨_, m1, rfl⟩) t.1 (List.mem_map.mpr ⟨t, List.mem_cons_self, rfl⟩) rfl
    have pt : putP (tp D) (kp t.1) (.int t.2) = tp (D ++ [t]) := by
      rw [putP_tp]
      unfold putT
      rw [gt]
      simp [-cLenE, -ckey, -kindOk]
    have sset : (S ++ [PV.dct (tp D)]).set S.length (.dct (putP (tp D) (kp t.1) (.int t.2))) = S ++ [.dct (tp (D ++ [t]))] := by
      rw [pt]; simp [-cLenE, -ckey, -kindOk]
    rw [sset] at st
    have x0 : pIxM (S ++ [.dct (tp D)]) (.tup [kp t.1, .int t.2]) (.int 0) = some (kp t.1) := rfl
    have x1 : pIxM (S ++ [.dct (tp D)]) (.tup [kp t.1, .int t.2]) (.int 1) = some (.int t.2) := rfl
    have isn : pIsE (S ++ [.dct (tp D)]) (.tup [kp t.1, .int t.2]) .non = some (.bl false) := rfl
    have eq : D ++ t :: T = (D ++ [t]) ++ T := by simp [-cLenE, -ckey, -kindOk]
    obtain ⟨q4, q5, q6, q7, ih⟩ := read_loop hS Ls T (D ++ [t]) (fun i => f (i + 1)) t.1 (some (.int (f 0))) (some (.str L)) (some (.tup [kp t.1, .int t.2])) hr ha2 (by rw [← eq]; exact nd) (by rw [← eq]; exact hz)
    refine ⟨q4, q5, q6, q7, ?_⟩
    rw [eq, ← ih, List.map_cons, List.mapIdx_cons]
    have bd : (bSeq 2 (bsCons (bN 5) (bsCons (bN 6) bsNil))) (.tup [.int (f 0), .str L]) [r0, r1, r2, some (.loc S.length), some (kp last), r5, r6, r7] = some [r0, r1, r2, some (.loc S.length), some (kp last), some (.int (f 0)), some (.str L), r7] := rfl
    have body : readB [r0, r1, r2, some (.loc S.length), some (kp last), some (.int (f 0)), some (.str L), r7] (S ++ [.dct (tp D)]) = .nx [r0, r1, r2, some (.loc S.length), some (kp t.1), some (.int (f 0)), some (.str L), some (.tup [kp t.1, .int t.2])] (S ++ [.dct (tp (D ++ [t]))]) := by
      simp [-cLenE, -ckey, -kindOk, -pIxM, -pIsE, -pLeT, -qSetM, readB, e, isn, x0, x1, le, st]
    exact forD_nx bd body
  | [], _ :: _, _, _, _, _, _, _, h, _, _, _ => nomatch h
  | _ :: _, [], _, _, _, _, _, _, h, _, _, _ => nomatch h
end Lw

namespace Lw
open PySem PySem.Spec L2 Pv
variable [HW]
/-! a net read from its lines -/
theorem lines_len {Ls : List Str} {T : List Tie} (h : Lines Ls T) : Ls.length = T.length := by
  induction h with
  | nil => rfl
  | cons _ _ ih => simp [-cLenE, -ckey, -kindOk, ih]
theorem fz_dct {n0 k : Nat} {S : Store} {T : List Tie} (hk : n0 ≤ k) (hT : S[k]? = some (.dct (tp T))) : fz n0 S 8 (.loc k) = some (.dct (tp T)) := by
  have e1 : fz n0 S 7 (.dct (tp T)) = some (.dct (tp T)) := fz_no (tp_noLoc T)
  have hn : ¬ k < n0 := by omega
  show fzP (fun m => if m < n0 then some (PV.loc m) else (S[m]?).bind fun c => if isCo c = true then fz n0 S 7 c else none) _ = _
  simp only [fzP, hT, hn, if_false, Option.bind_some]
  have : isCo (PV.dct (tp T)) = true := rfl
  simp only [this, if_true, e1]
/-- making a net of places and ties -/
theorem make_spec {ps : List Str} {T : List Tie} {S : Store} {das : DenA} {ρ : PEnv} (hS : FlatS S) (pl : PlOk ps) (t : TiesOk ps T 60) (ha : das ρ S = .ok [tS ps, .dct (tp T)] S) :
    ∃ T' NV DV, dMake "Net" D_Net___init__ [] das ρ S = .ok (netO ps T' NV DV) S ∧ NetOk ps T' NV DV ∧ T'.Perm T ∧ sortP ((tp T).map (·.1)) = (tp T').map (·.1) := by
  obtain ⟨fs, e1, hf, T0, T', NV, DV, e0, pm, nd, so, rfl⟩ := init_spec hS (places_net pl) (fun w hw => Nat.le_trans (short_abc _ (pl.mem w hw)) (by decide)) (tv_net pl t) (ties_net pl t fun p hp => hp) (.inl rfl)
  have inj : ∀ A B : List Tie, tp A = tp B → A = B := fun A => by
    induction A with
    | nil => intro B h; cases B with
      | nil => rfl
      | cons b B => cases h
    | cons a A ih => intro B h; cases B with
      | nil => cases h
      | cons b B =>
        simp only [tp, ent, List.map_cons, List.cons.injEq, Prod.mk.injEq, PV.int.injEq, kp, PV.tup.injEq, PV.str.injEq] at h
        obtain ⟨⟨⟨h1, h2, _⟩, h3⟩, h4⟩ := h
        rw [ih B h4]
        exact congrArg (· :: B) (Prod.ext (Prod.ext h1 h2) h3)
  obtain rfl := inj _ _ e0
  rw [sortS_id pl.srt] at e1 hf
  refine ⟨T', NV, DV, ?_, ⟨pl, t.perm pm, hf⟩, pm, so⟩
  have g1 := gcO_net hS hf e1
  have g2 := gcO_ins hS hf
  unfold dMake
  rw [ha, then_ok]
  simp only [List.append_nil]
  rw [g1, then_ok]
  exact g2
theorem read_spec {S : Store} (hS : FlatS S) {L : Str} {Ls : List Str} {ps : List Str} {T : List Tie} (hs : Txt.split L " " = ps) (hl : L.length ≤ 1000) (pl : PlOk ps) (ln : Lines Ls T) (asc : Asc ("", "") T) (t : TiesOk ps T 60) :
    ∃ T' NV DV, D_Net_read [.cls "Net", .tup (.str L :: Ls.map .str)] S = .ok (netO ps T' NV DV) S ∧ NetOk ps T' NV DV ∧ T'.Perm T ∧ sortP ((tp T).map (·.1)) = (tp T').map (·.1) := by
  have hL := big_line
  have hT : T.length ≤ 60 := by have := t.len; omega
  have hw : ∀ p ∈ ps, wordB (.str p) = true := fun p hp => word_abc p (pl.mem p hp)
  have p6 := pl.hi
  have e1 := places_line_spec hS hs hw pl.srt (by intro h; have := pl.lo; rw [h] at this; simp at this) hl (by omega)
  obtain ⟨q4, q5, q6, q7, e2⟩ := read_loop hS (r0 := some (.cls "Net")) (r1 := some (.tup (.str L :: Ls.map .str))) (r2 := some (tS ps)) Ls T [] (fun i => (i : Int)) ("", "") none none none ln asc (by simpa using t.nod) (by simp [-cLenE, -ckey, -kindOk]; omega)
  have nE : pNe S (.tup (.str L :: Ls.map .str)) (.tup []) = some (.bl true) := by
    show (dEq S (.tup ((L :: Ls).map .str)) (.tup (([] : List Str).map .str))).map (fun b => PV.bl (!b)) = _
    rw [dEq_tups]; rfl
  have x0 : pIxM S (.tup (.str L :: Ls.map .str)) (.int 0) = some (.str L) := by
    have h1 : ixN ((PV.str L :: Ls.map PV.str).length) 0 = some 0 := by
      unfold ixN
      simp [-cLenE, -ckey, -kindOk]
    show atI (PV.str L :: Ls.map PV.str) 0 = _
    unfold atI
    rw [h1]
    rfl
  have isn : pIsE S (tS ps) .non = some (.bl false) := rfl
  have ct : Pv.cutP (.str L :: Ls.map .str) (some 1) none = Ls.map .str := by
    unfold Pv.cutP
    have h1 : HT.sIx (.str L :: Ls.map PV.str).length 0 (some 1) = 1 := by
      simp [-cLenE, -ckey, -kindOk, HT.sIx]; first | omega | skip
    have h2 : HT.sIx (.str L :: Ls.map PV.str).length (.str L :: Ls.map PV.str).length none = Ls.length + 1 := by
      simp [-cLenE, -ckey, -kindOk, HT.sIx]
    rw [h1, h2]
    simp only [List.drop_succ_cons, List.drop_zero, Nat.add_sub_cancel]
    exact List.take_of_length_le (by simp)
  have S1f : FlatS (S ++ [.dct (tp T)]) := flat_app hS (tp_noLoc T)
  have tk : fzS S.length (S ++ [.dct (tp T)]) S = some S := fzS_flat hS
  have f0 : fz S.length (S ++ [.dct (tp T)]) 8 (.cls "Net") = some (.cls "Net") := fz_no rfl
  have f2 : fz S.length (S ++ [.dct (tp T)]) 8 (tS ps) = some (tS ps) := fz_no (by simp [-cLenE, -ckey, -kindOk, strs_noLoc])
  have f3 : fz S.length (S ++ [.dct (tp T)]) 8 (.loc S.length) = some (.dct (tp T)) := fz_dct (Nat.le_refl _) (by simp [-cLenE, -ckey, -kindOk])
  obtain ⟨T', NV, DV, mk, ok, pm, so⟩ := make_spec (das := dCons (dV 2) (dCons (dV 3) dNil)) (ρ := fzEnv S.length (S ++ [.dct (tp T)]) [some (.cls "Net"), some (.tup (.str L :: Ls.map .str)), some (tS ps), some (.loc S.length), q4, q5, q6, q7]) hS pl t (by
    simp only [fzEnv, List.map_cons, Option.bind_some, f0, f2, f3]
    rfl)
  refine ⟨T', NV, DV, ?_, ok, pm, so⟩
  refine gc_same (F := callD 8 2 B_Net_read) ?_ ok.flat rfl hS
  have mkl : dMakeL 0 "Net" D_Net___init__ [] (dCons (dV 2) (dCons (dV 3) dNil)) (fzEnv S.length (S ++ [.dct (tp T)]) [some (.cls "Net"), some (.tup (.str L :: Ls.map .str)), some (tS ps), some (.loc S.length), q4, q5, q6, q7]) S = .ok (netO ps T' NV DV) S := by
    unfold dMakeL
    have : (fzEnv S.length (S ++ [.dct (tp T)]) [some (.cls "Net"), some (.tup (.str L :: Ls.map .str)), some (tS ps), some (.loc S.length), q4, q5, q6, q7])[0]? = some (some (.cls "Net")) := by
      simp only [fzEnv, List.map_cons, Option.bind_some, f0]
      rfl
    simp only [this, if_true]
    exact mk
  have nmd : numd (Ls.map PV.str) = (Ls.map PV.str).mapIdx fun i x => .tup [.int (i : Int), x] := rfl
  have h2 : ((2 : Nat) ≤ sizeLine) = True := by simp [-cLenE, -ckey, -kindOk]
  have kpe : PV.tup [.str "", .str ""] = kp (("" : Str), ("" : Str)) := rfl
  simp only [readB, List.nil_append] at e2
  simp [-cLenE, -ckey, -kindOk, -pNe, -pIxM, -pIsE, -bSeq, -dMakeL, -fzEnv, -sSub, B_Net_read, nE, x0, e1, isn, h2, kpe, ct, nmd, zStart, zSeq, zFz, -List.map_map]
  rw [show (([] : List (PV × PV))) = tp ([] : List Tie) from rfl, e2]
  simp [-cLenE, -ckey, -kindOk, -dMakeL, -fzEnv, tk, mkl]
end Lw

namespace Lw
open PySem PySem.Spec L2 Pv
variable [HW]
theorem ints_eq (S : Store) (a b c d : Int) : dEq S (.lst [.int a, .int b]) (.lst [.int c, .int d]) = some (a == c && b == d) := by
  show pvEq 60 (.lst [.int a, .int b]) (.lst [.int c, .int d]) = _
  simp [pvEq, allEq, flatEq]
theorem ints_eqT (S : Store) (a b c d : Int) : dEq S (.tup [.int a, .int b]) (.tup [.int c, .int d]) = some (a == c && b == d) := by
  show pvEq 60 (.tup [.int a, .int b]) (.tup [.int c, .int d]) = _
  simp [pvEq, allEq, flatEq]
theorem int_eq (S : Store) (a b : Int) : dEq S (.int a) (.int b) = some (a == b) := rfl
theorem ne_ints (S : Store) (a b c d : Int) : pNe S (.lst [.int a, .int b]) (.lst [.int c, .int d]) = some (.bl (!(a == c && b == d))) := by
  show (dEq S _ _).map (fun b => PV.bl (!b)) = _
  rw [ints_eq]; rfl
theorem ne_intsT (S : Store) (a b c d : Int) : pNe S (.tup [.int a, .int b]) (.tup [.int c, .int d]) = some (.bl (!(a == c && b == d))) := by
  show (dEq S _ _).map (fun b => PV.bl (!b)) = _
  rw [ints_eqT]; rfl
theorem ne_int (S : Store) (a b : Int) : pNe S (.int a) (.int b) = some (.bl (!(a == b))) := rfl
theorem eq_int (S : Store) (a b : Int) : pEq S (.int a) (.int b) = some (.bl (a == b)) := rfl
theorem pair_right_spec {S : Store} (hS : FlatS S) {ps A B : List Str} {T T' : List Tie} {NV DV : List (PV × PV)} (ok : NetOk ps T' NV DV) (nd : NodT T) (pm : T'.Perm T) (a : LotOk ps A) (b : LotOk ps B) :
    D__law_pair_right [netO ps T' NV DV, netV (ps.map .str) (.dct (tp T)), tS A, tS B] S = .ok (.bl true) S := by
  refine gc_same (F := callD 13 4 B__law_pair_right) ?_ rfl rfl hS
  have hL := big_line
  have p6 := ok.pl.hi
  have hp : ps.length ≤ 1000 := by omega
  have srt := ok.pl.srt
  have hT' : T'.length ≤ 1000 := by have := ok.ties.len; omega
  have hT : T.length ≤ 1000 := by rw [← pm.length_eq]; exact hT'
  have tm : ∀ t ∈ T', t.1.1 ∈ ps ∧ t.1.2 ∈ ps := fun t ht => ⟨(ok.ties.mem t ht).1, (ok.ties.mem t ht).2.1⟩
  have pos : ∀ t ∈ T', 1 ≤ t.2 := fun t ht => (ok.ties.mem t ht).2.2.2
  have la := a.len
  have lb := b.len
  -- the lots
  have lc : ∀ x y, LotOk ps (crn ps A B x y) := fun x y => LotOk.filter srt _
  have lc' : ∀ x y, LotOk ps (crn ps B A x y) := fun x y => LotOk.filter srt _
  have lj : LotOk ps (sortS (distinct (A ++ B))) := set_lot fun x hx => (List.mem_append.mp hx).elim (a.mem x) (b.mem x)
  have ndf : (crn ps A B true false ++ crn ps A B false true).Nodup := List.nodup_append.mpr ⟨srt_nodup (lc _ _).srt, srt_nodup (lc _ _).srt, fun x hx y hy => by
    rintro rfl
    have h1 := (List.mem_filter.mp hx).2
    have h2 := (List.mem_filter.mp hy).2
    revert h1 h2
    cases me A x <;> cases me B x <;> simp⟩
  have lu : LotOk ps (sortS (crn ps A B true false ++ crn ps A B false true)) := ⟨fun x hx => by
    rcases List.mem_append.mp ((sortS_mem _ x).mp hx) with h | h
    · exact (lc _ _).mem x h
    · exact (lc _ _).mem x h, sortS_lt ndf⟩
  -- what the defs tell
  have q1 := corners_spec hS T' NV DV a b hp
  have c1 := fun L => law_cut_spec hS ps L nd hT
  have c2 := fun L (l : LotOk ps L) => cut_spec hS NV DV l (Nat.le_trans l.len hp) hT'
  have x1 := excesses_spec hS (T := T') NV DV a b hp
  have x2 := excesses_spec hS (T := T') NV DV b a hp
  have o1 := opposite_spec hS (T := T') NV DV a hp
  have lo : LotOk ps (ps.filter fun x => !me A x) := LotOk.filter srt _
  have b1 := between_spec hS (T := T') NV DV (lc true false) (lc false true) hp (fun x hx hy => by
    have h1 := (List.mem_filter.mp hx).2
    have h2 := (List.mem_filter.mp hy).2
    revert h1 h2
    cases me A x <;> cases me B x <;> simp)
  have b2 := between_spec hS (T := T') NV DV (lc true true) (lc false false) hp (fun x hx hy => by
    have h1 := (List.mem_filter.mp hx).2
    have h2 := (List.mem_filter.mp hy).2
    revert h1 h2
    cases me A x <;> cases me B x <;> simp)
  obtain ⟨s, s1, s2⟩ := sorted_set_of S (A ++ B) (by rw [List.length_append]; omega)
  have s3 := sorted_strs S (crn ps A B true false ++ crn ps A B false true) (by
    have h1 := (lc true false).len
    have h2 := (lc false true).len
    rw [List.length_append]; omega)
  -- the numbers
  have on : ∀ x y, On ps (me (crn ps A B x y)) (fun z => me A z == x && me B z == y) := fun x y z hz => crn_mem hz
  have on' : ∀ x y, On ps (me (crn ps B A x y)) (fun z => me A z == y && me B z == x) := fun x y z hz => by rw [crn_mem hz, Bool.and_comm]
  have onj : On ps (me (sortS (distinct (A ++ B)))) (fun z => me A z || me B z) := fun z _ => by
    rw [me_set]
    unfold me
    rw [Bool.eq_iff_iff]
    simp [-cLenE, -ckey, -kindOk]
  have onu : On ps (me (sortS (crn ps A B true false ++ crn ps A B false true))) (fun z => (me A z == true && me B z == false) || (me A z == false && me B z == true)) := fun z hz => by
    show _ = ((me A z == true && me B z == false) || (me A z == false && me B z == true))
    rw [← crn_mem hz, ← crn_mem hz]
    unfold me
    rw [Bool.eq_iff_iff, decide_eq_true_iff, sortS_mem, List.mem_append]
    simp [-cLenE, -ckey, -kindOk]
  have eb1 : betP T' (me (crn ps B A true false)) (me (crn ps B A false true)) = betP T' (me (crn ps A B true false)) (me (crn ps A B false true)) := by
    rw [betP_on (on' true false) (on' false true) tm, betP_on (on true false) (on false true) tm, bet_symm]
  have eb2 : betP T' (me (crn ps B A true true)) (me (crn ps B A false false)) = betP T' (me (crn ps A B true true)) (me (crn ps A B false false)) := by
    rw [betP_on (on' true true) (on' false false) tm, betP_on (on true true) (on false false) tm]
  have eo : cutP T' (me (ps.filter fun x => !me A x)) = cutP T' (me A) := by
    rw [cutP_on (f := me (ps.filter fun x => !me A x)) (g := fun x => !me A x) (fun z hz => by
      unfold me
      rw [Bool.eq_iff_iff, decide_eq_true_iff, List.mem_filter]
      exact ⟨fun h => h.2, fun h => ⟨hz, h⟩⟩) tm, cut_opp]
  have j := cut_join (me A) (me B) T'
  have p := cut_part (me A) (me B) T'
  have u := cut_two (fun z => me A z == true && me B z == false) (fun z => me A z == false && me B z == true) (fun z h => by revert h; cases me A z <;> cases me B z <;> simp) T'
  have f1 : (fun z => me A z && me B z) = (fun z => me A z == true && me B z == true) := by funext z; simp
  have f2 : (fun z => me A z && !me B z) = (fun z => me A z == true && me B z == false) := by funext z; cases me A z <;> cases me B z <;> rfl
  have f3 : (fun z => !me A z && me B z) = (fun z => me A z == false && me B z == true) := by funext z; cases me A z <;> cases me B z <;> rfl
  have f4 : (fun z => !me A z && !me B z) = (fun z => me A z == false && me B z == false) := by funext z; cases me A z <;> cases me B z <;> rfl
  rw [f1, f2, f3, ← betP_on (on true false) (on false true) tm, ← cutP_on (on true true) tm, ← cutP_on onj tm] at j
  rw [f1, f2, f3, f4, ← betP_on (on true true) (on false false) tm, ← cutP_on (on true false) tm, ← cutP_on (on false true) tm] at p
  rw [← betP_on (on true false) (on false true) tm, ← cutP_on (on true false) tm, ← cutP_on (on false true) tm, ← cutP_on onu tm] at u
  have n1 := bet_nonneg (me (crn ps A B true false)) (me (crn ps A B false true)) T' pos
  have n2 := bet_nonneg (me (crn ps A B true true)) (me (crn ps A B false false)) T' pos
  have pc : ∀ f, cutP T f = cutP T' f := fun f => (cut_perm f pm).symm
  simp only [pc] at c1
  rw [eb1, eb2] at x2
  have hl : (A.length + B.length ≤ sizeLine) = True := by simp [-cLenE, -ckey, -kindOk]; omega
  have hl2 : ((crn ps A B true false).length + (crn ps A B false true).length ≤ sizeLine) = True := by
    have h1 := (lc true false).len
    have h2 := (lc false true).len
    simp [-cLenE, -ckey, -kindOk]; omega
  have h2 : ((2 : Nat) ≤ sizeLine) = True := by simp [-cLenE, -ckey, -kindOk]
  have kA := c1 A
  have kB := c1 B
  have kb := c1 (crn ps A B true true)
  have kf := c1 (crn ps A B true false)
  have ks := c1 (crn ps A B false true)
  have kj := c1 (sortS (distinct (A ++ B)))
  have mA := c2 A a
  have mf := c2 _ (lc true false)
  have ms := c2 _ (lc false true)
  have mu := c2 _ lu
  have mo := c2 _ lo
  rw [eo] at mo
  clear c1 c2 on on' onj onu eb1 eb2 eo f1 f2 f3 f4 pc lc lc' lj lu lo ndf
  generalize betP T' (me (crn ps A B true false)) (me (crn ps A B false true)) = w1 at *
  generalize betP T' (me (crn ps A B true true)) (me (crn ps A B false false)) = w2 at *
  generalize cutP T' (me A) = vA at *
  generalize cutP T' (me B) = vB at *
  generalize cutP T' (me (crn ps A B true true)) = vb at *
  generalize cutP T' (me (crn ps A B true false)) = vf at *
  generalize cutP T' (me (crn ps A B false true)) = vs at *
  generalize cutP T' (me (sortS (distinct (A ++ B)))) = vj at *
  generalize cutP T' (me (sortS (crn ps A B true false ++ crn ps A B false true))) = vu at *
  have E1 : vA + vB - vb - vj = 2 * w1 := by omega
  have E2 : vA + vB - vf - vs = 2 * w2 := by omega
  have E3 : vf + vs - 2 * w1 = vu := by omega
  have lk := look_net S ps T' NV DV
  have nm : (netFs ps T' NV DV).lookup ("cut" : Str) = none := rfl
  have hap : (A.map PV.str ++ B.map PV.str) = (A ++ B).map PV.str := by simp
  have hap2 : ((crn ps A B true false).map PV.str ++ (crn ps A B false true).map PV.str) = (crn ps A B true false ++ crn ps A B false true).map PV.str := by simp
  have mn : (min (2 * w1) (2 * w2) < 0) = False := by simp; omega
  have md1 : 2 * w1 % 2 = 0 := by omega
  have md2 : 2 * w2 % 2 = 0 := by omega
  have at0 : ∀ x y : PV, atI [x, y] 0 = some x := fun _ _ => rfl
  have at1 : ∀ x y : PV, atI [x, y] 1 = some y := fun _ _ => rfl
  simp only [tS] at *
  simp [-cLenE, -ckey, -kindOk, -cSet, -cSortedE, -pNe, -pEq, B__law_pair_right, q1, kA, kB, kb, kf, ks, kj, hap, hap2, s1, s2, s3, x1, x2, o1, b1, b2, mA, mf, ms, mu, mo, E1, E2, E3, lk, nm, hl, hl2, h2, ne_ints, ne_intsT, ne_int, eq_int, mn, md1, md2, at0, at1, compD, -List.map_append, -List.map_map]
end Lw

namespace Lw
open PySem PySem.Spec L2 Pv
variable [HW]
theorem lots_drawn {S : Store} {n : Nat} (d : Ok S n) {ps : List Str} {tv : PV} (pl : PlOk ps) {r0 r1 r3 r5 r6 r8 r9 r10 r11 r12 : Option PV} :
    ∃ (Ls : List (List Str)) (S' : Store), compD (bN 7) dYes (dFn D__law_lot [] (dCons (dV 2) (dCons (dV 4) dNil))) [r0, r1, some (.loc n), r3, some (netV (ps.map .str) tv), r5, r6, none, r8, r9, r10, r11, r12] (nums 0 4) 0 S = .ok (Ls.map tS) S' ∧ Roll n S S' ∧ (∀ L ∈ Ls, LotOk ps L) ∧ Ls.length ≤ 4 := by
  have hL := big_line
  obtain ⟨ys, S', e, r, Ls, rfl, ok, ll⟩ := compD_inv (b := bN 7) (test := dYes) (elt := dFn D__law_lot [] (dCons (dV 2) (dCons (dV 4) dNil))) (ρ := [r0, r1, some (.loc n), r3, some (netV (ps.map .str) tv), r5, r6, none, r8, r9, r10, r11, r12])
    (fun i acc S' => Roll n S S' ∧ ∃ Ls : List (List Str), acc = Ls.map tS ∧ (∀ L ∈ Ls, LotOk ps L) ∧ Ls.length ≤ i) (nums 0 4) 0 0 [] S ⟨d.roll, [], rfl, (fun _ h => nomatch h), Nat.le_refl _⟩ rfl (by rw [nums_length]; omega) (by
      rintro j x acc S1 hx ⟨r1, Ls, rfl, ok, ll⟩
      obtain ⟨L, S2, e2, l, r2⟩ := law_lot_spec (r1.ok d) (tv := tv) pl
      refine ⟨_, rfl, true, S1, rfl, ?_⟩
      rw [if_pos rfl]
      refine ⟨tS L, S2, by simp [-cLenE, -ckey, -kindOk, e2], r1.trans r2, Ls ++ [L], by simp [-cLenE, -ckey, -kindOk], fun K hK => ?_, by simp [-cLenE, -ckey, -kindOk]; omega⟩
      rcases List.mem_append.mp hK with h | h
      · exact ok K h
      · rw [List.mem_singleton.mp h]; exact l)
  exact ⟨Ls, S', e, r, ok, by simpa [nums_length] using ll⟩
abbrev oneB : SDen := (sIf (dB (dBin pNe (dLc (iAD (dV 6)) [9] (bN 9) (dNotT (dB (dFn D__law_pair_right [] (dCons (dV 5) (dCons (dV 4) (dCons (dV 8) (dCons (dV 9) dNil))))))) (dV 9)) (dLst dNil))) (sRet (dK (.bl false))) sNil)
theorem one_loop {S : Store} (hS : FlatS S) {ps : List Str} {T T' : List Tie} {NV DV : List (PV × PV)} (ok : NetOk ps T' NV DV) (nd : NodT T) (pm : T'.Perm T) {Ls : List (List Str)} (lo : ∀ L ∈ Ls, LotOk ps L) (ll : Ls.length ≤ 4) {r0 r1 r2 r3 r7 r8 r9 r10 r11 r12 : Option PV} :
    ∃ z, forD (bN 8) oneB (Ls.map tS) [r0, r1, r2, r3, some (netV (ps.map .str) (.dct (tp T))), some (netO ps T' NV DV), some (.lst (Ls.map tS)), r7, r8, r9, r10, r11, r12] S = .nx [r0, r1, r2, r3, some (netV (ps.map .str) (.dct (tp T))), some (netO ps T' NV DV), some (.lst (Ls.map tS)), r7, z, r9, r10, r11, r12] S := by
  have hL := big_line
  obtain ⟨ρ', S', e, rfl, z, rfl⟩ := forD_inv (b := bN 8) (body := oneB) (fun i ρ S' => S' = S ∧ ∃ z, ρ = [r0, r1, r2, r3, some (netV (ps.map .str) (.dct (tp T))), some (netO ps T' NV DV), some (.lst (Ls.map tS)), r7, z, r9, r10, r11, r12])
    (Ls.map tS) 0 _ S ⟨rfl, r8, rfl⟩ (by
      rintro j x ρ S1 hx ⟨rfl, z, rfl⟩
      obtain ⟨A, hA, rfl⟩ := List.mem_map.mp (List.mem_of_getElem? hx)
      have la := lo A hA
      have e := comp_of (b := bN 9) (test := dNotT (dB (dFn D__law_pair_right [] (dCons (dV 5) (dCons (dV 4) (dCons (dV 8) (dCons (dV 9) dNil))))))) (elt := dV 9) (ρ := [r0, r1, r2, r3, some (netV (ps.map .str) (.dct (tp T))), some (netO ps T' NV DV), some (.lst (Ls.map tS)), r7, some (tS A), none, r10, r11, r12]) (S := S1)
        tS (fun _ => false) tS Ls 0 (by omega) fun B hB => ⟨_, rfl, by
          have h := pair_right_spec hS ok nd pm la (lo B hB)
          simp [-cLenE, -ckey, -kindOk, h], fun h => nomatch h⟩
      rw [List.filter_eq_nil_iff.mpr (fun _ _ => by simp)] at e
      have q : pNe S1 (.lst []) (.lst []) = some (.bl false) := rfl
      have z0 : ((0 : Nat) ≤ sizeLine) = True := eq_true (Nat.zero_le _)
      refine ⟨_, rfl, [r0, r1, r2, r3, some (netV (ps.map .str) (.dct (tp T))), some (netO ps T' NV DV), some (.lst (Ls.map tS)), r7, some (tS A), r9, r10, r11, r12], S1, .inl ?_, rfl, _, rfl⟩
      simp [-cLenE, -ckey, -kindOk, -pNe, oneB, wipeR, e, q, z0, -List.map_map])
  exact ⟨z, e⟩
abbrev turnB : SDen := (sSeq (sAsg (dFn D__law_net [] (dCons (dV 2) dNil)) (bN 4)) (sSeq (sAsg (dTup (dCons (dFn D__law_made [] (dCons (dV 4) dNil)) (dCons (dLc (iR1 (dCons (dK (.int 4)) dNil)) [7] (bN 7) dYes (dFn D__law_lot [] (dCons (dV 2) (dCons (dV 4) dNil)))) dNil))) (bSeq 2 (bsCons (bN 5) (bsCons (bN 6) bsNil)))) (sFor (iAD (dV 6)) (bN 8) oneB)))
theorem turn_spec {S : Store} {n : Nat} (d : Ok S n) {r0 r1 r3 r4 r5 r6 r7 r8 r9 r10 r11 r12 : Option PV} : ∃ z4 z5 z6 z8 S', turnB [r0, r1, some (.loc n), r3, r4, r5, r6, r7, r8, r9, r10, r11, r12] S = .nx [r0, r1, some (.loc n), r3, z4, z5, z6, r7, z8, r9, r10, r11, r12] S' ∧ Roll n S S' := by
  obtain ⟨ps, T, S1, e1, r1', pl, t⟩ := net_spec d
  obtain ⟨T', NV, DV, e2, ok, pm, so⟩ := made_spec (r1'.ok d).2 pl t
  obtain ⟨Ls, S2, e3, r2', lo, ll⟩ := lots_drawn (r1'.ok d) (tv := .dct (tp T)) pl (r0 := r0) (r1 := r1) (r3 := r3) (r5 := r5) (r6 := r6) (r8 := r8) (r9 := r9) (r10 := r10) (r11 := r11) (r12 := r12)
  have r12' := r1'.trans r2'
  obtain ⟨z, e4⟩ := one_loop (r12'.ok d).2 ok t.nod pm lo ll (r0 := r0) (r1 := r1) (r2 := some (.loc n)) (r3 := r3) (r7 := r7) (r8 := r8) (r9 := r9) (r10 := r10) (r11 := r11) (r12 := r12)
  have hr : (-4611686018427387904 : Int) ≤ 4 ∧ (4 : Int) < 4611686018427387904 := by decide
  have h2 : ((2 : Nat) ≤ sizeLine) = True := by simp [-cLenE, -ckey, -kindOk]
  refine ⟨some (netV (ps.map .str) (.dct (tp T))), some (netO ps T' NV DV), some (.lst (Ls.map tS)), z, S2, ?_, r12'⟩
  simp only [oneB] at e4
  simp [-cLenE, -ckey, -kindOk, -pNe, -sIf, turnB, e1, e2, wipeR, hr, e3, h2, -List.map_map]
  rw [e4]
end Lw

namespace Lw
open PySem PySem.Spec L2 Pv
variable [HW]
theorem bet_perm (f g : Str → Bool) {A B : List Tie} (p : A.Perm B) : betP A f g = betP B f g := by
  induction p with
  | nil => rfl
  | cons x _ ih => rw [betP_cons, betP_cons, ih]
  | swap x y l => simp only [betP_cons]; omega
  | trans _ _ h1 h2 => exact h1.trans h2
def rP : List Str := ["a", "b", "c", "d", "e"]
def rT : List Tie := [(("a", "b"), 1), (("a", "e"), 1), (("b", "c"), 1), (("c", "d"), 1), (("d", "e"), 1)]
def hP : List Str := ["a", "b", "c", "z"]
def hT : List Tie := [(("a", "b"), 1), (("a", "c"), 1), (("a", "z"), 2), (("b", "c"), 1), (("b", "z"), 1), (("c", "z"), 1)]
theorem rP_ok : PlOk rP := ⟨by decide +kernel, by decide, by decide, by decide +kernel, by decide +kernel⟩
theorem hP_ok : PlOk hP := ⟨by decide +kernel, by decide, by decide, by decide +kernel, by decide +kernel⟩
theorem rT_ok : TiesOk rP rT 60 := ⟨by unfold NodT; decide +kernel, by decide +kernel, by decide +kernel, by decide +kernel⟩
theorem hT_ok : TiesOk hP hT 60 := ⟨by unfold NodT; decide +kernel, by decide +kernel, by decide +kernel, by decide +kernel⟩
theorem rL : Lines ["a b 1", "a e 1", "b c 1", "c d 1", "d e 1"] rT :=
  .cons ⟨⟨"1", by decide +kernel, num_one⟩, by decide, by decide +kernel, by decide +kernel, by decide +kernel⟩ <|
  .cons ⟨⟨"1", by decide +kernel, num_one⟩, by decide, by decide +kernel, by decide +kernel, by decide +kernel⟩ <|
  .cons ⟨⟨"1", by decide +kernel, num_one⟩, by decide, by decide +kernel, by decide +kernel, by decide +kernel⟩ <|
  .cons ⟨⟨"1", by decide +kernel, num_one⟩, by decide, by decide +kernel, by decide +kernel, by decide +kernel⟩ <|
  .cons ⟨⟨"1", by decide +kernel, num_one⟩, by decide, by decide +kernel, by decide +kernel, by decide +kernel⟩ .nil
theorem hL : Lines ["a b 1", "a c 1", "a z 2", "b c 1", "b z 1", "c z 1"] hT :=
  .cons ⟨⟨"1", by decide +kernel, num_one⟩, by decide, by decide +kernel, by decide +kernel, by decide +kernel⟩ <|
  .cons ⟨⟨"1", by decide +kernel, num_one⟩, by decide, by decide +kernel, by decide +kernel, by decide +kernel⟩ <|
  .cons ⟨⟨"2", by decide +kernel, num_two⟩, by decide, by decide +kernel, by decide +kernel, by decide +kernel⟩ <|
  .cons ⟨⟨"1", by decide +kernel, num_one⟩, by decide, by decide +kernel, by decide +kernel, by decide +kernel⟩ <|
  .cons ⟨⟨"1", by decide +kernel, num_one⟩, by decide, by decide +kernel, by decide +kernel, by decide +kernel⟩ <|
  .cons ⟨⟨"1", by decide +kernel, num_one⟩, by decide, by decide +kernel, by decide +kernel, by decide +kernel⟩ .nil
theorem rA : Asc ("", "") rT := by simp only [rT, Asc]; decide +kernel
theorem hA : Asc ("", "") hT := by simp only [hT, Asc]; decide +kernel
theorem lot_of {ps L : List Str} (h : (L.all (fun a => decide (a ∈ ps)) && decide (L.Pairwise fun a b => ltS a b = true)) = true) : LotOk ps L := by
  rw [Bool.and_eq_true] at h
  exact ⟨fun a ha => of_decide_eq_true (List.all_eq_true.mp h.1 a ha), of_decide_eq_true h.2⟩
theorem law_true (ns : List Int) (hns : ns.length ≤ 63) : ∃ S, D_law [.scr ns] [] = .ok (.bl true) S := by
  have inner : ∀ (n : Nat) (S : Store) (r0 r1 r3 r4 r5 r6 r7 r8 r9 r10 r11 r12 : Option PV), Ok S n → ∃ z3 z4 z5 z6 z8 S', forD (bN 3) turnB (nums 0 3) [r0, r1, some (.loc n), r3, r4, r5, r6, r7, r8, r9, r10, r11, r12] S = .nx [r0, r1, some (.loc n), z3, z4, z5, z6, r7, z8, r9, r10, r11, r12] S' ∧ Ok S' n := by
    intro n S r0 r1 r3 r4 r5 r6 r7 r8 r9 r10 r11 r12 d
    obtain ⟨ρ', S', e, o, z3, z4, z5, z6, z8, rfl⟩ := forD_inv (b := bN 3) (body := turnB)
      (fun i ρ S => Ok S n ∧ ∃ z3 z4 z5 z6 z8, ρ = [r0, r1, some (.loc n), z3, z4, z5, z6, r7, z8, r9, r10, r11, r12]) (nums 0 3) 0 _ S ⟨d, r3, r4, r5, r6, r8, rfl⟩ (by
        rintro j x ρ S hx ⟨d, z3, z4, z5, z6, z8, rfl⟩
        obtain ⟨y4, y5, y6, y8, S1, e, r⟩ := turn_spec d (r0 := r0) (r1 := r1) (r3 := some x) (r4 := z4) (r5 := z5) (r6 := z6) (r7 := r7) (r8 := z8) (r9 := r9) (r10 := r10) (r11 := r11) (r12 := r12)
        exact ⟨_, rfl, _, S1, .inl e, r.ok d, _, _, _, _, _, rfl⟩)
    exact ⟨z3, z4, z5, z6, z8, S', e, o⟩
  obtain ⟨ρ', S', e, fl, a, b, c, a4, a5, a6, a8, rfl⟩ := forD_inv (b := bN 1) (body := (sSeq (sAsg (dFn D__law_dice [] (dCons (dV 0) (dCons (dV 1) dNil))) (bN 2)) (sFor (iR1 (dCons (dK (.int 3)) dNil)) (bN 3) turnB) : SDen))
    (fun i ρ S => FlatS S ∧ ∃ a b c a4 a5 a6 a8, ρ = [some (.scr ns), a, b, c, a4, a5, a6, none, a8, none, none, none, none]) (nums 0 (max 1 (min 8 ns.length))) 0 [some (.scr ns), none, none, none, none, none, none, none, none, none, none, none, none] [] ⟨(fun c h => nomatch h), _, _, _, _, _, _, _, rfl⟩ (by
      rintro j x ρ S hx ⟨fl, a, b, c, a4, a5, a6, a8, rfl⟩
      obtain ⟨rfl, hj⟩ := nums_get hx
      obtain ⟨p, q, r, e1⟩ := dice_spec (S := S) (ns := ns) (spot := 0 + (j : Int)) (by omega)
      have d1 : Ok (S ++ [.lst [.int p, .int q, .int r]]) S.length := ⟨⟨p, q, r, by simp [-cLenE, -ckey, -kindOk]⟩, flat_app fl rfl⟩
      obtain ⟨z3, z4, z5, z6, z8, S2, e2, d2⟩ := inner S.length (S ++ [.lst [.int p, .int q, .int r]]) (some (.scr ns)) (some (.int (0 + (j : Int)))) c a4 a5 a6 none a8 none none none none d1
      have hr : (-4611686018427387904 : Int) ≤ 3 ∧ (3 : Int) < 4611686018427387904 := by decide
      refine ⟨_, rfl, [some (.scr ns), some (.int (0 + (j : Int))), some (.loc S.length), z3, z4, z5, z6, none, z8, none, none, none, none], S2, .inl ?_, d2.2, _, _, _, _, _, _, _, rfl⟩
      simp [-cLenE, -ckey, -kindOk, -turnB] at e1 e2
      simp [-cLenE, -ckey, -kindOk, -turnB, e1, hr, e2])
  obtain ⟨T1, N1, V1, q1, ok1, pm1, so1⟩ := read_spec fl (L := "a b c d e") (ps := rP) (by decide +kernel) (by decide) rP_ok rL rA rT_ok
  obtain ⟨T2, N2, V2, q2, ok2, pm2, so2⟩ := read_spec fl (L := "a b c z") (ps := hP) (by decide +kernel) (by decide) hP_ok hL hA hT_ok
  have x1 := excesses_spec fl (ps := rP) (A := ["a", "b"]) (B := ["b", "c"]) (T := T1) N1 V1 (lot_of (by decide +kernel)) (lot_of (by decide +kernel)) (by decide)
  have x2 := excesses_spec fl (ps := rP) (A := ["a", "c"]) (B := ["c", "d"]) (T := T1) N1 V1 (lot_of (by decide +kernel)) (lot_of (by decide +kernel)) (by decide)
  have x3 := between_spec fl (ps := hP) (A := ["a", "b"]) (B := ["z"]) (T := T2) N2 V2 (lot_of (by decide +kernel)) (lot_of (by decide +kernel)) (by decide) (by decide +kernel)
  simp only [bet_perm _ _ pm1, bet_perm _ _ pm2] at x1 x2 x3
  rw [show betP rT (me (crn rP ["a", "b"] ["b", "c"] true false)) (me (crn rP ["a", "b"] ["b", "c"] false true)) = 0 by decide +kernel, show betP rT (me (crn rP ["a", "b"] ["b", "c"] true true)) (me (crn rP ["a", "b"] ["b", "c"] false false)) = 0 by decide +kernel] at x1
  rw [show betP rT (me (crn rP ["a", "c"] ["c", "d"] true false)) (me (crn rP ["a", "c"] ["c", "d"] false true)) = 0 by decide +kernel, show betP rT (me (crn rP ["a", "c"] ["c", "d"] true true)) (me (crn rP ["a", "c"] ["c", "d"] false false)) = 1 by decide +kernel] at x2
  rw [show betP hT (me ["a", "b"]) (me ["z"]) = 3 by decide +kernel] at x3
  simp only [tS, List.map_cons, List.map_nil] at q1 q2 x1 x2 x3
  refine ⟨S', ?_⟩
  obtain ⟨m, hm⟩ : ∃ m : Nat, m = max 1 (min 8 ns.length) := ⟨_, rfl⟩
  rw [← hm] at e
  have hi : (if 1 < (if (ns.length : Int) < 8 then (ns.length : Int) else 8) then (if (ns.length : Int) < 8 then (ns.length : Int) else 8) else 1) = (m : Int) := by
    rw [hm]; split <;> split <;> omega
  have hb : -4611686018427387904 ≤ (m : Int) ∧ (m : Int) < 4611686018427387904 := by omega
  have hL := big_line
  have sz : ∀ k : Nat, k ≤ 1000 → (k ≤ sizeLine) = True := fun k h => by simp [-cLenE, -ckey, -kindOk]; omega
  have pe : pEq S' (.lst [.tup [.int 0, .int 0], .tup [.int 0, .int 2], .int 3]) (.lst [.tup [.int 0, .int 0], .tup [.int 0, .int 2], .int 3]) = some (.bl true) := rfl
  simp [-cLenE, -ckey, -kindOk, -pEq, D_law, B_law, hi, hb, e, q1, q2, x1, x2, x3, sz, pe]
end Lw

namespace Lw
open PySem PySem.Spec L2 Pv
/-! ### the end -/
theorem all_mk [HW] {l : PySem.W.OpenLaw} {w : World} (hw : HW.w = w) {K : PySem.W.Frag} {h : Heap} {mg : Str → Option Value} {fa f0 f1 f2 f3 f4 f5 f6 f7 f8 f9 f10 f11 f12 f13 f14 f15 f16 f17 f18 f19 f20 f21 f22 f23 f24 f25 f26 f27 f28 f29 f30 f31 f32 f33 f34 f35 f36 f37 f38 f39 f40 : Addr} (X : K.In h) (G : h.Ns mainGlobals mg) (hfa : mg "law" = some (.ref fa))
    {C_Net : Addr} (cn_Net : PySem.W.nsIn K mainGlobals "Net" = some (some (.ref C_Net)))
    (q1_Net : PySem.W.plainGet K C_Net Str.empty = true)
    (q2_Net : PySem.W.hasDictIn K C_Net = true)
    (q3_Net : PySem.W.plainOver K C_Net = true)
    (q4_Net : PySem.W.findIn K (.ref C_Net) "__setattr__" = some (some (.builtin "object.__setattr__")))
    (na_Net_own_degrees : PySem.W.findIn K (.ref C_Net) "own_degrees" = some none)
    (na_Net_own_near : PySem.W.findIn K (.ref C_Net) "own_near" = some none)
    (na_Net_own_places : PySem.W.findIn K (.ref C_Net) "own_places" = some none)
    (na_Net_own_ties : PySem.W.findIn K (.ref C_Net) "own_ties" = some none)
    (m1_Net : PySem.W.makesIn K C_Net = true)
    (m2_Net : PySem.W.keepIn K (.ref C_Net) = true)
    {X_InvalidLot : Addr} (en_InvalidLot : PySem.W.nsIn K mainGlobals "InvalidLot" = some (some (.ref X_InvalidLot)))
    {X_InvalidNet : Addr} (en_InvalidNet : PySem.W.nsIn K mainGlobals "InvalidNet" = some (some (.ref X_InvalidNet)))
    {X_InvalidOperation : Addr} (en_InvalidOperation : PySem.W.nsIn K mainGlobals "InvalidOperation" = some (some (.ref X_InvalidOperation)))
    (e1_InvalidLot : PySem.W.excIn K X_InvalidLot [.type "ValueError", .type "Exception", .type "BaseException", .type "object"] "ValueError.__new__" = true)
    (e2_InvalidLot : PySem.W.keepIn K (.ref X_InvalidLot) = true)
    (e3_InvalidLot : PySem.W.subIn K (.ref X_InvalidLot) (.type "BaseException") = some true)
    (e4_InvalidLot : PySem.W.typeIn K (.ref X_InvalidLot) = some (.type "type"))
    (e1_InvalidNet : PySem.W.excIn K X_InvalidNet [.type "ValueError", .type "Exception", .type "BaseException", .type "object"] "ValueError.__new__" = true)
    (e2_InvalidNet : PySem.W.keepIn K (.ref X_InvalidNet) = true)
    (e3_InvalidNet : PySem.W.subIn K (.ref X_InvalidNet) (.type "BaseException") = some true)
    (e4_InvalidNet : PySem.W.typeIn K (.ref X_InvalidNet) = some (.type "type"))
    (e1_InvalidOperation : PySem.W.excIn K X_InvalidOperation [.type "ValueError", .type "Exception", .type "BaseException", .type "object"] "ValueError.__new__" = true)
    (e2_InvalidOperation : PySem.W.keepIn K (.ref X_InvalidOperation) = true)
    (e3_InvalidOperation : PySem.W.subIn K (.ref X_InvalidOperation) (.type "BaseException") = some true)
    (e4_InvalidOperation : PySem.W.typeIn K (.ref X_InvalidOperation) = some (.type "type"))
    {oc0 kV0 dc0 pm0 cd0 ct0 : Value} {od0 an0 : Option Addr} {sl0 : Array (Option Value)} (a0 : PySem.W.findIn K (.ref C_Net) "__contains__" = some (some (.ref f0)))
    (b0 : PySem.W.isFn K (.ref f0) = true)
    (l0 : K.lookup f0 = some ⟨oc0, od0, .func (PySem.W.fnOf "__contains__" "Net.__contains__" (defArgs s_Net___contains__) (defBody s_Net___contains__) (defScope s_Net___contains__) .none kV0 dc0 pm0 an0 cd0 ct0), sl0⟩)
    (c0 : PySem.W.codeIn K cd0 "Net.__contains__" = true)
    (k0 : PySem.W.keepIn K (.ref f0) = true)
    {oc1 kV1 dc1 pm1 cd1 ct1 : Value} {od1 an1 : Option Addr} {sl1 : Array (Option Value)} (a1 : PySem.W.nsIn K mainGlobals "is_integer" = some (some (.ref f1)))
    (l1 : K.lookup f1 = some ⟨oc1, od1, .func (PySem.W.fnOf "is_integer" "is_integer" (defArgs s_is_integer) (defBody s_is_integer) (defScope s_is_integer) .none kV1 dc1 pm1 an1 cd1 ct1), sl1⟩)
    (c1 : PySem.W.codeIn K cd1 "is_integer" = true)
    (k1 : PySem.W.keepIn K (.ref f1) = true)
    {oc2 kV2 dc2 pm2 cd2 ct2 : Value} {od2 an2 : Option Addr} {sl2 : Array (Option Value)} (a2 : PySem.W.nsIn K mainGlobals "is_word" = some (some (.ref f2)))
    (l2 : K.lookup f2 = some ⟨oc2, od2, .func (PySem.W.fnOf "is_word" "is_word" (defArgs s_is_word) (defBody s_is_word) (defScope s_is_word) .none kV2 dc2 pm2 an2 cd2 ct2), sl2⟩)
    (c2 : PySem.W.codeIn K cd2 "is_word" = true)
    (k2 : PySem.W.keepIn K (.ref f2) = true)
    {oc3 kV3 dc3 pm3 cd3 ct3 : Value} {od3 an3 : Option Addr} {sl3 : Array (Option Value)} (a3 : PySem.W.nsIn K mainGlobals "ascending_rows" = some (some (.ref f3)))
    (l3 : K.lookup f3 = some ⟨oc3, od3, .func (PySem.W.fnOf "ascending_rows" "ascending_rows" (defArgs s_ascending_rows) (defBody s_ascending_rows) (defScope s_ascending_rows) .none kV3 dc3 pm3 an3 cd3 ct3), sl3⟩)
    (c3 : PySem.W.codeIn K cd3 "ascending_rows" = true)
    (k3 : PySem.W.keepIn K (.ref f3) = true)
    {oc4 kV4 dc4 pm4 cd4 ct4 : Value} {od4 an4 : Option Addr} {sl4 : Array (Option Value)} (a4 : PySem.W.nsIn K mainGlobals "integer_of_word" = some (some (.ref f4)))
    (l4 : K.lookup f4 = some ⟨oc4, od4, .func (PySem.W.fnOf "integer_of_word" "integer_of_word" (defArgs s_integer_of_word) (defBody s_integer_of_word) (defScope s_integer_of_word) .none kV4 dc4 pm4 an4 cd4 ct4), sl4⟩)
    (c4 : PySem.W.codeIn K cd4 "integer_of_word" = true)
    (k4 : PySem.W.keepIn K (.ref f4) = true)
    {oc5 kV5 dc5 pm5 cd5 ct5 : Value} {od5 an5 : Option Addr} {sl5 : Array (Option Value)} (a5 : PySem.W.nsIn K mainGlobals "require_net" = some (some (.ref f5)))
    (l5 : K.lookup f5 = some ⟨oc5, od5, .func (PySem.W.fnOf "require_net" "require_net" (defArgs s_require_net) (defBody s_require_net) (defScope s_require_net) .none kV5 dc5 pm5 an5 cd5 ct5), sl5⟩)
    (c5 : PySem.W.codeIn K cd5 "require_net" = true)
    (k5 : PySem.W.keepIn K (.ref f5) = true)
    {oc6 kV6 dc6 pm6 cd6 ct6 : Value} {od6 an6 : Option Addr} {sl6 : Array (Option Value)} (a6 : PySem.W.nsIn K mainGlobals "cut_in" = some (some (.ref f6)))
    (l6 : K.lookup f6 = some ⟨oc6, od6, .func (PySem.W.fnOf "cut_in" "cut_in" (defArgs s_cut_in) (defBody s_cut_in) (defScope s_cut_in) .none kV6 dc6 pm6 an6 cd6 ct6), sl6⟩)
    (c6 : PySem.W.codeIn K cd6 "cut_in" = true)
    (k6 : PySem.W.keepIn K (.ref f6) = true)
    {oc7 kV7 dc7 pm7 cd7 ct7 : Value} {od7 an7 : Option Addr} {sl7 : Array (Option Value)} (a7 : PySem.W.nsIn K mainGlobals "opposite_in" = some (some (.ref f7)))
    (l7 : K.lookup f7 = some ⟨oc7, od7, .func (PySem.W.fnOf "opposite_in" "opposite_in" (defArgs s_opposite_in) (defBody s_opposite_in) (defScope s_opposite_in) .none kV7 dc7 pm7 an7 cd7 ct7), sl7⟩)
    (c7 : PySem.W.codeIn K cd7 "opposite_in" = true)
    (k7 : PySem.W.keepIn K (.ref f7) = true)
    {oc8 kV8 dc8 pm8 cd8 ct8 : Value} {od8 an8 : Option Addr} {sl8 : Array (Option Value)} (a8 : PySem.W.nsIn K mainGlobals "corners_in" = some (some (.ref f8)))
    (l8 : K.lookup f8 = some ⟨oc8, od8, .func (PySem.W.fnOf "corners_in" "corners_in" (defArgs s_corners_in) (defBody s_corners_in) (defScope s_corners_in) .none kV8 dc8 pm8 an8 cd8 ct8), sl8⟩)
    (c8 : PySem.W.codeIn K cd8 "corners_in" = true)
    (k8 : PySem.W.keepIn K (.ref f8) = true)
    {oc9 kV9 dc9 pm9 cd9 ct9 : Value} {od9 an9 : Option Addr} {sl9 : Array (Option Value)} (a9 : PySem.W.nsIn K mainGlobals "between_in" = some (some (.ref f9)))
    (l9 : K.lookup f9 = some ⟨oc9, od9, .func (PySem.W.fnOf "between_in" "between_in" (defArgs s_between_in) (defBody s_between_in) (defScope s_between_in) .none kV9 dc9 pm9 an9 cd9 ct9), sl9⟩)
    (c9 : PySem.W.codeIn K cd9 "between_in" = true)
    (k9 : PySem.W.keepIn K (.ref f9) = true)
    {oc10 kV10 dc10 pm10 cd10 ct10 : Value} {od10 an10 : Option Addr} {sl10 : Array (Option Value)} (a10 : PySem.W.nsIn K mainGlobals "_law_dice" = some (some (.ref f10)))
    (l10 : K.lookup f10 = some ⟨oc10, od10, .func (PySem.W.fnOf "_law_dice" "_law_dice" (defArgs s__law_dice) (defBody s__law_dice) (defScope s__law_dice) .none kV10 dc10 pm10 an10 cd10 ct10), sl10⟩)
    (c10 : PySem.W.codeIn K cd10 "_law_dice" = true)
    (k10 : PySem.W.keepIn K (.ref f10) = true)
    {oc11 kV11 dc11 pm11 cd11 ct11 : Value} {od11 an11 : Option Addr} {sl11 : Array (Option Value)} (a11 : PySem.W.nsIn K mainGlobals "_law_roll" = some (some (.ref f11)))
    (l11 : K.lookup f11 = some ⟨oc11, od11, .func (PySem.W.fnOf "_law_roll" "_law_roll" (defArgs s__law_roll) (defBody s__law_roll) (defScope s__law_roll) .none kV11 dc11 pm11 an11 cd11 ct11), sl11⟩)
    (c11 : PySem.W.codeIn K cd11 "_law_roll" = true)
    (k11 : PySem.W.keepIn K (.ref f11) = true)
    {oc12 kV12 dc12 pm12 cd12 ct12 : Value} {od12 an12 : Option Addr} {sl12 : Array (Option Value)} (a12 : PySem.W.nsIn K mainGlobals "_law_pair" = some (some (.ref f12)))
    (l12 : K.lookup f12 = some ⟨oc12, od12, .func (PySem.W.fnOf "_law_pair" "_law_pair" (defArgs s__law_pair) (defBody s__law_pair) (defScope s__law_pair) .none kV12 dc12 pm12 an12 cd12 ct12), sl12⟩)
    (c12 : PySem.W.codeIn K cd12 "_law_pair" = true)
    (k12 : PySem.W.keepIn K (.ref f12) = true)
    {oc13 kV13 dc13 pm13 cd13 ct13 : Value} {od13 an13 : Option Addr} {sl13 : Array (Option Value)} (a13 : PySem.W.nsIn K mainGlobals "_law_pairs" = some (some (.ref f13)))
    (l13 : K.lookup f13 = some ⟨oc13, od13, .func (PySem.W.fnOf "_law_pairs" "_law_pairs" (defArgs s__law_pairs) (defBody s__law_pairs) (defScope s__law_pairs) .none kV13 dc13 pm13 an13 cd13 ct13), sl13⟩)
    (c13 : PySem.W.codeIn K cd13 "_law_pairs" = true)
    (k13 : PySem.W.keepIn K (.ref f13) = true)
    {oc14 kV14 dc14 pm14 cd14 ct14 : Value} {od14 an14 : Option Addr} {sl14 : Array (Option Value)} (a14 : PySem.W.nsIn K mainGlobals "_law_with" = some (some (.ref f14)))
    (l14 : K.lookup f14 = some ⟨oc14, od14, .func (PySem.W.fnOf "_law_with" "_law_with" (defArgs s__law_with) (defBody s__law_with) (defScope s__law_with) .none kV14 dc14 pm14 an14 cd14 ct14), sl14⟩)
    (c14 : PySem.W.codeIn K cd14 "_law_with" = true)
    (k14 : PySem.W.keepIn K (.ref f14) = true)
    {oc15 kV15 dc15 pm15 cd15 ct15 : Value} {od15 an15 : Option Addr} {sl15 : Array (Option Value)} (a15 : PySem.W.nsIn K mainGlobals "_law_cut" = some (some (.ref f15)))
    (l15 : K.lookup f15 = some ⟨oc15, od15, .func (PySem.W.fnOf "_law_cut" "_law_cut" (defArgs s__law_cut) (defBody s__law_cut) (defScope s__law_cut) .none kV15 dc15 pm15 an15 cd15 ct15), sl15⟩)
    (c15 : PySem.W.codeIn K cd15 "_law_cut" = true)
    (k15 : PySem.W.keepIn K (.ref f15) = true)
    {oc16 kV16 dc16 pm16 cd16 ct16 : Value} {od16 an16 : Option Addr} {sl16 : Array (Option Value)} (a16 : PySem.W.nsIn K mainGlobals "is_within" = some (some (.ref f16)))
    (l16 : K.lookup f16 = some ⟨oc16, od16, .func (PySem.W.fnOf "is_within" "is_within" (defArgs s_is_within) (defBody s_is_within) (defScope s_is_within) .none kV16 dc16 pm16 an16 cd16 ct16), sl16⟩)
    (c16 : PySem.W.codeIn K cd16 "is_within" = true)
    (k16 : PySem.W.keepIn K (.ref f16) = true)
    {oc17 kV17 dc17 pm17 cd17 ct17 : Value} {od17 an17 : Option Addr} {sl17 : Array (Option Value)} (a17 : PySem.W.nsIn K mainGlobals "is_pair" = some (some (.ref f17)))
    (l17 : K.lookup f17 = some ⟨oc17, od17, .func (PySem.W.fnOf "is_pair" "is_pair" (defArgs s_is_pair) (defBody s_is_pair) (defScope s_is_pair) .none kV17 dc17 pm17 an17 cd17 ct17), sl17⟩)
    (c17 : PySem.W.codeIn K cd17 "is_pair" = true)
    (k17 : PySem.W.keepIn K (.ref f17) = true)
    {oc18 kV18 dc18 pm18 cd18 ct18 : Value} {od18 an18 : Option Addr} {sl18 : Array (Option Value)} (a18 : PySem.W.nsIn K mainGlobals "are_places" = some (some (.ref f18)))
    (l18 : K.lookup f18 = some ⟨oc18, od18, .func (PySem.W.fnOf "are_places" "are_places" (defArgs s_are_places) (defBody s_are_places) (defScope s_are_places) .none kV18 dc18 pm18 an18 cd18 ct18), sl18⟩)
    (c18 : PySem.W.codeIn K cd18 "are_places" = true)
    (k18 : PySem.W.keepIn K (.ref f18) = true)
    {oc19 kV19 dc19 pm19 cd19 ct19 : Value} {od19 an19 : Option Addr} {sl19 : Array (Option Value)} (a19 : PySem.W.nsIn K mainGlobals "places_of_line" = some (some (.ref f19)))
    (l19 : K.lookup f19 = some ⟨oc19, od19, .func (PySem.W.fnOf "places_of_line" "places_of_line" (defArgs s_places_of_line) (defBody s_places_of_line) (defScope s_places_of_line) .none kV19 dc19 pm19 an19 cd19 ct19), sl19⟩)
    (c19 : PySem.W.codeIn K cd19 "places_of_line" = true)
    (k19 : PySem.W.keepIn K (.ref f19) = true)
    {oc20 kV20 dc20 pm20 cd20 ct20 : Value} {od20 an20 : Option Addr} {sl20 : Array (Option Value)} (a20 : PySem.W.nsIn K mainGlobals "near_in" = some (some (.ref f20)))
    (l20 : K.lookup f20 = some ⟨oc20, od20, .func (PySem.W.fnOf "near_in" "near_in" (defArgs s_near_in) (defBody s_near_in) (defScope s_near_in) .none kV20 dc20 pm20 an20 cd20 ct20), sl20⟩)
    (c20 : PySem.W.codeIn K cd20 "near_in" = true)
    (k20 : PySem.W.keepIn K (.ref f20) = true)
    {oc21 kV21 dc21 pm21 cd21 ct21 : Value} {od21 an21 : Option Addr} {sl21 : Array (Option Value)} (a21 : PySem.W.nsIn K mainGlobals "is_lot_in" = some (some (.ref f21)))
    (l21 : K.lookup f21 = some ⟨oc21, od21, .func (PySem.W.fnOf "is_lot_in" "is_lot_in" (defArgs s_is_lot_in) (defBody s_is_lot_in) (defScope s_is_lot_in) .none kV21 dc21 pm21 an21 cd21 ct21), sl21⟩)
    (c21 : PySem.W.codeIn K cd21 "is_lot_in" = true)
    (k21 : PySem.W.keepIn K (.ref f21) = true)
    {oc22 kV22 dc22 pm22 cd22 ct22 : Value} {od22 an22 : Option Addr} {sl22 : Array (Option Value)} (a22 : PySem.W.nsIn K mainGlobals "_law_pick" = some (some (.ref f22)))
    (l22 : K.lookup f22 = some ⟨oc22, od22, .func (PySem.W.fnOf "_law_pick" "_law_pick" (defArgs s__law_pick) (defBody s__law_pick) (defScope s__law_pick) .none kV22 dc22 pm22 an22 cd22 ct22), sl22⟩)
    (c22 : PySem.W.codeIn K cd22 "_law_pick" = true)
    (k22 : PySem.W.keepIn K (.ref f22) = true)
    {oc23 kV23 dc23 pm23 cd23 ct23 : Value} {od23 an23 : Option Addr} {sl23 : Array (Option Value)} (a23 : PySem.W.nsIn K mainGlobals "_law_some" = some (some (.ref f23)))
    (l23 : K.lookup f23 = some ⟨oc23, od23, .func (PySem.W.fnOf "_law_some" "_law_some" (defArgs s__law_some) (defBody s__law_some) (defScope s__law_some) .none kV23 dc23 pm23 an23 cd23 ct23), sl23⟩)
    (c23 : PySem.W.codeIn K cd23 "_law_some" = true)
    (k23 : PySem.W.keepIn K (.ref f23) = true)
    {oc24 kV24 dc24 pm24 cd24 ct24 : Value} {od24 an24 : Option Addr} {sl24 : Array (Option Value)} (a24 : PySem.W.nsIn K mainGlobals "_law_lot" = some (some (.ref f24)))
    (l24 : K.lookup f24 = some ⟨oc24, od24, .func (PySem.W.fnOf "_law_lot" "_law_lot" (defArgs s__law_lot) (defBody s__law_lot) (defScope s__law_lot) .none kV24 dc24 pm24 an24 cd24 ct24), sl24⟩)
    (c24 : PySem.W.codeIn K cd24 "_law_lot" = true)
    (k24 : PySem.W.keepIn K (.ref f24) = true)
    {oc25 kV25 dc25 pm25 cd25 ct25 : Value} {od25 an25 : Option Addr} {sl25 : Array (Option Value)} (a25 : PySem.W.nsIn K mainGlobals "are_ties" = some (some (.ref f25)))
    (l25 : K.lookup f25 = some ⟨oc25, od25, .func (PySem.W.fnOf "are_ties" "are_ties" (defArgs s_are_ties) (defBody s_are_ties) (defScope s_are_ties) .none kV25 dc25 pm25 an25 cd25 ct25), sl25⟩)
    (c25 : PySem.W.codeIn K cd25 "are_ties" = true)
    (k25 : PySem.W.keepIn K (.ref f25) = true)
    {oc26 kV26 dc26 pm26 cd26 ct26 : Value} {od26 an26 : Option Addr} {sl26 : Array (Option Value)} (a26 : PySem.W.nsIn K mainGlobals "tie_of_line" = some (some (.ref f26)))
    (l26 : K.lookup f26 = some ⟨oc26, od26, .func (PySem.W.fnOf "tie_of_line" "tie_of_line" (defArgs s_tie_of_line) (defBody s_tie_of_line) (defScope s_tie_of_line) .none kV26 dc26 pm26 an26 cd26 ct26), sl26⟩)
    (c26 : PySem.W.codeIn K cd26 "tie_of_line" = true)
    (k26 : PySem.W.keepIn K (.ref f26) = true)
    {oc27 kV27 dc27 pm27 cd27 ct27 : Value} {od27 an27 : Option Addr} {sl27 : Array (Option Value)} (a27 : PySem.W.nsIn K mainGlobals "require_lot" = some (some (.ref f27)))
    (l27 : K.lookup f27 = some ⟨oc27, od27, .func (PySem.W.fnOf "require_lot" "require_lot" (defArgs s_require_lot) (defBody s_require_lot) (defScope s_require_lot) .none kV27 dc27 pm27 an27 cd27 ct27), sl27⟩)
    (c27 : PySem.W.codeIn K cd27 "require_lot" = true)
    (k27 : PySem.W.keepIn K (.ref f27) = true)
    {oc28 kV28 dc28 pm28 cd28 ct28 : Value} {od28 an28 : Option Addr} {sl28 : Array (Option Value)} (a28 : PySem.W.nsIn K mainGlobals "_law_known_net" = some (some (.ref f28)))
    (l28 : K.lookup f28 = some ⟨oc28, od28, .func (PySem.W.fnOf "_law_known_net" "_law_known_net" (defArgs s__law_known_net) (defBody s__law_known_net) (defScope s__law_known_net) .none kV28 dc28 pm28 an28 cd28 ct28), sl28⟩)
    (c28 : PySem.W.codeIn K cd28 "_law_known_net" = true)
    (k28 : PySem.W.keepIn K (.ref f28) = true)
    {oc29 kV29 dc29 pm29 cd29 ct29 : Value} {od29 an29 : Option Addr} {sl29 : Array (Option Value)} {T29 : Addr} {ocT29 : Value} {odT29 : Option Addr} {nT29 : Nat} {slT29 : Array (Option Value)} (a29 : PySem.W.findIn K (.ref C_Net) "__init__" = some (some (.ref f29)))
    (b29 : PySem.W.isFn K (.ref f29) = true)
    (l29 : K.lookup f29 = some ⟨oc29, od29, .func (PySem.W.fnOf "__init__" "Net.__init__" (defArgs s_Net___init__) (defBody s_Net___init__) (defScope s_Net___init__) (.ref T29) kV29 dc29 pm29 an29 cd29 ct29), sl29⟩)
    (d29 : K.lookup T29 = some ⟨ocT29, odT29, .seq (([Value.none] : List Value).toArray) nT29, slT29⟩)
    (c29 : PySem.W.codeIn K cd29 "Net.__init__" = true)
    (k29 : PySem.W.keepIn K (.ref f29) = true)
    {oc30 kV30 dc30 pm30 cd30 ct30 : Value} {od30 an30 : Option Addr} {sl30 : Array (Option Value)} (a30 : PySem.W.findIn K (.ref C_Net) "cut" = some (some (.ref f30)))
    (b30 : PySem.W.isFn K (.ref f30) = true)
    (l30 : K.lookup f30 = some ⟨oc30, od30, .func (PySem.W.fnOf "cut" "Net.cut" (defArgs s_Net_cut) (defBody s_Net_cut) (defScope s_Net_cut) .none kV30 dc30 pm30 an30 cd30 ct30), sl30⟩)
    (c30 : PySem.W.codeIn K cd30 "Net.cut" = true)
    (k30 : PySem.W.keepIn K (.ref f30) = true)
    {oc31 kV31 dc31 pm31 cd31 ct31 : Value} {od31 an31 : Option Addr} {sl31 : Array (Option Value)} (a31 : PySem.W.nsIn K mainGlobals "opposite" = some (some (.ref f31)))
    (l31 : K.lookup f31 = some ⟨oc31, od31, .func (PySem.W.fnOf "opposite" "opposite" (defArgs s_opposite) (defBody s_opposite) (defScope s_opposite) .none kV31 dc31 pm31 an31 cd31 ct31), sl31⟩)
    (c31 : PySem.W.codeIn K cd31 "opposite" = true)
    (k31 : PySem.W.keepIn K (.ref f31) = true)
    {oc32 kV32 dc32 pm32 cd32 ct32 : Value} {od32 an32 : Option Addr} {sl32 : Array (Option Value)} (a32 : PySem.W.nsIn K mainGlobals "require_two_lots" = some (some (.ref f32)))
    (l32 : K.lookup f32 = some ⟨oc32, od32, .func (PySem.W.fnOf "require_two_lots" "require_two_lots" (defArgs s_require_two_lots) (defBody s_require_two_lots) (defScope s_require_two_lots) .none kV32 dc32 pm32 an32 cd32 ct32), sl32⟩)
    (c32 : PySem.W.codeIn K cd32 "require_two_lots" = true)
    (k32 : PySem.W.keepIn K (.ref f32) = true)
    {oc33 kV33 dc33 pm33 cd33 ct33 : Value} {od33 an33 : Option Addr} {sl33 : Array (Option Value)} (a33 : PySem.W.nsIn K mainGlobals "_law_net" = some (some (.ref f33)))
    (l33 : K.lookup f33 = some ⟨oc33, od33, .func (PySem.W.fnOf "_law_net" "_law_net" (defArgs s__law_net) (defBody s__law_net) (defScope s__law_net) .none kV33 dc33 pm33 an33 cd33 ct33), sl33⟩)
    (c33 : PySem.W.codeIn K cd33 "_law_net" = true)
    (k33 : PySem.W.keepIn K (.ref f33) = true)
    {oc34 kV34 dc34 pm34 cd34 ct34 : Value} {od34 an34 : Option Addr} {sl34 : Array (Option Value)} (a34 : PySem.W.nsIn K mainGlobals "corners" = some (some (.ref f34)))
    (l34 : K.lookup f34 = some ⟨oc34, od34, .func (PySem.W.fnOf "corners" "corners" (defArgs s_corners) (defBody s_corners) (defScope s_corners) .none kV34 dc34 pm34 an34 cd34 ct34), sl34⟩)
    (c34 : PySem.W.codeIn K cd34 "corners" = true)
    (k34 : PySem.W.keepIn K (.ref f34) = true)
    {oc35 kV35 dc35 pm35 cd35 ct35 : Value} {od35 an35 : Option Addr} {sl35 : Array (Option Value)} (a35 : PySem.W.nsIn K mainGlobals "between" = some (some (.ref f35)))
    (l35 : K.lookup f35 = some ⟨oc35, od35, .func (PySem.W.fnOf "between" "between" (defArgs s_between) (defBody s_between) (defScope s_between) .none kV35 dc35 pm35 an35 cd35 ct35), sl35⟩)
    (c35 : PySem.W.codeIn K cd35 "between" = true)
    (k35 : PySem.W.keepIn K (.ref f35) = true)
    {oc36 kV36 dc36 pm36 cd36 ct36 : Value} {od36 an36 : Option Addr} {sl36 : Array (Option Value)} (a36 : PySem.W.nsIn K mainGlobals "excesses" = some (some (.ref f36)))
    (l36 : K.lookup f36 = some ⟨oc36, od36, .func (PySem.W.fnOf "excesses" "excesses" (defArgs s_excesses) (defBody s_excesses) (defScope s_excesses) .none kV36 dc36 pm36 an36 cd36 ct36), sl36⟩)
    (c36 : PySem.W.codeIn K cd36 "excesses" = true)
    (k36 : PySem.W.keepIn K (.ref f36) = true)
    {oc37 kV37 dc37 pm37 cd37 ct37 : Value} {od37 an37 : Option Addr} {sl37 : Array (Option Value)} {p37 : Addr} {rest37 : List Value} (a37 : PySem.W.findCls K (.ref C_Net) (.type "type") "read" = some (.get (.builtin "classmethod.__get__") (.ref p37) .none (.ref C_Net)))
    (b37 : PySem.W.recIn K p37 "classmethod" = some (.ref f37 :: rest37))
    (e37 : PySem.W.fnIn K f37 = true)
    (l37 : K.lookup f37 = some ⟨oc37, od37, .func (PySem.W.fnOf "read" "Net.read" (defArgs s_Net_read) (defBody s_Net_read) (defScope s_Net_read) .none kV37 dc37 pm37 an37 cd37 ct37), sl37⟩)
    (c37 : PySem.W.codeIn K cd37 "Net.read" = true)
    (k37 : PySem.W.keepIn K (.ref f37) = true)
    {oc38 kV38 dc38 pm38 cd38 ct38 : Value} {od38 an38 : Option Addr} {sl38 : Array (Option Value)} (a38 : PySem.W.nsIn K mainGlobals "_law_made" = some (some (.ref f38)))
    (l38 : K.lookup f38 = some ⟨oc38, od38, .func (PySem.W.fnOf "_law_made" "_law_made" (defArgs s__law_made) (defBody s__law_made) (defScope s__law_made) .none kV38 dc38 pm38 an38 cd38 ct38), sl38⟩)
    (c38 : PySem.W.codeIn K cd38 "_law_made" = true)
    (k38 : PySem.W.keepIn K (.ref f38) = true)
    {oc39 kV39 dc39 pm39 cd39 ct39 : Value} {od39 an39 : Option Addr} {sl39 : Array (Option Value)} (a39 : PySem.W.nsIn K mainGlobals "_law_pair_right" = some (some (.ref f39)))
    (l39 : K.lookup f39 = some ⟨oc39, od39, .func (PySem.W.fnOf "_law_pair_right" "_law_pair_right" (defArgs s__law_pair_right) (defBody s__law_pair_right) (defScope s__law_pair_right) .none kV39 dc39 pm39 an39 cd39 ct39), sl39⟩)
    (c39 : PySem.W.codeIn K cd39 "_law_pair_right" = true)
    (k39 : PySem.W.keepIn K (.ref f39) = true)
    {oc40 kV40 dc40 pm40 cd40 ct40 : Value} {od40 an40 : Option Addr} {sl40 : Array (Option Value)} (a40 : PySem.W.nsIn K mainGlobals "law" = some (some (.ref f40)))
    (l40 : K.lookup f40 = some ⟨oc40, od40, .func (PySem.W.fnOf "law" "law" (defArgs s_law) (defBody s_law) (defScope s_law) .none kV40 dc40 pm40 an40 cd40 ct40), sl40⟩)
    (c40 : PySem.W.codeIn K cd40 "law" = true)
    (k40 : PySem.W.keepIn K (.ref f40) = true)
    (z_abs : PySem.W.nsIn K mainGlobals "abs" = some none)
    (z_all : PySem.W.nsIn K mainGlobals "all" = some none)
    (z_any : PySem.W.nsIn K mainGlobals "any" = some none)
    (z_bool : PySem.W.nsIn K mainGlobals "bool" = some none)
    (z_dict : PySem.W.nsIn K mainGlobals "dict" = some none)
    (z_enumerate : PySem.W.nsIn K mainGlobals "enumerate" = some none)
    (z_int : PySem.W.nsIn K mainGlobals "int" = some none)
    (z_isinstance : PySem.W.nsIn K mainGlobals "isinstance" = some none)
    (z_len : PySem.W.nsIn K mainGlobals "len" = some none)
    (z_list : PySem.W.nsIn K mainGlobals "list" = some none)
    (z_max : PySem.W.nsIn K mainGlobals "max" = some none)
    (z_min : PySem.W.nsIn K mainGlobals "min" = some none)
    (z_range : PySem.W.nsIn K mainGlobals "range" = some none)
    (z_set : PySem.W.nsIn K mainGlobals "set" = some none)
    (z_sorted : PySem.W.nsIn K mainGlobals "sorted" = some none)
    (z_str : PySem.W.nsIn K mainGlobals "str" = some none)
    (z_sum : PySem.W.nsIn K mainGlobals "sum" = some none)
    (z_tuple : PySem.W.nsIn K mainGlobals "tuple" = some none)
    {t_DIGITS : Tok} (c_DIGITS : PySem.W.nsIn K mainGlobals "DIGITS" = some (some (.str "0123456789" t_DIGITS)))
    {t_LETTERS : Tok} (c_LETTERS : PySem.W.nsIn K mainGlobals "LETTERS" = some (some (.str "abcdefghijklmnopqrstuvwxyz" t_LETTERS)))
    {t_LONGEST : Tok} (c_LONGEST : PySem.W.nsIn K mainGlobals "LONGEST" = some (some (.int 1000000000000000000000000000000000000000000000000000000000000 t_LONGEST)))
    {t_MAX_LETTERS : Tok} (c_MAX_LETTERS : PySem.W.nsIn K mainGlobals "MAX_LETTERS" = some (some (.int 8 t_MAX_LETTERS)))
    {t_MAX_PLACES : Tok} (c_MAX_PLACES : PySem.W.nsIn K mainGlobals "MAX_PLACES" = some (some (.int 9 t_MAX_PLACES)))
    {t_MAX_TIES : Tok} (c_MAX_TIES : PySem.W.nsIn K mainGlobals "MAX_TIES" = some (some (.int 60 t_MAX_TIES)))
    (i1_Net : PySem.W.findIn K (.ref C_Net) "__class__" = some (some (.builtin "object.__class__")))
    (i4_Net : PySem.W.mroIn K C_Net (.type "object") = some true)
    (i2_ : PySem.W.specialIn K (.builtin "object.__class__") "__get__" = some (some (.builtin "getset_descriptor.__get__")))
    (i3_ : PySem.W.takesIn K (.builtin "object.__class__") = some true)
    (r1_Net : PySem.W.readsIn K C_Net (.type "type") = true)
    (r2_Net : PySem.W.specialIn K (.ref C_Net) "__getattribute__" = some (some (.builtin "type.__getattribute__")))
    : ∃ fd : FuncData, (∀ (s : Shared) (v : Value), BindsTo s fd ⟨[v], []⟩ [("script", v)]) ∧ ∀ base : Heap, K.In base → base.Ns mainGlobals mg → FnOk l.prog w K mg base (L2.CX l.prog w) 7 fa fd ["script"] (spF K 1 D_law) := by
  have e := hfa.symm.trans (PySem.W.mg_of X G a40)
  cases e
  have ca_Net : clA K "Net" = some C_Net := by unfold clA; rw [cn_Net]
  have xa_InvalidLot : clA K "InvalidLot" = some X_InvalidLot := by unfold clA; rw [en_InvalidLot]
  have xa_InvalidNet : clA K "InvalidNet" = some X_InvalidNet := by unfold clA; rw [en_InvalidNet]
  have xa_InvalidOperation : clA K "InvalidOperation" = some X_InvalidOperation := by unfold clA; rw [en_InvalidOperation]
  have T : Txt w K mg := ⟨hw, PySem.W.mg_none_of X G z_abs, PySem.W.mg_none_of X G z_all, PySem.W.mg_none_of X G z_any, PySem.W.mg_none_of X G z_bool, PySem.W.mg_none_of X G z_dict, PySem.W.mg_none_of X G z_enumerate, PySem.W.mg_none_of X G z_int, PySem.W.mg_none_of X G z_isinstance, PySem.W.mg_none_of X G z_len, PySem.W.mg_none_of X G z_list, PySem.W.mg_none_of X G z_max, PySem.W.mg_none_of X G z_min, PySem.W.mg_none_of X G z_range, PySem.W.mg_none_of X G z_set, PySem.W.mg_none_of X G z_sorted, PySem.W.mg_none_of X G z_str, PySem.W.mg_none_of X G z_sum, PySem.W.mg_none_of X G z_tuple, ⟨_, PySem.W.mg_of X G c_DIGITS⟩, ⟨_, PySem.W.mg_of X G c_LETTERS⟩, ⟨_, PySem.W.mg_of X G c_LONGEST⟩, ⟨_, PySem.W.mg_of X G c_MAX_LETTERS⟩, ⟨_, PySem.W.mg_of X G c_MAX_PLACES⟩, ⟨_, PySem.W.mg_of X G c_MAX_TIES⟩, ⟨C_Net, ca_Net, ⟨q1_Net, q2_Net, q3_Net, q4_Net⟩⟩, ⟨C_Net, ca_Net, na_Net_own_degrees⟩, ⟨C_Net, ca_Net, na_Net_own_near⟩, ⟨C_Net, ca_Net, na_Net_own_places⟩, ⟨C_Net, ca_Net, na_Net_own_ties⟩, ⟨fun c hc => by rw [ca_Net] at hc; cases hc; exact ⟨PySem.W.mg_of X G cn_Net, m1_Net, m2_Net⟩⟩, ⟨⟨C_Net, ca_Net, PySem.W.mg_of X G cn_Net, ⟨q1_Net, q2_Net, q3_Net, q4_Net⟩, i1_Net, i2_, i3_, i4_Net⟩⟩, ⟨X_InvalidLot, xa_InvalidLot, PySem.W.mg_of X G en_InvalidLot, e1_InvalidLot, e2_InvalidLot, e3_InvalidLot, e4_InvalidLot⟩, ⟨X_InvalidNet, xa_InvalidNet, PySem.W.mg_of X G en_InvalidNet, e1_InvalidNet, e2_InvalidNet, e3_InvalidNet, e4_InvalidNet⟩, ⟨X_InvalidOperation, xa_InvalidOperation, PySem.W.mg_of X G en_InvalidOperation, e1_InvalidOperation, e2_InvalidOperation, e3_InvalidOperation, e4_InvalidOperation⟩⟩
  have F0 := fun_mk (st := s_Net___contains__) l0 c0 k0
  have F1 := fun_mk (st := s_is_integer) l1 c1 k1
  have F2 := fun_mk (st := s_is_word) l2 c2 k2
  have F3 := fun_mk (st := s_ascending_rows) l3 c3 k3
  have F4 := fun_mk (st := s_integer_of_word) l4 c4 k4
  have F5 := fun_mk (st := s_require_net) l5 c5 k5
  have F6 := fun_mk (st := s_cut_in) l6 c6 k6
  have F7 := fun_mk (st := s_opposite_in) l7 c7 k7
  have F8 := fun_mk (st := s_corners_in) l8 c8 k8
  have F9 := fun_mk (st := s_between_in) l9 c9 k9
  have F10 := fun_mk (st := s__law_dice) l10 c10 k10
  have F11 := fun_mk (st := s__law_roll) l11 c11 k11
  have F12 := fun_mk (st := s__law_pair) l12 c12 k12
  have F13 := fun_mk (st := s__law_pairs) l13 c13 k13
  have F14 := fun_mk (st := s__law_with) l14 c14 k14
  have F15 := fun_mk (st := s__law_cut) l15 c15 k15
  have F16 := fun_mk (st := s_is_within) l16 c16 k16
  have F17 := fun_mk (st := s_is_pair) l17 c17 k17
  have F18 := fun_mk (st := s_are_places) l18 c18 k18
  have F19 := fun_mk (st := s_places_of_line) l19 c19 k19
  have F20 := fun_mk (st := s_near_in) l20 c20 k20
  have F21 := fun_mk (st := s_is_lot_in) l21 c21 k21
  have F22 := fun_mk (st := s__law_pick) l22 c22 k22
  have F23 := fun_mk (st := s__law_some) l23 c23 k23
  have F24 := fun_mk (st := s__law_lot) l24 c24 k24
  have F25 := fun_mk (st := s_are_ties) l25 c25 k25
  have F26 := fun_mk (st := s_tie_of_line) l26 c26 k26
  have F27 := fun_mk (st := s_require_lot) l27 c27 k27
  have F28 := fun_mk (st := s__law_known_net) l28 c28 k28
  have F29 : L2.FunD K "__init__" "Net.__init__" (defArgs s_Net___init__) (defBody s_Net___init__) (defScope s_Net___init__) [V.non] [] f29 _ := ⟨⟨_, _, _, _, _, _, _, _, _, _, rfl, l29, c29, .inr ⟨(by intro z; cases z), _, _, _, _, rfl, d29, rfl, .cons rfl .nil⟩, .inl rfl⟩, k29⟩
  have F30 := fun_mk (st := s_Net_cut) l30 c30 k30
  have F31 := fun_mk (st := s_opposite) l31 c31 k31
  have F32 := fun_mk (st := s_require_two_lots) l32 c32 k32
  have F33 := fun_mk (st := s__law_net) l33 c33 k33
  have F34 := fun_mk (st := s_corners) l34 c34 k34
  have F35 := fun_mk (st := s_between) l35 c35 k35
  have F36 := fun_mk (st := s_excesses) l36 c36 k36
  have F37 := fun_mk (st := s_Net_read) l37 c37 k37
  have F38 := fun_mk (st := s__law_made) l38 c38 k38
  have F39 := fun_mk (st := s__law_pair_right) l39 c39 k39
  have F40 := fun_mk (st := s_law) l40 c40 k40
  refine ⟨PySem.W.fnOf "law" "law" (defArgs s_law) (defBody s_law) (defScope s_law) .none kV40 dc40 pm40 an40 cd40 ct40, fun s v => .of_eq rfl, fun base _ _ => ?_⟩
  have G_Net___contains__ := ok_Net___contains__ (P := l.prog) (w := w) (base := base) T  F0 ca_Net ⟨a0, b0, k0⟩
  have G_is_integer := ok_is_integer (P := l.prog) (w := w) (base := base) T  F1 (PySem.W.mg_of X G a1)
  have G_is_word := ok_is_word (P := l.prog) (w := w) (base := base) T  F2 (PySem.W.mg_of X G a2)
  have G_ascending_rows := ok_ascending_rows (P := l.prog) (w := w) (base := base) T  F3 (PySem.W.mg_of X G a3)
  have G_integer_of_word := ok_integer_of_word (P := l.prog) (w := w) (base := base) T  F4 (PySem.W.mg_of X G a4)
  have G_require_net := ok_require_net (P := l.prog) (w := w) (base := base) T  F5 (PySem.W.mg_of X G a5)
  have G_cut_in := ok_cut_in (P := l.prog) (w := w) (base := base) T  F6 (PySem.W.mg_of X G a6)
  have G_opposite_in := ok_opposite_in (P := l.prog) (w := w) (base := base) T  F7 (PySem.W.mg_of X G a7)
  have G_corners_in := ok_corners_in (P := l.prog) (w := w) (base := base) T  F8 (PySem.W.mg_of X G a8)
  have G_between_in := ok_between_in (P := l.prog) (w := w) (base := base) T  F9 (PySem.W.mg_of X G a9)
  have G__law_dice := ok__law_dice (P := l.prog) (w := w) (base := base) T  F10 (PySem.W.mg_of X G a10)
  have G__law_roll := ok__law_roll (P := l.prog) (w := w) (base := base) T  F11 (PySem.W.mg_of X G a11)
  have G__law_pair := ok__law_pair (P := l.prog) (w := w) (base := base) T  F12 (PySem.W.mg_of X G a12)
  have G__law_pairs := ok__law_pairs (P := l.prog) (w := w) (base := base) T  F13 (PySem.W.mg_of X G a13)
  have G__law_with := ok__law_with (P := l.prog) (w := w) (base := base) T  F14 (PySem.W.mg_of X G a14)
  have G__law_cut := ok__law_cut (P := l.prog) (w := w) (base := base) T  F15 (PySem.W.mg_of X G a15)
  have G_is_within := ok_is_within (P := l.prog) (w := w) (base := base) T G_is_integer F16 (PySem.W.mg_of X G a16)
  have G_is_pair := ok_is_pair (P := l.prog) (w := w) (base := base) T G_is_word F17 (PySem.W.mg_of X G a17)
  have G_are_places := ok_are_places (P := l.prog) (w := w) (base := base) T G_is_word F18 (PySem.W.mg_of X G a18)
  have G_places_of_line := ok_places_of_line (P := l.prog) (w := w) (base := base) T G_is_word F19 (PySem.W.mg_of X G a19)
  have G_near_in := ok_near_in (P := l.prog) (w := w) (base := base) T G_ascending_rows F20 (PySem.W.mg_of X G a20)
  have G_is_lot_in := ok_is_lot_in (P := l.prog) (w := w) (base := base) T G_Net___contains__ F21 (PySem.W.mg_of X G a21)
  have G__law_pick := ok__law_pick (P := l.prog) (w := w) (base := base) T G__law_roll F22 (PySem.W.mg_of X G a22)
  have G__law_some := ok__law_some (P := l.prog) (w := w) (base := base) T G__law_roll F23 (PySem.W.mg_of X G a23)
  have G__law_lot := ok__law_lot (P := l.prog) (w := w) (base := base) T G__law_roll F24 (PySem.W.mg_of X G a24)
  have G_are_ties := ok_are_ties (P := l.prog) (w := w) (base := base) T G_is_pair G_is_within F25 (PySem.W.mg_of X G a25)
  have G_tie_of_line := ok_tie_of_line (P := l.prog) (w := w) (base := base) T G_is_pair G_integer_of_word F26 (PySem.W.mg_of X G a26)
  have G_require_lot := ok_require_lot (P := l.prog) (w := w) (base := base) T G_is_lot_in F27 (PySem.W.mg_of X G a27)
  have G__law_known_net := ok__law_known_net (P := l.prog) (w := w) (base := base) T G__law_pairs G__law_pair G__law_pick F28 (PySem.W.mg_of X G a28)
  have G_Net___init___3 := ok_Net___init___3 (P := l.prog) (w := w) (base := base) T G_are_places G_are_ties G_ascending_rows G_near_in F29 ca_Net ⟨a29, b29, k29⟩
  have G_Net_cut := ok_Net_cut (P := l.prog) (w := w) (base := base) T G_require_lot G_cut_in F30 ca_Net ⟨a30, b30, k30⟩
  have G_opposite := ok_opposite (P := l.prog) (w := w) (base := base) T G_require_net G_require_lot G_opposite_in F31 (PySem.W.mg_of X G a31)
  have G_require_two_lots := ok_require_two_lots (P := l.prog) (w := w) (base := base) T G_require_net G_require_lot F32 (PySem.W.mg_of X G a32)
  have G__law_net := ok__law_net (P := l.prog) (w := w) (base := base) T G__law_roll G__law_known_net G__law_pick G__law_some G__law_pair G__law_with G__law_pairs F33 (PySem.W.mg_of X G a33)
  have G_corners := ok_corners (P := l.prog) (w := w) (base := base) T G_require_two_lots G_corners_in F34 (PySem.W.mg_of X G a34)
  have G_between := ok_between (P := l.prog) (w := w) (base := base) T G_require_two_lots G_between_in F35 (PySem.W.mg_of X G a35)
  have G_excesses := ok_excesses (P := l.prog) (w := w) (base := base) T G_require_two_lots G_corners_in G_between_in F36 (PySem.W.mg_of X G a36)
  have G_Net_read := ok_Net_read (P := l.prog) (w := w) (base := base) T G_places_of_line G_tie_of_line G_Net___init___3 F37 ca_Net (PySem.W.mg_of X G cn_Net) ⟨r1_Net, r2_Net⟩ ⟨a37, ⟨_, b37⟩, e37⟩
  have G__law_made := ok__law_made (P := l.prog) (w := w) (base := base) T G_Net___init___3 F38 (PySem.W.mg_of X G a38)
  have G__law_pair_right := ok__law_pair_right (P := l.prog) (w := w) (base := base) T G_corners G__law_cut G_excesses G_between G_opposite G_Net_cut F39 (PySem.W.mg_of X G a39)
  exact ok_law_fn (P := l.prog) (w := w) (base := base) T G__law_dice G__law_net G__law_lot G__law_made G__law_pair_right G_Net_read G_between G_excesses F40 (PySem.W.mg_of X G a40)
end Lw
open PySem PySem.W PyProof.Rows
set_option maxRecDepth 100000 in
set_option maxHeartbeats 0 in
theorem PySem.Challenge.cw_keptways_k11_whole_cuts_of_two_lots_holds : PySem.Challenge.rw_keptways_k11_whole_cuts_of_two_lots.Holds := by
  w_on; o_law; k_head; (case hw => w_witness2)
  k_fill
  refine Pv.walk_lawW (l := PySem.Challenge.rw_keptways_k11_whole_cuts_of_two_lots) (k := 7) (F := Lw.D_law) rfl rfl ⟨rfl, by decide, by decide⟩ (fun w h Y => PySem.W.kIn_of Y) (fun w ns hl => @Lw.law_true ⟨w⟩ ns hl) ?G
  case G =>
    intro w mg fa h KX G hmg
    letI : Pv.HW := ⟨w⟩
    refine' Lw.all_mk (hw := rfl) KX G hmg ?cn_Net ?q1_Net ?q2_Net ?q3_Net ?q4_Net ?na_Net_own_degrees ?na_Net_own_near ?na_Net_own_places ?na_Net_own_ties ?m1_Net ?m2_Net ?en_InvalidLot ?en_InvalidNet ?en_InvalidOperation ?e1_InvalidLot ?e2_InvalidLot ?e3_InvalidLot ?e4_InvalidLot ?e1_InvalidNet ?e2_InvalidNet ?e3_InvalidNet ?e4_InvalidNet ?e1_InvalidOperation ?e2_InvalidOperation ?e3_InvalidOperation ?e4_InvalidOperation ?a0 ?b0 ?l0 ?c0 ?k0 ?a1 ?l1 ?c1 ?k1 ?a2 ?l2 ?c2 ?k2 ?a3 ?l3 ?c3 ?k3 ?a4 ?l4 ?c4 ?k4 ?a5 ?l5 ?c5 ?k5 ?a6 ?l6 ?c6 ?k6 ?a7 ?l7 ?c7 ?k7 ?a8 ?l8 ?c8 ?k8 ?a9 ?l9 ?c9 ?k9 ?a10 ?l10 ?c10 ?k10 ?a11 ?l11 ?c11 ?k11 ?a12 ?l12 ?c12 ?k12 ?a13 ?l13 ?c13 ?k13 ?a14 ?l14 ?c14 ?k14 ?a15 ?l15 ?c15 ?k15 ?a16 ?l16 ?c16 ?k16 ?a17 ?l17 ?c17 ?k17 ?a18 ?l18 ?c18 ?k18 ?a19 ?l19 ?c19 ?k19 ?a20 ?l20 ?c20 ?k20 ?a21 ?l21 ?c21 ?k21 ?a22 ?l22 ?c22 ?k22 ?a23 ?l23 ?c23 ?k23 ?a24 ?l24 ?c24 ?k24 ?a25 ?l25 ?c25 ?k25 ?a26 ?l26 ?c26 ?k26 ?a27 ?l27 ?c27 ?k27 ?a28 ?l28 ?c28 ?k28 ?a29 ?b29 ?l29 ?d29 ?c29 ?k29 ?a30 ?b30 ?l30 ?c30 ?k30 ?a31 ?l31 ?c31 ?k31 ?a32 ?l32 ?c32 ?k32 ?a33 ?l33 ?c33 ?k33 ?a34 ?l34 ?c34 ?k34 ?a35 ?l35 ?c35 ?k35 ?a36 ?l36 ?c36 ?k36 ?a37 ?b37 ?e37 ?l37 ?c37 ?k37 ?a38 ?l38 ?c38 ?k38 ?a39 ?l39 ?c39 ?k39 ?a40 ?l40 ?c40 ?k40 ?z_abs ?z_all ?z_any ?z_bool ?z_dict ?z_enumerate ?z_int ?z_isinstance ?z_len ?z_list ?z_max ?z_min ?z_range ?z_set ?z_sorted ?z_str ?z_sum ?z_tuple ?c_DIGITS ?c_LETTERS ?c_LONGEST ?c_MAX_LETTERS ?c_MAX_PLACES ?c_MAX_TIES ?i1_Net ?i4_Net ?i2_ ?i3_ ?r1_Net ?r2_Net
    (case cn_Net => k_is); (case q1_Net => k_is); (case q2_Net => k_is); (case q3_Net => k_is); (case q4_Net => k_is); (case na_Net_own_degrees => k_is); (case na_Net_own_near => k_is); (case na_Net_own_places => k_is); (case na_Net_own_ties => k_is); (case m1_Net => k_is); (case m2_Net => k_is); (case en_InvalidLot => k_is); (case en_InvalidNet => k_is); (case en_InvalidOperation => k_is); (case e1_InvalidLot => k_exc); (case e2_InvalidLot => k_is); (case e3_InvalidLot => k_is); (case e4_InvalidLot => k_is); (case e1_InvalidNet => k_exc); (case e2_InvalidNet => k_is); (case e3_InvalidNet => k_is); (case e4_InvalidNet => k_is); (case e1_InvalidOperation => k_exc); (case e2_InvalidOperation => k_is); (case e3_InvalidOperation => k_is); (case e4_InvalidOperation => k_is); (case a0 => k_is); (case b0 => k_is); (case l0 => k_is); (case c0 => k_is); (case k0 => k_is); (case a1 => k_is); (case l1 => k_is); (case c1 => k_is); (case k1 => k_is); (case a2 => k_is); (case l2 => k_is); (case c2 => k_is); (case k2 => k_is); (case a3 => k_is); (case l3 => k_is); (case c3 => k_is); (case k3 => k_is); (case a4 => k_is); (case l4 => k_is); (case c4 => k_is); (case k4 => k_is); (case a5 => k_is); (case l5 => k_is); (case c5 => k_is); (case k5 => k_is); (case a6 => k_is); (case l6 => k_is); (case c6 => k_is); (case k6 => k_is); (case a7 => k_is); (case l7 => k_is); (case c7 => k_is); (case k7 => k_is); (case a8 => k_is); (case l8 => k_is); (case c8 => k_is); (case k8 => k_is); (case a9 => k_is); (case l9 => k_is); (case c9 => k_is); (case k9 => k_is); (case a10 => k_is); (case l10 => k_is); (case c10 => k_is); (case k10 => k_is); (case a11 => k_is); (case l11 => k_is); (case c11 => k_is); (case k11 => k_is); (case a12 => k_is); (case l12 => k_is); (case c12 => k_is); (case k12 => k_is); (case a13 => k_is); (case l13 => k_is); (case c13 => k_is); (case k13 => k_is); (case a14 => k_is); (case l14 => k_is); (case c14 => k_is); (case k14 => k_is); (case a15 => k_is); (case l15 => k_is); (case c15 => k_is); (case k15 => k_is); (case a16 => k_is); (case l16 => k_is); (case c16 => k_is); (case k16 => k_is); (case a17 => k_is); (case l17 => k_is); (case c17 => k_is); (case k17 => k_is); (case a18 => k_is); (case l18 => k_is); (case c18 => k_is); (case k18 => k_is); (case a19 => k_is); (case l19 => k_is); (case c19 => k_is); (case k19 => k_is); (case a20 => k_is); (case l20 => k_is); (case c20 => k_is); (case k20 => k_is); (case a21 => k_is); (case l21 => k_is); (case c21 => k_is); (case k21 => k_is); (case a22 => k_is); (case l22 => k_is); (case c22 => k_is); (case k22 => k_is); (case a23 => k_is); (case l23 => k_is); (case c23 => k_is); (case k23 => k_is); (case a24 => k_is); (case l24 => k_is); (case c24 => k_is); (case k24 => k_is); (case a25 => k_is); (case l25 => k_is); (case c25 => k_is); (case k25 => k_is); (case a26 => k_is); (case l26 => k_is); (case c26 => k_is); (case k26 => k_is); (case a27 => k_is); (case l27 => k_is); (case c27 => k_is); (case k27 => k_is); (case a28 => k_is); (case l28 => k_is); (case c28 => k_is); (case k28 => k_is); (case a29 => k_is); (case b29 => k_is); (case l29 => k_is); (case d29 => k_is); (case c29 => k_is); (case k29 => k_is); (case a30 => k_is); (case b30 => k_is); (case l30 => k_is); (case c30 => k_is); (case k30 => k_is); (case a31 => k_is); (case l31 => k_is); (case c31 => k_is); (case k31 => k_is); (case a32 => k_is); (case l32 => k_is); (case c32 => k_is); (case k32 => k_is); (case a33 => k_is); (case l33 => k_is); (case c33 => k_is); (case k33 => k_is); (case a34 => k_is); (case l34 => k_is); (case c34 => k_is); (case k34 => k_is); (case a35 => k_is); (case l35 => k_is); (case c35 => k_is); (case k35 => k_is); (case a36 => k_is); (case l36 => k_is); (case c36 => k_is); (case k36 => k_is); (case a37 => k_is); (case b37 => k_is); (case e37 => k_is); (case l37 => k_is); (case c37 => k_is); (case k37 => k_is); (case a38 => k_is); (case l38 => k_is); (case c38 => k_is); (case k38 => k_is); (case a39 => k_is); (case l39 => k_is); (case c39 => k_is); (case k39 => k_is); (case a40 => k_is); (case l40 => k_is); (case c40 => k_is); (case k40 => k_is); (case z_abs => k_is); (case z_all => k_is); (case z_any => k_is); (case z_bool => k_is); (case z_dict => k_is); (case z_enumerate => k_is); (case z_int => k_is); (case z_isinstance => k_is); (case z_len => k_is); (case z_list => k_is); (case z_max => k_is); (case z_min => k_is); (case z_range => k_is); (case z_set => k_is); (case z_sorted => k_is); (case z_str => k_is); (case z_sum => k_is); (case z_tuple => k_is); (case c_DIGITS => k_is); (case c_LETTERS => k_is); (case c_LONGEST => k_is); (case c_MAX_LETTERS => k_is); (case c_MAX_PLACES => k_is); (case c_MAX_TIES => k_is); (case i1_Net => k_is); (case i4_Net => k_is); (case i2_ => k_is); (case i3_ => k_is); (case r1_Net => k_is); (case r2_Net => k_is)
#print axioms PySem.Challenge.cw_keptways_k11_whole_cuts_of_two_lots_holds
