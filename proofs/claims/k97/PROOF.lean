import PyProof.Rows.All
import Wide.All
import OpenK.AllK
import Wide.FinOn
import HandS.ForMost
import HandS.ExcCtx
import HandS.HotCalls
import HandS.ExcInit
import HandS.ExcIs
import HandS.ExcField
import HandS.Defaults
import KE.KExcSuper
import KE.KStateDown
import HandS.Head0
import HandS.Head1
import HandS.Head2
import HandS.HeadHook1
import HandS.HeadHook2
import HandS.HeadHook3
import PySem.Challenge.RW_markshome_k97_script_rows
import HandS.StrMore
import HandS.Wide
import HandS.Deep
import HandS.IsInst
import HandS.ExcOwn
import HandS.RaiseMore
import HandS.CallSlots
import HandS.DictComp
import HandS.Nested
import HandS.FStr
import HandS.ExcInitHot
import HandS.Text
import HandS.Iter
import HandS.More
import HandS.AnyAll
import HandS.Zip
import KE.GoesZip
import KE.GoesMore
import HandS.Ends
import HandS.HeadEnd
import Lean
set_option Elab.async false
set_option linter.all false
set_option maxRecDepth 100000
/-! Z0: values by depth (D), how a value stands for one (Rep), the state of a body by depth (Abs) -/
namespace Z
set_option autoImplicit false
open PySem PySem.Spec PyProof.Rows L2
abbrev St := L2.St

/-- the built-in types that isinstance is asked about -/
inductive Tg where
  | non | bl | int | str | lst | tup | dct
  deriving DecidableEq
def tgName : Tg → String
  | .non => "NoneType"
  | .bl => "bool"
  | .int => "int"
  | .str => "str"
  | .lst => "list"
  | .tup => "tuple"
  | .dct => "dict"
/-- a value by depth -/
inductive D where
  | non | bl (b : Bool) | int (i : Int) | str (x : Str)
  | lst (ds : List D) | tup (ds : List D)
  | dK (ks : List Key) (ds : List D) | dT (ks : List (List Key)) (ds : List D)
  | ins (C : Str) (ns : List Str) (ds : List D)
  | adr (a : Addr) | ty (n : Tg)
  | scr (ns : List Int) | kt (ds : List D)
  | exc (a d : Addr) (ns : List Str) (ds : List D)

/-- where the class x of the module stands -/
def gAdr (K : PySem.W.Frag) (x : Str) : Addr := match PySem.W.nsIn K mainGlobals x with
  | some (some (.ref a)) => a
  | _ => 0
mutual
def Rep (K : PySem.W.Frag) (G : Hp) : D → V → Prop
  | .non, v => v = .non
  | .bl b, v => v = .bl b
  | .int i, v => v = .int i
  | .str x, v => v = .str x
  | .lst ds, v => ∃ a xs, v = .ref a ∧ G a = some (.lst xs) ∧ RepL K G ds xs
  | .tup ds, v => ∃ a xs, v = .ref a ∧ G a = some (.tup xs) ∧ RepL K G ds xs
  | .kt ds, v => ∃ a xs, v = .ref a ∧ SqT K G a xs ∧ RepL K G ds xs
  | .dK ks ds, v => ∃ a xs, v = .ref a ∧ Rd G a (.dK (ks.zip xs)) ∧ ks.length = ds.length ∧ RepL K G ds xs
  | .dT ks ds, v => ∃ a xs, v = .ref a ∧ Rd G a (.dT (ks.zip xs)) ∧ ks.length = ds.length ∧ RepL K G ds xs
  | .ins C ns ds, v => ∃ a dx xs, v = .ref a ∧ G a = some (.ins (gAdr K C) dx (ns.zip xs)) ∧ G dx = some (.own a) ∧ ns.length = ds.length ∧ RepL K G ds xs
  | .adr a, v => v = .ref a
  | .ty n, v => v = .ty (tgName n)
  | .scr ns, v => ∃ a, v = .ref a ∧ SqL K G a (ns.map V.int)
  | .exc a d ns ds, v => v = .ref a ∧ ∃ xs, G d = some (.xd (ns.zip xs)) ∧ ns.length = ds.length ∧ RepL K G ds xs
def RepL (K : PySem.W.Frag) (G : Hp) : List D → List V → Prop
  | [], xs => xs = []
  | d :: ds, xs => ∃ x r, xs = x :: r ∧ Rep K G d x ∧ RepL K G ds r
end

theorem Same.rd {G G' : Hp} (s : Same G G') {a : Addr} {u : HO} (h : Rd G a u) : Rd G' a u := by
  rcases h with h | ⟨o, h⟩
  · exact .inl (s _ _ h)
  · exact .inr ⟨o, s _ _ h⟩
theorem Same.seqT {K : PySem.W.Frag} {H H' : Hp} {a : Addr} {xs : List V} (e : Same H H') (h : SqT K H a xs) : SqT K H' a xs := by
  rcases h with h | h
  · exact .inl (Same.rd e h)
  · exact .inr h
mutual
theorem Rep.mono {K : PySem.W.Frag} {G G' : Hp} (s : Same G G') : ∀ {d : D} {v : V}, Rep K G d v → Rep K G' d v
  | .non, _, h => h
  | .bl _, _, h => h
  | .int _, _, h => h
  | .str _, _, h => h
  | .lst ds, _, ⟨a, xs, e, q, r⟩ => ⟨a, xs, e, s _ _ q, RepL.mono s r⟩
  | .tup ds, _, ⟨a, xs, e, q, r⟩ => ⟨a, xs, e, s _ _ q, RepL.mono s r⟩
  | .kt ds, _, ⟨a, xs, e, q, r⟩ => ⟨a, xs, e, Same.seqT s q, RepL.mono s r⟩
  | .dK ks ds, _, ⟨a, xs, e, q, l, r⟩ => ⟨a, xs, e, Same.rd s q, l, RepL.mono s r⟩
  | .dT ks ds, _, ⟨a, xs, e, q, l, r⟩ => ⟨a, xs, e, Same.rd s q, l, RepL.mono s r⟩
  | .ins C ns ds, _, ⟨a, dx, xs, e, q, q2, l, r⟩ => ⟨a, dx, xs, e, s _ _ q, s _ _ q2, l, RepL.mono s r⟩
  | .adr _, _, h => h
  | .ty _, _, h => h
  | .scr ns, _, ⟨a, e, q⟩ => ⟨a, e, s.seq q⟩
  | .exc a d ns ds, _, ⟨e, xs, q, l, r⟩ => ⟨e, xs, s _ _ q, l, RepL.mono s r⟩
theorem RepL.mono {K : PySem.W.Frag} {G G' : Hp} (s : Same G G') : ∀ {ds : List D} {xs : List V}, RepL K G ds xs → RepL K G' ds xs
  | [], _, h => h
  | d :: ds, _, ⟨x, r, e, h, t⟩ => ⟨x, r, e, Rep.mono s h, RepL.mono s t⟩
end
section
variable {K : PySem.W.Frag} {G : Hp}
theorem RepL.length : ∀ {ds : List D} {xs : List V}, RepL K G ds xs → ds.length = xs.length
  | [], _, h => by rw [show _ = [] from h]; rfl
  | d :: ds, _, ⟨x, r, e, h, t⟩ => by rw [e, List.length_cons, List.length_cons, RepL.length t]
theorem RepL.get : ∀ {ds : List D} {xs : List V} {i : Nat} {d : D}, RepL K G ds xs → ds[i]? = some d → ∃ x, xs[i]? = some x ∧ Rep K G d x
  | [], _, _, _, _, e => by simp at e
  | d :: ds, _, 0, d', ⟨x, r, e, h, t⟩, q => by
    have : d = d' := by simpa using q
    subst this
    exact ⟨x, by rw [e]; rfl, h⟩
  | d :: ds, _, i + 1, d', ⟨x, r, e, h, t⟩, q => by
    obtain ⟨y, q1, q2⟩ := RepL.get (i := i) t (by simpa using q)
    exact ⟨y, by rw [e]; simpa using q1, q2⟩
theorem RepL.get' : ∀ {ds : List D} {xs : List V} {i : Nat} {x : V}, RepL K G ds xs → xs[i]? = some x → ∃ d, ds[i]? = some d ∧ Rep K G d x := fun {ds xs i x} r q => by
  have l := r.length
  have hi : i < ds.length := by rw [l]; exact (List.getElem?_eq_some_iff.mp q).1
  obtain ⟨y, h1, h2⟩ := r.get (List.getElem?_eq_getElem hi)
  rw [q] at h1
  cases h1
  exact ⟨_, List.getElem?_eq_getElem hi, h2⟩
theorem RepL.append : ∀ {ds es : List D} {xs ys : List V}, RepL K G ds xs → RepL K G es ys → RepL K G (ds ++ es) (xs ++ ys)
  | [], _, _, _, h, t => by rw [show _ = [] from h]; exact t
  | d :: ds, _, _, _, ⟨x, r, e, h, t⟩, q => ⟨x, r ++ _, by rw [e]; rfl, h, RepL.append t q⟩
theorem RepL.nil : RepL K G [] [] := rfl
theorem RepL.cons {d : D} {ds : List D} {x : V} {xs : List V} (h : Rep K G d x) (t : RepL K G ds xs) : RepL K G (d :: ds) (x :: xs) := ⟨x, xs, rfl, h, t⟩
theorem RepL.one {d : D} {x : V} (h : Rep K G d x) : RepL K G [d] [x] := .cons h .nil
theorem RepL.take : ∀ {ds : List D} {xs : List V} (n : Nat), RepL K G ds xs → RepL K G (ds.take n) (xs.take n)
  | _, _, 0, _ => rfl
  | [], _, _ + 1, h => by rw [show _ = [] from h]; rfl
  | d :: ds, _, n + 1, ⟨x, r, e, h, t⟩ => by rw [e]; exact ⟨x, _, rfl, h, RepL.take n t⟩
theorem RepL.drop : ∀ {ds : List D} {xs : List V} (n : Nat), RepL K G ds xs → RepL K G (ds.drop n) (xs.drop n)
  | _, _, 0, r => r
  | [], _, _ + 1, h => by rw [show _ = [] from h]; rfl
  | d :: ds, _, n + 1, ⟨x, r, e, h, t⟩ => by rw [e]; exact RepL.drop n t
theorem RepL.ints : ∀ {ns : List Int} {xs : List V}, RepL K G (ns.map D.int) xs ↔ xs = ns.map V.int
  | [], _ => ⟨fun h => h, fun h => h⟩
  | n :: ns, xs => ⟨fun ⟨x, r, e, h, t⟩ => by rw [e, show x = _ from h, RepL.ints.mp t]; rfl, fun h => ⟨_, _, h, rfl, RepL.ints.mpr rfl⟩⟩
theorem RepL.strs : ∀ {ns : List Str} {xs : List V}, RepL K G (ns.map D.str) xs ↔ xs = ns.map V.str
  | [], _ => ⟨fun h => h, fun h => h⟩
  | n :: ns, xs => ⟨fun ⟨x, r, e, h, t⟩ => by rw [e, show x = _ from h, RepL.strs.mp t]; rfl, fun h => ⟨_, _, h, rfl, RepL.strs.mpr rfl⟩⟩
theorem RepL.set : ∀ {ds : List D} {xs : List V} (i : Nat) {d : D} {x : V}, RepL K G ds xs → Rep K G d x → RepL K G (ds.set i d) (xs.set i x)
  | [], _, _, _, _, h, _ => by rw [show _ = [] from h]; rfl
  | d :: ds, _, 0, _, _, ⟨x, r, e, h, t⟩, q => by rw [e]; exact ⟨_, _, rfl, q, t⟩
  | d :: ds, _, i + 1, _, _, ⟨x, r, e, h, t⟩, q => by rw [e]; exact ⟨_, _, rfl, h, RepL.set i t q⟩
theorem RepL.split : ∀ {ds es : List D} {xs : List V}, RepL K G (ds ++ es) xs → ∃ ys zs, xs = ys ++ zs ∧ RepL K G ds ys ∧ RepL K G es zs
  | [], _, xs, h => ⟨[], xs, rfl, rfl, h⟩
  | d :: ds, es, _, ⟨x, r, e, h, t⟩ => by
    obtain ⟨ys, zs, e2, h1, h2⟩ := RepL.split t
    exact ⟨x :: ys, zs, by rw [e, e2]; rfl, ⟨x, ys, rfl, h, h1⟩, h2⟩
end

/-- heap-free values -/
def flat : D → Bool
  | .non | .bl _ | .int _ | .str _ | .adr _ | .ty _ => true
  | _ => false
theorem Rep.flat {K : PySem.W.Frag} {G G' : Hp} {d : D} {v : V} (f : flat d = true) (h : Rep K G d v) : Rep K G' d v := by
  cases d <;> first | exact h | (exact Bool.noConfusion f)

/-- a dict is neither a list nor an instance -/
def isD : HO → Bool
  | .dK _ | .dT _ => true
  | _ => false
/-- what a slot holds: nothing known, a shared value, an object of one's own (it may be changed), the store -/
inductive Sl where
  | un | sh (d : D) | ow (d : D) | st
structure Par where
  K : PySem.W.Frag
  /-- the heap at the entry that must stand -/
  F : Hp
  /-- the shared part at the entry -/
  G0 : Hp
  /-- dicts that a loop walks now, as they stand locked -/
  L : Hp
  /-- where the law's store stands -/
  st : Option Addr

/-- an object of one's own, of content d, at p -/
def OwnC (K : PySem.W.Frag) (G H : Hp) (p : Addr) : D → Prop
  | .lst ds => ∃ xs, H p = some (.lst xs) ∧ RepL K G ds xs
  | .dK ks ds => ∃ xs, H p = some (.dK (ks.zip xs)) ∧ ks.length = ds.length ∧ RepL K G ds xs
  | .dT ks ds => ∃ xs, H p = some (.dT (ks.zip xs)) ∧ ks.length = ds.length ∧ RepL K G ds xs
  | _ => False
/-- the law's store of numbers -/
def StoC (K : PySem.W.Frag) (G H : Hp) (p : Addr) : Prop :=
  ∃ (b : Addr) (cells : List Int) (i s c x y : Int), H p = some (.lst [.ref b, .int i, .int s, .int c, .int x, .int y]) ∧ G b = some (.lst (cells.map V.int)) ∧ 0 ≤ i ∧ 0 ≤ c ∧ cells.length ≤ 63 ∧
    0 ≤ s ∧ s < 2147483648
structure Free (p : Par) (G : Hp) (a : Addr) : Prop where
  f : p.F a = none
  g : G a = none
  s : p.st ≠ some a

/-- the address that a slot of one's own holds -/
def ownAdr : Sl → Option V → Option Addr
  | .ow _, some (.ref p) => some p
  | _, _ => none
def SlotOk (p : Par) (G H : Hp) : Sl → Option V → Prop
  | .un, _ => True
  | .sh d, v => ∃ x, v = some x ∧ Rep p.K G d x
  | .ow d, v => ∃ a, v = some (.ref a) ∧ Free p G a ∧ OwnC p.K G H a d
  | .st, v => ∃ a, v = some (.ref a) ∧ p.st = some a
/-- the state but the slots -/
structure Bas (p : Par) (G H : Hp) : Prop where
  same : ∀ a o, G a = some o → p.L a = none → H a = some o
  lock : ∀ a u, p.L a = some u → ∃ o ob, u = .frz ob o ∧ G a = some o ∧ isD o = true ∧ H a = some u
  frame : ∀ a o, p.F a = some o → p.L a = none → H a = some o
  dom : ∀ a, p.F a ≠ none → G a = p.G0 a
  sto : ∀ a, p.st = some a → StoC p.K G H a ∧ G a = none ∧ p.F a = none
structure Abs (p : Par) (G : Hp) (σ : St) (H : Hp) (ρ : List Sl) : Prop extends Bas p G H where
  len : ρ.length = σ.length
  slots : ∀ (i : Nat) (s : Sl) (v : Option V), ρ[i]? = some s → σ[i]? = some v → SlotOk p G H s v
  dist : ∀ (i j : Nat) (s t : Sl) (v w : Option V) (a : Addr), i ≠ j → ρ[i]? = some s → ρ[j]? = some t → σ[i]? = some v → σ[j]? = some w → ownAdr s v = some a → ownAdr t w = some a → False

/-- a result -/
inductive Rs where
  | val (d : D) | own (d : D) | sto
/-- no slot of one's own holds a -/
def NotOwn (σ : St) (ρ : List Sl) (a : Addr) : Prop := ∀ (i : Nat) (s : Sl) (v : Option V), ρ[i]? = some s → σ[i]? = some v → ownAdr s v ≠ some a
def ResOk (p : Par) (G H : Hp) (σ : St) (ρ : List Sl) : Rs → V → Prop
  | .val d, v => Rep p.K G d v
  | .own d, v => ∃ a, v = .ref a ∧ Free p G a ∧ OwnC p.K G H a d ∧ NotOwn σ ρ a
  | .sto, v => ∃ a, v = .ref a ∧ Free p G a ∧ StoC p.K G H a ∧ NotOwn σ ρ a

/-- an exception: its class by name, its fields -/
structure Ex where
  cls : Str
  fs : List (Str × D)
def FsRep : List (Str × D) → List (Str × V) → Prop
  | [], l => l = []
  | (n, d) :: r, l => ∃ v t, l = (n, v) :: t ∧ flat d = true ∧ Rep [] (fun _ => none) d v ∧ FsRep r t
def ExOk (K : PySem.W.Frag) (G : Hp) (x : Ex) (cls : Value) (dd : Option Addr) : Prop :=
  cls = .ref (gAdr K x.cls) ∧ ∃ a fs, dd = some a ∧ G a = some (.xd fs) ∧ FsRep x.fs fs
abbrev RX := Ex → List Sl → Prop
def RzOk (p : Par) (W : WX) (σ : St) (G : Hp) (R : RX) : Prop := ∀ G' H' ρ' x cls dd, Abs p G' σ H' ρ' → Same G G' → ExOk p.K G' x cls dd → R x ρ' → W cls dd σ H'
theorem RzOk.mono {p : Par} {W : WX} {σ : St} {G G' : Hp} {R : RX} (h : RzOk p W σ G R) (s : Same G G') : RzOk p W σ G' R := fun G2 H' ρ' x cls dd A s2 e r => h G2 H' ρ' x cls dd A (s.trans s2) e r

abbrev W2 := List Sl → (Rs → List Sl → Prop) → RX → Prop
abbrev V2 := List Sl → (D → List Sl → Prop) → RX → Prop
/-- an expression's reading by depth; its value shared; a test's -/
structure PE2 (X : Cx) (W : WX) (e : Expr) (w : W2) : Prop where
  ex : ∃ t, PE X e t ∧ ∀ (p : Par) (G : Hp) (σ : St) (H : Hp) (ρ : List Sl) (Q : Rs → List Sl → Prop) (R : RX) (C : VK), p.K = X.K → Abs p G σ H ρ → RzOk p W σ G R → w ρ Q R →
    (∀ G' H' r ρ' v, Abs p G' σ H' ρ' → Same G G' → ResOk p G' H' σ ρ' r v → Q r ρ' → C v H') → t σ H C
structure PV2 (X : Cx) (W : WX) (e : Expr) (w : V2) : Prop where
  ex : ∃ t, PE X e t ∧ ∀ (p : Par) (G : Hp) (σ : St) (H : Hp) (ρ : List Sl) (Q : D → List Sl → Prop) (R : RX) (C : VK), p.K = X.K → Abs p G σ H ρ → RzOk p W σ G R → w ρ Q R →
    (∀ G' H' d ρ' v, Abs p G' σ H' ρ' → Same G G' → Rep p.K G' d v → Q d ρ' → C v H') → t σ H C
abbrev T2 := List Sl → (Bool → List Sl → Prop) → RX → Prop
structure PT2 (X : Cx) (W : WX) (e : Expr) (w : T2) : Prop where
  ex : ∃ t, PT X e t ∧ ∀ (p : Par) (G : Hp) (σ : St) (H : Hp) (ρ : List Sl) (Q : Bool → List Sl → Prop) (R : RX) (C : Bool → Hp → Prop), p.K = X.K → Abs p G σ H ρ → RzOk p W σ G R → w ρ Q R →
    (∀ G' H' b ρ', Abs p G' σ H' ρ' → Same G G' → Q b ρ' → C b H') → t σ H C
/-- a test whatever its whole is -/
structure PW2 (X : Cx) (W : WX) (e : Expr) (w : T2) : Prop where
  ex : ∃ t, PW X e t ∧ ∀ (p : Par) (G : Hp) (σ : St) (H : Hp) (ρ : List Sl) (Q : Bool → List Sl → Prop) (R : RX) (C : Bool → Hp → Prop), p.K = X.K → Abs p G σ H ρ → RzOk p W σ G R → w ρ Q R →
    (∀ G' H' b ρ', Abs p G' σ H' ρ' → Same G G' → Q b ρ' → C b H') → t σ H C
abbrev A2 := List Sl → (List D → List Sl → Prop) → RX → Prop
structure PA2 (X : Cx) (W : WX) (es : List Expr) (w : A2) : Prop where
  ex : ∃ t, PA X es t ∧ ∀ (p : Par) (G : Hp) (σ : St) (H : Hp) (ρ : List Sl) (Q : List D → List Sl → Prop) (R : RX) (C : List V → Hp → Prop), p.K = X.K → Abs p G σ H ρ → RzOk p W σ G R → w ρ Q R →
    (∀ G' H' ds ρ' vs, Abs p G' σ H' ρ' → Same G G' → RepL p.K G' ds vs → Q ds ρ' → C vs H') → t σ H C
/-- an operand: a slot that is looked at when the operation is done, or a value -/
inductive B where
  | val (d : D) | slot (i : Nat)
abbrev O2 := List Sl → (B → List Sl → Prop) → RX → Prop
def OpdOk (p : Par) (G : Hp) (σ : St) : B → V → Prop
  | .val d, v => Rep p.K G d v
  | .slot i, v => σ[i]? = some (some v)
structure PB2 (X : Cx) (W : WX) (e : Expr) (w : O2) : Prop where
  ex : ∃ t, PE X e t ∧ ∀ (p : Par) (G : Hp) (σ : St) (H : Hp) (ρ : List Sl) (Q : B → List Sl → Prop) (R : RX) (C : VK), p.K = X.K → Abs p G σ H ρ → RzOk p W σ G R → w ρ Q R →
    (∀ G' H' b ρ' v, Abs p G' σ H' ρ' → Same G G' → OpdOk p G' σ b v → Q b ρ' → C v H') → t σ H C
/-- the content of a slot -/
def slotD (ρ : List Sl) (i : Nat) : Option D := match ρ[i]? with
  | some (.sh d) => some d
  | some (.ow d) => some d
  | _ => none
def bD (ρ : List Sl) : B → Option D
  | .val d => some d
  | .slot i => slotD ρ i
/-- readable: the top level in H, what lies in it in G -/
def Bor (K : PySem.W.Frag) (G H : Hp) : D → V → Prop
  | .lst ds, v => ∃ a xs, v = .ref a ∧ H a = some (.lst xs) ∧ RepL K G ds xs
  | .tup ds, v => ∃ a xs, v = .ref a ∧ (H a = some (.tup xs) ∧ G a = some (.tup xs)) ∧ RepL K G ds xs
  | .kt ds, v => ∃ a xs, v = .ref a ∧ SqT K H a xs ∧ RepL K G ds xs
  | .dK ks ds, v => ∃ a xs, v = .ref a ∧ Rd H a (.dK (ks.zip xs)) ∧ ks.length = ds.length ∧ RepL K G ds xs
  | .dT ks ds, v => ∃ a xs, v = .ref a ∧ Rd H a (.dT (ks.zip xs)) ∧ ks.length = ds.length ∧ RepL K G ds xs
  | .ins C ns ds, v => (∃ a dx xs, v = .ref a ∧ H a = some (.ins (gAdr K C) dx (ns.zip xs)) ∧ H dx = some (.own a) ∧ ns.length = ds.length ∧ RepL K G ds xs) ∧ Rep K G (.ins C ns ds) v
  | .scr ns, v => ∃ a, v = .ref a ∧ SqL K H a (ns.map V.int)
  | d, v => Rep K G d v
end Z

set_option maxHeartbeats 2000000
/-! what stands behind the top: one Hook for defs, error classes, tables -/
namespace Z
set_option autoImplicit false
open PySem PySem.Spec PyProof.Rows L2
def asZ (g : Addr → Option Obj) : Nat → List Addr
  | 0 => [mainGlobals, cStatics]
  | n + 1 => He.growD g (asZ g n)
abbrev FnI : Type := Option (Str × Str × Arguments × FuncBody × Scope × Addr × Addr)
def fnI (K : PySem.W.Frag) (a : Addr) : FnI := match K.lookup a with
  | some ⟨_, _, .func fd, _⟩ => some (fd.name, fd.qualname, fd.params, fd.body, fd.scope, fd.globals, fd.builtins)
  | _ => none
/-- a def of the text: where its function stands, what it is -/
structure Dd where
  at_ : PySem.W.Frag → Addr
  name : Str
  qual : Str
  st : Stmt
def Dd.val (d : Dd) : FnI := some (d.name, d.qual, defArgs d.st, .stmts (defBody d.st), defScope d.st, mainGlobals, builtinsNs)
abbrev Ob : Type := Bool × List FnI × List (Option (List (Option (Str × Int))))
def obZ (ck : List (PySem.W.Frag → Bool)) (fn : List Dd) (ts : List (Str × List Str)) (K : PySem.W.Frag) : Ob := (ck.all fun c => c K, fn.map fun d => fnI K (d.at_ K), ts.map fun t => He.dicW K (gAdr K t.1))
def vlZ (fn : List Dd) (ts : List (Str × List Str)) (w : World) : Ob := (true, fn.map Dd.val, ts.map fun t => some (He.keysIn w.params t.2))
def obGZ (n : Nat) (ck : List (PySem.W.Frag → Bool)) (fn : List Dd) (ts : List (Str × List Str)) (g : Addr → Option Obj) : Ob := obZ ck fn ts (He.frG g (asZ g n))
def hookZ (n : Nat) (ck : List (PySem.W.Frag → Bool)) (fn : List Dd) (ts : List (Str × List Str)) : PySem.W.Hook where
  α := Ob
  obs := fun s => obGZ n ck fn ts s.heap.get?
  val := fun w => vlZ fn ts w
  says := fun w h => ∃ K : PySem.W.Frag, K.In h ∧ obZ ck fn ts K = vlZ fn ts w
  of := fun _ _ e => ⟨_, He.frG_in, e⟩
  keeps := fun _ _ _ ⟨K, hK, c⟩ k => ⟨K, PySem.W.Frag.In.keeps hK k, c⟩
theorem obGZ_eq {n : Nat} {ck : List (PySem.W.Frag → Bool)} {fn : List Dd} {ts : List (Str × List Str)} {g : Addr → Option Obj} {s : Shared} (h : ∀ a, g a = s.heap.get? a) : obGZ n ck fn ts g = (hookZ n ck fn ts).obs s := by
  have e : g = s.heap.get? := funext h
  rw [e] <;> rfl
def eqO (a b : Option (Option Value)) : Bool := decide (a = b)
theorem eqO_ok {a b : Option (Option Value)} (h : eqO a b = true) : a = b := of_decide_eq_true h
def glB (x : Str) (K : PySem.W.Frag) : Bool := eqO (PySem.W.nsIn K mainGlobals x) (some (some (.ref (gAdr K x))))
def frB (x : Str) (K : PySem.W.Frag) : Bool := eqO (PySem.W.nsIn K mainGlobals x) (some none)
def intB (x : Str) (i : Int) (K : PySem.W.Frag) : Bool := match PySem.W.nsIn K mainGlobals x with
  | some (some (.int j _)) => decide (j = i)
  | _ => false
def strB (x z : Str) (K : PySem.W.Frag) : Bool := match PySem.W.nsIn K mainGlobals x with
  | some (some (.str y _)) => decide (y = z)
  | _ => false
def isNo : Value → Bool
  | .none => true
  | _ => false
theorem isNo_ok {v : Value} (h : isNo v = true) : v = .none := by cases v <;> first | rfl | cases h
def plB (a : PySem.W.Frag → Addr) (q : Str) (K : PySem.W.Frag) : Bool := PySem.W.keepIn K (.ref (a K)) && match K.lookup (a K) with
  | some ⟨_, _, .func fd, _⟩ => PySem.W.codeIn K fd.code q && (isNo fd.defaults && fd.closure.isEmpty)
  | _ => false
def oexB (C : Addr) (K : PySem.W.Frag) : Bool := (match K.lookup C with
  | some ⟨.type t, _, .cls cd, sl⟩ => decide (t = "type") && (cd.hasDict && (!cd.hasDel && match cd.mro, sl.toList with
    | .ref C' :: bm, [_, _, _, _, some (.builtin n), _] => decide (C' = C) && (decide (n = "ValueError.__new__") && PySem.HandSPX.refsVE bm)
    | _, _ => false))
  | _ => false) && (eqO (PySem.W.findIn K (.ref C) "__setattr__") (some (some (.builtin "object.__setattr__"))) && (decide (PySem.W.subIn K (.ref C) (.type "BaseException") = some true) && (decide (PySem.W.typeIn K (.ref C) = some (.type "type")) && PySem.W.keepIn K (.ref C))))
def iniA (x : Str) (K : PySem.W.Frag) : Addr := match PySem.W.findIn K (.ref (gAdr K x)) "__init__" with
  | some (some (.ref a)) => a
  | _ => 0
def iniB (file0 x q : Str) (K : PySem.W.Frag) : Bool := (match K.lookup (iniA x K) with
  | some ⟨_, _, .func fd, _⟩ => isNo fd.defaults && (isNo fd.kwdefaults && (fd.annotations.isNone && match fd.code, fd.closure with
    | .ref c, [(n, cc)] => decide (n = "__class__") && (PySem.W.codeIn K (.ref c) q && ((match K.lookup cc with
      | some ⟨_, _, .cell (some (.ref C)), _⟩ => decide (C = gAdr K x)
      | _ => false) && match K.lookup c with
      | some ⟨_, _, .fields vs, _⟩ => (match vs[2]? with
        | some (Value.str file _) => file0 == file
        | _ => false)
      | _ => false))
    | _, _ => false))
  | _ => false) && (eqO (PySem.W.nsIn K cStatics "thirdparty.any") (some none) && (decide (PySem.W.ks_superIn K (gAdr K x) (gAdr K x) "__init__" = some (some (.builtin "ValueError.__init__"))) && (decide (PySem.W.subIn K (.ref (gAdr K x)) (.type "ValueError") = some true) &&
    (decide (PySem.W.mroIn K (gAdr K x) (.ref (gAdr K x)) = some true) && (eqO (PySem.W.findIn K (.ref (gAdr K x)) "__init__") (some (some (.ref (iniA x K)))) && (decide (PySem.W.typeIn K (.ref (iniA x K)) = some (.type "function")) && oexB (gAdr K x) K))))))
def excB (a : Addr) (K : PySem.W.Frag) : Bool := eqO (PySem.W.findIn K (.ref a) "__getattribute__") (some (some (.builtin "BaseException.__getattribute__"))) && (eqO (PySem.W.findIn K (.ref a) "__getattr__") (some none) && (decide (PySem.W.subIn K (.ref a) (.type "BaseException") = some true) && (PySem.W.hasDictIn K a &&
  (eqO (PySem.W.findIn K (.ref a) "__class__") (some (some (.builtin "object.__class__"))) && (eqO (PySem.W.specialIn K (.builtin "object.__class__") "__get__") (some (some (.builtin "getset_descriptor.__get__"))) && (decide (PySem.W.takesIn K (.builtin "object.__class__") = some true) && decide (PySem.W.mroIn K a (.type "object") = some true)))))))
def errB (home : Str) (errs flds : List Str) (c : Str) (K : PySem.W.Frag) : Bool := glB c K && (excB (gAdr K c) K && (xfB K (gAdr K c) && ((errs.all fun c' => decide (PySem.W.kitOne K (.ref (gAdr K c)) (.ref (gAdr K c')) = some (decide (c = c')))) &&
  (decide (PySem.W.kitOne K (.ref (gAdr K c)) (.type "ValueError") = some true) && (decide (PySem.W.exmOne K (.ref (gAdr K c)) (.ref (gAdr K home)) = some true) && flds.all fun f => eqO (PySem.W.findIn K (.ref (gAdr K c)) f) (some none))))))
def errsB (home : Str) (errs flds : List Str) (K : PySem.W.Frag) : Bool := glB home K && errs.all fun c => errB home errs flds c K
def tupD (K : PySem.W.Frag) (ds : List D) (a : Addr) : Bool := match K.lookup a with
  | some ⟨.type c, _, .seq its _, _⟩ => decide (c = "tuple") && (decide (its.size ≤ sizeLine) && (decide (its.size = ds.length) && (ds.zip its.toList).all fun q => match q.1, q.2 with
      | .str x, .str y _ => decide (x = y)
      | .int i, .int j _ => decide (i = j)
      | _, _ => false))
  | _ => false
def datB (K : PySem.W.Frag) : D → Value → Bool
  | .int i, .int j _ => decide (i = j)
  | .str x, .str y _ => decide (x = y)
  | .kt ds, .ref a => tupD K ds a
  | _, _ => false
def tabB (x : Str) (t : List (Str × D)) (K : PySem.W.Frag) : Bool := glB x K && t.all fun p => match PySem.W.nsIn K (gAdr K x) p.1 with
  | some (some u) => datB K p.2 u
  | _ => false
def initOf (st : Stmt) : Stmt := match st with
  | .ClassDef _ _ _ body _ _ _ _ _ _ _ => body.getD 0 st
  | _ => st
def noB (x f : Str) (K : PySem.W.Frag) : Bool := eqO (PySem.W.findIn K (.ref (gAdr K x)) f) (some none)
theorem noB_ok {x f : Str} {K : PySem.W.Frag} (h : noB x f K = true) : PySem.W.findIn K (.ref (gAdr K x)) f = some none := eqO_ok h
end Z

set_option maxHeartbeats 4000000
namespace K97
set_option autoImplicit false
open PySem PySem.Spec PyProof.Rows L2 Z
abbrev prog : Program := PySem.Challenge.pw_markshome_k97_script_rows
def topS (i : Nat) : Stmt := prog.main.body.getD i (.Pass ⟨0, 0, 0, 0⟩)
abbrev homeE : Str := "HomeError"
abbrev errsE : List Str := ["BadName", "OutOfRange", "TooMany", "Duplicate", "UnknownHouse", "UnknownLine", "BadLot", "BadPair", "Weak", "BadTree", "BadLog", "BadTable", "Unlike", "BadText"]
abbrev fldsE : List Str := ["name", "row", "place", "what"]
/-- the kinds of words -/
inductive Kd where
  | n | c | m
  deriving DecidableEq
def kdS : Kd → Str
  | .n => "name"
  | .c => "count"
  | .m => "most"
def formsL : List (Str × List Kd) := [("net", [.n, .n]), ("house", [.n, .n]), ("line", [.n, .n, .n, .n]), ("cut", [.n, .n]), ("build", [.n, .c]), ("break", [.n, .n]), ("mend", [.n, .n]), ("send", [.n, .n]), ("each", [.n]), ("worst", [.n, .m])]
def ktD (ks : List Kd) : D := .kt (ks.map fun k => .str (kdS k))
def tab_FORMS : List (Str × D) := formsL.map fun p => (p.1, ktD p.2)
def tab_GREATEST : List (Str × D) := [("count", .int 4), ("most", .int 3)]
end K97

set_option maxHeartbeats 0
namespace K97
open PySem PySem.Spec PyProof.Rows L2 Z
def loose0 : List Str := ["HomeError", "BadName", "OutOfRange", "TooMany", "Duplicate", "UnknownHouse", "UnknownLine", "BadLot", "BadPair", "Weak", "BadTree", "BadLog", "BadTable", "Unlike", "BadText", "LONGEST_NAME", "LETTERS", "LETTERS_AND_DIGITS", "is_name", "NAME", "FORMS", "GREATEST", "word_value", "read_row", "has_kind", "is_row_words", "write_row", "_law_mixed", "_law_store", "_law_advance"]
def loose1 : List Str := ["_law_take", "_law_pick", "_law_outside", "_law_size", "_law_put", "_law_set", "_law_sign", "_law_text", "_law_free_name", "_law_is_name", "_law_bad_word", "_law_bad_name", "_law_words", "_law_row_fault", "_law_row_form", "_law_read_row", "_law_is_words", "_law_draw_words", "_law_row_text", "_law_bent_words", "_law_refusal", "_law_like", "_law_read", "_law_write", "_law_look", "_law_look_words", "_law_bent_sign", "_law_near_row"]
def loose : List Str := loose0 ++ loose1
abbrev R : PySem.W.OpenRow := PySem.W.OpenLaw.row PySem.Challenge.rw_markshome_k97_script_rows
def ck : List (PySem.W.Frag → Bool) := [frB "super",
  frB "range",
  frB "int",
  frB "max",
  frB "len",
  frB "tuple",
  frB "str",
  frB "list",
  frB "min",
  frB "isinstance",
  frB "all",
  intB "LONGEST_NAME" 8,
  strB "LETTERS_AND_DIGITS" "abcdefghijklmnopqrstuvwxyz0123456789",
  strB "LETTERS" "abcdefghijklmnopqrstuvwxyz",
  strB "NAME" "name",
  frB "zip",
  frB "ValueError",
  frB "bool",
  tabB "GREATEST" tab_GREATEST,
  tabB "FORMS" tab_FORMS,
  errsB homeE errsE fldsE,
  glB "BadText",
  iniB "/claim/cut.py" "BadText" "BadText.__init__",
  noB "BadText" "row",
  noB "BadText" "place",
  glB "Unlike",
  iniB "/claim/cut.py" "Unlike" "Unlike.__init__",
  noB "Unlike" "what",
  glB "_law_mixed",
  plB (fun K => gAdr K "_law_mixed") "_law_mixed",
  glB "_law_store",
  plB (fun K => gAdr K "_law_store") "_law_store",
  glB "_law_row_form",
  plB (fun K => gAdr K "_law_row_form") "_law_row_form",
  glB "_law_advance",
  plB (fun K => gAdr K "_law_advance") "_law_advance",
  glB "_law_take",
  plB (fun K => gAdr K "_law_take") "_law_take",
  glB "_law_pick",
  plB (fun K => gAdr K "_law_pick") "_law_pick",
  glB "_law_free_name",
  plB (fun K => gAdr K "_law_free_name") "_law_free_name",
  glB "_law_draw_words",
  plB (fun K => gAdr K "_law_draw_words") "_law_draw_words",
  glB "_law_row_text",
  plB (fun K => gAdr K "_law_row_text") "_law_row_text",
  glB "_law_put",
  plB (fun K => gAdr K "_law_put") "_law_put",
  glB "_law_set",
  plB (fun K => gAdr K "_law_set") "_law_set",
  glB "_law_bad_word",
  plB (fun K => gAdr K "_law_bad_word") "_law_bad_word",
  glB "_law_size",
  plB (fun K => gAdr K "_law_size") "_law_size",
  glB "_law_bad_name",
  plB (fun K => gAdr K "_law_bad_name") "_law_bad_name",
  glB "_law_near_row",
  plB (fun K => gAdr K "_law_near_row") "_law_near_row",
  glB "_law_sign",
  plB (fun K => gAdr K "_law_sign") "_law_sign",
  glB "_law_bent_sign",
  plB (fun K => gAdr K "_law_bent_sign") "_law_bent_sign",
  glB "_law_outside",
  plB (fun K => gAdr K "_law_outside") "_law_outside",
  glB "_law_bent_words",
  plB (fun K => gAdr K "_law_bent_words") "_law_bent_words",
  glB "_law_words",
  plB (fun K => gAdr K "_law_words") "_law_words",
  glB "_law_row_fault",
  plB (fun K => gAdr K "_law_row_fault") "_law_row_fault",
  glB "_law_is_name",
  plB (fun K => gAdr K "_law_is_name") "_law_is_name",
  glB "_law_read_row",
  plB (fun K => gAdr K "_law_read_row") "_law_read_row",
  glB "is_name",
  plB (fun K => gAdr K "is_name") "is_name",
  glB "word_value",
  plB (fun K => gAdr K "word_value") "word_value",
  glB "read_row",
  plB (fun K => gAdr K "read_row") "read_row",
  glB "_law_refusal",
  plB (fun K => gAdr K "_law_refusal") "_law_refusal",
  glB "_law_read",
  plB (fun K => gAdr K "_law_read") "_law_read",
  glB "_law_like",
  plB (fun K => gAdr K "_law_like") "_law_like",
  glB "has_kind",
  plB (fun K => gAdr K "has_kind") "has_kind",
  glB "is_row_words",
  plB (fun K => gAdr K "is_row_words") "is_row_words",
  glB "write_row",
  plB (fun K => gAdr K "write_row") "write_row",
  glB "_law_write",
  plB (fun K => gAdr K "_law_write") "_law_write",
  glB "_law_look",
  plB (fun K => gAdr K "_law_look") "_law_look",
  glB "_law_is_words",
  plB (fun K => gAdr K "_law_is_words") "_law_is_words",
  glB "_law_look_words",
  plB (fun K => gAdr K "_law_look_words") "_law_look_words",
  glB "_law_text",
  plB (fun K => gAdr K "_law_text") "_law_text",
  glB "law",
  plB (fun K => gAdr K "law") "law"]
def fn : List Dd := [⟨iniA "BadText", "__init__", "BadText.__init__", initOf (topS 15)⟩,
  ⟨iniA "Unlike", "__init__", "Unlike.__init__", initOf (topS 14)⟩,
  ⟨fun K => gAdr K "_law_mixed", "_law_mixed", "_law_mixed", topS 31⟩,
  ⟨fun K => gAdr K "_law_store", "_law_store", "_law_store", topS 32⟩,
  ⟨fun K => gAdr K "_law_row_form", "_law_row_form", "_law_row_form", topS 48⟩,
  ⟨fun K => gAdr K "_law_advance", "_law_advance", "_law_advance", topS 33⟩,
  ⟨fun K => gAdr K "_law_take", "_law_take", "_law_take", topS 34⟩,
  ⟨fun K => gAdr K "_law_pick", "_law_pick", "_law_pick", topS 35⟩,
  ⟨fun K => gAdr K "_law_free_name", "_law_free_name", "_law_free_name", topS 42⟩,
  ⟨fun K => gAdr K "_law_draw_words", "_law_draw_words", "_law_draw_words", topS 51⟩,
  ⟨fun K => gAdr K "_law_row_text", "_law_row_text", "_law_row_text", topS 52⟩,
  ⟨fun K => gAdr K "_law_put", "_law_put", "_law_put", topS 38⟩,
  ⟨fun K => gAdr K "_law_set", "_law_set", "_law_set", topS 39⟩,
  ⟨fun K => gAdr K "_law_bad_word", "_law_bad_word", "_law_bad_word", topS 44⟩,
  ⟨fun K => gAdr K "_law_size", "_law_size", "_law_size", topS 37⟩,
  ⟨fun K => gAdr K "_law_bad_name", "_law_bad_name", "_law_bad_name", topS 45⟩,
  ⟨fun K => gAdr K "_law_near_row", "_law_near_row", "_law_near_row", topS 61⟩,
  ⟨fun K => gAdr K "_law_sign", "_law_sign", "_law_sign", topS 40⟩,
  ⟨fun K => gAdr K "_law_bent_sign", "_law_bent_sign", "_law_bent_sign", topS 60⟩,
  ⟨fun K => gAdr K "_law_outside", "_law_outside", "_law_outside", topS 36⟩,
  ⟨fun K => gAdr K "_law_bent_words", "_law_bent_words", "_law_bent_words", topS 53⟩,
  ⟨fun K => gAdr K "_law_words", "_law_words", "_law_words", topS 46⟩,
  ⟨fun K => gAdr K "_law_row_fault", "_law_row_fault", "_law_row_fault", topS 47⟩,
  ⟨fun K => gAdr K "_law_is_name", "_law_is_name", "_law_is_name", topS 43⟩,
  ⟨fun K => gAdr K "_law_read_row", "_law_read_row", "_law_read_row", topS 49⟩,
  ⟨fun K => gAdr K "is_name", "is_name", "is_name", topS 20⟩,
  ⟨fun K => gAdr K "word_value", "word_value", "word_value", topS 25⟩,
  ⟨fun K => gAdr K "read_row", "read_row", "read_row", topS 26⟩,
  ⟨fun K => gAdr K "_law_refusal", "_law_refusal", "_law_refusal", topS 54⟩,
  ⟨fun K => gAdr K "_law_read", "_law_read", "_law_read", topS 56⟩,
  ⟨fun K => gAdr K "_law_like", "_law_like", "_law_like", topS 55⟩,
  ⟨fun K => gAdr K "has_kind", "has_kind", "has_kind", topS 27⟩,
  ⟨fun K => gAdr K "is_row_words", "is_row_words", "is_row_words", topS 28⟩,
  ⟨fun K => gAdr K "write_row", "write_row", "write_row", topS 29⟩,
  ⟨fun K => gAdr K "_law_write", "_law_write", "_law_write", topS 57⟩,
  ⟨fun K => gAdr K "_law_look", "_law_look", "_law_look", topS 58⟩,
  ⟨fun K => gAdr K "_law_is_words", "_law_is_words", "_law_is_words", topS 50⟩,
  ⟨fun K => gAdr K "_law_look_words", "_law_look_words", "_law_look_words", topS 59⟩,
  ⟨fun K => gAdr K "_law_text", "_law_text", "_law_text", topS 41⟩,
  ⟨fun K => gAdr K "law", "law", "law", topS 62⟩]
def ts : List (Str × List Str) := [("GREATEST", tab_GREATEST.map (·.1)), ("FORMS", tab_FORMS.map (·.1))]
abbrev hk : PySem.W.Hook := hookZ 6 ck fn ts
def ob (s : PySem.W.SharedT) : Ob := obGZ 6 ck fn ts (HandSHeadRun.getT s)
theorem ob_eq (s : PySem.W.SharedT) : ob s = hk.obs s.abs := obGZ_eq (HandSHeadRun.getT_eq s)
abbrev RunP (w : World) : Prop := HandSHeadRun.RunEq R (PySem.W.view R.prog [62]) hk ob 8000 loose w
theorem run_f (w : World) : RunP (w.withFollow "special-get-raises" false) := by
  intro os
  kernel_rfl
theorem run_t (w : World) : RunP (w.withFollow "special-get-raises" true) := by
  intro os
  kernel_rfl
theorem run (w : World) : RunP w := PySem.W.byRow2 "special-get-raises" (P := RunP) run_f run_t w
end K97

namespace Z
set_option autoImplicit false
open PySem PySem.Spec PyProof.Rows L2
section
variable {p : Par} {G G' H H' : Hp} {σ : St} {ρ : List Sl} {d : D} {v : V} {a : Addr}
theorem same_upd {H : Hp} {p : Addr} {o : HO} (h : H p = none) : Same H (upd H p o) := fun b x e => by
  rw [upd_ne (ne_of_none e h)]
  exact e
theorem Bas.notL (B : Bas p G H) {u : HO} (h : G a = some u) (hu : isD u = false) : p.L a = none := by
  cases e : p.L a with
  | none => rfl
  | some w =>
    obtain ⟨o, ob, _, e2, q, _⟩ := B.lock a w e
    rw [h] at e2
    cases e2
    rw [hu] at q
    cases q
theorem Bas.get (B : Bas p G H) {u : HO} (h : G a = some u) (hu : isD u = false) : H a = some u := B.same a u h (B.notL h hu)
theorem Bas.getD (B : Bas p G H) {u : HO} (h : Rd G a u) (hu : isD u = true) : Rd H a u := by
  rcases h with h | ⟨o, h⟩
  · cases e : p.L a with
    | some w =>
      obtain ⟨o, ob, e1, e2, q, z⟩ := B.lock a w e
      rw [h] at e2
      cases e2
      subst e1
      exact .inr ⟨ob, z⟩
    | none => exact .inl (B.same a u h e)
  · exact .inr ⟨o, B.get h rfl⟩
theorem Bas.sqL (B : Bas p G H) {xs : List V} (h : SqL p.K G a xs) : SqL p.K H a xs := by
  rcases h with (h | ⟨o, h⟩) | h
  · exact .inl (.inl (B.get h rfl))
  · exact .inl (.inr ⟨o, B.get h rfl⟩)
  · exact .inr h
theorem Bas.sqT (B : Bas p G H) {xs : List V} (h : SqT p.K G a xs) : SqT p.K H a xs := by
  rcases h with (h | ⟨o, h⟩) | h
  · exact .inl (.inl (B.get h rfl))
  · exact .inl (.inr ⟨o, B.get h rfl⟩)
  · exact .inr h
theorem Rep.bor (B : Bas p G H) (r : Rep p.K G d v) : Bor p.K G H d v := by
  cases d with
  | lst ds => obtain ⟨a, xs, e, q, r⟩ := r; exact ⟨a, xs, e, B.get q rfl, r⟩
  | scr ns => obtain ⟨a, e, q⟩ := r; exact ⟨a, e, B.sqL q⟩
  | tup ds => obtain ⟨a, xs, e, q, r⟩ := r; exact ⟨a, xs, e, ⟨B.get q rfl, q⟩, r⟩
  | kt ds => obtain ⟨a, xs, e, q, r⟩ := r; exact ⟨a, xs, e, B.sqT q, r⟩
  | dK ks ds => obtain ⟨a, xs, e, q, l, r⟩ := r; exact ⟨a, xs, e, B.getD q rfl, l, r⟩
  | dT ks ds => obtain ⟨a, xs, e, q, l, r⟩ := r; exact ⟨a, xs, e, B.getD q rfl, l, r⟩
  | ins C ns ds => obtain ⟨a, dx, xs, e, q, q2, l, r'⟩ := id r; exact ⟨⟨a, dx, xs, e, B.get q rfl, B.get q2 rfl, l, r'⟩, r⟩
  | _ => exact r
theorem OwnC.bor (h : OwnC p.K G H a d) : Bor p.K G H d (.ref a) := by
  cases d with
  | lst ds => obtain ⟨xs, q, r⟩ := h; exact ⟨a, xs, rfl, q, r⟩
  | dK ks ds => obtain ⟨xs, q, l, r⟩ := h; exact ⟨a, xs, rfl, .inl q, l, r⟩
  | dT ks ds => obtain ⟨xs, q, l, r⟩ := h; exact ⟨a, xs, rfl, .inl q, l, r⟩
  | _ => exact h.elim
theorem OwnC.mono {K : PySem.W.Frag} (h : OwnC K G H a d) (s : Same G G') (hk : ∀ o, H a = some o → H' a = some o) : OwnC K G' H' a d := by
  cases d with
  | lst ds => obtain ⟨xs, q, r⟩ := h; exact ⟨xs, hk _ q, r.mono s⟩
  | dK ks ds => obtain ⟨xs, q, l, r⟩ := h; exact ⟨xs, hk _ q, l, r.mono s⟩
  | dT ks ds => obtain ⟨xs, q, l, r⟩ := h; exact ⟨xs, hk _ q, l, r.mono s⟩
  | _ => exact h.elim
theorem StoC.mono {K : PySem.W.Frag} (h : StoC K G H a) (s : Same G G') (hk : ∀ o, H a = some o → H' a = some o) : StoC K G' H' a := by
  obtain ⟨b, cells, i, s', c, x, y, e, q, r⟩ := h
  exact ⟨b, cells, i, s', c, x, y, hk _ e, s _ _ q, r⟩
theorem OwnC.has (h : OwnC p.K G H a d) : ∃ o, H a = some o := by
  cases d with
  | lst ds => obtain ⟨xs, q, r⟩ := h; exact ⟨_, q⟩
  | dK ks ds => obtain ⟨xs, q, l, r⟩ := h; exact ⟨_, q⟩
  | dT ks ds => obtain ⟨xs, q, l, r⟩ := h; exact ⟨_, q⟩
  | _ => exact h.elim
theorem StoC.has (h : StoC p.K G H a) : ∃ o, H a = some o := by
  obtain ⟨b, cells, i, s', c, x, y, e, q, r⟩ := h
  exact ⟨_, e⟩
/-- an owned content laid into the shared part -/
theorem OwnC.frozen (h : OwnC p.K G H a d) (hg : G a = none) : ∃ o, H a = some o ∧ Rep p.K (upd G a o) d (.ref a) ∧ True := by
  have s : ∀ o, Same G (upd G a o) := fun o => same_upd hg
  cases d with
  | lst ds => obtain ⟨xs, q, r⟩ := h; exact ⟨_, q, ⟨a, xs, rfl, upd_same, r.mono (s _)⟩, trivial⟩
  | dK ks ds => obtain ⟨xs, q, l, r⟩ := h; exact ⟨_, q, ⟨a, xs, rfl, .inl upd_same, l, r.mono (s _)⟩, trivial⟩
  | dT ks ds => obtain ⟨xs, q, l, r⟩ := h; exact ⟨_, q, ⟨a, xs, rfl, .inl upd_same, l, r.mono (s _)⟩, trivial⟩
  | _ => exact h.elim
theorem Bas.laidG (B : Bas p G H) {o : HO} (f : Free p G a) (h : H a = some o) : Bas p (upd G a o) H where
  same := fun b u e hl => by
    by_cases hb : b = a
    · subst hb; rw [upd_same] at e; cases e; exact h
    · rw [upd_ne hb] at e; exact B.same b u e hl
  lock := fun b w hl => by
    obtain ⟨u, ob, e0, e, q, z⟩ := B.lock b w hl
    refine ⟨u, ob, e0, ?_, q, z⟩
    rw [upd_ne (ne_of_none e f.g)]
    exact e
  frame := B.frame
  dom := fun b hb => by
    have : b ≠ a := fun z => hb (by rw [z]; exact f.f)
    rw [upd_ne this]
    exact B.dom b hb
  sto := fun b hb => by
    obtain ⟨h1, h2, h3⟩ := B.sto b hb
    have hne : b ≠ a := fun z => f.s (by rw [← z]; exact hb)
    exact ⟨StoC.mono h1 (same_upd f.g) fun _ z => z, by rw [upd_ne hne]; exact h2, h3⟩
/-- the state moves on: the shared part grows, what is one's own stays -/
theorem SlotOk.ext {s : Sl} {x : Option V} (h : SlotOk p G H s x) (sm : Same G G') (hf : ∀ a o, p.F a = none → G a = none → p.st ≠ some a → H a = some o → ownAdr s x = some a → G' a = none ∧ H' a = some o) : SlotOk p G' H' s x := by
  cases s with
  | un => trivial
  | sh d => obtain ⟨y, e, r⟩ := h; exact ⟨y, e, r.mono sm⟩
  | ow d =>
    obtain ⟨b, e, f, c⟩ := h
    subst e
    obtain ⟨o, ho⟩ := OwnC.has (p := p) c
    obtain ⟨h1, h2⟩ := hf b o f.f f.g f.s ho rfl
    exact ⟨b, rfl, ⟨f.f, h1, f.s⟩, OwnC.mono c sm fun u hu => by rw [ho] at hu; cases hu; exact h2⟩
  | st => exact h
theorem Abs.ext (A : Abs p G σ H ρ) (B : Bas p G' H') (s : Same G G') (hf : ∀ a o, p.F a = none → G a = none → p.st ≠ some a → H a = some o → G' a = none ∧ H' a = some o) : Abs p G' σ H' ρ :=
  { toBas := B, len := A.len, slots := fun i t x h1 h2 => (A.slots i t x h1 h2).ext s fun a o h1 h2 h3 h4 _ => hf a o h1 h2 h3 h4, dist := A.dist }
/-- a new object of one's own -/
theorem Bas.freeAt (B : Bas p G H) (h : H a = none) : Free p G a := by
  have hl : p.L a = none := by
    cases e : p.L a with
    | none => rfl
    | some w =>
      obtain ⟨_, _, _, _, _, z⟩ := B.lock a w e
      rw [h] at z; cases z
  refine ⟨?_, ?_, fun hs => ?_⟩
  · cases e : p.F a with
    | none => rfl
    | some o => rw [B.frame a o e hl] at h; cases h
  · cases e : G a with
    | none => rfl
    | some o => rw [B.same a o e hl] at h; cases h
  · obtain ⟨o, ho⟩ := StoC.has (p := p) (B.sto a hs).1
    rw [h] at ho; cases ho
theorem Bas.laidH (B : Bas p G H) {o : HO} (h : H a = none) : Bas p G (upd H a o) where
  same := fun b u e hl => by
    have q := B.same b u e hl
    rw [upd_ne (ne_of_none q h)]; exact q
  lock := fun b w hl => by
    obtain ⟨u, ob, e0, e, q, z⟩ := B.lock b w hl
    exact ⟨u, ob, e0, e, q, by rw [upd_ne (ne_of_none z h)]; exact z⟩
  frame := fun b u e hl => by
    have q := B.frame b u e hl
    rw [upd_ne (ne_of_none q h)]; exact q
  dom := B.dom
  sto := fun b hb => by
    obtain ⟨h1, h2, h3⟩ := B.sto b hb
    exact ⟨StoC.mono h1 (Same.refl G) fun u z => by rw [upd_ne (ne_of_none z h)]; exact z, h2, h3⟩
theorem Abs.owns (A : Abs p G σ H ρ) {i : Nat} {s : Sl} {x : Option V} (h1 : ρ[i]? = some s) (h2 : σ[i]? = some x) (h3 : ownAdr s x = some a) : Free p G a ∧ ∃ o, H a = some o := by
  have q := A.slots i s x h1 h2
  cases s with
  | un => cases h3
  | sh d => cases h3
  | ow d =>
    obtain ⟨b, e, f, c⟩ := q
    subst e
    cases h3
    exact ⟨f, OwnC.has (p := p) c⟩
  | st => cases h3
theorem Abs.laid (A : Abs p G σ H ρ) {o : HO} (h : H a = none) : Abs p G σ (upd H a o) ρ ∧ Free p G a ∧ NotOwn σ ρ a :=
  ⟨A.ext (A.toBas.laidH h) (Same.refl G) fun b u h1 h2 _ h3 => ⟨h2, by rw [upd_ne (ne_of_none h3 h)]; exact h3⟩, A.toBas.freeAt h, fun i s x h1 h2 h3 => by
    obtain ⟨_, o, e⟩ := A.owns h1 h2 h3
    rw [h] at e; cases e⟩
/-- a new object laid and shared at once -/
theorem Abs.laidS (A : Abs p G σ H ρ) {o : HO} (h : H a = none) : Abs p (upd G a o) σ (upd H a o) ρ ∧ Same G (upd G a o) := by
  obtain ⟨A1, f, n⟩ := A.laid (o := o) h
  have s : Same G (upd G a o) := same_upd f.g
  refine ⟨A.ext ((A.toBas.laidH h).laidG f upd_same) s fun b u h1 h2 _ h3 => ?_, s⟩
  have hb : b ≠ a := ne_of_none h3 h
  exact ⟨by rw [upd_ne hb]; exact h2, by rw [upd_ne hb]; exact h3⟩
/-- what one owns is shared from now on -/
theorem Abs.share (A : Abs p G σ H ρ) (f : Free p G a) (c : OwnC p.K G H a d) (n : NotOwn σ ρ a) : ∃ G', Same G G' ∧ Abs p G' σ H ρ ∧ Rep p.K G' d (.ref a) := by
  obtain ⟨o, ho, r, _⟩ := OwnC.frozen (p := p) c f.g
  have s : Same G (upd G a o) := same_upd f.g
  refine ⟨_, s, { toBas := A.toBas.laidG f ho, len := A.len, slots := fun i t x h1 h2 => (A.slots i t x h1 h2).ext s fun b u q1 q2 _ q3 q4 => ?_, dist := A.dist }, r⟩
  have hb : b ≠ a := fun z => by subst z; exact n i t x h1 h2 q4
  exact ⟨by rw [upd_ne hb]; exact q2, q3⟩
theorem Abs.res (A : Abs p G σ H ρ) {r : Rs} (h : ResOk p G H σ ρ r v) : (∃ d, (r = .val d ∨ r = .own d) ∧ ∃ G', Same G G' ∧ Abs p G' σ H ρ ∧ Rep p.K G' d v) ∨ r = .sto := by
  cases r with
  | val d => exact .inl ⟨d, .inl rfl, G, Same.refl G, A, h⟩
  | own d =>
    obtain ⟨a, e, f, c, n⟩ := h
    subst e
    exact .inl ⟨d, .inr rfl, A.share f c n⟩
  | sto => exact .inr rfl
/-- forgetting, changing what a slot holds -/
theorem ownAdr_sh {d : D} {x : Option V} : ownAdr (.sh d) x = none := by cases x <;> rfl
theorem ownAdr_un {x : Option V} : ownAdr .un x = none := by cases x <;> rfl
theorem Abs.slot (A : Abs p G σ H ρ) {i : Nat} (h : slotD ρ i = some d) : ∃ v, σ[i]? = some (some v) ∧ Bor p.K G H d v := by
  unfold slotD at h
  cases e : ρ[i]? with
  | none => rw [e] at h; cases h
  | some s =>
    rw [e] at h
    have hi : i < σ.length := by rw [← A.len]; exact (List.getElem?_eq_some_iff.mp e).1
    have q := A.slots i s _ e (List.getElem?_eq_getElem hi)
    cases s with
    | un => cases h
    | st => cases h
    | sh d' =>
      cases h
      obtain ⟨x, e2, r⟩ := q
      exact ⟨x, by rw [List.getElem?_eq_getElem hi, e2], r.bor A.toBas⟩
    | ow d' =>
      cases h
      obtain ⟨x, e2, f, c⟩ := q
      exact ⟨_, by rw [List.getElem?_eq_getElem hi, e2], OwnC.bor (p := p) c⟩
theorem Abs.opd (A : Abs p G σ H ρ) {b : B} (o : OpdOk p G σ b v) (h : bD ρ b = some d) : Bor p.K G H d v := by
  cases b with
  | val d' => cases h; exact Rep.bor A.toBas o
  | slot i =>
    obtain ⟨w, e, r⟩ := A.slot h
    have o' : σ[i]? = some (some v) := o
    rw [e] at o'
    cases o'
    exact r
theorem OpdOk.mono {b : B} (o : OpdOk p G σ b v) (s : Same G G') : OpdOk p G' σ b v := by
  cases b with
  | val d => exact Rep.mono s o
  | slot i => exact o
/-- the i-th slot shared from now on -/
theorem Abs.shareSlot (A : Abs p G σ H ρ) {i : Nat} (h : ρ[i]? = some (.ow d)) : ∃ G' v, σ[i]? = some (some v) ∧ Same G G' ∧ Abs p G' σ H (ρ.set i (.sh d)) ∧ Rep p.K G' d v := by
  have hi : i < σ.length := by rw [← A.len]; exact (List.getElem?_eq_some_iff.mp h).1
  obtain ⟨a, e2, f, c⟩ := A.slots i _ _ h (List.getElem?_eq_getElem hi)
  have ev : σ[i]? = some (some (.ref a)) := by rw [List.getElem?_eq_getElem hi, e2]
  obtain ⟨o, ho, r, _⟩ := OwnC.frozen (p := p) c f.g
  have s : Same G (upd G a o) := same_upd f.g
  refine ⟨_, _, ev, s, { toBas := A.toBas.laidG f ho, len := by rw [List.length_set]; exact A.len, slots := fun j t x h1 h2 => ?_, dist := fun j k t u x y b hjk h1 h2 h3 h4 h5 h6 => ?_ }, r⟩
  · by_cases hj : j = i
    · subst hj
      rw [List.getElem?_set_self (by rw [A.len]; exact hi)] at h1
      cases h1
      rw [ev] at h2
      cases h2
      exact ⟨_, rfl, r⟩
    · rw [List.getElem?_set_ne (Ne.symm hj)] at h1
      refine (A.slots j t x h1 h2).ext s fun b u q1 q2 _ q3 q4 => ?_
      have hb : b ≠ a := fun z => by subst z; exact A.dist j i t _ x _ _ hj h1 h h2 ev q4 rfl
      exact ⟨by rw [upd_ne hb]; exact q2, q3⟩
  · by_cases hj : j = i
    · subst hj
      rw [List.getElem?_set_self (by rw [A.len]; exact hi)] at h1
      cases h1
      rw [ownAdr_sh] at h5; cases h5
    · by_cases hk : k = i
      · subst hk
        rw [List.getElem?_set_self (by rw [A.len]; exact hi)] at h2
        cases h2
        rw [ownAdr_sh] at h6; cases h6
      · rw [List.getElem?_set_ne (Ne.symm hj)] at h1
        rw [List.getElem?_set_ne (Ne.symm hk)] at h2
        exact A.dist j k t u x y b hjk h1 h2 h3 h4 h5 h6
/-- a slot forgotten -/
theorem Abs.forget (A : Abs p G σ H ρ) (i : Nat) : Abs p G σ H (ρ.set i .un) where
  toBas := A.toBas
  len := by rw [List.length_set]; exact A.len
  slots := fun j t x h1 h2 => by
    by_cases hj : j = i
    · subst hj
      by_cases hl : j < ρ.length
      · rw [List.getElem?_set_self hl] at h1; cases h1; trivial
      · rw [List.getElem?_eq_none (by rw [List.length_set]; omega)] at h1; cases h1
    · rw [List.getElem?_set_ne (Ne.symm hj)] at h1
      exact A.slots j t x h1 h2
  dist := fun j k t u x y b hjk h1 h2 h3 h4 h5 h6 => by
    have key : ∀ {j : Nat} {t : Sl} {x : Option V}, (ρ.set i .un)[j]? = some t → ownAdr t x = some b → ρ[j]? = some t := fun {j t x} h1 h5 => by
      by_cases hj : j = i
      · subst hj
        by_cases hl : j < ρ.length
        · rw [List.getElem?_set_self hl] at h1; cases h1; rw [ownAdr_un] at h5; cases h5
        · rw [List.getElem?_eq_none (by rw [List.length_set]; omega)] at h1; cases h1
      · rw [List.getElem?_set_ne (Ne.symm hj)] at h1; exact h1
    exact A.dist j k t u x y b hjk (key h1 h5) (key h2 h6) h3 h4 h5 h6
/-- the result of a slot moved out -/
theorem Abs.move (A : Abs p G σ H ρ) {i : Nat} (h : ρ[i]? = some (.ow d)) : ∃ a, σ[i]? = some (some (.ref a)) ∧ Free p G a ∧ OwnC p.K G H a d ∧ NotOwn σ (ρ.set i .un) a := by
  have hi : i < σ.length := by rw [← A.len]; exact (List.getElem?_eq_some_iff.mp h).1
  obtain ⟨a, e2, f, c⟩ := A.slots i _ _ h (List.getElem?_eq_getElem hi)
  have ev : σ[i]? = some (some (.ref a)) := by rw [List.getElem?_eq_getElem hi, e2]
  refine ⟨a, ev, f, c, fun j t x h1 h2 h3 => ?_⟩
  by_cases hj : j = i
  · subst hj
    rw [List.getElem?_set_self (by rw [A.len]; exact hi)] at h1
    cases h1
    rw [ownAdr_un] at h3; cases h3
  · rw [List.getElem?_set_ne (Ne.symm hj)] at h1
    exact A.dist j i t _ x _ _ hj h1 h h2 ev h3 rfl
/-- a slot that takes a result -/
def rsSl : Rs → Sl
  | .val d => .sh d
  | .own d => .ow d
  | .sto => .un
theorem Abs.store (A : Abs p G σ H ρ) {r : Rs} {i : Nat} (h : ResOk p G H σ ρ r v) : Abs p G (σ.set i (some v)) H (ρ.set i (rsSl r)) where
  toBas := A.toBas
  len := by rw [List.length_set, List.length_set]; exact A.len
  slots := fun j t x h1 h2 => by
    by_cases hj : j = i
    · subst hj
      by_cases hl : j < ρ.length
      · rw [List.getElem?_set_self hl] at h1
        rw [List.getElem?_set_self (by rw [← A.len]; exact hl)] at h2
        cases h1; cases h2
        cases r with
        | val d => exact ⟨v, rfl, h⟩
        | own d => obtain ⟨a, e, f, c, n⟩ := h; exact ⟨a, by rw [e], f, c⟩
        | sto => trivial
      · rw [List.getElem?_eq_none (by rw [List.length_set]; omega)] at h1; cases h1
    · rw [List.getElem?_set_ne (Ne.symm hj)] at h1 h2
      exact A.slots j t x h1 h2
  dist := fun j k t u x y b hjk h1 h2 h3 h4 h5 h6 => by
    have key : ∀ {j : Nat} {t : Sl} {x : Option V}, (ρ.set i (rsSl r))[j]? = some t → (σ.set i (some v))[j]? = some x → ownAdr t x = some b → (j = i ∧ ∀ (l : Nat) (s : Sl) (z : Option V), ρ[l]? = some s → σ[l]? = some z → ownAdr s z ≠ some b) ∨ (j ≠ i ∧ ρ[j]? = some t ∧ σ[j]? = some x) := fun {j t x} h1 h2 h3 => by
      by_cases hj : j = i
      · refine .inl ⟨hj, ?_⟩
        subst hj
        by_cases hl : j < ρ.length
        · rw [List.getElem?_set_self hl] at h1
          rw [List.getElem?_set_self (by rw [← A.len]; exact hl)] at h2
          cases h1; cases h2
          cases r with
          | val d => cases h3
          | own d => obtain ⟨a, e, f, c, n⟩ := h; subst e; cases h3; exact n
          | sto => cases h3
        · rw [List.getElem?_eq_none (by rw [List.length_set]; omega)] at h1; cases h1
      · rw [List.getElem?_set_ne (Ne.symm hj)] at h1 h2
        exact .inr ⟨hj, h1, h2⟩
    rcases key h1 h3 h5 with ⟨e1, n1⟩ | ⟨m1, a1, a2⟩
    · rcases key h2 h4 h6 with ⟨e2, _⟩ | ⟨_, b1, b2⟩
      · exact hjk (e1.trans e2.symm)
      · exact n1 k u y b1 b2 h6
    · rcases key h2 h4 h6 with ⟨_, n2⟩ | ⟨_, b1, b2⟩
      · exact n2 j t x a1 a2 h5
      · exact A.dist j k t u x y b hjk a1 b1 a2 b2 h5 h6
end
end Z

namespace Z
set_option autoImplicit false
open PySem PySem.Spec PyProof.Rows L2
/-- a result as a value -/
def rsD : Rs → Option D
  | .val d => some d
  | .own d => some d
  | .sto => none
def onD (Q : D → List Sl → Prop) : Rs → List Sl → Prop := fun r ρ => match r with
  | .val d => Q d ρ
  | .own d => Q d ρ
  | .sto => False
section
variable {X : Cx} {W : WX} {e : Expr}
theorem PV2.of {w : W2} (h : PE2 X W e w) : PV2 X W e (fun ρ Q R => w ρ (onD Q) R) := by
  obtain ⟨t, ht, hr⟩ := h.ex
  refine ⟨t, ht, fun p G σ H ρ Q R C hK A hz hw hc => ?_⟩
  refine hr p G σ H ρ _ R C hK A hz hw fun G' H' r ρ' v A' s ro q => ?_
  cases r with
  | val d => exact hc G' H' d ρ' v A' s ro q
  | own d =>
    obtain ⟨a, e, f, c, n⟩ := ro
    subst e
    obtain ⟨G2, s2, A2, r2⟩ := A'.share f c n
    exact hc G2 H' d ρ' _ A2 (s.trans s2) r2 q
  | sto => exact q.elim
theorem PE2.of {w : V2} (h : PV2 X W e w) : PE2 X W e (fun ρ Q R => w ρ (fun d ρ' => Q (.val d) ρ') R) := by
  obtain ⟨t, ht, hr⟩ := h.ex
  exact ⟨t, ht, fun p G σ H ρ Q R C hK A hz hw hc => hr p G σ H ρ _ R C hK A hz hw fun G' H' d ρ' v A' s ro q => hc G' H' (.val d) ρ' v A' s ro q⟩
def onB (Q : B → List Sl → Prop) : Rs → List Sl → Prop := fun r ρ => match r with
  | .val d => Q (.val d) ρ
  | .own d => Q (.val d) ρ
  | .sto => False
theorem PB2.of {w : W2} (h : PE2 X W e w) : PB2 X W e (fun ρ Q R => w ρ (onB Q) R) := by
  obtain ⟨t, ht, hr⟩ := (PV2.of h).ex
  refine ⟨t, ht, fun p G σ H ρ Q R C hK A hz hw hc => hr p G σ H ρ (fun d ρ' => Q (.val d) ρ') R C hK A hz ?_ fun G' H' d ρ' v A' s ro q => hc G' H' (.val d) ρ' v A' s ro q⟩
  have : (onD fun d ρ' => Q (.val d) ρ') = onB Q := by
    funext r ρ'
    cases r <;> rfl
  rw [this]
  exact hw

/-! ### names, constants -/
def wName (i : Nat) : V2 := fun ρ Q _ => match ρ[i]? with
  | some (.sh d) => Q d ρ
  | some (.ow d) => Q d (ρ.set i (.sh d))
  | _ => False
theorem pv2_name (i : Nat) {x : Str} {pos : Pos} (hN : X.N[i]? = some x := by rfl) (hv : Vis X.env.scope x := by first | exact Or.inl rfl | exact Or.inr (Or.inl rfl) | exact Or.inr (Or.inr rfl)) (hd : (x == ("__debug__" : Str)) = false := by decide)
    (hcd : (x == ("__classdict__" : Str)) = false := by decide) : PV2 X W (.Name x pos) (wName i) := by
  refine ⟨tVar i, pe_var hN hv hd hcd, fun p G σ H ρ Q R C hK A hz hw hc => ?_⟩
  unfold wName at hw
  cases e : ρ[i]? with
  | none => rw [e] at hw; exact hw.elim
  | some s =>
    rw [e] at hw
    have hi : i < σ.length := by rw [← A.len]; exact (List.getElem?_eq_some_iff.mp e).1
    cases s with
    | un => exact hw.elim
    | st => exact hw.elim
    | sh d =>
      obtain ⟨v, e2, r⟩ := A.slots i _ _ e (List.getElem?_eq_getElem hi)
      exact ⟨v, by rw [List.getElem?_eq_getElem hi, e2], hc G H d ρ v A (Same.refl G) r hw⟩
    | ow d =>
      obtain ⟨G2, v, e2, s2, A2, r2⟩ := A.shareSlot e
      exact ⟨v, e2, hc G2 H d _ v A2 s2 r2 hw⟩
def wMove (i : Nat) : W2 := fun ρ Q _ => match ρ[i]? with
  | some (.sh d) => Q (.val d) ρ
  | some (.ow d) => Q (.own d) (ρ.set i .un)
  | _ => False
theorem pe2_move (i : Nat) {x : Str} {pos : Pos} (hN : X.N[i]? = some x := by rfl) (hv : Vis X.env.scope x := by first | exact Or.inl rfl | exact Or.inr (Or.inl rfl) | exact Or.inr (Or.inr rfl)) (hd : (x == ("__debug__" : Str)) = false := by decide)
    (hcd : (x == ("__classdict__" : Str)) = false := by decide) : PE2 X W (.Name x pos) (wMove i) := by
  refine ⟨tVar i, pe_var hN hv hd hcd, fun p G σ H ρ Q R C hK A hz hw hc => ?_⟩
  unfold wMove at hw
  cases e : ρ[i]? with
  | none => rw [e] at hw; exact hw.elim
  | some s =>
    rw [e] at hw
    have hi : i < σ.length := by rw [← A.len]; exact (List.getElem?_eq_some_iff.mp e).1
    cases s with
    | un => exact hw.elim
    | st => exact hw.elim
    | sh d =>
      obtain ⟨v, e2, r⟩ := A.slots i _ _ e (List.getElem?_eq_getElem hi)
      exact ⟨v, by rw [List.getElem?_eq_getElem hi, e2], hc G H (.val d) ρ v A (Same.refl G) r hw⟩
    | ow d =>
      obtain ⟨a, e2, f, c, n⟩ := A.move e
      exact ⟨.ref a, e2, hc G H (.own d) _ _ (A.forget i) (Same.refl G) ⟨a, rfl, f, c, n⟩ hw⟩
def wSlot (i : Nat) : O2 := fun ρ Q _ => match ρ[i]? with
  | some (.sh _) => Q (.slot i) ρ
  | some (.ow _) => Q (.slot i) ρ
  | some .st => Q (.slot i) ρ
  | _ => False
theorem pb2_name (i : Nat) {x : Str} {pos : Pos} (hN : X.N[i]? = some x := by rfl) (hv : Vis X.env.scope x := by first | exact Or.inl rfl | exact Or.inr (Or.inl rfl) | exact Or.inr (Or.inr rfl)) (hd : (x == ("__debug__" : Str)) = false := by decide)
    (hcd : (x == ("__classdict__" : Str)) = false := by decide) : PB2 X W (.Name x pos) (wSlot i) := by
  refine ⟨tVar i, pe_var hN hv hd hcd, fun p G σ H ρ Q R C hK A hz hw hc => ?_⟩
  unfold wSlot at hw
  cases e : ρ[i]? with
  | none => rw [e] at hw; exact hw.elim
  | some s =>
    rw [e] at hw
    have hi : i < σ.length := by rw [← A.len]; exact (List.getElem?_eq_some_iff.mp e).1
    have q := A.slots i _ _ e (List.getElem?_eq_getElem hi)
    have key : ∃ v, σ[i]? = some (some v) := by
      cases s with
      | un => exact hw.elim
      | st => obtain ⟨a, e2, _⟩ := q; exact ⟨_, by rw [List.getElem?_eq_getElem hi, e2]⟩
      | sh d => obtain ⟨a, e2, _⟩ := q; exact ⟨_, by rw [List.getElem?_eq_getElem hi, e2]⟩
      | ow d => obtain ⟨a, e2, _⟩ := q; exact ⟨_, by rw [List.getElem?_eq_getElem hi, e2]⟩
    obtain ⟨v, ev⟩ := key
    refine ⟨v, ev, hc G H (.slot i) ρ v A (Same.refl G) ev ?_⟩
    cases s with
    | un => exact hw.elim
    | _ => exact hw
def wC (d : D) : W2 := fun ρ Q _ => Q (.val d) ρ
theorem pe2_c {d : D} {v : V} (h : PE X e (tC v)) (r : ∀ K G, Rep K G d v) : PE2 X W e (wC d) :=
  ⟨tC v, h, fun p G σ H ρ Q R C hK A hz hw hc => hc G H (.val d) ρ v A (Same.refl G) (r _ _) hw⟩
theorem pe2_int {i : Int} {j pos} : PE2 X W (.Constant (.int i) j pos) (wC (.int i)) := pe2_c pe_int fun _ _ => rfl
theorem pe2_bl {i : Bool} {j pos} : PE2 X W (.Constant (.bool i) j pos) (wC (.bl i)) := pe2_c pe_bl fun _ _ => rfl
theorem pe2_non {j pos} : PE2 X W (.Constant .none j pos) (wC .non) := pe2_c pe_non fun _ _ => rfl
theorem pe2_str {i : Str} {j pos} : PE2 X W (.Constant (.str i) j pos) (wC (.str i)) := pe2_c pe_str fun _ _ => rfl
/-- a module's constant (an int, a text) -/
theorem pe2_glob {x : Str} {u : Value} {d : D} {v : V} {pos : Pos} (hg : Gl X x) (hm : X.mg x = some u) (r : RelV v u) (rd : ∀ K G, Rep K G d v) (h : PE X (.Name x pos) (tC v)) : PE2 X W (.Name x pos) (wC d) := pe2_c h rd

/-! ### operations by values -/
structure Op2 (X : Cx) (f : Value → Value → Sem Value) (m : D → D → (Rs → Prop) → Prop) : Prop where
  ex : ∃ r, OpR X f r ∧ ∀ (p : Par) (G : Hp) (σ : St) (H : Hp) (ρ : List Sl) (x y : V) (dx dy : D) (Q : Rs → Prop) (C : VK), p.K = X.K → Abs p G σ H ρ → Bor p.K G H dx x → Bor p.K G H dy y → m dx dy Q →
    (∀ G' H' r v, Abs p G' σ H' ρ → Same G G' → ResOk p G' H' σ ρ r v → Q r → C v H') → r x y H C
theorem Op2.or {f : Value → Value → Sem Value} {m n : D → D → (Rs → Prop) → Prop} (a : Op2 X f m) (b : Op2 X f n) : Op2 X f (fun x y Q => m x y Q ∨ n x y Q) := by
  obtain ⟨r, h, hr⟩ := a.ex
  obtain ⟨r', h', hr'⟩ := b.ex
  refine ⟨_, h.or h', fun p G σ H ρ x y dx dy Q C hK A bx by' hm hc => ?_⟩
  rcases hm with hm | hm
  · exact .inl (hr p G σ H ρ x y dx dy Q C hK A bx by' hm hc)
  · exact .inr (hr' p G σ H ρ x y dx dy Q C hK A bx by' hm hc)
theorem Op2.imp {f : Value → Value → Sem Value} {m n : D → D → (Rs → Prop) → Prop} (a : Op2 X f m) (h : ∀ x y Q, n x y Q → m x y Q) : Op2 X f n := by
  obtain ⟨r, h1, hr⟩ := a.ex
  exact ⟨r, h1, fun p G σ H ρ x y dx dy Q C hK A bx by' hm hc => hr p G σ H ρ x y dx dy Q C hK A bx by' (h _ _ _ hm) hc⟩
def wOp (m : D → D → (Rs → Prop) → Prop) (wa wb : O2) : W2 := fun ρ Q R => wa ρ (fun b1 ρ1 => wb ρ1 (fun b2 ρ2 => match bD ρ2 b1, bD ρ2 b2 with
  | some x, some y => m x y fun r => Q r ρ2
  | _, _ => False) R) R
theorem bin2 {a b : Expr} {wa wb : O2} {m : D → D → (Rs → Prop) → Prop} {r : R2} {ta tb : TE}
    (ha : ∀ (p : Par) (G : Hp) (σ : St) (H : Hp) (ρ : List Sl) (Q : B → List Sl → Prop) (R : RX) (C : VK), p.K = X.K → Abs p G σ H ρ → RzOk p W σ G R → wa ρ Q R → (∀ G' H' b ρ' v, Abs p G' σ H' ρ' → Same G G' → OpdOk p G' σ b v → Q b ρ' → C v H') → ta σ H C)
    (hb : ∀ (p : Par) (G : Hp) (σ : St) (H : Hp) (ρ : List Sl) (Q : B → List Sl → Prop) (R : RX) (C : VK), p.K = X.K → Abs p G σ H ρ → RzOk p W σ G R → wb ρ Q R → (∀ G' H' b ρ' v, Abs p G' σ H' ρ' → Same G G' → OpdOk p G' σ b v → Q b ρ' → C v H') → tb σ H C)
    (hr : ∀ (p : Par) (G : Hp) (σ : St) (H : Hp) (ρ : List Sl) (x y : V) (dx dy : D) (Q : Rs → Prop) (C : VK), p.K = X.K → Abs p G σ H ρ → Bor p.K G H dx x → Bor p.K G H dy y → m dx dy Q →
      (∀ G' H' r v, Abs p G' σ H' ρ → Same G G' → ResOk p G' H' σ ρ r v → Q r → C v H') → r x y H C) :
    ∀ (p : Par) (G : Hp) (σ : St) (H : Hp) (ρ : List Sl) (Q : Rs → List Sl → Prop) (R : RX) (C : VK), p.K = X.K → Abs p G σ H ρ → RzOk p W σ G R → wOp m wa wb ρ Q R →
    (∀ G' H' r ρ' v, Abs p G' σ H' ρ' → Same G G' → ResOk p G' H' σ ρ' r v → Q r ρ' → C v H') → tOp r ta tb σ H C := by
  intro p G σ H ρ Q R C hK A hz hw hc
  refine ha p G σ H ρ _ R _ hK A hz hw fun G1 H1 b1 ρ1 v1 A1 s1 o1 q1 => ?_
  refine hb p G1 σ H1 ρ1 _ R _ hK A1 (hz.mono s1) q1 fun G2 H2 b2 ρ2 v2 A2 s2 o2 q2 => ?_
  have o1' := o1.mono s2
  cases e1 : bD ρ2 b1 with
  | none => rw [e1] at q2; exact q2.elim
  | some x =>
    cases e2 : bD ρ2 b2 with
    | none => rw [e1, e2] at q2; exact q2.elim
    | some y =>
      rw [e1, e2] at q2
      exact hr p G2 σ H2 ρ2 v1 v2 x y _ C hK A2 (A2.opd o1' e1) (A2.opd o2 e2) q2 fun G' H' r v A' s ro q => hc G' H' r ρ2 v A' ((s1.trans s2).trans s) ro q
theorem pe2_op {a b : Expr} {op : Operator} {pos : Pos} {wa wb : O2} {m : D → D → (Rs → Prop) → Prop} (ho : Op2 X (binaryOp op) m) (ha : PB2 X W a wa) (hb : PB2 X W b wb) : PE2 X W (.BinOp a op b pos) (wOp m wa wb) := by
  obtain ⟨r, h, hr⟩ := ho.ex
  obtain ⟨ta, h1, r1⟩ := ha.ex
  obtain ⟨tb, h2, r2⟩ := hb.ex
  exact ⟨_, pe_op h h1 h2, bin2 (a := a) (b := b) r1 r2 hr⟩
theorem pe2_cmp {a b : Expr} {op : CmpOp} {pos : Pos} {wa wb : O2} {m : D → D → (Rs → Prop) → Prop} (ho : Op2 X (compareOp op) m) (ha : PB2 X W a wa) (hb : PB2 X W b wb) (hm : behindInMarks op b = false := by first | rfl | exact nomark _) :
    PE2 X W (.Compare a [op] [b] pos) (wOp m wa wb) := by
  obtain ⟨r, h, hr⟩ := ho.ex
  obtain ⟨ta, h1, r1⟩ := ha.ex
  obtain ⟨tb, h2, r2⟩ := hb.ex
  exact ⟨_, pe_cmpR h h1 h2 hm, bin2 (a := a) (b := b) r1 r2 hr⟩
/-- a flat answer -/
theorem op_flat {f : Value → Value → Sem Value} {r : R2} {m : D → D → (Rs → Prop) → Prop} (h : OpR X f r)
    (k : ∀ (p : Par) (G H : Hp) (x y : V) (dx dy : D) (Q : Rs → Prop) (C : VK), p.K = X.K → Bas p G H → Bor p.K G H dx x → Bor p.K G H dy y → m dx dy Q → (∀ d v, Rep p.K G d v → Q (.val d) → C v H) → r x y H C) : Op2 X f m :=
  ⟨r, h, fun p G σ H ρ x y dx dy Q C hK A bx by' hm hc => k p G H x y dx dy Q C hK A.toBas bx by' hm fun d v hr hq => hc G H (.val d) v A (Same.refl G) hr hq⟩
end
end Z

namespace Z
set_option autoImplicit false
open PySem PySem.Spec PyProof.Rows L2

/-! ### data -/
mutual
def toPy : D → PyData
  | .bl b => .bool b
  | .int i => .int i
  | .str x => .str x
  | .lst ds => .list (toPyL ds)
  | .tup ds => .tuple (toPyL ds)
  | .kt ds => .tuple (toPyL ds)
  | _ => .none
def toPyL : List D → List PyData
  | [] => []
  | d :: ds => toPy d :: toPyL ds
end
mutual
def isDat : D → Bool
  | .non | .bl _ | .int _ | .str _ => true
  | .lst ds => isDatL ds
  | .tup ds => isDatL ds
  | .kt ds => isDatL ds
  | _ => false
def isDatL : List D → Bool
  | [] => true
  | d :: ds => isDat d && isDatL ds
end
section
variable {p : Par} {K : PySem.W.Frag} {G H : Hp}
mutual
theorem Rep.dp (B : Bas p G H) : ∀ {d : D} {v : V}, isDat d = true → Rep p.K G d v → Dp p.K H v (toPy d)
  | .non, v, _, h => by rw [show v = _ from h]; exact .non
  | .bl b, v, _, h => by rw [show v = _ from h]; exact .bl b
  | .int i, v, _, h => by rw [show v = _ from h]; exact .int i
  | .str x, v, _, h => by rw [show v = _ from h]; exact .str x
  | .lst ds, v, i, ⟨a, xs, e, q, r⟩ => by rw [e]; exact .lst (.of (B.get q rfl)) (RepL.dp B i r)
  | .tup ds, v, i, ⟨a, xs, e, q, r⟩ => by rw [e]; exact .tup (.of (B.get q rfl)) (RepL.dp B i r)
  | .kt ds, v, i, ⟨a, xs, e, q, r⟩ => by rw [e]; exact .tup (B.sqT q) (RepL.dp B i r)
  | .dK _ _, _, i, _ => nomatch (show false = true from i)
  | .dT _ _, _, i, _ => nomatch (show false = true from i)
  | .ins _ _ _, _, i, _ => nomatch (show false = true from i)
  | .adr _, _, i, _ => nomatch (show false = true from i)
  | .ty _, _, i, _ => nomatch (show false = true from i)
  | .scr _, _, i, _ => nomatch (show false = true from i)
  | .exc _ _ _ _, _, i, _ => nomatch (show false = true from i)
theorem RepL.dp (B : Bas p G H) : ∀ {ds : List D} {xs : List V}, isDatL ds = true → RepL p.K G ds xs → DpAll p.K H xs (toPyL ds)
  | [], _, _, h => by rw [show _ = [] from h]; exact .nil
  | d :: ds, _, i, ⟨x, r, e, h, t⟩ => by
    have i' : (isDat d && isDatL ds) = true := i
    rw [Bool.and_eq_true] at i'
    rw [e]; exact .cons (Rep.dp B i'.1 h) (RepL.dp B i'.2 t)
end
theorem Bor.dp (B : Bas p G H) {d : D} {v : V} (i : isDat d = true) (h : Bor p.K G H d v) : Dp p.K H v (toPy d) := by
  cases d with
  | lst ds => obtain ⟨a, xs, e, q, r⟩ := h; rw [e]; exact .lst (.of q) (RepL.dp B i r)
  | tup ds => obtain ⟨a, xs, e, q, r⟩ := h; rw [e]; exact .tup (.of q.1) (RepL.dp B i r)
  | kt ds => obtain ⟨a, xs, e, q, r⟩ := h; rw [e]; exact .tup q (RepL.dp B i r)
  | dK _ _ => cases i
  | dT _ _ => cases i
  | ins _ _ _ => cases i
  | scr _ => cases i
  | _ => exact Rep.dp B i h
end
/-! ### arithmetic -/
def mAdd : D → D → (Rs → Prop) → Prop
  | .int i, .int j, Q => Q (.val (.int (i + j)))
  | .str a, .str b, Q => a.length + b.length ≤ sizeLine ∧ Q (.val (.str (a ++ b)))
  | .lst a, .lst b, Q => a.length + b.length ≤ sizeLine ∧ Q (.own (.lst (a ++ b)))
  | _, _, _ => False
def mSub : D → D → (Rs → Prop) → Prop
  | .int i, .int j, Q => Q (.val (.int (i - j)))
  | _, _, _ => False
def mMul : D → D → (Rs → Prop) → Prop
  | .int i, .int j, Q => (CMul i j ∨ CMulW i j) ∧ Q (.val (.int (i * j)))
  | _, _, _ => False
def mDiv : D → D → (Rs → Prop) → Prop
  | .int i, .int j, Q => CDivW i j ∧ Q (.val (.int (i / j)))
  | _, _, _ => False
def mMod : D → D → (Rs → Prop) → Prop
  | .int i, .int j, Q => 0 < j ∧ Q (.val (.int (i % j)))
  | _, _, _ => False
def mPow : D → D → (Rs → Prop) → Prop
  | .int i, .int j, Q => CPow i j ∧ Q (.val (.int (i ^ j.toNat)))
  | _, _, _ => False
section
variable {X : Cx}
theorem op2_I {f : Value → Value → Sem Value} {C : Int → Int → Prop} {g : Int → Int → Int} {m : D → D → (Rs → Prop) → Prop} (h : OpR X f (rI C fun i j => .int (g i j))) (k : ∀ x y Q, m x y Q → ∃ i j, x = .int i ∧ y = .int j ∧ C i j ∧ Q (.val (.int (g i j)))) : Op2 X f m :=
  op_flat h fun p G H x y dx dy Q Kt hK B bx by' hm hc => by
    obtain ⟨i, j, rfl, rfl, c, q⟩ := k _ _ _ hm
    exact ⟨i, j, bx, by', c, hc (.int (g i j)) _ rfl q⟩
theorem op2_I0 {f : Value → Value → Sem Value} {g : Int → Int → Int} {m : D → D → (Rs → Prop) → Prop} (h : OpR X f (rI0 fun i j => .int (g i j))) (k : ∀ x y Q, m x y Q → ∃ i j, x = .int i ∧ y = .int j ∧ Q (.val (.int (g i j)))) : Op2 X f m :=
  op_flat h fun p G H x y dx dy Q Kt hK B bx by' hm hc => by
    obtain ⟨i, j, rfl, rfl, q⟩ := k _ _ _ hm
    exact ⟨i, j, bx, by', hc (.int (g i j)) _ rfl q⟩
theorem o_sub : Op2 X (binaryOp .Sub) mSub := op2_I0 op_sub fun x y Q h => by
  cases x <;> first | exact h.elim | (cases y <;> first | exact h.elim | exact ⟨_, _, rfl, rfl, h⟩)
def mMul1 (C : Int → Int → Prop) : D → D → (Rs → Prop) → Prop
  | .int i, .int j, Q => C i j ∧ Q (.val (.int (i * j)))
  | _, _, _ => False
theorem o_mul : Op2 X (binaryOp .Mult) mMul := ((op2_I (m := mMul1 CMul) op_mul fun x y Q h => by
  cases x <;> first | exact h.elim | (cases y <;> first | exact h.elim | exact ⟨_, _, rfl, rfl, h⟩)).or (op2_I (m := mMul1 CMulW) op_mulW fun x y Q h => by
  cases x <;> first | exact h.elim | (cases y <;> first | exact h.elim | exact ⟨_, _, rfl, rfl, h⟩))).imp fun x y Q h => by
  cases x <;> first | exact h.elim | (cases y <;> first | exact h.elim | exact h.1.elim (fun z => .inl ⟨z, h.2⟩) fun z => .inr ⟨z, h.2⟩)
theorem o_div : Op2 X (binaryOp .FloorDiv) mDiv := op2_I op_fdivW fun x y Q h => by
  cases x <;> first | exact h.elim | (cases y <;> first | exact h.elim | exact ⟨_, _, rfl, rfl, h⟩)
theorem o_mod : Op2 X (binaryOp .Mod) mMod := op2_I op_mod fun x y Q h => by
  cases x <;> first | exact h.elim | (cases y <;> first | exact h.elim | exact ⟨_, _, rfl, rfl, h⟩)
theorem o_pow : Op2 X (binaryOp .Pow) mPow := op2_I op_pow fun x y Q h => by
  cases x <;> first | exact h.elim | (cases y <;> first | exact h.elim | exact ⟨_, _, rfl, rfl, h⟩)
def mAddI : D → D → (Rs → Prop) → Prop
  | .int i, .int j, Q => Q (.val (.int (i + j)))
  | _, _, _ => False
theorem o_addI : Op2 X (binaryOp .Add) mAddI := op2_I0 op_add fun x y Q h => by
  cases x <;> first | exact h.elim | (cases y <;> first | exact h.elim | exact ⟨_, _, rfl, rfl, h⟩)
def mAddS : D → D → (Rs → Prop) → Prop
  | .str a, .str b, Q => a.length + b.length ≤ sizeLine ∧ Q (.val (.str (a ++ b)))
  | _, _, _ => False
theorem o_addS : Op2 X (binaryOp .Add) mAddS := op_flat op_add_str fun p G H x y dx dy Q Kt hK B bx by' hm hc => by
  cases dx <;> first | exact hm.elim | (cases dy <;> first | exact hm.elim | exact ⟨_, _, bx, by', hm.1, hc (.str (_ ++ _)) _ rfl hm.2⟩)
def mAddL : D → D → (Rs → Prop) → Prop
  | .lst a, .lst b, Q => a.length + b.length ≤ sizeLine ∧ Q (.own (.lst (a ++ b)))
  | _, _, _ => False
theorem o_addL : Op2 X (binaryOp .Add) mAddL := by
  refine ⟨_, op_cat, fun p G σ H ρ x y dx dy Q C hK A bx by' hm hc => ?_⟩
  cases dx with
  | lst a =>
    cases dy with
    | lst b =>
      obtain ⟨p1, xs, e1, h1, r1⟩ := bx
      obtain ⟨p2, ys, e2, h2, r2⟩ := by'
      refine ⟨p1, p2, xs, ys, e1, e2, h1, h2, by rw [← r1.length, ← r2.length]; exact hm.1, fun q hq => ?_⟩
      obtain ⟨A2, f, n⟩ := A.laid (o := .lst (xs ++ ys)) hq
      exact hc G _ (.own (.lst (a ++ b))) _ A2 (Same.refl G) ⟨q, rfl, f, ⟨_, upd_same, r1.append r2⟩, n⟩ hm.2
    | _ => exact hm.elim
  | _ => exact hm.elim
theorem o_add : Op2 X (binaryOp .Add) mAdd := ((o_addI.or o_addS).or o_addL).imp fun x y Q h => by
  cases x <;> first | exact h.elim | (cases y <;> first | exact h.elim | exact .inl (.inl h) | exact .inl (.inr h) | exact .inr h)
/-! ### comparisons -/
/-- by code points -/
def strLt (a b : Str) : Bool := decide (a.cps.toList < b.cps.toList)
def mLt : D → D → (Rs → Prop) → Prop
  | .int i, .int j, Q => Q (.val (.bl (decide (i < j))))
  | .str i, .str j, Q => Q (.val (.bl (strLt i j)))
  | _, _, _ => False
def mGt : D → D → (Rs → Prop) → Prop
  | .int i, .int j, Q => Q (.val (.bl (decide (j < i))))
  | .str i, .str j, Q => Q (.val (.bl (strLt j i)))
  | _, _, _ => False
def mLe : D → D → (Rs → Prop) → Prop
  | .int i, .int j, Q => Q (.val (.bl (decide (i ≤ j))))
  | .str i, .str j, Q => Q (.val (.bl (!strLt j i)))
  | _, _, _ => False
def mGe : D → D → (Rs → Prop) → Prop
  | .int i, .int j, Q => Q (.val (.bl (decide (j ≤ i))))
  | .str i, .str j, Q => Q (.val (.bl (!strLt i j)))
  | _, _, _ => False
theorem o_ord {f : Value → Value → Sem Value} {g : Int → Int → Bool} {k : Str → Str → Bool} (h1 : OpR X f (rI0 fun i j => .bl (g i j))) (h2 : OpR X f (fun x y H Q => ∃ i j, x = .str i ∧ y = .str j ∧ Q (.bl (k i j)) H)) :
    Op2 X f (fun x y Q => match x, y with
      | .int i, .int j => Q (.val (.bl (g i j)))
      | .str i, .str j => Q (.val (.bl (k i j)))
      | _, _ => False) := op_flat (h1.or h2) fun p G H x y dx dy Q Kt hK B bx by' hm hc => by
  cases dx <;> first
    | exact hm.elim
    | (cases dy <;> first | exact hm.elim | exact .inl ⟨_, _, bx, by', hc (.bl _) _ rfl hm⟩ | exact .inr ⟨_, _, bx, by', hc (.bl _) _ rfl hm⟩)
theorem ord_imp {f : Value → Value → Sem Value} {g : Int → Int → Bool} {k : Str → Str → Bool} {m : D → D → (Rs → Prop) → Prop} (o : Op2 X f (fun x y Q => match x, y with
      | .int i, .int j => Q (.val (.bl (g i j)))
      | .str i, .str j => Q (.val (.bl (k i j)))
      | _, _ => False)) (h : ∀ x y Q, m x y Q → (match x, y with
      | .int i, .int j => Q (.val (.bl (g i j)))
      | .str i, .str j => Q (.val (.bl (k i j)))
      | _, _ => False)) : Op2 X f m := o.imp h
theorem o_lt : Op2 X (compareOp .Lt) mLt := ord_imp (o_ord op_lt op_lt_str) fun x y Q h => by cases x <;> cases y <;> first | exact h | exact h.elim
theorem o_gt : Op2 X (compareOp .Gt) mGt := ord_imp (o_ord op_gt op_gt_str) fun x y Q h => by cases x <;> cases y <;> first | exact h | exact h.elim
theorem o_le : Op2 X (compareOp .LtE) mLe := ord_imp (o_ord op_le op_le_str) fun x y Q h => by cases x <;> cases y <;> first | exact h | exact h.elim
theorem o_ge : Op2 X (compareOp .GtE) mGe := ord_imp (o_ord op_ge op_ge_str) fun x y Q h => by cases x <;> cases y <;> first | exact h | exact h.elim
/-- == of data -/
def dEq (x y : D) : Bool := PyData.eqv (toPy x) (toPy y)
/-- == of scalars -/
def scD : D → D → Option Bool
  | .int i, .int j => some (decide (i = j))
  | .str i, .str j => some (decide (i = j))
  | .bl i, .bl j => some (decide (i = j))
  | .non, .non => some true
  | .non, .int _ => some false
  | .int _, .non => some false
  | .non, .str _ => some false
  | .str _, .non => some false
  | .int _, .str _ => some false
  | .str _, .int _ => some false
  | _, _ => none
def mEq (x y : D) (Q : Rs → Prop) : Prop := match scD x y with
  | some b => Q (.val (.bl b))
  | none => isDat x = true ∧ isDat y = true ∧ SeqAt.shaped (toPy x) = true ∧ SeqAt.shaped (toPy y) = true ∧ Q (.val (.bl (dEq x y)))
def mNe (x y : D) (Q : Rs → Prop) : Prop := match scD x y with
  | some b => Q (.val (.bl (!b)))
  | none => isDat x = true ∧ isDat y = true ∧ SeqAt.shaped (toPy x) = true ∧ SeqAt.shaped (toPy y) = true ∧ Q (.val (.bl (!dEq x y)))
theorem scD_ok {K : PySem.W.Frag} {G H : Hp} {dx dy : D} {x y : V} {b : Bool} (e : scD dx dy = some b) (hx : Bor K G H dx x) (hy : Bor K G H dy y) : scal x y = true ∧ decide (x = y) = b := by
  cases dx <;> cases dy <;> first
    | (rw [show x = _ from hx, show y = _ from hy]
       cases e
       refine ⟨rfl, ?_⟩
       rw [Bool.eq_iff_iff]
       simp)
    | cases e
theorem o_eqS : Op2 X (compareOp .Eq) (fun x y Q => ∃ b, scD x y = some b ∧ Q (.val (.bl b))) := op_flat op_eq fun p G H x y dx dy Q Kt hK B bx by' hm hc => by
  obtain ⟨b, e, q⟩ := hm
  obtain ⟨h1, h2⟩ := scD_ok e bx by'
  exact ⟨h1, by rw [h2]; exact hc (.bl b) _ rfl q⟩
theorem o_neS : Op2 X (compareOp .NotEq) (fun x y Q => ∃ b, scD x y = some b ∧ Q (.val (.bl (!b)))) := op_flat op_ne fun p G H x y dx dy Q Kt hK B bx by' hm hc => by
  obtain ⟨b, e, q⟩ := hm
  obtain ⟨h1, h2⟩ := scD_ok e bx by'
  exact ⟨h1, by rw [h2]; exact hc (.bl (!b)) _ rfl q⟩
theorem o_eqD (hu : X.A.units + 64 < cLine) : Op2 X (compareOp .Eq) (fun x y Q => isDat x = true ∧ isDat y = true ∧ SeqAt.shaped (toPy x) = true ∧ SeqAt.shaped (toPy y) = true ∧ Q (.val (.bl (dEq x y)))) := op_flat (op_eqD hu) fun p G H x y dx dy Q Kt hK B bx by' hm hc => by
  obtain ⟨h1, h2, h3, h4, q⟩ := hm
  rw [← hK]
  exact ⟨_, _, bx.dp B h1, by'.dp B h2, h3, h4, hc (.bl _) _ rfl q⟩
theorem o_neD (hu : X.A.units + 64 < cLine) : Op2 X (compareOp .NotEq) (fun x y Q => isDat x = true ∧ isDat y = true ∧ SeqAt.shaped (toPy x) = true ∧ SeqAt.shaped (toPy y) = true ∧ Q (.val (.bl (!dEq x y)))) := op_flat (op_neD hu) fun p G H x y dx dy Q Kt hK B bx by' hm hc => by
  obtain ⟨h1, h2, h3, h4, q⟩ := hm
  rw [← hK]
  exact ⟨_, _, bx.dp B h1, by'.dp B h2, h3, h4, hc (.bl _) _ rfl q⟩
theorem o_eq (hu : X.A.units + 64 < cLine) : Op2 X (compareOp .Eq) mEq := (o_eqS.or (o_eqD hu)).imp fun x y Q h => by
  unfold mEq at h
  cases e : scD x y with
  | none => rw [e] at h; exact .inr h
  | some b => rw [e] at h; exact .inl ⟨b, rfl, h⟩
theorem o_ne (hu : X.A.units + 64 < cLine) : Op2 X (compareOp .NotEq) mNe := (o_neS.or (o_neD hu)).imp fun x y Q h => by
  unfold mNe at h
  cases e : scD x y with
  | none => rw [e] at h; exact .inr h
  | some b => rw [e] at h; exact .inl ⟨b, rfl, h⟩
/-- is None -/
def isNon : D → Bool
  | .non => true
  | _ => false
def mIs (x y : D) (Q : Rs → Prop) : Prop := isNon y = true ∧ Q (.val (.bl (isNon x)))
def mIsNot (x y : D) (Q : Rs → Prop) : Prop := isNon y = true ∧ Q (.val (.bl (!isNon x)))
theorem Bor.non {K : PySem.W.Frag} {G H : Hp} {d : D} {v : V} (h : Bor K G H d v) : decide (v = .non) = isNon d := by
  cases d with
  | non => rw [show v = _ from h]; rfl
  | bl _ => rw [show v = _ from h]; rfl
  | int _ => rw [show v = _ from h]; rfl
  | str _ => rw [show v = _ from h]; rfl
  | adr _ => rw [show v = _ from h]; rfl
  | ty _ => rw [show v = _ from h]; rfl
  | lst _ => obtain ⟨a, xs, e, _⟩ := h; rw [e]; rfl
  | tup _ => obtain ⟨a, xs, e, _⟩ := h; rw [e]; rfl
  | kt _ => obtain ⟨a, xs, e, _⟩ := h; rw [e]; rfl
  | dK _ _ => obtain ⟨a, xs, e, _⟩ := h; rw [e]; rfl
  | dT _ _ => obtain ⟨a, xs, e, _⟩ := h; rw [e]; rfl
  | ins _ _ _ => obtain ⟨⟨a, dx, xs, e, _⟩, _⟩ := h; rw [e]; rfl
  | scr _ => obtain ⟨a, e, _⟩ := h; rw [e]; rfl
  | exc _ _ _ _ => obtain ⟨e, _⟩ := h; rw [e]; rfl
theorem isNon_eq {d : D} (h : isNon d = true) : d = .non := by cases d <;> first | rfl | cases h
theorem o_is : Op2 X (compareOp .Is) mIs := op_flat op_isN fun p G H x y dx dy Q Kt hK B bx by' hm hc => by
  obtain ⟨h1, q⟩ := hm
  cases isNon_eq h1
  exact ⟨by', by rw [bx.non]; exact hc (.bl _) _ rfl q⟩
theorem o_isnot : Op2 X (compareOp .IsNot) mIsNot := op_flat op_notN fun p G H x y dx dy Q Kt hK B bx by' hm hc => by
  obtain ⟨h1, q⟩ := hm
  cases isNon_eq h1
  exact ⟨by', by rw [bx.non]; exact hc (.bl _) _ rfl q⟩
/-! ### in -/
def flatD : D → Bool
  | .non | .bl _ | .int _ | .str _ => true
  | _ => false
def eqD : D → D → Bool
  | .non, .non => true
  | .bl a, .bl b => a == b
  | .bl a, .int b => (if a then 1 else 0) == b
  | .int a, .bl b => a == (if b then 1 else 0)
  | .int a, .int b => a == b
  | .str a, .str b => a == b
  | _, _ => false
def toV : D → V
  | .non => .non
  | .bl b => .bl b
  | .int i => .int i
  | .str x => .str x
  | _ => .non
theorem Rep.flatV {K : PySem.W.Frag} {G : Hp} {d : D} {v : V} (f : flatD d = true) (h : Rep K G d v) : v = toV d := by
  cases d <;> first | exact h | cases f
theorem flatV_toV {d : D} : L2.flatV (toV d) = true := by cases d <;> rfl
theorem eqV_toV {d e : D} (h1 : flatD d = true) (h2 : flatD e = true) : eqV (toV d) (toV e) = eqD d e := by
  cases d <;> cases e <;> first | rfl | exact Bool.noConfusion (show false = true from h1) | exact Bool.noConfusion (show false = true from h2)
theorem RepL.flat {K : PySem.W.Frag} {G : Hp} : ∀ {ds : List D} {xs : List V}, ds.all flatD = true → RepL K G ds xs → xs = ds.map toV
  | [], _, _, h => h
  | d :: ds, _, f, ⟨x, r, e, h, t⟩ => by
    rw [List.all_cons, Bool.and_eq_true] at f
    rw [e, Rep.flatV f.1 h, RepL.flat f.2 t]; rfl
theorem allFlat (ds : List D) : (ds.map toV).all L2.flatV = true := by
  rw [List.all_map, List.all_eq_true]
  intro d _
  exact flatV_toV
theorem inV_toV {x : D} (hx : flatD x = true) : ∀ {ds : List D}, ds.all flatD = true → inV (toV x) (ds.map toV) = ds.any fun d => eqD d x
  | [], _ => rfl
  | d :: ds, f => by
    rw [List.all_cons, Bool.and_eq_true] at f
    have ih := inV_toV hx f.2
    unfold inV at ih ⊢
    rw [List.map_cons, List.any_cons, List.any_cons, ih, eqV_toV f.1 hx]
def oneSign (x : Str) : Option Nat := match x.cps.toList with
  | [c] => some c
  | _ => none
theorem oneSign_eq {x : Str} {c : Nat} (h : oneSign x = some c) : x = ⟨#[c]⟩ := by
  obtain ⟨a⟩ := x
  unfold oneSign at h
  split at h
  · rename_i c' e
    cases h
    have : a = #[c] := by rw [← Array.toArray_toList (xs := a)]; exact congrArg List.toArray e
    rw [this]
  · cases h
/-- a key of a dict -/
def keyD : D → Option Key
  | .int i => some (.inl i)
  | .str x => some (.inr x)
  | _ => none
def keysD : List D → Option (List Key)
  | [] => some []
  | d :: ds => match keyD d, keysD ds with
    | some k, some r => some (k :: r)
    | _, _ => none
/-- what a dict holds at a key -/
def look {κ : Type} [DecidableEq κ] (ks : List κ) (ds : List D) (k : κ) : Option D := ((ks.zip ds).find? fun q => decide (q.1 = k)).map (·.2)
def inD (x y : D) : Option Bool := match y with
  | .lst ds => if flatD x && ds.all flatD then some (ds.any fun d => eqD d x) else none
  | .tup ds => if flatD x && ds.all flatD then some (ds.any fun d => eqD d x) else none
  | .kt ds => if flatD x && ds.all flatD then some (ds.any fun d => eqD d x) else none
  | .str z => match x with
    | .str w => (oneSign w).map fun c => decide (c ∈ z.cps.toList)
    | _ => none
  | .dK ks ds => (keyD x).map fun k => (look ks ds k).isSome
  | .dT ks ds => match x with
    | .tup xs => (keysD xs).map fun k => (look ks ds k).isSome
    | _ => none
  | _ => none
def mIn (x y : D) (Q : Rs → Prop) : Prop := match inD x y with
  | some b => Q (.val (.bl b))
  | none => False
def mNotIn (x y : D) (Q : Rs → Prop) : Prop := match inD x y with
  | some b => Q (.val (.bl (!b)))
  | none => False
theorem look_zip {K : PySem.W.Frag} {G : Hp} {κ : Type} [DecidableEq κ] (k : κ) : ∀ {ks : List κ} {ds : List D} {xs : List V}, RepL K G ds xs → (match look ks ds k, valV (ks.zip xs) k with
    | some d, some v => Rep K G d v
    | none, none => True
    | _, _ => False)
  | [], ds, xs, _ => by
    unfold look valV
    simp
  | k' :: ks, [], xs, h => by
    rw [show xs = [] from h]
    unfold look valV
    simp
  | k' :: ks, d :: ds, _, ⟨x, r, e, h, t⟩ => by
    subst e
    have ih := look_zip k (ks := ks) t
    unfold look valV at ih ⊢
    rw [List.zip_cons_cons, List.zip_cons_cons, List.find?_cons, List.find?_cons]
    by_cases hk : k' = k
    · rw [decide_eq_true hk]; exact h
    · rw [decide_eq_false hk]; exact ih
theorem kV_of {K : PySem.W.Frag} {G : Hp} {d : D} {v : V} {k : Key} (h : Rep K G d v) (e : keyD d = some k) : v = kV k := by
  cases d <;> first | cases e
  · exact h
  · exact h
theorem keysV_of {K : PySem.W.Frag} {G : Hp} : ∀ {ds : List D} {xs : List V} {k : List Key}, RepL K G ds xs → keysD ds = some k → xs = k.map kV
  | [], _, _, h, e => by cases e; exact h
  | d :: ds, _, k, ⟨x, r, e1, h, t⟩, e => by
    unfold keysD at e
    cases a : keyD d with
    | none => rw [a] at e; cases e
    | some k1 =>
      cases b : keysD ds with
      | none => rw [a, b] at e; cases e
      | some k2 =>
        rw [a, b] at e
        cases e
        rw [e1, kV_of h a, keysV_of t b]; rfl

theorem op_din (hu : X.A.units + 1 < cLine) : OpR X (compareOp .In) (fun y x H Q => ∃ a o, x = .ref a ∧ DGet H a y o ∧ Q (.bl o.isSome) H) := by
  intro pins s σ H y x v u Q I ry rx h
  obtain ⟨a, o, e, g, q⟩ := h
  subst e
  obtain rfl : u = Value.ref a := rx
  exact d_in hu I g ry fun s3 I3 => ⟨.bl o.isSome, H, I3, rfl, q⟩
theorem op_dnotin (hu : X.A.units + 1 < cLine) : OpR X (compareOp .NotIn) (fun y x H Q => ∃ a o, x = .ref a ∧ DGet H a y o ∧ Q (.bl (!o.isSome)) H) := by
  intro pins s σ H y x v u Q I ry rx h
  obtain ⟨a, o, e, g, q⟩ := h
  subst e
  obtain rfl : u = Value.ref a := rx
  exact d_notIn hu I g ry fun s3 I3 => ⟨.bl (!o.isSome), H, I3, rfl, q⟩
theorem look_some {K : PySem.W.Frag} {G : Hp} {κ : Type} [DecidableEq κ] {k : κ} {ks : List κ} {ds : List D} {xs : List V} (h : RepL K G ds xs) : (look ks ds k).isSome = (valV (ks.zip xs) k).isSome := by
  have q := look_zip k (ks := ks) h
  cases e1 : look ks ds k <;> cases e2 : valV (ks.zip xs) k <;> rw [e1, e2] at q <;> first | rfl | exact q.elim
theorem dgetK {K : PySem.W.Frag} {G H : Hp} {ks : List Key} {ds : List D} {k : Key} {v : V} (h : Bor K G H (.dK ks ds) v) : ∃ a o, v = .ref a ∧ DGet H a (kV k) o ∧ (look ks ds k).isSome = o.isSome ∧ ∀ d, look ks ds k = some d → ∃ w, o = some w ∧ Rep K G d w := by
  obtain ⟨a, xs, e, q, l, r⟩ := h
  refine ⟨a, valV (ks.zip xs) k, e, .inl ⟨_, k, q, rfl, rfl⟩, look_some r, fun d hd => ?_⟩
  have z := look_zip k (ks := ks) r
  rw [hd] at z
  cases e2 : valV (ks.zip xs) k with
  | none => rw [e2] at z; exact z.elim
  | some w => rw [e2] at z; exact ⟨w, rfl, z⟩
theorem dgetT {K : PySem.W.Frag} {G H : Hp} {ks : List (List Key)} {ds xs : List D} {k : List Key} {v u : V} (h : Bor K G H (.dT ks ds) v) (hu : Bor K G H (.tup xs) u) (hk : keysD xs = some k) :
    ∃ a o, v = .ref a ∧ DGet H a u o ∧ (look ks ds k).isSome = o.isSome ∧ ∀ d, look ks ds k = some d → ∃ w, o = some w ∧ Rep K G d w := by
  obtain ⟨a, ys, e, q, l, r⟩ := h
  obtain ⟨b, zs, e2, q2, r2⟩ := hu
  have ez := keysV_of r2 hk
  subst ez
  refine ⟨a, valV (ks.zip ys) k, e, .inr ⟨_, k, b, q, e2, q2.1, rfl⟩, look_some r, fun d hd => ?_⟩
  have z := look_zip k (ks := ks) r
  rw [hd] at z
  cases e2 : valV (ks.zip ys) k with
  | none => rw [e2] at z; exact z.elim
  | some w => rw [e2] at z; exact ⟨w, rfl, z⟩
theorem Bor.flatV {K : PySem.W.Frag} {G H : Hp} {d : D} {v : V} (f : flatD d = true) (h : Bor K G H d v) : v = toV d := by
  cases d <;> first | exact h | cases f
theorem o_in_core {neg : Bool} {f : Value → Value → Sem Value} (h1 : OpR X f (rIn X.K neg)) (h2 : OpR X f (fun x y H Q => ∃ (c : Nat) (z : Str), x = .str ⟨#[c]⟩ ∧ y = .str z ∧ Q (.bl (if neg then !decide (c ∈ z.cps.toList) else decide (c ∈ z.cps.toList))) H))
    (h3 : OpR X f (fun y x H Q => ∃ a o, x = .ref a ∧ DGet H a y o ∧ Q (.bl (if neg then !o.isSome else o.isSome)) H)) : Op2 X f (fun x y Q => match inD x y with
      | some b => Q (.val (.bl (if neg then !b else b)))
      | none => False) := op_flat ((h1.or h2).or h3) fun p G H x y dx dy Q Kt hK B bx by' hm hc => by
  rw [← hK]
  have seqL : ∀ ds : List D, (∃ a xs, y = .ref a ∧ (SqL p.K H a xs ∨ SqT p.K H a xs) ∧ RepL p.K G ds xs) → (match (if flatD dx && ds.all flatD then some (ds.any fun d => eqD d dx) else none) with
      | some b => Q (.val (.bl (if neg then !b else b)))
      | none => False) → rIn p.K neg x y H Kt := fun ds ⟨a, xs, e, sq, r⟩ hm => by
    cases c : flatD dx && ds.all flatD with
    | false => rw [c] at hm; exact hm.elim
    | true =>
      rw [c, if_pos rfl] at hm
      rw [Bool.and_eq_true] at c
      have ex := bx.flatV c.1
      have exs := RepL.flat c.2 r
      subst ex exs
      refine ⟨a, _, e, sq, flatV_toV, allFlat ds, ?_⟩
      rw [inV_toV c.1 c.2]
      exact hc (.bl _) _ rfl hm
  cases dy with
  | lst ds => obtain ⟨a, xs, e, q, r⟩ := by'; exact .inl (.inl (seqL ds ⟨a, xs, e, .inl (.of q), r⟩ hm))
  | tup ds => obtain ⟨a, xs, e, q, r⟩ := by'; exact .inl (.inl (seqL ds ⟨a, xs, e, .inr (.of q.1), r⟩ hm))
  | kt ds => obtain ⟨a, xs, e, q, r⟩ := by'; exact .inl (.inl (seqL ds ⟨a, xs, e, .inr q, r⟩ hm))
  | str z =>
    cases dx with
    | str w' =>
      have hm' : (match (oneSign w').map fun c => decide (c ∈ z.cps.toList) with
        | some b => Q (.val (.bl (if neg then !b else b)))
        | none => False) := hm
      cases e : oneSign w' with
      | none => rw [e] at hm'; exact hm'.elim
      | some c =>
        rw [e] at hm'
        have bx' : x = .str w' := bx
        rw [oneSign_eq e] at bx'
        exact .inl (.inr ⟨c, z, bx', by', hc (.bl _) _ rfl hm'⟩)
    | _ => exact hm.elim
  | dK ks ds =>
    have hm' : (match (keyD dx).map fun k => (look ks ds k).isSome with
        | some b => Q (.val (.bl (if neg then !b else b)))
        | none => False) := hm
    cases e : keyD dx with
    | none => rw [e] at hm'; exact hm'.elim
    | some k =>
      rw [e] at hm'
      obtain ⟨a, o, ea, g, q1, q2⟩ := dgetK (k := k) by'
      have ex : x = kV k := by
        cases dx <;> first | cases e
        · exact bx
        · exact bx
      refine .inr ⟨a, o, ea, by rw [ex]; exact g, hc (.bl _) _ rfl ?_⟩
      rw [← q1]
      exact hm'
  | dT ks ds =>
    cases dx with
    | tup xs =>
      have hm' : (match (keysD xs).map fun k => (look ks ds k).isSome with
        | some b => Q (.val (.bl (if neg then !b else b)))
        | none => False) := hm
      cases e : keysD xs with
      | none => rw [e] at hm'; exact hm'.elim
      | some k =>
        rw [e] at hm'
        obtain ⟨a, o, ea, g, q1, q2⟩ := dgetT by' bx e
        refine .inr ⟨a, o, ea, g, hc (.bl _) _ rfl ?_⟩
        rw [← q1]
        exact hm'
    | _ => exact hm.elim
  | _ => exact hm.elim
theorem o_in (hu : X.A.units + 64 < cLine) : Op2 X (compareOp .In) mIn := (o_in_core (neg := false) op_in_seq op_in_sign (op_din (by omega))).imp fun x y Q h => h
theorem o_notin (hu : X.A.units + 64 < cLine) : Op2 X (compareOp .NotIn) mNotIn := (o_in_core (neg := true) op_notIn_seq op_notIn_sign (op_dnotin (by omega))).imp fun x y Q h => h
end
end Z

namespace Z
set_option autoImplicit false
open PySem PySem.Spec PyProof.Rows L2
section
variable {X : Cx} {W : WX}
/-! ### subscripts -/
def mIx : D → D → (Rs → Prop) → Prop
  | .lst ds, .int i, Q => match atI ds i with
    | some d => Q (.val d)
    | none => False
  | .tup ds, .int i, Q => match atI ds i with
    | some d => Q (.val d)
    | none => False
  | .kt ds, .int i, Q => match atI ds i with
    | some d => Q (.val d)
    | none => False
  | .str z, .int i, Q => z.length ≤ sizeLine ∧ match atI z.cps.toList i with
    | some c => Q (.val (.str ⟨#[c]⟩))
    | none => False
  | _, _, _ => False
theorem RepL.atI {K : PySem.W.Frag} {G : Hp} {ds : List D} {xs : List V} {i : Int} {d : D} (r : RepL K G ds xs) (h : L2.atI ds i = some d) : ∃ x, L2.atI xs i = some x ∧ Rep K G d x := by
  unfold L2.atI at h ⊢
  rw [← r.length]
  cases e : ixN ds.length i with
  | none => rw [e] at h; cases h
  | some j =>
    rw [e] at h
    exact r.get h
theorem ix_core : ∀ (p : Par) (G : Hp) (σ : St) (H : Hp) (ρ : List Sl) (x y : V) (dx dy : D) (Q : Rs → Prop) (C : VK), p.K = X.K → Abs p G σ H ρ → Bor p.K G H dx x → Bor p.K G H dy y → mIx dx dy Q →
      (∀ G' H' r v, Abs p G' σ H' ρ → Same G G' → ResOk p G' H' σ ρ r v → Q r → C v H') → rIx X.K x y H C := by
  intro p G σ H ρ x y dx dy Q C hK A bx by' hm hc
  rw [← hK]
  have seq : ∀ ds i, (match L2.atI ds i with
      | some d => Q (.val d)
      | none => False) → ∀ xs, RepL p.K G ds xs → ∃ w, L2.atI xs i = some w ∧ C w H := fun ds i hm xs r => by
    cases e : L2.atI ds i with
    | none => rw [e] at hm; exact hm.elim
    | some d =>
      rw [e] at hm
      obtain ⟨w, h1, h2⟩ := r.atI e
      exact ⟨w, h1, hc G H (.val d) w A (Same.refl G) h2 hm⟩
  cases dx with
  | lst ds =>
    cases dy with
    | int i =>
      obtain ⟨a, xs, e, q, r⟩ := bx
      obtain ⟨w, h1, h2⟩ := seq ds i hm xs r
      exact .inl ⟨a, xs, i, w, e, by', .of q, h1, h2⟩
    | _ => exact hm.elim
  | tup ds =>
    cases dy with
    | int i =>
      obtain ⟨a, xs, e, q, r⟩ := bx
      obtain ⟨w, h1, h2⟩ := seq ds i hm xs r
      exact .inr (.inl ⟨a, xs, i, w, e, by', .of q.1, h1, h2⟩)
    | _ => exact hm.elim
  | kt ds =>
    cases dy with
    | int i =>
      obtain ⟨a, xs, e, q, r⟩ := bx
      obtain ⟨w, h1, h2⟩ := seq ds i hm xs r
      exact .inr (.inl ⟨a, xs, i, w, e, by', q, h1, h2⟩)
    | _ => exact hm.elim
  | str z =>
    cases dy with
    | int i =>
      have hm' : z.length ≤ sizeLine ∧ (match L2.atI z.cps.toList i with
        | some c => Q (.val (.str ⟨#[c]⟩))
        | none => False) := hm
      obtain ⟨hz, hm'⟩ := hm'
      cases e : L2.atI z.cps.toList i with
      | none => rw [e] at hm'; exact hm'.elim
      | some c =>
        rw [e] at hm'
        exact .inr (.inr ⟨z, i, c, bx, by', hz, e, hc G H (.val (.str ⟨#[c]⟩)) _ A (Same.refl G) rfl hm'⟩)
    | _ => exact hm.elim
  | _ => exact hm.elim
theorem pe2_ix {a b : Expr} {pos : Pos} {wa wb : O2} (ha : PB2 X W a wa) (hb : PB2 X W b wb) (hs : PlainIx b := by exact fun _ _ => rfl) : PE2 X W (.Subscript a b pos) (wOp mIx wa wb) := by
  obtain ⟨ta, h1, r1⟩ := ha.ex
  obtain ⟨tb, h2, r2⟩ := hb.ex
  exact ⟨_, pe_ix ix_seq h1 h2 hs, bin2 (a := a) (b := b) r1 r2 ix_core⟩
/-- d[k], d a dict -/
def mDx : D → D → (Rs → Prop) → Prop
  | .dK ks ds, k, Q => match keyD k with
    | some k => match look ks ds k with
      | some d => Q (.val d)
      | none => False
    | none => False
  | .dT ks ds, .tup xs, Q => match keysD xs with
    | some k => match look ks ds k with
      | some d => Q (.val d)
      | none => False
    | none => False
  | _, _, _ => False
theorem kV_bor {K : PySem.W.Frag} {G H : Hp} {d : D} {v : V} {k : Key} (h : Bor K G H d v) (e : keyD d = some k) : v = kV k := by
  cases d <;> first | cases e
  · exact h
  · exact h
theorem pe2_dx {a b : Expr} {pos : Pos} {wa wb : O2} (hu : X.A.units + 64 < cLine) (ha : PB2 X W a wa) (hb : PB2 X W b wb) (hs : NoSl b := by exact fun _ _ => rfl) : PE2 X W (.Subscript a b pos) (wOp mDx wa wb) := by
  obtain ⟨ta, h1, r1⟩ := ha.ex
  obtain ⟨tb, h2, r2⟩ := hb.ex
  refine ⟨_, pe_dget (by omega) h1 h2 hs, bin2 (a := a) (b := b) (r := fun x y H Q => ∃ a v, x = .ref a ∧ DGet H a y (some v) ∧ Q v H) r1 r2 ?_⟩
  intro p G σ H ρ x y dx dy Q C hK A bx by' hm hc
  cases dx with
  | dK ks ds =>
    cases e : keyD dy with
    | none =>
      have hm' : (match keyD dy with
        | some k => match look ks ds k with
          | some d => Q (.val d)
          | none => False
        | none => False) := hm
      rw [e] at hm'; exact hm'.elim
    | some k =>
      have hm' : (match keyD dy with
        | some k => match look ks ds k with
          | some d => Q (.val d)
          | none => False
        | none => False) := hm
      rw [e] at hm'
      obtain ⟨a, o, ea, g, q1, q2⟩ := dgetK (k := k) bx
      have hm2 : (match look ks ds k with
          | some d => Q (.val d)
          | none => False) := hm'
      cases e2 : look ks ds k with
      | none => rw [e2] at hm2; exact hm2.elim
      | some d =>
        rw [e2] at hm2
        obtain ⟨w, eo, rw'⟩ := q2 d e2
        subst eo
        exact ⟨a, w, ea, by rw [kV_bor by' e]; exact g, hc G H (.val d) w A (Same.refl G) rw' hm2⟩
  | dT ks ds =>
    cases dy with
    | tup xs =>
      have hm' : (match keysD xs with
        | some k => match look ks ds k with
          | some d => Q (.val d)
          | none => False
        | none => False) := hm
      cases e : keysD xs with
      | none => rw [e] at hm'; exact hm'.elim
      | some k =>
        rw [e] at hm'
        obtain ⟨a, o, ea, g, q1, q2⟩ := dgetT bx by' e
        have hm2 : (match look ks ds k with
          | some d => Q (.val d)
          | none => False) := hm'
        cases e2 : look ks ds k with
        | none => rw [e2] at hm2; exact hm2.elim
        | some d =>
          rw [e2] at hm2
          obtain ⟨w, eo, rw'⟩ := q2 d e2
          subst eo
          exact ⟨a, w, ea, g, hc G H (.val d) w A (Same.refl G) rw' hm2⟩
    | _ => exact hm.elim
  | _ => exact hm.elim
/-! ### slices -/
def cutL {α : Type} (xs : List α) (lo hi : Option Int) : List α := (xs.drop (HT.sIx xs.length 0 lo)).take (HT.sIx xs.length xs.length hi - HT.sIx xs.length 0 lo)
theorem RepL.cut {K : PySem.W.Frag} {G : Hp} {ds : List D} {xs : List V} (r : RepL K G ds xs) (lo hi : Option Int) : RepL K G (cutL ds lo hi) (cutV xs lo hi) := by
  unfold cutL cutV
  rw [r.length]
  exact (r.drop _).take _
def mSl (x : D) (lo hi : Option Int) (Q : Rs → Prop) : Prop := match x with
  | .lst ds => Q (.own (.lst (cutL ds lo hi)))
  | .str z => z.length ≤ sizeLine ∧ Q (.val (.str (cutS z lo hi)))
  | .tup ds => ¬ (HT.sIx ds.length 0 lo = 0 ∧ HT.sIx ds.length ds.length hi = ds.length) ∧ Q (.val (.tup (cutL ds lo hi)))
  | _ => False
abbrev S2 := List Sl → (Option Int → List Sl → Prop) → RX → Prop
structure PO2 (X : Cx) (W : WX) (e : Option Expr) (w : S2) : Prop where
  ex : ∃ t, PO X e t ∧ ∀ (p : Par) (G : Hp) (σ : St) (H : Hp) (ρ : List Sl) (Q : Option Int → List Sl → Prop) (R : RX) (C : Option Int → Hp → Prop), p.K = X.K → Abs p G σ H ρ → RzOk p W σ G R → w ρ Q R →
    (∀ G' H' b ρ', Abs p G' σ H' ρ' → Same G G' → Q b ρ' → C b H') → t σ H C
def wNoPart : S2 := fun ρ Q _ => Q none ρ
def wPart (w : O2) : S2 := fun ρ Q R => w ρ (fun b ρ' => match bD ρ' b with
  | some (.int i) => Q (some i) ρ'
  | _ => False) R
theorem po2_none : PO2 X W none wNoPart := ⟨tNoPart, po_none, fun p G σ H ρ Q R C hK A hz hw hc => hc G H none ρ A (Same.refl G) hw⟩
theorem po2_some {e : Expr} {w : O2} (h : PB2 X W e w) : PO2 X W (some e) (wPart w) := by
  obtain ⟨t, h1, r1⟩ := h.ex
  refine ⟨_, po_some h1, fun p G σ H ρ Q R C hK A hz hw hc => ?_⟩
  refine r1 p G σ H ρ _ R _ hK A hz hw fun G1 H1 b1 ρ1 v1 A1 s1 o1 q1 => ?_
  cases e1 : bD ρ1 b1 with
  | none => rw [e1] at q1; exact q1.elim
  | some d =>
    rw [e1] at q1
    have bo := A1.opd o1 e1
    cases d with
    | int i => exact ⟨i, bo, hc G1 H1 (some i) ρ1 A1 s1 q1⟩
    | _ => exact q1.elim
def wSl (wa : O2) (wl wh : S2) : W2 := fun ρ Q R => wa ρ (fun b ρ1 => wl ρ1 (fun lo ρ2 => wh ρ2 (fun hi ρ3 => match bD ρ3 b with
  | some x => mSl x lo hi fun r => Q r ρ3
  | none => False) R) R) R
theorem pe2_slice {a : Expr} {lo hi : Option Expr} {pos p2 : Pos} {wa : O2} {wl wh : S2} (ha : PB2 X W a wa) (hl : PO2 X W lo wl) (hh : PO2 X W hi wh) : PE2 X W (.Subscript a (.Slice lo hi none p2) pos) (wSl wa wl wh) := by
  obtain ⟨ta, h1, r1⟩ := ha.ex
  obtain ⟨tl, h2, r2⟩ := hl.ex
  obtain ⟨th, h3, r3⟩ := hh.ex
  refine ⟨_, pe_slice ((sl_list.or sl_str).or sl_tup) h1 h2 h3, fun p G σ H ρ Q R C hK A hz hw hc => ?_⟩
  refine r1 p G σ H ρ _ R _ hK A hz hw fun G1 H1 b1 ρ1 v1 A1 s1 o1 q1 => ?_
  refine r2 p G1 σ H1 ρ1 _ R _ hK A1 (hz.mono s1) q1 fun G2 H2 l ρ2 A2 s2 q2 => ?_
  refine r3 p G2 σ H2 ρ2 _ R _ hK A2 (hz.mono (s1.trans s2)) q2 fun G3 H3 u ρ3 A3 s3 q3 => ?_
  have o1' := (o1.mono s2).mono s3
  have ss := (s1.trans s2).trans s3
  cases e1 : bD ρ3 b1 with
  | none => rw [e1] at q3; exact q3.elim
  | some x =>
    rw [e1] at q3
    have bo := A3.opd o1' e1
    rw [hK] at bo
    cases x with
    | lst ds =>
      obtain ⟨a, xs, e, q, r⟩ := bo
      refine .inl (.inl ⟨a, xs, e, .of q, fun t ht => ?_⟩)
      obtain ⟨A4, f, n⟩ := A3.laid (o := .lst (cutV xs l u)) ht
      exact hc G3 _ (.own (.lst (cutL ds l u))) _ _ A4 ss ⟨t, rfl, f, ⟨_, upd_same, by rw [hK]; exact r.cut l u⟩, n⟩ q3
    | str z => exact .inl (.inr ⟨z, bo, q3.1, hc G3 H3 (.val (.str (cutS z l u))) _ _ A3 ss rfl q3.2⟩)
    | tup ds =>
      obtain ⟨a, xs, e, q, r⟩ := bo
      refine .inr ⟨a, xs, e, .of q.1, by rw [← r.length]; exact q3.1, fun t ht => ?_⟩
      obtain ⟨A4, s4⟩ := A3.laidS (o := .tup (cutV xs l u)) ht
      exact hc _ _ (.val (.tup (cutL ds l u))) _ _ A4 (ss.trans s4) ⟨t, _, rfl, upd_same, by rw [hK]; exact (r.cut l u).mono s4⟩ q3.2
    | _ => exact q3.elim
/-! ### argument lists -/
abbrev L2' := List Sl → (List B → List Sl → Prop) → RX → Prop
def OpdsOk (p : Par) (G : Hp) (σ : St) : List B → List V → Prop
  | [], vs => vs = []
  | b :: bs, vs => ∃ v r, vs = v :: r ∧ OpdOk p G σ b v ∧ OpdsOk p G σ bs r
theorem OpdsOk.mono {p : Par} {G G' : Hp} {σ : St} (s : Same G G') : ∀ {bs : List B} {vs : List V}, OpdsOk p G σ bs vs → OpdsOk p G' σ bs vs
  | [], _, h => h
  | b :: bs, _, ⟨v, r, e, h, t⟩ => ⟨v, r, e, h.mono s, OpdsOk.mono s t⟩
structure PL2 (X : Cx) (W : WX) (es : List Expr) (w : L2') : Prop where
  ex : ∃ t, PA X es t ∧ ∀ (p : Par) (G : Hp) (σ : St) (H : Hp) (ρ : List Sl) (Q : List B → List Sl → Prop) (R : RX) (C : List V → Hp → Prop), p.K = X.K → Abs p G σ H ρ → RzOk p W σ G R → w ρ Q R →
    (∀ G' H' bs ρ' vs, Abs p G' σ H' ρ' → Same G G' → OpdsOk p G' σ bs vs → Q bs ρ' → C vs H') → t σ H C
def wNil : L2' := fun ρ Q _ => Q [] ρ
def wCons (wa : O2) (wl : L2') : L2' := fun ρ Q R => wa ρ (fun b ρ1 => wl ρ1 (fun bs ρ2 => Q (b :: bs) ρ2) R) R
theorem pl2_nil : PL2 X W [] wNil := ⟨tNil, pa_nil, fun p G σ H ρ Q R C hK A hz hw hc => hc G H [] ρ [] A (Same.refl G) rfl hw⟩
theorem pl2_cons {e : Expr} {es : List Expr} {wa : O2} {wl : L2'} (ha : PB2 X W e wa) (hl : PL2 X W es wl) (hs : starEach (e :: es) X.env = (false, eval e X.env) :: starEach es X.env := by rfl) : PL2 X W (e :: es) (wCons wa wl) := by
  obtain ⟨ta, h1, r1⟩ := ha.ex
  obtain ⟨tl, h2, r2⟩ := hl.ex
  refine ⟨_, pa_cons h1 h2 hs, fun p G σ H ρ Q R C hK A hz hw hc => ?_⟩
  refine r1 p G σ H ρ _ R _ hK A hz hw fun G1 H1 b1 ρ1 v1 A1 s1 o1 q1 => ?_
  exact r2 p G1 σ H1 ρ1 _ R _ hK A1 (hz.mono s1) q1 fun G2 H2 bs ρ2 vs A2 s2 o2 q2 => hc G2 H2 (b1 :: bs) ρ2 (v1 :: vs) A2 (s1.trans s2) ⟨v1, vs, rfl, o1.mono s2, o2⟩ q2
/-- values, shared -/
def aNil : A2 := fun ρ Q _ => Q [] ρ
def aCons (wa : V2) (wl : A2) : A2 := fun ρ Q R => wa ρ (fun d ρ1 => wl ρ1 (fun ds ρ2 => Q (d :: ds) ρ2) R) R
theorem pa2_nil : PA2 X W [] aNil := ⟨tNil, pa_nil, fun p G σ H ρ Q R C hK A hz hw hc => hc G H [] ρ [] A (Same.refl G) rfl hw⟩
theorem pa2_cons {e : Expr} {es : List Expr} {wa : V2} {wl : A2} (ha : PV2 X W e wa) (hl : PA2 X W es wl) (hs : starEach (e :: es) X.env = (false, eval e X.env) :: starEach es X.env := by rfl) : PA2 X W (e :: es) (aCons wa wl) := by
  obtain ⟨ta, h1, r1⟩ := ha.ex
  obtain ⟨tl, h2, r2⟩ := hl.ex
  refine ⟨_, pa_cons h1 h2 hs, fun p G σ H ρ Q R C hK A hz hw hc => ?_⟩
  refine r1 p G σ H ρ _ R _ hK A hz hw fun G1 H1 d1 ρ1 v1 A1 s1 o1 q1 => ?_
  exact r2 p G1 σ H1 ρ1 _ R _ hK A1 (hz.mono s1) q1 fun G2 H2 ds ρ2 vs A2 s2 o2 q2 => hc G2 H2 (d1 :: ds) ρ2 (v1 :: vs) A2 (s1.trans s2) (.cons (o1.mono s2) o2) q2
/-! ### displays -/
def wTup (w : A2) : W2 := fun ρ Q R => w ρ (fun ds ρ' => ds.length ≤ sizeLine ∧ Q (.val (.tup ds)) ρ') R
def wLst (w : A2) : W2 := fun ρ Q R => w ρ (fun ds ρ' => ds.length ≤ sizeLine ∧ Q (.own (.lst ds)) ρ') R
theorem pe2_tup {es : List Expr} {x1 pos} {w : A2} (h : PA2 X W es w) : PE2 X W (.Tuple es x1 pos) (wTup w) := by
  obtain ⟨t, h1, r1⟩ := h.ex
  refine ⟨_, pe_tup h1, fun p G σ H ρ Q R C hK A hz hw hc => ?_⟩
  refine r1 p G σ H ρ _ R _ hK A hz hw fun G1 H1 ds ρ1 vs A1 s1 o1 q1 => ⟨by rw [← o1.length]; exact q1.1, fun a ha => ?_⟩
  obtain ⟨A4, s4⟩ := A1.laidS (o := .tup vs) ha
  exact hc _ _ (.val (.tup ds)) _ _ A4 (s1.trans s4) ⟨a, _, rfl, upd_same, o1.mono s4⟩ q1.2
theorem pe2_lst {es : List Expr} {pos : Pos} {w : A2} (h : PA2 X W es w) : PE2 X W (.List es pos) (wLst w) := by
  obtain ⟨t, h1, r1⟩ := h.ex
  refine ⟨_, pe_lst h1, fun p G σ H ρ Q R C hK A hz hw hc => ?_⟩
  refine r1 p G σ H ρ _ R _ hK A hz hw fun G1 H1 ds ρ1 vs A1 s1 o1 q1 => ⟨by rw [← o1.length]; exact q1.1, fun a ha => ?_⟩
  obtain ⟨A4, f, n⟩ := A1.laid (o := .lst vs) ha
  exact hc G1 _ (.own (.lst ds)) _ _ A4 s1 ⟨a, rfl, f, ⟨_, upd_same, o1⟩, n⟩ q1.2
/-- {} (keys: ints, texts) -/
def wDnew : W2 := fun ρ Q _ => Q (.own (.dK [] [])) ρ
theorem pe2_dnew {pos : Pos} : PE2 X W (.Dict [] [] pos) wDnew := ⟨_, pe_dnewK, fun p G σ H ρ Q R C hK A hz hw hc a ha => by
  obtain ⟨A4, f, n⟩ := A.laid (o := .dK []) ha
  exact hc G _ (.own (.dK [] [])) _ _ A4 (Same.refl G) ⟨a, rfl, f, ⟨[], upd_same, rfl, rfl⟩, n⟩ hw⟩
/-! ### the truth of values, and, or, not -/
def wIf (wt : T2) (wa wb : W2) : W2 := fun ρ Q R => wt ρ (fun b ρ1 => if b = true then wa ρ1 Q R else wb ρ1 Q R) R
theorem pe2_if {c a b : Expr} {pos : Pos} {wt : T2} {wa wb : W2} (hc' : PT2 X W c wt) (ha : PE2 X W a wa) (hb : PE2 X W b wb) : PE2 X W (.IfExp c a b pos) (wIf wt wa wb) := by
  obtain ⟨t, h1, r1⟩ := hc'.ex
  obtain ⟨ta, h2, r2⟩ := ha.ex
  obtain ⟨tb, h3, r3⟩ := hb.ex
  refine ⟨_, pe_ifExp h1 h2 h3, fun p G σ H ρ Q R C hK A hz hw hc => ?_⟩
  refine r1 p G σ H ρ _ R _ hK A hz hw fun G1 H1 b ρ1 A1 s1 q1 => ?_
  cases b with
  | true => exact r2 p G1 σ H1 ρ1 Q R C hK A1 (hz.mono s1) q1 fun G2 H2 r ρ2 v A2 s2 o q => hc G2 H2 r ρ2 v A2 (s1.trans s2) o q
  | false => exact r3 p G1 σ H1 ρ1 Q R C hK A1 (hz.mono s1) q1 fun G2 H2 r ρ2 v A2 s2 o q => hc G2 H2 r ρ2 v A2 (s1.trans s2) o q
/-- a test of an expression that gives True or False -/
def onBl (Q : Bool → List Sl → Prop) : Rs → List Sl → Prop := fun r ρ => match r with
  | .val (.bl b) => Q b ρ
  | _ => False
def wBl (w : W2) : T2 := fun ρ Q R => w ρ (onBl Q) R
theorem pt2_val {e : Expr} {w : W2} (h : PE2 X W e w) (he : ∀ whole, isTrue e X.env whole = (do let v ← whole; standAt e.pos; holding [v] (truthy v)) := by intro _; rfl) : PT2 X W e (wBl w) := by
  obtain ⟨t, h1, r1⟩ := h.ex
  refine ⟨_, pt_val h1 he, fun p G σ H ρ Q R C hK A hz hw hc => ?_⟩
  refine r1 p G σ H ρ _ R _ hK A hz hw fun G1 H1 r ρ1 v A1 s1 o1 q1 => ?_
  cases r with
  | val d =>
    cases d with
    | bl b => exact ⟨b, o1, hc G1 H1 b ρ1 A1 s1 q1⟩
    | _ => exact q1.elim
  | own d => exact q1.elim
  | sto => exact q1.elim
/-- a comparison as a test -/
theorem pt2_cmp {a b : Expr} {op : CmpOp} {pos : Pos} {wa wb : O2} {m : D → D → (Rs → Prop) → Prop} (ho : Op2 X (compareOp op) m) (ha : PB2 X W a wa) (hb : PB2 X W b wb) (hm : behindInMarks op b = false := by first | rfl | exact nomark _) :
    PT2 X W (.Compare a [op] [b] pos) (wBl (wOp m wa wb)) := by
  obtain ⟨r, h, hr⟩ := ho.ex
  obtain ⟨ta, h1, r1⟩ := ha.ex
  obtain ⟨tb, h2, r2⟩ := hb.ex
  refine ⟨_, pt_cmpR h h1 h2 hm, fun p G σ H ρ Q R C hK A hz hw hc => ?_⟩
  refine bin2 (W := W) (a := a) (b := b) r1 r2 hr p G σ H ρ (onBl Q) R _ hK A hz hw fun G1 H1 r ρ1 v A1 s1 o1 q1 => ?_
  cases r with
  | val d =>
    cases d with
    | bl b => exact ⟨b, o1, hc G1 H1 b ρ1 A1 s1 q1⟩
    | _ => exact q1.elim
  | own d => exact q1.elim
  | sto => exact q1.elim
def wNot (w : T2) : T2 := fun ρ Q R => w ρ (fun b ρ' => Q (!b) ρ') R
theorem pt2_not {e : Expr} {pos : Pos} {w : T2} (h : PT2 X W e w) : PT2 X W (.UnaryOp .Not e pos) (wNot w) := by
  obtain ⟨t, h1, r1⟩ := h.ex
  exact ⟨_, pt_not h1, fun p G σ H ρ Q R C hK A hz hw hc => r1 p G σ H ρ _ R _ hK A hz hw fun G1 H1 b ρ1 A1 s1 q1 => hc G1 H1 (!b) ρ1 A1 s1 q1⟩
def wAnd (wa wb : T2) : T2 := fun ρ Q R => wa ρ (fun b ρ1 => if b = true then wb ρ1 Q R else Q false ρ1) R
def wOr (wa wb : T2) : T2 := fun ρ Q R => wa ρ (fun b ρ1 => if b = true then Q true ρ1 else wb ρ1 Q R) R
theorem PW2.pt {e : Expr} {w : T2} (h : PW2 X W e w) : PT2 X W e w := by
  obtain ⟨t, h1, r1⟩ := h.ex
  exact ⟨t, h1.pt, r1⟩
theorem pw2_and1 {a : Expr} {pos : Pos} {wa : T2} (ha : PT2 X W a wa) : PW2 X W (.BoolOp .And [a] pos) wa := by
  obtain ⟨t, h1, r1⟩ := ha.ex
  exact ⟨t, pw_and1 h1, r1⟩
theorem pw2_or1 {a : Expr} {pos : Pos} {wa : T2} (ha : PT2 X W a wa) : PW2 X W (.BoolOp .Or [a] pos) wa := by
  obtain ⟨t, h1, r1⟩ := ha.ex
  exact ⟨t, pw_or1 h1, r1⟩
theorem pw2_and {a b : Expr} {rest : List Expr} {pos : Pos} {wa wb : T2} (ha : PT2 X W a wa) (hb : PW2 X W (.BoolOp .And (b :: rest) pos) wb) : PW2 X W (.BoolOp .And (a :: b :: rest) pos) (wAnd wa wb) := by
  obtain ⟨t, h1, r1⟩ := ha.ex
  obtain ⟨u, h2, r2⟩ := hb.ex
  refine ⟨_, pw_and h1 h2, fun p G σ H ρ Q R C hK A hz hw hc => ?_⟩
  refine r1 p G σ H ρ _ R _ hK A hz hw fun G1 H1 b ρ1 A1 s1 q1 => ?_
  cases b with
  | true => exact r2 p G1 σ H1 ρ1 Q R C hK A1 (hz.mono s1) q1 fun G2 H2 b2 ρ2 A2 s2 q => hc G2 H2 b2 ρ2 A2 (s1.trans s2) q
  | false => exact hc G1 H1 false ρ1 A1 s1 q1
theorem pw2_or {a b : Expr} {rest : List Expr} {pos : Pos} {wa wb : T2} (ha : PT2 X W a wa) (hb : PW2 X W (.BoolOp .Or (b :: rest) pos) wb) : PW2 X W (.BoolOp .Or (a :: b :: rest) pos) (wOr wa wb) := by
  obtain ⟨t, h1, r1⟩ := ha.ex
  obtain ⟨u, h2, r2⟩ := hb.ex
  refine ⟨_, pw_or h1 h2, fun p G σ H ρ Q R C hK A hz hw hc => ?_⟩
  refine r1 p G σ H ρ _ R _ hK A hz hw fun G1 H1 b ρ1 A1 s1 q1 => ?_
  cases b with
  | false => exact r2 p G1 σ H1 ρ1 Q R C hK A1 (hz.mono s1) q1 fun G2 H2 b2 ρ2 A2 s2 q => hc G2 H2 b2 ρ2 A2 (s1.trans s2) q
  | true => exact hc G1 H1 true ρ1 A1 s1 q1
/-- a and b, a or b, not a as values (True, False) -/
def onBv (Q : Bool → List Sl → Prop) : Rs → List Sl → Prop := onBl Q
def wAndV (wa wb : W2) : W2 := fun ρ Q R => wa ρ (onBl fun b ρ1 => if b = true then wb ρ1 Q R else Q (.val (.bl false)) ρ1) R
def wOrV (wa wb : W2) : W2 := fun ρ Q R => wa ρ (onBl fun b ρ1 => if b = true then Q (.val (.bl true)) ρ1 else wb ρ1 Q R) R
def wNotV (wa : W2) : W2 := fun ρ Q R => wa ρ (onBl fun b ρ1 => Q (.val (.bl (!b))) ρ1) R
theorem pe2_one {a : Expr} {op} {pos : Pos} {wa : W2} (ha : PE2 X W a wa) : PE2 X W (.BoolOp op [a] pos) wa := by
  obtain ⟨t, h1, r1⟩ := ha.ex
  exact ⟨t, pe_one h1, r1⟩
theorem pe2_and {a b : Expr} {rest : List Expr} {pos : Pos} {wa wb : W2} (ha : PE2 X W a wa) (hb : PE2 X W (.BoolOp .And (b :: rest) pos) wb) : PE2 X W (.BoolOp .And (a :: b :: rest) pos) (wAndV wa wb) := by
  obtain ⟨t, h1, r1⟩ := ha.ex
  obtain ⟨u, h2, r2⟩ := hb.ex
  refine ⟨_, pe_and h1 h2, fun p G σ H ρ Q R C hK A hz hw hc => ?_⟩
  refine r1 p G σ H ρ _ R _ hK A hz hw fun G1 H1 r ρ1 v A1 s1 o1 q1 => ?_
  cases r with
  | val d =>
    cases d with
    | bl b =>
      refine ⟨b, o1, ?_⟩
      cases b with
      | true => exact r2 p G1 σ H1 ρ1 Q R C hK A1 (hz.mono s1) q1 fun G2 H2 b2 ρ2 v A2 s2 o q => hc G2 H2 b2 ρ2 v A2 (s1.trans s2) o q
      | false => exact hc G1 H1 (.val (.bl false)) ρ1 _ A1 s1 rfl q1
    | _ => exact q1.elim
  | own d => exact q1.elim
  | sto => exact q1.elim
theorem pe2_or {a b : Expr} {rest : List Expr} {pos : Pos} {wa wb : W2} (ha : PE2 X W a wa) (hb : PE2 X W (.BoolOp .Or (b :: rest) pos) wb) : PE2 X W (.BoolOp .Or (a :: b :: rest) pos) (wOrV wa wb) := by
  obtain ⟨t, h1, r1⟩ := ha.ex
  obtain ⟨u, h2, r2⟩ := hb.ex
  refine ⟨_, pe_or h1 h2, fun p G σ H ρ Q R C hK A hz hw hc => ?_⟩
  refine r1 p G σ H ρ _ R _ hK A hz hw fun G1 H1 r ρ1 v A1 s1 o1 q1 => ?_
  cases r with
  | val d =>
    cases d with
    | bl b =>
      refine ⟨b, o1, ?_⟩
      cases b with
      | false => exact r2 p G1 σ H1 ρ1 Q R C hK A1 (hz.mono s1) q1 fun G2 H2 b2 ρ2 v A2 s2 o q => hc G2 H2 b2 ρ2 v A2 (s1.trans s2) o q
      | true => exact hc G1 H1 (.val (.bl true)) ρ1 _ A1 s1 rfl q1
    | _ => exact q1.elim
  | own d => exact q1.elim
  | sto => exact q1.elim
theorem pe2_not {a : Expr} {pos : Pos} {wa : W2} (ha : PE2 X W a wa) : PE2 X W (.UnaryOp .Not a pos) (wNotV wa) := by
  obtain ⟨t, h1, r1⟩ := ha.ex
  refine ⟨_, pe_not h1, fun p G σ H ρ Q R C hK A hz hw hc => ?_⟩
  refine r1 p G σ H ρ _ R _ hK A hz hw fun G1 H1 r ρ1 v A1 s1 o1 q1 => ?_
  cases r with
  | val d =>
    cases d with
    | bl b => exact ⟨b, o1, hc G1 H1 (.val (.bl (!b))) ρ1 _ A1 s1 rfl q1⟩
    | _ => exact q1.elim
  | own d => exact q1.elim
  | sto => exact q1.elim
end
end Z

namespace Z
set_option autoImplicit false
open PySem PySem.Spec PyProof.Rows L2
section
variable {X : Cx} {W : WX}
/-! ### truth of any value -/
def truD : D → Option Bool
  | .non => some false
  | .bl b => some b
  | .int i => some (i != 0)
  | .str y => if y.length ≤ sizeLine then some ((y.length : Int) != 0) else none
  | .lst ds => some (!ds.isEmpty)
  | .tup ds => some (!ds.isEmpty)
  | .kt ds => some (!ds.isEmpty)
  | _ => none
theorem RepL.isEmpty {K : PySem.W.Frag} {G : Hp} : ∀ {ds : List D} {xs : List V}, RepL K G ds xs → ds.isEmpty = xs.isEmpty
  | [], _, h => by rw [show _ = [] from h]; rfl
  | d :: ds, _, ⟨x, r, e, _⟩ => by rw [e]; rfl
theorem Bor.tru {K : PySem.W.Frag} {G H : Hp} {d : D} {v : V} {k : Bool} (h : Bor K G H d v) (e : truD d = some k) : TruV K v H k := by
  cases d with
  | non => rw [show v = _ from h]; cases e; rfl
  | bl b => rw [show v = _ from h]; cases e; rfl
  | int i => rw [show v = _ from h]; cases e; rfl
  | str y =>
    rw [show v = _ from h]
    have e' : (if y.length ≤ sizeLine then some ((y.length : Int) != 0) else none) = some k := e
    by_cases z : y.length ≤ sizeLine
    · rw [if_pos z] at e'
      cases e'
      exact ⟨z, rfl⟩
    · rw [if_neg z] at e'
      cases e'
  | lst ds => obtain ⟨a, xs, e1, q, r⟩ := h; rw [e1]; cases e; exact .inl ⟨xs, .of q, by rw [r.isEmpty]⟩
  | tup ds => obtain ⟨a, xs, e1, q, r⟩ := h; rw [e1]; cases e; exact .inr (.inl ⟨xs, .of q.1, by rw [r.isEmpty]⟩)
  | kt ds => obtain ⟨a, xs, e1, q, r⟩ := h; rw [e1]; cases e; exact .inr (.inl ⟨xs, q, by rw [r.isEmpty]⟩)
  | _ => cases e
def wTru (w : O2) : T2 := fun ρ Q R => w ρ (fun b ρ' => match bD ρ' b with
  | some d => (match truD d with
    | some k => Q k ρ'
    | none => False)
  | none => False) R
theorem pt2_tru {e : Expr} {w : O2} (h : PB2 X W e w) (he : ∀ whole, isTrue e X.env whole = (do let v ← whole; standAt e.pos; holding [v] (truthy v)) := by intro _; rfl) : PT2 X W e (wTru w) := by
  obtain ⟨t, h1, r1⟩ := h.ex
  refine ⟨_, pt_truth h1 he, fun p G σ H ρ Q R C hK A hz hw hc => ?_⟩
  refine r1 p G σ H ρ _ R _ hK A hz hw fun G1 H1 b1 ρ1 v1 A1 s1 o1 q1 => ?_
  cases e1 : bD ρ1 b1 with
  | none => rw [e1] at q1; exact q1.elim
  | some d =>
    rw [e1] at q1
    have bo := A1.opd o1 e1
    have q1' : (match truD d with
      | some k => Q k ρ1
      | none => False) := q1
    cases e2 : truD d with
    | none => rw [e2] at q1'; exact q1'.elim
    | some k =>
      rw [e2] at q1'
      rw [hK] at bo
      exact ⟨k, bo.tru e2, hc G1 H1 k ρ1 A1 s1 q1'⟩
/-! ### a < b < c -/
def wChain (m m' : D → D → (Rs → Prop) → Prop) (wa wb wc : O2) : W2 := fun ρ Q R => wa ρ (fun b1 ρ1 => wb ρ1 (fun b2 ρ2 => match bD ρ2 b1, bD ρ2 b2 with
  | some x, some y => m x y fun r => match r with
    | .val (.bl k) => if k = true then wc ρ2 (fun b3 ρ3 => match bD ρ3 b2, bD ρ3 b3 with
        | some y', some z => m' y' z fun r => Q r ρ3
        | _, _ => False) R else Q (.val (.bl false)) ρ2
    | _ => False
  | _, _ => False) R) R
theorem chain2 {ta tb tc : TE} {wa wb wc : O2} {m m' : D → D → (Rs → Prop) → Prop} {r r' : R2}
    (ha : ∀ (p : Par) (G : Hp) (σ : St) (H : Hp) (ρ : List Sl) (Q : B → List Sl → Prop) (R : RX) (C : VK), p.K = X.K → Abs p G σ H ρ → RzOk p W σ G R → wa ρ Q R → (∀ G' H' b ρ' v, Abs p G' σ H' ρ' → Same G G' → OpdOk p G' σ b v → Q b ρ' → C v H') → ta σ H C)
    (hb : ∀ (p : Par) (G : Hp) (σ : St) (H : Hp) (ρ : List Sl) (Q : B → List Sl → Prop) (R : RX) (C : VK), p.K = X.K → Abs p G σ H ρ → RzOk p W σ G R → wb ρ Q R → (∀ G' H' b ρ' v, Abs p G' σ H' ρ' → Same G G' → OpdOk p G' σ b v → Q b ρ' → C v H') → tb σ H C)
    (hcc : ∀ (p : Par) (G : Hp) (σ : St) (H : Hp) (ρ : List Sl) (Q : B → List Sl → Prop) (R : RX) (C : VK), p.K = X.K → Abs p G σ H ρ → RzOk p W σ G R → wc ρ Q R → (∀ G' H' b ρ' v, Abs p G' σ H' ρ' → Same G G' → OpdOk p G' σ b v → Q b ρ' → C v H') → tc σ H C)
    (hr : ∀ (p : Par) (G : Hp) (σ : St) (H : Hp) (ρ : List Sl) (x y : V) (dx dy : D) (Q : Rs → Prop) (C : VK), p.K = X.K → Abs p G σ H ρ → Bor p.K G H dx x → Bor p.K G H dy y → m dx dy Q →
      (∀ G' H' r v, Abs p G' σ H' ρ → Same G G' → ResOk p G' H' σ ρ r v → Q r → C v H') → r x y H C)
    (hr' : ∀ (p : Par) (G : Hp) (σ : St) (H : Hp) (ρ : List Sl) (x y : V) (dx dy : D) (Q : Rs → Prop) (C : VK), p.K = X.K → Abs p G σ H ρ → Bor p.K G H dx x → Bor p.K G H dy y → m' dx dy Q →
      (∀ G' H' r v, Abs p G' σ H' ρ → Same G G' → ResOk p G' H' σ ρ r v → Q r → C v H') → r' x y H C) :
    ∀ (p : Par) (G : Hp) (σ : St) (H : Hp) (ρ : List Sl) (Q : Rs → List Sl → Prop) (R : RX) (C : VK), p.K = X.K → Abs p G σ H ρ → RzOk p W σ G R → wChain m m' wa wb wc ρ Q R →
    (∀ G' H' r ρ' v, Abs p G' σ H' ρ' → Same G G' → ResOk p G' H' σ ρ' r v → Q r ρ' → C v H') → tChain r r' ta tb tc σ H C := by
  intro p G σ H ρ Q R C hK A hz hw hc
  refine ha p G σ H ρ _ R _ hK A hz hw fun G1 H1 b1 ρ1 v1 A1 s1 o1 q1 => ?_
  refine hb p G1 σ H1 ρ1 _ R _ hK A1 (hz.mono s1) q1 fun G2 H2 b2 ρ2 v2 A2 s2 o2 q2 => ?_
  have o1' := o1.mono s2
  cases e1 : bD ρ2 b1 with
  | none => rw [e1] at q2; exact q2.elim
  | some x =>
    cases e2 : bD ρ2 b2 with
    | none => rw [e1, e2] at q2; exact q2.elim
    | some y =>
      rw [e1, e2] at q2
      refine hr p G2 σ H2 ρ2 v1 v2 x y _ _ hK A2 (A2.opd o1' e1) (A2.opd o2 e2) q2 fun G3 H3 r v3 A3 s3 ro q3 => ?_
      have s123 := (s1.trans s2).trans s3
      cases r with
      | own d => exact q3.elim
      | sto => exact q3.elim
      | val d =>
        cases d with
        | bl k =>
          refine ⟨k, ro, ?_⟩
          cases k with
          | false => exact hc G3 H3 (.val (.bl false)) ρ2 _ A3 s123 rfl q3
          | true =>
            refine hcc p G3 σ H3 ρ2 _ R _ hK A3 (hz.mono s123) q3 fun G4 H4 b3 ρ4 v4 A4 s4 o4 q4 => ?_
            have o2' := (o2.mono s3).mono s4
            cases f1 : bD ρ4 b2 with
            | none => rw [f1] at q4; exact q4.elim
            | some y' =>
              cases f2 : bD ρ4 b3 with
              | none => rw [f1, f2] at q4; exact q4.elim
              | some z =>
                rw [f1, f2] at q4
                exact hr' p G4 σ H4 ρ4 v2 v4 y' z _ C hK A4 (A4.opd o2' f1) (A4.opd o4 f2) q4 fun G' H' r v A' s ro q => hc G' H' r ρ4 v A' ((s123.trans s4).trans s) ro q
        | _ => exact q3.elim
theorem pe2_chain {a b c : Expr} {op op' : CmpOp} {pos : Pos} {wa wb wc : O2} {m m' : D → D → (Rs → Prop) → Prop} (ho : Op2 X (compareOp op) m) (ho' : Op2 X (compareOp op') m') (ha : PB2 X W a wa) (hb : PB2 X W b wb) (hc : PB2 X W c wc)
    (hm : lastMarks [op, op'] [b, c] = false := by with_unfolding_all rfl) : PE2 X W (.Compare a [op, op'] [b, c] pos) (wChain m m' wa wb wc) := by
  obtain ⟨r, h, hr⟩ := ho.ex
  obtain ⟨r', h', hr'⟩ := ho'.ex
  obtain ⟨ta, h1, r1⟩ := ha.ex
  obtain ⟨tb, h2, r2⟩ := hb.ex
  obtain ⟨tc, h3, r3⟩ := hc.ex
  exact ⟨_, pe_chain h h' h1 h2 h3 hm, chain2 r1 r2 r3 hr hr'⟩
theorem pt2_chain {a b c : Expr} {op op' : CmpOp} {pos : Pos} {wa wb wc : O2} {m m' : D → D → (Rs → Prop) → Prop} (ho : Op2 X (compareOp op) m) (ho' : Op2 X (compareOp op') m') (ha : PB2 X W a wa) (hb : PB2 X W b wb) (hc : PB2 X W c wc)
    (hm : lastMarks [op, op'] [b, c] = false := by with_unfolding_all rfl) : PT2 X W (.Compare a [op, op'] [b, c] pos) (wBl (wChain m m' wa wb wc)) := by
  obtain ⟨r, h, hr⟩ := ho.ex
  obtain ⟨r', h', hr'⟩ := ho'.ex
  obtain ⟨ta, h1, r1⟩ := ha.ex
  obtain ⟨tb, h2, r2⟩ := hb.ex
  obtain ⟨tc, h3, r3⟩ := hc.ex
  refine ⟨_, pt_chain h h' h1 h2 h3 hm, fun p G σ H ρ Q R C hK A hz hw hc => ?_⟩
  refine chain2 (W := W) r1 r2 r3 hr hr' p G σ H ρ (onBl Q) R _ hK A hz hw fun G1 H1 r ρ1 v A1 s1 o1 q1 => ?_
  cases r with
  | val d =>
    cases d with
    | bl b => exact ⟨b, o1, hc G1 H1 b ρ1 A1 s1 q1⟩
    | _ => exact q1.elim
  | own d => exact q1.elim
  | sto => exact q1.elim
/-! ### built-in functions -/
def BorL (K : PySem.W.Frag) (G H : Hp) : List D → List V → Prop
  | [], vs => vs = []
  | d :: ds, vs => ∃ v r, vs = v :: r ∧ Bor K G H d v ∧ BorL K G H ds r
def bDs (ρ : List Sl) : List B → Option (List D)
  | [] => some []
  | b :: bs => match bD ρ b, bDs ρ bs with
    | some d, some ds => some (d :: ds)
    | _, _ => none
theorem Abs.opds {p : Par} {G H : Hp} {σ : St} {ρ : List Sl} (A : Abs p G σ H ρ) : ∀ {bs : List B} {vs : List V} {ds : List D}, OpdsOk p G σ bs vs → bDs ρ bs = some ds → BorL p.K G H ds vs
  | [], _, _, h, e => by cases e; exact h
  | b :: bs, _, ds, ⟨v, r, e1, o, t⟩, e => by
    unfold bDs at e
    cases h1 : bD ρ b with
    | none => rw [h1] at e; cases e
    | some d =>
      cases h2 : bDs ρ bs with
      | none => rw [h1, h2] at e; cases e
      | some ds' =>
        rw [h1, h2] at e
        cases e
        exact ⟨v, r, e1, A.opd o h1, A.opds t h2⟩
structure Fn2 (X : Cx) (f : Value) (m : List D → (Rs → Prop) → Prop) : Prop where
  ex : ∃ r, CallR X f r ∧ ∀ (p : Par) (G : Hp) (σ : St) (H : Hp) (ρ : List Sl) (vs : List V) (ds : List D) (Q : Rs → Prop) (C : VK), p.K = X.K → Abs p G σ H ρ → BorL p.K G H ds vs → m ds Q →
    (∀ G' H' r v, Abs p G' σ H' ρ → Same G G' → ResOk p G' H' σ ρ r v → Q r → C v H') → r vs H C
def wFn (m : List D → (Rs → Prop) → Prop) (w : L2') : W2 := fun ρ Q R => w ρ (fun bs ρ' => match bDs ρ' bs with
  | some ds => m ds fun r => Q r ρ'
  | none => False) R
theorem fn2 {es : List Expr} {w : L2'} {m : List D → (Rs → Prop) → Prop} {r : List V → Hp → VK → Prop} {t : TA}
    (r1 : ∀ (p : Par) (G : Hp) (σ : St) (H : Hp) (ρ : List Sl) (Q : List B → List Sl → Prop) (R : RX) (C : List V → Hp → Prop), p.K = X.K → Abs p G σ H ρ → RzOk p W σ G R → w ρ Q R →
    (∀ G' H' bs ρ' vs, Abs p G' σ H' ρ' → Same G G' → OpdsOk p G' σ bs vs → Q bs ρ' → C vs H') → t σ H C)
    (hr : ∀ (p : Par) (G : Hp) (σ : St) (H : Hp) (ρ : List Sl) (vs : List V) (ds : List D) (Q : Rs → Prop) (C : VK), p.K = X.K → Abs p G σ H ρ → BorL p.K G H ds vs → m ds Q →
    (∀ G' H' r v, Abs p G' σ H' ρ → Same G G' → ResOk p G' H' σ ρ r v → Q r → C v H') → r vs H C) :
    ∀ (p : Par) (G : Hp) (σ : St) (H : Hp) (ρ : List Sl) (Q : Rs → List Sl → Prop) (R : RX) (C : VK), p.K = X.K → Abs p G σ H ρ → RzOk p W σ G R → wFn m w ρ Q R →
    (∀ G' H' r ρ' v, Abs p G' σ H' ρ' → Same G G' → ResOk p G' H' σ ρ' r v → Q r ρ' → C v H') → tCB r t σ H C := by
  intro p G σ H ρ Q R C hK A hz hw hc
  refine r1 p G σ H ρ _ R _ hK A hz hw fun G1 H1 bs ρ1 vs A1 s1 o1 q1 => ?_
  cases e1 : bDs ρ1 bs with
  | none => rw [e1] at q1; exact q1.elim
  | some ds =>
    rw [e1] at q1
    exact hr p G1 σ H1 ρ1 vs ds _ C hK A1 (A1.opds o1 e1) q1 fun G' H' r v A' s ro q => hc G' H' r ρ1 v A' (s1.trans s) ro q
theorem pe2_callB {x : Str} {p pos : Pos} {e : Expr} {es : List Expr} {id : String} {w : L2'} {m : List D → (Rs → Prop) → Prop} (hc : Fn2 X (.builtin id) m) (hm : X.mg x = none) (ha : PL2 X W (e :: es) w) (hv : bootBuiltins x = some (.builtin id) := by decide +kernel) (hg : Gl X x := by rfl) (hn : x ≠ "__name__" := by decide) (hdb : (x == ("__debug__" : Str)) = false := by decide)
    (he : starEach (e :: es) X.env = (false, eval e X.env) :: starEach es X.env := by rfl) (hpl : (backTo pos (starEach es X.env)).any (·.1) = false := by rfl) : PE2 X W (.Call (.Name x p) (e :: es) [] pos) (wFn m w) := by
  obtain ⟨r, h, hr⟩ := hc.ex
  obtain ⟨t, h1, r1⟩ := ha.ex
  exact ⟨_, pe_callB h hg hm hv h1 hn hdb he hpl, fn2 (es := e :: es) r1 hr⟩
theorem pe2_callTy {x : Str} {p pos : Pos} {e : Expr} {es : List Expr} {T : String} {w : L2'} {m : List D → (Rs → Prop) → Prop} (hc : Fn2 X (.type T) m) (hm : X.mg x = none) (ha : PL2 X W (e :: es) w) (hv : bootBuiltins x = some (.type T) := by decide +kernel) (hg : Gl X x := by rfl) (hn : x ≠ "__name__" := by decide) (hdb : (x == ("__debug__" : Str)) = false := by decide)
    (he : starEach (e :: es) X.env = (false, eval e X.env) :: starEach es X.env := by rfl) (hpl : (backTo pos (starEach es X.env)).any (·.1) = false := by rfl) : PE2 X W (.Call (.Name x p) (e :: es) [] pos) (wFn m w) := by
  obtain ⟨r, h, hr⟩ := hc.ex
  obtain ⟨t, h1, r1⟩ := ha.ex
  exact ⟨_, pe_callTy h hg hm hv h1 hn hdb he hpl, fn2 (es := e :: es) r1 hr⟩
theorem fn_flat {f : Value} {r : List V → Hp → VK → Prop} {m : List D → (Rs → Prop) → Prop} (h : CallR X f r)
    (k : ∀ (p : Par) (G H : Hp) (vs : List V) (ds : List D) (Q : Rs → Prop) (C : VK), p.K = X.K → Bas p G H → BorL p.K G H ds vs → m ds Q → (∀ d v, Rep p.K G d v → Q (.val d) → C v H) → r vs H C) : Fn2 X f m :=
  ⟨r, h, fun p G σ H ρ vs ds Q C hK A b hm hc => k p G H vs ds Q C hK A.toBas b hm fun d v hr hq => hc G H (.val d) v A (Same.refl G) hr hq⟩
def mLen : List D → (Rs → Prop) → Prop
  | [.lst ds], Q => Q (.val (.int ds.length))
  | [.tup ds], Q => Q (.val (.int ds.length))
  | [.kt ds], Q => Q (.val (.int ds.length))
  | [.str z], Q => z.length ≤ sizeLine ∧ Q (.val (.int z.length))
  | [.dK ks ds], Q => Q (.val (.int ks.length))
  | [.scr ns], Q => Q (.val (.int ns.length))
  | _, _ => False
theorem BorL.one {K : PySem.W.Frag} {G H : Hp} {d : D} {vs : List V} (h : BorL K G H [d] vs) : ∃ v, vs = [v] ∧ Bor K G H d v := by
  obtain ⟨v, r, e, b, t⟩ := h
  have e2 : r = [] := t
  subst e2
  exact ⟨v, e, b⟩
theorem BorL.two {K : PySem.W.Frag} {G H : Hp} {d d' : D} {vs : List V} (h : BorL K G H [d, d'] vs) : ∃ v v', vs = [v, v'] ∧ Bor K G H d v ∧ Bor K G H d' v' := by
  obtain ⟨v, r, e, b, t⟩ := h
  obtain ⟨v', e2, b'⟩ := BorL.one t
  subst e2
  exact ⟨v, v', e, b, b'⟩
theorem Fn2.or {f : Value} {m n : List D → (Rs → Prop) → Prop} (a : Fn2 X f m) (b : Fn2 X f n) : Fn2 X f (fun x Q => m x Q ∨ n x Q) := by
  obtain ⟨r, h, hr⟩ := a.ex
  obtain ⟨r', h', hr'⟩ := b.ex
  refine ⟨_, h.or h', fun p G σ H ρ vs ds Q C hK A bl hm hc => ?_⟩
  rcases hm with hm | hm
  · exact .inl (hr p G σ H ρ vs ds Q C hK A bl hm hc)
  · exact .inr (hr' p G σ H ρ vs ds Q C hK A bl hm hc)
theorem Fn2.imp {f : Value} {m n : List D → (Rs → Prop) → Prop} (a : Fn2 X f m) (h : ∀ x Q, n x Q → m x Q) : Fn2 X f n := by
  obtain ⟨r, h1, hr⟩ := a.ex
  exact ⟨r, h1, fun p G σ H ρ vs ds Q C hK A bl hm hc => hr p G σ H ρ vs ds Q C hK A bl (h _ _ hm) hc⟩
/-- a sequence's items -/
def seqD : D → Option (List D)
  | .lst ds => some ds
  | .tup ds => some ds
  | .kt ds => some ds
  | _ => none
theorem Bor.seq {K : PySem.W.Frag} {G H : Hp} {d : D} {v : V} {ds : List D} (b : Bor K G H d v) (h : seqD d = some ds) : ∃ a xs, v = .ref a ∧ (SqL K H a xs ∨ SqT K H a xs) ∧ RepL K G ds xs := by
  cases d <;> first | cases h
  · obtain ⟨a, xs, e, q, r⟩ := b; exact ⟨a, xs, e, .inl (.of q), r⟩
  · obtain ⟨a, xs, e, q, r⟩ := b; exact ⟨a, xs, e, .inr (.of q.1), r⟩
  · obtain ⟨a, xs, e, q, r⟩ := b; exact ⟨a, xs, e, .inr q, r⟩
theorem call_lenR : CallR X (.builtin "len") (fun xs H Q => ∃ a kvs, xs = [V.ref a] ∧ Rd H a (.dK kvs) ∧ Q (.int kvs.length) H) := by
  intro pins s σ H xs us Q I r h
  obtain ⟨a, kvs, e, ha, q⟩ := h
  subst e
  obtain ⟨u, e2, ru⟩ := vals1 r
  subst e2
  cases ru
  exact d_len I ha fun t s' I' => ⟨.int kvs.length, H, I', ⟨t, rfl⟩, q⟩
theorem f_len_seq : Fn2 X (.builtin "len") (fun ds Q => ∃ d es, ds = [d] ∧ seqD d = some es ∧ Q (.val (.int es.length))) := fn_flat call_len_seq fun p G H vs ds Q C hK B b hm hc => by
  rw [← hK]
  obtain ⟨d, es, rfl, e, q⟩ := hm
  obtain ⟨v, rfl, b1⟩ := b.one
  obtain ⟨a, xs, e1, h1, r⟩ := b1.seq e
  subst e1
  exact ⟨a, xs, rfl, h1, by rw [← r.length]; exact hc (.int _) _ rfl q⟩
theorem f_len_scr : Fn2 X (.builtin "len") (fun ds Q => ∃ ns, ds = [.scr ns] ∧ Q (.val (.int ns.length))) := fn_flat call_len_seq fun p G H vs ds Q C hK B b hm hc => by
  rw [← hK]
  obtain ⟨ns, rfl, q⟩ := hm
  obtain ⟨v, rfl, a, e1, h1⟩ := b.one
  subst e1
  refine ⟨a, _, rfl, .inl h1, ?_⟩
  rw [List.length_map]
  exact hc (.int _) _ rfl q
theorem f_len_str : Fn2 X (.builtin "len") (fun ds Q => ∃ z, ds = [.str z] ∧ z.length ≤ sizeLine ∧ Q (.val (.int z.length))) := fn_flat call_len_str fun p G H vs ds Q C hK B b hm hc => by
  obtain ⟨z, rfl, hz, q⟩ := hm
  obtain ⟨v, rfl, e1⟩ := b.one
  have e2 : v = .str z := e1
  subst e2
  exact ⟨z, rfl, hz, hc (.int _) _ rfl q⟩
theorem f_len_dK : Fn2 X (.builtin "len") (fun ds Q => ∃ ks es, ds = [.dK ks es] ∧ Q (.val (.int ks.length))) := fn_flat call_lenR fun p G H vs ds Q C hK B b hm hc => by
  obtain ⟨ks, es, rfl, q⟩ := hm
  obtain ⟨v, rfl, a, xs, e1, h1, l, r⟩ := b.one
  subst e1
  have hl : (ks.zip xs).length = ks.length := by rw [List.length_zip, ← r.length, l, Nat.min_self]
  exact ⟨a, ks.zip xs, rfl, h1, by rw [hl]; exact hc (.int _) _ rfl q⟩
theorem f_len : Fn2 X (.builtin "len") mLen := (((f_len_seq.or f_len_scr).or f_len_str).or f_len_dK).imp fun ds Q h => by
  unfold mLen at h
  split at h
  · exact .inl (.inl (.inl ⟨_, _, rfl, rfl, h⟩))
  · exact .inl (.inl (.inl ⟨_, _, rfl, rfl, h⟩))
  · exact .inl (.inl (.inl ⟨_, _, rfl, rfl, h⟩))
  · exact .inl (.inr ⟨_, rfl, h⟩)
  · exact .inr ⟨_, _, rfl, h⟩
  · exact .inl (.inl (.inr ⟨_, rfl, h⟩))
  · exact h.elim
/-! list(x), tuple(x) -/
def mList : List D → (Rs → Prop) → Prop
  | [d], Q => match seqD d with
    | some es => Q (.own (.lst es))
    | none => False
  | _, _ => False
theorem f_list : Fn2 X (.type "list") mList := by
  refine ⟨_, call_list_of, fun p G σ H ρ vs ds Q C hK A b hm hc => ?_⟩
  unfold mList at hm
  split at hm
  · rename_i d
    obtain ⟨v, rfl, b1⟩ := b.one
    cases e : seqD d with
    | none => rw [e] at hm; exact hm.elim
    | some es =>
      rw [e] at hm
      obtain ⟨a, xs, e1, h1, r⟩ := b1.seq e
      subst e1
      rw [← hK]
      refine ⟨a, xs, rfl, h1, fun l hl => ?_⟩
      obtain ⟨A2, f, n⟩ := A.laid (o := .lst xs) hl
      exact hc G _ (.own (.lst es)) _ A2 (Same.refl G) ⟨l, rfl, f, ⟨_, upd_same, r⟩, n⟩ hm
  · exact hm.elim
def mTuple : List D → (Rs → Prop) → Prop
  | [.lst es], Q => Q (.val (.tup es))
  | [.tup es], Q => Q (.val (.tup es))
  | _, _ => False
theorem f_tuple : Fn2 X (.type "tuple") mTuple := by
  refine ⟨_, call_tuple_of, fun p G σ H ρ vs ds Q C hK A b hm hc => ?_⟩
  unfold mTuple at hm
  rw [← hK]
  split at hm
  · obtain ⟨v, rfl, a, xs, e, q, r⟩ := b.one
    subst e
    refine ⟨a, xs, rfl, .inl ⟨.of q, fun l hl => ?_⟩⟩
    obtain ⟨A4, s4⟩ := A.laidS (o := .tup xs) hl
    exact hc _ _ (.val (.tup _)) _ A4 s4 ⟨l, xs, rfl, upd_same, r.mono s4⟩ hm
  · obtain ⟨v, rfl, a, xs, e, q, r⟩ := b.one
    subst e
    exact ⟨a, xs, rfl, .inr ⟨.of q.1, hc G H (.val (.tup _)) _ A (Same.refl G) ⟨a, xs, rfl, q.2, r⟩ hm⟩⟩
  · exact hm.elim
end
end Z

namespace Z
set_option autoImplicit false
open PySem PySem.Spec PyProof.Rows L2
/-! ### what is wanted behind a statement -/
structure E2 where
  rt : Rs → Prop
  bk : List Sl → Prop := fun _ => False
  ct : List Sl → Prop := fun _ => False
  ex : RX := fun _ _ => False
def RetOk (p : Par) (G H : Hp) : Rs → V → Prop
  | .val d, v => Rep p.K G d v
  | .own d, v => ∃ a, v = .ref a ∧ Free p G a ∧ OwnC p.K G H a d
  | .sto, v => ∃ a, v = .ref a ∧ Free p G a ∧ StoC p.K G H a
theorem ResOk.ret {p : Par} {G H : Hp} {σ : St} {ρ : List Sl} {r : Rs} {v : V} (h : ResOk p G H σ ρ r v) : RetOk p G H r v := by
  cases r with
  | val d => exact h
  | own d => obtain ⟨a, e, f, c, _⟩ := h; exact ⟨a, e, f, c⟩
  | sto => obtain ⟨a, e, f, c, _⟩ := h; exact ⟨a, e, f, c⟩
structure EndsOk (p : Par) (W : WX) (G : Hp) (nx : List Sl → Prop) (D2 : E2) (D : Ends) : Prop where
  nx : ∀ G' σ' H' ρ', Abs p G' σ' H' ρ' → Same G G' → nx ρ' → D.nx σ' H'
  rt : ∀ G' H' r v, Bas p G' H' → Same G G' → RetOk p G' H' r v → D2.rt r → D.rt v H'
  bk : ∀ G' σ' H' ρ', Abs p G' σ' H' ρ' → Same G G' → D2.bk ρ' → D.bk σ' H'
  ct : ∀ G' σ' H' ρ', Abs p G' σ' H' ρ' → Same G G' → D2.ct ρ' → D.ct σ' H'
  ex : ∀ G' σ' H' ρ' x cls dd, Abs p G' σ' H' ρ' → Same G G' → ExOk p.K G' x cls dd → D2.ex x ρ' → W cls dd σ' H'
theorem EndsOk.mono {p : Par} {W : WX} {G G' : Hp} {nx : List Sl → Prop} {D2 : E2} {D : Ends} (h : EndsOk p W G nx D2 D) (s : Same G G') : EndsOk p W G' nx D2 D :=
  ⟨fun G2 σ' H' ρ' A s2 q => h.nx G2 σ' H' ρ' A (s.trans s2) q, fun G2 H' r v B s2 o q => h.rt G2 H' r v B (s.trans s2) o q, fun G2 σ' H' ρ' A s2 q => h.bk G2 σ' H' ρ' A (s.trans s2) q,
    fun G2 σ' H' ρ' A s2 q => h.ct G2 σ' H' ρ' A (s.trans s2) q, fun G2 σ' H' ρ' x cls dd A s2 e q => h.ex G2 σ' H' ρ' x cls dd A (s.trans s2) e q⟩
theorem EndsOk.rz {p : Par} {W : WX} {G : Hp} {nx : List Sl → Prop} {D2 : E2} {D : Ends} (h : EndsOk p W G nx D2 D) (σ : St) : RzOk p W σ G D2.ex := fun G' H' ρ' x cls dd A s e q => h.ex G' σ H' ρ' x cls dd A s e q
abbrev TS2 := (List Sl → Prop) → E2 → List Sl → Prop
structure PS2 (X : Cx) (W : WX) (st : Stmt) (w : TS2) : Prop where
  ex : ∃ t, PS X st t ∧ ∀ (p : Par) (G : Hp) (σ : St) (H : Hp) (ρ : List Sl) (nx : List Sl → Prop) (D2 : E2) (D : Ends), p.K = X.K → Abs p G σ H ρ → EndsOk p W G nx D2 D → w nx D2 ρ → t D σ H
structure PSs2 (X : Cx) (W : WX) (st : List Stmt) (w : TS2) : Prop where
  ex : ∃ t, PSs X st t ∧ ∀ (p : Par) (G : Hp) (σ : St) (H : Hp) (ρ : List Sl) (nx : List Sl → Prop) (D2 : E2) (D : Ends), p.K = X.K → Abs p G σ H ρ → EndsOk p W G nx D2 D → w nx D2 ρ → t D σ H
section
variable {X : Cx} {W : WX} {e : Expr} {st : Stmt} {rest : List Stmt} {pos : Pos}
def wNext : TS2 := fun nx D ρ => nx ρ
def wSeq (a b : TS2) : TS2 := fun nx D ρ => a (fun ρ' => b nx D ρ') D ρ
theorem pss2_nil : PSs2 X W [] wNext := ⟨_, pss_nil, fun p G σ H ρ nx D2 D hK A E hw => E.nx G σ H ρ A (Same.refl G) hw⟩
theorem pss2_cons {a b : TS2} (h1 : PS2 X W st a) (h2 : PSs2 X W rest b) : PSs2 X W (st :: rest) (wSeq a b) := by
  obtain ⟨t, h1, r1⟩ := h1.ex
  obtain ⟨u, h2, r2⟩ := h2.ex
  refine ⟨_, pss_cons h1 h2, fun p G σ H ρ nx D2 D hK A E hw => ?_⟩
  refine r1 p G σ H ρ (fun ρ' => b nx D2 ρ') D2 { D with nx := u D } hK A ⟨fun G' σ' H' ρ' A' s q => ?_, E.rt, E.bk, E.ct, E.ex⟩ hw
  exact r2 p G' σ' H' ρ' nx D2 D hK A' (E.mono s) q
theorem pss2_one {a : TS2} (h1 : PS2 X W st a) : PSs2 X W [st] a := by
  obtain ⟨t, h1, r1⟩ := h1.ex
  exact ⟨t, pss_one h1, r1⟩
theorem ps2_pass : PS2 X W (.Pass pos) wNext := ⟨_, ps_pass, fun p G σ H ρ nx D2 D hK A E hw => E.nx G σ H ρ A (Same.refl G) hw⟩
def wBreak : TS2 := fun _ D ρ => D.bk ρ
def wCont : TS2 := fun _ D ρ => D.ct ρ
theorem ps2_break : PS2 X W (.Break pos) wBreak := ⟨_, ps_break, fun p G σ H ρ nx D2 D hK A E hw => E.bk G σ H ρ A (Same.refl G) hw⟩
theorem ps2_continue : PS2 X W (.Continue pos) wCont := ⟨_, ps_continue, fun p G σ H ρ nx D2 D hK A E hw => E.ct G σ H ρ A (Same.refl G) hw⟩
def wNever : TS2 := fun _ _ _ => False
theorem ps2_never : PS2 X W st wNever := ⟨_, ps_never, fun p G σ H ρ nx D2 D hK A E hw => hw.elim⟩
def wExpr (w : W2) : TS2 := fun nx D ρ => w ρ (fun _ ρ' => nx ρ') D.ex
theorem ps2_expr {w : W2} (he : PE2 X W e w) (hs : swapsWith e none pos.line X.env = pure false := by rfl) : PS2 X W (.Expr e pos) (wExpr w) := by
  obtain ⟨t, h1, r1⟩ := he.ex
  exact ⟨_, ps_expr h1 hs, fun p G σ H ρ nx D2 D hK A E hw => r1 p G σ H ρ _ D2.ex _ hK A (E.rz σ) hw fun G' H' r ρ' v A' s o q => E.nx G' σ H' ρ' A' s q⟩
def wRet (w : W2) : TS2 := fun _ D ρ => w ρ (fun r _ => D.rt r) D.ex
theorem ps2_ret {w : W2} (he : PE2 X W e w) : PS2 X W (.Return (some e) pos) (wRet w) := by
  obtain ⟨t, h1, r1⟩ := he.ex
  exact ⟨_, ps_ret h1, fun p G σ H ρ nx D2 D hK A E hw => r1 p G σ H ρ _ D2.ex _ hK A (E.rz σ) hw fun G' H' r ρ' v A' s o q => E.rt G' H' r v A'.toBas s o.ret q⟩
def wRetN : TS2 := fun _ D _ => D.rt (.val .non)
theorem ps2_retN : PS2 X W (.Return none pos) wRetN := ⟨_, ps_retN, fun p G σ H ρ nx D2 D hK A E hw => E.rt G H (.val .non) _ A.toBas (Same.refl G) rfl hw⟩
def wIfS (wt : T2) (a b : TS2) : TS2 := fun nx D ρ => wt ρ (fun k ρ1 => if k = true then a nx D ρ1 else b nx D ρ1) D.ex
theorem ps2_if {c : Expr} {as bs : List Stmt} {wt : T2} {a b : TS2} (hc : PT2 X W c wt) (ha : PSs2 X W as a) (hb : PSs2 X W bs b) : PS2 X W (.If c as bs pos) (wIfS wt a b) := by
  obtain ⟨t, h1, r1⟩ := hc.ex
  obtain ⟨ta, h2, r2⟩ := ha.ex
  obtain ⟨tb, h3, r3⟩ := hb.ex
  refine ⟨_, ps_if h1 h2 h3, fun p G σ H ρ nx D2 D hK A E hw => ?_⟩
  refine r1 p G σ H ρ _ D2.ex _ hK A (E.rz σ) hw fun G1 H1 k ρ1 A1 s1 q1 => ?_
  cases k with
  | true => exact r2 p G1 σ H1 ρ1 nx D2 D hK A1 (E.mono s1) q1
  | false => exact r3 p G1 σ H1 ρ1 nx D2 D hK A1 (E.mono s1) q1
def wSet (i : Nat) (w : W2) : TS2 := fun nx D ρ => w ρ (fun r ρ' => nx (ρ'.set i (rsSl r))) D.ex
theorem ps2_set (i : Nat) {x : Str} {w : W2} {pos' : Pos} (hN : X.N.Nodup) (he : PE2 X W e w) (hi : X.N[i]? = some x := by rfl) (hx : Loc X.env.scope x := by first | exact Or.inl rfl | exact Or.inr rfl) (hs : swapsWith e (some (.Name x pos')) pos.line X.env = pure false := by rfl)
    (hf : X.fn x = true ∨ X.env.scope.names.lookup x = some .local := by first | exact .inl rfl | exact .inr rfl | assumption) : PS2 X W (.Assign [.Name x pos'] e pos) (wSet i w) := by
  obtain ⟨t, h1, r1⟩ := he.ex
  exact ⟨_, ps_set hN hi hx h1 hs hf, fun p G σ H ρ nx D2 D hK A E hw => r1 p G σ H ρ _ D2.ex _ hK A (E.rz σ) hw fun G' H' r ρ' v A' s o q => E.nx G' _ H' _ (A'.store o) s q⟩
/-! ### targets -/
abbrev TG2 := D → List Sl → (List Sl → Prop) → Prop
/-- two lists of slots that part at most in sl -/
def SameBut (sl : List Nat) (σ σ' : St) : Prop := σ'.length = σ.length ∧ ∀ i, i ∉ sl → σ'[i]? = σ[i]?
theorem SameBut.trans {sl sl' : List Nat} {σ σ1 σ2 : St} (a : SameBut sl σ σ1) (b : SameBut sl' σ1 σ2) : SameBut (sl ++ sl') σ σ2 :=
  ⟨b.1.trans a.1, fun i h => (b.2 i fun z => h (List.mem_append_right _ z)).trans (a.2 i fun z => h (List.mem_append_left _ z))⟩
structure PG2 (X : Cx) (tg : Expr) (sl : List Nat) (g : TG2) : Prop where
  ex : ∃ t, PG X tg t ∧ ∀ (p : Par) (G : Hp) (σ : St) (H : Hp) (ρ : List Sl) (d : D) (v : V) (Q : List Sl → Prop) (C : St → Hp → Prop), p.K = X.K → Abs p G σ H ρ → Rep p.K G d v → g d ρ Q → (∀ G' σ' H' ρ', Abs p G' σ' H' ρ' → Same G G' → SameBut sl σ σ' → Q ρ' → C σ' H') → t v σ H C
structure PGs2 (X : Cx) (ts : List Expr) (sl : List Nat) (g : List D → List Sl → (List Sl → Prop) → Prop) : Prop where
  ex : ∃ t, PGs X ts t ∧ ∀ (p : Par) (G : Hp) (σ : St) (H : Hp) (ρ : List Sl) (ds : List D) (vs : List V) (Q : List Sl → Prop) (C : St → Hp → Prop), p.K = X.K → Abs p G σ H ρ → RepL p.K G ds vs → g ds ρ Q → (∀ G' σ' H' ρ', Abs p G' σ' H' ρ' → Same G G' → SameBut sl σ σ' → Q ρ' → C σ' H') → t vs σ H C
def gName2 (i : Nat) : TG2 := fun d ρ Q => Q (ρ.set i (.sh d))
theorem pg2_name (i : Nat) {x : Str} {pos : Pos} (hN : X.N.Nodup) (hi : X.N[i]? = some x := by rfl) (hx : Loc X.env.scope x := by first | exact Or.inl rfl | exact Or.inr rfl)
    (hf : X.fn x = true ∨ X.env.scope.names.lookup x = some .local := by first | exact .inl rfl | exact .inr rfl | assumption) : PG2 X (.Name x pos) [i] (gName2 i) :=
  ⟨_, pg_name hN hi hx hf, fun p G σ H ρ d v Q C hK A r q hc => hc G _ H _ (A.store (r := .val d) r) (Same.refl G) ⟨by rw [List.length_set], fun j hj => List.getElem?_set_ne (fun z => hj (by rw [z]; exact List.mem_singleton_self _))⟩ q⟩
def gNil2 : List D → List Sl → (List Sl → Prop) → Prop := fun ds ρ Q => ds = [] ∧ Q ρ
def gCons2 (g : TG2) (gs : List D → List Sl → (List Sl → Prop) → Prop) : List D → List Sl → (List Sl → Prop) → Prop := fun ds ρ Q => match ds with
  | [] => False
  | d :: r => g d ρ fun ρ' => gs r ρ' Q
theorem pgs2_nil : PGs2 X [] [] gNil2 := ⟨_, pgs_nil, fun p G σ H ρ ds vs Q C hK A r q hc => by
  obtain ⟨e1, q⟩ := q
  subst e1
  exact ⟨r, hc G σ H ρ A (Same.refl G) ⟨rfl, fun _ _ => rfl⟩ q⟩⟩
theorem pgs2_cons {tg : Expr} {ts : List Expr} {g : TG2} {gs : List D → List Sl → (List Sl → Prop) → Prop} {sl sl' : List Nat} (h1 : PG2 X tg sl g) (h2 : PGs2 X ts sl' gs) (hs : (assignEach (tg :: ts) X.env).map (·.2) = assign tg X.env :: (assignEach ts X.env).map (·.2) := by rfl) :
    PGs2 X (tg :: ts) (sl ++ sl') (gCons2 g gs) := by
  obtain ⟨t, h1, r1⟩ := h1.ex
  obtain ⟨u, h2, r2⟩ := h2.ex
  refine ⟨_, pgs_cons h1 h2 hs, fun p G σ H ρ ds vs Q C hK A r q hc => ?_⟩
  cases ds with
  | nil => exact q.elim
  | cons d dr =>
    obtain ⟨v, vr, e1, h, tl⟩ := r
    refine ⟨v, vr, e1, r1 p G σ H ρ d v _ _ hK A h q fun G1 σ1 H1 ρ1 A1 s1 b1 q1 => ?_⟩
    exact r2 p G1 σ1 H1 ρ1 dr vr Q C hK A1 (tl.mono s1) q1 fun G2 σ2 H2 ρ2 A2 s2 b2 q2 => hc G2 σ2 H2 ρ2 A2 (s1.trans s2) (b1.trans b2) q2
def gTup2 (n : Nat) (gs : List D → List Sl → (List Sl → Prop) → Prop) : TG2 := fun d ρ Q => match d with
  | .tup ds => ds.length = n ∧ gs ds ρ Q
  | .kt ds => ds.length = n ∧ gs ds ρ Q
  | _ => False
theorem pg2_tup {es : List Expr} {k : Nat} {n : Nat} {gs : List D → List Sl → (List Sl → Prop) → Prop} {sl : List Nat} (hc : X.calm = true) (h : PGs2 X es sl gs) (hn : (assignEach es X.env).length = n := by rfl) (hst : (assignEach es X.env).findIdx? (·.1) = none := by rfl) :
    PG2 X (.Tuple es k pos) sl (gTup2 n gs) := by
  obtain ⟨t, h1, r1⟩ := h.ex
  refine ⟨_, pg_tup hc h1 hn hst, fun p G σ H ρ d v Q C hK A r q hc => ?_⟩
  rw [← hK]
  cases d with
  | tup ds =>
    obtain ⟨a, xs, e1, h2, rl⟩ := r
    exact ⟨a, xs, e1, .of (A.toBas.get h2 rfl), by rw [← rl.length]; exact q.1, r1 p G σ H ρ ds xs Q C hK A rl q.2 hc⟩
  | kt ds =>
    obtain ⟨a, xs, e1, h2, rl⟩ := r
    exact ⟨a, xs, e1, A.toBas.sqT h2, by rw [← rl.length]; exact q.1, r1 p G σ H ρ ds xs Q C hK A rl q.2 hc⟩
  | _ => exact q.elim
/-- a, b = e -/
def wUnp (w : V2) (g : TG2) : TS2 := fun nx D ρ => w ρ (fun d ρ' => g d ρ' nx) D.ex
theorem ps2_unp {tg : Expr} {w : V2} {g : TG2} {sl : List Nat} (he : PV2 X W e w) (hg : PG2 X tg sl g) (hs : swapsWithSole [tg] e pos.line X.env = pure false := by rfl) (hw : swappedStores [tg] e X.env = pure none := by rfl)
    (h1 : (assignEach [tg] X.env).map (·.2) = [assign tg X.env] := by rfl) : PS2 X W (.Assign [tg] e pos) (wUnp w g) := by
  obtain ⟨t, h2, r2⟩ := he.ex
  obtain ⟨u, h3, r3⟩ := hg.ex
  exact ⟨_, ps_asg h2 h3 hs hw h1, fun p G σ H ρ nx D2 D hK A E hw => r2 p G σ H ρ _ D2.ex _ hK A (E.rz σ) hw fun G' H' d ρ' v A' s o q =>
    r3 p G' σ H' ρ' d v _ _ hK A' o q fun G2 σ2 H2 ρ2 A2 s2 _ q2 => E.nx G2 σ2 H2 ρ2 A2 (s.trans s2) q2⟩
/-! ### what is walked -/
structure It2 (p0 : Par) (J : It) (ds : List D) (G : Hp) : Prop where
  stop : ∀ p G' σ H' ρ, p.K = p0.K → p.L = p0.L → Abs p G' σ H' ρ → Same G G' → J.stop ds.length H'
  turn : ∀ (i : Nat) (d : D), ds[i]? = some d → ∀ p G' σ H' ρ, p.K = p0.K → p.L = p0.L → Abs p G' σ H' ρ → Same G G' → J.go i H' ∧ ∀ x H'', J.yld i H' x H'' → ∃ G'', Abs p G'' σ H'' ρ ∧ Same G' G'' ∧ Rep p.K G'' d x
abbrev I2 := List Sl → (List D → List Sl → Prop) → RX → Prop
structure PI2 (X : Cx) (W : WX) (tg iter : Expr) (w : I2) : Prop where
  ex : ∃ wi, PI X tg iter wi ∧ ∀ (p : Par) (G : Hp) (σ : St) (H : Hp) (ρ : List Sl) (Q : List D → List Sl → Prop) (R : RX) (C : It → Hp → Prop), p.K = X.K → Abs p G σ H ρ → RzOk p W σ G R → w ρ Q R →
    (∀ G' H' ds J ρ', Abs p G' σ H' ρ' → Same G G' → It2 p J ds G' → Q ds ρ' → C J H') → wi σ H C
/-- a list, a tuple -/
def onSeq (Q : List D → List Sl → Prop) : D → List Sl → Prop := fun d ρ => match d with
  | .lst ds => Q ds ρ
  | _ => False
def wSeqI (w : V2) : I2 := fun ρ Q R => w ρ (onSeq Q) R
theorem pi2_list {tg l : Expr} {w : V2} (h : PV2 X W l w) : PI2 X W tg l (wSeqI w) := by
  obtain ⟨t, h1, r1⟩ := h.ex
  refine ⟨_, pi_list h1, fun p G σ H ρ Q R C hK A hz hw hc => ?_⟩
  refine r1 p G σ H ρ _ R _ hK A hz hw fun G' H' d ρ' v A' s o q => ?_
  cases d with
  | lst ds =>
    obtain ⟨a, xs, e1, h2, rl⟩ := o
    rw [← hK]
    refine ⟨a, e1, ⟨xs, .of (A'.toBas.get h2 rfl)⟩, hc G' H' ds _ ρ' A' s ⟨fun p2 G2 σ2 H2 ρ2 k2 l2 A2 s2 => ?_, fun i d hi p2 G2 σ2 H2 ρ2 k2 l2 A2 s2 => ?_⟩ q⟩
    · exact ⟨xs, .of (A2.toBas.get (s2 _ _ h2) rfl), by rw [rl.length]; exact Nat.le_refl _⟩
    · obtain ⟨x, hx, rx⟩ := rl.get hi
      have hq : SqL p.K H2 a xs := .of (A2.toBas.get (s2 _ _ h2) rfl)
      rw [← k2] at rx
      refine ⟨⟨xs, x, hq, hx⟩, fun y H'' hy => ?_⟩
      obtain ⟨e2, f⟩ := hy
      subst e2
      have e3 := Option.some.inj ((f xs hq).symm.trans hx)
      subst e3
      exact ⟨G2, A2, Same.refl G2, rx.mono s2⟩
  | _ => exact q.elim
def onTup (Q : List D → List Sl → Prop) : D → List Sl → Prop := fun d ρ => match d with
  | .tup ds => Q ds ρ
  | .kt ds => Q ds ρ
  | _ => False
def wTupI (w : V2) : I2 := fun ρ Q R => w ρ (onTup Q) R
theorem pi2_tup {tg l : Expr} {w : V2} (h : PV2 X W l w) : PI2 X W tg l (wTupI w) := by
  obtain ⟨t, h1, r1⟩ := h.ex
  refine ⟨_, pi_tup h1, fun p G σ H ρ Q R C hK A hz hw hc => ?_⟩
  refine r1 p G σ H ρ _ R _ hK A hz hw fun G' H' d ρ' v A' s o q => ?_
  have main : ∀ (ds : List D) (a : Addr) (xs : List V), v = .ref a → (∀ p2 G2 σ2 H2 ρ2, p2.K = p.K → Abs p2 G2 σ2 H2 ρ2 → Same G' G2 → SqT p.K H2 a xs) → RepL p.K G' ds xs → Q ds ρ' → ∃ a, v = .ref a ∧ (∃ xs, SqT X.K H' a xs) ∧ C (Itt X.K a) H' := fun ds a xs e1 h2 rl q => by
    rw [← hK]
    refine ⟨a, e1, ⟨xs, h2 p G' σ H' ρ' rfl A' (Same.refl G')⟩, hc G' H' ds _ ρ' A' s ⟨fun p2 G2 σ2 H2 ρ2 k2 l2 A2 s2 => ?_, fun i d hi p2 G2 σ2 H2 ρ2 k2 l2 A2 s2 => ?_⟩ q⟩
    · exact ⟨xs, h2 p2 G2 σ2 H2 ρ2 k2 A2 s2, by rw [rl.length]; exact Nat.le_refl _⟩
    · obtain ⟨x, hx, rx⟩ := rl.get hi
      have hq := h2 p2 G2 σ2 H2 ρ2 k2 A2 s2
      rw [← k2] at rx
      refine ⟨⟨xs, x, hq, hx⟩, fun y H'' hy => ?_⟩
      obtain ⟨e2, f⟩ := hy
      subst e2
      have e3 := Option.some.inj ((f xs hq).symm.trans hx)
      subst e3
      exact ⟨G2, A2, Same.refl G2, rx.mono s2⟩
  cases d with
  | tup ds =>
    obtain ⟨a, xs, e1, h2, rl⟩ := o
    exact main ds a xs e1 (fun p2 G2 σ2 H2 ρ2 k2 A2 s2 => .of (A2.toBas.get (s2 _ _ h2) rfl)) rl q
  | kt ds =>
    obtain ⟨a, xs, e1, h2, rl⟩ := o
    exact main ds a xs e1 (fun p2 G2 σ2 H2 ρ2 k2 A2 s2 => by rw [← k2]; exact A2.toBas.sqT (Same.seqT s2 (by rw [k2]; exact h2))) rl q
  | _ => exact q.elim
def rngD (lo : Int) (n : Nat) : List D := (List.range n).map fun (k : Nat) => D.int (lo + (k : Int))
theorem it2_range {p : Par} {G : Hp} (lo : Int) (n : Nat) : It2 p (Itr lo n) (rngD lo n) G := by
  refine ⟨fun p2 G2 σ2 H2 ρ2 k2 l2 A2 s2 => ?_, fun i d hi p2 G2 σ2 H2 ρ2 k2 l2 A2 s2 => ?_⟩
  · show n ≤ (rngD lo n).length
    unfold rngD
    rw [List.length_map, List.length_range]
    exact Nat.le_refl _
  · have hl : i < n := by
      have := (List.getElem?_eq_some_iff.mp hi).1
      unfold rngD at this
      rw [List.length_map, List.length_range] at this
      exact this
    refine ⟨hl, fun x H'' hy => ?_⟩
    obtain ⟨e1, e2⟩ := hy
    subst e1 e2
    refine ⟨G2, A2, Same.refl G2, ?_⟩
    unfold rngD at hi
    rw [List.getElem?_map, List.getElem?_range hl] at hi
    cases hi
    rfl
def wRng1 (w : O2) : I2 := fun ρ Q R => w ρ (fun b ρ' => match bD ρ' b with
  | some (.int j) => (-(2 ^ 62) ≤ j ∧ j < 2 ^ 62) ∧ Q (rngD 0 j.toNat) ρ'
  | _ => False) R
theorem pi2_range1 {tg a : Expr} {p pos : Pos} {w : O2} (hm : X.mg "range" = none) (ha : PB2 X W a w) (hg : Gl X "range" := by rfl) (hs : starEach [a] X.env = [(false, eval a X.env)] := by rfl) : PI2 X W tg (.Call (.Name "range" p) [a] [] pos) (wRng1 w) := by
  obtain ⟨t, h1, r1⟩ := ha.ex
  refine ⟨_, pi_range1 hg hm (pa_cons h1 pa_nil hs) hs, fun p G σ H ρ Q R C hK A hz hw hc => ?_⟩
  refine r1 p G σ H ρ _ R _ hK A hz hw fun G1 H1 b1 ρ1 v1 A1 s1 o1 q1 => ?_
  cases e1 : bD ρ1 b1 with
  | none => rw [e1] at q1; exact q1.elim
  | some d =>
    rw [e1] at q1
    have bo := A1.opd o1 e1
    cases d with
    | int j =>
      have ev : v1 = .int j := bo
      subst ev
      exact ⟨j, rfl, q1.1.1, q1.1.2, hc G1 H1 _ _ ρ1 A1 s1 (it2_range 0 j.toNat) q1.2⟩
    | _ => exact q1.elim
def wRng2 (wa wb : O2) : I2 := fun ρ Q R => wa ρ (fun b1 ρ1 => wb ρ1 (fun b2 ρ2 => match bD ρ2 b1, bD ρ2 b2 with
  | some (.int i), some (.int j) => (-(2 ^ 62) ≤ i ∧ i < 2 ^ 62 ∧ -(2 ^ 62) ≤ j ∧ j < 2 ^ 62) ∧ Q (rngD i (j - i).toNat) ρ2
  | _, _ => False) R) R
theorem pi2_range2 {tg a b : Expr} {p pos : Pos} {wa wb : O2} (hm : X.mg "range" = none) (ha : PB2 X W a wa) (hb : PB2 X W b wb) (hg : Gl X "range" := by rfl) (hs : starEach [a, b] X.env = [(false, eval a X.env), (false, eval b X.env)] := by rfl) (hs2 : starEach [b] X.env = [(false, eval b X.env)] := by rfl)
    (hs3 : starEach [a, b] X.env = (false, eval a X.env) :: starEach [b] X.env := by rfl) : PI2 X W tg (.Call (.Name "range" p) [a, b] [] pos) (wRng2 wa wb) := by
  obtain ⟨t, h1, r1⟩ := ha.ex
  obtain ⟨u, h2, r2⟩ := hb.ex
  refine ⟨_, pi_range2 hg hm (pa_cons h1 (pa_cons h2 pa_nil hs2) hs3) hs hs2, fun p G σ H ρ Q R C hK A hz hw hc => ?_⟩
  refine r1 p G σ H ρ _ R _ hK A hz hw fun G1 H1 b1 ρ1 v1 A1 s1 o1 q1 => ?_
  refine r2 p G1 σ H1 ρ1 _ R _ hK A1 (hz.mono s1) q1 fun G2 H2 b2 ρ2 v2 A2 s2 o2 q2 => ?_
  cases e1 : bD ρ2 b1 with
  | none => rw [e1] at q2; exact q2.elim
  | some d1 =>
    cases e2 : bD ρ2 b2 with
    | none => rw [e1, e2] at q2; cases d1 <;> exact q2.elim
    | some d2 =>
      rw [e1, e2] at q2
      have bo1 := A2.opd (o1.mono s2) e1
      have bo2 := A2.opd o2 e2
      cases d1 with
      | int i =>
        cases d2 with
        | int j =>
          have ev : v1 = .int i := bo1
          have ev2 : v2 = .int j := bo2
          subst ev ev2
          exact ⟨i, j, rfl, q2.1, hc G2 H2 _ _ ρ2 A2 (s1.trans s2) (it2_range i (j - i).toNat) q2.2⟩
        | _ => exact q2.elim
      | _ => exact q2.elim
/-! ### for -/
def wForL (g : TG2) (wb : TS2) : List D → (List Sl → Prop) → E2 → List Sl → Prop
  | [], nx, _, ρ => nx ρ
  | d :: ds, nx, D, ρ => g d ρ fun ρ1 => wb (fun ρ' => wForL g wb ds nx D ρ') { D with ct := fun ρ' => wForL g wb ds nx D ρ', bk := nx } ρ1
def wFor (wi : I2) (g : TG2) (wb : TS2) : TS2 := fun nx D ρ => wi ρ (fun ds ρ1 => wForL g wb ds nx D ρ1) D.ex
theorem ps2_for {tg iter : Expr} {body : List Stmt} {wi : I2} {g : TG2} {wb : TS2} {pos : Pos} {sl : List Nat} (hp : PassesOwn (model X.prog X.w) X.A X.env X.xe) (hc : X.calm = true) (hi : PI2 X W tg iter wi) (hg : PG2 X tg sl g) (hb : PSs2 X W body wb)
    (hs : ∀ x, foldedSetIterable iter X.env x = pure x := by intro _; rfl) : PS2 X W (.For tg iter body [] pos) (wFor wi g wb) := by
  obtain ⟨ti, h1, r1⟩ := hi.ex
  obtain ⟨tg', h2, r2⟩ := hg.ex
  obtain ⟨tb, h3, r3⟩ := hb.ex
  refine ⟨_, ps_for hp hc h1 h2 h3 hs, fun p G σ H ρ nx D2 D hK A E hw => ?_⟩
  refine r1 p G σ H ρ _ D2.ex _ hK A (E.rz σ) hw fun G1 H1 ds J ρ1 A1 s1 it q1 => ?_
  refine ⟨fun i m σ' H' => m = ds.length - i ∧ i ≤ ds.length ∧ ∃ G' ρ', Abs p G' σ' H' ρ' ∧ Same G1 G' ∧ wForL g wb (ds.drop i) nx D2 ρ', ⟨_, rfl, Nat.zero_le _, G1, ρ1, A1, Same.refl G1, q1⟩, ?_⟩
  rintro i m σ2 H2 ⟨rfl, hi, G2, ρ2, A2, s2, q2⟩
  by_cases hlt : i < ds.length
  · have hd : ds[i]? = some ds[i] := List.getElem?_eq_getElem hlt
    obtain ⟨go, yl⟩ := it.turn i ds[i] hd p G2 σ2 H2 ρ2 rfl rfl A2 s2
    have q2' : g ds[i] ρ2 fun ρ1 => wb (fun ρ' => wForL g wb (ds.drop (i + 1)) nx D2 ρ') { D2 with ct := fun ρ' => wForL g wb (ds.drop (i + 1)) nx D2 ρ', bk := nx } ρ1 := by
      rw [List.drop_eq_getElem_cons hlt] at q2
      exact q2
    refine .inr ⟨go, fun σ' H' => ∃ G' ρ', Abs p G' σ' H' ρ' ∧ Same G1 G' ∧ wForL g wb (ds.drop (i + 1)) nx D2 ρ', fun σ' H' ⟨G', ρ', A', s', q'⟩ => ⟨ds.length - (i + 1), by omega, rfl, by omega, G', ρ', A', s', q'⟩, fun x H3 hy => ?_⟩
    obtain ⟨G3, A3, s3, rx⟩ := yl x H3 hy
    refine r2 p G3 σ2 H3 ρ2 ds[i] x _ _ hK A3 rx q2' fun G4 σ4 H4 ρ4 A4 s4 _ q4 => ?_
    have s24 := (s2.trans s3).trans s4
    have E4 := (E.mono s1).mono s24
    refine r3 p G4 σ4 H4 ρ4 (fun ρ' => wForL g wb (ds.drop (i + 1)) nx D2 ρ') { D2 with ct := fun ρ' => wForL g wb (ds.drop (i + 1)) nx D2 ρ', bk := nx } _ hK A4 ⟨fun G' σ' H' ρ' A' s q => ?_, E4.rt, fun G' σ' H' ρ' A' s q => E4.nx G' σ' H' ρ' A' s q, fun G' σ' H' ρ' A' s q => ?_, E4.ex⟩ q4
    · exact ⟨G', ρ', A', s24.trans s, q⟩
    · exact ⟨G', ρ', A', s24.trans s, q⟩
  · have e : i = ds.length := by omega
    subst e
    refine .inl ⟨it.stop p G2 σ2 H2 ρ2 rfl rfl A2 s2, ?_⟩
    rw [List.drop_length] at q2
    exact (E.mono s1).nx G2 σ2 H2 ρ2 A2 s2 q2
/-! ### while -/
def wWhile (wt : T2) (wb : TS2) : TS2 := fun nx D ρ => ∃ I : Nat → List Sl → Prop, (∃ m, I m ρ) ∧ ∀ m ρ, I m ρ → wt ρ (fun k ρ1 => if k = true then wb (fun ρ' => ∃ m', m' < m ∧ I m' ρ') { D with ct := fun ρ' => ∃ m', m' < m ∧ I m' ρ', bk := nx } ρ1 else nx ρ1) D.ex
theorem ps2_while {c : Expr} {body : List Stmt} {wt : T2} {wb : TS2} {pos : Pos} (hp : PassesOwn (model X.prog X.w) X.A X.env X.xe) (hc : PT2 X W c wt) (hb : PSs2 X W body wb) : PS2 X W (.While c body [] pos) (wWhile wt wb) := by
  obtain ⟨tc, h1, r1⟩ := hc.ex
  obtain ⟨tb, h3, r3⟩ := hb.ex
  refine ⟨_, ps_while hp h1 h3, fun p G σ H ρ nx D2 D hK A E hw => ?_⟩
  obtain ⟨I, ⟨m0, i0⟩, turn⟩ := hw
  refine ⟨fun m σ' H' => ∃ G' ρ', Abs p G' σ' H' ρ' ∧ Same G G' ∧ I m ρ', ⟨m0, G, ρ, A, Same.refl G, i0⟩, ?_⟩
  rintro m σ2 H2 ⟨G2, ρ2, A2, s2, q2⟩
  refine r1 p G2 σ2 H2 ρ2 _ D2.ex _ hK A2 ((E.mono s2).rz σ2) (turn m ρ2 q2) fun G3 H3 k ρ3 A3 s3 q3 => ?_
  have E3 := (E.mono s2).mono s3
  have s23 := s2.trans s3
  cases k with
  | false => exact E3.nx G3 σ2 H3 ρ3 A3 (Same.refl G3) q3
  | true =>
    rw [if_pos rfl]
    refine ⟨fun σ' H' => ∃ m', m' < m ∧ ∃ G' ρ', Abs p G' σ' H' ρ' ∧ Same G G' ∧ I m' ρ', fun σ' H' ⟨m', hm, z⟩ => ⟨m', hm, z⟩, ?_⟩
    refine r3 p G3 σ2 H3 ρ3 (fun ρ' => ∃ m', m' < m ∧ I m' ρ') { D2 with ct := fun ρ' => ∃ m', m' < m ∧ I m' ρ', bk := nx } _ hK A3 ⟨fun G' σ' H' ρ' A' s ⟨m', hm, q⟩ => ⟨m', hm, G', ρ', A', s23.trans s, q⟩, E3.rt, fun G' σ' H' ρ' A' s q => E3.nx G' σ' H' ρ' A' s q, fun G' σ' H' ρ' A' s ⟨m', hm, q⟩ => ⟨m', hm, G', ρ', A', s23.trans s, q⟩, E3.ex⟩ q3
theorem wForL_ind {g : TG2} {wb : TS2} {nx0 : List Sl → Prop} {D2 : E2} (I : Nat → List Sl → Prop) : ∀ (ds : List D) (j : Nat), (∀ ρ, I (j + ds.length) ρ → nx0 ρ) →
    (∀ i d, ds[i]? = some d → ∀ nx : List Sl → Prop, (∀ ρ, I (j + i + 1) ρ → nx ρ) → ∀ ρ, I (j + i) ρ → g d ρ fun ρ1 => wb nx { D2 with ct := nx, bk := nx0 } ρ1) → ∀ ρ, I j ρ → wForL g wb ds nx0 D2 ρ
  | [], j, hn, _, ρ, h => hn ρ h
  | d :: ds, j, hn, hs, ρ, h => by
    refine hs 0 d rfl _ (fun ρ' h' => ?_) ρ h
    refine wForL_ind I ds (j + 1) (fun ρ' h' => hn ρ' ?_) (fun i d' hd nx hnx ρ' h' => ?_) ρ' h'
    · rw [List.length_cons]; rw [show j + (ds.length + 1) = j + 1 + ds.length from by omega]; exact h'
    · refine hs (i + 1) d' hd nx (fun ρ2 h2 => hnx ρ2 ?_) ρ' ?_
      · rw [show j + 1 + i + 1 = j + (i + 1) + 1 from by omega]; exact h2
      · rw [show j + (i + 1) = j + 1 + i from by omega]; exact h'
/-- a for by an invariant of the turn -/
theorem wFor_of {g : TG2} {wb : TS2} {nx0 : List Sl → Prop} {D2 : E2} {ds : List D} {ρ : List Sl} (I : Nat → List Sl → Prop) (h0 : I 0 ρ) (hs : ∀ i d, ds[i]? = some d → ∀ nx : List Sl → Prop, (∀ ρ, I (i + 1) ρ → nx ρ) → ∀ ρ, I i ρ → g d ρ fun ρ1 => wb nx { D2 with ct := nx, bk := nx0 } ρ1)
    (hn : ∀ ρ, I ds.length ρ → nx0 ρ) : wForL g wb ds nx0 D2 ρ :=
  wForL_ind I ds 0 (fun ρ h => hn ρ (by rw [Nat.zero_add] at h; exact h)) (fun i d hd nx hnx ρ h => hs i d hd nx (fun ρ2 h2 => hnx ρ2 (by rw [Nat.zero_add]; exact h2)) ρ (by rw [Nat.zero_add] at h; exact h)) ρ h0
end
end Z

namespace Z
set_option autoImplicit false
open PySem PySem.Spec PyProof.Rows L2
/-! ### an object of one's own is changed -/
section
variable {p : Par} {G H : Hp} {σ : St} {ρ : List Sl} {d d' : D} {a : Addr} {o : HO}
theorem Bas.write (B : Bas p G H) (f : Free p G a) : Bas p G (upd H a o) where
  same := fun b u e hl => by
    rw [upd_ne (ne_of_none e f.g)]; exact B.same b u e hl
  lock := fun b w hl => by
    obtain ⟨u, ob, e0, e, q, z⟩ := B.lock b w hl
    exact ⟨u, ob, e0, e, q, by rw [upd_ne (ne_of_none e f.g)]; exact z⟩
  frame := fun b u e hl => by
    rw [upd_ne (ne_of_none e f.f)]; exact B.frame b u e hl
  dom := B.dom
  sto := fun b hb => by
    obtain ⟨h1, h2, h3⟩ := B.sto b hb
    have hne : b ≠ a := fun z => f.s (by rw [← z]; exact hb)
    exact ⟨StoC.mono h1 (Same.refl G) fun u z => by rw [upd_ne hne]; exact z, h2, h3⟩
theorem Abs.write (A : Abs p G σ H ρ) {i : Nat} (h : ρ[i]? = some (.ow d)) (ha : σ[i]? = some (some (.ref a))) (c : OwnC p.K G (upd H a o) a d') : Abs p G σ (upd H a o) (ρ.set i (.ow d')) := by
  have f : Free p G a := (A.owns h ha rfl).1
  have hil : i < ρ.length := (List.getElem?_eq_some_iff.mp h).1
  refine { toBas := A.toBas.write f, len := by rw [List.length_set]; exact A.len, slots := fun j t x h1 h2 => ?_, dist := fun j k t u x y b hjk h1 h2 h3 h4 h5 h6 => ?_ }
  · by_cases hj : j = i
    · subst hj
      rw [List.getElem?_set_self hil] at h1
      cases h1
      rw [ha] at h2
      cases h2
      exact ⟨a, rfl, f, c⟩
    · rw [List.getElem?_set_ne (Ne.symm hj)] at h1
      refine (A.slots j t x h1 h2).ext (Same.refl G) fun b u q1 q2 _ q3 q4 => ?_
      have hb : b ≠ a := fun z => by subst z; exact A.dist j i t _ x _ _ hj h1 h h2 ha q4 rfl
      exact ⟨q2, by rw [upd_ne hb]; exact q3⟩
  · have key : ∀ {j : Nat} {t : Sl} {x : Option V}, (ρ.set i (.ow d'))[j]? = some t → σ[j]? = some x → ownAdr t x = some b → ∃ t', ρ[j]? = some t' ∧ ownAdr t' x = some b := fun {j t x} g1 g2 g3 => by
      by_cases hj : j = i
      · subst hj
        rw [List.getElem?_set_self hil] at g1
        cases g1
        rw [ha] at g2
        cases g2
        exact ⟨_, h, g3⟩
      · rw [List.getElem?_set_ne (Ne.symm hj)] at g1
        exact ⟨t, g1, g3⟩
    obtain ⟨t', a1, a2⟩ := key h1 h3 h5
    obtain ⟨u', b1, b2⟩ := key h2 h4 h6
    exact A.dist j k t' u' x y b hjk a1 b1 h3 h4 a2 b2
theorem Abs.writeN (A : Abs p G σ H ρ) (f : Free p G a) (n : NotOwn σ ρ a) : Abs p G σ (upd H a o) ρ where
  toBas := A.toBas.write f
  len := A.len
  slots := fun j t x h1 h2 => (A.slots j t x h1 h2).ext (Same.refl G) fun b u q1 q2 _ q3 q4 => ⟨q2, by rw [upd_ne (fun z => by subst z; exact n j t x h1 h2 q4)]; exact q3⟩
  dist := A.dist
theorem Abs.ownAt (A : Abs p G σ H ρ) {i : Nat} (h : ρ[i]? = some (.ow d)) : ∃ a, σ[i]? = some (some (.ref a)) ∧ OwnC p.K G H a d := by
  have hi : i < σ.length := by rw [← A.len]; exact (List.getElem?_eq_some_iff.mp h).1
  obtain ⟨a, e2, f, c⟩ := A.slots i _ _ h (List.getElem?_eq_getElem hi)
  exact ⟨a, by rw [List.getElem?_eq_getElem hi, e2], c⟩
end
section
variable {X : Cx} {W : WX}
/-- xs.m(e): the slot's list changed by a method of one argument; m: what it asks, what becomes of the list, the value -/
def wMut1 (i : Nat) (m : List D → D → (D → List D → Prop) → Prop) (we : V2) : W2 := fun ρ Q R => match ρ[i]? with
  | some (.ow (.lst _)) => we ρ (fun d ρ1 => match ρ1[i]? with
    | some (.ow (.lst ds)) => m ds d fun v ds' => Q (.val v) (ρ1.set i (.ow (.lst ds')))
    | _ => False) R
  | _ => False
def mAppend : List D → D → (D → List D → Prop) → Prop := fun ds d Q => ds.length < sizeLine ∧ Q .non (ds ++ [d])
/-- what such a method's rule gives -/
structure Mut1 (X : Cx) (r : V → List V → Hp → VK → Prop) (m : List D → D → (D → List D → Prop) → Prop) : Prop where
  ok : ∀ (p : Par) (G H : Hp) (a : Addr) (xs : List V) (ds : List D) (d : D) (v : V) (Q : D → List D → Prop) (C : VK), H a = some (.lst xs) → RepL p.K G ds xs → Rep p.K G d v → m ds d Q →
    (∀ u ds' w xs', Rep p.K G u w → RepL p.K G ds' xs' → Q u ds' → C w (upd H a (.lst xs'))) → r (.ref a) [v] H C
theorem mut1_append : Mut1 X rAppend mAppend := ⟨fun p G H a xs ds d v Q C ha rl rd hm hc => ⟨a, xs, v, rfl, rfl, ha, by rw [← rl.length]; exact hm.1, hc .non (ds ++ [d]) _ _ rfl (rl.append (.one rd)) hm.2⟩⟩
theorem pe2_mut1 (i : Nat) {id : String} {r : V → List V → Hp → VK → Prop} {m : List D → D → (D → List D → Prop) → Prop} {x name : Str} {px apos cpos : Pos} {e : Expr} {we : V2} (slot : Slot "list" name id) (hty : typeOf (.builtin id) = pure (.type "method_descriptor")) (hm : MtR X id r) (k : Mut1 X r m) (he : PV2 X W e we)
    (hN : X.N[i]? = some x := by rfl) (hv : Vis X.env.scope x := by first | exact Or.inl rfl | exact Or.inr (Or.inl rfl) | exact Or.inr (Or.inr rfl)) (hd : (x == ("__debug__" : Str)) = false := by decide) (hcd : (x == ("__classdict__" : Str)) = false := by decide)
    (hbase : attributeBase (.Name x px) name X.env (eval (.Name x px) X.env) = eval (.Name x px) X.env := by rfl)
    (hfew : ((backTo cpos (starEach [e] X.env)).all (fun x => !x.1) && (backToKw cpos (keywordEach [] X.env)).all (fun x => x.1.isSome)
      && decide ([e].length + ([] : List Keyword).length + (if ([] : List Keyword).isEmpty then 0 else 1) < 30)) = true := by rfl)
    (hline : (apos.endLine == cpos.line) = true := by rfl) (hs : starEach [e] X.env = (false, eval e X.env) :: starEach [] X.env := by rfl) (hplain : (backTo cpos (starEach [] X.env)).any (·.1) = false := by rfl) :
    PE2 X W (.Call (.Attribute (.Name x px) name apos) [e] [] cpos) (wMut1 i m we) := by
  obtain ⟨t, h1, r1⟩ := he.ex
  refine ⟨_, pe_bm PySem.F.plainAttrs_list slot hty hm (pe_var hN hv hd hcd) (pa_cons h1 pa_nil hs) hbase hfew hline hs hplain, fun p G σ H ρ Q R C hK A hz hw hc => ?_⟩
  unfold wMut1 at hw
  cases e1 : ρ[i]? with
  | none => rw [e1] at hw; exact hw.elim
  | some s =>
    rw [e1] at hw
    cases s with
    | ow d0 =>
      cases d0 with
      | lst ds0 =>
        obtain ⟨a, ea, xs0, c0, _⟩ := A.ownAt e1
        refine ⟨.ref a, ea, .inl ⟨rfl, xs0, .of c0⟩, ?_⟩
        refine r1 p G σ H ρ _ R _ hK A hz hw fun G1 H1 d ρ1 v A1 s1 o1 q1 => ?_
        cases e2 : ρ1[i]? with
        | none => rw [e2] at q1; exact q1.elim
        | some s' =>
          rw [e2] at q1
          cases s' with
          | ow d1 =>
            cases d1 with
            | lst ds =>
              obtain ⟨a', ea', xs, c1, rl⟩ := A1.ownAt e2
              rw [ea] at ea'
              cases ea'
              refine k.ok p G1 H1 a xs ds d v _ _ c1 rl o1 q1 fun u ds' w xs' ru rl' q => ?_
              exact hc G1 _ (.val u) _ w (A1.write (d' := .lst ds') e2 ea ⟨xs', upd_same, rl'⟩) s1 ru q
            | _ => exact q1.elim
          | _ => exact q1.elim
      | _ => exact hw.elim
    | _ => exact hw.elim
def wAppend (i : Nat) (we : V2) : W2 := wMut1 i mAppend we
/-! ### name += e (ints) -/
def wAug (i : Nat) (f : Int → Int → Int) (w : O2) : TS2 := fun nx D ρ => match ρ[i]? with
  | some (.sh (.int k)) => w ρ (fun b ρ' => match bD ρ' b with
    | some (.int j) => nx (ρ'.set i (.sh (.int (f k j))))
    | _ => False) D.ex
  | _ => False
theorem ps2_aug (i : Nat) {x : Str} {e : Expr} {op : Operator} {f : Int → Int → Int} {w : O2} {pos pos' : Pos} (hN : X.N.Nodup) (ho : PIp X op (ipI f)) (he : PB2 X W e w) (hi : X.N[i]? = some x := by rfl) (hx : Loc X.env.scope x := by first | exact Or.inl rfl | exact Or.inr rfl)
    (hf : X.fn x = true ∨ X.env.scope.names.lookup x = some .local := by first | exact .inl rfl | exact .inr rfl | assumption) : PS2 X W (.AugAssign (.Name x pos') op e pos) (wAug i f w) := by
  obtain ⟨t, h1, r1⟩ := he.ex
  refine ⟨_, ps_aug hN hi hx h1 ho hf, fun p G σ H ρ nx D2 D hK A E hw => ?_⟩
  unfold wAug at hw
  cases e1 : ρ[i]? with
  | none => rw [e1] at hw; exact hw.elim
  | some s =>
    rw [e1] at hw
    have hil : i < σ.length := by rw [← A.len]; exact (List.getElem?_eq_some_iff.mp e1).1
    cases s with
    | sh d0 =>
      cases d0 with
      | int k0 =>
        obtain ⟨v, e2, r⟩ := A.slots i _ _ e1 (List.getElem?_eq_getElem hil)
        have ev : v = .int k0 := r
        subst ev
        refine ⟨.int k0, by rw [List.getElem?_eq_getElem hil, e2], ?_⟩
        refine r1 p G σ H ρ _ D2.ex _ hK A (E.rz σ) hw fun G1 H1 b1 ρ1 v1 A1 s1 o1 q1 => ?_
        cases e3 : bD ρ1 b1 with
        | none => rw [e3] at q1; exact q1.elim
        | some d1 =>
          rw [e3] at q1
          have bo := A1.opd o1 e3
          cases d1 with
          | int j =>
            have ev1 : v1 = .int j := bo
            exact ⟨k0, j, rfl, ev1, E.nx G1 _ H1 _ (A1.store (r := .val (.int (f k0 j))) (i := i) (v := .int (f k0 j)) rfl) s1 q1⟩
          | _ => exact q1.elim
      | _ => exact hw.elim
    | _ => exact hw.elim
end
/-! ### what a def promises, by depth -/
abbrev Sp2 := List D → (Rs → Prop) → (Ex → Prop) → Prop
def exF (H : Hp) (st : Option Addr) : Hp := fun b => if st = some b then none else H b
structure CallIn (K : PySem.W.Frag) (L G H : Hp) (st : Option Addr) : Prop where
  same : ∀ a o, G a = some o → L a = none → H a = some o
  lock : ∀ a u, L a = some u → ∃ o ob, u = .frz ob o ∧ G a = some o ∧ isD o = true ∧ H a = some u
  sto : ∀ a, st = some a → StoC K G H a ∧ G a = none
def callP (K : PySem.W.Frag) (L G H : Hp) (st : Option Addr) : Par := { K := K, F := exF H st, G0 := G, L := L, st := st }
theorem CallIn.bas {K : PySem.W.Frag} {L G H : Hp} {st : Option Addr} (c : CallIn K L G H st) : Bas (callP K L G H st) G H where
  same := c.same
  lock := c.lock
  frame := fun a o e _ => by
    have e' : (if st = some a then none else H a) = some o := e
    by_cases h : st = some a
    · rw [if_pos h] at e'; cases e'
    · rw [if_neg h] at e'; exact e'
  dom := fun _ _ => rfl
  sto := fun a h => ⟨(c.sto a h).1, (c.sto a h).2, if_pos h⟩
def toSp (K : PySem.W.Frag) (sto : Bool) (S : Sp2) : Sp := fun vs H Q E => ∃ (L G : Hp) (st : Option Addr) (ds : List D) (ws : List V) (Q2 : Rs → Prop) (R2 : Ex → Prop), CallIn K L G H st ∧
  (if sto = true then ∃ a, st = some a ∧ vs = .ref a :: ws else st = none ∧ vs = ws) ∧ RepL K G ds ws ∧ S ds Q2 R2 ∧
  (∀ G' H' r v, Bas (callP K L G H st) G' H' → Same G G' → RetOk (callP K L G H st) G' H' r v → Q2 r → Q v H') ∧
  (∀ G' H' x cls dd, Bas (callP K L G H st) G' H' → Same G G' → ExOk K G' x cls dd → R2 x → E cls dd H')
/-- the slots at a def's entry -/
def start2 (sto : Bool) (N : List Str) (ds : List D) : List Sl := (if sto = true then [.st] else []) ++ ds.map .sh ++ List.replicate (N.length - (ds.length + if sto = true then 1 else 0)) .un
theorem abs_start {K : PySem.W.Frag} {L G H : Hp} {st : Option Addr} {N : List Str} {ds : List D} {vs ws : List V} {sto : Bool} (c : CallIn K L G H st) (hv : if sto = true then ∃ a, st = some a ∧ vs = .ref a :: ws else st = none ∧ vs = ws) (r : RepL K G ds ws) :
    Abs (callP K L G H st) G (start N vs) H (start2 sto N ds) := by
  have hl := r.length
  have sl : ∀ (i : Nat) (s : Sl) (v : Option V), (ds.map Sl.sh ++ List.replicate (N.length - (ds.length + if sto = true then 1 else 0)) Sl.un)[i]? = some s → (ws.map some ++ List.replicate (N.length - vs.length) none)[i]? = some v → SlotOk (callP K L G H st) G H s v ∧ ∀ a, ownAdr s v ≠ some a := fun i s v h1 h2 => by
    by_cases hi : i < ds.length
    · rw [List.getElem?_append_left (by rw [List.length_map]; exact hi), List.getElem?_map, List.getElem?_eq_getElem hi] at h1
      rw [List.getElem?_append_left (by rw [List.length_map, ← hl]; exact hi), List.getElem?_map] at h2
      cases h1
      obtain ⟨x, hx, rx⟩ := r.get (List.getElem?_eq_getElem hi)
      rw [hx] at h2
      cases h2
      exact ⟨⟨x, rfl, rx⟩, fun a z => by cases z⟩
    · rw [List.getElem?_append_right (by rw [List.length_map]; omega), List.getElem?_replicate] at h1
      by_cases hq : i - (ds.map Sl.sh).length < N.length - (ds.length + if sto = true then 1 else 0)
      · rw [if_pos hq] at h1
        cases h1
        exact ⟨trivial, fun a z => by cases v <;> cases z⟩
      · rw [if_neg hq] at h1
        cases h1
  have hlen : vs.length = ds.length + if sto = true then 1 else 0 := by
    cases sto with
    | true =>
      rw [if_pos rfl] at hv
      obtain ⟨a, _, e⟩ := hv
      rw [e, List.length_cons, hl]; rfl
    | false =>
      rw [if_neg Bool.false_ne_true] at hv
      rw [hv.2, hl]; rfl
  have all : ∀ (i : Nat) (s : Sl) (v : Option V), (start2 sto N ds)[i]? = some s → (start N vs)[i]? = some v → SlotOk (callP K L G H st) G H s v ∧ ∀ a, ownAdr s v ≠ some a := by
    cases sto with
    | true =>
      rw [if_pos rfl] at hv
      obtain ⟨a, e1, e2⟩ := hv
      subst e2
      intro i s v h1 h2
      cases i with
      | zero =>
        have e3 : Sl.st = s := Option.some.inj h1
        have e4 : some (V.ref a) = v := Option.some.inj h2
        subst e3 e4
        exact ⟨⟨a, rfl, e1⟩, fun b z => by cases z⟩
      | succ i => exact sl i s v h1 h2
    | false =>
      rw [if_neg Bool.false_ne_true] at hv
      obtain ⟨_, hv⟩ := hv
      subst hv
      exact sl
  refine { toBas := c.bas, len := ?_, slots := fun i s v h1 h2 => (all i s v h1 h2).1, dist := fun i j s t v w a _ h1 _ h3 _ h5 _ => (all i s v h1 h3).2 a h5 }
  unfold start2 L2.start
  rw [List.length_append, List.length_append, List.length_map, List.length_append, List.length_map, List.length_replicate, List.length_replicate, hlen]
  cases sto
  · show 0 + ds.length + (N.length - (ds.length + 0)) = (ds.length + 0) + (N.length - (ds.length + 0)); omega
  · show 1 + ds.length + (N.length - (ds.length + 1)) = (ds.length + 1) + (N.length - (ds.length + 1)); omega
section
variable {P : Program} {w : World} {K : PySem.W.Frag} {mg : Str → Option Value} {base : Heap} {x qual : Str} {params : Arguments} {body : List Stmt} {scope : Scope} {dvs : List V} {kws : List (Str × V)} {f : Addr} {fd : FuncData}
/-- the wish about exceptions of a def's body -/
abbrev wE (E : XK) : WX := fun cls d _ H => E cls d H
theorem def_ok {N ps : List Str} {k : Nat} {sto : Bool} {S : Sp2} (F : FunD K x qual params body scope dvs kws f fd) (Sc : FnScope N ps scope) (len : ∀ ds Q R, S ds Q R → ds.length + (if sto = true then 1 else 0) = ps.length)
    (hb : ∀ (cdv : Value) (A : Around) (outer : List Env) (s : Shared) (H : Hp) (E : XK), Room k (A.deeper (envOfC qual scope s.heap.objs.size f cdv)) →
      ∃ w2, PSs2 (cxOf (L2N.CX P w) P w K mg base N qual scope f cdv A outer s H E) (wE E) body w2 ∧ ∀ ds Q R, S ds Q R → w2 (fun _ => Q (.val .non)) { rt := Q, ex := fun x _ => R x } (start2 sto N ds)) : FnOk P w K mg base (L2N.CX P w) (k + 1) f fd ps (toSp K sto S) := by
  refine F.ok Sc (fun vs H Q E h => ?_) fun cdv A outer s H vs Q E hr h => ?_
  · obtain ⟨L, G, st, ds, ws, Q2, R2, c, hv, r, hs, _⟩ := h
    rw [← len ds Q2 R2 hs]
    cases sto with
    | true => rw [if_pos rfl] at hv; obtain ⟨a, _, e⟩ := hv; rw [e, List.length_cons, r.length]; rfl
    | false => rw [if_neg Bool.false_ne_true] at hv; rw [hv.2, r.length]; rfl
  · obtain ⟨L, G, st, ds, ws, Q2, R2, c, hv, r, hs, hq, he⟩ := h
    obtain ⟨w2, hp, vc⟩ := hb cdv A outer s H E hr
    obtain ⟨t, h1, r1⟩ := hp.ex
    refine ⟨t, h1, r1 (callP K L G H st) G _ H _ (fun _ => Q2 (.val .non)) { rt := Q2, ex := fun x _ => R2 x } _ rfl (abs_start c hv r) ⟨fun G' σ' H' ρ' A' s' q => ?_, fun G' H' r v B s' o q => hq G' H' r v B s' o q, fun _ _ _ _ _ _ q => False.elim q, fun _ _ _ _ _ _ q => False.elim q, fun G' σ' H' ρ' x cls dd A' s' e q => he G' H' x cls dd A'.toBas s' e q⟩ (vc ds Q2 R2 hs)⟩
    exact hq G' H' (.val .non) .non A'.toBas s' rfl q
end
/-! ### calls -/
section
variable {p : Par} {G H G' H' : Hp} {σ : St} {ρ : List Sl}
theorem Abs.callIn (A : Abs p G σ H ρ) : CallIn p.K p.L G H none := ⟨A.same, A.lock, fun a h => by cases h⟩
theorem Abs.callInS (A : Abs p G σ H ρ) {a : Addr} (h : p.st = some a) : CallIn p.K p.L G H (some a) := ⟨A.same, A.lock, fun b hb => by cases hb; exact ⟨(A.sto a h).1, (A.sto a h).2.1⟩⟩
theorem Bas.stoH (B : Bas p G H) {a : Addr} (h : p.st = some a) : p.L a = none ∧ ∃ o, H a = some o := by
  obtain ⟨h1, h2, h3⟩ := B.sto a h
  refine ⟨?_, StoC.has (p := p) h1⟩
  cases e : p.L a with
  | none => rfl
  | some u => obtain ⟨o, ob, _, z, _⟩ := B.lock a u e; rw [h2] at z; cases z
/-- behind a call -/
theorem Abs.behind {st : Option Addr} (A : Abs p G σ H ρ) (hst : st = none ∨ st = p.st) (B : Bas (callP p.K p.L G H st) G' H') (s : Same G G') : Abs p G' σ H' ρ := by
  have kept : ∀ a o, H a = some o → p.L a = none → st ≠ some a → H' a = some o := fun a o h hl hn => B.frame a o (show exF H st a = some o by unfold exF; rw [if_neg hn]; exact h) hl
  have keptL : ∀ a u, p.L a = some u → H' a = some u := fun a u h => by obtain ⟨o, ob, _, _, _, z⟩ := B.lock a u h; exact z
  have hne : ∀ a o, p.F a = some o → st ≠ some a := fun a o h z => by
    rcases hst with e | e
    · rw [e] at z; cases z
    · rw [e] at z; rw [(A.sto a z).2.2] at h; cases h
  have domG : ∀ a o, H a = some o → st ≠ some a → G' a = G a := fun a o h hn => B.dom a (by show exF H st a ≠ none; unfold exF; rw [if_neg hn, h]; exact fun z => by cases z)
  refine A.ext ⟨B.same, B.lock, fun a o h hl => kept a o (A.frame a o h hl) hl (hne a o h), fun a h => ?_, fun a h => ?_⟩ s fun a o h1 h2 h3 h4 => ?_
  · cases e : p.F a with
    | none => exact absurd e h
    | some o =>
      have hh : ∃ o', H a = some o' := by
        cases el : p.L a with
        | none => exact ⟨o, A.frame a o e el⟩
        | some u => obtain ⟨_, _, _, _, _, z⟩ := A.lock a u el; exact ⟨u, z⟩
      obtain ⟨o', hh⟩ := hh
      rw [domG a o' hh (hne a o e)]
      exact A.dom a h
  · obtain ⟨hl, o, ho⟩ := A.toBas.stoH h
    rcases hst with e | e
    · have hn : st ≠ some a := by rw [e]; exact fun z => by cases z
      refine ⟨StoC.mono (A.sto a h).1 s fun u hu => kept a u hu hl hn, ?_, (A.sto a h).2.2⟩
      rw [domG a o ho hn]
      exact (A.sto a h).2.1
    · have q := B.sto a (e.trans h)
      exact ⟨q.1, q.2.1, (A.sto a h).2.2⟩
  · have hn : st ≠ some a := fun z => by
      rcases hst with e | e
      · rw [e] at z; cases z
      · rw [e] at z; exact h3 z
    have hl : p.L a = none := by
      cases e : p.L a with
      | none => rfl
      | some u => obtain ⟨_, _, _, z, _⟩ := A.lock a u e; rw [h2] at z; cases z
    exact ⟨by rw [domG a o h4 hn]; exact h2, kept a o h4 hl hn⟩
theorem Abs.behindR {st : Option Addr} (A : Abs p G σ H ρ) (hst : st = none ∨ st = p.st) {r : Rs} {v : V} (o : RetOk (callP p.K p.L G H st) G' H' r v) : ResOk p G' H' σ ρ r v := by
  have key : ∀ a, Free (callP p.K p.L G H st) G' a → Free p G' a ∧ NotOwn σ ρ a := fun a f => by
    have hn : st ≠ some a := f.s
    have hf : H a = none := by
      have z : exF H st a = none := f.f
      unfold exF at z
      rw [if_neg hn] at z
      exact z
    have f2 := A.toBas.freeAt hf
    exact ⟨⟨f2.f, f.g, f2.s⟩, fun i s x h1 h2 h3 => by
      obtain ⟨_, u, e⟩ := A.owns h1 h2 h3
      rw [hf] at e; cases e⟩
  cases r with
  | val d => exact o
  | own d => obtain ⟨a, e, f, c⟩ := o; exact ⟨a, e, (key a f).1, c, (key a f).2⟩
  | sto => obtain ⟨a, e, f, c⟩ := o; exact ⟨a, e, (key a f).1, c, (key a f).2⟩
end
section
variable {X : Cx} {W : WX} {k : Nat} {f : Addr} {fd : FuncData} {ps : List Str} {x : Str} {p pos : Pos} {e : Expr} {es : List Expr}
def wCall (S : Sp2) (wa : A2) : W2 := fun ρ Q R => wa ρ (fun ds ρ' => S ds (fun r => Q r ρ') (fun x => R x ρ')) R
theorem pe2_call {S : Sp2} {wa : A2} (tk : L2N.Takes X W) (F : FnOk X.prog X.w X.K X.mg X.base (L2N.CX X.prog X.w) k f fd ps (toSp X.K false S)) (hr : Room k X.A) (hm : X.mg x = some (.ref f)) (hk : PySem.W.keepIn X.K (.ref f) = true) (hb : Binds X.K fd ps []) (ha : PA2 X W (e :: es) wa)
    (hg : Gl X x := by rfl) (hdb : (x == ("__debug__" : Str)) = false := by decide) (he : starEach (e :: es) X.env = (false, eval e X.env) :: starEach es X.env := by rfl) (hpl : (backTo pos (starEach es X.env)).any (·.1) = false := by rfl) :
    PE2 X W (.Call (.Name x p) (e :: es) [] pos) (wCall S wa) := by
  obtain ⟨t, h1, r1⟩ := ha.ex
  refine ⟨_, pe_callS F hr hg hm hk hb (fun σ => L2N.passAt tk σ) h1 hdb he hpl, fun p G σ H ρ Q R C hK A hz hw hc => ?_⟩
  refine r1 p G σ H ρ _ R _ hK A hz hw fun G1 H1 ds ρ1 vs A1 s1 o1 q1 => ?_
  rw [hK] at o1
  refine ⟨p.L, G1, none, ds, vs, _, _, by rw [← hK]; exact A1.callIn, ⟨rfl, rfl⟩, o1, q1, fun G' H' r v B s o q => ?_, fun G' H' x cls dd B s e q => ?_⟩
  · rw [← hK] at B o
    exact hc G' H' r ρ1 v (A1.behind (.inl rfl) B s) (s1.trans s) (A1.behindR (.inl rfl) o) q
  · rw [← hK] at B e
    exact hz G' H' ρ1 x cls dd (A1.behind (.inl rfl) B s) (s1.trans s) e q
/-- f(store, ..) -/
def wCallS (i : Nat) (S : Sp2) (wa : A2) : W2 := fun ρ Q R => match ρ[i]? with
  | some .st => wa ρ (fun ds ρ' => S ds (fun r => Q r ρ') (fun x => R x ρ')) R
  | _ => False
theorem pe2_callS (i : Nat) {y : Str} {py : Pos} {S : Sp2} {wa : A2} (tk : L2N.Takes X W) (F : FnOk X.prog X.w X.K X.mg X.base (L2N.CX X.prog X.w) k f fd ps (toSp X.K true S)) (hr : Room k X.A) (hm : X.mg x = some (.ref f)) (hk : PySem.W.keepIn X.K (.ref f) = true) (hb : Binds X.K fd ps []) (ha : PA2 X W es wa)
    (hN : X.N[i]? = some y := by rfl) (hv : Vis X.env.scope y := by first | exact Or.inl rfl | exact Or.inr (Or.inl rfl) | exact Or.inr (Or.inr rfl)) (hd : (y == ("__debug__" : Str)) = false := by decide) (hcd : (y == ("__classdict__" : Str)) = false := by decide)
    (hg : Gl X x := by rfl) (hdb : (x == ("__debug__" : Str)) = false := by decide) (he : starEach ((.Name y py) :: es) X.env = (false, eval (.Name y py) X.env) :: starEach es X.env := by rfl) (hpl : (backTo pos (starEach es X.env)).any (·.1) = false := by rfl) :
    PE2 X W (.Call (.Name x p) ((.Name y py) :: es) [] pos) (wCallS i S wa) := by
  obtain ⟨t, h1, r1⟩ := ha.ex
  refine ⟨_, pe_callS F hr hg hm hk hb (fun σ => L2N.passAt tk σ) (pa_cons (pe_var hN hv hd hcd) h1 he) hdb he hpl, fun p G σ H ρ Q R C hK A hz hw hc => ?_⟩
  unfold wCallS at hw
  cases e1 : ρ[i]? with
  | none => rw [e1] at hw; exact hw.elim
  | some s =>
    rw [e1] at hw
    cases s with
    | st =>
      have hi : i < σ.length := by rw [← A.len]; exact (List.getElem?_eq_some_iff.mp e1).1
      obtain ⟨a, e2, hst⟩ := A.slots i _ _ e1 (List.getElem?_eq_getElem hi)
      refine ⟨.ref a, by rw [List.getElem?_eq_getElem hi, e2], ?_⟩
      refine r1 p G σ H ρ _ R _ hK A hz hw fun G1 H1 ds ρ1 vs A1 s1 o1 q1 => ?_
      rw [hK] at o1
      refine ⟨p.L, G1, some a, ds, vs, _, _, by rw [← hK]; exact A1.callInS hst, ?_, o1, q1, fun G' H' r v B s o q => ?_, fun G' H' x cls dd B s e q => ?_⟩
      · rw [if_pos rfl]; exact ⟨a, rfl, rfl⟩
      · rw [← hK] at B o
        exact hc G' H' r ρ1 v (A1.behind (.inr hst.symm) B s) (s1.trans s) (A1.behindR (.inr hst.symm) o) q
      · rw [← hK] at B e
        exact hz G' H' ρ1 x cls dd (A1.behind (.inr hst.symm) B s) (s1.trans s) e q
    | _ => exact hw.elim
end
end Z

namespace Z
set_option autoImplicit false
open PySem PySem.Spec PyProof.Rows L2
/-! ### the block's own slots forgotten -/
def wipe2 (ρ : List Sl) : List Nat → List Sl
  | [] => ρ
  | v :: vs => (wipe2 ρ vs).set v .un
theorem wipe_at {σ : St} : ∀ {vs : List Nat} {i : Nat}, i ∉ vs → (wipe σ vs)[i]? = σ[i]?
  | [], _, _ => rfl
  | v :: vs, i, h => by
    unfold wipe
    rw [List.getElem?_set_ne (fun z => h (by rw [z]; exact List.mem_cons_self))]
    exact wipe_at fun z => h (List.mem_cons_of_mem _ z)
theorem wipe_in {σ : St} : ∀ {vs : List Nat} {i : Nat}, i ∈ vs → i < σ.length → (wipe σ vs)[i]? = some none
  | v :: vs, i, h, hl => by
    unfold wipe
    by_cases e : v = i
    · subst e
      rw [List.getElem?_set_self (by rw [wipe_length]; exact hl)]
    · rw [List.getElem?_set_ne e]
      rcases List.mem_cons.mp h with z | z
      · exact absurd z.symm e
      · exact wipe_in z hl
theorem wipe_same {sl vs : List Nat} {σ σ' : St} (b : SameBut sl σ σ') (h : ∀ i, i ∈ sl → i ∈ vs) : wipe σ' vs = wipe σ vs := by
  refine List.ext_getElem? fun i => ?_
  by_cases hi : i ∈ vs
  · by_cases hl : i < σ.length
    · rw [wipe_in hi hl, wipe_in hi (by rw [b.1]; exact hl)]
    · rw [List.getElem?_eq_none (by rw [wipe_length, b.1]; omega), List.getElem?_eq_none (by rw [wipe_length]; omega)]
  · rw [wipe_at hi, wipe_at hi]
    exact b.2 i fun z => hi (h i z)
theorem wipe_wipe {vs : List Nat} {σ : St} : wipe (wipe σ vs) vs = wipe σ vs := by
  refine List.ext_getElem? fun i => ?_
  by_cases hi : i ∈ vs
  · by_cases hl : i < σ.length
    · rw [wipe_in hi hl, wipe_in hi (by rw [wipe_length]; exact hl)]
    · rw [List.getElem?_eq_none (by rw [wipe_length, wipe_length]; omega), List.getElem?_eq_none (by rw [wipe_length]; omega)]
  · rw [wipe_at hi, wipe_at hi]
theorem wipe2_length (ρ : List Sl) : ∀ vs : List Nat, (wipe2 ρ vs).length = ρ.length
  | [] => rfl
  | v :: vs => by unfold wipe2; rw [List.length_set, wipe2_length ρ vs]
theorem wipe2_some {ρ : List Sl} : ∀ {vs : List Nat} {i : Nat} {s : Sl}, (wipe2 ρ vs)[i]? = some s → s = .un ∨ (i ∉ vs ∧ ρ[i]? = some s)
  | [], i, s, h => .inr ⟨by simp, h⟩
  | v :: vs, i, s, h => by
    unfold wipe2 at h
    by_cases e : v = i
    · subst e
      by_cases hl : v < (wipe2 ρ vs).length
      · rw [List.getElem?_set_self hl] at h
        exact .inl (Option.some.inj h).symm
      · rw [List.getElem?_eq_none (by rw [List.length_set]; omega)] at h; cases h
    · rw [List.getElem?_set_ne e] at h
      rcases wipe2_some h with z | ⟨z1, z2⟩
      · exact .inl z
      · exact .inr ⟨fun m => (List.mem_cons.mp m).elim (fun q => e q.symm) z1, z2⟩
section
variable {p : Par} {G H : Hp} {σ σ' : St} {ρ : List Sl} {a : Addr} {o : HO}
/-- where two lists of slots part at the block's own ones alone, the wiped state is as good for one as for the other -/
theorem Abs.wiped {vs : List Nat} (A : Abs p G σ H ρ) (hl : σ'.length = σ.length) (h : ∀ i, i ∉ vs → σ'[i]? = σ[i]?) : Abs p G σ' H (wipe2 ρ vs) where
  toBas := A.toBas
  len := by rw [wipe2_length, A.len, hl]
  slots := fun i s v h1 h2 => by
    rcases wipe2_some h1 with z | ⟨z1, z2⟩
    · subst z; trivial
    · rw [h i z1] at h2
      exact A.slots i s v z2 h2
  dist := fun i j s t v w b hij h1 h2 h3 h4 h5 h6 => by
    rcases wipe2_some h1 with z | ⟨z1, z2⟩
    · subst z; rw [ownAdr_un] at h5; cases h5
    · rcases wipe2_some h2 with y | ⟨y1, y2⟩
      · subst y; rw [ownAdr_un] at h6; cases h6
      · rw [h i z1] at h3
        rw [h j y1] at h4
        exact A.dist i j s t v w b hij z2 y2 h3 h4 h5 h6
theorem Abs.toWipe {vs : List Nat} (A : Abs p G σ H ρ) : Abs p G (wipe σ vs) H (wipe2 ρ vs) := A.wiped (wipe_length σ vs) fun _ h => wipe_at h
theorem Abs.ofWipe {vs : List Nat} (A : Abs p G (wipe σ vs) H ρ) : Abs p G σ H (wipe2 ρ vs) := A.wiped (wipe_length σ vs).symm fun _ h => (wipe_at h).symm
/-- an object held aside: it stands as it is -/
def Par.hold (p : Par) (G : Hp) (a : Addr) (o : HO) : Par := { p with F := upd p.F a o, G0 := G }
theorem Abs.hold (A : Abs p G σ H ρ) (f : Free p G a) (n : NotOwn σ ρ a) (h : H a = some o) : Abs (p.hold G a o) G σ H ρ where
  same := A.same
  lock := A.lock
  frame := fun b u e hl => by
    by_cases hb : b = a
    · subst hb
      have e' : upd p.F b o b = some u := e
      rw [upd_same] at e'; cases e'; exact h
    · have e' : upd p.F a o b = some u := e
      rw [upd_ne hb] at e'
      exact A.frame b u e' hl
  dom := fun _ _ => rfl
  sto := fun b hb => by
    obtain ⟨h1, h2, h3⟩ := A.sto b hb
    have hne : b ≠ a := fun z => f.s (by rw [← z]; exact hb)
    exact ⟨h1, h2, by show upd p.F a o b = none; rw [upd_ne hne]; exact h3⟩
  len := A.len
  slots := fun i s v h1 h2 => by
    have q := A.slots i s v h1 h2
    cases s with
    | un => trivial
    | sh d => exact q
    | st => exact q
    | ow d =>
      obtain ⟨b, e, fb, c⟩ := q
      subst e
      have hb : b ≠ a := fun z => by subst z; exact n i _ _ h1 h2 rfl
      exact ⟨b, rfl, ⟨by show upd p.F a o b = none; rw [upd_ne hb]; exact fb.f, fb.g, fb.s⟩, c⟩
  dist := A.dist
theorem Abs.unhold {G' H' : Hp} (B : Bas p G H) (f : Free p G a) (A : Abs (p.hold G a o) G' σ' H' ρ) : Abs p G' σ' H' ρ ∧ H' a = some o ∧ Free p G' a ∧ NotOwn σ' ρ a := by
  have hne : ∀ b, p.F b ≠ none → b ≠ a := fun b h z => h (by rw [z]; exact f.f)
  have hl : p.L a = none := by
    cases e : p.L a with
    | none => rfl
    | some u => obtain ⟨_, _, _, z, _⟩ := B.lock a u e; rw [f.g] at z; cases z
  have ga : G' a = none := (A.dom a (by show upd p.F a o a ≠ none; rw [upd_same]; exact fun z => by cases z)).trans f.g
  have own : ∀ i s v b, ρ[i]? = some s → σ'[i]? = some v → ownAdr s v = some b → b ≠ a := fun i s v b h1 h2 h3 z => by
    have q := (A.owns h1 h2 h3).1.f
    have q' : upd p.F a o b = none := q
    rw [z, upd_same] at q'; cases q'
  refine ⟨{ same := A.same, lock := A.lock, frame := fun b u e hb => A.frame b u (by show upd p.F a o b = some u; rw [upd_ne (hne b (by rw [e]; exact fun z => by cases z))]; exact e) hb, dom := fun b hb => ?_, sto := fun b hb => ?_, len := A.len, slots := fun i s v h1 h2 => ?_, dist := A.dist }, A.frame a o (show upd p.F a o a = some o from upd_same) hl, ⟨f.f, ga, f.s⟩, fun i s v h1 h2 h3 => own i s v a h1 h2 h3 rfl⟩
  · have q := A.dom b (by show upd p.F a o b ≠ none; rw [upd_ne (hne b hb)]; exact hb)
    exact q.trans (B.dom b hb)
  · obtain ⟨h1, h2, h3⟩ := A.sto b hb
    have hba : b ≠ a := fun z => f.s (by rw [← z]; exact hb)
    exact ⟨h1, h2, by have h3' : upd p.F a o b = none := h3; rw [upd_ne hba] at h3'; exact h3'⟩
  · have q := A.slots i s v h1 h2
    cases s with
    | un => trivial
    | sh d => exact q
    | st => exact q
    | ow d =>
      obtain ⟨b, e, fb, c⟩ := q
      subst e
      have hb := own i _ _ b h1 h2 rfl
      exact ⟨b, rfl, ⟨by have z : upd p.F a o b = none := fb.f; rw [upd_ne hb] at z; exact z, fb.g, fb.s⟩, c⟩
end
/-! ### comprehensions -/
abbrev W0 : WX := fun _ _ _ _ => False
abbrev R0 : RX := fun _ _ => False
theorem takesN0 {X : Cx} : L2N.Takes X W0 := fun _ _ x => by
  obtain ⟨_, _, _, _, _, _, _, _, _, _, _, _, _, _, _, _, z⟩ := x
  exact z.elim
structure PTs2 (X : Cx) (W : WX) (ifs : List Expr) (w : T2) : Prop where
  ex : ∃ t, PTs X ifs t ∧ ∀ (p : Par) (G : Hp) (σ : St) (H : Hp) (ρ : List Sl) (Q : Bool → List Sl → Prop) (R : RX) (C : Bool → Hp → Prop), p.K = X.K → Abs p G σ H ρ → RzOk p W σ G R → w ρ Q R →
    (∀ G' H' b ρ', Abs p G' σ H' ρ' → Same G G' → Q b ρ' → C b H') → t σ H C
def wYes : T2 := fun ρ Q _ => Q true ρ
section
variable {X : Cx} {W : WX}
theorem pts2_nil : PTs2 X W [] wYes := ⟨tYes, pts_nil, fun p G σ H ρ Q R C hK A hz hw hc => hc G H true ρ A (Same.refl G) hw⟩
theorem pts2_one {c : Expr} {w : T2} (h : PT2 X W c w) : PTs2 X W [c] w := by
  obtain ⟨t, h1, r1⟩ := h.ex
  exact ⟨t, pts_one h1, r1⟩
def wLcL (g : TG2) (wt : T2) (we : V2) (vs : List Nat) : List D → List D → List Sl → (List D → List Sl → Prop) → Prop
  | [], acc, ρ, Q => Q acc ρ
  | d :: ds, acc, ρ, Q => g d ρ fun ρ1 => wt ρ1 (fun b ρ2 => if b = true then we ρ2 (fun e ρ3 => acc.length < sizeLine ∧ wLcL g wt we vs ds (acc ++ [e]) (wipe2 ρ3 vs) Q) R0 else wLcL g wt we vs ds acc (wipe2 ρ2 vs) Q) R0
def wLc (wi : I2) (g : TG2) (wt : T2) (we : V2) (vs : List Nat) : W2 := fun ρ Q R => wi ρ (fun ds ρ1 => wLcL g wt we vs ds [] (wipe2 ρ1 vs) fun acc ρ2 => Q (.own (.lst acc)) (wipe2 ρ2 vs)) R
/-- the contexts of a comprehension's block -/
abbrev InBlk (X : Cx) (scope : Scope) (φ : Cx → Prop) : Prop := ∀ (s : Shared) (H : Hp) (C : Addr) (cl : List (Str × Addr)) (fp : List Addr), φ (X.blk s H scope (compEnvC scope cl C X.env) fp)
theorem unif_e {scope : Scope} {e : Expr} {w : V2} (h : InBlk X scope fun Y => PV2 Y W0 e w) : ∃ te, (InBlk X scope fun Y => PE Y e te) ∧ ∀ (p : Par) (G : Hp) (σ : St) (H : Hp) (ρ : List Sl) (Q : D → List Sl → Prop) (C : VK), p.K = X.K → Abs p G σ H ρ → w ρ Q R0 →
    (∀ G' H' d ρ' v, Abs p G' σ H' ρ' → Same G G' → Rep p.K G' d v → Q d ρ' → C v H') → te σ H C := by
  refine ⟨fun σ H C => ∀ (s : Shared) (H' : Hp) (C' : Addr) (cl : List (Str × Addr)) (fp : List Addr), (h s H' C' cl fp).ex.choose σ H C, fun s H C cl fp => ⟨fun pins s' σ H' Q I hw => (h s H C cl fp).ex.choose_spec.1.run pins s' σ H' Q I (hw s H C cl fp)⟩, fun p G σ H ρ Q C hK A hw hc s H' C' cl fp => ?_⟩
  exact (h s H' C' cl fp).ex.choose_spec.2 p G σ H ρ Q R0 C hK A (fun _ _ _ _ _ _ _ _ _ z => z) hw hc
theorem unif_t {scope : Scope} {ifs : List Expr} {w : T2} (h : InBlk X scope fun Y => PTs2 Y W0 ifs w) : ∃ te, (InBlk X scope fun Y => PTs Y ifs te) ∧ ∀ (p : Par) (G : Hp) (σ : St) (H : Hp) (ρ : List Sl) (Q : Bool → List Sl → Prop) (C : Bool → Hp → Prop), p.K = X.K → Abs p G σ H ρ → w ρ Q R0 →
    (∀ G' H' d ρ', Abs p G' σ H' ρ' → Same G G' → Q d ρ' → C d H') → te σ H C := by
  refine ⟨fun σ H C => ∀ (s : Shared) (H' : Hp) (C' : Addr) (cl : List (Str × Addr)) (fp : List Addr), (h s H' C' cl fp).ex.choose σ H C, fun s H C cl fp => ⟨fun pins s' σ H' Q I hw => (h s H C cl fp).ex.choose_spec.1.run pins s' σ H' Q I (hw s H C cl fp)⟩, fun p G σ H ρ Q C hK A hw hc s H' C' cl fp => ?_⟩
  exact (h s H' C' cl fp).ex.choose_spec.2 p G σ H ρ Q R0 C hK A (fun _ _ _ _ _ _ _ _ _ z => z) hw hc
theorem unif_g {scope : Scope} {tg : Expr} {sl : List Nat} {g : TG2} (h : InBlk X scope fun Y => PG2 Y tg sl g) : ∃ te, (InBlk X scope fun Y => PG Y tg te) ∧ ∀ (p : Par) (G : Hp) (σ : St) (H : Hp) (ρ : List Sl) (d : D) (v : V) (Q : List Sl → Prop) (C : St → Hp → Prop), p.K = X.K → Abs p G σ H ρ → Rep p.K G d v → g d ρ Q →
    (∀ G' σ' H' ρ', Abs p G' σ' H' ρ' → Same G G' → SameBut sl σ σ' → Q ρ' → C σ' H') → te v σ H C := by
  refine ⟨fun v σ H C => ∀ (s : Shared) (H' : Hp) (C' : Addr) (cl : List (Str × Addr)) (fp : List Addr), (h s H' C' cl fp).ex.choose v σ H C, fun s H C cl fp => ⟨fun pins s' σ H' v u Q I r hw => (h s H C cl fp).ex.choose_spec.1.run pins s' σ H' v u Q I r (hw s H C cl fp)⟩, fun p G σ H ρ d v Q C hK A r hw hc s H' C' cl fp => ?_⟩
  exact (h s H' C' cl fp).ex.choose_spec.2 p G σ H ρ d v Q C hK A r hw hc
theorem lc_sound {wi : I2} {g : TG2} {wt : T2} {we : V2} {vs sl : List Nat} {ti : TI} {tg' : TG} {tt : TT} {te : TE} (hsl : ∀ i, i ∈ sl → i ∈ vs)
    (ri : ∀ (p : Par) (G : Hp) (σ : St) (H : Hp) (ρ : List Sl) (Q : List D → List Sl → Prop) (R : RX) (C : It → Hp → Prop), p.K = X.K → Abs p G σ H ρ → RzOk p W σ G R → wi ρ Q R → (∀ G' H' ds J ρ', Abs p G' σ H' ρ' → Same G G' → It2 p J ds G' → Q ds ρ' → C J H') → ti σ H C)
    (rg : ∀ (p : Par) (G : Hp) (σ : St) (H : Hp) (ρ : List Sl) (d : D) (v : V) (Q : List Sl → Prop) (C : St → Hp → Prop), p.K = X.K → Abs p G σ H ρ → Rep p.K G d v → g d ρ Q → (∀ G' σ' H' ρ', Abs p G' σ' H' ρ' → Same G G' → SameBut sl σ σ' → Q ρ' → C σ' H') → tg' v σ H C)
    (rt : ∀ (p : Par) (G : Hp) (σ : St) (H : Hp) (ρ : List Sl) (Q : Bool → List Sl → Prop) (C : Bool → Hp → Prop), p.K = X.K → Abs p G σ H ρ → wt ρ Q R0 → (∀ G' H' d ρ', Abs p G' σ H' ρ' → Same G G' → Q d ρ' → C d H') → tt σ H C)
    (re : ∀ (p : Par) (G : Hp) (σ : St) (H : Hp) (ρ : List Sl) (Q : D → List Sl → Prop) (C : VK), p.K = X.K → Abs p G σ H ρ → we ρ Q R0 → (∀ G' H' d ρ' v, Abs p G' σ H' ρ' → Same G G' → Rep p.K G' d v → Q d ρ' → C v H') → te σ H C) :
    ∀ (p : Par) (G : Hp) (σ : St) (H : Hp) (ρ : List Sl) (Q : Rs → List Sl → Prop) (R : RX) (C : VK), p.K = X.K → Abs p G σ H ρ → RzOk p W σ G R → wLc wi g wt we vs ρ Q R →
    (∀ G' H' r ρ' v, Abs p G' σ H' ρ' → Same G G' → ResOk p G' H' σ ρ' r v → Q r ρ' → C v H') → tLc ti tg' tt te vs σ H C := by
  intro p G σ H ρ Q R C hK A hz hw hc
  refine ri p G σ H ρ _ R _ hK A hz hw fun G1 H1 ds J ρ1 A1 s1 it q1 => ?_
  intro L hL
  refine ⟨fun (i m : Nat) (H' : Hp) => m = ds.length - i ∧ i ≤ ds.length ∧ ∃ G' ρ' acc xs, Abs p G' (wipe σ vs) H' ρ' ∧ Same G1 G' ∧ Free p G' L ∧ NotOwn (wipe σ vs) ρ' L ∧ H' L = some (.lst xs) ∧ RepL p.K G' acc xs ∧ wLcL g wt we vs (ds.drop i) acc ρ' fun acc ρ2 => Q (.own (.lst acc)) (wipe2 ρ2 vs), ?_, ?_⟩
  · obtain ⟨A2, f, n⟩ := (A1.toWipe (vs := vs)).laid (o := .lst []) hL
    exact ⟨ds.length, rfl, Nat.zero_le _, G1, _, [], [], A2, Same.refl G1, f, n, upd_same, rfl, q1⟩
  · rintro i m H2 ⟨rfl, hi, G2, ρ2, acc, xs, A2, s2, f2, n2, hL2, rl2, q2⟩
    by_cases hlt : i < ds.length
    · have hd : ds[i]? = some ds[i] := List.getElem?_eq_getElem hlt
      rw [List.drop_eq_getElem_cons hlt] at q2
      have A2h := A2.hold f2 n2 hL2
      -- the turn, the list held aside
      obtain ⟨go, yl⟩ := it.turn i ds[i] hd (p.hold G2 L (.lst xs)) G2 (wipe σ vs) H2 ρ2 rfl rfl A2h s2
      refine .inr ⟨go, fun H' => ∃ G' ρ' acc xs, Abs p G' (wipe σ vs) H' ρ' ∧ Same G1 G' ∧ Free p G' L ∧ NotOwn (wipe σ vs) ρ' L ∧ H' L = some (.lst xs) ∧ RepL p.K G' acc xs ∧ wLcL g wt we vs (ds.drop (i + 1)) acc ρ' fun acc ρ2 => Q (.own (.lst acc)) (wipe2 ρ2 vs), fun H' z => ⟨ds.length - (i + 1), by omega, rfl, by omega, z⟩, fun x H3 hy => ?_⟩
      obtain ⟨G3, A3, s3, rx⟩ := yl x H3 hy
      refine rg (p.hold G2 L (.lst xs)) G3 (wipe σ vs) H3 ρ2 ds[i] x _ _ hK A3 rx q2 fun G4 σ4 H4 ρ4 A4 s4 b4 q4 => ⟨?_, ?_⟩
      · rw [wipe_same b4 hsl, wipe_wipe]
      have w4 : wipe σ4 vs = wipe σ vs := by rw [wipe_same b4 hsl, wipe_wipe]
      refine rt (p.hold G2 L (.lst xs)) G4 σ4 H4 ρ4 _ _ hK A4 q4 fun G5 H5 k ρ5 A5 s5 q5 => ?_
      have s25 := (s3.trans s4).trans s5
      cases k with
      | false =>
        obtain ⟨A6, hL6, f6, n6⟩ := Abs.unhold A2.toBas f2 (A5.toWipe (vs := vs))
        rw [w4] at A6 n6
        exact ⟨G5, _, acc, xs, A6, s2.trans s25, f6, n6, hL6, rl2.mono s25, q5⟩
      | true =>
        refine re (p.hold G2 L (.lst xs)) G5 σ4 H5 ρ5 _ _ hK A5 q5 fun G6 H6 d ρ6 v A6 s6 r6 q6 => ?_
        obtain ⟨A7, hL7, f7, n7⟩ := Abs.unhold A2.toBas f2 (A6.toWipe (vs := vs))
        rw [w4] at A7 n7
        have s26 := s25.trans s6
        refine ⟨xs, hL7, by rw [← rl2.length]; exact q6.1, G6, wipe2 ρ6 vs, acc ++ [d], xs ++ [v], ?_, s2.trans s26, f7, n7, upd_same, (rl2.mono s26).append (.one r6), q6.2⟩
        exact A7.writeN f7 n7
    · have e : i = ds.length := by omega
      subst e
      rw [List.drop_length] at q2
      refine .inl ⟨it.stop p G2 _ H2 ρ2 rfl rfl A2 s2, ?_⟩
      have A3 := A2.ofWipe
      refine hc G2 H2 (.own (.lst acc)) _ _ A3 (s1.trans s2) ⟨L, rfl, f2, ⟨xs, hL2, rl2⟩, fun j s v h1 h2 h3 => ?_⟩ q2
      rcases wipe2_some h1 with z | ⟨z1, z2⟩
      · subst z; rw [ownAdr_un] at h3; cases h3
      · exact n2 j s v z2 (by rw [wipe_at z1]; exact h2) h3
theorem pe2_lc {elt tg iter : Expr} {ifs : List Expr} {scope : Scope} {own : List (Str × Nat)} {pos : Pos} {wi : I2} {g : TG2} {wt : T2} {we : V2} {sl : List Nat} (hc : X.calm = true) (hN : X.N.Nodup) (hi : PI2 X W tg iter wi) (ok : BlkOk X.N X.env.scope scope own)
    (hg : InBlk X scope fun Y => PG2 Y tg sl g) (ht : InBlk X scope fun Y => PTs2 Y W0 ifs wt) (he : InBlk X scope fun Y => PV2 Y W0 elt we) (hsl : ∀ i, i ∈ sl → i ∈ own.map (·.2) := by decide) (hs : ∀ x, foldedSetIterable iter X.env x = pure x := by intro _; rfl) :
    PE2 X W (.ListComp elt [⟨tg, iter, ifs, 0⟩] scope pos) (wLc wi g wt we (own.map (·.2))) := by
  obtain ⟨ti, h1, ri⟩ := hi.ex
  obtain ⟨tg', h2, rg⟩ := unif_g hg
  obtain ⟨tt, h3, rt⟩ := unif_t ht
  obtain ⟨te, h4, re⟩ := unif_e he
  exact ⟨_, pe_lc hc hN h1 ok h2 h3 h4 hs, lc_sound hsl ri rg rt re⟩
theorem ps2_setLc (i : Nat) {y : Str} {py : Pos} {elt tg iter : Expr} {ifs : List Expr} {scope : Scope} {own : List (Str × Nat)} {pos spos : Pos} {wi : I2} {g : TG2} {wt : T2} {we : V2} {sl : List Nat} (hc : X.calm = true) (hN : X.N.Nodup)
    (hsw : swapsWith (.ListComp elt [⟨tg, iter, ifs, 0⟩] scope pos) (some (.Name y py)) spos.line X.env = pure true) (hi : PI2 X W tg iter wi) (ok : BlkOk X.N X.env.scope scope own)
    (hg : InBlk X scope fun Y => PG2 Y tg sl g) (ht : InBlk X scope fun Y => PTs2 Y W0 ifs wt) (he : InBlk X scope fun Y => PV2 Y W0 elt we) (hy : X.N[i]? = some y := by rfl) (hyl : X.env.scope.names.lookup y = some .local := by rfl) (hsl : ∀ i, i ∈ sl → i ∈ own.map (·.2) := by decide) (hs : ∀ x, foldedSetIterable iter X.env x = pure x := by intro _; rfl) :
    PS2 X W (.Assign [.Name y py] (.ListComp elt [⟨tg, iter, ifs, 0⟩] scope pos) spos) (wSet i (wLc wi g wt we (own.map (·.2)))) := by
  obtain ⟨ti, h1, ri⟩ := hi.ex
  obtain ⟨tg', h2, rg⟩ := unif_g hg
  obtain ⟨tt, h3, rt⟩ := unif_t ht
  obtain ⟨te, h4, re⟩ := unif_e he
  refine ⟨_, ps_setLc hc hN hy hyl hsw h1 ok h2 h3 h4 hs, fun p G σ H ρ nx D2 D hK A E hw => ?_⟩
  exact lc_sound (W := W) hsl ri rg rt re p G σ H ρ _ D2.ex _ hK A (E.rz σ) hw fun G' H' r ρ' v A' s o q => E.nx G' _ H' _ (A'.store o) s q
end
end Z

namespace Z
set_option autoImplicit false
open PySem PySem.Spec PyProof.Rows L2
/-! ### the text by its defs -/
/-- a def as it stands behind the top -/
structure DefAt (K : PySem.W.Frag) (mg : Str → Option Value) (x : Str) (st : Stmt) (ps : List Str) : Prop where
  ex : ∃ f fd, FunD K x x (defArgs st) (defBody st) (defScope st) [] [] f fd ∧ mg x = some (.ref f) ∧ Binds K fd ps []
/-- a def that may be called: what it promises -/
structure Cal (P : Program) (w : World) (K : PySem.W.Frag) (mg : Str → Option Value) (base : Heap) (x : Str) (k : Nat) (sto : Bool) (S : Sp2) : Prop where
  ex : ∃ f fd ps, FnOk P w K mg base (L2N.CX P w) k f fd ps (toSp K sto S) ∧ mg x = some (.ref f) ∧ PySem.W.keepIn K (.ref f) = true ∧ Binds K fd ps []
section
variable {P : Program} {w : World} {K : PySem.W.Frag} {mg : Str → Option Value} {base : Heap} {x : Str} {k : Nat} {sto : Bool} {S : Sp2}
theorem cal_of {st : Stmt} {N ps : List Str} (F : DefAt K mg x st ps) (Sc : FnScope N ps (defScope st)) (len : ∀ ds Q R, S ds Q R → ds.length + (if sto = true then 1 else 0) = ps.length)
    (hb : ∀ (f : Addr) (cdv : Value) (A : Around) (outer : List Env) (s : Shared) (H : Hp) (E : XK), L2N.Takes (cxOf (L2N.CX P w) P w K mg base N x (defScope st) f cdv A outer s H E) (wE E) →
      PassesOwn (model P w) (A.deeper (envOfC x (defScope st) s.heap.objs.size f cdv)) (envOfC x (defScope st) s.heap.objs.size f cdv) (cxOf (L2N.CX P w) P w K mg base N x (defScope st) f cdv A outer s H E).xe →
      Room k (A.deeper (envOfC x (defScope st) s.heap.objs.size f cdv)) →
      ∃ w2, PSs2 (cxOf (L2N.CX P w) P w K mg base N x (defScope st) f cdv A outer s H E) (wE E) (defBody st) w2 ∧ ∀ ds Q R, S ds Q R → w2 (fun _ => Q (.val .non)) { rt := Q, ex := fun x _ => R x } (start2 sto N ds)) : Cal P w K mg base x (k + 1) sto S := by
  obtain ⟨f, fd, F1, F2, F3⟩ := F.ex
  exact ⟨f, fd, ps, def_ok F1 Sc len fun cdv A outer s H E hr => hb f cdv A outer s H E (L2N.takes_of rfl rfl rfl rfl) (passes_of rfl) hr, F2, F1.kp, F3⟩
theorem Cal.mono {j : Nat} (c : Cal P w K mg base x k sto S) (h : k ≤ j) : Cal P w K mg base x j sto S := by
  obtain ⟨f, fd, ps, a, b⟩ := c.ex
  exact ⟨f, fd, ps, a.mono h, b⟩
end
section
variable {X : Cx} {W : WX} {k : Nat} {x : Str} {p pos : Pos} {e : Expr} {es : List Expr}
theorem pe2_fn {S : Sp2} {wa : A2} (tk : L2N.Takes X W) (F : Cal X.prog X.w X.K X.mg X.base x k false S) (hr : Room k X.A) (ha : PA2 X W (e :: es) wa)
    (hg : Gl X x := by rfl) (hdb : (x == ("__debug__" : Str)) = false := by decide) (he : starEach (e :: es) X.env = (false, eval e X.env) :: starEach es X.env := by rfl) (hpl : (backTo pos (starEach es X.env)).any (·.1) = false := by rfl) :
    PE2 X W (.Call (.Name x p) (e :: es) [] pos) (wCall S wa) := by
  obtain ⟨f, fd, ps, a, b, c, d⟩ := F.ex
  exact pe2_call tk a hr b c d ha hg hdb he hpl
theorem pe2_fnS (i : Nat) {y : Str} {py : Pos} {S : Sp2} {wa : A2} (tk : L2N.Takes X W) (F : Cal X.prog X.w X.K X.mg X.base x k true S) (hr : Room k X.A) (ha : PA2 X W es wa)
    (hN : X.N[i]? = some y := by rfl) (hv : Vis X.env.scope y := by first | exact Or.inl rfl | exact Or.inr (Or.inl rfl) | exact Or.inr (Or.inr rfl)) (hd : (y == ("__debug__" : Str)) = false := by decide) (hcd : (y == ("__classdict__" : Str)) = false := by decide)
    (hg : Gl X x := by rfl) (hdb : (x == ("__debug__" : Str)) = false := by decide) (he : starEach ((.Name y py) :: es) X.env = (false, eval (.Name y py) X.env) :: starEach es X.env := by rfl) (hpl : (backTo pos (starEach es X.env)).any (·.1) = false := by rfl) :
    PE2 X W (.Call (.Name x p) ((.Name y py) :: es) [] pos) (wCallS i S wa) := by
  obtain ⟨f, fd, ps, a, b, c, d⟩ := F.ex
  exact pe2_callS i tk a hr b c d ha hN hv hd hcd hg hdb he hpl
/-- a module's int, a module's text -/
theorem pe2_gint {i : Int} (h : ∃ t, X.mg x = some (.int i t)) (hg : Gl X x := by rfl) (hd : (x == ("__debug__" : Str)) = false := by decide) : PE2 X W (.Name x pos) (wC (.int i)) := by
  obtain ⟨t, e⟩ := h
  exact pe2_c (v := .int i) (pe_glob hg e ⟨t, rfl⟩ hd) fun _ _ => rfl
theorem pe2_gstr {i : Str} (h : ∃ t, X.mg x = some (.str i t)) (hg : Gl X x := by rfl) (hd : (x == ("__debug__" : Str)) = false := by decide) : PE2 X W (.Name x pos) (wC (.str i)) := by
  obtain ⟨t, e⟩ := h
  exact pe2_c (v := .str i) (pe_glob hg e ⟨t, rfl⟩ hd) fun _ _ => rfl
/-- int(n), int(flag) -/
def mInt : List D → (Rs → Prop) → Prop
  | [.int i], Q => Q (.val (.int i))
  | [.bl b], Q => Q (.val (.int (if b = true then 1 else 0)))
  | _, _ => False
theorem f_int : Fn2 X (.type "int") mInt := fn_flat call_int1 fun p G H vs ds Q C hK B b hm hc => by
  unfold mInt at hm
  split at hm
  · obtain ⟨v, rfl, e⟩ := b.one
    exact .inl ⟨_, by rw [show v = _ from e], hc (.int _) _ rfl hm⟩
  · obtain ⟨v, rfl, e⟩ := b.one
    exact .inr ⟨_, by rw [show v = _ from e], hc (.int _) _ rfl hm⟩
  · exact hm.elim
/-- str(n) -/
def mStrI : List D → (Rs → Prop) → Prop
  | [.int i], Q => i.natAbs.log2 < 1920 ∧ Q (.val (.str (toString i)))
  | _, _ => False
theorem f_strI : Fn2 X (.type "str") mStrI := fn_flat call_str_int fun p G H vs ds Q C hK B b hm hc => by
  unfold mStrI at hm
  split at hm
  · obtain ⟨v, rfl, e⟩ := b.one
    exact ⟨_, by rw [show v = _ from e], hm.1, hc (.str _) _ rfl hm.2⟩
  · exact hm.elim
/-- max(a, b), min(a, b) -/
def mMax2 : List D → (Rs → Prop) → Prop
  | [.int i, .int j], Q => Q (.val (.int (max i j)))
  | _, _ => False
theorem f_max2 (hc' : X.calm = true) : Fn2 X (.builtin "max") mMax2 := fn_flat (call_max2 hc') fun p G H vs ds Q C hK B b hm hc => by
  unfold mMax2 at hm
  split at hm
  · obtain ⟨v, v', rfl, e, e'⟩ := b.two
    rename_i i j
    refine ⟨i, j, by rw [show v = _ from e, show v' = _ from e'], hc (.int _) _ rfl ?_⟩
    have : (if j > i then j else i) = max i j := by split <;> omega
    rw [this]
    exact hm
  · exact hm.elim
def mMin2 : List D → (Rs → Prop) → Prop
  | [.int i, .int j], Q => Q (.val (.int (min i j)))
  | _, _ => False
theorem f_min2 (hc' : X.calm = true) : Fn2 X (.builtin "min") mMin2 := fn_flat (call_min2 hc') fun p G H vs ds Q C hK B b hm hc => by
  unfold mMin2 at hm
  split at hm
  · obtain ⟨v, v', rfl, e, e'⟩ := b.two
    rename_i i j
    refine ⟨i, j, by rw [show v = _ from e, show v' = _ from e'], hc (.int _) _ rfl ?_⟩
    have : (if j < i then j else i) = min i j := by split <;> omega
    rw [this]
    exact hm
  · exact hm.elim
end
end Z

set_option maxHeartbeats 2000000
namespace Z
set_option autoImplicit false
open PySem PySem.Spec PyProof.Rows L2 NdefX
/-! ### ValueError.__init__ as a method-wrapper, called -/
section
variable {prog : Program} {w : World} {A : Around} {E : Value → Shared → Prop} {h : Heap} {g : Array GenState} {d : Drawn} {t : Nat} {os : OsState}
variable {nm q : Str} {C N : Addr} {bs bm : List Value} {hdct : Bool} {sn : List Str} {sub : List Value} {ab : Bool} {col : Option Bool} {dd : Option Addr} {k0 k1 k2 k3 k5 : Option Value}
theorem call_vw {u e t0 : Addr} {rest : List Value} {Q : Value → Shared → Prop}
    (hC : h.get? C = some (excClassObj nm q C N bs bm hdct sn sub ab col dd k0 k1 k2 k3 k5 "ValueError.__new__")) (he : h.get? e = some (HandSPX.excO C t0)) (hu : h.get? u = some (PySem.W.kxs_mw "ValueError.__init__" e)) (hrest : rest.length ≤ sizeLine)
    (hq : ∀ h' t1, (∀ b o, b ≠ e → h.get? b = some o → h'.get? b = some o) → h'.get? e = some (HandSPX.excO C t1) → Q .none ⟨h', g, d, t, os⟩) :
    wpAny (model prog w) A (call (.ref u) rest) Q E ⟨h, g, d, t, os⟩ := by
  refine wpAny_call (codeAny_of_tree ?_)
  show wpAny _ A.in1 (callAny (.ref u) ⟨rest, []⟩) _ _ _
  simp only [callAny]
  refine wpAny_bind (wpAny_load hu ?_)
  simp only [PySem.W.kxs_mw, show (Value.type "method-wrapper" == Value.type "method" || Value.type "method-wrapper" == Value.type "builtin_function_or_method" || Value.type "method-wrapper" == Value.type "method-wrapper") = true by decide, if_true]
  refine PySem.W.KFB.if_so (by decide) ?_
  refine wpAny_bind (PySem.W.check_bound_init F.excBase_ValueError.toExcCallFacts hC he rfl ?_)
  refine wpAny_bind (wpAny_pure (wpAny_pure ?_))
  refine ⟨Code.quiet_builtin _ (by decide +kernel), codeAny_builtin F.excBase_ValueError.initEntry ?_⟩
  rw [Around.under_plainId F.excBase_ValueError.init.plain _]
  wp_walk
  refine hq _ h.objs.size (fun b o hb ho => ?_) ?_
  · rw [Heap.get?_update_other _ _ (Ne.symm hb)]
    exact Heap.get?_push_of_some _ ho
  · rw [Heap.get?_update_self _ (Heap.get?_push_of_some _ he) rfl]
    rfl
end
/-! ### what the written part says of an error class and its __init__ -/
structure IniK (P : Program) (K : PySem.W.Frag) (mg : Str → Option Value) (C fI : Addr) (F : NF) : Prop where
  lk : ∃ oc od doc pm ctv osl, K.lookup fI = some ⟨oc, od, .func (F.fd doc pm ctv), osl⟩
  cd : PySem.W.codeIn K (.ref F.c) F.qual = true
  cl : ∃ cc cl cld csl, F.cl = [(("__class__" : Str), cc)] ∧ K.lookup cc = some ⟨cl, cld, .cell (some (.ref C)), csl⟩
  file : ∃ ccl cdd vs ccs file tf, K.lookup F.c = some ⟨ccl, cdd, .fields vs, ccs⟩ ∧ vs[2]? = some (.str file tf) ∧ ((P.main.file : Str) == file) = true
  top : (P.main.scope.names.lookup ("super" : Str)).isSome = false
  sup : mg "super" = none
  opq : PySem.W.nsIn K cStatics "thirdparty.any" = some none
  sin : PySem.W.ks_superIn K C C "__init__" = some (some (.builtin "ValueError.__init__"))
  sub : PySem.W.subIn K (.ref C) (.type "ValueError") = some true
  mro : PySem.W.mroIn K C (.ref C) = some true
  ini : PySem.W.findIn K (.ref C) "__init__" = some (some (.ref fI))
  tyI : PySem.W.typeIn K (.ref fI) = some (.type "function")
  oex : OexC K C
section
variable {CX : CXT} {P : Program} {w : World} {K : PySem.W.Frag} {mg : Str → Option Value} {base : Heap} {N : List Str} {C fI : Addr} {F : NF} {A : Around} {outer : List Env} {s0 s : Shared} {H0 H : Hp} {E : XK} {σ : L2.St} {x : Addr}
theorem super_ok {body : List Stmt} {pl : Sem Bool} {p0 p1 p2 p3 p4 : Pos} {e : Expr} {es : List Expr} {ta : TA} {ar : Arg} {Qn : Hp → Prop} (T : IniK P K mg C fI F) (hp : (F.params.posonlyargs ++ F.params.args).head? = some ar)
    (hks : F.scope.names.lookup ("super" : Str) = some .globalImplicit) (hkc : F.scope.names.lookup ("__class__" : Str) = some .free) (hka : F.scope.names.lookup ar.arg = some .local) (hN : N[0]? = some ar.arg)
    (I : Inv (ncx CX P w K mg base N F fI A outer s0 H0 E) [] σ H s) (hσ : σ[0]? = some (some (.ref x))) (hx : H x = some (exo x C none)) (ha : PA (ncx CX P w K mg base N F fI A outer s0 H0 E) (e :: es) ta)
    (ht : ta σ H fun vs H1 => vs.length ≤ 1000 ∧ H1 x = some (exo x C none) ∧ Qn H1)
    (he : starEach (e :: es) (ncx CX P w K mg base N F fI A outer s0 H0 E).env = (false, eval e (ncx CX P w K mg base N F fI A outer s0 H0 E).env) :: starEach es (ncx CX P w K mg base N F fI A outer s0 H0 E).env := by rfl)
    (hpl : (backTo p3 (starEach es (ncx CX P w K mg base N F fI A outer s0 H0 E).env)).any (·.1) = false := by rfl)
    (hc : eval (.Call (.Attribute (.Call (.Name "super" p0) [] [] p1) "__init__" p2) (e :: es) [] p3) (ncx CX P w K mg base N F fI A outer s0 H0 E).env = (do
      let ov ← attributeBase (.Call (.Name "super" p0) [] [] p1) "__init__" (ncx CX P w K mg base N F fI A outer s0 H0 E).env (eval (.Call (.Name "super" p0) [] [] p1) (ncx CX P w K mg base N F fI A outer s0 H0 E).env)
      standAt p2.atName
      let (f, first) ← holding [ov] (getMethod ov "__init__" pl)
      callWith p3 f first (backTo p3 (starEach (e :: es) (ncx CX P w K mg base N F fI A outer s0 H0 E).env)) []) := by rfl)
    (hsw : swapsWith (.Call (.Attribute (.Call (.Name "super" p0) [] [] p1) "__init__" p2) (e :: es) [] p3) none p4.line (ncx CX P w K mg base N F fI A outer s0 H0 E).env = pure false := by rfl) :
    PySem.wpAt (model P w) (ncx CX P w K mg base N F fI A outer s0 H0 E).A (.func body (ncx CX P w K mg base N F fI A outer s0 H0 E).env)
      (exec (.Expr (.Call (.Attribute (.Call (.Name "super" p0) [] [] p1) "__init__" p2) (e :: es) [] p3) p4) (ncx CX P w K mg base N F fI A outer s0 H0 E).env)
      (fun fl s' => fl = .next ∧ ∃ H1, Inv (ncx CX P w K mg base N F fI A outer s0 H0 E) [] σ H1 s' ∧ Qn H1) (ncx CX P w K mg base N F fI A outer s0 H0 E).xe s := by
  have hin : interactive (ncx CX P w K mg base N F fI A outer s0 H0 E).env = false := by unfold interactive; rw [I.ok.kind]; rfl
  obtain ⟨oc, od, doc, pm, ctv, osl, lkF⟩ := T.lk
  obtain ⟨cc, cl, cld, csl, eCl, lkC⟩ := T.cl
  obtain ⟨ccl, cdd, vsf, ccs, file, tf, lkD, hvs, hfile⟩ := T.file
  obtain ⟨nm, q, Nc, bs, bm, sn, sub, ab, col, dd, k0, k1, k2, k3, k5, hC, hbm⟩ := T.oex.cls
  have KX : K.In s.heap := I.kIn
  obtain ⟨m, hns, hl⟩ := id I.loc
  have hself : m ar.arg = some (.ref x) := by
    obtain ⟨u, r, l⟩ := hl 0 ar.arg (.ref x) hN hσ (.inl hka)
    have eu : u = .ref x := r
    subst eu
    rcases l with ⟨_, z⟩ | ⟨z, _⟩
    · exact z
    · have z' : F.scope.names.lookup ar.arg = some .cell ∨ F.scope.names.lookup ar.arg = some .free := z
      rw [hka] at z'
      rcases z' with z' | z' <;> cases z'
  obtain ⟨mb, b1, b2⟩ := I.mod.blt
  obtain ⟨t1, hox⟩ := exo_at I.hok hx
  obtain ⟨hh, g, d, t, os⟩ := s
  have IA : PySem.W.InstAt hh x { cls := .ref C, dict := none, data := .fields #[.ref t1, .none, .none, .none, .bool false, .none] } C none := ⟨hox, rfl, rfl, trivial⟩
  refine ks_wpAt_Expr_any ?_ hin hsw
  refine ks_wpAt_MethodCall (pl := pl) ?_ hc
  refine ks_wpAt_super_base (f := fI) (cc := F.c) hks hkc rfl rfl (KX _ _ lkF) rfl hp rfl (KX _ _ lkD) rfl hvs hfile T.top ?_
  refine PySem.W.ks_loadName_global I.ok.kind hks (Calls.loadGlobal_builtin (mb := mb) (v := .type "super") (by rw [I.ok.glob]; exact I.mod.glob.keeps I.bk) T.sup (by rw [I.ok.blt]; exact b1.keeps I.bk) ((b2 _ (by decide)).trans (by decide +kernel)) ⟨rfl, ?_⟩)
  refine wpAny_loadName_free I.ok.kind hkc (by show F.cl.lookup _ = some cc; rw [eCl]; rfl) ⟨_, KX _ _ lkC, rfl⟩ ?_
  refine wpAny_loadName_local I.ok.kind hka hns hself ?_
  refine ks_wpAny_isType_cls (KX _ _ hC) rfl ⟨rfl, ?_⟩
  refine ks_wpAny_call_super (KX _ _ hC) rfl hox rfl (fun c e => by cases e) (PySem.W.looks_mroIn KX T.mro) (fun h1 e1 k1 => ?_)
  have I1 : Inv (ncx CX P w K mg base N F fI A outer s0 H0 E) [] σ H ⟨h1, g, d, t, os⟩ := I.kept (t' := t) k1
  have KX1 : K.In h1 := I1.kIn
  obtain ⟨cd1, hcd1, hm1⟩ : ∃ cd, PySem.W.clsIn K C = some cd ∧ PySem.W.alongIn K "__init__" ((cd.mro.dropWhile (· != .ref C)).drop 1) = some (some (.builtin "ValueError.__init__")) := by
    have z := T.sin
    unfold PySem.W.ks_superIn at z
    cases hc : PySem.W.clsIn K C with
    | none => rw [hc] at z; cases z
    | some cd => rw [hc] at z; exact ⟨cd, rfl, z⟩
  have hox1 := k1 _ _ hox
  have IA1 : PySem.W.InstAt h1 x { cls := .ref C, dict := none, data := .fields #[.ref t1, .none, .none, .none, .bool false, .none] } C none := ⟨hox1, rfl, rfl, trivial⟩
  refine PySem.W.kxs_getMethod PySem.W.kxs_ValueError e1 (PySem.W.looks_opaque KX1 T.opq) (l₀ := cd1.mro) (fun A Q E s k q => wpAny_bind ((PySem.W.looks_clsIn KX1 hcd1) A _ E s k (wpAny_pure q))) rfl KX1 hm1 (IA1.type.andThen (PySem.W.looks_subIn KX1 T.sub)) (PySem.W.ks_ne KX1 IA1 hcd1) rfl ?_
  have k2 : ∀ b o, h1.get? b = some o → (h1.push (PySem.W.kxs_mw "ValueError.__init__" x)).get? b = some o := fun b o e => Heap.get?_push_of_some _ e
  have hmw : (h1.push (PySem.W.kxs_mw "ValueError.__init__" x)).get? h1.objs.size = some (PySem.W.kxs_mw "ValueError.__init__" x) := Heap.get?_push_size _ rfl
  have nH : H h1.objs.size = none := I1.hok.fresh (Nat.le_refl _)
  have I2 : Inv (ncx CX P w K mg base N F fI A outer s0 H0 E) [] σ H ⟨h1.push (PySem.W.kxs_mw "ValueError.__init__" x), g, d, t + 1, os⟩ := I1.kept (t' := t + 1) k2
  have I3 : Inv (ncx CX P w K mg base N F fI A outer s0 H0 E) [(h1.objs.size, PySem.W.kxs_mw "ValueError.__init__" x)] σ H ⟨h1.push (PySem.W.kxs_mw "ValueError.__init__" x), g, d, t + 1, os⟩ := I2.pins_of fun p hp => by
    have ep : p = (h1.objs.size, PySem.W.kxs_mw "ValueError.__init__" x) := by simpa using hp
    subst ep
    exact ⟨hmw, nH, Nat.ne_of_gt I1.lt, I1.nofs (Nat.le_refl _), fun v z => by cases z⟩
  have key : wpAny (model P w) (ncx CX P w K mg base N F fI A outer s0 H0 E).A (callWith p3 (.ref h1.objs.size) [] (backTo p3 (starEach (e :: es) (ncx CX P w K mg base N F fI A outer s0 H0 E).env)) [])
      (fun _ s' => ∃ H1, Inv (ncx CX P w K mg base N F fI A outer s0 H0 E) [] σ H1 s' ∧ Qn H1) (ncx CX P w K mg base N F fI A outer s0 H0 E).xe ⟨h1.push (PySem.W.kxs_mw "ValueError.__init__" x), g, d, t + 1, os⟩ := by
    have sp := ha.run p3 [(h1.objs.size, PySem.W.kxs_mw "ValueError.__init__" x)] _ σ H _ I3 ht
    rw [he] at sp ⊢
    refine PySem.W.kxs_callWith (i := "ValueError.__init__") (x := x) (by show (false || (backTo p3 (starEach es (ncx CX P w K mg base N F fI A outer s0 H0 E).env)).any (·.1)) = false; rw [hpl]; rfl) (Calls.evalArgs_plain (thn sp fun us s4 hh => ?_))
    obtain ⟨vs, H4, I4, r4, hz, hx4, q4⟩ := hh
    have hmw4 := (I4.pin (h1.objs.size, PySem.W.kxs_mw "ValueError.__init__" x) (by simp)).1
    refine ⟨hmw4, ?_⟩
    obtain ⟨t4, hox4⟩ := exo_at I4.hok hx4
    have I5 := I4.pins_of (pins' := []) (fun p hp => by simp at hp)
    obtain ⟨h4, g4, d4, tk4, os4⟩ := s4
    show wpAny _ _ (call (.ref h1.objs.size) us) _ _ _
    refine call_vw (I4.kIn _ _ hC) (t0 := t4) hox4 hmw4 (by rw [← Paired.length r4, sizeLine_eq]; omega) fun h' t' k he => ?_
    have J := I5.write (t' := tk4) (x := x) (e := x) (o := exo x C none) (by rw [hx4]; exact True.intro) (.inl rfl) k ⟨_, he⟩ (exo_ok he)
    have eu : upd H4 x (exo x C none) = H4 := by
      funext b
      by_cases hb : b = x
      · rw [hb, upd_same, hx4]
      · rw [upd_ne hb]
    rw [eu] at J
    exact ⟨H4, J, q4⟩
  refine wpAny_mono key (fun v s' hs => ?_) fun _ _ z => z
  exact ⟨rfl, hs⟩
end
end Z
namespace Z
set_option autoImplicit false
open PySem PySem.Spec PyProof.Rows L2 NdefX
/-! ### the message -/
inductive FP where
  | txt (s : Str) | par (i : Nat)
def fmtV : V → Prop
  | .non => True
  | .str y => y.length ≤ 1048576
  | .int i => i.natAbs.log2 < 1920
  | _ => False
def tFmtA (te : TE) : TE := fun σ H Q => te σ H fun x H1 => fmtV x ∧ ∀ y : Str, y.length ≤ 1048576 → Q (.str y) H1
theorem int_len {i : Int} (h : i.natAbs.log2 < 1920) : (toString i : String).length ≤ 1921 := int_text_length_le (k := 1920) (by decide) h
theorem pe_fmtA {X : Cx} {e : Expr} {te : TE} {pos : Pos} (he : PE X e te) : PE X (.FormattedValue e (-1) none pos) (tFmtA te) := by
  refine ⟨fun pins s σ H Q I h => ?_⟩
  refine wpAny_FormattedValue_plain (thn (he.run pins s σ H _ I h) fun v s1 hv => ?_)
  obtain ⟨x, H1, I1, r1, f, q⟩ := hv
  cases x with
  | non =>
    obtain rfl : v = Value.none := r1
    exact wpAny_formatField_none ⟨.str "None", H1, I1.tok _, ⟨_, rfl⟩, q _ (by decide)⟩
  | str y =>
    obtain ⟨t, rfl⟩ := r1
    have f' : y.length ≤ 1048576 := f
    exact wpAny_formatField_str ⟨.str y, H1, I1, ⟨t, rfl⟩, q y f'⟩ ⟨.str y, H1, I1.tok _, ⟨_, rfl⟩, q y f'⟩ (by rw [sizeLine_eq]; omega)
  | int i =>
    obtain ⟨t, rfl⟩ := r1
    have f' : i.natAbs.log2 < 1920 := f
    exact wpAny_formatField_int f' ⟨.str (toString i), H1, I1.tok _, ⟨_, rfl⟩, q _ (by have := int_len f'; rw [show (PySem.Str.ofString (toString i)).length = _ from PySem.ofString_length _]; omega)⟩
  | _ => exact f.elim
inductive FPs (N : List Str) (sc : Scope) : List Expr → List FP → Prop
  | nil : FPs N sc [] []
  | txt {s : Str} {k : Nat} {pos : Pos} {es : List Expr} {l : List FP} (hs : s.length ≤ 1048576) (r : FPs N sc es l) : FPs N sc (.Constant (.str s) k pos :: es) (.txt s :: l)
  | par {i : Nat} {x : Str} {p p2 : Pos} {es : List Expr} {l : List FP} (h : N[i]? = some x) (hv : sc.names.lookup x = some .local) (hd : (x == ("__debug__" : Str)) = false) (hcd : (x == ("__classdict__" : Str)) = false) (r : FPs N sc es l) : FPs N sc (.FormattedValue (.Name x p) (-1) none p2 :: es) (.par i :: l)
def ptT : FP → TE
  | .txt s => tC (.str s)
  | .par i => tFmtA (tVar i)
def ptOk (σ : L2.St) : FP → Prop
  | .txt s => True
  | .par i => ∃ v, σ[i]? = some (some v) ∧ fmtV v
theorem FPs.pj {X : Cx} {es : List Expr} {l : List FP} (h : FPs X.N X.env.scope es l) : PJ X es (l.map ptT) := by
  induction h with
  | nil => exact .nil
  | txt hs r ih => exact .cons pe_str ih
  | par h hv hd hcd r ih => exact .cons (pe_fmtA (pe_var h (.inl hv) hd hcd)) ih
theorem FPs.js {N : List Str} {sc : Scope} {σ : L2.St} {H : Hp} {Q : Str → Hp → Prop} {es : List Expr} {l : List FP} (h : FPs N sc es l) (hk : ∀ p ∈ l, ptOk σ p) (q : ∀ out, Q out H) : ∀ acc : Str, acc.length + l.length * 1048576 ≤ sizeLine → tJs (l.map ptT) acc σ H Q := by
  induction h with
  | nil => exact fun acc _ => q acc
  | @txt s k pos es l hs r ih =>
    intro acc hz
    rw [List.length_cons] at hz
    have e : (acc ++ s).length = acc.length + s.length := Str.length_append acc s
    exact ⟨s, rfl, by rw [e]; omega, ih (fun p hp => hk p (List.mem_cons_of_mem _ hp)) (acc ++ s) (by rw [e]; omega)⟩
  | @par i x p p2 es l h hv hd hcd r ih =>
    intro acc hz
    rw [List.length_cons] at hz
    obtain ⟨v, e1, f⟩ := hk _ List.mem_cons_self
    refine ⟨v, e1, f, fun y hy => ?_⟩
    have e : (acc ++ y).length = acc.length + y.length := Str.length_append acc y
    exact ⟨y, rfl, by rw [e]; omega, ih (fun p hp => hk p (List.mem_cons_of_mem _ hp)) (acc ++ y) (by rw [e]; omega)⟩
/-! ### the fields -/
inductive Fls (N : List Str) (sc : Scope) : List Stmt → List (Str × Nat) → Prop
  | nil : Fls N sc [] []
  | cons {i : Nat} {y f x : Str} {p1 p2 p3 p4 : Pos} {st : List Stmt} {l : List (Str × Nat)} (h0 : N[0]? = some y) (hy : sc.names.lookup y = some .local) (hyd : (y == ("__debug__" : Str)) = false) (hyc : (y == ("__classdict__" : Str)) = false)
      (h : N[i]? = some x) (hv : sc.names.lookup x = some .local) (hd : (x == ("__debug__" : Str)) = false) (hcd : (x == ("__classdict__" : Str)) = false) (r : Fls N sc st l) : Fls N sc (.Assign [.Attribute (.Name y p1) f p2] (.Name x p3) p4 :: st) ((f, i) :: l)
def fldV (vs : L2.St) (fl : List (Str × Nat)) : List (Str × V) := fl.map fun p => (p.1, (slotAt vs p.2).getD .non)
theorem Fls.old {X : Cx} {C : Addr} (T : OexC X.K C) {st : List Stmt} {l : List (Str × Nat)} (h : Fls X.N X.env.scope st l) (hno : ∀ p ∈ l, PySem.W.findIn X.K (.ref C) p.1 = some none) :
    ∃ t, PSs X st t ∧ ∀ (D : Ends) (σ : L2.St) (H : Hp) (a dx : Addr) (fs : List (Str × V)), a ≠ dx → σ[0]? = some (some (.ref a)) → H a = some (exo a C (some dx)) → H dx = some (exd dx fs) → fs.length + l.length ≤ 900 → (∀ p ∈ l, ∃ v, σ[p.2]? = some (some v)) →
      (∀ H', H' a = some (exo a C (some dx)) → H' dx = some (exd dx ((fldV σ l).reverse ++ fs)) → (∀ b, b ≠ dx → H' b = H b) → D.nx σ H') → t D σ H := by
  induction h with
  | nil => exact ⟨_, pss_nil, fun D σ H a dx fs _ _ h1 h2 _ _ q => q H h1 h2 fun _ _ => rfl⟩
  | @cons i y f x p1 p2 p3 p4 st l h0 hy hyd hyc h hv hd hcd r ih =>
    obtain ⟨t, ht, q⟩ := ih fun p hp => hno p (List.mem_cons_of_mem _ hp)
    refine ⟨_, pss_cons (ps_ost (pe_var h0 (.inl hy) hyd hyc) (pe_var h (.inl hv) hd hcd)) ht, fun D σ H a dx fs ne e0 h1 h2 hl hs k => ?_⟩
    obtain ⟨v, ev⟩ := hs _ List.mem_cons_self
    rw [List.length_cons] at hl
    refine ⟨v, ev, .ref a, e0, a, C, rfl, T, hno _ List.mem_cons_self, .inr ⟨dx, fs, h1, h2, by omega, ?_⟩⟩
    refine q D σ _ a dx ((f, v) :: fs) ne e0 (by rw [upd_ne ne]; exact h1) upd_same (by rw [List.length_cons]; omega) (fun p hp => hs p (List.mem_cons_of_mem _ hp)) fun H' k1 k2 k3 => k H' k1 ?_ fun b hb => by rw [k3 b hb, upd_ne hb]
    rw [k2]
    unfold fldV
    rw [List.map_cons, List.reverse_cons, List.append_assoc, slotAt_of ev] <;> rfl
theorem Fls.new {X : Cx} {C : Addr} (T : OexC X.K C) {st : List Stmt} {l : List (Str × Nat)} (h : Fls X.N X.env.scope st l) (hno : ∀ p ∈ l, PySem.W.findIn X.K (.ref C) p.1 = some none) (hne : l ≠ []) :
    ∃ t, PSs X st t ∧ ∀ (D : Ends) (σ : L2.St) (H : Hp) (a : Addr), σ[0]? = some (some (.ref a)) → H a = some (exo a C none) → l.length ≤ 900 → (∀ p ∈ l, ∃ v, σ[p.2]? = some (some v)) →
      (∀ dx H', H dx = none → a ≠ dx → H' a = some (exo a C (some dx)) → H' dx = some (exd dx (fldV σ l).reverse) → (∀ b, b ≠ a → b ≠ dx → H' b = H b) → D.nx σ H') → t D σ H := by
  cases h with
  | nil => exact absurd rfl hne
  | @cons i y f x p1 p2 p3 p4 st l h0 hy hyd hyc h hv hd hcd r =>
    obtain ⟨t, ht, q⟩ := r.old T fun p hp => hno p (List.mem_cons_of_mem _ hp)
    refine ⟨_, pss_cons (ps_ost (pe_var h0 (.inl hy) hyd hyc) (pe_var h (.inl hv) hd hcd)) ht, fun D σ H a e0 h1 hl hs k => ?_⟩
    obtain ⟨v, ev⟩ := hs _ List.mem_cons_self
    rw [List.length_cons] at hl
    refine ⟨v, ev, .ref a, e0, a, C, rfl, T, hno _ List.mem_cons_self, .inl ⟨h1, fun dx n ne => ?_⟩⟩
    refine q D σ _ a dx [(f, v)] (Ne.symm ne) e0 upd_same (by rw [upd_ne ne, upd_same]) (by rw [List.length_cons, List.length_nil]; omega) (fun p hp => hs p (List.mem_cons_of_mem _ hp)) fun H' k1 k2 k3 => k dx H' n (Ne.symm ne) k1 ?_ fun b hb hd => by rw [k3 b hd, upd_ne hb, upd_ne hd]
    rw [k2]
    unfold fldV
    rw [List.map_cons, List.reverse_cons, slotAt_of ev] <;> rfl
/-! ### __init__ -/
def iniSp (C : Addr) (l : List FP) (fl : List (Str × Nat)) (n : Nat) : Sp := fun vs H Q _ => ∃ a ws, vs = .ref a :: ws ∧ vs.length = n ∧ H a = some (exo a C none) ∧ (∀ p ∈ l, ptOk (vs.map some) p) ∧
  ∀ dx H', H dx = none → a ≠ dx → H' a = some (exo a C (some dx)) → H' dx = some (exd dx (fldV (vs.map some) fl).reverse) → (∀ b, b ≠ a → b ≠ dx → H' b = H b) → Q .non H'
/-- the words of such an __init__ -/
structure IniT (F : NF) (ps : List Str) (l : List FP) (fl : List (Str × Nat)) : Prop where
  sc : NScope (ps ++ [("__class__" : Str)]) ps [("__class__" : Str)] F.scope
  body : ∃ (p0 p1 p2 p3 p4 pj : Pos) (v1 v2 : Expr) (vr : List Expr) (rest : List Stmt), F.body = .Expr (.Call (.Attribute (.Call (.Name "super" p0) [] [] p1) "__init__" p2) [.JoinedStr (v1 :: v2 :: vr) pj] [] p3) p4 :: rest ∧
    FPs (ps ++ [("__class__" : Str)]) F.scope (v1 :: v2 :: vr) l ∧ Fls (ps ++ [("__class__" : Str)]) F.scope rest fl ∧
    ∃ pl : Sem Bool, ∀ env : Env, eval (.Call (.Attribute (.Call (.Name "super" p0) [] [] p1) "__init__" p2) [.JoinedStr (v1 :: v2 :: vr) pj] [] p3) env = (do
      let ov ← attributeBase (.Call (.Name "super" p0) [] [] p1) "__init__" env (eval (.Call (.Name "super" p0) [] [] p1) env)
      standAt p2.atName
      let (f, first) ← holding [ov] (getMethod ov "__init__" pl)
      callWith p3 f first (backTo p3 (starEach [.JoinedStr (v1 :: v2 :: vr) pj] env)) [])
  ar : ∃ ar, (F.params.posonlyargs ++ F.params.args).head? = some ar ∧ ps[0]? = some ar.arg
  ks : F.scope.names.lookup ("super" : Str) = some .globalImplicit
  fl0 : fl ≠ []
  flP : ∀ p ∈ fl, p.2 < ps.length
  lp : ∀ i, FP.par i ∈ l → i < ps.length
  sz : l.length ≤ 15
  fz : fl.length ≤ 100
theorem ini_ok {CX : CXT} {P : Program} {w : World} {K : PySem.W.Frag} {mg : Str → Option Value} {base : Heap} {C fI : Addr} {F : NF} {k : Nat} {fd : FuncData} {ps : List Str} {l : List FP} {fl : List (Str × Nat)} (T : IniK P K mg C fI F) (W : IniT F ps l fl) (hno : ∀ p ∈ fl, PySem.W.findIn K (.ref C) p.1 = some none)
    (hfd : ∃ oc od osl, K.lookup fI = some ⟨oc, od, .func fd, osl⟩) : FnOk P w K mg base CX (k + 1) fI fd ps (iniSp C l fl ps.length) := by
  refine ⟨fun vs H Q E h => by obtain ⟨a, ws, _, z, _⟩ := h; exact z, fun A outer s H args us vs Q E hr e0 hb r hsp => ?_⟩
  obtain ⟨oc, od, doc, pm, ctv, osl, lkF⟩ := T.lk
  obtain ⟨oc2, od2, osl2, lk2⟩ := hfd
  rw [lkF] at lk2
  have efd : F.fd doc pm ctv = fd := by cases lk2; rfl
  subst efd
  have KX : K.In s.heap := e0.mod.kin.keeps fun b o e => (e0.bs b o e).1
  have lim : s.heap.NoLimit := e0.mod.nolimit.keeps fun b o e => (e0.bs b o e).1
  obtain ⟨a, ws, ev, hl, hx, hpt, hq⟩ := hsp
  obtain ⟨cc, cl, cld, csl, eCl, lkC⟩ := T.cl
  obtain ⟨p0, p1, p2, p3, p4, pj, v1, v2, vr, rest, eb, hfp, hfl, pl, hc⟩ := W.body
  obtain ⟨ar, ha, hps⟩ := W.ar
  obtain ⟨ccb, ecb⟩ : ∃ o, base.get? cc = some o := ⟨_, e0.mod.kin _ _ lkC⟩
  have C0 : CellsAt F.cl [("__class__" : Str)] [none] s.heap H := by
    refine ⟨rfl, fun y c e => ?_, fun x y c h1 h2 => ?_, fun i y e => ?_⟩
    · rw [eCl] at e
      have ec : c = cc := by
        unfold List.lookup at e
        split at e
        · exact (Option.some.inj e).symm
        · cases e
      subst ec
      exact ⟨(e0.bs _ _ ecb).2, _, _, KX _ _ lkC, rfl⟩
    · rw [eCl] at h1 h2
      unfold List.lookup at h1 h2
      split at h1
      · rename_i z1
        split at h2
        · rename_i z2
          rw [show x = ("__class__" : Str) from by simpa using z1, show y = ("__class__" : Str) from by simpa using z2]
        · cases h2
      · cases h1
    · cases i with
      | zero =>
        cases e
        exact ⟨cc, by rw [eCl]; rfl, fun v z => by cases z⟩
      | succ i => cases e
  refine ks_codeAny_call_defAt hr.depth (KX _ _ lkF) rfl lim (PySem.W.codeRec_of KX T.cd) rfl hb W.sc.nocell (fun ⟨n, _⟩ hy => W.sc.par n (List.of_mem_zip hy).1) (fun h₁ hns kp => ?_) W.sc.co W.sc.gen W.sc.kind
  have I : Inv (ncx CX P w K mg base (ps ++ [("__class__" : Str)]) F fI A outer s H E) [] (startF (ps ++ [("__class__" : Str)]) vs [none]) H { s with heap := h₁, toks := s.toks + (ps.zip us).length } := inv_startN W.sc hr.hd e0 hl r C0 hns kp
  have eσ : startF (ps ++ [("__class__" : Str)]) vs [none] = vs.map some ++ [none] := by
    unfold startF
    rw [hl, List.length_append, List.length_cons, List.length_nil]
    have : ps.length + (0 + 1) - ps.length - [(none : Option V)].length = 0 := by rw [List.length_cons, List.length_nil]; omega
    rw [this]
    rfl
  rw [eσ] at I
  have at' : ∀ i : Nat, i < ps.length → (vs.map some ++ [none])[i]? = (vs.map some)[i]? := fun i hi => List.getElem?_append_left (by rw [List.length_map, hl]; exact hi)
  have nz : 0 < ps.length := by
    obtain ⟨z, _⟩ := List.getElem?_eq_some_iff.mp hps
    exact z
  have h0 : (vs.map some ++ [none])[0]? = some (some (V.ref a)) := by rw [at' 0 nz, ev]; rfl
  have hpt' : ∀ p ∈ l, ptOk (vs.map some ++ [none]) p := fun p hp => by
    have z := hpt p hp
    cases p with
    | txt s => exact True.intro
    | par i =>
      obtain ⟨v, e1, f⟩ := z
      exact ⟨v, by rw [at' i (W.lp i hp)]; exact e1, f⟩
  have hfv : fldV (vs.map some ++ [none]) fl = fldV (vs.map some) fl := by
    unfold fldV
    refine List.map_congr_left fun p hp => ?_
    unfold NdefX.slotAt
    rw [at' p.2 (W.flP p hp)]
  have hkk : F.scope.names.lookup ar.arg = some .local := W.sc.par _ (List.mem_of_getElem? hps)
  obtain ⟨tt, ht, hrun⟩ := Fls.new (X := ncx CX P w K mg base (ps ++ [("__class__" : Str)]) F fI A outer s H E) T.oex hfl hno W.fl0
  rw [eb]
  refine ks_wpAt_execs_cons (ks_wpAt_mono (super_ok (Qn := fun H1 => H1 = H) T ha W.ks (W.sc.frk _ (by simp)) hkk (by rw [List.getElem?_append_left nz]; exact hps) I h0 hx (pa_cons (pe_joined hfp.pj) pa_nil) ?_ (hc := hc _)) (fun fl' s' hs => ?_) fun e s' hs => hs)
  · exact hfp.js hpt' (fun out => ⟨by rw [List.length_cons, List.length_nil]; omega, hx, rfl⟩) _ (by have := W.sz; rw [sizeLine_eq, show (Str.empty).length = 0 from rfl]; omega)
  · obtain ⟨rfl, H1, I1, eH⟩ := hs
    subst eH
    refine PySem.wpAt_of_wpAny (wpAny_mono (ht.run [] s' _ H1 { nx := fun _ H' => Q .non H', rt := Q } I1 (hrun _ _ _ a h0 hx (by have := W.fz; omega) (fun p hp => ?_) fun dx H' n ne e1 e2 e3 => hq dx H' n ne e1 (by rw [e2, hfv]) e3)) (fun fl' s'' hs => ?_) fun e s'' hs => hs)
    · obtain ⟨v, hv⟩ : ∃ v, vs[p.2]? = some v := ⟨_, List.getElem?_eq_getElem (by rw [hl]; exact W.flP p hp)⟩
      exact ⟨v, by rw [at' p.2 (W.flP p hp), List.getElem?_map, hv]; rfl⟩
    have fin : ∀ {σ' : L2.St} {H' : Hp} {v : V} {u : Value}, Inv (ncx CX P w K mg base (ps ++ [("__class__" : Str)]) F fI A outer s H1 E) [] σ' H' s'' → L2.RelV v u → Q v H' → CE outer P w H1 s Q u s'' :=
      fun {σ' H' v u} J rv q => ⟨v, H', J.os, J.bare, J.base, J.hok, rv, q⟩
    cases fl' with
    | ret u =>
      obtain ⟨v, σ', H', J, rv, q⟩ := hs
      exact fin J rv q
    | next =>
      obtain ⟨σ', H', J, q⟩ := hs
      exact fin (v := V.non) (u := Value.none) J rfl q
    | brk =>
      obtain ⟨_, _, _, q⟩ := hs
      exact False.elim q
    | cont =>
      obtain ⟨_, _, _, q⟩ := hs
      exact False.elim q
end Z

set_option maxHeartbeats 2000000
namespace Z
set_option autoImplicit false
open PySem PySem.Spec PyProof.Rows L2 NdefX
section
variable {X : Cx} {x : Str} {e : Expr} {es : List Expr} {ta : TA} {p pos : Pos} {C fI : Addr} {Fw : NF} {k : Nat} {fd : FuncData} {ps : List Str} {sp : Sp}
/-- C(e, ..) where nothing is handled -/
theorem pmk_ini (T : IniK X.prog X.K X.mg C fI Fw) (F1 : FnOk X.prog X.w X.K X.mg X.base (L2N.CX X.prog X.w) k fI fd ps sp) (hr : Room (k + 1) X.A) (hb : Binds X.K fd ps [])
    (hx : ∀ (pins : List (Addr × Obj)) (σ : L2.St) (H : Hp) (s : Shared) (e : Value) (s' : Shared), Inv X pins σ H s → L2N.CX X.prog X.w X.stack H s (fun _ _ _ => False) e s' → X.xe e s') (hg : Gl X x) (hm : X.mg x = some (.ref C)) (ha : PA X (e :: es) ta)
    (hdb : (x == ("__debug__" : Str)) = false := by decide) (he : starEach (e :: es) X.env = (false, eval e X.env) :: starEach es X.env := by rfl) (hpl : (backTo pos (starEach es X.env)).any (·.1) = false := by rfl) :
    L2N.PMk X (.Call (.Name x p) (e :: es) [] pos) (tMkO C sp [] ta) := by
  intro pins s σ H Q I h
  obtain ⟨nm, q, Nc, bs, bm, sn, sub, ab, col, dd, k0, k1, k2, k3, k5, hC, hbm⟩ := T.oex.cls
  refine wpAny_Call_Name_kw (ld_glob I hg hm ?_ hdb)
  refine PySem.W.callWith_K (h₀ := X.base) I.ok.mod.kin T.oex.kC (thn (ha.run pos pins s σ H _ I h) fun us s1 ⟨vs, H1, I1, r1, hz, q1⟩ => ⟨I1.kIn, ?_⟩) he hpl
  show wpAny _ _ (call (.ref C) us) _ _ _
  obtain ⟨hp, g, dr, tk, os⟩ := s1
  have sz1 : hp.objs.size ≤ hp.objs.size + 1 := Nat.le_succ _
  have nu : H1 (hp.objs.size + 1) = none := I1.hok.fresh sz1
  have sp1 := q1 (hp.objs.size + 1) nu
  rw [List.append_nil] at sp1
  generalize hh2 : (hp.push (PySem.W.kdv_tup us)).push (PySem.HandSPX.excO C hp.objs.size) = hp2
  have up : ∀ b o, hp.get? b = some o → hp2.get? b = some o := fun b o e => by rw [← hh2]; exact Heap.get?_push_of_some _ (Heap.get?_push_of_some _ e)
  have at2 : hp2.get? (hp.objs.size + 1) = some (PySem.HandSPX.excO C hp.objs.size) := by rw [← hh2]; heap_get
  have I2 : Inv X pins σ (upd H1 (hp.objs.size + 1) (exo (hp.objs.size + 1) C none)) ⟨hp2, g, dr, tk, os⟩ := I1.laid (t' := tk) up sz1 (exo_ok at2)
  have rv : Vals (V.ref (hp.objs.size + 1) :: vs) (Value.ref (hp.objs.size + 1) :: us) := .cons rfl r1
  have ln : (Value.ref (hp.objs.size + 1) :: us ++ []).length = ps.length := by
    rw [List.append_nil, ← rv.length]
    exact F1.len _ _ _ _ sp1
  have lu : us.length ≤ sizeLine := by
    rw [← Paired.length r1, sizeLine_eq]
    omega
  have bd := hb ⟨hp2, g, dr, tk, os⟩ (Value.ref (hp.objs.size + 1) :: us) I2.kIn ln
  rw [List.append_nil] at bd
  have run := F1.run _ X.stack _ _ ⟨Value.ref (hp.objs.size + 1) :: us, []⟩ _ _ _ (fun _ _ _ => False) (hr.make C us []) (I2.env0.make C us []) bd rv sp1
  refine wpAny_call (PySem.HandSPX.call_own F.excBase_ValueError (fun Y => PySem.HandSPX.refsVE_contains Y bm hbm) (I1.kIn _ _ hC) (PySem.W.looks_findIn I1.kIn T.ini) (fun self => PySem.W.bind_fn I1.kIn self T.tyI) lu ?_)
  rw [hh2]
  refine codeAny_mono run fun r s' hq => ?_
  cases r with
  | error er => exact hx pins σ _ _ er s' I2 hq
  | ok fl =>
    cases fl with
    | ret u =>
      obtain ⟨v, H2, os2, bare2, un2, hok2, rv2, ev, d, fs, ea, ed, hd1, q2⟩ := hq
      subst ev
      obtain ⟨h2, g2, d2, t2, os'⟩ := s'
      obtain ⟨t0, G, J, kG, ge, hoe, na⟩ := mk_end0 (d2 := d2) (t2 := t2) I1 sz1 up un2 hok2 os2 bare2 ea ed hd1
      exact ⟨rv2, _, _, _, ⟨G, g2, d2, t2, os'⟩, _, .ref C, some d, rfl, J, kG, ge, hoe, ⟨rfl, rfl, fun vs e => by cases e; rfl⟩, rfl, rfl, na, rfl, bare2, raises_own T.oex.exC T.oex.tyC, q2⟩
    | next => exact False.elim hq
    | brk => exact False.elim hq
    | cont => exact False.elim hq
end
/-! ### an error class as it stands behind the top -/
def fmtD : Option D → Prop
  | some .non => True
  | some (.str y) => y.length ≤ 1048576
  | some (.int i) => i.natAbs.log2 < 1920
  | _ => False
def fpOk (ds : List D) : List FP → Prop
  | [] => True
  | .txt _ :: r => fpOk ds r
  | .par i :: r => fmtD ds[i - 1]? ∧ fpOk ds r
def fldD (fl : List (Str × Nat)) (ds : List D) : List (Str × D) := (fl.map fun p => (p.1, (ds[p.2 - 1]?).getD .non)).reverse
structure Err (P : Program) (w : World) (K : PySem.W.Frag) (mg : Str → Option Value) (base : Heap) (x : Str) (l : List FP) (fl : List (Str × Nat)) (n : Nat) : Prop where
  ex : ∃ C fI F fd ps, IniK P K mg C fI F ∧ FnOk P w K mg base (L2N.CX P w) 1 fI fd ps (iniSp C l fl ps.length) ∧ Binds K fd ps [] ∧ mg x = some (.ref C) ∧ gAdr K x = C ∧ ps.length = n + 1
  lp : ∀ i, FP.par i ∈ l → 0 < i
  fp : ∀ p ∈ fl, 0 < p.2 ∧ p.2 < n + 1
theorem flat_rep {K : PySem.W.Frag} {G : Hp} {d : D} {v : V} (f : flat d = true) (h : Rep K G d v) : Rep [] (fun _ => none) d v := by
  cases d <;> first | exact h | (exact Bool.noConfusion f)
theorem fsRep_map {K : PySem.W.Frag} {G : Hp} {ds : List D} {vs : List V} (r : RepL K G ds vs) (a : Addr) : ∀ {fl : List (Str × Nat)}, (∀ p ∈ fl, 0 < p.2 ∧ p.2 < ds.length + 1) → (∀ p ∈ fl, flat ((ds[p.2 - 1]?).getD .non) = true) →
    FsRep (fl.map fun p => (p.1, (ds[p.2 - 1]?).getD .non)) (fl.map fun p => (p.1, (NdefX.slotAt ((V.ref a :: vs).map some) p.2).getD .non))
  | [], _, _ => rfl
  | p :: fl, h, hf => by
    obtain ⟨h1, h2⟩ := h p List.mem_cons_self
    have hi : p.2 - 1 < ds.length := by omega
    obtain ⟨v, e1, rv⟩ := r.get (List.getElem?_eq_getElem hi)
    have es : NdefX.slotAt ((V.ref a :: vs).map some) p.2 = some v := by
      refine slotAt_of ?_
      obtain ⟨j, ej⟩ : ∃ j, p.2 = j + 1 := ⟨p.2 - 1, by omega⟩
      rw [ej] at e1 ⊢
      rw [Nat.add_sub_cancel] at e1
      rw [List.map_cons, List.getElem?_cons_succ, List.getElem?_map, e1]
      rfl
    have ed : (ds[p.2 - 1]?).getD .non = ds[p.2 - 1] := by rw [List.getElem?_eq_getElem hi]; rfl
    refine ⟨v, _, ?_, hf p List.mem_cons_self, ?_, fsRep_map r a (fun q hq => h q (List.mem_cons_of_mem _ hq)) fun q hq => hf q (List.mem_cons_of_mem _ hq)⟩
    · rw [List.map_cons, es]; rfl
    · have f1 := hf p List.mem_cons_self
      rw [ed] at f1 ⊢
      exact flat_rep f1 rv
theorem fmt_at {K : PySem.W.Frag} {G : Hp} {ds : List D} {vs : List V} (r : RepL K G ds vs) {a : Addr} {i : Nat} (hi : 0 < i) (h : fmtD ds[i - 1]?) : ptOk ((V.ref a :: vs).map some) (.par i) := by
  cases e : ds[i - 1]? with
  | none => rw [e] at h; exact h.elim
  | some d =>
    rw [e] at h
    obtain ⟨v, e1, rv⟩ := r.get e
    refine ⟨v, ?_, ?_⟩
    · obtain ⟨j, ej⟩ : ∃ j, i = j + 1 := ⟨i - 1, by omega⟩
      subst ej
      rw [Nat.add_sub_cancel] at e1
      rw [List.map_cons, List.getElem?_cons_succ, List.getElem?_map, e1]
      rfl
    · cases d <;> first
        | exact (h : False).elim
        | (rw [show v = _ from rv]; exact h)
theorem fpOk_all {ds : List D} : ∀ {l : List FP}, fpOk ds l → ∀ i, FP.par i ∈ l → fmtD ds[i - 1]?
  | .txt _ :: r, h, i, m => by
    rcases List.mem_cons.mp m with z | z
    · cases z
    · exact fpOk_all (l := r) h i z
  | .par j :: r, h, i, m => by
    rcases List.mem_cons.mp m with z | z
    · cases z; exact h.1
    · exact fpOk_all h.2 i z
def wRaise (x : Str) (l : List FP) (fl : List (Str × Nat)) (n : Nat) (wa : A2) : TS2 := fun _ E ρ => wa ρ (fun ds ρ' => ds.length = n ∧ fpOk ds l ∧ (fldD fl ds).all (fun q => flat q.2) = true ∧ E.ex ⟨x, fldD fl ds⟩ ρ') E.ex
section
variable {X : Cx} {W : WX} {x : Str} {e : Expr} {es : List Expr} {p pos spos : Pos} {l : List FP} {fl : List (Str × Nat)} {n : Nat}
theorem mk_sound {wa : A2} {ta : TA} {C : Addr} {m : Nat} {CO : XK} {σ : L2.St}
    (lp : ∀ i, FP.par i ∈ l → 0 < i) (fp : ∀ p ∈ fl, 0 < p.2 ∧ p.2 < n + 1) (hC : gAdr X.K x = C) (hn : m = n + 1) (hn2 : n ≤ 1000)
    (r1 : ∀ (p : Par) (G : Hp) (σ : L2.St) (H : Hp) (ρ : List Sl) (Q : List D → List Sl → Prop) (R : RX) (C : List V → Hp → Prop), p.K = X.K → Abs p G σ H ρ → RzOk p W σ G R → wa ρ Q R →
    (∀ G' H' ds ρ' vs, Abs p G' σ H' ρ' → Same G G' → RepL p.K G' ds vs → Q ds ρ' → C vs H') → ta σ H C)
    (p : Par) (G : Hp) (H : Hp) (ρ : List Sl) (R : RX) (hK : p.K = X.K) (A : Abs p G σ H ρ) (hz : RzOk p W σ G R)
    (hw : wa ρ (fun ds ρ' => ds.length = n ∧ fpOk ds l ∧ (fldD fl ds).all (fun q => flat q.2) = true ∧ R ⟨x, fldD fl ds⟩ ρ') R)
    (hCO : ∀ cls d H', W cls d σ H' → CO cls d H') : tMkO C (iniSp C l fl m) [] ta σ H CO := by
  refine r1 p G σ H ρ _ R _ hK A hz hw fun G1 H1 ds ρ1 vs A1 s1 rl q1 => ?_
  obtain ⟨hl, hf, hfl, hR⟩ := q1
  have hlv : vs.length = n := by rw [← rl.length]; exact hl
  refine ⟨by omega, fun a ha => ⟨a, vs, by rw [List.append_nil], by rw [List.append_nil, List.length_cons, hlv, hn], upd_same, fun pt hpt => ?_, fun dx H' hd hne e1 e2 e3 => ?_⟩⟩
  · rw [List.append_nil]
    cases pt with
    | txt s => exact True.intro
    | par i => exact fmt_at rl (lp i hpt) (fpOk_all hf i hpt)
  · have hd1 : H1 dx = none := by rw [upd_ne (Ne.symm hne)] at hd; exact hd
    refine ⟨rfl, dx, _, e1, e2, hd1, ?_⟩
    have eH : upd (del H' a) dx (.xd (fldV ((V.ref a :: (vs ++ [])).map some) fl).reverse) = upd H1 dx (.xd (fldV ((V.ref a :: (vs ++ [])).map some) fl).reverse) := by
      funext b
      by_cases hb : b = dx
      · rw [hb, upd_same, upd_same]
      · rw [upd_ne hb, upd_ne hb]
        by_cases hba : b = a
        · rw [hba, del_same, ha]
        · rw [del_ne hba, e3 b hba hb, upd_ne hba]
    rw [eH]
    obtain ⟨A2, s2⟩ := A1.laidS (o := .xd (fldV ((V.ref a :: (vs ++ [])).map some) fl).reverse) hd1
    refine hCO _ _ _ (hz _ _ ρ1 ⟨x, fldD fl ds⟩ _ _ A2 (s1.trans s2) ⟨by rw [hK, hC], dx, _, rfl, upd_same, ?_⟩ hR)
    have hall : ∀ q ∈ fl, flat ((ds[q.2 - 1]?).getD .non) = true := fun q hq => by
      have z := List.all_eq_true.mp hfl (q.1, (ds[q.2 - 1]?).getD .non) (by unfold fldD; rw [List.mem_reverse]; exact List.mem_map_of_mem hq)
      exact z
    have z := fsRep_map (fl := fl.reverse) rl a (fun q hq => by rw [hl]; exact fp q (List.mem_reverse.mp hq)) fun q hq => hall q (List.mem_reverse.mp hq)
    rw [List.append_nil]
    unfold fldD fldV
    rw [← List.map_reverse, ← List.map_reverse]
    exact z
theorem ps2_raise {wa : A2} (hc : X.calm = true) (tk : L2N.Takes X W) (T : Err X.prog X.w X.K X.mg X.base x l fl n) (hr : Room 2 X.A) (ha : PA2 X W (e :: es) wa) (hn2 : n ≤ 1000 := by decide)
    (hg : Gl X x := by rfl) (hdb : (x == ("__debug__" : Str)) = false := by decide) (he : starEach (e :: es) X.env = (false, eval e X.env) :: starEach es X.env := by rfl) (hpl : (backTo pos (starEach es X.env)).any (·.1) = false := by rfl) :
    PS2 X W (.Raise (some (.Call (.Name x p) (e :: es) [] pos)) none spos) (wRaise x l fl n wa) := by
  obtain ⟨C, fI, F, fd, ps, T1, F1, hb, hm, hC, hn⟩ := T.ex
  obtain ⟨ta, h1, r1⟩ := ha.ex
  refine ⟨_, L2N.ps_raise hc tk (pmk_ini T1 F1 hr hb (L2N.passes_call tk fun _ _ _ _ z => z.elim) hg hm h1 hdb he hpl), fun p G σ H ρ nx D2 D hK A E hw => ?_⟩
  exact mk_sound T.lp T.fp hC hn hn2 r1 p G H ρ D2.ex hK A (E.rz σ) hw fun _ _ _ z => z
end
end Z

set_option maxHeartbeats 2000000
/-! isinstance and fields of a pinned error that has a dict -/
namespace Z
set_option autoImplicit false
open PySem PySem.Spec PyProof.Rows L2
section
open PySem.W PySem.Calls
variable {prog : Program} {w : World} {A : Around} {E : Value → Shared → Prop} {s : Shared} {K : PySem.W.Frag} {x D : Addr} {ox od : Obj}
theorem find_cls (hdct : hasDictIn K D = true) (ha : findIn K (.ref D) "__class__" = some (some (.builtin "object.__class__"))) (hn : specialIn K (.builtin "object.__class__") "__get__" = some (some (.builtin "getset_descriptor.__get__")))
    (htk : takesIn K (.builtin "object.__class__") = some true) (o : Option Obj) : findObj K D o "__class__" = some (.bind (.builtin "getset_descriptor.__get__") (.builtin "object.__class__")) := by
  obtain ⟨cd, hc, _⟩ := any_some hdct
  unfold findObj
  rw [hc, Option.bind_some, ha, Option.bind_some]
  simp [hn, htk]
theorem cls_excD {Q : Option Value → Shared → Prop} (T : ExcC K D) (X : K.In s.heap) (I : InstAt s.heap x ox D (some od)) (h : Q (some (.ref D)) { s with toks := s.toks + 1 }) : wpAny (model prog w) A (getAttr? (.ref x) "__class__") Q E s := by
  obtain ⟨hga, hgt, hsub, hdct, ha, hn, htk, hm⟩ := T
  have hf := find_cls hdct ha hn htk (some od)
  obtain ⟨hp, g, d, t, os⟩ := s
  have L0 := I.type (M := model prog w)
  have L1 := looks_findIn (M := model prog w) X hga
  have L2 := looks_findIn (M := model prog w) X hgt
  have L3 := looks_find (M := model prog w) X I hf
  have sub : Looks (model prog w) hp (isInstance (.ref x) (.type "BaseException")) true := L0.andThen (looks_subIn X hsub)
  have n0 : (false && onTheHeap (Value.builtin "BaseException.__getattribute__")) = false := rfl
  have n2 : (Value.builtin "BaseException.__getattribute__" == Value.builtin "object.__getattribute__") = false := by decide +kernel
  have n1 : (onTheHeap (Value.ref D) && Value.builtin "BaseException.__getattribute__" == Value.builtin "object.__getattribute__") = false := by rw [n2]; rfl
  unfold getAttr? getAttrBy? getAttrBy
  refine wpAny_bind (wpAny_mkText (wpAny_bind (wpAny_attempt (wpAny_holding (wpAny_bind (L0.at (wpAny_bind (L1.at ?_))))))))
  show wpAny _ _ (if (onTheHeap (Value.ref D) && Value.builtin "BaseException.__getattribute__" == Value.builtin "object.__getattribute__") = true then _ else _) _ _ _
  rw [n1, if_neg Bool.false_ne_true]
  unfold getAttrByItsOwn hookBefore
  refine wpAny_bind ?_
  rw [if_pos (show onTheHeap (Value.ref D) = true from rfl)]
  refine L2.at ?_
  refine wpAny_bind (wpAny_attempt (wpAny_holding ?_))
  unfold callGetattribute
  rw [n0, if_neg Bool.false_ne_true]
  unfold boundAndCalled
  rw [PySem.F.excAttr_ValueError.ga.bind (.ref x)]
  refine wpAny_bind (wpAny_pure ?_)
  show wpAny _ _ (call (.builtin "BaseException.__getattribute__") [.ref x, .str "__class__" t]) _ _ _
  refine wpAny_call (codeAny_call_builtin PySem.F.excAttr_ValueError.ga.plain PySem.F.entry_bexc_ga ?_)
  refine @check_slot (model prog w) _ _ ⟨hp, g, d, t + 1, os⟩ "BaseException.__getattribute__" "BaseException" "__getattribute__" (.ref x) [.str "__class__" t] [] _ (by decide +kernel) (by decide +kernel) sub (PySem.F.args_bexc_ga (.ref x) (.str "__class__" t)) ?_
  unfold Builtin.«object.__getattribute__»
  refine wpAny_bind (wpAny_of_eq (a := ((Value.ref x : Value), [Value.str "__class__" t])) (by first | rfl | (simp only [slotArgs]; rfl)) ?_)
  refine wpAny_bind (wpAny_pure (wpAny_bind (L0.at (wpAny_bind (L3.at ?_)))))
  show wpAny _ _ (holding [Value.builtin "object.__class__"] (call (.builtin "getset_descriptor.__get__") [.builtin "object.__class__", .ref x, .ref D]) >>= ret) _ _ _
  refine wpAny_bind (wpAny_holding (wpAny_call (class_get (s := ⟨hp, g, d, t + 1, os⟩) (ox := ox) (od := some od) X I hm ?_)))
  refine wpAny_pure ?_
  show wpAny _ _ (handedOut (.ref D)) _ _ _
  rw [handedOut_of (v := .ref D) rfl]
  first
    | exact wpAny_pure (wpAny_pure h)
    | exact wpAny_pure h
    | exact wpAny_pure (wpAny_bind (wpAny_pure (wpAny_pure h)))
theorem kitx_excD (T : ExcC K D) : KitX K (.ref x) (.ref D) (fun h => InstAt h x ox D (some od)) where
  ty := fun _ _ _ I => I.type
  it := fun _ _ X _ => by
    obtain ⟨cdD, hcD, _⟩ := any_some T.hd
    unfold clsIn at hcD
    split at hcD
    · rename_i c' d' cd' sl' ho
      intro A' Q' E' s' k q
      unfold isType loadHead
      exact wpAny_bind (wpAny_loadPart (k _ _ (X _ _ ho)) (wpAny_pure q))
    · cases hcD
  ne := fun h tp dd its n sl X htp => by
    obtain ⟨cdD, hcD, _⟩ := any_some T.hd
    refine Bool.eq_false_iff.mpr fun q => ?_
    have e : D = tp := Value.ref.inj (beq_iff_eq.mp q)
    subst e
    unfold clsIn at hcD
    split at hcD
    · rename_i c' d' cd' sl' ho
      have z := (X _ _ ho).symm.trans htp
      cases z
    · cases hcD
  ca := fun X I k => cls_excD T X I k
end
/-- the context bears the error of class cls, its dict at d -/
structure Held (X : Cx) (p : Addr × Obj) (cls : Str) (d : Addr) : Prop where
  mem : p ∈ X.pn
  z : Zc (.ref (gAdr X.K cls)) (some d) p.2
  f : ∃ vs, p.2.data = .fields vs
section
variable {X : Cx} {W : WX} {p : Addr × Obj} {cls : Str} {d : Addr}
/-- the dict's object -/
theorem Held.inst (h : Held X p cls d) {pins : List (Addr × Obj)} {σ : L2.St} {H : Hp} {s : Shared} (I : Inv X pins σ H s) {fs : List (Str × V)} (hd : H d = some (.xd fs)) :
    ∃ od, PySem.W.InstAt s.heap p.1 p.2 (gAdr X.K cls) (some od) ∧ ∃ mA, s.heap.Ns1 d mA ∧ (∀ f, RelO (fs.lookup f) (mA f)) ∧ PySem.W.lookIn = PySem.W.lookIn ∧ s.heap.get? d = some od := by
  obtain ⟨hget, _⟩ := I.pin p (List.mem_append_left _ h.mem)
  obtain ⟨vs, hv⟩ := h.f
  have hx : ObjOk X.prog X.w H s.heap d (.xd fs) := I.hok d _ hd
  obtain ⟨mA, hns, hr⟩ := hx
  obtain ⟨o, es, ep, ho, hrest⟩ := id hns
  obtain ⟨h1, h2⟩ := h.z
  refine ⟨o, ⟨hget, h1, by unfold PySem.W.notCls; rw [hv] <;> rfl, by rw [h2]; exact ho⟩, mA, hns, hr, rfl, ho⟩
/-- isinstance(e, C) -/
theorem call_isD {c : V} {cv : Value} {b : Bool} (h : Held X p cls d) (T : ExcC X.K (gAdr X.K cls)) (hcv : ∀ u, RelV c u → u = cv) (e : PySem.W.kitOne X.K (.ref (gAdr X.K cls)) cv = some b) :
    CallR X (.builtin "isinstance") (fun xs H Q => xs = [.ref p.1, c] ∧ (∃ fs, H d = some (.xd fs)) ∧ Q (.bl b) H) := by
  intro pins s σ H xs us Q I r hh
  obtain ⟨rfl, ⟨fs, hd⟩, q⟩ := hh
  cases r with
  | cons rx rr =>
    cases rr with
    | cons rt rr =>
      cases rr
      cases rx
      have ec := hcv _ rt
      subst ec
      obtain ⟨od, J, _⟩ := h.inst I hd
      exact PySem.W.kia_one (kitx_excD T) I.kIn J e (fun z => nomatch z) fun tk => ⟨.bl b, H, I.kept (t' := tk) fun _ _ z => z, rfl, q⟩
/-- which error a slot holds -/
def wIsE (i : Nat) (p : Addr × Obj) (d : Addr) (b : Bool) : W2 := fun ρ Q _ => match ρ[i]? with
  | some (.sh (.exc a d' _ _)) => a = p.1 ∧ d' = d ∧ Q (.val (.bl b)) ρ
  | _ => False
theorem exc_slot {P : Par} {G : Hp} {σ : L2.St} {H : Hp} {ρ : List Sl} {i : Nat} {a d : Addr} {ns : List Str} {ds : List D} (A : Abs P G σ H ρ) (e : ρ[i]? = some (.sh (.exc a d ns ds))) :
    σ[i]? = some (some (.ref a)) ∧ ∃ xs, H d = some (.xd (ns.zip xs)) ∧ G d = some (.xd (ns.zip xs)) ∧ ns.length = ds.length ∧ RepL P.K G ds xs := by
  have hi : i < σ.length := by rw [← A.len]; exact (List.getElem?_eq_some_iff.mp e).1
  obtain ⟨v, e2, r⟩ := A.slots i _ _ e (List.getElem?_eq_getElem hi)
  obtain ⟨ev, xs, hd, hl, rl⟩ := r
  subst ev
  exact ⟨by rw [List.getElem?_eq_getElem hi, e2], xs, A.toBas.get hd rfl, hd, hl, rl⟩
theorem pe2_isE (i : Nat) {y c : Str} {p1 p2 p3 pos : Pos} {cv : Value} {c' : V} {b : Bool} (h : Held X p cls d) (T : ExcC X.K (gAdr X.K cls)) (hm : X.mg "isinstance" = none) (e : PySem.W.kitOne X.K (.ref (gAdr X.K cls)) cv = some b)
    (hcn : PE X (.Name c p3) (tC c')) (hcv : ∀ u, RelV c' u → u = cv) (hN : X.N[i]? = some y := by rfl) (hv : Vis X.env.scope y := by first | exact Or.inl rfl | exact Or.inr (Or.inl rfl) | exact Or.inr (Or.inr rfl)) (hd : (y == ("__debug__" : Str)) = false := by decide) (hcd : (y == ("__classdict__" : Str)) = false := by decide)
    (hg : Gl X "isinstance" := by rfl) (hpl : (backTo pos (starEach [.Name c p3] X.env)).any (·.1) = false := by rfl) (he : starEach [(.Name y p2 : Expr), .Name c p3] X.env = (false, eval (.Name y p2) X.env) :: starEach [.Name c p3] X.env := by rfl)
    (he2 : starEach [(.Name c p3 : Expr)] X.env = (false, eval (.Name c p3) X.env) :: starEach [] X.env := by rfl) :
    PE2 X W (.Call (.Name "isinstance" p1) [.Name y p2, .Name c p3] [] pos) (wIsE i p d b) := by
  refine ⟨_, pe_callB (call_isD h T hcv e) hg hm (by decide +kernel) (pa_cons (pe_var hN hv hd hcd) (pa_cons hcn pa_nil he2) he) (by decide) (by decide) he hpl, fun P G σ H ρ Q R C hK A hz hw hc => ?_⟩
  unfold wIsE at hw
  cases e1 : ρ[i]? with
  | none => rw [e1] at hw; exact hw.elim
  | some s =>
    rw [e1] at hw
    cases s with
    | sh dd =>
      cases dd with
      | exc a d' ns ds =>
        obtain ⟨ea, ed, q⟩ := hw
        subst ea ed
        obtain ⟨h1, xs, h2, _⟩ := exc_slot A e1
        exact ⟨.ref p.1, h1, rfl, ⟨_, h2⟩, hc G H (.val (.bl b)) ρ (.bl b) A (Same.refl G) rfl q⟩
      | _ => exact hw.elim
    | _ => exact hw.elim
/-- e.f -/
def tXfP (K : PySem.W.Frag) (p : Addr × Obj) (d : Addr) (f : Str) (i : Nat) : TE := fun σ H Q => σ[i]? = some (some (.ref p.1)) ∧ ∃ (fs : List (Str × V)) (v : V), H d = some (.xd fs) ∧ fs.lookup f = some v ∧ Q v H
theorem pe_xfP (i : Nat) {y f : Str} {p1 pos : Pos} (h : Held X p cls d) (T : XfC X.K (gAdr X.K cls)) (hno : PySem.W.findIn X.K (.ref (gAdr X.K cls)) f = some none) (he : PE X (.Name y p1) (tVar i))
    (hb : attributeBase (.Name y p1) f X.env (eval (.Name y p1) X.env) = eval (.Name y p1) X.env := by rfl) : PE X (.Attribute (.Name y p1) f pos) (tXfP X.K p d f i) := by
  refine ⟨fun pins s σ H Q I hh => ?_⟩
  obtain ⟨hs, fs, v, hd, hl, q⟩ := hh
  refine attr_of hb (thn (he.run pins s σ H (fun x H1 => x = .ref p.1 ∧ H1 = H) I ⟨_, hs, rfl, rfl⟩) fun u s1 ⟨x, H1, I1, rx, ex, eH⟩ => ?_)
  subst ex eH
  obtain rfl : u = Value.ref p.1 := rx
  obtain ⟨od, J, mA, hns, hr, _, hod⟩ := h.inst I1 hd
  obtain ⟨od', ho', hlk⟩ := lookIn_ns hns
  rw [hod] at ho'
  cases ho'
  obtain ⟨u, hu, ru⟩ := RelO.some_of (v := v) (o := mA f) (by rw [← hl]; exact hr f)
  exact HandSPX.exc_get I1.kIn J T.ga T.gg T.exC (PySem.W.findObj_own T.hdC hno rfl (by rw [hlk, hu])) (handed_of ru) ⟨v, H1, I1.tok _, ru, q⟩
def wXf (i : Nat) (p : Addr × Obj) (d : Addr) (f : Str) : W2 := fun ρ Q _ => match ρ[i]? with
  | some (.sh (.exc a d' ns ds)) => a = p.1 ∧ d' = d ∧ ∃ v, (ns.zip ds).lookup f = some v ∧ Q (.val v) ρ
  | _ => False
theorem RepL.zipLook {K : PySem.W.Frag} {G : Hp} : ∀ {ns : List Str} {ds : List D} {xs : List V} {f : Str} {v : D}, RepL K G ds xs → (ns.zip ds).lookup f = some v → ∃ x, (ns.zip xs).lookup f = some x ∧ Rep K G v x
  | [], _, _, _, _, _, h => by cases h
  | n :: ns, [], _, _, _, _, h => by cases h
  | n :: ns, d :: ds, _, f, v, ⟨x, r, e, h1, t⟩, h => by
    subst e
    rw [List.zip_cons_cons, lookup_cons'] at h
    rw [List.zip_cons_cons, lookup_cons']
    by_cases hf : f = n
    · rw [if_pos hf] at h ⊢
      cases h
      exact ⟨x, rfl, h1⟩
    · rw [if_neg hf] at h ⊢
      exact RepL.zipLook t h
where
  lookup_cons' {β : Type} {f n : Str} {y : β} {l : List (Str × β)} : ((n, y) :: l).lookup f = if f = n then some y else l.lookup f := by
    by_cases h : f = n
    · subst h; simp [List.lookup]
    · have e : (f == n) = false := by simpa using h
      rw [if_neg h]; simp [List.lookup, e]
theorem pe2_xf (i : Nat) {y f : Str} {p1 pos : Pos} (h : Held X p cls d) (T : XfC X.K (gAdr X.K cls)) (hno : PySem.W.findIn X.K (.ref (gAdr X.K cls)) f = some none)
    (hN : X.N[i]? = some y := by rfl) (hv : Vis X.env.scope y := by first | exact Or.inl rfl | exact Or.inr (Or.inl rfl) | exact Or.inr (Or.inr rfl)) (hd : (y == ("__debug__" : Str)) = false := by decide) (hcd : (y == ("__classdict__" : Str)) = false := by decide)
    (hb : attributeBase (.Name y p1) f X.env (eval (.Name y p1) X.env) = eval (.Name y p1) X.env := by rfl) : PE2 X W (.Attribute (.Name y p1) f pos) (wXf i p d f) := by
  refine ⟨_, pe_xfP i h T hno (pe_var hN hv hd hcd) hb, fun P G σ H ρ Q R C hK A hz hw hc => ?_⟩
  unfold wXf at hw
  cases e1 : ρ[i]? with
  | none => rw [e1] at hw; exact hw.elim
  | some s =>
    rw [e1] at hw
    cases s with
    | sh dd =>
      cases dd with
      | exc a d' ns ds =>
        obtain ⟨ea, ed, v, hl, q⟩ := hw
        subst ea ed
        obtain ⟨h1, xs, h2, _, _, rl⟩ := exc_slot A e1
        obtain ⟨x, hx, rx⟩ := rl.zipLook hl
        exact ⟨h1, _, x, h2, hx, hc G H (.val v) ρ x A (Same.refl G) rx q⟩
      | _ => exact hw.elim
    | _ => exact hw.elim
end
end Z

set_option maxHeartbeats 2000000
/-! where an error is handled: comprehensions over a range, defs called there, the catch -/
namespace Z
set_option autoImplicit false
open PySem PySem.Spec PyProof.Rows L2 HotX L2H
/-! ### a list comprehension over a range -/
structure TurnZ (P : Program) (w : World) (K : PySem.W.Frag) (tg : Expr) (J : It) (fp : List Addr) (it : Addr) (tn : Nat → Heap → Prop) : Prop where
  mem : it ∈ fp
  obj : ∀ i h, tn i h → ∀ b ∈ fp, ∃ o, h.get? b = some o ∧ ∀ v, o.data ≠ .cell v
  keep : ∀ i h h', tn i h → (∀ b ∈ fp, ∀ o, h.get? b = some o → h'.get? b = some o) → tn i h'
  item : ∀ (X : Cx), X.prog = P → X.w = w → X.K = K → ∀ (i : Nat) (pins : List (Addr × Obj)) (s : Shared) (σ : L2.St) (H : Hp) (E : Value → Shared → Prop), Inv X pins σ H s → (∀ b ∈ fp, FpOk X pins H b) → tn i s.heap → J.go i H →
    wpAny (model P w) X.A (pyNext (.ref it)) (fun r s1 => ∃ u, r = some u ∧
      wpAny (model P w) X.A (letOwnedTupleGo tg (.ref it) u) (fun _ s2 => ∃ x H', Inv X pins σ H' s2 ∧ L2.RelV x u ∧ J.yld i H x H' ∧ tn (i + 1) s2.heap ∧ ∀ b ∈ fp, H' b = none) E s1) E s
  done : ∀ (X : Cx), X.prog = P → X.w = w → X.K = K → ∀ (i : Nat) (pins : List (Addr × Obj)) (s : Shared) (σ : L2.St) (H : Hp) (E : Value → Shared → Prop) (x1 : Addr), HotAt X.A x1 s.heap → Inv X pins σ H s → (∀ b ∈ fp, FpOk X pins H b) → tn i s.heap → J.stop i H →
    wpAny (model P w) X.A (pyNext (.ref it)) (fun r s1 => r = none ∧ Inv X pins σ H s1) E s
  self : ∀ (A : Around) (i : Nat) (s : Shared) (Q : Value → Shared → Prop) (E : Value → Shared → Prop), tn i s.heap → Q (.ref it) s → wpAny (model P w) A (pyIter (.ref it)) Q E s
theorem turn_rangeZ {P : Program} {w : World} {K : PySem.W.Frag} {tg : Expr} (it : Addr) (lo : Int) (n : Nat) : TurnZ P w K tg (Itr lo n) [it] it (fun i h => IsRangeIter h it (lo + (i : Nat) * 1) ((n : Int) - (i : Nat)) 1) where
  mem := by simp
  obj := fun i h st b hb => by
    have e : b = it := by simpa using hb
    subst e
    exact ⟨_, st, fun v z => by
      have z' : Data.fields _ = Data.cell v := z
      cases z'⟩
  keep := fun i h h' st k => k it (by simp) _ st
  item := by
    intro X hP hw hK i pins s σ H E I hf st hg
    subst hP hw hK
    obtain ⟨f0, f1, f2, f3, f4, f5⟩ := hf it (by simp)
    have hlt : i < n := hg
    refine wpAny_pyNext_range_item st (by omega) fun h' st' sb => ?_
    have st2 : IsRangeIter h' it (lo + ((i + 1 : Nat) : Int) * 1) ((n : Int) - ((i + 1 : Nat) : Int)) 1 := by
      have e1 : lo + ((i : Nat) : Int) * 1 + 1 = lo + ((i + 1 : Nat) : Int) * 1 := by omega
      have e2 : (n : Int) - ((i : Nat) : Int) - 1 = (n : Int) - ((i + 1 : Nat) : Int) := by omega
      rw [← e1, ← e2]
      exact st'
    have I1 : Inv X pins σ H { s with heap := h', toks := s.toks + 1 } := I.turned (fun b o hb e => (sb.2 b hb).trans e) f0 f1 f3 f4 f5
    refine ⟨_, rfl, go_of (s := { s with heap := h', toks := s.toks + 1 }) (n := "range_iterator") st2 rfl rfl (by decide) ⟨.int (lo + i), H, I1, ⟨s.toks, ?_⟩, ⟨rfl, rfl⟩, st2, fun b hb => (hf b hb).1⟩⟩
    rw [Int.mul_one]
  done := by
    intro X hP hw hK i pins s σ H E x1 hot I hf st hg
    subst hP hw hK
    obtain ⟨f0, f1, f2, f3, f4, f5⟩ := hf it (by simp)
    exact pyNext_range_end_hot hot st (by have : n ≤ i := hg; omega) fun h' eb => ⟨rfl, I.turned (t' := s.toks) (fun b o _ e => eb b o e) f0 f1 f3 f4 f5⟩
  self := fun _ _ _ _ _ st h => wpAny_pyIter_rangeiter st h
def PIEZ (X : Cx) (pins : List (Addr × Obj)) (σ : L2.St) (tg : Expr) (R : It → Hp → Prop) (itv : Value) (s2 : Shared) : Prop :=
  ∃ (it : Addr) (fp : List Addr) (tn : Nat → Heap → Prop) (J : It) (H' : Hp), itv = .ref it ∧ Inv X pins σ H' s2 ∧ TurnZ X.prog X.w X.K tg J fp it tn ∧ tn 0 s2.heap ∧ (∀ b ∈ fp, FpOk X pins H' b) ∧ R J H'
structure PIZ (X : Cx) (tg iter : Expr) (wi : TI) : Prop where
  run : ∀ (pins : List (Addr × Obj)) (s : Shared) (σ : L2.St) (H : Hp) (R : It → Hp → Prop), Inv X pins σ H s → wi σ H R →
    wpAny (model X.prog X.w) X.A (eval iter X.env) (fun v s1 => wpAny (model X.prog X.w) X.A (pyIter v) (PIEZ X pins σ tg R) X.xe s1) X.xe s
section
variable {X : Cx} {tg : Expr}
theorem range_itZ {pins : List (Addr × Obj)} {σ : L2.St} {H : Hp} {s : Shared} {R : It → Hp → Prop} {E : Value → Shared → Prop} {lo hi : Int} {t u v : Tok} {tk : Nat} (I : Inv X pins σ H s) (h1 : -(2 ^ 62) ≤ lo) (h2 : lo < 2 ^ 62) (h3 : -(2 ^ 62) ≤ hi) (h4 : hi < 2 ^ 62)
    (q : R (Itr lo (hi - lo).toNat) H) : wpAny (model X.prog X.w) X.A (pyIter (.ref s.heap.objs.size)) (PIEZ X pins σ tg R) E { s with heap := s.heap.push { cls := .type "range", data := .fields #[.int lo t, .int hi u, .int 1 v] }, toks := tk } := by
  refine wpAny_pyIter_range (IsRange.new ..) (small_one h1 h2 h3 h4) ?_
  have I1 : Inv X pins σ H { s with heap := s.heap.push { cls := .type "range", data := .fields #[.int lo t, .int hi u, .int 1 v] }, toks := tk } := I.kept fun b o e => Heap.get?_push_of_some _ e
  refine ⟨(s.heap.push { cls := .type "range", data := .fields #[.int lo t, .int hi u, .int 1 v] }).objs.size, [(s.heap.push { cls := .type "range", data := .fields #[.int lo t, .int hi u, .int 1 v] }).objs.size], _, _, H, rfl,
    I1.kept (t' := tk) fun b o e => Heap.get?_push_of_some _ e, turn_rangeZ _ lo (hi - lo).toNat, ?_, fun b hb => ?_, q⟩
  · have e1 : lo + ((0 : Nat) : Int) * 1 = lo := by simp
    have e2 : (((hi - lo).toNat : Nat) : Int) - ((0 : Nat) : Int) = Builtin.Range.rangeSize lo hi 1 := by rw [rangeSize_one]; split <;> omega
    show IsRangeIter _ _ (lo + ((0 : Nat) : Int) * 1) ((((hi - lo).toNat : Nat) : Int) - ((0 : Nat) : Int)) 1
    rw [e1, e2]
    exact Heap.get?_push_size _ rfl
  · have e : b = (s.heap.push { cls := .type "range", data := .fields #[.int lo t, .int hi u, .int 1 v] }).objs.size := by simpa using hb
    subst e
    exact I1.fpOk (Nat.le_refl _) (I1.hok.fresh (Nat.le_refl _))
theorem pi_range1Z {a : Expr} {ta : TA} {p pos : Pos} (hg : Gl X "range") (hm : X.mg "range" = none) (ha : PA X [a] ta) (hs : starEach [a] X.env = [(false, eval a X.env)] := by rfl) : PIZ X tg (.Call (.Name "range" p) [a] [] pos) (iRng1 ta) := by
  refine ⟨fun pins s σ H R I h => ?_⟩
  refine Call_ (ld_blt I hg hm boot_range (PyProof.Rows.callWith_type1 (thn (ha.run pos pins s σ H _ I h) fun us s1 ⟨vs, H1, I1, r1, q1⟩ => ?_) hs rfl))
  obtain ⟨j, e, q1, q2, q⟩ := q1
  subst e
  cases r1 with
  | cons r rr =>
    cases rr
    obtain ⟨t, rfl⟩ := r
    exact call_range_1 (range_itZ I1 (by omega) (by omega) q1 q2 (by simpa using q))
theorem lcH_core {pins : List (Addr × Obj)} {s : Shared} {σ : L2.St} {H : Hp} {Q : VK} {elt iter : Expr} {ifs : List Expr} {scope : Scope} {own : List (Str × Nat)} {pos pos' : Pos} {wi : TI} {g : TG} {tt : TT} {te : TE} {use : Option (Value → Sem Unit)} {Qf : Value → Shared → Prop}
    (hc : HotC X) (hN : X.N.Nodup) (I : Inv X pins σ H s) (hi : PIZ X tg iter wi) (ok : BlkOk X.N X.env.scope scope own)
    (hg : ∀ (s : Shared) (H : Hp) (C : Addr) (cl : List (Str × Addr)) (fp : List Addr), PG (X.blk s H scope (compEnvC scope cl C X.env) fp) tg g) (ht : ∀ (s : Shared) (H : Hp) (C : Addr) (cl : List (Str × Addr)) (fp : List Addr), PTs (X.blk s H scope (compEnvC scope cl C X.env) fp) ifs tt)
    (he : ∀ (s : Shared) (H : Hp) (C : Addr) (cl : List (Str × Addr)) (fp : List Addr), PE (X.blk s H scope (compEnvC scope cl C X.env) fp) elt te) (hs : ∀ x, foldedSetIterable iter X.env x = pure x)
    (h : tLc wi g tt te (own.map (·.2)) σ H Q)
    (hRR : ∀ D C s' m H', Inv X pins σ H' s' → Q (.ref D) H' → s'.heap.Ns C m → FpOk X pins H' C → compPost (model X.prog X.w) X.A X.xe use Qf (.ref D) C (.ok .next) s') :
    wpAny (model X.prog X.w) X.A (comprehension (.ListComp elt [⟨tg, iter, ifs, 0⟩] scope pos) scope X.env pos' (newList []) false (eval iter X.env) use) Qf X.xe s := by
  obtain ⟨pe0, hot0, hpe⟩ := hc
  have hfree : ∀ y ∈ scope.names, y.2 = .free → ∃ c, X.env.cells.lookup y.1 = some c := fun y hy e => by
    rcases ok.free y hy e with k | k
    · exact I.ok.has _ (.inl k)
    · exact I.ok.has _ (.inr k)
  refine wpAny_comprehension_free (use := use) rfl hs (closure_ok hfree) ok.kind (fun y hy e => by rw [ok.uniq y hy, e])
    (thn (hi.run pins s σ H _ I h) fun xv s1 hx => thn hx fun itv s2 h2 => ?_)
  obtain ⟨it, fp, tn, J, H2, e, I2, T, st2, f2, q⟩ := h2
  subst e
  refine wpAny_newObj_type (newEnv_comp ?_) (by show 0 ≤ sizeLine; decide)
  generalize hD : s2.heap.objs.size = D
  have hDn : H2 D = none := I2.hok.fresh (Nat.le_of_eq hD)
  obtain ⟨W, ⟨m0, w0⟩, turn⟩ := q D hDn
  generalize hs3 : ({ s2 with heap := s2.heap.push { cls := .type "list", data := .seq ([] : List Value).toArray } } : Shared) = s3
  have I3 : Inv X pins σ (upd H2 D (.lst [])) s3 := by
    rw [← hs3]
    refine I2.laid (t' := s2.toks) (fun b o e => Heap.get?_push_of_some _ e) (Nat.le_of_eq hD) ⟨Nat.zero_le _, [], 0, .nil, ?_⟩
    rw [← hD]
    exact Heap.get?_push_size _ rfl
  have h3 : s3.heap = s2.heap.push { cls := .type "list", data := .seq ([] : List Value).toArray } := by rw [← hs3]
  have f3 : ∀ b ∈ fp, FpOk X pins (upd H2 D (.lst [])) b ∧ b < s3.heap.objs.size := fun b hb => by
    obtain ⟨o, eo, _⟩ := T.obj _ _ st2 b hb
    have hlt := Heap.lt_size eo
    refine ⟨⟨?_, (f2 b hb).2⟩, by rw [h3, Heap.size_push]; exact Nat.lt_succ_of_lt hlt⟩
    rw [upd_ne (by rw [← hD]; exact Nat.ne_of_lt hlt)]
    exact (f2 b hb).1
  have st3 : tn 0 s3.heap := T.keep _ _ _ st2 fun b _ o e => by rw [h3]; exact Heap.get?_push_of_some _ e
  have I4 := block_start I3 ok hN f3
  have pg := hg s3 (upd H2 D (.lst [])) s3.heap.objs.size (cellsFrom (s3.heap.objs.size + 1) scope.names (cloFrom X.env.cells scope.names [])) fp
  have pt := ht s3 (upd H2 D (.lst [])) s3.heap.objs.size (cellsFrom (s3.heap.objs.size + 1) scope.names (cloFrom X.env.cells scope.names [])) fp
  have pe := he s3 (upd H2 D (.lst [])) s3.heap.objs.size (cellsFrom (s3.heap.objs.size + 1) scope.names (cloFrom X.env.cells scope.names [])) fp
  show codeAny _ _ (.compStart (.ListComp elt [⟨tg, iter, ifs, 0⟩] scope pos) 0 (.ref it) (.ref D) (compEnvC scope (cellsFrom (s3.heap.objs.size + 1) scope.names (cloFrom X.env.cells scope.names [])) s3.heap.objs.size X.env)) (compPost (model X.prog X.w) X.A X.xe use Qf (.ref D) s3.heap.objs.size) { s3 with heap := pushCells (s3.heap.push { cls := .type "dict", data := .dict #[] }) scope.names }
  have nfp : ∀ b ∈ fp, (upd H2 D (.lst [])) b = none := fun b hb => (f3 b hb).1.1
  generalize hce : compEnvC scope (cellsFrom (s3.heap.objs.size + 1) scope.names (cloFrom X.env.cells scope.names [])) s3.heap.objs.size X.env = ce at I4 pg pt pe ⊢
  have cL : ce.locals = s3.heap.objs.size := by subst hce; rfl
  generalize hH3 : upd H2 D (.lst []) = H3 at I3 I4 pg pt pe w0 nfp f3
  generalize hs4 : ({ s3 with heap := pushCells (s3.heap.push { cls := .type "dict", data := .dict #[] }) scope.names } : Shared) = s4 at I4 ⊢
  have st4 : tn 0 s4.heap := T.keep _ _ _ st3 fun b _ o e => by rw [← hs4]; exact pushCells_keeps _ _ _ _ (Heap.get?_push_of_some _ e)
  have stat : ∀ {σ' : L2.St} {H' : Hp} {s' : Shared}, Inv (X.blk s3 H3 scope ce fp) [] σ' H' s' → (∀ b ∈ fp, H' b = none) → ∀ b ∈ fp, FpOk (X.blk s3 H3 scope ce fp) [] H' b := fun {σ' H' s'} I' hn b hb =>
    ⟨hn b hb, (I'.ok.exf b hb).1, I'.ok.exfs b hb, .inl hb, fun x c e => (I'.ok.exf b hb).2 x c e, fun p hp => absurd (show p ∈ ([] : List (Addr × Obj)) ++ [] from hp) (by simp)⟩
  -- the handled error stands all along
  have hot : ∀ {σ' : L2.St} {H' : Hp} {s' : Shared}, Inv (X.blk s3 H3 scope ce fp) [] σ' H' s' → HotAt X.A pe0.1 s'.heap := fun {σ' H' s'} I' => by
    obtain ⟨hh, vs1, e1, c1⟩ := hot0
    obtain ⟨g1, g2, g3, g4, _⟩ := I3.pin pe0 (List.mem_append_left _ hpe)
    refine ⟨hh, pe0.2, vs1, I'.base.keep pe0.1 pe0.2 g1 g2 (fun z => (List.mem_cons.mp (I3.stkSub _ z)).elim g3 g4) fun z => (f3 _ z).1.2.2.2.2.2 pe0 (List.mem_append_left _ hpe) rfl, e1, c1⟩
  have loop : codeAny (model X.prog X.w) X.A (.compLoop (.ListComp elt [⟨tg, iter, ifs, 0⟩] scope pos) 0 (.ref it) (.ref D) ce) (compPost (model X.prog X.w) X.A X.xe use Qf (.ref D) s3.heap.objs.size) s4 := by
    refine compLoop_any (fun n s' => ∃ i H', Inv (X.blk s3 H3 scope ce fp) [] (wipe σ (own.map (·.2))) H' s' ∧ tn i s'.heap ∧ (∀ b ∈ fp, H' b = none) ∧ W i n H') ?_ m0 ⟨0, H3, I4, st4, nfp, w0⟩
    rintro n s5 ⟨i, H5, I5, st5, n5, w5⟩
    rcases turn i n H5 w5 with ⟨stop, qq⟩ | ⟨go, Nx, hNx, step⟩
    · have td := T.done (X.blk s3 H3 scope ce fp) rfl rfl rfl i [] s5 _ H5 (fun _ _ => False) pe0.1 (hot I5) I5 (stat I5 n5) st5 stop
      refine thnF td fun r s6 ⟨hr, I6⟩ => ?_
      subst hr
      have I7 : Inv X pins σ H5 s6 := I3.call' (ch := fp) I6.os I6.base I6.hok I6.bare fun b hb => ⟨(f3 b hb).1.2.2.2.1, (f3 b hb).1.2.1, (f3 b hb).1.2.2.2.2.1, (f3 b hb).1.2.2.2.2.2⟩
      have nC : H5 s3.heap.objs.size = none := by
        have z : H5 ce.locals = none := I6.free
        rw [cL] at z
        exact z
      obtain ⟨m, hn, _⟩ := I6.loc
      have hn : s6.heap.Ns ce.locals m := hn
      rw [cL] at hn
      exact hRR D s3.heap.objs.size s6 m H5 I7 qq hn (I3.fpOk (Nat.le_refl _) nC)
    · have ti := T.item (X.blk s3 H3 scope ce fp) rfl rfl rfl i [] s5 _ H5 (fun _ _ => False) I5 (stat I5 n5) st5 go
      refine thnF ti fun r s6 ⟨u, hr, h6⟩ => ?_
      subst hr
      refine thnF h6 fun _ s7 ⟨x, H7, I7, r7, y7, st7, n7⟩ => ?_
      have I7' := I7.pinned (stat I7 n7) (T.obj _ _ st7)
      refine thnF (pg.run _ s7 _ H7 x u _ I7' r7 (step x H7 y7)) fun _ s8 ⟨σ8, H8, I8, hw8, q8⟩ => ?_
      refine thnF (pt.run _ s8 σ8 H8 _ I8 q8) fun b s9 ⟨H9, I9, q9⟩ => ?_
      have fin : ∀ {s' : Shared} {H' : Hp}, Inv (X.blk s3 H3 scope ce fp) ([] ++ pinsAt fp s7.heap) σ8 H' s' → Nx H' → ∃ m, m < n ∧ ∃ i H', Inv (X.blk s3 H3 scope ce fp) [] (wipe σ (own.map (·.2))) H' s' ∧ tn i s'.heap ∧ (∀ b ∈ fp, H' b = none) ∧ W i m H' := fun {s' H'} I' nx => by
        obtain ⟨m', hm, w'⟩ := hNx H' nx
        have pin' : ∀ b ∈ fp, ∀ o, s7.heap.get? b = some o → s'.heap.get? b = some o ∧ H' b = none := fun b hb o e =>
          let z := I'.pin (b, o) (List.mem_append_right _ (List.mem_append_right _ (mem_pinsAt hb e)))
          ⟨z.1, z.2.1⟩
        have hl : (wipe σ (own.map (·.2))).length = σ8.length := by rw [← hw8, L2.wipe_length]
        refine ⟨m', hm, i + 1, H', (I'.unpinned (pins := [])).weak hl (fun j v e => ?_), T.keep _ _ _ st7 fun b hb o e => (pin' b hb o e).1, fun b hb => ?_, w'⟩
        · rw [← hw8] at e
          exact (L2.wipe_some e).1
        · obtain ⟨o, e, _⟩ := T.obj _ _ st7 b hb
          exact (pin' b hb o e).2
      cases b with
      | false =>
        simp only [Bool.false_eq_true, if_false] at q9 ⊢
        exact fin I9 q9
      | true =>
        simp only [if_true] at q9 ⊢
        refine thnF (pe.run _ s9 σ8 H9 _ I9 q9) fun z s10 ⟨yv, H10, I10, r10, acc, hD10, hz10, nx⟩ => ?_
        exact app_ok (X := X.blk s3 H3 scope ce fp) I10 hD10 hz10 r10 fun s11 I11 => fin I11 nx
  exact codeAny_compStart_list loop (T.self X.A 0 _ _ _ st4 loop)
theorem ps_setLcH {i : Nat} {y : Str} {py : Pos} {elt iter : Expr} {ifs : List Expr} {scope : Scope} {own : List (Str × Nat)} {pos spos : Pos} {wi : TI} {g : TG} {tt : TT} {te : TE} (hc : HotC X) (hN : X.N.Nodup) (hy : X.N[i]? = some y) (hyl : X.env.scope.names.lookup y = some .local)
    (hsw : swapsWith (.ListComp elt [⟨tg, iter, ifs, 0⟩] scope pos) (some (.Name y py)) spos.line X.env = pure true) (hi : PIZ X tg iter wi) (ok : BlkOk X.N X.env.scope scope own)
    (hg : ∀ (s : Shared) (H : Hp) (C : Addr) (cl : List (Str × Addr)) (fp : List Addr), PG (X.blk s H scope (compEnvC scope cl C X.env) fp) tg g) (ht : ∀ (s : Shared) (H : Hp) (C : Addr) (cl : List (Str × Addr)) (fp : List Addr), PTs (X.blk s H scope (compEnvC scope cl C X.env) fp) ifs tt)
    (he : ∀ (s : Shared) (H : Hp) (C : Addr) (cl : List (Str × Addr)) (fp : List Addr), PE (X.blk s H scope (compEnvC scope cl C X.env) fp) elt te) (hs : ∀ x, foldedSetIterable iter X.env x = pure x := by intro _; rfl) :
    PS X (.Assign [.Name y py] (.ListComp elt [⟨tg, iter, ifs, 0⟩] scope pos) spos) (tAsg (tLc wi g tt te (own.map (·.2))) (gName i)) := by
  refine ⟨fun pins s σ H D I h => ?_⟩
  rw [exec_Assign_Name_used _ _ _ _ hsw]
  refine wpAny_bind (wpAny_standAt (wpAny_bind ?_))
  show wpAny _ X.A (do let _ ← comprehension (.ListComp elt [⟨tg, iter, ifs, 0⟩] scope pos) scope X.env (firstIterPos [⟨tg, iter, ifs, 0⟩] pos) (newList []) false (eval iter X.env) (some (assign (.Name y py) X.env))) _ _ s
  have h : tLc wi g tt te (own.map (·.2)) σ H (fun x H1 => gName i x σ H1 D.nx) := h
  refine wpAny_bind (thn (lcH_core (Qf := fun _ s' => SP X pins D .next s') hc hN I hi ok hg ht he hs h fun L C s' m H' I' q hn f => ?_) fun _ s' hq => wpAny_pure (wpAny_pure hq))
  show wpAny _ _ (assign (.Name y py) X.env (.ref L)) _ _ _
  refine wpAny_assign_Name (store_ok2 (v := V.ref L) I' hN hy (.inl hyl) rfl (fun s2 I2 ⟨a, sb, ha⟩ => ?_) (.inr hyl))
  obtain ⟨f0, f1, f2, f3, f4, f5⟩ := f
  have haC : C ≠ a := by
    rcases ha with z | z
    · rw [z]; exact f1
    · exact fun e => f4 y a z e.symm
  refine ⟨m, hn.sameBut sb haC, fun h3 sb3 => ?_⟩
  exact ⟨_, H', I2.turned (t' := s2.toks) (fun b o hb e => (sb3.2 b hb).trans e) f0 f1 f3 f4 f5, q⟩
theorem pe_lcH {elt iter : Expr} {ifs : List Expr} {scope : Scope} {own : List (Str × Nat)} {pos : Pos} {wi : TI} {g : TG} {tt : TT} {te : TE} (hc : HotC X) (hN : X.N.Nodup) (hi : PIZ X tg iter wi) (ok : BlkOk X.N X.env.scope scope own)
    (hg : ∀ (s : Shared) (H : Hp) (C : Addr) (cl : List (Str × Addr)) (fp : List Addr), PG (X.blk s H scope (compEnvC scope cl C X.env) fp) tg g) (ht : ∀ (s : Shared) (H : Hp) (C : Addr) (cl : List (Str × Addr)) (fp : List Addr), PTs (X.blk s H scope (compEnvC scope cl C X.env) fp) ifs tt)
    (he : ∀ (s : Shared) (H : Hp) (C : Addr) (cl : List (Str × Addr)) (fp : List Addr), PE (X.blk s H scope (compEnvC scope cl C X.env) fp) elt te) (hs : ∀ x, foldedSetIterable iter X.env x = pure x := by intro _; rfl) :
    PE X (.ListComp elt [⟨tg, iter, ifs, 0⟩] scope pos) (tLc wi g tt te (own.map (·.2))) := by
  refine ⟨fun pins s σ H Q I h => ?_⟩
  rw [eval_ListComp]
  refine lcH_core hc hN I hi ok hg ht he hs h fun D C s' m H' I' q hn f => ⟨m, hn, fun h'' sb => ?_⟩
  obtain ⟨f0, f1, f2, f3, f4, f5⟩ := f
  exact ⟨.ref D, H', I'.turned (t' := s'.toks) (fun b o hb e => (sb.2 b hb).trans e) f0 f1 f3 f4 f5, rfl, q⟩
end
end Z

set_option maxHeartbeats 2000000
namespace Z
set_option autoImplicit false
open PySem PySem.Spec PyProof.Rows L2 HotX L2H
/-! ### defs called where an error is handled: what they promise of this very error -/
structure FnP (P : Program) (w : World) (K : PySem.W.Frag) (mg : Str → Option Value) (base : Heap) (CX : CXT) (k : Nat) (f : Addr) (fd : FuncData) (ps : List Str) (sp : Addr × Obj → Sp) : Prop where
  len : ∀ p vs H Q E, sp p vs H Q E → vs.length = ps.length
  run : ∀ (A : Around) (outer : List Env) (s : Shared) (H : Hp) (args : Args) (us : List Value) (vs : List V) (Q : VK) (E : XK) (p : Addr × Obj), RoomH k A → Hot1 A p → PinOk outer H s p → Env0 P w K mg base A outer s H → BindsTo s fd args (ps.zip us) → Vals vs us → sp p vs H Q E →
    codeAny (model P w) A (.call (.ref f) args) (CR CX outer P w H s Q E) s
section
variable {CX : CXT} {P : Program} {w : World} {K : PySem.W.Frag} {mg : Str → Option Value} {base : Heap} {k : Nat} {f : Addr} {x qual : Str} {params : Arguments} {body : List Stmt} {scope : Scope} {fd : FuncData} {dvs : List V} {kws : List (Str × V)} {N ps : List Str} {sp : Addr × Obj → Sp}
theorem fn_ofP (F : FunD K x qual params body scope dvs kws f fd) (S : FnScope N ps scope) (len : ∀ p vs H Q E, sp p vs H Q E → vs.length = ps.length)
    (hbody : ∀ (cdv : Value) (A : Around) (outer : List Env) (s : Shared) (H : Hp) (vs : List V) (Q : VK) (E : XK) (p : Addr × Obj), Hot1 A p → RoomH k (A.deeper (envOfC qual scope s.heap.objs.size f cdv)) → sp p vs H Q E →
      ∃ t, PSs (cxH CX P w K mg base N qual scope f cdv A outer s H E p) body t ∧ t { nx := fun _ H' => Q .non H', rt := Q } (L2.start N vs) H) : FnP P w K mg base CX (k + 1) f fd ps sp := by
  obtain ⟨oc, od, dV, kV, doc, pm, an, cdv, ct, osl, rfl, lk, hcd, _, _⟩ := F.ex
  refine ⟨len, fun A outer s H args us vs Q E p hr hot hpin e0 hb r hsp => ?_⟩
  have keepB : ∀ b o, base.get? b = some o → s.heap.get? b = some o := fun b o e => (e0.bs b o e).1
  have KX : K.In s.heap := e0.mod.kin.keeps keepB
  have hkind : ∀ y ∈ ps.zip us, scope.names.lookup y.1 = some .local ∨ (scope.names.lookup y.1 = some .cell ∧ ((cellsFrom (s.heap.objs.size + 1) scope.names []).lookup y.1).isSome = true) := fun ⟨n, v⟩ hy =>
    (S.par n (List.of_mem_zip hy).1).elim .inl fun q => .inr ⟨q, PySem.W.cellsFrom_some _ _ _ (.inl q)⟩
  refine codeAny_call_function hr.depth (KX _ _ lk) rfl S.co S.gen rfl (PySem.W.codeRec_of KX hcd) (hb _ _ _ _ (wpAny_newFunctionEnv_cells S.kind hkind fun env he s1 x1 => ?_))
  subst he
  refine ⟨(e0.mod.nolimit.keeps keepB).keeps x1.toInCall.keep, codeAny_func ?_⟩
  obtain ⟨t, ht, hq⟩ := hbody cdv A outer s H vs Q E p hot (hr.deeper _) hsp
  have I : Inv (cxH CX P w K mg base N qual scope f cdv A outer s H E p) [] (L2.start N vs) H s1 := inv_startH S hpin e0 (len _ _ _ _ _ hsp) r x1
  refine wpAny_mono (ht.run [] s1 (L2.start N vs) H _ I hq) (fun fl s' hs => ?_) fun e s' hs => hs
  have fin : ∀ {σ' : L2.St} {H' : Hp} {v : V} {u : Value}, Inv (cxH CX P w K mg base N qual scope f cdv A outer s H E p) [] σ' H' s' → L2.RelV v u → Q v H' → CE outer P w H s Q u s' :=
    fun {σ' H' v u} J rv q => ⟨v, H', J.os, J.bare, J.base, J.hok, rv, q⟩
  cases fl with
  | ret u => obtain ⟨v, σ', H', J, rv, q⟩ := hs; exact fin J rv q
  | next => obtain ⟨σ', H', J, q⟩ := hs; exact fin (v := V.non) (u := Value.none) J rfl q
  | brk => obtain ⟨_, _, _, q⟩ := hs; exact False.elim q
  | cont => obtain ⟨_, _, _, q⟩ := hs; exact False.elim q
end
section
variable {X : Cx} {CX : CXT} {k : Nat} {f : Addr} {fd : FuncData} {ps : List Str} {sp : Addr × Obj → Sp} {E : L2.St → XK} {x : Str} {q pos : Pos} {e : Expr} {es : List Expr} {t : TA} {p : Addr × Obj}
theorem pe_callP (F : FnP X.prog X.w X.K X.mg X.base CX k f fd ps sp) (hr : RoomH k X.A) (hot : Hot1 X.A p) (hp : p ∈ X.pn) (hg : Gl X x) (hm : X.mg x = some (.ref f)) (hk : PySem.W.keepIn X.K (.ref f) = true) (hb : Binds X.K fd ps []) (hx : ∀ σ, PassesAt CX X σ (E σ))
    (ha : PA X (e :: es) t) (hdb : (x == ("__debug__" : Str)) = false := by decide) (he : starEach (e :: es) X.env = (false, eval e X.env) :: starEach es X.env := by rfl) (hpl : (backTo pos (starEach es X.env)).any (·.1) = false := by rfl) :
    PE X (.Call (.Name x q) (e :: es) [] pos) (tCallS (sp p) E t) := by
  refine ⟨fun pins s σ H Q I h => ?_⟩
  refine wpAny_Call_Name_kw (ld_glob I hg hm ?_ hdb)
  refine PySem.W.callWith_K (h₀ := X.base) I.ok.mod.kin hk (thn (ha.run pos pins s σ H _ I h) fun us s1 ⟨vs, H1, I1, r, hsp⟩ => ⟨I1.kIn, ?_⟩) he hpl
  have hl : us.length = ps.length := by rw [← r.length]; exact F.len _ _ _ _ _ hsp
  have b := hb s1 us I1.kIn (by rw [List.append_nil]; exact hl)
  rw [List.append_nil] at b
  obtain ⟨g1, g2, g3, g4, g5⟩ := I1.pin p (List.mem_append_left _ hp)
  have hpin : PinOk X.stack H1 s1 p := ⟨g1, g2, fun hm => (List.mem_cons.mp (I1.stkSub p.1 hm)).elim g3 g4, g5⟩
  refine wpAny_call (codeAny_mono (F.run X.A X.stack s1 H1 ⟨us, []⟩ us vs Q (E σ) p hr hot hpin I1.env0 b r hsp) fun r s' hq => ?_)
  cases r with
  | error e => exact hx σ pins H1 s1 e s' I1 hq
  | ok fl =>
    cases fl with
    | ret u => exact I1.after hq
    | next => exact False.elim hq
    | brk => exact False.elim hq
    | cont => exact False.elim hq
end
structure CalH (P : Program) (w : World) (K : PySem.W.Frag) (mg : Str → Option Value) (base : Heap) (x : Str) (k : Nat) (S : Addr → Str → Addr → Sp2) : Prop where
  ex : ∃ f fd ps, FnP P w K mg base (L2N.CX P w) k f fd ps (fun p vs H Q E => ∃ cls d, (Zc (.ref (gAdr K cls)) (some d) p.2 ∧ ∃ vs, p.2.data = .fields vs) ∧ toSp K false (S p.1 cls d) vs H Q E) ∧ mg x = some (.ref f) ∧ PySem.W.keepIn K (.ref f) = true ∧ Binds K fd ps []
section
variable {P : Program} {w : World} {K : PySem.W.Frag} {mg : Str → Option Value} {base : Heap} {x : Str} {k : Nat} {S : Addr → Str → Addr → Sp2}
theorem cal_ofH {sd : Stmt} {N ps : List Str} (F : DefAt K mg x sd ps) (Sc : FnScope N ps (defScope sd)) (len : ∀ a cls d ds Q R, S a cls d ds Q R → ds.length = ps.length)
    (hb : ∀ (f : Addr) (cdv : Value) (A : Around) (outer : List Env) (s : Shared) (H : Hp) (E : XK) (p : Addr × Obj) (cls : Str) (d : Addr), L2N.Takes (cxH (L2N.CX P w) P w K mg base N x (defScope sd) f cdv A outer s H E p) (wE E) →
      PassesOwn (model P w) (A.deeper (envOfC x (defScope sd) s.heap.objs.size f cdv)) (envOfC x (defScope sd) s.heap.objs.size f cdv) (cxH (L2N.CX P w) P w K mg base N x (defScope sd) f cdv A outer s H E p).xe →
      RoomH k (A.deeper (envOfC x (defScope sd) s.heap.objs.size f cdv)) → Held (cxH (L2N.CX P w) P w K mg base N x (defScope sd) f cdv A outer s H E p) p cls d → HotC (cxH (L2N.CX P w) P w K mg base N x (defScope sd) f cdv A outer s H E p) →
      ∃ w2, PSs2 (cxH (L2N.CX P w) P w K mg base N x (defScope sd) f cdv A outer s H E p) (wE E) (defBody sd) w2 ∧ ∀ ds Q R, S p.1 cls d ds Q R → w2 (fun _ => Q (.val .non)) { rt := Q, ex := fun x _ => R x } (start2 false N ds)) : CalH P w K mg base x (k + 1) S := by
  obtain ⟨f, fd, F1, F2, F3⟩ := F.ex
  refine ⟨f, fd, ps, fn_ofP F1 Sc (fun p vs H Q E h => ?_) (fun cdv A outer s H vs Q E p hot hr h => ?_), F2, F1.kp, F3⟩
  · obtain ⟨cls, d, _, L, G, st, ds, ws, Q2, R2, c, hv, r, hs, _⟩ := h
    rw [← len _ _ _ ds Q2 R2 hs, r.length, show vs = ws from hv.2]
  · obtain ⟨cls, d, ⟨hz, hfld⟩, L, G, st, ds, ws, Q2, R2, c, hv, r, hs, hq, he⟩ := h
    have hot' : Hot1 (A.deeper (envOfC x (defScope sd) s.heap.objs.size f cdv)) p := ⟨hot.1, hot.2⟩
    obtain ⟨w2, hp, vc⟩ := hb f cdv A outer s H E p cls d (L2N.takes_of rfl rfl rfl rfl) (passes_of rfl) hr ⟨List.mem_singleton_self p, hz, hfld⟩ ⟨p, hot', List.mem_singleton_self p⟩
    obtain ⟨t, h1, r1⟩ := hp.ex
    refine ⟨t, h1, r1 (callP K L G H st) G _ H _ (fun _ => Q2 (.val .non)) { rt := Q2, ex := fun x _ => R2 x } _ rfl (abs_start c hv r) ⟨fun G' σ' H' ρ' A' s' q => ?_, fun G' H' r v B s' o q => hq G' H' r v B s' o q, fun _ _ _ _ _ _ q => False.elim q, fun _ _ _ _ _ _ q => False.elim q, fun G' σ' H' ρ' x cls dd A' s' e q => he G' H' x cls dd A'.toBas s' e q⟩ (vc ds Q2 R2 hs)⟩
    exact hq G' H' (.val .non) .non A'.toBas s' rfl q
end
section
variable {X : Cx} {W : WX} {k : Nat} {x : Str} {q pos : Pos} {e : Expr} {es : List Expr} {p : Addr × Obj} {cls : Str} {d : Addr}
theorem pe2_fnH {a : Addr} {oe : Obj} {S : Addr → Str → Addr → Sp2} {wa : A2} (tk : L2N.Takes X W) (F : CalH X.prog X.w X.K X.mg X.base x k S) (hr : RoomH k X.A) (h : Held X (a, oe) cls d) (hot : Hot1 X.A (a, oe)) (ha : PA2 X W (e :: es) wa)
    (hg : Gl X x := by rfl) (hdb : (x == ("__debug__" : Str)) = false := by decide) (he : starEach (e :: es) X.env = (false, eval e X.env) :: starEach es X.env := by rfl) (hpl : (backTo pos (starEach es X.env)).any (·.1) = false := by rfl) :
    PE2 X W (.Call (.Name x q) (e :: es) [] pos) (wCall (S a cls d) wa) := by
  obtain ⟨f, fd, ps, F1, hm, hk, hb⟩ := F.ex
  obtain ⟨t, h1, r1⟩ := ha.ex
  refine ⟨_, pe_callP (p := (a, oe)) F1 hr hot h.mem hg hm hk hb (fun σ => L2N.passAt tk σ) h1 hdb he hpl, fun P G σ H ρ Q R C hK A hz hw hc => ?_⟩
  refine r1 P G σ H ρ _ R _ hK A hz hw fun G1 H1 ds ρ1 vs A1 s1 o1 q1 => ?_
  rw [hK] at o1
  refine ⟨cls, d, ⟨h.z, h.f⟩, P.L, G1, none, ds, vs, _, _, by rw [← hK]; exact A1.callIn, ⟨rfl, rfl⟩, o1, q1, fun G' H' r v B s o q => ?_, fun G' H' x cls dd B s e q => ?_⟩
  · rw [← hK] at B o
    exact hc G' H' r ρ1 v (A1.behind (.inl rfl) B s) (s1.trans s) (A1.behindR (.inl rfl) o) q
  · rw [← hK] at B e
    exact hz G' H' ρ1 x cls dd (A1.behind (.inl rfl) B s) (s1.trans s) e q
end
/-! ### the catch -/
theorem Abs.drop {p : Par} {G H : Hp} {σ : L2.St} {ρ : List Sl} (A : Abs p G σ H ρ) (i : Nat) : Abs p G (σ.set i none) H (ρ.set i .un) := by
  have h := (A.forget i).wiped (vs := [i]) (σ' := σ.set i none) (List.length_set ..) fun j hj => List.getElem?_set_ne fun z => hj (by rw [z]; exact List.mem_singleton_self _)
  have e : wipe2 (ρ.set i .un) [i] = ρ.set i .un := by
    unfold wipe2 wipe2
    rw [List.set_set]
  rw [e] at h
  exact h
theorem FsRep.zip : ∀ {l : List (Str × D)} {fs : List (Str × V)}, FsRep l fs → ∃ xs, fs = (l.map (·.1)).zip xs ∧ (l.map (·.1)).length = (l.map (·.2)).length ∧ ∀ (K : PySem.W.Frag) (G : Hp), RepL K G (l.map (·.2)) xs
  | [], fs, h => ⟨[], by rw [show fs = [] from h]; rfl, rfl, fun _ _ => rfl⟩
  | (n, dd) :: l, fs, ⟨v, t, e, f, rv, r⟩ => by
    obtain ⟨xs, e1, e2, e3⟩ := FsRep.zip r
    refine ⟨v :: xs, by rw [e, e1]; rfl, by rw [List.length_map, List.length_map], fun K G => ⟨v, xs, rfl, ?_, e3 K G⟩⟩
    cases dd <;> first | exact rv | (exact Bool.noConfusion f)
def tryE (i : Nat) (known : Str → Option Bool) (ws : Addr → Str → Addr → TS2) (nx : List Sl → Prop) (D : E2) : E2 := { D with ex := fun x ρ' => match known x.cls with
  | some true => ∀ a d, ws a x.cls d (fun ρ2 => nx (ρ2.set i .un)) { rt := D.rt, bk := fun ρ2 => D.bk (ρ2.set i .un), ct := fun ρ2 => D.ct (ρ2.set i .un) } (ρ'.set i (.sh (.exc a d (x.fs.map (·.1)) (x.fs.map (·.2)))))
  | some false => D.ex x ρ'
  | none => False }
def wTry (i : Nat) (known : Str → Option Bool) (wb : TS2) (ws : Addr → Str → Addr → TS2) : TS2 := fun nx D ρ => wb nx (tryE i known ws nx D) ρ
section
variable {X : Cx} {W : WX} {x n : Str} {c : Value} {body suite : List Stmt} {b0 : Stmt} {np pos pos' : Pos} {wb : TS2} {ws : Addr → Str → Addr → TS2}
theorem ps2_try (i : Nat) (hs : X.stack = X.env :: X.outer) (hf : X.env.frame = some X.env.locals) (hN : X.N.Nodup) (tk : L2N.Takes X W) (hc : Names X x c) (known : Str → Option Bool) (hk : ∀ cls b, known cls = some b → PySem.W.exmOne X.K (.ref (gAdr X.K cls)) c = some b)
    (hb : ∀ (W' : WX) (pn : List (Addr × Obj)) (xe : Value → Shared → Prop), L2N.Takes (X.tr pn xe) W' → PassesOwn (model X.prog X.w) X.A X.env xe → PSs2 (X.tr pn xe) W' body wb)
    (hsu : ∀ (a : Addr) (oe : Obj) (cls : Str) (d : Addr) (pn : List (Addr × Obj)), Held (X.suite a ((a, oe) :: pn)) (a, oe) cls d → Hot1 (X.suite a ((a, oe) :: pn)).A (a, oe) → PSs2 (X.suite a ((a, oe) :: pn)) W0 (b0 :: suite) (ws a cls d))
    (hi : X.N[i]? = some n := by rfl) (hln : X.env.kindOf n = some .local := by rfl) :
    PS2 X W (.Try body [.ExceptHandler (some (.Name x np)) (some n) (b0 :: suite) pos'] [] [] pos) (wTry i known wb ws) := by
  let tb : WX → TS := fun W' D σ H => ∀ (pn : List (Addr × Obj)) (xe : Value → Shared → Prop) (h1 : L2N.Takes (X.tr pn xe) W') (h2 : PassesOwn (model X.prog X.w) X.A X.env xe), (hb W' pn xe h1 h2).ex.choose D σ H
  let ts : Addr → Value → Option Addr → TS := fun a cls d D σ H => ∃ cn d', cls = .ref (gAdr X.K cn) ∧ d = some d' ∧ ∀ (oe : Obj) (pn : List (Addr × Obj)) (hh : Held (X.suite a ((a, oe) :: pn)) (a, oe) cn d') (ho : Hot1 (X.suite a ((a, oe) :: pn)).A (a, oe)), (hsu a oe cn d' pn hh ho).ex.choose D σ H
  refine ⟨fun D σ H => tb (wAs X.K c i ts W D) D σ H, L2N.ps_try_as hs hf hN hi hln hc tk (fun W' pn xe h1 h2 => ⟨fun pins s σ H D I h => (hb W' pn xe h1 h2).ex.choose_spec.1.run pins s σ H D I (h pn xe h1 h2)⟩) (fun a oe cls d pn hz hv => ⟨fun pins s σ H D I h => ?_⟩), fun p G σ H ρ nx D2 D hK A E hw => ?_⟩
  · obtain ⟨cn, d', e1, e2, h⟩ := h
    subst e1 e2
    have hh : Held (X.suite a ((a, oe) :: pn)) (a, oe) cn d' := ⟨List.mem_cons_self, hz.zc, hv⟩
    obtain ⟨vs, ev⟩ := hv
    have ho : Hot1 (X.suite a ((a, oe) :: pn)).A (a, oe) := ⟨rfl, vs, ev, hz.2.2 vs ev⟩
    exact (hsu a oe cn d' pn hh ho).ex.choose_spec.1.run pins s σ H D I (h oe pn hh ho)
  · intro pn xe h1 h2
    refine (hb _ pn xe h1 h2).ex.choose_spec.2 p G σ H ρ nx (tryE i known ws nx D2) D hK A ⟨E.nx, E.rt, E.bk, E.ct, fun G' σ' H' ρ' ee cls dd A' s' e q => ?_⟩ hw
    obtain ⟨ec, d', fs, ed, hg, hfs⟩ := e
    have q : (match known ee.cls with
      | some true => ∀ a d, ws a ee.cls d (fun ρ2 => nx (ρ2.set i .un)) { rt := D2.rt, bk := fun ρ2 => D2.bk (ρ2.set i .un), ct := fun ρ2 => D2.ct (ρ2.set i .un) } (ρ'.set i (.sh (.exc a d (ee.fs.map (·.1)) (ee.fs.map (·.2)))))
      | some false => D2.ex ee ρ'
      | none => False) := q
    cases hkn : known ee.cls with
    | none => rw [hkn] at q; exact q.elim
    | some b =>
      rw [hkn] at q
      refine ⟨b, by rw [ec, hK]; exact hk _ _ hkn, fun hbt a ha => ?_, fun hbf => ?_⟩
      · subst hbt
        obtain ⟨xs, f1, f2, f3⟩ := hfs.zip
        refine ⟨ee.cls, d', by rw [ec, hK], ed, fun oe pn hh ho => ?_⟩
        have ro : ResOk p G' H' σ' ρ' (.val (.exc a d' (ee.fs.map (·.1)) (ee.fs.map (·.2)))) (.ref a) := ⟨rfl, xs, by rw [hg, f1], f2, f3 _ _⟩
        exact (hsu a oe ee.cls d' pn hh ho).ex.choose_spec.2 p G' _ H' _ (fun ρ2 => nx (ρ2.set i .un)) { rt := D2.rt, bk := fun ρ2 => D2.bk (ρ2.set i .un), ct := fun ρ2 => D2.ct (ρ2.set i .un) } _ hK (A'.store (i := i) ro)
          ⟨fun G2 σ2 H2 ρ2 A2 s2 q2 => E.nx G2 _ H2 _ (A2.drop i) (s'.trans s2) q2, fun G2 H2 r v B s2 o q2 => E.rt G2 H2 r v B (s'.trans s2) o q2, fun G2 σ2 H2 ρ2 A2 s2 q2 => E.bk G2 _ H2 _ (A2.drop i) (s'.trans s2) q2,
            fun G2 σ2 H2 ρ2 A2 s2 q2 => E.ct G2 _ H2 _ (A2.drop i) (s'.trans s2) q2, fun _ _ _ _ _ _ _ _ _ _ q2 => q2.elim⟩ (q a d')
      · subst hbf
        exact E.ex G' σ' H' ρ' ee cls dd A' s' ⟨ec, d', fs, ed, hg, hfs⟩ q
end
/-! ### the hot comprehension by values -/
structure PIZ2 (X : Cx) (W : WX) (tg iter : Expr) (w : I2) : Prop where
  ex : ∃ wi, PIZ X tg iter wi ∧ ∀ (p : Par) (G : Hp) (σ : L2.St) (H : Hp) (ρ : List Sl) (Q : List D → List Sl → Prop) (R : RX) (C : It → Hp → Prop), p.K = X.K → Abs p G σ H ρ → RzOk p W σ G R → w ρ Q R →
    (∀ G' H' ds J ρ', Abs p G' σ H' ρ' → Same G G' → It2 p J ds G' → Q ds ρ' → C J H') → wi σ H C
section
variable {X : Cx} {W : WX}
theorem piz2_range1 {tg a : Expr} {p pos : Pos} {w : O2} (hm : X.mg "range" = none) (ha : PB2 X W a w) (hg : Gl X "range" := by rfl) (hs : starEach [a] X.env = [(false, eval a X.env)] := by rfl) : PIZ2 X W tg (.Call (.Name "range" p) [a] [] pos) (wRng1 w) := by
  obtain ⟨t, h1, r1⟩ := ha.ex
  refine ⟨_, pi_range1Z hg hm (pa_cons h1 pa_nil hs) hs, fun p G σ H ρ Q R C hK A hz hw hc => ?_⟩
  refine r1 p G σ H ρ _ R _ hK A hz hw fun G1 H1 b1 ρ1 v1 A1 s1 o1 q1 => ?_
  cases e1 : bD ρ1 b1 with
  | none => rw [e1] at q1; exact q1.elim
  | some d =>
    rw [e1] at q1
    have bo := A1.opd o1 e1
    cases d with
    | int j =>
      have ev : v1 = .int j := bo
      subst ev
      exact ⟨j, rfl, q1.1.1, q1.1.2, hc G1 H1 _ _ ρ1 A1 s1 (it2_range 0 j.toNat) q1.2⟩
    | _ => exact q1.elim
theorem ps2_setLcH (i : Nat) {y : Str} {py : Pos} {elt tg iter : Expr} {ifs : List Expr} {scope : Scope} {own : List (Str × Nat)} {pos spos : Pos} {wi : I2} {g : TG2} {wt : T2} {we : V2} {sl : List Nat} (hc : HotC X) (hN : X.N.Nodup)
    (hsw : swapsWith (.ListComp elt [⟨tg, iter, ifs, 0⟩] scope pos) (some (.Name y py)) spos.line X.env = pure true) (hi : PIZ2 X W tg iter wi) (ok : BlkOk X.N X.env.scope scope own)
    (hg : InBlk X scope fun Y => PG2 Y tg sl g) (ht : InBlk X scope fun Y => PTs2 Y W0 ifs wt) (he : InBlk X scope fun Y => PV2 Y W0 elt we) (hy : X.N[i]? = some y := by rfl) (hyl : X.env.scope.names.lookup y = some .local := by rfl) (hsl : ∀ i, i ∈ sl → i ∈ own.map (·.2) := by decide) (hs : ∀ x, foldedSetIterable iter X.env x = pure x := by intro _; rfl) :
    PS2 X W (.Assign [.Name y py] (.ListComp elt [⟨tg, iter, ifs, 0⟩] scope pos) spos) (wSet i (wLc wi g wt we (own.map (·.2)))) := by
  obtain ⟨ti, h1, ri⟩ := hi.ex
  obtain ⟨tg', h2, rg⟩ := unif_g hg
  obtain ⟨tt, h3, rt⟩ := unif_t ht
  obtain ⟨te, h4, re⟩ := unif_e he
  refine ⟨_, ps_setLcH hc hN hy hyl hsw h1 ok h2 h3 h4 hs, fun p G σ H ρ nx D2 D hK A E hw => ?_⟩
  exact lc_sound (W := W) hsl ri rg rt re p G σ H ρ _ D2.ex _ hK A (E.rz σ) hw fun G' H' r ρ' v A' s o q => E.nx G' _ H' _ (A'.store o) s q
theorem pe2_lcH {elt tg iter : Expr} {ifs : List Expr} {scope : Scope} {own : List (Str × Nat)} {pos : Pos} {wi : I2} {g : TG2} {wt : T2} {we : V2} {sl : List Nat} (hc : HotC X) (hN : X.N.Nodup) (hi : PIZ2 X W tg iter wi) (ok : BlkOk X.N X.env.scope scope own)
    (hg : InBlk X scope fun Y => PG2 Y tg sl g) (ht : InBlk X scope fun Y => PTs2 Y W0 ifs wt) (he : InBlk X scope fun Y => PV2 Y W0 elt we) (hsl : ∀ i, i ∈ sl → i ∈ own.map (·.2) := by decide) (hs : ∀ x, foldedSetIterable iter X.env x = pure x := by intro _; rfl) :
    PE2 X W (.ListComp elt [⟨tg, iter, ifs, 0⟩] scope pos) (wLc wi g wt we (own.map (·.2))) := by
  obtain ⟨ti, h1, ri⟩ := hi.ex
  obtain ⟨tg', h2, rg⟩ := unif_g hg
  obtain ⟨tt, h3, rt⟩ := unif_t ht
  obtain ⟨te, h4, re⟩ := unif_e he
  exact ⟨_, pe_lcH hc hN h1 ok h2 h3 h4 hs, lc_sound hsl ri rg rt re⟩
end
end Z

set_option maxHeartbeats 2000000
namespace Z
set_option autoImplicit false
open PySem PySem.Spec PyProof.Rows L2
/-! ### isinstance -/
def tgD : D → Option Tg
  | .non => some .non
  | .bl _ => some .bl
  | .int _ => some .int
  | .str _ => some .str
  | .lst _ => some .lst
  | .scr _ => some .lst
  | .tup _ => some .tup
  | .kt _ => some .tup
  | .dK _ _ => some .dct
  | _ => none
def isaG : Tg → Tg → Bool
  | .bl, .int => true
  | .non, .non => true
  | .bl, .bl => true
  | .int, .int => true
  | .str, .str => true
  | .lst, .lst => true
  | .tup, .tup => true
  | .dct, .dct => true
  | _, _ => false
theorem kit_tg : ∀ a b : Tg, kitB (tgName a) (tgName b) = some (isaG a b) := by
  intro a b
  cases a <;> cases b <;> decide +kernel
theorem Bor.tyX {K : PySem.W.Frag} {G H : Hp} {d : D} {v : V} {t : Tg} (h : Bor K G H d v) (e : tgD d = some t) : TyX K H v (.type (tgName t)) := by
  have sq : ∀ {a : Addr} {xs : List V}, SqT K H a xs → TyX K H (.ref a) (.type "tuple") := fun {a xs} q => by
    rcases q with (q | ⟨o, q⟩) | ⟨o, its, n, q, c, _⟩
    · exact .base (.tup q)
    · exact .fTuple q
    · exact .kTuple q c
  cases d with
  | non => cases e; rw [show v = _ from h]; exact .base .non
  | bl b => cases e; rw [show v = _ from h]; exact .base (.bl b)
  | int i => cases e; rw [show v = _ from h]; exact .base (.int i)
  | str x => cases e; rw [show v = _ from h]; exact .base (.str x)
  | lst ds => cases e; obtain ⟨a, xs, e1, q, r⟩ := h; rw [e1]; exact .base (.lst q)
  | scr ns =>
    cases e
    obtain ⟨a, e1, q⟩ := h
    rw [e1]
    rcases q with (q | ⟨o, q⟩) | ⟨o, its, n, q, c, _⟩
    · exact .base (.lst q)
    · exact .base (.frz q)
    · exact .kList q c
  | tup ds => cases e; obtain ⟨a, xs, e1, q, r⟩ := h; rw [e1]; exact .base (.tup q.1)
  | kt ds => cases e; obtain ⟨a, xs, e1, q, r⟩ := h; rw [e1]; exact sq q
  | dK ks ds =>
    cases e
    obtain ⟨a, xs, e1, q, l, r⟩ := h
    rw [e1]
    rcases q with q | ⟨o, q⟩
    · exact .base (.dK q)
    · exact .fDict q
  | _ => cases e
def tysD : List D → Option (List Tg)
  | [] => some []
  | .ty g :: ds => (tysD ds).map (g :: ·)
  | _ :: _ => none
theorem tysD_vals {K : PySem.W.Frag} {G : Hp} : ∀ {ds : List D} {gs : List Tg} {xs : List V}, tysD ds = some gs → RepL K G ds xs → Paired ClsV xs (gs.map fun g => Value.type (tgName g))
  | [], _, _, e, r => by cases e; rw [show _ = [] from r]; exact .nil
  | .ty g :: ds, gs, _, e, ⟨x, t, e1, r1, r2⟩ => by
    have e' : (tysD ds).map (g :: ·) = some gs := e
    cases e2 : tysD ds with
    | none => rw [e2] at e'; cases e'
    | some l =>
      rw [e2] at e'
      cases e'
      rw [e1, show x = _ from r1]
      exact .cons (.ty _) (tysD_vals e2 r2)
theorem kitAny_tg {K : PySem.W.Frag} (t : Tg) : ∀ gs : List Tg, PySem.W.kitAny K (.type (tgName t)) (gs.map fun g => Value.type (tgName g)) = some (gs.any fun g => isaG t g)
  | [] => rfl
  | g :: gs => by
    refine kitAny_cons (b := isaG t g) (kit_ty (kit_tg t g)) (fun e => ?_) (fun e => ?_)
    · rw [kitAny_tg t gs, List.any_cons, e, Bool.false_or]
    · rw [List.any_cons, e, Bool.true_or]
def mIsi : List D → (Rs → Prop) → Prop
  | [d, .ty g], Q => match tgD d with
    | some t => Q (.val (.bl (isaG t g)))
    | none => False
  | [d, .tup gs], Q => match tgD d, tysD gs with
    | some t, some l => Q (.val (.bl (l.any fun g => isaG t g)))
    | _, _ => False
  | _, _ => False
section
variable {X : Cx} {W : WX}
theorem f_isi1 : Fn2 X (.builtin "isinstance") (fun ds Q => ∃ d g t, ds = [d, .ty g] ∧ tgD d = some t ∧ Q (.val (.bl (isaG t g)))) := fn_flat call_isi fun p G H vs ds Q C hK B b hm hc => by
  obtain ⟨d, g, t, rfl, e, q⟩ := hm
  obtain ⟨v, v', rfl, b1, b2⟩ := b.two
  rw [hK] at b1
  exact ⟨v, _, _, _, _, by rw [show v' = _ from b2], .ty _, b1.tyX e, kit_ty (kit_tg t g), hc (.bl _) _ rfl q⟩
theorem f_isi2 : Fn2 X (.builtin "isinstance") (fun ds Q => ∃ d gs t l, ds = [d, .tup gs] ∧ tgD d = some t ∧ tysD gs = some l ∧ Q (.val (.bl (l.any fun g => isaG t g)))) := fn_flat call_isiT fun p G H vs ds Q C hK B b hm hc => by
  obtain ⟨d, gs, t, l, rfl, e, el, q⟩ := hm
  obtain ⟨v, v', rfl, b1, b2⟩ := b.two
  obtain ⟨a, xs, e2, ⟨h2, _⟩, r2⟩ := b2
  rw [hK] at b1
  subst e2
  exact ⟨v, a, xs, _, _, _, rfl, h2, tysD_vals el r2, b1.tyX e, kitAny_tg t l, hc (.bl _) _ rfl q⟩
theorem f_isi : Fn2 X (.builtin "isinstance") mIsi := (f_isi1.or f_isi2).imp fun ds Q h => by
  unfold mIsi at h
  split at h
  · rename_i d g
    cases e : tgD d with
    | none => rw [e] at h; exact h.elim
    | some t => rw [e] at h; exact .inl ⟨d, g, t, rfl, e, h⟩
  · rename_i d gs
    cases e : tgD d with
    | none => rw [e] at h; exact h.elim
    | some t =>
      cases e2 : tysD gs with
      | none => rw [e, e2] at h; exact h.elim
      | some l => rw [e, e2] at h; exact .inr ⟨d, gs, t, l, rfl, e, e2, h⟩
  · exact h.elim
theorem pe2_ty (g : Tg) {x : Str} {pos : Pos} (hm : X.mg x = none) (hv : bootBuiltins x = some (.type (tgName g)) := by decide +kernel) (hg : Gl X x := by rfl) (hn : x ≠ "__name__" := by decide) (hd : (x == ("__debug__" : Str)) = false := by decide) : PE2 X W (.Name x pos) (wC (.ty g)) :=
  pe2_c (v := .ty (tgName g)) (pe_bltn hg hm hv rfl hn hd) fun _ _ => rfl
/-! ### all([..]) -/
def boolsD : List D → Option (List Bool)
  | [] => some []
  | .bl b :: ds => (boolsD ds).map (b :: ·)
  | _ :: _ => none
theorem boolsD_vals {K : PySem.W.Frag} {G : Hp} : ∀ {ds : List D} {bs : List Bool} {xs : List V}, boolsD ds = some bs → RepL K G ds xs → xs = bs.map V.bl
  | [], _, _, e, r => by cases e; rw [show _ = [] from r]; rfl
  | .bl b :: ds, bs, _, e, ⟨x, t, e1, r1, r2⟩ => by
    have e' : (boolsD ds).map (b :: ·) = some bs := e
    cases e2 : boolsD ds with
    | none => rw [e2] at e'; cases e'
    | some l =>
      rw [e2] at e'
      cases e'
      rw [e1, show x = _ from r1, boolsD_vals e2 r2]
      rfl
def mAll : List D → (Rs → Prop) → Prop
  | [.lst ds], Q => match boolsD ds with
    | some bs => Q (.val (.bl (bs.all id)))
    | none => False
  | _, _ => False
def mAny : List D → (Rs → Prop) → Prop
  | [.lst ds], Q => match boolsD ds with
    | some bs => Q (.val (.bl (bs.any id)))
    | none => False
  | _, _ => False
theorem f_all (hc' : X.calm = true) : Fn2 X (.builtin "all") mAll := fn_flat (cr_all hc') fun p G H vs ds Q C hK B b hm hc => by
  unfold mAll at hm
  split at hm
  · rename_i ds
    cases e : boolsD ds with
    | none => rw [e] at hm; exact hm.elim
    | some bs =>
      rw [e] at hm
      obtain ⟨v, rfl, a, xs, e1, q, r⟩ := b.one
      subst e1
      rw [boolsD_vals e r] at q
      exact ⟨a, bs, rfl, .of q, hc (.bl _) _ rfl hm⟩
  · exact hm.elim
theorem f_any (hc' : X.calm = true) : Fn2 X (.builtin "any") mAny := fn_flat (cr_any hc') fun p G H vs ds Q C hK B b hm hc => by
  unfold mAny at hm
  split at hm
  · rename_i ds
    cases e : boolsD ds with
    | none => rw [e] at hm; exact hm.elim
    | some bs =>
      rw [e] at hm
      obtain ⟨v, rfl, a, xs, e1, q, r⟩ := b.one
      subst e1
      rw [boolsD_vals e r] at q
      exact ⟨a, bs, rfl, .of q, hc (.bl _) _ rfl hm⟩
  · exact hm.elim
/-! ### str(x), int(x) -/
def mStr : List D → (Rs → Prop) → Prop
  | [.int i], Q => i.natAbs.log2 < 1920 ∧ Q (.val (.str (toString i)))
  | [.str z], Q => Q (.val (.str z))
  | _, _ => False
theorem f_str1 : Fn2 X (.type "str") (fun ds Q => ∃ z, ds = [.str z] ∧ Q (.val (.str z))) := fn_flat SkE.call_str_str fun p G H vs ds Q C hK B b hm hc => by
  obtain ⟨z, rfl, q⟩ := hm
  obtain ⟨v, rfl, e⟩ := b.one
  exact ⟨z, by rw [show v = _ from e], hc (.str _) _ rfl q⟩
theorem f_str : Fn2 X (.type "str") mStr := (f_strI.or f_str1).imp fun ds Q h => by
  unfold mStr at h
  split at h
  · exact .inl h
  · exact .inr ⟨_, rfl, h⟩
  · exact h.elim
def mIntS : List D → (Rs → Prop) → Prop
  | [.int i], Q => Q (.val (.int i))
  | [.bl b], Q => Q (.val (.int (if b = true then 1 else 0)))
  | [.str z], Q => ∃ n, PySem.intText? z = some n ∧ z.length ≤ 640 ∧ Q (.val (.int n))
  | _, _ => False
theorem f_int1 : Fn2 X (.type "int") (fun ds Q => ∃ z n, ds = [.str z] ∧ PySem.intText? z = some n ∧ z.length ≤ 640 ∧ Q (.val (.int n))) := fn_flat call_int_str fun p G H vs ds Q C hK B b hm hc => by
  obtain ⟨z, n, rfl, h1, h2, q⟩ := hm
  obtain ⟨v, rfl, e⟩ := b.one
  exact ⟨z, n, by rw [show v = _ from e], h1, h2, hc (.int _) _ rfl q⟩
theorem f_intS : Fn2 X (.type "int") mIntS := (f_int.or f_int1).imp fun ds Q h => by
  unfold mIntS at h
  split at h
  · exact .inl h
  · exact .inl h
  · obtain ⟨n, h1, h2, q⟩ := h
    exact .inr ⟨_, n, rfl, h1, h2, q⟩
  · exact h.elim
/-! ### texts -/
def strsD : List D → Option (List Str)
  | [] => some []
  | .str z :: ds => (strsD ds).map (z :: ·)
  | _ :: _ => none
theorem strsD_vals {K : PySem.W.Frag} {G : Hp} : ∀ {ds : List D} {zs : List Str} {xs : List V}, strsD ds = some zs → RepL K G ds xs → xs = zs.map V.str
  | [], _, _, e, r => by cases e; rw [show _ = [] from r]; rfl
  | .str z :: ds, zs, _, e, ⟨x, t, e1, r1, r2⟩ => by
    have e' : (strsD ds).map (z :: ·) = some zs := e
    cases e2 : strsD ds with
    | none => rw [e2] at e'; cases e'
    | some l =>
      rw [e2] at e'
      cases e'
      rw [e1, show x = _ from r1, strsD_vals e2 r2]
      rfl
def mSplit : D → D → (Rs → Prop) → Prop
  | .str a, .str b, Q => (b.length == 0) = false ∧ a.length + 2 ≤ sizeLine ∧ Q (.own (.lst ((Txt.split a b).map D.str)))
  | _, _, _ => False
def mJoin : D → D → (Rs → Prop) → Prop
  | .str a, .lst ds, Q => match strsD ds with
    | some ys => (ys.map (·.length)).sum + ys.length * a.length ≤ 16777216 ∧ Q (.val (.str (Txt.join a ys)))
    | none => False
  | .str a, .tup ds, Q => match strsD ds with
    | some ys => (ys.map (·.length)).sum + ys.length * a.length ≤ 16777216 ∧ Q (.val (.str (Txt.join a ys)))
    | none => False
  | _, _, _ => False
/-- o.m(e) of a text -/
theorem txt1 {o e : Expr} {wo we : O2} {to te : TE} {m : D → D → (Rs → Prop) → Prop} {r : V → List V → Hp → VK → Prop}
    (r1 : ∀ (p : Par) (G : Hp) (σ : L2.St) (H : Hp) (ρ : List Sl) (Q : B → List Sl → Prop) (R : RX) (C : VK), p.K = X.K → Abs p G σ H ρ → RzOk p W σ G R → wo ρ Q R → (∀ G' H' b ρ' v, Abs p G' σ H' ρ' → Same G G' → OpdOk p G' σ b v → Q b ρ' → C v H') → to σ H C)
    (r2 : ∀ (p : Par) (G : Hp) (σ : L2.St) (H : Hp) (ρ : List Sl) (Q : B → List Sl → Prop) (R : RX) (C : VK), p.K = X.K → Abs p G σ H ρ → RzOk p W σ G R → we ρ Q R → (∀ G' H' b ρ' v, Abs p G' σ H' ρ' → Same G G' → OpdOk p G' σ b v → Q b ρ' → C v H') → te σ H C)
    (hs : ∀ d y Q, m d y Q → ∃ a, d = .str a)
    (hr : ∀ (p : Par) (G : Hp) (σ : L2.St) (H : Hp) (ρ : List Sl) (a : Str) (y : V) (dy : D) (Q : Rs → Prop) (C : VK), p.K = X.K → Abs p G σ H ρ → Bor p.K G H dy y → m (.str a) dy Q → (∀ G' H' r v, Abs p G' σ H' ρ → Same G G' → ResOk p G' H' σ ρ r v → Q r → C v H') → r (.str a) [y] H C) :
    ∀ (p : Par) (G : Hp) (σ : L2.St) (H : Hp) (ρ : List Sl) (Q : Rs → List Sl → Prop) (R : RX) (C : VK), p.K = X.K → Abs p G σ H ρ → RzOk p W σ G R → (fun ρ Q R => wo ρ (fun b1 ρ1 => ∃ a, bD ρ1 b1 = some (.str a) ∧ we ρ1 (fun b2 ρ2 => match bD ρ2 b2 with
      | some y => m (.str a) y fun r => Q r ρ2
      | none => False) R) R : W2) ρ Q R → (∀ G' H' r ρ' v, Abs p G' σ H' ρ' → Same G G' → ResOk p G' H' σ ρ' r v → Q r ρ' → C v H') → tM1 r to te σ H C := by
  intro p G σ H ρ Q R C hK A hz hw hc
  refine r1 p G σ H ρ _ R _ hK A hz hw fun G1 H1 b1 ρ1 v1 A1 s1 o1 q1 => ?_
  obtain ⟨a, e1, q1⟩ := q1
  have ev : v1 = .str a := A1.opd o1 e1
  subst ev
  refine ⟨⟨a, rfl⟩, ?_⟩
  refine r2 p G1 σ H1 ρ1 _ R _ hK A1 (hz.mono s1) q1 fun G2 H2 b2 ρ2 v2 A2 s2 o2 q2 => ?_
  cases e2 : bD ρ2 b2 with
  | none => rw [e2] at q2; exact q2.elim
  | some y =>
    rw [e2] at q2
    exact hr p G2 σ H2 ρ2 a v2 y _ C hK A2 (A2.opd o2 e2) q2 fun G' H' r v A' s ro q => hc G' H' r ρ2 v A' ((s1.trans s2).trans s) ro q
def wTx1 (m : D → D → (Rs → Prop) → Prop) (wo we : O2) : W2 := fun ρ Q R => wo ρ (fun b1 ρ1 => ∃ a, bD ρ1 b1 = some (.str a) ∧ we ρ1 (fun b2 ρ2 => match bD ρ2 b2 with
      | some y => m (.str a) y fun r => Q r ρ2
      | none => False) R) R
theorem pe2_split {o e : Expr} {wo we : O2} {apos pos : Pos} (ho : PB2 X W o wo) (he : PB2 X W e we) (hs : starEach [e] X.env = [(false, eval e X.env)] := by rfl) (hbase : attributeBase o "split" X.env (eval o X.env) = eval o X.env := by rfl) (hline : (apos.endLine == pos.line) = true := by rfl) :
    PE2 X W (.Call (.Attribute o "split" apos) [e] [] pos) (wTx1 mSplit wo we) := by
  obtain ⟨to, h1, r1⟩ := ho.ex
  obtain ⟨te, h2, r2⟩ := he.ex
  refine ⟨_, pe_split h1 h2 hs hbase hline, txt1 (W := W) (o := o) (e := e) r1 r2 (fun d y Q h => by cases d <;> first | exact ⟨_, rfl⟩ | exact h.elim) fun p G σ H ρ a y dy Q C hK A by' hm hc => ?_⟩
  cases dy with
  | str b =>
    obtain ⟨h1, h2, q⟩ := hm
    refine ⟨a, b, rfl, by rw [show y = _ from by'], h1, h2, fun l hl => ?_⟩
    obtain ⟨A2, f, n⟩ := A.laid (o := .lst ((Txt.split a b).map V.str)) hl
    exact hc G _ (.own (.lst _)) _ A2 (Same.refl G) ⟨l, rfl, f, ⟨_, upd_same, RepL.strs.mpr rfl⟩, n⟩ q
  | _ => exact hm.elim
theorem pe2_join {o e : Expr} {wo we : O2} {apos pos : Pos} (ho : PB2 X W o wo) (he : PB2 X W e we) (hs : starEach [e] X.env = [(false, eval e X.env)] := by rfl) (hbase : attributeBase o "join" X.env (eval o X.env) = eval o X.env := by rfl) (hline : (apos.endLine == pos.line) = true := by rfl) :
    PE2 X W (.Call (.Attribute o "join" apos) [e] [] pos) (wTx1 mJoin wo we) := by
  obtain ⟨to, h1, r1⟩ := ho.ex
  obtain ⟨te, h2, r2⟩ := he.ex
  refine ⟨_, pe_join h1 h2 hs hbase hline, txt1 (W := W) (o := o) (e := e) r1 r2 (fun d y Q h => by cases d <;> first | exact ⟨_, rfl⟩ | exact h.elim) fun p G σ H ρ a y dy Q C hK A by' hm hc => ?_⟩
  cases dy with
  | lst ds =>
    have hm' : (match strsD ds with
      | some ys => (ys.map (·.length)).sum + ys.length * a.length ≤ 16777216 ∧ Q (.val (.str (Txt.join a ys)))
      | none => False) := hm
    cases e1 : strsD ds with
    | none => rw [e1] at hm'; exact hm'.elim
    | some ys =>
      rw [e1] at hm'
      obtain ⟨l, xs, e2, q, r⟩ := by'
      subst e2
      rw [strsD_vals e1 r] at q
      exact ⟨a, l, ys, rfl, rfl, .inl (.of q), hm'.1, hc G H (.val (.str _)) _ A (Same.refl G) rfl hm'.2⟩
  | tup ds =>
    have hm' : (match strsD ds with
      | some ys => (ys.map (·.length)).sum + ys.length * a.length ≤ 16777216 ∧ Q (.val (.str (Txt.join a ys)))
      | none => False) := hm
    cases e1 : strsD ds with
    | none => rw [e1] at hm'; exact hm'.elim
    | some ys =>
      rw [e1] at hm'
      obtain ⟨l, xs, e2, ⟨q, _⟩, r⟩ := by'
      subst e2
      rw [strsD_vals e1 r] at q
      exact ⟨a, l, ys, rfl, rfl, .inr (.of q), hm'.1, hc G H (.val (.str _)) _ A (Same.refl G) rfl hm'.2⟩
  | _ => exact hm.elim
def wUpper (wo : O2) : W2 := fun ρ Q R => wo ρ (fun b ρ1 => match bD ρ1 b with
  | some (.str a) => a.length ≤ 5592405 ∧ Q (.val (.str (Txt.upper a))) ρ1
  | _ => False) R
theorem pe2_upper {o : Expr} {wo : O2} {apos pos : Pos} (ho : PB2 X W o wo) (hbase : attributeBase o "upper" X.env (eval o X.env) = eval o X.env := by rfl) (hline : (apos.endLine == pos.line) = true := by rfl) :
    PE2 X W (.Call (.Attribute o "upper" apos) [] [] pos) (wUpper wo) := by
  obtain ⟨to, h1, r1⟩ := ho.ex
  refine ⟨_, pe_upper h1 hbase hline, fun p G σ H ρ Q R C hK A hz hw hc => ?_⟩
  refine r1 p G σ H ρ _ R _ hK A hz hw fun G1 H1 b1 ρ1 v1 A1 s1 o1 q1 => ?_
  cases e1 : bD ρ1 b1 with
  | none => rw [e1] at q1; exact q1.elim
  | some d =>
    rw [e1] at q1
    have bo := A1.opd o1 e1
    cases d with
    | str a =>
      have ev : v1 = .str a := bo
      subst ev
      exact ⟨⟨a, rfl⟩, a, rfl, rfl, q1.1, hc G1 H1 (.val (.str _)) ρ1 _ A1 s1 rfl q1.2⟩
    | _ => exact q1.elim
/-! ### over a text -/
def signsD (z : Str) : List D := z.cps.toList.map fun c => D.str ⟨#[c]⟩
theorem it2_str {p : Par} {G : Hp} (z : Str) : It2 p (Its z) (signsD z) G := by
  have hl : (signsD z).length = z.cps.size := by unfold signsD; rw [List.length_map, Array.length_toList]
  refine ⟨fun p2 G2 σ2 H2 ρ2 k2 l2 A2 s2 => ?_, fun i d hi p2 G2 σ2 H2 ρ2 k2 l2 A2 s2 => ?_⟩
  · show z.cps.size ≤ (signsD z).length
    rw [hl]
    exact Nat.le_refl _
  · have hlt : i < z.cps.size := by rw [← hl]; exact (List.getElem?_eq_some_iff.mp hi).1
    refine ⟨hlt, fun x H'' hy => ?_⟩
    obtain ⟨e1, c, hc, e2⟩ := hy
    subst e1 e2
    refine ⟨G2, A2, Same.refl G2, ?_⟩
    unfold signsD at hi
    rw [List.getElem?_map, Array.getElem?_toList, hc] at hi
    cases hi
    rfl
def wStrI (w : O2) : I2 := fun ρ Q R => w ρ (fun b ρ1 => match bD ρ1 b with
  | some (.str z) => Q (signsD z) ρ1
  | _ => False) R
theorem pi2_str {tg e : Expr} {w : O2} (h : PB2 X W e w) : PI2 X W tg e (wStrI w) := by
  obtain ⟨t, h1, r1⟩ := h.ex
  refine ⟨_, pi_str h1, fun p G σ H ρ Q R C hK A hz hw hc => ?_⟩
  refine r1 p G σ H ρ _ R _ hK A hz hw fun G1 H1 b1 ρ1 v1 A1 s1 o1 q1 => ?_
  cases e1 : bD ρ1 b1 with
  | none => rw [e1] at q1; exact q1.elim
  | some d =>
    rw [e1] at q1
    have bo := A1.opd o1 e1
    cases d with
    | str z => exact ⟨z, bo, hc G1 H1 (signsD z) _ ρ1 A1 s1 (it2_str z) q1⟩
    | _ => exact q1.elim
/-! ### a dict of the module, keys texts -/
structure TabK (K : PySem.W.Frag) (w : World) (mg : Str → Option Value) (x : Str) (t : List (Str × D)) : Prop where
  ex : ∃ d es n, mg x = some (.ref d) ∧ KDict K w d es n ∧ (∀ z, t.lookup z = none → PySem.W.nsIn K d z = some none) ∧ ∀ z v, t.lookup z = some v → ∃ u vv, PySem.W.nsIn K d z = some (some u) ∧ L2.RelV vv u ∧ ∀ G, Rep K G v vv
def wTabIn (neg : Bool) (t : List (Str × D)) (we : O2) : W2 := fun ρ Q R => we ρ (fun b ρ1 => match bD ρ1 b with
  | some (.str z) => Q (.val (.bl (if neg = true then !(t.lookup z).isSome else (t.lookup z).isSome))) ρ1
  | _ => False) R
theorem pe2_tabIn {x : Str} {e : Expr} {p pos : Pos} {t : List (Str × D)} {we : O2} (T : TabK X.K X.w X.mg x t) (he : PB2 X W e we) (hg : Gl X x := by rfl) (hd : (x == ("__debug__" : Str)) = false := by decide) (hm : behindInMarks .In (.Name x p) = false := by first | rfl | exact nomark _) :
    PE2 X W (.Compare e [.In] [.Name x p] pos) (wTabIn false t we) := by
  obtain ⟨te, h1, r1⟩ := he.ex
  obtain ⟨d, es, n, hmg, KD, hn, hs⟩ := T.ex
  refine ⟨_, pe_cmpR (op_in_kd KD) h1 (pe_glob (v := .ref d) hg hmg rfl hd) hm, fun P G σ H ρ Q R C hK A hz hw hc => ?_⟩
  refine r1 P G σ H ρ _ R _ hK A hz hw fun G1 H1 b1 ρ1 v1 A1 s1 o1 q1 => ?_
  cases e1 : bD ρ1 b1 with
  | none => rw [e1] at q1; exact q1.elim
  | some dd =>
    rw [e1] at q1
    have bo := A1.opd o1 e1
    cases dd with
    | str z =>
      have ev : v1 = .str z := bo
      subst ev
      have q1' : Q (.val (.bl (t.lookup z).isSome)) ρ1 := q1
      cases el : t.lookup z with
      | none =>
        rw [el] at q1'
        exact ⟨z, none, rfl, rfl, hn z el, hc G1 H1 (.val (.bl false)) ρ1 _ A1 s1 rfl q1'⟩
      | some v =>
        rw [el] at q1'
        obtain ⟨u, vv, e2, _⟩ := hs z v el
        exact ⟨z, some u, rfl, rfl, e2, hc G1 H1 (.val (.bl true)) ρ1 _ A1 s1 rfl q1'⟩
    | _ => exact q1.elim
theorem pe2_tabNotIn {x : Str} {e : Expr} {p pos : Pos} {t : List (Str × D)} {we : O2} (T : TabK X.K X.w X.mg x t) (he : PB2 X W e we) (hg : Gl X x := by rfl) (hd : (x == ("__debug__" : Str)) = false := by decide) (hm : behindInMarks .NotIn (.Name x p) = false := by first | rfl | exact nomark _) :
    PE2 X W (.Compare e [.NotIn] [.Name x p] pos) (wTabIn true t we) := by
  obtain ⟨te, h1, r1⟩ := he.ex
  obtain ⟨d, es, n, hmg, KD, hn, hs⟩ := T.ex
  refine ⟨_, pe_cmpR (op_notIn_kd KD) h1 (pe_glob (v := .ref d) hg hmg rfl hd) hm, fun P G σ H ρ Q R C hK A hz hw hc => ?_⟩
  refine r1 P G σ H ρ _ R _ hK A hz hw fun G1 H1 b1 ρ1 v1 A1 s1 o1 q1 => ?_
  cases e1 : bD ρ1 b1 with
  | none => rw [e1] at q1; exact q1.elim
  | some dd =>
    rw [e1] at q1
    have bo := A1.opd o1 e1
    cases dd with
    | str z =>
      have ev : v1 = .str z := bo
      subst ev
      have q1' : Q (.val (.bl (!(t.lookup z).isSome))) ρ1 := q1
      cases el : t.lookup z with
      | none =>
        rw [el] at q1'
        exact ⟨z, none, rfl, rfl, hn z el, hc G1 H1 (.val (.bl true)) ρ1 _ A1 s1 rfl q1'⟩
      | some v =>
        rw [el] at q1'
        obtain ⟨u, vv, e2, _⟩ := hs z v el
        exact ⟨z, some u, rfl, rfl, e2, hc G1 H1 (.val (.bl false)) ρ1 _ A1 s1 rfl q1'⟩
    | _ => exact q1.elim
def wTabIx (t : List (Str × D)) (we : O2) : W2 := fun ρ Q R => we ρ (fun b ρ1 => match bD ρ1 b with
  | some (.str z) => ∃ v, t.lookup z = some v ∧ Q (.val v) ρ1
  | _ => False) R
theorem pe2_tabIx {x : Str} {e : Expr} {p pos : Pos} {t : List (Str × D)} {we : O2} (T : TabK X.K X.w X.mg x t) (he : PB2 X W e we) (hg : Gl X x := by rfl) (hd : (x == ("__debug__" : Str)) = false := by decide) (hs : PlainIx e := by exact fun _ _ => rfl) :
    PE2 X W (.Subscript (.Name x p) e pos) (wTabIx t we) := by
  obtain ⟨te, h1, r1⟩ := he.ex
  obtain ⟨d, es, n, hmg, KD, hn, hsv⟩ := T.ex
  refine ⟨_, pe_ix ix_kdict (pe_glob (v := .ref d) hg hmg rfl hd) h1 hs, fun P G σ H ρ Q R C hK A hz hw hc => ?_⟩
  refine r1 P G σ H ρ _ R _ hK A hz hw fun G1 H1 b1 ρ1 v1 A1 s1 o1 q1 => ?_
  cases e1 : bD ρ1 b1 with
  | none => rw [e1] at q1; exact q1.elim
  | some dd =>
    rw [e1] at q1
    have bo := A1.opd o1 e1
    cases dd with
    | str z =>
      have ev : v1 = .str z := bo
      subst ev
      obtain ⟨v, el, q1⟩ := q1
      obtain ⟨u, vv, e2, ru, rr⟩ := hsv z v el
      exact ⟨d, z, vv, rfl, rfl, ⟨es, n, u, KD.at_, KD.lit, e2, ru⟩, hc G1 H1 (.val v) ρ1 vv A1 s1 (by show Rep P.K G1 v vv; rw [hK]; exact rr G1) q1⟩
    | _ => exact q1.elim
/-! ### a text times a number -/
theorem rep_size (a : Array Nat) : ∀ (n : Nat) (acc : Array Nat), ((List.replicate n a).foldl (· ++ ·) acc).size = acc.size + n * a.size
  | 0, acc => by rw [List.replicate_zero, List.foldl_nil, Nat.zero_mul, Nat.add_zero]
  | n + 1, acc => by rw [List.replicate_succ, List.foldl_cons, rep_size a n, Array.size_append, Nat.succ_mul]; omega
theorem op_mulS : OpR X (binaryOp .Mult) (fun x y H Q => ∃ z k, x = .str z ∧ y = .int k ∧ 1 < k ∧ k < 1000000 ∧ 0 < z.length ∧ z.length * k.toNat ≤ 4000000 ∧ ∀ u : Str, u.length = z.length * k.toNat → Q (.str u) H) := by
  intro pins s σ H x y v u Q I rx ry h
  obtain ⟨z, k, rfl, rfl, h1, h2, h3, h4, q⟩ := h
  obtain ⟨t, rfl⟩ := rx
  obtain ⟨t', rfl⟩ := ry
  have n1 : (k == 1 || z.length == 0) = false := by
    have a1 : (k == 1) = false := by simp; omega
    have a2 : (z.length == 0) = false := by simp; omega
    rw [a1, a2]; rfl
  have hle : z.length ≤ 4000000 := Nat.le_trans (Nat.le_mul_of_pos_right _ (by omega)) h4
  refine PySem.P.mul_str (by
      have b1 : decide (k < -(2 ^ 63 : Int)) = false := decide_eq_false (by omega)
      have b2 : decide (k ≥ 2 ^ 63) = false := decide_eq_false (by omega)
      rw [b1, b2]; rfl) (fun _ _ hgt => ?_) (fun _ _ => ?_) ?_
  · have e : (4000000 : Int) ≤ (2 ^ 63 - 1) / k := by
      refine (Int.le_ediv_iff_mul_le (by omega)).mpr ?_
      omega
    omega
  · unfold Builtin.Str.tooLong
    exact decide_eq_false (by rw [sizeLine_eq] at *; omega)
  · rw [if_neg (by omega), if_neg (by rw [n1]; exact Bool.false_ne_true)]
    have hz : (⟨(List.replicate k.toNat z.cps).foldl (· ++ ·) #[]⟩ : Str).length = z.length * k.toNat := by
      show ((List.replicate k.toNat z.cps).foldl (· ++ ·) #[]).size = z.cps.size * k.toNat
      rw [rep_size, Nat.mul_comm]
      simp
    exact ⟨by rw [hz, sizeLine_eq]; omega, .str _, H, I.tok _, ⟨_, rfl⟩, q _ hz⟩
def mMulA : D → D → (Rs → Prop) → Prop
  | .int i, .int j, Q => (CMul i j ∨ CMulW i j) ∧ Q (.val (.int (i * j)))
  | .str z, .int k, Q => 1 < k ∧ k < 1000000 ∧ 0 < z.length ∧ z.length * k.toNat ≤ 4000000 ∧ ∀ u : Str, u.length = z.length * k.toNat → Q (.val (.str u))
  | _, _, _ => False
theorem o_mulS1 : Op2 X (binaryOp .Mult) (fun x y Q => ∃ z k, x = .str z ∧ y = .int k ∧ 1 < k ∧ k < 1000000 ∧ 0 < z.length ∧ z.length * k.toNat ≤ 4000000 ∧ ∀ u : Str, u.length = z.length * k.toNat → Q (.val (.str u))) := op_flat op_mulS fun p G H x y dx dy Q C hK B bx by' hm hc => by
  obtain ⟨z, k, rfl, rfl, h1, h2, h3, h4, q⟩ := hm
  exact ⟨z, k, bx, by', h1, h2, h3, h4, fun u hu => hc (.str u) _ rfl (q u hu)⟩
theorem o_mulA : Op2 X (binaryOp .Mult) mMulA := (o_mul.or o_mulS1).imp fun x y Q h => by
  unfold mMulA at h
  split at h
  · exact .inl h
  · exact .inr ⟨_, _, rfl, rfl, h⟩
  · exact h.elim
end
end Z
namespace Z
set_option autoImplicit false
open PySem PySem.Spec PyProof.Rows L2
section
variable {X : Cx} {W : WX}
theorem pt2_tabIn {x : Str} {e : Expr} {p pos : Pos} {t : List (Str × D)} {we : O2} (T : TabK X.K X.w X.mg x t) (he : PB2 X W e we) (hg : Gl X x := by rfl) (hd : (x == ("__debug__" : Str)) = false := by decide) (hm : behindInMarks .In (.Name x p) = false := by first | rfl | exact nomark _) :
    PT2 X W (.Compare e [.In] [.Name x p] pos) (wBl (wTabIn false t we)) := by
  obtain ⟨te, h1, r1⟩ := he.ex
  obtain ⟨d, es, n, hmg, KD, hn, hs⟩ := T.ex
  refine ⟨_, pt_cmpR (op_in_kd KD) h1 (pe_glob (v := .ref d) hg hmg rfl hd) hm, fun P G σ H ρ Q R C hK A hz hw hc => ?_⟩
  refine r1 P G σ H ρ _ R _ hK A hz hw fun G1 H1 b1 ρ1 v1 A1 s1 o1 q1 => ?_
  cases e1 : bD ρ1 b1 with
  | none => rw [e1] at q1; exact q1.elim
  | some dd =>
    rw [e1] at q1
    have bo := A1.opd o1 e1
    cases dd with
    | str z =>
      have ev : v1 = .str z := bo
      subst ev
      have q1' : Q (t.lookup z).isSome ρ1 := q1
      cases el : t.lookup z with
      | none =>
        rw [el] at q1'
        exact ⟨z, none, rfl, rfl, hn z el, _, rfl, hc G1 H1 false ρ1 A1 s1 q1'⟩
      | some v =>
        rw [el] at q1'
        obtain ⟨u, vv, e2, _⟩ := hs z v el
        exact ⟨z, some u, rfl, rfl, e2, _, rfl, hc G1 H1 true ρ1 A1 s1 q1'⟩
    | _ => exact q1.elim
theorem pt2_tabNotIn {x : Str} {e : Expr} {p pos : Pos} {t : List (Str × D)} {we : O2} (T : TabK X.K X.w X.mg x t) (he : PB2 X W e we) (hg : Gl X x := by rfl) (hd : (x == ("__debug__" : Str)) = false := by decide) (hm : behindInMarks .NotIn (.Name x p) = false := by first | rfl | exact nomark _) :
    PT2 X W (.Compare e [.NotIn] [.Name x p] pos) (wBl (wTabIn true t we)) := by
  obtain ⟨te, h1, r1⟩ := he.ex
  obtain ⟨d, es, n, hmg, KD, hn, hs⟩ := T.ex
  refine ⟨_, pt_cmpR (op_notIn_kd KD) h1 (pe_glob (v := .ref d) hg hmg rfl hd) hm, fun P G σ H ρ Q R C hK A hz hw hc => ?_⟩
  refine r1 P G σ H ρ _ R _ hK A hz hw fun G1 H1 b1 ρ1 v1 A1 s1 o1 q1 => ?_
  cases e1 : bD ρ1 b1 with
  | none => rw [e1] at q1; exact q1.elim
  | some dd =>
    rw [e1] at q1
    have bo := A1.opd o1 e1
    cases dd with
    | str z =>
      have ev : v1 = .str z := bo
      subst ev
      have q1' : Q (!(t.lookup z).isSome) ρ1 := q1
      cases el : t.lookup z with
      | none =>
        rw [el] at q1'
        exact ⟨z, none, rfl, rfl, hn z el, _, rfl, hc G1 H1 true ρ1 A1 s1 q1'⟩
      | some v =>
        rw [el] at q1'
        obtain ⟨u, vv, e2, _⟩ := hs z v el
        exact ⟨z, some u, rfl, rfl, e2, _, rfl, hc G1 H1 false ρ1 A1 s1 q1'⟩
    | _ => exact q1.elim
end
end Z

set_option maxHeartbeats 2000000
/-! zip of two sequences, each a list or a tuple -/
namespace Z
set_option autoImplicit false
open PySem PySem.Spec PyProof.Rows L2 RZ
abbrev zipMH1 (h : Heap) (l1 : Addr) : Heap := h.push { cls := .type "list_iterator", data := .fields #[.ref l1, .int 0 0] }
abbrev zipMH2 (h : Heap) (l1 l2 : Addr) : Heap := (zipMH1 h l1).push { cls := .type "tuple_iterator", data := .fields #[.ref l2, .int 0 0] }
abbrev zipMH3 (h : Heap) (l1 l2 : Addr) : Heap := (zipMH2 h l1 l2).push { cls := .type "tuple", data := .seq #[.ref h.objs.size, .ref (zipMH1 h l1).objs.size] }
abbrev zipMH4 (h : Heap) (l1 l2 : Addr) : Heap := (zipMH3 h l1 l2).push { cls := .type "tuple", data := .seq #[.none, .none] }
abbrev zipMH5 (h : Heap) (l1 l2 : Addr) : Heap := (zipMH4 h l1 l2).push { cls := .type "zip", data := .fields #[.none, .bool false, .bool false, .ref (zipMH2 h l1 l2).objs.size, .ref (zipMH3 h l1 l2).objs.size] }
theorem meets_zipM_new (l1 l2 : Addr) (xs ys : Array Value) :
    Meets (Builtin.«zip.__new__» ⟨[.type "zip", .ref l1, .ref l2], []⟩) (fun _ R s => s.heap.IsList l1 xs ∧ s.heap.IsTuple l2 ys ∧
      R (.ok (.ret (.ref (zipMH4 s.heap l1 l2).objs.size))) { s with heap := zipMH5 s.heap l1 l2 }) :=
  .of_wp fun prog w A R s h => by
    obtain ⟨hp, g, d, tk, os⟩ := s; obtain ⟨hl1, hl2, h⟩ := h
    have hsub := sub_zip
    have hL1 : Heap.IsList (Shared.heap ⟨hp, g, d, tk, os⟩) l1 xs := hl1
    have hL2 : Heap.IsTuple (Shared.heap ⟨hp.push { cls := .type "list_iterator", data := .fields #[.ref l1, .int 0 0] }, g, d, tk, os⟩) l2 ys := Heap.IsTuple.push hl2 _
    wp_walk using wpAny_pyIter_list hL1, wpAny_pyIter_tuple hL2
    exact ⟨_, rfl, h⟩
section
variable {prog : Program} {w : World} {A : Around} {E : Value → Shared → Prop} {s : Shared}
theorem call_zipM {l1 l2 : Addr} {xs ys : Array Value} {Q : Value → Shared → Prop} (hl1 : s.heap.IsList l1 xs) (hl2 : s.heap.IsTuple l2 ys)
    (h : ∀ h', IsZip h' (s.heap.objs.size + 4) (s.heap.objs.size + 2) (s.heap.objs.size + 3) .none → IsPair h' (s.heap.objs.size + 2) (.ref s.heap.objs.size) (.ref (s.heap.objs.size + 1)) →
      IsPair h' (s.heap.objs.size + 3) .none .none → h'.IsListIter s.heap.objs.size l1 0 → h'.IsTupleIter (s.heap.objs.size + 1) l2 0 → (∀ c o, s.heap.get? c = some o → h'.get? c = some o) → Q (.ref (s.heap.objs.size + 4)) { s with heap := h' }) :
    wpAny (model prog w) A (call (.type "zip") [.ref l1, .ref l2]) Q E s := by
  refine callType_new F.called_zip (by decide) (F.typeCall_zip_2 _ _) (F.newCall_zip_2 _ _) (fun obj => F.args_object_init_3 obj _ _) F.entry_zip_new
    (meets_zipM_new l1 l2 xs ys) ⟨hl1, hl2, ?_⟩
  have z1 : (zipMH1 s.heap l1).objs.size = s.heap.objs.size + 1 := Heap.size_push ..
  have z2 : (zipMH2 s.heap l1 l2).objs.size = s.heap.objs.size + 2 := by rw [Heap.size_push, z1]
  have z3 : (zipMH3 s.heap l1 l2).objs.size = s.heap.objs.size + 3 := by rw [Heap.size_push, z2]
  have z4 : (zipMH4 s.heap l1 l2).objs.size = s.heap.objs.size + 4 := by rw [Heap.size_push, z3]
  have g5 : (zipMH5 s.heap l1 l2).get? (zipMH4 s.heap l1 l2).objs.size = some _ := Heap.get?_push_size _ rfl
  have g4 : (zipMH5 s.heap l1 l2).get? (zipMH3 s.heap l1 l2).objs.size = some _ := Heap.get?_push_of_some _ (Heap.get?_push_size _ rfl)
  have g3 : (zipMH5 s.heap l1 l2).get? (zipMH2 s.heap l1 l2).objs.size = some _ := Heap.get?_push_of_some _ (Heap.get?_push_of_some _ (Heap.get?_push_size _ rfl))
  have g2 : (zipMH5 s.heap l1 l2).get? (zipMH1 s.heap l1).objs.size = some _ := Heap.get?_push_of_some _ (Heap.get?_push_of_some _ (Heap.get?_push_of_some _ (Heap.get?_push_size _ rfl)))
  have g1 : (zipMH5 s.heap l1 l2).get? s.heap.objs.size = some _ := Heap.get?_push_of_some _ (Heap.get?_push_of_some _ (Heap.get?_push_of_some _ (Heap.get?_push_of_some _ (Heap.get?_push_size _ rfl))))
  show _ ∧ _
  rw [z2, z3, z4] at g5
  rw [z1, z2] at g3
  rw [z3] at g4
  rw [z1] at g2
  rw [z4]
  exact ⟨⟨_, g5, rfl⟩, h _ g5 g3 g4 ⟨_, g1, rfl, rfl⟩ ⟨_, g2, rfl, rfl⟩ fun c o x =>
    Heap.get?_push_of_some _ (Heap.get?_push_of_some _ (Heap.get?_push_of_some _ (Heap.get?_push_of_some _ (Heap.get?_push_of_some _ x))))⟩
end
def ItzM (K : PySem.W.Frag) (a b : Addr) : It :=
  ⟨fun i H => ∃ (xs ys : List V) (x y : V), SqL K H a xs ∧ SqT K H b ys ∧ xs[i]? = some x ∧ ys[i]? = some y,
    fun i H v H' => ∃ T x y, v = .ref T ∧ H T = none ∧ H' = upd H T (.tup [x, y]) ∧ (∀ xs, SqL K H a xs → xs[i]? = some x) ∧ ∀ ys, SqT K H b ys → ys[i]? = some y,
    fun i H => ∃ xs ys : List V, SqL K H a xs ∧ SqT K H b ys ∧ i ≤ xs.length ∧ i ≤ ys.length ∧ (xs.length = i ∨ ys.length = i)⟩
theorem apart_sep {z TI TO i1 i2 a b : Addr} (D : ZipApart z TI TO i1 i2 a b) : ZipSep2 z TI TO i1 i2 [i1, a] [i2, b] := by
  obtain ⟨h1, h2, h3, h4, h5, h6, h7, h8, h9, h10, h11, h12, h13, h14, h15, h16, h17, h18⟩ := D
  refine ⟨h1, h2, h5, h6, by simp, ?_, ?_, h7, by simp, ?_, ?_, ?_, ?_⟩ <;> simp only [List.mem_cons, List.not_mem_nil, or_false, not_or] <;> refine ⟨?_, ?_⟩ <;> first | assumption | (exact Ne.symm ‹_›)
theorem turn_zipM {P : Program} {w : World} {K : PySem.W.Frag} {elts : List Expr} {kk : Nat} {tpos : Pos} {a b z TI TO i1 i2 : Addr} (D : ZipApart z TI TO i1 i2 a b) :
    Turn P w K (.Tuple elts kk tpos) (ItzM K a b) [z, TI, TO, i1, i2] z (fun i h => IsZip h z TI TO .none ∧ IsPair h TI (.ref i1) (.ref i2) ∧ (∃ x y, IsPair h TO x y) ∧ h.IsListIter i1 a i ∧ h.IsTupleIter i2 b i) where
  mem := by simp
  obj := fun i h st c hc => by
    obtain ⟨hz, hTI, ⟨x, y, hTO⟩, ⟨o1, e1, _, d1⟩, ⟨o2, e2, _, d2⟩⟩ := st
    have e' : c = z ∨ c = TI ∨ c = TO ∨ c = i1 ∨ c = i2 := by simpa using hc
    rcases e' with q | q | q | q | q
    · rw [q]; exact ⟨_, hz, fun v q => nomatch q⟩
    · rw [q]; exact ⟨_, hTI, fun v q => nomatch q⟩
    · rw [q]; exact ⟨_, hTO, fun v q => nomatch q⟩
    · rw [q]; exact ⟨o1, e1, fun v q => by rw [d1] at q; cases q⟩
    · rw [q]; exact ⟨o2, e2, fun v q => by rw [d2] at q; cases q⟩
  keep := fun i h h' st k => by
    obtain ⟨hz, hTI, ⟨x, y, hTO⟩, h1, h2⟩ := st
    exact ⟨k z (by simp) _ hz, k TI (by simp) _ hTI, ⟨x, y, k TO (by simp) _ hTO⟩, h1.at fun o q => k i1 (by simp) o q, h2.at fun o q => k i2 (by simp) o q⟩
  item := by
    intro X hP hw hK hc i pins s σ H E I hf st hg
    subst hP hw hK
    obtain ⟨hz, hTI, ⟨x0, y0, hTO⟩, h1, h2⟩ := st
    obtain ⟨xs, ys, x, y, hqx, hqy, hx, hy⟩ := hg
    obtain ⟨its, rv, p, _⟩ := I.list hqx
    obtain ⟨its2, rv2, p2, _⟩ := I.tuple hqy
    obtain ⟨u, hu, ru⟩ := rv.get hx
    obtain ⟨u2, hu2, ru2⟩ := rv2.get hy
    have hzl : z < s.heap.objs.size := Heap.lt_size hz
    have n1 : i < its.toArray.size := by rw [List.size_toArray]; exact (List.getElem?_eq_some_iff.mp hu).1
    have n2 : i < its2.toArray.size := by rw [List.size_toArray]; exact (List.getElem?_eq_some_iff.mp hu2).1
    have D1 := Draws.list (prog := X.prog) (w := X.w) (A := X.A.in1) (I.ok.hd hc) i1 a D.l1i1 its.toArray
    have D2 := Draws.tuple (prog := X.prog) (w := X.w) (A := X.A.in1) (I.ok.hd hc) i2 b D.l2i2 its2.toArray
    refine wpAny_pyNext_zipD2_item (apart_sep D) D1 D2 hz hTI hTO ⟨h1, p.isList⟩ ⟨h2, p2⟩ n1 n2 fun x1 x2 h' tk P1 P2 z' TO' st1' st2' hT hsz hk => ?_
    have ex1 : x1 = u := by
      have q : its.toArray[i]? = some u := by simpa using hu
      rw [q] at P1; exact (Option.some.inj P1).symm
    have ex2 : x2 = u2 := by
      have q : its2.toArray[i]? = some u2 := by simpa using hu2
      rw [q] at P2; exact (Option.some.inj P2).symm
    subst ex1 ex2
    refine ⟨_, rfl, wpAny_letOwnedTupleGo_zip (s := { s with heap := h', toks := tk }) z' fun h'' z'' sb => ?_⟩
    have hT2 : h''.get? s.heap.objs.size = some { cls := .type "tuple", data := .seq #[x1, x2] } := (sb.2 _ (Nat.ne_of_gt hzl)).trans hT
    have new : ObjOk X.prog X.w (upd H s.heap.objs.size (.tup [x, y])) h'' s.heap.objs.size (.tup [x, y]) :=
      ⟨by show 2 ≤ sizeLine; decide, [x1, x2], .cons ru (.cons ru2 .nil), ⟨_, hT2, rfl, _, rfl⟩⟩
    have I1 : Inv X pins σ (upd H s.heap.objs.size (.tup [x, y])) { s with heap := h'', toks := tk } :=
      I.turnedNew (t' := tk) (ch := [z, TI, TO, i1, i2]) (fun c o hb q => (sb.2 c (fun q' => hb (by simp [q']))).trans (hk c o (fun q' => hb (by simp [q'])) (fun q' => hb (by simp [q'])) (fun q' => hb (by simp [q'])) (fun q' => hb (by simp [q'])) q)) hf (Nat.le_refl _) new
    refine ⟨.ref s.heap.objs.size, _, I1, rfl, ⟨_, x, y, rfl, I.hok.fresh (Nat.le_refl _), rfl, fun l hl => by rw [I.list_inj hl hqx]; exact hx, fun l hl => by rw [I.tuple_inj hl hqy]; exact hy⟩, ⟨z'', ?_, ⟨x1, x2, ?_⟩, ?_, ?_⟩, fun c hcm => ?_⟩
    · exact (sb.2 _ D.TIz).trans (hk _ _ D.TIz D.TITO D.TIi1 D.TIi2 hTI)
    · exact (sb.2 _ D.TOz).trans TO'
    · exact st1'.1.at fun o q => (sb.2 _ D.i1z).trans q
    · exact st2'.1.at fun o q => (sb.2 _ D.i2z).trans q
    · have hlt : c < s.heap.objs.size := by
        have e' : c = z ∨ c = TI ∨ c = TO ∨ c = i1 ∨ c = i2 := by simpa using hcm
        rcases e' with q | q | q | q | q
        · rw [q]; exact hzl
        · rw [q]; exact Heap.lt_size hTI
        · rw [q]; exact Heap.lt_size hTO
        · rw [q]; obtain ⟨_, e1, _⟩ := h1; exact Heap.lt_size e1
        · rw [q]; obtain ⟨_, e2, _⟩ := h2; exact Heap.lt_size e2
      rw [upd_ne (Nat.ne_of_lt hlt)]
      exact (hf c hcm).1
  done := by
    intro X hP hw hK hc i pins s σ H E I hf st hg
    subst hP hw hK
    obtain ⟨hz, hTI, ⟨x0, y0, hTO⟩, h1, h2⟩ := st
    obtain ⟨xs, ys, hqx, hqy, le1, le2, hend⟩ := hg
    obtain ⟨its, rv, p, _⟩ := I.list hqx
    obtain ⟨its2, rv2, p2, _⟩ := I.tuple hqy
    have l1 := rv.length
    have l2 := rv2.length
    have D1 := Draws.list (prog := X.prog) (w := X.w) (A := X.A.in1) (I.ok.hd hc) i1 a D.l1i1 its.toArray
    have D2 := Draws.tuple (prog := X.prog) (w := X.w) (A := X.A.in1) (I.ok.hd hc) i2 b D.l2i2 its2.toArray
    exact wpAny_pyNext_zipD2_end (apart_sep D) D1 D2 hz hTI hTO ⟨h1, p.isList⟩ ⟨h2, p2⟩ (by simp; omega) (by simp; omega) (by simp; omega) fun h' tk hk => ⟨rfl, I.turnedL (t' := tk) (ch := [z, TI, TO, i1, i2]) (fun c o hb q =>
      hk c o (fun q' => hb (by simp [q'])) (fun q' => hb (by simp [q'])) (fun q' => hb (by simp [q'])) (fun q' => hb (by simp [q'])) q) hf⟩
  self := fun A i s Q E st h => wpAny_pyIter_zip st.1 h
def iZipM (K : PySem.W.Frag) (ta : TA) : TI := fun σ H R => ta σ H fun vs H1 => ∃ a b xs ys, vs = [.ref a, .ref b] ∧ SqL K H1 a xs ∧ SqT K H1 b ys ∧ R (ItzM K a b) H1
theorem pi_zipM {X : Cx} {e e2 : Expr} {ta : TA} {p pos tpos : Pos} {elts : List Expr} {kk : Nat} (hg : Gl X "zip") (hm : X.mg "zip" = none) (ha : PA X [e, e2] ta)
    (hs : starEach [e, e2] X.env = (false, eval e X.env) :: starEach [e2] X.env := by rfl) (hpl : (backTo pos (starEach [e2] X.env)).any (·.1) = false := by rfl) :
    PI X (.Tuple elts kk tpos) (.Call (.Name "zip" p) [e, e2] [] pos) (iZipM X.K ta) := by
  refine ⟨fun pins s σ H R I h => ?_⟩
  refine Call_ (ld_blt I hg hm PyProof.Rows.boot_zip (PyProof.Rows.callWith_type1 (thn (ha.run pos pins s σ H _ I h) fun us s1 ⟨vs, H1, I1, r1, q1⟩ => ?_) hs hpl))
  obtain ⟨a, b, xs, ys, ex, hqx, hqy, q⟩ := q1
  subst ex
  cases r1 with
  | cons r rr =>
    cases rr with
    | cons r' rr =>
      cases rr
      cases r
      cases r'
      have fresh5 : ∀ c, c ∈ [s1.heap.objs.size + 4, s1.heap.objs.size + 2, s1.heap.objs.size + 3, s1.heap.objs.size, s1.heap.objs.size + 1] → FpOk X pins H1 c := fun c hcm => by
        have e' : c = s1.heap.objs.size + 4 ∨ c = s1.heap.objs.size + 2 ∨ c = s1.heap.objs.size + 3 ∨ c = s1.heap.objs.size ∨ c = s1.heap.objs.size + 1 := by simpa using hcm
        have hle : s1.heap.objs.size ≤ c := by
          rcases e' with z | z | z | z | z
          · rw [z]; exact Nat.le_add_right _ _
          · rw [z]; exact Nat.le_add_right _ _
          · rw [z]; exact Nat.le_add_right _ _
          · rw [z]; exact Nat.le_refl _
          · rw [z]; exact Nat.le_add_right _ _
        exact I1.fpOk hle (I1.hok.fresh hle)
      obtain ⟨its, rv, p1, _⟩ := I1.list hqx
      obtain ⟨its2, rv2, p2, _⟩ := I1.tuple hqy
      obtain ⟨o2, ho2, _⟩ := id p2
      refine call_zipM p1.isList (show s1.heap.IsTuple b its2.toArray from p2) fun h' hz hTI hTO h1 h2 hk => wpAny_pyIter_zip hz ?_
      have I2 : Inv X pins σ H1 { s1 with heap := h' } := I1.kept (t' := s1.toks) hk
      exact ⟨s1.heap.objs.size + 4, [s1.heap.objs.size + 4, s1.heap.objs.size + 2, s1.heap.objs.size + 3, s1.heap.objs.size, s1.heap.objs.size + 1], _, _, H1, rfl, I2, turn_zipM (PySem.W.ktu_apart s1.heap.objs.size a b p1.lt (Heap.lt_size ho2)), ⟨hz, hTI, ⟨_, _, hTO⟩, h1, h2⟩, fresh5, q⟩
/-! ### by values -/
def isL : D → Option (List D)
  | .lst ds => some ds
  | _ => none
def isT : D → Option (List D)
  | .tup ds => some ds
  | .kt ds => some ds
  | _ => none
def zipD (xs ys : List D) : List D := (xs.zip ys).map fun q => D.tup [q.1, q.2]
theorem zipD_len (xs ys : List D) : (zipD xs ys).length = min xs.length ys.length := by unfold zipD; rw [List.length_map, List.length_zip]
theorem zipD_get {xs ys : List D} {i : Nat} {d : D} (h : (zipD xs ys)[i]? = some d) : ∃ x y, xs[i]? = some x ∧ ys[i]? = some y ∧ d = .tup [x, y] := by
  unfold zipD at h
  rw [List.getElem?_map] at h
  cases e : (xs.zip ys)[i]? with
  | none => rw [e] at h; cases h
  | some q =>
    rw [e] at h
    cases h
    obtain ⟨h1, h2⟩ := List.getElem?_zip_eq_some.mp (show (xs.zip ys)[i]? = some (q.1, q.2) from e)
    exact ⟨q.1, q.2, h1, h2, rfl⟩
section
variable {X : Cx} {W : WX}
/-- the new pair laid -/
theorem pair_laid {p : Par} {G : Hp} {σ : L2.St} {H : Hp} {ρ : List Sl} {T : Addr} {x y : V} {dx dy : D} (A : Abs p G σ H ρ) (hT : H T = none) (rx : Rep p.K G dx x) (ry : Rep p.K G dy y) :
    ∃ G'', Abs p G'' σ (upd H T (.tup [x, y])) ρ ∧ Same G G'' ∧ Rep p.K G'' (.tup [dx, dy]) (.ref T) := by
  obtain ⟨A2, s2⟩ := A.laidS (o := .tup [x, y]) hT
  exact ⟨_, A2, s2, T, _, rfl, upd_same, .cons (rx.mono s2) (.one (ry.mono s2))⟩
theorem it2_zip {p : Par} {G : Hp} {a b : Addr} {J : It} {xs ys : List V} {dx dy : List D} (rx : RepL p.K G dx xs) (ry : RepL p.K G dy ys)
    (go : ∀ p2 G2 σ2 H2 ρ2, p2.K = p.K → p2.L = p.L → Abs p2 G2 σ2 H2 ρ2 → Same G G2 → ∀ i x y, xs[i]? = some x → ys[i]? = some y → J.go i H2 ∧ ∀ v H'', J.yld i H2 v H'' → ∃ T, v = .ref T ∧ H2 T = none ∧ H'' = upd H2 T (.tup [x, y]))
    (stop : ∀ p2 G2 σ2 H2 ρ2, p2.K = p.K → p2.L = p.L → Abs p2 G2 σ2 H2 ρ2 → Same G G2 → J.stop (min xs.length ys.length) H2) : It2 p J (zipD dx dy) G := by
  refine ⟨fun p2 G2 σ2 H2 ρ2 k2 l2 A2 s2 => by rw [zipD_len, rx.length, ry.length]; exact stop p2 G2 σ2 H2 ρ2 k2 l2 A2 s2, fun i d hi p2 G2 σ2 H2 ρ2 k2 l2 A2 s2 => ?_⟩
  obtain ⟨d1, d2, e1, e2, rfl⟩ := zipD_get hi
  obtain ⟨x, f1, r1⟩ := rx.get e1
  obtain ⟨y, f2, r2⟩ := ry.get e2
  obtain ⟨g, yl⟩ := go p2 G2 σ2 H2 ρ2 k2 l2 A2 s2 i x y f1 f2
  refine ⟨g, fun v H'' hy => ?_⟩
  obtain ⟨T, ev, hT, eH⟩ := yl v H'' hy
  subst ev eH
  rw [← k2] at r1 r2
  exact pair_laid A2 hT (r1.mono s2) (r2.mono s2)
def wZip (k1 k2 : D → Option (List D)) (wa : A2) : I2 := fun ρ Q R => wa ρ (fun ds ρ1 => match ds with
  | [d1, d2] => match k1 d1, k2 d2 with
    | some xs, some ys => Q (zipD xs ys) ρ1
    | _, _ => False
  | _ => False) R
theorem RepL.two {K : PySem.W.Frag} {G : Hp} {d d' : D} {vs : List V} (h : RepL K G [d, d'] vs) : ∃ v v', vs = [v, v'] ∧ Rep K G d v ∧ Rep K G d' v' := by
  obtain ⟨v, r, e, h1, v', r', e', h2, t⟩ := h
  exact ⟨v, v', by rw [e, e', show r' = [] from t], h1, h2⟩
theorem repT {p : Par} {G : Hp} {d : D} {v : V} {ds : List D} (h : isT d = some ds) (r : Rep p.K G d v) : ∃ a xs, v = .ref a ∧ RepL p.K G ds xs ∧ ∀ p2 G2 σ2 H2 ρ2, p2.K = p.K → Abs p2 G2 σ2 H2 ρ2 → Same G G2 → SqT p.K H2 a xs := by
  cases d <;> first | cases h
  · obtain ⟨a, xs, e, q, rl⟩ := r
    exact ⟨a, xs, e, rl, fun p2 G2 σ2 H2 ρ2 k2 A2 s2 => .of (A2.toBas.get (s2 _ _ q) rfl)⟩
  · obtain ⟨a, xs, e, q, rl⟩ := r
    exact ⟨a, xs, e, rl, fun p2 G2 σ2 H2 ρ2 k2 A2 s2 => by rw [← k2]; exact A2.toBas.sqT (Same.seqT s2 (by rw [k2]; exact q))⟩
theorem repLs {p : Par} {G : Hp} {d : D} {v : V} {ds : List D} (h : isL d = some ds) (r : Rep p.K G d v) : ∃ a xs, v = .ref a ∧ RepL p.K G ds xs ∧ ∀ p2 G2 σ2 H2 ρ2, p2.K = p.K → Abs p2 G2 σ2 H2 ρ2 → Same G G2 → SqL p.K H2 a xs := by
  cases d <;> first | cases h
  obtain ⟨a, xs, e, q, rl⟩ := r
  exact ⟨a, xs, e, rl, fun p2 G2 σ2 H2 ρ2 k2 A2 s2 => .of (A2.toBas.get (s2 _ _ q) rfl)⟩
theorem SqL.fix {K : PySem.W.Frag} {H : Hp} {a : Addr} {xs ys : List V} {i : Nat} {x : V} (f : ∀ zs, SqL K H a zs → zs[i]? = some x) (h : SqL K H a xs) {y : V} (e : xs[i]? = some y) : x = y := Option.some.inj ((f xs h).symm.trans e)
theorem pi2_zipM {e e2 : Expr} {wa : A2} {p pos tpos : Pos} {elts : List Expr} {kk : Nat} (hm : X.mg "zip" = none) (ha : PA2 X W [e, e2] wa) (hg : Gl X "zip" := by rfl)
    (hs : starEach [e, e2] X.env = (false, eval e X.env) :: starEach [e2] X.env := by rfl) (hpl : (backTo pos (starEach [e2] X.env)).any (·.1) = false := by rfl) :
    PI2 X W (.Tuple elts kk tpos) (.Call (.Name "zip" p) [e, e2] [] pos) (wZip isL isT wa) := by
  obtain ⟨t, h1, r1⟩ := ha.ex
  refine ⟨_, pi_zipM hg hm h1 hs hpl, fun p G σ H ρ Q R C hK A hz hw hc => ?_⟩
  refine r1 p G σ H ρ _ R _ hK A hz hw fun G1 H1 ds ρ1 vs A1 s1 o1 q1 => ?_
  split at q1
  · rename_i d1 d2
    obtain ⟨v1, v2, rfl, rp1, rp2⟩ := o1.two
    cases e1 : isL d1 with
    | none => rw [e1] at q1; exact q1.elim
    | some xs =>
      cases e2 : isT d2 with
      | none => rw [e1, e2] at q1; exact q1.elim
      | some ys =>
        rw [e1, e2] at q1
        obtain ⟨a, vx, rfl, rl1, sq1⟩ := repLs e1 rp1
        obtain ⟨b, vy, rfl, rl2, sq2⟩ := repT e2 rp2
        rw [← hK]
        refine ⟨a, b, vx, vy, rfl, sq1 p G1 σ H1 ρ1 rfl A1 (Same.refl _), sq2 p G1 σ H1 ρ1 rfl A1 (Same.refl _), hc G1 H1 _ _ ρ1 A1 s1 (it2_zip (a := a) (b := b) rl1 rl2 (fun p2 G2 σ2 H2 ρ2 k2 _ A2 s2 i x y f1 f2 => ?_) fun p2 G2 σ2 H2 ρ2 k2 _ A2 s2 => ?_) q1⟩
        · have u1 := sq1 p2 G2 σ2 H2 ρ2 k2 A2 s2
          have u2 := sq2 p2 G2 σ2 H2 ρ2 k2 A2 s2
          refine ⟨⟨vx, vy, x, y, u1, u2, f1, f2⟩, fun v H'' ⟨T, x', y', ev, hT, eH, g1, g2⟩ => ⟨T, ev, hT, ?_⟩⟩
          rw [eH, Option.some.inj ((g1 vx u1).symm.trans f1), Option.some.inj ((g2 vy u2).symm.trans f2)]
        · exact ⟨vx, vy, sq1 p2 G2 σ2 H2 ρ2 k2 A2 s2, sq2 p2 G2 σ2 H2 ρ2 k2 A2 s2, Nat.min_le_left .., Nat.min_le_right .., by omega⟩
  · exact q1.elim
theorem pi2_zipT {e e2 : Expr} {wa : A2} {p pos tpos : Pos} {elts : List Expr} {kk : Nat} (hm : X.mg "zip" = none) (ha : PA2 X W [e, e2] wa) (hg : Gl X "zip" := by rfl)
    (hs : starEach [e, e2] X.env = (false, eval e X.env) :: starEach [e2] X.env := by rfl) (hpl : (backTo pos (starEach [e2] X.env)).any (·.1) = false := by rfl) :
    PI2 X W (.Tuple elts kk tpos) (.Call (.Name "zip" p) [e, e2] [] pos) (wZip isT isT wa) := by
  obtain ⟨t, h1, r1⟩ := ha.ex
  refine ⟨_, pi_zipA hg hm h1 hs hpl, fun p G σ H ρ Q R C hK A hz hw hc => ?_⟩
  refine r1 p G σ H ρ _ R _ hK A hz hw fun G1 H1 ds ρ1 vs A1 s1 o1 q1 => ?_
  split at q1
  · rename_i d1 d2
    obtain ⟨v1, v2, rfl, rp1, rp2⟩ := o1.two
    cases e1 : isT d1 with
    | none => rw [e1] at q1; exact q1.elim
    | some xs =>
      cases e2 : isT d2 with
      | none => rw [e1, e2] at q1; exact q1.elim
      | some ys =>
        rw [e1, e2] at q1
        obtain ⟨a, vx, rfl, rl1, sq1⟩ := repT e1 rp1
        obtain ⟨b, vy, rfl, rl2, sq2⟩ := repT e2 rp2
        rw [← hK]
        refine ⟨a, b, vx, vy, rfl, .inr ⟨sq1 p G1 σ H1 ρ1 rfl A1 (Same.refl _), sq2 p G1 σ H1 ρ1 rfl A1 (Same.refl _), hc G1 H1 _ _ ρ1 A1 s1 (it2_zip (a := a) (b := b) rl1 rl2 (fun p2 G2 σ2 H2 ρ2 k2 _ A2 s2 i x y f1 f2 => ?_) fun p2 G2 σ2 H2 ρ2 k2 _ A2 s2 => ?_) q1⟩⟩
        · have u1 := sq1 p2 G2 σ2 H2 ρ2 k2 A2 s2
          have u2 := sq2 p2 G2 σ2 H2 ρ2 k2 A2 s2
          refine ⟨⟨vx, vy, x, y, u1, u2, f1, f2⟩, fun v H'' ⟨T, x', y', ev, hT, eH, g1, g2⟩ => ⟨T, ev, hT, ?_⟩⟩
          rw [eH, Option.some.inj ((g1 vx u1).symm.trans f1), Option.some.inj ((g2 vy u2).symm.trans f2)]
        · exact ⟨vx, vy, sq1 p2 G2 σ2 H2 ρ2 k2 A2 s2, sq2 p2 G2 σ2 H2 ρ2 k2 A2 s2, by omega⟩
  · exact q1.elim
end
end Z

set_option maxHeartbeats 2000000
namespace Z
set_option autoImplicit false
open PySem PySem.Spec PyProof.Rows L2
/-! ### the law's store -/
def okS : Nat → Int → Prop
  | 1, n => 0 ≤ n
  | 2, n => 0 ≤ n ∧ n < 2147483648
  | 3, n => 0 ≤ n
  | 4, _ => True
  | 5, _ => True
  | _, _ => False
def wStIx (i : Nat) (k : Nat) : W2 := fun ρ Q _ => ρ[i]? = some .st ∧ (match k with
  | 0 => ∀ cells : List Int, cells.length ≤ 63 → Q (.val (.lst (cells.map D.int))) ρ
  | k => ∀ n, okS k n → Q (.val (.int n)) ρ)
section
variable {p : Par} {G H : Hp} {σ : L2.St} {ρ : List Sl} {a : Addr}
theorem StoC.cells (h : StoC p.K G H a) : ∃ (b : Addr) (cells : List Int) (f : Nat → Int), H a = some (.lst [.ref b, .int (f 1), .int (f 2), .int (f 3), .int (f 4), .int (f 5)]) ∧ G b = some (.lst (cells.map V.int)) ∧ cells.length ≤ 63 ∧ ∀ k, 0 < k → k < 6 → okS k (f k) := by
  obtain ⟨b, cells, i, s, c, x, y, h1, h2, h3, h4, h5, h6, h7⟩ := h
  refine ⟨b, cells, fun k => if k = 1 then i else if k = 2 then s else if k = 3 then c else if k = 4 then x else y, h1, h2, h5, fun k k0 k6 => ?_⟩
  have e : k = 1 ∨ k = 2 ∨ k = 3 ∨ k = 4 ∨ k = 5 := by omega
  rcases e with e | e | e | e | e <;> subst e
  · exact h3
  · exact ⟨h6, h7⟩
  · exact h4
  · exact trivial
  · exact trivial
theorem StoC.of (b : Addr) (cells : List Int) (f : Nat → Int) (h1 : H a = some (.lst [.ref b, .int (f 1), .int (f 2), .int (f 3), .int (f 4), .int (f 5)])) (h2 : G b = some (.lst (cells.map V.int))) (h3 : cells.length ≤ 63) (h4 : ∀ k, 0 < k → k < 6 → okS k (f k)) : StoC p.K G H a :=
  ⟨b, cells, f 1, f 2, f 3, f 4, f 5, h1, h2, h4 1 (by omega) (by omega), h4 3 (by omega) (by omega), h3, (h4 2 (by omega) (by omega)).1, (h4 2 (by omega) (by omega)).2⟩
theorem Abs.sto_at (A : Abs p G σ H ρ) {i : Nat} (h : ρ[i]? = some .st) : ∃ a, σ[i]? = some (some (.ref a)) ∧ p.st = some a ∧ StoC p.K G H a := by
  have hi : i < σ.length := by rw [← A.len]; exact (List.getElem?_eq_some_iff.mp h).1
  obtain ⟨a, e, hs⟩ := A.slots i _ _ h (List.getElem?_eq_getElem hi)
  exact ⟨a, by rw [List.getElem?_eq_getElem hi, e], hs, (A.sto a hs).1⟩
/-- the store's cell is changed -/
theorem Abs.stWrite (A : Abs p G σ H ρ) {o : HO} (hs : p.st = some a) (c : StoC p.K G (upd H a o) a) : Abs p G σ (upd H a o) ρ := by
  obtain ⟨_, ga, fa⟩ := A.sto a hs
  refine A.ext ⟨fun b u e hl => by rw [upd_ne (ne_of_none e ga)]; exact A.same b u e hl, fun b w hl => ?_, fun b u e hl => by rw [upd_ne (ne_of_none e fa)]; exact A.frame b u e hl, A.dom, fun b hb => ?_⟩ (Same.refl G) fun b u h1 h2 h3 h4 => ⟨h2, ?_⟩
  · obtain ⟨u, ob, e0, e, q, z⟩ := A.lock b w hl
    exact ⟨u, ob, e0, e, q, by rw [upd_ne (ne_of_none e ga)]; exact z⟩
  · rw [hs] at hb
    cases hb
    exact ⟨c, ga, fa⟩
  · rw [upd_ne (fun z => h3 (by rw [hs, z]))]
    exact h4
end
section
variable {X : Cx} {W : WX}
theorem pe2_stIx (i : Nat) (k : Nat) {x : Str} {p1 p2 pos : Pos} {j : Nat} (hk : k < 6) (hN : X.N[i]? = some x := by rfl) (hv : Vis X.env.scope x := by first | exact Or.inl rfl | exact Or.inr (Or.inl rfl) | exact Or.inr (Or.inr rfl)) (hd : (x == ("__debug__" : Str)) = false := by decide)
    (hcd : (x == ("__classdict__" : Str)) = false := by decide) (hs : PlainIx (.Constant (.int (k : Int)) j p2) := by exact fun _ _ => rfl) : PE2 X W (.Subscript (.Name x p1) (.Constant (.int (k : Int)) j p2) pos) (wStIx i k) := by
  refine ⟨_, pe_ix ix_seq (pe_var hN hv hd hcd) pe_int hs, fun p G σ H ρ Q R C hK A hz hw hc => ?_⟩
  obtain ⟨h1, hw⟩ := hw
  obtain ⟨a, e1, e2, c⟩ := A.sto_at h1
  obtain ⟨b, cells, f, h2, h3, h4, h5⟩ := StoC.cells (p := p) c
  refine ⟨.ref a, e1, .inl ⟨a, _, (k : Int), if k = 0 then .ref b else .int (f k), rfl, rfl, .of h2, ?_, ?_⟩⟩
  · have e : k = 0 ∨ k = 1 ∨ k = 2 ∨ k = 3 ∨ k = 4 ∨ k = 5 := by omega
    rcases e with e | e | e | e | e | e <;> subst e <;> rfl
  · by_cases hk0 : k = 0
    · subst hk0
      exact hc G H (.val (.lst (cells.map D.int))) ρ _ A (Same.refl G) ⟨b, _, rfl, h3, RepL.ints.mpr rfl⟩ (hw cells h4)
    · rw [if_neg hk0]
      have hw' : ∀ n, okS k n → Q (.val (.int n)) ρ := by
        cases k with
        | zero => exact absurd rfl hk0
        | succ k => exact hw
      exact hc G H (.val (.int (f k))) ρ _ A (Same.refl G) rfl (hw' _ (h5 k (by omega) hk))
/-- store[k] = e -/
def wStSet (i : Nat) (k : Nat) (we : O2) : TS2 := fun nx D ρ => we ρ (fun b ρ1 => match bD ρ1 b with
  | some (.int n) => okS k n ∧ ρ1[i]? = some .st ∧ nx ρ1
  | _ => False) D.ex
theorem ps2_stSet (i : Nat) (k : Nat) {x : Str} {e : Expr} {p1 p2 p3 pos : Pos} {j : Nat} {we : O2} (h0 : 0 < k) (hk : k < 6) (he : PB2 X W e we) (hN : X.N[i]? = some x := by rfl) (hv : Vis X.env.scope x := by first | exact Or.inl rfl | exact Or.inr (Or.inl rfl) | exact Or.inr (Or.inr rfl)) (hd : (x == ("__debug__" : Str)) = false := by decide)
    (hcd : (x == ("__classdict__" : Str)) = false := by decide)
    (ha : ∀ v, assign (.Subscript (.Name x p1) (.Constant (.int (k : Int)) j p2) p3) X.env v = (do
      let ov ← holding [v] (eval (.Name x p1) X.env)
      let iv ← holding [v, ov] (eval (.Constant (.int (k : Int)) j p2) X.env)
      standAt p3
      holding [v, ov, iv] (setItem ov iv v)
      release [v, ov, iv] []) := by intro _; rfl)
    (hs : swapsWithSole [.Subscript (.Name x p1) (.Constant (.int (k : Int)) j p2) p3] e pos.line X.env = pure false := by rfl) (hw : swappedStores [.Subscript (.Name x p1) (.Constant (.int (k : Int)) j p2) p3] e X.env = pure none := by rfl)
    (h1 : (assignEach [.Subscript (.Name x p1) (.Constant (.int (k : Int)) j p2) p3] X.env).map (·.2) = [assign (.Subscript (.Name x p1) (.Constant (.int (k : Int)) j p2) p3) X.env] := by rfl) :
    PS2 X W (.Assign [.Subscript (.Name x p1) (.Constant (.int (k : Int)) j p2) p3] e pos) (wStSet i k we) := by
  obtain ⟨t, g1, r1⟩ := he.ex
  refine ⟨_, ps_asg g1 (pg_sub (pe_var hN hv hd hcd) pe_int set_list ha) hs hw h1, fun p G σ H ρ nx D2 D hK A E hw => ?_⟩
  refine r1 p G σ H ρ _ D2.ex _ hK A (E.rz σ) hw fun G1 H1 b1 ρ1 v1 A1 s1 o1 q1 => ?_
  cases e1 : bD ρ1 b1 with
  | none => rw [e1] at q1; exact q1.elim
  | some d =>
    rw [e1] at q1
    have bo := A1.opd o1 e1
    cases d with
    | int n =>
      have ev : v1 = .int n := bo
      subst ev
      obtain ⟨hn, hst, q⟩ := q1
      obtain ⟨a, f1, f2, c⟩ := A1.sto_at hst
      obtain ⟨b, cells, f, h2, h3, h4, h5⟩ := StoC.cells (p := p) c
      refine ⟨.ref a, f1, a, _, (k : Int), k, rfl, rfl, h2, ?_, ?_⟩
      · have e : k = 1 ∨ k = 2 ∨ k = 3 ∨ k = 4 ∨ k = 5 := by omega
        rcases e with e | e | e | e | e <;> subst e <;> rfl
      · refine E.nx G1 σ _ ρ1 (A1.stWrite f2 (StoC.of (p := p) b cells (fun m => if m = k then n else f m) ?_ h3 h4 fun m m0 m6 => ?_)) s1 q
        · have e : k = 1 ∨ k = 2 ∨ k = 3 ∨ k = 4 ∨ k = 5 := by omega
          rw [upd_same]
          rcases e with e | e | e | e | e <;> subst e <;> rfl
        · by_cases hm : m = k
          · rw [if_pos hm, hm]; exact hn
          · rw [if_neg hm]; exact h5 m m0 m6
    | _ => exact q1.elim
/-! ### the store is made -/
def Par.sto (p : Par) (a : Addr) : Par := { p with st := some a }
/-- a body where no store stands yet -/
structure PSs2N (X : Cx) (W : WX) (st : List Stmt) (w : TS2) : Prop where
  ex : ∃ t, PSs X st t ∧ ∀ (p : Par) (G : Hp) (σ : L2.St) (H : Hp) (ρ : List Sl) (nx : List Sl → Prop) (D2 : E2) (D : Ends), p.K = X.K → p.st = none → Abs p G σ H ρ → EndsOk p W G nx D2 D → w nx D2 ρ → t D σ H
def retE (E : E2) : E2 := { rt := fun r => ∃ d, r = .val d ∧ flat d = true ∧ E.rt r }
/-- the body's rest runs over the store: it must end by a return -/
def wMkSto (i : Nat) (w : W2) (rest : TS2) : TS2 := fun nx E ρ => w ρ (fun r ρ1 => ∃ (ns : List Int) (s : Int), r = .own (.lst [.lst (ns.map D.int), .int 0, .int s, .int 0, .int 0, .int 0]) ∧ ns.length ≤ 63 ∧ 0 ≤ s ∧ s < 2147483648 ∧ rest (fun _ => False) (retE E) (ρ1.set i .st)) E.ex
theorem Abs.toSto {p : Par} {G H : Hp} {σ : L2.St} {ρ : List Sl} {a : Addr} (A : Abs p G σ H ρ) (hn : p.st = none) (f : Free p G a) (n : NotOwn σ ρ a) (S : StoC p.K G H a) (i : Nat) : Abs (p.sto a) G (σ.set i (some (.ref a))) H (ρ.set i .st) := by
  refine { same := A.same, lock := A.lock, frame := A.frame, dom := A.dom, sto := fun b' hb' => ?_, len := by rw [List.length_set, List.length_set]; exact A.len, slots := fun j sl v' g1 g2 => ?_, dist := fun j k sl sl' v' w' b' hjk g1 g2 g3 g4 g5 g6 => ?_ }
  · have e : a = b' := Option.some.inj hb'
    subst e
    exact ⟨S, f.g, f.f⟩
  · by_cases hj : j = i
    · subst hj
      have hl : j < ρ.length := by
        have := (List.getElem?_eq_some_iff.mp g1).1
        rw [List.length_set] at this
        exact this
      rw [List.getElem?_set_self hl] at g1
      rw [List.getElem?_set_self (by rw [← A.len]; exact hl)] at g2
      cases g1
      cases g2
      exact ⟨a, rfl, rfl⟩
    · rw [List.getElem?_set_ne (Ne.symm hj)] at g1 g2
      have o := A.slots j sl v' g1 g2
      cases sl with
      | un => trivial
      | sh d => exact o
      | st =>
        obtain ⟨a', e', hs'⟩ := o
        rw [hn] at hs'
        cases hs'
      | ow d =>
        obtain ⟨a', e', f', c'⟩ := o
        subst e'
        refine ⟨a', rfl, ⟨f'.f, f'.g, fun z => ?_⟩, c'⟩
        have e : a = a' := Option.some.inj z
        subst e
        exact n j _ _ g1 g2 rfl
  · have key : ∀ {j : Nat} {t : Sl} {y : Option V}, (ρ.set i .st)[j]? = some t → (σ.set i (some (.ref a)))[j]? = some y → ownAdr t y = some b' → ρ[j]? = some t ∧ σ[j]? = some y := fun {j t y} g1 g2 g3 => by
      by_cases hj : j = i
      · subst hj
        have hl : j < ρ.length := by
          have := (List.getElem?_eq_some_iff.mp g1).1
          rw [List.length_set] at this
          exact this
        rw [List.getElem?_set_self hl] at g1
        cases g1
        cases y <;> cases g3
      · rw [List.getElem?_set_ne (Ne.symm hj)] at g1 g2
        exact ⟨g1, g2⟩
    obtain ⟨a1, a2⟩ := key g1 g3 g5
    obtain ⟨b1, b2⟩ := key g2 g4 g6
    exact A.dist j k sl sl' v' w' b' hjk a1 b1 a2 b2 g5 g6
theorem pss2_mkSto (i : Nat) {x : Str} {e : Expr} {pos pos' : Pos} {w : W2} {rest : List Stmt} {wr : TS2} (hN : X.N.Nodup) (he : PE2 X W e w) (hr : PSs2 X W rest wr) (hi : X.N[i]? = some x := by rfl) (hx : Loc X.env.scope x := by first | exact Or.inl rfl | exact Or.inr rfl)
    (hs : swapsWith e (some (.Name x pos')) pos.line X.env = pure false := by rfl) (hf : X.fn x = true ∨ X.env.scope.names.lookup x = some .local := by first | exact .inl rfl | exact .inr rfl | assumption) :
    PSs2N X W (.Assign [.Name x pos'] e pos :: rest) (wMkSto i w wr) := by
  obtain ⟨t, h1, r1⟩ := he.ex
  obtain ⟨u, h2, r2⟩ := hr.ex
  refine ⟨_, pss_cons (ps_set hN hi hx h1 hs hf) h2, fun p G σ H ρ nx D2 E hK hn A EE hw => ?_⟩
  refine r1 p G σ H ρ _ D2.ex _ hK A (EE.rz σ) hw fun G1 H1 r ρ1 v A1 s1 ro q => ?_
  show u E (σ.set i (some v)) H1
  obtain ⟨ns, s, rfl, hns, hs0, hs1, q⟩ := q
  obtain ⟨a, ea, f, c, n⟩ := ro
  subst ea
  obtain ⟨xs, hx1, rl⟩ := c
  obtain ⟨v0, t0, e0, r0, v1, t1, e1, r1', v2, t2, e2, r2', v3, t3, e3, r3, v4, t4, e4, r4, v5, t5, e5, r5, rl⟩ := rl
  obtain ⟨b, zs, eb, hb, rb⟩ := r0
  have ez := RepL.ints.mp rb
  have exs : xs = [.ref b, .int 0, .int s, .int 0, .int 0, .int 0] := by
    rw [e0, e1, e2, e3, e4, e5, eb, show v1 = _ from r1', show v2 = _ from r2', show v3 = _ from r3, show v4 = _ from r4, show v5 = _ from r5, show t5 = [] from rl]
  rw [exs] at hx1
  have S : StoC p.K G1 H1 a := ⟨b, ns, 0, s, 0, 0, 0, hx1, by rw [hb, ez], by omega, by omega, hns, hs0, hs1⟩
  refine r2 (p.sto a) G1 _ H1 _ (fun _ => False) (retE D2) E hK (A1.toSto hn f n S i) ⟨fun _ _ _ _ _ _ z => z.elim, fun G' H' r v B s' o q' => ?_, fun _ _ _ _ _ _ z => z.elim, fun _ _ _ _ _ _ z => z.elim, fun _ _ _ _ _ _ _ _ _ _ z => z.elim⟩ q
  obtain ⟨d, rfl, fd, q'⟩ := q'
  exact EE.rt G' H' (.val d) v ⟨B.same, B.lock, B.frame, B.dom, fun b hb => by rw [hn] at hb; cases hb⟩ (s1.trans s') o q'
end
section
variable {P : Program} {w : World} {K : PySem.W.Frag} {mg : Str → Option Value} {base : Heap} {x : Str} {k : Nat} {S : Sp2}
theorem cal_ofN {sd : Stmt} {N ps : List Str} (F : DefAt K mg x sd ps) (Sc : FnScope N ps (defScope sd)) (len : ∀ ds Q R, S ds Q R → ds.length = ps.length)
    (hb : ∀ (f : Addr) (cdv : Value) (A : Around) (outer : List Env) (s : Shared) (H : Hp) (E : XK), L2N.Takes (cxOf (L2N.CX P w) P w K mg base N x (defScope sd) f cdv A outer s H E) (wE E) →
      PassesOwn (model P w) (A.deeper (envOfC x (defScope sd) s.heap.objs.size f cdv)) (envOfC x (defScope sd) s.heap.objs.size f cdv) (cxOf (L2N.CX P w) P w K mg base N x (defScope sd) f cdv A outer s H E).xe →
      Room k (A.deeper (envOfC x (defScope sd) s.heap.objs.size f cdv)) →
      ∃ w2, PSs2N (cxOf (L2N.CX P w) P w K mg base N x (defScope sd) f cdv A outer s H E) (wE E) (defBody sd) w2 ∧ ∀ ds Q R, S ds Q R → w2 (fun _ => Q (.val .non)) { rt := Q, ex := fun x _ => R x } (start2 false N ds)) : Cal P w K mg base x (k + 1) false S := by
  obtain ⟨f, fd, F1, F2, F3⟩ := F.ex
  refine ⟨f, fd, ps, F1.ok Sc (fun vs H Q E h => ?_) (fun cdv A outer s H vs Q E hr h => ?_), F2, F1.kp, F3⟩
  · obtain ⟨L, G, st, ds, ws, Q2, R2, c, hv, r, hs, _⟩ := h
    rw [← len ds Q2 R2 hs, r.length, show vs = ws from hv.2]
  · obtain ⟨L, G, st, ds, ws, Q2, R2, c, hv, r, hs, hq, he⟩ := h
    obtain ⟨w2, hp, vc⟩ := hb f cdv A outer s H E (L2N.takes_of rfl rfl rfl rfl) (passes_of rfl) hr
    obtain ⟨t, h1, r1⟩ := hp.ex
    refine ⟨t, h1, r1 (callP K L G H st) G _ H _ (fun _ => Q2 (.val .non)) { rt := Q2, ex := fun x _ => R2 x } _ rfl hv.1 (abs_start c hv r) ⟨fun G' σ' H' ρ' A' s' q => ?_, fun G' H' r v B s' o q => hq G' H' r v B s' o q, fun _ _ _ _ _ _ q => False.elim q, fun _ _ _ _ _ _ q => False.elim q, fun G' σ' H' ρ' x cls dd A' s' e q => he G' H' x cls dd A'.toBas s' e q⟩ (vc ds Q2 R2 hs)⟩
    exact hq G' H' (.val .non) .non A'.toBas s' rfl q
end
/-! ### over the script -/
section
variable {X : Cx} {W : WX}
def wScrI (w : V2) : I2 := fun ρ Q R => w ρ (fun d ρ1 => match d with
  | .scr ns => Q (ns.map D.int) ρ1
  | _ => False) R
theorem pi2_scr {tg l : Expr} {w : V2} (h : PV2 X W l w) : PI2 X W tg l (wScrI w) := by
  obtain ⟨t, h1, r1⟩ := h.ex
  refine ⟨_, pi_list h1, fun p G σ H ρ Q R C hK A hz hw hc => ?_⟩
  refine r1 p G σ H ρ _ R _ hK A hz hw fun G' H' d ρ' v A' s o q => ?_
  cases d with
  | scr ns =>
    obtain ⟨a, e1, h2⟩ := o
    have sq : ∀ p2 G2 σ2 H2 ρ2, p2.K = p.K → Abs p2 G2 σ2 H2 ρ2 → Same G' G2 → SqL p.K H2 a (ns.map V.int) := fun p2 G2 σ2 H2 ρ2 k2 A2 s2 => by
      rw [← k2]
      exact A2.toBas.sqL (s2.seq (by rw [k2]; exact h2))
    rw [← hK]
    refine ⟨a, e1, ⟨_, sq p G' σ H' ρ' rfl A' (Same.refl _)⟩, hc G' H' (ns.map D.int) _ ρ' A' s ⟨fun p2 G2 σ2 H2 ρ2 k2 l2 A2 s2 => ?_, fun i d hi p2 G2 σ2 H2 ρ2 k2 l2 A2 s2 => ?_⟩ q⟩
    · exact ⟨_, sq p2 G2 σ2 H2 ρ2 k2 A2 s2, by rw [List.length_map, List.length_map]; exact Nat.le_refl _⟩
    · rw [List.getElem?_map] at hi
      cases e2 : ns[i]? with
      | none => rw [e2] at hi; cases hi
      | some n =>
        rw [e2] at hi
        cases hi
        have hq := sq p2 G2 σ2 H2 ρ2 k2 A2 s2
        have hx : (ns.map V.int)[i]? = some (V.int n) := by rw [List.getElem?_map, e2]; rfl
        refine ⟨⟨_, _, hq, hx⟩, fun y H'' hy => ?_⟩
        obtain ⟨e3, f⟩ := hy
        subst e3
        exact ⟨G2, A2, Same.refl G2, Option.some.inj ((f _ hq).symm.trans hx)⟩
  | _ => exact q.elim
/-! ### xs.pop(i), xs[i] = e -/
theorem RepL.eraseIdx {K : PySem.W.Frag} {G : Hp} : ∀ {ds : List D} {xs : List V} (i : Nat), RepL K G ds xs → RepL K G (ds.eraseIdx i) (xs.eraseIdx i)
  | [], _, _, h => by rw [show _ = [] from h]; rfl
  | d :: ds, _, 0, ⟨x, r, e, h, t⟩ => by rw [e]; exact t
  | d :: ds, _, i + 1, ⟨x, r, e, h, t⟩ => by rw [e]; exact ⟨x, _, rfl, h, RepL.eraseIdx i t⟩
def mPopAt : List D → D → (D → List D → Prop) → Prop := fun ds d Q => match d with
  | .int i => ∃ k y, seqIndex? i ds.length = some k ∧ ds[k]? = some y ∧ (-(2 ^ 63) ≤ i ∧ i < 2 ^ 63) ∧ Q y (ds.eraseIdx k)
  | _ => False
theorem mut1_popAt : Mut1 X rPopAt mPopAt := ⟨fun p G H a xs ds d v Q C ha rl rd hm hc => by
  unfold mPopAt at hm
  cases d with
  | int i =>
    obtain ⟨k, y, h1, h2, h3, q⟩ := hm
    obtain ⟨x, e, rx⟩ := rl.get h2
    exact ⟨a, xs, i, k, x, rfl, by rw [show v = _ from rd], ha, h3.1, h3.2, by rw [← rl.length]; exact h1, e, hc y (ds.eraseIdx k) x _ rx (rl.eraseIdx k) q⟩
  | _ => exact hm.elim⟩
def wLset (i : Nat) (wv : V2) (wk : O2) : TS2 := fun nx E ρ => wv ρ (fun d ρ1 => (∃ ds0, ρ1[i]? = some (.ow (.lst ds0))) ∧ wk ρ1 (fun b ρ2 => match ρ2[i]?, bD ρ2 b with
  | some (.ow (.lst ds)), some (.int k) => ∃ j, ixN ds.length k = some j ∧ nx (ρ2.set i (.ow (.lst (ds.set j d))))
  | _, _ => False) E.ex) E.ex
theorem ps2_lset (i : Nat) {x : Str} {e k : Expr} {p1 p3 pos : Pos} {wv : V2} {wk : O2} (he : PV2 X W e wv) (hk : PB2 X W k wk) (hN : X.N[i]? = some x := by rfl) (hv : Vis X.env.scope x := by first | exact Or.inl rfl | exact Or.inr (Or.inl rfl) | exact Or.inr (Or.inr rfl)) (hd : (x == ("__debug__" : Str)) = false := by decide)
    (hcd : (x == ("__classdict__" : Str)) = false := by decide)
    (ha : ∀ v, assign (.Subscript (.Name x p1) k p3) X.env v = (do
      let ov ← holding [v] (eval (.Name x p1) X.env)
      let iv ← holding [v, ov] (eval k X.env)
      standAt p3
      holding [v, ov, iv] (setItem ov iv v)
      release [v, ov, iv] []) := by intro _; rfl)
    (hs : swapsWithSole [.Subscript (.Name x p1) k p3] e pos.line X.env = pure false := by rfl) (hw : swappedStores [.Subscript (.Name x p1) k p3] e X.env = pure none := by rfl)
    (h1 : (assignEach [.Subscript (.Name x p1) k p3] X.env).map (·.2) = [assign (.Subscript (.Name x p1) k p3) X.env] := by rfl) :
    PS2 X W (.Assign [.Subscript (.Name x p1) k p3] e pos) (wLset i wv wk) := by
  obtain ⟨t, g1, r1⟩ := he.ex
  obtain ⟨u, g2, r2⟩ := hk.ex
  refine ⟨_, ps_asg g1 (pg_sub (pe_var hN hv hd hcd) g2 set_list ha) hs hw h1, fun p G σ H ρ nx D2 E hK A EE hw => ?_⟩
  refine r1 p G σ H ρ _ D2.ex _ hK A (EE.rz σ) hw fun G1 H1 d ρ1 v A1 s1 rd q1 => ?_
  obtain ⟨⟨ds0, e0⟩, q1⟩ := q1
  obtain ⟨a, ea, _⟩ := A1.ownAt e0
  refine ⟨.ref a, ea, ?_⟩
  refine r2 p G1 σ H1 ρ1 _ D2.ex _ hK A1 ((EE.rz σ).mono s1) q1 fun G2 H2 b ρ2 iv A2 s2 o2 q2 => ?_
  cases e2 : ρ2[i]? with
  | none => rw [e2] at q2; exact q2.elim
  | some sl =>
    rw [e2] at q2
    cases sl with
    | ow d2 =>
      cases d2 with
      | lst ds =>
        cases e3 : bD ρ2 b with
        | none => rw [e3] at q2; exact q2.elim
        | some dk =>
          rw [e3] at q2
          have bo := A2.opd o2 e3
          cases dk with
          | int n =>
            obtain ⟨j, hj, q2⟩ := q2
            obtain ⟨a', ea', xs, hx, rl⟩ := A2.ownAt e2
            rw [ea] at ea'
            cases ea'
            exact ⟨a, xs, n, j, rfl, bo, hx, by rw [← rl.length]; exact hj, EE.nx G2 σ _ _ (A2.write (d' := .lst (ds.set j d)) e2 ea ⟨_, upd_same, rl.set j (rd.mono s2)⟩) (s1.trans s2) q2⟩
          | _ => exact q2.elim
      | _ => exact q2.elim
    | _ => exact q2.elim
end
end Z

set_option maxHeartbeats 2000000
/-! dicts of one's own -/
namespace Z
set_option autoImplicit false
open PySem PySem.Spec PyProof.Rows L2
/-- d[k] = v: in its place, or at the end -/
def hasK (ks : List Key) (k : Key) : Bool := ks.any fun q => decide (q = k)
def setA {β : Type} : List Key → List β → Key → β → List β
  | q :: ks, e :: ds, k, d => (if q = k then d else e) :: setA ks ds k d
  | _, _, _, _ => []
def putKs (ks : List Key) (k : Key) : List Key := if hasK ks k = true then ks else ks ++ [k]
def putA {β : Type} (ks : List Key) (ds : List β) (k : Key) (d : β) : List β := if hasK ks k = true then setA ks ds k d else ds ++ [d]
theorem setA_len {β : Type} {k : Key} {d : β} : ∀ {ks : List Key} {ds : List β}, ks.length = ds.length → (setA ks ds k d).length = ds.length
  | [], [], _ => rfl
  | [], _ :: _, h => by cases h
  | _ :: _, [], h => by cases h
  | q :: ks, e :: ds, h => by unfold setA; rw [List.length_cons, List.length_cons, setA_len (Nat.succ.inj h)]
theorem RepL.setA {K : PySem.W.Frag} {G : Hp} {k : Key} {d : D} {v : V} (rv : Rep K G d v) : ∀ {ks : List Key} {ds : List D} {xs : List V}, ks.length = ds.length → RepL K G ds xs → RepL K G (setA ks ds k d) (setA ks xs k v)
  | [], [], xs, _, r => by rw [show xs = [] from r]; rfl
  | [], _ :: _, _, h, _ => by cases h
  | _ :: _, [], _, h, _ => by cases h
  | q :: ks, e :: ds, _, h, ⟨x, t, e1, r1, r2⟩ => by
    subst e1
    refine ⟨_, _, rfl, ?_, RepL.setA rv (Nat.succ.inj h) r2⟩
    by_cases hq : q = k
    · rw [if_pos hq, if_pos hq]; exact rv
    · rw [if_neg hq, if_neg hq]; exact r1
theorem RepL.putA {K : PySem.W.Frag} {G : Hp} {k : Key} {d : D} {v : V} (rv : Rep K G d v) {ks : List Key} {ds : List D} {xs : List V} (h : ks.length = ds.length) (r : RepL K G ds xs) : RepL K G (putA ks ds k d) (putA ks xs k v) := by
  unfold Z.putA
  cases hasK ks k with
  | true => rw [if_pos rfl, if_pos rfl]; exact r.setA rv h
  | false => rw [if_neg Bool.false_ne_true, if_neg Bool.false_ne_true]; exact r.append (.one rv)
theorem putA_len {k : Key} {d : D} {ks : List Key} {ds : List D} (h : ks.length = ds.length) : (putKs ks k).length = (putA ks ds k d).length := by
  unfold putKs putA
  cases hasK ks k with
  | true => rw [if_pos rfl, if_pos rfl, setA_len h, h]
  | false => rw [if_neg Bool.false_ne_true, if_neg Bool.false_ne_true, List.length_append, List.length_append, h]; rfl
theorem any_zip {k : Key} : ∀ {ks : List Key} {xs : List V}, ks.length = xs.length → ((ks.zip xs).any fun kv => decide (kv.1 = k)) = hasK ks k
  | [], _, _ => rfl
  | q :: ks, [], h => by cases h
  | q :: ks, x :: xs, h => by
    rw [List.zip_cons_cons, List.any_cons, any_zip (Nat.succ.inj h)]
    rfl
theorem map_zip {k : Key} {v : V} : ∀ {ks : List Key} {xs : List V}, ks.length = xs.length → (ks.zip xs).map (fun kv => if kv.1 = k then (kv.1, v) else kv) = ks.zip (setA ks xs k v)
  | [], _, _ => rfl
  | q :: ks, [], h => by cases h
  | q :: ks, x :: xs, h => by
    rw [List.zip_cons_cons, List.map_cons, map_zip (Nat.succ.inj h)]
    rw [show setA (q :: ks) (x :: xs) k v = (if q = k then v else x) :: setA ks xs k v from rfl]
    by_cases hq : q = k
    · rw [if_pos hq, if_pos hq]; rfl
    · rw [if_neg hq, if_neg hq]; rfl
theorem putK_zip {k : Key} {v : V} {ks : List Key} {xs : List V} (h : ks.length = xs.length) : putK (ks.zip xs) k v = (putKs ks k).zip (putA ks xs k v) := by
  unfold putK putKs putA
  rw [any_zip h]
  cases hasK ks k with
  | true => rw [if_pos rfl, if_pos rfl, if_pos rfl, map_zip h]
  | false =>
    rw [if_neg Bool.false_ne_true, if_neg Bool.false_ne_true, if_neg Bool.false_ne_true, List.zip_append h]
    rfl
section
variable {X : Cx} {W : WX}
def wDset (i : Nat) (wv : V2) (wk : O2) : TS2 := fun nx E ρ => wv ρ (fun d ρ1 => (∃ ks0 ds0, ρ1[i]? = some (.ow (.dK ks0 ds0))) ∧ wk ρ1 (fun b ρ2 => match ρ2[i]?, bD ρ2 b with
  | some (.ow (.dK ks ds)), some kd => ∃ k, keyD kd = some k ∧ ks.length < sizeLine ∧ nx (ρ2.set i (.ow (.dK (putKs ks k) (putA ks ds k d))))
  | _, _ => False) E.ex) E.ex
theorem ps2_dset (i : Nat) {x : Str} {e k : Expr} {p1 p3 pos : Pos} {wv : V2} {wk : O2} (hu : X.A.units + 64 < cLine) (he : PV2 X W e wv) (hk : PB2 X W k wk) (hN : X.N[i]? = some x := by rfl) (hv : Vis X.env.scope x := by first | exact Or.inl rfl | exact Or.inr (Or.inl rfl) | exact Or.inr (Or.inr rfl)) (hd : (x == ("__debug__" : Str)) = false := by decide)
    (hcd : (x == ("__classdict__" : Str)) = false := by decide) (hs : swapsWith e (some (.Subscript (.Name x p1) k p3)) pos.line X.env = pure false := by rfl) :
    PS2 X W (.Assign [.Subscript (.Name x p1) k p3] e pos) (wDset i wv wk) := by
  obtain ⟨t, g1, r1⟩ := he.ex
  obtain ⟨u, g2, r2⟩ := hk.ex
  refine ⟨_, ps_dput (by omega) (pe_var hN hv hd hcd) g2 g1 hs, fun p G σ H ρ nx D2 E hK A EE hw => ?_⟩
  refine r1 p G σ H ρ _ D2.ex _ hK A (EE.rz σ) hw fun G1 H1 d ρ1 v A1 s1 rd q1 => ?_
  obtain ⟨⟨ks0, ds0, e0⟩, q1⟩ := q1
  obtain ⟨a, ea, _⟩ := A1.ownAt e0
  refine ⟨.ref a, ea, ?_⟩
  refine r2 p G1 σ H1 ρ1 _ D2.ex _ hK A1 ((EE.rz σ).mono s1) q1 fun G2 H2 b ρ2 iv A2 s2 o2 q2 => ?_
  cases e2 : ρ2[i]? with
  | none => rw [e2] at q2; exact q2.elim
  | some sl =>
    rw [e2] at q2
    cases sl with
    | ow d2 =>
      cases d2 with
      | dK ks ds =>
        cases e3 : bD ρ2 b with
        | none => rw [e3] at q2; exact q2.elim
        | some dk =>
          rw [e3] at q2
          have bo := A2.opd o2 e3
          obtain ⟨k, hkk, hsz, q2⟩ := q2
          obtain ⟨a', ea', xs, hx, hl, rl⟩ := A2.ownAt e2
          rw [ea] at ea'
          cases ea'
          have hlx : ks.length = xs.length := by rw [hl, rl.length]
          refine ⟨a, _, rfl, .inl ⟨ks.zip xs, k, hx, kV_bor bo hkk, by rw [List.length_zip, ← hlx, Nat.min_self]; exact hsz, rfl⟩, EE.nx G2 σ _ _ (A2.write (d' := .dK (putKs ks k) (putA ks ds k d)) e2 ea ⟨putA ks xs k v, by rw [upd_same, putK_zip hlx], putA_len hl, rl.putA (rd.mono s2) hl⟩) (s1.trans s2) q2⟩
      | _ => exact q2.elim
    | _ => exact q2.elim
/-! ### d.get(k, x) -/
def wDget2 (wo wk wx : O2) : W2 := fun ρ Q R => wo ρ (fun b1 ρ1 => (∃ ks ds, bD ρ1 b1 = some (.dK ks ds)) ∧ wk ρ1 (fun b2 ρ2 => wx ρ2 (fun b3 ρ3 => match bD ρ3 b1, bD ρ3 b2, bD ρ3 b3 with
  | some (.dK ks ds), some kd, some x => flat x = true ∧ ∃ k, keyD kd = some k ∧ Q (.val ((look ks ds k).getD x)) ρ3
  | _, _, _ => False) R) R) R
theorem bor_flat {K : PySem.W.Frag} {G H : Hp} {d : D} {v : V} (f : flat d = true) (h : Bor K G H d v) : Rep K G d v := by
  cases d <;> first | exact h | (exact Bool.noConfusion f)
theorem pe2_dget2 {o k x : Expr} {apos cpos : Pos} {wo wk wx : O2} (hu : X.A.units + 64 < cLine) (ho : PB2 X W o wo) (hk : PB2 X W k wk) (hx : PB2 X W x wx) (m : M2 X o "get" apos k x cpos := by exact ⟨rfl, rfl, rfl, rfl⟩) :
    PE2 X W (.Call (.Attribute o "get" apos) [k, x] [] cpos) (wDget2 wo wk wx) := by
  obtain ⟨to, g1, r1⟩ := ho.ex
  obtain ⟨tk, g2, r2⟩ := hk.ex
  obtain ⟨tx, g3, r3⟩ := hx.ex
  refine ⟨_, pe_dget2 (by omega) g1 g2 g3 m, fun p G σ H ρ Q R C hK A hz hw hc => ?_⟩
  refine r1 p G σ H ρ _ R _ hK A hz hw fun G1 H1 b1 ρ1 v1 A1 s1 o1 q1 => ?_
  obtain ⟨⟨ks0, ds0, e0⟩, q1⟩ := q1
  obtain ⟨a, xs0, ea, rd0, l0, rl0⟩ := (show Bor p.K G1 H1 (.dK ks0 ds0) v1 from A1.opd o1 e0)
  subst ea
  refine ⟨a, rfl, .inl ⟨_, rd0⟩, ?_⟩
  refine r2 p G1 σ H1 ρ1 _ R _ hK A1 (hz.mono s1) q1 fun G2 H2 b2 ρ2 v2 A2 s2 o2 q2 => ?_
  refine r3 p G2 σ H2 ρ2 _ R _ hK A2 (hz.mono (s1.trans s2)) q2 fun G3 H3 b3 ρ3 v3 A3 s3 o3 q3 => ?_
  cases e1 : bD ρ3 b1 with
  | none => rw [e1] at q3; exact q3.elim
  | some d1 =>
    cases e2 : bD ρ3 b2 with
    | none => rw [e1, e2] at q3; cases d1 <;> exact q3.elim
    | some kd =>
      cases e3 : bD ρ3 b3 with
      | none => rw [e1, e2, e3] at q3; cases d1 <;> exact q3.elim
      | some xd =>
        rw [e1, e2, e3] at q3
        have bo1 := A3.opd ((o1.mono s2).mono s3) e1
        have bo2 := A3.opd (o2.mono s3) e2
        have bo3 := A3.opd o3 e3
        cases d1 with
        | dK ks ds =>
          obtain ⟨fx, k, hkk, q⟩ := q3
          obtain ⟨a', o', ea', dg, hs, hv⟩ := dgetK (k := k) bo1
          cases ea'
          refine ⟨o', by rw [kV_bor bo2 hkk]; exact dg, ?_⟩
          cases el : look ks ds k with
          | none =>
            rw [el] at hs q
            cases o' with
            | none => exact hc G3 H3 (.val xd) ρ3 v3 A3 ((s1.trans s2).trans s3) (bor_flat fx bo3) q
            | some w => cases hs
          | some dd =>
            rw [el] at q
            obtain ⟨w, ew, rw'⟩ := hv dd el
            subst ew
            exact hc G3 H3 (.val dd) ρ3 w A3 ((s1.trans s2).trans s3) rw' q
        | _ => exact q3.elim
/-! ### {c: c', ..} of constants -/
inductive CPs : List (Option Expr) → List Expr → List (Key × D) → Prop
  | nil : CPs [] [] []
  | ss {k v : Str} {i j : Nat} {p q : Pos} {ks : List (Option Expr)} {vs : List Expr} {l : List (Key × D)} (r : CPs ks vs l) : CPs (some (.Constant (.str k) i p) :: ks) (.Constant (.str v) j q :: vs) ((.inr k, .str v) :: l)
  | si {k : Str} {v : Int} {i j : Nat} {p q : Pos} {ks : List (Option Expr)} {vs : List Expr} {l : List (Key × D)} (r : CPs ks vs l) : CPs (some (.Constant (.str k) i p) :: ks) (.Constant (.int v) j q :: vs) ((.inr k, .int v) :: l)
theorem CPs.pps {pos : Pos} {ks : List (Option Expr)} {vs : List Expr} {l : List (Key × D)} (h : CPs ks vs l) : ∃ trs xs, PPs X pos ks vs trs ∧ (∀ σ H (Q : List (V × V) → Hp → Prop), Q ((l.map (·.1)).zip xs |>.map fun kv => (kV kv.1, kv.2)) H → tPairs trs σ H Q) ∧ (l.map (·.1)).length = xs.length ∧ ∀ K G, RepL K G (l.map (·.2)) xs := by
  induction h with
  | nil => exact ⟨[], [], pps_nil, fun _ _ _ q => q, rfl, fun _ _ => rfl⟩
  | @ss k v i j p q ks vs l r ih =>
    obtain ⟨trs, xs, h1, h2, h3, h4⟩ := ih
    exact ⟨_, .str v :: xs, pps_cons pe_str pe_str h1, fun σ H Q q => h2 σ H _ q, by rw [List.map_cons, List.length_cons, List.length_cons, h3], fun K G => ⟨_, _, rfl, rfl, h4 K G⟩⟩
  | @si k v i j p q ks vs l r ih =>
    obtain ⟨trs, xs, h1, h2, h3, h4⟩ := ih
    exact ⟨_, .int v :: xs, pps_cons pe_str pe_int h1, fun σ H Q q => h2 σ H _ q, by rw [List.map_cons, List.length_cons, List.length_cons, h3], fun K G => ⟨_, _, rfl, rfl, h4 K G⟩⟩
theorem merge_nodup : ∀ {more kvs : List (Key × V)}, (∀ p ∈ more, ∀ q ∈ kvs, q.1 ≠ p.1) → (more.map (·.1)).Nodup → mergeK kvs more = kvs ++ more
  | [], kvs, _, _ => by show kvs = _; rw [List.append_nil]
  | p :: more, kvs, h, nd => by
    have hp : (kvs.any fun kv => decide (kv.1 = p.1)) = false := by
      rw [List.any_eq_false]
      intro q hq
      simpa using h p List.mem_cons_self q hq
    have e : putK kvs p.1 p.2 = kvs ++ [p] := by
      unfold putK
      rw [hp, if_neg Bool.false_ne_true]
    show mergeK (putK kvs p.1 p.2) more = _
    rw [List.map_cons, List.nodup_cons] at nd
    rw [e, merge_nodup (fun q hq r hr => ?_) nd.2, List.append_assoc]
    · rfl
    · rcases List.mem_append.mp hr with z | z
      · exact h q (List.mem_cons_of_mem _ hq) r z
      · rw [List.mem_singleton.mp z]
        exact fun y => nd.1 (by rw [y]; exact List.mem_map_of_mem hq)
def wDisp (l : List (Key × D)) : W2 := fun ρ Q _ => Q (.own (.dK (l.map (·.1)) (l.map (·.2)))) ρ
theorem pe2_disp {pos : Pos} {ks : List (Option Expr)} {vs : List Expr} {l : List (Key × D)} (h : CPs ks vs l) (nd : (l.map (·.1)).Nodup) (h0 : ks ≠ [] := by exact fun z => nomatch z) (h15 : ks.length ≤ 15 := by decide) (hall : ks.all (·.isSome) = true := by rfl) (hl : ks.length = vs.length := by rfl) (hl2 : ks.length = l.length := by rfl) :
    PE2 X W (.Dict ks vs pos) (wDisp l) := by
  obtain ⟨trs, xs, h1, h2, h3, h4⟩ := CPs.pps (X := X) (pos := pos) h
  refine ⟨_, pe_disp h1 hall hl h0 h15, fun p G σ H ρ Q R C hK A hz hw hc a ha => ?_⟩
  refine h2 _ _ _ ⟨upd_same, (l.map (·.1)).zip xs, rfl, by rw [List.length_zip, ← h3, Nat.min_self, List.length_map]; omega, ?_⟩
  have e : mergeK [] ((l.map (·.1)).zip xs) = (l.map (·.1)).zip xs := by
    rw [merge_nodup (fun _ _ q hq => by cases hq) (by rw [List.map_fst_zip (by omega)]; exact nd)]
    rfl
  rw [e, upd_upd]
  obtain ⟨A2, f, n⟩ := A.laid (o := .dK ((l.map (·.1)).zip xs)) ha
  exact hc G _ (.own (.dK _ _)) ρ _ A2 (Same.refl G) ⟨a, rfl, f, ⟨xs, upd_same, by rw [List.length_map, List.length_map], h4 _ _⟩, n⟩ hw
end
end Z

set_option maxHeartbeats 2000000
namespace Z
set_option autoImplicit false
open PySem PySem.Spec PyProof.Rows L2 HotX L2H
theorem roomH_units {k : Nat} {A : Around} (r : RoomH k A) : A.units + 64 < cLine := by have := r.un; omega
/-- what the written part says of the program's error classes -/
structure ErrsK (K : PySem.W.Frag) (mg : Str → Option Value) (home : Str) (errs flds : List Str) : Prop where
  gl : ∀ c, (c ∈ errs ∨ c = home) → mg c = some (.ref (gAdr K c))
  exc : ∀ c ∈ errs, ExcC K (gAdr K c)
  xf : ∀ c ∈ errs, XfC K (gAdr K c)
  isa : ∀ c ∈ errs, ∀ c' ∈ errs, PySem.W.kitOne K (.ref (gAdr K c)) (.ref (gAdr K c')) = some (decide (c = c'))
  val : ∀ c ∈ errs, PySem.W.kitOne K (.ref (gAdr K c)) (.type "ValueError") = some true
  home : ∀ c ∈ errs, PySem.W.exmOne K (.ref (gAdr K c)) (.ref (gAdr K home)) = some true
  nof : ∀ c ∈ errs, ∀ f ∈ flds, PySem.W.findIn K (.ref (gAdr K c)) f = some none
def knownOf (errs : List Str) (c : Str) : Option Bool := if errs.contains c = true then some true else none
section
variable {X : Cx} {W : WX} {p : Addr × Obj} {cls : Str} {d : Addr} {home : Str} {errs flds : List Str}
theorem ErrsK.known (T : ErrsK X.K X.mg home errs flds) : ∀ cls b, knownOf errs cls = some b → PySem.W.exmOne X.K (.ref (gAdr X.K cls)) (.ref (gAdr X.K home)) = some b := fun cls b h => by
  unfold knownOf at h
  by_cases hc : errs.contains cls = true
  · rw [if_pos hc] at h
    cases h
    exact T.home cls (by simpa using hc)
  · rw [if_neg hc] at h
    cases h
theorem pe2_isErr (i : Nat) {y c : Str} {p1 p2 p3 pos : Pos} (h : Held X p cls d) (T : ErrsK X.K X.mg home errs flds) (hc : cls ∈ errs) (hm : X.mg "isinstance" = none) (hc' : c ∈ errs := by decide) (hgc : Gl X c := by rfl) (hdc : (c == ("__debug__" : Str)) = false := by decide)
    (hN : X.N[i]? = some y := by rfl) (hv : Vis X.env.scope y := by first | exact Or.inl rfl | exact Or.inr (Or.inl rfl) | exact Or.inr (Or.inr rfl)) (hd : (y == ("__debug__" : Str)) = false := by decide) (hcd : (y == ("__classdict__" : Str)) = false := by decide)
    (hg : Gl X "isinstance" := by rfl) (hpl : (backTo pos (starEach [.Name c p3] X.env)).any (·.1) = false := by rfl) (he : starEach [(.Name y p2 : Expr), .Name c p3] X.env = (false, eval (.Name y p2) X.env) :: starEach [.Name c p3] X.env := by rfl)
    (he2 : starEach [(.Name c p3 : Expr)] X.env = (false, eval (.Name c p3) X.env) :: starEach [] X.env := by rfl) :
    PE2 X W (.Call (.Name "isinstance" p1) [.Name y p2, .Name c p3] [] pos) (wIsE i p d (decide (cls = c))) :=
  pe2_isE i h (T.exc cls hc) hm (T.isa cls hc c hc') (pe_glob (v := .ref (gAdr X.K c)) hgc (T.gl c (.inl hc')) rfl hdc) (fun u r => r) hN hv hd hcd hg hpl he he2
theorem pe2_isVal (i : Nat) {y : Str} {p1 p2 p3 pos : Pos} (h : Held X p cls d) (T : ErrsK X.K X.mg home errs flds) (hc : cls ∈ errs) (hm : X.mg "isinstance" = none) (hmv : X.mg "ValueError" = none) (hgc : Gl X "ValueError" := by rfl)
    (hN : X.N[i]? = some y := by rfl) (hv : Vis X.env.scope y := by first | exact Or.inl rfl | exact Or.inr (Or.inl rfl) | exact Or.inr (Or.inr rfl)) (hd : (y == ("__debug__" : Str)) = false := by decide) (hcd : (y == ("__classdict__" : Str)) = false := by decide)
    (hg : Gl X "isinstance" := by rfl) (hpl : (backTo pos (starEach [.Name "ValueError" p3] X.env)).any (·.1) = false := by rfl) (he : starEach [(.Name y p2 : Expr), .Name "ValueError" p3] X.env = (false, eval (.Name y p2) X.env) :: starEach [.Name "ValueError" p3] X.env := by rfl)
    (he2 : starEach [(.Name "ValueError" p3 : Expr)] X.env = (false, eval (.Name "ValueError" p3) X.env) :: starEach [] X.env := by rfl) :
    PE2 X W (.Call (.Name "isinstance" p1) [.Name y p2, .Name "ValueError" p3] [] pos) (wIsE i p d true) :=
  pe2_isE i h (T.exc cls hc) hm (T.val cls hc) (pe_bltn (v := .ty "ValueError") hgc hmv (by decide +kernel) rfl (by decide) (by decide)) (fun u r => r) hN hv hd hcd hg hpl he he2
theorem pe2_errF (i : Nat) {y f : Str} {p1 pos : Pos} (h : Held X p cls d) (T : ErrsK X.K X.mg home errs flds) (hc : cls ∈ errs) (hf : f ∈ flds := by decide)
    (hN : X.N[i]? = some y := by rfl) (hv : Vis X.env.scope y := by first | exact Or.inl rfl | exact Or.inr (Or.inl rfl) | exact Or.inr (Or.inr rfl)) (hd : (y == ("__debug__" : Str)) = false := by decide) (hcd : (y == ("__classdict__" : Str)) = false := by decide)
    (hb : attributeBase (.Name y p1) f X.env (eval (.Name y p1) X.env) = eval (.Name y p1) X.env := by rfl) : PE2 X W (.Attribute (.Name y p1) f pos) (wXf i p d f) :=
  pe2_xf i h (T.xf cls hc) (T.nof cls hc f hf) hN hv hd hcd hb
end
section
variable {X : Cx} {W : WX} {home : Str} {errs flds : List Str} {n : Str} {body suite : List Stmt} {b0 : Stmt} {np pos pos' : Pos} {wb : TS2} {ws : Addr → Str → Addr → TS2}
/-- try: .. except HomeError as e: .. -/
theorem ps2_tryE (i : Nat) (T : ErrsK X.K X.mg home errs flds) (hN : X.N.Nodup) (tk : L2N.Takes X W)
    (hb : ∀ (W' : WX) (pn : List (Addr × Obj)) (xe : Value → Shared → Prop), L2N.Takes (X.tr pn xe) W' → PassesOwn (model X.prog X.w) X.A X.env xe → PSs2 (X.tr pn xe) W' body wb)
    (hsu : ∀ (a : Addr) (oe : Obj) (cls : Str) (d : Addr) (pn : List (Addr × Obj)), Held (X.suite a ((a, oe) :: pn)) (a, oe) cls d → Hot1 (X.suite a ((a, oe) :: pn)).A (a, oe) → PSs2 (X.suite a ((a, oe) :: pn)) W0 (b0 :: suite) (ws a cls d))
    (hs : X.stack = X.env :: X.outer := by rfl) (hf : X.env.frame = some X.env.locals := by rfl) (hg : Gl X home := by rfl) (hdb : (home == ("__debug__" : Str)) = false := by decide) (hi : X.N[i]? = some n := by rfl) (hln : X.env.kindOf n = some .local := by rfl) :
    PS2 X W (.Try body [.ExceptHandler (some (.Name home np)) (some n) (b0 :: suite) pos'] [] [] pos) (wTry i (knownOf errs) wb ws) :=
  ps2_try i hs hf hN tk ⟨hg, hdb, .inl (T.gl home (.inr rfl))⟩ (knownOf errs) T.known hb hsu hi hln
end
end Z

set_option maxHeartbeats 2000000
/-! plain lemmas for the goals that the terms leave -/
namespace Z
set_option autoImplicit false
open PySem PySem.Spec PyProof.Rows L2
/-- lists of two lengths, item by item -/
def Each {α β : Type} (P : α → β → Prop) : List α → List β → Prop
  | [], [] => True
  | a :: l, b :: m => P a b ∧ Each P l m
  | _, _ => False
theorem Each.len {α β : Type} {P : α → β → Prop} : ∀ {l : List α} {m : List β}, Each P l m → l.length = m.length
  | [], [], _ => rfl
  | _ :: _, _ :: _, h => congrArg (· + 1) (Each.len h.2)
  | [], _ :: _, h => h.elim
  | _ :: _, [], h => h.elim
theorem Each.map {α β : Type} {P : α → β → Prop} {f : α → β} : ∀ {l : List α} {m : List β}, (∀ a b, P a b → b = f a) → Each P l m → m = l.map f
  | [], [], _, _ => rfl
  | a :: l, b :: m, h, e => by rw [h a b e.1, Each.map h e.2]; rfl
  | [], _ :: _, _, h => h.elim
  | _ :: _, [], _, h => h.elim
theorem Each.all {α β : Type} {P : α → β → Prop} {R : β → Prop} : ∀ {l : List α} {m : List β}, (∀ a ∈ l, ∀ b, P a b → R b) → Each P l m → ∀ b ∈ m, R b
  | [], [], _, _, _, hb => by cases hb
  | a :: l, b :: m, h, e, c, hc => by
    rcases List.mem_cons.mp hc with z | z
    · rw [z]; exact h a List.mem_cons_self b e.1
    · exact Each.all (fun a' ha' => h a' (List.mem_cons_of_mem _ ha')) e.2 c z
  | [], _ :: _, _, h, _, _ => h.elim
  | _ :: _, [], _, h, _, _ => h.elim
/-- a comprehension without a test; P: what the element is -/
theorem lc_rel {g : TG2} {we : V2} {vs : List Nat} {Q : List D → List Sl → Prop} (I : List Sl → Prop) (P : D → D → Prop) : ∀ (ds acc : List D) (ρ : List Sl), I ρ → acc.length + ds.length ≤ sizeLine →
    (∀ d ∈ ds, ∀ ρ, I ρ → ∀ k : D → List Sl → Prop, (∀ e ρ3, P d e → I (wipe2 ρ3 vs) → k e ρ3) → g d ρ fun ρ1 => we ρ1 k R0) → (∀ es ρ, Each P ds es → I ρ → Q (acc ++ es) ρ) → wLcL g wYes we vs ds acc ρ Q
  | [], acc, ρ, h, _, _, q => by
    have := q [] ρ trivial h
    rw [List.append_nil] at this
    exact this
  | d :: ds, acc, ρ, h, hz, hs, q => by
    rw [List.length_cons] at hz
    refine hs d List.mem_cons_self ρ h _ fun e ρ3 hp hI => ⟨by omega, ?_⟩
    refine lc_rel I P ds (acc ++ [e]) _ hI (by rw [List.length_append, List.length_cons, List.length_nil]; omega) (fun d' hd' => hs d' (List.mem_cons_of_mem _ hd')) fun es ρ4 he hI4 => ?_
    rw [List.append_assoc]
    exact q (e :: es) ρ4 ⟨hp, he⟩ hI4
theorem strs_of {P : Str → Prop} : ∀ es : List D, (∀ e ∈ es, ∃ z, e = .str z ∧ P z) → ∃ ys, es = ys.map D.str ∧ strsD es = some ys ∧ ∀ y ∈ ys, P y
  | [], _ => ⟨[], rfl, rfl, by simp⟩
  | e :: es, h => by
    obtain ⟨z, rfl, hz⟩ := h e List.mem_cons_self
    obtain ⟨ys, h1, h2, h3⟩ := strs_of es fun d hd => h d (List.mem_cons_of_mem _ hd)
    refine ⟨z :: ys, by rw [List.map_cons, ← h1], ?_, ?_⟩
    · show (strsD es).map _ = _
      rw [h2]
      rfl
    · intro y hy
      rcases List.mem_cons.mp hy with h | h
      · rw [h]; exact hz
      · exact h3 y h
theorem len_join (y : Str) : ∀ l : List Str, (Str.join y l).length ≤ (l.map Str.length).sum + l.length * y.length
  | [] => by show (0 : Nat) ≤ _; omega
  | [x] => by show x.length ≤ _; simp
  | x :: z :: r => by
    have h := len_join y (z :: r)
    show (x ++ y ++ Str.join y (z :: r)).length ≤ _
    rw [TL.len_tl, TL.tl_append, TL.tl_append, List.length_append, List.length_append, ← TL.len_tl, ← TL.len_tl, ← TL.len_tl]
    rw [List.map_cons, List.sum_cons, List.length_cons, Nat.add_mul]
    omega
theorem len_app (x y : Str) : (x ++ y).length = x.length + y.length := by
  rw [TL.len_tl, TL.tl_append, List.length_append, ← TL.len_tl, ← TL.len_tl]
theorem len_one (c : Nat) : (⟨#[c]⟩ : Str).length = 1 := rfl
theorem lc_mapA {α : Type} {g : TG2} {we : V2} {vs : List Nat} {Q : List D → List Sl → Prop} (I : List Sl → Prop) (h f : α → D) : ∀ (l : List α) (acc : List D) (ρ : List Sl), I ρ → acc.length + l.length ≤ sizeLine →
    (∀ a ∈ l, ∀ ρ, I ρ → ∀ k : D → List Sl → Prop, (∀ ρ3, I (wipe2 ρ3 vs) → k (f a) ρ3) → g (h a) ρ fun ρ1 => we ρ1 k R0) → (∀ ρ, I ρ → Q (acc ++ l.map f) ρ) → wLcL g wYes we vs (l.map h) acc ρ Q
  | [], acc, ρ, hI, _, _, q => by
    have := q ρ hI
    rw [List.map_nil, List.append_nil] at this
    exact this
  | a :: l, acc, ρ, hI, hz, hs, q => by
    rw [List.length_cons] at hz
    refine hs a List.mem_cons_self ρ hI _ fun ρ3 hI3 => ⟨by omega, ?_⟩
    refine lc_mapA I h f l (acc ++ [f a]) _ hI3 (by rw [List.length_append, List.length_cons, List.length_nil]; omega) (fun d' hd' => hs d' (List.mem_cons_of_mem _ hd')) fun ρ4 hI4 => ?_
    rw [List.append_assoc]
    exact q ρ4 hI4
theorem lc_map {g : TG2} {we : V2} {vs : List Nat} {Q : List D → List Sl → Prop} (I : List Sl → Prop) (f : D → D) {ds : List D} {ρ : List Sl} (h : I ρ) (hz : ds.length ≤ sizeLine)
    (hs : ∀ d ∈ ds, ∀ ρ, I ρ → ∀ k : D → List Sl → Prop, (∀ ρ3, I (wipe2 ρ3 vs) → k (f d) ρ3) → g d ρ fun ρ1 => we ρ1 k R0) (q : ∀ ρ, I ρ → Q (ds.map f) ρ) : wLcL g wYes we vs ds [] ρ Q :=
  lc_rel I (fun d e => e = f d) ds [] ρ h (by rw [List.length_nil]; omega) (fun d hd ρ hI k hk => hs d hd ρ hI k fun ρ3 hI3 => hk _ ρ3 rfl hI3) fun es ρ4 he hI4 => by
    rw [List.nil_append, Each.map (f := f) (fun a b h => h) he]
    exact q ρ4 hI4
theorem atI_nat {α : Type} {xs : List α} {i : Nat} (h : i < xs.length) : atI xs (i : Int) = some xs[i] := by
  unfold atI
  have e : ixN xs.length (i : Int) = some i := by
    unfold ixN
    rw [if_pos (by omega), if_pos (by omega)]
    simp
  rw [e]
  exact List.getElem?_eq_getElem h
theorem atI_pos {α : Type} {xs : List α} {i : Int} (h0 : 0 ≤ i) (h : i < xs.length) : atI xs i = some (xs[i.toNat]'(by omega)) := by
  obtain ⟨n, rfl⟩ : ∃ n : Nat, i = n := ⟨i.toNat, by omega⟩
  have hn : n < xs.length := by omega
  rw [atI_nat hn]
  rfl
theorem cutL_take {α : Type} {xs : List α} {k : Int} (h : 0 ≤ k) : cutL xs none (some k) = xs.take k.toNat := by
  obtain ⟨n, rfl⟩ : ∃ n : Nat, k = n := ⟨k.toNat, by omega⟩
  unfold cutL
  rw [HT.sIx_none, HT.sIx_nat, List.drop_zero, Nat.sub_zero, Int.toNat_natCast]
  by_cases hn : n ≤ xs.length
  · rw [Nat.min_eq_left hn]
  · rw [Nat.min_eq_right (by omega), List.take_length, List.take_of_length_le (by omega)]
theorem cutL_drop {α : Type} {xs : List α} {k : Int} (h : 0 ≤ k) : cutL xs (some k) none = xs.drop k.toNat := by
  obtain ⟨n, rfl⟩ : ∃ n : Nat, k = n := ⟨k.toNat, by omega⟩
  unfold cutL
  rw [HT.sIx_none, HT.sIx_nat, Int.toNat_natCast]
  by_cases hn : n ≤ xs.length
  · rw [Nat.min_eq_left hn, List.take_of_length_le (by rw [List.length_drop]; omega)]
  · rw [Nat.min_eq_right (by omega), List.drop_length, List.drop_of_length_le (by omega), List.take_nil]
theorem atI_zero {α : Type} {x : α} {xs : List α} : atI (x :: xs) 0 = some x := atI_nat (i := 0) (by simp)
theorem rngD_get {lo : Int} {n i : Nat} {d : D} (h : (rngD lo n)[i]? = some d) : i < n ∧ d = .int (lo + i) := by
  unfold rngD at h
  rw [List.getElem?_map] at h
  by_cases hi : i < n
  · rw [List.getElem?_range hi] at h
    cases h
    exact ⟨hi, rfl⟩
  · rw [List.getElem?_eq_none (by rw [List.length_range]; omega)] at h
    cases h
theorem rngD_len (lo : Int) (n : Nat) : (rngD lo n).length = n := by unfold rngD; rw [List.length_map, List.length_range]
theorem rngD_mem {lo : Int} {n : Nat} {d : D} (h : d ∈ rngD lo n) : ∃ i : Nat, i < n ∧ d = .int (lo + i) := by
  unfold rngD at h
  obtain ⟨k, hk, rfl⟩ := List.mem_map.mp h
  exact ⟨k, List.mem_range.mp hk, rfl⟩
theorem signs_mem {z : Str} {d : D} (h : d ∈ signsD z) : ∃ c ∈ z.cps.toList, d = .str ⟨#[c]⟩ := by
  unfold signsD at h
  obtain ⟨c, hc, rfl⟩ := List.mem_map.mp h
  exact ⟨c, hc, rfl⟩
theorem signs_len (z : Str) : (signsD z).length = z.length := by unfold signsD; rw [List.length_map, Array.length_toList]; rfl
theorem len_toList (z : Str) : z.cps.toList.length = z.length := by rw [Array.length_toList]; rfl
theorem bools_map {α : Type} (f : α → Bool) : ∀ l : List α, boolsD (l.map fun a => D.bl (f a)) = some (l.map f)
  | [] => rfl
  | a :: l => by
    rw [List.map_cons, List.map_cons]
    show (boolsD _).map _ = _
    rw [bools_map f l]
    rfl
theorem strs_map {α : Type} (f : α → Str) : ∀ l : List α, strsD (l.map fun a => D.str (f a)) = some (l.map f)
  | [] => rfl
  | a :: l => by
    rw [List.map_cons, List.map_cons]
    show (strsD _).map _ = _
    rw [strs_map f l]
    rfl
end Z
namespace Z
open PySem
theorem inD_sign (c : Nat) (z : Str) : inD (.str ⟨#[c]⟩) (.str z) = some (decide (c ∈ z.cps.toList)) := rfl
end Z
/-- the goals' own words unfolded -/
local macro_rules | `(tactic| walk_at "zs") => `(tactic| simp only [Z.wSeq, Z.wIfS, Z.wNot, Z.wBl, Z.onBl, Z.wFn, Z.wCons, Z.wSlot, Z.wNil, Z.aCons, Z.aNil, Z.bDs, Z.bD, Z.slotD, Z.onB, Z.onD, Z.onBv, Z.wC, Z.wName, Z.wMove, Z.wOp, Z.rsSl, Z.rsD, Z.wIf, Z.wAnd, Z.wOr, Z.wAndV, Z.wOrV, Z.wNotV, Z.wTru, Z.truD, Z.wChain,
  Z.wNext, Z.wBreak, Z.wCont, Z.wExpr, Z.wRet, Z.wRetN, Z.wSet, Z.wUnp, Z.gName2, Z.gNil2, Z.gCons2, Z.gTup2, Z.wSeqI, Z.onSeq, Z.wTupI, Z.onTup, Z.wStrI, Z.wScrI, Z.wRng1, Z.wRng2, Z.wFor, Z.wLc, Z.wYes, Z.wTup, Z.wLst, Z.wMut1, Z.mAppend, Z.mPopAt, Z.wAug, Z.wCall, Z.wCallS, Z.wRaise, Z.fpOk, Z.fmtD, Z.fldD,
  Z.mIsi, Z.tgD, Z.tysD, Z.isaG, Z.mLen, Z.mLe, Z.mLt, Z.mGe, Z.mGt, Z.mAdd, Z.mSub, Z.mMul, Z.mMulA, Z.mDiv, Z.mMod, Z.mPow, Z.mStr, Z.mIntS, Z.mInt, Z.mMax2, Z.mMin2, Z.mList, Z.mTuple, Z.mIx, Z.mIn, Z.mNotIn, Z.inD_sign, Z.atI_zero, Z.mIs, Z.mIsNot, Z.isNon, Z.mEq, Z.mNe, Z.scD, Z.mSl, Z.wSl, Z.wPart, Z.wNoPart, Z.wTx1, Z.mSplit, Z.mJoin, Z.wUpper,
  Z.wTabIn, Z.wTabIx, Z.wStIx, Z.wStSet, Z.wLset, Z.wDset, Z.wDget2, Z.wDisp, Z.wZip, Z.isL, Z.isT, Z.seqD, Z.flat, Z.keyD,
  List.getElem?_cons_zero, List.getElem?_cons_succ, List.set_cons_zero, List.set_cons_succ, List.map_cons, List.map_nil, Option.map_some, Option.map_none, Bool.not_true, Bool.not_false, Bool.false_eq_true, if_true, if_false, reduceIte, Z.wipe2, List.length_cons, List.length_nil, List.all_cons, List.all_nil, List.any_cons, List.any_nil, Bool.or_false, Bool.or_true, Bool.and_true, Bool.true_and, Bool.and_self])

set_option maxHeartbeats 2000000
namespace Z
set_option autoImplicit false
open PySem PySem.Spec PyProof.Rows L2
/-- a comprehension whose list is named -/
theorem lc_mapE {g : TG2} {we : V2} {vs : List Nat} {Q : List D → List Sl → Prop} (I : List Sl → Prop) (f : D → D) {ds es : List D} {ρ : List Sl} (h : I ρ) (hz : ds.length ≤ sizeLine) (he : ds.map f = es)
    (hs : ∀ d ∈ ds, ∀ ρ, I ρ → ∀ k : D → List Sl → Prop, (∀ ρ3, I (wipe2 ρ3 vs) → k (f d) ρ3) → g d ρ fun ρ1 => we ρ1 k R0) (q : ∀ ρ, I ρ → Q es ρ) : wLcL g wYes we vs ds [] ρ Q :=
  lc_map I f h hz hs fun ρ hI => by rw [he]; exact q ρ hI
theorem sz_of {n : Nat} (h : n ≤ 1000000) : n ≤ sizeLine := by rw [sizeLine_eq]; omega
theorem sz_lt {n : Nat} (h : n ≤ 1000000) : n < sizeLine := by rw [sizeLine_eq]; omega
theorem ixN_pos {n : Nat} {i : Int} (h0 : 0 ≤ i) (h : i < n) : ixN n i = some i.toNat := by unfold ixN; rw [if_pos h0, if_pos h]
theorem seqIx_pos {n : Nat} {i : Int} (h0 : 0 ≤ i) (h : i < n) : seqIndex? i n = some i.toNat := (ixN_seq (ixN_pos h0 h)).1
theorem mem_set {α : Type} {l : List α} {i : Nat} {a x : α} (h : x ∈ l.set i a) : x ∈ l ∨ x = a := List.mem_or_eq_of_mem_set h
theorem cutS_most (z : Str) (k : Nat) : (cutS z none (some (k : Int))).length ≤ k := by
  show (((z.cps.toList.drop (HT.sIx z.length 0 none)).take (HT.sIx z.length z.length (some (k : Int)) - HT.sIx z.length 0 none)).toArray).size ≤ k
  rw [List.size_toArray, List.length_take, HT.sIx_nat, HT.sIx_none]
  omega
/-- a comprehension with a test -/
theorem lc_filt {g : TG2} {wt : T2} {we : V2} {vs : List Nat} {Q : List D → List Sl → Prop} (I : List Sl → Prop) (J : D → List Sl → Prop) (p : D → Bool) (f : D → D) : ∀ (ds acc : List D) (ρ : List Sl), I ρ → acc.length + ds.length ≤ sizeLine →
    (∀ d ∈ ds, ∀ ρ, I ρ → ∀ k : Bool → List Sl → Prop, (∀ ρ2, J d ρ2 → k (p d) ρ2) → g d ρ fun ρ1 => wt ρ1 k R0) → (∀ d ∈ ds, p d = true → ∀ ρ2, J d ρ2 → ∀ k : D → List Sl → Prop, (∀ ρ3, I (wipe2 ρ3 vs) → k (f d) ρ3) → we ρ2 k R0) →
    (∀ d ∈ ds, p d = false → ∀ ρ2, J d ρ2 → I (wipe2 ρ2 vs)) → (∀ ρ, I ρ → Q (acc ++ (ds.filter p).map f) ρ) → wLcL g wt we vs ds acc ρ Q
  | [], acc, ρ, h, _, _, _, _, q => by
    have := q ρ h
    rw [List.filter_nil, List.map_nil, List.append_nil] at this
    exact this
  | d :: ds, acc, ρ, h, hz, h1, h2, h3, q => by
    rw [List.length_cons] at hz
    refine h1 d List.mem_cons_self ρ h _ fun ρ2 hJ => ?_
    cases hp : p d with
    | true =>
      refine h2 d List.mem_cons_self hp ρ2 hJ _ fun ρ3 hI => ⟨by omega, ?_⟩
      refine lc_filt I J p f ds (acc ++ [f d]) _ hI (by rw [List.length_append, List.length_cons, List.length_nil]; omega) (fun d' hd' => h1 d' (List.mem_cons_of_mem _ hd')) (fun d' hd' => h2 d' (List.mem_cons_of_mem _ hd')) (fun d' hd' => h3 d' (List.mem_cons_of_mem _ hd')) fun ρ4 hI4 => ?_
      have := q ρ4 hI4
      rw [List.filter_cons_of_pos hp, List.map_cons] at this
      rw [List.append_assoc]
      exact this
    | false =>
      refine lc_filt I J p f ds acc _ (h3 d List.mem_cons_self hp ρ2 hJ) (by omega) (fun d' hd' => h1 d' (List.mem_cons_of_mem _ hd')) (fun d' hd' => h2 d' (List.mem_cons_of_mem _ hd')) (fun d' hd' => h3 d' (List.mem_cons_of_mem _ hd')) fun ρ4 hI4 => ?_
      have := q ρ4 hI4
      rw [List.filter_cons_of_neg (by rw [hp]; exact Bool.false_ne_true)] at this
      exact this
def ixB (bs : List Bool) : D → Bool
  | .int i => (bs[i.toNat]?).getD false
  | _ => false
def ixS (zs : List Str) : D → D
  | .int i => .str ((zs[i.toNat]?).getD "")
  | _ => .non
theorem ixB_at {bs : List Bool} {i : Nat} (h : i < bs.length) : atI (bs.map D.bl) (0 + (i : Int)) = some (.bl (ixB bs (.int (0 + (i : Int))))) := by
  rw [Int.zero_add, Z.atI_nat (by rw [List.length_map]; exact h), List.getElem_map]
  show some (D.bl bs[i]) = some (.bl ((bs[((i : Int)).toNat]?).getD false))
  rw [Int.toNat_natCast, List.getElem?_eq_getElem h]
  rfl
theorem ixS_at {zs : List Str} {i : Nat} (h : i < zs.length) : atI (zs.map D.str) (0 + (i : Int)) = some (ixS zs (.int (0 + (i : Int)))) := by
  rw [Int.zero_add, Z.atI_nat (by rw [List.length_map]; exact h), List.getElem_map]
  show some (D.str zs[i]) = some (.str ((zs[((i : Int)).toNat]?).getD ""))
  rw [Int.toNat_natCast, List.getElem?_eq_getElem h]
  rfl
/-- one statement at a time: what follows is a letter -/
theorem seq_of {a b : TS2} {nx : List Sl → Prop} {D : E2} {ρ : List Sl} (h : ∀ M : List Sl → Prop, (∀ ρ', b nx D ρ' → M ρ') → a M D ρ) : wSeq a b nx D ρ := h _ fun _ h => h
/-- an if: its branches are letters -/
theorem if_of {wt : T2} {a b : TS2} {nx : List Sl → Prop} {D : E2} {ρ : List Sl} (h : ∀ A B : List Sl → Prop, (∀ ρ', a nx D ρ' → A ρ') → (∀ ρ', b nx D ρ' → B ρ') → wt ρ (fun k ρ1 => if k = true then A ρ1 else B ρ1) D.ex) : wIfS wt a b nx D ρ := h _ _ (fun _ h => h) fun _ h => h
end Z

set_option maxHeartbeats 2000000
/-! what stands behind the top: one Hook for defs, error classes, tables -/
namespace Z
set_option autoImplicit false
open PySem PySem.Spec PyProof.Rows L2 NdefX
section
variable {ck : List (PySem.W.Frag → Bool)} {fn : List Dd} {ts : List (Str × List Str)} {K : PySem.W.Frag} {w : World}
theorem obZ_ck (c : obZ ck fn ts K = vlZ fn ts w) (i : Nat) {f : PySem.W.Frag → Bool} (h : ck[i]? = some f := by rfl) : f K = true := by
  have c1 : (ck.all fun f => f K) = true := congrArg (fun z : Ob => z.1) c
  exact List.all_eq_true.mp c1 f (List.mem_of_getElem? h)
theorem obZ_fn (c : obZ ck fn ts K = vlZ fn ts w) (i : Nat) {d : Dd} (h : fn[i]? = some d := by rfl) : fnI K (d.at_ K) = d.val := by
  have e : fn.map (fun d => fnI K (d.at_ K)) = fn.map Dd.val := congrArg (fun z : Ob => z.2.1) c
  have e2 : (fn.map fun d => fnI K (d.at_ K))[i]? = (fn.map Dd.val)[i]? := by rw [e]
  rw [List.getElem?_map, List.getElem?_map, h] at e2
  exact Option.some.inj e2
theorem obZ_ts (c : obZ ck fn ts K = vlZ fn ts w) (i : Nat) {t : Str × List Str} (h : ts[i]? = some t := by rfl) : He.dicW K (gAdr K t.1) = some (He.keysIn w.params t.2) := by
  have e : ts.map (fun t => He.dicW K (gAdr K t.1)) = ts.map fun t => some (He.keysIn w.params t.2) := congrArg (fun z : Ob => z.2.2) c
  have e2 : (ts.map fun t => He.dicW K (gAdr K t.1))[i]? = (ts.map fun t => some (He.keysIn w.params t.2))[i]? := by rw [e]
  rw [List.getElem?_map, List.getElem?_map, h] at e2
  exact Option.some.inj e2
end
/-! ### checks -/
section
variable {K : PySem.W.Frag} {h : Heap} {mg : Str → Option Value}
theorem glB_ok (X : K.In h) (G : h.Ns mainGlobals mg) {x : Str} (c : glB x K = true) : mg x = some (.ref (gAdr K x)) := PySem.W.mg_of X G (eqO_ok c)
theorem frB_ok (X : K.In h) (G : h.Ns mainGlobals mg) {x : Str} (c : frB x K = true) : mg x = none := PySem.W.mg_none_of X G (eqO_ok c)
theorem intB_ok (X : K.In h) (G : h.Ns mainGlobals mg) {x : Str} {i : Int} (c : intB x i K = true) : ∃ t, mg x = some (.int i t) := He.int_ok X G (x := x) (i := i) c
theorem strB_ok (X : K.In h) (G : h.Ns mainGlobals mg) {x z : Str} (c : strB x z K = true) : ∃ t, mg x = some (.str z t) := He.str_ok X G (x := x) (z := z) c
end
/-! #### plain defs -/
theorem plB_ok {K : PySem.W.Frag} {d : Dd} (e : fnI K (d.at_ K) = d.val) (c : plB d.at_ d.qual K = true) : ∃ fd, FunD K d.name d.qual (defArgs d.st) (defBody d.st) (defScope d.st) [] [] (d.at_ K) fd := by
  obtain ⟨kp, c2⟩ := He.ba c
  unfold fnI at e
  cases q : K.lookup (d.at_ K) with
  | none => rw [q] at c2; cases c2
  | some o =>
    obtain ⟨oc, od, dt, osl⟩ := o
    rw [q] at c2 e
    cases dt with
    | func fd =>
      obtain ⟨n1, n2, n3, n4, n5, n6, n7, n8, n9, n10, n11, n12, n13, n14, n15⟩ := fd
      have e2 : (some (n1, n2, n3, n4, n5, n6, n15) : FnI) = some (d.name, d.qual, defArgs d.st, .stmts (defBody d.st), defScope d.st, mainGlobals, builtinsNs) := e
      simp only [Option.some.injEq, Prod.mk.injEq] at e2
      obtain ⟨h1, h2, h3, h4, h5, h6, h8⟩ := e2
      have c3 : (PySem.W.codeIn K n13 d.qual && (isNo n8 && n7.isEmpty)) = true := c2
      obtain ⟨k1, k2⟩ := He.ba c3
      obtain ⟨k3, k4⟩ := He.ba k2
      have h7 : n7 = [] := List.isEmpty_iff.mp k4
      have h9 := isNo_ok k3
      subst h1 h2 h3 h4 h5 h6 h7 h8 h9
      exact ⟨_, ⟨oc, od, .none, n9, n10, n11, n12, n13, n14, osl, rfl, q, k1, .inl ⟨rfl, rfl⟩, .inl rfl⟩, kp⟩
    | _ => cases c2
theorem defAt_of {K : PySem.W.Frag} {h : Heap} {mg : Str → Option Value} {x : Str} {st : Stmt} {ps : List Str} (X : K.In h) (G : h.Ns mainGlobals mg) (c1 : glB x K = true) (e : fnI K (gAdr K x) = (Dd.mk (fun K => gAdr K x) x x st).val) (c2 : plB (fun K => gAdr K x) x K = true)
    (hb : ∀ (kV doc pm : Value) (an : Option Addr) (cdv ct : Value) (us : List Value), us.length = ps.length → bindArgs (PySem.W.fnOf x x (defArgs st) (defBody st) (defScope st) .none kV doc pm an cdv ct) ⟨us, []⟩ = pure (ps.zip us)) : DefAt K mg x st ps := by
  obtain ⟨fd, F⟩ := plB_ok (d := ⟨fun K => gAdr K x, x, x, st⟩) e c2
  exact ⟨_, fd, F, glB_ok X G c1, F.bindsN hb⟩
/-! #### error classes -/
theorem oexB_ok {K : PySem.W.Frag} {C : Addr} (h : oexB C K = true) : OexC K C := by
  obtain ⟨h1, h⟩ := He.ba h
  obtain ⟨h2, h⟩ := He.ba h
  obtain ⟨h3, h⟩ := He.ba h
  obtain ⟨h4, h5⟩ := He.ba h
  refine ⟨?_, eqO_ok h2, of_decide_eq_true h3, of_decide_eq_true h4, h5⟩
  split at h1
  · rename_i t dd cd sl hl
    obtain ⟨k1, h1⟩ := He.ba h1
    obtain ⟨k2, h1⟩ := He.ba h1
    obtain ⟨k3, h1⟩ := He.ba h1
    split at h1
    · rename_i C' bm k0 k1' k2' k3' n k5 hm hs
      obtain ⟨j1, h1⟩ := He.ba h1
      obtain ⟨j2, j3⟩ := He.ba h1
      have e1 : t = "type" := of_decide_eq_true k1
      have e2 : C' = C := of_decide_eq_true j1
      have e3 : n = "ValueError.__new__" := of_decide_eq_true j2
      subst e1 e3
      rw [e2] at hm
      obtain ⟨a1, a2, a3, a4, a5, a6, a7, a8, a9, a10, a11⟩ := cd
      have k2 : a6 = true := k2
      have k3 : a11 = false := by simpa using k3
      have hm : a3 = .ref C :: bm := hm
      rw [hm, k2, k3] at hl
      have hsl : sl = #[k0, k1', k2', k3', some (.builtin "ValueError.__new__"), k5] := by
        rw [← Array.toList_inj, hs]
      rw [hsl] at hl
      exact ⟨a1, a5, a4, a2, bm, a7, a8, a9, a10, dd, k0, k1', k2', k3', k5, hl, j3⟩
    · cases h1
  · cases h1
theorem iniB_ok {P : Program} {K : PySem.W.Frag} {mg : Str → Option Value} {d : Dd} {x : Str} (hd : d.at_ = iniA x) (hf : P.main.file = "/claim/cut.py") (hs : mg "super" = none) (ht : (P.main.scope.names.lookup ("super" : Str)).isSome = false) (e : fnI K (d.at_ K) = d.val) (c : iniB "/claim/cut.py" x d.qual K = true) :
    ∃ (F : NF) (fd : FuncData), F.params = defArgs d.st ∧ F.body = defBody d.st ∧ F.scope = defScope d.st ∧ F.name = d.name ∧ F.qual = d.qual ∧ (∃ doc pm ctv, fd = F.fd doc pm ctv) ∧ IniK P K mg (gAdr K x) (iniA x K) F ∧ ∃ oc od osl, K.lookup (iniA x K) = some ⟨oc, od, .func fd, osl⟩ := by
  rw [hd] at e
  obtain ⟨h1, c⟩ := He.ba c
  obtain ⟨h2, c⟩ := He.ba c
  obtain ⟨h3, c⟩ := He.ba c
  obtain ⟨h4, c⟩ := He.ba c
  obtain ⟨h5, c⟩ := He.ba c
  obtain ⟨h6, c⟩ := He.ba c
  obtain ⟨h7, h8⟩ := He.ba c
  unfold fnI at e
  cases q : K.lookup (iniA x K) with
  | none => rw [q] at h1; cases h1
  | some o =>
    obtain ⟨oc, od, dt, osl⟩ := o
    rw [q] at h1 e
    cases dt with
    | func fd =>
      obtain ⟨n1, n2, n3, n4, n5, n6, n7, n8, n9, n10, n11, n12, n13, n14, n15⟩ := fd
      have e2 : (some (n1, n2, n3, n4, n5, n6, n15) : FnI) = some (d.name, d.qual, defArgs d.st, .stmts (defBody d.st), defScope d.st, mainGlobals, builtinsNs) := e
      simp only [Option.some.injEq, Prod.mk.injEq] at e2
      obtain ⟨q1, q2, q3, q4, q5, q6, q8⟩ := e2
      obtain ⟨k1, h1⟩ := He.ba h1
      obtain ⟨k2, h1⟩ := He.ba h1
      obtain ⟨k3, h1⟩ := He.ba h1
      replace k1 : n8 = .none := isNo_ok (v := n8) k1
      replace k2 : n9 = .none := isNo_ok (v := n9) k2
      replace k3 : n12 = none := Option.isNone_iff_eq_none.mp k3
      subst k1 k2 k3
      cases n13 with
      | ref cc0 =>
        match n7, h1 with
        | [(n, cc)], h1 =>
          obtain ⟨j1, h1⟩ := He.ba h1
          obtain ⟨j2, h1⟩ := He.ba h1
          obtain ⟨j3, j4⟩ := He.ba h1
          replace j1 : n = "__class__" := of_decide_eq_true j1
          subst q1 q2 q3 q4 q5 q6 q8 j1
          refine ⟨⟨d.name, d.qual, defArgs d.st, defBody d.st, defScope d.st, [("__class__", cc)], cc0⟩, _, rfl, rfl, rfl, rfl, rfl, ⟨n10, n11, n14, rfl⟩, ⟨⟨oc, od, n10, n11, n14, osl, q⟩, j2, ?_, ?_, ht, hs, eqO_ok h2, of_decide_eq_true h3, of_decide_eq_true h4, of_decide_eq_true h5, eqO_ok h6, of_decide_eq_true h7, oexB_ok h8⟩, oc, od, osl, rfl⟩
          · split at j3
            · rename_i a1 a2 C a4 hl
              have : C = gAdr K x := of_decide_eq_true j3
              subst this
              exact ⟨cc, _, _, _, rfl, hl⟩
            · cases j3
          · split at j4
            · rename_i a1 a2 vs a4 hl
              split at j4
              · rename_i file tf hv
                exact ⟨_, _, vs, _, file, tf, hl, hv, by rw [hf]; exact j4⟩
              · cases j4
            · cases j4
        | [], h1 => cases h1
        | _ :: _ :: _, h1 => cases h1
      | _ => cases h1
    | _ => cases h1
theorem err_of {P : Program} {w : World} {K : PySem.W.Frag} {h : Heap} {mg : Str → Option Value} {base : Heap} {x : Str} {d : Dd} {ps : List Str} {l : List FP} {fl : List (Str × Nat)} {n : Nat} (X : K.In h) (G : h.Ns mainGlobals mg) (hd : d.at_ = iniA x) (hf : P.main.file = "/claim/cut.py") (hs : mg "super" = none)
    (ht : (P.main.scope.names.lookup ("super" : Str)).isSome = false) (c1 : glB x K = true) (e : fnI K (d.at_ K) = d.val) (c : iniB "/claim/cut.py" x d.qual K = true) (hno : ∀ p ∈ fl, PySem.W.findIn K (.ref (gAdr K x)) p.1 = some none) (hn : ps.length = n + 1) (lp : ∀ i, FP.par i ∈ l → 0 < i) (fp : ∀ p ∈ fl, 0 < p.2 ∧ p.2 < n + 1)
    (hT : ∀ F : NF, F.params = defArgs d.st → F.body = defBody d.st → F.scope = defScope d.st → IniT F ps l fl)
    (hb : ∀ (cl : List (Str × Addr)) (doc pm : Value) (c : Addr) (ct : Value) (us : List Value), us.length = ps.length → bindArgs (PySem.W.fnX d.name d.qual (defArgs d.st) (defBody d.st) (defScope d.st) cl .none .none doc pm none (.ref c) ct) ⟨us, []⟩ = pure (ps.zip us)) :
    Err P w K mg base x l fl n := by
  obtain ⟨F, fd, p1, p2, p3, p4, p5, ⟨doc, pm, ctv, efd⟩, I, lk⟩ := iniB_ok (P := P) (mg := mg) hd hf hs ht e c
  refine ⟨⟨gAdr K x, iniA x K, F, fd, ps, I, ini_ok I (hT F p1 p2 p3) hno lk, ?_, glB_ok X G c1, rfl, hn⟩, lp, fp⟩
  subst efd
  refine .all fun us hl => ?_
  have := hb F.cl doc pm F.c ctv us hl
  rw [← p1, ← p2, ← p3, ← p4, ← p5] at this
  exact this
/-! #### all error classes, as they are caught -/
theorem excB_ok {K : PySem.W.Frag} {a : Addr} (h : excB a K = true) : ExcC K a := by
  obtain ⟨h1, h⟩ := He.ba h
  obtain ⟨h2, h⟩ := He.ba h
  obtain ⟨h3, h⟩ := He.ba h
  obtain ⟨h4, h⟩ := He.ba h
  obtain ⟨h5, h⟩ := He.ba h
  obtain ⟨h6, h⟩ := He.ba h
  obtain ⟨h7, h8⟩ := He.ba h
  exact ⟨eqO_ok h1, eqO_ok h2, of_decide_eq_true h3, h4, eqO_ok h5, eqO_ok h6, of_decide_eq_true h7, of_decide_eq_true h8⟩
theorem errsB_ok {K : PySem.W.Frag} {h : Heap} {mg : Str → Option Value} {home : Str} {errs flds : List Str} (X : K.In h) (G : h.Ns mainGlobals mg) (c : errsB home errs flds K = true) : ErrsK K mg home errs flds := by
  obtain ⟨c0, c⟩ := He.ba c
  have c := List.all_eq_true.mp c
  have u : ∀ x ∈ errs, glB x K = true ∧ excB (gAdr K x) K = true ∧ xfB K (gAdr K x) = true ∧ (∀ c' ∈ errs, PySem.W.kitOne K (.ref (gAdr K x)) (.ref (gAdr K c')) = some (decide (x = c'))) ∧ PySem.W.kitOne K (.ref (gAdr K x)) (.type "ValueError") = some true ∧
      PySem.W.exmOne K (.ref (gAdr K x)) (.ref (gAdr K home)) = some true ∧ ∀ f ∈ flds, PySem.W.findIn K (.ref (gAdr K x)) f = some none := fun x hx => by
    have h := c x hx
    obtain ⟨h1, h⟩ := He.ba h
    obtain ⟨h2, h⟩ := He.ba h
    obtain ⟨h3, h⟩ := He.ba h
    obtain ⟨h4, h⟩ := He.ba h
    obtain ⟨h5, h⟩ := He.ba h
    obtain ⟨h6, h7⟩ := He.ba h
    exact ⟨h1, h2, h3, fun c' hc => of_decide_eq_true (List.all_eq_true.mp h4 c' hc), of_decide_eq_true h5, of_decide_eq_true h6, fun f hf => eqO_ok (List.all_eq_true.mp h7 f hf)⟩
  exact ⟨fun x hx => by
      rcases hx with hx | hx
      · exact glB_ok X G (u x hx).1
      · rw [hx]; exact glB_ok X G c0, fun x hx => excB_ok (u x hx).2.1, fun x hx => xfB_ok (u x hx).2.2.1, fun x hx => (u x hx).2.2.2.1, fun x hx => (u x hx).2.2.2.2.1, fun x hx => (u x hx).2.2.2.2.2.1, fun x hx => (u x hx).2.2.2.2.2.2⟩
/-! #### tables -/
theorem flat_vals : ∀ (ds : List D) (us : List Value), us.length = ds.length → ((ds.zip us).all fun q => match q.1, q.2 with
      | .str x, .str y _ => decide (x = y)
      | .int i, .int j _ => decide (i = j)
      | _, _ => false) = true → ∃ vs, Vals vs us ∧ ∀ (K : PySem.W.Frag) (G : Hp), RepL K G ds vs
  | [], [], _, _ => ⟨[], .nil, fun _ _ => rfl⟩
  | [], _ :: _, h, _ => by cases h
  | _ :: _, [], h, _ => by cases h
  | d :: ds, u :: us, h, c => by
    rw [List.zip_cons_cons, List.all_cons, Bool.and_eq_true] at c
    obtain ⟨vs, h1, h2⟩ := flat_vals ds us (by simpa using h) c.2
    have c1 := c.1
    cases d with
    | str x =>
      cases u with
      | str y t =>
        have e : x = y := of_decide_eq_true c1
        exact ⟨.str x :: vs, .cons ⟨t, by rw [e]⟩ h1, fun K G => .cons rfl (h2 K G)⟩
      | _ => cases c1
    | int x =>
      cases u with
      | int y t =>
        have e : x = y := of_decide_eq_true c1
        exact ⟨.int x :: vs, .cons ⟨t, by rw [e]⟩ h1, fun K G => .cons rfl (h2 K G)⟩
      | _ => cases c1
    | _ => cases u <;> cases c1
theorem datB_ok {K : PySem.W.Frag} {d : D} {u : Value} (h : datB K d u = true) : ∃ vv, L2.RelV vv u ∧ ∀ G, Rep K G d vv := by
  cases d with
  | int i => cases u with
    | int j t =>
      have e : i = j := of_decide_eq_true h
      exact ⟨.int i, ⟨t, by rw [e]⟩, fun _ => rfl⟩
    | _ => cases h
  | str i => cases u with
    | str j t =>
      have e : i = j := of_decide_eq_true h
      exact ⟨.str i, ⟨t, by rw [e]⟩, fun _ => rfl⟩
    | _ => cases h
  | kt ds => cases u with
    | ref a =>
      refine ⟨.ref a, rfl, ?_⟩
      have h : tupD K ds a = true := h
      unfold tupD at h
      cases q : K.lookup a with
      | none => rw [q] at h; cases h
      | some o =>
        obtain ⟨oc, od, dt, osl⟩ := o
        rw [q] at h
        cases oc with
        | type c =>
          cases dt with
          | seq its n =>
            obtain ⟨h1, h2⟩ := He.ba (show (decide (c = "tuple") && _) = true from h)
            obtain ⟨h3, h4⟩ := He.ba h2
            obtain ⟨h5, h6⟩ := He.ba h4
            have h5 : its.size = ds.length := of_decide_eq_true h5
            obtain ⟨vs, r1, r2⟩ := flat_vals ds its.toList (by rw [Array.length_toList]; exact h5) h6
            exact fun G => ⟨a, vs, rfl, .inr ⟨_, its, n, q, congrArg Value.type (of_decide_eq_true h1), rfl, of_decide_eq_true h3, r1⟩, r2 K G⟩
          | _ => cases h
        | _ => cases dt <;> cases h
    | _ => cases h
  | _ => cases u <;> cases h
theorem ns_none {K : PySem.W.Frag} {a : Addr} {P : Params} {ks : List Str} (h : He.dicW K a = some (He.keysIn P ks)) {z : Str} (hz : z ∉ ks) : PySem.W.nsIn K a z = some none := by
  unfold He.dicW at h
  cases q : K.lookup a with
  | none => rw [q] at h; cases h
  | some o =>
    obtain ⟨oc, od, dt, osl⟩ := o
    rw [q] at h
    have key : ∀ (l : List DictEntry) (ks : List Str), l.map He.keyOf = He.keysIn P ks → z ∉ ks → l.find? (fun e => e.key.isStr z) = none ∧ l.any (fun e => e.refKey) = false := fun l => by
      induction l with
      | nil => intro ks _ _; exact ⟨rfl, rfl⟩
      | cons e r ih =>
        intro ks h hz
        cases ks with
        | nil => cases h
        | cons k ks =>
          have h1 : He.keyOf e :: r.map He.keyOf = some (k, PyData.keyHash P k) :: He.keysIn P ks := h
          injection h1 with h2 h3
          obtain ⟨i1, i2⟩ := ih ks h3 fun m => hz (List.mem_cons_of_mem _ m)
          unfold He.keyOf at h2
          split at h2
          · rename_i x t hk
            have h4 := Option.some.inj h2
            obtain ⟨h5, h6⟩ := Prod.mk.inj h4
            have hne : (e.key.isStr z) = false := by
              rw [hk, h5]
              show Value.isStr (.str k t) z = false
              rw [PySem.W.isStr_of]
              show (k == z) = false
              exact beq_false_of_ne fun e => hz (by rw [← e]; exact List.mem_cons_self)
            refine ⟨by rw [List.find?_cons, hne]; exact i1, ?_⟩
            rw [List.any_cons, i2, Bool.or_false]
            unfold DictEntry.refKey
            rw [hk]
          · cases h2
    cases oc with
    | type c =>
      cases od with
      | none =>
        cases dt with
        | dict es n =>
          have h1 : (match decide (c = "dict") && (osl.isEmpty && !(a == sysModules)) with
            | true => some (es.toList.map He.keyOf)
            | false => none) = some (He.keysIn P ks) := h
          cases zz : decide (c = "dict") && (osl.isEmpty && !(a == sysModules)) with
          | false => rw [zz] at h1; cases h1
          | true =>
            rw [zz] at h1
            obtain ⟨k1, k2⟩ := key es.toList ks (Option.some.inj h1) hz
            unfold PySem.W.nsIn
            rw [q]
            show (match es.toList.find? (fun e => e.key.isStr z) with
              | some e => some (some e.val)
              | none => if es.toList.any (fun e => e.refKey) then none else some none) = some none
            rw [k1, k2]
            rfl
        | _ => cases h
      | some b => cases dt <;> cases h
    | _ => cases od <;> cases dt <;> cases h
theorem tab_of {K : PySem.W.Frag} {h : Heap} {w : World} {mg : Str → Option Value} {x : Str} {t : List (Str × D)} (X : K.In h) (G : h.Ns mainGlobals mg) (e : He.dicW K (gAdr K x) = some (He.keysIn w.params (t.map (·.1)))) (c : tabB x t K = true) : TabK K w mg x t := by
  obtain ⟨c1, c2⟩ := He.ba c
  obtain ⟨es, n, kd⟩ := He.dicW_ok e
  refine ⟨gAdr K x, es, n, glB_ok X G c1, kd, fun z hz => ns_none e fun hm => ?_, fun z v hz => ?_⟩
  · obtain ⟨p, hp, rfl⟩ := List.mem_map.mp hm
    have : ∀ (t : List (Str × D)), p ∈ t → t.lookup p.1 = none → False := fun t => by
      induction t with
      | nil => intro h; cases h
      | cons q r ih =>
        intro h1 h2
        rw [List.lookup_cons] at h2
        cases hq : (p.1 == q.1) with
        | true => rw [hq] at h2; cases h2
        | false =>
          rw [hq] at h2
          rcases List.mem_cons.mp h1 with h | h
          · subst h; rw [beq_self_eq_true] at hq; cases hq
          · exact ih h h2
    exact this t hp hz
  · have hm : (z, v) ∈ t := PySem.mem_of_lookup hz
    have := List.all_eq_true.mp c2 _ hm
    cases q : PySem.W.nsIn K (gAdr K x) z with
    | none => simp only [q] at this; cases this
    | some r =>
      cases r with
      | none => simp only [q] at this; cases this
      | some u =>
        simp only [q] at this
        obtain ⟨vv, h1, h2⟩ := datB_ok this
        exact ⟨u, vv, rfl, h1, h2⟩
def parB (p : Nat → Bool) : FP → Bool
  | .par i => p i
  | .txt _ => true
theorem par_lt {l : List FP} {n : Nat} (h : l.all (parB fun i => decide (i < n)) = true) : ∀ i, FP.par i ∈ l → i < n := fun i hi => of_decide_eq_true (List.all_eq_true.mp h _ hi)
theorem par_pos {l : List FP} (h : l.all (parB fun i => decide (0 < i)) = true) : ∀ i, FP.par i ∈ l → 0 < i := fun i hi => of_decide_eq_true (List.all_eq_true.mp h _ hi)
/-! ### the law's own def, the end -/
section
variable {P : Program} {w : World} {K : PySem.W.Frag} {mg : Str → Option Value} {base : Heap} {x : Str} {k : Nat} {S : Sp2} {f : Addr} {fd : FuncData}
theorem fn_ofN {sd : Stmt} {N ps : List Str} (F1 : FunD K x x (defArgs sd) (defBody sd) (defScope sd) [] [] f fd) (Sc : FnScope N ps (defScope sd)) (len : ∀ ds Q R, S ds Q R → ds.length = ps.length)
    (hb : ∀ (f : Addr) (cdv : Value) (A : Around) (outer : List Env) (s : Shared) (H : Hp) (E : XK), L2N.Takes (cxOf (L2N.CX P w) P w K mg base N x (defScope sd) f cdv A outer s H E) (wE E) →
      PassesOwn (model P w) (A.deeper (envOfC x (defScope sd) s.heap.objs.size f cdv)) (envOfC x (defScope sd) s.heap.objs.size f cdv) (cxOf (L2N.CX P w) P w K mg base N x (defScope sd) f cdv A outer s H E).xe →
      Room k (A.deeper (envOfC x (defScope sd) s.heap.objs.size f cdv)) →
      ∃ w2, PSs2N (cxOf (L2N.CX P w) P w K mg base N x (defScope sd) f cdv A outer s H E) (wE E) (defBody sd) w2 ∧ ∀ ds Q R, S ds Q R → w2 (fun _ => Q (.val .non)) { rt := Q, ex := fun x _ => R x } (start2 false N ds)) : FnOk P w K mg base (L2N.CX P w) (k + 1) f fd ps (toSp K false S) := by
  refine F1.ok Sc (fun vs H Q E h => ?_) (fun cdv A outer s H vs Q E hr h => ?_)
  · obtain ⟨L, G, st, ds, ws, Q2, R2, c, hv, r, hs, _⟩ := h
    rw [← len ds Q2 R2 hs, r.length, show vs = ws from hv.2]
  · obtain ⟨L, G, st, ds, ws, Q2, R2, c, hv, r, hs, hq, he⟩ := h
    obtain ⟨w2, hp, vc⟩ := hb f cdv A outer s H E (L2N.takes_of rfl rfl rfl rfl) (passes_of rfl) hr
    obtain ⟨t, h1, r1⟩ := hp.ex
    refine ⟨t, h1, r1 (callP K L G H st) G _ H _ (fun _ => Q2 (.val .non)) { rt := Q2, ex := fun x _ => R2 x } _ rfl hv.1 (abs_start c hv r) ⟨fun G' σ' H' ρ' A' s' q => ?_, fun G' H' r v B s' o q => hq G' H' r v B s' o q, fun _ _ _ _ _ _ q => False.elim q, fun _ _ _ _ _ _ q => False.elim q, fun G' σ' H' ρ' x cls dd A' s' e q => he G' H' x cls dd A'.toBas s' e q⟩ (vc ds Q2 R2 hs)⟩
    exact hq G' H' (.val .non) .non A'.toBas s' rfl q
theorem law_sp {H : Hp} {a : Addr} {ns : List Int} (h : SqL K H a (ns.map V.int)) (hS : S [.scr ns] (fun r => r = .val (.bl true)) fun _ => False) : toSp K false S [.ref a] H (fun v _ => v = .bl true) fun _ _ _ => False := by
  refine ⟨fun _ => none, H, none, [.scr ns], [.ref a], _, _, ⟨fun a o e _ => e, fun a u e => (nomatch e), fun a e => (nomatch e)⟩, ⟨rfl, rfl⟩, .one ⟨a, rfl, h⟩, hS, fun G' H' r v B s o q => ?_, fun _ _ _ _ _ _ _ _ q => q⟩
  subst q
  exact o
end
theorem walk_ofZ {l : PySem.W.OpenLaw} {n k : Nat} {q : Program} {loose : List Str} {XP : (Str → Option Value) → Heap → Prop} {YP : World → Heap → Prop} {d : DefRec} {CX : World → CXT} {x : Str}
    (hn : l.most = some n) (hn2 : n ≤ sizeLine) (hdf : d.params.defaults = []) (hr : Room k callerA)
    (F : ∀ (w : World) (mg : Str → Option Value) (fa : Addr) (h : Heap), YP w h → h.Ns mainGlobals mg → mg d.name = some (.ref fa) →
      ∃ (K : PySem.W.Frag) (fd : FuncData) (sp : Sp), K.In h ∧ (∀ (s : Shared) (u : Value), BindsTo s fd ⟨[u], []⟩ [(x, u)]) ∧
        (∀ (H : Hp) (a : Addr) (ns : List Int), ns.length ≤ n → Only H → SqL K H a (ns.map V.int) → sp [.ref a] H (fun v _ => v = .bl true) fun _ _ _ => False) ∧
        ∀ base : Heap, K.In base → base.Ns mainGlobals mg → FnOk l.prog w K mg base (CX w) k fa fd [x] sp)
    (hCX : ∀ (w : World) (H : Hp) (s : Shared) (e : Value) (s' : Shared), CX w [] H s (fun _ _ _ => False) e s' → False) :
    PySem.W.WalkO q loose XP YP l.row.toRowW d [] (fun f vs => PySem.call f vs) := by
  refine Att.attach_call hn hdf fun w s₀ s₁ mg mb fa o pm cd doc a vs ns G Y ho hd hcd hmg hobj hints hlen hg => ?_
  obtain ⟨K, fd, sp, KX, hb, hsp, hF⟩ := F w mg fa _ Y G.T.g hmg
  exact law_call KX G.T.g G.T.b G.T.builtins G.T.nolimit hg hobj hints (Nat.le_trans hlen hn2) hr hF hb (fun H hO hS => hsp H a ns hlen hO hS) fun H e s' => hCX w H s₁ e s'
end Z

set_option maxHeartbeats 4000000
namespace K97
set_option autoImplicit false
open PySem PySem.Spec PyProof.Rows L2 L2H Z
def lE_BadText : List FP := [.txt "fault in row ", .par 1, .txt " at place ", .par 2]
def fE_BadText : List (Str × Nat) := [("row", 1), ("place", 2)]
abbrev nE_BadText : Nat := 2
def lE_Unlike : List FP := [.txt "not accepted: ", .par 1]
def fE_Unlike : List (Str × Nat) := [("what", 1)]
abbrev nE_Unlike : Nat := 1
/-! ### names -/
def letS : Str := "abcdefghijklmnopqrstuvwxyz"
def ldS : Str := "abcdefghijklmnopqrstuvwxyz0123456789"
def nmL : List Nat → Bool
  | [] => false
  | c :: l => decide (l.length < 8) && (decide (c ∈ letS.cps.toList) && ((c :: l).all fun s => decide (s ∈ ldS.cps.toList)))
theorem nmL_cons (c : Nat) (l : List Nat) : nmL (c :: l) = (decide (l.length < 8) && (decide (c ∈ letS.cps.toList) && ((c :: l).all fun s => decide (s ∈ ldS.cps.toList)))) := rfl
def nmD : D → Bool
  | .str z => nmL z.cps.toList
  | _ => false
def sgB : D → Bool
  | .str w => match oneSign w with
    | some c => decide (c ∈ ldS.cps.toList)
    | none => false
  | _ => false
theorem sgB_all (z : Str) : ((signsD z).map sgB).all id = z.cps.toList.all fun s => decide (s ∈ ldS.cps.toList) := by
  unfold signsD
  rw [List.map_map, List.all_map]
  rfl
/-! ### words -/
def grt : Kd → Nat
  | .n => 0
  | .c => 4
  | .m => 3
def dig (l : List Nat) (g : Nat) : Option Nat := match l with
  | [c] => if 48 ≤ c ∧ c ≤ 48 + g then some (c - 48) else none
  | _ => none
def valO : Kd → Str → Option D
  | .n, w => if nmL w.cps.toList = true then some (.str w) else none
  | k, w => (dig w.cps.toList (grt k)).map fun (d : Nat) => D.int (d : Int)
theorem valO_n (w : Str) : valO .n w = if nmL w.cps.toList = true then some (.str w) else none := rfl
theorem dig_some {l : List Nat} {g d : Nat} (h : dig l g = some d) : l = [48 + d] ∧ d ≤ g := by
  unfold dig at h
  split at h
  · rename_i c
    split at h
    · cases h
      rename_i hc
      exact ⟨by rw [show 48 + (c - 48) = c from by omega], by omega⟩
    · cases h
  · cases h
theorem str_of (w : Str) {l : List Nat} (h : w.cps.toList = l) : w = ⟨l.toArray⟩ := by
  obtain ⟨a⟩ := w
  rw [← h]
theorem dig1 (c g : Nat) : dig [c] g = if 48 ≤ c ∧ c ≤ 48 + g then some (c - 48) else none := rfl
theorem int_dig {w : Str} {d : Nat} (h : w.cps.toList = [48 + d]) (hd : d < 10) : intText? w = some (d : Int) ∧ w = Str.ofString (toString (d : Int)) := by
  have e : w = Str.ofString (toString (d : Int)) := TL.ext_tl (by rw [TL.tl_num, TL.numL_lt hd]; exact h)
  refine ⟨?_, e⟩
  rw [e]
  exact TL.int_num (by rw [TL.numL_lt hd]; simp)
theorem valO_cases {k : Kd} {w : Str} {v : D} (h : valO k w = some v) : (k = .n ∧ v = .str w ∧ nmL w.cps.toList = true) ∨ (k ≠ .n ∧ ∃ d : Nat, v = .int (d : Int) ∧ w.cps.toList = [48 + d] ∧ d ≤ grt k) := by
  cases k with
  | n =>
    rw [valO_n] at h
    split at h
    · rename_i hn; cases h; exact .inl ⟨rfl, rfl, hn⟩
    · cases h
  | c =>
    have h : (dig w.cps.toList 4).map (fun (d : Nat) => D.int (d : Int)) = some v := h
    cases e : dig w.cps.toList 4 with
    | none => rw [e] at h; cases h
    | some d => rw [e] at h; cases h; exact .inr ⟨by decide, d, rfl, (dig_some e).1, (dig_some e).2⟩
  | m =>
    have h : (dig w.cps.toList 3).map (fun (d : Nat) => D.int (d : Int)) = some v := h
    cases e : dig w.cps.toList 3 with
    | none => rw [e] at h; cases h
    | some d => rw [e] at h; cases h; exact .inr ⟨by decide, d, rfl, (dig_some e).1, (dig_some e).2⟩
theorem lt1 (a b : Nat) : decide (([a] : List Nat) < [b]) = decide (a < b) := by
  rw [Bool.eq_iff_iff, decide_eq_true_eq, decide_eq_true_eq]
  simp [List.cons_lt_cons_iff]
theorem kd_ne {k : Kd} (h : k ≠ .n) : kdS k ≠ "name" := by cases k <;> first | exact absurd rfl h | decide
theorem strLt1 {w : Str} {c : Nat} (h : w.cps.toList = [c]) (b : Nat) (v : Str) (hv : v.cps.toList = [b]) : strLt w v = decide (c < b) ∧ strLt v w = decide (b < c) := by
  unfold strLt
  rw [h, hv, lt1, lt1]
  exact ⟨rfl, rfl⟩
/-- the branch of a number's word -/
theorem word_dig {w : Str} {k : Kd} {g : Nat} (hk : k ≠ .n) (hg : grt k = g) (hg9 : g < 10) {Q : Rs → Prop} (hz : w.length ≤ sizeLine) (q : Q (.val ((valO k w).getD .non))) :
    if decide ((w.length : Int) = 1) = true then if (!strLt w (Str.ofString "0")) = true then if (!strLt (Str.ofString (toString (g : Int))) w) = true then ∃ n, intText? w = some n ∧ w.length ≤ 640 ∧ Q (.val (.int n)) else Q (.val .non) else Q (.val .non) else Q (.val .non) := by
  have hv : valO k w = (dig w.cps.toList g).map fun (d : Nat) => D.int (d : Int) := by
    rw [← hg]
    cases k <;> first | exact absurd rfl hk | rfl
  rw [hv] at q
  have hl := len_toList w
  cases e : w.cps.toList with
  | nil =>
    rw [e] at hl q
    rw [if_neg (by simp at hl; simp; omega)]
    exact q
  | cons c l =>
    cases l with
    | cons c2 l =>
      rw [e] at hl q
      rw [if_neg (by simp at hl; simp; omega)]
      exact q
    | nil =>
      rw [e] at hl q
      rw [if_pos (by simp at hl; simp; omega)]
      have e0 := (strLt1 e 48 (Str.ofString "0") rfl).1
      have eg := (strLt1 e (48 + g) (Str.ofString (toString (g : Int))) (by have := TL.tl_num g; rw [TL.numL_lt hg9] at this; exact this)).2
      rw [e0, eg]
      by_cases h0 : c < 48
      · rw [if_neg (by simp; exact h0)]
        have : dig [c] g = none := by rw [dig1, if_neg (by omega)]
        rw [this] at q
        exact q
      · rw [if_pos (by simp; omega)]
        by_cases h1 : 48 + g < c
        · rw [if_neg (by simp; omega)]
          have : dig [c] g = none := by rw [dig1, if_neg (by omega)]
          rw [this] at q
          exact q
        · rw [if_pos (by simp; omega)]
          have hd : dig [c] g = some (c - 48) := by rw [dig1, if_pos (by omega)]
          rw [hd] at q
          obtain ⟨h2, _⟩ := int_dig (w := w) (d := c - 48) (by rw [e, show 48 + (c - 48) = c from by omega]) (by omega)
          exact ⟨_, h2, by rw [← hl, List.length_cons, List.length_nil]; omega, q⟩
/-! ### read_row -/
abbrev SP : Str := " "
def sp (z : Str) : List Str := Txt.split z SP
def faultR : List Str → List Kd → Int → Int → Option Int
  | w :: ws, k :: ks, p, L => if (valO k w).isSome = true then faultR ws ks (p + (w.length : Int) + 1) L else some p
  | [], _ :: _, _, L => some (L + 1)
  | _ :: _, [], p, _ => some p
  | [], [], _, _ => none
def valsR : List Str → List Kd → List D
  | w :: ws, k :: ks => (valO k w).getD .non :: valsR ws ks
  | _, _ => []
def rrW (ws : List Str) (L : Int) : Sum Int (List D) := match ws with
  | [] => .inl 1
  | w0 :: t => match formsL.lookup w0 with
    | none => .inl 1
    | some ks => match faultR t ks ((w0.length : Int) + 2) L with
      | some p => .inl p
      | none => .inr (.str w0 :: valsR t ks)
def badE (p : Int) : Ex := ⟨"BadText", [("place", .int p), ("row", .int 1)]⟩
theorem small_log {p : Int} (h0 : 0 ≤ p) (h : p < 18446744073709551616) : p.natAbs.log2 < 1920 := Nat.lt_trans (PySem.Flt.log2_lt_of (k := 64) (by decide) (by omega)) (by decide)
theorem lookup_map {β γ : Type} (f : β → γ) (x : Str) : ∀ l : List (Str × β), (l.map fun p => (p.1, f p.2)).lookup x = (l.lookup x).map f
  | [] => rfl
  | (k, v) :: l => by
    rw [List.map_cons, List.lookup_cons, List.lookup_cons, lookup_map f x l]
    cases (x == k) <;> rfl
theorem look_forms (w : Str) : tab_FORMS.lookup w = (formsL.lookup w).map ktD := lookup_map ktD w formsL
theorem forms_len {w : Str} {ks : List Kd} (h : formsL.lookup w = some ks) : ks.length ≤ 4 ∧ 0 < ks.length := (show ∀ p ∈ formsL, p.2.length ≤ 4 ∧ 0 < p.2.length from by decide) _ (PySem.mem_of_lookup h)
/-! ### the parts of a split text -/
theorem splS_nil (acc : List Nat) : TL.spl [32] 0 acc [] = [acc] := TL.spl_nil _ _ _
theorem splS_hit (acc L : List Nat) : TL.spl [32] 0 acc (32 :: L) = acc :: TL.spl [32] 0 [] L := TL.spl_hit rfl
theorem splS_miss (acc L : List Nat) {c : Nat} (h : c ≠ 32) : TL.spl [32] 0 acc (c :: L) = TL.spl [32] 0 (acc ++ [c]) L := TL.spl_miss (TL.pre_of_head [] L h)
theorem spl_cons : ∀ (L acc : List Nat), ∃ p ps, TL.spl [32] 0 acc L = p :: ps
  | [], acc => ⟨_, _, splS_nil acc⟩
  | c :: L, acc => by
    by_cases hc : c = 32
    · subst hc; exact ⟨_, _, splS_hit acc L⟩
    · rw [splS_miss acc L hc]; exact spl_cons L _
theorem joinL_spl : ∀ (L acc : List Nat), TL.joinL [32] (TL.spl [32] 0 acc L) = acc ++ L
  | [], acc => by rw [TL.spl_nil, List.append_nil]; rfl
  | c :: L, acc => by
    by_cases hc : c = 32
    · subst hc
      have ih := joinL_spl L []
      obtain ⟨p, ps, e⟩ := spl_cons L []
      rw [splS_hit, e]
      rw [e] at ih
      show acc ++ ([32] ++ TL.joinL [32] (p :: ps)) = _
      rw [ih]
      rfl
    · rw [splS_miss acc L hc, joinL_spl L (acc ++ [c]), List.append_assoc]
      rfl
theorem spl_le : ∀ (L acc : List Nat), ∀ p ∈ TL.spl [32] 0 acc L, p.length ≤ acc.length + L.length
  | [], acc => fun p hp => by rw [splS_nil, List.mem_singleton] at hp; subst hp; simp
  | c :: L, acc => fun p hp => by
    by_cases hc : c = 32
    · subst hc
      rw [splS_hit] at hp
      rcases List.mem_cons.mp hp with h | h
      · subst h; simp
      · have := spl_le L [] p h
        simp at this ⊢; omega
    · rw [splS_miss acc L hc] at hp
      have := spl_le L _ p hp
      simp at this ⊢; omega
theorem spl_cnt : ∀ (L acc : List Nat), (TL.spl [32] 0 acc L).length ≤ L.length + 1
  | [], acc => by rw [splS_nil]; simp
  | c :: L, acc => by
    by_cases hc : c = 32
    · subst hc
      rw [splS_hit]
      have := spl_cnt L []
      simp; omega
    · rw [splS_miss acc L hc]
      have := spl_cnt L (acc ++ [c])
      simp; omega
theorem spl_free : ∀ (L acc : List Nat), 32 ∉ acc → ∀ p ∈ TL.spl [32] 0 acc L, 32 ∉ p
  | [], acc, h => fun p hp => by rw [splS_nil, List.mem_singleton] at hp; subst hp; exact h
  | c :: L, acc, h => fun p hp => by
    by_cases hc : c = 32
    · subst hc
      rw [splS_hit] at hp
      rcases List.mem_cons.mp hp with h1 | h1
      · subst h1; exact h
      · exact spl_free L [] (by simp) p h1
    · rw [splS_miss acc L hc] at hp
      exact spl_free L _ (by simp; exact ⟨h, fun e => hc e.symm⟩) p hp
theorem tl_SP : TL.tl SP = [32] := rfl
theorem sp_spl (z : Str) : (sp z).map TL.tl = TL.spl [32] 0 [] (TL.tl z) := by
  unfold sp
  exact TL.split_spl z SP (by rw [tl_SP]; simp) (TL.kind_ok (by rw [← Array.all_toList]; rfl))
theorem sp_ne (z : Str) : ∃ w0 t, sp z = w0 :: t := by
  have e := sp_spl z
  obtain ⟨p, ps, h⟩ := spl_cons (TL.tl z) []
  rw [h] at e
  cases hs : sp z with
  | nil => rw [hs] at e; cases e
  | cons a b => exact ⟨_, _, rfl⟩
theorem sp_len {z w : Str} (h : w ∈ sp z) : w.length ≤ z.length := by
  rw [TL.len_tl, TL.len_tl]
  have := spl_le (TL.tl z) [] (TL.tl w) (by rw [← sp_spl]; exact List.mem_map_of_mem h)
  simpa using this
theorem sp_cnt (z : Str) : (sp z).length ≤ z.length + 1 := by
  have := spl_cnt (TL.tl z) []
  rw [← sp_spl, List.length_map] at this
  rw [TL.len_tl]
  exact this
theorem sp_free {z w : Str} (h : w ∈ sp z) : 32 ∉ TL.tl w := spl_free (TL.tl z) [] (by simp) _ (by rw [← sp_spl]; exact List.mem_map_of_mem h)
theorem join_sp (z : Str) : Str.join SP (sp z) = z := TL.ext_tl (by rw [TL.tl_join, sp_spl, tl_SP, joinL_spl, List.nil_append])
theorem sp_join {ws : List Str} (hne : ws ≠ []) (h : ∀ w ∈ ws, 32 ∉ TL.tl w) : sp (Str.join SP ws) = ws := by
  refine TL.map_tl_inj ?_
  rw [sp_spl, TL.tl_join, tl_SP]
  refine TL.spl_join (by simp [hne]) fun p hp => ?_
  obtain ⟨w, hw, rfl⟩ := List.mem_map.mp hp
  exact h w hw
theorem rrW_nil (L : Int) : rrW [] L = .inl 1 := rfl
theorem rrW_none {w0 : Str} {t : List Str} {L : Int} (h : formsL.lookup w0 = none) : rrW (w0 :: t) L = .inl 1 := by
  show (match formsL.lookup w0 with
    | none => (.inl 1 : Sum Int (List D))
    | some ks => match faultR t ks ((w0.length : Int) + 2) L with
      | some p => .inl p
      | none => .inr (.str w0 :: valsR t ks)) = _
  rw [h]
theorem rrW_some {w0 : Str} {t : List Str} {L : Int} {ks : List Kd} (h : formsL.lookup w0 = some ks) : rrW (w0 :: t) L = match faultR t ks ((w0.length : Int) + 2) L with
      | some p => .inl p
      | none => .inr (.str w0 :: valsR t ks) := by
  show (match formsL.lookup w0 with
    | none => (.inl 1 : Sum Int (List D))
    | some ks => match faultR t ks ((w0.length : Int) + 2) L with
      | some p => .inl p
      | none => .inr (.str w0 :: valsR t ks)) = _
  rw [h]
theorem rrW_bad {w0 : Str} {t : List Str} {L p : Int} {ks : List Kd} (h : formsL.lookup w0 = some ks) (hp : faultR t ks ((w0.length : Int) + 2) L = some p) : rrW (w0 :: t) L = .inl p := by rw [rrW_some h, hp]
theorem rrW_ok {w0 : Str} {t : List Str} {L : Int} {ks : List Kd} (h : formsL.lookup w0 = some ks) (hp : faultR t ks ((w0.length : Int) + 2) L = none) : rrW (w0 :: t) L = .inr (.str w0 :: valsR t ks) := by rw [rrW_some h, hp]
theorem faultR_bad {w : Str} {ws : List Str} {k : Kd} {ks : List Kd} {p L : Int} (h : valO k w = none) : faultR (w :: ws) (k :: ks) p L = some p := by
  show (if (valO k w).isSome = true then faultR ws ks (p + (w.length : Int) + 1) L else some p) = _
  rw [h]
  rfl
theorem faultR_ok {w : Str} {ws : List Str} {k : Kd} {ks : List Kd} {p L : Int} {v : D} (h : valO k w = some v) : faultR (w :: ws) (k :: ks) p L = faultR ws ks (p + (w.length : Int) + 1) L := by
  show (if (valO k w).isSome = true then faultR ws ks (p + (w.length : Int) + 1) L else some p) = _
  rw [h]
  rfl
theorem valsR_cons {w : Str} {ws : List Str} {k : Kd} {ks : List Kd} {v : D} (h : valO k w = some v) : valsR (w :: ws) (k :: ks) = v :: valsR ws ks := by
  show (valO k w).getD .non :: valsR ws ks = _
  rw [h]
  rfl
theorem faultR_end (t : List Str) (ks : List Kd) (p L : Int) : faultR (t.drop (min t.length ks.length)) (ks.drop (min t.length ks.length)) p L = if t.length < ks.length then some (L + 1) else if ks.length < t.length then some p else none := by
  by_cases h1 : t.length < ks.length
  · rw [if_pos h1, Nat.min_eq_left (by omega), List.drop_length, List.drop_eq_getElem_cons h1]
    rfl
  · rw [if_neg h1, Nat.min_eq_right (by omega), List.drop_length]
    by_cases h2 : ks.length < t.length
    · rw [if_pos h2, List.drop_eq_getElem_cons h2]
      rfl
    · rw [if_neg h2, List.drop_of_length_le (by omega)]
      rfl
theorem valsR_end (t : List Str) (ks : List Kd) : valsR (t.drop (min t.length ks.length)) (ks.drop (min t.length ks.length)) = [] := by
  by_cases h1 : t.length < ks.length
  · rw [Nat.min_eq_left (by omega), List.drop_length]
    rfl
  · rw [Nat.min_eq_right (by omega), List.drop_length]
    cases t.drop ks.length <;> rfl
/-! ### has_kind -/
def hkD (d : D) : Kd → Bool
  | .n => nmD d
  | k => match d with
    | .int i => decide (0 ≤ i) && decide (i ≤ (grt k : Int))
    | _ => false
def rowOk : List D → Bool
  | .str w0 :: vs => match formsL.lookup w0 with
    | none => false
    | some ks => decide (vs.length = ks.length) && (vs.zip ks).all fun q => hkD q.1 q.2
  | _ => false
def okW (d : D) : Prop := (∃ z, d = .str z ∧ z.length ≤ 20000) ∨ ∃ i : Int, d = .int i ∧ i.natAbs < 10 ^ 70
def wdS : D → Str
  | .str z => z
  | .int i => Str.ofString (toString i)
  | _ => Str.ofString ""
def rowS (ws : List D) : Str := Str.join SP (ws.map wdS)
def unlE : Ex := ⟨"Unlike", [("what", .str "row")]⟩
theorem sIx_one {n : Nat} {P : Prop} : ¬ (HT.sIx (n + 1) 0 (some 1) = 0 ∧ P) := fun h => by
  have := h.1
  rw [show (1 : Int) = ((1 : Nat) : Int) from rfl, HT.sIx_nat] at this
  omega
theorem log70 {i : Int} (h : i.natAbs < 10 ^ 70) : i.natAbs.log2 < 1920 := Nat.lt_trans (PySem.Flt.log2_lt_of (k := 250) (by decide) (Nat.lt_trans h (by decide))) (by decide)
theorem wdS_len {d : D} (h : okW d) : (wdS d).length ≤ 20000 := by
  rcases h with ⟨z, rfl, hz⟩ | ⟨i, rfl, hi⟩
  · exact hz
  · show (Str.ofString (toString i)).length ≤ 20000
    cases i with
    | ofNat n =>
      have := TL.numL_len (n := n) (k := 70) (by decide) hi
      rw [TL.len_tl, show TL.tl (Str.ofString (toString (Int.ofNat n))) = TL.numL n from TL.tl_num n]
      omega
    | negSucc n =>
      have h1 := TL.numL_len (n := n + 1) (k := 70) (by decide) hi
      have e : (Str.ofString (toString (Int.negSucc n))) = Str.ofString ("-" ++ toString (((n + 1 : Nat) : Int))) := rfl
      have h2 : TL.tl (Str.ofString (toString ((n + 1 : Nat) : Int))) = _ := TL.tl_num (n + 1)
      rw [TL.tl_ofString] at h2
      rw [e, TL.len_tl, TL.tl_ofString, String.toList_append, List.map_append, h2, List.length_append]
      have : (("-" : String).toList.map Char.toNat).length = 1 := rfl
      omega

theorem sum_le {α : Type} (f : α → Nat) (b : Nat) : ∀ l : List α, (∀ x ∈ l, f x ≤ b) → (l.map f).sum ≤ l.length * b
  | [], _ => by simp
  | x :: l, h => by
    have h1 := h x List.mem_cons_self
    have h2 := sum_le f b l fun y hy => h y (List.mem_cons_of_mem _ hy)
    rw [List.map_cons, List.sum_cons, List.length_cons, Nat.add_mul]
    omega
def posL : List Str → Int → List D
  | [], _ => []
  | w :: ws, p => .tup [.str w, .int p] :: posL ws (p + (w.length : Int) + 1)
theorem posL_len : ∀ (ws : List Str) (p : Int), (posL ws p).length = ws.length
  | [], _ => rfl
  | w :: ws, p => by
    show (posL ws _).length + 1 = _
    rw [posL_len ws, List.length_cons]
def formS : List Kd → Str
  | [.n, .n] => "nn"
  | [.n, .n, .n, .n] => "nnnn"
  | [.n, .c] => "nc"
  | [.n, .m] => "nm"
  | [.n] => "n"
  | _ => ""
def formO (w : Str) : Str := match formsL.lookup w with
  | none => ""
  | some ks => formS ks
theorem find_form (w : Str) : ∀ l : List (Str × List Kd), ((l.map fun p => ((Sum.inr p.1 : Int ⊕ Str), D.str (formS p.2))).find? fun q => decide (q.1 = .inr w)).map (·.2) = (l.lookup w).map fun ks => .str (formS ks)
  | [] => rfl
  | (k, v) :: l => by
    rw [List.map_cons, List.find?_cons, List.lookup_cons]
    by_cases h : k = w
    · subst h
      rw [decide_eq_true rfl, beq_self_eq_true]
      rfl
    · rw [decide_eq_false (fun e => h (Sum.inr.inj e)), beq_false_of_ne (fun e => h e.symm)]
      exact find_form w l
def fK : List (Int ⊕ Str) := formsL.map fun p => .inr p.1
def fV : List D := formsL.map fun p => .str (formS p.2)
theorem look_form (w : Str) : (look fK fV (.inr w)).getD (.str "") = .str (formO w) := by
  unfold look
  rw [show fK.zip fV = formsL.map fun p => ((Sum.inr p.1 : Int ⊕ Str), D.str (formS p.2)) from rfl, find_form]
  unfold formO
  cases formsL.lookup w <;> rfl
abbrev K7 : List (Int ⊕ Str) := [.inr "net", .inr "house", .inr "line", .inr "cut", .inr "build", .inr "break", .inr "mend"]
theorem put8 : putKs K7 (.inr "send") = K7 ++ [.inr "send"] := by unfold putKs; rw [if_neg (by decide)]
theorem put9 : putKs (K7 ++ [.inr "send"]) (.inr "each") = K7 ++ [.inr "send"] ++ [.inr "each"] := by unfold putKs; rw [if_neg (by decide)]
theorem put10 : putKs (K7 ++ [.inr "send"] ++ [.inr "each"]) (.inr "worst") = fK := by unfold putKs; rw [if_neg (by decide)]; rfl
theorem putA8 (ds : List D) (d : D) : putA K7 ds (.inr "send") d = ds ++ [d] := by unfold putA; rw [if_neg (by decide)]
theorem putA9 (ds : List D) (d : D) : putA (K7 ++ [.inr "send"]) ds (.inr "each") d = ds ++ [d] := by unfold putA; rw [if_neg (by decide)]
theorem putA10 (ds : List D) (d : D) : putA (K7 ++ [.inr "send"] ++ [.inr "each"]) ds (.inr "worst") d = ds ++ [d] := by unfold putA; rw [if_neg (by decide)]
/-! ### the law's row_fault -/
def rf : List Str → Int → Nat → List Bool → Int → Option Int
  | w :: ws, p, n + 1, g :: gs, L => if g = true then rf ws (p + (w.length : Int) + 1) n gs L else some p
  | [], _, _ + 1, _, L => some (L + 1)
  | _ :: _, p, _, _, _ => some p
  | [], _, 0, _, _ => none
def pAt : List Str → Int → Nat → Int
  | w :: ws, p, k + 1 => pAt ws (p + (w.length : Int) + 1) k
  | _, p, _ => p
theorem pAt_zero (ws : List Str) (p : Int) : pAt ws p 0 = p := by cases ws <;> rfl
theorem posL_get : ∀ (ws : List Str) (p : Int) (k : Nat) (h : k < ws.length), (posL ws p)[k]? = some (.tup [.str ws[k], .int (pAt ws p k)])
  | [], _, _, h => by cases h
  | w :: ws, p, 0, _ => rfl
  | w :: ws, p, k + 1, h => by
    have := posL_get ws (p + (w.length : Int) + 1) k (by rw [List.length_cons] at h; omega)
    exact this
theorem rf_drop (L : Int) : ∀ (k : Nat) (ws : List Str) (p : Int) (n : Nat) (gs : List Bool), k ≤ ws.length → k ≤ n → k ≤ gs.length → (∀ i, i < k → gs[i]? = some true) → rf ws p n gs L = rf (ws.drop k) (pAt ws p k) (n - k) (gs.drop k) L
  | 0, ws, p, n, gs, _, _, _, _ => by rw [pAt_zero]; rfl
  | k + 1, [], _, _, _, h, _, _, _ => by cases h
  | k + 1, w :: ws, p, 0, _, _, h, _, _ => by cases h
  | k + 1, w :: ws, p, n + 1, [], _, _, h, _ => by cases h
  | k + 1, w :: ws, p, n + 1, g :: gs, h1, h2, h3, h4 => by
    have hg : g = true := by have := h4 0 (by omega); exact Option.some.inj this
    subst hg
    have ih := rf_drop L k ws (p + (w.length : Int) + 1) n gs (by rw [List.length_cons] at h1; omega) (by omega) (by rw [List.length_cons] at h3; omega) fun i hi => by
      have := h4 (i + 1) (by omega)
      exact this
    rw [show n + 1 - (k + 1) = n - k by omega]
    show (if true = true then rf ws (p + (w.length : Int) + 1) n gs L else some p) = _
    rw [if_pos rfl, ih]
    rfl
theorem rf_end {L : Int} {ws : List Str} {p : Int} {n : Nat} {gs : List Bool} : rf (ws.drop (min ws.length n)) (pAt ws p (min ws.length n)) (n - min ws.length n) (gs.drop (min ws.length n)) L = if ws.length < n then some (L + 1) else if n < ws.length then some (pAt ws p n) else none := by
  by_cases h1 : ws.length < n
  · rw [if_pos h1, Nat.min_eq_left (by omega), List.drop_length]
    obtain ⟨m, e⟩ : ∃ m, n - ws.length = m + 1 := ⟨n - ws.length - 1, by omega⟩
    rw [e]
    rfl
  · rw [if_neg h1, Nat.min_eq_right (by omega), Nat.sub_self]
    by_cases h2 : n < ws.length
    · rw [if_pos h2, List.drop_eq_getElem_cons h2]
      rfl
    · rw [if_neg h2, List.drop_of_length_le (by omega)]
      rfl
def optD : Option Int → D
  | none => .non
  | some p => .int p
end K97

set_option maxHeartbeats 4000000
/-! plain lemmas: the law's reading, the way back -/
namespace K97
set_option autoImplicit false
open PySem PySem.Spec PyProof.Rows L2 L2H Z
def kdC : Kd → Nat
  | .n => 110
  | .c => 99
  | .m => 109
theorem formS_signs {w : Str} {ks : List Kd} (h : formsL.lookup w = some ks) : (formS ks).cps.toList = ks.map kdC :=
  (show ∀ p ∈ formsL, (formS p.2).cps.toList = p.2.map kdC from by decide) _ (PySem.mem_of_lookup h)
theorem formO_some {w : Str} {ks : List Kd} (h : formsL.lookup w = some ks) : formO w = formS ks := by unfold formO; rw [h]
theorem formO_none {w : Str} (h : formsL.lookup w = none) : formO w = "" := by unfold formO; rw [h]
theorem formO_len {w : Str} {ks : List Kd} (h : formsL.lookup w = some ks) : (formO w).length = ks.length := by
  rw [formO_some h]
  have := formS_signs h
  rw [← len_toList, this, List.length_map]
theorem w0_len {w : Str} {ks : List Kd} (h : formsL.lookup w = some ks) : w.length ≤ 8 ∧ 32 ∉ TL.tl w :=
  (show ∀ p ∈ formsL, p.1.length ≤ 8 ∧ 32 ∉ TL.tl p.1 from by decide) _ (PySem.mem_of_lookup h)
def goodR (q : Str × Kd) : Bool := (valO q.2 q.1).isSome
def fndR (q : Str × Kd) : Option D := match q.2 with
  | .n => some (.str q.1)
  | k => valO k q.1
theorem rf_fault (L : Int) : ∀ (t : List Str) (ks : List Kd) (p : Int), rf t p ks.length ((t.zip ks).map goodR) L = faultR t ks p L
  | [], [], p => rfl
  | [], _ :: _, p => rfl
  | _ :: _, [], p => rfl
  | w :: t, k :: ks, p => by
    show (if goodR (w, k) = true then rf t _ ks.length ((t.zip ks).map goodR) L else some p) = if (valO k w).isSome = true then faultR t ks _ L else some p
    rw [rf_fault L t ks]
    rfl
theorem valO_fnd {k : Kd} {w : Str} {v : D} (h : valO k w = some v) : fndR (w, k) = some v := by
  cases k with
  | n =>
    rw [valO_n] at h
    split at h
    · cases h; rfl
    · cases h
  | c => exact h
  | m => exact h
theorem fnd_ok (L : Int) : ∀ (t : List Str) (ks : List Kd) (p : Int), faultR t ks p L = none → (t.zip ks).filterMap fndR = valsR t ks
  | [], [], _, _ => rfl
  | [], _ :: _, _, _ => rfl
  | _ :: _, [], _, _ => rfl
  | w :: t, k :: ks, p, h => by
    cases hv' : valO k w with
    | none => rw [faultR_bad hv'] at h; cases h
    | some v =>
      rw [faultR_ok hv'] at h
      rw [List.zip_cons_cons, List.filterMap_cons, valO_fnd hv', valsR_cons hv', ← fnd_ok L t ks _ h]
def ksO (w : Str) : List Kd := (formsL.lookup w).getD []
theorem formO_signs (w : Str) : (formO w).cps.toList = (ksO w).map kdC := by
  unfold ksO
  cases h : formsL.lookup w with
  | none => rw [formO_none h]; rfl
  | some ks => rw [formO_some h]; exact formS_signs h
theorem formO_l (w : Str) : (formO w).length = (ksO w).length := by rw [← len_toList, formO_signs, List.length_map]
theorem ksO_len (w : Str) : (ksO w).length ≤ 4 := by
  unfold ksO
  cases h : formsL.lookup w with
  | none => exact Nat.zero_le _
  | some ks => exact (forms_len h).1
theorem rrW_law (w0 : Str) (t : List Str) (L : Int) : rrW (w0 :: t) L = match rf (w0 :: t) 1 (1 + (ksO w0).length) (decide (0 < (ksO w0).length) :: (t.zip (ksO w0)).map goodR) L with
    | some p => .inl p
    | none => .inr (.str w0 :: (t.zip (ksO w0)).filterMap fndR) := by
  have e : ∀ (n : Nat) (g : Bool) (gs : List Bool), rf (w0 :: t) 1 (1 + n) (g :: gs) L = if g = true then rf t (1 + (w0.length : Int) + 1) n gs L else some 1 := fun n g gs => by
    rw [Nat.add_comm 1 n]
    rfl
  rw [e]
  cases h : formsL.lookup w0 with
  | none =>
    have : ksO w0 = [] := by unfold ksO; rw [h]; rfl
    rw [rrW_none h, this]
    rfl
  | some ks =>
    have hk : ksO w0 = ks := by unfold ksO; rw [h]; rfl
    have := forms_len h
    rw [hk, if_pos (decide_eq_true this.2), rf_fault, show (1 + (w0.length : Int) + 1) = (w0.length : Int) + 2 by omega]
    cases hf : faultR t ks ((w0.length : Int) + 2) L with
    | some p => rw [rrW_bad h hf]
    | none => rw [rrW_ok h hf, fnd_ok L t ks _ hf]
def fst0 : D → D
  | .tup (a :: _) => a
  | _ => .non
theorem posL_fst : ∀ (ws : List Str) (p : Int), (posL ws p).map fst0 = ws.map D.str
  | [], _ => rfl
  | w :: ws, p => by
    show D.str w :: (posL ws _).map fst0 = _
    rw [posL_fst ws]
    rfl
theorem posL_mem : ∀ {ws : List Str} {p : Int} {d : D}, d ∈ posL ws p → ∃ w q, d = .tup [.str w, .int q]
  | [], _, _, h => by cases h
  | w :: ws, p, d, h => by
    rcases List.mem_cons.mp h with h | h
    · exact ⟨_, _, h⟩
    · exact posL_mem h
/-- a number's word as the law tests it -/
theorem dig_any (w : Str) : ([D.str "0", D.str "1", D.str "2", D.str "3"].any fun d => eqD d (.str w)) = (dig w.cps.toList 3).isSome := by
  have key : ∀ z : Str, eqD (.str z) (.str w) = decide (z.cps.toList = w.cps.toList) := fun z => by
    show (z == w) = _
    rw [Bool.eq_iff_iff, beq_iff_eq, decide_eq_true_eq]
    exact ⟨fun e => by rw [e], fun e => TL.ext_tl e⟩
  simp only [List.any_cons, List.any_nil, key, Bool.or_false]
  generalize w.cps.toList = l
  unfold dig
  match l with
  | [] => rfl
  | [c] =>
    show (decide ([48] = [c]) || (decide ([49] = [c]) || (decide ([50] = [c]) || decide ([51] = [c])))) = (if 48 ≤ c ∧ c ≤ 48 + 3 then some (c - 48) else none).isSome
    by_cases h : 48 ≤ c ∧ c ≤ 48 + 3
    · rw [if_pos h]
      have : c = 48 ∨ c = 49 ∨ c = 50 ∨ c = 51 := by omega
      rcases this with rfl | rfl | rfl | rfl <;> rfl
    · rw [if_neg h]
      have h1 : ¬ 48 = c := fun e => h (by omega)
      have h2 : ¬ 49 = c := fun e => h (by omega)
      have h3 : ¬ 50 = c := fun e => h (by omega)
      have h4 : ¬ 51 = c := fun e => h (by omega)
      simp [h1, h2, h3, h4]
  | a :: b :: r => 
    have n : ∀ c : Nat, decide ([c] = a :: b :: r) = false := fun c => decide_eq_false fun h => by cases h
    show (decide ([48] = a :: b :: r) || (decide ([49] = a :: b :: r) || (decide ([50] = a :: b :: r) || decide ([51] = a :: b :: r)))) = false
    rw [n, n, n, n]
    rfl
theorem dig_four (w : Str) : ((dig w.cps.toList 3).isSome || decide (w = "4")) = (dig w.cps.toList 4).isSome := by
  have e : decide (w = "4") = decide (w.cps.toList = [52]) := by
    rw [Bool.eq_iff_iff, decide_eq_true_eq, decide_eq_true_eq]
    exact ⟨fun e => by rw [e]; rfl, fun e => TL.ext_tl e⟩
  rw [e]
  generalize w.cps.toList = l
  match l with
  | [] => rfl
  | [c] =>
    rw [dig1, dig1]
    by_cases h : 48 ≤ c ∧ c ≤ 48 + 3
    · rw [if_pos h, if_pos (by omega)]; rfl
    · rw [if_neg h]
      by_cases h4 : c = 52
      · subst h4; rfl
      · rw [if_neg (by omega)]; simp [h4]
  | a :: b :: r =>
    show (false || decide (a :: b :: r = [52])) = false
    simp
/-! ### the way back -/
theorem nmL_len {l : List Nat} (h : nmL l = true) : l.length ≤ 8 ∧ 32 ∉ l := by
  cases l with
  | nil => cases h
  | cons c l =>
    rw [nmL_cons, Bool.and_eq_true, Bool.and_eq_true, decide_eq_true_eq, List.all_eq_true] at h
    refine ⟨by rw [List.length_cons]; omega, fun hm => ?_⟩
    have := h.2.2 _ hm
    exact absurd this (by decide)
theorem valO_back {k : Kd} {w : Str} {v : D} (h : valO k w = some v) : hkD v k = true ∧ wdS v = w ∧ okW v := by
  rcases valO_cases h with ⟨rfl, rfl, hn⟩ | ⟨hk, d, rfl, hw, hd⟩
  · have := (nmL_len hn).1
    rw [len_toList] at this
    exact ⟨hn, rfl, .inl ⟨_, rfl, by omega⟩⟩
  · have hg : grt k < 10 := by cases k <;> decide
    obtain ⟨_, e⟩ := int_dig hw (by omega)
    refine ⟨?_, e.symm, .inr ⟨_, rfl, ?_⟩⟩
    · have : hkD (.int (d : Int)) k = (decide (0 ≤ (d : Int)) && decide ((d : Int) ≤ (grt k : Int))) := by
        cases k <;> first | exact absurd rfl hk | rfl
      rw [this, Bool.and_eq_true, decide_eq_true_eq, decide_eq_true_eq]
      omega
    · have : (10 : Nat) ^ 70 = 10 * 10 ^ 69 := rfl
      have h1 : 0 < 10 ^ 69 := Nat.pow_pos (by decide)
      omega
theorem hk_back {k : Kd} {d : D} (h : hkD d k = true) : valO k (wdS d) = some d ∧ 32 ∉ TL.tl (wdS d) ∧ (wdS d).length ≤ 8 := by
  by_cases hk : k = .n
  · subst hk
    cases d with
    | str z =>
      have hn : nmL z.cps.toList = true := h
      refine ⟨?_, (nmL_len hn).2, ?_⟩
      · rw [valO_n]; exact if_pos hn
      · rw [← len_toList]; exact (nmL_len hn).1
    | _ => cases h
  · cases d with
    | int i =>
      have e : hkD (.int i) k = (decide (0 ≤ i) && decide (i ≤ (grt k : Int))) := by
        cases k <;> first | exact absurd rfl hk | rfl
      rw [e, Bool.and_eq_true, decide_eq_true_eq, decide_eq_true_eq] at h
      obtain ⟨n, rfl⟩ : ∃ n : Nat, i = n := ⟨i.toNat, by omega⟩
      have hg : grt k < 10 := by cases k <;> decide
      have ht : TL.tl (wdS (.int (n : Int))) = [48 + n] := by
        show TL.tl (Str.ofString (toString (n : Int))) = _
        rw [TL.tl_num, TL.numL_lt (by omega)]
      have hv : valO k (wdS (.int (n : Int))) = (dig (TL.tl (wdS (.int (n : Int)))) (grt k)).map fun (d : Nat) => D.int (d : Int) := by
        cases k <;> first | exact absurd rfl hk | rfl
      refine ⟨?_, ?_, ?_⟩
      · rw [hv, ht, dig1, if_pos (by omega)]
        show some (D.int ((48 + n - 48 : Nat) : Int)) = _
        rw [Nat.add_sub_cancel_left]
      · rw [ht]; simp; omega
      · rw [TL.len_tl, ht]; simp
    | _ => cases k <;> first | exact absurd rfl hk | cases h
theorem vals_back (L : Int) : ∀ (t : List Str) (ks : List Kd) (p : Int), faultR t ks p L = none → (valsR t ks).length = ks.length ∧ (((valsR t ks).zip ks).all fun q => hkD q.1 q.2) = true ∧ (valsR t ks).map wdS = t ∧ ∀ d ∈ valsR t ks, okW d
  | [], [], _, _ => ⟨rfl, rfl, rfl, fun _ h => by cases h⟩
  | [], _ :: _, _, h => by cases h
  | _ :: _, [], _, h => by cases h
  | w :: t, k :: ks, p, h => by
    cases hv' : valO k w with
    | none => rw [faultR_bad hv'] at h; cases h
    | some v =>
      rw [faultR_ok hv'] at h
      obtain ⟨h1, h2, h3, h4⟩ := vals_back L t ks _ h
      obtain ⟨b1, b2, b3⟩ := valO_back hv'
      rw [valsR_cons hv']
      refine ⟨by rw [List.length_cons, h1, List.length_cons], by rw [List.zip_cons_cons, List.all_cons, b1, h2]; rfl, by rw [List.map_cons, b2, h3], fun d hd => ?_⟩
      rcases List.mem_cons.mp hd with e | e
      · rw [e]; exact b3
      · exact h4 d e
theorem fault_back (L : Int) : ∀ (vs : List D) (ks : List Kd) (p : Int), vs.length = ks.length → ((vs.zip ks).all fun q => hkD q.1 q.2) = true → faultR (vs.map wdS) ks p L = none ∧ valsR (vs.map wdS) ks = vs ∧ ∀ w ∈ vs.map wdS, 32 ∉ TL.tl w ∧ w.length ≤ 8
  | [], [], _, _, _ => ⟨rfl, rfl, fun _ h => by cases h⟩
  | [], _ :: _, _, h, _ => by cases h
  | _ :: _, [], _, h, _ => by cases h
  | v :: vs, k :: ks, p, h, h' => by
    rw [List.zip_cons_cons, List.all_cons, Bool.and_eq_true] at h'
    obtain ⟨b1, b2⟩ := hk_back h'.1
    obtain ⟨h1, h2, h3⟩ := fault_back L vs ks (p + ((wdS v).length : Int) + 1) (by simpa using h) h'.2
    rw [List.map_cons, faultR_ok b1, valsR_cons b1, h2]
    refine ⟨h1, rfl, fun w hw => ?_⟩
    rcases List.mem_cons.mp hw with e | e
    · rw [e]; exact b2
    · exact h3 w e
theorem rowOk_some {w0 : Str} {vs : List D} {ks : List Kd} (h : formsL.lookup w0 = some ks) : rowOk (.str w0 :: vs) = (decide (vs.length = ks.length) && (vs.zip ks).all fun q => hkD q.1 q.2) := by
  show (match formsL.lookup w0 with
    | none => false
    | some ks => decide (vs.length = ks.length) && (vs.zip ks).all fun q => hkD q.1 q.2) = _
  rw [h]
theorem rowOk_none {w0 : Str} {vs : List D} (h : formsL.lookup w0 = none) : rowOk (.str w0 :: vs) = false := by
  show (match formsL.lookup w0 with
    | none => false
    | some ks => decide (vs.length = ks.length) && (vs.zip ks).all fun q => hkD q.1 q.2) = _
  rw [h]
theorem read_back {z : Str} {vs : List D} {L : Int} (h : rrW (sp z) L = .inr vs) : rowOk vs = true ∧ rowS vs = z ∧ (∀ d ∈ vs, okW d) ∧ vs.length ≤ 5 := by
  obtain ⟨w0, t, hsp⟩ := sp_ne z
  rw [hsp] at h
  cases hf : formsL.lookup w0 with
  | none => rw [rrW_none hf] at h; cases h
  | some ks =>
    cases hfa : faultR t ks ((w0.length : Int) + 2) L with
    | some p => rw [rrW_bad hf hfa] at h; cases h
    | none =>
      rw [rrW_ok hf hfa] at h
      cases h
      obtain ⟨h1, h2, h3, h4⟩ := vals_back L t ks _ hfa
      have hk := forms_len hf
      refine ⟨by rw [rowOk_some hf, h2, decide_eq_true h1]; rfl, ?_, fun d hd => ?_, by rw [List.length_cons, h1]; omega⟩
      · unfold rowS
        rw [List.map_cons, h3, show wdS (.str w0) = w0 from rfl, ← hsp, join_sp]
      · rcases List.mem_cons.mp hd with e | e
        · rw [e]; exact .inl ⟨_, rfl, by have := (w0_len hf).1; omega⟩
        · exact h4 d e
theorem write_back {ws : List D} (h : rowOk ws = true) : rrW (sp (rowS ws)) (rowS ws).length = .inr ws ∧ (rowS ws).length ≤ 1000 := by
  match ws, h with
  | .str w0 :: vs, h =>
    cases hf : formsL.lookup w0 with
    | none => rw [rowOk_none hf] at h; cases h
    | some ks =>
      rw [rowOk_some hf, Bool.and_eq_true, decide_eq_true_eq] at h
      obtain ⟨h1, h2, h3⟩ := fault_back ((rowS (.str w0 :: vs)).length : Int) vs ks ((w0.length : Int) + 2) h.1 h.2
      have hw := w0_len hf
      have e : sp (rowS (.str w0 :: vs)) = w0 :: vs.map wdS := by
        unfold rowS
        rw [List.map_cons, show wdS (.str w0) = w0 from rfl]
        refine sp_join (by simp) fun w hw' => ?_
        rcases List.mem_cons.mp hw' with e | e
        · rw [e]; exact hw.2
        · exact (h3 w e).1
      refine ⟨by rw [e, rrW_ok hf h1, h2], ?_⟩
      have h4 := len_join SP (w0 :: vs.map wdS)
      have h5 := sum_le Str.length 8 (w0 :: vs.map wdS) fun w hw' => by
        rcases List.mem_cons.mp hw' with e | e
        · rw [e]; exact hw.1
        · exact (h3 w e).2
      have hk := forms_len hf
      rw [List.length_cons, List.length_map, h.1] at h4 h5
      have e1 : SP.length = 1 := rfl
      rw [e1] at h4
      unfold rowS
      rw [List.map_cons, show wdS (.str w0) = w0 from rfl]
      omega
end K97

set_option maxHeartbeats 4000000
namespace K97
set_option autoImplicit false
open PySem PySem.Spec PyProof.Rows L2 L2H Z
section
variable {P : Program} {w : World} {K : PySem.W.Frag} {mg : Str → Option Value} {base : Heap}
def s_is_name : Sp2 := fun ds Q _ => ∃ d t, ds = [d] ∧ tgD d = some t ∧ (∀ z, d = .str z → z.length ≤ sizeLine) ∧ Q (.val (.bl (nmD d)))
theorem sc_is_name : FnScope ["value", "sign"] ["value"] (defScope (topS 20)) := ⟨rfl, rfl, rfl, by decide +kernel, rfl, by decide +kernel, by decide +kernel⟩
theorem ok_is_name (F : DefAt K mg "is_name" (topS 20) ["value"]) (m_isinstance : mg "isinstance" = none) (m_str : mg "str" = none) (m_len : mg "len" = none) (m_LONGEST_NAME : ∃ t, mg "LONGEST_NAME" = some (.int 8 t)) (m_all : mg "all" = none) (m_LETTERS_AND_DIGITS : ∃ t, mg "LETTERS_AND_DIGITS" = some (.str "abcdefghijklmnopqrstuvwxyz0123456789" t)) (m_LETTERS : ∃ t, mg "LETTERS" = some (.str "abcdefghijklmnopqrstuvwxyz" t)) : Cal P w K mg base "is_name" 1 false s_is_name := by
  refine cal_of F sc_is_name (fun ds Q R h => ?_) fun f cdv A outer s H E tk pown hr => ⟨_, (pss2_cons (ps2_if (pt2_not (pt2_val (pe2_callB f_isi m_isinstance (pl2_cons (pb2_name 0) (pl2_cons (.of (pe2_ty .str m_str)) pl2_nil))))) (pss2_one (ps2_ret pe2_bl)) pss2_nil)
      (pss2_cons (ps2_if (pt2_not (pt2_chain o_le o_le (.of pe2_int) (.of (pe2_callB f_len m_len (pl2_cons (pb2_name 0) pl2_nil))) (.of (pe2_gint m_LONGEST_NAME)))) (pss2_one (ps2_ret pe2_bl)) pss2_nil)
      (pss2_one (ps2_ret (pe2_and (pe2_cmp (o_in hr.units) (.of (pe2_ix (pb2_name 0) (.of pe2_int))) (.of (pe2_gstr m_LETTERS))) (pe2_one (pe2_callB (f_all rfl) m_all (pl2_cons (.of (pe2_lc (own := [("sign", 1)]) rfl sc_is_name.nd (pi2_str (pb2_name 0)) (blkOk_by (own := [("sign", 1)]) (by kernel_rfl)) (fun _ _ _ _ _ => (pg2_name 1 sc_is_name.nd)) (fun _ _ _ _ _ => pts2_nil) (fun _ _ _ _ _ => (.of (pe2_cmp (o_in hr.units) (pb2_name 1) (.of (pe2_gstr m_LETTERS_AND_DIGITS))))))) pl2_nil)))))))), fun ds Q R h => ?_⟩
  · obtain ⟨d, t, rfl, _⟩ := h; rfl
  · obtain ⟨d, t, rfl, ht, hz, q⟩ := h
    show wSeq _ _ _ _ [.sh d, .un]
    cases d with
    | str z =>
      have hl := len_toList z
      have hz' := hz z rfl
      have hg := sgB_all z
      change Q (.val (.bl (nmL z.cps.toList))) at q
      walk_at "zs"
      refine ⟨hz', ?_⟩
      cases e : z.cps.toList with
      | nil =>
        rw [e] at hl q
        rw [if_neg (by rw [decide_eq_true_eq]; simp at hl; omega)]
        exact q
      | cons c l =>
        rw [e] at hl q hg
        simp only [List.length_cons] at hl
        rw [if_pos (by rw [decide_eq_true_eq]; omega)]
        by_cases h8 : l.length < 8
        · rw [if_neg (by simp; omega)]
          refine ⟨hz', ?_⟩
          rw [atI_zero]
          show if decide (c ∈ letS.cps.toList) = true then _ else _
          by_cases hc : c ∈ letS.cps.toList
          · rw [if_pos (decide_eq_true hc)]
            refine lc_map (fun ρ => ∃ s, ρ = [.sh (.str z), s]) (fun d => .bl (sgB d)) ⟨_, rfl⟩ (by rw [signs_len]; exact hz') (fun d hd ρ hρ k hk => ?_) fun ρ hρ => ?_
            · obtain ⟨s, rfl⟩ := hρ
              obtain ⟨c', _, rfl⟩ := signs_mem hd
              walk_at "zs"
              exact hk _ ⟨_, rfl⟩
            · show match boolsD ((signsD z).map fun d => .bl (sgB d)) with
                | some bs => Q (.val (.bl (bs.all id)))
                | none => False
              rw [bools_map sgB]
              show Q (.val (.bl (((signsD z).map sgB).all id)))
              rw [hg]
              have : nmL (c :: l) = (c :: l).all fun s => decide (s ∈ ldS.cps.toList) := by
                rw [nmL_cons]
                rw [decide_eq_true h8, decide_eq_true hc, Bool.true_and, Bool.true_and]
              rw [this] at q
              exact q
          · rw [if_neg (by rw [decide_eq_true_eq]; exact hc)]
            have : nmL (c :: l) = false := by
              rw [nmL_cons]
              rw [decide_eq_false hc, Bool.false_and, Bool.and_false]
            rw [this] at q
            exact q
        · rw [if_pos (by simp; omega)]
          have : nmL (c :: l) = false := by
            rw [nmL_cons]
            rw [decide_eq_false h8, Bool.false_and]
          rw [this] at q
          exact q
    | _ => first | exact q | cases ht
def s_word_value : Sp2 := fun ds Q _ => ∃ w k, ds = [.str w, .str (kdS k)] ∧ w.length ≤ sizeLine ∧ Q (.val ((valO k w).getD .non))
theorem sc_word_value : FnScope ["word", "kind"] ["word", "kind"] (defScope (topS 25)) := ⟨rfl, rfl, rfl, by decide +kernel, rfl, by decide +kernel, by decide +kernel⟩
theorem ok_word_value (F : DefAt K mg "word_value" (topS 25) ["word", "kind"]) (m_NAME : ∃ t, mg "NAME" = some (.str "name" t)) (c_is_name : Cal P w K mg base "is_name" 1 false s_is_name) (m_str : mg "str" = none) (t_GREATEST : TabK K w mg "GREATEST" tab_GREATEST) (m_len : mg "len" = none) (m_int : mg "int" = none) : Cal P w K mg base "word_value" 2 false s_word_value := by
  refine cal_of F sc_word_value (fun ds Q R h => ?_) fun f cdv A outer s H E tk pown hr => ⟨_, (pss2_cons (ps2_if (pt2_cmp (o_eq hr.units) (pb2_name 1) (.of (pe2_gstr m_NAME))) (pss2_one (ps2_ret (pe2_if (pt2_val (pe2_fn tk c_is_name (hr.mono (by decide)) (pa2_cons (pv2_name 0) pa2_nil))) (.of (pv2_name 0)) pe2_non))) pss2_nil)
      (pss2_cons (ps2_if ((pw2_and (pt2_cmp (o_eq hr.units) (.of (pe2_callB f_len m_len (pl2_cons (pb2_name 0) pl2_nil))) (.of pe2_int)) (pw2_and1 (pt2_chain o_le o_le (.of pe2_str) (pb2_name 0) (.of (pe2_callTy f_str m_str (pl2_cons (.of (pe2_tabIx t_GREATEST (pb2_name 1))) pl2_nil))))))).pt (pss2_one (ps2_ret (pe2_callTy f_intS m_int (pl2_cons (pb2_name 0) pl2_nil)))) pss2_nil)
      (pss2_one (ps2_ret pe2_non)))), fun ds Q R h => ?_⟩
  · obtain ⟨w, k, rfl, _⟩ := h; rfl
  · obtain ⟨w, k, rfl, hz, q⟩ := h
    show wSeq _ _ _ _ [.sh (.str w), .sh (.str (kdS k))]
    walk_at "zs"
    cases k with
    | n =>
      rw [if_pos (by decide)]
      rw [valO_n] at q
      refine ⟨_, .str, rfl, rfl, fun z e => by cases e; exact hz, ?_⟩
      show if nmL w.cps.toList = true then _ else _
      split
      · rename_i h; rw [if_pos h] at q; exact q
      · rename_i h; rw [if_neg h] at q; exact q
    | c =>
      rw [if_neg (by decide)]
      refine ⟨hz, ?_⟩
      have := word_dig (k := .c) (g := 4) (by decide) rfl (by decide) hz q
      split
      · rename_i h1; rw [if_pos h1] at this
        split
        · rename_i h2; rw [if_pos h2] at this; exact ⟨_, rfl, by decide, this⟩
        · rename_i h2; rw [if_neg h2] at this; exact this
      · rename_i h1; rw [if_neg h1] at this; exact this
    | m =>
      rw [if_neg (by decide)]
      refine ⟨hz, ?_⟩
      have := word_dig (k := .m) (g := 3) (by decide) rfl (by decide) hz q
      split
      · rename_i h1; rw [if_pos h1] at this
        split
        · rename_i h2; rw [if_pos h2] at this; exact ⟨_, rfl, by decide, this⟩
        · rename_i h2; rw [if_neg h2] at this; exact this
      · rename_i h1; rw [if_neg h1] at this; exact this
end
end K97

set_option maxHeartbeats 4000000
namespace K97
set_option autoImplicit false
open PySem PySem.Spec PyProof.Rows L2 L2H Z
section
variable {P : Program} {w : World} {K : PySem.W.Frag} {mg : Str → Option Value} {base : Heap}
def s_read_row : Sp2 := fun ds Q R => ∃ z, ds = [.str z] ∧ z.length ≤ 100000 ∧ (match rrW (sp z) z.length with
  | .inl p => R (badE p)
  | .inr vs => Q (.val (.tup vs)))
theorem cutL_tail {x : D} {xs : List D} (h : (x :: xs).length < 2 ^ 62) : cutL (x :: xs) (some 1) none = xs := by
  have e1 : HT.sIx (x :: xs).length 0 (some 1) = 1 := by
    rw [show (1 : Int) = ((1 : Nat) : Int) from rfl, HT.sIx_nat, List.length_cons]
    omega
  unfold cutL
  rw [e1, HT.sIx_none, List.drop_one, List.tail_cons, List.length_cons, Nat.add_sub_cancel, List.take_length]
theorem sc_read_row : FnScope ["text", "words", "kinds", "found", "place", "word", "kind", "value"] ["text"] (defScope (topS 26)) := ⟨rfl, rfl, rfl, by decide +kernel, rfl, by decide +kernel, by decide +kernel⟩
theorem ok_read_row (F : DefAt K mg "read_row" (topS 26) ["text"]) (t_FORMS : TabK K w mg "FORMS" tab_FORMS) (x_BadText : Err P w K mg base "BadText" lE_BadText fE_BadText nE_BadText) (m_len : mg "len" = none) (m_zip : mg "zip" = none) (c_word_value : Cal P w K mg base "word_value" 2 false s_word_value) (m_tuple : mg "tuple" = none) : Cal P w K mg base "read_row" 3 false s_read_row := by
  refine cal_of F sc_read_row (fun ds Q R h => ?_) fun f cdv A outer s H E tk pown hr => ⟨_, (pss2_cons (ps2_set 1 sc_read_row.nd (pe2_split (pb2_name 0) (.of pe2_str)))
      (pss2_cons (ps2_if (pt2_tabNotIn t_FORMS (.of (pe2_ix (pb2_name 1) (.of pe2_int)))) (pss2_one (ps2_raise rfl tk x_BadText (hr.mono (by decide)) (pa2_cons (.of pe2_int) (pa2_cons (.of pe2_int) pa2_nil)))) pss2_nil)
      (pss2_cons (ps2_set 2 sc_read_row.nd (pe2_tabIx t_FORMS (.of (pe2_ix (pb2_name 1) (.of pe2_int)))))
      (pss2_cons (ps2_set 3 sc_read_row.nd (pe2_lst (pa2_cons (.of (pe2_ix (pb2_name 1) (.of pe2_int))) pa2_nil)))
      (pss2_cons (ps2_set 4 sc_read_row.nd (pe2_op o_add (.of (pe2_callB f_len m_len (pl2_cons (.of (pe2_ix (pb2_name 1) (.of pe2_int))) pl2_nil))) (.of pe2_int)))
      (pss2_cons (ps2_for pown rfl (pi2_zipM m_zip (pa2_cons (.of (pe2_slice (pb2_name 1) (po2_some (.of pe2_int)) po2_none)) (pa2_cons (pv2_name 2) pa2_nil))) (pg2_tup (n := 2) rfl (pgs2_cons (pg2_name 5 sc_read_row.nd) (pgs2_cons (pg2_name 6 sc_read_row.nd) pgs2_nil))) (pss2_cons (ps2_set 7 sc_read_row.nd (pe2_fn tk c_word_value (hr.mono (by decide)) (pa2_cons (pv2_name 5) (pa2_cons (pv2_name 6) pa2_nil))))
      (pss2_cons (ps2_if (pt2_cmp o_is (pb2_name 7) (.of pe2_non)) (pss2_one (ps2_raise rfl tk x_BadText (hr.mono (by decide)) (pa2_cons (.of pe2_int) (pa2_cons (pv2_name 4) pa2_nil)))) pss2_nil)
      (pss2_cons (ps2_expr (pe2_mut1 3 PySem.F.slot_list_append PySem.F.type_list_append mt_append mut1_append (pv2_name 7)))
      (pss2_one (ps2_aug 4 sc_read_row.nd ip_add (.of (pe2_op o_add (.of (pe2_callB f_len m_len (pl2_cons (pb2_name 5) pl2_nil))) (.of pe2_int)))))))))
      (pss2_cons (ps2_if (pt2_cmp o_lt (.of (pe2_op o_sub (.of (pe2_callB f_len m_len (pl2_cons (pb2_name 1) pl2_nil))) (.of pe2_int))) (.of (pe2_callB f_len m_len (pl2_cons (pb2_name 2) pl2_nil)))) (pss2_one (ps2_raise rfl tk x_BadText (hr.mono (by decide)) (pa2_cons (.of pe2_int) (pa2_cons (.of (pe2_op o_add (.of (pe2_callB f_len m_len (pl2_cons (pb2_name 0) pl2_nil))) (.of pe2_int))) pa2_nil)))) pss2_nil)
      (pss2_cons (ps2_if (pt2_cmp o_gt (.of (pe2_op o_sub (.of (pe2_callB f_len m_len (pl2_cons (pb2_name 1) pl2_nil))) (.of pe2_int))) (.of (pe2_callB f_len m_len (pl2_cons (pb2_name 2) pl2_nil)))) (pss2_one (ps2_raise rfl tk x_BadText (hr.mono (by decide)) (pa2_cons (.of pe2_int) (pa2_cons (pv2_name 4) pa2_nil)))) pss2_nil)
      (pss2_one (ps2_ret (pe2_callTy f_tuple m_tuple (pl2_cons (pb2_name 3) pl2_nil)))))))))))), fun ds Q R h => ?_⟩
  · obtain ⟨z, rfl, _⟩ := h; rfl
  · obtain ⟨z, rfl, hz, q⟩ := h
    show wSeq _ _ _ _ [.sh (.str z), .un, .un, .un, .un, .un, .un, .un]
    obtain ⟨w0, t, hsp⟩ := sp_ne z
    have hlen : ∀ w ∈ w0 :: t, w.length ≤ z.length := fun w hw => sp_len (by rw [hsp]; exact hw)
    have hcnt : (w0 :: t).length ≤ z.length + 1 := by rw [← hsp]; exact sp_cnt z
    have hw0 := hlen w0 List.mem_cons_self
    rw [List.length_cons] at hcnt
    have hsz : sizeLine = 16777216 := sizeLine_eq
    rw [hsp] at q
    refine ⟨z, rfl, by decide, by omega, ?_⟩
    rw [show Txt.split z (Str.ofString " ") = w0 :: t from hsp]
    walk_at "zs"
    rw [look_forms]
    cases hf : formsL.lookup w0 with
    | none =>
      rw [rrW_none hf] at q
      exact ⟨trivial, ⟨(by decide : (1 : Int).natAbs.log2 < 1920), (by decide : (1 : Int).natAbs.log2 < 1920), trivial⟩, rfl, q⟩
    | some ks =>
      have q' : match faultR t ks ((w0.length : Int) + 2) z.length with
        | some p => R (badE p)
        | none => Q (.val (.tup (.str w0 :: valsR t ks))) := by
        rw [rrW_some hf] at q
        cases hfa : faultR t ks ((w0.length : Int) + 2) z.length with
        | none => rw [hfa] at q; exact q
        | some p => rw [hfa] at q; exact q
      obtain ⟨kl, kl0⟩ := forms_len hf
      refine ⟨_, rfl, by omega, by omega, ?_⟩
      rw [cutL_tail (by rw [List.length_cons, List.length_map]; omega)]
      show wForL _ _ (zipD (t.map D.str) (ks.map fun k => .str (kdS k))) _ _ _
      refine wFor_of (fun i ρ => ∃ (p : Int) (fnd : List D) (s5 s6 s7 : Sl), ρ = [.sh (.str z), .ow (.lst (.str w0 :: t.map D.str)), .sh (ktD ks), .ow (.lst fnd), .sh (.int p), s5, s6, s7] ∧ 0 ≤ p ∧ p ≤ 200000 + i * 200000 ∧ fnd.length = i + 1 ∧
        faultR t ks ((w0.length : Int) + 2) z.length = faultR (t.drop i) (ks.drop i) p z.length ∧ (.str w0 :: valsR t ks) = fnd ++ valsR (t.drop i) (ks.drop i)) ⟨_, _, _, _, _, rfl, by omega, by omega, rfl, rfl, rfl⟩ (fun i d hd nx hnx ρ hρ => ?_) (fun ρ hρ => ?_)
      · obtain ⟨p, fnd, s5, s6, s7, rfl, hp0, hp1, hfl, e1, e2⟩ := hρ
        obtain ⟨dw, dk, hx, hy, rfl⟩ := zipD_get hd
        rw [List.getElem?_map] at hx hy
        cases ht : t[i]? with
        | none => rw [ht] at hx; cases hx
        | some wd =>
          cases hk : ks[i]? with
          | none => rw [hk] at hy; cases hy
          | some k =>
            rw [ht] at hx
            rw [hk] at hy
            cases hx
            cases hy
            have hti : i < t.length := (List.getElem?_eq_some_iff.mp ht).1
            have hki : i < ks.length := (List.getElem?_eq_some_iff.mp hk).1
            have dt : t.drop i = wd :: t.drop (i + 1) := by rw [List.drop_eq_getElem_cons hti, (List.getElem?_eq_some_iff.mp ht).2]
            have dk : ks.drop i = k :: ks.drop (i + 1) := by rw [List.drop_eq_getElem_cons hki, (List.getElem?_eq_some_iff.mp hk).2]
            rw [dt, dk] at e1 e2
            have hwd := hlen wd (List.mem_cons_of_mem _ (List.mem_of_getElem? ht))
            refine ⟨rfl, rfl, wd, k, rfl, by omega, ?_⟩
            walk_at "zs"
            cases hv : valO k wd with
            | none =>
              rw [e1, faultR_bad hv] at q'
              exact ⟨trivial, trivial, ⟨(by decide : (1 : Int).natAbs.log2 < 1920), small_log hp0 (by omega), trivial⟩, rfl, q'⟩
            | some v =>
              rw [faultR_ok hv] at e1
              rw [valsR_cons hv] at e2
              have hn : nx [.sh (.str z), .ow (.lst (.str w0 :: t.map D.str)), .sh (ktD ks), .ow (.lst (fnd ++ [v])), .sh (.int (p + ((wd.length : Int) + 1))), .sh (.str wd), .sh (.str (kdS k)), .sh v] :=
                hnx _ ⟨_, _, _, _, _, rfl, by omega, by omega, by rw [List.length_append, hfl]; rfl, by rw [← Int.add_assoc]; exact e1, by rw [e2, List.append_assoc]; rfl⟩
              rcases valO_cases hv with ⟨_, rfl, _⟩ | ⟨_, d, rfl, _, _⟩
              · refine ⟨trivial, ?_⟩
                rw [if_neg (by simp)]
                exact ⟨by omega, by omega, hn⟩
              · refine ⟨trivial, ?_⟩
                rw [if_neg (by simp)]
                exact ⟨by omega, by omega, hn⟩
      · obtain ⟨p, fnd, s5, s6, s7, rfl, hp0, hp1, hfl, e1, e2⟩ := hρ
        rw [zipD_len, List.length_map, List.length_map] at *
        rw [e1, faultR_end] at q'
        rw [valsR_end, List.append_nil] at e2
        rw [e2] at q'
        unfold ktD
        walk_at "zs"
        by_cases h1 : t.length < ks.length
        · rw [if_pos (by simp only [List.length_map, decide_eq_true_eq]; omega)]
          rw [if_pos h1] at q'
          exact ⟨by omega, trivial, ⟨(by decide : (1 : Int).natAbs.log2 < 1920), small_log (by omega) (by omega), trivial⟩, rfl, q'⟩
        · rw [if_neg (by simp only [List.length_map, decide_eq_true_eq]; omega)]
          rw [if_neg h1] at q'
          by_cases h2 : ks.length < t.length
          · rw [if_pos (by simp only [List.length_map, decide_eq_true_eq]; omega)]
            rw [if_pos h2] at q'
            exact ⟨trivial, ⟨(by decide : (1 : Int).natAbs.log2 < 1920), small_log (by omega) (by omega), trivial⟩, rfl, q'⟩
          · rw [if_neg (by simp only [List.length_map, decide_eq_true_eq]; omega)]
            rw [if_neg h2] at q'
            exact q'
end
end K97

set_option maxHeartbeats 4000000
namespace K97
set_option autoImplicit false
open PySem PySem.Spec PyProof.Rows L2 L2H Z
section
variable {P : Program} {w : World} {K : PySem.W.Frag} {mg : Str → Option Value} {base : Heap}
def s_has_kind : Sp2 := fun ds Q _ => ∃ d k, ds = [d, .str (kdS k)] ∧ okW d ∧ Q (.val (.bl (hkD d k)))
theorem sc_has_kind : FnScope ["value", "kind"] ["value", "kind"] (defScope (topS 27)) := ⟨rfl, rfl, rfl, by decide +kernel, rfl, by decide +kernel, by decide +kernel⟩
theorem ok_has_kind (F : DefAt K mg "has_kind" (topS 27) ["value", "kind"]) (m_NAME : ∃ t, mg "NAME" = some (.str "name" t)) (c_is_name : Cal P w K mg base "is_name" 1 false s_is_name) (m_isinstance : mg "isinstance" = none) (m_int : mg "int" = none) (m_bool : mg "bool" = none) (t_GREATEST : TabK K w mg "GREATEST" tab_GREATEST) : Cal P w K mg base "has_kind" 2 false s_has_kind := by
  refine cal_of F sc_has_kind (fun ds Q R h => ?_) fun f cdv A outer s H E tk pown hr => ⟨_, (pss2_cons (ps2_if (pt2_cmp (o_eq hr.units) (pb2_name 1) (.of (pe2_gstr m_NAME))) (pss2_one (ps2_ret (pe2_fn tk c_is_name (hr.mono (by decide)) (pa2_cons (pv2_name 0) pa2_nil)))) pss2_nil)
      (pss2_cons (ps2_if ((pw2_or (pt2_val (pe2_callB f_isi m_isinstance (pl2_cons (pb2_name 0) (pl2_cons (.of (pe2_ty .bl m_bool)) pl2_nil)))) (pw2_or1 (pt2_not (pt2_val (pe2_callB f_isi m_isinstance (pl2_cons (pb2_name 0) (pl2_cons (.of (pe2_ty .int m_int)) pl2_nil)))))))).pt (pss2_one (ps2_ret pe2_bl)) pss2_nil)
      (pss2_one (ps2_ret (pe2_chain o_le o_le (.of pe2_int) (pb2_name 0) (.of (pe2_tabIx t_GREATEST (pb2_name 1)))))))), fun ds Q R h => ?_⟩
  · obtain ⟨d, k, rfl, _⟩ := h; rfl
  · obtain ⟨d, k, rfl, hd, q⟩ := h
    show wSeq _ _ _ _ [.sh d, .sh (.str (kdS k))]
    rcases hd with ⟨z, rfl, hz⟩ | ⟨i, rfl, hi⟩
    · walk_at "zs"
      cases k with
      | n =>
        rw [if_pos (by decide)]
        exact ⟨_, .str, rfl, rfl, fun z e => by cases e; have := sizeLine_eq; omega, q⟩
      | c => rw [if_neg (by decide)]; exact q
      | m => rw [if_neg (by decide)]; exact q
    · clear F tk pown hr
      cases k with
      | n =>
        walk_at "zs"
        rw [if_pos (by decide)]
        exact ⟨_, .int, rfl, rfl, fun z e => (by cases e), q⟩
      | c =>
        walk_at "zs"
        have q : Q (.val (.bl (decide (0 ≤ i) && decide (i ≤ ((4 : Nat) : Int))))) := q
        rw [if_neg (by decide)]
        by_cases h0 : 0 ≤ i
        · rw [if_pos (decide_eq_true h0)]
          rw [decide_eq_true h0, Bool.true_and] at q
          exact ⟨.int 4, by rfl, q⟩
        · rw [if_neg (by rw [decide_eq_true_eq]; exact h0)]
          rw [decide_eq_false h0, Bool.false_and] at q
          exact q
      | m =>
        walk_at "zs"
        have q : Q (.val (.bl (decide (0 ≤ i) && decide (i ≤ ((3 : Nat) : Int))))) := q
        rw [if_neg (by decide)]
        by_cases h0 : 0 ≤ i
        · rw [if_pos (decide_eq_true h0)]
          rw [decide_eq_true h0, Bool.true_and] at q
          exact ⟨.int 3, by rfl, q⟩
        · rw [if_neg (by rw [decide_eq_true_eq]; exact h0)]
          rw [decide_eq_false h0, Bool.false_and] at q
          exact q
def s_is_row_words : Sp2 := fun ds Q _ => ∃ ws, ds = [.tup ws] ∧ (∀ d ∈ ws, okW d) ∧ ws.length ≤ 100 ∧ Q (.val (.bl (rowOk ws)))
theorem sc_is_row_words : FnScope ["words", "kinds", "value", "kind"] ["words"] (defScope (topS 28)) := ⟨rfl, rfl, rfl, by decide +kernel, rfl, by decide +kernel, by decide +kernel⟩
theorem ok_is_row_words (F : DefAt K mg "is_row_words" (topS 28) ["words"]) (m_len : mg "len" = none) (m_isinstance : mg "isinstance" = none) (m_tuple : mg "tuple" = none) (t_FORMS : TabK K w mg "FORMS" tab_FORMS) (m_str : mg "str" = none) (m_all : mg "all" = none) (m_zip : mg "zip" = none) (c_has_kind : Cal P w K mg base "has_kind" 2 false s_has_kind) : Cal P w K mg base "is_row_words" 3 false s_is_row_words := by
  refine cal_of F sc_is_row_words (fun ds Q R h => ?_) fun f cdv A outer s H E tk pown hr => ⟨_, (pss2_cons (ps2_if ((pw2_or (pt2_not (pt2_val (pe2_callB f_isi m_isinstance (pl2_cons (pb2_name 0) (pl2_cons (.of (pe2_ty .tup m_tuple)) pl2_nil))))) (pw2_or1 (pt2_cmp (o_eq hr.units) (.of (pe2_callB f_len m_len (pl2_cons (pb2_name 0) pl2_nil))) (.of pe2_int))))).pt (pss2_one (ps2_ret pe2_bl)) pss2_nil)
      (pss2_cons (ps2_if ((pw2_or (pt2_not (pt2_val (pe2_callB f_isi m_isinstance (pl2_cons (.of (pe2_ix (pb2_name 0) (.of pe2_int))) (pl2_cons (.of (pe2_ty .str m_str)) pl2_nil))))) (pw2_or1 (pt2_tabNotIn t_FORMS (.of (pe2_ix (pb2_name 0) (.of pe2_int))))))).pt (pss2_one (ps2_ret pe2_bl)) pss2_nil)
      (pss2_cons (ps2_set 1 sc_is_row_words.nd (pe2_tabIx t_FORMS (.of (pe2_ix (pb2_name 0) (.of pe2_int)))))
      (pss2_cons (ps2_if (pt2_cmp (o_ne hr.units) (.of (pe2_callB f_len m_len (pl2_cons (pb2_name 0) pl2_nil))) (.of (pe2_op o_add (.of (pe2_callB f_len m_len (pl2_cons (pb2_name 1) pl2_nil))) (.of pe2_int)))) (pss2_one (ps2_ret pe2_bl)) pss2_nil)
      (pss2_one (ps2_ret (pe2_callB (f_all rfl) m_all (pl2_cons (.of (pe2_lc (own := [("value", 2), ("kind", 3)]) rfl sc_is_row_words.nd (pi2_zipT m_zip (pa2_cons (.of (pe2_slice (pb2_name 0) (po2_some (.of pe2_int)) po2_none)) (pa2_cons (pv2_name 1) pa2_nil))) (blkOk_by (own := [("value", 2), ("kind", 3)]) (by kernel_rfl)) (fun _ _ _ _ _ => (pg2_tup (n := 2) rfl (pgs2_cons (pg2_name 2 sc_is_row_words.nd) (pgs2_cons (pg2_name 3 sc_is_row_words.nd) pgs2_nil)))) (fun _ _ _ _ _ => pts2_nil) (fun _ _ _ _ _ => (.of (pe2_fn takesN0 c_has_kind (hr.mono (by decide)) (pa2_cons (pv2_name 2) (pa2_cons (pv2_name 3) pa2_nil))))))) pl2_nil)))))))), fun ds Q R h => ?_⟩
  · obtain ⟨ws, rfl, _⟩ := h; rfl
  · obtain ⟨ws, rfl, hw, hl, q⟩ := h
    show wSeq _ _ _ _ [.sh (.tup ws), .un, .un, .un]
    cases ws with
    | nil => walk_at "zs"; exact q
    | cons d0 vs =>
      clear F tk pown hr
      rw [List.length_cons] at hl
      rcases hw d0 List.mem_cons_self with ⟨w0, rfl, hz⟩ | ⟨i, rfl, hi⟩
      · walk_at "zs"
        rw [if_neg (by simp only [decide_eq_true_eq]; omega)]
        rw [look_forms]
        cases hf : formsL.lookup w0 with
        | none => 
          rw [if_pos (by rfl)]
          have : rowOk (.str w0 :: vs) = false := by
            show (match formsL.lookup w0 with
              | none => false
              | some ks => decide (vs.length = ks.length) && (vs.zip ks).all fun q => hkD q.1 q.2) = false
            rw [hf]
          rw [this] at q
          exact q
        | some ks =>
          have hro : rowOk (.str w0 :: vs) = (decide (vs.length = ks.length) && (vs.zip ks).all fun q => hkD q.1 q.2) := by
            show (match formsL.lookup w0 with
              | none => false
              | some ks => decide (vs.length = ks.length) && (vs.zip ks).all fun q => hkD q.1 q.2) = _
            rw [hf]
          rw [hro] at q
          rw [if_neg (by simp)]
          refine ⟨ktD ks, rfl, ?_⟩
          unfold ktD
          walk_at "zs"
          simp only [List.length_map]
          by_cases hle : vs.length = ks.length
          · rw [if_neg (by rw [hle]; simp)]
            rw [decide_eq_true hle, Bool.true_and] at q
            refine ⟨sIx_one, ?_⟩
            rw [cutL_tail (by rw [List.length_cons]; omega)]
            have ez : zipD vs (ks.map fun k => .str (kdS k)) = (vs.zip ks).map fun q => .tup [q.1, .str (kdS q.2)] := by
              unfold zipD
              rw [List.zip_map_right, List.map_map]
              rfl
            rw [ez]
            refine lc_mapA (fun ρ => ∃ s2 s3, ρ = [.sh (.tup (.str w0 :: vs)), .sh (.kt (ks.map fun k => .str (kdS k))), s2, s3]) _ (fun q => .bl (hkD q.1 q.2)) _ _ _ ⟨_, _, rfl⟩ (by rw [List.length_zip, List.length_nil]; have := sizeLine_eq; omega) (fun a ha ρ hρ k hk => ?_) fun ρ hρ => ?_
            · obtain ⟨s2, s3, rfl⟩ := hρ
              obtain ⟨x, kk⟩ := a
              walk_at "zs"
              exact ⟨trivial, trivial, x, kk, rfl, hw _ (List.mem_cons_of_mem _ (List.of_mem_zip ha).1), hk _ ⟨_, _, rfl⟩⟩
            · rw [List.nil_append]
              show match boolsD ((vs.zip ks).map fun q => .bl (hkD q.1 q.2)) with
                | some bs => Q (.val (.bl (bs.all id)))
                | none => False
              rw [bools_map]
              show Q (.val (.bl (((vs.zip ks).map fun q => hkD q.1 q.2).all id)))
              rw [List.all_map]
              exact q
          · rw [if_pos (by simp; omega)]
            rw [decide_eq_false hle, Bool.false_and] at q
            exact q
      · walk_at "zs"
        rw [ite_self]
        exact q
def s_write_row : Sp2 := fun ds Q R => ∃ ws, ds = [.tup ws] ∧ (∀ d ∈ ws, okW d) ∧ ws.length ≤ 100 ∧ if rowOk ws = true then Q (.val (.str (rowS ws))) else R unlE
theorem sc_write_row : FnScope ["words", "word"] ["words"] (defScope (topS 29)) := ⟨rfl, rfl, rfl, by decide +kernel, rfl, by decide +kernel, by decide +kernel⟩
theorem ok_write_row (F : DefAt K mg "write_row" (topS 29) ["words"]) (c_is_row_words : Cal P w K mg base "is_row_words" 3 false s_is_row_words) (x_Unlike : Err P w K mg base "Unlike" lE_Unlike fE_Unlike nE_Unlike) (m_str : mg "str" = none) : Cal P w K mg base "write_row" 4 false s_write_row := by
  refine cal_of F sc_write_row (fun ds Q R h => ?_) fun f cdv A outer s H E tk pown hr => ⟨_, (pss2_cons (ps2_if (pt2_not (pt2_val (pe2_fn tk c_is_row_words (hr.mono (by decide)) (pa2_cons (pv2_name 0) pa2_nil)))) (pss2_one (ps2_raise rfl tk x_Unlike (hr.mono (by decide)) (pa2_cons (.of pe2_str) pa2_nil))) pss2_nil)
      (pss2_one (ps2_ret (pe2_join (.of pe2_str) (.of (pe2_lc (own := [("word", 1)]) rfl sc_write_row.nd (pi2_tup (pv2_name 0)) (blkOk_by (own := [("word", 1)]) (by kernel_rfl)) (fun _ _ _ _ _ => (pg2_name 1 sc_write_row.nd)) (fun _ _ _ _ _ => pts2_nil) (fun _ _ _ _ _ => (.of (pe2_callTy f_str m_str (pl2_cons (pb2_name 1) pl2_nil)))))))))), fun ds Q R h => ?_⟩
  · obtain ⟨ws, rfl, _⟩ := h; rfl
  · obtain ⟨ws, rfl, hw, hl, q⟩ := h
    show wSeq _ _ _ _ [.sh (.tup ws), .un]
    refine ⟨ws, rfl, hw, hl, ?_⟩
    cases hr : rowOk ws with
    | false =>
      rw [hr] at q
      walk_at "zs"
      exact ⟨trivial, ⟨(by decide : (3 : Nat) ≤ 1048576), trivial⟩, rfl, q⟩
    | true =>
      rw [hr] at q
      walk_at "zs"
      clear F tk pown
      refine ⟨_, rfl, ?_⟩
      refine lc_map (fun ρ => ∃ s, ρ = [.sh (.tup ws), s]) (fun d => .str (wdS d)) ⟨_, rfl⟩ (by have := sizeLine_eq; omega) (fun d hd ρ hρ k hk => ?_) fun ρ hρ => ?_
      · obtain ⟨s, rfl⟩ := hρ
        rcases hw d hd with ⟨z, rfl, hz⟩ | ⟨i, rfl, hi⟩
        · walk_at "zs"
          exact hk _ ⟨_, rfl⟩
        · walk_at "zs"
          refine ⟨?_, ?_⟩
          · exact log70 hi
          · exact hk _ ⟨_, rfl⟩
      · rw [Z.strs_map]
        refine ⟨?_, ?_⟩
        · rw [List.map_map, List.length_map, show (Str.ofString " ").length = 1 from rfl]
          have := sum_le (fun d => (wdS d).length) 20000 ws fun d hd => wdS_len (hw d hd)
          have e : ((fun x => x.length) ∘ wdS : D → Nat) = fun d => (wdS d).length := rfl
          rw [e]
          omega
        · rw [TL.join_eq]
          exact q
end
end K97

set_option maxHeartbeats 4000000
namespace K97
set_option autoImplicit false
open PySem PySem.Spec PyProof.Rows L2 L2H Z
section
variable {P : Program} {w : World} {K : PySem.W.Frag} {mg : Str → Option Value} {base : Heap}
theorem mod_rng (x m : Int) (h : 0 < m) : 0 ≤ x % m ∧ x % m < m := ⟨Int.emod_nonneg _ (by omega), Int.emod_lt_of_pos _ h⟩
theorem rng_int {lo : Int} {n i : Nat} {d : D} (h : (rngD lo n)[i]? = some d) : ∃ k, d = .int k := by
  unfold rngD at h
  rw [List.getElem?_map] at h
  cases e : (List.range n)[i]? with
  | none => rw [e] at h; cases h
  | some j => rw [e] at h; cases h; exact ⟨_, rfl⟩
def s__law_mixed : Sp2 := fun ds Q _ => ∃ s t m : Int, ds = [.int s, .int t, .int m] ∧ ∀ r, 0 ≤ r → r < max 1 m → Q (.val (.int r))
theorem sc__law_mixed : FnScope ["_law_state", "_law_turn", "_law_many", "_law_number", "_law_k", "_law_first", "_law_second", "_law_third"] ["_law_state", "_law_turn", "_law_many"] (defScope (topS 31)) := ⟨rfl, rfl, rfl, by decide +kernel, rfl, by decide +kernel, by decide +kernel⟩
theorem ok__law_mixed (F : DefAt K mg "_law_mixed" (topS 31) ["_law_state", "_law_turn", "_law_many"]) (m_range : mg "range" = none) (m_int : mg "int" = none) (m_max : mg "max" = none) : Cal P w K mg base "_law_mixed" 1 false s__law_mixed := by
  refine cal_of F sc__law_mixed (fun ds Q R h => ?_) fun f cdv A outer s H E tk pown hr => ⟨_, (pss2_cons (ps2_set 3 sc__law_mixed.nd pe2_int)
      (pss2_cons (ps2_for pown rfl (pi2_range1 m_range (.of (pe2_op o_add (.of pe2_int) (.of (pe2_op o_mul (.of pe2_int) (.of (pe2_callTy f_intS m_int (pl2_cons (.of (pe2_cmp o_gt (pb2_name 2) (.of (pe2_op o_pow (.of pe2_int) (.of pe2_int))))) pl2_nil)))))))) (pg2_name 4 sc__law_mixed.nd) (pss2_cons (ps2_set 5 sc__law_mixed.nd (pe2_op o_mod (.of (pe2_callTy f_intS m_int (pl2_cons (.of (pe2_op o_add (.of (pe2_op o_add (.of (pe2_op o_add (.of (pe2_op o_mul (pb2_name 0) (.of pe2_int))) (.of (pe2_op o_mul (pb2_name 1) (.of pe2_int))))) (.of (pe2_op o_mul (pb2_name 4) (.of pe2_int))))) (.of pe2_int))) pl2_nil))) (.of pe2_int)))
      (pss2_cons (ps2_set 6 sc__law_mixed.nd (pe2_op o_mod (.of (pe2_callTy f_intS m_int (pl2_cons (.of (pe2_op o_add (.of (pe2_op o_add (.of (pe2_op o_mul (pb2_name 5) (pb2_name 5))) (.of (pe2_op o_mul (pb2_name 1) (.of pe2_int))))) (.of pe2_int))) pl2_nil))) (.of pe2_int)))
      (pss2_cons (ps2_set 7 sc__law_mixed.nd (pe2_op o_mod (.of (pe2_callTy f_intS m_int (pl2_cons (.of (pe2_op o_add (.of (pe2_op o_mul (pb2_name 6) (.of (pe2_op o_add (pb2_name 6) (.of pe2_int))))) (pb2_name 5))) pl2_nil))) (.of pe2_int)))
      (pss2_one (ps2_set 3 sc__law_mixed.nd (pe2_op o_add (.of (pe2_op o_mul (pb2_name 3) (.of pe2_int))) (pb2_name 7))))))))
      (pss2_one (ps2_ret (pe2_op o_mod (.of (pe2_callTy f_intS m_int (pl2_cons (pb2_name 3) pl2_nil))) (.of (pe2_callB (f_max2 rfl) m_max (pl2_cons (.of pe2_int) (pl2_cons (pb2_name 2) pl2_nil))))))))), fun ds Q R h => ?_⟩
  · obtain ⟨a, b, c, rfl, _⟩ := h; rfl
  · obtain ⟨s0, t0, m0, rfl, q⟩ := h
    refine ⟨⟨by decide, by decide, by decide⟩, .inl (.inl ⟨by decide, by decide⟩), ?_⟩
    refine ⟨by split <;> decide, ?_⟩
    refine wFor_of (fun _ ρ => ∃ (a : Int) (x y z u : Sl), ρ = [.sh (.int s0), .sh (.int t0), .sh (.int m0), .sh (.int a), x, y, z, u]) ⟨0, _, _, _, _, rfl⟩ (fun i d hd nx hnx ρ hρ => ?_) (fun ρ hρ => ?_)
    · obtain ⟨a, x, y, z, u, rfl⟩ := hρ
      obtain ⟨k, rfl⟩ := rng_int hd
      refine ⟨.inl (.inr ⟨by decide, by decide⟩), .inl (.inr ⟨by decide, by decide⟩), .inl (.inr ⟨by decide, by decide⟩), by decide, ?_⟩
      have b1 := mod_rng (s0 * 48271 + t0 * 69621 + k * 7919 + 11) 2147483647 (by decide)
      generalize (s0 * 48271 + t0 * 69621 + k * 7919 + 11) % 2147483647 = f1 at b1 ⊢
      refine ⟨.inl (.inl ⟨by omega, by omega⟩), .inl (.inr ⟨by decide, by decide⟩), by decide, ?_⟩
      have b2 := mod_rng (f1 * f1 + t0 * 40014 + 7) 2147483399 (by decide)
      generalize (f1 * f1 + t0 * 40014 + 7) % 2147483399 = f2 at b2 ⊢
      refine ⟨.inl (.inl ⟨by omega, by omega⟩), by decide, .inl (.inr ⟨by decide, by decide⟩), hnx _ ⟨_, _, _, _, _, rfl⟩⟩
    · obtain ⟨a, x, y, z, u, rfl⟩ := hρ
      refine ⟨by omega, q _ (Int.emod_nonneg _ (by omega)) (Int.emod_lt_of_pos _ (by omega))⟩
theorem atI_map {α : Type} (f : α → D) (l : List α) (d : D) (h : d ∈ l.map f) : ∃ a ∈ l, d = f a := by
  obtain ⟨a, ha, rfl⟩ := List.mem_map.mp h
  exact ⟨a, ha, rfl⟩
def s__law_store : Sp2 := fun ds Q _ => ∃ ns : List Int, ds = [.scr ns] ∧ ns.length ≤ 63 ∧ ∀ s, 0 ≤ s → s < 2147483648 → Q (.own (.lst [.lst (ns.map D.int), .int 0, .int s, .int 0, .int 0, .int 0]))
theorem sc__law_store : FnScope ["_law_script", "_law_state", "_law_cell"] ["_law_script"] (defScope (topS 32)) := ⟨rfl, rfl, rfl, by decide +kernel, rfl, by decide +kernel, by decide +kernel⟩
theorem ok__law_store (F : DefAt K mg "_law_store" (topS 32) ["_law_script"]) (c__law_mixed : Cal P w K mg base "_law_mixed" 1 false s__law_mixed) (m_int : mg "int" = none) : Cal P w K mg base "_law_store" 2 false s__law_store := by
  refine cal_of F sc__law_store (fun ds Q R h => ?_) fun f cdv A outer s H E tk pown hr => ⟨_, (pss2_cons (ps2_set 1 sc__law_store.nd pe2_int)
      (pss2_cons (ps2_for pown rfl (pi2_scr (pv2_name 0)) (pg2_name 2 sc__law_store.nd) (pss2_one (ps2_set 1 sc__law_store.nd (pe2_fn tk c__law_mixed (hr.mono (by decide)) (pa2_cons (.of (pe2_op o_add (pb2_name 1) (.of (pe2_op o_mod (.of (pe2_callTy f_intS m_int (pl2_cons (pb2_name 2) pl2_nil))) (.of pe2_int))))) (pa2_cons (.of pe2_int) (pa2_cons (.of pe2_int) pa2_nil)))))))
      (pss2_one (ps2_ret (pe2_lst (pa2_cons (.of (pe2_lc (own := [("_law_cell", 2)]) rfl sc__law_store.nd (pi2_scr (pv2_name 0)) (blkOk_by (own := [("_law_cell", 2)]) (by kernel_rfl)) (fun _ _ _ _ _ => (pg2_name 2 sc__law_store.nd)) (fun _ _ _ _ _ => pts2_nil) (fun _ _ _ _ _ => (.of (pe2_callTy f_intS m_int (pl2_cons (pb2_name 2) pl2_nil)))))) (pa2_cons (.of pe2_int) (pa2_cons (pv2_name 1) (pa2_cons (.of pe2_int) (pa2_cons (.of pe2_int) (pa2_cons (.of pe2_int) pa2_nil))))))))))), fun ds Q R h => ?_⟩
  · obtain ⟨ns, rfl, _⟩ := h; rfl
  · obtain ⟨ns, rfl, hn, q⟩ := h
    show wSeq _ _ _ _ [.sh (.scr ns), .un, .un]
    clear F tk pown hr
    walk_at "zs"
    refine wFor_of (fun _ ρ => ∃ (c : Int) (x : Sl), ρ = [.sh (.scr ns), .sh (.int c), x] ∧ 0 ≤ c ∧ c < 2147483648) ⟨_, _, rfl, by decide, by decide⟩ (fun i d hd nx hnx ρ hρ => ?_) (fun ρ hρ => ?_)
    · obtain ⟨c, x, rfl, h0, h1⟩ := hρ
      obtain ⟨n, rfl⟩ : ∃ n, d = .int n := by
        have := List.mem_of_getElem? hd
        obtain ⟨n, _, rfl⟩ := List.mem_map.mp this
        exact ⟨n, rfl⟩
      walk_at "zs"
      refine ⟨by decide, _, _, _, rfl, fun r h2 h3 => ?_⟩
      walk_at "zs"
      exact hnx _ ⟨_, _, rfl, h2, by omega⟩
    · obtain ⟨c, x, rfl, h0, h1⟩ := hρ
      walk_at "zs"
      refine lc_mapA (fun ρ => ∃ x, ρ = [.sh (.scr ns), .sh (.int c), x]) _ D.int ns _ _ ⟨_, rfl⟩ (by have := sizeLine_eq; simp; omega) (fun a ha ρ hρ k hk => ?_) fun ρ hρ => ?_
      · obtain ⟨x, rfl⟩ := hρ
        walk_at "zs"
        exact hk _ ⟨_, rfl⟩
      · obtain ⟨x, rfl⟩ := hρ
        walk_at "zs"
        exact ⟨by rw [sizeLine_eq]; decide, q c h0 h1⟩
def s__law_advance : Sp2 := fun ds Q _ => ds = [] ∧ Q (.val .non)
theorem sc__law_advance : FnScope ["_law_store_here", "_law_cells", "_law_place", "_law_cell"] ["_law_store_here"] (defScope (topS 33)) := ⟨rfl, rfl, rfl, by decide +kernel, rfl, by decide +kernel, by decide +kernel⟩
theorem ok__law_advance (F : DefAt K mg "_law_advance" (topS 33) ["_law_store_here"]) (m_len : mg "len" = none) (c__law_mixed : Cal P w K mg base "_law_mixed" 1 false s__law_mixed) (m_int : mg "int" = none) : Cal P w K mg base "_law_advance" 2 true s__law_advance := by
  refine cal_of F sc__law_advance (fun ds Q R h => ?_) fun f cdv A outer s H E tk pown hr => ⟨_, (pss2_cons (ps2_set 1 sc__law_advance.nd (pe2_stIx 0 0 (by decide)))
      (pss2_cons (ps2_set 2 sc__law_advance.nd (pe2_stIx 0 1 (by decide)))
      (pss2_one (ps2_if (pt2_cmp o_lt (pb2_name 2) (.of (pe2_callB f_len m_len (pl2_cons (pb2_name 1) pl2_nil)))) (pss2_cons (ps2_set 3 sc__law_advance.nd (pe2_ix (pb2_name 1) (pb2_name 2)))
      (pss2_cons (ps2_stSet 0 1 (by decide) (by decide) (.of (pe2_op o_add (pb2_name 2) (.of pe2_int))))
      (pss2_cons (ps2_stSet 0 2 (by decide) (by decide) (.of (pe2_fn tk c__law_mixed (hr.mono (by decide)) (pa2_cons (.of (pe2_op o_add (.of (pe2_stIx 0 2 (by decide))) (.of (pe2_op o_mod (.of (pe2_callTy f_intS m_int (pl2_cons (pb2_name 3) pl2_nil))) (.of pe2_int))))) (pa2_cons (.of (pe2_op o_add (pb2_name 2) (.of pe2_int))) (pa2_cons (.of pe2_int) pa2_nil))))))
      (pss2_cons (ps2_stSet 0 4 (by decide) (by decide) (.of pe2_int))
      (pss2_cons (ps2_stSet 0 5 (by decide) (by decide) (.of pe2_int))
      (pss2_one (ps2_if (pt2_cmp o_ge (pb2_name 3) (.of (pe2_op o_pow (.of pe2_int) (.of pe2_int)))) (pss2_cons (ps2_stSet 0 4 (by decide) (by decide) (pb2_name 3))
      (pss2_one (ps2_stSet 0 5 (by decide) (by decide) (.of pe2_int)))) pss2_nil))))))) pss2_nil)))), fun ds Q R h => ?_⟩
  · obtain ⟨rfl, _⟩ := h; rfl
  · obtain ⟨rfl, q⟩ := h
    show wSeq _ _ _ _ [.st, .un, .un, .un]
    clear F tk pown hr
    walk_at "zs"
    refine ⟨trivial, fun cells hc => ⟨trivial, fun n hn => ?_⟩⟩
    have hn : 0 ≤ n := hn
    by_cases hl : n < (cells.length : Int)
    · rw [if_pos (by rw [List.length_map, decide_eq_true_eq]; exact hl)]
      rw [atI_pos hn (by rw [List.length_map]; exact hl), List.getElem_map]
      walk_at "zs"
      refine ⟨show (0 : Int) ≤ n + 1 by omega, trivial, trivial, fun m hm => ⟨by decide, _, _, _, rfl, fun r h0 h1 => ?_⟩⟩
      walk_at "zs"
      refine ⟨⟨h0, by omega⟩, trivial, trivial, trivial, trivial, trivial, ⟨by decide, by decide, by decide⟩, ?_⟩
      split
      · exact ⟨trivial, trivial, trivial, trivial, q⟩
      · exact q
    · rw [if_neg (by rw [List.length_map, decide_eq_true_eq]; exact hl)]
      exact q
def s__law_take : Sp2 := fun ds Q _ => ∃ m : Int, ds = [.int m] ∧ m ≤ 10 ^ 60 ∧ ∀ r, 0 ≤ r → r < max 1 m → Q (.val (.int r))
theorem sc__law_take : FnScope ["_law_store_here", "_law_many", "_law_size_here", "_law_number"] ["_law_store_here", "_law_many"] (defScope (topS 34)) := ⟨rfl, rfl, rfl, by decide +kernel, rfl, by decide +kernel, by decide +kernel⟩
theorem ok__law_take (F : DefAt K mg "_law_take" (topS 34) ["_law_store_here", "_law_many"]) (m_max : mg "max" = none) (c__law_advance : Cal P w K mg base "_law_advance" 2 true s__law_advance) (m_int : mg "int" = none) (c__law_mixed : Cal P w K mg base "_law_mixed" 1 false s__law_mixed) : Cal P w K mg base "_law_take" 3 true s__law_take := by
  refine cal_of F sc__law_take (fun ds Q R h => ?_) fun f cdv A outer s H E tk pown hr => ⟨_, (pss2_cons (ps2_set 2 sc__law_take.nd (pe2_callB (f_max2 rfl) m_max (pl2_cons (.of pe2_int) (pl2_cons (pb2_name 1) pl2_nil))))
      (pss2_cons (ps2_if ((pw2_or (pt2_cmp o_le (.of (pe2_stIx 0 4 (by decide))) (.of pe2_int)) (pw2_or1 (pt2_cmp o_le (.of (pe2_stIx 0 5 (by decide))) (.of pe2_int))))).pt (pss2_one (ps2_expr (pe2_fnS 0 tk c__law_advance (hr.mono (by decide)) pa2_nil))) pss2_nil)
      (pss2_cons (ps2_if ((pw2_and (pt2_cmp o_gt (.of (pe2_stIx 0 4 (by decide))) (.of pe2_int)) (pw2_and1 (pt2_cmp o_gt (.of (pe2_stIx 0 5 (by decide))) (.of pe2_int))))).pt (pss2_cons (ps2_set 3 sc__law_take.nd (pe2_stIx 0 4 (by decide)))
      (pss2_cons (ps2_stSet 0 4 (by decide) (by decide) (.of (pe2_op o_div (pb2_name 3) (pb2_name 2))))
      (pss2_cons (ps2_stSet 0 5 (by decide) (by decide) (.of (pe2_op o_sub (.of (pe2_stIx 0 5 (by decide))) (.of pe2_int))))
      (pss2_one (ps2_ret (pe2_op o_mod (.of (pe2_callTy f_intS m_int (pl2_cons (pb2_name 3) pl2_nil))) (pb2_name 2))))))) pss2_nil)
      (pss2_cons (ps2_stSet 0 3 (by decide) (by decide) (.of (pe2_op o_add (.of (pe2_stIx 0 3 (by decide))) (.of pe2_int))))
      (pss2_one (ps2_ret (pe2_fn tk c__law_mixed (hr.mono (by decide)) (pa2_cons (.of (pe2_stIx 0 2 (by decide))) (pa2_cons (.of (pe2_stIx 0 3 (by decide))) (pa2_cons (pv2_name 2) pa2_nil)))))))))), fun ds Q R h => ?_⟩
  · obtain ⟨m, rfl, _⟩ := h; rfl
  · obtain ⟨m, rfl, hm, q⟩ := h
    show wSeq _ _ _ _ [.st, .sh (.int m), .un, .un]
    clear F tk pown hr
    have hd : CDivW 0 (max 1 m) := ⟨by omega, Nat.lt_trans (PySem.Flt.log2_lt_of (k := 250) (by decide) (Nat.lt_of_le_of_lt (show (max 1 m).natAbs ≤ 10 ^ 60 by omega) (by decide))) (by decide)⟩
    have tail : ∀ n3 : Int, okS 3 n3 → okS 3 (n3 + 1) ∧ True ∧ True ∧ ∀ n : Int, okS 2 n → True ∧ ∀ n_1 : Int, okS 3 n_1 → s__law_mixed [D.int n, D.int n_1, D.int (max 1 m)] (fun r => Q r) fun x => R x := fun n3 h3 => ⟨show (0 : Int) ≤ n3 + 1 by have : (0 : Int) ≤ n3 := h3; omega, trivial, trivial, fun n hn => ⟨trivial, fun k hk => ⟨_, _, _, rfl, fun r h0 h1 => q r h0 (by omega)⟩⟩⟩
    have body : ∀ n : Int, if decide (0 < n) = true then True ∧ ∀ n : Int, okS 5 n → if decide (0 < n) = true then True ∧ ∀ n : Int, okS 4 n → CDivW n (max 1 m) ∧ okS 4 (n / max 1 m) ∧ True ∧ True ∧ ∀ n_1 : Int, okS 5 n_1 → okS 5 (n_1 - 1) ∧ True ∧ 0 < max 1 m ∧ Q (Rs.val (D.int (n % max 1 m)))
        else True ∧ ∀ n : Int, okS 3 n → okS 3 (n + 1) ∧ True ∧ True ∧ ∀ n : Int, okS 2 n → True ∧ ∀ n_1 : Int, okS 3 n_1 → s__law_mixed [D.int n, D.int n_1, D.int (max 1 m)] (fun r => Q r) fun x => R x
        else True ∧ ∀ n : Int, okS 3 n → okS 3 (n + 1) ∧ True ∧ True ∧ ∀ n : Int, okS 2 n → True ∧ ∀ n_1 : Int, okS 3 n_1 → s__law_mixed [D.int n, D.int n_1, D.int (max 1 m)] (fun r => Q r) fun x => R x := fun n => by
      split
      · refine ⟨trivial, fun n5 h5 => ?_⟩
        split
        · exact ⟨trivial, fun n4 h4 => ⟨hd, trivial, trivial, trivial, fun k hk => ⟨trivial, trivial, by omega, q _ (Int.emod_nonneg _ (by omega)) (Int.emod_lt_of_pos _ (by omega))⟩⟩⟩
        · exact ⟨trivial, tail⟩
      · exact ⟨trivial, tail⟩
    walk_at "zs"
    refine ⟨trivial, fun n hn => ?_⟩
    split
    · exact ⟨rfl, trivial, fun n _ => body n⟩
    · refine ⟨trivial, fun n5 h5 => ?_⟩
      split
      · exact ⟨rfl, trivial, fun n _ => body n⟩
      · exact ⟨trivial, fun n _ => body n⟩
end
end K97

set_option maxHeartbeats 4000000
namespace K97
set_option autoImplicit false
open PySem PySem.Spec PyProof.Rows L2 L2H Z
section
variable {P : Program} {w : World} {K : PySem.W.Frag} {mg : Str → Option Value} {base : Heap}
theorem big10 {n : Nat} (h : n ≤ 100000000) : (n : Int) ≤ 10 ^ 60 := by omega
def s__law_pick : Sp2 := fun ds Q _ => ∃ x, ds = [x] ∧ ((∃ ds, x = .lst ds ∧ 0 < ds.length ∧ ds.length ≤ 100000000 ∧ (∀ d ∈ ds, flat d = true) ∧ ∀ d ∈ ds, Q (.val d)) ∨ (∃ z, x = .str z ∧ 0 < z.length ∧ z.length ≤ 1000000 ∧ ∀ c ∈ z.cps.toList, Q (.val (.str ⟨#[c]⟩))))
theorem sc__law_pick : FnScope ["_law_store_here", "_law_items"] ["_law_store_here", "_law_items"] (defScope (topS 35)) := ⟨rfl, rfl, rfl, by decide +kernel, rfl, by decide +kernel, by decide +kernel⟩
theorem ok__law_pick (F : DefAt K mg "_law_pick" (topS 35) ["_law_store_here", "_law_items"]) (c__law_take : Cal P w K mg base "_law_take" 3 true s__law_take) (m_len : mg "len" = none) : Cal P w K mg base "_law_pick" 4 true s__law_pick := by
  refine cal_of F sc__law_pick (fun ds Q R h => ?_) fun f cdv A outer s H E tk pown hr => ⟨_, (pss2_one (ps2_ret (pe2_ix (pb2_name 1) (.of (pe2_fnS 0 tk c__law_take (hr.mono (by decide)) (pa2_cons (.of (pe2_callB f_len m_len (pl2_cons (pb2_name 1) pl2_nil))) pa2_nil)))))), fun ds Q R h => ?_⟩
  · obtain ⟨m, rfl, _⟩ := h; rfl
  · obtain ⟨m, rfl, q⟩ := h
    show wRet _ _ _ [.st, .sh m]
    clear F tk pown hr
    rcases q with ⟨ds, rfl, h0, h1, hf, q⟩ | ⟨z, rfl, h0, h1, q⟩
    · walk_at "zs"
      refine ⟨_, rfl, big10 h1, fun k hk0 hk1 => ?_⟩
      walk_at "zs"
      rw [atI_pos hk0 (by omega)]
      exact q _ (List.getElem_mem _)
    · walk_at "zs"
      refine ⟨by have := sizeLine_eq; omega, _, rfl, by omega, fun k hk0 hk1 => ?_⟩
      walk_at "zs"
      refine ⟨by have := sizeLine_eq; omega, ?_⟩
      have hl := len_toList z
      rw [atI_pos hk0 (by omega)]
      exact q _ (List.getElem_mem _)
def s__law_outside : Sp2 := fun ds Q _ => ∃ a b : Int, ds = [.int a, .int b] ∧ ∀ n : Int, n.natAbs ≤ a.natAbs + b.natAbs + 10 ^ 61 → Q (.val (.int n))
theorem sc__law_outside : FnScope ["_law_store_here", "_law_low", "_law_high", "_law_kind"] ["_law_store_here", "_law_low", "_law_high"] (defScope (topS 36)) := ⟨rfl, rfl, rfl, by decide +kernel, rfl, by decide +kernel, by decide +kernel⟩
theorem ok__law_outside (F : DefAt K mg "_law_outside" (topS 36) ["_law_store_here", "_law_low", "_law_high"]) (c__law_take : Cal P w K mg base "_law_take" 3 true s__law_take) : Cal P w K mg base "_law_outside" 4 true s__law_outside := by
  refine cal_of F sc__law_outside (fun ds Q R h => ?_) fun f cdv A outer s H E tk pown hr => ⟨_, (pss2_cons (ps2_set 3 sc__law_outside.nd (pe2_fnS 0 tk c__law_take (hr.mono (by decide)) (pa2_cons (.of pe2_int) pa2_nil)))
      (pss2_cons (ps2_if (pt2_cmp o_lt (pb2_name 3) (.of pe2_int)) (pss2_one (ps2_ret (pe2_op o_sub (pb2_name 1) (.of pe2_int)))) pss2_nil)
      (pss2_cons (ps2_if (pt2_cmp o_lt (pb2_name 3) (.of pe2_int)) (pss2_one (ps2_ret (pe2_op o_add (pb2_name 2) (.of pe2_int)))) pss2_nil)
      (pss2_cons (ps2_if (pt2_cmp (o_eq hr.units) (pb2_name 3) (.of pe2_int)) (pss2_one (ps2_ret (pe2_op o_sub (.of (pe2_op o_pow (.of pe2_int) (.of pe2_int))) (.of pe2_int)))) pss2_nil)
      (pss2_cons (ps2_if (pt2_cmp (o_eq hr.units) (pb2_name 3) (.of pe2_int)) (pss2_one (ps2_ret (pe2_op o_sub (.of pe2_int) (.of (pe2_op o_pow (.of pe2_int) (.of pe2_int)))))) pss2_nil)
      (pss2_cons (ps2_if (pt2_cmp (o_eq hr.units) (pb2_name 3) (.of pe2_int)) (pss2_one (ps2_ret (pe2_op o_add (.of (pe2_op o_add (pb2_name 2) (.of pe2_int))) (.of (pe2_fnS 0 tk c__law_take (hr.mono (by decide)) (pa2_cons (.of (pe2_op o_pow (.of pe2_int) (.of pe2_int))) pa2_nil)))))) pss2_nil)
      (pss2_one (ps2_ret (pe2_op o_sub (.of (pe2_op o_sub (pb2_name 1) (.of pe2_int))) (.of (pe2_fnS 0 tk c__law_take (hr.mono (by decide)) (pa2_cons (.of (pe2_op o_pow (.of pe2_int) (.of pe2_int))) pa2_nil)))))))))))), fun ds Q R h => ?_⟩
  · obtain ⟨a, b, rfl, _⟩ := h; rfl
  · obtain ⟨a, b, rfl, q⟩ := h
    show wSeq _ _ _ _ [.st, .sh (.int a), .sh (.int b), .un]
    clear F tk pown hr
    walk_at "zs"
    refine ⟨_, rfl, by omega, fun k hk0 hk1 => ?_⟩
    walk_at "zs"
    have e59 : (10 : Int) ^ Int.toNat 59 = 10 ^ 59 := rfl
    have e60 : (10 : Int) ^ Int.toNat 60 = 10 ^ 60 := rfl
    rw [e59, e60]
    split
    · exact q _ (by omega)
    split
    · exact q _ (by omega)
    split
    · exact ⟨⟨by decide, by decide, by decide⟩, q _ (by omega)⟩
    split
    · exact ⟨⟨by decide, by decide, by decide⟩, q _ (by omega)⟩
    split
    · refine ⟨⟨by decide, by decide, by decide⟩, _, rfl, by omega, fun m h0 h1 => ?_⟩
      walk_at "zs"
      exact q _ (by omega)
    · refine ⟨⟨by decide, by decide, by decide⟩, _, rfl, by omega, fun m h0 h1 => ?_⟩
      walk_at "zs"
      exact q _ (by omega)
def s__law_size : Sp2 := fun ds Q _ => ∃ a b : Int, ds = [.int a, .int b] ∧ 0 ≤ a ∧ 0 ≤ b ∧ a ≤ 100000000 ∧ b ≤ 100000000 ∧ ∀ n : Int, 0 ≤ n → n ≤ b → Q (.val (.int n))
theorem sc__law_size : FnScope ["_law_store_here", "_law_usual", "_law_most", "_law_kind", "_law_top"] ["_law_store_here", "_law_usual", "_law_most"] (defScope (topS 37)) := ⟨rfl, rfl, rfl, by decide +kernel, rfl, by decide +kernel, by decide +kernel⟩
theorem ok__law_size (F : DefAt K mg "_law_size" (topS 37) ["_law_store_here", "_law_usual", "_law_most"]) (c__law_take : Cal P w K mg base "_law_take" 3 true s__law_take) (m_max : mg "max" = none) (m_min : mg "min" = none) : Cal P w K mg base "_law_size" 4 true s__law_size := by
  refine cal_of F sc__law_size (fun ds Q R h => ?_) fun f cdv A outer s H E tk pown hr => ⟨_, (pss2_cons (ps2_set 3 sc__law_size.nd (pe2_fnS 0 tk c__law_take (hr.mono (by decide)) (pa2_cons (.of pe2_int) pa2_nil)))
      (pss2_cons (ps2_set 4 sc__law_size.nd (pe2_callB (f_max2 rfl) m_max (pl2_cons (.of pe2_int) (pl2_cons (pb2_name 2) pl2_nil))))
      (pss2_cons (ps2_if (pt2_cmp (o_eq hr.units) (pb2_name 3) (.of pe2_int)) (pss2_one (ps2_ret pe2_int)) pss2_nil)
      (pss2_cons (ps2_if (pt2_cmp (o_eq hr.units) (pb2_name 3) (.of pe2_int)) (pss2_one (ps2_ret (pe2_callB (f_min2 rfl) m_min (pl2_cons (.of pe2_int) (pl2_cons (pb2_name 4) pl2_nil))))) pss2_nil)
      (pss2_cons (ps2_if (pt2_cmp (o_eq hr.units) (pb2_name 3) (.of pe2_int)) (pss2_one (ps2_ret (pe2_move 4))) pss2_nil)
      (pss2_cons (ps2_if (pt2_cmp (o_eq hr.units) (pb2_name 3) (.of pe2_int)) (pss2_one (ps2_ret (pe2_fnS 0 tk c__law_take (hr.mono (by decide)) (pa2_cons (.of (pe2_op o_add (pb2_name 4) (.of pe2_int))) pa2_nil)))) pss2_nil)
      (pss2_one (ps2_ret (pe2_fnS 0 tk c__law_take (hr.mono (by decide)) (pa2_cons (.of (pe2_op o_add (.of (pe2_callB (f_min2 rfl) m_min (pl2_cons (.of (pe2_callB (f_max2 rfl) m_max (pl2_cons (.of pe2_int) (pl2_cons (pb2_name 1) pl2_nil)))) (pl2_cons (pb2_name 4) pl2_nil)))) (.of pe2_int))) pa2_nil)))))))))), fun ds Q R h => ?_⟩
  · obtain ⟨a, b, rfl, _⟩ := h; rfl
  · obtain ⟨a, b, rfl, h0, h1, h2, h3, q⟩ := h
    show wSeq _ _ _ _ [.st, .sh (.int a), .sh (.int b), .un, .un]
    clear F tk pown hr
    walk_at "zs"
    refine ⟨_, rfl, by omega, fun k hk0 hk1 => ?_⟩
    walk_at "zs"
    split
    · exact q _ (by omega) (by omega)
    split
    · exact q _ (by omega) (by omega)
    split
    · exact q _ (by omega) (by omega)
    split
    · exact ⟨_, rfl, by omega, fun m h0 h1 => q _ (by omega) (by omega)⟩
    · exact ⟨_, rfl, by omega, fun m h0 h1 => q _ (by omega) (by omega)⟩
def s__law_put : Sp2 := fun ds Q _ => ∃ xs x, ds = [.lst xs, x] ∧ flat x = true ∧ xs.length ≤ 1000000 ∧ ∀ ys : List D, ys.length = xs.length + 1 → (∀ d ∈ ys, d ∈ x :: xs) → Q (.own (.lst ys))
theorem sc__law_put : FnScope ["_law_store_here", "_law_items", "_law_item", "_law_place"] ["_law_store_here", "_law_items", "_law_item"] (defScope (topS 38)) := ⟨rfl, rfl, rfl, by decide +kernel, rfl, by decide +kernel, by decide +kernel⟩
theorem ok__law_put (F : DefAt K mg "_law_put" (topS 38) ["_law_store_here", "_law_items", "_law_item"]) (c__law_take : Cal P w K mg base "_law_take" 3 true s__law_take) (m_len : mg "len" = none) (m_list : mg "list" = none) : Cal P w K mg base "_law_put" 4 true s__law_put := by
  refine cal_of F sc__law_put (fun ds Q R h => ?_) fun f cdv A outer s H E tk pown hr => ⟨_, (pss2_cons (ps2_set 3 sc__law_put.nd (pe2_fnS 0 tk c__law_take (hr.mono (by decide)) (pa2_cons (.of (pe2_op o_add (.of (pe2_callB f_len m_len (pl2_cons (pb2_name 1) pl2_nil))) (.of pe2_int))) pa2_nil)))
      (pss2_one (ps2_ret (pe2_op o_add (.of (pe2_op o_add (.of (pe2_callTy f_list m_list (pl2_cons (.of (pe2_slice (pb2_name 1) po2_none (po2_some (pb2_name 3)))) pl2_nil))) (.of (pe2_lst (pa2_cons (pv2_name 2) pa2_nil))))) (.of (pe2_callTy f_list m_list (pl2_cons (.of (pe2_slice (pb2_name 1) (po2_some (pb2_name 3)) po2_none)) pl2_nil))))))), fun ds Q R h => ?_⟩
  · obtain ⟨a, b, rfl, _⟩ := h; rfl
  · obtain ⟨xs, x, rfl, hx, hl, q⟩ := h
    show wSeq _ _ _ _ [.st, .sh (.lst xs), .sh x, .un]
    clear F tk pown hr
    walk_at "zs"
    refine ⟨_, rfl, by omega, fun k hk0 hk1 => ?_⟩
    walk_at "zs"
    rw [cutL_take hk0, cutL_drop hk0]
    have hsz := sizeLine_eq
    have h1 := List.length_take (i := k.toNat) (l := xs)
    have h2 := List.length_drop (i := k.toNat) (l := xs)
    refine ⟨by omega, by omega, by rw [List.length_append, List.length_cons, List.length_nil]; omega, q _ (by rw [List.length_append, List.length_append, List.length_cons, List.length_nil]; omega) fun d hd => ?_⟩
    rcases List.mem_append.mp hd with h | h
    · rcases List.mem_append.mp h with h | h
      · exact List.mem_cons_of_mem _ (List.mem_of_mem_take h)
      · rw [List.mem_singleton] at h; rw [h]; exact List.mem_cons_self
    · exact List.mem_cons_of_mem _ (List.mem_of_mem_drop h)
def s__law_set : Sp2 := fun ds Q _ => ∃ xs x, ds = [.lst xs, x] ∧ flat x = true ∧ xs.length ≤ 1000000 ∧ ∀ ys : List D, 0 < ys.length → ys.length ≤ xs.length + 1 → (∀ d ∈ ys, d ∈ x :: xs) → Q (.own (.lst ys))
theorem sc__law_set : FnScope ["_law_store_here", "_law_items", "_law_item", "_law_place"] ["_law_store_here", "_law_items", "_law_item"] (defScope (topS 39)) := ⟨rfl, rfl, rfl, by decide +kernel, rfl, by decide +kernel, by decide +kernel⟩
theorem ok__law_set (F : DefAt K mg "_law_set" (topS 39) ["_law_store_here", "_law_items", "_law_item"]) (m_len : mg "len" = none) (c__law_take : Cal P w K mg base "_law_take" 3 true s__law_take) (m_list : mg "list" = none) : Cal P w K mg base "_law_set" 4 true s__law_set := by
  refine cal_of F sc__law_set (fun ds Q R h => ?_) fun f cdv A outer s H E tk pown hr => ⟨_, (pss2_cons (ps2_if (pt2_cmp (o_eq hr.units) (.of (pe2_callB f_len m_len (pl2_cons (pb2_name 1) pl2_nil))) (.of pe2_int)) (pss2_one (ps2_ret (pe2_lst (pa2_cons (pv2_name 2) pa2_nil)))) pss2_nil)
      (pss2_cons (ps2_set 3 sc__law_set.nd (pe2_fnS 0 tk c__law_take (hr.mono (by decide)) (pa2_cons (.of (pe2_callB f_len m_len (pl2_cons (pb2_name 1) pl2_nil))) pa2_nil)))
      (pss2_one (ps2_ret (pe2_op o_add (.of (pe2_op o_add (.of (pe2_callTy f_list m_list (pl2_cons (.of (pe2_slice (pb2_name 1) po2_none (po2_some (pb2_name 3)))) pl2_nil))) (.of (pe2_lst (pa2_cons (pv2_name 2) pa2_nil))))) (.of (pe2_callTy f_list m_list (pl2_cons (.of (pe2_slice (pb2_name 1) (po2_some (.of (pe2_op o_add (pb2_name 3) (.of pe2_int)))) po2_none)) pl2_nil)))))))), fun ds Q R h => ?_⟩
  · obtain ⟨a, b, rfl, _⟩ := h; rfl
  · obtain ⟨xs, x, rfl, hx, hl, q⟩ := h
    show wSeq _ _ _ _ [.st, .sh (.lst xs), .sh x, .un]
    clear F tk pown hr
    walk_at "zs"
    by_cases h0 : xs.length = 0
    · rw [if_pos (by rw [decide_eq_true_eq]; omega)]
      exact ⟨by rw [sizeLine_eq]; decide, q _ (by simp) (by simp) fun d hd => by rw [List.mem_singleton] at hd; rw [hd]; exact List.mem_cons_self⟩
    · rw [if_neg (by rw [decide_eq_true_eq]; omega)]
      refine ⟨_, rfl, by omega, fun k hk0 hk1 => ?_⟩
      walk_at "zs"
      rw [cutL_take hk0, cutL_drop (k := k + 1) (by omega)]
      have hsz := sizeLine_eq
      have h1 := List.length_take (i := k.toNat) (l := xs)
      have h2 := List.length_drop (i := (k + 1).toNat) (l := xs)
      refine ⟨by omega, by omega, by rw [List.length_append, List.length_cons, List.length_nil]; omega, q _ (by rw [List.length_append, List.length_append, List.length_cons, List.length_nil]; omega) (by rw [List.length_append, List.length_append, List.length_cons, List.length_nil]; omega) fun d hd => ?_⟩
      rcases List.mem_append.mp hd with h | h
      · rcases List.mem_append.mp h with h | h
        · exact List.mem_cons_of_mem _ (List.mem_of_mem_take h)
        · rw [List.mem_singleton] at h; rw [h]; exact List.mem_cons_self
      · exact List.mem_cons_of_mem _ (List.mem_of_mem_drop h)
end
end K97

set_option maxHeartbeats 4000000
namespace K97
set_option autoImplicit false
open PySem PySem.Spec PyProof.Rows L2 L2H Z
section
variable {P : Program} {w : World} {K : PySem.W.Frag} {mg : Str → Option Value} {base : Heap}
def s__law_sign : Sp2 := fun ds Q _ => ds = [] ∧ ∀ z : Str, z.length = 1 → Q (.val (.str z))
theorem sc__law_sign : FnScope ["_law_store_here", "_law_signs"] ["_law_store_here"] (defScope (topS 40)) := ⟨rfl, rfl, rfl, by decide +kernel, rfl, by decide +kernel, by decide +kernel⟩
theorem ok__law_sign (F : DefAt K mg "_law_sign" (topS 40) ["_law_store_here"]) (c__law_pick : Cal P w K mg base "_law_pick" 4 true s__law_pick) : Cal P w K mg base "_law_sign" 5 true s__law_sign := by
  refine cal_of F sc__law_sign (fun ds Q R h => ?_) fun f cdv A outer s H E tk pown hr => ⟨_, (pss2_cons (ps2_set 1 sc__law_sign.nd pe2_str)
      (pss2_one (ps2_ret (pe2_fnS 0 tk c__law_pick (hr.mono (by decide)) (pa2_cons (.of (pe2_op o_add (pb2_name 1) (.of pe2_str))) pa2_nil))))), fun ds Q R h => ?_⟩
  · obtain ⟨rfl, _⟩ := h; rfl
  · obtain ⟨rfl, q⟩ := h
    show wSeq _ _ _ _ [.st, .un]
    clear F tk pown hr
    walk_at "zs"
    exact ⟨by rw [sizeLine_eq]; decide, _, rfl, .inr ⟨_, rfl, by decide, by decide, fun c _ => q _ (len_one c)⟩⟩
def s__law_text : Sp2 := fun ds Q _ => ∃ b : Int, ds = [.int b] ∧ 0 ≤ b ∧ b ≤ 1000 ∧ ∀ z : Str, z.length ≤ b.toNat → Q (.val (.str z))
theorem sc__law_text : FnScope ["_law_store_here", "_law_most", "_law_k"] ["_law_store_here", "_law_most"] (defScope (topS 41)) := ⟨rfl, rfl, rfl, by decide +kernel, rfl, by decide +kernel, by decide +kernel⟩
theorem ok__law_text (F : DefAt K mg "_law_text" (topS 41) ["_law_store_here", "_law_most"]) (m_range : mg "range" = none) (c__law_size : Cal P w K mg base "_law_size" 4 true s__law_size) (c__law_sign : Cal P w K mg base "_law_sign" 5 true s__law_sign) : Cal P w K mg base "_law_text" 6 true s__law_text := by
  refine cal_of F sc__law_text (fun ds Q R h => ?_) fun f cdv A outer s H E tk pown hr => ⟨_, (pss2_one (ps2_ret (pe2_join (.of pe2_str) (.of (pe2_lc (own := [("_law_k", 2)]) rfl sc__law_text.nd (pi2_range1 m_range (.of (pe2_fnS 0 tk c__law_size (hr.mono (by decide)) (pa2_cons (.of pe2_int) (pa2_cons (pv2_name 1) pa2_nil))))) (blkOk_by (own := [("_law_k", 2)]) (by kernel_rfl)) (fun _ _ _ _ _ => (pg2_name 2 sc__law_text.nd)) (fun _ _ _ _ _ => pts2_nil) (fun _ _ _ _ _ => (.of (pe2_fnS 0 takesN0 c__law_sign (hr.mono (by decide)) pa2_nil)))))))), fun ds Q R h => ?_⟩
  · obtain ⟨b, rfl, _⟩ := h; rfl
  · obtain ⟨b, rfl, h0, h1, q⟩ := h
    show wRet _ _ _ [.st, .sh (.int b), .un]
    clear F tk pown hr
    walk_at "zs"
    refine ⟨_, rfl, _, _, rfl, by decide, h0, by decide, by omega, fun n h2 h3 => ?_⟩
    walk_at "zs"
    refine ⟨⟨by omega, by omega⟩, ?_⟩
    refine lc_rel (fun ρ => ∃ x, ρ = [.st, .sh (.int b), x]) (fun _ e => ∃ z, e = .str z ∧ z.length = 1) _ _ _ ⟨_, rfl⟩ (by rw [rngD_len, sizeLine_eq, List.length_nil]; omega) (fun a ha ρ hρ k hk => ?_) fun es ρ he hρ => ?_
    · obtain ⟨x, rfl⟩ := hρ
      obtain ⟨i, _, rfl⟩ := rngD_mem ha
      walk_at "zs"
      exact ⟨rfl, fun z hz => hk _ _ ⟨z, rfl, hz⟩ ⟨_, rfl⟩⟩
    · have hn := Each.len he
      rw [rngD_len] at hn
      obtain ⟨ys, e1, e2, e3⟩ := strs_of (P := fun z => z.length = 1) es (Each.all (fun a _ b h => h) he)
      rw [List.nil_append, e2]
      have hy : ys.length = n.toNat := by rw [hn, e1, List.length_map]
      have hs : (ys.map Str.length).sum ≤ ys.length * 1 := sum_le _ 1 ys fun y h => by rw [e3 y h]; exact Nat.le_refl 1
      have e0 : (Str.ofString "").length = 0 := rfl
      have hs' : (ys.map fun x => x.length).sum ≤ ys.length * 1 := hs
      refine ⟨by rw [e0]; omega, ?_⟩
      rw [TL.join_eq]
      refine q _ ?_
      have := len_join (Str.ofString "") ys
      rw [e0] at this
      omega
def s__law_free_name : Sp2 := fun ds Q _ => ∃ b : Int, ds = [.int b] ∧ 1 ≤ b ∧ b ≤ 8 ∧ ∀ z : Str, 1 ≤ z.length → z.length ≤ 8 → Q (.val (.str z))
theorem sc__law_free_name : FnScope ["_law_store_here", "_law_most", "_law_size_here", "_law_number", "_law_name", "_law_k"] ["_law_store_here", "_law_most"] (defScope (topS 42)) := ⟨rfl, rfl, rfl, by decide +kernel, rfl, by decide +kernel, by decide +kernel⟩
theorem ok__law_free_name (F : DefAt K mg "_law_free_name" (topS 42) ["_law_store_here", "_law_most"]) (c__law_take : Cal P w K mg base "_law_take" 3 true s__law_take) (m_int : mg "int" = none) (m_range : mg "range" = none) : Cal P w K mg base "_law_free_name" 4 true s__law_free_name := by
  refine cal_of F sc__law_free_name (fun ds Q R h => ?_) fun f cdv A outer s H E tk pown hr => ⟨_, (pss2_cons (ps2_set 2 sc__law_free_name.nd (pe2_ix (.of (pe2_lst (pa2_cons (.of pe2_int) (pa2_cons (pv2_name 1) (pa2_cons (.of (pe2_op o_add (.of pe2_int) (.of (pe2_fnS 0 tk c__law_take (hr.mono (by decide)) (pa2_cons (pv2_name 1) pa2_nil))))) pa2_nil))))) (.of (pe2_op o_div (.of (pe2_fnS 0 tk c__law_take (hr.mono (by decide)) (pa2_cons (.of pe2_int) pa2_nil))) (.of pe2_int)))))
      (pss2_cons (ps2_set 3 sc__law_free_name.nd (pe2_fnS 0 tk c__law_take (hr.mono (by decide)) (pa2_cons (.of (pe2_op o_pow (.of pe2_int) (.of pe2_int))) pa2_nil)))
      (pss2_cons (ps2_set 4 sc__law_free_name.nd (pe2_ix (.of pe2_str) (.of (pe2_op o_mod (.of (pe2_callTy f_intS m_int (pl2_cons (pb2_name 3) pl2_nil))) (.of pe2_int)))))
      (pss2_cons (ps2_set 3 sc__law_free_name.nd (pe2_op o_div (pb2_name 3) (.of pe2_int)))
      (pss2_cons (ps2_for pown rfl (pi2_range1 m_range (.of (pe2_op o_sub (pb2_name 2) (.of pe2_int)))) (pg2_name 5 sc__law_free_name.nd) (pss2_cons (ps2_set 4 sc__law_free_name.nd (pe2_op o_add (pb2_name 4) (.of (pe2_ix (.of pe2_str) (.of (pe2_op o_mod (.of (pe2_callTy f_intS m_int (pl2_cons (pb2_name 3) pl2_nil))) (.of pe2_int)))))))
      (pss2_one (ps2_set 3 sc__law_free_name.nd (pe2_op o_div (pb2_name 3) (.of pe2_int))))))
      (pss2_one (ps2_ret (pe2_move 4)))))))), fun ds Q R h => ?_⟩
  · obtain ⟨b, rfl, _⟩ := h; rfl
  · obtain ⟨b, rfl, h0, h1, q⟩ := h
    show wSeq _ _ _ _ [.st, .sh (.int b), .un, .un, .un, .un]
    clear F tk pown hr
    walk_at "zs"
    refine ⟨_, rfl, by omega, fun n1 h2 h3 => ?_⟩
    walk_at "zs"
    refine ⟨by rw [sizeLine_eq]; decide, _, rfl, by decide, fun n2 h4 h5 => ?_⟩
    walk_at "zs"
    have hs : ∃ s : Int, atI [D.int 1, D.int b, D.int (1 + n1)] (n2 / 2) = some (.int s) ∧ 1 ≤ s ∧ s ≤ 8 := by
      rw [atI_pos (by omega) (by show n2 / 2 < ((3 : Nat) : Int); omega)]
      have e : n2 / 2 = 0 ∨ n2 / 2 = 1 ∨ n2 / 2 = 2 := by omega
      rcases e with e | e | e <;> simp only [e]
      · exact ⟨1, rfl, by omega, by omega⟩
      · exact ⟨b, rfl, by omega, by omega⟩
      · exact ⟨1 + n1, rfl, by omega, by omega⟩
    obtain ⟨s, e, hs0, hs1⟩ := hs
    rw [e]
    refine ⟨⟨by decide, by decide⟩, ⟨by decide, by decide, by decide⟩, _, rfl, by decide, fun n3 h6 h7 => ?_⟩
    walk_at "zs"
    refine ⟨by decide, by rw [sizeLine_eq]; decide, ?_⟩
    have b1 := mod_rng n3 26 (by decide)
    rw [atI_pos b1.1 (by rw [show (Str.ofString "abcdefghijklmnopqrstuvwxyz").cps.toList.length = 26 from rfl]; omega)]
    refine ⟨⟨by decide, by decide⟩, ⟨by omega, by omega⟩, ?_⟩
    refine wFor_of (fun i ρ => ∃ (z : Str) (m : Int) (x : Sl), ρ = [.st, .sh (.int b), .sh (.int s), .sh (.int m), .sh (.str z), x] ∧ z.length = i + 1) ⟨_, _, _, rfl, len_one _⟩ (fun i d hd nx hnx ρ hρ => ?_) (fun ρ hρ => ?_)
    · obtain ⟨z, m, x, rfl, hz⟩ := hρ
      obtain ⟨hi, rfl⟩ := rngD_get hd
      walk_at "zs"
      have b2 := mod_rng m 36 (by decide)
      refine ⟨by decide, by rw [sizeLine_eq]; decide, ?_⟩
      rw [atI_pos b2.1 (by rw [show (Str.ofString "abcdefghijklmnopqrstuvwxyz0123456789").cps.toList.length = 36 from rfl]; omega)]
      refine ⟨by rw [len_one, sizeLine_eq]; omega, ⟨by decide, by decide⟩, hnx _ ⟨_, _, _, rfl, by rw [len_app, len_one, hz]⟩⟩
    · obtain ⟨z, m, x, rfl, hz⟩ := hρ
      rw [rngD_len] at hz
      walk_at "zs"
      exact q z (by omega) (by omega)
def s__law_bad_word : Sp2 := fun ds Q _ => ds = [] ∧ ∀ z : Str, z.length ≤ 20 → Q (.val (.str z))
theorem sc__law_bad_word : FnScope ["_law_store_here", "_law_name", "_law_kind", "_law_place"] ["_law_store_here"] (defScope (topS 44)) := ⟨rfl, rfl, rfl, by decide +kernel, rfl, by decide +kernel, by decide +kernel⟩
theorem ok__law_bad_word (F : DefAt K mg "_law_bad_word" (topS 44) ["_law_store_here"]) (c__law_free_name : Cal P w K mg base "_law_free_name" 4 true s__law_free_name) (c__law_take : Cal P w K mg base "_law_take" 3 true s__law_take) (m_len : mg "len" = none) (m_str : mg "str" = none) (c__law_pick : Cal P w K mg base "_law_pick" 4 true s__law_pick) : Cal P w K mg base "_law_bad_word" 5 true s__law_bad_word := by
  refine cal_of F sc__law_bad_word (fun ds Q R h => ?_) fun f cdv A outer s H E tk pown hr => ⟨_, (pss2_cons (ps2_set 1 sc__law_bad_word.nd (pe2_fnS 0 tk c__law_free_name (hr.mono (by decide)) (pa2_cons (.of pe2_int) pa2_nil)))
      (pss2_cons (ps2_set 2 sc__law_bad_word.nd (pe2_fnS 0 tk c__law_take (hr.mono (by decide)) (pa2_cons (.of pe2_int) pa2_nil)))
      (pss2_cons (ps2_set 3 sc__law_bad_word.nd (pe2_fnS 0 tk c__law_take (hr.mono (by decide)) (pa2_cons (.of (pe2_op o_add (.of (pe2_callB f_len m_len (pl2_cons (pb2_name 1) pl2_nil))) (.of pe2_int))) pa2_nil)))
      (pss2_cons (ps2_if (pt2_cmp (o_eq hr.units) (pb2_name 2) (.of pe2_int)) (pss2_one (ps2_ret (pe2_op o_add (.of (pe2_callTy f_str m_str (pl2_cons (.of (pe2_fnS 0 tk c__law_take (hr.mono (by decide)) (pa2_cons (.of pe2_int) pa2_nil))) pl2_nil))) (pb2_name 1)))) pss2_nil)
      (pss2_cons (ps2_if (pt2_cmp (o_eq hr.units) (pb2_name 2) (.of pe2_int)) (pss2_one (ps2_ret (pe2_slice (.of (pe2_op o_add (pb2_name 1) (.of pe2_str))) po2_none (po2_some (.of (pe2_op o_add (.of pe2_int) (.of (pe2_fnS 0 tk c__law_take (hr.mono (by decide)) (pa2_cons (.of pe2_int) pa2_nil))))))))) pss2_nil)
      (pss2_cons (ps2_if (pt2_cmp (o_eq hr.units) (pb2_name 2) (.of pe2_int)) (pss2_one (ps2_ret (pe2_op o_add (.of (pe2_op o_add (.of (pe2_slice (pb2_name 1) po2_none (po2_some (pb2_name 3)))) (.of (pe2_fnS 0 tk c__law_pick (hr.mono (by decide)) (pa2_cons (.of pe2_str) pa2_nil))))) (.of (pe2_slice (pb2_name 1) (po2_some (pb2_name 3)) po2_none))))) pss2_nil)
      (pss2_one (ps2_ret (pe2_op o_add (.of (pe2_op o_add (.of (pe2_slice (pb2_name 1) po2_none (po2_some (pb2_name 3)))) (.of (pe2_fnS 0 tk c__law_pick (hr.mono (by decide)) (pa2_cons (.of pe2_str) pa2_nil))))) (.of (pe2_slice (pb2_name 1) (po2_some (pb2_name 3)) po2_none))))))))))), fun ds Q R h => ?_⟩
  · obtain ⟨rfl, _⟩ := h; rfl
  · obtain ⟨rfl, q⟩ := h
    show wSeq _ _ _ _ [.st, .un, .un, .un]
    clear F tk pown hr
    walk_at "zs"
    refine ⟨_, rfl, by decide, by decide, fun z h0 h1 => ?_⟩
    walk_at "zs"
    refine ⟨_, rfl, by decide, fun k h2 h3 => ?_⟩
    walk_at "zs"
    refine ⟨by rw [sizeLine_eq]; omega, _, rfl, by omega, fun n h4 h5 => ?_⟩
    walk_at "zs"
    have hsz := sizeLine_eq
    have put : ∀ c : Str, c.length = 1 → z.length ≤ sizeLine ∧ True := fun c hc => ⟨by omega, trivial⟩
    have c1 := cutS_length z none (some n)
    have c2 := cutS_length z (some n) none
    split
    · refine ⟨_, rfl, by decide, fun m h6 h7 => ?_⟩
      walk_at "zs"
      have hl := TL.numL_len (n := m.toNat) (k := 1) (by decide) (by omega)
      have hd : (Str.ofString (toString m)).length ≤ 1 := by
        rw [show m = ((m.toNat : Nat) : Int) by omega, TL.len_tl, TL.tl_num]
        exact hl
      refine ⟨small_log h6 (by omega), by omega, q _ (by rw [len_app]; omega)⟩
    split
    · have ha : (Str.ofString "a0b1c2d3e4").length = 10 := rfl
      refine ⟨by omega, _, rfl, by decide, fun m h6 h7 => ?_⟩
      walk_at "zs"
      have c3 := cutS_length (z ++ Str.ofString "a0b1c2d3e4") none (some (9 + m))
      rw [len_app] at c3
      refine ⟨by rw [len_app]; omega, q _ (by omega)⟩
    split
    · refine ⟨by omega, _, rfl, .inr ⟨_, rfl, by decide, by decide, fun c _ => ?_⟩⟩
      walk_at "zs"
      have := len_one c
      refine ⟨by omega, by omega, by rw [len_app]; omega, q _ (by rw [len_app, len_app]; omega)⟩
    · refine ⟨by omega, _, rfl, .inr ⟨_, rfl, by decide, by decide, fun c _ => ?_⟩⟩
      walk_at "zs"
      have := len_one c
      refine ⟨by omega, by omega, by rw [len_app]; omega, q _ (by rw [len_app, len_app]; omega)⟩
def s__law_bad_name : Sp2 := fun ds Q _ => ds = [] ∧ ∀ z : Str, z.length ≤ 4000 → Q (.val (.str z))
theorem sc__law_bad_name : FnScope ["_law_store_here", "_law_kind", "_law_name", "_law_place"] ["_law_store_here"] (defScope (topS 45)) := ⟨rfl, rfl, rfl, by decide +kernel, rfl, by decide +kernel, by decide +kernel⟩
theorem ok__law_bad_name (F : DefAt K mg "_law_bad_name" (topS 45) ["_law_store_here"]) (c__law_take : Cal P w K mg base "_law_take" 3 true s__law_take) (c__law_free_name : Cal P w K mg base "_law_free_name" 4 true s__law_free_name) (m_len : mg "len" = none) (c__law_pick : Cal P w K mg base "_law_pick" 4 true s__law_pick) (c__law_size : Cal P w K mg base "_law_size" 4 true s__law_size) (c__law_bad_word : Cal P w K mg base "_law_bad_word" 5 true s__law_bad_word) : Cal P w K mg base "_law_bad_name" 6 true s__law_bad_name := by
  refine cal_of F sc__law_bad_name (fun ds Q R h => ?_) fun f cdv A outer s H E tk pown hr => ⟨_, (pss2_cons (ps2_set 1 sc__law_bad_name.nd (pe2_fnS 0 tk c__law_take (hr.mono (by decide)) (pa2_cons (.of pe2_int) pa2_nil)))
      (pss2_cons (ps2_set 2 sc__law_bad_name.nd (pe2_fnS 0 tk c__law_free_name (hr.mono (by decide)) (pa2_cons (.of pe2_int) pa2_nil)))
      (pss2_cons (ps2_set 3 sc__law_bad_name.nd (pe2_fnS 0 tk c__law_take (hr.mono (by decide)) (pa2_cons (.of (pe2_op o_add (.of (pe2_callB f_len m_len (pl2_cons (pb2_name 2) pl2_nil))) (.of pe2_int))) pa2_nil)))
      (pss2_cons (ps2_if (pt2_cmp (o_eq hr.units) (pb2_name 1) (.of pe2_int)) (pss2_one (ps2_ret pe2_str)) pss2_nil)
      (pss2_cons (ps2_if (pt2_cmp (o_eq hr.units) (pb2_name 1) (.of pe2_int)) (pss2_one (ps2_ret (pe2_op o_add (.of (pe2_op o_add (.of (pe2_slice (pb2_name 2) po2_none (po2_some (pb2_name 3)))) (.of (pe2_fnS 0 tk c__law_pick (hr.mono (by decide)) (pa2_cons (.of pe2_str) pa2_nil))))) (.of (pe2_slice (pb2_name 2) (po2_some (pb2_name 3)) po2_none))))) pss2_nil)
      (pss2_cons (ps2_if (pt2_cmp (o_eq hr.units) (pb2_name 1) (.of pe2_int)) (pss2_one (ps2_ret (pe2_slice (.of (pe2_op o_mulA (pb2_name 2) (.of pe2_int))) po2_none (po2_some (.of (pe2_op o_add (.of pe2_int) (.of (pe2_fnS 0 tk c__law_size (hr.mono (by decide)) (pa2_cons (.of pe2_int) (pa2_cons (.of pe2_int) pa2_nil)))))))))) pss2_nil)
      (pss2_one (ps2_ret (pe2_fnS 0 tk c__law_bad_word (hr.mono (by decide)) pa2_nil))))))))), fun ds Q R h => ?_⟩
  · obtain ⟨rfl, _⟩ := h; rfl
  · obtain ⟨rfl, q⟩ := h
    show wSeq _ _ _ _ [.st, .un, .un, .un]
    clear F tk pown hr
    walk_at "zs"
    refine ⟨_, rfl, by decide, fun k h2 h3 => ?_⟩
    walk_at "zs"
    refine ⟨_, rfl, by decide, by decide, fun z h0 h1 => ?_⟩
    walk_at "zs"
    refine ⟨by rw [sizeLine_eq]; omega, _, rfl, by omega, fun n h4 h5 => ?_⟩
    walk_at "zs"
    have hsz := sizeLine_eq
    have c1 := cutS_length z none (some n)
    have c2 := cutS_length z (some n) none
    split
    · exact q _ (by decide)
    split
    · refine ⟨by omega, _, rfl, .inr ⟨_, rfl, by decide, by decide, fun c _ => ?_⟩⟩
      walk_at "zs"
      have := len_one c
      refine ⟨by omega, by omega, by rw [len_app]; omega, q _ (by rw [len_app, len_app]; omega)⟩
    split
    · refine ⟨by decide, by decide, by omega, by rw [show Int.toNat 500 = 500 from rfl]; omega, fun u hu => ?_⟩
      rw [show Int.toNat 500 = 500 from rfl] at hu
      refine ⟨_, _, rfl, by decide, by decide, by decide, by decide, fun m h6 h7 => ?_⟩
      walk_at "zs"
      have c3 := cutS_length u none (some (9 + m))
      exact ⟨by omega, q _ (by omega)⟩
    · exact ⟨rfl, fun z hz => q z (by omega)⟩
end
end K97

set_option maxHeartbeats 4000000
namespace K97
set_option autoImplicit false
open PySem PySem.Spec PyProof.Rows L2 L2H Z
section
variable {P : Program} {w : World} {K : PySem.W.Frag} {mg : Str → Option Value} {base : Heap}
def s__law_is_name : Sp2 := fun ds Q _ => ∃ d t, ds = [d] ∧ tgD d = some t ∧ (∀ z, d = .str z → z.length ≤ sizeLine) ∧ Q (.val (.bl (nmD d)))
def s__law_words : Sp2 := fun ds Q _ => ∃ z, ds = [.str z] ∧ z.length ≤ 100000 ∧ Q (.own (.lst (posL (sp z) 1)))
theorem sc__law_words : FnScope ["_law_row", "_law_found", "_law_at", "_law_word"] ["_law_row"] (defScope (topS 46)) := ⟨rfl, rfl, rfl, by decide +kernel, rfl, by decide +kernel, by decide +kernel⟩
theorem ok__law_words (F : DefAt K mg "_law_words" (topS 46) ["_law_row"]) (m_len : mg "len" = none) : Cal P w K mg base "_law_words" 1 false s__law_words := by
  refine cal_of F sc__law_words (fun ds Q R h => ?_) fun f cdv A outer s H E tk pown hr => ⟨_, (pss2_cons (ps2_set 1 sc__law_words.nd (pe2_lst pa2_nil))
      (pss2_cons (ps2_set 2 sc__law_words.nd pe2_int)
      (pss2_cons (ps2_for pown rfl (pi2_list (.of (pe2_split (pb2_name 0) (.of pe2_str)))) (pg2_name 3 sc__law_words.nd) (pss2_cons (ps2_expr (pe2_mut1 1 PySem.F.slot_list_append PySem.F.type_list_append mt_append mut1_append (.of (pe2_tup (pa2_cons (pv2_name 3) (pa2_cons (pv2_name 2) pa2_nil))))))
      (pss2_one (ps2_set 2 sc__law_words.nd (pe2_op o_add (.of (pe2_op o_add (pb2_name 2) (.of (pe2_callB f_len m_len (pl2_cons (pb2_name 3) pl2_nil))))) (.of pe2_int))))))
      (pss2_one (ps2_ret (pe2_move 1)))))), fun ds Q R h => ?_⟩
  · obtain ⟨z, rfl, _⟩ := h; rfl
  · obtain ⟨z, rfl, h0, q⟩ := h
    show wSeq _ _ _ _ [.sh (.str z), .un, .un, .un]
    clear F tk pown hr
    have hsz := sizeLine_eq
    have hcnt := sp_cnt z
    walk_at "zs"
    refine ⟨by omega, z, rfl, by decide, by omega, ?_⟩
    rw [show Txt.split z (Str.ofString " ") = sp z from rfl]
    refine wFor_of (fun i ρ => ∃ (acc : List D) (p : Int) (x : Sl), ρ = [.sh (.str z), .ow (.lst acc), .sh (.int p), x] ∧ acc.length = i ∧ posL (sp z) 1 = acc ++ posL ((sp z).drop i) p) ⟨_, _, _, rfl, rfl, rfl⟩ (fun i d hd nx hnx ρ hρ => ?_) (fun ρ hρ => ?_)
    · obtain ⟨acc, p, x, rfl, hl, e⟩ := hρ
      rw [List.getElem?_map] at hd
      cases hw : (sp z)[i]? with
      | none => rw [hw] at hd; cases hd
      | some wd =>
        rw [hw] at hd
        cases hd
        have hi : i < (sp z).length := (List.getElem?_eq_some_iff.mp hw).1
        have hwl := sp_len (List.mem_of_getElem? hw)
        have dt : (sp z).drop i = wd :: (sp z).drop (i + 1) := by rw [List.drop_eq_getElem_cons hi, (List.getElem?_eq_some_iff.mp hw).2]
        rw [dt] at e
        walk_at "zs"
        refine ⟨by omega, by omega, by omega, hnx _ ⟨_, _, _, rfl, by rw [List.length_append, hl]; rfl, ?_⟩⟩
        rw [e, List.append_assoc]
        rfl
    · obtain ⟨acc, p, x, rfl, hl, e⟩ := hρ
      rw [List.length_map, List.drop_length] at e
      have e : posL (sp z) 1 = acc ++ [] := e
      rw [List.append_nil] at e
      walk_at "zs"
      rw [← e]
      exact q
theorem sc__law_is_name : FnScope ["_law_value", "_law_sign_here"] ["_law_value"] (defScope (topS 43)) := ⟨rfl, rfl, rfl, by decide +kernel, rfl, by decide +kernel, by decide +kernel⟩
theorem ok__law_is_name (F : DefAt K mg "_law_is_name" (topS 43) ["_law_value"]) (m_len : mg "len" = none) (m_isinstance : mg "isinstance" = none) (m_str : mg "str" = none) (m_all : mg "all" = none) : Cal P w K mg base "_law_is_name" 1 false s__law_is_name := by
  refine cal_of F sc__law_is_name (fun ds Q R h => ?_) fun f cdv A outer s H E tk pown hr => ⟨_, (pss2_cons (ps2_if ((pw2_or (pt2_not (pt2_val (pe2_callB f_isi m_isinstance (pl2_cons (pb2_name 0) (pl2_cons (.of (pe2_ty .str m_str)) pl2_nil))))) (pw2_or (pt2_cmp o_lt (.of (pe2_callB f_len m_len (pl2_cons (pb2_name 0) pl2_nil))) (.of pe2_int)) (pw2_or1 (pt2_cmp o_gt (.of (pe2_callB f_len m_len (pl2_cons (pb2_name 0) pl2_nil))) (.of pe2_int)))))).pt (pss2_one (ps2_ret pe2_bl)) pss2_nil)
      (pss2_cons (ps2_if (pt2_cmp (o_notin hr.units) (.of (pe2_ix (pb2_name 0) (.of pe2_int))) (.of pe2_str)) (pss2_one (ps2_ret pe2_bl)) pss2_nil)
      (pss2_one (ps2_ret (pe2_callB (f_all rfl) m_all (pl2_cons (.of (pe2_lc (own := [("_law_sign_here", 1)]) rfl sc__law_is_name.nd (pi2_str (pb2_name 0)) (blkOk_by (own := [("_law_sign_here", 1)]) (by kernel_rfl)) (fun _ _ _ _ _ => (pg2_name 1 sc__law_is_name.nd)) (fun _ _ _ _ _ => pts2_nil) (fun _ _ _ _ _ => (.of (pe2_cmp (o_in hr.units) (pb2_name 1) (.of pe2_str)))))) pl2_nil)))))), fun ds Q R h => ?_⟩
  · obtain ⟨z, t, rfl, _⟩ := h; rfl
  · obtain ⟨d, t, rfl, ht, hz, q⟩ := h
    show wSeq _ _ _ _ [.sh d, .un]
    cases d with
    | str z =>
      have hl := len_toList z
      have hz' := hz z rfl
      have hg := sgB_all z
      change Q (.val (.bl (nmL z.cps.toList))) at q
      walk_at "zs"
      refine ⟨hz', ?_⟩
      cases e : z.cps.toList with
      | nil =>
        rw [e] at hl q
        rw [if_pos (by rw [decide_eq_true_eq]; simp at hl; omega)]
        exact q
      | cons c l =>
        rw [e] at hl q hg
        simp only [List.length_cons] at hl
        rw [if_neg (by rw [decide_eq_true_eq]; omega)]
        refine ⟨hz', ?_⟩
        by_cases h8 : l.length < 8
        · rw [if_neg (by rw [decide_eq_true_eq]; omega)]
          refine ⟨hz', ?_⟩
          rw [atI_zero]
          show if (!decide (c ∈ letS.cps.toList)) = true then _ else _
          by_cases hc : c ∈ letS.cps.toList
          · rw [if_neg (by rw [decide_eq_true hc]; decide)]
            refine lc_map (fun ρ => ∃ s, ρ = [.sh (.str z), s]) (fun d => .bl (sgB d)) ⟨_, rfl⟩ (by rw [signs_len]; exact hz') (fun d hd ρ hρ k hk => ?_) fun ρ hρ => ?_
            · obtain ⟨s, rfl⟩ := hρ
              obtain ⟨c', _, rfl⟩ := signs_mem hd
              walk_at "zs"
              exact hk _ ⟨_, rfl⟩
            · show match boolsD ((signsD z).map fun d => .bl (sgB d)) with
                | some bs => Q (.val (.bl (bs.all id)))
                | none => False
              rw [bools_map sgB]
              show Q (.val (.bl (((signsD z).map sgB).all id)))
              rw [hg]
              have : nmL (c :: l) = (c :: l).all fun s => decide (s ∈ ldS.cps.toList) := by
                rw [nmL_cons]
                rw [decide_eq_true h8, decide_eq_true hc, Bool.true_and, Bool.true_and]
              rw [this] at q
              exact q
          · rw [if_pos (by rw [decide_eq_false hc]; decide)]
            have : nmL (c :: l) = false := by
              rw [nmL_cons]
              rw [decide_eq_false hc, Bool.false_and, Bool.and_false]
            rw [this] at q
            exact q
        · rw [if_pos (by rw [decide_eq_true_eq]; omega)]
          have : nmL (c :: l) = false := by
            rw [nmL_cons]
            rw [decide_eq_false h8, Bool.false_and]
          rw [this] at q
          exact q
    | _ => first | exact q | cases ht
def s__law_row_form : Sp2 := fun ds Q _ => ∃ w, ds = [.str w] ∧ w.length ≤ 100000 ∧ Q (.val (.str (formO w)))
theorem sc__law_row_form : FnScope ["_law_kind", "_law_forms"] ["_law_kind"] (defScope (topS 48)) := ⟨rfl, rfl, rfl, by decide +kernel, rfl, by decide +kernel, by decide +kernel⟩
theorem ok__law_row_form (F : DefAt K mg "_law_row_form" (topS 48) ["_law_kind"])  : Cal P w K mg base "_law_row_form" 1 false s__law_row_form := by
  refine cal_of F sc__law_row_form (fun ds Q R h => ?_) fun f cdv A outer s H E tk pown hr => ⟨_, (pss2_cons (ps2_set 1 sc__law_row_form.nd (pe2_disp (.ss (.ss (.ss (.ss (.ss (.ss (.ss .nil))))))) (by decide)))
      (pss2_cons (ps2_dset 1 hr.units (.of pe2_str) (.of pe2_str))
      (pss2_cons (ps2_dset 1 hr.units (.of pe2_str) (.of pe2_str))
      (pss2_cons (ps2_dset 1 hr.units (.of pe2_str) (.of pe2_str))
      (pss2_one (ps2_ret (pe2_dget2 hr.units (pb2_name 1) (pb2_name 0) (.of pe2_str)))))))), fun ds Q R h => ?_⟩
  · obtain ⟨z, rfl, _⟩ := h; rfl
  · obtain ⟨w, rfl, hw, q⟩ := h
    show wSeq _ _ _ _ [.sh (.str w), .un]
    clear F tk pown hr
    walk_at "zs"
    refine ⟨⟨_, _, rfl⟩, _, rfl, by rw [sizeLine_eq]; decide, ⟨_, _, rfl⟩, _, rfl, by rw [sizeLine_eq]; decide, ⟨_, _, rfl⟩, _, rfl, by rw [sizeLine_eq]; decide, ?_⟩
    refine ⟨⟨_, _, rfl⟩, trivial, _, rfl, ?_⟩
    rw [putA8, put8, putA9, put9, putA10, put10]
    show Q (.val ((look fK fV (.inr w)).getD (.str "")))
    rw [look_form]
    exact q
end
end K97

set_option maxHeartbeats 4000000
namespace K97
set_option autoImplicit false
open PySem PySem.Spec PyProof.Rows L2 L2H Z
section
variable {P : Program} {w : World} {K : PySem.W.Frag} {mg : Str → Option Value} {base : Heap}
theorem posL_at {ws : List Str} {p : Int} {k : Nat} (h : k < ws.length) : atI (posL ws p) (k : Int) = some (.tup [.str ws[k], .int (pAt ws p k)]) := by
  rw [atI_nat (by rw [posL_len]; exact h)]
  have := posL_get ws p k h
  rw [List.getElem?_eq_getElem (by rw [posL_len]; exact h)] at this
  exact this
theorem atI_one {a b : D} : atI [a, b] 1 = some b := atI_nat (xs := [a, b]) (i := 1) (by simp)
def s__law_row_fault : Sp2 := fun ds Q _ => ∃ (z : Str) (n : Nat) (gs : List Bool), ds = [.str z, .int n, .lst (gs.map D.bl)] ∧ z.length ≤ 100000 ∧ n ≤ 100 ∧ min (sp z).length n ≤ gs.length ∧ Q (.val (optD (rf (sp z) 1 n gs z.length)))
theorem sc__law_row_fault : FnScope ["_law_row", "_law_needed", "_law_good", "_law_words_here", "_law_k"] ["_law_row", "_law_needed", "_law_good"] (defScope (topS 47)) := ⟨rfl, rfl, rfl, by decide +kernel, rfl, by decide +kernel, by decide +kernel⟩
theorem ok__law_row_fault (F : DefAt K mg "_law_row_fault" (topS 47) ["_law_row", "_law_needed", "_law_good"]) (c__law_words : Cal P w K mg base "_law_words" 1 false s__law_words) (m_range : mg "range" = none) (m_min : mg "min" = none) (m_len : mg "len" = none) : Cal P w K mg base "_law_row_fault" 2 false s__law_row_fault := by
  refine cal_of F sc__law_row_fault (fun ds Q R h => ?_) fun f cdv A outer s H E tk pown hr => ⟨_, (pss2_cons (ps2_set 3 sc__law_row_fault.nd (pe2_fn tk c__law_words (hr.mono (by decide)) (pa2_cons (pv2_name 0) pa2_nil)))
      (pss2_cons (ps2_for pown rfl (pi2_range1 m_range (.of (pe2_callB (f_min2 rfl) m_min (pl2_cons (.of (pe2_callB f_len m_len (pl2_cons (pb2_name 3) pl2_nil))) (pl2_cons (pb2_name 1) pl2_nil))))) (pg2_name 4 sc__law_row_fault.nd) (pss2_one (ps2_if (pt2_not (pt2_tru (.of (pe2_ix (pb2_name 2) (pb2_name 4))))) (pss2_one (ps2_ret (pe2_ix (.of (pe2_ix (pb2_name 3) (pb2_name 4))) (.of pe2_int)))) pss2_nil)))
      (pss2_cons (ps2_if (pt2_cmp o_lt (.of (pe2_callB f_len m_len (pl2_cons (pb2_name 3) pl2_nil))) (pb2_name 1)) (pss2_one (ps2_ret (pe2_op o_add (.of (pe2_callB f_len m_len (pl2_cons (pb2_name 0) pl2_nil))) (.of pe2_int)))) pss2_nil)
      (pss2_cons (ps2_if (pt2_cmp o_gt (.of (pe2_callB f_len m_len (pl2_cons (pb2_name 3) pl2_nil))) (pb2_name 1)) (pss2_one (ps2_ret (pe2_ix (.of (pe2_ix (pb2_name 3) (pb2_name 1))) (.of pe2_int)))) pss2_nil)
      (pss2_one (ps2_ret pe2_non)))))), fun ds Q R h => ?_⟩
  · obtain ⟨z, n, gs, rfl, _⟩ := h; rfl
  · obtain ⟨z, n, gs, rfl, hz, hn, hg, q⟩ := h
    show wSeq _ _ _ _ [.sh (.str z), .sh (.int n), .sh (.lst (gs.map D.bl)), .un, .un]
    clear F tk pown hr
    have hsz := sizeLine_eq
    have hcnt := sp_cnt z
    walk_at "zs"
    refine ⟨_, rfl, hz, ?_⟩
    walk_at "zs"
    rw [posL_len]
    refine ⟨⟨by omega, by omega⟩, ?_⟩
    refine wFor_of (fun i ρ => ∃ (x : Sl), ρ = [.sh (.str z), .sh (.int n), .sh (.lst (gs.map D.bl)), .ow (.lst (posL (sp z) 1)), x] ∧ ∀ k, k < i → gs[k]? = some true) ⟨_, rfl, fun k hk => absurd hk (Nat.not_lt_zero _)⟩ (fun i d hd nx hnx ρ hρ => ?_) (fun ρ hρ => ?_)
    · obtain ⟨x, rfl, hall⟩ := hρ
      obtain ⟨hi, rfl⟩ := rngD_get hd
      have hi1 : i < (sp z).length := by omega
      have hi2 : i < n := by omega
      have hi3 : i < gs.length := by omega
      walk_at "zs"
      rw [Int.zero_add]
      rw [atI_nat (by rw [List.length_map]; exact hi3), List.getElem_map]
      cases hg : gs[i] with
      | true =>
        walk_at "zs"
        refine hnx _ ⟨_, rfl, fun k hk => ?_⟩
        by_cases e : k = i
        · subst e; rw [List.getElem?_eq_getElem hi3, hg]
        · exact hall k (by omega)
      | false =>
        walk_at "zs"
        rw [posL_at hi1]
        show match atI [D.str (sp z)[i], .int (pAt (sp z) 1 i)] 1 with
          | some d => Q (.val d)
          | none => False
        rw [atI_one]
        rw [rf_drop _ i _ _ _ _ (by omega) (by omega) (by omega) hall] at q
        rw [List.drop_eq_getElem_cons hi1, List.drop_eq_getElem_cons hi3, hg] at q
        obtain ⟨m, e⟩ : ∃ m, n - i = m + 1 := ⟨n - i - 1, by omega⟩
        rw [e] at q
        exact q
    · obtain ⟨x, rfl, hall⟩ := hρ
      rw [rngD_len] at hall
      have hm : (min ((sp z).length : Int) (n : Int)).toNat = min (sp z).length n := by omega
      have hm0 : (min ((sp z).length : Int) (n : Int) - 0).toNat = min (sp z).length n := by omega
      simp only [hm, hm0] at hall
      rw [rf_drop _ (min (sp z).length n) _ _ _ _ (by omega) (by omega) (by omega) hall, rf_end] at q
      walk_at "zs"
      simp only [posL_len]
      by_cases h1 : (sp z).length < n
      · rw [if_pos (by rw [decide_eq_true_eq]; omega)]
        rw [if_pos h1] at q
        exact ⟨by omega, q⟩
      · rw [if_neg (by rw [decide_eq_true_eq]; omega)]
        rw [if_neg h1] at q
        by_cases h2 : n < (sp z).length
        · rw [if_pos (by rw [decide_eq_true_eq]; omega)]
          rw [if_pos h2] at q
          rw [posL_at h2]
          show match atI [D.str (sp z)[n], .int (pAt (sp z) 1 n)] 1 with
            | some d => Q (.val d)
            | none => False
          rw [atI_one]
          exact q
        · rw [if_neg (by rw [decide_eq_true_eq]; omega)]
          rw [if_neg h2] at q
          exact q
end
end K97

set_option maxHeartbeats 4000000
namespace K97
set_option autoImplicit false
open PySem PySem.Spec PyProof.Rows L2 L2H Z
section
variable {P : Program} {w : World} {K : PySem.W.Frag} {mg : Str → Option Value} {base : Heap}
def rrD (z : Str) : D := match rrW (sp z) z.length with
  | .inl p => .tup [.str "bad", .int p]
  | .inr vs => .tup [.str "row", .tup vs]
def s__law_read_row : Sp2 := fun ds Q _ => ∃ z, ds = [.str z] ∧ z.length ≤ 100000 ∧ Q (.val (rrD z))
theorem take_succ_map {α β : Type} (f : α → β) (l : List α) (i : Nat) (h : i < l.length) : (l.take (i + 1)).map f = (l.take i).map f ++ [f l[i]] := by
  rw [List.take_succ_eq_append_getElem h, List.map_append]; rfl
theorem sc__law_read_row : FnScope ["_law_text_here", "_law_words_here", "_law_form", "_law_good", "_law_found", "_law_k", "_law_word", "_law_right", "_law_place"] ["_law_text_here"] (defScope (topS 49)) := ⟨rfl, rfl, rfl, by decide +kernel, rfl, by decide +kernel, by decide +kernel⟩
theorem ok__law_read_row (F : DefAt K mg "_law_read_row" (topS 49) ["_law_text_here"]) (c__law_words : Cal P w K mg base "_law_words" 1 false s__law_words) (c__law_row_form : Cal P w K mg base "_law_row_form" 1 false s__law_row_form) (m_len : mg "len" = none) (m_range : mg "range" = none) (m_min : mg "min" = none) (c__law_is_name : Cal P w K mg base "_law_is_name" 1 false s__law_is_name) (m_int : mg "int" = none) (c__law_row_fault : Cal P w K mg base "_law_row_fault" 2 false s__law_row_fault) (m_tuple : mg "tuple" = none) : Cal P w K mg base "_law_read_row" 3 false s__law_read_row := by
  refine cal_of F sc__law_read_row (fun ds Q R h => ?_) fun f cdv A outer s H E tk pown hr => ⟨_, (pss2_cons (ps2_setLc 1 (own := [("_law_word", 6)]) rfl sc__law_read_row.nd (sw_true rfl rfl rfl (by decide +kernel)) (pi2_list (.of (pe2_fn tk c__law_words (hr.mono (by decide)) (pa2_cons (pv2_name 0) pa2_nil)))) (blkOk_by (own := [("_law_word", 6)]) (by kernel_rfl)) (fun _ _ _ _ _ => (pg2_name 6 sc__law_read_row.nd)) (fun _ _ _ _ _ => pts2_nil) (fun _ _ _ _ _ => (.of (pe2_ix (pb2_name 6) (.of pe2_int)))))
      (pss2_cons (ps2_set 2 sc__law_read_row.nd (pe2_fn tk c__law_row_form (hr.mono (by decide)) (pa2_cons (.of (pe2_ix (pb2_name 1) (.of pe2_int))) pa2_nil)))
      (pss2_cons (ps2_set 3 sc__law_read_row.nd (pe2_lst (pa2_cons (.of (pe2_cmp o_gt (.of (pe2_callB f_len m_len (pl2_cons (pb2_name 2) pl2_nil))) (.of pe2_int))) pa2_nil)))
      (pss2_cons (ps2_set 4 sc__law_read_row.nd (pe2_lst (pa2_cons (.of (pe2_ix (pb2_name 1) (.of pe2_int))) pa2_nil)))
      (pss2_cons (ps2_for pown rfl (pi2_range1 m_range (.of (pe2_callB (f_min2 rfl) m_min (pl2_cons (.of (pe2_callB f_len m_len (pl2_cons (pb2_name 2) pl2_nil))) (pl2_cons (.of (pe2_op o_sub (.of (pe2_callB f_len m_len (pl2_cons (pb2_name 1) pl2_nil))) (.of pe2_int))) pl2_nil))))) (pg2_name 5 sc__law_read_row.nd) (pss2_cons (ps2_set 6 sc__law_read_row.nd (pe2_ix (pb2_name 1) (.of (pe2_op o_add (pb2_name 5) (.of pe2_int)))))
      (pss2_one (ps2_if (pt2_cmp (o_eq hr.units) (.of (pe2_ix (pb2_name 2) (pb2_name 5))) (.of pe2_str)) (pss2_cons (ps2_expr (pe2_mut1 3 PySem.F.slot_list_append PySem.F.type_list_append mt_append mut1_append (.of (pe2_fn tk c__law_is_name (hr.mono (by decide)) (pa2_cons (pv2_name 6) pa2_nil)))))
      (pss2_one (ps2_expr (pe2_mut1 4 PySem.F.slot_list_append PySem.F.type_list_append mt_append mut1_append (pv2_name 6))))) (pss2_cons (ps2_set 7 sc__law_read_row.nd (pe2_or (pe2_cmp (o_in hr.units) (pb2_name 6) (.of (pe2_lst (pa2_cons (.of pe2_str) (pa2_cons (.of pe2_str) (pa2_cons (.of pe2_str) (pa2_cons (.of pe2_str) pa2_nil))))))) (pe2_one (pe2_and (pe2_cmp (o_eq hr.units) (pb2_name 6) (.of pe2_str)) (pe2_one (pe2_cmp (o_eq hr.units) (.of (pe2_ix (pb2_name 2) (pb2_name 5))) (.of pe2_str)))))))
      (pss2_cons (ps2_expr (pe2_mut1 3 PySem.F.slot_list_append PySem.F.type_list_append mt_append mut1_append (pv2_name 7)))
      (pss2_one (ps2_if (pt2_tru (pb2_name 7)) (pss2_one (ps2_expr (pe2_mut1 4 PySem.F.slot_list_append PySem.F.type_list_append mt_append mut1_append (.of (pe2_callTy f_intS m_int (pl2_cons (pb2_name 6) pl2_nil)))))) pss2_nil))))))))
      (pss2_cons (ps2_set 8 sc__law_read_row.nd (pe2_fn tk c__law_row_fault (hr.mono (by decide)) (pa2_cons (pv2_name 0) (pa2_cons (.of (pe2_op o_add (.of pe2_int) (.of (pe2_callB f_len m_len (pl2_cons (pb2_name 2) pl2_nil))))) (pa2_cons (pv2_name 3) pa2_nil)))))
      (pss2_cons (ps2_if (pt2_cmp o_isnot (pb2_name 8) (.of pe2_non)) (pss2_one (ps2_ret (pe2_tup (pa2_cons (.of pe2_str) (pa2_cons (pv2_name 8) pa2_nil))))) pss2_nil)
      (pss2_one (ps2_ret (pe2_tup (pa2_cons (.of pe2_str) (pa2_cons (.of (pe2_callTy f_tuple m_tuple (pl2_cons (pb2_name 4) pl2_nil))) pa2_nil)))))))))))), fun ds Q R h => ?_⟩
  · obtain ⟨z, rfl, _⟩ := h; rfl
  · obtain ⟨z, rfl, hz, q⟩ := h
    show wSeq _ _ _ _ [.sh (.str z), .un, .un, .un, .un, .un, .un, .un, .un]
    clear F tk pown hr
    have hsz := sizeLine_eq
    have hcnt := sp_cnt z
    obtain ⟨w0, t, hsp⟩ := sp_ne z
    have hlen : ∀ w ∈ w0 :: t, w.length ≤ z.length := fun w hw => sp_len (by rw [hsp]; exact hw)
    (refine Z.seq_of fun M hM => ?_; conv => whnf)
    refine ⟨_, rfl, hz, ?_⟩
    (conv => whnf)
    refine lc_mapE (fun ρ => ∃ x : Sl, ρ = [.sh (.str z), .un, .un, .un, .un, .un, x, .un, .un]) fst0 ⟨_, rfl⟩ (by rw [posL_len]; omega) (show (posL (sp z) 1).map fst0 = (w0 :: t).map D.str by rw [posL_fst, hsp]) (fun d hd ρ hρ k hk => ?_) fun ρ hρ => ?_
    · obtain ⟨x, rfl⟩ := hρ
      obtain ⟨w, q, rfl⟩ := posL_mem hd
      (conv => whnf)
      exact hk _ ⟨_, rfl⟩
    · obtain ⟨x, rfl⟩ := hρ
      (refine hM _ ?_; clear hM M; refine Z.seq_of fun M hM => ?_; conv => whnf)
      rw [show atI (List.map D.str (w0 :: t)) 0 = some (D.str w0) from atI_zero]
      (conv => whnf)
      refine ⟨w0, rfl, by have := hlen w0 List.mem_cons_self; omega, ?_⟩
      (conv => whnf)
      (refine hM _ ?_; clear hM M; refine Z.seq_of fun M hM => ?_; conv => whnf)
      have hkl := ksO_len w0
      have hfl := formO_l w0
      refine ⟨by omega, ?_⟩
      (conv => whnf)
      refine ⟨sz_of (by simp), ?_⟩
      (refine hM _ ?_; clear hM M; refine Z.seq_of fun M hM => ?_; conv => whnf)
      rw [show atI (List.map D.str (w0 :: t)) 0 = some (D.str w0) from atI_zero]
      (conv => whnf)
      refine ⟨sz_of (by simp), ?_⟩
      (refine hM _ ?_; clear hM M; refine Z.seq_of fun M hM => ?_; conv => whnf)
      refine ⟨by omega, ?_⟩
      (conv => whnf)
      rw [hfl, show ((List.map D.str (w0 :: t)).length : Int) = (t.length : Int) + 1 by rw [List.length_map, List.length_cons]; omega]
      have hm : (min ((ksO w0).length : Int) ((t.length : Int) + 1 - 1)) = ((min (ksO w0).length t.length : Nat) : Int) := by omega
      rw [hm]
      refine ⟨⟨by omega, by omega⟩, ?_⟩
      refine wFor_of (fun i ρ => ∃ x5 x6 x7 x8 : Sl, ρ = [.sh (.str z), .ow (.lst ((w0 :: t).map D.str)), .sh (.str (formO w0)), .ow (.lst ((decide (0 < (ksO w0).length) :: ((t.zip (ksO w0)).take i).map goodR).map D.bl)), .ow (.lst (.str w0 :: ((t.zip (ksO w0)).take i).filterMap fndR)), x5, x6, x7, x8]) ?_ (fun i d hd nx hnx ρ hρ => ?_) (fun ρ hρ => ?_)
      · refine ⟨.un, .un, .un, .un, ?_⟩
        show ([.sh (.str z), .ow (.lst ((w0 :: t).map D.str)), .sh (.str (formO w0)), .ow (.lst [.bl (decide (0 < ((ksO w0).length : Int)))]), .ow (.lst [.str w0]), .un, .un, .un, .un] : List Sl) = _
        rw [show decide (0 < ((ksO w0).length : Int)) = decide (0 < (ksO w0).length) by rw [Bool.eq_iff_iff, decide_eq_true_eq, decide_eq_true_eq]; omega]
        rfl
      · obtain ⟨x5, x6, x7, x8, rfl⟩ := hρ
        obtain ⟨hi, rfl⟩ := rngD_get hd
        have h1 : i < (ksO w0).length := by omega
        have h2 : i < t.length := by omega
        rw [Int.zero_add]
        refine Z.seq_of fun M' hM' => ?_
        conv => whnf
        have e1 : atI (List.map D.str (w0 :: t)) ((i : Int) + 1) = some (.str t[i]) := by
          rw [show ((i : Int) + 1) = ((i + 1 : Nat) : Int) by omega, Z.atI_nat (by rw [List.length_map, List.length_cons]; omega), List.getElem_map]
          rfl
        rw [e1]
        (conv => whnf)
        refine hM' _ ?_
        clear hM' M'
        refine if_of fun A B hA hB => ?_
        (conv => whnf)
        have e2 : atI (formO w0).cps.toList (i : Int) = some (kdC (ksO w0)[i]) := by
          have := formO_signs w0
          rw [Z.atI_nat (by rw [this, List.length_map]; exact h1)]
          simp only [this, List.getElem_map]
        refine ⟨by omega, ?_⟩
        rw [e2]
        have hz : (t.zip (ksO w0)).length = min t.length (ksO w0).length := List.length_zip
        have hzi : i < (t.zip (ksO w0)).length := by omega
        have ez : (t.zip (ksO w0))[i] = (t[i], (ksO w0)[i]) := List.getElem_zip
        have tk : (t.zip (ksO w0)).take (i + 1) = (t.zip (ksO w0)).take i ++ [(t[i], (ksO w0)[i])] := by rw [List.take_succ_eq_append_getElem hzi, ez]
        have hwl := hlen t[i] (List.mem_cons_of_mem _ (List.getElem_mem h2))
        have ltk : (List.take i (t.zip (ksO w0))).length ≤ i := List.length_take_le _ _
        have lfm := List.length_filterMap_le fndR (List.take i (t.zip (ksO w0)))
        cases hk : (ksO w0)[i] with
        | n =>
          (conv => whnf)
          refine hA _ ?_
          (conv => whnf)
          refine ⟨_, .str, rfl, rfl, fun z e => (by cases e; omega), ?_⟩
          (conv => whnf)
          refine ⟨sz_lt (by simp; omega), ?_⟩
          (conv => whnf)
          refine ⟨sz_lt (by rw [List.length_cons]; omega), ?_⟩
          refine hnx _ ⟨.sh (.int i), .sh (.str t[i]), x7, x8, ?_⟩
          rw [tk, hk, List.map_append, ← List.cons_append, List.map_append, List.filterMap_append, ← List.cons_append]
          have : goodR (t[i], Kd.n) = nmD (.str t[i]) := by
            show (valO .n t[i]).isSome = nmL (t[i]).cps.toList
            rw [valO_n]
            cases nmL (t[i]).cps.toList <;> rfl
          rw [List.map_singleton, this]
          rfl
        | c =>
          (conv => whnf)
          refine hB _ ?_
          refine seq_of fun M' hM' => ?_
          (conv => whnf)
          refine ⟨sz_of (by simp), ?_⟩
          (conv => whnf)
          rw [dig_any]
          have hv : goodR (t[i], Kd.c) = (dig (t[i]).cps.toList 4).isSome := by
            show ((dig (t[i]).cps.toList 4).map fun (d : Nat) => D.int (d : Int)).isSome = _
            cases dig (t[i]).cps.toList 4 <;> rfl
          have hf : fndR (t[i], Kd.c) = (dig (t[i]).cps.toList 4).map fun (d : Nat) => D.int (d : Int) := rfl
          have tail : ∀ b : Bool, b = (dig (t[i]).cps.toList 4).isSome → M' [.sh (.str z), .ow (.lst ((w0 :: t).map D.str)), .sh (.str (formO w0)), .ow (.lst ((decide (0 < (ksO w0).length) :: ((t.zip (ksO w0)).take i).map goodR).map D.bl)), .ow (.lst (.str w0 :: ((t.zip (ksO w0)).take i).filterMap fndR)), .sh (.int i), .sh (.str t[i]), .sh (.bl b), x8] := fun b hb => by
            refine hM' _ ?_
            refine seq_of fun M2 hM2 => ?_
            (conv => whnf)
            refine ⟨sz_lt (by simp; omega), ?_⟩
            (conv => whnf)
            refine hM2 _ ?_
            (conv => whnf)
            cases hd : dig (t[i]).cps.toList 4 with
            | none =>
              rw [hd] at hb hv hf
              have hb : b = false := hb
              subst hb
              (conv => whnf)
              refine hnx _ ⟨.sh (.int i), .sh (.str t[i]), .sh (.bl false), x8, ?_⟩
              rw [tk, hk, List.map_append, ← List.cons_append, List.map_append, List.filterMap_append, ← List.cons_append, List.map_singleton, hv, List.filterMap_cons, hf]
              simp only [Option.map_none, List.filterMap_nil, List.append_nil]
              rfl
            | some d =>
              rw [hd] at hb hv hf
              have hb : b = true := hb
              subst hb
              (conv => whnf)
              obtain ⟨he, hd9⟩ := dig_some hd
              refine ⟨(d : Int), (int_dig he (by omega)).1, by rw [← len_toList, he]; simp, ?_⟩
              (conv => whnf)
              refine ⟨sz_lt (by rw [List.length_cons]; omega), ?_⟩
              (conv => whnf)
              refine hnx _ ⟨.sh (.int i), .sh (.str t[i]), .sh (.bl true), x8, ?_⟩
              rw [tk, hk, List.map_append, ← List.cons_append, List.map_append, List.filterMap_append, ← List.cons_append, List.map_singleton, hv, List.filterMap_cons, hf]
              rfl
          have h4 := dig_four t[i]
          cases h3 : (dig (t[i]).cps.toList 3).isSome with
          | true =>
            rw [h3, Bool.true_or] at h4
            (conv => whnf)
            exact tail true h4
          | false =>
            rw [h3, Bool.false_or] at h4
            (conv => whnf)
            cases hq : decide (t[i] = Str.ofString "4") with
            | true =>
              replace hq : decide (t[i] = "4") = true := hq
              rw [hq] at h4
              (conv => whnf)
              refine ⟨by omega, ?_⟩
              rw [e2, hk]
              (conv => whnf)
              exact tail true h4
            | false =>
              replace hq : decide (t[i] = "4") = false := hq
              rw [hq] at h4
              (conv => whnf)
              exact tail false h4
        | m =>
          (conv => whnf)
          refine hB _ ?_
          refine seq_of fun M' hM' => ?_
          (conv => whnf)
          refine ⟨sz_of (by simp), ?_⟩
          (conv => whnf)
          rw [dig_any]
          have hv : goodR (t[i], Kd.m) = (dig (t[i]).cps.toList 3).isSome := by
            show ((dig (t[i]).cps.toList 3).map fun (d : Nat) => D.int (d : Int)).isSome = _
            cases dig (t[i]).cps.toList 3 <;> rfl
          have hf : fndR (t[i], Kd.m) = (dig (t[i]).cps.toList 3).map fun (d : Nat) => D.int (d : Int) := rfl
          have tail : ∀ b : Bool, b = (dig (t[i]).cps.toList 3).isSome → M' [.sh (.str z), .ow (.lst ((w0 :: t).map D.str)), .sh (.str (formO w0)), .ow (.lst ((decide (0 < (ksO w0).length) :: ((t.zip (ksO w0)).take i).map goodR).map D.bl)), .ow (.lst (.str w0 :: ((t.zip (ksO w0)).take i).filterMap fndR)), .sh (.int i), .sh (.str t[i]), .sh (.bl b), x8] := fun b hb => by
            refine hM' _ ?_
            refine seq_of fun M2 hM2 => ?_
            (conv => whnf)
            refine ⟨sz_lt (by simp; omega), ?_⟩
            (conv => whnf)
            refine hM2 _ ?_
            (conv => whnf)
            cases hd : dig (t[i]).cps.toList 3 with
            | none =>
              rw [hd] at hb hv hf
              have hb : b = false := hb
              subst hb
              (conv => whnf)
              refine hnx _ ⟨.sh (.int i), .sh (.str t[i]), .sh (.bl false), x8, ?_⟩
              rw [tk, hk, List.map_append, ← List.cons_append, List.map_append, List.filterMap_append, ← List.cons_append, List.map_singleton, hv, List.filterMap_cons, hf]
              simp only [Option.map_none, List.filterMap_nil, List.append_nil]
              rfl
            | some d =>
              rw [hd] at hb hv hf
              have hb : b = true := hb
              subst hb
              (conv => whnf)
              obtain ⟨he, hd9⟩ := dig_some hd
              refine ⟨(d : Int), (int_dig he (by omega)).1, by rw [← len_toList, he]; simp, ?_⟩
              (conv => whnf)
              refine ⟨sz_lt (by rw [List.length_cons]; omega), ?_⟩
              (conv => whnf)
              refine hnx _ ⟨.sh (.int i), .sh (.str t[i]), .sh (.bl true), x8, ?_⟩
              rw [tk, hk, List.map_append, ← List.cons_append, List.map_append, List.filterMap_append, ← List.cons_append, List.map_singleton, hv, List.filterMap_cons, hf]
              rfl
          cases h3 : (dig (t[i]).cps.toList 3).isSome with
          | true =>
            (conv => whnf)
            exact tail true h3.symm
          | false =>
            (conv => whnf)
            cases hq : decide (t[i] = Str.ofString "4") with
            | true =>
              (conv => whnf)
              refine ⟨by omega, ?_⟩
              rw [e2, hk]
              (conv => whnf)
              exact tail false h3.symm
            | false =>
              (conv => whnf)
              exact tail false h3.symm
      · obtain ⟨x5, x6, x7, x8, rfl⟩ := hρ
        have hl : (rngD 0 (((min (ksO w0).length t.length : Nat) : Int)).toNat).length = (t.zip (ksO w0)).length := by
          rw [rngD_len, List.length_zip]; omega
        rw [hl, List.take_length]
        (refine hM _ ?_; clear hM M; refine Z.seq_of fun M hM => ?_; conv => whnf)
        refine ⟨by omega, ?_⟩
        (conv => whnf)
        refine ⟨z, 1 + (ksO w0).length, decide (0 < (ksO w0).length) :: (t.zip (ksO w0)).map goodR, ?_, hz, by omega, ?_, ?_⟩
        · rw [hfl]
          rw [show (1 : Int) + ((ksO w0).length : Int) = ((1 + (ksO w0).length : Nat) : Int) by omega]
        · rw [hsp, List.length_cons, List.length_cons, List.length_map, List.length_zip]; omega
        · (conv => whnf)
          have hlaw := rrW_law w0 t z.length
          have hq : rrD z = match rf (sp z) 1 (1 + (ksO w0).length) (decide (0 < (ksO w0).length) :: (t.zip (ksO w0)).map goodR) z.length with
            | some p => .tup [.str "bad", .int p]
            | none => .tup [.str "row", .tup (.str w0 :: (t.zip (ksO w0)).filterMap fndR)] := by
            unfold rrD
            rw [hsp, hlaw]
            cases rf (w0 :: t) 1 (1 + (ksO w0).length) (decide (0 < (ksO w0).length) :: (t.zip (ksO w0)).map goodR) z.length <;> rfl
          rw [hq] at q
          cases hrf : rf (sp z) 1 (1 + (ksO w0).length) (decide (0 < (ksO w0).length) :: (t.zip (ksO w0)).map goodR) z.length with
          | some p =>
            rw [hrf] at q
            (refine hM _ ?_; clear hM M; refine Z.seq_of fun M hM => ?_; conv => whnf)
            refine ⟨rfl, ?_⟩
            (conv => whnf)
            exact ⟨sz_of (by simp), q⟩
          | none =>
            rw [hrf] at q
            (refine hM _ ?_; clear hM M; refine Z.seq_of fun M hM => ?_; conv => whnf)
            refine ⟨rfl, ?_⟩
            (conv => whnf)
            refine hM _ ?_
            (conv => whnf)
            exact ⟨sz_of (by simp), q⟩
end
end K97

set_option maxHeartbeats 4000000
namespace K97
set_option autoImplicit false
open PySem PySem.Spec PyProof.Rows L2 L2H Z
section
variable {P : Program} {w : World} {K : PySem.W.Frag} {mg : Str → Option Value} {base : Heap}
def s__law_is_words : Sp2 := fun ds Q _ => ∃ ws, ds = [.tup ws] ∧ (∀ d ∈ ws, okW d) ∧ ws.length ≤ 100 ∧ Q (.val (.bl (rowOk ws)))
theorem rowOk_g (w0 : Str) (vs : List D) : rowOk (.str w0 :: vs) = (decide (0 < (ksO w0).length) && (decide (vs.length = (ksO w0).length) && (vs.zip (ksO w0)).all fun q => hkD q.1 q.2)) := by
  unfold ksO
  cases h : formsL.lookup w0 with
  | none => rw [rowOk_none h]; rfl
  | some ks => rw [rowOk_some h]; rw [show (some ks).getD [] = ks from rfl, decide_eq_true (forms_len h).2, Bool.true_and]
theorem all_upto {α : Type} (p : α → Bool) (l : List α) (h : ∀ i (hi : i < l.length), p l[i] = true) : l.all p = true := by
  rw [List.all_eq_true]
  intro x hx
  obtain ⟨i, hi, rfl⟩ := List.mem_iff_getElem.mp hx
  exact h i hi
theorem all_not {α : Type} (p : α → Bool) (l : List α) {i : Nat} (hi : i < l.length) (h : p l[i] = false) : l.all p = false := by
  rw [Bool.eq_false_iff]
  intro e
  rw [List.all_eq_true] at e
  have := e _ (List.getElem_mem hi)
  rw [h] at this
  cases this
theorem sc__law_is_words : FnScope ["_law_words_here", "_law_form", "_law_k", "_law_word"] ["_law_words_here"] (defScope (topS 50)) := ⟨rfl, rfl, rfl, by decide +kernel, rfl, by decide +kernel, by decide +kernel⟩
theorem ok__law_is_words (F : DefAt K mg "_law_is_words" (topS 50) ["_law_words_here"]) (m_isinstance : mg "isinstance" = none) (m_str : mg "str" = none) (m_len : mg "len" = none) (c__law_row_form : Cal P w K mg base "_law_row_form" 1 false s__law_row_form) (m_range : mg "range" = none) (c__law_is_name : Cal P w K mg base "_law_is_name" 1 false s__law_is_name) (m_int : mg "int" = none) : Cal P w K mg base "_law_is_words" 2 false s__law_is_words := by
  refine cal_of F sc__law_is_words (fun ds Q R h => ?_) fun f cdv A outer s H E tk pown hr => ⟨_, (pss2_cons (ps2_if ((pw2_or (pt2_cmp (o_eq hr.units) (.of (pe2_callB f_len m_len (pl2_cons (pb2_name 0) pl2_nil))) (.of pe2_int)) (pw2_or1 (pt2_not (pt2_val (pe2_callB f_isi m_isinstance (pl2_cons (.of (pe2_ix (pb2_name 0) (.of pe2_int))) (pl2_cons (.of (pe2_ty .str m_str)) pl2_nil)))))))).pt (pss2_one (ps2_ret pe2_bl)) pss2_nil)
      (pss2_cons (ps2_set 1 sc__law_is_words.nd (pe2_fn tk c__law_row_form (hr.mono (by decide)) (pa2_cons (.of (pe2_ix (pb2_name 0) (.of pe2_int))) pa2_nil)))
      (pss2_cons (ps2_if ((pw2_or (pt2_cmp (o_eq hr.units) (.of (pe2_callB f_len m_len (pl2_cons (pb2_name 1) pl2_nil))) (.of pe2_int)) (pw2_or1 (pt2_cmp (o_ne hr.units) (.of (pe2_callB f_len m_len (pl2_cons (pb2_name 0) pl2_nil))) (.of (pe2_op o_add (.of (pe2_callB f_len m_len (pl2_cons (pb2_name 1) pl2_nil))) (.of pe2_int))))))).pt (pss2_one (ps2_ret pe2_bl)) pss2_nil)
      (pss2_cons (ps2_for pown rfl (pi2_range1 m_range (.of (pe2_callB f_len m_len (pl2_cons (pb2_name 1) pl2_nil)))) (pg2_name 2 sc__law_is_words.nd) (pss2_cons (ps2_set 3 sc__law_is_words.nd (pe2_ix (pb2_name 0) (.of (pe2_op o_add (pb2_name 2) (.of pe2_int)))))
      (pss2_one (ps2_if (pt2_cmp (o_eq hr.units) (.of (pe2_ix (pb2_name 1) (pb2_name 2))) (.of pe2_str)) (pss2_one (ps2_if (pt2_not (pt2_val (pe2_fn tk c__law_is_name (hr.mono (by decide)) (pa2_cons (pv2_name 3) pa2_nil)))) (pss2_one (ps2_ret pe2_bl)) pss2_nil)) (pss2_one (ps2_if ((pw2_or (pt2_val (pe2_callB f_isi m_isinstance (pl2_cons (pb2_name 3) (pl2_cons (.of (pe2_ty .str m_str)) pl2_nil)))) (pw2_or (pt2_cmp o_lt (pb2_name 3) (.of pe2_int)) (pw2_or1 (pt2_cmp o_gt (pb2_name 3) (.of (pe2_ix (.of (pe2_lst (pa2_cons (.of pe2_int) (pa2_cons (.of pe2_int) pa2_nil)))) (.of (pe2_callTy f_intS m_int (pl2_cons (.of (pe2_cmp (o_eq hr.units) (.of (pe2_ix (pb2_name 1) (pb2_name 2))) (.of pe2_str))) pl2_nil)))))))))).pt (pss2_one (ps2_ret pe2_bl)) pss2_nil))))))
      (pss2_one (ps2_ret pe2_bl)))))), fun ds Q R h => ?_⟩
  · obtain ⟨ws, rfl, _⟩ := h; rfl
  · obtain ⟨ws, rfl, hw, hl, q⟩ := h
    clear F tk pown hr
    show wSeq _ _ _ _ [.sh (.tup ws), .un, .un, .un]
    have hsz := sizeLine_eq
    cases ws with
    | nil =>
      (refine Z.seq_of fun M hM => ?_; conv => whnf)
      exact q
    | cons d0 vs =>
      rw [List.length_cons] at hl
      (refine Z.seq_of fun M hM => ?_; conv => whnf)
      rw [Z.atI_zero]
      rcases hw d0 List.mem_cons_self with ⟨w0, rfl, hz⟩ | ⟨i, rfl, hi⟩
      · (conv => whnf)
        (refine hM _ ?_; clear hM M; refine Z.seq_of fun M hM => ?_; conv => whnf)
        rw [show atI (D.str w0 :: vs) 0 = some (D.str w0) from Z.atI_zero]
        (conv => whnf)
        refine ⟨w0, rfl, by omega, ?_⟩
        (conv => whnf)
        have hkl := ksO_len w0
        have hfl := formO_l w0
        rw [rowOk_g] at q
        (refine hM _ ?_; clear hM M; refine Z.seq_of fun M hM => ?_; conv => whnf)
        refine ⟨by omega, ?_⟩
        (conv => whnf)
        by_cases h0 : (ksO w0).length = 0
        · rw [decide_eq_false (by omega), Bool.false_and] at q
          rw [show decide (((formO w0).length : Int) = 0) = true from decide_eq_true (by omega)]
          (conv => whnf)
          exact q
        · rw [decide_eq_true (by omega), Bool.true_and] at q
          rw [show decide (((formO w0).length : Int) = 0) = false from decide_eq_false (by omega)]
          (conv => whnf)
          refine ⟨by omega, ?_⟩
          (conv => whnf)
          by_cases h1 : vs.length = (ksO w0).length
          · rw [decide_eq_true h1, Bool.true_and] at q
            rw [show decide (((D.str w0 :: vs).length : Int) = (formO w0).length + 1) = true from decide_eq_true (by rw [List.length_cons]; omega)]
            (conv => whnf)
            (refine hM _ ?_; clear hM M; refine Z.seq_of fun M hM => ?_; conv => whnf)
            refine ⟨by omega, ?_⟩
            (conv => whnf)
            refine ⟨⟨by omega, by omega⟩, ?_⟩
            (conv => whnf)
            refine wFor_of (fun i ρ => ∃ x2 x3 : Sl, ρ = [.sh (.tup (.str w0 :: vs)), .sh (.str (formO w0)), x2, x3] ∧ ∀ k (hk : k < vs.length) (hk2 : k < (ksO w0).length), k < i → hkD vs[k] (ksO w0)[k] = true) ⟨.un, .un, rfl, fun k _ _ hk => absurd hk (Nat.not_lt_zero _)⟩ (fun i d hd nx hnx ρ hρ => ?_) (fun ρ hρ => ?_)
            · obtain ⟨x2, x3, rfl, hall⟩ := hρ
              obtain ⟨hi, rfl⟩ := rngD_get hd
              rw [Int.zero_add]
              have h1' : i < vs.length := by omega
              have h2' : i < (ksO w0).length := by omega
              refine Z.seq_of fun M' hM' => ?_
              conv => whnf
              have e1 : atI (D.str w0 :: vs) ((i : Int) + 1) = some vs[i] := by
                rw [show ((i : Int) + 1) = ((i + 1 : Nat) : Int) by omega, Z.atI_nat (by rw [List.length_cons]; omega)]
                rfl
              rw [e1]
              (conv => whnf)
              refine hM' _ ?_
              clear hM' M'
              refine if_of fun A B hA hB => ?_
              (conv => whnf)
              have e2 : atI (formO w0).cps.toList (i : Int) = some (kdC (ksO w0)[i]) := by
                have := formO_signs w0
                rw [Z.atI_nat (by rw [this, List.length_map]; exact h2')]
                simp only [this, List.getElem_map]
              refine ⟨by omega, ?_⟩
              rw [e2]
              have hno : hkD vs[i] (ksO w0)[i] = false → ((vs.zip (ksO w0)).all fun q => hkD q.1 q.2) = false := fun h =>
                all_not (fun q : D × Kd => hkD q.1 q.2) (vs.zip (ksO w0)) (i := i) (by rw [List.length_zip]; omega) (by rw [List.getElem_zip]; exact h)
              have hyes : hkD vs[i] (ksO w0)[i] = true → ∀ x2 x3, nx [.sh (.tup (.str w0 :: vs)), .sh (.str (formO w0)), x2, x3] := fun h x2 x3 => hnx _ ⟨x2, x3, rfl, fun k hk hk2 hki => by
                by_cases e : k = i
                · subst e; exact h
                · exact hall k hk hk2 (by omega)⟩
              cases hk : (ksO w0)[i] with
              | n =>
                rw [hk] at hno hyes
                (conv => whnf)
                refine hA _ ?_
                refine if_of fun A2 B2 hA2 hB2 => ?_
                (conv => whnf)
                have ht : ∃ t, tgD vs[i] = some t ∧ ∀ z, vs[i] = .str z → z.length ≤ sizeLine := by
                  rcases hw vs[i] (List.mem_cons_of_mem _ (List.getElem_mem h1')) with ⟨z, hvz, hz'⟩ | ⟨n, hvn, hn⟩
                  · exact ⟨.str, by rw [hvz]; rfl, fun z' e => by rw [hvz] at e; cases e; omega⟩
                  · exact ⟨.int, by rw [hvn]; rfl, fun z' e => by rw [hvn] at e; cases e⟩
                obtain ⟨t, ht1, ht2⟩ := ht
                refine ⟨vs[i], t, rfl, ht1, ht2, ?_⟩
                (conv => whnf)
                cases hb : nmD vs[i] with
                | false =>
                  (conv => whnf)
                  refine hA2 _ ?_
                  (conv => whnf)
                  rw [hno hb] at q
                  exact q
                | true =>
                  (conv => whnf)
                  refine hB2 _ ?_
                  exact hyes hb _ _
              | c =>
                rw [hk] at hno hyes
                (conv => whnf)
                refine hB _ ?_
                refine if_of fun A2 B2 hA2 hB2 => ?_
                rcases hw vs[i] (List.mem_cons_of_mem _ (List.getElem_mem h1')) with ⟨z, hvz, hz'⟩ | ⟨n, hvn, hn⟩
                · rw [hvz] at hno ⊢
                  (conv => whnf)
                  refine hA2 _ ?_
                  (conv => whnf)
                  rw [hno rfl] at q
                  exact q
                · rw [hvn] at hno hyes ⊢
                  have hkv : hkD (.int n) Kd.c = (decide (0 ≤ n) && decide (n ≤ ((4 : Nat) : Int))) := rfl
                  (conv => whnf)
                  by_cases h0 : n < 0
                  · rw [show decide (n < 0) = true from decide_eq_true h0]
                    (conv => whnf)
                    refine hA2 _ ?_
                    (conv => whnf)
                    rw [hno (by rw [hkv, decide_eq_false (by omega), Bool.false_and])] at q
                    exact q
                  · rw [show decide (n < 0) = false from decide_eq_false h0]
                    (conv => whnf)
                    refine ⟨sz_of (by simp), ?_⟩
                    (conv => whnf)
                    refine ⟨by omega, ?_⟩
                    rw [e2, hk]
                    (conv => whnf)
                    by_cases h4 : n ≤ ((4 : Nat) : Int)
                    · rw [show decide ((4 : Int) < n) = false from decide_eq_false (by omega)]
                      (conv => whnf)
                      refine hB2 _ ?_
                      exact hyes (by rw [hkv, decide_eq_true h4, decide_eq_true (by omega)]; rfl) _ _
                    · rw [show decide ((4 : Int) < n) = true from decide_eq_true (by omega)]
                      (conv => whnf)
                      refine hA2 _ ?_
                      (conv => whnf)
                      rw [hno (by rw [hkv, decide_eq_false h4, Bool.and_false])] at q
                      exact q
              | m =>
                rw [hk] at hno hyes
                (conv => whnf)
                refine hB _ ?_
                refine if_of fun A2 B2 hA2 hB2 => ?_
                rcases hw vs[i] (List.mem_cons_of_mem _ (List.getElem_mem h1')) with ⟨z, hvz, hz'⟩ | ⟨n, hvn, hn⟩
                · rw [hvz] at hno ⊢
                  (conv => whnf)
                  refine hA2 _ ?_
                  (conv => whnf)
                  rw [hno rfl] at q
                  exact q
                · rw [hvn] at hno hyes ⊢
                  have hkv : hkD (.int n) Kd.m = (decide (0 ≤ n) && decide (n ≤ ((3 : Nat) : Int))) := rfl
                  (conv => whnf)
                  by_cases h0 : n < 0
                  · rw [show decide (n < 0) = true from decide_eq_true h0]
                    (conv => whnf)
                    refine hA2 _ ?_
                    (conv => whnf)
                    rw [hno (by rw [hkv, decide_eq_false (by omega), Bool.false_and])] at q
                    exact q
                  · rw [show decide (n < 0) = false from decide_eq_false h0]
                    (conv => whnf)
                    refine ⟨sz_of (by simp), ?_⟩
                    (conv => whnf)
                    refine ⟨by omega, ?_⟩
                    rw [e2, hk]
                    (conv => whnf)
                    by_cases h4 : n ≤ ((3 : Nat) : Int)
                    · rw [show decide ((3 : Int) < n) = false from decide_eq_false (by omega)]
                      (conv => whnf)
                      refine hB2 _ ?_
                      exact hyes (by rw [hkv, decide_eq_true h4, decide_eq_true (by omega)]; rfl) _ _
                    · rw [show decide ((3 : Int) < n) = true from decide_eq_true (by omega)]
                      (conv => whnf)
                      refine hA2 _ ?_
                      (conv => whnf)
                      rw [hno (by rw [hkv, decide_eq_false h4, Bool.and_false])] at q
                      exact q
            · obtain ⟨x2, x3, rfl, hall⟩ := hρ
              (refine hM _ ?_; clear hM M; conv => whnf)
              rw [all_upto (l := vs.zip (ksO w0)) (p := fun q => hkD q.1 q.2) fun i hi => by
                rw [List.length_zip] at hi
                rw [List.getElem_zip]
                exact hall i (by omega) (by omega) (by rw [rngD_len]; omega)] at q
              exact q
          · rw [decide_eq_false h1, Bool.false_and] at q
            rw [show decide (((D.str w0 :: vs).length : Int) = (formO w0).length + 1) = false from decide_eq_false (by rw [List.length_cons]; omega)]
            (conv => whnf)
            exact q
      · (conv => whnf)
        exact q
end
end K97

set_option maxHeartbeats 4000000
namespace K97
set_option autoImplicit false
open PySem PySem.Spec PyProof.Rows L2 L2H Z
section
variable {P : Program} {w : World} {K : PySem.W.Frag} {mg : Str → Option Value} {base : Heap}
def okT (d : D) : Prop := okW d ∧ (wdS d).length ≤ 20
def s__law_draw_words : Sp2 := fun ds Q _ => ds = [] ∧ ∀ (w0 : Str) (vs : List D), w0.length ≤ 10 → (∀ d ∈ vs, okT d) → vs.length ≤ 4 → Q (.val (.tup (.str w0 :: vs)))
theorem okT_int {n : Int} (h0 : 0 ≤ n) (h1 : n < 10) : okT (.int n) := by
  refine ⟨.inr ⟨n, rfl, ?_⟩, ?_⟩
  · have : (10 : Nat) ^ 70 = 10 * 10 ^ 69 := rfl
    have h1 : 0 < 10 ^ 69 := Nat.pow_pos (by decide)
    omega
  · have hl := TL.numL_len (n := n.toNat) (k := 1) (by decide) (by omega)
    show (Str.ofString (toString n)).length ≤ 20
    rw [show n = ((n.toNat : Nat) : Int) by omega, TL.len_tl, TL.tl_num]
    omega
theorem okT_str {z : Str} (h : z.length ≤ 20) : okT (.str z) := ⟨.inl ⟨z, rfl, by omega⟩, h⟩
theorem sc__law_draw_words : FnScope ["_law_store_here", "_law_kinds", "_law_words_here", "_law_sign_here"] ["_law_store_here"] (defScope (topS 51)) := ⟨rfl, rfl, rfl, by decide +kernel, rfl, by decide +kernel, by decide +kernel⟩
theorem ok__law_draw_words (F : DefAt K mg "_law_draw_words" (topS 51) ["_law_store_here"]) (c__law_pick : Cal P w K mg base "_law_pick" 4 true s__law_pick) (c__law_row_form : Cal P w K mg base "_law_row_form" 1 false s__law_row_form) (c__law_free_name : Cal P w K mg base "_law_free_name" 4 true s__law_free_name) (c__law_take : Cal P w K mg base "_law_take" 3 true s__law_take) (m_tuple : mg "tuple" = none) : Cal P w K mg base "_law_draw_words" 5 true s__law_draw_words := by
  refine cal_of F sc__law_draw_words (fun ds Q R h => ?_) fun f cdv A outer s H E tk pown hr => ⟨_, (pss2_cons (ps2_set 1 sc__law_draw_words.nd (pe2_lst (pa2_cons (.of pe2_str) (pa2_cons (.of pe2_str) (pa2_cons (.of pe2_str) (pa2_cons (.of pe2_str) (pa2_cons (.of pe2_str) (pa2_cons (.of pe2_str) (pa2_cons (.of pe2_str) (pa2_cons (.of pe2_str) (pa2_cons (.of pe2_str) (pa2_cons (.of pe2_str) pa2_nil))))))))))))
      (pss2_cons (ps2_set 2 sc__law_draw_words.nd (pe2_lst (pa2_cons (.of (pe2_fnS 0 tk c__law_pick (hr.mono (by decide)) (pa2_cons (pv2_name 1) pa2_nil))) pa2_nil)))
      (pss2_cons (ps2_for pown rfl (pi2_str (.of (pe2_fn tk c__law_row_form (hr.mono (by decide)) (pa2_cons (.of (pe2_ix (pb2_name 2) (.of pe2_int))) pa2_nil)))) (pg2_name 3 sc__law_draw_words.nd) (pss2_one (ps2_if (pt2_cmp (o_eq hr.units) (pb2_name 3) (.of pe2_str)) (pss2_one (ps2_expr (pe2_mut1 2 PySem.F.slot_list_append PySem.F.type_list_append mt_append mut1_append (.of (pe2_fnS 0 tk c__law_free_name (hr.mono (by decide)) (pa2_cons (.of pe2_int) pa2_nil)))))) (pss2_one (ps2_if (pt2_cmp (o_eq hr.units) (pb2_name 3) (.of pe2_str)) (pss2_one (ps2_expr (pe2_mut1 2 PySem.F.slot_list_append PySem.F.type_list_append mt_append mut1_append (.of (pe2_fnS 0 tk c__law_take (hr.mono (by decide)) (pa2_cons (.of pe2_int) pa2_nil)))))) (pss2_one (ps2_expr (pe2_mut1 2 PySem.F.slot_list_append PySem.F.type_list_append mt_append mut1_append (.of (pe2_fnS 0 tk c__law_take (hr.mono (by decide)) (pa2_cons (.of pe2_int) pa2_nil)))))))))))
      (pss2_one (ps2_ret (pe2_callTy f_tuple m_tuple (pl2_cons (pb2_name 2) pl2_nil))))))), fun ds Q R h => ?_⟩
  · obtain ⟨rfl, _⟩ := h; rfl
  · obtain ⟨rfl, q⟩ := h
    clear F tk pown hr
    show wSeq _ _ _ _ [.st, .un, .un, .un]
    have hsz := sizeLine_eq
    (refine Z.seq_of fun M hM => ?_; conv => whnf)
    refine ⟨sz_of (by simp), ?_⟩
    (refine hM _ ?_; clear hM M; refine Z.seq_of fun M hM => ?_; conv => whnf)
    refine ⟨_, rfl, .inl ⟨_, rfl, by simp, by simp, by decide, fun d hd => ?_⟩⟩
    have hw0 : ∃ w0 : Str, d = .str w0 ∧ w0.length ≤ 10 := by
      simp only [List.mem_cons, List.not_mem_nil, or_false] at hd
      rcases hd with rfl | rfl | rfl | rfl | rfl | rfl | rfl | rfl | rfl | rfl <;> exact ⟨_, rfl, by decide⟩
    obtain ⟨w0, rfl, hw0⟩ := hw0
    (conv => whnf)
    refine ⟨sz_of (by simp), ?_⟩
    (refine hM _ ?_; clear hM M; refine Z.seq_of fun M hM => ?_; conv => whnf)
    refine ⟨w0, rfl, by omega, ?_⟩
    (conv => whnf)
    have hfl := formO_l w0
    have hkl := ksO_len w0
    refine wFor_of (fun i ρ => ∃ (vs : List D) (x1 x3 : Sl), ρ = [.st, x1, .ow (.lst (.str w0 :: vs)), x3] ∧ vs.length = i ∧ ∀ d ∈ vs, okT d) ⟨[], _, _, rfl, rfl, fun d hd => nomatch hd⟩ (fun i d hd nx hnx ρ hρ => ?_) (fun ρ hρ => ?_)
    · obtain ⟨vs, x1, x3, rfl, hl, hall⟩ := hρ
      have hi : i < (signsD (formO w0)).length := (List.getElem?_eq_some_iff.mp hd).1
      rw [signs_len] at hi
      obtain ⟨c, _, rfl⟩ := signs_mem (List.mem_of_getElem? hd)
      have push : ∀ v, okT v → ∀ x, nx [.st, x1, .ow (.lst (.str w0 :: (vs ++ [v]))), x] := fun v hv x => hnx _ ⟨vs ++ [v], _, _, rfl, by rw [List.length_append, hl]; rfl, fun d hd => by
        rcases List.mem_append.mp hd with h | h
        · exact hall d h
        · rw [List.mem_singleton] at h; rw [h]; exact hv⟩
      refine if_of fun A B hA hB => ?_
      (conv => whnf)
      cases decide ((⟨#[c]⟩ : Str) = Str.ofString "n") with
      | true =>
        (conv => whnf)
        refine hA _ ?_
        (conv => whnf)
        refine ⟨8, rfl, by decide, by decide, fun z h0 h1 => ?_⟩
        (conv => whnf)
        refine ⟨sz_lt (by rw [List.length_cons]; omega), ?_⟩
        exact push _ (okT_str (by omega)) _
      | false =>
        (conv => whnf)
        refine hB _ ?_
        refine if_of fun A B hA hB => ?_
        (conv => whnf)
        cases decide ((⟨#[c]⟩ : Str) = Str.ofString "c") with
        | true =>
          (conv => whnf)
          refine hA _ ?_
          (conv => whnf)
          refine ⟨5, rfl, by decide, fun z h0 h1 => ?_⟩
          (conv => whnf)
          refine ⟨sz_lt (by rw [List.length_cons]; omega), ?_⟩
          exact push _ (okT_int h0 (by omega)) _
        | false =>
          (conv => whnf)
          refine hB _ ?_
          (conv => whnf)
          refine ⟨4, rfl, by decide, fun z h0 h1 => ?_⟩
          (conv => whnf)
          refine ⟨sz_lt (by rw [List.length_cons]; omega), ?_⟩
          exact push _ (okT_int h0 (by omega)) _
    · obtain ⟨vs, x1, x3, rfl, hl, hall⟩ := hρ
      (refine hM _ ?_; clear hM M; conv => whnf)
      exact q w0 vs hw0 hall (by rw [hl, signs_len]; omega)
def s__law_row_text : Sp2 := fun ds Q _ => ∃ ws, ds = [.tup ws] ∧ (∀ d ∈ ws, okW d) ∧ ws.length ≤ 100 ∧ Q (.val (.str (rowS ws)))
theorem sc__law_row_text : FnScope ["_law_words_here", "_law_word"] ["_law_words_here"] (defScope (topS 52)) := ⟨rfl, rfl, rfl, by decide +kernel, rfl, by decide +kernel, by decide +kernel⟩
theorem ok__law_row_text (F : DefAt K mg "_law_row_text" (topS 52) ["_law_words_here"]) (m_str : mg "str" = none) : Cal P w K mg base "_law_row_text" 1 false s__law_row_text := by
  refine cal_of F sc__law_row_text (fun ds Q R h => ?_) fun f cdv A outer s H E tk pown hr => ⟨_, (pss2_one (ps2_ret (pe2_join (.of pe2_str) (.of (pe2_lc (own := [("_law_word", 1)]) rfl sc__law_row_text.nd (pi2_tup (pv2_name 0)) (blkOk_by (own := [("_law_word", 1)]) (by kernel_rfl)) (fun _ _ _ _ _ => (pg2_name 1 sc__law_row_text.nd)) (fun _ _ _ _ _ => pts2_nil) (fun _ _ _ _ _ => (.of (pe2_callTy f_str m_str (pl2_cons (pb2_name 1) pl2_nil))))))))), fun ds Q R h => ?_⟩
  · obtain ⟨ws, rfl, _⟩ := h; rfl
  · obtain ⟨ws, rfl, hw, hl, q⟩ := h
    clear F tk pown hr
    show wRet _ _ _ [.sh (.tup ws), .un]
    (conv => whnf)
    refine ⟨_, rfl, ?_⟩
    refine lc_map (fun ρ => ∃ s, ρ = [.sh (.tup ws), s]) (fun d => .str (wdS d)) ⟨_, rfl⟩ (by have := sizeLine_eq; omega) (fun d hd ρ hρ k hk => ?_) fun ρ hρ => ?_
    · obtain ⟨s, rfl⟩ := hρ
      rcases hw d hd with ⟨z, rfl, hz⟩ | ⟨i, rfl, hi⟩
      · (conv => whnf)
        exact hk _ ⟨_, rfl⟩
      · (conv => whnf)
        refine ⟨?_, ?_⟩
        · exact log70 hi
        · exact hk _ ⟨_, rfl⟩
    · (conv => whnf)
      rw [Z.strs_map]
      refine ⟨?_, ?_⟩
      · rw [List.map_map, List.length_map, show (Str.ofString " ").length = 1 from rfl]
        have := sum_le (fun d => (wdS d).length) 20000 ws fun d hd => wdS_len (hw d hd)
        have e : ((fun x => x.length) ∘ wdS : D → Nat) = fun d => (wdS d).length := rfl
        rw [e]
        omega
      · rw [TL.join_eq]
        exact q
end
end K97

set_option maxHeartbeats 4000000
namespace K97
set_option autoImplicit false
open PySem PySem.Spec PyProof.Rows L2 L2H Z
section
variable {P : Program} {w : World} {K : PySem.W.Frag} {mg : Str → Option Value} {base : Heap}
def s__law_bent_words : Sp2 := fun ds Q _ => ∃ ws, ds = [.tup ws] ∧ (∀ d ∈ ws, okW d) ∧ ws.length ≤ 50 ∧ ∀ ys : List D, (∀ d ∈ ys, okW d) → ys.length ≤ ws.length + 1 → Q (.val (.tup ys))
theorem okW_int {i : Int} (h : i.natAbs < 10 ^ 70) : okW (.int i) := .inr ⟨i, rfl, h⟩
theorem okW_str {z : Str} (h : z.length ≤ 20000) : okW (.str z) := .inl ⟨z, rfl, h⟩
theorem okW_flat {d : D} (h : okW d) : flat d = true := by rcases h with ⟨z, rfl, _⟩ | ⟨i, rfl, _⟩ <;> rfl
theorem sc__law_bent_words : FnScope ["_law_store_here", "_law_words_here", "_law_found", "_law_place", "_law_kind"] ["_law_store_here", "_law_words_here"] (defScope (topS 53)) := ⟨rfl, rfl, rfl, by decide +kernel, rfl, by decide +kernel, by decide +kernel⟩
theorem ok__law_bent_words (F : DefAt K mg "_law_bent_words" (topS 53) ["_law_store_here", "_law_words_here"]) (m_list : mg "list" = none) (c__law_take : Cal P w K mg base "_law_take" 3 true s__law_take) (m_len : mg "len" = none) (c__law_put : Cal P w K mg base "_law_put" 4 true s__law_put) (c__law_set : Cal P w K mg base "_law_set" 4 true s__law_set) (c__law_bad_name : Cal P w K mg base "_law_bad_name" 6 true s__law_bad_name) (c__law_outside : Cal P w K mg base "_law_outside" 4 true s__law_outside) (m_str : mg "str" = none) (c__law_pick : Cal P w K mg base "_law_pick" 4 true s__law_pick) (c__law_free_name : Cal P w K mg base "_law_free_name" 4 true s__law_free_name) (m_tuple : mg "tuple" = none) : Cal P w K mg base "_law_bent_words" 7 true s__law_bent_words := by
  refine cal_of F sc__law_bent_words (fun ds Q R h => ?_) fun f cdv A outer s H E tk pown hr => ⟨_, (pss2_cons (ps2_set 2 sc__law_bent_words.nd (pe2_callTy f_list m_list (pl2_cons (pb2_name 1) pl2_nil)))
      (pss2_cons (ps2_set 3 sc__law_bent_words.nd (pe2_fnS 0 tk c__law_take (hr.mono (by decide)) (pa2_cons (.of (pe2_callB f_len m_len (pl2_cons (pb2_name 2) pl2_nil))) pa2_nil)))
      (pss2_cons (ps2_set 4 sc__law_bent_words.nd (pe2_fnS 0 tk c__law_take (hr.mono (by decide)) (pa2_cons (.of pe2_int) pa2_nil)))
      (pss2_cons (ps2_if ((pw2_and (pt2_cmp (o_eq hr.units) (pb2_name 4) (.of pe2_int)) (pw2_and1 (pt2_cmp o_gt (.of (pe2_callB f_len m_len (pl2_cons (pb2_name 2) pl2_nil))) (.of pe2_int))))).pt (pss2_one (ps2_expr (pe2_mut1 2 PySem.F.slot_list_pop PySem.F.type_list_pop mt_popAt mut1_popAt (pv2_name 3)))) (pss2_one (ps2_if ((pw2_and (pt2_cmp (o_eq hr.units) (pb2_name 4) (.of pe2_int)) (pw2_and1 (pt2_cmp o_gt (.of (pe2_callB f_len m_len (pl2_cons (pb2_name 2) pl2_nil))) (.of pe2_int))))).pt (pss2_one (ps2_set 2 sc__law_bent_words.nd (pe2_fnS 0 tk c__law_put (hr.mono (by decide)) (pa2_cons (pv2_name 2) (pa2_cons (.of (pe2_ix (pb2_name 2) (pb2_name 3))) pa2_nil))))) (pss2_one (ps2_if (pt2_cmp (o_eq hr.units) (pb2_name 4) (.of pe2_int)) (pss2_one (ps2_set 2 sc__law_bent_words.nd (pe2_fnS 0 tk c__law_set (hr.mono (by decide)) (pa2_cons (pv2_name 2) (pa2_cons (.of (pe2_fnS 0 tk c__law_bad_name (hr.mono (by decide)) pa2_nil)) pa2_nil))))) (pss2_one (ps2_if (pt2_cmp (o_eq hr.units) (pb2_name 4) (.of pe2_int)) (pss2_one (ps2_set 2 sc__law_bent_words.nd (pe2_fnS 0 tk c__law_set (hr.mono (by decide)) (pa2_cons (pv2_name 2) (pa2_cons (.of (pe2_fnS 0 tk c__law_outside (hr.mono (by decide)) (pa2_cons (.of pe2_int) (pa2_cons (.of pe2_int) pa2_nil)))) pa2_nil))))) (pss2_one (ps2_if ((pw2_and (pt2_cmp (o_eq hr.units) (pb2_name 4) (.of pe2_int)) (pw2_and1 (pt2_cmp o_gt (.of (pe2_callB f_len m_len (pl2_cons (pb2_name 2) pl2_nil))) (.of pe2_int))))).pt (pss2_one (ps2_lset 2 (.of (pe2_callTy f_str m_str (pl2_cons (.of (pe2_ix (pb2_name 2) (pb2_name 3))) pl2_nil))) (pb2_name 3))) (pss2_one (ps2_if (pt2_cmp (o_eq hr.units) (pb2_name 4) (.of pe2_int)) (pss2_one (ps2_set 2 sc__law_bent_words.nd (pe2_fnS 0 tk c__law_set (hr.mono (by decide)) (pa2_cons (pv2_name 2) (pa2_cons (.of (pe2_fnS 0 tk c__law_pick (hr.mono (by decide)) (pa2_cons (.of (pe2_lst (pa2_cons (.of pe2_int) (pa2_cons (.of pe2_int) (pa2_cons (.of pe2_int) (pa2_cons (.of pe2_str) (pa2_cons (.of pe2_str) (pa2_cons (.of pe2_str) (pa2_cons (.of pe2_str) (pa2_cons (.of pe2_str) pa2_nil)))))))))) pa2_nil))) pa2_nil))))) (pss2_one (ps2_if (pt2_cmp (o_eq hr.units) (pb2_name 4) (.of pe2_int)) (pss2_one (ps2_set 2 sc__law_bent_words.nd (pe2_fnS 0 tk c__law_put (hr.mono (by decide)) (pa2_cons (pv2_name 2) (pa2_cons (.of (pe2_fnS 0 tk c__law_free_name (hr.mono (by decide)) (pa2_cons (.of pe2_int) pa2_nil))) pa2_nil))))) (pss2_one (ps2_if (pt2_cmp o_gt (.of (pe2_callB f_len m_len (pl2_cons (pb2_name 2) pl2_nil))) (.of pe2_int)) (pss2_one (ps2_lset 2 (.of (pe2_fnS 0 tk c__law_pick (hr.mono (by decide)) (pa2_cons (.of (pe2_lst (pa2_cons (.of pe2_str) (pa2_cons (.of pe2_str) (pa2_cons (.of pe2_str) (pa2_cons (.of pe2_str) (pa2_cons (.of pe2_str) (pa2_cons (.of pe2_str) (pa2_cons (.of pe2_str) (pa2_cons (.of pe2_str) pa2_nil)))))))))) pa2_nil))) (.of pe2_int))) pss2_nil)))))))))))))))
      (pss2_one (ps2_ret (pe2_callTy f_tuple m_tuple (pl2_cons (pb2_name 2) pl2_nil)))))))), fun ds Q R h => ?_⟩
  · obtain ⟨ws, rfl, _⟩ := h; rfl
  · obtain ⟨ws, rfl, hw, hl, q⟩ := h
    clear F tk pown hr
    show wSeq _ _ _ _ [.st, .sh (.tup ws), .un, .un, .un]
    have hsz := sizeLine_eq
    (refine Z.seq_of fun M hM => ?_; conv => whnf)
    (refine hM _ ?_; clear hM M; refine Z.seq_of fun M hM => ?_; conv => whnf)
    refine ⟨_, rfl, by omega, fun pl hp0 hp1 => ?_⟩
    (conv => whnf)
    (refine hM _ ?_; clear hM M; refine Z.seq_of fun M hM => ?_; conv => whnf)
    refine ⟨8, rfl, by decide, fun k hk0 hk1 => ?_⟩
    (conv => whnf)
    refine hM _ ?_
    clear hM M
    refine seq_of fun M hM => ?_
    have fin : ∀ (s2 : Sl) (ys : List D), (s2 = .sh (.lst ys) ∨ s2 = .ow (.lst ys)) → (∀ d ∈ ys, okW d) → ys.length ≤ ws.length + 1 → ∀ a b c, M [.st, a, s2, b, c] := fun s2 ys h h1 h2 a b c => by
      rcases h with rfl | rfl
      · refine hM _ ?_
        (conv => whnf)
        exact q ys h1 h2
      · refine hM _ ?_
        (conv => whnf)
        exact q ys h1 h2
    have put : ∀ (x : D), okW x → ∀ (ys : List D), (∀ d ∈ ys, d ∈ x :: ws) → ∀ d ∈ ys, okW d := fun x hx ys h d hd => by
      rcases List.mem_cons.mp (h d hd) with e | e
      · rw [e]; exact hx
      · exact hw d e
    clear hM
    refine if_of fun A B hA hB => ?_
    have hA' : 0 < ws.length → A [.st, .sh (.tup ws), .ow (.lst ws), .sh (.int pl), .sh (.int k)] := fun hl0 => by
      refine hA _ ?_
      (conv => whnf)
      refine ⟨pl.toNat, ws[pl.toNat]'(by omega), seqIx_pos hp0 (by omega), List.getElem?_eq_getElem _, ⟨by omega, by omega⟩, ?_⟩
      refine fin _ _ (.inr rfl) (fun d hd => hw d (List.mem_of_mem_eraseIdx hd)) ?_ _ _ _
      have := List.length_eraseIdx_le ws pl.toNat
      omega
    have hB' : B [.st, .sh (.tup ws), .ow (.lst ws), .sh (.int pl), .sh (.int k)] := by
      refine hB _ ?_
      refine if_of fun A B hA hB => ?_
      have hA' : 0 < ws.length → A [.st, .sh (.tup ws), .ow (.lst ws), .sh (.int pl), .sh (.int k)] := fun hl0 => by
        refine hA _ ?_
        (conv => whnf)
        rw [atI_pos hp0 (by omega)]
        (conv => whnf)
        refine ⟨ws, _, rfl, okW_flat (hw _ (List.getElem_mem (by omega))), by omega, fun ys hy1 hy2 => ?_⟩
        (conv => whnf)
        exact fin _ ys (.inr rfl) (put _ (hw _ (List.getElem_mem _)) ys hy2) (by omega) _ _ _
      have hB' : B [.st, .sh (.tup ws), .ow (.lst ws), .sh (.int pl), .sh (.int k)] := by
        refine hB _ ?_
        refine if_of fun A B hA hB => ?_
        have hA' : A [.st, .sh (.tup ws), .ow (.lst ws), .sh (.int pl), .sh (.int k)] := by
          refine hA _ ?_
          (conv => whnf)
          refine ⟨rfl, fun z hz => ?_⟩
          (conv => whnf)
          have hx := okW_str (z := z) (by omega)
          refine ⟨ws, _, rfl, okW_flat hx, by omega, fun ys hy0 hy1 hy2 => ?_⟩
          (conv => whnf)
          exact fin _ ys (.inr rfl) (put _ hx ys hy2) (by omega) _ _ _
        have hB' : B [.st, .sh (.tup ws), .ow (.lst ws), .sh (.int pl), .sh (.int k)] := by
          refine hB _ ?_
          refine if_of fun A B hA hB => ?_
          have hA' : A [.st, .sh (.tup ws), .ow (.lst ws), .sh (.int pl), .sh (.int k)] := by
            refine hA _ ?_
            (conv => whnf)
            refine ⟨0, 3, rfl, fun z hz => ?_⟩
            (conv => whnf)
            have hx := okW_int (i := z) (by omega)
            refine ⟨ws, _, rfl, okW_flat hx, by omega, fun ys hy0 hy1 hy2 => ?_⟩
            (conv => whnf)
            exact fin _ ys (.inr rfl) (put _ hx ys hy2) (by omega) _ _ _
          have hB' : B [.st, .sh (.tup ws), .ow (.lst ws), .sh (.int pl), .sh (.int k)] := by
            refine hB _ ?_
            refine if_of fun A B hA hB => ?_
            have hA' : 0 < ws.length → A [.st, .sh (.tup ws), .ow (.lst ws), .sh (.int pl), .sh (.int k)] := fun hl0 => by
              refine hA _ ?_
              (conv => whnf)
              rw [atI_pos hp0 (by omega)]
              (conv => whnf)
              have hx := hw _ (List.getElem_mem (l := ws) (n := pl.toNat) (by omega))
              generalize ws[pl.toNat]'(by omega) = x at hx
              have done : ∀ z : Str, z.length ≤ 20000 → M [.st, .sh (.tup ws), .ow (.lst (ws.set pl.toNat (.str z))), .sh (.int pl), .sh (.int k)] := fun z hz => fin _ _ (.inr rfl) (fun d hd => by
                rcases mem_set hd with h | h
                · exact hw d h
                · rw [h]; exact okW_str hz) (by rw [List.length_set]; omega) _ _ _
              have hlx := wdS_len hx
              rcases hx with ⟨z, rfl, hz⟩ | ⟨i, rfl, hi⟩
              · (conv => whnf)
                refine ⟨⟨_, rfl⟩, ?_⟩
                (conv => whnf)
                exact ⟨pl.toNat, ixN_pos hp0 (by omega), done z hz⟩
              · (conv => whnf)
                refine ⟨log70 hi, ?_⟩
                (conv => whnf)
                refine ⟨⟨_, rfl⟩, ?_⟩
                (conv => whnf)
                exact ⟨pl.toNat, ixN_pos hp0 (by omega), done _ hlx⟩
            have hB' : B [.st, .sh (.tup ws), .ow (.lst ws), .sh (.int pl), .sh (.int k)] := by
              refine hB _ ?_
              refine if_of fun A B hA hB => ?_
              have hA' : A [.st, .sh (.tup ws), .ow (.lst ws), .sh (.int pl), .sh (.int k)] := by
                refine hA _ ?_
                (conv => whnf)
                refine ⟨sz_of (by simp), ?_⟩
                (conv => whnf)
                refine ⟨_, rfl, .inl ⟨_, rfl, by simp, by simp, by decide, fun z hz => ?_⟩⟩
                have hz : okW z := by
                  simp only [List.mem_cons, List.not_mem_nil, or_false] at hz
                  rcases hz with rfl | rfl | rfl | rfl | rfl | rfl | rfl | rfl <;> first | exact okW_int (by decide) | exact okW_str (by decide)
                (conv => whnf)
                have hx := hz
                refine ⟨ws, _, rfl, okW_flat hx, by omega, fun ys hy0 hy1 hy2 => ?_⟩
                (conv => whnf)
                exact fin _ ys (.inr rfl) (put _ hx ys hy2) (by omega) _ _ _
              have hB' : B [.st, .sh (.tup ws), .ow (.lst ws), .sh (.int pl), .sh (.int k)] := by
                refine hB _ ?_
                refine if_of fun A B hA hB => ?_
                have hA' : A [.st, .sh (.tup ws), .ow (.lst ws), .sh (.int pl), .sh (.int k)] := by
                  refine hA _ ?_
                  (conv => whnf)
                  refine ⟨8, rfl, by decide, by decide, fun z h0 hz => ?_⟩
                  (conv => whnf)
                  have hx := okW_str (z := z) (by omega)
                  refine ⟨ws, _, rfl, okW_flat hx, by omega, fun ys hy1 hy2 => ?_⟩
                  (conv => whnf)
                  exact fin _ ys (.inr rfl) (put _ hx ys hy2) (by omega) _ _ _
                have hB' : B [.st, .sh (.tup ws), .ow (.lst ws), .sh (.int pl), .sh (.int k)] := by
                  refine hB _ ?_
                  refine if_of fun A B hA hB => ?_
                  have hA' : 0 < ws.length → A [.st, .sh (.tup ws), .ow (.lst ws), .sh (.int pl), .sh (.int k)] := fun hl0 => by
                    refine hA _ ?_
                    (conv => whnf)
                    refine ⟨sz_of (by simp), ?_⟩
                    (conv => whnf)
                    refine ⟨_, rfl, .inl ⟨_, rfl, by simp, by simp, by decide, fun z hz => ?_⟩⟩
                    have hz : okW z := by
                      simp only [List.mem_cons, List.not_mem_nil, or_false] at hz
                      rcases hz with rfl | rfl | rfl | rfl | rfl | rfl | rfl | rfl <;> exact okW_str (by decide)
                    (conv => whnf)
                    refine ⟨⟨_, rfl⟩, ?_⟩
                    (conv => whnf)
                    refine ⟨0, ixN_pos (i := 0) (by decide) (by omega), fin _ (ws.set 0 z) (.inr rfl) (fun d hd => by
                      rcases mem_set hd with h | h
                      · exact hw d h
                      · rw [h]; exact hz) (by rw [List.length_set]; omega) _ _ _⟩
                  have hB' : B [.st, .sh (.tup ws), .ow (.lst ws), .sh (.int pl), .sh (.int k)] := by
                    refine hB _ ?_
                    exact fin _ ws (.inr rfl) hw (by omega) _ _ _
                  (conv => whnf)
                  cases h1 : decide (0 < (ws.length : Int)) with
                  | true =>
                    (conv => whnf)
                    exact hA' (by have := of_decide_eq_true h1; omega)
                  | false =>
                    (conv => whnf)
                    exact hB'
                (conv => whnf)
                cases h0 : decide (k = 6) with
                | true =>
                  (conv => whnf)
                  exact hA'
                | false =>
                  (conv => whnf)
                  exact hB'
              (conv => whnf)
              cases h0 : decide (k = 5) with
              | true =>
                (conv => whnf)
                exact hA'
              | false =>
                (conv => whnf)
                exact hB'
            (conv => whnf)
            cases h0 : decide (k = 4) with
            | true =>
              (conv => whnf)
              cases h1 : decide (0 < (ws.length : Int)) with
              | true =>
                (conv => whnf)
                exact hA' (by have := of_decide_eq_true h1; omega)
              | false =>
                (conv => whnf)
                exact hB'
            | false =>
              (conv => whnf)
              exact hB'
          (conv => whnf)
          cases h0 : decide (k = 3) with
          | true =>
            (conv => whnf)
            exact hA'
          | false =>
            (conv => whnf)
            exact hB'
        (conv => whnf)
        cases h0 : decide (k = 2) with
        | true =>
          (conv => whnf)
          exact hA'
        | false =>
          (conv => whnf)
          exact hB'
      (conv => whnf)
      cases h0 : decide (k = 1) with
      | true =>
        (conv => whnf)
        cases h1 : decide (0 < (ws.length : Int)) with
        | true =>
          (conv => whnf)
          exact hA' (by have := of_decide_eq_true h1; omega)
        | false =>
          (conv => whnf)
          exact hB'
      | false =>
        (conv => whnf)
        exact hB'
    (conv => whnf)
    cases h0 : decide (k = 0) with
    | true =>
      (conv => whnf)
      cases h1 : decide (0 < (ws.length : Int)) with
      | true =>
        (conv => whnf)
        exact hA' (by have := of_decide_eq_true h1; omega)
      | false =>
        (conv => whnf)
        exact hB'
    | false =>
      (conv => whnf)
      exact hB'
end
end K97

set_option maxHeartbeats 4000000
namespace K97
set_option autoImplicit false
open PySem PySem.Spec PyProof.Rows L2 L2H Z
section
variable {P : Program} {w : World} {K : PySem.W.Frag} {mg : Str → Option Value} {base : Heap}
def s__law_bent_sign : Sp2 := fun ds Q _ => ∃ z, ds = [.str z] ∧ z.length ≤ 10000 ∧ ∀ y : Str, y.length ≤ 2 * z.length + 1 → Q (.val (.str y))
theorem sc__law_bent_sign : FnScope ["_law_store_here", "_law_text_here", "_law_place", "_law_sign_here"] ["_law_store_here", "_law_text_here"] (defScope (topS 60)) := ⟨rfl, rfl, rfl, by decide +kernel, rfl, by decide +kernel, by decide +kernel⟩
theorem ok__law_bent_sign (F : DefAt K mg "_law_bent_sign" (topS 60) ["_law_store_here", "_law_text_here"]) (c__law_take : Cal P w K mg base "_law_take" 3 true s__law_take) (m_len : mg "len" = none) (c__law_pick : Cal P w K mg base "_law_pick" 4 true s__law_pick) (c__law_sign : Cal P w K mg base "_law_sign" 5 true s__law_sign) : Cal P w K mg base "_law_bent_sign" 6 true s__law_bent_sign := by
  refine cal_of F sc__law_bent_sign (fun ds Q R h => ?_) fun f cdv A outer s H E tk pown hr => ⟨_, (pss2_cons (ps2_set 2 sc__law_bent_sign.nd (pe2_fnS 0 tk c__law_take (hr.mono (by decide)) (pa2_cons (.of (pe2_callB f_len m_len (pl2_cons (pb2_name 1) pl2_nil))) pa2_nil)))
      (pss2_cons (ps2_set 3 sc__law_bent_sign.nd (pe2_fnS 0 tk c__law_pick (hr.mono (by decide)) (pa2_cons (.of (pe2_lst (pa2_cons (.of (pe2_fnS 0 tk c__law_sign (hr.mono (by decide)) pa2_nil)) (pa2_cons (.of pe2_str) (pa2_cons (.of pe2_str) (pa2_cons (.of pe2_str) (pa2_cons (.of pe2_str) (pa2_cons (.of pe2_str) pa2_nil)))))))) pa2_nil)))
      (pss2_one (ps2_ret (pe2_op o_add (.of (pe2_op o_add (.of (pe2_slice (pb2_name 1) po2_none (po2_some (pb2_name 2)))) (pb2_name 3))) (.of (pe2_slice (pb2_name 1) (po2_some (.of (pe2_op o_add (pb2_name 2) (.of (pe2_fnS 0 tk c__law_take (hr.mono (by decide)) (pa2_cons (.of pe2_int) pa2_nil)))))) po2_none))))))), fun ds Q R h => ?_⟩
  · obtain ⟨z, rfl, _⟩ := h; rfl
  · obtain ⟨z, rfl, hz, q⟩ := h
    clear F tk pown hr
    show wSeq _ _ _ _ [.st, .sh (.str z), .un, .un]
    have hsz := sizeLine_eq
    (refine Z.seq_of fun M hM => ?_; conv => whnf)
    refine ⟨by omega, ?_⟩
    (conv => whnf)
    refine ⟨_, rfl, by omega, fun pl hp0 hp1 => ?_⟩
    (conv => whnf)
    (refine hM _ ?_; clear hM M; refine Z.seq_of fun M hM => ?_; conv => whnf)
    refine ⟨rfl, fun c hc => ?_⟩
    (conv => whnf)
    refine ⟨sz_of (by simp), ?_⟩
    (conv => whnf)
    refine ⟨_, rfl, .inl ⟨_, rfl, by simp, by simp, by simp [flat], fun d hd => ?_⟩⟩
    have hx : ∃ x : Str, d = .str x ∧ x.length ≤ 1 := by
      simp only [List.mem_cons, List.not_mem_nil, or_false] at hd
      rcases hd with rfl | rfl | rfl | rfl | rfl | rfl <;> first | exact ⟨_, rfl, by decide⟩ | exact ⟨_, rfl, by omega⟩
    obtain ⟨x, rfl, hx⟩ := hx
    (conv => whnf)
    (refine hM _ ?_; clear hM M; conv => whnf)
    refine ⟨by omega, ?_⟩
    (conv => whnf)
    have c1 := cutS_length z none (some pl)
    refine ⟨by omega, ?_⟩
    (conv => whnf)
    refine ⟨2, rfl, by decide, fun j hj0 hj1 => ?_⟩
    (conv => whnf)
    have c2 := cutS_length z (some (pl + j)) none
    refine ⟨by omega, ?_⟩
    (conv => whnf)
    refine ⟨by rw [len_app]; omega, q _ (by rw [len_app, len_app]; omega)⟩
def s__law_near_row : Sp2 := fun ds Q _ => ∃ z, ds = [.str z] ∧ z.length ≤ 1000 ∧ ∀ y : Str, y.length ≤ 4000 → Q (.val (.str y))
def okN (d : D) : Prop := ∃ z, d = .str z ∧ z.length ≤ 4000
theorem okN_flat {d : D} (h : okN d) : flat d = true := by obtain ⟨z, rfl, _⟩ := h; rfl
theorem sc__law_near_row : FnScope ["_law_store_here", "_law_text_here", "_law_words_here", "_law_k", "_law_stock", "_law_other", "_law_kind", "_law_place"] ["_law_store_here", "_law_text_here"] (defScope (topS 61)) := ⟨rfl, rfl, rfl, by decide +kernel, rfl, by decide +kernel, by decide +kernel⟩
theorem ok__law_near_row (F : DefAt K mg "_law_near_row" (topS 61) ["_law_store_here", "_law_text_here"]) (m_range : mg "range" = none) (c__law_take : Cal P w K mg base "_law_take" 3 true s__law_take) (c__law_pick : Cal P w K mg base "_law_pick" 4 true s__law_pick) (c__law_free_name : Cal P w K mg base "_law_free_name" 4 true s__law_free_name) (c__law_bad_name : Cal P w K mg base "_law_bad_name" 6 true s__law_bad_name) (m_len : mg "len" = none) (c__law_put : Cal P w K mg base "_law_put" 4 true s__law_put) (c__law_set : Cal P w K mg base "_law_set" 4 true s__law_set) : Cal P w K mg base "_law_near_row" 7 true s__law_near_row := by
  refine cal_of F sc__law_near_row (fun ds Q R h => ?_) fun f cdv A outer s H E tk pown hr => ⟨_, (pss2_cons (ps2_set 2 sc__law_near_row.nd (pe2_split (pb2_name 1) (.of pe2_str)))
      (pss2_cons (ps2_for pown rfl (pi2_range1 m_range (.of (pe2_op o_add (.of pe2_int) (.of (pe2_fnS 0 tk c__law_take (hr.mono (by decide)) (pa2_cons (.of pe2_int) pa2_nil)))))) (pg2_name 3 sc__law_near_row.nd) (pss2_cons (ps2_set 4 sc__law_near_row.nd (pe2_lst (pa2_cons (.of pe2_str) (pa2_cons (.of pe2_str) (pa2_cons (.of pe2_str) (pa2_cons (.of pe2_str) (pa2_cons (.of pe2_str) (pa2_cons (.of pe2_str) (pa2_cons (.of pe2_str) (pa2_cons (.of pe2_str) (pa2_cons (.of pe2_str) (pa2_cons (.of pe2_str) (pa2_cons (.of pe2_str) (pa2_cons (.of pe2_str) (pa2_cons (.of pe2_str) (pa2_cons (.of pe2_str) pa2_nil))))))))))))))))
      (pss2_cons (ps2_set 5 sc__law_near_row.nd (pe2_fnS 0 tk c__law_pick (hr.mono (by decide)) (pa2_cons (.of (pe2_op o_add (.of (pe2_op o_add (pb2_name 4) (pb2_name 2))) (.of (pe2_lst (pa2_cons (.of (pe2_fnS 0 tk c__law_free_name (hr.mono (by decide)) (pa2_cons (.of pe2_int) pa2_nil))) (pa2_cons (.of (pe2_fnS 0 tk c__law_bad_name (hr.mono (by decide)) pa2_nil)) pa2_nil)))))) pa2_nil)))
      (pss2_cons (ps2_set 6 sc__law_near_row.nd (pe2_fnS 0 tk c__law_take (hr.mono (by decide)) (pa2_cons (.of pe2_int) pa2_nil)))
      (pss2_cons (ps2_set 7 sc__law_near_row.nd (pe2_fnS 0 tk c__law_take (hr.mono (by decide)) (pa2_cons (.of (pe2_callB f_len m_len (pl2_cons (pb2_name 2) pl2_nil))) pa2_nil)))
      (pss2_one (ps2_if ((pw2_and (pt2_cmp (o_eq hr.units) (pb2_name 6) (.of pe2_int)) (pw2_and1 (pt2_cmp o_gt (.of (pe2_callB f_len m_len (pl2_cons (pb2_name 2) pl2_nil))) (.of pe2_int))))).pt (pss2_one (ps2_expr (pe2_mut1 2 PySem.F.slot_list_pop PySem.F.type_list_pop mt_popAt mut1_popAt (pv2_name 7)))) (pss2_one (ps2_if (pt2_cmp (o_eq hr.units) (pb2_name 6) (.of pe2_int)) (pss2_one (ps2_set 2 sc__law_near_row.nd (pe2_fnS 0 tk c__law_put (hr.mono (by decide)) (pa2_cons (pv2_name 2) (pa2_cons (pv2_name 5) pa2_nil))))) (pss2_one (ps2_set 2 sc__law_near_row.nd (pe2_fnS 0 tk c__law_set (hr.mono (by decide)) (pa2_cons (pv2_name 2) (pa2_cons (pv2_name 5) pa2_nil))))))))))))))
      (pss2_one (ps2_ret (pe2_slice (.of (pe2_join (.of pe2_str) (pb2_name 2))) po2_none (po2_some (.of pe2_int))))))), fun ds Q R h => ?_⟩
  · obtain ⟨z, rfl, _⟩ := h; rfl
  · obtain ⟨z, rfl, hz, q⟩ := h
    clear F tk pown hr
    have hsz := sizeLine_eq
    have hcnt := sp_cnt z
    show wSeq _ _ _ _ [.st, .sh (.str z), .un, .un, .un, .un, .un, .un]
    (refine Z.seq_of fun M hM => ?_; conv => whnf)
    refine ⟨z, rfl, by decide, by omega, ?_⟩
    rw [show Txt.split z (Str.ofString " ") = sp z from rfl]
    (conv => whnf)
    (refine hM _ ?_; clear hM M; refine Z.seq_of fun M hM => ?_; conv => whnf)
    refine ⟨2, rfl, by decide, fun tk0 ht0 ht1 => ?_⟩
    (conv => whnf)
    refine ⟨⟨by omega, by omega⟩, ?_⟩
    have hok : ∀ d ∈ (sp z).map D.str, okN d := fun d hd => by
      obtain ⟨w, hw, rfl⟩ := List.mem_map.mp hd
      exact ⟨w, rfl, by have := sp_len hw; omega⟩
    refine wFor_of (fun i ρ => ∃ (ws : List D) (x3 x4 x5 x6 x7 : Sl), ρ = [.st, .sh (.str z), .ow (.lst ws), x3, x4, x5, x6, x7] ∧ (∀ d ∈ ws, okN d) ∧ ws.length ≤ (sp z).length + i) ⟨(sp z).map D.str, .un, .un, .un, .un, .un, rfl, hok, by rw [List.length_map]; omega⟩ (fun i d hd nx hnx ρ hρ => ?_) (fun ρ hρ => ?_)
    · obtain ⟨ws, x3, x4, x5, x6, x7, rfl, hw, hl⟩ := hρ
      obtain ⟨hi, rfl⟩ := rngD_get hd
      have hi2 : i < 2 := by omega
      (refine Z.seq_of fun M hM => ?_; conv => whnf)
      refine ⟨sz_of (by simp), ?_⟩
      (refine hM _ ?_; clear hM M; refine Z.seq_of fun M hM => ?_; conv => whnf)
      refine ⟨by rw [List.length_cons, List.length_cons]; simp; omega, ?_⟩
      (conv => whnf)
      refine ⟨8, rfl, by decide, by decide, fun a ha0 ha1 => ?_⟩
      (conv => whnf)
      refine ⟨rfl, fun b hb => ?_⟩
      (conv => whnf)
      refine ⟨sz_of (by simp), ?_⟩
      (conv => whnf)
      refine ⟨by simp; omega, ?_⟩
      (conv => whnf)
      have hmem : ∀ d ∈ [D.str (Str.ofString ""), D.str (Str.ofString "0"), D.str (Str.ofString "3"), D.str (Str.ofString "4"), D.str (Str.ofString "5"), D.str (Str.ofString "10"), D.str (Str.ofString "04"), D.str (Str.ofString "-1"), D.str (Str.ofString "a"), D.str (Str.ofString "A"), D.str (Str.ofString "a\n"), D.str (Str.ofString "net"), D.str (Str.ofString "worst"), D.str (Str.ofString "ninechars")] ++ ws ++ [D.str a, D.str b], okN d := fun d hd => by
        rcases List.mem_append.mp hd with h | h
        · rcases List.mem_append.mp h with h | h
          · simp only [List.mem_cons, List.not_mem_nil, or_false] at h
            rcases h with rfl | rfl | rfl | rfl | rfl | rfl | rfl | rfl | rfl | rfl | rfl | rfl | rfl | rfl <;> exact ⟨_, rfl, by decide⟩
          · exact hw d h
        · simp only [List.mem_cons, List.not_mem_nil, or_false] at h
          rcases h with rfl | rfl
          · exact ⟨_, rfl, by omega⟩
          · exact ⟨_, rfl, by omega⟩
      refine ⟨_, rfl, .inl ⟨_, rfl, by simp, by simp; omega, fun d hd => okN_flat (hmem d hd), fun o ho => ?_⟩⟩
      have ho := hmem o ho
      clear hmem
      (conv => whnf)
      (refine hM _ ?_; clear hM M; refine Z.seq_of fun M hM => ?_; conv => whnf)
      refine ⟨4, rfl, by decide, fun k hk0 hk1 => ?_⟩
      (conv => whnf)
      (refine hM _ ?_; clear hM M; refine Z.seq_of fun M hM => ?_; conv => whnf)
      refine ⟨_, rfl, by omega, fun pl hp0 hp1 => ?_⟩
      (conv => whnf)
      (refine hM _ ?_; clear hM M)
      have fin : ∀ ys : List D, (∀ d ∈ ys, okN d) → ys.length ≤ ws.length + 1 → ∀ x3 x4 x5 x6 x7, nx [.st, .sh (.str z), .ow (.lst ys), x3, x4, x5, x6, x7] := fun ys h1 h2 x3 x4 x5 x6 x7 => hnx _ ⟨ys, _, _, _, _, _, rfl, h1, by omega⟩
      have put : ∀ ys : List D, (∀ d ∈ ys, d ∈ o :: ws) → ∀ d ∈ ys, okN d := fun ys h d hd => by
        rcases List.mem_cons.mp (h d hd) with e | e
        · rw [e]; exact ho
        · exact hw d e
      refine if_of fun A B hA hB => ?_
      have hA' : ∀ s4, 1 < ws.length → A [.st, .sh (.str z), .ow (.lst ws), .sh (.int (0 + (i : Int))), s4, .sh o, .sh (.int k), .sh (.int pl)] := fun s4 h1 => by
        refine hA _ ?_
        (conv => whnf)
        refine ⟨pl.toNat, ws[pl.toNat]'(by omega), seqIx_pos hp0 (by omega), List.getElem?_eq_getElem _, ⟨by omega, by omega⟩, ?_⟩
        refine fin _ (fun d hd => hw d (List.mem_of_mem_eraseIdx hd)) ?_ _ _ _ _ _
        have := List.length_eraseIdx_le ws pl.toNat
        omega
      have hB' : ∀ s4, B [.st, .sh (.str z), .ow (.lst ws), .sh (.int (0 + (i : Int))), s4, .sh o, .sh (.int k), .sh (.int pl)] := fun s4 => by
        refine hB _ ?_
        refine if_of fun A B hA hB => ?_
        (conv => whnf)
        cases decide (k = 1) with
        | true =>
          (conv => whnf)
          refine hA _ ?_
          (conv => whnf)
          refine ⟨ws, _, rfl, okN_flat ho, by omega, fun ys hy1 hy2 => ?_⟩
          (conv => whnf)
          exact fin ys (put ys hy2) (by omega) _ _ _ _ _
        | false =>
          (conv => whnf)
          refine hB _ ?_
          (conv => whnf)
          refine ⟨ws, _, rfl, okN_flat ho, by omega, fun ys hy0 hy1 hy2 => ?_⟩
          (conv => whnf)
          exact fin ys (put ys hy2) (by omega) _ _ _ _ _
      (conv => whnf)
      cases decide (k = 0) with
      | true =>
        (conv => whnf)
        cases h1 : decide (1 < (ws.length : Int)) with
        | true =>
          (conv => whnf)
          exact hA' _ (by have := of_decide_eq_true h1; omega)
        | false =>
          (conv => whnf)
          exact hB' _
      | false =>
        (conv => whnf)
        exact hB' _
    · obtain ⟨ws, x3, x4, x5, x6, x7, rfl, hw, hl⟩ := hρ
      rw [rngD_len] at hl
      (refine hM _ ?_; clear hM M; conv => whnf)
      obtain ⟨ys, e1, e2, e3⟩ := strs_of (P := fun z => z.length ≤ 4000) ws hw
      refine ⟨_, rfl, ?_⟩
      (conv => whnf)
      rw [e2]
      (conv => whnf)
      have hy : ys.length = ws.length := by rw [e1, List.length_map]
      have hs := sum_le Str.length 4000 ys e3
      have hj := len_join (Str.ofString " ") ys
      rw [show (Str.ofString " ").length = 1 from rfl] at hj ⊢
      have hs' : (ys.map fun x => x.length).sum ≤ ys.length * 4000 := hs
      refine ⟨by omega, ?_⟩
      rw [TL.join_eq]
      (conv => whnf)
      exact ⟨by omega, q _ (cutS_most _ 4000)⟩
end
end K97

set_option maxHeartbeats 4000000
namespace K97
set_option autoImplicit false
open PySem PySem.Spec PyProof.Rows L2 L2H Z
section
variable {P : Program} {w : World} {K : PySem.W.Frag} {mg : Str → Option Value} {base : Heap}
def s__law_refusal : Addr → Str → Addr → Sp2 := fun a cls d ds Q _ => (∃ p : Int, cls = "BadText" ∧ ds = [.exc a d ["place", "row"] [.int p, .int 1]] ∧ Q (.val (.tup [.str "refused", .str "BadText", .int 1, .int p]))) ∨
  (cls = "Unlike" ∧ ds = [.exc a d ["what"] [.str "row"]] ∧ Q (.val (.tup [.str "refused", .str "Unlike", .str "row"])))
def refW : List Str := ["BadName", "Duplicate", "UnknownHouse", "UnknownLine", "BadLot", "OutOfRange", "TooMany", "Unlike", "BadTree", "BadTable", "BadText", "BadPair", "Weak", "BadLog", "no ValueError"]
theorem pss2_none {X : Cx} {W : WX} : ∀ sts : List Stmt, ∃ w2, PSs2 X W sts w2
  | [] => ⟨_, pss2_nil⟩
  | st :: r => let ⟨w2, h⟩ := pss2_none r; ⟨_, pss2_cons ps2_never h⟩
theorem sc__law_refusal : FnScope ["_law_e", "_law_known", "_law_words_here", "_law_found", "_law_k"] ["_law_e"] (defScope (topS 54)) := ⟨rfl, rfl, rfl, by decide +kernel, rfl, by decide +kernel, by decide +kernel⟩
theorem ok__law_refusal (F : DefAt K mg "_law_refusal" (topS 54) ["_law_e"]) (m_isinstance : mg "isinstance" = none) (m_ValueError : mg "ValueError" = none) (m_range : mg "range" = none) (m_len : mg "len" = none) (m_tuple : mg "tuple" = none) (eK : ErrsK K mg homeE errsE fldsE) : CalH P w K mg base "_law_refusal" 1 s__law_refusal := by
  refine cal_ofH F sc__law_refusal (fun a cls d ds Q R h => ?_) fun f cdv A outer s H E p cls d tk pown hr held hotc => ?_
  · rcases h with ⟨p, _, rfl, _⟩ | ⟨_, rfl, _⟩ <;> rfl
  · by_cases hcls : cls ∈ errsE
    · refine ⟨_, (pss2_cons (ps2_set 1 sc__law_refusal.nd (pe2_lst (pa2_cons (.of (pe2_isErr 0 held eK hcls m_isinstance)) (pa2_cons (.of (pe2_isErr 0 held eK hcls m_isinstance)) (pa2_cons (.of (pe2_isErr 0 held eK hcls m_isinstance)) (pa2_cons (.of (pe2_isErr 0 held eK hcls m_isinstance)) pa2_nil))))))
      (pss2_cons (ps2_set 1 sc__law_refusal.nd (pe2_op o_add (pb2_name 1) (.of (pe2_lst (pa2_cons (.of (pe2_isErr 0 held eK hcls m_isinstance)) (pa2_cons (.of (pe2_isErr 0 held eK hcls m_isinstance)) (pa2_cons (.of (pe2_isErr 0 held eK hcls m_isinstance)) (pa2_cons (.of (pe2_isErr 0 held eK hcls m_isinstance)) pa2_nil))))))))
      (pss2_cons (ps2_set 1 sc__law_refusal.nd (pe2_op o_add (pb2_name 1) (.of (pe2_lst (pa2_cons (.of (pe2_isErr 0 held eK hcls m_isinstance)) (pa2_cons (.of (pe2_isErr 0 held eK hcls m_isinstance)) (pa2_cons (.of (pe2_isErr 0 held eK hcls m_isinstance)) (pa2_cons (.of (pe2_isErr 0 held eK hcls m_isinstance)) pa2_nil))))))))
      (pss2_cons (ps2_set 1 sc__law_refusal.nd (pe2_op o_add (pb2_name 1) (.of (pe2_lst (pa2_cons (.of (pe2_isErr 0 held eK hcls m_isinstance)) (pa2_cons (.of (pe2_isErr 0 held eK hcls m_isinstance)) (pa2_cons (.of (pe2_not (pe2_isVal 0 held eK hcls m_isinstance m_ValueError))) pa2_nil)))))))
      (pss2_cons (ps2_set 2 sc__law_refusal.nd (pe2_lst (pa2_cons (.of pe2_str) (pa2_cons (.of pe2_str) (pa2_cons (.of pe2_str) (pa2_cons (.of pe2_str) (pa2_cons (.of pe2_str) (pa2_cons (.of pe2_str) (pa2_cons (.of pe2_str) (pa2_cons (.of pe2_str) pa2_nil))))))))))
      (pss2_cons (ps2_set 2 sc__law_refusal.nd (pe2_op o_add (pb2_name 2) (.of (pe2_lst (pa2_cons (.of pe2_str) (pa2_cons (.of pe2_str) (pa2_cons (.of pe2_str) (pa2_cons (.of pe2_str) (pa2_cons (.of pe2_str) (pa2_cons (.of pe2_str) (pa2_cons (.of pe2_str) pa2_nil)))))))))))
      (pss2_cons (ps2_setLcH 3 (own := [("_law_k", 4)]) hotc sc__law_refusal.nd (sw_true rfl rfl rfl (by decide +kernel)) (piz2_range1 m_range (.of pe2_int)) (blkOk_by (own := [("_law_k", 4)]) (by kernel_rfl)) (fun _ _ _ _ _ => (pg2_name 4 sc__law_refusal.nd)) (fun _ _ _ _ _ => (pts2_one (pt2_tru (.of (pe2_ix (pb2_name 1) (pb2_name 4)))))) (fun _ _ _ _ _ => (.of (pe2_ix (pb2_name 2) (pb2_name 4)))))
      (pss2_cons (ps2_if ((pw2_and (pt2_cmp (o_eq (roomH_units hr)) (.of (pe2_callB f_len m_len (pl2_cons (pb2_name 3) pl2_nil))) (.of pe2_int)) (pw2_and1 (pt2_cmp (o_in (roomH_units hr)) (.of (pe2_ix (pb2_name 3) (.of pe2_int))) (.of (pe2_slice (pb2_name 2) po2_none (po2_some (.of pe2_int)))))))).pt (pss2_one (ps2_expr (pe2_mut1 3 PySem.F.slot_list_append PySem.F.type_list_append mt_append mut1_append (.of (pe2_errF 0 held eK hcls))))) (pss2_one (ps2_if (pt2_cmp (o_eq (roomH_units hr)) (pb2_name 3) (.of (pe2_lst (pa2_cons (.of pe2_str) pa2_nil)))) (pss2_one (ps2_set 3 sc__law_refusal.nd (pe2_op o_add (pb2_name 3) (.of (pe2_lst (pa2_cons (.of (pe2_errF 0 held eK hcls)) (pa2_cons (.of (pe2_errF 0 held eK hcls)) pa2_nil))))))) (pss2_one (ps2_if (pt2_cmp (o_eq (roomH_units hr)) (pb2_name 3) (.of (pe2_lst (pa2_cons (.of pe2_str) pa2_nil)))) (pss2_one (ps2_expr (pe2_mut1 3 PySem.F.slot_list_append PySem.F.type_list_append mt_append mut1_append (.of (pe2_errF 0 held eK hcls))))) pss2_nil)))))
      (pss2_one (ps2_ret (pe2_callTy f_tuple m_tuple (pl2_cons (.of (pe2_op o_add (.of (pe2_lst (pa2_cons (.of pe2_str) pa2_nil))) (pb2_name 3))) pl2_nil)))))))))))), fun ds Q R h => ?_⟩
      rcases h with ⟨pl, rfl, rfl, q⟩ | ⟨rfl, rfl, q⟩
      · show wSeq _ _ _ _ [.sh (.exc p.1 d ["place", "row"] [.int pl, .int 1]), .un, .un, .un, .un]
        simp only [show decide (Str.ofString "BadText" = Str.ofString "BadName") = false from by decide, show decide (Str.ofString "BadText" = Str.ofString "Duplicate") = false from by decide, show decide (Str.ofString "BadText" = Str.ofString "UnknownHouse") = false from by decide, show decide (Str.ofString "BadText" = Str.ofString "UnknownLine") = false from by decide, show decide (Str.ofString "BadText" = Str.ofString "BadLot") = false from by decide, show decide (Str.ofString "BadText" = Str.ofString "OutOfRange") = false from by decide, show decide (Str.ofString "BadText" = Str.ofString "TooMany") = false from by decide, show decide (Str.ofString "BadText" = Str.ofString "Unlike") = false from by decide, show decide (Str.ofString "BadText" = Str.ofString "BadTree") = false from by decide, show decide (Str.ofString "BadText" = Str.ofString "BadTable") = false from by decide, show decide (Str.ofString "BadText" = Str.ofString "BadText") = true from by decide, show decide (Str.ofString "BadText" = Str.ofString "BadPair") = false from by decide, show decide (Str.ofString "BadText" = Str.ofString "Weak") = false from by decide, show decide (Str.ofString "BadText" = Str.ofString "BadLog") = false from by decide]
        (refine Z.seq_of fun M hM => ?_; conv => whnf)
        iterate 4 (refine ⟨rfl, rfl, ?_⟩; conv => whnf)
        refine ⟨sz_of (by simp), ?_⟩
        (refine hM _ ?_; clear hM M; refine Z.seq_of fun M hM => ?_; conv => whnf)
        iterate 4 (refine ⟨rfl, rfl, ?_⟩; conv => whnf)
        refine ⟨sz_of (by simp), ?_⟩
        (conv => whnf)
        refine ⟨sz_of (by simp), ?_⟩
        (refine hM _ ?_; clear hM M; refine Z.seq_of fun M hM => ?_; conv => whnf)
        iterate 4 (refine ⟨rfl, rfl, ?_⟩; conv => whnf)
        refine ⟨sz_of (by simp), ?_⟩
        (conv => whnf)
        refine ⟨sz_of (by simp), ?_⟩
        (refine hM _ ?_; clear hM M; refine Z.seq_of fun M hM => ?_; conv => whnf)
        iterate 3 (refine ⟨rfl, rfl, ?_⟩; conv => whnf)
        refine ⟨sz_of (by simp), ?_⟩
        (conv => whnf)
        refine ⟨sz_of (by simp), ?_⟩
        (refine hM _ ?_; clear hM M; refine Z.seq_of fun M hM => ?_; conv => whnf)
        refine ⟨sz_of (by simp), ?_⟩
        (refine hM _ ?_; clear hM M; refine Z.seq_of fun M hM => ?_; conv => whnf)
        refine ⟨sz_of (by simp), ?_⟩
        (conv => whnf)
        refine ⟨sz_of (by simp), ?_⟩
        (refine hM _ ?_; clear hM M; refine Z.seq_of fun M hM => ?_; conv => whnf)
        refine ⟨⟨by decide, by decide⟩, ?_⟩
        generalize hds : rngD 0 (Int.toNat 15) = ds
        simp only [List.set_cons_zero, List.set_cons_succ, rsSl, List.cons_append, List.nil_append, Bool.not_true, decide_true, List.map_cons, List.map_nil, wipe2]
        refine lc_filt (fun ρ => ∃ x4, ρ = [.sh (.exc p.1 d ["place", "row"] [.int pl, .int 1]), .ow (.lst ([false, false, false, false, false, false, false, false, false, false, true, false, false, false, false].map D.bl)), .ow (.lst (refW.map D.str)), .un, x4])
          (fun e ρ => ρ = [.sh (.exc p.1 d ["place", "row"] [.int pl, .int 1]), .ow (.lst ([false, false, false, false, false, false, false, false, false, false, true, false, false, false, false].map D.bl)), .ow (.lst (refW.map D.str)), .un, .sh e]) (ixB [false, false, false, false, false, false, false, false, false, false, true, false, false, false, false]) (ixS refW) _ _ _ ⟨_, rfl⟩ (sz_of (by rw [← hds, rngD_len]; simp)) (fun e he ρ hρ k hk => ?_) (fun e he hp ρ hρ k hk => ?_) (fun e he hp ρ hρ => ?_) (fun ρ hρ => ?_)
        · obtain ⟨x, rfl⟩ := hρ
          rw [← hds] at he
          obtain ⟨i, hi, rfl⟩ := rngD_mem he
          (conv => whnf)
          rw [ixB_at (bs := [false, false, false, false, false, false, false, false, false, false, true, false, false, false, false]) (show i < 15 from hi)]
          (conv => whnf)
          exact hk _ rfl
        · subst hρ
          rw [← hds] at he
          obtain ⟨i, hi, rfl⟩ := rngD_mem he
          (conv => whnf)
          rw [ixS_at (zs := refW) (show i < 15 from hi)]
          (conv => whnf)
          exact hk _ ⟨_, rfl⟩
        · subst hρ
          exact ⟨_, rfl⟩
        · obtain ⟨x, rfl⟩ := hρ
          rw [← hds, show ([] ++ ((rngD 0 (Int.toNat 15)).filter (ixB [false, false, false, false, false, false, false, false, false, false, true, false, false, false, false])).map (ixS refW) : List D) = [.str "BadText"] from rfl]
          (refine hM _ ?_; clear hM M; refine Z.seq_of fun M hM => ?_; conv => whnf)
          refine ⟨sz_of (by simp), ?_⟩
          (conv => whnf)
          refine ⟨rfl, rfl, by decide +kernel, by decide +kernel, ?_⟩
          rw [show dEq (.lst [.str "BadText"]) (.lst [.str "BadText"]) = true from by decide +kernel]
          (conv => whnf)
          refine ⟨rfl, rfl, _, rfl, ?_⟩
          (conv => whnf)
          refine ⟨rfl, rfl, _, rfl, ?_⟩
          (conv => whnf)
          refine ⟨sz_of (by simp), ?_⟩
          (conv => whnf)
          refine ⟨sz_of (by simp), ?_⟩
          (refine hM _ ?_; clear hM M; conv => whnf)
          refine ⟨sz_of (by simp), ?_⟩
          (conv => whnf)
          refine ⟨sz_of (by simp), ?_⟩
          (conv => whnf)
          exact q
      · show wSeq _ _ _ _ [.sh (.exc p.1 d ["what"] [.str "row"]), .un, .un, .un, .un]
        simp only [show decide (Str.ofString "Unlike" = Str.ofString "BadName") = false from by decide, show decide (Str.ofString "Unlike" = Str.ofString "Duplicate") = false from by decide, show decide (Str.ofString "Unlike" = Str.ofString "UnknownHouse") = false from by decide, show decide (Str.ofString "Unlike" = Str.ofString "UnknownLine") = false from by decide, show decide (Str.ofString "Unlike" = Str.ofString "BadLot") = false from by decide, show decide (Str.ofString "Unlike" = Str.ofString "OutOfRange") = false from by decide, show decide (Str.ofString "Unlike" = Str.ofString "TooMany") = false from by decide, show decide (Str.ofString "Unlike" = Str.ofString "Unlike") = true from by decide, show decide (Str.ofString "Unlike" = Str.ofString "BadTree") = false from by decide, show decide (Str.ofString "Unlike" = Str.ofString "BadTable") = false from by decide, show decide (Str.ofString "Unlike" = Str.ofString "BadText") = false from by decide, show decide (Str.ofString "Unlike" = Str.ofString "BadPair") = false from by decide, show decide (Str.ofString "Unlike" = Str.ofString "Weak") = false from by decide, show decide (Str.ofString "Unlike" = Str.ofString "BadLog") = false from by decide]
        (refine Z.seq_of fun M hM => ?_; conv => whnf)
        iterate 4 (refine ⟨rfl, rfl, ?_⟩; conv => whnf)
        refine ⟨sz_of (by simp), ?_⟩
        (refine hM _ ?_; clear hM M; refine Z.seq_of fun M hM => ?_; conv => whnf)
        iterate 4 (refine ⟨rfl, rfl, ?_⟩; conv => whnf)
        refine ⟨sz_of (by simp), ?_⟩
        (conv => whnf)
        refine ⟨sz_of (by simp), ?_⟩
        (refine hM _ ?_; clear hM M; refine Z.seq_of fun M hM => ?_; conv => whnf)
        iterate 4 (refine ⟨rfl, rfl, ?_⟩; conv => whnf)
        refine ⟨sz_of (by simp), ?_⟩
        (conv => whnf)
        refine ⟨sz_of (by simp), ?_⟩
        (refine hM _ ?_; clear hM M; refine Z.seq_of fun M hM => ?_; conv => whnf)
        iterate 3 (refine ⟨rfl, rfl, ?_⟩; conv => whnf)
        refine ⟨sz_of (by simp), ?_⟩
        (conv => whnf)
        refine ⟨sz_of (by simp), ?_⟩
        (refine hM _ ?_; clear hM M; refine Z.seq_of fun M hM => ?_; conv => whnf)
        refine ⟨sz_of (by simp), ?_⟩
        (refine hM _ ?_; clear hM M; refine Z.seq_of fun M hM => ?_; conv => whnf)
        refine ⟨sz_of (by simp), ?_⟩
        (conv => whnf)
        refine ⟨sz_of (by simp), ?_⟩
        (refine hM _ ?_; clear hM M; refine Z.seq_of fun M hM => ?_; conv => whnf)
        refine ⟨⟨by decide, by decide⟩, ?_⟩
        generalize hds : rngD 0 (Int.toNat 15) = ds
        simp only [List.set_cons_zero, List.set_cons_succ, rsSl, List.cons_append, List.nil_append, Bool.not_true, decide_true, List.map_cons, List.map_nil, wipe2]
        refine lc_filt (fun ρ => ∃ x4, ρ = [.sh (.exc p.1 d ["what"] [.str "row"]), .ow (.lst ([false, false, false, false, false, false, false, true, false, false, false, false, false, false, false].map D.bl)), .ow (.lst (refW.map D.str)), .un, x4])
          (fun e ρ => ρ = [.sh (.exc p.1 d ["what"] [.str "row"]), .ow (.lst ([false, false, false, false, false, false, false, true, false, false, false, false, false, false, false].map D.bl)), .ow (.lst (refW.map D.str)), .un, .sh e]) (ixB [false, false, false, false, false, false, false, true, false, false, false, false, false, false, false]) (ixS refW) _ _ _ ⟨_, rfl⟩ (sz_of (by rw [← hds, rngD_len]; simp)) (fun e he ρ hρ k hk => ?_) (fun e he hp ρ hρ k hk => ?_) (fun e he hp ρ hρ => ?_) (fun ρ hρ => ?_)
        · obtain ⟨x, rfl⟩ := hρ
          rw [← hds] at he
          obtain ⟨i, hi, rfl⟩ := rngD_mem he
          (conv => whnf)
          rw [ixB_at (bs := [false, false, false, false, false, false, false, true, false, false, false, false, false, false, false]) (show i < 15 from hi)]
          (conv => whnf)
          exact hk _ rfl
        · subst hρ
          rw [← hds] at he
          obtain ⟨i, hi, rfl⟩ := rngD_mem he
          (conv => whnf)
          rw [ixS_at (zs := refW) (show i < 15 from hi)]
          (conv => whnf)
          exact hk _ ⟨_, rfl⟩
        · subst hρ
          exact ⟨_, rfl⟩
        · obtain ⟨x, rfl⟩ := hρ
          rw [← hds, show ([] ++ ((rngD 0 (Int.toNat 15)).filter (ixB [false, false, false, false, false, false, false, true, false, false, false, false, false, false, false])).map (ixS refW) : List D) = [.str "Unlike"] from rfl]
          (refine hM _ ?_; clear hM M; refine Z.seq_of fun M hM => ?_; conv => whnf)
          refine ⟨sz_of (by simp), ?_⟩
          (conv => whnf)
          refine ⟨rfl, rfl, by decide +kernel, by decide +kernel, ?_⟩
          rw [show dEq (.lst [.str "Unlike"]) (.lst [.str "BadText"]) = false from by decide +kernel]
          (conv => whnf)
          refine ⟨sz_of (by simp), ?_⟩
          (conv => whnf)
          refine ⟨rfl, rfl, by decide +kernel, by decide +kernel, ?_⟩
          rw [show dEq (.lst [.str "Unlike"]) (.lst [.str "Unlike"]) = true from by decide +kernel]
          (conv => whnf)
          refine ⟨rfl, rfl, _, rfl, ?_⟩
          (conv => whnf)
          refine ⟨sz_lt (by simp), ?_⟩
          (refine hM _ ?_; clear hM M; conv => whnf)
          refine ⟨sz_of (by simp), ?_⟩
          (conv => whnf)
          refine ⟨sz_of (by simp), ?_⟩
          (conv => whnf)
          exact q
    · obtain ⟨w2, h2⟩ := pss2_none _
      refine ⟨w2, h2, fun ds Q R h => (hcls ?_).elim⟩
      rcases h with ⟨p, rfl, rfl, q⟩ | ⟨rfl, rfl, q⟩ <;> decide
end
end K97

set_option maxHeartbeats 4000000
namespace K97
set_option autoImplicit false
open PySem PySem.Spec PyProof.Rows L2 L2H Z
section
variable {P : Program} {w : World} {K : PySem.W.Frag} {mg : Str → Option Value} {base : Heap}
def scP (d : D) : Prop := d = .non ∨ (∃ i, d = .int i) ∨ ∃ z, d = .str z
def plD : Nat → D → Prop
  | 0, d => scP d
  | n + 1, d => scP d ∨ ∃ ds : List D, d = .tup ds ∧ ds.length ≤ 200 ∧ ∀ e ∈ ds, plD n e
def s__law_likeR : Nat → Sp2
  | 0 => fun _ _ _ => False
  | n + 1 => fun ds Q _ => ∃ x, ds = [x, x] ∧ plD n x ∧ Q (.val (.bl true))
theorem tup_isa {d : D} (h : scP d) : ∃ t, tgD d = some t ∧ isaG t .lst = false ∧ isaG t .tup = false := by
  rcases h with rfl | ⟨i, rfl⟩ | ⟨z, rfl⟩ <;> exact ⟨_, rfl, rfl, rfl⟩
theorem plD_mono {n : Nat} : ∀ {d : D}, plD n d → plD (n + 1) d := by
  induction n with
  | zero => intro d h; exact .inl h
  | succ n ih =>
    intro d h
    rcases h with h | ⟨ds, e, hl, hd⟩
    · exact .inl h
    · exact .inr ⟨ds, e, hl, fun x hx => ih (hd x hx)⟩
theorem sc__law_like : FnScope ["_law_told", "_law_due", "_law_kind", "_law_k"] ["_law_told", "_law_due"] (defScope (topS 55)) := ⟨rfl, rfl, rfl, by decide +kernel, rfl, by decide +kernel, by decide +kernel⟩
theorem ok__law_like (F : DefAt K mg "_law_like" (topS 55) ["_law_told", "_law_due"]) (nn : Nat) (c__law_like : Cal P w K mg base "_law_like" nn false (s__law_likeR nn)) (m_isinstance : mg "isinstance" = none) (m_list : mg "list" = none) (m_tuple : mg "tuple" = none) (m_all : mg "all" = none) (m_range : mg "range" = none) (m_len : mg "len" = none) (m_bool : mg "bool" = none) (m_int : mg "int" = none) (m_str : mg "str" = none) : Cal P w K mg base "_law_like" (nn + 1) false (s__law_likeR (nn + 1)) := by
  refine cal_of F sc__law_like (fun ds Q R h => ?_) fun f cdv A outer s H E tk pown hr => ⟨_, (pss2_cons (ps2_if (pt2_val (pe2_callB f_isi m_isinstance (pl2_cons (pb2_name 1) (pl2_cons (.of (pe2_tup (pa2_cons (.of (pe2_ty .lst m_list)) (pa2_cons (.of (pe2_ty .tup m_tuple)) pa2_nil)))) pl2_nil)))) (pss2_cons (ps2_set 2 sc__law_like.nd (pe2_and (pe2_callB f_isi m_isinstance (pl2_cons (pb2_name 0) (pl2_cons (.of (pe2_tup (pa2_cons (.of (pe2_ty .lst m_list)) (pa2_cons (.of (pe2_ty .tup m_tuple)) pa2_nil)))) pl2_nil))) (pe2_one (pe2_cmp (o_eq hr.units) (.of (pe2_callB f_isi m_isinstance (pl2_cons (pb2_name 0) (pl2_cons (.of (pe2_ty .lst m_list)) pl2_nil)))) (.of (pe2_callB f_isi m_isinstance (pl2_cons (pb2_name 1) (pl2_cons (.of (pe2_ty .lst m_list)) pl2_nil))))))))
      (pss2_one (ps2_ret (pe2_and (.of (pv2_name 2)) (pe2_and (pe2_cmp (o_eq hr.units) (.of (pe2_callB f_len m_len (pl2_cons (pb2_name 0) pl2_nil))) (.of (pe2_callB f_len m_len (pl2_cons (pb2_name 1) pl2_nil)))) (pe2_one (pe2_callB (f_all rfl) m_all (pl2_cons (.of (pe2_lc (own := [("_law_k", 3)]) rfl sc__law_like.nd (pi2_range1 m_range (.of (pe2_callB f_len m_len (pl2_cons (pb2_name 1) pl2_nil)))) (blkOk_by (own := [("_law_k", 3)]) (by kernel_rfl)) (fun _ _ _ _ _ => (pg2_name 3 sc__law_like.nd)) (fun _ _ _ _ _ => pts2_nil) (fun _ _ _ _ _ => (.of (pe2_fn takesN0 c__law_like hr (pa2_cons (.of (pe2_ix (pb2_name 0) (pb2_name 3))) (pa2_cons (.of (pe2_ix (pb2_name 1) (pb2_name 3))) pa2_nil))))))) pl2_nil)))))))) pss2_nil)
      (pss2_cons (ps2_if ((pw2_or (pt2_cmp o_is (pb2_name 1) (.of pe2_non)) (pw2_or1 (pt2_cmp o_is (pb2_name 0) (.of pe2_non))))).pt (pss2_one (ps2_ret (pe2_and (pe2_cmp o_is (pb2_name 1) (.of pe2_non)) (pe2_one (pe2_cmp o_is (pb2_name 0) (.of pe2_non)))))) pss2_nil)
      (pss2_one (ps2_ret (pe2_and (pe2_callB f_isi m_isinstance (pl2_cons (pb2_name 0) (pl2_cons (.of (pe2_tup (pa2_cons (.of (pe2_ty .int m_int)) (pa2_cons (.of (pe2_ty .str m_str)) pa2_nil)))) pl2_nil))) (pe2_and (pe2_cmp (o_eq hr.units) (.of (pe2_callB f_isi m_isinstance (pl2_cons (pb2_name 0) (pl2_cons (.of (pe2_ty .bl m_bool)) pl2_nil)))) (.of (pe2_callB f_isi m_isinstance (pl2_cons (pb2_name 1) (pl2_cons (.of (pe2_ty .bl m_bool)) pl2_nil))))) (pe2_one (pe2_cmp (o_eq hr.units) (pb2_name 0) (pb2_name 1))))))))), fun ds Q R h => ?_⟩
  · obtain ⟨x, rfl, _⟩ := h; rfl
  · obtain ⟨x, rfl, hx, q⟩ := h
    clear F tk pown hr
    have hx' : scP x ∨ ∃ n es, nn = n + 1 ∧ x = .tup es ∧ es.length ≤ 200 ∧ ∀ e ∈ es, plD n e := by
      cases nn with
      | zero => exact .inl hx
      | succ n =>
        rcases hx with hx | ⟨es, e, hl, he⟩
        · exact .inl hx
        · exact .inr ⟨n, es, rfl, e, hl, he⟩
    show wSeq _ _ _ _ [.sh x, .sh x, .un, .un]
    have hsz := sizeLine_eq
    rcases hx' with (rfl | ⟨i, rfl⟩ | ⟨z, rfl⟩) | ⟨n, es, rfl, rfl, hl, he⟩
    · (refine Z.seq_of fun M hM => ?_; conv => whnf)
      refine ⟨sz_of (by simp), ?_⟩
      (conv => whnf)
      (refine hM _ ?_; clear hM M; refine Z.seq_of fun M hM => ?_; conv => whnf)
      refine ⟨rfl, ?_⟩
      (conv => whnf)
      refine ⟨rfl, ?_⟩
      (conv => whnf)
      refine ⟨rfl, ?_⟩
      (conv => whnf)
      exact q
    · (refine Z.seq_of fun M hM => ?_; conv => whnf)
      refine ⟨sz_of (by simp), ?_⟩
      (conv => whnf)
      (refine hM _ ?_; clear hM M; refine Z.seq_of fun M hM => ?_; conv => whnf)
      refine ⟨rfl, ?_⟩
      (conv => whnf)
      refine ⟨rfl, ?_⟩
      (conv => whnf)
      (refine hM _ ?_; clear hM M; conv => whnf)
      refine ⟨sz_of (by simp), ?_⟩
      (conv => whnf)
      rw [show decide (i = i) = true from decide_eq_true rfl]
      exact q
    · (refine Z.seq_of fun M hM => ?_; conv => whnf)
      refine ⟨sz_of (by simp), ?_⟩
      (conv => whnf)
      (refine hM _ ?_; clear hM M; refine Z.seq_of fun M hM => ?_; conv => whnf)
      refine ⟨rfl, ?_⟩
      (conv => whnf)
      refine ⟨rfl, ?_⟩
      (conv => whnf)
      (refine hM _ ?_; clear hM M; conv => whnf)
      refine ⟨sz_of (by simp), ?_⟩
      (conv => whnf)
      rw [show decide (z = z) = true from decide_eq_true rfl]
      exact q
    · (refine Z.seq_of fun M hM => ?_; conv => whnf)
      refine ⟨sz_of (by simp), ?_⟩
      (conv => whnf)
      refine ⟨sz_of (by simp), ?_⟩
      (conv => whnf)
      rw [show decide ((es.length : Int) = es.length) = true from decide_eq_true rfl]
      (conv => whnf)
      refine ⟨⟨by omega, by omega⟩, ?_⟩
      refine lc_rel (fun ρ => ∃ x, ρ = [.sh (.tup es), .sh (.tup es), .sh (.bl true), x]) (fun _ e => e = .bl true) _ _ _ ⟨_, rfl⟩ (by rw [rngD_len, List.length_nil, sizeLine_eq]; omega) (fun a ha ρ hρ k hk => ?_) fun bs ρ hbs hρ => ?_
      · obtain ⟨x, rfl⟩ := hρ
        obtain ⟨i, hi, rfl⟩ := rngD_mem ha
        rw [Int.zero_add]
        have hi' : i < es.length := by omega
        (conv => whnf)
        rw [show atI es (i : Int) = some es[i] from Z.atI_nat hi']
        (conv => whnf)
        rw [show atI es (i : Int) = some es[i] from Z.atI_nat hi']
        (conv => whnf)
        exact ⟨es[i], rfl, he _ (List.getElem_mem hi'), hk _ _ rfl ⟨_, rfl⟩⟩
      · obtain ⟨x, rfl⟩ := hρ
        rw [List.nil_append]
        (conv => whnf)
        have : bs = (List.replicate bs.length true).map D.bl := by
          rw [List.map_replicate, List.eq_replicate_iff]
          exact ⟨rfl, Each.all (fun a _ b h => h) hbs⟩
        rw [this, show (List.replicate bs.length true).map D.bl = (List.replicate bs.length true).map fun b => D.bl (id b) from rfl, bools_map]
        have e : ((List.replicate bs.length true).map id).all id = true := by rw [List.map_id, List.all_eq_true]; exact fun b hb => (List.mem_replicate.mp hb).2
        (conv => whnf)
        rw [e]
        exact q
theorem cal_no {x : Str} {sd : Stmt} {ps : List Str} {k : Nat} (F : DefAt K mg x sd ps) : Cal P w K mg base x k false fun _ _ _ => False := by
  obtain ⟨f, fd, F1, F2, F3⟩ := F.ex
  refine ⟨f, fd, ps, ⟨fun vs H Q E h => ?_, fun A outer s H args us vs Q E _ _ _ _ h => ?_⟩, F2, F1.kp, F3⟩
  · obtain ⟨_, _, _, _, _, _, _, _, _, _, z, _⟩ := h; exact z.elim
  · obtain ⟨_, _, _, _, _, _, _, _, _, _, z, _⟩ := h; exact z.elim
end
end K97

set_option maxHeartbeats 4000000
namespace K97
set_option autoImplicit false
open PySem PySem.Spec PyProof.Rows L2 L2H Z
section
variable {P : Program} {w : World} {K : PySem.W.Frag} {mg : Str → Option Value} {base : Heap}
def s__law_like : Sp2 := s__law_likeR 6
def readD (z : Str) : D := match rrW (sp z) z.length with
  | .inl p => .tup [.str "refused", .str "BadText", .int 1, .int p]
  | .inr vs => .tup vs
def s__law_read : Sp2 := fun ds Q _ => ∃ z, ds = [.str z] ∧ z.length ≤ 100000 ∧ Q (.val (readD z))
theorem sc__law_read : FnScope ["_law_text_here", "_law_e"] ["_law_text_here"] (defScope (topS 56)) := ⟨rfl, rfl, rfl, by decide +kernel, rfl, by decide +kernel, by decide +kernel⟩
theorem ok__law_read (F : DefAt K mg "_law_read" (topS 56) ["_law_text_here"]) (c_read_row : Cal P w K mg base "read_row" 3 false s_read_row) (c__law_refusal : CalH P w K mg base "_law_refusal" 1 s__law_refusal) (eK : ErrsK K mg homeE errsE fldsE) : Cal P w K mg base "_law_read" 4 false s__law_read := by
  refine cal_of F sc__law_read (fun ds Q R h => ?_) fun f cdv A outer s H E tk pown hr => ⟨_, (pss2_one (ps2_tryE 1 eK sc__law_read.nd tk (fun W' pn xe tk' pw' => (pss2_one (ps2_ret (pe2_fn tk' c_read_row (hr.mono (by decide)) (pa2_cons (pv2_name 0) pa2_nil))))) (fun a oe cls d pn held hot => (pss2_one (ps2_ret (pe2_fnH takesN0 c__law_refusal (roomH_mark (hr.mono (by decide)) _) held hot (pa2_cons (pv2_name 1) pa2_nil))))))), fun ds Q R h => ?_⟩
  · obtain ⟨z, rfl, _⟩ := h; rfl
  · obtain ⟨z, rfl, hz, q⟩ := h
    clear F tk pown hr
    unfold readD at q
    show wTry _ _ _ _ _ _ [.sh (.str z), .un]
    conv => whnf
    refine ⟨z, rfl, hz, ?_⟩
    cases hr : rrW (sp z) z.length with
    | inl p =>
      rw [hr] at q
      intro a d
      (conv => whnf)
      exact .inl ⟨p, rfl, rfl, q⟩
    | inr vs =>
      rw [hr] at q
      exact q
def writeD (ws : List D) : D := if rowOk ws = true then .str (rowS ws) else .tup [.str "refused", .str "Unlike", .str "row"]
def s__law_write : Sp2 := fun ds Q _ => ∃ ws, ds = [.tup ws] ∧ (∀ d ∈ ws, okW d) ∧ ws.length ≤ 100 ∧ Q (.val (writeD ws))
theorem sc__law_write : FnScope ["_law_words_here", "_law_e"] ["_law_words_here"] (defScope (topS 57)) := ⟨rfl, rfl, rfl, by decide +kernel, rfl, by decide +kernel, by decide +kernel⟩
theorem ok__law_write (F : DefAt K mg "_law_write" (topS 57) ["_law_words_here"]) (c_write_row : Cal P w K mg base "write_row" 4 false s_write_row) (c__law_refusal : CalH P w K mg base "_law_refusal" 1 s__law_refusal) (eK : ErrsK K mg homeE errsE fldsE) : Cal P w K mg base "_law_write" 5 false s__law_write := by
  refine cal_of F sc__law_write (fun ds Q R h => ?_) fun f cdv A outer s H E tk pown hr => ⟨_, (pss2_one (ps2_tryE 1 eK sc__law_write.nd tk (fun W' pn xe tk' pw' => (pss2_one (ps2_ret (pe2_fn tk' c_write_row (hr.mono (by decide)) (pa2_cons (pv2_name 0) pa2_nil))))) (fun a oe cls d pn held hot => (pss2_one (ps2_ret (pe2_fnH takesN0 c__law_refusal (roomH_mark (hr.mono (by decide)) _) held hot (pa2_cons (pv2_name 1) pa2_nil))))))), fun ds Q R h => ?_⟩
  · obtain ⟨z, rfl, _⟩ := h; rfl
  · obtain ⟨ws, rfl, hw, hl, q⟩ := h
    clear F tk pown hr
    unfold writeD at q
    show wTry _ _ _ _ _ _ [.sh (.tup ws), .un]
    (conv => whnf)
    refine ⟨ws, rfl, hw, hl, ?_⟩
    cases hr : rowOk ws with
    | false =>
      rw [hr] at q
      intro a d
      (conv => whnf)
      exact .inr ⟨rfl, rfl, q⟩
    | true =>
      rw [hr] at q
      exact q
theorem readD_pl (z : Str) : plD 5 (readD z) := by
  unfold readD
  cases hr : rrW (sp z) z.length with
  | inl p => exact .inr ⟨_, rfl, by simp, fun e he => by
      simp only [List.mem_cons, List.not_mem_nil, or_false] at he
      rcases he with rfl | rfl | rfl | rfl <;> first | exact .inl (.inr (.inr ⟨_, rfl⟩)) | exact .inl (.inr (.inl ⟨_, rfl⟩))⟩
  | inr vs =>
    obtain ⟨_, _, h3, h4⟩ := read_back hr
    refine .inr ⟨_, rfl, by omega, fun e he => ?_⟩
    rcases h3 e he with ⟨z, rfl, _⟩ | ⟨i, rfl, _⟩
    · exact .inl (.inr (.inr ⟨_, rfl⟩))
    · exact .inl (.inr (.inl ⟨_, rfl⟩))
def s__law_look : Sp2 := fun ds Q _ => ∃ z, ds = [.str z] ∧ z.length ≤ 100000 ∧ Q (.val (.bl true))
theorem sc__law_look : FnScope ["_law_text_here", "_law_due", "_law_told"] ["_law_text_here"] (defScope (topS 58)) := ⟨rfl, rfl, rfl, by decide +kernel, rfl, by decide +kernel, by decide +kernel⟩
theorem ok__law_look (F : DefAt K mg "_law_look" (topS 58) ["_law_text_here"]) (c__law_read_row : Cal P w K mg base "_law_read_row" 3 false s__law_read_row) (c__law_read : Cal P w K mg base "_law_read" 4 false s__law_read) (c__law_like : Cal P w K mg base "_law_like" 6 false s__law_like) (c__law_write : Cal P w K mg base "_law_write" 5 false s__law_write) : Cal P w K mg base "_law_look" 7 false s__law_look := by
  refine cal_of F sc__law_look (fun ds Q R h => ?_) fun f cdv A outer s H E tk pown hr => ⟨_, (pss2_cons (ps2_set 1 sc__law_look.nd (pe2_fn tk c__law_read_row (hr.mono (by decide)) (pa2_cons (pv2_name 0) pa2_nil)))
      (pss2_cons (ps2_set 2 sc__law_look.nd (pe2_fn tk c__law_read (hr.mono (by decide)) (pa2_cons (pv2_name 0) pa2_nil)))
      (pss2_cons (ps2_if (pt2_cmp (o_eq hr.units) (.of (pe2_ix (pb2_name 1) (.of pe2_int))) (.of pe2_str)) (pss2_one (ps2_ret (pe2_and (pe2_fn tk c__law_like (hr.mono (by decide)) (pa2_cons (pv2_name 2) (pa2_cons (.of (pe2_tup (pa2_cons (.of pe2_str) (pa2_cons (.of pe2_str) (pa2_cons (.of pe2_int) (pa2_cons (.of (pe2_ix (pb2_name 1) (.of pe2_int))) pa2_nil)))))) pa2_nil))) (pe2_one (pe2_fn tk c__law_like (hr.mono (by decide)) (pa2_cons (.of (pe2_fn tk c__law_read (hr.mono (by decide)) (pa2_cons (pv2_name 0) pa2_nil))) (pa2_cons (pv2_name 2) pa2_nil))))))) pss2_nil)
      (pss2_one (ps2_ret (pe2_and (pe2_fn tk c__law_like (hr.mono (by decide)) (pa2_cons (pv2_name 2) (pa2_cons (.of (pe2_ix (pb2_name 1) (.of pe2_int))) pa2_nil))) (pe2_and (pe2_fn tk c__law_like (hr.mono (by decide)) (pa2_cons (.of (pe2_fn tk c__law_read (hr.mono (by decide)) (pa2_cons (pv2_name 0) pa2_nil))) (pa2_cons (pv2_name 2) pa2_nil))) (pe2_one (pe2_fn tk c__law_like (hr.mono (by decide)) (pa2_cons (.of (pe2_fn tk c__law_write (hr.mono (by decide)) (pa2_cons (pv2_name 2) pa2_nil))) (pa2_cons (pv2_name 0) pa2_nil))))))))))), fun ds Q R h => ?_⟩
  · obtain ⟨z, rfl, _⟩ := h; rfl
  · obtain ⟨z, rfl, hz, q⟩ := h
    clear F tk pown hr
    show wSeq _ _ _ _ [.sh (.str z), .un, .un]
    (refine Z.seq_of fun M hM => ?_; conv => whnf)
    refine ⟨z, rfl, hz, ?_⟩
    (conv => whnf)
    (refine hM _ ?_; clear hM M; refine Z.seq_of fun M hM => ?_; conv => whnf)
    refine ⟨z, rfl, hz, ?_⟩
    (conv => whnf)
    (refine hM _ ?_; clear hM M)
    have hpl := readD_pl z
    cases hr : rrW (sp z) z.length with
    | inl p =>
      have e1 : rrD z = .tup [.str "bad", .int p] := by unfold rrD; rw [hr]
      have e2 : readD z = .tup [.str "refused", .str "BadText", .int 1, .int p] := by unfold readD; rw [hr]
      rw [e1, e2]
      rw [e2] at hpl
      (refine Z.seq_of fun M hM => ?_; conv => whnf)
      refine ⟨sz_of (by simp), ?_⟩
      (conv => whnf)
      refine ⟨_, rfl, hpl, ?_⟩
      (conv => whnf)
      refine ⟨z, rfl, hz, ?_⟩
      rw [e2]
      (conv => whnf)
      exact ⟨_, rfl, hpl, q⟩
    | inr vs =>
      have e1 : rrD z = .tup [.str "row", .tup vs] := by unfold rrD; rw [hr]
      have e2 : readD z = .tup vs := by unfold readD; rw [hr]
      obtain ⟨b1, b2, b3, b4⟩ := read_back hr
      rw [e1, e2]
      rw [e2] at hpl
      (refine Z.seq_of fun M hM => ?_; conv => whnf)
      (refine hM _ ?_; clear hM M; conv => whnf)
      refine ⟨_, rfl, hpl, ?_⟩
      (conv => whnf)
      refine ⟨z, rfl, hz, ?_⟩
      rw [e2]
      (conv => whnf)
      refine ⟨_, rfl, hpl, ?_⟩
      (conv => whnf)
      refine ⟨vs, rfl, b3, by omega, ?_⟩
      have e3 : writeD vs = .str z := by unfold writeD; rw [b1, if_pos rfl, b2]
      rw [e3]
      (conv => whnf)
      exact ⟨_, rfl, .inl (.inr (.inr ⟨_, rfl⟩)), q⟩
def s__law_look_words : Sp2 := fun ds Q _ => ∃ ws, ds = [.tup ws] ∧ (∀ d ∈ ws, okW d) ∧ ws.length ≤ 100 ∧ Q (.val (.bl true))
theorem words_pl {ws : List D} (h : ∀ d ∈ ws, okW d) (hl : ws.length ≤ 100) : plD 5 (.tup ws) := .inr ⟨_, rfl, by omega, fun e he => by
    rcases h e he with ⟨z, rfl, _⟩ | ⟨i, rfl, _⟩
    · exact .inl (.inr (.inr ⟨_, rfl⟩))
    · exact .inl (.inr (.inl ⟨_, rfl⟩))⟩
theorem sc__law_look_words : FnScope ["_law_words_here", "_law_told"] ["_law_words_here"] (defScope (topS 59)) := ⟨rfl, rfl, rfl, by decide +kernel, rfl, by decide +kernel, by decide +kernel⟩
theorem ok__law_look_words (F : DefAt K mg "_law_look_words" (topS 59) ["_law_words_here"]) (c__law_write : Cal P w K mg base "_law_write" 5 false s__law_write) (c__law_is_words : Cal P w K mg base "_law_is_words" 2 false s__law_is_words) (c__law_like : Cal P w K mg base "_law_like" 6 false s__law_like) (c__law_read : Cal P w K mg base "_law_read" 4 false s__law_read) (c__law_row_text : Cal P w K mg base "_law_row_text" 1 false s__law_row_text) : Cal P w K mg base "_law_look_words" 7 false s__law_look_words := by
  refine cal_of F sc__law_look_words (fun ds Q R h => ?_) fun f cdv A outer s H E tk pown hr => ⟨_, (pss2_cons (ps2_set 1 sc__law_look_words.nd (pe2_fn tk c__law_write (hr.mono (by decide)) (pa2_cons (pv2_name 0) pa2_nil)))
      (pss2_cons (ps2_if (pt2_not (pt2_val (pe2_fn tk c__law_is_words (hr.mono (by decide)) (pa2_cons (pv2_name 0) pa2_nil)))) (pss2_one (ps2_ret (pe2_fn tk c__law_like (hr.mono (by decide)) (pa2_cons (pv2_name 1) (pa2_cons (.of (pe2_tup (pa2_cons (.of pe2_str) (pa2_cons (.of pe2_str) (pa2_cons (.of pe2_str) pa2_nil))))) pa2_nil))))) pss2_nil)
      (pss2_one (ps2_ret (pe2_and (pe2_fn tk c__law_like (hr.mono (by decide)) (pa2_cons (pv2_name 1) (pa2_cons (.of (pe2_fn tk c__law_row_text (hr.mono (by decide)) (pa2_cons (pv2_name 0) pa2_nil))) pa2_nil))) (pe2_one (pe2_fn tk c__law_like (hr.mono (by decide)) (pa2_cons (.of (pe2_fn tk c__law_read (hr.mono (by decide)) (pa2_cons (pv2_name 1) pa2_nil))) (pa2_cons (pv2_name 0) pa2_nil))))))))), fun ds Q R h => ?_⟩
  · obtain ⟨z, rfl, _⟩ := h; rfl
  · obtain ⟨ws, rfl, hw, hl, q⟩ := h
    clear F tk pown hr
    show wSeq _ _ _ _ [.sh (.tup ws), .un]
    (refine Z.seq_of fun M hM => ?_; conv => whnf)
    refine ⟨ws, rfl, hw, hl, ?_⟩
    (conv => whnf)
    (refine hM _ ?_; clear hM M; refine Z.seq_of fun M hM => ?_; conv => whnf)
    refine ⟨ws, rfl, hw, hl, ?_⟩
    cases hr : rowOk ws with
    | false =>
      have e1 : writeD ws = .tup [.str "refused", .str "Unlike", .str "row"] := by unfold writeD; rw [hr]; rfl
      rw [e1]
      (conv => whnf)
      refine ⟨sz_of (by simp), ?_⟩
      (conv => whnf)
      exact ⟨_, rfl, .inr ⟨_, rfl, by simp, fun e he => by
        simp only [List.mem_cons, List.not_mem_nil, or_false] at he
        rcases he with rfl | rfl | rfl <;> exact .inl (.inr (.inr ⟨_, rfl⟩))⟩, q⟩
    | true =>
      have e1 : writeD ws = .str (rowS ws) := by unfold writeD; rw [hr]; rfl
      obtain ⟨b1, b2⟩ := write_back hr
      have e2 : readD (rowS ws) = .tup ws := by unfold readD; rw [b1]
      rw [e1]
      (conv => whnf)
      (refine hM _ ?_; clear hM M; conv => whnf)
      refine ⟨ws, rfl, hw, hl, ?_⟩
      (conv => whnf)
      refine ⟨_, rfl, .inl (.inr (.inr ⟨_, rfl⟩)), ?_⟩
      (conv => whnf)
      refine ⟨_, rfl, by omega, ?_⟩
      rw [e2]
      (conv => whnf)
      exact ⟨_, rfl, words_pl hw hl, q⟩
end
end K97

set_option maxHeartbeats 4000000
namespace K97
set_option autoImplicit false
open PySem PySem.Spec PyProof.Rows L2 L2H Z
section
variable {P : Program} {w : World} {K : PySem.W.Frag} {mg : Str → Option Value} {base : Heap}
def s_law : Sp2 := fun ds Q _ => ∃ ns : List Int, ds = [.scr ns] ∧ ns.length ≤ 63 ∧ Q (.val (.bl true))
theorem sc_law : FnScope ["_law_script", "_law_store_here", "_law_k", "_law_words_here", "_law_text_here", "_law_near"] ["_law_script"] (defScope (topS 62)) := ⟨rfl, rfl, rfl, by decide +kernel, rfl, by decide +kernel, by decide +kernel⟩
theorem ok_law {f0 : Addr} {fd0 : FuncData} (F : FunD K "law" "law" (defArgs (topS 62)) (defBody (topS 62)) (defScope (topS 62)) [] [] f0 fd0) (c__law_store : Cal P w K mg base "_law_store" 2 false s__law_store) (m_range : mg "range" = none) (c__law_draw_words : Cal P w K mg base "_law_draw_words" 5 true s__law_draw_words) (c__law_row_text : Cal P w K mg base "_law_row_text" 1 false s__law_row_text) (c__law_look_words : Cal P w K mg base "_law_look_words" 7 false s__law_look_words) (c__law_look : Cal P w K mg base "_law_look" 7 false s__law_look) (c__law_near_row : Cal P w K mg base "_law_near_row" 7 true s__law_near_row) (c__law_bent_sign : Cal P w K mg base "_law_bent_sign" 6 true s__law_bent_sign) (c__law_bent_words : Cal P w K mg base "_law_bent_words" 7 true s__law_bent_words) (c__law_text : Cal P w K mg base "_law_text" 6 true s__law_text) : FnOk P w K mg base (L2N.CX P w) 8 f0 fd0 ["_law_script"] (toSp K false s_law) := by
  refine fn_ofN F sc_law (fun ds Q R h => ?_) fun f cdv A outer s H E tk pown hr => ⟨_, (pss2_mkSto 1 sc_law.nd (pe2_fn tk c__law_store (hr.mono (by decide)) (pa2_cons (pv2_name 0) pa2_nil))
      (pss2_cons (ps2_for pown rfl (pi2_range1 m_range (.of pe2_int)) (pg2_name 2 sc_law.nd) (pss2_cons (ps2_set 3 sc_law.nd (pe2_fnS 1 tk c__law_draw_words (hr.mono (by decide)) pa2_nil))
      (pss2_cons (ps2_set 4 sc_law.nd (pe2_fn tk c__law_row_text (hr.mono (by decide)) (pa2_cons (pv2_name 3) pa2_nil)))
      (pss2_cons (ps2_if ((pw2_or (pt2_not (pt2_val (pe2_fn tk c__law_look (hr.mono (by decide)) (pa2_cons (pv2_name 4) pa2_nil)))) (pw2_or1 (pt2_not (pt2_val (pe2_fn tk c__law_look_words (hr.mono (by decide)) (pa2_cons (pv2_name 3) pa2_nil))))))).pt (pss2_one (ps2_ret pe2_bl)) pss2_nil)
      (pss2_cons (ps2_for pown rfl (pi2_list (.of (pe2_lst (pa2_cons (.of (pe2_fnS 1 tk c__law_near_row (hr.mono (by decide)) (pa2_cons (pv2_name 4) pa2_nil))) (pa2_cons (.of (pe2_fnS 1 tk c__law_bent_sign (hr.mono (by decide)) (pa2_cons (pv2_name 4) pa2_nil))) (pa2_cons (.of (pe2_op o_add (pb2_name 4) (.of pe2_str))) (pa2_cons (.of (pe2_op o_add (.of pe2_str) (pb2_name 4))) (pa2_cons (.of (pe2_op o_add (pb2_name 4) (.of pe2_str))) pa2_nil)))))))) (pg2_name 5 sc_law.nd) (pss2_one (ps2_if (pt2_not (pt2_val (pe2_fn tk c__law_look (hr.mono (by decide)) (pa2_cons (pv2_name 5) pa2_nil)))) (pss2_one (ps2_ret pe2_bl)) pss2_nil)))
      (pss2_cons (ps2_for pown rfl (pi2_list (.of (pe2_lst (pa2_cons (.of (pe2_fnS 1 tk c__law_bent_words (hr.mono (by decide)) (pa2_cons (pv2_name 3) pa2_nil))) (pa2_cons (.of (pe2_fnS 1 tk c__law_bent_words (hr.mono (by decide)) (pa2_cons (.of (pe2_fnS 1 tk c__law_bent_words (hr.mono (by decide)) (pa2_cons (pv2_name 3) pa2_nil))) pa2_nil))) pa2_nil))))) (pg2_name 5 sc_law.nd) (pss2_one (ps2_if (pt2_not (pt2_val (pe2_fn tk c__law_look_words (hr.mono (by decide)) (pa2_cons (pv2_name 5) pa2_nil)))) (pss2_one (ps2_ret pe2_bl)) pss2_nil)))
      (pss2_one (ps2_if ((pw2_or (pt2_not (pt2_val (pe2_fn tk c__law_look (hr.mono (by decide)) (pa2_cons (.of (pe2_fnS 1 tk c__law_text (hr.mono (by decide)) (pa2_cons (.of pe2_int) pa2_nil))) pa2_nil)))) (pw2_or (pt2_not (pt2_val (pe2_fn tk c__law_look (hr.mono (by decide)) (pa2_cons (.of (pe2_upper (pb2_name 4))) pa2_nil)))) (pw2_or1 (pt2_not (pt2_val (pe2_fn tk c__law_look (hr.mono (by decide)) (pa2_cons (.of (pe2_ix (pb2_name 3) (.of pe2_int))) pa2_nil)))))))).pt (pss2_one (ps2_ret pe2_bl)) pss2_nil))))))))
      (pss2_one (ps2_ret pe2_bl)))), fun ds Q R h => ?_⟩
  · obtain ⟨z, rfl, _⟩ := h; rfl
  · obtain ⟨ns, rfl, hn, q⟩ := h
    clear F tk pown hr
    have hsz := sizeLine_eq
    show wMkSto _ _ _ _ _ [.sh (.scr ns), .un, .un, .un, .un, .un]
    conv => whnf
    refine ⟨ns, rfl, hn, fun s hs0 hs1 => ⟨ns, s, rfl, hn, hs0, hs1, ?_⟩⟩
    refine seq_of fun M hM => ?_
    conv => whnf
    refine ⟨⟨by decide, by decide⟩, ?_⟩
    refine wFor_of (fun i ρ => ∃ x2 x3 x4 x5 : Sl, ρ = [.sh (.scr ns), .st, x2, x3, x4, x5]) ⟨_, _, _, _, rfl⟩ (fun i d hd nx hnx ρ hρ => ?_) (fun ρ hρ => ?_)
    · obtain ⟨x2, x3, x4, x5, rfl⟩ := hρ
      obtain ⟨hi, rfl⟩ := rngD_get hd
      refine seq_of fun M2 hM2 => ?_
      (conv => whnf)
      refine ⟨rfl, fun w0 vs hw0 hvs hvl => ?_⟩
      (conv => whnf)
      have hws : ∀ d ∈ D.str w0 :: vs, okT d := fun d hd => by
        rcases List.mem_cons.mp hd with e | e
        · rw [e]; exact okT_str (by omega)
        · exact hvs d e
      have hwl : (D.str w0 :: vs).length ≤ 5 := by rw [List.length_cons]; omega
      have hat : atI (D.str w0 :: vs) 0 = some (.str w0) := Z.atI_zero
      generalize D.str w0 :: vs = ws at hws hwl hat ⊢
      refine hM2 _ ?_
      clear hM2 M2
      refine seq_of fun M2 hM2 => ?_
      (conv => whnf)
      refine ⟨ws, rfl, fun d hd => (hws d hd).1, by omega, ?_⟩
      have hz : (rowS ws).length ≤ 200 := by
        have h1 := len_join SP (ws.map wdS)
        have h2 := sum_le Str.length 20 (ws.map wdS) fun w hw => by
          obtain ⟨d, hd, rfl⟩ := List.mem_map.mp hw
          exact (hws d hd).2
        rw [List.length_map] at h1 h2
        rw [show SP.length = 1 from rfl] at h1
        show (Str.join SP (ws.map wdS)).length ≤ 200
        omega
      generalize rowS ws = z at hz ⊢
      (conv => whnf)
      refine hM2 _ ?_
      clear hM2 M2
      refine seq_of fun M2 hM2 => ?_
      (conv => whnf)
      refine ⟨z, rfl, by omega, ?_⟩
      (conv => whnf)
      refine ⟨ws, rfl, fun d hd => (hws d hd).1, by omega, ?_⟩
      (conv => whnf)
      refine hM2 _ ?_
      clear hM2 M2
      refine seq_of fun M2 hM2 => ?_
      (conv => whnf)
      refine ⟨z, rfl, by omega, fun y1 hy1 => ?_⟩
      (conv => whnf)
      refine ⟨z, rfl, by omega, fun y2 hy2 => ?_⟩
      (conv => whnf)
      refine ⟨by rw [show (Str.ofString " ").length = 1 from rfl]; omega, ?_⟩
      (conv => whnf)
      refine ⟨by rw [show (Str.ofString " ").length = 1 from rfl]; omega, ?_⟩
      (conv => whnf)
      refine ⟨by rw [show (Str.ofString "\n").length = 1 from rfl]; omega, ?_⟩
      (conv => whnf)
      refine ⟨sz_of (by simp), ?_⟩
      refine wFor_of (fun _ ρ => ∃ x5 : Sl, ρ = [.sh (.scr ns), .st, .sh (.int (0 + (i : Int))), .sh (.tup ws), .sh (.str z), x5]) ?_ (fun j d hd nx2 hnx2 ρ hρ => ?_) (fun ρ hρ => ?_)
      · exact ⟨_, rfl⟩
      · obtain ⟨x5, rfl⟩ := hρ
        have hd' := List.mem_of_getElem? hd
        have hy : ∃ y : Str, d = .str y ∧ y.length ≤ 100000 := by
          simp only [List.mem_cons, List.not_mem_nil, or_false] at hd'
          rcases hd' with rfl | rfl | rfl | rfl | rfl
          · exact ⟨_, rfl, by omega⟩
          · exact ⟨_, rfl, by omega⟩
          · exact ⟨_, rfl, by rw [len_app, show (Str.ofString " ").length = 1 from rfl]; omega⟩
          · exact ⟨_, rfl, by rw [len_app, show (Str.ofString " ").length = 1 from rfl]; omega⟩
          · exact ⟨_, rfl, by rw [len_app, show (Str.ofString "\n").length = 1 from rfl]; omega⟩
        obtain ⟨y, rfl, hy⟩ := hy
        (conv => whnf)
        refine ⟨y, rfl, hy, ?_⟩
        (conv => whnf)
        exact hnx2 _ ⟨_, rfl⟩
      · obtain ⟨x5, rfl⟩ := hρ
        refine hM2 _ ?_
        clear hM2 M2
        refine seq_of fun M2 hM2 => ?_
        (conv => whnf)
        refine ⟨ws, rfl, fun d hd => (hws d hd).1, by omega, fun b1 hb1 hl1 => ?_⟩
        (conv => whnf)
        refine ⟨ws, rfl, fun d hd => (hws d hd).1, by omega, fun b2 hb2 hl2 => ?_⟩
        (conv => whnf)
        refine ⟨b2, rfl, hb2, by omega, fun b3 hb3 hl3 => ?_⟩
        (conv => whnf)
        refine ⟨sz_of (by simp), ?_⟩
        refine wFor_of (fun _ ρ => ∃ x5 : Sl, ρ = [.sh (.scr ns), .st, .sh (.int (0 + (i : Int))), .sh (.tup ws), .sh (.str z), x5]) ?_ (fun j d hd nx2 hnx2 ρ hρ => ?_) (fun ρ hρ => ?_)
        · exact ⟨_, rfl⟩
        · obtain ⟨x5, rfl⟩ := hρ
          have hd' := List.mem_of_getElem? hd
          have hy : ∃ y : List D, d = .tup y ∧ y.length ≤ 100 ∧ ∀ e ∈ y, okW e := by
            simp only [List.mem_cons, List.not_mem_nil, or_false] at hd'
            rcases hd' with rfl | rfl
            · exact ⟨_, rfl, by omega, hb1⟩
            · exact ⟨_, rfl, by omega, hb3⟩
          obtain ⟨y, rfl, hyl, hy⟩ := hy
          (conv => whnf)
          refine ⟨y, rfl, hy, hyl, ?_⟩
          (conv => whnf)
          exact hnx2 _ ⟨_, rfl⟩
        · obtain ⟨x5, rfl⟩ := hρ
          refine hM2 _ ?_
          (conv => whnf)
          refine ⟨40, rfl, by decide, by decide, fun y hy => ?_⟩
          have hy : y.length ≤ 40 := hy
          (conv => whnf)
          refine ⟨y, rfl, by omega, ?_⟩
          (conv => whnf)
          refine ⟨by omega, ?_⟩
          (conv => whnf)
          have hu := PyProof.Rows.len_upper z
          refine ⟨_, rfl, by omega, ?_⟩
          (conv => whnf)
          rw [hat]
          (conv => whnf)
          refine ⟨w0, rfl, by omega, ?_⟩
          (conv => whnf)
          exact hnx _ ⟨_, _, _, _, rfl⟩
    · obtain ⟨x2, x3, x4, x5, rfl⟩ := hρ
      (refine hM _ ?_; clear hM M; conv => whnf)
      exact ⟨_, rfl, rfl, q⟩
end
end K97

set_option maxHeartbeats 4000000
namespace K97
open PySem PySem.Spec PyProof.Rows L2 Z
theorem iniT_BadText (F : NdefX.NF) (h1 : F.params = defArgs (initOf (topS 15))) (h2 : F.body = defBody (initOf (topS 15))) (h3 : F.scope = defScope (initOf (topS 15))) : IniT F ["self", "row", "place"] lE_BadText fE_BadText := by
  obtain ⟨n, q, pa, b, sc, cl, cc⟩ := F
  subst h1 h2 h3
  exact ⟨NdefX.nscope_by (show NdefX.nscB _ _ _ (defScope (initOf (topS 15))) = true by decide +kernel), ⟨_, _, _, _, _, _, _, _, _, _, rfl, (.txt (by decide) (.par rfl rfl rfl rfl (.txt (by decide) (.par rfl rfl rfl rfl .nil)))), (.cons rfl rfl rfl rfl rfl rfl rfl rfl (.cons rfl rfl rfl rfl rfl rfl rfl rfl .nil)), _, fun _ => rfl⟩, ⟨_, rfl, rfl⟩, rfl, by decide, by decide, par_lt (by decide), by decide, by decide⟩
theorem iniT_Unlike (F : NdefX.NF) (h1 : F.params = defArgs (initOf (topS 14))) (h2 : F.body = defBody (initOf (topS 14))) (h3 : F.scope = defScope (initOf (topS 14))) : IniT F ["self", "what"] lE_Unlike fE_Unlike := by
  obtain ⟨n, q, pa, b, sc, cl, cc⟩ := F
  subst h1 h2 h3
  exact ⟨NdefX.nscope_by (show NdefX.nscB _ _ _ (defScope (initOf (topS 14))) = true by decide +kernel), ⟨_, _, _, _, _, _, _, _, _, _, rfl, (.txt (by decide) (.par rfl rfl rfl rfl .nil)), (.cons rfl rfl rfl rfl rfl rfl rfl rfl .nil), _, fun _ => rfl⟩, ⟨_, rfl, rfl⟩, rfl, by decide, by decide, par_lt (by decide), by decide, by decide⟩
theorem facts {P : Program} {w : World} {K : PySem.W.Frag} {h : Heap} {mg : Str → Option Value} {fa : Addr} (hfile : P.main.file = "/claim/cut.py") (htop : (P.main.scope.names.lookup ("super" : Str)).isSome = false) (X : K.In h) (G : h.Ns mainGlobals mg) (hfa : mg ("law" : Str) = some (.ref fa)) (c : obZ ck fn ts K = vlZ fn ts w) :
    ∃ fd : FuncData, (∀ (s : Shared) (v : Value), BindsTo s fd ⟨[v], []⟩ [("_law_script", v)]) ∧ ∀ base : Heap, K.In base → base.Ns mainGlobals mg → FnOk P w K mg base (L2N.CX P w) 8 fa fd ["_law_script"] (toSp K false s_law) := by
  obtain ⟨fd, F⟩ := plB_ok (K := K) (d := ⟨fun K => gAdr K "law", "law", "law", topS 62⟩) (obZ_fn c 39) (obZ_ck c 103)
  have e := hfa.symm.trans (glB_ok X G (obZ_ck c 102 (f := glB "law")))
  cases e
  refine ⟨fd, fun s v => (FunD.bindsA (ps := ["_law_script"]) F (fun _ _ _ _ _ _ us hl => match us, hl with | [_], _ => rfl)) s [v] rfl, fun base _ _ => ?_⟩
  have m_super : mg "super" = none := frB_ok X G (obZ_ck c 0)
  have m_range : mg "range" = none := frB_ok X G (obZ_ck c 1)
  have m_int : mg "int" = none := frB_ok X G (obZ_ck c 2)
  have m_max : mg "max" = none := frB_ok X G (obZ_ck c 3)
  have m_len : mg "len" = none := frB_ok X G (obZ_ck c 4)
  have m_tuple : mg "tuple" = none := frB_ok X G (obZ_ck c 5)
  have m_str : mg "str" = none := frB_ok X G (obZ_ck c 6)
  have m_list : mg "list" = none := frB_ok X G (obZ_ck c 7)
  have m_min : mg "min" = none := frB_ok X G (obZ_ck c 8)
  have m_isinstance : mg "isinstance" = none := frB_ok X G (obZ_ck c 9)
  have m_all : mg "all" = none := frB_ok X G (obZ_ck c 10)
  have m_LONGEST_NAME := intB_ok X G (obZ_ck c 11 (f := intB "LONGEST_NAME" 8))
  have m_LETTERS_AND_DIGITS := strB_ok X G (obZ_ck c 12 (f := strB "LETTERS_AND_DIGITS" "abcdefghijklmnopqrstuvwxyz0123456789"))
  have m_LETTERS := strB_ok X G (obZ_ck c 13 (f := strB "LETTERS" "abcdefghijklmnopqrstuvwxyz"))
  have m_NAME := strB_ok X G (obZ_ck c 14 (f := strB "NAME" "name"))
  have m_zip : mg "zip" = none := frB_ok X G (obZ_ck c 15)
  have m_ValueError : mg "ValueError" = none := frB_ok X G (obZ_ck c 16)
  have m_bool : mg "bool" = none := frB_ok X G (obZ_ck c 17)
  have t_GREATEST : TabK K w mg "GREATEST" tab_GREATEST := tab_of X G (obZ_ts c 0 (t := ("GREATEST", tab_GREATEST.map (·.1)))) (obZ_ck c 18)
  have t_FORMS : TabK K w mg "FORMS" tab_FORMS := tab_of X G (obZ_ts c 1 (t := ("FORMS", tab_FORMS.map (·.1)))) (obZ_ck c 19)
  have eK : ErrsK K mg homeE errsE fldsE := errsB_ok X G (obZ_ck c 20)
  have x_BadText : Err P w K mg base "BadText" lE_BadText fE_BadText nE_BadText := err_of (d := ⟨iniA "BadText", "__init__", "BadText.__init__", initOf (topS 15)⟩) (ps := ["self", "row", "place"]) X G rfl hfile m_super htop (obZ_ck c 21) (obZ_fn c 0) (obZ_ck c 22) (fun p hp => by simp only [fE_BadText, List.mem_cons, List.not_mem_nil, or_false] at hp; rcases hp with rfl | rfl <;> first | exact noB_ok (obZ_ck c 23) | exact noB_ok (obZ_ck c 24)) rfl (par_pos (by decide)) (by decide) iniT_BadText (fun _ _ _ _ _ us hl => match us, hl with | [_, _, _], _ => rfl)
  have x_Unlike : Err P w K mg base "Unlike" lE_Unlike fE_Unlike nE_Unlike := err_of (d := ⟨iniA "Unlike", "__init__", "Unlike.__init__", initOf (topS 14)⟩) (ps := ["self", "what"]) X G rfl hfile m_super htop (obZ_ck c 25) (obZ_fn c 1) (obZ_ck c 26) (fun p hp => by simp only [fE_Unlike, List.mem_cons, List.not_mem_nil, or_false] at hp; rcases hp with rfl <;> first | exact noB_ok (obZ_ck c 27)) rfl (par_pos (by decide)) (by decide) iniT_Unlike (fun _ _ _ _ _ us hl => match us, hl with | [_, _], _ => rfl)
  have F__law_mixed : DefAt K mg "_law_mixed" (topS 31) ["_law_state", "_law_turn", "_law_many"] := defAt_of X G (obZ_ck c 28) (obZ_fn c 2 (d := ⟨fun K => gAdr K "_law_mixed", "_law_mixed", "_law_mixed", topS 31⟩)) (obZ_ck c 29) (fun _ _ _ _ _ _ us hl => match us, hl with | [_, _, _], _ => rfl)
  have c__law_mixed := ok__law_mixed (P := P) (w := w) (base := base) (F := F__law_mixed) (m_range := m_range) (m_int := m_int) (m_max := m_max)
  have F__law_store : DefAt K mg "_law_store" (topS 32) ["_law_script"] := defAt_of X G (obZ_ck c 30) (obZ_fn c 3 (d := ⟨fun K => gAdr K "_law_store", "_law_store", "_law_store", topS 32⟩)) (obZ_ck c 31) (fun _ _ _ _ _ _ us hl => match us, hl with | [_], _ => rfl)
  have c__law_store := ok__law_store (P := P) (w := w) (base := base) (F := F__law_store) (c__law_mixed := c__law_mixed) (m_int := m_int)
  have F__law_row_form : DefAt K mg "_law_row_form" (topS 48) ["_law_kind"] := defAt_of X G (obZ_ck c 32) (obZ_fn c 4 (d := ⟨fun K => gAdr K "_law_row_form", "_law_row_form", "_law_row_form", topS 48⟩)) (obZ_ck c 33) (fun _ _ _ _ _ _ us hl => match us, hl with | [_], _ => rfl)
  have c__law_row_form := ok__law_row_form (P := P) (w := w) (base := base) (F := F__law_row_form) 
  have F__law_advance : DefAt K mg "_law_advance" (topS 33) ["_law_store_here"] := defAt_of X G (obZ_ck c 34) (obZ_fn c 5 (d := ⟨fun K => gAdr K "_law_advance", "_law_advance", "_law_advance", topS 33⟩)) (obZ_ck c 35) (fun _ _ _ _ _ _ us hl => match us, hl with | [_], _ => rfl)
  have c__law_advance := ok__law_advance (P := P) (w := w) (base := base) (F := F__law_advance) (m_len := m_len) (c__law_mixed := c__law_mixed) (m_int := m_int)
  have F__law_take : DefAt K mg "_law_take" (topS 34) ["_law_store_here", "_law_many"] := defAt_of X G (obZ_ck c 36) (obZ_fn c 6 (d := ⟨fun K => gAdr K "_law_take", "_law_take", "_law_take", topS 34⟩)) (obZ_ck c 37) (fun _ _ _ _ _ _ us hl => match us, hl with | [_, _], _ => rfl)
  have c__law_take := ok__law_take (P := P) (w := w) (base := base) (F := F__law_take) (m_max := m_max) (c__law_advance := c__law_advance) (m_int := m_int) (c__law_mixed := c__law_mixed)
  have F__law_pick : DefAt K mg "_law_pick" (topS 35) ["_law_store_here", "_law_items"] := defAt_of X G (obZ_ck c 38) (obZ_fn c 7 (d := ⟨fun K => gAdr K "_law_pick", "_law_pick", "_law_pick", topS 35⟩)) (obZ_ck c 39) (fun _ _ _ _ _ _ us hl => match us, hl with | [_, _], _ => rfl)
  have c__law_pick := ok__law_pick (P := P) (w := w) (base := base) (F := F__law_pick) (c__law_take := c__law_take) (m_len := m_len)
  have F__law_free_name : DefAt K mg "_law_free_name" (topS 42) ["_law_store_here", "_law_most"] := defAt_of X G (obZ_ck c 40) (obZ_fn c 8 (d := ⟨fun K => gAdr K "_law_free_name", "_law_free_name", "_law_free_name", topS 42⟩)) (obZ_ck c 41) (fun _ _ _ _ _ _ us hl => match us, hl with | [_, _], _ => rfl)
  have c__law_free_name := ok__law_free_name (P := P) (w := w) (base := base) (F := F__law_free_name) (c__law_take := c__law_take) (m_int := m_int) (m_range := m_range)
  have F__law_draw_words : DefAt K mg "_law_draw_words" (topS 51) ["_law_store_here"] := defAt_of X G (obZ_ck c 42) (obZ_fn c 9 (d := ⟨fun K => gAdr K "_law_draw_words", "_law_draw_words", "_law_draw_words", topS 51⟩)) (obZ_ck c 43) (fun _ _ _ _ _ _ us hl => match us, hl with | [_], _ => rfl)
  have c__law_draw_words := ok__law_draw_words (P := P) (w := w) (base := base) (F := F__law_draw_words) (c__law_pick := c__law_pick) (c__law_row_form := c__law_row_form) (c__law_free_name := c__law_free_name) (c__law_take := c__law_take) (m_tuple := m_tuple)
  have F__law_row_text : DefAt K mg "_law_row_text" (topS 52) ["_law_words_here"] := defAt_of X G (obZ_ck c 44) (obZ_fn c 10 (d := ⟨fun K => gAdr K "_law_row_text", "_law_row_text", "_law_row_text", topS 52⟩)) (obZ_ck c 45) (fun _ _ _ _ _ _ us hl => match us, hl with | [_], _ => rfl)
  have c__law_row_text := ok__law_row_text (P := P) (w := w) (base := base) (F := F__law_row_text) (m_str := m_str)
  have F__law_put : DefAt K mg "_law_put" (topS 38) ["_law_store_here", "_law_items", "_law_item"] := defAt_of X G (obZ_ck c 46) (obZ_fn c 11 (d := ⟨fun K => gAdr K "_law_put", "_law_put", "_law_put", topS 38⟩)) (obZ_ck c 47) (fun _ _ _ _ _ _ us hl => match us, hl with | [_, _, _], _ => rfl)
  have c__law_put := ok__law_put (P := P) (w := w) (base := base) (F := F__law_put) (c__law_take := c__law_take) (m_len := m_len) (m_list := m_list)
  have F__law_set : DefAt K mg "_law_set" (topS 39) ["_law_store_here", "_law_items", "_law_item"] := defAt_of X G (obZ_ck c 48) (obZ_fn c 12 (d := ⟨fun K => gAdr K "_law_set", "_law_set", "_law_set", topS 39⟩)) (obZ_ck c 49) (fun _ _ _ _ _ _ us hl => match us, hl with | [_, _, _], _ => rfl)
  have c__law_set := ok__law_set (P := P) (w := w) (base := base) (F := F__law_set) (m_len := m_len) (c__law_take := c__law_take) (m_list := m_list)
  have F__law_bad_word : DefAt K mg "_law_bad_word" (topS 44) ["_law_store_here"] := defAt_of X G (obZ_ck c 50) (obZ_fn c 13 (d := ⟨fun K => gAdr K "_law_bad_word", "_law_bad_word", "_law_bad_word", topS 44⟩)) (obZ_ck c 51) (fun _ _ _ _ _ _ us hl => match us, hl with | [_], _ => rfl)
  have c__law_bad_word := ok__law_bad_word (P := P) (w := w) (base := base) (F := F__law_bad_word) (c__law_free_name := c__law_free_name) (c__law_take := c__law_take) (m_len := m_len) (m_str := m_str) (c__law_pick := c__law_pick)
  have F__law_size : DefAt K mg "_law_size" (topS 37) ["_law_store_here", "_law_usual", "_law_most"] := defAt_of X G (obZ_ck c 52) (obZ_fn c 14 (d := ⟨fun K => gAdr K "_law_size", "_law_size", "_law_size", topS 37⟩)) (obZ_ck c 53) (fun _ _ _ _ _ _ us hl => match us, hl with | [_, _, _], _ => rfl)
  have c__law_size := ok__law_size (P := P) (w := w) (base := base) (F := F__law_size) (c__law_take := c__law_take) (m_max := m_max) (m_min := m_min)
  have F__law_bad_name : DefAt K mg "_law_bad_name" (topS 45) ["_law_store_here"] := defAt_of X G (obZ_ck c 54) (obZ_fn c 15 (d := ⟨fun K => gAdr K "_law_bad_name", "_law_bad_name", "_law_bad_name", topS 45⟩)) (obZ_ck c 55) (fun _ _ _ _ _ _ us hl => match us, hl with | [_], _ => rfl)
  have c__law_bad_name := ok__law_bad_name (P := P) (w := w) (base := base) (F := F__law_bad_name) (c__law_take := c__law_take) (c__law_free_name := c__law_free_name) (m_len := m_len) (c__law_pick := c__law_pick) (c__law_size := c__law_size) (c__law_bad_word := c__law_bad_word)
  have F__law_near_row : DefAt K mg "_law_near_row" (topS 61) ["_law_store_here", "_law_text_here"] := defAt_of X G (obZ_ck c 56) (obZ_fn c 16 (d := ⟨fun K => gAdr K "_law_near_row", "_law_near_row", "_law_near_row", topS 61⟩)) (obZ_ck c 57) (fun _ _ _ _ _ _ us hl => match us, hl with | [_, _], _ => rfl)
  have c__law_near_row := ok__law_near_row (P := P) (w := w) (base := base) (F := F__law_near_row) (m_range := m_range) (c__law_take := c__law_take) (c__law_pick := c__law_pick) (c__law_free_name := c__law_free_name) (c__law_bad_name := c__law_bad_name) (m_len := m_len) (c__law_put := c__law_put) (c__law_set := c__law_set)
  have F__law_sign : DefAt K mg "_law_sign" (topS 40) ["_law_store_here"] := defAt_of X G (obZ_ck c 58) (obZ_fn c 17 (d := ⟨fun K => gAdr K "_law_sign", "_law_sign", "_law_sign", topS 40⟩)) (obZ_ck c 59) (fun _ _ _ _ _ _ us hl => match us, hl with | [_], _ => rfl)
  have c__law_sign := ok__law_sign (P := P) (w := w) (base := base) (F := F__law_sign) (c__law_pick := c__law_pick)
  have F__law_bent_sign : DefAt K mg "_law_bent_sign" (topS 60) ["_law_store_here", "_law_text_here"] := defAt_of X G (obZ_ck c 60) (obZ_fn c 18 (d := ⟨fun K => gAdr K "_law_bent_sign", "_law_bent_sign", "_law_bent_sign", topS 60⟩)) (obZ_ck c 61) (fun _ _ _ _ _ _ us hl => match us, hl with | [_, _], _ => rfl)
  have c__law_bent_sign := ok__law_bent_sign (P := P) (w := w) (base := base) (F := F__law_bent_sign) (c__law_take := c__law_take) (m_len := m_len) (c__law_pick := c__law_pick) (c__law_sign := c__law_sign)
  have F__law_outside : DefAt K mg "_law_outside" (topS 36) ["_law_store_here", "_law_low", "_law_high"] := defAt_of X G (obZ_ck c 62) (obZ_fn c 19 (d := ⟨fun K => gAdr K "_law_outside", "_law_outside", "_law_outside", topS 36⟩)) (obZ_ck c 63) (fun _ _ _ _ _ _ us hl => match us, hl with | [_, _, _], _ => rfl)
  have c__law_outside := ok__law_outside (P := P) (w := w) (base := base) (F := F__law_outside) (c__law_take := c__law_take)
  have F__law_bent_words : DefAt K mg "_law_bent_words" (topS 53) ["_law_store_here", "_law_words_here"] := defAt_of X G (obZ_ck c 64) (obZ_fn c 20 (d := ⟨fun K => gAdr K "_law_bent_words", "_law_bent_words", "_law_bent_words", topS 53⟩)) (obZ_ck c 65) (fun _ _ _ _ _ _ us hl => match us, hl with | [_, _], _ => rfl)
  have c__law_bent_words := ok__law_bent_words (P := P) (w := w) (base := base) (F := F__law_bent_words) (m_list := m_list) (c__law_take := c__law_take) (m_len := m_len) (c__law_put := c__law_put) (c__law_set := c__law_set) (c__law_bad_name := c__law_bad_name) (c__law_outside := c__law_outside) (m_str := m_str) (c__law_pick := c__law_pick) (c__law_free_name := c__law_free_name) (m_tuple := m_tuple)
  have F__law_words : DefAt K mg "_law_words" (topS 46) ["_law_row"] := defAt_of X G (obZ_ck c 66) (obZ_fn c 21 (d := ⟨fun K => gAdr K "_law_words", "_law_words", "_law_words", topS 46⟩)) (obZ_ck c 67) (fun _ _ _ _ _ _ us hl => match us, hl with | [_], _ => rfl)
  have c__law_words := ok__law_words (P := P) (w := w) (base := base) (F := F__law_words) (m_len := m_len)
  have F__law_row_fault : DefAt K mg "_law_row_fault" (topS 47) ["_law_row", "_law_needed", "_law_good"] := defAt_of X G (obZ_ck c 68) (obZ_fn c 22 (d := ⟨fun K => gAdr K "_law_row_fault", "_law_row_fault", "_law_row_fault", topS 47⟩)) (obZ_ck c 69) (fun _ _ _ _ _ _ us hl => match us, hl with | [_, _, _], _ => rfl)
  have c__law_row_fault := ok__law_row_fault (P := P) (w := w) (base := base) (F := F__law_row_fault) (c__law_words := c__law_words) (m_range := m_range) (m_min := m_min) (m_len := m_len)
  have F__law_is_name : DefAt K mg "_law_is_name" (topS 43) ["_law_value"] := defAt_of X G (obZ_ck c 70) (obZ_fn c 23 (d := ⟨fun K => gAdr K "_law_is_name", "_law_is_name", "_law_is_name", topS 43⟩)) (obZ_ck c 71) (fun _ _ _ _ _ _ us hl => match us, hl with | [_], _ => rfl)
  have c__law_is_name := ok__law_is_name (P := P) (w := w) (base := base) (F := F__law_is_name) (m_len := m_len) (m_isinstance := m_isinstance) (m_str := m_str) (m_all := m_all)
  have F__law_read_row : DefAt K mg "_law_read_row" (topS 49) ["_law_text_here"] := defAt_of X G (obZ_ck c 72) (obZ_fn c 24 (d := ⟨fun K => gAdr K "_law_read_row", "_law_read_row", "_law_read_row", topS 49⟩)) (obZ_ck c 73) (fun _ _ _ _ _ _ us hl => match us, hl with | [_], _ => rfl)
  have c__law_read_row := ok__law_read_row (P := P) (w := w) (base := base) (F := F__law_read_row) (c__law_words := c__law_words) (c__law_row_form := c__law_row_form) (m_len := m_len) (m_range := m_range) (m_min := m_min) (c__law_is_name := c__law_is_name) (m_int := m_int) (c__law_row_fault := c__law_row_fault) (m_tuple := m_tuple)
  have F_is_name : DefAt K mg "is_name" (topS 20) ["value"] := defAt_of X G (obZ_ck c 74) (obZ_fn c 25 (d := ⟨fun K => gAdr K "is_name", "is_name", "is_name", topS 20⟩)) (obZ_ck c 75) (fun _ _ _ _ _ _ us hl => match us, hl with | [_], _ => rfl)
  have c_is_name := ok_is_name (P := P) (w := w) (base := base) (F := F_is_name) (m_isinstance := m_isinstance) (m_str := m_str) (m_len := m_len) (m_LONGEST_NAME := m_LONGEST_NAME) (m_all := m_all) (m_LETTERS_AND_DIGITS := m_LETTERS_AND_DIGITS) (m_LETTERS := m_LETTERS)
  have F_word_value : DefAt K mg "word_value" (topS 25) ["word", "kind"] := defAt_of X G (obZ_ck c 76) (obZ_fn c 26 (d := ⟨fun K => gAdr K "word_value", "word_value", "word_value", topS 25⟩)) (obZ_ck c 77) (fun _ _ _ _ _ _ us hl => match us, hl with | [_, _], _ => rfl)
  have c_word_value := ok_word_value (P := P) (w := w) (base := base) (F := F_word_value) (m_NAME := m_NAME) (c_is_name := c_is_name) (m_str := m_str) (t_GREATEST := t_GREATEST) (m_len := m_len) (m_int := m_int)
  have F_read_row : DefAt K mg "read_row" (topS 26) ["text"] := defAt_of X G (obZ_ck c 78) (obZ_fn c 27 (d := ⟨fun K => gAdr K "read_row", "read_row", "read_row", topS 26⟩)) (obZ_ck c 79) (fun _ _ _ _ _ _ us hl => match us, hl with | [_], _ => rfl)
  have c_read_row := ok_read_row (P := P) (w := w) (base := base) (F := F_read_row) (t_FORMS := t_FORMS) (x_BadText := x_BadText) (m_len := m_len) (m_zip := m_zip) (c_word_value := c_word_value) (m_tuple := m_tuple)
  have F__law_refusal : DefAt K mg "_law_refusal" (topS 54) ["_law_e"] := defAt_of X G (obZ_ck c 80) (obZ_fn c 28 (d := ⟨fun K => gAdr K "_law_refusal", "_law_refusal", "_law_refusal", topS 54⟩)) (obZ_ck c 81) (fun _ _ _ _ _ _ us hl => match us, hl with | [_], _ => rfl)
  have c__law_refusal := ok__law_refusal (P := P) (w := w) (base := base) (F := F__law_refusal) (m_isinstance := m_isinstance) (m_ValueError := m_ValueError) (m_range := m_range) (m_len := m_len) (m_tuple := m_tuple) (eK := eK)
  have F__law_read : DefAt K mg "_law_read" (topS 56) ["_law_text_here"] := defAt_of X G (obZ_ck c 82) (obZ_fn c 29 (d := ⟨fun K => gAdr K "_law_read", "_law_read", "_law_read", topS 56⟩)) (obZ_ck c 83) (fun _ _ _ _ _ _ us hl => match us, hl with | [_], _ => rfl)
  have c__law_read := ok__law_read (P := P) (w := w) (base := base) (F := F__law_read) (c_read_row := c_read_row) (c__law_refusal := c__law_refusal) (eK := eK)
  have F__law_like : DefAt K mg "_law_like" (topS 55) ["_law_told", "_law_due"] := defAt_of X G (obZ_ck c 84) (obZ_fn c 30 (d := ⟨fun K => gAdr K "_law_like", "_law_like", "_law_like", topS 55⟩)) (obZ_ck c 85) (fun _ _ _ _ _ _ us hl => match us, hl with | [_, _], _ => rfl)
  have c__law_like_0 : Cal P w K mg base "_law_like" 0 false (s__law_likeR 0) := cal_no F__law_like
  have c__law_like_1 := ok__law_like (P := P) (w := w) (base := base) (F := F__law_like) 0 c__law_like_0 (m_isinstance := m_isinstance) (m_list := m_list) (m_tuple := m_tuple) (m_all := m_all) (m_range := m_range) (m_len := m_len) (m_bool := m_bool) (m_int := m_int) (m_str := m_str)
  have c__law_like_2 := ok__law_like (P := P) (w := w) (base := base) (F := F__law_like) 1 c__law_like_1 (m_isinstance := m_isinstance) (m_list := m_list) (m_tuple := m_tuple) (m_all := m_all) (m_range := m_range) (m_len := m_len) (m_bool := m_bool) (m_int := m_int) (m_str := m_str)
  have c__law_like_3 := ok__law_like (P := P) (w := w) (base := base) (F := F__law_like) 2 c__law_like_2 (m_isinstance := m_isinstance) (m_list := m_list) (m_tuple := m_tuple) (m_all := m_all) (m_range := m_range) (m_len := m_len) (m_bool := m_bool) (m_int := m_int) (m_str := m_str)
  have c__law_like_4 := ok__law_like (P := P) (w := w) (base := base) (F := F__law_like) 3 c__law_like_3 (m_isinstance := m_isinstance) (m_list := m_list) (m_tuple := m_tuple) (m_all := m_all) (m_range := m_range) (m_len := m_len) (m_bool := m_bool) (m_int := m_int) (m_str := m_str)
  have c__law_like_5 := ok__law_like (P := P) (w := w) (base := base) (F := F__law_like) 4 c__law_like_4 (m_isinstance := m_isinstance) (m_list := m_list) (m_tuple := m_tuple) (m_all := m_all) (m_range := m_range) (m_len := m_len) (m_bool := m_bool) (m_int := m_int) (m_str := m_str)
  have c__law_like_6 := ok__law_like (P := P) (w := w) (base := base) (F := F__law_like) 5 c__law_like_5 (m_isinstance := m_isinstance) (m_list := m_list) (m_tuple := m_tuple) (m_all := m_all) (m_range := m_range) (m_len := m_len) (m_bool := m_bool) (m_int := m_int) (m_str := m_str)
  have c__law_like : Cal P w K mg base "_law_like" 6 false s__law_like := c__law_like_6
  have F_has_kind : DefAt K mg "has_kind" (topS 27) ["value", "kind"] := defAt_of X G (obZ_ck c 86) (obZ_fn c 31 (d := ⟨fun K => gAdr K "has_kind", "has_kind", "has_kind", topS 27⟩)) (obZ_ck c 87) (fun _ _ _ _ _ _ us hl => match us, hl with | [_, _], _ => rfl)
  have c_has_kind := ok_has_kind (P := P) (w := w) (base := base) (F := F_has_kind) (m_NAME := m_NAME) (c_is_name := c_is_name) (m_isinstance := m_isinstance) (m_int := m_int) (m_bool := m_bool) (t_GREATEST := t_GREATEST)
  have F_is_row_words : DefAt K mg "is_row_words" (topS 28) ["words"] := defAt_of X G (obZ_ck c 88) (obZ_fn c 32 (d := ⟨fun K => gAdr K "is_row_words", "is_row_words", "is_row_words", topS 28⟩)) (obZ_ck c 89) (fun _ _ _ _ _ _ us hl => match us, hl with | [_], _ => rfl)
  have c_is_row_words := ok_is_row_words (P := P) (w := w) (base := base) (F := F_is_row_words) (m_len := m_len) (m_isinstance := m_isinstance) (m_tuple := m_tuple) (t_FORMS := t_FORMS) (m_str := m_str) (m_all := m_all) (m_zip := m_zip) (c_has_kind := c_has_kind)
  have F_write_row : DefAt K mg "write_row" (topS 29) ["words"] := defAt_of X G (obZ_ck c 90) (obZ_fn c 33 (d := ⟨fun K => gAdr K "write_row", "write_row", "write_row", topS 29⟩)) (obZ_ck c 91) (fun _ _ _ _ _ _ us hl => match us, hl with | [_], _ => rfl)
  have c_write_row := ok_write_row (P := P) (w := w) (base := base) (F := F_write_row) (c_is_row_words := c_is_row_words) (x_Unlike := x_Unlike) (m_str := m_str)
  have F__law_write : DefAt K mg "_law_write" (topS 57) ["_law_words_here"] := defAt_of X G (obZ_ck c 92) (obZ_fn c 34 (d := ⟨fun K => gAdr K "_law_write", "_law_write", "_law_write", topS 57⟩)) (obZ_ck c 93) (fun _ _ _ _ _ _ us hl => match us, hl with | [_], _ => rfl)
  have c__law_write := ok__law_write (P := P) (w := w) (base := base) (F := F__law_write) (c_write_row := c_write_row) (c__law_refusal := c__law_refusal) (eK := eK)
  have F__law_look : DefAt K mg "_law_look" (topS 58) ["_law_text_here"] := defAt_of X G (obZ_ck c 94) (obZ_fn c 35 (d := ⟨fun K => gAdr K "_law_look", "_law_look", "_law_look", topS 58⟩)) (obZ_ck c 95) (fun _ _ _ _ _ _ us hl => match us, hl with | [_], _ => rfl)
  have c__law_look := ok__law_look (P := P) (w := w) (base := base) (F := F__law_look) (c__law_read_row := c__law_read_row) (c__law_read := c__law_read) (c__law_like := c__law_like) (c__law_write := c__law_write)
  have F__law_is_words : DefAt K mg "_law_is_words" (topS 50) ["_law_words_here"] := defAt_of X G (obZ_ck c 96) (obZ_fn c 36 (d := ⟨fun K => gAdr K "_law_is_words", "_law_is_words", "_law_is_words", topS 50⟩)) (obZ_ck c 97) (fun _ _ _ _ _ _ us hl => match us, hl with | [_], _ => rfl)
  have c__law_is_words := ok__law_is_words (P := P) (w := w) (base := base) (F := F__law_is_words) (m_isinstance := m_isinstance) (m_str := m_str) (m_len := m_len) (c__law_row_form := c__law_row_form) (m_range := m_range) (c__law_is_name := c__law_is_name) (m_int := m_int)
  have F__law_look_words : DefAt K mg "_law_look_words" (topS 59) ["_law_words_here"] := defAt_of X G (obZ_ck c 98) (obZ_fn c 37 (d := ⟨fun K => gAdr K "_law_look_words", "_law_look_words", "_law_look_words", topS 59⟩)) (obZ_ck c 99) (fun _ _ _ _ _ _ us hl => match us, hl with | [_], _ => rfl)
  have c__law_look_words := ok__law_look_words (P := P) (w := w) (base := base) (F := F__law_look_words) (c__law_write := c__law_write) (c__law_is_words := c__law_is_words) (c__law_like := c__law_like) (c__law_read := c__law_read) (c__law_row_text := c__law_row_text)
  have F__law_text : DefAt K mg "_law_text" (topS 41) ["_law_store_here", "_law_most"] := defAt_of X G (obZ_ck c 100) (obZ_fn c 38 (d := ⟨fun K => gAdr K "_law_text", "_law_text", "_law_text", topS 41⟩)) (obZ_ck c 101) (fun _ _ _ _ _ _ us hl => match us, hl with | [_, _], _ => rfl)
  have c__law_text := ok__law_text (P := P) (w := w) (base := base) (F := F__law_text) (m_range := m_range) (c__law_size := c__law_size) (c__law_sign := c__law_sign)
  exact ok_law (P := P) (w := w) (base := base) (F := F) (c__law_store := c__law_store) (m_range := m_range) (c__law_draw_words := c__law_draw_words) (c__law_row_text := c__law_row_text) (c__law_look_words := c__law_look_words) (c__law_look := c__law_look) (c__law_near_row := c__law_near_row) (c__law_bent_sign := c__law_bent_sign) (c__law_bent_words := c__law_bent_words) (c__law_text := c__law_text)
end K97
open PySem PySem.W PySem.Calls PyProof.Rows
set_option maxRecDepth 100000 in
set_option maxHeartbeats 0 in
theorem PySem.Challenge.cw_markshome_k97_script_rows_holds : PySem.Challenge.rw_markshome_k97_script_rows.Holds := by
  w_on; o_law
  refine HandSHeadRun.head_any (r := OpenLaw.row PySem.Challenge.rw_markshome_k97_script_rows) (q := view (OpenLaw.row PySem.Challenge.rw_markshome_k97_script_rows).prog [62]) (H := K97.hk) (ob := K97.ob) (M := 8000) (loose := K97.loose) (d := HandSHeadRun.topDef (OpenLaw.row PySem.Challenge.rw_markshome_k97_script_rows).prog 62) (kwd := []) K97.ob_eq
    (by kernel_rfl) (fun s => by kernel_rfl) K97.run (by kernel_rfl) (by kernel_rfl) (by kernel_rfl) (by rfl) (by first | assumption | decide +kernel) (by decide +kernel) ⟨rfl, rfl, rfl, rfl, rfl, by decide +kernel⟩ ?hw ?hc
  case hw => w_witness2
  case hc =>
    refine Z.walk_ofZ (l := PySem.Challenge.rw_markshome_k97_script_rows) (n := 63) (k := 8) (x := "_law_script") (CX := fun w => L2N.CX (PySem.Challenge.rw_markshome_k97_script_rows).prog w) rfl (by decide) (by kernel_rfl) ⟨rfl, by decide, by decide⟩ ?F ?X
    · intro w mg fa h Y G hmg0
      obtain ⟨K, KX, c⟩ := Y
      have hmg : mg ("law" : PySem.Str) = some (.ref fa) := by
        have e : (HandSHeadRun.topDef (OpenLaw.row PySem.Challenge.rw_markshome_k97_script_rows).prog 62).name = ("law" : PySem.Str) := by kernel_rfl
        rw [← e]
        exact hmg0
      obtain ⟨fd, hb, hF⟩ := K97.facts (P := (PySem.Challenge.rw_markshome_k97_script_rows).prog) (w := w) rfl (by kernel_rfl) KX G hmg c
      exact ⟨K, fd, Z.toSp K false K97.s_law, KX, hb, fun H a ns hl _ hS => Z.law_sp hS ⟨ns, rfl, hl, rfl⟩, hF⟩
    · intro w H s e s' z
      obtain ⟨a, B, H', cls, d, _, _, _, _, _, _, _, f⟩ := z
      exact f
