import PyProof.Rows.All
import Wide.All
import OpenK.AllK
import Wide.FinOn
import HandS.ForMost
import HandS.ForExc
import HandS.ExcInit
import HandS.IsInst
import HandS.Flow
import HandS.WideBits
import HandS.Style
import HandS.Conv
import HandS.Spec
import HandS.Dict
import HandS.Head0
import HandS.Head1
import HandS.Head2
import HandS.HeadEnd
import HandS.HeadHook1
import HandS.HeadHook2
import KE.KExcSuper
import KE.KExcInit
import HandS.Exc
import HandS.ExcField
import HandS.ExcIs
import HandS.ExcSuper
import HandS.ExcValue
import KE.KExcIs
import HandS.TupAny
import HandS.TupMul
import PySem.Challenge.RW_leastcopies_k17_error_classes
set_option Elab.async false
set_option maxRecDepth 100000
set_option maxHeartbeats 4000000
/-! Part A: plain data, the slots of a frame, and how they lie in the layer's abstract heap. -/
namespace Lc
open PySem L2

/-- plain data -/
inductive D where
  | non
  | bl (b : Bool)
  | int (i : Int)
  | str (x : Str)
  | lst (l : List D)
  | tup (l : List D)
  | dct (l : List (D × D))
  | ty (n : String)
  | scr (l : List Int)
  /-- a class of the module, by its name -/
  | cls (x : Str)
  /-- a caught error at a, its dict at dd -/
  | exc (a dd : Addr) (fs : List (Str × D))
  /-- an instance that changes no more -/
  | obj (c : Str) (fs : List (Str × D))
  /-- an error held as a value -/
  | err (c : Str) (fs : List (Str × D))
/-- what a thing that may still change holds -/
inductive Cn where
  | lst (l : List D)
  | dct (l : List (D × D))
def Cn.toD : Cn → D
  | .lst l => .lst l
  | .dct l => .dct l
/-- a borrowed thing, an argument, a result: data, or a thing that no one else holds -/
inductive Bo where
  | dt (x : D)
  | own (c : Cn)
/-- a local name: data, a thing of its own, or a borrowed one -/
inductive Sl where
  | dt (x : D)
  | own (c : Cn)
  | bor (k : Nat)
/-- where a thing that may change is kept -/
inductive Ix where
  | loc (i : Nat)
  | bor (k : Nat)
  deriving DecidableEq
/-- the value of an expression -/
inductive W where
  | dt (x : D)
  | fresh (c : Cn)
  | cel (z : Ix)
structure Rho where
  loc : List (Option Sl)
  bor : List Bo
/-- an exception of an own class: its class by name, its attributes -/
structure Ex where
  cls : Str
  fs : List (Str × D)
inductive Res (α : Type) where
  | ok (a : α) (r : Rho)
  | exc (x : Ex) (r : Rho)
  | fail
abbrev M (α : Type) := Rho → Res α
def M.ret {α : Type} (a : α) : M α := fun r => .ok a r
def M.bind {α β : Type} (m : M α) (f : α → M β) : M β := fun r => match m r with
  | .ok a r1 => f a r1
  | .exc x r1 => .exc x r1
  | .fail => .fail
def M.no {α : Type} : M α := fun _ => .fail
def M.opt {α : Type} (o : Option α) : M α := fun r => match o with
  | some a => .ok a r
  | none => .fail

def Rho.cnt (r : Rho) : Ix → Option Cn
  | .loc i => match r.loc[i]? with
    | some (some (.own c)) => some c
    | _ => none
  | .bor k => match r.bor[k]? with
    | some (.own c) => some c
    | _ => none
/-- what a kept thing is now -/
def Rho.look (r : Rho) : Ix → Option D
  | .loc i => match r.loc[i]? with
    | some (some (.own c)) => some c.toD
    | some (some (.dt d)) => some d
    | _ => none
  | .bor k => match r.bor[k]? with
    | some (.own c) => some c.toD
    | some (.dt d) => some d
    | _ => none
def Rho.setc (r : Rho) (c : Cn) : Ix → Rho
  | .loc i => { r with loc := r.loc.set i (some (.own c)) }
  | .bor k => { r with bor := r.bor.set k (.own c) }
def Rho.frz (r : Rho) (d : D) : Ix → Rho
  | .loc i => { r with loc := r.loc.set i (some (.dt d)) }
  | .bor k => { r with bor := r.bor.set k (.dt d) }
def W.view (r : Rho) : W → Option D
  | .dt d => some d
  | .fresh c => some c.toD
  | .cel z => r.look z
def adr (vs : List V) (σ : L2.St) : Ix → Option V
  | .loc i => match σ[i]? with
    | some (some v) => some v
    | _ => none
  | .bor k => vs[k]?

/-! ### data in the frozen part B of the heap -/
def KeyD : Key → D → Prop
  | .inl i, .int j => i = j
  | .inr x, .str y => x = y
  | _, _ => False
/-- a tuple: a known one, or one of the text's own -/
def TpA (K : PySem.W.Frag) (B : Hp) (a : Addr) (xs : List V) : Prop :=
  B a = some (.tup xs) ∨ ∃ (o : Obj) (its : Array Value) (n : Nat), K.lookup a = some o ∧ o.cls = .type "tuple" ∧ o.data = .seq its n ∧ its.size ≤ sizeLine ∧ Vals xs its.toList
mutual
inductive Rp (K : PySem.W.Frag) (B : Hp) : V → D → Prop
  | non : Rp K B .non .non
  | bl (b : Bool) : Rp K B (.bl b) (.bl b)
  | int (i : Int) : Rp K B (.int i) (.int i)
  | str (x : Str) : Rp K B (.str x) (.str x)
  | ty (n : String) : Rp K B (.ty n) (.ty n)
  | scr {a : Addr} {ns : List Int} : SqL K B a (ns.map V.int) → Rp K B (.ref a) (.scr ns)
  | lst {a : Addr} {xs : List V} {ds : List D} : B a = some (.lst xs) → RpAll K B xs ds → Rp K B (.ref a) (.lst ds)
  | tup {a : Addr} {xs : List V} {ds : List D} : TpA K B a xs → RpAll K B xs ds → Rp K B (.ref a) (.tup ds)
  | dct {a : Addr} {ks : List (Key × V)} {ds : List (D × D)} : B a = some (.dK ks) → RpKv K B ks ds → Rp K B (.ref a) (.dct ds)
  | cls {a : Addr} {x : Str} : PySem.W.nsIn K mainGlobals x = some (some (.ref a)) → Rp K B (.ref a) (.cls x)
  | exc {a dd : Addr} {fs : List (Str × V)} {ds : List (Str × D)} : B dd = some (.xd fs) → RpF K B fs ds → Rp K B (.ref a) (.exc a dd ds)
  | obj {a dx C : Addr} {x : Str} {fs : List (Str × V)} {ds : List (Str × D)} : B a = some (.ins C dx fs) → B dx = some (.own a) → PySem.W.nsIn K mainGlobals x = some (some (.ref C)) → RpF K B fs ds → Rp K B (.ref a) (.obj x ds)
  | err {a dd C : Addr} {x : Str} {fs : List (Str × V)} {ds : List (Str × D)} : B a = some (exo a C (some dd)) → B dd = some (.xd fs) → PySem.W.nsIn K mainGlobals x = some (some (.ref C)) → RpF K B fs ds → Rp K B (.ref a) (.err x ds)
inductive RpAll (K : PySem.W.Frag) (B : Hp) : List V → List D → Prop
  | nil : RpAll K B [] []
  | cons {v : V} {vs : List V} {d : D} {ds : List D} : Rp K B v d → RpAll K B vs ds → RpAll K B (v :: vs) (d :: ds)
inductive RpKv (K : PySem.W.Frag) (B : Hp) : List (Key × V) → List (D × D) → Prop
  | nil : RpKv K B [] []
  | cons {k : Key} {v : V} {ks : List (Key × V)} {d e : D} {ds : List (D × D)} : KeyD k d → Rp K B v e → RpKv K B ks ds → RpKv K B ((k, v) :: ks) ((d, e) :: ds)
inductive RpF (K : PySem.W.Frag) (B : Hp) : List (Str × V) → List (Str × D) → Prop
  | nil : RpF K B [] []
  | cons {x : Str} {v : V} {d : D} {fs : List (Str × V)} {gs : List (Str × D)} : Rp K B v d → RpF K B fs gs → RpF K B ((x, v) :: fs) ((x, d) :: gs)
end
theorem TpA.mono {K : PySem.W.Frag} {B B' : Hp} {a : Addr} {xs : List V} (s : Same B B') (h : TpA K B a xs) : TpA K B' a xs := h.imp (s _ _) fun z => z
theorem seqT_mono {K : PySem.W.Frag} {B B' : Hp} {a : Addr} {xs : List V} (s : Same B B') (h : TpA K B a xs) : SqT K B' a xs := (h.mono s).elim (fun z => .inl (.inl z)) .inr
mutual
theorem Rp.mono {K : PySem.W.Frag} {B B' : Hp} (s : Same B B') : ∀ {v : V} {d : D}, Rp K B v d → Rp K B' v d
  | _, _, .non => .non
  | _, _, .bl b => .bl b
  | _, _, .int i => .int i
  | _, _, .str x => .str x
  | _, _, .ty n => .ty n
  | _, _, .scr h => .scr (s.seq h)
  | _, _, .lst h r => .lst (s _ _ h) (RpAll.mono s r)
  | _, _, .tup h r => .tup (h.mono s) (RpAll.mono s r)
  | _, _, .dct h r => .dct (s _ _ h) (RpKv.mono s r)
  | _, _, .cls h => .cls h
  | _, _, .exc h r => .exc (s _ _ h) (RpF.mono s r)
  | _, _, .obj h1 h2 h3 r => .obj (s _ _ h1) (s _ _ h2) h3 (RpF.mono s r)
  | _, _, .err h1 h2 h3 r => .err (s _ _ h1) (s _ _ h2) h3 (RpF.mono s r)
theorem RpAll.mono {K : PySem.W.Frag} {B B' : Hp} (s : Same B B') : ∀ {vs : List V} {ds : List D}, RpAll K B vs ds → RpAll K B' vs ds
  | _, _, .nil => .nil
  | _, _, .cons h r => .cons (h.mono s) (RpAll.mono s r)
theorem RpKv.mono {K : PySem.W.Frag} {B B' : Hp} (s : Same B B') : ∀ {vs : List (Key × V)} {ds : List (D × D)}, RpKv K B vs ds → RpKv K B' vs ds
  | _, _, .nil => .nil
  | _, _, .cons k h r => .cons k (h.mono s) (RpKv.mono s r)
theorem RpF.mono {K : PySem.W.Frag} {B B' : Hp} (s : Same B B') : ∀ {vs : List (Str × V)} {ds : List (Str × D)}, RpF K B vs ds → RpF K B' vs ds
  | _, _, .nil => .nil
  | _, _, .cons h r => .cons (h.mono s) (RpF.mono s r)
end
section
variable {K : PySem.W.Frag} {B : Hp}
theorem RpAll.length : ∀ {vs : List V} {ds : List D}, RpAll K B vs ds → vs.length = ds.length
  | _, _, .nil => rfl
  | _, _, .cons _ r => by rw [List.length_cons, List.length_cons, r.length]
theorem RpKv.length : ∀ {vs : List (Key × V)} {ds : List (D × D)}, RpKv K B vs ds → vs.length = ds.length
  | _, _, .nil => rfl
  | _, _, .cons _ _ r => by rw [List.length_cons, List.length_cons, r.length]
theorem RpAll.append : ∀ {vs us : List V} {ds es : List D}, RpAll K B vs ds → RpAll K B us es → RpAll K B (vs ++ us) (ds ++ es)
  | _, _, _, _, .nil, h => h
  | _, _, _, _, .cons h r, q => .cons h (r.append q)
theorem RpAll.drop : ∀ {vs : List V} {ds : List D} (n : Nat), RpAll K B vs ds → RpAll K B (vs.drop n) (ds.drop n)
  | _, _, 0, h => h
  | _, _, _ + 1, .nil => .nil
  | _, _, n + 1, .cons _ r => r.drop n
theorem RpAll.take : ∀ {vs : List V} {ds : List D} (n : Nat), RpAll K B vs ds → RpAll K B (vs.take n) (ds.take n)
  | _, _, 0, _ => .nil
  | _, _, _ + 1, .nil => .nil
  | _, _, n + 1, .cons h r => .cons h (r.take n)
theorem RpAll.get : ∀ {vs : List V} {ds : List D} {i : Nat} {d : D}, RpAll K B vs ds → ds[i]? = some d → ∃ v, vs[i]? = some v ∧ Rp K B v d
  | _, _, _, _, .nil, e => by simp at e
  | _, _, 0, _, .cons h _, e => by simp at e; subst e; exact ⟨_, rfl, h⟩
  | _, _, i + 1, _, .cons _ r, e => by
    obtain ⟨v, h1, h2⟩ := r.get (i := i) (by simpa using e)
    exact ⟨v, by simpa using h1, h2⟩
theorem RpAll.getV : ∀ {vs : List V} {ds : List D} {i : Nat} {v : V}, RpAll K B vs ds → vs[i]? = some v → ∃ d, ds[i]? = some d ∧ Rp K B v d
  | _, _, _, _, .nil, e => by simp at e
  | _, _, 0, _, .cons h _, e => by simp at e; subst e; exact ⟨_, rfl, h⟩
  | _, _, i + 1, _, .cons _ r, e => by
    obtain ⟨d, h1, h2⟩ := r.getV (i := i) (by simpa using e)
    exact ⟨d, by simpa using h1, h2⟩
theorem RpAll.set {v : V} {d : D} (h : Rp K B v d) : ∀ {vs : List V} {ds : List D} (i : Nat), RpAll K B vs ds → RpAll K B (vs.set i v) (ds.set i d)
  | _, _, _, .nil => .nil
  | _, _, 0, .cons _ r => .cons h r
  | _, _, i + 1, .cons q r => .cons q (r.set h i)
theorem RpAll.reverse : ∀ {vs : List V} {ds : List D}, RpAll K B vs ds → RpAll K B vs.reverse ds.reverse
  | _, _, .nil => .nil
  | _, _, .cons h r => by
    rw [List.reverse_cons, List.reverse_cons]
    exact r.reverse.append (.cons h .nil)
theorem RpAll.ints : ∀ {vs : List V} {ns : List Int}, RpAll K B vs (ns.map D.int) → vs = ns.map V.int
  | [], [], _ => rfl
  | _ :: _, [], h => by cases h
  | [], _ :: _, h => by cases h
  | v :: vs, n :: ns, h => by
    cases h with
    | cons a b =>
      cases a
      rw [b.ints]
      rfl
theorem RpAll.strs : ∀ {vs : List V} {ns : List Str}, RpAll K B vs (ns.map D.str) → vs = ns.map V.str
  | [], [], _ => rfl
  | _ :: _, [], h => by cases h
  | [], _ :: _, h => by cases h
  | v :: vs, n :: ns, h => by
    cases h with
    | cons a b =>
      cases a
      rw [b.strs]
      rfl
theorem RpAll.bls : ∀ {vs : List V} {ns : List Bool}, RpAll K B vs (ns.map D.bl) → vs = ns.map V.bl
  | [], [], _ => rfl
  | _ :: _, [], h => by cases h
  | [], _ :: _, h => by cases h
  | v :: vs, n :: ns, h => by
    cases h with
    | cons a b =>
      cases a
      rw [b.bls]
      rfl
theorem RpAll.of_strs : ∀ ns : List Str, RpAll K B (ns.map V.str) (ns.map D.str)
  | [] => .nil
  | _ :: ns => .cons (.str _) (RpAll.of_strs ns)
theorem RpAll.of_ints : ∀ ns : List Int, RpAll K B (ns.map V.int) (ns.map D.int)
  | [] => .nil
  | _ :: ns => .cons (.int _) (RpAll.of_ints ns)
end

/-- a thing that may change, at a: its parts are frozen, itself is not -/
def At (K : PySem.W.Frag) (B H : Hp) (a : Addr) : Cn → Prop
  | .lst ds => ∃ xs, H a = some (.lst xs) ∧ RpAll K B xs ds
  | .dct ds => ∃ ks, H a = some (.dK ks) ∧ RpKv K B ks ds
/-- a value as data now: frozen, or the thing as it stands -/
def RpV (K : PySem.W.Frag) (B H : Hp) (v : V) : D → Prop
  | .lst ds => ∃ a xs, v = .ref a ∧ H a = some (.lst xs) ∧ RpAll K B xs ds
  | .dct ds => ∃ a ks, v = .ref a ∧ H a = some (.dK ks) ∧ RpKv K B ks ds
  | d => Rp K B v d
section
variable {K : PySem.W.Frag} {B B' H H' : Hp} {a : Addr} {c : Cn} {v : V} {d : D}
theorem At.some (h : At K B H a c) : ∃ o, H a = some o := by
  cases c <;> exact ⟨_, h.choose_spec.1⟩
theorem At.mono (h : At K B H a c) (s : Same B B') (e : ∀ o, H a = Option.some o → H' a = Option.some o) : At K B' H' a c := by
  cases c with
  | lst ds => obtain ⟨xs, h1, h2⟩ := h; exact ⟨xs, e _ h1, h2.mono s⟩
  | dct ds => obtain ⟨xs, h1, h2⟩ := h; exact ⟨xs, e _ h1, h2.mono s⟩
theorem At.view (h : At K B H a c) : RpV K B H (.ref a) c.toD := by
  cases c with
  | lst ds => obtain ⟨xs, h1, h2⟩ := h; exact ⟨a, xs, rfl, h1, h2⟩
  | dct ds => obtain ⟨xs, h1, h2⟩ := h; exact ⟨a, xs, rfl, h1, h2⟩
theorem Rp.view (h : Rp K B v d) (s : Same B H) : RpV K B H v d := by
  cases h with
  | lst h r => exact ⟨_, _, rfl, s _ _ h, r⟩
  | dct h r => exact ⟨_, _, rfl, s _ _ h, r⟩
  | non => exact .non
  | bl b => exact .bl b
  | int i => exact .int i
  | str x => exact .str x
  | ty n => exact .ty n
  | scr h => exact .scr h
  | cls h => exact .cls h
  | exc h r => exact .exc h r
  | obj h1 h2 h3 r => exact .obj h1 h2 h3 r
  | err h1 h2 h3 r => exact .err h1 h2 h3 r
  | tup h r => exact .tup h r
theorem RpV.whole (h : RpV K B H v d) (s : Same B H) : Rp K H v d := by
  cases d with
  | lst ds => obtain ⟨a, xs, rfl, h1, h2⟩ := h; exact .lst h1 (h2.mono s)
  | dct ds => obtain ⟨a, xs, rfl, h1, h2⟩ := h; exact .dct h1 (h2.mono s)
  | non => exact Rp.mono s h
  | bl b => exact Rp.mono s h
  | int i => exact Rp.mono s h
  | str x => exact Rp.mono s h
  | ty n => exact Rp.mono s h
  | scr l => exact Rp.mono s h
  | cls l => exact Rp.mono s h
  | exc a l m => exact Rp.mono s h
  | obj l m => exact Rp.mono s h
  | err l m => exact Rp.mono s h
  | tup l => exact Rp.mono s h
end

/-! ### the frame and its data -/
def Own (vs : List V) (σ : L2.St) (r : Rho) (a : Addr) : Prop := ∃ (z : Ix) (c : Cn), r.cnt z = some c ∧ adr vs σ z = some (.ref a)
structure Rl (K : PySem.W.Frag) (vs : List V) (B : Hp) (σ : L2.St) (H : Hp) (r : Rho) : Prop where
  sub : Same B H
  len : r.loc.length = σ.length
  dat : ∀ (i : Nat) (d : D), r.loc[i]? = some (some (.dt d)) → ∃ v, σ[i]? = some (some v) ∧ Rp K B v d
  own : ∀ (z : Ix) (c : Cn), r.cnt z = some c → ∃ a, adr vs σ z = some (.ref a) ∧ B a = none ∧ At K B H a c
  lbo : ∀ (i k : Nat), r.loc[i]? = some (some (.bor k)) → ∃ v, vs[k]? = some v ∧ σ[i]? = some (some v)
  bod : ∀ (k : Nat) (d : D), r.bor[k]? = some (.dt d) → ∃ v, vs[k]? = some v ∧ Rp K B v d
  sep : ∀ (z z' : Ix) (c c' : Cn) (a : Addr), r.cnt z = some c → r.cnt z' = some c' → adr vs σ z = some (.ref a) → adr vs σ z' = some (.ref a) → z = z'
/-- what a piece of code leaves as it was -/
structure Stp (vs : List V) (B H : Hp) (σ : L2.St) (r : Rho) (B' H' : Hp) (σ' : L2.St) (r' : Rho) : Prop where
  sub : Same B B'
  keep : ∀ a o, H a = some o → ¬ Own vs σ r a → H' a = some o ∧ (B a = none → B' a = none)
  dom : ∀ a, H' a = none → H a = none
  own : ∀ a, Own vs σ' r' a → Own vs σ r a ∨ H a = none
  bol : r'.bor.length = r.bor.length
  bod : ∀ (k : Nat) (d : D), r.bor[k]? = some (.dt d) → r'.bor[k]? = some (.dt d)
  boo : ∀ (k : Nat) (c : Cn) (a : Addr), r.bor[k]? = some (.own c) → vs[k]? = some (.ref a) → (∃ c', r'.bor[k]? = some (.own c')) ∨ ∃ d o, r'.bor[k]? = some (.dt d) ∧ B' a = some o
/-- Hs: the heap where the expression began: a new thing was not there -/
def RpW (K : PySem.W.Frag) (vs : List V) (Hs B : Hp) (σ : L2.St) (H : Hp) (r : Rho) (v : V) : W → Prop
  | .dt d => Rp K B v d
  | .fresh c => ∃ a, v = .ref a ∧ Hs a = none ∧ B a = none ∧ At K B H a c ∧ ¬ Own vs σ r a
  | .cel z => adr vs σ z = some v
section
variable {K : PySem.W.Frag} {vs : List V} {Hs B B' B2 H H' H2 : Hp} {σ σ' σ2 : L2.St} {r r' r2 : Rho} {v : V}
theorem Stp.refl : Stp vs B H σ r B H σ r := ⟨Same.refl B, fun _ _ h _ => ⟨h, fun q => q⟩, fun _ h => h, fun _ h => .inl h, rfl, fun _ _ h => h, fun _ c _ h _ => .inl ⟨c, h⟩⟩
theorem Stp.trans (a : Stp vs B H σ r B' H' σ' r') (b : Stp vs B' H' σ' r' B2 H2 σ2 r2) : Stp vs B H σ r B2 H2 σ2 r2 where
  sub := a.sub.trans b.sub
  keep := fun x o h n => by
    obtain ⟨h1, n1⟩ := a.keep x o h n
    have n2 : ¬ Own vs σ' r' x := fun q => (a.own x q).elim n fun z => by rw [h] at z; cases z
    obtain ⟨h2, n3⟩ := b.keep x o h1 n2
    exact ⟨h2, fun z => n3 (n1 z)⟩
  dom := fun x h => a.dom x (b.dom x h)
  own := fun x h => (b.own x h).elim (a.own x) fun z => .inr (a.dom x z)
  bol := b.bol.trans a.bol
  bod := fun k d h => b.bod k d (a.bod k d h)
  boo := fun k c x h hv => by
    rcases a.boo k c x h hv with ⟨c', h1⟩ | ⟨d, o, h1, h2⟩
    · exact b.boo k c' x h1 hv
    · exact .inr ⟨d, o, b.bod k d h1, b.sub _ _ h2⟩
theorem RpW.stp {w : W} (h : RpW K vs Hs B σ H r v w) (s : Stp vs B H σ r B' H' σ r') : RpW K vs Hs B' σ H' r' v w := by
  cases w with
  | dt d => exact Rp.mono s.sub h
  | cel z => exact h
  | fresh c =>
    obtain ⟨a, rfl, hs, hb, ha, hn⟩ := h
    obtain ⟨o, ho⟩ := ha.some
    obtain ⟨_, k2⟩ := s.keep a o ho hn
    refine ⟨a, rfl, hs, k2 hb, ha.mono s.sub fun o' e => (s.keep a o' e hn).1, fun q => ?_⟩
    rcases s.own a q with z | z
    · exact hn z
    · rw [ho] at z; cases z
theorem RpW.back {w : W} (h : RpW K vs H B' σ H' r v w) (s : ∀ a, H a = none → Hs a = none) : RpW K vs Hs B' σ H' r v w := by
  cases w with
  | dt d => exact h
  | cel z => exact h
  | fresh c =>
    obtain ⟨a, rfl, hs, q⟩ := h
    exact ⟨a, rfl, s a hs, q⟩
theorem Rl.look {z : Ix} {d : D} (R : Rl K vs B σ H r) (h : r.look z = some d) (ha : adr vs σ z = some v) : RpV K B H v d := by
  cases z with
  | loc i =>
    cases e : r.loc[i]? with
    | none => simp [Rho.look, e] at h
    | some o =>
      cases o with
      | none => simp [Rho.look, e] at h
      | some s =>
        cases s with
        | dt d' =>
          simp only [Rho.look, e, Option.some.injEq] at h
          subst h
          obtain ⟨u, hu, ru⟩ := R.dat i d' e
          simp only [adr, hu, Option.some.injEq] at ha
          subst ha
          exact ru.view R.sub
        | own c =>
          simp only [Rho.look, e, Option.some.injEq] at h
          subst h
          obtain ⟨a, h1, h2, h3⟩ := R.own (.loc i) c (by simp [Rho.cnt, e])
          rw [h1] at ha; cases ha
          exact h3.view
        | bor k => simp [Rho.look, e] at h
  | bor k =>
    cases e : r.bor[k]? with
    | none => simp [Rho.look, e] at h
    | some s =>
      cases s with
      | dt d' =>
        simp only [Rho.look, e, Option.some.injEq] at h
        subst h
        obtain ⟨u, hu, ru⟩ := R.bod k d' e
        have ha' : vs[k]? = some v := ha
        rw [hu] at ha'; cases ha'
        exact ru.view R.sub
      | own c =>
        simp only [Rho.look, e, Option.some.injEq] at h
        subst h
        obtain ⟨a, h1, h2, h3⟩ := R.own (.bor k) c (by simp [Rho.cnt, e])
        rw [h1] at ha; cases ha
        exact h3.view
theorem RpW.view {w : W} {d : D} (R : Rl K vs B σ H r) (h : RpW K vs Hs B σ H r v w) (e : w.view r = some d) : RpV K B H v d := by
  cases w with
  | dt d' => cases e; exact Rp.view h R.sub
  | fresh c => cases e; obtain ⟨a, rfl, _, _, ha, _⟩ := h; exact ha.view
  | cel z => exact R.look e h
end

/-! ### new things -/
structure Ext (B H B' H' : Hp) : Prop where
  sub : Same B B'
  keep : Same H H'
  new : ∀ a o, H a = some o → B a = none → B' a = none
def RpB (K : PySem.W.Frag) (H B' H' : Hp) (v : V) : Bo → Prop
  | .dt d => Rp K B' v d
  | .own c => ∃ a, v = .ref a ∧ H a = none ∧ B' a = none ∧ At K B' H' a c
def Bo.toW : Bo → W
  | .dt d => .dt d
  | .own c => .fresh c
section
variable {K : PySem.W.Frag} {vs : List V} {Hs B B' B2 H H' H2 : Hp} {σ σ' : L2.St} {r : Rho} {v : V} {p : Addr} {o : HO}
theorem Ext.refl : Ext B H B H := ⟨Same.refl B, Same.refl H, fun _ _ _ h => h⟩
theorem same_upd (n : H p = none) : Same H (upd H p o) := fun a u h => by rw [upd_ne (ne_of_none h n)]; exact h
theorem Ext.plain (n : H p = none) : Ext B H B (upd H p o) := ⟨Same.refl B, same_upd n, fun _ _ _ h => h⟩
theorem none_of_sub (s : Same B H) (n : H p = none) : B p = none := by
  cases e : B p with
  | none => rfl
  | some u => rw [s _ _ e] at n; cases n
theorem Ext.frozen (s : Same B H) (n : H p = none) : Ext B H (upd B p o) (upd H p o) :=
  ⟨same_upd (none_of_sub s n), same_upd n, fun a u h q => by rw [upd_ne (ne_of_none h n)]; exact q⟩
theorem same_both (s : Same B H) : Same (upd B p o) (upd H p o) := fun a u h => by
  by_cases e : a = p
  · subst e; rw [upd_same] at h ⊢; exact h
  · rw [upd_ne e] at h ⊢; exact s _ _ h
theorem Ext.trans (a : Ext B H B' H') (b : Ext B' H' B2 H2) : Ext B H B2 H2 :=
  ⟨a.sub.trans b.sub, a.keep.trans b.keep, fun x u h q => b.new x u (a.keep _ _ h) (a.new x u h q)⟩
theorem Rl.ext (R : Rl K vs B σ H r) (e : Ext B H B' H') (s : Same B' H') : Rl K vs B' σ H' r where
  sub := s
  len := R.len
  dat := fun i d h => by obtain ⟨v, h1, h2⟩ := R.dat i d h; exact ⟨v, h1, h2.mono e.sub⟩
  own := fun z c h => by
    obtain ⟨a, h1, h2, h3⟩ := R.own z c h
    obtain ⟨u, hu⟩ := h3.some
    exact ⟨a, h1, e.new a u hu h2, h3.mono e.sub fun o q => e.keep _ _ q⟩
  lbo := R.lbo
  bod := fun k d h => by obtain ⟨v, h1, h2⟩ := R.bod k d h; exact ⟨v, h1, h2.mono e.sub⟩
  sep := R.sep
theorem Ext.stp (e : Ext B H B' H') : Stp vs B H σ r B' H' σ r :=
  ⟨e.sub, fun a u h _ => ⟨e.keep _ _ h, e.new a u h⟩, fun _ h => e.keep.free h, fun _ h => .inl h, rfl, fun _ _ h => h, fun _ c _ h _ => .inl ⟨c, h⟩⟩
theorem Rl.notOwn (R : Rl K vs B σ H r) {a : Addr} (n : H a = none) : ¬ Own vs σ r a := fun ⟨z, c, h1, h2⟩ => by
  obtain ⟨b, q1, q2, q3⟩ := R.own z c h1
  rw [h2] at q1; cases q1
  obtain ⟨u, hu⟩ := q3.some
  rw [n] at hu; cases hu
theorem RpB.toW {b : Bo} (R : Rl K vs B σ H r) (h : RpB K H B' H' v b) (d : ∀ a, H a = none → Hs a = none) : RpW K vs Hs B' σ H' r v b.toW := by
  cases b with
  | dt d => exact h
  | own c =>
    obtain ⟨a, rfl, n, nb, ha⟩ := h
    exact ⟨a, rfl, d a n, nb, ha, R.notOwn n⟩
theorem Rl.notOwnB (R : Rl K vs B σ H r) {a : Addr} {o : HO} (n : B a = some o) : ¬ Own vs σ r a := fun ⟨z, c, h1, h2⟩ => by
  obtain ⟨b, q1, q2, q3⟩ := R.own z c h1
  rw [h2] at q1; cases q1
  rw [n] at q2; cases q2
end

/-! ### a thing is changed, or frozen -/
section
variable {r : Rho} {z : Ix} {c c' : Cn} {d : D}
theorem lt_of_cnt_loc {i : Nat} (h : r.cnt (.loc i) = some c) : i < r.loc.length := by
  cases e : r.loc[i]? with
  | none => simp [Rho.cnt, e] at h
  | some s => exact (List.getElem?_eq_some_iff.mp e).1
theorem lt_of_cnt_bor {i : Nat} (h : r.cnt (.bor i) = some c) : i < r.bor.length := by
  cases e : r.bor[i]? with
  | none => simp [Rho.cnt, e] at h
  | some s => exact (List.getElem?_eq_some_iff.mp e).1
theorem cnt_setc (h : r.cnt z = some c) (z' : Ix) : (r.setc c' z).cnt z' = if z' = z then some c' else r.cnt z' := by
  cases z with
  | loc i =>
    have hi := lt_of_cnt_loc h
    cases z' with
    | loc j =>
      by_cases e : j = i
      · subst e; simp [Rho.setc, Rho.cnt, List.getElem?_set_self hi]
      · have : ¬ Ix.loc j = Ix.loc i := fun q => e (Ix.loc.inj q)
        simp [Rho.setc, Rho.cnt, List.getElem?_set_ne (Ne.symm e), this]
    | bor j => simp [Rho.setc, Rho.cnt]
  | bor i =>
    have hi := lt_of_cnt_bor h
    cases z' with
    | bor j =>
      by_cases e : j = i
      · subst e; simp [Rho.setc, Rho.cnt, List.getElem?_set_self hi]
      · have : ¬ Ix.bor j = Ix.bor i := fun q => e (Ix.bor.inj q)
        simp [Rho.setc, Rho.cnt, List.getElem?_set_ne (Ne.symm e), this]
    | loc j => simp [Rho.setc, Rho.cnt]
theorem cnt_frz (h : r.cnt z = some c) (z' : Ix) : (r.frz d z).cnt z' = if z' = z then none else r.cnt z' := by
  cases z with
  | loc i =>
    have hi := lt_of_cnt_loc h
    cases z' with
    | loc j =>
      by_cases e : j = i
      · subst e; simp [Rho.frz, Rho.cnt, List.getElem?_set_self hi]
      · have : ¬ Ix.loc j = Ix.loc i := fun q => e (Ix.loc.inj q)
        simp [Rho.frz, Rho.cnt, List.getElem?_set_ne (Ne.symm e), this]
    | bor j => simp [Rho.frz, Rho.cnt]
  | bor i =>
    have hi := lt_of_cnt_bor h
    cases z' with
    | bor j =>
      by_cases e : j = i
      · subst e; simp [Rho.frz, Rho.cnt, List.getElem?_set_self hi]
      · have : ¬ Ix.bor j = Ix.bor i := fun q => e (Ix.bor.inj q)
        simp [Rho.frz, Rho.cnt, List.getElem?_set_ne (Ne.symm e), this]
    | loc j => simp [Rho.frz, Rho.cnt]
end
section
variable {K : PySem.W.Frag} {vs : List V} {B H : Hp} {σ : L2.St} {r : Rho} {z : Ix} {c c' : Cn} {a : Addr} {o : HO}
/-- the thing at a becomes c' -/
theorem Rl.put (R : Rl K vs B σ H r) (hz : r.cnt z = some c) (ha : adr vs σ z = some (.ref a)) (hc : At K B (upd H a o) a c') :
    Rl K vs B σ (upd H a o) (r.setc c' z) ∧ Stp vs B H σ r B (upd H a o) σ (r.setc c' z) := by
  obtain ⟨a', q1, q2, q3⟩ := R.own z c hz
  rw [ha] at q1; cases q1
  have own' : ∀ x, Own vs σ (r.setc c' z) x → Own vs σ r x := fun x ⟨y, e, h1, h2⟩ => by
    rw [cnt_setc hz] at h1
    by_cases hy : y = z
    · subst hy; exact ⟨y, c, hz, h2⟩
    · rw [if_neg hy] at h1; exact ⟨y, e, h1, h2⟩
  have hsub : Same B (upd H a o) := fun x u h => by
    have : x ≠ a := fun e => by subst e; rw [q2] at h; cases h
    rw [upd_ne this]; exact R.sub _ _ h
  refine ⟨⟨hsub, ?_, ?_, ?_, ?_, ?_, ?_⟩, ⟨Same.refl B, ?_, ?_, fun x h => .inl (own' x h), ?_, ?_, ?_⟩⟩
  · cases z <;> simp [Rho.setc, R.len]
  · intro i d h
    cases z with
    | loc j =>
      by_cases e : j = i
      · subst e
        have := lt_of_cnt_loc hz
        simp [Rho.setc, List.getElem?_set_self this] at h
      · exact R.dat i d (by simpa [Rho.setc, List.getElem?_set_ne e] using h)
    | bor j => exact R.dat i d h
  · intro y e h
    rw [cnt_setc hz] at h
    by_cases hy : y = z
    · subst hy
      rw [if_pos rfl] at h; cases h
      exact ⟨a, ha, q2, hc⟩
    · rw [if_neg hy] at h
      obtain ⟨b, p1, p2, p3⟩ := R.own y e h
      have nb : b ≠ a := fun q => hy (R.sep y z e c a h hz (q ▸ p1) ha)
      exact ⟨b, p1, p2, p3.mono (Same.refl B) fun u q => by rw [upd_ne nb]; exact q⟩
  · intro i k h
    cases z with
    | loc j =>
      by_cases e : j = i
      · subst e
        have := lt_of_cnt_loc hz
        simp [Rho.setc, List.getElem?_set_self this] at h
      · exact R.lbo i k (by simpa [Rho.setc, List.getElem?_set_ne e] using h)
    | bor j => exact R.lbo i k h
  · intro k d h
    cases z with
    | bor j =>
      by_cases e : j = k
      · subst e
        have := lt_of_cnt_bor hz
        simp [Rho.setc, List.getElem?_set_self this] at h
      · exact R.bod k d (by simpa [Rho.setc, List.getElem?_set_ne e] using h)
    | loc j => exact R.bod k d h
  · intro y y' e e' x h h' p p'
    rw [cnt_setc hz] at h h'
    have g : ∀ {y : Ix} {e : Cn}, (if y = z then some c' else r.cnt y) = some e → ∃ e2, r.cnt y = some e2 := fun {y e} h => by
      by_cases hy : y = z
      · subst hy; exact ⟨c, hz⟩
      · rw [if_neg hy] at h; exact ⟨e, h⟩
    obtain ⟨e1, g1⟩ := g h
    obtain ⟨e2, g2⟩ := g h'
    exact R.sep y y' e1 e2 x g1 g2 p p'
  · intro x u h n
    have : x ≠ a := fun e => by subst e; exact n ⟨z, c, hz, ha⟩
    rw [upd_ne this]
    exact ⟨h, fun q => q⟩
  · intro x h
    by_cases e : x = a
    · subst e; rw [upd_same] at h; cases h
    · rw [upd_ne e] at h; exact h
  · cases z <;> simp [Rho.setc]
  · intro k d h
    cases z with
    | bor j =>
      by_cases e : j = k
      · subst e
        have q : r.cnt (.bor j) = some c := hz
        simp [Rho.cnt, h] at q
      · simpa [Rho.setc, List.getElem?_set_ne e] using h
    | loc j => exact h
  · intro k e x h _
    cases z with
    | bor j =>
      by_cases e2 : j = k
      · subst e2
        exact .inl ⟨c', by simp [Rho.setc, List.getElem?_set_self (lt_of_cnt_bor hz)]⟩
      · exact .inl ⟨e, by simpa [Rho.setc, List.getElem?_set_ne e2] using h⟩
    | loc j => exact .inl ⟨e, h⟩
theorem At.rp (h : At K B H a c) (n : B a = none) : ∃ o, H a = Option.some o ∧ Rp K (upd B a o) (.ref a) c.toD := by
  cases c with
  | lst ds =>
    obtain ⟨xs, h1, h2⟩ := h
    exact ⟨_, h1, .lst upd_same (h2.mono (same_upd n))⟩
  | dct ds =>
    obtain ⟨xs, h1, h2⟩ := h
    exact ⟨_, h1, .dct upd_same (h2.mono (same_upd n))⟩
/-- the thing at a is data from now on -/
theorem Rl.freeze (R : Rl K vs B σ H r) (hz : r.cnt z = some c) (ha : adr vs σ z = some (.ref a)) :
    ∃ o, H a = some o ∧ Rp K (upd B a o) (.ref a) c.toD ∧ Rl K vs (upd B a o) σ H (r.frz c.toD z) ∧ Stp vs B H σ r (upd B a o) H σ (r.frz c.toD z) := by
  obtain ⟨a', q1, q2, q3⟩ := R.own z c hz
  rw [ha] at q1; cases q1
  obtain ⟨o, ho, rp⟩ := q3.rp q2
  have sb : Same B (upd B a o) := same_upd q2
  have own' : ∀ x, Own vs σ (r.frz c.toD z) x → Own vs σ r x ∧ x ≠ a := fun x ⟨y, e, h1, h2⟩ => by
    rw [cnt_frz hz] at h1
    by_cases hy : y = z
    · subst hy; rw [if_pos rfl] at h1; cases h1
    · rw [if_neg hy] at h1
      refine ⟨⟨y, e, h1, h2⟩, fun q => hy ?_⟩
      subst q
      exact R.sep y z e c x h1 hz h2 ha
  refine ⟨o, ho, rp, ⟨?_, ?_, ?_, ?_, ?_, ?_, ?_⟩, ⟨sb, ?_, fun _ h => h, fun x h => .inl (own' x h).1, ?_, ?_, ?_⟩⟩
  · intro x u h
    by_cases e : x = a
    · subst e; rw [upd_same] at h; cases h; exact ho
    · rw [upd_ne e] at h; exact R.sub _ _ h
  · cases z <;> simp [Rho.frz, R.len]
  · intro i d h
    cases z with
    | loc j =>
      by_cases e : j = i
      · subst e
        have := lt_of_cnt_loc hz
        simp [Rho.frz, List.getElem?_set_self this] at h
        subst h
        have ha' : (match σ[j]? with | some (some v) => some v | _ => none) = some (V.ref a) := ha
        cases e2 : σ[j]? with
        | none => rw [e2] at ha'; cases ha'
        | some w =>
          cases w with
          | none => rw [e2] at ha'; cases ha'
          | some w => rw [e2] at ha'; cases ha'; exact ⟨_, rfl, rp⟩
      · obtain ⟨v, h1, h2⟩ := R.dat i d (by simpa [Rho.frz, List.getElem?_set_ne e] using h)
        exact ⟨v, h1, h2.mono sb⟩
    | bor j =>
      obtain ⟨v, h1, h2⟩ := R.dat i d h
      exact ⟨v, h1, h2.mono sb⟩
  · intro y e h
    rw [cnt_frz hz] at h
    by_cases hy : y = z
    · subst hy; rw [if_pos rfl] at h; cases h
    · rw [if_neg hy] at h
      obtain ⟨b, p1, p2, p3⟩ := R.own y e h
      have nb : b ≠ a := fun q => hy (R.sep y z e c a h hz (q ▸ p1) ha)
      exact ⟨b, p1, by rw [upd_ne nb]; exact p2, p3.mono sb fun u q => q⟩
  · intro i k h
    cases z with
    | loc j =>
      by_cases e : j = i
      · subst e
        have := lt_of_cnt_loc hz
        simp [Rho.frz, List.getElem?_set_self this] at h
      · exact R.lbo i k (by simpa [Rho.frz, List.getElem?_set_ne e] using h)
    | bor j => exact R.lbo i k h
  · intro k d h
    cases z with
    | bor j =>
      by_cases e : j = k
      · subst e
        have := lt_of_cnt_bor hz
        simp [Rho.frz, List.getElem?_set_self this] at h
        subst h
        exact ⟨_, ha, rp⟩
      · obtain ⟨v, h1, h2⟩ := R.bod k d (by simpa [Rho.frz, List.getElem?_set_ne e] using h)
        exact ⟨v, h1, h2.mono sb⟩
    | loc j =>
      obtain ⟨v, h1, h2⟩ := R.bod k d h
      exact ⟨v, h1, h2.mono sb⟩
  · intro y y' e e' x h h' p p'
    rw [cnt_frz hz] at h h'
    have g : ∀ {y : Ix} {e : Cn}, (if y = z then none else r.cnt y) = some e → r.cnt y = some e := fun {y e} h => by
      by_cases hy : y = z
      · subst hy; rw [if_pos rfl] at h; cases h
      · rw [if_neg hy] at h; exact h
    exact R.sep y y' e e' x (g h) (g h') p p'
  · intro x u h n
    have : x ≠ a := fun e => by subst e; exact n ⟨z, c, hz, ha⟩
    exact ⟨h, fun q => by rw [upd_ne this]; exact q⟩
  · cases z <;> simp [Rho.frz]
  · intro k d h
    cases z with
    | bor j =>
      by_cases e : j = k
      · subst e
        have q : r.cnt (.bor j) = some c := hz
        simp [Rho.cnt, h] at q
      · simpa [Rho.frz, List.getElem?_set_ne e] using h
    | loc j => exact h
  · intro k e x h hx
    cases z with
    | bor j =>
      by_cases e2 : j = k
      · subst e2
        have hx' : adr vs σ (.bor j) = some (.ref x) := hx
        rw [ha] at hx'; cases hx'
        exact .inr ⟨c.toD, o, by simp [Rho.frz, List.getElem?_set_self (lt_of_cnt_bor hz)], upd_same⟩
      · exact .inl ⟨e, by simpa [Rho.frz, List.getElem?_set_ne e2] using h⟩
    | loc j => exact .inl ⟨e, h⟩
end
end Lc

set_option Elab.async false
set_option maxRecDepth 100000
set_option maxHeartbeats 4000000
/-! Part B: what a piece of syntax denotes over plain data; expressions and tests. -/
namespace Lc
open PySem L2

/-- an exception's class and its attributes -/
def RpXK (K : PySem.W.Frag) (mg : Str → Option Value) (B : Hp) (cl : Value) (dd : Option Addr) (x : Ex) : Prop :=
  ∃ C a fs, cl = .ref C ∧ mg x.cls = some (.ref C) ∧ dd = some a ∧ B a = some (.xd fs) ∧ RpF K B fs x.fs
abbrev RpX (X : Cx) (B : Hp) (cl : Value) (dd : Option Addr) (x : Ex) : Prop := RpXK X.K X.mg B cl dd x

def Post {α β : Type} (X : Cx) (vs : List V) (Wx : WX) (B H : Hp) (σ : L2.St) (r : Rho) (res : Res α) (rel : Hp → Hp → Rho → β → α → Prop) (Q : β → Hp → Prop) : Prop :=
  match res with
  | .ok a r' => ∀ b B' H', Stp vs B H σ r B' H' σ r' → Rl X.K vs B' σ H' r' → rel B' H' r' b a → Q b H'
  | .exc x r' => ∀ cl dd B' H', Stp vs B H σ r B' H' σ r' → Rl X.K vs B' σ H' r' → RpX X B' cl dd x → Wx cl dd σ H'
  | .fail => False
abbrev Fam (β α : Type) := Hp → Hp → Hp → Rho → β → α → Prop
def Back {β α : Type} (F : Fam β α) : Prop := ∀ Hs H B' H' r' b a, (∀ x, H x = none → Hs x = none) → F H B' H' r' b a → F Hs B' H' r' b a
def fW (X : Cx) (vs : List V) (σ : L2.St) : Fam V W := fun Hs B' H' r' v w => RpW X.K vs Hs B' σ H' r' v w
def fT : Fam Bool Bool := fun _ _ _ _ b a => b = a
theorem back_W {X : Cx} {vs : List V} {σ : L2.St} : Back (fW X vs σ) := fun _ _ _ _ _ _ _ s h => RpW.back h s
theorem back_T : Back fT := fun _ _ _ _ _ _ _ _ h => h
section
variable {X : Cx} {vs : List V} {Wx : WX} {B H : Hp} {σ : L2.St} {r : Rho}
/-- what follows, seen from the start -/
theorem Post.bind0 {α β γ δ : Type} {rel1 : Hp → Hp → Rho → β → α → Prop} {rel2 : Hp → Hp → Rho → δ → γ → Prop} {m : M α} {k : α → M γ} {Q1 : β → Hp → Prop} {Q2 : δ → Hp → Prop} (h : Post X vs Wx B H σ r (M.bind m k r) rel2 Q2)
    (hk : ∀ b a B1 H1 r1, Stp vs B H σ r B1 H1 σ r1 → Rl X.K vs B1 σ H1 r1 → rel1 B1 H1 r1 b a → Post X vs Wx B H σ r (k a r1) rel2 Q2 → Q1 b H1) : Post X vs Wx B H σ r (m r) rel1 Q1 := by
  cases hm : m r with
  | ok a r1 =>
    have e : M.bind m k r = k a r1 := by simp [M.bind, hm]
    rw [e] at h
    exact fun b B1 H1 s1 R1 f1 => hk b a B1 H1 r1 s1 R1 f1 h
  | exc x r1 =>
    have e : M.bind m k r = .exc x r1 := by simp [M.bind, hm]
    rw [e] at h
    exact h
  | fail =>
    have e : M.bind m k r = .fail := by simp [M.bind, hm]
    rw [e] at h
    exact h.elim
/-- the same, seen from further on -/
theorem Post.shift {γ δ : Type} {F : Fam δ γ} {B1 H1 : Hp} {r1 : Rho} {res : Res γ} {Q : δ → Hp → Prop} (hF : Back F) (s1 : Stp vs B H σ r B1 H1 σ r1) (h : Post X vs Wx B H σ r res (F H) Q) : Post X vs Wx B1 H1 σ r1 res (F H1) Q := by
  cases res with
  | ok c r2 => exact fun d B2 H2 s2 R2 f2 => h d B2 H2 (s1.trans s2) R2 (hF _ _ _ _ _ _ _ s1.dom f2)
  | exc x r2 => exact fun cl dd B2 H2 s2 R2 f2 => h cl dd B2 H2 (s1.trans s2) R2 f2
  | fail => exact h.elim
theorem Post.bind {α β γ δ : Type} {F1 : Fam β α} {F2 : Fam δ γ} {m : M α} {k : α → M γ} {Q1 : β → Hp → Prop} {Q2 : δ → Hp → Prop} (hF : Back F2) (h : Post X vs Wx B H σ r (M.bind m k r) (F2 H) Q2)
    (hk : ∀ b a B1 H1 r1, Stp vs B H σ r B1 H1 σ r1 → Rl X.K vs B1 σ H1 r1 → F1 H B1 H1 r1 b a → Post X vs Wx B1 H1 σ r1 (k a r1) (F2 H1) Q2 → Q1 b H1) : Post X vs Wx B H σ r (m r) (F1 H) Q1 :=
  Post.bind0 h fun b a B1 H1 r1 s1 R1 f1 h1 => hk b a B1 H1 r1 s1 R1 f1 (h1.shift hF s1)
/-- a pure end: nothing changes but for new things -/
theorem Post.fin {α β : Type} {F : Fam β α} {a : α} {b : β} {B' H' : Hp} {Q : β → Hp → Prop} (R : Rl X.K vs B σ H r) (h : Post X vs Wx B H σ r (.ok a r) (F H) Q) (e : Ext B H B' H') (s : Same B' H') (f : F H B' H' r b a) : Q b H' :=
  h b B' H' e.stp (R.ext e s) f
end

structure DE (X : Cx) (e : Expr) (f : M W) : Prop where
  run : ∀ Wx, Takes X Wx → ∃ t, PE X e t ∧ ∀ vs B σ H r Q, Rl X.K vs B σ H r → Post X vs Wx B H σ r (f r) (fW X vs σ H) Q → t σ H Q
structure DT (X : Cx) (e : Expr) (f : M Bool) : Prop where
  run : ∀ Wx, Takes X Wx → ∃ t, PT X e t ∧ ∀ vs B σ H r Q, Rl X.K vs B σ H r → Post X vs Wx B H σ r (f r) (fT H) Q → t σ H Q
/-- a test of and, or: whatever its whole is -/
structure DW (X : Cx) (e : Expr) (f : M Bool) : Prop where
  run : ∀ Wx, Takes X Wx → ∃ t, PW X e t ∧ ∀ vs B σ H r Q, Rl X.K vs B σ H r → Post X vs Wx B H σ r (f r) (fT H) Q → t σ H Q
theorem DW.dt {X : Cx} {e : Expr} {f : M Bool} (h : DW X e f) : DT X e f := ⟨fun Wx tk => let ⟨t, a, b⟩ := h.run Wx tk; ⟨t, a.pt, b⟩⟩

/-! ### names and constants -/
def cVar (i : Nat) : M W := fun r => match r.loc[i]? with
  | some (some (.dt d)) => .ok (.dt d) r
  | some (some (.own _)) => .ok (.cel (.loc i)) r
  | some (some (.bor k)) => .ok (.cel (.bor k)) r
  | _ => .fail
def cC (d : D) : M W := fun r => .ok (.dt d) r
section
variable {X : Cx}
theorem de_var {i : Nat} {x : Str} {pos : Pos} (hN : X.N[i]? = some x) (hv : Vis X.env.scope x) (hd : (x == ("__debug__" : Str)) = false) (hcd : (x == ("__classdict__" : Str)) = false) : DE X (.Name x pos) (cVar i) := by
  refine ⟨fun Wx tk => ⟨_, pe_var hN hv hd hcd, fun vs B σ H r Q R h => ?_⟩⟩
  cases e : r.loc[i]? with
  | none => simp only [cVar, e] at h; exact h.elim
  | some o =>
    cases o with
    | none => simp only [cVar, e] at h; exact h.elim
    | some s =>
      cases s with
      | dt d =>
        simp only [cVar, e] at h
        obtain ⟨v, h1, h2⟩ := R.dat i d e
        exact ⟨v, h1, h v B H .refl R h2⟩
      | own c =>
        simp only [cVar, e] at h
        obtain ⟨a, h1, h2, h3⟩ := R.own (.loc i) c (by simp [Rho.cnt, e])
        have h1' := h1
        simp only [adr] at h1'
        cases e2 : σ[i]? with
        | none => rw [e2] at h1'; cases h1'
        | some w =>
          cases w with
          | none => rw [e2] at h1'; cases h1'
          | some w =>
            rw [e2] at h1'; cases h1'
            exact ⟨_, e2, h _ B H .refl R h1⟩
      | bor k =>
        simp only [cVar, e] at h
        obtain ⟨v, h1, h2⟩ := R.lbo i k e
        exact ⟨v, h2, h v B H .refl R h1⟩
theorem de_const {e : Expr} {v : V} {d : D} (hp : PE X e (tC v)) (hr : ∀ B, Rp X.K B v d) : DE X e (cC d) :=
  ⟨fun _ _ => ⟨_, hp, fun _ B _ H _ _ R h => h v B H .refl R (hr B)⟩⟩
theorem de_int {i j pos} : DE X (.Constant (.int i) j pos) (cC (.int i)) := de_const pe_int fun _ => .int i
theorem de_bl {i j pos} : DE X (.Constant (.bool i) j pos) (cC (.bl i)) := de_const pe_bl fun _ => .bl i
theorem de_non {j pos} : DE X (.Constant .none j pos) (cC .non) := de_const pe_non fun _ => .non
theorem de_str {i j pos} : DE X (.Constant (.str i) j pos) (cC (.str i)) := de_const pe_str fun _ => .str i
end

/-! ### pure operations -/
def OpS (X : Cx) (f : Value → Value → Sem Value) (g : D → D → Option Bo) : Prop :=
  ∃ rr : R2, OpR X f rr ∧ ∀ x y da db b, g da db = some b → ∀ B H Q, Same B H → RpV X.K B H x da → RpV X.K B H y db → (∀ v B' H', Ext B H B' H' → Same B' H' → RpB X.K H B' H' v b → Q v H') → rr x y H Q
def UnS (X : Cx) (f : Value → Sem Value) (g : D → Option Bo) : Prop :=
  ∃ rr, UnR X f rr ∧ ∀ x da b, g da = some b → ∀ B H Q, Same B H → RpV X.K B H x da → (∀ v B' H', Ext B H B' H' → Same B' H' → RpB X.K H B' H' v b → Q v H') → rr x H Q
def M.view (w : W) : M D := fun r => match w.view r with
  | some d => .ok d r
  | none => .fail
def M.give (o : Option Bo) : M W := fun r => match o with
  | some b => .ok b.toW r
  | none => .fail
def cOp2 (g : D → D → Option Bo) (fa fb : M W) : M W := M.bind fa fun wa => M.bind fb fun wb => M.bind (M.view wa) fun da => M.bind (M.view wb) fun db => M.give (g da db)
def cOp1 (g : D → Option Bo) (fa : M W) : M W := M.bind fa fun wa => M.bind (M.view wa) fun da => M.give (g da)
section
variable {X : Cx} {vs : List V} {Wx : WX} {B H Hs : Hp} {σ : L2.St} {r : Rho} {a b : Expr} {fa fb : M W} {pos : Pos}
theorem Post.view {γ δ : Type} {rel : Hp → Hp → Rho → δ → γ → Prop} {B0 H0 : Hp} {r0 : Rho} {w : W} {k : D → M γ} {Q : δ → Hp → Prop} {v : V} (R : Rl X.K vs B σ H r) (hv : RpW X.K vs Hs B σ H r v w) (h : Post X vs Wx B0 H0 σ r0 (M.bind (M.view w) k r) rel Q) :
    ∃ d, RpV X.K B H v d ∧ w.view r = some d ∧ Post X vs Wx B0 H0 σ r0 (k d r) rel Q := by
  cases e : w.view r with
  | none => simp only [M.bind, M.view, e] at h; exact h.elim
  | some d =>
    simp only [M.bind, M.view, e] at h
    exact ⟨d, hv.view R e, rfl, h⟩
theorem Post.give {o : Option Bo} {Q : VK} (R : Rl X.K vs B σ H r) (h : Post X vs Wx B H σ r (M.give o r) (fW X vs σ H) Q) :
    ∃ b, o = some b ∧ ∀ v B' H', Ext B H B' H' → Same B' H' → RpB X.K H B' H' v b → Q v H' := by
  cases o with
  | none => exact h.elim
  | some b =>
    refine ⟨b, rfl, fun v B' H' e s q => ?_⟩
    have h' : Post X vs Wx B H σ r (.ok b.toW r) (fW X vs σ H) Q := h
    exact h'.fin R e s (q.toW R fun _ z => z)
/-- two values, then a pure operation -/
theorem Post.op2 {g : D → D → Option Bo} {ta tb : TE} {Q : VK} {rr : R2} (R : Rl X.K vs B σ H r)
    (ha : ∀ vs B σ H r Q, Rl X.K vs B σ H r → Post X vs Wx B H σ r (fa r) (fW X vs σ H) Q → ta σ H Q) (hb : ∀ vs B σ H r Q, Rl X.K vs B σ H r → Post X vs Wx B H σ r (fb r) (fW X vs σ H) Q → tb σ H Q)
    (ho : ∀ x y da db b, g da db = some b → ∀ B H Q, Same B H → RpV X.K B H x da → RpV X.K B H y db → (∀ v B' H', Ext B H B' H' → Same B' H' → RpB X.K H B' H' v b → Q v H') → rr x y H Q)
    (h : Post X vs Wx B H σ r (cOp2 g fa fb r) (fW X vs σ H) Q) : tOp rr ta tb σ H Q := by
  refine ha vs B σ H r _ R (Post.bind back_W h fun x wa B1 H1 r1 s1 R1 q1 h1 => ?_)
  refine hb vs B1 σ H1 r1 _ R1 (Post.bind back_W h1 fun y wb B2 H2 r2 s2 R2 q2 h2 => ?_)
  obtain ⟨da, va, _, h3⟩ := Post.view R2 (RpW.stp q1 s2) h2
  obtain ⟨db, vb, _, h4⟩ := Post.view R2 q2 h3
  obtain ⟨bo, eb, h5⟩ := Post.give R2 h4
  exact ho x y da db bo eb B2 H2 Q R2.sub va vb h5
theorem de_bin {op : Operator} {g : D → D → Option Bo} (ho : OpS X (binaryOp op) g) (ha : DE X a fa) (hb : DE X b fb) : DE X (.BinOp a op b pos) (cOp2 g fa fb) := by
  refine ⟨fun Wx tk => ?_⟩
  obtain ⟨ta, pa, qa⟩ := ha.run Wx tk
  obtain ⟨tb, pb, qb⟩ := hb.run Wx tk
  obtain ⟨rr, h1, h2⟩ := ho
  exact ⟨_, pe_op h1 pa pb, fun vs B σ H r Q R h => Post.op2 R qa qb h2 h⟩
theorem de_cmp {op : CmpOp} {g : D → D → Option Bo} (ho : OpS X (compareOp op) g) (ha : DE X a fa) (hb : DE X b fb) (hm : behindInMarks op b = false) : DE X (.Compare a [op] [b] pos) (cOp2 g fa fb) := by
  refine ⟨fun Wx tk => ?_⟩
  obtain ⟨ta, pa, qa⟩ := ha.run Wx tk
  obtain ⟨tb, pb, qb⟩ := hb.run Wx tk
  obtain ⟨rr, h1, h2⟩ := ho
  exact ⟨_, pe_cmpR h1 pa pb hm, fun vs B σ H r Q R h => Post.op2 R qa qb h2 h⟩
theorem de_un {op : UnaryOp} {g : D → Option Bo} (ho : UnS X (unaryOp op) g) (ha : DE X a fa) : DE X (.UnaryOp op a pos) (cOp1 g fa) := by
  refine ⟨fun Wx tk => ?_⟩
  obtain ⟨ta, pa, qa⟩ := ha.run Wx tk
  obtain ⟨rr, h1, h2⟩ := ho
  refine ⟨_, pe_un h1 pa, fun vs B σ H r Q R h => ?_⟩
  refine qa vs B σ H r _ R (Post.bind back_W h fun x wa B1 H1 r1 s1 R1 q1 hh => ?_)
  obtain ⟨da, va, _, h3⟩ := Post.view R1 q1 hh
  obtain ⟨bo, eb, h5⟩ := Post.give R1 h3
  exact h2 x da bo eb B1 H1 Q R1.sub va h5

/-! ### tests -/
def D.bool : D → Option Bool
  | .bl b => some b
  | _ => none
def M.bool (w : W) : M Bool := fun r => match w with
  | .dt (.bl b) => .ok b r
  | _ => .fail
/-- the truth of data -/
def D.tru : D → Option Bool
  | .non => some false
  | .bl b => some b
  | .int i => some (i != 0)
  | .str x => if x.length ≤ sizeLine then some ((x.length : Int) != 0) else none
  | .lst l => some (!l.isEmpty)
  | .tup l => some (!l.isEmpty)
  | .dct l => some (!l.isEmpty)
  | _ => none
def cTru (f : M W) : M Bool := M.bind f fun w => M.bind (M.view w) fun d => M.opt d.tru
theorem emp_len {α β : Type} {l : List α} {m : List β} (h : l.length = m.length) : l.isEmpty = m.isEmpty := by
  cases l <;> cases m <;> first | rfl | (simp at h)
theorem tru_of {K : PySem.W.Frag} {x : V} {d : D} {k : Bool} (h : RpV K B H x d) (s : Same B H) (e : d.tru = some k) : TruV K x H k := by
  cases d with
  | non => cases h; cases e; rfl
  | bl b => cases h; cases e; rfl
  | int i => cases h; cases e; rfl
  | str z =>
    cases h
    simp only [D.tru] at e
    split at e
    · cases e; exact ⟨by assumption, rfl⟩
    · cases e
  | lst l =>
    obtain ⟨a, xs, rfl, h1, h2⟩ := h
    cases e
    exact .inl ⟨xs, .of h1, by rw [emp_len h2.length]⟩
  | tup l =>
    cases e
    cases h with
    | tup h1 h2 => exact .inr (.inl ⟨_, seqT_mono s h1, by rw [emp_len h2.length]⟩)
  | dct l =>
    obtain ⟨a, xs, rfl, h1, h2⟩ := h
    cases e
    exact .inr (.inr ⟨xs, h1, by rw [emp_len h2.length]⟩)
  | ty n => cases e
  | scr l => cases e
  | cls l => cases e
  | exc a l m => cases e
  | obj l m => cases e
  | err l m => cases e
theorem Post.opt {γ δ : Type} {rel : Hp → Hp → Rho → δ → γ → Prop} {r0 : Rho} {α : Type} {o : Option α} {k : α → M γ} {Q : δ → Hp → Prop} (h : Post X vs Wx B H σ r0 (M.bind (M.opt o) k r) rel Q) :
    ∃ a, o = some a ∧ Post X vs Wx B H σ r0 (k a r) rel Q := by
  cases o with
  | none => exact h.elim
  | some a => exact ⟨a, rfl, h⟩
theorem Post.optT {o : Option Bool} {Q : Bool → Hp → Prop} (R : Rl X.K vs B σ H r) (h : Post X vs Wx B H σ r (M.opt o r) (fT H) Q) : ∃ b, o = some b ∧ Q b H := by
  cases o with
  | none => exact h.elim
  | some b =>
    have h' : Post X vs Wx B H σ r (.ok b r) (fT H) Q := h
    exact ⟨b, rfl, h' b B H .refl R rfl⟩
theorem dt_truth (ha : DE X a fa) (he : ∀ whole, isTrue a X.env whole = (do let v ← whole; standAt a.pos; holding [v] (truthy v))) : DT X a (cTru fa) := by
  refine ⟨fun Wx tk => ?_⟩
  obtain ⟨ta, pa, qa⟩ := ha.run Wx tk
  refine ⟨_, pt_truth pa he, fun vs B σ H r Q R h => ?_⟩
  refine qa vs B σ H r _ R (Post.bind back_T h fun x wa B1 H1 r1 s1 R1 q1 hh => ?_)
  obtain ⟨da, va, _, h3⟩ := Post.view R1 q1 hh
  obtain ⟨k, ek, h4⟩ := Post.optT R1 h3
  exact ⟨k, tru_of va R1.sub ek, h4⟩
end
end Lc

set_option Elab.async false
set_option maxRecDepth 100000
set_option maxHeartbeats 4000000
/-! Part C: further tests, and, or, not, chains; arguments, displays, freezing. -/
namespace Lc
open PySem L2
section
variable {X : Cx} {vs : List V} {Wx : WX} {B H Hs B0 H0 : Hp} {σ : L2.St} {r r0 : Rho} {a b c : Expr} {fa fb fc : M W} {ga gb : M Bool} {pos : Pos} {rest : List Expr}

/-! ### tests -/
def cAndT (f g : M Bool) : M Bool := M.bind f fun k => if k = true then g else M.ret false
def cOrT (f g : M Bool) : M Bool := M.bind f fun k => if k = true then M.ret true else g
def cNotT (f : M Bool) : M Bool := M.bind f fun k => M.ret (!k)
def W.asB : W → M Bool
  | .dt (.bl b) => M.ret b
  | _ => M.no
def M.bl (f : M W) : M Bool := M.bind f W.asB
theorem Post.bl {Q : Bool → Hp → Prop} {w : W} {v : V} (R : Rl X.K vs B σ H r) (hv : RpW X.K vs Hs B σ H r v w)
    (h : Post X vs Wx B H σ r (w.asB r) (fT H) Q) : ∃ k, v = .bl k ∧ Q k H := by
  cases w with
  | dt d =>
    cases d with
    | bl k =>
      cases hv
      exact ⟨k, rfl, h k B H .refl R rfl⟩
    | _ => exact h.elim
  | _ => exact h.elim
theorem dw_and1 (ha : DT X a ga) : DW X (.BoolOp .And [a] pos) ga := ⟨fun Wx tk => let ⟨t, p, q⟩ := ha.run Wx tk; ⟨t, pw_and1 p, q⟩⟩
theorem dw_or1 (ha : DT X a ga) : DW X (.BoolOp .Or [a] pos) ga := ⟨fun Wx tk => let ⟨t, p, q⟩ := ha.run Wx tk; ⟨t, pw_or1 p, q⟩⟩
theorem Post.retT {k : Bool} {Q : Bool → Hp → Prop} (R : Rl X.K vs B σ H r) (h : Post X vs Wx B H σ r (M.ret k r) (fT H) Q) : Q k H := h k B H .refl R rfl
theorem dw_and (ha : DT X a ga) (hb : DW X (.BoolOp .And (b :: rest) pos) gb) : DW X (.BoolOp .And (a :: b :: rest) pos) (cAndT ga gb) := by
  refine ⟨fun Wx tk => ?_⟩
  obtain ⟨ta, pa, qa⟩ := ha.run Wx tk
  obtain ⟨tb, pb, qb⟩ := hb.run Wx tk
  refine ⟨_, pw_and pa pb, fun vs B σ H r Q R h => qa vs B σ H r _ R (Post.bind back_T h fun k k' B1 H1 r1 s1 R1 e h1 => ?_)⟩
  cases e
  cases k with
  | true => exact qb vs B1 σ H1 r1 Q R1 h1
  | false => exact Post.retT R1 h1
theorem dw_or (ha : DT X a ga) (hb : DW X (.BoolOp .Or (b :: rest) pos) gb) : DW X (.BoolOp .Or (a :: b :: rest) pos) (cOrT ga gb) := by
  refine ⟨fun Wx tk => ?_⟩
  obtain ⟨ta, pa, qa⟩ := ha.run Wx tk
  obtain ⟨tb, pb, qb⟩ := hb.run Wx tk
  refine ⟨_, pw_or pa pb, fun vs B σ H r Q R h => qa vs B σ H r _ R (Post.bind back_T h fun k k' B1 H1 r1 s1 R1 e h1 => ?_)⟩
  cases e
  cases k with
  | true => exact Post.retT R1 h1
  | false => exact qb vs B1 σ H1 r1 Q R1 h1
theorem dt_not (ha : DT X a ga) : DT X (.UnaryOp .Not a pos) (cNotT ga) := by
  refine ⟨fun Wx tk => ?_⟩
  obtain ⟨ta, pa, qa⟩ := ha.run Wx tk
  refine ⟨_, pt_not pa, fun vs B σ H r Q R h => qa vs B σ H r _ R (Post.bind back_T h fun k k' B1 H1 r1 s1 R1 e h1 => ?_)⟩
  cases e
  exact Post.retT R1 h1
theorem dt_cmp {op : CmpOp} {g : D → D → Option Bo} (ho : OpS X (compareOp op) g) (ha : DE X a fa) (hb : DE X b fb) (hm : behindInMarks op b = false) : DT X (.Compare a [op] [b] pos) (M.bl (cOp2 g fa fb)) := by
  refine ⟨fun Wx tk => ?_⟩
  obtain ⟨ta, pa, qa⟩ := ha.run Wx tk
  obtain ⟨tb, pb, qb⟩ := hb.run Wx tk
  obtain ⟨rr, h1, h2⟩ := ho
  refine ⟨_, pt_cmpR h1 pa pb hm, fun vs B σ H r Q R h => ?_⟩
  refine Post.op2 (Q := fun x H' => ∃ k, x = .bl k ∧ Q k H') R qa qb h2 (Post.bind back_T h fun x w B1 H1 r1 s1 R1 q1 hh => ?_)
  exact Post.bl R1 q1 hh
/-- a op b op' c -/
def cChain (g g' : D → D → Option Bo) (fa fb fc : M W) : M W := M.bind fa fun wa => M.bind fb fun wb => M.bind (M.view wa) fun da => M.bind (M.view wb) fun db => match g da db with
  | some (.dt (.bl true)) => M.bind fc fun wc => M.bind (M.view wb) fun db => M.bind (M.view wc) fun dc => M.give (g' db dc)
  | some (.dt (.bl false)) => M.ret (.dt (.bl false))
  | _ => M.no
theorem Post.chain {g g' : D → D → Option Bo} {ta tb tc : TE} {Q : VK} {rr rr' : R2} (R : Rl X.K vs B σ H r)
    (ha : ∀ vs B σ H r Q, Rl X.K vs B σ H r → Post X vs Wx B H σ r (fa r) (fW X vs σ H) Q → ta σ H Q) (hb : ∀ vs B σ H r Q, Rl X.K vs B σ H r → Post X vs Wx B H σ r (fb r) (fW X vs σ H) Q → tb σ H Q)
    (hc : ∀ vs B σ H r Q, Rl X.K vs B σ H r → Post X vs Wx B H σ r (fc r) (fW X vs σ H) Q → tc σ H Q)
    (ho : ∀ x y da db b, g da db = some b → ∀ B H Q, Same B H → RpV X.K B H x da → RpV X.K B H y db → (∀ v B' H', Ext B H B' H' → Same B' H' → RpB X.K H B' H' v b → Q v H') → rr x y H Q)
    (ho' : ∀ x y da db b, g' da db = some b → ∀ B H Q, Same B H → RpV X.K B H x da → RpV X.K B H y db → (∀ v B' H', Ext B H B' H' → Same B' H' → RpB X.K H B' H' v b → Q v H') → rr' x y H Q)
    (h : Post X vs Wx B H σ r (cChain g g' fa fb fc r) (fW X vs σ H) Q) : tChain rr rr' ta tb tc σ H Q := by
  refine ha vs B σ H r _ R (Post.bind back_W h fun x wa B1 H1 r1 s1 R1 q1 h1 => ?_)
  refine hb vs B1 σ H1 r1 _ R1 (Post.bind back_W h1 fun y wb B2 H2 r2 s2 R2 q2 h2 => ?_)
  obtain ⟨da, va, _, h3⟩ := Post.view R2 (RpW.stp q1 s2) h2
  obtain ⟨db, vb, _, h4⟩ := Post.view R2 q2 h3
  cases eg : g da db with
  | none => simp only [eg] at h4; exact h4.elim
  | some bo =>
    cases bo with
    | own c => simp only [eg] at h4; exact h4.elim
    | dt d =>
      cases d with
      | bl k =>
        refine ho x y da db _ eg B2 H2 _ R2.sub va vb fun v B3 H3 e3 s3 q3 => ?_
        cases q3
        refine ⟨k, rfl, ?_⟩
        have R3 := R2.ext e3 s3
        have st3 : Stp vs B2 H2 σ r2 B3 H3 σ r2 := e3.stp
        cases k with
        | false =>
          simp only [eg] at h4
          rw [if_neg Bool.false_ne_true]
          exact h4 (.bl false) B3 H3 st3 R3 (.bl false)
        | true =>
          simp only [eg] at h4
          rw [if_pos rfl]
          have h5 : Post X vs Wx B3 H3 σ r2 (M.bind fc (fun wc => M.bind (M.view wb) fun db => M.bind (M.view wc) fun dc => M.give (g' db dc)) r2) (fW X vs σ H3) Q := by
            revert h4
            cases (M.bind fc (fun wc => M.bind (M.view wb) fun db => M.bind (M.view wc) fun dc => M.give (g' db dc)) r2) with
            | ok w r' => exact fun h4 v B' H' s R q => h4 v B' H' (st3.trans s) R (RpW.back q st3.dom)
            | exc x r' => exact fun h4 cl dd B' H' s R q => h4 cl dd B' H' (st3.trans s) R q
            | fail => exact fun h4 => h4
          refine hc vs B3 σ H3 r2 _ R3 (Post.bind back_W h5 fun z wc B4 H4 r4 s4 R4 q4 h6 => ?_)
          obtain ⟨db', vb', _, h7⟩ := Post.view R4 (RpW.stp (RpW.stp q2 st3) s4) h6
          obtain ⟨dc, vc, _, h8⟩ := Post.view R4 q4 h7
          obtain ⟨bo, eb, h9⟩ := Post.give R4 h8
          exact ho' y z db' dc bo eb B4 H4 Q R4.sub vb' vc h9
      | _ => simp only [eg] at h4; exact h4.elim
theorem de_chain {op op' : CmpOp} {g g' : D → D → Option Bo} (ho : OpS X (compareOp op) g) (ho' : OpS X (compareOp op') g') (ha : DE X a fa) (hb : DE X b fb) (hc : DE X c fc) (hm : lastMarks [op, op'] [b, c] = false) :
    DE X (.Compare a [op, op'] [b, c] pos) (cChain g g' fa fb fc) := by
  refine ⟨fun Wx tk => ?_⟩
  obtain ⟨ta, pa, qa⟩ := ha.run Wx tk
  obtain ⟨tb, pb, qb⟩ := hb.run Wx tk
  obtain ⟨tc, pc, qc⟩ := hc.run Wx tk
  obtain ⟨rr, h1, h2⟩ := ho
  obtain ⟨rr', h1', h2'⟩ := ho'
  exact ⟨_, pe_chain h1 h1' pa pb pc hm, fun vs B σ H r Q R h => Post.chain R qa qb qc h2 h2' h⟩
theorem dt_chain {op op' : CmpOp} {g g' : D → D → Option Bo} (ho : OpS X (compareOp op) g) (ho' : OpS X (compareOp op') g') (ha : DE X a fa) (hb : DE X b fb) (hc : DE X c fc) (hm : lastMarks [op, op'] [b, c] = false) :
    DT X (.Compare a [op, op'] [b, c] pos) (M.bl (cChain g g' fa fb fc)) := by
  refine ⟨fun Wx tk => ?_⟩
  obtain ⟨ta, pa, qa⟩ := ha.run Wx tk
  obtain ⟨tb, pb, qb⟩ := hb.run Wx tk
  obtain ⟨tc, pc, qc⟩ := hc.run Wx tk
  obtain ⟨rr, h1, h2⟩ := ho
  obtain ⟨rr', h1', h2'⟩ := ho'
  refine ⟨_, pt_chain h1 h1' pa pb pc hm, fun vs B σ H r Q R h => ?_⟩
  refine Post.chain (Q := fun x H' => ∃ k, x = .bl k ∧ Q k H') R qa qb qc h2 h2' (Post.bind back_T h fun x w B1 H1 r1 s1 R1 q1 hh => ?_)
  exact Post.bl R1 q1 hh

/-! ### and, or, not as values; the conditional -/
def cAnd (f g : M W) : M W := M.bind f fun w => M.bind (M.view w) fun d => M.bind (M.opt d.tru) fun k => if k = true then g else M.ret w
def cOr (f g : M W) : M W := M.bind f fun w => M.bind (M.view w) fun d => M.bind (M.opt d.tru) fun k => if k = true then M.ret w else g
def cNot (f : M W) : M W := M.bind (cTru f) fun k => M.ret (.dt (.bl (!k)))
def cIfE (t : M Bool) (f g : M W) : M W := M.bind t fun k => if k = true then f else g
theorem de_one {op} (ha : DE X a fa) : DE X (.BoolOp op [a] pos) fa := ⟨fun Wx tk => let ⟨t, p, q⟩ := ha.run Wx tk; ⟨t, pe_one p, q⟩⟩
theorem de_and (ha : DE X a fa) (hb : DE X (.BoolOp .And (b :: rest) pos) fb) : DE X (.BoolOp .And (a :: b :: rest) pos) (cAnd fa fb) := by
  refine ⟨fun Wx tk => ?_⟩
  obtain ⟨ta, pa, qa⟩ := ha.run Wx tk
  obtain ⟨tb, pb, qb⟩ := hb.run Wx tk
  refine ⟨_, pe_andT pa pb, fun vs B σ H r Q R h => qa vs B σ H r _ R (Post.bind0 h fun x wa B1 H1 r1 s1 R1 q1 h1 => ?_)⟩
  obtain ⟨da, va, _, h2⟩ := Post.view R1 q1 h1
  obtain ⟨k, ek, h3⟩ := Post.opt h2
  refine ⟨k, tru_of va R1.sub ek, ?_⟩
  cases k with
  | true => exact qb vs B1 σ H1 r1 Q R1 (Post.shift back_W s1 h3)
  | false => exact h3 x B1 H1 s1 R1 q1
theorem de_or (ha : DE X a fa) (hb : DE X (.BoolOp .Or (b :: rest) pos) fb) : DE X (.BoolOp .Or (a :: b :: rest) pos) (cOr fa fb) := by
  refine ⟨fun Wx tk => ?_⟩
  obtain ⟨ta, pa, qa⟩ := ha.run Wx tk
  obtain ⟨tb, pb, qb⟩ := hb.run Wx tk
  refine ⟨_, pe_orT pa pb, fun vs B σ H r Q R h => qa vs B σ H r _ R (Post.bind0 h fun x wa B1 H1 r1 s1 R1 q1 h1 => ?_)⟩
  obtain ⟨da, va, _, h2⟩ := Post.view R1 q1 h1
  obtain ⟨k, ek, h3⟩ := Post.opt h2
  refine ⟨k, tru_of va R1.sub ek, ?_⟩
  cases k with
  | true => exact h3 x B1 H1 s1 R1 q1
  | false => exact qb vs B1 σ H1 r1 Q R1 (Post.shift back_W s1 h3)
theorem de_not (ha : DE X a fa) : DE X (.UnaryOp .Not a pos) (cNot fa) := by
  refine ⟨fun Wx tk => ?_⟩
  obtain ⟨ta, pa, qa⟩ := ha.run Wx tk
  refine ⟨_, pe_notT pa, fun vs B σ H r Q R h => ?_⟩
  have h0 : Post X vs Wx B H σ r (cTru fa r) (fT H) (fun k H' => Q (.bl (!k)) H') := Post.bind0 h fun k k' B1 H1 r1 s1 R1 e h1 => by
    cases e
    exact h1 _ B1 H1 s1 R1 (.bl _)
  refine qa vs B σ H r _ R (Post.bind back_T h0 fun x wa B1 H1 r1 s1 R1 q1 hh => ?_)
  obtain ⟨da, va, _, h3⟩ := Post.view R1 q1 hh
  obtain ⟨k, ek, h4⟩ := Post.optT R1 h3
  exact ⟨k, tru_of va R1.sub ek, h4⟩
theorem de_ifE (hc : DT X c ga) (ha : DE X a fa) (hb : DE X b fb) : DE X (.IfExp c a b pos) (cIfE ga fa fb) := by
  refine ⟨fun Wx tk => ?_⟩
  obtain ⟨ta, pa, qa⟩ := ha.run Wx tk
  obtain ⟨tb, pb, qb⟩ := hb.run Wx tk
  obtain ⟨tc, pc, qc⟩ := hc.run Wx tk
  refine ⟨_, pe_ifExp pc pa pb, fun vs B σ H r Q R h => qc vs B σ H r _ R (Post.bind (F1 := fT) back_W h fun k k' B1 H1 r1 s1 R1 e h1 => ?_)⟩
  cases e
  cases k with
  | true => exact qa vs B1 σ H1 r1 Q R1 h1
  | false => exact qb vs B1 σ H1 r1 Q R1 h1

/-! ### freezing a value -/
def W.frz (w : W) : M D := fun r => match w with
  | .dt d => .ok d r
  | .fresh c => .ok c.toD r
  | .cel z => match r.cnt z with
    | some c => .ok c.toD (r.frz c.toD z)
    | none => match r.look z with
      | some d => .ok d r
      | none => .fail
theorem look_data {z : Ix} {d : D} {v : V} {K : PySem.W.Frag} (R : Rl K vs B σ H r) (hc : r.cnt z = none) (h : r.look z = some d) (ha : adr vs σ z = some v) : Rp K B v d := by
  cases z with
  | loc i =>
    cases e : r.loc[i]? with
    | none => simp [Rho.look, e] at h
    | some o =>
      cases o with
      | none => simp [Rho.look, e] at h
      | some s =>
        cases s with
        | dt d' =>
          simp only [Rho.look, e, Option.some.injEq] at h
          subst h
          obtain ⟨u, hu, ru⟩ := R.dat i d' e
          simp only [adr, hu, Option.some.injEq] at ha
          subst ha
          exact ru
        | own c => simp [Rho.cnt, e] at hc
        | bor k => simp [Rho.look, e] at h
  | bor k =>
    cases e : r.bor[k]? with
    | none => simp [Rho.look, e] at h
    | some s =>
      cases s with
      | dt d' =>
        simp only [Rho.look, e, Option.some.injEq] at h
        subst h
        obtain ⟨u, hu, ru⟩ := R.bod k d' e
        have ha' : vs[k]? = some v := ha
        rw [hu] at ha'; cases ha'
        exact ru
      | own c => simp [Rho.cnt, e] at hc
/-- two new things at one place -/
def Clash (v : V) (w : W) (x : V) (u : W) : Prop := ∃ a c c', w = .fresh c ∧ u = .fresh c' ∧ v = .ref a ∧ x = .ref a
theorem frz1 {K : PySem.W.Frag} {v : V} {w : W} {d : D} {r' : Rho} (R : Rl K vs B σ H r) (s : Stp vs B0 H0 σ r0 B H σ r) (h : RpW K vs H0 B σ H r v w) (e : w.frz r = .ok d r') :
    ∃ B', Rp K B' v d ∧ Rl K vs B' σ H r' ∧ Stp vs B0 H0 σ r0 B' H σ r' ∧ Same B B' ∧ ∀ x u, RpW K vs H0 B σ H r x u → ¬ Clash v w x u → RpW K vs H0 B' σ H r' x u := by
  cases w with
  | dt d' =>
    cases e
    exact ⟨B, h, R, s, Same.refl B, fun _ _ q _ => q⟩
  | cel z =>
    cases hc : r.cnt z with
    | none =>
      cases hl : r.look z with
      | none => simp only [W.frz, hc, hl] at e; cases e
      | some d' =>
        simp only [W.frz, hc, hl] at e
        cases e
        exact ⟨B, look_data R hc hl h, R, s, Same.refl B, fun _ _ q _ => q⟩
    | some c =>
      simp only [W.frz, hc] at e
      cases e
      obtain ⟨a, q1, _, _⟩ := R.own z c hc
      have hv : v = .ref a := by have h' : adr vs σ z = some v := h; rw [q1] at h'; exact (Option.some.inj h').symm
      subst hv
      obtain ⟨o, ho, rp, R2, s2⟩ := R.freeze hc q1
      exact ⟨_, rp, R2, s.trans s2, s2.sub, fun _ _ q _ => RpW.stp q s2⟩
  | fresh c =>
    cases e
    obtain ⟨a, rfl, hs, hb, ha, hn⟩ := h
    obtain ⟨o, ho, rp⟩ := ha.rp hb
    have sb : Same B (upd B a o) := same_upd hb
    have ne : ∀ z c', r.cnt z = some c' → ∀ b, adr vs σ z = some (.ref b) → b ≠ a := fun z c' h1 b h2 q => hn ⟨z, c', h1, q ▸ h2⟩
    refine ⟨_, rp, ⟨?_, R.len, ?_, ?_, R.lbo, ?_, R.sep⟩, ⟨s.sub.trans sb, ?_, s.dom, s.own, s.bol, s.bod, ?_⟩, sb, ?_⟩
    · intro x u h
      by_cases e : x = a
      · subst e; rw [upd_same] at h; cases h; exact ho
      · rw [upd_ne e] at h; exact R.sub _ _ h
    · intro i d h
      obtain ⟨v, h1, h2⟩ := R.dat i d h
      exact ⟨v, h1, h2.mono sb⟩
    · intro z c' h
      obtain ⟨b, p1, p2, p3⟩ := R.own z c' h
      exact ⟨b, p1, by rw [upd_ne (ne z c' h b p1)]; exact p2, p3.mono sb fun _ q => q⟩
    · intro k d h
      obtain ⟨v, h1, h2⟩ := R.bod k d h
      exact ⟨v, h1, h2.mono sb⟩
    · intro x u h n
      obtain ⟨k1, k2⟩ := s.keep x u h n
      have : x ≠ a := fun e => by subst e; rw [hs] at h; cases h
      exact ⟨k1, fun q => by rw [upd_ne this]; exact k2 q⟩
    · intro k c' x h hx
      rcases s.boo k c' x h hx with q | ⟨d, o', q1, q2⟩
      · exact .inl q
      · exact .inr ⟨d, o', q1, sb _ _ q2⟩
    · intro x u q nc
      cases u with
      | dt d' => exact Rp.mono sb q
      | cel z => exact q
      | fresh c' =>
        obtain ⟨b, rfl, g1, g2, g3, g4⟩ := q
        have nb : b ≠ a := fun e => nc ⟨a, c, c', rfl, rfl, rfl, by rw [e]⟩
        exact ⟨b, rfl, g1, by rw [upd_ne nb]; exact g2, g3.mono sb fun _ q => q, g4⟩
end

/-! ### arguments -/
/-- values of arguments, no two new things at one place -/
inductive RpWs (K : PySem.W.Frag) (vs : List V) (Hs B : Hp) (σ : L2.St) (H : Hp) (r : Rho) : List V → List W → Prop
  | nil : RpWs K vs Hs B σ H r [] []
  | cons {v : V} {w : W} {xs : List V} {ws : List W} : RpW K vs Hs B σ H r v w → RpWs K vs Hs B σ H r xs ws → (∀ (i : Nat) (x : V) (u : W), xs[i]? = some x → ws[i]? = some u → ¬ Clash v w x u) → RpWs K vs Hs B σ H r (v :: xs) (w :: ws)
def fA (X : Cx) (vs : List V) (σ : L2.St) : Fam (List V) (List W) := fun Hs B' H' r' xs ws => RpWs X.K vs Hs B' σ H' r' xs ws
theorem RpWs.back {K : PySem.W.Frag} {vs : List V} {Hs H B' H' : Hp} {σ : L2.St} {r : Rho} (s : ∀ a, H a = none → Hs a = none) : ∀ {xs : List V} {ws : List W}, RpWs K vs H B' σ H' r xs ws → RpWs K vs Hs B' σ H' r xs ws
  | _, _, .nil => .nil
  | _, _, .cons h t n => .cons (h.back s) (t.back s) n
theorem back_A {X : Cx} {vs : List V} {σ : L2.St} : Back (fA X vs σ) := fun _ _ _ _ _ _ _ s h => RpWs.back s h
theorem RpWs.length {K : PySem.W.Frag} {vs : List V} {Hs H B : Hp} {σ : L2.St} {r : Rho} : ∀ {xs : List V} {ws : List W}, RpWs K vs Hs B σ H r xs ws → xs.length = ws.length
  | _, _, .nil => rfl
  | _, _, .cons _ t _ => by rw [List.length_cons, List.length_cons, t.length]
theorem RpWs.get {K : PySem.W.Frag} {vs : List V} {Hs H B : Hp} {σ : L2.St} {r : Rho} : ∀ {xs : List V} {ws : List W} {i : Nat} {x : V} {w : W}, RpWs K vs Hs B σ H r xs ws → xs[i]? = some x → ws[i]? = some w → RpW K vs Hs B σ H r x w
  | _, _, _, _, _, .nil, h, _ => by simp at h
  | _, _, 0, _, _, .cons h _ _, e, e' => by simp at e e'; subst e e'; exact h
  | _, _, i + 1, _, _, .cons _ t _, e, e' => t.get (i := i) (by simpa using e) (by simpa using e')
structure DA (X : Cx) (es : List Expr) (f : M (List W)) : Prop where
  run : ∀ Wx, Takes X Wx → ∃ t, PA X es t ∧ ∀ vs B σ H r Q, Rl X.K vs B σ H r → Post X vs Wx B H σ r (f r) (fA X vs σ H) Q → t σ H Q
def cCons (f : M W) (g : M (List W)) : M (List W) := M.bind f fun w => M.bind g fun ws => M.ret (w :: ws)
section
variable {X : Cx} {e : Expr} {es : List Expr} {f : M W} {g : M (List W)} {pos : Pos}
theorem da_nil : DA X [] (M.ret []) := ⟨fun _ _ => ⟨_, pa_nil, fun _ B _ H _ _ R h => h [] B H .refl R RpWs.nil⟩⟩
theorem da_cons (he : DE X e f) (hr : DA X es g) (hs : starEach (e :: es) X.env = (false, eval e X.env) :: starEach es X.env) : DA X (e :: es) (cCons f g) := by
  refine ⟨fun Wx tk => ?_⟩
  obtain ⟨ta, pa, qa⟩ := he.run Wx tk
  obtain ⟨tb, pb, qb⟩ := hr.run Wx tk
  refine ⟨_, pa_cons pa pb hs, fun vs B σ H r Q R h => qa vs B σ H r _ R (Post.bind0 h fun x w B1 H1 r1 s1 R1 q1 h1 => ?_)⟩
  have h1' := Post.shift (F := fA X vs σ) back_A s1 h1
  refine qb vs B1 σ H1 r1 _ R1 ?_
  cases hg : g r1 with
  | fail => simp only [M.bind, hg] at h1; exact h1.elim
  | exc y r2 =>
    simp only [M.bind, hg] at h1
    exact fun cl dd B2 H2 s2 R2 f2 => h1 cl dd B2 H2 (s1.trans s2) R2 f2
  | ok ws r2 =>
    simp only [M.bind, hg] at h1
    intro xs B2 H2 s2 R2 f2
    refine h1 (x :: xs) B2 H2 (s1.trans s2) R2 (RpWs.cons (RpW.stp q1 s2) (RpWs.back s1.dom f2) fun i y u e1 e2 ⟨a, c, c', g1, g2, g3, g4⟩ => ?_)
    have q2 := RpWs.get f2 e1 e2
    subst g1 g2 g3 g4
    obtain ⟨a1, k1, _, _, k4, _⟩ := q1
    obtain ⟨a2, m1, m2, _⟩ := q2
    cases k1; cases m1
    obtain ⟨o, ho⟩ := k4.some
    rw [m2] at ho; cases ho
end
end Lc

set_option Elab.async false
set_option maxRecDepth 100000
set_option maxHeartbeats 4000000
/-! Part D: displays, pure calls, subscripts, slices, methods of texts. -/
namespace Lc
open PySem L2
def frzAll : List W → M (List D)
  | [] => M.ret []
  | w :: ws => M.bind w.frz fun d => M.bind (frzAll ws) fun ds => M.ret (d :: ds)
theorem frz_noexc {w : W} {r r' : Rho} {x : Ex} : w.frz r ≠ .exc x r' := by
  cases w with
  | dt d => exact fun h => nomatch h
  | fresh c => exact fun h => nomatch h
  | cel z =>
    intro h
    cases hc : r.cnt z with
    | some c => simp only [W.frz, hc] at h; cases h
    | none =>
      cases hl : r.look z with
      | some d => simp only [W.frz, hc, hl] at h; cases h
      | none => simp only [W.frz, hc, hl] at h; cases h
theorem frzAll_noexc {r' : Rho} {x : Ex} : ∀ {ws : List W} {r : Rho}, frzAll ws r ≠ .exc x r'
  | [], r => fun h => nomatch h
  | w :: ws, r => by
    intro h
    simp only [frzAll, M.bind] at h
    cases e : w.frz r with
    | fail => rw [e] at h; cases h
    | exc y r1 => exact frz_noexc e
    | ok d r1 =>
      rw [e] at h
      cases e2 : frzAll ws r1 with
      | fail => simp only [e2] at h; cases h
      | exc y r1 => exact frzAll_noexc e2
      | ok ds r2 => simp only [e2] at h; cases h
section
variable {X : Cx} {vs : List V} {Wx : WX} {B H Hs B0 H0 : Hp} {σ : L2.St} {r r0 : Rho}
theorem RpWs.imp {K : PySem.W.Frag} {B' : Hp} {r' : Rho} : ∀ {xs : List V} {ws : List W}, RpWs K vs Hs B σ H r xs ws → (∀ (i : Nat) (x : V) (u : W), xs[i]? = some x → ws[i]? = some u → RpW K vs Hs B σ H r x u → RpW K vs Hs B' σ H r' x u) → RpWs K vs Hs B' σ H r' xs ws
  | _, _, .nil, _ => .nil
  | _, _, .cons h t n, f => .cons (f 0 _ _ rfl rfl h) (t.imp fun i x u e1 e2 q => f (i + 1) x u (by simpa using e1) (by simpa using e2) q) n
theorem frzAll_ok {K : PySem.W.Frag} : ∀ {ws : List W} {xs : List V} {ds : List D} {B : Hp} {r r' : Rho}, Rl K vs B σ H r → Stp vs B0 H0 σ r0 B H σ r → RpWs K vs H0 B σ H r xs ws → frzAll ws r = .ok ds r' →
    ∃ B', RpAll K B' xs ds ∧ Rl K vs B' σ H r' ∧ Stp vs B0 H0 σ r0 B' H σ r' ∧ Same B B'
  | [], xs, ds, B, r, r', R, s, h, e => by
    cases e
    cases h
    exact ⟨B, .nil, R, s, Same.refl B⟩
  | w :: ws, xs, ds, B, r, r', R, s, h, e => by
    simp only [frzAll, M.bind] at e
    cases e1 : w.frz r with
    | fail => rw [e1] at e; cases e
    | exc y r1 => exact absurd e1 frz_noexc
    | ok d r1 =>
      rw [e1] at e
      cases e2 : frzAll ws r1 with
      | fail => simp only [e2] at e; cases e
      | exc y r1 => exact absurd e2 frzAll_noexc
      | ok es r2 =>
        simp only [e2] at e
        cases e
        cases h with
        | cons h1 h2 h3 =>
          obtain ⟨B1, p1, R1, s1, sb1, k1⟩ := frz1 R s h1 e1
          obtain ⟨B2, p2, R2, s2, sb2⟩ := frzAll_ok R1 s1 (h2.imp fun i x u q1 q2 q => k1 x u q (h3 i x u q1 q2)) e2
          exact ⟨B2, .cons (p1.mono sb2) p2, R2, s2, sb1.trans sb2⟩
theorem Post.frzAll {γ δ : Type} {rel : Hp → Hp → Rho → δ → γ → Prop} {ws : List W} {xs : List V} {k : List D → M γ} {Q : δ → Hp → Prop} (R : Rl X.K vs B σ H r) (s : Stp vs B0 H0 σ r0 B H σ r) (hv : RpWs X.K vs H0 B σ H r xs ws)
    (h : Post X vs Wx B0 H0 σ r0 (M.bind (frzAll ws) k r) rel Q) : ∃ ds r' B', RpAll X.K B' xs ds ∧ Rl X.K vs B' σ H r' ∧ Stp vs B0 H0 σ r0 B' H σ r' ∧ Post X vs Wx B0 H0 σ r0 (k ds r') rel Q := by
  cases e : Lc.frzAll ws r with
  | fail => simp only [M.bind, e] at h; exact h.elim
  | exc y r1 => exact absurd e frzAll_noexc
  | ok ds r1 =>
    simp only [M.bind, e] at h
    obtain ⟨B', p, R', s', _⟩ := frzAll_ok R s hv e
    exact ⟨ds, r1, B', p, R', s', h⟩
theorem Post.frz {γ δ : Type} {rel : Hp → Hp → Rho → δ → γ → Prop} {w : W} {x : V} {k : D → M γ} {Q : δ → Hp → Prop} (R : Rl X.K vs B σ H r) (s : Stp vs B0 H0 σ r0 B H σ r) (hv : RpW X.K vs H0 B σ H r x w)
    (h : Post X vs Wx B0 H0 σ r0 (M.bind w.frz k r) rel Q) : ∃ d r' B', Rp X.K B' x d ∧ Rl X.K vs B' σ H r' ∧ Stp vs B0 H0 σ r0 B' H σ r' ∧ Same B B' ∧ Post X vs Wx B0 H0 σ r0 (k d r') rel Q := by
  cases e : w.frz r with
  | fail => simp only [M.bind, e] at h; exact h.elim
  | exc y r1 => exact absurd e frz_noexc
  | ok ds r1 =>
    simp only [M.bind, e] at h
    obtain ⟨B', p, R', s', sb, _⟩ := frz1 R s hv e
    exact ⟨ds, r1, B', p, R', s', sb, h⟩
/-- behind freezing, a new thing -/
theorem Stp.ext {B' H' : Hp} {r' : Rho} (s : Stp vs B0 H0 σ r0 B H σ r') (e : Ext B H B' H') : Stp vs B0 H0 σ r0 B' H' σ r' := s.trans e.stp

/-! ### displays -/
def M.chk (c : Bool) : M Unit := fun r => if c = true then .ok () r else .fail
theorem Post.chk {γ δ : Type} {rel : Hp → Hp → Rho → δ → γ → Prop} {c : Bool} {k : Unit → M γ} {Q : δ → Hp → Prop} (h : Post X vs Wx B0 H0 σ r0 (M.bind (M.chk c) k r) rel Q) : c = true ∧ Post X vs Wx B0 H0 σ r0 (k () r) rel Q := by
  cases c with
  | false => exact h.elim
  | true => exact ⟨rfl, h⟩
def cLst (f : M (List W)) : M W := M.bind f fun ws => M.bind (frzAll ws) fun ds => M.bind (M.chk (decide (ds.length ≤ sizeLine))) fun _ => M.ret (.fresh (.lst ds))
def cTup (f : M (List W)) : M W := M.bind f fun ws => M.bind (frzAll ws) fun ds => M.bind (M.chk (decide (ds.length ≤ sizeLine))) fun _ => M.ret (.dt (.tup ds))
variable {es : List Expr} {f : M (List W)} {pos : Pos}
theorem de_lst (h : DA X es f) : DE X (.List es pos) (cLst f) := by
  refine ⟨fun Wx tk => ?_⟩
  obtain ⟨t, p, q⟩ := h.run Wx tk
  refine ⟨_, pe_lst p, fun vs B σ H r Q R hw => q vs B σ H r _ R (Post.bind0 hw fun xs ws B1 H1 r1 s1 R1 q1 h1 => ?_)⟩
  obtain ⟨ds, r2, B2, p2, R2, s2, h2⟩ := Post.frzAll R1 s1 q1 h1
  obtain ⟨c3, h3⟩ := Post.chk h2
  refine ⟨by rw [p2.length]; exact of_decide_eq_true c3, fun a na => ?_⟩
  have e : Ext B2 H1 B2 (upd H1 a (.lst xs)) := .plain na
  have sm : Same B2 (upd H1 a (.lst xs)) := R2.sub.trans e.keep
  exact h3 (.ref a) B2 _ (s2.ext e) (R2.ext e sm) ⟨a, rfl, s1.dom _ na, none_of_sub R2.sub na, ⟨xs, upd_same, p2⟩, R2.notOwn na⟩
theorem de_tup {k : Nat} (h : DA X es f) : DE X (.Tuple es k pos) (cTup f) := by
  refine ⟨fun Wx tk => ?_⟩
  obtain ⟨t, p, q⟩ := h.run Wx tk
  refine ⟨_, pe_tup p, fun vs B σ H r Q R hw => q vs B σ H r _ R (Post.bind0 hw fun xs ws B1 H1 r1 s1 R1 q1 h1 => ?_)⟩
  obtain ⟨ds, r2, B2, p2, R2, s2, h2⟩ := Post.frzAll R1 s1 q1 h1
  obtain ⟨c3, h3⟩ := Post.chk h2
  refine ⟨by rw [p2.length]; exact of_decide_eq_true c3, fun a na => ?_⟩
  have e : Ext B2 H1 (upd B2 a (.tup xs)) (upd H1 a (.tup xs)) := .frozen R2.sub na
  have sm : Same (upd B2 a (.tup xs)) (upd H1 a (.tup xs)) := same_both R2.sub
  exact h3 (.ref a) _ _ (s2.ext e) (R2.ext e sm) (Rp.tup (.inl upd_same) (p2.mono e.sub))

/-! ### pure calls -/
inductive RpVs (K : PySem.W.Frag) (B H : Hp) : List V → List D → Prop
  | nil : RpVs K B H [] []
  | cons {v : V} {d : D} {xs : List V} {ds : List D} : RpV K B H v d → RpVs K B H xs ds → RpVs K B H (v :: xs) (d :: ds)
def viewAll : List W → M (List D)
  | [] => M.ret []
  | w :: ws => M.bind (M.view w) fun d => M.bind (viewAll ws) fun ds => M.ret (d :: ds)
theorem Post.viewAll {γ δ : Type} {rel : Hp → Hp → Rho → δ → γ → Prop} {Q : δ → Hp → Prop} : ∀ {ws : List W} {xs : List V} {k : List D → M γ}, Rl X.K vs B σ H r → RpWs X.K vs Hs B σ H r xs ws →
    Post X vs Wx B0 H0 σ r0 (M.bind (Lc.viewAll ws) k r) rel Q → ∃ ds, RpVs X.K B H xs ds ∧ Post X vs Wx B0 H0 σ r0 (k ds r) rel Q
  | [], xs, k, R, hv, h => by
    cases hv
    exact ⟨[], .nil, h⟩
  | w :: ws, xs, k, R, hv, h => by
    cases hv with
    | cons h1 h2 h3 =>
      have e : M.bind (Lc.viewAll (w :: ws)) k r = M.bind (M.view w) (fun d => M.bind (Lc.viewAll ws) fun ds => k (d :: ds)) r := by
        simp only [Lc.viewAll, M.bind]
        cases (M.view w) r with
        | ok d r1 =>
          simp only
          cases (Lc.viewAll ws) r1 <;> rfl
        | exc y r1 => rfl
        | fail => rfl
      rw [e] at h
      obtain ⟨d, vd, _, h'⟩ := Post.view R h1 h
      obtain ⟨ds, vds, h''⟩ := Post.viewAll R h2 h'
      exact ⟨d :: ds, .cons vd vds, h''⟩
def CallS (X : Cx) (rr : List V → Hp → VK → Prop) (g : List D → Option Bo) : Prop :=
  ∀ xs ds b, g ds = some b → ∀ B H Q, Same B H → RpVs X.K B H xs ds → (∀ v B' H', Ext B H B' H' → Same B' H' → RpB X.K H B' H' v b → Q v H') → rr xs H Q
def cCallP (g : List D → Option Bo) (f : M (List W)) : M W := M.bind f fun ws => M.bind (viewAll ws) fun ds => M.give (g ds)
theorem Post.give0 {o : Option Bo} {Q : VK} (R : Rl X.K vs B σ H r) (s : Stp vs B0 H0 σ r0 B H σ r) (h : Post X vs Wx B0 H0 σ r0 (M.give o r) (fW X vs σ H0) Q) :
    ∃ b, o = some b ∧ ∀ v B' H', Ext B H B' H' → Same B' H' → RpB X.K H B' H' v b → Q v H' := by
  cases o with
  | none => exact h.elim
  | some b =>
    refine ⟨b, rfl, fun v B' H' e sm q => ?_⟩
    have h' : Post X vs Wx B0 H0 σ r0 (.ok b.toW r) (fW X vs σ H0) Q := h
    exact h' v B' H' (s.ext e) (R.ext e sm) (q.toW R fun _ z => s.dom _ z)
theorem de_callP {e : Expr} {rr : List V → Hp → VK → Prop} {g : List D → Option Bo} (hp : ∀ t, PA X es t → PE X e (tCB rr t)) (hc : CallS X rr g) (h : DA X es f) : DE X e (cCallP g f) := by
  refine ⟨fun Wx tk => ?_⟩
  obtain ⟨t, p, q⟩ := h.run Wx tk
  refine ⟨_, hp t p, fun vs B σ H r Q R hw => q vs B σ H r _ R (Post.bind0 hw fun xs ws B1 H1 r1 s1 R1 q1 h1 => ?_)⟩
  obtain ⟨ds, v2, h2⟩ := Post.viewAll R1 q1 h1
  obtain ⟨b, eb, h3⟩ := Post.give0 R1 s1 h2
  exact hc xs ds b eb B1 H1 Q R1.sub v2 h3

/-! ### subscripts, slices -/
variable {a b e : Expr} {fa fb fe : M W}
theorem de_ix {rr : R2} {g : D → D → Option Bo} (hr : IxR X rr) (ho : ∀ x y da db b, g da db = some b → ∀ B H Q, Same B H → RpV X.K B H x da → RpV X.K B H y db → (∀ v B' H', Ext B H B' H' → Same B' H' → RpB X.K H B' H' v b → Q v H') → rr x y H Q)
    (ha : DE X a fa) (hb : DE X b fb) (hs : PlainIx b) : DE X (.Subscript a b pos) (cOp2 g fa fb) := by
  refine ⟨fun Wx tk => ?_⟩
  obtain ⟨ta, pa, qa⟩ := ha.run Wx tk
  obtain ⟨tb, pb, qb⟩ := hb.run Wx tk
  exact ⟨_, pe_ix hr pa pb hs, fun vs B σ H r Q R h => Post.op2 R qa qb ho h⟩
structure DO (X : Cx) (e : Option Expr) (f : M (Option Int)) : Prop where
  run : ∀ Wx, Takes X Wx → ∃ t, PO X e t ∧ ∀ vs B σ H r Q, Rl X.K vs B σ H r → Post X vs Wx B H σ r (f r) (fun _ _ _ b a => b = a) Q → t σ H Q
def W.asI : W → M (Option Int)
  | .dt (.int i) => M.ret (some i)
  | _ => M.no
theorem do_none : DO X none (M.ret none) := ⟨fun _ _ => ⟨_, po_none, fun _ B _ H _ _ R h => h none B H .refl R rfl⟩⟩
theorem do_some (h : DE X e fe) : DO X (some e) (M.bind fe W.asI) := by
  refine ⟨fun Wx tk => ?_⟩
  obtain ⟨t, p, q⟩ := h.run Wx tk
  refine ⟨_, po_some p, fun vs B σ H r Q R hw => q vs B σ H r _ R (Post.bind0 hw fun x w B1 H1 r1 s1 R1 q1 h1 => ?_)⟩
  cases w with
  | dt d =>
    cases d with
    | int i =>
      cases q1
      exact ⟨i, rfl, h1 (some i) B1 H1 s1 R1 rfl⟩
    | _ => exact h1.elim
  | _ => exact h1.elim
def SlS (X : Cx) (g : D → Option Int → Option Int → Option Bo) : Prop :=
  ∃ rr, SlR X rr ∧ ∀ x d lo hi b, g d lo hi = some b → ∀ B H Q, Same B H → RpV X.K B H x d → (∀ v B' H', Ext B H B' H' → Same B' H' → RpB X.K H B' H' v b → Q v H') → rr x lo hi H Q
def cSl (g : D → Option Int → Option Int → Option Bo) (fe : M W) (fl fh : M (Option Int)) : M W := M.bind fe fun w => M.bind fl fun lo => M.bind fh fun hi => M.bind (M.view w) fun d => M.give (g d lo hi)
def fI : Fam (Option Int) (Option Int) := fun _ _ _ _ b a => b = a
theorem de_sl {g : D → Option Int → Option Int → Option Bo} {lo hi : Option Expr} {fl fh : M (Option Int)} {p2 : Pos} (hs : SlS X g) (he : DE X e fe) (hl : DO X lo fl) (hh : DO X hi fh) : DE X (.Subscript e (.Slice lo hi none p2) pos) (cSl g fe fl fh) := by
  refine ⟨fun Wx tk => ?_⟩
  obtain ⟨t, p, q⟩ := he.run Wx tk
  obtain ⟨tl, pl, ql⟩ := hl.run Wx tk
  obtain ⟨th, ph, qh⟩ := hh.run Wx tk
  obtain ⟨rr, h1, h2⟩ := hs
  refine ⟨_, pe_slice h1 p pl ph, fun vs B σ H r Q R hw => q vs B σ H r _ R (Post.bind back_W hw fun x w B1 H1 r1 s1 R1 q1 hw1 => ?_)⟩
  refine ql vs B1 σ H1 r1 _ R1 (Post.bind (F1 := fI) back_W hw1 fun i i' B2 H2 r2 s2 R2 ei hw2 => ?_)
  refine qh vs B2 σ H2 r2 _ R2 (Post.bind (F1 := fI) back_W hw2 fun j j' B3 H3 r3 s3 R3 ej hw3 => ?_)
  obtain ⟨d, vd, _, hw4⟩ := Post.view R3 (RpW.stp (RpW.stp q1 s2) s3) hw3
  obtain ⟨bo, eb, hw5⟩ := Post.give R3 hw4
  cases ei; cases ej
  exact h2 x d i j bo eb B3 H3 Q R3.sub vd hw5

/-! ### methods of texts -/
def MtS (X : Cx) (id : String) (g : Str → List D → Option Bo) : Prop :=
  ∃ rr, MtR X id rr ∧ ∀ a xs ds b, g a ds = some b → ∀ B H Q, Same B H → RpVs X.K B H xs ds → (∀ v B' H', Ext B H B' H' → Same B' H' → RpB X.K H B' H' v b → Q v H') → rr (.str a) xs H Q
def W.asS : W → M Str
  | .dt (.str i) => M.ret i
  | _ => M.no
def cM1 (g : Str → List D → Option Bo) (fo fe : M W) : M W := M.bind fo fun wo => M.bind wo.asS fun a => M.bind fe fun we => M.bind (M.view we) fun d => M.give (g a [d])
def cM0 (g : Str → List D → Option Bo) (fo : M W) : M W := M.bind fo fun wo => M.bind wo.asS fun a => M.give (g a [])
theorem Post.asS {γ δ : Type} {rel : Hp → Hp → Rho → δ → γ → Prop} {w : W} {x : V} {k : Str → M γ} {Q : δ → Hp → Prop} (hv : RpW X.K vs Hs B σ H r x w) (h : Post X vs Wx B0 H0 σ r0 (M.bind w.asS k r) rel Q) : ∃ a, x = .str a ∧ w = .dt (.str a) ∧ Post X vs Wx B0 H0 σ r0 (k a r) rel Q := by
  cases w with
  | dt d =>
    cases d with
    | str i =>
      cases hv
      exact ⟨i, rfl, rfl, h⟩
    | _ => exact h.elim
  | _ => exact h.elim
theorem de_m1 {o : Expr} {fo : M W} {id : String} {name : Str} {apos : Pos} {g : Str → List D → Option Bo} (slot : Slot "str" name id) (ty : typeOf (.builtin id) = pure (.type "method_descriptor")) (hm : MtS X id g) (ho : DE X o fo) (he : DE X e fe)
    (hs : starEach [e] X.env = [(false, eval e X.env)]) (hbase : attributeBase o name X.env (eval o X.env) = eval o X.env) (hline : (apos.endLine == pos.line) = true) : DE X (.Call (.Attribute o name apos) [e] [] pos) (cM1 g fo fe) := by
  refine ⟨fun Wx tk => ?_⟩
  obtain ⟨t, p, q⟩ := ho.run Wx tk
  obtain ⟨t2, p2, q2⟩ := he.run Wx tk
  obtain ⟨rr, m1, m2⟩ := hm
  refine ⟨_, pe_m1 slot ty m1 p p2 hs hbase hline, fun vs B σ H r Q R hw => q vs B σ H r _ R (Post.bind back_W hw fun x w B1 H1 r1 s1 R1 q1 hw1 => ?_)⟩
  obtain ⟨a, rfl, rfl, hw2⟩ := Post.asS q1 hw1
  refine ⟨⟨a, rfl⟩, q2 vs B1 σ H1 r1 _ R1 (Post.bind back_W hw2 fun y w2 B2 H2 r2 s2 R2 q3 hw3 => ?_)⟩
  obtain ⟨d, vd, _, hw4⟩ := Post.view R2 q3 hw3
  obtain ⟨bo, eb, hw5⟩ := Post.give R2 hw4
  exact m2 a [y] [d] bo eb B2 H2 Q R2.sub (.cons vd .nil) hw5
theorem de_m0 {o : Expr} {fo : M W} {id : String} {name : Str} {apos : Pos} {g : Str → List D → Option Bo} (slot : Slot "str" name id) (ty : typeOf (.builtin id) = pure (.type "method_descriptor")) (hm : MtS X id g) (ho : DE X o fo)
    (hbase : attributeBase o name X.env (eval o X.env) = eval o X.env) (hline : (apos.endLine == pos.line) = true) : DE X (.Call (.Attribute o name apos) [] [] pos) (cM0 g fo) := by
  refine ⟨fun Wx tk => ?_⟩
  obtain ⟨t, p, q⟩ := ho.run Wx tk
  obtain ⟨rr, m1, m2⟩ := hm
  refine ⟨_, pe_m0 slot ty m1 p hbase hline, fun vs B σ H r Q R hw => q vs B σ H r _ R (Post.bind back_W hw fun x w B1 H1 r1 s1 R1 q1 hw1 => ?_)⟩
  obtain ⟨a, rfl, rfl, hw2⟩ := Post.asS q1 hw1
  obtain ⟨bo, eb, hw5⟩ := Post.give R1 hw2
  exact ⟨⟨a, rfl⟩, m2 a [] [] bo eb B1 H1 Q R1.sub .nil hw5⟩
end
end Lc

set_option Elab.async false
set_option maxRecDepth 100000
set_option maxHeartbeats 4000000
/-! Part E: statements, targets. -/
namespace Lc
open PySem L2
inductive Fl where
  | next
  | ret (w : W)
  | brk
  | cnt
def PostS (X : Cx) (vs : List V) (Wx : WX) (B H : Hp) (σ : L2.St) (r : Rho) (res : Res Fl) (E : Ends) : Prop :=
  match res with
  | .ok .next r' => ∀ σ' B' H', Stp vs B H σ r B' H' σ' r' → Rl X.K vs B' σ' H' r' → E.nx σ' H'
  | .ok (.ret w) r' => ∀ v σ' B' H', Stp vs B H σ r B' H' σ' r' → Rl X.K vs B' σ' H' r' → RpW X.K vs H B' σ' H' r' v w → E.rt v H'
  | .ok .brk r' => ∀ σ' B' H', Stp vs B H σ r B' H' σ' r' → Rl X.K vs B' σ' H' r' → E.bk σ' H'
  | .ok .cnt r' => ∀ σ' B' H', Stp vs B H σ r B' H' σ' r' → Rl X.K vs B' σ' H' r' → E.ct σ' H'
  | .exc x r' => ∀ cl dd σ' B' H', Stp vs B H σ r B' H' σ' r' → Rl X.K vs B' σ' H' r' → RpX X B' cl dd x → Wx cl dd σ' H'
  | .fail => False
structure DS (X : Cx) (st : Stmt) (f : M Fl) : Prop where
  run : ∀ Wx, Takes X Wx → ∃ t, PS X st t ∧ ∀ vs B σ H r E, Rl X.K vs B σ H r → PostS X vs Wx B H σ r (f r) E → t E σ H
structure DSs (X : Cx) (st : List Stmt) (f : M Fl) : Prop where
  run : ∀ Wx, Takes X Wx → ∃ t, PSs X st t ∧ ∀ vs B σ H r E, Rl X.K vs B σ H r → PostS X vs Wx B H σ r (f r) E → t E σ H
def cSeq (f g : M Fl) : M Fl := fun r => match f r with
  | .ok .next r1 => g r1
  | x => x
section
variable {X : Cx} {vs : List V} {Wx : WX} {B H B0 H0 B1 H1 : Hp} {σ σ0 σ1 : L2.St} {r r0 r1 : Rho} {E : Ends}
theorem PostS.shift {res : Res Fl} (s : Stp vs B H σ r B1 H1 σ1 r1) (h : PostS X vs Wx B H σ r res E) : PostS X vs Wx B1 H1 σ1 r1 res E := by
  cases res with
  | ok f r2 =>
    cases f with
    | next => exact fun σ' B' H' q R => h σ' B' H' (s.trans q) R
    | ret w => exact fun v σ' B' H' q R k => h v σ' B' H' (s.trans q) R (RpW.back k s.dom)
    | brk => exact fun σ' B' H' q R => h σ' B' H' (s.trans q) R
    | cnt => exact fun σ' B' H' q R => h σ' B' H' (s.trans q) R
  | exc x r2 => exact fun cl dd σ' B' H' q R k => h cl dd σ' B' H' (s.trans q) R k
  | fail => exact h.elim
theorem PostS.bind0 {α β : Type} {rel1 : Hp → Hp → Rho → β → α → Prop} {m : M α} {k : α → M Fl} {Q1 : β → Hp → Prop} (h : PostS X vs Wx B H σ r (M.bind m k r) E)
    (hk : ∀ b a B1 H1 r1, Stp vs B H σ r B1 H1 σ r1 → Rl X.K vs B1 σ H1 r1 → rel1 B1 H1 r1 b a → PostS X vs Wx B H σ r (k a r1) E → Q1 b H1) : Post X vs Wx B H σ r (m r) rel1 Q1 := by
  cases hm : m r with
  | ok a r1 =>
    have e : M.bind m k r = k a r1 := by simp [M.bind, hm]
    rw [e] at h
    exact fun b B1 H1 s1 R1 f1 => hk b a B1 H1 r1 s1 R1 f1 h
  | exc x r1 =>
    have e : M.bind m k r = .exc x r1 := by simp [M.bind, hm]
    rw [e] at h
    exact fun cl dd B' H' s R q => h cl dd σ B' H' s R q
  | fail =>
    have e : M.bind m k r = .fail := by simp [M.bind, hm]
    rw [e] at h
    exact h.elim
variable {st : Stmt} {rest : List Stmt} {f g : M Fl} {e c : Expr} {fe : M W} {fc : M Bool} {pos : Pos}
theorem dss_nil : DSs X [] (M.ret .next) := ⟨fun _ _ => ⟨_, pss_nil, fun _ B σ H _ _ R h => h σ B H .refl R⟩⟩
theorem PostS.seq {t u : TS} (R : Rl X.K vs B σ H r) (ht : ∀ vs B σ H r E, Rl X.K vs B σ H r → PostS X vs Wx B H σ r (f r) E → t E σ H) (hu : ∀ vs B σ H r E, Rl X.K vs B σ H r → PostS X vs Wx B H σ r (g r) E → u E σ H)
    (h : PostS X vs Wx B H σ r (cSeq f g r) E) : tSeq t u E σ H := by
  refine ht vs B σ H r _ R ?_
  unfold cSeq at h
  cases e : f r with
  | ok fl r1 =>
    rw [e] at h
    cases fl with
    | next => exact fun σ1 B1 H1 s1 R1 => hu vs B1 σ1 H1 r1 E R1 (h.shift s1)
    | ret w => exact h
    | brk => exact h
    | cnt => exact h
  | exc x r1 => rw [e] at h; exact h
  | fail => rw [e] at h; exact h.elim
theorem dss_cons (h1 : DS X st f) (h2 : DSs X rest g) : DSs X (st :: rest) (cSeq f g) := by
  refine ⟨fun Wx tk => ?_⟩
  obtain ⟨t, p, q⟩ := h1.run Wx tk
  obtain ⟨u, p2, q2⟩ := h2.run Wx tk
  exact ⟨_, pss_cons p p2, fun vs B σ H r E R h => PostS.seq R q q2 h⟩
def cDrop (f : M W) : M Fl := M.bind f fun _ => M.ret .next
def cRet (f : M W) : M Fl := M.bind f fun w => M.ret (.ret w)
def cIfS (t : M Bool) (f g : M Fl) : M Fl := M.bind t fun k => if k = true then f else g
theorem ds_pass : DS X (.Pass pos) (M.ret .next) := ⟨fun _ _ => ⟨_, ps_pass, fun _ B σ H _ _ R h => h σ B H .refl R⟩⟩
theorem ds_break : DS X (.Break pos) (M.ret .brk) := ⟨fun _ _ => ⟨_, ps_break, fun _ B σ H _ _ R h => h σ B H .refl R⟩⟩
theorem ds_continue : DS X (.Continue pos) (M.ret .cnt) := ⟨fun _ _ => ⟨_, ps_continue, fun _ B σ H _ _ R h => h σ B H .refl R⟩⟩
theorem ds_retN : DS X (.Return none pos) (M.ret (.ret (.dt .non))) := ⟨fun _ _ => ⟨_, ps_retN, fun _ B σ H _ _ R h => h .non σ B H .refl R (Rp.non)⟩⟩
theorem ds_ret (he : DE X e fe) : DS X (.Return (some e) pos) (cRet fe) := by
  refine ⟨fun Wx tk => ?_⟩
  obtain ⟨t, p, q⟩ := he.run Wx tk
  exact ⟨_, ps_ret p, fun vs B σ H r E R h => q vs B σ H r _ R (PostS.bind0 h fun x w B1 H1 r1 s1 R1 q1 h1 => h1 x σ B1 H1 s1 R1 q1)⟩
theorem ds_expr (he : DE X e fe) (hs : swapsWith e none pos.line X.env = pure false) : DS X (.Expr e pos) (cDrop fe) := by
  refine ⟨fun Wx tk => ?_⟩
  obtain ⟨t, p, q⟩ := he.run Wx tk
  exact ⟨_, ps_expr p hs, fun vs B σ H r E R h => q vs B σ H r _ R (PostS.bind0 h fun x w B1 H1 r1 s1 R1 q1 h1 => h1 σ B1 H1 s1 R1)⟩
theorem ds_if {a b : List Stmt} (hc : DT X c fc) (ha : DSs X a f) (hb : DSs X b g) : DS X (.If c a b pos) (cIfS fc f g) := by
  refine ⟨fun Wx tk => ?_⟩
  obtain ⟨tc, pc, qc⟩ := hc.run Wx tk
  obtain ⟨t, p, q⟩ := ha.run Wx tk
  obtain ⟨u, p2, q2⟩ := hb.run Wx tk
  refine ⟨_, ps_if pc p p2, fun vs B σ H r E R h => qc vs B σ H r _ R (PostS.bind0 (rel1 := fT H) h fun k k' B1 H1 r1 s1 R1 e h1 => ?_)⟩
  cases e
  cases k with
  | true => exact q vs B1 σ H1 r1 E R1 (h1.shift s1)
  | false => exact q2 vs B1 σ H1 r1 E R1 (h1.shift s1)

/-! ### a name takes a value -/
def settle (w : W) : M Sl := fun r => match w with
  | .dt d => .ok (.dt d) r
  | .fresh c => .ok (.own c) r
  | .cel (.bor k) => .ok (.bor k) r
  | .cel (.loc i) => match r.cnt (.loc i) with
    | some c => .ok (.dt c.toD) (r.frz c.toD (.loc i))
    | none => match r.look (.loc i) with
      | some d => .ok (.dt d) r
      | none => .fail
def RpS (K : PySem.W.Frag) (vs : List V) (Hs B : Hp) (σ : L2.St) (H : Hp) (r : Rho) (v : V) : Sl → Prop
  | .dt d => Rp K B v d
  | .own c => ∃ a, v = .ref a ∧ Hs a = none ∧ B a = none ∧ At K B H a c ∧ ¬ Own vs σ r a
  | .bor k => vs[k]? = some v
theorem settle_ok {K : PySem.W.Frag} {v : V} {w : W} {sl : Sl} {r' : Rho} (R : Rl K vs B σ H r) (s : Stp vs B0 H0 σ0 r0 B H σ r) (h : RpW K vs H0 B σ H r v w) (e : settle w r = .ok sl r') :
    ∃ B', RpS K vs H0 B' σ H r' v sl ∧ Rl K vs B' σ H r' ∧ Stp vs B0 H0 σ0 r0 B' H σ r' ∧ Same B B' := by
  cases w with
  | dt d => cases e; exact ⟨B, h, R, s, Same.refl B⟩
  | fresh c => cases e; exact ⟨B, h, R, s, Same.refl B⟩
  | cel z =>
    cases z with
    | bor k => cases e; exact ⟨B, h, R, s, Same.refl B⟩
    | loc i =>
      cases hc : r.cnt (.loc i) with
      | none =>
        cases hl : r.look (.loc i) with
        | none => simp only [settle, hc, hl] at e; cases e
        | some d' =>
          simp only [settle, hc, hl] at e
          cases e
          exact ⟨B, look_data R hc hl h, R, s, Same.refl B⟩
      | some c =>
        simp only [settle, hc] at e
        cases e
        obtain ⟨a, q1, _, _⟩ := R.own _ c hc
        have hv : v = .ref a := by have h' : adr vs σ (.loc i) = some v := h; rw [q1] at h'; exact (Option.some.inj h').symm
        subst hv
        obtain ⟨o, ho, rp, R2, s2⟩ := R.freeze hc q1
        exact ⟨_, rp, R2, s.trans s2, s2.sub⟩
theorem settle_noexc {w : W} {r r' : Rho} {x : Ex} : settle w r ≠ .exc x r' := by
  cases w with
  | dt d => exact fun h => nomatch h
  | fresh c => exact fun h => nomatch h
  | cel z =>
    cases z with
    | bor k => exact fun h => nomatch h
    | loc i =>
      intro h
      cases hc : r.cnt (.loc i) with
      | some c => simp only [settle, hc] at h; cases h
      | none =>
        cases hl : r.look (.loc i) with
        | some d => simp only [settle, hc, hl] at h; cases h
        | none => simp only [settle, hc, hl] at h; cases h
def Rho.put (r : Rho) (i : Nat) (s : Sl) : Rho := { r with loc := r.loc.set i (some s) }
theorem cnt_put {i : Nat} {s : Sl} (hi : i < r.loc.length) (z : Ix) : (r.put i s).cnt z = if z = .loc i then (match s with | .own c => some c | _ => none) else r.cnt z := by
  cases z with
  | loc j =>
    by_cases e : j = i
    · subst e
      simp only [Rho.put, Rho.cnt, List.getElem?_set_self hi, if_true]
      cases s <;> rfl
    · have : ¬ Ix.loc j = Ix.loc i := fun q => e (Ix.loc.inj q)
      simp [Rho.put, Rho.cnt, List.getElem?_set_ne (Ne.symm e), this]
  | bor j => simp [Rho.put, Rho.cnt]
theorem adr_set {i : Nat} {v : V} (z : Ix) (hz : z ≠ .loc i) : adr vs (σ.set i (some v)) z = adr vs σ z := by
  cases z with
  | loc j =>
    have : i ≠ j := fun e => hz (by rw [e])
    simp only [adr, List.getElem?_set_ne this]
  | bor k => rfl
theorem adr_self {i : Nat} {v : V} (hi : i < σ.length) : adr vs (σ.set i (some v)) (.loc i) = some v := by
  simp only [adr, List.getElem?_set_self hi]
theorem Rl.assign {K : PySem.W.Frag} {v : V} {sl : Sl} {i : Nat} (R : Rl K vs B σ H r) (s : Stp vs B0 H0 σ0 r0 B H σ r) (h : RpS K vs H0 B σ H r v sl) (hi : i < r.loc.length) :
    Rl K vs B (σ.set i (some v)) H (r.put i sl) ∧ Stp vs B0 H0 σ0 r0 B H (σ.set i (some v)) (r.put i sl) := by
  have hs : i < σ.length := by rw [← R.len]; exact hi
  have old : ∀ z c, z ≠ .loc i → (r.put i sl).cnt z = some c → r.cnt z = some c := fun z c n q => by rw [cnt_put hi, if_neg n] at q; exact q
  have new : ∀ c, (r.put i sl).cnt (.loc i) = some c → sl = .own c := fun c q => by
    rw [cnt_put hi, if_pos rfl] at q
    cases sl with
    | own c' => cases q; rfl
    | dt d => cases q
    | bor k => cases q
  have ow : ∀ a, Own vs (σ.set i (some v)) (r.put i sl) a → Own vs σ r a ∨ H0 a = none := fun a ⟨z, c, q1, q2⟩ => by
    by_cases hz : z = .loc i
    · subst hz
      have := new c q1
      subst this
      rw [adr_self hs] at q2
      cases q2
      obtain ⟨b, e, n, _⟩ := h
      cases e
      exact .inr n
    · rw [adr_set z hz] at q2
      exact .inl ⟨z, c, old z c hz q1, q2⟩
  refine ⟨⟨R.sub, ?_, ?_, ?_, ?_, R.bod, ?_⟩, ⟨s.sub, s.keep, s.dom, fun a q => (ow a q).elim (s.own a) .inr, s.bol, s.bod, s.boo⟩⟩
  · simp [Rho.put, R.len]
  · intro j d q
    by_cases e : j = i
    · subst e
      simp only [Rho.put, List.getElem?_set_self hi, Option.some.injEq] at q
      subst q
      exact ⟨v, by rw [List.getElem?_set_self hs], h⟩
    · simp only [Rho.put, List.getElem?_set_ne (Ne.symm e)] at q
      obtain ⟨u, p1, p2⟩ := R.dat j d q
      exact ⟨u, by rw [List.getElem?_set_ne (Ne.symm e)]; exact p1, p2⟩
  · intro z c q
    by_cases hz : z = .loc i
    · subst hz
      have := new c q
      subst this
      obtain ⟨a, rfl, _, p2, p3, _⟩ := h
      exact ⟨a, adr_self hs, p2, p3⟩
    · obtain ⟨a, p1, p2, p3⟩ := R.own z c (old z c hz q)
      exact ⟨a, by rw [adr_set z hz]; exact p1, p2, p3⟩
  · intro j k q
    by_cases e : j = i
    · subst e
      simp only [Rho.put, List.getElem?_set_self hi, Option.some.injEq] at q
      subst q
      exact ⟨v, h, by rw [List.getElem?_set_self hs]⟩
    · simp only [Rho.put, List.getElem?_set_ne (Ne.symm e)] at q
      obtain ⟨u, p1, p2⟩ := R.lbo j k q
      exact ⟨u, p1, by rw [List.getElem?_set_ne (Ne.symm e)]; exact p2⟩
  · intro z z' c c' a q q' p p'
    by_cases hz : z = .loc i
    · by_cases hz' : z' = .loc i
      · rw [hz, hz']
      · subst hz
        have := new c q
        subst this
        rw [adr_self hs] at p; cases p
        obtain ⟨b, e, _, _, _, no⟩ := h
        cases e
        rw [adr_set z' hz'] at p'
        exact absurd ⟨z', c', old z' c' hz' q', p'⟩ no
    · by_cases hz' : z' = .loc i
      · subst hz'
        have := new c' q'
        subst this
        rw [adr_self hs] at p'; cases p'
        obtain ⟨b, e, _, _, _, no⟩ := h
        cases e
        rw [adr_set z hz] at p
        exact absurd ⟨z, c, old z c hz q, p⟩ no
      · rw [adr_set z hz] at p
        rw [adr_set z' hz'] at p'
        exact R.sep z z' c c' a (old z c hz q) (old z' c' hz' q') p p'

/-! ### targets -/
/-- only the slots ts are stored to -/
structure Out (σ σ' : L2.St) (ts : List Nat) : Prop where
  len : σ'.length = σ.length
  get : ∀ (j : Nat), j ∉ ts → σ'[j]? = σ[j]?
theorem Out.refl {ts : List Nat} : Out σ σ ts := ⟨rfl, fun _ _ => rfl⟩
theorem Out.trans {σ2 : L2.St} {ts us : List Nat} (a : Out σ σ1 ts) (b : Out σ1 σ2 us) : Out σ σ2 (ts ++ us) :=
  ⟨b.len.trans a.len, fun j n => (b.get j fun q => n (List.mem_append_right _ q)).trans (a.get j fun q => n (List.mem_append_left _ q))⟩
theorem Out.set {i : Nat} {v : Option V} : Out σ (σ.set i v) [i] := ⟨List.length_set .., fun j n => List.getElem?_set_ne fun e => n (by simp [e])⟩
/-- Bc, σc: what is frozen and where the slots stand when the targets begin -/
def PostU (X : Cx) (vs : List V) (Wx : WX) (Bc : Hp) (σc : L2.St) (ts : List Nat) (B H : Hp) (σ : L2.St) (r : Rho) (res : Res Unit) (Q : L2.St → Hp → Prop) : Prop :=
  match res with
  | .ok _ r' => ∀ σ' B' H', Stp vs B H σ r B' H' σ' r' → Same Bc B' → Out σc σ' ts → Rl X.K vs B' σ' H' r' → Q σ' H'
  | .exc x r' => ∀ cl dd σ' B' H', Stp vs B H σ r B' H' σ' r' → Rl X.K vs B' σ' H' r' → RpX X B' cl dd x → Wx cl dd σ' H'
  | .fail => False
structure DG (X : Cx) (tg : Expr) (ts : List Nat) (f : W → M Unit) : Prop where
  run : ∀ Wx, Takes X Wx → ∃ g, PG X tg g ∧ ∀ vs B0 H0 σ0 r0 B σ H r v w Q, Rl X.K vs B σ H r → Stp vs B0 H0 σ0 r0 B H σ r → RpW X.K vs H0 B σ H r v w → PostU X vs Wx B σ ts B0 H0 σ0 r0 (f w r) Q → g v σ H Q
def gN (i : Nat) (w : W) : M Unit := M.bind (settle w) fun sl => fun r => if i < r.loc.length then .ok () (r.put i sl) else .fail
theorem gN_ok {v : V} {w : W} {i : Nat} {Q : L2.St → Hp → Prop} (R : Rl X.K vs B σ H r) (s : Stp vs B0 H0 σ0 r0 B H σ r) (h : RpW X.K vs H0 B σ H r v w) (hp : PostU X vs Wx B σ [i] B0 H0 σ0 r0 (gN i w r) Q) : Q (σ.set i (some v)) H := by
  unfold gN M.bind at hp
  cases e : settle w r with
  | fail => simp only [e] at hp; exact hp.elim
  | exc x r1 => exact absurd e settle_noexc
  | ok sl r1 =>
    simp only [e] at hp
    by_cases hi : i < r1.loc.length
    · rw [if_pos hi] at hp
      obtain ⟨B', p, R', s', sb⟩ := settle_ok R s h e
      obtain ⟨R2, s2⟩ := R'.assign s' p hi
      exact hp _ B' H s2 sb .set R2
    · rw [if_neg hi] at hp
      exact hp.elim
theorem dg_name {i : Nat} {x : Str} (hN : X.N.Nodup) (hi : X.N[i]? = some x) (hx : Loc X.env.scope x) (hf : X.fn x = true ∨ X.env.scope.names.lookup x = some .local) : DG X (.Name x pos) [i] (gN i) :=
  ⟨fun _ _ => ⟨_, pg_name hN hi hx hf, fun _ _ _ _ _ _ _ _ _ _ _ _ R s h hp => gN_ok R s h hp⟩⟩
/-- several targets -/
structure DGs (X : Cx) (es : List Expr) (ts : List Nat) (f : List D → M Unit) : Prop where
  run : ∀ Wx, Takes X Wx → ∃ g, PGs X es g ∧ ∀ vs B0 H0 σ0 r0 B σ H r xs ds Q, Rl X.K vs B σ H r → Stp vs B0 H0 σ0 r0 B H σ r → RpAll X.K B xs ds → PostU X vs Wx B σ ts B0 H0 σ0 r0 (f ds r) Q → g xs σ H Q
def gsNil : List D → M Unit
  | [] => M.ret ()
  | _ => M.no
def gsCons (f : W → M Unit) (g : List D → M Unit) : List D → M Unit
  | [] => M.no
  | d :: ds => M.bind (f (.dt d)) fun _ => g ds
theorem dgs_nil : DGs X [] [] gsNil := ⟨fun _ _ => ⟨_, pgs_nil, fun vs B0 H0 σ0 r0 B σ H r xs ds Q R s h hp => by
  cases h with
  | nil => exact ⟨rfl, hp σ B H s (Same.refl B) .refl R⟩
  | cons a b => exact hp.elim⟩⟩
theorem dgs_cons {es : List Expr} {ts us : List Nat} {f : W → M Unit} {g : List D → M Unit} (h1 : DG X e ts f) (h2 : DGs X es us g) (hs : (assignEach (e :: es) X.env).map (·.2) = assign e X.env :: (assignEach es X.env).map (·.2)) : DGs X (e :: es) (ts ++ us) (gsCons f g) := by
  refine ⟨fun Wx tk => ?_⟩
  obtain ⟨t, p, q⟩ := h1.run Wx tk
  obtain ⟨u, p2, q2⟩ := h2.run Wx tk
  refine ⟨_, pgs_cons p p2 hs, fun vs B0 H0 σ0 r0 B σ H r xs ds Q R s h hp => ?_⟩
  cases h with
  | nil => exact hp.elim
  | @cons v vr d dr a b =>
    refine ⟨v, vr, rfl, q vs B0 H0 σ0 r0 B σ H r v (.dt d) _ R s a ?_⟩
    have hp' : PostU X vs Wx B σ (ts ++ us) B0 H0 σ0 r0 (M.bind (f (.dt d)) (fun _ => g dr) r) Q := hp
    cases e1 : f (.dt d) r with
    | fail => simp only [M.bind, e1] at hp'; exact hp'.elim
    | exc x r1 => simp only [M.bind, e1] at hp'; exact hp'
    | ok _ r1 =>
      simp only [M.bind, e1] at hp'
      intro σ1 B1 H1 s1 sb o1 R1
      refine q2 vs B0 H0 σ0 r0 B1 σ1 H1 r1 vr dr Q R1 s1 (b.mono sb) ?_
      revert hp'
      cases g dr r1 with
      | ok _ r2 => exact fun hp' σ2 B2 H2 s2 sb2 o2 R2 => hp' σ2 B2 H2 s2 (sb.trans sb2) (o1.trans o2) R2
      | exc x r2 => exact fun hp' => hp'
      | fail => exact fun hp' => hp'
def gT (n : Nat) (f : List D → M Unit) : W → M Unit
  | .dt (.tup ds) => M.bind (M.chk (decide (ds.length = n))) fun _ => f ds
  | _ => M.no
theorem dg_tup {es : List Expr} {ts : List Nat} {k n : Nat} {f : List D → M Unit} (hc : X.calm = true) (h : DGs X es ts f) (hn : (assignEach es X.env).length = n) (hst : (assignEach es X.env).findIdx? (·.1) = none) : DG X (.Tuple es k pos) ts (gT n f) := by
  refine ⟨fun Wx tk => ?_⟩
  obtain ⟨t, p, q⟩ := h.run Wx tk
  refine ⟨_, pg_tup hc p hn hst, fun vs B0 H0 σ0 r0 B σ H r v w Q R s hv hp => ?_⟩
  cases w with
  | dt d =>
    cases d with
    | tup ds =>
      cases hv with
      | @tup a xs _ h1 h2 =>
        have hp' : PostU X vs Wx B σ ts B0 H0 σ0 r0 (M.bind (M.chk (decide (ds.length = n))) (fun _ => f ds) r) Q := hp
        by_cases e : ds.length = n
        · have e2 : M.bind (M.chk (decide (ds.length = n))) (fun _ => f ds) r = f ds r := by simp [M.bind, M.chk, e]
          rw [e2] at hp'
          exact ⟨a, xs, rfl, seqT_mono R.sub h1, h2.length.trans e, q vs B0 H0 σ0 r0 B σ H r xs ds Q R s h2 hp'⟩
        · have e2 : M.bind (M.chk (decide (ds.length = n))) (fun _ => f ds) r = .fail := by simp [M.bind, M.chk, e]
          rw [e2] at hp'
          exact hp'.elim
    | _ => exact hp.elim
  | _ => exact hp.elim
/-- o[i] = data, o a list that may change -/
def gIx (fo fi : M W) : W → M Unit
  | .dt d => M.bind fo fun wo => M.bind fi fun wi => match wo, wi with
    | .cel z, .dt (.int i) => fun r => match r.cnt z with
      | some (.lst ds) => match ixN ds.length i with
        | some j => .ok () (r.setc (.lst (ds.set j d)) z)
        | none => .fail
      | _ => .fail
    | _, _ => M.no
  | _ => M.no
theorem dg_ix {o i : Expr} {fo fi : M W} (ho : DE X o fo) (hi : DE X i fi)
    (ha : ∀ v, assign (.Subscript o i pos) X.env v = (do
      let ov ← holding [v] (eval o X.env)
      let iv ← holding [v, ov] (eval i X.env)
      standAt pos
      holding [v, ov, iv] (setItem ov iv v)
      release [v, ov, iv] [])) : DG X (.Subscript o i pos) [] (gIx fo fi) := by
  refine ⟨fun Wx tk => ?_⟩
  obtain ⟨t, p, q⟩ := ho.run Wx tk
  obtain ⟨u, p2, q2⟩ := hi.run Wx tk
  refine ⟨_, pg_sub p p2 set_list ha, fun vs B0 H0 σ0 r0 B σ H r v w Q R s hv hp => ?_⟩
  cases w with
  | dt d =>
    have go : ∀ {α β : Type} {rel : Hp → Hp → Rho → β → α → Prop} {m : M α} {k : α → M Unit} {r : Rho} {B1 H1 : Hp} {Q1 : β → Hp → Prop}, Stp vs B0 H0 σ0 r0 B1 H1 σ r → Same B B1 → PostU X vs Wx B σ [] B0 H0 σ0 r0 (M.bind m k r) Q →
        (∀ b a B2 H2 r2, Stp vs B1 H1 σ r B2 H2 σ r2 → Rl X.K vs B2 σ H2 r2 → rel B2 H2 r2 b a → PostU X vs Wx B σ [] B0 H0 σ0 r0 (k a r2) Q → Q1 b H2) → Post X vs Wx B1 H1 σ r (m r) rel Q1 := by
      intro α β rel m k r B1 H1 Q1 s1 sb hp hk
      cases hm : m r with
      | ok a r1 =>
        have e : M.bind m k r = k a r1 := by simp [M.bind, hm]
        rw [e] at hp
        exact fun b B2 H2 s2 R2 f2 => hk b a B2 H2 r1 s2 R2 f2 hp
      | exc x r1 =>
        have e : M.bind m k r = .exc x r1 := by simp [M.bind, hm]
        rw [e] at hp
        exact fun cl dd B2 H2 s2 R2 f2 => hp cl dd σ B2 H2 (s1.trans s2) R2 f2
      | fail =>
        have e : M.bind m k r = .fail := by simp [M.bind, hm]
        rw [e] at hp
        exact hp.elim
    refine q vs B σ H r _ R (go s (Same.refl B) hp fun x wo B1 H1 r1 s1 R1 q1 h1 => ?_)
    refine q2 vs B1 σ H1 r1 _ R1 (go (s.trans s1) s1.sub h1 fun y wi B2 H2 r2 s2 R2 q3 h2 => ?_)
    cases wo with
    | dt _ => exact h2.elim
    | fresh _ => exact h2.elim
    | cel z =>
      cases wi with
      | fresh _ => exact h2.elim
      | cel _ => exact h2.elim
      | dt di =>
        cases di with
        | int n =>
          cases q3
          simp only at h2
          cases hc : r2.cnt z with
          | none => simp only [hc] at h2; exact h2.elim
          | some c =>
            cases c with
            | dct l => simp only [hc] at h2; exact h2.elim
            | lst ds =>
              simp only [hc] at h2
              cases hx : ixN ds.length n with
              | none => simp only [hx] at h2; exact h2.elim
              | some j =>
                simp only [hx] at h2
                obtain ⟨a, k1, k2, xs, k3, k4⟩ := R2.own z _ hc
                have hv' : Rp X.K B2 v d := Rp.mono (s1.sub.trans s2.sub) hv
                have ex : x = .ref a := by
                  have h' : adr vs σ z = some x := q1
                  rw [k1] at h'; exact (Option.some.inj h').symm
                subst ex
                obtain ⟨R3, s3⟩ := R2.put (o := .lst (xs.set j v)) (c' := .lst (ds.set j d)) hc k1 ⟨_, upd_same, k4.set hv' j⟩
                refine ⟨a, xs, n, j, rfl, rfl, k3, by rw [k4.length]; exact hx, ?_⟩
                exact h2 σ B2 _ (((s.trans s1).trans s2).trans s3) (s1.sub.trans s2.sub) .refl R3
        | _ => exact h2.elim
  | _ => exact hp.elim

/-! ### assignments -/
def cAsg (f : M W) (g : W → M Unit) : M Fl := M.bind f fun w => M.bind (g w) fun _ => M.ret .next
theorem PostS.tgt {w : W} {ts : List Nat} {gg : W → M Unit} (h : PostS X vs Wx B0 H0 σ0 r0 (M.bind (gg w) (fun _ => M.ret .next) r) E) : PostU X vs Wx B σ ts B0 H0 σ0 r0 (gg w r) E.nx := by
  cases e : gg w r with
  | ok u r1 =>
    simp only [M.bind, e] at h
    exact fun σ' B' H' s _ _ R => h σ' B' H' s R
  | exc x r1 => simp only [M.bind, e] at h; exact h
  | fail => simp only [M.bind, e] at h; exact h.elim
theorem ds_asg {tg : Expr} {ts : List Nat} {gg : W → M Unit} (he : DE X e fe) (hg : DG X tg ts gg) (hs : swapsWithSole [tg] e pos.line X.env = pure false) (hw : swappedStores [tg] e X.env = pure none) (h1 : (assignEach [tg] X.env).map (·.2) = [assign tg X.env]) :
    DS X (.Assign [tg] e pos) (cAsg fe gg) := by
  refine ⟨fun Wx tk => ?_⟩
  obtain ⟨t, p, q⟩ := he.run Wx tk
  obtain ⟨u, p2, q2⟩ := hg.run Wx tk
  refine ⟨_, ps_asg p p2 hs hw h1, fun vs B σ H r E R h => q vs B σ H r _ R (PostS.bind0 h fun x w B1 H1 r1 s1 R1 q1 h2 => ?_)⟩
  exact q2 vs B H σ r B1 σ H1 r1 x w E.nx R1 s1 q1 (PostS.tgt h2)
theorem ds_set {i : Nat} {x : Str} {pos' : Pos} (hN : X.N.Nodup) (hi : X.N[i]? = some x) (hx : Loc X.env.scope x) (he : DE X e fe) (hs : swapsWith e (some (.Name x pos')) pos.line X.env = pure false) (hf : X.fn x = true ∨ X.env.scope.names.lookup x = some .local) :
    DS X (.Assign [.Name x pos'] e pos) (cAsg fe (gN i)) := by
  refine ⟨fun Wx tk => ?_⟩
  obtain ⟨t, p, q⟩ := he.run Wx tk
  refine ⟨_, ps_set hN hi hx p hs hf, fun vs B σ H r E R h => q vs B σ H r _ R (PostS.bind0 h fun x w B1 H1 r1 s1 R1 q1 h2 => ?_)⟩
  exact gN_ok R1 s1 q1 (PostS.tgt h2)
end
end Lc

set_option Elab.async false
set_option maxRecDepth 100000
set_option maxHeartbeats 4000000
/-! Part F: loops over data, list comprehensions. -/
namespace Lc
open PySem L2
structure Aft (vs : List V) (B1 H1 : Hp) (σ : L2.St) (r1 : Rho) (B' H' : Hp) : Prop where
  sub : Same B1 B'
  bh : Same B' H'
  keep : ∀ a o, H1 a = some o → ¬ Own vs σ r1 a → H' a = some o
/-- the walked thing yields the data ds, one by one -/
structure Wk (K : PySem.W.Frag) (vs : List V) (B1 H1 : Hp) (σ : L2.St) (r1 : Rho) (J : It) (ds : List D) : Prop where
  go : ∀ i B' H', i < ds.length → Aft vs B1 H1 σ r1 B' H' → J.go i H'
  yld : ∀ (i : Nat) (d : D) (B' H' : Hp) (x : V) (H2 : Hp), ds[i]? = some d → Aft vs B1 H1 σ r1 B' H' → J.yld i H' x H2 → ∃ B2, Ext B' H' B2 H2 ∧ Same B2 H2 ∧ Rp K B2 x d
  stop : ∀ B' H', Aft vs B1 H1 σ r1 B' H' → J.stop ds.length H'
def fJ (X : Cx) (vs : List V) (σ : L2.St) : Hp → Hp → Rho → It → List D → Prop := fun B1 H1 r1 J ds => Wk X.K vs B1 H1 σ r1 J ds
structure DI (X : Cx) (tg iter : Expr) (f : M (List D)) : Prop where
  run : ∀ Wx, Takes X Wx → ∃ wi, PI X tg iter wi ∧ ∀ vs B σ H r R, Rl X.K vs B σ H r → Post X vs Wx B H σ r (f r) (fJ X vs σ) R → wi σ H R
def signs (x : Str) : List D := x.cps.toList.map fun c => .str ⟨#[c]⟩
section
variable {X : Cx} {vs : List V} {Wx : WX} {B H B0 H0 B1 H1 : Hp} {σ σ0 σ1 : L2.St} {r r0 r1 : Rho} {E : Ends} {tg e : Expr} {fe : M W} {pos : Pos}
theorem pi_or {l : Expr} {w1 w2 : TI} (h1 : PI X tg l w1) (h2 : PI X tg l w2) : PI X tg l (fun σ H R => w1 σ H R ∨ w2 σ H R) :=
  ⟨fun pins s σ H R I h => h.elim (h1.run pins s σ H R I) (h2.run pins s σ H R I)⟩
theorem wk_list {K : PySem.W.Frag} {a : Addr} {xs : List V} {ds : List D} (h : ∀ B' H', Aft vs B1 H1 σ r1 B' H' → H' a = some (.lst xs)) (hr : RpAll K B1 xs ds) : Wk K vs B1 H1 σ r1 (Itl K a) ds where
  go := fun i B' H' hi q => by
    have hi' : i < xs.length := by rw [hr.length]; exact hi
    exact ⟨xs, xs[i], .of (h B' H' q), by simp [hi']⟩
  yld := fun i d B' H' x H2 e q y => by
    obtain ⟨rfl, y⟩ := y
    obtain ⟨v, hv, rv⟩ := hr.get e
    have := y xs (.of (h B' _ q))
    rw [hv] at this; cases this
    exact ⟨B', .refl, q.bh, rv.mono q.sub⟩
  stop := fun B' H' q => ⟨xs, .of (h B' H' q), by rw [hr.length]; exact Nat.le_refl _⟩
theorem wk_tup {K : PySem.W.Frag} {a : Addr} {xs : List V} {ds : List D} (h : TpA K B1 a xs) (hr : RpAll K B1 xs ds) : Wk K vs B1 H1 σ r1 (Itt K a) ds where
  go := fun i B' H' hi q => by
    have hi' : i < xs.length := by rw [hr.length]; exact hi
    exact ⟨xs, xs[i], seqT_mono (q.sub.trans q.bh) h, by simp [hi']⟩
  yld := fun i d B' H' x H2 e q y => by
    obtain ⟨rfl, y⟩ := y
    obtain ⟨v, hv, rv⟩ := hr.get e
    have := y xs (seqT_mono (q.sub.trans q.bh) h)
    rw [hv] at this; cases this
    exact ⟨B', .refl, q.bh, rv.mono q.sub⟩
  stop := fun B' H' q => ⟨xs, seqT_mono (q.sub.trans q.bh) h, by rw [hr.length]; exact Nat.le_refl _⟩
theorem wk_str {K : PySem.W.Frag} {x : Str} : Wk K vs B1 H1 σ r1 (Its x) (signs x) where
  go := fun i B' H' hi q => by simpa [signs, Its] using hi
  yld := fun i d B' H' v H2 e q y => by
    obtain ⟨rfl, c, hc, rfl⟩ := y
    simp only [signs, List.getElem?_map, Array.getElem?_toList, hc, Option.map_some, Option.some.injEq] at e
    subst e
    exact ⟨B', .refl, q.bh, .str _⟩
  stop := fun B' H' q => by simp [signs, Its]
def W.items : W → M (List D)
  | .dt (.str x) => M.ret (signs x)
  | .dt (.tup ds) => M.ret ds
  | .dt (.lst ds) => M.ret ds
  | .fresh (.lst ds) => M.ret ds
  | .cel z => M.bind (W.frz (.cel z)) fun d => match d with
    | .lst ds => M.ret ds
    | _ => M.no
  | _ => M.no
theorem di_expr (he : DE X e fe) : DI X tg e (M.bind fe W.items) := by
  refine ⟨fun Wx tk => ?_⟩
  obtain ⟨t, p, q⟩ := he.run Wx tk
  refine ⟨_, pi_or (pi_list p) (pi_or (pi_tup p) (pi_str p)), fun vs B σ H r R0 R h => ?_⟩
  cases hf : fe r with
  | fail => simp only [M.bind, hf] at h; exact h.elim
  | exc x r1 =>
    simp only [M.bind, hf] at h
    exact .inl (q vs B σ H r _ R (by rw [hf]; exact h))
  | ok w r1 =>
    simp only [M.bind, hf] at h
    cases w with
    | cel z =>
      refine .inl (q vs B σ H r _ R ?_)
      rw [hf]
      intro v B1 H1 s1 R1 hv
      obtain ⟨d, r2, B2, rp, R2, s2, _, h2⟩ := Post.frz (x := v) R1 s1 hv h
      cases d with
      | lst ds =>
        cases rp with
        | lst h1 h3 => exact ⟨_, rfl, ⟨_, .of (R2.sub _ _ h1)⟩, h2 _ B2 H1 s2 R2 (wk_list (fun B' H' af => af.bh _ _ (af.sub _ _ h1)) h3)⟩
      | _ => exact h2.elim
    | fresh c =>
      cases c with
      | dct l => exact h.elim
      | lst ds =>
        refine .inl (q vs B σ H r _ R ?_)
        rw [hf]
        rintro v B1 H1 s1 R1 ⟨a, rfl, n0, nb, ⟨xs, ha, hx⟩, no⟩
        exact ⟨a, rfl, ⟨xs, .of ha⟩, h _ B1 H1 s1 R1 (wk_list (fun B' H' af => af.keep a _ ha no) hx)⟩
    | dt d =>
      cases d with
      | str x =>
        refine .inr (.inr (q vs B σ H r _ R ?_))
        rw [hf]
        intro v B1 H1 s1 R1 hv
        cases hv
        exact ⟨x, rfl, h _ B1 H1 s1 R1 wk_str⟩
      | tup ds =>
        refine .inr (.inl (q vs B σ H r _ R ?_))
        rw [hf]
        intro v B1 H1 s1 R1 hv
        cases hv with
        | tup h1 h2 => exact ⟨_, rfl, ⟨_, seqT_mono R1.sub h1⟩, h _ B1 H1 s1 R1 (wk_tup h1 h2)⟩
      | lst ds =>
        refine .inl (q vs B σ H r _ R ?_)
        rw [hf]
        intro v B1 H1 s1 R1 hv
        cases hv with
        | lst h1 h2 => exact ⟨_, rfl, ⟨_, .of (R1.sub _ _ h1)⟩, h _ B1 H1 s1 R1 (wk_list (fun B' H' af => af.bh _ _ (af.sub _ _ h1)) h2)⟩
      | _ => exact h.elim
def rngD (lo : Int) (n : Nat) : List D := (List.range n).map fun i => .int (lo + (i : Nat))
theorem wk_rng {K : PySem.W.Frag} {lo : Int} {n : Nat} : Wk K vs B1 H1 σ r1 (Itr lo n) (rngD lo n) where
  go := fun i B' H' hi q => by simpa [rngD, Itr] using hi
  yld := fun i d B' H' v H2 e q y => by
    obtain ⟨rfl, rfl⟩ := y
    simp only [rngD, List.getElem?_map] at e
    by_cases hi : i < n
    · simp only [List.getElem?_range hi, Option.map_some, Option.some.injEq] at e
      subst e
      exact ⟨B', .refl, q.bh, .int _⟩
    · rw [List.getElem?_eq_none (by simpa using hi)] at e
      cases e
  stop := fun B' H' q => by simp [rngD, Itr]
def W.rng1 : List W → M (List D)
  | [.dt (.int j)] => M.bind (M.chk (decide (-(2 ^ 62) ≤ j ∧ j < 2 ^ 62))) fun _ => M.ret (rngD 0 j.toNat)
  | _ => M.no
def W.rng2 : List W → M (List D)
  | [.dt (.int i), .dt (.int j)] => M.bind (M.chk (decide (-(2 ^ 62) ≤ i ∧ i < 2 ^ 62 ∧ -(2 ^ 62) ≤ j ∧ j < 2 ^ 62))) fun _ => M.ret (rngD i (j - i).toNat)
  | _ => M.no
theorem di_range1 {a : Expr} {fa : M (List W)} {p : Pos} (hg : Gl X "range") (hm : X.mg "range" = none) (ha : DA X [a] fa) (hs : starEach [a] X.env = [(false, eval a X.env)]) : DI X tg (.Call (.Name "range" p) [a] [] pos) (M.bind fa W.rng1) := by
  refine ⟨fun Wx tk => ?_⟩
  obtain ⟨t, pp, q⟩ := ha.run Wx tk
  refine ⟨_, pi_range1 hg hm pp hs, fun vs B σ H r R0 R h => q vs B σ H r _ R (Post.bind0 h fun xs ws B1 H1 r1 s1 R1 q1 h1 => ?_)⟩
  unfold W.rng1 at h1
  split at h1
  · rename_i j
    cases q1 with
    | cons v1 v2 _ =>
      cases v1; cases v2
      obtain ⟨c, h2⟩ := Post.chk h1
      have c' := of_decide_eq_true c
      exact ⟨j, rfl, c'.1, c'.2, h2 _ B1 H1 s1 R1 wk_rng⟩
  · exact h1.elim
theorem di_range2 {a b : Expr} {fa : M (List W)} {p : Pos} (hg : Gl X "range") (hm : X.mg "range" = none) (ha : DA X [a, b] fa) (hs : starEach [a, b] X.env = [(false, eval a X.env), (false, eval b X.env)]) (hs2 : starEach [b] X.env = [(false, eval b X.env)]) : DI X tg (.Call (.Name "range" p) [a, b] [] pos) (M.bind fa W.rng2) := by
  refine ⟨fun Wx tk => ?_⟩
  obtain ⟨t, pp, q⟩ := ha.run Wx tk
  refine ⟨_, pi_range2 hg hm pp hs hs2, fun vs B σ H r R0 R h => q vs B σ H r _ R (Post.bind0 h fun xs ws B1 H1 r1 s1 R1 q1 h1 => ?_)⟩
  unfold W.rng2 at h1
  split at h1
  · rename_i i j
    cases q1 with
    | cons v1 v2 _ =>
      cases v2 with
      | cons v3 v4 _ =>
        cases v1; cases v3; cases v4
        obtain ⟨c, h2⟩ := Post.chk h1
        have c' := of_decide_eq_true c
        exact ⟨i, j, rfl, c', h2 _ B1 H1 s1 R1 wk_rng⟩
  · exact h1.elim

/-! ### for -/
def loopL (T : W → M Unit) (body : M Fl) : List D → M Fl
  | [] => M.ret .next
  | d :: ds => fun r => match T (.dt d) r with
    | .ok _ r1 => match body r1 with
      | .ok .next r2 => loopL T body ds r2
      | .ok .cnt r2 => loopL T body ds r2
      | .ok .brk r2 => .ok .next r2
      | .ok (.ret w) r2 => .ok (.ret w) r2
      | .exc x r2 => .exc x r2
      | .fail => .fail
    | .exc x r1 => .exc x r1
    | .fail => .fail
def cFor (fi : M (List D)) (T : W → M Unit) (body : M Fl) : M Fl := M.bind fi (loopL T body)
theorem Stp.aft {B' H' : Hp} {σ' : L2.St} {r' : Rho} (s : Stp vs B1 H1 σ r1 B' H' σ' r') (R : Rl X.K vs B' σ' H' r') : Aft vs B1 H1 σ r1 B' H' := ⟨s.sub, R.sub, fun a o h n => (s.keep a o h n).1⟩
theorem ds_for {iter : Expr} {body : List Stmt} {fi : M (List D)} {ts : List Nat} {T : W → M Unit} {fb : M Fl} (hp : PassesOwn (model X.prog X.w) X.A X.env X.xe) (hc : X.calm = true) (hi : DI X tg iter fi) (hg : DG X tg ts T) (hb : DSs X body fb)
    (hs : ∀ x, foldedSetIterable iter X.env x = pure x) : DS X (.For tg iter body [] pos) (cFor fi T fb) := by
  refine ⟨fun Wx tk => ?_⟩
  obtain ⟨wi, pi, qi⟩ := hi.run Wx tk
  obtain ⟨g, pg, qg⟩ := hg.run Wx tk
  obtain ⟨tb, pb, qb⟩ := hb.run Wx tk
  refine ⟨_, ps_for hp hc pi pg pb hs, fun vs B σ H r E R h => qi vs B σ H r _ R (PostS.bind0 h fun J ds B1 H1 r1 s1 R1 wk h1 => ?_)⟩
  replace h1 := PostS.shift s1 h1
  refine ⟨fun i m σ' H' => i + m = ds.length ∧ ∃ B' r', Stp vs B1 H1 σ r1 B' H' σ' r' ∧ Rl X.K vs B' σ' H' r' ∧ PostS X vs Wx B1 H1 σ r1 (loopL T fb (ds.drop i) r') E, ⟨ds.length, by omega, B1, r1, .refl, R1, h1⟩, ?_⟩
  rintro i m σ' H' ⟨hm, B', r', s', R', h'⟩
  by_cases hlt : i < ds.length
  · refine .inr ⟨wk.go i B' H' hlt (s'.aft R'), fun σ2 H2 => i + 1 + (m - 1) = ds.length ∧ ∃ B2 r2, Stp vs B1 H1 σ r1 B2 H2 σ2 r2 ∧ Rl X.K vs B2 σ2 H2 r2 ∧ PostS X vs Wx B1 H1 σ r1 (loopL T fb (ds.drop (i + 1)) r2) E, fun σ2 H2 q => ⟨m - 1, by omega, q⟩, fun x H2 y => ?_⟩
    have ed : ds.drop i = ds[i] :: ds.drop (i + 1) := List.drop_eq_getElem_cons hlt
    rw [ed] at h'
    obtain ⟨B2, e2, sm2, rp⟩ := wk.yld i ds[i] B' H' x H2 (by simp [hlt]) (s'.aft R') y
    have s2 : Stp vs B1 H1 σ r1 B2 H2 σ' r' := s'.trans e2.stp
    have R2 := R'.ext e2 sm2
    refine qg vs B2 H2 σ' r' B2 σ' H2 r' x (.dt ds[i]) _ R2 .refl rp ?_
    cases e3 : T (.dt ds[i]) r' with
    | fail => simp only [loopL, e3] at h'; exact h'.elim
    | exc y r3 =>
      simp only [loopL, e3] at h'
      exact fun cl dd σ3 B3 H3 s3 R3 q3 => h' cl dd σ3 B3 H3 (s2.trans s3) R3 q3
    | ok u r3 =>
      intro σ3 B3 H3 s3 _ _ R3
      refine qb vs B3 σ3 H3 r3 _ R3 ?_
      have s13 := s2.trans s3
      cases e4 : fb r3 with
      | fail => simp only [loopL, e3, e4] at h'; exact h'.elim
      | exc y r4 =>
        simp only [loopL, e3, e4] at h'
        exact fun cl dd σ4 B4 H4 s4 R4 q4 => h' cl dd σ4 B4 H4 (s13.trans s4) R4 q4
      | ok fl r4 =>
        cases fl with
        | next =>
          simp only [loopL, e3, e4] at h'
          exact fun σ4 B4 H4 s4 R4 => ⟨by omega, B4, r4, s13.trans s4, R4, h'⟩
        | cnt =>
          simp only [loopL, e3, e4] at h'
          exact fun σ4 B4 H4 s4 R4 => ⟨by omega, B4, r4, s13.trans s4, R4, h'⟩
        | brk =>
          simp only [loopL, e3, e4] at h'
          exact fun σ4 B4 H4 s4 R4 => h' σ4 B4 H4 (s13.trans s4) R4
        | ret w =>
          simp only [loopL, e3, e4] at h'
          exact fun v σ4 B4 H4 s4 R4 q4 => h' v σ4 B4 H4 (s13.trans s4) R4 (RpW.back q4 s13.dom)
  · have e : i = ds.length := by omega
    subst e
    rw [List.drop_length] at h'
    exact .inl ⟨wk.stop B' H' (s'.aft R'), h' σ' B' H' s' R'⟩
end
end Lc

set_option Elab.async false
set_option maxRecDepth 100000
set_option maxHeartbeats 4000000
/-! Part G: list comprehensions. -/
namespace Lc
open PySem L2
def wipeG {α : Type} (l : List (Option α)) : List Nat → List (Option α)
  | [] => l
  | v :: vs => (wipeG l vs).set v none
theorem wipeG_len {α : Type} (l : List (Option α)) : ∀ vs, (wipeG l vs).length = l.length
  | [] => rfl
  | v :: vs => by rw [wipeG, List.length_set, wipeG_len l vs]
theorem wipeG_in {α : Type} {l : List (Option α)} {i : Nat} : ∀ {vs : List Nat}, i ∈ vs → i < l.length → (wipeG l vs)[i]? = some none
  | [], h, _ => nomatch h
  | v :: vs, h, hl => by
    by_cases e : v = i
    · subst e
      rw [wipeG, List.getElem?_set_self (by rw [wipeG_len]; exact hl)]
    · rw [wipeG, List.getElem?_set_ne e]
      exact wipeG_in ((List.mem_cons.mp h).resolve_left fun q => e q.symm) hl
theorem wipeG_out {α : Type} {l : List (Option α)} {i : Nat} : ∀ {vs : List Nat}, i ∉ vs → (wipeG l vs)[i]? = l[i]?
  | [], _ => rfl
  | v :: vs, h => by
    have e : v ≠ i := fun q => h (by simp [q])
    rw [wipeG, List.getElem?_set_ne e]
    exact wipeG_out fun q => h (List.mem_cons_of_mem _ q)
theorem wipeG_eq (σ : L2.St) : ∀ vs, wipe σ vs = wipeG σ vs
  | [] => rfl
  | v :: vs => by rw [wipe, wipeG, wipeG_eq σ vs]
def Rho.wipe (r : Rho) (own : List Nat) : Rho := { r with loc := wipeG r.loc own }
def backL {α : Type} (l1 le : List (Option α)) : List Nat → List (Option α)
  | [] => le
  | v :: vs => match l1[v]? with
    | some x => (backL l1 le vs).set v x
    | none => backL l1 le vs
theorem backL_len {α : Type} (l1 le : List (Option α)) : ∀ vs, (backL l1 le vs).length = le.length
  | [] => rfl
  | v :: vs => by
    unfold backL
    split
    · rw [List.length_set, backL_len l1 le vs]
    · exact backL_len l1 le vs
theorem backL_out {α : Type} {l1 le : List (Option α)} {i : Nat} : ∀ {vs : List Nat}, i ∉ vs → (backL l1 le vs)[i]? = le[i]?
  | [], _ => rfl
  | v :: vs, h => by
    have e : v ≠ i := fun q => h (by simp [q])
    have n : i ∉ vs := fun q => h (List.mem_cons_of_mem _ q)
    unfold backL
    split
    · rw [List.getElem?_set_ne e]; exact backL_out n
    · exact backL_out n
theorem backL_in {α : Type} {l1 le : List (Option α)} {i : Nat} (hl : le.length = l1.length) : ∀ {vs : List Nat}, i ∈ vs → (backL l1 le vs)[i]? = l1[i]?
  | [], h => nomatch h
  | v :: vs, h => by
    unfold backL
    by_cases e : v = i
    · subst e
      cases q : l1[v]? with
      | none =>
        simp only
        have : ¬ v < l1.length := fun z => by rw [List.getElem?_eq_getElem z] at q; cases q
        rw [List.getElem?_eq_none (by rw [backL_len, hl]; omega)]
      | some x =>
        simp only
        have : v < l1.length := (List.getElem?_eq_some_iff.mp q).1
        rw [List.getElem?_set_self (by rw [backL_len, hl]; exact this)]
    · have h' : i ∈ vs := (List.mem_cons.mp h).resolve_left fun q => e q.symm
      split
      · rw [List.getElem?_set_ne e]; exact backL_in hl h'
      · exact backL_in hl h'
def Rho.back (r1 re : Rho) (own : List Nat) : Rho := { loc := backL r1.loc re.loc own, bor := re.bor }
/-- none of these names holds a thing of its own -/
def Rho.noOwn (r : Rho) (own : List Nat) : Bool := own.all fun i => match r.loc[i]? with
  | some (some (.own _)) => false
  | _ => true
section
variable {K : PySem.W.Frag} {vs : List V} {B H B1 H1 : Hp} {σ : L2.St} {r r1 re : Rho} {own : List Nat}
theorem cnt_wipe {z : Ix} {c : Cn} (h : (r.wipe own).cnt z = some c) : r.cnt z = some c ∧ ∀ i, z = .loc i → i ∉ own := by
  cases z with
  | bor k => exact ⟨h, fun i e => nomatch e⟩
  | loc i =>
    by_cases hi : i ∈ own
    · by_cases hl : i < r.loc.length
      · simp [Rho.cnt, Rho.wipe, wipeG_in hi hl] at h
      · simp [Rho.cnt, Rho.wipe, List.getElem?_eq_none (show (wipeG r.loc own).length ≤ i by rw [wipeG_len]; omega)] at h
    · refine ⟨?_, fun j e => by cases e; exact hi⟩
      simpa [Rho.cnt, Rho.wipe, wipeG_out hi] using h
theorem adr_wipe {z : Ix} (h : ∀ i, z = .loc i → i ∉ own) : adr vs (wipe σ own) z = adr vs σ z := by
  cases z with
  | bor k => rfl
  | loc i => simp only [adr, wipeG_eq, wipeG_out (h i rfl)]
theorem own_wipe {a : Addr} (h : Own vs (wipe σ own) (r.wipe own) a) : Own vs σ r a := by
  obtain ⟨z, c, h1, h2⟩ := h
  obtain ⟨h3, h4⟩ := cnt_wipe h1
  exact ⟨z, c, h3, by rw [← adr_wipe h4]; exact h2⟩
theorem Rl.wipe (R : Rl K vs B σ H r) : Rl K vs B (wipe σ own) H (r.wipe own) where
  sub := R.sub
  len := by simp [Rho.wipe, wipeG_len, wipeG_eq, R.len]
  dat := fun i d h => by
    by_cases hi : i ∈ own
    · by_cases hl : i < r.loc.length
      · simp [Rho.wipe, wipeG_in hi hl] at h
      · simp [Rho.wipe, List.getElem?_eq_none (show (wipeG r.loc own).length ≤ i by rw [wipeG_len]; omega)] at h
    · simp only [Rho.wipe, wipeG_out hi] at h
      obtain ⟨v, h1, h2⟩ := R.dat i d h
      exact ⟨v, by rw [wipeG_eq, wipeG_out hi]; exact h1, h2⟩
  own := fun z c h => by
    obtain ⟨h3, h4⟩ := cnt_wipe h
    obtain ⟨a, q1, q2⟩ := R.own z c h3
    exact ⟨a, by rw [adr_wipe h4]; exact q1, q2⟩
  lbo := fun i k h => by
    by_cases hi : i ∈ own
    · by_cases hl : i < r.loc.length
      · simp [Rho.wipe, wipeG_in hi hl] at h
      · simp [Rho.wipe, List.getElem?_eq_none (show (wipeG r.loc own).length ≤ i by rw [wipeG_len]; omega)] at h
    · simp only [Rho.wipe, wipeG_out hi] at h
      obtain ⟨v, h1, h2⟩ := R.lbo i k h
      exact ⟨v, h1, by rw [wipeG_eq, wipeG_out hi]; exact h2⟩
  bod := R.bod
  sep := fun z z' c c' a h h' p p' => by
    obtain ⟨g1, g2⟩ := cnt_wipe h
    obtain ⟨g3, g4⟩ := cnt_wipe h'
    rw [adr_wipe g2] at p
    rw [adr_wipe g4] at p'
    exact R.sep z z' c c' a g1 g3 p p'
theorem back_ok (R1 : Rl K vs B1 σ H1 r1) (hn : r1.noOwn own = true) (Re : Rl K vs B (wipe σ own) H re) (s : Stp vs B1 H1 (wipe σ own) (r1.wipe own) B H (wipe σ own) re) (hw : re.wipe own = re) :
    Rl K vs B σ H (r1.back re own) ∧ Stp vs B1 H1 σ r1 B H σ (r1.back re own) ∧ ∀ a, Own vs σ (r1.back re own) a → Own vs (wipe σ own) re a := by
  have hlen : re.loc.length = r1.loc.length := by
    have := Re.len
    rw [wipeG_eq, wipeG_len, ← R1.len] at this
    exact this
  have cb : ∀ z c, (r1.back re own).cnt z = some c → re.cnt z = some c ∧ ∀ i, z = .loc i → i ∉ own := fun z c h => by
    cases z with
    | bor k => exact ⟨h, fun i e => nomatch e⟩
    | loc i =>
      by_cases hi : i ∈ own
      · have h3 := List.all_eq_true.mp hn i hi
        exfalso
        cases e : r1.loc[i]? with
        | none => simp [Rho.cnt, Rho.back, backL_in hlen hi, e] at h
        | some o =>
          cases o with
          | none => simp [Rho.cnt, Rho.back, backL_in hlen hi, e] at h
          | some sl =>
            cases sl with
            | own c' => simp [e] at h3
            | dt d => simp [Rho.cnt, Rho.back, backL_in hlen hi, e] at h
            | bor k => simp [Rho.cnt, Rho.back, backL_in hlen hi, e] at h
      · refine ⟨by simpa [Rho.cnt, Rho.back, backL_out hi] using h, fun j e => by cases e; exact hi⟩
  have ob : ∀ a, Own vs σ (r1.back re own) a → Own vs (wipe σ own) re a := fun a ⟨z, c, h1, h2⟩ => by
    obtain ⟨g1, g2⟩ := cb z c h1
    exact ⟨z, c, g1, by rw [adr_wipe g2]; exact h2⟩
  refine ⟨⟨Re.sub, ?_, ?_, ?_, ?_, Re.bod, ?_⟩, ⟨s.sub, fun a o h n => s.keep a o h fun q => n (own_wipe q), s.dom, fun a h => ?_, s.bol, s.bod, s.boo⟩, ob⟩
  · simp only [Rho.back, backL_len]
    rw [hlen, R1.len]
  · intro i d h
    by_cases hi : i ∈ own
    · simp only [Rho.back, backL_in hlen hi] at h
      obtain ⟨v, h1, h2⟩ := R1.dat i d h
      exact ⟨v, h1, h2.mono s.sub⟩
    · simp only [Rho.back, backL_out hi] at h
      obtain ⟨v, h1, h2⟩ := Re.dat i d h
      exact ⟨v, by rw [wipeG_eq, wipeG_out hi] at h1; exact h1, h2⟩
  · intro z c h
    obtain ⟨g1, g2⟩ := cb z c h
    obtain ⟨a, q1, q2⟩ := Re.own z c g1
    exact ⟨a, by rw [← adr_wipe g2]; exact q1, q2⟩
  · intro i k h
    by_cases hi : i ∈ own
    · simp only [Rho.back, backL_in hlen hi] at h
      exact R1.lbo i k h
    · simp only [Rho.back, backL_out hi] at h
      obtain ⟨v, h1, h2⟩ := Re.lbo i k h
      exact ⟨v, h1, by rw [wipeG_eq, wipeG_out hi] at h2; exact h2⟩
  · intro z z' c c' a h h' p p'
    obtain ⟨g1, g2⟩ := cb z c h
    obtain ⟨g3, g4⟩ := cb z' c' h'
    rw [← adr_wipe g2] at p
    rw [← adr_wipe g4] at p'
    exact Re.sep z z' c c' a g1 g3 p p'
  · rcases s.own a (ob a h) with q | q
    · exact .inl (own_wipe q)
    · exact .inr q
theorem wipe_wipe : (r.wipe own).wipe own = r.wipe own := by
  have : ∀ (l : List (Option Sl)), wipeG (wipeG l own) own = wipeG l own := fun l => by
    apply List.ext_getElem?
    intro i
    by_cases hi : i ∈ own
    · by_cases hl : i < l.length
      · rw [wipeG_in hi (by rw [wipeG_len]; exact hl), wipeG_in hi hl]
      · rw [List.getElem?_eq_none (by rw [wipeG_len, wipeG_len]; omega), List.getElem?_eq_none (by rw [wipeG_len]; omega)]
    · rw [wipeG_out hi]
  simp only [Rho.wipe, this]
/-- a place that no one here knows is written -/
theorem Rl.other {a : Addr} {o : HO} (R : Rl K vs B σ H r) (nb : B a = none) (no : ¬ Own vs σ r a) : Rl K vs B σ (upd H a o) r where
  sub := fun x u h => by
    have : x ≠ a := fun e => by subst e; rw [nb] at h; cases h
    rw [upd_ne this]; exact R.sub _ _ h
  len := R.len
  dat := R.dat
  own := fun z c h => by
    obtain ⟨b, q1, q2, q3⟩ := R.own z c h
    have : b ≠ a := fun e => no ⟨z, c, h, e ▸ q1⟩
    exact ⟨b, q1, q2, q3.mono (Same.refl B) fun u q => by rw [upd_ne this]; exact q⟩
  lbo := R.lbo
  bod := R.bod
  sep := R.sep
end

/-! ### the readings that a denotation itself gives -/
def Wf : WX := fun _ _ _ _ => False
section
variable {X : Cx}
def tOf (X : Cx) (f : M W) : TE := fun σ H Q => ∃ vs B r, Rl X.K vs B σ H r ∧ Post X vs Wf B H σ r (f r) (fW X vs σ H) Q
def ttOf (X : Cx) (f : M Bool) : TT := fun σ H Q => ∃ vs B r, Rl X.K vs B σ H r ∧ Post X vs Wf B H σ r (f r) (fT H) Q
def gOf (X : Cx) (ts : List Nat) (T : W → M Unit) : TG := fun v σ H Q => ∃ vs B r w, Rl X.K vs B σ H r ∧ RpW X.K vs H B σ H r v w ∧ PostU X vs Wf B σ ts B H σ r (T w r) Q
theorem DE.pe {e : Expr} {f : M W} (h : DE X e f) (tk : Takes X Wf) : PE X e (tOf X f) := by
  obtain ⟨t, p, q⟩ := h.run Wf tk
  exact ⟨fun pins s σ H Q I ⟨vs, B, r, R, hp⟩ => p.run pins s σ H Q I (q vs B σ H r Q R hp)⟩
theorem DG.pg {e : Expr} {ts : List Nat} {T : W → M Unit} (h : DG X e ts T) (tk : Takes X Wf) : PG X e (gOf X ts T) := by
  obtain ⟨t, p, q⟩ := h.run Wf tk
  exact ⟨fun pins s σ H v u Q I rv ⟨vs, B, r, w, R, hv, hp⟩ => p.run pins s σ H v u Q I rv (q vs B H σ r B σ H r v w Q R .refl hv hp)⟩
/-- the tests of a clause -/
structure DTs (X : Cx) (ifs : List Expr) (f : M Bool) : Prop where
  run : Takes X Wf → PTs X ifs (ttOf X f)
theorem dts_nil : DTs X [] (M.ret true) := ⟨fun _ => ⟨fun pins s σ H Q I ⟨vs, B, r, R, hp⟩ => pts_nil.run pins s σ H Q I (hp true B H .refl R rfl)⟩⟩
theorem dts_one {c : Expr} {f : M Bool} (h : DT X c f) : DTs X [c] f := ⟨fun tk => by
  obtain ⟨t, p, q⟩ := h.run Wf tk
  exact ⟨fun pins s σ H Q I ⟨vs, B, r, R, hp⟩ => (pts_one p).run pins s σ H Q I (q vs B σ H r Q R hp)⟩⟩
theorem takes_blk {s : Shared} {H : Hp} {scope : Scope} {cenv : Env} {fp : List Addr} : Takes (X.blk s H scope cenv fp) Wf := fun u s' ⟨_, _, _, _, _, _, _, _, _, _, _, _, _, _, _, _, h⟩ => h.elim

def lcLoop (own : List Nat) (T : W → M Unit) (tt : M Bool) (fe : M W) : List D → List D → M (List D)
  | [], acc => M.ret acc
  | d :: ds, acc => fun r => match T (.dt d) r with
    | .ok _ r1 => match tt r1 with
      | .ok true r2 => match fe r2 with
        | .ok w r3 => match w.frz r3 with
          | .ok y r4 => if acc.length < sizeLine then lcLoop own T tt fe ds (acc ++ [y]) (r4.wipe own) else .fail
          | _ => .fail
        | _ => .fail
      | .ok false r2 => lcLoop own T tt fe ds acc (r2.wipe own)
      | _ => .fail
    | _ => .fail
def cLc (fi : M (List D)) (own : List Nat) (T : W → M Unit) (tt : M Bool) (fe : M W) : M W := M.bind fi fun ds => fun r1 => if r1.noOwn own = true then
  match lcLoop own T tt fe ds [] (r1.wipe own) with
  | .ok acc re => .ok (.fresh (.lst acc)) (r1.back re own)
  | _ => .fail
  else .fail
theorem Out.wipe {σ σ2 : L2.St} {ts own : List Nat} (o : Out (wipe σ own) σ2 ts) (h : ∀ t ∈ ts, t ∈ own) : wipe σ2 own = wipe σ own := by
  rw [wipeG_eq, wipeG_eq]
  have hl : σ2.length = σ.length := by rw [o.len, wipeG_eq, wipeG_len]
  apply List.ext_getElem?
  intro i
  by_cases hi : i ∈ own
  · by_cases q : i < σ.length
    · rw [wipeG_in hi (by rw [hl]; exact q), wipeG_in hi q]
    · rw [List.getElem?_eq_none (by rw [wipeG_len]; omega), List.getElem?_eq_none (by rw [wipeG_len]; omega)]
  · rw [wipeG_out hi, o.get i fun q => hi (h i q), wipeG_eq]
theorem lc_read {vs : List V} {Wx : WX} {B H : Hp} {σ : L2.St} {r : Rho} {fi : M (List D)} {own ts : List Nat} {T : W → M Unit} {tt : M Bool} {fe : M W} {wi : TI} {Q : VK} (hts : ∀ t ∈ ts, t ∈ own) (R : Rl X.K vs B σ H r)
    (qi : ∀ vs B σ H r R, Rl X.K vs B σ H r → Post X vs Wx B H σ r (fi r) (fJ X vs σ) R → wi σ H R) (h : Post X vs Wx B H σ r (cLc fi own T tt fe r) (fW X vs σ H) Q) : tLc wi (gOf X ts T) (ttOf X tt) (tOf X fe) own σ H Q := by
  refine qi vs B σ H r _ R (Post.bind0 h fun J ds B1 H1 r1 s1 R1 wk h1 => ?_)
  intro L hL
  by_cases hno : r1.noOwn own = true
  · rw [if_pos hno] at h1
    have hsome : ∃ tot, tot = lcLoop own T tt fe ds [] (r1.wipe own) := ⟨_, rfl⟩
    obtain ⟨tot, htot⟩ := hsome
    rw [← htot] at h1
    have nofail : tot ≠ .fail := fun e => by rw [e] at h1; exact h1
    refine ⟨fun i m H' => i + m = ds.length ∧ ∃ B' r' acc accV, Stp vs B1 H1 (wipe σ own) (r1.wipe own) B' H' (wipe σ own) r' ∧ Rl X.K vs B' (wipe σ own) H' r' ∧ H' L = some (.lst accV) ∧ RpAll X.K B' accV acc ∧ B' L = none ∧ ¬ Own vs (wipe σ own) r' L ∧ r'.wipe own = r' ∧ lcLoop own T tt fe (ds.drop i) acc r' = tot, ?_, ?_⟩
    · have Rw : Rl X.K vs B1 (wipe σ own) H1 (r1.wipe own) := R1.wipe
      have e : Ext B1 H1 B1 (upd H1 L (.lst [])) := .plain hL
      exact ⟨ds.length, by omega, B1, r1.wipe own, [], [], e.stp, Rw.ext e (Rw.sub.trans e.keep), upd_same, .nil, none_of_sub R1.sub hL, Rw.notOwn hL, wipe_wipe, htot.symm⟩
    · rintro i m H' ⟨hm, B', r', acc, accV, s', R', hD, ra, nb, no, hw, hl⟩
      have af : Aft vs B1 H1 σ r1 B' H' := ⟨s'.sub, R'.sub, fun a o e n => (s'.keep a o e fun q => n (own_wipe q)).1⟩
      by_cases hlt : i < ds.length
      · refine .inr ⟨wk.go i B' H' hlt af, fun H2 => i + 1 + (m - 1) = ds.length ∧ ∃ B2 r2 acc2 accV2, Stp vs B1 H1 (wipe σ own) (r1.wipe own) B2 H2 (wipe σ own) r2 ∧ Rl X.K vs B2 (wipe σ own) H2 r2 ∧ H2 L = some (.lst accV2) ∧ RpAll X.K B2 accV2 acc2 ∧ B2 L = none ∧ ¬ Own vs (wipe σ own) r2 L ∧ r2.wipe own = r2 ∧ lcLoop own T tt fe (ds.drop (i + 1)) acc2 r2 = tot, fun H2 q => ⟨m - 1, by omega, q⟩, fun x H2 y => ?_⟩
        have ed : ds.drop i = ds[i] :: ds.drop (i + 1) := List.drop_eq_getElem_cons hlt
        rw [ed] at hl
        obtain ⟨B2, e2, sm2, rp⟩ := wk.yld i ds[i] B' H' x H2 (by simp [hlt]) af y
        have R2 := R'.ext e2 sm2
        have s2 := s'.trans (e2.stp (vs := vs) (σ := wipe σ own) (r := r'))
        have hD2 := e2.keep _ _ hD
        have nb2 := e2.new _ _ hD nb
        refine ⟨vs, B2, r', .dt ds[i], R2, rp, ?_⟩
        cases e3 : T (.dt ds[i]) r' with
        | fail => simp only [lcLoop, e3] at hl; exact (nofail hl.symm).elim
        | exc z r3 => simp only [lcLoop, e3] at hl; exact (nofail hl.symm).elim
        | ok u r3 =>
          intro σ3 B3 H3 s3 _ o3 R3
          refine ⟨o3.wipe hts, ?_⟩
          obtain ⟨k3, n3⟩ := s3.keep L _ hD2 no
          have no3 : ¬ Own vs σ3 r3 L := fun q => (s3.own L q).elim no fun z => by rw [hD2] at z; cases z
          refine ⟨vs, B3, r3, R3, ?_⟩
          cases e4 : tt r3 with
          | fail => simp only [lcLoop, e3, e4] at hl; exact (nofail hl.symm).elim
          | exc z r4 => simp only [lcLoop, e3, e4] at hl; exact (nofail hl.symm).elim
          | ok k r4 =>
            intro k' B4 H4 s4 R4 ek
            have ek' : k' = k := ek
            subst ek'
            obtain ⟨k4, n4⟩ := s4.keep L _ k3 no3
            have no4 : ¬ Own vs σ3 r4 L := fun q => (s4.own L q).elim no3 fun z => by rw [k3] at z; cases z
            have s14 := (s2.trans s3).trans s4
            cases k' with
            | false =>
              rw [if_neg Bool.false_ne_true]
              simp only [lcLoop, e3, e4] at hl
              have R5 : Rl X.K vs B4 (wipe σ own) H4 (r4.wipe own) := by rw [← o3.wipe hts]; exact R4.wipe
              have ow5 : ∀ a, Own vs (wipe σ own) (r4.wipe own) a → Own vs σ3 r4 a := fun a q => by rw [← o3.wipe hts] at q; exact own_wipe q
              exact ⟨by omega, B4, r4.wipe own, acc, accV, ⟨s14.sub, s14.keep, s14.dom, fun a q => s14.own a (ow5 a q), s14.bol, s14.bod, s14.boo⟩, R5, k4, (ra.mono e2.sub).mono (s3.sub.trans s4.sub), n4 (n3 nb2), fun q => no4 (ow5 L q), wipe_wipe, hl⟩
            | true =>
              rw [if_pos rfl]
              refine ⟨vs, B4, r4, R4, ?_⟩
              cases e5 : fe r4 with
              | fail => simp only [lcLoop, e3, e4, e5] at hl; exact (nofail hl.symm).elim
              | exc z r5 => simp only [lcLoop, e3, e4, e5] at hl; exact (nofail hl.symm).elim
              | ok w r5 =>
                intro yv B5 H5 s5 R5 q5
                obtain ⟨k5, n5⟩ := s5.keep L _ k4 no4
                have no5 : ¬ Own vs σ3 r5 L := fun q => (s5.own L q).elim no4 fun z => by rw [k4] at z; cases z
                cases e6 : w.frz r5 with
                | fail => simp only [lcLoop, e3, e4, e5, e6] at hl; exact (nofail hl.symm).elim
                | exc z r6 => exact absurd e6 frz_noexc
                | ok yd r6 =>
                  simp only [lcLoop, e3, e4, e5, e6] at hl
                  by_cases hz : acc.length < sizeLine
                  · rw [if_pos hz] at hl
                    obtain ⟨B6, p6, R6, s6, sb6, _⟩ := frz1 (B0 := B4) (H0 := H4) (r0 := r4) R5 s5 q5 e6
                    have n6 : B6 L = none := (s6.keep L _ k4 no4).2 (n4 (n3 nb2))
                    have no6 : ¬ Own vs σ3 r6 L := fun q => (s6.own L q).elim no4 fun z => by rw [k4] at z; cases z
                    have ra6 : RpAll X.K B6 accV acc := (ra.mono e2.sub).mono ((s3.sub.trans s4.sub).trans s6.sub)
                    refine ⟨accV, k5, by rw [ra.length]; exact hz, by omega, B6, r6.wipe own, acc ++ [yd], accV ++ [yv], ?_, ?_, upd_same, ra6.append (.cons p6 .nil), n6, ?_, wipe_wipe, hl⟩
                    · have s16 := s14.trans s6
                      refine ⟨s16.sub, fun a o e n => ?_, fun a e => ?_, fun a q => s16.own a ?_, s16.bol, s16.bod, s16.boo⟩
                      · have : a ≠ L := fun q => by subst q; rw [hL] at e; cases e
                        obtain ⟨g1, g2⟩ := s16.keep a o e n
                        exact ⟨by rw [upd_ne this]; exact g1, g2⟩
                      · by_cases q : a = L
                        · subst q; exact hL
                        · rw [upd_ne q] at e; exact s16.dom a e
                      · rw [← o3.wipe hts] at q; exact own_wipe q
                    · have := (R6.other (o := .lst (accV ++ [yv])) n6 no6).wipe (own := own)
                      rw [o3.wipe hts] at this
                      exact this
                    · intro q
                      rw [← o3.wipe hts] at q
                      exact no6 (own_wipe q)
                  · rw [if_neg hz] at hl
                    exact (nofail hl.symm).elim
      · have e : i = ds.length := by omega
        subst e
        rw [List.drop_length] at hl
        refine .inl ⟨wk.stop B' H' af, ?_⟩
        have hl' : tot = .ok acc r' := hl.symm
        rw [hl'] at h1
        obtain ⟨Rf, sf, ob⟩ := back_ok R1 hno R' s' hw
        exact h1 (.ref L) B' H' (s1.trans sf) Rf ⟨L, rfl, s1.dom _ hL, nb, ⟨accV, hD, ra⟩, fun q => no (ob L q)⟩
  · rw [if_neg hno] at h1
    exact h1.elim
theorem de_lc {elt tg iter : Expr} {ifs : List Expr} {scope : Scope} {own : List (Str × Nat)} {pos : Pos} {fi : M (List D)} {ts : List Nat} {T : W → M Unit} {tt : M Bool} {fe : M W} (hc : X.calm = true) (hN : X.N.Nodup) (hi : DI X tg iter fi) (ok : BlkOk X.N X.env.scope scope own)
    (hts : ∀ t ∈ ts, t ∈ own.map (·.2)) (hg : ∀ (s : Shared) (H : Hp) (C : Addr) (cl : List (Str × Addr)) (fp : List Addr), DG (X.blk s H scope (compEnvC scope cl C X.env) fp) tg ts T) (ht : ∀ (s : Shared) (H : Hp) (C : Addr) (cl : List (Str × Addr)) (fp : List Addr), DTs (X.blk s H scope (compEnvC scope cl C X.env) fp) ifs tt)
    (he : ∀ (s : Shared) (H : Hp) (C : Addr) (cl : List (Str × Addr)) (fp : List Addr), DE (X.blk s H scope (compEnvC scope cl C X.env) fp) elt fe) (hs : ∀ x, foldedSetIterable iter X.env x = pure x) :
    DE X (.ListComp elt [⟨tg, iter, ifs, 0⟩] scope pos) (cLc fi (own.map (·.2)) T tt fe) := by
  refine ⟨fun Wx tk => ?_⟩
  obtain ⟨wi, pi, qi⟩ := hi.run Wx tk
  exact ⟨_, pe_lc (g := gOf X ts T) (tt := ttOf X tt) (te := tOf X fe) hc hN pi ok (fun s H C cl fp => (hg s H C cl fp).pg takes_blk) (fun s H C cl fp => (ht s H C cl fp).run takes_blk) (fun s H C cl fp => (he s H C cl fp).pe takes_blk) hs, fun vs B σ H r Q R h => lc_read hts R qi h⟩
theorem ds_setLc {i : Nat} {y : Str} {py : Pos} {elt tg iter : Expr} {ifs : List Expr} {scope : Scope} {own : List (Str × Nat)} {pos spos : Pos} {fi : M (List D)} {ts : List Nat} {T : W → M Unit} {tt : M Bool} {fe : M W} (hc : X.calm = true) (hN : X.N.Nodup) (hy : X.N[i]? = some y) (hyl : X.env.scope.names.lookup y = some .local)
    (hsw : swapsWith (.ListComp elt [⟨tg, iter, ifs, 0⟩] scope pos) (some (.Name y py)) spos.line X.env = pure true) (hi : DI X tg iter fi) (ok : BlkOk X.N X.env.scope scope own)
    (hts : ∀ t ∈ ts, t ∈ own.map (·.2)) (hg : ∀ (s : Shared) (H : Hp) (C : Addr) (cl : List (Str × Addr)) (fp : List Addr), DG (X.blk s H scope (compEnvC scope cl C X.env) fp) tg ts T) (ht : ∀ (s : Shared) (H : Hp) (C : Addr) (cl : List (Str × Addr)) (fp : List Addr), DTs (X.blk s H scope (compEnvC scope cl C X.env) fp) ifs tt)
    (he : ∀ (s : Shared) (H : Hp) (C : Addr) (cl : List (Str × Addr)) (fp : List Addr), DE (X.blk s H scope (compEnvC scope cl C X.env) fp) elt fe) (hs : ∀ x, foldedSetIterable iter X.env x = pure x) :
    DS X (.Assign [.Name y py] (.ListComp elt [⟨tg, iter, ifs, 0⟩] scope pos) spos) (cAsg (cLc fi (own.map (·.2)) T tt fe) (gN i)) := by
  refine ⟨fun Wx tk => ?_⟩
  obtain ⟨wi, pi, qi⟩ := hi.run Wx tk
  refine ⟨_, ps_setLc (g := gOf X ts T) (tt := ttOf X tt) (te := tOf X fe) hc hN hy hyl hsw pi ok (fun s H C cl fp => (hg s H C cl fp).pg takes_blk) (fun s H C cl fp => (ht s H C cl fp).run takes_blk) (fun s H C cl fp => (he s H C cl fp).pe takes_blk) hs, fun vs B σ H r E R h => ?_⟩
  exact lc_read hts R qi (PostS.bind0 h fun x w B1 H1 r1 s1 R1 q1 h2 => gN_ok R1 s1 q1 (PostS.tgt h2))
end
end Lc

set_option Elab.async false
set_option maxRecDepth 100000
set_option maxHeartbeats 4000000
/-! Part H: defs, and calls of them. -/
namespace Lc
open PySem L2 PySem.Spec PyProof.Rows
inductive FRes where
  | ok (b : Bo) (as : List Bo)
  | exc (x : Ex) (as : List Bo)
  | fail
abbrev Fn := List Bo → FRes
def PostF (K : PySem.W.Frag) (mg : Str → Option Value) (vs : List V) (B H : Hp) (as : List Bo) (res : FRes) (Q : VK) (E : XK) : Prop :=
  match res with
  | .ok b as' => ∀ v B' H', Stp vs B H [] ⟨[], as⟩ B' H' [] ⟨[], as'⟩ → Rl K vs B' [] H' ⟨[], as'⟩ → RpW K vs H B' [] H' ⟨[], as'⟩ v b.toW → Q v H'
  | .exc x as' => ∀ cl dd B' H', Stp vs B H [] ⟨[], as⟩ B' H' [] ⟨[], as'⟩ → Rl K vs B' [] H' ⟨[], as'⟩ → RpXK K mg B' cl dd x → E cl dd H'
  | .fail => False
/-- a def's promise: it does on data what F does -/
def spG (K : PySem.W.Frag) (mg : Str → Option Value) (n : Nat) (F : Fn) : Sp := fun vs H Q E => vs.length = n ∧ ∃ B as, as.length = n ∧ Rl K vs B [] H ⟨[], as⟩ ∧ PostF K mg vs B H as (F as) Q E
structure FnG (P : Program) (w : World) (K : PySem.W.Frag) (mg : Str → Option Value) (base : Heap) (k : Nat) (f : Addr) (fd : FuncData) (ps : List Str) (F : Fn) : Prop where
  run : ∀ (A : Around) (outer : List Env) (s : Shared) (H : Hp) (args : Args) (us : List Value) (vs : List V) (Q : VK) (E : XK), Room k A → A.guards = some [] → Env0 P w K mg base A outer s H → BindsTo s fd args (ps.zip us) → Vals vs us →
    spG K mg ps.length F vs H Q E → codeAny (model P w) A (.call (.ref f) args) (CR (L2.CX P w) outer P w H s Q E) s
theorem FnG.up {P : Program} {w : World} {K : PySem.W.Frag} {mg : Str → Option Value} {base : Heap} {j k : Nat} {f : Addr} {fd : FuncData} {ps : List Str} {F : Fn} (h : FnG P w K mg base j f fd ps F) (l : j ≤ k) : FnG P w K mg base k f fd ps F :=
  ⟨fun A outer s H args us vs Q E hr => h.run A outer s H args us vs Q E (hr.mono l)⟩

/-! ### a def by its body -/
def entryL : Nat → List Bo → List (Option Sl)
  | _, [] => []
  | k, .dt d :: as => some (.dt d) :: entryL (k + 1) as
  | k, .own _ :: as => some (.bor k) :: entryL (k + 1) as
def entry (n : Nat) (as : List Bo) : Rho := ⟨entryL 0 as ++ List.replicate (n - as.length) none, as⟩
def finish (w : W) (r : Rho) : FRes := match w with
  | .dt d => .ok (.dt d) r.bor
  | .fresh c => .ok (.own c) r.bor
  | .cel (.loc i) => match r.cnt (.loc i) with
    | some c => .ok (.own c) r.bor
    | none => match r.look (.loc i) with
      | some d => .ok (.dt d) r.bor
      | none => .fail
  | .cel (.bor k) => match r.cnt (.bor k) with
    | some c => .ok (.dt c.toD) (r.frz c.toD (.bor k)).bor
    | none => match r.look (.bor k) with
      | some d => .ok (.dt d) r.bor
      | none => .fail
def runF (n : Nat) (body : M Fl) : Fn := fun as => match body (entry n as) with
  | .ok .next r => .ok (.dt .non) r.bor
  | .ok (.ret w) r => finish w r
  | .ok _ _ => .fail
  | .exc x r => .exc x r.bor
  | .fail => .fail
theorem entryL_len : ∀ (as : List Bo) (k : Nat), (entryL k as).length = as.length
  | [], _ => rfl
  | .dt _ :: as, k => by rw [entryL, List.length_cons, List.length_cons, entryL_len as]
  | .own _ :: as, k => by rw [entryL, List.length_cons, List.length_cons, entryL_len as]
theorem entryL_get : ∀ (as : List Bo) (k i : Nat), (entryL k as)[i]? = (as[i]?).map fun b => match b with
    | .dt d => some (.dt d)
    | .own _ => some (.bor (k + i))
  | [], _, _ => rfl
  | .dt d :: as, k, 0 => rfl
  | .own c :: as, k, 0 => rfl
  | .dt d :: as, k, i + 1 => by
    have := entryL_get as (k + 1) i
    rw [show k + 1 + i = k + (i + 1) by omega] at this
    simpa [entryL] using this
  | .own c :: as, k, i + 1 => by
    have := entryL_get as (k + 1) i
    rw [show k + 1 + i = k + (i + 1) by omega] at this
    simpa [entryL] using this
theorem entry_get {n : Nat} {as : List Bo} {i : Nat} {s : Sl} (h : (entry n as).loc[i]? = some (some s)) : (∃ d, as[i]? = some (.dt d) ∧ s = .dt d) ∨ (∃ c, as[i]? = some (.own c) ∧ s = .bor i) := by
  simp only [entry] at h
  by_cases hi : i < as.length
  · rw [List.getElem?_append_left (by rw [entryL_len]; exact hi), entryL_get] at h
    cases e : as[i]? with
    | none => rw [e] at h; cases h
    | some b =>
      rw [e] at h
      cases b with
      | dt d => simp at h; exact .inl ⟨d, rfl, h.symm⟩
      | own c => simp at h; exact .inr ⟨c, rfl, h.symm⟩
  · rw [List.getElem?_append_right (by rw [entryL_len]; omega), List.getElem?_replicate] at h
    split at h <;> cases h
section
variable {K : PySem.W.Frag} {mg : Str → Option Value} {vs : List V} {B H B' H' : Hp} {σ' : L2.St} {r' : Rho} {as : List Bo} {N : List Str}
theorem cnt_bare {z : Ix} {c : Cn} (h : (⟨[], as⟩ : Rho).cnt z = some c) : ∃ k, z = .bor k ∧ as[k]? = some (.own c) := by
  cases z with
  | loc i => simp [Rho.cnt] at h
  | bor k =>
    refine ⟨k, rfl, ?_⟩
    cases e : as[k]? with
    | none => simp [Rho.cnt, e] at h
    | some b =>
      cases b with
      | dt d => simp [Rho.cnt, e] at h
      | own c' => simp [Rho.cnt, e] at h; rw [h]
theorem cnt_entry {n : Nat} {z : Ix} {c : Cn} (h : (entry n as).cnt z = some c) : (⟨[], as⟩ : Rho).cnt z = some c := by
  cases z with
  | bor k => exact h
  | loc i =>
    exfalso
    cases e : (entry n as).loc[i]? with
    | none => simp [Rho.cnt, e] at h
    | some o =>
      cases o with
      | none => simp [Rho.cnt, e] at h
      | some s =>
        rcases entry_get e with ⟨d, _, rfl⟩ | ⟨c', _, rfl⟩
        · simp [Rho.cnt, e] at h
        · simp [Rho.cnt, e] at h
theorem start_get {i : Nat} {v : V} (h : vs[i]? = some v) : (L2.start N vs)[i]? = some (some v) := by
  have hi := (List.getElem?_eq_some_iff.mp h).1
  unfold L2.start
  rw [List.getElem?_append_left (by simpa using hi), List.getElem?_map, h]
  rfl
theorem entry_rl (R : Rl K vs B [] H ⟨[], as⟩) (hl : vs.length = as.length) : Rl K vs B (L2.start N vs) H (entry N.length as) where
  sub := R.sub
  len := by
    unfold L2.start entry
    simp only [List.length_append, List.length_map, List.length_replicate, entryL_len]
    omega
  dat := fun i d h => by
    rcases entry_get h with ⟨d', e, q⟩ | ⟨c, e, q⟩
    · cases q
      obtain ⟨v, h1, h2⟩ := R.bod i d e
      exact ⟨v, start_get h1, h2⟩
    · cases q
  own := fun z c h => by
    have h' := cnt_entry h
    obtain ⟨k, rfl, _⟩ := cnt_bare h'
    exact R.own _ c h'
  lbo := fun i k h => by
    rcases entry_get h with ⟨d', e, q⟩ | ⟨c, e, q⟩
    · cases q
    · cases q
      obtain ⟨a, h1, _⟩ := R.own (.bor i) c (by simp [Rho.cnt, e])
      have h1' : vs[i]? = some (.ref a) := h1
      exact ⟨_, h1', start_get h1'⟩
  bod := R.bod
  sep := fun z z' c c' a h h' p p' => by
    have g := cnt_entry h
    have g' := cnt_entry h'
    obtain ⟨k, rfl, _⟩ := cnt_bare g
    obtain ⟨k', rfl, _⟩ := cnt_bare g'
    exact R.sep _ _ c c' a g g' p p'
theorem own_bare {σ : L2.St} {a : Addr} {r : Rho} (h : Own vs [] ⟨[], r.bor⟩ a) : Own vs σ r a := by
  obtain ⟨z, c, h1, h2⟩ := h
  obtain ⟨k, rfl, e⟩ := cnt_bare h1
  exact ⟨.bor k, c, by simp [Rho.cnt, e], h2⟩
theorem own_entry {n : Nat} {σ : L2.St} {a : Addr} (h : Own vs σ (entry n as) a) : Own vs [] ⟨[], as⟩ a := by
  obtain ⟨z, c, h1, h2⟩ := h
  have g := cnt_entry h1
  obtain ⟨k, rfl, e⟩ := cnt_bare g
  exact ⟨.bor k, c, g, h2⟩
theorem exit_rl {σ : L2.St} {r : Rho} (R : Rl K vs B σ H r) : Rl K vs B [] H ⟨[], r.bor⟩ where
  sub := R.sub
  len := rfl
  dat := fun i d h => by simp at h
  own := fun z c h => by
    obtain ⟨k, rfl, e⟩ := cnt_bare h
    exact R.own (.bor k) c (by simp [Rho.cnt, e])
  lbo := fun i k h => by simp at h
  bod := R.bod
  sep := fun z z' c c' a h h' p p' => by
    obtain ⟨k, rfl, e⟩ := cnt_bare h
    obtain ⟨k', rfl, e'⟩ := cnt_bare h'
    exact R.sep _ _ c c' a (by simp [Rho.cnt, e]) (by simp [Rho.cnt, e']) p p'
theorem exit_stp {n : Nat} {σ : L2.St} (s : Stp vs B H σ (entry n as) B' H' σ' r') : Stp vs B H [] ⟨[], as⟩ B' H' [] ⟨[], r'.bor⟩ where
  sub := s.sub
  keep := fun a o h no => s.keep a o h fun q => no (own_entry q)
  dom := s.dom
  own := fun a h => (s.own a (own_bare h)).elim (fun q => .inl (own_entry q)) .inr
  bol := s.bol
  bod := s.bod
  boo := s.boo
theorem finish_ok {n : Nat} {σ : L2.St} {w : W} {v : V} {Q : VK} {E : XK} (s : Stp vs B H σ (entry n as) B' H' σ' r') (R : Rl K vs B' σ' H' r') (hv : RpW K vs H B' σ' H' r' v w) (h : PostF K mg vs B H as (finish w r') Q E) : Q v H' := by
  cases w with
  | dt d => exact h v B' H' (exit_stp s) (exit_rl R) hv
  | fresh c =>
    obtain ⟨a, rfl, h1, h2, h3, h4⟩ := hv
    exact h _ B' H' (exit_stp s) (exit_rl R) ⟨a, rfl, h1, h2, h3, fun q => h4 (own_bare q)⟩
  | cel z =>
    cases z with
    | loc i =>
      cases hc : r'.cnt (.loc i) with
      | none =>
        cases hl : r'.look (.loc i) with
        | none => simp only [finish, hc, hl] at h; exact h.elim
        | some d =>
          simp only [finish, hc, hl] at h
          exact h v B' H' (exit_stp s) (exit_rl R) (look_data R hc hl hv)
      | some c =>
        simp only [finish, hc] at h
        obtain ⟨a, q1, q2, q3⟩ := R.own _ c hc
        have e : v = .ref a := by have h' : adr vs σ' (.loc i) = some v := hv; rw [q1] at h'; exact (Option.some.inj h').symm
        subst e
        refine h _ B' H' (exit_stp s) (exit_rl R) ⟨a, rfl, ?_, q2, q3, fun ⟨z, c', g1, g2⟩ => ?_⟩
        · rcases s.own a ⟨_, c, hc, q1⟩ with g | g
          · obtain ⟨z, c', g1, g2⟩ := own_entry g
            obtain ⟨k, rfl, e⟩ := cnt_bare g1
            have g2' : vs[k]? = some (.ref a) := g2
            rcases s.boo k c' a e g2' with ⟨c2, m⟩ | ⟨d, o, _, m⟩
            · have := R.sep (.loc i) (.bor k) c c2 a hc (by simp [Rho.cnt, m]) q1 g2'
              cases this
            · rw [q2] at m; cases m
          · exact g
        · obtain ⟨k, rfl, e⟩ := cnt_bare g1
          have := R.sep (.loc i) (.bor k) c c' a hc (by simp [Rho.cnt, e]) q1 g2
          cases this
    | bor k =>
      cases hc : r'.cnt (.bor k) with
      | none =>
        cases hl : r'.look (.bor k) with
        | none => simp only [finish, hc, hl] at h; exact h.elim
        | some d =>
          simp only [finish, hc, hl] at h
          exact h v B' H' (exit_stp s) (exit_rl R) (look_data R hc hl hv)
      | some c =>
        simp only [finish, hc] at h
        obtain ⟨a, q1, q2, q3⟩ := R.own _ c hc
        have e : v = .ref a := by have h' : adr vs σ' (.bor k) = some v := hv; rw [q1] at h'; exact (Option.some.inj h').symm
        subst e
        obtain ⟨o, ho, rp, R2, s2⟩ := R.freeze hc q1
        exact h _ _ H' (exit_stp (s.trans s2)) (exit_rl R2) rp
/-- from a body's denotation to the def's -/
theorem runF_ok {X : Cx} {body : M Fl} {Q : VK} {E : XK} (hK : X.K = K) (hmg : X.mg = mg) (R : Rl K vs B [] H ⟨[], as⟩) (hl : vs.length = as.length) (h : PostF K mg vs B H as (runF N.length body as) Q E) :
    PostS X vs (fun cl dd _ H' => E cl dd H') B H (L2.start N vs) (entry N.length as) (body (entry N.length as)) { nx := fun _ H' => Q .non H', rt := Q } := by
  subst hK hmg
  unfold runF at h
  cases e : body (entry N.length as) with
  | fail => rw [e] at h; exact h.elim
  | exc x r => rw [e] at h; exact fun cl dd σ' B' H' s R' q => h cl dd B' H' (exit_stp s) (exit_rl R') q
  | ok fl r =>
    rw [e] at h
    cases fl with
    | next => exact fun σ' B' H' s R' => h .non B' H' (exit_stp s) (exit_rl R') Rp.non
    | ret w => exact fun v σ' B' H' s R' hv => finish_ok s R' hv h
    | brk => exact h.elim
    | cnt => exact h.elim
end
/-- a def of the text does what its body denotes. C: whatever the body's contexts are to bear -/
theorem fnG_of {P : Program} {w : World} {K : PySem.W.Frag} {mg : Str → Option Value} {base : Heap} {k : Nat} {x qual : Str} {st : Stmt} {f : Addr} {fd : FuncData} {N ps : List Str} {body : M Fl} (F : Fun K x qual st f fd) (S : FnScope N ps (defScope st))
    (hbody : ∀ (cdv : Value) (A : Around) (outer : List Env) (s : Shared) (H : Hp) (E : XK), Room k (A.deeper (envOfC qual (defScope st) s.heap.objs.size f cdv)) → A.guards = some [] →
      DSs (cxOf (L2.CX P w) P w K mg base N qual (defScope st) f cdv A outer s H E) (defBody st) body) : FnG P w K mg base (k + 1) f fd ps (runF N.length body) := by
  obtain ⟨oc, od, kV, doc, pm, an, cdv, ct, osl, rfl, lk, hcd⟩ := F.ex
  refine ⟨fun A outer s H args us vs Q E hr hgu e0 hb rv ⟨hl, B, as, ha, R, hp⟩ => ?_⟩
  have inK : K.In s.heap := e0.mod.kin.keeps fun b o e => (e0.bs b o e).1
  have nolim : s.heap.NoLimit := e0.mod.nolimit.keeps fun b o e => (e0.bs b o e).1
  have kinds : ∀ y ∈ ps.zip us, (defScope st).names.lookup y.1 = some .local ∨ ((defScope st).names.lookup y.1 = some .cell ∧ ((cellsFrom (s.heap.objs.size + 1) (defScope st).names []).lookup y.1).isSome = true) := by
    rintro ⟨y, u⟩ hy
    rcases S.par y (List.of_mem_zip hy).1 with q | q
    · exact Or.inl q
    · exact Or.inr ⟨q, PySem.W.cellsFrom_some _ _ _ (Or.inl q)⟩
  refine codeAny_call_function hr.depth (inK _ _ lk) rfl S.co S.gen rfl (PySem.W.codeRec_of inK hcd) (hb _ _ _ _ ?_)
  refine wpAny_newFunctionEnv_cells S.kind kinds fun env he s1 ic => ?_
  subst he
  refine ⟨nolim.keeps ic.toInCall.keep, codeAny_func ?_⟩
  obtain ⟨t, pt, qt⟩ := (hbody cdv A outer s H E (hr.deeper _) hgu).run _ (takes_of rfl rfl rfl rfl)
  have I := inv_start (CX := L2.CX P w) (P := P) (w := w) (K := K) (mg := mg) (base := base) (N := N) (qual := qual) (f := f) (cd := cdv) (E := E) S hr.hd e0 hl rv ic
  have q := qt vs B (L2.start N vs) H (entry N.length as) _ (entry_rl R (hl.trans ha.symm)) (runF_ok rfl rfl R (hl.trans ha.symm) hp)
  refine wpAny_mono (pt.run [] s1 (L2.start N vs) H _ I q) (fun fl s2 hs => ?_) fun e s2 hs => hs
  cases fl with
  | ret u =>
    obtain ⟨v, σ2, H2, J, ru, z⟩ := hs
    exact ⟨v, H2, J.os, J.bare, J.base, J.hok, ru, z⟩
  | next =>
    obtain ⟨σ2, H2, J, z⟩ := hs
    exact ⟨.non, H2, J.os, J.bare, J.base, J.hok, rfl, z⟩
  | brk => obtain ⟨_, _, _, z⟩ := hs; exact z.elim
  | cont => obtain ⟨_, _, _, z⟩ := hs; exact z.elim
end Lc

set_option Elab.async false
set_option maxRecDepth 100000
set_option maxHeartbeats 4000000
/-! Part I: calls of defs. -/
namespace Lc
open PySem L2 PySem.Spec PyProof.Rows
def argOf (r : Rho) : W → Option Bo
  | .dt d => some (.dt d)
  | .fresh c => some (.own c)
  | .cel z => match r.cnt z with
    | some c => some (.own c)
    | none => match r.look z with
      | some d => some (.dt d)
      | none => none
def argsOf (r : Rho) : List W → Option (List Bo)
  | [] => some []
  | w :: ws => match argOf r w, argsOf r ws with
    | some b, some bs => some (b :: bs)
    | _, _ => none
def celOf (r : Rho) : W → Option Ix
  | .cel z => match r.cnt z with
    | some _ => some z
    | none => none
  | _ => none
def apart (r : Rho) : List W → Bool
  | [] => true
  | w :: ws => (match celOf r w with
    | some z => ws.all fun u => decide (celOf r u ≠ some z)
    | none => true) && apart r ws
def findArg (z : Ix) : List W → List Bo → Option Bo
  | .cel z' :: ws, b :: bs => if z' = z then some b else findArg z ws bs
  | _ :: ws, _ :: bs => findArg z ws bs
  | _, _ => none
def upSl (ws : List W) (bs : List Bo) (i : Nat) : Option Sl → Option Sl
  | some (.own c) => match findArg (.loc i) ws bs with
    | some (.own c') => some (.own c')
    | some (.dt d) => some (.dt d)
    | none => some (.own c)
  | x => x
def upBo (ws : List W) (bs : List Bo) (k : Nat) : Bo → Bo
  | .own c => match findArg (.bor k) ws bs with
    | some b => b
    | none => .own c
  | x => x
/-- the caller's things behind a call -/
def Rho.after (r : Rho) (ws : List W) (bs : List Bo) : Rho := ⟨r.loc.mapIdx (upSl ws bs), r.bor.mapIdx (upBo ws bs)⟩
def cCall (F : Fn) (f : M (List W)) : M W := M.bind f fun ws => fun r => match argsOf r ws with
  | some as => if apart r ws = true then match F as with
      | .ok b bs => .ok b.toW (r.after ws bs)
      | .exc x bs => .exc x (r.after ws bs)
      | .fail => .fail
    else .fail
  | none => .fail
theorem argsOf_get {r : Rho} : ∀ {ws : List W} {as : List Bo}, argsOf r ws = some as → as.length = ws.length ∧ ∀ (k : Nat) (b : Bo), as[k]? = some b → ∃ w, ws[k]? = some w ∧ argOf r w = some b
  | [], as, h => by cases h; exact ⟨rfl, fun k b e => by simp at e⟩
  | w :: ws, as, h => by
    unfold argsOf at h
    cases e1 : argOf r w with
    | none => simp [e1] at h
    | some b =>
      cases e2 : argsOf r ws with
      | none => simp [e1, e2] at h
      | some bs =>
        simp only [e1, e2, Option.some.injEq] at h
        subst h
        obtain ⟨l, g⟩ := argsOf_get e2
        refine ⟨by rw [List.length_cons, List.length_cons, l], fun k b' e => ?_⟩
        cases k with
        | zero => simp at e; subst e; exact ⟨w, rfl, e1⟩
        | succ k => simpa using g k b' (by simpa using e)
theorem argsOf_get' {r : Rho} : ∀ {ws : List W} {as : List Bo} {k : Nat} {w : W}, argsOf r ws = some as → ws[k]? = some w → ∃ b, as[k]? = some b ∧ argOf r w = some b
  | ws, as, k, w, h, e => by
    obtain ⟨l, g⟩ := argsOf_get h
    have hk := (List.getElem?_eq_some_iff.mp e).1
    have hk' : k < as.length := by rw [l]; exact hk
    obtain ⟨w', e', q⟩ := g k as[k] (by simp [hk'])
    rw [e] at e'; cases e'
    exact ⟨as[k], by simp [hk'], q⟩
theorem apart_get {r : Rho} {z : Ix} {ws : List W} : apart r ws = true → ∀ {i j : Nat} {w u : W}, ws[i]? = some w → ws[j]? = some u → celOf r w = some z → celOf r u = some z → i = j := by
  induction ws with
  | nil => intro _ i j w u h; simp at h
  | cons w0 ws ih =>
    intro h i j w u e1 e2 c1 c2
    have h2 : apart r ws = true := by simp only [apart, Bool.and_eq_true] at h; exact h.2
    have one : ∀ {u : W}, celOf r w0 = some z → u ∈ ws → celOf r u ≠ some z := fun {u} c m => by
      simp only [apart, c, Bool.and_eq_true, List.all_eq_true, decide_eq_true_eq] at h
      exact h.1 u m
    cases i with
    | zero =>
      cases j with
      | zero => rfl
      | succ j =>
        simp at e1; subst e1
        exact absurd c2 (one c1 (List.mem_of_getElem? (by simpa using e2)))
    | succ i =>
      cases j with
      | zero =>
        simp at e2; subst e2
        exact absurd c1 (one c2 (List.mem_of_getElem? (by simpa using e1)))
      | succ j => exact congrArg (· + 1) (ih h2 (i := i) (j := j) (by simpa using e1) (by simpa using e2) c1 c2)
theorem findArg_some {z : Ix} {b : Bo} : ∀ {ws : List W} {bs : List Bo}, findArg z ws bs = some b → ∃ k : Nat, ws[k]? = some (.cel z) ∧ bs[k]? = some b
  | [], bs, h => by cases bs <;> simp [findArg] at h
  | w :: ws, [], h => by cases w <;> simp [findArg] at h
  | w :: ws, b' :: bs, h => by
    cases w with
    | cel z' =>
      by_cases e : z' = z
      · subst e
        simp [findArg] at h
        exact ⟨0, rfl, by simp [h]⟩
      · simp [findArg, e] at h
        obtain ⟨k, h1, h2⟩ := findArg_some h
        exact ⟨k + 1, by simpa using h1, by simpa using h2⟩
    | dt d =>
      simp [findArg] at h
      obtain ⟨k, h1, h2⟩ := findArg_some h
      exact ⟨k + 1, by simpa using h1, by simpa using h2⟩
    | fresh d =>
      simp [findArg] at h
      obtain ⟨k, h1, h2⟩ := findArg_some h
      exact ⟨k + 1, by simpa using h1, by simpa using h2⟩
theorem findArg_none {z : Ix} : ∀ {ws : List W} {bs : List Bo} {k : Nat}, findArg z ws bs = none → ws[k]? = some (.cel z) → bs[k]? = none
  | [], bs, k, h, e => by simp at e
  | w :: ws, [], k, h, e => by simp
  | w :: ws, b' :: bs, k, h, e => by
    cases k with
    | zero =>
      simp at e; subst e
      simp [findArg] at h
    | succ k =>
      have h' : findArg z ws bs = none := by
        cases w with
        | cel z' =>
          by_cases q : z' = z
          · subst q; simp [findArg] at h
          · simpa [findArg, q] using h
        | dt d => simpa [findArg] using h
        | fresh d => simpa [findArg] using h
      simpa using findArg_none h' (by simpa using e)
section
variable {K : PySem.W.Frag} {vs xs : List V} {Hs B H B' H' : Hp} {σ : L2.St} {r : Rho} {ws : List W} {as bs : List Bo}
theorem RpWs.clash {xs : List V} {ws : List W} (h : RpWs K vs Hs B σ H r xs ws) : ∀ {i j : Nat} {v x : V} {w u : W}, i < j → xs[i]? = some v → ws[i]? = some w → xs[j]? = some x → ws[j]? = some u → ¬ Clash v w x u := by
  induction h with
  | nil => intro i j v x w u _ e; simp at e
  | cons h0 t n ih =>
    intro i j v x w u hij e1 e2 e3 e4
    cases j with
    | zero => omega
    | succ j =>
      cases i with
      | zero =>
        simp at e1 e2; subst e1 e2
        exact n j _ _ (by simpa using e3) (by simpa using e4)
      | succ i => exact ih (i := i) (j := j) (by omega) (by simpa using e1) (by simpa using e2) (by simpa using e3) (by simpa using e4)
theorem RpWs.at (h : RpWs K vs Hs B σ H r xs ws) {k : Nat} {w : W} (e : ws[k]? = some w) : ∃ v, xs[k]? = some v ∧ RpW K vs Hs B σ H r v w := by
  have hk : k < xs.length := by rw [h.length]; exact (List.getElem?_eq_some_iff.mp e).1
  exact ⟨xs[k], by simp [hk], h.get (by simp [hk]) e⟩
/-- an argument that the callee may change: a new thing, or a kept one -/
theorem own_arg (R : Rl K vs B σ H r) (h : RpWs K vs Hs B σ H r xs ws) (ea : argsOf r ws = some as) {k : Nat} {c : Cn} (e : as[k]? = some (.own c)) :
    ∃ w a, ws[k]? = some w ∧ xs[k]? = some (.ref a) ∧ B a = none ∧ At K B H a c ∧ ((w = .fresh c ∧ ¬ Own vs σ r a ∧ Hs a = none) ∨ ∃ z, w = .cel z ∧ r.cnt z = some c ∧ adr vs σ z = some (.ref a)) := by
  obtain ⟨w, ew, eb⟩ := (argsOf_get ea).2 k _ e
  obtain ⟨v, ev, hv⟩ := h.at ew
  cases w with
  | dt d => simp [argOf] at eb
  | fresh c' =>
    simp [argOf] at eb; subst eb
    obtain ⟨a, rfl, h1, h2, h3, h4⟩ := hv
    exact ⟨_, a, ew, ev, h2, h3, .inl ⟨rfl, h4, h1⟩⟩
  | cel z =>
    cases hc : r.cnt z with
    | none =>
      cases hl : r.look z with
      | none => simp [argOf, hc, hl] at eb
      | some d => simp [argOf, hc, hl] at eb
    | some c' =>
      simp [argOf, hc] at eb; subst eb
      obtain ⟨a, q1, q2, q3⟩ := R.own z _ hc
      have hv' : adr vs σ z = some v := hv
      rw [q1] at hv'; cases hv'
      exact ⟨_, a, ew, ev, q2, q3, .inr ⟨z, rfl, hc, q1⟩⟩
theorem call_in (R : Rl K vs B σ H r) (h : RpWs K vs Hs B σ H r xs ws) (ea : argsOf r ws = some as) (hap : apart r ws = true) : Rl K xs B [] H ⟨[], as⟩ where
  sub := R.sub
  len := rfl
  dat := fun i d q => by simp at q
  own := fun z c q => by
    obtain ⟨k, rfl, e⟩ := cnt_bare q
    obtain ⟨w, a, h1, h2, h3, h4, _⟩ := own_arg R h ea e
    exact ⟨a, h2, h3, h4⟩
  lbo := fun i k q => by simp at q
  bod := fun k d e => by
    obtain ⟨w, ew, eb⟩ := (argsOf_get ea).2 k _ e
    obtain ⟨v, ev, hv⟩ := h.at ew
    refine ⟨v, ev, ?_⟩
    cases w with
    | dt d' => simp [argOf] at eb; subst eb; exact hv
    | fresh c' => simp [argOf] at eb
    | cel z =>
      cases hc : r.cnt z with
      | some c' => simp [argOf, hc] at eb
      | none =>
        cases hl : r.look z with
        | none => simp [argOf, hc, hl] at eb
        | some d' =>
          simp [argOf, hc, hl] at eb; subst eb
          exact look_data R hc hl hv
  sep := fun z z' c c' a q q' p p' => by
    obtain ⟨k, rfl, e⟩ := cnt_bare q
    obtain ⟨k', rfl, e'⟩ := cnt_bare q'
    obtain ⟨w, a1, h1, h2, _, h4, o1⟩ := own_arg R h ea e
    obtain ⟨w', a2, g1, g2, _, g4, o2⟩ := own_arg R h ea e'
    have p1 : xs[k]? = some (.ref a) := p
    have p2 : xs[k']? = some (.ref a) := p'
    rw [h2] at p1; cases p1
    rw [g2] at p2; cases p2
    congr 1
    rcases o1 with ⟨rfl, n1, _⟩ | ⟨z1, rfl, c1, d1⟩
    · rcases o2 with ⟨rfl, n2, _⟩ | ⟨z2, rfl, c2, d2⟩
      · rcases Nat.lt_trichotomy k k' with l | l | l
        · exact absurd ⟨_, _, _, rfl, rfl, rfl, rfl⟩ (h.clash l h2 h1 g2 g1)
        · exact l
        · exact absurd ⟨_, _, _, rfl, rfl, rfl, rfl⟩ (h.clash l g2 g1 h2 h1)
      · exact absurd ⟨z2, _, c2, d2⟩ n1
    · rcases o2 with ⟨rfl, n2, _⟩ | ⟨z2, rfl, c2, d2⟩
      · exact absurd ⟨z1, _, c1, d1⟩ n2
      · have := R.sep z1 z2 _ _ _ c1 c2 d1 d2
        subst this
        exact apart_get (z := z1) hap h1 g1 (by simp [celOf, c1]) (by simp [celOf, c1])
theorem cnt_after {z : Ix} : (r.after ws bs).cnt z = match r.cnt z with
    | some c => match findArg z ws bs with
      | some (.own c') => some c'
      | some (.dt _) => none
      | none => some c
    | none => none := by
  cases z with
  | loc i =>
    cases e : r.loc[i]? with
    | none => simp [Rho.cnt, Rho.after, List.getElem?_mapIdx, e]
    | some o =>
      cases o with
      | none => simp [Rho.cnt, Rho.after, List.getElem?_mapIdx, e, upSl]
      | some s =>
        cases s with
        | dt d => simp [Rho.cnt, Rho.after, List.getElem?_mapIdx, e, upSl]
        | bor k => simp [Rho.cnt, Rho.after, List.getElem?_mapIdx, e, upSl]
        | own c =>
          simp only [Rho.cnt, Rho.after, List.getElem?_mapIdx, e, upSl, Option.map_some]
          cases findArg (.loc i) ws bs with
          | none => rfl
          | some b => cases b <;> rfl
  | bor k =>
    cases e : r.bor[k]? with
    | none => simp [Rho.cnt, Rho.after, List.getElem?_mapIdx, e]
    | some s =>
      cases s with
      | dt d => simp [Rho.cnt, Rho.after, List.getElem?_mapIdx, e, upBo]
      | own c =>
        simp only [Rho.cnt, Rho.after, List.getElem?_mapIdx, e, upBo, Option.map_some]
        cases findArg (.bor k) ws bs with
        | none => rfl
        | some b => cases b <;> rfl
theorem after_own {z : Ix} {c : Cn} (h : (r.after ws bs).cnt z = some c) : ∃ c0, r.cnt z = some c0 ∧ ((∃ k : Nat, ws[k]? = some (.cel z) ∧ bs[k]? = some (.own c)) ∨ (findArg z ws bs = none ∧ c = c0)) := by
  rw [cnt_after] at h
  cases e : r.cnt z with
  | none => rw [e] at h; cases h
  | some c0 =>
    rw [e] at h
    cases e2 : findArg z ws bs with
    | none => simp only [e2] at h; cases h; exact ⟨_, rfl, .inr ⟨rfl, rfl⟩⟩
    | some b =>
      cases b with
      | dt d => simp only [e2] at h; cases h
      | own c' => simp only [e2] at h; cases h; exact ⟨c0, rfl, .inl (findArg_some e2)⟩
/-- a kept thing that is not handed in is not the callee's -/
theorem not_handed (R : Rl K vs B σ H r) (h : RpWs K vs Hs B σ H r xs ws) (ea : argsOf r ws = some as) (hb : bs.length = as.length) {z : Ix} {c : Cn} {a : Addr} (hc : r.cnt z = some c) (ha : adr vs σ z = some (.ref a)) (hn : findArg z ws bs = none) : ¬ Own xs [] ⟨[], as⟩ a := by
  rintro ⟨z', c', q1, q2⟩
  obtain ⟨k, rfl, e⟩ := cnt_bare q1
  have q2' : xs[k]? = some (.ref a) := q2
  obtain ⟨w, a1, h1, h2, _, _, o1⟩ := own_arg R h ea e
  rw [q2'] at h2; cases h2
  rcases o1 with ⟨rfl, n1, _⟩ | ⟨z1, rfl, c1, d1⟩
  · exact n1 ⟨z, c, hc, ha⟩
  · have := R.sep z z1 _ _ _ hc c1 ha d1
    subst this
    have hk := (List.getElem?_eq_some_iff.mp e).1
    have := findArg_none hn h1
    rw [List.getElem?_eq_getElem (by rw [hb]; exact hk)] at this
    cases this
theorem call_out {B0 H0 : Hp} {r0 : Rho} (R : Rl K vs B σ H r) (s0 : Stp vs B0 H0 σ r0 B H σ r) (h : RpWs K vs H0 B σ H r xs ws) (ea : argsOf r ws = some as) (s : Stp xs B H [] ⟨[], as⟩ B' H' [] ⟨[], bs⟩) (R' : Rl K xs B' [] H' ⟨[], bs⟩) :
    Rl K vs B' σ H' (r.after ws bs) ∧ Stp vs B0 H0 σ r0 B' H' σ (r.after ws bs) := by
  have hb : bs.length = as.length := s.bol
  have callee : ∀ a, Own xs [] ⟨[], as⟩ a → Own vs σ r a ∨ H0 a = none := by
    rintro a ⟨z', c', q1, q2⟩
    obtain ⟨k, rfl, e⟩ := cnt_bare q1
    obtain ⟨w, a1, h1, h2, _, _, o1⟩ := own_arg R h ea e
    have q2' : xs[k]? = some (.ref a) := q2
    rw [q2'] at h2; cases h2
    rcases o1 with ⟨rfl, n1, n2⟩ | ⟨z1, rfl, c1, d1⟩
    · exact .inr n2
    · exact .inl ⟨z1, _, c1, d1⟩
  have own' : ∀ z c, (r.after ws bs).cnt z = some c → ∃ a c0, r.cnt z = some c0 ∧ adr vs σ z = some (.ref a) ∧ B' a = none ∧ At K B' H' a c := fun z c q => by
    obtain ⟨c0, q0, q1 | ⟨q1, rfl⟩⟩ := after_own q
    · obtain ⟨k, e1, e2⟩ := q1
      obtain ⟨a, p1, p2, p3⟩ := R'.own (.bor k) c (by simp [Rho.cnt, e2])
      have p1' : xs[k]? = some (.ref a) := p1
      exact ⟨a, c0, q0, h.get p1' e1, p2, p3⟩
    · obtain ⟨a, p1, p2, p3⟩ := R.own z c q0
      have no := not_handed R h ea hb q0 p1 q1
      obtain ⟨o, ho⟩ := p3.some
      exact ⟨a, c, q0, p1, (s.keep a o ho no).2 p2, p3.mono s.sub fun o' e => (s.keep a o' e no).1⟩
  have ow : ∀ a, Own vs σ (r.after ws bs) a → Own vs σ r a := fun a ⟨z, c, q1, q2⟩ => by
    obtain ⟨c0, q0, _⟩ := after_own q1
    exact ⟨z, c0, q0, q2⟩
  have frozen : ∀ {z : Ix} {d : D} {v : V}, adr vs σ z = some v → findArg z ws bs = some (.dt d) → Rp K B' v d := fun {z d v} ha q => by
    obtain ⟨k, e1, e2⟩ := findArg_some q
    obtain ⟨u, p1, p2⟩ := R'.bod k d e2
    have : adr vs σ z = some u := h.get p1 e1
    rw [ha] at this; cases this
    exact p2
  refine ⟨⟨R'.sub, ?_, ?_, fun z c q => ?_, ?_, ?_, ?_⟩, ⟨s0.sub.trans s.sub, fun a o e no => ?_, fun a e => s0.dom a (s.dom a e), fun a q => s0.own a (ow a q), ?_, ?_, ?_⟩⟩
  · simp [Rho.after, R.len]
  · intro i d q
    cases e : r.loc[i]? with
    | none => simp [Rho.after, List.getElem?_mapIdx, e] at q
    | some o =>
      cases o with
      | none => simp [Rho.after, List.getElem?_mapIdx, e, upSl] at q
      | some sl =>
        cases sl with
        | dt d' =>
          simp [Rho.after, List.getElem?_mapIdx, e, upSl] at q
          subst q
          obtain ⟨v, p1, p2⟩ := R.dat i _ e
          exact ⟨v, p1, p2.mono s.sub⟩
        | bor k => simp [Rho.after, List.getElem?_mapIdx, e, upSl] at q
        | own c =>
          obtain ⟨a, p1, p2, p3⟩ := R.own (.loc i) c (by simp [Rho.cnt, e])
          cases e2 : findArg (.loc i) ws bs with
          | none => simp [Rho.after, List.getElem?_mapIdx, e, upSl, e2] at q
          | some b =>
            cases b with
            | own c' => simp [Rho.after, List.getElem?_mapIdx, e, upSl, e2] at q
            | dt d' =>
              simp [Rho.after, List.getElem?_mapIdx, e, upSl, e2] at q
              subst q
              refine ⟨.ref a, ?_, frozen p1 e2⟩
              simp only [adr] at p1
              cases e3 : σ[i]? with
              | none => rw [e3] at p1; cases p1
              | some w => cases w with
                | none => rw [e3] at p1; cases p1
                | some w => rw [e3] at p1; cases p1; rfl
  · obtain ⟨a, c0, _, p1, p2, p3⟩ := own' z c q
    exact ⟨a, p1, p2, p3⟩
  · intro i k q
    cases e : r.loc[i]? with
    | none => simp [Rho.after, List.getElem?_mapIdx, e] at q
    | some o =>
      cases o with
      | none => simp [Rho.after, List.getElem?_mapIdx, e, upSl] at q
      | some sl =>
        cases sl with
        | dt d' => simp [Rho.after, List.getElem?_mapIdx, e, upSl] at q
        | bor k' =>
          simp [Rho.after, List.getElem?_mapIdx, e, upSl] at q
          subst q
          exact R.lbo i _ e
        | own c =>
          cases e2 : findArg (.loc i) ws bs with
          | none => simp [Rho.after, List.getElem?_mapIdx, e, upSl, e2] at q
          | some b => cases b <;> simp [Rho.after, List.getElem?_mapIdx, e, upSl, e2] at q
  · intro k d q
    cases e : r.bor[k]? with
    | none => simp [Rho.after, List.getElem?_mapIdx, e] at q
    | some b0 =>
      cases b0 with
      | dt d' =>
        simp [Rho.after, List.getElem?_mapIdx, e, upBo] at q
        subst q
        obtain ⟨v, p1, p2⟩ := R.bod k _ e
        exact ⟨v, p1, p2.mono s.sub⟩
      | own c =>
        obtain ⟨a, p1, p2, p3⟩ := R.own (.bor k) c (by simp [Rho.cnt, e])
        cases e2 : findArg (.bor k) ws bs with
        | none => simp [Rho.after, List.getElem?_mapIdx, e, upBo, e2] at q
        | some b =>
          cases b with
          | own c' => simp [Rho.after, List.getElem?_mapIdx, e, upBo, e2] at q
          | dt d' =>
            simp [Rho.after, List.getElem?_mapIdx, e, upBo, e2] at q
            subst q
            exact ⟨.ref a, p1, frozen p1 e2⟩
  · intro z z' c c' a q q' p p'
    obtain ⟨c0, q0, _⟩ := after_own q
    obtain ⟨c1, q1, _⟩ := after_own q'
    exact R.sep z z' c0 c1 a q0 q1 p p'
  · obtain ⟨k1, k2⟩ := s0.keep a o e no
    have no1 : ¬ Own xs [] ⟨[], as⟩ a := fun q => by
      rcases callee a q with g | g
      · exact (s0.own a g).elim no fun z => by rw [e] at z; cases z
      · rw [e] at g; cases g
    obtain ⟨k3, k4⟩ := s.keep a o k1 no1
    exact ⟨k3, fun z => k4 (k2 z)⟩
  · simp [Rho.after, s0.bol]
  · intro k d q
    have := s0.bod k d q
    simp [Rho.after, List.getElem?_mapIdx, this, upBo]
  · intro k c a q hv
    rcases s0.boo k c a q hv with ⟨c1, e⟩ | ⟨d, o, e, e2⟩
    · cases e2 : findArg (.bor k) ws bs with
      | none => exact .inl ⟨c1, by simp [Rho.after, List.getElem?_mapIdx, e, upBo, e2]⟩
      | some b =>
        cases b with
        | own c' => exact .inl ⟨c', by simp [Rho.after, List.getElem?_mapIdx, e, upBo, e2]⟩
        | dt d' =>
          obtain ⟨k', e3, e4⟩ := findArg_some e2
          obtain ⟨b1, e5, e6⟩ := argsOf_get' ea e3
          have hc : r.cnt (.bor k) = some c1 := by simp [Rho.cnt, e]
          simp [argOf, hc] at e6
          subst e6
          obtain ⟨u, p1, p2⟩ := R'.bod k' d' e4
          have pu : adr vs σ (.bor k) = some u := h.get p1 e3
          have pu' : vs[k]? = some u := pu
          rw [hv] at pu'; cases pu'
          rcases s.boo k' c1 a e5 p1 with ⟨c2, m⟩ | ⟨d2, o2, m, m2⟩
          · have m' : bs[k']? = some (.own c2) := m
            rw [e4] at m'; cases m'
          · exact .inr ⟨d', o2, by simp [Rho.after, List.getElem?_mapIdx, e, upBo, e2], m2⟩
    · exact .inr ⟨d, o, by simp [Rho.after, List.getElem?_mapIdx, e, upBo], s.sub _ _ e2⟩
end
/-- f(e, ..), what is raised wished for at the caller's slots -/
def tCallG (Wx : WX) (sp : Sp) (t : TA) : TE := fun σ H Q => t σ H fun vs H1 => sp vs H1 Q (fun cl dd H' => Wx cl dd σ H')
section
variable {X : Cx} {Wx : WX} {k : Nat} {f : Addr} {fd : FuncData} {ps : List Str} {F : Fn} {x : Str} {p pos : Pos} {e : Expr} {es : List Expr} {t : TA}
theorem run_fnG {pins : List (Addr × Obj)} {σ : L2.St} {H : Hp} {s : Shared} {Q : VK} {args : Args} {us : List Value} {vs : List V} (G : FnG X.prog X.w X.K X.mg X.base k f fd ps F) (hr : Room k X.A) (hgu : X.A.guards = some []) (hb : BindsTo s fd args (ps.zip us)) (tk : Takes X Wx)
    (I : Inv X pins σ H s) (rv : Vals vs us) (h : spG X.K X.mg ps.length F vs H Q (fun cl dd H' => Wx cl dd σ H')) : codeAny (model X.prog X.w) X.A (.call (.ref f) args) (fun r s' => match r with
      | .ok (.ret u) => EP X pins σ Q u s'
      | .ok _ => False
      | .error e => X.xe e s') s := by
  refine codeAny_mono (G.run X.A X.stack s H args us vs Q _ hr hgu I.env0 hb rv h) fun res s2 hq => ?_
  cases res with
  | error u => exact tk u s2 (XE.of_call I (fun _ _ _ z => z) hq)
  | ok fl =>
    cases fl with
    | ret u => exact I.after hq
    | next => exact hq
    | brk => exact hq
    | cont => exact hq
theorem pe_callG (G : FnG X.prog X.w X.K X.mg X.base k f fd ps F) (hr : Room k X.A) (hgu : X.A.guards = some []) (hg : Gl X x) (hm : X.mg x = some (.ref f)) (hk : PySem.W.keepIn X.K (.ref f) = true) (hb : Binds X.K fd ps []) (tk : Takes X Wx)
    (ha : PA X (e :: es) t) (hdb : (x == ("__debug__" : Str)) = false) (he : starEach (e :: es) X.env = (false, eval e X.env) :: starEach es X.env) (hpl : (backTo pos (starEach es X.env)).any (·.1) = false) :
    PE X (.Call (.Name x p) (e :: es) [] pos) (tCallG Wx (spG X.K X.mg ps.length F) t) := by
  refine ⟨fun pins s σ H Q I h => wpAny_Call_Name_kw (ld_glob I hg hm ?_ hdb)⟩
  refine PySem.W.callWith_K (h₀ := X.base) I.ok.mod.kin hk (thn (ha.run pos pins s σ H _ I h) fun us s1 ⟨vs, H1, I1, rv, q⟩ => ⟨I1.kIn, ?_⟩) he hpl
  have hl : (us ++ []).length = ps.length := by rw [List.append_nil, ← rv.length]; exact q.1
  have hb' := hb s1 us I1.kIn hl
  rw [List.append_nil] at hb'
  exact wpAny_call (codeAny_mono (run_fnG G hr hgu hb' tk I1 rv q) fun res s2 hq => by
    cases res with
    | error u => exact hq
    | ok fl => cases fl <;> exact hq)
theorem pe_callG0 (G : FnG X.prog X.w X.K X.mg X.base k f fd ps F) (hr : Room k X.A) (hgu : X.A.guards = some []) (hg : Gl X x) (hm : X.mg x = some (.ref f)) (hk : PySem.W.keepIn X.K (.ref f) = true) (hb : Binds X.K fd ps []) (tk : Takes X Wx)
    (hdb : (x == ("__debug__" : Str)) = false) : PE X (.Call (.Name x p) [] [] pos) (tCallG Wx (spG X.K X.mg ps.length F) tNil) := by
  refine ⟨fun pins s σ H Q I h => wpAny_Call_Name_kw (ld_glob I hg hm ?_ hdb)⟩
  have hb' := hb s [] I.kIn (by have z := h.1; simp only [List.length_nil] at z; simpa using z)
  exact PySem.W.callWith_K0 I.kIn hk (wpAny_call (codeAny_mono (run_fnG G hr hgu hb' tk I .nil h) fun res s2 hq => by
    cases res with
    | error u => exact hq
    | ok fl => cases fl <;> exact hq))
/-- the reading of a call -/
theorem Post.call {vs : List V} {B H : Hp} {σ : L2.St} {r : Rho} {fa : M (List W)} {Q : VK} (R : Rl X.K vs B σ H r) (qa : ∀ vs B σ H r Q, Rl X.K vs B σ H r → Post X vs Wx B H σ r (fa r) (fA X vs σ H) Q → t σ H Q)
    (hn : ∀ ws r r', fa r = .ok ws r' → ws.length = ps.length) (h : Post X vs Wx B H σ r (cCall F fa r) (fW X vs σ H) Q) : tCallG Wx (spG X.K X.mg ps.length F) t σ H Q := by
  cases efa : fa r with
  | fail => unfold cCall M.bind at h; rw [efa] at h; exact h.elim
  | exc y r1 =>
    unfold cCall M.bind at h; rw [efa] at h
    exact qa vs B σ H r _ R (by rw [efa]; exact h)
  | ok ws r1 =>
    unfold cCall M.bind at h; rw [efa] at h
    refine qa vs B σ H r _ R ?_
    rw [efa]
    intro xs B1 H1 s1 R1 q1
    have hw := hn _ _ _ efa
    have hxl : xs.length = ps.length := (RpWs.length q1).trans hw
    cases ea : argsOf r1 ws with
    | none => simp only [ea] at h; exact h.elim
    | some as =>
      simp only [ea] at h
      by_cases hap : apart r1 ws = true
      · rw [if_pos hap] at h
        refine ⟨hxl, B1, as, (argsOf_get ea).1.trans hw, call_in R1 q1 ea hap, ?_⟩
        cases eF : F as with
        | fail => simp only [eF] at h; exact h.elim
        | exc y bs =>
          simp only [eF] at h
          intro cl dd B2 H2 s2 R2 q2
          obtain ⟨R3, s3⟩ := call_out R1 s1 q1 ea s2 R2
          exact h cl dd B2 H2 s3 R3 q2
        | ok b bs =>
          simp only [eF] at h
          intro v B2 H2 s2 R2 q2
          obtain ⟨R3, s3⟩ := call_out R1 s1 q1 ea s2 R2
          refine h v B2 H2 s3 R3 ?_
          cases b with
          | dt d => exact q2
          | own c =>
            obtain ⟨a, rfl, g1, g2, g3, g4⟩ := q2
            refine ⟨a, rfl, s1.dom _ g1, g2, g3, fun ⟨z, c', m1, m2⟩ => ?_⟩
            obtain ⟨c0, m0, _⟩ := after_own m1
            obtain ⟨a', n1, _, n3⟩ := R1.own z c0 m0
            rw [m2] at n1; cases n1
            obtain ⟨o, ho⟩ := n3.some
            rw [g1] at ho; cases ho
      · rw [if_neg hap] at h
        exact h.elim
end
end Lc

set_option Elab.async false
set_option maxRecDepth 100000
set_option maxHeartbeats 4000000
/-! Part J: operations on data. -/
namespace Lc
open PySem L2 PySem.Spec PyProof.Rows
def bD (b : Bool) : Option Bo := some (.dt (.bl b))
def iD (i : Int) : Option Bo := some (.dt (.int i))
def sD (x : Str) : Option Bo := some (.dt (.str x))
section
variable {X : Cx} {B H : Hp} {v : V}
theorem rv_int {i : Int} (h : RpV X.K B H v (.int i)) : v = .int i := by cases h; rfl
theorem rv_str {i : Str} (h : RpV X.K B H v (.str i)) : v = .str i := by cases h; rfl
theorem rv_bl {i : Bool} (h : RpV X.K B H v (.bl i)) : v = .bl i := by cases h; rfl
theorem rv_non (h : RpV X.K B H v .non) : v = .non := by cases h; rfl
theorem rv_ty {n : String} (h : RpV X.K B H v (.ty n)) : v = .ty n := by cases h; rfl
theorem rv_tup {ds : List D} (h : RpV X.K B H v (.tup ds)) : ∃ a xs, v = .ref a ∧ TpA X.K B a xs ∧ RpAll X.K B xs ds := by
  cases h with
  | tup h1 h2 => exact ⟨_, _, rfl, h1, h2⟩
theorem rv_scr {ds : List Int} (h : RpV X.K B H v (.scr ds)) : ∃ a, v = .ref a ∧ SqL X.K B a (ds.map V.int) := by
  cases h with
  | scr h1 => exact ⟨_, rfl, h1⟩
/-- an operation on two ints -/
theorem ops_int {f : Value → Value → Sem Value} {C : Int → Int → Prop} {g : Int → Int → V} {G : Int → Int → D} {gg : D → D → Option Bo} (h : OpR X f (rI C g))
    (hg : ∀ da db b, gg da db = some b → ∃ i j, da = .int i ∧ db = .int j ∧ C i j ∧ b = .dt (G i j)) (hG : ∀ i j B, Rp X.K B (g i j) (G i j)) : OpS X f gg := by
  refine ⟨_, h, fun x y da db b e B H Q s vx vy k => ?_⟩
  obtain ⟨i, j, rfl, rfl, c, rfl⟩ := hg da db b e
  exact ⟨i, j, rv_int vx, rv_int vy, c, k _ B H .refl s (hG i j B)⟩
theorem ops_int0 {f : Value → Value → Sem Value} {g : Int → Int → V} {G : Int → Int → D} {gg : D → D → Option Bo} (h : OpR X f (rI0 g))
    (hg : ∀ da db b, gg da db = some b → ∃ i j, da = .int i ∧ db = .int j ∧ b = .dt (G i j)) (hG : ∀ i j B, Rp X.K B (g i j) (G i j)) : OpS X f gg := by
  refine ⟨_, h, fun x y da db b e B H Q s vx vy k => ?_⟩
  obtain ⟨i, j, rfl, rfl, rfl⟩ := hg da db b e
  exact ⟨i, j, rv_int vx, rv_int vy, k _ B H .refl s (hG i j B)⟩

/-! ### arithmetic -/
def gAdd : D → D → Option Bo
  | .int i, .int j => iD (i + j)
  | .str x, .str y => if x.length + y.length ≤ sizeLine then sD (x ++ y) else none
  | .lst xs, .lst ys => if xs.length + ys.length ≤ sizeLine then some (.own (.lst (xs ++ ys))) else none
  | _, _ => none
theorem ops_add : OpS X (binaryOp .Add) gAdd := by
  refine ⟨_, op_add.or (op_add_str.or op_cat), fun x y da db b e B H Q s vx vy k => ?_⟩
  unfold gAdd at e
  split at e
  · cases e
    exact .inl ⟨_, _, rv_int vx, rv_int vy, k _ B H .refl s (Rp.int _)⟩
  · split at e
    · cases e
      exact .inr (.inl ⟨_, _, rv_str vx, rv_str vy, by assumption, k _ B H .refl s (Rp.str _)⟩)
    · cases e
  · split at e
    · cases e
      obtain ⟨l, xs, rfl, h1, h2⟩ := vx
      obtain ⟨l2, ys, rfl, h3, h4⟩ := vy
      refine .inr (.inr ⟨l, l2, xs, ys, rfl, rfl, h1, h3, by rw [h2.length, h4.length]; assumption, fun p np => ?_⟩)
      exact k _ B _ (.plain np) (s.trans (same_upd np)) ⟨p, rfl, np, none_of_sub s np, ⟨_, upd_same, h2.append h4⟩⟩
    · cases e
  · cases e
def gSub : D → D → Option Bo
  | .int i, .int j => iD (i - j)
  | _, _ => none
theorem ops_sub : OpS X (binaryOp .Sub) gSub := ops_int0 (G := fun i j => .int (i - j)) op_sub (fun da db b e => by unfold gSub at e; split at e; cases e; exact ⟨_, _, rfl, rfl, rfl⟩; cases e) fun _ _ _ => .int _
def gMul : D → D → Option Bo
  | .int i, .int j => if (-(2 ^ 64) < i ∧ i < 2 ^ 64) ∨ (-(2 ^ 64) < j ∧ j < 2 ^ 64) then iD (i * j) else none
  | _, _ => none
theorem ops_mul : OpS X (binaryOp .Mult) gMul := ops_int (G := fun i j => .int (i * j)) op_mul (fun da db b e => by
  unfold gMul at e
  split at e
  · split at e
    · cases e; exact ⟨_, _, rfl, rfl, by assumption, rfl⟩
    · cases e
  · cases e) fun _ _ _ => .int _
def gMod : D → D → Option Bo
  | .int i, .int j => if 0 < j then iD (i % j) else none
  | _, _ => none
theorem ops_mod : OpS X (binaryOp .Mod) gMod := ops_int (G := fun i j => .int (i % j)) op_mod (fun da db b e => by
  unfold gMod at e
  split at e
  · split at e
    · cases e; exact ⟨_, _, rfl, rfl, by assumption, rfl⟩
    · cases e
  · cases e) fun _ _ _ => .int _
def gFdiv : D → D → Option Bo
  | .int i, .int j => if 0 < j ∧ j < 1073741824 then iD (i / j) else none
  | _, _ => none
theorem ops_fdiv : OpS X (binaryOp .FloorDiv) gFdiv := ops_int (G := fun i j => .int (i / j)) op_fdiv (fun da db b e => by
  unfold gFdiv at e
  split at e
  · split at e
    · cases e; exact ⟨_, _, rfl, rfl, by assumption, rfl⟩
    · cases e
  · cases e) fun _ _ _ => .int _
def gPow : D → D → Option Bo
  | .int i, .int j => if 0 ≤ j ∧ j ≤ 1000000 ∧ i.natAbs < 2 ^ 64 then iD (i ^ j.toNat) else none
  | _, _ => none
theorem ops_pow : OpS X (binaryOp .Pow) gPow := ops_int (G := fun i j => .int (i ^ j.toNat)) op_pow (fun da db b e => by
  unfold gPow at e
  split at e
  · split at e
    · cases e; exact ⟨_, _, rfl, rfl, by assumption, rfl⟩
    · cases e
  · cases e) fun _ _ _ => .int _
def gNeg : D → Option Bo
  | .int i => iD (-i)
  | _ => none
theorem uns_neg : UnS X (unaryOp .USub) gNeg := by
  refine ⟨_, un_neg, fun x da b e B H Q s vx k => ?_⟩
  unfold gNeg at e
  split at e
  · cases e
    exact ⟨_, rv_int vx, k _ B H .refl s (Rp.int _)⟩
  · cases e

/-! ### comparisons -/
def gLt : D → D → Option Bo
  | .int i, .int j => bD (decide (i < j))
  | _, _ => none
def gLe : D → D → Option Bo
  | .int i, .int j => bD (decide (i ≤ j))
  | _, _ => none
def gGt : D → D → Option Bo
  | .int i, .int j => bD (decide (j < i))
  | _, _ => none
def gGe : D → D → Option Bo
  | .int i, .int j => bD (decide (j ≤ i))
  | _, _ => none
theorem ops_lt : OpS X (compareOp .Lt) gLt := ops_int0 (G := fun i j => .bl (decide (i < j))) op_lt (fun da db b e => by unfold gLt at e; split at e; cases e; exact ⟨_, _, rfl, rfl, rfl⟩; cases e) fun _ _ _ => .bl _
theorem ops_le : OpS X (compareOp .LtE) gLe := ops_int0 (G := fun i j => .bl (decide (i ≤ j))) op_le (fun da db b e => by unfold gLe at e; split at e; cases e; exact ⟨_, _, rfl, rfl, rfl⟩; cases e) fun _ _ _ => .bl _
theorem ops_gt : OpS X (compareOp .Gt) gGt := ops_int0 (G := fun i j => .bl (decide (j < i))) op_gt (fun da db b e => by unfold gGt at e; split at e; cases e; exact ⟨_, _, rfl, rfl, rfl⟩; cases e) fun _ _ _ => .bl _
theorem ops_ge : OpS X (compareOp .GtE) gGe := ops_int0 (G := fun i j => .bl (decide (j ≤ i))) op_ge (fun da db b e => by unfold gGe at e; split at e; cases e; exact ⟨_, _, rfl, rfl, rfl⟩; cases e) fun _ _ _ => .bl _
def gIn : D → D → Option Bo
  | .str x, .str z => match x.cps.toList with
    | [c] => bD (decide (c ∈ z.cps.toList))
    | _ => none
  | _, _ => none
def gNotIn : D → D → Option Bo
  | .str x, .str z => match x.cps.toList with
    | [c] => bD (!decide (c ∈ z.cps.toList))
    | _ => none
  | _, _ => none
theorem one_sign {x : Str} {c : Nat} (h : x.cps.toList = [c]) : x = ⟨#[c]⟩ := by
  obtain ⟨⟨l⟩⟩ := x
  simp at h
  rw [h]
theorem ops_in : OpS X (compareOp .In) gIn := by
  refine ⟨_, op_in_sign, fun x y da db b e B H Q s vx vy k => ?_⟩
  unfold gIn at e
  split at e
  · split at e
    · rename_i hc
      cases e
      exact ⟨_, _, by rw [rv_str vx, one_sign hc], rv_str vy, k _ B H .refl s (Rp.bl _)⟩
    · cases e
  · cases e
theorem ops_notIn : OpS X (compareOp .NotIn) gNotIn := by
  refine ⟨_, op_notIn_sign, fun x y da db b e B H Q s vx vy k => ?_⟩
  unfold gNotIn at e
  split at e
  · split at e
    · rename_i hc
      cases e
      exact ⟨_, _, by rw [rv_str vx, one_sign hc], rv_str vy, k _ B H .refl s (Rp.bl _)⟩
    · cases e
  · cases e
def isNon : D → Bool
  | .non => true
  | _ => false
def gIs : D → D → Option Bo
  | d, .non => bD (isNon d)
  | _, _ => none
def gIsNot : D → D → Option Bo
  | d, .non => bD (!isNon d)
  | _, _ => none
theorem rv_isNon {d : D} (h : RpV X.K B H v d) : decide (v = .non) = isNon d := by
  cases d with
  | non => rw [rv_non h]; rfl
  | bl b => rw [rv_bl h]; rfl
  | int i => rw [rv_int h]; rfl
  | str x => rw [rv_str h]; rfl
  | ty n => rw [rv_ty h]; rfl
  | lst l => obtain ⟨a, _, rfl, _⟩ := h; rfl
  | dct l => obtain ⟨a, _, rfl, _⟩ := h; rfl
  | tup l => obtain ⟨a, _, rfl, _⟩ := rv_tup h; rfl
  | scr l => obtain ⟨a, rfl, _⟩ := rv_scr h; rfl
  | cls l => cases h; rfl
  | exc a l m => cases h; rfl
  | obj l m => cases h; rfl
  | err l m => cases h; rfl
theorem ops_is : OpS X (compareOp .Is) gIs := by
  refine ⟨_, op_isN, fun x y da db b e B H Q s vx vy k => ?_⟩
  unfold gIs at e
  split at e
  · cases e
    refine ⟨rv_non vy, ?_⟩
    rw [rv_isNon vx]
    exact k _ B H .refl s (Rp.bl _)
  · cases e
theorem ops_isNot : OpS X (compareOp .IsNot) gIsNot := by
  refine ⟨_, op_notN, fun x y da db b e B H Q s vx vy k => ?_⟩
  unfold gIsNot at e
  split at e
  · cases e
    refine ⟨rv_non vy, ?_⟩
    rw [rv_isNon vx]
    exact k _ B H .refl s (Rp.bl _)
  · cases e
end

/-! ### data as the library's own -/
mutual
def D.py : D → PyData
  | .non => .none
  | .bl b => .bool b
  | .int i => .int i
  | .str x => .str x
  | .lst l => .list (D.pys l)
  | .tup l => .tuple (D.pys l)
  | .dct l => .dict (D.pyk l)
  | .ty _ => .none
  | .scr l => .list (l.map PyData.int)
  | .cls _ => .none
  | .exc _ _ _ => .none
  | .obj _ _ => .none
  | .err _ _ => .none
def D.pys : List D → List PyData
  | [] => []
  | d :: ds => d.py :: D.pys ds
def D.pyk : List (D × D) → List (PyData × PyData)
  | [] => []
  | (k, v) :: r => (k.py, v.py) :: D.pyk r
end
mutual
/-- lists and tuples of flat things, at any depth -/
def D.flat : D → Bool
  | .lst l => D.flats l
  | .tup l => D.flats l
  | .dct _ => false
  | .ty _ => false
  | .scr _ => false
  | .cls _ => false
  | .exc _ _ _ => false
  | .obj _ _ => false
  | .err _ _ => false
  | _ => true
def D.flats : List D → Bool
  | [] => true
  | d :: ds => d.flat && D.flats ds
end
mutual
theorem Rp.dp {K : PySem.W.Frag} {B : Hp} : ∀ {v : V} {d : D}, Rp K B v d → d.flat = true → Dp K B v d.py
  | _, _, .non, _ => by rw [D.py]; exact .non
  | _, _, .bl b, _ => by rw [D.py]; exact .bl b
  | _, _, .int i, _ => by rw [D.py]; exact .int i
  | _, _, .str x, _ => by rw [D.py]; exact .str x
  | _, _, .ty n, h => by simp [D.flat] at h
  | _, _, .scr _, h => by simp [D.flat] at h
  | _, _, .cls _, h => by simp [D.flat] at h
  | _, _, .exc _ _, h => by simp [D.flat] at h
  | _, _, .obj _ _ _ _, h => by simp [D.flat] at h
  | _, _, .err _ _ _ _, h => by simp [D.flat] at h
  | _, _, .dct _ _, h => by simp [D.flat] at h
  | _, _, .lst h r, q => by rw [D.py]; exact .lst (.of h) (RpAll.dp r (by simpa [D.flat] using q))
  | _, _, .tup h r, q => by rw [D.py]; exact .tup (seqT_mono (Same.refl _) h) (RpAll.dp r (by simpa [D.flat] using q))
theorem RpAll.dp {K : PySem.W.Frag} {B : Hp} : ∀ {vs : List V} {ds : List D}, RpAll K B vs ds → D.flats ds = true → DpAll K B vs (D.pys ds)
  | _, _, .nil, _ => by rw [D.pys]; exact .nil
  | _, _, .cons h r, q => by
    simp only [D.flats, Bool.and_eq_true] at q
    rw [D.pys]
    exact .cons (h.dp q.1) (RpAll.dp r q.2)
end
/-- what the library's deep comparison takes -/
def D.deepOk (a : D) : Bool := a.flat && SeqAt.shaped a.py
def D.eq : D → D → Option Bool
  | .str x, .str y => some (x == y)
  | .int i, .int j => some (i == j)
  | a, b => if a.deepOk = true ∧ b.deepOk = true then some (a.py.eqv b.py) else none
def gEq (a b : D) : Option Bo := (a.eq b).bind bD
def gNe (a b : D) : Option Bo := (a.eq b).bind fun k => bD (!k)
section
variable {X : Cx} {B H : Hp} {v : V}
theorem eq_rule {x y : V} {da db : D} {k : Bool} (e : da.eq db = some k) (s : Same B H) (vx : RpV X.K B H x da) (vy : RpV X.K B H y db) :
    (scal x y = true ∧ decide (x = y) = k) ∨ ∃ d e, Dp X.K H x d ∧ Dp X.K H y e ∧ SeqAt.shaped d = true ∧ SeqAt.shaped e = true ∧ PyData.eqv d e = k := by
  unfold D.eq at e
  split at e
  · cases e
    rw [rv_str vx, rv_str vy]
    exact .inl ⟨rfl, dec_str⟩
  · cases e
    rw [rv_int vx, rv_int vy]
    exact .inl ⟨rfl, dec_int⟩
  · split at e
    · rename_i h
      cases e
      simp only [D.deepOk, Bool.and_eq_true] at h
      exact .inr ⟨_, _, (vx.whole s).dp h.1.1, (vy.whole s).dp h.2.1, h.1.2, h.2.2, rfl⟩
    · cases e
theorem ops_eq (hu : X.A.units + 64 < cLine) : OpS X (compareOp .Eq) gEq := by
  refine ⟨_, op_eq.or (op_eqD hu), fun x y da db b e B H Q s vx vy k => ?_⟩
  unfold gEq at e
  cases q : da.eq db with
  | none => rw [q] at e; cases e
  | some c =>
    rw [q] at e; cases e
    rcases eq_rule q s vx vy with ⟨h1, h2⟩ | ⟨d, e, h1, h2, h3, h4, h5⟩
    · exact .inl ⟨h1, by rw [h2]; exact k _ B H .refl s (Rp.bl _)⟩
    · exact .inr ⟨d, e, h1, h2, h3, h4, by rw [h5]; exact k _ B H .refl s (Rp.bl _)⟩
theorem ops_ne (hu : X.A.units + 64 < cLine) : OpS X (compareOp .NotEq) gNe := by
  refine ⟨_, op_ne.or (op_neD hu), fun x y da db b e B H Q s vx vy k => ?_⟩
  unfold gNe at e
  cases q : da.eq db with
  | none => rw [q] at e; cases e
  | some c =>
    rw [q] at e; cases e
    rcases eq_rule q s vx vy with ⟨h1, h2⟩ | ⟨d, e, h1, h2, h3, h4, h5⟩
    · exact .inl ⟨h1, by rw [h2]; exact k _ B H .refl s (Rp.bl _)⟩
    · exact .inr ⟨d, e, h1, h2, h3, h4, by rw [h5]; exact k _ B H .refl s (Rp.bl _)⟩

/-! ### subscripts and slices -/
def gIx1 : D → D → Option Bo
  | .lst l, .int i => (atI l i).map .dt
  | .tup l, .int i => (atI l i).map .dt
  | .str x, .int i => if x.length ≤ sizeLine then (atI x.cps.toList i).map fun c => .dt (.str ⟨#[c]⟩) else none
  | .scr l, .int i => (atI l i).map fun n => .dt (.int n)
  | _, _ => none
theorem atI_all {K : PySem.W.Frag} {xs : List V} {ds : List D} {i : Int} {d : D} (h : RpAll K B xs ds) (e : atI ds i = some d) : ∃ v, atI xs i = some v ∧ Rp K B v d := by
  unfold atI at e ⊢
  rw [h.length]
  cases q : ixN ds.length i with
  | none => rw [q] at e; cases e
  | some j =>
    rw [q] at e
    exact h.get e
theorem ix_rule : ∀ (x y : V) (da db : D) (b : Bo), gIx1 da db = some b → ∀ (B H : Hp) (Q : VK), Same B H → RpV X.K B H x da → RpV X.K B H y db → (∀ v B' H', Ext B H B' H' → Same B' H' → RpB X.K H B' H' v b → Q v H') → rIx X.K x y H Q := by
  intro x y da db b e B H Q s vx vy k
  unfold gIx1 at e
  split at e
  · rename_i l i
    cases q : atI l i with
    | none => rw [q] at e; cases e
    | some d =>
      rw [q] at e; cases e
      obtain ⟨a, xs, rfl, h1, h2⟩ := vx
      obtain ⟨v, p1, p2⟩ := atI_all h2 q
      exact .inl ⟨a, xs, i, v, rfl, rv_int vy, .of h1, p1, k v B H .refl s p2⟩
  · rename_i l i
    cases q : atI l i with
    | none => rw [q] at e; cases e
    | some d =>
      rw [q] at e; cases e
      obtain ⟨a, xs, rfl, h1, h2⟩ := rv_tup vx
      obtain ⟨v, p1, p2⟩ := atI_all h2 q
      exact .inr (.inl ⟨a, xs, i, v, rfl, rv_int vy, seqT_mono s h1, p1, k v B H .refl s p2⟩)
  · rename_i z i
    split at e
    · rename_i hz
      cases q : atI z.cps.toList i with
      | none => rw [q] at e; cases e
      | some c =>
        rw [q] at e; cases e
        exact .inr (.inr ⟨z, i, c, rv_str vx, rv_int vy, hz, q, k _ B H .refl s (Rp.str _)⟩)
    · cases e
  · rename_i l i
    cases q : atI l i with
    | none => rw [q] at e; cases e
    | some n =>
      rw [q] at e; cases e
      obtain ⟨a, rfl, h1⟩ := rv_scr vx
      have q' : atI (l.map V.int) i = some (.int n) := by
        unfold atI at q ⊢
        rw [List.length_map]
        cases q2 : ixN l.length i with
        | none => rw [q2] at q; cases q
        | some j =>
          rw [q2] at q
          have q3 : l[j]? = some n := q
          show (l.map V.int)[j]? = _
          rw [List.getElem?_map, q3]
          rfl
      exact .inl ⟨a, _, i, _, rfl, rv_int vy, s.seq h1, q', k _ B H .refl s (Rp.int _)⟩
  · cases e
def cutD (l : List D) (lo hi : Option Int) : List D := (l.drop (HT.sIx l.length 0 lo)).take (HT.sIx l.length l.length hi - HT.sIx l.length 0 lo)
def gSl : D → Option Int → Option Int → Option Bo
  | .str x, lo, hi => if x.length ≤ sizeLine then sD (cutS x lo hi) else none
  | .lst l, lo, hi => some (.own (.lst (cutD l lo hi)))
  | _, _, _ => none
theorem sls : SlS X gSl := by
  refine ⟨_, sl_str.or sl_list, fun x d lo hi b e B H Q s vx k => ?_⟩
  unfold gSl at e
  split at e
  · split at e
    · cases e
      exact .inl ⟨_, rv_str vx, by assumption, k _ B H .refl s (Rp.str _)⟩
    · cases e
  · cases e
    obtain ⟨a, xs, rfl, h1, h2⟩ := vx
    refine .inr ⟨a, xs, rfl, .of h1, fun p np => ?_⟩
    refine k _ B _ (.plain np) (s.trans (same_upd np)) ⟨p, rfl, np, none_of_sub s np, ⟨_, upd_same, ?_⟩⟩
    unfold cutV cutD
    rw [h2.length]
    exact (h2.drop _).take _
  · cases e
end
end Lc

set_option Elab.async false
set_option maxRecDepth 100000
set_option maxHeartbeats 4000000
/-! Part K: built-in calls on data. -/
namespace Lc
open PySem L2 PySem.Spec PyProof.Rows
section
variable {X : Cx} {B H : Hp} {v : V}
theorem rvs_one {xs : List V} {d : D} (h : RpVs X.K B H xs [d]) : ∃ x, xs = [x] ∧ RpV X.K B H x d := by
  cases h with
  | cons a b => cases b; exact ⟨_, rfl, a⟩
theorem rvs_two {xs : List V} {d e : D} (h : RpVs X.K B H xs [d, e]) : ∃ x y, xs = [x, y] ∧ RpV X.K B H x d ∧ RpV X.K B H y e := by
  cases h with
  | cons a b =>
    cases b with
    | cons c d => cases d; exact ⟨_, _, rfl, a, c⟩

/-! ### isinstance -/
def tyD : D → Option String
  | .non => some "NoneType"
  | .bl _ => some "bool"
  | .int _ => some "int"
  | .str _ => some "str"
  | .lst _ => some "list"
  | .tup _ => some "tuple"
  | .dct _ => some "dict"
  | .scr _ => some "list"
  | .ty _ => none
  | .cls _ => none
  | .exc _ _ _ => none
  | .obj _ _ => none
  | .err _ _ => none
theorem ty_of {K : PySem.W.Frag} {d : D} {t : String} (h : RpV K B H v d) (s : Same B H) (e : tyD d = some t) : TyX K H v (.type t) := by
  cases d with
  | non => cases h; cases e; exact .base .non
  | bl b => cases h; cases e; exact .base (.bl _)
  | int i => cases h; cases e; exact .base (.int _)
  | str x => cases h; cases e; exact .base (.str _)
  | lst l => obtain ⟨a, xs, rfl, h1, _⟩ := h; cases e; exact .base (.lst h1)
  | dct l => obtain ⟨a, xs, rfl, h1, _⟩ := h; cases e; exact .base (.dK h1)
  | ty n => cases e
  | cls n => cases e
  | exc a n m => cases e
  | obj n m => cases e
  | err n m => cases e
  | tup l =>
    cases e
    cases h with
    | tup h1 h2 =>
      rcases h1 with h1 | ⟨o, its, n, k1, k2, _⟩
      · exact .base (.tup (s _ _ h1))
      · exact .kTuple k1 k2
  | scr l =>
    cases e
    cases h with
    | scr h1 =>
      rcases h1 with (h1 | ⟨o, h1⟩) | ⟨o, its, n, k1, k2, _⟩
      · exact .base (.lst (s _ _ h1))
      · exact .base (.frz (s _ _ h1))
      · exact .kList k1 k2
def tysOf : List D → Option (List String)
  | [] => some []
  | .ty n :: cs => (tysOf cs).map (n :: ·)
  | _ => none
def isiAny (t : String) : List String → Option Bool
  | [] => some false
  | n :: cs => match kitB t n with
    | some true => some true
    | some false => isiAny t cs
    | none => none
def gIsi : List D → Option Bo
  | [d, .ty n] => match tyD d with
    | some t => (kitB t n).bind bD
    | none => none
  | [d, .tup cs] => match tyD d, tysOf cs with
    | some t, some ns => (isiAny t ns).bind bD
    | _, _ => none
  | _ => none
theorem tysOf_ok {K : PySem.W.Frag} : ∀ {cs : List D} {xs : List V} {ns : List String}, RpAll K B xs cs → tysOf cs = some ns → xs = ns.map V.ty
  | [], xs, ns, h, e => by cases h; cases e; rfl
  | c :: cs, xs, ns, h, e => by
    cases h with
    | cons h1 h2 =>
      cases c with
      | ty n =>
        cases h1
        simp only [tysOf] at e
        cases q : tysOf cs with
        | none => rw [q] at e; cases e
        | some ms => rw [q] at e; cases e; rw [tysOf_ok h2 q]; rfl
      | _ => simp [tysOf] at e
theorem cls_tys : ∀ ns : List String, Paired ClsV (ns.map V.ty) (ns.map Value.type)
  | [] => .nil
  | n :: ns => .cons (.ty n) (cls_tys ns)
theorem isiAny_ok {K : PySem.W.Frag} {t : String} : ∀ {ns : List String} {b : Bool}, isiAny t ns = some b → PySem.W.kitAny K (.type t) (ns.map Value.type) = some b
  | [], b, e => by cases e; exact kitAny_nil
  | n :: ns, b, e => by
    unfold isiAny at e
    cases q : kitB t n with
    | none => simp only [q] at e; cases e
    | some k =>
      cases k with
      | true => simp only [q] at e; cases e; exact kitAny_cons (kit_ty q) (fun z => by cases z) (fun _ => rfl)
      | false => simp only [q] at e; exact kitAny_cons (kit_ty q) (fun _ => isiAny_ok e) (fun z => by cases z)
def rIsiA (K : PySem.W.Frag) : List V → Hp → VK → Prop := fun xs H Q => rIsi K xs H Q ∨ rIsiT K xs H Q ∨ rIsiK K xs H Q
theorem call_isiA : CallR X (.builtin "isinstance") (rIsiA X.K) := call_isi.or (call_isiT.or call_isiK)
theorem vals_tys : ∀ {ns : List String} {us : List Value}, Vals (ns.map V.ty) us → us = ns.map Value.type
  | [], _, h => by cases h; rfl
  | n :: ns, _, h => by
    cases h with
    | cons a b =>
      have e : _ = Value.type n := a
      rw [e, vals_tys b]
      rfl
theorem cs_isi : CallS X (rIsiA X.K) gIsi := by
  intro xs ds b e B H Q s vs k
  unfold gIsi at e
  split at e
  · rename_i d n
    split at e
    · rename_i t ht
      cases q : kitB t n with
      | none => rw [q] at e; cases e
      | some c =>
        rw [q] at e; cases e
        obtain ⟨x, y, rfl, hx, hy⟩ := rvs_two vs
        rw [rv_ty hy]
        exact .inl ⟨x, _, _, _, c, rfl, .ty n, ty_of hx s ht, kit_ty q, k _ B H .refl s (Rp.bl _)⟩
    · cases e
  · rename_i d cs
    split at e
    · rename_i t ns ht hn
      cases q : isiAny t ns with
      | none => rw [q] at e; cases e
      | some c =>
        rw [q] at e; cases e
        obtain ⟨x, y, rfl, hx, hy⟩ := rvs_two vs
        obtain ⟨a, ys, rfl, h1, h2⟩ := rv_tup hy
        have e2 := tysOf_ok h2 hn
        subst e2
        rcases h1 with h1 | ⟨o, its, n, k1, k2, k3, k4, k5⟩
        · exact .inr (.inl ⟨x, a, _, _, _, c, rfl, s _ _ h1, cls_tys ns, ty_of hx s ht, isiAny_ok q, k _ B H .refl s (Rp.bl _)⟩)
        · obtain ⟨oc, od, dt, sl⟩ := o
          simp only at k2 k3
          subst k2 k3
          have e3 := vals_tys k5
          refine .inr (.inr ⟨x, a, od, ns.map Value.type, n, sl, _, c, rfl, ?_, ty_of hx s ht, isiAny_ok q, k _ B H .refl s (Rp.bl _)⟩)
          rw [k1, ← e3]
    · cases e
  · cases e

/-! ### len, abs, max, min, all, any, divmod, list(text) -/
def gLen : List D → Option Bo
  | [.str x] => if x.length ≤ sizeLine then iD x.length else none
  | [.lst l] => iD l.length
  | [.tup l] => iD l.length
  | [.scr l] => iD l.length
  | _ => none
theorem cs_len : CallS X (fun xs H Q => ∃ x n, xs = [x] ∧ LenV X.K x H n ∧ Q (.int n) H) gLen := by
  intro xs ds b e B H Q s vs k
  unfold gLen at e
  split at e
  · split at e
    · cases e
      obtain ⟨x, rfl, hx⟩ := rvs_one vs
      rw [rv_str hx]
      exact ⟨_, _, rfl, ⟨by assumption, rfl⟩, k _ B H .refl s (Rp.int _)⟩
    · cases e
  · cases e
    obtain ⟨x, rfl, a, xs, rfl, h1, h2⟩ := rvs_one vs
    exact ⟨_, _, rfl, .inl ⟨xs, .of h1, rfl⟩, by rw [h2.length]; exact k _ B H .refl s (Rp.int _)⟩
  · cases e
    obtain ⟨x, rfl, hx⟩ := rvs_one vs
    obtain ⟨a, xs, rfl, h1, h2⟩ := rv_tup hx
    exact ⟨_, _, rfl, .inr ⟨xs, seqT_mono s h1, rfl⟩, by rw [h2.length]; exact k _ B H .refl s (Rp.int _)⟩
  · cases e
    obtain ⟨x, rfl, hx⟩ := rvs_one vs
    obtain ⟨a, rfl, h1⟩ := rv_scr hx
    exact ⟨_, _, rfl, .inl ⟨_, s.seq h1, rfl⟩, by rw [List.length_map]; exact k _ B H .refl s (Rp.int _)⟩
  · cases e
def gAbs : List D → Option Bo
  | [.int i] => iD (if i < 0 then -i else i)
  | _ => none
theorem cs_abs : CallS X (fun xs H Q => ∃ i, xs = [.int i] ∧ Q (.int (if i < 0 then -i else i)) H) gAbs := by
  intro xs ds b e B H Q s vs k
  unfold gAbs at e
  split at e
  · cases e
    obtain ⟨x, rfl, hx⟩ := rvs_one vs
    exact ⟨_, by rw [rv_int hx], k _ B H .refl s (Rp.int _)⟩
  · cases e
def gMax : List D → Option Bo
  | [.int i, .int j] => iD (if j > i then j else i)
  | _ => none
def gMin : List D → Option Bo
  | [.int i, .int j] => iD (if j < i then j else i)
  | _ => none
theorem cs_max : CallS X (fun xs H Q => ∃ i j, xs = [.int i, .int j] ∧ Q (.int (if j > i then j else i)) H) gMax := by
  intro xs ds b e B H Q s vs k
  unfold gMax at e
  split at e
  · cases e
    obtain ⟨x, y, rfl, hx, hy⟩ := rvs_two vs
    exact ⟨_, _, by rw [rv_int hx, rv_int hy], k _ B H .refl s (Rp.int _)⟩
  · cases e
theorem cs_min : CallS X (fun xs H Q => ∃ i j, xs = [.int i, .int j] ∧ Q (.int (if j < i then j else i)) H) gMin := by
  intro xs ds b e B H Q s vs k
  unfold gMin at e
  split at e
  · cases e
    obtain ⟨x, y, rfl, hx, hy⟩ := rvs_two vs
    exact ⟨_, _, by rw [rv_int hx, rv_int hy], k _ B H .refl s (Rp.int _)⟩
  · cases e
def blsOf : List D → Option (List Bool)
  | [] => some []
  | .bl b :: l => (blsOf l).map (b :: ·)
  | _ => none
theorem blsOf_ok : ∀ {l : List D} {bs : List Bool}, blsOf l = some bs → l = bs.map D.bl
  | [], bs, e => by cases e; rfl
  | d :: l, bs, e => by
    cases d with
    | bl b =>
      simp only [blsOf] at e
      cases q : blsOf l with
      | none => rw [q] at e; cases e
      | some cs => rw [q] at e; cases e; rw [blsOf_ok q]; rfl
    | _ => simp [blsOf] at e
def gAll : List D → Option Bo
  | [.lst l] => (blsOf l).bind fun bs => bD (bs.all id)
  | _ => none
def gAny : List D → Option Bo
  | [.lst l] => (blsOf l).bind fun bs => bD (bs.any id)
  | _ => none
theorem cs_all : CallS X (rAll X.K) gAll := by
  intro xs ds b e B H Q s vs k
  unfold gAll at e
  split at e
  · rename_i l
    cases q : blsOf l with
    | none => rw [q] at e; cases e
    | some bs =>
      rw [q] at e; cases e
      obtain ⟨x, rfl, a, xs, rfl, h1, h2⟩ := rvs_one vs
      rw [blsOf_ok q] at h2
      have := h2.bls
      subst this
      exact ⟨a, bs, rfl, .of h1, k _ B H .refl s (Rp.bl _)⟩
  · cases e
theorem cs_any : CallS X (rAny X.K) gAny := by
  intro xs ds b e B H Q s vs k
  unfold gAny at e
  split at e
  · rename_i l
    cases q : blsOf l with
    | none => rw [q] at e; cases e
    | some bs =>
      rw [q] at e; cases e
      obtain ⟨x, rfl, a, xs, rfl, h1, h2⟩ := rvs_one vs
      rw [blsOf_ok q] at h2
      have := h2.bls
      subst this
      exact ⟨a, bs, rfl, .of h1, k _ B H .refl s (Rp.bl _)⟩
  · cases e
def gDivmod : List D → Option Bo
  | [.int i, .int j] => if 0 < j ∧ Builtin.divisionGoesByPylong i j = false then some (.dt (.tup [.int (i / j), .int (i % j)])) else none
  | _ => none
theorem cs_divmod : CallS X (fun xs H Q => ∃ i j, xs = [.int i, .int j] ∧ CDivP i j ∧ ∀ p, H p = none → Q (.ref p) (upd H p (.tup [.int (i / j), .int (i % j)]))) gDivmod := by
  intro xs ds b e B H Q s vs k
  unfold gDivmod at e
  split at e
  · split at e
    · rename_i hc
      cases e
      obtain ⟨x, y, rfl, hx, hy⟩ := rvs_two vs
      refine ⟨_, _, by rw [rv_int hx, rv_int hy], hc, fun p np => ?_⟩
      exact k _ _ _ (.frozen s np) (same_both s) (Rp.tup (.inl upd_same) (.cons (.int _) (.cons (.int _) .nil)))
    · cases e
  · cases e
def rListS : List V → Hp → VK → Prop := fun xs H Q => ∃ z : Str, xs = [.str z] ∧ z.length ≤ sizeLine ∧ ∀ l, H l = none → Q (.ref l) (upd H l (.lst (z.cps.toList.map fun c => V.str ⟨#[c]⟩)))
theorem call_listS (hc : X.calm = true) : CallR X (.type "list") rListS := by
  intro pins s σ H xs us Q I r h
  obtain ⟨z, rfl, hz, q⟩ := h
  obtain ⟨u, rfl, t, rfl⟩ := vals1 r
  have hz' : z.cps.size ≤ sizeLine := hz
  refine call_list_str (I.ok.hd hc) z t (hn := hz') fun h' tk acc c hk hS hacc => ?_
  have hn : H s.heap.objs.size = none := I.hok.fresh (Nat.le_refl _)
  have rv : Vals (z.cps.toList.map fun c => V.str ⟨#[c]⟩) acc.toList := by
    refine vals_of_at (by simp [hacc.1]) fun j x u e1 e2 => ?_
    obtain ⟨c, tu, hc', rfl⟩ := hacc.2 j u (by simpa using e2)
    rw [List.getElem?_map] at e1
    have : z.cps.toList[j]? = some c := by simpa using hc'
    rw [this] at e1
    cases e1
    exact ⟨tu, rfl⟩
  refine ⟨.ref s.heap.objs.size, _, I.laid (t' := tk) (o := .lst (z.cps.toList.map fun c => V.str ⟨#[c]⟩)) hk (Nat.le_refl _) ?_, rfl, q _ hn⟩
  exact ⟨by simpa using hz', acc.toList, c, rv, by simpa using hS⟩
def gList : List D → Option Bo
  | [.str x] => if x.length ≤ sizeLine then some (.own (.lst (signs x))) else none
  | [.lst l] => some (.own (.lst l))
  | [.tup l] => some (.own (.lst l))
  | _ => none
def rListA (K : PySem.W.Frag) : List V → Hp → VK → Prop := fun xs H Q => rListS xs H Q ∨ ∃ p ys, xs = [.ref p] ∧ (SqL K H p ys ∨ SqT K H p ys) ∧ ∀ l, H l = none → Q (.ref l) (upd H l (.lst ys))
theorem call_listA (hc : X.calm = true) : CallR X (.type "list") (rListA X.K) := (call_listS hc).or call_list_of
theorem signs_rp {K : PySem.W.Frag} : ∀ l : List Nat, RpAll K B (l.map fun c => V.str ⟨#[c]⟩) (l.map fun c => D.str ⟨#[c]⟩)
  | [] => .nil
  | _ :: l => .cons (.str _) (signs_rp l)
theorem cs_list : CallS X (rListA X.K) gList := by
  intro xs ds b e B H Q s vs k
  unfold gList at e
  split at e
  · split at e
    · rename_i z hz
      cases e
      obtain ⟨x, rfl, hx⟩ := rvs_one vs
      refine .inl ⟨z, by rw [rv_str hx], hz, fun p np => ?_⟩
      exact k _ B _ (.plain np) (s.trans (same_upd np)) ⟨p, rfl, np, none_of_sub s np, ⟨_, upd_same, signs_rp _⟩⟩
    · cases e
  · cases e
    obtain ⟨x, rfl, a, xs, rfl, h1, h2⟩ := rvs_one vs
    refine .inr ⟨a, xs, rfl, .inl (.of h1), fun p np => ?_⟩
    exact k _ B _ (.plain np) (s.trans (same_upd np)) ⟨p, rfl, np, none_of_sub s np, ⟨_, upd_same, h2⟩⟩
  · cases e
    obtain ⟨x, rfl, hx⟩ := rvs_one vs
    obtain ⟨a, xs, rfl, h1, h2⟩ := rv_tup hx
    refine .inr ⟨a, xs, rfl, .inr (seqT_mono s h1), fun p np => ?_⟩
    exact k _ B _ (.plain np) (s.trans (same_upd np)) ⟨p, rfl, np, none_of_sub s np, ⟨_, upd_same, h2⟩⟩
  · cases e

/-! ### join -/
def strsOf : List D → Option (List Str)
  | [] => some []
  | .str b :: l => (strsOf l).map (b :: ·)
  | _ => none
theorem strsOf_ok : ∀ {l : List D} {bs : List Str}, strsOf l = some bs → l = bs.map D.str
  | [], bs, e => by cases e; rfl
  | d :: l, bs, e => by
    cases d with
    | str b =>
      simp only [strsOf] at e
      cases q : strsOf l with
      | none => rw [q] at e; cases e
      | some cs => rw [q] at e; cases e; rw [strsOf_ok q]; rfl
    | _ => simp [strsOf] at e
def gJoin (a : Str) : List D → Option Bo
  | [.lst l] => (strsOf l).bind fun ys => if (ys.map (·.length)).sum + ys.length * a.length ≤ 16777216 then sD (Txt.join a ys) else none
  | [.tup l] => (strsOf l).bind fun ys => if (ys.map (·.length)).sum + ys.length * a.length ≤ 16777216 then sD (Txt.join a ys) else none
  | _ => none
theorem ms_join : MtS X "str.join" gJoin := by
  refine ⟨_, mt_join, fun a xs ds b e B H Q s vs k => ?_⟩
  unfold gJoin at e
  split at e
  · rename_i l
    cases q : strsOf l with
    | none => rw [q] at e; cases e
    | some ys =>
      rw [q] at e
      have e' : (if (ys.map (·.length)).sum + ys.length * a.length ≤ 16777216 then sD (Txt.join a ys) else none) = some b := e
      split at e'
      · cases e'
        obtain ⟨x, rfl, p, xs, rfl, h1, h2⟩ := rvs_one vs
        rw [strsOf_ok q] at h2
        have := h2.strs
        subst this
        exact ⟨a, p, ys, rfl, rfl, .inl (.of h1), by assumption, k _ B H .refl s (Rp.str _)⟩
      · cases e'
  · rename_i l
    cases q : strsOf l with
    | none => rw [q] at e; cases e
    | some ys =>
      rw [q] at e
      have e' : (if (ys.map (·.length)).sum + ys.length * a.length ≤ 16777216 then sD (Txt.join a ys) else none) = some b := e
      split at e'
      · cases e'
        obtain ⟨x, rfl, hx⟩ := rvs_one vs
        obtain ⟨p, xs, rfl, h1, h2⟩ := rv_tup hx
        rw [strsOf_ok q] at h2
        have := h2.strs
        subst this
        exact ⟨a, p, ys, rfl, rfl, .inr (seqT_mono s h1), by assumption, k _ B H .refl s (Rp.str _)⟩
      · cases e'
  · cases e
end
end Lc

set_option Elab.async false
set_option maxRecDepth 100000
set_option maxHeartbeats 4000000
/-! Part L: repr of data. -/
namespace Lc
open PySem L2 PySem.Spec PyProof.Rows
mutual
/-- no type, no script inside -/
def D.shw : D → Bool
  | .lst l => D.shws l
  | .tup l => D.shws l
  | .dct l => D.shwk l
  | .ty _ => false
  | .scr _ => false
  | .cls _ => false
  | .exc _ _ _ => false
  | .obj _ _ => false
  | .err _ _ => false
  | _ => true
def D.shws : List D → Bool
  | [] => true
  | d :: ds => d.shw && D.shws ds
def D.shwk : List (D × D) → Bool
  | [] => true
  | (k, v) :: ds => k.shw && v.shw && D.shwk ds
end
theorem keyIs_key {k : Key} {d : D} {u : Value} {h : Heap} (hk : KeyD k d) (h1 : keyIs k u = true) : Reads h u d.py [] := by
  rcases keyIs_shape h1 with ⟨i, t, rfl, rfl⟩ | ⟨x, t, rfl, rfl⟩
  · cases d <;> simp only [KeyD] at hk
    subst hk
    rw [D.py]
    exact .int _ _
  · cases d <;> simp only [KeyD] at hk
    subst hk
    rw [D.py]
    exact .str _ _
section
variable {P : Program} {w : World} {K : PySem.W.Frag} {B : Hp} {h : Heap}
theorem pyk_1 : ∀ l : List (D × D), (D.pyk l).map (·.1) = D.pys (l.map (·.1))
  | [] => by rw [D.pyk]; rfl
  | (k, v) :: r => by rw [D.pyk, List.map_cons, List.map_cons, D.pys, pyk_1 r]
theorem pyk_2 : ∀ l : List (D × D), (D.pyk l).map (·.2) = D.pys (l.map (·.2))
  | [] => by rw [D.pyk]; rfl
  | (k, v) :: r => by rw [D.pyk, List.map_cons, List.map_cons, D.pys, pyk_2 r]
theorem keys_read : ∀ (ds : List (D × D)) {es : List DictEntry} {ks : List (Key × V)} {vs : List (Key × Value)}, Pairs (mixKind P w) es vs → KV ks vs → RpKv K B ks ds → ReadsAll h (es.map (·.key)) ((D.pyk ds).map (·.1)) []
  | [], _, _, _, p, r, x => by
    cases x; cases r; cases p
    rw [D.pyk]
    exact .nil
  | (d, e) :: ds, _, _, _, p, r, x => by
    cases x with
    | cons k1 v1 kr =>
      cases r with
      | cons r1 r2 =>
        cases p with
        | cons p1 p2 p3 =>
          rw [D.pyk]
          have e1 := r1.1
          refine .cons (as := []) (bs := []) (keyIs_key k1 ?_) (keys_read ds p3 r2 kr)
          simp only at e1
          rw [e1]
          exact p1
mutual
theorem Rp.reads (hok : HOk P w B h) (KX : K.In h) (hsy : ∀ a o, B a = some o → a ≠ sysModules) : ∀ (d : D) (v : V) (u : Value), Rp K B v d → RelV v u → d.shw = true → ∃ as, Reads h u d.py as ∧ sysModules ∉ as
  | .non, _, _, x, r, _ => by
    cases x; cases r
    rw [D.py]
    exact ⟨_, .none, by simp⟩
  | .bl b, _, _, x, r, _ => by
    cases x; cases r
    rw [D.py]
    exact ⟨_, .bool b, by simp⟩
  | .int i, _, _, x, r, _ => by
    cases x
    obtain ⟨t, rfl⟩ := r
    rw [D.py]
    exact ⟨_, .int i t, by simp⟩
  | .str i, _, _, x, r, _ => by
    cases x
    obtain ⟨t, rfl⟩ := r
    rw [D.py]
    exact ⟨_, .str i t, by simp⟩
  | .ty n, _, _, _, _, q => by simp [D.shw] at q
  | .scr n, _, _, _, _, q => by simp [D.shw] at q
  | .cls n, _, _, _, _, q => by simp [D.shw] at q
  | .exc _ _ _, _, _, _, _, q => by simp [D.shw] at q
  | .obj n m, _, _, _, _, q => by simp [D.shw] at q
  | .err n m, _, _, _, _, q => by simp [D.shw] at q
  | .lst ds, _, _, x, r, q => by
    cases x with
    | lst hs ha =>
      cases r
      obtain ⟨its, o, n, rv, ho, hc, hd⟩ := sqL_at hok KX (.of hs)
      obtain ⟨as, hr, hn⟩ := RpAll.reads hok KX hsy ds _ its ha rv (by simpa [D.shw] using q)
      rw [D.py]
      refine ⟨_, .list ho hc hd hr, fun z => ?_⟩
      rcases List.mem_cons.mp z with z | z
      · exact hsy _ _ hs z.symm
      · exact hn z
  | .tup ds, _, _, x, r, q => by
    cases x with
    | tup hs ha =>
      cases r
      obtain ⟨its, o, n, rv, ho, hc, hd⟩ := sqT_at hok KX (seqT_mono (Same.refl B) hs)
      obtain ⟨as, hr, hn⟩ := RpAll.reads hok KX hsy ds _ its ha rv (by simpa [D.shw] using q)
      rw [D.py]
      exact ⟨_, .tuple ho hc hd hr, hn⟩
  | .dct ds, _, _, x, r, q => by
    cases x with
    | dct hs ha =>
      cases r
      obtain ⟨_, hsm, vs, kv, o, es, ep, e1, e2, e3, _, pr, _⟩ := hok _ _ hs
      obtain ⟨bs, hr, hn'⟩ := RpKv.reads hok KX hsy ds _ vs es.toList ha kv pr (by simpa [D.shw] using q)
      have hk := keys_read (h := h) ds pr kv ha
      rw [D.py]
      refine ⟨_, .dict e1 e2.1 e3 hk hr, ?_⟩
      simp only [List.cons_append, List.nil_append, List.mem_cons, not_or]
      exact ⟨fun e => by rw [e] at hsm; simp at hsm, hn'⟩
theorem RpAll.reads (hok : HOk P w B h) (KX : K.In h) (hsy : ∀ a o, B a = some o → a ≠ sysModules) : ∀ (ds : List D) (vs : List V) (us : List Value), RpAll K B vs ds → Vals vs us → D.shws ds = true → ∃ as, ReadsAll h us (D.pys ds) as ∧ sysModules ∉ as
  | [], _, _, x, r, _ => by
    cases x; cases r
    rw [D.pys]
    exact ⟨_, .nil, by simp⟩
  | d :: ds, _, _, x, r, q => by
    cases x with
    | cons h1 h2 =>
      cases r with
      | cons r1 r2 =>
        simp only [D.shws, Bool.and_eq_true] at q
        obtain ⟨as, q1, n1⟩ := Rp.reads hok KX hsy d _ _ h1 r1 q.1
        obtain ⟨bs, q2, n2⟩ := RpAll.reads hok KX hsy ds _ _ h2 r2 q.2
        rw [D.pys]
        refine ⟨_, .cons q1 q2, ?_⟩
        simp only [List.mem_append, not_or]
        exact ⟨n1, n2⟩
theorem RpKv.reads (hok : HOk P w B h) (KX : K.In h) (hsy : ∀ a o, B a = some o → a ≠ sysModules) : ∀ (ds : List (D × D)) (ks : List (Key × V)) (vs : List (Key × Value)) (es : List DictEntry), RpKv K B ks ds → KV ks vs → Pairs (mixKind P w) es vs → D.shwk ds = true → ∃ as, ReadsAll h (es.map (·.val)) ((D.pyk ds).map (·.2)) as ∧ sysModules ∉ as
  | [], _, _, _, x, r, p, _ => by
    cases x; cases r; cases p
    rw [D.pyk]
    exact ⟨_, .nil, by simp⟩
  | (k, d) :: ds, _, _, _, x, r, p, q => by
    cases x with
    | cons k1 h1 h2 =>
      cases r with
      | cons r1 r2 =>
        cases p with
        | cons p1 p2 p3 =>
          simp only [D.shwk, Bool.and_eq_true] at q
          obtain ⟨as, q1, n1⟩ := Rp.reads hok KX hsy d _ _ h1 (p2 ▸ r1.2) q.1.2
          obtain ⟨bs, q2, n2⟩ := RpKv.reads hok KX hsy ds _ _ _ h2 r2 p3 q.2
          rw [D.pyk]
          refine ⟨_, .cons q1 q2, ?_⟩
          simp only [List.mem_append, not_or]
          exact ⟨n1, n2⟩
end
end

/-! ### repr -/
def D.shown (d : D) : Str := d.py.shown
def D.rok (d : D) : Bool := d.shw && d.py.showable && decide (d.py.depth ≤ 64) && decide (d.shown.length ≤ sizeLine)
def gRepr : List D → Option Bo
  | [d] => if d.rok = true then sD d.shown else none
  | _ => none
def rRepr (K : PySem.W.Frag) : List V → Hp → VK → Prop := fun xs H Q => ∃ x d, xs = [x] ∧ Rp K H x d ∧ d.rok = true ∧ Q (.str d.shown) H
section
variable {X : Cx}
theorem call_repr (hsm : ∃ o, X.K.lookup sysModules = some o) (hg : X.A.guards = some []) (hu : X.A.units + 80 < cLine) : CallR X (.builtin "repr") (rRepr X.K) := by
  intro pins s σ H xs us Q I r h
  obtain ⟨x, d, rfl, hx, hd, q⟩ := h
  obtain ⟨u, rfl, ru⟩ := vals1 r
  simp only [D.rok, Bool.and_eq_true, decide_eq_true_eq] at hd
  obtain ⟨⟨⟨q1, q2⟩, q4⟩, q5⟩ := hd
  have hsy : ∀ a o, H a = some o → a ≠ sysModules := fun a o e z => by
    obtain ⟨ob, ho⟩ := hsm
    have := (I.bs _ _ (I.ok.mod.kin _ _ ho)).2
    rw [← z, e] at this
    cases this
  obtain ⟨as, hr, hn⟩ := Rp.reads I.hok I.kIn hsy d x u hx ru q1
  have deep : ∀ a, u = .ref a → wpAny (model X.prog X.w) X.A (call (.builtin "repr") [u]) (EP X pins σ Q) X.xe s := by
    rintro a rfl
    refine repr_of_reads' hr q2 (fun _ => hn) hg (by omega) (fun _ _ e => e) (fun h' u tk hk => ⟨.str _, H, I.kept hk, ⟨_, rfl⟩, q⟩) q5
  cases hx with
  | non =>
    cases ru
    simp only [D.shown, D.py, PyData.shown] at q
    exact PySem.P.repr_of_none ⟨.str _, H, I.tok _, ⟨_, rfl⟩, q⟩
  | bl b =>
    cases ru
    simp only [D.shown, D.py, PyData.shown] at q
    exact PySem.P.repr_of_bool ⟨.str _, H, I.tok _, ⟨_, rfl⟩, q⟩
  | int i =>
    obtain ⟨t, rfl⟩ := ru
    simp only [D.shown, D.py, PyData.shown] at q
    exact PySem.P.repr_of_int (by simpa [D.py, PyData.showable] using q2) ⟨.str _, H, I.tok _, ⟨_, rfl⟩, q⟩
  | str i =>
    obtain ⟨t, rfl⟩ := ru
    simp only [D.shown, D.py, PyData.shown] at q q5
    exact PySem.P.repr_of_str ⟨.str _, H, I.tok _, ⟨_, rfl⟩, q⟩ q5
  | ty n => simp [D.shw] at q1
  | scr _ => simp [D.shw] at q1
  | cls _ => simp [D.shw] at q1
  | exc _ _ => simp [D.shw] at q1
  | obj _ _ _ _ => simp [D.shw] at q1
  | err _ _ _ _ => simp [D.shw] at q1
  | lst _ _ => cases ru; exact deep _ rfl
  | tup _ _ => cases ru; exact deep _ rfl
  | dct _ _ => cases ru; exact deep _ rfl
theorem cs_repr : CallS X (rRepr X.K) gRepr := by
  intro xs ds b e B H Q s vs k
  unfold gRepr at e
  split at e
  · split at e
    · cases e
      obtain ⟨x, rfl, hx⟩ := rvs_one vs
      exact ⟨x, _, rfl, hx.whole s, by assumption, k _ B H .refl s (Rp.str _)⟩
    · cases e
  · cases e
end
end Lc

set_option Elab.async false
set_option maxRecDepth 100000
set_option maxHeartbeats 4000000
/-! Part M: calls of defs, by names too; reversed texts; dict displays; a pair of names. -/
namespace Lc
open PySem L2 PySem.Spec PyProof.Rows
section
variable {X : Cx} {Wx : WX} {k : Nat} {f : Addr} {fd : FuncData} {ps : List Str} {F : Fn} {x : Str} {p pos kpos : Pos} {e : Expr} {es : List Expr} {kws : List Keyword} {fa fe : M W} {g : M (List W)} {nm : Option Str}
/-- how many values -/
def ArgN (f : M (List W)) (n : Nat) : Prop := ∀ ws r r', f r = .ok ws r' → ws.length = n
theorem argn_nil : ArgN (M.ret []) 0 := fun ws r r' h => by cases h; rfl
theorem argn_cons {n : Nat} (h : ArgN g n) : ArgN (cCons fe g) (n + 1) := fun ws r r' e => by
  unfold cCons M.bind at e
  cases e1 : fe r with
  | fail => rw [e1] at e; cases e
  | exc _ _ => rw [e1] at e; cases e
  | ok w r1 =>
    rw [e1] at e
    cases e2 : g r1 with
    | fail => simp only [e2] at e; cases e
    | exc _ _ => simp only [e2] at e; cases e
    | ok ws' r2 =>
      simp only [e2] at e
      cases e
      rw [List.length_cons, h _ _ _ e2]
theorem de_call (G : FnG X.prog X.w X.K X.mg X.base k f fd ps F) (hr : Room k X.A) (hgu : X.A.guards = some []) (hg : Gl X x) (hm : X.mg x = some (.ref f)) (hk : PySem.W.keepIn X.K (.ref f) = true) (hb : Binds X.K fd ps [])
    (ha : DA X (e :: es) g) (hn : ArgN g ps.length) (hdb : (x == ("__debug__" : Str)) = false) (he : starEach (e :: es) X.env = (false, eval e X.env) :: starEach es X.env) (hpl : (backTo pos (starEach es X.env)).any (·.1) = false) :
    DE X (.Call (.Name x p) (e :: es) [] pos) (cCall F g) := by
  refine ⟨fun Wx tk => ?_⟩
  obtain ⟨t, pt, qt⟩ := ha.run Wx tk
  exact ⟨_, pe_callG G hr hgu hg hm hk hb tk pt hdb he hpl, fun vs B σ H r Q R h => Post.call R qt hn h⟩
theorem de_call0 (G : FnG X.prog X.w X.K X.mg X.base k f fd [] F) (hr : Room k X.A) (hgu : X.A.guards = some []) (hg : Gl X x) (hm : X.mg x = some (.ref f)) (hk : PySem.W.keepIn X.K (.ref f) = true) (hb : Binds X.K fd [] [])
    (hdb : (x == ("__debug__" : Str)) = false) : DE X (.Call (.Name x p) [] [] pos) (cCall F (M.ret [])) := by
  refine ⟨fun Wx tk => ?_⟩
  obtain ⟨t, pt, qt⟩ := (da_nil (X := X)).run Wx tk
  exact ⟨_, pe_callG0 G hr hgu hg hm hk hb tk hdb, fun vs B σ H r Q R h => Post.call (t := tNil) (fa := M.ret []) R (fun vs B σ H r Q R h => h [] B H .refl R RpWs.nil) argn_nil h⟩

/-! ### arguments by names -/
structure DK (X : Cx) (kws : List Keyword) (f : M (List W)) : Prop where
  run : ∀ Wx, Takes X Wx → ∃ t, PK X kws t ∧ ∀ vs B σ H r Q, Rl X.K vs B σ H r → Post X vs Wx B H σ r (f r) (fA X vs σ H) Q → t σ H Q
theorem dk_nil : DK X [] (M.ret []) := ⟨fun _ _ => ⟨_, pk_nil, fun _ B _ H _ _ R h => h [] B H .refl R RpWs.nil⟩⟩
theorem dk_cons (he : DE X e fe) (hr : DK X kws g) : DK X (⟨nm, e, kpos⟩ :: kws) (cCons fe g) := by
  refine ⟨fun Wx tk => ?_⟩
  obtain ⟨ta, pa, qa⟩ := he.run Wx tk
  obtain ⟨tb, pb, qb⟩ := hr.run Wx tk
  refine ⟨_, pk_cons pa pb, fun vs B σ H r Q R h => qa vs B σ H r _ R (Post.bind0 h fun x w B1 H1 r1 s1 R1 q1 h1 => ?_)⟩
  have h1' := Post.shift (F := fA X vs σ) back_A s1 h1
  refine qb vs B1 σ H1 r1 _ R1 ?_
  cases hg : g r1 with
  | fail => simp only [M.bind, hg] at h1; exact h1.elim
  | exc y r2 =>
    simp only [M.bind, hg] at h1
    exact fun cl dd B2 H2 s2 R2 f2 => h1 cl dd B2 H2 (s1.trans s2) R2 f2
  | ok ws r2 =>
    simp only [M.bind, hg] at h1
    intro xs B2 H2 s2 R2 f2
    refine h1 (x :: xs) B2 H2 (s1.trans s2) R2 (RpWs.cons (RpW.stp q1 s2) (RpWs.back s1.dom f2) fun i y u e1 e2 ⟨a, c, c', g1, g2, g3, g4⟩ => ?_)
    have q2 := RpWs.get f2 e1 e2
    subst g1 g2 g3 g4
    obtain ⟨a1, k1, _, _, k4, _⟩ := q1
    obtain ⟨a2, m1, m2, _⟩ := q2
    cases k1; cases m1
    obtain ⟨o, ho⟩ := k4.some
    rw [m2] at ho; cases ho
/-- f(k = e, ..), the names in the parameters' order -/
theorem pe_callGK (G : FnG X.prog X.w X.K X.mg X.base k f fd ps F) (hr : Room k X.A) (hgu : X.A.guards = some []) (hg : Gl X x) (hm : X.mg x = some (.ref f)) (hk : PySem.W.keepIn X.K (.ref f) = true)
    (hb : ∀ (s : Shared) (ws : List Value), X.K.In s.heap → ws.length = ps.length → BindsTo s fd ⟨[], ps.zip ws⟩ (ps.zip ws)) (tk : Takes X Wx) {t : TA}
    (ha : PK X kws t) (hdb : (x == ("__debug__" : Str)) = false) (hall : (backToKw pos (keywordEach kws X.env)).all (·.1.isSome) = true) (hks : (backToKw pos (keywordEach kws X.env)).filterMap (·.1) = ps)
    (hpl : ((backTo pos (starEach [] X.env)).any (·.1) || (backToKw pos (keywordEach kws X.env)).any (·.1.isNone)) = false) :
    PE X (.Call (.Name x p) [] kws pos) (tCallG Wx (spG X.K X.mg ps.length F) t) := by
  refine ⟨fun pins s σ H Q I h => wpAny_Call_Name_kw (ld_glob I hg hm ?_ hdb)⟩
  refine PySem.W.callWith_KW0 (h₀ := X.base) I.ok.mod.kin hk hall (thn (ha.run pos pins s σ H _ I h) fun us s1 ⟨vs, H1, I1, rv, q⟩ => ⟨I1.kIn, ?_⟩) hpl
  rw [hks]
  have hl : us.length = ps.length := by rw [← rv.length]; exact q.1
  exact wpAny_call (codeAny_mono (run_fnG G hr hgu (hb s1 us I1.kIn hl) tk I1 rv q) fun res s2 hq => by
    cases res with
    | error u => exact hq
    | ok fl => cases fl <;> exact hq)
theorem de_callK (G : FnG X.prog X.w X.K X.mg X.base k f fd ps F) (hr : Room k X.A) (hgu : X.A.guards = some []) (hg : Gl X x) (hm : X.mg x = some (.ref f)) (hk : PySem.W.keepIn X.K (.ref f) = true)
    (hb : ∀ (s : Shared) (ws : List Value), X.K.In s.heap → ws.length = ps.length → BindsTo s fd ⟨[], ps.zip ws⟩ (ps.zip ws))
    (ha : DK X kws g) (hn : ArgN g ps.length) (hdb : (x == ("__debug__" : Str)) = false) (hall : (backToKw pos (keywordEach kws X.env)).all (·.1.isSome) = true) (hks : (backToKw pos (keywordEach kws X.env)).filterMap (·.1) = ps)
    (hpl : ((backTo pos (starEach [] X.env)).any (·.1) || (backToKw pos (keywordEach kws X.env)).any (·.1.isNone)) = false) :
    DE X (.Call (.Name x p) [] kws pos) (cCall F g) := by
  refine ⟨fun Wx tk => ?_⟩
  obtain ⟨t, pt, qt⟩ := ha.run Wx tk
  exact ⟨_, pe_callGK G hr hgu hg hm hk hb tk pt hdb hall hks hpl, fun vs B σ H r Q R h => Post.call R qt hn h⟩

/-! ### e[::-1] -/
def revS (x : Str) : Str := ⟨((slicePicked x none none (some (-1, 0))).filterMap (x.cps[·]?)).toArray⟩
def tRevS (te : TE) : TE := fun σ H Q => te σ H fun x H1 => ∃ y, x = .str y ∧ (revS y).length ≤ sizeLine ∧ Q (.str (revS y)) H1
theorem pe_or {t u : TE} (h1 : PE X e t) (h2 : PE X e u) : PE X e (fun σ H Q => t σ H Q ∨ u σ H Q) := ⟨fun pins s σ H Q I h => h.elim (h1.run pins s σ H Q I) (h2.run pins s σ H Q I)⟩
theorem pe_revS {te : TE} {k : Nat} {p1 p2 p3 pos : Pos} (he : PE X e te) : PE X (.Subscript e (.Slice none none (some (.UnaryOp .USub (.Constant (.int 1) k p1) p2)) p3) pos) (tRevS te) := by
  refine ⟨fun pins s σ H Q I h => ?_⟩
  refine Subscript_ (thn (he.run pins s σ H _ I h) fun v s1 ⟨x, H1, I1, r1, q1⟩ => ?_)
  obtain ⟨y, ex, hz, q⟩ := q1
  subst ex
  obtain ⟨tk, rfl⟩ := r1
  have hst : PO X (some (.UnaryOp .USub (.Constant (.int 1) k p1) p2)) (tPart (tUn (rU fun i => .int (-i)) (tC (.int 1)))) := po_some (pe_un un_neg pe_int)
  refine wpAny_Slice (thn (po_none.run pins s1 σ H1 (fun o H2 => o = none ∧ H2 = H1) I1 ⟨rfl, rfl⟩) fun vl s2 ⟨l, H2, I2, pl, el, e2⟩ => ?_)
  subst el e2
  refine thn (po_none.run pins s2 σ H2 (fun o H3 => o = none ∧ H3 = H2) I2 ⟨rfl, rfl⟩) fun vu s3 ⟨u, H3, I3, pu, eu, e3⟩ => ?_
  subst eu e3
  refine thn (hst.run pins s3 σ H3 (fun o H4 => o = some (-1) ∧ H4 = H3) I3 ⟨1, rfl, -1, rfl, rfl, rfl⟩) fun vs s4 ⟨o, H4, I4, ps, eo, e4⟩ => ?_
  subst eo e4
  cases pl
  cases pu
  cases ps with
  | int i tk2 =>
    have I5 : Inv X pins σ H4 { s4 with heap := s4.heap.push { cls := .type "slice", data := .fields #[.none, .none, .int (-1) tk2] } } := I4.kept (t' := s4.toks) fun b ob q => Heap.get?_push_of_some _ q
    show wpAny (model X.prog X.w) X.A (subscriptTail e (.Slice none none (some (.UnaryOp .USub (.Constant (.int 1) k p1) p2)) p3) (.str y tk) (.ref s4.heap.objs.size)) (EP X pins σ Q) X.xe { s4 with heap := s4.heap.push { cls := .type "slice", data := .fields #[.none, .none, .int (-1) tk2] } }
    refine tail_any (ops := [.str y tk, .ref s4.heap.objs.size]) (typeIs_str _ _ _) (F.slot_str_getitem.lookup) ?_ (by with_unfolding_all rfl)
    refine wpAny_getItem_str_slice (l := none) (u := none) (st := some (-1, tk2)) ⟨_, Heap.get?_push_size _ rfl, rfl, rfl⟩ rfl ?_
    exact ⟨hz, .str _, H4, I5.tok _, ⟨_, rfl⟩, q⟩
def gRev : D → Option Bo
  | .str y => if (revS y).length ≤ sizeLine then some (.dt (.str (revS y))) else none
  | .lst l => some (.own (.lst l.reverse))
  | _ => none
theorem de_rev {k : Nat} {p1 p2 p3 pos : Pos} (he : DE X e fe) : DE X (.Subscript e (.Slice none none (some (.UnaryOp .USub (.Constant (.int 1) k p1) p2)) p3) pos) (cOp1 gRev fe) := by
  refine ⟨fun Wx tk => ?_⟩
  obtain ⟨t, pt, qt⟩ := he.run Wx tk
  refine ⟨_, pe_or (pe_revS pt) (pe_revL pt), fun vs B σ H r Q R h => ?_⟩
  cases ef : fe r with
  | fail => simp only [cOp1, M.bind, ef] at h; exact h.elim
  | exc y r1 =>
    simp only [cOp1, M.bind, ef] at h
    exact .inl (qt vs B σ H r _ R (by rw [ef]; exact h))
  | ok w r1 =>
    simp only [cOp1, M.bind, ef] at h
    cases ev : w.view r1 with
    | none => simp only [M.view, ev] at h; exact h.elim
    | some d =>
      simp only [M.view, ev] at h
      cases eg : gRev d with
      | none => rw [eg] at h; exact h.elim
      | some b =>
        rw [eg] at h
        have fin : ∀ (v : V) (B1 H1 : Hp), Stp vs B H σ r B1 H1 σ r1 → Rl X.K vs B1 σ H1 r1 → ∀ (v' : V) (B' H' : Hp), Ext B1 H1 B' H' → Same B' H' → RpB X.K H1 B' H' v' b → Q v' H' := fun v B1 H1 s1 R1 v' B' H' ex sm q => by
          have h' : Post X vs Wx B H σ r (.ok b.toW r1) (fW X vs σ H) Q := h
          exact h' v' B' H' (s1.ext ex) (R1.ext ex sm) (q.toW R1 fun _ z => s1.dom _ z)
        unfold gRev at eg
        split at eg
        · split at eg
          · cases eg
            refine .inl (qt vs B σ H r _ R ?_)
            rw [ef]
            intro v B1 H1 s1 R1 q1
            have vd := RpW.view R1 q1 ev
            exact ⟨_, rv_str vd, by assumption, fin v B1 H1 s1 R1 _ B1 H1 .refl R1.sub (Rp.str _)⟩
          · cases eg
        · cases eg
          refine .inr (qt vs B σ H r _ R ?_)
          rw [ef]
          intro v B1 H1 s1 R1 q1
          obtain ⟨a, xs, rfl, h1, h2⟩ := RpW.view R1 q1 ev
          refine ⟨a, xs, rfl, .of h1, fun p np => ?_⟩
          exact fin .non B1 H1 s1 R1 _ B1 _ (.plain np) (R1.sub.trans (same_upd np)) ⟨p, rfl, np, none_of_sub R1.sub np, ⟨_, upd_same, h2.reverse⟩⟩
        · cases eg
end
end Lc

set_option Elab.async false
set_option maxRecDepth 100000
set_option maxHeartbeats 4000000
/-! Part N: dict displays; a pair of names takes a pair. -/
namespace Lc
open PySem L2 PySem.Spec PyProof.Rows
section
variable {X : Cx} {Wx : WX} {pos kpos : Pos} {e a b : Expr} {es : List Expr} {fe fk fv : M W} {g : M (List W)}
def cDct0 : M W := M.ret (.fresh (.dct []))
theorem de_dct0 : DE X (.Dict [] [] pos) cDct0 := ⟨fun _ _ => ⟨_, pe_dnewK, fun vs B σ H r Q R h p np => by
  have ex : Ext B H B (upd H p (.dK [])) := .plain np
  have sm : Same B (upd H p (.dK [])) := R.sub.trans ex.keep
  exact h (.ref p) B _ ex.stp (R.ext ex sm) ⟨p, rfl, np, none_of_sub R.sub np, ⟨[], upd_same, .nil⟩, R.notOwn np⟩⟩⟩
theorem read_cons {ta : TE} {tb : TA} (qa : ∀ vs B σ H r Q, Rl X.K vs B σ H r → Post X vs Wx B H σ r (fe r) (fW X vs σ H) Q → ta σ H Q) (qb : ∀ vs B σ H r Q, Rl X.K vs B σ H r → Post X vs Wx B H σ r (g r) (fA X vs σ H) Q → tb σ H Q) :
    ∀ vs B σ H r Q, Rl X.K vs B σ H r → Post X vs Wx B H σ r (cCons fe g r) (fA X vs σ H) Q → tCons ta tb σ H Q := by
  intro vs B σ H r Q R h
  refine qa vs B σ H r _ R (Post.bind0 h fun x w B1 H1 r1 s1 R1 q1 h1 => ?_)
  have h1' := Post.shift (F := fA X vs σ) back_A s1 h1
  refine qb vs B1 σ H1 r1 _ R1 ?_
  cases hg : g r1 with
  | fail => simp only [M.bind, hg] at h1; exact h1.elim
  | exc y r2 =>
    simp only [M.bind, hg] at h1
    exact fun cl dd B2 H2 s2 R2 f2 => h1 cl dd B2 H2 (s1.trans s2) R2 f2
  | ok ws r2 =>
    simp only [M.bind, hg] at h1
    intro xs B2 H2 s2 R2 f2
    refine h1 (x :: xs) B2 H2 (s1.trans s2) R2 (RpWs.cons (RpW.stp q1 s2) (RpWs.back s1.dom f2) fun i y u e1 e2 ⟨a, c, c', g1, g2, g3, g4⟩ => ?_)
    have q2 := RpWs.get f2 e1 e2
    subst g1 g2 g3 g4
    obtain ⟨a1, k1, _, _, k4, _⟩ := q1
    obtain ⟨a2, m1, m2, _⟩ := q2
    cases k1; cases m1
    obtain ⟨o, ho⟩ := k4.some
    rw [m2] at ho; cases ho
def tAll : List (TE × TE) → TA
  | [] => tNil
  | (a, b) :: r => tCons a (tCons b (tAll r))
def pairUp : List V → List (V × V)
  | x :: y :: r => (x, y) :: pairUp r
  | _ => []
theorem tPairs_all : ∀ (trs : List (TE × TE)) (σ : L2.St) (H : Hp) (Q : List (V × V) → Hp → Prop), tPairs trs σ H Q = tAll trs σ H (fun vs H' => Q (pairUp vs) H')
  | [], σ, H, Q => rfl
  | (a, b) :: r, σ, H, Q => by
    show (a σ H fun x H1 => b σ H1 fun y H2 => tPairs r σ H2 fun ps H3 => Q ((x, y) :: ps) H3) = (a σ H fun x H1 => b σ H1 fun y H2 => tAll r σ H2 fun vs H3 => Q (pairUp (x :: y :: vs)) H3)
    congr 1
    funext x H1
    congr 1
    funext y H2
    rw [tPairs_all r σ H2]
    rfl
structure DP (X : Cx) (pos : Pos) (keys : List (Option Expr)) (values : List Expr) (f : M (List W)) : Prop where
  run : ∀ Wx, Takes X Wx → ∃ trs, PPs X pos keys values trs ∧ ∀ vs B σ H r Q, Rl X.K vs B σ H r → Post X vs Wx B H σ r (f r) (fA X vs σ H) Q → tAll trs σ H Q
theorem dp_nil : DP X pos [] [] (M.ret []) := ⟨fun _ _ => ⟨_, pps_nil, fun _ B _ H _ _ R h => h [] B H .refl R RpWs.nil⟩⟩
theorem dp_cons {k v : Expr} {ks : List (Option Expr)} {vals : List Expr} (hk : DE X k fk) (hv : DE X v fv) (hr : DP X pos ks vals g) : DP X pos (some k :: ks) (v :: vals) (cCons fk (cCons fv g)) := by
  refine ⟨fun Wx tk => ?_⟩
  obtain ⟨ta, pa, qa⟩ := hk.run Wx tk
  obtain ⟨tb, pb, qb⟩ := hv.run Wx tk
  obtain ⟨tc, pc, qc⟩ := hr.run Wx tk
  exact ⟨_, pps_cons pa pb pc, read_cons qa (read_cons qb qc)⟩
/-! ### data as keys -/
def D.key : D → Option Key
  | .int i => some (.inl i)
  | .str x => some (.inr x)
  | _ => none
def keyD : Key → D
  | .inl i => .int i
  | .inr x => .str x
theorem key_rp {K : PySem.W.Frag} {B : Hp} {v : V} {d : D} {k : Key} (h : Rp K B v d) (e : d.key = some k) : v = kV k ∧ KeyD k d := by
  cases h <;> simp only [D.key, Option.some.injEq, reduceCtorEq] at e
  · subst e; exact ⟨rfl, rfl⟩
  · subst e; exact ⟨rfl, rfl⟩
/-- the pairs that a display writes -/
def pairsD : List D → Option (List (Key × D))
  | [] => some []
  | k :: v :: r => match k.key, pairsD r with
    | some k, some l => some ((k, v) :: l)
    | _, _ => none
  | [_] => none
def putD (l : List (D × D)) (k : Key) (v : D) : List (D × D) :=
  if (l.any fun kv => decide (kv.1.key = some k)) = true then l.map (fun kv => if kv.1.key = some k then (kv.1, v) else kv) else l ++ [(keyD k, v)]
def mergeD (l : List (D × D)) (more : List (Key × D)) : List (D × D) := more.foldl (fun acc kv => putD acc kv.1 kv.2) l
theorem keyD_key {k : Key} {d : D} (h : KeyD k d) : d.key = some k := by
  cases k <;> cases d <;> simp_all [KeyD, D.key]
theorem keyD_self (k : Key) : KeyD k (keyD k) := by cases k <;> rfl
section
variable {K : PySem.W.Frag} {B : Hp}
theorem kv_any {k : Key} : ∀ {ks : List (Key × V)} {ds : List (D × D)}, RpKv K B ks ds → (ks.any fun kv => decide (kv.1 = k)) = ds.any fun kv => decide (kv.1.key = some k)
  | _, _, .nil => rfl
  | _, _, .cons h1 h2 r => by
    simp only [List.any_cons, kv_any r, keyD_key h1, Option.some.injEq]
theorem kv_put {k : Key} {v : V} {d : D} (hv : Rp K B v d) : ∀ {ks : List (Key × V)} {ds : List (D × D)}, RpKv K B ks ds → RpKv K B (ks.map fun kv => if kv.1 = k then (kv.1, v) else kv) (ds.map fun kv => if kv.1.key = some k then (kv.1, d) else kv)
  | _, _, .nil => .nil
  | _, _, .cons h1 h2 r => by
    simp only [List.map_cons, keyD_key h1, Option.some.injEq]
    split
    · exact .cons h1 hv (kv_put hv r)
    · exact .cons h1 h2 (kv_put hv r)
theorem kv_app : ∀ {ks ks' : List (Key × V)} {ds ds' : List (D × D)}, RpKv K B ks ds → RpKv K B ks' ds' → RpKv K B (ks ++ ks') (ds ++ ds')
  | _, _, _, _, .nil, h => h
  | _, _, _, _, .cons h1 h2 r, h => .cons h1 h2 (kv_app r h)
theorem put_rp {k : Key} {v : V} {d : D} {ks : List (Key × V)} {ds : List (D × D)} (h : RpKv K B ks ds) (hv : Rp K B v d) : RpKv K B (putK ks k v) (putD ds k d) := by
  unfold putK putD
  rw [kv_any h]
  split
  · exact kv_put hv h
  · exact kv_app h (.cons (keyD_self k) hv .nil)
theorem merge_rp : ∀ {l : List (Key × D)} {more : List (Key × V)} {ks : List (Key × V)} {ds : List (D × D)}, RpKv K B ks ds → Paired (fun (p : Key × V) (q : Key × D) => p.1 = q.1 ∧ Rp K B p.2 q.2) more l → RpKv K B (mergeK ks more) (mergeD ds l)
  | _, _, _, _, h, .nil => h
  | _, _, ks, ds, h, .cons (a := p) (b := q) x r => by
    obtain ⟨k, v⟩ := p
    obtain ⟨k', d⟩ := q
    obtain ⟨e, hv⟩ := x
    simp only at e hv
    subst e
    show RpKv K B (mergeK (putK ks k v) _) (mergeD (putD ds k d) _)
    exact merge_rp (put_rp h hv) r
theorem pairs_rp : ∀ {ds : List D} {xs : List V} {l : List (Key × D)}, RpAll K B xs ds → pairsD ds = some l → ∃ kvs : List (Key × V), pairUp xs = kvs.map (fun kv => (kV kv.1, kv.2)) ∧ Paired (fun (p : Key × V) (q : Key × D) => p.1 = q.1 ∧ Rp K B p.2 q.2) kvs l
  | [], xs, l, h, e => by
    cases h; cases e
    exact ⟨[], rfl, .nil⟩
  | [_], xs, l, h, e => by cases e
  | k :: v :: r, xs, l, h, e => by
    cases h with
    | cons h1 h2 =>
      cases h2 with
      | cons h3 h4 =>
        unfold pairsD at e
        cases ek : k.key with
        | none => simp only [ek] at e; cases e
        | some kk =>
          cases er : pairsD r with
          | none => simp only [ek, er] at e; cases e
          | some l' =>
            simp only [ek, er, Option.some.injEq] at e
            subst e
            obtain ⟨kvs, p1, p2⟩ := pairs_rp h4 er
            obtain ⟨ev, _⟩ := key_rp h1 ek
            refine ⟨(kk, _) :: kvs, ?_, .cons ⟨rfl, h3⟩ p2⟩
            subst ev
            simp [pairUp, p1]
end
def cDct (f : M (List W)) : M W := M.bind f fun ws => M.bind (frzAll ws) fun ds => M.bind (M.opt (pairsD ds)) fun l => M.bind (M.chk (decide (l.length ≤ 15))) fun _ => M.ret (.fresh (.dct (mergeD [] l)))
theorem paired_len {α β : Type} {F : α → β → Prop} : ∀ {l : List α} {m : List β}, Paired F l m → l.length = m.length
  | _, _, .nil => rfl
  | _, _, .cons _ r => by rw [List.length_cons, List.length_cons, paired_len r]
theorem de_dct {keys : List (Option Expr)} {values : List Expr} {f : M (List W)} (h : DP X pos keys values f) (hall : keys.all (·.isSome) = true) (hl : keys.length = values.length) (h0 : keys ≠ []) (h15 : keys.length ≤ 15) : DE X (.Dict keys values pos) (cDct f) := by
  refine ⟨fun Wx tk => ?_⟩
  obtain ⟨trs, p, q⟩ := h.run Wx tk
  refine ⟨_, pe_disp p hall hl h0 h15, fun vs B σ H r Q R hw p np => ?_⟩
  rw [tPairs_all]
  have ex : Ext B H B (upd H p (.dK [])) := .plain np
  have sm : Same B (upd H p (.dK [])) := R.sub.trans ex.keep
  have s0 : Stp vs B H σ r B (upd H p (.dK [])) σ r := ex.stp
  have R0 := R.ext ex sm
  refine q vs B σ _ r _ R0 ?_
  cases ef : f r with
  | fail => simp only [cDct, M.bind, ef] at hw; exact hw.elim
  | exc y r1 =>
    simp only [cDct, M.bind, ef] at hw
    exact fun cl dd B2 H2 s2 R2 f2 => hw cl dd B2 H2 (s0.trans s2) R2 f2
  | ok ws r1 =>
    intro xs B1 H1 s1 R1 q1
    have hp0 : H1 p = some (.dK []) := (s1.keep p _ upd_same (R.notOwn np ∘ fun z => z)).1
    have nb1 : B1 p = none := (s1.keep p _ upd_same (R.notOwn np)).2 (none_of_sub R.sub np)
    have no1 : ¬ Own vs σ r1 p := fun z => (s1.own p z).elim (R.notOwn np) fun z => by rw [upd_same] at z; cases z
    have hw1 : Post X vs Wx B H σ r (M.bind (frzAll ws) (fun ds => M.bind (M.opt (pairsD ds)) fun l => M.bind (M.chk (decide (l.length ≤ 15))) fun _ => M.ret (.fresh (.dct (mergeD [] l)))) r1) (fW X vs σ H) Q := by
      simp only [cDct, M.bind, ef] at hw
      exact hw
    cases e2 : frzAll ws r1 with
    | fail => simp only [M.bind, e2] at hw1; exact hw1.elim
    | exc y r2 => exact absurd e2 frzAll_noexc
    | ok ds r2 =>
      simp only [M.bind, e2] at hw1
      obtain ⟨B2, p2, R2, s2, sb⟩ := frzAll_ok R1 s1 q1 e2
      have hw2 : Post X vs Wx B H σ r (M.bind (M.opt (pairsD ds)) (fun l => M.bind (M.chk (decide (l.length ≤ 15))) fun _ => M.ret (.fresh (.dct (mergeD [] l)))) r2) (fW X vs σ H) Q := hw1
      obtain ⟨l, el, hw3⟩ := Post.opt hw2
      obtain ⟨c4, hw4⟩ := Post.chk hw3
      obtain ⟨kvs, k1, k2⟩ := pairs_rp p2 el
      refine ⟨hp0, kvs, k1, by rw [paired_len k2]; exact of_decide_eq_true c4, ?_⟩
      have nb2 : B2 p = none := (s2.keep p _ upd_same (R.notOwn np)).2 (none_of_sub R.sub np)
      have no2 : ¬ Own vs σ r2 p := fun z => (s2.own p z).elim (R.notOwn np) fun z => by rw [upd_same] at z; cases z
      have R3 : Rl X.K vs B2 σ (upd H1 p (.dK (mergeK [] kvs))) r2 := R2.other nb2 no2
      have s3 : Stp vs B H σ r B2 (upd H1 p (.dK (mergeK [] kvs))) σ r2 := by
        have s4 := s0.trans s2
        refine ⟨s4.sub, fun a o h n => ?_, fun a h => ?_, s4.own, s4.bol, s4.bod, s4.boo⟩
        · have ne : a ≠ p := fun e => by subst e; rw [np] at h; cases h
          rw [upd_ne ne]
          exact s4.keep a o h n
        · by_cases e : a = p
          · subst e; exact np
          · rw [upd_ne e] at h; exact s4.dom a h
      exact hw4 (.ref p) B2 _ s3 R3 ⟨p, rfl, np, nb2, ⟨_, upd_same, merge_rp .nil k2⟩, no2⟩

/-! ### a, b = x, y -/
def W.isLoc (i : Nat) : W → Bool
  | .cel (.loc j) => decide (j = i)
  | _ => false
def cPar2 (i j : Nat) (f : M (List W)) : M Fl := M.bind f fun ws => match ws with
  | [w1, w2] => if w2.isLoc i = true then M.no else M.bind (gN i w1) fun _ => M.bind (gN j w2) fun _ => M.ret .next
  | _ => M.no
theorem settle_more {K : PySem.W.Frag} {vs : List V} {B0 H0 B H : Hp} {σ0 σ : L2.St} {r0 r r' : Rho} {v : V} {w : W} {sl : Sl} (R : Rl K vs B σ H r) (s : Stp vs B0 H0 σ0 r0 B H σ r) (h : RpW K vs H0 B σ H r v w) (e : settle w r = .ok sl r') :
    ∃ B', RpS K vs H0 B' σ H r' v sl ∧ Rl K vs B' σ H r' ∧ Stp vs B0 H0 σ0 r0 B' H σ r' ∧ (∀ x u, RpW K vs H0 B σ H r x u → RpW K vs H0 B' σ H r' x u) ∧ ∀ c, sl = .own c → w = .fresh c := by
  cases w with
  | dt d => cases e; exact ⟨B, h, R, s, fun _ _ q => q, fun c z => by cases z⟩
  | fresh c => cases e; exact ⟨B, h, R, s, fun _ _ q => q, fun c z => by cases z; rfl⟩
  | cel z =>
    cases z with
    | bor k => cases e; exact ⟨B, h, R, s, fun _ _ q => q, fun c z => by cases z⟩
    | loc i =>
      cases hc : r.cnt (.loc i) with
      | none =>
        cases hl : r.look (.loc i) with
        | none => simp only [settle, hc, hl] at e; cases e
        | some d' =>
          simp only [settle, hc, hl] at e
          cases e
          exact ⟨B, look_data R hc hl h, R, s, fun _ _ q => q, fun c z => by cases z⟩
      | some c =>
        simp only [settle, hc] at e
        cases e
        obtain ⟨a, q1, _, _⟩ := R.own _ c hc
        have hv : v = .ref a := by have h' : adr vs σ (.loc i) = some v := h; rw [q1] at h'; exact (Option.some.inj h').symm
        subst hv
        obtain ⟨o, ho, rp, R2, s2⟩ := R.freeze hc q1
        exact ⟨_, rp, R2, s.trans s2, fun _ _ q => RpW.stp q s2, fun c z => by cases z⟩
theorem gN_step {vs : List V} {B0 H0 B H : Hp} {σ0 σ : L2.St} {r0 r r' : Rho} {v : V} {w : W} {i : Nat} (R : Rl X.K vs B σ H r) (s : Stp vs B0 H0 σ0 r0 B H σ r) (h : RpW X.K vs H0 B σ H r v w) (e : gN i w r = .ok () r') :
    ∃ B', Rl X.K vs B' (σ.set i (some v)) H r' ∧ Stp vs B0 H0 σ0 r0 B' H (σ.set i (some v)) r' ∧ ∀ x u, RpW X.K vs H0 B σ H r x u → ¬ Clash v w x u → u.isLoc i = false → RpW X.K vs H0 B' (σ.set i (some v)) H r' x u := by
  unfold gN M.bind at e
  cases e1 : settle w r with
  | fail => simp only [e1] at e; cases e
  | exc x r1 => exact absurd e1 settle_noexc
  | ok sl r1 =>
    simp only [e1] at e
    split at e
    · rename_i hi
      cases e
      obtain ⟨B', p, R', s', keepW, hown⟩ := settle_more R s h e1
      obtain ⟨R2, s2⟩ := R'.assign s' p hi
      have hs : i < σ.length := by rw [← R'.len]; exact hi
      refine ⟨B', R2, s2, fun x u q nc nl => ?_⟩
      have q' := keepW x u q
      cases u with
      | dt d => exact q'
      | cel z =>
        have hz : z ≠ .loc i := fun z2 => by subst z2; simp [W.isLoc] at nl
        show adr vs _ z = _
        rw [adr_set z hz]
        exact q'
      | fresh c =>
        obtain ⟨a, rfl, g1, g2, g3, g4⟩ := q'
        refine ⟨a, rfl, g1, g2, g3, fun ⟨z, c', m1, m2⟩ => ?_⟩
        by_cases hz : z = .loc i
        · subst hz
          rw [adr_self hs] at m2
          cases m2
          rw [cnt_put hi, if_pos rfl] at m1
          cases sl with
          | own c2 =>
            have := hown c2 rfl
            subst this
            exact nc ⟨a, c2, c, rfl, rfl, rfl, rfl⟩
          | dt d => cases m1
          | bor k => cases m1
        · rw [adr_set z hz] at m2
          rw [cnt_put hi, if_neg hz] at m1
          exact g4 ⟨z, c', m1, m2⟩
    · cases e
theorem gN_noexc {w : W} {i : Nat} {r r' : Rho} {x : Ex} : gN i w r ≠ .exc x r' := fun e => by
  unfold gN M.bind at e
  cases e1 : settle w r with
  | fail => simp only [e1] at e; cases e
  | exc x r1 => exact settle_noexc e1
  | ok sl r1 =>
    simp only [e1] at e
    split at e <;> cases e
theorem ds_par {i j : Nat} {x y : Str} {f : M (List W)} {px py pt : Pos} {kt k2 pt2} (hc : X.calm = true) (hN : X.N.Nodup) (hi : X.N[i]? = some x) (hj : X.N[j]? = some y) (hij : i ≠ j)
    (hx : X.env.scope.names.lookup x = some .local) (hy : X.env.scope.names.lookup y = some .local) (ha : DA X [a, b] f)
    (hw : swappedStores [.Tuple [.Name x px, .Name y py] kt pt] (.Tuple [a, b] k2 pt2) X.env = pure (some [x, y]))
    (hs : swapsWithSole [.Tuple [.Name x px, .Name y py] kt pt] (.Tuple [a, b] k2 pt2) pos.line X.env = pure false) :
    DS X (.Assign [.Tuple [.Name x px, .Name y py] kt pt] (.Tuple [a, b] k2 pt2) pos) (cPar2 i j f) := by
  refine ⟨fun Wx tk => ?_⟩
  obtain ⟨t, p, q⟩ := ha.run Wx tk
  refine ⟨_, ps_par hc hN hi hj hij hx hy p hw hs, fun vs B σ H r E R h => q vs B σ H r _ R (PostS.bind0 h fun xs ws B1 H1 r1 s1 R1 q1 h1 => ?_)⟩
  cases q1 with
  | nil => exact h1.elim
  | cons a1 b1 n1 =>
    cases b1 with
    | nil => exact h1.elim
    | cons a2 b2 n2 =>
      cases b2 with
      | cons _ _ _ => exact h1.elim
      | nil =>
        rename_i v1 w1 v2 w2
        simp only at h1
        split at h1
        · exact h1.elim
        · rename_i hl
          have hl' : w2.isLoc i = false := by cases e : w2.isLoc i with
            | true => exact absurd e hl
            | false => rfl
          cases e1 : gN i w1 r1 with
          | fail => simp only [M.bind, e1] at h1; exact h1.elim
          | exc x r2 => exact absurd e1 gN_noexc
          | ok u r2 =>
            simp only [M.bind, e1] at h1
            obtain ⟨B2, R2, s2, k2⟩ := gN_step R1 s1 a1 e1
            have q2 := k2 v2 w2 a2 (n1 0 v2 w2 rfl rfl) hl'
            cases e2 : gN j w2 r2 with
            | fail => simp only [M.bind, e2] at h1; exact h1.elim
            | exc x r3 => exact absurd e2 gN_noexc
            | ok u r3 =>
              simp only [M.bind, e2] at h1
              obtain ⟨B3, R3, s3, _⟩ := gN_step R2 s2 q2 e2
              exact ⟨v1, v2, rfl, h1 _ B3 H1 s3 R3⟩
end
end Lc

set_option Elab.async false
set_option maxRecDepth 100000
set_option maxHeartbeats 4000000
/-! Part O: a law's end over FnG; names of the module and of Python. -/
namespace Lc
open PySem L2 PySem.Spec PyProof.Rows
section
variable {P : Program} {w : World} {K : PySem.W.Frag} {mg mb : Str → Option Value} {k : Nat} {fl ad : Addr} {fd : FuncData} {x : Str} {F : Fn}
/-- what the law's def promises of a script -/
theorem law_sp {H : Hp} {ns : List Int} {bs : List Bo} (hF : F [.dt (.scr ns)] = .ok (.dt (.bl true)) bs) (hS : SqL K H ad (ns.map V.int)) :
    spG K mg 1 F [.ref ad] H (fun v _ => v = .bl true) fun _ _ _ => False := by
  refine ⟨rfl, H, [.dt (.scr ns)], rfl, ⟨Same.refl H, rfl, fun i d q => by simp at q, fun z c q => ?_, fun i k q => by simp at q, fun k d q => ?_, fun z z' c c' a q => ?_⟩, ?_⟩
  · obtain ⟨k, rfl, e⟩ := cnt_bare q
    cases k <;> simp at e
  · cases k with
    | zero => simp at q; subst q; exact ⟨_, rfl, .scr hS⟩
    | succ k => simp at q
  · obtain ⟨k, rfl, e⟩ := cnt_bare q
    cases k <;> simp at e
  · rw [hF]
    intro v B' H' _ _ q
    cases q
    rfl
/-- from a heap in which nothing but the script is tracked -/
theorem law_core {s1 : Shared} {vs : List Value} {ns : List Int} {H : Hp} {bs : List Bo} (kin : K.In s1.heap) (hns : s1.heap.Ns mainGlobals mg) (hnb : s1.heap.Ns builtinsNs mb) (hbb : ∀ y : Str, y ≠ "__name__" → mb y = bootBuiltins y)
    (hlim : s1.heap.NoLimit) (hg : s1.gens = #[]) (ha : s1.heap.get? ad = some { cls := .type "list", data := .seq vs.toArray }) (hr : Room k callerA)
    (G : ∀ base : Heap, K.In base → base.Ns mainGlobals mg → FnG P w K mg base k fl fd [x] F) (hb : ∀ (s : Shared) (u : Value), BindsTo s fd ⟨[u], []⟩ [(x, u)]) (hF : F [.dt (.scr ns)] = .ok (.dt (.bl true)) bs)
    (only : ∀ b, H b ≠ none → b = ad ∧ ∃ o xs, H b = some (.frz o (.lst xs))) (hS : SqL K H ad (ns.map V.int)) (hok : HOk P w H s1.heap) (hK : H ad ≠ none → K.lookup ad = none) :
    codeAny (model P w) callerA (.call (.ref fl) ⟨[.ref ad], []⟩) (fun r s' => r = .ok (.ret (.bool true)) ∧ OldK s1.heap s'.heap ∧ s'.os = s1.os ∧ AllBare s'.gens) s1 := by
  have stay : ∀ {b : Addr} {o : Obj}, s1.heap.get? b = some o → H b = none → (hidT s1.heap H).get? b = some o := fun e n => hidT_get e n
  have notD : ∀ {b : Addr} {o : Obj} {es : Array DictEntry} {ep : Nat}, s1.heap.get? b = some o → o.data = .dict es ep → H b = none := fun {b o es ep} e d =>
    Classical.byContradiction fun n => by
      obtain ⟨rfl, _⟩ := only b n
      rw [ha] at e
      cases e
      exact nomatch d
  have nsS : ∀ {b : Addr} {m : Str → Option Value}, s1.heap.Ns b m → (hidT s1.heap H).Ns b m := fun {b m} ⟨o, es, ep, e, d, q⟩ => ⟨o, es, ep, stay e (notD e d), d, q⟩
  have kb : K.In (hidT s1.heap H) := fun b o e => stay (kin b o e) (Classical.byContradiction fun n => by
    obtain ⟨rfl, _⟩ := only b n
    rw [hK n] at e
    cases e)
  have md : Mod K mg (hidT s1.heap H) := ⟨kb, nsS hns, ⟨mb, nsS hnb, hbb⟩, by obtain ⟨mc, h1, h2⟩ := hlim; exact ⟨mc, nsS h1, h2⟩⟩
  have e0 : Env0 P w K mg (hidT s1.heap H) callerA [] s1 H := by
    refine ⟨rfl, md, fun b o e => of_hidT e, Nat.le_of_eq (hidT_size _ _), trivial, fun b hb => ?_, hok, .of_eq hg⟩
    have : b ∈ ([] : List Addr) := hb
    cases this
  refine codeAny_mono ((G _ kb (nsS hns)).run callerA [] s1 H ⟨[.ref ad], []⟩ [.ref ad] [.ref ad] _ _ hr rfl e0 (hb s1 (.ref ad)) (.cons rfl .nil) (law_sp hF hS)) fun res s2 hq => ?_
  cases res with
  | error u =>
    obtain ⟨_, _, _, _, _, _, _, _, _, _, _, _, z⟩ := hq
    exact z.elim
  | ok f1 =>
    cases f1 with
    | next => exact hq.elim
    | brk => exact hq.elim
    | cont => exact hq.elim
    | ret u =>
      obtain ⟨v, H2, os, bare, un, hok2, rv, q⟩ := hq
      have q' : v = .bl true := q
      subst q'
      have eu : u = Value.bool true := rv
      subst eu
      refine ⟨rfl, OldK.of_keep fun b o e => ?_, os, bare⟩
      by_cases n : H b = none
      · refine un.keep b o e n (fun z => ?_) (by simp)
        have : b ∈ ([] : List Addr) := z
        cases this
      · obtain ⟨_, ob, xs, z⟩ := only b n
        obtain ⟨e1, _⟩ := hok b _ z
        obtain ⟨e2, _⟩ := hok2 b _ (un.frzs b ob _ z)
        rw [e] at e1
        cases e1
        exact e2
end
/-- the law's row from its def: F's promise over every base, the answer True at every script -/
theorem walk_ofG {l : PySem.W.OpenLaw} {n k : Nat} {q : Program} {loose : List Str} {XP : (Str → Option Value) → Heap → Prop} {YP : World → Heap → Prop} {d : DefRec} {x : Str} (hn : l.most = some n) (hz : n ≤ sizeLine) (hdf : d.params.defaults = []) (hr : Room k callerA)
    (G : ∀ (w : World) (mg : Str → Option Value) (fl : Addr) (h : Heap), YP w h → h.Ns mainGlobals mg → mg d.name = some (.ref fl) → ∃ (K : PySem.W.Frag) (fd : FuncData) (F : Fn), K.In h ∧ (∀ (s : Shared) (u : Value), BindsTo s fd ⟨[u], []⟩ [(x, u)]) ∧
      (∀ ns : List Int, ns.length ≤ n → ∃ bs, F [.dt (.scr ns)] = .ok (.dt (.bl true)) bs) ∧ ∀ base : Heap, K.In base → base.Ns mainGlobals mg → FnG l.prog w K mg base k fl fd [x] F) :
    PySem.W.WalkO q loose XP YP l.row.toRowW d [] (fun f vs => PySem.call f vs) := by
  refine Att.attach_call hn hdf fun w s0 s1 mg mb fl o pm cd doc ad vs ns gr Y ho hd hcd hmg hobj hints hlen hg => ?_
  obtain ⟨K, fd, F, kin, hb, hF, hG⟩ := G w mg fl _ Y gr.T.g hmg
  obtain ⟨bs, hF⟩ := hF ns hlen
  have rv := vals_ints hints
  have hl : ns.length ≤ sizeLine := Nat.le_trans hlen hz
  have lv := hints.length
  cases hk : K.lookup ad with
  | some ob =>
    have e := kin ad ob hk
    rw [hobj] at e
    cases e
    refine law_core (H := fun _ => none) kin gr.T.g gr.T.b gr.T.builtins gr.T.nolimit hg hobj hr hG hb hF (fun b z => absurd rfl z) ?_ (fun b u z => nomatch z) fun z => absurd rfl z
    exact .inr ⟨_, vs.toArray, _, hk, rfl, rfl, rfl, by rw [List.size_toArray, lv]; exact hl, by simpa using rv⟩
  | none =>
    have hH : ∀ b u, (if b = ad then some (HO.frz { cls := .type "list", data := .seq vs.toArray } (.lst (ns.map V.int))) else none) = some u → b = ad ∧ u = HO.frz { cls := .type "list", data := .seq vs.toArray } (.lst (ns.map V.int)) := fun b u z => by
      split at z
      · cases z; exact ⟨by assumption, rfl⟩
      · cases z
    refine law_core (H := fun b => if b = ad then some (.frz { cls := .type "list", data := .seq vs.toArray } (.lst (ns.map V.int))) else none) kin gr.T.g gr.T.b gr.T.builtins gr.T.nolimit hg hobj hr hG hb hF (fun b z => ?_) (.inl (.inr ⟨_, if_pos rfl⟩)) (fun b u z => ?_) fun _ => hk
    · by_cases e : b = ad
      · exact ⟨e, _, _, if_pos e⟩
      · exact absurd (if_neg e) z
    · obtain ⟨rfl, rfl⟩ := hH b u z
      exact ⟨hobj, by rw [List.length_map]; exact hl, vs, _, rv, hobj⟩

/-! ### names -/
section
variable {X : Cx} {x : Str} {pos p : Pos} {e : Expr} {es : List Expr} {f : M (List W)} {id : String}
theorem de_glo {v : V} {d : D} {u : Value} (hg : Gl X x) (hm : X.mg x = some u) (hv : RelV v u) (hr : ∀ B, Rp X.K B v d) (hd : (x == ("__debug__" : Str)) = false) : DE X (.Name x pos) (cC d) := de_const (pe_glob hg hm hv hd) hr
theorem de_bty {T : String} (hg : Gl X x) (hm : X.mg x = none) (hv : bootBuiltins x = some (.type T)) (hn : x ≠ "__name__") (hd : (x == ("__debug__" : Str)) = false) : DE X (.Name x pos) (cC (.ty T)) := de_const (pe_bltn (v := .ty T) hg hm hv rfl hn hd) fun _ => .ty T
theorem de_callB {rr : List V → Hp → VK → Prop} {g : List D → Option Bo} (hc : CallR X (.builtin id) rr) (hs : CallS X rr g) (hg : Gl X x) (hm : X.mg x = none) (hv : bootBuiltins x = some (.builtin id)) (ha : DA X (e :: es) f) (hn : x ≠ "__name__") (hdb : (x == ("__debug__" : Str)) = false)
    (he : starEach (e :: es) X.env = (false, eval e X.env) :: starEach es X.env) (hpl : (backTo pos (starEach es X.env)).any (·.1) = false) : DE X (.Call (.Name x p) (e :: es) [] pos) (cCallP g f) :=
  de_callP (fun _ pa => pe_callB hc hg hm hv pa hn hdb he hpl) hs ha
theorem de_callT {rr : List V → Hp → VK → Prop} {g : List D → Option Bo} (hc : CallR X (.type id) rr) (hs : CallS X rr g) (hg : Gl X x) (hm : X.mg x = none) (hv : bootBuiltins x = some (.type id)) (ha : DA X (e :: es) f) (hn : x ≠ "__name__") (hdb : (x == ("__debug__" : Str)) = false)
    (he : starEach (e :: es) X.env = (false, eval e X.env) :: starEach es X.env) (hpl : (backTo pos (starEach es X.env)).any (·.1) = false) : DE X (.Call (.Name x p) (e :: es) [] pos) (cCallP g f) :=
  de_callP (fun _ pa => pe_callTy hc hg hm hv pa hn hdb he hpl) hs ha
end
end Lc

set_option Elab.async false
set_option maxRecDepth 100000
set_option maxHeartbeats 4000000
/-! Part P: what a printed proof names. -/
namespace Lc
open PySem L2 PySem.Spec PyProof.Rows
def visB (sc : Scope) (x : Str) : Bool := match sc.names.lookup x with
  | some .local => true
  | some .cell => true
  | some .free => true
  | _ => false
def locB (sc : Scope) (x : Str) : Bool := match sc.names.lookup x with
  | some .local => true
  | some .cell => true
  | _ => false
theorem vis_by {sc : Scope} {x : Str} (h : visB sc x = true) : Vis sc x := by
  unfold visB at h
  split at h
  · exact .inl (by assumption)
  · exact .inr (.inl (by assumption))
  · exact .inr (.inr (by assumption))
  · cases h
theorem loc_by {sc : Scope} {x : Str} (h : locB sc x = true) : Loc sc x := by
  unfold locB at h
  split at h
  · exact .inl (by assumption)
  · exact .inr (by assumption)
  · cases h
/-- a def that may be called: by values, by its parameters' names -/
structure CalG (P : Program) (w : World) (K : PySem.W.Frag) (mg : Str → Option Value) (base : Heap) (k : Nat) (x : Str) (ps : List Str) (F : Fn) : Prop where
  ex : ∃ f fd, FnG P w K mg base k f fd ps F ∧ mg x = some (.ref f) ∧ PySem.W.keepIn K (.ref f) = true ∧ Binds K fd ps [] ∧ ∀ (s : Shared) (ws : List Value), K.In s.heap → ws.length = ps.length → BindsTo s fd ⟨[], ps.zip ws⟩ (ps.zip ws)
/-- names that the module does not bind -/
def FreeN (l : List Str) (mg : Str → Option Value) : Prop := ∀ (i : Nat) (x : Str), l[i]? = some x → mg x = none
section
variable {P : Program} {w : World} {K : PySem.W.Frag} {mg : Str → Option Value} {base : Heap} {x qual : Str} {params : Arguments} {body : List Stmt} {scope : Scope} {f : Addr} {fd : FuncData} {ps : List Str} {k : Nat} {F : Fn}
theorem cal_of (D : FunD K x qual params body scope [] [] f fd) (G : FnG P w K mg base k f fd ps F) (hm : mg x = some (.ref f)) 
    (h1 : ∀ (kV doc pm : Value) (an : Option Addr) (cdv ct : Value) (us : List Value), us.length = ps.length → bindArgs (PySem.W.fnOf x qual params body scope .none kV doc pm an cdv ct) ⟨us, []⟩ = pure (ps.zip us))
    (h2 : ∀ (kV doc pm : Value) (an : Option Addr) (cdv ct : Value) (us : List Value), us.length = ps.length → bindArgs (PySem.W.fnOf x qual params body scope .none kV doc pm an cdv ct) ⟨[], ps.zip us⟩ = pure (ps.zip us)) : CalG P w K mg base k x ps F := by
  refine ⟨f, fd, G, hm, D.kp, D.bindsN h1, fun s ws _ hl => ?_⟩
  obtain ⟨oc, od, dV, kV, doc, pm, an, cdv, ct, osl, rfl, lk, hcd, hD, hK⟩ := D.ex
  rcases hD with ⟨_, rfl⟩ | ⟨e, _⟩
  · exact .of_eq (h2 kV doc pm an cdv ct ws hl)
  · exact absurd rfl e
/-- a def of the text does what its body denotes -/
theorem fnG_ofD {N : List Str} {bd : M Fl} {n : Nat} (D : FunD K x qual params body scope [] [] f fd) (S : FnScope N ps scope) (hn : N.length = n)
    (hbody : ∀ (cdv : Value) (A : Around) (outer : List Env) (s : Shared) (H : Hp) (E : XK), Room k (A.deeper (envOfC qual scope s.heap.objs.size f cdv)) → A.guards = some [] →
      DSs (cxOf (L2.CX P w) P w K mg base N qual scope f cdv A outer s H E) body bd) : FnG P w K mg base (k + 1) f fd ps (runF n bd) := by
  subst hn
  obtain ⟨oc, od, dV, kV, doc, pm, an, cdv, ct, osl, rfl, lk, hcd, _, _⟩ := D.ex
  refine ⟨fun A outer s H args us vs Q E hr hgu e0 hb rv ⟨hl, B, as, ha, R, hp⟩ => ?_⟩
  have inK : K.In s.heap := e0.mod.kin.keeps fun b o e => (e0.bs b o e).1
  have nolim : s.heap.NoLimit := e0.mod.nolimit.keeps fun b o e => (e0.bs b o e).1
  have kinds : ∀ y ∈ ps.zip us, scope.names.lookup y.1 = some .local ∨ (scope.names.lookup y.1 = some .cell ∧ ((cellsFrom (s.heap.objs.size + 1) scope.names []).lookup y.1).isSome = true) := by
    rintro ⟨y, u⟩ hy
    rcases S.par y (List.of_mem_zip hy).1 with q | q
    · exact Or.inl q
    · exact Or.inr ⟨q, PySem.W.cellsFrom_some _ _ _ (Or.inl q)⟩
  refine codeAny_call_function hr.depth (inK _ _ lk) rfl S.co S.gen rfl (PySem.W.codeRec_of inK hcd) (hb _ _ _ _ ?_)
  refine wpAny_newFunctionEnv_cells S.kind kinds fun env he s1 ic => ?_
  subst he
  refine ⟨nolim.keeps ic.toInCall.keep, codeAny_func ?_⟩
  obtain ⟨t, pt, qt⟩ := (hbody cdv A outer s H E (hr.deeper _) hgu).run _ (takes_of rfl rfl rfl rfl)
  have I := inv_start (CX := L2.CX P w) (P := P) (w := w) (K := K) (mg := mg) (base := base) (N := N) (qual := qual) (f := f) (cd := cdv) (E := E) S hr.hd e0 hl rv ic
  have q := qt vs B (L2.start N vs) H (entry N.length as) _ (entry_rl R (hl.trans ha.symm)) (runF_ok rfl rfl R (hl.trans ha.symm) hp)
  refine wpAny_mono (pt.run [] s1 (L2.start N vs) H _ I q) (fun fl s2 hs => ?_) fun e s2 hs => hs
  cases fl with
  | ret u =>
    obtain ⟨v, σ2, H2, J, ru, z⟩ := hs
    exact ⟨v, H2, J.os, J.bare, J.base, J.hok, ru, z⟩
  | next =>
    obtain ⟨σ2, H2, J, z⟩ := hs
    exact ⟨.non, H2, J.os, J.bare, J.base, J.hok, rfl, z⟩
  | brk => obtain ⟨_, _, _, z⟩ := hs; exact z.elim
  | cont => obtain ⟨_, _, _, z⟩ := hs; exact z.elim
end
section
variable {X : Cx} {k : Nat} {ps : List Str} {F : Fn} {x : Str} {p pos : Pos} {e : Expr} {es : List Expr} {kws : List Keyword} {g : M (List W)}
theorem de_callC (C : CalG X.prog X.w X.K X.mg X.base k x ps F) (hr : Room k X.A) (hgu : X.A.guards = some []) (hg : Gl X x) (ha : DA X (e :: es) g) (hn : ArgN g ps.length)
    (hdb : (x == ("__debug__" : Str)) = false) (he : starEach (e :: es) X.env = (false, eval e X.env) :: starEach es X.env) (hpl : (backTo pos (starEach es X.env)).any (·.1) = false) : DE X (.Call (.Name x p) (e :: es) [] pos) (cCall F g) := by
  obtain ⟨f, fd, G, hm, hk, hb, _⟩ := C.ex
  exact de_call G hr hgu hg hm hk hb ha hn hdb he hpl
theorem de_callC0 (C : CalG X.prog X.w X.K X.mg X.base k x [] F) (hr : Room k X.A) (hgu : X.A.guards = some []) (hg : Gl X x) (hdb : (x == ("__debug__" : Str)) = false) : DE X (.Call (.Name x p) [] [] pos) (cCall F (M.ret [])) := by
  obtain ⟨f, fd, G, hm, hk, hb, _⟩ := C.ex
  exact de_call0 G hr hgu hg hm hk hb hdb
theorem de_callCK (C : CalG X.prog X.w X.K X.mg X.base k x ps F) (hr : Room k X.A) (hgu : X.A.guards = some []) (hg : Gl X x) (ha : DK X kws g) (hn : ArgN g ps.length)
    (hdb : (x == ("__debug__" : Str)) = false) (hall : (backToKw pos (keywordEach kws X.env)).all (·.1.isSome) = true) (hks : (backToKw pos (keywordEach kws X.env)).filterMap (·.1) = ps)
    (hpl : ((backTo pos (starEach [] X.env)).any (·.1) || (backToKw pos (keywordEach kws X.env)).any (·.1.isNone)) = false) : DE X (.Call (.Name x p) [] kws pos) (cCall F g) := by
  obtain ⟨f, fd, G, hm, hk, _, hb⟩ := C.ex
  exact de_callK G hr hgu hg hm hk hb ha hn hdb hall hks hpl
theorem de_gloS {z : Str} (hg : Gl X x) (hm : ∃ t, X.mg x = some (.str z t)) (hd : (x == ("__debug__" : Str)) = false) : DE X (.Name x pos) (cC (.str z)) := by
  obtain ⟨t, hm⟩ := hm
  exact de_glo (v := .str z) hg hm ⟨t, rfl⟩ (fun _ => .str z) hd
theorem de_gloI {z : Int} (hg : Gl X x) (hm : ∃ t, X.mg x = some (.int z t)) (hd : (x == ("__debug__" : Str)) = false) : DE X (.Name x pos) (cC (.int z)) := by
  obtain ⟨t, hm⟩ := hm
  exact de_glo (v := .int z) hg hm ⟨t, rfl⟩ (fun _ => .int z) hd
end
theorem room_u {k : Nat} {A : Around} (r : Room k A) (n : Nat) (h : n ≤ 200) : A.units + n < cLine := by have := r.un; omega
end Lc

set_option Elab.async false
set_option maxRecDepth 100000
set_option maxHeartbeats 4000000
/-! Part Q: the denotations computed by simp. -/
namespace Lc
open PySem L2
section
variable {α β : Type} {r r1 : Rho} {m : M α} {f : α → M β}
@[simp] theorem q_bind : M.bind m f r = (match m r with | .ok a r1 => f a r1 | .exc x r1 => .exc x r1 | .fail => .fail) := rfl
@[simp] theorem q_ret {a : α} : M.ret a r = .ok a r := rfl
@[simp] theorem q_no : (M.no : M α) r = .fail := rfl
@[simp] theorem q_optS {a : α} : M.opt (some a) r = .ok a r := rfl
@[simp] theorem q_optN : M.opt (none : Option α) r = .fail := rfl
@[simp] theorem q_view {w : W} : M.view w r = (match w.view r with | some d => .ok d r | none => .fail) := rfl
@[simp] theorem q_wd {d : D} : W.view r (.dt d) = some d := rfl
@[simp] theorem q_wf {c : Cn} : W.view r (.fresh c) = some c.toD := rfl
@[simp] theorem q_wc {z : Ix} : W.view r (.cel z) = r.look z := rfl
@[simp] theorem q_tl {l : List D} : Cn.toD (.lst l) = .lst l := rfl
@[simp] theorem q_td {l : List (D × D)} : Cn.toD (.dct l) = .dct l := rfl
@[simp] theorem q_ll {i : Nat} {l : List (Option Sl)} {b : List Bo} : Rho.look ⟨l, b⟩ (.loc i) = (match l[i]? with | some (some (.own c)) => some c.toD | some (some (.dt d)) => some d | _ => none) := rfl
@[simp] theorem q_lb {i : Nat} {l : List (Option Sl)} {b : List Bo} : Rho.look ⟨l, b⟩ (.bor i) = (match b[i]? with | some (.own c) => some c.toD | some (.dt d) => some d | _ => none) := rfl
@[simp] theorem q_cl {i : Nat} {l : List (Option Sl)} {b : List Bo} : Rho.cnt ⟨l, b⟩ (.loc i) = (match l[i]? with | some (some (.own c)) => some c | _ => none) := rfl
@[simp] theorem q_cb {i : Nat} {l : List (Option Sl)} {b : List Bo} : Rho.cnt ⟨l, b⟩ (.bor i) = (match b[i]? with | some (.own c) => some c | _ => none) := rfl
@[simp] theorem q_sl {i : Nat} {l : List (Option Sl)} {b : List Bo} {c : Cn} : Rho.setc ⟨l, b⟩ c (.loc i) = ⟨l.set i (some (.own c)), b⟩ := rfl
@[simp] theorem q_sb {i : Nat} {l : List (Option Sl)} {b : List Bo} {c : Cn} : Rho.setc ⟨l, b⟩ c (.bor i) = ⟨l, b.set i (.own c)⟩ := rfl
@[simp] theorem q_fl {i : Nat} {l : List (Option Sl)} {b : List Bo} {d : D} : Rho.frz ⟨l, b⟩ d (.loc i) = ⟨l.set i (some (.dt d)), b⟩ := rfl
@[simp] theorem q_fb {i : Nat} {l : List (Option Sl)} {b : List Bo} {d : D} : Rho.frz ⟨l, b⟩ d (.bor i) = ⟨l, b.set i (.dt d)⟩ := rfl
@[simp] theorem q_put {i : Nat} {l : List (Option Sl)} {b : List Bo} {s : Sl} : Rho.put ⟨l, b⟩ i s = ⟨l.set i (some s), b⟩ := rfl
@[simp] theorem q_giveS {b : Bo} : M.give (some b) r = .ok b.toW r := rfl
@[simp] theorem q_giveN : M.give none r = .fail := rfl
@[simp] theorem q_bod {d : D} : Bo.toW (.dt d) = .dt d := rfl
@[simp] theorem q_boo {c : Cn} : Bo.toW (.own c) = .fresh c := rfl
@[simp] theorem q_chk {c : Bool} : M.chk c r = if c = true then .ok () r else .fail := rfl
@[simp] theorem q_var {i : Nat} : cVar i r = (match r.loc[i]? with | some (some (.dt d)) => .ok (.dt d) r | some (some (.own _)) => .ok (.cel (.loc i)) r | some (some (.bor k)) => .ok (.cel (.bor k)) r | _ => .fail) := rfl
@[simp] theorem q_c {d : D} : cC d r = .ok (.dt d) r := rfl
variable {fa fb fc : M W} {ga gb : M Bool} {g g' : D → D → Option Bo} {g1 : D → Option Bo} {gl : List D → Option Bo} {fs : M (List W)}
@[simp] theorem q_op2 : cOp2 g fa fb = M.bind fa fun wa => M.bind fb fun wb => M.bind (M.view wa) fun da => M.bind (M.view wb) fun db => M.give (g da db) := rfl
@[simp] theorem q_op1 : cOp1 g1 fa = M.bind fa fun wa => M.bind (M.view wa) fun da => M.give (g1 da) := rfl
@[simp] theorem q_tru : cTru fa = M.bind fa fun w => M.bind (M.view w) fun d => M.opt d.tru := rfl
@[simp] theorem q_bl : M.bl fa = M.bind fa W.asB := rfl
@[simp] theorem q_asB {b : Bool} : W.asB (.dt (.bl b)) = M.ret b := rfl
@[simp] theorem q_asI {i : Int} : W.asI (.dt (.int i)) = M.ret (some i) := rfl
@[simp] theorem q_asS {i : Str} : W.asS (.dt (.str i)) = M.ret i := rfl
@[simp] theorem q_andT : cAndT ga gb = M.bind ga fun k => if k = true then gb else M.ret false := rfl
@[simp] theorem q_orT : cOrT ga gb = M.bind ga fun k => if k = true then M.ret true else gb := rfl
@[simp] theorem q_notT : cNotT ga = M.bind ga fun k => M.ret (!k) := rfl
@[simp] theorem q_and : cAnd fa fb = M.bind fa fun w => M.bind (M.view w) fun d => M.bind (M.opt d.tru) fun k => if k = true then fb else M.ret w := rfl
@[simp] theorem q_or : cOr fa fb = M.bind fa fun w => M.bind (M.view w) fun d => M.bind (M.opt d.tru) fun k => if k = true then M.ret w else fb := rfl
@[simp] theorem q_not : cNot fa = M.bind (cTru fa) fun k => M.ret (.dt (.bl (!k))) := rfl
@[simp] theorem q_ifE : cIfE ga fa fb = M.bind ga fun k => if k = true then fa else fb := rfl
@[simp] theorem q_trb {b : Bool} : D.tru (.bl b) = some b := rfl
@[simp] theorem q_chain : cChain g g' fa fb fc = M.bind fa fun wa => M.bind fb fun wb => M.bind (M.view wa) fun da => M.bind (M.view wb) fun db => match g da db with
  | some (.dt (.bl true)) => M.bind fc fun wc => M.bind (M.view wb) fun db => M.bind (M.view wc) fun dc => M.give (g' db dc)
  | some (.dt (.bl false)) => M.ret (.dt (.bl false))
  | _ => M.no := rfl
@[simp] theorem q_frzD {d : D} : W.frz (.dt d) r = .ok d r := rfl
@[simp] theorem q_frzF {c : Cn} : W.frz (.fresh c) r = .ok c.toD r := rfl
@[simp] theorem q_frzC {z : Ix} : W.frz (.cel z) r = (match r.cnt z with | some c => .ok c.toD (r.frz c.toD z) | none => match r.look z with | some d => .ok d r | none => .fail) := rfl
@[simp] theorem q_fan : frzAll [] = M.ret [] := rfl
@[simp] theorem q_fac {w : W} {ws : List W} : frzAll (w :: ws) = M.bind w.frz fun d => M.bind (frzAll ws) fun ds => M.ret (d :: ds) := rfl
@[simp] theorem q_van : viewAll [] = M.ret [] := rfl
@[simp] theorem q_vac {w : W} {ws : List W} : viewAll (w :: ws) = M.bind (M.view w) fun d => M.bind (viewAll ws) fun ds => M.ret (d :: ds) := rfl
@[simp] theorem q_cons : cCons fa fs = M.bind fa fun w => M.bind fs fun ws => M.ret (w :: ws) := rfl
@[simp] theorem q_lst : cLst fs = M.bind fs fun ws => M.bind (frzAll ws) fun ds => M.bind (M.chk (decide (ds.length ≤ sizeLine))) fun _ => M.ret (.fresh (.lst ds)) := rfl
@[simp] theorem q_tup : cTup fs = M.bind fs fun ws => M.bind (frzAll ws) fun ds => M.bind (M.chk (decide (ds.length ≤ sizeLine))) fun _ => M.ret (.dt (.tup ds)) := rfl
@[simp] theorem q_callP : cCallP gl fs = M.bind fs fun ws => M.bind (viewAll ws) fun ds => M.give (gl ds) := rfl
@[simp] theorem q_csl {gs : D → Option Int → Option Int → Option Bo} {lo hi : M (Option Int)} : cSl gs fa lo hi = M.bind fa fun w => M.bind lo fun lo => M.bind hi fun hi => M.bind (M.view w) fun d => M.give (gs d lo hi) := rfl
@[simp] theorem q_m1 {gm : Str → List D → Option Bo} : cM1 gm fa fb = M.bind fa fun wo => M.bind wo.asS fun a => M.bind fb fun we => M.bind (M.view we) fun d => M.give (gm a [d]) := rfl
@[simp] theorem q_m0 {gm : Str → List D → Option Bo} : cM0 gm fa = M.bind fa fun wo => M.bind wo.asS fun a => M.give (gm a []) := rfl
@[simp] theorem q_dct0 : cDct0 = M.ret (.fresh (.dct [])) := rfl
@[simp] theorem q_dct : cDct fs = M.bind fs fun ws => M.bind (frzAll ws) fun ds => M.bind (M.opt (pairsD ds)) fun l => M.bind (M.chk (decide (l.length ≤ 15))) fun _ => M.ret (.fresh (.dct (mergeD [] l))) := rfl
variable {sf sg : M Fl} {T : W → M Unit}
@[simp] theorem q_seq : cSeq sf sg r = (match sf r with | .ok .next r1 => sg r1 | x => x) := rfl
@[simp] theorem q_drop : cDrop fa = M.bind fa fun _ => M.ret .next := rfl
@[simp] theorem q_cret : cRet fa = M.bind fa fun w => M.ret (.ret w) := rfl
@[simp] theorem q_ifS : cIfS ga sf sg = M.bind ga fun k => if k = true then sf else sg := rfl
@[simp] theorem q_asg : cAsg fa T = M.bind fa fun w => M.bind (T w) fun _ => M.ret .next := rfl
@[simp] theorem q_for {fi : M (List D)} : cFor fi T sf = M.bind fi (loopL T sf) := rfl
@[simp] theorem q_gN {i : Nat} {w : W} : gN i w = M.bind (settle w) fun sl => fun r => if i < r.loc.length then .ok () (r.put i sl) else .fail := rfl
@[simp] theorem q_sed {d : D} : settle (.dt d) r = .ok (.dt d) r := rfl
@[simp] theorem q_sef {c : Cn} : settle (.fresh c) r = .ok (.own c) r := rfl
@[simp] theorem q_seb {k : Nat} : settle (.cel (.bor k)) r = .ok (.bor k) r := rfl
@[simp] theorem q_sec {i : Nat} : settle (.cel (.loc i)) r = (match r.cnt (.loc i) with | some c => .ok (.dt c.toD) (r.frz c.toD (.loc i)) | none => match r.look (.loc i) with | some d => .ok (.dt d) r | none => .fail) := rfl
@[simp] theorem q_gT {n : Nat} {h : List D → M Unit} {ds : List D} : gT n h (.dt (.tup ds)) = M.bind (M.chk (decide (ds.length = n))) fun _ => h ds := rfl
@[simp] theorem q_gsn : gsNil [] = M.ret () := rfl
@[simp] theorem q_gsc {h : List D → M Unit} {d : D} {ds : List D} : gsCons T h (d :: ds) = M.bind (T (.dt d)) fun _ => h ds := rfl
@[simp] theorem q_gix {d : D} : gIx fa fb (.dt d) = M.bind fa fun wo => M.bind fb fun wi => match wo, wi with
    | .cel z, .dt (.int i) => fun r => match r.cnt z with
      | some (.lst ds) => match ixN ds.length i with
        | some j => .ok () (r.setc (.lst (ds.set j d)) z)
        | none => .fail
      | _ => .fail
    | _, _ => M.no := rfl
@[simp] theorem q_par {i j : Nat} : cPar2 i j fs = M.bind fs fun ws => match ws with
  | [w1, w2] => if w2.isLoc i = true then M.no else M.bind (gN i w1) fun _ => M.bind (gN j w2) fun _ => M.ret .next
  | _ => M.no := rfl
@[simp] theorem q_isd {i : Nat} {d : D} : W.isLoc i (.dt d) = false := rfl
@[simp] theorem q_isf {i : Nat} {c : Cn} : W.isLoc i (.fresh c) = false := rfl
@[simp] theorem q_isb {i k : Nat} : W.isLoc i (.cel (.bor k)) = false := rfl
@[simp] theorem q_isl {i k : Nat} : W.isLoc i (.cel (.loc k)) = decide (k = i) := rfl
@[simp] theorem q_its {x : Str} : W.items (.dt (.str x)) = M.ret (signs x) := rfl
@[simp] theorem q_itt {l : List D} : W.items (.dt (.tup l)) = M.ret l := rfl
@[simp] theorem q_itl {l : List D} : W.items (.dt (.lst l)) = M.ret l := rfl
@[simp] theorem q_itf {l : List D} : W.items (.fresh (.lst l)) = M.ret l := rfl
@[simp] theorem q_rng1 {j : Int} : W.rng1 [.dt (.int j)] = M.bind (M.chk (decide (-(2 ^ 62) ≤ j ∧ j < 2 ^ 62))) fun _ => M.ret (rngD 0 j.toNat) := rfl
@[simp] theorem q_rng2 {i j : Int} : W.rng2 [.dt (.int i), .dt (.int j)] = M.bind (M.chk (decide (-(2 ^ 62) ≤ i ∧ i < 2 ^ 62 ∧ -(2 ^ 62) ≤ j ∧ j < 2 ^ 62))) fun _ => M.ret (rngD i (j - i).toNat) := rfl
@[simp] theorem q_wipe {l : List (Option Sl)} {b : List Bo} {own : List Nat} : Rho.wipe ⟨l, b⟩ own = ⟨wipeG l own, b⟩ := rfl
@[simp] theorem q_wgn {l : List (Option Sl)} : wipeG l [] = l := rfl
@[simp] theorem q_wgc {l : List (Option Sl)} {v : Nat} {vs : List Nat} : wipeG l (v :: vs) = (wipeG l vs).set v none := rfl
@[simp] theorem q_back {l : List (Option Sl)} {b : List Bo} {re : Rho} {own : List Nat} : Rho.back ⟨l, b⟩ re own = ⟨backL l re.loc own, re.bor⟩ := rfl
@[simp] theorem q_bkn {l l' : List (Option Sl)} : backL l l' [] = l' := rfl
@[simp] theorem q_bkc {l l' : List (Option Sl)} {v : Nat} {vs : List Nat} : backL l l' (v :: vs) = (match l[v]? with | some x => (backL l l' vs).set v x | none => backL l l' vs) := by rw [backL]; cases l[v]? <;> rfl
@[simp] theorem q_noOwn {l : List (Option Sl)} {b : List Bo} {own : List Nat} : Rho.noOwn ⟨l, b⟩ own = own.all fun i => match l[i]? with | some (some (.own _)) => false | _ => true := rfl
@[simp] theorem q_lc {fi : M (List D)} {own : List Nat} : cLc fi own T ga fa = M.bind fi fun ds => fun r1 => if r1.noOwn own = true then
  match lcLoop own T ga fa ds [] (r1.wipe own) with
  | .ok acc re => .ok (.fresh (.lst acc)) (r1.back re own)
  | _ => .fail
  else .fail := rfl
@[simp] theorem q_agd {d : D} : argOf r (.dt d) = some (.dt d) := rfl
@[simp] theorem q_agf {c : Cn} : argOf r (.fresh c) = some (.own c) := rfl
@[simp] theorem q_agc {z : Ix} : argOf r (.cel z) = (match r.cnt z with | some c => some (.own c) | none => match r.look z with | some d => some (.dt d) | none => none) := rfl
@[simp] theorem q_asn : argsOf r [] = some [] := rfl
@[simp] theorem q_asc {w : W} {ws : List W} : argsOf r (w :: ws) = (match argOf r w, argsOf r ws with | some b, some bs => some (b :: bs) | _, _ => none) := rfl
@[simp] theorem q_ced {d : D} : celOf r (.dt d) = none := rfl
@[simp] theorem q_cef {c : Cn} : celOf r (.fresh c) = none := rfl
@[simp] theorem q_cec {z : Ix} : celOf r (.cel z) = (match r.cnt z with | some _ => some z | none => none) := rfl
@[simp] theorem q_apn : apart r [] = true := rfl
@[simp] theorem q_apc {w : W} {ws : List W} : apart r (w :: ws) = ((match celOf r w with | some z => ws.all fun u => decide (celOf r u ≠ some z) | none => true) && apart r ws) := rfl
@[simp] theorem q_fi0 {z : Ix} {bs : List Bo} : findArg z [] bs = none := by cases bs <;> rfl
@[simp] theorem q_fic {z z' : Ix} {ws : List W} {b : Bo} {bs : List Bo} : findArg z (.cel z' :: ws) (b :: bs) = if z' = z then some b else findArg z ws bs := rfl
@[simp] theorem q_fid {z : Ix} {d : D} {ws : List W} {b : Bo} {bs : List Bo} : findArg z (.dt d :: ws) (b :: bs) = findArg z ws bs := rfl
@[simp] theorem q_fif {z : Ix} {c : Cn} {ws : List W} {b : Bo} {bs : List Bo} : findArg z (.fresh c :: ws) (b :: bs) = findArg z ws bs := rfl
@[simp] theorem q_usn {ws : List W} {bs : List Bo} {i : Nat} : upSl ws bs i none = none := rfl
@[simp] theorem q_usd {ws : List W} {bs : List Bo} {i : Nat} {d : D} : upSl ws bs i (some (.dt d)) = some (.dt d) := rfl
@[simp] theorem q_usb {ws : List W} {bs : List Bo} {i k : Nat} : upSl ws bs i (some (.bor k)) = some (.bor k) := rfl
@[simp] theorem q_uso {ws : List W} {bs : List Bo} {i : Nat} {c : Cn} : upSl ws bs i (some (.own c)) = (match findArg (.loc i) ws bs with | some (.own c') => some (.own c') | some (.dt d) => some (.dt d) | none => some (.own c)) := rfl
@[simp] theorem q_ubd {ws : List W} {bs : List Bo} {i : Nat} {d : D} : upBo ws bs i (.dt d) = .dt d := rfl
@[simp] theorem q_ubo {ws : List W} {bs : List Bo} {i : Nat} {c : Cn} : upBo ws bs i (.own c) = (match findArg (.bor i) ws bs with | some b => b | none => .own c) := rfl
@[simp] theorem q_aft {l : List (Option Sl)} {b : List Bo} {ws : List W} {bs : List Bo} : Rho.after ⟨l, b⟩ ws bs = ⟨l.mapIdx (upSl ws bs), b.mapIdx (upBo ws bs)⟩ := rfl
@[simp] theorem q_call {F : Fn} : cCall F fs = M.bind fs fun ws => fun r => match argsOf r ws with
  | some as => if apart r ws = true then match F as with
      | .ok b bs => .ok b.toW (r.after ws bs)
      | .exc x bs => .exc x (r.after ws bs)
      | .fail => .fail
    else .fail
  | none => .fail := rfl
@[simp] theorem q_eln {k : Nat} : entryL k [] = [] := rfl
@[simp] theorem q_eld {k : Nat} {d : D} {as : List Bo} : entryL k (.dt d :: as) = some (.dt d) :: entryL (k + 1) as := rfl
@[simp] theorem q_elo {k : Nat} {c : Cn} {as : List Bo} : entryL k (.own c :: as) = some (.bor k) :: entryL (k + 1) as := rfl
@[simp] theorem q_ent {n : Nat} {as : List Bo} : entry n as = ⟨entryL 0 as ++ List.replicate (n - as.length) none, as⟩ := rfl
@[simp] theorem q_fid2 {d : D} : finish (.dt d) r = .ok (.dt d) r.bor := rfl
@[simp] theorem q_fif2 {c : Cn} : finish (.fresh c) r = .ok (.own c) r.bor := rfl
@[simp] theorem q_fil {i : Nat} : finish (.cel (.loc i)) r = (match r.cnt (.loc i) with | some c => .ok (.own c) r.bor | none => match r.look (.loc i) with | some d => .ok (.dt d) r.bor | none => .fail) := rfl
@[simp] theorem q_fib {k : Nat} : finish (.cel (.bor k)) r = (match r.cnt (.bor k) with | some c => .ok (.dt c.toD) (r.frz c.toD (.bor k)).bor | none => match r.look (.bor k) with | some d => .ok (.dt d) r.bor | none => .fail) := rfl
theorem q_run {n : Nat} {b : M Fl} {as : List Bo} : runF n b as = (match b (entry n as) with | .ok .next r => .ok (.dt .non) r.bor | .ok (.ret w) r => finish w r | .ok _ _ => .fail | .exc x r => .exc x r.bor | .fail => .fail) := rfl
@[simp] theorem q_iD {i : Int} : iD i = some (.dt (.int i)) := rfl
@[simp] theorem q_bD {i : Bool} : bD i = some (.dt (.bl i)) := rfl
@[simp] theorem q_sD {i : Str} : sD i = some (.dt (.str i)) := rfl
theorem q_size : sizeLine = 16777216 := sizeLine_eq
/-- a loop that goes through -/
theorem loopL_inv {T : W → M Unit} {body : M Fl} (I : Rho → Prop) : ∀ (ds : List D) (r : Rho), I r → (∀ d ∈ ds, ∀ r, I r → ∃ r1 r2, T (.dt d) r = .ok () r1 ∧ body r1 = .ok .next r2 ∧ I r2) → ∃ r', loopL T body ds r = .ok .next r' ∧ I r'
  | [], r, h, _ => ⟨r, rfl, h⟩
  | d :: ds, r, h, k => by
    obtain ⟨r1, r2, e1, e2, h2⟩ := k d List.mem_cons_self r h
    obtain ⟨r', e3, h3⟩ := loopL_inv I ds r2 h2 fun x hx => k x (List.mem_cons_of_mem _ hx)
    exact ⟨r', by simp only [loopL, e1, e2, e3], h3⟩
/-- a comprehension without tests: each step's value by a relation -/
theorem lc_inv {own : List Nat} {T : W → M Unit} {fe : M W} (I : Rho → Prop) (G : D → Prop) : ∀ (ds : List D) (acc : List D) (r : Rho), acc.length + ds.length ≤ sizeLine → I r →
    (∀ d ∈ ds, ∀ r, I r → ∃ r1 w r3 y r4, T (.dt d) r = .ok () r1 ∧ fe r1 = .ok w r3 ∧ w.frz r3 = .ok y r4 ∧ G y ∧ I (r4.wipe own)) →
    ∃ ys r', lcLoop own T (M.ret true) fe ds acc r = .ok (acc ++ ys) r' ∧ I r' ∧ ys.length = ds.length ∧ ∀ y ∈ ys, G y
  | [], acc, r, _, h, _ => ⟨[], r, by rw [List.append_nil]; rfl, h, rfl, fun _ z => nomatch z⟩
  | d :: ds, acc, r, hl, h, k => by
    obtain ⟨r1, w, r3, y, r4, e1, e2, e3, hg, h2⟩ := k d List.mem_cons_self r h
    rw [List.length_cons] at hl
    obtain ⟨ys, r', e4, h3, h5, h6⟩ := lc_inv (own := own) (T := T) (fe := fe) I G ds (acc ++ [y]) (r4.wipe own) (by rw [List.length_append, List.length_singleton]; omega) h2 fun x hx => k x (List.mem_cons_of_mem _ hx)
    refine ⟨y :: ys, r', ?_, h3, by rw [List.length_cons, List.length_cons, h5], fun z hz => ?_⟩
    · have hlt : acc.length < sizeLine := by omega
      simp only [lcLoop, e1, M.ret, e2, e3, if_pos hlt, e4, List.append_assoc, List.singleton_append]
    · rcases List.mem_cons.mp hz with rfl | hz
      · exact hg
      · exact h6 z hz
/-- a comprehension whose values are a function of the items, the frame left as it was -/
theorem lc_map {own : List Nat} {T : W → M Unit} {fe : M W} {r : Rho} (G : D → D) : ∀ (ds : List D) (acc : List D), acc.length + ds.length ≤ sizeLine →
    (∀ d ∈ ds, ∃ r1 w r3 r4, T (.dt d) r = .ok () r1 ∧ fe r1 = .ok w r3 ∧ w.frz r3 = .ok (G d) r4 ∧ r4.wipe own = r) →
    lcLoop own T (M.ret true) fe ds acc r = .ok (acc ++ ds.map G) r
  | [], acc, _, _ => by rw [List.map_nil, List.append_nil]; rfl
  | d :: ds, acc, hl, k => by
    obtain ⟨r1, w, r3, r4, e1, e2, e3, h2⟩ := k d List.mem_cons_self
    rw [List.length_cons] at hl
    have hlt : acc.length < sizeLine := by omega
    simp only [lcLoop, e1, M.ret, e2, e3, if_pos hlt, h2]
    have := lc_map (own := own) (T := T) (fe := fe) (r := r) G ds (acc ++ [G d]) (by rw [List.length_append, List.length_singleton]; omega) fun x hx => k x (List.mem_cons_of_mem _ hx)
    rw [this, List.map_cons, List.append_assoc, List.singleton_append]
theorem cLc_inv {fi : M (List D)} {own : List Nat} {T : W → M Unit} {fe : M W} {ds : List D} {r r1 : Rho} (hi : fi r = .ok ds r1) (hno : r1.noOwn own = true) (I : Rho → Prop) (G : D → Prop) (hl : ds.length ≤ sizeLine) (h0 : I (r1.wipe own))
    (k : ∀ d ∈ ds, ∀ r, I r → ∃ r1 w r3 y r4, T (.dt d) r = .ok () r1 ∧ fe r1 = .ok w r3 ∧ w.frz r3 = .ok y r4 ∧ G y ∧ I (r4.wipe own)) :
    ∃ ys re, cLc fi own T (M.ret true) fe r = .ok (.fresh (.lst ys)) (r1.back re own) ∧ I re ∧ ys.length = ds.length ∧ ∀ y ∈ ys, G y := by
  obtain ⟨ys, re, e, h1, h2, h3⟩ := lc_inv (own := own) (T := T) (fe := fe) I G ds [] (r1.wipe own) (by simpa using hl) h0 k
  refine ⟨ys, re, ?_, h1, h2, h3⟩
  rw [List.nil_append] at e
  simp only [cLc, M.bind, hi, if_pos hno, e]
theorem cLc_map {fi : M (List D)} {own : List Nat} {T : W → M Unit} {fe : M W} {ds : List D} {r r1 : Rho} (hi : fi r = .ok ds r1) (hno : r1.noOwn own = true) (G : D → D) (hl : ds.length ≤ sizeLine)
    (k : ∀ d ∈ ds, ∃ r2 w r3 r4, T (.dt d) (r1.wipe own) = .ok () r2 ∧ fe r2 = .ok w r3 ∧ w.frz r3 = .ok (G d) r4 ∧ r4.wipe own = r1.wipe own) :
    cLc fi own T (M.ret true) fe r = .ok (.fresh (.lst (ds.map G))) (r1.back (r1.wipe own) own) := by
  have e := lc_map (own := own) (T := T) (fe := fe) (r := r1.wipe own) G ds [] (by simpa using hl) k
  rw [List.nil_append] at e
  simp only [cLc, M.bind, hi, if_pos hno, e]
theorem cFor_inv {fi : M (List D)} {T : W → M Unit} {body : M Fl} {ds : List D} {r r1 : Rho} (hi : fi r = .ok ds r1) (I : Rho → Prop) (h0 : I r1) (k : ∀ d ∈ ds, ∀ r, I r → ∃ r1 r2, T (.dt d) r = .ok () r1 ∧ body r1 = .ok .next r2 ∧ I r2) :
    ∃ r', cFor fi T body r = .ok .next r' ∧ I r' := by
  obtain ⟨r', e, h⟩ := loopL_inv I ds r1 h0 k
  exact ⟨r', by simp only [cFor, M.bind, hi, e], h⟩
end
end Lc

set_option Elab.async false
set_option maxRecDepth 100000
set_option maxHeartbeats 4000000
/-! Part R: texts by their length and signs. -/
namespace Lc
open PySem L2
/-- at most n signs, none of them beyond the code points -/
structure Wd (n : Nat) (x : Str) : Prop where
  len : x.length ≤ n
  low : ∀ c ∈ x.cps.toList, c < 1114112
theorem Wd.mono {n m : Nat} {x : Str} (h : Wd n x) (l : n ≤ m) : Wd m x := ⟨Nat.le_trans h.len l, h.low⟩
theorem len_list (x : Str) : x.length = x.cps.toList.length := by simp [Str.length]
theorem Wd.app {n m : Nat} {x y : Str} (h : Wd n x) (k : Wd m y) : Wd (n + m) (x ++ y) := by
  refine ⟨by rw [Str.length_append]; have := h.len; have := k.len; omega, fun c hc => ?_⟩
  rw [Str.cps_append] at hc
  simp only [Array.toList_append, List.mem_append] at hc
  exact hc.elim (h.low c) (k.low c)
theorem Wd.of_list {n : Nat} {l : List Nat} (h : l.length ≤ n) (k : ∀ c ∈ l, c < 1114112) : Wd n ⟨l.toArray⟩ := ⟨by simpa [Str.length] using h, by simpa using k⟩
theorem Wd.cut {n : Nat} {x : Str} {lo hi : Option Int} (h : Wd n x) : Wd n (cutS x lo hi) := by
  refine Wd.of_list ?_ fun c hc => h.low c (List.mem_of_mem_drop (List.mem_of_mem_take hc))
  have := h.len
  rw [len_list] at this
  rw [List.length_take, List.length_drop]
  omega
theorem Wd.one {c : Nat} (h : c < 1114112) : Wd 1 ⟨#[c]⟩ := ⟨by simp [Str.length], by simpa using h⟩
theorem cut_len {x : Str} {k : Nat} (h : k ≤ x.length) : (cutS x none (some (k : Int))).length = k := by
  unfold cutS
  rw [HT.sIx_none, HT.sIx_nat]
  have := len_list x
  simp only [Str.length, List.size_toArray, List.length_take, List.drop_zero] at *
  omega
theorem join_wd {n : Nat} : ∀ {ys : List Str}, ys.length ≤ n → (∀ y ∈ ys, Wd 1 y ∧ y.length = 1) → Wd n (Txt.join (Str.ofString "") ys) ∧ (Txt.join (Str.ofString "") ys).length = ys.length := by
  intro ys
  rw [TL.join_eq]
  induction ys generalizing n with
  | nil => intro _ _; exact ⟨⟨by show 0 ≤ n; omega, fun c hc => by exact nomatch hc⟩, rfl⟩
  | cons y ys ih =>
    intro h k
    cases ys with
    | nil =>
      have := k y List.mem_cons_self
      exact ⟨this.1.mono (by simpa using h), this.2⟩
    | cons z r =>
      have hy := k y List.mem_cons_self
      obtain ⟨a, b⟩ := ih (n := n - 1) (by simp only [List.length_cons] at h ⊢; omega) fun u hu => k u (List.mem_cons_of_mem _ hu)
      have e : Str.join (Str.ofString "") (y :: z :: r) = y ++ Str.ofString "" ++ Str.join (Str.ofString "") (z :: r) := rfl
      have e0 : (Str.ofString "").length = 0 := by decide
      have w0 : Wd 0 (Str.ofString "") := ⟨by decide, fun c hc => by exact absurd hc (by decide +revert)⟩
      rw [e]
      refine ⟨((hy.1.app w0).app a).mono (by simp only [List.length_cons] at h; omega), ?_⟩
      rw [Str.length_append, Str.length_append, e0, hy.2, b]
      simp only [List.length_cons]
      omega
theorem rev_eq (x : Str) : revS x = ⟨x.cps.toList.reverse.toArray⟩ := by
  have e : slicePicked x none none (some (-1, 0)) = sliceRange ((x.length : Int) - 1) (-1) (-1) := rfl
  unfold revS
  rw [e, PySem.W.krv_sliceRange, PySem.W.krv_range, List.filterMap_reverse]
  have := PySem.W.krv_all x.cps
  rw [show x.length = x.cps.size from rfl, this]
theorem rev_wd {n : Nat} {x : Str} (h : Wd n x) : Wd n (revS x) := by
  rw [rev_eq]
  refine Wd.of_list ?_ fun c hc => h.low c (List.mem_reverse.mp hc)
  rw [List.length_reverse, ← len_list]
  exact h.len
theorem repr_len {n : Nat} {x : Str} (h : Wd n x) : (reprText x).length ≤ 10 * n + 2 := by
  have := StrLaws.reprText_len x fun c hc => Nat.lt_of_lt_of_le (h.low c hc) (by decide)
  have := h.len
  omega
theorem rok_str {n : Nat} {x : Str} (h : Wd n x) (hn : n ≤ 100000) : D.rok (.str x) = true := by
  have := repr_len h
  simp only [D.rok, D.shw, D.py, PyData.showable, D.shown, PyData.shown, PyData.depth, q_size, Bool.and_eq_true, decide_eq_true_eq, true_and]
  omega
theorem rok_lst {n : Nat} {x : Str} (h : Wd n x) (hn : n ≤ 100000) : D.rok (.lst [.str x]) = true := by
  have h1 := repr_len h
  have h2 := listText_len_le [reprText x]
  simp [D.rok, D.shw, D.shws, D.py, D.pys, PyData.showable, PyData.showableAll, D.shown, PyData.shown, PyData.shownAll, PyData.depth, PyData.depthAll, q_size] at h2 ⊢
  omega
theorem rok_tup {n : Nat} {x : Str} (h : Wd n x) (hn : n ≤ 100000) : D.rok (.tup [.str x]) = true := by
  have h1 := repr_len h
  have h2 : (tupleText [reprText x]).length = (reprText x).length + 3 := by
    rw [PyProof.Rows.tupleText_one, Str.length_append, Str.length_append]
    have e1 : (Str.ofString "(").length = 1 := by decide
    have e2 : (Str.ofString ",)").length = 2 := by decide
    omega
  simp [D.rok, D.shw, D.shws, D.py, D.pys, PyData.showable, PyData.showableAll, D.shown, PyData.shown, PyData.shownAll, PyData.depth, PyData.depthAll, q_size, h2] at h2 ⊢
  omega
theorem rok_int {i : Int} (h : i.natAbs.log2 < 1920) : D.rok (.int i) = true := by
  have h1 := int_text_fits h
  have h2 : (PyData.shown (.int i)).length ≤ sizeLine := by rw [PyData.shown]; exact h1
  simp only [D.rok, D.shw, D.py, PyData.showable, D.shown, PyData.depth, Bool.and_eq_true, decide_eq_true_eq, true_and]
  exact ⟨⟨h, by omega⟩, decide_eq_true h2⟩
theorem log_lt {i : Int} {k : Nat} (h : i.natAbs < 2 ^ k) (hk : 0 < k) : i.natAbs.log2 < k := by
  by_cases e : i.natAbs = 0
  · rw [e]; simpa using hk
  · exact (Nat.log2_lt e).mpr h
end Lc

set_option Elab.async false
set_option maxRecDepth 100000
set_option maxHeartbeats 4000000
/-! Part S: an own error whose __init__ says super().__init__(text), then stores its values. -/
namespace Lc
open PySem L2 PySem.Spec PyProof.Rows
/-- the class of Python's own under an error class -/
inductive Ba where
  | val | look | run | arith
def Ba.name : Ba → String
  | .val => "ValueError"
  | .look => "LookupError"
  | .run => "RuntimeError"
  | .arith => "ArithmeticError"
def Ba.new : Ba → String
  | .val => "ValueError.__new__"
  | .look => "LookupError.__new__"
  | .run => "RuntimeError.__new__"
  | .arith => "ArithmeticError.__new__"
def Ba.ini : Ba → String
  | .val => "ValueError.__init__"
  | .look => "LookupError.__init__"
  | .run => "RuntimeError.__init__"
  | .arith => "ArithmeticError.__init__"
def Ba.tail (b : Ba) : List Value := [.type b.name, .type "Exception", .type "BaseException", .type "object"]
structure BaF (b : Ba) : Prop where
  fb : ExcBaseFacts b.name b.new b.ini b.tail
  sf : StoreFacts b.name b.tail "object.__setattr__" "object"
  kf : PySem.W.KxsFacts b.name b.ini
theorem baF : ∀ b : Ba, BaF b
  | .val => ⟨F.excBase_ValueError, F.store_ValueError, PySem.W.kxs_ValueError⟩
  | .look => ⟨F.excBase_LookupError, F.store_LookupError, PySem.W.kxs_LookupError⟩
  | .run => ⟨F.excBase_RuntimeError, F.store_RuntimeError, PySem.W.kxs_RuntimeError⟩
  | .arith => ⟨F.excBase_ArithmeticError, F.store_ArithmeticError, PySem.W.kxs_ArithmeticError⟩
/-- what the written part says of an own error class over b -/
structure OexB (K : PySem.W.Frag) (b : Ba) (C : Addr) : Prop where
  cls : ∃ nm q N bs bm sn sub ab col dd k0 k1 k2 k3 k5, K.lookup C = some (excClassObj nm q C N bs bm true sn sub ab col dd k0 k1 k2 k3 k5 b.new) ∧ PySem.W.excTail b.tail bm = true
  sa : PySem.W.findIn K (.ref C) "__setattr__" = some (some (.builtin "object.__setattr__"))
  exC : PySem.W.subIn K (.ref C) (.type "BaseException") = some true
  tyC : PySem.W.typeIn K (.ref C) = some (.type "type")
  kC : PySem.W.keepIn K (.ref C) = true
/-- what the written part says of such a class, with its __init__ -/
structure XcI (K : PySem.W.Frag) (b : Ba) (file : Str) (params : Arguments) (body : List Stmt) (scope : Scope) (C fI cc cda : Addr) (fd : FuncData) : Prop where
  ox : OexB K b C
  iC : PySem.W.findIn K (.ref C) "__init__" = some (some (.ref fI))
  tI : PySem.W.typeIn K (.ref fI) = some (.type "function")
  lk : ∃ nm qual oc od doc pm an ct osl, fd = PySem.W.ksFn nm qual params body scope .none .none doc pm an (.ref cda) ct cc ∧ K.lookup fI = some ⟨oc, od, .func fd, osl⟩ ∧ PySem.W.codeIn K (.ref cda) qual = true
  co : ∃ ccl cdd vs ccs tf, K.lookup cda = some ⟨ccl, cdd, .fields vs, ccs⟩ ∧ vs[2]? = some (.str file tf)
  ce : ∃ cl cld csl, K.lookup cc = some ⟨cl, cld, .cell (some (.ref C)), csl⟩
  su : PySem.W.ks_superIn K C C "__init__" = some (some (.builtin b.ini))
  sb : PySem.W.subIn K (.ref C) (.type b.name) = some true
  op : PySem.W.nsIn K cStatics "thirdparty.any" = some none
  mr : PySem.W.mroIn K C (.ref C) = some true
section
variable {prog : Program} {w : World} {A : Around} {K : PySem.W.Frag} {b : Ba} {mg : Str → Option Value} {s : Shared}
/-- super().__init__(text), in the def's own frame -/
theorem super_init {file : Str} {params : Arguments} {body : List Stmt} {scope : Scope} {C fI cc cda a t0 L : Addr} {fd : FuncData} {p0 p1 p2 p3 p4 p5 : Pos} {txt : Str} {j : Nat} {ar : Arg} {m : Str → Option Value} {Q : Flow → Shared → Prop} {E : Value → Shared → Prop}
    (T : XcI K b file params body scope C fI cc cda fd) (X : K.In s.heap) (G : s.heap.Ns mainGlobals mg) (Bn : ∃ mb, s.heap.Ns builtinsNs mb ∧ ∀ x : Str, x ≠ "__name__" → mb x = bootBuiltins x) (hsup : mg "super" = none)
    (hp : (params.posonlyargs ++ params.args).head? = some ar) (hns : s.heap.Ns L m) (hself : m ar.arg = some (.ref a)) (ha : s.heap.get? a = some (PySem.HandSPX.excO C t0))
    (hfile : ((prog.main.file : Str) == file) = true) (htop : (prog.main.scope.names.lookup ("super" : Str)).isSome = false) (hboot : bootBuiltins "super" = some (.type "super"))
    (hks : scope.names.lookup ("super" : Str) = some .globalImplicit) (hkc : scope.names.lookup ("__class__" : Str) = some .free) (hka : scope.names.lookup ar.arg = some .local) (hk : scope.kind = .function)
    (hev : ∀ env : Env, ∃ pl : Sem Bool, eval (.Call (.Attribute (.Call (.Name "super" p0) [] [] p1) "__init__" p2) [.Constant (.str txt) j p3] [] p4) env = (do
      let ov ← attributeBase (.Call (.Name "super" p0) [] [] p1) "__init__" env (eval (.Call (.Name "super" p0) [] [] p1) env)
      standAt p2.atName
      let (f, first) ← holding [ov] (getMethod ov "__init__" pl)
      callWith p4 f first (backTo p4 (starEach [.Constant (.str txt) j p3] env)) []))
    (hq : ∀ h' t1 tk, (∀ b o, b ≠ a → s.heap.get? b = some o → h'.get? b = some o) → h'.get? a = some (PySem.HandSPX.excO C t1) → Q .next { s with heap := h', toks := tk }) :
    _root_.PySem.wpAt (model prog w) A (.func body (callEnv fd L fI)) (exec (.Expr (.Call (.Attribute (.Call (.Name "super" p0) [] [] p1) "__init__" p2) [.Constant (.str txt) j p3] [] p4) p5) (callEnv fd L fI)) Q E s := by
  obtain ⟨nm, qual, oc, od, doc, pm, an, ct, osl, rfl, lk, hcd⟩ := T.lk
  obtain ⟨ccl, cdd, vs, ccs, tf, hco, hvs⟩ := T.co
  obtain ⟨cl, cld, csl, hce⟩ := T.ce
  obtain ⟨nm2, q2, N, bs, bm, sn, sub, ab, col, dd, k0, k1, k2, k3, k5, hC, hbm⟩ := T.ox.cls
  obtain ⟨mb, hb1, hb2⟩ := Bn
  obtain ⟨hp0, g, d, t, os⟩ := s
  have hcl : PySem.W.clsIn K C = some { name := nm2, bases := bs, mro := .ref C :: bm, ns := N, qualname := q2, hasDict := true, slotNames := sn, subclasses := sub, abstract := ab, collection := col, hasDel := false } := by unfold PySem.W.clsIn; rw [hC] <;> rfl
  have Lne : L ≠ a := fun z => by
    obtain ⟨o, es, ep, e1, e2, _⟩ := hns
    rw [z, ha] at e1
    cases e1
    cases e2
  refine ks_wpAt_Expr_any ?_ (by have hk' : (callEnv (PySem.W.ksFn nm qual params body scope .none .none doc pm an (.ref cda) ct cc) L fI).scope.kind = .function := hk
                                 simp [interactive, hk'])
  obtain ⟨pl, hev⟩ := hev (callEnv (PySem.W.ksFn nm qual params body scope .none .none doc pm an (.ref cda) ct cc) L fI)
  refine ks_wpAt_MethodCall ?_ hev
  refine ks_wpAt_super_base (f := fI) (cc := cda) hks hkc (by decide) rfl (X _ _ lk) rfl hp rfl (X _ _ hco) rfl hvs hfile htop ?_
  refine PySem.W.ks_loadName_global hk hks (Calls.loadGlobal_builtin G hsup hb1 ((hb2 _ (by decide +kernel)).trans hboot) ⟨rfl, ?_⟩)
  refine wpAny_loadName_free hk hkc rfl ⟨_, X _ _ hce, rfl⟩ ?_
  refine wpAny_loadName_local hk hka hns hself ?_
  refine ks_wpAny_isType_cls (X _ _ hC) rfl ⟨rfl, ?_⟩
  refine ks_wpAny_call_super (X _ _ hC) rfl ha rfl (fun c e => nomatch e) (PySem.W.looks_mroIn X T.mr) fun h1 e1 k1 => ?_
  have X1 : K.In h1 := X.keeps k1
  have I1 : PySem.W.InstAt h1 a (PySem.HandSPX.excO C t0) C none := ⟨k1 _ _ ha, rfl, rfl, trivial⟩
  have sup := T.su
  unfold PySem.W.ks_superIn at sup
  rw [hcl] at sup
  refine PySem.W.kxs_getMethod (baF b).kf e1 (PySem.W.looks_opaque X1 T.op) (l₀ := .ref C :: bm) ((PySem.W.looks_clsIn X1 hcl).andThen .now) rfl X1 sup (I1.type.andThen (PySem.W.looks_subIn X1 T.sb)) (PySem.W.ks_ne X1 I1 hcl) (by decide) ?_
  have ne1 : ∀ {b : Addr} {o : Obj}, h1.get? b = some o → b ≠ h1.objs.size := fun e => Nat.ne_of_lt (Heap.lt_size e)
  refine PySem.W.kxs_callWith (i := b.ini) (x := a) rfl (Calls.evalArgs_plain (Calls.spliced_cons ?_))
  refine Calls.Constant_str (k := j) (pos := p3) (Calls.spliced_nil ⟨Heap.get?_push_size _ rfl, ?_⟩)
  have hu : (h1.push (PySem.W.kxs_mw b.ini a)).get? h1.objs.size = some (PySem.W.kxs_mw b.ini a) := Heap.get?_push_size _ rfl
  have up : ∀ c o, h1.get? c = some o → (h1.push (PySem.W.kxs_mw b.ini a)).get? c = some o := fun c o e => Heap.get?_push_of_some _ e
  have he := up _ _ (k1 _ _ ha)
  have hC2 := up _ _ (k1 _ _ (X _ _ hC))
  refine wpAny_call (codeAny_of_tree ?_); show wpAny _ A.in1 (callAny (.ref h1.objs.size) ⟨[.str txt _], []⟩) _ _ _
  simp only [callAny]; refine wpAny_bind (wpAny_load hu ?_)
  have z1 : (Value.type "method-wrapper" == Value.type "method" || Value.type "method-wrapper" == Value.type "builtin_function_or_method" || Value.type "method-wrapper" == Value.type "method-wrapper") = true := by decide
  simp only [PySem.W.kxs_mw, z1, if_true]
  refine PySem.W.KFB.if_so (by decide) (wpAny_bind (PySem.W.check_bound_init (baF b).fb.toExcCallFacts hC2 he rfl (wpAny_bind (wpAny_pure (wpAny_pure ⟨plainId_quiet (baF b).fb.init.plain _, codeAny_builtin (baF b).fb.initEntry ?_⟩)))))
  refine PySem.W.exc_init_tree (cls := .ref C) (t0 := t0) (dv := none) (c2 := .none) (c3 := .none) (b4 := .bool false) he (by show 1 ≤ sizeLine; rw [sizeLine_eq]; omega) fun h2 k2 e2 _ => ?_
  exact hq h2 _ _ (fun b o nb e => k2 b o nb (up b o (k1 b o e))) e2
theorem over_of {C : Addr} (T : OexB K b C) : PySem.W.excOver K C b.tail = true := by
  obtain ⟨nm, q, N, bs, bm, sn, sub, ab, col, dd, k0, k1, k2, k3, k5, hC, hbm⟩ := T.cls
  unfold PySem.W.excOver PySem.W.clsIn
  rw [hC]
  simp [hbm]
theorem taker_of {C : Addr} {f : Str} (h : PySem.W.findIn K (.ref C) f = some none) : PySem.W.takerIn K C f = some none := by
  unfold PySem.W.takerIn
  rw [h]
  rfl
/-- the first field -/
theorem store1 {C a : Addr} {f : Str} {u : Value} {t1 : Addr} {Q : Unit → Shared → Prop} {E : Value → Shared → Prop} (T : OexB K b C) (X : K.In s.heap) (hno : PySem.W.findIn K (.ref C) f = some none) (ha : s.heap.get? a = some (PySem.HandSPX.excO C t1))
    (hq : ∀ h' tk dx, (∀ b o, b ≠ a → s.heap.get? b = some o → h'.get? b = some o) → s.heap.objs.size ≤ dx → dx ≠ a → h'.get? a = some { cls := .ref C, dict := some dx, data := .fields #[.ref t1, .none, .none, .none, .bool false, .none] } →
      h'.Ns1 dx (fun y => if y = f then some u else none) → Q () { s with heap := h', toks := tk }) : wpAny (model prog w) A (setAttr (.ref a) f u) Q E s := by
  have ov := over_of T
  obtain ⟨nm, q, N, bs, bm, sn, sub, ab, col, dd, k0, k1, k2, k3, k5, hC, hbm⟩ := T.cls
  have hcl : PySem.W.clsIn K C = some { name := nm, bases := bs, mro := .ref C :: bm, ns := N, qualname := q, hasDict := true, slotNames := sn, subclasses := sub, abstract := ab, collection := col, hasDel := false } := by unfold PySem.W.clsIn; rw [hC] <;> rfl
  obtain ⟨hp, g, d, t, os⟩ := s
  refine PySem.W.set_plain X (ox := PySem.HandSPX.excO C t1) (od := none) ⟨ha, rfl, rfl, trivial⟩ T.sa ?_
  refine PySem.W.osa_openX (baF b).sf (ox := PySem.HandSPX.excO C t1) (od := none) X ⟨ha, rfl, rfl, trivial⟩ ov (taker_of hno) fun b' => ?_
  have hcls : PySem.W.Looks (model prog w) hp (classData C) _ := PySem.W.looks_clsIn X hcl
  have hxs : a ≠ hp.objs.size := Nat.ne_of_lt (Heap.lt_size ha)
  have ha' : hp.get? a = some (PySem.HandSPX.excO C t1) := ha
  show wpAny _ _ (Builtin.ObjectAttr.storeInOwnDict (.ref a) (.ref C) _ f u b') _ _ _
  unfold Builtin.ObjectAttr.storeInOwnDict Builtin.ObjectAttr.ownDictForStores
  repeat (first | with_reducible refine PySem.HandSPX.store_in_new ?_ ?_ | with_reducible refine wpAny_loadPart_at ha' ?_ | with_reducible refine hcls.at ?_ | wp_step)
  · exact ⟨_, #[], _, (Heap.get?_update_ne _ _ _ _ hxs.symm).trans (Heap.get?_push_at rfl rfl), rfl, fun e he => absurd he (by simp), fun _ => rfl⟩
  · intro h' tk' hn' hs
    have hx1 : (hp.push { cls := .type "dict", data := .dict #[] }).get? a = some (PySem.HandSPX.excO C t1) := Heap.get?_push_of_some _ ha'
    refine hq h' tk' hp.objs.size (fun c o hb ho => ?_) (Nat.le_refl _) hxs.symm ?_ hn'
    · rw [hs.2 c (Nat.ne_of_lt (Heap.lt_size ho)), Heap.get?_update_ne _ _ _ _ hb]
      exact Heap.get?_push_of_some _ ho
    · rw [hs.2 a hxs]
      exact Heap.get?_update_self _ hx1 rfl
/-- a further field -/
theorem store2 {C a dx : Addr} {f g : Str} {u v : Value} {t1 : Addr} {Q : Unit → Shared → Prop} {E : Value → Shared → Prop} (T : OexB K b C) (X : K.In s.heap) (hno : PySem.W.findIn K (.ref C) g = some none)
    (ha : s.heap.get? a = some { cls := .ref C, dict := some dx, data := .fields #[.ref t1, .none, .none, .none, .bool false, .none] }) (hn : s.heap.Ns1 dx (fun y => if y = f then some u else none))
    (hq : ∀ h' tk, (∀ b o, b ≠ dx → s.heap.get? b = some o → h'.get? b = some o) → h'.Ns1 dx (fun y => if y = g then some v else if y = f then some u else none) → Q () { s with heap := h', toks := tk }) : wpAny (model prog w) A (setAttr (.ref a) g v) Q E s := by
  have ov := over_of T
  obtain ⟨nm, q, N, bs, bm, sn, sub, ab, col, dd, k0, k1, k2, k3, k5, hC, hbm⟩ := T.cls
  have hcl : PySem.W.clsIn K C = some { name := nm, bases := bs, mro := .ref C :: bm, ns := N, qualname := q, hasDict := true, slotNames := sn, subclasses := sub, abstract := ab, collection := col, hasDel := false } := by unfold PySem.W.clsIn; rw [hC] <;> rfl
  obtain ⟨hp, g', d, t, os⟩ := s
  have hw : PySem.Within (fun y => if y = f then some u else none) [f] := PySem.Within.cons f u (m := fun _ => none) (fun _ h => absurd rfl h)
  have hz : [f].length ≤ 1000 := by simp
  obtain ⟨oD, esD, epD, hoD, hdD, _⟩ := hn.count hw
  have I : PySem.W.InstAt hp a { cls := .ref C, dict := some dx, data := .fields #[.ref t1, .none, .none, .none, .bool false, .none] } C (some oD) := ⟨ha, rfl, rfl, hoD⟩
  refine PySem.W.set_plain X I T.sa ?_
  refine PySem.W.osa_openX (baF b).sf X I ov (taker_of hno) fun b' => ?_
  have hcls : PySem.W.Looks (model prog w) hp (classData C) _ := PySem.W.looks_clsIn X hcl
  show wpAny _ _ (Builtin.ObjectAttr.storeInOwnDict (.ref a) (.ref C) _ g v b') _ _ _
  unfold Builtin.ObjectAttr.storeInOwnDict Builtin.ObjectAttr.ownDictForStores
  repeat (first | with_reducible refine ESX.store_in_old hn hw hz ?_ | with_reducible refine wpAny_loadPart_at ha ?_ | with_reducible refine hcls.at ?_ | wp_step)
  intro h' tk' hn' hs
  exact hq h' tk' (fun c o hb ho => (hs.2 c hb).trans ho) hn'
/-- def __init__(self, p): super().__init__(text); self.f = p -/
theorem init_ok1 {R : Result → Shared → Prop} {file : Str} {params : Arguments} {scope : Scope} {C fI cc cda a t0 : Addr} {fd : FuncData} {p0 p1 p2 p3 p4 p5 q0 q1 q2 q3 : Pos} {txt f p self : Str} {j : Nat} {ar : Arg} {u : Value} {args : Args} {body : List Stmt}
    (T : XcI K b file params body scope C fI cc cda fd) (hbd : body = [.Expr (.Call (.Attribute (.Call (.Name "super" p0) [] [] p1) "__init__" p2) [.Constant (.str txt) j p3] [] p4) p5, .Assign [.Attribute (.Name self q0) f q1] (.Name p q2) q3])
    (X : K.In s.heap) (G : s.heap.Ns mainGlobals mg) (Bn : ∃ mb, s.heap.Ns builtinsNs mb ∧ ∀ x : Str, x ≠ "__name__" → mb x = bootBuiltins x) (nl : s.heap.NoLimit) (hsup : mg "super" = none) (hroom : A.depth < recursionLimit)
    (hp : (params.posonlyargs ++ params.args).head? = some ar) (har : ar.arg = self) (ha : s.heap.get? a = some (PySem.HandSPX.excO C t0))
    (hbind : ∀ (nm qual : Str) (doc pm : Value) (an : Option Addr) (cdv ct : Value) (cc : Addr), bindArgs (PySem.W.ksFn nm qual params body scope .none .none doc pm an cdv ct cc) args = pure [(self, .ref a), (p, u)])
    (hKa : K.lookup a = none) (hsp : p ≠ self) (hno : PySem.W.findIn K (.ref C) f = some none)
    (hfile : ((prog.main.file : Str) == file) = true) (htop : (prog.main.scope.names.lookup ("super" : Str)).isSome = false) (hboot : bootBuiltins "super" = some (.type "super"))
    (hks : scope.names.lookup ("super" : Str) = some .globalImplicit) (hkc : scope.names.lookup ("__class__" : Str) = some .free) (hka : scope.names.lookup self = some .local) (hkp : scope.names.lookup p = some .local) (hk : scope.kind = .function) (hcell : ∀ x ∈ scope.names, x.2 ≠ .cell) (hco : scope.isCoroutine = false) (hgen : scope.isGenerator = false)
    (hds : (self == ("__debug__" : Str)) = false) (hdp : (p == ("__debug__" : Str)) = false)
    (hev : ∀ env : Env, ∃ pl : Sem Bool, eval (.Call (.Attribute (.Call (.Name "super" p0) [] [] p1) "__init__" p2) [.Constant (.str txt) j p3] [] p4) env = (do
      let ov ← attributeBase (.Call (.Name "super" p0) [] [] p1) "__init__" env (eval (.Call (.Name "super" p0) [] [] p1) env)
      standAt p2.atName
      let (f, first) ← holding [ov] (getMethod ov "__init__" pl)
      callWith p4 f first (backTo p4 (starEach [.Constant (.str txt) j p3] env)) []))
    (hsw : ∀ env : Env, swapsWith (.Name p q2) (some (.Attribute (.Name self q0) f q1)) q3.line env = pure false)
    (hq : ∀ h' tk dx t1, (∀ b o, b ≠ a → s.heap.get? b = some o → h'.get? b = some o) → s.heap.get? dx = none → dx ≠ a → s.heap.objs.size ≤ dx → h'.get? a = some { cls := .ref C, dict := some dx, data := .fields #[.ref t1, .none, .none, .none, .bool false, .none] } →
      h'.Ns1 dx (fun y => if y = f then some u else none) → R (.ok (.ret .none)) { s with heap := h', toks := tk }) : codeAny (model prog w) A (.call (.ref fI) args) R s := by
  have T' := T
  obtain ⟨nm, qual, oc, od, doc, pm, an, ct, osl, rfl, lk, hcd⟩ := T.lk
  refine ks_codeAny_call_defAt (fd := PySem.W.ksFn nm qual params body scope .none .none doc pm an (.ref cda) ct cc) (body := body) (binds := [(self, .ref a), (p, u)]) hroom (X _ _ lk) rfl nl (PySem.W.codeRec_of X hcd) rfl (.of_eq (hbind ..)) hcell
    (fun y hy => ?_) (fun h0 hns hk0 => ?_) hco hgen hk
  · rcases List.mem_cons.mp hy with rfl | hy
    · exact hka
    · rw [List.mem_singleton.mp hy]; exact hkp
  have n1 : ([(self, (Value.ref a)), (p, u)] : List (Str × Value)).reverse.lookup self = some (.ref a) := by
    have e1 : (self == p) = false := by rw [beq_eq_false_iff_ne]; exact fun z => hsp z.symm
    simp [List.lookup_cons, e1]
  have n2 : ([(self, (Value.ref a)), (p, u)] : List (Str × Value)).reverse.lookup p = some u := by simp [List.lookup_cons]
  have Bn' := Bn
  obtain ⟨mb, hb1, hb2⟩ := Bn
  have aL : s.heap.objs.size ≠ a := (Nat.ne_of_lt (Heap.lt_size ha)).symm
  rw [show execs body = execs [_, _] from congrArg execs hbd]
  refine ks_wpAt_execs_cons (super_init (m := fun x => ([(self, (Value.ref a)), (p, u)] : List (Str × Value)).reverse.lookup x) (mg := mg) T' (X.keeps hk0) (G.keeps hk0) ⟨mb, hb1.keeps hk0, hb2⟩ hsup hp hns (by rw [har]; exact n1) (hk0 _ _ ha) hfile htop hboot hks hkc (by rw [har]; exact hka) hk hev fun h1 t1 tk k1 e1 => ?_)
  have hns1 : h1.Ns s.heap.objs.size (fun x => ([(self, (Value.ref a)), (p, u)] : List (Str × Value)).reverse.lookup x) := by
    obtain ⟨o, es, ep, z1, z2, z3⟩ := hns
    exact ⟨o, es, ep, k1 _ _ aL z1, z2, z3⟩
  have X1 : K.In h1 := fun b o e => k1 b o (fun z => by subst z; rw [hKa] at e; cases e) (X.keeps hk0 b o e)
  refine ks_wpAt_execs_cons (ks_wpAt_Assign_Attr (wpAt_of_wpAny (wpAny_Name (wpAny_loadName_local hk hkp hns1 n2 ?_) hdp)) (hsw _))
  refine wpAny_Name (wpAny_loadName_local hk hka hns1 n1 ?_) hds
  refine store1 T'.ox X1 hno e1 fun h2 tk2 dx k2 dn dne hx hn => wpAt_of_wpAny (wpAny_execs_nil ?_)
  have sz : s.heap.objs.size ≤ dx := Nat.le_trans (Nat.le_of_lt (Heap.lt_size (show h1.get? s.heap.objs.size = some _ from hns1.choose_spec.choose_spec.choose_spec.1))) dn
  refine hq h2 tk2 dx t1 (fun b o nb e => k2 b o nb (k1 b o nb (hk0 b o e))) ?_ dne sz hx hn
  cases q : s.heap.get? dx with
  | none => rfl
  | some o => exact absurd (Heap.lt_size q) (Nat.not_lt.mpr sz)
/-- the same with two values -/
theorem init_ok2 {R : Result → Shared → Prop} {file : Str} {params : Arguments} {scope : Scope} {C fI cc cda a t0 : Addr} {fd : FuncData} {p0 p1 p2 p3 p4 p5 q0 q1 q2 q3 o0 o1 o2 o3 : Pos} {txt f p f2 y2 self : Str} {j : Nat} {ar : Arg} {u v : Value} {args : Args} {body : List Stmt}
    (T : XcI K b file params body scope C fI cc cda fd) (hbd : body = [.Expr (.Call (.Attribute (.Call (.Name "super" p0) [] [] p1) "__init__" p2) [.Constant (.str txt) j p3] [] p4) p5, .Assign [.Attribute (.Name self q0) f q1] (.Name p q2) q3, .Assign [.Attribute (.Name self o0) f2 o1] (.Name y2 o2) o3])
    (X : K.In s.heap) (G : s.heap.Ns mainGlobals mg) (Bn : ∃ mb, s.heap.Ns builtinsNs mb ∧ ∀ x : Str, x ≠ "__name__" → mb x = bootBuiltins x) (nl : s.heap.NoLimit) (hsup : mg "super" = none) (hroom : A.depth < recursionLimit)
    (hp : (params.posonlyargs ++ params.args).head? = some ar) (har : ar.arg = self) (ha : s.heap.get? a = some (PySem.HandSPX.excO C t0))
    (hbind : ∀ (nm qual : Str) (doc pm : Value) (an : Option Addr) (cdv ct : Value) (cc : Addr), bindArgs (PySem.W.ksFn nm qual params body scope .none .none doc pm an cdv ct cc) args = pure [(self, .ref a), (p, u), (y2, v)])
    (hKa : K.lookup a = none) (hsp : p ≠ self) (hsp2 : y2 ≠ self) (hpp : y2 ≠ p) (hno2 : PySem.W.findIn K (.ref C) f2 = some none) (hno : PySem.W.findIn K (.ref C) f = some none)
    (hfile : ((prog.main.file : Str) == file) = true) (htop : (prog.main.scope.names.lookup ("super" : Str)).isSome = false) (hboot : bootBuiltins "super" = some (.type "super"))
    (hks : scope.names.lookup ("super" : Str) = some .globalImplicit) (hkc : scope.names.lookup ("__class__" : Str) = some .free) (hka : scope.names.lookup self = some .local) (hkp : scope.names.lookup p = some .local) (hkp2 : scope.names.lookup y2 = some .local) (hk : scope.kind = .function) (hcell : ∀ x ∈ scope.names, x.2 ≠ .cell) (hco : scope.isCoroutine = false) (hgen : scope.isGenerator = false)
    (hds : (self == ("__debug__" : Str)) = false) (hdp : (p == ("__debug__" : Str)) = false) (hdp2 : (y2 == ("__debug__" : Str)) = false)
    (hev : ∀ env : Env, ∃ pl : Sem Bool, eval (.Call (.Attribute (.Call (.Name "super" p0) [] [] p1) "__init__" p2) [.Constant (.str txt) j p3] [] p4) env = (do
      let ov ← attributeBase (.Call (.Name "super" p0) [] [] p1) "__init__" env (eval (.Call (.Name "super" p0) [] [] p1) env)
      standAt p2.atName
      let (f, first) ← holding [ov] (getMethod ov "__init__" pl)
      callWith p4 f first (backTo p4 (starEach [.Constant (.str txt) j p3] env)) []))
    (hsw : ∀ env : Env, swapsWith (.Name p q2) (some (.Attribute (.Name self q0) f q1)) q3.line env = pure false) (hsw2 : ∀ env : Env, swapsWith (.Name y2 o2) (some (.Attribute (.Name self o0) f2 o1)) o3.line env = pure false)
    (hq : ∀ h' tk dx t1, (∀ b o, b ≠ a → s.heap.get? b = some o → h'.get? b = some o) → s.heap.get? dx = none → dx ≠ a → s.heap.objs.size ≤ dx → h'.get? a = some { cls := .ref C, dict := some dx, data := .fields #[.ref t1, .none, .none, .none, .bool false, .none] } →
      h'.Ns1 dx (fun y => if y = f2 then some v else if y = f then some u else none) → R (.ok (.ret .none)) { s with heap := h', toks := tk }) : codeAny (model prog w) A (.call (.ref fI) args) R s := by
  have T' := T
  obtain ⟨nm, qual, oc, od, doc, pm, an, ct, osl, rfl, lk, hcd⟩ := T.lk
  refine ks_codeAny_call_defAt (fd := PySem.W.ksFn nm qual params body scope .none .none doc pm an (.ref cda) ct cc) (body := body) (binds := [(self, .ref a), (p, u), (y2, v)]) hroom (X _ _ lk) rfl nl (PySem.W.codeRec_of X hcd) rfl (.of_eq (hbind ..)) hcell
    (fun y hy => ?_) (fun h0 hns hk0 => ?_) hco hgen hk
  · rcases List.mem_cons.mp hy with rfl | hy
    · exact hka
    · rcases List.mem_cons.mp hy with rfl | hy
      · exact hkp
      · rw [List.mem_singleton.mp hy]; exact hkp2
  have n1 : ([(self, (Value.ref a)), (p, u), (y2, v)] : List (Str × Value)).reverse.lookup self = some (.ref a) := by
    have e1 : (self == p) = false := by rw [beq_eq_false_iff_ne]; exact fun z => hsp z.symm
    have e2 : (self == y2) = false := by rw [beq_eq_false_iff_ne]; exact fun z => hsp2 z.symm
    simp [List.lookup_cons, e1, e2]
  have n2 : ([(self, (Value.ref a)), (p, u), (y2, v)] : List (Str × Value)).reverse.lookup p = some u := by
    have e1 : (p == y2) = false := by rw [beq_eq_false_iff_ne]; exact fun z => hpp z.symm
    simp [List.lookup_cons, e1]
  have n3 : ([(self, (Value.ref a)), (p, u), (y2, v)] : List (Str × Value)).reverse.lookup y2 = some v := by simp [List.lookup_cons]
  have Bn' := Bn
  obtain ⟨mb, hb1, hb2⟩ := Bn
  have aL : s.heap.objs.size ≠ a := (Nat.ne_of_lt (Heap.lt_size ha)).symm
  rw [show execs body = execs [_, _, _] from congrArg execs hbd]
  refine ks_wpAt_execs_cons (super_init (m := fun x => ([(self, (Value.ref a)), (p, u), (y2, v)] : List (Str × Value)).reverse.lookup x) (mg := mg) T' (X.keeps hk0) (G.keeps hk0) ⟨mb, hb1.keeps hk0, hb2⟩ hsup hp hns (by rw [har]; exact n1) (hk0 _ _ ha) hfile htop hboot hks hkc (by rw [har]; exact hka) hk hev fun h1 t1 tk k1 e1 => ?_)
  have hns1 : h1.Ns s.heap.objs.size (fun x => ([(self, (Value.ref a)), (p, u), (y2, v)] : List (Str × Value)).reverse.lookup x) := by
    obtain ⟨o, es, ep, z1, z2, z3⟩ := hns
    exact ⟨o, es, ep, k1 _ _ aL z1, z2, z3⟩
  have X1 : K.In h1 := fun b o e => k1 b o (fun z => by subst z; rw [hKa] at e; cases e) (X.keeps hk0 b o e)
  refine ks_wpAt_execs_cons (ks_wpAt_Assign_Attr (wpAt_of_wpAny (wpAny_Name (wpAny_loadName_local hk hkp hns1 n2 ?_) hdp)) (hsw _))
  refine wpAny_Name (wpAny_loadName_local hk hka hns1 n1 ?_) hds
  refine store1 T'.ox X1 hno e1 fun h2 tk2 dx k2 dn dne hx hn => ?_
  have aL2 : s.heap.objs.size ≠ dx := Nat.ne_of_lt (Nat.lt_of_lt_of_le (Heap.lt_size (show h1.get? s.heap.objs.size = some _ from hns1.choose_spec.choose_spec.choose_spec.1)) dn)
  have hns2 : h2.Ns s.heap.objs.size (fun x => ([(self, (Value.ref a)), (p, u), (y2, v)] : List (Str × Value)).reverse.lookup x) := by
    obtain ⟨o, es, ep, z1, z2, z3⟩ := hns1
    exact ⟨o, es, ep, k2 _ _ aL z1, z2, z3⟩
  have X2 : K.In h2 := fun c o e => k2 c o (fun z => by subst z; rw [hKa] at e; cases e) (X1 c o e)
  refine ks_wpAt_execs_cons (ks_wpAt_Assign_Attr (wpAt_of_wpAny (wpAny_Name (wpAny_loadName_local hk hkp2 hns2 n3 ?_) hdp2)) (hsw2 _))
  refine wpAny_Name (wpAny_loadName_local hk hka hns2 n1 ?_) hds
  refine store2 (f := f) (u := u) T'.ox X2 hno2 hx hn fun h3 tk3 k3 hn3 => wpAt_of_wpAny (wpAny_execs_nil ?_)
  have sz : s.heap.objs.size ≤ dx := Nat.le_trans (Nat.le_of_lt (Heap.lt_size (show h1.get? s.heap.objs.size = some _ from hns1.choose_spec.choose_spec.choose_spec.1))) dn
  have nd : s.heap.get? dx = none := by
    cases q : s.heap.get? dx with
    | none => rfl
    | some o => exact absurd (Heap.lt_size q) (Nat.not_lt.mpr sz)
  refine hq h3 tk3 dx t1 (fun c o nc e => k3 c o (fun z => by subst z; rw [nd] at e; cases e) (k2 c o nc (k1 c o nc (hk0 c o e)))) nd dne sz (k3 _ _ (Ne.symm dne) hx) hn3
end
end Lc
/-! ### the class called, with names too -/
namespace Lc
open PySem L2
section
variable {prog : Program} {w : World} {A : Around} {E : Value → Shared → Prop} {R : Result → Shared → Prop} {h : Heap} {g : Array GenState} {d : Drawn} {t : Nat} {os : OsState}
variable {nm q : Str} {C N : Addr} {bs bm bmB : List Value} {hdct : Bool} {sn : List Str} {sub : List Value} {ab : Bool} {col : Option Bool} {dd : Option Addr} {k0 k1 k2 k3 k5 : Option Value} {B newId initId : String}
theorem xk_check {M : Model} (F : ExcBaseFacts B newId initId bmB) (hT : ∀ X : String, bm.contains (.type X) = bmB.contains (.type X)) {rest : List Value} {kw : List (Str × Value)} {Q : Unit → Shared → Prop}
    (hC : h.get? C = some (excClassObj nm q C N bs bm hdct sn sub ab col dd k0 k1 k2 k3 k5 newId)) (hq : Q () ⟨h, g, d, t, os⟩) : wpAny M A (checkBuiltinCall newId ⟨.ref C :: rest, kw⟩) Q E ⟨h, g, d, t, os⟩ := by
  have hin : (Value.ref C :: bm).contains (.type B) = true := by rw [List.contains_cons, hT, F.hasB, Bool.or_true]
  have hst := F.noStar
  simp only [checkBuiltinCall, F.newKind, F.newSplit, F.newRow]
  repeat (first | refine wpAny_loadPart_at hC ?_ | (refine wpAny_isSubtype_exc hC ?_; rw [hin]) | refine wpAny_staticBase_exc hC ?_ | refine wpAny_madeBy_exc hC ?_ | simp only [bne_self_eq_false, Bool.false_eq_true, if_false] | wp_step)
  all_goals first | exact hq | skip
theorem xk_new (F : ExcBaseFacts B newId initId bmB) (hT : ∀ X : String, bm.contains (.type X) = bmB.contains (.type X)) {rest : List Value} {kw : List (Str × Value)}
    (hC : h.get? C = some (excClassObj nm q C N bs bm hdct sn sub ab col dd k0 k1 k2 k3 k5 newId))
    (hq : R (.ok (.ret (.ref (h.objs.size + 1)))) ⟨(h.push (PySem.W.kdv_tup rest)).push (PySem.HandSPX.excO C h.objs.size), g, d, t, os⟩) (hrest : rest.length ≤ sizeLine) :
    codeAny (model prog w) A (.builtin newId ⟨.ref C :: rest, kw⟩) R ⟨h, g, d, t, os⟩ := by
  have hen := F.ends
  have hB : (Value.ref C :: bm).contains (.type B) = true := by rw [List.contains_cons, hT, F.hasB, Bool.or_true]
  have hA : (Value.ref C :: bm).contains (.type "AttributeError") = false := by rw [List.contains_cons, hT, F.noAttr]; rfl
  have hN : (Value.ref C :: bm).contains (.type "NameError") = false := by rw [List.contains_cons, hT, F.noName]; rfl
  refine codeAny_builtinAt F.entry ?_
  unfold Builtin.«BaseException.__new__»
  refine wpAt_bind ?_
  show wpAt _ _ _ (stack >>= _) _ _ _
  refine wpAt_bind (wpAt_stack fun p below => wpAt_of_wpAny ?_)
  wp_walk
  refine wpAt_of_wpAny ?_
  rw [F.owner]
  repeat (first | with_reducible refine wpAny_madeHere_exc F.canon hC ?_ | with_reducible refine wpAny_loadPart_at hC ?_ | (with_reducible refine wpAny_isSubtype_exc hC ?_; first | rw [hB] | rw [hA] | rw [hN]) | wp_step)
  show R _ _
  rw [Heap.size_push]
  exact hq
theorem xk_tcall (F : ExcBaseFacts B newId initId bmB) (hT : ∀ X : String, bm.contains (.type X) = bmB.contains (.type X)) {rest : List Value} {kw : List (Str × Value)} {fI : Addr} {Q : Fin → Shared → Prop}
    (hC : h.get? C = some (excClassObj nm q C N bs bm hdct sn sub ab col dd k0 k1 k2 k3 k5 newId))
    (hi : PySem.W.Looks (model prog w) h (typeLookup (.ref C) "__init__") (some (.ref fI))) (hb : ∀ self, PySem.W.Looks (model prog w) h (bindSpecial (.ref fI) self) (.ref fI, [self])) (hrest : rest.length ≤ sizeLine)
    (hq : codeAny (model prog w) A (.call (.ref fI) ⟨.ref (h.objs.size + 1) :: rest, kw⟩)
      (fun r s' => match r with | .ok (.ret v) => v = .none ∧ Q (.done (.ret (.ref (h.objs.size + 1)))) s' | .ok _ => False | .error e => E e s')
      ⟨(h.push (PySem.W.kdv_tup rest)).push (PySem.HandSPX.excO C h.objs.size), g, d, t, os⟩) :
    wpAny (model prog w) A (Builtin.«type.__call__» ⟨.ref C :: rest, kw⟩) Q E ⟨h, g, d, t, os⟩ := by
  repeat (first | with_reducible refine wpAny_loadPart_at hC ?_ | with_reducible refine wpAny_madeBy_exc hC ?_ | wp_step)
  refine codeAny_call_builtin_code (Code.quiet_builtin _ F.quiet) (xk_check F hT hC ?_)
  refine xk_new F hT hC ?_ hrest
  show wpAny _ _ _ _ _ _
  have k : ∀ b o, h.get? b = some o → ((h.push (PySem.W.kdv_tup rest)).push (PySem.HandSPX.excO C h.objs.size)).get? b = some o := fun b o e => Heap.get?_push_of_some _ (Heap.get?_push_of_some _ e)
  have hC1 := k _ _ hC
  have hg : ((h.push (PySem.W.kdv_tup rest)).push (PySem.HandSPX.excO C h.objs.size)).get? (h.objs.size + 1) = some (PySem.HandSPX.excO C h.objs.size) := by heap_get
  have hself : (Value.ref C :: bm).contains (.ref C) = true := by simp
  have i1 := hi.keeps k
  have b1 := (hb (.ref (h.objs.size + 1))).keeps k
  unfold isInstance
  repeat (first | with_reducible refine wpAny_loadPart_at hg ?_ | (with_reducible refine wpAny_isSubtype_exc hC1 ?_; rw [hself]) | wp_step)
  show wpAny _ _ (typeLookup (.ref C) _) _ _ _
  refine i1.at (wpAny_holding (wpAny_bind (b1.at ?_)))
  refine wpAny_bind (wpAny_call (codeAny_mono hq fun r s' z => ?_))
  rcases r with e | (v | _ | _ | _) <;> first | exact z | exact z.elim | skip
  obtain ⟨rfl, z⟩ := z
  first
    | exact wpAny_pure (wpAny_pure z)
    | (wp_walk; exact z)
theorem xk_call (F : ExcBaseFacts B newId initId bmB) (hT : ∀ X : String, bm.contains (.type X) = bmB.contains (.type X)) {rest : List Value} {kw : List (Str × Value)} {fI : Addr}
    (hC : h.get? C = some (excClassObj nm q C N bs bm hdct sn sub ab col dd k0 k1 k2 k3 k5 newId))
    (hi : PySem.W.Looks (model prog w) h (typeLookup (.ref C) "__init__") (some (.ref fI))) (hb : ∀ self, PySem.W.Looks (model prog w) h (bindSpecial (.ref fI) self) (.ref fI, [self])) (hrest : rest.length ≤ sizeLine)
    (hq : codeAny (model prog w) (A.under (.builtin "type.__call__" ⟨.ref C :: rest, kw⟩)) (.call (.ref fI) ⟨.ref (h.objs.size + 1) :: rest, kw⟩) (PySem.W.InitBack (h.objs.size + 1) R)
      ⟨(h.push (PySem.W.kdv_tup rest)).push (PySem.HandSPX.excO C h.objs.size), g, d, t, os⟩) :
    codeAny (model prog w) A (.call (.ref C) ⟨rest, kw⟩) R ⟨h, g, d, t, os⟩ := by
  have f1 := tc_lookup
  have f2 := tc_bind (.ref C)
  have hTy : (⟨h, g, d, t, os⟩ : Shared).TypeIs (.ref C) "type" := ⟨_, hC, rfl⟩
  refine codeAny_of_tree ?_
  show wpAny _ _ (callAny (.ref C) _) _ _ _
  repeat (any_goals (first | assumption | with_reducible refine wpAny_loadPart_at hC ?_ | wp_step))
  refine ⟨rfl, ?_⟩
  refine codeAny_call_builtin_at (Code.quiet_builtin _ (by decide +kernel)) entry_typeCall (wpAny_check_type_call_sub hC (xk_tcall F hT hC hi hb hrest ?_))
  refine codeAny_mono hq fun r s' z => ?_
  rcases r with e | (v | _ | _ | _) <;> exact z
end
end Lc

set_option Elab.async false
set_option maxRecDepth 100000
set_option maxHeartbeats 4000000
/-! Part T: such an error made, raised, held as a value. -/
namespace Lc
open PySem L2 PySem.Spec PyProof.Rows
/-- by position, or by the names from the last to the first -/
def Bnd (fs : List Str) (pos : List Value) (kw : List (Str × Value)) (us : List Value) : Prop := (pos = us ∧ kw = []) ∨ (pos = [] ∧ kw = (fs.zip us).reverse)
def BindI (params : Arguments) (body : List Stmt) (scope : Scope) (self : Str) (fs : List Str) : Prop := ∀ (a : Addr) (us pos : List Value) (kw : List (Str × Value)) (nm qual : Str) (doc pm : Value) (an : Option Addr) (cdv ct : Value) (cc : Addr), us.length = fs.length → Bnd fs pos kw us →
  bindArgs (PySem.W.ksFn nm qual params body scope .none .none doc pm an cdv ct cc) ⟨.ref a :: pos, kw⟩ = pure ((self, .ref a) :: fs.zip us)
/-- what holds of each such def -/
structure FormC (P : Program) (file : Str) (scope : Scope) : Prop where
  hfile : ((P.main.file : Str) == file) = true
  htop : (P.main.scope.names.lookup ("super" : Str)).isSome = false
  hks : scope.names.lookup ("super" : Str) = some .globalImplicit
  hkc : scope.names.lookup ("__class__" : Str) = some .free
  hk : scope.kind = .function
  hcell : ∀ x ∈ scope.names, x.2 ≠ .cell
  hco : scope.isCoroutine = false
  hgen : scope.isGenerator = false
def SupEv (p0 p1 p2 p3 p4 : Pos) (txt : Str) (j : Nat) : Prop := ∀ env : Env, ∃ pl : Sem Bool, eval (.Call (.Attribute (.Call (.Name "super" p0) [] [] p1) "__init__" p2) [.Constant (.str txt) j p3] [] p4) env = (do
      let ov ← attributeBase (.Call (.Name "super" p0) [] [] p1) "__init__" env (eval (.Call (.Name "super" p0) [] [] p1) env)
      standAt p2.atName
      let (f, first) ← holding [ov] (getMethod ov "__init__" pl)
      callWith p4 f first (backTo p4 (starEach [.Constant (.str txt) j p3] env)) [])
/-- the def's form, one value -/
structure Form1 (P : Program) (file : Str) (params : Arguments) (body : List Stmt) (scope : Scope) (f : Str) : Prop where
  ex : ∃ (p0 p1 p2 p3 p4 p5 q0 q1 q2 q3 : Pos) (txt self : Str) (j : Nat) (ar : Arg), body = [.Expr (.Call (.Attribute (.Call (.Name "super" p0) [] [] p1) "__init__" p2) [.Constant (.str txt) j p3] [] p4) p5, .Assign [.Attribute (.Name self q0) f q1] (.Name f q2) q3] ∧
    (params.posonlyargs ++ params.args).head? = some ar ∧ ar.arg = self ∧ BindI params body scope self [f] ∧
    f ≠ self ∧ scope.names.lookup self = some .local ∧ scope.names.lookup f = some .local ∧ (self == ("__debug__" : Str)) = false ∧ (f == ("__debug__" : Str)) = false ∧
    SupEv p0 p1 p2 p3 p4 txt j ∧ ∀ env : Env, swapsWith (.Name f q2) (some (.Attribute (.Name self q0) f q1)) q3.line env = pure false
  c : FormC P file scope
/-- two values -/
structure Form2 (P : Program) (file : Str) (params : Arguments) (body : List Stmt) (scope : Scope) (f g : Str) : Prop where
  ex : ∃ (p0 p1 p2 p3 p4 p5 q0 q1 q2 q3 o0 o1 o2 o3 : Pos) (txt self : Str) (j : Nat) (ar : Arg), body = [.Expr (.Call (.Attribute (.Call (.Name "super" p0) [] [] p1) "__init__" p2) [.Constant (.str txt) j p3] [] p4) p5, .Assign [.Attribute (.Name self q0) f q1] (.Name f q2) q3, .Assign [.Attribute (.Name self o0) g o1] (.Name g o2) o3] ∧
    (params.posonlyargs ++ params.args).head? = some ar ∧ ar.arg = self ∧ BindI params body scope self [f, g] ∧
    f ≠ self ∧ g ≠ self ∧ g ≠ f ∧ scope.names.lookup self = some .local ∧ scope.names.lookup f = some .local ∧ scope.names.lookup g = some .local ∧ (self == ("__debug__" : Str)) = false ∧ (f == ("__debug__" : Str)) = false ∧ (g == ("__debug__" : Str)) = false ∧
    SupEv p0 p1 p2 p3 p4 txt j ∧ (∀ env : Env, swapsWith (.Name f q2) (some (.Attribute (.Name self q0) f q1)) q3.line env = pure false) ∧ ∀ env : Env, swapsWith (.Name g o2) (some (.Attribute (.Name self o0) g o1)) o3.line env = pure false
  c : FormC P file scope
def FormE (P : Program) (file : Str) (params : Arguments) (body : List Stmt) (scope : Scope) (fs : List Str) : Prop := (∃ f, fs = [f] ∧ Form1 P file params body scope f) ∨ ∃ f g, fs = [f, g] ∧ Form2 P file params body scope f g
theorem relO_one {f : Str} {v : V} {u : Value} (r : RelV v u) (y : Str) : RelO (List.lookup y [(f, v)]) (if y = f then some u else none) := relO_put (fs := []) (mA := fun _ => none) r (fun _ => True.intro) y
theorem relO_two {f g : Str} {v v' : V} {u u' : Value} (hn : g ≠ f) (r : RelV v u) (r' : RelV v' u') (y : Str) : RelO (List.lookup y [(f, v), (g, v')]) (if y = g then some u' else if y = f then some u else none) := by
  rw [lookup_put]
  by_cases h : y = f
  · subst h
    rw [if_pos rfl, if_neg (Ne.symm hn), if_pos rfl]
    exact r
  · rw [if_neg h, if_neg h]
    exact relO_one r' y
section
variable {P : Program} {w : World} {A : Around} {K : PySem.W.Frag} {b : Ba} {mg : Str → Option Value} {s : Shared}
theorem ini_run {file : Str} {params : Arguments} {body : List Stmt} {scope : Scope} {C fI cc cda a t0 : Addr} {fd : FuncData} {fs : List Str} {us pos : List Value} {kw : List (Str × Value)} {R : Result → Shared → Prop} (T : XcI K b file params body scope C fI cc cda fd) (Fo : FormE P file params body scope fs)
    (X : K.In s.heap) (G : s.heap.Ns mainGlobals mg) (Bn : ∃ mb, s.heap.Ns builtinsNs mb ∧ ∀ x : Str, x ≠ "__name__" → mb x = bootBuiltins x) (nl : s.heap.NoLimit) (hsup : mg "super" = none) (hroom : A.depth < recursionLimit)
    (ha : s.heap.get? a = some (PySem.HandSPX.excO C t0)) (hl : us.length = fs.length) (hb : Bnd fs pos kw us) (hKa : K.lookup a = none) (hno : ∀ f ∈ fs, PySem.W.findIn K (.ref C) f = some none)
    (hq : ∀ h' tk dx t1 mA, (∀ c o, c ≠ a → s.heap.get? c = some o → h'.get? c = some o) → s.heap.get? dx = none → dx ≠ a → s.heap.objs.size ≤ dx → h'.get? a = some { cls := .ref C, dict := some dx, data := .fields #[.ref t1, .none, .none, .none, .bool false, .none] } →
      h'.Ns1 dx mA → (∀ vs, Vals vs us → ∀ y, RelO ((fs.zip vs).lookup y) (mA y)) → R (.ok (.ret .none)) { s with heap := h', toks := tk }) : codeAny (model P w) A (.call (.ref fI) ⟨.ref a :: pos, kw⟩) R s := by
  rcases Fo with ⟨f, rfl, Fo⟩ | ⟨f, g, rfl, Fo⟩
  · obtain ⟨p0, p1, p2, p3, p4, p5, q0, q1, q2, q3, txt, self, j, ar, b1, b2, b3, b4, b5, b6, b7, b8, b9, b10, b11⟩ := Fo.ex
    match us, hl with
    | [u], _ =>
      refine init_ok1 (mg := mg) (K := K) T b1 X G Bn nl hsup hroom b2 b3 ha (fun nm qual doc pm an cdv ct cc => b4 a [u] pos kw nm qual doc pm an cdv ct cc rfl hb) hKa b5 (hno f List.mem_cons_self) Fo.c.hfile Fo.c.htop (by decide +kernel) Fo.c.hks Fo.c.hkc b6 b7 Fo.c.hk Fo.c.hcell Fo.c.hco Fo.c.hgen b8 b9 b10 b11 fun h2 tk2 dx t1 k2 nd dne sz hx hn => hq h2 tk2 dx t1 _ k2 nd dne sz hx hn fun vs rv y => ?_
      match vs, rv with
      | [v], .cons r .nil => exact relO_one r y
  · obtain ⟨p0, p1, p2, p3, p4, p5, q0, q1, q2, q3, o0, o1, o2, o3, txt, self, j, ar, b1, b2, b3, b4, b5, b5', b5'', b6, b7, b7', b8, b9, b9', b10, b11, b12⟩ := Fo.ex
    match us, hl with
    | [u, u'], _ =>
      refine init_ok2 (mg := mg) (K := K) T b1 X G Bn nl hsup hroom b2 b3 ha (fun nm qual doc pm an cdv ct cc => b4 a [u, u'] pos kw nm qual doc pm an cdv ct cc rfl hb) hKa b5 b5' b5'' (hno g (by simp)) (hno f List.mem_cons_self) Fo.c.hfile Fo.c.htop (by decide +kernel) Fo.c.hks Fo.c.hkc b6 b7 b7' Fo.c.hk Fo.c.hcell Fo.c.hco Fo.c.hgen b8 b9 b9' b10 b11 b12 fun h2 tk2 dx t1 k2 nd dne sz hx hn => hq h2 tk2 dx t1 _ k2 nd dne sz hx hn fun vs rv y => ?_
      match vs, rv with
      | [v, v'], .cons r (.cons r' .nil) => exact relO_two b5'' r r' y
end
/-- an error class that may be made -/
structure Xc (P : Program) (K : PySem.W.Frag) (mg : Str → Option Value) (x : Str) (fs : List Str) : Prop where
  ex : ∃ b file params body scope C fI cc cda fd, XcI K b file params body scope C fI cc cda fd ∧ FormE P file params body scope fs ∧ (∀ f ∈ fs, PySem.W.findIn K (.ref C) f = some none) ∧ mg x = some (.ref C) ∧ PySem.W.nsIn K mainGlobals x = some (some (.ref C)) ∧ mg "super" = none
section
variable {X : Cx} {x : Str} {fs : List Str} {p pos : Pos} {e : Expr} {es : List Expr} {kws : List Keyword} {ta : TA} {k : Nat}
theorem mk_core {pins : List (Addr × Obj)} {s1 : Shared} {σ : L2.St} {H1 : Hp} {us pv : List Value} {kw : List (Str × Value)} {vs : List V} {C : Addr} {Q : Value → Shared → Prop} (T : Xc X.prog X.K X.mg x fs) (hr : Room (k + 1) X.A) (I1 : Inv X pins σ H1 s1) (rv : Vals vs us) (hl : us.length = fs.length) (hz : pv.length ≤ sizeLine) (hb : Bnd fs pv kw us) (hm : X.mg x = some (.ref C))
    (hq : ∀ a dx h2 tk2 t1 mA, s1.heap.objs.size < a → (∀ c o, s1.heap.get? c = some o → h2.get? c = some o) → s1.heap.get? dx = none → s1.heap.objs.size ≤ dx → dx ≠ a → h2.get? a = some { cls := .ref C, dict := some dx, data := .fields #[.ref t1, .none, .none, .none, .bool false, .none] } →
      h2.Ns1 dx mA → (∀ y, RelO ((fs.zip vs).lookup y) (mA y)) → Q (.ref a) { s1 with heap := h2, toks := tk2 }) : wpAny (model X.prog X.w) X.A (call (.ref C) pv kw) Q X.xe s1 := by
  obtain ⟨b, file, params, body, scope, C', fI, cc, cda, fd, T, Fo, hno, hm', _, hsup⟩ := T.ex
  obtain rfl : C = C' := by rw [hm] at hm'; cases hm'; rfl
  obtain ⟨nm, q, N, bs, bm, sn, sub, ab, col, dd, k0, k1, k2, k3, k5, hC, hbm⟩ := T.ox.cls
  obtain ⟨hp, g, dr, tk, os⟩ := s1
  have up : ∀ b o, hp.get? b = some o → ((hp.push (PySem.W.kdv_tup pv)).push (PySem.HandSPX.excO C hp.objs.size)).get? b = some o := fun b o e => Heap.get?_push_of_some _ (Heap.get?_push_of_some _ e)
  have hget : ((hp.push (PySem.W.kdv_tup pv)).push (PySem.HandSPX.excO C hp.objs.size)).get? (hp.objs.size + 1) = some (PySem.HandSPX.excO C hp.objs.size) := by heap_get
  have hKa : X.K.lookup (hp.objs.size + 1) = none := by
    cases q : X.K.lookup (hp.objs.size + 1) with
    | none => rfl
    | some o => exact absurd (Heap.lt_size (I1.kIn _ _ q)) (by show ¬ hp.objs.size + 1 < hp.objs.size; omega)
  have bk : ∀ b o, X.base.get? b = some o → ((hp.push (PySem.W.kdv_tup pv)).push (PySem.HandSPX.excO C hp.objs.size)).get? b = some o := fun b o e => up b o (I1.bk b o e)
  have Bn : ∃ mb, ((hp.push (PySem.W.kdv_tup pv)).push (PySem.HandSPX.excO C hp.objs.size)).Ns builtinsNs mb ∧ ∀ x : Str, x ≠ "__name__" → mb x = bootBuiltins x := by
    obtain ⟨mb, z1, z2⟩ := I1.mod.blt
    exact ⟨mb, z1.keeps bk, z2⟩
  refine wpAny_call (xk_call (baF b).fb (fun Y => PySem.W.excTail_contains Y bm hbm) (I1.kIn _ _ hC) (PySem.W.looks_findIn I1.kIn T.iC) (fun self => PySem.W.bind_fn I1.kIn self T.tI) hz ?_)
  refine ini_run (mg := X.mg) (K := X.K) T Fo (I1.kIn.keeps up) (I1.mod.glob.keeps bk) Bn (I1.mod.nolimit.keeps bk) hsup (hr.make C pv kw).depth hget hl hb hKa hno fun h2 tk2 dx t1 mA k2 nd dne sz hx hn hR => ?_
  refine ⟨rfl, ?_⟩
  have old : ∀ b o, hp.get? b = some o → b ≠ hp.objs.size + 1 := fun b o e => Nat.ne_of_lt (Nat.lt_succ_of_lt (Heap.lt_size e))
  have nd1 : hp.get? dx = none := by
    cases q : hp.get? dx with
    | none => rfl
    | some o => rw [up _ _ q] at nd; cases nd
  have sz1 : hp.objs.size ≤ dx := by
    have z : ((hp.push (PySem.W.kdv_tup pv)).push (PySem.HandSPX.excO C hp.objs.size)).objs.size = hp.objs.size + 2 := by simp [Heap.push]
    have sz' : ((hp.push (PySem.W.kdv_tup pv)).push (PySem.HandSPX.excO C hp.objs.size)).objs.size ≤ dx := sz
    rw [z] at sz'
    omega
  exact hq (hp.objs.size + 1) dx h2 tk2 t1 mA (Nat.lt_succ_self _) (fun c o e => k2 c o (old c o e) (up c o e)) nd1 sz1 dne hx hn (hR vs rv)
/-! ### raised -/
def tMk (mg : Str → Option Value) (x : Str) (fs : List Str) (ta : TA) : L2.St → Hp → XK → Prop := fun σ H Q => ta σ H fun vs H1 => vs.length = fs.length ∧ (∃ C, mg x = some (.ref C)) ∧ ∀ C' d, mg x = some (.ref C') → H1 d = none → Q (.ref C') (some d) (upd H1 d (.xd (fs.zip vs)))
theorem pmk_xc (T : Xc X.prog X.K X.mg x fs) (hfs : fs.length ≤ sizeLine) (hr : Room (k + 1) X.A) (hg : Gl X x) (ha : PA X (e :: es) ta) (hdb : (x == ("__debug__" : Str)) = false) (he : starEach (e :: es) X.env = (false, eval e X.env) :: starEach es X.env) (hpl : (backTo pos (starEach es X.env)).any (·.1) = false) :
    PMk X (.Call (.Name x p) (e :: es) [] pos) (tMk X.mg x fs ta) := by
  intro pins s σ H Q I h
  have T0 := T
  obtain ⟨b, file, params, body, scope, C, fI, cc, cda, fd, T, _, _, hm, _, hsup⟩ := T.ex
  refine wpAny_Call_Name_kw (ld_glob I hg hm ?_ hdb)
  refine PySem.W.callWith_K (h₀ := X.base) I.ok.mod.kin T.ox.kC (thn (ha.run pos pins s σ H _ I h) fun us s1 ⟨vs, H1, I1, r1, hq⟩ => ⟨I1.kIn, ?_⟩) he hpl
  obtain ⟨hlen, _, hq⟩ := hq
  have hl : us.length = fs.length := by rw [← r1.length]; exact hlen
  refine mk_core T0 hr I1 r1 hl (by rw [List.nil_append, hl]; exact hfs) (.inl ⟨rfl, rfl⟩) hm fun a dx h2 tk2 t1 mA sa up nd1 sz1 dne hx hn hR => ?_
  obtain ⟨hp, g, dr, tk, os⟩ := s1
  show MkP X pins σ Q (.ref a) ⟨h2, g, dr, tk2, os⟩
  obtain ⟨G, g1, g2⟩ := restrict h2 fun b => decide (b ≠ a)
  have gk : ∀ b, b ≠ a → G.get? b = h2.get? b := fun b hb => g1 b (decide_eq_true hb)
  have ge : G.get? a = none := g2 _ (by simp)
  have old : ∀ b o, hp.get? b = some o → b ≠ a := fun b o e => Nat.ne_of_lt (Nat.lt_trans (Heap.lt_size e) sa)
  have kG : ∀ b o, hp.get? b = some o → G.get? b = some o := fun b o e => by rw [gk b (old b o e)]; exact up b o e
  have nH : H1 dx = none := I1.hok.fresh sz1
  have J : Inv X pins σ (upd H1 dx (.xd (fs.zip vs))) ⟨G, g, dr, tk2, os⟩ := I1.laidN (t' := tk2) (h' := G) (a := dx) (o := .xd (fs.zip vs)) kG nd1 nH ⟨_, hn.at fun o y => (gk dx dne).trans y, hR⟩
  refine ⟨a, _, _, ⟨G, g, dr, tk2, os⟩, _, .ref C, some dx, rfl, J, fun b o e => ?_, ge, hx, ⟨rfl, rfl⟩, rfl, rfl, ?_, rfl, I1.bare, raises_own T.ox.exC T.ox.tyC, hq C dx hm nH⟩
  · have nb : b ≠ a := fun z => by subst z; rw [ge] at e; cases e
    rw [gk b nb] at e
    exact e
  · rw [upd_ne (Ne.symm dne)]
    exact I1.hok.fresh (Nat.le_of_lt sa)
/-! ### as a value -/
def tMkV (mg : Str → Option Value) (x : Str) (fs : List Str) (rv : List V → List V) (ta : TA) : TE := fun σ H Q => ta σ H fun vs H1 => vs.length = fs.length ∧ ∀ C a d, mg x = some (.ref C) → H1 d = none → H1 a = none → a ≠ d → Q (.ref a) (upd (upd H1 d (.xd (fs.zip (rv vs)))) a (exo a C (some d)))
theorem mkv_end {pins : List (Addr × Obj)} {s1 : Shared} {σ : L2.St} {H1 : Hp} {vs : List V} {C : Addr} {Q : VK} {a dx t1 : Addr} {h2 : Heap} {tk2 : Nat} {mA : Str → Option Value} (I1 : Inv X pins σ H1 s1) (sa : s1.heap.objs.size < a) (up : ∀ c o, s1.heap.get? c = some o → h2.get? c = some o) (nd1 : s1.heap.get? dx = none) (sz1 : s1.heap.objs.size ≤ dx) (dne : dx ≠ a)
    (hx : h2.get? a = some { cls := .ref C, dict := some dx, data := .fields #[.ref t1, .none, .none, .none, .bool false, .none] }) (hn : h2.Ns1 dx mA) (hR : ∀ y, RelO ((fs.zip vs).lookup y) (mA y))
    (hq : H1 dx = none → H1 a = none → a ≠ dx → Q (.ref a) (upd (upd H1 dx (.xd (fs.zip vs))) a (exo a C (some dx)))) : EP X pins σ Q (.ref a) { s1 with heap := h2, toks := tk2 } := by
  obtain ⟨hp, g, dr, tk, os⟩ := s1
  have nH : H1 dx = none := I1.hok.fresh sz1
  have nA : H1 a = none := I1.hok.fresh (Nat.le_of_lt sa)
  have na : hp.get? a = none := by
    cases q : hp.get? a with
    | none => rfl
    | some o => exact absurd (Heap.lt_size q) (by show ¬ a < hp.objs.size; exact Nat.not_lt.mpr (Nat.le_of_lt sa))
  obtain ⟨G, g1, g2⟩ := restrict h2 fun b => decide (b ≠ a)
  have gk : ∀ b, b ≠ a → G.get? b = h2.get? b := fun b hb => g1 b (decide_eq_true hb)
  have ge : G.get? a = none := g2 _ (by simp)
  have old : ∀ b o, hp.get? b = some o → b ≠ a := fun b o e => Nat.ne_of_lt (Nat.lt_trans (Heap.lt_size e) sa)
  have kG : ∀ b o, hp.get? b = some o → G.get? b = some o := fun b o e => by rw [gk b (old b o e)]; exact up b o e
  have J : Inv X pins σ (upd H1 dx (.xd (fs.zip vs))) ⟨G, g, dr, tk2, os⟩ := I1.laidN (t' := tk2) (h' := G) (a := dx) (o := .xd (fs.zip vs)) kG nd1 nH ⟨_, hn.at fun o y => (gk dx dne).trans y, hR⟩
  have nA2 : upd H1 dx (.xd (fs.zip vs)) a = none := by rw [upd_ne (Ne.symm dne)]; exact nA
  have J2 : Inv X pins σ (upd (upd H1 dx (.xd (fs.zip vs))) a (exo a C (some dx))) ⟨h2, g, dr, tk2, os⟩ := J.laidN (t' := tk2) (h' := h2) (a := a) (o := exo a C (some dx)) (fun b o e => by
    have nb : b ≠ a := fun z => by subst z; rw [ge] at e; cases e
    rw [gk b nb] at e
    exact e) ge nA2 (exo_ok hx)
  exact ⟨.ref a, _, J2, rfl, hq nH nA (Ne.symm dne)⟩
theorem pe_mkv (T : Xc X.prog X.K X.mg x fs) (hfs : fs.length ≤ sizeLine) (hr : Room (k + 1) X.A) (hg : Gl X x) (ha : PA X (e :: es) ta) (hdb : (x == ("__debug__" : Str)) = false) (he : starEach (e :: es) X.env = (false, eval e X.env) :: starEach es X.env) (hpl : (backTo pos (starEach es X.env)).any (·.1) = false) :
    PE X (.Call (.Name x p) (e :: es) [] pos) (tMkV X.mg x fs id ta) := by
  refine ⟨fun pins s σ H Q I h => ?_⟩
  have T0 := T
  obtain ⟨b, file, params, body, scope, C, fI, cc, cda, fd, T, _, _, hm, _, hsup⟩ := T.ex
  refine wpAny_Call_Name_kw (ld_glob I hg hm ?_ hdb)
  refine PySem.W.callWith_K (h₀ := X.base) I.ok.mod.kin T.ox.kC (thn (ha.run pos pins s σ H _ I h) fun us s1 ⟨vs, H1, I1, r1, hq⟩ => ⟨I1.kIn, ?_⟩) he hpl
  obtain ⟨hlen, hq⟩ := hq
  have hl : us.length = fs.length := by rw [← r1.length]; exact hlen
  exact mk_core T0 hr I1 r1 hl (by rw [List.nil_append, hl]; exact hfs) (.inl ⟨rfl, rfl⟩) hm fun a dx h2 tk2 t1 mA sa up nd1 sz1 dne hx hn hR => mkv_end I1 sa up nd1 sz1 dne hx hn hR fun n1 n2 n3 => hq C a dx hm n1 n2 n3
theorem vals_rev : ∀ {vs : List V} {us : List Value}, Vals vs us → Vals vs.reverse us.reverse
  | _, _, .nil => .nil
  | _, _, .cons r t => by
    rw [List.reverse_cons, List.reverse_cons]
    exact (vals_rev t).append (.cons r .nil)
theorem zip_rev {α β : Type} : ∀ {l : List α} {m : List β}, l.length = m.length → (l.zip m).reverse = l.reverse.zip m.reverse
  | [], [], _ => rfl
  | a :: l, b :: m, h => by
    have h' : l.length = m.length := by simpa using h
    rw [List.zip_cons_cons, List.reverse_cons, List.reverse_cons, List.reverse_cons, zip_rev h', List.zip_append (by simp [h'])]
    rfl
  | [], _ :: _, h => by simp at h
  | _ :: _, [], h => by simp at h
/-- by names, from the last to the first -/
theorem pe_mkvK (T : Xc X.prog X.K X.mg x fs) (hr : Room (k + 1) X.A) (hg : Gl X x) (ha : PK X kws ta) (hdb : (x == ("__debug__" : Str)) = false) (hall : (backToKw pos (keywordEach kws X.env)).all (·.1.isSome) = true) (hks : (backToKw pos (keywordEach kws X.env)).filterMap (·.1) = fs.reverse)
    (hpl : ((backTo pos (starEach [] X.env)).any (·.1) || (backToKw pos (keywordEach kws X.env)).any (·.1.isNone)) = false) :
    PE X (.Call (.Name x p) [] kws pos) (tMkV X.mg x fs List.reverse ta) := by
  refine ⟨fun pins s σ H Q I h => ?_⟩
  have T0 := T
  obtain ⟨b, file, params, body, scope, C, fI, cc, cda, fd, T, _, _, hm, _, hsup⟩ := T.ex
  refine wpAny_Call_Name_kw (ld_glob I hg hm ?_ hdb)
  refine PySem.W.callWith_KW0 (h₀ := X.base) I.ok.mod.kin T.ox.kC hall (thn (ha.run pos pins s σ H _ I h) fun us s1 ⟨vs, H1, I1, r1, hq⟩ => ⟨I1.kIn, ?_⟩) hpl
  obtain ⟨hlen, hq⟩ := hq
  have hl : us.length = fs.length := by rw [← r1.length]; exact hlen
  rw [hks]
  have e1 : fs.reverse.zip us = (fs.zip us.reverse).reverse := by
    rw [zip_rev (by rw [List.length_reverse, hl]), List.reverse_reverse]
  rw [e1]
  exact mk_core T0 hr I1 (vals_rev r1) (by rw [List.length_reverse, hl]) (by simp) (.inr ⟨rfl, rfl⟩) hm fun a dx h2 tk2 t1 mA sa up nd1 sz1 dne hx hn hR => mkv_end I1 sa up nd1 sz1 dne hx hn hR fun n1 n2 n3 => hq C a dx hm n1 n2 n3
/-! ### raise -/
def cRaise (x : Str) (fs : List Str) (fa : M (List W)) : M Fl := M.bind fa fun ws => M.bind (frzAll ws) fun ds => fun r => if ds.length = fs.length then .exc ⟨x, fs.zip ds⟩ r else .fail
theorem PostS.frzAll {vs : List V} {Wx : WX} {B0 H0 B H : Hp} {σ : L2.St} {r0 r : Rho} {ws : List W} {xs : List V} {kk : List D → M Fl} {E : Ends} (R : Rl X.K vs B σ H r) (s : Stp vs B0 H0 σ r0 B H σ r) (hv : RpWs X.K vs H0 B σ H r xs ws)
    (h : PostS X vs Wx B0 H0 σ r0 (M.bind (Lc.frzAll ws) kk r) E) : ∃ ds r' B', RpAll X.K B' xs ds ∧ Rl X.K vs B' σ H r' ∧ Stp vs B0 H0 σ r0 B' H σ r' ∧ PostS X vs Wx B0 H0 σ r0 (kk ds r') E := by
  cases e : Lc.frzAll ws r with
  | fail => simp only [M.bind, e] at h; exact h.elim
  | exc y r1 => exact absurd e frzAll_noexc
  | ok ds r1 =>
    simp only [M.bind, e] at h
    obtain ⟨B', p, R', s', _⟩ := frzAll_ok R s hv e
    exact ⟨ds, r1, B', p, R', s', h⟩
theorem rpF_zip {K : PySem.W.Frag} {B : Hp} : ∀ (fs : List Str) {vs : List V} {ds : List D}, RpAll K B vs ds → RpF K B (fs.zip vs) (fs.zip ds)
  | [], _, _, _ => .nil
  | _ :: _, _, _, .nil => .nil
  | _ :: fs, _, _, .cons h r => .cons h (rpF_zip fs r)
theorem ds_raise {fa : M (List W)} {rp : Pos} (T : Xc X.prog X.K X.mg x fs) (hfs : fs.length ≤ sizeLine) (hc : X.calm = true) (hr : Room (k + 1) X.A) (hg : Gl X x) (ha : DA X (e :: es) fa) (hdb : (x == ("__debug__" : Str)) = false) (he : starEach (e :: es) X.env = (false, eval e X.env) :: starEach es X.env) (hpl : (backTo pos (starEach es X.env)).any (·.1) = false) :
    DS X (.Raise (some (.Call (.Name x p) (e :: es) [] pos)) none rp) (cRaise x fs fa) := by
  refine ⟨fun Wx tk => ?_⟩
  obtain ⟨t, pt, qt⟩ := ha.run Wx tk
  refine ⟨_, ps_raise hc tk (pmk_xc T hfs hr hg pt hdb he hpl), fun vs B σ H r E R h => qt vs B σ H r _ R (PostS.bind0 h fun xs ws B1 H1 r1 s1 R1 q1 h1 => ?_)⟩
  obtain ⟨ds, r2, B2, p2, R2, s2, h2⟩ := PostS.frzAll R1 s1 q1 h1
  have hC : ∃ C, X.mg x = some (.ref C) := by
    obtain ⟨_, _, _, _, _, C, _, _, _, _, _, _, _, hm, _⟩ := T.ex
    exact ⟨C, hm⟩
  split at h2
  · rename_i hd
    refine ⟨by rw [p2.length, hd], hC, fun C' dd hm' nd => ?_⟩
    have ex : Ext B2 H1 (upd B2 dd (.xd (fs.zip xs))) (upd H1 dd (.xd (fs.zip xs))) := .frozen R2.sub nd
    exact h2 (.ref C') (some dd) σ _ _ (s2.ext ex) (R2.ext ex (same_both R2.sub)) ⟨C', dd, _, rfl, hm', rfl, upd_same, rpF_zip fs (p2.mono ex.sub)⟩
  · exact h2.elim
/-! ### made, as a value -/
def cMk (x : Str) (fs : List Str) (rv : Bool) (fa : M (List W)) : M W := M.bind fa fun ws => M.bind (frzAll ws) fun ds => fun r => if ds.length = fs.length then .ok (.dt (.err x (fs.zip (if rv = true then ds.reverse else ds)))) r else .fail
theorem mkv_post {vs : List V} {Wx : WX} {B H : Hp} {σ : L2.St} {r : Rho} {fa : M (List W)} {Q : VK} {rv : Bool} {t : TA} (T : Xc X.prog X.K X.mg x fs) (R : Rl X.K vs B σ H r)
    (qt : ∀ vs B σ H r Q, Rl X.K vs B σ H r → Post X vs Wx B H σ r (fa r) (fA X vs σ H) Q → t σ H Q) (h : Post X vs Wx B H σ r (cMk x fs rv fa r) (fW X vs σ H) Q) : tMkV X.mg x fs (fun l => if rv = true then l.reverse else l) t σ H Q := by
  refine qt vs B σ H r _ R (Post.bind0 h fun xs ws B1 H1 r1 s1 R1 q1 h1 => ?_)
  obtain ⟨ds, r2, B2, p2, R2, s2, h2⟩ := Post.frzAll R1 s1 q1 h1
  split at h2
  · rename_i hd
    refine ⟨by rw [p2.length, hd], fun C a d hm nd na nad => ?_⟩
    obtain ⟨_, _, _, _, _, C', _, _, _, _, _, _, _, hm', hns, _⟩ := T.ex
    obtain rfl : C = C' := by rw [hm] at hm'; cases hm'; rfl
    have ex : Ext B2 H1 (upd B2 d (.xd (fs.zip (if rv = true then xs.reverse else xs)))) (upd H1 d (.xd (fs.zip (if rv = true then xs.reverse else xs)))) := .frozen R2.sub nd
    have sm := same_both (p := d) (o := .xd (fs.zip (if rv = true then xs.reverse else xs))) R2.sub
    have na2 : upd H1 d (.xd (fs.zip (if rv = true then xs.reverse else xs))) a = none := by rw [upd_ne nad]; exact na
    have ex2 : Ext _ _ (upd (upd B2 d (.xd (fs.zip (if rv = true then xs.reverse else xs)))) a (exo a C (some d))) (upd (upd H1 d (.xd (fs.zip (if rv = true then xs.reverse else xs)))) a (exo a C (some d))) := .frozen sm na2
    have ex3 := ex.trans ex2
    refine h2 (.ref a) _ _ (s2.ext ex3) (R2.ext ex3 (same_both sm)) (Rp.err (C := C) (dd := d) (fs := fs.zip (if rv = true then xs.reverse else xs)) upd_same ?_ hns (rpF_zip fs ?_))
    · rw [upd_ne (Ne.symm nad)]; exact upd_same
    · have p3 := p2.mono ex3.sub
      cases rv with
      | false => exact p3
      | true => exact p3.reverse
  · exact h2.elim
theorem de_mk {fa : M (List W)} (T : Xc X.prog X.K X.mg x fs) (hfs : fs.length ≤ sizeLine) (hr : Room (k + 1) X.A) (hg : Gl X x) (ha : DA X (e :: es) fa) (hdb : (x == ("__debug__" : Str)) = false) (he : starEach (e :: es) X.env = (false, eval e X.env) :: starEach es X.env) (hpl : (backTo pos (starEach es X.env)).any (·.1) = false) :
    DE X (.Call (.Name x p) (e :: es) [] pos) (cMk x fs false fa) := by
  refine ⟨fun Wx tk => ?_⟩
  obtain ⟨t, pt, qt⟩ := ha.run Wx tk
  exact ⟨_, pe_mkv T hfs hr hg pt hdb he hpl, fun vs B σ H r Q R h => mkv_post (rv := false) T R qt h⟩
theorem de_mkK {fa : M (List W)} (T : Xc X.prog X.K X.mg x fs) (hr : Room (k + 1) X.A) (hg : Gl X x) (ha : DK X kws fa) (hdb : (x == ("__debug__" : Str)) = false) (hall : (backToKw pos (keywordEach kws X.env)).all (·.1.isSome) = true) (hks : (backToKw pos (keywordEach kws X.env)).filterMap (·.1) = fs.reverse)
    (hpl : ((backTo pos (starEach [] X.env)).any (·.1) || (backToKw pos (keywordEach kws X.env)).any (·.1.isNone)) = false) :
    DE X (.Call (.Name x p) [] kws pos) (cMk x fs true fa) := by
  refine ⟨fun Wx tk => ?_⟩
  obtain ⟨t, pt, qt⟩ := ha.run Wx tk
  exact ⟨_, pe_mkvK T hr hg pt hdb hall hks hpl, fun vs B σ H r Q R h => mkv_post (rv := true) T R qt h⟩
end
end Lc

set_option Elab.async false
set_option maxRecDepth 100000
set_option maxHeartbeats 4000000
/-! Part U: try, except C as e; e.f, isinstance(e, c) in the suite. -/
namespace Lc
open PySem L2 PySem.Spec PyProof.Rows
open Classical in
/-- what does not hang on places -/
noncomputable def collapse (g : Addr → Addr → Res Fl) : Res Fl := if h : ∃ R, ∀ a dd, g a dd = R then h.choose else .fail
theorem collapse_eq {g : Addr → Addr → Res Fl} {R : Res Fl} (h : ∀ a dd, g a dd = R) : collapse g = R := by
  have hx : ∃ R, ∀ a dd, g a dd = R := ⟨R, h⟩
  unfold collapse
  rw [dif_pos hx, ← hx.choose_spec 0 0]
  exact h 0 0
theorem collapse_all {g : Addr → Addr → Res Fl} (h : collapse g ≠ .fail) (a dd : Addr) : g a dd = collapse g := by
  unfold collapse at h ⊢
  split
  · rename_i hx
    exact hx.choose_spec a dd
  · rename_i hx
    rw [dif_neg hx] at h
    exact absurd rfl h
def Rho.clr (r : Rho) (i : Nat) : Rho := { r with loc := r.loc.set i none }
def clearI (i : Nat) : Res Fl → Res Fl
  | .ok (.ret w) r => if w.isLoc i = true then .fail else .ok (.ret w) (r.clr i)
  | .ok fl r => .ok fl (r.clr i)
  | _ => .fail
noncomputable def cTry (body : M Fl) (c : Str → Option Bool) (i : Nat) (suite : Addr → Addr → Ex → M Fl) : M Fl := fun r => match body r with
  | .exc x r1 => match c x.cls with
    | some true => if i < r1.loc.length then collapse fun a dd => clearI i (suite a dd x (r1.put i (.dt (.exc a dd x.fs)))) else .fail
    | some false => .exc x r1
    | none => .fail
  | res => res
section
variable {K : PySem.W.Frag} {vs : List V} {B H : Hp} {σ : L2.St} {r : Rho} {i : Nat}
theorem clr_eq : r.clr i = r.wipe [i] := rfl
theorem Rl.clr (R : Rl K vs B σ H r) : Rl K vs B (σ.set i none) H (r.clr i) := R.wipe (own := [i])
theorem own_clr {a : Addr} (h : Own vs (σ.set i none) (r.clr i) a) : Own vs σ r a := own_wipe (own := [i]) h
theorem Stp.clr {B0 H0 : Hp} {σ0 : L2.St} {r0 : Rho} (s : Stp vs B0 H0 σ0 r0 B H σ r) : Stp vs B0 H0 σ0 r0 B H (σ.set i none) (r.clr i) :=
  ⟨s.sub, s.keep, s.dom, fun a q => s.own a (own_clr q), s.bol, s.bod, s.boo⟩
theorem RpW.clr {Hs : Hp} {v : V} {w : W} (h : RpW K vs Hs B σ H r v w) (hw : w.isLoc i = false) : RpW K vs Hs B (σ.set i none) H (r.clr i) v w := by
  cases w with
  | dt d => exact h
  | fresh c =>
    obtain ⟨a, e, h1, h2, h3, h4⟩ := h
    exact ⟨a, e, h1, h2, h3, fun q => h4 (own_clr q)⟩
  | cel z =>
    have hz : ∀ j, z = .loc j → j ∉ [i] := fun j e => by
      subst e
      intro hm
      have : j = i := by simpa using hm
      subst this
      simp [W.isLoc] at hw
    have := adr_wipe (vs := vs) (σ := σ) (own := [i]) hz
    show adr vs (wipe σ [i]) z = some v
    rw [this]
    exact h
end
section
variable {X : Cx} {x n : Str} {cv : Value} {i : Nat} {body suite : List Stmt} {b0 : Stmt} {np pos pos' : Pos} {fb : M Fl} {fs : Addr → Addr → Ex → M Fl} {c : Str → Option Bool}
theorem takes_suite {a : Addr} {pn : List (Addr × Obj)} : Takes (X.suite a pn) Wf := fun u s' ⟨_, _, _, _, _, _, _, _, _, _, _, _, _, _, _, _, h⟩ => h.elim
theorem ds_try (hs : X.stack = X.env :: X.outer) (hf : X.env.frame = some X.env.locals) (hN : X.N.Nodup) (hi : X.N[i]? = some n) (hln : X.env.kindOf n = some .local) (hc : Names X x cv)
    (hcat : ∀ (y : Str) (b : Bool) (C : Addr), c y = some b → X.mg y = some (.ref C) → PySem.W.exmOne X.K (.ref C) cv = some b)
    (hb : ∀ (pn : List (Addr × Obj)) (xe : Value → Shared → Prop), PassesOwn (model X.prog X.w) X.A X.env xe → DSs (X.tr pn xe) body fb)
    (hsu : ∀ (a : Addr) (oe : Obj) (pn : List (Addr × Obj)) (C dd : Addr) (y : Ex), Zc (.ref C) (some dd) oe → (∃ vs, oe.data = .fields vs) → X.mg y.cls = some (.ref C) → c y.cls = some true → DSs (X.suite a ((a, oe) :: pn)) (b0 :: suite) (fs a dd y)) :
    DS X (.Try body [.ExceptHandler (some (.Name x np)) (some n) (b0 :: suite) pos'] [] [] pos) (cTry fb c i fs) := by
  refine ⟨fun Wout tk => ?_⟩
  refine ⟨_, ps_try_as (c := cv) (i := i) (Wout := Wout) (tb := fun W E σ H => ∃ vs B r, Rl X.K vs B σ H r ∧ PostS X vs W B H σ r (fb r) E)
    (ts := fun a cls d E σ H => ∃ C dd y vs B r, cls = .ref C ∧ d = some dd ∧ X.mg y.cls = some (.ref C) ∧ c y.cls = some true ∧ Rl X.K vs B σ H r ∧ PostS X vs Wf B H σ r (fs a dd y r) E) hs hf hN hi hln hc tk
    (fun W pn xe tkb hp => ⟨fun pins s σ H D I ⟨vs, B, r, R, h⟩ => ?_⟩) (fun a oe cls d pn hz hfl => ⟨fun pins s σ H D I ⟨C, dd, y, vs, B, r, e1, e2, hm, hcy, R, h⟩ => ?_⟩), fun vs B σ H r E R h => ⟨vs, B, r, R, ?_⟩⟩
  · obtain ⟨t, pt, qt⟩ := (hb pn xe hp).run W tkb
    exact pt.run pins s σ H D I (qt vs B σ H r D R h)
  · subst e1 e2
    obtain ⟨t, pt, qt⟩ := (hsu a oe pn C dd y hz hfl hm hcy).run Wf takes_suite
    exact pt.run pins s σ H D I (qt vs B σ H r D R h)
  · unfold cTry at h
    cases ef : fb r with
    | fail => rw [ef] at h; exact h.elim
    | ok fl r1 => rw [ef] at h; cases fl <;> exact h
    | exc y r1 =>
      rw [ef] at h
      simp only at h
      intro cl dd0 σ1 B1 H1 s1 R1 hx
      obtain ⟨C, dd, fsV, rfl, hm, rfl, hB, hF⟩ := hx
      cases ec : c y.cls with
      | none => rw [ec] at h; exact h.elim
      | some b =>
        rw [ec] at h
        refine ⟨b, hcat y.cls b C ec hm, fun hb2 a na => ?_, fun hb2 => ?_⟩
        · subst hb2
          simp only at h
          split at h
          · rename_i hlt
            have nf : collapse (fun a dd => clearI i (fs a dd y (r1.put i (.dt (.exc a dd y.fs))))) ≠ .fail := fun z => by rw [z] at h; exact h
            have hall := collapse_all nf a dd
            rw [← hall] at h
            have rp : RpS X.K vs H B1 σ1 H1 r1 (.ref a) (.dt (.exc a dd y.fs)) := Rp.exc hB hF
            obtain ⟨R2, s2⟩ := R1.assign s1 rp hlt
            refine ⟨C, dd, y, vs, B1, r1.put i (.dt (.exc a dd y.fs)), rfl, rfl, hm, ec, R2, ?_⟩
            cases e3 : fs a dd y (r1.put i (.dt (.exc a dd y.fs))) with
            | fail => rw [e3] at h; exact h.elim
            | exc z r3 => rw [e3] at h; exact h.elim
            | ok fl r3 =>
              rw [e3] at h
              cases fl with
              | next => exact fun σ3 B3 H3 s3 R3 => h _ B3 H3 (s2.trans s3).clr R3.clr
              | brk => exact fun σ3 B3 H3 s3 R3 => h _ B3 H3 (s2.trans s3).clr R3.clr
              | cnt => exact fun σ3 B3 H3 s3 R3 => h _ B3 H3 (s2.trans s3).clr R3.clr
              | ret w =>
                simp only [clearI] at h
                split at h
                · exact h.elim
                · rename_i hw
                  have hw' : w.isLoc i = false := by cases q : w.isLoc i with
                    | true => exact absurd q hw
                    | false => rfl
                  exact fun v σ3 B3 H3 s3 R3 q3 => h v _ B3 H3 (s2.trans s3).clr R3.clr (RpW.clr (RpW.back q3 s2.dom) hw')
          · exact h.elim
        · subst hb2
          exact h (.ref C) (some dd) σ1 B1 H1 s1 R1 ⟨C, dd, fsV, rfl, hm, rfl, hB, hF⟩
/-! ### e.f -/
def cXf (a dd : Addr) (i : Nat) (f : Str) : M W := fun r => match r.loc[i]? with
  | some (some (.dt (.exc a' dd' fs))) => if a' = a ∧ dd' = dd then (match fs.lookup f with
      | some d => .ok (.dt d) r
      | none => .fail) else .fail
  | _ => .fail
theorem rpF_look {K : PySem.W.Frag} {B : Hp} {f : Str} {d : D} : ∀ {fs : List (Str × V)} {ds : List (Str × D)}, RpF K B fs ds → ds.lookup f = some d → ∃ v, fs.lookup f = some v ∧ Rp K B v d
  | _, _, .nil, e => by cases e
  | _, _, .cons (x := x) h r, e => by
    rw [List.lookup_cons] at e ⊢
    cases q : (f == x) with
    | true => rw [q] at e; cases e; exact ⟨_, rfl, h⟩
    | false => rw [q] at e; exact rpF_look r e
theorem slot_exc {vs : List V} {B H : Hp} {σ : L2.St} {r : Rho} {a dd : Addr} {ds : List (Str × D)} (R : Rl X.K vs B σ H r) (e : r.loc[i]? = some (some (.dt (.exc a dd ds)))) : σ[i]? = some (some (.ref a)) ∧ ∃ fs, B dd = some (.xd fs) ∧ RpF X.K B fs ds := by
  obtain ⟨v, h1, h2⟩ := R.dat i _ e
  cases h2 with
  | exc hB hF => exact ⟨h1, _, hB, hF⟩
theorem de_xf {a C dd : Addr} {oe : Obj} {pn : List (Addr × Obj)} {f : Str} (T : XfC X.K C) (hno : PySem.W.findIn X.K (.ref C) f = some none) (hz : Zc (.ref C) (some dd) oe) (hfl : ∃ vs, oe.data = .fields vs)
    (hi : X.N[i]? = some n) (hv : Vis X.env.scope n) (hd : (n == ("__debug__" : Str)) = false) (hcd : (n == ("__classdict__" : Str)) = false) (hb : attributeBase (.Name n np) f X.env (eval (.Name n np) X.env) = eval (.Name n np) X.env) :
    DE (X.suite a ((a, oe) :: pn)) (.Attribute (.Name n np) f pos) (cXf a dd i f) := by
  refine ⟨fun Wx tk => ⟨_, pe_xf (X := X) T hno hz hfl (pe_var (X := X.suite a ((a, oe) :: pn)) hi hv hd hcd) hb, fun vs B σ H r Q R h => ?_⟩⟩
  unfold cXf at h
  split at h
  · rename_i a' dd' ds e
    split at h
    · rename_i he
      obtain ⟨rfl, rfl⟩ := he
      obtain ⟨h1, fsV, hB, hF⟩ := slot_exc (X := X) R e
      cases el : ds.lookup f with
      | none => rw [el] at h; exact h.elim
      | some d =>
        rw [el] at h
        obtain ⟨v, hl, rv⟩ := rpF_look hF el
        exact ⟨.ref a', h1, rfl, rfl, dd', fsV, v, rfl, R.sub _ _ hB, hl, h v B H .refl R rv⟩
    · exact h.elim
  · exact h.elim
/-! ### isinstance(e, c) -/
/-- what the class D must say -/
structure XiC (K : PySem.W.Frag) (C : Addr) : Prop where
  hcl : (PySem.W.clsIn K C).isSome = true
  hga : PySem.W.findIn K (.ref C) "__getattribute__" = some (some (.builtin "BaseException.__getattribute__"))
  hgt : ∃ gt, PySem.W.findIn K (.ref C) "__getattr__" = some gt
  hsub : PySem.W.subIn K (.ref C) (.type "BaseException") = some true
  ha : PySem.W.findIn K (.ref C) "__class__" = some (some (.builtin "object.__class__"))
  hn : PySem.W.specialIn K (.builtin "object.__class__") "__get__" = some (some (.builtin "getset_descriptor.__get__"))
  ht : PySem.W.takesIn K (.builtin "object.__class__") = some true
  hm : PySem.W.mroIn K C (.type "object") = some true
/-- one class, or several -/
def isaD (isa : D → Option Bool) : D → Option Bool
  | .tup l => isaL isa l
  | d => isa d
where isaL (isa : D → Option Bool) : List D → Option Bool
  | [] => some false
  | c :: r => match isa c with
    | some true => some true
    | some false => isaL isa r
    | none => none
/-- isa tells the truth of the class at C -/
def IsaOk (K : PySem.W.Frag) (C : Addr) (isa : D → Option Bool) : Prop := (∀ l, isa (.tup l) = none) ∧ ∀ (d : D) (b : Bool), isa d = some b → ∀ (B : Hp) (v : V) (u : Value), Rp K B v d → RelV v u → PySem.W.kitOne K (.ref C) u = some b
def rIsX (K : PySem.W.Frag) (C a : Addr) (isa : D → Option Bool) : List V → Hp → VK → Prop := fun xs H Q => ∃ v d b, xs = [.ref a, v] ∧ Rp K H v d ∧ isaD isa d = some b ∧ Q (.bl b) H
theorem isaL_ok {K : PySem.W.Frag} {C : Addr} {isa : D → Option Bool} (h : IsaOk K C isa) : ∀ {l : List D} {b : Bool} {B : Hp} {vs : List V} {us : List Value}, isaD.isaL isa l = some b → RpAll K B vs l → Vals vs us → PySem.W.kitAny K (.ref C) us = some b
  | [], b, B, vs, us, e, r, v => by
    cases r; cases v; cases e
    exact kitAny_nil
  | c :: l, b, B, vs, us, e, r, v => by
    cases r with
    | cons r1 r2 =>
      cases v with
      | cons v1 v2 =>
        unfold isaD.isaL at e
        cases q : isa c with
        | none => rw [q] at e; cases e
        | some k =>
          rw [q] at e
          have k1 := h.2 c k q B _ _ r1 v1
          cases k with
          | true => cases e; exact kitAny_cons k1 (fun z => by cases z) (fun _ => rfl)
          | false => exact kitAny_cons k1 (fun _ => isaL_ok h e r2 v2) (fun z => by cases z)
theorem call_isX {a C dd : Addr} {oe : Obj} {pn : List (Addr × Obj)} {isa : D → Option Bool} (T : XiC X.K C) (hz : Zc (.ref C) (some dd) oe) (hfl : ∃ vs, oe.data = .fields vs) (hisa : IsaOk X.K C isa) :
    CallR (X.suite a ((a, oe) :: pn)) (.builtin "isinstance") (fun xs H Q => (∃ fs, H dd = some (.xd fs)) ∧ rIsX X.K C a isa xs H Q) := by
  intro pins s σ H xs us Q I r h
  obtain ⟨⟨fs, hdd⟩, v, d, b, rfl, rp, eb, q⟩ := h
  cases r with
  | cons ra rr =>
    cases rr with
    | cons rv rr =>
      cases rr
      rename_i u1 u2
      obtain rfl : u1 = Value.ref a := ra
      obtain ⟨hget, _⟩ := I.pin (a, oe) (List.mem_append.mpr (.inl List.mem_cons_self))
      obtain ⟨vs0, hd0⟩ := hfl
      obtain ⟨gt, hgt⟩ := T.hgt
      obtain ⟨mA, hns, _⟩ : ObjOk X.prog X.w H s.heap dd (.xd fs) := I.hok dd _ hdd
      obtain ⟨od, ho, _⟩ := lookIn_ns hns
      have J : PySem.W.InstAt s.heap a oe C (some od) := ⟨hget, hz.1, by unfold PySem.W.notCls; rw [hd0] <;> rfl, by rw [hz.2]; exact ho⟩
      have Z := PySem.W.kitx_exc (K := X.K) (x := a) (ox := oe) (od := some od) T.hcl T.hga hgt T.hsub T.ha T.hn T.ht T.hm
      have fin : ∀ tk, EP (X.suite a ((a, oe) :: pn)) pins σ Q (.bool b) { s with toks := tk } := fun tk => ⟨.bl b, H, I.kept (t' := tk) fun _ _ z => z, rfl, q⟩
      by_cases ht : ∃ l, d = .tup l
      · obtain ⟨l, rfl⟩ := ht
        cases rp with
        | tup h1 h2 =>
          rename_i p xs
          obtain rfl : u2 = Value.ref p := rv
          obtain ⟨its, o, m, rvs, ho2, hc2, hd2⟩ := sqT_at I.hok I.kIn (seqT_mono (Same.refl H) h1)
          obtain ⟨oc, od2, dt2, sl2⟩ := o
          simp only at hc2 hd2
          subst hc2 hd2
          exact PySem.W.kia_tup Z I.kIn J ho2 (isaL_ok hisa eb h2 rvs) (fun z => nomatch z) fin
      · have e1 : isaD isa d = isa d := by
          cases d <;> first | rfl | exact absurd ⟨_, rfl⟩ ht
        rw [e1] at eb
        exact PySem.W.kia_one Z I.kIn J (hisa.2 d b eb H v u2 rp rv) (fun z => nomatch z) fin
def cIsE (a dd : Addr) (i : Nat) (isa : D → Option Bool) (fc : M W) : M W := fun r => match r.loc[i]? with
  | some (some (.dt (.exc a' dd' _))) => if a' = a ∧ dd' = dd then M.bind fc (fun w => M.bind (M.view w) fun d => M.bind (M.opt (isaD isa d)) fun b => M.ret (.dt (.bl b))) r else .fail
  | _ => .fail
theorem de_isE {a C dd : Addr} {oe : Obj} {pn : List (Addr × Obj)} {isa : D → Option Bool} {e : Expr} {fc : M W} {p : Pos} (T : XiC X.K C) (hz : Zc (.ref C) (some dd) oe) (hfl : ∃ vs, oe.data = .fields vs) (hisa : IsaOk X.K C isa)
    (hi : X.N[i]? = some n) (hv : Vis X.env.scope n) (hd : (n == ("__debug__" : Str)) = false) (hcd : (n == ("__classdict__" : Str)) = false) (hg : Gl X "isinstance") (hm : X.mg "isinstance" = none) (hc : DE (X.suite a ((a, oe) :: pn)) e fc)
    (he : starEach [.Name n np, e] X.env = (false, eval (.Name n np) X.env) :: starEach [e] X.env) (he2 : starEach [e] X.env = (false, eval e X.env) :: starEach [] X.env) (hpl : (backTo pos (starEach [e] X.env)).any (·.1) = false) :
    DE (X.suite a ((a, oe) :: pn)) (.Call (.Name "isinstance" p) [.Name n np, e] [] pos) (cIsE a dd i isa fc) := by
  refine ⟨fun Wx tk => ?_⟩
  obtain ⟨t, pt, qt⟩ := hc.run Wx tk
  refine ⟨_, pe_callB (X := X.suite a ((a, oe) :: pn)) (call_isX (X := X) T hz hfl hisa) hg hm (by decide +kernel) (pa_cons (pe_var (X := X.suite a ((a, oe) :: pn)) hi hv hd hcd) (pa_cons pt pa_nil he2) he) (by decide) (by decide) he hpl, fun vs B σ H r Q R h => ?_⟩
  unfold cIsE at h
  split at h
  · rename_i a' dd' ds es
    split at h
    · rename_i hq
      obtain ⟨rfl, rfl⟩ := hq
      obtain ⟨h1, fsV, hB, hF⟩ := slot_exc (X := X) R es
      refine ⟨.ref a', h1, qt vs B σ H r _ R (Post.bind0 h fun v w B1 H1 r1 s1 R1 q1 h2 => ?_)⟩
      obtain ⟨d, vd, _, h3⟩ := Post.view R1 q1 h2
      obtain ⟨b, eb, h4⟩ := Post.opt h3
      exact ⟨⟨fsV, R1.sub _ _ (s1.sub _ _ hB)⟩, v, d, b, rfl, vd.whole R1.sub, eb, h4 (.bl b) B1 H1 s1 R1 (Rp.bl b)⟩
    · exact h.elim
  · exact h.elim
end
end Lc

set_option Elab.async false
set_option maxRecDepth 100000
set_option maxHeartbeats 4000000
/-! Part V: tuples and lists added, repeated, cut; sum, max, min of lists, tuple(x); classes by name; a def that fails. -/
namespace Lc
open PySem L2 PySem.Spec PyProof.Rows
section
variable {X : Cx} {B H : Hp} {v : V}
theorem OpS.or {f : Value → Value → Sem Value} {g g' : D → D → Option Bo} (h : OpS X f g) (h' : OpS X f g') : OpS X f (fun a b => match g a b with | some c => some c | none => g' a b) := by
  obtain ⟨rr, h1, h2⟩ := h
  obtain ⟨rr', h1', h2'⟩ := h'
  refine ⟨_, h1.or h1', fun x y da db b e B H Q s vx vy k => ?_⟩
  cases q : g da db with
  | some c => simp only [q] at e; cases e; exact .inl (h2 x y da db b q B H Q s vx vy k)
  | none => simp only [q] at e; exact .inr (h2' x y da db b e B H Q s vx vy k)
def gAddT : D → D → Option Bo
  | .tup xs, .tup ys => if xs.length + ys.length ≤ sizeLine then some (.dt (.tup (xs ++ ys))) else none
  | _, _ => none
theorem ops_addT : OpS X (binaryOp .Add) gAddT := by
  refine ⟨_, op_catA, fun x y da db b e B H Q s vx vy k => ?_⟩
  unfold gAddT at e
  split at e
  · rename_i xs ys
    split at e
    · rename_i hl
      cases e
      obtain ⟨a, us, rfl, h1, h2⟩ := rv_tup vx
      obtain ⟨c, ws, rfl, h3, h4⟩ := rv_tup vy
      refine ⟨a, c, us, ws, rfl, rfl, seqT_mono s h1, seqT_mono s h3, by rw [h2.length, h4.length]; exact hl, fun e0 => ?_, fun e0 e1 => ?_, fun e0 e1 p np => ?_⟩
      · subst e0
        have : xs = [] := List.length_eq_zero_iff.mp h2.length.symm
        subst this
        exact k _ B H .refl s (Rp.tup h3 h4)
      · subst e1
        have : ys = [] := List.length_eq_zero_iff.mp h4.length.symm
        subst this
        rw [List.append_nil] at k
        exact k _ B H .refl s (Rp.tup h1 h2)
      · exact k _ _ _ (.frozen s np) (same_both s) (Rp.tup (.inl upd_same) ((h2.append h4).mono (Ext.frozen s np).sub))
    · cases e
  · cases e
def gAdd2 (a b : D) : Option Bo := match gAdd a b with
  | some c => some c
  | none => gAddT a b
theorem ops_add2 : OpS X (binaryOp .Add) gAdd2 := OpS.or ops_add ops_addT
def gRepL : D → D → Option Bo
  | .lst xs, .int k => if -(2 ^ 63) ≤ k ∧ k < 2 ^ 63 ∧ xs.length * k.toNat ≤ sizeLine then some (.own (.lst (List.replicate k.toNat xs).flatten)) else none
  | _, _ => none
theorem rep_rp {K : PySem.W.Frag} {xs : List V} {ds : List D} (h : RpAll K B xs ds) : ∀ n : Nat, RpAll K B (List.replicate n xs).flatten (List.replicate n ds).flatten
  | 0 => .nil
  | n + 1 => by
    rw [List.replicate_succ, List.replicate_succ, List.flatten_cons, List.flatten_cons]
    exact h.append (rep_rp h n)
theorem ops_repL : OpS X (binaryOp .Mult) gRepL := by
  refine ⟨_, op_rep, fun x y da db b e B H Q s vx vy k => ?_⟩
  unfold gRepL at e
  split at e
  · rename_i xs n
    split at e
    · rename_i hl
      cases e
      obtain ⟨a, us, rfl, h1, h2⟩ := vx
      refine ⟨a, n, us, rfl, rv_int vy, h1, hl.1, hl.2.1, by rw [h2.length]; exact hl.2.2, fun p np => ?_⟩
      exact k _ B _ (.plain np) (s.trans (same_upd np)) ⟨p, rfl, np, none_of_sub s np, ⟨_, upd_same, rep_rp h2 _⟩⟩
    · cases e
  · cases e
def gRepT : D → D → Option Bo
  | .tup xs, .int k => if xs ≠ [] ∧ 2 ≤ k ∧ k ≤ 1000 ∧ xs.length ≤ 1000 then some (.dt (.tup (List.replicate k.toNat xs).flatten)) else none
  | _, _ => none
theorem ne_nil_len {α β : Type} {l : List α} {m : List β} (h : l.length = m.length) (n : m ≠ []) : l ≠ [] := fun z => by
  subst z
  exact n (List.length_eq_zero_iff.mp h.symm)
theorem ops_repT : OpS X (binaryOp .Mult) gRepT := by
  refine ⟨_, op_repT, fun x y da db b e B H Q s vx vy k => ?_⟩
  unfold gRepT at e
  split at e
  · rename_i xs n
    split at e
    · rename_i hl
      cases e
      obtain ⟨a, us, rfl, h1, h2⟩ := rv_tup vx
      refine ⟨a, n, us, rfl, rv_int vy, seqT_mono s h1, ne_nil_len h2.length hl.1, hl.2.1, hl.2.2.1, by rw [h2.length]; exact hl.2.2.2, fun p np => ?_⟩
      exact k _ _ _ (.frozen s np) (same_both s) (Rp.tup (.inl upd_same) ((rep_rp h2 _).mono (Ext.frozen s np).sub))
    · cases e
  · cases e
def gMul2 (a b : D) : Option Bo := match (match gMul a b with
    | some c => some c
    | none => gRepL a b) with
  | some c => some c
  | none => gRepT a b
theorem ops_mul2 : OpS X (binaryOp .Mult) gMul2 := OpS.or (OpS.or ops_mul ops_repL) ops_repT
/-! ### t[lo:hi] -/
def gSl2 : D → Option Int → Option Int → Option Bo
  | .tup l, lo, hi => some (.dt (.tup (cutD l lo hi)))
  | d, lo, hi => gSl d lo hi
theorem cut_rp {K : PySem.W.Frag} {xs : List V} {l : List D} {lo hi : Option Int} (h2 : RpAll K B xs l) : RpAll K B (cutV xs lo hi) (cutD l lo hi) := by
  unfold cutV cutD
  rw [h2.length]
  exact (h2.drop _).take _
theorem sls2 : SlS X gSl2 := by
  obtain ⟨rr, h1, h2⟩ := sls (X := X)
  refine ⟨_, h1.or sl_tupA, fun x d lo hi b e B H Q s vx k => ?_⟩
  unfold gSl2 at e
  split at e
  · rename_i l
    cases e
    obtain ⟨a, us, rfl, g1, g2⟩ := rv_tup vx
    refine .inr ⟨a, us, rfl, seqT_mono s g1, fun w => ?_, fun _ p np => ?_⟩
    · have e2 : cutD l lo hi = l := by
        unfold cutD
        rw [g2.length] at w
        rw [w.1, w.2, List.drop_zero, Nat.sub_zero, List.take_length]
      rw [e2] at k
      exact k _ B H .refl s (Rp.tup g1 g2)
    · exact k _ _ _ (.frozen s np) (same_both s) (Rp.tup (.inl upd_same) ((cut_rp g2).mono (Ext.frozen s np).sub))
  · exact .inl (h2 x d lo hi b e B H Q s vx k)
/-! ### sum, max, min of a list, tuple(x) -/
def intsOf : List D → Option (List Int)
  | [] => some []
  | .int b :: l => (intsOf l).map (b :: ·)
  | _ => none
theorem intsOf_ok : ∀ {l : List D} {bs : List Int}, intsOf l = some bs → l = bs.map D.int
  | [], bs, e => by cases e; rfl
  | d :: l, bs, e => by
    cases d with
    | int b =>
      simp only [intsOf] at e
      cases q : intsOf l with
      | none => rw [q] at e; cases e
      | some cs => rw [q] at e; cases e; rw [intsOf_ok q]; rfl
    | _ => simp [intsOf] at e
def gSum : List D → Option Bo
  | [.lst l] => (intsOf l).bind fun ns => iD ns.sum
  | _ => none
theorem cs_sum : CallS X (rSum X.K) gSum := by
  intro xs ds b e B H Q s vs k
  unfold gSum at e
  split at e
  · rename_i l
    cases q : intsOf l with
    | none => rw [q] at e; cases e
    | some ns =>
      rw [q] at e; cases e
      obtain ⟨x, rfl, a, xs, rfl, h1, h2⟩ := rvs_one vs
      rw [intsOf_ok q] at h2
      have := h2.ints
      subst this
      exact ⟨a, ns, rfl, .of h1, k _ B H .refl s (Rp.int _)⟩
  · cases e
def maxI : List Int → Int
  | [] => 0
  | [n] => n
  | n :: m :: r => max n (maxI (m :: r))
theorem maxI_ge : ∀ (ns : List Int) (y : Int), y ∈ ns → y ≤ maxI ns
  | [n], y, h => by rw [List.mem_singleton.mp h]; exact Int.le_refl _
  | n :: m :: r, y, h => by
    rcases List.mem_cons.mp h with rfl | h
    · exact Int.le_max_left _ _
    · exact Int.le_trans (maxI_ge (m :: r) y h) (Int.le_max_right _ _)
theorem maxI_in : ∀ (ns : List Int), ns ≠ [] → maxI ns ∈ ns
  | [n], _ => List.mem_singleton.mpr rfl
  | n :: m :: r, _ => by
    have := maxI_in (m :: r) (by simp)
    show max n (maxI (m :: r)) ∈ _
    rcases Int.le_total n (maxI (m :: r)) with h | h
    · rw [Int.max_eq_right h]; exact List.mem_cons_of_mem _ this
    · rw [Int.max_eq_left h]; exact List.mem_cons_self
def gMaxL : List D → Option Bo
  | [.lst l] => (intsOf l).bind fun ns => if ns = [] then none else iD (maxI ns)
  | ds => gMax ds
def rMax2 (K : PySem.W.Frag) : List V → Hp → VK → Prop := fun xs H Q => (∃ i j, xs = [.int i, .int j] ∧ Q (.int (if j > i then j else i)) H) ∨ rMax K xs H Q
theorem call_max12 (hc : X.calm = true) : CallR X (.builtin "max") (rMax2 X.K) := (call_max2 hc).or (cr_max hc)
theorem cs_max12 : CallS X (rMax2 X.K) gMaxL := by
  intro xs ds b e B H Q s vs k
  unfold gMaxL at e
  split at e
  · rename_i l
    cases q : intsOf l with
    | none => rw [q] at e; cases e
    | some ns =>
      rw [q] at e
      have e' : (if ns = [] then none else iD (maxI ns)) = some b := e
      split at e'
      · cases e'
      · rename_i hne
        cases e'
        obtain ⟨x, rfl, a, xs, rfl, h1, h2⟩ := rvs_one vs
        rw [intsOf_ok q] at h2
        have := h2.ints
        subst this
        refine .inr ⟨a, ns, rfl, .of h1, List.length_pos_iff.mpr hne, fun m hm hg => ?_⟩
        have : m = maxI ns := Int.le_antisymm (maxI_ge ns m hm) (hg _ (maxI_in ns hne))
        rw [this]
        exact k _ B H .refl s (Rp.int _)
  · exact .inl (cs_max xs _ b e B H Q s vs k)
def gTuple : List D → Option Bo
  | [.lst l] => some (.dt (.tup l))
  | [.tup l] => some (.dt (.tup l))
  | _ => none
theorem cs_tuple : CallS X (fun xs H Q => ∃ p ys, xs = [.ref p] ∧ ((SqL X.K H p ys ∧ ∀ l, H l = none → Q (.ref l) (upd H l (.tup ys))) ∨ (SqT X.K H p ys ∧ Q (.ref p) H))) gTuple := by
  intro xs ds b e B H Q s vs k
  unfold gTuple at e
  split at e
  · cases e
    obtain ⟨x, rfl, a, xs, rfl, h1, h2⟩ := rvs_one vs
    exact ⟨a, xs, rfl, .inl ⟨.of h1, fun p np => k _ _ _ (.frozen s np) (same_both s) (Rp.tup (.inl upd_same) (h2.mono (Ext.frozen s np).sub))⟩⟩
  · cases e
    obtain ⟨x, rfl, hx⟩ := rvs_one vs
    obtain ⟨a, xs, rfl, h1, h2⟩ := rv_tup hx
    exact ⟨a, xs, rfl, .inr ⟨seqT_mono s h1, k _ B H .refl s (Rp.tup h1 h2)⟩⟩
  · cases e
/-! ### classes by name; a def that fails -/
theorem de_cls {x : Str} {C : Addr} {pos : Pos} (hg : Gl X x) (hm : X.mg x = some (.ref C)) (hn : PySem.W.nsIn X.K mainGlobals x = some (some (.ref C))) (hd : (x == ("__debug__" : Str)) = false) : DE X (.Name x pos) (cC (.cls x)) := de_glo (v := .ref C) hg hm rfl (fun _ => .cls hn) hd
end
theorem fnG_fail {P : Program} {w : World} {K : PySem.W.Frag} {mg : Str → Option Value} {base : Heap} {k : Nat} {f : Addr} {fd : FuncData} {ps : List Str} : FnG P w K mg base k f fd ps (fun _ => .fail) :=
  ⟨fun _ _ _ _ _ _ _ _ _ _ _ _ _ _ ⟨_, _, _, _, _, h⟩ => h.elim⟩
end Lc

set_option Elab.async false
set_option maxRecDepth 100000
set_option maxHeartbeats 4000000
/-! Part W: the head's facts: defs, names, error classes. -/
namespace Lc
open PySem L2 PySem.Spec PyProof.Rows He
def clsB (K : PySem.W.Frag) (b : Ba) (C : Addr) : Bool := match K.lookup C with
  | some ⟨.type t, _, .cls cd, sl⟩ => decide (t = "type") && (cd.hasDict && (!cd.hasDel && ((match sl.toList with
      | [_, _, _, _, some (.builtin nid), _] => decide (nid = b.new)
      | _ => false) && (match cd.mro with
      | .ref C' :: bm => decide (C' = C) && PySem.W.excTail b.tail bm
      | _ => false))))
  | _ => false
theorem clsB_ok {K : PySem.W.Frag} {b : Ba} {C : Addr} (h : clsB K b C = true) : ∃ nm q N bs bm sn sub ab col dd k0 k1 k2 k3 k5, K.lookup C = some (excClassObj nm q C N bs bm true sn sub ab col dd k0 k1 k2 k3 k5 b.new) ∧ PySem.W.excTail b.tail bm = true := by
  unfold clsB at h
  split at h
  · rename_i t dd cd sl hl
    obtain ⟨h1, h⟩ := ba h
    obtain ⟨h2, h⟩ := ba h
    obtain ⟨h3, h⟩ := ba h
    obtain ⟨h4, h5⟩ := ba h
    split at h4
    · rename_i k0 k1 k2 k3 nid k5 hs
      split at h5
      · rename_i C' bm hmro
        obtain ⟨h6, h7⟩ := ba h5
        have e1 := of_decide_eq_true h1
        have e4 := of_decide_eq_true h4
        have e6 := of_decide_eq_true h6
        obtain ⟨nm, bs, mro, ns, qn, hd, sn, sb, ab, col, del⟩ := cd
        simp only at h2 h3 hmro
        subst e1 e4 e6 hmro h2
        have e3 : del = false := by simpa using h3
        subst e3
        have es : sl = #[k0, k1, k2, k3, some (.builtin b.new), k5] := Array.toList_inj.mp (by rw [hs])
        subst es
        exact ⟨_, _, _, _, bm, _, _, _, _, _, _, _, _, _, _, hl, h7⟩
      · cases h5
    · cases h4
  · cases h
def initB (K : PySem.W.Frag) (file : Str) (C fI : Addr) : Bool := match K.lookup fI with
  | some ⟨_, _, .func fd, _⟩ => PySem.W.codeIn K fd.code fd.qualname && ((match fd.code with
      | .ref cda => (match K.lookup cda with
        | some ⟨_, _, .fields vs, _⟩ => (match (vs[2]? : Option Value) with
          | some (.str z _) => decide (z = file)
          | _ => false)
        | _ => false)
      | _ => false) && (match fd.closure with
      | [(_, cc)] => (match K.lookup cc with
        | some ⟨_, _, .cell (some (.ref C')), _⟩ => decide (C' = C)
        | _ => false)
      | _ => false))
  | _ => false
abbrev IniW : Type := Option (Arguments × FuncBody × Scope × Addr × List Str × Addr × Value × Value)
def iniW (K : PySem.W.Frag) (x : Str) : IniW := match K.lookup (ma K (ga K x) "__init__") with
  | some ⟨_, _, .func fd, _⟩ => some (fd.params, fd.body, fd.scope, fd.globals, fd.closure.map (·.1), fd.builtins, fd.defaults, fd.kwdefaults)
  | _ => none
def xcB (K : PySem.W.Frag) (b : Ba) (file x : Str) (fs : List Str) : Bool :=
  clsB K b (ga K x) && (eqO (PySem.W.findIn K (.ref (ga K x)) "__setattr__") (some (some (.builtin "object.__setattr__"))) && (decide (PySem.W.subIn K (.ref (ga K x)) (.type "BaseException") = some true) && (decide (PySem.W.typeIn K (.ref (ga K x)) = some (.type "type")) && (PySem.W.keepIn K (.ref (ga K x)) &&
  (eqO (PySem.W.findIn K (.ref (ga K x)) "__init__") (some (some (.ref (ma K (ga K x) "__init__")))) && (decide (PySem.W.typeIn K (.ref (ma K (ga K x) "__init__")) = some (.type "function")) && (initB K file (ga K x) (ma K (ga K x) "__init__") &&
  (eqO (PySem.W.ks_superIn K (ga K x) (ga K x) "__init__") (some (some (.builtin b.ini))) && (decide (PySem.W.subIn K (.ref (ga K x)) (.type b.name) = some true) && (eqO (PySem.W.nsIn K cStatics "thirdparty.any") (some none) && (decide (PySem.W.mroIn K (ga K x) (.ref (ga K x)) = some true) &&
  (fs.all (fun f => eqO (PySem.W.findIn K (.ref (ga K x)) f) (some none)) && (xfB K (ga K x) && ((PySem.W.clsIn K (ga K x)).isSome && (eqO (PySem.W.findIn K (.ref (ga K x)) "__class__") (some (some (.builtin "object.__class__"))) &&
  (eqO (PySem.W.specialIn K (.builtin "object.__class__") "__get__") (some (some (.builtin "getset_descriptor.__get__"))) && (decide (PySem.W.takesIn K (.builtin "object.__class__") = some true) && decide (PySem.W.mroIn K (ga K x) (.type "object") = some true))))))))))))))))))
/-- an error class: its name, its fields, its __init__ -/
structure XD where
  b : Ba
  x : Str
  fs : List Str
  params : Arguments
  body : List Stmt
  scope : Scope
def XD.val (d : XD) : IniW := some (d.params, .stmts d.body, d.scope, mainGlobals, ["__class__"], builtinsNs, .none, .none)
/-- all that is told of an error class -/
structure XcA (K : PySem.W.Frag) (b : Ba) (file x : Str) (fs : List Str) (params : Arguments) (body : List Stmt) (scope : Scope) : Prop where
  ini : ∃ fI cc cda fd, XcI K b file params body scope (ga K x) fI cc cda fd
  no : ∀ f ∈ fs, PySem.W.findIn K (.ref (ga K x)) f = some none
  xf : XfC K (ga K x)
  xi : XiC K (ga K x)
theorem xcA_of {K : PySem.W.Frag} {file : Str} {d : XD} (h : xcB K d.b file d.x d.fs = true) (e : iniW K d.x = d.val) : XcA K d.b file d.x d.fs d.params d.body d.scope := by
  obtain ⟨a1, h⟩ := ba h
  obtain ⟨a2, h⟩ := ba h
  obtain ⟨a3, h⟩ := ba h
  obtain ⟨a4, h⟩ := ba h
  obtain ⟨a5, h⟩ := ba h
  obtain ⟨a6, h⟩ := ba h
  obtain ⟨a7, h⟩ := ba h
  obtain ⟨a8, h⟩ := ba h
  obtain ⟨a9, h⟩ := ba h
  obtain ⟨a10, h⟩ := ba h
  obtain ⟨a11, h⟩ := ba h
  obtain ⟨a12, h⟩ := ba h
  obtain ⟨a13, h⟩ := ba h
  obtain ⟨a14, h⟩ := ba h
  obtain ⟨a15, h⟩ := ba h
  obtain ⟨a16, h⟩ := ba h
  obtain ⟨a17, h⟩ := ba h
  obtain ⟨a18, a19⟩ := ba h
  have ox : OexB K d.b (ga K d.x) := ⟨clsB_ok a1, eqO_ok a2, of_decide_eq_true a3, of_decide_eq_true a4, a5⟩
  have xf := xfB_ok a14
  refine ⟨?_, fun f hf => eqO_ok (List.all_eq_true.mp a13 f hf), xf, ⟨a15, xf.ga, ⟨_, xf.gg⟩, xf.exC, eqO_ok a16, eqO_ok a17, of_decide_eq_true a18, of_decide_eq_true a19⟩⟩
  unfold initB at a8
  unfold iniW at e
  split at a8
  · rename_i oc od fd osl hl
    rw [hl] at e
    obtain ⟨b1, b⟩ := ba a8
    obtain ⟨b2, b3⟩ := ba b
    split at b2
    · rename_i cda hcd
      split at b2
      · rename_i ccl cdd vs ccs hco
        split at b2
        · rename_i z tf hz
          have ez := of_decide_eq_true b2
          subst ez
          split at b3
          · rename_i nm cc hcl
            split at b3
            · rename_i cl cld C' csl hce
              have eC := of_decide_eq_true b3
              subst eC
              obtain ⟨n1, n2, n3, n4, n5, n6, n7, n8, n9, n10, n11, n12, n13, n14, n15⟩ := fd
              simp only [XD.val, Option.some.injEq, Prod.mk.injEq] at e
              simp only at hcd hcl b1
              obtain ⟨e1, e2, e3, e4, e5, e6, e7, e8⟩ := e
              subst hcd hcl e1 e2 e3 e4 e6 e7 e8
              have e5' : nm = "__class__" := by simpa using e5
              subst e5'
              exact ⟨_, cc, cda, _, ⟨ox, eqO_ok a6, of_decide_eq_true a7, ⟨_, _, _, _, _, _, _, _, _, rfl, hl, b1⟩, ⟨_, _, _, _, _, hco, hz⟩, ⟨_, _, _, hce⟩, eqO_ok a9, of_decide_eq_true a10, eqO_ok a11, of_decide_eq_true a12⟩⟩
            · cases b3
          · cases b3
        · cases b2
      · cases b2
    · cases b2
  · cases a8
/-! ### the Hook -/
abbrev AlS : Type := AlD × (Bool × List IniW)
def frS (g : Addr → Option Obj) (n : Nat) : PySem.W.Frag := frG g (sysModules :: cStatics :: asD g n)
def obsS (n : Nat) (fa : List Fa) (fn : List DefD) (file : Str) (xs : List XD) (ex : PySem.W.Frag → Bool) (g : Addr → Option Obj) : AlS := (obsD fa fn (frS g n), ((xs.all fun d => xcB (frS g n) d.b file d.x d.fs) && ex (frS g n), xs.map fun d => iniW (frS g n) d.x))
def valS (fn : List DefD) (xs : List XD) : AlS := (valD fn, (true, xs.map XD.val))
structure SaysS (fa : List Fa) (fn : List DefD) (file : Str) (xs : List XD) (ex : PySem.W.Frag → Bool) (K : PySem.W.Frag) : Prop where
  d : SaysD fa fn K
  xc : ∀ (i : Nat) (x : XD), xs[i]? = some x → XcA K x.b file x.x x.fs x.params x.body x.scope
  more : ex K = true
theorem saysS_of {n : Nat} {fa : List Fa} {fn : List DefD} {file : Str} {xs : List XD} {ex : PySem.W.Frag → Bool} {g : Addr → Option Obj} (e : obsS n fa fn file xs ex g = valS fn xs) : SaysS fa fn file xs ex (frS g n) := by
  have e1 : obsD fa fn (frS g n) = valD fn := congrArg (fun z : AlS => z.1) e
  have e2 : ((xs.all fun d => xcB (frS g n) d.b file d.x d.fs) && ex (frS g n)) = true := congrArg (fun z : AlS => z.2.1) e
  have e3 : (xs.map fun d => iniW (frS g n) d.x) = xs.map XD.val := congrArg (fun z : AlS => z.2.2) e
  obtain ⟨h1, h2⟩ := ba e2
  refine ⟨e1, fun i x hi => ?_, h2⟩
  have e4 : (xs.map fun d => iniW (frS g n) d.x)[i]? = (xs.map XD.val)[i]? := by rw [e3]
  rw [List.getElem?_map, List.getElem?_map, hi] at e4
  exact xcA_of (List.all_eq_true.mp h1 x (List.mem_of_getElem? hi)) (Option.some.inj e4)
def hookS (n : Nat) (fa : List Fa) (fn : List DefD) (file : Str) (xs : List XD) (ex : PySem.W.Frag → Bool) : PySem.W.Hook where
  α := AlS
  obs := fun s => obsS n fa fn file xs ex s.heap.get?
  val := fun _ => valS fn xs
  says := fun _ h => ∃ K : PySem.W.Frag, K.In h ∧ SaysS fa fn file xs ex K
  of := fun _ _ e => ⟨_, frG_in, saysS_of e⟩
  keeps := fun _ _ _ ⟨K, hK, c⟩ k => ⟨K, PySem.W.Frag.In.keeps hK k, c⟩
theorem obsS_eq {n : Nat} {fa : List Fa} {fn : List DefD} {file : Str} {xs : List XD} {ex : PySem.W.Frag → Bool} {g : Addr → Option Obj} {s : Shared} (h : ∀ a, g a = s.heap.get? a) : obsS n fa fn file xs ex g = (hookS n fa fn file xs ex).obs s := by
  have e : g = s.heap.get? := funext h
  rw [e]
  rfl
end Lc

set_option Elab.async false
set_option maxRecDepth 100000
set_option maxHeartbeats 4000000
/-! Part X: error classes as the printed proofs name them. -/
namespace Lc
open PySem L2 PySem.Spec PyProof.Rows He
def clsBody (s : Stmt) : List Stmt := match s with
  | .ClassDef _ _ _ b _ _ _ _ _ _ _ => b
  | _ => []
/-- a class: of the module, of Python -/
inductive CK where
  | c (x : Str)
  | t (n : String)
  deriving DecidableEq
def CK.val (K : PySem.W.Frag) : CK → Value
  | .c x => .ref (ga K x)
  | .t n => .type n
def CK.glo (K : PySem.W.Frag) : CK → Bool
  | .c x => eqO (PySem.W.nsIn K mainGlobals x) (some (some (.ref (ga K x))))
  | .t _ => true
abbrev Tab : Type := List ((Str × CK) × Bool)
/-- which class is under which: of each class of the module the one above it -/
structure IsaT where
  par : List (Str × CK)
  xs : List Str
  cs : List CK
def IsaT.up (t : IsaT) : Nat → CK → List CK
  | 0, _ => []
  | n + 1, .c x => .c x :: (match t.par.lookup x with
    | some p => t.up n p
    | none => [])
  | _ + 1, .t n => [.t n, .t "Exception", .t "BaseException", .t "object"]
def IsaT.sub (t : IsaT) (x : Str) (c : CK) : Bool := (t.up 6 (.c x)).contains c
def isaOf (tb : IsaT) (x : Str) : D → Option Bool
  | .cls y => if (tb.xs.contains x && tb.cs.contains (.c y)) = true then some (tb.sub x (.c y)) else none
  | .ty n => if (tb.xs.contains x && tb.cs.contains (.t n)) = true then some (tb.sub x (.t n)) else none
  | _ => none
def isaB (K : PySem.W.Frag) (tb : IsaT) : Bool := tb.xs.all fun x => tb.cs.all fun c => decide (PySem.W.kitOne K (.ref (ga K x)) (c.val K) = some (tb.sub x c)) && c.glo K
def catB (K : PySem.W.Frag) (tb : Tab) : Bool := tb.all fun p => decide (PySem.W.exmOne K (.ref (ga K p.1.1)) (p.1.2.val K) = some p.2)
theorem lookup_in {α β : Type} [BEq α] [LawfulBEq α] {k : α} {v : β} : ∀ {l : List (α × β)}, l.lookup k = some v → (k, v) ∈ l
  | [], h => by cases h
  | (a, b) :: l, h => by
    rw [List.lookup_cons] at h
    cases q : (k == a) with
    | true => rw [q] at h; cases h; rw [eq_of_beq q]; exact List.mem_cons_self
    | false => rw [q] at h; exact List.mem_cons_of_mem _ (lookup_in h)
theorem isa_in {K : PySem.W.Frag} {tb : IsaT} {x : Str} {c : CK} (h : isaB K tb = true) (hx : (tb.xs.contains x && tb.cs.contains c) = true) : PySem.W.kitOne K (.ref (ga K x)) (c.val K) = some (tb.sub x c) ∧ c.glo K = true := by
  obtain ⟨h1, h2⟩ := ba hx
  obtain ⟨z1, z2⟩ := ba (List.all_eq_true.mp (List.all_eq_true.mp h x (by simpa using h1)) c (by simpa using h2))
  exact ⟨of_decide_eq_true z1, z2⟩
theorem isa_ok {K : PySem.W.Frag} {tb : IsaT} {x : Str} (h : isaB K tb = true) : IsaOk K (ga K x) (isaOf tb x) := by
  refine ⟨fun l => rfl, fun d b e B v u r rv => ?_⟩
  unfold isaOf at e
  split at e
  · rename_i y
    split at e
    · rename_i hx
      obtain ⟨h1, h2⟩ := isa_in h hx
      cases e
      cases r with
      | cls hn =>
        have z := eqO_ok h2
        rw [hn] at z
        cases z
        obtain rfl : u = Value.ref (ga K y) := rv
        exact h1
    · cases e
  · rename_i n
    split at e
    · rename_i hx
      obtain ⟨h1, h2⟩ := isa_in h hx
      cases e
      cases r
      obtain rfl : u = Value.type n := rv
      exact h1
    · cases e
  · cases e
/-- what a law's text has of error classes -/
structure EnvE (P : Program) (K : PySem.W.Frag) (mg : Str → Option Value) (file : Str) (names : List Str) (isaT : IsaT) (catT : Tab) (xds : List XD) : Prop where
  cls : ∀ (i : Nat) (y : Str), names[i]? = some y → mg y = some (.ref (ga K y)) ∧ PySem.W.nsIn K mainGlobals y = some (some (.ref (ga K y)))
  isa : isaB K isaT = true
  cat : catB K catT = true
  xc : ∀ (i : Nat) (d : XD), xds[i]? = some d → XcA K d.b file d.x d.fs d.params d.body d.scope
  sup : mg "super" = none
  sys : ∃ o, K.lookup sysModules = some o
  hfile : ((P.main.file : Str) == file) = true
  htop : (P.main.scope.names.lookup ("super" : Str)).isSome = false
section
variable {P : Program} {K : PySem.W.Frag} {mg : Str → Option Value} {file : Str} {names : List Str} {isaT : IsaT} {catT : Tab} {xds : List XD}
/-- which classes the clause takes -/
def catOf (tb : Tab) (k : CK) (y : Str) : Option Bool := tb.lookup (y, k)
theorem cat_ok (ev : EnvE P K mg file names isaT catT xds) (hn : ∀ p ∈ catT, p.1.1 ∈ names) {k : CK} {y : Str} {b : Bool} {C : Addr} (e : catOf catT k y = some b) (hm : mg y = some (.ref C)) : PySem.W.exmOne K (.ref C) (k.val K) = some b ∧ C = ga K y := by
  have hi := lookup_in e
  have h1 := List.all_eq_true.mp ev.cat _ hi
  obtain ⟨j, hj, ej⟩ := List.mem_iff_getElem.mp (hn _ hi)
  have h2 := (ev.cls j y (by rw [List.getElem?_eq_getElem hj, ej])).1
  rw [hm] at h2
  cases h2
  exact ⟨of_decide_eq_true h1, rfl⟩
theorem xc_of (ev : EnvE P K mg file names isaT catT xds) {i j : Nat} {d : XD} (hx : xds[i]? = some d) (hn : names[j]? = some d.x) (Fo : ((P.main.file : Str) == file) = true → (P.main.scope.names.lookup ("super" : Str)).isSome = false → FormE P file d.params d.body d.scope d.fs) : Xc P K mg d.x d.fs := by
  have A := ev.xc i d hx
  obtain ⟨fI, cc, cda, fd, T⟩ := A.ini
  exact ⟨d.b, file, d.params, d.body, d.scope, _, fI, cc, cda, fd, T, Fo ev.hfile ev.htop, A.no, (ev.cls j d.x hn).1, (ev.cls j d.x hn).2, ev.sup⟩
end
section
variable {X : Cx} {x n : Str} {i : Nat} {body suite : List Stmt} {b0 : Stmt} {np pos pos' : Pos} {fb : M Fl} {fs : Addr → Addr → Ex → M Fl} {file : Str} {names : List Str} {isaT : IsaT} {catT : Tab} {xds : List XD}
theorem ds_tryC {j : Nat} (ev : EnvE X.prog X.K X.mg file names isaT catT xds) (hs : X.stack = X.env :: X.outer) (hf : X.env.frame = some X.env.locals) (hN : X.N.Nodup) (hi : X.N[i]? = some n) (hln : X.env.kindOf n = some .local) (hg : Gl X x) (hdb : (x == ("__debug__" : Str)) = false)
    (hj : names[j]? = some x) (hn : ∀ p ∈ catT, p.1.1 ∈ names)
    (hb : ∀ (pn : List (Addr × Obj)) (xe : Value → Shared → Prop), PassesOwn (model X.prog X.w) X.A X.env xe → DSs (X.tr pn xe) body fb)
    (hsu : ∀ (a : Addr) (oe : Obj) (pn : List (Addr × Obj)) (dd : Addr) (y : Ex), Zc (.ref (ga X.K y.cls)) (some dd) oe → (∃ vs, oe.data = .fields vs) → catOf catT (.c x) y.cls = some true → DSs (X.suite a ((a, oe) :: pn)) (b0 :: suite) (fs a dd y)) :
    DS X (.Try body [.ExceptHandler (some (.Name x np)) (some n) (b0 :: suite) pos'] [] [] pos) (cTry fb (catOf catT (.c x)) i fs) :=
  ds_try (cv := .ref (ga X.K x)) hs hf hN hi hln ⟨hg, hdb, .inl (ev.cls j x hj).1⟩ (fun _ _ _ e hm => (cat_ok ev hn e hm).1) hb fun a oe pn C dd y hz hfl hm hcy => by
    have e := (cat_ok ev hn hcy hm).2
    subst e
    exact hsu a oe pn dd y hz hfl hcy
theorem de_clsE {j : Nat} {X' : Cx} (ev : EnvE X'.prog X'.K X'.mg file names isaT catT xds) (hj : names[j]? = some x) (hg : Gl X' x) (hdb : (x == ("__debug__" : Str)) = false) : DE X' (.Name x pos) (cC (.cls x)) := de_cls hg (ev.cls j x hj).1 (ev.cls j x hj).2 hdb
end
end Lc
namespace Lc
open PySem L2 PySem.Spec PyProof.Rows He
theorem cat_one {tb : Tab} {k : CK} {y z : Str} (h : catOf tb k y = some true) (hd : ∀ p ∈ tb, p.1.2 = k → p.2 = true → p.1.1 = z) : y = z := hd _ (lookup_in h) rfl rfl
section
variable {K : PySem.W.Frag} {b : Ba} {file y z : Str} {fs : List Str} {params : Arguments} {body : List Stmt} {scope : Scope}
theorem xf_at (e : y = z) (T : XcA K b file z fs params body scope) : XfC K (ga K y) := by subst e; exact T.xf
theorem xi_at (e : y = z) (T : XcA K b file z fs params body scope) : XiC K (ga K y) := by subst e; exact T.xi
theorem no_at {f : Str} (e : y = z) (T : XcA K b file z fs params body scope) (hf : f ∈ fs) : PySem.W.findIn K (.ref (ga K y)) f = some none := by subst e; exact T.no f hf
end
end Lc

set_option Elab.async false
set_option maxRecDepth 100000
set_option maxHeartbeats 4000000
/-! Part Y: the signs of shown texts. -/
namespace Lc
open PySem L2
def OkS (x : Str) : Prop := ∀ c ∈ x.cps.toList, c < 1114112
theorem OkS.app {x y : Str} (h : OkS x) (k : OkS y) : OkS (x ++ y) := fun c hc => by
  rw [Str.cps_append] at hc
  simp only [Array.toList_append, List.mem_append] at hc
  exact hc.elim (h c) (k c)
theorem char_lt (c : Char) : c.toNat < 1114112 := by
  have := c.valid
  rcases this with h | h
  · have : c.toNat < 0xd800 := h
    omega
  · exact h.2
theorem ok_lit (s : String) : OkS (Str.ofString s) := fun c hc => by
  rw [Str.ofString_eq_toList] at hc
  obtain ⟨d, _, rfl⟩ : ∃ d : Char, d ∈ s.toList ∧ d.toNat = c := by simpa using hc
  exact char_lt d
theorem ok_strOk {x : Str} (h : OkS x) : PyData.strOk x = true := by
  unfold PyData.strOk
  rw [Array.all_eq_true_iff_forall_mem]
  intro c hc
  exact decide_eq_true (h c (by simpa using hc))
theorem ok_join {s : Str} (hs : OkS s) : ∀ {l : List Str}, (∀ x ∈ l, OkS x) → OkS (Str.join s l)
  | [], _ => fun c hc => by exact nomatch hc
  | [x], h => h x List.mem_cons_self
  | x :: y :: r, h => by
    show OkS (x ++ s ++ Str.join s (y :: r))
    exact ((h x List.mem_cons_self).app hs).app (ok_join hs fun z hz => h z (List.mem_cons_of_mem _ hz))
theorem ok_reprChar {q c : Nat} (hq : q < 1114112) (hc : c < 1114112) : ∀ e ∈ Builtin.Str.reprChar q c, e < 1114112 := by
  intro e he
  have hx : ∀ w, ∀ e ∈ (List.replicate (w - ((Nat.toDigits 16 c).map Char.toNat).length) 48 ++ (Nat.toDigits 16 c).map Char.toNat), e < 1114112 := fun w e he => by
    rcases List.mem_append.mp he with h | h
    · rw [(List.mem_replicate.mp h).2]; decide
    · obtain ⟨d, _, rfl⟩ := List.mem_map.mp h
      exact char_lt d
  unfold Builtin.Str.reprChar at he
  dsimp only at he
  repeat' split at he
  all_goals first
    | (simp only [List.mem_cons, List.not_mem_nil, or_false] at he; omega)
    | (rcases List.mem_append.mp he with h | h
       · simp only [List.mem_cons, List.not_mem_nil, or_false] at h; omega
       · exact hx _ e h)
theorem ok_fold {q : Nat} (hq : q < 1114112) : ∀ (l : List Nat) (acc : Array Nat), (∀ c ∈ l, c < 1114112) → (∀ c ∈ acc.toList, c < 1114112) → ∀ c ∈ (l.foldl (fun out c => out ++ (Builtin.Str.reprChar q c).toArray) acc).toList, c < 1114112
  | [], acc, _, h => h
  | c :: r, acc, hl, h => by
    refine ok_fold hq r _ (fun d hd => hl d (List.mem_cons_of_mem _ hd)) fun d hd => ?_
    simp only [Array.toList_append, List.mem_append] at hd
    rcases hd with hd | hd
    · exact h d hd
    · exact ok_reprChar hq (hl c List.mem_cons_self) d hd
theorem quote_lt (x : Str) : reprQuote x < 1114112 := by
  unfold reprQuote
  split <;> decide
theorem ok_repr {x : Str} (h : OkS x) : OkS (reprText x) := by
  unfold reprText
  intro c hc
  have hc' : c ∈ ((x.cps.foldl (fun out c => out ++ (Builtin.Str.reprChar (reprQuote x) c).toArray) #[reprQuote x]).push (reprQuote x)).toList := hc
  rw [Array.toList_push, ← Array.foldl_toList] at hc'
  rcases List.mem_append.mp hc' with h1 | h1
  · exact ok_fold (quote_lt x) _ _ h (fun d hd => by simp at hd; rw [hd]; exact quote_lt x) c h1
  · simp at h1; rw [h1]; exact quote_lt x
mutual
/-- texts of code points alone inside, dicts empty -/
def okP : PyData → Prop
  | .str x => OkS x
  | .list l => okPs l
  | .tuple l => okPs l
  | .dict l => l = []
  | _ => True
def okPs : List PyData → Prop
  | [] => True
  | d :: l => okP d ∧ okPs l
end
mutual
theorem shown_ok : ∀ d : PyData, okP d → OkS d.shown
  | .none, _ => by rw [PyData.shown]; exact ok_lit _
  | .bool b, _ => by rw [PyData.shown]; cases b <;> exact ok_lit _
  | .int i, _ => by rw [PyData.shown]; exact ok_lit _
  | .str x, h => by rw [PyData.shown]; exact ok_repr (by rw [okP] at h; exact h)
  | .list l, h => by
    rw [PyData.shown, listText_eq_join]
    exact ((ok_lit _).app (ok_join (ok_lit _) (shownAll_ok l (by rw [okP] at h; exact h)))).app (ok_lit _)
  | .tuple l, h => by
    rw [PyData.shown, tupleText]
    refine ((ok_lit _).app (ok_join (ok_lit _) (shownAll_ok l (by rw [okP] at h; exact h)))).app ?_
    exact ok_lit _
  | .dict l, h => by
    rw [okP] at h
    subst h
    intro c hc
    have : ∀ c ∈ (PyData.shown (.dict [])).cps.toList, c < 1114112 := by decide +kernel
    exact this c hc
theorem shownAll_ok : ∀ l : List PyData, okPs l → ∀ x ∈ PyData.shownAll l, OkS x
  | [], _, x, hx => by rw [PyData.shownAll] at hx; exact nomatch hx
  | d :: l, h, x, hx => by
    rw [okPs] at h
    rw [PyData.shownAll] at hx
    rcases List.mem_cons.mp hx with rfl | hx
    · exact shown_ok d h.1
    · exact shownAll_ok l h.2 x hx
end
end Lc

set_option Elab.async false
set_option maxRecDepth 100000
set_option maxHeartbeats 4000000
/-! Part Z: errors held as values: e.f, isinstance(e, c). -/
namespace Lc
open PySem L2 PySem.Spec PyProof.Rows He
section
variable {P : Program} {K : PySem.W.Frag} {mg : Str → Option Value} {file : Str} {names : List Str} {isaT : IsaT} {catT : Tab} {xds : List XD}
/-- the fields that may be read -/
def xdT (xds : List XD) : List (Str × List Str) := xds.map fun d => (d.x, d.fs)
def xdHas (t : List (Str × List Str)) (x f : Str) : Bool := t.any fun p => p.1 == x && p.2.contains f
def xdIs (t : List (Str × List Str)) (x : Str) : Bool := t.any fun p => p.1 == x
def xdN (xds : List XD) (names : List Str) : Prop := ∀ d ∈ xds, d.x ∈ names
theorem EnvE.at (ev : EnvE P K mg file names isaT catT xds) (hn : xdN xds names) {x : Str} {C : Addr} (h : xdIs (xdT xds) x = true) (hx : PySem.W.nsIn K mainGlobals x = some (some (.ref C))) : C = ga K x ∧ XfC K C ∧ XiC K C := by
  obtain ⟨p, hp, he⟩ := List.any_eq_true.mp h
  obtain ⟨d, hd, rfl⟩ := List.mem_map.mp hp
  have e : d.x = x := by simpa using he
  subst e
  obtain ⟨j, hj, ej⟩ := List.mem_iff_getElem.mp (hn d hd)
  have h2 := (ev.cls j d.x (by rw [List.getElem?_eq_getElem hj, ej])).2
  rw [hx] at h2
  cases h2
  obtain ⟨i, hi, ei⟩ := List.mem_iff_getElem.mp hd
  have A := ev.xc i d (by rw [List.getElem?_eq_getElem hi, ei])
  exact ⟨rfl, A.xf, A.xi⟩
theorem EnvE.atF (ev : EnvE P K mg file names isaT catT xds) (hn : xdN xds names) {x f : Str} {C : Addr} (h : xdHas (xdT xds) x f = true) (hx : PySem.W.nsIn K mainGlobals x = some (some (.ref C))) : XfC K C ∧ PySem.W.findIn K (.ref C) f = some none := by
  obtain ⟨p, hp, he⟩ := List.any_eq_true.mp h
  obtain ⟨d, hd, rfl⟩ := List.mem_map.mp hp
  obtain ⟨e, hf⟩ := ba he
  have e : d.x = x := by simpa using e
  have hf : f ∈ d.fs := by simpa using hf
  subst e
  obtain ⟨j, hj, ej⟩ := List.mem_iff_getElem.mp (hn d hd)
  have h2 := (ev.cls j d.x (by rw [List.getElem?_eq_getElem hj, ej])).2
  rw [hx] at h2
  cases h2
  obtain ⟨i, hi, ei⟩ := List.mem_iff_getElem.mp hd
  have A := ev.xc i d (by rw [List.getElem?_eq_getElem hi, ei])
  exact ⟨A.xf, A.no f hf⟩
end
section
variable {X : Cx} {e : Expr} {pos : Pos} {n : Str} {file : Str} {names : List Str} {isaT : IsaT} {catT : Tab} {xds : List XD} {fe : M W}
theorem pe_xv {te : TE} (he : PE X e te) (hb : attributeBase e n X.env (eval e X.env) = eval e X.env) :
    PE X (.Attribute e n pos) (fun σ H Q => te σ H fun x H1 => ∃ a C dd fs v, x = .ref a ∧ XfC X.K C ∧ PySem.W.findIn X.K (.ref C) n = some none ∧ H1 a = some (exo a C (some dd)) ∧ H1 dd = some (.xd fs) ∧ fs.lookup n = some v ∧ Q v H1) := by
  refine ⟨fun pins s σ H Q I h => ?_⟩
  refine attr_of hb (thn (he.run pins s σ H _ I h) fun u s1 hh => ?_)
  obtain ⟨x, H1, I1, rx, a, C, dd, fs, v, ex, T, hno, ea, ed, l, q⟩ := hh
  subst ex
  obtain rfl : u = Value.ref a := rx
  obtain ⟨t1, ho⟩ := exo_at I1.hok ea
  obtain ⟨mA, hns, hr⟩ : ObjOk X.prog X.w H1 s1.heap dd (.xd fs) := I1.hok dd _ ed
  obtain ⟨od, hod, hl⟩ := lookIn_ns hns
  obtain ⟨u, hu, ru⟩ := RelO.some_of (v := v) (o := mA n) (by rw [← l]; exact hr n)
  have J : PySem.W.InstAt s1.heap a _ C (some od) := ⟨ho, rfl, rfl, hod⟩
  exact HandSPX.exc_get I1.kIn J T.ga T.gg T.exC (PySem.W.findObj_own T.hdC hno rfl (by rw [hl, hu])) (handed_of ru) ⟨v, H1, I1.tok _, ru, q⟩
def gXv (t : List (Str × List Str)) (f : Str) : D → Option D
  | .err x fs => if xdHas t x f = true then fs.lookup f else none
  | _ => none
def cXv (t : List (Str × List Str)) (f : Str) (fe : M W) : M W := M.bind fe fun w => M.bind (M.view w) fun d => M.bind (M.opt (gXv t f d)) fun d' => M.ret (.dt d')
theorem de_xv (ev : EnvE X.prog X.K X.mg file names isaT catT xds) (hn : xdN xds names) (he : DE X e fe) (hb : attributeBase e n X.env (eval e X.env) = eval e X.env) : DE X (.Attribute e n pos) (cXv (xdT xds) n fe) := by
  refine ⟨fun Wx tk => ?_⟩
  obtain ⟨t, pt, qt⟩ := he.run Wx tk
  refine ⟨_, pe_xv pt hb, fun vs B σ H r Q R h => qt vs B σ H r _ R (Post.bind0 h fun v w B1 H1 r1 s1 R1 q1 h1 => ?_)⟩
  obtain ⟨d, vd, _, h2⟩ := Post.view R1 q1 h1
  obtain ⟨d', ed, h3⟩ := Post.opt h2
  unfold gXv at ed
  split at ed
  · rename_i x ds
    split at ed
    · rename_i hx
      cases vd with
      | err b1 b2 b3 b4 =>
        obtain ⟨v', l', rv'⟩ := rpF_look b4 ed
        obtain ⟨T, hno⟩ := ev.atF hn hx b3
        exact ⟨_, _, _, _, v', rfl, T, hno, R1.sub _ _ b1, R1.sub _ _ b2, l', h3 v' B1 H1 s1 R1 rv'⟩
    · cases ed
  · cases ed
/-! ### isinstance -/
def rIsV (K : PySem.W.Frag) : List V → Hp → VK → Prop := fun xs H Q => ∃ a C dd fs v d b isa, xs = [.ref a, v] ∧ XiC K C ∧ H a = some (exo a C (some dd)) ∧ H dd = some (.xd fs) ∧ IsaOk K C isa ∧ Rp K H v d ∧ isaD isa d = some b ∧ Q (.bl b) H
theorem call_isV : CallR X (.builtin "isinstance") (rIsV X.K) := by
  intro pins s σ H xs us Q I r h
  obtain ⟨a, C, dd, fs, v, d, b, isa, rfl, T, ha, hdd, hisa, rp, eb, q⟩ := h
  cases r with
  | cons ra rr =>
    cases rr with
    | cons rv rr =>
      cases rr
      rename_i u1 u2
      obtain rfl : u1 = Value.ref a := ra
      obtain ⟨t1, hget⟩ := exo_at I.hok ha
      obtain ⟨gt, hgt⟩ := T.hgt
      obtain ⟨mA, hns, _⟩ : ObjOk X.prog X.w H s.heap dd (.xd fs) := I.hok dd _ hdd
      obtain ⟨od, ho, _⟩ := lookIn_ns hns
      have J : PySem.W.InstAt s.heap a _ C (some od) := ⟨hget, rfl, rfl, ho⟩
      have Z := PySem.W.kitx_exc (K := X.K) (x := a) (ox := { cls := Value.ref C, dict := some dd, data := .fields #[.ref t1, .none, .none, .none, .bool false, .none] }) (od := some od) T.hcl T.hga hgt T.hsub T.ha T.hn T.ht T.hm
      have fin : ∀ tk, EP X pins σ Q (.bool b) { s with toks := tk } := fun tk => ⟨.bl b, H, I.kept (t' := tk) fun _ _ z => z, rfl, q⟩
      by_cases ht : ∃ l, d = .tup l
      · obtain ⟨l, rfl⟩ := ht
        cases rp with
        | tup h1 h2 =>
          rename_i p xs
          obtain rfl : u2 = Value.ref p := rv
          obtain ⟨its, o, m, rvs, ho2, hc2, hd2⟩ := sqT_at I.hok I.kIn (seqT_mono (Same.refl H) h1)
          obtain ⟨oc, od2, dt2, sl2⟩ := o
          simp only at hc2 hd2
          subst hc2 hd2
          exact PySem.W.kia_tup Z I.kIn J ho2 (isaL_ok hisa eb h2 rvs) (fun z => nomatch z) fin
      · have e1 : isaD isa d = isa d := by
          cases d <;> first | rfl | exact absurd ⟨_, rfl⟩ ht
        rw [e1] at eb
        exact PySem.W.kia_one Z I.kIn J (hisa.2 d b eb H v u2 rp rv) (fun z => nomatch z) fin
def gIsi2 (t : List (Str × List Str)) (isaT : IsaT) : List D → Option Bo
  | [.err x _, d] => if xdIs t x = true then (isaD (isaOf isaT x) d).bind bD else none
  | l => gIsi l
theorem call_isi2 : CallR X (.builtin "isinstance") (fun xs H Q => rIsiA X.K xs H Q ∨ rIsV X.K xs H Q) := call_isiA.or call_isV
theorem cs_isi2 (ev : EnvE X.prog X.K X.mg file names isaT catT xds) (hn : xdN xds names) : CallS X (fun xs H Q => rIsiA X.K xs H Q ∨ rIsV X.K xs H Q) (gIsi2 (xdT xds) isaT) := by
  intro xs ds b e B H Q s r k
  unfold gIsi2 at e
  split at e
  · rename_i x fs d
    split at e
    · rename_i hx
      obtain ⟨v1, v2, rfl, r1, r2⟩ := rvs_two r
      cases r1 with
      | err b1 b2 b3 b4 =>
        obtain ⟨rfl, _, T⟩ := ev.at hn hx b3
        obtain ⟨bb, e1, e2⟩ := Option.bind_eq_some_iff.mp e
        cases e2
        exact .inr ⟨_, _, _, _, v2, d, bb, isaOf isaT x, rfl, T, s _ _ b1, s _ _ b2, isa_ok ev.isa, r2.whole s, e1, k _ B H .refl s (Rp.bl _)⟩
    · cases e
  · exact .inl (cs_isi xs ds b e B H Q s r k)
end
end Lc
namespace Lc
open PySem L2 PySem.Spec PyProof.Rows He
def cPar3 (i j l : Nat) (f : M (List W)) : M Fl := M.bind f fun ws => match ws with
  | [w1, w2, w3] => fun r => if (w2.isLoc i || (w3.isLoc i || w3.isLoc j)) = true then .fail else M.bind (gN i w1) (fun _ => M.bind (gN j w2) fun _ => M.bind (gN l w3) fun _ => M.ret .next) r
  | _ => M.no
section
variable {X : Cx} {a b c : Expr} {pos : Pos}
theorem ds_par3 {i j l : Nat} {x y z : Str} {f : M (List W)} {px py pz pt : Pos} {kt k2 pt2} (hc : X.calm = true) (hN : X.N.Nodup) (hi : X.N[i]? = some x) (hj : X.N[j]? = some y) (hl : X.N[l]? = some z) (hij : i ≠ j) (hil : i ≠ l) (hjl : j ≠ l)
    (hx : X.env.scope.names.lookup x = some .local) (hy : X.env.scope.names.lookup y = some .local) (hz : X.env.scope.names.lookup z = some .local) (ha : DA X [a, b, c] f)
    (hw : swappedStores [.Tuple [.Name x px, .Name y py, .Name z pz] kt pt] (.Tuple [a, b, c] k2 pt2) X.env = pure (some [x, y, z]))
    (hs : swapsWithSole [.Tuple [.Name x px, .Name y py, .Name z pz] kt pt] (.Tuple [a, b, c] k2 pt2) pos.line X.env = pure false) :
    DS X (.Assign [.Tuple [.Name x px, .Name y py, .Name z pz] kt pt] (.Tuple [a, b, c] k2 pt2) pos) (cPar3 i j l f) := by
  refine ⟨fun Wx tk => ?_⟩
  obtain ⟨t, p, q⟩ := ha.run Wx tk
  refine ⟨_, ps_par3 hc hN hi hj hl hij hil hjl hx hy hz p hw hs, fun vs B σ H r E R h => q vs B σ H r _ R (PostS.bind0 h fun xs ws B1 H1 r1 s1 R1 q1 h1 => ?_)⟩
  cases q1 with
  | nil => exact h1.elim
  | cons a1 b1 n1 =>
    cases b1 with
    | nil => exact h1.elim
    | cons a2 b2 n2 =>
      cases b2 with
      | nil => exact h1.elim
      | cons a3 b3 n3 =>
        cases b3 with
        | cons _ _ _ => exact h1.elim
        | nil =>
          rename_i v1 w1 v2 w2 v3 w3
          simp only at h1
          split at h1
          · exact h1.elim
          · rename_i hl
            have hl' : w2.isLoc i = false ∧ w3.isLoc i = false ∧ w3.isLoc j = false := by
              cases e : w2.isLoc i <;> cases e' : w3.isLoc i <;> cases e'' : w3.isLoc j <;> simp [e, e', e''] at hl ⊢
            cases e1 : gN i w1 r1 with
            | fail => simp only [M.bind, e1] at h1; exact h1.elim
            | exc x r2 => exact absurd e1 gN_noexc
            | ok u r2 =>
              simp only [M.bind, e1] at h1
              obtain ⟨B2, R2, s2, k2⟩ := gN_step R1 s1 a1 e1
              have q2 := k2 v2 w2 a2 (n1 0 v2 w2 rfl rfl) hl'.1
              have q3 := k2 v3 w3 a3 (n1 1 v3 w3 rfl rfl) hl'.2.1
              cases e2 : gN j w2 r2 with
              | fail => simp only [M.bind, e2] at h1; exact h1.elim
              | exc x r3 => exact absurd e2 gN_noexc
              | ok u r3 =>
                simp only [M.bind, e2] at h1
                obtain ⟨B3, R3, s3, k3⟩ := gN_step R2 s2 q2 e2
                have q4 := k3 v3 w3 q3 (n2 0 v3 w3 rfl rfl) hl'.2.2
                cases e3 : gN l w3 r3 with
                | fail => simp only [M.bind, e3] at h1; exact h1.elim
                | exc x r4 => exact absurd e3 gN_noexc
                | ok u r4 =>
                  simp only [M.bind, e3] at h1
                  obtain ⟨B4, R4, s4, _⟩ := gN_step R3 s3 q4 e3
                  exact ⟨v1, v2, v3, rfl, h1 _ B4 H1 s4 R4⟩
end
end Lc

namespace Lc
open PySem L2 PySem.Spec PyProof.Rows He
/-! ### a long top, looked at in parts -/
def obsX (file : Str) (xs : List XD) (K : PySem.W.Frag) : Bool × List IniW := (xs.all fun d => xcB K d.b file d.x d.fs, xs.map fun d => iniW K d.x)
theorem run_join {X : Option PySem.W.SharedT} {α β : Type} {lk : PySem.W.SharedT → α} {sn : PySem.W.SharedT → β} {va : α} {vb : β} {n : Nat} {fa : List Fa} {fn : List DefD} {file : Str} {xs ys zs : List XD} {ex : PySem.W.Frag → Bool} (hz : zs = xs ++ ys)
    (hA : X.map (fun s => (lk s, sn s, obsD fa fn (frS (HandSHeadRun.getT s) n))) = some (va, vb, valD fn)) (h1 : X.map (fun s => obsX file xs (frS (HandSHeadRun.getT s) n)) = some (true, xs.map XD.val)) (h2 : X.map (fun s => obsX file ys (frS (HandSHeadRun.getT s) n)) = some (true, ys.map XD.val))
    (hC : X.map (fun s => ex (frS (HandSHeadRun.getT s) n)) = some true) : X.map (fun s => (lk s, sn s, obsS n fa fn file zs ex (HandSHeadRun.getT s))) = some (va, vb, valS fn zs) := by
  subst hz
  cases X with
  | none => cases hA
  | some s =>
    simp only [Option.map_some, Option.some.injEq, Prod.mk.injEq, obsX] at hA h1 h2 hC ⊢
    obtain ⟨a1, a2, a3⟩ := hA
    refine ⟨a1, a2, ?_⟩
    unfold obsS valS
    rw [a3, List.all_append, h1.1, h2.1, hC, List.map_append, h1.2, h2.2, List.map_append]
    rfl
end Lc

set_option Elab.async false
set_option maxRecDepth 100000
set_option maxHeartbeats 2000000
/-! Sizes of data: what bounds their texts. -/
namespace Lc
open PySem L2
mutual
/-- data of at most n levels and size s -/
inductive Gd : Nat → Nat → D → Prop
  | non {n s : Nat} : Gd (n + 1) (s + 1) .non
  | bl {n s : Nat} (b : Bool) : Gd (n + 1) (s + 1) (.bl b)
  | int {n s : Nat} {i : Int} : i.natAbs < 2 ^ 200 → Gd (n + 1) (s + 1) (.int i)
  | str {n s : Nat} {x : Str} : Wd 30 x → Gd (n + 1) (s + 1) (.str x)
  | dct {n s : Nat} : Gd (n + 1) (s + 1) (.dct [])
  | tup {n s : Nat} {l : List D} : GdL n s l → Gd (n + 1) (s + 1) (.tup l)
  | lst {n s : Nat} {l : List D} : GdL n s l → Gd (n + 1) (s + 1) (.lst l)
inductive GdL : Nat → Nat → List D → Prop
  | nil {n s : Nat} : GdL n s []
  | cons {n s1 s2 s : Nat} {d : D} {l : List D} : Gd n s1 d → GdL n s2 l → s1 + s2 ≤ s → GdL n s (d :: l)
end
theorem Gd.pos {n s : Nat} {d : D} (h : Gd n s d) : 1 ≤ s := by
  cases h <;> omega
theorem GdL.len {n s : Nat} {l : List D} (h : GdL n s l) : l.length ≤ s := by
  induction l generalizing s with
  | nil => exact Nat.zero_le _
  | cons d l ih =>
    cases h with
    | cons a b c =>
      have := ih b
      have := a.pos
      rw [List.length_cons]
      omega
mutual
theorem Gd.mono {n s m t : Nat} {d : D} (h : Gd n s d) (hn : n ≤ m) (hs : s ≤ t) : Gd m t d := by
  obtain ⟨m', rfl⟩ : ∃ m', m = m' + 1 := by cases h <;> exact ⟨m - 1, by omega⟩
  obtain ⟨t', rfl⟩ : ∃ t', t = t' + 1 := by cases h <;> exact ⟨t - 1, by omega⟩
  cases h with
  | non => exact .non
  | bl b => exact .bl b
  | int h => exact .int h
  | str h => exact .str h
  | dct => exact .dct
  | tup h => exact .tup (h.mono (by omega) (by omega))
  | lst h => exact .lst (h.mono (by omega) (by omega))
theorem GdL.mono {n s m t : Nat} {l : List D} (h : GdL n s l) (hn : n ≤ m) (hs : s ≤ t) : GdL m t l := by
  cases h with
  | nil => exact .nil
  | cons a b c => exact .cons (a.mono hn (Nat.le_refl _)) (b.mono hn (Nat.le_refl _)) (Nat.le_trans c hs)
end
theorem join_len : ∀ ts : List Str, (Str.join ", " ts).length ≤ (ts.map (·.length)).sum + 2 * ts.length
  | [] => by show (0 : Nat) ≤ _; omega
  | [x] => by simp [Str.join]
  | x :: y :: r => by
    show (x ++ ", " ++ Str.join ", " (y :: r)).length ≤ _
    have := join_len (y :: r)
    have e : (Str.ofString ", ").length = 2 := by decide
    rw [Str.length_append, Str.length_append, e]
    simp only [List.map_cons, List.sum_cons, List.length_cons] at this ⊢
    omega
theorem tup_len (ts : List Str) : (tupleText ts).length ≤ (ts.map (·.length)).sum + 2 * ts.length + 3 := by
  unfold tupleText
  have := join_len ts
  have e : (Str.ofString "(").length = 1 := by decide
  have e2 : (Str.ofString ",)").length = 2 := by decide
  have e3 : (Str.ofString ")").length = 1 := by decide
  rw [Str.length_append, Str.length_append, e]
  split <;> omega
theorem shownAll_len : ∀ l : List PyData, (PyData.shownAll l).length = l.length
  | [] => by rw [PyData.shownAll]; rfl
  | d :: l => by rw [PyData.shownAll, List.length_cons, List.length_cons, shownAll_len l]
theorem pys_len : ∀ l : List D, (D.pys l).length = l.length
  | [] => by rw [D.pys]; rfl
  | d :: l => by rw [D.pys, List.length_cons, List.length_cons, pys_len l]
structure TH (n s : Nat) (d : D) : Prop where
  okc : okP d.py
  shw : d.shw = true
  sho : d.py.showable = true
  dep : d.py.depth ≤ n
  len : d.py.shown.length + 10 ≤ 400 * s
mutual
theorem Gd.all : ∀ {n s : Nat} {d : D}, Gd n s d → TH n s d
  | _, _, _, .non => ⟨by simp [D.py, okP], by simp [D.shw], by simp [D.py, PyData.showable], by simp [D.py, PyData.depth], by
      have : (PyData.shown .none).length = 4 := by decide +kernel
      rw [D.py, this]; omega⟩
  | _, _, _, .bl b => ⟨by simp [D.py, okP], by simp [D.shw], by simp [D.py, PyData.showable], by simp [D.py, PyData.depth], by
      have : (PyData.shown (.bool b)).length ≤ 5 := by cases b <;> decide +kernel
      rw [D.py]; omega⟩
  | _, _, _, .int (i := i) h => ⟨by simp [D.py, okP], by simp [D.shw], by
      have := log_lt h (by decide)
      simp only [D.py, PyData.showable, decide_eq_true_eq]; omega, by simp [D.py, PyData.depth], by
      have := int_text_length_le (k := 200) (by decide) (log_lt h (by decide))
      rw [D.py, PyData.shown]
      have e : (Str.ofString (toString i)).length = (toString i).length := ofString_length _
      rw [e]; omega⟩
  | _, _, _, .str h => ⟨by rw [D.py, okP]; exact h.low, by simp [D.shw], by simp [D.py, PyData.showable], by simp [D.py, PyData.depth], by
      have := repr_len h
      rw [D.py, PyData.shown]; omega⟩
  | _, _, _, .dct => ⟨by simp [D.py, D.pyk, okP], by simp [D.shw, D.shwk], by simp [D.py, D.pyk, PyData.showable, PyData.showableKv], by simp [D.py, D.pyk, PyData.depth, PyData.depthKv], by
      have : (PyData.shown (.dict [])).length = 2 := by decide +kernel
      rw [D.py, D.pyk, this]; omega⟩
  | _, _, _, .tup (l := l) h => by
    obtain ⟨h2, h3, h4, h5, h6⟩ := h.all
    have hl := h.len
    refine ⟨by rw [D.py, okP]; exact h2, by rw [D.shw]; exact h3, by rw [D.py, PyData.showable]; exact h4, by rw [D.py, PyData.depth]; omega, ?_⟩
    rw [D.py, PyData.shown]
    have := tup_len (PyData.shownAll (D.pys l))
    rw [shownAll_len, pys_len] at this
    omega
  | _, _, _, .lst (l := l) h => by
    obtain ⟨h2, h3, h4, h5, h6⟩ := h.all
    have hl := h.len
    refine ⟨by rw [D.py, okP]; exact h2, by rw [D.shw]; exact h3, by rw [D.py, PyData.showable]; exact h4, by rw [D.py, PyData.depth]; omega, ?_⟩
    rw [D.py, PyData.shown]
    have := listText_len_le (PyData.shownAll (D.pys l))
    rw [shownAll_len, pys_len] at this
    omega
theorem GdL.all : ∀ {n s : Nat} {l : List D}, GdL n s l → okPs (D.pys l) ∧ D.shws l = true ∧ PyData.showableAll (D.pys l) = true ∧ PyData.depthAll (D.pys l) ≤ n ∧ ((PyData.shownAll (D.pys l)).map (·.length)).sum + 10 * l.length ≤ 400 * s
  | _, _, _, .nil => by
    refine ⟨by simp [D.pys, okPs], by simp [D.shws], by simp [D.pys, PyData.showableAll], by simp [D.pys, PyData.depthAll], by simp [D.pys, PyData.shownAll]⟩
  | _, _, _, .cons (d := d) (l := l) a b c => by
    have A := a.all
    obtain ⟨h2, h3, h4, h5, h6⟩ := b.all
    have hp := a.pos
    refine ⟨?_, ?_, ?_, ?_, ?_⟩
    · rw [D.pys, okPs]; exact ⟨A.okc, h2⟩
    · rw [D.shws, A.shw, h3]; rfl
    · rw [D.pys, PyData.showableAll, A.sho, h4]; rfl
    · rw [D.pys, PyData.depthAll]; exact Nat.max_le.mpr ⟨A.dep, h5⟩
    · rw [D.pys, PyData.shownAll, List.map_cons, List.sum_cons, List.length_cons]
      have := A.len
      omega
end
theorem Gd.rok {n s : Nat} {d : D} (h : Gd n s d) (hn : n ≤ 64) (hs : s ≤ 40000) : d.rok = true := by
  have T := h.all
  have h1 := T.len
  have h2 := T.dep
  simp only [D.rok, D.shown, T.shw, T.sho, q_size, Bool.and_eq_true, decide_eq_true_eq, true_and]
  omega
/-- a list of things of one size -/
theorem GdL.same {n s : Nat} : ∀ {l : List D}, (∀ d ∈ l, Gd n s d) → GdL n (s * l.length) l
  | [], _ => .nil
  | d :: l, h => .cons (h d List.mem_cons_self) (GdL.same fun x hx => h x (List.mem_cons_of_mem _ hx)) (by rw [List.length_cons, Nat.mul_add, Nat.mul_one, Nat.add_comm]; exact Nat.le_refl _)
theorem repr_some {d : D} (h : d.rok = true) : gRepr [d] = some (.dt (.str d.shown)) := by simp [gRepr, h, sD]
theorem ne_self (x : Str) : gNe (.str x) (.str x) = some (.dt (.bl false)) := by simp [gNe, D.eq, bD]
theorem eq_selfS (x : Str) : gEq (.str x) (.str x) = some (.dt (.bl true)) := by simp [gEq, D.eq, bD]
end Lc


set_option Elab.async false
set_option maxRecDepth 100000
set_option maxHeartbeats 4000000
set_option linter.unusedVariables false
namespace Lw
open PySem L2 Lc PySem.Spec PyProof.Rows He
noncomputable section
def top (i : Nat) : Stmt := PySem.Challenge.pw_leastcopies_k17_error_classes.main.body.getD i (.Pass ⟨0, 0, 0, 0⟩)
def frN : List Str := [PySem.Str.ofString "max", PySem.Str.ofString "len", PySem.Str.ofString "abs", PySem.Str.ofString "divmod", PySem.Str.ofString "ZeroDivisionError", PySem.Str.ofString "IndexError", PySem.Str.ofString "KeyError", PySem.Str.ofString "isinstance", PySem.Str.ofString "ArithmeticError", PySem.Str.ofString "RuntimeError", PySem.Str.ofString "LookupError", PySem.Str.ofString "ValueError", PySem.Str.ofString "repr", PySem.Str.ofString "all", PySem.Str.ofString "range", PySem.Str.ofString "min", PySem.Str.ofString "super"]
def fileS : Str := "/claim/cut.py"
def clsN : List Str := [PySem.Str.ofString "LimitError", PySem.Str.ofString "StateError", PySem.Str.ofString "MissingError", PySem.Str.ofString "CopyError", PySem.Str.ofString "InvalidArguments", PySem.Str.ofString "InvalidKey", PySem.Str.ofString "InvalidInstance", PySem.Str.ofString "InvalidFunction", PySem.Str.ofString "InvalidAnswers", PySem.Str.ofString "InvalidRule", PySem.Str.ofString "InvalidAnswer", PySem.Str.ofString "InvalidPattern", PySem.Str.ofString "InvalidShape", PySem.Str.ofString "InvalidCount", PySem.Str.ofString "InvalidName", PySem.Str.ofString "InvalidCommand", PySem.Str.ofString "InvalidText", PySem.Str.ofString "InvalidEdit", PySem.Str.ofString "InvalidProgram", PySem.Str.ofString "InvalidCatalog", PySem.Str.ofString "InvalidRows", PySem.Str.ofString "InvalidReads", PySem.Str.ofString "NotWished", PySem.Str.ofString "UnknownTask", PySem.Str.ofString "UnknownCopy", PySem.Str.ofString "UnknownSite", PySem.Str.ofString "UnknownKind", PySem.Str.ofString "UnknownFunction", PySem.Str.ofString "UnknownConstructor", PySem.Str.ofString "UnknownBase", PySem.Str.ofString "UnknownQuestion", PySem.Str.ofString "NoShape", PySem.Str.ofString "NotBuilt", PySem.Str.ofString "RunFailed", PySem.Str.ofString "NothingToUndo", PySem.Str.ofString "TaskEnded", PySem.Str.ofString "LostRoot", PySem.Str.ofString "AlreadyWished", PySem.Str.ofString "InUse", PySem.Str.ofString "NameTaken", PySem.Str.ofString "TooManySteps", PySem.Str.ofString "TooMany"]
def isaP : List (Str × CK) := [(PySem.Str.ofString "CopyError", .t "ValueError"), (PySem.Str.ofString "InvalidName", .c (PySem.Str.ofString "CopyError")), (PySem.Str.ofString "InvalidCount", .c (PySem.Str.ofString "CopyError")), (PySem.Str.ofString "InvalidShape", .c (PySem.Str.ofString "CopyError")), (PySem.Str.ofString "InvalidPattern", .c (PySem.Str.ofString "CopyError")), (PySem.Str.ofString "InvalidAnswer", .c (PySem.Str.ofString "CopyError")), (PySem.Str.ofString "InvalidReads", .c (PySem.Str.ofString "CopyError")), (PySem.Str.ofString "InvalidRows", .c (PySem.Str.ofString "CopyError")), (PySem.Str.ofString "InvalidRule", .c (PySem.Str.ofString "CopyError")), (PySem.Str.ofString "InvalidAnswers", .c (PySem.Str.ofString "CopyError")), (PySem.Str.ofString "InvalidCatalog", .c (PySem.Str.ofString "CopyError")), (PySem.Str.ofString "InvalidFunction", .c (PySem.Str.ofString "CopyError")), (PySem.Str.ofString "InvalidProgram", .c (PySem.Str.ofString "CopyError")), (PySem.Str.ofString "InvalidInstance", .c (PySem.Str.ofString "CopyError")), (PySem.Str.ofString "InvalidKey", .c (PySem.Str.ofString "CopyError")), (PySem.Str.ofString "InvalidEdit", .c (PySem.Str.ofString "CopyError")), (PySem.Str.ofString "InvalidArguments", .c (PySem.Str.ofString "CopyError")), (PySem.Str.ofString "InvalidText", .c (PySem.Str.ofString "CopyError")), (PySem.Str.ofString "InvalidCommand", .c (PySem.Str.ofString "CopyError")), (PySem.Str.ofString "MissingError", .t "LookupError"), (PySem.Str.ofString "UnknownQuestion", .c (PySem.Str.ofString "MissingError")), (PySem.Str.ofString "UnknownBase", .c (PySem.Str.ofString "MissingError")), (PySem.Str.ofString "UnknownConstructor", .c (PySem.Str.ofString "MissingError")), (PySem.Str.ofString "UnknownFunction", .c (PySem.Str.ofString "MissingError")), (PySem.Str.ofString "UnknownKind", .c (PySem.Str.ofString "MissingError")), (PySem.Str.ofString "UnknownSite", .c (PySem.Str.ofString "MissingError")), (PySem.Str.ofString "UnknownCopy", .c (PySem.Str.ofString "MissingError")), (PySem.Str.ofString "UnknownTask", .c (PySem.Str.ofString "MissingError")), (PySem.Str.ofString "NotWished", .c (PySem.Str.ofString "MissingError")), (PySem.Str.ofString "NotBuilt", .c (PySem.Str.ofString "MissingError")), (PySem.Str.ofString "NoShape", .c (PySem.Str.ofString "MissingError")), (PySem.Str.ofString "StateError", .t "RuntimeError"), (PySem.Str.ofString "NameTaken", .c (PySem.Str.ofString "StateError")), (PySem.Str.ofString "InUse", .c (PySem.Str.ofString "StateError")), (PySem.Str.ofString "AlreadyWished", .c (PySem.Str.ofString "StateError")), (PySem.Str.ofString "LostRoot", .c (PySem.Str.ofString "StateError")), (PySem.Str.ofString "TaskEnded", .c (PySem.Str.ofString "StateError")), (PySem.Str.ofString "NothingToUndo", .c (PySem.Str.ofString "StateError")), (PySem.Str.ofString "RunFailed", .c (PySem.Str.ofString "StateError")), (PySem.Str.ofString "LimitError", .t "ArithmeticError"), (PySem.Str.ofString "TooMany", .c (PySem.Str.ofString "LimitError")), (PySem.Str.ofString "TooManySteps", .c (PySem.Str.ofString "LimitError"))]
def isaX : List Str := [PySem.Str.ofString "InvalidArguments", PySem.Str.ofString "InvalidKey", PySem.Str.ofString "InvalidInstance", PySem.Str.ofString "InvalidFunction", PySem.Str.ofString "InvalidAnswers", PySem.Str.ofString "InvalidRule", PySem.Str.ofString "InvalidAnswer", PySem.Str.ofString "InvalidPattern", PySem.Str.ofString "InvalidShape", PySem.Str.ofString "InvalidCount", PySem.Str.ofString "InvalidName", PySem.Str.ofString "InvalidCommand", PySem.Str.ofString "InvalidText", PySem.Str.ofString "InvalidEdit", PySem.Str.ofString "InvalidProgram", PySem.Str.ofString "InvalidCatalog", PySem.Str.ofString "InvalidRows", PySem.Str.ofString "InvalidReads", PySem.Str.ofString "NotWished", PySem.Str.ofString "UnknownTask", PySem.Str.ofString "UnknownCopy", PySem.Str.ofString "UnknownSite", PySem.Str.ofString "UnknownKind", PySem.Str.ofString "UnknownFunction", PySem.Str.ofString "UnknownConstructor", PySem.Str.ofString "UnknownBase", PySem.Str.ofString "UnknownQuestion", PySem.Str.ofString "NoShape", PySem.Str.ofString "NotBuilt", PySem.Str.ofString "RunFailed", PySem.Str.ofString "NothingToUndo", PySem.Str.ofString "TaskEnded", PySem.Str.ofString "LostRoot", PySem.Str.ofString "AlreadyWished", PySem.Str.ofString "InUse", PySem.Str.ofString "NameTaken", PySem.Str.ofString "TooManySteps", PySem.Str.ofString "TooMany"]
def isaC : List CK := [.t "KeyError", .t "IndexError", .t "ZeroDivisionError", .t "ArithmeticError", .t "RuntimeError", .t "LookupError", .t "ValueError", .c (PySem.Str.ofString "LimitError"), .c (PySem.Str.ofString "StateError"), .c (PySem.Str.ofString "MissingError"), .c (PySem.Str.ofString "CopyError"), .c (PySem.Str.ofString "InvalidCommand"), .c (PySem.Str.ofString "InvalidText"), .c (PySem.Str.ofString "InvalidEdit"), .c (PySem.Str.ofString "InvalidProgram"), .c (PySem.Str.ofString "InvalidCatalog"), .c (PySem.Str.ofString "InvalidRows"), .c (PySem.Str.ofString "InvalidReads"), .c (PySem.Str.ofString "InvalidArguments"), .c (PySem.Str.ofString "InvalidKey"), .c (PySem.Str.ofString "InvalidInstance"), .c (PySem.Str.ofString "InvalidFunction"), .c (PySem.Str.ofString "InvalidAnswers"), .c (PySem.Str.ofString "InvalidRule"), .c (PySem.Str.ofString "InvalidAnswer"), .c (PySem.Str.ofString "InvalidPattern"), .c (PySem.Str.ofString "InvalidShape"), .c (PySem.Str.ofString "InvalidCount"), .c (PySem.Str.ofString "InvalidName"), .c (PySem.Str.ofString "NoShape"), .c (PySem.Str.ofString "NotBuilt"), .c (PySem.Str.ofString "NotWished"), .c (PySem.Str.ofString "UnknownTask"), .c (PySem.Str.ofString "UnknownCopy"), .c (PySem.Str.ofString "UnknownSite"), .c (PySem.Str.ofString "UnknownKind"), .c (PySem.Str.ofString "UnknownFunction"), .c (PySem.Str.ofString "UnknownConstructor"), .c (PySem.Str.ofString "UnknownBase"), .c (PySem.Str.ofString "UnknownQuestion"), .c (PySem.Str.ofString "RunFailed"), .c (PySem.Str.ofString "NothingToUndo"), .c (PySem.Str.ofString "TaskEnded"), .c (PySem.Str.ofString "LostRoot"), .c (PySem.Str.ofString "AlreadyWished"), .c (PySem.Str.ofString "InUse"), .c (PySem.Str.ofString "NameTaken"), .c (PySem.Str.ofString "TooMany"), .c (PySem.Str.ofString "TooManySteps")]
def isaT : IsaT := ⟨isaP, isaX, isaC⟩
def catT : Tab := []
abbrev ci_InvalidArguments : Stmt := (clsBody (top 17)).getD 0 (.Pass ⟨0, 0, 0, 0⟩)
def xd_InvalidArguments : XD := ⟨.val, "InvalidArguments", ["value"], defArgs ci_InvalidArguments, defBody ci_InvalidArguments, defScope ci_InvalidArguments⟩
abbrev ci_InvalidKey : Stmt := (clsBody (top 15)).getD 0 (.Pass ⟨0, 0, 0, 0⟩)
def xd_InvalidKey : XD := ⟨.val, "InvalidKey", ["value"], defArgs ci_InvalidKey, defBody ci_InvalidKey, defScope ci_InvalidKey⟩
abbrev ci_InvalidInstance : Stmt := (clsBody (top 14)).getD 0 (.Pass ⟨0, 0, 0, 0⟩)
def xd_InvalidInstance : XD := ⟨.val, "InvalidInstance", ["value"], defArgs ci_InvalidInstance, defBody ci_InvalidInstance, defScope ci_InvalidInstance⟩
abbrev ci_InvalidFunction : Stmt := (clsBody (top 12)).getD 0 (.Pass ⟨0, 0, 0, 0⟩)
def xd_InvalidFunction : XD := ⟨.val, "InvalidFunction", ["value"], defArgs ci_InvalidFunction, defBody ci_InvalidFunction, defScope ci_InvalidFunction⟩
abbrev ci_InvalidAnswers : Stmt := (clsBody (top 10)).getD 0 (.Pass ⟨0, 0, 0, 0⟩)
def xd_InvalidAnswers : XD := ⟨.val, "InvalidAnswers", ["value"], defArgs ci_InvalidAnswers, defBody ci_InvalidAnswers, defScope ci_InvalidAnswers⟩
abbrev ci_InvalidRule : Stmt := (clsBody (top 9)).getD 0 (.Pass ⟨0, 0, 0, 0⟩)
def xd_InvalidRule : XD := ⟨.val, "InvalidRule", ["value"], defArgs ci_InvalidRule, defBody ci_InvalidRule, defScope ci_InvalidRule⟩
abbrev ci_InvalidAnswer : Stmt := (clsBody (top 6)).getD 0 (.Pass ⟨0, 0, 0, 0⟩)
def xd_InvalidAnswer : XD := ⟨.val, "InvalidAnswer", ["value"], defArgs ci_InvalidAnswer, defBody ci_InvalidAnswer, defScope ci_InvalidAnswer⟩
abbrev ci_InvalidPattern : Stmt := (clsBody (top 5)).getD 0 (.Pass ⟨0, 0, 0, 0⟩)
def xd_InvalidPattern : XD := ⟨.val, "InvalidPattern", ["value"], defArgs ci_InvalidPattern, defBody ci_InvalidPattern, defScope ci_InvalidPattern⟩
abbrev ci_InvalidShape : Stmt := (clsBody (top 4)).getD 0 (.Pass ⟨0, 0, 0, 0⟩)
def xd_InvalidShape : XD := ⟨.val, "InvalidShape", ["value"], defArgs ci_InvalidShape, defBody ci_InvalidShape, defScope ci_InvalidShape⟩
abbrev ci_InvalidCount : Stmt := (clsBody (top 3)).getD 0 (.Pass ⟨0, 0, 0, 0⟩)
def xd_InvalidCount : XD := ⟨.val, "InvalidCount", ["value"], defArgs ci_InvalidCount, defBody ci_InvalidCount, defScope ci_InvalidCount⟩
abbrev ci_InvalidName : Stmt := (clsBody (top 2)).getD 0 (.Pass ⟨0, 0, 0, 0⟩)
def xd_InvalidName : XD := ⟨.val, "InvalidName", ["value"], defArgs ci_InvalidName, defBody ci_InvalidName, defScope ci_InvalidName⟩
abbrev ci_InvalidCommand : Stmt := (clsBody (top 19)).getD 0 (.Pass ⟨0, 0, 0, 0⟩)
def xd_InvalidCommand : XD := ⟨.val, "InvalidCommand", ["command"], defArgs ci_InvalidCommand, defBody ci_InvalidCommand, defScope ci_InvalidCommand⟩
abbrev ci_InvalidText : Stmt := (clsBody (top 18)).getD 0 (.Pass ⟨0, 0, 0, 0⟩)
def xd_InvalidText : XD := ⟨.val, "InvalidText", ["line"], defArgs ci_InvalidText, defBody ci_InvalidText, defScope ci_InvalidText⟩
abbrev ci_InvalidEdit : Stmt := (clsBody (top 16)).getD 0 (.Pass ⟨0, 0, 0, 0⟩)
def xd_InvalidEdit : XD := ⟨.val, "InvalidEdit", ["position"], defArgs ci_InvalidEdit, defBody ci_InvalidEdit, defScope ci_InvalidEdit⟩
abbrev ci_InvalidProgram : Stmt := (clsBody (top 13)).getD 0 (.Pass ⟨0, 0, 0, 0⟩)
def xd_InvalidProgram : XD := ⟨.val, "InvalidProgram", ["problem", "position"], defArgs ci_InvalidProgram, defBody ci_InvalidProgram, defScope ci_InvalidProgram⟩
abbrev ci_InvalidCatalog : Stmt := (clsBody (top 11)).getD 0 (.Pass ⟨0, 0, 0, 0⟩)
def xd_InvalidCatalog : XD := ⟨.val, "InvalidCatalog", ["problem", "position"], defArgs ci_InvalidCatalog, defBody ci_InvalidCatalog, defScope ci_InvalidCatalog⟩
abbrev ci_InvalidRows : Stmt := (clsBody (top 8)).getD 0 (.Pass ⟨0, 0, 0, 0⟩)
def xd_InvalidRows : XD := ⟨.val, "InvalidRows", ["key"], defArgs ci_InvalidRows, defBody ci_InvalidRows, defScope ci_InvalidRows⟩
abbrev ci_InvalidReads : Stmt := (clsBody (top 7)).getD 0 (.Pass ⟨0, 0, 0, 0⟩)
def xd_InvalidReads : XD := ⟨.val, "InvalidReads", ["position"], defArgs ci_InvalidReads, defBody ci_InvalidReads, defScope ci_InvalidReads⟩
abbrev ci_NotWished : Stmt := (clsBody (top 29)).getD 0 (.Pass ⟨0, 0, 0, 0⟩)
def xd_NotWished : XD := ⟨.look, "NotWished", ["value"], defArgs ci_NotWished, defBody ci_NotWished, defScope ci_NotWished⟩
abbrev ci_UnknownTask : Stmt := (clsBody (top 28)).getD 0 (.Pass ⟨0, 0, 0, 0⟩)
def xd_UnknownTask : XD := ⟨.look, "UnknownTask", ["value"], defArgs ci_UnknownTask, defBody ci_UnknownTask, defScope ci_UnknownTask⟩
abbrev ci_UnknownCopy : Stmt := (clsBody (top 27)).getD 0 (.Pass ⟨0, 0, 0, 0⟩)
def xd_UnknownCopy : XD := ⟨.look, "UnknownCopy", ["value"], defArgs ci_UnknownCopy, defBody ci_UnknownCopy, defScope ci_UnknownCopy⟩
abbrev ci_UnknownSite : Stmt := (clsBody (top 26)).getD 0 (.Pass ⟨0, 0, 0, 0⟩)
def xd_UnknownSite : XD := ⟨.look, "UnknownSite", ["value"], defArgs ci_UnknownSite, defBody ci_UnknownSite, defScope ci_UnknownSite⟩
abbrev ci_UnknownKind : Stmt := (clsBody (top 25)).getD 0 (.Pass ⟨0, 0, 0, 0⟩)
def xd_UnknownKind : XD := ⟨.look, "UnknownKind", ["value"], defArgs ci_UnknownKind, defBody ci_UnknownKind, defScope ci_UnknownKind⟩
abbrev ci_UnknownFunction : Stmt := (clsBody (top 24)).getD 0 (.Pass ⟨0, 0, 0, 0⟩)
def xd_UnknownFunction : XD := ⟨.look, "UnknownFunction", ["value"], defArgs ci_UnknownFunction, defBody ci_UnknownFunction, defScope ci_UnknownFunction⟩
abbrev ci_UnknownConstructor : Stmt := (clsBody (top 23)).getD 0 (.Pass ⟨0, 0, 0, 0⟩)
def xd_UnknownConstructor : XD := ⟨.look, "UnknownConstructor", ["value"], defArgs ci_UnknownConstructor, defBody ci_UnknownConstructor, defScope ci_UnknownConstructor⟩
abbrev ci_UnknownBase : Stmt := (clsBody (top 22)).getD 0 (.Pass ⟨0, 0, 0, 0⟩)
def xd_UnknownBase : XD := ⟨.look, "UnknownBase", ["value"], defArgs ci_UnknownBase, defBody ci_UnknownBase, defScope ci_UnknownBase⟩
abbrev ci_UnknownQuestion : Stmt := (clsBody (top 21)).getD 0 (.Pass ⟨0, 0, 0, 0⟩)
def xd_UnknownQuestion : XD := ⟨.look, "UnknownQuestion", ["value"], defArgs ci_UnknownQuestion, defBody ci_UnknownQuestion, defScope ci_UnknownQuestion⟩
abbrev ci_NoShape : Stmt := (clsBody (top 31)).getD 0 (.Pass ⟨0, 0, 0, 0⟩)
def xd_NoShape : XD := ⟨.look, "NoShape", ["profile"], defArgs ci_NoShape, defBody ci_NoShape, defScope ci_NoShape⟩
abbrev ci_NotBuilt : Stmt := (clsBody (top 30)).getD 0 (.Pass ⟨0, 0, 0, 0⟩)
def xd_NotBuilt : XD := ⟨.look, "NotBuilt", ["instance"], defArgs ci_NotBuilt, defBody ci_NotBuilt, defScope ci_NotBuilt⟩
abbrev ci_RunFailed : Stmt := (clsBody (top 39)).getD 0 (.Pass ⟨0, 0, 0, 0⟩)
def xd_RunFailed : XD := ⟨.run, "RunFailed", ["position", "results"], defArgs ci_RunFailed, defBody ci_RunFailed, defScope ci_RunFailed⟩
abbrev ci_NothingToUndo : Stmt := (clsBody (top 38)).getD 0 (.Pass ⟨0, 0, 0, 0⟩)
def xd_NothingToUndo : XD := ⟨.run, "NothingToUndo", ["count"], defArgs ci_NothingToUndo, defBody ci_NothingToUndo, defScope ci_NothingToUndo⟩
abbrev ci_TaskEnded : Stmt := (clsBody (top 37)).getD 0 (.Pass ⟨0, 0, 0, 0⟩)
def xd_TaskEnded : XD := ⟨.run, "TaskEnded", ["task"], defArgs ci_TaskEnded, defBody ci_TaskEnded, defScope ci_TaskEnded⟩
abbrev ci_LostRoot : Stmt := (clsBody (top 36)).getD 0 (.Pass ⟨0, 0, 0, 0⟩)
def xd_LostRoot : XD := ⟨.run, "LostRoot", ["instance"], defArgs ci_LostRoot, defBody ci_LostRoot, defScope ci_LostRoot⟩
abbrev ci_AlreadyWished : Stmt := (clsBody (top 35)).getD 0 (.Pass ⟨0, 0, 0, 0⟩)
def xd_AlreadyWished : XD := ⟨.run, "AlreadyWished", ["instance"], defArgs ci_AlreadyWished, defBody ci_AlreadyWished, defScope ci_AlreadyWished⟩
abbrev ci_InUse : Stmt := (clsBody (top 34)).getD 0 (.Pass ⟨0, 0, 0, 0⟩)
def xd_InUse : XD := ⟨.run, "InUse", ["kind", "name"], defArgs ci_InUse, defBody ci_InUse, defScope ci_InUse⟩
abbrev ci_NameTaken : Stmt := (clsBody (top 33)).getD 0 (.Pass ⟨0, 0, 0, 0⟩)
def xd_NameTaken : XD := ⟨.run, "NameTaken", ["name"], defArgs ci_NameTaken, defBody ci_NameTaken, defScope ci_NameTaken⟩
abbrev ci_TooManySteps : Stmt := (clsBody (top 42)).getD 0 (.Pass ⟨0, 0, 0, 0⟩)
def xd_TooManySteps : XD := ⟨.arith, "TooManySteps", ["limit"], defArgs ci_TooManySteps, defBody ci_TooManySteps, defScope ci_TooManySteps⟩
abbrev ci_TooMany : Stmt := (clsBody (top 41)).getD 0 (.Pass ⟨0, 0, 0, 0⟩)
def xd_TooMany : XD := ⟨.arith, "TooMany", ["kind", "limit"], defArgs ci_TooMany, defBody ci_TooMany, defScope ci_TooMany⟩
def xdL : List XD := [xd_InvalidArguments, xd_InvalidKey, xd_InvalidInstance, xd_InvalidFunction, xd_InvalidAnswers, xd_InvalidRule, xd_InvalidAnswer, xd_InvalidPattern, xd_InvalidShape, xd_InvalidCount, xd_InvalidName, xd_InvalidCommand, xd_InvalidText, xd_InvalidEdit, xd_InvalidProgram, xd_InvalidCatalog, xd_InvalidRows, xd_InvalidReads, xd_NotWished, xd_UnknownTask, xd_UnknownCopy, xd_UnknownSite, xd_UnknownKind, xd_UnknownFunction, xd_UnknownConstructor, xd_UnknownBase, xd_UnknownQuestion, xd_NoShape, xd_NotBuilt, xd_RunFailed, xd_NothingToUndo, xd_TaskEnded, xd_LostRoot, xd_AlreadyWished, xd_InUse, xd_NameTaken, xd_TooManySteps, xd_TooMany]
abbrev xdTL : List (Str × List Str) := xdT xdL
theorem xdNL : xdN xdL clsN := fun d hd => by
  simp only [xdL, List.mem_cons, List.not_mem_nil, or_false] at hd
  rcases hd with rfl | rfl | rfl | rfl | rfl | rfl | rfl | rfl | rfl | rfl | rfl | rfl | rfl | rfl | rfl | rfl | rfl | rfl | rfl | rfl | rfl | rfl | rfl | rfl | rfl | rfl | rfl | rfl | rfl | rfl | rfl | rfl | rfl | rfl | rfl | rfl | rfl | rfl
  all_goals (simp only [xd_InvalidArguments, xd_InvalidKey, xd_InvalidInstance, xd_InvalidFunction, xd_InvalidAnswers, xd_InvalidRule, xd_InvalidAnswer, xd_InvalidPattern, xd_InvalidShape, xd_InvalidCount, xd_InvalidName, xd_InvalidCommand, xd_InvalidText, xd_InvalidEdit, xd_InvalidProgram, xd_InvalidCatalog, xd_InvalidRows, xd_InvalidReads, xd_NotWished, xd_UnknownTask, xd_UnknownCopy, xd_UnknownSite, xd_UnknownKind, xd_UnknownFunction, xd_UnknownConstructor, xd_UnknownBase, xd_UnknownQuestion, xd_NoShape, xd_NotBuilt, xd_RunFailed, xd_NothingToUndo, xd_TaskEnded, xd_LostRoot, xd_AlreadyWished, xd_InUse, xd_NameTaken, xd_TooManySteps, xd_TooMany]; decide +kernel)
def exB (K : PySem.W.Frag) : Bool := (K.lookup sysModules).isSome && (isaB K isaT && catB K catT)
abbrev st__law_rng : Stmt := top 44
def b__law_rng : M Fl := (cSeq (cAsg (cIfE (M.bl (cOp2 gLt (cVar 1) (cCallP gLen (cCons (cVar 0) (M.ret []))))) (cCallP gAbs (cCons (cOp2 gIx1 (cVar 0) (cVar 1)) (M.ret []))) (cC (.int 0))) (gN 2))
    (cSeq (cRet (cLst (cCons (cCallP gMaxL (cCons (cC (.int 0)) (cCons (cOp2 gSub (cVar 2) (cOp2 gPow (cC (.int 10)) (cC (.int 18)))) (M.ret [])))) (cCons (cOp2 gAdd2 (cOp2 gMod (cOp2 gPow (cOp2 gAdd2 (cOp2 gAdd2 (cOp2 gMod (cVar 2) (cC (.int 2147483549))) (cOp2 gMul2 (cC (.int 4127)) (cVar 1))) (cC (.int 29))) (cC (.int 2))) (cC (.int 2147483477))) (cC (.int 1))) (M.ret [])))))
    (M.ret .next)))
def F__law_rng : Fn := runF 3 b__law_rng
abbrev st__law_draw : Stmt := top 45
def b__law_draw : M Fl := (cSeq (cIfS (M.bl (cOp2 gGt (cOp2 gIx1 (cVar 0) (cC (.int 0))) (cC (.int 0)))) (cSeq (cAsg (cCallP gDivmod (cCons (cOp2 gIx1 (cVar 0) (cC (.int 0))) (cCons (cVar 1) (M.ret [])))) (gT 2 (gsCons (gIx (cVar 0) (cC (.int 0))) (gsCons (gN 2) gsNil))))
    (cSeq (cRet (cVar 2))
    (M.ret .next))) (M.ret .next))
    (cSeq (cAsg (cOp2 gMod (cOp2 gAdd2 (cOp2 gMul2 (cOp2 gIx1 (cVar 0) (cC (.int 1))) (cC (.int 39373))) (cC (.int 9973))) (cC (.int 2147483629))) (gIx (cVar 0) (cC (.int 1))))
    (cSeq (cRet (cOp2 gMod (cOp2 gFdiv (cOp2 gMod (cOp2 gMul2 (cOp2 gIx1 (cVar 0) (cC (.int 1))) (cOp2 gIx1 (cVar 0) (cC (.int 1)))) (cC (.int 2147483563))) (cC (.int 13))) (cVar 1)))
    (M.ret .next))))
def F__law_draw : Fn := runF 3 b__law_draw
abbrev st__law_choice : Stmt := top 46
def b__law_choice : M Fl := (cSeq (cRet (cOp2 gIx1 (cVar 1) (cCall F__law_draw (cCons (cVar 0) (cCons (cCallP gLen (cCons (cVar 1) (M.ret []))) (M.ret []))))))
    (M.ret .next))
def F__law_choice : Fn := runF 2 b__law_choice
abbrev st__law_groups : Stmt := top 47
def b__law_groups : M Fl := (cSeq (cAsg (cLst (cCons (cCallP (gIsi2 xdTL isaT) (cCons (cVar 0) (cCons (cC (.cls "CopyError")) (M.ret [])))) (cCons (cCallP (gIsi2 xdTL isaT) (cCons (cVar 0) (cCons (cC (.cls "MissingError")) (M.ret [])))) (cCons (cCallP (gIsi2 xdTL isaT) (cCons (cVar 0) (cCons (cC (.cls "StateError")) (M.ret [])))) (cCons (cCallP (gIsi2 xdTL isaT) (cCons (cVar 0) (cCons (cC (.cls "LimitError")) (M.ret [])))) (M.ret [])))))) (gN 1))
    (cSeq (cAsg (cLst (cCons (cCallP (gIsi2 xdTL isaT) (cCons (cVar 0) (cCons (cC (.ty "ValueError")) (M.ret [])))) (cCons (cCallP (gIsi2 xdTL isaT) (cCons (cVar 0) (cCons (cC (.ty "LookupError")) (M.ret [])))) (cCons (cCallP (gIsi2 xdTL isaT) (cCons (cVar 0) (cCons (cC (.ty "RuntimeError")) (M.ret [])))) (M.ret []))))) (gN 2))
    (cSeq (cRet (cOp2 gAdd2 (cOp2 gAdd2 (cVar 1) (cVar 2)) (cLst (cCons (cCallP (gIsi2 xdTL isaT) (cCons (cVar 0) (cCons (cC (.ty "ArithmeticError")) (M.ret [])))) (cCons (cCallP (gIsi2 xdTL isaT) (cCons (cVar 0) (cCons (cTup (cCons (cC (.ty "KeyError")) (cCons (cC (.ty "IndexError")) (cCons (cC (.ty "ZeroDivisionError")) (M.ret []))))) (M.ret [])))) (M.ret []))))))
    (M.ret .next))))
def F__law_groups : Fn := runF 3 b__law_groups
abbrev st__law_value_errors : Stmt := top 48
def b__law_value_errors : M Fl := (cSeq (cAsg (cLst (cCons (cMk "InvalidName" ["value"] false (cCons (cVar 0) (M.ret []))) (cCons (cMk "InvalidCount" ["value"] false (cCons (cVar 0) (M.ret []))) (cCons (cMk "InvalidShape" ["value"] false (cCons (cVar 0) (M.ret []))) (cCons (cMk "InvalidPattern" ["value"] false (cCons (cVar 0) (M.ret []))) (cCons (cMk "InvalidAnswer" ["value"] false (cCons (cVar 0) (M.ret []))) (M.ret []))))))) (gN 1))
    (cSeq (cAsg (cOp2 gAdd2 (cVar 1) (cLst (cCons (cMk "InvalidRule" ["value"] false (cCons (cVar 0) (M.ret []))) (cCons (cMk "InvalidAnswers" ["value"] false (cCons (cVar 0) (M.ret []))) (cCons (cMk "InvalidFunction" ["value"] false (cCons (cVar 0) (M.ret []))) (cCons (cMk "InvalidInstance" ["value"] false (cCons (cVar 0) (M.ret []))) (cCons (cMk "InvalidKey" ["value"] false (cCons (cVar 0) (M.ret []))) (M.ret [])))))))) (gN 1))
    (cSeq (cRet (cOp2 gAdd2 (cVar 1) (cLst (cCons (cMk "InvalidArguments" ["value"] false (cCons (cVar 0) (M.ret []))) (M.ret [])))))
    (M.ret .next))))
def F__law_value_errors : Fn := runF 2 b__law_value_errors
abbrev st__law_other_errors : Stmt := top 49
def b__law_other_errors : M Fl := (cSeq (cAsg (cLst (cCons (cMk "InvalidReads" ["position"] false (cCons (cVar 0) (M.ret []))) (cCons (cMk "InvalidRows" ["key"] false (cCons (cVar 0) (M.ret []))) (cCons (cMk "InvalidCatalog" ["problem", "position"] false (cCons (cVar 0) (cCons (cVar 1) (M.ret [])))) (cCons (cMk "InvalidProgram" ["problem", "position"] false (cCons (cVar 0) (cCons (cVar 1) (M.ret [])))) (cCons (cMk "InvalidEdit" ["position"] false (cCons (cVar 0) (M.ret []))) (M.ret []))))))) (gN 2))
    (cSeq (cRet (cOp2 gAdd2 (cVar 2) (cLst (cCons (cMk "InvalidText" ["line"] false (cCons (cVar 0) (M.ret []))) (cCons (cMk "InvalidCommand" ["command"] false (cCons (cVar 0) (M.ret []))) (M.ret []))))))
    (M.ret .next)))
def F__law_other_errors : Fn := runF 3 b__law_other_errors
abbrev st__law_missing_errors : Stmt := top 50
def b__law_missing_errors : M Fl := (cSeq (cAsg (cLst (cCons (cMk "UnknownQuestion" ["value"] false (cCons (cVar 0) (M.ret []))) (cCons (cMk "UnknownBase" ["value"] false (cCons (cVar 0) (M.ret []))) (cCons (cMk "UnknownConstructor" ["value"] false (cCons (cVar 0) (M.ret []))) (cCons (cMk "UnknownFunction" ["value"] false (cCons (cVar 0) (M.ret []))) (cCons (cMk "UnknownKind" ["value"] false (cCons (cVar 0) (M.ret []))) (M.ret []))))))) (gN 1))
    (cSeq (cRet (cOp2 gAdd2 (cVar 1) (cLst (cCons (cMk "UnknownSite" ["value"] false (cCons (cVar 0) (M.ret []))) (cCons (cMk "UnknownCopy" ["value"] false (cCons (cVar 0) (M.ret []))) (cCons (cMk "UnknownTask" ["value"] false (cCons (cVar 0) (M.ret []))) (cCons (cMk "NotWished" ["value"] false (cCons (cVar 0) (M.ret []))) (M.ret []))))))))
    (M.ret .next)))
def F__law_missing_errors : Fn := runF 2 b__law_missing_errors
abbrev st__law_late_errors : Stmt := top 51
def b__law_late_errors : M Fl := (cSeq (cRet (cLst (cCons (cMk "NotBuilt" ["instance"] false (cCons (cVar 0) (M.ret []))) (cCons (cMk "NoShape" ["profile"] false (cCons (cVar 0) (M.ret []))) (M.ret [])))))
    (M.ret .next))
def F__law_late_errors : Fn := runF 1 b__law_late_errors
abbrev st__law_state_errors : Stmt := top 52
def b__law_state_errors : M Fl := (cSeq (cAsg (cLst (cCons (cMk "NameTaken" ["name"] false (cCons (cVar 0) (M.ret []))) (cCons (cMk "InUse" ["kind", "name"] false (cCons (cVar 0) (cCons (cVar 1) (M.ret [])))) (cCons (cMk "AlreadyWished" ["instance"] false (cCons (cVar 0) (M.ret []))) (cCons (cMk "LostRoot" ["instance"] false (cCons (cVar 0) (M.ret []))) (cCons (cMk "TaskEnded" ["task"] false (cCons (cVar 0) (M.ret []))) (cCons (cMk "NothingToUndo" ["count"] false (cCons (cVar 0) (M.ret []))) (M.ret [])))))))) (gN 2))
    (cSeq (cRet (cOp2 gAdd2 (cVar 2) (cLst (cCons (cMk "RunFailed" ["position", "results"] false (cCons (cVar 0) (cCons (cVar 1) (M.ret [])))) (M.ret [])))))
    (M.ret .next)))
def F__law_state_errors : Fn := runF 3 b__law_state_errors
abbrev st__law_told : Stmt := top 53
def x__law_told_1 : M W := (cLc (M.bind (cOp2 gAdd2 (cCall F__law_value_errors (cCons (cVar 0) (M.ret []))) (cCall F__law_missing_errors (cCons (cVar 0) (M.ret [])))) W.items) [18] (gN 18) (M.ret true) (cXv xdTL "value" (cVar 18)))
def b__law_told : M Fl := (cSeq (cAsg x__law_told_1 (gN 2))
    (cSeq (cPar2 3 4 (cCons (cMk "InvalidReads" ["position"] false (cCons (cVar 0) (M.ret []))) (cCons (cMk "InvalidRows" ["key"] false (cCons (cVar 0) (M.ret []))) (M.ret []))))
    (cSeq (cPar2 5 6 (cCons (cMk "InvalidCatalog" ["problem", "position"] false (cCons (cVar 0) (cCons (cVar 1) (M.ret [])))) (cCons (cMk "InvalidProgram" ["problem", "position"] false (cCons (cVar 0) (cCons (cVar 1) (M.ret [])))) (M.ret []))))
    (cSeq (cAsg (cOp2 gAdd2 (cVar 2) (cLst (cCons (cXv xdTL "position" (cVar 3)) (cCons (cXv xdTL "key" (cVar 4)) (cCons (cXv xdTL "problem" (cVar 5)) (cCons (cXv xdTL "position" (cVar 5)) (cCons (cXv xdTL "problem" (cVar 6)) (cCons (cXv xdTL "position" (cVar 6)) (M.ret []))))))))) (gN 2))
    (cSeq (cPar3 7 8 9 (cCons (cMk "InvalidEdit" ["position"] false (cCons (cVar 0) (M.ret []))) (cCons (cMk "InvalidText" ["line"] false (cCons (cVar 0) (M.ret []))) (cCons (cMk "InvalidCommand" ["command"] false (cCons (cVar 0) (M.ret []))) (M.ret [])))))
    (cSeq (cAsg (cOp2 gAdd2 (cVar 2) (cLst (cCons (cXv xdTL "position" (cVar 7)) (cCons (cXv xdTL "line" (cVar 8)) (cCons (cXv xdTL "command" (cVar 9)) (cCons (cXv xdTL "instance" (cMk "NotBuilt" ["instance"] false (cCons (cVar 0) (M.ret [])))) (cCons (cXv xdTL "profile" (cMk "NoShape" ["profile"] false (cCons (cVar 0) (M.ret [])))) (M.ret [])))))))) (gN 2))
    (cSeq (cPar3 10 11 12 (cCons (cMk "NameTaken" ["name"] false (cCons (cVar 0) (M.ret []))) (cCons (cMk "InUse" ["kind", "name"] false (cCons (cVar 0) (cCons (cVar 1) (M.ret [])))) (cCons (cMk "AlreadyWished" ["instance"] false (cCons (cVar 0) (M.ret []))) (M.ret [])))))
    (cSeq (cPar2 13 14 (cCons (cMk "LostRoot" ["instance"] false (cCons (cVar 0) (M.ret []))) (cCons (cMk "TaskEnded" ["task"] false (cCons (cVar 0) (M.ret []))) (M.ret []))))
    (cSeq (cAsg (cOp2 gAdd2 (cVar 2) (cLst (cCons (cXv xdTL "name" (cVar 10)) (cCons (cXv xdTL "kind" (cVar 11)) (cCons (cXv xdTL "name" (cVar 11)) (cCons (cXv xdTL "instance" (cVar 12)) (cCons (cXv xdTL "instance" (cVar 13)) (cCons (cXv xdTL "task" (cVar 14)) (M.ret []))))))))) (gN 2))
    (cSeq (cPar3 15 16 17 (cCons (cMk "NothingToUndo" ["count"] false (cCons (cVar 0) (M.ret []))) (cCons (cMk "RunFailed" ["position", "results"] false (cCons (cVar 0) (cCons (cVar 1) (M.ret [])))) (cCons (cMk "TooMany" ["kind", "limit"] false (cCons (cVar 0) (cCons (cVar 1) (M.ret [])))) (M.ret [])))))
    (cSeq (cRet (cOp2 gAdd2 (cVar 2) (cLst (cCons (cXv xdTL "count" (cVar 15)) (cCons (cXv xdTL "position" (cVar 16)) (cCons (cXv xdTL "results" (cVar 16)) (cCons (cXv xdTL "kind" (cVar 17)) (cCons (cXv xdTL "limit" (cVar 17)) (cCons (cXv xdTL "limit" (cMk "TooManySteps" ["limit"] false (cCons (cVar 0) (M.ret [])))) (M.ret []))))))))))
    (M.ret .next))))))))))))
def F__law_told : Fn := runF 19 b__law_told
abbrev st__law_due : Stmt := top 54
def b__law_due : M Fl := (cSeq (cAsg (cOp2 gAdd2 (cOp2 gAdd2 (cOp2 gMul2 (cLst (cCons (cVar 0) (M.ret []))) (cC (.int 20))) (cLst (cCons (cVar 0) (cCons (cVar 0) (cCons (cVar 0) (cCons (cVar 1) (cCons (cVar 0) (cCons (cVar 1) (M.ret []))))))))) (cOp2 gMul2 (cLst (cCons (cVar 0) (M.ret []))) (cC (.int 5)))) (gN 2))
    (cSeq (cRet (cOp2 gAdd2 (cOp2 gAdd2 (cVar 2) (cLst (cCons (cVar 0) (cCons (cVar 0) (cCons (cVar 1) (cCons (cVar 0) (cCons (cVar 0) (cCons (cVar 0) (M.ret []))))))))) (cLst (cCons (cVar 0) (cCons (cVar 0) (cCons (cVar 1) (cCons (cVar 0) (cCons (cVar 1) (cCons (cVar 0) (M.ret []))))))))))
    (M.ret .next)))
def F__law_due : Fn := runF 3 b__law_due
abbrev st__law_named_right : Stmt := top 55
def x__law_named_right_1 : M W := (cLc (M.bind (cVar 4) W.items) [9] (gN 9) (M.ret true) (cXv xdTL "value" (cVar 9)))
def x__law_named_right_2 : M W := (cLc (M.bind (cVar 5) W.items) [9] (gN 9) (M.ret true) (cXv xdTL "value" (cVar 9)))
def x__law_named_right_3 : M W := (cLc (M.bind (cVar 2) W.items) [9] (gN 9) (M.ret true) (cLst (cCons (cXv xdTL "problem" (cVar 9)) (cCons (cXv xdTL "position" (cVar 9)) (M.ret [])))))
def b__law_named_right : M Fl := (cSeq (cAsg (cLst (cCons (cMk "InvalidCatalog" ["problem", "position"] true (cCons (cVar 1) (cCons (cVar 0) (M.ret [])))) (cCons (cMk "InvalidProgram" ["problem", "position"] true (cCons (cVar 1) (cCons (cVar 0) (M.ret [])))) (M.ret [])))) (gN 2))
    (cSeq (cIfS (M.bl (cOp2 gNe (cCallP gRepr (cCons x__law_named_right_3 (M.ret []))) (cCallP gRepr (cCons (cLst (cCons (cLst (cCons (cVar 0) (cCons (cVar 1) (M.ret [])))) (cCons (cLst (cCons (cVar 0) (cCons (cVar 1) (M.ret [])))) (M.ret [])))) (M.ret []))))) (cSeq (cRet (cC (.bl false)))
    (M.ret .next)) (M.ret .next))
    (cSeq (cPar3 6 7 8 (cCons (cMk "InUse" ["kind", "name"] true (cCons (cVar 1) (cCons (cVar 0) (M.ret [])))) (cCons (cMk "RunFailed" ["position", "results"] true (cCons (cVar 1) (cCons (cVar 0) (M.ret [])))) (cCons (cMk "TooMany" ["kind", "limit"] true (cCons (cVar 1) (cCons (cVar 0) (M.ret [])))) (M.ret [])))))
    (cSeq (cAsg (cLst (cCons (cXv xdTL "kind" (cVar 6)) (cCons (cXv xdTL "name" (cVar 6)) (cCons (cXv xdTL "position" (cVar 7)) (cCons (cXv xdTL "results" (cVar 7)) (cCons (cXv xdTL "kind" (cVar 8)) (cCons (cXv xdTL "limit" (cVar 8)) (cCons (cXv xdTL "profile" (cMk "NoShape" ["profile"] true (cCons (cVar 0) (M.ret [])))) (M.ret []))))))))) (gN 3))
    (cSeq (cAsg (cOp2 gAdd2 (cVar 3) (cLst (cCons (cXv xdTL "instance" (cMk "NotBuilt" ["instance"] true (cCons (cVar 0) (M.ret [])))) (cCons (cXv xdTL "line" (cMk "InvalidText" ["line"] true (cCons (cVar 0) (M.ret [])))) (cCons (cXv xdTL "command" (cMk "InvalidCommand" ["command"] true (cCons (cVar 0) (M.ret [])))) (M.ret [])))))) (gN 3))
    (cSeq (cIfS (M.bl (cOp2 gNe (cCallP gRepr (cCons (cVar 3) (M.ret []))) (cCallP gRepr (cCons (cOp2 gAdd2 (cOp2 gMul2 (cLst (cCons (cVar 0) (cCons (cVar 1) (M.ret [])))) (cC (.int 3))) (cOp2 gMul2 (cLst (cCons (cVar 0) (M.ret []))) (cC (.int 4)))) (M.ret []))))) (cSeq (cRet (cC (.bl false)))
    (M.ret .next)) (M.ret .next))
    (cSeq (cAsg (cLst (cCons (cMk "InvalidName" ["value"] true (cCons (cVar 0) (M.ret []))) (cCons (cMk "InvalidCount" ["value"] true (cCons (cVar 0) (M.ret []))) (cCons (cMk "InvalidShape" ["value"] true (cCons (cVar 0) (M.ret []))) (cCons (cMk "InvalidPattern" ["value"] true (cCons (cVar 0) (M.ret []))) (M.ret [])))))) (gN 4))
    (cSeq (cAsg (cOp2 gAdd2 (cVar 4) (cLst (cCons (cMk "InvalidAnswer" ["value"] true (cCons (cVar 0) (M.ret []))) (cCons (cMk "InvalidRule" ["value"] true (cCons (cVar 0) (M.ret []))) (cCons (cMk "InvalidAnswers" ["value"] true (cCons (cVar 0) (M.ret []))) (M.ret [])))))) (gN 4))
    (cSeq (cAsg (cOp2 gAdd2 (cVar 4) (cLst (cCons (cMk "InvalidFunction" ["value"] true (cCons (cVar 0) (M.ret []))) (cCons (cMk "InvalidInstance" ["value"] true (cCons (cVar 0) (M.ret []))) (cCons (cMk "InvalidKey" ["value"] true (cCons (cVar 0) (M.ret []))) (M.ret [])))))) (gN 4))
    (cSeq (cAsg (cLst (cCons (cMk "InvalidArguments" ["value"] true (cCons (cVar 0) (M.ret []))) (cCons (cMk "UnknownQuestion" ["value"] true (cCons (cVar 0) (M.ret []))) (cCons (cMk "UnknownBase" ["value"] true (cCons (cVar 0) (M.ret []))) (M.ret []))))) (gN 5))
    (cSeq (cAsg (cOp2 gAdd2 (cVar 5) (cLst (cCons (cMk "UnknownConstructor" ["value"] true (cCons (cVar 0) (M.ret []))) (cCons (cMk "UnknownFunction" ["value"] true (cCons (cVar 0) (M.ret []))) (cCons (cMk "UnknownKind" ["value"] true (cCons (cVar 0) (M.ret []))) (M.ret [])))))) (gN 5))
    (cSeq (cAsg (cOp2 gAdd2 (cVar 5) (cLst (cCons (cMk "UnknownSite" ["value"] true (cCons (cVar 0) (M.ret []))) (cCons (cMk "UnknownCopy" ["value"] true (cCons (cVar 0) (M.ret []))) (cCons (cMk "UnknownTask" ["value"] true (cCons (cVar 0) (M.ret []))) (cCons (cMk "NotWished" ["value"] true (cCons (cVar 0) (M.ret []))) (M.ret []))))))) (gN 5))
    (cSeq (cAsg (cOp2 gAdd2 x__law_named_right_1 x__law_named_right_2) (gN 3))
    (cSeq (cAsg (cOp2 gAdd2 (cVar 3) (cLst (cCons (cXv xdTL "position" (cMk "InvalidReads" ["position"] true (cCons (cVar 0) (M.ret [])))) (cCons (cXv xdTL "key" (cMk "InvalidRows" ["key"] true (cCons (cVar 0) (M.ret [])))) (cCons (cXv xdTL "position" (cMk "InvalidEdit" ["position"] true (cCons (cVar 0) (M.ret [])))) (M.ret [])))))) (gN 3))
    (cSeq (cAsg (cOp2 gAdd2 (cVar 3) (cLst (cCons (cXv xdTL "name" (cMk "NameTaken" ["name"] true (cCons (cVar 0) (M.ret [])))) (cCons (cXv xdTL "instance" (cMk "AlreadyWished" ["instance"] true (cCons (cVar 0) (M.ret [])))) (cCons (cXv xdTL "instance" (cMk "LostRoot" ["instance"] true (cCons (cVar 0) (M.ret [])))) (M.ret [])))))) (gN 3))
    (cSeq (cAsg (cOp2 gAdd2 (cVar 3) (cLst (cCons (cXv xdTL "task" (cMk "TaskEnded" ["task"] true (cCons (cVar 0) (M.ret [])))) (cCons (cXv xdTL "count" (cMk "NothingToUndo" ["count"] true (cCons (cVar 0) (M.ret [])))) (cCons (cXv xdTL "limit" (cMk "TooManySteps" ["limit"] true (cCons (cVar 0) (M.ret [])))) (M.ret [])))))) (gN 3))
    (cSeq (cRet (cOp2 gEq (cCallP gRepr (cCons (cVar 3) (M.ret []))) (cCallP gRepr (cCons (cOp2 gMul2 (cLst (cCons (cVar 0) (M.ret []))) (cC (.int 29))) (M.ret [])))))
    (M.ret .next))))))))))))))))))
def F__law_named_right : Fn := runF 10 b__law_named_right
abbrev st__law_groups_right : Stmt := top 56
def x__law_groups_right_1 : M W := (cLc (M.bind (cVar 2) W.items) [3] (gN 3) (M.ret true) (cOp2 gEq (cCall F__law_groups (cCons (cVar 3) (M.ret []))) (cLst (cCons (cC (.bl false)) (cCons (cC (.bl false)) (cCons (cC (.bl false)) (cCons (cC (.bl true)) (cCons (cC (.bl false)) (cCons (cC (.bl false)) (cCons (cC (.bl false)) (cCons (cC (.bl true)) (cCons (cC (.bl false)) (M.ret [])))))))))))))
def x__law_groups_right_2 : M W := (cLc (M.bind (cVar 2) W.items) [3] (gN 3) (M.ret true) (cOp2 gEq (cCall F__law_groups (cCons (cVar 3) (M.ret []))) (cLst (cCons (cC (.bl false)) (cCons (cC (.bl false)) (cCons (cC (.bl true)) (cCons (cC (.bl false)) (cCons (cC (.bl false)) (cCons (cC (.bl false)) (cCons (cC (.bl true)) (cCons (cC (.bl false)) (cCons (cC (.bl false)) (M.ret [])))))))))))))
def x__law_groups_right_3 : M W := (cLc (M.bind (cVar 2) W.items) [3] (gN 3) (M.ret true) (cOp2 gEq (cCall F__law_groups (cCons (cVar 3) (M.ret []))) (cLst (cCons (cC (.bl false)) (cCons (cC (.bl true)) (cCons (cC (.bl false)) (cCons (cC (.bl false)) (cCons (cC (.bl false)) (cCons (cC (.bl true)) (cCons (cC (.bl false)) (cCons (cC (.bl false)) (cCons (cC (.bl false)) (M.ret [])))))))))))))
def x__law_groups_right_4 : M W := (cLc (M.bind (cVar 2) W.items) [3] (gN 3) (M.ret true) (cOp2 gEq (cCall F__law_groups (cCons (cVar 3) (M.ret []))) (cLst (cCons (cC (.bl true)) (cCons (cC (.bl false)) (cCons (cC (.bl false)) (cCons (cC (.bl false)) (cCons (cC (.bl true)) (cCons (cC (.bl false)) (cCons (cC (.bl false)) (cCons (cC (.bl false)) (cCons (cC (.bl false)) (M.ret [])))))))))))))
def b__law_groups_right : M Fl := (cSeq (cAsg (cOp2 gAdd2 (cCall F__law_value_errors (cCons (cVar 0) (M.ret []))) (cCall F__law_other_errors (cCons (cVar 0) (cCons (cVar 1) (M.ret []))))) (gN 2))
    (cSeq (cIfS (cNotT (cTru (cCallP gAll (cCons x__law_groups_right_4 (M.ret []))))) (cSeq (cRet (cC (.bl false)))
    (M.ret .next)) (M.ret .next))
    (cSeq (cAsg (cOp2 gAdd2 (cCall F__law_missing_errors (cCons (cVar 0) (M.ret []))) (cCall F__law_late_errors (cCons (cVar 0) (M.ret [])))) (gN 2))
    (cSeq (cIfS (cNotT (cTru (cCallP gAll (cCons x__law_groups_right_3 (M.ret []))))) (cSeq (cRet (cC (.bl false)))
    (M.ret .next)) (M.ret .next))
    (cSeq (cAsg (cCall F__law_state_errors (cCons (cVar 0) (cCons (cVar 1) (M.ret [])))) (gN 2))
    (cSeq (cIfS (cNotT (cTru (cCallP gAll (cCons x__law_groups_right_2 (M.ret []))))) (cSeq (cRet (cC (.bl false)))
    (M.ret .next)) (M.ret .next))
    (cSeq (cAsg (cLst (cCons (cMk "TooMany" ["kind", "limit"] false (cCons (cVar 0) (cCons (cVar 1) (M.ret [])))) (cCons (cMk "TooManySteps" ["limit"] false (cCons (cVar 0) (M.ret []))) (M.ret [])))) (gN 2))
    (cSeq (cRet (cCallP gAll (cCons x__law_groups_right_1 (M.ret []))))
    (M.ret .next)))))))))
def F__law_groups_right : Fn := runF 4 b__law_groups_right
abbrev st__law_value_flags : Stmt := top 57
def b__law_value_flags : M Fl := (cSeq (cAsg (cLst (cCons (cCallP (gIsi2 xdTL isaT) (cCons (cVar 0) (cCons (cC (.cls "InvalidName")) (M.ret [])))) (cCons (cCallP (gIsi2 xdTL isaT) (cCons (cVar 0) (cCons (cC (.cls "InvalidCount")) (M.ret [])))) (cCons (cCallP (gIsi2 xdTL isaT) (cCons (cVar 0) (cCons (cC (.cls "InvalidShape")) (M.ret [])))) (M.ret []))))) (gN 1))
    (cSeq (cAsg (cOp2 gAdd2 (cVar 1) (cLst (cCons (cCallP (gIsi2 xdTL isaT) (cCons (cVar 0) (cCons (cC (.cls "InvalidPattern")) (M.ret [])))) (cCons (cCallP (gIsi2 xdTL isaT) (cCons (cVar 0) (cCons (cC (.cls "InvalidAnswer")) (M.ret [])))) (cCons (cCallP (gIsi2 xdTL isaT) (cCons (cVar 0) (cCons (cC (.cls "InvalidRule")) (M.ret [])))) (M.ret [])))))) (gN 1))
    (cSeq (cAsg (cOp2 gAdd2 (cVar 1) (cLst (cCons (cCallP (gIsi2 xdTL isaT) (cCons (cVar 0) (cCons (cC (.cls "InvalidAnswers")) (M.ret [])))) (cCons (cCallP (gIsi2 xdTL isaT) (cCons (cVar 0) (cCons (cC (.cls "InvalidFunction")) (M.ret [])))) (cCons (cCallP (gIsi2 xdTL isaT) (cCons (cVar 0) (cCons (cC (.cls "InvalidInstance")) (M.ret [])))) (M.ret [])))))) (gN 1))
    (cSeq (cAsg (cOp2 gAdd2 (cVar 1) (cLst (cCons (cCallP (gIsi2 xdTL isaT) (cCons (cVar 0) (cCons (cC (.cls "InvalidKey")) (M.ret [])))) (cCons (cCallP (gIsi2 xdTL isaT) (cCons (cVar 0) (cCons (cC (.cls "InvalidArguments")) (M.ret [])))) (cCons (cCallP (gIsi2 xdTL isaT) (cCons (cVar 0) (cCons (cC (.cls "InvalidReads")) (M.ret [])))) (M.ret [])))))) (gN 1))
    (cSeq (cAsg (cOp2 gAdd2 (cVar 1) (cLst (cCons (cCallP (gIsi2 xdTL isaT) (cCons (cVar 0) (cCons (cC (.cls "InvalidRows")) (M.ret [])))) (cCons (cCallP (gIsi2 xdTL isaT) (cCons (cVar 0) (cCons (cC (.cls "InvalidCatalog")) (M.ret [])))) (cCons (cCallP (gIsi2 xdTL isaT) (cCons (cVar 0) (cCons (cC (.cls "InvalidProgram")) (M.ret [])))) (M.ret [])))))) (gN 1))
    (cSeq (cRet (cOp2 gAdd2 (cVar 1) (cLst (cCons (cCallP (gIsi2 xdTL isaT) (cCons (cVar 0) (cCons (cC (.cls "InvalidEdit")) (M.ret [])))) (cCons (cCallP (gIsi2 xdTL isaT) (cCons (cVar 0) (cCons (cC (.cls "InvalidText")) (M.ret [])))) (cCons (cCallP (gIsi2 xdTL isaT) (cCons (cVar 0) (cCons (cC (.cls "InvalidCommand")) (M.ret [])))) (M.ret [])))))))
    (M.ret .next)))))))
def F__law_value_flags : Fn := runF 2 b__law_value_flags
abbrev st__law_missing_flags : Stmt := top 58
def b__law_missing_flags : M Fl := (cSeq (cAsg (cLst (cCons (cCallP (gIsi2 xdTL isaT) (cCons (cVar 0) (cCons (cC (.cls "UnknownQuestion")) (M.ret [])))) (cCons (cCallP (gIsi2 xdTL isaT) (cCons (cVar 0) (cCons (cC (.cls "UnknownBase")) (M.ret [])))) (cCons (cCallP (gIsi2 xdTL isaT) (cCons (cVar 0) (cCons (cC (.cls "UnknownConstructor")) (M.ret [])))) (M.ret []))))) (gN 1))
    (cSeq (cAsg (cOp2 gAdd2 (cVar 1) (cLst (cCons (cCallP (gIsi2 xdTL isaT) (cCons (cVar 0) (cCons (cC (.cls "UnknownFunction")) (M.ret [])))) (cCons (cCallP (gIsi2 xdTL isaT) (cCons (cVar 0) (cCons (cC (.cls "UnknownKind")) (M.ret [])))) (cCons (cCallP (gIsi2 xdTL isaT) (cCons (cVar 0) (cCons (cC (.cls "UnknownSite")) (M.ret [])))) (M.ret [])))))) (gN 1))
    (cSeq (cAsg (cOp2 gAdd2 (cVar 1) (cLst (cCons (cCallP (gIsi2 xdTL isaT) (cCons (cVar 0) (cCons (cC (.cls "UnknownCopy")) (M.ret [])))) (cCons (cCallP (gIsi2 xdTL isaT) (cCons (cVar 0) (cCons (cC (.cls "UnknownTask")) (M.ret [])))) (cCons (cCallP (gIsi2 xdTL isaT) (cCons (cVar 0) (cCons (cC (.cls "NotWished")) (M.ret [])))) (M.ret [])))))) (gN 1))
    (cSeq (cRet (cOp2 gAdd2 (cVar 1) (cLst (cCons (cCallP (gIsi2 xdTL isaT) (cCons (cVar 0) (cCons (cC (.cls "NotBuilt")) (M.ret [])))) (cCons (cCallP (gIsi2 xdTL isaT) (cCons (cVar 0) (cCons (cC (.cls "NoShape")) (M.ret [])))) (M.ret []))))))
    (M.ret .next)))))
def F__law_missing_flags : Fn := runF 2 b__law_missing_flags
abbrev st__law_state_flags : Stmt := top 59
def b__law_state_flags : M Fl := (cSeq (cAsg (cLst (cCons (cCallP (gIsi2 xdTL isaT) (cCons (cVar 0) (cCons (cC (.cls "NameTaken")) (M.ret [])))) (cCons (cCallP (gIsi2 xdTL isaT) (cCons (cVar 0) (cCons (cC (.cls "InUse")) (M.ret [])))) (cCons (cCallP (gIsi2 xdTL isaT) (cCons (cVar 0) (cCons (cC (.cls "AlreadyWished")) (M.ret [])))) (cCons (cCallP (gIsi2 xdTL isaT) (cCons (cVar 0) (cCons (cC (.cls "LostRoot")) (M.ret [])))) (M.ret [])))))) (gN 1))
    (cSeq (cRet (cOp2 gAdd2 (cVar 1) (cLst (cCons (cCallP (gIsi2 xdTL isaT) (cCons (cVar 0) (cCons (cC (.cls "TaskEnded")) (M.ret [])))) (cCons (cCallP (gIsi2 xdTL isaT) (cCons (cVar 0) (cCons (cC (.cls "NothingToUndo")) (M.ret [])))) (cCons (cCallP (gIsi2 xdTL isaT) (cCons (cVar 0) (cCons (cC (.cls "RunFailed")) (M.ret [])))) (M.ret [])))))))
    (M.ret .next)))
def F__law_state_flags : Fn := runF 2 b__law_state_flags
abbrev st__law_is_diagonal : Stmt := top 60
def x__law_is_diagonal_1 : M W := (cLc (M.bind (cCons (cCallP gLen (cCons (cVar 0) (M.ret []))) (M.ret [])) W.rng1) [2] (gN 2) (M.ret true) (cOp2 gEq (cVar 1) (cVar 2)))
def x__law_is_diagonal_2 : M W := (cLc (M.bind (cCons (cCallP gLen (cCons (cVar 0) (M.ret []))) (M.ret [])) W.rng1) [1] (gN 1) (M.ret true) x__law_is_diagonal_1)
def b__law_is_diagonal : M Fl := (cSeq (cRet (cOp2 gEq (cVar 0) x__law_is_diagonal_2))
    (M.ret .next))
def F__law_is_diagonal : Fn := runF 3 b__law_is_diagonal
abbrev st__law_apart_right : Stmt := top 61
def x__law_apart_right_1 : M W := (cLc (M.bind (cCall F__law_state_errors (cCons (cVar 0) (cCons (cVar 1) (M.ret [])))) W.items) [3] (gN 3) (M.ret true) (cCall F__law_state_flags (cCons (cVar 3) (M.ret []))))
def x__law_apart_right_2 : M W := (cLc (M.bind (cOp2 gAdd2 (cCall F__law_missing_errors (cCons (cVar 0) (M.ret []))) (cCall F__law_late_errors (cCons (cVar 0) (M.ret [])))) W.items) [3] (gN 3) (M.ret true) (cCall F__law_missing_flags (cCons (cVar 3) (M.ret []))))
def x__law_apart_right_3 : M W := (cLc (M.bind (cOp2 gAdd2 (cCall F__law_value_errors (cCons (cVar 0) (M.ret []))) (cCall F__law_other_errors (cCons (cVar 0) (cCons (cVar 1) (M.ret []))))) W.items) [3] (gN 3) (M.ret true) (cCall F__law_value_flags (cCons (cVar 3) (M.ret []))))
def b__law_apart_right : M Fl := (cSeq (cAsg x__law_apart_right_3 (gN 2))
    (cSeq (cIfS (cNotT (cTru (cCall F__law_is_diagonal (cCons (cVar 2) (M.ret []))))) (cSeq (cRet (cC (.bl false)))
    (M.ret .next)) (M.ret .next))
    (cSeq (cAsg x__law_apart_right_2 (gN 2))
    (cSeq (cIfS (cOrT (cNotT (cTru (cCall F__law_is_diagonal (cCons (cVar 2) (M.ret []))))) (cNotT (cTru (cCall F__law_is_diagonal (cCons x__law_apart_right_1 (M.ret [])))))) (cSeq (cRet (cC (.bl false)))
    (M.ret .next)) (M.ret .next))
    (cSeq (cRet (cAnd (cNot (cCallP (gIsi2 xdTL isaT) (cCons (cMk "TooManySteps" ["limit"] false (cCons (cVar 0) (M.ret []))) (cCons (cC (.cls "TooMany")) (M.ret []))))) (cNot (cCallP (gIsi2 xdTL isaT) (cCons (cMk "TooMany" ["kind", "limit"] false (cCons (cVar 0) (cCons (cVar 1) (M.ret [])))) (cCons (cC (.cls "TooManySteps")) (M.ret [])))))))
    (M.ret .next))))))
def F__law_apart_right : Fn := runF 4 b__law_apart_right
abbrev st__law_right : Stmt := top 62
def b__law_right : M Fl := (cSeq (cAsg (cLst (cCons (cC .non) (cCons (cC (.int 0)) (cCons (cC (.int 1)) (cCons (cC (.bl true)) (cCons (cC (.str "")) (cCons (cC (.str "a")) (cCons (cTup (cCons (cC (.str "a")) (M.ret []))) (cCons (cLst (cCons (cC (.str "a")) (M.ret []))) (cCons cDct0 (cCons (cTup (cCons (cC (.str "show")) (cCons (cTup (cCons (cC (.str "int")) (M.ret []))) (M.ret [])))) (cCons (cOp2 gPow (cC (.int 10)) (cC (.int 25))) (cCons (cOp1 gNeg (cC (.int 1))) (cCons (cTup (cCons (cTup (cCons (cC (.str "a")) (cCons (cC (.int 0)) (M.ret [])))) (cCons (cTup (cCons (cC (.int 1)) (cCons (cC (.int 2)) (M.ret [])))) (M.ret [])))) (M.ret []))))))))))))))) (gN 1))
    (cSeq (cPar2 2 3 (cCons (cCall F__law_choice (cCons (cVar 0) (cCons (cVar 1) (M.ret [])))) (cCons (cCall F__law_choice (cCons (cVar 0) (cCons (cVar 1) (M.ret [])))) (M.ret []))))
    (cSeq (cIfS (cOrT (M.bl (cOp2 gNe (cCallP gRepr (cCons (cCall F__law_told (cCons (cVar 2) (cCons (cVar 3) (M.ret [])))) (M.ret []))) (cCallP gRepr (cCons (cCall F__law_due (cCons (cVar 2) (cCons (cVar 3) (M.ret [])))) (M.ret []))))) (cNotT (cTru (cCall F__law_named_right (cCons (cVar 2) (cCons (cVar 3) (M.ret []))))))) (cSeq (cRet (cC (.bl false)))
    (M.ret .next)) (M.ret .next))
    (cSeq (cRet (cAnd (cCall F__law_groups_right (cCons (cVar 2) (cCons (cVar 3) (M.ret [])))) (cCall F__law_apart_right (cCons (cVar 2) (cCons (cVar 3) (M.ret []))))))
    (M.ret .next)))))
def F__law_right : Fn := runF 4 b__law_right
abbrev st_law : Stmt := top 63
def x_law_1 : M W := (cLc (M.bind (cCons (cCallP gMaxL (cCons (cC (.int 1)) (cCons (cCallP gMin (cCons (cC (.int 4)) (cCons (cCallP gLen (cCons (cVar 0) (M.ret []))) (M.ret [])))) (M.ret [])))) (M.ret [])) W.rng1) [1] (gN 1) (M.ret true) (cCall F__law_right (cCons (cCall F__law_rng (cCons (cVar 0) (cCons (cVar 1) (M.ret [])))) (M.ret []))))
def b_law : M Fl := (cSeq (cRet (cCallP gAll (cCons x_law_1 (M.ret []))))
    (M.ret .next))
def F_law : Fn := runF 2 b_law
end
end Lw

set_option Elab.async false
set_option maxRecDepth 100000
set_option maxHeartbeats 4000000
set_option linter.unusedVariables false
namespace Lw
open PySem L2 Lc PySem.Spec PyProof.Rows He
section
variable {P : Program} {w : World} {K : PySem.W.Frag} {mg : Str → Option Value} {base : Heap} {f : Addr} {fd : FuncData}
theorem xc_InvalidArguments (ev : EnvE P K mg fileS clsN isaT catT xdL) : Xc P K mg "InvalidArguments" ["value"] := xc_of ev (i := 0) (j := 4) (d := xd_InvalidArguments) rfl rfl fun h1 h2 => .inl ⟨_, rfl, ⟨_, _, _, _, _, _, _, _, _, _, _, _, _, _, rfl, rfl, rfl, fun a us pos kw nm qual doc pm an cdv ct cc hl hb => match us, hl with | [_], _ => by rcases hb with ⟨rfl, rfl⟩ | ⟨rfl, rfl⟩ <;> rfl, by decide +kernel, rfl, rfl, rfl, rfl, fun _ => ⟨_, rfl⟩, fun _ => rfl⟩, ⟨h1, h2, rfl, rfl, rfl, by decide +kernel, rfl, rfl⟩⟩
theorem xc_InvalidKey (ev : EnvE P K mg fileS clsN isaT catT xdL) : Xc P K mg "InvalidKey" ["value"] := xc_of ev (i := 1) (j := 5) (d := xd_InvalidKey) rfl rfl fun h1 h2 => .inl ⟨_, rfl, ⟨_, _, _, _, _, _, _, _, _, _, _, _, _, _, rfl, rfl, rfl, fun a us pos kw nm qual doc pm an cdv ct cc hl hb => match us, hl with | [_], _ => by rcases hb with ⟨rfl, rfl⟩ | ⟨rfl, rfl⟩ <;> rfl, by decide +kernel, rfl, rfl, rfl, rfl, fun _ => ⟨_, rfl⟩, fun _ => rfl⟩, ⟨h1, h2, rfl, rfl, rfl, by decide +kernel, rfl, rfl⟩⟩
theorem xc_InvalidInstance (ev : EnvE P K mg fileS clsN isaT catT xdL) : Xc P K mg "InvalidInstance" ["value"] := xc_of ev (i := 2) (j := 6) (d := xd_InvalidInstance) rfl rfl fun h1 h2 => .inl ⟨_, rfl, ⟨_, _, _, _, _, _, _, _, _, _, _, _, _, _, rfl, rfl, rfl, fun a us pos kw nm qual doc pm an cdv ct cc hl hb => match us, hl with | [_], _ => by rcases hb with ⟨rfl, rfl⟩ | ⟨rfl, rfl⟩ <;> rfl, by decide +kernel, rfl, rfl, rfl, rfl, fun _ => ⟨_, rfl⟩, fun _ => rfl⟩, ⟨h1, h2, rfl, rfl, rfl, by decide +kernel, rfl, rfl⟩⟩
theorem xc_InvalidFunction (ev : EnvE P K mg fileS clsN isaT catT xdL) : Xc P K mg "InvalidFunction" ["value"] := xc_of ev (i := 3) (j := 7) (d := xd_InvalidFunction) rfl rfl fun h1 h2 => .inl ⟨_, rfl, ⟨_, _, _, _, _, _, _, _, _, _, _, _, _, _, rfl, rfl, rfl, fun a us pos kw nm qual doc pm an cdv ct cc hl hb => match us, hl with | [_], _ => by rcases hb with ⟨rfl, rfl⟩ | ⟨rfl, rfl⟩ <;> rfl, by decide +kernel, rfl, rfl, rfl, rfl, fun _ => ⟨_, rfl⟩, fun _ => rfl⟩, ⟨h1, h2, rfl, rfl, rfl, by decide +kernel, rfl, rfl⟩⟩
theorem xc_InvalidAnswers (ev : EnvE P K mg fileS clsN isaT catT xdL) : Xc P K mg "InvalidAnswers" ["value"] := xc_of ev (i := 4) (j := 8) (d := xd_InvalidAnswers) rfl rfl fun h1 h2 => .inl ⟨_, rfl, ⟨_, _, _, _, _, _, _, _, _, _, _, _, _, _, rfl, rfl, rfl, fun a us pos kw nm qual doc pm an cdv ct cc hl hb => match us, hl with | [_], _ => by rcases hb with ⟨rfl, rfl⟩ | ⟨rfl, rfl⟩ <;> rfl, by decide +kernel, rfl, rfl, rfl, rfl, fun _ => ⟨_, rfl⟩, fun _ => rfl⟩, ⟨h1, h2, rfl, rfl, rfl, by decide +kernel, rfl, rfl⟩⟩
theorem xc_InvalidRule (ev : EnvE P K mg fileS clsN isaT catT xdL) : Xc P K mg "InvalidRule" ["value"] := xc_of ev (i := 5) (j := 9) (d := xd_InvalidRule) rfl rfl fun h1 h2 => .inl ⟨_, rfl, ⟨_, _, _, _, _, _, _, _, _, _, _, _, _, _, rfl, rfl, rfl, fun a us pos kw nm qual doc pm an cdv ct cc hl hb => match us, hl with | [_], _ => by rcases hb with ⟨rfl, rfl⟩ | ⟨rfl, rfl⟩ <;> rfl, by decide +kernel, rfl, rfl, rfl, rfl, fun _ => ⟨_, rfl⟩, fun _ => rfl⟩, ⟨h1, h2, rfl, rfl, rfl, by decide +kernel, rfl, rfl⟩⟩
theorem xc_InvalidAnswer (ev : EnvE P K mg fileS clsN isaT catT xdL) : Xc P K mg "InvalidAnswer" ["value"] := xc_of ev (i := 6) (j := 10) (d := xd_InvalidAnswer) rfl rfl fun h1 h2 => .inl ⟨_, rfl, ⟨_, _, _, _, _, _, _, _, _, _, _, _, _, _, rfl, rfl, rfl, fun a us pos kw nm qual doc pm an cdv ct cc hl hb => match us, hl with | [_], _ => by rcases hb with ⟨rfl, rfl⟩ | ⟨rfl, rfl⟩ <;> rfl, by decide +kernel, rfl, rfl, rfl, rfl, fun _ => ⟨_, rfl⟩, fun _ => rfl⟩, ⟨h1, h2, rfl, rfl, rfl, by decide +kernel, rfl, rfl⟩⟩
theorem xc_InvalidPattern (ev : EnvE P K mg fileS clsN isaT catT xdL) : Xc P K mg "InvalidPattern" ["value"] := xc_of ev (i := 7) (j := 11) (d := xd_InvalidPattern) rfl rfl fun h1 h2 => .inl ⟨_, rfl, ⟨_, _, _, _, _, _, _, _, _, _, _, _, _, _, rfl, rfl, rfl, fun a us pos kw nm qual doc pm an cdv ct cc hl hb => match us, hl with | [_], _ => by rcases hb with ⟨rfl, rfl⟩ | ⟨rfl, rfl⟩ <;> rfl, by decide +kernel, rfl, rfl, rfl, rfl, fun _ => ⟨_, rfl⟩, fun _ => rfl⟩, ⟨h1, h2, rfl, rfl, rfl, by decide +kernel, rfl, rfl⟩⟩
theorem xc_InvalidShape (ev : EnvE P K mg fileS clsN isaT catT xdL) : Xc P K mg "InvalidShape" ["value"] := xc_of ev (i := 8) (j := 12) (d := xd_InvalidShape) rfl rfl fun h1 h2 => .inl ⟨_, rfl, ⟨_, _, _, _, _, _, _, _, _, _, _, _, _, _, rfl, rfl, rfl, fun a us pos kw nm qual doc pm an cdv ct cc hl hb => match us, hl with | [_], _ => by rcases hb with ⟨rfl, rfl⟩ | ⟨rfl, rfl⟩ <;> rfl, by decide +kernel, rfl, rfl, rfl, rfl, fun _ => ⟨_, rfl⟩, fun _ => rfl⟩, ⟨h1, h2, rfl, rfl, rfl, by decide +kernel, rfl, rfl⟩⟩
theorem xc_InvalidCount (ev : EnvE P K mg fileS clsN isaT catT xdL) : Xc P K mg "InvalidCount" ["value"] := xc_of ev (i := 9) (j := 13) (d := xd_InvalidCount) rfl rfl fun h1 h2 => .inl ⟨_, rfl, ⟨_, _, _, _, _, _, _, _, _, _, _, _, _, _, rfl, rfl, rfl, fun a us pos kw nm qual doc pm an cdv ct cc hl hb => match us, hl with | [_], _ => by rcases hb with ⟨rfl, rfl⟩ | ⟨rfl, rfl⟩ <;> rfl, by decide +kernel, rfl, rfl, rfl, rfl, fun _ => ⟨_, rfl⟩, fun _ => rfl⟩, ⟨h1, h2, rfl, rfl, rfl, by decide +kernel, rfl, rfl⟩⟩
theorem xc_InvalidName (ev : EnvE P K mg fileS clsN isaT catT xdL) : Xc P K mg "InvalidName" ["value"] := xc_of ev (i := 10) (j := 14) (d := xd_InvalidName) rfl rfl fun h1 h2 => .inl ⟨_, rfl, ⟨_, _, _, _, _, _, _, _, _, _, _, _, _, _, rfl, rfl, rfl, fun a us pos kw nm qual doc pm an cdv ct cc hl hb => match us, hl with | [_], _ => by rcases hb with ⟨rfl, rfl⟩ | ⟨rfl, rfl⟩ <;> rfl, by decide +kernel, rfl, rfl, rfl, rfl, fun _ => ⟨_, rfl⟩, fun _ => rfl⟩, ⟨h1, h2, rfl, rfl, rfl, by decide +kernel, rfl, rfl⟩⟩
theorem xc_InvalidCommand (ev : EnvE P K mg fileS clsN isaT catT xdL) : Xc P K mg "InvalidCommand" ["command"] := xc_of ev (i := 11) (j := 15) (d := xd_InvalidCommand) rfl rfl fun h1 h2 => .inl ⟨_, rfl, ⟨_, _, _, _, _, _, _, _, _, _, _, _, _, _, rfl, rfl, rfl, fun a us pos kw nm qual doc pm an cdv ct cc hl hb => match us, hl with | [_], _ => by rcases hb with ⟨rfl, rfl⟩ | ⟨rfl, rfl⟩ <;> rfl, by decide +kernel, rfl, rfl, rfl, rfl, fun _ => ⟨_, rfl⟩, fun _ => rfl⟩, ⟨h1, h2, rfl, rfl, rfl, by decide +kernel, rfl, rfl⟩⟩
theorem xc_InvalidText (ev : EnvE P K mg fileS clsN isaT catT xdL) : Xc P K mg "InvalidText" ["line"] := xc_of ev (i := 12) (j := 16) (d := xd_InvalidText) rfl rfl fun h1 h2 => .inl ⟨_, rfl, ⟨_, _, _, _, _, _, _, _, _, _, _, _, _, _, rfl, rfl, rfl, fun a us pos kw nm qual doc pm an cdv ct cc hl hb => match us, hl with | [_], _ => by rcases hb with ⟨rfl, rfl⟩ | ⟨rfl, rfl⟩ <;> rfl, by decide +kernel, rfl, rfl, rfl, rfl, fun _ => ⟨_, rfl⟩, fun _ => rfl⟩, ⟨h1, h2, rfl, rfl, rfl, by decide +kernel, rfl, rfl⟩⟩
theorem xc_InvalidEdit (ev : EnvE P K mg fileS clsN isaT catT xdL) : Xc P K mg "InvalidEdit" ["position"] := xc_of ev (i := 13) (j := 17) (d := xd_InvalidEdit) rfl rfl fun h1 h2 => .inl ⟨_, rfl, ⟨_, _, _, _, _, _, _, _, _, _, _, _, _, _, rfl, rfl, rfl, fun a us pos kw nm qual doc pm an cdv ct cc hl hb => match us, hl with | [_], _ => by rcases hb with ⟨rfl, rfl⟩ | ⟨rfl, rfl⟩ <;> rfl, by decide +kernel, rfl, rfl, rfl, rfl, fun _ => ⟨_, rfl⟩, fun _ => rfl⟩, ⟨h1, h2, rfl, rfl, rfl, by decide +kernel, rfl, rfl⟩⟩
theorem xc_InvalidProgram (ev : EnvE P K mg fileS clsN isaT catT xdL) : Xc P K mg "InvalidProgram" ["problem", "position"] := xc_of ev (i := 14) (j := 18) (d := xd_InvalidProgram) rfl rfl fun h1 h2 => .inr ⟨_, _, rfl, ⟨_, _, _, _, _, _, _, _, _, _, _, _, _, _, _, _, _, _, rfl, rfl, rfl, fun a us pos kw nm qual doc pm an cdv ct cc hl hb => match us, hl with | [_, _], _ => by rcases hb with ⟨rfl, rfl⟩ | ⟨rfl, rfl⟩ <;> rfl, by decide +kernel, by decide +kernel, by decide +kernel, rfl, rfl, rfl, rfl, rfl, rfl, fun _ => ⟨_, rfl⟩, fun _ => rfl, fun _ => rfl⟩, ⟨h1, h2, rfl, rfl, rfl, by decide +kernel, rfl, rfl⟩⟩
theorem xc_InvalidCatalog (ev : EnvE P K mg fileS clsN isaT catT xdL) : Xc P K mg "InvalidCatalog" ["problem", "position"] := xc_of ev (i := 15) (j := 19) (d := xd_InvalidCatalog) rfl rfl fun h1 h2 => .inr ⟨_, _, rfl, ⟨_, _, _, _, _, _, _, _, _, _, _, _, _, _, _, _, _, _, rfl, rfl, rfl, fun a us pos kw nm qual doc pm an cdv ct cc hl hb => match us, hl with | [_, _], _ => by rcases hb with ⟨rfl, rfl⟩ | ⟨rfl, rfl⟩ <;> rfl, by decide +kernel, by decide +kernel, by decide +kernel, rfl, rfl, rfl, rfl, rfl, rfl, fun _ => ⟨_, rfl⟩, fun _ => rfl, fun _ => rfl⟩, ⟨h1, h2, rfl, rfl, rfl, by decide +kernel, rfl, rfl⟩⟩
theorem xc_InvalidRows (ev : EnvE P K mg fileS clsN isaT catT xdL) : Xc P K mg "InvalidRows" ["key"] := xc_of ev (i := 16) (j := 20) (d := xd_InvalidRows) rfl rfl fun h1 h2 => .inl ⟨_, rfl, ⟨_, _, _, _, _, _, _, _, _, _, _, _, _, _, rfl, rfl, rfl, fun a us pos kw nm qual doc pm an cdv ct cc hl hb => match us, hl with | [_], _ => by rcases hb with ⟨rfl, rfl⟩ | ⟨rfl, rfl⟩ <;> rfl, by decide +kernel, rfl, rfl, rfl, rfl, fun _ => ⟨_, rfl⟩, fun _ => rfl⟩, ⟨h1, h2, rfl, rfl, rfl, by decide +kernel, rfl, rfl⟩⟩
theorem xc_InvalidReads (ev : EnvE P K mg fileS clsN isaT catT xdL) : Xc P K mg "InvalidReads" ["position"] := xc_of ev (i := 17) (j := 21) (d := xd_InvalidReads) rfl rfl fun h1 h2 => .inl ⟨_, rfl, ⟨_, _, _, _, _, _, _, _, _, _, _, _, _, _, rfl, rfl, rfl, fun a us pos kw nm qual doc pm an cdv ct cc hl hb => match us, hl with | [_], _ => by rcases hb with ⟨rfl, rfl⟩ | ⟨rfl, rfl⟩ <;> rfl, by decide +kernel, rfl, rfl, rfl, rfl, fun _ => ⟨_, rfl⟩, fun _ => rfl⟩, ⟨h1, h2, rfl, rfl, rfl, by decide +kernel, rfl, rfl⟩⟩
theorem xc_NotWished (ev : EnvE P K mg fileS clsN isaT catT xdL) : Xc P K mg "NotWished" ["value"] := xc_of ev (i := 18) (j := 22) (d := xd_NotWished) rfl rfl fun h1 h2 => .inl ⟨_, rfl, ⟨_, _, _, _, _, _, _, _, _, _, _, _, _, _, rfl, rfl, rfl, fun a us pos kw nm qual doc pm an cdv ct cc hl hb => match us, hl with | [_], _ => by rcases hb with ⟨rfl, rfl⟩ | ⟨rfl, rfl⟩ <;> rfl, by decide +kernel, rfl, rfl, rfl, rfl, fun _ => ⟨_, rfl⟩, fun _ => rfl⟩, ⟨h1, h2, rfl, rfl, rfl, by decide +kernel, rfl, rfl⟩⟩
theorem xc_UnknownTask (ev : EnvE P K mg fileS clsN isaT catT xdL) : Xc P K mg "UnknownTask" ["value"] := xc_of ev (i := 19) (j := 23) (d := xd_UnknownTask) rfl rfl fun h1 h2 => .inl ⟨_, rfl, ⟨_, _, _, _, _, _, _, _, _, _, _, _, _, _, rfl, rfl, rfl, fun a us pos kw nm qual doc pm an cdv ct cc hl hb => match us, hl with | [_], _ => by rcases hb with ⟨rfl, rfl⟩ | ⟨rfl, rfl⟩ <;> rfl, by decide +kernel, rfl, rfl, rfl, rfl, fun _ => ⟨_, rfl⟩, fun _ => rfl⟩, ⟨h1, h2, rfl, rfl, rfl, by decide +kernel, rfl, rfl⟩⟩
theorem xc_UnknownCopy (ev : EnvE P K mg fileS clsN isaT catT xdL) : Xc P K mg "UnknownCopy" ["value"] := xc_of ev (i := 20) (j := 24) (d := xd_UnknownCopy) rfl rfl fun h1 h2 => .inl ⟨_, rfl, ⟨_, _, _, _, _, _, _, _, _, _, _, _, _, _, rfl, rfl, rfl, fun a us pos kw nm qual doc pm an cdv ct cc hl hb => match us, hl with | [_], _ => by rcases hb with ⟨rfl, rfl⟩ | ⟨rfl, rfl⟩ <;> rfl, by decide +kernel, rfl, rfl, rfl, rfl, fun _ => ⟨_, rfl⟩, fun _ => rfl⟩, ⟨h1, h2, rfl, rfl, rfl, by decide +kernel, rfl, rfl⟩⟩
theorem xc_UnknownSite (ev : EnvE P K mg fileS clsN isaT catT xdL) : Xc P K mg "UnknownSite" ["value"] := xc_of ev (i := 21) (j := 25) (d := xd_UnknownSite) rfl rfl fun h1 h2 => .inl ⟨_, rfl, ⟨_, _, _, _, _, _, _, _, _, _, _, _, _, _, rfl, rfl, rfl, fun a us pos kw nm qual doc pm an cdv ct cc hl hb => match us, hl with | [_], _ => by rcases hb with ⟨rfl, rfl⟩ | ⟨rfl, rfl⟩ <;> rfl, by decide +kernel, rfl, rfl, rfl, rfl, fun _ => ⟨_, rfl⟩, fun _ => rfl⟩, ⟨h1, h2, rfl, rfl, rfl, by decide +kernel, rfl, rfl⟩⟩
theorem xc_UnknownKind (ev : EnvE P K mg fileS clsN isaT catT xdL) : Xc P K mg "UnknownKind" ["value"] := xc_of ev (i := 22) (j := 26) (d := xd_UnknownKind) rfl rfl fun h1 h2 => .inl ⟨_, rfl, ⟨_, _, _, _, _, _, _, _, _, _, _, _, _, _, rfl, rfl, rfl, fun a us pos kw nm qual doc pm an cdv ct cc hl hb => match us, hl with | [_], _ => by rcases hb with ⟨rfl, rfl⟩ | ⟨rfl, rfl⟩ <;> rfl, by decide +kernel, rfl, rfl, rfl, rfl, fun _ => ⟨_, rfl⟩, fun _ => rfl⟩, ⟨h1, h2, rfl, rfl, rfl, by decide +kernel, rfl, rfl⟩⟩
theorem xc_UnknownFunction (ev : EnvE P K mg fileS clsN isaT catT xdL) : Xc P K mg "UnknownFunction" ["value"] := xc_of ev (i := 23) (j := 27) (d := xd_UnknownFunction) rfl rfl fun h1 h2 => .inl ⟨_, rfl, ⟨_, _, _, _, _, _, _, _, _, _, _, _, _, _, rfl, rfl, rfl, fun a us pos kw nm qual doc pm an cdv ct cc hl hb => match us, hl with | [_], _ => by rcases hb with ⟨rfl, rfl⟩ | ⟨rfl, rfl⟩ <;> rfl, by decide +kernel, rfl, rfl, rfl, rfl, fun _ => ⟨_, rfl⟩, fun _ => rfl⟩, ⟨h1, h2, rfl, rfl, rfl, by decide +kernel, rfl, rfl⟩⟩
theorem xc_UnknownConstructor (ev : EnvE P K mg fileS clsN isaT catT xdL) : Xc P K mg "UnknownConstructor" ["value"] := xc_of ev (i := 24) (j := 28) (d := xd_UnknownConstructor) rfl rfl fun h1 h2 => .inl ⟨_, rfl, ⟨_, _, _, _, _, _, _, _, _, _, _, _, _, _, rfl, rfl, rfl, fun a us pos kw nm qual doc pm an cdv ct cc hl hb => match us, hl with | [_], _ => by rcases hb with ⟨rfl, rfl⟩ | ⟨rfl, rfl⟩ <;> rfl, by decide +kernel, rfl, rfl, rfl, rfl, fun _ => ⟨_, rfl⟩, fun _ => rfl⟩, ⟨h1, h2, rfl, rfl, rfl, by decide +kernel, rfl, rfl⟩⟩
theorem xc_UnknownBase (ev : EnvE P K mg fileS clsN isaT catT xdL) : Xc P K mg "UnknownBase" ["value"] := xc_of ev (i := 25) (j := 29) (d := xd_UnknownBase) rfl rfl fun h1 h2 => .inl ⟨_, rfl, ⟨_, _, _, _, _, _, _, _, _, _, _, _, _, _, rfl, rfl, rfl, fun a us pos kw nm qual doc pm an cdv ct cc hl hb => match us, hl with | [_], _ => by rcases hb with ⟨rfl, rfl⟩ | ⟨rfl, rfl⟩ <;> rfl, by decide +kernel, rfl, rfl, rfl, rfl, fun _ => ⟨_, rfl⟩, fun _ => rfl⟩, ⟨h1, h2, rfl, rfl, rfl, by decide +kernel, rfl, rfl⟩⟩
theorem xc_UnknownQuestion (ev : EnvE P K mg fileS clsN isaT catT xdL) : Xc P K mg "UnknownQuestion" ["value"] := xc_of ev (i := 26) (j := 30) (d := xd_UnknownQuestion) rfl rfl fun h1 h2 => .inl ⟨_, rfl, ⟨_, _, _, _, _, _, _, _, _, _, _, _, _, _, rfl, rfl, rfl, fun a us pos kw nm qual doc pm an cdv ct cc hl hb => match us, hl with | [_], _ => by rcases hb with ⟨rfl, rfl⟩ | ⟨rfl, rfl⟩ <;> rfl, by decide +kernel, rfl, rfl, rfl, rfl, fun _ => ⟨_, rfl⟩, fun _ => rfl⟩, ⟨h1, h2, rfl, rfl, rfl, by decide +kernel, rfl, rfl⟩⟩
theorem xc_NoShape (ev : EnvE P K mg fileS clsN isaT catT xdL) : Xc P K mg "NoShape" ["profile"] := xc_of ev (i := 27) (j := 31) (d := xd_NoShape) rfl rfl fun h1 h2 => .inl ⟨_, rfl, ⟨_, _, _, _, _, _, _, _, _, _, _, _, _, _, rfl, rfl, rfl, fun a us pos kw nm qual doc pm an cdv ct cc hl hb => match us, hl with | [_], _ => by rcases hb with ⟨rfl, rfl⟩ | ⟨rfl, rfl⟩ <;> rfl, by decide +kernel, rfl, rfl, rfl, rfl, fun _ => ⟨_, rfl⟩, fun _ => rfl⟩, ⟨h1, h2, rfl, rfl, rfl, by decide +kernel, rfl, rfl⟩⟩
theorem xc_NotBuilt (ev : EnvE P K mg fileS clsN isaT catT xdL) : Xc P K mg "NotBuilt" ["instance"] := xc_of ev (i := 28) (j := 32) (d := xd_NotBuilt) rfl rfl fun h1 h2 => .inl ⟨_, rfl, ⟨_, _, _, _, _, _, _, _, _, _, _, _, _, _, rfl, rfl, rfl, fun a us pos kw nm qual doc pm an cdv ct cc hl hb => match us, hl with | [_], _ => by rcases hb with ⟨rfl, rfl⟩ | ⟨rfl, rfl⟩ <;> rfl, by decide +kernel, rfl, rfl, rfl, rfl, fun _ => ⟨_, rfl⟩, fun _ => rfl⟩, ⟨h1, h2, rfl, rfl, rfl, by decide +kernel, rfl, rfl⟩⟩
theorem xc_RunFailed (ev : EnvE P K mg fileS clsN isaT catT xdL) : Xc P K mg "RunFailed" ["position", "results"] := xc_of ev (i := 29) (j := 33) (d := xd_RunFailed) rfl rfl fun h1 h2 => .inr ⟨_, _, rfl, ⟨_, _, _, _, _, _, _, _, _, _, _, _, _, _, _, _, _, _, rfl, rfl, rfl, fun a us pos kw nm qual doc pm an cdv ct cc hl hb => match us, hl with | [_, _], _ => by rcases hb with ⟨rfl, rfl⟩ | ⟨rfl, rfl⟩ <;> rfl, by decide +kernel, by decide +kernel, by decide +kernel, rfl, rfl, rfl, rfl, rfl, rfl, fun _ => ⟨_, rfl⟩, fun _ => rfl, fun _ => rfl⟩, ⟨h1, h2, rfl, rfl, rfl, by decide +kernel, rfl, rfl⟩⟩
theorem xc_NothingToUndo (ev : EnvE P K mg fileS clsN isaT catT xdL) : Xc P K mg "NothingToUndo" ["count"] := xc_of ev (i := 30) (j := 34) (d := xd_NothingToUndo) rfl rfl fun h1 h2 => .inl ⟨_, rfl, ⟨_, _, _, _, _, _, _, _, _, _, _, _, _, _, rfl, rfl, rfl, fun a us pos kw nm qual doc pm an cdv ct cc hl hb => match us, hl with | [_], _ => by rcases hb with ⟨rfl, rfl⟩ | ⟨rfl, rfl⟩ <;> rfl, by decide +kernel, rfl, rfl, rfl, rfl, fun _ => ⟨_, rfl⟩, fun _ => rfl⟩, ⟨h1, h2, rfl, rfl, rfl, by decide +kernel, rfl, rfl⟩⟩
theorem xc_TaskEnded (ev : EnvE P K mg fileS clsN isaT catT xdL) : Xc P K mg "TaskEnded" ["task"] := xc_of ev (i := 31) (j := 35) (d := xd_TaskEnded) rfl rfl fun h1 h2 => .inl ⟨_, rfl, ⟨_, _, _, _, _, _, _, _, _, _, _, _, _, _, rfl, rfl, rfl, fun a us pos kw nm qual doc pm an cdv ct cc hl hb => match us, hl with | [_], _ => by rcases hb with ⟨rfl, rfl⟩ | ⟨rfl, rfl⟩ <;> rfl, by decide +kernel, rfl, rfl, rfl, rfl, fun _ => ⟨_, rfl⟩, fun _ => rfl⟩, ⟨h1, h2, rfl, rfl, rfl, by decide +kernel, rfl, rfl⟩⟩
theorem xc_LostRoot (ev : EnvE P K mg fileS clsN isaT catT xdL) : Xc P K mg "LostRoot" ["instance"] := xc_of ev (i := 32) (j := 36) (d := xd_LostRoot) rfl rfl fun h1 h2 => .inl ⟨_, rfl, ⟨_, _, _, _, _, _, _, _, _, _, _, _, _, _, rfl, rfl, rfl, fun a us pos kw nm qual doc pm an cdv ct cc hl hb => match us, hl with | [_], _ => by rcases hb with ⟨rfl, rfl⟩ | ⟨rfl, rfl⟩ <;> rfl, by decide +kernel, rfl, rfl, rfl, rfl, fun _ => ⟨_, rfl⟩, fun _ => rfl⟩, ⟨h1, h2, rfl, rfl, rfl, by decide +kernel, rfl, rfl⟩⟩
theorem xc_AlreadyWished (ev : EnvE P K mg fileS clsN isaT catT xdL) : Xc P K mg "AlreadyWished" ["instance"] := xc_of ev (i := 33) (j := 37) (d := xd_AlreadyWished) rfl rfl fun h1 h2 => .inl ⟨_, rfl, ⟨_, _, _, _, _, _, _, _, _, _, _, _, _, _, rfl, rfl, rfl, fun a us pos kw nm qual doc pm an cdv ct cc hl hb => match us, hl with | [_], _ => by rcases hb with ⟨rfl, rfl⟩ | ⟨rfl, rfl⟩ <;> rfl, by decide +kernel, rfl, rfl, rfl, rfl, fun _ => ⟨_, rfl⟩, fun _ => rfl⟩, ⟨h1, h2, rfl, rfl, rfl, by decide +kernel, rfl, rfl⟩⟩
theorem xc_InUse (ev : EnvE P K mg fileS clsN isaT catT xdL) : Xc P K mg "InUse" ["kind", "name"] := xc_of ev (i := 34) (j := 38) (d := xd_InUse) rfl rfl fun h1 h2 => .inr ⟨_, _, rfl, ⟨_, _, _, _, _, _, _, _, _, _, _, _, _, _, _, _, _, _, rfl, rfl, rfl, fun a us pos kw nm qual doc pm an cdv ct cc hl hb => match us, hl with | [_, _], _ => by rcases hb with ⟨rfl, rfl⟩ | ⟨rfl, rfl⟩ <;> rfl, by decide +kernel, by decide +kernel, by decide +kernel, rfl, rfl, rfl, rfl, rfl, rfl, fun _ => ⟨_, rfl⟩, fun _ => rfl, fun _ => rfl⟩, ⟨h1, h2, rfl, rfl, rfl, by decide +kernel, rfl, rfl⟩⟩
theorem xc_NameTaken (ev : EnvE P K mg fileS clsN isaT catT xdL) : Xc P K mg "NameTaken" ["name"] := xc_of ev (i := 35) (j := 39) (d := xd_NameTaken) rfl rfl fun h1 h2 => .inl ⟨_, rfl, ⟨_, _, _, _, _, _, _, _, _, _, _, _, _, _, rfl, rfl, rfl, fun a us pos kw nm qual doc pm an cdv ct cc hl hb => match us, hl with | [_], _ => by rcases hb with ⟨rfl, rfl⟩ | ⟨rfl, rfl⟩ <;> rfl, by decide +kernel, rfl, rfl, rfl, rfl, fun _ => ⟨_, rfl⟩, fun _ => rfl⟩, ⟨h1, h2, rfl, rfl, rfl, by decide +kernel, rfl, rfl⟩⟩
theorem xc_TooManySteps (ev : EnvE P K mg fileS clsN isaT catT xdL) : Xc P K mg "TooManySteps" ["limit"] := xc_of ev (i := 36) (j := 40) (d := xd_TooManySteps) rfl rfl fun h1 h2 => .inl ⟨_, rfl, ⟨_, _, _, _, _, _, _, _, _, _, _, _, _, _, rfl, rfl, rfl, fun a us pos kw nm qual doc pm an cdv ct cc hl hb => match us, hl with | [_], _ => by rcases hb with ⟨rfl, rfl⟩ | ⟨rfl, rfl⟩ <;> rfl, by decide +kernel, rfl, rfl, rfl, rfl, fun _ => ⟨_, rfl⟩, fun _ => rfl⟩, ⟨h1, h2, rfl, rfl, rfl, by decide +kernel, rfl, rfl⟩⟩
theorem xc_TooMany (ev : EnvE P K mg fileS clsN isaT catT xdL) : Xc P K mg "TooMany" ["kind", "limit"] := xc_of ev (i := 37) (j := 41) (d := xd_TooMany) rfl rfl fun h1 h2 => .inr ⟨_, _, rfl, ⟨_, _, _, _, _, _, _, _, _, _, _, _, _, _, _, _, _, _, rfl, rfl, rfl, fun a us pos kw nm qual doc pm an cdv ct cc hl hb => match us, hl with | [_, _], _ => by rcases hb with ⟨rfl, rfl⟩ | ⟨rfl, rfl⟩ <;> rfl, by decide +kernel, by decide +kernel, by decide +kernel, rfl, rfl, rfl, rfl, rfl, rfl, fun _ => ⟨_, rfl⟩, fun _ => rfl, fun _ => rfl⟩, ⟨h1, h2, rfl, rfl, rfl, by decide +kernel, rfl, rfl⟩⟩
theorem sc__law_rng : FnScope ["_law_script", "_law_k", "_law_cell"] ["_law_script", "_law_k"] (defScope st__law_rng) := ⟨rfl, rfl, rfl, by decide +kernel, rfl, by decide +kernel, by decide +kernel⟩
theorem ok__law_rng (D : FunD K "_law_rng" "_law_rng" (defArgs st__law_rng) (defBody st__law_rng) (defScope st__law_rng) [] [] f fd) (fr : FreeN frN mg) (ev : EnvE P K mg fileS clsN isaT catT xdL) : FnG P w K mg base 1 f fd ["_law_script", "_law_k"] F__law_rng :=
  have sc := sc__law_rng
  fnG_ofD D sc rfl fun cdv A outer s H E hr hgu =>
    (dss_cons (ds_set (i := 2) sc.nd rfl (loc_by rfl) (de_ifE (dt_cmp ops_lt (de_var (i := 1) rfl (vis_by rfl) rfl rfl) (de_callB call_len cs_len rfl (fr 1 _ rfl) (by decide +kernel) (da_cons (de_var (i := 0) rfl (vis_by rfl) rfl rfl) da_nil rfl) (by decide) rfl rfl rfl) rfl) (de_callB call_abs cs_abs rfl (fr 2 _ rfl) (by decide +kernel) (da_cons (de_ix ix_seq ix_rule (de_var (i := 0) rfl (vis_by rfl) rfl rfl) (de_var (i := 1) rfl (vis_by rfl) rfl rfl) fun _ _ => rfl) da_nil rfl) (by decide) rfl rfl rfl) de_int) rfl (.inl rfl))
    (dss_cons (ds_ret (de_lst (da_cons (de_callB (call_max12 rfl) cs_max12 rfl (fr 0 _ rfl) (by decide +kernel) (da_cons de_int (da_cons (de_bin ops_sub (de_var (i := 2) rfl (vis_by rfl) rfl rfl) (de_bin ops_pow de_int de_int)) da_nil rfl) rfl) (by decide) rfl rfl rfl) (da_cons (de_bin ops_add2 (de_bin ops_mod (de_bin ops_pow (de_bin ops_add2 (de_bin ops_add2 (de_bin ops_mod (de_var (i := 2) rfl (vis_by rfl) rfl rfl) de_int) (de_bin ops_mul2 de_int (de_var (i := 1) rfl (vis_by rfl) rfl rfl))) de_int) de_int) de_int) de_int) da_nil rfl) rfl)))
    dss_nil))
theorem sc__law_draw : FnScope ["_law_rng_here", "_law_many", "_law_digit"] ["_law_rng_here", "_law_many"] (defScope st__law_draw) := ⟨rfl, rfl, rfl, by decide +kernel, rfl, by decide +kernel, by decide +kernel⟩
theorem ok__law_draw (D : FunD K "_law_draw" "_law_draw" (defArgs st__law_draw) (defBody st__law_draw) (defScope st__law_draw) [] [] f fd) (fr : FreeN frN mg) (ev : EnvE P K mg fileS clsN isaT catT xdL) : FnG P w K mg base 1 f fd ["_law_rng_here", "_law_many"] F__law_draw :=
  have sc := sc__law_draw
  fnG_ofD D sc rfl fun cdv A outer s H E hr hgu =>
    (dss_cons (ds_if (dt_cmp ops_gt (de_ix ix_seq ix_rule (de_var (i := 0) rfl (vis_by rfl) rfl rfl) de_int fun _ _ => rfl) de_int rfl) (dss_cons (ds_asg (de_callB call_divmodW cs_divmod rfl (fr 3 _ rfl) (by decide +kernel) (da_cons (de_ix ix_seq ix_rule (de_var (i := 0) rfl (vis_by rfl) rfl rfl) de_int fun _ _ => rfl) (da_cons (de_var (i := 1) rfl (vis_by rfl) rfl rfl) da_nil rfl) rfl) (by decide) rfl rfl rfl) (dg_tup rfl (dgs_cons (dg_ix (de_var (i := 0) rfl (vis_by rfl) rfl rfl) de_int fun _ => rfl) (dgs_cons (dg_name (i := 2) sc.nd rfl (loc_by rfl) (.inl rfl)) dgs_nil rfl) rfl) rfl rfl) rfl rfl rfl)
    (dss_cons (ds_ret (de_var (i := 2) rfl (vis_by rfl) rfl rfl))
    dss_nil)) dss_nil)
    (dss_cons (ds_asg (de_bin ops_mod (de_bin ops_add2 (de_bin ops_mul2 (de_ix ix_seq ix_rule (de_var (i := 0) rfl (vis_by rfl) rfl rfl) de_int fun _ _ => rfl) de_int) de_int) de_int) (dg_ix (de_var (i := 0) rfl (vis_by rfl) rfl rfl) de_int fun _ => rfl) rfl rfl rfl)
    (dss_cons (ds_ret (de_bin ops_mod (de_bin ops_fdiv (de_bin ops_mod (de_bin ops_mul2 (de_ix ix_seq ix_rule (de_var (i := 0) rfl (vis_by rfl) rfl rfl) de_int fun _ _ => rfl) (de_ix ix_seq ix_rule (de_var (i := 0) rfl (vis_by rfl) rfl rfl) de_int fun _ _ => rfl)) de_int) de_int) (de_var (i := 1) rfl (vis_by rfl) rfl rfl)))
    dss_nil)))
theorem sc__law_choice : FnScope ["_law_rng_here", "_law_options"] ["_law_rng_here", "_law_options"] (defScope st__law_choice) := ⟨rfl, rfl, rfl, by decide +kernel, rfl, by decide +kernel, by decide +kernel⟩
theorem ok__law_choice (D : FunD K "_law_choice" "_law_choice" (defArgs st__law_choice) (defBody st__law_choice) (defScope st__law_choice) [] [] f fd) (fr : FreeN frN mg) (ev : EnvE P K mg fileS clsN isaT catT xdL) (g__law_draw : CalG P w K mg base 1 "_law_draw" ["_law_rng_here", "_law_many"] F__law_draw) : FnG P w K mg base 2 f fd ["_law_rng_here", "_law_options"] F__law_choice :=
  have sc := sc__law_choice
  fnG_ofD D sc rfl fun cdv A outer s H E hr hgu =>
    (dss_cons (ds_ret (de_ix ix_seq ix_rule (de_var (i := 1) rfl (vis_by rfl) rfl rfl) (de_callC g__law_draw (hr.mono (by omega)) hgu rfl (da_cons (de_var (i := 0) rfl (vis_by rfl) rfl rfl) (da_cons (de_callB call_len cs_len rfl (fr 1 _ rfl) (by decide +kernel) (da_cons (de_var (i := 1) rfl (vis_by rfl) rfl rfl) da_nil rfl) (by decide) rfl rfl rfl) da_nil rfl) rfl) (argn_cons (argn_cons argn_nil)) rfl rfl rfl) fun _ _ => rfl))
    dss_nil)
theorem sc__law_groups : FnScope ["_law_e", "_law_own", "_law_bases"] ["_law_e"] (defScope st__law_groups) := ⟨rfl, rfl, rfl, by decide +kernel, rfl, by decide +kernel, by decide +kernel⟩
theorem ok__law_groups (D : FunD K "_law_groups" "_law_groups" (defArgs st__law_groups) (defBody st__law_groups) (defScope st__law_groups) [] [] f fd) (fr : FreeN frN mg) (ev : EnvE P K mg fileS clsN isaT catT xdL) : FnG P w K mg base 1 f fd ["_law_e"] F__law_groups :=
  have sc := sc__law_groups
  fnG_ofD D sc rfl fun cdv A outer s H E hr hgu =>
    (dss_cons (ds_set (i := 1) sc.nd rfl (loc_by rfl) (de_lst (da_cons (de_callB call_isi2 (cs_isi2 ev xdNL) rfl (fr 7 _ rfl) (by decide +kernel) (da_cons (de_var (i := 0) rfl (vis_by rfl) rfl rfl) (da_cons (de_clsE (j := 3) ev rfl rfl rfl) da_nil rfl) rfl) (by decide) rfl rfl rfl) (da_cons (de_callB call_isi2 (cs_isi2 ev xdNL) rfl (fr 7 _ rfl) (by decide +kernel) (da_cons (de_var (i := 0) rfl (vis_by rfl) rfl rfl) (da_cons (de_clsE (j := 2) ev rfl rfl rfl) da_nil rfl) rfl) (by decide) rfl rfl rfl) (da_cons (de_callB call_isi2 (cs_isi2 ev xdNL) rfl (fr 7 _ rfl) (by decide +kernel) (da_cons (de_var (i := 0) rfl (vis_by rfl) rfl rfl) (da_cons (de_clsE (j := 1) ev rfl rfl rfl) da_nil rfl) rfl) (by decide) rfl rfl rfl) (da_cons (de_callB call_isi2 (cs_isi2 ev xdNL) rfl (fr 7 _ rfl) (by decide +kernel) (da_cons (de_var (i := 0) rfl (vis_by rfl) rfl rfl) (da_cons (de_clsE (j := 0) ev rfl rfl rfl) da_nil rfl) rfl) (by decide) rfl rfl rfl) da_nil rfl) rfl) rfl) rfl)) rfl (.inl rfl))
    (dss_cons (ds_set (i := 2) sc.nd rfl (loc_by rfl) (de_lst (da_cons (de_callB call_isi2 (cs_isi2 ev xdNL) rfl (fr 7 _ rfl) (by decide +kernel) (da_cons (de_var (i := 0) rfl (vis_by rfl) rfl rfl) (da_cons (de_bty rfl (fr 11 _ rfl) (by decide +kernel) (by decide) rfl) da_nil rfl) rfl) (by decide) rfl rfl rfl) (da_cons (de_callB call_isi2 (cs_isi2 ev xdNL) rfl (fr 7 _ rfl) (by decide +kernel) (da_cons (de_var (i := 0) rfl (vis_by rfl) rfl rfl) (da_cons (de_bty rfl (fr 10 _ rfl) (by decide +kernel) (by decide) rfl) da_nil rfl) rfl) (by decide) rfl rfl rfl) (da_cons (de_callB call_isi2 (cs_isi2 ev xdNL) rfl (fr 7 _ rfl) (by decide +kernel) (da_cons (de_var (i := 0) rfl (vis_by rfl) rfl rfl) (da_cons (de_bty rfl (fr 9 _ rfl) (by decide +kernel) (by decide) rfl) da_nil rfl) rfl) (by decide) rfl rfl rfl) da_nil rfl) rfl) rfl)) rfl (.inl rfl))
    (dss_cons (ds_ret (de_bin ops_add2 (de_bin ops_add2 (de_var (i := 1) rfl (vis_by rfl) rfl rfl) (de_var (i := 2) rfl (vis_by rfl) rfl rfl)) (de_lst (da_cons (de_callB call_isi2 (cs_isi2 ev xdNL) rfl (fr 7 _ rfl) (by decide +kernel) (da_cons (de_var (i := 0) rfl (vis_by rfl) rfl rfl) (da_cons (de_bty rfl (fr 8 _ rfl) (by decide +kernel) (by decide) rfl) da_nil rfl) rfl) (by decide) rfl rfl rfl) (da_cons (de_callB call_isi2 (cs_isi2 ev xdNL) rfl (fr 7 _ rfl) (by decide +kernel) (da_cons (de_var (i := 0) rfl (vis_by rfl) rfl rfl) (da_cons (de_tup (da_cons (de_bty rfl (fr 6 _ rfl) (by decide +kernel) (by decide) rfl) (da_cons (de_bty rfl (fr 5 _ rfl) (by decide +kernel) (by decide) rfl) (da_cons (de_bty rfl (fr 4 _ rfl) (by decide +kernel) (by decide) rfl) da_nil rfl) rfl) rfl)) da_nil rfl) rfl) (by decide) rfl rfl rfl) da_nil rfl) rfl))))
    dss_nil)))
theorem sc__law_value_errors : FnScope ["_law_one", "_law_rows"] ["_law_one"] (defScope st__law_value_errors) := ⟨rfl, rfl, rfl, by decide +kernel, rfl, by decide +kernel, by decide +kernel⟩
theorem ok__law_value_errors (D : FunD K "_law_value_errors" "_law_value_errors" (defArgs st__law_value_errors) (defBody st__law_value_errors) (defScope st__law_value_errors) [] [] f fd) (fr : FreeN frN mg) (ev : EnvE P K mg fileS clsN isaT catT xdL) : FnG P w K mg base 2 f fd ["_law_one"] F__law_value_errors :=
  have sc := sc__law_value_errors
  fnG_ofD D sc rfl fun cdv A outer s H E hr hgu =>
    (dss_cons (ds_set (i := 1) sc.nd rfl (loc_by rfl) (de_lst (da_cons (de_mk (k := 0) (xc_InvalidName ev) (by decide) (hr.mono (by omega)) rfl (da_cons (de_var (i := 0) rfl (vis_by rfl) rfl rfl) da_nil rfl) rfl rfl rfl) (da_cons (de_mk (k := 0) (xc_InvalidCount ev) (by decide) (hr.mono (by omega)) rfl (da_cons (de_var (i := 0) rfl (vis_by rfl) rfl rfl) da_nil rfl) rfl rfl rfl) (da_cons (de_mk (k := 0) (xc_InvalidShape ev) (by decide) (hr.mono (by omega)) rfl (da_cons (de_var (i := 0) rfl (vis_by rfl) rfl rfl) da_nil rfl) rfl rfl rfl) (da_cons (de_mk (k := 0) (xc_InvalidPattern ev) (by decide) (hr.mono (by omega)) rfl (da_cons (de_var (i := 0) rfl (vis_by rfl) rfl rfl) da_nil rfl) rfl rfl rfl) (da_cons (de_mk (k := 0) (xc_InvalidAnswer ev) (by decide) (hr.mono (by omega)) rfl (da_cons (de_var (i := 0) rfl (vis_by rfl) rfl rfl) da_nil rfl) rfl rfl rfl) da_nil rfl) rfl) rfl) rfl) rfl)) rfl (.inl rfl))
    (dss_cons (ds_set (i := 1) sc.nd rfl (loc_by rfl) (de_bin ops_add2 (de_var (i := 1) rfl (vis_by rfl) rfl rfl) (de_lst (da_cons (de_mk (k := 0) (xc_InvalidRule ev) (by decide) (hr.mono (by omega)) rfl (da_cons (de_var (i := 0) rfl (vis_by rfl) rfl rfl) da_nil rfl) rfl rfl rfl) (da_cons (de_mk (k := 0) (xc_InvalidAnswers ev) (by decide) (hr.mono (by omega)) rfl (da_cons (de_var (i := 0) rfl (vis_by rfl) rfl rfl) da_nil rfl) rfl rfl rfl) (da_cons (de_mk (k := 0) (xc_InvalidFunction ev) (by decide) (hr.mono (by omega)) rfl (da_cons (de_var (i := 0) rfl (vis_by rfl) rfl rfl) da_nil rfl) rfl rfl rfl) (da_cons (de_mk (k := 0) (xc_InvalidInstance ev) (by decide) (hr.mono (by omega)) rfl (da_cons (de_var (i := 0) rfl (vis_by rfl) rfl rfl) da_nil rfl) rfl rfl rfl) (da_cons (de_mk (k := 0) (xc_InvalidKey ev) (by decide) (hr.mono (by omega)) rfl (da_cons (de_var (i := 0) rfl (vis_by rfl) rfl rfl) da_nil rfl) rfl rfl rfl) da_nil rfl) rfl) rfl) rfl) rfl))) rfl (.inl rfl))
    (dss_cons (ds_ret (de_bin ops_add2 (de_var (i := 1) rfl (vis_by rfl) rfl rfl) (de_lst (da_cons (de_mk (k := 0) (xc_InvalidArguments ev) (by decide) (hr.mono (by omega)) rfl (da_cons (de_var (i := 0) rfl (vis_by rfl) rfl rfl) da_nil rfl) rfl rfl rfl) da_nil rfl))))
    dss_nil)))
theorem sc__law_other_errors : FnScope ["_law_one", "_law_two", "_law_rows"] ["_law_one", "_law_two"] (defScope st__law_other_errors) := ⟨rfl, rfl, rfl, by decide +kernel, rfl, by decide +kernel, by decide +kernel⟩
theorem ok__law_other_errors (D : FunD K "_law_other_errors" "_law_other_errors" (defArgs st__law_other_errors) (defBody st__law_other_errors) (defScope st__law_other_errors) [] [] f fd) (fr : FreeN frN mg) (ev : EnvE P K mg fileS clsN isaT catT xdL) : FnG P w K mg base 2 f fd ["_law_one", "_law_two"] F__law_other_errors :=
  have sc := sc__law_other_errors
  fnG_ofD D sc rfl fun cdv A outer s H E hr hgu =>
    (dss_cons (ds_set (i := 2) sc.nd rfl (loc_by rfl) (de_lst (da_cons (de_mk (k := 0) (xc_InvalidReads ev) (by decide) (hr.mono (by omega)) rfl (da_cons (de_var (i := 0) rfl (vis_by rfl) rfl rfl) da_nil rfl) rfl rfl rfl) (da_cons (de_mk (k := 0) (xc_InvalidRows ev) (by decide) (hr.mono (by omega)) rfl (da_cons (de_var (i := 0) rfl (vis_by rfl) rfl rfl) da_nil rfl) rfl rfl rfl) (da_cons (de_mk (k := 0) (xc_InvalidCatalog ev) (by decide) (hr.mono (by omega)) rfl (da_cons (de_var (i := 0) rfl (vis_by rfl) rfl rfl) (da_cons (de_var (i := 1) rfl (vis_by rfl) rfl rfl) da_nil rfl) rfl) rfl rfl rfl) (da_cons (de_mk (k := 0) (xc_InvalidProgram ev) (by decide) (hr.mono (by omega)) rfl (da_cons (de_var (i := 0) rfl (vis_by rfl) rfl rfl) (da_cons (de_var (i := 1) rfl (vis_by rfl) rfl rfl) da_nil rfl) rfl) rfl rfl rfl) (da_cons (de_mk (k := 0) (xc_InvalidEdit ev) (by decide) (hr.mono (by omega)) rfl (da_cons (de_var (i := 0) rfl (vis_by rfl) rfl rfl) da_nil rfl) rfl rfl rfl) da_nil rfl) rfl) rfl) rfl) rfl)) rfl (.inl rfl))
    (dss_cons (ds_ret (de_bin ops_add2 (de_var (i := 2) rfl (vis_by rfl) rfl rfl) (de_lst (da_cons (de_mk (k := 0) (xc_InvalidText ev) (by decide) (hr.mono (by omega)) rfl (da_cons (de_var (i := 0) rfl (vis_by rfl) rfl rfl) da_nil rfl) rfl rfl rfl) (da_cons (de_mk (k := 0) (xc_InvalidCommand ev) (by decide) (hr.mono (by omega)) rfl (da_cons (de_var (i := 0) rfl (vis_by rfl) rfl rfl) da_nil rfl) rfl rfl rfl) da_nil rfl) rfl))))
    dss_nil))
theorem sc__law_missing_errors : FnScope ["_law_one", "_law_rows"] ["_law_one"] (defScope st__law_missing_errors) := ⟨rfl, rfl, rfl, by decide +kernel, rfl, by decide +kernel, by decide +kernel⟩
theorem ok__law_missing_errors (D : FunD K "_law_missing_errors" "_law_missing_errors" (defArgs st__law_missing_errors) (defBody st__law_missing_errors) (defScope st__law_missing_errors) [] [] f fd) (fr : FreeN frN mg) (ev : EnvE P K mg fileS clsN isaT catT xdL) : FnG P w K mg base 2 f fd ["_law_one"] F__law_missing_errors :=
  have sc := sc__law_missing_errors
  fnG_ofD D sc rfl fun cdv A outer s H E hr hgu =>
    (dss_cons (ds_set (i := 1) sc.nd rfl (loc_by rfl) (de_lst (da_cons (de_mk (k := 0) (xc_UnknownQuestion ev) (by decide) (hr.mono (by omega)) rfl (da_cons (de_var (i := 0) rfl (vis_by rfl) rfl rfl) da_nil rfl) rfl rfl rfl) (da_cons (de_mk (k := 0) (xc_UnknownBase ev) (by decide) (hr.mono (by omega)) rfl (da_cons (de_var (i := 0) rfl (vis_by rfl) rfl rfl) da_nil rfl) rfl rfl rfl) (da_cons (de_mk (k := 0) (xc_UnknownConstructor ev) (by decide) (hr.mono (by omega)) rfl (da_cons (de_var (i := 0) rfl (vis_by rfl) rfl rfl) da_nil rfl) rfl rfl rfl) (da_cons (de_mk (k := 0) (xc_UnknownFunction ev) (by decide) (hr.mono (by omega)) rfl (da_cons (de_var (i := 0) rfl (vis_by rfl) rfl rfl) da_nil rfl) rfl rfl rfl) (da_cons (de_mk (k := 0) (xc_UnknownKind ev) (by decide) (hr.mono (by omega)) rfl (da_cons (de_var (i := 0) rfl (vis_by rfl) rfl rfl) da_nil rfl) rfl rfl rfl) da_nil rfl) rfl) rfl) rfl) rfl)) rfl (.inl rfl))
    (dss_cons (ds_ret (de_bin ops_add2 (de_var (i := 1) rfl (vis_by rfl) rfl rfl) (de_lst (da_cons (de_mk (k := 0) (xc_UnknownSite ev) (by decide) (hr.mono (by omega)) rfl (da_cons (de_var (i := 0) rfl (vis_by rfl) rfl rfl) da_nil rfl) rfl rfl rfl) (da_cons (de_mk (k := 0) (xc_UnknownCopy ev) (by decide) (hr.mono (by omega)) rfl (da_cons (de_var (i := 0) rfl (vis_by rfl) rfl rfl) da_nil rfl) rfl rfl rfl) (da_cons (de_mk (k := 0) (xc_UnknownTask ev) (by decide) (hr.mono (by omega)) rfl (da_cons (de_var (i := 0) rfl (vis_by rfl) rfl rfl) da_nil rfl) rfl rfl rfl) (da_cons (de_mk (k := 0) (xc_NotWished ev) (by decide) (hr.mono (by omega)) rfl (da_cons (de_var (i := 0) rfl (vis_by rfl) rfl rfl) da_nil rfl) rfl rfl rfl) da_nil rfl) rfl) rfl) rfl))))
    dss_nil))
theorem sc__law_late_errors : FnScope ["_law_one"] ["_law_one"] (defScope st__law_late_errors) := ⟨rfl, rfl, rfl, by decide +kernel, rfl, by decide +kernel, by decide +kernel⟩
theorem ok__law_late_errors (D : FunD K "_law_late_errors" "_law_late_errors" (defArgs st__law_late_errors) (defBody st__law_late_errors) (defScope st__law_late_errors) [] [] f fd) (fr : FreeN frN mg) (ev : EnvE P K mg fileS clsN isaT catT xdL) : FnG P w K mg base 2 f fd ["_law_one"] F__law_late_errors :=
  have sc := sc__law_late_errors
  fnG_ofD D sc rfl fun cdv A outer s H E hr hgu =>
    (dss_cons (ds_ret (de_lst (da_cons (de_mk (k := 0) (xc_NotBuilt ev) (by decide) (hr.mono (by omega)) rfl (da_cons (de_var (i := 0) rfl (vis_by rfl) rfl rfl) da_nil rfl) rfl rfl rfl) (da_cons (de_mk (k := 0) (xc_NoShape ev) (by decide) (hr.mono (by omega)) rfl (da_cons (de_var (i := 0) rfl (vis_by rfl) rfl rfl) da_nil rfl) rfl rfl rfl) da_nil rfl) rfl)))
    dss_nil)
theorem sc__law_state_errors : FnScope ["_law_one", "_law_two", "_law_rows"] ["_law_one", "_law_two"] (defScope st__law_state_errors) := ⟨rfl, rfl, rfl, by decide +kernel, rfl, by decide +kernel, by decide +kernel⟩
theorem ok__law_state_errors (D : FunD K "_law_state_errors" "_law_state_errors" (defArgs st__law_state_errors) (defBody st__law_state_errors) (defScope st__law_state_errors) [] [] f fd) (fr : FreeN frN mg) (ev : EnvE P K mg fileS clsN isaT catT xdL) : FnG P w K mg base 2 f fd ["_law_one", "_law_two"] F__law_state_errors :=
  have sc := sc__law_state_errors
  fnG_ofD D sc rfl fun cdv A outer s H E hr hgu =>
    (dss_cons (ds_set (i := 2) sc.nd rfl (loc_by rfl) (de_lst (da_cons (de_mk (k := 0) (xc_NameTaken ev) (by decide) (hr.mono (by omega)) rfl (da_cons (de_var (i := 0) rfl (vis_by rfl) rfl rfl) da_nil rfl) rfl rfl rfl) (da_cons (de_mk (k := 0) (xc_InUse ev) (by decide) (hr.mono (by omega)) rfl (da_cons (de_var (i := 0) rfl (vis_by rfl) rfl rfl) (da_cons (de_var (i := 1) rfl (vis_by rfl) rfl rfl) da_nil rfl) rfl) rfl rfl rfl) (da_cons (de_mk (k := 0) (xc_AlreadyWished ev) (by decide) (hr.mono (by omega)) rfl (da_cons (de_var (i := 0) rfl (vis_by rfl) rfl rfl) da_nil rfl) rfl rfl rfl) (da_cons (de_mk (k := 0) (xc_LostRoot ev) (by decide) (hr.mono (by omega)) rfl (da_cons (de_var (i := 0) rfl (vis_by rfl) rfl rfl) da_nil rfl) rfl rfl rfl) (da_cons (de_mk (k := 0) (xc_TaskEnded ev) (by decide) (hr.mono (by omega)) rfl (da_cons (de_var (i := 0) rfl (vis_by rfl) rfl rfl) da_nil rfl) rfl rfl rfl) (da_cons (de_mk (k := 0) (xc_NothingToUndo ev) (by decide) (hr.mono (by omega)) rfl (da_cons (de_var (i := 0) rfl (vis_by rfl) rfl rfl) da_nil rfl) rfl rfl rfl) da_nil rfl) rfl) rfl) rfl) rfl) rfl)) rfl (.inl rfl))
    (dss_cons (ds_ret (de_bin ops_add2 (de_var (i := 2) rfl (vis_by rfl) rfl rfl) (de_lst (da_cons (de_mk (k := 0) (xc_RunFailed ev) (by decide) (hr.mono (by omega)) rfl (da_cons (de_var (i := 0) rfl (vis_by rfl) rfl rfl) (da_cons (de_var (i := 1) rfl (vis_by rfl) rfl rfl) da_nil rfl) rfl) rfl rfl rfl) da_nil rfl))))
    dss_nil))
theorem sc__law_told : FnScope ["_law_one", "_law_two", "_law_found", "_law_reads", "_law_rows", "_law_box", "_law_work", "_law_deed", "_law_text", "_law_order", "_law_taken", "_law_used", "_law_wish", "_law_lost", "_law_ended", "_law_back", "_law_failed", "_law_many", "_law_e"] ["_law_one", "_law_two"] (defScope st__law_told) := ⟨rfl, rfl, rfl, by decide +kernel, rfl, by decide +kernel, by decide +kernel⟩
theorem ok__law_told (D : FunD K "_law_told" "_law_told" (defArgs st__law_told) (defBody st__law_told) (defScope st__law_told) [] [] f fd) (fr : FreeN frN mg) (ev : EnvE P K mg fileS clsN isaT catT xdL) (g__law_value_errors : CalG P w K mg base 2 "_law_value_errors" ["_law_one"] F__law_value_errors) (g__law_missing_errors : CalG P w K mg base 2 "_law_missing_errors" ["_law_one"] F__law_missing_errors) : FnG P w K mg base 3 f fd ["_law_one", "_law_two"] F__law_told :=
  have sc := sc__law_told
  fnG_ofD D sc rfl fun cdv A outer s H E hr hgu =>
    (dss_cons (ds_setLc (i := 2) (own := [("_law_e", 18)]) (ts := [18]) rfl sc.nd rfl rfl rfl (di_expr (de_bin ops_add2 (de_callC g__law_value_errors (hr.mono (by omega)) hgu rfl (da_cons (de_var (i := 0) rfl (vis_by rfl) rfl rfl) da_nil rfl) (argn_cons argn_nil) rfl rfl rfl) (de_callC g__law_missing_errors (hr.mono (by omega)) hgu rfl (da_cons (de_var (i := 0) rfl (vis_by rfl) rfl rfl) da_nil rfl) (argn_cons argn_nil) rfl rfl rfl))) (blkOk_by (by kernel_rfl)) (by decide) (fun _ _ _ _ _ => (dg_name (i := 18) sc.nd rfl (loc_by rfl) (.inr rfl))) (fun _ _ _ _ _ => dts_nil) (fun _ _ _ _ _ => (de_xv ev xdNL (de_var (i := 18) rfl (vis_by rfl) rfl rfl) rfl)) fun _ => rfl)
    (dss_cons (ds_par (i := 3) (j := 4) rfl sc.nd rfl rfl (by decide) rfl rfl (da_cons (de_mk (k := 0) (xc_InvalidReads ev) (by decide) (hr.mono (by omega)) rfl (da_cons (de_var (i := 0) rfl (vis_by rfl) rfl rfl) da_nil rfl) rfl rfl rfl) (da_cons (de_mk (k := 0) (xc_InvalidRows ev) (by decide) (hr.mono (by omega)) rfl (da_cons (de_var (i := 0) rfl (vis_by rfl) rfl rfl) da_nil rfl) rfl rfl rfl) da_nil rfl) rfl) rfl rfl)
    (dss_cons (ds_par (i := 5) (j := 6) rfl sc.nd rfl rfl (by decide) rfl rfl (da_cons (de_mk (k := 0) (xc_InvalidCatalog ev) (by decide) (hr.mono (by omega)) rfl (da_cons (de_var (i := 0) rfl (vis_by rfl) rfl rfl) (da_cons (de_var (i := 1) rfl (vis_by rfl) rfl rfl) da_nil rfl) rfl) rfl rfl rfl) (da_cons (de_mk (k := 0) (xc_InvalidProgram ev) (by decide) (hr.mono (by omega)) rfl (da_cons (de_var (i := 0) rfl (vis_by rfl) rfl rfl) (da_cons (de_var (i := 1) rfl (vis_by rfl) rfl rfl) da_nil rfl) rfl) rfl rfl rfl) da_nil rfl) rfl) rfl rfl)
    (dss_cons (ds_set (i := 2) sc.nd rfl (loc_by rfl) (de_bin ops_add2 (de_var (i := 2) rfl (vis_by rfl) rfl rfl) (de_lst (da_cons (de_xv ev xdNL (de_var (i := 3) rfl (vis_by rfl) rfl rfl) rfl) (da_cons (de_xv ev xdNL (de_var (i := 4) rfl (vis_by rfl) rfl rfl) rfl) (da_cons (de_xv ev xdNL (de_var (i := 5) rfl (vis_by rfl) rfl rfl) rfl) (da_cons (de_xv ev xdNL (de_var (i := 5) rfl (vis_by rfl) rfl rfl) rfl) (da_cons (de_xv ev xdNL (de_var (i := 6) rfl (vis_by rfl) rfl rfl) rfl) (da_cons (de_xv ev xdNL (de_var (i := 6) rfl (vis_by rfl) rfl rfl) rfl) da_nil rfl) rfl) rfl) rfl) rfl) rfl))) rfl (.inl rfl))
    (dss_cons (ds_par3 (i := 7) (j := 8) (l := 9) rfl sc.nd rfl rfl rfl (by decide) (by decide) (by decide) rfl rfl rfl (da_cons (de_mk (k := 0) (xc_InvalidEdit ev) (by decide) (hr.mono (by omega)) rfl (da_cons (de_var (i := 0) rfl (vis_by rfl) rfl rfl) da_nil rfl) rfl rfl rfl) (da_cons (de_mk (k := 0) (xc_InvalidText ev) (by decide) (hr.mono (by omega)) rfl (da_cons (de_var (i := 0) rfl (vis_by rfl) rfl rfl) da_nil rfl) rfl rfl rfl) (da_cons (de_mk (k := 0) (xc_InvalidCommand ev) (by decide) (hr.mono (by omega)) rfl (da_cons (de_var (i := 0) rfl (vis_by rfl) rfl rfl) da_nil rfl) rfl rfl rfl) da_nil rfl) rfl) rfl) rfl rfl)
    (dss_cons (ds_set (i := 2) sc.nd rfl (loc_by rfl) (de_bin ops_add2 (de_var (i := 2) rfl (vis_by rfl) rfl rfl) (de_lst (da_cons (de_xv ev xdNL (de_var (i := 7) rfl (vis_by rfl) rfl rfl) rfl) (da_cons (de_xv ev xdNL (de_var (i := 8) rfl (vis_by rfl) rfl rfl) rfl) (da_cons (de_xv ev xdNL (de_var (i := 9) rfl (vis_by rfl) rfl rfl) rfl) (da_cons (de_xv ev xdNL (de_mk (k := 0) (xc_NotBuilt ev) (by decide) (hr.mono (by omega)) rfl (da_cons (de_var (i := 0) rfl (vis_by rfl) rfl rfl) da_nil rfl) rfl rfl rfl) rfl) (da_cons (de_xv ev xdNL (de_mk (k := 0) (xc_NoShape ev) (by decide) (hr.mono (by omega)) rfl (da_cons (de_var (i := 0) rfl (vis_by rfl) rfl rfl) da_nil rfl) rfl rfl rfl) rfl) da_nil rfl) rfl) rfl) rfl) rfl))) rfl (.inl rfl))
    (dss_cons (ds_par3 (i := 10) (j := 11) (l := 12) rfl sc.nd rfl rfl rfl (by decide) (by decide) (by decide) rfl rfl rfl (da_cons (de_mk (k := 0) (xc_NameTaken ev) (by decide) (hr.mono (by omega)) rfl (da_cons (de_var (i := 0) rfl (vis_by rfl) rfl rfl) da_nil rfl) rfl rfl rfl) (da_cons (de_mk (k := 0) (xc_InUse ev) (by decide) (hr.mono (by omega)) rfl (da_cons (de_var (i := 0) rfl (vis_by rfl) rfl rfl) (da_cons (de_var (i := 1) rfl (vis_by rfl) rfl rfl) da_nil rfl) rfl) rfl rfl rfl) (da_cons (de_mk (k := 0) (xc_AlreadyWished ev) (by decide) (hr.mono (by omega)) rfl (da_cons (de_var (i := 0) rfl (vis_by rfl) rfl rfl) da_nil rfl) rfl rfl rfl) da_nil rfl) rfl) rfl) rfl rfl)
    (dss_cons (ds_par (i := 13) (j := 14) rfl sc.nd rfl rfl (by decide) rfl rfl (da_cons (de_mk (k := 0) (xc_LostRoot ev) (by decide) (hr.mono (by omega)) rfl (da_cons (de_var (i := 0) rfl (vis_by rfl) rfl rfl) da_nil rfl) rfl rfl rfl) (da_cons (de_mk (k := 0) (xc_TaskEnded ev) (by decide) (hr.mono (by omega)) rfl (da_cons (de_var (i := 0) rfl (vis_by rfl) rfl rfl) da_nil rfl) rfl rfl rfl) da_nil rfl) rfl) rfl rfl)
    (dss_cons (ds_set (i := 2) sc.nd rfl (loc_by rfl) (de_bin ops_add2 (de_var (i := 2) rfl (vis_by rfl) rfl rfl) (de_lst (da_cons (de_xv ev xdNL (de_var (i := 10) rfl (vis_by rfl) rfl rfl) rfl) (da_cons (de_xv ev xdNL (de_var (i := 11) rfl (vis_by rfl) rfl rfl) rfl) (da_cons (de_xv ev xdNL (de_var (i := 11) rfl (vis_by rfl) rfl rfl) rfl) (da_cons (de_xv ev xdNL (de_var (i := 12) rfl (vis_by rfl) rfl rfl) rfl) (da_cons (de_xv ev xdNL (de_var (i := 13) rfl (vis_by rfl) rfl rfl) rfl) (da_cons (de_xv ev xdNL (de_var (i := 14) rfl (vis_by rfl) rfl rfl) rfl) da_nil rfl) rfl) rfl) rfl) rfl) rfl))) rfl (.inl rfl))
    (dss_cons (ds_par3 (i := 15) (j := 16) (l := 17) rfl sc.nd rfl rfl rfl (by decide) (by decide) (by decide) rfl rfl rfl (da_cons (de_mk (k := 0) (xc_NothingToUndo ev) (by decide) (hr.mono (by omega)) rfl (da_cons (de_var (i := 0) rfl (vis_by rfl) rfl rfl) da_nil rfl) rfl rfl rfl) (da_cons (de_mk (k := 0) (xc_RunFailed ev) (by decide) (hr.mono (by omega)) rfl (da_cons (de_var (i := 0) rfl (vis_by rfl) rfl rfl) (da_cons (de_var (i := 1) rfl (vis_by rfl) rfl rfl) da_nil rfl) rfl) rfl rfl rfl) (da_cons (de_mk (k := 0) (xc_TooMany ev) (by decide) (hr.mono (by omega)) rfl (da_cons (de_var (i := 0) rfl (vis_by rfl) rfl rfl) (da_cons (de_var (i := 1) rfl (vis_by rfl) rfl rfl) da_nil rfl) rfl) rfl rfl rfl) da_nil rfl) rfl) rfl) rfl rfl)
    (dss_cons (ds_ret (de_bin ops_add2 (de_var (i := 2) rfl (vis_by rfl) rfl rfl) (de_lst (da_cons (de_xv ev xdNL (de_var (i := 15) rfl (vis_by rfl) rfl rfl) rfl) (da_cons (de_xv ev xdNL (de_var (i := 16) rfl (vis_by rfl) rfl rfl) rfl) (da_cons (de_xv ev xdNL (de_var (i := 16) rfl (vis_by rfl) rfl rfl) rfl) (da_cons (de_xv ev xdNL (de_var (i := 17) rfl (vis_by rfl) rfl rfl) rfl) (da_cons (de_xv ev xdNL (de_var (i := 17) rfl (vis_by rfl) rfl rfl) rfl) (da_cons (de_xv ev xdNL (de_mk (k := 0) (xc_TooManySteps ev) (by decide) (hr.mono (by omega)) rfl (da_cons (de_var (i := 0) rfl (vis_by rfl) rfl rfl) da_nil rfl) rfl rfl rfl) rfl) da_nil rfl) rfl) rfl) rfl) rfl) rfl))))
    dss_nil)))))))))))
theorem sc__law_due : FnScope ["_law_one", "_law_two", "_law_found"] ["_law_one", "_law_two"] (defScope st__law_due) := ⟨rfl, rfl, rfl, by decide +kernel, rfl, by decide +kernel, by decide +kernel⟩
theorem ok__law_due (D : FunD K "_law_due" "_law_due" (defArgs st__law_due) (defBody st__law_due) (defScope st__law_due) [] [] f fd) (fr : FreeN frN mg) (ev : EnvE P K mg fileS clsN isaT catT xdL) : FnG P w K mg base 1 f fd ["_law_one", "_law_two"] F__law_due :=
  have sc := sc__law_due
  fnG_ofD D sc rfl fun cdv A outer s H E hr hgu =>
    (dss_cons (ds_set (i := 2) sc.nd rfl (loc_by rfl) (de_bin ops_add2 (de_bin ops_add2 (de_bin ops_mul2 (de_lst (da_cons (de_var (i := 0) rfl (vis_by rfl) rfl rfl) da_nil rfl)) de_int) (de_lst (da_cons (de_var (i := 0) rfl (vis_by rfl) rfl rfl) (da_cons (de_var (i := 0) rfl (vis_by rfl) rfl rfl) (da_cons (de_var (i := 0) rfl (vis_by rfl) rfl rfl) (da_cons (de_var (i := 1) rfl (vis_by rfl) rfl rfl) (da_cons (de_var (i := 0) rfl (vis_by rfl) rfl rfl) (da_cons (de_var (i := 1) rfl (vis_by rfl) rfl rfl) da_nil rfl) rfl) rfl) rfl) rfl) rfl))) (de_bin ops_mul2 (de_lst (da_cons (de_var (i := 0) rfl (vis_by rfl) rfl rfl) da_nil rfl)) de_int)) rfl (.inl rfl))
    (dss_cons (ds_ret (de_bin ops_add2 (de_bin ops_add2 (de_var (i := 2) rfl (vis_by rfl) rfl rfl) (de_lst (da_cons (de_var (i := 0) rfl (vis_by rfl) rfl rfl) (da_cons (de_var (i := 0) rfl (vis_by rfl) rfl rfl) (da_cons (de_var (i := 1) rfl (vis_by rfl) rfl rfl) (da_cons (de_var (i := 0) rfl (vis_by rfl) rfl rfl) (da_cons (de_var (i := 0) rfl (vis_by rfl) rfl rfl) (da_cons (de_var (i := 0) rfl (vis_by rfl) rfl rfl) da_nil rfl) rfl) rfl) rfl) rfl) rfl))) (de_lst (da_cons (de_var (i := 0) rfl (vis_by rfl) rfl rfl) (da_cons (de_var (i := 0) rfl (vis_by rfl) rfl rfl) (da_cons (de_var (i := 1) rfl (vis_by rfl) rfl rfl) (da_cons (de_var (i := 0) rfl (vis_by rfl) rfl rfl) (da_cons (de_var (i := 1) rfl (vis_by rfl) rfl rfl) (da_cons (de_var (i := 0) rfl (vis_by rfl) rfl rfl) da_nil rfl) rfl) rfl) rfl) rfl) rfl))))
    dss_nil))
theorem sc__law_named_right : FnScope ["_law_one", "_law_two", "_law_made", "_law_told_here", "_law_rows", "_law_more", "_law_used", "_law_failed", "_law_many", "_law_e"] ["_law_one", "_law_two"] (defScope st__law_named_right) := ⟨rfl, rfl, rfl, by decide +kernel, rfl, by decide +kernel, by decide +kernel⟩
theorem ok__law_named_right (D : FunD K "_law_named_right" "_law_named_right" (defArgs st__law_named_right) (defBody st__law_named_right) (defScope st__law_named_right) [] [] f fd) (fr : FreeN frN mg) (ev : EnvE P K mg fileS clsN isaT catT xdL) : FnG P w K mg base 2 f fd ["_law_one", "_law_two"] F__law_named_right :=
  have sc := sc__law_named_right
  fnG_ofD D sc rfl fun cdv A outer s H E hr hgu =>
    (dss_cons (ds_set (i := 2) sc.nd rfl (loc_by rfl) (de_lst (da_cons (de_mkK (k := 0) (xc_InvalidCatalog ev) (hr.mono (by omega)) rfl (dk_cons (de_var (i := 1) rfl (vis_by rfl) rfl rfl) (dk_cons (de_var (i := 0) rfl (vis_by rfl) rfl rfl) dk_nil)) rfl rfl rfl rfl) (da_cons (de_mkK (k := 0) (xc_InvalidProgram ev) (hr.mono (by omega)) rfl (dk_cons (de_var (i := 1) rfl (vis_by rfl) rfl rfl) (dk_cons (de_var (i := 0) rfl (vis_by rfl) rfl rfl) dk_nil)) rfl rfl rfl rfl) da_nil rfl) rfl)) rfl (.inl rfl))
    (dss_cons (ds_if (dt_cmp (ops_ne (room_u hr 64 (by decide))) (de_callB (call_repr ev.sys hgu (room_u hr 80 (by decide))) cs_repr rfl (fr 12 _ rfl) (by decide +kernel) (da_cons (de_lc (own := [("_law_e", 9)]) (ts := [9]) rfl sc.nd (di_expr (de_var (i := 2) rfl (vis_by rfl) rfl rfl)) (blkOk_by (by kernel_rfl)) (by decide) (fun _ _ _ _ _ => (dg_name (i := 9) sc.nd rfl (loc_by rfl) (.inr rfl))) (fun _ _ _ _ _ => dts_nil) (fun _ _ _ _ _ => (de_lst (da_cons (de_xv ev xdNL (de_var (i := 9) rfl (vis_by rfl) rfl rfl) rfl) (da_cons (de_xv ev xdNL (de_var (i := 9) rfl (vis_by rfl) rfl rfl) rfl) da_nil rfl) rfl))) fun _ => rfl) da_nil rfl) (by decide) rfl rfl rfl) (de_callB (call_repr ev.sys hgu (room_u hr 80 (by decide))) cs_repr rfl (fr 12 _ rfl) (by decide +kernel) (da_cons (de_lst (da_cons (de_lst (da_cons (de_var (i := 0) rfl (vis_by rfl) rfl rfl) (da_cons (de_var (i := 1) rfl (vis_by rfl) rfl rfl) da_nil rfl) rfl)) (da_cons (de_lst (da_cons (de_var (i := 0) rfl (vis_by rfl) rfl rfl) (da_cons (de_var (i := 1) rfl (vis_by rfl) rfl rfl) da_nil rfl) rfl)) da_nil rfl) rfl)) da_nil rfl) (by decide) rfl rfl rfl) rfl) (dss_cons (ds_ret de_bl)
    dss_nil) dss_nil)
    (dss_cons (ds_par3 (i := 6) (j := 7) (l := 8) rfl sc.nd rfl rfl rfl (by decide) (by decide) (by decide) rfl rfl rfl (da_cons (de_mkK (k := 0) (xc_InUse ev) (hr.mono (by omega)) rfl (dk_cons (de_var (i := 1) rfl (vis_by rfl) rfl rfl) (dk_cons (de_var (i := 0) rfl (vis_by rfl) rfl rfl) dk_nil)) rfl rfl rfl rfl) (da_cons (de_mkK (k := 0) (xc_RunFailed ev) (hr.mono (by omega)) rfl (dk_cons (de_var (i := 1) rfl (vis_by rfl) rfl rfl) (dk_cons (de_var (i := 0) rfl (vis_by rfl) rfl rfl) dk_nil)) rfl rfl rfl rfl) (da_cons (de_mkK (k := 0) (xc_TooMany ev) (hr.mono (by omega)) rfl (dk_cons (de_var (i := 1) rfl (vis_by rfl) rfl rfl) (dk_cons (de_var (i := 0) rfl (vis_by rfl) rfl rfl) dk_nil)) rfl rfl rfl rfl) da_nil rfl) rfl) rfl) rfl rfl)
    (dss_cons (ds_set (i := 3) sc.nd rfl (loc_by rfl) (de_lst (da_cons (de_xv ev xdNL (de_var (i := 6) rfl (vis_by rfl) rfl rfl) rfl) (da_cons (de_xv ev xdNL (de_var (i := 6) rfl (vis_by rfl) rfl rfl) rfl) (da_cons (de_xv ev xdNL (de_var (i := 7) rfl (vis_by rfl) rfl rfl) rfl) (da_cons (de_xv ev xdNL (de_var (i := 7) rfl (vis_by rfl) rfl rfl) rfl) (da_cons (de_xv ev xdNL (de_var (i := 8) rfl (vis_by rfl) rfl rfl) rfl) (da_cons (de_xv ev xdNL (de_var (i := 8) rfl (vis_by rfl) rfl rfl) rfl) (da_cons (de_xv ev xdNL (de_mkK (k := 0) (xc_NoShape ev) (hr.mono (by omega)) rfl (dk_cons (de_var (i := 0) rfl (vis_by rfl) rfl rfl) dk_nil) rfl rfl rfl rfl) rfl) da_nil rfl) rfl) rfl) rfl) rfl) rfl) rfl)) rfl (.inl rfl))
    (dss_cons (ds_set (i := 3) sc.nd rfl (loc_by rfl) (de_bin ops_add2 (de_var (i := 3) rfl (vis_by rfl) rfl rfl) (de_lst (da_cons (de_xv ev xdNL (de_mkK (k := 0) (xc_NotBuilt ev) (hr.mono (by omega)) rfl (dk_cons (de_var (i := 0) rfl (vis_by rfl) rfl rfl) dk_nil) rfl rfl rfl rfl) rfl) (da_cons (de_xv ev xdNL (de_mkK (k := 0) (xc_InvalidText ev) (hr.mono (by omega)) rfl (dk_cons (de_var (i := 0) rfl (vis_by rfl) rfl rfl) dk_nil) rfl rfl rfl rfl) rfl) (da_cons (de_xv ev xdNL (de_mkK (k := 0) (xc_InvalidCommand ev) (hr.mono (by omega)) rfl (dk_cons (de_var (i := 0) rfl (vis_by rfl) rfl rfl) dk_nil) rfl rfl rfl rfl) rfl) da_nil rfl) rfl) rfl))) rfl (.inl rfl))
    (dss_cons (ds_if (dt_cmp (ops_ne (room_u hr 64 (by decide))) (de_callB (call_repr ev.sys hgu (room_u hr 80 (by decide))) cs_repr rfl (fr 12 _ rfl) (by decide +kernel) (da_cons (de_var (i := 3) rfl (vis_by rfl) rfl rfl) da_nil rfl) (by decide) rfl rfl rfl) (de_callB (call_repr ev.sys hgu (room_u hr 80 (by decide))) cs_repr rfl (fr 12 _ rfl) (by decide +kernel) (da_cons (de_bin ops_add2 (de_bin ops_mul2 (de_lst (da_cons (de_var (i := 0) rfl (vis_by rfl) rfl rfl) (da_cons (de_var (i := 1) rfl (vis_by rfl) rfl rfl) da_nil rfl) rfl)) de_int) (de_bin ops_mul2 (de_lst (da_cons (de_var (i := 0) rfl (vis_by rfl) rfl rfl) da_nil rfl)) de_int)) da_nil rfl) (by decide) rfl rfl rfl) rfl) (dss_cons (ds_ret de_bl)
    dss_nil) dss_nil)
    (dss_cons (ds_set (i := 4) sc.nd rfl (loc_by rfl) (de_lst (da_cons (de_mkK (k := 0) (xc_InvalidName ev) (hr.mono (by omega)) rfl (dk_cons (de_var (i := 0) rfl (vis_by rfl) rfl rfl) dk_nil) rfl rfl rfl rfl) (da_cons (de_mkK (k := 0) (xc_InvalidCount ev) (hr.mono (by omega)) rfl (dk_cons (de_var (i := 0) rfl (vis_by rfl) rfl rfl) dk_nil) rfl rfl rfl rfl) (da_cons (de_mkK (k := 0) (xc_InvalidShape ev) (hr.mono (by omega)) rfl (dk_cons (de_var (i := 0) rfl (vis_by rfl) rfl rfl) dk_nil) rfl rfl rfl rfl) (da_cons (de_mkK (k := 0) (xc_InvalidPattern ev) (hr.mono (by omega)) rfl (dk_cons (de_var (i := 0) rfl (vis_by rfl) rfl rfl) dk_nil) rfl rfl rfl rfl) da_nil rfl) rfl) rfl) rfl)) rfl (.inl rfl))
    (dss_cons (ds_set (i := 4) sc.nd rfl (loc_by rfl) (de_bin ops_add2 (de_var (i := 4) rfl (vis_by rfl) rfl rfl) (de_lst (da_cons (de_mkK (k := 0) (xc_InvalidAnswer ev) (hr.mono (by omega)) rfl (dk_cons (de_var (i := 0) rfl (vis_by rfl) rfl rfl) dk_nil) rfl rfl rfl rfl) (da_cons (de_mkK (k := 0) (xc_InvalidRule ev) (hr.mono (by omega)) rfl (dk_cons (de_var (i := 0) rfl (vis_by rfl) rfl rfl) dk_nil) rfl rfl rfl rfl) (da_cons (de_mkK (k := 0) (xc_InvalidAnswers ev) (hr.mono (by omega)) rfl (dk_cons (de_var (i := 0) rfl (vis_by rfl) rfl rfl) dk_nil) rfl rfl rfl rfl) da_nil rfl) rfl) rfl))) rfl (.inl rfl))
    (dss_cons (ds_set (i := 4) sc.nd rfl (loc_by rfl) (de_bin ops_add2 (de_var (i := 4) rfl (vis_by rfl) rfl rfl) (de_lst (da_cons (de_mkK (k := 0) (xc_InvalidFunction ev) (hr.mono (by omega)) rfl (dk_cons (de_var (i := 0) rfl (vis_by rfl) rfl rfl) dk_nil) rfl rfl rfl rfl) (da_cons (de_mkK (k := 0) (xc_InvalidInstance ev) (hr.mono (by omega)) rfl (dk_cons (de_var (i := 0) rfl (vis_by rfl) rfl rfl) dk_nil) rfl rfl rfl rfl) (da_cons (de_mkK (k := 0) (xc_InvalidKey ev) (hr.mono (by omega)) rfl (dk_cons (de_var (i := 0) rfl (vis_by rfl) rfl rfl) dk_nil) rfl rfl rfl rfl) da_nil rfl) rfl) rfl))) rfl (.inl rfl))
    (dss_cons (ds_set (i := 5) sc.nd rfl (loc_by rfl) (de_lst (da_cons (de_mkK (k := 0) (xc_InvalidArguments ev) (hr.mono (by omega)) rfl (dk_cons (de_var (i := 0) rfl (vis_by rfl) rfl rfl) dk_nil) rfl rfl rfl rfl) (da_cons (de_mkK (k := 0) (xc_UnknownQuestion ev) (hr.mono (by omega)) rfl (dk_cons (de_var (i := 0) rfl (vis_by rfl) rfl rfl) dk_nil) rfl rfl rfl rfl) (da_cons (de_mkK (k := 0) (xc_UnknownBase ev) (hr.mono (by omega)) rfl (dk_cons (de_var (i := 0) rfl (vis_by rfl) rfl rfl) dk_nil) rfl rfl rfl rfl) da_nil rfl) rfl) rfl)) rfl (.inl rfl))
    (dss_cons (ds_set (i := 5) sc.nd rfl (loc_by rfl) (de_bin ops_add2 (de_var (i := 5) rfl (vis_by rfl) rfl rfl) (de_lst (da_cons (de_mkK (k := 0) (xc_UnknownConstructor ev) (hr.mono (by omega)) rfl (dk_cons (de_var (i := 0) rfl (vis_by rfl) rfl rfl) dk_nil) rfl rfl rfl rfl) (da_cons (de_mkK (k := 0) (xc_UnknownFunction ev) (hr.mono (by omega)) rfl (dk_cons (de_var (i := 0) rfl (vis_by rfl) rfl rfl) dk_nil) rfl rfl rfl rfl) (da_cons (de_mkK (k := 0) (xc_UnknownKind ev) (hr.mono (by omega)) rfl (dk_cons (de_var (i := 0) rfl (vis_by rfl) rfl rfl) dk_nil) rfl rfl rfl rfl) da_nil rfl) rfl) rfl))) rfl (.inl rfl))
    (dss_cons (ds_set (i := 5) sc.nd rfl (loc_by rfl) (de_bin ops_add2 (de_var (i := 5) rfl (vis_by rfl) rfl rfl) (de_lst (da_cons (de_mkK (k := 0) (xc_UnknownSite ev) (hr.mono (by omega)) rfl (dk_cons (de_var (i := 0) rfl (vis_by rfl) rfl rfl) dk_nil) rfl rfl rfl rfl) (da_cons (de_mkK (k := 0) (xc_UnknownCopy ev) (hr.mono (by omega)) rfl (dk_cons (de_var (i := 0) rfl (vis_by rfl) rfl rfl) dk_nil) rfl rfl rfl rfl) (da_cons (de_mkK (k := 0) (xc_UnknownTask ev) (hr.mono (by omega)) rfl (dk_cons (de_var (i := 0) rfl (vis_by rfl) rfl rfl) dk_nil) rfl rfl rfl rfl) (da_cons (de_mkK (k := 0) (xc_NotWished ev) (hr.mono (by omega)) rfl (dk_cons (de_var (i := 0) rfl (vis_by rfl) rfl rfl) dk_nil) rfl rfl rfl rfl) da_nil rfl) rfl) rfl) rfl))) rfl (.inl rfl))
    (dss_cons (ds_set (i := 3) sc.nd rfl (loc_by rfl) (de_bin ops_add2 (de_lc (own := [("_law_e", 9)]) (ts := [9]) rfl sc.nd (di_expr (de_var (i := 4) rfl (vis_by rfl) rfl rfl)) (blkOk_by (by kernel_rfl)) (by decide) (fun _ _ _ _ _ => (dg_name (i := 9) sc.nd rfl (loc_by rfl) (.inr rfl))) (fun _ _ _ _ _ => dts_nil) (fun _ _ _ _ _ => (de_xv ev xdNL (de_var (i := 9) rfl (vis_by rfl) rfl rfl) rfl)) fun _ => rfl) (de_lc (own := [("_law_e", 9)]) (ts := [9]) rfl sc.nd (di_expr (de_var (i := 5) rfl (vis_by rfl) rfl rfl)) (blkOk_by (by kernel_rfl)) (by decide) (fun _ _ _ _ _ => (dg_name (i := 9) sc.nd rfl (loc_by rfl) (.inr rfl))) (fun _ _ _ _ _ => dts_nil) (fun _ _ _ _ _ => (de_xv ev xdNL (de_var (i := 9) rfl (vis_by rfl) rfl rfl) rfl)) fun _ => rfl)) rfl (.inl rfl))
    (dss_cons (ds_set (i := 3) sc.nd rfl (loc_by rfl) (de_bin ops_add2 (de_var (i := 3) rfl (vis_by rfl) rfl rfl) (de_lst (da_cons (de_xv ev xdNL (de_mkK (k := 0) (xc_InvalidReads ev) (hr.mono (by omega)) rfl (dk_cons (de_var (i := 0) rfl (vis_by rfl) rfl rfl) dk_nil) rfl rfl rfl rfl) rfl) (da_cons (de_xv ev xdNL (de_mkK (k := 0) (xc_InvalidRows ev) (hr.mono (by omega)) rfl (dk_cons (de_var (i := 0) rfl (vis_by rfl) rfl rfl) dk_nil) rfl rfl rfl rfl) rfl) (da_cons (de_xv ev xdNL (de_mkK (k := 0) (xc_InvalidEdit ev) (hr.mono (by omega)) rfl (dk_cons (de_var (i := 0) rfl (vis_by rfl) rfl rfl) dk_nil) rfl rfl rfl rfl) rfl) da_nil rfl) rfl) rfl))) rfl (.inl rfl))
    (dss_cons (ds_set (i := 3) sc.nd rfl (loc_by rfl) (de_bin ops_add2 (de_var (i := 3) rfl (vis_by rfl) rfl rfl) (de_lst (da_cons (de_xv ev xdNL (de_mkK (k := 0) (xc_NameTaken ev) (hr.mono (by omega)) rfl (dk_cons (de_var (i := 0) rfl (vis_by rfl) rfl rfl) dk_nil) rfl rfl rfl rfl) rfl) (da_cons (de_xv ev xdNL (de_mkK (k := 0) (xc_AlreadyWished ev) (hr.mono (by omega)) rfl (dk_cons (de_var (i := 0) rfl (vis_by rfl) rfl rfl) dk_nil) rfl rfl rfl rfl) rfl) (da_cons (de_xv ev xdNL (de_mkK (k := 0) (xc_LostRoot ev) (hr.mono (by omega)) rfl (dk_cons (de_var (i := 0) rfl (vis_by rfl) rfl rfl) dk_nil) rfl rfl rfl rfl) rfl) da_nil rfl) rfl) rfl))) rfl (.inl rfl))
    (dss_cons (ds_set (i := 3) sc.nd rfl (loc_by rfl) (de_bin ops_add2 (de_var (i := 3) rfl (vis_by rfl) rfl rfl) (de_lst (da_cons (de_xv ev xdNL (de_mkK (k := 0) (xc_TaskEnded ev) (hr.mono (by omega)) rfl (dk_cons (de_var (i := 0) rfl (vis_by rfl) rfl rfl) dk_nil) rfl rfl rfl rfl) rfl) (da_cons (de_xv ev xdNL (de_mkK (k := 0) (xc_NothingToUndo ev) (hr.mono (by omega)) rfl (dk_cons (de_var (i := 0) rfl (vis_by rfl) rfl rfl) dk_nil) rfl rfl rfl rfl) rfl) (da_cons (de_xv ev xdNL (de_mkK (k := 0) (xc_TooManySteps ev) (hr.mono (by omega)) rfl (dk_cons (de_var (i := 0) rfl (vis_by rfl) rfl rfl) dk_nil) rfl rfl rfl rfl) rfl) da_nil rfl) rfl) rfl))) rfl (.inl rfl))
    (dss_cons (ds_ret (de_cmp (ops_eq (room_u hr 64 (by decide))) (de_callB (call_repr ev.sys hgu (room_u hr 80 (by decide))) cs_repr rfl (fr 12 _ rfl) (by decide +kernel) (da_cons (de_var (i := 3) rfl (vis_by rfl) rfl rfl) da_nil rfl) (by decide) rfl rfl rfl) (de_callB (call_repr ev.sys hgu (room_u hr 80 (by decide))) cs_repr rfl (fr 12 _ rfl) (by decide +kernel) (da_cons (de_bin ops_mul2 (de_lst (da_cons (de_var (i := 0) rfl (vis_by rfl) rfl rfl) da_nil rfl)) de_int) da_nil rfl) (by decide) rfl rfl rfl) rfl))
    dss_nil)))))))))))))))))
theorem sc__law_groups_right : FnScope ["_law_one", "_law_two", "_law_rows", "_law_e"] ["_law_one", "_law_two"] (defScope st__law_groups_right) := ⟨rfl, rfl, rfl, by decide +kernel, rfl, by decide +kernel, by decide +kernel⟩
theorem ok__law_groups_right (D : FunD K "_law_groups_right" "_law_groups_right" (defArgs st__law_groups_right) (defBody st__law_groups_right) (defScope st__law_groups_right) [] [] f fd) (fr : FreeN frN mg) (ev : EnvE P K mg fileS clsN isaT catT xdL) (g__law_state_errors : CalG P w K mg base 2 "_law_state_errors" ["_law_one", "_law_two"] F__law_state_errors) (g__law_value_errors : CalG P w K mg base 2 "_law_value_errors" ["_law_one"] F__law_value_errors) (g__law_other_errors : CalG P w K mg base 2 "_law_other_errors" ["_law_one", "_law_two"] F__law_other_errors) (g__law_missing_errors : CalG P w K mg base 2 "_law_missing_errors" ["_law_one"] F__law_missing_errors) (g__law_late_errors : CalG P w K mg base 2 "_law_late_errors" ["_law_one"] F__law_late_errors) (g__law_groups : CalG P w K mg base 1 "_law_groups" ["_law_e"] F__law_groups) : FnG P w K mg base 3 f fd ["_law_one", "_law_two"] F__law_groups_right :=
  have sc := sc__law_groups_right
  fnG_ofD D sc rfl fun cdv A outer s H E hr hgu =>
    (dss_cons (ds_set (i := 2) sc.nd rfl (loc_by rfl) (de_bin ops_add2 (de_callC g__law_value_errors (hr.mono (by omega)) hgu rfl (da_cons (de_var (i := 0) rfl (vis_by rfl) rfl rfl) da_nil rfl) (argn_cons argn_nil) rfl rfl rfl) (de_callC g__law_other_errors (hr.mono (by omega)) hgu rfl (da_cons (de_var (i := 0) rfl (vis_by rfl) rfl rfl) (da_cons (de_var (i := 1) rfl (vis_by rfl) rfl rfl) da_nil rfl) rfl) (argn_cons (argn_cons argn_nil)) rfl rfl rfl)) rfl (.inl rfl))
    (dss_cons (ds_if (dt_not (dt_truth (de_callB (cr_all rfl) cs_all rfl (fr 13 _ rfl) (by decide +kernel) (da_cons (de_lc (own := [("_law_e", 3)]) (ts := [3]) rfl sc.nd (di_expr (de_var (i := 2) rfl (vis_by rfl) rfl rfl)) (blkOk_by (by kernel_rfl)) (by decide) (fun _ _ _ _ _ => (dg_name (i := 3) sc.nd rfl (loc_by rfl) (.inr rfl))) (fun _ _ _ _ _ => dts_nil) (fun _ _ _ _ _ => (de_cmp (ops_eq (room_u hr 64 (by decide))) (de_callC g__law_groups (hr.mono (by omega)) hgu rfl (da_cons (de_var (i := 3) rfl (vis_by rfl) rfl rfl) da_nil rfl) (argn_cons argn_nil) rfl rfl rfl) (de_lst (da_cons de_bl (da_cons de_bl (da_cons de_bl (da_cons de_bl (da_cons de_bl (da_cons de_bl (da_cons de_bl (da_cons de_bl (da_cons de_bl da_nil rfl) rfl) rfl) rfl) rfl) rfl) rfl) rfl) rfl)) rfl)) fun _ => rfl) da_nil rfl) (by decide) rfl rfl rfl) fun _ => rfl)) (dss_cons (ds_ret de_bl)
    dss_nil) dss_nil)
    (dss_cons (ds_set (i := 2) sc.nd rfl (loc_by rfl) (de_bin ops_add2 (de_callC g__law_missing_errors (hr.mono (by omega)) hgu rfl (da_cons (de_var (i := 0) rfl (vis_by rfl) rfl rfl) da_nil rfl) (argn_cons argn_nil) rfl rfl rfl) (de_callC g__law_late_errors (hr.mono (by omega)) hgu rfl (da_cons (de_var (i := 0) rfl (vis_by rfl) rfl rfl) da_nil rfl) (argn_cons argn_nil) rfl rfl rfl)) rfl (.inl rfl))
    (dss_cons (ds_if (dt_not (dt_truth (de_callB (cr_all rfl) cs_all rfl (fr 13 _ rfl) (by decide +kernel) (da_cons (de_lc (own := [("_law_e", 3)]) (ts := [3]) rfl sc.nd (di_expr (de_var (i := 2) rfl (vis_by rfl) rfl rfl)) (blkOk_by (by kernel_rfl)) (by decide) (fun _ _ _ _ _ => (dg_name (i := 3) sc.nd rfl (loc_by rfl) (.inr rfl))) (fun _ _ _ _ _ => dts_nil) (fun _ _ _ _ _ => (de_cmp (ops_eq (room_u hr 64 (by decide))) (de_callC g__law_groups (hr.mono (by omega)) hgu rfl (da_cons (de_var (i := 3) rfl (vis_by rfl) rfl rfl) da_nil rfl) (argn_cons argn_nil) rfl rfl rfl) (de_lst (da_cons de_bl (da_cons de_bl (da_cons de_bl (da_cons de_bl (da_cons de_bl (da_cons de_bl (da_cons de_bl (da_cons de_bl (da_cons de_bl da_nil rfl) rfl) rfl) rfl) rfl) rfl) rfl) rfl) rfl)) rfl)) fun _ => rfl) da_nil rfl) (by decide) rfl rfl rfl) fun _ => rfl)) (dss_cons (ds_ret de_bl)
    dss_nil) dss_nil)
    (dss_cons (ds_set (i := 2) sc.nd rfl (loc_by rfl) (de_callC g__law_state_errors (hr.mono (by omega)) hgu rfl (da_cons (de_var (i := 0) rfl (vis_by rfl) rfl rfl) (da_cons (de_var (i := 1) rfl (vis_by rfl) rfl rfl) da_nil rfl) rfl) (argn_cons (argn_cons argn_nil)) rfl rfl rfl) rfl (.inl rfl))
    (dss_cons (ds_if (dt_not (dt_truth (de_callB (cr_all rfl) cs_all rfl (fr 13 _ rfl) (by decide +kernel) (da_cons (de_lc (own := [("_law_e", 3)]) (ts := [3]) rfl sc.nd (di_expr (de_var (i := 2) rfl (vis_by rfl) rfl rfl)) (blkOk_by (by kernel_rfl)) (by decide) (fun _ _ _ _ _ => (dg_name (i := 3) sc.nd rfl (loc_by rfl) (.inr rfl))) (fun _ _ _ _ _ => dts_nil) (fun _ _ _ _ _ => (de_cmp (ops_eq (room_u hr 64 (by decide))) (de_callC g__law_groups (hr.mono (by omega)) hgu rfl (da_cons (de_var (i := 3) rfl (vis_by rfl) rfl rfl) da_nil rfl) (argn_cons argn_nil) rfl rfl rfl) (de_lst (da_cons de_bl (da_cons de_bl (da_cons de_bl (da_cons de_bl (da_cons de_bl (da_cons de_bl (da_cons de_bl (da_cons de_bl (da_cons de_bl da_nil rfl) rfl) rfl) rfl) rfl) rfl) rfl) rfl) rfl)) rfl)) fun _ => rfl) da_nil rfl) (by decide) rfl rfl rfl) fun _ => rfl)) (dss_cons (ds_ret de_bl)
    dss_nil) dss_nil)
    (dss_cons (ds_set (i := 2) sc.nd rfl (loc_by rfl) (de_lst (da_cons (de_mk (k := 0) (xc_TooMany ev) (by decide) (hr.mono (by omega)) rfl (da_cons (de_var (i := 0) rfl (vis_by rfl) rfl rfl) (da_cons (de_var (i := 1) rfl (vis_by rfl) rfl rfl) da_nil rfl) rfl) rfl rfl rfl) (da_cons (de_mk (k := 0) (xc_TooManySteps ev) (by decide) (hr.mono (by omega)) rfl (da_cons (de_var (i := 0) rfl (vis_by rfl) rfl rfl) da_nil rfl) rfl rfl rfl) da_nil rfl) rfl)) rfl (.inl rfl))
    (dss_cons (ds_ret (de_callB (cr_all rfl) cs_all rfl (fr 13 _ rfl) (by decide +kernel) (da_cons (de_lc (own := [("_law_e", 3)]) (ts := [3]) rfl sc.nd (di_expr (de_var (i := 2) rfl (vis_by rfl) rfl rfl)) (blkOk_by (by kernel_rfl)) (by decide) (fun _ _ _ _ _ => (dg_name (i := 3) sc.nd rfl (loc_by rfl) (.inr rfl))) (fun _ _ _ _ _ => dts_nil) (fun _ _ _ _ _ => (de_cmp (ops_eq (room_u hr 64 (by decide))) (de_callC g__law_groups (hr.mono (by omega)) hgu rfl (da_cons (de_var (i := 3) rfl (vis_by rfl) rfl rfl) da_nil rfl) (argn_cons argn_nil) rfl rfl rfl) (de_lst (da_cons de_bl (da_cons de_bl (da_cons de_bl (da_cons de_bl (da_cons de_bl (da_cons de_bl (da_cons de_bl (da_cons de_bl (da_cons de_bl da_nil rfl) rfl) rfl) rfl) rfl) rfl) rfl) rfl) rfl)) rfl)) fun _ => rfl) da_nil rfl) (by decide) rfl rfl rfl))
    dss_nil))))))))
theorem sc__law_value_flags : FnScope ["_law_e", "_law_rows"] ["_law_e"] (defScope st__law_value_flags) := ⟨rfl, rfl, rfl, by decide +kernel, rfl, by decide +kernel, by decide +kernel⟩
theorem ok__law_value_flags (D : FunD K "_law_value_flags" "_law_value_flags" (defArgs st__law_value_flags) (defBody st__law_value_flags) (defScope st__law_value_flags) [] [] f fd) (fr : FreeN frN mg) (ev : EnvE P K mg fileS clsN isaT catT xdL) : FnG P w K mg base 1 f fd ["_law_e"] F__law_value_flags :=
  have sc := sc__law_value_flags
  fnG_ofD D sc rfl fun cdv A outer s H E hr hgu =>
    (dss_cons (ds_set (i := 1) sc.nd rfl (loc_by rfl) (de_lst (da_cons (de_callB call_isi2 (cs_isi2 ev xdNL) rfl (fr 7 _ rfl) (by decide +kernel) (da_cons (de_var (i := 0) rfl (vis_by rfl) rfl rfl) (da_cons (de_clsE (j := 14) ev rfl rfl rfl) da_nil rfl) rfl) (by decide) rfl rfl rfl) (da_cons (de_callB call_isi2 (cs_isi2 ev xdNL) rfl (fr 7 _ rfl) (by decide +kernel) (da_cons (de_var (i := 0) rfl (vis_by rfl) rfl rfl) (da_cons (de_clsE (j := 13) ev rfl rfl rfl) da_nil rfl) rfl) (by decide) rfl rfl rfl) (da_cons (de_callB call_isi2 (cs_isi2 ev xdNL) rfl (fr 7 _ rfl) (by decide +kernel) (da_cons (de_var (i := 0) rfl (vis_by rfl) rfl rfl) (da_cons (de_clsE (j := 12) ev rfl rfl rfl) da_nil rfl) rfl) (by decide) rfl rfl rfl) da_nil rfl) rfl) rfl)) rfl (.inl rfl))
    (dss_cons (ds_set (i := 1) sc.nd rfl (loc_by rfl) (de_bin ops_add2 (de_var (i := 1) rfl (vis_by rfl) rfl rfl) (de_lst (da_cons (de_callB call_isi2 (cs_isi2 ev xdNL) rfl (fr 7 _ rfl) (by decide +kernel) (da_cons (de_var (i := 0) rfl (vis_by rfl) rfl rfl) (da_cons (de_clsE (j := 11) ev rfl rfl rfl) da_nil rfl) rfl) (by decide) rfl rfl rfl) (da_cons (de_callB call_isi2 (cs_isi2 ev xdNL) rfl (fr 7 _ rfl) (by decide +kernel) (da_cons (de_var (i := 0) rfl (vis_by rfl) rfl rfl) (da_cons (de_clsE (j := 10) ev rfl rfl rfl) da_nil rfl) rfl) (by decide) rfl rfl rfl) (da_cons (de_callB call_isi2 (cs_isi2 ev xdNL) rfl (fr 7 _ rfl) (by decide +kernel) (da_cons (de_var (i := 0) rfl (vis_by rfl) rfl rfl) (da_cons (de_clsE (j := 9) ev rfl rfl rfl) da_nil rfl) rfl) (by decide) rfl rfl rfl) da_nil rfl) rfl) rfl))) rfl (.inl rfl))
    (dss_cons (ds_set (i := 1) sc.nd rfl (loc_by rfl) (de_bin ops_add2 (de_var (i := 1) rfl (vis_by rfl) rfl rfl) (de_lst (da_cons (de_callB call_isi2 (cs_isi2 ev xdNL) rfl (fr 7 _ rfl) (by decide +kernel) (da_cons (de_var (i := 0) rfl (vis_by rfl) rfl rfl) (da_cons (de_clsE (j := 8) ev rfl rfl rfl) da_nil rfl) rfl) (by decide) rfl rfl rfl) (da_cons (de_callB call_isi2 (cs_isi2 ev xdNL) rfl (fr 7 _ rfl) (by decide +kernel) (da_cons (de_var (i := 0) rfl (vis_by rfl) rfl rfl) (da_cons (de_clsE (j := 7) ev rfl rfl rfl) da_nil rfl) rfl) (by decide) rfl rfl rfl) (da_cons (de_callB call_isi2 (cs_isi2 ev xdNL) rfl (fr 7 _ rfl) (by decide +kernel) (da_cons (de_var (i := 0) rfl (vis_by rfl) rfl rfl) (da_cons (de_clsE (j := 6) ev rfl rfl rfl) da_nil rfl) rfl) (by decide) rfl rfl rfl) da_nil rfl) rfl) rfl))) rfl (.inl rfl))
    (dss_cons (ds_set (i := 1) sc.nd rfl (loc_by rfl) (de_bin ops_add2 (de_var (i := 1) rfl (vis_by rfl) rfl rfl) (de_lst (da_cons (de_callB call_isi2 (cs_isi2 ev xdNL) rfl (fr 7 _ rfl) (by decide +kernel) (da_cons (de_var (i := 0) rfl (vis_by rfl) rfl rfl) (da_cons (de_clsE (j := 5) ev rfl rfl rfl) da_nil rfl) rfl) (by decide) rfl rfl rfl) (da_cons (de_callB call_isi2 (cs_isi2 ev xdNL) rfl (fr 7 _ rfl) (by decide +kernel) (da_cons (de_var (i := 0) rfl (vis_by rfl) rfl rfl) (da_cons (de_clsE (j := 4) ev rfl rfl rfl) da_nil rfl) rfl) (by decide) rfl rfl rfl) (da_cons (de_callB call_isi2 (cs_isi2 ev xdNL) rfl (fr 7 _ rfl) (by decide +kernel) (da_cons (de_var (i := 0) rfl (vis_by rfl) rfl rfl) (da_cons (de_clsE (j := 21) ev rfl rfl rfl) da_nil rfl) rfl) (by decide) rfl rfl rfl) da_nil rfl) rfl) rfl))) rfl (.inl rfl))
    (dss_cons (ds_set (i := 1) sc.nd rfl (loc_by rfl) (de_bin ops_add2 (de_var (i := 1) rfl (vis_by rfl) rfl rfl) (de_lst (da_cons (de_callB call_isi2 (cs_isi2 ev xdNL) rfl (fr 7 _ rfl) (by decide +kernel) (da_cons (de_var (i := 0) rfl (vis_by rfl) rfl rfl) (da_cons (de_clsE (j := 20) ev rfl rfl rfl) da_nil rfl) rfl) (by decide) rfl rfl rfl) (da_cons (de_callB call_isi2 (cs_isi2 ev xdNL) rfl (fr 7 _ rfl) (by decide +kernel) (da_cons (de_var (i := 0) rfl (vis_by rfl) rfl rfl) (da_cons (de_clsE (j := 19) ev rfl rfl rfl) da_nil rfl) rfl) (by decide) rfl rfl rfl) (da_cons (de_callB call_isi2 (cs_isi2 ev xdNL) rfl (fr 7 _ rfl) (by decide +kernel) (da_cons (de_var (i := 0) rfl (vis_by rfl) rfl rfl) (da_cons (de_clsE (j := 18) ev rfl rfl rfl) da_nil rfl) rfl) (by decide) rfl rfl rfl) da_nil rfl) rfl) rfl))) rfl (.inl rfl))
    (dss_cons (ds_ret (de_bin ops_add2 (de_var (i := 1) rfl (vis_by rfl) rfl rfl) (de_lst (da_cons (de_callB call_isi2 (cs_isi2 ev xdNL) rfl (fr 7 _ rfl) (by decide +kernel) (da_cons (de_var (i := 0) rfl (vis_by rfl) rfl rfl) (da_cons (de_clsE (j := 17) ev rfl rfl rfl) da_nil rfl) rfl) (by decide) rfl rfl rfl) (da_cons (de_callB call_isi2 (cs_isi2 ev xdNL) rfl (fr 7 _ rfl) (by decide +kernel) (da_cons (de_var (i := 0) rfl (vis_by rfl) rfl rfl) (da_cons (de_clsE (j := 16) ev rfl rfl rfl) da_nil rfl) rfl) (by decide) rfl rfl rfl) (da_cons (de_callB call_isi2 (cs_isi2 ev xdNL) rfl (fr 7 _ rfl) (by decide +kernel) (da_cons (de_var (i := 0) rfl (vis_by rfl) rfl rfl) (da_cons (de_clsE (j := 15) ev rfl rfl rfl) da_nil rfl) rfl) (by decide) rfl rfl rfl) da_nil rfl) rfl) rfl))))
    dss_nil))))))
theorem sc__law_missing_flags : FnScope ["_law_e", "_law_rows"] ["_law_e"] (defScope st__law_missing_flags) := ⟨rfl, rfl, rfl, by decide +kernel, rfl, by decide +kernel, by decide +kernel⟩
theorem ok__law_missing_flags (D : FunD K "_law_missing_flags" "_law_missing_flags" (defArgs st__law_missing_flags) (defBody st__law_missing_flags) (defScope st__law_missing_flags) [] [] f fd) (fr : FreeN frN mg) (ev : EnvE P K mg fileS clsN isaT catT xdL) : FnG P w K mg base 1 f fd ["_law_e"] F__law_missing_flags :=
  have sc := sc__law_missing_flags
  fnG_ofD D sc rfl fun cdv A outer s H E hr hgu =>
    (dss_cons (ds_set (i := 1) sc.nd rfl (loc_by rfl) (de_lst (da_cons (de_callB call_isi2 (cs_isi2 ev xdNL) rfl (fr 7 _ rfl) (by decide +kernel) (da_cons (de_var (i := 0) rfl (vis_by rfl) rfl rfl) (da_cons (de_clsE (j := 30) ev rfl rfl rfl) da_nil rfl) rfl) (by decide) rfl rfl rfl) (da_cons (de_callB call_isi2 (cs_isi2 ev xdNL) rfl (fr 7 _ rfl) (by decide +kernel) (da_cons (de_var (i := 0) rfl (vis_by rfl) rfl rfl) (da_cons (de_clsE (j := 29) ev rfl rfl rfl) da_nil rfl) rfl) (by decide) rfl rfl rfl) (da_cons (de_callB call_isi2 (cs_isi2 ev xdNL) rfl (fr 7 _ rfl) (by decide +kernel) (da_cons (de_var (i := 0) rfl (vis_by rfl) rfl rfl) (da_cons (de_clsE (j := 28) ev rfl rfl rfl) da_nil rfl) rfl) (by decide) rfl rfl rfl) da_nil rfl) rfl) rfl)) rfl (.inl rfl))
    (dss_cons (ds_set (i := 1) sc.nd rfl (loc_by rfl) (de_bin ops_add2 (de_var (i := 1) rfl (vis_by rfl) rfl rfl) (de_lst (da_cons (de_callB call_isi2 (cs_isi2 ev xdNL) rfl (fr 7 _ rfl) (by decide +kernel) (da_cons (de_var (i := 0) rfl (vis_by rfl) rfl rfl) (da_cons (de_clsE (j := 27) ev rfl rfl rfl) da_nil rfl) rfl) (by decide) rfl rfl rfl) (da_cons (de_callB call_isi2 (cs_isi2 ev xdNL) rfl (fr 7 _ rfl) (by decide +kernel) (da_cons (de_var (i := 0) rfl (vis_by rfl) rfl rfl) (da_cons (de_clsE (j := 26) ev rfl rfl rfl) da_nil rfl) rfl) (by decide) rfl rfl rfl) (da_cons (de_callB call_isi2 (cs_isi2 ev xdNL) rfl (fr 7 _ rfl) (by decide +kernel) (da_cons (de_var (i := 0) rfl (vis_by rfl) rfl rfl) (da_cons (de_clsE (j := 25) ev rfl rfl rfl) da_nil rfl) rfl) (by decide) rfl rfl rfl) da_nil rfl) rfl) rfl))) rfl (.inl rfl))
    (dss_cons (ds_set (i := 1) sc.nd rfl (loc_by rfl) (de_bin ops_add2 (de_var (i := 1) rfl (vis_by rfl) rfl rfl) (de_lst (da_cons (de_callB call_isi2 (cs_isi2 ev xdNL) rfl (fr 7 _ rfl) (by decide +kernel) (da_cons (de_var (i := 0) rfl (vis_by rfl) rfl rfl) (da_cons (de_clsE (j := 24) ev rfl rfl rfl) da_nil rfl) rfl) (by decide) rfl rfl rfl) (da_cons (de_callB call_isi2 (cs_isi2 ev xdNL) rfl (fr 7 _ rfl) (by decide +kernel) (da_cons (de_var (i := 0) rfl (vis_by rfl) rfl rfl) (da_cons (de_clsE (j := 23) ev rfl rfl rfl) da_nil rfl) rfl) (by decide) rfl rfl rfl) (da_cons (de_callB call_isi2 (cs_isi2 ev xdNL) rfl (fr 7 _ rfl) (by decide +kernel) (da_cons (de_var (i := 0) rfl (vis_by rfl) rfl rfl) (da_cons (de_clsE (j := 22) ev rfl rfl rfl) da_nil rfl) rfl) (by decide) rfl rfl rfl) da_nil rfl) rfl) rfl))) rfl (.inl rfl))
    (dss_cons (ds_ret (de_bin ops_add2 (de_var (i := 1) rfl (vis_by rfl) rfl rfl) (de_lst (da_cons (de_callB call_isi2 (cs_isi2 ev xdNL) rfl (fr 7 _ rfl) (by decide +kernel) (da_cons (de_var (i := 0) rfl (vis_by rfl) rfl rfl) (da_cons (de_clsE (j := 32) ev rfl rfl rfl) da_nil rfl) rfl) (by decide) rfl rfl rfl) (da_cons (de_callB call_isi2 (cs_isi2 ev xdNL) rfl (fr 7 _ rfl) (by decide +kernel) (da_cons (de_var (i := 0) rfl (vis_by rfl) rfl rfl) (da_cons (de_clsE (j := 31) ev rfl rfl rfl) da_nil rfl) rfl) (by decide) rfl rfl rfl) da_nil rfl) rfl))))
    dss_nil))))
theorem sc__law_state_flags : FnScope ["_law_e", "_law_rows"] ["_law_e"] (defScope st__law_state_flags) := ⟨rfl, rfl, rfl, by decide +kernel, rfl, by decide +kernel, by decide +kernel⟩
theorem ok__law_state_flags (D : FunD K "_law_state_flags" "_law_state_flags" (defArgs st__law_state_flags) (defBody st__law_state_flags) (defScope st__law_state_flags) [] [] f fd) (fr : FreeN frN mg) (ev : EnvE P K mg fileS clsN isaT catT xdL) : FnG P w K mg base 1 f fd ["_law_e"] F__law_state_flags :=
  have sc := sc__law_state_flags
  fnG_ofD D sc rfl fun cdv A outer s H E hr hgu =>
    (dss_cons (ds_set (i := 1) sc.nd rfl (loc_by rfl) (de_lst (da_cons (de_callB call_isi2 (cs_isi2 ev xdNL) rfl (fr 7 _ rfl) (by decide +kernel) (da_cons (de_var (i := 0) rfl (vis_by rfl) rfl rfl) (da_cons (de_clsE (j := 39) ev rfl rfl rfl) da_nil rfl) rfl) (by decide) rfl rfl rfl) (da_cons (de_callB call_isi2 (cs_isi2 ev xdNL) rfl (fr 7 _ rfl) (by decide +kernel) (da_cons (de_var (i := 0) rfl (vis_by rfl) rfl rfl) (da_cons (de_clsE (j := 38) ev rfl rfl rfl) da_nil rfl) rfl) (by decide) rfl rfl rfl) (da_cons (de_callB call_isi2 (cs_isi2 ev xdNL) rfl (fr 7 _ rfl) (by decide +kernel) (da_cons (de_var (i := 0) rfl (vis_by rfl) rfl rfl) (da_cons (de_clsE (j := 37) ev rfl rfl rfl) da_nil rfl) rfl) (by decide) rfl rfl rfl) (da_cons (de_callB call_isi2 (cs_isi2 ev xdNL) rfl (fr 7 _ rfl) (by decide +kernel) (da_cons (de_var (i := 0) rfl (vis_by rfl) rfl rfl) (da_cons (de_clsE (j := 36) ev rfl rfl rfl) da_nil rfl) rfl) (by decide) rfl rfl rfl) da_nil rfl) rfl) rfl) rfl)) rfl (.inl rfl))
    (dss_cons (ds_ret (de_bin ops_add2 (de_var (i := 1) rfl (vis_by rfl) rfl rfl) (de_lst (da_cons (de_callB call_isi2 (cs_isi2 ev xdNL) rfl (fr 7 _ rfl) (by decide +kernel) (da_cons (de_var (i := 0) rfl (vis_by rfl) rfl rfl) (da_cons (de_clsE (j := 35) ev rfl rfl rfl) da_nil rfl) rfl) (by decide) rfl rfl rfl) (da_cons (de_callB call_isi2 (cs_isi2 ev xdNL) rfl (fr 7 _ rfl) (by decide +kernel) (da_cons (de_var (i := 0) rfl (vis_by rfl) rfl rfl) (da_cons (de_clsE (j := 34) ev rfl rfl rfl) da_nil rfl) rfl) (by decide) rfl rfl rfl) (da_cons (de_callB call_isi2 (cs_isi2 ev xdNL) rfl (fr 7 _ rfl) (by decide +kernel) (da_cons (de_var (i := 0) rfl (vis_by rfl) rfl rfl) (da_cons (de_clsE (j := 33) ev rfl rfl rfl) da_nil rfl) rfl) (by decide) rfl rfl rfl) da_nil rfl) rfl) rfl))))
    dss_nil))
theorem sc__law_is_diagonal : FnScope ["_law_rows", "_law_k", "_law_j"] ["_law_rows"] (defScope st__law_is_diagonal) := ⟨rfl, rfl, rfl, by decide +kernel, rfl, by decide +kernel, by decide +kernel⟩
theorem ok__law_is_diagonal (D : FunD K "_law_is_diagonal" "_law_is_diagonal" (defArgs st__law_is_diagonal) (defBody st__law_is_diagonal) (defScope st__law_is_diagonal) [] [] f fd) (fr : FreeN frN mg) (ev : EnvE P K mg fileS clsN isaT catT xdL) : FnG P w K mg base 1 f fd ["_law_rows"] F__law_is_diagonal :=
  have sc := sc__law_is_diagonal
  fnG_ofD D sc rfl fun cdv A outer s H E hr hgu =>
    (dss_cons (ds_ret (de_cmp (ops_eq (room_u hr 64 (by decide))) (de_var (i := 0) rfl (vis_by rfl) rfl rfl) (de_lc (own := [("_law_k", 1)]) (ts := [1]) rfl sc.nd (di_range1 rfl (fr 14 _ rfl) (da_cons (de_callB call_len cs_len rfl (fr 1 _ rfl) (by decide +kernel) (da_cons (de_var (i := 0) rfl (vis_by rfl) rfl rfl) da_nil rfl) (by decide) rfl rfl rfl) da_nil rfl) rfl) (blkOk_by (by kernel_rfl)) (by decide) (fun _ _ _ _ _ => (dg_name (i := 1) sc.nd rfl (loc_by rfl) (.inl rfl))) (fun _ _ _ _ _ => dts_nil) (fun _ _ _ _ _ => (de_lc (own := [("_law_j", 2)]) (ts := [2]) rfl sc.nd (di_range1 rfl (fr 14 _ rfl) (da_cons (de_callB call_len cs_len rfl (fr 1 _ rfl) (by decide +kernel) (da_cons (de_var (i := 0) rfl (vis_by rfl) rfl rfl) da_nil rfl) (by decide) rfl rfl rfl) da_nil rfl) rfl) (blkOk_by (by kernel_rfl)) (by decide) (fun _ _ _ _ _ => (dg_name (i := 2) sc.nd rfl (loc_by rfl) (.inr rfl))) (fun _ _ _ _ _ => dts_nil) (fun _ _ _ _ _ => (de_cmp (ops_eq (room_u hr 64 (by decide))) (de_var (i := 1) rfl (vis_by rfl) rfl rfl) (de_var (i := 2) rfl (vis_by rfl) rfl rfl) rfl)) fun _ => rfl)) fun _ => rfl) rfl))
    dss_nil)
theorem sc__law_apart_right : FnScope ["_law_one", "_law_two", "_law_rows", "_law_e"] ["_law_one", "_law_two"] (defScope st__law_apart_right) := ⟨rfl, rfl, rfl, by decide +kernel, rfl, by decide +kernel, by decide +kernel⟩
theorem ok__law_apart_right (D : FunD K "_law_apart_right" "_law_apart_right" (defArgs st__law_apart_right) (defBody st__law_apart_right) (defScope st__law_apart_right) [] [] f fd) (fr : FreeN frN mg) (ev : EnvE P K mg fileS clsN isaT catT xdL) (g__law_value_flags : CalG P w K mg base 1 "_law_value_flags" ["_law_e"] F__law_value_flags) (g__law_is_diagonal : CalG P w K mg base 1 "_law_is_diagonal" ["_law_rows"] F__law_is_diagonal) (g__law_missing_flags : CalG P w K mg base 1 "_law_missing_flags" ["_law_e"] F__law_missing_flags) (g__law_value_errors : CalG P w K mg base 2 "_law_value_errors" ["_law_one"] F__law_value_errors) (g__law_other_errors : CalG P w K mg base 2 "_law_other_errors" ["_law_one", "_law_two"] F__law_other_errors) (g__law_missing_errors : CalG P w K mg base 2 "_law_missing_errors" ["_law_one"] F__law_missing_errors) (g__law_late_errors : CalG P w K mg base 2 "_law_late_errors" ["_law_one"] F__law_late_errors) (g__law_state_flags : CalG P w K mg base 1 "_law_state_flags" ["_law_e"] F__law_state_flags) (g__law_state_errors : CalG P w K mg base 2 "_law_state_errors" ["_law_one", "_law_two"] F__law_state_errors) : FnG P w K mg base 3 f fd ["_law_one", "_law_two"] F__law_apart_right :=
  have sc := sc__law_apart_right
  fnG_ofD D sc rfl fun cdv A outer s H E hr hgu =>
    (dss_cons (ds_setLc (i := 2) (own := [("_law_e", 3)]) (ts := [3]) rfl sc.nd rfl rfl rfl (di_expr (de_bin ops_add2 (de_callC g__law_value_errors (hr.mono (by omega)) hgu rfl (da_cons (de_var (i := 0) rfl (vis_by rfl) rfl rfl) da_nil rfl) (argn_cons argn_nil) rfl rfl rfl) (de_callC g__law_other_errors (hr.mono (by omega)) hgu rfl (da_cons (de_var (i := 0) rfl (vis_by rfl) rfl rfl) (da_cons (de_var (i := 1) rfl (vis_by rfl) rfl rfl) da_nil rfl) rfl) (argn_cons (argn_cons argn_nil)) rfl rfl rfl))) (blkOk_by (by kernel_rfl)) (by decide) (fun _ _ _ _ _ => (dg_name (i := 3) sc.nd rfl (loc_by rfl) (.inr rfl))) (fun _ _ _ _ _ => dts_nil) (fun _ _ _ _ _ => (de_callC g__law_value_flags (hr.mono (by omega)) hgu rfl (da_cons (de_var (i := 3) rfl (vis_by rfl) rfl rfl) da_nil rfl) (argn_cons argn_nil) rfl rfl rfl)) fun _ => rfl)
    (dss_cons (ds_if (dt_not (dt_truth (de_callC g__law_is_diagonal (hr.mono (by omega)) hgu rfl (da_cons (de_var (i := 2) rfl (vis_by rfl) rfl rfl) da_nil rfl) (argn_cons argn_nil) rfl rfl rfl) fun _ => rfl)) (dss_cons (ds_ret de_bl)
    dss_nil) dss_nil)
    (dss_cons (ds_setLc (i := 2) (own := [("_law_e", 3)]) (ts := [3]) rfl sc.nd rfl rfl rfl (di_expr (de_bin ops_add2 (de_callC g__law_missing_errors (hr.mono (by omega)) hgu rfl (da_cons (de_var (i := 0) rfl (vis_by rfl) rfl rfl) da_nil rfl) (argn_cons argn_nil) rfl rfl rfl) (de_callC g__law_late_errors (hr.mono (by omega)) hgu rfl (da_cons (de_var (i := 0) rfl (vis_by rfl) rfl rfl) da_nil rfl) (argn_cons argn_nil) rfl rfl rfl))) (blkOk_by (by kernel_rfl)) (by decide) (fun _ _ _ _ _ => (dg_name (i := 3) sc.nd rfl (loc_by rfl) (.inr rfl))) (fun _ _ _ _ _ => dts_nil) (fun _ _ _ _ _ => (de_callC g__law_missing_flags (hr.mono (by omega)) hgu rfl (da_cons (de_var (i := 3) rfl (vis_by rfl) rfl rfl) da_nil rfl) (argn_cons argn_nil) rfl rfl rfl)) fun _ => rfl)
    (dss_cons (ds_if (DW.dt (dw_or (dt_not (dt_truth (de_callC g__law_is_diagonal (hr.mono (by omega)) hgu rfl (da_cons (de_var (i := 2) rfl (vis_by rfl) rfl rfl) da_nil rfl) (argn_cons argn_nil) rfl rfl rfl) fun _ => rfl)) (dw_or1 (dt_not (dt_truth (de_callC g__law_is_diagonal (hr.mono (by omega)) hgu rfl (da_cons (de_lc (own := [("_law_e", 3)]) (ts := [3]) rfl sc.nd (di_expr (de_callC g__law_state_errors (hr.mono (by omega)) hgu rfl (da_cons (de_var (i := 0) rfl (vis_by rfl) rfl rfl) (da_cons (de_var (i := 1) rfl (vis_by rfl) rfl rfl) da_nil rfl) rfl) (argn_cons (argn_cons argn_nil)) rfl rfl rfl)) (blkOk_by (by kernel_rfl)) (by decide) (fun _ _ _ _ _ => (dg_name (i := 3) sc.nd rfl (loc_by rfl) (.inr rfl))) (fun _ _ _ _ _ => dts_nil) (fun _ _ _ _ _ => (de_callC g__law_state_flags (hr.mono (by omega)) hgu rfl (da_cons (de_var (i := 3) rfl (vis_by rfl) rfl rfl) da_nil rfl) (argn_cons argn_nil) rfl rfl rfl)) fun _ => rfl) da_nil rfl) (argn_cons argn_nil) rfl rfl rfl) fun _ => rfl))))) (dss_cons (ds_ret de_bl)
    dss_nil) dss_nil)
    (dss_cons (ds_ret (de_and (de_not (de_callB call_isi2 (cs_isi2 ev xdNL) rfl (fr 7 _ rfl) (by decide +kernel) (da_cons (de_mk (k := 0) (xc_TooManySteps ev) (by decide) (hr.mono (by omega)) rfl (da_cons (de_var (i := 0) rfl (vis_by rfl) rfl rfl) da_nil rfl) rfl rfl rfl) (da_cons (de_clsE (j := 41) ev rfl rfl rfl) da_nil rfl) rfl) (by decide) rfl rfl rfl)) (de_one (de_not (de_callB call_isi2 (cs_isi2 ev xdNL) rfl (fr 7 _ rfl) (by decide +kernel) (da_cons (de_mk (k := 0) (xc_TooMany ev) (by decide) (hr.mono (by omega)) rfl (da_cons (de_var (i := 0) rfl (vis_by rfl) rfl rfl) (da_cons (de_var (i := 1) rfl (vis_by rfl) rfl rfl) da_nil rfl) rfl) rfl rfl rfl) (da_cons (de_clsE (j := 40) ev rfl rfl rfl) da_nil rfl) rfl) (by decide) rfl rfl rfl)))))
    dss_nil)))))
theorem sc__law_right : FnScope ["_law_rng_here", "_law_options", "_law_one", "_law_two"] ["_law_rng_here"] (defScope st__law_right) := ⟨rfl, rfl, rfl, by decide +kernel, rfl, by decide +kernel, by decide +kernel⟩
theorem ok__law_right (D : FunD K "_law_right" "_law_right" (defArgs st__law_right) (defBody st__law_right) (defScope st__law_right) [] [] f fd) (fr : FreeN frN mg) (ev : EnvE P K mg fileS clsN isaT catT xdL) (g__law_choice : CalG P w K mg base 2 "_law_choice" ["_law_rng_here", "_law_options"] F__law_choice) (g__law_groups_right : CalG P w K mg base 3 "_law_groups_right" ["_law_one", "_law_two"] F__law_groups_right) (g__law_apart_right : CalG P w K mg base 3 "_law_apart_right" ["_law_one", "_law_two"] F__law_apart_right) (g__law_named_right : CalG P w K mg base 2 "_law_named_right" ["_law_one", "_law_two"] F__law_named_right) (g__law_told : CalG P w K mg base 3 "_law_told" ["_law_one", "_law_two"] F__law_told) (g__law_due : CalG P w K mg base 1 "_law_due" ["_law_one", "_law_two"] F__law_due) : FnG P w K mg base 4 f fd ["_law_rng_here"] F__law_right :=
  have sc := sc__law_right
  fnG_ofD D sc rfl fun cdv A outer s H E hr hgu =>
    (dss_cons (ds_set (i := 1) sc.nd rfl (loc_by rfl) (de_lst (da_cons de_non (da_cons de_int (da_cons de_int (da_cons de_bl (da_cons de_str (da_cons de_str (da_cons (de_tup (da_cons de_str da_nil rfl)) (da_cons (de_lst (da_cons de_str da_nil rfl)) (da_cons de_dct0 (da_cons (de_tup (da_cons de_str (da_cons (de_tup (da_cons de_str da_nil rfl)) da_nil rfl) rfl)) (da_cons (de_bin ops_pow de_int de_int) (da_cons (de_un uns_neg de_int) (da_cons (de_tup (da_cons (de_tup (da_cons de_str (da_cons de_int da_nil rfl) rfl)) (da_cons (de_tup (da_cons de_int (da_cons de_int da_nil rfl) rfl)) da_nil rfl) rfl)) da_nil rfl) rfl) rfl) rfl) rfl) rfl) rfl) rfl) rfl) rfl) rfl) rfl) rfl)) rfl (.inl rfl))
    (dss_cons (ds_par (i := 2) (j := 3) rfl sc.nd rfl rfl (by decide) rfl rfl (da_cons (de_callC g__law_choice (hr.mono (by omega)) hgu rfl (da_cons (de_var (i := 0) rfl (vis_by rfl) rfl rfl) (da_cons (de_var (i := 1) rfl (vis_by rfl) rfl rfl) da_nil rfl) rfl) (argn_cons (argn_cons argn_nil)) rfl rfl rfl) (da_cons (de_callC g__law_choice (hr.mono (by omega)) hgu rfl (da_cons (de_var (i := 0) rfl (vis_by rfl) rfl rfl) (da_cons (de_var (i := 1) rfl (vis_by rfl) rfl rfl) da_nil rfl) rfl) (argn_cons (argn_cons argn_nil)) rfl rfl rfl) da_nil rfl) rfl) rfl rfl)
    (dss_cons (ds_if (DW.dt (dw_or (dt_cmp (ops_ne (room_u hr 64 (by decide))) (de_callB (call_repr ev.sys hgu (room_u hr 80 (by decide))) cs_repr rfl (fr 12 _ rfl) (by decide +kernel) (da_cons (de_callC g__law_told (hr.mono (by omega)) hgu rfl (da_cons (de_var (i := 2) rfl (vis_by rfl) rfl rfl) (da_cons (de_var (i := 3) rfl (vis_by rfl) rfl rfl) da_nil rfl) rfl) (argn_cons (argn_cons argn_nil)) rfl rfl rfl) da_nil rfl) (by decide) rfl rfl rfl) (de_callB (call_repr ev.sys hgu (room_u hr 80 (by decide))) cs_repr rfl (fr 12 _ rfl) (by decide +kernel) (da_cons (de_callC g__law_due (hr.mono (by omega)) hgu rfl (da_cons (de_var (i := 2) rfl (vis_by rfl) rfl rfl) (da_cons (de_var (i := 3) rfl (vis_by rfl) rfl rfl) da_nil rfl) rfl) (argn_cons (argn_cons argn_nil)) rfl rfl rfl) da_nil rfl) (by decide) rfl rfl rfl) rfl) (dw_or1 (dt_not (dt_truth (de_callC g__law_named_right (hr.mono (by omega)) hgu rfl (da_cons (de_var (i := 2) rfl (vis_by rfl) rfl rfl) (da_cons (de_var (i := 3) rfl (vis_by rfl) rfl rfl) da_nil rfl) rfl) (argn_cons (argn_cons argn_nil)) rfl rfl rfl) fun _ => rfl))))) (dss_cons (ds_ret de_bl)
    dss_nil) dss_nil)
    (dss_cons (ds_ret (de_and (de_callC g__law_groups_right (hr.mono (by omega)) hgu rfl (da_cons (de_var (i := 2) rfl (vis_by rfl) rfl rfl) (da_cons (de_var (i := 3) rfl (vis_by rfl) rfl rfl) da_nil rfl) rfl) (argn_cons (argn_cons argn_nil)) rfl rfl rfl) (de_one (de_callC g__law_apart_right (hr.mono (by omega)) hgu rfl (da_cons (de_var (i := 2) rfl (vis_by rfl) rfl rfl) (da_cons (de_var (i := 3) rfl (vis_by rfl) rfl rfl) da_nil rfl) rfl) (argn_cons (argn_cons argn_nil)) rfl rfl rfl))))
    dss_nil))))
theorem sc_law : FnScope ["_law_script", "_law_k"] ["_law_script"] (defScope st_law) := ⟨rfl, rfl, rfl, by decide +kernel, rfl, by decide +kernel, by decide +kernel⟩
theorem ok_law (D : FunD K "law" "law" (defArgs st_law) (defBody st_law) (defScope st_law) [] [] f fd) (fr : FreeN frN mg) (ev : EnvE P K mg fileS clsN isaT catT xdL) (g__law_right : CalG P w K mg base 4 "_law_right" ["_law_rng_here"] F__law_right) (g__law_rng : CalG P w K mg base 1 "_law_rng" ["_law_script", "_law_k"] F__law_rng) : FnG P w K mg base 5 f fd ["_law_script"] F_law :=
  have sc := sc_law
  fnG_ofD D sc rfl fun cdv A outer s H E hr hgu =>
    (dss_cons (ds_ret (de_callB (cr_all rfl) cs_all rfl (fr 13 _ rfl) (by decide +kernel) (da_cons (de_lc (own := [("_law_k", 1)]) (ts := [1]) rfl sc.nd (di_range1 rfl (fr 14 _ rfl) (da_cons (de_callB (call_max12 rfl) cs_max12 rfl (fr 0 _ rfl) (by decide +kernel) (da_cons de_int (da_cons (de_callB (call_min2 rfl) cs_min rfl (fr 15 _ rfl) (by decide +kernel) (da_cons de_int (da_cons (de_callB call_len cs_len rfl (fr 1 _ rfl) (by decide +kernel) (da_cons (de_var (i := 0) rfl (vis_by rfl) rfl rfl) da_nil rfl) (by decide) rfl rfl rfl) da_nil rfl) rfl) (by decide) rfl rfl rfl) da_nil rfl) rfl) (by decide) rfl rfl rfl) da_nil rfl) rfl) (blkOk_by (by kernel_rfl)) (by decide) (fun _ _ _ _ _ => (dg_name (i := 1) sc.nd rfl (loc_by rfl) (.inr rfl))) (fun _ _ _ _ _ => dts_nil) (fun _ _ _ _ _ => (de_callC g__law_right (hr.mono (by omega)) hgu rfl (da_cons (de_callC g__law_rng (hr.mono (by omega)) hgu rfl (da_cons (de_var (i := 0) rfl (vis_by rfl) rfl rfl) (da_cons (de_var (i := 1) rfl (vis_by rfl) rfl rfl) da_nil rfl) rfl) (argn_cons (argn_cons argn_nil)) rfl rfl rfl) da_nil rfl) (argn_cons argn_nil) rfl rfl rfl)) fun _ => rfl) da_nil rfl) (by decide) rfl rfl rfl))
    dss_nil)
end
end Lw

set_option Elab.async false
set_option maxRecDepth 100000
set_option maxHeartbeats 4000000
set_option linter.unusedVariables false
namespace Lw
open PySem L2 Lc PySem.Spec PyProof.Rows He
/-! ### the head: facts by names, the run -/
def d__law_rng : He.DefD := ⟨("_law_rng", none), "_law_rng", "_law_rng", defArgs st__law_rng, defBody st__law_rng, defScope st__law_rng, [], []⟩
def d__law_draw : He.DefD := ⟨("_law_draw", none), "_law_draw", "_law_draw", defArgs st__law_draw, defBody st__law_draw, defScope st__law_draw, [], []⟩
def d__law_choice : He.DefD := ⟨("_law_choice", none), "_law_choice", "_law_choice", defArgs st__law_choice, defBody st__law_choice, defScope st__law_choice, [], []⟩
def d__law_groups : He.DefD := ⟨("_law_groups", none), "_law_groups", "_law_groups", defArgs st__law_groups, defBody st__law_groups, defScope st__law_groups, [], []⟩
def d__law_value_errors : He.DefD := ⟨("_law_value_errors", none), "_law_value_errors", "_law_value_errors", defArgs st__law_value_errors, defBody st__law_value_errors, defScope st__law_value_errors, [], []⟩
def d__law_other_errors : He.DefD := ⟨("_law_other_errors", none), "_law_other_errors", "_law_other_errors", defArgs st__law_other_errors, defBody st__law_other_errors, defScope st__law_other_errors, [], []⟩
def d__law_missing_errors : He.DefD := ⟨("_law_missing_errors", none), "_law_missing_errors", "_law_missing_errors", defArgs st__law_missing_errors, defBody st__law_missing_errors, defScope st__law_missing_errors, [], []⟩
def d__law_late_errors : He.DefD := ⟨("_law_late_errors", none), "_law_late_errors", "_law_late_errors", defArgs st__law_late_errors, defBody st__law_late_errors, defScope st__law_late_errors, [], []⟩
def d__law_state_errors : He.DefD := ⟨("_law_state_errors", none), "_law_state_errors", "_law_state_errors", defArgs st__law_state_errors, defBody st__law_state_errors, defScope st__law_state_errors, [], []⟩
def d__law_told : He.DefD := ⟨("_law_told", none), "_law_told", "_law_told", defArgs st__law_told, defBody st__law_told, defScope st__law_told, [], []⟩
def d__law_due : He.DefD := ⟨("_law_due", none), "_law_due", "_law_due", defArgs st__law_due, defBody st__law_due, defScope st__law_due, [], []⟩
def d__law_named_right : He.DefD := ⟨("_law_named_right", none), "_law_named_right", "_law_named_right", defArgs st__law_named_right, defBody st__law_named_right, defScope st__law_named_right, [], []⟩
def d__law_groups_right : He.DefD := ⟨("_law_groups_right", none), "_law_groups_right", "_law_groups_right", defArgs st__law_groups_right, defBody st__law_groups_right, defScope st__law_groups_right, [], []⟩
def d__law_value_flags : He.DefD := ⟨("_law_value_flags", none), "_law_value_flags", "_law_value_flags", defArgs st__law_value_flags, defBody st__law_value_flags, defScope st__law_value_flags, [], []⟩
def d__law_missing_flags : He.DefD := ⟨("_law_missing_flags", none), "_law_missing_flags", "_law_missing_flags", defArgs st__law_missing_flags, defBody st__law_missing_flags, defScope st__law_missing_flags, [], []⟩
def d__law_state_flags : He.DefD := ⟨("_law_state_flags", none), "_law_state_flags", "_law_state_flags", defArgs st__law_state_flags, defBody st__law_state_flags, defScope st__law_state_flags, [], []⟩
def d__law_is_diagonal : He.DefD := ⟨("_law_is_diagonal", none), "_law_is_diagonal", "_law_is_diagonal", defArgs st__law_is_diagonal, defBody st__law_is_diagonal, defScope st__law_is_diagonal, [], []⟩
def d__law_apart_right : He.DefD := ⟨("_law_apart_right", none), "_law_apart_right", "_law_apart_right", defArgs st__law_apart_right, defBody st__law_apart_right, defScope st__law_apart_right, [], []⟩
def d__law_right : He.DefD := ⟨("_law_right", none), "_law_right", "_law_right", defArgs st__law_right, defBody st__law_right, defScope st__law_right, [], []⟩
def d_law : He.DefD := ⟨("law", none), "law", "law", defArgs st_law, defBody st_law, defScope st_law, [], []⟩
def fnL : List He.DefD := [d__law_rng, d__law_draw, d__law_choice, d__law_groups, d__law_value_errors, d__law_other_errors, d__law_missing_errors, d__law_late_errors, d__law_state_errors, d__law_told, d__law_due, d__law_named_right, d__law_groups_right, d__law_value_flags, d__law_missing_flags, d__law_state_flags, d__law_is_diagonal, d__law_apart_right, d__law_right, d_law]
def faL : List He.Fa := [.glo "_law_rng", .glo "_law_draw", .glo "_law_choice", .glo "_law_groups", .glo "_law_value_errors", .glo "_law_other_errors", .glo "_law_missing_errors", .glo "_law_late_errors", .glo "_law_state_errors", .glo "_law_told", .glo "_law_due", .glo "_law_named_right", .glo "_law_groups_right", .glo "_law_value_flags", .glo "_law_missing_flags", .glo "_law_state_flags", .glo "_law_is_diagonal", .glo "_law_apart_right", .glo "_law_right", .glo "law", .glo "LimitError", .glo "StateError", .glo "MissingError", .glo "CopyError", .glo "InvalidArguments", .glo "InvalidKey", .glo "InvalidInstance", .glo "InvalidFunction", .glo "InvalidAnswers", .glo "InvalidRule", .glo "InvalidAnswer", .glo "InvalidPattern", .glo "InvalidShape", .glo "InvalidCount", .glo "InvalidName", .glo "InvalidCommand", .glo "InvalidText", .glo "InvalidEdit", .glo "InvalidProgram", .glo "InvalidCatalog", .glo "InvalidRows", .glo "InvalidReads", .glo "NotWished", .glo "UnknownTask", .glo "UnknownCopy", .glo "UnknownSite", .glo "UnknownKind", .glo "UnknownFunction", .glo "UnknownConstructor", .glo "UnknownBase", .glo "UnknownQuestion", .glo "NoShape", .glo "NotBuilt", .glo "RunFailed", .glo "NothingToUndo", .glo "TaskEnded", .glo "LostRoot", .glo "AlreadyWished", .glo "InUse", .glo "NameTaken", .glo "TooManySteps", .glo "TooMany", .free "max", .free "len", .free "abs", .free "divmod", .free "ZeroDivisionError", .free "IndexError", .free "KeyError", .free "isinstance", .free "ArithmeticError", .free "RuntimeError", .free "LookupError", .free "ValueError", .free "repr", .free "all", .free "range", .free "min", .free "super"]
abbrev R : PySem.W.OpenRow := PySem.W.OpenLaw.row PySem.Challenge.rw_leastcopies_k17_error_classes
abbrev hk : PySem.W.Hook := hookS 4 faL fnL fileS xdL exB
def ob (s : PySem.W.SharedT) : AlS := obsS 4 faL fnL fileS xdL exB (HandSHeadRun.getT s)
theorem ob_eq (s : PySem.W.SharedT) : ob s = hk.obs s.abs := obsS_eq (HandSHeadRun.getT_eq s)
noncomputable def lkF (w : World) (s : PySem.W.SharedT) : Bool := HandSHeadRun.looksF R.prog (PySem.W.boot_heap w.params) s.abs
noncomputable def snF (s : PySem.W.SharedT) := HandSHeadRun.seenQ (PySem.W.view R.prog [63]) [PySem.Str.ofString "__name__", PySem.Str.ofString "CopyError", PySem.Str.ofString "InvalidName", PySem.Str.ofString "InvalidCount", PySem.Str.ofString "InvalidShape", PySem.Str.ofString "InvalidPattern", PySem.Str.ofString "InvalidAnswer", PySem.Str.ofString "InvalidReads", PySem.Str.ofString "InvalidRows", PySem.Str.ofString "InvalidRule", PySem.Str.ofString "InvalidAnswers", PySem.Str.ofString "InvalidCatalog", PySem.Str.ofString "InvalidFunction", PySem.Str.ofString "InvalidProgram", PySem.Str.ofString "InvalidInstance", PySem.Str.ofString "InvalidKey", PySem.Str.ofString "InvalidEdit", PySem.Str.ofString "InvalidArguments", PySem.Str.ofString "InvalidText", PySem.Str.ofString "InvalidCommand", PySem.Str.ofString "MissingError", PySem.Str.ofString "UnknownQuestion", PySem.Str.ofString "UnknownBase", PySem.Str.ofString "UnknownConstructor", PySem.Str.ofString "UnknownFunction", PySem.Str.ofString "UnknownKind", PySem.Str.ofString "UnknownSite", PySem.Str.ofString "UnknownCopy", PySem.Str.ofString "UnknownTask", PySem.Str.ofString "NotWished", PySem.Str.ofString "NotBuilt", PySem.Str.ofString "NoShape", PySem.Str.ofString "StateError", PySem.Str.ofString "NameTaken", PySem.Str.ofString "InUse", PySem.Str.ofString "AlreadyWished", PySem.Str.ofString "LostRoot", PySem.Str.ofString "TaskEnded", PySem.Str.ofString "NothingToUndo", PySem.Str.ofString "RunFailed", PySem.Str.ofString "LimitError", PySem.Str.ofString "TooMany", PySem.Str.ofString "TooManySteps", PySem.Str.ofString "_law_rng", PySem.Str.ofString "_law_draw", PySem.Str.ofString "_law_choice", PySem.Str.ofString "_law_groups", PySem.Str.ofString "_law_value_errors", PySem.Str.ofString "_law_other_errors", PySem.Str.ofString "_law_missing_errors", PySem.Str.ofString "_law_late_errors", PySem.Str.ofString "_law_state_errors", PySem.Str.ofString "_law_told", PySem.Str.ofString "_law_due", PySem.Str.ofString "_law_named_right", PySem.Str.ofString "_law_groups_right", PySem.Str.ofString "_law_value_flags", PySem.Str.ofString "_law_missing_flags", PySem.Str.ofString "_law_state_flags", PySem.Str.ofString "_law_is_diagonal", PySem.Str.ofString "_law_apart_right", PySem.Str.ofString "_law_right"] (importedModules R.prog.main.body) (fun s => PySem.W.xlAt (PySem.W.view R.prog [63]) [] s && PySem.W.recOk R.toRowW.records s) s.abs
def xdL1 : List XD := xdL.take 20
def xdL2 : List XD := xdL.drop 20
theorem runA (w : World) (os : OsState) : (HandSHeadRun.endF (HandSHeadRun.stepQ (HandSHeadRun.denQ HandSHeadRun.tabQ) R.prog w) 20000 R.prog w os).map (fun s => (lkF w s, snF s, obsD faL fnL (frS (HandSHeadRun.getT s) 4))) = some (true, PySem.W.openGood (PySem.W.view R.prog [63]) [PySem.Str.ofString "__name__", PySem.Str.ofString "CopyError", PySem.Str.ofString "InvalidName", PySem.Str.ofString "InvalidCount", PySem.Str.ofString "InvalidShape", PySem.Str.ofString "InvalidPattern", PySem.Str.ofString "InvalidAnswer", PySem.Str.ofString "InvalidReads", PySem.Str.ofString "InvalidRows", PySem.Str.ofString "InvalidRule", PySem.Str.ofString "InvalidAnswers", PySem.Str.ofString "InvalidCatalog", PySem.Str.ofString "InvalidFunction", PySem.Str.ofString "InvalidProgram", PySem.Str.ofString "InvalidInstance", PySem.Str.ofString "InvalidKey", PySem.Str.ofString "InvalidEdit", PySem.Str.ofString "InvalidArguments", PySem.Str.ofString "InvalidText", PySem.Str.ofString "InvalidCommand", PySem.Str.ofString "MissingError", PySem.Str.ofString "UnknownQuestion", PySem.Str.ofString "UnknownBase", PySem.Str.ofString "UnknownConstructor", PySem.Str.ofString "UnknownFunction", PySem.Str.ofString "UnknownKind", PySem.Str.ofString "UnknownSite", PySem.Str.ofString "UnknownCopy", PySem.Str.ofString "UnknownTask", PySem.Str.ofString "NotWished", PySem.Str.ofString "NotBuilt", PySem.Str.ofString "NoShape", PySem.Str.ofString "StateError", PySem.Str.ofString "NameTaken", PySem.Str.ofString "InUse", PySem.Str.ofString "AlreadyWished", PySem.Str.ofString "LostRoot", PySem.Str.ofString "TaskEnded", PySem.Str.ofString "NothingToUndo", PySem.Str.ofString "RunFailed", PySem.Str.ofString "LimitError", PySem.Str.ofString "TooMany", PySem.Str.ofString "TooManySteps", PySem.Str.ofString "_law_rng", PySem.Str.ofString "_law_draw", PySem.Str.ofString "_law_choice", PySem.Str.ofString "_law_groups", PySem.Str.ofString "_law_value_errors", PySem.Str.ofString "_law_other_errors", PySem.Str.ofString "_law_missing_errors", PySem.Str.ofString "_law_late_errors", PySem.Str.ofString "_law_state_errors", PySem.Str.ofString "_law_told", PySem.Str.ofString "_law_due", PySem.Str.ofString "_law_named_right", PySem.Str.ofString "_law_groups_right", PySem.Str.ofString "_law_value_flags", PySem.Str.ofString "_law_missing_flags", PySem.Str.ofString "_law_state_flags", PySem.Str.ofString "_law_is_diagonal", PySem.Str.ofString "_law_apart_right", PySem.Str.ofString "_law_right"], valD fnL) := by kernel_rfl
theorem runX1 (w : World) (os : OsState) : (HandSHeadRun.endF (HandSHeadRun.stepQ (HandSHeadRun.denQ HandSHeadRun.tabQ) R.prog w) 20000 R.prog w os).map (fun s => obsX fileS xdL1 (frS (HandSHeadRun.getT s) 4)) = some (true, xdL1.map XD.val) := by kernel_rfl
theorem runX2 (w : World) (os : OsState) : (HandSHeadRun.endF (HandSHeadRun.stepQ (HandSHeadRun.denQ HandSHeadRun.tabQ) R.prog w) 20000 R.prog w os).map (fun s => obsX fileS xdL2 (frS (HandSHeadRun.getT s) 4)) = some (true, xdL2.map XD.val) := by kernel_rfl
theorem runC (w : World) (os : OsState) : (HandSHeadRun.endF (HandSHeadRun.stepQ (HandSHeadRun.denQ HandSHeadRun.tabQ) R.prog w) 20000 R.prog w os).map (fun s => exB (frS (HandSHeadRun.getT s) 4)) = some true := by kernel_rfl
theorem run (w : World) : HandSHeadRun.RunEq R (PySem.W.view R.prog [63]) hk ob 20000 [PySem.Str.ofString "__name__", PySem.Str.ofString "CopyError", PySem.Str.ofString "InvalidName", PySem.Str.ofString "InvalidCount", PySem.Str.ofString "InvalidShape", PySem.Str.ofString "InvalidPattern", PySem.Str.ofString "InvalidAnswer", PySem.Str.ofString "InvalidReads", PySem.Str.ofString "InvalidRows", PySem.Str.ofString "InvalidRule", PySem.Str.ofString "InvalidAnswers", PySem.Str.ofString "InvalidCatalog", PySem.Str.ofString "InvalidFunction", PySem.Str.ofString "InvalidProgram", PySem.Str.ofString "InvalidInstance", PySem.Str.ofString "InvalidKey", PySem.Str.ofString "InvalidEdit", PySem.Str.ofString "InvalidArguments", PySem.Str.ofString "InvalidText", PySem.Str.ofString "InvalidCommand", PySem.Str.ofString "MissingError", PySem.Str.ofString "UnknownQuestion", PySem.Str.ofString "UnknownBase", PySem.Str.ofString "UnknownConstructor", PySem.Str.ofString "UnknownFunction", PySem.Str.ofString "UnknownKind", PySem.Str.ofString "UnknownSite", PySem.Str.ofString "UnknownCopy", PySem.Str.ofString "UnknownTask", PySem.Str.ofString "NotWished", PySem.Str.ofString "NotBuilt", PySem.Str.ofString "NoShape", PySem.Str.ofString "StateError", PySem.Str.ofString "NameTaken", PySem.Str.ofString "InUse", PySem.Str.ofString "AlreadyWished", PySem.Str.ofString "LostRoot", PySem.Str.ofString "TaskEnded", PySem.Str.ofString "NothingToUndo", PySem.Str.ofString "RunFailed", PySem.Str.ofString "LimitError", PySem.Str.ofString "TooMany", PySem.Str.ofString "TooManySteps", PySem.Str.ofString "_law_rng", PySem.Str.ofString "_law_draw", PySem.Str.ofString "_law_choice", PySem.Str.ofString "_law_groups", PySem.Str.ofString "_law_value_errors", PySem.Str.ofString "_law_other_errors", PySem.Str.ofString "_law_missing_errors", PySem.Str.ofString "_law_late_errors", PySem.Str.ofString "_law_state_errors", PySem.Str.ofString "_law_told", PySem.Str.ofString "_law_due", PySem.Str.ofString "_law_named_right", PySem.Str.ofString "_law_groups_right", PySem.Str.ofString "_law_value_flags", PySem.Str.ofString "_law_missing_flags", PySem.Str.ofString "_law_state_flags", PySem.Str.ofString "_law_is_diagonal", PySem.Str.ofString "_law_apart_right", PySem.Str.ofString "_law_right"] w := fun os => run_join (xs := xdL1) (ys := xdL2) rfl (runA w os) (runX1 w os) (runX2 w os) (runC w os)
end Lw

set_option Elab.async false
set_option maxRecDepth 100000
set_option maxHeartbeats 4000000
set_option linter.unusedVariables false
namespace Lw
open PySem L2 Lc PySem.Spec PyProof.Rows He
theorem facts {w : World} {K : PySem.W.Frag} {h : Heap} {mg : Str → Option Value} {f : Addr} (X : K.In h) (G : h.Ns mainGlobals mg) (hfa : mg ("law" : Str) = some (.ref f)) (c : SaysS faL fnL fileS xdL exB K) :
    ∃ fd : FuncData, (∀ (s : Shared) (v : Value), BindsTo s fd ⟨[v], []⟩ [("_law_script", v)]) ∧ ∀ base : Heap, K.In base → base.Ns mainGlobals mg → FnG PySem.Challenge.rw_leastcopies_k17_error_classes.prog w K mg base 5 f fd ["_law_script"] F_law := by
  have fr : FreeN frN mg := fun i x e => by
    match i, e with
    | 0, e => exact (Option.some.inj e) ▸ He.free_ok X G (c.d.fact 62 (f := .free "max") rfl)
    | 1, e => exact (Option.some.inj e) ▸ He.free_ok X G (c.d.fact 63 (f := .free "len") rfl)
    | 2, e => exact (Option.some.inj e) ▸ He.free_ok X G (c.d.fact 64 (f := .free "abs") rfl)
    | 3, e => exact (Option.some.inj e) ▸ He.free_ok X G (c.d.fact 65 (f := .free "divmod") rfl)
    | 4, e => exact (Option.some.inj e) ▸ He.free_ok X G (c.d.fact 66 (f := .free "ZeroDivisionError") rfl)
    | 5, e => exact (Option.some.inj e) ▸ He.free_ok X G (c.d.fact 67 (f := .free "IndexError") rfl)
    | 6, e => exact (Option.some.inj e) ▸ He.free_ok X G (c.d.fact 68 (f := .free "KeyError") rfl)
    | 7, e => exact (Option.some.inj e) ▸ He.free_ok X G (c.d.fact 69 (f := .free "isinstance") rfl)
    | 8, e => exact (Option.some.inj e) ▸ He.free_ok X G (c.d.fact 70 (f := .free "ArithmeticError") rfl)
    | 9, e => exact (Option.some.inj e) ▸ He.free_ok X G (c.d.fact 71 (f := .free "RuntimeError") rfl)
    | 10, e => exact (Option.some.inj e) ▸ He.free_ok X G (c.d.fact 72 (f := .free "LookupError") rfl)
    | 11, e => exact (Option.some.inj e) ▸ He.free_ok X G (c.d.fact 73 (f := .free "ValueError") rfl)
    | 12, e => exact (Option.some.inj e) ▸ He.free_ok X G (c.d.fact 74 (f := .free "repr") rfl)
    | 13, e => exact (Option.some.inj e) ▸ He.free_ok X G (c.d.fact 75 (f := .free "all") rfl)
    | 14, e => exact (Option.some.inj e) ▸ He.free_ok X G (c.d.fact 76 (f := .free "range") rfl)
    | 15, e => exact (Option.some.inj e) ▸ He.free_ok X G (c.d.fact 77 (f := .free "min") rfl)
    | 16, e => exact (Option.some.inj e) ▸ He.free_ok X G (c.d.fact 78 (f := .free "super") rfl)
    | _ + 17, e => exact nomatch e
  have cl : ∀ (i : Nat) (y : Str), clsN[i]? = some y → mg y = some (.ref (He.ga K y)) ∧ PySem.W.nsIn K mainGlobals y = some (some (.ref (He.ga K y))) := fun i y e => by
    match i, e with
    | 0, e => exact (Option.some.inj e) ▸ ⟨He.glo_ok X G (c.d.fact 20 (f := .glo "LimitError") rfl), He.eqO_ok (c.d.fact 20 (f := .glo "LimitError") rfl)⟩
    | 1, e => exact (Option.some.inj e) ▸ ⟨He.glo_ok X G (c.d.fact 21 (f := .glo "StateError") rfl), He.eqO_ok (c.d.fact 21 (f := .glo "StateError") rfl)⟩
    | 2, e => exact (Option.some.inj e) ▸ ⟨He.glo_ok X G (c.d.fact 22 (f := .glo "MissingError") rfl), He.eqO_ok (c.d.fact 22 (f := .glo "MissingError") rfl)⟩
    | 3, e => exact (Option.some.inj e) ▸ ⟨He.glo_ok X G (c.d.fact 23 (f := .glo "CopyError") rfl), He.eqO_ok (c.d.fact 23 (f := .glo "CopyError") rfl)⟩
    | 4, e => exact (Option.some.inj e) ▸ ⟨He.glo_ok X G (c.d.fact 24 (f := .glo "InvalidArguments") rfl), He.eqO_ok (c.d.fact 24 (f := .glo "InvalidArguments") rfl)⟩
    | 5, e => exact (Option.some.inj e) ▸ ⟨He.glo_ok X G (c.d.fact 25 (f := .glo "InvalidKey") rfl), He.eqO_ok (c.d.fact 25 (f := .glo "InvalidKey") rfl)⟩
    | 6, e => exact (Option.some.inj e) ▸ ⟨He.glo_ok X G (c.d.fact 26 (f := .glo "InvalidInstance") rfl), He.eqO_ok (c.d.fact 26 (f := .glo "InvalidInstance") rfl)⟩
    | 7, e => exact (Option.some.inj e) ▸ ⟨He.glo_ok X G (c.d.fact 27 (f := .glo "InvalidFunction") rfl), He.eqO_ok (c.d.fact 27 (f := .glo "InvalidFunction") rfl)⟩
    | 8, e => exact (Option.some.inj e) ▸ ⟨He.glo_ok X G (c.d.fact 28 (f := .glo "InvalidAnswers") rfl), He.eqO_ok (c.d.fact 28 (f := .glo "InvalidAnswers") rfl)⟩
    | 9, e => exact (Option.some.inj e) ▸ ⟨He.glo_ok X G (c.d.fact 29 (f := .glo "InvalidRule") rfl), He.eqO_ok (c.d.fact 29 (f := .glo "InvalidRule") rfl)⟩
    | 10, e => exact (Option.some.inj e) ▸ ⟨He.glo_ok X G (c.d.fact 30 (f := .glo "InvalidAnswer") rfl), He.eqO_ok (c.d.fact 30 (f := .glo "InvalidAnswer") rfl)⟩
    | 11, e => exact (Option.some.inj e) ▸ ⟨He.glo_ok X G (c.d.fact 31 (f := .glo "InvalidPattern") rfl), He.eqO_ok (c.d.fact 31 (f := .glo "InvalidPattern") rfl)⟩
    | 12, e => exact (Option.some.inj e) ▸ ⟨He.glo_ok X G (c.d.fact 32 (f := .glo "InvalidShape") rfl), He.eqO_ok (c.d.fact 32 (f := .glo "InvalidShape") rfl)⟩
    | 13, e => exact (Option.some.inj e) ▸ ⟨He.glo_ok X G (c.d.fact 33 (f := .glo "InvalidCount") rfl), He.eqO_ok (c.d.fact 33 (f := .glo "InvalidCount") rfl)⟩
    | 14, e => exact (Option.some.inj e) ▸ ⟨He.glo_ok X G (c.d.fact 34 (f := .glo "InvalidName") rfl), He.eqO_ok (c.d.fact 34 (f := .glo "InvalidName") rfl)⟩
    | 15, e => exact (Option.some.inj e) ▸ ⟨He.glo_ok X G (c.d.fact 35 (f := .glo "InvalidCommand") rfl), He.eqO_ok (c.d.fact 35 (f := .glo "InvalidCommand") rfl)⟩
    | 16, e => exact (Option.some.inj e) ▸ ⟨He.glo_ok X G (c.d.fact 36 (f := .glo "InvalidText") rfl), He.eqO_ok (c.d.fact 36 (f := .glo "InvalidText") rfl)⟩
    | 17, e => exact (Option.some.inj e) ▸ ⟨He.glo_ok X G (c.d.fact 37 (f := .glo "InvalidEdit") rfl), He.eqO_ok (c.d.fact 37 (f := .glo "InvalidEdit") rfl)⟩
    | 18, e => exact (Option.some.inj e) ▸ ⟨He.glo_ok X G (c.d.fact 38 (f := .glo "InvalidProgram") rfl), He.eqO_ok (c.d.fact 38 (f := .glo "InvalidProgram") rfl)⟩
    | 19, e => exact (Option.some.inj e) ▸ ⟨He.glo_ok X G (c.d.fact 39 (f := .glo "InvalidCatalog") rfl), He.eqO_ok (c.d.fact 39 (f := .glo "InvalidCatalog") rfl)⟩
    | 20, e => exact (Option.some.inj e) ▸ ⟨He.glo_ok X G (c.d.fact 40 (f := .glo "InvalidRows") rfl), He.eqO_ok (c.d.fact 40 (f := .glo "InvalidRows") rfl)⟩
    | 21, e => exact (Option.some.inj e) ▸ ⟨He.glo_ok X G (c.d.fact 41 (f := .glo "InvalidReads") rfl), He.eqO_ok (c.d.fact 41 (f := .glo "InvalidReads") rfl)⟩
    | 22, e => exact (Option.some.inj e) ▸ ⟨He.glo_ok X G (c.d.fact 42 (f := .glo "NotWished") rfl), He.eqO_ok (c.d.fact 42 (f := .glo "NotWished") rfl)⟩
    | 23, e => exact (Option.some.inj e) ▸ ⟨He.glo_ok X G (c.d.fact 43 (f := .glo "UnknownTask") rfl), He.eqO_ok (c.d.fact 43 (f := .glo "UnknownTask") rfl)⟩
    | 24, e => exact (Option.some.inj e) ▸ ⟨He.glo_ok X G (c.d.fact 44 (f := .glo "UnknownCopy") rfl), He.eqO_ok (c.d.fact 44 (f := .glo "UnknownCopy") rfl)⟩
    | 25, e => exact (Option.some.inj e) ▸ ⟨He.glo_ok X G (c.d.fact 45 (f := .glo "UnknownSite") rfl), He.eqO_ok (c.d.fact 45 (f := .glo "UnknownSite") rfl)⟩
    | 26, e => exact (Option.some.inj e) ▸ ⟨He.glo_ok X G (c.d.fact 46 (f := .glo "UnknownKind") rfl), He.eqO_ok (c.d.fact 46 (f := .glo "UnknownKind") rfl)⟩
    | 27, e => exact (Option.some.inj e) ▸ ⟨He.glo_ok X G (c.d.fact 47 (f := .glo "UnknownFunction") rfl), He.eqO_ok (c.d.fact 47 (f := .glo "UnknownFunction") rfl)⟩
    | 28, e => exact (Option.some.inj e) ▸ ⟨He.glo_ok X G (c.d.fact 48 (f := .glo "UnknownConstructor") rfl), He.eqO_ok (c.d.fact 48 (f := .glo "UnknownConstructor") rfl)⟩
    | 29, e => exact (Option.some.inj e) ▸ ⟨He.glo_ok X G (c.d.fact 49 (f := .glo "UnknownBase") rfl), He.eqO_ok (c.d.fact 49 (f := .glo "UnknownBase") rfl)⟩
    | 30, e => exact (Option.some.inj e) ▸ ⟨He.glo_ok X G (c.d.fact 50 (f := .glo "UnknownQuestion") rfl), He.eqO_ok (c.d.fact 50 (f := .glo "UnknownQuestion") rfl)⟩
    | 31, e => exact (Option.some.inj e) ▸ ⟨He.glo_ok X G (c.d.fact 51 (f := .glo "NoShape") rfl), He.eqO_ok (c.d.fact 51 (f := .glo "NoShape") rfl)⟩
    | 32, e => exact (Option.some.inj e) ▸ ⟨He.glo_ok X G (c.d.fact 52 (f := .glo "NotBuilt") rfl), He.eqO_ok (c.d.fact 52 (f := .glo "NotBuilt") rfl)⟩
    | 33, e => exact (Option.some.inj e) ▸ ⟨He.glo_ok X G (c.d.fact 53 (f := .glo "RunFailed") rfl), He.eqO_ok (c.d.fact 53 (f := .glo "RunFailed") rfl)⟩
    | 34, e => exact (Option.some.inj e) ▸ ⟨He.glo_ok X G (c.d.fact 54 (f := .glo "NothingToUndo") rfl), He.eqO_ok (c.d.fact 54 (f := .glo "NothingToUndo") rfl)⟩
    | 35, e => exact (Option.some.inj e) ▸ ⟨He.glo_ok X G (c.d.fact 55 (f := .glo "TaskEnded") rfl), He.eqO_ok (c.d.fact 55 (f := .glo "TaskEnded") rfl)⟩
    | 36, e => exact (Option.some.inj e) ▸ ⟨He.glo_ok X G (c.d.fact 56 (f := .glo "LostRoot") rfl), He.eqO_ok (c.d.fact 56 (f := .glo "LostRoot") rfl)⟩
    | 37, e => exact (Option.some.inj e) ▸ ⟨He.glo_ok X G (c.d.fact 57 (f := .glo "AlreadyWished") rfl), He.eqO_ok (c.d.fact 57 (f := .glo "AlreadyWished") rfl)⟩
    | 38, e => exact (Option.some.inj e) ▸ ⟨He.glo_ok X G (c.d.fact 58 (f := .glo "InUse") rfl), He.eqO_ok (c.d.fact 58 (f := .glo "InUse") rfl)⟩
    | 39, e => exact (Option.some.inj e) ▸ ⟨He.glo_ok X G (c.d.fact 59 (f := .glo "NameTaken") rfl), He.eqO_ok (c.d.fact 59 (f := .glo "NameTaken") rfl)⟩
    | 40, e => exact (Option.some.inj e) ▸ ⟨He.glo_ok X G (c.d.fact 60 (f := .glo "TooManySteps") rfl), He.eqO_ok (c.d.fact 60 (f := .glo "TooManySteps") rfl)⟩
    | 41, e => exact (Option.some.inj e) ▸ ⟨He.glo_ok X G (c.d.fact 61 (f := .glo "TooMany") rfl), He.eqO_ok (c.d.fact 61 (f := .glo "TooMany") rfl)⟩
    | _ + 42, e => exact nomatch e
  have ev : EnvE PySem.Challenge.rw_leastcopies_k17_error_classes.prog K mg fileS clsN isaT catT xdL := ⟨cl, (He.ba (He.ba c.more).2).1, (He.ba (He.ba c.more).2).2, c.xc, fr 16 _ rfl, Option.isSome_iff_exists.mp (He.ba c.more).1, by kernel_rfl, by kernel_rfl⟩
  obtain ⟨fd__law_rng, D__law_rng⟩ := c.d.def_ 0 (d := d__law_rng) rfl
  have m__law_rng := He.glo_ok X G (c.d.fact 0 (f := .glo "_law_rng") rfl)
  obtain ⟨fd__law_draw, D__law_draw⟩ := c.d.def_ 1 (d := d__law_draw) rfl
  have m__law_draw := He.glo_ok X G (c.d.fact 1 (f := .glo "_law_draw") rfl)
  obtain ⟨fd__law_choice, D__law_choice⟩ := c.d.def_ 2 (d := d__law_choice) rfl
  have m__law_choice := He.glo_ok X G (c.d.fact 2 (f := .glo "_law_choice") rfl)
  obtain ⟨fd__law_groups, D__law_groups⟩ := c.d.def_ 3 (d := d__law_groups) rfl
  have m__law_groups := He.glo_ok X G (c.d.fact 3 (f := .glo "_law_groups") rfl)
  obtain ⟨fd__law_value_errors, D__law_value_errors⟩ := c.d.def_ 4 (d := d__law_value_errors) rfl
  have m__law_value_errors := He.glo_ok X G (c.d.fact 4 (f := .glo "_law_value_errors") rfl)
  obtain ⟨fd__law_other_errors, D__law_other_errors⟩ := c.d.def_ 5 (d := d__law_other_errors) rfl
  have m__law_other_errors := He.glo_ok X G (c.d.fact 5 (f := .glo "_law_other_errors") rfl)
  obtain ⟨fd__law_missing_errors, D__law_missing_errors⟩ := c.d.def_ 6 (d := d__law_missing_errors) rfl
  have m__law_missing_errors := He.glo_ok X G (c.d.fact 6 (f := .glo "_law_missing_errors") rfl)
  obtain ⟨fd__law_late_errors, D__law_late_errors⟩ := c.d.def_ 7 (d := d__law_late_errors) rfl
  have m__law_late_errors := He.glo_ok X G (c.d.fact 7 (f := .glo "_law_late_errors") rfl)
  obtain ⟨fd__law_state_errors, D__law_state_errors⟩ := c.d.def_ 8 (d := d__law_state_errors) rfl
  have m__law_state_errors := He.glo_ok X G (c.d.fact 8 (f := .glo "_law_state_errors") rfl)
  obtain ⟨fd__law_told, D__law_told⟩ := c.d.def_ 9 (d := d__law_told) rfl
  have m__law_told := He.glo_ok X G (c.d.fact 9 (f := .glo "_law_told") rfl)
  obtain ⟨fd__law_due, D__law_due⟩ := c.d.def_ 10 (d := d__law_due) rfl
  have m__law_due := He.glo_ok X G (c.d.fact 10 (f := .glo "_law_due") rfl)
  obtain ⟨fd__law_named_right, D__law_named_right⟩ := c.d.def_ 11 (d := d__law_named_right) rfl
  have m__law_named_right := He.glo_ok X G (c.d.fact 11 (f := .glo "_law_named_right") rfl)
  obtain ⟨fd__law_groups_right, D__law_groups_right⟩ := c.d.def_ 12 (d := d__law_groups_right) rfl
  have m__law_groups_right := He.glo_ok X G (c.d.fact 12 (f := .glo "_law_groups_right") rfl)
  obtain ⟨fd__law_value_flags, D__law_value_flags⟩ := c.d.def_ 13 (d := d__law_value_flags) rfl
  have m__law_value_flags := He.glo_ok X G (c.d.fact 13 (f := .glo "_law_value_flags") rfl)
  obtain ⟨fd__law_missing_flags, D__law_missing_flags⟩ := c.d.def_ 14 (d := d__law_missing_flags) rfl
  have m__law_missing_flags := He.glo_ok X G (c.d.fact 14 (f := .glo "_law_missing_flags") rfl)
  obtain ⟨fd__law_state_flags, D__law_state_flags⟩ := c.d.def_ 15 (d := d__law_state_flags) rfl
  have m__law_state_flags := He.glo_ok X G (c.d.fact 15 (f := .glo "_law_state_flags") rfl)
  obtain ⟨fd__law_is_diagonal, D__law_is_diagonal⟩ := c.d.def_ 16 (d := d__law_is_diagonal) rfl
  have m__law_is_diagonal := He.glo_ok X G (c.d.fact 16 (f := .glo "_law_is_diagonal") rfl)
  obtain ⟨fd__law_apart_right, D__law_apart_right⟩ := c.d.def_ 17 (d := d__law_apart_right) rfl
  have m__law_apart_right := He.glo_ok X G (c.d.fact 17 (f := .glo "_law_apart_right") rfl)
  obtain ⟨fd__law_right, D__law_right⟩ := c.d.def_ 18 (d := d__law_right) rfl
  have m__law_right := He.glo_ok X G (c.d.fact 18 (f := .glo "_law_right") rfl)
  obtain ⟨fd_law, D_law⟩ := c.d.def_ 19 (d := d_law) rfl
  have m_law := He.glo_ok X G (c.d.fact 19 (f := .glo "law") rfl)
  have e := hfa.symm.trans m_law
  cases e
  have b := FunD.bindsA (ps := ["_law_script"]) D_law fun _ _ _ _ _ _ us hl => match us, hl with | [_], _ => rfl
  refine ⟨fd_law, fun s v => b s [v] rfl, fun base _ _ => ?_⟩
  have g__law_rng : CalG PySem.Challenge.rw_leastcopies_k17_error_classes.prog w K mg base 1 "_law_rng" ["_law_script", "_law_k"] F__law_rng := cal_of D__law_rng (ok__law_rng D__law_rng fr ev) m__law_rng (fun _ _ _ _ _ _ us hl => match us, hl with | [_, _], _ => rfl) (fun _ _ _ _ _ _ us hl => match us, hl with | [_, _], _ => rfl)
  have g__law_draw : CalG PySem.Challenge.rw_leastcopies_k17_error_classes.prog w K mg base 1 "_law_draw" ["_law_rng_here", "_law_many"] F__law_draw := cal_of D__law_draw (ok__law_draw D__law_draw fr ev) m__law_draw (fun _ _ _ _ _ _ us hl => match us, hl with | [_, _], _ => rfl) (fun _ _ _ _ _ _ us hl => match us, hl with | [_, _], _ => rfl)
  have g__law_choice : CalG PySem.Challenge.rw_leastcopies_k17_error_classes.prog w K mg base 2 "_law_choice" ["_law_rng_here", "_law_options"] F__law_choice := cal_of D__law_choice (ok__law_choice D__law_choice fr ev g__law_draw) m__law_choice (fun _ _ _ _ _ _ us hl => match us, hl with | [_, _], _ => rfl) (fun _ _ _ _ _ _ us hl => match us, hl with | [_, _], _ => rfl)
  have g__law_groups : CalG PySem.Challenge.rw_leastcopies_k17_error_classes.prog w K mg base 1 "_law_groups" ["_law_e"] F__law_groups := cal_of D__law_groups (ok__law_groups D__law_groups fr ev) m__law_groups (fun _ _ _ _ _ _ us hl => match us, hl with | [_], _ => rfl) (fun _ _ _ _ _ _ us hl => match us, hl with | [_], _ => rfl)
  have g__law_value_errors : CalG PySem.Challenge.rw_leastcopies_k17_error_classes.prog w K mg base 2 "_law_value_errors" ["_law_one"] F__law_value_errors := cal_of D__law_value_errors (ok__law_value_errors D__law_value_errors fr ev) m__law_value_errors (fun _ _ _ _ _ _ us hl => match us, hl with | [_], _ => rfl) (fun _ _ _ _ _ _ us hl => match us, hl with | [_], _ => rfl)
  have g__law_other_errors : CalG PySem.Challenge.rw_leastcopies_k17_error_classes.prog w K mg base 2 "_law_other_errors" ["_law_one", "_law_two"] F__law_other_errors := cal_of D__law_other_errors (ok__law_other_errors D__law_other_errors fr ev) m__law_other_errors (fun _ _ _ _ _ _ us hl => match us, hl with | [_, _], _ => rfl) (fun _ _ _ _ _ _ us hl => match us, hl with | [_, _], _ => rfl)
  have g__law_missing_errors : CalG PySem.Challenge.rw_leastcopies_k17_error_classes.prog w K mg base 2 "_law_missing_errors" ["_law_one"] F__law_missing_errors := cal_of D__law_missing_errors (ok__law_missing_errors D__law_missing_errors fr ev) m__law_missing_errors (fun _ _ _ _ _ _ us hl => match us, hl with | [_], _ => rfl) (fun _ _ _ _ _ _ us hl => match us, hl with | [_], _ => rfl)
  have g__law_late_errors : CalG PySem.Challenge.rw_leastcopies_k17_error_classes.prog w K mg base 2 "_law_late_errors" ["_law_one"] F__law_late_errors := cal_of D__law_late_errors (ok__law_late_errors D__law_late_errors fr ev) m__law_late_errors (fun _ _ _ _ _ _ us hl => match us, hl with | [_], _ => rfl) (fun _ _ _ _ _ _ us hl => match us, hl with | [_], _ => rfl)
  have g__law_state_errors : CalG PySem.Challenge.rw_leastcopies_k17_error_classes.prog w K mg base 2 "_law_state_errors" ["_law_one", "_law_two"] F__law_state_errors := cal_of D__law_state_errors (ok__law_state_errors D__law_state_errors fr ev) m__law_state_errors (fun _ _ _ _ _ _ us hl => match us, hl with | [_, _], _ => rfl) (fun _ _ _ _ _ _ us hl => match us, hl with | [_, _], _ => rfl)
  have g__law_told : CalG PySem.Challenge.rw_leastcopies_k17_error_classes.prog w K mg base 3 "_law_told" ["_law_one", "_law_two"] F__law_told := cal_of D__law_told (ok__law_told D__law_told fr ev g__law_value_errors g__law_missing_errors) m__law_told (fun _ _ _ _ _ _ us hl => match us, hl with | [_, _], _ => rfl) (fun _ _ _ _ _ _ us hl => match us, hl with | [_, _], _ => rfl)
  have g__law_due : CalG PySem.Challenge.rw_leastcopies_k17_error_classes.prog w K mg base 1 "_law_due" ["_law_one", "_law_two"] F__law_due := cal_of D__law_due (ok__law_due D__law_due fr ev) m__law_due (fun _ _ _ _ _ _ us hl => match us, hl with | [_, _], _ => rfl) (fun _ _ _ _ _ _ us hl => match us, hl with | [_, _], _ => rfl)
  have g__law_named_right : CalG PySem.Challenge.rw_leastcopies_k17_error_classes.prog w K mg base 2 "_law_named_right" ["_law_one", "_law_two"] F__law_named_right := cal_of D__law_named_right (ok__law_named_right D__law_named_right fr ev) m__law_named_right (fun _ _ _ _ _ _ us hl => match us, hl with | [_, _], _ => rfl) (fun _ _ _ _ _ _ us hl => match us, hl with | [_, _], _ => rfl)
  have g__law_groups_right : CalG PySem.Challenge.rw_leastcopies_k17_error_classes.prog w K mg base 3 "_law_groups_right" ["_law_one", "_law_two"] F__law_groups_right := cal_of D__law_groups_right (ok__law_groups_right D__law_groups_right fr ev g__law_state_errors g__law_value_errors g__law_other_errors g__law_missing_errors g__law_late_errors g__law_groups) m__law_groups_right (fun _ _ _ _ _ _ us hl => match us, hl with | [_, _], _ => rfl) (fun _ _ _ _ _ _ us hl => match us, hl with | [_, _], _ => rfl)
  have g__law_value_flags : CalG PySem.Challenge.rw_leastcopies_k17_error_classes.prog w K mg base 1 "_law_value_flags" ["_law_e"] F__law_value_flags := cal_of D__law_value_flags (ok__law_value_flags D__law_value_flags fr ev) m__law_value_flags (fun _ _ _ _ _ _ us hl => match us, hl with | [_], _ => rfl) (fun _ _ _ _ _ _ us hl => match us, hl with | [_], _ => rfl)
  have g__law_missing_flags : CalG PySem.Challenge.rw_leastcopies_k17_error_classes.prog w K mg base 1 "_law_missing_flags" ["_law_e"] F__law_missing_flags := cal_of D__law_missing_flags (ok__law_missing_flags D__law_missing_flags fr ev) m__law_missing_flags (fun _ _ _ _ _ _ us hl => match us, hl with | [_], _ => rfl) (fun _ _ _ _ _ _ us hl => match us, hl with | [_], _ => rfl)
  have g__law_state_flags : CalG PySem.Challenge.rw_leastcopies_k17_error_classes.prog w K mg base 1 "_law_state_flags" ["_law_e"] F__law_state_flags := cal_of D__law_state_flags (ok__law_state_flags D__law_state_flags fr ev) m__law_state_flags (fun _ _ _ _ _ _ us hl => match us, hl with | [_], _ => rfl) (fun _ _ _ _ _ _ us hl => match us, hl with | [_], _ => rfl)
  have g__law_is_diagonal : CalG PySem.Challenge.rw_leastcopies_k17_error_classes.prog w K mg base 1 "_law_is_diagonal" ["_law_rows"] F__law_is_diagonal := cal_of D__law_is_diagonal (ok__law_is_diagonal D__law_is_diagonal fr ev) m__law_is_diagonal (fun _ _ _ _ _ _ us hl => match us, hl with | [_], _ => rfl) (fun _ _ _ _ _ _ us hl => match us, hl with | [_], _ => rfl)
  have g__law_apart_right : CalG PySem.Challenge.rw_leastcopies_k17_error_classes.prog w K mg base 3 "_law_apart_right" ["_law_one", "_law_two"] F__law_apart_right := cal_of D__law_apart_right (ok__law_apart_right D__law_apart_right fr ev g__law_value_flags g__law_is_diagonal g__law_missing_flags g__law_value_errors g__law_other_errors g__law_missing_errors g__law_late_errors g__law_state_flags g__law_state_errors) m__law_apart_right (fun _ _ _ _ _ _ us hl => match us, hl with | [_, _], _ => rfl) (fun _ _ _ _ _ _ us hl => match us, hl with | [_, _], _ => rfl)
  have g__law_right : CalG PySem.Challenge.rw_leastcopies_k17_error_classes.prog w K mg base 4 "_law_right" ["_law_rng_here"] F__law_right := cal_of D__law_right (ok__law_right D__law_right fr ev g__law_choice g__law_groups_right g__law_apart_right g__law_named_right g__law_told g__law_due) m__law_right (fun _ _ _ _ _ _ us hl => match us, hl with | [_], _ => rfl) (fun _ _ _ _ _ _ us hl => match us, hl with | [_], _ => rfl)
  exact ok_law D_law fr ev g__law_right g__law_rng
end Lw

set_option Elab.async false
set_option maxRecDepth 100000
set_option maxHeartbeats 8000000
set_option linter.unusedSimpArgs false
namespace Lw
open PySem L2 Lc
theorem groups_ok (one two : D) : F__law_groups_right [.dt one, .dt two] = .ok (.dt (.bl true)) [.dt one, .dt two] := by kernel_rfl
theorem apart_ok (one two : D) : F__law_apart_right [.dt one, .dt two] = .ok (.dt (.bl true)) [.dt one, .dt two] := by kernel_rfl
theorem told_ok (one two : D) : F__law_told [.dt one, .dt two] = F__law_due [.dt one, .dt two] := by kernel_rfl
theorem has_InvalidName_value : xdHas xdTL "InvalidName" "value" = true := by kernel_rfl
theorem has_InvalidCount_value : xdHas xdTL "InvalidCount" "value" = true := by kernel_rfl
theorem has_InvalidShape_value : xdHas xdTL "InvalidShape" "value" = true := by kernel_rfl
theorem has_InvalidPattern_value : xdHas xdTL "InvalidPattern" "value" = true := by kernel_rfl
theorem has_InvalidAnswer_value : xdHas xdTL "InvalidAnswer" "value" = true := by kernel_rfl
theorem has_InvalidReads_position : xdHas xdTL "InvalidReads" "position" = true := by kernel_rfl
theorem has_InvalidRows_key : xdHas xdTL "InvalidRows" "key" = true := by kernel_rfl
theorem has_InvalidRule_value : xdHas xdTL "InvalidRule" "value" = true := by kernel_rfl
theorem has_InvalidAnswers_value : xdHas xdTL "InvalidAnswers" "value" = true := by kernel_rfl
theorem has_InvalidCatalog_problem : xdHas xdTL "InvalidCatalog" "problem" = true := by kernel_rfl
theorem has_InvalidCatalog_position : xdHas xdTL "InvalidCatalog" "position" = true := by kernel_rfl
theorem has_InvalidFunction_value : xdHas xdTL "InvalidFunction" "value" = true := by kernel_rfl
theorem has_InvalidProgram_problem : xdHas xdTL "InvalidProgram" "problem" = true := by kernel_rfl
theorem has_InvalidProgram_position : xdHas xdTL "InvalidProgram" "position" = true := by kernel_rfl
theorem has_InvalidInstance_value : xdHas xdTL "InvalidInstance" "value" = true := by kernel_rfl
theorem has_InvalidKey_value : xdHas xdTL "InvalidKey" "value" = true := by kernel_rfl
theorem has_InvalidEdit_position : xdHas xdTL "InvalidEdit" "position" = true := by kernel_rfl
theorem has_InvalidArguments_value : xdHas xdTL "InvalidArguments" "value" = true := by kernel_rfl
theorem has_InvalidText_line : xdHas xdTL "InvalidText" "line" = true := by kernel_rfl
theorem has_InvalidCommand_command : xdHas xdTL "InvalidCommand" "command" = true := by kernel_rfl
theorem has_UnknownQuestion_value : xdHas xdTL "UnknownQuestion" "value" = true := by kernel_rfl
theorem has_UnknownBase_value : xdHas xdTL "UnknownBase" "value" = true := by kernel_rfl
theorem has_UnknownConstructor_value : xdHas xdTL "UnknownConstructor" "value" = true := by kernel_rfl
theorem has_UnknownFunction_value : xdHas xdTL "UnknownFunction" "value" = true := by kernel_rfl
theorem has_UnknownKind_value : xdHas xdTL "UnknownKind" "value" = true := by kernel_rfl
theorem has_UnknownSite_value : xdHas xdTL "UnknownSite" "value" = true := by kernel_rfl
theorem has_UnknownCopy_value : xdHas xdTL "UnknownCopy" "value" = true := by kernel_rfl
theorem has_UnknownTask_value : xdHas xdTL "UnknownTask" "value" = true := by kernel_rfl
theorem has_NotWished_value : xdHas xdTL "NotWished" "value" = true := by kernel_rfl
theorem has_NotBuilt_instance : xdHas xdTL "NotBuilt" "instance" = true := by kernel_rfl
theorem has_NoShape_profile : xdHas xdTL "NoShape" "profile" = true := by kernel_rfl
theorem has_NameTaken_name : xdHas xdTL "NameTaken" "name" = true := by kernel_rfl
theorem has_InUse_kind : xdHas xdTL "InUse" "kind" = true := by kernel_rfl
theorem has_InUse_name : xdHas xdTL "InUse" "name" = true := by kernel_rfl
theorem has_AlreadyWished_instance : xdHas xdTL "AlreadyWished" "instance" = true := by kernel_rfl
theorem has_LostRoot_instance : xdHas xdTL "LostRoot" "instance" = true := by kernel_rfl
theorem has_TaskEnded_task : xdHas xdTL "TaskEnded" "task" = true := by kernel_rfl
theorem has_NothingToUndo_count : xdHas xdTL "NothingToUndo" "count" = true := by kernel_rfl
theorem has_RunFailed_position : xdHas xdTL "RunFailed" "position" = true := by kernel_rfl
theorem has_RunFailed_results : xdHas xdTL "RunFailed" "results" = true := by kernel_rfl
theorem has_TooMany_kind : xdHas xdTL "TooMany" "kind" = true := by kernel_rfl
theorem has_TooMany_limit : xdHas xdTL "TooMany" "limit" = true := by kernel_rfl
theorem has_TooManySteps_limit : xdHas xdTL "TooManySteps" "limit" = true := by kernel_rfl
theorem look_InUse (one two : D) : List.lookup (Str.ofString "name") [(Str.ofString "kind", one), (Str.ofString "name", two)] = some two := by kernel_rfl
theorem look_RunFailed (one two : D) : List.lookup (Str.ofString "results") [(Str.ofString "position", one), (Str.ofString "results", two)] = some two := by kernel_rfl
theorem look_TooMany (one two : D) : List.lookup (Str.ofString "limit") [(Str.ofString "kind", one), (Str.ofString "limit", two)] = some two := by kernel_rfl
theorem c1 (one : D) (s0 s1 s2 s3 s5 s6 s7 s8 : Option Sl) (bs : List Bo) : x__law_named_right_1 ⟨[s0, s1, s2, s3, some (.own (.lst [.err "InvalidName" [("value", one)], .err "InvalidCount" [("value", one)], .err "InvalidShape" [("value", one)], .err "InvalidPattern" [("value", one)], .err "InvalidAnswer" [("value", one)], .err "InvalidRule" [("value", one)], .err "InvalidAnswers" [("value", one)], .err "InvalidFunction" [("value", one)], .err "InvalidInstance" [("value", one)], .err "InvalidKey" [("value", one)]])), s5, s6, s7, s8, none], bs⟩ = .ok (.fresh (.lst [one, one, one, one, one, one, one, one, one, one])) ⟨[s0, s1, s2, s3, some (.dt (.lst [.err "InvalidName" [("value", one)], .err "InvalidCount" [("value", one)], .err "InvalidShape" [("value", one)], .err "InvalidPattern" [("value", one)], .err "InvalidAnswer" [("value", one)], .err "InvalidRule" [("value", one)], .err "InvalidAnswers" [("value", one)], .err "InvalidFunction" [("value", one)], .err "InvalidInstance" [("value", one)], .err "InvalidKey" [("value", one)]])), s5, s6, s7, s8, none], bs⟩ := by kernel_rfl
theorem c2 (one : D) (s0 s1 s2 s3 s4 s6 s7 s8 : Option Sl) (bs : List Bo) : x__law_named_right_2 ⟨[s0, s1, s2, s3, s4, some (.own (.lst [.err "InvalidArguments" [("value", one)], .err "UnknownQuestion" [("value", one)], .err "UnknownBase" [("value", one)], .err "UnknownConstructor" [("value", one)], .err "UnknownFunction" [("value", one)], .err "UnknownKind" [("value", one)], .err "UnknownSite" [("value", one)], .err "UnknownCopy" [("value", one)], .err "UnknownTask" [("value", one)], .err "NotWished" [("value", one)]])), s6, s7, s8, none], bs⟩ = .ok (.fresh (.lst [one, one, one, one, one, one, one, one, one, one])) ⟨[s0, s1, s2, s3, s4, some (.dt (.lst [.err "InvalidArguments" [("value", one)], .err "UnknownQuestion" [("value", one)], .err "UnknownBase" [("value", one)], .err "UnknownConstructor" [("value", one)], .err "UnknownFunction" [("value", one)], .err "UnknownKind" [("value", one)], .err "UnknownSite" [("value", one)], .err "UnknownCopy" [("value", one)], .err "UnknownTask" [("value", one)], .err "NotWished" [("value", one)]])), s6, s7, s8, none], bs⟩ := by kernel_rfl
theorem c3 (one two : D) : x__law_named_right_3 ⟨[some (.dt one), some (.dt two), some (.own (.lst [.err "InvalidCatalog" [("problem", one), ("position", two)], .err "InvalidProgram" [("problem", one), ("position", two)]])), none, none, none, none, none, none, none], [.dt one, .dt two]⟩ = .ok (.fresh (.lst [.lst [one, two], .lst [one, two]])) ⟨[some (.dt one), some (.dt two), some (.dt (.lst [.err "InvalidCatalog" [("problem", one), ("position", two)], .err "InvalidProgram" [("problem", one), ("position", two)]])), none, none, none, none, none, none, none], [.dt one, .dt two]⟩ := by kernel_rfl
theorem named_ok {one two : D} (h1 : D.rok (.lst [.lst [one, two], .lst [one, two]]) = true) (h2 : D.rok (.lst [one, two, one, two, one, two, one, one, one, one]) = true) (h3 : D.rok (.lst [one, one, one, one, one, one, one, one, one, one, one, one, one, one, one, one, one, one, one, one, one, one, one, one, one, one, one, one, one]) = true) :
    F__law_named_right [.dt one, .dt two] = .ok (.dt (.bl true)) [.dt one, .dt two] := by
  have r1 := repr_some h1
  have r2 := repr_some h2
  have r3 := repr_some h3
  simp [F__law_named_right, q_run, b__law_named_right, cMk, cXv, gXv, cPar3, has_InvalidName_value, has_InvalidCount_value, has_InvalidShape_value, has_InvalidPattern_value, has_InvalidAnswer_value, has_InvalidReads_position, has_InvalidRows_key, has_InvalidRule_value, has_InvalidAnswers_value, has_InvalidCatalog_problem, has_InvalidCatalog_position, has_InvalidFunction_value, has_InvalidProgram_problem, has_InvalidProgram_position, has_InvalidInstance_value, has_InvalidKey_value, has_InvalidEdit_position, has_InvalidArguments_value, has_InvalidText_line, has_InvalidCommand_command, has_UnknownQuestion_value, has_UnknownBase_value, has_UnknownConstructor_value, has_UnknownFunction_value, has_UnknownKind_value, has_UnknownSite_value, has_UnknownCopy_value, has_UnknownTask_value, has_NotWished_value, has_NotBuilt_instance, has_NoShape_profile, has_NameTaken_name, has_InUse_kind, has_InUse_name, has_AlreadyWished_instance, has_LostRoot_instance, has_TaskEnded_task, has_NothingToUndo_count, has_RunFailed_position, has_RunFailed_results, has_TooMany_kind, has_TooMany_limit, has_TooManySteps_limit, gAdd2, gAdd, gMul2, gMul, gRepL, look_InUse, look_RunFailed, look_TooMany, c1, c2, c3, r1, r2, r3, ne_self, eq_selfS, q_size]
end Lw

set_option Elab.async false
set_option maxRecDepth 100000
set_option maxHeartbeats 4000000
namespace Lw
open PySem L2 Lc
/-- the drawing state -/
def Rng (c : Cn) : Prop := ∃ a b : Int, c = .lst [.int a, .int b] ∧ 0 ≤ a ∧ 0 ≤ b ∧ b < 2147483629
theorem pylong_no {i j : Int} (h0 : 0 < j) (h : j ≤ 10 ^ 60) : Builtin.divisionGoesByPylong i j = false := by
  have h1 : j.natAbs < 2 ^ 210 := by
    have : (10 : Int) ^ 60 < 2 ^ 210 := by decide
    omega
  have h2 := log_lt h1 (by decide)
  have e : (j == 0) = false := by simp; omega
  unfold Builtin.divisionGoesByPylong
  simp only [e, Bool.and_eq_false_imp, decide_eq_true_eq]
  intro z
  simp at z
  omega
theorem rng_ok {ns : List Int} {k : Nat} (hk : k ≤ 5) (hl : ns.length ≤ 63) : ∃ c, F__law_rng [.dt (.scr ns), .dt (.int k)] = .ok (.own c) [.dt (.scr ns), .dt (.int k)] ∧ Rng c := by
  have go : ∀ x : Int, 0 ≤ x → Rng (.lst [.int (if x - 10 ^ 18 > 0 then x - 10 ^ 18 else 0), .int ((x % 2147483549 + 4127 * (k : Int) + 29) ^ 2 % 2147483477 + 1)]) := fun x hx => by
    refine ⟨_, _, rfl, ?_, ?_, ?_⟩
    · split <;> omega
    · have := Int.emod_nonneg ((x % 2147483549 + 4127 * (k : Int) + 29) ^ 2) (show (2147483477 : Int) ≠ 0 by decide)
      omega
    · have := Int.emod_lt_of_pos ((x % 2147483549 + 4127 * (k : Int) + 29) ^ 2) (show (0 : Int) < 2147483477 by decide)
      omega
  have pw : ∀ x : Int, (x % 2147483549 + 4127 * (k : Int) + 29).natAbs < 18446744073709551616 := fun x => by omega
  by_cases h : k < ns.length
  · obtain ⟨x, hx⟩ : ∃ x, ns[k]? = some x := ⟨ns[k], by simp [h]⟩
    refine ⟨_, ?_, go (if x < 0 then -x else x) (by split <;> omega)⟩
    have ha : atI ns (k : Int) = some x := by
      have e : ixN ns.length (k : Int) = some k := by simp [ixN, h]
      rw [atI, e]
      exact hx
    have h' : (k : Int) < (ns.length : Int) := by omega
    simp [F__law_rng, q_run, b__law_rng, gLen, gLt, h', gIx1, ha, gAbs, gPow, Lc.gSub, gMax, gMod, gMul, gAdd2, gAdd, gMul2, gRepL, gRepT, gMaxL, pw, q_size]
  · refine ⟨_, ?_, go 0 (by decide)⟩
    have h' : ¬ (k : Int) < (ns.length : Int) := by omega
    have p0 : (4127 * (k : Int) + 29).natAbs < 18446744073709551616 := by omega
    simp [F__law_rng, q_run, b__law_rng, gLen, gLt, h', gIx1, gAbs, gPow, Lc.gSub, gMax, gMod, gMul, gAdd2, gAdd, gMul2, gRepL, gRepT, gMaxL, p0, q_size]
theorem draw_ok {c : Cn} {n : Int} (h : Rng c) (h0 : 0 < n) (h1 : n ≤ 10 ^ 60) : ∃ m c', F__law_draw [.own c, .dt (.int n)] = .ok (.dt (.int m)) [.own c', .dt (.int n)] ∧ 0 ≤ m ∧ m < n ∧ Rng c' := by
  obtain ⟨a, b, rfl, ha, hb, hb2⟩ := h
  by_cases h : 0 < a
  · refine ⟨a % n, .lst [.int (a / n), .int b], ?_, Int.emod_nonneg _ (by omega), Int.emod_lt_of_pos _ h0, _, _, rfl, Int.ediv_nonneg ha (by omega), hb, hb2⟩
    simp [F__law_draw, q_run, b__law_draw, gIx1, atI, ixN, gGt, h, gDivmod, h0, pylong_no h0 h1]
  · have b1 := Int.emod_nonneg (b * 39373 + 9973) (show (2147483629 : Int) ≠ 0 by decide)
    have b2 := Int.emod_lt_of_pos (b * 39373 + 9973) (show (0 : Int) < 2147483629 by decide)
    refine ⟨(b * 39373 + 9973) % 2147483629 * ((b * 39373 + 9973) % 2147483629) % 2147483563 / 13 % n, .lst [.int a, .int ((b * 39373 + 9973) % 2147483629)], ?_, Int.emod_nonneg _ (by omega), Int.emod_lt_of_pos _ h0, _, _, rfl, ha, b1, b2⟩
    have c1 : -18446744073709551616 < (b * 39373 + 9973) % 2147483629 ∧ (b * 39373 + 9973) % 2147483629 < 18446744073709551616 := by omega
    simp [F__law_draw, q_run, b__law_draw, gIx1, atI, ixN, gGt, h, gMul2, gMul, gAdd2, gAdd, gMod, gFdiv, h0, c1]
theorem choice_ok {c : Cn} {l : List D} (h : Rng c) (h0 : 0 < l.length) (h1 : l.length ≤ 1000) : ∃ d c', F__law_choice [.own c, .own (.lst l)] = .ok (.dt d) [.own c', .own (.lst l)] ∧ d ∈ l ∧ Rng c' := by
  obtain ⟨m, c', e, m0, m1, hc⟩ := draw_ok (n := (l.length : Int)) h (by omega) (by omega)
  obtain ⟨d, hd⟩ : ∃ d, l[m.toNat]? = some d := ⟨l[m.toNat]'(by omega), by simp⟩
  have ha : atI l m = some d := by
    have e : ixN l.length m = some m.toNat := by simp [ixN, m0, m1]
    rw [atI, e]
    exact hd
  refine ⟨d, c', ?_, List.mem_of_getElem? hd, hc⟩
  simp [F__law_choice, q_run, b__law_choice, gLen, e, gIx1, ha]

def opts : List D := [.non, .int 0, .int 1, .bl true, .str "", .str "a", .tup [.str "a"], .lst [.str "a"], .dct [], .tup [.str "show", .tup [.str "int"]], .int 10000000000000000000000000, .int (-1), .tup [.tup [.str "a", .int 0], .tup [.int 1, .int 2]]]
theorem wd_lit {x : Str} (h : x.length ≤ 30) (k : x.cps.toList.all (· < 1114112) = true) : Wd 30 x := ⟨h, fun c hc => by simpa using List.all_eq_true.mp k c hc⟩
theorem opts_gd : ∀ d ∈ opts, Gd 4 20 d := by
  have a : Wd 30 (Str.ofString "a") := wd_lit (by decide +kernel) (by decide +kernel)
  have e : Wd 30 (Str.ofString "") := wd_lit (by decide +kernel) (by decide +kernel)
  have s : Wd 30 (Str.ofString "show") := wd_lit (by decide +kernel) (by decide +kernel)
  have i : Wd 30 (Str.ofString "int") := wd_lit (by decide +kernel) (by decide +kernel)
  intro d hd
  simp only [opts, List.mem_cons, List.not_mem_nil, or_false] at hd
  rcases hd with rfl | rfl | rfl | rfl | rfl | rfl | rfl | rfl | rfl | rfl | rfl | rfl | rfl
  · exact .non
  · exact .int (by decide)
  · exact .int (by decide)
  · exact .bl _
  · exact .str e
  · exact .str a
  · exact .tup (.cons (.str (s := 0) a) (.nil (s := 0)) (by decide))
  · exact .lst (.cons (.str (s := 0) a) (.nil (s := 0)) (by decide))
  · exact .dct
  · exact .tup (.cons (.str (s := 0) s) (.cons (s2 := 0) (.tup (s := 1) (.cons (.str (s := 0) i) (.nil (s := 0)) (by decide))) .nil (s := 2) (by decide)) (by decide))
  · exact .int (by decide)
  · exact .int (by decide)
  · exact .tup (.cons (.tup (s := 2) (.cons (.str (s := 0) a) (.cons (s2 := 0) (.int (s := 0) (by decide)) .nil (s := 1) (by decide)) (by decide))) (.cons (s2 := 0) (.tup (s := 2) (.cons (.int (s := 0) (by decide)) (.cons (s2 := 0) (.int (s := 0) (by decide)) .nil (s := 1) (by decide)) (by decide))) .nil (s := 3) (by decide)) (by decide))
theorem rok_list {l : List D} (h : ∀ d ∈ l, d ∈ opts) (hl : l.length ≤ 100) : D.rok (.lst l) = true := by
  have g : Gd 5 (20 * l.length + 1) (.lst l) := .lst (GdL.same fun d hd => opts_gd d (h d hd))
  exact g.rok (by decide) (by omega)
theorem rok_two {one two : D} (h1 : one ∈ opts) (h2 : two ∈ opts) : D.rok (.lst [.lst [one, two], .lst [one, two]]) = true := by
  have g1 : Gd 5 41 (.lst [one, two]) := .lst (.cons (opts_gd _ h1) (.cons (s2 := 0) (opts_gd _ h2) .nil (s := 20) (by decide)) (by decide))
  have g : Gd 6 101 (.lst [.lst [one, two], .lst [one, two]]) := .lst (.cons g1 (.cons (s2 := 0) g1 .nil (s := 41) (by decide)) (by decide))
  exact g.rok (by decide) (by decide)
theorem due_ok (one two : D) : ∃ l, F__law_due [.dt one, .dt two] = .ok (.own (.lst l)) [.dt one, .dt two] ∧ l.length ≤ 100 ∧ ∀ d ∈ l, d = one ∨ d = two := by
  refine ⟨[one, one, one, one, one, one, one, one, one, one, one, one, one, one, one, one, one, one, one, one, one, one, one, two, one, two, one, one, one, one, one, one, one, two, one, one, one, one, one, two, one, two, one], by kernel_rfl, by simp, ?_⟩
  simp
theorem bls_true : ∀ m : List D, blsOf (m.map fun _ => D.bl true) = some (m.map fun _ => true)
  | [] => rfl
  | _ :: m => by simp [blsOf, bls_true m]
theorem right_ok {c : Cn} (h : Rng c) : ∃ c', F__law_right [.own c] = .ok (.dt (.bl true)) [.own c'] ∧ Rng c' := by
  obtain ⟨one, c1, e1, m1, h1⟩ := choice_ok (l := opts) h (by decide) (by decide)
  obtain ⟨two, c2, e2, m2, h2⟩ := choice_ok (l := opts) h1 (by decide) (by decide)
  obtain ⟨l, e3, l1, l2⟩ := due_ok one two
  have e4 := (told_ok one two).trans e3
  have r1 := repr_some (rok_list (l := l) (fun d hd => (l2 d hd).elim (fun z => z ▸ m1) fun z => z ▸ m2) l1)
  have e5 := named_ok (rok_two m1 m2) (rok_list (by simp [m1, m2]) (by simp)) (rok_list (by simp [m1]) (by simp))
  have e6 := groups_ok one two
  have e7 := apart_ok one two
  refine ⟨c2, ?_, h2⟩
  simp only [opts] at e1 e2
  simp [F__law_right, q_run, b__law_right, gPow, gNeg, e1, e2, e3, e4, r1, ne_self, e5, e6, e7, q_size]
theorem holds (ns : List Int) (hl : ns.length ≤ 63) : ∃ bs, F_law [.dt (.scr ns)] = .ok (.dt (.bl true)) bs := by
  obtain ⟨n, hn, hn4⟩ : ∃ n : Nat, (if (if (ns.length : Int) < 4 then (ns.length : Int) else 4) > 1 then (if (ns.length : Int) < 4 then (ns.length : Int) else 4) else 1) = (n : Int) ∧ n ≤ 4 :=
    ⟨(if (if (ns.length : Int) < 4 then (ns.length : Int) else 4) > 1 then (if (ns.length : Int) < 4 then (ns.length : Int) else 4) else 1).toNat, by split <;> split <;> omega, by split <;> split <;> omega⟩
  have hi : (M.bind (cCons (cCallP gMaxL (cCons (cC (.int 1)) (cCons (cCallP gMin (cCons (cC (.int 4)) (cCons (cCallP gLen (cCons (cVar 0) (M.ret []))) (M.ret [])))) (M.ret [])))) (M.ret [])) W.rng1) ⟨[some (.dt (.scr ns)), none], [.dt (.scr ns)]⟩ = .ok (rngD 0 n) ⟨[some (.dt (.scr ns)), none], [.dt (.scr ns)]⟩ := by
    have z : -4611686018427387904 ≤ (n : Int) ∧ (n : Int) < 4611686018427387904 := by omega
    simp [gLen, gMin, gMaxL, gMax, hn, z]
  have e := cLc_map (own := [1]) (T := gN 1) (fe := cCall F__law_right (cCons (cCall F__law_rng (cCons (cVar 0) (cCons (cVar 1) (M.ret [])))) (M.ret []))) hi rfl (fun _ => .bl true) (by simp [rngD, q_size]; omega) fun d hd => by
    simp only [rngD, List.mem_map, List.mem_range] at hd
    obtain ⟨k, hk, rfl⟩ := hd
    obtain ⟨c, e1, hc⟩ := rng_ok (ns := ns) (k := k) (by omega) hl
    obtain ⟨c', e2, hc'⟩ := right_ok hc
    refine ⟨⟨[some (.dt (.scr ns)), some (.dt (.int (0 + (k : Nat))))], [.dt (.scr ns)]⟩, .dt (.bl true), ⟨[some (.dt (.scr ns)), some (.dt (.int (0 + (k : Nat))))], [.dt (.scr ns)]⟩, ⟨[some (.dt (.scr ns)), some (.dt (.int (0 + (k : Nat))))], [.dt (.scr ns)]⟩, rfl, ?_, rfl, rfl⟩
    simp [e1, e2]
  have ha : gAll [.lst ((rngD 0 n).map fun _ => .bl true)] = some (.dt (.bl true)) := by
    simp [gAll, bls_true, bD]
  have e' : x_law_1 ⟨[some (.dt (.scr ns)), none], [.dt (.scr ns)]⟩ = _ := e
  exact ⟨_, by simp [F_law, q_run, b_law, e', ha]; rfl⟩
end Lw

open PySem PySem.W PySem.Calls PyProof.Rows
theorem PySem.Challenge.cw_leastcopies_k17_error_classes_holds : PySem.Challenge.rw_leastcopies_k17_error_classes.Holds := by
  w_on; o_law
  refine HandSHeadRun.head_any (r := OpenLaw.row PySem.Challenge.rw_leastcopies_k17_error_classes) (q := view (OpenLaw.row PySem.Challenge.rw_leastcopies_k17_error_classes).prog [63]) (H := Lw.hk) (ob := Lw.ob) (M := 20000) (loose := [PySem.Str.ofString "__name__", PySem.Str.ofString "CopyError", PySem.Str.ofString "InvalidName", PySem.Str.ofString "InvalidCount", PySem.Str.ofString "InvalidShape", PySem.Str.ofString "InvalidPattern", PySem.Str.ofString "InvalidAnswer", PySem.Str.ofString "InvalidReads", PySem.Str.ofString "InvalidRows", PySem.Str.ofString "InvalidRule", PySem.Str.ofString "InvalidAnswers", PySem.Str.ofString "InvalidCatalog", PySem.Str.ofString "InvalidFunction", PySem.Str.ofString "InvalidProgram", PySem.Str.ofString "InvalidInstance", PySem.Str.ofString "InvalidKey", PySem.Str.ofString "InvalidEdit", PySem.Str.ofString "InvalidArguments", PySem.Str.ofString "InvalidText", PySem.Str.ofString "InvalidCommand", PySem.Str.ofString "MissingError", PySem.Str.ofString "UnknownQuestion", PySem.Str.ofString "UnknownBase", PySem.Str.ofString "UnknownConstructor", PySem.Str.ofString "UnknownFunction", PySem.Str.ofString "UnknownKind", PySem.Str.ofString "UnknownSite", PySem.Str.ofString "UnknownCopy", PySem.Str.ofString "UnknownTask", PySem.Str.ofString "NotWished", PySem.Str.ofString "NotBuilt", PySem.Str.ofString "NoShape", PySem.Str.ofString "StateError", PySem.Str.ofString "NameTaken", PySem.Str.ofString "InUse", PySem.Str.ofString "AlreadyWished", PySem.Str.ofString "LostRoot", PySem.Str.ofString "TaskEnded", PySem.Str.ofString "NothingToUndo", PySem.Str.ofString "RunFailed", PySem.Str.ofString "LimitError", PySem.Str.ofString "TooMany", PySem.Str.ofString "TooManySteps", PySem.Str.ofString "_law_rng", PySem.Str.ofString "_law_draw", PySem.Str.ofString "_law_choice", PySem.Str.ofString "_law_groups", PySem.Str.ofString "_law_value_errors", PySem.Str.ofString "_law_other_errors", PySem.Str.ofString "_law_missing_errors", PySem.Str.ofString "_law_late_errors", PySem.Str.ofString "_law_state_errors", PySem.Str.ofString "_law_told", PySem.Str.ofString "_law_due", PySem.Str.ofString "_law_named_right", PySem.Str.ofString "_law_groups_right", PySem.Str.ofString "_law_value_flags", PySem.Str.ofString "_law_missing_flags", PySem.Str.ofString "_law_state_flags", PySem.Str.ofString "_law_is_diagonal", PySem.Str.ofString "_law_apart_right", PySem.Str.ofString "_law_right"])
    (d := HandSHeadRun.topDef (OpenLaw.row PySem.Challenge.rw_leastcopies_k17_error_classes).prog 63) (kwd := []) Lw.ob_eq
    (by kernel_rfl) (fun s => by kernel_rfl) Lw.run (by kernel_rfl) (by kernel_rfl) (by kernel_rfl) (by rfl) (by first | assumption | decide +kernel)
    (by decide +kernel) ⟨rfl, rfl, rfl, rfl, rfl, by decide +kernel⟩ ?hw ?hc
  case hw => w_witness2
  case hc =>
    refine Lc.walk_ofG (l := PySem.Challenge.rw_leastcopies_k17_error_classes) (n := 63) (k := 5) (x := "_law_script") rfl (by decide) (by kernel_rfl) ⟨rfl, by decide, by decide⟩ ?F
    intro w mg fl h Y G hmg0
    obtain ⟨K, KX, c⟩ := Y
    have hmg : mg ("law" : PySem.Str) = some (.ref fl) := by
      have e : (HandSHeadRun.topDef (OpenLaw.row PySem.Challenge.rw_leastcopies_k17_error_classes).prog 63).name = ("law" : PySem.Str) := by kernel_rfl
      rw [← e]
      exact hmg0
    obtain ⟨fd, hb, hF⟩ := Lw.facts (w := w) KX G hmg c
    exact ⟨K, fd, Lw.F_law, KX, hb, Lw.holds, hF⟩
