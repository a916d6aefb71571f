import PyProof.Rows.All
import Wide.All
import OpenK.AllK
import Wide.FinOn
import HandS.ForMost
import HandS.ForExc
import HandS.IsInst
import HandS.Flow
import HandS.WideBits
import HandS.Style
import HandS.Conv
import HandS.Spec
import HandS.Dict
import HandS.Head0
import HandS.Head1
import HandS.Head2
import HandS.HeadEnd
import HandS.HeadHook1
import HandS.HeadHook2
import KE.KExcSuper
import HandS.Exc
import HandS.ExcInit
import HandS.ExcField
import HandS.ExcIs
import HandS.ExcSuper
import HandS.ExcValue
import KE.KExcIs
import HandS.TupAny
import HandS.TupMul
import PySem.Challenge.RW_leastcopies_k12_whole_shapes_and_pattern
set_option Elab.async false
set_option maxRecDepth 100000
set_option maxHeartbeats 4000000
/-! Part A: plain data, the slots of a frame, and how they lie in the layer's abstract heap. -/
namespace Lc
open PySem L2

/-- plain data -/
inductive D where
  | non
  | bl (b : Bool)
  | int (i : Int)
  | str (x : Str)
  | lst (l : List D)
  | tup (l : List D)
  | dct (l : List (D × D))
  | ty (n : String)
  | scr (l : List Int)
  /-- a class of the module, by its name -/
  | cls (x : Str)
  /-- a caught error at a, its dict at dd -/
  | exc (a dd : Addr) (fs : List (Str × D))
  /-- an instance that changes no more -/
  | obj (c : Str) (fs : List (Str × D))
/-- what a thing that may still change holds -/
inductive Cn where
  | lst (l : List D)
  | dct (l : List (D × D))
def Cn.toD : Cn → D
  | .lst l => .lst l
  | .dct l => .dct l
/-- a borrowed thing, an argument, a result: data, or a thing that no one else holds -/
inductive Bo where
  | dt (x : D)
  | own (c : Cn)
/-- a local name: data, a thing of its own, or a borrowed one -/
inductive Sl where
  | dt (x : D)
  | own (c : Cn)
  | bor (k : Nat)
/-- where a thing that may change is kept -/
inductive Ix where
  | loc (i : Nat)
  | bor (k : Nat)
  deriving DecidableEq
/-- the value of an expression -/
inductive W where
  | dt (x : D)
  | fresh (c : Cn)
  | cel (z : Ix)
structure Rho where
  loc : List (Option Sl)
  bor : List Bo
/-- an exception of an own class: its class by name, its attributes -/
structure Ex where
  cls : Str
  fs : List (Str × D)
inductive Res (α : Type) where
  | ok (a : α) (r : Rho)
  | exc (x : Ex) (r : Rho)
  | fail
abbrev M (α : Type) := Rho → Res α
def M.ret {α : Type} (a : α) : M α := fun r => .ok a r
def M.bind {α β : Type} (m : M α) (f : α → M β) : M β := fun r => match m r with
  | .ok a r1 => f a r1
  | .exc x r1 => .exc x r1
  | .fail => .fail
def M.no {α : Type} : M α := fun _ => .fail
def M.opt {α : Type} (o : Option α) : M α := fun r => match o with
  | some a => .ok a r
  | none => .fail

def Rho.cnt (r : Rho) : Ix → Option Cn
  | .loc i => match r.loc[i]? with
    | some (some (.own c)) => some c
    | _ => none
  | .bor k => match r.bor[k]? with
    | some (.own c) => some c
    | _ => none
/-- what a kept thing is now -/
def Rho.look (r : Rho) : Ix → Option D
  | .loc i => match r.loc[i]? with
    | some (some (.own c)) => some c.toD
    | some (some (.dt d)) => some d
    | _ => none
  | .bor k => match r.bor[k]? with
    | some (.own c) => some c.toD
    | some (.dt d) => some d
    | _ => none
def Rho.setc (r : Rho) (c : Cn) : Ix → Rho
  | .loc i => { r with loc := r.loc.set i (some (.own c)) }
  | .bor k => { r with bor := r.bor.set k (.own c) }
def Rho.frz (r : Rho) (d : D) : Ix → Rho
  | .loc i => { r with loc := r.loc.set i (some (.dt d)) }
  | .bor k => { r with bor := r.bor.set k (.dt d) }
def W.view (r : Rho) : W → Option D
  | .dt d => some d
  | .fresh c => some c.toD
  | .cel z => r.look z
def adr (vs : List V) (σ : L2.St) : Ix → Option V
  | .loc i => match σ[i]? with
    | some (some v) => some v
    | _ => none
  | .bor k => vs[k]?

/-! ### data in the frozen part B of the heap -/
def KeyD : Key → D → Prop
  | .inl i, .int j => i = j
  | .inr x, .str y => x = y
  | _, _ => False
/-- a tuple: a known one, or one of the text's own -/
def TpA (K : PySem.W.Frag) (B : Hp) (a : Addr) (xs : List V) : Prop :=
  B a = some (.tup xs) ∨ ∃ (o : Obj) (its : Array Value) (n : Nat), K.lookup a = some o ∧ o.cls = .type "tuple" ∧ o.data = .seq its n ∧ its.size ≤ sizeLine ∧ Vals xs its.toList
mutual
inductive Rp (K : PySem.W.Frag) (B : Hp) : V → D → Prop
  | non : Rp K B .non .non
  | bl (b : Bool) : Rp K B (.bl b) (.bl b)
  | int (i : Int) : Rp K B (.int i) (.int i)
  | str (x : Str) : Rp K B (.str x) (.str x)
  | ty (n : String) : Rp K B (.ty n) (.ty n)
  | scr {a : Addr} {ns : List Int} : SqL K B a (ns.map V.int) → Rp K B (.ref a) (.scr ns)
  | lst {a : Addr} {xs : List V} {ds : List D} : B a = some (.lst xs) → RpAll K B xs ds → Rp K B (.ref a) (.lst ds)
  | tup {a : Addr} {xs : List V} {ds : List D} : TpA K B a xs → RpAll K B xs ds → Rp K B (.ref a) (.tup ds)
  | dct {a : Addr} {ks : List (Key × V)} {ds : List (D × D)} : B a = some (.dK ks) → RpKv K B ks ds → Rp K B (.ref a) (.dct ds)
  | cls {a : Addr} {x : Str} : PySem.W.nsIn K mainGlobals x = some (some (.ref a)) → Rp K B (.ref a) (.cls x)
  | exc {a dd : Addr} {fs : List (Str × V)} {ds : List (Str × D)} : B dd = some (.xd fs) → RpF K B fs ds → Rp K B (.ref a) (.exc a dd ds)
  | obj {a dx C : Addr} {x : Str} {fs : List (Str × V)} {ds : List (Str × D)} : B a = some (.ins C dx fs) → B dx = some (.own a) → PySem.W.nsIn K mainGlobals x = some (some (.ref C)) → RpF K B fs ds → Rp K B (.ref a) (.obj x ds)
inductive RpAll (K : PySem.W.Frag) (B : Hp) : List V → List D → Prop
  | nil : RpAll K B [] []
  | cons {v : V} {vs : List V} {d : D} {ds : List D} : Rp K B v d → RpAll K B vs ds → RpAll K B (v :: vs) (d :: ds)
inductive RpKv (K : PySem.W.Frag) (B : Hp) : List (Key × V) → List (D × D) → Prop
  | nil : RpKv K B [] []
  | cons {k : Key} {v : V} {ks : List (Key × V)} {d e : D} {ds : List (D × D)} : KeyD k d → Rp K B v e → RpKv K B ks ds → RpKv K B ((k, v) :: ks) ((d, e) :: ds)
inductive RpF (K : PySem.W.Frag) (B : Hp) : List (Str × V) → List (Str × D) → Prop
  | nil : RpF K B [] []
  | cons {x : Str} {v : V} {d : D} {fs : List (Str × V)} {gs : List (Str × D)} : Rp K B v d → RpF K B fs gs → RpF K B ((x, v) :: fs) ((x, d) :: gs)
end
theorem TpA.mono {K : PySem.W.Frag} {B B' : Hp} {a : Addr} {xs : List V} (s : Same B B') (h : TpA K B a xs) : TpA K B' a xs := h.imp (s _ _) fun z => z
theorem seqT_mono {K : PySem.W.Frag} {B B' : Hp} {a : Addr} {xs : List V} (s : Same B B') (h : TpA K B a xs) : SqT K B' a xs := (h.mono s).elim (fun z => .inl (.inl z)) .inr
mutual
theorem Rp.mono {K : PySem.W.Frag} {B B' : Hp} (s : Same B B') : ∀ {v : V} {d : D}, Rp K B v d → Rp K B' v d
  | _, _, .non => .non
  | _, _, .bl b => .bl b
  | _, _, .int i => .int i
  | _, _, .str x => .str x
  | _, _, .ty n => .ty n
  | _, _, .scr h => .scr (s.seq h)
  | _, _, .lst h r => .lst (s _ _ h) (RpAll.mono s r)
  | _, _, .tup h r => .tup (h.mono s) (RpAll.mono s r)
  | _, _, .dct h r => .dct (s _ _ h) (RpKv.mono s r)
  | _, _, .cls h => .cls h
  | _, _, .exc h r => .exc (s _ _ h) (RpF.mono s r)
  | _, _, .obj h1 h2 h3 r => .obj (s _ _ h1) (s _ _ h2) h3 (RpF.mono s r)
theorem RpAll.mono {K : PySem.W.Frag} {B B' : Hp} (s : Same B B') : ∀ {vs : List V} {ds : List D}, RpAll K B vs ds → RpAll K B' vs ds
  | _, _, .nil => .nil
  | _, _, .cons h r => .cons (h.mono s) (RpAll.mono s r)
theorem RpKv.mono {K : PySem.W.Frag} {B B' : Hp} (s : Same B B') : ∀ {vs : List (Key × V)} {ds : List (D × D)}, RpKv K B vs ds → RpKv K B' vs ds
  | _, _, .nil => .nil
  | _, _, .cons k h r => .cons k (h.mono s) (RpKv.mono s r)
theorem RpF.mono {K : PySem.W.Frag} {B B' : Hp} (s : Same B B') : ∀ {vs : List (Str × V)} {ds : List (Str × D)}, RpF K B vs ds → RpF K B' vs ds
  | _, _, .nil => .nil
  | _, _, .cons h r => .cons (h.mono s) (RpF.mono s r)
end
section
variable {K : PySem.W.Frag} {B : Hp}
theorem RpAll.length : ∀ {vs : List V} {ds : List D}, RpAll K B vs ds → vs.length = ds.length
  | _, _, .nil => rfl
  | _, _, .cons _ r => by rw [List.length_cons, List.length_cons, r.length]
theorem RpKv.length : ∀ {vs : List (Key × V)} {ds : List (D × D)}, RpKv K B vs ds → vs.length = ds.length
  | _, _, .nil => rfl
  | _, _, .cons _ _ r => by rw [List.length_cons, List.length_cons, r.length]
theorem RpAll.append : ∀ {vs us : List V} {ds es : List D}, RpAll K B vs ds → RpAll K B us es → RpAll K B (vs ++ us) (ds ++ es)
  | _, _, _, _, .nil, h => h
  | _, _, _, _, .cons h r, q => .cons h (r.append q)
theorem RpAll.drop : ∀ {vs : List V} {ds : List D} (n : Nat), RpAll K B vs ds → RpAll K B (vs.drop n) (ds.drop n)
  | _, _, 0, h => h
  | _, _, _ + 1, .nil => .nil
  | _, _, n + 1, .cons _ r => r.drop n
theorem RpAll.take : ∀ {vs : List V} {ds : List D} (n : Nat), RpAll K B vs ds → RpAll K B (vs.take n) (ds.take n)
  | _, _, 0, _ => .nil
  | _, _, _ + 1, .nil => .nil
  | _, _, n + 1, .cons h r => .cons h (r.take n)
theorem RpAll.get : ∀ {vs : List V} {ds : List D} {i : Nat} {d : D}, RpAll K B vs ds → ds[i]? = some d → ∃ v, vs[i]? = some v ∧ Rp K B v d
  | _, _, _, _, .nil, e => by simp at e
  | _, _, 0, _, .cons h _, e => by simp at e; subst e; exact ⟨_, rfl, h⟩
  | _, _, i + 1, _, .cons _ r, e => by
    obtain ⟨v, h1, h2⟩ := r.get (i := i) (by simpa using e)
    exact ⟨v, by simpa using h1, h2⟩
theorem RpAll.getV : ∀ {vs : List V} {ds : List D} {i : Nat} {v : V}, RpAll K B vs ds → vs[i]? = some v → ∃ d, ds[i]? = some d ∧ Rp K B v d
  | _, _, _, _, .nil, e => by simp at e
  | _, _, 0, _, .cons h _, e => by simp at e; subst e; exact ⟨_, rfl, h⟩
  | _, _, i + 1, _, .cons _ r, e => by
    obtain ⟨d, h1, h2⟩ := r.getV (i := i) (by simpa using e)
    exact ⟨d, by simpa using h1, h2⟩
theorem RpAll.set {v : V} {d : D} (h : Rp K B v d) : ∀ {vs : List V} {ds : List D} (i : Nat), RpAll K B vs ds → RpAll K B (vs.set i v) (ds.set i d)
  | _, _, _, .nil => .nil
  | _, _, 0, .cons _ r => .cons h r
  | _, _, i + 1, .cons q r => .cons q (r.set h i)
theorem RpAll.reverse : ∀ {vs : List V} {ds : List D}, RpAll K B vs ds → RpAll K B vs.reverse ds.reverse
  | _, _, .nil => .nil
  | _, _, .cons h r => by
    rw [List.reverse_cons, List.reverse_cons]
    exact r.reverse.append (.cons h .nil)
theorem RpAll.ints : ∀ {vs : List V} {ns : List Int}, RpAll K B vs (ns.map D.int) → vs = ns.map V.int
  | [], [], _ => rfl
  | _ :: _, [], h => by cases h
  | [], _ :: _, h => by cases h
  | v :: vs, n :: ns, h => by
    cases h with
    | cons a b =>
      cases a
      rw [b.ints]
      rfl
theorem RpAll.strs : ∀ {vs : List V} {ns : List Str}, RpAll K B vs (ns.map D.str) → vs = ns.map V.str
  | [], [], _ => rfl
  | _ :: _, [], h => by cases h
  | [], _ :: _, h => by cases h
  | v :: vs, n :: ns, h => by
    cases h with
    | cons a b =>
      cases a
      rw [b.strs]
      rfl
theorem RpAll.bls : ∀ {vs : List V} {ns : List Bool}, RpAll K B vs (ns.map D.bl) → vs = ns.map V.bl
  | [], [], _ => rfl
  | _ :: _, [], h => by cases h
  | [], _ :: _, h => by cases h
  | v :: vs, n :: ns, h => by
    cases h with
    | cons a b =>
      cases a
      rw [b.bls]
      rfl
theorem RpAll.of_strs : ∀ ns : List Str, RpAll K B (ns.map V.str) (ns.map D.str)
  | [] => .nil
  | _ :: ns => .cons (.str _) (RpAll.of_strs ns)
theorem RpAll.of_ints : ∀ ns : List Int, RpAll K B (ns.map V.int) (ns.map D.int)
  | [] => .nil
  | _ :: ns => .cons (.int _) (RpAll.of_ints ns)
end

/-- a thing that may change, at a: its parts are frozen, itself is not -/
def At (K : PySem.W.Frag) (B H : Hp) (a : Addr) : Cn → Prop
  | .lst ds => ∃ xs, H a = some (.lst xs) ∧ RpAll K B xs ds
  | .dct ds => ∃ ks, H a = some (.dK ks) ∧ RpKv K B ks ds
/-- a value as data now: frozen, or the thing as it stands -/
def RpV (K : PySem.W.Frag) (B H : Hp) (v : V) : D → Prop
  | .lst ds => ∃ a xs, v = .ref a ∧ H a = some (.lst xs) ∧ RpAll K B xs ds
  | .dct ds => ∃ a ks, v = .ref a ∧ H a = some (.dK ks) ∧ RpKv K B ks ds
  | d => Rp K B v d
section
variable {K : PySem.W.Frag} {B B' H H' : Hp} {a : Addr} {c : Cn} {v : V} {d : D}
theorem At.some (h : At K B H a c) : ∃ o, H a = some o := by
  cases c <;> exact ⟨_, h.choose_spec.1⟩
theorem At.mono (h : At K B H a c) (s : Same B B') (e : ∀ o, H a = Option.some o → H' a = Option.some o) : At K B' H' a c := by
  cases c with
  | lst ds => obtain ⟨xs, h1, h2⟩ := h; exact ⟨xs, e _ h1, h2.mono s⟩
  | dct ds => obtain ⟨xs, h1, h2⟩ := h; exact ⟨xs, e _ h1, h2.mono s⟩
theorem At.view (h : At K B H a c) : RpV K B H (.ref a) c.toD := by
  cases c with
  | lst ds => obtain ⟨xs, h1, h2⟩ := h; exact ⟨a, xs, rfl, h1, h2⟩
  | dct ds => obtain ⟨xs, h1, h2⟩ := h; exact ⟨a, xs, rfl, h1, h2⟩
theorem Rp.view (h : Rp K B v d) (s : Same B H) : RpV K B H v d := by
  cases h with
  | lst h r => exact ⟨_, _, rfl, s _ _ h, r⟩
  | dct h r => exact ⟨_, _, rfl, s _ _ h, r⟩
  | non => exact .non
  | bl b => exact .bl b
  | int i => exact .int i
  | str x => exact .str x
  | ty n => exact .ty n
  | scr h => exact .scr h
  | cls h => exact .cls h
  | exc h r => exact .exc h r
  | obj h1 h2 h3 r => exact .obj h1 h2 h3 r
  | tup h r => exact .tup h r
theorem RpV.whole (h : RpV K B H v d) (s : Same B H) : Rp K H v d := by
  cases d with
  | lst ds => obtain ⟨a, xs, rfl, h1, h2⟩ := h; exact .lst h1 (h2.mono s)
  | dct ds => obtain ⟨a, xs, rfl, h1, h2⟩ := h; exact .dct h1 (h2.mono s)
  | non => exact Rp.mono s h
  | bl b => exact Rp.mono s h
  | int i => exact Rp.mono s h
  | str x => exact Rp.mono s h
  | ty n => exact Rp.mono s h
  | scr l => exact Rp.mono s h
  | cls l => exact Rp.mono s h
  | exc a l m => exact Rp.mono s h
  | obj l m => exact Rp.mono s h
  | tup l => exact Rp.mono s h
end

/-! ### the frame and its data -/
def Own (vs : List V) (σ : L2.St) (r : Rho) (a : Addr) : Prop := ∃ (z : Ix) (c : Cn), r.cnt z = some c ∧ adr vs σ z = some (.ref a)
structure Rl (K : PySem.W.Frag) (vs : List V) (B : Hp) (σ : L2.St) (H : Hp) (r : Rho) : Prop where
  sub : Same B H
  len : r.loc.length = σ.length
  dat : ∀ (i : Nat) (d : D), r.loc[i]? = some (some (.dt d)) → ∃ v, σ[i]? = some (some v) ∧ Rp K B v d
  own : ∀ (z : Ix) (c : Cn), r.cnt z = some c → ∃ a, adr vs σ z = some (.ref a) ∧ B a = none ∧ At K B H a c
  lbo : ∀ (i k : Nat), r.loc[i]? = some (some (.bor k)) → ∃ v, vs[k]? = some v ∧ σ[i]? = some (some v)
  bod : ∀ (k : Nat) (d : D), r.bor[k]? = some (.dt d) → ∃ v, vs[k]? = some v ∧ Rp K B v d
  sep : ∀ (z z' : Ix) (c c' : Cn) (a : Addr), r.cnt z = some c → r.cnt z' = some c' → adr vs σ z = some (.ref a) → adr vs σ z' = some (.ref a) → z = z'
/-- what a piece of code leaves as it was -/
structure Stp (vs : List V) (B H : Hp) (σ : L2.St) (r : Rho) (B' H' : Hp) (σ' : L2.St) (r' : Rho) : Prop where
  sub : Same B B'
  keep : ∀ a o, H a = some o → ¬ Own vs σ r a → H' a = some o ∧ (B a = none → B' a = none)
  dom : ∀ a, H' a = none → H a = none
  own : ∀ a, Own vs σ' r' a → Own vs σ r a ∨ H a = none
  bol : r'.bor.length = r.bor.length
  bod : ∀ (k : Nat) (d : D), r.bor[k]? = some (.dt d) → r'.bor[k]? = some (.dt d)
  boo : ∀ (k : Nat) (c : Cn) (a : Addr), r.bor[k]? = some (.own c) → vs[k]? = some (.ref a) → (∃ c', r'.bor[k]? = some (.own c')) ∨ ∃ d o, r'.bor[k]? = some (.dt d) ∧ B' a = some o
/-- Hs: the heap where the expression began: a new thing was not there -/
def RpW (K : PySem.W.Frag) (vs : List V) (Hs B : Hp) (σ : L2.St) (H : Hp) (r : Rho) (v : V) : W → Prop
  | .dt d => Rp K B v d
  | .fresh c => ∃ a, v = .ref a ∧ Hs a = none ∧ B a = none ∧ At K B H a c ∧ ¬ Own vs σ r a
  | .cel z => adr vs σ z = some v
section
variable {K : PySem.W.Frag} {vs : List V} {Hs B B' B2 H H' H2 : Hp} {σ σ' σ2 : L2.St} {r r' r2 : Rho} {v : V}
theorem Stp.refl : Stp vs B H σ r B H σ r := ⟨Same.refl B, fun _ _ h _ => ⟨h, fun q => q⟩, fun _ h => h, fun _ h => .inl h, rfl, fun _ _ h => h, fun _ c _ h _ => .inl ⟨c, h⟩⟩
theorem Stp.trans (a : Stp vs B H σ r B' H' σ' r') (b : Stp vs B' H' σ' r' B2 H2 σ2 r2) : Stp vs B H σ r B2 H2 σ2 r2 where
  sub := a.sub.trans b.sub
  keep := fun x o h n => by
    obtain ⟨h1, n1⟩ := a.keep x o h n
    have n2 : ¬ Own vs σ' r' x := fun q => (a.own x q).elim n fun z => by rw [h] at z; cases z
    obtain ⟨h2, n3⟩ := b.keep x o h1 n2
    exact ⟨h2, fun z => n3 (n1 z)⟩
  dom := fun x h => a.dom x (b.dom x h)
  own := fun x h => (b.own x h).elim (a.own x) fun z => .inr (a.dom x z)
  bol := b.bol.trans a.bol
  bod := fun k d h => b.bod k d (a.bod k d h)
  boo := fun k c x h hv => by
    rcases a.boo k c x h hv with ⟨c', h1⟩ | ⟨d, o, h1, h2⟩
    · exact b.boo k c' x h1 hv
    · exact .inr ⟨d, o, b.bod k d h1, b.sub _ _ h2⟩
theorem RpW.stp {w : W} (h : RpW K vs Hs B σ H r v w) (s : Stp vs B H σ r B' H' σ r') : RpW K vs Hs B' σ H' r' v w := by
  cases w with
  | dt d => exact Rp.mono s.sub h
  | cel z => exact h
  | fresh c =>
    obtain ⟨a, rfl, hs, hb, ha, hn⟩ := h
    obtain ⟨o, ho⟩ := ha.some
    obtain ⟨_, k2⟩ := s.keep a o ho hn
    refine ⟨a, rfl, hs, k2 hb, ha.mono s.sub fun o' e => (s.keep a o' e hn).1, fun q => ?_⟩
    rcases s.own a q with z | z
    · exact hn z
    · rw [ho] at z; cases z
theorem RpW.back {w : W} (h : RpW K vs H B' σ H' r v w) (s : ∀ a, H a = none → Hs a = none) : RpW K vs Hs B' σ H' r v w := by
  cases w with
  | dt d => exact h
  | cel z => exact h
  | fresh c =>
    obtain ⟨a, rfl, hs, q⟩ := h
    exact ⟨a, rfl, s a hs, q⟩
theorem Rl.look {z : Ix} {d : D} (R : Rl K vs B σ H r) (h : r.look z = some d) (ha : adr vs σ z = some v) : RpV K B H v d := by
  cases z with
  | loc i =>
    cases e : r.loc[i]? with
    | none => simp [Rho.look, e] at h
    | some o =>
      cases o with
      | none => simp [Rho.look, e] at h
      | some s =>
        cases s with
        | dt d' =>
          simp only [Rho.look, e, Option.some.injEq] at h
          subst h
          obtain ⟨u, hu, ru⟩ := R.dat i d' e
          simp only [adr, hu, Option.some.injEq] at ha
          subst ha
          exact ru.view R.sub
        | own c =>
          simp only [Rho.look, e, Option.some.injEq] at h
          subst h
          obtain ⟨a, h1, h2, h3⟩ := R.own (.loc i) c (by simp [Rho.cnt, e])
          rw [h1] at ha; cases ha
          exact h3.view
        | bor k => simp [Rho.look, e] at h
  | bor k =>
    cases e : r.bor[k]? with
    | none => simp [Rho.look, e] at h
    | some s =>
      cases s with
      | dt d' =>
        simp only [Rho.look, e, Option.some.injEq] at h
        subst h
        obtain ⟨u, hu, ru⟩ := R.bod k d' e
        have ha' : vs[k]? = some v := ha
        rw [hu] at ha'; cases ha'
        exact ru.view R.sub
      | own c =>
        simp only [Rho.look, e, Option.some.injEq] at h
        subst h
        obtain ⟨a, h1, h2, h3⟩ := R.own (.bor k) c (by simp [Rho.cnt, e])
        rw [h1] at ha; cases ha
        exact h3.view
theorem RpW.view {w : W} {d : D} (R : Rl K vs B σ H r) (h : RpW K vs Hs B σ H r v w) (e : w.view r = some d) : RpV K B H v d := by
  cases w with
  | dt d' => cases e; exact Rp.view h R.sub
  | fresh c => cases e; obtain ⟨a, rfl, _, _, ha, _⟩ := h; exact ha.view
  | cel z => exact R.look e h
end

/-! ### new things -/
structure Ext (B H B' H' : Hp) : Prop where
  sub : Same B B'
  keep : Same H H'
  new : ∀ a o, H a = some o → B a = none → B' a = none
def RpB (K : PySem.W.Frag) (H B' H' : Hp) (v : V) : Bo → Prop
  | .dt d => Rp K B' v d
  | .own c => ∃ a, v = .ref a ∧ H a = none ∧ B' a = none ∧ At K B' H' a c
def Bo.toW : Bo → W
  | .dt d => .dt d
  | .own c => .fresh c
section
variable {K : PySem.W.Frag} {vs : List V} {Hs B B' B2 H H' H2 : Hp} {σ σ' : L2.St} {r : Rho} {v : V} {p : Addr} {o : HO}
theorem Ext.refl : Ext B H B H := ⟨Same.refl B, Same.refl H, fun _ _ _ h => h⟩
theorem same_upd (n : H p = none) : Same H (upd H p o) := fun a u h => by rw [upd_ne (ne_of_none h n)]; exact h
theorem Ext.plain (n : H p = none) : Ext B H B (upd H p o) := ⟨Same.refl B, same_upd n, fun _ _ _ h => h⟩
theorem none_of_sub (s : Same B H) (n : H p = none) : B p = none := by
  cases e : B p with
  | none => rfl
  | some u => rw [s _ _ e] at n; cases n
theorem Ext.frozen (s : Same B H) (n : H p = none) : Ext B H (upd B p o) (upd H p o) :=
  ⟨same_upd (none_of_sub s n), same_upd n, fun a u h q => by rw [upd_ne (ne_of_none h n)]; exact q⟩
theorem same_both (s : Same B H) : Same (upd B p o) (upd H p o) := fun a u h => by
  by_cases e : a = p
  · subst e; rw [upd_same] at h ⊢; exact h
  · rw [upd_ne e] at h ⊢; exact s _ _ h
theorem Ext.trans (a : Ext B H B' H') (b : Ext B' H' B2 H2) : Ext B H B2 H2 :=
  ⟨a.sub.trans b.sub, a.keep.trans b.keep, fun x u h q => b.new x u (a.keep _ _ h) (a.new x u h q)⟩
theorem Rl.ext (R : Rl K vs B σ H r) (e : Ext B H B' H') (s : Same B' H') : Rl K vs B' σ H' r where
  sub := s
  len := R.len
  dat := fun i d h => by obtain ⟨v, h1, h2⟩ := R.dat i d h; exact ⟨v, h1, h2.mono e.sub⟩
  own := fun z c h => by
    obtain ⟨a, h1, h2, h3⟩ := R.own z c h
    obtain ⟨u, hu⟩ := h3.some
    exact ⟨a, h1, e.new a u hu h2, h3.mono e.sub fun o q => e.keep _ _ q⟩
  lbo := R.lbo
  bod := fun k d h => by obtain ⟨v, h1, h2⟩ := R.bod k d h; exact ⟨v, h1, h2.mono e.sub⟩
  sep := R.sep
theorem Ext.stp (e : Ext B H B' H') : Stp vs B H σ r B' H' σ r :=
  ⟨e.sub, fun a u h _ => ⟨e.keep _ _ h, e.new a u h⟩, fun _ h => e.keep.free h, fun _ h => .inl h, rfl, fun _ _ h => h, fun _ c _ h _ => .inl ⟨c, h⟩⟩
theorem Rl.notOwn (R : Rl K vs B σ H r) {a : Addr} (n : H a = none) : ¬ Own vs σ r a := fun ⟨z, c, h1, h2⟩ => by
  obtain ⟨b, q1, q2, q3⟩ := R.own z c h1
  rw [h2] at q1; cases q1
  obtain ⟨u, hu⟩ := q3.some
  rw [n] at hu; cases hu
theorem RpB.toW {b : Bo} (R : Rl K vs B σ H r) (h : RpB K H B' H' v b) (d : ∀ a, H a = none → Hs a = none) : RpW K vs Hs B' σ H' r v b.toW := by
  cases b with
  | dt d => exact h
  | own c =>
    obtain ⟨a, rfl, n, nb, ha⟩ := h
    exact ⟨a, rfl, d a n, nb, ha, R.notOwn n⟩
theorem Rl.notOwnB (R : Rl K vs B σ H r) {a : Addr} {o : HO} (n : B a = some o) : ¬ Own vs σ r a := fun ⟨z, c, h1, h2⟩ => by
  obtain ⟨b, q1, q2, q3⟩ := R.own z c h1
  rw [h2] at q1; cases q1
  rw [n] at q2; cases q2
end

/-! ### a thing is changed, or frozen -/
section
variable {r : Rho} {z : Ix} {c c' : Cn} {d : D}
theorem lt_of_cnt_loc {i : Nat} (h : r.cnt (.loc i) = some c) : i < r.loc.length := by
  cases e : r.loc[i]? with
  | none => simp [Rho.cnt, e] at h
  | some s => exact (List.getElem?_eq_some_iff.mp e).1
theorem lt_of_cnt_bor {i : Nat} (h : r.cnt (.bor i) = some c) : i < r.bor.length := by
  cases e : r.bor[i]? with
  | none => simp [Rho.cnt, e] at h
  | some s => exact (List.getElem?_eq_some_iff.mp e).1
theorem cnt_setc (h : r.cnt z = some c) (z' : Ix) : (r.setc c' z).cnt z' = if z' = z then some c' else r.cnt z' := by
  cases z with
  | loc i =>
    have hi := lt_of_cnt_loc h
    cases z' with
    | loc j =>
      by_cases e : j = i
      · subst e; simp [Rho.setc, Rho.cnt, List.getElem?_set_self hi]
      · have : ¬ Ix.loc j = Ix.loc i := fun q => e (Ix.loc.inj q)
        simp [Rho.setc, Rho.cnt, List.getElem?_set_ne (Ne.symm e), this]
    | bor j => simp [Rho.setc, Rho.cnt]
  | bor i =>
    have hi := lt_of_cnt_bor h
    cases z' with
    | bor j =>
      by_cases e : j = i
      · subst e; simp [Rho.setc, Rho.cnt, List.getElem?_set_self hi]
      · have : ¬ Ix.bor j = Ix.bor i := fun q => e (Ix.bor.inj q)
        simp [Rho.setc, Rho.cnt, List.getElem?_set_ne (Ne.symm e), this]
    | loc j => simp [Rho.setc, Rho.cnt]
theorem cnt_frz (h : r.cnt z = some c) (z' : Ix) : (r.frz d z).cnt z' = if z' = z then none else r.cnt z' := by
  cases z with
  | loc i =>
    have hi := lt_of_cnt_loc h
    cases z' with
    | loc j =>
      by_cases e : j = i
      · subst e; simp [Rho.frz, Rho.cnt, List.getElem?_set_self hi]
      · have : ¬ Ix.loc j = Ix.loc i := fun q => e (Ix.loc.inj q)
        simp [Rho.frz, Rho.cnt, List.getElem?_set_ne (Ne.symm e), this]
    | bor j => simp [Rho.frz, Rho.cnt]
  | bor i =>
    have hi := lt_of_cnt_bor h
    cases z' with
    | bor j =>
      by_cases e : j = i
      · subst e; simp [Rho.frz, Rho.cnt, List.getElem?_set_self hi]
      · have : ¬ Ix.bor j = Ix.bor i := fun q => e (Ix.bor.inj q)
        simp [Rho.frz, Rho.cnt, List.getElem?_set_ne (Ne.symm e), this]
    | loc j => simp [Rho.frz, Rho.cnt]
end
section
variable {K : PySem.W.Frag} {vs : List V} {B H : Hp} {σ : L2.St} {r : Rho} {z : Ix} {c c' : Cn} {a : Addr} {o : HO}
/-- the thing at a becomes c' -/
theorem Rl.put (R : Rl K vs B σ H r) (hz : r.cnt z = some c) (ha : adr vs σ z = some (.ref a)) (hc : At K B (upd H a o) a c') :
    Rl K vs B σ (upd H a o) (r.setc c' z) ∧ Stp vs B H σ r B (upd H a o) σ (r.setc c' z) := by
  obtain ⟨a', q1, q2, q3⟩ := R.own z c hz
  rw [ha] at q1; cases q1
  have own' : ∀ x, Own vs σ (r.setc c' z) x → Own vs σ r x := fun x ⟨y, e, h1, h2⟩ => by
    rw [cnt_setc hz] at h1
    by_cases hy : y = z
    · subst hy; exact ⟨y, c, hz, h2⟩
    · rw [if_neg hy] at h1; exact ⟨y, e, h1, h2⟩
  have hsub : Same B (upd H a o) := fun x u h => by
    have : x ≠ a := fun e => by subst e; rw [q2] at h; cases h
    rw [upd_ne this]; exact R.sub _ _ h
  refine ⟨⟨hsub, ?_, ?_, ?_, ?_, ?_, ?_⟩, ⟨Same.refl B, ?_, ?_, fun x h => .inl (own' x h), ?_, ?_, ?_⟩⟩
  · cases z <;> simp [Rho.setc, R.len]
  · intro i d h
    cases z with
    | loc j =>
      by_cases e : j = i
      · subst e
        have := lt_of_cnt_loc hz
        simp [Rho.setc, List.getElem?_set_self this] at h
      · exact R.dat i d (by simpa [Rho.setc, List.getElem?_set_ne e] using h)
    | bor j => exact R.dat i d h
  · intro y e h
    rw [cnt_setc hz] at h
    by_cases hy : y = z
    · subst hy
      rw [if_pos rfl] at h; cases h
      exact ⟨a, ha, q2, hc⟩
    · rw [if_neg hy] at h
      obtain ⟨b, p1, p2, p3⟩ := R.own y e h
      have nb : b ≠ a := fun q => hy (R.sep y z e c a h hz (q ▸ p1) ha)
      exact ⟨b, p1, p2, p3.mono (Same.refl B) fun u q => by rw [upd_ne nb]; exact q⟩
  · intro i k h
    cases z with
    | loc j =>
      by_cases e : j = i
      · subst e
        have := lt_of_cnt_loc hz
        simp [Rho.setc, List.getElem?_set_self this] at h
      · exact R.lbo i k (by simpa [Rho.setc, List.getElem?_set_ne e] using h)
    | bor j => exact R.lbo i k h
  · intro k d h
    cases z with
    | bor j =>
      by_cases e : j = k
      · subst e
        have := lt_of_cnt_bor hz
        simp [Rho.setc, List.getElem?_set_self this] at h
      · exact R.bod k d (by simpa [Rho.setc, List.getElem?_set_ne e] using h)
    | loc j => exact R.bod k d h
  · intro y y' e e' x h h' p p'
    rw [cnt_setc hz] at h h'
    have g : ∀ {y : Ix} {e : Cn}, (if y = z then some c' else r.cnt y) = some e → ∃ e2, r.cnt y = some e2 := fun {y e} h => by
      by_cases hy : y = z
      · subst hy; exact ⟨c, hz⟩
      · rw [if_neg hy] at h; exact ⟨e, h⟩
    obtain ⟨e1, g1⟩ := g h
    obtain ⟨e2, g2⟩ := g h'
    exact R.sep y y' e1 e2 x g1 g2 p p'
  · intro x u h n
    have : x ≠ a := fun e => by subst e; exact n ⟨z, c, hz, ha⟩
    rw [upd_ne this]
    exact ⟨h, fun q => q⟩
  · intro x h
    by_cases e : x = a
    · subst e; rw [upd_same] at h; cases h
    · rw [upd_ne e] at h; exact h
  · cases z <;> simp [Rho.setc]
  · intro k d h
    cases z with
    | bor j =>
      by_cases e : j = k
      · subst e
        have q : r.cnt (.bor j) = some c := hz
        simp [Rho.cnt, h] at q
      · simpa [Rho.setc, List.getElem?_set_ne e] using h
    | loc j => exact h
  · intro k e x h _
    cases z with
    | bor j =>
      by_cases e2 : j = k
      · subst e2
        exact .inl ⟨c', by simp [Rho.setc, List.getElem?_set_self (lt_of_cnt_bor hz)]⟩
      · exact .inl ⟨e, by simpa [Rho.setc, List.getElem?_set_ne e2] using h⟩
    | loc j => exact .inl ⟨e, h⟩
theorem At.rp (h : At K B H a c) (n : B a = none) : ∃ o, H a = Option.some o ∧ Rp K (upd B a o) (.ref a) c.toD := by
  cases c with
  | lst ds =>
    obtain ⟨xs, h1, h2⟩ := h
    exact ⟨_, h1, .lst upd_same (h2.mono (same_upd n))⟩
  | dct ds =>
    obtain ⟨xs, h1, h2⟩ := h
    exact ⟨_, h1, .dct upd_same (h2.mono (same_upd n))⟩
/-- the thing at a is data from now on -/
theorem Rl.freeze (R : Rl K vs B σ H r) (hz : r.cnt z = some c) (ha : adr vs σ z = some (.ref a)) :
    ∃ o, H a = some o ∧ Rp K (upd B a o) (.ref a) c.toD ∧ Rl K vs (upd B a o) σ H (r.frz c.toD z) ∧ Stp vs B H σ r (upd B a o) H σ (r.frz c.toD z) := by
  obtain ⟨a', q1, q2, q3⟩ := R.own z c hz
  rw [ha] at q1; cases q1
  obtain ⟨o, ho, rp⟩ := q3.rp q2
  have sb : Same B (upd B a o) := same_upd q2
  have own' : ∀ x, Own vs σ (r.frz c.toD z) x → Own vs σ r x ∧ x ≠ a := fun x ⟨y, e, h1, h2⟩ => by
    rw [cnt_frz hz] at h1
    by_cases hy : y = z
    · subst hy; rw [if_pos rfl] at h1; cases h1
    · rw [if_neg hy] at h1
      refine ⟨⟨y, e, h1, h2⟩, fun q => hy ?_⟩
      subst q
      exact R.sep y z e c x h1 hz h2 ha
  refine ⟨o, ho, rp, ⟨?_, ?_, ?_, ?_, ?_, ?_, ?_⟩, ⟨sb, ?_, fun _ h => h, fun x h => .inl (own' x h).1, ?_, ?_, ?_⟩⟩
  · intro x u h
    by_cases e : x = a
    · subst e; rw [upd_same] at h; cases h; exact ho
    · rw [upd_ne e] at h; exact R.sub _ _ h
  · cases z <;> simp [Rho.frz, R.len]
  · intro i d h
    cases z with
    | loc j =>
      by_cases e : j = i
      · subst e
        have := lt_of_cnt_loc hz
        simp [Rho.frz, List.getElem?_set_self this] at h
        subst h
        have ha' : (match σ[j]? with | some (some v) => some v | _ => none) = some (V.ref a) := ha
        cases e2 : σ[j]? with
        | none => rw [e2] at ha'; cases ha'
        | some w =>
          cases w with
          | none => rw [e2] at ha'; cases ha'
          | some w => rw [e2] at ha'; cases ha'; exact ⟨_, rfl, rp⟩
      · obtain ⟨v, h1, h2⟩ := R.dat i d (by simpa [Rho.frz, List.getElem?_set_ne e] using h)
        exact ⟨v, h1, h2.mono sb⟩
    | bor j =>
      obtain ⟨v, h1, h2⟩ := R.dat i d h
      exact ⟨v, h1, h2.mono sb⟩
  · intro y e h
    rw [cnt_frz hz] at h
    by_cases hy : y = z
    · subst hy; rw [if_pos rfl] at h; cases h
    · rw [if_neg hy] at h
      obtain ⟨b, p1, p2, p3⟩ := R.own y e h
      have nb : b ≠ a := fun q => hy (R.sep y z e c a h hz (q ▸ p1) ha)
      exact ⟨b, p1, by rw [upd_ne nb]; exact p2, p3.mono sb fun u q => q⟩
  · intro i k h
    cases z with
    | loc j =>
      by_cases e : j = i
      · subst e
        have := lt_of_cnt_loc hz
        simp [Rho.frz, List.getElem?_set_self this] at h
      · exact R.lbo i k (by simpa [Rho.frz, List.getElem?_set_ne e] using h)
    | bor j => exact R.lbo i k h
  · intro k d h
    cases z with
    | bor j =>
      by_cases e : j = k
      · subst e
        have := lt_of_cnt_bor hz
        simp [Rho.frz, List.getElem?_set_self this] at h
        subst h
        exact ⟨_, ha, rp⟩
      · obtain ⟨v, h1, h2⟩ := R.bod k d (by simpa [Rho.frz, List.getElem?_set_ne e] using h)
        exact ⟨v, h1, h2.mono sb⟩
    | loc j =>
      obtain ⟨v, h1, h2⟩ := R.bod k d h
      exact ⟨v, h1, h2.mono sb⟩
  · intro y y' e e' x h h' p p'
    rw [cnt_frz hz] at h h'
    have g : ∀ {y : Ix} {e : Cn}, (if y = z then none else r.cnt y) = some e → r.cnt y = some e := fun {y e} h => by
      by_cases hy : y = z
      · subst hy; rw [if_pos rfl] at h; cases h
      · rw [if_neg hy] at h; exact h
    exact R.sep y y' e e' x (g h) (g h') p p'
  · intro x u h n
    have : x ≠ a := fun e => by subst e; exact n ⟨z, c, hz, ha⟩
    exact ⟨h, fun q => by rw [upd_ne this]; exact q⟩
  · cases z <;> simp [Rho.frz]
  · intro k d h
    cases z with
    | bor j =>
      by_cases e : j = k
      · subst e
        have q : r.cnt (.bor j) = some c := hz
        simp [Rho.cnt, h] at q
      · simpa [Rho.frz, List.getElem?_set_ne e] using h
    | loc j => exact h
  · intro k e x h hx
    cases z with
    | bor j =>
      by_cases e2 : j = k
      · subst e2
        have hx' : adr vs σ (.bor j) = some (.ref x) := hx
        rw [ha] at hx'; cases hx'
        exact .inr ⟨c.toD, o, by simp [Rho.frz, List.getElem?_set_self (lt_of_cnt_bor hz)], upd_same⟩
      · exact .inl ⟨e, by simpa [Rho.frz, List.getElem?_set_ne e2] using h⟩
    | loc j => exact .inl ⟨e, h⟩
end
end Lc

set_option Elab.async false
set_option maxRecDepth 100000
set_option maxHeartbeats 4000000
/-! Part B: what a piece of syntax denotes over plain data; expressions and tests. -/
namespace Lc
open PySem L2

/-- an exception's class and its attributes -/
def RpXK (K : PySem.W.Frag) (mg : Str → Option Value) (B : Hp) (cl : Value) (dd : Option Addr) (x : Ex) : Prop :=
  ∃ C a fs, cl = .ref C ∧ mg x.cls = some (.ref C) ∧ dd = some a ∧ B a = some (.xd fs) ∧ RpF K B fs x.fs
abbrev RpX (X : Cx) (B : Hp) (cl : Value) (dd : Option Addr) (x : Ex) : Prop := RpXK X.K X.mg B cl dd x

def Post {α β : Type} (X : Cx) (vs : List V) (Wx : WX) (B H : Hp) (σ : L2.St) (r : Rho) (res : Res α) (rel : Hp → Hp → Rho → β → α → Prop) (Q : β → Hp → Prop) : Prop :=
  match res with
  | .ok a r' => ∀ b B' H', Stp vs B H σ r B' H' σ r' → Rl X.K vs B' σ H' r' → rel B' H' r' b a → Q b H'
  | .exc x r' => ∀ cl dd B' H', Stp vs B H σ r B' H' σ r' → Rl X.K vs B' σ H' r' → RpX X B' cl dd x → Wx cl dd σ H'
  | .fail => False
abbrev Fam (β α : Type) := Hp → Hp → Hp → Rho → β → α → Prop
def Back {β α : Type} (F : Fam β α) : Prop := ∀ Hs H B' H' r' b a, (∀ x, H x = none → Hs x = none) → F H B' H' r' b a → F Hs B' H' r' b a
def fW (X : Cx) (vs : List V) (σ : L2.St) : Fam V W := fun Hs B' H' r' v w => RpW X.K vs Hs B' σ H' r' v w
def fT : Fam Bool Bool := fun _ _ _ _ b a => b = a
theorem back_W {X : Cx} {vs : List V} {σ : L2.St} : Back (fW X vs σ) := fun _ _ _ _ _ _ _ s h => RpW.back h s
theorem back_T : Back fT := fun _ _ _ _ _ _ _ _ h => h
section
variable {X : Cx} {vs : List V} {Wx : WX} {B H : Hp} {σ : L2.St} {r : Rho}
/-- what follows, seen from the start -/
theorem Post.bind0 {α β γ δ : Type} {rel1 : Hp → Hp → Rho → β → α → Prop} {rel2 : Hp → Hp → Rho → δ → γ → Prop} {m : M α} {k : α → M γ} {Q1 : β → Hp → Prop} {Q2 : δ → Hp → Prop} (h : Post X vs Wx B H σ r (M.bind m k r) rel2 Q2)
    (hk : ∀ b a B1 H1 r1, Stp vs B H σ r B1 H1 σ r1 → Rl X.K vs B1 σ H1 r1 → rel1 B1 H1 r1 b a → Post X vs Wx B H σ r (k a r1) rel2 Q2 → Q1 b H1) : Post X vs Wx B H σ r (m r) rel1 Q1 := by
  cases hm : m r with
  | ok a r1 =>
    have e : M.bind m k r = k a r1 := by simp [M.bind, hm]
    rw [e] at h
    exact fun b B1 H1 s1 R1 f1 => hk b a B1 H1 r1 s1 R1 f1 h
  | exc x r1 =>
    have e : M.bind m k r = .exc x r1 := by simp [M.bind, hm]
    rw [e] at h
    exact h
  | fail =>
    have e : M.bind m k r = .fail := by simp [M.bind, hm]
    rw [e] at h
    exact h.elim
/-- the same, seen from further on -/
theorem Post.shift {γ δ : Type} {F : Fam δ γ} {B1 H1 : Hp} {r1 : Rho} {res : Res γ} {Q : δ → Hp → Prop} (hF : Back F) (s1 : Stp vs B H σ r B1 H1 σ r1) (h : Post X vs Wx B H σ r res (F H) Q) : Post X vs Wx B1 H1 σ r1 res (F H1) Q := by
  cases res with
  | ok c r2 => exact fun d B2 H2 s2 R2 f2 => h d B2 H2 (s1.trans s2) R2 (hF _ _ _ _ _ _ _ s1.dom f2)
  | exc x r2 => exact fun cl dd B2 H2 s2 R2 f2 => h cl dd B2 H2 (s1.trans s2) R2 f2
  | fail => exact h.elim
theorem Post.bind {α β γ δ : Type} {F1 : Fam β α} {F2 : Fam δ γ} {m : M α} {k : α → M γ} {Q1 : β → Hp → Prop} {Q2 : δ → Hp → Prop} (hF : Back F2) (h : Post X vs Wx B H σ r (M.bind m k r) (F2 H) Q2)
    (hk : ∀ b a B1 H1 r1, Stp vs B H σ r B1 H1 σ r1 → Rl X.K vs B1 σ H1 r1 → F1 H B1 H1 r1 b a → Post X vs Wx B1 H1 σ r1 (k a r1) (F2 H1) Q2 → Q1 b H1) : Post X vs Wx B H σ r (m r) (F1 H) Q1 :=
  Post.bind0 h fun b a B1 H1 r1 s1 R1 f1 h1 => hk b a B1 H1 r1 s1 R1 f1 (h1.shift hF s1)
/-- a pure end: nothing changes but for new things -/
theorem Post.fin {α β : Type} {F : Fam β α} {a : α} {b : β} {B' H' : Hp} {Q : β → Hp → Prop} (R : Rl X.K vs B σ H r) (h : Post X vs Wx B H σ r (.ok a r) (F H) Q) (e : Ext B H B' H') (s : Same B' H') (f : F H B' H' r b a) : Q b H' :=
  h b B' H' e.stp (R.ext e s) f
end

structure DE (X : Cx) (e : Expr) (f : M W) : Prop where
  run : ∀ Wx, Takes X Wx → ∃ t, PE X e t ∧ ∀ vs B σ H r Q, Rl X.K vs B σ H r → Post X vs Wx B H σ r (f r) (fW X vs σ H) Q → t σ H Q
structure DT (X : Cx) (e : Expr) (f : M Bool) : Prop where
  run : ∀ Wx, Takes X Wx → ∃ t, PT X e t ∧ ∀ vs B σ H r Q, Rl X.K vs B σ H r → Post X vs Wx B H σ r (f r) (fT H) Q → t σ H Q
/-- a test of and, or: whatever its whole is -/
structure DW (X : Cx) (e : Expr) (f : M Bool) : Prop where
  run : ∀ Wx, Takes X Wx → ∃ t, PW X e t ∧ ∀ vs B σ H r Q, Rl X.K vs B σ H r → Post X vs Wx B H σ r (f r) (fT H) Q → t σ H Q
theorem DW.dt {X : Cx} {e : Expr} {f : M Bool} (h : DW X e f) : DT X e f := ⟨fun Wx tk => let ⟨t, a, b⟩ := h.run Wx tk; ⟨t, a.pt, b⟩⟩

/-! ### names and constants -/
def cVar (i : Nat) : M W := fun r => match r.loc[i]? with
  | some (some (.dt d)) => .ok (.dt d) r
  | some (some (.own _)) => .ok (.cel (.loc i)) r
  | some (some (.bor k)) => .ok (.cel (.bor k)) r
  | _ => .fail
def cC (d : D) : M W := fun r => .ok (.dt d) r
section
variable {X : Cx}
theorem de_var {i : Nat} {x : Str} {pos : Pos} (hN : X.N[i]? = some x) (hv : Vis X.env.scope x) (hd : (x == ("__debug__" : Str)) = false) (hcd : (x == ("__classdict__" : Str)) = false) : DE X (.Name x pos) (cVar i) := by
  refine ⟨fun Wx tk => ⟨_, pe_var hN hv hd hcd, fun vs B σ H r Q R h => ?_⟩⟩
  cases e : r.loc[i]? with
  | none => simp only [cVar, e] at h; exact h.elim
  | some o =>
    cases o with
    | none => simp only [cVar, e] at h; exact h.elim
    | some s =>
      cases s with
      | dt d =>
        simp only [cVar, e] at h
        obtain ⟨v, h1, h2⟩ := R.dat i d e
        exact ⟨v, h1, h v B H .refl R h2⟩
      | own c =>
        simp only [cVar, e] at h
        obtain ⟨a, h1, h2, h3⟩ := R.own (.loc i) c (by simp [Rho.cnt, e])
        have h1' := h1
        simp only [adr] at h1'
        cases e2 : σ[i]? with
        | none => rw [e2] at h1'; cases h1'
        | some w =>
          cases w with
          | none => rw [e2] at h1'; cases h1'
          | some w =>
            rw [e2] at h1'; cases h1'
            exact ⟨_, e2, h _ B H .refl R h1⟩
      | bor k =>
        simp only [cVar, e] at h
        obtain ⟨v, h1, h2⟩ := R.lbo i k e
        exact ⟨v, h2, h v B H .refl R h1⟩
theorem de_const {e : Expr} {v : V} {d : D} (hp : PE X e (tC v)) (hr : ∀ B, Rp X.K B v d) : DE X e (cC d) :=
  ⟨fun _ _ => ⟨_, hp, fun _ B _ H _ _ R h => h v B H .refl R (hr B)⟩⟩
theorem de_int {i j pos} : DE X (.Constant (.int i) j pos) (cC (.int i)) := de_const pe_int fun _ => .int i
theorem de_bl {i j pos} : DE X (.Constant (.bool i) j pos) (cC (.bl i)) := de_const pe_bl fun _ => .bl i
theorem de_non {j pos} : DE X (.Constant .none j pos) (cC .non) := de_const pe_non fun _ => .non
theorem de_str {i j pos} : DE X (.Constant (.str i) j pos) (cC (.str i)) := de_const pe_str fun _ => .str i
end

/-! ### pure operations -/
def OpS (X : Cx) (f : Value → Value → Sem Value) (g : D → D → Option Bo) : Prop :=
  ∃ rr : R2, OpR X f rr ∧ ∀ x y da db b, g da db = some b → ∀ B H Q, Same B H → RpV X.K B H x da → RpV X.K B H y db → (∀ v B' H', Ext B H B' H' → Same B' H' → RpB X.K H B' H' v b → Q v H') → rr x y H Q
def UnS (X : Cx) (f : Value → Sem Value) (g : D → Option Bo) : Prop :=
  ∃ rr, UnR X f rr ∧ ∀ x da b, g da = some b → ∀ B H Q, Same B H → RpV X.K B H x da → (∀ v B' H', Ext B H B' H' → Same B' H' → RpB X.K H B' H' v b → Q v H') → rr x H Q
def M.view (w : W) : M D := fun r => match w.view r with
  | some d => .ok d r
  | none => .fail
def M.give (o : Option Bo) : M W := fun r => match o with
  | some b => .ok b.toW r
  | none => .fail
def cOp2 (g : D → D → Option Bo) (fa fb : M W) : M W := M.bind fa fun wa => M.bind fb fun wb => M.bind (M.view wa) fun da => M.bind (M.view wb) fun db => M.give (g da db)
def cOp1 (g : D → Option Bo) (fa : M W) : M W := M.bind fa fun wa => M.bind (M.view wa) fun da => M.give (g da)
section
variable {X : Cx} {vs : List V} {Wx : WX} {B H Hs : Hp} {σ : L2.St} {r : Rho} {a b : Expr} {fa fb : M W} {pos : Pos}
theorem Post.view {γ δ : Type} {rel : Hp → Hp → Rho → δ → γ → Prop} {B0 H0 : Hp} {r0 : Rho} {w : W} {k : D → M γ} {Q : δ → Hp → Prop} {v : V} (R : Rl X.K vs B σ H r) (hv : RpW X.K vs Hs B σ H r v w) (h : Post X vs Wx B0 H0 σ r0 (M.bind (M.view w) k r) rel Q) :
    ∃ d, RpV X.K B H v d ∧ w.view r = some d ∧ Post X vs Wx B0 H0 σ r0 (k d r) rel Q := by
  cases e : w.view r with
  | none => simp only [M.bind, M.view, e] at h; exact h.elim
  | some d =>
    simp only [M.bind, M.view, e] at h
    exact ⟨d, hv.view R e, rfl, h⟩
theorem Post.give {o : Option Bo} {Q : VK} (R : Rl X.K vs B σ H r) (h : Post X vs Wx B H σ r (M.give o r) (fW X vs σ H) Q) :
    ∃ b, o = some b ∧ ∀ v B' H', Ext B H B' H' → Same B' H' → RpB X.K H B' H' v b → Q v H' := by
  cases o with
  | none => exact h.elim
  | some b =>
    refine ⟨b, rfl, fun v B' H' e s q => ?_⟩
    have h' : Post X vs Wx B H σ r (.ok b.toW r) (fW X vs σ H) Q := h
    exact h'.fin R e s (q.toW R fun _ z => z)
/-- two values, then a pure operation -/
theorem Post.op2 {g : D → D → Option Bo} {ta tb : TE} {Q : VK} {rr : R2} (R : Rl X.K vs B σ H r)
    (ha : ∀ vs B σ H r Q, Rl X.K vs B σ H r → Post X vs Wx B H σ r (fa r) (fW X vs σ H) Q → ta σ H Q) (hb : ∀ vs B σ H r Q, Rl X.K vs B σ H r → Post X vs Wx B H σ r (fb r) (fW X vs σ H) Q → tb σ H Q)
    (ho : ∀ x y da db b, g da db = some b → ∀ B H Q, Same B H → RpV X.K B H x da → RpV X.K B H y db → (∀ v B' H', Ext B H B' H' → Same B' H' → RpB X.K H B' H' v b → Q v H') → rr x y H Q)
    (h : Post X vs Wx B H σ r (cOp2 g fa fb r) (fW X vs σ H) Q) : tOp rr ta tb σ H Q := by
  refine ha vs B σ H r _ R (Post.bind back_W h fun x wa B1 H1 r1 s1 R1 q1 h1 => ?_)
  refine hb vs B1 σ H1 r1 _ R1 (Post.bind back_W h1 fun y wb B2 H2 r2 s2 R2 q2 h2 => ?_)
  obtain ⟨da, va, _, h3⟩ := Post.view R2 (RpW.stp q1 s2) h2
  obtain ⟨db, vb, _, h4⟩ := Post.view R2 q2 h3
  obtain ⟨bo, eb, h5⟩ := Post.give R2 h4
  exact ho x y da db bo eb B2 H2 Q R2.sub va vb h5
theorem de_bin {op : Operator} {g : D → D → Option Bo} (ho : OpS X (binaryOp op) g) (ha : DE X a fa) (hb : DE X b fb) : DE X (.BinOp a op b pos) (cOp2 g fa fb) := by
  refine ⟨fun Wx tk => ?_⟩
  obtain ⟨ta, pa, qa⟩ := ha.run Wx tk
  obtain ⟨tb, pb, qb⟩ := hb.run Wx tk
  obtain ⟨rr, h1, h2⟩ := ho
  exact ⟨_, pe_op h1 pa pb, fun vs B σ H r Q R h => Post.op2 R qa qb h2 h⟩
theorem de_cmp {op : CmpOp} {g : D → D → Option Bo} (ho : OpS X (compareOp op) g) (ha : DE X a fa) (hb : DE X b fb) (hm : behindInMarks op b = false) : DE X (.Compare a [op] [b] pos) (cOp2 g fa fb) := by
  refine ⟨fun Wx tk => ?_⟩
  obtain ⟨ta, pa, qa⟩ := ha.run Wx tk
  obtain ⟨tb, pb, qb⟩ := hb.run Wx tk
  obtain ⟨rr, h1, h2⟩ := ho
  exact ⟨_, pe_cmpR h1 pa pb hm, fun vs B σ H r Q R h => Post.op2 R qa qb h2 h⟩
theorem de_un {op : UnaryOp} {g : D → Option Bo} (ho : UnS X (unaryOp op) g) (ha : DE X a fa) : DE X (.UnaryOp op a pos) (cOp1 g fa) := by
  refine ⟨fun Wx tk => ?_⟩
  obtain ⟨ta, pa, qa⟩ := ha.run Wx tk
  obtain ⟨rr, h1, h2⟩ := ho
  refine ⟨_, pe_un h1 pa, fun vs B σ H r Q R h => ?_⟩
  refine qa vs B σ H r _ R (Post.bind back_W h fun x wa B1 H1 r1 s1 R1 q1 hh => ?_)
  obtain ⟨da, va, _, h3⟩ := Post.view R1 q1 hh
  obtain ⟨bo, eb, h5⟩ := Post.give R1 h3
  exact h2 x da bo eb B1 H1 Q R1.sub va h5

/-! ### tests -/
def D.bool : D → Option Bool
  | .bl b => some b
  | _ => none
def M.bool (w : W) : M Bool := fun r => match w with
  | .dt (.bl b) => .ok b r
  | _ => .fail
/-- the truth of data -/
def D.tru : D → Option Bool
  | .non => some false
  | .bl b => some b
  | .int i => some (i != 0)
  | .str x => if x.length ≤ sizeLine then some ((x.length : Int) != 0) else none
  | .lst l => some (!l.isEmpty)
  | .tup l => some (!l.isEmpty)
  | .dct l => some (!l.isEmpty)
  | _ => none
def cTru (f : M W) : M Bool := M.bind f fun w => M.bind (M.view w) fun d => M.opt d.tru
theorem emp_len {α β : Type} {l : List α} {m : List β} (h : l.length = m.length) : l.isEmpty = m.isEmpty := by
  cases l <;> cases m <;> first | rfl | (simp at h)
theorem tru_of {K : PySem.W.Frag} {x : V} {d : D} {k : Bool} (h : RpV K B H x d) (s : Same B H) (e : d.tru = some k) : TruV K x H k := by
  cases d with
  | non => cases h; cases e; rfl
  | bl b => cases h; cases e; rfl
  | int i => cases h; cases e; rfl
  | str z =>
    cases h
    simp only [D.tru] at e
    split at e
    · cases e; exact ⟨by assumption, rfl⟩
    · cases e
  | lst l =>
    obtain ⟨a, xs, rfl, h1, h2⟩ := h
    cases e
    exact .inl ⟨xs, .of h1, by rw [emp_len h2.length]⟩
  | tup l =>
    cases e
    cases h with
    | tup h1 h2 => exact .inr (.inl ⟨_, seqT_mono s h1, by rw [emp_len h2.length]⟩)
  | dct l =>
    obtain ⟨a, xs, rfl, h1, h2⟩ := h
    cases e
    exact .inr (.inr ⟨xs, h1, by rw [emp_len h2.length]⟩)
  | ty n => cases e
  | scr l => cases e
  | cls l => cases e
  | exc a l m => cases e
  | obj l m => cases e
theorem Post.opt {γ δ : Type} {rel : Hp → Hp → Rho → δ → γ → Prop} {r0 : Rho} {α : Type} {o : Option α} {k : α → M γ} {Q : δ → Hp → Prop} (h : Post X vs Wx B H σ r0 (M.bind (M.opt o) k r) rel Q) :
    ∃ a, o = some a ∧ Post X vs Wx B H σ r0 (k a r) rel Q := by
  cases o with
  | none => exact h.elim
  | some a => exact ⟨a, rfl, h⟩
theorem Post.optT {o : Option Bool} {Q : Bool → Hp → Prop} (R : Rl X.K vs B σ H r) (h : Post X vs Wx B H σ r (M.opt o r) (fT H) Q) : ∃ b, o = some b ∧ Q b H := by
  cases o with
  | none => exact h.elim
  | some b =>
    have h' : Post X vs Wx B H σ r (.ok b r) (fT H) Q := h
    exact ⟨b, rfl, h' b B H .refl R rfl⟩
theorem dt_truth (ha : DE X a fa) (he : ∀ whole, isTrue a X.env whole = (do let v ← whole; standAt a.pos; holding [v] (truthy v))) : DT X a (cTru fa) := by
  refine ⟨fun Wx tk => ?_⟩
  obtain ⟨ta, pa, qa⟩ := ha.run Wx tk
  refine ⟨_, pt_truth pa he, fun vs B σ H r Q R h => ?_⟩
  refine qa vs B σ H r _ R (Post.bind back_T h fun x wa B1 H1 r1 s1 R1 q1 hh => ?_)
  obtain ⟨da, va, _, h3⟩ := Post.view R1 q1 hh
  obtain ⟨k, ek, h4⟩ := Post.optT R1 h3
  exact ⟨k, tru_of va R1.sub ek, h4⟩
end
end Lc

set_option Elab.async false
set_option maxRecDepth 100000
set_option maxHeartbeats 4000000
/-! Part C: further tests, and, or, not, chains; arguments, displays, freezing. -/
namespace Lc
open PySem L2
section
variable {X : Cx} {vs : List V} {Wx : WX} {B H Hs B0 H0 : Hp} {σ : L2.St} {r r0 : Rho} {a b c : Expr} {fa fb fc : M W} {ga gb : M Bool} {pos : Pos} {rest : List Expr}

/-! ### tests -/
def cAndT (f g : M Bool) : M Bool := M.bind f fun k => if k = true then g else M.ret false
def cOrT (f g : M Bool) : M Bool := M.bind f fun k => if k = true then M.ret true else g
def cNotT (f : M Bool) : M Bool := M.bind f fun k => M.ret (!k)
def W.asB : W → M Bool
  | .dt (.bl b) => M.ret b
  | _ => M.no
def M.bl (f : M W) : M Bool := M.bind f W.asB
theorem Post.bl {Q : Bool → Hp → Prop} {w : W} {v : V} (R : Rl X.K vs B σ H r) (hv : RpW X.K vs Hs B σ H r v w)
    (h : Post X vs Wx B H σ r (w.asB r) (fT H) Q) : ∃ k, v = .bl k ∧ Q k H := by
  cases w with
  | dt d =>
    cases d with
    | bl k =>
      cases hv
      exact ⟨k, rfl, h k B H .refl R rfl⟩
    | _ => exact h.elim
  | _ => exact h.elim
theorem dw_and1 (ha : DT X a ga) : DW X (.BoolOp .And [a] pos) ga := ⟨fun Wx tk => let ⟨t, p, q⟩ := ha.run Wx tk; ⟨t, pw_and1 p, q⟩⟩
theorem dw_or1 (ha : DT X a ga) : DW X (.BoolOp .Or [a] pos) ga := ⟨fun Wx tk => let ⟨t, p, q⟩ := ha.run Wx tk; ⟨t, pw_or1 p, q⟩⟩
theorem Post.retT {k : Bool} {Q : Bool → Hp → Prop} (R : Rl X.K vs B σ H r) (h : Post X vs Wx B H σ r (M.ret k r) (fT H) Q) : Q k H := h k B H .refl R rfl
theorem dw_and (ha : DT X a ga) (hb : DW X (.BoolOp .And (b :: rest) pos) gb) : DW X (.BoolOp .And (a :: b :: rest) pos) (cAndT ga gb) := by
  refine ⟨fun Wx tk => ?_⟩
  obtain ⟨ta, pa, qa⟩ := ha.run Wx tk
  obtain ⟨tb, pb, qb⟩ := hb.run Wx tk
  refine ⟨_, pw_and pa pb, fun vs B σ H r Q R h => qa vs B σ H r _ R (Post.bind back_T h fun k k' B1 H1 r1 s1 R1 e h1 => ?_)⟩
  cases e
  cases k with
  | true => exact qb vs B1 σ H1 r1 Q R1 h1
  | false => exact Post.retT R1 h1
theorem dw_or (ha : DT X a ga) (hb : DW X (.BoolOp .Or (b :: rest) pos) gb) : DW X (.BoolOp .Or (a :: b :: rest) pos) (cOrT ga gb) := by
  refine ⟨fun Wx tk => ?_⟩
  obtain ⟨ta, pa, qa⟩ := ha.run Wx tk
  obtain ⟨tb, pb, qb⟩ := hb.run Wx tk
  refine ⟨_, pw_or pa pb, fun vs B σ H r Q R h => qa vs B σ H r _ R (Post.bind back_T h fun k k' B1 H1 r1 s1 R1 e h1 => ?_)⟩
  cases e
  cases k with
  | true => exact Post.retT R1 h1
  | false => exact qb vs B1 σ H1 r1 Q R1 h1
theorem dt_not (ha : DT X a ga) : DT X (.UnaryOp .Not a pos) (cNotT ga) := by
  refine ⟨fun Wx tk => ?_⟩
  obtain ⟨ta, pa, qa⟩ := ha.run Wx tk
  refine ⟨_, pt_not pa, fun vs B σ H r Q R h => qa vs B σ H r _ R (Post.bind back_T h fun k k' B1 H1 r1 s1 R1 e h1 => ?_)⟩
  cases e
  exact Post.retT R1 h1
theorem dt_cmp {op : CmpOp} {g : D → D → Option Bo} (ho : OpS X (compareOp op) g) (ha : DE X a fa) (hb : DE X b fb) (hm : behindInMarks op b = false) : DT X (.Compare a [op] [b] pos) (M.bl (cOp2 g fa fb)) := by
  refine ⟨fun Wx tk => ?_⟩
  obtain ⟨ta, pa, qa⟩ := ha.run Wx tk
  obtain ⟨tb, pb, qb⟩ := hb.run Wx tk
  obtain ⟨rr, h1, h2⟩ := ho
  refine ⟨_, pt_cmpR h1 pa pb hm, fun vs B σ H r Q R h => ?_⟩
  refine Post.op2 (Q := fun x H' => ∃ k, x = .bl k ∧ Q k H') R qa qb h2 (Post.bind back_T h fun x w B1 H1 r1 s1 R1 q1 hh => ?_)
  exact Post.bl R1 q1 hh
/-- a op b op' c -/
def cChain (g g' : D → D → Option Bo) (fa fb fc : M W) : M W := M.bind fa fun wa => M.bind fb fun wb => M.bind (M.view wa) fun da => M.bind (M.view wb) fun db => match g da db with
  | some (.dt (.bl true)) => M.bind fc fun wc => M.bind (M.view wb) fun db => M.bind (M.view wc) fun dc => M.give (g' db dc)
  | some (.dt (.bl false)) => M.ret (.dt (.bl false))
  | _ => M.no
theorem Post.chain {g g' : D → D → Option Bo} {ta tb tc : TE} {Q : VK} {rr rr' : R2} (R : Rl X.K vs B σ H r)
    (ha : ∀ vs B σ H r Q, Rl X.K vs B σ H r → Post X vs Wx B H σ r (fa r) (fW X vs σ H) Q → ta σ H Q) (hb : ∀ vs B σ H r Q, Rl X.K vs B σ H r → Post X vs Wx B H σ r (fb r) (fW X vs σ H) Q → tb σ H Q)
    (hc : ∀ vs B σ H r Q, Rl X.K vs B σ H r → Post X vs Wx B H σ r (fc r) (fW X vs σ H) Q → tc σ H Q)
    (ho : ∀ x y da db b, g da db = some b → ∀ B H Q, Same B H → RpV X.K B H x da → RpV X.K B H y db → (∀ v B' H', Ext B H B' H' → Same B' H' → RpB X.K H B' H' v b → Q v H') → rr x y H Q)
    (ho' : ∀ x y da db b, g' da db = some b → ∀ B H Q, Same B H → RpV X.K B H x da → RpV X.K B H y db → (∀ v B' H', Ext B H B' H' → Same B' H' → RpB X.K H B' H' v b → Q v H') → rr' x y H Q)
    (h : Post X vs Wx B H σ r (cChain g g' fa fb fc r) (fW X vs σ H) Q) : tChain rr rr' ta tb tc σ H Q := by
  refine ha vs B σ H r _ R (Post.bind back_W h fun x wa B1 H1 r1 s1 R1 q1 h1 => ?_)
  refine hb vs B1 σ H1 r1 _ R1 (Post.bind back_W h1 fun y wb B2 H2 r2 s2 R2 q2 h2 => ?_)
  obtain ⟨da, va, _, h3⟩ := Post.view R2 (RpW.stp q1 s2) h2
  obtain ⟨db, vb, _, h4⟩ := Post.view R2 q2 h3
  cases eg : g da db with
  | none => simp only [eg] at h4; exact h4.elim
  | some bo =>
    cases bo with
    | own c => simp only [eg] at h4; exact h4.elim
    | dt d =>
      cases d with
      | bl k =>
        refine ho x y da db _ eg B2 H2 _ R2.sub va vb fun v B3 H3 e3 s3 q3 => ?_
        cases q3
        refine ⟨k, rfl, ?_⟩
        have R3 := R2.ext e3 s3
        have st3 : Stp vs B2 H2 σ r2 B3 H3 σ r2 := e3.stp
        cases k with
        | false =>
          simp only [eg] at h4
          rw [if_neg Bool.false_ne_true]
          exact h4 (.bl false) B3 H3 st3 R3 (.bl false)
        | true =>
          simp only [eg] at h4
          rw [if_pos rfl]
          have h5 : Post X vs Wx B3 H3 σ r2 (M.bind fc (fun wc => M.bind (M.view wb) fun db => M.bind (M.view wc) fun dc => M.give (g' db dc)) r2) (fW X vs σ H3) Q := by
            revert h4
            cases (M.bind fc (fun wc => M.bind (M.view wb) fun db => M.bind (M.view wc) fun dc => M.give (g' db dc)) r2) with
            | ok w r' => exact fun h4 v B' H' s R q => h4 v B' H' (st3.trans s) R (RpW.back q st3.dom)
            | exc x r' => exact fun h4 cl dd B' H' s R q => h4 cl dd B' H' (st3.trans s) R q
            | fail => exact fun h4 => h4
          refine hc vs B3 σ H3 r2 _ R3 (Post.bind back_W h5 fun z wc B4 H4 r4 s4 R4 q4 h6 => ?_)
          obtain ⟨db', vb', _, h7⟩ := Post.view R4 (RpW.stp (RpW.stp q2 st3) s4) h6
          obtain ⟨dc, vc, _, h8⟩ := Post.view R4 q4 h7
          obtain ⟨bo, eb, h9⟩ := Post.give R4 h8
          exact ho' y z db' dc bo eb B4 H4 Q R4.sub vb' vc h9
      | _ => simp only [eg] at h4; exact h4.elim
theorem de_chain {op op' : CmpOp} {g g' : D → D → Option Bo} (ho : OpS X (compareOp op) g) (ho' : OpS X (compareOp op') g') (ha : DE X a fa) (hb : DE X b fb) (hc : DE X c fc) (hm : lastMarks [op, op'] [b, c] = false) :
    DE X (.Compare a [op, op'] [b, c] pos) (cChain g g' fa fb fc) := by
  refine ⟨fun Wx tk => ?_⟩
  obtain ⟨ta, pa, qa⟩ := ha.run Wx tk
  obtain ⟨tb, pb, qb⟩ := hb.run Wx tk
  obtain ⟨tc, pc, qc⟩ := hc.run Wx tk
  obtain ⟨rr, h1, h2⟩ := ho
  obtain ⟨rr', h1', h2'⟩ := ho'
  exact ⟨_, pe_chain h1 h1' pa pb pc hm, fun vs B σ H r Q R h => Post.chain R qa qb qc h2 h2' h⟩
theorem dt_chain {op op' : CmpOp} {g g' : D → D → Option Bo} (ho : OpS X (compareOp op) g) (ho' : OpS X (compareOp op') g') (ha : DE X a fa) (hb : DE X b fb) (hc : DE X c fc) (hm : lastMarks [op, op'] [b, c] = false) :
    DT X (.Compare a [op, op'] [b, c] pos) (M.bl (cChain g g' fa fb fc)) := by
  refine ⟨fun Wx tk => ?_⟩
  obtain ⟨ta, pa, qa⟩ := ha.run Wx tk
  obtain ⟨tb, pb, qb⟩ := hb.run Wx tk
  obtain ⟨tc, pc, qc⟩ := hc.run Wx tk
  obtain ⟨rr, h1, h2⟩ := ho
  obtain ⟨rr', h1', h2'⟩ := ho'
  refine ⟨_, pt_chain h1 h1' pa pb pc hm, fun vs B σ H r Q R h => ?_⟩
  refine Post.chain (Q := fun x H' => ∃ k, x = .bl k ∧ Q k H') R qa qb qc h2 h2' (Post.bind back_T h fun x w B1 H1 r1 s1 R1 q1 hh => ?_)
  exact Post.bl R1 q1 hh

/-! ### and, or, not as values; the conditional -/
def cAnd (f g : M W) : M W := M.bind f fun w => M.bind (M.view w) fun d => M.bind (M.opt d.tru) fun k => if k = true then g else M.ret w
def cOr (f g : M W) : M W := M.bind f fun w => M.bind (M.view w) fun d => M.bind (M.opt d.tru) fun k => if k = true then M.ret w else g
def cNot (f : M W) : M W := M.bind (cTru f) fun k => M.ret (.dt (.bl (!k)))
def cIfE (t : M Bool) (f g : M W) : M W := M.bind t fun k => if k = true then f else g
theorem de_one {op} (ha : DE X a fa) : DE X (.BoolOp op [a] pos) fa := ⟨fun Wx tk => let ⟨t, p, q⟩ := ha.run Wx tk; ⟨t, pe_one p, q⟩⟩
theorem de_and (ha : DE X a fa) (hb : DE X (.BoolOp .And (b :: rest) pos) fb) : DE X (.BoolOp .And (a :: b :: rest) pos) (cAnd fa fb) := by
  refine ⟨fun Wx tk => ?_⟩
  obtain ⟨ta, pa, qa⟩ := ha.run Wx tk
  obtain ⟨tb, pb, qb⟩ := hb.run Wx tk
  refine ⟨_, pe_andT pa pb, fun vs B σ H r Q R h => qa vs B σ H r _ R (Post.bind0 h fun x wa B1 H1 r1 s1 R1 q1 h1 => ?_)⟩
  obtain ⟨da, va, _, h2⟩ := Post.view R1 q1 h1
  obtain ⟨k, ek, h3⟩ := Post.opt h2
  refine ⟨k, tru_of va R1.sub ek, ?_⟩
  cases k with
  | true => exact qb vs B1 σ H1 r1 Q R1 (Post.shift back_W s1 h3)
  | false => exact h3 x B1 H1 s1 R1 q1
theorem de_or (ha : DE X a fa) (hb : DE X (.BoolOp .Or (b :: rest) pos) fb) : DE X (.BoolOp .Or (a :: b :: rest) pos) (cOr fa fb) := by
  refine ⟨fun Wx tk => ?_⟩
  obtain ⟨ta, pa, qa⟩ := ha.run Wx tk
  obtain ⟨tb, pb, qb⟩ := hb.run Wx tk
  refine ⟨_, pe_orT pa pb, fun vs B σ H r Q R h => qa vs B σ H r _ R (Post.bind0 h fun x wa B1 H1 r1 s1 R1 q1 h1 => ?_)⟩
  obtain ⟨da, va, _, h2⟩ := Post.view R1 q1 h1
  obtain ⟨k, ek, h3⟩ := Post.opt h2
  refine ⟨k, tru_of va R1.sub ek, ?_⟩
  cases k with
  | true => exact h3 x B1 H1 s1 R1 q1
  | false => exact qb vs B1 σ H1 r1 Q R1 (Post.shift back_W s1 h3)
theorem de_not (ha : DE X a fa) : DE X (.UnaryOp .Not a pos) (cNot fa) := by
  refine ⟨fun Wx tk => ?_⟩
  obtain ⟨ta, pa, qa⟩ := ha.run Wx tk
  refine ⟨_, pe_notT pa, fun vs B σ H r Q R h => ?_⟩
  have h0 : Post X vs Wx B H σ r (cTru fa r) (fT H) (fun k H' => Q (.bl (!k)) H') := Post.bind0 h fun k k' B1 H1 r1 s1 R1 e h1 => by
    cases e
    exact h1 _ B1 H1 s1 R1 (.bl _)
  refine qa vs B σ H r _ R (Post.bind back_T h0 fun x wa B1 H1 r1 s1 R1 q1 hh => ?_)
  obtain ⟨da, va, _, h3⟩ := Post.view R1 q1 hh
  obtain ⟨k, ek, h4⟩ := Post.optT R1 h3
  exact ⟨k, tru_of va R1.sub ek, h4⟩
theorem de_ifE (hc : DT X c ga) (ha : DE X a fa) (hb : DE X b fb) : DE X (.IfExp c a b pos) (cIfE ga fa fb) := by
  refine ⟨fun Wx tk => ?_⟩
  obtain ⟨ta, pa, qa⟩ := ha.run Wx tk
  obtain ⟨tb, pb, qb⟩ := hb.run Wx tk
  obtain ⟨tc, pc, qc⟩ := hc.run Wx tk
  refine ⟨_, pe_ifExp pc pa pb, fun vs B σ H r Q R h => qc vs B σ H r _ R (Post.bind (F1 := fT) back_W h fun k k' B1 H1 r1 s1 R1 e h1 => ?_)⟩
  cases e
  cases k with
  | true => exact qa vs B1 σ H1 r1 Q R1 h1
  | false => exact qb vs B1 σ H1 r1 Q R1 h1

/-! ### freezing a value -/
def W.frz (w : W) : M D := fun r => match w with
  | .dt d => .ok d r
  | .fresh c => .ok c.toD r
  | .cel z => match r.cnt z with
    | some c => .ok c.toD (r.frz c.toD z)
    | none => match r.look z with
      | some d => .ok d r
      | none => .fail
theorem look_data {z : Ix} {d : D} {v : V} {K : PySem.W.Frag} (R : Rl K vs B σ H r) (hc : r.cnt z = none) (h : r.look z = some d) (ha : adr vs σ z = some v) : Rp K B v d := by
  cases z with
  | loc i =>
    cases e : r.loc[i]? with
    | none => simp [Rho.look, e] at h
    | some o =>
      cases o with
      | none => simp [Rho.look, e] at h
      | some s =>
        cases s with
        | dt d' =>
          simp only [Rho.look, e, Option.some.injEq] at h
          subst h
          obtain ⟨u, hu, ru⟩ := R.dat i d' e
          simp only [adr, hu, Option.some.injEq] at ha
          subst ha
          exact ru
        | own c => simp [Rho.cnt, e] at hc
        | bor k => simp [Rho.look, e] at h
  | bor k =>
    cases e : r.bor[k]? with
    | none => simp [Rho.look, e] at h
    | some s =>
      cases s with
      | dt d' =>
        simp only [Rho.look, e, Option.some.injEq] at h
        subst h
        obtain ⟨u, hu, ru⟩ := R.bod k d' e
        have ha' : vs[k]? = some v := ha
        rw [hu] at ha'; cases ha'
        exact ru
      | own c => simp [Rho.cnt, e] at hc
/-- two new things at one place -/
def Clash (v : V) (w : W) (x : V) (u : W) : Prop := ∃ a c c', w = .fresh c ∧ u = .fresh c' ∧ v = .ref a ∧ x = .ref a
theorem frz1 {K : PySem.W.Frag} {v : V} {w : W} {d : D} {r' : Rho} (R : Rl K vs B σ H r) (s : Stp vs B0 H0 σ r0 B H σ r) (h : RpW K vs H0 B σ H r v w) (e : w.frz r = .ok d r') :
    ∃ B', Rp K B' v d ∧ Rl K vs B' σ H r' ∧ Stp vs B0 H0 σ r0 B' H σ r' ∧ Same B B' ∧ ∀ x u, RpW K vs H0 B σ H r x u → ¬ Clash v w x u → RpW K vs H0 B' σ H r' x u := by
  cases w with
  | dt d' =>
    cases e
    exact ⟨B, h, R, s, Same.refl B, fun _ _ q _ => q⟩
  | cel z =>
    cases hc : r.cnt z with
    | none =>
      cases hl : r.look z with
      | none => simp only [W.frz, hc, hl] at e; cases e
      | some d' =>
        simp only [W.frz, hc, hl] at e
        cases e
        exact ⟨B, look_data R hc hl h, R, s, Same.refl B, fun _ _ q _ => q⟩
    | some c =>
      simp only [W.frz, hc] at e
      cases e
      obtain ⟨a, q1, _, _⟩ := R.own z c hc
      have hv : v = .ref a := by have h' : adr vs σ z = some v := h; rw [q1] at h'; exact (Option.some.inj h').symm
      subst hv
      obtain ⟨o, ho, rp, R2, s2⟩ := R.freeze hc q1
      exact ⟨_, rp, R2, s.trans s2, s2.sub, fun _ _ q _ => RpW.stp q s2⟩
  | fresh c =>
    cases e
    obtain ⟨a, rfl, hs, hb, ha, hn⟩ := h
    obtain ⟨o, ho, rp⟩ := ha.rp hb
    have sb : Same B (upd B a o) := same_upd hb
    have ne : ∀ z c', r.cnt z = some c' → ∀ b, adr vs σ z = some (.ref b) → b ≠ a := fun z c' h1 b h2 q => hn ⟨z, c', h1, q ▸ h2⟩
    refine ⟨_, rp, ⟨?_, R.len, ?_, ?_, R.lbo, ?_, R.sep⟩, ⟨s.sub.trans sb, ?_, s.dom, s.own, s.bol, s.bod, ?_⟩, sb, ?_⟩
    · intro x u h
      by_cases e : x = a
      · subst e; rw [upd_same] at h; cases h; exact ho
      · rw [upd_ne e] at h; exact R.sub _ _ h
    · intro i d h
      obtain ⟨v, h1, h2⟩ := R.dat i d h
      exact ⟨v, h1, h2.mono sb⟩
    · intro z c' h
      obtain ⟨b, p1, p2, p3⟩ := R.own z c' h
      exact ⟨b, p1, by rw [upd_ne (ne z c' h b p1)]; exact p2, p3.mono sb fun _ q => q⟩
    · intro k d h
      obtain ⟨v, h1, h2⟩ := R.bod k d h
      exact ⟨v, h1, h2.mono sb⟩
    · intro x u h n
      obtain ⟨k1, k2⟩ := s.keep x u h n
      have : x ≠ a := fun e => by subst e; rw [hs] at h; cases h
      exact ⟨k1, fun q => by rw [upd_ne this]; exact k2 q⟩
    · intro k c' x h hx
      rcases s.boo k c' x h hx with q | ⟨d, o', q1, q2⟩
      · exact .inl q
      · exact .inr ⟨d, o', q1, sb _ _ q2⟩
    · intro x u q nc
      cases u with
      | dt d' => exact Rp.mono sb q
      | cel z => exact q
      | fresh c' =>
        obtain ⟨b, rfl, g1, g2, g3, g4⟩ := q
        have nb : b ≠ a := fun e => nc ⟨a, c, c', rfl, rfl, rfl, by rw [e]⟩
        exact ⟨b, rfl, g1, by rw [upd_ne nb]; exact g2, g3.mono sb fun _ q => q, g4⟩
end

/-! ### arguments -/
/-- values of arguments, no two new things at one place -/
inductive RpWs (K : PySem.W.Frag) (vs : List V) (Hs B : Hp) (σ : L2.St) (H : Hp) (r : Rho) : List V → List W → Prop
  | nil : RpWs K vs Hs B σ H r [] []
  | cons {v : V} {w : W} {xs : List V} {ws : List W} : RpW K vs Hs B σ H r v w → RpWs K vs Hs B σ H r xs ws → (∀ (i : Nat) (x : V) (u : W), xs[i]? = some x → ws[i]? = some u → ¬ Clash v w x u) → RpWs K vs Hs B σ H r (v :: xs) (w :: ws)
def fA (X : Cx) (vs : List V) (σ : L2.St) : Fam (List V) (List W) := fun Hs B' H' r' xs ws => RpWs X.K vs Hs B' σ H' r' xs ws
theorem RpWs.back {K : PySem.W.Frag} {vs : List V} {Hs H B' H' : Hp} {σ : L2.St} {r : Rho} (s : ∀ a, H a = none → Hs a = none) : ∀ {xs : List V} {ws : List W}, RpWs K vs H B' σ H' r xs ws → RpWs K vs Hs B' σ H' r xs ws
  | _, _, .nil => .nil
  | _, _, .cons h t n => .cons (h.back s) (t.back s) n
theorem back_A {X : Cx} {vs : List V} {σ : L2.St} : Back (fA X vs σ) := fun _ _ _ _ _ _ _ s h => RpWs.back s h
theorem RpWs.length {K : PySem.W.Frag} {vs : List V} {Hs H B : Hp} {σ : L2.St} {r : Rho} : ∀ {xs : List V} {ws : List W}, RpWs K vs Hs B σ H r xs ws → xs.length = ws.length
  | _, _, .nil => rfl
  | _, _, .cons _ t _ => by rw [List.length_cons, List.length_cons, t.length]
theorem RpWs.get {K : PySem.W.Frag} {vs : List V} {Hs H B : Hp} {σ : L2.St} {r : Rho} : ∀ {xs : List V} {ws : List W} {i : Nat} {x : V} {w : W}, RpWs K vs Hs B σ H r xs ws → xs[i]? = some x → ws[i]? = some w → RpW K vs Hs B σ H r x w
  | _, _, _, _, _, .nil, h, _ => by simp at h
  | _, _, 0, _, _, .cons h _ _, e, e' => by simp at e e'; subst e e'; exact h
  | _, _, i + 1, _, _, .cons _ t _, e, e' => t.get (i := i) (by simpa using e) (by simpa using e')
structure DA (X : Cx) (es : List Expr) (f : M (List W)) : Prop where
  run : ∀ Wx, Takes X Wx → ∃ t, PA X es t ∧ ∀ vs B σ H r Q, Rl X.K vs B σ H r → Post X vs Wx B H σ r (f r) (fA X vs σ H) Q → t σ H Q
def cCons (f : M W) (g : M (List W)) : M (List W) := M.bind f fun w => M.bind g fun ws => M.ret (w :: ws)
section
variable {X : Cx} {e : Expr} {es : List Expr} {f : M W} {g : M (List W)} {pos : Pos}
theorem da_nil : DA X [] (M.ret []) := ⟨fun _ _ => ⟨_, pa_nil, fun _ B _ H _ _ R h => h [] B H .refl R RpWs.nil⟩⟩
theorem da_cons (he : DE X e f) (hr : DA X es g) (hs : starEach (e :: es) X.env = (false, eval e X.env) :: starEach es X.env) : DA X (e :: es) (cCons f g) := by
  refine ⟨fun Wx tk => ?_⟩
  obtain ⟨ta, pa, qa⟩ := he.run Wx tk
  obtain ⟨tb, pb, qb⟩ := hr.run Wx tk
  refine ⟨_, pa_cons pa pb hs, fun vs B σ H r Q R h => qa vs B σ H r _ R (Post.bind0 h fun x w B1 H1 r1 s1 R1 q1 h1 => ?_)⟩
  have h1' := Post.shift (F := fA X vs σ) back_A s1 h1
  refine qb vs B1 σ H1 r1 _ R1 ?_
  cases hg : g r1 with
  | fail => simp only [M.bind, hg] at h1; exact h1.elim
  | exc y r2 =>
    simp only [M.bind, hg] at h1
    exact fun cl dd B2 H2 s2 R2 f2 => h1 cl dd B2 H2 (s1.trans s2) R2 f2
  | ok ws r2 =>
    simp only [M.bind, hg] at h1
    intro xs B2 H2 s2 R2 f2
    refine h1 (x :: xs) B2 H2 (s1.trans s2) R2 (RpWs.cons (RpW.stp q1 s2) (RpWs.back s1.dom f2) fun i y u e1 e2 ⟨a, c, c', g1, g2, g3, g4⟩ => ?_)
    have q2 := RpWs.get f2 e1 e2
    subst g1 g2 g3 g4
    obtain ⟨a1, k1, _, _, k4, _⟩ := q1
    obtain ⟨a2, m1, m2, _⟩ := q2
    cases k1; cases m1
    obtain ⟨o, ho⟩ := k4.some
    rw [m2] at ho; cases ho
end
end Lc

set_option Elab.async false
set_option maxRecDepth 100000
set_option maxHeartbeats 4000000
/-! Part D: displays, pure calls, subscripts, slices, methods of texts. -/
namespace Lc
open PySem L2
def frzAll : List W → M (List D)
  | [] => M.ret []
  | w :: ws => M.bind w.frz fun d => M.bind (frzAll ws) fun ds => M.ret (d :: ds)
theorem frz_noexc {w : W} {r r' : Rho} {x : Ex} : w.frz r ≠ .exc x r' := by
  cases w with
  | dt d => exact fun h => nomatch h
  | fresh c => exact fun h => nomatch h
  | cel z =>
    intro h
    cases hc : r.cnt z with
    | some c => simp only [W.frz, hc] at h; cases h
    | none =>
      cases hl : r.look z with
      | some d => simp only [W.frz, hc, hl] at h; cases h
      | none => simp only [W.frz, hc, hl] at h; cases h
theorem frzAll_noexc {r' : Rho} {x : Ex} : ∀ {ws : List W} {r : Rho}, frzAll ws r ≠ .exc x r'
  | [], r => fun h => nomatch h
  | w :: ws, r => by
    intro h
    simp only [frzAll, M.bind] at h
    cases e : w.frz r with
    | fail => rw [e] at h; cases h
    | exc y r1 => exact frz_noexc e
    | ok d r1 =>
      rw [e] at h
      cases e2 : frzAll ws r1 with
      | fail => simp only [e2] at h; cases h
      | exc y r1 => exact frzAll_noexc e2
      | ok ds r2 => simp only [e2] at h; cases h
section
variable {X : Cx} {vs : List V} {Wx : WX} {B H Hs B0 H0 : Hp} {σ : L2.St} {r r0 : Rho}
theorem RpWs.imp {K : PySem.W.Frag} {B' : Hp} {r' : Rho} : ∀ {xs : List V} {ws : List W}, RpWs K vs Hs B σ H r xs ws → (∀ (i : Nat) (x : V) (u : W), xs[i]? = some x → ws[i]? = some u → RpW K vs Hs B σ H r x u → RpW K vs Hs B' σ H r' x u) → RpWs K vs Hs B' σ H r' xs ws
  | _, _, .nil, _ => .nil
  | _, _, .cons h t n, f => .cons (f 0 _ _ rfl rfl h) (t.imp fun i x u e1 e2 q => f (i + 1) x u (by simpa using e1) (by simpa using e2) q) n
theorem frzAll_ok {K : PySem.W.Frag} : ∀ {ws : List W} {xs : List V} {ds : List D} {B : Hp} {r r' : Rho}, Rl K vs B σ H r → Stp vs B0 H0 σ r0 B H σ r → RpWs K vs H0 B σ H r xs ws → frzAll ws r = .ok ds r' →
    ∃ B', RpAll K B' xs ds ∧ Rl K vs B' σ H r' ∧ Stp vs B0 H0 σ r0 B' H σ r' ∧ Same B B'
  | [], xs, ds, B, r, r', R, s, h, e => by
    cases e
    cases h
    exact ⟨B, .nil, R, s, Same.refl B⟩
  | w :: ws, xs, ds, B, r, r', R, s, h, e => by
    simp only [frzAll, M.bind] at e
    cases e1 : w.frz r with
    | fail => rw [e1] at e; cases e
    | exc y r1 => exact absurd e1 frz_noexc
    | ok d r1 =>
      rw [e1] at e
      cases e2 : frzAll ws r1 with
      | fail => simp only [e2] at e; cases e
      | exc y r1 => exact absurd e2 frzAll_noexc
      | ok es r2 =>
        simp only [e2] at e
        cases e
        cases h with
        | cons h1 h2 h3 =>
          obtain ⟨B1, p1, R1, s1, sb1, k1⟩ := frz1 R s h1 e1
          obtain ⟨B2, p2, R2, s2, sb2⟩ := frzAll_ok R1 s1 (h2.imp fun i x u q1 q2 q => k1 x u q (h3 i x u q1 q2)) e2
          exact ⟨B2, .cons (p1.mono sb2) p2, R2, s2, sb1.trans sb2⟩
theorem Post.frzAll {γ δ : Type} {rel : Hp → Hp → Rho → δ → γ → Prop} {ws : List W} {xs : List V} {k : List D → M γ} {Q : δ → Hp → Prop} (R : Rl X.K vs B σ H r) (s : Stp vs B0 H0 σ r0 B H σ r) (hv : RpWs X.K vs H0 B σ H r xs ws)
    (h : Post X vs Wx B0 H0 σ r0 (M.bind (frzAll ws) k r) rel Q) : ∃ ds r' B', RpAll X.K B' xs ds ∧ Rl X.K vs B' σ H r' ∧ Stp vs B0 H0 σ r0 B' H σ r' ∧ Post X vs Wx B0 H0 σ r0 (k ds r') rel Q := by
  cases e : Lc.frzAll ws r with
  | fail => simp only [M.bind, e] at h; exact h.elim
  | exc y r1 => exact absurd e frzAll_noexc
  | ok ds r1 =>
    simp only [M.bind, e] at h
    obtain ⟨B', p, R', s', _⟩ := frzAll_ok R s hv e
    exact ⟨ds, r1, B', p, R', s', h⟩
theorem Post.frz {γ δ : Type} {rel : Hp → Hp → Rho → δ → γ → Prop} {w : W} {x : V} {k : D → M γ} {Q : δ → Hp → Prop} (R : Rl X.K vs B σ H r) (s : Stp vs B0 H0 σ r0 B H σ r) (hv : RpW X.K vs H0 B σ H r x w)
    (h : Post X vs Wx B0 H0 σ r0 (M.bind w.frz k r) rel Q) : ∃ d r' B', Rp X.K B' x d ∧ Rl X.K vs B' σ H r' ∧ Stp vs B0 H0 σ r0 B' H σ r' ∧ Same B B' ∧ Post X vs Wx B0 H0 σ r0 (k d r') rel Q := by
  cases e : w.frz r with
  | fail => simp only [M.bind, e] at h; exact h.elim
  | exc y r1 => exact absurd e frz_noexc
  | ok ds r1 =>
    simp only [M.bind, e] at h
    obtain ⟨B', p, R', s', sb, _⟩ := frz1 R s hv e
    exact ⟨ds, r1, B', p, R', s', sb, h⟩
/-- behind freezing, a new thing -/
theorem Stp.ext {B' H' : Hp} {r' : Rho} (s : Stp vs B0 H0 σ r0 B H σ r') (e : Ext B H B' H') : Stp vs B0 H0 σ r0 B' H' σ r' := s.trans e.stp

/-! ### displays -/
def M.chk (c : Bool) : M Unit := fun r => if c = true then .ok () r else .fail
theorem Post.chk {γ δ : Type} {rel : Hp → Hp → Rho → δ → γ → Prop} {c : Bool} {k : Unit → M γ} {Q : δ → Hp → Prop} (h : Post X vs Wx B0 H0 σ r0 (M.bind (M.chk c) k r) rel Q) : c = true ∧ Post X vs Wx B0 H0 σ r0 (k () r) rel Q := by
  cases c with
  | false => exact h.elim
  | true => exact ⟨rfl, h⟩
def cLst (f : M (List W)) : M W := M.bind f fun ws => M.bind (frzAll ws) fun ds => M.bind (M.chk (decide (ds.length ≤ sizeLine))) fun _ => M.ret (.fresh (.lst ds))
def cTup (f : M (List W)) : M W := M.bind f fun ws => M.bind (frzAll ws) fun ds => M.bind (M.chk (decide (ds.length ≤ sizeLine))) fun _ => M.ret (.dt (.tup ds))
variable {es : List Expr} {f : M (List W)} {pos : Pos}
theorem de_lst (h : DA X es f) : DE X (.List es pos) (cLst f) := by
  refine ⟨fun Wx tk => ?_⟩
  obtain ⟨t, p, q⟩ := h.run Wx tk
  refine ⟨_, pe_lst p, fun vs B σ H r Q R hw => q vs B σ H r _ R (Post.bind0 hw fun xs ws B1 H1 r1 s1 R1 q1 h1 => ?_)⟩
  obtain ⟨ds, r2, B2, p2, R2, s2, h2⟩ := Post.frzAll R1 s1 q1 h1
  obtain ⟨c3, h3⟩ := Post.chk h2
  refine ⟨by rw [p2.length]; exact of_decide_eq_true c3, fun a na => ?_⟩
  have e : Ext B2 H1 B2 (upd H1 a (.lst xs)) := .plain na
  have sm : Same B2 (upd H1 a (.lst xs)) := R2.sub.trans e.keep
  exact h3 (.ref a) B2 _ (s2.ext e) (R2.ext e sm) ⟨a, rfl, s1.dom _ na, none_of_sub R2.sub na, ⟨xs, upd_same, p2⟩, R2.notOwn na⟩
theorem de_tup {k : Nat} (h : DA X es f) : DE X (.Tuple es k pos) (cTup f) := by
  refine ⟨fun Wx tk => ?_⟩
  obtain ⟨t, p, q⟩ := h.run Wx tk
  refine ⟨_, pe_tup p, fun vs B σ H r Q R hw => q vs B σ H r _ R (Post.bind0 hw fun xs ws B1 H1 r1 s1 R1 q1 h1 => ?_)⟩
  obtain ⟨ds, r2, B2, p2, R2, s2, h2⟩ := Post.frzAll R1 s1 q1 h1
  obtain ⟨c3, h3⟩ := Post.chk h2
  refine ⟨by rw [p2.length]; exact of_decide_eq_true c3, fun a na => ?_⟩
  have e : Ext B2 H1 (upd B2 a (.tup xs)) (upd H1 a (.tup xs)) := .frozen R2.sub na
  have sm : Same (upd B2 a (.tup xs)) (upd H1 a (.tup xs)) := same_both R2.sub
  exact h3 (.ref a) _ _ (s2.ext e) (R2.ext e sm) (Rp.tup (.inl upd_same) (p2.mono e.sub))

/-! ### pure calls -/
inductive RpVs (K : PySem.W.Frag) (B H : Hp) : List V → List D → Prop
  | nil : RpVs K B H [] []
  | cons {v : V} {d : D} {xs : List V} {ds : List D} : RpV K B H v d → RpVs K B H xs ds → RpVs K B H (v :: xs) (d :: ds)
def viewAll : List W → M (List D)
  | [] => M.ret []
  | w :: ws => M.bind (M.view w) fun d => M.bind (viewAll ws) fun ds => M.ret (d :: ds)
theorem Post.viewAll {γ δ : Type} {rel : Hp → Hp → Rho → δ → γ → Prop} {Q : δ → Hp → Prop} : ∀ {ws : List W} {xs : List V} {k : List D → M γ}, Rl X.K vs B σ H r → RpWs X.K vs Hs B σ H r xs ws →
    Post X vs Wx B0 H0 σ r0 (M.bind (Lc.viewAll ws) k r) rel Q → ∃ ds, RpVs X.K B H xs ds ∧ Post X vs Wx B0 H0 σ r0 (k ds r) rel Q
  | [], xs, k, R, hv, h => by
    cases hv
    exact ⟨[], .nil, h⟩
  | w :: ws, xs, k, R, hv, h => by
    cases hv with
    | cons h1 h2 h3 =>
      have e : M.bind (Lc.viewAll (w :: ws)) k r = M.bind (M.view w) (fun d => M.bind (Lc.viewAll ws) fun ds => k (d :: ds)) r := by
        simp only [Lc.viewAll, M.bind]
        cases (M.view w) r with
        | ok d r1 =>
          simp only
          cases (Lc.viewAll ws) r1 <;> rfl
        | exc y r1 => rfl
        | fail => rfl
      rw [e] at h
      obtain ⟨d, vd, _, h'⟩ := Post.view R h1 h
      obtain ⟨ds, vds, h''⟩ := Post.viewAll R h2 h'
      exact ⟨d :: ds, .cons vd vds, h''⟩
def CallS (X : Cx) (rr : List V → Hp → VK → Prop) (g : List D → Option Bo) : Prop :=
  ∀ xs ds b, g ds = some b → ∀ B H Q, Same B H → RpVs X.K B H xs ds → (∀ v B' H', Ext B H B' H' → Same B' H' → RpB X.K H B' H' v b → Q v H') → rr xs H Q
def cCallP (g : List D → Option Bo) (f : M (List W)) : M W := M.bind f fun ws => M.bind (viewAll ws) fun ds => M.give (g ds)
theorem Post.give0 {o : Option Bo} {Q : VK} (R : Rl X.K vs B σ H r) (s : Stp vs B0 H0 σ r0 B H σ r) (h : Post X vs Wx B0 H0 σ r0 (M.give o r) (fW X vs σ H0) Q) :
    ∃ b, o = some b ∧ ∀ v B' H', Ext B H B' H' → Same B' H' → RpB X.K H B' H' v b → Q v H' := by
  cases o with
  | none => exact h.elim
  | some b =>
    refine ⟨b, rfl, fun v B' H' e sm q => ?_⟩
    have h' : Post X vs Wx B0 H0 σ r0 (.ok b.toW r) (fW X vs σ H0) Q := h
    exact h' v B' H' (s.ext e) (R.ext e sm) (q.toW R fun _ z => s.dom _ z)
theorem de_callP {e : Expr} {rr : List V → Hp → VK → Prop} {g : List D → Option Bo} (hp : ∀ t, PA X es t → PE X e (tCB rr t)) (hc : CallS X rr g) (h : DA X es f) : DE X e (cCallP g f) := by
  refine ⟨fun Wx tk => ?_⟩
  obtain ⟨t, p, q⟩ := h.run Wx tk
  refine ⟨_, hp t p, fun vs B σ H r Q R hw => q vs B σ H r _ R (Post.bind0 hw fun xs ws B1 H1 r1 s1 R1 q1 h1 => ?_)⟩
  obtain ⟨ds, v2, h2⟩ := Post.viewAll R1 q1 h1
  obtain ⟨b, eb, h3⟩ := Post.give0 R1 s1 h2
  exact hc xs ds b eb B1 H1 Q R1.sub v2 h3

/-! ### subscripts, slices -/
variable {a b e : Expr} {fa fb fe : M W}
theorem de_ix {rr : R2} {g : D → D → Option Bo} (hr : IxR X rr) (ho : ∀ x y da db b, g da db = some b → ∀ B H Q, Same B H → RpV X.K B H x da → RpV X.K B H y db → (∀ v B' H', Ext B H B' H' → Same B' H' → RpB X.K H B' H' v b → Q v H') → rr x y H Q)
    (ha : DE X a fa) (hb : DE X b fb) (hs : PlainIx b) : DE X (.Subscript a b pos) (cOp2 g fa fb) := by
  refine ⟨fun Wx tk => ?_⟩
  obtain ⟨ta, pa, qa⟩ := ha.run Wx tk
  obtain ⟨tb, pb, qb⟩ := hb.run Wx tk
  exact ⟨_, pe_ix hr pa pb hs, fun vs B σ H r Q R h => Post.op2 R qa qb ho h⟩
structure DO (X : Cx) (e : Option Expr) (f : M (Option Int)) : Prop where
  run : ∀ Wx, Takes X Wx → ∃ t, PO X e t ∧ ∀ vs B σ H r Q, Rl X.K vs B σ H r → Post X vs Wx B H σ r (f r) (fun _ _ _ b a => b = a) Q → t σ H Q
def W.asI : W → M (Option Int)
  | .dt (.int i) => M.ret (some i)
  | _ => M.no
theorem do_none : DO X none (M.ret none) := ⟨fun _ _ => ⟨_, po_none, fun _ B _ H _ _ R h => h none B H .refl R rfl⟩⟩
theorem do_some (h : DE X e fe) : DO X (some e) (M.bind fe W.asI) := by
  refine ⟨fun Wx tk => ?_⟩
  obtain ⟨t, p, q⟩ := h.run Wx tk
  refine ⟨_, po_some p, fun vs B σ H r Q R hw => q vs B σ H r _ R (Post.bind0 hw fun x w B1 H1 r1 s1 R1 q1 h1 => ?_)⟩
  cases w with
  | dt d =>
    cases d with
    | int i =>
      cases q1
      exact ⟨i, rfl, h1 (some i) B1 H1 s1 R1 rfl⟩
    | _ => exact h1.elim
  | _ => exact h1.elim
def SlS (X : Cx) (g : D → Option Int → Option Int → Option Bo) : Prop :=
  ∃ rr, SlR X rr ∧ ∀ x d lo hi b, g d lo hi = some b → ∀ B H Q, Same B H → RpV X.K B H x d → (∀ v B' H', Ext B H B' H' → Same B' H' → RpB X.K H B' H' v b → Q v H') → rr x lo hi H Q
def cSl (g : D → Option Int → Option Int → Option Bo) (fe : M W) (fl fh : M (Option Int)) : M W := M.bind fe fun w => M.bind fl fun lo => M.bind fh fun hi => M.bind (M.view w) fun d => M.give (g d lo hi)
def fI : Fam (Option Int) (Option Int) := fun _ _ _ _ b a => b = a
theorem de_sl {g : D → Option Int → Option Int → Option Bo} {lo hi : Option Expr} {fl fh : M (Option Int)} {p2 : Pos} (hs : SlS X g) (he : DE X e fe) (hl : DO X lo fl) (hh : DO X hi fh) : DE X (.Subscript e (.Slice lo hi none p2) pos) (cSl g fe fl fh) := by
  refine ⟨fun Wx tk => ?_⟩
  obtain ⟨t, p, q⟩ := he.run Wx tk
  obtain ⟨tl, pl, ql⟩ := hl.run Wx tk
  obtain ⟨th, ph, qh⟩ := hh.run Wx tk
  obtain ⟨rr, h1, h2⟩ := hs
  refine ⟨_, pe_slice h1 p pl ph, fun vs B σ H r Q R hw => q vs B σ H r _ R (Post.bind back_W hw fun x w B1 H1 r1 s1 R1 q1 hw1 => ?_)⟩
  refine ql vs B1 σ H1 r1 _ R1 (Post.bind (F1 := fI) back_W hw1 fun i i' B2 H2 r2 s2 R2 ei hw2 => ?_)
  refine qh vs B2 σ H2 r2 _ R2 (Post.bind (F1 := fI) back_W hw2 fun j j' B3 H3 r3 s3 R3 ej hw3 => ?_)
  obtain ⟨d, vd, _, hw4⟩ := Post.view R3 (RpW.stp (RpW.stp q1 s2) s3) hw3
  obtain ⟨bo, eb, hw5⟩ := Post.give R3 hw4
  cases ei; cases ej
  exact h2 x d i j bo eb B3 H3 Q R3.sub vd hw5

/-! ### methods of texts -/
def MtS (X : Cx) (id : String) (g : Str → List D → Option Bo) : Prop :=
  ∃ rr, MtR X id rr ∧ ∀ a xs ds b, g a ds = some b → ∀ B H Q, Same B H → RpVs X.K B H xs ds → (∀ v B' H', Ext B H B' H' → Same B' H' → RpB X.K H B' H' v b → Q v H') → rr (.str a) xs H Q
def W.asS : W → M Str
  | .dt (.str i) => M.ret i
  | _ => M.no
def cM1 (g : Str → List D → Option Bo) (fo fe : M W) : M W := M.bind fo fun wo => M.bind wo.asS fun a => M.bind fe fun we => M.bind (M.view we) fun d => M.give (g a [d])
def cM0 (g : Str → List D → Option Bo) (fo : M W) : M W := M.bind fo fun wo => M.bind wo.asS fun a => M.give (g a [])
theorem Post.asS {γ δ : Type} {rel : Hp → Hp → Rho → δ → γ → Prop} {w : W} {x : V} {k : Str → M γ} {Q : δ → Hp → Prop} (hv : RpW X.K vs Hs B σ H r x w) (h : Post X vs Wx B0 H0 σ r0 (M.bind w.asS k r) rel Q) : ∃ a, x = .str a ∧ w = .dt (.str a) ∧ Post X vs Wx B0 H0 σ r0 (k a r) rel Q := by
  cases w with
  | dt d =>
    cases d with
    | str i =>
      cases hv
      exact ⟨i, rfl, rfl, h⟩
    | _ => exact h.elim
  | _ => exact h.elim
theorem de_m1 {o : Expr} {fo : M W} {id : String} {name : Str} {apos : Pos} {g : Str → List D → Option Bo} (slot : Slot "str" name id) (ty : typeOf (.builtin id) = pure (.type "method_descriptor")) (hm : MtS X id g) (ho : DE X o fo) (he : DE X e fe)
    (hs : starEach [e] X.env = [(false, eval e X.env)]) (hbase : attributeBase o name X.env (eval o X.env) = eval o X.env) (hline : (apos.endLine == pos.line) = true) : DE X (.Call (.Attribute o name apos) [e] [] pos) (cM1 g fo fe) := by
  refine ⟨fun Wx tk => ?_⟩
  obtain ⟨t, p, q⟩ := ho.run Wx tk
  obtain ⟨t2, p2, q2⟩ := he.run Wx tk
  obtain ⟨rr, m1, m2⟩ := hm
  refine ⟨_, pe_m1 slot ty m1 p p2 hs hbase hline, fun vs B σ H r Q R hw => q vs B σ H r _ R (Post.bind back_W hw fun x w B1 H1 r1 s1 R1 q1 hw1 => ?_)⟩
  obtain ⟨a, rfl, rfl, hw2⟩ := Post.asS q1 hw1
  refine ⟨⟨a, rfl⟩, q2 vs B1 σ H1 r1 _ R1 (Post.bind back_W hw2 fun y w2 B2 H2 r2 s2 R2 q3 hw3 => ?_)⟩
  obtain ⟨d, vd, _, hw4⟩ := Post.view R2 q3 hw3
  obtain ⟨bo, eb, hw5⟩ := Post.give R2 hw4
  exact m2 a [y] [d] bo eb B2 H2 Q R2.sub (.cons vd .nil) hw5
theorem de_m0 {o : Expr} {fo : M W} {id : String} {name : Str} {apos : Pos} {g : Str → List D → Option Bo} (slot : Slot "str" name id) (ty : typeOf (.builtin id) = pure (.type "method_descriptor")) (hm : MtS X id g) (ho : DE X o fo)
    (hbase : attributeBase o name X.env (eval o X.env) = eval o X.env) (hline : (apos.endLine == pos.line) = true) : DE X (.Call (.Attribute o name apos) [] [] pos) (cM0 g fo) := by
  refine ⟨fun Wx tk => ?_⟩
  obtain ⟨t, p, q⟩ := ho.run Wx tk
  obtain ⟨rr, m1, m2⟩ := hm
  refine ⟨_, pe_m0 slot ty m1 p hbase hline, fun vs B σ H r Q R hw => q vs B σ H r _ R (Post.bind back_W hw fun x w B1 H1 r1 s1 R1 q1 hw1 => ?_)⟩
  obtain ⟨a, rfl, rfl, hw2⟩ := Post.asS q1 hw1
  obtain ⟨bo, eb, hw5⟩ := Post.give R1 hw2
  exact ⟨⟨a, rfl⟩, m2 a [] [] bo eb B1 H1 Q R1.sub .nil hw5⟩
end
end Lc

set_option Elab.async false
set_option maxRecDepth 100000
set_option maxHeartbeats 4000000
/-! Part E: statements, targets. -/
namespace Lc
open PySem L2
inductive Fl where
  | next
  | ret (w : W)
  | brk
  | cnt
def PostS (X : Cx) (vs : List V) (Wx : WX) (B H : Hp) (σ : L2.St) (r : Rho) (res : Res Fl) (E : Ends) : Prop :=
  match res with
  | .ok .next r' => ∀ σ' B' H', Stp vs B H σ r B' H' σ' r' → Rl X.K vs B' σ' H' r' → E.nx σ' H'
  | .ok (.ret w) r' => ∀ v σ' B' H', Stp vs B H σ r B' H' σ' r' → Rl X.K vs B' σ' H' r' → RpW X.K vs H B' σ' H' r' v w → E.rt v H'
  | .ok .brk r' => ∀ σ' B' H', Stp vs B H σ r B' H' σ' r' → Rl X.K vs B' σ' H' r' → E.bk σ' H'
  | .ok .cnt r' => ∀ σ' B' H', Stp vs B H σ r B' H' σ' r' → Rl X.K vs B' σ' H' r' → E.ct σ' H'
  | .exc x r' => ∀ cl dd σ' B' H', Stp vs B H σ r B' H' σ' r' → Rl X.K vs B' σ' H' r' → RpX X B' cl dd x → Wx cl dd σ' H'
  | .fail => False
structure DS (X : Cx) (st : Stmt) (f : M Fl) : Prop where
  run : ∀ Wx, Takes X Wx → ∃ t, PS X st t ∧ ∀ vs B σ H r E, Rl X.K vs B σ H r → PostS X vs Wx B H σ r (f r) E → t E σ H
structure DSs (X : Cx) (st : List Stmt) (f : M Fl) : Prop where
  run : ∀ Wx, Takes X Wx → ∃ t, PSs X st t ∧ ∀ vs B σ H r E, Rl X.K vs B σ H r → PostS X vs Wx B H σ r (f r) E → t E σ H
def cSeq (f g : M Fl) : M Fl := fun r => match f r with
  | .ok .next r1 => g r1
  | x => x
section
variable {X : Cx} {vs : List V} {Wx : WX} {B H B0 H0 B1 H1 : Hp} {σ σ0 σ1 : L2.St} {r r0 r1 : Rho} {E : Ends}
theorem PostS.shift {res : Res Fl} (s : Stp vs B H σ r B1 H1 σ1 r1) (h : PostS X vs Wx B H σ r res E) : PostS X vs Wx B1 H1 σ1 r1 res E := by
  cases res with
  | ok f r2 =>
    cases f with
    | next => exact fun σ' B' H' q R => h σ' B' H' (s.trans q) R
    | ret w => exact fun v σ' B' H' q R k => h v σ' B' H' (s.trans q) R (RpW.back k s.dom)
    | brk => exact fun σ' B' H' q R => h σ' B' H' (s.trans q) R
    | cnt => exact fun σ' B' H' q R => h σ' B' H' (s.trans q) R
  | exc x r2 => exact fun cl dd σ' B' H' q R k => h cl dd σ' B' H' (s.trans q) R k
  | fail => exact h.elim
theorem PostS.bind0 {α β : Type} {rel1 : Hp → Hp → Rho → β → α → Prop} {m : M α} {k : α → M Fl} {Q1 : β → Hp → Prop} (h : PostS X vs Wx B H σ r (M.bind m k r) E)
    (hk : ∀ b a B1 H1 r1, Stp vs B H σ r B1 H1 σ r1 → Rl X.K vs B1 σ H1 r1 → rel1 B1 H1 r1 b a → PostS X vs Wx B H σ r (k a r1) E → Q1 b H1) : Post X vs Wx B H σ r (m r) rel1 Q1 := by
  cases hm : m r with
  | ok a r1 =>
    have e : M.bind m k r = k a r1 := by simp [M.bind, hm]
    rw [e] at h
    exact fun b B1 H1 s1 R1 f1 => hk b a B1 H1 r1 s1 R1 f1 h
  | exc x r1 =>
    have e : M.bind m k r = .exc x r1 := by simp [M.bind, hm]
    rw [e] at h
    exact fun cl dd B' H' s R q => h cl dd σ B' H' s R q
  | fail =>
    have e : M.bind m k r = .fail := by simp [M.bind, hm]
    rw [e] at h
    exact h.elim
variable {st : Stmt} {rest : List Stmt} {f g : M Fl} {e c : Expr} {fe : M W} {fc : M Bool} {pos : Pos}
theorem dss_nil : DSs X [] (M.ret .next) := ⟨fun _ _ => ⟨_, pss_nil, fun _ B σ H _ _ R h => h σ B H .refl R⟩⟩
theorem PostS.seq {t u : TS} (R : Rl X.K vs B σ H r) (ht : ∀ vs B σ H r E, Rl X.K vs B σ H r → PostS X vs Wx B H σ r (f r) E → t E σ H) (hu : ∀ vs B σ H r E, Rl X.K vs B σ H r → PostS X vs Wx B H σ r (g r) E → u E σ H)
    (h : PostS X vs Wx B H σ r (cSeq f g r) E) : tSeq t u E σ H := by
  refine ht vs B σ H r _ R ?_
  unfold cSeq at h
  cases e : f r with
  | ok fl r1 =>
    rw [e] at h
    cases fl with
    | next => exact fun σ1 B1 H1 s1 R1 => hu vs B1 σ1 H1 r1 E R1 (h.shift s1)
    | ret w => exact h
    | brk => exact h
    | cnt => exact h
  | exc x r1 => rw [e] at h; exact h
  | fail => rw [e] at h; exact h.elim
theorem dss_cons (h1 : DS X st f) (h2 : DSs X rest g) : DSs X (st :: rest) (cSeq f g) := by
  refine ⟨fun Wx tk => ?_⟩
  obtain ⟨t, p, q⟩ := h1.run Wx tk
  obtain ⟨u, p2, q2⟩ := h2.run Wx tk
  exact ⟨_, pss_cons p p2, fun vs B σ H r E R h => PostS.seq R q q2 h⟩
def cDrop (f : M W) : M Fl := M.bind f fun _ => M.ret .next
def cRet (f : M W) : M Fl := M.bind f fun w => M.ret (.ret w)
def cIfS (t : M Bool) (f g : M Fl) : M Fl := M.bind t fun k => if k = true then f else g
theorem ds_pass : DS X (.Pass pos) (M.ret .next) := ⟨fun _ _ => ⟨_, ps_pass, fun _ B σ H _ _ R h => h σ B H .refl R⟩⟩
theorem ds_break : DS X (.Break pos) (M.ret .brk) := ⟨fun _ _ => ⟨_, ps_break, fun _ B σ H _ _ R h => h σ B H .refl R⟩⟩
theorem ds_continue : DS X (.Continue pos) (M.ret .cnt) := ⟨fun _ _ => ⟨_, ps_continue, fun _ B σ H _ _ R h => h σ B H .refl R⟩⟩
theorem ds_retN : DS X (.Return none pos) (M.ret (.ret (.dt .non))) := ⟨fun _ _ => ⟨_, ps_retN, fun _ B σ H _ _ R h => h .non σ B H .refl R (Rp.non)⟩⟩
theorem ds_ret (he : DE X e fe) : DS X (.Return (some e) pos) (cRet fe) := by
  refine ⟨fun Wx tk => ?_⟩
  obtain ⟨t, p, q⟩ := he.run Wx tk
  exact ⟨_, ps_ret p, fun vs B σ H r E R h => q vs B σ H r _ R (PostS.bind0 h fun x w B1 H1 r1 s1 R1 q1 h1 => h1 x σ B1 H1 s1 R1 q1)⟩
theorem ds_expr (he : DE X e fe) (hs : swapsWith e none pos.line X.env = pure false) : DS X (.Expr e pos) (cDrop fe) := by
  refine ⟨fun Wx tk => ?_⟩
  obtain ⟨t, p, q⟩ := he.run Wx tk
  exact ⟨_, ps_expr p hs, fun vs B σ H r E R h => q vs B σ H r _ R (PostS.bind0 h fun x w B1 H1 r1 s1 R1 q1 h1 => h1 σ B1 H1 s1 R1)⟩
theorem ds_if {a b : List Stmt} (hc : DT X c fc) (ha : DSs X a f) (hb : DSs X b g) : DS X (.If c a b pos) (cIfS fc f g) := by
  refine ⟨fun Wx tk => ?_⟩
  obtain ⟨tc, pc, qc⟩ := hc.run Wx tk
  obtain ⟨t, p, q⟩ := ha.run Wx tk
  obtain ⟨u, p2, q2⟩ := hb.run Wx tk
  refine ⟨_, ps_if pc p p2, fun vs B σ H r E R h => qc vs B σ H r _ R (PostS.bind0 (rel1 := fT H) h fun k k' B1 H1 r1 s1 R1 e h1 => ?_)⟩
  cases e
  cases k with
  | true => exact q vs B1 σ H1 r1 E R1 (h1.shift s1)
  | false => exact q2 vs B1 σ H1 r1 E R1 (h1.shift s1)

/-! ### a name takes a value -/
def settle (w : W) : M Sl := fun r => match w with
  | .dt d => .ok (.dt d) r
  | .fresh c => .ok (.own c) r
  | .cel (.bor k) => .ok (.bor k) r
  | .cel (.loc i) => match r.cnt (.loc i) with
    | some c => .ok (.dt c.toD) (r.frz c.toD (.loc i))
    | none => match r.look (.loc i) with
      | some d => .ok (.dt d) r
      | none => .fail
def RpS (K : PySem.W.Frag) (vs : List V) (Hs B : Hp) (σ : L2.St) (H : Hp) (r : Rho) (v : V) : Sl → Prop
  | .dt d => Rp K B v d
  | .own c => ∃ a, v = .ref a ∧ Hs a = none ∧ B a = none ∧ At K B H a c ∧ ¬ Own vs σ r a
  | .bor k => vs[k]? = some v
theorem settle_ok {K : PySem.W.Frag} {v : V} {w : W} {sl : Sl} {r' : Rho} (R : Rl K vs B σ H r) (s : Stp vs B0 H0 σ0 r0 B H σ r) (h : RpW K vs H0 B σ H r v w) (e : settle w r = .ok sl r') :
    ∃ B', RpS K vs H0 B' σ H r' v sl ∧ Rl K vs B' σ H r' ∧ Stp vs B0 H0 σ0 r0 B' H σ r' ∧ Same B B' := by
  cases w with
  | dt d => cases e; exact ⟨B, h, R, s, Same.refl B⟩
  | fresh c => cases e; exact ⟨B, h, R, s, Same.refl B⟩
  | cel z =>
    cases z with
    | bor k => cases e; exact ⟨B, h, R, s, Same.refl B⟩
    | loc i =>
      cases hc : r.cnt (.loc i) with
      | none =>
        cases hl : r.look (.loc i) with
        | none => simp only [settle, hc, hl] at e; cases e
        | some d' =>
          simp only [settle, hc, hl] at e
          cases e
          exact ⟨B, look_data R hc hl h, R, s, Same.refl B⟩
      | some c =>
        simp only [settle, hc] at e
        cases e
        obtain ⟨a, q1, _, _⟩ := R.own _ c hc
        have hv : v = .ref a := by have h' : adr vs σ (.loc i) = some v := h; rw [q1] at h'; exact (Option.some.inj h').symm
        subst hv
        obtain ⟨o, ho, rp, R2, s2⟩ := R.freeze hc q1
        exact ⟨_, rp, R2, s.trans s2, s2.sub⟩
theorem settle_noexc {w : W} {r r' : Rho} {x : Ex} : settle w r ≠ .exc x r' := by
  cases w with
  | dt d => exact fun h => nomatch h
  | fresh c => exact fun h => nomatch h
  | cel z =>
    cases z with
    | bor k => exact fun h => nomatch h
    | loc i =>
      intro h
      cases hc : r.cnt (.loc i) with
      | some c => simp only [settle, hc] at h; cases h
      | none =>
        cases hl : r.look (.loc i) with
        | some d => simp only [settle, hc, hl] at h; cases h
        | none => simp only [settle, hc, hl] at h; cases h
def Rho.put (r : Rho) (i : Nat) (s : Sl) : Rho := { r with loc := r.loc.set i (some s) }
theorem cnt_put {i : Nat} {s : Sl} (hi : i < r.loc.length) (z : Ix) : (r.put i s).cnt z = if z = .loc i then (match s with | .own c => some c | _ => none) else r.cnt z := by
  cases z with
  | loc j =>
    by_cases e : j = i
    · subst e
      simp only [Rho.put, Rho.cnt, List.getElem?_set_self hi, if_true]
      cases s <;> rfl
    · have : ¬ Ix.loc j = Ix.loc i := fun q => e (Ix.loc.inj q)
      simp [Rho.put, Rho.cnt, List.getElem?_set_ne (Ne.symm e), this]
  | bor j => simp [Rho.put, Rho.cnt]
theorem adr_set {i : Nat} {v : V} (z : Ix) (hz : z ≠ .loc i) : adr vs (σ.set i (some v)) z = adr vs σ z := by
  cases z with
  | loc j =>
    have : i ≠ j := fun e => hz (by rw [e])
    simp only [adr, List.getElem?_set_ne this]
  | bor k => rfl
theorem adr_self {i : Nat} {v : V} (hi : i < σ.length) : adr vs (σ.set i (some v)) (.loc i) = some v := by
  simp only [adr, List.getElem?_set_self hi]
theorem Rl.assign {K : PySem.W.Frag} {v : V} {sl : Sl} {i : Nat} (R : Rl K vs B σ H r) (s : Stp vs B0 H0 σ0 r0 B H σ r) (h : RpS K vs H0 B σ H r v sl) (hi : i < r.loc.length) :
    Rl K vs B (σ.set i (some v)) H (r.put i sl) ∧ Stp vs B0 H0 σ0 r0 B H (σ.set i (some v)) (r.put i sl) := by
  have hs : i < σ.length := by rw [← R.len]; exact hi
  have old : ∀ z c, z ≠ .loc i → (r.put i sl).cnt z = some c → r.cnt z = some c := fun z c n q => by rw [cnt_put hi, if_neg n] at q; exact q
  have new : ∀ c, (r.put i sl).cnt (.loc i) = some c → sl = .own c := fun c q => by
    rw [cnt_put hi, if_pos rfl] at q
    cases sl with
    | own c' => cases q; rfl
    | dt d => cases q
    | bor k => cases q
  have ow : ∀ a, Own vs (σ.set i (some v)) (r.put i sl) a → Own vs σ r a ∨ H0 a = none := fun a ⟨z, c, q1, q2⟩ => by
    by_cases hz : z = .loc i
    · subst hz
      have := new c q1
      subst this
      rw [adr_self hs] at q2
      cases q2
      obtain ⟨b, e, n, _⟩ := h
      cases e
      exact .inr n
    · rw [adr_set z hz] at q2
      exact .inl ⟨z, c, old z c hz q1, q2⟩
  refine ⟨⟨R.sub, ?_, ?_, ?_, ?_, R.bod, ?_⟩, ⟨s.sub, s.keep, s.dom, fun a q => (ow a q).elim (s.own a) .inr, s.bol, s.bod, s.boo⟩⟩
  · simp [Rho.put, R.len]
  · intro j d q
    by_cases e : j = i
    · subst e
      simp only [Rho.put, List.getElem?_set_self hi, Option.some.injEq] at q
      subst q
      exact ⟨v, by rw [List.getElem?_set_self hs], h⟩
    · simp only [Rho.put, List.getElem?_set_ne (Ne.symm e)] at q
      obtain ⟨u, p1, p2⟩ := R.dat j d q
      exact ⟨u, by rw [List.getElem?_set_ne (Ne.symm e)]; exact p1, p2⟩
  · intro z c q
    by_cases hz : z = .loc i
    · subst hz
      have := new c q
      subst this
      obtain ⟨a, rfl, _, p2, p3, _⟩ := h
      exact ⟨a, adr_self hs, p2, p3⟩
    · obtain ⟨a, p1, p2, p3⟩ := R.own z c (old z c hz q)
      exact ⟨a, by rw [adr_set z hz]; exact p1, p2, p3⟩
  · intro j k q
    by_cases e : j = i
    · subst e
      simp only [Rho.put, List.getElem?_set_self hi, Option.some.injEq] at q
      subst q
      exact ⟨v, h, by rw [List.getElem?_set_self hs]⟩
    · simp only [Rho.put, List.getElem?_set_ne (Ne.symm e)] at q
      obtain ⟨u, p1, p2⟩ := R.lbo j k q
      exact ⟨u, p1, by rw [List.getElem?_set_ne (Ne.symm e)]; exact p2⟩
  · intro z z' c c' a q q' p p'
    by_cases hz : z = .loc i
    · by_cases hz' : z' = .loc i
      · rw [hz, hz']
      · subst hz
        have := new c q
        subst this
        rw [adr_self hs] at p; cases p
        obtain ⟨b, e, _, _, _, no⟩ := h
        cases e
        rw [adr_set z' hz'] at p'
        exact absurd ⟨z', c', old z' c' hz' q', p'⟩ no
    · by_cases hz' : z' = .loc i
      · subst hz'
        have := new c' q'
        subst this
        rw [adr_self hs] at p'; cases p'
        obtain ⟨b, e, _, _, _, no⟩ := h
        cases e
        rw [adr_set z hz] at p
        exact absurd ⟨z, c, old z c hz q, p⟩ no
      · rw [adr_set z hz] at p
        rw [adr_set z' hz'] at p'
        exact R.sep z z' c c' a (old z c hz q) (old z' c' hz' q') p p'

/-! ### targets -/
/-- only the slots ts are stored to -/
structure Out (σ σ' : L2.St) (ts : List Nat) : Prop where
  len : σ'.length = σ.length
  get : ∀ (j : Nat), j ∉ ts → σ'[j]? = σ[j]?
theorem Out.refl {ts : List Nat} : Out σ σ ts := ⟨rfl, fun _ _ => rfl⟩
theorem Out.trans {σ2 : L2.St} {ts us : List Nat} (a : Out σ σ1 ts) (b : Out σ1 σ2 us) : Out σ σ2 (ts ++ us) :=
  ⟨b.len.trans a.len, fun j n => (b.get j fun q => n (List.mem_append_right _ q)).trans (a.get j fun q => n (List.mem_append_left _ q))⟩
theorem Out.set {i : Nat} {v : Option V} : Out σ (σ.set i v) [i] := ⟨List.length_set .., fun j n => List.getElem?_set_ne fun e => n (by simp [e])⟩
/-- Bc, σc: what is frozen and where the slots stand when the targets begin -/
def PostU (X : Cx) (vs : List V) (Wx : WX) (Bc : Hp) (σc : L2.St) (ts : List Nat) (B H : Hp) (σ : L2.St) (r : Rho) (res : Res Unit) (Q : L2.St → Hp → Prop) : Prop :=
  match res with
  | .ok _ r' => ∀ σ' B' H', Stp vs B H σ r B' H' σ' r' → Same Bc B' → Out σc σ' ts → Rl X.K vs B' σ' H' r' → Q σ' H'
  | .exc x r' => ∀ cl dd σ' B' H', Stp vs B H σ r B' H' σ' r' → Rl X.K vs B' σ' H' r' → RpX X B' cl dd x → Wx cl dd σ' H'
  | .fail => False
structure DG (X : Cx) (tg : Expr) (ts : List Nat) (f : W → M Unit) : Prop where
  run : ∀ Wx, Takes X Wx → ∃ g, PG X tg g ∧ ∀ vs B0 H0 σ0 r0 B σ H r v w Q, Rl X.K vs B σ H r → Stp vs B0 H0 σ0 r0 B H σ r → RpW X.K vs H0 B σ H r v w → PostU X vs Wx B σ ts B0 H0 σ0 r0 (f w r) Q → g v σ H Q
def gN (i : Nat) (w : W) : M Unit := M.bind (settle w) fun sl => fun r => if i < r.loc.length then .ok () (r.put i sl) else .fail
theorem gN_ok {v : V} {w : W} {i : Nat} {Q : L2.St → Hp → Prop} (R : Rl X.K vs B σ H r) (s : Stp vs B0 H0 σ0 r0 B H σ r) (h : RpW X.K vs H0 B σ H r v w) (hp : PostU X vs Wx B σ [i] B0 H0 σ0 r0 (gN i w r) Q) : Q (σ.set i (some v)) H := by
  unfold gN M.bind at hp
  cases e : settle w r with
  | fail => simp only [e] at hp; exact hp.elim
  | exc x r1 => exact absurd e settle_noexc
  | ok sl r1 =>
    simp only [e] at hp
    by_cases hi : i < r1.loc.length
    · rw [if_pos hi] at hp
      obtain ⟨B', p, R', s', sb⟩ := settle_ok R s h e
      obtain ⟨R2, s2⟩ := R'.assign s' p hi
      exact hp _ B' H s2 sb .set R2
    · rw [if_neg hi] at hp
      exact hp.elim
theorem dg_name {i : Nat} {x : Str} (hN : X.N.Nodup) (hi : X.N[i]? = some x) (hx : Loc X.env.scope x) (hf : X.fn x = true ∨ X.env.scope.names.lookup x = some .local) : DG X (.Name x pos) [i] (gN i) :=
  ⟨fun _ _ => ⟨_, pg_name hN hi hx hf, fun _ _ _ _ _ _ _ _ _ _ _ _ R s h hp => gN_ok R s h hp⟩⟩
/-- several targets -/
structure DGs (X : Cx) (es : List Expr) (ts : List Nat) (f : List D → M Unit) : Prop where
  run : ∀ Wx, Takes X Wx → ∃ g, PGs X es g ∧ ∀ vs B0 H0 σ0 r0 B σ H r xs ds Q, Rl X.K vs B σ H r → Stp vs B0 H0 σ0 r0 B H σ r → RpAll X.K B xs ds → PostU X vs Wx B σ ts B0 H0 σ0 r0 (f ds r) Q → g xs σ H Q
def gsNil : List D → M Unit
  | [] => M.ret ()
  | _ => M.no
def gsCons (f : W → M Unit) (g : List D → M Unit) : List D → M Unit
  | [] => M.no
  | d :: ds => M.bind (f (.dt d)) fun _ => g ds
theorem dgs_nil : DGs X [] [] gsNil := ⟨fun _ _ => ⟨_, pgs_nil, fun vs B0 H0 σ0 r0 B σ H r xs ds Q R s h hp => by
  cases h with
  | nil => exact ⟨rfl, hp σ B H s (Same.refl B) .refl R⟩
  | cons a b => exact hp.elim⟩⟩
theorem dgs_cons {es : List Expr} {ts us : List Nat} {f : W → M Unit} {g : List D → M Unit} (h1 : DG X e ts f) (h2 : DGs X es us g) (hs : (assignEach (e :: es) X.env).map (·.2) = assign e X.env :: (assignEach es X.env).map (·.2)) : DGs X (e :: es) (ts ++ us) (gsCons f g) := by
  refine ⟨fun Wx tk => ?_⟩
  obtain ⟨t, p, q⟩ := h1.run Wx tk
  obtain ⟨u, p2, q2⟩ := h2.run Wx tk
  refine ⟨_, pgs_cons p p2 hs, fun vs B0 H0 σ0 r0 B σ H r xs ds Q R s h hp => ?_⟩
  cases h with
  | nil => exact hp.elim
  | @cons v vr d dr a b =>
    refine ⟨v, vr, rfl, q vs B0 H0 σ0 r0 B σ H r v (.dt d) _ R s a ?_⟩
    have hp' : PostU X vs Wx B σ (ts ++ us) B0 H0 σ0 r0 (M.bind (f (.dt d)) (fun _ => g dr) r) Q := hp
    cases e1 : f (.dt d) r with
    | fail => simp only [M.bind, e1] at hp'; exact hp'.elim
    | exc x r1 => simp only [M.bind, e1] at hp'; exact hp'
    | ok _ r1 =>
      simp only [M.bind, e1] at hp'
      intro σ1 B1 H1 s1 sb o1 R1
      refine q2 vs B0 H0 σ0 r0 B1 σ1 H1 r1 vr dr Q R1 s1 (b.mono sb) ?_
      revert hp'
      cases g dr r1 with
      | ok _ r2 => exact fun hp' σ2 B2 H2 s2 sb2 o2 R2 => hp' σ2 B2 H2 s2 (sb.trans sb2) (o1.trans o2) R2
      | exc x r2 => exact fun hp' => hp'
      | fail => exact fun hp' => hp'
def gT (n : Nat) (f : List D → M Unit) : W → M Unit
  | .dt (.tup ds) => M.bind (M.chk (decide (ds.length = n))) fun _ => f ds
  | _ => M.no
theorem dg_tup {es : List Expr} {ts : List Nat} {k n : Nat} {f : List D → M Unit} (hc : X.calm = true) (h : DGs X es ts f) (hn : (assignEach es X.env).length = n) (hst : (assignEach es X.env).findIdx? (·.1) = none) : DG X (.Tuple es k pos) ts (gT n f) := by
  refine ⟨fun Wx tk => ?_⟩
  obtain ⟨t, p, q⟩ := h.run Wx tk
  refine ⟨_, pg_tup hc p hn hst, fun vs B0 H0 σ0 r0 B σ H r v w Q R s hv hp => ?_⟩
  cases w with
  | dt d =>
    cases d with
    | tup ds =>
      cases hv with
      | @tup a xs _ h1 h2 =>
        have hp' : PostU X vs Wx B σ ts B0 H0 σ0 r0 (M.bind (M.chk (decide (ds.length = n))) (fun _ => f ds) r) Q := hp
        by_cases e : ds.length = n
        · have e2 : M.bind (M.chk (decide (ds.length = n))) (fun _ => f ds) r = f ds r := by simp [M.bind, M.chk, e]
          rw [e2] at hp'
          exact ⟨a, xs, rfl, seqT_mono R.sub h1, h2.length.trans e, q vs B0 H0 σ0 r0 B σ H r xs ds Q R s h2 hp'⟩
        · have e2 : M.bind (M.chk (decide (ds.length = n))) (fun _ => f ds) r = .fail := by simp [M.bind, M.chk, e]
          rw [e2] at hp'
          exact hp'.elim
    | _ => exact hp.elim
  | _ => exact hp.elim
/-- o[i] = data, o a list that may change -/
def gIx (fo fi : M W) : W → M Unit
  | .dt d => M.bind fo fun wo => M.bind fi fun wi => match wo, wi with
    | .cel z, .dt (.int i) => fun r => match r.cnt z with
      | some (.lst ds) => match ixN ds.length i with
        | some j => .ok () (r.setc (.lst (ds.set j d)) z)
        | none => .fail
      | _ => .fail
    | _, _ => M.no
  | _ => M.no
theorem dg_ix {o i : Expr} {fo fi : M W} (ho : DE X o fo) (hi : DE X i fi)
    (ha : ∀ v, assign (.Subscript o i pos) X.env v = (do
      let ov ← holding [v] (eval o X.env)
      let iv ← holding [v, ov] (eval i X.env)
      standAt pos
      holding [v, ov, iv] (setItem ov iv v)
      release [v, ov, iv] [])) : DG X (.Subscript o i pos) [] (gIx fo fi) := by
  refine ⟨fun Wx tk => ?_⟩
  obtain ⟨t, p, q⟩ := ho.run Wx tk
  obtain ⟨u, p2, q2⟩ := hi.run Wx tk
  refine ⟨_, pg_sub p p2 set_list ha, fun vs B0 H0 σ0 r0 B σ H r v w Q R s hv hp => ?_⟩
  cases w with
  | dt d =>
    have go : ∀ {α β : Type} {rel : Hp → Hp → Rho → β → α → Prop} {m : M α} {k : α → M Unit} {r : Rho} {B1 H1 : Hp} {Q1 : β → Hp → Prop}, Stp vs B0 H0 σ0 r0 B1 H1 σ r → Same B B1 → PostU X vs Wx B σ [] B0 H0 σ0 r0 (M.bind m k r) Q →
        (∀ b a B2 H2 r2, Stp vs B1 H1 σ r B2 H2 σ r2 → Rl X.K vs B2 σ H2 r2 → rel B2 H2 r2 b a → PostU X vs Wx B σ [] B0 H0 σ0 r0 (k a r2) Q → Q1 b H2) → Post X vs Wx B1 H1 σ r (m r) rel Q1 := by
      intro α β rel m k r B1 H1 Q1 s1 sb hp hk
      cases hm : m r with
      | ok a r1 =>
        have e : M.bind m k r = k a r1 := by simp [M.bind, hm]
        rw [e] at hp
        exact fun b B2 H2 s2 R2 f2 => hk b a B2 H2 r1 s2 R2 f2 hp
      | exc x r1 =>
        have e : M.bind m k r = .exc x r1 := by simp [M.bind, hm]
        rw [e] at hp
        exact fun cl dd B2 H2 s2 R2 f2 => hp cl dd σ B2 H2 (s1.trans s2) R2 f2
      | fail =>
        have e : M.bind m k r = .fail := by simp [M.bind, hm]
        rw [e] at hp
        exact hp.elim
    refine q vs B σ H r _ R (go s (Same.refl B) hp fun x wo B1 H1 r1 s1 R1 q1 h1 => ?_)
    refine q2 vs B1 σ H1 r1 _ R1 (go (s.trans s1) s1.sub h1 fun y wi B2 H2 r2 s2 R2 q3 h2 => ?_)
    cases wo with
    | dt _ => exact h2.elim
    | fresh _ => exact h2.elim
    | cel z =>
      cases wi with
      | fresh _ => exact h2.elim
      | cel _ => exact h2.elim
      | dt di =>
        cases di with
        | int n =>
          cases q3
          simp only at h2
          cases hc : r2.cnt z with
          | none => simp only [hc] at h2; exact h2.elim
          | some c =>
            cases c with
            | dct l => simp only [hc] at h2; exact h2.elim
            | lst ds =>
              simp only [hc] at h2
              cases hx : ixN ds.length n with
              | none => simp only [hx] at h2; exact h2.elim
              | some j =>
                simp only [hx] at h2
                obtain ⟨a, k1, k2, xs, k3, k4⟩ := R2.own z _ hc
                have hv' : Rp X.K B2 v d := Rp.mono (s1.sub.trans s2.sub) hv
                have ex : x = .ref a := by
                  have h' : adr vs σ z = some x := q1
                  rw [k1] at h'; exact (Option.some.inj h').symm
                subst ex
                obtain ⟨R3, s3⟩ := R2.put (o := .lst (xs.set j v)) (c' := .lst (ds.set j d)) hc k1 ⟨_, upd_same, k4.set hv' j⟩
                refine ⟨a, xs, n, j, rfl, rfl, k3, by rw [k4.length]; exact hx, ?_⟩
                exact h2 σ B2 _ (((s.trans s1).trans s2).trans s3) (s1.sub.trans s2.sub) .refl R3
        | _ => exact h2.elim
  | _ => exact hp.elim

/-! ### assignments -/
def cAsg (f : M W) (g : W → M Unit) : M Fl := M.bind f fun w => M.bind (g w) fun _ => M.ret .next
theorem PostS.tgt {w : W} {ts : List Nat} {gg : W → M Unit} (h : PostS X vs Wx B0 H0 σ0 r0 (M.bind (gg w) (fun _ => M.ret .next) r) E) : PostU X vs Wx B σ ts B0 H0 σ0 r0 (gg w r) E.nx := by
  cases e : gg w r with
  | ok u r1 =>
    simp only [M.bind, e] at h
    exact fun σ' B' H' s _ _ R => h σ' B' H' s R
  | exc x r1 => simp only [M.bind, e] at h; exact h
  | fail => simp only [M.bind, e] at h; exact h.elim
theorem ds_asg {tg : Expr} {ts : List Nat} {gg : W → M Unit} (he : DE X e fe) (hg : DG X tg ts gg) (hs : swapsWithSole [tg] e pos.line X.env = pure false) (hw : swappedStores [tg] e X.env = pure none) (h1 : (assignEach [tg] X.env).map (·.2) = [assign tg X.env]) :
    DS X (.Assign [tg] e pos) (cAsg fe gg) := by
  refine ⟨fun Wx tk => ?_⟩
  obtain ⟨t, p, q⟩ := he.run Wx tk
  obtain ⟨u, p2, q2⟩ := hg.run Wx tk
  refine ⟨_, ps_asg p p2 hs hw h1, fun vs B σ H r E R h => q vs B σ H r _ R (PostS.bind0 h fun x w B1 H1 r1 s1 R1 q1 h2 => ?_)⟩
  exact q2 vs B H σ r B1 σ H1 r1 x w E.nx R1 s1 q1 (PostS.tgt h2)
theorem ds_set {i : Nat} {x : Str} {pos' : Pos} (hN : X.N.Nodup) (hi : X.N[i]? = some x) (hx : Loc X.env.scope x) (he : DE X e fe) (hs : swapsWith e (some (.Name x pos')) pos.line X.env = pure false) (hf : X.fn x = true ∨ X.env.scope.names.lookup x = some .local) :
    DS X (.Assign [.Name x pos'] e pos) (cAsg fe (gN i)) := by
  refine ⟨fun Wx tk => ?_⟩
  obtain ⟨t, p, q⟩ := he.run Wx tk
  refine ⟨_, ps_set hN hi hx p hs hf, fun vs B σ H r E R h => q vs B σ H r _ R (PostS.bind0 h fun x w B1 H1 r1 s1 R1 q1 h2 => ?_)⟩
  exact gN_ok R1 s1 q1 (PostS.tgt h2)
end
end Lc

set_option Elab.async false
set_option maxRecDepth 100000
set_option maxHeartbeats 4000000
/-! Part F: loops over data, list comprehensions. -/
namespace Lc
open PySem L2
structure Aft (vs : List V) (B1 H1 : Hp) (σ : L2.St) (r1 : Rho) (B' H' : Hp) : Prop where
  sub : Same B1 B'
  bh : Same B' H'
  keep : ∀ a o, H1 a = some o → ¬ Own vs σ r1 a → H' a = some o
/-- the walked thing yields the data ds, one by one -/
structure Wk (K : PySem.W.Frag) (vs : List V) (B1 H1 : Hp) (σ : L2.St) (r1 : Rho) (J : It) (ds : List D) : Prop where
  go : ∀ i B' H', i < ds.length → Aft vs B1 H1 σ r1 B' H' → J.go i H'
  yld : ∀ (i : Nat) (d : D) (B' H' : Hp) (x : V) (H2 : Hp), ds[i]? = some d → Aft vs B1 H1 σ r1 B' H' → J.yld i H' x H2 → ∃ B2, Ext B' H' B2 H2 ∧ Same B2 H2 ∧ Rp K B2 x d
  stop : ∀ B' H', Aft vs B1 H1 σ r1 B' H' → J.stop ds.length H'
def fJ (X : Cx) (vs : List V) (σ : L2.St) : Hp → Hp → Rho → It → List D → Prop := fun B1 H1 r1 J ds => Wk X.K vs B1 H1 σ r1 J ds
structure DI (X : Cx) (tg iter : Expr) (f : M (List D)) : Prop where
  run : ∀ Wx, Takes X Wx → ∃ wi, PI X tg iter wi ∧ ∀ vs B σ H r R, Rl X.K vs B σ H r → Post X vs Wx B H σ r (f r) (fJ X vs σ) R → wi σ H R
def signs (x : Str) : List D := x.cps.toList.map fun c => .str ⟨#[c]⟩
section
variable {X : Cx} {vs : List V} {Wx : WX} {B H B0 H0 B1 H1 : Hp} {σ σ0 σ1 : L2.St} {r r0 r1 : Rho} {E : Ends} {tg e : Expr} {fe : M W} {pos : Pos}
theorem pi_or {l : Expr} {w1 w2 : TI} (h1 : PI X tg l w1) (h2 : PI X tg l w2) : PI X tg l (fun σ H R => w1 σ H R ∨ w2 σ H R) :=
  ⟨fun pins s σ H R I h => h.elim (h1.run pins s σ H R I) (h2.run pins s σ H R I)⟩
theorem wk_list {K : PySem.W.Frag} {a : Addr} {xs : List V} {ds : List D} (h : ∀ B' H', Aft vs B1 H1 σ r1 B' H' → H' a = some (.lst xs)) (hr : RpAll K B1 xs ds) : Wk K vs B1 H1 σ r1 (Itl K a) ds where
  go := fun i B' H' hi q => by
    have hi' : i < xs.length := by rw [hr.length]; exact hi
    exact ⟨xs, xs[i], .of (h B' H' q), by simp [hi']⟩
  yld := fun i d B' H' x H2 e q y => by
    obtain ⟨rfl, y⟩ := y
    obtain ⟨v, hv, rv⟩ := hr.get e
    have := y xs (.of (h B' _ q))
    rw [hv] at this; cases this
    exact ⟨B', .refl, q.bh, rv.mono q.sub⟩
  stop := fun B' H' q => ⟨xs, .of (h B' H' q), by rw [hr.length]; exact Nat.le_refl _⟩
theorem wk_tup {K : PySem.W.Frag} {a : Addr} {xs : List V} {ds : List D} (h : TpA K B1 a xs) (hr : RpAll K B1 xs ds) : Wk K vs B1 H1 σ r1 (Itt K a) ds where
  go := fun i B' H' hi q => by
    have hi' : i < xs.length := by rw [hr.length]; exact hi
    exact ⟨xs, xs[i], seqT_mono (q.sub.trans q.bh) h, by simp [hi']⟩
  yld := fun i d B' H' x H2 e q y => by
    obtain ⟨rfl, y⟩ := y
    obtain ⟨v, hv, rv⟩ := hr.get e
    have := y xs (seqT_mono (q.sub.trans q.bh) h)
    rw [hv] at this; cases this
    exact ⟨B', .refl, q.bh, rv.mono q.sub⟩
  stop := fun B' H' q => ⟨xs, seqT_mono (q.sub.trans q.bh) h, by rw [hr.length]; exact Nat.le_refl _⟩
theorem wk_str {K : PySem.W.Frag} {x : Str} : Wk K vs B1 H1 σ r1 (Its x) (signs x) where
  go := fun i B' H' hi q => by simpa [signs, Its] using hi
  yld := fun i d B' H' v H2 e q y => by
    obtain ⟨rfl, c, hc, rfl⟩ := y
    simp only [signs, List.getElem?_map, Array.getElem?_toList, hc, Option.map_some, Option.some.injEq] at e
    subst e
    exact ⟨B', .refl, q.bh, .str _⟩
  stop := fun B' H' q => by simp [signs, Its]
def W.items : W → M (List D)
  | .dt (.str x) => M.ret (signs x)
  | .dt (.tup ds) => M.ret ds
  | .dt (.lst ds) => M.ret ds
  | .fresh (.lst ds) => M.ret ds
  | _ => M.no
theorem di_expr (he : DE X e fe) : DI X tg e (M.bind fe W.items) := by
  refine ⟨fun Wx tk => ?_⟩
  obtain ⟨t, p, q⟩ := he.run Wx tk
  refine ⟨_, pi_or (pi_list p) (pi_or (pi_tup p) (pi_str p)), fun vs B σ H r R0 R h => ?_⟩
  cases hf : fe r with
  | fail => simp only [M.bind, hf] at h; exact h.elim
  | exc x r1 =>
    simp only [M.bind, hf] at h
    exact .inl (q vs B σ H r _ R (by rw [hf]; exact h))
  | ok w r1 =>
    simp only [M.bind, hf] at h
    cases w with
    | cel z => exact h.elim
    | fresh c =>
      cases c with
      | dct l => exact h.elim
      | lst ds =>
        refine .inl (q vs B σ H r _ R ?_)
        rw [hf]
        rintro v B1 H1 s1 R1 ⟨a, rfl, n0, nb, ⟨xs, ha, hx⟩, no⟩
        exact ⟨a, rfl, ⟨xs, .of ha⟩, h _ B1 H1 s1 R1 (wk_list (fun B' H' af => af.keep a _ ha no) hx)⟩
    | dt d =>
      cases d with
      | str x =>
        refine .inr (.inr (q vs B σ H r _ R ?_))
        rw [hf]
        intro v B1 H1 s1 R1 hv
        cases hv
        exact ⟨x, rfl, h _ B1 H1 s1 R1 wk_str⟩
      | tup ds =>
        refine .inr (.inl (q vs B σ H r _ R ?_))
        rw [hf]
        intro v B1 H1 s1 R1 hv
        cases hv with
        | tup h1 h2 => exact ⟨_, rfl, ⟨_, seqT_mono R1.sub h1⟩, h _ B1 H1 s1 R1 (wk_tup h1 h2)⟩
      | lst ds =>
        refine .inl (q vs B σ H r _ R ?_)
        rw [hf]
        intro v B1 H1 s1 R1 hv
        cases hv with
        | lst h1 h2 => exact ⟨_, rfl, ⟨_, .of (R1.sub _ _ h1)⟩, h _ B1 H1 s1 R1 (wk_list (fun B' H' af => af.bh _ _ (af.sub _ _ h1)) h2)⟩
      | _ => exact h.elim
def rngD (lo : Int) (n : Nat) : List D := (List.range n).map fun i => .int (lo + (i : Nat))
theorem wk_rng {K : PySem.W.Frag} {lo : Int} {n : Nat} : Wk K vs B1 H1 σ r1 (Itr lo n) (rngD lo n) where
  go := fun i B' H' hi q => by simpa [rngD, Itr] using hi
  yld := fun i d B' H' v H2 e q y => by
    obtain ⟨rfl, rfl⟩ := y
    simp only [rngD, List.getElem?_map] at e
    by_cases hi : i < n
    · simp only [List.getElem?_range hi, Option.map_some, Option.some.injEq] at e
      subst e
      exact ⟨B', .refl, q.bh, .int _⟩
    · rw [List.getElem?_eq_none (by simpa using hi)] at e
      cases e
  stop := fun B' H' q => by simp [rngD, Itr]
def W.rng1 : List W → M (List D)
  | [.dt (.int j)] => M.bind (M.chk (decide (-(2 ^ 62) ≤ j ∧ j < 2 ^ 62))) fun _ => M.ret (rngD 0 j.toNat)
  | _ => M.no
def W.rng2 : List W → M (List D)
  | [.dt (.int i), .dt (.int j)] => M.bind (M.chk (decide (-(2 ^ 62) ≤ i ∧ i < 2 ^ 62 ∧ -(2 ^ 62) ≤ j ∧ j < 2 ^ 62))) fun _ => M.ret (rngD i (j - i).toNat)
  | _ => M.no
theorem di_range1 {a : Expr} {fa : M (List W)} {p : Pos} (hg : Gl X "range") (hm : X.mg "range" = none) (ha : DA X [a] fa) (hs : starEach [a] X.env = [(false, eval a X.env)]) : DI X tg (.Call (.Name "range" p) [a] [] pos) (M.bind fa W.rng1) := by
  refine ⟨fun Wx tk => ?_⟩
  obtain ⟨t, pp, q⟩ := ha.run Wx tk
  refine ⟨_, pi_range1 hg hm pp hs, fun vs B σ H r R0 R h => q vs B σ H r _ R (Post.bind0 h fun xs ws B1 H1 r1 s1 R1 q1 h1 => ?_)⟩
  unfold W.rng1 at h1
  split at h1
  · rename_i j
    cases q1 with
    | cons v1 v2 _ =>
      cases v1; cases v2
      obtain ⟨c, h2⟩ := Post.chk h1
      have c' := of_decide_eq_true c
      exact ⟨j, rfl, c'.1, c'.2, h2 _ B1 H1 s1 R1 wk_rng⟩
  · exact h1.elim
theorem di_range2 {a b : Expr} {fa : M (List W)} {p : Pos} (hg : Gl X "range") (hm : X.mg "range" = none) (ha : DA X [a, b] fa) (hs : starEach [a, b] X.env = [(false, eval a X.env), (false, eval b X.env)]) (hs2 : starEach [b] X.env = [(false, eval b X.env)]) : DI X tg (.Call (.Name "range" p) [a, b] [] pos) (M.bind fa W.rng2) := by
  refine ⟨fun Wx tk => ?_⟩
  obtain ⟨t, pp, q⟩ := ha.run Wx tk
  refine ⟨_, pi_range2 hg hm pp hs hs2, fun vs B σ H r R0 R h => q vs B σ H r _ R (Post.bind0 h fun xs ws B1 H1 r1 s1 R1 q1 h1 => ?_)⟩
  unfold W.rng2 at h1
  split at h1
  · rename_i i j
    cases q1 with
    | cons v1 v2 _ =>
      cases v2 with
      | cons v3 v4 _ =>
        cases v1; cases v3; cases v4
        obtain ⟨c, h2⟩ := Post.chk h1
        have c' := of_decide_eq_true c
        exact ⟨i, j, rfl, c', h2 _ B1 H1 s1 R1 wk_rng⟩
  · exact h1.elim

/-! ### for -/
def loopL (T : W → M Unit) (body : M Fl) : List D → M Fl
  | [] => M.ret .next
  | d :: ds => fun r => match T (.dt d) r with
    | .ok _ r1 => match body r1 with
      | .ok .next r2 => loopL T body ds r2
      | .ok .cnt r2 => loopL T body ds r2
      | .ok .brk r2 => .ok .next r2
      | .ok (.ret w) r2 => .ok (.ret w) r2
      | .exc x r2 => .exc x r2
      | .fail => .fail
    | .exc x r1 => .exc x r1
    | .fail => .fail
def cFor (fi : M (List D)) (T : W → M Unit) (body : M Fl) : M Fl := M.bind fi (loopL T body)
theorem Stp.aft {B' H' : Hp} {σ' : L2.St} {r' : Rho} (s : Stp vs B1 H1 σ r1 B' H' σ' r') (R : Rl X.K vs B' σ' H' r') : Aft vs B1 H1 σ r1 B' H' := ⟨s.sub, R.sub, fun a o h n => (s.keep a o h n).1⟩
theorem ds_for {iter : Expr} {body : List Stmt} {fi : M (List D)} {ts : List Nat} {T : W → M Unit} {fb : M Fl} (hp : PassesOwn (model X.prog X.w) X.A X.env X.xe) (hc : X.calm = true) (hi : DI X tg iter fi) (hg : DG X tg ts T) (hb : DSs X body fb)
    (hs : ∀ x, foldedSetIterable iter X.env x = pure x) : DS X (.For tg iter body [] pos) (cFor fi T fb) := by
  refine ⟨fun Wx tk => ?_⟩
  obtain ⟨wi, pi, qi⟩ := hi.run Wx tk
  obtain ⟨g, pg, qg⟩ := hg.run Wx tk
  obtain ⟨tb, pb, qb⟩ := hb.run Wx tk
  refine ⟨_, ps_for hp hc pi pg pb hs, fun vs B σ H r E R h => qi vs B σ H r _ R (PostS.bind0 h fun J ds B1 H1 r1 s1 R1 wk h1 => ?_)⟩
  replace h1 := PostS.shift s1 h1
  refine ⟨fun i m σ' H' => i + m = ds.length ∧ ∃ B' r', Stp vs B1 H1 σ r1 B' H' σ' r' ∧ Rl X.K vs B' σ' H' r' ∧ PostS X vs Wx B1 H1 σ r1 (loopL T fb (ds.drop i) r') E, ⟨ds.length, by omega, B1, r1, .refl, R1, h1⟩, ?_⟩
  rintro i m σ' H' ⟨hm, B', r', s', R', h'⟩
  by_cases hlt : i < ds.length
  · refine .inr ⟨wk.go i B' H' hlt (s'.aft R'), fun σ2 H2 => i + 1 + (m - 1) = ds.length ∧ ∃ B2 r2, Stp vs B1 H1 σ r1 B2 H2 σ2 r2 ∧ Rl X.K vs B2 σ2 H2 r2 ∧ PostS X vs Wx B1 H1 σ r1 (loopL T fb (ds.drop (i + 1)) r2) E, fun σ2 H2 q => ⟨m - 1, by omega, q⟩, fun x H2 y => ?_⟩
    have ed : ds.drop i = ds[i] :: ds.drop (i + 1) := List.drop_eq_getElem_cons hlt
    rw [ed] at h'
    obtain ⟨B2, e2, sm2, rp⟩ := wk.yld i ds[i] B' H' x H2 (by simp [hlt]) (s'.aft R') y
    have s2 : Stp vs B1 H1 σ r1 B2 H2 σ' r' := s'.trans e2.stp
    have R2 := R'.ext e2 sm2
    refine qg vs B2 H2 σ' r' B2 σ' H2 r' x (.dt ds[i]) _ R2 .refl rp ?_
    cases e3 : T (.dt ds[i]) r' with
    | fail => simp only [loopL, e3] at h'; exact h'.elim
    | exc y r3 =>
      simp only [loopL, e3] at h'
      exact fun cl dd σ3 B3 H3 s3 R3 q3 => h' cl dd σ3 B3 H3 (s2.trans s3) R3 q3
    | ok u r3 =>
      intro σ3 B3 H3 s3 _ _ R3
      refine qb vs B3 σ3 H3 r3 _ R3 ?_
      have s13 := s2.trans s3
      cases e4 : fb r3 with
      | fail => simp only [loopL, e3, e4] at h'; exact h'.elim
      | exc y r4 =>
        simp only [loopL, e3, e4] at h'
        exact fun cl dd σ4 B4 H4 s4 R4 q4 => h' cl dd σ4 B4 H4 (s13.trans s4) R4 q4
      | ok fl r4 =>
        cases fl with
        | next =>
          simp only [loopL, e3, e4] at h'
          exact fun σ4 B4 H4 s4 R4 => ⟨by omega, B4, r4, s13.trans s4, R4, h'⟩
        | cnt =>
          simp only [loopL, e3, e4] at h'
          exact fun σ4 B4 H4 s4 R4 => ⟨by omega, B4, r4, s13.trans s4, R4, h'⟩
        | brk =>
          simp only [loopL, e3, e4] at h'
          exact fun σ4 B4 H4 s4 R4 => h' σ4 B4 H4 (s13.trans s4) R4
        | ret w =>
          simp only [loopL, e3, e4] at h'
          exact fun v σ4 B4 H4 s4 R4 q4 => h' v σ4 B4 H4 (s13.trans s4) R4 (RpW.back q4 s13.dom)
  · have e : i = ds.length := by omega
    subst e
    rw [List.drop_length] at h'
    exact .inl ⟨wk.stop B' H' (s'.aft R'), h' σ' B' H' s' R'⟩
end
end Lc

set_option Elab.async false
set_option maxRecDepth 100000
set_option maxHeartbeats 4000000
/-! Part G: list comprehensions. -/
namespace Lc
open PySem L2
def wipeG {α : Type} (l : List (Option α)) : List Nat → List (Option α)
  | [] => l
  | v :: vs => (wipeG l vs).set v none
theorem wipeG_len {α : Type} (l : List (Option α)) : ∀ vs, (wipeG l vs).length = l.length
  | [] => rfl
  | v :: vs => by rw [wipeG, List.length_set, wipeG_len l vs]
theorem wipeG_in {α : Type} {l : List (Option α)} {i : Nat} : ∀ {vs : List Nat}, i ∈ vs → i < l.length → (wipeG l vs)[i]? = some none
  | [], h, _ => nomatch h
  | v :: vs, h, hl => by
    by_cases e : v = i
    · subst e
      rw [wipeG, List.getElem?_set_self (by rw [wipeG_len]; exact hl)]
    · rw [wipeG, List.getElem?_set_ne e]
      exact wipeG_in ((List.mem_cons.mp h).resolve_left fun q => e q.symm) hl
theorem wipeG_out {α : Type} {l : List (Option α)} {i : Nat} : ∀ {vs : List Nat}, i ∉ vs → (wipeG l vs)[i]? = l[i]?
  | [], _ => rfl
  | v :: vs, h => by
    have e : v ≠ i := fun q => h (by simp [q])
    rw [wipeG, List.getElem?_set_ne e]
    exact wipeG_out fun q => h (List.mem_cons_of_mem _ q)
theorem wipeG_eq (σ : L2.St) : ∀ vs, wipe σ vs = wipeG σ vs
  | [] => rfl
  | v :: vs => by rw [wipe, wipeG, wipeG_eq σ vs]
def Rho.wipe (r : Rho) (own : List Nat) : Rho := { r with loc := wipeG r.loc own }
def backL {α : Type} (l1 le : List (Option α)) : List Nat → List (Option α)
  | [] => le
  | v :: vs => match l1[v]? with
    | some x => (backL l1 le vs).set v x
    | none => backL l1 le vs
theorem backL_len {α : Type} (l1 le : List (Option α)) : ∀ vs, (backL l1 le vs).length = le.length
  | [] => rfl
  | v :: vs => by
    unfold backL
    split
    · rw [List.length_set, backL_len l1 le vs]
    · exact backL_len l1 le vs
theorem backL_out {α : Type} {l1 le : List (Option α)} {i : Nat} : ∀ {vs : List Nat}, i ∉ vs → (backL l1 le vs)[i]? = le[i]?
  | [], _ => rfl
  | v :: vs, h => by
    have e : v ≠ i := fun q => h (by simp [q])
    have n : i ∉ vs := fun q => h (List.mem_cons_of_mem _ q)
    unfold backL
    split
    · rw [List.getElem?_set_ne e]; exact backL_out n
    · exact backL_out n
theorem backL_in {α : Type} {l1 le : List (Option α)} {i : Nat} (hl : le.length = l1.length) : ∀ {vs : List Nat}, i ∈ vs → (backL l1 le vs)[i]? = l1[i]?
  | [], h => nomatch h
  | v :: vs, h => by
    unfold backL
    by_cases e : v = i
    · subst e
      cases q : l1[v]? with
      | none =>
        simp only
        have : ¬ v < l1.length := fun z => by rw [List.getElem?_eq_getElem z] at q; cases q
        rw [List.getElem?_eq_none (by rw [backL_len, hl]; omega)]
      | some x =>
        simp only
        have : v < l1.length := (List.getElem?_eq_some_iff.mp q).1
        rw [List.getElem?_set_self (by rw [backL_len, hl]; exact this)]
    · have h' : i ∈ vs := (List.mem_cons.mp h).resolve_left fun q => e q.symm
      split
      · rw [List.getElem?_set_ne e]; exact backL_in hl h'
      · exact backL_in hl h'
def Rho.back (r1 re : Rho) (own : List Nat) : Rho := { loc := backL r1.loc re.loc own, bor := re.bor }
/-- none of these names holds a thing of its own -/
def Rho.noOwn (r : Rho) (own : List Nat) : Bool := own.all fun i => match r.loc[i]? with
  | some (some (.own _)) => false
  | _ => true
section
variable {K : PySem.W.Frag} {vs : List V} {B H B1 H1 : Hp} {σ : L2.St} {r r1 re : Rho} {own : List Nat}
theorem cnt_wipe {z : Ix} {c : Cn} (h : (r.wipe own).cnt z = some c) : r.cnt z = some c ∧ ∀ i, z = .loc i → i ∉ own := by
  cases z with
  | bor k => exact ⟨h, fun i e => nomatch e⟩
  | loc i =>
    by_cases hi : i ∈ own
    · by_cases hl : i < r.loc.length
      · simp [Rho.cnt, Rho.wipe, wipeG_in hi hl] at h
      · simp [Rho.cnt, Rho.wipe, List.getElem?_eq_none (show (wipeG r.loc own).length ≤ i by rw [wipeG_len]; omega)] at h
    · refine ⟨?_, fun j e => by cases e; exact hi⟩
      simpa [Rho.cnt, Rho.wipe, wipeG_out hi] using h
theorem adr_wipe {z : Ix} (h : ∀ i, z = .loc i → i ∉ own) : adr vs (wipe σ own) z = adr vs σ z := by
  cases z with
  | bor k => rfl
  | loc i => simp only [adr, wipeG_eq, wipeG_out (h i rfl)]
theorem own_wipe {a : Addr} (h : Own vs (wipe σ own) (r.wipe own) a) : Own vs σ r a := by
  obtain ⟨z, c, h1, h2⟩ := h
  obtain ⟨h3, h4⟩ := cnt_wipe h1
  exact ⟨z, c, h3, by rw [← adr_wipe h4]; exact h2⟩
theorem Rl.wipe (R : Rl K vs B σ H r) : Rl K vs B (wipe σ own) H (r.wipe own) where
  sub := R.sub
  len := by simp [Rho.wipe, wipeG_len, wipeG_eq, R.len]
  dat := fun i d h => by
    by_cases hi : i ∈ own
    · by_cases hl : i < r.loc.length
      · simp [Rho.wipe, wipeG_in hi hl] at h
      · simp [Rho.wipe, List.getElem?_eq_none (show (wipeG r.loc own).length ≤ i by rw [wipeG_len]; omega)] at h
    · simp only [Rho.wipe, wipeG_out hi] at h
      obtain ⟨v, h1, h2⟩ := R.dat i d h
      exact ⟨v, by rw [wipeG_eq, wipeG_out hi]; exact h1, h2⟩
  own := fun z c h => by
    obtain ⟨h3, h4⟩ := cnt_wipe h
    obtain ⟨a, q1, q2⟩ := R.own z c h3
    exact ⟨a, by rw [adr_wipe h4]; exact q1, q2⟩
  lbo := fun i k h => by
    by_cases hi : i ∈ own
    · by_cases hl : i < r.loc.length
      · simp [Rho.wipe, wipeG_in hi hl] at h
      · simp [Rho.wipe, List.getElem?_eq_none (show (wipeG r.loc own).length ≤ i by rw [wipeG_len]; omega)] at h
    · simp only [Rho.wipe, wipeG_out hi] at h
      obtain ⟨v, h1, h2⟩ := R.lbo i k h
      exact ⟨v, h1, by rw [wipeG_eq, wipeG_out hi]; exact h2⟩
  bod := R.bod
  sep := fun z z' c c' a h h' p p' => by
    obtain ⟨g1, g2⟩ := cnt_wipe h
    obtain ⟨g3, g4⟩ := cnt_wipe h'
    rw [adr_wipe g2] at p
    rw [adr_wipe g4] at p'
    exact R.sep z z' c c' a g1 g3 p p'
theorem back_ok (R1 : Rl K vs B1 σ H1 r1) (hn : r1.noOwn own = true) (Re : Rl K vs B (wipe σ own) H re) (s : Stp vs B1 H1 (wipe σ own) (r1.wipe own) B H (wipe σ own) re) (hw : re.wipe own = re) :
    Rl K vs B σ H (r1.back re own) ∧ Stp vs B1 H1 σ r1 B H σ (r1.back re own) ∧ ∀ a, Own vs σ (r1.back re own) a → Own vs (wipe σ own) re a := by
  have hlen : re.loc.length = r1.loc.length := by
    have := Re.len
    rw [wipeG_eq, wipeG_len, ← R1.len] at this
    exact this
  have cb : ∀ z c, (r1.back re own).cnt z = some c → re.cnt z = some c ∧ ∀ i, z = .loc i → i ∉ own := fun z c h => by
    cases z with
    | bor k => exact ⟨h, fun i e => nomatch e⟩
    | loc i =>
      by_cases hi : i ∈ own
      · have h3 := List.all_eq_true.mp hn i hi
        exfalso
        cases e : r1.loc[i]? with
        | none => simp [Rho.cnt, Rho.back, backL_in hlen hi, e] at h
        | some o =>
          cases o with
          | none => simp [Rho.cnt, Rho.back, backL_in hlen hi, e] at h
          | some sl =>
            cases sl with
            | own c' => simp [e] at h3
            | dt d => simp [Rho.cnt, Rho.back, backL_in hlen hi, e] at h
            | bor k => simp [Rho.cnt, Rho.back, backL_in hlen hi, e] at h
      · refine ⟨by simpa [Rho.cnt, Rho.back, backL_out hi] using h, fun j e => by cases e; exact hi⟩
  have ob : ∀ a, Own vs σ (r1.back re own) a → Own vs (wipe σ own) re a := fun a ⟨z, c, h1, h2⟩ => by
    obtain ⟨g1, g2⟩ := cb z c h1
    exact ⟨z, c, g1, by rw [adr_wipe g2]; exact h2⟩
  refine ⟨⟨Re.sub, ?_, ?_, ?_, ?_, Re.bod, ?_⟩, ⟨s.sub, fun a o h n => s.keep a o h fun q => n (own_wipe q), s.dom, fun a h => ?_, s.bol, s.bod, s.boo⟩, ob⟩
  · simp only [Rho.back, backL_len]
    rw [hlen, R1.len]
  · intro i d h
    by_cases hi : i ∈ own
    · simp only [Rho.back, backL_in hlen hi] at h
      obtain ⟨v, h1, h2⟩ := R1.dat i d h
      exact ⟨v, h1, h2.mono s.sub⟩
    · simp only [Rho.back, backL_out hi] at h
      obtain ⟨v, h1, h2⟩ := Re.dat i d h
      exact ⟨v, by rw [wipeG_eq, wipeG_out hi] at h1; exact h1, h2⟩
  · intro z c h
    obtain ⟨g1, g2⟩ := cb z c h
    obtain ⟨a, q1, q2⟩ := Re.own z c g1
    exact ⟨a, by rw [← adr_wipe g2]; exact q1, q2⟩
  · intro i k h
    by_cases hi : i ∈ own
    · simp only [Rho.back, backL_in hlen hi] at h
      exact R1.lbo i k h
    · simp only [Rho.back, backL_out hi] at h
      obtain ⟨v, h1, h2⟩ := Re.lbo i k h
      exact ⟨v, h1, by rw [wipeG_eq, wipeG_out hi] at h2; exact h2⟩
  · intro z z' c c' a h h' p p'
    obtain ⟨g1, g2⟩ := cb z c h
    obtain ⟨g3, g4⟩ := cb z' c' h'
    rw [← adr_wipe g2] at p
    rw [← adr_wipe g4] at p'
    exact Re.sep z z' c c' a g1 g3 p p'
  · rcases s.own a (ob a h) with q | q
    · exact .inl (own_wipe q)
    · exact .inr q
theorem wipe_wipe : (r.wipe own).wipe own = r.wipe own := by
  have : ∀ (l : List (Option Sl)), wipeG (wipeG l own) own = wipeG l own := fun l => by
    apply List.ext_getElem?
    intro i
    by_cases hi : i ∈ own
    · by_cases hl : i < l.length
      · rw [wipeG_in hi (by rw [wipeG_len]; exact hl), wipeG_in hi hl]
      · rw [List.getElem?_eq_none (by rw [wipeG_len, wipeG_len]; omega), List.getElem?_eq_none (by rw [wipeG_len]; omega)]
    · rw [wipeG_out hi]
  simp only [Rho.wipe, this]
/-- a place that no one here knows is written -/
theorem Rl.other {a : Addr} {o : HO} (R : Rl K vs B σ H r) (nb : B a = none) (no : ¬ Own vs σ r a) : Rl K vs B σ (upd H a o) r where
  sub := fun x u h => by
    have : x ≠ a := fun e => by subst e; rw [nb] at h; cases h
    rw [upd_ne this]; exact R.sub _ _ h
  len := R.len
  dat := R.dat
  own := fun z c h => by
    obtain ⟨b, q1, q2, q3⟩ := R.own z c h
    have : b ≠ a := fun e => no ⟨z, c, h, e ▸ q1⟩
    exact ⟨b, q1, q2, q3.mono (Same.refl B) fun u q => by rw [upd_ne this]; exact q⟩
  lbo := R.lbo
  bod := R.bod
  sep := R.sep
end

/-! ### the readings that a denotation itself gives -/
def Wf : WX := fun _ _ _ _ => False
section
variable {X : Cx}
def tOf (X : Cx) (f : M W) : TE := fun σ H Q => ∃ vs B r, Rl X.K vs B σ H r ∧ Post X vs Wf B H σ r (f r) (fW X vs σ H) Q
def ttOf (X : Cx) (f : M Bool) : TT := fun σ H Q => ∃ vs B r, Rl X.K vs B σ H r ∧ Post X vs Wf B H σ r (f r) (fT H) Q
def gOf (X : Cx) (ts : List Nat) (T : W → M Unit) : TG := fun v σ H Q => ∃ vs B r w, Rl X.K vs B σ H r ∧ RpW X.K vs H B σ H r v w ∧ PostU X vs Wf B σ ts B H σ r (T w r) Q
theorem DE.pe {e : Expr} {f : M W} (h : DE X e f) (tk : Takes X Wf) : PE X e (tOf X f) := by
  obtain ⟨t, p, q⟩ := h.run Wf tk
  exact ⟨fun pins s σ H Q I ⟨vs, B, r, R, hp⟩ => p.run pins s σ H Q I (q vs B σ H r Q R hp)⟩
theorem DG.pg {e : Expr} {ts : List Nat} {T : W → M Unit} (h : DG X e ts T) (tk : Takes X Wf) : PG X e (gOf X ts T) := by
  obtain ⟨t, p, q⟩ := h.run Wf tk
  exact ⟨fun pins s σ H v u Q I rv ⟨vs, B, r, w, R, hv, hp⟩ => p.run pins s σ H v u Q I rv (q vs B H σ r B σ H r v w Q R .refl hv hp)⟩
/-- the tests of a clause -/
structure DTs (X : Cx) (ifs : List Expr) (f : M Bool) : Prop where
  run : Takes X Wf → PTs X ifs (ttOf X f)
theorem dts_nil : DTs X [] (M.ret true) := ⟨fun _ => ⟨fun pins s σ H Q I ⟨vs, B, r, R, hp⟩ => pts_nil.run pins s σ H Q I (hp true B H .refl R rfl)⟩⟩
theorem dts_one {c : Expr} {f : M Bool} (h : DT X c f) : DTs X [c] f := ⟨fun tk => by
  obtain ⟨t, p, q⟩ := h.run Wf tk
  exact ⟨fun pins s σ H Q I ⟨vs, B, r, R, hp⟩ => (pts_one p).run pins s σ H Q I (q vs B σ H r Q R hp)⟩⟩
theorem takes_blk {s : Shared} {H : Hp} {scope : Scope} {cenv : Env} {fp : List Addr} : Takes (X.blk s H scope cenv fp) Wf := fun u s' ⟨_, _, _, _, _, _, _, _, _, _, _, _, _, _, _, _, h⟩ => h.elim

def lcLoop (own : List Nat) (T : W → M Unit) (tt : M Bool) (fe : M W) : List D → List D → M (List D)
  | [], acc => M.ret acc
  | d :: ds, acc => fun r => match T (.dt d) r with
    | .ok _ r1 => match tt r1 with
      | .ok true r2 => match fe r2 with
        | .ok w r3 => match w.frz r3 with
          | .ok y r4 => if acc.length < sizeLine then lcLoop own T tt fe ds (acc ++ [y]) (r4.wipe own) else .fail
          | _ => .fail
        | _ => .fail
      | .ok false r2 => lcLoop own T tt fe ds acc (r2.wipe own)
      | _ => .fail
    | _ => .fail
def cLc (fi : M (List D)) (own : List Nat) (T : W → M Unit) (tt : M Bool) (fe : M W) : M W := M.bind fi fun ds => fun r1 => if r1.noOwn own = true then
  match lcLoop own T tt fe ds [] (r1.wipe own) with
  | .ok acc re => .ok (.fresh (.lst acc)) (r1.back re own)
  | _ => .fail
  else .fail
theorem Out.wipe {σ σ2 : L2.St} {ts own : List Nat} (o : Out (wipe σ own) σ2 ts) (h : ∀ t ∈ ts, t ∈ own) : wipe σ2 own = wipe σ own := by
  rw [wipeG_eq, wipeG_eq]
  have hl : σ2.length = σ.length := by rw [o.len, wipeG_eq, wipeG_len]
  apply List.ext_getElem?
  intro i
  by_cases hi : i ∈ own
  · by_cases q : i < σ.length
    · rw [wipeG_in hi (by rw [hl]; exact q), wipeG_in hi q]
    · rw [List.getElem?_eq_none (by rw [wipeG_len]; omega), List.getElem?_eq_none (by rw [wipeG_len]; omega)]
  · rw [wipeG_out hi, o.get i fun q => hi (h i q), wipeG_eq]
theorem lc_read {vs : List V} {Wx : WX} {B H : Hp} {σ : L2.St} {r : Rho} {fi : M (List D)} {own ts : List Nat} {T : W → M Unit} {tt : M Bool} {fe : M W} {wi : TI} {Q : VK} (hts : ∀ t ∈ ts, t ∈ own) (R : Rl X.K vs B σ H r)
    (qi : ∀ vs B σ H r R, Rl X.K vs B σ H r → Post X vs Wx B H σ r (fi r) (fJ X vs σ) R → wi σ H R) (h : Post X vs Wx B H σ r (cLc fi own T tt fe r) (fW X vs σ H) Q) : tLc wi (gOf X ts T) (ttOf X tt) (tOf X fe) own σ H Q := by
  refine qi vs B σ H r _ R (Post.bind0 h fun J ds B1 H1 r1 s1 R1 wk h1 => ?_)
  intro L hL
  by_cases hno : r1.noOwn own = true
  · rw [if_pos hno] at h1
    have hsome : ∃ tot, tot = lcLoop own T tt fe ds [] (r1.wipe own) := ⟨_, rfl⟩
    obtain ⟨tot, htot⟩ := hsome
    rw [← htot] at h1
    have nofail : tot ≠ .fail := fun e => by rw [e] at h1; exact h1
    refine ⟨fun i m H' => i + m = ds.length ∧ ∃ B' r' acc accV, Stp vs B1 H1 (wipe σ own) (r1.wipe own) B' H' (wipe σ own) r' ∧ Rl X.K vs B' (wipe σ own) H' r' ∧ H' L = some (.lst accV) ∧ RpAll X.K B' accV acc ∧ B' L = none ∧ ¬ Own vs (wipe σ own) r' L ∧ r'.wipe own = r' ∧ lcLoop own T tt fe (ds.drop i) acc r' = tot, ?_, ?_⟩
    · have Rw : Rl X.K vs B1 (wipe σ own) H1 (r1.wipe own) := R1.wipe
      have e : Ext B1 H1 B1 (upd H1 L (.lst [])) := .plain hL
      exact ⟨ds.length, by omega, B1, r1.wipe own, [], [], e.stp, Rw.ext e (Rw.sub.trans e.keep), upd_same, .nil, none_of_sub R1.sub hL, Rw.notOwn hL, wipe_wipe, htot.symm⟩
    · rintro i m H' ⟨hm, B', r', acc, accV, s', R', hD, ra, nb, no, hw, hl⟩
      have af : Aft vs B1 H1 σ r1 B' H' := ⟨s'.sub, R'.sub, fun a o e n => (s'.keep a o e fun q => n (own_wipe q)).1⟩
      by_cases hlt : i < ds.length
      · refine .inr ⟨wk.go i B' H' hlt af, fun H2 => i + 1 + (m - 1) = ds.length ∧ ∃ B2 r2 acc2 accV2, Stp vs B1 H1 (wipe σ own) (r1.wipe own) B2 H2 (wipe σ own) r2 ∧ Rl X.K vs B2 (wipe σ own) H2 r2 ∧ H2 L = some (.lst accV2) ∧ RpAll X.K B2 accV2 acc2 ∧ B2 L = none ∧ ¬ Own vs (wipe σ own) r2 L ∧ r2.wipe own = r2 ∧ lcLoop own T tt fe (ds.drop (i + 1)) acc2 r2 = tot, fun H2 q => ⟨m - 1, by omega, q⟩, fun x H2 y => ?_⟩
        have ed : ds.drop i = ds[i] :: ds.drop (i + 1) := List.drop_eq_getElem_cons hlt
        rw [ed] at hl
        obtain ⟨B2, e2, sm2, rp⟩ := wk.yld i ds[i] B' H' x H2 (by simp [hlt]) af y
        have R2 := R'.ext e2 sm2
        have s2 := s'.trans (e2.stp (vs := vs) (σ := wipe σ own) (r := r'))
        have hD2 := e2.keep _ _ hD
        have nb2 := e2.new _ _ hD nb
        refine ⟨vs, B2, r', .dt ds[i], R2, rp, ?_⟩
        cases e3 : T (.dt ds[i]) r' with
        | fail => simp only [lcLoop, e3] at hl; exact (nofail hl.symm).elim
        | exc z r3 => simp only [lcLoop, e3] at hl; exact (nofail hl.symm).elim
        | ok u r3 =>
          intro σ3 B3 H3 s3 _ o3 R3
          refine ⟨o3.wipe hts, ?_⟩
          obtain ⟨k3, n3⟩ := s3.keep L _ hD2 no
          have no3 : ¬ Own vs σ3 r3 L := fun q => (s3.own L q).elim no fun z => by rw [hD2] at z; cases z
          refine ⟨vs, B3, r3, R3, ?_⟩
          cases e4 : tt r3 with
          | fail => simp only [lcLoop, e3, e4] at hl; exact (nofail hl.symm).elim
          | exc z r4 => simp only [lcLoop, e3, e4] at hl; exact (nofail hl.symm).elim
          | ok k r4 =>
            intro k' B4 H4 s4 R4 ek
            have ek' : k' = k := ek
            subst ek'
            obtain ⟨k4, n4⟩ := s4.keep L _ k3 no3
            have no4 : ¬ Own vs σ3 r4 L := fun q => (s4.own L q).elim no3 fun z => by rw [k3] at z; cases z
            have s14 := (s2.trans s3).trans s4
            cases k' with
            | false =>
              rw [if_neg Bool.false_ne_true]
              simp only [lcLoop, e3, e4] at hl
              have R5 : Rl X.K vs B4 (wipe σ own) H4 (r4.wipe own) := by rw [← o3.wipe hts]; exact R4.wipe
              have ow5 : ∀ a, Own vs (wipe σ own) (r4.wipe own) a → Own vs σ3 r4 a := fun a q => by rw [← o3.wipe hts] at q; exact own_wipe q
              exact ⟨by omega, B4, r4.wipe own, acc, accV, ⟨s14.sub, s14.keep, s14.dom, fun a q => s14.own a (ow5 a q), s14.bol, s14.bod, s14.boo⟩, R5, k4, (ra.mono e2.sub).mono (s3.sub.trans s4.sub), n4 (n3 nb2), fun q => no4 (ow5 L q), wipe_wipe, hl⟩
            | true =>
              rw [if_pos rfl]
              refine ⟨vs, B4, r4, R4, ?_⟩
              cases e5 : fe r4 with
              | fail => simp only [lcLoop, e3, e4, e5] at hl; exact (nofail hl.symm).elim
              | exc z r5 => simp only [lcLoop, e3, e4, e5] at hl; exact (nofail hl.symm).elim
              | ok w r5 =>
                intro yv B5 H5 s5 R5 q5
                obtain ⟨k5, n5⟩ := s5.keep L _ k4 no4
                have no5 : ¬ Own vs σ3 r5 L := fun q => (s5.own L q).elim no4 fun z => by rw [k4] at z; cases z
                cases e6 : w.frz r5 with
                | fail => simp only [lcLoop, e3, e4, e5, e6] at hl; exact (nofail hl.symm).elim
                | exc z r6 => exact absurd e6 frz_noexc
                | ok yd r6 =>
                  simp only [lcLoop, e3, e4, e5, e6] at hl
                  by_cases hz : acc.length < sizeLine
                  · rw [if_pos hz] at hl
                    obtain ⟨B6, p6, R6, s6, sb6, _⟩ := frz1 (B0 := B4) (H0 := H4) (r0 := r4) R5 s5 q5 e6
                    have n6 : B6 L = none := (s6.keep L _ k4 no4).2 (n4 (n3 nb2))
                    have no6 : ¬ Own vs σ3 r6 L := fun q => (s6.own L q).elim no4 fun z => by rw [k4] at z; cases z
                    have ra6 : RpAll X.K B6 accV acc := (ra.mono e2.sub).mono ((s3.sub.trans s4.sub).trans s6.sub)
                    refine ⟨accV, k5, by rw [ra.length]; exact hz, by omega, B6, r6.wipe own, acc ++ [yd], accV ++ [yv], ?_, ?_, upd_same, ra6.append (.cons p6 .nil), n6, ?_, wipe_wipe, hl⟩
                    · have s16 := s14.trans s6
                      refine ⟨s16.sub, fun a o e n => ?_, fun a e => ?_, fun a q => s16.own a ?_, s16.bol, s16.bod, s16.boo⟩
                      · have : a ≠ L := fun q => by subst q; rw [hL] at e; cases e
                        obtain ⟨g1, g2⟩ := s16.keep a o e n
                        exact ⟨by rw [upd_ne this]; exact g1, g2⟩
                      · by_cases q : a = L
                        · subst q; exact hL
                        · rw [upd_ne q] at e; exact s16.dom a e
                      · rw [← o3.wipe hts] at q; exact own_wipe q
                    · have := (R6.other (o := .lst (accV ++ [yv])) n6 no6).wipe (own := own)
                      rw [o3.wipe hts] at this
                      exact this
                    · intro q
                      rw [← o3.wipe hts] at q
                      exact no6 (own_wipe q)
                  · rw [if_neg hz] at hl
                    exact (nofail hl.symm).elim
      · have e : i = ds.length := by omega
        subst e
        rw [List.drop_length] at hl
        refine .inl ⟨wk.stop B' H' af, ?_⟩
        have hl' : tot = .ok acc r' := hl.symm
        rw [hl'] at h1
        obtain ⟨Rf, sf, ob⟩ := back_ok R1 hno R' s' hw
        exact h1 (.ref L) B' H' (s1.trans sf) Rf ⟨L, rfl, s1.dom _ hL, nb, ⟨accV, hD, ra⟩, fun q => no (ob L q)⟩
  · rw [if_neg hno] at h1
    exact h1.elim
theorem de_lc {elt tg iter : Expr} {ifs : List Expr} {scope : Scope} {own : List (Str × Nat)} {pos : Pos} {fi : M (List D)} {ts : List Nat} {T : W → M Unit} {tt : M Bool} {fe : M W} (hc : X.calm = true) (hN : X.N.Nodup) (hi : DI X tg iter fi) (ok : BlkOk X.N X.env.scope scope own)
    (hts : ∀ t ∈ ts, t ∈ own.map (·.2)) (hg : ∀ (s : Shared) (H : Hp) (C : Addr) (cl : List (Str × Addr)) (fp : List Addr), DG (X.blk s H scope (compEnvC scope cl C X.env) fp) tg ts T) (ht : ∀ (s : Shared) (H : Hp) (C : Addr) (cl : List (Str × Addr)) (fp : List Addr), DTs (X.blk s H scope (compEnvC scope cl C X.env) fp) ifs tt)
    (he : ∀ (s : Shared) (H : Hp) (C : Addr) (cl : List (Str × Addr)) (fp : List Addr), DE (X.blk s H scope (compEnvC scope cl C X.env) fp) elt fe) (hs : ∀ x, foldedSetIterable iter X.env x = pure x) :
    DE X (.ListComp elt [⟨tg, iter, ifs, 0⟩] scope pos) (cLc fi (own.map (·.2)) T tt fe) := by
  refine ⟨fun Wx tk => ?_⟩
  obtain ⟨wi, pi, qi⟩ := hi.run Wx tk
  exact ⟨_, pe_lc (g := gOf X ts T) (tt := ttOf X tt) (te := tOf X fe) hc hN pi ok (fun s H C cl fp => (hg s H C cl fp).pg takes_blk) (fun s H C cl fp => (ht s H C cl fp).run takes_blk) (fun s H C cl fp => (he s H C cl fp).pe takes_blk) hs, fun vs B σ H r Q R h => lc_read hts R qi h⟩
theorem ds_setLc {i : Nat} {y : Str} {py : Pos} {elt tg iter : Expr} {ifs : List Expr} {scope : Scope} {own : List (Str × Nat)} {pos spos : Pos} {fi : M (List D)} {ts : List Nat} {T : W → M Unit} {tt : M Bool} {fe : M W} (hc : X.calm = true) (hN : X.N.Nodup) (hy : X.N[i]? = some y) (hyl : X.env.scope.names.lookup y = some .local)
    (hsw : swapsWith (.ListComp elt [⟨tg, iter, ifs, 0⟩] scope pos) (some (.Name y py)) spos.line X.env = pure true) (hi : DI X tg iter fi) (ok : BlkOk X.N X.env.scope scope own)
    (hts : ∀ t ∈ ts, t ∈ own.map (·.2)) (hg : ∀ (s : Shared) (H : Hp) (C : Addr) (cl : List (Str × Addr)) (fp : List Addr), DG (X.blk s H scope (compEnvC scope cl C X.env) fp) tg ts T) (ht : ∀ (s : Shared) (H : Hp) (C : Addr) (cl : List (Str × Addr)) (fp : List Addr), DTs (X.blk s H scope (compEnvC scope cl C X.env) fp) ifs tt)
    (he : ∀ (s : Shared) (H : Hp) (C : Addr) (cl : List (Str × Addr)) (fp : List Addr), DE (X.blk s H scope (compEnvC scope cl C X.env) fp) elt fe) (hs : ∀ x, foldedSetIterable iter X.env x = pure x) :
    DS X (.Assign [.Name y py] (.ListComp elt [⟨tg, iter, ifs, 0⟩] scope pos) spos) (cAsg (cLc fi (own.map (·.2)) T tt fe) (gN i)) := by
  refine ⟨fun Wx tk => ?_⟩
  obtain ⟨wi, pi, qi⟩ := hi.run Wx tk
  refine ⟨_, ps_setLc (g := gOf X ts T) (tt := ttOf X tt) (te := tOf X fe) hc hN hy hyl hsw pi ok (fun s H C cl fp => (hg s H C cl fp).pg takes_blk) (fun s H C cl fp => (ht s H C cl fp).run takes_blk) (fun s H C cl fp => (he s H C cl fp).pe takes_blk) hs, fun vs B σ H r E R h => ?_⟩
  exact lc_read hts R qi (PostS.bind0 h fun x w B1 H1 r1 s1 R1 q1 h2 => gN_ok R1 s1 q1 (PostS.tgt h2))
end
end Lc

set_option Elab.async false
set_option maxRecDepth 100000
set_option maxHeartbeats 4000000
/-! Part H: defs, and calls of them. -/
namespace Lc
open PySem L2 PySem.Spec PyProof.Rows
inductive FRes where
  | ok (b : Bo) (as : List Bo)
  | exc (x : Ex) (as : List Bo)
  | fail
abbrev Fn := List Bo → FRes
def PostF (K : PySem.W.Frag) (mg : Str → Option Value) (vs : List V) (B H : Hp) (as : List Bo) (res : FRes) (Q : VK) (E : XK) : Prop :=
  match res with
  | .ok b as' => ∀ v B' H', Stp vs B H [] ⟨[], as⟩ B' H' [] ⟨[], as'⟩ → Rl K vs B' [] H' ⟨[], as'⟩ → RpW K vs H B' [] H' ⟨[], as'⟩ v b.toW → Q v H'
  | .exc x as' => ∀ cl dd B' H', Stp vs B H [] ⟨[], as⟩ B' H' [] ⟨[], as'⟩ → Rl K vs B' [] H' ⟨[], as'⟩ → RpXK K mg B' cl dd x → E cl dd H'
  | .fail => False
/-- a def's promise: it does on data what F does -/
def spG (K : PySem.W.Frag) (mg : Str → Option Value) (n : Nat) (F : Fn) : Sp := fun vs H Q E => vs.length = n ∧ ∃ B as, as.length = n ∧ Rl K vs B [] H ⟨[], as⟩ ∧ PostF K mg vs B H as (F as) Q E
structure FnG (P : Program) (w : World) (K : PySem.W.Frag) (mg : Str → Option Value) (base : Heap) (k : Nat) (f : Addr) (fd : FuncData) (ps : List Str) (F : Fn) : Prop where
  run : ∀ (A : Around) (outer : List Env) (s : Shared) (H : Hp) (args : Args) (us : List Value) (vs : List V) (Q : VK) (E : XK), Room k A → A.guards = some [] → Env0 P w K mg base A outer s H → BindsTo s fd args (ps.zip us) → Vals vs us →
    spG K mg ps.length F vs H Q E → codeAny (model P w) A (.call (.ref f) args) (CR (L2.CX P w) outer P w H s Q E) s
theorem FnG.up {P : Program} {w : World} {K : PySem.W.Frag} {mg : Str → Option Value} {base : Heap} {j k : Nat} {f : Addr} {fd : FuncData} {ps : List Str} {F : Fn} (h : FnG P w K mg base j f fd ps F) (l : j ≤ k) : FnG P w K mg base k f fd ps F :=
  ⟨fun A outer s H args us vs Q E hr => h.run A outer s H args us vs Q E (hr.mono l)⟩

/-! ### a def by its body -/
def entryL : Nat → List Bo → List (Option Sl)
  | _, [] => []
  | k, .dt d :: as => some (.dt d) :: entryL (k + 1) as
  | k, .own _ :: as => some (.bor k) :: entryL (k + 1) as
def entry (n : Nat) (as : List Bo) : Rho := ⟨entryL 0 as ++ List.replicate (n - as.length) none, as⟩
def finish (w : W) (r : Rho) : FRes := match w with
  | .dt d => .ok (.dt d) r.bor
  | .fresh c => .ok (.own c) r.bor
  | .cel (.loc i) => match r.cnt (.loc i) with
    | some c => .ok (.own c) r.bor
    | none => match r.look (.loc i) with
      | some d => .ok (.dt d) r.bor
      | none => .fail
  | .cel (.bor k) => match r.cnt (.bor k) with
    | some c => .ok (.dt c.toD) (r.frz c.toD (.bor k)).bor
    | none => match r.look (.bor k) with
      | some d => .ok (.dt d) r.bor
      | none => .fail
def runF (n : Nat) (body : M Fl) : Fn := fun as => match body (entry n as) with
  | .ok .next r => .ok (.dt .non) r.bor
  | .ok (.ret w) r => finish w r
  | .ok _ _ => .fail
  | .exc x r => .exc x r.bor
  | .fail => .fail
theorem entryL_len : ∀ (as : List Bo) (k : Nat), (entryL k as).length = as.length
  | [], _ => rfl
  | .dt _ :: as, k => by rw [entryL, List.length_cons, List.length_cons, entryL_len as]
  | .own _ :: as, k => by rw [entryL, List.length_cons, List.length_cons, entryL_len as]
theorem entryL_get : ∀ (as : List Bo) (k i : Nat), (entryL k as)[i]? = (as[i]?).map fun b => match b with
    | .dt d => some (.dt d)
    | .own _ => some (.bor (k + i))
  | [], _, _ => rfl
  | .dt d :: as, k, 0 => rfl
  | .own c :: as, k, 0 => rfl
  | .dt d :: as, k, i + 1 => by
    have := entryL_get as (k + 1) i
    rw [show k + 1 + i = k + (i + 1) by omega] at this
    simpa [entryL] using this
  | .own c :: as, k, i + 1 => by
    have := entryL_get as (k + 1) i
    rw [show k + 1 + i = k + (i + 1) by omega] at this
    simpa [entryL] using this
theorem entry_get {n : Nat} {as : List Bo} {i : Nat} {s : Sl} (h : (entry n as).loc[i]? = some (some s)) : (∃ d, as[i]? = some (.dt d) ∧ s = .dt d) ∨ (∃ c, as[i]? = some (.own c) ∧ s = .bor i) := by
  simp only [entry] at h
  by_cases hi : i < as.length
  · rw [List.getElem?_append_left (by rw [entryL_len]; exact hi), entryL_get] at h
    cases e : as[i]? with
    | none => rw [e] at h; cases h
    | some b =>
      rw [e] at h
      cases b with
      | dt d => simp at h; exact .inl ⟨d, rfl, h.symm⟩
      | own c => simp at h; exact .inr ⟨c, rfl, h.symm⟩
  · rw [List.getElem?_append_right (by rw [entryL_len]; omega), List.getElem?_replicate] at h
    split at h <;> cases h
section
variable {K : PySem.W.Frag} {mg : Str → Option Value} {vs : List V} {B H B' H' : Hp} {σ' : L2.St} {r' : Rho} {as : List Bo} {N : List Str}
theorem cnt_bare {z : Ix} {c : Cn} (h : (⟨[], as⟩ : Rho).cnt z = some c) : ∃ k, z = .bor k ∧ as[k]? = some (.own c) := by
  cases z with
  | loc i => simp [Rho.cnt] at h
  | bor k =>
    refine ⟨k, rfl, ?_⟩
    cases e : as[k]? with
    | none => simp [Rho.cnt, e] at h
    | some b =>
      cases b with
      | dt d => simp [Rho.cnt, e] at h
      | own c' => simp [Rho.cnt, e] at h; rw [h]
theorem cnt_entry {n : Nat} {z : Ix} {c : Cn} (h : (entry n as).cnt z = some c) : (⟨[], as⟩ : Rho).cnt z = some c := by
  cases z with
  | bor k => exact h
  | loc i =>
    exfalso
    cases e : (entry n as).loc[i]? with
    | none => simp [Rho.cnt, e] at h
    | some o =>
      cases o with
      | none => simp [Rho.cnt, e] at h
      | some s =>
        rcases entry_get e with ⟨d, _, rfl⟩ | ⟨c', _, rfl⟩
        · simp [Rho.cnt, e] at h
        · simp [Rho.cnt, e] at h
theorem start_get {i : Nat} {v : V} (h : vs[i]? = some v) : (L2.start N vs)[i]? = some (some v) := by
  have hi := (List.getElem?_eq_some_iff.mp h).1
  unfold L2.start
  rw [List.getElem?_append_left (by simpa using hi), List.getElem?_map, h]
  rfl
theorem entry_rl (R : Rl K vs B [] H ⟨[], as⟩) (hl : vs.length = as.length) : Rl K vs B (L2.start N vs) H (entry N.length as) where
  sub := R.sub
  len := by
    unfold L2.start entry
    simp only [List.length_append, List.length_map, List.length_replicate, entryL_len]
    omega
  dat := fun i d h => by
    rcases entry_get h with ⟨d', e, q⟩ | ⟨c, e, q⟩
    · cases q
      obtain ⟨v, h1, h2⟩ := R.bod i d e
      exact ⟨v, start_get h1, h2⟩
    · cases q
  own := fun z c h => by
    have h' := cnt_entry h
    obtain ⟨k, rfl, _⟩ := cnt_bare h'
    exact R.own _ c h'
  lbo := fun i k h => by
    rcases entry_get h with ⟨d', e, q⟩ | ⟨c, e, q⟩
    · cases q
    · cases q
      obtain ⟨a, h1, _⟩ := R.own (.bor i) c (by simp [Rho.cnt, e])
      have h1' : vs[i]? = some (.ref a) := h1
      exact ⟨_, h1', start_get h1'⟩
  bod := R.bod
  sep := fun z z' c c' a h h' p p' => by
    have g := cnt_entry h
    have g' := cnt_entry h'
    obtain ⟨k, rfl, _⟩ := cnt_bare g
    obtain ⟨k', rfl, _⟩ := cnt_bare g'
    exact R.sep _ _ c c' a g g' p p'
theorem own_bare {σ : L2.St} {a : Addr} {r : Rho} (h : Own vs [] ⟨[], r.bor⟩ a) : Own vs σ r a := by
  obtain ⟨z, c, h1, h2⟩ := h
  obtain ⟨k, rfl, e⟩ := cnt_bare h1
  exact ⟨.bor k, c, by simp [Rho.cnt, e], h2⟩
theorem own_entry {n : Nat} {σ : L2.St} {a : Addr} (h : Own vs σ (entry n as) a) : Own vs [] ⟨[], as⟩ a := by
  obtain ⟨z, c, h1, h2⟩ := h
  have g := cnt_entry h1
  obtain ⟨k, rfl, e⟩ := cnt_bare g
  exact ⟨.bor k, c, g, h2⟩
theorem exit_rl {σ : L2.St} {r : Rho} (R : Rl K vs B σ H r) : Rl K vs B [] H ⟨[], r.bor⟩ where
  sub := R.sub
  len := rfl
  dat := fun i d h => by simp at h
  own := fun z c h => by
    obtain ⟨k, rfl, e⟩ := cnt_bare h
    exact R.own (.bor k) c (by simp [Rho.cnt, e])
  lbo := fun i k h => by simp at h
  bod := R.bod
  sep := fun z z' c c' a h h' p p' => by
    obtain ⟨k, rfl, e⟩ := cnt_bare h
    obtain ⟨k', rfl, e'⟩ := cnt_bare h'
    exact R.sep _ _ c c' a (by simp [Rho.cnt, e]) (by simp [Rho.cnt, e']) p p'
theorem exit_stp {n : Nat} {σ : L2.St} (s : Stp vs B H σ (entry n as) B' H' σ' r') : Stp vs B H [] ⟨[], as⟩ B' H' [] ⟨[], r'.bor⟩ where
  sub := s.sub
  keep := fun a o h no => s.keep a o h fun q => no (own_entry q)
  dom := s.dom
  own := fun a h => (s.own a (own_bare h)).elim (fun q => .inl (own_entry q)) .inr
  bol := s.bol
  bod := s.bod
  boo := s.boo
theorem finish_ok {n : Nat} {σ : L2.St} {w : W} {v : V} {Q : VK} {E : XK} (s : Stp vs B H σ (entry n as) B' H' σ' r') (R : Rl K vs B' σ' H' r') (hv : RpW K vs H B' σ' H' r' v w) (h : PostF K mg vs B H as (finish w r') Q E) : Q v H' := by
  cases w with
  | dt d => exact h v B' H' (exit_stp s) (exit_rl R) hv
  | fresh c =>
    obtain ⟨a, rfl, h1, h2, h3, h4⟩ := hv
    exact h _ B' H' (exit_stp s) (exit_rl R) ⟨a, rfl, h1, h2, h3, fun q => h4 (own_bare q)⟩
  | cel z =>
    cases z with
    | loc i =>
      cases hc : r'.cnt (.loc i) with
      | none =>
        cases hl : r'.look (.loc i) with
        | none => simp only [finish, hc, hl] at h; exact h.elim
        | some d =>
          simp only [finish, hc, hl] at h
          exact h v B' H' (exit_stp s) (exit_rl R) (look_data R hc hl hv)
      | some c =>
        simp only [finish, hc] at h
        obtain ⟨a, q1, q2, q3⟩ := R.own _ c hc
        have e : v = .ref a := by have h' : adr vs σ' (.loc i) = some v := hv; rw [q1] at h'; exact (Option.some.inj h').symm
        subst e
        refine h _ B' H' (exit_stp s) (exit_rl R) ⟨a, rfl, ?_, q2, q3, fun ⟨z, c', g1, g2⟩ => ?_⟩
        · rcases s.own a ⟨_, c, hc, q1⟩ with g | g
          · obtain ⟨z, c', g1, g2⟩ := own_entry g
            obtain ⟨k, rfl, e⟩ := cnt_bare g1
            have g2' : vs[k]? = some (.ref a) := g2
            rcases s.boo k c' a e g2' with ⟨c2, m⟩ | ⟨d, o, _, m⟩
            · have := R.sep (.loc i) (.bor k) c c2 a hc (by simp [Rho.cnt, m]) q1 g2'
              cases this
            · rw [q2] at m; cases m
          · exact g
        · obtain ⟨k, rfl, e⟩ := cnt_bare g1
          have := R.sep (.loc i) (.bor k) c c' a hc (by simp [Rho.cnt, e]) q1 g2
          cases this
    | bor k =>
      cases hc : r'.cnt (.bor k) with
      | none =>
        cases hl : r'.look (.bor k) with
        | none => simp only [finish, hc, hl] at h; exact h.elim
        | some d =>
          simp only [finish, hc, hl] at h
          exact h v B' H' (exit_stp s) (exit_rl R) (look_data R hc hl hv)
      | some c =>
        simp only [finish, hc] at h
        obtain ⟨a, q1, q2, q3⟩ := R.own _ c hc
        have e : v = .ref a := by have h' : adr vs σ' (.bor k) = some v := hv; rw [q1] at h'; exact (Option.some.inj h').symm
        subst e
        obtain ⟨o, ho, rp, R2, s2⟩ := R.freeze hc q1
        exact h _ _ H' (exit_stp (s.trans s2)) (exit_rl R2) rp
/-- from a body's denotation to the def's -/
theorem runF_ok {X : Cx} {body : M Fl} {Q : VK} {E : XK} (hK : X.K = K) (hmg : X.mg = mg) (R : Rl K vs B [] H ⟨[], as⟩) (hl : vs.length = as.length) (h : PostF K mg vs B H as (runF N.length body as) Q E) :
    PostS X vs (fun cl dd _ H' => E cl dd H') B H (L2.start N vs) (entry N.length as) (body (entry N.length as)) { nx := fun _ H' => Q .non H', rt := Q } := by
  subst hK hmg
  unfold runF at h
  cases e : body (entry N.length as) with
  | fail => rw [e] at h; exact h.elim
  | exc x r => rw [e] at h; exact fun cl dd σ' B' H' s R' q => h cl dd B' H' (exit_stp s) (exit_rl R') q
  | ok fl r =>
    rw [e] at h
    cases fl with
    | next => exact fun σ' B' H' s R' => h .non B' H' (exit_stp s) (exit_rl R') Rp.non
    | ret w => exact fun v σ' B' H' s R' hv => finish_ok s R' hv h
    | brk => exact h.elim
    | cnt => exact h.elim
end
/-- a def of the text does what its body denotes. C: whatever the body's contexts are to bear -/
theorem fnG_of {P : Program} {w : World} {K : PySem.W.Frag} {mg : Str → Option Value} {base : Heap} {k : Nat} {x qual : Str} {st : Stmt} {f : Addr} {fd : FuncData} {N ps : List Str} {body : M Fl} (F : Fun K x qual st f fd) (S : FnScope N ps (defScope st))
    (hbody : ∀ (cdv : Value) (A : Around) (outer : List Env) (s : Shared) (H : Hp) (E : XK), Room k (A.deeper (envOfC qual (defScope st) s.heap.objs.size f cdv)) → A.guards = some [] →
      DSs (cxOf (L2.CX P w) P w K mg base N qual (defScope st) f cdv A outer s H E) (defBody st) body) : FnG P w K mg base (k + 1) f fd ps (runF N.length body) := by
  obtain ⟨oc, od, kV, doc, pm, an, cdv, ct, osl, rfl, lk, hcd⟩ := F.ex
  refine ⟨fun A outer s H args us vs Q E hr hgu e0 hb rv ⟨hl, B, as, ha, R, hp⟩ => ?_⟩
  have inK : K.In s.heap := e0.mod.kin.keeps fun b o e => (e0.bs b o e).1
  have nolim : s.heap.NoLimit := e0.mod.nolimit.keeps fun b o e => (e0.bs b o e).1
  have kinds : ∀ y ∈ ps.zip us, (defScope st).names.lookup y.1 = some .local ∨ ((defScope st).names.lookup y.1 = some .cell ∧ ((cellsFrom (s.heap.objs.size + 1) (defScope st).names []).lookup y.1).isSome = true) := by
    rintro ⟨y, u⟩ hy
    rcases S.par y (List.of_mem_zip hy).1 with q | q
    · exact Or.inl q
    · exact Or.inr ⟨q, PySem.W.cellsFrom_some _ _ _ (Or.inl q)⟩
  refine codeAny_call_function hr.depth (inK _ _ lk) rfl S.co S.gen rfl (PySem.W.codeRec_of inK hcd) (hb _ _ _ _ ?_)
  refine wpAny_newFunctionEnv_cells S.kind kinds fun env he s1 ic => ?_
  subst he
  refine ⟨nolim.keeps ic.toInCall.keep, codeAny_func ?_⟩
  obtain ⟨t, pt, qt⟩ := (hbody cdv A outer s H E (hr.deeper _) hgu).run _ (takes_of rfl rfl rfl rfl)
  have I := inv_start (CX := L2.CX P w) (P := P) (w := w) (K := K) (mg := mg) (base := base) (N := N) (qual := qual) (f := f) (cd := cdv) (E := E) S hr.hd e0 hl rv ic
  have q := qt vs B (L2.start N vs) H (entry N.length as) _ (entry_rl R (hl.trans ha.symm)) (runF_ok rfl rfl R (hl.trans ha.symm) hp)
  refine wpAny_mono (pt.run [] s1 (L2.start N vs) H _ I q) (fun fl s2 hs => ?_) fun e s2 hs => hs
  cases fl with
  | ret u =>
    obtain ⟨v, σ2, H2, J, ru, z⟩ := hs
    exact ⟨v, H2, J.os, J.bare, J.base, J.hok, ru, z⟩
  | next =>
    obtain ⟨σ2, H2, J, z⟩ := hs
    exact ⟨.non, H2, J.os, J.bare, J.base, J.hok, rfl, z⟩
  | brk => obtain ⟨_, _, _, z⟩ := hs; exact z.elim
  | cont => obtain ⟨_, _, _, z⟩ := hs; exact z.elim
end Lc

set_option Elab.async false
set_option maxRecDepth 100000
set_option maxHeartbeats 4000000
/-! Part I: calls of defs. -/
namespace Lc
open PySem L2 PySem.Spec PyProof.Rows
def argOf (r : Rho) : W → Option Bo
  | .dt d => some (.dt d)
  | .fresh c => some (.own c)
  | .cel z => match r.cnt z with
    | some c => some (.own c)
    | none => match r.look z with
      | some d => some (.dt d)
      | none => none
def argsOf (r : Rho) : List W → Option (List Bo)
  | [] => some []
  | w :: ws => match argOf r w, argsOf r ws with
    | some b, some bs => some (b :: bs)
    | _, _ => none
def celOf (r : Rho) : W → Option Ix
  | .cel z => match r.cnt z with
    | some _ => some z
    | none => none
  | _ => none
def apart (r : Rho) : List W → Bool
  | [] => true
  | w :: ws => (match celOf r w with
    | some z => ws.all fun u => decide (celOf r u ≠ some z)
    | none => true) && apart r ws
def findArg (z : Ix) : List W → List Bo → Option Bo
  | .cel z' :: ws, b :: bs => if z' = z then some b else findArg z ws bs
  | _ :: ws, _ :: bs => findArg z ws bs
  | _, _ => none
def upSl (ws : List W) (bs : List Bo) (i : Nat) : Option Sl → Option Sl
  | some (.own c) => match findArg (.loc i) ws bs with
    | some (.own c') => some (.own c')
    | some (.dt d) => some (.dt d)
    | none => some (.own c)
  | x => x
def upBo (ws : List W) (bs : List Bo) (k : Nat) : Bo → Bo
  | .own c => match findArg (.bor k) ws bs with
    | some b => b
    | none => .own c
  | x => x
/-- the caller's things behind a call -/
def Rho.after (r : Rho) (ws : List W) (bs : List Bo) : Rho := ⟨r.loc.mapIdx (upSl ws bs), r.bor.mapIdx (upBo ws bs)⟩
def cCall (F : Fn) (f : M (List W)) : M W := M.bind f fun ws => fun r => match argsOf r ws with
  | some as => if apart r ws = true then match F as with
      | .ok b bs => .ok b.toW (r.after ws bs)
      | .exc x bs => .exc x (r.after ws bs)
      | .fail => .fail
    else .fail
  | none => .fail
theorem argsOf_get {r : Rho} : ∀ {ws : List W} {as : List Bo}, argsOf r ws = some as → as.length = ws.length ∧ ∀ (k : Nat) (b : Bo), as[k]? = some b → ∃ w, ws[k]? = some w ∧ argOf r w = some b
  | [], as, h => by cases h; exact ⟨rfl, fun k b e => by simp at e⟩
  | w :: ws, as, h => by
    unfold argsOf at h
    cases e1 : argOf r w with
    | none => simp [e1] at h
    | some b =>
      cases e2 : argsOf r ws with
      | none => simp [e1, e2] at h
      | some bs =>
        simp only [e1, e2, Option.some.injEq] at h
        subst h
        obtain ⟨l, g⟩ := argsOf_get e2
        refine ⟨by rw [List.length_cons, List.length_cons, l], fun k b' e => ?_⟩
        cases k with
        | zero => simp at e; subst e; exact ⟨w, rfl, e1⟩
        | succ k => simpa using g k b' (by simpa using e)
theorem argsOf_get' {r : Rho} : ∀ {ws : List W} {as : List Bo} {k : Nat} {w : W}, argsOf r ws = some as → ws[k]? = some w → ∃ b, as[k]? = some b ∧ argOf r w = some b
  | ws, as, k, w, h, e => by
    obtain ⟨l, g⟩ := argsOf_get h
    have hk := (List.getElem?_eq_some_iff.mp e).1
    have hk' : k < as.length := by rw [l]; exact hk
    obtain ⟨w', e', q⟩ := g k as[k] (by simp [hk'])
    rw [e] at e'; cases e'
    exact ⟨as[k], by simp [hk'], q⟩
theorem apart_get {r : Rho} {z : Ix} {ws : List W} : apart r ws = true → ∀ {i j : Nat} {w u : W}, ws[i]? = some w → ws[j]? = some u → celOf r w = some z → celOf r u = some z → i = j := by
  induction ws with
  | nil => intro _ i j w u h; simp at h
  | cons w0 ws ih =>
    intro h i j w u e1 e2 c1 c2
    have h2 : apart r ws = true := by simp only [apart, Bool.and_eq_true] at h; exact h.2
    have one : ∀ {u : W}, celOf r w0 = some z → u ∈ ws → celOf r u ≠ some z := fun {u} c m => by
      simp only [apart, c, Bool.and_eq_true, List.all_eq_true, decide_eq_true_eq] at h
      exact h.1 u m
    cases i with
    | zero =>
      cases j with
      | zero => rfl
      | succ j =>
        simp at e1; subst e1
        exact absurd c2 (one c1 (List.mem_of_getElem? (by simpa using e2)))
    | succ i =>
      cases j with
      | zero =>
        simp at e2; subst e2
        exact absurd c1 (one c2 (List.mem_of_getElem? (by simpa using e1)))
      | succ j => exact congrArg (· + 1) (ih h2 (i := i) (j := j) (by simpa using e1) (by simpa using e2) c1 c2)
theorem findArg_some {z : Ix} {b : Bo} : ∀ {ws : List W} {bs : List Bo}, findArg z ws bs = some b → ∃ k : Nat, ws[k]? = some (.cel z) ∧ bs[k]? = some b
  | [], bs, h => by cases bs <;> simp [findArg] at h
  | w :: ws, [], h => by cases w <;> simp [findArg] at h
  | w :: ws, b' :: bs, h => by
    cases w with
    | cel z' =>
      by_cases e : z' = z
      · subst e
        simp [findArg] at h
        exact ⟨0, rfl, by simp [h]⟩
      · simp [findArg, e] at h
        obtain ⟨k, h1, h2⟩ := findArg_some h
        exact ⟨k + 1, by simpa using h1, by simpa using h2⟩
    | dt d =>
      simp [findArg] at h
      obtain ⟨k, h1, h2⟩ := findArg_some h
      exact ⟨k + 1, by simpa using h1, by simpa using h2⟩
    | fresh d =>
      simp [findArg] at h
      obtain ⟨k, h1, h2⟩ := findArg_some h
      exact ⟨k + 1, by simpa using h1, by simpa using h2⟩
theorem findArg_none {z : Ix} : ∀ {ws : List W} {bs : List Bo} {k : Nat}, findArg z ws bs = none → ws[k]? = some (.cel z) → bs[k]? = none
  | [], bs, k, h, e => by simp at e
  | w :: ws, [], k, h, e => by simp
  | w :: ws, b' :: bs, k, h, e => by
    cases k with
    | zero =>
      simp at e; subst e
      simp [findArg] at h
    | succ k =>
      have h' : findArg z ws bs = none := by
        cases w with
        | cel z' =>
          by_cases q : z' = z
          · subst q; simp [findArg] at h
          · simpa [findArg, q] using h
        | dt d => simpa [findArg] using h
        | fresh d => simpa [findArg] using h
      simpa using findArg_none h' (by simpa using e)
section
variable {K : PySem.W.Frag} {vs xs : List V} {Hs B H B' H' : Hp} {σ : L2.St} {r : Rho} {ws : List W} {as bs : List Bo}
theorem RpWs.clash {xs : List V} {ws : List W} (h : RpWs K vs Hs B σ H r xs ws) : ∀ {i j : Nat} {v x : V} {w u : W}, i < j → xs[i]? = some v → ws[i]? = some w → xs[j]? = some x → ws[j]? = some u → ¬ Clash v w x u := by
  induction h with
  | nil => intro i j v x w u _ e; simp at e
  | cons h0 t n ih =>
    intro i j v x w u hij e1 e2 e3 e4
    cases j with
    | zero => omega
    | succ j =>
      cases i with
      | zero =>
        simp at e1 e2; subst e1 e2
        exact n j _ _ (by simpa using e3) (by simpa using e4)
      | succ i => exact ih (i := i) (j := j) (by omega) (by simpa using e1) (by simpa using e2) (by simpa using e3) (by simpa using e4)
theorem RpWs.at (h : RpWs K vs Hs B σ H r xs ws) {k : Nat} {w : W} (e : ws[k]? = some w) : ∃ v, xs[k]? = some v ∧ RpW K vs Hs B σ H r v w := by
  have hk : k < xs.length := by rw [h.length]; exact (List.getElem?_eq_some_iff.mp e).1
  exact ⟨xs[k], by simp [hk], h.get (by simp [hk]) e⟩
/-- an argument that the callee may change: a new thing, or a kept one -/
theorem own_arg (R : Rl K vs B σ H r) (h : RpWs K vs Hs B σ H r xs ws) (ea : argsOf r ws = some as) {k : Nat} {c : Cn} (e : as[k]? = some (.own c)) :
    ∃ w a, ws[k]? = some w ∧ xs[k]? = some (.ref a) ∧ B a = none ∧ At K B H a c ∧ ((w = .fresh c ∧ ¬ Own vs σ r a ∧ Hs a = none) ∨ ∃ z, w = .cel z ∧ r.cnt z = some c ∧ adr vs σ z = some (.ref a)) := by
  obtain ⟨w, ew, eb⟩ := (argsOf_get ea).2 k _ e
  obtain ⟨v, ev, hv⟩ := h.at ew
  cases w with
  | dt d => simp [argOf] at eb
  | fresh c' =>
    simp [argOf] at eb; subst eb
    obtain ⟨a, rfl, h1, h2, h3, h4⟩ := hv
    exact ⟨_, a, ew, ev, h2, h3, .inl ⟨rfl, h4, h1⟩⟩
  | cel z =>
    cases hc : r.cnt z with
    | none =>
      cases hl : r.look z with
      | none => simp [argOf, hc, hl] at eb
      | some d => simp [argOf, hc, hl] at eb
    | some c' =>
      simp [argOf, hc] at eb; subst eb
      obtain ⟨a, q1, q2, q3⟩ := R.own z _ hc
      have hv' : adr vs σ z = some v := hv
      rw [q1] at hv'; cases hv'
      exact ⟨_, a, ew, ev, q2, q3, .inr ⟨z, rfl, hc, q1⟩⟩
theorem call_in (R : Rl K vs B σ H r) (h : RpWs K vs Hs B σ H r xs ws) (ea : argsOf r ws = some as) (hap : apart r ws = true) : Rl K xs B [] H ⟨[], as⟩ where
  sub := R.sub
  len := rfl
  dat := fun i d q => by simp at q
  own := fun z c q => by
    obtain ⟨k, rfl, e⟩ := cnt_bare q
    obtain ⟨w, a, h1, h2, h3, h4, _⟩ := own_arg R h ea e
    exact ⟨a, h2, h3, h4⟩
  lbo := fun i k q => by simp at q
  bod := fun k d e => by
    obtain ⟨w, ew, eb⟩ := (argsOf_get ea).2 k _ e
    obtain ⟨v, ev, hv⟩ := h.at ew
    refine ⟨v, ev, ?_⟩
    cases w with
    | dt d' => simp [argOf] at eb; subst eb; exact hv
    | fresh c' => simp [argOf] at eb
    | cel z =>
      cases hc : r.cnt z with
      | some c' => simp [argOf, hc] at eb
      | none =>
        cases hl : r.look z with
        | none => simp [argOf, hc, hl] at eb
        | some d' =>
          simp [argOf, hc, hl] at eb; subst eb
          exact look_data R hc hl hv
  sep := fun z z' c c' a q q' p p' => by
    obtain ⟨k, rfl, e⟩ := cnt_bare q
    obtain ⟨k', rfl, e'⟩ := cnt_bare q'
    obtain ⟨w, a1, h1, h2, _, h4, o1⟩ := own_arg R h ea e
    obtain ⟨w', a2, g1, g2, _, g4, o2⟩ := own_arg R h ea e'
    have p1 : xs[k]? = some (.ref a) := p
    have p2 : xs[k']? = some (.ref a) := p'
    rw [h2] at p1; cases p1
    rw [g2] at p2; cases p2
    congr 1
    rcases o1 with ⟨rfl, n1, _⟩ | ⟨z1, rfl, c1, d1⟩
    · rcases o2 with ⟨rfl, n2, _⟩ | ⟨z2, rfl, c2, d2⟩
      · rcases Nat.lt_trichotomy k k' with l | l | l
        · exact absurd ⟨_, _, _, rfl, rfl, rfl, rfl⟩ (h.clash l h2 h1 g2 g1)
        · exact l
        · exact absurd ⟨_, _, _, rfl, rfl, rfl, rfl⟩ (h.clash l g2 g1 h2 h1)
      · exact absurd ⟨z2, _, c2, d2⟩ n1
    · rcases o2 with ⟨rfl, n2, _⟩ | ⟨z2, rfl, c2, d2⟩
      · exact absurd ⟨z1, _, c1, d1⟩ n2
      · have := R.sep z1 z2 _ _ _ c1 c2 d1 d2
        subst this
        exact apart_get (z := z1) hap h1 g1 (by simp [celOf, c1]) (by simp [celOf, c1])
theorem cnt_after {z : Ix} : (r.after ws bs).cnt z = match r.cnt z with
    | some c => match findArg z ws bs with
      | some (.own c') => some c'
      | some (.dt _) => none
      | none => some c
    | none => none := by
  cases z with
  | loc i =>
    cases e : r.loc[i]? with
    | none => simp [Rho.cnt, Rho.after, List.getElem?_mapIdx, e]
    | some o =>
      cases o with
      | none => simp [Rho.cnt, Rho.after, List.getElem?_mapIdx, e, upSl]
      | some s =>
        cases s with
        | dt d => simp [Rho.cnt, Rho.after, List.getElem?_mapIdx, e, upSl]
        | bor k => simp [Rho.cnt, Rho.after, List.getElem?_mapIdx, e, upSl]
        | own c =>
          simp only [Rho.cnt, Rho.after, List.getElem?_mapIdx, e, upSl, Option.map_some]
          cases findArg (.loc i) ws bs with
          | none => rfl
          | some b => cases b <;> rfl
  | bor k =>
    cases e : r.bor[k]? with
    | none => simp [Rho.cnt, Rho.after, List.getElem?_mapIdx, e]
    | some s =>
      cases s with
      | dt d => simp [Rho.cnt, Rho.after, List.getElem?_mapIdx, e, upBo]
      | own c =>
        simp only [Rho.cnt, Rho.after, List.getElem?_mapIdx, e, upBo, Option.map_some]
        cases findArg (.bor k) ws bs with
        | none => rfl
        | some b => cases b <;> rfl
theorem after_own {z : Ix} {c : Cn} (h : (r.after ws bs).cnt z = some c) : ∃ c0, r.cnt z = some c0 ∧ ((∃ k : Nat, ws[k]? = some (.cel z) ∧ bs[k]? = some (.own c)) ∨ (findArg z ws bs = none ∧ c = c0)) := by
  rw [cnt_after] at h
  cases e : r.cnt z with
  | none => rw [e] at h; cases h
  | some c0 =>
    rw [e] at h
    cases e2 : findArg z ws bs with
    | none => simp only [e2] at h; cases h; exact ⟨_, rfl, .inr ⟨rfl, rfl⟩⟩
    | some b =>
      cases b with
      | dt d => simp only [e2] at h; cases h
      | own c' => simp only [e2] at h; cases h; exact ⟨c0, rfl, .inl (findArg_some e2)⟩
/-- a kept thing that is not handed in is not the callee's -/
theorem not_handed (R : Rl K vs B σ H r) (h : RpWs K vs Hs B σ H r xs ws) (ea : argsOf r ws = some as) (hb : bs.length = as.length) {z : Ix} {c : Cn} {a : Addr} (hc : r.cnt z = some c) (ha : adr vs σ z = some (.ref a)) (hn : findArg z ws bs = none) : ¬ Own xs [] ⟨[], as⟩ a := by
  rintro ⟨z', c', q1, q2⟩
  obtain ⟨k, rfl, e⟩ := cnt_bare q1
  have q2' : xs[k]? = some (.ref a) := q2
  obtain ⟨w, a1, h1, h2, _, _, o1⟩ := own_arg R h ea e
  rw [q2'] at h2; cases h2
  rcases o1 with ⟨rfl, n1, _⟩ | ⟨z1, rfl, c1, d1⟩
  · exact n1 ⟨z, c, hc, ha⟩
  · have := R.sep z z1 _ _ _ hc c1 ha d1
    subst this
    have hk := (List.getElem?_eq_some_iff.mp e).1
    have := findArg_none hn h1
    rw [List.getElem?_eq_getElem (by rw [hb]; exact hk)] at this
    cases this
theorem call_out {B0 H0 : Hp} {r0 : Rho} (R : Rl K vs B σ H r) (s0 : Stp vs B0 H0 σ r0 B H σ r) (h : RpWs K vs H0 B σ H r xs ws) (ea : argsOf r ws = some as) (s : Stp xs B H [] ⟨[], as⟩ B' H' [] ⟨[], bs⟩) (R' : Rl K xs B' [] H' ⟨[], bs⟩) :
    Rl K vs B' σ H' (r.after ws bs) ∧ Stp vs B0 H0 σ r0 B' H' σ (r.after ws bs) := by
  have hb : bs.length = as.length := s.bol
  have callee : ∀ a, Own xs [] ⟨[], as⟩ a → Own vs σ r a ∨ H0 a = none := by
    rintro a ⟨z', c', q1, q2⟩
    obtain ⟨k, rfl, e⟩ := cnt_bare q1
    obtain ⟨w, a1, h1, h2, _, _, o1⟩ := own_arg R h ea e
    have q2' : xs[k]? = some (.ref a) := q2
    rw [q2'] at h2; cases h2
    rcases o1 with ⟨rfl, n1, n2⟩ | ⟨z1, rfl, c1, d1⟩
    · exact .inr n2
    · exact .inl ⟨z1, _, c1, d1⟩
  have own' : ∀ z c, (r.after ws bs).cnt z = some c → ∃ a c0, r.cnt z = some c0 ∧ adr vs σ z = some (.ref a) ∧ B' a = none ∧ At K B' H' a c := fun z c q => by
    obtain ⟨c0, q0, q1 | ⟨q1, rfl⟩⟩ := after_own q
    · obtain ⟨k, e1, e2⟩ := q1
      obtain ⟨a, p1, p2, p3⟩ := R'.own (.bor k) c (by simp [Rho.cnt, e2])
      have p1' : xs[k]? = some (.ref a) := p1
      exact ⟨a, c0, q0, h.get p1' e1, p2, p3⟩
    · obtain ⟨a, p1, p2, p3⟩ := R.own z c q0
      have no := not_handed R h ea hb q0 p1 q1
      obtain ⟨o, ho⟩ := p3.some
      exact ⟨a, c, q0, p1, (s.keep a o ho no).2 p2, p3.mono s.sub fun o' e => (s.keep a o' e no).1⟩
  have ow : ∀ a, Own vs σ (r.after ws bs) a → Own vs σ r a := fun a ⟨z, c, q1, q2⟩ => by
    obtain ⟨c0, q0, _⟩ := after_own q1
    exact ⟨z, c0, q0, q2⟩
  have frozen : ∀ {z : Ix} {d : D} {v : V}, adr vs σ z = some v → findArg z ws bs = some (.dt d) → Rp K B' v d := fun {z d v} ha q => by
    obtain ⟨k, e1, e2⟩ := findArg_some q
    obtain ⟨u, p1, p2⟩ := R'.bod k d e2
    have : adr vs σ z = some u := h.get p1 e1
    rw [ha] at this; cases this
    exact p2
  refine ⟨⟨R'.sub, ?_, ?_, fun z c q => ?_, ?_, ?_, ?_⟩, ⟨s0.sub.trans s.sub, fun a o e no => ?_, fun a e => s0.dom a (s.dom a e), fun a q => s0.own a (ow a q), ?_, ?_, ?_⟩⟩
  · simp [Rho.after, R.len]
  · intro i d q
    cases e : r.loc[i]? with
    | none => simp [Rho.after, List.getElem?_mapIdx, e] at q
    | some o =>
      cases o with
      | none => simp [Rho.after, List.getElem?_mapIdx, e, upSl] at q
      | some sl =>
        cases sl with
        | dt d' =>
          simp [Rho.after, List.getElem?_mapIdx, e, upSl] at q
          subst q
          obtain ⟨v, p1, p2⟩ := R.dat i _ e
          exact ⟨v, p1, p2.mono s.sub⟩
        | bor k => simp [Rho.after, List.getElem?_mapIdx, e, upSl] at q
        | own c =>
          obtain ⟨a, p1, p2, p3⟩ := R.own (.loc i) c (by simp [Rho.cnt, e])
          cases e2 : findArg (.loc i) ws bs with
          | none => simp [Rho.after, List.getElem?_mapIdx, e, upSl, e2] at q
          | some b =>
            cases b with
            | own c' => simp [Rho.after, List.getElem?_mapIdx, e, upSl, e2] at q
            | dt d' =>
              simp [Rho.after, List.getElem?_mapIdx, e, upSl, e2] at q
              subst q
              refine ⟨.ref a, ?_, frozen p1 e2⟩
              simp only [adr] at p1
              cases e3 : σ[i]? with
              | none => rw [e3] at p1; cases p1
              | some w => cases w with
                | none => rw [e3] at p1; cases p1
                | some w => rw [e3] at p1; cases p1; rfl
  · obtain ⟨a, c0, _, p1, p2, p3⟩ := own' z c q
    exact ⟨a, p1, p2, p3⟩
  · intro i k q
    cases e : r.loc[i]? with
    | none => simp [Rho.after, List.getElem?_mapIdx, e] at q
    | some o =>
      cases o with
      | none => simp [Rho.after, List.getElem?_mapIdx, e, upSl] at q
      | some sl =>
        cases sl with
        | dt d' => simp [Rho.after, List.getElem?_mapIdx, e, upSl] at q
        | bor k' =>
          simp [Rho.after, List.getElem?_mapIdx, e, upSl] at q
          subst q
          exact R.lbo i _ e
        | own c =>
          cases e2 : findArg (.loc i) ws bs with
          | none => simp [Rho.after, List.getElem?_mapIdx, e, upSl, e2] at q
          | some b => cases b <;> simp [Rho.after, List.getElem?_mapIdx, e, upSl, e2] at q
  · intro k d q
    cases e : r.bor[k]? with
    | none => simp [Rho.after, List.getElem?_mapIdx, e] at q
    | some b0 =>
      cases b0 with
      | dt d' =>
        simp [Rho.after, List.getElem?_mapIdx, e, upBo] at q
        subst q
        obtain ⟨v, p1, p2⟩ := R.bod k _ e
        exact ⟨v, p1, p2.mono s.sub⟩
      | own c =>
        obtain ⟨a, p1, p2, p3⟩ := R.own (.bor k) c (by simp [Rho.cnt, e])
        cases e2 : findArg (.bor k) ws bs with
        | none => simp [Rho.after, List.getElem?_mapIdx, e, upBo, e2] at q
        | some b =>
          cases b with
          | own c' => simp [Rho.after, List.getElem?_mapIdx, e, upBo, e2] at q
          | dt d' =>
            simp [Rho.after, List.getElem?_mapIdx, e, upBo, e2] at q
            subst q
            exact ⟨.ref a, p1, frozen p1 e2⟩
  · intro z z' c c' a q q' p p'
    obtain ⟨c0, q0, _⟩ := after_own q
    obtain ⟨c1, q1, _⟩ := after_own q'
    exact R.sep z z' c0 c1 a q0 q1 p p'
  · obtain ⟨k1, k2⟩ := s0.keep a o e no
    have no1 : ¬ Own xs [] ⟨[], as⟩ a := fun q => by
      rcases callee a q with g | g
      · exact (s0.own a g).elim no fun z => by rw [e] at z; cases z
      · rw [e] at g; cases g
    obtain ⟨k3, k4⟩ := s.keep a o k1 no1
    exact ⟨k3, fun z => k4 (k2 z)⟩
  · simp [Rho.after, s0.bol]
  · intro k d q
    have := s0.bod k d q
    simp [Rho.after, List.getElem?_mapIdx, this, upBo]
  · intro k c a q hv
    rcases s0.boo k c a q hv with ⟨c1, e⟩ | ⟨d, o, e, e2⟩
    · cases e2 : findArg (.bor k) ws bs with
      | none => exact .inl ⟨c1, by simp [Rho.after, List.getElem?_mapIdx, e, upBo, e2]⟩
      | some b =>
        cases b with
        | own c' => exact .inl ⟨c', by simp [Rho.after, List.getElem?_mapIdx, e, upBo, e2]⟩
        | dt d' =>
          obtain ⟨k', e3, e4⟩ := findArg_some e2
          obtain ⟨b1, e5, e6⟩ := argsOf_get' ea e3
          have hc : r.cnt (.bor k) = some c1 := by simp [Rho.cnt, e]
          simp [argOf, hc] at e6
          subst e6
          obtain ⟨u, p1, p2⟩ := R'.bod k' d' e4
          have pu : adr vs σ (.bor k) = some u := h.get p1 e3
          have pu' : vs[k]? = some u := pu
          rw [hv] at pu'; cases pu'
          rcases s.boo k' c1 a e5 p1 with ⟨c2, m⟩ | ⟨d2, o2, m, m2⟩
          · have m' : bs[k']? = some (.own c2) := m
            rw [e4] at m'; cases m'
          · exact .inr ⟨d', o2, by simp [Rho.after, List.getElem?_mapIdx, e, upBo, e2], m2⟩
    · exact .inr ⟨d, o, by simp [Rho.after, List.getElem?_mapIdx, e, upBo], s.sub _ _ e2⟩
end
/-- f(e, ..), what is raised wished for at the caller's slots -/
def tCallG (Wx : WX) (sp : Sp) (t : TA) : TE := fun σ H Q => t σ H fun vs H1 => sp vs H1 Q (fun cl dd H' => Wx cl dd σ H')
section
variable {X : Cx} {Wx : WX} {k : Nat} {f : Addr} {fd : FuncData} {ps : List Str} {F : Fn} {x : Str} {p pos : Pos} {e : Expr} {es : List Expr} {t : TA}
theorem run_fnG {pins : List (Addr × Obj)} {σ : L2.St} {H : Hp} {s : Shared} {Q : VK} {args : Args} {us : List Value} {vs : List V} (G : FnG X.prog X.w X.K X.mg X.base k f fd ps F) (hr : Room k X.A) (hgu : X.A.guards = some []) (hb : BindsTo s fd args (ps.zip us)) (tk : Takes X Wx)
    (I : Inv X pins σ H s) (rv : Vals vs us) (h : spG X.K X.mg ps.length F vs H Q (fun cl dd H' => Wx cl dd σ H')) : codeAny (model X.prog X.w) X.A (.call (.ref f) args) (fun r s' => match r with
      | .ok (.ret u) => EP X pins σ Q u s'
      | .ok _ => False
      | .error e => X.xe e s') s := by
  refine codeAny_mono (G.run X.A X.stack s H args us vs Q _ hr hgu I.env0 hb rv h) fun res s2 hq => ?_
  cases res with
  | error u => exact tk u s2 (XE.of_call I (fun _ _ _ z => z) hq)
  | ok fl =>
    cases fl with
    | ret u => exact I.after hq
    | next => exact hq
    | brk => exact hq
    | cont => exact hq
theorem pe_callG (G : FnG X.prog X.w X.K X.mg X.base k f fd ps F) (hr : Room k X.A) (hgu : X.A.guards = some []) (hg : Gl X x) (hm : X.mg x = some (.ref f)) (hk : PySem.W.keepIn X.K (.ref f) = true) (hb : Binds X.K fd ps []) (tk : Takes X Wx)
    (ha : PA X (e :: es) t) (hdb : (x == ("__debug__" : Str)) = false) (he : starEach (e :: es) X.env = (false, eval e X.env) :: starEach es X.env) (hpl : (backTo pos (starEach es X.env)).any (·.1) = false) :
    PE X (.Call (.Name x p) (e :: es) [] pos) (tCallG Wx (spG X.K X.mg ps.length F) t) := by
  refine ⟨fun pins s σ H Q I h => wpAny_Call_Name_kw (ld_glob I hg hm ?_ hdb)⟩
  refine PySem.W.callWith_K (h₀ := X.base) I.ok.mod.kin hk (thn (ha.run pos pins s σ H _ I h) fun us s1 ⟨vs, H1, I1, rv, q⟩ => ⟨I1.kIn, ?_⟩) he hpl
  have hl : (us ++ []).length = ps.length := by rw [List.append_nil, ← rv.length]; exact q.1
  have hb' := hb s1 us I1.kIn hl
  rw [List.append_nil] at hb'
  exact wpAny_call (codeAny_mono (run_fnG G hr hgu hb' tk I1 rv q) fun res s2 hq => by
    cases res with
    | error u => exact hq
    | ok fl => cases fl <;> exact hq)
theorem pe_callG0 (G : FnG X.prog X.w X.K X.mg X.base k f fd ps F) (hr : Room k X.A) (hgu : X.A.guards = some []) (hg : Gl X x) (hm : X.mg x = some (.ref f)) (hk : PySem.W.keepIn X.K (.ref f) = true) (hb : Binds X.K fd ps []) (tk : Takes X Wx)
    (hdb : (x == ("__debug__" : Str)) = false) : PE X (.Call (.Name x p) [] [] pos) (tCallG Wx (spG X.K X.mg ps.length F) tNil) := by
  refine ⟨fun pins s σ H Q I h => wpAny_Call_Name_kw (ld_glob I hg hm ?_ hdb)⟩
  have hb' := hb s [] I.kIn (by have z := h.1; simp only [List.length_nil] at z; simpa using z)
  exact PySem.W.callWith_K0 I.kIn hk (wpAny_call (codeAny_mono (run_fnG G hr hgu hb' tk I .nil h) fun res s2 hq => by
    cases res with
    | error u => exact hq
    | ok fl => cases fl <;> exact hq))
/-- the reading of a call -/
theorem Post.call {vs : List V} {B H : Hp} {σ : L2.St} {r : Rho} {fa : M (List W)} {Q : VK} (R : Rl X.K vs B σ H r) (qa : ∀ vs B σ H r Q, Rl X.K vs B σ H r → Post X vs Wx B H σ r (fa r) (fA X vs σ H) Q → t σ H Q)
    (hn : ∀ ws r r', fa r = .ok ws r' → ws.length = ps.length) (h : Post X vs Wx B H σ r (cCall F fa r) (fW X vs σ H) Q) : tCallG Wx (spG X.K X.mg ps.length F) t σ H Q := by
  cases efa : fa r with
  | fail => unfold cCall M.bind at h; rw [efa] at h; exact h.elim
  | exc y r1 =>
    unfold cCall M.bind at h; rw [efa] at h
    exact qa vs B σ H r _ R (by rw [efa]; exact h)
  | ok ws r1 =>
    unfold cCall M.bind at h; rw [efa] at h
    refine qa vs B σ H r _ R ?_
    rw [efa]
    intro xs B1 H1 s1 R1 q1
    have hw := hn _ _ _ efa
    have hxl : xs.length = ps.length := (RpWs.length q1).trans hw
    cases ea : argsOf r1 ws with
    | none => simp only [ea] at h; exact h.elim
    | some as =>
      simp only [ea] at h
      by_cases hap : apart r1 ws = true
      · rw [if_pos hap] at h
        refine ⟨hxl, B1, as, (argsOf_get ea).1.trans hw, call_in R1 q1 ea hap, ?_⟩
        cases eF : F as with
        | fail => simp only [eF] at h; exact h.elim
        | exc y bs =>
          simp only [eF] at h
          intro cl dd B2 H2 s2 R2 q2
          obtain ⟨R3, s3⟩ := call_out R1 s1 q1 ea s2 R2
          exact h cl dd B2 H2 s3 R3 q2
        | ok b bs =>
          simp only [eF] at h
          intro v B2 H2 s2 R2 q2
          obtain ⟨R3, s3⟩ := call_out R1 s1 q1 ea s2 R2
          refine h v B2 H2 s3 R3 ?_
          cases b with
          | dt d => exact q2
          | own c =>
            obtain ⟨a, rfl, g1, g2, g3, g4⟩ := q2
            refine ⟨a, rfl, s1.dom _ g1, g2, g3, fun ⟨z, c', m1, m2⟩ => ?_⟩
            obtain ⟨c0, m0, _⟩ := after_own m1
            obtain ⟨a', n1, _, n3⟩ := R1.own z c0 m0
            rw [m2] at n1; cases n1
            obtain ⟨o, ho⟩ := n3.some
            rw [g1] at ho; cases ho
      · rw [if_neg hap] at h
        exact h.elim
end
end Lc

set_option Elab.async false
set_option maxRecDepth 100000
set_option maxHeartbeats 4000000
/-! Part J: operations on data. -/
namespace Lc
open PySem L2 PySem.Spec PyProof.Rows
def bD (b : Bool) : Option Bo := some (.dt (.bl b))
def iD (i : Int) : Option Bo := some (.dt (.int i))
def sD (x : Str) : Option Bo := some (.dt (.str x))
section
variable {X : Cx} {B H : Hp} {v : V}
theorem rv_int {i : Int} (h : RpV X.K B H v (.int i)) : v = .int i := by cases h; rfl
theorem rv_str {i : Str} (h : RpV X.K B H v (.str i)) : v = .str i := by cases h; rfl
theorem rv_bl {i : Bool} (h : RpV X.K B H v (.bl i)) : v = .bl i := by cases h; rfl
theorem rv_non (h : RpV X.K B H v .non) : v = .non := by cases h; rfl
theorem rv_ty {n : String} (h : RpV X.K B H v (.ty n)) : v = .ty n := by cases h; rfl
theorem rv_tup {ds : List D} (h : RpV X.K B H v (.tup ds)) : ∃ a xs, v = .ref a ∧ TpA X.K B a xs ∧ RpAll X.K B xs ds := by
  cases h with
  | tup h1 h2 => exact ⟨_, _, rfl, h1, h2⟩
theorem rv_scr {ds : List Int} (h : RpV X.K B H v (.scr ds)) : ∃ a, v = .ref a ∧ SqL X.K B a (ds.map V.int) := by
  cases h with
  | scr h1 => exact ⟨_, rfl, h1⟩
/-- an operation on two ints -/
theorem ops_int {f : Value → Value → Sem Value} {C : Int → Int → Prop} {g : Int → Int → V} {G : Int → Int → D} {gg : D → D → Option Bo} (h : OpR X f (rI C g))
    (hg : ∀ da db b, gg da db = some b → ∃ i j, da = .int i ∧ db = .int j ∧ C i j ∧ b = .dt (G i j)) (hG : ∀ i j B, Rp X.K B (g i j) (G i j)) : OpS X f gg := by
  refine ⟨_, h, fun x y da db b e B H Q s vx vy k => ?_⟩
  obtain ⟨i, j, rfl, rfl, c, rfl⟩ := hg da db b e
  exact ⟨i, j, rv_int vx, rv_int vy, c, k _ B H .refl s (hG i j B)⟩
theorem ops_int0 {f : Value → Value → Sem Value} {g : Int → Int → V} {G : Int → Int → D} {gg : D → D → Option Bo} (h : OpR X f (rI0 g))
    (hg : ∀ da db b, gg da db = some b → ∃ i j, da = .int i ∧ db = .int j ∧ b = .dt (G i j)) (hG : ∀ i j B, Rp X.K B (g i j) (G i j)) : OpS X f gg := by
  refine ⟨_, h, fun x y da db b e B H Q s vx vy k => ?_⟩
  obtain ⟨i, j, rfl, rfl, rfl⟩ := hg da db b e
  exact ⟨i, j, rv_int vx, rv_int vy, k _ B H .refl s (hG i j B)⟩

/-! ### arithmetic -/
def gAdd : D → D → Option Bo
  | .int i, .int j => iD (i + j)
  | .str x, .str y => if x.length + y.length ≤ sizeLine then sD (x ++ y) else none
  | .lst xs, .lst ys => if xs.length + ys.length ≤ sizeLine then some (.own (.lst (xs ++ ys))) else none
  | _, _ => none
theorem ops_add : OpS X (binaryOp .Add) gAdd := by
  refine ⟨_, op_add.or (op_add_str.or op_cat), fun x y da db b e B H Q s vx vy k => ?_⟩
  unfold gAdd at e
  split at e
  · cases e
    exact .inl ⟨_, _, rv_int vx, rv_int vy, k _ B H .refl s (Rp.int _)⟩
  · split at e
    · cases e
      exact .inr (.inl ⟨_, _, rv_str vx, rv_str vy, by assumption, k _ B H .refl s (Rp.str _)⟩)
    · cases e
  · split at e
    · cases e
      obtain ⟨l, xs, rfl, h1, h2⟩ := vx
      obtain ⟨l2, ys, rfl, h3, h4⟩ := vy
      refine .inr (.inr ⟨l, l2, xs, ys, rfl, rfl, h1, h3, by rw [h2.length, h4.length]; assumption, fun p np => ?_⟩)
      exact k _ B _ (.plain np) (s.trans (same_upd np)) ⟨p, rfl, np, none_of_sub s np, ⟨_, upd_same, h2.append h4⟩⟩
    · cases e
  · cases e
def gSub : D → D → Option Bo
  | .int i, .int j => iD (i - j)
  | _, _ => none
theorem ops_sub : OpS X (binaryOp .Sub) gSub := ops_int0 (G := fun i j => .int (i - j)) op_sub (fun da db b e => by unfold gSub at e; split at e; cases e; exact ⟨_, _, rfl, rfl, rfl⟩; cases e) fun _ _ _ => .int _
def gMul : D → D → Option Bo
  | .int i, .int j => if (-(2 ^ 64) < i ∧ i < 2 ^ 64) ∨ (-(2 ^ 64) < j ∧ j < 2 ^ 64) then iD (i * j) else none
  | _, _ => none
theorem ops_mul : OpS X (binaryOp .Mult) gMul := ops_int (G := fun i j => .int (i * j)) op_mul (fun da db b e => by
  unfold gMul at e
  split at e
  · split at e
    · cases e; exact ⟨_, _, rfl, rfl, by assumption, rfl⟩
    · cases e
  · cases e) fun _ _ _ => .int _
def gMod : D → D → Option Bo
  | .int i, .int j => if 0 < j then iD (i % j) else none
  | _, _ => none
theorem ops_mod : OpS X (binaryOp .Mod) gMod := ops_int (G := fun i j => .int (i % j)) op_mod (fun da db b e => by
  unfold gMod at e
  split at e
  · split at e
    · cases e; exact ⟨_, _, rfl, rfl, by assumption, rfl⟩
    · cases e
  · cases e) fun _ _ _ => .int _
def gFdiv : D → D → Option Bo
  | .int i, .int j => if 0 < j ∧ j < 1073741824 then iD (i / j) else none
  | _, _ => none
theorem ops_fdiv : OpS X (binaryOp .FloorDiv) gFdiv := ops_int (G := fun i j => .int (i / j)) op_fdiv (fun da db b e => by
  unfold gFdiv at e
  split at e
  · split at e
    · cases e; exact ⟨_, _, rfl, rfl, by assumption, rfl⟩
    · cases e
  · cases e) fun _ _ _ => .int _
def gPow : D → D → Option Bo
  | .int i, .int j => if 0 ≤ j ∧ j ≤ 1000000 ∧ i.natAbs < 2 ^ 64 then iD (i ^ j.toNat) else none
  | _, _ => none
theorem ops_pow : OpS X (binaryOp .Pow) gPow := ops_int (G := fun i j => .int (i ^ j.toNat)) op_pow (fun da db b e => by
  unfold gPow at e
  split at e
  · split at e
    · cases e; exact ⟨_, _, rfl, rfl, by assumption, rfl⟩
    · cases e
  · cases e) fun _ _ _ => .int _
def gNeg : D → Option Bo
  | .int i => iD (-i)
  | _ => none
theorem uns_neg : UnS X (unaryOp .USub) gNeg := by
  refine ⟨_, un_neg, fun x da b e B H Q s vx k => ?_⟩
  unfold gNeg at e
  split at e
  · cases e
    exact ⟨_, rv_int vx, k _ B H .refl s (Rp.int _)⟩
  · cases e

/-! ### comparisons -/
def gLt : D → D → Option Bo
  | .int i, .int j => bD (decide (i < j))
  | _, _ => none
def gLe : D → D → Option Bo
  | .int i, .int j => bD (decide (i ≤ j))
  | _, _ => none
def gGt : D → D → Option Bo
  | .int i, .int j => bD (decide (j < i))
  | _, _ => none
def gGe : D → D → Option Bo
  | .int i, .int j => bD (decide (j ≤ i))
  | _, _ => none
theorem ops_lt : OpS X (compareOp .Lt) gLt := ops_int0 (G := fun i j => .bl (decide (i < j))) op_lt (fun da db b e => by unfold gLt at e; split at e; cases e; exact ⟨_, _, rfl, rfl, rfl⟩; cases e) fun _ _ _ => .bl _
theorem ops_le : OpS X (compareOp .LtE) gLe := ops_int0 (G := fun i j => .bl (decide (i ≤ j))) op_le (fun da db b e => by unfold gLe at e; split at e; cases e; exact ⟨_, _, rfl, rfl, rfl⟩; cases e) fun _ _ _ => .bl _
theorem ops_gt : OpS X (compareOp .Gt) gGt := ops_int0 (G := fun i j => .bl (decide (j < i))) op_gt (fun da db b e => by unfold gGt at e; split at e; cases e; exact ⟨_, _, rfl, rfl, rfl⟩; cases e) fun _ _ _ => .bl _
theorem ops_ge : OpS X (compareOp .GtE) gGe := ops_int0 (G := fun i j => .bl (decide (j ≤ i))) op_ge (fun da db b e => by unfold gGe at e; split at e; cases e; exact ⟨_, _, rfl, rfl, rfl⟩; cases e) fun _ _ _ => .bl _
def gIn : D → D → Option Bo
  | .str x, .str z => match x.cps.toList with
    | [c] => bD (decide (c ∈ z.cps.toList))
    | _ => none
  | _, _ => none
def gNotIn : D → D → Option Bo
  | .str x, .str z => match x.cps.toList with
    | [c] => bD (!decide (c ∈ z.cps.toList))
    | _ => none
  | _, _ => none
theorem one_sign {x : Str} {c : Nat} (h : x.cps.toList = [c]) : x = ⟨#[c]⟩ := by
  obtain ⟨⟨l⟩⟩ := x
  simp at h
  rw [h]
theorem ops_in : OpS X (compareOp .In) gIn := by
  refine ⟨_, op_in_sign, fun x y da db b e B H Q s vx vy k => ?_⟩
  unfold gIn at e
  split at e
  · split at e
    · rename_i hc
      cases e
      exact ⟨_, _, by rw [rv_str vx, one_sign hc], rv_str vy, k _ B H .refl s (Rp.bl _)⟩
    · cases e
  · cases e
theorem ops_notIn : OpS X (compareOp .NotIn) gNotIn := by
  refine ⟨_, op_notIn_sign, fun x y da db b e B H Q s vx vy k => ?_⟩
  unfold gNotIn at e
  split at e
  · split at e
    · rename_i hc
      cases e
      exact ⟨_, _, by rw [rv_str vx, one_sign hc], rv_str vy, k _ B H .refl s (Rp.bl _)⟩
    · cases e
  · cases e
def isNon : D → Bool
  | .non => true
  | _ => false
def gIs : D → D → Option Bo
  | d, .non => bD (isNon d)
  | _, _ => none
def gIsNot : D → D → Option Bo
  | d, .non => bD (!isNon d)
  | _, _ => none
theorem rv_isNon {d : D} (h : RpV X.K B H v d) : decide (v = .non) = isNon d := by
  cases d with
  | non => rw [rv_non h]; rfl
  | bl b => rw [rv_bl h]; rfl
  | int i => rw [rv_int h]; rfl
  | str x => rw [rv_str h]; rfl
  | ty n => rw [rv_ty h]; rfl
  | lst l => obtain ⟨a, _, rfl, _⟩ := h; rfl
  | dct l => obtain ⟨a, _, rfl, _⟩ := h; rfl
  | tup l => obtain ⟨a, _, rfl, _⟩ := rv_tup h; rfl
  | scr l => obtain ⟨a, rfl, _⟩ := rv_scr h; rfl
  | cls l => cases h; rfl
  | exc a l m => cases h; rfl
  | obj l m => cases h; rfl
theorem ops_is : OpS X (compareOp .Is) gIs := by
  refine ⟨_, op_isN, fun x y da db b e B H Q s vx vy k => ?_⟩
  unfold gIs at e
  split at e
  · cases e
    refine ⟨rv_non vy, ?_⟩
    rw [rv_isNon vx]
    exact k _ B H .refl s (Rp.bl _)
  · cases e
theorem ops_isNot : OpS X (compareOp .IsNot) gIsNot := by
  refine ⟨_, op_notN, fun x y da db b e B H Q s vx vy k => ?_⟩
  unfold gIsNot at e
  split at e
  · cases e
    refine ⟨rv_non vy, ?_⟩
    rw [rv_isNon vx]
    exact k _ B H .refl s (Rp.bl _)
  · cases e
end

/-! ### data as the library's own -/
mutual
def D.py : D → PyData
  | .non => .none
  | .bl b => .bool b
  | .int i => .int i
  | .str x => .str x
  | .lst l => .list (D.pys l)
  | .tup l => .tuple (D.pys l)
  | .dct l => .dict (D.pyk l)
  | .ty _ => .none
  | .scr l => .list (l.map PyData.int)
  | .cls _ => .none
  | .exc _ _ _ => .none
  | .obj _ _ => .none
def D.pys : List D → List PyData
  | [] => []
  | d :: ds => d.py :: D.pys ds
def D.pyk : List (D × D) → List (PyData × PyData)
  | [] => []
  | (k, v) :: r => (k.py, v.py) :: D.pyk r
end
mutual
/-- lists and tuples of flat things, at any depth -/
def D.flat : D → Bool
  | .lst l => D.flats l
  | .tup l => D.flats l
  | .dct _ => false
  | .ty _ => false
  | .scr _ => false
  | .cls _ => false
  | .exc _ _ _ => false
  | .obj _ _ => false
  | _ => true
def D.flats : List D → Bool
  | [] => true
  | d :: ds => d.flat && D.flats ds
end
mutual
theorem Rp.dp {K : PySem.W.Frag} {B : Hp} : ∀ {v : V} {d : D}, Rp K B v d → d.flat = true → Dp K B v d.py
  | _, _, .non, _ => by rw [D.py]; exact .non
  | _, _, .bl b, _ => by rw [D.py]; exact .bl b
  | _, _, .int i, _ => by rw [D.py]; exact .int i
  | _, _, .str x, _ => by rw [D.py]; exact .str x
  | _, _, .ty n, h => by simp [D.flat] at h
  | _, _, .scr _, h => by simp [D.flat] at h
  | _, _, .cls _, h => by simp [D.flat] at h
  | _, _, .exc _ _, h => by simp [D.flat] at h
  | _, _, .obj _ _ _ _, h => by simp [D.flat] at h
  | _, _, .dct _ _, h => by simp [D.flat] at h
  | _, _, .lst h r, q => by rw [D.py]; exact .lst (.of h) (RpAll.dp r (by simpa [D.flat] using q))
  | _, _, .tup h r, q => by rw [D.py]; exact .tup (seqT_mono (Same.refl _) h) (RpAll.dp r (by simpa [D.flat] using q))
theorem RpAll.dp {K : PySem.W.Frag} {B : Hp} : ∀ {vs : List V} {ds : List D}, RpAll K B vs ds → D.flats ds = true → DpAll K B vs (D.pys ds)
  | _, _, .nil, _ => by rw [D.pys]; exact .nil
  | _, _, .cons h r, q => by
    simp only [D.flats, Bool.and_eq_true] at q
    rw [D.pys]
    exact .cons (h.dp q.1) (RpAll.dp r q.2)
end
/-- what the library's deep comparison takes -/
def D.deepOk (a : D) : Bool := a.flat && SeqAt.shaped a.py
def D.eq : D → D → Option Bool
  | .str x, .str y => some (x == y)
  | .int i, .int j => some (i == j)
  | a, b => if a.deepOk = true ∧ b.deepOk = true then some (a.py.eqv b.py) else none
def gEq (a b : D) : Option Bo := (a.eq b).bind bD
def gNe (a b : D) : Option Bo := (a.eq b).bind fun k => bD (!k)
section
variable {X : Cx} {B H : Hp} {v : V}
theorem eq_rule {x y : V} {da db : D} {k : Bool} (e : da.eq db = some k) (s : Same B H) (vx : RpV X.K B H x da) (vy : RpV X.K B H y db) :
    (scal x y = true ∧ decide (x = y) = k) ∨ ∃ d e, Dp X.K H x d ∧ Dp X.K H y e ∧ SeqAt.shaped d = true ∧ SeqAt.shaped e = true ∧ PyData.eqv d e = k := by
  unfold D.eq at e
  split at e
  · cases e
    rw [rv_str vx, rv_str vy]
    exact .inl ⟨rfl, dec_str⟩
  · cases e
    rw [rv_int vx, rv_int vy]
    exact .inl ⟨rfl, dec_int⟩
  · split at e
    · rename_i h
      cases e
      simp only [D.deepOk, Bool.and_eq_true] at h
      exact .inr ⟨_, _, (vx.whole s).dp h.1.1, (vy.whole s).dp h.2.1, h.1.2, h.2.2, rfl⟩
    · cases e
theorem ops_eq (hu : X.A.units + 64 < cLine) : OpS X (compareOp .Eq) gEq := by
  refine ⟨_, op_eq.or (op_eqD hu), fun x y da db b e B H Q s vx vy k => ?_⟩
  unfold gEq at e
  cases q : da.eq db with
  | none => rw [q] at e; cases e
  | some c =>
    rw [q] at e; cases e
    rcases eq_rule q s vx vy with ⟨h1, h2⟩ | ⟨d, e, h1, h2, h3, h4, h5⟩
    · exact .inl ⟨h1, by rw [h2]; exact k _ B H .refl s (Rp.bl _)⟩
    · exact .inr ⟨d, e, h1, h2, h3, h4, by rw [h5]; exact k _ B H .refl s (Rp.bl _)⟩
theorem ops_ne (hu : X.A.units + 64 < cLine) : OpS X (compareOp .NotEq) gNe := by
  refine ⟨_, op_ne.or (op_neD hu), fun x y da db b e B H Q s vx vy k => ?_⟩
  unfold gNe at e
  cases q : da.eq db with
  | none => rw [q] at e; cases e
  | some c =>
    rw [q] at e; cases e
    rcases eq_rule q s vx vy with ⟨h1, h2⟩ | ⟨d, e, h1, h2, h3, h4, h5⟩
    · exact .inl ⟨h1, by rw [h2]; exact k _ B H .refl s (Rp.bl _)⟩
    · exact .inr ⟨d, e, h1, h2, h3, h4, by rw [h5]; exact k _ B H .refl s (Rp.bl _)⟩

/-! ### subscripts and slices -/
def gIx1 : D → D → Option Bo
  | .lst l, .int i => (atI l i).map .dt
  | .tup l, .int i => (atI l i).map .dt
  | .str x, .int i => if x.length ≤ sizeLine then (atI x.cps.toList i).map fun c => .dt (.str ⟨#[c]⟩) else none
  | .scr l, .int i => (atI l i).map fun n => .dt (.int n)
  | _, _ => none
theorem atI_all {K : PySem.W.Frag} {xs : List V} {ds : List D} {i : Int} {d : D} (h : RpAll K B xs ds) (e : atI ds i = some d) : ∃ v, atI xs i = some v ∧ Rp K B v d := by
  unfold atI at e ⊢
  rw [h.length]
  cases q : ixN ds.length i with
  | none => rw [q] at e; cases e
  | some j =>
    rw [q] at e
    exact h.get e
theorem ix_rule : ∀ (x y : V) (da db : D) (b : Bo), gIx1 da db = some b → ∀ (B H : Hp) (Q : VK), Same B H → RpV X.K B H x da → RpV X.K B H y db → (∀ v B' H', Ext B H B' H' → Same B' H' → RpB X.K H B' H' v b → Q v H') → rIx X.K x y H Q := by
  intro x y da db b e B H Q s vx vy k
  unfold gIx1 at e
  split at e
  · rename_i l i
    cases q : atI l i with
    | none => rw [q] at e; cases e
    | some d =>
      rw [q] at e; cases e
      obtain ⟨a, xs, rfl, h1, h2⟩ := vx
      obtain ⟨v, p1, p2⟩ := atI_all h2 q
      exact .inl ⟨a, xs, i, v, rfl, rv_int vy, .of h1, p1, k v B H .refl s p2⟩
  · rename_i l i
    cases q : atI l i with
    | none => rw [q] at e; cases e
    | some d =>
      rw [q] at e; cases e
      obtain ⟨a, xs, rfl, h1, h2⟩ := rv_tup vx
      obtain ⟨v, p1, p2⟩ := atI_all h2 q
      exact .inr (.inl ⟨a, xs, i, v, rfl, rv_int vy, seqT_mono s h1, p1, k v B H .refl s p2⟩)
  · rename_i z i
    split at e
    · rename_i hz
      cases q : atI z.cps.toList i with
      | none => rw [q] at e; cases e
      | some c =>
        rw [q] at e; cases e
        exact .inr (.inr ⟨z, i, c, rv_str vx, rv_int vy, hz, q, k _ B H .refl s (Rp.str _)⟩)
    · cases e
  · rename_i l i
    cases q : atI l i with
    | none => rw [q] at e; cases e
    | some n =>
      rw [q] at e; cases e
      obtain ⟨a, rfl, h1⟩ := rv_scr vx
      have q' : atI (l.map V.int) i = some (.int n) := by
        unfold atI at q ⊢
        rw [List.length_map]
        cases q2 : ixN l.length i with
        | none => rw [q2] at q; cases q
        | some j =>
          rw [q2] at q
          have q3 : l[j]? = some n := q
          show (l.map V.int)[j]? = _
          rw [List.getElem?_map, q3]
          rfl
      exact .inl ⟨a, _, i, _, rfl, rv_int vy, s.seq h1, q', k _ B H .refl s (Rp.int _)⟩
  · cases e
def cutD (l : List D) (lo hi : Option Int) : List D := (l.drop (HT.sIx l.length 0 lo)).take (HT.sIx l.length l.length hi - HT.sIx l.length 0 lo)
def gSl : D → Option Int → Option Int → Option Bo
  | .str x, lo, hi => if x.length ≤ sizeLine then sD (cutS x lo hi) else none
  | .lst l, lo, hi => some (.own (.lst (cutD l lo hi)))
  | _, _, _ => none
theorem sls : SlS X gSl := by
  refine ⟨_, sl_str.or sl_list, fun x d lo hi b e B H Q s vx k => ?_⟩
  unfold gSl at e
  split at e
  · split at e
    · cases e
      exact .inl ⟨_, rv_str vx, by assumption, k _ B H .refl s (Rp.str _)⟩
    · cases e
  · cases e
    obtain ⟨a, xs, rfl, h1, h2⟩ := vx
    refine .inr ⟨a, xs, rfl, .of h1, fun p np => ?_⟩
    refine k _ B _ (.plain np) (s.trans (same_upd np)) ⟨p, rfl, np, none_of_sub s np, ⟨_, upd_same, ?_⟩⟩
    unfold cutV cutD
    rw [h2.length]
    exact (h2.drop _).take _
  · cases e
end
end Lc

set_option Elab.async false
set_option maxRecDepth 100000
set_option maxHeartbeats 4000000
/-! Part K: built-in calls on data. -/
namespace Lc
open PySem L2 PySem.Spec PyProof.Rows
section
variable {X : Cx} {B H : Hp} {v : V}
theorem rvs_one {xs : List V} {d : D} (h : RpVs X.K B H xs [d]) : ∃ x, xs = [x] ∧ RpV X.K B H x d := by
  cases h with
  | cons a b => cases b; exact ⟨_, rfl, a⟩
theorem rvs_two {xs : List V} {d e : D} (h : RpVs X.K B H xs [d, e]) : ∃ x y, xs = [x, y] ∧ RpV X.K B H x d ∧ RpV X.K B H y e := by
  cases h with
  | cons a b =>
    cases b with
    | cons c d => cases d; exact ⟨_, _, rfl, a, c⟩

/-! ### isinstance -/
def tyD : D → Option String
  | .non => some "NoneType"
  | .bl _ => some "bool"
  | .int _ => some "int"
  | .str _ => some "str"
  | .lst _ => some "list"
  | .tup _ => some "tuple"
  | .dct _ => some "dict"
  | .scr _ => some "list"
  | .ty _ => none
  | .cls _ => none
  | .exc _ _ _ => none
  | .obj _ _ => none
theorem ty_of {K : PySem.W.Frag} {d : D} {t : String} (h : RpV K B H v d) (s : Same B H) (e : tyD d = some t) : TyX K H v (.type t) := by
  cases d with
  | non => cases h; cases e; exact .base .non
  | bl b => cases h; cases e; exact .base (.bl _)
  | int i => cases h; cases e; exact .base (.int _)
  | str x => cases h; cases e; exact .base (.str _)
  | lst l => obtain ⟨a, xs, rfl, h1, _⟩ := h; cases e; exact .base (.lst h1)
  | dct l => obtain ⟨a, xs, rfl, h1, _⟩ := h; cases e; exact .base (.dK h1)
  | ty n => cases e
  | cls n => cases e
  | exc a n m => cases e
  | obj n m => cases e
  | tup l =>
    cases e
    cases h with
    | tup h1 h2 =>
      rcases h1 with h1 | ⟨o, its, n, k1, k2, _⟩
      · exact .base (.tup (s _ _ h1))
      · exact .kTuple k1 k2
  | scr l =>
    cases e
    cases h with
    | scr h1 =>
      rcases h1 with (h1 | ⟨o, h1⟩) | ⟨o, its, n, k1, k2, _⟩
      · exact .base (.lst (s _ _ h1))
      · exact .base (.frz (s _ _ h1))
      · exact .kList k1 k2
def tysOf : List D → Option (List String)
  | [] => some []
  | .ty n :: cs => (tysOf cs).map (n :: ·)
  | _ => none
def isiAny (t : String) : List String → Option Bool
  | [] => some false
  | n :: cs => match kitB t n with
    | some true => some true
    | some false => isiAny t cs
    | none => none
def gIsi : List D → Option Bo
  | [d, .ty n] => match tyD d with
    | some t => (kitB t n).bind bD
    | none => none
  | [d, .tup cs] => match tyD d, tysOf cs with
    | some t, some ns => (isiAny t ns).bind bD
    | _, _ => none
  | _ => none
theorem tysOf_ok {K : PySem.W.Frag} : ∀ {cs : List D} {xs : List V} {ns : List String}, RpAll K B xs cs → tysOf cs = some ns → xs = ns.map V.ty
  | [], xs, ns, h, e => by cases h; cases e; rfl
  | c :: cs, xs, ns, h, e => by
    cases h with
    | cons h1 h2 =>
      cases c with
      | ty n =>
        cases h1
        simp only [tysOf] at e
        cases q : tysOf cs with
        | none => rw [q] at e; cases e
        | some ms => rw [q] at e; cases e; rw [tysOf_ok h2 q]; rfl
      | _ => simp [tysOf] at e
theorem cls_tys : ∀ ns : List String, Paired ClsV (ns.map V.ty) (ns.map Value.type)
  | [] => .nil
  | n :: ns => .cons (.ty n) (cls_tys ns)
theorem isiAny_ok {K : PySem.W.Frag} {t : String} : ∀ {ns : List String} {b : Bool}, isiAny t ns = some b → PySem.W.kitAny K (.type t) (ns.map Value.type) = some b
  | [], b, e => by cases e; exact kitAny_nil
  | n :: ns, b, e => by
    unfold isiAny at e
    cases q : kitB t n with
    | none => simp only [q] at e; cases e
    | some k =>
      cases k with
      | true => simp only [q] at e; cases e; exact kitAny_cons (kit_ty q) (fun z => by cases z) (fun _ => rfl)
      | false => simp only [q] at e; exact kitAny_cons (kit_ty q) (fun _ => isiAny_ok e) (fun z => by cases z)
def rIsiA (K : PySem.W.Frag) : List V → Hp → VK → Prop := fun xs H Q => rIsi K xs H Q ∨ rIsiT K xs H Q ∨ rIsiK K xs H Q
theorem call_isiA : CallR X (.builtin "isinstance") (rIsiA X.K) := call_isi.or (call_isiT.or call_isiK)
theorem vals_tys : ∀ {ns : List String} {us : List Value}, Vals (ns.map V.ty) us → us = ns.map Value.type
  | [], _, h => by cases h; rfl
  | n :: ns, _, h => by
    cases h with
    | cons a b =>
      have e : _ = Value.type n := a
      rw [e, vals_tys b]
      rfl
theorem cs_isi : CallS X (rIsiA X.K) gIsi := by
  intro xs ds b e B H Q s vs k
  unfold gIsi at e
  split at e
  · rename_i d n
    split at e
    · rename_i t ht
      cases q : kitB t n with
      | none => rw [q] at e; cases e
      | some c =>
        rw [q] at e; cases e
        obtain ⟨x, y, rfl, hx, hy⟩ := rvs_two vs
        rw [rv_ty hy]
        exact .inl ⟨x, _, _, _, c, rfl, .ty n, ty_of hx s ht, kit_ty q, k _ B H .refl s (Rp.bl _)⟩
    · cases e
  · rename_i d cs
    split at e
    · rename_i t ns ht hn
      cases q : isiAny t ns with
      | none => rw [q] at e; cases e
      | some c =>
        rw [q] at e; cases e
        obtain ⟨x, y, rfl, hx, hy⟩ := rvs_two vs
        obtain ⟨a, ys, rfl, h1, h2⟩ := rv_tup hy
        have e2 := tysOf_ok h2 hn
        subst e2
        rcases h1 with h1 | ⟨o, its, n, k1, k2, k3, k4, k5⟩
        · exact .inr (.inl ⟨x, a, _, _, _, c, rfl, s _ _ h1, cls_tys ns, ty_of hx s ht, isiAny_ok q, k _ B H .refl s (Rp.bl _)⟩)
        · obtain ⟨oc, od, dt, sl⟩ := o
          simp only at k2 k3
          subst k2 k3
          have e3 := vals_tys k5
          refine .inr (.inr ⟨x, a, od, ns.map Value.type, n, sl, _, c, rfl, ?_, ty_of hx s ht, isiAny_ok q, k _ B H .refl s (Rp.bl _)⟩)
          rw [k1, ← e3]
    · cases e
  · cases e

/-! ### len, abs, max, min, all, any, divmod, list(text) -/
def gLen : List D → Option Bo
  | [.str x] => if x.length ≤ sizeLine then iD x.length else none
  | [.lst l] => iD l.length
  | [.tup l] => iD l.length
  | [.scr l] => iD l.length
  | _ => none
theorem cs_len : CallS X (fun xs H Q => ∃ x n, xs = [x] ∧ LenV X.K x H n ∧ Q (.int n) H) gLen := by
  intro xs ds b e B H Q s vs k
  unfold gLen at e
  split at e
  · split at e
    · cases e
      obtain ⟨x, rfl, hx⟩ := rvs_one vs
      rw [rv_str hx]
      exact ⟨_, _, rfl, ⟨by assumption, rfl⟩, k _ B H .refl s (Rp.int _)⟩
    · cases e
  · cases e
    obtain ⟨x, rfl, a, xs, rfl, h1, h2⟩ := rvs_one vs
    exact ⟨_, _, rfl, .inl ⟨xs, .of h1, rfl⟩, by rw [h2.length]; exact k _ B H .refl s (Rp.int _)⟩
  · cases e
    obtain ⟨x, rfl, hx⟩ := rvs_one vs
    obtain ⟨a, xs, rfl, h1, h2⟩ := rv_tup hx
    exact ⟨_, _, rfl, .inr ⟨xs, seqT_mono s h1, rfl⟩, by rw [h2.length]; exact k _ B H .refl s (Rp.int _)⟩
  · cases e
    obtain ⟨x, rfl, hx⟩ := rvs_one vs
    obtain ⟨a, rfl, h1⟩ := rv_scr hx
    exact ⟨_, _, rfl, .inl ⟨_, s.seq h1, rfl⟩, by rw [List.length_map]; exact k _ B H .refl s (Rp.int _)⟩
  · cases e
def gAbs : List D → Option Bo
  | [.int i] => iD (if i < 0 then -i else i)
  | _ => none
theorem cs_abs : CallS X (fun xs H Q => ∃ i, xs = [.int i] ∧ Q (.int (if i < 0 then -i else i)) H) gAbs := by
  intro xs ds b e B H Q s vs k
  unfold gAbs at e
  split at e
  · cases e
    obtain ⟨x, rfl, hx⟩ := rvs_one vs
    exact ⟨_, by rw [rv_int hx], k _ B H .refl s (Rp.int _)⟩
  · cases e
def gMax : List D → Option Bo
  | [.int i, .int j] => iD (if j > i then j else i)
  | _ => none
def gMin : List D → Option Bo
  | [.int i, .int j] => iD (if j < i then j else i)
  | _ => none
theorem cs_max : CallS X (fun xs H Q => ∃ i j, xs = [.int i, .int j] ∧ Q (.int (if j > i then j else i)) H) gMax := by
  intro xs ds b e B H Q s vs k
  unfold gMax at e
  split at e
  · cases e
    obtain ⟨x, y, rfl, hx, hy⟩ := rvs_two vs
    exact ⟨_, _, by rw [rv_int hx, rv_int hy], k _ B H .refl s (Rp.int _)⟩
  · cases e
theorem cs_min : CallS X (fun xs H Q => ∃ i j, xs = [.int i, .int j] ∧ Q (.int (if j < i then j else i)) H) gMin := by
  intro xs ds b e B H Q s vs k
  unfold gMin at e
  split at e
  · cases e
    obtain ⟨x, y, rfl, hx, hy⟩ := rvs_two vs
    exact ⟨_, _, by rw [rv_int hx, rv_int hy], k _ B H .refl s (Rp.int _)⟩
  · cases e
def blsOf : List D → Option (List Bool)
  | [] => some []
  | .bl b :: l => (blsOf l).map (b :: ·)
  | _ => none
theorem blsOf_ok : ∀ {l : List D} {bs : List Bool}, blsOf l = some bs → l = bs.map D.bl
  | [], bs, e => by cases e; rfl
  | d :: l, bs, e => by
    cases d with
    | bl b =>
      simp only [blsOf] at e
      cases q : blsOf l with
      | none => rw [q] at e; cases e
      | some cs => rw [q] at e; cases e; rw [blsOf_ok q]; rfl
    | _ => simp [blsOf] at e
def gAll : List D → Option Bo
  | [.lst l] => (blsOf l).bind fun bs => bD (bs.all id)
  | _ => none
def gAny : List D → Option Bo
  | [.lst l] => (blsOf l).bind fun bs => bD (bs.any id)
  | _ => none
theorem cs_all : CallS X (rAll X.K) gAll := by
  intro xs ds b e B H Q s vs k
  unfold gAll at e
  split at e
  · rename_i l
    cases q : blsOf l with
    | none => rw [q] at e; cases e
    | some bs =>
      rw [q] at e; cases e
      obtain ⟨x, rfl, a, xs, rfl, h1, h2⟩ := rvs_one vs
      rw [blsOf_ok q] at h2
      have := h2.bls
      subst this
      exact ⟨a, bs, rfl, .of h1, k _ B H .refl s (Rp.bl _)⟩
  · cases e
theorem cs_any : CallS X (rAny X.K) gAny := by
  intro xs ds b e B H Q s vs k
  unfold gAny at e
  split at e
  · rename_i l
    cases q : blsOf l with
    | none => rw [q] at e; cases e
    | some bs =>
      rw [q] at e; cases e
      obtain ⟨x, rfl, a, xs, rfl, h1, h2⟩ := rvs_one vs
      rw [blsOf_ok q] at h2
      have := h2.bls
      subst this
      exact ⟨a, bs, rfl, .of h1, k _ B H .refl s (Rp.bl _)⟩
  · cases e
def gDivmod : List D → Option Bo
  | [.int i, .int j] => if 0 < j ∧ Builtin.divisionGoesByPylong i j = false then some (.dt (.tup [.int (i / j), .int (i % j)])) else none
  | _ => none
theorem cs_divmod : CallS X (fun xs H Q => ∃ i j, xs = [.int i, .int j] ∧ CDivP i j ∧ ∀ p, H p = none → Q (.ref p) (upd H p (.tup [.int (i / j), .int (i % j)]))) gDivmod := by
  intro xs ds b e B H Q s vs k
  unfold gDivmod at e
  split at e
  · split at e
    · rename_i hc
      cases e
      obtain ⟨x, y, rfl, hx, hy⟩ := rvs_two vs
      refine ⟨_, _, by rw [rv_int hx, rv_int hy], hc, fun p np => ?_⟩
      exact k _ _ _ (.frozen s np) (same_both s) (Rp.tup (.inl upd_same) (.cons (.int _) (.cons (.int _) .nil)))
    · cases e
  · cases e
def rListS : List V → Hp → VK → Prop := fun xs H Q => ∃ z : Str, xs = [.str z] ∧ z.length ≤ sizeLine ∧ ∀ l, H l = none → Q (.ref l) (upd H l (.lst (z.cps.toList.map fun c => V.str ⟨#[c]⟩)))
theorem call_listS (hc : X.calm = true) : CallR X (.type "list") rListS := by
  intro pins s σ H xs us Q I r h
  obtain ⟨z, rfl, hz, q⟩ := h
  obtain ⟨u, rfl, t, rfl⟩ := vals1 r
  have hz' : z.cps.size ≤ sizeLine := hz
  refine call_list_str (I.ok.hd hc) z t (hn := hz') fun h' tk acc c hk hS hacc => ?_
  have hn : H s.heap.objs.size = none := I.hok.fresh (Nat.le_refl _)
  have rv : Vals (z.cps.toList.map fun c => V.str ⟨#[c]⟩) acc.toList := by
    refine vals_of_at (by simp [hacc.1]) fun j x u e1 e2 => ?_
    obtain ⟨c, tu, hc', rfl⟩ := hacc.2 j u (by simpa using e2)
    rw [List.getElem?_map] at e1
    have : z.cps.toList[j]? = some c := by simpa using hc'
    rw [this] at e1
    cases e1
    exact ⟨tu, rfl⟩
  refine ⟨.ref s.heap.objs.size, _, I.laid (t' := tk) (o := .lst (z.cps.toList.map fun c => V.str ⟨#[c]⟩)) hk (Nat.le_refl _) ?_, rfl, q _ hn⟩
  exact ⟨by simpa using hz', acc.toList, c, rv, by simpa using hS⟩
def gList : List D → Option Bo
  | [.str x] => if x.length ≤ sizeLine then some (.own (.lst (signs x))) else none
  | [.lst l] => some (.own (.lst l))
  | [.tup l] => some (.own (.lst l))
  | _ => none
def rListA (K : PySem.W.Frag) : List V → Hp → VK → Prop := fun xs H Q => rListS xs H Q ∨ ∃ p ys, xs = [.ref p] ∧ (SqL K H p ys ∨ SqT K H p ys) ∧ ∀ l, H l = none → Q (.ref l) (upd H l (.lst ys))
theorem call_listA (hc : X.calm = true) : CallR X (.type "list") (rListA X.K) := (call_listS hc).or call_list_of
theorem signs_rp {K : PySem.W.Frag} : ∀ l : List Nat, RpAll K B (l.map fun c => V.str ⟨#[c]⟩) (l.map fun c => D.str ⟨#[c]⟩)
  | [] => .nil
  | _ :: l => .cons (.str _) (signs_rp l)
theorem cs_list : CallS X (rListA X.K) gList := by
  intro xs ds b e B H Q s vs k
  unfold gList at e
  split at e
  · split at e
    · rename_i z hz
      cases e
      obtain ⟨x, rfl, hx⟩ := rvs_one vs
      refine .inl ⟨z, by rw [rv_str hx], hz, fun p np => ?_⟩
      exact k _ B _ (.plain np) (s.trans (same_upd np)) ⟨p, rfl, np, none_of_sub s np, ⟨_, upd_same, signs_rp _⟩⟩
    · cases e
  · cases e
    obtain ⟨x, rfl, a, xs, rfl, h1, h2⟩ := rvs_one vs
    refine .inr ⟨a, xs, rfl, .inl (.of h1), fun p np => ?_⟩
    exact k _ B _ (.plain np) (s.trans (same_upd np)) ⟨p, rfl, np, none_of_sub s np, ⟨_, upd_same, h2⟩⟩
  · cases e
    obtain ⟨x, rfl, hx⟩ := rvs_one vs
    obtain ⟨a, xs, rfl, h1, h2⟩ := rv_tup hx
    refine .inr ⟨a, xs, rfl, .inr (seqT_mono s h1), fun p np => ?_⟩
    exact k _ B _ (.plain np) (s.trans (same_upd np)) ⟨p, rfl, np, none_of_sub s np, ⟨_, upd_same, h2⟩⟩
  · cases e

/-! ### join -/
def strsOf : List D → Option (List Str)
  | [] => some []
  | .str b :: l => (strsOf l).map (b :: ·)
  | _ => none
theorem strsOf_ok : ∀ {l : List D} {bs : List Str}, strsOf l = some bs → l = bs.map D.str
  | [], bs, e => by cases e; rfl
  | d :: l, bs, e => by
    cases d with
    | str b =>
      simp only [strsOf] at e
      cases q : strsOf l with
      | none => rw [q] at e; cases e
      | some cs => rw [q] at e; cases e; rw [strsOf_ok q]; rfl
    | _ => simp [strsOf] at e
def gJoin (a : Str) : List D → Option Bo
  | [.lst l] => (strsOf l).bind fun ys => if (ys.map (·.length)).sum + ys.length * a.length ≤ 16777216 then sD (Txt.join a ys) else none
  | [.tup l] => (strsOf l).bind fun ys => if (ys.map (·.length)).sum + ys.length * a.length ≤ 16777216 then sD (Txt.join a ys) else none
  | _ => none
theorem ms_join : MtS X "str.join" gJoin := by
  refine ⟨_, mt_join, fun a xs ds b e B H Q s vs k => ?_⟩
  unfold gJoin at e
  split at e
  · rename_i l
    cases q : strsOf l with
    | none => rw [q] at e; cases e
    | some ys =>
      rw [q] at e
      have e' : (if (ys.map (·.length)).sum + ys.length * a.length ≤ 16777216 then sD (Txt.join a ys) else none) = some b := e
      split at e'
      · cases e'
        obtain ⟨x, rfl, p, xs, rfl, h1, h2⟩ := rvs_one vs
        rw [strsOf_ok q] at h2
        have := h2.strs
        subst this
        exact ⟨a, p, ys, rfl, rfl, .inl (.of h1), by assumption, k _ B H .refl s (Rp.str _)⟩
      · cases e'
  · rename_i l
    cases q : strsOf l with
    | none => rw [q] at e; cases e
    | some ys =>
      rw [q] at e
      have e' : (if (ys.map (·.length)).sum + ys.length * a.length ≤ 16777216 then sD (Txt.join a ys) else none) = some b := e
      split at e'
      · cases e'
        obtain ⟨x, rfl, hx⟩ := rvs_one vs
        obtain ⟨p, xs, rfl, h1, h2⟩ := rv_tup hx
        rw [strsOf_ok q] at h2
        have := h2.strs
        subst this
        exact ⟨a, p, ys, rfl, rfl, .inr (seqT_mono s h1), by assumption, k _ B H .refl s (Rp.str _)⟩
      · cases e'
  · cases e
end
end Lc

set_option Elab.async false
set_option maxRecDepth 100000
set_option maxHeartbeats 4000000
/-! Part L: repr of data. -/
namespace Lc
open PySem L2 PySem.Spec PyProof.Rows
mutual
/-- no type, no script inside -/
def D.shw : D → Bool
  | .lst l => D.shws l
  | .tup l => D.shws l
  | .dct l => D.shwk l
  | .ty _ => false
  | .scr _ => false
  | .cls _ => false
  | .exc _ _ _ => false
  | .obj _ _ => false
  | _ => true
def D.shws : List D → Bool
  | [] => true
  | d :: ds => d.shw && D.shws ds
def D.shwk : List (D × D) → Bool
  | [] => true
  | (k, v) :: ds => k.shw && v.shw && D.shwk ds
end
theorem keyIs_key {k : Key} {d : D} {u : Value} {h : Heap} (hk : KeyD k d) (h1 : keyIs k u = true) : Reads h u d.py [] := by
  rcases keyIs_shape h1 with ⟨i, t, rfl, rfl⟩ | ⟨x, t, rfl, rfl⟩
  · cases d <;> simp only [KeyD] at hk
    subst hk
    rw [D.py]
    exact .int _ _
  · cases d <;> simp only [KeyD] at hk
    subst hk
    rw [D.py]
    exact .str _ _
section
variable {P : Program} {w : World} {K : PySem.W.Frag} {B : Hp} {h : Heap}
theorem pyk_1 : ∀ l : List (D × D), (D.pyk l).map (·.1) = D.pys (l.map (·.1))
  | [] => by rw [D.pyk]; rfl
  | (k, v) :: r => by rw [D.pyk, List.map_cons, List.map_cons, D.pys, pyk_1 r]
theorem pyk_2 : ∀ l : List (D × D), (D.pyk l).map (·.2) = D.pys (l.map (·.2))
  | [] => by rw [D.pyk]; rfl
  | (k, v) :: r => by rw [D.pyk, List.map_cons, List.map_cons, D.pys, pyk_2 r]
theorem keys_read : ∀ (ds : List (D × D)) {es : List DictEntry} {ks : List (Key × V)} {vs : List (Key × Value)}, Pairs (mixKind P w) es vs → KV ks vs → RpKv K B ks ds → ReadsAll h (es.map (·.key)) ((D.pyk ds).map (·.1)) []
  | [], _, _, _, p, r, x => by
    cases x; cases r; cases p
    rw [D.pyk]
    exact .nil
  | (d, e) :: ds, _, _, _, p, r, x => by
    cases x with
    | cons k1 v1 kr =>
      cases r with
      | cons r1 r2 =>
        cases p with
        | cons p1 p2 p3 =>
          rw [D.pyk]
          have e1 := r1.1
          refine .cons (as := []) (bs := []) (keyIs_key k1 ?_) (keys_read ds p3 r2 kr)
          simp only at e1
          rw [e1]
          exact p1
mutual
theorem Rp.reads (hok : HOk P w B h) (KX : K.In h) (hsy : ∀ a o, B a = some o → a ≠ sysModules) : ∀ (d : D) (v : V) (u : Value), Rp K B v d → RelV v u → d.shw = true → ∃ as, Reads h u d.py as ∧ sysModules ∉ as
  | .non, _, _, x, r, _ => by
    cases x; cases r
    rw [D.py]
    exact ⟨_, .none, by simp⟩
  | .bl b, _, _, x, r, _ => by
    cases x; cases r
    rw [D.py]
    exact ⟨_, .bool b, by simp⟩
  | .int i, _, _, x, r, _ => by
    cases x
    obtain ⟨t, rfl⟩ := r
    rw [D.py]
    exact ⟨_, .int i t, by simp⟩
  | .str i, _, _, x, r, _ => by
    cases x
    obtain ⟨t, rfl⟩ := r
    rw [D.py]
    exact ⟨_, .str i t, by simp⟩
  | .ty n, _, _, _, _, q => by simp [D.shw] at q
  | .scr n, _, _, _, _, q => by simp [D.shw] at q
  | .cls n, _, _, _, _, q => by simp [D.shw] at q
  | .exc _ _ _, _, _, _, _, q => by simp [D.shw] at q
  | .obj n m, _, _, _, _, q => by simp [D.shw] at q
  | .lst ds, _, _, x, r, q => by
    cases x with
    | lst hs ha =>
      cases r
      obtain ⟨its, o, n, rv, ho, hc, hd⟩ := sqL_at hok KX (.of hs)
      obtain ⟨as, hr, hn⟩ := RpAll.reads hok KX hsy ds _ its ha rv (by simpa [D.shw] using q)
      rw [D.py]
      refine ⟨_, .list ho hc hd hr, fun z => ?_⟩
      rcases List.mem_cons.mp z with z | z
      · exact hsy _ _ hs z.symm
      · exact hn z
  | .tup ds, _, _, x, r, q => by
    cases x with
    | tup hs ha =>
      cases r
      obtain ⟨its, o, n, rv, ho, hc, hd⟩ := sqT_at hok KX (seqT_mono (Same.refl B) hs)
      obtain ⟨as, hr, hn⟩ := RpAll.reads hok KX hsy ds _ its ha rv (by simpa [D.shw] using q)
      rw [D.py]
      exact ⟨_, .tuple ho hc hd hr, hn⟩
  | .dct ds, _, _, x, r, q => by
    cases x with
    | dct hs ha =>
      cases r
      obtain ⟨_, hsm, vs, kv, o, es, ep, e1, e2, e3, _, pr, _⟩ := hok _ _ hs
      obtain ⟨bs, hr, hn'⟩ := RpKv.reads hok KX hsy ds _ vs es.toList ha kv pr (by simpa [D.shw] using q)
      have hk := keys_read (h := h) ds pr kv ha
      rw [D.py]
      refine ⟨_, .dict e1 e2.1 e3 hk hr, ?_⟩
      simp only [List.cons_append, List.nil_append, List.mem_cons, not_or]
      exact ⟨fun e => by rw [e] at hsm; simp at hsm, hn'⟩
theorem RpAll.reads (hok : HOk P w B h) (KX : K.In h) (hsy : ∀ a o, B a = some o → a ≠ sysModules) : ∀ (ds : List D) (vs : List V) (us : List Value), RpAll K B vs ds → Vals vs us → D.shws ds = true → ∃ as, ReadsAll h us (D.pys ds) as ∧ sysModules ∉ as
  | [], _, _, x, r, _ => by
    cases x; cases r
    rw [D.pys]
    exact ⟨_, .nil, by simp⟩
  | d :: ds, _, _, x, r, q => by
    cases x with
    | cons h1 h2 =>
      cases r with
      | cons r1 r2 =>
        simp only [D.shws, Bool.and_eq_true] at q
        obtain ⟨as, q1, n1⟩ := Rp.reads hok KX hsy d _ _ h1 r1 q.1
        obtain ⟨bs, q2, n2⟩ := RpAll.reads hok KX hsy ds _ _ h2 r2 q.2
        rw [D.pys]
        refine ⟨_, .cons q1 q2, ?_⟩
        simp only [List.mem_append, not_or]
        exact ⟨n1, n2⟩
theorem RpKv.reads (hok : HOk P w B h) (KX : K.In h) (hsy : ∀ a o, B a = some o → a ≠ sysModules) : ∀ (ds : List (D × D)) (ks : List (Key × V)) (vs : List (Key × Value)) (es : List DictEntry), RpKv K B ks ds → KV ks vs → Pairs (mixKind P w) es vs → D.shwk ds = true → ∃ as, ReadsAll h (es.map (·.val)) ((D.pyk ds).map (·.2)) as ∧ sysModules ∉ as
  | [], _, _, _, x, r, p, _ => by
    cases x; cases r; cases p
    rw [D.pyk]
    exact ⟨_, .nil, by simp⟩
  | (k, d) :: ds, _, _, _, x, r, p, q => by
    cases x with
    | cons k1 h1 h2 =>
      cases r with
      | cons r1 r2 =>
        cases p with
        | cons p1 p2 p3 =>
          simp only [D.shwk, Bool.and_eq_true] at q
          obtain ⟨as, q1, n1⟩ := Rp.reads hok KX hsy d _ _ h1 (p2 ▸ r1.2) q.1.2
          obtain ⟨bs, q2, n2⟩ := RpKv.reads hok KX hsy ds _ _ _ h2 r2 p3 q.2
          rw [D.pyk]
          refine ⟨_, .cons q1 q2, ?_⟩
          simp only [List.mem_append, not_or]
          exact ⟨n1, n2⟩
end
end

/-! ### repr -/
def D.shown (d : D) : Str := d.py.shown
def D.rok (d : D) : Bool := d.shw && d.py.showable && decide (d.py.depth ≤ 64) && decide (d.shown.length ≤ sizeLine)
def gRepr : List D → Option Bo
  | [d] => if d.rok = true then sD d.shown else none
  | _ => none
def rRepr (K : PySem.W.Frag) : List V → Hp → VK → Prop := fun xs H Q => ∃ x d, xs = [x] ∧ Rp K H x d ∧ d.rok = true ∧ Q (.str d.shown) H
section
variable {X : Cx}
theorem call_repr (hsm : ∃ o, X.K.lookup sysModules = some o) (hg : X.A.guards = some []) (hu : X.A.units + 80 < cLine) : CallR X (.builtin "repr") (rRepr X.K) := by
  intro pins s σ H xs us Q I r h
  obtain ⟨x, d, rfl, hx, hd, q⟩ := h
  obtain ⟨u, rfl, ru⟩ := vals1 r
  simp only [D.rok, Bool.and_eq_true, decide_eq_true_eq] at hd
  obtain ⟨⟨⟨q1, q2⟩, q4⟩, q5⟩ := hd
  have hsy : ∀ a o, H a = some o → a ≠ sysModules := fun a o e z => by
    obtain ⟨ob, ho⟩ := hsm
    have := (I.bs _ _ (I.ok.mod.kin _ _ ho)).2
    rw [← z, e] at this
    cases this
  obtain ⟨as, hr, hn⟩ := Rp.reads I.hok I.kIn hsy d x u hx ru q1
  have deep : ∀ a, u = .ref a → wpAny (model X.prog X.w) X.A (call (.builtin "repr") [u]) (EP X pins σ Q) X.xe s := by
    rintro a rfl
    refine repr_of_reads' hr q2 (fun _ => hn) hg (by omega) (fun _ _ e => e) (fun h' u tk hk => ⟨.str _, H, I.kept hk, ⟨_, rfl⟩, q⟩) q5
  cases hx with
  | non =>
    cases ru
    simp only [D.shown, D.py, PyData.shown] at q
    exact PySem.P.repr_of_none ⟨.str _, H, I.tok _, ⟨_, rfl⟩, q⟩
  | bl b =>
    cases ru
    simp only [D.shown, D.py, PyData.shown] at q
    exact PySem.P.repr_of_bool ⟨.str _, H, I.tok _, ⟨_, rfl⟩, q⟩
  | int i =>
    obtain ⟨t, rfl⟩ := ru
    simp only [D.shown, D.py, PyData.shown] at q
    exact PySem.P.repr_of_int (by simpa [D.py, PyData.showable] using q2) ⟨.str _, H, I.tok _, ⟨_, rfl⟩, q⟩
  | str i =>
    obtain ⟨t, rfl⟩ := ru
    simp only [D.shown, D.py, PyData.shown] at q q5
    exact PySem.P.repr_of_str ⟨.str _, H, I.tok _, ⟨_, rfl⟩, q⟩ q5
  | ty n => simp [D.shw] at q1
  | scr _ => simp [D.shw] at q1
  | cls _ => simp [D.shw] at q1
  | exc _ _ => simp [D.shw] at q1
  | obj _ _ _ _ => simp [D.shw] at q1
  | lst _ _ => cases ru; exact deep _ rfl
  | tup _ _ => cases ru; exact deep _ rfl
  | dct _ _ => cases ru; exact deep _ rfl
theorem cs_repr : CallS X (rRepr X.K) gRepr := by
  intro xs ds b e B H Q s vs k
  unfold gRepr at e
  split at e
  · split at e
    · cases e
      obtain ⟨x, rfl, hx⟩ := rvs_one vs
      exact ⟨x, _, rfl, hx.whole s, by assumption, k _ B H .refl s (Rp.str _)⟩
    · cases e
  · cases e
end
end Lc

set_option Elab.async false
set_option maxRecDepth 100000
set_option maxHeartbeats 4000000
/-! Part M: calls of defs, by names too; reversed texts; dict displays; a pair of names. -/
namespace Lc
open PySem L2 PySem.Spec PyProof.Rows
section
variable {X : Cx} {Wx : WX} {k : Nat} {f : Addr} {fd : FuncData} {ps : List Str} {F : Fn} {x : Str} {p pos kpos : Pos} {e : Expr} {es : List Expr} {kws : List Keyword} {fa fe : M W} {g : M (List W)} {nm : Option Str}
/-- how many values -/
def ArgN (f : M (List W)) (n : Nat) : Prop := ∀ ws r r', f r = .ok ws r' → ws.length = n
theorem argn_nil : ArgN (M.ret []) 0 := fun ws r r' h => by cases h; rfl
theorem argn_cons {n : Nat} (h : ArgN g n) : ArgN (cCons fe g) (n + 1) := fun ws r r' e => by
  unfold cCons M.bind at e
  cases e1 : fe r with
  | fail => rw [e1] at e; cases e
  | exc _ _ => rw [e1] at e; cases e
  | ok w r1 =>
    rw [e1] at e
    cases e2 : g r1 with
    | fail => simp only [e2] at e; cases e
    | exc _ _ => simp only [e2] at e; cases e
    | ok ws' r2 =>
      simp only [e2] at e
      cases e
      rw [List.length_cons, h _ _ _ e2]
theorem de_call (G : FnG X.prog X.w X.K X.mg X.base k f fd ps F) (hr : Room k X.A) (hgu : X.A.guards = some []) (hg : Gl X x) (hm : X.mg x = some (.ref f)) (hk : PySem.W.keepIn X.K (.ref f) = true) (hb : Binds X.K fd ps [])
    (ha : DA X (e :: es) g) (hn : ArgN g ps.length) (hdb : (x == ("__debug__" : Str)) = false) (he : starEach (e :: es) X.env = (false, eval e X.env) :: starEach es X.env) (hpl : (backTo pos (starEach es X.env)).any (·.1) = false) :
    DE X (.Call (.Name x p) (e :: es) [] pos) (cCall F g) := by
  refine ⟨fun Wx tk => ?_⟩
  obtain ⟨t, pt, qt⟩ := ha.run Wx tk
  exact ⟨_, pe_callG G hr hgu hg hm hk hb tk pt hdb he hpl, fun vs B σ H r Q R h => Post.call R qt hn h⟩
theorem de_call0 (G : FnG X.prog X.w X.K X.mg X.base k f fd [] F) (hr : Room k X.A) (hgu : X.A.guards = some []) (hg : Gl X x) (hm : X.mg x = some (.ref f)) (hk : PySem.W.keepIn X.K (.ref f) = true) (hb : Binds X.K fd [] [])
    (hdb : (x == ("__debug__" : Str)) = false) : DE X (.Call (.Name x p) [] [] pos) (cCall F (M.ret [])) := by
  refine ⟨fun Wx tk => ?_⟩
  obtain ⟨t, pt, qt⟩ := (da_nil (X := X)).run Wx tk
  exact ⟨_, pe_callG0 G hr hgu hg hm hk hb tk hdb, fun vs B σ H r Q R h => Post.call (t := tNil) (fa := M.ret []) R (fun vs B σ H r Q R h => h [] B H .refl R RpWs.nil) argn_nil h⟩

/-! ### arguments by names -/
structure DK (X : Cx) (kws : List Keyword) (f : M (List W)) : Prop where
  run : ∀ Wx, Takes X Wx → ∃ t, PK X kws t ∧ ∀ vs B σ H r Q, Rl X.K vs B σ H r → Post X vs Wx B H σ r (f r) (fA X vs σ H) Q → t σ H Q
theorem dk_nil : DK X [] (M.ret []) := ⟨fun _ _ => ⟨_, pk_nil, fun _ B _ H _ _ R h => h [] B H .refl R RpWs.nil⟩⟩
theorem dk_cons (he : DE X e fe) (hr : DK X kws g) : DK X (⟨nm, e, kpos⟩ :: kws) (cCons fe g) := by
  refine ⟨fun Wx tk => ?_⟩
  obtain ⟨ta, pa, qa⟩ := he.run Wx tk
  obtain ⟨tb, pb, qb⟩ := hr.run Wx tk
  refine ⟨_, pk_cons pa pb, fun vs B σ H r Q R h => qa vs B σ H r _ R (Post.bind0 h fun x w B1 H1 r1 s1 R1 q1 h1 => ?_)⟩
  have h1' := Post.shift (F := fA X vs σ) back_A s1 h1
  refine qb vs B1 σ H1 r1 _ R1 ?_
  cases hg : g r1 with
  | fail => simp only [M.bind, hg] at h1; exact h1.elim
  | exc y r2 =>
    simp only [M.bind, hg] at h1
    exact fun cl dd B2 H2 s2 R2 f2 => h1 cl dd B2 H2 (s1.trans s2) R2 f2
  | ok ws r2 =>
    simp only [M.bind, hg] at h1
    intro xs B2 H2 s2 R2 f2
    refine h1 (x :: xs) B2 H2 (s1.trans s2) R2 (RpWs.cons (RpW.stp q1 s2) (RpWs.back s1.dom f2) fun i y u e1 e2 ⟨a, c, c', g1, g2, g3, g4⟩ => ?_)
    have q2 := RpWs.get f2 e1 e2
    subst g1 g2 g3 g4
    obtain ⟨a1, k1, _, _, k4, _⟩ := q1
    obtain ⟨a2, m1, m2, _⟩ := q2
    cases k1; cases m1
    obtain ⟨o, ho⟩ := k4.some
    rw [m2] at ho; cases ho
/-- f(k = e, ..), the names in the parameters' order -/
theorem pe_callGK (G : FnG X.prog X.w X.K X.mg X.base k f fd ps F) (hr : Room k X.A) (hgu : X.A.guards = some []) (hg : Gl X x) (hm : X.mg x = some (.ref f)) (hk : PySem.W.keepIn X.K (.ref f) = true)
    (hb : ∀ (s : Shared) (ws : List Value), X.K.In s.heap → ws.length = ps.length → BindsTo s fd ⟨[], ps.zip ws⟩ (ps.zip ws)) (tk : Takes X Wx) {t : TA}
    (ha : PK X kws t) (hdb : (x == ("__debug__" : Str)) = false) (hall : (backToKw pos (keywordEach kws X.env)).all (·.1.isSome) = true) (hks : (backToKw pos (keywordEach kws X.env)).filterMap (·.1) = ps)
    (hpl : ((backTo pos (starEach [] X.env)).any (·.1) || (backToKw pos (keywordEach kws X.env)).any (·.1.isNone)) = false) :
    PE X (.Call (.Name x p) [] kws pos) (tCallG Wx (spG X.K X.mg ps.length F) t) := by
  refine ⟨fun pins s σ H Q I h => wpAny_Call_Name_kw (ld_glob I hg hm ?_ hdb)⟩
  refine PySem.W.callWith_KW0 (h₀ := X.base) I.ok.mod.kin hk hall (thn (ha.run pos pins s σ H _ I h) fun us s1 ⟨vs, H1, I1, rv, q⟩ => ⟨I1.kIn, ?_⟩) hpl
  rw [hks]
  have hl : us.length = ps.length := by rw [← rv.length]; exact q.1
  exact wpAny_call (codeAny_mono (run_fnG G hr hgu (hb s1 us I1.kIn hl) tk I1 rv q) fun res s2 hq => by
    cases res with
    | error u => exact hq
    | ok fl => cases fl <;> exact hq)
theorem de_callK (G : FnG X.prog X.w X.K X.mg X.base k f fd ps F) (hr : Room k X.A) (hgu : X.A.guards = some []) (hg : Gl X x) (hm : X.mg x = some (.ref f)) (hk : PySem.W.keepIn X.K (.ref f) = true)
    (hb : ∀ (s : Shared) (ws : List Value), X.K.In s.heap → ws.length = ps.length → BindsTo s fd ⟨[], ps.zip ws⟩ (ps.zip ws))
    (ha : DK X kws g) (hn : ArgN g ps.length) (hdb : (x == ("__debug__" : Str)) = false) (hall : (backToKw pos (keywordEach kws X.env)).all (·.1.isSome) = true) (hks : (backToKw pos (keywordEach kws X.env)).filterMap (·.1) = ps)
    (hpl : ((backTo pos (starEach [] X.env)).any (·.1) || (backToKw pos (keywordEach kws X.env)).any (·.1.isNone)) = false) :
    DE X (.Call (.Name x p) [] kws pos) (cCall F g) := by
  refine ⟨fun Wx tk => ?_⟩
  obtain ⟨t, pt, qt⟩ := ha.run Wx tk
  exact ⟨_, pe_callGK G hr hgu hg hm hk hb tk pt hdb hall hks hpl, fun vs B σ H r Q R h => Post.call R qt hn h⟩

/-! ### e[::-1] -/
def revS (x : Str) : Str := ⟨((slicePicked x none none (some (-1, 0))).filterMap (x.cps[·]?)).toArray⟩
def tRevS (te : TE) : TE := fun σ H Q => te σ H fun x H1 => ∃ y, x = .str y ∧ (revS y).length ≤ sizeLine ∧ Q (.str (revS y)) H1
theorem pe_or {t u : TE} (h1 : PE X e t) (h2 : PE X e u) : PE X e (fun σ H Q => t σ H Q ∨ u σ H Q) := ⟨fun pins s σ H Q I h => h.elim (h1.run pins s σ H Q I) (h2.run pins s σ H Q I)⟩
theorem pe_revS {te : TE} {k : Nat} {p1 p2 p3 pos : Pos} (he : PE X e te) : PE X (.Subscript e (.Slice none none (some (.UnaryOp .USub (.Constant (.int 1) k p1) p2)) p3) pos) (tRevS te) := by
  refine ⟨fun pins s σ H Q I h => ?_⟩
  refine Subscript_ (thn (he.run pins s σ H _ I h) fun v s1 ⟨x, H1, I1, r1, q1⟩ => ?_)
  obtain ⟨y, ex, hz, q⟩ := q1
  subst ex
  obtain ⟨tk, rfl⟩ := r1
  have hst : PO X (some (.UnaryOp .USub (.Constant (.int 1) k p1) p2)) (tPart (tUn (rU fun i => .int (-i)) (tC (.int 1)))) := po_some (pe_un un_neg pe_int)
  refine wpAny_Slice (thn (po_none.run pins s1 σ H1 (fun o H2 => o = none ∧ H2 = H1) I1 ⟨rfl, rfl⟩) fun vl s2 ⟨l, H2, I2, pl, el, e2⟩ => ?_)
  subst el e2
  refine thn (po_none.run pins s2 σ H2 (fun o H3 => o = none ∧ H3 = H2) I2 ⟨rfl, rfl⟩) fun vu s3 ⟨u, H3, I3, pu, eu, e3⟩ => ?_
  subst eu e3
  refine thn (hst.run pins s3 σ H3 (fun o H4 => o = some (-1) ∧ H4 = H3) I3 ⟨1, rfl, -1, rfl, rfl, rfl⟩) fun vs s4 ⟨o, H4, I4, ps, eo, e4⟩ => ?_
  subst eo e4
  cases pl
  cases pu
  cases ps with
  | int i tk2 =>
    have I5 : Inv X pins σ H4 { s4 with heap := s4.heap.push { cls := .type "slice", data := .fields #[.none, .none, .int (-1) tk2] } } := I4.kept (t' := s4.toks) fun b ob q => Heap.get?_push_of_some _ q
    show wpAny (model X.prog X.w) X.A (subscriptTail e (.Slice none none (some (.UnaryOp .USub (.Constant (.int 1) k p1) p2)) p3) (.str y tk) (.ref s4.heap.objs.size)) (EP X pins σ Q) X.xe { s4 with heap := s4.heap.push { cls := .type "slice", data := .fields #[.none, .none, .int (-1) tk2] } }
    refine tail_any (ops := [.str y tk, .ref s4.heap.objs.size]) (typeIs_str _ _ _) (F.slot_str_getitem.lookup) ?_ (by with_unfolding_all rfl)
    refine wpAny_getItem_str_slice (l := none) (u := none) (st := some (-1, tk2)) ⟨_, Heap.get?_push_size _ rfl, rfl, rfl⟩ rfl ?_
    exact ⟨hz, .str _, H4, I5.tok _, ⟨_, rfl⟩, q⟩
def gRev : D → Option Bo
  | .str y => if (revS y).length ≤ sizeLine then some (.dt (.str (revS y))) else none
  | .lst l => some (.own (.lst l.reverse))
  | _ => none
theorem de_rev {k : Nat} {p1 p2 p3 pos : Pos} (he : DE X e fe) : DE X (.Subscript e (.Slice none none (some (.UnaryOp .USub (.Constant (.int 1) k p1) p2)) p3) pos) (cOp1 gRev fe) := by
  refine ⟨fun Wx tk => ?_⟩
  obtain ⟨t, pt, qt⟩ := he.run Wx tk
  refine ⟨_, pe_or (pe_revS pt) (pe_revL pt), fun vs B σ H r Q R h => ?_⟩
  cases ef : fe r with
  | fail => simp only [cOp1, M.bind, ef] at h; exact h.elim
  | exc y r1 =>
    simp only [cOp1, M.bind, ef] at h
    exact .inl (qt vs B σ H r _ R (by rw [ef]; exact h))
  | ok w r1 =>
    simp only [cOp1, M.bind, ef] at h
    cases ev : w.view r1 with
    | none => simp only [M.view, ev] at h; exact h.elim
    | some d =>
      simp only [M.view, ev] at h
      cases eg : gRev d with
      | none => rw [eg] at h; exact h.elim
      | some b =>
        rw [eg] at h
        have fin : ∀ (v : V) (B1 H1 : Hp), Stp vs B H σ r B1 H1 σ r1 → Rl X.K vs B1 σ H1 r1 → ∀ (v' : V) (B' H' : Hp), Ext B1 H1 B' H' → Same B' H' → RpB X.K H1 B' H' v' b → Q v' H' := fun v B1 H1 s1 R1 v' B' H' ex sm q => by
          have h' : Post X vs Wx B H σ r (.ok b.toW r1) (fW X vs σ H) Q := h
          exact h' v' B' H' (s1.ext ex) (R1.ext ex sm) (q.toW R1 fun _ z => s1.dom _ z)
        unfold gRev at eg
        split at eg
        · split at eg
          · cases eg
            refine .inl (qt vs B σ H r _ R ?_)
            rw [ef]
            intro v B1 H1 s1 R1 q1
            have vd := RpW.view R1 q1 ev
            exact ⟨_, rv_str vd, by assumption, fin v B1 H1 s1 R1 _ B1 H1 .refl R1.sub (Rp.str _)⟩
          · cases eg
        · cases eg
          refine .inr (qt vs B σ H r _ R ?_)
          rw [ef]
          intro v B1 H1 s1 R1 q1
          obtain ⟨a, xs, rfl, h1, h2⟩ := RpW.view R1 q1 ev
          refine ⟨a, xs, rfl, .of h1, fun p np => ?_⟩
          exact fin .non B1 H1 s1 R1 _ B1 _ (.plain np) (R1.sub.trans (same_upd np)) ⟨p, rfl, np, none_of_sub R1.sub np, ⟨_, upd_same, h2.reverse⟩⟩
        · cases eg
end
end Lc

set_option Elab.async false
set_option maxRecDepth 100000
set_option maxHeartbeats 4000000
/-! Part N: dict displays; a pair of names takes a pair. -/
namespace Lc
open PySem L2 PySem.Spec PyProof.Rows
section
variable {X : Cx} {Wx : WX} {pos kpos : Pos} {e a b : Expr} {es : List Expr} {fe fk fv : M W} {g : M (List W)}
def cDct0 : M W := M.ret (.fresh (.dct []))
theorem de_dct0 : DE X (.Dict [] [] pos) cDct0 := ⟨fun _ _ => ⟨_, pe_dnewK, fun vs B σ H r Q R h p np => by
  have ex : Ext B H B (upd H p (.dK [])) := .plain np
  have sm : Same B (upd H p (.dK [])) := R.sub.trans ex.keep
  exact h (.ref p) B _ ex.stp (R.ext ex sm) ⟨p, rfl, np, none_of_sub R.sub np, ⟨[], upd_same, .nil⟩, R.notOwn np⟩⟩⟩
theorem read_cons {ta : TE} {tb : TA} (qa : ∀ vs B σ H r Q, Rl X.K vs B σ H r → Post X vs Wx B H σ r (fe r) (fW X vs σ H) Q → ta σ H Q) (qb : ∀ vs B σ H r Q, Rl X.K vs B σ H r → Post X vs Wx B H σ r (g r) (fA X vs σ H) Q → tb σ H Q) :
    ∀ vs B σ H r Q, Rl X.K vs B σ H r → Post X vs Wx B H σ r (cCons fe g r) (fA X vs σ H) Q → tCons ta tb σ H Q := by
  intro vs B σ H r Q R h
  refine qa vs B σ H r _ R (Post.bind0 h fun x w B1 H1 r1 s1 R1 q1 h1 => ?_)
  have h1' := Post.shift (F := fA X vs σ) back_A s1 h1
  refine qb vs B1 σ H1 r1 _ R1 ?_
  cases hg : g r1 with
  | fail => simp only [M.bind, hg] at h1; exact h1.elim
  | exc y r2 =>
    simp only [M.bind, hg] at h1
    exact fun cl dd B2 H2 s2 R2 f2 => h1 cl dd B2 H2 (s1.trans s2) R2 f2
  | ok ws r2 =>
    simp only [M.bind, hg] at h1
    intro xs B2 H2 s2 R2 f2
    refine h1 (x :: xs) B2 H2 (s1.trans s2) R2 (RpWs.cons (RpW.stp q1 s2) (RpWs.back s1.dom f2) fun i y u e1 e2 ⟨a, c, c', g1, g2, g3, g4⟩ => ?_)
    have q2 := RpWs.get f2 e1 e2
    subst g1 g2 g3 g4
    obtain ⟨a1, k1, _, _, k4, _⟩ := q1
    obtain ⟨a2, m1, m2, _⟩ := q2
    cases k1; cases m1
    obtain ⟨o, ho⟩ := k4.some
    rw [m2] at ho; cases ho
def tAll : List (TE × TE) → TA
  | [] => tNil
  | (a, b) :: r => tCons a (tCons b (tAll r))
def pairUp : List V → List (V × V)
  | x :: y :: r => (x, y) :: pairUp r
  | _ => []
theorem tPairs_all : ∀ (trs : List (TE × TE)) (σ : L2.St) (H : Hp) (Q : List (V × V) → Hp → Prop), tPairs trs σ H Q = tAll trs σ H (fun vs H' => Q (pairUp vs) H')
  | [], σ, H, Q => rfl
  | (a, b) :: r, σ, H, Q => by
    show (a σ H fun x H1 => b σ H1 fun y H2 => tPairs r σ H2 fun ps H3 => Q ((x, y) :: ps) H3) = (a σ H fun x H1 => b σ H1 fun y H2 => tAll r σ H2 fun vs H3 => Q (pairUp (x :: y :: vs)) H3)
    congr 1
    funext x H1
    congr 1
    funext y H2
    rw [tPairs_all r σ H2]
    rfl
structure DP (X : Cx) (pos : Pos) (keys : List (Option Expr)) (values : List Expr) (f : M (List W)) : Prop where
  run : ∀ Wx, Takes X Wx → ∃ trs, PPs X pos keys values trs ∧ ∀ vs B σ H r Q, Rl X.K vs B σ H r → Post X vs Wx B H σ r (f r) (fA X vs σ H) Q → tAll trs σ H Q
theorem dp_nil : DP X pos [] [] (M.ret []) := ⟨fun _ _ => ⟨_, pps_nil, fun _ B _ H _ _ R h => h [] B H .refl R RpWs.nil⟩⟩
theorem dp_cons {k v : Expr} {ks : List (Option Expr)} {vals : List Expr} (hk : DE X k fk) (hv : DE X v fv) (hr : DP X pos ks vals g) : DP X pos (some k :: ks) (v :: vals) (cCons fk (cCons fv g)) := by
  refine ⟨fun Wx tk => ?_⟩
  obtain ⟨ta, pa, qa⟩ := hk.run Wx tk
  obtain ⟨tb, pb, qb⟩ := hv.run Wx tk
  obtain ⟨tc, pc, qc⟩ := hr.run Wx tk
  exact ⟨_, pps_cons pa pb pc, read_cons qa (read_cons qb qc)⟩
/-! ### data as keys -/
def D.key : D → Option Key
  | .int i => some (.inl i)
  | .str x => some (.inr x)
  | _ => none
def keyD : Key → D
  | .inl i => .int i
  | .inr x => .str x
theorem key_rp {K : PySem.W.Frag} {B : Hp} {v : V} {d : D} {k : Key} (h : Rp K B v d) (e : d.key = some k) : v = kV k ∧ KeyD k d := by
  cases h <;> simp only [D.key, Option.some.injEq, reduceCtorEq] at e
  · subst e; exact ⟨rfl, rfl⟩
  · subst e; exact ⟨rfl, rfl⟩
/-- the pairs that a display writes -/
def pairsD : List D → Option (List (Key × D))
  | [] => some []
  | k :: v :: r => match k.key, pairsD r with
    | some k, some l => some ((k, v) :: l)
    | _, _ => none
  | [_] => none
def putD (l : List (D × D)) (k : Key) (v : D) : List (D × D) :=
  if (l.any fun kv => decide (kv.1.key = some k)) = true then l.map (fun kv => if kv.1.key = some k then (kv.1, v) else kv) else l ++ [(keyD k, v)]
def mergeD (l : List (D × D)) (more : List (Key × D)) : List (D × D) := more.foldl (fun acc kv => putD acc kv.1 kv.2) l
theorem keyD_key {k : Key} {d : D} (h : KeyD k d) : d.key = some k := by
  cases k <;> cases d <;> simp_all [KeyD, D.key]
theorem keyD_self (k : Key) : KeyD k (keyD k) := by cases k <;> rfl
section
variable {K : PySem.W.Frag} {B : Hp}
theorem kv_any {k : Key} : ∀ {ks : List (Key × V)} {ds : List (D × D)}, RpKv K B ks ds → (ks.any fun kv => decide (kv.1 = k)) = ds.any fun kv => decide (kv.1.key = some k)
  | _, _, .nil => rfl
  | _, _, .cons h1 h2 r => by
    simp only [List.any_cons, kv_any r, keyD_key h1, Option.some.injEq]
theorem kv_put {k : Key} {v : V} {d : D} (hv : Rp K B v d) : ∀ {ks : List (Key × V)} {ds : List (D × D)}, RpKv K B ks ds → RpKv K B (ks.map fun kv => if kv.1 = k then (kv.1, v) else kv) (ds.map fun kv => if kv.1.key = some k then (kv.1, d) else kv)
  | _, _, .nil => .nil
  | _, _, .cons h1 h2 r => by
    simp only [List.map_cons, keyD_key h1, Option.some.injEq]
    split
    · exact .cons h1 hv (kv_put hv r)
    · exact .cons h1 h2 (kv_put hv r)
theorem kv_app : ∀ {ks ks' : List (Key × V)} {ds ds' : List (D × D)}, RpKv K B ks ds → RpKv K B ks' ds' → RpKv K B (ks ++ ks') (ds ++ ds')
  | _, _, _, _, .nil, h => h
  | _, _, _, _, .cons h1 h2 r, h => .cons h1 h2 (kv_app r h)
theorem put_rp {k : Key} {v : V} {d : D} {ks : List (Key × V)} {ds : List (D × D)} (h : RpKv K B ks ds) (hv : Rp K B v d) : RpKv K B (putK ks k v) (putD ds k d) := by
  unfold putK putD
  rw [kv_any h]
  split
  · exact kv_put hv h
  · exact kv_app h (.cons (keyD_self k) hv .nil)
theorem merge_rp : ∀ {l : List (Key × D)} {more : List (Key × V)} {ks : List (Key × V)} {ds : List (D × D)}, RpKv K B ks ds → Paired (fun (p : Key × V) (q : Key × D) => p.1 = q.1 ∧ Rp K B p.2 q.2) more l → RpKv K B (mergeK ks more) (mergeD ds l)
  | _, _, _, _, h, .nil => h
  | _, _, ks, ds, h, .cons (a := p) (b := q) x r => by
    obtain ⟨k, v⟩ := p
    obtain ⟨k', d⟩ := q
    obtain ⟨e, hv⟩ := x
    simp only at e hv
    subst e
    show RpKv K B (mergeK (putK ks k v) _) (mergeD (putD ds k d) _)
    exact merge_rp (put_rp h hv) r
theorem pairs_rp : ∀ {ds : List D} {xs : List V} {l : List (Key × D)}, RpAll K B xs ds → pairsD ds = some l → ∃ kvs : List (Key × V), pairUp xs = kvs.map (fun kv => (kV kv.1, kv.2)) ∧ Paired (fun (p : Key × V) (q : Key × D) => p.1 = q.1 ∧ Rp K B p.2 q.2) kvs l
  | [], xs, l, h, e => by
    cases h; cases e
    exact ⟨[], rfl, .nil⟩
  | [_], xs, l, h, e => by cases e
  | k :: v :: r, xs, l, h, e => by
    cases h with
    | cons h1 h2 =>
      cases h2 with
      | cons h3 h4 =>
        unfold pairsD at e
        cases ek : k.key with
        | none => simp only [ek] at e; cases e
        | some kk =>
          cases er : pairsD r with
          | none => simp only [ek, er] at e; cases e
          | some l' =>
            simp only [ek, er, Option.some.injEq] at e
            subst e
            obtain ⟨kvs, p1, p2⟩ := pairs_rp h4 er
            obtain ⟨ev, _⟩ := key_rp h1 ek
            refine ⟨(kk, _) :: kvs, ?_, .cons ⟨rfl, h3⟩ p2⟩
            subst ev
            simp [pairUp, p1]
end
def cDct (f : M (List W)) : M W := M.bind f fun ws => M.bind (frzAll ws) fun ds => M.bind (M.opt (pairsD ds)) fun l => M.bind (M.chk (decide (l.length ≤ 15))) fun _ => M.ret (.fresh (.dct (mergeD [] l)))
theorem paired_len {α β : Type} {F : α → β → Prop} : ∀ {l : List α} {m : List β}, Paired F l m → l.length = m.length
  | _, _, .nil => rfl
  | _, _, .cons _ r => by rw [List.length_cons, List.length_cons, paired_len r]
theorem de_dct {keys : List (Option Expr)} {values : List Expr} {f : M (List W)} (h : DP X pos keys values f) (hall : keys.all (·.isSome) = true) (hl : keys.length = values.length) (h0 : keys ≠ []) (h15 : keys.length ≤ 15) : DE X (.Dict keys values pos) (cDct f) := by
  refine ⟨fun Wx tk => ?_⟩
  obtain ⟨trs, p, q⟩ := h.run Wx tk
  refine ⟨_, pe_disp p hall hl h0 h15, fun vs B σ H r Q R hw p np => ?_⟩
  rw [tPairs_all]
  have ex : Ext B H B (upd H p (.dK [])) := .plain np
  have sm : Same B (upd H p (.dK [])) := R.sub.trans ex.keep
  have s0 : Stp vs B H σ r B (upd H p (.dK [])) σ r := ex.stp
  have R0 := R.ext ex sm
  refine q vs B σ _ r _ R0 ?_
  cases ef : f r with
  | fail => simp only [cDct, M.bind, ef] at hw; exact hw.elim
  | exc y r1 =>
    simp only [cDct, M.bind, ef] at hw
    exact fun cl dd B2 H2 s2 R2 f2 => hw cl dd B2 H2 (s0.trans s2) R2 f2
  | ok ws r1 =>
    intro xs B1 H1 s1 R1 q1
    have hp0 : H1 p = some (.dK []) := (s1.keep p _ upd_same (R.notOwn np ∘ fun z => z)).1
    have nb1 : B1 p = none := (s1.keep p _ upd_same (R.notOwn np)).2 (none_of_sub R.sub np)
    have no1 : ¬ Own vs σ r1 p := fun z => (s1.own p z).elim (R.notOwn np) fun z => by rw [upd_same] at z; cases z
    have hw1 : Post X vs Wx B H σ r (M.bind (frzAll ws) (fun ds => M.bind (M.opt (pairsD ds)) fun l => M.bind (M.chk (decide (l.length ≤ 15))) fun _ => M.ret (.fresh (.dct (mergeD [] l)))) r1) (fW X vs σ H) Q := by
      simp only [cDct, M.bind, ef] at hw
      exact hw
    cases e2 : frzAll ws r1 with
    | fail => simp only [M.bind, e2] at hw1; exact hw1.elim
    | exc y r2 => exact absurd e2 frzAll_noexc
    | ok ds r2 =>
      simp only [M.bind, e2] at hw1
      obtain ⟨B2, p2, R2, s2, sb⟩ := frzAll_ok R1 s1 q1 e2
      have hw2 : Post X vs Wx B H σ r (M.bind (M.opt (pairsD ds)) (fun l => M.bind (M.chk (decide (l.length ≤ 15))) fun _ => M.ret (.fresh (.dct (mergeD [] l)))) r2) (fW X vs σ H) Q := hw1
      obtain ⟨l, el, hw3⟩ := Post.opt hw2
      obtain ⟨c4, hw4⟩ := Post.chk hw3
      obtain ⟨kvs, k1, k2⟩ := pairs_rp p2 el
      refine ⟨hp0, kvs, k1, by rw [paired_len k2]; exact of_decide_eq_true c4, ?_⟩
      have nb2 : B2 p = none := (s2.keep p _ upd_same (R.notOwn np)).2 (none_of_sub R.sub np)
      have no2 : ¬ Own vs σ r2 p := fun z => (s2.own p z).elim (R.notOwn np) fun z => by rw [upd_same] at z; cases z
      have R3 : Rl X.K vs B2 σ (upd H1 p (.dK (mergeK [] kvs))) r2 := R2.other nb2 no2
      have s3 : Stp vs B H σ r B2 (upd H1 p (.dK (mergeK [] kvs))) σ r2 := by
        have s4 := s0.trans s2
        refine ⟨s4.sub, fun a o h n => ?_, fun a h => ?_, s4.own, s4.bol, s4.bod, s4.boo⟩
        · have ne : a ≠ p := fun e => by subst e; rw [np] at h; cases h
          rw [upd_ne ne]
          exact s4.keep a o h n
        · by_cases e : a = p
          · subst e; exact np
          · rw [upd_ne e] at h; exact s4.dom a h
      exact hw4 (.ref p) B2 _ s3 R3 ⟨p, rfl, np, nb2, ⟨_, upd_same, merge_rp .nil k2⟩, no2⟩

/-! ### a, b = x, y -/
def W.isLoc (i : Nat) : W → Bool
  | .cel (.loc j) => decide (j = i)
  | _ => false
def cPar2 (i j : Nat) (f : M (List W)) : M Fl := M.bind f fun ws => match ws with
  | [w1, w2] => if w2.isLoc i = true then M.no else M.bind (gN i w1) fun _ => M.bind (gN j w2) fun _ => M.ret .next
  | _ => M.no
theorem settle_more {K : PySem.W.Frag} {vs : List V} {B0 H0 B H : Hp} {σ0 σ : L2.St} {r0 r r' : Rho} {v : V} {w : W} {sl : Sl} (R : Rl K vs B σ H r) (s : Stp vs B0 H0 σ0 r0 B H σ r) (h : RpW K vs H0 B σ H r v w) (e : settle w r = .ok sl r') :
    ∃ B', RpS K vs H0 B' σ H r' v sl ∧ Rl K vs B' σ H r' ∧ Stp vs B0 H0 σ0 r0 B' H σ r' ∧ (∀ x u, RpW K vs H0 B σ H r x u → RpW K vs H0 B' σ H r' x u) ∧ ∀ c, sl = .own c → w = .fresh c := by
  cases w with
  | dt d => cases e; exact ⟨B, h, R, s, fun _ _ q => q, fun c z => by cases z⟩
  | fresh c => cases e; exact ⟨B, h, R, s, fun _ _ q => q, fun c z => by cases z; rfl⟩
  | cel z =>
    cases z with
    | bor k => cases e; exact ⟨B, h, R, s, fun _ _ q => q, fun c z => by cases z⟩
    | loc i =>
      cases hc : r.cnt (.loc i) with
      | none =>
        cases hl : r.look (.loc i) with
        | none => simp only [settle, hc, hl] at e; cases e
        | some d' =>
          simp only [settle, hc, hl] at e
          cases e
          exact ⟨B, look_data R hc hl h, R, s, fun _ _ q => q, fun c z => by cases z⟩
      | some c =>
        simp only [settle, hc] at e
        cases e
        obtain ⟨a, q1, _, _⟩ := R.own _ c hc
        have hv : v = .ref a := by have h' : adr vs σ (.loc i) = some v := h; rw [q1] at h'; exact (Option.some.inj h').symm
        subst hv
        obtain ⟨o, ho, rp, R2, s2⟩ := R.freeze hc q1
        exact ⟨_, rp, R2, s.trans s2, fun _ _ q => RpW.stp q s2, fun c z => by cases z⟩
theorem gN_step {vs : List V} {B0 H0 B H : Hp} {σ0 σ : L2.St} {r0 r r' : Rho} {v : V} {w : W} {i : Nat} (R : Rl X.K vs B σ H r) (s : Stp vs B0 H0 σ0 r0 B H σ r) (h : RpW X.K vs H0 B σ H r v w) (e : gN i w r = .ok () r') :
    ∃ B', Rl X.K vs B' (σ.set i (some v)) H r' ∧ Stp vs B0 H0 σ0 r0 B' H (σ.set i (some v)) r' ∧ ∀ x u, RpW X.K vs H0 B σ H r x u → ¬ Clash v w x u → u.isLoc i = false → RpW X.K vs H0 B' (σ.set i (some v)) H r' x u := by
  unfold gN M.bind at e
  cases e1 : settle w r with
  | fail => simp only [e1] at e; cases e
  | exc x r1 => exact absurd e1 settle_noexc
  | ok sl r1 =>
    simp only [e1] at e
    split at e
    · rename_i hi
      cases e
      obtain ⟨B', p, R', s', keepW, hown⟩ := settle_more R s h e1
      obtain ⟨R2, s2⟩ := R'.assign s' p hi
      have hs : i < σ.length := by rw [← R'.len]; exact hi
      refine ⟨B', R2, s2, fun x u q nc nl => ?_⟩
      have q' := keepW x u q
      cases u with
      | dt d => exact q'
      | cel z =>
        have hz : z ≠ .loc i := fun z2 => by subst z2; simp [W.isLoc] at nl
        show adr vs _ z = _
        rw [adr_set z hz]
        exact q'
      | fresh c =>
        obtain ⟨a, rfl, g1, g2, g3, g4⟩ := q'
        refine ⟨a, rfl, g1, g2, g3, fun ⟨z, c', m1, m2⟩ => ?_⟩
        by_cases hz : z = .loc i
        · subst hz
          rw [adr_self hs] at m2
          cases m2
          rw [cnt_put hi, if_pos rfl] at m1
          cases sl with
          | own c2 =>
            have := hown c2 rfl
            subst this
            exact nc ⟨a, c2, c, rfl, rfl, rfl, rfl⟩
          | dt d => cases m1
          | bor k => cases m1
        · rw [adr_set z hz] at m2
          rw [cnt_put hi, if_neg hz] at m1
          exact g4 ⟨z, c', m1, m2⟩
    · cases e
theorem gN_noexc {w : W} {i : Nat} {r r' : Rho} {x : Ex} : gN i w r ≠ .exc x r' := fun e => by
  unfold gN M.bind at e
  cases e1 : settle w r with
  | fail => simp only [e1] at e; cases e
  | exc x r1 => exact settle_noexc e1
  | ok sl r1 =>
    simp only [e1] at e
    split at e <;> cases e
theorem ds_par {i j : Nat} {x y : Str} {f : M (List W)} {px py pt : Pos} {kt k2 pt2} (hc : X.calm = true) (hN : X.N.Nodup) (hi : X.N[i]? = some x) (hj : X.N[j]? = some y) (hij : i ≠ j)
    (hx : X.env.scope.names.lookup x = some .local) (hy : X.env.scope.names.lookup y = some .local) (ha : DA X [a, b] f)
    (hw : swappedStores [.Tuple [.Name x px, .Name y py] kt pt] (.Tuple [a, b] k2 pt2) X.env = pure (some [x, y]))
    (hs : swapsWithSole [.Tuple [.Name x px, .Name y py] kt pt] (.Tuple [a, b] k2 pt2) pos.line X.env = pure false) :
    DS X (.Assign [.Tuple [.Name x px, .Name y py] kt pt] (.Tuple [a, b] k2 pt2) pos) (cPar2 i j f) := by
  refine ⟨fun Wx tk => ?_⟩
  obtain ⟨t, p, q⟩ := ha.run Wx tk
  refine ⟨_, ps_par hc hN hi hj hij hx hy p hw hs, fun vs B σ H r E R h => q vs B σ H r _ R (PostS.bind0 h fun xs ws B1 H1 r1 s1 R1 q1 h1 => ?_)⟩
  cases q1 with
  | nil => exact h1.elim
  | cons a1 b1 n1 =>
    cases b1 with
    | nil => exact h1.elim
    | cons a2 b2 n2 =>
      cases b2 with
      | cons _ _ _ => exact h1.elim
      | nil =>
        rename_i v1 w1 v2 w2
        simp only at h1
        split at h1
        · exact h1.elim
        · rename_i hl
          have hl' : w2.isLoc i = false := by cases e : w2.isLoc i with
            | true => exact absurd e hl
            | false => rfl
          cases e1 : gN i w1 r1 with
          | fail => simp only [M.bind, e1] at h1; exact h1.elim
          | exc x r2 => exact absurd e1 gN_noexc
          | ok u r2 =>
            simp only [M.bind, e1] at h1
            obtain ⟨B2, R2, s2, k2⟩ := gN_step R1 s1 a1 e1
            have q2 := k2 v2 w2 a2 (n1 0 v2 w2 rfl rfl) hl'
            cases e2 : gN j w2 r2 with
            | fail => simp only [M.bind, e2] at h1; exact h1.elim
            | exc x r3 => exact absurd e2 gN_noexc
            | ok u r3 =>
              simp only [M.bind, e2] at h1
              obtain ⟨B3, R3, s3, _⟩ := gN_step R2 s2 q2 e2
              exact ⟨v1, v2, rfl, h1 _ B3 H1 s3 R3⟩
end
end Lc

set_option Elab.async false
set_option maxRecDepth 100000
set_option maxHeartbeats 4000000
/-! Part O: a law's end over FnG; names of the module and of Python. -/
namespace Lc
open PySem L2 PySem.Spec PyProof.Rows
section
variable {P : Program} {w : World} {K : PySem.W.Frag} {mg mb : Str → Option Value} {k : Nat} {fl ad : Addr} {fd : FuncData} {x : Str} {F : Fn}
/-- what the law's def promises of a script -/
theorem law_sp {H : Hp} {ns : List Int} {bs : List Bo} (hF : F [.dt (.scr ns)] = .ok (.dt (.bl true)) bs) (hS : SqL K H ad (ns.map V.int)) :
    spG K mg 1 F [.ref ad] H (fun v _ => v = .bl true) fun _ _ _ => False := by
  refine ⟨rfl, H, [.dt (.scr ns)], rfl, ⟨Same.refl H, rfl, fun i d q => by simp at q, fun z c q => ?_, fun i k q => by simp at q, fun k d q => ?_, fun z z' c c' a q => ?_⟩, ?_⟩
  · obtain ⟨k, rfl, e⟩ := cnt_bare q
    cases k <;> simp at e
  · cases k with
    | zero => simp at q; subst q; exact ⟨_, rfl, .scr hS⟩
    | succ k => simp at q
  · obtain ⟨k, rfl, e⟩ := cnt_bare q
    cases k <;> simp at e
  · rw [hF]
    intro v B' H' _ _ q
    cases q
    rfl
/-- from a heap in which nothing but the script is tracked -/
theorem law_core {s1 : Shared} {vs : List Value} {ns : List Int} {H : Hp} {bs : List Bo} (kin : K.In s1.heap) (hns : s1.heap.Ns mainGlobals mg) (hnb : s1.heap.Ns builtinsNs mb) (hbb : ∀ y : Str, y ≠ "__name__" → mb y = bootBuiltins y)
    (hlim : s1.heap.NoLimit) (hg : s1.gens = #[]) (ha : s1.heap.get? ad = some { cls := .type "list", data := .seq vs.toArray }) (hr : Room k callerA)
    (G : ∀ base : Heap, K.In base → base.Ns mainGlobals mg → FnG P w K mg base k fl fd [x] F) (hb : ∀ (s : Shared) (u : Value), BindsTo s fd ⟨[u], []⟩ [(x, u)]) (hF : F [.dt (.scr ns)] = .ok (.dt (.bl true)) bs)
    (only : ∀ b, H b ≠ none → b = ad ∧ ∃ o xs, H b = some (.frz o (.lst xs))) (hS : SqL K H ad (ns.map V.int)) (hok : HOk P w H s1.heap) (hK : H ad ≠ none → K.lookup ad = none) :
    codeAny (model P w) callerA (.call (.ref fl) ⟨[.ref ad], []⟩) (fun r s' => r = .ok (.ret (.bool true)) ∧ OldK s1.heap s'.heap ∧ s'.os = s1.os ∧ AllBare s'.gens) s1 := by
  have stay : ∀ {b : Addr} {o : Obj}, s1.heap.get? b = some o → H b = none → (hidT s1.heap H).get? b = some o := fun e n => hidT_get e n
  have notD : ∀ {b : Addr} {o : Obj} {es : Array DictEntry} {ep : Nat}, s1.heap.get? b = some o → o.data = .dict es ep → H b = none := fun {b o es ep} e d =>
    Classical.byContradiction fun n => by
      obtain ⟨rfl, _⟩ := only b n
      rw [ha] at e
      cases e
      exact nomatch d
  have nsS : ∀ {b : Addr} {m : Str → Option Value}, s1.heap.Ns b m → (hidT s1.heap H).Ns b m := fun {b m} ⟨o, es, ep, e, d, q⟩ => ⟨o, es, ep, stay e (notD e d), d, q⟩
  have kb : K.In (hidT s1.heap H) := fun b o e => stay (kin b o e) (Classical.byContradiction fun n => by
    obtain ⟨rfl, _⟩ := only b n
    rw [hK n] at e
    cases e)
  have md : Mod K mg (hidT s1.heap H) := ⟨kb, nsS hns, ⟨mb, nsS hnb, hbb⟩, by obtain ⟨mc, h1, h2⟩ := hlim; exact ⟨mc, nsS h1, h2⟩⟩
  have e0 : Env0 P w K mg (hidT s1.heap H) callerA [] s1 H := by
    refine ⟨rfl, md, fun b o e => of_hidT e, Nat.le_of_eq (hidT_size _ _), trivial, fun b hb => ?_, hok, .of_eq hg⟩
    have : b ∈ ([] : List Addr) := hb
    cases this
  refine codeAny_mono ((G _ kb (nsS hns)).run callerA [] s1 H ⟨[.ref ad], []⟩ [.ref ad] [.ref ad] _ _ hr rfl e0 (hb s1 (.ref ad)) (.cons rfl .nil) (law_sp hF hS)) fun res s2 hq => ?_
  cases res with
  | error u =>
    obtain ⟨_, _, _, _, _, _, _, _, _, _, _, _, z⟩ := hq
    exact z.elim
  | ok f1 =>
    cases f1 with
    | next => exact hq.elim
    | brk => exact hq.elim
    | cont => exact hq.elim
    | ret u =>
      obtain ⟨v, H2, os, bare, un, hok2, rv, q⟩ := hq
      have q' : v = .bl true := q
      subst q'
      have eu : u = Value.bool true := rv
      subst eu
      refine ⟨rfl, OldK.of_keep fun b o e => ?_, os, bare⟩
      by_cases n : H b = none
      · refine un.keep b o e n (fun z => ?_) (by simp)
        have : b ∈ ([] : List Addr) := z
        cases this
      · obtain ⟨_, ob, xs, z⟩ := only b n
        obtain ⟨e1, _⟩ := hok b _ z
        obtain ⟨e2, _⟩ := hok2 b _ (un.frzs b ob _ z)
        rw [e] at e1
        cases e1
        exact e2
end
/-- the law's row from its def: F's promise over every base, the answer True at every script -/
theorem walk_ofG {l : PySem.W.OpenLaw} {n k : Nat} {q : Program} {loose : List Str} {XP : (Str → Option Value) → Heap → Prop} {YP : World → Heap → Prop} {d : DefRec} {x : Str} (hn : l.most = some n) (hz : n ≤ sizeLine) (hdf : d.params.defaults = []) (hr : Room k callerA)
    (G : ∀ (w : World) (mg : Str → Option Value) (fl : Addr) (h : Heap), YP w h → h.Ns mainGlobals mg → mg d.name = some (.ref fl) → ∃ (K : PySem.W.Frag) (fd : FuncData) (F : Fn), K.In h ∧ (∀ (s : Shared) (u : Value), BindsTo s fd ⟨[u], []⟩ [(x, u)]) ∧
      (∀ ns : List Int, ns.length ≤ n → ∃ bs, F [.dt (.scr ns)] = .ok (.dt (.bl true)) bs) ∧ ∀ base : Heap, K.In base → base.Ns mainGlobals mg → FnG l.prog w K mg base k fl fd [x] F) :
    PySem.W.WalkO q loose XP YP l.row.toRowW d [] (fun f vs => PySem.call f vs) := by
  refine Att.attach_call hn hdf fun w s0 s1 mg mb fl o pm cd doc ad vs ns gr Y ho hd hcd hmg hobj hints hlen hg => ?_
  obtain ⟨K, fd, F, kin, hb, hF, hG⟩ := G w mg fl _ Y gr.T.g hmg
  obtain ⟨bs, hF⟩ := hF ns hlen
  have rv := vals_ints hints
  have hl : ns.length ≤ sizeLine := Nat.le_trans hlen hz
  have lv := hints.length
  cases hk : K.lookup ad with
  | some ob =>
    have e := kin ad ob hk
    rw [hobj] at e
    cases e
    refine law_core (H := fun _ => none) kin gr.T.g gr.T.b gr.T.builtins gr.T.nolimit hg hobj hr hG hb hF (fun b z => absurd rfl z) ?_ (fun b u z => nomatch z) fun z => absurd rfl z
    exact .inr ⟨_, vs.toArray, _, hk, rfl, rfl, rfl, by rw [List.size_toArray, lv]; exact hl, by simpa using rv⟩
  | none =>
    have hH : ∀ b u, (if b = ad then some (HO.frz { cls := .type "list", data := .seq vs.toArray } (.lst (ns.map V.int))) else none) = some u → b = ad ∧ u = HO.frz { cls := .type "list", data := .seq vs.toArray } (.lst (ns.map V.int)) := fun b u z => by
      split at z
      · cases z; exact ⟨by assumption, rfl⟩
      · cases z
    refine law_core (H := fun b => if b = ad then some (.frz { cls := .type "list", data := .seq vs.toArray } (.lst (ns.map V.int))) else none) kin gr.T.g gr.T.b gr.T.builtins gr.T.nolimit hg hobj hr hG hb hF (fun b z => ?_) (.inl (.inr ⟨_, if_pos rfl⟩)) (fun b u z => ?_) fun _ => hk
    · by_cases e : b = ad
      · exact ⟨e, _, _, if_pos e⟩
      · exact absurd (if_neg e) z
    · obtain ⟨rfl, rfl⟩ := hH b u z
      exact ⟨hobj, by rw [List.length_map]; exact hl, vs, _, rv, hobj⟩

/-! ### names -/
section
variable {X : Cx} {x : Str} {pos p : Pos} {e : Expr} {es : List Expr} {f : M (List W)} {id : String}
theorem de_glo {v : V} {d : D} {u : Value} (hg : Gl X x) (hm : X.mg x = some u) (hv : RelV v u) (hr : ∀ B, Rp X.K B v d) (hd : (x == ("__debug__" : Str)) = false) : DE X (.Name x pos) (cC d) := de_const (pe_glob hg hm hv hd) hr
theorem de_bty {T : String} (hg : Gl X x) (hm : X.mg x = none) (hv : bootBuiltins x = some (.type T)) (hn : x ≠ "__name__") (hd : (x == ("__debug__" : Str)) = false) : DE X (.Name x pos) (cC (.ty T)) := de_const (pe_bltn (v := .ty T) hg hm hv rfl hn hd) fun _ => .ty T
theorem de_callB {rr : List V → Hp → VK → Prop} {g : List D → Option Bo} (hc : CallR X (.builtin id) rr) (hs : CallS X rr g) (hg : Gl X x) (hm : X.mg x = none) (hv : bootBuiltins x = some (.builtin id)) (ha : DA X (e :: es) f) (hn : x ≠ "__name__") (hdb : (x == ("__debug__" : Str)) = false)
    (he : starEach (e :: es) X.env = (false, eval e X.env) :: starEach es X.env) (hpl : (backTo pos (starEach es X.env)).any (·.1) = false) : DE X (.Call (.Name x p) (e :: es) [] pos) (cCallP g f) :=
  de_callP (fun _ pa => pe_callB hc hg hm hv pa hn hdb he hpl) hs ha
theorem de_callT {rr : List V → Hp → VK → Prop} {g : List D → Option Bo} (hc : CallR X (.type id) rr) (hs : CallS X rr g) (hg : Gl X x) (hm : X.mg x = none) (hv : bootBuiltins x = some (.type id)) (ha : DA X (e :: es) f) (hn : x ≠ "__name__") (hdb : (x == ("__debug__" : Str)) = false)
    (he : starEach (e :: es) X.env = (false, eval e X.env) :: starEach es X.env) (hpl : (backTo pos (starEach es X.env)).any (·.1) = false) : DE X (.Call (.Name x p) (e :: es) [] pos) (cCallP g f) :=
  de_callP (fun _ pa => pe_callTy hc hg hm hv pa hn hdb he hpl) hs ha
end
end Lc

set_option Elab.async false
set_option maxRecDepth 100000
set_option maxHeartbeats 4000000
/-! Part P: what a printed proof names. -/
namespace Lc
open PySem L2 PySem.Spec PyProof.Rows
def visB (sc : Scope) (x : Str) : Bool := match sc.names.lookup x with
  | some .local => true
  | some .cell => true
  | some .free => true
  | _ => false
def locB (sc : Scope) (x : Str) : Bool := match sc.names.lookup x with
  | some .local => true
  | some .cell => true
  | _ => false
theorem vis_by {sc : Scope} {x : Str} (h : visB sc x = true) : Vis sc x := by
  unfold visB at h
  split at h
  · exact .inl (by assumption)
  · exact .inr (.inl (by assumption))
  · exact .inr (.inr (by assumption))
  · cases h
theorem loc_by {sc : Scope} {x : Str} (h : locB sc x = true) : Loc sc x := by
  unfold locB at h
  split at h
  · exact .inl (by assumption)
  · exact .inr (by assumption)
  · cases h
/-- a def that may be called: by values, by its parameters' names -/
structure CalG (P : Program) (w : World) (K : PySem.W.Frag) (mg : Str → Option Value) (base : Heap) (k : Nat) (x : Str) (ps : List Str) (F : Fn) : Prop where
  ex : ∃ f fd, FnG P w K mg base k f fd ps F ∧ mg x = some (.ref f) ∧ PySem.W.keepIn K (.ref f) = true ∧ Binds K fd ps [] ∧ ∀ (s : Shared) (ws : List Value), K.In s.heap → ws.length = ps.length → BindsTo s fd ⟨[], ps.zip ws⟩ (ps.zip ws)
/-- names that the module does not bind -/
def FreeN (l : List Str) (mg : Str → Option Value) : Prop := ∀ (i : Nat) (x : Str), l[i]? = some x → mg x = none
section
variable {P : Program} {w : World} {K : PySem.W.Frag} {mg : Str → Option Value} {base : Heap} {x qual : Str} {params : Arguments} {body : List Stmt} {scope : Scope} {f : Addr} {fd : FuncData} {ps : List Str} {k : Nat} {F : Fn}
theorem cal_of (D : FunD K x qual params body scope [] [] f fd) (G : FnG P w K mg base k f fd ps F) (hm : mg x = some (.ref f)) 
    (h1 : ∀ (kV doc pm : Value) (an : Option Addr) (cdv ct : Value) (us : List Value), us.length = ps.length → bindArgs (PySem.W.fnOf x qual params body scope .none kV doc pm an cdv ct) ⟨us, []⟩ = pure (ps.zip us))
    (h2 : ∀ (kV doc pm : Value) (an : Option Addr) (cdv ct : Value) (us : List Value), us.length = ps.length → bindArgs (PySem.W.fnOf x qual params body scope .none kV doc pm an cdv ct) ⟨[], ps.zip us⟩ = pure (ps.zip us)) : CalG P w K mg base k x ps F := by
  refine ⟨f, fd, G, hm, D.kp, D.bindsN h1, fun s ws _ hl => ?_⟩
  obtain ⟨oc, od, dV, kV, doc, pm, an, cdv, ct, osl, rfl, lk, hcd, hD, hK⟩ := D.ex
  rcases hD with ⟨_, rfl⟩ | ⟨e, _⟩
  · exact .of_eq (h2 kV doc pm an cdv ct ws hl)
  · exact absurd rfl e
/-- a def of the text does what its body denotes -/
theorem fnG_ofD {N : List Str} {bd : M Fl} {n : Nat} (D : FunD K x qual params body scope [] [] f fd) (S : FnScope N ps scope) (hn : N.length = n)
    (hbody : ∀ (cdv : Value) (A : Around) (outer : List Env) (s : Shared) (H : Hp) (E : XK), Room k (A.deeper (envOfC qual scope s.heap.objs.size f cdv)) → A.guards = some [] →
      DSs (cxOf (L2.CX P w) P w K mg base N qual scope f cdv A outer s H E) body bd) : FnG P w K mg base (k + 1) f fd ps (runF n bd) := by
  subst hn
  obtain ⟨oc, od, dV, kV, doc, pm, an, cdv, ct, osl, rfl, lk, hcd, _, _⟩ := D.ex
  refine ⟨fun A outer s H args us vs Q E hr hgu e0 hb rv ⟨hl, B, as, ha, R, hp⟩ => ?_⟩
  have inK : K.In s.heap := e0.mod.kin.keeps fun b o e => (e0.bs b o e).1
  have nolim : s.heap.NoLimit := e0.mod.nolimit.keeps fun b o e => (e0.bs b o e).1
  have kinds : ∀ y ∈ ps.zip us, scope.names.lookup y.1 = some .local ∨ (scope.names.lookup y.1 = some .cell ∧ ((cellsFrom (s.heap.objs.size + 1) scope.names []).lookup y.1).isSome = true) := by
    rintro ⟨y, u⟩ hy
    rcases S.par y (List.of_mem_zip hy).1 with q | q
    · exact Or.inl q
    · exact Or.inr ⟨q, PySem.W.cellsFrom_some _ _ _ (Or.inl q)⟩
  refine codeAny_call_function hr.depth (inK _ _ lk) rfl S.co S.gen rfl (PySem.W.codeRec_of inK hcd) (hb _ _ _ _ ?_)
  refine wpAny_newFunctionEnv_cells S.kind kinds fun env he s1 ic => ?_
  subst he
  refine ⟨nolim.keeps ic.toInCall.keep, codeAny_func ?_⟩
  obtain ⟨t, pt, qt⟩ := (hbody cdv A outer s H E (hr.deeper _) hgu).run _ (takes_of rfl rfl rfl rfl)
  have I := inv_start (CX := L2.CX P w) (P := P) (w := w) (K := K) (mg := mg) (base := base) (N := N) (qual := qual) (f := f) (cd := cdv) (E := E) S hr.hd e0 hl rv ic
  have q := qt vs B (L2.start N vs) H (entry N.length as) _ (entry_rl R (hl.trans ha.symm)) (runF_ok rfl rfl R (hl.trans ha.symm) hp)
  refine wpAny_mono (pt.run [] s1 (L2.start N vs) H _ I q) (fun fl s2 hs => ?_) fun e s2 hs => hs
  cases fl with
  | ret u =>
    obtain ⟨v, σ2, H2, J, ru, z⟩ := hs
    exact ⟨v, H2, J.os, J.bare, J.base, J.hok, ru, z⟩
  | next =>
    obtain ⟨σ2, H2, J, z⟩ := hs
    exact ⟨.non, H2, J.os, J.bare, J.base, J.hok, rfl, z⟩
  | brk => obtain ⟨_, _, _, z⟩ := hs; exact z.elim
  | cont => obtain ⟨_, _, _, z⟩ := hs; exact z.elim
end
section
variable {X : Cx} {k : Nat} {ps : List Str} {F : Fn} {x : Str} {p pos : Pos} {e : Expr} {es : List Expr} {kws : List Keyword} {g : M (List W)}
theorem de_callC (C : CalG X.prog X.w X.K X.mg X.base k x ps F) (hr : Room k X.A) (hgu : X.A.guards = some []) (hg : Gl X x) (ha : DA X (e :: es) g) (hn : ArgN g ps.length)
    (hdb : (x == ("__debug__" : Str)) = false) (he : starEach (e :: es) X.env = (false, eval e X.env) :: starEach es X.env) (hpl : (backTo pos (starEach es X.env)).any (·.1) = false) : DE X (.Call (.Name x p) (e :: es) [] pos) (cCall F g) := by
  obtain ⟨f, fd, G, hm, hk, hb, _⟩ := C.ex
  exact de_call G hr hgu hg hm hk hb ha hn hdb he hpl
theorem de_callC0 (C : CalG X.prog X.w X.K X.mg X.base k x [] F) (hr : Room k X.A) (hgu : X.A.guards = some []) (hg : Gl X x) (hdb : (x == ("__debug__" : Str)) = false) : DE X (.Call (.Name x p) [] [] pos) (cCall F (M.ret [])) := by
  obtain ⟨f, fd, G, hm, hk, hb, _⟩ := C.ex
  exact de_call0 G hr hgu hg hm hk hb hdb
theorem de_callCK (C : CalG X.prog X.w X.K X.mg X.base k x ps F) (hr : Room k X.A) (hgu : X.A.guards = some []) (hg : Gl X x) (ha : DK X kws g) (hn : ArgN g ps.length)
    (hdb : (x == ("__debug__" : Str)) = false) (hall : (backToKw pos (keywordEach kws X.env)).all (·.1.isSome) = true) (hks : (backToKw pos (keywordEach kws X.env)).filterMap (·.1) = ps)
    (hpl : ((backTo pos (starEach [] X.env)).any (·.1) || (backToKw pos (keywordEach kws X.env)).any (·.1.isNone)) = false) : DE X (.Call (.Name x p) [] kws pos) (cCall F g) := by
  obtain ⟨f, fd, G, hm, hk, _, hb⟩ := C.ex
  exact de_callK G hr hgu hg hm hk hb ha hn hdb hall hks hpl
theorem de_gloS {z : Str} (hg : Gl X x) (hm : ∃ t, X.mg x = some (.str z t)) (hd : (x == ("__debug__" : Str)) = false) : DE X (.Name x pos) (cC (.str z)) := by
  obtain ⟨t, hm⟩ := hm
  exact de_glo (v := .str z) hg hm ⟨t, rfl⟩ (fun _ => .str z) hd
theorem de_gloI {z : Int} (hg : Gl X x) (hm : ∃ t, X.mg x = some (.int z t)) (hd : (x == ("__debug__" : Str)) = false) : DE X (.Name x pos) (cC (.int z)) := by
  obtain ⟨t, hm⟩ := hm
  exact de_glo (v := .int z) hg hm ⟨t, rfl⟩ (fun _ => .int z) hd
end
theorem room_u {k : Nat} {A : Around} (r : Room k A) (n : Nat) (h : n ≤ 200) : A.units + n < cLine := by have := r.un; omega
end Lc

set_option Elab.async false
set_option maxRecDepth 100000
set_option maxHeartbeats 4000000
/-! Part Q: the denotations computed by simp. -/
namespace Lc
open PySem L2
section
variable {α β : Type} {r r1 : Rho} {m : M α} {f : α → M β}
@[simp] theorem q_bind : M.bind m f r = (match m r with | .ok a r1 => f a r1 | .exc x r1 => .exc x r1 | .fail => .fail) := rfl
@[simp] theorem q_ret {a : α} : M.ret a r = .ok a r := rfl
@[simp] theorem q_no : (M.no : M α) r = .fail := rfl
@[simp] theorem q_optS {a : α} : M.opt (some a) r = .ok a r := rfl
@[simp] theorem q_optN : M.opt (none : Option α) r = .fail := rfl
@[simp] theorem q_view {w : W} : M.view w r = (match w.view r with | some d => .ok d r | none => .fail) := rfl
@[simp] theorem q_wd {d : D} : W.view r (.dt d) = some d := rfl
@[simp] theorem q_wf {c : Cn} : W.view r (.fresh c) = some c.toD := rfl
@[simp] theorem q_wc {z : Ix} : W.view r (.cel z) = r.look z := rfl
@[simp] theorem q_tl {l : List D} : Cn.toD (.lst l) = .lst l := rfl
@[simp] theorem q_td {l : List (D × D)} : Cn.toD (.dct l) = .dct l := rfl
@[simp] theorem q_ll {i : Nat} {l : List (Option Sl)} {b : List Bo} : Rho.look ⟨l, b⟩ (.loc i) = (match l[i]? with | some (some (.own c)) => some c.toD | some (some (.dt d)) => some d | _ => none) := rfl
@[simp] theorem q_lb {i : Nat} {l : List (Option Sl)} {b : List Bo} : Rho.look ⟨l, b⟩ (.bor i) = (match b[i]? with | some (.own c) => some c.toD | some (.dt d) => some d | _ => none) := rfl
@[simp] theorem q_cl {i : Nat} {l : List (Option Sl)} {b : List Bo} : Rho.cnt ⟨l, b⟩ (.loc i) = (match l[i]? with | some (some (.own c)) => some c | _ => none) := rfl
@[simp] theorem q_cb {i : Nat} {l : List (Option Sl)} {b : List Bo} : Rho.cnt ⟨l, b⟩ (.bor i) = (match b[i]? with | some (.own c) => some c | _ => none) := rfl
@[simp] theorem q_sl {i : Nat} {l : List (Option Sl)} {b : List Bo} {c : Cn} : Rho.setc ⟨l, b⟩ c (.loc i) = ⟨l.set i (some (.own c)), b⟩ := rfl
@[simp] theorem q_sb {i : Nat} {l : List (Option Sl)} {b : List Bo} {c : Cn} : Rho.setc ⟨l, b⟩ c (.bor i) = ⟨l, b.set i (.own c)⟩ := rfl
@[simp] theorem q_fl {i : Nat} {l : List (Option Sl)} {b : List Bo} {d : D} : Rho.frz ⟨l, b⟩ d (.loc i) = ⟨l.set i (some (.dt d)), b⟩ := rfl
@[simp] theorem q_fb {i : Nat} {l : List (Option Sl)} {b : List Bo} {d : D} : Rho.frz ⟨l, b⟩ d (.bor i) = ⟨l, b.set i (.dt d)⟩ := rfl
@[simp] theorem q_put {i : Nat} {l : List (Option Sl)} {b : List Bo} {s : Sl} : Rho.put ⟨l, b⟩ i s = ⟨l.set i (some s), b⟩ := rfl
@[simp] theorem q_giveS {b : Bo} : M.give (some b) r = .ok b.toW r := rfl
@[simp] theorem q_giveN : M.give none r = .fail := rfl
@[simp] theorem q_bod {d : D} : Bo.toW (.dt d) = .dt d := rfl
@[simp] theorem q_boo {c : Cn} : Bo.toW (.own c) = .fresh c := rfl
@[simp] theorem q_chk {c : Bool} : M.chk c r = if c = true then .ok () r else .fail := rfl
@[simp] theorem q_var {i : Nat} : cVar i r = (match r.loc[i]? with | some (some (.dt d)) => .ok (.dt d) r | some (some (.own _)) => .ok (.cel (.loc i)) r | some (some (.bor k)) => .ok (.cel (.bor k)) r | _ => .fail) := rfl
@[simp] theorem q_c {d : D} : cC d r = .ok (.dt d) r := rfl
variable {fa fb fc : M W} {ga gb : M Bool} {g g' : D → D → Option Bo} {g1 : D → Option Bo} {gl : List D → Option Bo} {fs : M (List W)}
@[simp] theorem q_op2 : cOp2 g fa fb = M.bind fa fun wa => M.bind fb fun wb => M.bind (M.view wa) fun da => M.bind (M.view wb) fun db => M.give (g da db) := rfl
@[simp] theorem q_op1 : cOp1 g1 fa = M.bind fa fun wa => M.bind (M.view wa) fun da => M.give (g1 da) := rfl
@[simp] theorem q_tru : cTru fa = M.bind fa fun w => M.bind (M.view w) fun d => M.opt d.tru := rfl
@[simp] theorem q_bl : M.bl fa = M.bind fa W.asB := rfl
@[simp] theorem q_asB {b : Bool} : W.asB (.dt (.bl b)) = M.ret b := rfl
@[simp] theorem q_asI {i : Int} : W.asI (.dt (.int i)) = M.ret (some i) := rfl
@[simp] theorem q_asS {i : Str} : W.asS (.dt (.str i)) = M.ret i := rfl
@[simp] theorem q_andT : cAndT ga gb = M.bind ga fun k => if k = true then gb else M.ret false := rfl
@[simp] theorem q_orT : cOrT ga gb = M.bind ga fun k => if k = true then M.ret true else gb := rfl
@[simp] theorem q_notT : cNotT ga = M.bind ga fun k => M.ret (!k) := rfl
@[simp] theorem q_and : cAnd fa fb = M.bind fa fun w => M.bind (M.view w) fun d => M.bind (M.opt d.tru) fun k => if k = true then fb else M.ret w := rfl
@[simp] theorem q_or : cOr fa fb = M.bind fa fun w => M.bind (M.view w) fun d => M.bind (M.opt d.tru) fun k => if k = true then M.ret w else fb := rfl
@[simp] theorem q_not : cNot fa = M.bind (cTru fa) fun k => M.ret (.dt (.bl (!k))) := rfl
@[simp] theorem q_ifE : cIfE ga fa fb = M.bind ga fun k => if k = true then fa else fb := rfl
@[simp] theorem q_trb {b : Bool} : D.tru (.bl b) = some b := rfl
@[simp] theorem q_chain : cChain g g' fa fb fc = M.bind fa fun wa => M.bind fb fun wb => M.bind (M.view wa) fun da => M.bind (M.view wb) fun db => match g da db with
  | some (.dt (.bl true)) => M.bind fc fun wc => M.bind (M.view wb) fun db => M.bind (M.view wc) fun dc => M.give (g' db dc)
  | some (.dt (.bl false)) => M.ret (.dt (.bl false))
  | _ => M.no := rfl
@[simp] theorem q_frzD {d : D} : W.frz (.dt d) r = .ok d r := rfl
@[simp] theorem q_frzF {c : Cn} : W.frz (.fresh c) r = .ok c.toD r := rfl
@[simp] theorem q_frzC {z : Ix} : W.frz (.cel z) r = (match r.cnt z with | some c => .ok c.toD (r.frz c.toD z) | none => match r.look z with | some d => .ok d r | none => .fail) := rfl
@[simp] theorem q_fan : frzAll [] = M.ret [] := rfl
@[simp] theorem q_fac {w : W} {ws : List W} : frzAll (w :: ws) = M.bind w.frz fun d => M.bind (frzAll ws) fun ds => M.ret (d :: ds) := rfl
@[simp] theorem q_van : viewAll [] = M.ret [] := rfl
@[simp] theorem q_vac {w : W} {ws : List W} : viewAll (w :: ws) = M.bind (M.view w) fun d => M.bind (viewAll ws) fun ds => M.ret (d :: ds) := rfl
@[simp] theorem q_cons : cCons fa fs = M.bind fa fun w => M.bind fs fun ws => M.ret (w :: ws) := rfl
@[simp] theorem q_lst : cLst fs = M.bind fs fun ws => M.bind (frzAll ws) fun ds => M.bind (M.chk (decide (ds.length ≤ sizeLine))) fun _ => M.ret (.fresh (.lst ds)) := rfl
@[simp] theorem q_tup : cTup fs = M.bind fs fun ws => M.bind (frzAll ws) fun ds => M.bind (M.chk (decide (ds.length ≤ sizeLine))) fun _ => M.ret (.dt (.tup ds)) := rfl
@[simp] theorem q_callP : cCallP gl fs = M.bind fs fun ws => M.bind (viewAll ws) fun ds => M.give (gl ds) := rfl
@[simp] theorem q_csl {gs : D → Option Int → Option Int → Option Bo} {lo hi : M (Option Int)} : cSl gs fa lo hi = M.bind fa fun w => M.bind lo fun lo => M.bind hi fun hi => M.bind (M.view w) fun d => M.give (gs d lo hi) := rfl
@[simp] theorem q_m1 {gm : Str → List D → Option Bo} : cM1 gm fa fb = M.bind fa fun wo => M.bind wo.asS fun a => M.bind fb fun we => M.bind (M.view we) fun d => M.give (gm a [d]) := rfl
@[simp] theorem q_m0 {gm : Str → List D → Option Bo} : cM0 gm fa = M.bind fa fun wo => M.bind wo.asS fun a => M.give (gm a []) := rfl
@[simp] theorem q_dct0 : cDct0 = M.ret (.fresh (.dct [])) := rfl
@[simp] theorem q_dct : cDct fs = M.bind fs fun ws => M.bind (frzAll ws) fun ds => M.bind (M.opt (pairsD ds)) fun l => M.bind (M.chk (decide (l.length ≤ 15))) fun _ => M.ret (.fresh (.dct (mergeD [] l))) := rfl
variable {sf sg : M Fl} {T : W → M Unit}
@[simp] theorem q_seq : cSeq sf sg r = (match sf r with | .ok .next r1 => sg r1 | x => x) := rfl
@[simp] theorem q_drop : cDrop fa = M.bind fa fun _ => M.ret .next := rfl
@[simp] theorem q_cret : cRet fa = M.bind fa fun w => M.ret (.ret w) := rfl
@[simp] theorem q_ifS : cIfS ga sf sg = M.bind ga fun k => if k = true then sf else sg := rfl
@[simp] theorem q_asg : cAsg fa T = M.bind fa fun w => M.bind (T w) fun _ => M.ret .next := rfl
@[simp] theorem q_for {fi : M (List D)} : cFor fi T sf = M.bind fi (loopL T sf) := rfl
@[simp] theorem q_gN {i : Nat} {w : W} : gN i w = M.bind (settle w) fun sl => fun r => if i < r.loc.length then .ok () (r.put i sl) else .fail := rfl
@[simp] theorem q_sed {d : D} : settle (.dt d) r = .ok (.dt d) r := rfl
@[simp] theorem q_sef {c : Cn} : settle (.fresh c) r = .ok (.own c) r := rfl
@[simp] theorem q_seb {k : Nat} : settle (.cel (.bor k)) r = .ok (.bor k) r := rfl
@[simp] theorem q_sec {i : Nat} : settle (.cel (.loc i)) r = (match r.cnt (.loc i) with | some c => .ok (.dt c.toD) (r.frz c.toD (.loc i)) | none => match r.look (.loc i) with | some d => .ok (.dt d) r | none => .fail) := rfl
@[simp] theorem q_gT {n : Nat} {h : List D → M Unit} {ds : List D} : gT n h (.dt (.tup ds)) = M.bind (M.chk (decide (ds.length = n))) fun _ => h ds := rfl
@[simp] theorem q_gsn : gsNil [] = M.ret () := rfl
@[simp] theorem q_gsc {h : List D → M Unit} {d : D} {ds : List D} : gsCons T h (d :: ds) = M.bind (T (.dt d)) fun _ => h ds := rfl
@[simp] theorem q_gix {d : D} : gIx fa fb (.dt d) = M.bind fa fun wo => M.bind fb fun wi => match wo, wi with
    | .cel z, .dt (.int i) => fun r => match r.cnt z with
      | some (.lst ds) => match ixN ds.length i with
        | some j => .ok () (r.setc (.lst (ds.set j d)) z)
        | none => .fail
      | _ => .fail
    | _, _ => M.no := rfl
@[simp] theorem q_par {i j : Nat} : cPar2 i j fs = M.bind fs fun ws => match ws with
  | [w1, w2] => if w2.isLoc i = true then M.no else M.bind (gN i w1) fun _ => M.bind (gN j w2) fun _ => M.ret .next
  | _ => M.no := rfl
@[simp] theorem q_isd {i : Nat} {d : D} : W.isLoc i (.dt d) = false := rfl
@[simp] theorem q_isf {i : Nat} {c : Cn} : W.isLoc i (.fresh c) = false := rfl
@[simp] theorem q_isb {i k : Nat} : W.isLoc i (.cel (.bor k)) = false := rfl
@[simp] theorem q_isl {i k : Nat} : W.isLoc i (.cel (.loc k)) = decide (k = i) := rfl
@[simp] theorem q_its {x : Str} : W.items (.dt (.str x)) = M.ret (signs x) := rfl
@[simp] theorem q_itt {l : List D} : W.items (.dt (.tup l)) = M.ret l := rfl
@[simp] theorem q_itl {l : List D} : W.items (.dt (.lst l)) = M.ret l := rfl
@[simp] theorem q_itf {l : List D} : W.items (.fresh (.lst l)) = M.ret l := rfl
@[simp] theorem q_rng1 {j : Int} : W.rng1 [.dt (.int j)] = M.bind (M.chk (decide (-(2 ^ 62) ≤ j ∧ j < 2 ^ 62))) fun _ => M.ret (rngD 0 j.toNat) := rfl
@[simp] theorem q_rng2 {i j : Int} : W.rng2 [.dt (.int i), .dt (.int j)] = M.bind (M.chk (decide (-(2 ^ 62) ≤ i ∧ i < 2 ^ 62 ∧ -(2 ^ 62) ≤ j ∧ j < 2 ^ 62))) fun _ => M.ret (rngD i (j - i).toNat) := rfl
@[simp] theorem q_wipe {l : List (Option Sl)} {b : List Bo} {own : List Nat} : Rho.wipe ⟨l, b⟩ own = ⟨wipeG l own, b⟩ := rfl
@[simp] theorem q_wgn {l : List (Option Sl)} : wipeG l [] = l := rfl
@[simp] theorem q_wgc {l : List (Option Sl)} {v : Nat} {vs : List Nat} : wipeG l (v :: vs) = (wipeG l vs).set v none := rfl
@[simp] theorem q_back {l : List (Option Sl)} {b : List Bo} {re : Rho} {own : List Nat} : Rho.back ⟨l, b⟩ re own = ⟨backL l re.loc own, re.bor⟩ := rfl
@[simp] theorem q_bkn {l l' : List (Option Sl)} : backL l l' [] = l' := rfl
@[simp] theorem q_bkc {l l' : List (Option Sl)} {v : Nat} {vs : List Nat} : backL l l' (v :: vs) = (match l[v]? with | some x => (backL l l' vs).set v x | none => backL l l' vs) := by rw [backL]; cases l[v]? <;> rfl
@[simp] theorem q_noOwn {l : List (Option Sl)} {b : List Bo} {own : List Nat} : Rho.noOwn ⟨l, b⟩ own = own.all fun i => match l[i]? with | some (some (.own _)) => false | _ => true := rfl
@[simp] theorem q_lc {fi : M (List D)} {own : List Nat} : cLc fi own T ga fa = M.bind fi fun ds => fun r1 => if r1.noOwn own = true then
  match lcLoop own T ga fa ds [] (r1.wipe own) with
  | .ok acc re => .ok (.fresh (.lst acc)) (r1.back re own)
  | _ => .fail
  else .fail := rfl
@[simp] theorem q_agd {d : D} : argOf r (.dt d) = some (.dt d) := rfl
@[simp] theorem q_agf {c : Cn} : argOf r (.fresh c) = some (.own c) := rfl
@[simp] theorem q_agc {z : Ix} : argOf r (.cel z) = (match r.cnt z with | some c => some (.own c) | none => match r.look z with | some d => some (.dt d) | none => none) := rfl
@[simp] theorem q_asn : argsOf r [] = some [] := rfl
@[simp] theorem q_asc {w : W} {ws : List W} : argsOf r (w :: ws) = (match argOf r w, argsOf r ws with | some b, some bs => some (b :: bs) | _, _ => none) := rfl
@[simp] theorem q_ced {d : D} : celOf r (.dt d) = none := rfl
@[simp] theorem q_cef {c : Cn} : celOf r (.fresh c) = none := rfl
@[simp] theorem q_cec {z : Ix} : celOf r (.cel z) = (match r.cnt z with | some _ => some z | none => none) := rfl
@[simp] theorem q_apn : apart r [] = true := rfl
@[simp] theorem q_apc {w : W} {ws : List W} : apart r (w :: ws) = ((match celOf r w with | some z => ws.all fun u => decide (celOf r u ≠ some z) | none => true) && apart r ws) := rfl
@[simp] theorem q_fi0 {z : Ix} {bs : List Bo} : findArg z [] bs = none := by cases bs <;> rfl
@[simp] theorem q_fic {z z' : Ix} {ws : List W} {b : Bo} {bs : List Bo} : findArg z (.cel z' :: ws) (b :: bs) = if z' = z then some b else findArg z ws bs := rfl
@[simp] theorem q_fid {z : Ix} {d : D} {ws : List W} {b : Bo} {bs : List Bo} : findArg z (.dt d :: ws) (b :: bs) = findArg z ws bs := rfl
@[simp] theorem q_fif {z : Ix} {c : Cn} {ws : List W} {b : Bo} {bs : List Bo} : findArg z (.fresh c :: ws) (b :: bs) = findArg z ws bs := rfl
@[simp] theorem q_usn {ws : List W} {bs : List Bo} {i : Nat} : upSl ws bs i none = none := rfl
@[simp] theorem q_usd {ws : List W} {bs : List Bo} {i : Nat} {d : D} : upSl ws bs i (some (.dt d)) = some (.dt d) := rfl
@[simp] theorem q_usb {ws : List W} {bs : List Bo} {i k : Nat} : upSl ws bs i (some (.bor k)) = some (.bor k) := rfl
@[simp] theorem q_uso {ws : List W} {bs : List Bo} {i : Nat} {c : Cn} : upSl ws bs i (some (.own c)) = (match findArg (.loc i) ws bs with | some (.own c') => some (.own c') | some (.dt d) => some (.dt d) | none => some (.own c)) := rfl
@[simp] theorem q_ubd {ws : List W} {bs : List Bo} {i : Nat} {d : D} : upBo ws bs i (.dt d) = .dt d := rfl
@[simp] theorem q_ubo {ws : List W} {bs : List Bo} {i : Nat} {c : Cn} : upBo ws bs i (.own c) = (match findArg (.bor i) ws bs with | some b => b | none => .own c) := rfl
@[simp] theorem q_aft {l : List (Option Sl)} {b : List Bo} {ws : List W} {bs : List Bo} : Rho.after ⟨l, b⟩ ws bs = ⟨l.mapIdx (upSl ws bs), b.mapIdx (upBo ws bs)⟩ := rfl
@[simp] theorem q_call {F : Fn} : cCall F fs = M.bind fs fun ws => fun r => match argsOf r ws with
  | some as => if apart r ws = true then match F as with
      | .ok b bs => .ok b.toW (r.after ws bs)
      | .exc x bs => .exc x (r.after ws bs)
      | .fail => .fail
    else .fail
  | none => .fail := rfl
@[simp] theorem q_eln {k : Nat} : entryL k [] = [] := rfl
@[simp] theorem q_eld {k : Nat} {d : D} {as : List Bo} : entryL k (.dt d :: as) = some (.dt d) :: entryL (k + 1) as := rfl
@[simp] theorem q_elo {k : Nat} {c : Cn} {as : List Bo} : entryL k (.own c :: as) = some (.bor k) :: entryL (k + 1) as := rfl
@[simp] theorem q_ent {n : Nat} {as : List Bo} : entry n as = ⟨entryL 0 as ++ List.replicate (n - as.length) none, as⟩ := rfl
@[simp] theorem q_fid2 {d : D} : finish (.dt d) r = .ok (.dt d) r.bor := rfl
@[simp] theorem q_fif2 {c : Cn} : finish (.fresh c) r = .ok (.own c) r.bor := rfl
@[simp] theorem q_fil {i : Nat} : finish (.cel (.loc i)) r = (match r.cnt (.loc i) with | some c => .ok (.own c) r.bor | none => match r.look (.loc i) with | some d => .ok (.dt d) r.bor | none => .fail) := rfl
@[simp] theorem q_fib {k : Nat} : finish (.cel (.bor k)) r = (match r.cnt (.bor k) with | some c => .ok (.dt c.toD) (r.frz c.toD (.bor k)).bor | none => match r.look (.bor k) with | some d => .ok (.dt d) r.bor | none => .fail) := rfl
theorem q_run {n : Nat} {b : M Fl} {as : List Bo} : runF n b as = (match b (entry n as) with | .ok .next r => .ok (.dt .non) r.bor | .ok (.ret w) r => finish w r | .ok _ _ => .fail | .exc x r => .exc x r.bor | .fail => .fail) := rfl
@[simp] theorem q_iD {i : Int} : iD i = some (.dt (.int i)) := rfl
@[simp] theorem q_bD {i : Bool} : bD i = some (.dt (.bl i)) := rfl
@[simp] theorem q_sD {i : Str} : sD i = some (.dt (.str i)) := rfl
theorem q_size : sizeLine = 16777216 := sizeLine_eq
/-- a loop that goes through -/
theorem loopL_inv {T : W → M Unit} {body : M Fl} (I : Rho → Prop) : ∀ (ds : List D) (r : Rho), I r → (∀ d ∈ ds, ∀ r, I r → ∃ r1 r2, T (.dt d) r = .ok () r1 ∧ body r1 = .ok .next r2 ∧ I r2) → ∃ r', loopL T body ds r = .ok .next r' ∧ I r'
  | [], r, h, _ => ⟨r, rfl, h⟩
  | d :: ds, r, h, k => by
    obtain ⟨r1, r2, e1, e2, h2⟩ := k d List.mem_cons_self r h
    obtain ⟨r', e3, h3⟩ := loopL_inv I ds r2 h2 fun x hx => k x (List.mem_cons_of_mem _ hx)
    exact ⟨r', by simp only [loopL, e1, e2, e3], h3⟩
/-- a comprehension without tests: each step's value by a relation -/
theorem lc_inv {own : List Nat} {T : W → M Unit} {fe : M W} (I : Rho → Prop) (G : D → Prop) : ∀ (ds : List D) (acc : List D) (r : Rho), acc.length + ds.length ≤ sizeLine → I r →
    (∀ d ∈ ds, ∀ r, I r → ∃ r1 w r3 y r4, T (.dt d) r = .ok () r1 ∧ fe r1 = .ok w r3 ∧ w.frz r3 = .ok y r4 ∧ G y ∧ I (r4.wipe own)) →
    ∃ ys r', lcLoop own T (M.ret true) fe ds acc r = .ok (acc ++ ys) r' ∧ I r' ∧ ys.length = ds.length ∧ ∀ y ∈ ys, G y
  | [], acc, r, _, h, _ => ⟨[], r, by rw [List.append_nil]; rfl, h, rfl, fun _ z => nomatch z⟩
  | d :: ds, acc, r, hl, h, k => by
    obtain ⟨r1, w, r3, y, r4, e1, e2, e3, hg, h2⟩ := k d List.mem_cons_self r h
    rw [List.length_cons] at hl
    obtain ⟨ys, r', e4, h3, h5, h6⟩ := lc_inv (own := own) (T := T) (fe := fe) I G ds (acc ++ [y]) (r4.wipe own) (by rw [List.length_append, List.length_singleton]; omega) h2 fun x hx => k x (List.mem_cons_of_mem _ hx)
    refine ⟨y :: ys, r', ?_, h3, by rw [List.length_cons, List.length_cons, h5], fun z hz => ?_⟩
    · have hlt : acc.length < sizeLine := by omega
      simp only [lcLoop, e1, M.ret, e2, e3, if_pos hlt, e4, List.append_assoc, List.singleton_append]
    · rcases List.mem_cons.mp hz with rfl | hz
      · exact hg
      · exact h6 z hz
/-- a comprehension whose values are a function of the items, the frame left as it was -/
theorem lc_map {own : List Nat} {T : W → M Unit} {fe : M W} {r : Rho} (G : D → D) : ∀ (ds : List D) (acc : List D), acc.length + ds.length ≤ sizeLine →
    (∀ d ∈ ds, ∃ r1 w r3 r4, T (.dt d) r = .ok () r1 ∧ fe r1 = .ok w r3 ∧ w.frz r3 = .ok (G d) r4 ∧ r4.wipe own = r) →
    lcLoop own T (M.ret true) fe ds acc r = .ok (acc ++ ds.map G) r
  | [], acc, _, _ => by rw [List.map_nil, List.append_nil]; rfl
  | d :: ds, acc, hl, k => by
    obtain ⟨r1, w, r3, r4, e1, e2, e3, h2⟩ := k d List.mem_cons_self
    rw [List.length_cons] at hl
    have hlt : acc.length < sizeLine := by omega
    simp only [lcLoop, e1, M.ret, e2, e3, if_pos hlt, h2]
    have := lc_map (own := own) (T := T) (fe := fe) (r := r) G ds (acc ++ [G d]) (by rw [List.length_append, List.length_singleton]; omega) fun x hx => k x (List.mem_cons_of_mem _ hx)
    rw [this, List.map_cons, List.append_assoc, List.singleton_append]
theorem cLc_inv {fi : M (List D)} {own : List Nat} {T : W → M Unit} {fe : M W} {ds : List D} {r r1 : Rho} (hi : fi r = .ok ds r1) (hno : r1.noOwn own = true) (I : Rho → Prop) (G : D → Prop) (hl : ds.length ≤ sizeLine) (h0 : I (r1.wipe own))
    (k : ∀ d ∈ ds, ∀ r, I r → ∃ r1 w r3 y r4, T (.dt d) r = .ok () r1 ∧ fe r1 = .ok w r3 ∧ w.frz r3 = .ok y r4 ∧ G y ∧ I (r4.wipe own)) :
    ∃ ys re, cLc fi own T (M.ret true) fe r = .ok (.fresh (.lst ys)) (r1.back re own) ∧ I re ∧ ys.length = ds.length ∧ ∀ y ∈ ys, G y := by
  obtain ⟨ys, re, e, h1, h2, h3⟩ := lc_inv (own := own) (T := T) (fe := fe) I G ds [] (r1.wipe own) (by simpa using hl) h0 k
  refine ⟨ys, re, ?_, h1, h2, h3⟩
  rw [List.nil_append] at e
  simp only [cLc, M.bind, hi, if_pos hno, e]
theorem cLc_map {fi : M (List D)} {own : List Nat} {T : W → M Unit} {fe : M W} {ds : List D} {r r1 : Rho} (hi : fi r = .ok ds r1) (hno : r1.noOwn own = true) (G : D → D) (hl : ds.length ≤ sizeLine)
    (k : ∀ d ∈ ds, ∃ r2 w r3 r4, T (.dt d) (r1.wipe own) = .ok () r2 ∧ fe r2 = .ok w r3 ∧ w.frz r3 = .ok (G d) r4 ∧ r4.wipe own = r1.wipe own) :
    cLc fi own T (M.ret true) fe r = .ok (.fresh (.lst (ds.map G))) (r1.back (r1.wipe own) own) := by
  have e := lc_map (own := own) (T := T) (fe := fe) (r := r1.wipe own) G ds [] (by simpa using hl) k
  rw [List.nil_append] at e
  simp only [cLc, M.bind, hi, if_pos hno, e]
theorem cFor_inv {fi : M (List D)} {T : W → M Unit} {body : M Fl} {ds : List D} {r r1 : Rho} (hi : fi r = .ok ds r1) (I : Rho → Prop) (h0 : I r1) (k : ∀ d ∈ ds, ∀ r, I r → ∃ r1 r2, T (.dt d) r = .ok () r1 ∧ body r1 = .ok .next r2 ∧ I r2) :
    ∃ r', cFor fi T body r = .ok .next r' ∧ I r' := by
  obtain ⟨r', e, h⟩ := loopL_inv I ds r1 h0 k
  exact ⟨r', by simp only [cFor, M.bind, hi, e], h⟩
end
end Lc

set_option Elab.async false
set_option maxRecDepth 100000
set_option maxHeartbeats 4000000
/-! Part R: texts by their length and signs. -/
namespace Lc
open PySem L2
/-- at most n signs, none of them beyond the code points -/
structure Wd (n : Nat) (x : Str) : Prop where
  len : x.length ≤ n
  low : ∀ c ∈ x.cps.toList, c < 1114112
theorem Wd.mono {n m : Nat} {x : Str} (h : Wd n x) (l : n ≤ m) : Wd m x := ⟨Nat.le_trans h.len l, h.low⟩
theorem len_list (x : Str) : x.length = x.cps.toList.length := by simp [Str.length]
theorem Wd.app {n m : Nat} {x y : Str} (h : Wd n x) (k : Wd m y) : Wd (n + m) (x ++ y) := by
  refine ⟨by rw [Str.length_append]; have := h.len; have := k.len; omega, fun c hc => ?_⟩
  rw [Str.cps_append] at hc
  simp only [Array.toList_append, List.mem_append] at hc
  exact hc.elim (h.low c) (k.low c)
theorem Wd.of_list {n : Nat} {l : List Nat} (h : l.length ≤ n) (k : ∀ c ∈ l, c < 1114112) : Wd n ⟨l.toArray⟩ := ⟨by simpa [Str.length] using h, by simpa using k⟩
theorem Wd.cut {n : Nat} {x : Str} {lo hi : Option Int} (h : Wd n x) : Wd n (cutS x lo hi) := by
  refine Wd.of_list ?_ fun c hc => h.low c (List.mem_of_mem_drop (List.mem_of_mem_take hc))
  have := h.len
  rw [len_list] at this
  rw [List.length_take, List.length_drop]
  omega
theorem Wd.one {c : Nat} (h : c < 1114112) : Wd 1 ⟨#[c]⟩ := ⟨by simp [Str.length], by simpa using h⟩
theorem cut_len {x : Str} {k : Nat} (h : k ≤ x.length) : (cutS x none (some (k : Int))).length = k := by
  unfold cutS
  rw [HT.sIx_none, HT.sIx_nat]
  have := len_list x
  simp only [Str.length, List.size_toArray, List.length_take, List.drop_zero] at *
  omega
theorem join_wd {n : Nat} : ∀ {ys : List Str}, ys.length ≤ n → (∀ y ∈ ys, Wd 1 y ∧ y.length = 1) → Wd n (Txt.join (Str.ofString "") ys) ∧ (Txt.join (Str.ofString "") ys).length = ys.length := by
  intro ys
  rw [TL.join_eq]
  induction ys generalizing n with
  | nil => intro _ _; exact ⟨⟨by show 0 ≤ n; omega, fun c hc => by exact nomatch hc⟩, rfl⟩
  | cons y ys ih =>
    intro h k
    cases ys with
    | nil =>
      have := k y List.mem_cons_self
      exact ⟨this.1.mono (by simpa using h), this.2⟩
    | cons z r =>
      have hy := k y List.mem_cons_self
      obtain ⟨a, b⟩ := ih (n := n - 1) (by simp only [List.length_cons] at h ⊢; omega) fun u hu => k u (List.mem_cons_of_mem _ hu)
      have e : Str.join (Str.ofString "") (y :: z :: r) = y ++ Str.ofString "" ++ Str.join (Str.ofString "") (z :: r) := rfl
      have e0 : (Str.ofString "").length = 0 := by decide
      have w0 : Wd 0 (Str.ofString "") := ⟨by decide, fun c hc => by exact absurd hc (by decide +revert)⟩
      rw [e]
      refine ⟨((hy.1.app w0).app a).mono (by simp only [List.length_cons] at h; omega), ?_⟩
      rw [Str.length_append, Str.length_append, e0, hy.2, b]
      simp only [List.length_cons]
      omega
theorem rev_eq (x : Str) : revS x = ⟨x.cps.toList.reverse.toArray⟩ := by
  have e : slicePicked x none none (some (-1, 0)) = sliceRange ((x.length : Int) - 1) (-1) (-1) := rfl
  unfold revS
  rw [e, PySem.W.krv_sliceRange, PySem.W.krv_range, List.filterMap_reverse]
  have := PySem.W.krv_all x.cps
  rw [show x.length = x.cps.size from rfl, this]
theorem rev_wd {n : Nat} {x : Str} (h : Wd n x) : Wd n (revS x) := by
  rw [rev_eq]
  refine Wd.of_list ?_ fun c hc => h.low c (List.mem_reverse.mp hc)
  rw [List.length_reverse, ← len_list]
  exact h.len
theorem repr_len {n : Nat} {x : Str} (h : Wd n x) : (reprText x).length ≤ 10 * n + 2 := by
  have := StrLaws.reprText_len x fun c hc => Nat.lt_of_lt_of_le (h.low c hc) (by decide)
  have := h.len
  omega
theorem rok_str {n : Nat} {x : Str} (h : Wd n x) (hn : n ≤ 100000) : D.rok (.str x) = true := by
  have := repr_len h
  simp only [D.rok, D.shw, D.py, PyData.showable, D.shown, PyData.shown, PyData.depth, q_size, Bool.and_eq_true, decide_eq_true_eq, true_and]
  omega
theorem rok_lst {n : Nat} {x : Str} (h : Wd n x) (hn : n ≤ 100000) : D.rok (.lst [.str x]) = true := by
  have h1 := repr_len h
  have h2 := listText_len_le [reprText x]
  simp [D.rok, D.shw, D.shws, D.py, D.pys, PyData.showable, PyData.showableAll, D.shown, PyData.shown, PyData.shownAll, PyData.depth, PyData.depthAll, q_size] at h2 ⊢
  omega
theorem rok_tup {n : Nat} {x : Str} (h : Wd n x) (hn : n ≤ 100000) : D.rok (.tup [.str x]) = true := by
  have h1 := repr_len h
  have h2 : (tupleText [reprText x]).length = (reprText x).length + 3 := by
    rw [PyProof.Rows.tupleText_one, Str.length_append, Str.length_append]
    have e1 : (Str.ofString "(").length = 1 := by decide
    have e2 : (Str.ofString ",)").length = 2 := by decide
    omega
  simp [D.rok, D.shw, D.shws, D.py, D.pys, PyData.showable, PyData.showableAll, D.shown, PyData.shown, PyData.shownAll, PyData.depth, PyData.depthAll, q_size, h2] at h2 ⊢
  omega
theorem rok_int {i : Int} (h : i.natAbs.log2 < 1920) : D.rok (.int i) = true := by
  have h1 := int_text_fits h
  have h2 : (PyData.shown (.int i)).length ≤ sizeLine := by rw [PyData.shown]; exact h1
  simp only [D.rok, D.shw, D.py, PyData.showable, D.shown, PyData.depth, Bool.and_eq_true, decide_eq_true_eq, true_and]
  exact ⟨⟨h, by omega⟩, decide_eq_true h2⟩
theorem log_lt {i : Int} {k : Nat} (h : i.natAbs < 2 ^ k) (hk : 0 < k) : i.natAbs.log2 < k := by
  by_cases e : i.natAbs = 0
  · rw [e]; simpa using hk
  · exact (Nat.log2_lt e).mpr h
end Lc

set_option Elab.async false
set_option maxRecDepth 100000
set_option maxHeartbeats 4000000
/-! Part S: an own error whose __init__ says super().__init__(text), then stores its values. -/
namespace Lc
open PySem L2 PySem.Spec PyProof.Rows
/-- what the written part says of such a class, with its __init__ -/
structure XcI (K : PySem.W.Frag) (file : Str) (params : Arguments) (body : List Stmt) (scope : Scope) (C fI cc cda : Addr) (fd : FuncData) : Prop where
  ox : OexC K C
  iC : PySem.W.findIn K (.ref C) "__init__" = some (some (.ref fI))
  tI : PySem.W.typeIn K (.ref fI) = some (.type "function")
  lk : ∃ nm qual oc od doc pm an ct osl, fd = PySem.W.ksFn nm qual params body scope .none .none doc pm an (.ref cda) ct cc ∧ K.lookup fI = some ⟨oc, od, .func fd, osl⟩ ∧ PySem.W.codeIn K (.ref cda) qual = true
  co : ∃ ccl cdd vs ccs tf, K.lookup cda = some ⟨ccl, cdd, .fields vs, ccs⟩ ∧ vs[2]? = some (.str file tf)
  ce : ∃ cl cld csl, K.lookup cc = some ⟨cl, cld, .cell (some (.ref C)), csl⟩
  su : PySem.W.ks_superIn K C C "__init__" = some (some (.builtin "ValueError.__init__"))
  sb : PySem.W.subIn K (.ref C) (.type "ValueError") = some true
  op : PySem.W.nsIn K cStatics "thirdparty.any" = some none
  mr : PySem.W.mroIn K C (.ref C) = some true
section
variable {prog : Program} {w : World} {A : Around} {K : PySem.W.Frag} {mg : Str → Option Value} {s : Shared}
/-- super().__init__(text), in the def's own frame -/
theorem super_init {file : Str} {params : Arguments} {body : List Stmt} {scope : Scope} {C fI cc cda a t0 L : Addr} {fd : FuncData} {p0 p1 p2 p3 p4 p5 : Pos} {txt : Str} {j : Nat} {ar : Arg} {m : Str → Option Value} {Q : Flow → Shared → Prop} {E : Value → Shared → Prop}
    (T : XcI K file params body scope C fI cc cda fd) (X : K.In s.heap) (G : s.heap.Ns mainGlobals mg) (Bn : ∃ mb, s.heap.Ns builtinsNs mb ∧ ∀ x : Str, x ≠ "__name__" → mb x = bootBuiltins x) (hsup : mg "super" = none)
    (hp : (params.posonlyargs ++ params.args).head? = some ar) (hns : s.heap.Ns L m) (hself : m ar.arg = some (.ref a)) (ha : s.heap.get? a = some (PySem.HandSPX.excO C t0))
    (hfile : ((prog.main.file : Str) == file) = true) (htop : (prog.main.scope.names.lookup ("super" : Str)).isSome = false) (hboot : bootBuiltins "super" = some (.type "super"))
    (hks : scope.names.lookup ("super" : Str) = some .globalImplicit) (hkc : scope.names.lookup ("__class__" : Str) = some .free) (hka : scope.names.lookup ar.arg = some .local) (hk : scope.kind = .function)
    (hev : ∀ env : Env, ∃ pl : Sem Bool, eval (.Call (.Attribute (.Call (.Name "super" p0) [] [] p1) "__init__" p2) [.Constant (.str txt) j p3] [] p4) env = (do
      let ov ← attributeBase (.Call (.Name "super" p0) [] [] p1) "__init__" env (eval (.Call (.Name "super" p0) [] [] p1) env)
      standAt p2.atName
      let (f, first) ← holding [ov] (getMethod ov "__init__" pl)
      callWith p4 f first (backTo p4 (starEach [.Constant (.str txt) j p3] env)) []))
    (hq : ∀ h' t1 tk, (∀ b o, b ≠ a → s.heap.get? b = some o → h'.get? b = some o) → h'.get? a = some (PySem.HandSPX.excO C t1) → Q .next { s with heap := h', toks := tk }) :
    _root_.PySem.wpAt (model prog w) A (.func body (callEnv fd L fI)) (exec (.Expr (.Call (.Attribute (.Call (.Name "super" p0) [] [] p1) "__init__" p2) [.Constant (.str txt) j p3] [] p4) p5) (callEnv fd L fI)) Q E s := by
  obtain ⟨nm, qual, oc, od, doc, pm, an, ct, osl, rfl, lk, hcd⟩ := T.lk
  obtain ⟨ccl, cdd, vs, ccs, tf, hco, hvs⟩ := T.co
  obtain ⟨cl, cld, csl, hce⟩ := T.ce
  obtain ⟨nm2, q2, N, bs, bm, sn, sub, ab, col, dd, k0, k1, k2, k3, k5, hC, hbm⟩ := T.ox.cls
  obtain ⟨mb, hb1, hb2⟩ := Bn
  obtain ⟨hp0, g, d, t, os⟩ := s
  have hcl : PySem.W.clsIn K C = some { name := nm2, bases := bs, mro := .ref C :: bm, ns := N, qualname := q2, hasDict := true, slotNames := sn, subclasses := sub, abstract := ab, collection := col, hasDel := false } := by unfold PySem.W.clsIn; rw [hC] <;> rfl
  have Lne : L ≠ a := fun z => by
    obtain ⟨o, es, ep, e1, e2, _⟩ := hns
    rw [z, ha] at e1
    cases e1
    cases e2
  refine ks_wpAt_Expr_any ?_ (by have hk' : (callEnv (PySem.W.ksFn nm qual params body scope .none .none doc pm an (.ref cda) ct cc) L fI).scope.kind = .function := hk
                                 simp [interactive, hk'])
  obtain ⟨pl, hev⟩ := hev (callEnv (PySem.W.ksFn nm qual params body scope .none .none doc pm an (.ref cda) ct cc) L fI)
  refine ks_wpAt_MethodCall ?_ hev
  refine ks_wpAt_super_base (f := fI) (cc := cda) hks hkc (by decide) rfl (X _ _ lk) rfl hp rfl (X _ _ hco) rfl hvs hfile htop ?_
  refine PySem.W.ks_loadName_global hk hks (Calls.loadGlobal_builtin G hsup hb1 ((hb2 _ (by decide +kernel)).trans hboot) ⟨rfl, ?_⟩)
  refine wpAny_loadName_free hk hkc rfl ⟨_, X _ _ hce, rfl⟩ ?_
  refine wpAny_loadName_local hk hka hns hself ?_
  refine ks_wpAny_isType_cls (X _ _ hC) rfl ⟨rfl, ?_⟩
  refine ks_wpAny_call_super (X _ _ hC) rfl ha rfl (fun c e => nomatch e) (PySem.W.looks_mroIn X T.mr) fun h1 e1 k1 => ?_
  have X1 : K.In h1 := X.keeps k1
  have I1 : PySem.W.InstAt h1 a (PySem.HandSPX.excO C t0) C none := ⟨k1 _ _ ha, rfl, rfl, trivial⟩
  have sup := T.su
  unfold PySem.W.ks_superIn at sup
  rw [hcl] at sup
  refine PySem.W.kxs_getMethod PySem.W.kxs_ValueError e1 (PySem.W.looks_opaque X1 T.op) (l₀ := .ref C :: bm) ((PySem.W.looks_clsIn X1 hcl).andThen .now) rfl X1 sup (I1.type.andThen (PySem.W.looks_subIn X1 T.sb)) (PySem.W.ks_ne X1 I1 hcl) (by decide) ?_
  have ne1 : ∀ {b : Addr} {o : Obj}, h1.get? b = some o → b ≠ h1.objs.size := fun e => Nat.ne_of_lt (Heap.lt_size e)
  refine PySem.W.kxs_callWith (i := "ValueError.__init__") (x := a) rfl (Calls.evalArgs_plain (Calls.spliced_cons ?_))
  refine Calls.Constant_str (k := j) (pos := p3) (Calls.spliced_nil ⟨Heap.get?_push_size _ rfl, ?_⟩)
  have hu : (h1.push (PySem.W.kxs_mw "ValueError.__init__" a)).get? h1.objs.size = some (PySem.W.kxs_mw "ValueError.__init__" a) := Heap.get?_push_size _ rfl
  have up : ∀ b o, h1.get? b = some o → (h1.push (PySem.W.kxs_mw "ValueError.__init__" a)).get? b = some o := fun b o e => Heap.get?_push_of_some _ e
  have he := up _ _ (k1 _ _ ha)
  have hC2 := up _ _ (k1 _ _ (X _ _ hC))
  refine wpAny_call (codeAny_of_tree ?_); show wpAny _ A.in1 (callAny (.ref h1.objs.size) ⟨[.str txt _], []⟩) _ _ _
  simp only [callAny]; refine wpAny_bind (wpAny_load hu ?_)
  have z1 : (Value.type "method-wrapper" == Value.type "method" || Value.type "method-wrapper" == Value.type "builtin_function_or_method" || Value.type "method-wrapper" == Value.type "method-wrapper") = true := by decide
  simp only [PySem.W.kxs_mw, z1, if_true]
  refine PySem.W.KFB.if_so (by decide) (wpAny_bind (PySem.W.check_bound_init F.excBase_ValueError.toExcCallFacts hC2 he rfl (wpAny_bind (wpAny_pure (wpAny_pure ⟨plainId_quiet F.excBase_ValueError.init.plain _, codeAny_builtin F.excBase_ValueError.initEntry ?_⟩)))))
  refine PySem.W.exc_init_tree (cls := .ref C) (t0 := t0) (dv := none) (c2 := .none) (c3 := .none) (b4 := .bool false) he (by show 1 ≤ sizeLine; rw [sizeLine_eq]; omega) fun h2 k2 e2 _ => ?_
  exact hq h2 _ _ (fun b o nb e => k2 b o nb (up b o (k1 b o e))) e2
/-- a further field -/
theorem store1 {C a : Addr} {f : Str} {u : Value} {t1 : Addr} {Q : Unit → Shared → Prop} {E : Value → Shared → Prop} (T : OexC K C) (X : K.In s.heap) (hno : PySem.W.findIn K (.ref C) f = some none) (ha : s.heap.get? a = some (PySem.HandSPX.excO C t1))
    (hq : ∀ h' tk dx, (∀ b o, b ≠ a → s.heap.get? b = some o → h'.get? b = some o) → s.heap.objs.size ≤ dx → dx ≠ a → h'.get? a = some { cls := .ref C, dict := some dx, data := .fields #[.ref t1, .none, .none, .none, .bool false, .none] } →
      h'.Ns1 dx (fun y => if y = f then some u else none) → Q () { s with heap := h', toks := tk }) : wpAny (model prog w) A (setAttr (.ref a) f u) Q E s := by
  obtain ⟨nm, q, N, bs, bm, sn, sub, ab, col, dd, k0, k1, k2, k3, k5, hC, hbm⟩ := T.cls
  have hcl : PySem.W.clsIn K C = some { name := nm, bases := bs, mro := .ref C :: bm, ns := N, qualname := q, hasDict := true, slotNames := sn, subclasses := sub, abstract := ab, collection := col, hasDel := false } := by unfold PySem.W.clsIn; rw [hC] <;> rfl
  obtain ⟨hp, g, d, t, os⟩ := s
  refine PySem.W.set_plain X (ox := PySem.HandSPX.excO C t1) (od := none) ⟨ha, rfl, rfl, trivial⟩ T.sa ?_
  exact PySem.HandSPX.exc_osa X ha hcl (show PySem.HandSPX.refsVE (.ref C :: bm) = true from hbm) rfl hno fun h' tk' dx k dn dne hx hn => hq h' tk' dx k dn dne hx hn
/-- def __init__(self, p): super().__init__(text); self.f = p -/
theorem init_ok1 {R : Result → Shared → Prop} {file : Str} {params : Arguments} {scope : Scope} {C fI cc cda a t0 : Addr} {fd : FuncData} {p0 p1 p2 p3 p4 p5 q0 q1 q2 q3 : Pos} {txt f p self : Str} {j : Nat} {ar : Arg} {u : Value} {body : List Stmt}
    (T : XcI K file params body scope C fI cc cda fd) (hbd : body = [.Expr (.Call (.Attribute (.Call (.Name "super" p0) [] [] p1) "__init__" p2) [.Constant (.str txt) j p3] [] p4) p5, .Assign [.Attribute (.Name self q0) f q1] (.Name p q2) q3])
    (X : K.In s.heap) (G : s.heap.Ns mainGlobals mg) (Bn : ∃ mb, s.heap.Ns builtinsNs mb ∧ ∀ x : Str, x ≠ "__name__" → mb x = bootBuiltins x) (nl : s.heap.NoLimit) (hsup : mg "super" = none) (hroom : A.depth < recursionLimit)
    (hp : (params.posonlyargs ++ params.args).head? = some ar) (har : ar.arg = self) (ha : s.heap.get? a = some (PySem.HandSPX.excO C t0))
    (hbind : ∀ (nm qual : Str) (doc pm : Value) (an : Option Addr) (cdv ct : Value) (cc : Addr), bindArgs (PySem.W.ksFn nm qual params body scope .none .none doc pm an cdv ct cc) ⟨[.ref a, u], []⟩ = pure [(self, .ref a), (p, u)])
    (hKa : K.lookup a = none) (hsp : p ≠ self) (hno : PySem.W.findIn K (.ref C) f = some none)
    (hfile : ((prog.main.file : Str) == file) = true) (htop : (prog.main.scope.names.lookup ("super" : Str)).isSome = false) (hboot : bootBuiltins "super" = some (.type "super"))
    (hks : scope.names.lookup ("super" : Str) = some .globalImplicit) (hkc : scope.names.lookup ("__class__" : Str) = some .free) (hka : scope.names.lookup self = some .local) (hkp : scope.names.lookup p = some .local) (hk : scope.kind = .function) (hcell : ∀ x ∈ scope.names, x.2 ≠ .cell) (hco : scope.isCoroutine = false) (hgen : scope.isGenerator = false)
    (hds : (self == ("__debug__" : Str)) = false) (hdp : (p == ("__debug__" : Str)) = false)
    (hev : ∀ env : Env, ∃ pl : Sem Bool, eval (.Call (.Attribute (.Call (.Name "super" p0) [] [] p1) "__init__" p2) [.Constant (.str txt) j p3] [] p4) env = (do
      let ov ← attributeBase (.Call (.Name "super" p0) [] [] p1) "__init__" env (eval (.Call (.Name "super" p0) [] [] p1) env)
      standAt p2.atName
      let (f, first) ← holding [ov] (getMethod ov "__init__" pl)
      callWith p4 f first (backTo p4 (starEach [.Constant (.str txt) j p3] env)) []))
    (hsw : ∀ env : Env, swapsWith (.Name p q2) (some (.Attribute (.Name self q0) f q1)) q3.line env = pure false)
    (hq : ∀ h' tk dx t1, (∀ b o, b ≠ a → s.heap.get? b = some o → h'.get? b = some o) → s.heap.get? dx = none → dx ≠ a → s.heap.objs.size ≤ dx → h'.get? a = some { cls := .ref C, dict := some dx, data := .fields #[.ref t1, .none, .none, .none, .bool false, .none] } →
      h'.Ns1 dx (fun y => if y = f then some u else none) → R (.ok (.ret .none)) { s with heap := h', toks := tk }) : codeAny (model prog w) A (.call (.ref fI) ⟨[.ref a, u], []⟩) R s := by
  have T' := T
  obtain ⟨nm, qual, oc, od, doc, pm, an, ct, osl, rfl, lk, hcd⟩ := T.lk
  refine ks_codeAny_call_defAt (fd := PySem.W.ksFn nm qual params body scope .none .none doc pm an (.ref cda) ct cc) (body := body) (binds := [(self, .ref a), (p, u)]) hroom (X _ _ lk) rfl nl (PySem.W.codeRec_of X hcd) rfl (.of_eq (hbind ..)) hcell
    (fun y hy => ?_) (fun h0 hns hk0 => ?_) hco hgen hk
  · rcases List.mem_cons.mp hy with rfl | hy
    · exact hka
    · rw [List.mem_singleton.mp hy]; exact hkp
  have n1 : ([(self, (Value.ref a)), (p, u)] : List (Str × Value)).reverse.lookup self = some (.ref a) := by
    have e1 : (self == p) = false := by rw [beq_eq_false_iff_ne]; exact fun z => hsp z.symm
    simp [List.lookup_cons, e1]
  have n2 : ([(self, (Value.ref a)), (p, u)] : List (Str × Value)).reverse.lookup p = some u := by simp [List.lookup_cons]
  have Bn' := Bn
  obtain ⟨mb, hb1, hb2⟩ := Bn
  have aL : s.heap.objs.size ≠ a := (Nat.ne_of_lt (Heap.lt_size ha)).symm
  rw [show execs body = execs [_, _] from congrArg execs hbd]
  refine ks_wpAt_execs_cons (super_init (m := fun x => ([(self, (Value.ref a)), (p, u)] : List (Str × Value)).reverse.lookup x) (mg := mg) T' (X.keeps hk0) (G.keeps hk0) ⟨mb, hb1.keeps hk0, hb2⟩ hsup hp hns (by rw [har]; exact n1) (hk0 _ _ ha) hfile htop hboot hks hkc (by rw [har]; exact hka) hk hev fun h1 t1 tk k1 e1 => ?_)
  have hns1 : h1.Ns s.heap.objs.size (fun x => ([(self, (Value.ref a)), (p, u)] : List (Str × Value)).reverse.lookup x) := by
    obtain ⟨o, es, ep, z1, z2, z3⟩ := hns
    exact ⟨o, es, ep, k1 _ _ aL z1, z2, z3⟩
  have X1 : K.In h1 := fun b o e => k1 b o (fun z => by subst z; rw [hKa] at e; cases e) (X.keeps hk0 b o e)
  refine ks_wpAt_execs_cons (ks_wpAt_Assign_Attr (wpAt_of_wpAny (wpAny_Name (wpAny_loadName_local hk hkp hns1 n2 ?_) hdp)) (hsw _))
  refine wpAny_Name (wpAny_loadName_local hk hka hns1 n1 ?_) hds
  refine store1 T'.ox X1 hno e1 fun h2 tk2 dx k2 dn dne hx hn => wpAt_of_wpAny (wpAny_execs_nil ?_)
  have sz : s.heap.objs.size ≤ dx := Nat.le_trans (Nat.le_of_lt (Heap.lt_size (show h1.get? s.heap.objs.size = some _ from hns1.choose_spec.choose_spec.choose_spec.1))) dn
  refine hq h2 tk2 dx t1 (fun b o nb e => k2 b o nb (k1 b o nb (hk0 b o e))) ?_ dne sz hx hn
  cases q : s.heap.get? dx with
  | none => rfl
  | some o => exact absurd (Heap.lt_size q) (Nat.not_lt.mpr sz)
end
end Lc

set_option Elab.async false
set_option maxRecDepth 100000
set_option maxHeartbeats 4000000
/-! Part T: such an error made and raised. -/
namespace Lc
open PySem L2 PySem.Spec PyProof.Rows
/-- the def's form, one value: what init_ok1 asks, whatever the place -/
structure Form1 (P : Program) (file : Str) (params : Arguments) (body : List Stmt) (scope : Scope) (f : Str) : Prop where
  ex : ∃ (p0 p1 p2 p3 p4 p5 q0 q1 q2 q3 : Pos) (txt p self : Str) (j : Nat) (ar : Arg), body = [.Expr (.Call (.Attribute (.Call (.Name "super" p0) [] [] p1) "__init__" p2) [.Constant (.str txt) j p3] [] p4) p5, .Assign [.Attribute (.Name self q0) f q1] (.Name p q2) q3] ∧
    (params.posonlyargs ++ params.args).head? = some ar ∧ ar.arg = self ∧
    (∀ (a : Addr) (u : Value) (nm qual : Str) (doc pm : Value) (an : Option Addr) (cdv ct : Value) (cc : Addr), bindArgs (PySem.W.ksFn nm qual params body scope .none .none doc pm an cdv ct cc) ⟨[.ref a, u], []⟩ = pure [(self, .ref a), (p, u)]) ∧
    p ≠ self ∧ scope.names.lookup self = some .local ∧ scope.names.lookup p = some .local ∧ (self == ("__debug__" : Str)) = false ∧ (p == ("__debug__" : Str)) = false ∧
    (∀ env : Env, ∃ pl : Sem Bool, eval (.Call (.Attribute (.Call (.Name "super" p0) [] [] p1) "__init__" p2) [.Constant (.str txt) j p3] [] p4) env = (do
      let ov ← attributeBase (.Call (.Name "super" p0) [] [] p1) "__init__" env (eval (.Call (.Name "super" p0) [] [] p1) env)
      standAt p2.atName
      let (f, first) ← holding [ov] (getMethod ov "__init__" pl)
      callWith p4 f first (backTo p4 (starEach [.Constant (.str txt) j p3] env)) [])) ∧
    ∀ env : Env, swapsWith (.Name p q2) (some (.Attribute (.Name self q0) f q1)) q3.line env = pure false
  hfile : ((P.main.file : Str) == file) = true
  htop : (P.main.scope.names.lookup ("super" : Str)).isSome = false
  hks : scope.names.lookup ("super" : Str) = some .globalImplicit
  hkc : scope.names.lookup ("__class__" : Str) = some .free
  hk : scope.kind = .function
  hcell : ∀ x ∈ scope.names, x.2 ≠ .cell
  hco : scope.isCoroutine = false
  hgen : scope.isGenerator = false
/-- an error class of one value that may be made -/
structure Xc1 (P : Program) (K : PySem.W.Frag) (mg : Str → Option Value) (x f : Str) : Prop where
  ex : ∃ file params body scope C fI cc cda fd, XcI K file params body scope C fI cc cda fd ∧ Form1 P file params body scope f ∧ PySem.W.findIn K (.ref C) f = some none ∧ mg x = some (.ref C) ∧ mg "super" = none
def tMk1 (mg : Str → Option Value) (x f : Str) (ta : TA) : L2.St → Hp → XK → Prop := fun σ H Q => ta σ H fun vs H1 => ∃ v C, vs = [v] ∧ mg x = some (.ref C) ∧ ∀ C' d, mg x = some (.ref C') → H1 d = none → Q (.ref C') (some d) (upd H1 d (.xd [(f, v)]))
section
variable {X : Cx} {x f : Str} {p pos : Pos} {e : Expr} {ta : TA} {k : Nat}
theorem pmk_xc1 (T : Xc1 X.prog X.K X.mg x f) (hr : Room (k + 1) X.A) (hg : Gl X x) (ha : PA X [e] ta) (hdb : (x == ("__debug__" : Str)) = false) (he : starEach [e] X.env = (false, eval e X.env) :: starEach [] X.env) (hpl : (backTo pos (starEach [] X.env)).any (·.1) = false) :
    PMk X (.Call (.Name x p) [e] [] pos) (tMk1 X.mg x f ta) := by
  intro pins s σ H Q I h
  obtain ⟨file, params, body, scope, C, fI, cc, cda, fd, T, Fo, hno, hm, hsup⟩ := T.ex
  obtain ⟨nm, q, N, bs, bm, sn, sub, ab, col, dd, k0, k1, k2, k3, k5, hC, hbm⟩ := T.ox.cls
  obtain ⟨p0, p1, p2, p3, p4, p5, q0, q1, q2, q3, txt, pp, self, j, ar, b1, b2, b3, b4, b5, b6, b7, b8, b9, b10, b11⟩ := Fo.ex
  refine wpAny_Call_Name_kw (ld_glob I hg hm ?_ hdb)
  refine PySem.W.callWith_K (h₀ := X.base) I.ok.mod.kin T.ox.kC (thn (ha.run pos pins s σ H _ I h) fun us s1 ⟨vs, H1, I1, r1, hq⟩ => ⟨I1.kIn, ?_⟩) he hpl
  obtain ⟨v, C', rfl, hm', hq⟩ := hq
  obtain ⟨u, rfl, ru⟩ := vals1 r1
  show wpAny _ _ (call (.ref C) [u]) _ _ _
  obtain ⟨hp, g, dr, tk, os⟩ := s1
  have up : ∀ b o, hp.get? b = some o → ((hp.push (PySem.W.kdv_tup [u])).push (PySem.HandSPX.excO C hp.objs.size)).get? b = some o := fun b o e => Heap.get?_push_of_some _ (Heap.get?_push_of_some _ e)
  have hget : ((hp.push (PySem.W.kdv_tup [u])).push (PySem.HandSPX.excO C hp.objs.size)).get? (hp.objs.size + 1) = some (PySem.HandSPX.excO C hp.objs.size) := by heap_get
  have hKa : X.K.lookup (hp.objs.size + 1) = none := by
    cases q : X.K.lookup (hp.objs.size + 1) with
    | none => rfl
    | some o => exact absurd (Heap.lt_size (I1.kIn _ _ q)) (by show ¬ hp.objs.size + 1 < hp.objs.size; omega)
  have bk : ∀ b o, X.base.get? b = some o → ((hp.push (PySem.W.kdv_tup [u])).push (PySem.HandSPX.excO C hp.objs.size)).get? b = some o := fun b o e => up b o (I1.bk b o e)
  have Bn : ∃ mb, ((hp.push (PySem.W.kdv_tup [u])).push (PySem.HandSPX.excO C hp.objs.size)).Ns builtinsNs mb ∧ ∀ x : Str, x ≠ "__name__" → mb x = bootBuiltins x := by
    obtain ⟨mb, z1, z2⟩ := I1.mod.blt
    exact ⟨mb, z1.keeps bk, z2⟩
  refine wpAny_call (PySem.HandSPX.call_own F.excBase_ValueError (fun Y => PySem.HandSPX.refsVE_contains Y bm hbm) (I1.kIn _ _ hC) (PySem.W.looks_findIn I1.kIn T.iC) (fun self => PySem.W.bind_fn I1.kIn self T.tI) (by show 1 ≤ sizeLine; rw [sizeLine_eq]; omega) ?_)
  refine init_ok1 (mg := X.mg) (K := X.K) T b1 (I1.kIn.keeps up) (I1.mod.glob.keeps bk) Bn (I1.mod.nolimit.keeps bk) hsup (hr.make C [u] []).depth b2 b3 hget (b4 _ _) hKa b5 hno Fo.hfile Fo.htop (by decide +kernel) Fo.hks Fo.hkc b6 b7 Fo.hk Fo.hcell Fo.hco Fo.hgen b8 b9 b10 b11 fun h2 tk2 dx t1 k2 nd dne sz hx hn => ?_
  refine ⟨rfl, ?_⟩
  show MkP X pins σ Q (.ref (hp.objs.size + 1)) ⟨h2, g, dr, tk2, os⟩
  obtain ⟨G, g1, g2⟩ := restrict h2 fun b => decide (b ≠ hp.objs.size + 1)
  have gk : ∀ b, b ≠ hp.objs.size + 1 → G.get? b = h2.get? b := fun b hb => g1 b (decide_eq_true hb)
  have ge : G.get? (hp.objs.size + 1) = none := g2 _ (by simp)
  have old : ∀ b o, hp.get? b = some o → b ≠ hp.objs.size + 1 := fun b o e => Nat.ne_of_lt (Nat.lt_succ_of_lt (Heap.lt_size e))
  have kG : ∀ b o, hp.get? b = some o → G.get? b = some o := fun b o e => by rw [gk b (old b o e)]; exact k2 b o (old b o e) (up b o e)
  have nd1 : hp.get? dx = none := by
    cases q : hp.get? dx with
    | none => rfl
    | some o => rw [up _ _ q] at nd; cases nd
  have sz1 : hp.objs.size ≤ dx := by
    have z : ((hp.push (PySem.W.kdv_tup [u])).push (PySem.HandSPX.excO C hp.objs.size)).objs.size = hp.objs.size + 2 := by simp [Heap.push]
    have sz' : ((hp.push (PySem.W.kdv_tup [u])).push (PySem.HandSPX.excO C hp.objs.size)).objs.size ≤ dx := sz
    rw [z] at sz'
    omega
  have nH : H1 dx = none := I1.hok.fresh sz1
  have J : Inv X pins σ (upd H1 dx (.xd [(f, v)])) ⟨G, g, dr, tk2, os⟩ := I1.laidN (t' := tk2) (h' := G) (a := dx) (o := .xd [(f, v)]) kG nd1 nH ⟨_, hn.at fun o y => (gk dx dne).trans y, fun y => relO_put (fs := []) (mA := fun _ => none) ru (fun _ => True.intro) y⟩
  refine ⟨hp.objs.size + 1, _, _, ⟨G, g, dr, tk2, os⟩, _, .ref C, some dx, rfl, J, fun b o e => ?_, ge, hx, ⟨rfl, rfl⟩, rfl, rfl, ?_, rfl, I1.bare, raises_own T.ox.exC T.ox.tyC, hq C dx hm nH⟩
  · have nb : b ≠ hp.objs.size + 1 := fun z => by subst z; rw [ge] at e; cases e
    rw [gk b nb] at e
    exact e
  · rw [upd_ne (Ne.symm dne)]
    exact I1.hok.fresh (Nat.le_succ _)
/-! ### raise -/
def cRaise (x : Str) (fs : List Str) (fa : M (List W)) : M Fl := M.bind fa fun ws => M.bind (frzAll ws) fun ds => fun r => if ds.length = fs.length then .exc ⟨x, fs.zip ds⟩ r else .fail
theorem PostS.frzAll {vs : List V} {Wx : WX} {B0 H0 B H : Hp} {σ : L2.St} {r0 r : Rho} {ws : List W} {xs : List V} {kk : List D → M Fl} {E : Ends} (R : Rl X.K vs B σ H r) (s : Stp vs B0 H0 σ r0 B H σ r) (hv : RpWs X.K vs H0 B σ H r xs ws)
    (h : PostS X vs Wx B0 H0 σ r0 (M.bind (Lc.frzAll ws) kk r) E) : ∃ ds r' B', RpAll X.K B' xs ds ∧ Rl X.K vs B' σ H r' ∧ Stp vs B0 H0 σ r0 B' H σ r' ∧ PostS X vs Wx B0 H0 σ r0 (kk ds r') E := by
  cases e : Lc.frzAll ws r with
  | fail => simp only [M.bind, e] at h; exact h.elim
  | exc y r1 => exact absurd e frzAll_noexc
  | ok ds r1 =>
    simp only [M.bind, e] at h
    obtain ⟨B', p, R', s', _⟩ := frzAll_ok R s hv e
    exact ⟨ds, r1, B', p, R', s', h⟩
theorem ds_raise1 {fa : M (List W)} {rp : Pos} (T : Xc1 X.prog X.K X.mg x f) (hc : X.calm = true) (hr : Room (k + 1) X.A) (hg : Gl X x) (ha : DA X [e] fa) (hdb : (x == ("__debug__" : Str)) = false) (he : starEach [e] X.env = (false, eval e X.env) :: starEach [] X.env) (hpl : (backTo pos (starEach [] X.env)).any (·.1) = false) :
    DS X (.Raise (some (.Call (.Name x p) [e] [] pos)) none rp) (cRaise x [f] fa) := by
  refine ⟨fun Wx tk => ?_⟩
  obtain ⟨t, pt, qt⟩ := ha.run Wx tk
  refine ⟨_, ps_raise hc tk (pmk_xc1 T hr hg pt hdb he hpl), fun vs B σ H r E R h => qt vs B σ H r _ R (PostS.bind0 h fun xs ws B1 H1 r1 s1 R1 q1 h1 => ?_)⟩
  obtain ⟨ds, r2, B2, p2, R2, s2, h2⟩ := PostS.frzAll R1 s1 q1 h1
  have hC : ∃ C, X.mg x = some (.ref C) := by
    obtain ⟨_, _, _, _, C, _, _, _, _, _, _, _, hm, _⟩ := T.ex
    exact ⟨C, hm⟩
  obtain ⟨C, hm⟩ := hC
  cases p2 with
  | nil => exact h2.elim
  | cons p3 p4 =>
    cases p4 with
    | cons _ _ => simp at h2; exact h2.elim
    | nil =>
      rename_i v d
      refine ⟨v, C, rfl, hm, fun C' dd hm' nd => ?_⟩
      have ex : Ext B2 H1 (upd B2 dd (.xd [(f, v)])) (upd H1 dd (.xd [(f, v)])) := .frozen R2.sub nd
      exact h2 (.ref C') (some dd) σ _ _ (s2.ext ex) (R2.ext ex (same_both R2.sub)) ⟨C', dd, _, rfl, hm', rfl, upd_same, .cons (p3.mono ex.sub) .nil⟩
end
end Lc

set_option Elab.async false
set_option maxRecDepth 100000
set_option maxHeartbeats 4000000
/-! Part U: try, except C as e; e.f, isinstance(e, c) in the suite. -/
namespace Lc
open PySem L2 PySem.Spec PyProof.Rows
open Classical in
/-- what does not hang on places -/
noncomputable def collapse (g : Addr → Addr → Res Fl) : Res Fl := if h : ∃ R, ∀ a dd, g a dd = R then h.choose else .fail
theorem collapse_eq {g : Addr → Addr → Res Fl} {R : Res Fl} (h : ∀ a dd, g a dd = R) : collapse g = R := by
  have hx : ∃ R, ∀ a dd, g a dd = R := ⟨R, h⟩
  unfold collapse
  rw [dif_pos hx, ← hx.choose_spec 0 0]
  exact h 0 0
theorem collapse_all {g : Addr → Addr → Res Fl} (h : collapse g ≠ .fail) (a dd : Addr) : g a dd = collapse g := by
  unfold collapse at h ⊢
  split
  · rename_i hx
    exact hx.choose_spec a dd
  · rename_i hx
    rw [dif_neg hx] at h
    exact absurd rfl h
def Rho.clr (r : Rho) (i : Nat) : Rho := { r with loc := r.loc.set i none }
def clearI (i : Nat) : Res Fl → Res Fl
  | .ok (.ret w) r => if w.isLoc i = true then .fail else .ok (.ret w) (r.clr i)
  | .ok fl r => .ok fl (r.clr i)
  | _ => .fail
noncomputable def cTry (body : M Fl) (c : Str → Option Bool) (i : Nat) (suite : Addr → Addr → Ex → M Fl) : M Fl := fun r => match body r with
  | .exc x r1 => match c x.cls with
    | some true => if i < r1.loc.length then collapse fun a dd => clearI i (suite a dd x (r1.put i (.dt (.exc a dd x.fs)))) else .fail
    | some false => .exc x r1
    | none => .fail
  | res => res
section
variable {K : PySem.W.Frag} {vs : List V} {B H : Hp} {σ : L2.St} {r : Rho} {i : Nat}
theorem clr_eq : r.clr i = r.wipe [i] := rfl
theorem Rl.clr (R : Rl K vs B σ H r) : Rl K vs B (σ.set i none) H (r.clr i) := R.wipe (own := [i])
theorem own_clr {a : Addr} (h : Own vs (σ.set i none) (r.clr i) a) : Own vs σ r a := own_wipe (own := [i]) h
theorem Stp.clr {B0 H0 : Hp} {σ0 : L2.St} {r0 : Rho} (s : Stp vs B0 H0 σ0 r0 B H σ r) : Stp vs B0 H0 σ0 r0 B H (σ.set i none) (r.clr i) :=
  ⟨s.sub, s.keep, s.dom, fun a q => s.own a (own_clr q), s.bol, s.bod, s.boo⟩
theorem RpW.clr {Hs : Hp} {v : V} {w : W} (h : RpW K vs Hs B σ H r v w) (hw : w.isLoc i = false) : RpW K vs Hs B (σ.set i none) H (r.clr i) v w := by
  cases w with
  | dt d => exact h
  | fresh c =>
    obtain ⟨a, e, h1, h2, h3, h4⟩ := h
    exact ⟨a, e, h1, h2, h3, fun q => h4 (own_clr q)⟩
  | cel z =>
    have hz : ∀ j, z = .loc j → j ∉ [i] := fun j e => by
      subst e
      intro hm
      have : j = i := by simpa using hm
      subst this
      simp [W.isLoc] at hw
    have := adr_wipe (vs := vs) (σ := σ) (own := [i]) hz
    show adr vs (wipe σ [i]) z = some v
    rw [this]
    exact h
end
section
variable {X : Cx} {x n : Str} {cv : Value} {i : Nat} {body suite : List Stmt} {b0 : Stmt} {np pos pos' : Pos} {fb : M Fl} {fs : Addr → Addr → Ex → M Fl} {c : Str → Option Bool}
theorem takes_suite {a : Addr} {pn : List (Addr × Obj)} : Takes (X.suite a pn) Wf := fun u s' ⟨_, _, _, _, _, _, _, _, _, _, _, _, _, _, _, _, h⟩ => h.elim
theorem ds_try (hs : X.stack = X.env :: X.outer) (hf : X.env.frame = some X.env.locals) (hN : X.N.Nodup) (hi : X.N[i]? = some n) (hln : X.env.kindOf n = some .local) (hc : Names X x cv)
    (hcat : ∀ (y : Str) (b : Bool) (C : Addr), c y = some b → X.mg y = some (.ref C) → PySem.W.exmOne X.K (.ref C) cv = some b)
    (hb : ∀ (pn : List (Addr × Obj)) (xe : Value → Shared → Prop), PassesOwn (model X.prog X.w) X.A X.env xe → DSs (X.tr pn xe) body fb)
    (hsu : ∀ (a : Addr) (oe : Obj) (pn : List (Addr × Obj)) (C dd : Addr) (y : Ex), Zc (.ref C) (some dd) oe → (∃ vs, oe.data = .fields vs) → X.mg y.cls = some (.ref C) → c y.cls = some true → DSs (X.suite a ((a, oe) :: pn)) (b0 :: suite) (fs a dd y)) :
    DS X (.Try body [.ExceptHandler (some (.Name x np)) (some n) (b0 :: suite) pos'] [] [] pos) (cTry fb c i fs) := by
  refine ⟨fun Wout tk => ?_⟩
  refine ⟨_, ps_try_as (c := cv) (i := i) (Wout := Wout) (tb := fun W E σ H => ∃ vs B r, Rl X.K vs B σ H r ∧ PostS X vs W B H σ r (fb r) E)
    (ts := fun a cls d E σ H => ∃ C dd y vs B r, cls = .ref C ∧ d = some dd ∧ X.mg y.cls = some (.ref C) ∧ c y.cls = some true ∧ Rl X.K vs B σ H r ∧ PostS X vs Wf B H σ r (fs a dd y r) E) hs hf hN hi hln hc tk
    (fun W pn xe tkb hp => ⟨fun pins s σ H D I ⟨vs, B, r, R, h⟩ => ?_⟩) (fun a oe cls d pn hz hfl => ⟨fun pins s σ H D I ⟨C, dd, y, vs, B, r, e1, e2, hm, hcy, R, h⟩ => ?_⟩), fun vs B σ H r E R h => ⟨vs, B, r, R, ?_⟩⟩
  · obtain ⟨t, pt, qt⟩ := (hb pn xe hp).run W tkb
    exact pt.run pins s σ H D I (qt vs B σ H r D R h)
  · subst e1 e2
    obtain ⟨t, pt, qt⟩ := (hsu a oe pn C dd y hz hfl hm hcy).run Wf takes_suite
    exact pt.run pins s σ H D I (qt vs B σ H r D R h)
  · unfold cTry at h
    cases ef : fb r with
    | fail => rw [ef] at h; exact h.elim
    | ok fl r1 => rw [ef] at h; cases fl <;> exact h
    | exc y r1 =>
      rw [ef] at h
      simp only at h
      intro cl dd0 σ1 B1 H1 s1 R1 hx
      obtain ⟨C, dd, fsV, rfl, hm, rfl, hB, hF⟩ := hx
      cases ec : c y.cls with
      | none => rw [ec] at h; exact h.elim
      | some b =>
        rw [ec] at h
        refine ⟨b, hcat y.cls b C ec hm, fun hb2 a na => ?_, fun hb2 => ?_⟩
        · subst hb2
          simp only at h
          split at h
          · rename_i hlt
            have nf : collapse (fun a dd => clearI i (fs a dd y (r1.put i (.dt (.exc a dd y.fs))))) ≠ .fail := fun z => by rw [z] at h; exact h
            have hall := collapse_all nf a dd
            rw [← hall] at h
            have rp : RpS X.K vs H B1 σ1 H1 r1 (.ref a) (.dt (.exc a dd y.fs)) := Rp.exc hB hF
            obtain ⟨R2, s2⟩ := R1.assign s1 rp hlt
            refine ⟨C, dd, y, vs, B1, r1.put i (.dt (.exc a dd y.fs)), rfl, rfl, hm, ec, R2, ?_⟩
            cases e3 : fs a dd y (r1.put i (.dt (.exc a dd y.fs))) with
            | fail => rw [e3] at h; exact h.elim
            | exc z r3 => rw [e3] at h; exact h.elim
            | ok fl r3 =>
              rw [e3] at h
              cases fl with
              | next => exact fun σ3 B3 H3 s3 R3 => h _ B3 H3 (s2.trans s3).clr R3.clr
              | brk => exact fun σ3 B3 H3 s3 R3 => h _ B3 H3 (s2.trans s3).clr R3.clr
              | cnt => exact fun σ3 B3 H3 s3 R3 => h _ B3 H3 (s2.trans s3).clr R3.clr
              | ret w =>
                simp only [clearI] at h
                split at h
                · exact h.elim
                · rename_i hw
                  have hw' : w.isLoc i = false := by cases q : w.isLoc i with
                    | true => exact absurd q hw
                    | false => rfl
                  exact fun v σ3 B3 H3 s3 R3 q3 => h v _ B3 H3 (s2.trans s3).clr R3.clr (RpW.clr (RpW.back q3 s2.dom) hw')
          · exact h.elim
        · subst hb2
          exact h (.ref C) (some dd) σ1 B1 H1 s1 R1 ⟨C, dd, fsV, rfl, hm, rfl, hB, hF⟩
/-! ### e.f -/
def cXf (a dd : Addr) (i : Nat) (f : Str) : M W := fun r => match r.loc[i]? with
  | some (some (.dt (.exc a' dd' fs))) => if a' = a ∧ dd' = dd then (match fs.lookup f with
      | some d => .ok (.dt d) r
      | none => .fail) else .fail
  | _ => .fail
theorem rpF_look {K : PySem.W.Frag} {B : Hp} {f : Str} {d : D} : ∀ {fs : List (Str × V)} {ds : List (Str × D)}, RpF K B fs ds → ds.lookup f = some d → ∃ v, fs.lookup f = some v ∧ Rp K B v d
  | _, _, .nil, e => by cases e
  | _, _, .cons (x := x) h r, e => by
    rw [List.lookup_cons] at e ⊢
    cases q : (f == x) with
    | true => rw [q] at e; cases e; exact ⟨_, rfl, h⟩
    | false => rw [q] at e; exact rpF_look r e
theorem slot_exc {vs : List V} {B H : Hp} {σ : L2.St} {r : Rho} {a dd : Addr} {ds : List (Str × D)} (R : Rl X.K vs B σ H r) (e : r.loc[i]? = some (some (.dt (.exc a dd ds)))) : σ[i]? = some (some (.ref a)) ∧ ∃ fs, B dd = some (.xd fs) ∧ RpF X.K B fs ds := by
  obtain ⟨v, h1, h2⟩ := R.dat i _ e
  cases h2 with
  | exc hB hF => exact ⟨h1, _, hB, hF⟩
theorem de_xf {a C dd : Addr} {oe : Obj} {pn : List (Addr × Obj)} {f : Str} (T : XfC X.K C) (hno : PySem.W.findIn X.K (.ref C) f = some none) (hz : Zc (.ref C) (some dd) oe) (hfl : ∃ vs, oe.data = .fields vs)
    (hi : X.N[i]? = some n) (hv : Vis X.env.scope n) (hd : (n == ("__debug__" : Str)) = false) (hcd : (n == ("__classdict__" : Str)) = false) (hb : attributeBase (.Name n np) f X.env (eval (.Name n np) X.env) = eval (.Name n np) X.env) :
    DE (X.suite a ((a, oe) :: pn)) (.Attribute (.Name n np) f pos) (cXf a dd i f) := by
  refine ⟨fun Wx tk => ⟨_, pe_xf (X := X) T hno hz hfl (pe_var (X := X.suite a ((a, oe) :: pn)) hi hv hd hcd) hb, fun vs B σ H r Q R h => ?_⟩⟩
  unfold cXf at h
  split at h
  · rename_i a' dd' ds e
    split at h
    · rename_i he
      obtain ⟨rfl, rfl⟩ := he
      obtain ⟨h1, fsV, hB, hF⟩ := slot_exc (X := X) R e
      cases el : ds.lookup f with
      | none => rw [el] at h; exact h.elim
      | some d =>
        rw [el] at h
        obtain ⟨v, hl, rv⟩ := rpF_look hF el
        exact ⟨.ref a', h1, rfl, rfl, dd', fsV, v, rfl, R.sub _ _ hB, hl, h v B H .refl R rv⟩
    · exact h.elim
  · exact h.elim
/-! ### isinstance(e, c) -/
/-- what the class D must say -/
structure XiC (K : PySem.W.Frag) (C : Addr) : Prop where
  hcl : (PySem.W.clsIn K C).isSome = true
  hga : PySem.W.findIn K (.ref C) "__getattribute__" = some (some (.builtin "BaseException.__getattribute__"))
  hgt : ∃ gt, PySem.W.findIn K (.ref C) "__getattr__" = some gt
  hsub : PySem.W.subIn K (.ref C) (.type "BaseException") = some true
  ha : PySem.W.findIn K (.ref C) "__class__" = some (some (.builtin "object.__class__"))
  hn : PySem.W.specialIn K (.builtin "object.__class__") "__get__" = some (some (.builtin "getset_descriptor.__get__"))
  ht : PySem.W.takesIn K (.builtin "object.__class__") = some true
  hm : PySem.W.mroIn K C (.type "object") = some true
/-- one class, or several -/
def isaD (isa : D → Option Bool) : D → Option Bool
  | .tup l => isaL isa l
  | d => isa d
where isaL (isa : D → Option Bool) : List D → Option Bool
  | [] => some false
  | c :: r => match isa c with
    | some true => some true
    | some false => isaL isa r
    | none => none
/-- isa tells the truth of the class at C -/
def IsaOk (K : PySem.W.Frag) (C : Addr) (isa : D → Option Bool) : Prop := (∀ l, isa (.tup l) = none) ∧ ∀ (d : D) (b : Bool), isa d = some b → ∀ (B : Hp) (v : V) (u : Value), Rp K B v d → RelV v u → PySem.W.kitOne K (.ref C) u = some b
def rIsX (K : PySem.W.Frag) (C a : Addr) (isa : D → Option Bool) : List V → Hp → VK → Prop := fun xs H Q => ∃ v d b, xs = [.ref a, v] ∧ Rp K H v d ∧ isaD isa d = some b ∧ Q (.bl b) H
theorem isaL_ok {K : PySem.W.Frag} {C : Addr} {isa : D → Option Bool} (h : IsaOk K C isa) : ∀ {l : List D} {b : Bool} {B : Hp} {vs : List V} {us : List Value}, isaD.isaL isa l = some b → RpAll K B vs l → Vals vs us → PySem.W.kitAny K (.ref C) us = some b
  | [], b, B, vs, us, e, r, v => by
    cases r; cases v; cases e
    exact kitAny_nil
  | c :: l, b, B, vs, us, e, r, v => by
    cases r with
    | cons r1 r2 =>
      cases v with
      | cons v1 v2 =>
        unfold isaD.isaL at e
        cases q : isa c with
        | none => rw [q] at e; cases e
        | some k =>
          rw [q] at e
          have k1 := h.2 c k q B _ _ r1 v1
          cases k with
          | true => cases e; exact kitAny_cons k1 (fun z => by cases z) (fun _ => rfl)
          | false => exact kitAny_cons k1 (fun _ => isaL_ok h e r2 v2) (fun z => by cases z)
theorem call_isX {a C dd : Addr} {oe : Obj} {pn : List (Addr × Obj)} {isa : D → Option Bool} (T : XiC X.K C) (hz : Zc (.ref C) (some dd) oe) (hfl : ∃ vs, oe.data = .fields vs) (hisa : IsaOk X.K C isa) :
    CallR (X.suite a ((a, oe) :: pn)) (.builtin "isinstance") (fun xs H Q => (∃ fs, H dd = some (.xd fs)) ∧ rIsX X.K C a isa xs H Q) := by
  intro pins s σ H xs us Q I r h
  obtain ⟨⟨fs, hdd⟩, v, d, b, rfl, rp, eb, q⟩ := h
  cases r with
  | cons ra rr =>
    cases rr with
    | cons rv rr =>
      cases rr
      rename_i u1 u2
      obtain rfl : u1 = Value.ref a := ra
      obtain ⟨hget, _⟩ := I.pin (a, oe) (List.mem_append.mpr (.inl List.mem_cons_self))
      obtain ⟨vs0, hd0⟩ := hfl
      obtain ⟨gt, hgt⟩ := T.hgt
      obtain ⟨mA, hns, _⟩ : ObjOk X.prog X.w H s.heap dd (.xd fs) := I.hok dd _ hdd
      obtain ⟨od, ho, _⟩ := lookIn_ns hns
      have J : PySem.W.InstAt s.heap a oe C (some od) := ⟨hget, hz.1, by unfold PySem.W.notCls; rw [hd0] <;> rfl, by rw [hz.2]; exact ho⟩
      have Z := PySem.W.kitx_exc (K := X.K) (x := a) (ox := oe) (od := some od) T.hcl T.hga hgt T.hsub T.ha T.hn T.ht T.hm
      have fin : ∀ tk, EP (X.suite a ((a, oe) :: pn)) pins σ Q (.bool b) { s with toks := tk } := fun tk => ⟨.bl b, H, I.kept (t' := tk) fun _ _ z => z, rfl, q⟩
      by_cases ht : ∃ l, d = .tup l
      · obtain ⟨l, rfl⟩ := ht
        cases rp with
        | tup h1 h2 =>
          rename_i p xs
          obtain rfl : u2 = Value.ref p := rv
          obtain ⟨its, o, m, rvs, ho2, hc2, hd2⟩ := sqT_at I.hok I.kIn (seqT_mono (Same.refl H) h1)
          obtain ⟨oc, od2, dt2, sl2⟩ := o
          simp only at hc2 hd2
          subst hc2 hd2
          exact PySem.W.kia_tup Z I.kIn J ho2 (isaL_ok hisa eb h2 rvs) (fun z => nomatch z) fin
      · have e1 : isaD isa d = isa d := by
          cases d <;> first | rfl | exact absurd ⟨_, rfl⟩ ht
        rw [e1] at eb
        exact PySem.W.kia_one Z I.kIn J (hisa.2 d b eb H v u2 rp rv) (fun z => nomatch z) fin
def cIsE (a dd : Addr) (i : Nat) (isa : D → Option Bool) (fc : M W) : M W := fun r => match r.loc[i]? with
  | some (some (.dt (.exc a' dd' _))) => if a' = a ∧ dd' = dd then M.bind fc (fun w => M.bind (M.view w) fun d => M.bind (M.opt (isaD isa d)) fun b => M.ret (.dt (.bl b))) r else .fail
  | _ => .fail
theorem de_isE {a C dd : Addr} {oe : Obj} {pn : List (Addr × Obj)} {isa : D → Option Bool} {e : Expr} {fc : M W} {p : Pos} (T : XiC X.K C) (hz : Zc (.ref C) (some dd) oe) (hfl : ∃ vs, oe.data = .fields vs) (hisa : IsaOk X.K C isa)
    (hi : X.N[i]? = some n) (hv : Vis X.env.scope n) (hd : (n == ("__debug__" : Str)) = false) (hcd : (n == ("__classdict__" : Str)) = false) (hg : Gl X "isinstance") (hm : X.mg "isinstance" = none) (hc : DE (X.suite a ((a, oe) :: pn)) e fc)
    (he : starEach [.Name n np, e] X.env = (false, eval (.Name n np) X.env) :: starEach [e] X.env) (he2 : starEach [e] X.env = (false, eval e X.env) :: starEach [] X.env) (hpl : (backTo pos (starEach [e] X.env)).any (·.1) = false) :
    DE (X.suite a ((a, oe) :: pn)) (.Call (.Name "isinstance" p) [.Name n np, e] [] pos) (cIsE a dd i isa fc) := by
  refine ⟨fun Wx tk => ?_⟩
  obtain ⟨t, pt, qt⟩ := hc.run Wx tk
  refine ⟨_, pe_callB (X := X.suite a ((a, oe) :: pn)) (call_isX (X := X) T hz hfl hisa) hg hm (by decide +kernel) (pa_cons (pe_var (X := X.suite a ((a, oe) :: pn)) hi hv hd hcd) (pa_cons pt pa_nil he2) he) (by decide) (by decide) he hpl, fun vs B σ H r Q R h => ?_⟩
  unfold cIsE at h
  split at h
  · rename_i a' dd' ds es
    split at h
    · rename_i hq
      obtain ⟨rfl, rfl⟩ := hq
      obtain ⟨h1, fsV, hB, hF⟩ := slot_exc (X := X) R es
      refine ⟨.ref a', h1, qt vs B σ H r _ R (Post.bind0 h fun v w B1 H1 r1 s1 R1 q1 h2 => ?_)⟩
      obtain ⟨d, vd, _, h3⟩ := Post.view R1 q1 h2
      obtain ⟨b, eb, h4⟩ := Post.opt h3
      exact ⟨⟨fsV, R1.sub _ _ (s1.sub _ _ hB)⟩, v, d, b, rfl, vd.whole R1.sub, eb, h4 (.bl b) B1 H1 s1 R1 (Rp.bl b)⟩
    · exact h.elim
  · exact h.elim
end
end Lc

set_option Elab.async false
set_option maxRecDepth 100000
set_option maxHeartbeats 4000000
/-! Part V: tuples and lists added, repeated, cut; sum, max, min of lists, tuple(x); classes by name; a def that fails. -/
namespace Lc
open PySem L2 PySem.Spec PyProof.Rows
section
variable {X : Cx} {B H : Hp} {v : V}
theorem OpS.or {f : Value → Value → Sem Value} {g g' : D → D → Option Bo} (h : OpS X f g) (h' : OpS X f g') : OpS X f (fun a b => match g a b with | some c => some c | none => g' a b) := by
  obtain ⟨rr, h1, h2⟩ := h
  obtain ⟨rr', h1', h2'⟩ := h'
  refine ⟨_, h1.or h1', fun x y da db b e B H Q s vx vy k => ?_⟩
  cases q : g da db with
  | some c => simp only [q] at e; cases e; exact .inl (h2 x y da db b q B H Q s vx vy k)
  | none => simp only [q] at e; exact .inr (h2' x y da db b e B H Q s vx vy k)
def gAddT : D → D → Option Bo
  | .tup xs, .tup ys => if xs.length + ys.length ≤ sizeLine then some (.dt (.tup (xs ++ ys))) else none
  | _, _ => none
theorem ops_addT : OpS X (binaryOp .Add) gAddT := by
  refine ⟨_, op_catA, fun x y da db b e B H Q s vx vy k => ?_⟩
  unfold gAddT at e
  split at e
  · rename_i xs ys
    split at e
    · rename_i hl
      cases e
      obtain ⟨a, us, rfl, h1, h2⟩ := rv_tup vx
      obtain ⟨c, ws, rfl, h3, h4⟩ := rv_tup vy
      refine ⟨a, c, us, ws, rfl, rfl, seqT_mono s h1, seqT_mono s h3, by rw [h2.length, h4.length]; exact hl, fun e0 => ?_, fun e0 e1 => ?_, fun e0 e1 p np => ?_⟩
      · subst e0
        have : xs = [] := List.length_eq_zero_iff.mp h2.length.symm
        subst this
        exact k _ B H .refl s (Rp.tup h3 h4)
      · subst e1
        have : ys = [] := List.length_eq_zero_iff.mp h4.length.symm
        subst this
        rw [List.append_nil] at k
        exact k _ B H .refl s (Rp.tup h1 h2)
      · exact k _ _ _ (.frozen s np) (same_both s) (Rp.tup (.inl upd_same) ((h2.append h4).mono (Ext.frozen s np).sub))
    · cases e
  · cases e
def gAdd2 (a b : D) : Option Bo := match gAdd a b with
  | some c => some c
  | none => gAddT a b
theorem ops_add2 : OpS X (binaryOp .Add) gAdd2 := OpS.or ops_add ops_addT
def gRepL : D → D → Option Bo
  | .lst xs, .int k => if -(2 ^ 63) ≤ k ∧ k < 2 ^ 63 ∧ xs.length * k.toNat ≤ sizeLine then some (.own (.lst (List.replicate k.toNat xs).flatten)) else none
  | _, _ => none
theorem rep_rp {K : PySem.W.Frag} {xs : List V} {ds : List D} (h : RpAll K B xs ds) : ∀ n : Nat, RpAll K B (List.replicate n xs).flatten (List.replicate n ds).flatten
  | 0 => .nil
  | n + 1 => by
    rw [List.replicate_succ, List.replicate_succ, List.flatten_cons, List.flatten_cons]
    exact h.append (rep_rp h n)
theorem ops_repL : OpS X (binaryOp .Mult) gRepL := by
  refine ⟨_, op_rep, fun x y da db b e B H Q s vx vy k => ?_⟩
  unfold gRepL at e
  split at e
  · rename_i xs n
    split at e
    · rename_i hl
      cases e
      obtain ⟨a, us, rfl, h1, h2⟩ := vx
      refine ⟨a, n, us, rfl, rv_int vy, h1, hl.1, hl.2.1, by rw [h2.length]; exact hl.2.2, fun p np => ?_⟩
      exact k _ B _ (.plain np) (s.trans (same_upd np)) ⟨p, rfl, np, none_of_sub s np, ⟨_, upd_same, rep_rp h2 _⟩⟩
    · cases e
  · cases e
def gRepT : D → D → Option Bo
  | .tup xs, .int k => if xs ≠ [] ∧ 2 ≤ k ∧ k ≤ 1000 ∧ xs.length ≤ 1000 then some (.dt (.tup (List.replicate k.toNat xs).flatten)) else none
  | _, _ => none
theorem ne_nil_len {α β : Type} {l : List α} {m : List β} (h : l.length = m.length) (n : m ≠ []) : l ≠ [] := fun z => by
  subst z
  exact n (List.length_eq_zero_iff.mp h.symm)
theorem ops_repT : OpS X (binaryOp .Mult) gRepT := by
  refine ⟨_, op_repT, fun x y da db b e B H Q s vx vy k => ?_⟩
  unfold gRepT at e
  split at e
  · rename_i xs n
    split at e
    · rename_i hl
      cases e
      obtain ⟨a, us, rfl, h1, h2⟩ := rv_tup vx
      refine ⟨a, n, us, rfl, rv_int vy, seqT_mono s h1, ne_nil_len h2.length hl.1, hl.2.1, hl.2.2.1, by rw [h2.length]; exact hl.2.2.2, fun p np => ?_⟩
      exact k _ _ _ (.frozen s np) (same_both s) (Rp.tup (.inl upd_same) ((rep_rp h2 _).mono (Ext.frozen s np).sub))
    · cases e
  · cases e
def gMul2 (a b : D) : Option Bo := match (match gMul a b with
    | some c => some c
    | none => gRepL a b) with
  | some c => some c
  | none => gRepT a b
theorem ops_mul2 : OpS X (binaryOp .Mult) gMul2 := OpS.or (OpS.or ops_mul ops_repL) ops_repT
/-! ### t[lo:hi] -/
def gSl2 : D → Option Int → Option Int → Option Bo
  | .tup l, lo, hi => some (.dt (.tup (cutD l lo hi)))
  | d, lo, hi => gSl d lo hi
theorem cut_rp {K : PySem.W.Frag} {xs : List V} {l : List D} {lo hi : Option Int} (h2 : RpAll K B xs l) : RpAll K B (cutV xs lo hi) (cutD l lo hi) := by
  unfold cutV cutD
  rw [h2.length]
  exact (h2.drop _).take _
theorem sls2 : SlS X gSl2 := by
  obtain ⟨rr, h1, h2⟩ := sls (X := X)
  refine ⟨_, h1.or sl_tupA, fun x d lo hi b e B H Q s vx k => ?_⟩
  unfold gSl2 at e
  split at e
  · rename_i l
    cases e
    obtain ⟨a, us, rfl, g1, g2⟩ := rv_tup vx
    refine .inr ⟨a, us, rfl, seqT_mono s g1, fun w => ?_, fun _ p np => ?_⟩
    · have e2 : cutD l lo hi = l := by
        unfold cutD
        rw [g2.length] at w
        rw [w.1, w.2, List.drop_zero, Nat.sub_zero, List.take_length]
      rw [e2] at k
      exact k _ B H .refl s (Rp.tup g1 g2)
    · exact k _ _ _ (.frozen s np) (same_both s) (Rp.tup (.inl upd_same) ((cut_rp g2).mono (Ext.frozen s np).sub))
  · exact .inl (h2 x d lo hi b e B H Q s vx k)
/-! ### sum, max, min of a list, tuple(x) -/
def intsOf : List D → Option (List Int)
  | [] => some []
  | .int b :: l => (intsOf l).map (b :: ·)
  | _ => none
theorem intsOf_ok : ∀ {l : List D} {bs : List Int}, intsOf l = some bs → l = bs.map D.int
  | [], bs, e => by cases e; rfl
  | d :: l, bs, e => by
    cases d with
    | int b =>
      simp only [intsOf] at e
      cases q : intsOf l with
      | none => rw [q] at e; cases e
      | some cs => rw [q] at e; cases e; rw [intsOf_ok q]; rfl
    | _ => simp [intsOf] at e
def gSum : List D → Option Bo
  | [.lst l] => (intsOf l).bind fun ns => iD ns.sum
  | _ => none
theorem cs_sum : CallS X (rSum X.K) gSum := by
  intro xs ds b e B H Q s vs k
  unfold gSum at e
  split at e
  · rename_i l
    cases q : intsOf l with
    | none => rw [q] at e; cases e
    | some ns =>
      rw [q] at e; cases e
      obtain ⟨x, rfl, a, xs, rfl, h1, h2⟩ := rvs_one vs
      rw [intsOf_ok q] at h2
      have := h2.ints
      subst this
      exact ⟨a, ns, rfl, .of h1, k _ B H .refl s (Rp.int _)⟩
  · cases e
def maxI : List Int → Int
  | [] => 0
  | [n] => n
  | n :: m :: r => max n (maxI (m :: r))
theorem maxI_ge : ∀ (ns : List Int) (y : Int), y ∈ ns → y ≤ maxI ns
  | [n], y, h => by rw [List.mem_singleton.mp h]; exact Int.le_refl _
  | n :: m :: r, y, h => by
    rcases List.mem_cons.mp h with rfl | h
    · exact Int.le_max_left _ _
    · exact Int.le_trans (maxI_ge (m :: r) y h) (Int.le_max_right _ _)
theorem maxI_in : ∀ (ns : List Int), ns ≠ [] → maxI ns ∈ ns
  | [n], _ => List.mem_singleton.mpr rfl
  | n :: m :: r, _ => by
    have := maxI_in (m :: r) (by simp)
    show max n (maxI (m :: r)) ∈ _
    rcases Int.le_total n (maxI (m :: r)) with h | h
    · rw [Int.max_eq_right h]; exact List.mem_cons_of_mem _ this
    · rw [Int.max_eq_left h]; exact List.mem_cons_self
def gMaxL : List D → Option Bo
  | [.lst l] => (intsOf l).bind fun ns => if ns = [] then none else iD (maxI ns)
  | ds => gMax ds
def rMax2 (K : PySem.W.Frag) : List V → Hp → VK → Prop := fun xs H Q => (∃ i j, xs = [.int i, .int j] ∧ Q (.int (if j > i then j else i)) H) ∨ rMax K xs H Q
theorem call_max12 (hc : X.calm = true) : CallR X (.builtin "max") (rMax2 X.K) := (call_max2 hc).or (cr_max hc)
theorem cs_max12 : CallS X (rMax2 X.K) gMaxL := by
  intro xs ds b e B H Q s vs k
  unfold gMaxL at e
  split at e
  · rename_i l
    cases q : intsOf l with
    | none => rw [q] at e; cases e
    | some ns =>
      rw [q] at e
      have e' : (if ns = [] then none else iD (maxI ns)) = some b := e
      split at e'
      · cases e'
      · rename_i hne
        cases e'
        obtain ⟨x, rfl, a, xs, rfl, h1, h2⟩ := rvs_one vs
        rw [intsOf_ok q] at h2
        have := h2.ints
        subst this
        refine .inr ⟨a, ns, rfl, .of h1, List.length_pos_iff.mpr hne, fun m hm hg => ?_⟩
        have : m = maxI ns := Int.le_antisymm (maxI_ge ns m hm) (hg _ (maxI_in ns hne))
        rw [this]
        exact k _ B H .refl s (Rp.int _)
  · exact .inl (cs_max xs _ b e B H Q s vs k)
def gTuple : List D → Option Bo
  | [.lst l] => some (.dt (.tup l))
  | [.tup l] => some (.dt (.tup l))
  | _ => none
theorem cs_tuple : CallS X (fun xs H Q => ∃ p ys, xs = [.ref p] ∧ ((SqL X.K H p ys ∧ ∀ l, H l = none → Q (.ref l) (upd H l (.tup ys))) ∨ (SqT X.K H p ys ∧ Q (.ref p) H))) gTuple := by
  intro xs ds b e B H Q s vs k
  unfold gTuple at e
  split at e
  · cases e
    obtain ⟨x, rfl, a, xs, rfl, h1, h2⟩ := rvs_one vs
    exact ⟨a, xs, rfl, .inl ⟨.of h1, fun p np => k _ _ _ (.frozen s np) (same_both s) (Rp.tup (.inl upd_same) (h2.mono (Ext.frozen s np).sub))⟩⟩
  · cases e
    obtain ⟨x, rfl, hx⟩ := rvs_one vs
    obtain ⟨a, xs, rfl, h1, h2⟩ := rv_tup hx
    exact ⟨a, xs, rfl, .inr ⟨seqT_mono s h1, k _ B H .refl s (Rp.tup h1 h2)⟩⟩
  · cases e
/-! ### classes by name; a def that fails -/
theorem de_cls {x : Str} {C : Addr} {pos : Pos} (hg : Gl X x) (hm : X.mg x = some (.ref C)) (hn : PySem.W.nsIn X.K mainGlobals x = some (some (.ref C))) (hd : (x == ("__debug__" : Str)) = false) : DE X (.Name x pos) (cC (.cls x)) := de_glo (v := .ref C) hg hm rfl (fun _ => .cls hn) hd
end
theorem fnG_fail {P : Program} {w : World} {K : PySem.W.Frag} {mg : Str → Option Value} {base : Heap} {k : Nat} {f : Addr} {fd : FuncData} {ps : List Str} : FnG P w K mg base k f fd ps (fun _ => .fail) :=
  ⟨fun _ _ _ _ _ _ _ _ _ _ _ _ _ _ ⟨_, _, _, _, _, h⟩ => h.elim⟩
end Lc

set_option Elab.async false
set_option maxRecDepth 100000
set_option maxHeartbeats 4000000
/-! Part W: the head's facts: defs, names, error classes. -/
namespace Lc
open PySem L2 PySem.Spec PyProof.Rows He
def clsB (K : PySem.W.Frag) (C : Addr) : Bool := match K.lookup C with
  | some ⟨.type t, _, .cls cd, sl⟩ => decide (t = "type") && (cd.hasDict && (!cd.hasDel && ((match sl.toList with
      | [_, _, _, _, some (.builtin nid), _] => decide (nid = "ValueError.__new__")
      | _ => false) && (match cd.mro with
      | .ref C' :: bm => decide (C' = C) && PySem.HandSPX.refsVE bm
      | _ => false))))
  | _ => false
theorem clsB_ok {K : PySem.W.Frag} {C : Addr} (h : clsB K C = true) : ∃ nm q N bs bm sn sub ab col dd k0 k1 k2 k3 k5, K.lookup C = some (excClassObj nm q C N bs bm true sn sub ab col dd k0 k1 k2 k3 k5 "ValueError.__new__") ∧ PySem.HandSPX.refsVE bm = true := by
  unfold clsB at h
  split at h
  · rename_i t dd cd sl hl
    obtain ⟨h1, h⟩ := ba h
    obtain ⟨h2, h⟩ := ba h
    obtain ⟨h3, h⟩ := ba h
    obtain ⟨h4, h5⟩ := ba h
    split at h4
    · rename_i k0 k1 k2 k3 nid k5 hs
      split at h5
      · rename_i C' bm hmro
        obtain ⟨h6, h7⟩ := ba h5
        have e1 := of_decide_eq_true h1
        have e4 := of_decide_eq_true h4
        have e6 := of_decide_eq_true h6
        obtain ⟨nm, bs, mro, ns, qn, hd, sn, sb, ab, col, del⟩ := cd
        simp only at h2 h3 hmro
        subst e1 e4 e6 hmro h2
        have e3 : del = false := by simpa using h3
        subst e3
        have es : sl = #[k0, k1, k2, k3, some (.builtin "ValueError.__new__"), k5] := Array.toList_inj.mp (by rw [hs])
        subst es
        exact ⟨_, _, _, _, bm, _, _, _, _, _, _, _, _, _, _, hl, h7⟩
      · cases h5
    · cases h4
  · cases h
def initB (K : PySem.W.Frag) (file : Str) (C fI : Addr) : Bool := match K.lookup fI with
  | some ⟨_, _, .func fd, _⟩ => PySem.W.codeIn K fd.code fd.qualname && ((match fd.code with
      | .ref cda => (match K.lookup cda with
        | some ⟨_, _, .fields vs, _⟩ => (match (vs[2]? : Option Value) with
          | some (.str z _) => decide (z = file)
          | _ => false)
        | _ => false)
      | _ => false) && (match fd.closure with
      | [(_, cc)] => (match K.lookup cc with
        | some ⟨_, _, .cell (some (.ref C')), _⟩ => decide (C' = C)
        | _ => false)
      | _ => false))
  | _ => false
abbrev IniW : Type := Option (Arguments × FuncBody × Scope × Addr × List Str × Addr × Value × Value)
def iniW (K : PySem.W.Frag) (x : Str) : IniW := match K.lookup (ma K (ga K x) "__init__") with
  | some ⟨_, _, .func fd, _⟩ => some (fd.params, fd.body, fd.scope, fd.globals, fd.closure.map (·.1), fd.builtins, fd.defaults, fd.kwdefaults)
  | _ => none
def xcB (K : PySem.W.Frag) (file x : Str) (fs : List Str) : Bool :=
  clsB K (ga K x) && (eqO (PySem.W.findIn K (.ref (ga K x)) "__setattr__") (some (some (.builtin "object.__setattr__"))) && (decide (PySem.W.subIn K (.ref (ga K x)) (.type "BaseException") = some true) && (decide (PySem.W.typeIn K (.ref (ga K x)) = some (.type "type")) && (PySem.W.keepIn K (.ref (ga K x)) &&
  (eqO (PySem.W.findIn K (.ref (ga K x)) "__init__") (some (some (.ref (ma K (ga K x) "__init__")))) && (decide (PySem.W.typeIn K (.ref (ma K (ga K x) "__init__")) = some (.type "function")) && (initB K file (ga K x) (ma K (ga K x) "__init__") &&
  (eqO (PySem.W.ks_superIn K (ga K x) (ga K x) "__init__") (some (some (.builtin "ValueError.__init__"))) && (decide (PySem.W.subIn K (.ref (ga K x)) (.type "ValueError") = some true) && (eqO (PySem.W.nsIn K cStatics "thirdparty.any") (some none) && (decide (PySem.W.mroIn K (ga K x) (.ref (ga K x)) = some true) &&
  (fs.all (fun f => eqO (PySem.W.findIn K (.ref (ga K x)) f) (some none)) && (xfB K (ga K x) && ((PySem.W.clsIn K (ga K x)).isSome && (eqO (PySem.W.findIn K (.ref (ga K x)) "__class__") (some (some (.builtin "object.__class__"))) &&
  (eqO (PySem.W.specialIn K (.builtin "object.__class__") "__get__") (some (some (.builtin "getset_descriptor.__get__"))) && (decide (PySem.W.takesIn K (.builtin "object.__class__") = some true) && decide (PySem.W.mroIn K (ga K x) (.type "object") = some true))))))))))))))))))
/-- an error class: its name, its fields, its __init__ -/
structure XD where
  x : Str
  fs : List Str
  params : Arguments
  body : List Stmt
  scope : Scope
def XD.val (d : XD) : IniW := some (d.params, .stmts d.body, d.scope, mainGlobals, ["__class__"], builtinsNs, .none, .none)
/-- all that is told of an error class -/
structure XcA (K : PySem.W.Frag) (file x : Str) (fs : List Str) (params : Arguments) (body : List Stmt) (scope : Scope) : Prop where
  ini : ∃ fI cc cda fd, XcI K file params body scope (ga K x) fI cc cda fd
  no : ∀ f ∈ fs, PySem.W.findIn K (.ref (ga K x)) f = some none
  xf : XfC K (ga K x)
  xi : XiC K (ga K x)
theorem xcA_of {K : PySem.W.Frag} {file : Str} {d : XD} (h : xcB K file d.x d.fs = true) (e : iniW K d.x = d.val) : XcA K file d.x d.fs d.params d.body d.scope := by
  obtain ⟨a1, h⟩ := ba h
  obtain ⟨a2, h⟩ := ba h
  obtain ⟨a3, h⟩ := ba h
  obtain ⟨a4, h⟩ := ba h
  obtain ⟨a5, h⟩ := ba h
  obtain ⟨a6, h⟩ := ba h
  obtain ⟨a7, h⟩ := ba h
  obtain ⟨a8, h⟩ := ba h
  obtain ⟨a9, h⟩ := ba h
  obtain ⟨a10, h⟩ := ba h
  obtain ⟨a11, h⟩ := ba h
  obtain ⟨a12, h⟩ := ba h
  obtain ⟨a13, h⟩ := ba h
  obtain ⟨a14, h⟩ := ba h
  obtain ⟨a15, h⟩ := ba h
  obtain ⟨a16, h⟩ := ba h
  obtain ⟨a17, h⟩ := ba h
  obtain ⟨a18, a19⟩ := ba h
  have ox : OexC K (ga K d.x) := ⟨clsB_ok a1, eqO_ok a2, of_decide_eq_true a3, of_decide_eq_true a4, a5⟩
  have xf := xfB_ok a14
  refine ⟨?_, fun f hf => eqO_ok (List.all_eq_true.mp a13 f hf), xf, ⟨a15, xf.ga, ⟨_, xf.gg⟩, xf.exC, eqO_ok a16, eqO_ok a17, of_decide_eq_true a18, of_decide_eq_true a19⟩⟩
  unfold initB at a8
  unfold iniW at e
  split at a8
  · rename_i oc od fd osl hl
    rw [hl] at e
    obtain ⟨b1, b⟩ := ba a8
    obtain ⟨b2, b3⟩ := ba b
    split at b2
    · rename_i cda hcd
      split at b2
      · rename_i ccl cdd vs ccs hco
        split at b2
        · rename_i z tf hz
          have ez := of_decide_eq_true b2
          subst ez
          split at b3
          · rename_i nm cc hcl
            split at b3
            · rename_i cl cld C' csl hce
              have eC := of_decide_eq_true b3
              subst eC
              obtain ⟨n1, n2, n3, n4, n5, n6, n7, n8, n9, n10, n11, n12, n13, n14, n15⟩ := fd
              simp only [XD.val, Option.some.injEq, Prod.mk.injEq] at e
              simp only at hcd hcl b1
              obtain ⟨e1, e2, e3, e4, e5, e6, e7, e8⟩ := e
              subst hcd hcl e1 e2 e3 e4 e6 e7 e8
              have e5' : nm = "__class__" := by simpa using e5
              subst e5'
              exact ⟨_, cc, cda, _, ⟨ox, eqO_ok a6, of_decide_eq_true a7, ⟨_, _, _, _, _, _, _, _, _, rfl, hl, b1⟩, ⟨_, _, _, _, _, hco, hz⟩, ⟨_, _, _, hce⟩, eqO_ok a9, of_decide_eq_true a10, eqO_ok a11, of_decide_eq_true a12⟩⟩
            · cases b3
          · cases b3
        · cases b2
      · cases b2
    · cases b2
  · cases a8
/-! ### the Hook -/
abbrev AlS : Type := AlD × (Bool × List IniW)
def frS (g : Addr → Option Obj) (n : Nat) : PySem.W.Frag := frG g (sysModules :: cStatics :: asD g n)
def obsS (n : Nat) (fa : List Fa) (fn : List DefD) (file : Str) (xs : List XD) (ex : PySem.W.Frag → Bool) (g : Addr → Option Obj) : AlS := (obsD fa fn (frS g n), ((xs.all fun d => xcB (frS g n) file d.x d.fs) && ex (frS g n), xs.map fun d => iniW (frS g n) d.x))
def valS (fn : List DefD) (xs : List XD) : AlS := (valD fn, (true, xs.map XD.val))
structure SaysS (fa : List Fa) (fn : List DefD) (file : Str) (xs : List XD) (ex : PySem.W.Frag → Bool) (K : PySem.W.Frag) : Prop where
  d : SaysD fa fn K
  xc : ∀ (i : Nat) (x : XD), xs[i]? = some x → XcA K file x.x x.fs x.params x.body x.scope
  more : ex K = true
theorem saysS_of {n : Nat} {fa : List Fa} {fn : List DefD} {file : Str} {xs : List XD} {ex : PySem.W.Frag → Bool} {g : Addr → Option Obj} (e : obsS n fa fn file xs ex g = valS fn xs) : SaysS fa fn file xs ex (frS g n) := by
  have e1 : obsD fa fn (frS g n) = valD fn := congrArg (fun z : AlS => z.1) e
  have e2 : ((xs.all fun d => xcB (frS g n) file d.x d.fs) && ex (frS g n)) = true := congrArg (fun z : AlS => z.2.1) e
  have e3 : (xs.map fun d => iniW (frS g n) d.x) = xs.map XD.val := congrArg (fun z : AlS => z.2.2) e
  obtain ⟨h1, h2⟩ := ba e2
  refine ⟨e1, fun i x hi => ?_, h2⟩
  have e4 : (xs.map fun d => iniW (frS g n) d.x)[i]? = (xs.map XD.val)[i]? := by rw [e3]
  rw [List.getElem?_map, List.getElem?_map, hi] at e4
  exact xcA_of (List.all_eq_true.mp h1 x (List.mem_of_getElem? hi)) (Option.some.inj e4)
def hookS (n : Nat) (fa : List Fa) (fn : List DefD) (file : Str) (xs : List XD) (ex : PySem.W.Frag → Bool) : PySem.W.Hook where
  α := AlS
  obs := fun s => obsS n fa fn file xs ex s.heap.get?
  val := fun _ => valS fn xs
  says := fun _ h => ∃ K : PySem.W.Frag, K.In h ∧ SaysS fa fn file xs ex K
  of := fun _ _ e => ⟨_, frG_in, saysS_of e⟩
  keeps := fun _ _ _ ⟨K, hK, c⟩ k => ⟨K, PySem.W.Frag.In.keeps hK k, c⟩
theorem obsS_eq {n : Nat} {fa : List Fa} {fn : List DefD} {file : Str} {xs : List XD} {ex : PySem.W.Frag → Bool} {g : Addr → Option Obj} {s : Shared} (h : ∀ a, g a = s.heap.get? a) : obsS n fa fn file xs ex g = (hookS n fa fn file xs ex).obs s := by
  have e : g = s.heap.get? := funext h
  rw [e]
  rfl
end Lc

set_option Elab.async false
set_option maxRecDepth 100000
set_option maxHeartbeats 4000000
/-! Part X: error classes as the printed proofs name them. -/
namespace Lc
open PySem L2 PySem.Spec PyProof.Rows He
def clsBody (s : Stmt) : List Stmt := match s with
  | .ClassDef _ _ _ b _ _ _ _ _ _ _ => b
  | _ => []
/-- a class: of the module, of Python -/
inductive CK where
  | c (x : Str)
  | t (n : String)
  deriving DecidableEq
def CK.val (K : PySem.W.Frag) : CK → Value
  | .c x => .ref (ga K x)
  | .t n => .type n
def CK.glo (K : PySem.W.Frag) : CK → Bool
  | .c x => eqO (PySem.W.nsIn K mainGlobals x) (some (some (.ref (ga K x))))
  | .t _ => true
abbrev Tab : Type := List ((Str × CK) × Bool)
def isaOf (tb : Tab) (x : Str) : D → Option Bool
  | .cls y => tb.lookup (x, .c y)
  | .ty n => tb.lookup (x, .t n)
  | _ => none
def isaB (K : PySem.W.Frag) (tb : Tab) : Bool := tb.all fun p => decide (PySem.W.kitOne K (.ref (ga K p.1.1)) (p.1.2.val K) = some p.2) && p.1.2.glo K
def catB (K : PySem.W.Frag) (tb : Tab) : Bool := tb.all fun p => decide (PySem.W.exmOne K (.ref (ga K p.1.1)) (p.1.2.val K) = some p.2)
theorem lookup_in {α β : Type} [BEq α] [LawfulBEq α] {k : α} {v : β} : ∀ {l : List (α × β)}, l.lookup k = some v → (k, v) ∈ l
  | [], h => by cases h
  | (a, b) :: l, h => by
    rw [List.lookup_cons] at h
    cases q : (k == a) with
    | true => rw [q] at h; cases h; rw [eq_of_beq q]; exact List.mem_cons_self
    | false => rw [q] at h; exact List.mem_cons_of_mem _ (lookup_in h)
theorem isa_ok {K : PySem.W.Frag} {tb : Tab} {x : Str} (h : isaB K tb = true) : IsaOk K (ga K x) (isaOf tb x) := by
  refine ⟨fun l => rfl, fun d b e B v u r rv => ?_⟩
  unfold isaOf at e
  split at e
  · rename_i y
    obtain ⟨h1, h2⟩ := ba (List.all_eq_true.mp h _ (lookup_in e))
    cases r with
    | cls hn =>
      have z := eqO_ok h2
      rw [hn] at z
      cases z
      obtain rfl : u = Value.ref (ga K y) := rv
      exact of_decide_eq_true h1
  · rename_i n
    obtain ⟨h1, _⟩ := ba (List.all_eq_true.mp h _ (lookup_in e))
    cases r
    obtain rfl : u = Value.type n := rv
    exact of_decide_eq_true h1
  · cases e
/-- what a law's text has of error classes -/
structure EnvE (P : Program) (K : PySem.W.Frag) (mg : Str → Option Value) (file : Str) (names : List Str) (isaT catT : Tab) (xds : List XD) : Prop where
  cls : ∀ (i : Nat) (y : Str), names[i]? = some y → mg y = some (.ref (ga K y)) ∧ PySem.W.nsIn K mainGlobals y = some (some (.ref (ga K y)))
  isa : isaB K isaT = true
  cat : catB K catT = true
  xc : ∀ (i : Nat) (d : XD), xds[i]? = some d → XcA K file d.x d.fs d.params d.body d.scope
  sup : mg "super" = none
  sys : ∃ o, K.lookup sysModules = some o
  hfile : ((P.main.file : Str) == file) = true
  htop : (P.main.scope.names.lookup ("super" : Str)).isSome = false
section
variable {P : Program} {K : PySem.W.Frag} {mg : Str → Option Value} {file : Str} {names : List Str} {isaT catT : Tab} {xds : List XD}
/-- which classes the clause takes -/
def catOf (tb : Tab) (k : CK) (y : Str) : Option Bool := tb.lookup (y, k)
theorem cat_ok (ev : EnvE P K mg file names isaT catT xds) (hn : ∀ p ∈ catT, p.1.1 ∈ names) {k : CK} {y : Str} {b : Bool} {C : Addr} (e : catOf catT k y = some b) (hm : mg y = some (.ref C)) : PySem.W.exmOne K (.ref C) (k.val K) = some b ∧ C = ga K y := by
  have hi := lookup_in e
  have h1 := List.all_eq_true.mp ev.cat _ hi
  obtain ⟨j, hj, ej⟩ := List.mem_iff_getElem.mp (hn _ hi)
  have h2 := (ev.cls j y (by rw [List.getElem?_eq_getElem hj, ej])).1
  rw [hm] at h2
  cases h2
  exact ⟨of_decide_eq_true h1, rfl⟩
theorem xc1_of (ev : EnvE P K mg file names isaT catT xds) {i j : Nat} {d : XD} {f : Str} (hx : xds[i]? = some d) (hn : names[j]? = some d.x) (hf : f ∈ d.fs) (Fo : ((P.main.file : Str) == file) = true → (P.main.scope.names.lookup ("super" : Str)).isSome = false → Form1 P file d.params d.body d.scope f) : Xc1 P K mg d.x f := by
  have A := ev.xc i d hx
  obtain ⟨fI, cc, cda, fd, T⟩ := A.ini
  exact ⟨file, d.params, d.body, d.scope, _, fI, cc, cda, fd, T, Fo ev.hfile ev.htop, A.no f hf, (ev.cls j d.x hn).1, ev.sup⟩
end
section
variable {X : Cx} {x n : Str} {i : Nat} {body suite : List Stmt} {b0 : Stmt} {np pos pos' : Pos} {fb : M Fl} {fs : Addr → Addr → Ex → M Fl} {file : Str} {names : List Str} {isaT catT : Tab} {xds : List XD}
theorem ds_tryC {j : Nat} (ev : EnvE X.prog X.K X.mg file names isaT catT xds) (hs : X.stack = X.env :: X.outer) (hf : X.env.frame = some X.env.locals) (hN : X.N.Nodup) (hi : X.N[i]? = some n) (hln : X.env.kindOf n = some .local) (hg : Gl X x) (hdb : (x == ("__debug__" : Str)) = false)
    (hj : names[j]? = some x) (hn : ∀ p ∈ catT, p.1.1 ∈ names)
    (hb : ∀ (pn : List (Addr × Obj)) (xe : Value → Shared → Prop), PassesOwn (model X.prog X.w) X.A X.env xe → DSs (X.tr pn xe) body fb)
    (hsu : ∀ (a : Addr) (oe : Obj) (pn : List (Addr × Obj)) (dd : Addr) (y : Ex), Zc (.ref (ga X.K y.cls)) (some dd) oe → (∃ vs, oe.data = .fields vs) → catOf catT (.c x) y.cls = some true → DSs (X.suite a ((a, oe) :: pn)) (b0 :: suite) (fs a dd y)) :
    DS X (.Try body [.ExceptHandler (some (.Name x np)) (some n) (b0 :: suite) pos'] [] [] pos) (cTry fb (catOf catT (.c x)) i fs) :=
  ds_try (cv := .ref (ga X.K x)) hs hf hN hi hln ⟨hg, hdb, .inl (ev.cls j x hj).1⟩ (fun _ _ _ e hm => (cat_ok ev hn e hm).1) hb fun a oe pn C dd y hz hfl hm hcy => by
    have e := (cat_ok ev hn hcy hm).2
    subst e
    exact hsu a oe pn dd y hz hfl hcy
theorem de_clsE {j : Nat} {X' : Cx} (ev : EnvE X'.prog X'.K X'.mg file names isaT catT xds) (hj : names[j]? = some x) (hg : Gl X' x) (hdb : (x == ("__debug__" : Str)) = false) : DE X' (.Name x pos) (cC (.cls x)) := de_cls hg (ev.cls j x hj).1 (ev.cls j x hj).2 hdb
end
end Lc
namespace Lc
open PySem L2 PySem.Spec PyProof.Rows He
theorem cat_one {tb : Tab} {k : CK} {y z : Str} (h : catOf tb k y = some true) (hd : ∀ p ∈ tb, p.1.2 = k → p.2 = true → p.1.1 = z) : y = z := hd _ (lookup_in h) rfl rfl
section
variable {K : PySem.W.Frag} {file y z : Str} {fs : List Str} {params : Arguments} {body : List Stmt} {scope : Scope}
theorem xf_at (e : y = z) (T : XcA K file z fs params body scope) : XfC K (ga K y) := by subst e; exact T.xf
theorem xi_at (e : y = z) (T : XcA K file z fs params body scope) : XiC K (ga K y) := by subst e; exact T.xi
theorem no_at {f : Str} (e : y = z) (T : XcA K file z fs params body scope) (hf : f ∈ fs) : PySem.W.findIn K (.ref (ga K y)) f = some none := by subst e; exact T.no f hf
end
end Lc

set_option Elab.async false
set_option maxRecDepth 100000
set_option maxHeartbeats 4000000
/-! Part Y: the signs of shown texts. -/
namespace Lc
open PySem L2
def OkS (x : Str) : Prop := ∀ c ∈ x.cps.toList, c < 1114112
theorem OkS.app {x y : Str} (h : OkS x) (k : OkS y) : OkS (x ++ y) := fun c hc => by
  rw [Str.cps_append] at hc
  simp only [Array.toList_append, List.mem_append] at hc
  exact hc.elim (h c) (k c)
theorem char_lt (c : Char) : c.toNat < 1114112 := by
  have := c.valid
  rcases this with h | h
  · have : c.toNat < 0xd800 := h
    omega
  · exact h.2
theorem ok_lit (s : String) : OkS (Str.ofString s) := fun c hc => by
  rw [Str.ofString_eq_toList] at hc
  obtain ⟨d, _, rfl⟩ : ∃ d : Char, d ∈ s.toList ∧ d.toNat = c := by simpa using hc
  exact char_lt d
theorem ok_strOk {x : Str} (h : OkS x) : PyData.strOk x = true := by
  unfold PyData.strOk
  rw [Array.all_eq_true_iff_forall_mem]
  intro c hc
  exact decide_eq_true (h c (by simpa using hc))
theorem ok_join {s : Str} (hs : OkS s) : ∀ {l : List Str}, (∀ x ∈ l, OkS x) → OkS (Str.join s l)
  | [], _ => fun c hc => by exact nomatch hc
  | [x], h => h x List.mem_cons_self
  | x :: y :: r, h => by
    show OkS (x ++ s ++ Str.join s (y :: r))
    exact ((h x List.mem_cons_self).app hs).app (ok_join hs fun z hz => h z (List.mem_cons_of_mem _ hz))
theorem ok_reprChar {q c : Nat} (hq : q < 1114112) (hc : c < 1114112) : ∀ e ∈ Builtin.Str.reprChar q c, e < 1114112 := by
  intro e he
  have hx : ∀ w, ∀ e ∈ (List.replicate (w - ((Nat.toDigits 16 c).map Char.toNat).length) 48 ++ (Nat.toDigits 16 c).map Char.toNat), e < 1114112 := fun w e he => by
    rcases List.mem_append.mp he with h | h
    · rw [(List.mem_replicate.mp h).2]; decide
    · obtain ⟨d, _, rfl⟩ := List.mem_map.mp h
      exact char_lt d
  unfold Builtin.Str.reprChar at he
  dsimp only at he
  repeat' split at he
  all_goals first
    | (simp only [List.mem_cons, List.not_mem_nil, or_false] at he; omega)
    | (rcases List.mem_append.mp he with h | h
       · simp only [List.mem_cons, List.not_mem_nil, or_false] at h; omega
       · exact hx _ e h)
theorem ok_fold {q : Nat} (hq : q < 1114112) : ∀ (l : List Nat) (acc : Array Nat), (∀ c ∈ l, c < 1114112) → (∀ c ∈ acc.toList, c < 1114112) → ∀ c ∈ (l.foldl (fun out c => out ++ (Builtin.Str.reprChar q c).toArray) acc).toList, c < 1114112
  | [], acc, _, h => h
  | c :: r, acc, hl, h => by
    refine ok_fold hq r _ (fun d hd => hl d (List.mem_cons_of_mem _ hd)) fun d hd => ?_
    simp only [Array.toList_append, List.mem_append] at hd
    rcases hd with hd | hd
    · exact h d hd
    · exact ok_reprChar hq (hl c List.mem_cons_self) d hd
theorem quote_lt (x : Str) : reprQuote x < 1114112 := by
  unfold reprQuote
  split <;> decide
theorem ok_repr {x : Str} (h : OkS x) : OkS (reprText x) := by
  unfold reprText
  intro c hc
  have hc' : c ∈ ((x.cps.foldl (fun out c => out ++ (Builtin.Str.reprChar (reprQuote x) c).toArray) #[reprQuote x]).push (reprQuote x)).toList := hc
  rw [Array.toList_push, ← Array.foldl_toList] at hc'
  rcases List.mem_append.mp hc' with h1 | h1
  · exact ok_fold (quote_lt x) _ _ h (fun d hd => by simp at hd; rw [hd]; exact quote_lt x) c h1
  · simp at h1; rw [h1]; exact quote_lt x
mutual
/-- texts of code points alone inside, dicts empty -/
def okP : PyData → Prop
  | .str x => OkS x
  | .list l => okPs l
  | .tuple l => okPs l
  | .dict l => l = []
  | _ => True
def okPs : List PyData → Prop
  | [] => True
  | d :: l => okP d ∧ okPs l
end
mutual
theorem shown_ok : ∀ d : PyData, okP d → OkS d.shown
  | .none, _ => by rw [PyData.shown]; exact ok_lit _
  | .bool b, _ => by rw [PyData.shown]; cases b <;> exact ok_lit _
  | .int i, _ => by rw [PyData.shown]; exact ok_lit _
  | .str x, h => by rw [PyData.shown]; exact ok_repr (by rw [okP] at h; exact h)
  | .list l, h => by
    rw [PyData.shown, listText_eq_join]
    exact ((ok_lit _).app (ok_join (ok_lit _) (shownAll_ok l (by rw [okP] at h; exact h)))).app (ok_lit _)
  | .tuple l, h => by
    rw [PyData.shown, tupleText]
    refine ((ok_lit _).app (ok_join (ok_lit _) (shownAll_ok l (by rw [okP] at h; exact h)))).app ?_
    exact ok_lit _
  | .dict l, h => by
    rw [okP] at h
    subst h
    intro c hc
    have : ∀ c ∈ (PyData.shown (.dict [])).cps.toList, c < 1114112 := by decide +kernel
    exact this c hc
theorem shownAll_ok : ∀ l : List PyData, okPs l → ∀ x ∈ PyData.shownAll l, OkS x
  | [], _, x, hx => by rw [PyData.shownAll] at hx; exact nomatch hx
  | d :: l, h, x, hx => by
    rw [okPs] at h
    rw [PyData.shownAll] at hx
    rcases List.mem_cons.mp hx with rfl | hx
    · exact shown_ok d h.1
    · exact shownAll_ok l h.2 x hx
end
end Lc

set_option Elab.async false
set_option maxRecDepth 100000
set_option maxHeartbeats 4000000
namespace Lw
open PySem L2 Lc PySem.Spec PyProof.Rows He
noncomputable section
def top (i : Nat) : Stmt := PySem.Challenge.pw_leastcopies_k12_whole_shapes_and_pattern.main.body.getD i (.Pass ⟨0, 0, 0, 0⟩)
def frN : List Str := [PySem.Str.ofString "all", PySem.Str.ofString "str", PySem.Str.ofString "isinstance", PySem.Str.ofString "len", PySem.Str.ofString "int", PySem.Str.ofString "bool", PySem.Str.ofString "tuple", PySem.Str.ofString "sum", PySem.Str.ofString "max", PySem.Str.ofString "abs", PySem.Str.ofString "divmod", PySem.Str.ofString "range", PySem.Str.ofString "list", PySem.Str.ofString "repr", PySem.Str.ofString "ValueError", PySem.Str.ofString "LookupError", PySem.Str.ofString "min", PySem.Str.ofString "super"]
def fileS : Str := "/claim/cut.py"
def clsN : List Str := [PySem.Str.ofString "InvalidShape", PySem.Str.ofString "CopyError", PySem.Str.ofString "InvalidCount", PySem.Str.ofString "InvalidPattern", PySem.Str.ofString "InvalidText"]
def isaT : Tab := [(("InvalidShape", .c "CopyError"), true), (("InvalidShape", .t "ValueError"), true), (("InvalidShape", .c "InvalidCount"), false), (("InvalidShape", .c "InvalidPattern"), false), (("InvalidShape", .c "InvalidText"), false), (("InvalidShape", .t "LookupError"), false)]
def catT : Tab := [(("InvalidShape", .c "InvalidShape"), true)]
abbrev ci_InvalidShape : Stmt := (clsBody (top 3)).getD 0 (.Pass ⟨0, 0, 0, 0⟩)
def xd_InvalidShape : XD := ⟨"InvalidShape", ["value"], defArgs ci_InvalidShape, defBody ci_InvalidShape, defScope ci_InvalidShape⟩
def xdL : List XD := [xd_InvalidShape]
def exB (K : PySem.W.Frag) : Bool := (K.lookup sysModules).isSome && (isaB K isaT && catB K catT)
abbrev st_is_name : Stmt := top 9
def x_is_name_1 : M W := (cLc (M.bind (cVar 0) W.items) [1] (gN 1) (M.ret true) (cOp2 gIn (cVar 1) (cC (.str "abcdefghijklmnopqrstuvwxyz"))))
def b_is_name : M Fl := (cSeq (cIfS (cOrT (cNotT (cTru (cCallP gIsi (cCons (cVar 0) (cCons (cC (.ty "str")) (M.ret [])))))) (cNotT (M.bl (cChain gLe gLe (cC (.int 1)) (cCallP gLen (cCons (cVar 0) (M.ret []))) (cC (.int 8)))))) (cSeq (cRet (cC (.bl false)))
    (M.ret .next)) (M.ret .next))
    (cSeq (cRet (cCallP gAll (cCons x_is_name_1 (M.ret []))))
    (M.ret .next)))
def F_is_name : Fn := runF 2 b_is_name
abbrev st_is_integer : Stmt := top 10
def b_is_integer : M Fl := (cSeq (cRet (cAnd (cCallP gIsi (cCons (cVar 0) (cCons (cC (.ty "int")) (M.ret [])))) (cNot (cCallP gIsi (cCons (cVar 0) (cCons (cC (.ty "bool")) (M.ret [])))))))
    (M.ret .next))
def F_is_integer : Fn := runF 1 b_is_integer
abbrev st_is_index : Stmt := top 13
def b_is_index : M Fl := (cSeq (cRet (cAnd (cCall F_is_integer (cCons (cVar 0) (M.ret []))) (cChain gLe gLt (cC (.int 0)) (cVar 0) (cC (.int 3)))))
    (M.ret .next))
def F_is_index : Fn := runF 1 b_is_index
abbrev st_is_tree : Stmt := top 14
def x_is_tree_1 (self : Fn) : M W := (cLc (M.bind (cSl gSl2 (cVar 0) (M.bind (cC (.int 1)) W.asI) (M.ret none)) W.items) [2] (gN 2) (M.ret true) (cCall self (cCons (cVar 2) (cCons (cVar 1) (M.ret [])))))
def b_is_tree (self : Fn) : M Fl := (cSeq (cIfS (cNotT (cTru (cCallP gIsi (cCons (cVar 0) (cCons (cC (.ty "tuple")) (M.ret [])))))) (cSeq (cRet (cOr (cCall F_is_name (cCons (cVar 0) (M.ret []))) (cAnd (cVar 1) (cCall F_is_index (cCons (cVar 0) (M.ret []))))))
    (M.ret .next)) (M.ret .next))
    (cSeq (cIfS (cOrT (cNotT (M.bl (cChain gLe gLe (cC (.int 2)) (cCallP gLen (cCons (cVar 0) (M.ret []))) (cOp2 gAdd2 (cC (.int 1)) (cC (.int 3)))))) (cNotT (cTru (cCall F_is_name (cCons (cOp2 gIx1 (cVar 0) (cC (.int 0))) (M.ret [])))))) (cSeq (cRet (cC (.bl false)))
    (M.ret .next)) (M.ret .next))
    (cSeq (cRet (cCallP gAll (cCons (x_is_tree_1 self) (M.ret []))))
    (M.ret .next))))
def F_is_tree : Nat → Fn
  | 0 => fun _ => .fail
  | n + 1 => runF 3 (b_is_tree (F_is_tree n))
abbrev st_is_shape : Stmt := top 15
def b_is_shape : M Fl := (cSeq (cRet (cCall (F_is_tree 40) (cCons (cVar 0) (cCons (cC (.bl false)) (M.ret [])))))
    (M.ret .next))
def F_is_shape : Fn := runF 1 b_is_shape
abbrev st_is_pattern : Stmt := top 16
def b_is_pattern : M Fl := (cSeq (cRet (cCall (F_is_tree 40) (cCons (cVar 0) (cCons (cC (.bl true)) (M.ret [])))))
    (M.ret .next))
def F_is_pattern : Fn := runF 1 b_is_pattern
abbrev st_require_shape : Stmt := top 17
def b_require_shape : M Fl := (cSeq (cIfS (cNotT (cTru (cCall F_is_shape (cCons (cVar 0) (M.ret []))))) (cSeq (cRaise "InvalidShape" ["value"] (cCons (cVar 0) (M.ret [])))
    (M.ret .next)) (M.ret .next))
    (M.ret .next))
def F_require_shape : Fn := runF 1 b_require_shape
abbrev st_names_in : Stmt := top 18
def x_names_in_1 (self : Fn) : M W := (cLc (M.bind (cSl gSl2 (cVar 0) (M.bind (cC (.int 1)) W.asI) (M.ret none)) W.items) [1] (gN 1) (M.ret true) (cCall self (cCons (cVar 1) (M.ret []))))
def b_names_in (self : Fn) : M Fl := (cSeq (cIfS (cNotT (cTru (cCallP gIsi (cCons (cVar 0) (cCons (cC (.ty "tuple")) (M.ret [])))))) (cSeq (cRet (cC (.int 1)))
    (M.ret .next)) (M.ret .next))
    (cSeq (cRet (cOp2 gAdd2 (cC (.int 1)) (cCallP gSum (cCons (x_names_in_1 self) (M.ret [])))))
    (M.ret .next)))
def F_names_in : Nat → Fn
  | 0 => fun _ => .fail
  | n + 1 => runF 2 (b_names_in (F_names_in n))
abbrev st_levels_in : Stmt := top 19
def x_levels_in_1 (self : Fn) : M W := (cLc (M.bind (cSl gSl2 (cVar 0) (M.bind (cC (.int 1)) W.asI) (M.ret none)) W.items) [1] (gN 1) (M.ret true) (cCall self (cCons (cVar 1) (M.ret []))))
def b_levels_in (self : Fn) : M Fl := (cSeq (cIfS (cNotT (cTru (cCallP gIsi (cCons (cVar 0) (cCons (cC (.ty "tuple")) (M.ret [])))))) (cSeq (cRet (cC (.int 1)))
    (M.ret .next)) (M.ret .next))
    (cSeq (cRet (cOp2 gAdd2 (cC (.int 1)) (cCallP gMaxL (cCons (x_levels_in_1 self) (M.ret [])))))
    (M.ret .next)))
def F_levels_in : Nat → Fn
  | 0 => fun _ => .fail
  | n + 1 => runF 2 (b_levels_in (F_levels_in n))
abbrev st_parts_of : Stmt := top 20
def b_parts_of : M Fl := (cSeq (cDrop (cCall F_require_shape (cCons (cVar 0) (M.ret []))))
    (cSeq (cRet (cCall (F_names_in 40) (cCons (cVar 0) (M.ret []))))
    (M.ret .next)))
def F_parts_of : Fn := runF 1 b_parts_of
abbrev st_depth_of : Stmt := top 21
def b_depth_of : M Fl := (cSeq (cDrop (cCall F_require_shape (cCons (cVar 0) (M.ret []))))
    (cSeq (cRet (cCall (F_levels_in 40) (cCons (cVar 0) (M.ret []))))
    (M.ret .next)))
def F_depth_of : Fn := runF 1 b_depth_of
abbrev st__law_rng : Stmt := top 23
def b__law_rng : M Fl := (cSeq (cAsg (cIfE (M.bl (cOp2 gLt (cVar 1) (cCallP gLen (cCons (cVar 0) (M.ret []))))) (cCallP gAbs (cCons (cOp2 gIx1 (cVar 0) (cVar 1)) (M.ret []))) (cC (.int 0))) (gN 2))
    (cSeq (cRet (cLst (cCons (cCallP gMaxL (cCons (cC (.int 0)) (cCons (cOp2 gSub (cVar 2) (cOp2 gPow (cC (.int 10)) (cC (.int 18)))) (M.ret [])))) (cCons (cOp2 gAdd2 (cOp2 gMod (cOp2 gPow (cOp2 gAdd2 (cOp2 gAdd2 (cOp2 gMod (cVar 2) (cC (.int 2147483549))) (cOp2 gMul2 (cC (.int 4127)) (cVar 1))) (cC (.int 29))) (cC (.int 2))) (cC (.int 2147483477))) (cC (.int 1))) (M.ret [])))))
    (M.ret .next)))
def F__law_rng : Fn := runF 3 b__law_rng
abbrev st__law_draw : Stmt := top 24
def b__law_draw : M Fl := (cSeq (cIfS (M.bl (cOp2 gGt (cOp2 gIx1 (cVar 0) (cC (.int 0))) (cC (.int 0)))) (cSeq (cAsg (cCallP gDivmod (cCons (cOp2 gIx1 (cVar 0) (cC (.int 0))) (cCons (cVar 1) (M.ret [])))) (gT 2 (gsCons (gIx (cVar 0) (cC (.int 0))) (gsCons (gN 2) gsNil))))
    (cSeq (cRet (cVar 2))
    (M.ret .next))) (M.ret .next))
    (cSeq (cAsg (cOp2 gMod (cOp2 gAdd2 (cOp2 gMul2 (cOp2 gIx1 (cVar 0) (cC (.int 1))) (cC (.int 39373))) (cC (.int 9973))) (cC (.int 2147483629))) (gIx (cVar 0) (cC (.int 1))))
    (cSeq (cRet (cOp2 gMod (cOp2 gFdiv (cOp2 gMod (cOp2 gMul2 (cOp2 gIx1 (cVar 0) (cC (.int 1))) (cOp2 gIx1 (cVar 0) (cC (.int 1)))) (cC (.int 2147483563))) (cC (.int 13))) (cVar 1)))
    (M.ret .next))))
def F__law_draw : Fn := runF 3 b__law_draw
abbrev st__law_choice : Stmt := top 25
def b__law_choice : M Fl := (cSeq (cRet (cOp2 gIx1 (cVar 1) (cCall F__law_draw (cCons (cVar 0) (cCons (cCallP gLen (cCons (cVar 1) (M.ret []))) (M.ret []))))))
    (M.ret .next))
def F__law_choice : Fn := runF 2 b__law_choice
abbrev st__law_word : Stmt := top 26
def x__law_word_1 : M W := (cLc (M.bind (cCons (cOp2 gIx1 (cLst (cCons (cC (.int 1)) (cCons (cC (.int 1)) (cCons (cC (.int 2)) (cCons (cC (.int 8)) (M.ret [])))))) (cCall F__law_draw (cCons (cVar 0) (cCons (cC (.int 4)) (M.ret []))))) (M.ret [])) W.rng1) [2] (gN 2) (M.ret true) (cCall F__law_choice (cCons (cVar 0) (cCons (cVar 1) (M.ret [])))))
def b__law_word : M Fl := (cSeq (cAsg (cC (.str "abcdefghijklmnopqrstuvwxyz")) (gN 1))
    (cSeq (cRet (cM1 gJoin (cC (.str "")) x__law_word_1))
    (M.ret .next)))
def F__law_word : Fn := runF 3 b__law_word
abbrev st__law_tree : Stmt := top 27
def x__law_tree_1 (self : Fn) : M W := (cLc (M.bind (cCons (cOp2 gAdd2 (cC (.int 1)) (cCall F__law_draw (cCons (cVar 0) (cCons (cC (.int 3)) (M.ret []))))) (M.ret [])) W.rng1) [3] (gN 3) (M.ret true) (cCall self (cCons (cVar 0) (cCons (cOp2 gSub (cVar 1) (cC (.int 1))) (cCons (cVar 2) (M.ret []))))))
def b__law_tree (self : Fn) : M Fl := (cSeq (cIfS (cOrT (M.bl (cOp2 gLt (cVar 1) (cC (.int 1)))) (M.bl (cOp2 gEq (cCall F__law_draw (cCons (cVar 0) (cCons (cC (.int 3)) (M.ret [])))) (cC (.int 0))))) (cSeq (cIfS (cAndT (cTru (cVar 2)) (M.bl (cOp2 gEq (cCall F__law_draw (cCons (cVar 0) (cCons (cC (.int 2)) (M.ret [])))) (cC (.int 0))))) (cSeq (cRet (cCall F__law_draw (cCons (cVar 0) (cCons (cC (.int 3)) (M.ret [])))))
    (M.ret .next)) (M.ret .next))
    (cSeq (cRet (cCall F__law_word (cCons (cVar 0) (M.ret []))))
    (M.ret .next))) (M.ret .next))
    (cSeq (cRet (cOp2 gAdd2 (cTup (cCons (cCall F__law_word (cCons (cVar 0) (M.ret []))) (M.ret []))) (cCallP gTuple (cCons (x__law_tree_1 self) (M.ret [])))))
    (M.ret .next)))
def F__law_tree : Nat → Fn
  | 0 => fun _ => .fail
  | n + 1 => runF 4 (b__law_tree (F__law_tree n))
abbrev st__law_deep : Stmt := top 28
def x__law_deep_1 : M Fl := (cSeq (cAsg (cTup (cCons (cCall F__law_word (cCons (cVar 0) (M.ret []))) (cCons (cVar 1) (M.ret [])))) (gN 1))
    (M.ret .next))
def x__law_deep_2 : M Fl := (cFor (M.bind (cCons (cCall F__law_choice (cCons (cVar 0) (cCons (cLst (cCons (cC (.int 0)) (cCons (cC (.int 0)) (cCons (cC (.int 1)) (cCons (cC (.int 14)) (M.ret [])))))) (M.ret [])))) (M.ret [])) W.rng1) (gN 2) x__law_deep_1)
def b__law_deep : M Fl := (cSeq (cAsg (cCall (F__law_tree 40) (cCons (cVar 0) (cCons (cC (.int 3)) (cCons (cOp2 gEq (cCall F__law_draw (cCons (cVar 0) (cCons (cC (.int 2)) (M.ret [])))) (cC (.int 0))) (M.ret []))))) (gN 1))
    (cSeq x__law_deep_2
    (cSeq (cRet (cVar 1))
    (M.ret .next))))
def F__law_deep : Fn := runF 3 b__law_deep
abbrev st__law_parts : Stmt := top 32
def x__law_parts_1 (self : Fn) : M W := (cLc (M.bind (cSl gSl2 (cVar 0) (M.bind (cC (.int 1)) W.asI) (M.ret none)) W.items) [1] (gN 1) (M.ret true) (cCall self (cCons (cVar 1) (M.ret []))))
def b__law_parts (self : Fn) : M Fl := (cSeq (cRet (cIfE (cTru (cCallP gIsi (cCons (cVar 0) (cCons (cC (.ty "tuple")) (M.ret []))))) (cOp2 gAdd2 (cC (.int 1)) (cCallP gSum (cCons (x__law_parts_1 self) (M.ret [])))) (cC (.int 1))))
    (M.ret .next))
def F__law_parts : Nat → Fn
  | 0 => fun _ => .fail
  | n + 1 => runF 2 (b__law_parts (F__law_parts n))
abbrev st__law_spoiled : Stmt := top 29
def b__law_spoiled (self : Fn) : M Fl := (cSeq (cAsg (cLst (cCons (cC .non) (cCons (cC (.bl true)) (cCons (cC (.bl false)) (cCons (cC (.int 3)) (cCons (cOp1 gNeg (cC (.int 1))) (cCons (cC (.int 0)) (cCons (cC (.int 1)) (cCons (cC (.int 2)) (cCons (cC (.str "")) (cCons (cC (.str "A")) (cCons (cC (.str "ninechars")) (cCons (cC (.str "a b")) (cCons (cLst (M.ret [])) (cCons (cTup (M.ret [])) (cCons cDct0 (cCons (cTup (cCons (cC (.str "a")) (M.ret []))) (cCons (cLst (cCons (cVar 1) (M.ret []))) (cCons (cTup (cCons (cVar 1) (cCons (cVar 1) (M.ret [])))) (M.ret [])))))))))))))))))))) (gN 2))
    (cSeq (cIfS (cOrT (cNotT (cTru (cCallP gIsi (cCons (cVar 1) (cCons (cC (.ty "tuple")) (M.ret [])))))) (M.bl (cOp2 gEq (cCall F__law_draw (cCons (cVar 0) (cCons (cC (.int 4)) (M.ret [])))) (cC (.int 0))))) (cSeq (cRet (cCall F__law_choice (cCons (cVar 0) (cCons (cOp2 gAdd2 (cVar 2) (cLst (cCons (cOp2 gMul2 (cTup (cCons (cC (.str "a")) (M.ret []))) (cC (.int 4))) (cCons (cOp2 gMul2 (cTup (cCons (cC (.str "a")) (M.ret []))) (cC (.int 5))) (cCons (cOp2 gPow (cC (.int 10)) (cC (.int 30))) (cCons (cC (.str "eightchr")) (cCons (cTup (cCons (cC (.str "A")) (cCons (cC (.str "a")) (M.ret [])))) (cCons (cTup (cCons (cTup (cCons (cC (.str "a")) (cCons (cC (.str "b")) (M.ret [])))) (cCons (cC (.str "c")) (M.ret [])))) (M.ret []))))))))) (M.ret [])))))
    (M.ret .next)) (M.ret .next))
    (cSeq (cPar2 3 4 (cCons (cCall F__law_draw (cCons (cVar 0) (cCons (cCallP gLen (cCons (cVar 1) (M.ret []))) (M.ret [])))) (cCons (cCall F__law_draw (cCons (cVar 0) (cCons (cC (.int 5)) (M.ret [])))) (M.ret []))))
    (cSeq (cIfS (M.bl (cOp2 gEq (cVar 4) (cC (.int 0)))) (cSeq (cRet (cOp2 gAdd2 (cSl gSl2 (cVar 1) (M.ret none) (M.bind (cVar 3) W.asI)) (cSl gSl2 (cVar 1) (M.bind (cOp2 gAdd2 (cVar 3) (cC (.int 1))) W.asI) (M.ret none))))
    (M.ret .next)) (M.ret .next))
    (cSeq (cIfS (cAndT (M.bl (cOp2 gEq (cVar 4) (cC (.int 1)))) (M.bl (cOp2 gLt (cCall (F__law_parts 40) (cCons (cOp2 gIx1 (cVar 1) (cVar 3)) (M.ret []))) (cC (.int 6))))) (cSeq (cRet (cOp2 gAdd2 (cOp2 gAdd2 (cSl gSl2 (cVar 1) (M.ret none) (M.bind (cVar 3) W.asI)) (cTup (cCons (cOp2 gIx1 (cVar 1) (cVar 3)) (M.ret [])))) (cSl gSl2 (cVar 1) (M.bind (cVar 3) W.asI) (M.ret none))))
    (M.ret .next)) (M.ret .next))
    (cSeq (cIfS (M.bl (cOp2 gEq (cVar 4) (cC (.int 2)))) (cSeq (cRet (cCallP gList (cCons (cVar 1) (M.ret []))))
    (M.ret .next)) (M.ret .next))
    (cSeq (cRet (cOp2 gAdd2 (cOp2 gAdd2 (cSl gSl2 (cVar 1) (M.ret none) (M.bind (cVar 3) W.asI)) (cTup (cCons (cCall self (cCons (cVar 0) (cCons (cOp2 gIx1 (cVar 1) (cVar 3)) (M.ret [])))) (M.ret [])))) (cSl gSl2 (cVar 1) (M.bind (cOp2 gAdd2 (cVar 3) (cC (.int 1))) W.asI) (M.ret none))))
    (M.ret .next))))))))
def F__law_spoiled : Nat → Fn
  | 0 => fun _ => .fail
  | n + 1 => runF 5 (b__law_spoiled (F__law_spoiled n))
abbrev st__law_is_word : Stmt := top 30
def x__law_is_word_1 : M W := (cLc (M.bind (cVar 0) W.items) [1] (gN 1) (M.ret true) (cOp2 gIn (cVar 1) (cC (.str "abcdefghijklmnopqrstuvwxyz"))))
def b__law_is_word : M Fl := (cSeq (cIfS (cOrT (cNotT (cTru (cCallP gIsi (cCons (cVar 0) (cCons (cC (.ty "str")) (M.ret [])))))) (cNotT (M.bl (cChain gLe gLe (cC (.int 1)) (cCallP gLen (cCons (cVar 0) (M.ret []))) (cC (.int 8)))))) (cSeq (cRet (cC (.bl false)))
    (M.ret .next)) (M.ret .next))
    (cSeq (cRet (cCallP gAll (cCons x__law_is_word_1 (M.ret []))))
    (M.ret .next)))
def F__law_is_word : Fn := runF 2 b__law_is_word
abbrev st__law_is_tree : Stmt := top 31
def x__law_is_tree_1 (self : Fn) : M W := (cLc (M.bind (cSl gSl2 (cVar 0) (M.bind (cC (.int 1)) W.asI) (M.ret none)) W.items) [2] (gN 2) (M.ret true) (cCall self (cCons (cVar 2) (cCons (cVar 1) (M.ret [])))))
def b__law_is_tree (self : Fn) : M Fl := (cSeq (cIfS (cTru (cCallP gIsi (cCons (cVar 0) (cCons (cC (.ty "int")) (M.ret []))))) (cSeq (cRet (cAnd (cVar 1) (cAnd (cNot (cCallP gIsi (cCons (cVar 0) (cCons (cC (.ty "bool")) (M.ret []))))) (cChain gLe gLe (cC (.int 0)) (cVar 0) (cC (.int 2))))))
    (M.ret .next)) (M.ret .next))
    (cSeq (cIfS (cNotT (cTru (cCallP gIsi (cCons (cVar 0) (cCons (cC (.ty "tuple")) (M.ret [])))))) (cSeq (cRet (cCall F__law_is_word (cCons (cVar 0) (M.ret []))))
    (M.ret .next)) (M.ret .next))
    (cSeq (cIfS (cOrT (cNotT (M.bl (cChain gLe gLe (cC (.int 2)) (cCallP gLen (cCons (cVar 0) (M.ret []))) (cC (.int 4))))) (cNotT (cTru (cCall F__law_is_word (cCons (cOp2 gIx1 (cVar 0) (cC (.int 0))) (M.ret [])))))) (cSeq (cRet (cC (.bl false)))
    (M.ret .next)) (M.ret .next))
    (cSeq (cRet (cCallP gAll (cCons (x__law_is_tree_1 self) (M.ret []))))
    (M.ret .next)))))
def F__law_is_tree : Nat → Fn
  | 0 => fun _ => .fail
  | n + 1 => runF 3 (b__law_is_tree (F__law_is_tree n))
abbrev st__law_depth : Stmt := top 33
def x__law_depth_1 (self : Fn) : M W := (cLc (M.bind (cSl gSl2 (cVar 0) (M.bind (cC (.int 1)) W.asI) (M.ret none)) W.items) [1] (gN 1) (M.ret true) (cCall self (cCons (cVar 1) (M.ret []))))
def b__law_depth (self : Fn) : M Fl := (cSeq (cRet (cIfE (cTru (cCallP gIsi (cCons (cVar 0) (cCons (cC (.ty "tuple")) (M.ret []))))) (cOp2 gAdd2 (cC (.int 1)) (cCallP gMaxL (cCons (x__law_depth_1 self) (M.ret [])))) (cC (.int 1))))
    (M.ret .next))
def F__law_depth : Nat → Fn
  | 0 => fun _ => .fail
  | n + 1 => runF 2 (b__law_depth (F__law_depth n))
abbrev st__law_told : Stmt := top 34
def b__law_told : M Fl := (cSeq (cAsg (cLst (cCons (cC (.str "none")) (M.ret []))) (gN 2))
    (cSeq (cTry (cSeq (cAsg (cLst (cCons (cIfE (M.bl (cOp2 gEq (cVar 0) (cC (.int 0)))) (cCall F_parts_of (cCons (cVar 1) (M.ret []))) (cCall F_depth_of (cCons (cVar 1) (M.ret [])))) (M.ret []))) (gN 2))
    (M.ret .next)) (catOf catT (.c "InvalidShape")) 3 (fun a dd y => (cSeq (cAsg (cNot (cIsE a dd 3 (isaOf isaT y.cls) (cTup (cCons (cC (.cls "InvalidCount")) (cCons (cC (.cls "InvalidPattern")) (cCons (cC (.cls "InvalidText")) (cCons (cC (.ty "LookupError")) (M.ret [])))))))) (gN 4))
    (cSeq (cAsg (cLst (cCons (cC (.str "refused")) (cCons (cXf a dd 3 "value") (cCons (cAnd (cIsE a dd 3 (isaOf isaT y.cls) (cC (.cls "CopyError"))) (cAnd (cIsE a dd 3 (isaOf isaT y.cls) (cC (.ty "ValueError"))) (cVar 4))) (M.ret []))))) (gN 2))
    (M.ret .next)))))
    (cSeq (cRet (cCallP gRepr (cCons (cVar 2) (M.ret []))))
    (M.ret .next))))
def F__law_told : Fn := runF 5 b__law_told
abbrev st__law_right : Stmt := top 35
def x__law_right_1 : M W := (cLc (M.bind (cCons (cC (.int 2)) (M.ret [])) W.rng1) [5] (gN 5) (M.ret true) (cCall F__law_told (cCons (cVar 5) (cCons (cVar 0) (M.ret [])))))
def x__law_right_2 : M Fl := (cSeq (cIfS (M.bl (cOp2 gNe (cCallP gRepr (cCons (cLst (cCons (cCall F_is_shape (cCons (cVar 0) (M.ret []))) (cCons (cCall F_is_pattern (cCons (cVar 0) (M.ret []))) (M.ret [])))) (M.ret []))) (cCallP gRepr (cCons (cLst (cCons (cVar 4) (cCons (cCall (F__law_is_tree 40) (cCons (cVar 0) (cCons (cC (.bl true)) (M.ret [])))) (M.ret [])))) (M.ret []))))) (cSeq (cRet (cC (.bl false)))
    (M.ret .next)) (M.ret .next))
    (cSeq (cIfS (cOrT (M.bl (cOp2 gNe x__law_right_1 (cVar 1))) (M.bl (cOp2 gNe (cCallP gRepr (cCons (cVar 0) (M.ret []))) (cVar 3)))) (cSeq (cRet (cC (.bl false)))
    (M.ret .next)) (M.ret .next))
    (M.ret .next)))
def x__law_right_3 : M Fl := (cFor (M.bind (cCons (cC (.int 2)) (M.ret [])) W.rng1) (gN 2) x__law_right_2)
def b__law_right : M Fl := (cSeq (cPar2 3 4 (cCons (cCallP gRepr (cCons (cVar 0) (M.ret []))) (cCons (cCall (F__law_is_tree 40) (cCons (cVar 0) (cCons (cC (.bl false)) (M.ret [])))) (M.ret []))))
    (cSeq (cAsg (cOp2 gMul2 (cLst (cCons (cCallP gRepr (cCons (cLst (cCons (cC (.str "refused")) (cCons (cVar 0) (cCons (cC (.bl true)) (M.ret []))))) (M.ret []))) (M.ret []))) (cC (.int 2))) (gN 1))
    (cSeq (cIfS (cTru (cVar 4)) (cSeq (cAsg (cLst (cCons (cCallP gRepr (cCons (cLst (cCons (cCall (F__law_parts 40) (cCons (cVar 0) (M.ret []))) (M.ret []))) (M.ret []))) (cCons (cCallP gRepr (cCons (cLst (cCons (cCall (F__law_depth 40) (cCons (cVar 0) (M.ret []))) (M.ret []))) (M.ret []))) (M.ret [])))) (gN 1))
    (M.ret .next)) (M.ret .next))
    (cSeq x__law_right_3
    (cSeq (cRet (cC (.bl true)))
    (M.ret .next))))))
def F__law_right : Fn := runF 6 b__law_right
abbrev st_law : Stmt := top 36
def x_law_1 : M Fl := (cSeq (cAsg (cCall F__law_deep (cCons (cVar 2) (M.ret []))) (gN 4))
    (cSeq (cIfS (cOrT (cNotT (cTru (cCall F__law_right (cCons (cVar 4) (M.ret []))))) (cNotT (cTru (cCall F__law_right (cCons (cCall (F__law_spoiled 40) (cCons (cVar 2) (cCons (cVar 4) (M.ret [])))) (M.ret [])))))) (cSeq (cRet (cC (.bl false)))
    (M.ret .next)) (M.ret .next))
    (M.ret .next)))
def x_law_2 : M Fl := (cFor (M.bind (cCons (cC (.int 4)) (M.ret [])) W.rng1) (gN 3) x_law_1)
def x_law_3 : M Fl := (cSeq (cAsg (cCall F__law_rng (cCons (cVar 0) (cCons (cVar 1) (M.ret [])))) (gN 2))
    (cSeq x_law_2
    (M.ret .next)))
def x_law_4 : M Fl := (cFor (M.bind (cCons (cCallP gMaxL (cCons (cC (.int 1)) (cCons (cCallP gMin (cCons (cCallP gLen (cCons (cVar 0) (M.ret []))) (cCons (cC (.int 6)) (M.ret [])))) (M.ret [])))) (M.ret [])) W.rng1) (gN 1) x_law_3)
def b_law : M Fl := (cSeq x_law_4
    (cSeq (cRet (cC (.bl true)))
    (M.ret .next)))
def F_law : Fn := runF 5 b_law
end
section
variable {P : Program} {w : World} {K : PySem.W.Frag} {mg : Str → Option Value} {base : Heap} {f : Addr} {fd : FuncData}
theorem xc_InvalidShape (ev : EnvE P K mg fileS clsN isaT catT xdL) : Xc1 P K mg "InvalidShape" "value" := xc1_of ev (i := 0) (j := 0) (d := xd_InvalidShape) rfl rfl (by decide +kernel) fun h1 h2 => ⟨⟨_, _, _, _, _, _, _, _, _, _, _, _, _, _, _, rfl, rfl, rfl, fun _ _ _ _ _ _ _ _ _ _ => rfl, by decide +kernel, rfl, rfl, rfl, rfl, fun _ => ⟨_, rfl⟩, fun _ => rfl⟩, h1, h2, rfl, rfl, rfl, by decide +kernel, rfl, rfl⟩
theorem sc_is_name : FnScope ["value", "letter"] ["value"] (defScope st_is_name) := ⟨rfl, rfl, rfl, by decide +kernel, rfl, by decide +kernel, by decide +kernel⟩
theorem ok_is_name (D : FunD K "is_name" "is_name" (defArgs st_is_name) (defBody st_is_name) (defScope st_is_name) [] [] f fd) (fr : FreeN frN mg) (ev : EnvE P K mg fileS clsN isaT catT xdL) (c_LETTERS : ∃ t, mg "LETTERS" = some (.str "abcdefghijklmnopqrstuvwxyz" t)) (c_LONGEST_NAME : ∃ t, mg "LONGEST_NAME" = some (.int 8 t)) : FnG P w K mg base 1 f fd ["value"] F_is_name :=
  have sc := sc_is_name
  fnG_ofD D sc rfl fun cdv A outer s H E hr hgu =>
    (dss_cons (ds_if (DW.dt (dw_or (dt_not (dt_truth (de_callB call_isiA cs_isi rfl (fr 2 _ rfl) (by decide +kernel) (da_cons (de_var (i := 0) rfl (vis_by rfl) rfl rfl) (da_cons (de_bty rfl (fr 1 _ rfl) (by decide +kernel) (by decide) rfl) da_nil rfl) rfl) (by decide) rfl rfl rfl) fun _ => rfl)) (dw_or1 (dt_not (dt_chain ops_le ops_le de_int (de_callB call_len cs_len rfl (fr 3 _ rfl) (by decide +kernel) (da_cons (de_var (i := 0) rfl (vis_by rfl) rfl rfl) da_nil rfl) (by decide) rfl rfl rfl) (de_gloI rfl c_LONGEST_NAME rfl) rfl))))) (dss_cons (ds_ret de_bl)
    dss_nil) dss_nil)
    (dss_cons (ds_ret (de_callB (cr_all rfl) cs_all rfl (fr 0 _ rfl) (by decide +kernel) (da_cons (de_lc (own := [("letter", 1)]) (ts := [1]) rfl sc.nd (di_expr (de_var (i := 0) rfl (vis_by rfl) rfl rfl)) (blkOk_by (by kernel_rfl)) (by decide) (fun _ _ _ _ _ => (dg_name (i := 1) sc.nd rfl (loc_by rfl) (.inr rfl))) (fun _ _ _ _ _ => dts_nil) (fun _ _ _ _ _ => (de_cmp ops_in (de_var (i := 1) rfl (vis_by rfl) rfl rfl) (de_gloS rfl c_LETTERS rfl) rfl)) fun _ => rfl) da_nil rfl) (by decide) rfl rfl rfl))
    dss_nil))
theorem sc_is_integer : FnScope ["value"] ["value"] (defScope st_is_integer) := ⟨rfl, rfl, rfl, by decide +kernel, rfl, by decide +kernel, by decide +kernel⟩
theorem ok_is_integer (D : FunD K "is_integer" "is_integer" (defArgs st_is_integer) (defBody st_is_integer) (defScope st_is_integer) [] [] f fd) (fr : FreeN frN mg) (ev : EnvE P K mg fileS clsN isaT catT xdL) : FnG P w K mg base 1 f fd ["value"] F_is_integer :=
  have sc := sc_is_integer
  fnG_ofD D sc rfl fun cdv A outer s H E hr hgu =>
    (dss_cons (ds_ret (de_and (de_callB call_isiA cs_isi rfl (fr 2 _ rfl) (by decide +kernel) (da_cons (de_var (i := 0) rfl (vis_by rfl) rfl rfl) (da_cons (de_bty rfl (fr 4 _ rfl) (by decide +kernel) (by decide) rfl) da_nil rfl) rfl) (by decide) rfl rfl rfl) (de_one (de_not (de_callB call_isiA cs_isi rfl (fr 2 _ rfl) (by decide +kernel) (da_cons (de_var (i := 0) rfl (vis_by rfl) rfl rfl) (da_cons (de_bty rfl (fr 5 _ rfl) (by decide +kernel) (by decide) rfl) da_nil rfl) rfl) (by decide) rfl rfl rfl)))))
    dss_nil)
theorem sc_is_index : FnScope ["value"] ["value"] (defScope st_is_index) := ⟨rfl, rfl, rfl, by decide +kernel, rfl, by decide +kernel, by decide +kernel⟩
theorem ok_is_index (D : FunD K "is_index" "is_index" (defArgs st_is_index) (defBody st_is_index) (defScope st_is_index) [] [] f fd) (fr : FreeN frN mg) (ev : EnvE P K mg fileS clsN isaT catT xdL) (g_is_integer : CalG P w K mg base 1 "is_integer" ["value"] F_is_integer) (c_MOST_ARGUMENTS : ∃ t, mg "MOST_ARGUMENTS" = some (.int 3 t)) : FnG P w K mg base 2 f fd ["value"] F_is_index :=
  have sc := sc_is_index
  fnG_ofD D sc rfl fun cdv A outer s H E hr hgu =>
    (dss_cons (ds_ret (de_and (de_callC g_is_integer (hr.mono (by omega)) hgu rfl (da_cons (de_var (i := 0) rfl (vis_by rfl) rfl rfl) da_nil rfl) (argn_cons argn_nil) rfl rfl rfl) (de_one (de_chain ops_le ops_lt de_int (de_var (i := 0) rfl (vis_by rfl) rfl rfl) (de_gloI rfl c_MOST_ARGUMENTS rfl) rfl))))
    dss_nil)
theorem sc_is_tree : FnScope ["value", "with_indexes", "part"] ["value", "with_indexes"] (defScope st_is_tree) := ⟨rfl, rfl, rfl, by decide +kernel, rfl, by decide +kernel, by decide +kernel⟩
theorem ok_is_tree (n : Nat) (D : FunD K "is_tree" "is_tree" (defArgs st_is_tree) (defBody st_is_tree) (defScope st_is_tree) [] [] f fd) (fr : FreeN frN mg) (ev : EnvE P K mg fileS clsN isaT catT xdL) (g_is_name : CalG P w K mg base 1 "is_name" ["value"] F_is_name) (g_is_tree : CalG P w K mg base (n + 3) "is_tree" ["value", "with_indexes"] (F_is_tree n)) (g_is_index : CalG P w K mg base 2 "is_index" ["value"] F_is_index) (c_MOST_ARGUMENTS : ∃ t, mg "MOST_ARGUMENTS" = some (.int 3 t)) : FnG P w K mg base (n + 3 + 1) f fd ["value", "with_indexes"] (F_is_tree (n + 1)) :=
  have sc := sc_is_tree
  fnG_ofD D sc rfl fun cdv A outer s H E hr hgu =>
    (dss_cons (ds_if (dt_not (dt_truth (de_callB call_isiA cs_isi rfl (fr 2 _ rfl) (by decide +kernel) (da_cons (de_var (i := 0) rfl (vis_by rfl) rfl rfl) (da_cons (de_bty rfl (fr 6 _ rfl) (by decide +kernel) (by decide) rfl) da_nil rfl) rfl) (by decide) rfl rfl rfl) fun _ => rfl)) (dss_cons (ds_ret (de_or (de_callC g_is_name (hr.mono (by omega)) hgu rfl (da_cons (de_var (i := 0) rfl (vis_by rfl) rfl rfl) da_nil rfl) (argn_cons argn_nil) rfl rfl rfl) (de_one (de_and (de_var (i := 1) rfl (vis_by rfl) rfl rfl) (de_one (de_callC g_is_index (hr.mono (by omega)) hgu rfl (da_cons (de_var (i := 0) rfl (vis_by rfl) rfl rfl) da_nil rfl) (argn_cons argn_nil) rfl rfl rfl))))))
    dss_nil) dss_nil)
    (dss_cons (ds_if (DW.dt (dw_or (dt_not (dt_chain ops_le ops_le de_int (de_callB call_len cs_len rfl (fr 3 _ rfl) (by decide +kernel) (da_cons (de_var (i := 0) rfl (vis_by rfl) rfl rfl) da_nil rfl) (by decide) rfl rfl rfl) (de_bin ops_add2 de_int (de_gloI rfl c_MOST_ARGUMENTS rfl)) rfl)) (dw_or1 (dt_not (dt_truth (de_callC g_is_name (hr.mono (by omega)) hgu rfl (da_cons (de_ix ix_seq ix_rule (de_var (i := 0) rfl (vis_by rfl) rfl rfl) de_int fun _ _ => rfl) da_nil rfl) (argn_cons argn_nil) rfl rfl rfl) fun _ => rfl))))) (dss_cons (ds_ret de_bl)
    dss_nil) dss_nil)
    (dss_cons (ds_ret (de_callB (cr_all rfl) cs_all rfl (fr 0 _ rfl) (by decide +kernel) (da_cons (de_lc (own := [("part", 2)]) (ts := [2]) rfl sc.nd (di_expr (de_sl sls2 (de_var (i := 0) rfl (vis_by rfl) rfl rfl) (do_some de_int) do_none)) (blkOk_by (by kernel_rfl)) (by decide) (fun _ _ _ _ _ => (dg_name (i := 2) sc.nd rfl (loc_by rfl) (.inr rfl))) (fun _ _ _ _ _ => dts_nil) (fun _ _ _ _ _ => (de_callC g_is_tree (hr.mono (by omega)) hgu rfl (da_cons (de_var (i := 2) rfl (vis_by rfl) rfl rfl) (da_cons (de_var (i := 1) rfl (vis_by rfl) rfl rfl) da_nil rfl) rfl) (argn_cons (argn_cons argn_nil)) rfl rfl rfl)) fun _ => rfl) da_nil rfl) (by decide) rfl rfl rfl))
    dss_nil)))
theorem sc_is_shape : FnScope ["value"] ["value"] (defScope st_is_shape) := ⟨rfl, rfl, rfl, by decide +kernel, rfl, by decide +kernel, by decide +kernel⟩
theorem ok_is_shape (D : FunD K "is_shape" "is_shape" (defArgs st_is_shape) (defBody st_is_shape) (defScope st_is_shape) [] [] f fd) (fr : FreeN frN mg) (ev : EnvE P K mg fileS clsN isaT catT xdL) (g_is_tree : CalG P w K mg base 43 "is_tree" ["value", "with_indexes"] (F_is_tree 40)) : FnG P w K mg base 44 f fd ["value"] F_is_shape :=
  have sc := sc_is_shape
  fnG_ofD D sc rfl fun cdv A outer s H E hr hgu =>
    (dss_cons (ds_ret (de_callC g_is_tree (hr.mono (by omega)) hgu rfl (da_cons (de_var (i := 0) rfl (vis_by rfl) rfl rfl) (da_cons de_bl da_nil rfl) rfl) (argn_cons (argn_cons argn_nil)) rfl rfl rfl))
    dss_nil)
theorem sc_is_pattern : FnScope ["value"] ["value"] (defScope st_is_pattern) := ⟨rfl, rfl, rfl, by decide +kernel, rfl, by decide +kernel, by decide +kernel⟩
theorem ok_is_pattern (D : FunD K "is_pattern" "is_pattern" (defArgs st_is_pattern) (defBody st_is_pattern) (defScope st_is_pattern) [] [] f fd) (fr : FreeN frN mg) (ev : EnvE P K mg fileS clsN isaT catT xdL) (g_is_tree : CalG P w K mg base 43 "is_tree" ["value", "with_indexes"] (F_is_tree 40)) : FnG P w K mg base 44 f fd ["value"] F_is_pattern :=
  have sc := sc_is_pattern
  fnG_ofD D sc rfl fun cdv A outer s H E hr hgu =>
    (dss_cons (ds_ret (de_callC g_is_tree (hr.mono (by omega)) hgu rfl (da_cons (de_var (i := 0) rfl (vis_by rfl) rfl rfl) (da_cons de_bl da_nil rfl) rfl) (argn_cons (argn_cons argn_nil)) rfl rfl rfl))
    dss_nil)
theorem sc_require_shape : FnScope ["value"] ["value"] (defScope st_require_shape) := ⟨rfl, rfl, rfl, by decide +kernel, rfl, by decide +kernel, by decide +kernel⟩
theorem ok_require_shape (D : FunD K "require_shape" "require_shape" (defArgs st_require_shape) (defBody st_require_shape) (defScope st_require_shape) [] [] f fd) (fr : FreeN frN mg) (ev : EnvE P K mg fileS clsN isaT catT xdL) (g_is_shape : CalG P w K mg base 44 "is_shape" ["value"] F_is_shape) : FnG P w K mg base 45 f fd ["value"] F_require_shape :=
  have sc := sc_require_shape
  fnG_ofD D sc rfl fun cdv A outer s H E hr hgu =>
    (dss_cons (ds_if (dt_not (dt_truth (de_callC g_is_shape (hr.mono (by omega)) hgu rfl (da_cons (de_var (i := 0) rfl (vis_by rfl) rfl rfl) da_nil rfl) (argn_cons argn_nil) rfl rfl rfl) fun _ => rfl)) (dss_cons (ds_raise1 (k := 0) (xc_InvalidShape ev) rfl (hr.mono (by omega)) rfl (da_cons (de_var (i := 0) rfl (vis_by rfl) rfl rfl) da_nil rfl) rfl rfl rfl)
    dss_nil) dss_nil)
    dss_nil)
theorem sc_names_in : FnScope ["tree", "part"] ["tree"] (defScope st_names_in) := ⟨rfl, rfl, rfl, by decide +kernel, rfl, by decide +kernel, by decide +kernel⟩
theorem ok_names_in (n : Nat) (D : FunD K "names_in" "names_in" (defArgs st_names_in) (defBody st_names_in) (defScope st_names_in) [] [] f fd) (fr : FreeN frN mg) (ev : EnvE P K mg fileS clsN isaT catT xdL) (g_names_in : CalG P w K mg base (n + 1) "names_in" ["tree"] (F_names_in n)) : FnG P w K mg base (n + 1 + 1) f fd ["tree"] (F_names_in (n + 1)) :=
  have sc := sc_names_in
  fnG_ofD D sc rfl fun cdv A outer s H E hr hgu =>
    (dss_cons (ds_if (dt_not (dt_truth (de_callB call_isiA cs_isi rfl (fr 2 _ rfl) (by decide +kernel) (da_cons (de_var (i := 0) rfl (vis_by rfl) rfl rfl) (da_cons (de_bty rfl (fr 6 _ rfl) (by decide +kernel) (by decide) rfl) da_nil rfl) rfl) (by decide) rfl rfl rfl) fun _ => rfl)) (dss_cons (ds_ret de_int)
    dss_nil) dss_nil)
    (dss_cons (ds_ret (de_bin ops_add2 de_int (de_callB (cr_sum rfl) cs_sum rfl (fr 7 _ rfl) (by decide +kernel) (da_cons (de_lc (own := [("part", 1)]) (ts := [1]) rfl sc.nd (di_expr (de_sl sls2 (de_var (i := 0) rfl (vis_by rfl) rfl rfl) (do_some de_int) do_none)) (blkOk_by (by kernel_rfl)) (by decide) (fun _ _ _ _ _ => (dg_name (i := 1) sc.nd rfl (loc_by rfl) (.inr rfl))) (fun _ _ _ _ _ => dts_nil) (fun _ _ _ _ _ => (de_callC g_names_in (hr.mono (by omega)) hgu rfl (da_cons (de_var (i := 1) rfl (vis_by rfl) rfl rfl) da_nil rfl) (argn_cons argn_nil) rfl rfl rfl)) fun _ => rfl) da_nil rfl) (by decide) rfl rfl rfl)))
    dss_nil))
theorem sc_levels_in : FnScope ["tree", "part"] ["tree"] (defScope st_levels_in) := ⟨rfl, rfl, rfl, by decide +kernel, rfl, by decide +kernel, by decide +kernel⟩
theorem ok_levels_in (n : Nat) (D : FunD K "levels_in" "levels_in" (defArgs st_levels_in) (defBody st_levels_in) (defScope st_levels_in) [] [] f fd) (fr : FreeN frN mg) (ev : EnvE P K mg fileS clsN isaT catT xdL) (g_levels_in : CalG P w K mg base (n + 1) "levels_in" ["tree"] (F_levels_in n)) : FnG P w K mg base (n + 1 + 1) f fd ["tree"] (F_levels_in (n + 1)) :=
  have sc := sc_levels_in
  fnG_ofD D sc rfl fun cdv A outer s H E hr hgu =>
    (dss_cons (ds_if (dt_not (dt_truth (de_callB call_isiA cs_isi rfl (fr 2 _ rfl) (by decide +kernel) (da_cons (de_var (i := 0) rfl (vis_by rfl) rfl rfl) (da_cons (de_bty rfl (fr 6 _ rfl) (by decide +kernel) (by decide) rfl) da_nil rfl) rfl) (by decide) rfl rfl rfl) fun _ => rfl)) (dss_cons (ds_ret de_int)
    dss_nil) dss_nil)
    (dss_cons (ds_ret (de_bin ops_add2 de_int (de_callB (call_max12 rfl) cs_max12 rfl (fr 8 _ rfl) (by decide +kernel) (da_cons (de_lc (own := [("part", 1)]) (ts := [1]) rfl sc.nd (di_expr (de_sl sls2 (de_var (i := 0) rfl (vis_by rfl) rfl rfl) (do_some de_int) do_none)) (blkOk_by (by kernel_rfl)) (by decide) (fun _ _ _ _ _ => (dg_name (i := 1) sc.nd rfl (loc_by rfl) (.inr rfl))) (fun _ _ _ _ _ => dts_nil) (fun _ _ _ _ _ => (de_callC g_levels_in (hr.mono (by omega)) hgu rfl (da_cons (de_var (i := 1) rfl (vis_by rfl) rfl rfl) da_nil rfl) (argn_cons argn_nil) rfl rfl rfl)) fun _ => rfl) da_nil rfl) (by decide) rfl rfl rfl)))
    dss_nil))
theorem sc_parts_of : FnScope ["shape"] ["shape"] (defScope st_parts_of) := ⟨rfl, rfl, rfl, by decide +kernel, rfl, by decide +kernel, by decide +kernel⟩
theorem ok_parts_of (D : FunD K "parts_of" "parts_of" (defArgs st_parts_of) (defBody st_parts_of) (defScope st_parts_of) [] [] f fd) (fr : FreeN frN mg) (ev : EnvE P K mg fileS clsN isaT catT xdL) (g_require_shape : CalG P w K mg base 45 "require_shape" ["value"] F_require_shape) (g_names_in : CalG P w K mg base 41 "names_in" ["tree"] (F_names_in 40)) : FnG P w K mg base 46 f fd ["shape"] F_parts_of :=
  have sc := sc_parts_of
  fnG_ofD D sc rfl fun cdv A outer s H E hr hgu =>
    (dss_cons (ds_expr (de_callC g_require_shape (hr.mono (by omega)) hgu rfl (da_cons (de_var (i := 0) rfl (vis_by rfl) rfl rfl) da_nil rfl) (argn_cons argn_nil) rfl rfl rfl) rfl)
    (dss_cons (ds_ret (de_callC g_names_in (hr.mono (by omega)) hgu rfl (da_cons (de_var (i := 0) rfl (vis_by rfl) rfl rfl) da_nil rfl) (argn_cons argn_nil) rfl rfl rfl))
    dss_nil))
theorem sc_depth_of : FnScope ["shape"] ["shape"] (defScope st_depth_of) := ⟨rfl, rfl, rfl, by decide +kernel, rfl, by decide +kernel, by decide +kernel⟩
theorem ok_depth_of (D : FunD K "depth_of" "depth_of" (defArgs st_depth_of) (defBody st_depth_of) (defScope st_depth_of) [] [] f fd) (fr : FreeN frN mg) (ev : EnvE P K mg fileS clsN isaT catT xdL) (g_require_shape : CalG P w K mg base 45 "require_shape" ["value"] F_require_shape) (g_levels_in : CalG P w K mg base 41 "levels_in" ["tree"] (F_levels_in 40)) : FnG P w K mg base 46 f fd ["shape"] F_depth_of :=
  have sc := sc_depth_of
  fnG_ofD D sc rfl fun cdv A outer s H E hr hgu =>
    (dss_cons (ds_expr (de_callC g_require_shape (hr.mono (by omega)) hgu rfl (da_cons (de_var (i := 0) rfl (vis_by rfl) rfl rfl) da_nil rfl) (argn_cons argn_nil) rfl rfl rfl) rfl)
    (dss_cons (ds_ret (de_callC g_levels_in (hr.mono (by omega)) hgu rfl (da_cons (de_var (i := 0) rfl (vis_by rfl) rfl rfl) da_nil rfl) (argn_cons argn_nil) rfl rfl rfl))
    dss_nil))
theorem sc__law_rng : FnScope ["_law_script", "_law_k", "_law_cell"] ["_law_script", "_law_k"] (defScope st__law_rng) := ⟨rfl, rfl, rfl, by decide +kernel, rfl, by decide +kernel, by decide +kernel⟩
theorem ok__law_rng (D : FunD K "_law_rng" "_law_rng" (defArgs st__law_rng) (defBody st__law_rng) (defScope st__law_rng) [] [] f fd) (fr : FreeN frN mg) (ev : EnvE P K mg fileS clsN isaT catT xdL) : FnG P w K mg base 1 f fd ["_law_script", "_law_k"] F__law_rng :=
  have sc := sc__law_rng
  fnG_ofD D sc rfl fun cdv A outer s H E hr hgu =>
    (dss_cons (ds_set (i := 2) sc.nd rfl (loc_by rfl) (de_ifE (dt_cmp ops_lt (de_var (i := 1) rfl (vis_by rfl) rfl rfl) (de_callB call_len cs_len rfl (fr 3 _ rfl) (by decide +kernel) (da_cons (de_var (i := 0) rfl (vis_by rfl) rfl rfl) da_nil rfl) (by decide) rfl rfl rfl) rfl) (de_callB call_abs cs_abs rfl (fr 9 _ rfl) (by decide +kernel) (da_cons (de_ix ix_seq ix_rule (de_var (i := 0) rfl (vis_by rfl) rfl rfl) (de_var (i := 1) rfl (vis_by rfl) rfl rfl) fun _ _ => rfl) da_nil rfl) (by decide) rfl rfl rfl) de_int) rfl (.inl rfl))
    (dss_cons (ds_ret (de_lst (da_cons (de_callB (call_max12 rfl) cs_max12 rfl (fr 8 _ rfl) (by decide +kernel) (da_cons de_int (da_cons (de_bin ops_sub (de_var (i := 2) rfl (vis_by rfl) rfl rfl) (de_bin ops_pow de_int de_int)) da_nil rfl) rfl) (by decide) rfl rfl rfl) (da_cons (de_bin ops_add2 (de_bin ops_mod (de_bin ops_pow (de_bin ops_add2 (de_bin ops_add2 (de_bin ops_mod (de_var (i := 2) rfl (vis_by rfl) rfl rfl) de_int) (de_bin ops_mul2 de_int (de_var (i := 1) rfl (vis_by rfl) rfl rfl))) de_int) de_int) de_int) de_int) da_nil rfl) rfl)))
    dss_nil))
theorem sc__law_draw : FnScope ["_law_rng_here", "_law_many", "_law_digit"] ["_law_rng_here", "_law_many"] (defScope st__law_draw) := ⟨rfl, rfl, rfl, by decide +kernel, rfl, by decide +kernel, by decide +kernel⟩
theorem ok__law_draw (D : FunD K "_law_draw" "_law_draw" (defArgs st__law_draw) (defBody st__law_draw) (defScope st__law_draw) [] [] f fd) (fr : FreeN frN mg) (ev : EnvE P K mg fileS clsN isaT catT xdL) : FnG P w K mg base 1 f fd ["_law_rng_here", "_law_many"] F__law_draw :=
  have sc := sc__law_draw
  fnG_ofD D sc rfl fun cdv A outer s H E hr hgu =>
    (dss_cons (ds_if (dt_cmp ops_gt (de_ix ix_seq ix_rule (de_var (i := 0) rfl (vis_by rfl) rfl rfl) de_int fun _ _ => rfl) de_int rfl) (dss_cons (ds_asg (de_callB call_divmodW cs_divmod rfl (fr 10 _ rfl) (by decide +kernel) (da_cons (de_ix ix_seq ix_rule (de_var (i := 0) rfl (vis_by rfl) rfl rfl) de_int fun _ _ => rfl) (da_cons (de_var (i := 1) rfl (vis_by rfl) rfl rfl) da_nil rfl) rfl) (by decide) rfl rfl rfl) (dg_tup rfl (dgs_cons (dg_ix (de_var (i := 0) rfl (vis_by rfl) rfl rfl) de_int fun _ => rfl) (dgs_cons (dg_name (i := 2) sc.nd rfl (loc_by rfl) (.inl rfl)) dgs_nil rfl) rfl) rfl rfl) rfl rfl rfl)
    (dss_cons (ds_ret (de_var (i := 2) rfl (vis_by rfl) rfl rfl))
    dss_nil)) dss_nil)
    (dss_cons (ds_asg (de_bin ops_mod (de_bin ops_add2 (de_bin ops_mul2 (de_ix ix_seq ix_rule (de_var (i := 0) rfl (vis_by rfl) rfl rfl) de_int fun _ _ => rfl) de_int) de_int) de_int) (dg_ix (de_var (i := 0) rfl (vis_by rfl) rfl rfl) de_int fun _ => rfl) rfl rfl rfl)
    (dss_cons (ds_ret (de_bin ops_mod (de_bin ops_fdiv (de_bin ops_mod (de_bin ops_mul2 (de_ix ix_seq ix_rule (de_var (i := 0) rfl (vis_by rfl) rfl rfl) de_int fun _ _ => rfl) (de_ix ix_seq ix_rule (de_var (i := 0) rfl (vis_by rfl) rfl rfl) de_int fun _ _ => rfl)) de_int) de_int) (de_var (i := 1) rfl (vis_by rfl) rfl rfl)))
    dss_nil)))
theorem sc__law_choice : FnScope ["_law_rng_here", "_law_options"] ["_law_rng_here", "_law_options"] (defScope st__law_choice) := ⟨rfl, rfl, rfl, by decide +kernel, rfl, by decide +kernel, by decide +kernel⟩
theorem ok__law_choice (D : FunD K "_law_choice" "_law_choice" (defArgs st__law_choice) (defBody st__law_choice) (defScope st__law_choice) [] [] f fd) (fr : FreeN frN mg) (ev : EnvE P K mg fileS clsN isaT catT xdL) (g__law_draw : CalG P w K mg base 1 "_law_draw" ["_law_rng_here", "_law_many"] F__law_draw) : FnG P w K mg base 2 f fd ["_law_rng_here", "_law_options"] F__law_choice :=
  have sc := sc__law_choice
  fnG_ofD D sc rfl fun cdv A outer s H E hr hgu =>
    (dss_cons (ds_ret (de_ix ix_seq ix_rule (de_var (i := 1) rfl (vis_by rfl) rfl rfl) (de_callC g__law_draw (hr.mono (by omega)) hgu rfl (da_cons (de_var (i := 0) rfl (vis_by rfl) rfl rfl) (da_cons (de_callB call_len cs_len rfl (fr 3 _ rfl) (by decide +kernel) (da_cons (de_var (i := 1) rfl (vis_by rfl) rfl rfl) da_nil rfl) (by decide) rfl rfl rfl) da_nil rfl) rfl) (argn_cons (argn_cons argn_nil)) rfl rfl rfl) fun _ _ => rfl))
    dss_nil)
theorem sc__law_word : FnScope ["_law_rng_here", "_law_letters", "_law_k"] ["_law_rng_here"] (defScope st__law_word) := ⟨rfl, rfl, rfl, by decide +kernel, rfl, by decide +kernel, by decide +kernel⟩
theorem ok__law_word (D : FunD K "_law_word" "_law_word" (defArgs st__law_word) (defBody st__law_word) (defScope st__law_word) [] [] f fd) (fr : FreeN frN mg) (ev : EnvE P K mg fileS clsN isaT catT xdL) (g__law_choice : CalG P w K mg base 2 "_law_choice" ["_law_rng_here", "_law_options"] F__law_choice) (g__law_draw : CalG P w K mg base 1 "_law_draw" ["_law_rng_here", "_law_many"] F__law_draw) : FnG P w K mg base 3 f fd ["_law_rng_here"] F__law_word :=
  have sc := sc__law_word
  fnG_ofD D sc rfl fun cdv A outer s H E hr hgu =>
    (dss_cons (ds_set (i := 1) sc.nd rfl (loc_by rfl) de_str rfl (.inl rfl))
    (dss_cons (ds_ret (de_m1 F.slot_str_join F.type_str_join ms_join de_str (de_lc (own := [("_law_k", 2)]) (ts := [2]) rfl sc.nd (di_range1 rfl (fr 11 _ rfl) (da_cons (de_ix ix_seq ix_rule (de_lst (da_cons de_int (da_cons de_int (da_cons de_int (da_cons de_int da_nil rfl) rfl) rfl) rfl)) (de_callC g__law_draw (hr.mono (by omega)) hgu rfl (da_cons (de_var (i := 0) rfl (vis_by rfl) rfl rfl) (da_cons de_int da_nil rfl) rfl) (argn_cons (argn_cons argn_nil)) rfl rfl rfl) fun _ _ => rfl) da_nil rfl) rfl) (blkOk_by (by kernel_rfl)) (by decide) (fun _ _ _ _ _ => (dg_name (i := 2) sc.nd rfl (loc_by rfl) (.inr rfl))) (fun _ _ _ _ _ => dts_nil) (fun _ _ _ _ _ => (de_callC g__law_choice (hr.mono (by omega)) hgu rfl (da_cons (de_var (i := 0) rfl (vis_by rfl) rfl rfl) (da_cons (de_var (i := 1) rfl (vis_by rfl) rfl rfl) da_nil rfl) rfl) (argn_cons (argn_cons argn_nil)) rfl rfl rfl)) fun _ => rfl) rfl rfl rfl))
    dss_nil))
theorem sc__law_tree : FnScope ["_law_rng_here", "_law_levels", "_law_is_indexed", "_law_k"] ["_law_rng_here", "_law_levels", "_law_is_indexed"] (defScope st__law_tree) := ⟨rfl, rfl, rfl, by decide +kernel, rfl, by decide +kernel, by decide +kernel⟩
theorem ok__law_tree (n : Nat) (D : FunD K "_law_tree" "_law_tree" (defArgs st__law_tree) (defBody st__law_tree) (defScope st__law_tree) [] [] f fd) (fr : FreeN frN mg) (ev : EnvE P K mg fileS clsN isaT catT xdL) (g__law_word : CalG P w K mg base 3 "_law_word" ["_law_rng_here"] F__law_word) (g__law_draw : CalG P w K mg base 1 "_law_draw" ["_law_rng_here", "_law_many"] F__law_draw) (g__law_tree : CalG P w K mg base (n + 4) "_law_tree" ["_law_rng_here", "_law_levels", "_law_is_indexed"] (F__law_tree n)) : FnG P w K mg base (n + 4 + 1) f fd ["_law_rng_here", "_law_levels", "_law_is_indexed"] (F__law_tree (n + 1)) :=
  have sc := sc__law_tree
  fnG_ofD D sc rfl fun cdv A outer s H E hr hgu =>
    (dss_cons (ds_if (DW.dt (dw_or (dt_cmp ops_lt (de_var (i := 1) rfl (vis_by rfl) rfl rfl) de_int rfl) (dw_or1 (dt_cmp (ops_eq (room_u hr 64 (by decide))) (de_callC g__law_draw (hr.mono (by omega)) hgu rfl (da_cons (de_var (i := 0) rfl (vis_by rfl) rfl rfl) (da_cons de_int da_nil rfl) rfl) (argn_cons (argn_cons argn_nil)) rfl rfl rfl) de_int rfl)))) (dss_cons (ds_if (DW.dt (dw_and (dt_truth (de_var (i := 2) rfl (vis_by rfl) rfl rfl) fun _ => rfl) (dw_and1 (dt_cmp (ops_eq (room_u hr 64 (by decide))) (de_callC g__law_draw (hr.mono (by omega)) hgu rfl (da_cons (de_var (i := 0) rfl (vis_by rfl) rfl rfl) (da_cons de_int da_nil rfl) rfl) (argn_cons (argn_cons argn_nil)) rfl rfl rfl) de_int rfl)))) (dss_cons (ds_ret (de_callC g__law_draw (hr.mono (by omega)) hgu rfl (da_cons (de_var (i := 0) rfl (vis_by rfl) rfl rfl) (da_cons de_int da_nil rfl) rfl) (argn_cons (argn_cons argn_nil)) rfl rfl rfl))
    dss_nil) dss_nil)
    (dss_cons (ds_ret (de_callC g__law_word (hr.mono (by omega)) hgu rfl (da_cons (de_var (i := 0) rfl (vis_by rfl) rfl rfl) da_nil rfl) (argn_cons argn_nil) rfl rfl rfl))
    dss_nil)) dss_nil)
    (dss_cons (ds_ret (de_bin ops_add2 (de_tup (da_cons (de_callC g__law_word (hr.mono (by omega)) hgu rfl (da_cons (de_var (i := 0) rfl (vis_by rfl) rfl rfl) da_nil rfl) (argn_cons argn_nil) rfl rfl rfl) da_nil rfl)) (de_callT call_tuple_of cs_tuple rfl (fr 6 _ rfl) (by decide +kernel) (da_cons (de_lc (own := [("_law_k", 3)]) (ts := [3]) rfl sc.nd (di_range1 rfl (fr 11 _ rfl) (da_cons (de_bin ops_add2 de_int (de_callC g__law_draw (hr.mono (by omega)) hgu rfl (da_cons (de_var (i := 0) rfl (vis_by rfl) rfl rfl) (da_cons de_int da_nil rfl) rfl) (argn_cons (argn_cons argn_nil)) rfl rfl rfl)) da_nil rfl) rfl) (blkOk_by (by kernel_rfl)) (by decide) (fun _ _ _ _ _ => (dg_name (i := 3) sc.nd rfl (loc_by rfl) (.inr rfl))) (fun _ _ _ _ _ => dts_nil) (fun _ _ _ _ _ => (de_callC g__law_tree (hr.mono (by omega)) hgu rfl (da_cons (de_var (i := 0) rfl (vis_by rfl) rfl rfl) (da_cons (de_bin ops_sub (de_var (i := 1) rfl (vis_by rfl) rfl rfl) de_int) (da_cons (de_var (i := 2) rfl (vis_by rfl) rfl rfl) da_nil rfl) rfl) rfl) (argn_cons (argn_cons (argn_cons argn_nil))) rfl rfl rfl)) fun _ => rfl) da_nil rfl) (by decide) rfl rfl rfl)))
    dss_nil))
theorem sc__law_deep : FnScope ["_law_rng_here", "_law_found", "_law_turn"] ["_law_rng_here"] (defScope st__law_deep) := ⟨rfl, rfl, rfl, by decide +kernel, rfl, by decide +kernel, by decide +kernel⟩
theorem ok__law_deep (D : FunD K "_law_deep" "_law_deep" (defArgs st__law_deep) (defBody st__law_deep) (defScope st__law_deep) [] [] f fd) (fr : FreeN frN mg) (ev : EnvE P K mg fileS clsN isaT catT xdL) (g__law_tree : CalG P w K mg base 44 "_law_tree" ["_law_rng_here", "_law_levels", "_law_is_indexed"] (F__law_tree 40)) (g__law_choice : CalG P w K mg base 2 "_law_choice" ["_law_rng_here", "_law_options"] F__law_choice) (g__law_draw : CalG P w K mg base 1 "_law_draw" ["_law_rng_here", "_law_many"] F__law_draw) (g__law_word : CalG P w K mg base 3 "_law_word" ["_law_rng_here"] F__law_word) : FnG P w K mg base 45 f fd ["_law_rng_here"] F__law_deep :=
  have sc := sc__law_deep
  fnG_ofD D sc rfl fun cdv A outer s H E hr hgu =>
    (dss_cons (ds_set (i := 1) sc.nd rfl (loc_by rfl) (de_callC g__law_tree (hr.mono (by omega)) hgu rfl (da_cons (de_var (i := 0) rfl (vis_by rfl) rfl rfl) (da_cons de_int (da_cons (de_cmp (ops_eq (room_u hr 64 (by decide))) (de_callC g__law_draw (hr.mono (by omega)) hgu rfl (da_cons (de_var (i := 0) rfl (vis_by rfl) rfl rfl) (da_cons de_int da_nil rfl) rfl) (argn_cons (argn_cons argn_nil)) rfl rfl rfl) de_int rfl) da_nil rfl) rfl) rfl) (argn_cons (argn_cons (argn_cons argn_nil))) rfl rfl rfl) rfl (.inl rfl))
    (dss_cons (ds_for (passes_of rfl) rfl (di_range1 rfl (fr 11 _ rfl) (da_cons (de_callC g__law_choice (hr.mono (by omega)) hgu rfl (da_cons (de_var (i := 0) rfl (vis_by rfl) rfl rfl) (da_cons (de_lst (da_cons de_int (da_cons de_int (da_cons de_int (da_cons de_int da_nil rfl) rfl) rfl) rfl)) da_nil rfl) rfl) (argn_cons (argn_cons argn_nil)) rfl rfl rfl) da_nil rfl) rfl) (dg_name (i := 2) sc.nd rfl (loc_by rfl) (.inl rfl)) (dss_cons (ds_set (i := 1) sc.nd rfl (loc_by rfl) (de_tup (da_cons (de_callC g__law_word (hr.mono (by omega)) hgu rfl (da_cons (de_var (i := 0) rfl (vis_by rfl) rfl rfl) da_nil rfl) (argn_cons argn_nil) rfl rfl rfl) (da_cons (de_var (i := 1) rfl (vis_by rfl) rfl rfl) da_nil rfl) rfl)) rfl (.inl rfl))
    dss_nil) fun _ => rfl)
    (dss_cons (ds_ret (de_var (i := 1) rfl (vis_by rfl) rfl rfl))
    dss_nil)))
theorem sc__law_parts : FnScope ["_law_thing", "_law_part"] ["_law_thing"] (defScope st__law_parts) := ⟨rfl, rfl, rfl, by decide +kernel, rfl, by decide +kernel, by decide +kernel⟩
theorem ok__law_parts (n : Nat) (D : FunD K "_law_parts" "_law_parts" (defArgs st__law_parts) (defBody st__law_parts) (defScope st__law_parts) [] [] f fd) (fr : FreeN frN mg) (ev : EnvE P K mg fileS clsN isaT catT xdL) (g__law_parts : CalG P w K mg base (n + 1) "_law_parts" ["_law_thing"] (F__law_parts n)) : FnG P w K mg base (n + 1 + 1) f fd ["_law_thing"] (F__law_parts (n + 1)) :=
  have sc := sc__law_parts
  fnG_ofD D sc rfl fun cdv A outer s H E hr hgu =>
    (dss_cons (ds_ret (de_ifE (dt_truth (de_callB call_isiA cs_isi rfl (fr 2 _ rfl) (by decide +kernel) (da_cons (de_var (i := 0) rfl (vis_by rfl) rfl rfl) (da_cons (de_bty rfl (fr 6 _ rfl) (by decide +kernel) (by decide) rfl) da_nil rfl) rfl) (by decide) rfl rfl rfl) fun _ => rfl) (de_bin ops_add2 de_int (de_callB (cr_sum rfl) cs_sum rfl (fr 7 _ rfl) (by decide +kernel) (da_cons (de_lc (own := [("_law_part", 1)]) (ts := [1]) rfl sc.nd (di_expr (de_sl sls2 (de_var (i := 0) rfl (vis_by rfl) rfl rfl) (do_some de_int) do_none)) (blkOk_by (by kernel_rfl)) (by decide) (fun _ _ _ _ _ => (dg_name (i := 1) sc.nd rfl (loc_by rfl) (.inr rfl))) (fun _ _ _ _ _ => dts_nil) (fun _ _ _ _ _ => (de_callC g__law_parts (hr.mono (by omega)) hgu rfl (da_cons (de_var (i := 1) rfl (vis_by rfl) rfl rfl) da_nil rfl) (argn_cons argn_nil) rfl rfl rfl)) fun _ => rfl) da_nil rfl) (by decide) rfl rfl rfl)) de_int))
    dss_nil)
theorem sc__law_spoiled : FnScope ["_law_rng_here", "_law_thing", "_law_odd", "_law_at", "_law_way"] ["_law_rng_here", "_law_thing"] (defScope st__law_spoiled) := ⟨rfl, rfl, rfl, by decide +kernel, rfl, by decide +kernel, by decide +kernel⟩
theorem ok__law_spoiled (n : Nat) (D : FunD K "_law_spoiled" "_law_spoiled" (defArgs st__law_spoiled) (defBody st__law_spoiled) (defScope st__law_spoiled) [] [] f fd) (fr : FreeN frN mg) (ev : EnvE P K mg fileS clsN isaT catT xdL) (g__law_choice : CalG P w K mg base 2 "_law_choice" ["_law_rng_here", "_law_options"] F__law_choice) (g__law_draw : CalG P w K mg base 1 "_law_draw" ["_law_rng_here", "_law_many"] F__law_draw) (g__law_parts : CalG P w K mg base 41 "_law_parts" ["_law_thing"] (F__law_parts 40)) (g__law_spoiled : CalG P w K mg base (n + 42) "_law_spoiled" ["_law_rng_here", "_law_thing"] (F__law_spoiled n)) : FnG P w K mg base (n + 42 + 1) f fd ["_law_rng_here", "_law_thing"] (F__law_spoiled (n + 1)) :=
  have sc := sc__law_spoiled
  fnG_ofD D sc rfl fun cdv A outer s H E hr hgu =>
    (dss_cons (ds_set (i := 2) sc.nd rfl (loc_by rfl) (de_lst (da_cons de_non (da_cons de_bl (da_cons de_bl (da_cons de_int (da_cons (de_un uns_neg de_int) (da_cons de_int (da_cons de_int (da_cons de_int (da_cons de_str (da_cons de_str (da_cons de_str (da_cons de_str (da_cons (de_lst da_nil) (da_cons (de_tup da_nil) (da_cons de_dct0 (da_cons (de_tup (da_cons de_str da_nil rfl)) (da_cons (de_lst (da_cons (de_var (i := 1) rfl (vis_by rfl) rfl rfl) da_nil rfl)) (da_cons (de_tup (da_cons (de_var (i := 1) rfl (vis_by rfl) rfl rfl) (da_cons (de_var (i := 1) rfl (vis_by rfl) rfl rfl) da_nil rfl) rfl)) da_nil rfl) rfl) rfl) rfl) rfl) rfl) rfl) rfl) rfl) rfl) rfl) rfl) rfl) rfl) rfl) rfl) rfl) rfl)) rfl (.inl rfl))
    (dss_cons (ds_if (DW.dt (dw_or (dt_not (dt_truth (de_callB call_isiA cs_isi rfl (fr 2 _ rfl) (by decide +kernel) (da_cons (de_var (i := 1) rfl (vis_by rfl) rfl rfl) (da_cons (de_bty rfl (fr 6 _ rfl) (by decide +kernel) (by decide) rfl) da_nil rfl) rfl) (by decide) rfl rfl rfl) fun _ => rfl)) (dw_or1 (dt_cmp (ops_eq (room_u hr 64 (by decide))) (de_callC g__law_draw (hr.mono (by omega)) hgu rfl (da_cons (de_var (i := 0) rfl (vis_by rfl) rfl rfl) (da_cons de_int da_nil rfl) rfl) (argn_cons (argn_cons argn_nil)) rfl rfl rfl) de_int rfl)))) (dss_cons (ds_ret (de_callC g__law_choice (hr.mono (by omega)) hgu rfl (da_cons (de_var (i := 0) rfl (vis_by rfl) rfl rfl) (da_cons (de_bin ops_add2 (de_var (i := 2) rfl (vis_by rfl) rfl rfl) (de_lst (da_cons (de_bin ops_mul2 (de_tup (da_cons de_str da_nil rfl)) de_int) (da_cons (de_bin ops_mul2 (de_tup (da_cons de_str da_nil rfl)) de_int) (da_cons (de_bin ops_pow de_int de_int) (da_cons de_str (da_cons (de_tup (da_cons de_str (da_cons de_str da_nil rfl) rfl)) (da_cons (de_tup (da_cons (de_tup (da_cons de_str (da_cons de_str da_nil rfl) rfl)) (da_cons de_str da_nil rfl) rfl)) da_nil rfl) rfl) rfl) rfl) rfl) rfl))) da_nil rfl) rfl) (argn_cons (argn_cons argn_nil)) rfl rfl rfl))
    dss_nil) dss_nil)
    (dss_cons (ds_par (i := 3) (j := 4) rfl sc.nd rfl rfl (by decide) rfl rfl (da_cons (de_callC g__law_draw (hr.mono (by omega)) hgu rfl (da_cons (de_var (i := 0) rfl (vis_by rfl) rfl rfl) (da_cons (de_callB call_len cs_len rfl (fr 3 _ rfl) (by decide +kernel) (da_cons (de_var (i := 1) rfl (vis_by rfl) rfl rfl) da_nil rfl) (by decide) rfl rfl rfl) da_nil rfl) rfl) (argn_cons (argn_cons argn_nil)) rfl rfl rfl) (da_cons (de_callC g__law_draw (hr.mono (by omega)) hgu rfl (da_cons (de_var (i := 0) rfl (vis_by rfl) rfl rfl) (da_cons de_int da_nil rfl) rfl) (argn_cons (argn_cons argn_nil)) rfl rfl rfl) da_nil rfl) rfl) rfl rfl)
    (dss_cons (ds_if (dt_cmp (ops_eq (room_u hr 64 (by decide))) (de_var (i := 4) rfl (vis_by rfl) rfl rfl) de_int rfl) (dss_cons (ds_ret (de_bin ops_add2 (de_sl sls2 (de_var (i := 1) rfl (vis_by rfl) rfl rfl) do_none (do_some (de_var (i := 3) rfl (vis_by rfl) rfl rfl))) (de_sl sls2 (de_var (i := 1) rfl (vis_by rfl) rfl rfl) (do_some (de_bin ops_add2 (de_var (i := 3) rfl (vis_by rfl) rfl rfl) de_int)) do_none)))
    dss_nil) dss_nil)
    (dss_cons (ds_if (DW.dt (dw_and (dt_cmp (ops_eq (room_u hr 64 (by decide))) (de_var (i := 4) rfl (vis_by rfl) rfl rfl) de_int rfl) (dw_and1 (dt_cmp ops_lt (de_callC g__law_parts (hr.mono (by omega)) hgu rfl (da_cons (de_ix ix_seq ix_rule (de_var (i := 1) rfl (vis_by rfl) rfl rfl) (de_var (i := 3) rfl (vis_by rfl) rfl rfl) fun _ _ => rfl) da_nil rfl) (argn_cons argn_nil) rfl rfl rfl) de_int rfl)))) (dss_cons (ds_ret (de_bin ops_add2 (de_bin ops_add2 (de_sl sls2 (de_var (i := 1) rfl (vis_by rfl) rfl rfl) do_none (do_some (de_var (i := 3) rfl (vis_by rfl) rfl rfl))) (de_tup (da_cons (de_ix ix_seq ix_rule (de_var (i := 1) rfl (vis_by rfl) rfl rfl) (de_var (i := 3) rfl (vis_by rfl) rfl rfl) fun _ _ => rfl) da_nil rfl))) (de_sl sls2 (de_var (i := 1) rfl (vis_by rfl) rfl rfl) (do_some (de_var (i := 3) rfl (vis_by rfl) rfl rfl)) do_none)))
    dss_nil) dss_nil)
    (dss_cons (ds_if (dt_cmp (ops_eq (room_u hr 64 (by decide))) (de_var (i := 4) rfl (vis_by rfl) rfl rfl) de_int rfl) (dss_cons (ds_ret (de_callT (call_listA rfl) cs_list rfl (fr 12 _ rfl) (by decide +kernel) (da_cons (de_var (i := 1) rfl (vis_by rfl) rfl rfl) da_nil rfl) (by decide) rfl rfl rfl))
    dss_nil) dss_nil)
    (dss_cons (ds_ret (de_bin ops_add2 (de_bin ops_add2 (de_sl sls2 (de_var (i := 1) rfl (vis_by rfl) rfl rfl) do_none (do_some (de_var (i := 3) rfl (vis_by rfl) rfl rfl))) (de_tup (da_cons (de_callC g__law_spoiled (hr.mono (by omega)) hgu rfl (da_cons (de_var (i := 0) rfl (vis_by rfl) rfl rfl) (da_cons (de_ix ix_seq ix_rule (de_var (i := 1) rfl (vis_by rfl) rfl rfl) (de_var (i := 3) rfl (vis_by rfl) rfl rfl) fun _ _ => rfl) da_nil rfl) rfl) (argn_cons (argn_cons argn_nil)) rfl rfl rfl) da_nil rfl))) (de_sl sls2 (de_var (i := 1) rfl (vis_by rfl) rfl rfl) (do_some (de_bin ops_add2 (de_var (i := 3) rfl (vis_by rfl) rfl rfl) de_int)) do_none)))
    dss_nil)))))))
theorem sc__law_is_word : FnScope ["_law_thing", "_law_letter"] ["_law_thing"] (defScope st__law_is_word) := ⟨rfl, rfl, rfl, by decide +kernel, rfl, by decide +kernel, by decide +kernel⟩
theorem ok__law_is_word (D : FunD K "_law_is_word" "_law_is_word" (defArgs st__law_is_word) (defBody st__law_is_word) (defScope st__law_is_word) [] [] f fd) (fr : FreeN frN mg) (ev : EnvE P K mg fileS clsN isaT catT xdL) : FnG P w K mg base 1 f fd ["_law_thing"] F__law_is_word :=
  have sc := sc__law_is_word
  fnG_ofD D sc rfl fun cdv A outer s H E hr hgu =>
    (dss_cons (ds_if (DW.dt (dw_or (dt_not (dt_truth (de_callB call_isiA cs_isi rfl (fr 2 _ rfl) (by decide +kernel) (da_cons (de_var (i := 0) rfl (vis_by rfl) rfl rfl) (da_cons (de_bty rfl (fr 1 _ rfl) (by decide +kernel) (by decide) rfl) da_nil rfl) rfl) (by decide) rfl rfl rfl) fun _ => rfl)) (dw_or1 (dt_not (dt_chain ops_le ops_le de_int (de_callB call_len cs_len rfl (fr 3 _ rfl) (by decide +kernel) (da_cons (de_var (i := 0) rfl (vis_by rfl) rfl rfl) da_nil rfl) (by decide) rfl rfl rfl) de_int rfl))))) (dss_cons (ds_ret de_bl)
    dss_nil) dss_nil)
    (dss_cons (ds_ret (de_callB (cr_all rfl) cs_all rfl (fr 0 _ rfl) (by decide +kernel) (da_cons (de_lc (own := [("_law_letter", 1)]) (ts := [1]) rfl sc.nd (di_expr (de_var (i := 0) rfl (vis_by rfl) rfl rfl)) (blkOk_by (by kernel_rfl)) (by decide) (fun _ _ _ _ _ => (dg_name (i := 1) sc.nd rfl (loc_by rfl) (.inr rfl))) (fun _ _ _ _ _ => dts_nil) (fun _ _ _ _ _ => (de_cmp ops_in (de_var (i := 1) rfl (vis_by rfl) rfl rfl) de_str rfl)) fun _ => rfl) da_nil rfl) (by decide) rfl rfl rfl))
    dss_nil))
theorem sc__law_is_tree : FnScope ["_law_thing", "_law_is_indexed", "_law_part"] ["_law_thing", "_law_is_indexed"] (defScope st__law_is_tree) := ⟨rfl, rfl, rfl, by decide +kernel, rfl, by decide +kernel, by decide +kernel⟩
theorem ok__law_is_tree (n : Nat) (D : FunD K "_law_is_tree" "_law_is_tree" (defArgs st__law_is_tree) (defBody st__law_is_tree) (defScope st__law_is_tree) [] [] f fd) (fr : FreeN frN mg) (ev : EnvE P K mg fileS clsN isaT catT xdL) (g__law_is_word : CalG P w K mg base 1 "_law_is_word" ["_law_thing"] F__law_is_word) (g__law_is_tree : CalG P w K mg base (n + 2) "_law_is_tree" ["_law_thing", "_law_is_indexed"] (F__law_is_tree n)) : FnG P w K mg base (n + 2 + 1) f fd ["_law_thing", "_law_is_indexed"] (F__law_is_tree (n + 1)) :=
  have sc := sc__law_is_tree
  fnG_ofD D sc rfl fun cdv A outer s H E hr hgu =>
    (dss_cons (ds_if (dt_truth (de_callB call_isiA cs_isi rfl (fr 2 _ rfl) (by decide +kernel) (da_cons (de_var (i := 0) rfl (vis_by rfl) rfl rfl) (da_cons (de_bty rfl (fr 4 _ rfl) (by decide +kernel) (by decide) rfl) da_nil rfl) rfl) (by decide) rfl rfl rfl) fun _ => rfl) (dss_cons (ds_ret (de_and (de_var (i := 1) rfl (vis_by rfl) rfl rfl) (de_and (de_not (de_callB call_isiA cs_isi rfl (fr 2 _ rfl) (by decide +kernel) (da_cons (de_var (i := 0) rfl (vis_by rfl) rfl rfl) (da_cons (de_bty rfl (fr 5 _ rfl) (by decide +kernel) (by decide) rfl) da_nil rfl) rfl) (by decide) rfl rfl rfl)) (de_one (de_chain ops_le ops_le de_int (de_var (i := 0) rfl (vis_by rfl) rfl rfl) de_int rfl)))))
    dss_nil) dss_nil)
    (dss_cons (ds_if (dt_not (dt_truth (de_callB call_isiA cs_isi rfl (fr 2 _ rfl) (by decide +kernel) (da_cons (de_var (i := 0) rfl (vis_by rfl) rfl rfl) (da_cons (de_bty rfl (fr 6 _ rfl) (by decide +kernel) (by decide) rfl) da_nil rfl) rfl) (by decide) rfl rfl rfl) fun _ => rfl)) (dss_cons (ds_ret (de_callC g__law_is_word (hr.mono (by omega)) hgu rfl (da_cons (de_var (i := 0) rfl (vis_by rfl) rfl rfl) da_nil rfl) (argn_cons argn_nil) rfl rfl rfl))
    dss_nil) dss_nil)
    (dss_cons (ds_if (DW.dt (dw_or (dt_not (dt_chain ops_le ops_le de_int (de_callB call_len cs_len rfl (fr 3 _ rfl) (by decide +kernel) (da_cons (de_var (i := 0) rfl (vis_by rfl) rfl rfl) da_nil rfl) (by decide) rfl rfl rfl) de_int rfl)) (dw_or1 (dt_not (dt_truth (de_callC g__law_is_word (hr.mono (by omega)) hgu rfl (da_cons (de_ix ix_seq ix_rule (de_var (i := 0) rfl (vis_by rfl) rfl rfl) de_int fun _ _ => rfl) da_nil rfl) (argn_cons argn_nil) rfl rfl rfl) fun _ => rfl))))) (dss_cons (ds_ret de_bl)
    dss_nil) dss_nil)
    (dss_cons (ds_ret (de_callB (cr_all rfl) cs_all rfl (fr 0 _ rfl) (by decide +kernel) (da_cons (de_lc (own := [("_law_part", 2)]) (ts := [2]) rfl sc.nd (di_expr (de_sl sls2 (de_var (i := 0) rfl (vis_by rfl) rfl rfl) (do_some de_int) do_none)) (blkOk_by (by kernel_rfl)) (by decide) (fun _ _ _ _ _ => (dg_name (i := 2) sc.nd rfl (loc_by rfl) (.inr rfl))) (fun _ _ _ _ _ => dts_nil) (fun _ _ _ _ _ => (de_callC g__law_is_tree (hr.mono (by omega)) hgu rfl (da_cons (de_var (i := 2) rfl (vis_by rfl) rfl rfl) (da_cons (de_var (i := 1) rfl (vis_by rfl) rfl rfl) da_nil rfl) rfl) (argn_cons (argn_cons argn_nil)) rfl rfl rfl)) fun _ => rfl) da_nil rfl) (by decide) rfl rfl rfl))
    dss_nil))))
theorem sc__law_depth : FnScope ["_law_thing", "_law_part"] ["_law_thing"] (defScope st__law_depth) := ⟨rfl, rfl, rfl, by decide +kernel, rfl, by decide +kernel, by decide +kernel⟩
theorem ok__law_depth (n : Nat) (D : FunD K "_law_depth" "_law_depth" (defArgs st__law_depth) (defBody st__law_depth) (defScope st__law_depth) [] [] f fd) (fr : FreeN frN mg) (ev : EnvE P K mg fileS clsN isaT catT xdL) (g__law_depth : CalG P w K mg base (n + 1) "_law_depth" ["_law_thing"] (F__law_depth n)) : FnG P w K mg base (n + 1 + 1) f fd ["_law_thing"] (F__law_depth (n + 1)) :=
  have sc := sc__law_depth
  fnG_ofD D sc rfl fun cdv A outer s H E hr hgu =>
    (dss_cons (ds_ret (de_ifE (dt_truth (de_callB call_isiA cs_isi rfl (fr 2 _ rfl) (by decide +kernel) (da_cons (de_var (i := 0) rfl (vis_by rfl) rfl rfl) (da_cons (de_bty rfl (fr 6 _ rfl) (by decide +kernel) (by decide) rfl) da_nil rfl) rfl) (by decide) rfl rfl rfl) fun _ => rfl) (de_bin ops_add2 de_int (de_callB (call_max12 rfl) cs_max12 rfl (fr 8 _ rfl) (by decide +kernel) (da_cons (de_lc (own := [("_law_part", 1)]) (ts := [1]) rfl sc.nd (di_expr (de_sl sls2 (de_var (i := 0) rfl (vis_by rfl) rfl rfl) (do_some de_int) do_none)) (blkOk_by (by kernel_rfl)) (by decide) (fun _ _ _ _ _ => (dg_name (i := 1) sc.nd rfl (loc_by rfl) (.inr rfl))) (fun _ _ _ _ _ => dts_nil) (fun _ _ _ _ _ => (de_callC g__law_depth (hr.mono (by omega)) hgu rfl (da_cons (de_var (i := 1) rfl (vis_by rfl) rfl rfl) da_nil rfl) (argn_cons argn_nil) rfl rfl rfl)) fun _ => rfl) da_nil rfl) (by decide) rfl rfl rfl)) de_int))
    dss_nil)
theorem sc__law_told : FnScope ["_law_way", "_law_thing", "_law_told_here", "e", "_law_is_alone"] ["_law_way", "_law_thing"] (defScope st__law_told) := ⟨rfl, rfl, rfl, by decide +kernel, rfl, by decide +kernel, by decide +kernel⟩
theorem ok__law_told (D : FunD K "_law_told" "_law_told" (defArgs st__law_told) (defBody st__law_told) (defScope st__law_told) [] [] f fd) (fr : FreeN frN mg) (ev : EnvE P K mg fileS clsN isaT catT xdL) (g_parts_of : CalG P w K mg base 46 "parts_of" ["shape"] F_parts_of) (g_depth_of : CalG P w K mg base 46 "depth_of" ["shape"] F_depth_of) : FnG P w K mg base 47 f fd ["_law_way", "_law_thing"] F__law_told :=
  have sc := sc__law_told
  fnG_ofD D sc rfl fun cdv A outer s H E hr hgu =>
    (dss_cons (ds_set (i := 2) sc.nd rfl (loc_by rfl) (de_lst (da_cons de_str da_nil rfl)) rfl (.inl rfl))
    (dss_cons (ds_tryC (i := 3) (j := 0) ev rfl rfl sc.nd rfl rfl rfl rfl rfl (by decide +kernel) (fun pn xe hpo => (dss_cons (ds_set (i := 2) sc.nd rfl (loc_by rfl) (de_lst (da_cons (de_ifE (dt_cmp (ops_eq (room_u hr 64 (by decide))) (de_var (i := 0) rfl (vis_by rfl) rfl rfl) de_int rfl) (de_callC g_parts_of (hr.mono (by omega)) hgu rfl (da_cons (de_var (i := 1) rfl (vis_by rfl) rfl rfl) da_nil rfl) (argn_cons argn_nil) rfl rfl rfl) (de_callC g_depth_of (hr.mono (by omega)) hgu rfl (da_cons (de_var (i := 1) rfl (vis_by rfl) rfl rfl) da_nil rfl) (argn_cons argn_nil) rfl rfl rfl)) da_nil rfl)) rfl (.inl rfl))
    dss_nil)) (fun a oe pn dd y hz hfl hcy => (dss_cons (ds_set (i := 4) sc.nd rfl (loc_by rfl) (de_not (de_isE (i := 3) (xi_at (cat_one hcy (by decide +kernel)) (ev.xc 0 _ rfl)) hz hfl (isa_ok ev.isa) rfl (vis_by rfl) rfl rfl rfl (fr 2 _ rfl) (de_tup (da_cons (de_clsE (j := 2) ev rfl rfl rfl) (da_cons (de_clsE (j := 3) ev rfl rfl rfl) (da_cons (de_clsE (j := 4) ev rfl rfl rfl) (da_cons (de_bty rfl (fr 15 _ rfl) (by decide +kernel) (by decide) rfl) da_nil rfl) rfl) rfl) rfl)) rfl rfl rfl)) rfl (.inl rfl))
    (dss_cons (ds_set (i := 2) sc.nd rfl (loc_by rfl) (de_lst (da_cons de_str (da_cons (de_xf (i := 3) (xf_at (cat_one hcy (by decide +kernel)) (ev.xc 0 _ rfl)) (no_at (cat_one hcy (by decide +kernel)) (ev.xc 0 _ rfl) (by decide +kernel)) hz hfl rfl (vis_by rfl) rfl rfl rfl) (da_cons (de_and (de_isE (i := 3) (xi_at (cat_one hcy (by decide +kernel)) (ev.xc 0 _ rfl)) hz hfl (isa_ok ev.isa) rfl (vis_by rfl) rfl rfl rfl (fr 2 _ rfl) (de_clsE (j := 1) ev rfl rfl rfl) rfl rfl rfl) (de_and (de_isE (i := 3) (xi_at (cat_one hcy (by decide +kernel)) (ev.xc 0 _ rfl)) hz hfl (isa_ok ev.isa) rfl (vis_by rfl) rfl rfl rfl (fr 2 _ rfl) (de_bty rfl (fr 14 _ rfl) (by decide +kernel) (by decide) rfl) rfl rfl rfl) (de_one (de_var (i := 4) rfl (vis_by rfl) rfl rfl)))) da_nil rfl) rfl) rfl)) rfl (.inl rfl))
    dss_nil))))
    (dss_cons (ds_ret (de_callB (call_repr ev.sys hgu (room_u hr 80 (by decide))) cs_repr rfl (fr 13 _ rfl) (by decide +kernel) (da_cons (de_var (i := 2) rfl (vis_by rfl) rfl rfl) da_nil rfl) (by decide) rfl rfl rfl))
    dss_nil)))
theorem sc__law_right : FnScope ["_law_thing", "_law_dues", "_law_turn", "_law_shown", "_law_is_plain", "_law_way"] ["_law_thing"] (defScope st__law_right) := ⟨rfl, rfl, rfl, by decide +kernel, rfl, by decide +kernel, by decide +kernel⟩
theorem ok__law_right (D : FunD K "_law_right" "_law_right" (defArgs st__law_right) (defBody st__law_right) (defScope st__law_right) [] [] f fd) (fr : FreeN frN mg) (ev : EnvE P K mg fileS clsN isaT catT xdL) (g__law_is_tree : CalG P w K mg base 42 "_law_is_tree" ["_law_thing", "_law_is_indexed"] (F__law_is_tree 40)) (g__law_parts : CalG P w K mg base 41 "_law_parts" ["_law_thing"] (F__law_parts 40)) (g__law_depth : CalG P w K mg base 41 "_law_depth" ["_law_thing"] (F__law_depth 40)) (g_is_shape : CalG P w K mg base 44 "is_shape" ["value"] F_is_shape) (g_is_pattern : CalG P w K mg base 44 "is_pattern" ["value"] F_is_pattern) (g__law_told : CalG P w K mg base 47 "_law_told" ["_law_way", "_law_thing"] F__law_told) : FnG P w K mg base 48 f fd ["_law_thing"] F__law_right :=
  have sc := sc__law_right
  fnG_ofD D sc rfl fun cdv A outer s H E hr hgu =>
    (dss_cons (ds_par (i := 3) (j := 4) rfl sc.nd rfl rfl (by decide) rfl rfl (da_cons (de_callB (call_repr ev.sys hgu (room_u hr 80 (by decide))) cs_repr rfl (fr 13 _ rfl) (by decide +kernel) (da_cons (de_var (i := 0) rfl (vis_by rfl) rfl rfl) da_nil rfl) (by decide) rfl rfl rfl) (da_cons (de_callC g__law_is_tree (hr.mono (by omega)) hgu rfl (da_cons (de_var (i := 0) rfl (vis_by rfl) rfl rfl) (da_cons de_bl da_nil rfl) rfl) (argn_cons (argn_cons argn_nil)) rfl rfl rfl) da_nil rfl) rfl) rfl rfl)
    (dss_cons (ds_set (i := 1) sc.nd rfl (loc_by rfl) (de_bin ops_mul2 (de_lst (da_cons (de_callB (call_repr ev.sys hgu (room_u hr 80 (by decide))) cs_repr rfl (fr 13 _ rfl) (by decide +kernel) (da_cons (de_lst (da_cons de_str (da_cons (de_var (i := 0) rfl (vis_by rfl) rfl rfl) (da_cons de_bl da_nil rfl) rfl) rfl)) da_nil rfl) (by decide) rfl rfl rfl) da_nil rfl)) de_int) rfl (.inl rfl))
    (dss_cons (ds_if (dt_truth (de_var (i := 4) rfl (vis_by rfl) rfl rfl) fun _ => rfl) (dss_cons (ds_set (i := 1) sc.nd rfl (loc_by rfl) (de_lst (da_cons (de_callB (call_repr ev.sys hgu (room_u hr 80 (by decide))) cs_repr rfl (fr 13 _ rfl) (by decide +kernel) (da_cons (de_lst (da_cons (de_callC g__law_parts (hr.mono (by omega)) hgu rfl (da_cons (de_var (i := 0) rfl (vis_by rfl) rfl rfl) da_nil rfl) (argn_cons argn_nil) rfl rfl rfl) da_nil rfl)) da_nil rfl) (by decide) rfl rfl rfl) (da_cons (de_callB (call_repr ev.sys hgu (room_u hr 80 (by decide))) cs_repr rfl (fr 13 _ rfl) (by decide +kernel) (da_cons (de_lst (da_cons (de_callC g__law_depth (hr.mono (by omega)) hgu rfl (da_cons (de_var (i := 0) rfl (vis_by rfl) rfl rfl) da_nil rfl) (argn_cons argn_nil) rfl rfl rfl) da_nil rfl)) da_nil rfl) (by decide) rfl rfl rfl) da_nil rfl) rfl)) rfl (.inl rfl))
    dss_nil) dss_nil)
    (dss_cons (ds_for (passes_of rfl) rfl (di_range1 rfl (fr 11 _ rfl) (da_cons de_int da_nil rfl) rfl) (dg_name (i := 2) sc.nd rfl (loc_by rfl) (.inl rfl)) (dss_cons (ds_if (dt_cmp (ops_ne (room_u hr 64 (by decide))) (de_callB (call_repr ev.sys hgu (room_u hr 80 (by decide))) cs_repr rfl (fr 13 _ rfl) (by decide +kernel) (da_cons (de_lst (da_cons (de_callC g_is_shape (hr.mono (by omega)) hgu rfl (da_cons (de_var (i := 0) rfl (vis_by rfl) rfl rfl) da_nil rfl) (argn_cons argn_nil) rfl rfl rfl) (da_cons (de_callC g_is_pattern (hr.mono (by omega)) hgu rfl (da_cons (de_var (i := 0) rfl (vis_by rfl) rfl rfl) da_nil rfl) (argn_cons argn_nil) rfl rfl rfl) da_nil rfl) rfl)) da_nil rfl) (by decide) rfl rfl rfl) (de_callB (call_repr ev.sys hgu (room_u hr 80 (by decide))) cs_repr rfl (fr 13 _ rfl) (by decide +kernel) (da_cons (de_lst (da_cons (de_var (i := 4) rfl (vis_by rfl) rfl rfl) (da_cons (de_callC g__law_is_tree (hr.mono (by omega)) hgu rfl (da_cons (de_var (i := 0) rfl (vis_by rfl) rfl rfl) (da_cons de_bl da_nil rfl) rfl) (argn_cons (argn_cons argn_nil)) rfl rfl rfl) da_nil rfl) rfl)) da_nil rfl) (by decide) rfl rfl rfl) rfl) (dss_cons (ds_ret de_bl)
    dss_nil) dss_nil)
    (dss_cons (ds_if (DW.dt (dw_or (dt_cmp (ops_ne (room_u hr 64 (by decide))) (de_lc (own := [("_law_way", 5)]) (ts := [5]) rfl sc.nd (di_range1 rfl (fr 11 _ rfl) (da_cons de_int da_nil rfl) rfl) (blkOk_by (by kernel_rfl)) (by decide) (fun _ _ _ _ _ => (dg_name (i := 5) sc.nd rfl (loc_by rfl) (.inr rfl))) (fun _ _ _ _ _ => dts_nil) (fun _ _ _ _ _ => (de_callC g__law_told (hr.mono (by omega)) hgu rfl (da_cons (de_var (i := 5) rfl (vis_by rfl) rfl rfl) (da_cons (de_var (i := 0) rfl (vis_by rfl) rfl rfl) da_nil rfl) rfl) (argn_cons (argn_cons argn_nil)) rfl rfl rfl)) fun _ => rfl) (de_var (i := 1) rfl (vis_by rfl) rfl rfl) rfl) (dw_or1 (dt_cmp (ops_ne (room_u hr 64 (by decide))) (de_callB (call_repr ev.sys hgu (room_u hr 80 (by decide))) cs_repr rfl (fr 13 _ rfl) (by decide +kernel) (da_cons (de_var (i := 0) rfl (vis_by rfl) rfl rfl) da_nil rfl) (by decide) rfl rfl rfl) (de_var (i := 3) rfl (vis_by rfl) rfl rfl) rfl)))) (dss_cons (ds_ret de_bl)
    dss_nil) dss_nil)
    dss_nil)) fun _ => rfl)
    (dss_cons (ds_ret de_bl)
    dss_nil)))))
theorem sc_law : FnScope ["_law_script", "_law_k", "_law_rng_here", "_law_turn", "_law_thing"] ["_law_script"] (defScope st_law) := ⟨rfl, rfl, rfl, by decide +kernel, rfl, by decide +kernel, by decide +kernel⟩
theorem ok_law (D : FunD K "law" "law" (defArgs st_law) (defBody st_law) (defScope st_law) [] [] f fd) (fr : FreeN frN mg) (ev : EnvE P K mg fileS clsN isaT catT xdL) (g__law_rng : CalG P w K mg base 1 "_law_rng" ["_law_script", "_law_k"] F__law_rng) (g__law_deep : CalG P w K mg base 45 "_law_deep" ["_law_rng_here"] F__law_deep) (g__law_right : CalG P w K mg base 48 "_law_right" ["_law_thing"] F__law_right) (g__law_spoiled : CalG P w K mg base 82 "_law_spoiled" ["_law_rng_here", "_law_thing"] (F__law_spoiled 40)) : FnG P w K mg base 83 f fd ["_law_script"] F_law :=
  have sc := sc_law
  fnG_ofD D sc rfl fun cdv A outer s H E hr hgu =>
    (dss_cons (ds_for (passes_of rfl) rfl (di_range1 rfl (fr 11 _ rfl) (da_cons (de_callB (call_max12 rfl) cs_max12 rfl (fr 8 _ rfl) (by decide +kernel) (da_cons de_int (da_cons (de_callB (call_min2 rfl) cs_min rfl (fr 16 _ rfl) (by decide +kernel) (da_cons (de_callB call_len cs_len rfl (fr 3 _ rfl) (by decide +kernel) (da_cons (de_var (i := 0) rfl (vis_by rfl) rfl rfl) da_nil rfl) (by decide) rfl rfl rfl) (da_cons de_int da_nil rfl) rfl) (by decide) rfl rfl rfl) da_nil rfl) rfl) (by decide) rfl rfl rfl) da_nil rfl) rfl) (dg_name (i := 1) sc.nd rfl (loc_by rfl) (.inl rfl)) (dss_cons (ds_set (i := 2) sc.nd rfl (loc_by rfl) (de_callC g__law_rng (hr.mono (by omega)) hgu rfl (da_cons (de_var (i := 0) rfl (vis_by rfl) rfl rfl) (da_cons (de_var (i := 1) rfl (vis_by rfl) rfl rfl) da_nil rfl) rfl) (argn_cons (argn_cons argn_nil)) rfl rfl rfl) rfl (.inl rfl))
    (dss_cons (ds_for (passes_of rfl) rfl (di_range1 rfl (fr 11 _ rfl) (da_cons de_int da_nil rfl) rfl) (dg_name (i := 3) sc.nd rfl (loc_by rfl) (.inl rfl)) (dss_cons (ds_set (i := 4) sc.nd rfl (loc_by rfl) (de_callC g__law_deep (hr.mono (by omega)) hgu rfl (da_cons (de_var (i := 2) rfl (vis_by rfl) rfl rfl) da_nil rfl) (argn_cons argn_nil) rfl rfl rfl) rfl (.inl rfl))
    (dss_cons (ds_if (DW.dt (dw_or (dt_not (dt_truth (de_callC g__law_right (hr.mono (by omega)) hgu rfl (da_cons (de_var (i := 4) rfl (vis_by rfl) rfl rfl) da_nil rfl) (argn_cons argn_nil) rfl rfl rfl) fun _ => rfl)) (dw_or1 (dt_not (dt_truth (de_callC g__law_right (hr.mono (by omega)) hgu rfl (da_cons (de_callC g__law_spoiled (hr.mono (by omega)) hgu rfl (da_cons (de_var (i := 2) rfl (vis_by rfl) rfl rfl) (da_cons (de_var (i := 4) rfl (vis_by rfl) rfl rfl) da_nil rfl) rfl) (argn_cons (argn_cons argn_nil)) rfl rfl rfl) da_nil rfl) (argn_cons argn_nil) rfl rfl rfl) fun _ => rfl))))) (dss_cons (ds_ret de_bl)
    dss_nil) dss_nil)
    dss_nil)) fun _ => rfl)
    dss_nil)) fun _ => rfl)
    (dss_cons (ds_ret de_bl)
    dss_nil))
end
/-! ### the head: facts by names, the run -/
def d_is_name : He.DefD := ⟨("is_name", none), "is_name", "is_name", defArgs st_is_name, defBody st_is_name, defScope st_is_name, [], []⟩
def d_is_integer : He.DefD := ⟨("is_integer", none), "is_integer", "is_integer", defArgs st_is_integer, defBody st_is_integer, defScope st_is_integer, [], []⟩
def d_is_index : He.DefD := ⟨("is_index", none), "is_index", "is_index", defArgs st_is_index, defBody st_is_index, defScope st_is_index, [], []⟩
def d_is_tree : He.DefD := ⟨("is_tree", none), "is_tree", "is_tree", defArgs st_is_tree, defBody st_is_tree, defScope st_is_tree, [], []⟩
def d_is_shape : He.DefD := ⟨("is_shape", none), "is_shape", "is_shape", defArgs st_is_shape, defBody st_is_shape, defScope st_is_shape, [], []⟩
def d_is_pattern : He.DefD := ⟨("is_pattern", none), "is_pattern", "is_pattern", defArgs st_is_pattern, defBody st_is_pattern, defScope st_is_pattern, [], []⟩
def d_require_shape : He.DefD := ⟨("require_shape", none), "require_shape", "require_shape", defArgs st_require_shape, defBody st_require_shape, defScope st_require_shape, [], []⟩
def d_names_in : He.DefD := ⟨("names_in", none), "names_in", "names_in", defArgs st_names_in, defBody st_names_in, defScope st_names_in, [], []⟩
def d_levels_in : He.DefD := ⟨("levels_in", none), "levels_in", "levels_in", defArgs st_levels_in, defBody st_levels_in, defScope st_levels_in, [], []⟩
def d_parts_of : He.DefD := ⟨("parts_of", none), "parts_of", "parts_of", defArgs st_parts_of, defBody st_parts_of, defScope st_parts_of, [], []⟩
def d_depth_of : He.DefD := ⟨("depth_of", none), "depth_of", "depth_of", defArgs st_depth_of, defBody st_depth_of, defScope st_depth_of, [], []⟩
def d__law_rng : He.DefD := ⟨("_law_rng", none), "_law_rng", "_law_rng", defArgs st__law_rng, defBody st__law_rng, defScope st__law_rng, [], []⟩
def d__law_draw : He.DefD := ⟨("_law_draw", none), "_law_draw", "_law_draw", defArgs st__law_draw, defBody st__law_draw, defScope st__law_draw, [], []⟩
def d__law_choice : He.DefD := ⟨("_law_choice", none), "_law_choice", "_law_choice", defArgs st__law_choice, defBody st__law_choice, defScope st__law_choice, [], []⟩
def d__law_word : He.DefD := ⟨("_law_word", none), "_law_word", "_law_word", defArgs st__law_word, defBody st__law_word, defScope st__law_word, [], []⟩
def d__law_tree : He.DefD := ⟨("_law_tree", none), "_law_tree", "_law_tree", defArgs st__law_tree, defBody st__law_tree, defScope st__law_tree, [], []⟩
def d__law_deep : He.DefD := ⟨("_law_deep", none), "_law_deep", "_law_deep", defArgs st__law_deep, defBody st__law_deep, defScope st__law_deep, [], []⟩
def d__law_parts : He.DefD := ⟨("_law_parts", none), "_law_parts", "_law_parts", defArgs st__law_parts, defBody st__law_parts, defScope st__law_parts, [], []⟩
def d__law_spoiled : He.DefD := ⟨("_law_spoiled", none), "_law_spoiled", "_law_spoiled", defArgs st__law_spoiled, defBody st__law_spoiled, defScope st__law_spoiled, [], []⟩
def d__law_is_word : He.DefD := ⟨("_law_is_word", none), "_law_is_word", "_law_is_word", defArgs st__law_is_word, defBody st__law_is_word, defScope st__law_is_word, [], []⟩
def d__law_is_tree : He.DefD := ⟨("_law_is_tree", none), "_law_is_tree", "_law_is_tree", defArgs st__law_is_tree, defBody st__law_is_tree, defScope st__law_is_tree, [], []⟩
def d__law_depth : He.DefD := ⟨("_law_depth", none), "_law_depth", "_law_depth", defArgs st__law_depth, defBody st__law_depth, defScope st__law_depth, [], []⟩
def d__law_told : He.DefD := ⟨("_law_told", none), "_law_told", "_law_told", defArgs st__law_told, defBody st__law_told, defScope st__law_told, [], []⟩
def d__law_right : He.DefD := ⟨("_law_right", none), "_law_right", "_law_right", defArgs st__law_right, defBody st__law_right, defScope st__law_right, [], []⟩
def d_law : He.DefD := ⟨("law", none), "law", "law", defArgs st_law, defBody st_law, defScope st_law, [], []⟩
def fnL : List He.DefD := [d_is_name, d_is_integer, d_is_index, d_is_tree, d_is_shape, d_is_pattern, d_require_shape, d_names_in, d_levels_in, d_parts_of, d_depth_of, d__law_rng, d__law_draw, d__law_choice, d__law_word, d__law_tree, d__law_deep, d__law_parts, d__law_spoiled, d__law_is_word, d__law_is_tree, d__law_depth, d__law_told, d__law_right, d_law]
def faL : List He.Fa := [.glo "is_name", .glo "is_integer", .glo "is_index", .glo "is_tree", .glo "is_shape", .glo "is_pattern", .glo "require_shape", .glo "names_in", .glo "levels_in", .glo "parts_of", .glo "depth_of", .glo "_law_rng", .glo "_law_draw", .glo "_law_choice", .glo "_law_word", .glo "_law_tree", .glo "_law_deep", .glo "_law_parts", .glo "_law_spoiled", .glo "_law_is_word", .glo "_law_is_tree", .glo "_law_depth", .glo "_law_told", .glo "_law_right", .glo "law", .glo "InvalidShape", .glo "CopyError", .glo "InvalidCount", .glo "InvalidPattern", .glo "InvalidText", .str "LETTERS" "abcdefghijklmnopqrstuvwxyz", .int "LONGEST_NAME" 8, .int "MOST_ARGUMENTS" 3, .free "all", .free "str", .free "isinstance", .free "len", .free "int", .free "bool", .free "tuple", .free "sum", .free "max", .free "abs", .free "divmod", .free "range", .free "list", .free "repr", .free "ValueError", .free "LookupError", .free "min", .free "super"]
abbrev R : PySem.W.OpenRow := PySem.W.OpenLaw.row PySem.Challenge.rw_leastcopies_k12_whole_shapes_and_pattern
abbrev hk : PySem.W.Hook := hookS 4 faL fnL fileS xdL exB
def ob (s : PySem.W.SharedT) : AlS := obsS 4 faL fnL fileS xdL exB (HandSHeadRun.getT s)
theorem ob_eq (s : PySem.W.SharedT) : ob s = hk.obs s.abs := obsS_eq (HandSHeadRun.getT_eq s)
theorem run (w : World) : HandSHeadRun.RunEq R (PySem.W.view R.prog [36]) hk ob 20000 [PySem.Str.ofString "__name__", PySem.Str.ofString "CopyError", PySem.Str.ofString "InvalidCount", PySem.Str.ofString "InvalidShape", PySem.Str.ofString "InvalidPattern", PySem.Str.ofString "InvalidText", PySem.Str.ofString "LETTERS", PySem.Str.ofString "LONGEST_NAME", PySem.Str.ofString "is_name", PySem.Str.ofString "is_integer", PySem.Str.ofString "MOST_ARGUMENTS", PySem.Str.ofString "is_index", PySem.Str.ofString "is_tree", PySem.Str.ofString "is_shape", PySem.Str.ofString "is_pattern", PySem.Str.ofString "require_shape", PySem.Str.ofString "names_in", PySem.Str.ofString "levels_in", PySem.Str.ofString "parts_of", PySem.Str.ofString "depth_of", PySem.Str.ofString "_law_rng", PySem.Str.ofString "_law_draw", PySem.Str.ofString "_law_choice", PySem.Str.ofString "_law_word", PySem.Str.ofString "_law_tree", PySem.Str.ofString "_law_deep", PySem.Str.ofString "_law_spoiled", PySem.Str.ofString "_law_is_word", PySem.Str.ofString "_law_is_tree", PySem.Str.ofString "_law_parts", PySem.Str.ofString "_law_depth", PySem.Str.ofString "_law_told", PySem.Str.ofString "_law_right"] w := by
  intro os
  kernel_rfl
theorem facts {w : World} {K : PySem.W.Frag} {h : Heap} {mg : Str → Option Value} {f : Addr} (X : K.In h) (G : h.Ns mainGlobals mg) (hfa : mg ("law" : Str) = some (.ref f)) (c : SaysS faL fnL fileS xdL exB K) :
    ∃ fd : FuncData, (∀ (s : Shared) (v : Value), BindsTo s fd ⟨[v], []⟩ [("_law_script", v)]) ∧ ∀ base : Heap, K.In base → base.Ns mainGlobals mg → FnG PySem.Challenge.rw_leastcopies_k12_whole_shapes_and_pattern.prog w K mg base 83 f fd ["_law_script"] F_law := by
  have fr : FreeN frN mg := fun i x e => by
    match i, e with
    | 0, e => exact (Option.some.inj e) ▸ He.free_ok X G (c.d.fact 33 (f := .free "all") rfl)
    | 1, e => exact (Option.some.inj e) ▸ He.free_ok X G (c.d.fact 34 (f := .free "str") rfl)
    | 2, e => exact (Option.some.inj e) ▸ He.free_ok X G (c.d.fact 35 (f := .free "isinstance") rfl)
    | 3, e => exact (Option.some.inj e) ▸ He.free_ok X G (c.d.fact 36 (f := .free "len") rfl)
    | 4, e => exact (Option.some.inj e) ▸ He.free_ok X G (c.d.fact 37 (f := .free "int") rfl)
    | 5, e => exact (Option.some.inj e) ▸ He.free_ok X G (c.d.fact 38 (f := .free "bool") rfl)
    | 6, e => exact (Option.some.inj e) ▸ He.free_ok X G (c.d.fact 39 (f := .free "tuple") rfl)
    | 7, e => exact (Option.some.inj e) ▸ He.free_ok X G (c.d.fact 40 (f := .free "sum") rfl)
    | 8, e => exact (Option.some.inj e) ▸ He.free_ok X G (c.d.fact 41 (f := .free "max") rfl)
    | 9, e => exact (Option.some.inj e) ▸ He.free_ok X G (c.d.fact 42 (f := .free "abs") rfl)
    | 10, e => exact (Option.some.inj e) ▸ He.free_ok X G (c.d.fact 43 (f := .free "divmod") rfl)
    | 11, e => exact (Option.some.inj e) ▸ He.free_ok X G (c.d.fact 44 (f := .free "range") rfl)
    | 12, e => exact (Option.some.inj e) ▸ He.free_ok X G (c.d.fact 45 (f := .free "list") rfl)
    | 13, e => exact (Option.some.inj e) ▸ He.free_ok X G (c.d.fact 46 (f := .free "repr") rfl)
    | 14, e => exact (Option.some.inj e) ▸ He.free_ok X G (c.d.fact 47 (f := .free "ValueError") rfl)
    | 15, e => exact (Option.some.inj e) ▸ He.free_ok X G (c.d.fact 48 (f := .free "LookupError") rfl)
    | 16, e => exact (Option.some.inj e) ▸ He.free_ok X G (c.d.fact 49 (f := .free "min") rfl)
    | 17, e => exact (Option.some.inj e) ▸ He.free_ok X G (c.d.fact 50 (f := .free "super") rfl)
    | _ + 18, e => exact nomatch e
  have cl : ∀ (i : Nat) (y : Str), clsN[i]? = some y → mg y = some (.ref (He.ga K y)) ∧ PySem.W.nsIn K mainGlobals y = some (some (.ref (He.ga K y))) := fun i y e => by
    match i, e with
    | 0, e => exact (Option.some.inj e) ▸ ⟨He.glo_ok X G (c.d.fact 25 (f := .glo "InvalidShape") rfl), He.eqO_ok (c.d.fact 25 (f := .glo "InvalidShape") rfl)⟩
    | 1, e => exact (Option.some.inj e) ▸ ⟨He.glo_ok X G (c.d.fact 26 (f := .glo "CopyError") rfl), He.eqO_ok (c.d.fact 26 (f := .glo "CopyError") rfl)⟩
    | 2, e => exact (Option.some.inj e) ▸ ⟨He.glo_ok X G (c.d.fact 27 (f := .glo "InvalidCount") rfl), He.eqO_ok (c.d.fact 27 (f := .glo "InvalidCount") rfl)⟩
    | 3, e => exact (Option.some.inj e) ▸ ⟨He.glo_ok X G (c.d.fact 28 (f := .glo "InvalidPattern") rfl), He.eqO_ok (c.d.fact 28 (f := .glo "InvalidPattern") rfl)⟩
    | 4, e => exact (Option.some.inj e) ▸ ⟨He.glo_ok X G (c.d.fact 29 (f := .glo "InvalidText") rfl), He.eqO_ok (c.d.fact 29 (f := .glo "InvalidText") rfl)⟩
    | _ + 5, e => exact nomatch e
  have ev : EnvE PySem.Challenge.rw_leastcopies_k12_whole_shapes_and_pattern.prog K mg fileS clsN isaT catT xdL := ⟨cl, (He.ba (He.ba c.more).2).1, (He.ba (He.ba c.more).2).2, c.xc, fr 17 _ rfl, Option.isSome_iff_exists.mp (He.ba c.more).1, by kernel_rfl, by kernel_rfl⟩
  have c_LETTERS := He.str_ok X G (c.d.fact 30 (f := .str "LETTERS" "abcdefghijklmnopqrstuvwxyz") rfl)
  have c_LONGEST_NAME := He.int_ok X G (c.d.fact 31 (f := .int "LONGEST_NAME" 8) rfl)
  have c_MOST_ARGUMENTS := He.int_ok X G (c.d.fact 32 (f := .int "MOST_ARGUMENTS" 3) rfl)
  obtain ⟨fd_is_name, D_is_name⟩ := c.d.def_ 0 (d := d_is_name) rfl
  have m_is_name := He.glo_ok X G (c.d.fact 0 (f := .glo "is_name") rfl)
  obtain ⟨fd_is_integer, D_is_integer⟩ := c.d.def_ 1 (d := d_is_integer) rfl
  have m_is_integer := He.glo_ok X G (c.d.fact 1 (f := .glo "is_integer") rfl)
  obtain ⟨fd_is_index, D_is_index⟩ := c.d.def_ 2 (d := d_is_index) rfl
  have m_is_index := He.glo_ok X G (c.d.fact 2 (f := .glo "is_index") rfl)
  obtain ⟨fd_is_tree, D_is_tree⟩ := c.d.def_ 3 (d := d_is_tree) rfl
  have m_is_tree := He.glo_ok X G (c.d.fact 3 (f := .glo "is_tree") rfl)
  obtain ⟨fd_is_shape, D_is_shape⟩ := c.d.def_ 4 (d := d_is_shape) rfl
  have m_is_shape := He.glo_ok X G (c.d.fact 4 (f := .glo "is_shape") rfl)
  obtain ⟨fd_is_pattern, D_is_pattern⟩ := c.d.def_ 5 (d := d_is_pattern) rfl
  have m_is_pattern := He.glo_ok X G (c.d.fact 5 (f := .glo "is_pattern") rfl)
  obtain ⟨fd_require_shape, D_require_shape⟩ := c.d.def_ 6 (d := d_require_shape) rfl
  have m_require_shape := He.glo_ok X G (c.d.fact 6 (f := .glo "require_shape") rfl)
  obtain ⟨fd_names_in, D_names_in⟩ := c.d.def_ 7 (d := d_names_in) rfl
  have m_names_in := He.glo_ok X G (c.d.fact 7 (f := .glo "names_in") rfl)
  obtain ⟨fd_levels_in, D_levels_in⟩ := c.d.def_ 8 (d := d_levels_in) rfl
  have m_levels_in := He.glo_ok X G (c.d.fact 8 (f := .glo "levels_in") rfl)
  obtain ⟨fd_parts_of, D_parts_of⟩ := c.d.def_ 9 (d := d_parts_of) rfl
  have m_parts_of := He.glo_ok X G (c.d.fact 9 (f := .glo "parts_of") rfl)
  obtain ⟨fd_depth_of, D_depth_of⟩ := c.d.def_ 10 (d := d_depth_of) rfl
  have m_depth_of := He.glo_ok X G (c.d.fact 10 (f := .glo "depth_of") rfl)
  obtain ⟨fd__law_rng, D__law_rng⟩ := c.d.def_ 11 (d := d__law_rng) rfl
  have m__law_rng := He.glo_ok X G (c.d.fact 11 (f := .glo "_law_rng") rfl)
  obtain ⟨fd__law_draw, D__law_draw⟩ := c.d.def_ 12 (d := d__law_draw) rfl
  have m__law_draw := He.glo_ok X G (c.d.fact 12 (f := .glo "_law_draw") rfl)
  obtain ⟨fd__law_choice, D__law_choice⟩ := c.d.def_ 13 (d := d__law_choice) rfl
  have m__law_choice := He.glo_ok X G (c.d.fact 13 (f := .glo "_law_choice") rfl)
  obtain ⟨fd__law_word, D__law_word⟩ := c.d.def_ 14 (d := d__law_word) rfl
  have m__law_word := He.glo_ok X G (c.d.fact 14 (f := .glo "_law_word") rfl)
  obtain ⟨fd__law_tree, D__law_tree⟩ := c.d.def_ 15 (d := d__law_tree) rfl
  have m__law_tree := He.glo_ok X G (c.d.fact 15 (f := .glo "_law_tree") rfl)
  obtain ⟨fd__law_deep, D__law_deep⟩ := c.d.def_ 16 (d := d__law_deep) rfl
  have m__law_deep := He.glo_ok X G (c.d.fact 16 (f := .glo "_law_deep") rfl)
  obtain ⟨fd__law_parts, D__law_parts⟩ := c.d.def_ 17 (d := d__law_parts) rfl
  have m__law_parts := He.glo_ok X G (c.d.fact 17 (f := .glo "_law_parts") rfl)
  obtain ⟨fd__law_spoiled, D__law_spoiled⟩ := c.d.def_ 18 (d := d__law_spoiled) rfl
  have m__law_spoiled := He.glo_ok X G (c.d.fact 18 (f := .glo "_law_spoiled") rfl)
  obtain ⟨fd__law_is_word, D__law_is_word⟩ := c.d.def_ 19 (d := d__law_is_word) rfl
  have m__law_is_word := He.glo_ok X G (c.d.fact 19 (f := .glo "_law_is_word") rfl)
  obtain ⟨fd__law_is_tree, D__law_is_tree⟩ := c.d.def_ 20 (d := d__law_is_tree) rfl
  have m__law_is_tree := He.glo_ok X G (c.d.fact 20 (f := .glo "_law_is_tree") rfl)
  obtain ⟨fd__law_depth, D__law_depth⟩ := c.d.def_ 21 (d := d__law_depth) rfl
  have m__law_depth := He.glo_ok X G (c.d.fact 21 (f := .glo "_law_depth") rfl)
  obtain ⟨fd__law_told, D__law_told⟩ := c.d.def_ 22 (d := d__law_told) rfl
  have m__law_told := He.glo_ok X G (c.d.fact 22 (f := .glo "_law_told") rfl)
  obtain ⟨fd__law_right, D__law_right⟩ := c.d.def_ 23 (d := d__law_right) rfl
  have m__law_right := He.glo_ok X G (c.d.fact 23 (f := .glo "_law_right") rfl)
  obtain ⟨fd_law, D_law⟩ := c.d.def_ 24 (d := d_law) rfl
  have m_law := He.glo_ok X G (c.d.fact 24 (f := .glo "law") rfl)
  have e := hfa.symm.trans m_law
  cases e
  have b := FunD.bindsA (ps := ["_law_script"]) D_law fun _ _ _ _ _ _ us hl => match us, hl with | [_], _ => rfl
  refine ⟨fd_law, fun s v => b s [v] rfl, fun base _ _ => ?_⟩
  have g_is_name : CalG PySem.Challenge.rw_leastcopies_k12_whole_shapes_and_pattern.prog w K mg base 1 "is_name" ["value"] F_is_name := cal_of D_is_name (ok_is_name D_is_name fr ev c_LETTERS c_LONGEST_NAME) m_is_name (fun _ _ _ _ _ _ us hl => match us, hl with | [_], _ => rfl) (fun _ _ _ _ _ _ us hl => match us, hl with | [_], _ => rfl)
  have g_is_integer : CalG PySem.Challenge.rw_leastcopies_k12_whole_shapes_and_pattern.prog w K mg base 1 "is_integer" ["value"] F_is_integer := cal_of D_is_integer (ok_is_integer D_is_integer fr ev) m_is_integer (fun _ _ _ _ _ _ us hl => match us, hl with | [_], _ => rfl) (fun _ _ _ _ _ _ us hl => match us, hl with | [_], _ => rfl)
  have g_is_index : CalG PySem.Challenge.rw_leastcopies_k12_whole_shapes_and_pattern.prog w K mg base 2 "is_index" ["value"] F_is_index := cal_of D_is_index (ok_is_index D_is_index fr ev g_is_integer c_MOST_ARGUMENTS) m_is_index (fun _ _ _ _ _ _ us hl => match us, hl with | [_], _ => rfl) (fun _ _ _ _ _ _ us hl => match us, hl with | [_], _ => rfl)
  have g_is_tree : ∀ n, CalG PySem.Challenge.rw_leastcopies_k12_whole_shapes_and_pattern.prog w K mg base (n + 3) "is_tree" ["value", "with_indexes"] (F_is_tree n) := fun n => by
    induction n with
    | zero => exact cal_of D_is_tree fnG_fail m_is_tree (fun _ _ _ _ _ _ us hl => match us, hl with | [_, _], _ => rfl) (fun _ _ _ _ _ _ us hl => match us, hl with | [_, _], _ => rfl)
    | succ n ih =>
      rw [show n + 1 + 3 = n + 3 + 1 from by omega]
      exact cal_of D_is_tree (ok_is_tree n D_is_tree fr ev g_is_name ih g_is_index c_MOST_ARGUMENTS) m_is_tree (fun _ _ _ _ _ _ us hl => match us, hl with | [_, _], _ => rfl) (fun _ _ _ _ _ _ us hl => match us, hl with | [_, _], _ => rfl)
  have g_is_shape : CalG PySem.Challenge.rw_leastcopies_k12_whole_shapes_and_pattern.prog w K mg base 44 "is_shape" ["value"] F_is_shape := cal_of D_is_shape (ok_is_shape D_is_shape fr ev (g_is_tree 40)) m_is_shape (fun _ _ _ _ _ _ us hl => match us, hl with | [_], _ => rfl) (fun _ _ _ _ _ _ us hl => match us, hl with | [_], _ => rfl)
  have g_is_pattern : CalG PySem.Challenge.rw_leastcopies_k12_whole_shapes_and_pattern.prog w K mg base 44 "is_pattern" ["value"] F_is_pattern := cal_of D_is_pattern (ok_is_pattern D_is_pattern fr ev (g_is_tree 40)) m_is_pattern (fun _ _ _ _ _ _ us hl => match us, hl with | [_], _ => rfl) (fun _ _ _ _ _ _ us hl => match us, hl with | [_], _ => rfl)
  have g_require_shape : CalG PySem.Challenge.rw_leastcopies_k12_whole_shapes_and_pattern.prog w K mg base 45 "require_shape" ["value"] F_require_shape := cal_of D_require_shape (ok_require_shape D_require_shape fr ev g_is_shape) m_require_shape (fun _ _ _ _ _ _ us hl => match us, hl with | [_], _ => rfl) (fun _ _ _ _ _ _ us hl => match us, hl with | [_], _ => rfl)
  have g_names_in : ∀ n, CalG PySem.Challenge.rw_leastcopies_k12_whole_shapes_and_pattern.prog w K mg base (n + 1) "names_in" ["tree"] (F_names_in n) := fun n => by
    induction n with
    | zero => exact cal_of D_names_in fnG_fail m_names_in (fun _ _ _ _ _ _ us hl => match us, hl with | [_], _ => rfl) (fun _ _ _ _ _ _ us hl => match us, hl with | [_], _ => rfl)
    | succ n ih =>
      rw [show n + 1 + 1 = n + 1 + 1 from by omega]
      exact cal_of D_names_in (ok_names_in n D_names_in fr ev ih) m_names_in (fun _ _ _ _ _ _ us hl => match us, hl with | [_], _ => rfl) (fun _ _ _ _ _ _ us hl => match us, hl with | [_], _ => rfl)
  have g_levels_in : ∀ n, CalG PySem.Challenge.rw_leastcopies_k12_whole_shapes_and_pattern.prog w K mg base (n + 1) "levels_in" ["tree"] (F_levels_in n) := fun n => by
    induction n with
    | zero => exact cal_of D_levels_in fnG_fail m_levels_in (fun _ _ _ _ _ _ us hl => match us, hl with | [_], _ => rfl) (fun _ _ _ _ _ _ us hl => match us, hl with | [_], _ => rfl)
    | succ n ih =>
      rw [show n + 1 + 1 = n + 1 + 1 from by omega]
      exact cal_of D_levels_in (ok_levels_in n D_levels_in fr ev ih) m_levels_in (fun _ _ _ _ _ _ us hl => match us, hl with | [_], _ => rfl) (fun _ _ _ _ _ _ us hl => match us, hl with | [_], _ => rfl)
  have g_parts_of : CalG PySem.Challenge.rw_leastcopies_k12_whole_shapes_and_pattern.prog w K mg base 46 "parts_of" ["shape"] F_parts_of := cal_of D_parts_of (ok_parts_of D_parts_of fr ev g_require_shape (g_names_in 40)) m_parts_of (fun _ _ _ _ _ _ us hl => match us, hl with | [_], _ => rfl) (fun _ _ _ _ _ _ us hl => match us, hl with | [_], _ => rfl)
  have g_depth_of : CalG PySem.Challenge.rw_leastcopies_k12_whole_shapes_and_pattern.prog w K mg base 46 "depth_of" ["shape"] F_depth_of := cal_of D_depth_of (ok_depth_of D_depth_of fr ev g_require_shape (g_levels_in 40)) m_depth_of (fun _ _ _ _ _ _ us hl => match us, hl with | [_], _ => rfl) (fun _ _ _ _ _ _ us hl => match us, hl with | [_], _ => rfl)
  have g__law_rng : CalG PySem.Challenge.rw_leastcopies_k12_whole_shapes_and_pattern.prog w K mg base 1 "_law_rng" ["_law_script", "_law_k"] F__law_rng := cal_of D__law_rng (ok__law_rng D__law_rng fr ev) m__law_rng (fun _ _ _ _ _ _ us hl => match us, hl with | [_, _], _ => rfl) (fun _ _ _ _ _ _ us hl => match us, hl with | [_, _], _ => rfl)
  have g__law_draw : CalG PySem.Challenge.rw_leastcopies_k12_whole_shapes_and_pattern.prog w K mg base 1 "_law_draw" ["_law_rng_here", "_law_many"] F__law_draw := cal_of D__law_draw (ok__law_draw D__law_draw fr ev) m__law_draw (fun _ _ _ _ _ _ us hl => match us, hl with | [_, _], _ => rfl) (fun _ _ _ _ _ _ us hl => match us, hl with | [_, _], _ => rfl)
  have g__law_choice : CalG PySem.Challenge.rw_leastcopies_k12_whole_shapes_and_pattern.prog w K mg base 2 "_law_choice" ["_law_rng_here", "_law_options"] F__law_choice := cal_of D__law_choice (ok__law_choice D__law_choice fr ev g__law_draw) m__law_choice (fun _ _ _ _ _ _ us hl => match us, hl with | [_, _], _ => rfl) (fun _ _ _ _ _ _ us hl => match us, hl with | [_, _], _ => rfl)
  have g__law_word : CalG PySem.Challenge.rw_leastcopies_k12_whole_shapes_and_pattern.prog w K mg base 3 "_law_word" ["_law_rng_here"] F__law_word := cal_of D__law_word (ok__law_word D__law_word fr ev g__law_choice g__law_draw) m__law_word (fun _ _ _ _ _ _ us hl => match us, hl with | [_], _ => rfl) (fun _ _ _ _ _ _ us hl => match us, hl with | [_], _ => rfl)
  have g__law_tree : ∀ n, CalG PySem.Challenge.rw_leastcopies_k12_whole_shapes_and_pattern.prog w K mg base (n + 4) "_law_tree" ["_law_rng_here", "_law_levels", "_law_is_indexed"] (F__law_tree n) := fun n => by
    induction n with
    | zero => exact cal_of D__law_tree fnG_fail m__law_tree (fun _ _ _ _ _ _ us hl => match us, hl with | [_, _, _], _ => rfl) (fun _ _ _ _ _ _ us hl => match us, hl with | [_, _, _], _ => rfl)
    | succ n ih =>
      rw [show n + 1 + 4 = n + 4 + 1 from by omega]
      exact cal_of D__law_tree (ok__law_tree n D__law_tree fr ev g__law_word g__law_draw ih) m__law_tree (fun _ _ _ _ _ _ us hl => match us, hl with | [_, _, _], _ => rfl) (fun _ _ _ _ _ _ us hl => match us, hl with | [_, _, _], _ => rfl)
  have g__law_deep : CalG PySem.Challenge.rw_leastcopies_k12_whole_shapes_and_pattern.prog w K mg base 45 "_law_deep" ["_law_rng_here"] F__law_deep := cal_of D__law_deep (ok__law_deep D__law_deep fr ev (g__law_tree 40) g__law_choice g__law_draw g__law_word) m__law_deep (fun _ _ _ _ _ _ us hl => match us, hl with | [_], _ => rfl) (fun _ _ _ _ _ _ us hl => match us, hl with | [_], _ => rfl)
  have g__law_parts : ∀ n, CalG PySem.Challenge.rw_leastcopies_k12_whole_shapes_and_pattern.prog w K mg base (n + 1) "_law_parts" ["_law_thing"] (F__law_parts n) := fun n => by
    induction n with
    | zero => exact cal_of D__law_parts fnG_fail m__law_parts (fun _ _ _ _ _ _ us hl => match us, hl with | [_], _ => rfl) (fun _ _ _ _ _ _ us hl => match us, hl with | [_], _ => rfl)
    | succ n ih =>
      rw [show n + 1 + 1 = n + 1 + 1 from by omega]
      exact cal_of D__law_parts (ok__law_parts n D__law_parts fr ev ih) m__law_parts (fun _ _ _ _ _ _ us hl => match us, hl with | [_], _ => rfl) (fun _ _ _ _ _ _ us hl => match us, hl with | [_], _ => rfl)
  have g__law_spoiled : ∀ n, CalG PySem.Challenge.rw_leastcopies_k12_whole_shapes_and_pattern.prog w K mg base (n + 42) "_law_spoiled" ["_law_rng_here", "_law_thing"] (F__law_spoiled n) := fun n => by
    induction n with
    | zero => exact cal_of D__law_spoiled fnG_fail m__law_spoiled (fun _ _ _ _ _ _ us hl => match us, hl with | [_, _], _ => rfl) (fun _ _ _ _ _ _ us hl => match us, hl with | [_, _], _ => rfl)
    | succ n ih =>
      rw [show n + 1 + 42 = n + 42 + 1 from by omega]
      exact cal_of D__law_spoiled (ok__law_spoiled n D__law_spoiled fr ev g__law_choice g__law_draw (g__law_parts 40) ih) m__law_spoiled (fun _ _ _ _ _ _ us hl => match us, hl with | [_, _], _ => rfl) (fun _ _ _ _ _ _ us hl => match us, hl with | [_, _], _ => rfl)
  have g__law_is_word : CalG PySem.Challenge.rw_leastcopies_k12_whole_shapes_and_pattern.prog w K mg base 1 "_law_is_word" ["_law_thing"] F__law_is_word := cal_of D__law_is_word (ok__law_is_word D__law_is_word fr ev) m__law_is_word (fun _ _ _ _ _ _ us hl => match us, hl with | [_], _ => rfl) (fun _ _ _ _ _ _ us hl => match us, hl with | [_], _ => rfl)
  have g__law_is_tree : ∀ n, CalG PySem.Challenge.rw_leastcopies_k12_whole_shapes_and_pattern.prog w K mg base (n + 2) "_law_is_tree" ["_law_thing", "_law_is_indexed"] (F__law_is_tree n) := fun n => by
    induction n with
    | zero => exact cal_of D__law_is_tree fnG_fail m__law_is_tree (fun _ _ _ _ _ _ us hl => match us, hl with | [_, _], _ => rfl) (fun _ _ _ _ _ _ us hl => match us, hl with | [_, _], _ => rfl)
    | succ n ih =>
      rw [show n + 1 + 2 = n + 2 + 1 from by omega]
      exact cal_of D__law_is_tree (ok__law_is_tree n D__law_is_tree fr ev g__law_is_word ih) m__law_is_tree (fun _ _ _ _ _ _ us hl => match us, hl with | [_, _], _ => rfl) (fun _ _ _ _ _ _ us hl => match us, hl with | [_, _], _ => rfl)
  have g__law_depth : ∀ n, CalG PySem.Challenge.rw_leastcopies_k12_whole_shapes_and_pattern.prog w K mg base (n + 1) "_law_depth" ["_law_thing"] (F__law_depth n) := fun n => by
    induction n with
    | zero => exact cal_of D__law_depth fnG_fail m__law_depth (fun _ _ _ _ _ _ us hl => match us, hl with | [_], _ => rfl) (fun _ _ _ _ _ _ us hl => match us, hl with | [_], _ => rfl)
    | succ n ih =>
      rw [show n + 1 + 1 = n + 1 + 1 from by omega]
      exact cal_of D__law_depth (ok__law_depth n D__law_depth fr ev ih) m__law_depth (fun _ _ _ _ _ _ us hl => match us, hl with | [_], _ => rfl) (fun _ _ _ _ _ _ us hl => match us, hl with | [_], _ => rfl)
  have g__law_told : CalG PySem.Challenge.rw_leastcopies_k12_whole_shapes_and_pattern.prog w K mg base 47 "_law_told" ["_law_way", "_law_thing"] F__law_told := cal_of D__law_told (ok__law_told D__law_told fr ev g_parts_of g_depth_of) m__law_told (fun _ _ _ _ _ _ us hl => match us, hl with | [_, _], _ => rfl) (fun _ _ _ _ _ _ us hl => match us, hl with | [_, _], _ => rfl)
  have g__law_right : CalG PySem.Challenge.rw_leastcopies_k12_whole_shapes_and_pattern.prog w K mg base 48 "_law_right" ["_law_thing"] F__law_right := cal_of D__law_right (ok__law_right D__law_right fr ev (g__law_is_tree 40) (g__law_parts 40) (g__law_depth 40) g_is_shape g_is_pattern g__law_told) m__law_right (fun _ _ _ _ _ _ us hl => match us, hl with | [_], _ => rfl) (fun _ _ _ _ _ _ us hl => match us, hl with | [_], _ => rfl)
  exact ok_law D_law fr ev g__law_rng g__law_deep g__law_right (g__law_spoiled 40)
end Lw

set_option Elab.async false
set_option maxRecDepth 100000
set_option maxHeartbeats 4000000
namespace Lw
open PySem L2 Lc
/-- the drawing state -/
def Rng (c : Cn) : Prop := ∃ a b : Int, c = .lst [.int a, .int b] ∧ 0 ≤ a ∧ 0 ≤ b ∧ b < 2147483629
theorem pylong_no {i j : Int} (h0 : 0 < j) (h : j ≤ 10 ^ 60) : Builtin.divisionGoesByPylong i j = false := by
  have h1 : j.natAbs < 2 ^ 210 := by
    have : (10 : Int) ^ 60 < 2 ^ 210 := by decide
    omega
  have h2 := log_lt h1 (by decide)
  have e : (j == 0) = false := by simp; omega
  unfold Builtin.divisionGoesByPylong
  simp only [e, Bool.and_eq_false_imp, decide_eq_true_eq]
  intro z
  simp at z
  omega
theorem rng_ok {ns : List Int} {k : Nat} (hk : k ≤ 5) (hl : ns.length ≤ 63) : ∃ c, F__law_rng [.dt (.scr ns), .dt (.int k)] = .ok (.own c) [.dt (.scr ns), .dt (.int k)] ∧ Rng c := by
  have go : ∀ x : Int, 0 ≤ x → Rng (.lst [.int (if x - 10 ^ 18 > 0 then x - 10 ^ 18 else 0), .int ((x % 2147483549 + 4127 * (k : Int) + 29) ^ 2 % 2147483477 + 1)]) := fun x hx => by
    refine ⟨_, _, rfl, ?_, ?_, ?_⟩
    · split <;> omega
    · have := Int.emod_nonneg ((x % 2147483549 + 4127 * (k : Int) + 29) ^ 2) (show (2147483477 : Int) ≠ 0 by decide)
      omega
    · have := Int.emod_lt_of_pos ((x % 2147483549 + 4127 * (k : Int) + 29) ^ 2) (show (0 : Int) < 2147483477 by decide)
      omega
  have pw : ∀ x : Int, (x % 2147483549 + 4127 * (k : Int) + 29).natAbs < 18446744073709551616 := fun x => by omega
  by_cases h : k < ns.length
  · obtain ⟨x, hx⟩ : ∃ x, ns[k]? = some x := ⟨ns[k], by simp [h]⟩
    refine ⟨_, ?_, go (if x < 0 then -x else x) (by split <;> omega)⟩
    have ha : atI ns (k : Int) = some x := by
      have e : ixN ns.length (k : Int) = some k := by simp [ixN, h]
      rw [atI, e]
      exact hx
    have h' : (k : Int) < (ns.length : Int) := by omega
    simp [F__law_rng, q_run, b__law_rng, gLen, gLt, h', gIx1, ha, gAbs, gPow, Lc.gSub, gMax, gMod, gMul, gAdd2, gAdd, gMul2, gRepL, gRepT, gMaxL, pw, q_size]
  · refine ⟨_, ?_, go 0 (by decide)⟩
    have h' : ¬ (k : Int) < (ns.length : Int) := by omega
    have p0 : (4127 * (k : Int) + 29).natAbs < 18446744073709551616 := by omega
    simp [F__law_rng, q_run, b__law_rng, gLen, gLt, h', gIx1, gAbs, gPow, Lc.gSub, gMax, gMod, gMul, gAdd2, gAdd, gMul2, gRepL, gRepT, gMaxL, p0, q_size]
theorem draw_ok {c : Cn} {n : Int} (h : Rng c) (h0 : 0 < n) (h1 : n ≤ 10 ^ 60) : ∃ m c', F__law_draw [.own c, .dt (.int n)] = .ok (.dt (.int m)) [.own c', .dt (.int n)] ∧ 0 ≤ m ∧ m < n ∧ Rng c' := by
  obtain ⟨a, b, rfl, ha, hb, hb2⟩ := h
  by_cases h : 0 < a
  · refine ⟨a % n, .lst [.int (a / n), .int b], ?_, Int.emod_nonneg _ (by omega), Int.emod_lt_of_pos _ h0, _, _, rfl, Int.ediv_nonneg ha (by omega), hb, hb2⟩
    simp [F__law_draw, q_run, b__law_draw, gIx1, atI, ixN, gGt, h, gDivmod, h0, pylong_no h0 h1]
  · have b1 := Int.emod_nonneg (b * 39373 + 9973) (show (2147483629 : Int) ≠ 0 by decide)
    have b2 := Int.emod_lt_of_pos (b * 39373 + 9973) (show (0 : Int) < 2147483629 by decide)
    refine ⟨(b * 39373 + 9973) % 2147483629 * ((b * 39373 + 9973) % 2147483629) % 2147483563 / 13 % n, .lst [.int a, .int ((b * 39373 + 9973) % 2147483629)], ?_, Int.emod_nonneg _ (by omega), Int.emod_lt_of_pos _ h0, _, _, rfl, ha, b1, b2⟩
    have c1 : -18446744073709551616 < (b * 39373 + 9973) % 2147483629 ∧ (b * 39373 + 9973) % 2147483629 < 18446744073709551616 := by omega
    simp [F__law_draw, q_run, b__law_draw, gIx1, atI, ixN, gGt, h, gMul2, gMul, gAdd2, gAdd, gMod, gFdiv, h0, c1]
theorem choice_ok {c : Cn} {l : List D} (h : Rng c) (h0 : 0 < l.length) (h1 : l.length ≤ 1000) : ∃ d c' b, F__law_choice [.own c, .own (.lst l)] = .ok (.dt d) [.own c', b] ∧ d ∈ l ∧ Rng c' := by
  obtain ⟨m, c', e, m0, m1, hc⟩ := draw_ok (n := (l.length : Int)) h (by omega) (by omega)
  obtain ⟨d, hd⟩ : ∃ d, l[m.toNat]? = some d := ⟨l[m.toNat]'(by omega), by simp⟩
  have ha : atI l m = some d := by
    have e : ixN l.length m = some m.toNat := by simp [ixN, m0, m1]
    rw [atI, e]
    exact hd
  refine ⟨d, c', .own (.lst l), ?_, List.mem_of_getElem? hd, hc⟩
  simp [F__law_choice, q_run, b__law_choice, gLen, e, gIx1, ha]
/-- one sign of a text -/
theorem choice_str {c : Cn} {x : Str} (h : Rng c) (h0 : 0 < x.length) (h1 : x.length ≤ 1000) : ∃ ch c', F__law_choice [.own c, .dt (.str x)] = .ok (.dt (.str ⟨#[ch]⟩)) [.own c', .dt (.str x)] ∧ ch ∈ x.cps.toList ∧ Rng c' := by
  obtain ⟨m, c', e, m0, m1, hc⟩ := draw_ok (n := (x.length : Int)) h (by omega) (by omega)
  have hl := len_list x
  obtain ⟨d, hd⟩ : ∃ d, x.cps.toList[m.toNat]? = some d := ⟨x.cps.toList[m.toNat]'(by omega), by rw [List.getElem?_eq_getElem]⟩
  have ha : atI x.cps.toList m = some d := by
    have e : ixN x.cps.toList.length m = some m.toNat := by rw [← hl]; simp [ixN, m0, m1]
    rw [atI, e]
    exact hd
  have hz : x.length ≤ 16777216 := by omega
  refine ⟨d, c', ?_, List.mem_of_getElem? hd, hc⟩
  simp [F__law_choice, q_run, b__law_choice, gLen, e, gIx1, ha, hz, q_size]
/-- a word: one to eight letters -/
structure Word (x : Str) : Prop where
  wd : Wd 8 x
  pos : 1 ≤ x.length
theorem word_ok {c : Cn} (h : Rng c) : ∃ x c', F__law_word [.own c] = .ok (.dt (.str x)) [.own c'] ∧ Word x ∧ Rng c' := by
  obtain ⟨m, c1, e1, m0, m1, hc1⟩ := draw_ok (n := 4) h (by decide) (by decide)
  obtain ⟨j, hj, hj1, hj8⟩ : ∃ j : Int, gIx1 (.lst [.int 1, .int 1, .int 2, .int 8]) (.int m) = some (.dt (.int j)) ∧ 1 ≤ j ∧ j ≤ 8 := by
    have hm : m = 0 ∨ m = 1 ∨ m = 2 ∨ m = 3 := by omega
    rcases hm with rfl | rfl | rfl | rfl
    · exact ⟨1, rfl, by decide, by decide⟩
    · exact ⟨1, rfl, by decide, by decide⟩
    · exact ⟨2, rfl, by decide, by decide⟩
    · exact ⟨8, rfl, by decide, by decide⟩
  have hi : (M.bind (cCons (cOp2 gIx1 (cLst (cCons (cC (.int 1)) (cCons (cC (.int 1)) (cCons (cC (.int 2)) (cCons (cC (.int 8)) (M.ret [])))))) (cCall F__law_draw (cCons (cVar 0) (cCons (cC (.int 4)) (M.ret []))))) (M.ret [])) W.rng1) ⟨[some (.bor 0), some (.dt (.str "abcdefghijklmnopqrstuvwxyz")), none], [.own c]⟩ = .ok (rngD 0 j.toNat) ⟨[some (.bor 0), some (.dt (.str "abcdefghijklmnopqrstuvwxyz")), none], [.own c1]⟩ := by
    have z : -4611686018427387904 ≤ j ∧ j < 4611686018427387904 := by omega
    simp [e1, hj, z, q_size]
  obtain ⟨ys, re, e2, ⟨c2, hre, hc2⟩, hlen, hys⟩ := cLc_inv (own := [2]) (T := gN 2) (fe := cCall F__law_choice (cCons (cVar 0) (cCons (cVar 1) (M.ret [])))) hi rfl
    (fun r => ∃ c, r = ⟨[some (.bor 0), some (.dt (.str "abcdefghijklmnopqrstuvwxyz")), none], [.own c]⟩ ∧ Rng c) (fun d => ∃ y : Str, d = .str y ∧ Wd 1 y ∧ y.length = 1) (by simp [rngD, q_size]; omega) ⟨c1, rfl, hc1⟩ fun d _ r ⟨c, hr, hc⟩ => by
      subst hr
      obtain ⟨ch, c', e, hin, hc'⟩ := choice_str (x := "abcdefghijklmnopqrstuvwxyz") hc (by decide +kernel) (by decide +kernel)
      have hall : ∀ ch ∈ (Str.ofString "abcdefghijklmnopqrstuvwxyz").cps.toList, ch < 1114112 := by decide +kernel
      refine ⟨_, .dt (.str ⟨#[ch]⟩), ⟨[some (.bor 0), some (.dt (.str "abcdefghijklmnopqrstuvwxyz")), some (.dt d)], [.own c']⟩, .str ⟨#[ch]⟩, _, rfl, ?_, rfl, ⟨_, rfl, .one (hall ch hin), rfl⟩, c', rfl, hc'⟩
      simp [e]
  subst hre
  have hst : ∃ zs : List Str, strsOf ys = some zs ∧ zs.length = ys.length ∧ ∀ y ∈ zs, Wd 1 y ∧ y.length = 1 := by
    clear hlen e2
    induction ys with
    | nil => exact ⟨[], rfl, rfl, fun _ z => nomatch z⟩
    | cons y ys ih =>
      obtain ⟨zs, a, b, c⟩ := ih fun z hz => hys z (List.mem_cons_of_mem _ hz)
      obtain ⟨x, rfl, hx⟩ := hys y List.mem_cons_self
      refine ⟨x :: zs, by simp [strsOf, a], by simp [b], fun z hz => ?_⟩
      rcases List.mem_cons.mp hz with rfl | hz
      · exact hx
      · exact c z hz
  obtain ⟨zs, z1, z2, z3⟩ := hst
  have hn : zs.length = j.toNat := by rw [z2, hlen]; simp [rngD]
  obtain ⟨j1, j2⟩ := join_wd (n := 8) (ys := zs) (by omega) z3
  have hsum : (zs.map (·.length)).sum = zs.length := by
    clear j1 j2 z1 z2 hn
    induction zs with
    | nil => rfl
    | cons y ys ih =>
      rw [List.map_cons, List.sum_cons, ih fun z hz => z3 z (List.mem_cons_of_mem _ hz), (z3 y List.mem_cons_self).2, List.length_cons]
      omega
  refine ⟨Txt.join (Str.ofString "") zs, c2, ?_, ⟨j1, by rw [j2]; omega⟩, hc2⟩
  have e3 : x__law_word_1 ⟨[some (.bor 0), some (.dt (.str "abcdefghijklmnopqrstuvwxyz")), none], [.own c]⟩ = .ok (.fresh (.lst ys)) ⟨[some (.bor 0), some (.dt (.str "abcdefghijklmnopqrstuvwxyz")), none], [.own c2]⟩ := by
    refine e2.trans ?_
    simp
  have e0 : (Str.ofString "").length = 0 := by decide
  have hs2 : (zs.map (·.length)).sum + zs.length * (Str.ofString "").length ≤ 16777216 := by rw [hsum, e0]; omega
  simp [F__law_word, q_run, b__law_word, e3, gJoin, z1, hs2]
end Lw

set_option Elab.async false
set_option maxRecDepth 100000
set_option maxHeartbeats 2000000
namespace Lw
open PySem L2 Lc
/-- data that may be judged, at most n levels -/
def Th : Nat → D → Prop
  | 0, _ => False
  | n + 1, d => match d with
    | .non => True
    | .bl _ => True
    | .int i => i.natAbs < 2 ^ 200
    | .str x => Wd 30 x
    | .tup l => l.length ≤ 1000 ∧ ∀ x ∈ l, Th n x
    | .lst l => l.length ≤ 1000 ∧ ∀ x ∈ l, Th n x
    | .dct l => l = []
    | _ => False
def inL (c : Nat) : Bool := decide (c ∈ (Str.ofString "abcdefghijklmnopqrstuvwxyz").cps.toList)
theorem blsOf_map {α : Type} {f : α → Bool} : ∀ l : List α, blsOf (l.map fun c => D.bl (f c)) = some (l.map f)
  | [] => rfl
  | a :: l => by simp [blsOf, blsOf_map l]
def lcIn : M W := (cLc (M.bind (cVar 0) W.items) [1] (gN 1) (M.ret true) (cOp2 gIn (cVar 1) (cC (.str "abcdefghijklmnopqrstuvwxyz"))))
theorem lcIn_ok {x : Str} (hx : x.length ≤ sizeLine) : lcIn ⟨[some (.dt (.str x)), none], [.dt (.str x)]⟩ = .ok (.fresh (.lst (x.cps.toList.map fun c => .bl (inL c)))) ⟨[some (.dt (.str x)), none], [.dt (.str x)]⟩ := by
  have hi : (M.bind (cVar 0) W.items) ⟨[some (.dt (.str x)), none], [.dt (.str x)]⟩ = .ok (signs x) ⟨[some (.dt (.str x)), none], [.dt (.str x)]⟩ := by simp
  have hs : (signs x).length ≤ sizeLine := by simpa [signs, Str.length] using hx
  have e := cLc_map (own := [1]) (T := gN 1) (fe := cOp2 gIn (cVar 1) (cC (.str "abcdefghijklmnopqrstuvwxyz"))) hi rfl (fun d => match d with | .str y => .bl (y.cps.toList.all inL) | _ => .non) hs fun d hd => by
    simp only [signs, List.mem_map] at hd
    obtain ⟨c, _, rfl⟩ := hd
    exact ⟨_, .dt (.bl (inL c)), ⟨[some (.dt (.str x)), some (.dt (.str ⟨#[c]⟩))], [.dt (.str x)]⟩, ⟨[some (.dt (.str x)), some (.dt (.str ⟨#[c]⟩))], [.dt (.str x)]⟩, rfl, rfl, by simp, rfl⟩
  refine e.trans ?_
  simp [signs, List.map_map, Function.comp_def]
/-- a name -/
def nm : D → Bool
  | .str x => decide (1 ≤ x.length ∧ x.length ≤ 8) && (x.cps.toList.map inL).all id
  | _ => false
theorem kt1 : kitB "str" "str" = some true := by decide +kernel
theorem kt2 : kitB "int" "str" = some false := by decide +kernel
theorem kt3 : kitB "bool" "str" = some false := by decide +kernel
theorem kt4 : kitB "NoneType" "str" = some false := by decide +kernel
theorem kt5 : kitB "list" "str" = some false := by decide +kernel
theorem kt6 : kitB "tuple" "str" = some false := by decide +kernel
theorem kt7 : kitB "dict" "str" = some false := by decide +kernel
theorem ki1 : kitB "str" "int" = some false := by decide +kernel
theorem ki2 : kitB "int" "int" = some true := by decide +kernel
theorem ki3 : kitB "bool" "int" = some true := by decide +kernel
theorem ki4 : kitB "NoneType" "int" = some false := by decide +kernel
theorem ki5 : kitB "list" "int" = some false := by decide +kernel
theorem ki6 : kitB "tuple" "int" = some false := by decide +kernel
theorem ki7 : kitB "dict" "int" = some false := by decide +kernel
theorem kb2 : kitB "int" "bool" = some false := by decide +kernel
theorem kb3 : kitB "bool" "bool" = some true := by decide +kernel
theorem kp1 : kitB "str" "tuple" = some false := by decide +kernel
theorem kp2 : kitB "int" "tuple" = some false := by decide +kernel
theorem kp3 : kitB "bool" "tuple" = some false := by decide +kernel
theorem kp4 : kitB "NoneType" "tuple" = some false := by decide +kernel
theorem kp5 : kitB "list" "tuple" = some false := by decide +kernel
theorem kp6 : kitB "tuple" "tuple" = some true := by decide +kernel
theorem kp7 : kitB "dict" "tuple" = some false := by decide +kernel
theorem name_ok {n : Nat} {d : D} (h : Th n d) : F_is_name [.dt d] = .ok (.dt (.bl (nm d))) [.dt d] := by
  cases n with
  | zero => exact h.elim
  | succ n =>
    cases d with
    | str x =>
      have hx : Wd 30 x := h
      have l := hx.len
      have l2 : x.length ≤ 16777216 := by omega
      have e := lcIn_ok (x := x) (by rw [q_size]; exact l2)
      have e' : x_is_name_1 ⟨[some (.dt (.str x)), none], [.dt (.str x)]⟩ = _ := e
      by_cases h1 : 1 ≤ x.length
      · by_cases h8 : x.length ≤ 8
        · have z1 : (1 : Int) ≤ x.length := by omega
          have z8 : (x.length : Int) ≤ 8 := by omega
          simp [F_is_name, q_run, b_is_name, gIsi, tyD, kt1, gLen, l2, gLe, z1, z8, e', gAll, blsOf_map, nm, h1, h8, q_size]
        · have z1 : (1 : Int) ≤ x.length := by omega
          have z8 : ¬ (x.length : Int) ≤ 8 := by omega
          simp [F_is_name, q_run, b_is_name, gIsi, tyD, kt1, gLen, l2, gLe, z1, z8, nm, h8, q_size]
      · have z1 : ¬ (1 : Int) ≤ x.length := by omega
        simp [F_is_name, q_run, b_is_name, gIsi, tyD, kt1, gLen, l2, gLe, z1, nm, h1, q_size]
    | ty _ => exact h.elim
    | scr _ => exact h.elim
    | cls _ => exact h.elim
    | exc _ _ _ => exact h.elim
    | obj _ _ => exact h.elim
    | _ => simp [F_is_name, q_run, b_is_name, gIsi, tyD, kt2, kt3, kt4, kt5, kt6, kt7, nm]
theorem word_eq : F__law_is_word = F_is_name := rfl
theorem name_own {l : List D} : F_is_name [.own (.lst l)] = .ok (.dt (.bl false)) [.own (.lst l)] := by
  simp [F_is_name, q_run, b_is_name, gIsi, tyD, kt5]
/-- an index -/
def ixB : D → Bool
  | .int i => decide (0 ≤ i ∧ i ≤ 2)
  | _ => false
theorem index_ok {n : Nat} {d : D} (h : Th n d) : F_is_index [.dt d] = .ok (.dt (.bl (ixB d))) [.dt d] := by
  cases n with
  | zero => exact h.elim
  | succ n =>
    cases d with
    | int i =>
      by_cases h0 : 0 ≤ i
      · by_cases h3 : i < 3
        · have h2 : i ≤ 2 := by omega
          simp [F_is_index, q_run, b_is_index, F_is_integer, b_is_integer, gIsi, tyD, ki2, kb2, gLe, gLt, h0, h3, h2, ixB]
        · have h2 : ¬ i ≤ 2 := by omega
          simp [F_is_index, q_run, b_is_index, F_is_integer, b_is_integer, gIsi, tyD, ki2, kb2, gLe, gLt, h0, h3, h2, ixB]
      · simp [F_is_index, q_run, b_is_index, F_is_integer, b_is_integer, gIsi, tyD, ki2, kb2, gLe, gLt, h0, ixB]
    | ty _ => exact h.elim
    | scr _ => exact h.elim
    | cls _ => exact h.elim
    | exc _ _ _ => exact h.elim
    | obj _ _ => exact h.elim
    | _ => simp [F_is_index, q_run, b_is_index, F_is_integer, b_is_integer, gIsi, tyD, ki1, ki2, ki3, ki4, ki5, ki6, ki7, kb3, ixB]
/-- a tree: a shape (b false), a pattern (b true) -/
def tr : Nat → Bool → D → Bool
  | 0, _, _ => false
  | n + 1, b, d => match d with
    | .tup (x :: xs) => decide (1 ≤ xs.length ∧ xs.length ≤ 3) && (nm x && xs.all (tr n b))
    | .tup [] => false
    | d => nm d || (b && ixB d)
theorem cut1 {x : D} {xs : List D} : cutD (x :: xs) (some 1) none = xs := by
  have e : HT.sIx (x :: xs).length 0 (some 1) = 1 := by
    have := HT.sIx_nat (x :: xs).length 0 1
    rw [show ((1 : Nat) : Int) = 1 from rfl] at this
    rw [this]
    simp
  unfold cutD
  rw [e, HT.sIx_none]
  simp
theorem tree_ok : ∀ (n : Nat) (b : Bool) (d : D), Th n d → F_is_tree n [.dt d, .dt (.bl b)] = .ok (.dt (.bl (tr n b d))) [.dt d, .dt (.bl b)]
  | 0, _, _, h => h.elim
  | n + 1, b, d, h => by
    have e1 := name_ok h
    have e2 := index_ok h
    cases d with
    | ty _ => exact h.elim
    | scr _ => exact h.elim
    | cls _ => exact h.elim
    | exc _ _ _ => exact h.elim
    | obj _ _ => exact h.elim
    | tup l =>
      obtain ⟨hl, hp⟩ : l.length ≤ 1000 ∧ ∀ x ∈ l, Th n x := h
      cases l with
      | nil => simp [F_is_tree, q_run, b_is_tree, gIsi, tyD, kp6, gLen, gLe, gAdd2, gAdd, tr]
      | cons x xs =>
        have e3 := name_ok (hp x List.mem_cons_self)
        have hi : (M.bind (cSl gSl2 (cVar 0) (M.bind (cC (.int 1)) W.asI) (M.ret none)) W.items) ⟨[some (.dt (.tup (x :: xs))), some (.dt (.bl b)), none], [.dt (.tup (x :: xs)), .dt (.bl b)]⟩ = .ok xs ⟨[some (.dt (.tup (x :: xs))), some (.dt (.bl b)), none], [.dt (.tup (x :: xs)), .dt (.bl b)]⟩ := by
          simp [gSl2, cut1]
        have hs : xs.length ≤ sizeLine := by rw [q_size]; rw [List.length_cons] at hl; omega
        have e4 := cLc_map (own := [2]) (T := gN 2) (fe := cCall (F_is_tree n) (cCons (cVar 2) (cCons (cVar 1) (M.ret [])))) hi rfl (fun d => .bl (tr n b d)) hs fun d hd => by
          have ih := tree_ok n b d (hp d (List.mem_cons_of_mem _ hd))
          refine ⟨⟨[some (.dt (.tup (x :: xs))), some (.dt (.bl b)), some (.dt d)], [.dt (.tup (x :: xs)), .dt (.bl b)]⟩, .dt (.bl (tr n b d)), ⟨[some (.dt (.tup (x :: xs))), some (.dt (.bl b)), some (.dt d)], [.dt (.tup (x :: xs)), .dt (.bl b)]⟩, ⟨[some (.dt (.tup (x :: xs))), some (.dt (.bl b)), some (.dt d)], [.dt (.tup (x :: xs)), .dt (.bl b)]⟩, rfl, ?_, rfl, rfl⟩
          simp [ih]
        have e5 : x_is_tree_1 (F_is_tree n) ⟨[some (.dt (.tup (x :: xs))), some (.dt (.bl b)), none], [.dt (.tup (x :: xs)), .dt (.bl b)]⟩ = .ok (.fresh (.lst (xs.map fun d => .bl (tr n b d)))) ⟨[some (.dt (.tup (x :: xs))), some (.dt (.bl b)), none], [.dt (.tup (x :: xs)), .dt (.bl b)]⟩ := by
          refine e4.trans ?_
          simp
        have hix : gIx1 (.tup (x :: xs)) (.int 0) = some (.dt x) := by simp [gIx1, atI, ixN]
        by_cases h2 : 1 ≤ xs.length
        · by_cases h4 : xs.length ≤ 3
          · have z2 : (2 : Int) ≤ (xs.length : Int) + 1 := by omega
            have z4 : (xs.length : Int) + 1 ≤ 4 := by omega
            cases hn : nm x with
            | true => rw [hn] at e3; simp [F_is_tree, q_run, b_is_tree, gIsi, tyD, kp6, gLen, gLe, gAdd2, gAdd, z2, z4, hix, e3, e5, gAll, blsOf_map, tr, h2, h4, hn]
            | false => rw [hn] at e3; simp [F_is_tree, q_run, b_is_tree, gIsi, tyD, kp6, gLen, gLe, gAdd2, gAdd, z2, z4, hix, e3, tr, h2, h4, hn]
          · have z2 : (2 : Int) ≤ (xs.length : Int) + 1 := by omega
            have z4 : ¬ (xs.length : Int) + 1 ≤ 4 := by omega
            simp [F_is_tree, q_run, b_is_tree, gIsi, tyD, kp6, gLen, gLe, gAdd2, gAdd, z2, z4, tr, h4]
        · have z2 : ¬ (2 : Int) ≤ (xs.length : Int) + 1 := by omega
          simp [F_is_tree, q_run, b_is_tree, gIsi, tyD, kp6, gLen, gLe, gAdd2, gAdd, z2, tr, h2]
    | str x =>
      cases hn : nm (.str x) with
      | true => rw [hn] at e1; cases hb : b <;> simp [F_is_tree, q_run, b_is_tree, gIsi, tyD, kp1, e1, tr, hn]
      | false => rw [hn] at e1; cases hb : b <;> simp [F_is_tree, q_run, b_is_tree, gIsi, tyD, kp1, e1, e2, tr, hn, ixB]
    | _ =>
      cases hb : b <;> simp [F_is_tree, q_run, b_is_tree, gIsi, tyD, kp2, kp3, kp4, kp5, kp7, e1, e2, tr, nm, ixB]
theorem tree_own {n : Nat} {b : Bool} {l : List D} : F_is_tree (n + 1) [.own (.lst l), .dt (.bl b)] = .ok (.dt (.bl false)) [.own (.lst l), .dt (.bl b)] := by
  have e1 := name_own (l := l)
  cases b <;> simp [F_is_tree, q_run, b_is_tree, gIsi, tyD, kp5, e1, F_is_index, b_is_index, F_is_integer, b_is_integer, ki5]
/-! ### the law's own judge -/
theorem lawtree_ok : ∀ (n : Nat) (b : Bool) (d : D), Th n d → F__law_is_tree n [.dt d, .dt (.bl b)] = .ok (.dt (.bl (tr n b d))) [.dt d, .dt (.bl b)]
  | 0, _, _, h => h.elim
  | n + 1, b, d, h => by
    have e1 := name_ok h
    rw [← word_eq] at e1
    cases d with
    | ty _ => exact h.elim
    | scr _ => exact h.elim
    | cls _ => exact h.elim
    | exc _ _ _ => exact h.elim
    | obj _ _ => exact h.elim
    | tup l =>
      obtain ⟨hl, hp⟩ : l.length ≤ 1000 ∧ ∀ x ∈ l, Th n x := h
      cases l with
      | nil => simp [F__law_is_tree, q_run, b__law_is_tree, gIsi, tyD, kp6, ki6, gLen, gLe, tr]
      | cons x xs =>
        have e3 := name_ok (hp x List.mem_cons_self)
        rw [← word_eq] at e3
        have hi : (M.bind (cSl gSl2 (cVar 0) (M.bind (cC (.int 1)) W.asI) (M.ret none)) W.items) ⟨[some (.dt (.tup (x :: xs))), some (.dt (.bl b)), none], [.dt (.tup (x :: xs)), .dt (.bl b)]⟩ = .ok xs ⟨[some (.dt (.tup (x :: xs))), some (.dt (.bl b)), none], [.dt (.tup (x :: xs)), .dt (.bl b)]⟩ := by
          simp [gSl2, cut1]
        have hs : xs.length ≤ sizeLine := by rw [q_size]; rw [List.length_cons] at hl; omega
        have e4 := cLc_map (own := [2]) (T := gN 2) (fe := cCall (F__law_is_tree n) (cCons (cVar 2) (cCons (cVar 1) (M.ret [])))) hi rfl (fun d => .bl (tr n b d)) hs fun d hd => by
          have ih := lawtree_ok n b d (hp d (List.mem_cons_of_mem _ hd))
          refine ⟨⟨[some (.dt (.tup (x :: xs))), some (.dt (.bl b)), some (.dt d)], [.dt (.tup (x :: xs)), .dt (.bl b)]⟩, .dt (.bl (tr n b d)), ⟨[some (.dt (.tup (x :: xs))), some (.dt (.bl b)), some (.dt d)], [.dt (.tup (x :: xs)), .dt (.bl b)]⟩, ⟨[some (.dt (.tup (x :: xs))), some (.dt (.bl b)), some (.dt d)], [.dt (.tup (x :: xs)), .dt (.bl b)]⟩, rfl, ?_, rfl, rfl⟩
          simp [ih]
        have e5 : x__law_is_tree_1 (F__law_is_tree n) ⟨[some (.dt (.tup (x :: xs))), some (.dt (.bl b)), none], [.dt (.tup (x :: xs)), .dt (.bl b)]⟩ = .ok (.fresh (.lst (xs.map fun d => .bl (tr n b d)))) ⟨[some (.dt (.tup (x :: xs))), some (.dt (.bl b)), none], [.dt (.tup (x :: xs)), .dt (.bl b)]⟩ := by
          refine e4.trans ?_
          simp
        have hix : gIx1 (.tup (x :: xs)) (.int 0) = some (.dt x) := by simp [gIx1, atI, ixN]
        by_cases h2 : 1 ≤ xs.length
        · by_cases h4 : xs.length ≤ 3
          · have z2 : (2 : Int) ≤ (xs.length : Int) + 1 := by omega
            have z4 : (xs.length : Int) + 1 ≤ 4 := by omega
            cases hn : nm x with
            | true => rw [hn] at e3; simp [F__law_is_tree, q_run, b__law_is_tree, gIsi, tyD, kp6, ki6, gLen, gLe, z2, z4, hix, e3, e5, gAll, blsOf_map, tr, h2, h4, hn]
            | false => rw [hn] at e3; simp [F__law_is_tree, q_run, b__law_is_tree, gIsi, tyD, kp6, ki6, gLen, gLe, z2, z4, hix, e3, tr, h2, h4, hn]
          · have z2 : (2 : Int) ≤ (xs.length : Int) + 1 := by omega
            have z4 : ¬ (xs.length : Int) + 1 ≤ 4 := by omega
            simp [F__law_is_tree, q_run, b__law_is_tree, gIsi, tyD, kp6, ki6, gLen, gLe, z2, z4, tr, h4]
        · have z2 : ¬ (2 : Int) ≤ (xs.length : Int) + 1 := by omega
          simp [F__law_is_tree, q_run, b__law_is_tree, gIsi, tyD, kp6, ki6, gLen, gLe, z2, tr, h2]
    | str x => simp [F__law_is_tree, q_run, b__law_is_tree, gIsi, tyD, kp1, ki1, e1, tr, ixB]
    | bl k => cases hb : b <;> simp [F__law_is_tree, q_run, b__law_is_tree, gIsi, tyD, ki3, kb3, tr, nm, ixB]
    | int i =>
      cases hb : b with
      | false => simp [F__law_is_tree, q_run, b__law_is_tree, gIsi, tyD, ki2, kb2, tr, nm, ixB]
      | true =>
        by_cases h0 : 0 ≤ i
        · simp [F__law_is_tree, q_run, b__law_is_tree, gIsi, tyD, ki2, kb2, gLe, h0, tr, nm, ixB]
        · simp [F__law_is_tree, q_run, b__law_is_tree, gIsi, tyD, ki2, kb2, gLe, h0, tr, nm, ixB]
    | _ => simp [F__law_is_tree, q_run, b__law_is_tree, gIsi, tyD, ki4, ki5, ki7, kp4, kp5, kp7, e1, tr, nm, ixB]
theorem lawtree_own {n : Nat} {b : Bool} {l : List D} : F__law_is_tree (n + 1) [.own (.lst l), .dt (.bl b)] = .ok (.dt (.bl false)) [.own (.lst l), .dt (.bl b)] := by
  have e1 := name_own (l := l)
  rw [← word_eq] at e1
  simp [F__law_is_tree, q_run, b__law_is_tree, gIsi, tyD, kp5, ki5, e1]
end Lw

set_option Elab.async false
set_option maxRecDepth 100000
set_option maxHeartbeats 2000000
namespace Lw
open PySem L2 Lc
theorem cutr {l : List D} : cutD l (some 1) none = l.drop 1 := by
  cases l with
  | nil => rfl
  | cons x xs => rw [cut1]; rfl
theorem intsOf_map {α : Type} {f : α → Int} : ∀ l : List α, intsOf (l.map fun c => D.int (f c)) = some (l.map f)
  | [] => rfl
  | a :: l => by simp [intsOf, intsOf_map l]
/-- how many names -/
def pts : Nat → D → Int
  | 0, _ => 0
  | n + 1, .tup l => 1 + ((l.drop 1).map (pts n)).sum
  | _ + 1, _ => 1
/-- how many levels -/
def dps : Nat → D → Int
  | 0, _ => 0
  | n + 1, .tup l => 1 + maxI ((l.drop 1).map (dps n))
  | _ + 1, _ => 1
/-- the comprehension over the parts -/
theorem comp_ok {l : List D} {self : Fn} {G : D → Int} (hl : l.length ≤ 1000) (h : ∀ d ∈ l, self [.dt d] = .ok (.dt (.int (G d))) [.dt d]) :
    cLc (M.bind (cSl gSl2 (cVar 0) (M.bind (cC (.int 1)) W.asI) (M.ret none)) W.items) [1] (gN 1) (M.ret true) (cCall self (cCons (cVar 1) (M.ret []))) ⟨[some (.dt (.tup l)), none], [.dt (.tup l)]⟩ = .ok (.fresh (.lst ((l.drop 1).map fun d => .int (G d)))) ⟨[some (.dt (.tup l)), none], [.dt (.tup l)]⟩ := by
  have hi : (M.bind (cSl gSl2 (cVar 0) (M.bind (cC (.int 1)) W.asI) (M.ret none)) W.items) ⟨[some (.dt (.tup l)), none], [.dt (.tup l)]⟩ = .ok (l.drop 1) ⟨[some (.dt (.tup l)), none], [.dt (.tup l)]⟩ := by
    simp [gSl2, cutr]
  have hs : (l.drop 1).length ≤ sizeLine := by rw [q_size, List.length_drop]; omega
  refine (cLc_map (own := [1]) (T := gN 1) (fe := cCall self (cCons (cVar 1) (M.ret []))) hi rfl (fun d => .int (G d)) hs fun d hd => ?_).trans (by simp)
  have ih := h d (List.mem_of_mem_drop hd)
  refine ⟨⟨[some (.dt (.tup l)), some (.dt d)], [.dt (.tup l)]⟩, .dt (.int (G d)), ⟨[some (.dt (.tup l)), some (.dt d)], [.dt (.tup l)]⟩, ⟨[some (.dt (.tup l)), some (.dt d)], [.dt (.tup l)]⟩, rfl, ?_, rfl, rfl⟩
  simp [ih]
theorem names_ok : ∀ (n : Nat) (d : D), Th n d → F_names_in n [.dt d] = .ok (.dt (.int (pts n d))) [.dt d] ∧ F__law_parts n [.dt d] = .ok (.dt (.int (pts n d))) [.dt d]
  | 0, _, h => h.elim
  | n + 1, d, h => by
    cases d with
    | ty _ => exact h.elim
    | scr _ => exact h.elim
    | cls _ => exact h.elim
    | exc _ _ _ => exact h.elim
    | obj _ _ => exact h.elim
    | tup l =>
      obtain ⟨hl, hp⟩ : l.length ≤ 1000 ∧ ∀ x ∈ l, Th n x := h
      have c1 := comp_ok (self := F_names_in n) (G := pts n) hl fun d hd => (names_ok n d (hp d hd)).1
      have c2 := comp_ok (self := F__law_parts n) (G := pts n) hl fun d hd => (names_ok n d (hp d hd)).2
      have e1 : x_names_in_1 (F_names_in n) ⟨[some (.dt (.tup l)), none], [.dt (.tup l)]⟩ = _ := c1
      have e2 : x__law_parts_1 (F__law_parts n) ⟨[some (.dt (.tup l)), none], [.dt (.tup l)]⟩ = _ := c2
      have hpt : pts (n + 1) (.tup l) = 1 + ((l.drop 1).map (pts n)).sum := rfl
      rw [hpt]
      generalize l.drop 1 = ps at e1 e2
      constructor
      · simp [F_names_in, q_run, b_names_in, gIsi, tyD, kp6, e1, gSum, intsOf_map, gAdd2, gAdd]
      · simp [F__law_parts, q_run, b__law_parts, gIsi, tyD, kp6, e2, gSum, intsOf_map, gAdd2, gAdd]
    | _ => constructor <;> simp [F_names_in, F__law_parts, q_run, b_names_in, b__law_parts, gIsi, tyD, kp1, kp2, kp3, kp4, kp5, kp7, pts]
theorem tr_parts {n : Nat} {l : List D} (h : tr (n + 1) false (.tup l) = true) : l.drop 1 ≠ [] ∧ ∀ d ∈ l.drop 1, tr n false d = true := by
  cases l with
  | nil => simp [tr] at h
  | cons x xs =>
    simp only [tr, Bool.and_eq_true, decide_eq_true_eq, List.all_eq_true] at h
    exact ⟨fun z => by simp at z; subst z; simp at h, fun d hd => h.2.2 d hd⟩
theorem comp_ok2 {l : List D} {self : Fn} {G : D → Int} (hl : l.length ≤ 1000) (h : ∀ d ∈ l.drop 1, self [.dt d] = .ok (.dt (.int (G d))) [.dt d]) :
    cLc (M.bind (cSl gSl2 (cVar 0) (M.bind (cC (.int 1)) W.asI) (M.ret none)) W.items) [1] (gN 1) (M.ret true) (cCall self (cCons (cVar 1) (M.ret []))) ⟨[some (.dt (.tup l)), none], [.dt (.tup l)]⟩ = .ok (.fresh (.lst ((l.drop 1).map fun d => .int (G d)))) ⟨[some (.dt (.tup l)), none], [.dt (.tup l)]⟩ := by
  have hi : (M.bind (cSl gSl2 (cVar 0) (M.bind (cC (.int 1)) W.asI) (M.ret none)) W.items) ⟨[some (.dt (.tup l)), none], [.dt (.tup l)]⟩ = .ok (l.drop 1) ⟨[some (.dt (.tup l)), none], [.dt (.tup l)]⟩ := by
    simp [gSl2, cutr]
  have hs : (l.drop 1).length ≤ sizeLine := by rw [q_size, List.length_drop]; omega
  refine (cLc_map (own := [1]) (T := gN 1) (fe := cCall self (cCons (cVar 1) (M.ret []))) hi rfl (fun d => .int (G d)) hs fun d hd => ?_).trans (by simp)
  have ih := h d hd
  refine ⟨⟨[some (.dt (.tup l)), some (.dt d)], [.dt (.tup l)]⟩, .dt (.int (G d)), ⟨[some (.dt (.tup l)), some (.dt d)], [.dt (.tup l)]⟩, ⟨[some (.dt (.tup l)), some (.dt d)], [.dt (.tup l)]⟩, rfl, ?_, rfl, rfl⟩
  simp [ih]
theorem levels_ok : ∀ (n : Nat) (d : D), Th n d → tr n false d = true → F_levels_in n [.dt d] = .ok (.dt (.int (dps n d))) [.dt d] ∧ F__law_depth n [.dt d] = .ok (.dt (.int (dps n d))) [.dt d]
  | 0, _, h, _ => h.elim
  | n + 1, d, h, ht => by
    cases d with
    | ty _ => exact h.elim
    | scr _ => exact h.elim
    | cls _ => exact h.elim
    | exc _ _ _ => exact h.elim
    | obj _ _ => exact h.elim
    | tup l =>
      obtain ⟨hl, hp⟩ : l.length ≤ 1000 ∧ ∀ x ∈ l, Th n x := h
      obtain ⟨ne, hts⟩ := tr_parts ht
      have c1 := comp_ok2 (self := F_levels_in n) (G := dps n) hl fun d hd => (levels_ok n d (hp d (List.mem_of_mem_drop hd)) (hts d hd)).1
      have c2 := comp_ok2 (self := F__law_depth n) (G := dps n) hl fun d hd => (levels_ok n d (hp d (List.mem_of_mem_drop hd)) (hts d hd)).2
      have e1 : x_levels_in_1 (F_levels_in n) ⟨[some (.dt (.tup l)), none], [.dt (.tup l)]⟩ = _ := c1
      have e2 : x__law_depth_1 (F__law_depth n) ⟨[some (.dt (.tup l)), none], [.dt (.tup l)]⟩ = _ := c2
      have hpt : dps (n + 1) (.tup l) = 1 + maxI ((l.drop 1).map (dps n)) := rfl
      rw [hpt]
      clear hts c1 c2
      generalize l.drop 1 = ps at e1 e2 ne
      have ne2 : ¬ ps.map (dps n) = [] := by simpa using ne
      have eg : gMaxL [.lst (ps.map fun d => .int (dps n d))] = some (.dt (.int (maxI (ps.map (dps n))))) := by
        simp only [gMaxL, intsOf_map, Option.bind_some, if_neg ne2, q_iD]
      constructor
      · simp [F_levels_in, q_run, b_levels_in, gIsi, tyD, kp6, e1, eg, gAdd2, gAdd]
      · simp [F__law_depth, q_run, b__law_depth, gIsi, tyD, kp6, e2, eg, gAdd2, gAdd]
    | _ => constructor <;> simp [F_levels_in, F__law_depth, q_run, b_levels_in, b__law_depth, gIsi, tyD, kp1, kp2, kp3, kp4, kp5, kp7, dps]
theorem shape_ok {d : D} (h : Th 40 d) : F_is_shape [.dt d] = .ok (.dt (.bl (tr 40 false d))) [.dt d] := by
  have e := tree_ok 40 false d h
  simp [F_is_shape, q_run, b_is_shape, e]
theorem pattern_ok {d : D} (h : Th 40 d) : F_is_pattern [.dt d] = .ok (.dt (.bl (tr 40 true d))) [.dt d] := by
  have e := tree_ok 40 true d h
  simp [F_is_pattern, q_run, b_is_pattern, e]
theorem parts_yes {d : D} (h : Th 40 d) (ht : tr 40 false d = true) : F_parts_of [.dt d] = .ok (.dt (.int (pts 40 d))) [.dt d] ∧ F_depth_of [.dt d] = .ok (.dt (.int (dps 40 d))) [.dt d] := by
  have e := shape_ok h
  rw [ht] at e
  have e1 := (names_ok 40 d h).1
  have e2 := (levels_ok 40 d h ht).1
  constructor
  · simp [F_parts_of, q_run, b_parts_of, F_require_shape, b_require_shape, e, e1]
  · simp [F_depth_of, q_run, b_depth_of, F_require_shape, b_require_shape, e, e2]
theorem parts_no {d : D} (h : Th 40 d) (ht : tr 40 false d = false) : F_parts_of [.dt d] = .exc ⟨"InvalidShape", [("value", d)]⟩ [.dt d] ∧ F_depth_of [.dt d] = .exc ⟨"InvalidShape", [("value", d)]⟩ [.dt d] := by
  have e := shape_ok h
  rw [ht] at e
  constructor
  · simp [F_parts_of, q_run, b_parts_of, F_require_shape, b_require_shape, e, cRaise]
  · simp [F_depth_of, q_run, b_depth_of, F_require_shape, b_require_shape, e, cRaise]
theorem collapse_const {R : Res Fl} : collapse (fun _ _ => R) = R := collapse_eq fun _ _ => rfl
theorem q_try {body : M Fl} {c : Str → Option Bool} {i : Nat} {suite : Addr → Addr → Ex → M Fl} {r : Rho} : cTry body c i suite r = (match body r with
  | .exc x r1 => match c x.cls with
    | some true => if i < r1.loc.length then collapse fun a dd => clearI i (suite a dd x (r1.put i (.dt (.exc a dd x.fs)))) else .fail
    | some false => .exc x r1
    | none => .fail
  | res => res) := rfl
theorem cat0 : catOf catT (.c "InvalidShape") "InvalidShape" = some true := by decide +kernel
theorem isa1 : isaOf isaT "InvalidShape" (.cls "InvalidCount") = some false := by decide +kernel
theorem isa2 : isaOf isaT "InvalidShape" (.cls "InvalidPattern") = some false := by decide +kernel
theorem isa3 : isaOf isaT "InvalidShape" (.cls "InvalidText") = some false := by decide +kernel
theorem isa4 : isaOf isaT "InvalidShape" (.ty "LookupError") = some false := by decide +kernel
theorem isa5 : isaOf isaT "InvalidShape" (.cls "CopyError") = some true := by decide +kernel
theorem isa6 : isaOf isaT "InvalidShape" (.ty "ValueError") = some true := by decide +kernel
theorem isaD1 : isaD (isaOf isaT "InvalidShape") (.tup [.cls "InvalidCount", .cls "InvalidPattern", .cls "InvalidText", .ty "LookupError"]) = some false := by
  simp only [isaD, isaD.isaL, isa1, isa2, isa3, isa4]
theorem isaD2 : isaD (isaOf isaT "InvalidShape") (.cls "CopyError") = some true := isa5
theorem isaD3 : isaD (isaOf isaT "InvalidShape") (.ty "ValueError") = some true := isa6
theorem told_no {d : D} {k : Int} {S : Str} (h : Th 40 d) (ht : tr 40 false d = false) (hS : gRepr [.lst [.str "refused", d, .bl true]] = some (.dt (.str S))) : F__law_told [.dt (.int k), .dt d] = .ok (.dt (.str S)) [.dt (.int k), .dt d] := by
  obtain ⟨e1, e2⟩ := parts_no h ht
  have lk : List.lookup (Str.ofString "value") [(Str.ofString "value", d)] = some d := by simp [List.lookup_cons]
  by_cases hk : k = 0
  · subst hk
    simp [F__law_told, q_run, b__law_told, q_try, gEq, D.eq, e1, cat0, cIsE, cXf, isaD1, isaD2, isaD3, lk, clearI, Rho.clr, collapse_const, hS, q_size]
  · have hk' : (k == 0) = false := by simpa using hk
    simp [F__law_told, q_run, b__law_told, q_try, gEq, D.eq, hk', hk, e2, cat0, cIsE, cXf, isaD1, isaD2, isaD3, lk, clearI, Rho.clr, collapse_const, hS, q_size]
end Lw

set_option Elab.async false
set_option maxRecDepth 100000
set_option maxHeartbeats 2000000
namespace Lw
open PySem L2 Lc
theorem told_yes {d : D} {k : Int} {S T : Str} (h : Th 40 d) (ht : tr 40 false d = true) (hS : gRepr [.lst [.int (pts 40 d)]] = some (.dt (.str S))) (hT : gRepr [.lst [.int (dps 40 d)]] = some (.dt (.str T))) : F__law_told [.dt (.int k), .dt d] = .ok (.dt (.str (if k = 0 then S else T))) [.dt (.int k), .dt d] := by
  obtain ⟨e1, e2⟩ := parts_yes h ht
  by_cases hk : k = 0
  · subst hk
    simp [F__law_told, q_run, b__law_told, q_try, gEq, D.eq, e1, hS, q_size]
  · have hk' : (k == 0) = false := by simpa using hk
    simp [F__law_told, q_run, b__law_told, q_try, gEq, D.eq, hk', hk, e2, hT, q_size]
theorem ne_self (x : Str) : gNe (.str x) (.str x) = some (.dt (.bl false)) := by simp [gNe, D.eq]
theorem eqv_two (a b : Str) : (D.lst [.str a, .str b]).py.eqv (D.lst [.str a, .str b]).py = true := by
  simp [D.py, D.pys, PyData.eqv, PyData.eqvAll]
theorem ne_two (a b : Str) (ha : OkS a) (hb : OkS b) : gNe (.lst [.str a, .str b]) (.lst [.str a, .str b]) = some (.dt (.bl false)) := by
  have h1 : (D.lst [.str a, .str b]).deepOk = true := by simp [D.deepOk, D.flat, D.flats, D.py, D.pys, SeqAt.shaped, PyData.canLay0, PyData.canLayAll0, PyData.depth, PyData.depthAll, ok_strOk ha, ok_strOk hb]
  simp [gNe, D.eq, h1, eqv_two]
theorem rok2 (a b : Bool) : D.rok (.lst [.bl a, .bl b]) = true := by
  cases a <;> cases b <;> decide +kernel
theorem repr_some {d : D} (h : d.rok = true) : ∃ S, gRepr [d] = some (.dt (.str S)) := ⟨d.shown, by simp [gRepr, h]⟩
theorem repr_ok {d : D} (h : d.rok = true) (k : okP d.py) : ∃ S, gRepr [d] = some (.dt (.str S)) ∧ OkS S := ⟨d.shown, by simp [gRepr, h], shown_ok _ k⟩
/-- what the two calls tell -/
def Told (d : D) (A0 A1 : Str) : Prop := F__law_told [.dt (.int 0), .dt d] = .ok (.dt (.str A0)) [.dt (.int 0), .dt d] ∧ F__law_told [.dt (.int 1), .dt d] = .ok (.dt (.str A1)) [.dt (.int 1), .dt d]
def pick (A0 A1 : Str) : D → D
  | .int i => .str (if i = 0 then A0 else A1)
  | _ => .non
theorem comp_told {d : D} {A0 A1 : Str} (h : Told d A0 A1) {x : Cn} {t S : D} {p : Bool} {s0 : Sl} (h0 : s0 = .dt d ∨ s0 = .bor 0) :
    x__law_right_1 ⟨[some s0, some (.own x), some (.dt t), some (.dt S), some (.dt (.bl p)), none], [.dt d]⟩ = .ok (.fresh (.lst [.str A0, .str A1])) ⟨[some s0, some (.own x), some (.dt t), some (.dt S), some (.dt (.bl p)), none], [.dt d]⟩ := by
  obtain ⟨e0, e1⟩ := h
  have hi : (M.bind (cCons (cC (.int 2)) (M.ret [])) W.rng1) ⟨[some s0, some (.own x), some (.dt t), some (.dt S), some (.dt (.bl p)), none], [.dt d]⟩ = .ok [.int 0, .int 1] ⟨[some s0, some (.own x), some (.dt t), some (.dt S), some (.dt (.bl p)), none], [.dt d]⟩ := by
    simp [rngD, List.range_succ]
  have e := cLc_map (own := [5]) (T := gN 5) (fe := cCall F__law_told (cCons (cVar 5) (cCons (cVar 0) (M.ret [])))) hi rfl (pick A0 A1) (by rw [q_size]; decide) fun q hq => by
    have hq2 : q = .int 0 ∨ q = .int 1 := by simpa using hq
    refine ⟨⟨[some s0, some (.own x), some (.dt t), some (.dt S), some (.dt (.bl p)), some (.dt q)], [.dt d]⟩, .dt (pick A0 A1 q), ⟨[some s0, some (.own x), some (.dt t), some (.dt S), some (.dt (.bl p)), some (.dt q)], [.dt d]⟩, ⟨[some s0, some (.own x), some (.dt t), some (.dt S), some (.dt (.bl p)), some (.dt q)], [.dt d]⟩, rfl, ?_, rfl, rfl⟩
    rcases hq2 with rfl | rfl <;> rcases h0 with rfl | rfl <;> simp [e0, e1, pick]
  refine e.trans ?_
  simp [pick]
/-- all that is asked of a thing -/
structure Ask (d : D) : Prop where
  th : Th 40 d
  rok : d.rok = true
  okc : okP d.py
  ref : D.rok (.lst [.str "refused", d, .bl true]) = true
  pt : D.rok (.lst [.int (pts 40 d)]) = true
  dp : D.rok (.lst [.int (dps 40 d)]) = true
theorem turn_ok {d : D} (h : Ask d) {A0 A1 S : Str} (o0 : OkS A0) (o1 : OkS A1) (ht : Told d A0 A1) (hS : gRepr [d] = some (.dt (.str S))) {t : D} {s0 : Sl} (h0 : s0 = .dt d ∨ s0 = .bor 0) :
    x__law_right_2 ⟨[some s0, some (.own (.lst [.str A0, .str A1])), some (.dt t), some (.dt (.str S)), some (.dt (.bl (tr 40 false d))), none], [.dt d]⟩ = .ok .next ⟨[some s0, some (.own (.lst [.str A0, .str A1])), some (.dt t), some (.dt (.str S)), some (.dt (.bl (tr 40 false d))), none], [.dt d]⟩ := by
  have e1 := shape_ok h.th
  have e2 := pattern_ok h.th
  have e3 := lawtree_ok 40 true d h.th
  have e4 := comp_told ht (x := .lst [.str A0, .str A1]) (t := t) (S := .str S) (p := tr 40 false d) h0
  obtain ⟨U, hU⟩ := repr_some (rok2 (tr 40 false d) (tr 40 true d))
  have n1 := ne_self S
  have n2 := ne_self U
  have n3 := ne_two A0 A1 o0 o1
  rcases h0 with rfl | rfl <;> simp [x__law_right_2, e1, e2, e3, e4, hU, hS, n1, n2, n3, q_size]
theorem loop3 {d : D} (h : Ask d) {A0 A1 S : Str} (o0 : OkS A0) (o1 : OkS A1) (ht : Told d A0 A1) (hS : gRepr [d] = some (.dt (.str S))) {s0 : Sl} (h0 : s0 = .dt d ∨ s0 = .bor 0) :
    ∃ r, x__law_right_3 ⟨[some s0, some (.own (.lst [.str A0, .str A1])), none, some (.dt (.str S)), some (.dt (.bl (tr 40 false d))), none], [.dt d]⟩ = .ok .next r ∧ r.bor = [.dt d] := by
  have hi : (M.bind (cCons (cC (.int 2)) (M.ret [])) W.rng1) ⟨[some s0, some (.own (.lst [.str A0, .str A1])), none, some (.dt (.str S)), some (.dt (.bl (tr 40 false d))), none], [.dt d]⟩ = .ok [.int 0, .int 1] ⟨[some s0, some (.own (.lst [.str A0, .str A1])), none, some (.dt (.str S)), some (.dt (.bl (tr 40 false d))), none], [.dt d]⟩ := by
    simp [rngD, List.range_succ]
  obtain ⟨r', e, u, hu⟩ := cFor_inv (T := gN 2) (body := x__law_right_2) hi (fun r => ∃ u, r = ⟨[some s0, some (.own (.lst [.str A0, .str A1])), u, some (.dt (.str S)), some (.dt (.bl (tr 40 false d))), none], [.dt d]⟩) ⟨none, rfl⟩ fun q _ r ⟨u, hr⟩ => by
    subst hr
    exact ⟨_, _, rfl, turn_ok h o0 o1 ht hS h0, _, rfl⟩
  exact ⟨r', e, by rw [hu]⟩
theorem ok_ref {d : D} (h : okP d.py) : okP (D.lst [.str "refused", d, .bl true]).py := by
  simp only [D.py, D.pys, okP, okPs, and_true]
  exact ⟨ok_lit _, h⟩
theorem ok_int {i : Int} : okP (D.lst [.int i]).py := by simp [D.py, D.pys, okP, okPs]
theorem right_dt {d : D} (h : Ask d) : F__law_right [.dt d] = .ok (.dt (.bl true)) [.dt d] := by
  obtain ⟨S, hS⟩ := repr_some h.rok
  obtain ⟨RS, hRS, oR⟩ := repr_ok h.ref (ok_ref h.okc)
  obtain ⟨P0, hP0, oP⟩ := repr_ok h.pt ok_int
  obtain ⟨P1, hP1, oQ⟩ := repr_ok h.dp ok_int
  have e1 := lawtree_ok 40 false d h.th
  have e2 := (names_ok 40 d h.th).2
  cases ht : tr 40 false d with
  | true =>
    have e3 := (levels_ok 40 d h.th ht).2
    have tl : Told d P0 P1 := ⟨by simpa using told_yes (k := 0) h.th ht hP0 hP1, by simpa using told_yes (k := 1) h.th ht hP0 hP1⟩
    obtain ⟨r, e4, hb⟩ := loop3 h oP oQ tl hS (s0 := .dt d) (.inl rfl)
    rw [ht] at e1 e4
    simp [F__law_right, q_run, b__law_right, hS, e1, hRS, gMul2, gMul, gRepL, e2, e3, hP0, hP1, e4, hb, q_size]
  | false =>
    have tl : Told d RS RS := ⟨told_no (k := 0) h.th ht hRS, told_no (k := 1) h.th ht hRS⟩
    obtain ⟨r, e4, hb⟩ := loop3 h oR oR tl hS (s0 := .dt d) (.inl rfl)
    rw [ht] at e1 e4
    simp [F__law_right, q_run, b__law_right, hS, e1, hRS, gMul2, gMul, gRepL, e4, hb, q_size]
theorem right_own {l : List D} (h : Ask (.lst l)) : F__law_right [.own (.lst l)] = .ok (.dt (.bl true)) [.dt (.lst l)] := by
  obtain ⟨S, hS⟩ := repr_some h.rok
  obtain ⟨RS, hRS, oR⟩ := repr_ok h.ref (ok_ref h.okc)
  have e1 := lawtree_own (n := 39) (b := false) (l := l)
  have ht : tr 40 false (.lst l) = false := rfl
  have tl : Told (.lst l) RS RS := ⟨told_no (k := 0) h.th ht hRS, told_no (k := 1) h.th ht hRS⟩
  obtain ⟨r, e4, hb⟩ := loop3 h oR oR tl hS (s0 := .bor 0) (.inr rfl)
  rw [ht] at e4
  simp [F__law_right, q_run, b__law_right, hS, e1, hRS, gMul2, gMul, gRepL, e4, hb, q_size]
end Lw

set_option Elab.async false
set_option maxRecDepth 100000
set_option maxHeartbeats 2000000
namespace Lw
open PySem L2 Lc
mutual
/-- data of at most n levels and size s -/
inductive Gd : Nat → Nat → D → Prop
  | non {n s : Nat} : Gd (n + 1) (s + 1) .non
  | bl {n s : Nat} (b : Bool) : Gd (n + 1) (s + 1) (.bl b)
  | int {n s : Nat} {i : Int} : i.natAbs < 2 ^ 200 → Gd (n + 1) (s + 1) (.int i)
  | str {n s : Nat} {x : Str} : Wd 30 x → Gd (n + 1) (s + 1) (.str x)
  | dct {n s : Nat} : Gd (n + 1) (s + 1) (.dct [])
  | tup {n s : Nat} {l : List D} : GdL n s l → Gd (n + 1) (s + 1) (.tup l)
  | lst {n s : Nat} {l : List D} : GdL n s l → Gd (n + 1) (s + 1) (.lst l)
inductive GdL : Nat → Nat → List D → Prop
  | nil {n s : Nat} : GdL n s []
  | cons {n s1 s2 s : Nat} {d : D} {l : List D} : Gd n s1 d → GdL n s2 l → s1 + s2 ≤ s → GdL n s (d :: l)
end
theorem Gd.pos {n s : Nat} {d : D} (h : Gd n s d) : 1 ≤ s := by
  cases h <;> omega
theorem GdL.len {n s : Nat} {l : List D} (h : GdL n s l) : l.length ≤ s := by
  induction l generalizing s with
  | nil => exact Nat.zero_le _
  | cons d l ih =>
    cases h with
    | cons a b c =>
      have := ih b
      have := a.pos
      rw [List.length_cons]
      omega
mutual
theorem Gd.mono {n s m t : Nat} {d : D} (h : Gd n s d) (hn : n ≤ m) (hs : s ≤ t) : Gd m t d := by
  obtain ⟨m', rfl⟩ : ∃ m', m = m' + 1 := by cases h <;> exact ⟨m - 1, by omega⟩
  obtain ⟨t', rfl⟩ : ∃ t', t = t' + 1 := by cases h <;> exact ⟨t - 1, by omega⟩
  cases h with
  | non => exact .non
  | bl b => exact .bl b
  | int h => exact .int h
  | str h => exact .str h
  | dct => exact .dct
  | tup h => exact .tup (h.mono (by omega) (by omega))
  | lst h => exact .lst (h.mono (by omega) (by omega))
theorem GdL.mono {n s m t : Nat} {l : List D} (h : GdL n s l) (hn : n ≤ m) (hs : s ≤ t) : GdL m t l := by
  cases h with
  | nil => exact .nil
  | cons a b c => exact .cons (a.mono hn (Nat.le_refl _)) (b.mono hn (Nat.le_refl _)) (Nat.le_trans c hs)
end
theorem join_len : ∀ ts : List Str, (Str.join ", " ts).length ≤ (ts.map (·.length)).sum + 2 * ts.length
  | [] => by show (0 : Nat) ≤ _; omega
  | [x] => by simp [Str.join]
  | x :: y :: r => by
    show (x ++ ", " ++ Str.join ", " (y :: r)).length ≤ _
    have := join_len (y :: r)
    have e : (Str.ofString ", ").length = 2 := by decide
    rw [Str.length_append, Str.length_append, e]
    simp only [List.map_cons, List.sum_cons, List.length_cons] at this ⊢
    omega
theorem tup_len (ts : List Str) : (tupleText ts).length ≤ (ts.map (·.length)).sum + 2 * ts.length + 3 := by
  unfold tupleText
  have := join_len ts
  have e : (Str.ofString "(").length = 1 := by decide
  have e2 : (Str.ofString ",)").length = 2 := by decide
  have e3 : (Str.ofString ")").length = 1 := by decide
  rw [Str.length_append, Str.length_append, e]
  split <;> omega
theorem shownAll_len : ∀ l : List PyData, (PyData.shownAll l).length = l.length
  | [] => by rw [PyData.shownAll]; rfl
  | d :: l => by rw [PyData.shownAll, List.length_cons, List.length_cons, shownAll_len l]
theorem pys_len : ∀ l : List D, (D.pys l).length = l.length
  | [] => by rw [D.pys]; rfl
  | d :: l => by rw [D.pys, List.length_cons, List.length_cons, pys_len l]
structure TH (n s : Nat) (d : D) : Prop where
  th : Th n d
  okc : okP d.py
  shw : d.shw = true
  sho : d.py.showable = true
  dep : d.py.depth ≤ n
  len : d.py.shown.length + 10 ≤ 400 * s
mutual
theorem Gd.all : ∀ {n s : Nat} {d : D}, Gd n s d → s ≤ 1000 → TH n s d
  | _, _, _, .non, _ => ⟨trivial, by simp [D.py, okP], by simp [D.shw], by simp [D.py, PyData.showable], by simp [D.py, PyData.depth], by
      have : (PyData.shown .none).length = 4 := by decide +kernel
      rw [D.py, this]; omega⟩
  | _, _, _, .bl b, _ => ⟨trivial, by simp [D.py, okP], by simp [D.shw], by simp [D.py, PyData.showable], by simp [D.py, PyData.depth], by
      have : (PyData.shown (.bool b)).length ≤ 5 := by cases b <;> decide +kernel
      rw [D.py]; omega⟩
  | _, _, _, .int (i := i) h, _ => ⟨h, by simp [D.py, okP], by simp [D.shw], by
      have := log_lt h (by decide)
      simp only [D.py, PyData.showable, decide_eq_true_eq]; omega, by simp [D.py, PyData.depth], by
      have := int_text_length_le (k := 200) (by decide) (log_lt h (by decide))
      rw [D.py, PyData.shown]
      have e : (Str.ofString (toString i)).length = (toString i).length := ofString_length _
      rw [e]; omega⟩
  | _, _, _, .str h, _ => ⟨h, by rw [D.py, okP]; exact h.low, by simp [D.shw], by simp [D.py, PyData.showable], by simp [D.py, PyData.depth], by
      have := repr_len h
      rw [D.py, PyData.shown]; omega⟩
  | _, _, _, .dct, _ => ⟨rfl, by simp [D.py, D.pyk, okP], by simp [D.shw, D.shwk], by simp [D.py, D.pyk, PyData.showable, PyData.showableKv], by simp [D.py, D.pyk, PyData.depth, PyData.depthKv], by
      have : (PyData.shown (.dict [])).length = 2 := by decide +kernel
      rw [D.py, D.pyk, this]; omega⟩
  | _, _, _, .tup (l := l) h, hs => by
    obtain ⟨h1, h2, h3, h4, h5, h6⟩ := h.all (by omega)
    have hl := h.len
    refine ⟨⟨by omega, h1⟩, by rw [D.py, okP]; exact h2, by rw [D.shw]; exact h3, by rw [D.py, PyData.showable]; exact h4, by rw [D.py, PyData.depth]; omega, ?_⟩
    rw [D.py, PyData.shown]
    have := tup_len (PyData.shownAll (D.pys l))
    rw [shownAll_len, pys_len] at this
    omega
  | _, _, _, .lst (l := l) h, hs => by
    obtain ⟨h1, h2, h3, h4, h5, h6⟩ := h.all (by omega)
    have hl := h.len
    refine ⟨⟨by omega, h1⟩, by rw [D.py, okP]; exact h2, by rw [D.shw]; exact h3, by rw [D.py, PyData.showable]; exact h4, by rw [D.py, PyData.depth]; omega, ?_⟩
    rw [D.py, PyData.shown]
    have := listText_len_le (PyData.shownAll (D.pys l))
    rw [shownAll_len, pys_len] at this
    omega
theorem GdL.all : ∀ {n s : Nat} {l : List D}, GdL n s l → s ≤ 1000 → (∀ x ∈ l, Th n x) ∧ okPs (D.pys l) ∧ D.shws l = true ∧ PyData.showableAll (D.pys l) = true ∧ PyData.depthAll (D.pys l) ≤ n ∧ ((PyData.shownAll (D.pys l)).map (·.length)).sum + 10 * l.length ≤ 400 * s
  | _, _, _, .nil, _ => by
    refine ⟨fun x hx => absurd hx (by simp), by simp [D.pys, okPs], by simp [D.shws], by simp [D.pys, PyData.showableAll], by simp [D.pys, PyData.depthAll], by simp [D.pys, PyData.shownAll]⟩
  | _, _, _, .cons (d := d) (l := l) a b c, hs => by
    have A := a.all (by omega)
    obtain ⟨h1, h2, h3, h4, h5, h6⟩ := b.all (by omega)
    have hp := a.pos
    refine ⟨fun x hx => ?_, ?_, ?_, ?_, ?_, ?_⟩
    · rcases List.mem_cons.mp hx with rfl | hx
      · exact A.th
      · exact h1 x hx
    · rw [D.pys, okPs]; exact ⟨A.okc, h2⟩
    · rw [D.shws, A.shw, h3]; rfl
    · rw [D.pys, PyData.showableAll, A.sho, h4]; rfl
    · rw [D.pys, PyData.depthAll]; exact Nat.max_le.mpr ⟨A.dep, h5⟩
    · rw [D.pys, PyData.shownAll, List.map_cons, List.sum_cons, List.length_cons]
      have := A.len
      omega
end
end Lw

set_option Elab.async false
set_option maxRecDepth 100000
set_option maxHeartbeats 2000000
namespace Lw
open PySem L2 Lc
theorem Gd.rok {n s : Nat} {d : D} (h : Gd n s d) (hn : n ≤ 64) (hs : s ≤ 1000) : d.rok = true := by
  have T := h.all hs
  have h1 := T.len
  have h2 := T.dep
  simp only [D.rok, D.shown, T.shw, T.sho, q_size, Bool.and_eq_true, decide_eq_true_eq, true_and]
  omega
theorem sum_le : ∀ {n s : Nat} {l : List D}, GdL n s l → (∀ d t, Gd n t d → 0 ≤ pts n d ∧ pts n d ≤ (t : Int)) → 0 ≤ (l.map (pts n)).sum ∧ (l.map (pts n)).sum ≤ (s : Int)
  | _, _, _, .nil, _ => by simp
  | _, _, _, .cons a b c, k => by
    have h1 := k _ _ a
    have h2 := sum_le b k
    rw [List.map_cons, List.sum_cons]
    omega
theorem GdL.drop {n s : Nat} : ∀ {l : List D} (k : Nat), GdL n s l → GdL n s (l.drop k)
  | [], _, h => by simpa using h
  | _ :: _, 0, h => h
  | _ :: l, k + 1, .cons a b c => (b.mono (Nat.le_refl _) (by omega)).drop k
theorem pts_le : ∀ (n s : Nat) (d : D), Gd n s d → 0 ≤ pts n d ∧ pts n d ≤ (s : Int)
  | 0, _, _, h => by cases h
  | n + 1, s, d, h => by
    have hp := h.pos
    cases d with
    | tup l =>
      cases h with
      | tup hl =>
        have h2 := sum_le (hl.drop 1) fun d t hd => pts_le n t d hd
        show 0 ≤ 1 + ((l.drop 1).map (pts n)).sum ∧ 1 + ((l.drop 1).map (pts n)).sum ≤ _
        omega
    | _ => simp only [pts]; omega
theorem maxI_le {k : Int} (hk : 0 ≤ k) : ∀ l : List Int, (∀ x ∈ l, 0 ≤ x ∧ x ≤ k) → 0 ≤ maxI l ∧ maxI l ≤ k := fun l h => by
  cases l with
  | nil => exact ⟨by decide, hk⟩
  | cons x r => exact h _ (maxI_in (x :: r) (by simp))
theorem dps_le : ∀ (n : Nat) (d : D), 0 ≤ dps n d ∧ dps n d ≤ (n : Int)
  | 0, _ => by simp [dps]
  | n + 1, d => by
    cases d with
    | tup l =>
      have := maxI_le (k := (n : Int)) (by omega) ((l.drop 1).map (dps n)) fun x hx => by
        obtain ⟨y, _, rfl⟩ := List.mem_map.mp hx
        exact dps_le n y
      show 0 ≤ 1 + maxI ((l.drop 1).map (dps n)) ∧ 1 + maxI ((l.drop 1).map (dps n)) ≤ _
      omega
    | _ => simp only [dps]; omega
theorem Gd.ask {n s : Nat} {d : D} (h : Gd n s d) (hn : n ≤ 40) (hs : s ≤ 800) : Ask d := by
  have h40 := h.mono hn (Nat.le_refl s)
  have A := h40.all (by omega)
  have p := pts_le 40 s d h40
  have q := dps_le 40 d
  have hi : ∀ i : Int, 0 ≤ i → i ≤ 1000 → D.rok (.lst [.int i]) = true := fun i h0 h1 => Gd.rok (n := 2) (s := 2) (.lst (.cons (.int (n := 0) (s := 0) (by omega)) (.nil (s := 0)) (by decide))) (by decide) (by decide)
  refine ⟨A.th, h.rok (by omega) (by omega), A.okc, ?_, hi _ p.1 (by omega), hi _ q.1 (by omega)⟩
  have w : Wd 30 (Str.ofString "refused") := ⟨by decide +kernel, ok_lit _⟩
  exact Gd.rok (n := 41) (s := s + 3) (.lst (.cons (.str (n := 39) (s := 0) w) (.cons h40 (.cons (.bl (n := 39) (s := 0) true) (.nil (s := 0)) (Nat.le_refl _)) (Nat.le_refl _)) (by omega))) (by omega) (by omega)
/-! ### trees -/
def tsz : Nat → Nat
  | 0 => 1
  | k + 1 => 2 + 3 * tsz k
theorem tsz_pos : ∀ k, 1 ≤ tsz k
  | 0 => by decide
  | k + 1 => by unfold tsz; omega
theorem word_gd {x : Str} (h : Word x) : Gd 1 1 (.str x) := .str (n := 0) (s := 0) (h.wd.mono (by decide))
/-- no empty tuple -/
inductive Fu : D → Prop
  | str (x : Str) : Fu (.str x)
  | int (i : Int) : Fu (.int i)
  | tup {l : List D} : l ≠ [] → (∀ x ∈ l, Fu x) → Fu (.tup l)
theorem gtree_ok : ∀ (k f : Nat) (c : Cn) (b : Bool), Rng c → k < f → ∃ d c', F__law_tree f [.own c, .dt (.int k), .dt (.bl b)] = .ok (.dt d) [.own c', .dt (.int k), .dt (.bl b)] ∧ Gd (k + 1) (tsz k) d ∧ Rng c' ∧ Fu d
  | k, 0, _, _, _, h => by omega
  | 0, f + 1, c, b, hc, _ => by
    cases b with
    | false =>
      obtain ⟨x, c1, e1, hx, h1⟩ := word_ok hc
      exact ⟨.str x, c1, by simp [F__law_tree, q_run, b__law_tree, gLt, e1], word_gd hx, h1, .str _⟩
    | true =>
      obtain ⟨m, c1, e1, m0, m1, h1⟩ := draw_ok (n := 2) hc (by decide) (by decide)
      by_cases hm : m = 0
      · subst hm
        obtain ⟨j, c2, e2, j0, j1, h2⟩ := draw_ok (n := 3) h1 (by decide) (by decide)
        exact ⟨.int j, c2, by simp [F__law_tree, q_run, b__law_tree, gLt, e1, gEq, D.eq, e2], .int (by omega), h2, .int _⟩
      · have hm' : (m == 0) = false := by simpa using hm
        obtain ⟨x, c2, e2, hx, h2⟩ := word_ok h1
        exact ⟨.str x, c2, by simp [F__law_tree, q_run, b__law_tree, gLt, e1, gEq, D.eq, hm', hm, e2], word_gd hx, h2, .str _⟩
  | k + 1, f + 1, c, b, hc, hf => by
    have hlt : ¬ ((k : Int) + 1 < 1) := by omega
    obtain ⟨q, c0, e0, q0, q1, h0⟩ := draw_ok (n := 3) hc (by decide) (by decide)
    by_cases hq : q = 0
    · subst hq
      cases b with
      | false =>
        obtain ⟨x, c1, e1, hx, h1⟩ := word_ok h0
        exact ⟨.str x, c1, by simp [F__law_tree, q_run, b__law_tree, gLt, hlt, e0, gEq, D.eq, e1], (word_gd hx).mono (by omega) (tsz_pos _), h1, .str _⟩
      | true =>
        obtain ⟨m, c1, e1, m0, m1, h1⟩ := draw_ok (n := 2) h0 (by decide) (by decide)
        by_cases hm : m = 0
        · subst hm
          obtain ⟨j, c2, e2, j0, j1, h2⟩ := draw_ok (n := 3) h1 (by decide) (by decide)
          exact ⟨.int j, c2, by simp [F__law_tree, q_run, b__law_tree, gLt, hlt, e0, e1, gEq, D.eq, e2], (Gd.int (n := 0) (s := 0) (by omega)).mono (by omega) (tsz_pos _), h2, .int _⟩
        · have hm' : (m == 0) = false := by simpa using hm
          obtain ⟨x, c2, e2, hx, h2⟩ := word_ok h1
          exact ⟨.str x, c2, by simp [F__law_tree, q_run, b__law_tree, gLt, hlt, e0, e1, gEq, D.eq, hm', hm, e2], (word_gd hx).mono (by omega) (tsz_pos _), h2, .str _⟩
    · have hq' : (q == 0) = false := by simpa using hq
      obtain ⟨x, c1, e1, hx, h1⟩ := word_ok h0
      obtain ⟨m, c2, e2, m0, m1, h2⟩ := draw_ok (n := 3) h1 (by decide) (by decide)
      have hi : (M.bind (cCons (cOp2 gAdd2 (cC (.int 1)) (cCall F__law_draw (cCons (cVar 0) (cCons (cC (.int 3)) (M.ret []))))) (M.ret [])) W.rng1) ⟨[some (.bor 0), some (.dt (.int ((k : Int) + 1))), some (.dt (.bl b)), none], [.own c1, .dt (.int ((k : Int) + 1)), .dt (.bl b)]⟩ = .ok (rngD 0 (1 + m).toNat) ⟨[some (.bor 0), some (.dt (.int ((k : Int) + 1))), some (.dt (.bl b)), none], [.own c2, .dt (.int ((k : Int) + 1)), .dt (.bl b)]⟩ := by
        have z : -4611686018427387904 ≤ 1 + m ∧ 1 + m < 4611686018427387904 := by omega
        simp [e2, gAdd2, gAdd, z]
      obtain ⟨ys, re, e3, ⟨c3, hre, hc3⟩, hlen, hys⟩ := cLc_inv (own := [3]) (T := gN 3) (fe := cCall (F__law_tree f) (cCons (cVar 0) (cCons (cOp2 Lc.gSub (cVar 1) (cC (.int 1))) (cCons (cVar 2) (M.ret []))))) hi rfl
        (fun r => ∃ c, r = ⟨[some (.bor 0), some (.dt (.int ((k : Int) + 1))), some (.dt (.bl b)), none], [.own c, .dt (.int ((k : Int) + 1)), .dt (.bl b)]⟩ ∧ Rng c) (fun d => Gd (k + 1) (tsz k) d ∧ Fu d) (by simp [rngD, q_size]; omega) ⟨c2, rfl, h2⟩ fun d _ r ⟨c, hr, hc⟩ => by
          subst hr
          obtain ⟨y, c', e, hg, hc', hfu⟩ := gtree_ok k f c b hc (by omega)
          have ek : (k : Int) + 1 - 1 = k := by omega
          refine ⟨_, .dt y, ⟨[some (.bor 0), some (.dt (.int ((k : Int) + 1))), some (.dt (.bl b)), some (.dt d)], [.own c', .dt (.int ((k : Int) + 1)), .dt (.bl b)]⟩, y, _, rfl, ?_, rfl, ⟨hg, hfu⟩, c', rfl, hc'⟩
          simp [Lc.gSub, ek, e]
      subst hre
      have e4 : x__law_tree_1 (F__law_tree f) ⟨[some (.bor 0), some (.dt (.int ((k : Int) + 1))), some (.dt (.bl b)), none], [.own c1, .dt (.int ((k : Int) + 1)), .dt (.bl b)]⟩ = .ok (.fresh (.lst ys)) ⟨[some (.bor 0), some (.dt (.int ((k : Int) + 1))), some (.dt (.bl b)), none], [.own c3, .dt (.int ((k : Int) + 1)), .dt (.bl b)]⟩ := by
        refine e3.trans ?_
        simp
      have hyl : ys.length ≤ 3 := by rw [hlen]; simp [rngD]; omega
      have hgl : GdL (k + 1) (3 * tsz k) ys := by
        have go : ∀ l : List D, (∀ y ∈ l, Gd (k + 1) (tsz k) y) → GdL (k + 1) (l.length * tsz k) l := fun l => by
          induction l with
          | nil => intro _; exact .nil
          | cons y l ih => intro h; exact .cons (h y List.mem_cons_self) (ih fun z hz => h z (List.mem_cons_of_mem _ hz)) (by rw [List.length_cons, Nat.add_mul]; omega)
        exact (go ys fun y hy => (hys y hy).1).mono (Nat.le_refl _) (Nat.mul_le_mul_right _ hyl)
      have hsz : ys.length + 1 ≤ 16777216 := by omega
      have hsz2 : 1 + ys.length ≤ 16777216 := by omega
      refine ⟨.tup (.str x :: ys), c3, ?_, ?_, hc3, .tup (by simp) fun z hz => ?_⟩
      · simp [F__law_tree, q_run, b__law_tree, gLt, hlt, e0, gEq, D.eq, hq', hq, e1, e4, gTuple, gAdd2, gAdd, gAddT, q_size, hsz, hsz2]
      · have := Gd.tup (n := k + 1) (s := 1 + 3 * tsz k) (.cons ((word_gd hx).mono (by omega) (Nat.le_refl _)) hgl (Nat.le_refl _))
        exact this.mono (Nat.le_refl _) (by show 1 + 3 * tsz k + 1 ≤ 2 + 3 * tsz k; omega)
      · rcases List.mem_cons.mp hz with rfl | hz
        · exact .str _
        · exact (hys z hz).2
end Lw

set_option Elab.async false
set_option maxRecDepth 100000
set_option maxHeartbeats 2000000
namespace Lw
open PySem L2 Lc
theorem deep_ok {c : Cn} (h : Rng c) : ∃ d c', F__law_deep [.own c] = .ok (.dt d) [.own c'] ∧ Gd 18 81 d ∧ Rng c' ∧ Fu d := by
  obtain ⟨m, c1, e1, m0, m1, h1⟩ := draw_ok (n := 2) h (by decide) (by decide)
  obtain ⟨t, c2, e2, ht, h2, fu⟩ := gtree_ok 3 40 c1 (m == 0) h1 (by decide)
  obtain ⟨q, c3, b3, e3, hq, h3⟩ := choice_ok (l := [.int 0, .int 0, .int 1, .int 14]) h2 (by decide) (by decide)
  obtain ⟨j, rfl, hj0, hj⟩ : ∃ j : Nat, q = .int (j : Int) ∧ 0 ≤ j ∧ j ≤ 14 := by
    simp only [List.mem_cons, List.not_mem_nil, or_false] at hq
    rcases hq with rfl | rfl | rfl | rfl
    · exact ⟨0, rfl, by decide, by decide⟩
    · exact ⟨0, rfl, by decide, by decide⟩
    · exact ⟨1, rfl, by decide, by decide⟩
    · exact ⟨14, rfl, by decide, by decide⟩
  have hi : (M.bind (cCons (cCall F__law_choice (cCons (cVar 0) (cCons (cLst (cCons (cC (.int 0)) (cCons (cC (.int 0)) (cCons (cC (.int 1)) (cCons (cC (.int 14)) (M.ret [])))))) (M.ret [])))) (M.ret [])) W.rng1) ⟨[some (.bor 0), some (.dt t), none], [.own c2]⟩ = .ok (rngD 0 j) ⟨[some (.bor 0), some (.dt t), none], [.own c3]⟩ := by
    have z : -4611686018427387904 ≤ (j : Int) ∧ (j : Int) < 4611686018427387904 := by omega
    simp [e3, z, q_size]
  have go : ∀ (ds : List D) (k : Nat) (t : D) (u : Option Sl) (c : Cn), Rng c → Gd (4 + k) (53 + 2 * k) t → Fu t → ∃ t' u' c', loopL (gN 2) x__law_deep_1 ds ⟨[some (.bor 0), some (.dt t), u], [.own c]⟩ = .ok .next ⟨[some (.bor 0), some (.dt t'), u'], [.own c']⟩ ∧ Rng c' ∧ Gd (4 + (k + ds.length)) (53 + 2 * (k + ds.length)) t' ∧ Fu t' := fun ds => by
    induction ds with
    | nil => intro k t u c hc ht hf; exact ⟨t, u, c, rfl, hc, ht, hf⟩
    | cons d ds ih =>
      intro k t u c hc ht hf
      obtain ⟨x, c', e, hx, hc'⟩ := word_ok hc
      have hb : x__law_deep_1 ⟨[some (.bor 0), some (.dt t), some (.dt d)], [.own c]⟩ = .ok .next ⟨[some (.bor 0), some (.dt (.tup [.str x, t])), some (.dt d)], [.own c']⟩ := by
        simp [x__law_deep_1, e, q_size]
      have hg : Gd (4 + (k + 1)) (53 + 2 * (k + 1)) (.tup [.str x, t]) := by
        have := Gd.tup (n := 4 + k) (s := 53 + 2 * k + 1) (.cons ((word_gd hx).mono (by omega) (Nat.le_refl _)) (.cons ht (.nil (s := 0)) (Nat.le_refl _)) (by omega))
        exact this.mono (by omega) (by omega)
      obtain ⟨t', u', c2, e2, h2, g2, f2⟩ := ih (k + 1) (.tup [.str x, t]) (some (.dt d)) c' hc' hg (.tup (by simp) fun z hz => by
        simp only [List.mem_cons, List.not_mem_nil, or_false] at hz
        rcases hz with rfl | rfl
        · exact .str _
        · exact hf)
      refine ⟨t', u', c2, ?_, h2, ?_, f2⟩
      · have hT : gN 2 (.dt d) ⟨[some (.bor 0), some (.dt t), u], [.own c]⟩ = .ok () ⟨[some (.bor 0), some (.dt t), some (.dt d)], [.own c]⟩ := rfl
        simp only [loopL, hT, hb, e2]
      · rw [List.length_cons]
        exact g2.mono (by omega) (by omega)
  obtain ⟨t', u', c4, e4, h4, g4, f4⟩ := go (rngD 0 j) 0 t none c3 h3 ht fu
  have hl : (rngD 0 j).length = j := by simp [rngD]
  have e5 : x__law_deep_2 ⟨[some (.bor 0), some (.dt t), none], [.own c2]⟩ = .ok .next ⟨[some (.bor 0), some (.dt t'), u'], [.own c4]⟩ := by
    show M.bind _ _ _ = _
    unfold M.bind at hi ⊢
    rw [hi]
    exact e4
  rw [hl] at g4
  refine ⟨t', c4, ?_, g4.mono (by omega) (by omega), h4, f4⟩
  rw [show ((3 : Nat) : Int) = 3 from rfl] at e2
  simp [F__law_deep, q_run, b__law_deep, e1, gEq, D.eq, e2, e5]
end Lw

set_option Elab.async false
set_option maxRecDepth 100000
set_option maxHeartbeats 2000000
namespace Lw
open PySem L2 Lc
def odd1 (d : D) : List D := [.non, .bl true, .bl false, .int 3, .int (-1), .int 0, .int 1, .int 2, .str "", .str "A", .str "ninechars", .str "a b", .lst [], .tup [], .dct [], .tup [.str "a"], .lst [d], .tup [d, d]]
def odd2 : List D := [.tup [.str "a", .str "a", .str "a", .str "a"], .tup [.str "a", .str "a", .str "a", .str "a", .str "a"], .int (10 ^ 30), .str "eightchr", .tup [.str "A", .str "a"], .tup [.tup [.str "a", .str "b"], .str "c"]]
theorem lit_gd {y : String} (h : (Str.ofString y).length ≤ 30) : Gd 1 1 (.str (Str.ofString y)) := .str (n := 0) (s := 0) ⟨h, ok_lit _⟩
theorem two_gd {n s : Nat} {l : List D} (h : GdL n s l) : Gd (n + 1) (s + 1) (.tup l) := .tup h
theorem odd_gd {n s : Nat} {d : D} (h : Gd n s d) : ∀ x ∈ odd1 d ++ odd2, Gd (n + 2) (2 * s + 10) x := by
  have hn : 1 ≤ n := by cases h <;> omega
  have hp := h.pos
  have S : ∀ (y : String), (Str.ofString y).length ≤ 30 → Gd 1 1 (.str (Str.ofString y)) := fun y k => lit_gd k
  have A := S "a" (by decide +kernel)
  intro x hx
  simp only [odd1, odd2, List.cons_append, List.nil_append, List.mem_cons, List.not_mem_nil, or_false] at hx
  rcases hx with rfl | rfl | rfl | rfl | rfl | rfl | rfl | rfl | rfl | rfl | rfl | rfl | rfl | rfl | rfl | rfl | rfl | rfl | rfl | rfl | rfl | rfl | rfl | rfl
  · exact .non
  · exact .bl _
  · exact .bl _
  · exact .int (by decide)
  · exact .int (by decide)
  · exact .int (by decide)
  · exact .int (by decide)
  · exact .int (by decide)
  · exact (S "" (by decide +kernel)).mono (by omega) (by omega)
  · exact (S "A" (by decide +kernel)).mono (by omega) (by omega)
  · exact (S "ninechars" (by decide +kernel)).mono (by omega) (by omega)
  · exact (S "a b" (by decide +kernel)).mono (by omega) (by omega)
  · exact .lst .nil
  · exact .tup .nil
  · exact .dct
  · exact (Gd.tup (.cons A (.nil (s := 0)) (Nat.le_refl _))).mono (by omega) (by omega)
  · exact (Gd.lst (.cons h (.nil (s := 0)) (Nat.le_refl _))).mono (by omega) (by omega)
  · exact (Gd.tup (.cons h (.cons h (.nil (s := 0)) (Nat.le_refl _)) (Nat.le_refl _))).mono (by omega) (by omega)
  · exact (Gd.tup (.cons A (.cons A (.cons A (.cons A (.nil (s := 0)) (Nat.le_refl _)) (Nat.le_refl _)) (Nat.le_refl _)) (Nat.le_refl _))).mono (by omega) (by omega)
  · exact (Gd.tup (.cons A (.cons A (.cons A (.cons A (.cons A (.nil (s := 0)) (Nat.le_refl _)) (Nat.le_refl _)) (Nat.le_refl _)) (Nat.le_refl _)) (Nat.le_refl _))).mono (by omega) (by omega)
  · exact .int (by decide)
  · exact (S "eightchr" (by decide +kernel)).mono (by omega) (by omega)
  · exact (Gd.tup (.cons (S "A" (by decide +kernel)) (.cons A (.nil (s := 0)) (Nat.le_refl _)) (Nat.le_refl _))).mono (by omega) (by omega)
  · have B := S "b" (by decide +kernel)
    have C := (S "c" (by decide +kernel)).mono (m := 2) (t := 1) (by omega) (by omega)
    exact (Gd.tup (.cons (Gd.tup (.cons A (.cons B (.nil (s := 0)) (Nat.le_refl _)) (Nat.le_refl _))) (.cons C (.nil (s := 0)) (Nat.le_refl _)) (Nat.le_refl _))).mono (by omega) (by omega)
end Lw

set_option Elab.async false
set_option maxRecDepth 100000
set_option maxHeartbeats 2000000
namespace Lw
open PySem L2 Lc
theorem GdL.app {n : Nat} : ∀ {l m : List D} {s t : Nat}, GdL n s l → GdL n t m → GdL n (s + t) (l ++ m)
  | [], m, s, t, _, h => h.mono (Nat.le_refl _) (by omega)
  | _ :: _, m, s, t, .cons a b c, h => .cons a (b.app h) (by omega)
theorem GdL.split {n : Nat} : ∀ {l : List D} {s : Nat} (k : Nat) (hk : k < l.length), GdL n s l → ∃ s1 sx s2, GdL n s1 (l.take k) ∧ Gd n sx l[k] ∧ GdL n s2 (l.drop (k + 1)) ∧ s1 + sx + s2 ≤ s
  | [], _, _, hk, _ => by simp at hk
  | x :: l, s, 0, _, .cons (s1 := s1) (s2 := s2) a b c => ⟨0, s1, s2, .nil, a, b, by omega⟩
  | x :: l, s, k + 1, hk, .cons (s1 := t1) (s2 := t2) a b c => by
    obtain ⟨s1, sx, s2, h1, h2, h3, h4⟩ := GdL.split k (by simpa using hk) b
    exact ⟨t1 + s1, sx, s2, .cons a h1 (Nat.le_refl _), by simpa using h2, by simpa using h3, by omega⟩
theorem cutT {l : List D} {k : Nat} (h : k ≤ l.length) : cutD l none (some (k : Int)) = l.take k := by
  unfold cutD
  rw [HT.sIx_none, HT.sIx_nat, Nat.min_eq_left h]
  simp
theorem cutU {l : List D} {k : Nat} (h : k ≤ l.length) : cutD l (some (k : Int)) none = l.drop k := by
  unfold cutD
  rw [HT.sIx_none, HT.sIx_nat, Nat.min_eq_left h]
  rw [List.take_of_length_le (by rw [List.length_drop]; omega)]
/-- what spoiling gives -/
def Spo (n s : Nat) (b : Bo) : Prop := (∃ d, b = .dt d ∧ Gd n s d) ∨ ∃ l, b = .own (.lst l) ∧ Gd n s (.lst l)
theorem spoil_ok : ∀ (f n s : Nat) (c : Cn) (d : D), Rng c → Gd n s d → Fu d → n ≤ f → n ≤ 20 → s ≤ 100 → ∃ b c', F__law_spoiled f [.own c, .dt d] = .ok b [.own c', .dt d] ∧ Rng c' ∧ Spo (n + 2) (2 * s + 10) b
  | 0, n, s, _, _, _, h, _, hn, _, _ => by cases h <;> omega
  | f + 1, n, s, c, d, hc, h, fu, hn, hn2, hs => by
    have p30 : (10 : Int) ^ 30 = 1000000000000000000000000000000 := by decide
    have pick : ∀ c, Rng c → ∃ x c' b', F__law_choice [.own c, .own (.lst (odd1 d ++ odd2))] = .ok (.dt x) [.own c', b'] ∧ Gd (n + 2) (2 * s + 10) x ∧ Rng c' := fun c hc => by
      obtain ⟨x, c', b', e, hx, hc'⟩ := choice_ok (l := odd1 d ++ odd2) hc (by simp [odd1]) (by simp [odd1, odd2])
      exact ⟨x, c', b', e, odd_gd h x hx, hc'⟩
    cases d with
    | tup l =>
      obtain ⟨n', s', rfl, rfl, hl⟩ : ∃ n' s', n = n' + 1 ∧ s = s' + 1 ∧ GdL n' s' l := by
        cases h with
        | tup hl => exact ⟨_, _, rfl, rfl, hl⟩
      have hlen := hl.len
      obtain ⟨q, c0, e0, q0, q1, h0⟩ := draw_ok (n := 4) hc (by decide) (by decide)
      by_cases hq : q = 0
      · subst hq
        obtain ⟨x, c', b', e, hx, hc'⟩ := pick c0 h0
        refine ⟨.dt x, c', ?_, hc', .inl ⟨x, rfl, hx⟩⟩
        simp only [odd1, odd2, p30, List.cons_append, List.nil_append] at e
        simp [F__law_spoiled, q_run, b__law_spoiled, gNeg, gIsi, tyD, kp6, e0, gEq, D.eq, gMul2, gMul, gRepL, gRepT, List.replicate, gPow, gAdd2, gAdd, e, q_size]
      · have hq' : (q == 0) = false := by simpa using hq
        obtain ⟨ne, fus⟩ : l ≠ [] ∧ ∀ x ∈ l, Fu x := by cases fu with | tup a b => exact ⟨a, b⟩
        have hl0 : 0 < l.length := List.length_pos_iff.mpr ne
        obtain ⟨at_, c1, e1, a0, a1, h1⟩ := draw_ok (n := (l.length : Int)) h0 (by omega) (by omega)
        obtain ⟨way, c2, e2, w0, w1, h2⟩ := draw_ok (n := 5) h1 (by decide) (by decide)
        obtain ⟨k, rfl, hk⟩ : ∃ k : Nat, at_ = (k : Int) ∧ k < l.length := ⟨at_.toNat, by omega, by omega⟩
        obtain ⟨s1, sx, s2, g1, gx, g2, gs⟩ := GdL.split k hk hl
        have t1 := cutT (l := l) (k := k) (by omega)
        have u1 := cutU (l := l) (k := k) (by omega)
        have u2 := cutU (l := l) (k := k + 1) (by omega)
        rw [show ((k + 1 : Nat) : Int) = (k : Int) + 1 from rfl] at u2
        have gi : gIx1 (.tup l) (.int (k : Int)) = some (.dt l[k]) := by
          have e : ixN l.length (k : Int) = some k := by simp [ixN, hk]
          simp [gIx1, atI, e, hk]
        have z1 : min k l.length + (l.length - (k + 1)) ≤ 16777216 := by omega
        have z2 : min k l.length + 1 ≤ 16777216 := by omega
        have z3 : min k l.length + 1 + (l.length - (k + 1)) ≤ 16777216 := by omega
        have z4 : min k l.length + 1 + (l.length - k) ≤ 16777216 := by omega
        have z5 : min (k + 1) l.length + (l.length - k) ≤ 16777216 := by omega
        have hpx := gx.pos
        have hdk : l.drop k = l[k] :: l.drop (k + 1) := List.drop_eq_getElem_cons hk
        have gd : GdL n' (sx + s2) (l.drop k) := by rw [hdk]; exact .cons gx g2 (Nat.le_refl _)
        have lift : ∀ {t : Nat} {m : List D}, GdL n' t m → t ≤ 2 * s' + 5 → Gd (n' + 1 + 2) (2 * (s' + 1) + 10) (.tup m) := fun g ht => (Gd.tup g).mono (by omega) (by omega)
        have np := (names_ok 40 l[k] ((gx.mono (m := 40) (by omega) (Nat.le_refl _)).all (by omega)).th).2
        have fin0 : way = 0 → ∃ b c', F__law_spoiled (f + 1) [.own c, .dt (.tup l)] = .ok b [.own c', .dt (.tup l)] ∧ Rng c' ∧ Spo (n' + 1 + 2) (2 * (s' + 1) + 10) b := fun hw => by
          subst hw
          refine ⟨.dt (.tup (l.take k ++ l.drop (k + 1))), c2, ?_, h2, .inl ⟨_, rfl, lift (g1.app g2) (by omega)⟩⟩
          simp [F__law_spoiled, q_run, b__law_spoiled, gNeg, gIsi, tyD, kp6, e0, gEq, D.eq, hq', gLen, e1, e2, gSl2, t1, u2, gAdd2, gAdd, gAddT, z1, q_size]
        have fin2 : way = 2 → ∃ b c', F__law_spoiled (f + 1) [.own c, .dt (.tup l)] = .ok b [.own c', .dt (.tup l)] ∧ Rng c' ∧ Spo (n' + 1 + 2) (2 * (s' + 1) + 10) b := fun hw => by
          subst hw
          refine ⟨.own (.lst l), c2, ?_, h2, .inr ⟨_, rfl, (Gd.lst hl).mono (by omega) (by omega)⟩⟩
          simp [F__law_spoiled, q_run, b__law_spoiled, gNeg, gIsi, tyD, kp6, e0, gEq, D.eq, hq', gLen, e1, e2, gList, q_size]
        have finE : way ≠ 0 → way ≠ 2 → (way = 1 → ¬ pts 40 l[k] < 6) → ∃ b c', F__law_spoiled (f + 1) [.own c, .dt (.tup l)] = .ok b [.own c', .dt (.tup l)] ∧ Rng c' ∧ Spo (n' + 1 + 2) (2 * (s' + 1) + 10) b := fun w0 w2 w1 => by
          obtain ⟨b, c3, e3, h3, sp⟩ := spoil_ok f n' sx c2 l[k] h2 gx (fus _ (List.getElem_mem hk)) (by omega) (by omega) (by omega)
          have w0' : (way == 0) = false := by simpa using w0
          have w2' : (way == 2) = false := by simpa using w2
          obtain ⟨y, hy, gy⟩ : ∃ y, (b = .dt y ∨ ∃ m, b = .own (.lst m) ∧ y = .lst m) ∧ Gd (n' + 2) (2 * sx + 10) y := by
            rcases sp with ⟨d, rfl, g⟩ | ⟨m, rfl, g⟩
            · exact ⟨d, .inl rfl, g⟩
            · exact ⟨.lst m, .inr ⟨m, rfl, rfl⟩, g⟩
          refine ⟨.dt (.tup (l.take k ++ [y] ++ l.drop (k + 1))), c3, ?_, h3, .inl ⟨_, rfl, ?_⟩⟩
          · have hx : ∀ y, l.take k ++ [y] ++ l.drop (k + 1) = l.take k ++ y :: l.drop (k + 1) := fun y => by simp
            by_cases hw1 : way = 1
            · subst hw1
              have np2 := w1 rfl
              rcases hy with rfl | ⟨m, rfl, rfl⟩ <;> simp [F__law_spoiled, q_run, b__law_spoiled, gNeg, gIsi, tyD, kp6, e0, gEq, D.eq, hq', gLen, e1, e2, gSl2, t1, u2, gi, np, gLt, np2, e3, gAdd2, gAdd, gAddT, z2, z3, q_size]
            · have w1' : (way == 1) = false := by simpa using hw1
              rcases hy with rfl | ⟨m, rfl, rfl⟩ <;> simp [F__law_spoiled, q_run, b__law_spoiled, gNeg, gIsi, tyD, kp6, e0, gEq, D.eq, hq', w0', w1', w2', gLen, e1, e2, gSl2, t1, u2, gi, e3, gAdd2, gAdd, gAddT, z2, z3, q_size]
          · exact (Gd.tup (((g1.mono (m := n' + 2) (by omega) (Nat.le_refl _)).app (.cons gy (.nil (s := 0)) (Nat.le_refl _))).app (g2.mono (m := n' + 2) (by omega) (Nat.le_refl _)))).mono (by omega) (by omega)
        by_cases hw0 : way = 0
        · exact fin0 hw0
        by_cases hw2 : way = 2
        · exact fin2 hw2
        by_cases hw1 : way = 1 ∧ pts 40 l[k] < 6
        · obtain ⟨rfl, hp6⟩ := hw1
          refine ⟨.dt (.tup (l.take k ++ [l[k]] ++ l.drop k)), c2, ?_, h2, .inl ⟨_, rfl, lift ((g1.app (.cons gx (.nil (s := 0)) (Nat.le_refl _))).app gd) (by omega)⟩⟩
          simp [F__law_spoiled, q_run, b__law_spoiled, gNeg, gIsi, tyD, kp6, e0, gEq, D.eq, hq', gLen, e1, e2, gSl2, t1, u1, gi, np, gLt, hp6, gAdd2, gAdd, gAddT, z2, z4, z5, q_size]
        · exact finE hw0 hw2 fun e hp => hw1 ⟨e, hp⟩
    | ty _ => exact nomatch h
    | cls _ => exact nomatch h
    | exc _ _ _ => exact nomatch h
    | obj _ _ => exact nomatch h
    | _ =>
      obtain ⟨x, c', b', e, hx, hc'⟩ := pick c hc
      refine ⟨.dt x, c', ?_, hc', .inl ⟨x, rfl, hx⟩⟩
      simp only [odd1, odd2, p30, List.cons_append, List.nil_append] at e
      simp [F__law_spoiled, q_run, b__law_spoiled, gNeg, gIsi, tyD, kp1, kp2, kp3, kp4, kp5, kp7, gMul2, gMul, gRepL, gRepT, List.replicate, gPow, gAdd2, gAdd, e, q_size]
end Lw

set_option Elab.async false
set_option maxRecDepth 100000
set_option maxHeartbeats 2000000
namespace Lw
open PySem L2 Lc
theorem one_turn {ns : List Int} {k : D} {c : Cn} {t th : Option Sl} (h : Rng c) : ∃ c' t' th', x_law_1 ⟨[some (.dt (.scr ns)), some (.dt k), some (.own c), t, th], [.dt (.scr ns)]⟩ = .ok .next ⟨[some (.dt (.scr ns)), some (.dt k), some (.own c'), t', th'], [.dt (.scr ns)]⟩ ∧ Rng c' := by
  obtain ⟨d, c1, e1, g1, h1, fu⟩ := deep_ok h
  have r1 := right_dt (g1.ask (by decide) (by decide))
  obtain ⟨b, c2, e2, h2, sp⟩ := spoil_ok 40 18 81 c1 d h1 g1 fu (by decide) (by decide) (by decide)
  refine ⟨c2, ?_⟩
  rcases sp with ⟨d', rfl, g⟩ | ⟨l, rfl, g⟩
  · have r2 := right_dt (g.ask (by decide) (by decide))
    have : ∃ t' th', x_law_1 ⟨[some (.dt (.scr ns)), some (.dt k), some (.own c), t, th], [.dt (.scr ns)]⟩ = .ok .next ⟨[some (.dt (.scr ns)), some (.dt k), some (.own c2), t', th'], [.dt (.scr ns)]⟩ := by
      simp [x_law_1, e1, r1, e2, r2]
    obtain ⟨t', th', e⟩ := this
    exact ⟨t', th', e, h2⟩
  · have r2 := right_own (g.ask (by decide) (by decide))
    have : ∃ t' th', x_law_1 ⟨[some (.dt (.scr ns)), some (.dt k), some (.own c), t, th], [.dt (.scr ns)]⟩ = .ok .next ⟨[some (.dt (.scr ns)), some (.dt k), some (.own c2), t', th'], [.dt (.scr ns)]⟩ := by
      simp [x_law_1, e1, r1, e2, r2]
    obtain ⟨t', th', e⟩ := this
    exact ⟨t', th', e, h2⟩
def FrA (ns : List Int) (k : D) (r : Rho) : Prop := ∃ (c : Cn) (t th : Option Sl), r = ⟨[some (.dt (.scr ns)), some (.dt k), some (.own c), t, th], [.dt (.scr ns)]⟩ ∧ Rng c
theorem turns {ns : List Int} {k : D} {r : Rho} (h : FrA ns k r) : ∃ r', x_law_2 r = .ok .next r' ∧ FrA ns k r' := by
  obtain ⟨c, t, th, rfl, hc⟩ := h
  have hi : (M.bind (cCons (cC (.int 4)) (M.ret [])) W.rng1) ⟨[some (.dt (.scr ns)), some (.dt k), some (.own c), t, th], [.dt (.scr ns)]⟩ = .ok (rngD 0 4) ⟨[some (.dt (.scr ns)), some (.dt k), some (.own c), t, th], [.dt (.scr ns)]⟩ := by simp
  refine cFor_inv hi (FrA ns k) ⟨c, t, th, rfl, hc⟩ fun d _ r ⟨c, t, th, hr, hc⟩ => ?_
  subst hr
  obtain ⟨c', t', th', e, h'⟩ := one_turn (ns := ns) (k := k) (t := some (.dt d)) (th := th) hc
  exact ⟨_, _, rfl, e, c', t', th', rfl, h'⟩
theorem holds (ns : List Int) (hl : ns.length ≤ 63) : ∃ bs, F_law [.dt (.scr ns)] = .ok (.dt (.bl true)) bs := by
  obtain ⟨n, hn, hn4⟩ : ∃ n : Nat, (if (if 6 < (ns.length : Int) then 6 else (ns.length : Int)) > 1 then (if 6 < (ns.length : Int) then 6 else (ns.length : Int)) else 1) = (n : Int) ∧ n ≤ 6 :=
    ⟨(if (if 6 < (ns.length : Int) then 6 else (ns.length : Int)) > 1 then (if 6 < (ns.length : Int) then 6 else (ns.length : Int)) else 1).toNat, by split <;> split <;> omega, by split <;> split <;> omega⟩
  have hi : (M.bind (cCons (cCallP gMaxL (cCons (cC (.int 1)) (cCons (cCallP gMin (cCons (cCallP gLen (cCons (cVar 0) (M.ret []))) (cCons (cC (.int 6)) (M.ret [])))) (M.ret [])))) (M.ret [])) W.rng1) ⟨[some (.dt (.scr ns)), none, none, none, none], [.dt (.scr ns)]⟩ = .ok (rngD 0 n) ⟨[some (.dt (.scr ns)), none, none, none, none], [.dt (.scr ns)]⟩ := by
    have z : -4611686018427387904 ≤ (n : Int) ∧ (n : Int) < 4611686018427387904 := by omega
    simp [gLen, gMin, gMaxL, gMax, hn, z]
  have k : ∃ r', x_law_4 ⟨[some (.dt (.scr ns)), none, none, none, none], [.dt (.scr ns)]⟩ = .ok .next r' ∧ ∃ a b t th, r' = ⟨[some (.dt (.scr ns)), a, b, t, th], [.dt (.scr ns)]⟩ := cFor_inv hi (fun r => ∃ a b t th, r = ⟨[some (.dt (.scr ns)), a, b, t, th], [.dt (.scr ns)]⟩) ⟨none, none, none, none, rfl⟩ fun d hm r ⟨a, b, t, th, hr⟩ => by
    subst hr
    simp only [rngD, List.mem_map, List.mem_range] at hm
    obtain ⟨k, hk, rfl⟩ := hm
    obtain ⟨c, e1, hc⟩ := rng_ok (ns := ns) (k := k) (by omega) hl
    have e2 : ∃ t' th', cAsg (cCall F__law_rng (cCons (cVar 0) (cCons (cVar 1) (M.ret [])))) (gN 2) ⟨[some (.dt (.scr ns)), some (.dt (.int (0 + (k : Nat)))), b, t, th], [.dt (.scr ns)]⟩ = .ok .next ⟨[some (.dt (.scr ns)), some (.dt (.int (0 + (k : Nat)))), some (.own c), t', th'], [.dt (.scr ns)]⟩ := by
      simp [e1]
    obtain ⟨t', th', e2⟩ := e2
    obtain ⟨r', e3, c', t2, th2, hr', hc'⟩ := turns (ns := ns) (k := .int (0 + (k : Nat))) ⟨c, t', th', rfl, hc⟩
    refine ⟨_, r', rfl, ?_, _, _, _, _, hr'⟩
    show cSeq _ _ _ = _
    unfold cSeq
    have e2' : cAsg (cCall F__law_rng (cCons (cVar 0) (cCons (cVar 1) (M.ret [])))) (gN 2) ((⟨[some (.dt (.scr ns)), a, b, t, th], [.dt (.scr ns)]⟩ : Rho).put 1 (.dt (.int (0 + (k : Nat))))) = _ := e2
    rw [e2']
    simp only [cSeq, e3, M.ret]
  obtain ⟨r', e, a, b, t, th, rfl⟩ := k
  exact ⟨_, by simp [F_law, q_run, b_law, e]; rfl⟩
end Lw

open PySem PySem.W PySem.Calls PyProof.Rows
theorem PySem.Challenge.cw_leastcopies_k12_whole_shapes_and_pattern_holds : PySem.Challenge.rw_leastcopies_k12_whole_shapes_and_pattern.Holds := by
  w_on; o_law
  refine HandSHeadRun.head_any (r := OpenLaw.row PySem.Challenge.rw_leastcopies_k12_whole_shapes_and_pattern) (q := view (OpenLaw.row PySem.Challenge.rw_leastcopies_k12_whole_shapes_and_pattern).prog [36]) (H := Lw.hk) (ob := Lw.ob) (M := 20000) (loose := [PySem.Str.ofString "__name__", PySem.Str.ofString "CopyError", PySem.Str.ofString "InvalidCount", PySem.Str.ofString "InvalidShape", PySem.Str.ofString "InvalidPattern", PySem.Str.ofString "InvalidText", PySem.Str.ofString "LETTERS", PySem.Str.ofString "LONGEST_NAME", PySem.Str.ofString "is_name", PySem.Str.ofString "is_integer", PySem.Str.ofString "MOST_ARGUMENTS", PySem.Str.ofString "is_index", PySem.Str.ofString "is_tree", PySem.Str.ofString "is_shape", PySem.Str.ofString "is_pattern", PySem.Str.ofString "require_shape", PySem.Str.ofString "names_in", PySem.Str.ofString "levels_in", PySem.Str.ofString "parts_of", PySem.Str.ofString "depth_of", PySem.Str.ofString "_law_rng", PySem.Str.ofString "_law_draw", PySem.Str.ofString "_law_choice", PySem.Str.ofString "_law_word", PySem.Str.ofString "_law_tree", PySem.Str.ofString "_law_deep", PySem.Str.ofString "_law_spoiled", PySem.Str.ofString "_law_is_word", PySem.Str.ofString "_law_is_tree", PySem.Str.ofString "_law_parts", PySem.Str.ofString "_law_depth", PySem.Str.ofString "_law_told", PySem.Str.ofString "_law_right"])
    (d := HandSHeadRun.topDef (OpenLaw.row PySem.Challenge.rw_leastcopies_k12_whole_shapes_and_pattern).prog 36) (kwd := []) Lw.ob_eq
    (by kernel_rfl) (fun s => by kernel_rfl) Lw.run (by kernel_rfl) (by kernel_rfl) (by kernel_rfl) (by rfl) (by first | assumption | decide +kernel)
    (by decide +kernel) ⟨rfl, rfl, rfl, rfl, rfl, by decide +kernel⟩ ?hw ?hc
  case hw => w_witness2
  case hc =>
    refine Lc.walk_ofG (l := PySem.Challenge.rw_leastcopies_k12_whole_shapes_and_pattern) (n := 63) (k := 83) (x := "_law_script") rfl (by decide) (by kernel_rfl) ⟨rfl, by decide, by decide⟩ ?F
    intro w mg fl h Y G hmg0
    obtain ⟨K, KX, c⟩ := Y
    have hmg : mg ("law" : PySem.Str) = some (.ref fl) := by
      have e : (HandSHeadRun.topDef (OpenLaw.row PySem.Challenge.rw_leastcopies_k12_whole_shapes_and_pattern).prog 36).name = ("law" : PySem.Str) := by kernel_rfl
      rw [← e]
      exact hmg0
    obtain ⟨fd, hb, hF⟩ := Lw.facts (w := w) KX G hmg c
    exact ⟨K, fd, Lw.F_law, KX, hb, Lw.holds, hF⟩
