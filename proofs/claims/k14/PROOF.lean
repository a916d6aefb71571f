import PyProof.Rows.All
import Wide.All
import OpenK.AllK
import Wide.FinOn
import HandS.ForMost
import HandS.ForExc
import HandS.ExcInit
import HandS.IsInst
import HandS.Flow
import HandS.WideBits
import HandS.Style
import HandS.Conv
import HandS.Spec
import HandS.Dict
import HandS.Head0
import HandS.Head1
import HandS.Head2
import HandS.HeadEnd
import HandS.HeadHook1
import HandS.HeadHook2
import KE.KExcSuper
import KE.KExcInit
import HandS.Exc
import HandS.ExcField
import HandS.ExcIs
import HandS.ExcSuper
import HandS.ExcValue
import KE.KExcIs
import HandS.TupAny
import HandS.TupMul
import HandS.Star
import KE.KTryMore
import HandS.SetFor
import HandS.Strs
import HandS.Text
import HandS.RaiseMore
import PySem.Challenge.RW_leastcopies_k14_whole_texts_of_shapes
set_option Elab.async false
set_option maxRecDepth 100000
set_option maxHeartbeats 4000000
/-! Part A: plain data, the slots of a frame, and how they lie in the layer's abstract heap. -/
namespace Lc
open PySem L2

/-- plain data -/
inductive D where
  | non
  | bl (b : Bool)
  | int (i : Int)
  | str (x : Str)
  | lst (l : List D)
  | tup (l : List D)
  | dct (l : List (D × D))
  | ty (n : String)
  | scr (l : List Int)
  /-- a class of the module, by its name -/
  | cls (x : Str)
  /-- a caught error at a, its dict at dd -/
  | exc (a dd : Addr) (fs : List (Str × D))
  /-- an instance that changes no more -/
  | obj (c : Str) (fs : List (Str × D))
  /-- an error held as a value -/
  | err (c : Str) (fs : List (Str × D))
  /-- the k-th thing of the store: it may change, and more than one may hold it -/
  | sto (k : Nat)
/-- what a thing that may still change holds -/
inductive Cn where
  | lst (l : List D)
  | dct (l : List (D × D))
def Cn.toD : Cn → D
  | .lst l => .lst l
  | .dct l => .dct l
/-- a borrowed thing, an argument, a result: data, or a thing that no one else holds -/
inductive Bo where
  | dt (x : D)
  | own (c : Cn)
/-- a local name: data, a thing of its own, or a borrowed one -/
inductive Sl where
  | dt (x : D)
  | own (c : Cn)
  | bor (k : Nat)
/-- where a thing that may change is kept -/
inductive Ix where
  | loc (i : Nat)
  | bor (k : Nat)
  deriving DecidableEq
/-- the value of an expression -/
inductive W where
  | dt (x : D)
  | fresh (c : Cn)
  | cel (z : Ix)
structure Rho where
  loc : List (Option Sl)
  bor : List Bo
  /-- the store -/
  st : List Cn
/-- an exception of an own class: its class by name, its attributes -/
structure Ex where
  cls : Str
  fs : List (Str × D)
inductive Res (α : Type) where
  | ok (a : α) (r : Rho)
  | exc (x : Ex) (r : Rho)
  | fail
abbrev M (α : Type) := Rho → Res α
def M.ret {α : Type} (a : α) : M α := fun r => .ok a r
def M.bind {α β : Type} (m : M α) (f : α → M β) : M β := fun r => match m r with
  | .ok a r1 => f a r1
  | .exc x r1 => .exc x r1
  | .fail => .fail
def M.no {α : Type} : M α := fun _ => .fail
def M.opt {α : Type} (o : Option α) : M α := fun r => match o with
  | some a => .ok a r
  | none => .fail

def Rho.cnt (r : Rho) : Ix → Option Cn
  | .loc i => match r.loc[i]? with
    | some (some (.own c)) => some c
    | _ => none
  | .bor k => match r.bor[k]? with
    | some (.own c) => some c
    | _ => none
/-- what a kept thing is now -/
def Rho.look (r : Rho) : Ix → Option D
  | .loc i => match r.loc[i]? with
    | some (some (.own c)) => some c.toD
    | some (some (.dt d)) => some d
    | _ => none
  | .bor k => match r.bor[k]? with
    | some (.own c) => some c.toD
    | some (.dt d) => some d
    | _ => none
def Rho.setc (r : Rho) (c : Cn) : Ix → Rho
  | .loc i => { r with loc := r.loc.set i (some (.own c)) }
  | .bor k => { r with bor := r.bor.set k (.own c) }
def Rho.frz (r : Rho) (d : D) : Ix → Rho
  | .loc i => { r with loc := r.loc.set i (some (.dt d)) }
  | .bor k => { r with bor := r.bor.set k (.dt d) }
/-- what a thing of the store is now -/
def D.cur (st : List Cn) : D → Option D
  | .sto k => match st[k]? with
    | some c => some c.toD
    | none => none
  | d => some d
def Rho.cur (r : Rho) (d : D) : Option D := match r.st with
  | [] => some d
  | _ :: _ => d.cur r.st
def W.view (r : Rho) : W → Option D
  | .dt d => r.cur d
  | .fresh c => some c.toD
  | .cel z => r.look z
def adr (vs : List V) (σ : L2.St) : Ix → Option V
  | .loc i => match σ[i]? with
    | some (some v) => some v
    | _ => none
  | .bor k => vs[k]?

/-! ### data in the frozen part B of the heap -/
/-- at the address of the k-th thing of the store stands this mark -/
def mark (k : Nat) : HO := .rng (k : Int) (-1)
def isMk : HO → Bool
  | .rng _ _ => true
  | _ => false
theorem mark_inj {k l : Nat} (h : mark k = mark l) : k = l := by
  unfold mark at h
  injection h with h _
  exact Int.ofNat.inj h
/-- B lies in H, but for its marks: there stands something -/
structure Sbm (B H : Hp) : Prop where
  at' : ∀ a o, B a = some o → isMk o = false → H a = some o
  mks : ∀ a o, B a = some o → isMk o = true → (∃ k, o = mark k) ∧ ∃ u, H a = some u
theorem Sbm.get {B H : Hp} (s : Sbm B H) (a : Addr) (o : HO) (h : B a = some o) (m : isMk o = false := by rfl) : H a = some o := s.at' a o h m
theorem Sbm.some {B H : Hp} (s : Sbm B H) {a : Addr} {o : HO} (h : B a = some o) : ∃ u, H a = some u := by
  cases m : isMk o with
  | false => exact ⟨o, s.at' a o h m⟩
  | true => exact (s.mks a o h m).2
/-- no thing of the store at a -/
def NoMk (B : Hp) (a : Addr) : Prop := ∀ k, B a ≠ some (mark k)
theorem noMk_none {B : Hp} {a : Addr} (h : B a = none) : NoMk B a := fun k e => by rw [h] at e; cases e
def KeyD : Key → D → Prop
  | .inl i, .int j => i = j
  | .inr x, .str y => x = y
  | _, _ => False
/-- a tuple: a known one, or one of the text's own -/
def TpA (K : PySem.W.Frag) (B : Hp) (a : Addr) (xs : List V) : Prop :=
  B a = some (.tup xs) ∨ ∃ (o : Obj) (its : Array Value) (n : Nat), K.lookup a = some o ∧ o.cls = .type "tuple" ∧ o.data = .seq its n ∧ its.size ≤ sizeLine ∧ Vals xs its.toList
mutual
inductive Rp (K : PySem.W.Frag) (B : Hp) : V → D → Prop
  | non : Rp K B .non .non
  | bl (b : Bool) : Rp K B (.bl b) (.bl b)
  | int (i : Int) : Rp K B (.int i) (.int i)
  | str (x : Str) : Rp K B (.str x) (.str x)
  | ty (n : String) : Rp K B (.ty n) (.ty n)
  | scr {a : Addr} {ns : List Int} : SqL K B a (ns.map V.int) → Rp K B (.ref a) (.scr ns)
  | lst {a : Addr} {xs : List V} {ds : List D} : B a = some (.lst xs) → RpAll K B xs ds → Rp K B (.ref a) (.lst ds)
  | tup {a : Addr} {xs : List V} {ds : List D} : TpA K B a xs → RpAll K B xs ds → Rp K B (.ref a) (.tup ds)
  | dct {a : Addr} {ks : List (Key × V)} {ds : List (D × D)} : B a = some (.dK ks) → RpKv K B ks ds → Rp K B (.ref a) (.dct ds)
  | cls {a : Addr} {x : Str} : PySem.W.nsIn K mainGlobals x = some (some (.ref a)) → Rp K B (.ref a) (.cls x)
  | exc {a dd : Addr} {fs : List (Str × V)} {ds : List (Str × D)} : B dd = some (.xd fs) → RpF K B fs ds → Rp K B (.ref a) (.exc a dd ds)
  | obj {a dx C : Addr} {x : Str} {fs : List (Str × V)} {ds : List (Str × D)} : B a = some (.ins C dx fs) → B dx = some (.own a) → PySem.W.nsIn K mainGlobals x = some (some (.ref C)) → RpF K B fs ds → Rp K B (.ref a) (.obj x ds)
  | err {a dd C : Addr} {x : Str} {fs : List (Str × V)} {ds : List (Str × D)} : B a = some (exo a C (some dd)) → B dd = some (.xd fs) → PySem.W.nsIn K mainGlobals x = some (some (.ref C)) → RpF K B fs ds → Rp K B (.ref a) (.err x ds)
  | sto {a : Addr} {k : Nat} : B a = some (mark k) → Rp K B (.ref a) (.sto k)
inductive RpAll (K : PySem.W.Frag) (B : Hp) : List V → List D → Prop
  | nil : RpAll K B [] []
  | cons {v : V} {vs : List V} {d : D} {ds : List D} : Rp K B v d → RpAll K B vs ds → RpAll K B (v :: vs) (d :: ds)
inductive RpKv (K : PySem.W.Frag) (B : Hp) : List (Key × V) → List (D × D) → Prop
  | nil : RpKv K B [] []
  | cons {k : Key} {v : V} {ks : List (Key × V)} {d e : D} {ds : List (D × D)} : KeyD k d → Rp K B v e → RpKv K B ks ds → RpKv K B ((k, v) :: ks) ((d, e) :: ds)
inductive RpF (K : PySem.W.Frag) (B : Hp) : List (Str × V) → List (Str × D) → Prop
  | nil : RpF K B [] []
  | cons {x : Str} {v : V} {d : D} {fs : List (Str × V)} {gs : List (Str × D)} : Rp K B v d → RpF K B fs gs → RpF K B ((x, v) :: fs) ((x, d) :: gs)
end
theorem TpA.mono {K : PySem.W.Frag} {B B' : Hp} {a : Addr} {xs : List V} (s : Same B B') (h : TpA K B a xs) : TpA K B' a xs := h.imp (s _ _) fun z => z
theorem TpA.subm {K : PySem.W.Frag} {B H : Hp} {a : Addr} {xs : List V} (s : Sbm B H) (h : TpA K B a xs) : TpA K H a xs := h.imp (fun z => s.get _ _ z) fun z => z
theorem TpA.sq {K : PySem.W.Frag} {B : Hp} {a : Addr} {xs : List V} (h : TpA K B a xs) : SqT K B a xs := h.elim (fun z => .inl (.inl z)) .inr
theorem seqT_mono {K : PySem.W.Frag} {B B' : Hp} {a : Addr} {xs : List V} (s : Sbm B B') (h : TpA K B a xs) : SqT K B' a xs := (h.subm s).elim (fun z => .inl (.inl z)) .inr
mutual
theorem Rp.mono {K : PySem.W.Frag} {B B' : Hp} (s : Same B B') : ∀ {v : V} {d : D}, Rp K B v d → Rp K B' v d
  | _, _, .non => .non
  | _, _, .bl b => .bl b
  | _, _, .int i => .int i
  | _, _, .str x => .str x
  | _, _, .ty n => .ty n
  | _, _, .scr h => .scr (s.seq h)
  | _, _, .lst h r => .lst (s _ _ h) (RpAll.mono s r)
  | _, _, .tup h r => .tup (h.mono s) (RpAll.mono s r)
  | _, _, .dct h r => .dct (s _ _ h) (RpKv.mono s r)
  | _, _, .cls h => .cls h
  | _, _, .exc h r => .exc (s _ _ h) (RpF.mono s r)
  | _, _, .obj h1 h2 h3 r => .obj (s _ _ h1) (s _ _ h2) h3 (RpF.mono s r)
  | _, _, .err h1 h2 h3 r => .err (s _ _ h1) (s _ _ h2) h3 (RpF.mono s r)
  | _, _, .sto h => .sto (s _ _ h)
theorem RpAll.mono {K : PySem.W.Frag} {B B' : Hp} (s : Same B B') : ∀ {vs : List V} {ds : List D}, RpAll K B vs ds → RpAll K B' vs ds
  | _, _, .nil => .nil
  | _, _, .cons h r => .cons (h.mono s) (RpAll.mono s r)
theorem RpKv.mono {K : PySem.W.Frag} {B B' : Hp} (s : Same B B') : ∀ {vs : List (Key × V)} {ds : List (D × D)}, RpKv K B vs ds → RpKv K B' vs ds
  | _, _, .nil => .nil
  | _, _, .cons k h r => .cons k (h.mono s) (RpKv.mono s r)
theorem RpF.mono {K : PySem.W.Frag} {B B' : Hp} (s : Same B B') : ∀ {vs : List (Str × V)} {ds : List (Str × D)}, RpF K B vs ds → RpF K B' vs ds
  | _, _, .nil => .nil
  | _, _, .cons h r => .cons (h.mono s) (RpF.mono s r)
end
mutual
/-- nothing of the store in it -/
def D.nm : D → Bool
  | .sto _ => false
  | .lst l => D.nms l
  | .tup l => D.nms l
  | .dct l => D.nmk l
  | .exc _ _ l => D.nmf l
  | .obj _ l => D.nmf l
  | .err _ l => D.nmf l
  | .non => true
  | .bl _ => true
  | .int _ => true
  | .str _ => true
  | .ty _ => true
  | .scr _ => true
  | .cls _ => true
def D.nms : List D → Bool
  | [] => true
  | d :: l => d.nm && D.nms l
def D.nmk : List (D × D) → Bool
  | [] => true
  | (_, d) :: l => d.nm && D.nmk l
def D.nmf : List (Str × D) → Bool
  | [] => true
  | (_, d) :: l => d.nm && D.nmf l
end
mutual
theorem Rp.subu {K : PySem.W.Frag} {B B' : Hp} (s : ∀ a o, B a = some o → isMk o = false → B' a = some o) : ∀ {v : V} {d : D}, Rp K B v d → d.nm = true → Rp K B' v d
  | _, _, .non, _ => .non
  | _, _, .bl b, _ => .bl b
  | _, _, .int i, _ => .int i
  | _, _, .str x, _ => .str x
  | _, _, .ty n, _ => .ty n
  | _, _, .scr h, _ => .scr (h.imp (fun z => z.imp (fun q => s _ _ q rfl) fun ⟨o, q⟩ => ⟨o, s _ _ q rfl⟩) fun z => z)
  | _, _, .lst h r, q => .lst (s _ _ h rfl) (RpAll.subu s r (by simpa [D.nm] using q))
  | _, _, .tup h r, q => .tup (h.imp (fun z => s _ _ z rfl) fun z => z) (RpAll.subu s r (by simpa [D.nm] using q))
  | _, _, .dct h r, q => .dct (s _ _ h rfl) (RpKv.subu s r (by simpa [D.nm] using q))
  | _, _, .cls h, _ => .cls h
  | _, _, .exc h r, q => .exc (s _ _ h rfl) (RpF.subu s r (by simpa [D.nm] using q))
  | _, _, .obj h1 h2 h3 r, q => .obj (s _ _ h1 rfl) (s _ _ h2 rfl) h3 (RpF.subu s r (by simpa [D.nm] using q))
  | _, _, .err h1 h2 h3 r, q => .err (s _ _ h1 rfl) (s _ _ h2 rfl) h3 (RpF.subu s r (by simpa [D.nm] using q))
  | _, _, .sto h, q => by simp [D.nm] at q
theorem RpAll.subu {K : PySem.W.Frag} {B B' : Hp} (s : ∀ a o, B a = some o → isMk o = false → B' a = some o) : ∀ {vs : List V} {ds : List D}, RpAll K B vs ds → D.nms ds = true → RpAll K B' vs ds
  | _, _, .nil, _ => .nil
  | _, _, .cons h r, q => by
    simp only [D.nms, Bool.and_eq_true] at q
    exact .cons (h.subu s q.1) (RpAll.subu s r q.2)
theorem RpKv.subu {K : PySem.W.Frag} {B B' : Hp} (s : ∀ a o, B a = some o → isMk o = false → B' a = some o) : ∀ {vs : List (Key × V)} {ds : List (D × D)}, RpKv K B vs ds → D.nmk ds = true → RpKv K B' vs ds
  | _, _, .nil, _ => .nil
  | _, _, .cons k h r, q => by
    simp only [D.nmk, Bool.and_eq_true] at q
    exact .cons k (h.subu s q.1) (RpKv.subu s r q.2)
theorem RpF.subu {K : PySem.W.Frag} {B B' : Hp} (s : ∀ a o, B a = some o → isMk o = false → B' a = some o) : ∀ {vs : List (Str × V)} {ds : List (Str × D)}, RpF K B vs ds → D.nmf ds = true → RpF K B' vs ds
  | _, _, .nil, _ => .nil
  | _, _, .cons h r, q => by
    simp only [D.nmf, Bool.and_eq_true] at q
    exact .cons (h.subu s q.1) (RpF.subu s r q.2)
end
theorem Rp.subm {K : PySem.W.Frag} {B B' : Hp} (s : Sbm B B') {v : V} {d : D} (h : Rp K B v d) (q : d.nm = true) : Rp K B' v d := h.subu s.at' q
theorem RpAll.subm {K : PySem.W.Frag} {B B' : Hp} (s : Sbm B B') {vs : List V} {ds : List D} (h : RpAll K B vs ds) (q : D.nms ds = true) : RpAll K B' vs ds := h.subu s.at' q
theorem RpKv.subm {K : PySem.W.Frag} {B B' : Hp} (s : Sbm B B') {vs : List (Key × V)} {ds : List (D × D)} (h : RpKv K B vs ds) (q : D.nmk ds = true) : RpKv K B' vs ds := h.subu s.at' q
theorem Sbm.pre {B B' H : Hp} (k : Same B B') (s : Sbm B' H) : Sbm B H := ⟨fun a o h m => s.at' a o (k _ _ h) m, fun a o h m => s.mks a o (k _ _ h) m⟩
theorem Sbm.seq {K : PySem.W.Frag} {B B' : Hp} {a : Addr} {xs : List V} (s : Sbm B B') (h : SqL K B a xs) : SqL K B' a xs :=
  h.imp (fun z => z.imp (fun q => s.get _ _ q) fun ⟨o, q⟩ => ⟨o, s.get _ _ q⟩) fun z => z
section
variable {K : PySem.W.Frag} {B : Hp}
theorem RpAll.length : ∀ {vs : List V} {ds : List D}, RpAll K B vs ds → vs.length = ds.length
  | _, _, .nil => rfl
  | _, _, .cons _ r => by rw [List.length_cons, List.length_cons, r.length]
theorem RpKv.length : ∀ {vs : List (Key × V)} {ds : List (D × D)}, RpKv K B vs ds → vs.length = ds.length
  | _, _, .nil => rfl
  | _, _, .cons _ _ r => by rw [List.length_cons, List.length_cons, r.length]
theorem RpAll.append : ∀ {vs us : List V} {ds es : List D}, RpAll K B vs ds → RpAll K B us es → RpAll K B (vs ++ us) (ds ++ es)
  | _, _, _, _, .nil, h => h
  | _, _, _, _, .cons h r, q => .cons h (r.append q)
theorem RpAll.drop : ∀ {vs : List V} {ds : List D} (n : Nat), RpAll K B vs ds → RpAll K B (vs.drop n) (ds.drop n)
  | _, _, 0, h => h
  | _, _, _ + 1, .nil => .nil
  | _, _, n + 1, .cons _ r => r.drop n
theorem RpAll.take : ∀ {vs : List V} {ds : List D} (n : Nat), RpAll K B vs ds → RpAll K B (vs.take n) (ds.take n)
  | _, _, 0, _ => .nil
  | _, _, _ + 1, .nil => .nil
  | _, _, n + 1, .cons h r => .cons h (r.take n)
theorem RpAll.get : ∀ {vs : List V} {ds : List D} {i : Nat} {d : D}, RpAll K B vs ds → ds[i]? = some d → ∃ v, vs[i]? = some v ∧ Rp K B v d
  | _, _, _, _, .nil, e => by simp at e
  | _, _, 0, _, .cons h _, e => by simp at e; subst e; exact ⟨_, rfl, h⟩
  | _, _, i + 1, _, .cons _ r, e => by
    obtain ⟨v, h1, h2⟩ := r.get (i := i) (by simpa using e)
    exact ⟨v, by simpa using h1, h2⟩
theorem RpAll.getV : ∀ {vs : List V} {ds : List D} {i : Nat} {v : V}, RpAll K B vs ds → vs[i]? = some v → ∃ d, ds[i]? = some d ∧ Rp K B v d
  | _, _, _, _, .nil, e => by simp at e
  | _, _, 0, _, .cons h _, e => by simp at e; subst e; exact ⟨_, rfl, h⟩
  | _, _, i + 1, _, .cons _ r, e => by
    obtain ⟨d, h1, h2⟩ := r.getV (i := i) (by simpa using e)
    exact ⟨d, by simpa using h1, h2⟩
theorem RpAll.set {v : V} {d : D} (h : Rp K B v d) : ∀ {vs : List V} {ds : List D} (i : Nat), RpAll K B vs ds → RpAll K B (vs.set i v) (ds.set i d)
  | _, _, _, .nil => .nil
  | _, _, 0, .cons _ r => .cons h r
  | _, _, i + 1, .cons q r => .cons q (r.set h i)
theorem RpAll.reverse : ∀ {vs : List V} {ds : List D}, RpAll K B vs ds → RpAll K B vs.reverse ds.reverse
  | _, _, .nil => .nil
  | _, _, .cons h r => by
    rw [List.reverse_cons, List.reverse_cons]
    exact r.reverse.append (.cons h .nil)
theorem RpAll.ints : ∀ {vs : List V} {ns : List Int}, RpAll K B vs (ns.map D.int) → vs = ns.map V.int
  | [], [], _ => rfl
  | _ :: _, [], h => by cases h
  | [], _ :: _, h => by cases h
  | v :: vs, n :: ns, h => by
    cases h with
    | cons a b =>
      cases a
      rw [b.ints]
      rfl
theorem RpAll.strs : ∀ {vs : List V} {ns : List Str}, RpAll K B vs (ns.map D.str) → vs = ns.map V.str
  | [], [], _ => rfl
  | _ :: _, [], h => by cases h
  | [], _ :: _, h => by cases h
  | v :: vs, n :: ns, h => by
    cases h with
    | cons a b =>
      cases a
      rw [b.strs]
      rfl
theorem RpAll.bls : ∀ {vs : List V} {ns : List Bool}, RpAll K B vs (ns.map D.bl) → vs = ns.map V.bl
  | [], [], _ => rfl
  | _ :: _, [], h => by cases h
  | [], _ :: _, h => by cases h
  | v :: vs, n :: ns, h => by
    cases h with
    | cons a b =>
      cases a
      rw [b.bls]
      rfl
theorem RpAll.of_strs : ∀ ns : List Str, RpAll K B (ns.map V.str) (ns.map D.str)
  | [] => .nil
  | _ :: ns => .cons (.str _) (RpAll.of_strs ns)
theorem RpAll.of_ints : ∀ ns : List Int, RpAll K B (ns.map V.int) (ns.map D.int)
  | [] => .nil
  | _ :: ns => .cons (.int _) (RpAll.of_ints ns)
end

/-- a thing that may change, at a: its parts are frozen, itself is not -/
def At (K : PySem.W.Frag) (B H : Hp) (a : Addr) : Cn → Prop
  | .lst ds => ∃ xs, H a = some (.lst xs) ∧ RpAll K B xs ds
  | .dct ds => ∃ ks, H a = some (.dK ks) ∧ RpKv K B ks ds
/-- a value as data now: frozen, or the thing as it stands -/
def RpV (K : PySem.W.Frag) (B H : Hp) (v : V) : D → Prop
  | .lst ds => ∃ a xs, v = .ref a ∧ H a = some (.lst xs) ∧ RpAll K B xs ds
  | .dct ds => ∃ a ks, v = .ref a ∧ H a = some (.dK ks) ∧ RpKv K B ks ds
  | d => Rp K B v d
section
variable {K : PySem.W.Frag} {B B' H H' : Hp} {a : Addr} {c : Cn} {v : V} {d : D}
theorem At.some (h : At K B H a c) : ∃ o, H a = some o := by
  cases c <;> exact ⟨_, h.choose_spec.1⟩
theorem At.mono (h : At K B H a c) (s : Same B B') (e : ∀ o, H a = Option.some o → H' a = Option.some o) : At K B' H' a c := by
  cases c with
  | lst ds => obtain ⟨xs, h1, h2⟩ := h; exact ⟨xs, e _ h1, h2.mono s⟩
  | dct ds => obtain ⟨xs, h1, h2⟩ := h; exact ⟨xs, e _ h1, h2.mono s⟩
theorem At.view (h : At K B H a c) : RpV K B H (.ref a) c.toD := by
  cases c with
  | lst ds => obtain ⟨xs, h1, h2⟩ := h; exact ⟨a, xs, rfl, h1, h2⟩
  | dct ds => obtain ⟨xs, h1, h2⟩ := h; exact ⟨a, xs, rfl, h1, h2⟩
theorem Rp.view (h : Rp K B v d) (s : Sbm B H) : RpV K B H v d := by
  cases h with
  | lst h r => exact ⟨_, _, rfl, s.get _ _ h, r⟩
  | dct h r => exact ⟨_, _, rfl, s.get _ _ h, r⟩
  | non => exact .non
  | bl b => exact .bl b
  | int i => exact .int i
  | str x => exact .str x
  | ty n => exact .ty n
  | scr h => exact .scr h
  | cls h => exact .cls h
  | exc h r => exact .exc h r
  | obj h1 h2 h3 r => exact .obj h1 h2 h3 r
  | err h1 h2 h3 r => exact .err h1 h2 h3 r
  | sto h => exact .sto h
  | tup h r => exact .tup h r
theorem RpV.whole (h : RpV K B H v d) (s : Sbm B H) (q : d.nm = true) : Rp K H v d := by
  cases d with
  | lst ds => obtain ⟨a, xs, rfl, h1, h2⟩ := h; exact .lst h1 (h2.subm s (by simpa [D.nm] using q))
  | dct ds => obtain ⟨a, xs, rfl, h1, h2⟩ := h; exact .dct h1 (h2.subm s (by simpa [D.nm] using q))
  | non => exact Rp.subm s h q
  | bl b => exact Rp.subm s h q
  | int i => exact Rp.subm s h q
  | str x => exact Rp.subm s h q
  | ty n => exact Rp.subm s h q
  | scr l => exact Rp.subm s h q
  | cls l => exact Rp.subm s h q
  | exc a l m => exact Rp.subm s h q
  | obj l m => exact Rp.subm s h q
  | err l m => exact Rp.subm s h q
  | sto l => exact Rp.subm s h q
  | tup l => exact Rp.subm s h q
end

/-! ### the frame and its data -/
def Own (vs : List V) (σ : L2.St) (r : Rho) (a : Addr) : Prop := ∃ (z : Ix) (c : Cn), r.cnt z = some c ∧ adr vs σ z = some (.ref a)
/-- the store st in the heap -/
structure Sto (K : PySem.W.Frag) (B H : Hp) (st : List Cn) : Prop where
  at' : ∀ (k : Nat) (c : Cn), st[k]? = some c → ∃ a, B a = some (mark k) ∧ At K B H a c
  lt : ∀ (a : Addr) (k : Nat), B a = some (mark k) → k < st.length
  inj : ∀ (a a' : Addr) (k : Nat), B a = some (mark k) → B a' = some (mark k) → a = a'
structure Rl (K : PySem.W.Frag) (vs : List V) (B : Hp) (σ : L2.St) (H : Hp) (r : Rho) : Prop where
  sub : Sbm B H
  sto : Sto K B H r.st
  len : r.loc.length = σ.length
  dat : ∀ (i : Nat) (d : D), r.loc[i]? = some (some (.dt d)) → ∃ v, σ[i]? = some (some v) ∧ Rp K B v d
  own : ∀ (z : Ix) (c : Cn), r.cnt z = some c → ∃ a, adr vs σ z = some (.ref a) ∧ B a = none ∧ At K B H a c
  lbo : ∀ (i k : Nat), r.loc[i]? = some (some (.bor k)) → ∃ v, vs[k]? = some v ∧ σ[i]? = some (some v)
  bod : ∀ (k : Nat) (d : D), r.bor[k]? = some (.dt d) → ∃ v, vs[k]? = some v ∧ Rp K B v d
  sep : ∀ (z z' : Ix) (c c' : Cn) (a : Addr), r.cnt z = some c → r.cnt z' = some c' → adr vs σ z = some (.ref a) → adr vs σ z' = some (.ref a) → z = z'
/-- what a piece of code leaves as it was -/
structure Stp (vs : List V) (B H : Hp) (σ : L2.St) (r : Rho) (B' H' : Hp) (σ' : L2.St) (r' : Rho) : Prop where
  sub : Same B B'
  keep : ∀ a o, H a = some o → ¬ Own vs σ r a → NoMk B a → H' a = some o ∧ (B a = none → B' a = none)
  stl : r.st.length ≤ r'.st.length
  dom : ∀ a, H' a = none → H a = none
  own : ∀ a, Own vs σ' r' a → Own vs σ r a ∨ H a = none
  bol : r'.bor.length = r.bor.length
  bod : ∀ (k : Nat) (d : D), r.bor[k]? = some (.dt d) → r'.bor[k]? = some (.dt d)
  boo : ∀ (k : Nat) (c : Cn) (a : Addr), r.bor[k]? = some (.own c) → vs[k]? = some (.ref a) → (∃ c', r'.bor[k]? = some (.own c')) ∨ ∃ d o, r'.bor[k]? = some (.dt d) ∧ B' a = some o ∧ isMk o = false
/-- Hs: the heap where the expression began: a new thing was not there -/
def RpW (K : PySem.W.Frag) (vs : List V) (Hs B : Hp) (σ : L2.St) (H : Hp) (r : Rho) (v : V) : W → Prop
  | .dt d => Rp K B v d
  | .fresh c => ∃ a, v = .ref a ∧ Hs a = none ∧ B a = none ∧ At K B H a c ∧ ¬ Own vs σ r a
  | .cel z => adr vs σ z = some v
section
variable {K : PySem.W.Frag} {vs : List V} {Hs B B' B2 H H' H2 : Hp} {σ σ' σ2 : L2.St} {r r' r2 : Rho} {v : V}
theorem Stp.refl : Stp vs B H σ r B H σ r := ⟨Same.refl B, fun _ _ h _ _ => ⟨h, fun q => q⟩, Nat.le_refl _, fun _ h => h, fun _ h => .inl h, rfl, fun _ _ h => h, fun _ c _ h _ => .inl ⟨c, h⟩⟩
theorem Stp.trans (a : Stp vs B H σ r B' H' σ' r') (b : Stp vs B' H' σ' r' B2 H2 σ2 r2) : Stp vs B H σ r B2 H2 σ2 r2 where
  sub := a.sub.trans b.sub
  keep := fun x o h n m => by
    obtain ⟨h1, n1⟩ := a.keep x o h n m
    have n2 : ¬ Own vs σ' r' x := fun q => (a.own x q).elim n fun z => by rw [h] at z; cases z
    have m2 : NoMk B' x := fun k q => by
      cases e : B x with
      | none => rw [n1 e] at q; cases q
      | some u => rw [a.sub _ _ e] at q; cases q; exact m k e
    obtain ⟨h2, n3⟩ := b.keep x o h1 n2 m2
    exact ⟨h2, fun z => n3 (n1 z)⟩
  stl := Nat.le_trans a.stl b.stl
  dom := fun x h => a.dom x (b.dom x h)
  own := fun x h => (b.own x h).elim (a.own x) fun z => .inr (a.dom x z)
  bol := b.bol.trans a.bol
  bod := fun k d h => b.bod k d (a.bod k d h)
  boo := fun k c x h hv => by
    rcases a.boo k c x h hv with ⟨c', h1⟩ | ⟨d, o, h1, h2⟩
    · exact b.boo k c' x h1 hv
    · exact .inr ⟨d, o, b.bod k d h1, b.sub _ _ h2.1, h2.2⟩
theorem Stp.nomk {a : Addr} {o : HO} (s : Stp vs B H σ r B' H' σ' r') (h : H a = some o) (n : ¬ Own vs σ r a) (m : NoMk B a) : NoMk B' a := fun k q => by
  cases e : B a with
  | none => rw [(s.keep a o h n m).2 e] at q; cases q
  | some u => rw [s.sub _ _ e] at q; cases q; exact m k e
theorem RpW.stp {w : W} (h : RpW K vs Hs B σ H r v w) (s : Stp vs B H σ r B' H' σ r') : RpW K vs Hs B' σ H' r' v w := by
  cases w with
  | dt d => exact Rp.mono s.sub h
  | cel z => exact h
  | fresh c =>
    obtain ⟨a, rfl, hs, hb, ha, hn⟩ := h
    obtain ⟨o, ho⟩ := ha.some
    obtain ⟨_, k2⟩ := s.keep a o ho hn (noMk_none hb)
    refine ⟨a, rfl, hs, k2 hb, ha.mono s.sub fun o' e => (s.keep a o' e hn (noMk_none hb)).1, fun q => ?_⟩
    rcases s.own a q with z | z
    · exact hn z
    · rw [ho] at z; cases z
theorem RpW.back {w : W} (h : RpW K vs H B' σ H' r v w) (s : ∀ a, H a = none → Hs a = none) : RpW K vs Hs B' σ H' r v w := by
  cases w with
  | dt d => exact h
  | cel z => exact h
  | fresh c =>
    obtain ⟨a, rfl, hs, q⟩ := h
    exact ⟨a, rfl, s a hs, q⟩
theorem Rl.look {z : Ix} {d : D} (R : Rl K vs B σ H r) (h : r.look z = some d) (ha : adr vs σ z = some v) : RpV K B H v d := by
  cases z with
  | loc i =>
    cases e : r.loc[i]? with
    | none => simp [Rho.look, e] at h
    | some o =>
      cases o with
      | none => simp [Rho.look, e] at h
      | some s =>
        cases s with
        | dt d' =>
          simp only [Rho.look, e, Option.some.injEq] at h
          subst h
          obtain ⟨u, hu, ru⟩ := R.dat i d' e
          simp only [adr, hu, Option.some.injEq] at ha
          subst ha
          exact ru.view R.sub
        | own c =>
          simp only [Rho.look, e, Option.some.injEq] at h
          subst h
          obtain ⟨a, h1, h2, h3⟩ := R.own (.loc i) c (by simp [Rho.cnt, e])
          rw [h1] at ha; cases ha
          exact h3.view
        | bor k => simp [Rho.look, e] at h
  | bor k =>
    cases e : r.bor[k]? with
    | none => simp [Rho.look, e] at h
    | some s =>
      cases s with
      | dt d' =>
        simp only [Rho.look, e, Option.some.injEq] at h
        subst h
        obtain ⟨u, hu, ru⟩ := R.bod k d' e
        have ha' : vs[k]? = some v := ha
        rw [hu] at ha'; cases ha'
        exact ru.view R.sub
      | own c =>
        simp only [Rho.look, e, Option.some.injEq] at h
        subst h
        obtain ⟨a, h1, h2, h3⟩ := R.own (.bor k) c (by simp [Rho.cnt, e])
        rw [h1] at ha; cases ha
        exact h3.view
theorem Rl.cur {d d' : D} (R : Rl K vs B σ H r) (h : Rp K B v d) (e : r.cur d = some d') : RpV K B H v d' := by
  unfold Rho.cur at e
  split at e
  · cases e; exact h.view R.sub
  · cases h with
    | sto hb =>
      rename_i a k
      simp only [D.cur] at e
      split at e
      · rename_i c hc
        cases e
        obtain ⟨a', h1, h2⟩ := R.sto.at' k c hc
        obtain rfl := R.sto.inj _ _ _ h1 hb
        exact h2.view
      · cases e
    | lst h q => cases e; exact Rp.view (.lst h q) R.sub
    | dct h q => cases e; exact Rp.view (.dct h q) R.sub
    | non => cases e; exact .non
    | bl b => cases e; exact .bl b
    | int i => cases e; exact .int i
    | str x => cases e; exact .str x
    | ty n => cases e; exact .ty n
    | scr h => cases e; exact .scr h
    | cls h => cases e; exact .cls h
    | exc h r => cases e; exact .exc h r
    | obj h1 h2 h3 r => cases e; exact .obj h1 h2 h3 r
    | err h1 h2 h3 r => cases e; exact .err h1 h2 h3 r
    | tup h r => cases e; exact .tup h r
theorem RpW.view {w : W} {d : D} (R : Rl K vs B σ H r) (h : RpW K vs Hs B σ H r v w) (e : w.view r = some d) : RpV K B H v d := by
  cases w with
  | dt d' => exact R.cur h e
  | fresh c => cases e; obtain ⟨a, rfl, _, _, ha, _⟩ := h; exact ha.view
  | cel z => exact R.look e h
end

/-! ### new things -/
structure Ext (B H B' H' : Hp) : Prop where
  sub : Same B B'
  keep : Same H H'
  new : ∀ a o, H a = some o → B a = none → B' a = none
  mks : ∀ a k, B' a = some (mark k) → B a = some (mark k)
def RpB (K : PySem.W.Frag) (H B' H' : Hp) (v : V) : Bo → Prop
  | .dt d => Rp K B' v d
  | .own c => ∃ a, v = .ref a ∧ H a = none ∧ B' a = none ∧ At K B' H' a c
def Bo.toW : Bo → W
  | .dt d => .dt d
  | .own c => .fresh c
section
variable {K : PySem.W.Frag} {vs : List V} {Hs B B' B2 H H' H2 : Hp} {σ σ' : L2.St} {r : Rho} {v : V} {p : Addr} {o : HO}
theorem Ext.refl : Ext B H B H := ⟨Same.refl B, Same.refl H, fun _ _ _ h => h, fun _ _ h => h⟩
theorem same_upd (n : H p = none) : Same H (upd H p o) := fun a u h => by rw [upd_ne (ne_of_none h n)]; exact h
theorem Ext.plain (n : H p = none) : Ext B H B (upd H p o) := ⟨Same.refl B, same_upd n, fun _ _ _ h => h, fun _ _ h => h⟩
theorem none_of_sub (s : Sbm B H) (n : H p = none) : B p = none := by
  cases e : B p with
  | none => rfl
  | some u => obtain ⟨v, hv⟩ := s.some e; rw [n] at hv; cases hv
theorem not_mark {k : Nat} (m : isMk o = false) : o ≠ mark k := fun e => by subst e; cases m
theorem Ext.frozen (s : Sbm B H) (n : H p = none) (m : isMk o = false := by rfl) : Ext B H (upd B p o) (upd H p o) :=
  ⟨same_upd (none_of_sub s n), same_upd n, fun a u h q => by rw [upd_ne (ne_of_none h n)]; exact q, fun a k h => by
    by_cases e : a = p
    · subst e; rw [upd_same] at h; exact absurd (Option.some.inj h) (not_mark m)
    · rw [upd_ne e] at h; exact h⟩
theorem same_both (s : Sbm B H) (m : isMk o = false := by rfl) : Sbm (upd B p o) (upd H p o) := ⟨fun a u h z => by
  by_cases e : a = p
  · subst e; rw [upd_same] at h ⊢; exact h
  · rw [upd_ne e] at h ⊢; exact s.at' _ _ h z, fun a u h z => by
  by_cases e : a = p
  · subst e; rw [upd_same] at h; cases h; rw [m] at z; cases z
  · rw [upd_ne e] at h ⊢; exact s.mks _ _ h z⟩
theorem Sbm.trans {B H H' : Hp} (s : Sbm B H) (k : Same H H') : Sbm B H' := ⟨fun a o h m => k _ _ (s.at' a o h m), fun a o h m => by
  obtain ⟨h1, u, h2⟩ := s.mks a o h m
  exact ⟨h1, u, k _ _ h2⟩⟩
theorem Ext.trans (a : Ext B H B' H') (b : Ext B' H' B2 H2) : Ext B H B2 H2 :=
  ⟨a.sub.trans b.sub, a.keep.trans b.keep, fun x u h q => b.new x u (a.keep _ _ h) (a.new x u h q), fun x k h => a.mks x k (b.mks x k h)⟩
theorem Sto.ext {st : List Cn} (S : Sto K B H st) (e : Ext B H B' H') : Sto K B' H' st where
  at' := fun k c h => by
    obtain ⟨a, h1, h2⟩ := S.at' k c h
    exact ⟨a, e.sub _ _ h1, h2.mono e.sub fun o q => e.keep _ _ q⟩
  lt := fun a k h => S.lt a k (e.mks a k h)
  inj := fun a a' k h h' => S.inj a a' k (e.mks a k h) (e.mks a' k h')
theorem Rl.ext (R : Rl K vs B σ H r) (e : Ext B H B' H') (s : Sbm B' H') : Rl K vs B' σ H' r where
  sub := s
  sto := R.sto.ext e
  len := R.len
  dat := fun i d h => by obtain ⟨v, h1, h2⟩ := R.dat i d h; exact ⟨v, h1, h2.mono e.sub⟩
  own := fun z c h => by
    obtain ⟨a, h1, h2, h3⟩ := R.own z c h
    obtain ⟨u, hu⟩ := h3.some
    exact ⟨a, h1, e.new a u hu h2, h3.mono e.sub fun o q => e.keep _ _ q⟩
  lbo := R.lbo
  bod := fun k d h => by obtain ⟨v, h1, h2⟩ := R.bod k d h; exact ⟨v, h1, h2.mono e.sub⟩
  sep := R.sep
theorem Ext.stp (e : Ext B H B' H') : Stp vs B H σ r B' H' σ r :=
  ⟨e.sub, fun a u h _ _ => ⟨e.keep _ _ h, e.new a u h⟩, Nat.le_refl _, fun _ h => e.keep.free h, fun _ h => .inl h, rfl, fun _ _ h => h, fun _ c _ h _ => .inl ⟨c, h⟩⟩
theorem Rl.notOwn (R : Rl K vs B σ H r) {a : Addr} (n : H a = none) : ¬ Own vs σ r a := fun ⟨z, c, h1, h2⟩ => by
  obtain ⟨b, q1, q2, q3⟩ := R.own z c h1
  rw [h2] at q1; cases q1
  obtain ⟨u, hu⟩ := q3.some
  rw [n] at hu; cases hu
theorem RpB.toW {b : Bo} (R : Rl K vs B σ H r) (h : RpB K H B' H' v b) (d : ∀ a, H a = none → Hs a = none) : RpW K vs Hs B' σ H' r v b.toW := by
  cases b with
  | dt d => exact h
  | own c =>
    obtain ⟨a, rfl, n, nb, ha⟩ := h
    exact ⟨a, rfl, d a n, nb, ha, R.notOwn n⟩
theorem Rl.notOwnB (R : Rl K vs B σ H r) {a : Addr} {o : HO} (n : B a = some o) : ¬ Own vs σ r a := fun ⟨z, c, h1, h2⟩ => by
  obtain ⟨b, q1, q2, q3⟩ := R.own z c h1
  rw [h2] at q1; cases q1
  rw [n] at q2; cases q2
end

/-! ### a thing is changed, or frozen -/
section
variable {r : Rho} {z : Ix} {c c' : Cn} {d : D}
theorem lt_of_cnt_loc {i : Nat} (h : r.cnt (.loc i) = some c) : i < r.loc.length := by
  cases e : r.loc[i]? with
  | none => simp [Rho.cnt, e] at h
  | some s => exact (List.getElem?_eq_some_iff.mp e).1
theorem lt_of_cnt_bor {i : Nat} (h : r.cnt (.bor i) = some c) : i < r.bor.length := by
  cases e : r.bor[i]? with
  | none => simp [Rho.cnt, e] at h
  | some s => exact (List.getElem?_eq_some_iff.mp e).1
theorem cnt_setc (h : r.cnt z = some c) (z' : Ix) : (r.setc c' z).cnt z' = if z' = z then some c' else r.cnt z' := by
  cases z with
  | loc i =>
    have hi := lt_of_cnt_loc h
    cases z' with
    | loc j =>
      by_cases e : j = i
      · subst e; simp [Rho.setc, Rho.cnt, List.getElem?_set_self hi]
      · have : ¬ Ix.loc j = Ix.loc i := fun q => e (Ix.loc.inj q)
        simp [Rho.setc, Rho.cnt, List.getElem?_set_ne (Ne.symm e), this]
    | bor j => simp [Rho.setc, Rho.cnt]
  | bor i =>
    have hi := lt_of_cnt_bor h
    cases z' with
    | bor j =>
      by_cases e : j = i
      · subst e; simp [Rho.setc, Rho.cnt, List.getElem?_set_self hi]
      · have : ¬ Ix.bor j = Ix.bor i := fun q => e (Ix.bor.inj q)
        simp [Rho.setc, Rho.cnt, List.getElem?_set_ne (Ne.symm e), this]
    | loc j => simp [Rho.setc, Rho.cnt]
theorem cnt_frz (h : r.cnt z = some c) (z' : Ix) : (r.frz d z).cnt z' = if z' = z then none else r.cnt z' := by
  cases z with
  | loc i =>
    have hi := lt_of_cnt_loc h
    cases z' with
    | loc j =>
      by_cases e : j = i
      · subst e; simp [Rho.frz, Rho.cnt, List.getElem?_set_self hi]
      · have : ¬ Ix.loc j = Ix.loc i := fun q => e (Ix.loc.inj q)
        simp [Rho.frz, Rho.cnt, List.getElem?_set_ne (Ne.symm e), this]
    | bor j => simp [Rho.frz, Rho.cnt]
  | bor i =>
    have hi := lt_of_cnt_bor h
    cases z' with
    | bor j =>
      by_cases e : j = i
      · subst e; simp [Rho.frz, Rho.cnt, List.getElem?_set_self hi]
      · have : ¬ Ix.bor j = Ix.bor i := fun q => e (Ix.bor.inj q)
        simp [Rho.frz, Rho.cnt, List.getElem?_set_ne (Ne.symm e), this]
    | loc j => simp [Rho.frz, Rho.cnt]
end
section
variable {K : PySem.W.Frag} {vs : List V} {B H : Hp} {σ : L2.St} {r : Rho} {z : Ix} {c c' : Cn} {a : Addr} {o : HO}
/-- the thing at a becomes c' -/
theorem Sto.off {K : PySem.W.Frag} {B H H' : Hp} {st : List Cn} (S : Sto K B H st) (k : ∀ b j o, B b = some (mark j) → H b = some o → H' b = some o) : Sto K B H' st where
  at' := fun j c h => by
    obtain ⟨b, h1, h2⟩ := S.at' j c h
    exact ⟨b, h1, h2.mono (Same.refl B) fun o q => k b j o h1 q⟩
  lt := S.lt
  inj := S.inj
theorem Rl.put (R : Rl K vs B σ H r) (hz : r.cnt z = some c) (ha : adr vs σ z = some (.ref a)) (hc : At K B (upd H a o) a c') :
    Rl K vs B σ (upd H a o) (r.setc c' z) ∧ Stp vs B H σ r B (upd H a o) σ (r.setc c' z) := by
  obtain ⟨a', q1, q2, q3⟩ := R.own z c hz
  rw [ha] at q1; cases q1
  have own' : ∀ x, Own vs σ (r.setc c' z) x → Own vs σ r x := fun x ⟨y, e, h1, h2⟩ => by
    rw [cnt_setc hz] at h1
    by_cases hy : y = z
    · subst hy; exact ⟨y, c, hz, h2⟩
    · rw [if_neg hy] at h1; exact ⟨y, e, h1, h2⟩
  have hsub : Sbm B (upd H a o) := ⟨fun x u h m => by
    have : x ≠ a := fun e => by subst e; rw [q2] at h; cases h
    rw [upd_ne this]; exact R.sub.at' _ _ h m, fun x u h m => by
    have : x ≠ a := fun e => by subst e; rw [q2] at h; cases h
    rw [upd_ne this]; exact R.sub.mks _ _ h m⟩
  have hst : (r.setc c' z).st = r.st := by cases z <;> rfl
  refine ⟨⟨hsub, ?_, ?_, ?_, ?_, ?_, ?_, ?_⟩, ⟨Same.refl B, ?_, by rw [hst]; exact Nat.le_refl _, ?_, fun x h => .inl (own' x h), ?_, ?_, ?_⟩⟩
  · rw [hst]
    exact R.sto.off fun b j u h1 h2 => by
      have : b ≠ a := fun e => by subst e; rw [q2] at h1; cases h1
      rw [upd_ne this]; exact h2
  · cases z <;> simp [Rho.setc, R.len]
  · intro i d h
    cases z with
    | loc j =>
      by_cases e : j = i
      · subst e
        have := lt_of_cnt_loc hz
        simp [Rho.setc, List.getElem?_set_self this] at h
      · exact R.dat i d (by simpa [Rho.setc, List.getElem?_set_ne e] using h)
    | bor j => exact R.dat i d h
  · intro y e h
    rw [cnt_setc hz] at h
    by_cases hy : y = z
    · subst hy
      rw [if_pos rfl] at h; cases h
      exact ⟨a, ha, q2, hc⟩
    · rw [if_neg hy] at h
      obtain ⟨b, p1, p2, p3⟩ := R.own y e h
      have nb : b ≠ a := fun q => hy (R.sep y z e c a h hz (q ▸ p1) ha)
      exact ⟨b, p1, p2, p3.mono (Same.refl B) fun u q => by rw [upd_ne nb]; exact q⟩
  · intro i k h
    cases z with
    | loc j =>
      by_cases e : j = i
      · subst e
        have := lt_of_cnt_loc hz
        simp [Rho.setc, List.getElem?_set_self this] at h
      · exact R.lbo i k (by simpa [Rho.setc, List.getElem?_set_ne e] using h)
    | bor j => exact R.lbo i k h
  · intro k d h
    cases z with
    | bor j =>
      by_cases e : j = k
      · subst e
        have := lt_of_cnt_bor hz
        simp [Rho.setc, List.getElem?_set_self this] at h
      · exact R.bod k d (by simpa [Rho.setc, List.getElem?_set_ne e] using h)
    | loc j => exact R.bod k d h
  · intro y y' e e' x h h' p p'
    rw [cnt_setc hz] at h h'
    have g : ∀ {y : Ix} {e : Cn}, (if y = z then some c' else r.cnt y) = some e → ∃ e2, r.cnt y = some e2 := fun {y e} h => by
      by_cases hy : y = z
      · subst hy; exact ⟨c, hz⟩
      · rw [if_neg hy] at h; exact ⟨e, h⟩
    obtain ⟨e1, g1⟩ := g h
    obtain ⟨e2, g2⟩ := g h'
    exact R.sep y y' e1 e2 x g1 g2 p p'
  · intro x u h n _
    have : x ≠ a := fun e => by subst e; exact n ⟨z, c, hz, ha⟩
    rw [upd_ne this]
    exact ⟨h, fun q => q⟩
  · intro x h
    by_cases e : x = a
    · subst e; rw [upd_same] at h; cases h
    · rw [upd_ne e] at h; exact h
  · cases z <;> simp [Rho.setc]
  · intro k d h
    cases z with
    | bor j =>
      by_cases e : j = k
      · subst e
        have q : r.cnt (.bor j) = some c := hz
        simp [Rho.cnt, h] at q
      · simpa [Rho.setc, List.getElem?_set_ne e] using h
    | loc j => exact h
  · intro k e x h _
    cases z with
    | bor j =>
      by_cases e2 : j = k
      · subst e2
        exact .inl ⟨c', by simp [Rho.setc, List.getElem?_set_self (lt_of_cnt_bor hz)]⟩
      · exact .inl ⟨e, by simpa [Rho.setc, List.getElem?_set_ne e2] using h⟩
    | loc j => exact .inl ⟨e, h⟩
theorem At.rp (h : At K B H a c) (n : B a = none) : ∃ o, H a = Option.some o ∧ isMk o = false ∧ Rp K (upd B a o) (.ref a) c.toD := by
  cases c with
  | lst ds =>
    obtain ⟨xs, h1, h2⟩ := h
    exact ⟨_, h1, rfl, .lst upd_same (h2.mono (same_upd n))⟩
  | dct ds =>
    obtain ⟨xs, h1, h2⟩ := h
    exact ⟨_, h1, rfl, .dct upd_same (h2.mono (same_upd n))⟩
/-- B grows by an unmarked o at a, which H has already -/
theorem Sto.grow {K : PySem.W.Frag} {B H : Hp} {st : List Cn} {a : Addr} {o : HO} (S : Sto K B H st) (n : B a = none) (m : isMk o = false) : Sto K (upd B a o) H st where
  at' := fun j c h => by
    obtain ⟨b, h1, h2⟩ := S.at' j c h
    exact ⟨b, same_upd n _ _ h1, h2.mono (same_upd n) fun o q => q⟩
  lt := fun b j h => by
    by_cases e : b = a
    · subst e; rw [upd_same] at h; exact absurd (Option.some.inj h) (not_mark m)
    · rw [upd_ne e] at h; exact S.lt b j h
  inj := fun b b' j h h' => by
    by_cases e : b = a
    · subst e; rw [upd_same] at h; exact absurd (Option.some.inj h) (not_mark m)
    · by_cases e' : b' = a
      · subst e'; rw [upd_same] at h'; exact absurd (Option.some.inj h') (not_mark m)
      · rw [upd_ne e] at h; rw [upd_ne e'] at h'; exact S.inj b b' j h h'
theorem Sbm.grow {B H : Hp} {a : Addr} {o : HO} (s : Sbm B H) (h : H a = Option.some o) (m : isMk o = false) : Sbm (upd B a o) H := ⟨fun x u q z => by
    by_cases e : x = a
    · subst e; rw [upd_same] at q; cases q; exact h
    · rw [upd_ne e] at q; exact s.at' _ _ q z, fun x u q z => by
    by_cases e : x = a
    · subst e; rw [upd_same] at q; cases q; rw [m] at z; cases z
    · rw [upd_ne e] at q; exact s.mks _ _ q z⟩
/-- the thing at a is data from now on -/
theorem Rl.freeze (R : Rl K vs B σ H r) (hz : r.cnt z = some c) (ha : adr vs σ z = some (.ref a)) :
    ∃ o, H a = some o ∧ Rp K (upd B a o) (.ref a) c.toD ∧ Rl K vs (upd B a o) σ H (r.frz c.toD z) ∧ Stp vs B H σ r (upd B a o) H σ (r.frz c.toD z) := by
  obtain ⟨a', q1, q2, q3⟩ := R.own z c hz
  rw [ha] at q1; cases q1
  obtain ⟨o, ho, mo, rp⟩ := q3.rp q2
  have hst : (r.frz c.toD z).st = r.st := by cases z <;> rfl
  have sb : Same B (upd B a o) := same_upd q2
  have own' : ∀ x, Own vs σ (r.frz c.toD z) x → Own vs σ r x ∧ x ≠ a := fun x ⟨y, e, h1, h2⟩ => by
    rw [cnt_frz hz] at h1
    by_cases hy : y = z
    · subst hy; rw [if_pos rfl] at h1; cases h1
    · rw [if_neg hy] at h1
      refine ⟨⟨y, e, h1, h2⟩, fun q => hy ?_⟩
      subst q
      exact R.sep y z e c x h1 hz h2 ha
  refine ⟨o, ho, rp, ⟨R.sub.grow ho mo, hst ▸ R.sto.grow q2 mo, ?_, ?_, ?_, ?_, ?_, ?_⟩, ⟨sb, ?_, by rw [hst]; exact Nat.le_refl _, fun _ h => h, fun x h => .inl (own' x h).1, ?_, ?_, ?_⟩⟩
  · cases z <;> simp [Rho.frz, R.len]
  · intro i d h
    cases z with
    | loc j =>
      by_cases e : j = i
      · subst e
        have := lt_of_cnt_loc hz
        simp [Rho.frz, List.getElem?_set_self this] at h
        subst h
        have ha' : (match σ[j]? with | some (some v) => some v | _ => none) = some (V.ref a) := ha
        cases e2 : σ[j]? with
        | none => rw [e2] at ha'; cases ha'
        | some w =>
          cases w with
          | none => rw [e2] at ha'; cases ha'
          | some w => rw [e2] at ha'; cases ha'; exact ⟨_, rfl, rp⟩
      · obtain ⟨v, h1, h2⟩ := R.dat i d (by simpa [Rho.frz, List.getElem?_set_ne e] using h)
        exact ⟨v, h1, h2.mono sb⟩
    | bor j =>
      obtain ⟨v, h1, h2⟩ := R.dat i d h
      exact ⟨v, h1, h2.mono sb⟩
  · intro y e h
    rw [cnt_frz hz] at h
    by_cases hy : y = z
    · subst hy; rw [if_pos rfl] at h; cases h
    · rw [if_neg hy] at h
      obtain ⟨b, p1, p2, p3⟩ := R.own y e h
      have nb : b ≠ a := fun q => hy (R.sep y z e c a h hz (q ▸ p1) ha)
      exact ⟨b, p1, by rw [upd_ne nb]; exact p2, p3.mono sb fun u q => q⟩
  · intro i k h
    cases z with
    | loc j =>
      by_cases e : j = i
      · subst e
        have := lt_of_cnt_loc hz
        simp [Rho.frz, List.getElem?_set_self this] at h
      · exact R.lbo i k (by simpa [Rho.frz, List.getElem?_set_ne e] using h)
    | bor j => exact R.lbo i k h
  · intro k d h
    cases z with
    | bor j =>
      by_cases e : j = k
      · subst e
        have := lt_of_cnt_bor hz
        simp [Rho.frz, List.getElem?_set_self this] at h
        subst h
        exact ⟨_, ha, rp⟩
      · obtain ⟨v, h1, h2⟩ := R.bod k d (by simpa [Rho.frz, List.getElem?_set_ne e] using h)
        exact ⟨v, h1, h2.mono sb⟩
    | loc j =>
      obtain ⟨v, h1, h2⟩ := R.bod k d h
      exact ⟨v, h1, h2.mono sb⟩
  · intro y y' e e' x h h' p p'
    rw [cnt_frz hz] at h h'
    have g : ∀ {y : Ix} {e : Cn}, (if y = z then none else r.cnt y) = some e → r.cnt y = some e := fun {y e} h => by
      by_cases hy : y = z
      · subst hy; rw [if_pos rfl] at h; cases h
      · rw [if_neg hy] at h; exact h
    exact R.sep y y' e e' x (g h) (g h') p p'
  · intro x u h n _
    have : x ≠ a := fun e => by subst e; exact n ⟨z, c, hz, ha⟩
    exact ⟨h, fun q => by rw [upd_ne this]; exact q⟩
  · cases z <;> simp [Rho.frz]
  · intro k d h
    cases z with
    | bor j =>
      by_cases e : j = k
      · subst e
        have q : r.cnt (.bor j) = some c := hz
        simp [Rho.cnt, h] at q
      · simpa [Rho.frz, List.getElem?_set_ne e] using h
    | loc j => exact h
  · intro k e x h hx
    cases z with
    | bor j =>
      by_cases e2 : j = k
      · subst e2
        have hx' : adr vs σ (.bor j) = some (.ref x) := hx
        rw [ha] at hx'; cases hx'
        exact .inr ⟨c.toD, o, by simp [Rho.frz, List.getElem?_set_self (lt_of_cnt_bor hz)], upd_same, mo⟩
      · exact .inl ⟨e, by simpa [Rho.frz, List.getElem?_set_ne e2] using h⟩
    | loc j => exact .inl ⟨e, h⟩
/-- no marks: B lies in H -/
theorem Rl.same (R : Rl K vs B σ H r) (e : r.st = []) : Same B H := fun a o h => by
  cases m : isMk o with
  | false => exact R.sub.at' _ _ h m
  | true =>
    obtain ⟨⟨k, rfl⟩, _⟩ := R.sub.mks _ _ h m
    have := R.sto.lt a k h
    rw [e] at this
    exact absurd this (Nat.not_lt_zero _)
def Rho.sets (r : Rho) (k : Nat) (c : Cn) : Rho := { r with st := r.st.set k c }
def Rho.news (r : Rho) (c : Cn) : Rho := { r with st := r.st ++ [c] }
theorem cnt_sets {k : Nat} {z : Ix} : (r.sets k c).cnt z = r.cnt z := by cases z <;> rfl
theorem cnt_news {z : Ix} : (r.news c).cnt z = r.cnt z := by cases z <;> rfl
theorem own_sets {k : Nat} {x : Addr} (h : Own vs σ (r.sets k c) x) : Own vs σ r x := by
  obtain ⟨z, e, h1, h2⟩ := h
  exact ⟨z, e, by rw [← cnt_sets (k := k) (c := c)]; exact h1, h2⟩
theorem own_news {x : Addr} (h : Own vs σ (r.news c) x) : Own vs σ r x := by
  obtain ⟨z, e, h1, h2⟩ := h
  exact ⟨z, e, by rw [← cnt_news (c := c)]; exact h1, h2⟩
/-- the k-th thing of the store becomes c' -/
theorem Rl.putS {k : Nat} (R : Rl K vs B σ H r) (hk : r.st[k]? = some c) (ha : B a = some (mark k)) (hc : At K B (upd H a o) a c') :
    Rl K vs B σ (upd H a o) (r.sets k c') ∧ Stp vs B H σ r B (upd H a o) σ (r.sets k c') := by
  have kl : k < r.st.length := (List.getElem?_eq_some_iff.mp hk).1
  have hsub : Sbm B (upd H a o) := ⟨fun x u h m => by
    have : x ≠ a := fun e => by subst e; rw [ha] at h; cases h; cases m
    rw [upd_ne this]; exact R.sub.at' _ _ h m, fun x u h m => by
    refine ⟨(R.sub.mks _ _ h m).1, ?_⟩
    by_cases e : x = a
    · subst e; exact ⟨o, upd_same⟩
    · rw [upd_ne e]; exact (R.sub.mks _ _ h m).2⟩
  have nb : ∀ b, B b = none → b ≠ a := fun b h e => by subst e; rw [ha] at h; cases h
  refine ⟨⟨hsub, ⟨fun j d h => ?_, fun b j h => ?_, R.sto.inj⟩, R.len, R.dat, fun z d h => ?_, R.lbo, R.bod, fun z z' d d' x h h' => R.sep z z' d d' x (by rw [← cnt_sets (k := k) (c := c')]; exact h) (by rw [← cnt_sets (k := k) (c := c')]; exact h')⟩,
    ⟨Same.refl B, fun x u h _ m => ?_, by simp [Rho.sets], fun x h => ?_, fun x h => .inl (own_sets h), rfl, fun _ _ h => h, fun _ d _ h _ => .inl ⟨d, h⟩⟩⟩
  · have h' : (r.st.set k c')[j]? = some d := h
    by_cases e : k = j
    · subst e
      rw [List.getElem?_set_self kl] at h'
      cases h'
      exact ⟨a, ha, hc⟩
    · rw [List.getElem?_set_ne e] at h'
      obtain ⟨b, h1, h2⟩ := R.sto.at' j d h'
      have : b ≠ a := fun q => by subst q; rw [ha] at h1; exact e (mark_inj (Option.some.inj h1))
      exact ⟨b, h1, h2.mono (Same.refl B) fun u q => by rw [upd_ne this]; exact q⟩
  · show j < (r.st.set k c').length
    rw [List.length_set]
    exact R.sto.lt b j h
  · rw [cnt_sets] at h
    obtain ⟨b, h1, h2, h3⟩ := R.own z d h
    exact ⟨b, h1, h2, h3.mono (Same.refl B) fun u q => by rw [upd_ne (nb b h2)]; exact q⟩
  · have : x ≠ a := fun e => by subst e; exact m k ha
    rw [upd_ne this]
    exact ⟨h, fun q => q⟩
  · by_cases e : x = a
    · subst e; rw [upd_same] at h; cases h
    · rw [upd_ne e] at h; exact h
/-- a thing that no one holds goes to the store -/
theorem Rl.store (R : Rl K vs B σ H r) (nb : B a = none) (no : ¬ Own vs σ r a) (hc : At K B H a c) :
    ∃ B', Same B B' ∧ B' a = some (mark r.st.length) ∧ Rl K vs B' σ H (r.news c) ∧ Stp vs B (fun x => if x = a then none else H x) σ r B' H σ (r.news c) ∧ ∀ x, x ≠ a → B' x = B x := by
  have sb : Same B (upd B a (mark r.st.length)) := same_upd nb
  have hs := hc.some
  refine ⟨upd B a (mark r.st.length), sb, upd_same, ⟨⟨fun x u h m => ?_, fun x u h m => ?_⟩, ⟨fun j d h => ?_, fun b j h => ?_, fun b b' j h h' => ?_⟩, R.len, fun i d h => ?_, fun z d h => ?_, R.lbo, fun k d h => ?_, fun z z' d d' x h h' => R.sep z z' d d' x (by rw [← cnt_news (c := c)]; exact h) (by rw [← cnt_news (c := c)]; exact h')⟩,
    ⟨sb, fun x u h n m => ?_, by simp [Rho.news], fun x h => ?_, fun x h => .inl (own_news h), rfl, fun _ _ h => h, fun _ d _ h _ => .inl ⟨d, h⟩⟩, fun x h => upd_ne h⟩
  · by_cases e : x = a
    · subst e; rw [upd_same] at h; cases h; cases m
    · rw [upd_ne e] at h; exact R.sub.at' _ _ h m
  · by_cases e : x = a
    · subst e; rw [upd_same] at h; cases h; exact ⟨⟨_, rfl⟩, hs⟩
    · rw [upd_ne e] at h; exact R.sub.mks _ _ h m
  · have h' : (r.st ++ [c])[j]? = some d := h
    by_cases e : j < r.st.length
    · rw [List.getElem?_append_left e] at h'
      obtain ⟨b, h1, h2⟩ := R.sto.at' j d h'
      exact ⟨b, sb _ _ h1, h2.mono sb fun u q => q⟩
    · rw [List.getElem?_append_right (by omega)] at h'
      have e2 : j - r.st.length = 0 := by
        cases e3 : j - r.st.length with
        | zero => rfl
        | succ n => rw [e3] at h'; simp at h'
      rw [e2] at h'
      cases h'
      obtain rfl : j = r.st.length := by omega
      exact ⟨a, upd_same, hc.mono sb fun u q => q⟩
  · show j < (r.st ++ [c]).length
    rw [List.length_append]
    by_cases e : b = a
    · subst e; rw [upd_same] at h; have := mark_inj (Option.some.inj h); simp; omega
    · rw [upd_ne e] at h; have := R.sto.lt b j h; omega
  · by_cases e : b = a
    · by_cases e' : b' = a
      · rw [e, e']
      · subst e
        rw [upd_same] at h
        rw [upd_ne e'] at h'
        have h1 := mark_inj (Option.some.inj h)
        have h2 := R.sto.lt b' j h'
        omega
    · by_cases e' : b' = a
      · subst e'
        rw [upd_same] at h'
        rw [upd_ne e] at h
        have h1 := mark_inj (Option.some.inj h')
        have h2 := R.sto.lt b j h
        omega
      · rw [upd_ne e] at h; rw [upd_ne e'] at h'; exact R.sto.inj b b' j h h'
  · obtain ⟨v, h1, h2⟩ := R.dat i d h
    exact ⟨v, h1, h2.mono sb⟩
  · rw [cnt_news] at h
    obtain ⟨b, h1, h2, h3⟩ := R.own z d h
    have : b ≠ a := fun e => by subst e; exact no ⟨z, d, h, h1⟩
    exact ⟨b, h1, by rw [upd_ne this]; exact h2, h3.mono sb fun u q => q⟩
  · obtain ⟨v, h1, h2⟩ := R.bod k d h
    exact ⟨v, h1, h2.mono sb⟩
  · have : x ≠ a := fun e => by subst e; simp at h
    simp [this] at h
    exact ⟨h, fun q => by rw [upd_ne this]; exact q⟩
  · by_cases e : x = a
    · simp [e]
    · simp [e]; exact h
end
end Lc

set_option Elab.async false
set_option maxRecDepth 100000
set_option maxHeartbeats 4000000
/-! Part B: what a piece of syntax denotes over plain data; expressions and tests. -/
namespace Lc
open PySem L2

/-- an exception's class and its attributes -/
def RpXK (K : PySem.W.Frag) (mg : Str → Option Value) (B : Hp) (cl : Value) (dd : Option Addr) (x : Ex) : Prop :=
  ∃ C a fs, cl = .ref C ∧ mg x.cls = some (.ref C) ∧ dd = some a ∧ B a = some (.xd fs) ∧ RpF K B fs x.fs
abbrev RpX (X : Cx) (B : Hp) (cl : Value) (dd : Option Addr) (x : Ex) : Prop := RpXK X.K X.mg B cl dd x

def Post {α β : Type} (X : Cx) (vs : List V) (Wx : WX) (B H : Hp) (σ : L2.St) (r : Rho) (res : Res α) (rel : Hp → Hp → Rho → β → α → Prop) (Q : β → Hp → Prop) : Prop :=
  match res with
  | .ok a r' => ∀ b B' H', Stp vs B H σ r B' H' σ r' → Rl X.K vs B' σ H' r' → rel B' H' r' b a → Q b H'
  | .exc x r' => ∀ cl dd B' H', Stp vs B H σ r B' H' σ r' → Rl X.K vs B' σ H' r' → RpX X B' cl dd x → Wx cl dd σ H'
  | .fail => False
abbrev Fam (β α : Type) := Hp → Hp → Hp → Rho → β → α → Prop
def Back {β α : Type} (F : Fam β α) : Prop := ∀ Hs H B' H' r' b a, (∀ x, H x = none → Hs x = none) → F H B' H' r' b a → F Hs B' H' r' b a
def fW (X : Cx) (vs : List V) (σ : L2.St) : Fam V W := fun Hs B' H' r' v w => RpW X.K vs Hs B' σ H' r' v w
def fT : Fam Bool Bool := fun _ _ _ _ b a => b = a
theorem back_W {X : Cx} {vs : List V} {σ : L2.St} : Back (fW X vs σ) := fun _ _ _ _ _ _ _ s h => RpW.back h s
theorem back_T : Back fT := fun _ _ _ _ _ _ _ _ h => h
section
variable {X : Cx} {vs : List V} {Wx : WX} {B H : Hp} {σ : L2.St} {r : Rho}
/-- what follows, seen from the start -/
theorem Post.bind0 {α β γ δ : Type} {rel1 : Hp → Hp → Rho → β → α → Prop} {rel2 : Hp → Hp → Rho → δ → γ → Prop} {m : M α} {k : α → M γ} {Q1 : β → Hp → Prop} {Q2 : δ → Hp → Prop} (h : Post X vs Wx B H σ r (M.bind m k r) rel2 Q2)
    (hk : ∀ b a B1 H1 r1, Stp vs B H σ r B1 H1 σ r1 → Rl X.K vs B1 σ H1 r1 → rel1 B1 H1 r1 b a → Post X vs Wx B H σ r (k a r1) rel2 Q2 → Q1 b H1) : Post X vs Wx B H σ r (m r) rel1 Q1 := by
  cases hm : m r with
  | ok a r1 =>
    have e : M.bind m k r = k a r1 := by simp [M.bind, hm]
    rw [e] at h
    exact fun b B1 H1 s1 R1 f1 => hk b a B1 H1 r1 s1 R1 f1 h
  | exc x r1 =>
    have e : M.bind m k r = .exc x r1 := by simp [M.bind, hm]
    rw [e] at h
    exact h
  | fail =>
    have e : M.bind m k r = .fail := by simp [M.bind, hm]
    rw [e] at h
    exact h.elim
/-- the same, seen from further on -/
theorem Post.shift {γ δ : Type} {F : Fam δ γ} {B1 H1 : Hp} {r1 : Rho} {res : Res γ} {Q : δ → Hp → Prop} (hF : Back F) (s1 : Stp vs B H σ r B1 H1 σ r1) (h : Post X vs Wx B H σ r res (F H) Q) : Post X vs Wx B1 H1 σ r1 res (F H1) Q := by
  cases res with
  | ok c r2 => exact fun d B2 H2 s2 R2 f2 => h d B2 H2 (s1.trans s2) R2 (hF _ _ _ _ _ _ _ s1.dom f2)
  | exc x r2 => exact fun cl dd B2 H2 s2 R2 f2 => h cl dd B2 H2 (s1.trans s2) R2 f2
  | fail => exact h.elim
theorem Post.bind {α β γ δ : Type} {F1 : Fam β α} {F2 : Fam δ γ} {m : M α} {k : α → M γ} {Q1 : β → Hp → Prop} {Q2 : δ → Hp → Prop} (hF : Back F2) (h : Post X vs Wx B H σ r (M.bind m k r) (F2 H) Q2)
    (hk : ∀ b a B1 H1 r1, Stp vs B H σ r B1 H1 σ r1 → Rl X.K vs B1 σ H1 r1 → F1 H B1 H1 r1 b a → Post X vs Wx B1 H1 σ r1 (k a r1) (F2 H1) Q2 → Q1 b H1) : Post X vs Wx B H σ r (m r) (F1 H) Q1 :=
  Post.bind0 h fun b a B1 H1 r1 s1 R1 f1 h1 => hk b a B1 H1 r1 s1 R1 f1 (h1.shift hF s1)
/-- a pure end: nothing changes but for new things -/
theorem Post.fin {α β : Type} {F : Fam β α} {a : α} {b : β} {B' H' : Hp} {Q : β → Hp → Prop} (R : Rl X.K vs B σ H r) (h : Post X vs Wx B H σ r (.ok a r) (F H) Q) (e : Ext B H B' H') (s : Sbm B' H') (f : F H B' H' r b a) : Q b H' :=
  h b B' H' e.stp (R.ext e s) f
end

structure DE (X : Cx) (e : Expr) (f : M W) : Prop where
  run : ∀ Wx, Takes X Wx → ∃ t, PE X e t ∧ ∀ vs B σ H r Q, Rl X.K vs B σ H r → Post X vs Wx B H σ r (f r) (fW X vs σ H) Q → t σ H Q
structure DT (X : Cx) (e : Expr) (f : M Bool) : Prop where
  run : ∀ Wx, Takes X Wx → ∃ t, PT X e t ∧ ∀ vs B σ H r Q, Rl X.K vs B σ H r → Post X vs Wx B H σ r (f r) (fT H) Q → t σ H Q
/-- a test of and, or: whatever its whole is -/
structure DW (X : Cx) (e : Expr) (f : M Bool) : Prop where
  run : ∀ Wx, Takes X Wx → ∃ t, PW X e t ∧ ∀ vs B σ H r Q, Rl X.K vs B σ H r → Post X vs Wx B H σ r (f r) (fT H) Q → t σ H Q
theorem DW.dt {X : Cx} {e : Expr} {f : M Bool} (h : DW X e f) : DT X e f := ⟨fun Wx tk => let ⟨t, a, b⟩ := h.run Wx tk; ⟨t, a.pt, b⟩⟩

/-! ### names and constants -/
def cVar (i : Nat) : M W := fun r => match r.loc[i]? with
  | some (some (.dt d)) => .ok (.dt d) r
  | some (some (.own _)) => .ok (.cel (.loc i)) r
  | some (some (.bor k)) => .ok (.cel (.bor k)) r
  | _ => .fail
def cC (d : D) : M W := fun r => .ok (.dt d) r
section
variable {X : Cx}
theorem de_var {i : Nat} {x : Str} {pos : Pos} (hN : X.N[i]? = some x) (hv : Vis X.env.scope x) (hd : (x == ("__debug__" : Str)) = false) (hcd : (x == ("__classdict__" : Str)) = false) : DE X (.Name x pos) (cVar i) := by
  refine ⟨fun Wx tk => ⟨_, pe_var hN hv hd hcd, fun vs B σ H r Q R h => ?_⟩⟩
  cases e : r.loc[i]? with
  | none => simp only [cVar, e] at h; exact h.elim
  | some o =>
    cases o with
    | none => simp only [cVar, e] at h; exact h.elim
    | some s =>
      cases s with
      | dt d =>
        simp only [cVar, e] at h
        obtain ⟨v, h1, h2⟩ := R.dat i d e
        exact ⟨v, h1, h v B H .refl R h2⟩
      | own c =>
        simp only [cVar, e] at h
        obtain ⟨a, h1, h2, h3⟩ := R.own (.loc i) c (by simp [Rho.cnt, e])
        have h1' := h1
        simp only [adr] at h1'
        cases e2 : σ[i]? with
        | none => rw [e2] at h1'; cases h1'
        | some w =>
          cases w with
          | none => rw [e2] at h1'; cases h1'
          | some w =>
            rw [e2] at h1'; cases h1'
            exact ⟨_, e2, h _ B H .refl R h1⟩
      | bor k =>
        simp only [cVar, e] at h
        obtain ⟨v, h1, h2⟩ := R.lbo i k e
        exact ⟨v, h2, h v B H .refl R h1⟩
theorem de_const {e : Expr} {v : V} {d : D} (hp : PE X e (tC v)) (hr : ∀ B, Rp X.K B v d) : DE X e (cC d) :=
  ⟨fun _ _ => ⟨_, hp, fun _ B _ H _ _ R h => h v B H .refl R (hr B)⟩⟩
theorem de_int {i j pos} : DE X (.Constant (.int i) j pos) (cC (.int i)) := de_const pe_int fun _ => .int i
theorem de_bl {i j pos} : DE X (.Constant (.bool i) j pos) (cC (.bl i)) := de_const pe_bl fun _ => .bl i
theorem de_non {j pos} : DE X (.Constant .none j pos) (cC .non) := de_const pe_non fun _ => .non
theorem de_str {i j pos} : DE X (.Constant (.str i) j pos) (cC (.str i)) := de_const pe_str fun _ => .str i
end

/-! ### pure operations -/
def OpS (X : Cx) (f : Value → Value → Sem Value) (g : D → D → Option Bo) : Prop :=
  ∃ rr : R2, OpR X f rr ∧ ∀ x y da db b, g da db = some b → ∀ B H Q, Sbm B H → RpV X.K B H x da → RpV X.K B H y db → (∀ v B' H', Ext B H B' H' → Sbm B' H' → RpB X.K H B' H' v b → Q v H') → rr x y H Q
def UnS (X : Cx) (f : Value → Sem Value) (g : D → Option Bo) : Prop :=
  ∃ rr, UnR X f rr ∧ ∀ x da b, g da = some b → ∀ B H Q, Sbm B H → RpV X.K B H x da → (∀ v B' H', Ext B H B' H' → Sbm B' H' → RpB X.K H B' H' v b → Q v H') → rr x H Q
def M.view (w : W) : M D := fun r => match w.view r with
  | some d => .ok d r
  | none => .fail
def M.give (o : Option Bo) : M W := fun r => match o with
  | some b => .ok b.toW r
  | none => .fail
def cOp2 (g : D → D → Option Bo) (fa fb : M W) : M W := M.bind fa fun wa => M.bind fb fun wb => M.bind (M.view wa) fun da => M.bind (M.view wb) fun db => M.give (g da db)
def cOp1 (g : D → Option Bo) (fa : M W) : M W := M.bind fa fun wa => M.bind (M.view wa) fun da => M.give (g da)
section
variable {X : Cx} {vs : List V} {Wx : WX} {B H Hs : Hp} {σ : L2.St} {r : Rho} {a b : Expr} {fa fb : M W} {pos : Pos}
theorem Post.view {γ δ : Type} {rel : Hp → Hp → Rho → δ → γ → Prop} {B0 H0 : Hp} {r0 : Rho} {w : W} {k : D → M γ} {Q : δ → Hp → Prop} {v : V} (R : Rl X.K vs B σ H r) (hv : RpW X.K vs Hs B σ H r v w) (h : Post X vs Wx B0 H0 σ r0 (M.bind (M.view w) k r) rel Q) :
    ∃ d, RpV X.K B H v d ∧ w.view r = some d ∧ Post X vs Wx B0 H0 σ r0 (k d r) rel Q := by
  cases e : w.view r with
  | none => simp only [M.bind, M.view, e] at h; exact h.elim
  | some d =>
    simp only [M.bind, M.view, e] at h
    exact ⟨d, hv.view R e, rfl, h⟩
theorem Post.give {o : Option Bo} {Q : VK} (R : Rl X.K vs B σ H r) (h : Post X vs Wx B H σ r (M.give o r) (fW X vs σ H) Q) :
    ∃ b, o = some b ∧ ∀ v B' H', Ext B H B' H' → Sbm B' H' → RpB X.K H B' H' v b → Q v H' := by
  cases o with
  | none => exact h.elim
  | some b =>
    refine ⟨b, rfl, fun v B' H' e s q => ?_⟩
    have h' : Post X vs Wx B H σ r (.ok b.toW r) (fW X vs σ H) Q := h
    exact h'.fin R e s (q.toW R fun _ z => z)
/-- two values, then a pure operation -/
theorem Post.op2 {g : D → D → Option Bo} {ta tb : TE} {Q : VK} {rr : R2} (R : Rl X.K vs B σ H r)
    (ha : ∀ vs B σ H r Q, Rl X.K vs B σ H r → Post X vs Wx B H σ r (fa r) (fW X vs σ H) Q → ta σ H Q) (hb : ∀ vs B σ H r Q, Rl X.K vs B σ H r → Post X vs Wx B H σ r (fb r) (fW X vs σ H) Q → tb σ H Q)
    (ho : ∀ x y da db b, g da db = some b → ∀ B H Q, Sbm B H → RpV X.K B H x da → RpV X.K B H y db → (∀ v B' H', Ext B H B' H' → Sbm B' H' → RpB X.K H B' H' v b → Q v H') → rr x y H Q)
    (h : Post X vs Wx B H σ r (cOp2 g fa fb r) (fW X vs σ H) Q) : tOp rr ta tb σ H Q := by
  refine ha vs B σ H r _ R (Post.bind back_W h fun x wa B1 H1 r1 s1 R1 q1 h1 => ?_)
  refine hb vs B1 σ H1 r1 _ R1 (Post.bind back_W h1 fun y wb B2 H2 r2 s2 R2 q2 h2 => ?_)
  obtain ⟨da, va, _, h3⟩ := Post.view R2 (RpW.stp q1 s2) h2
  obtain ⟨db, vb, _, h4⟩ := Post.view R2 q2 h3
  obtain ⟨bo, eb, h5⟩ := Post.give R2 h4
  exact ho x y da db bo eb B2 H2 Q R2.sub va vb h5
theorem de_bin {op : Operator} {g : D → D → Option Bo} (ho : OpS X (binaryOp op) g) (ha : DE X a fa) (hb : DE X b fb) : DE X (.BinOp a op b pos) (cOp2 g fa fb) := by
  refine ⟨fun Wx tk => ?_⟩
  obtain ⟨ta, pa, qa⟩ := ha.run Wx tk
  obtain ⟨tb, pb, qb⟩ := hb.run Wx tk
  obtain ⟨rr, h1, h2⟩ := ho
  exact ⟨_, pe_op h1 pa pb, fun vs B σ H r Q R h => Post.op2 R qa qb h2 h⟩
theorem de_cmp {op : CmpOp} {g : D → D → Option Bo} (ho : OpS X (compareOp op) g) (ha : DE X a fa) (hb : DE X b fb) (hm : behindInMarks op b = false) : DE X (.Compare a [op] [b] pos) (cOp2 g fa fb) := by
  refine ⟨fun Wx tk => ?_⟩
  obtain ⟨ta, pa, qa⟩ := ha.run Wx tk
  obtain ⟨tb, pb, qb⟩ := hb.run Wx tk
  obtain ⟨rr, h1, h2⟩ := ho
  exact ⟨_, pe_cmpR h1 pa pb hm, fun vs B σ H r Q R h => Post.op2 R qa qb h2 h⟩
theorem de_un {op : UnaryOp} {g : D → Option Bo} (ho : UnS X (unaryOp op) g) (ha : DE X a fa) : DE X (.UnaryOp op a pos) (cOp1 g fa) := by
  refine ⟨fun Wx tk => ?_⟩
  obtain ⟨ta, pa, qa⟩ := ha.run Wx tk
  obtain ⟨rr, h1, h2⟩ := ho
  refine ⟨_, pe_un h1 pa, fun vs B σ H r Q R h => ?_⟩
  refine qa vs B σ H r _ R (Post.bind back_W h fun x wa B1 H1 r1 s1 R1 q1 hh => ?_)
  obtain ⟨da, va, _, h3⟩ := Post.view R1 q1 hh
  obtain ⟨bo, eb, h5⟩ := Post.give R1 h3
  exact h2 x da bo eb B1 H1 Q R1.sub va h5

/-! ### tests -/
def D.bool : D → Option Bool
  | .bl b => some b
  | _ => none
def M.bool (w : W) : M Bool := fun r => match w with
  | .dt (.bl b) => .ok b r
  | _ => .fail
/-- the truth of data -/
def D.tru : D → Option Bool
  | .non => some false
  | .bl b => some b
  | .int i => some (i != 0)
  | .str x => if x.length ≤ sizeLine then some ((x.length : Int) != 0) else none
  | .lst l => some (!l.isEmpty)
  | .tup l => some (!l.isEmpty)
  | .dct l => some (!l.isEmpty)
  | _ => none
def cTru (f : M W) : M Bool := M.bind f fun w => M.bind (M.view w) fun d => M.opt d.tru
theorem emp_len {α β : Type} {l : List α} {m : List β} (h : l.length = m.length) : l.isEmpty = m.isEmpty := by
  cases l <;> cases m <;> first | rfl | (simp at h)
theorem tru_of {K : PySem.W.Frag} {x : V} {d : D} {k : Bool} (h : RpV K B H x d) (s : Sbm B H) (e : d.tru = some k) : TruV K x H k := by
  cases d with
  | non => cases h; cases e; rfl
  | bl b => cases h; cases e; rfl
  | int i => cases h; cases e; rfl
  | str z =>
    cases h
    simp only [D.tru] at e
    split at e
    · cases e; exact ⟨by assumption, rfl⟩
    · cases e
  | lst l =>
    obtain ⟨a, xs, rfl, h1, h2⟩ := h
    cases e
    exact .inl ⟨xs, .of h1, by rw [emp_len h2.length]⟩
  | tup l =>
    cases e
    cases h with
    | tup h1 h2 => exact .inr (.inl ⟨_, seqT_mono s h1, by rw [emp_len h2.length]⟩)
  | dct l =>
    obtain ⟨a, xs, rfl, h1, h2⟩ := h
    cases e
    exact .inr (.inr ⟨xs, h1, by rw [emp_len h2.length]⟩)
  | ty n => cases e
  | scr l => cases e
  | cls l => cases e
  | exc a l m => cases e
  | obj l m => cases e
  | err l m => cases e
  | sto l => cases e
theorem Post.opt {γ δ : Type} {rel : Hp → Hp → Rho → δ → γ → Prop} {r0 : Rho} {α : Type} {o : Option α} {k : α → M γ} {Q : δ → Hp → Prop} (h : Post X vs Wx B H σ r0 (M.bind (M.opt o) k r) rel Q) :
    ∃ a, o = some a ∧ Post X vs Wx B H σ r0 (k a r) rel Q := by
  cases o with
  | none => exact h.elim
  | some a => exact ⟨a, rfl, h⟩
theorem Post.optT {o : Option Bool} {Q : Bool → Hp → Prop} (R : Rl X.K vs B σ H r) (h : Post X vs Wx B H σ r (M.opt o r) (fT H) Q) : ∃ b, o = some b ∧ Q b H := by
  cases o with
  | none => exact h.elim
  | some b =>
    have h' : Post X vs Wx B H σ r (.ok b r) (fT H) Q := h
    exact ⟨b, rfl, h' b B H .refl R rfl⟩
theorem dt_truth (ha : DE X a fa) (he : ∀ whole, isTrue a X.env whole = (do let v ← whole; standAt a.pos; holding [v] (truthy v))) : DT X a (cTru fa) := by
  refine ⟨fun Wx tk => ?_⟩
  obtain ⟨ta, pa, qa⟩ := ha.run Wx tk
  refine ⟨_, pt_truth pa he, fun vs B σ H r Q R h => ?_⟩
  refine qa vs B σ H r _ R (Post.bind back_T h fun x wa B1 H1 r1 s1 R1 q1 hh => ?_)
  obtain ⟨da, va, _, h3⟩ := Post.view R1 q1 hh
  obtain ⟨k, ek, h4⟩ := Post.optT R1 h3
  exact ⟨k, tru_of va R1.sub ek, h4⟩
end
end Lc

set_option Elab.async false
set_option maxRecDepth 100000
set_option maxHeartbeats 4000000
/-! Part C: further tests, and, or, not, chains; arguments, displays, freezing. -/
namespace Lc
open PySem L2
section
variable {X : Cx} {vs : List V} {Wx : WX} {B H Hs B0 H0 : Hp} {σ : L2.St} {r r0 : Rho} {a b c : Expr} {fa fb fc : M W} {ga gb : M Bool} {pos : Pos} {rest : List Expr}

/-! ### tests -/
def cAndT (f g : M Bool) : M Bool := M.bind f fun k => if k = true then g else M.ret false
def cOrT (f g : M Bool) : M Bool := M.bind f fun k => if k = true then M.ret true else g
def cNotT (f : M Bool) : M Bool := M.bind f fun k => M.ret (!k)
def W.asB : W → M Bool
  | .dt (.bl b) => M.ret b
  | _ => M.no
def M.bl (f : M W) : M Bool := M.bind f W.asB
theorem Post.bl {Q : Bool → Hp → Prop} {w : W} {v : V} (R : Rl X.K vs B σ H r) (hv : RpW X.K vs Hs B σ H r v w)
    (h : Post X vs Wx B H σ r (w.asB r) (fT H) Q) : ∃ k, v = .bl k ∧ Q k H := by
  cases w with
  | dt d =>
    cases d with
    | bl k =>
      cases hv
      exact ⟨k, rfl, h k B H .refl R rfl⟩
    | _ => exact h.elim
  | _ => exact h.elim
theorem dw_and1 (ha : DT X a ga) : DW X (.BoolOp .And [a] pos) ga := ⟨fun Wx tk => let ⟨t, p, q⟩ := ha.run Wx tk; ⟨t, pw_and1 p, q⟩⟩
theorem dw_or1 (ha : DT X a ga) : DW X (.BoolOp .Or [a] pos) ga := ⟨fun Wx tk => let ⟨t, p, q⟩ := ha.run Wx tk; ⟨t, pw_or1 p, q⟩⟩
theorem Post.retT {k : Bool} {Q : Bool → Hp → Prop} (R : Rl X.K vs B σ H r) (h : Post X vs Wx B H σ r (M.ret k r) (fT H) Q) : Q k H := h k B H .refl R rfl
theorem dw_and (ha : DT X a ga) (hb : DW X (.BoolOp .And (b :: rest) pos) gb) : DW X (.BoolOp .And (a :: b :: rest) pos) (cAndT ga gb) := by
  refine ⟨fun Wx tk => ?_⟩
  obtain ⟨ta, pa, qa⟩ := ha.run Wx tk
  obtain ⟨tb, pb, qb⟩ := hb.run Wx tk
  refine ⟨_, pw_and pa pb, fun vs B σ H r Q R h => qa vs B σ H r _ R (Post.bind back_T h fun k k' B1 H1 r1 s1 R1 e h1 => ?_)⟩
  cases e
  cases k with
  | true => exact qb vs B1 σ H1 r1 Q R1 h1
  | false => exact Post.retT R1 h1
theorem dw_or (ha : DT X a ga) (hb : DW X (.BoolOp .Or (b :: rest) pos) gb) : DW X (.BoolOp .Or (a :: b :: rest) pos) (cOrT ga gb) := by
  refine ⟨fun Wx tk => ?_⟩
  obtain ⟨ta, pa, qa⟩ := ha.run Wx tk
  obtain ⟨tb, pb, qb⟩ := hb.run Wx tk
  refine ⟨_, pw_or pa pb, fun vs B σ H r Q R h => qa vs B σ H r _ R (Post.bind back_T h fun k k' B1 H1 r1 s1 R1 e h1 => ?_)⟩
  cases e
  cases k with
  | true => exact Post.retT R1 h1
  | false => exact qb vs B1 σ H1 r1 Q R1 h1
theorem dt_not (ha : DT X a ga) : DT X (.UnaryOp .Not a pos) (cNotT ga) := by
  refine ⟨fun Wx tk => ?_⟩
  obtain ⟨ta, pa, qa⟩ := ha.run Wx tk
  refine ⟨_, pt_not pa, fun vs B σ H r Q R h => qa vs B σ H r _ R (Post.bind back_T h fun k k' B1 H1 r1 s1 R1 e h1 => ?_)⟩
  cases e
  exact Post.retT R1 h1
theorem dt_cmp {op : CmpOp} {g : D → D → Option Bo} (ho : OpS X (compareOp op) g) (ha : DE X a fa) (hb : DE X b fb) (hm : behindInMarks op b = false) : DT X (.Compare a [op] [b] pos) (M.bl (cOp2 g fa fb)) := by
  refine ⟨fun Wx tk => ?_⟩
  obtain ⟨ta, pa, qa⟩ := ha.run Wx tk
  obtain ⟨tb, pb, qb⟩ := hb.run Wx tk
  obtain ⟨rr, h1, h2⟩ := ho
  refine ⟨_, pt_cmpR h1 pa pb hm, fun vs B σ H r Q R h => ?_⟩
  refine Post.op2 (Q := fun x H' => ∃ k, x = .bl k ∧ Q k H') R qa qb h2 (Post.bind back_T h fun x w B1 H1 r1 s1 R1 q1 hh => ?_)
  exact Post.bl R1 q1 hh
/-- a op b op' c -/
def cChain (g g' : D → D → Option Bo) (fa fb fc : M W) : M W := M.bind fa fun wa => M.bind fb fun wb => M.bind (M.view wa) fun da => M.bind (M.view wb) fun db => match g da db with
  | some (.dt (.bl true)) => M.bind fc fun wc => M.bind (M.view wb) fun db => M.bind (M.view wc) fun dc => M.give (g' db dc)
  | some (.dt (.bl false)) => M.ret (.dt (.bl false))
  | _ => M.no
theorem Post.chain {g g' : D → D → Option Bo} {ta tb tc : TE} {Q : VK} {rr rr' : R2} (R : Rl X.K vs B σ H r)
    (ha : ∀ vs B σ H r Q, Rl X.K vs B σ H r → Post X vs Wx B H σ r (fa r) (fW X vs σ H) Q → ta σ H Q) (hb : ∀ vs B σ H r Q, Rl X.K vs B σ H r → Post X vs Wx B H σ r (fb r) (fW X vs σ H) Q → tb σ H Q)
    (hc : ∀ vs B σ H r Q, Rl X.K vs B σ H r → Post X vs Wx B H σ r (fc r) (fW X vs σ H) Q → tc σ H Q)
    (ho : ∀ x y da db b, g da db = some b → ∀ B H Q, Sbm B H → RpV X.K B H x da → RpV X.K B H y db → (∀ v B' H', Ext B H B' H' → Sbm B' H' → RpB X.K H B' H' v b → Q v H') → rr x y H Q)
    (ho' : ∀ x y da db b, g' da db = some b → ∀ B H Q, Sbm B H → RpV X.K B H x da → RpV X.K B H y db → (∀ v B' H', Ext B H B' H' → Sbm B' H' → RpB X.K H B' H' v b → Q v H') → rr' x y H Q)
    (h : Post X vs Wx B H σ r (cChain g g' fa fb fc r) (fW X vs σ H) Q) : tChain rr rr' ta tb tc σ H Q := by
  refine ha vs B σ H r _ R (Post.bind back_W h fun x wa B1 H1 r1 s1 R1 q1 h1 => ?_)
  refine hb vs B1 σ H1 r1 _ R1 (Post.bind back_W h1 fun y wb B2 H2 r2 s2 R2 q2 h2 => ?_)
  obtain ⟨da, va, _, h3⟩ := Post.view R2 (RpW.stp q1 s2) h2
  obtain ⟨db, vb, _, h4⟩ := Post.view R2 q2 h3
  cases eg : g da db with
  | none => simp only [eg] at h4; exact h4.elim
  | some bo =>
    cases bo with
    | own c => simp only [eg] at h4; exact h4.elim
    | dt d =>
      cases d with
      | bl k =>
        refine ho x y da db _ eg B2 H2 _ R2.sub va vb fun v B3 H3 e3 s3 q3 => ?_
        cases q3
        refine ⟨k, rfl, ?_⟩
        have R3 := R2.ext e3 s3
        have st3 : Stp vs B2 H2 σ r2 B3 H3 σ r2 := e3.stp
        cases k with
        | false =>
          simp only [eg] at h4
          rw [if_neg Bool.false_ne_true]
          exact h4 (.bl false) B3 H3 st3 R3 (.bl false)
        | true =>
          simp only [eg] at h4
          rw [if_pos rfl]
          have h5 : Post X vs Wx B3 H3 σ r2 (M.bind fc (fun wc => M.bind (M.view wb) fun db => M.bind (M.view wc) fun dc => M.give (g' db dc)) r2) (fW X vs σ H3) Q := by
            revert h4
            cases (M.bind fc (fun wc => M.bind (M.view wb) fun db => M.bind (M.view wc) fun dc => M.give (g' db dc)) r2) with
            | ok w r' => exact fun h4 v B' H' s R q => h4 v B' H' (st3.trans s) R (RpW.back q st3.dom)
            | exc x r' => exact fun h4 cl dd B' H' s R q => h4 cl dd B' H' (st3.trans s) R q
            | fail => exact fun h4 => h4
          refine hc vs B3 σ H3 r2 _ R3 (Post.bind back_W h5 fun z wc B4 H4 r4 s4 R4 q4 h6 => ?_)
          obtain ⟨db', vb', _, h7⟩ := Post.view R4 (RpW.stp (RpW.stp q2 st3) s4) h6
          obtain ⟨dc, vc, _, h8⟩ := Post.view R4 q4 h7
          obtain ⟨bo, eb, h9⟩ := Post.give R4 h8
          exact ho' y z db' dc bo eb B4 H4 Q R4.sub vb' vc h9
      | _ => simp only [eg] at h4; exact h4.elim
theorem de_chain {op op' : CmpOp} {g g' : D → D → Option Bo} (ho : OpS X (compareOp op) g) (ho' : OpS X (compareOp op') g') (ha : DE X a fa) (hb : DE X b fb) (hc : DE X c fc) (hm : lastMarks [op, op'] [b, c] = false) :
    DE X (.Compare a [op, op'] [b, c] pos) (cChain g g' fa fb fc) := by
  refine ⟨fun Wx tk => ?_⟩
  obtain ⟨ta, pa, qa⟩ := ha.run Wx tk
  obtain ⟨tb, pb, qb⟩ := hb.run Wx tk
  obtain ⟨tc, pc, qc⟩ := hc.run Wx tk
  obtain ⟨rr, h1, h2⟩ := ho
  obtain ⟨rr', h1', h2'⟩ := ho'
  exact ⟨_, pe_chain h1 h1' pa pb pc hm, fun vs B σ H r Q R h => Post.chain R qa qb qc h2 h2' h⟩
theorem dt_chain {op op' : CmpOp} {g g' : D → D → Option Bo} (ho : OpS X (compareOp op) g) (ho' : OpS X (compareOp op') g') (ha : DE X a fa) (hb : DE X b fb) (hc : DE X c fc) (hm : lastMarks [op, op'] [b, c] = false) :
    DT X (.Compare a [op, op'] [b, c] pos) (M.bl (cChain g g' fa fb fc)) := by
  refine ⟨fun Wx tk => ?_⟩
  obtain ⟨ta, pa, qa⟩ := ha.run Wx tk
  obtain ⟨tb, pb, qb⟩ := hb.run Wx tk
  obtain ⟨tc, pc, qc⟩ := hc.run Wx tk
  obtain ⟨rr, h1, h2⟩ := ho
  obtain ⟨rr', h1', h2'⟩ := ho'
  refine ⟨_, pt_chain h1 h1' pa pb pc hm, fun vs B σ H r Q R h => ?_⟩
  refine Post.chain (Q := fun x H' => ∃ k, x = .bl k ∧ Q k H') R qa qb qc h2 h2' (Post.bind back_T h fun x w B1 H1 r1 s1 R1 q1 hh => ?_)
  exact Post.bl R1 q1 hh

/-! ### and, or, not as values; the conditional -/
def cAnd (f g : M W) : M W := M.bind f fun w => M.bind (M.view w) fun d => M.bind (M.opt d.tru) fun k => if k = true then g else M.ret w
def cOr (f g : M W) : M W := M.bind f fun w => M.bind (M.view w) fun d => M.bind (M.opt d.tru) fun k => if k = true then M.ret w else g
def cNot (f : M W) : M W := M.bind (cTru f) fun k => M.ret (.dt (.bl (!k)))
def cIfE (t : M Bool) (f g : M W) : M W := M.bind t fun k => if k = true then f else g
theorem de_one {op} (ha : DE X a fa) : DE X (.BoolOp op [a] pos) fa := ⟨fun Wx tk => let ⟨t, p, q⟩ := ha.run Wx tk; ⟨t, pe_one p, q⟩⟩
theorem de_and (ha : DE X a fa) (hb : DE X (.BoolOp .And (b :: rest) pos) fb) : DE X (.BoolOp .And (a :: b :: rest) pos) (cAnd fa fb) := by
  refine ⟨fun Wx tk => ?_⟩
  obtain ⟨ta, pa, qa⟩ := ha.run Wx tk
  obtain ⟨tb, pb, qb⟩ := hb.run Wx tk
  refine ⟨_, pe_andT pa pb, fun vs B σ H r Q R h => qa vs B σ H r _ R (Post.bind0 h fun x wa B1 H1 r1 s1 R1 q1 h1 => ?_)⟩
  obtain ⟨da, va, _, h2⟩ := Post.view R1 q1 h1
  obtain ⟨k, ek, h3⟩ := Post.opt h2
  refine ⟨k, tru_of va R1.sub ek, ?_⟩
  cases k with
  | true => exact qb vs B1 σ H1 r1 Q R1 (Post.shift back_W s1 h3)
  | false => exact h3 x B1 H1 s1 R1 q1
theorem de_or (ha : DE X a fa) (hb : DE X (.BoolOp .Or (b :: rest) pos) fb) : DE X (.BoolOp .Or (a :: b :: rest) pos) (cOr fa fb) := by
  refine ⟨fun Wx tk => ?_⟩
  obtain ⟨ta, pa, qa⟩ := ha.run Wx tk
  obtain ⟨tb, pb, qb⟩ := hb.run Wx tk
  refine ⟨_, pe_orT pa pb, fun vs B σ H r Q R h => qa vs B σ H r _ R (Post.bind0 h fun x wa B1 H1 r1 s1 R1 q1 h1 => ?_)⟩
  obtain ⟨da, va, _, h2⟩ := Post.view R1 q1 h1
  obtain ⟨k, ek, h3⟩ := Post.opt h2
  refine ⟨k, tru_of va R1.sub ek, ?_⟩
  cases k with
  | true => exact h3 x B1 H1 s1 R1 q1
  | false => exact qb vs B1 σ H1 r1 Q R1 (Post.shift back_W s1 h3)
theorem de_not (ha : DE X a fa) : DE X (.UnaryOp .Not a pos) (cNot fa) := by
  refine ⟨fun Wx tk => ?_⟩
  obtain ⟨ta, pa, qa⟩ := ha.run Wx tk
  refine ⟨_, pe_notT pa, fun vs B σ H r Q R h => ?_⟩
  have h0 : Post X vs Wx B H σ r (cTru fa r) (fT H) (fun k H' => Q (.bl (!k)) H') := Post.bind0 h fun k k' B1 H1 r1 s1 R1 e h1 => by
    cases e
    exact h1 _ B1 H1 s1 R1 (.bl _)
  refine qa vs B σ H r _ R (Post.bind back_T h0 fun x wa B1 H1 r1 s1 R1 q1 hh => ?_)
  obtain ⟨da, va, _, h3⟩ := Post.view R1 q1 hh
  obtain ⟨k, ek, h4⟩ := Post.optT R1 h3
  exact ⟨k, tru_of va R1.sub ek, h4⟩
theorem de_ifE (hc : DT X c ga) (ha : DE X a fa) (hb : DE X b fb) : DE X (.IfExp c a b pos) (cIfE ga fa fb) := by
  refine ⟨fun Wx tk => ?_⟩
  obtain ⟨ta, pa, qa⟩ := ha.run Wx tk
  obtain ⟨tb, pb, qb⟩ := hb.run Wx tk
  obtain ⟨tc, pc, qc⟩ := hc.run Wx tk
  refine ⟨_, pe_ifExp pc pa pb, fun vs B σ H r Q R h => qc vs B σ H r _ R (Post.bind (F1 := fT) back_W h fun k k' B1 H1 r1 s1 R1 e h1 => ?_)⟩
  cases e
  cases k with
  | true => exact qa vs B1 σ H1 r1 Q R1 h1
  | false => exact qb vs B1 σ H1 r1 Q R1 h1

/-! ### freezing a value -/
def W.frz (w : W) : M D := fun r => match w with
  | .dt d => .ok d r
  | .fresh c => .ok c.toD r
  | .cel z => match r.cnt z with
    | some c => .ok c.toD (r.frz c.toD z)
    | none => match r.look z with
      | some d => .ok d r
      | none => .fail
theorem look_data {z : Ix} {d : D} {v : V} {K : PySem.W.Frag} (R : Rl K vs B σ H r) (hc : r.cnt z = none) (h : r.look z = some d) (ha : adr vs σ z = some v) : Rp K B v d := by
  cases z with
  | loc i =>
    cases e : r.loc[i]? with
    | none => simp [Rho.look, e] at h
    | some o =>
      cases o with
      | none => simp [Rho.look, e] at h
      | some s =>
        cases s with
        | dt d' =>
          simp only [Rho.look, e, Option.some.injEq] at h
          subst h
          obtain ⟨u, hu, ru⟩ := R.dat i d' e
          simp only [adr, hu, Option.some.injEq] at ha
          subst ha
          exact ru
        | own c => simp [Rho.cnt, e] at hc
        | bor k => simp [Rho.look, e] at h
  | bor k =>
    cases e : r.bor[k]? with
    | none => simp [Rho.look, e] at h
    | some s =>
      cases s with
      | dt d' =>
        simp only [Rho.look, e, Option.some.injEq] at h
        subst h
        obtain ⟨u, hu, ru⟩ := R.bod k d' e
        have ha' : vs[k]? = some v := ha
        rw [hu] at ha'; cases ha'
        exact ru
      | own c => simp [Rho.cnt, e] at hc
/-- two new things at one place -/
def Clash (v : V) (w : W) (x : V) (u : W) : Prop := ∃ a c c', w = .fresh c ∧ u = .fresh c' ∧ v = .ref a ∧ x = .ref a
theorem frz1 {K : PySem.W.Frag} {v : V} {w : W} {d : D} {r' : Rho} (R : Rl K vs B σ H r) (s : Stp vs B0 H0 σ r0 B H σ r) (h : RpW K vs H0 B σ H r v w) (e : w.frz r = .ok d r') :
    ∃ B', Rp K B' v d ∧ Rl K vs B' σ H r' ∧ Stp vs B0 H0 σ r0 B' H σ r' ∧ Same B B' ∧ ∀ x u, RpW K vs H0 B σ H r x u → ¬ Clash v w x u → RpW K vs H0 B' σ H r' x u := by
  cases w with
  | dt d' =>
    cases e
    exact ⟨B, h, R, s, Same.refl B, fun _ _ q _ => q⟩
  | cel z =>
    cases hc : r.cnt z with
    | none =>
      cases hl : r.look z with
      | none => simp only [W.frz, hc, hl] at e; cases e
      | some d' =>
        simp only [W.frz, hc, hl] at e
        cases e
        exact ⟨B, look_data R hc hl h, R, s, Same.refl B, fun _ _ q _ => q⟩
    | some c =>
      simp only [W.frz, hc] at e
      cases e
      obtain ⟨a, q1, _, _⟩ := R.own z c hc
      have hv : v = .ref a := by have h' : adr vs σ z = some v := h; rw [q1] at h'; exact (Option.some.inj h').symm
      subst hv
      obtain ⟨o, ho, rp, R2, s2⟩ := R.freeze hc q1
      exact ⟨_, rp, R2, s.trans s2, s2.sub, fun _ _ q _ => RpW.stp q s2⟩
  | fresh c =>
    cases e
    obtain ⟨a, rfl, hs, hb, ha, hn⟩ := h
    obtain ⟨o, ho, mo, rp⟩ := ha.rp hb
    have sb : Same B (upd B a o) := same_upd hb
    have ne : ∀ z c', r.cnt z = some c' → ∀ b, adr vs σ z = some (.ref b) → b ≠ a := fun z c' h1 b h2 q => hn ⟨z, c', h1, q ▸ h2⟩
    refine ⟨_, rp, ⟨R.sub.grow ho mo, R.sto.grow hb mo, R.len, ?_, ?_, R.lbo, ?_, R.sep⟩, ⟨s.sub.trans sb, ?_, s.stl, s.dom, s.own, s.bol, s.bod, ?_⟩, sb, ?_⟩
    · intro i d h
      obtain ⟨v, h1, h2⟩ := R.dat i d h
      exact ⟨v, h1, h2.mono sb⟩
    · intro z c' h
      obtain ⟨b, p1, p2, p3⟩ := R.own z c' h
      exact ⟨b, p1, by rw [upd_ne (ne z c' h b p1)]; exact p2, p3.mono sb fun _ q => q⟩
    · intro k d h
      obtain ⟨v, h1, h2⟩ := R.bod k d h
      exact ⟨v, h1, h2.mono sb⟩
    · intro x u h n m
      obtain ⟨k1, k2⟩ := s.keep x u h n m
      have : x ≠ a := fun e => by subst e; rw [hs] at h; cases h
      exact ⟨k1, fun q => by rw [upd_ne this]; exact k2 q⟩
    · intro k c' x h hx
      rcases s.boo k c' x h hx with q | ⟨d, o', q1, q2⟩
      · exact .inl q
      · exact .inr ⟨d, o', q1, sb _ _ q2.1, q2.2⟩
    · intro x u q nc
      cases u with
      | dt d' => exact Rp.mono sb q
      | cel z => exact q
      | fresh c' =>
        obtain ⟨b, rfl, g1, g2, g3, g4⟩ := q
        have nb : b ≠ a := fun e => nc ⟨a, c, c', rfl, rfl, rfl, by rw [e]⟩
        exact ⟨b, rfl, g1, by rw [upd_ne nb]; exact g2, g3.mono sb fun _ q => q, g4⟩
end

/-! ### arguments -/
/-- values of arguments, no two new things at one place -/
inductive RpWs (K : PySem.W.Frag) (vs : List V) (Hs B : Hp) (σ : L2.St) (H : Hp) (r : Rho) : List V → List W → Prop
  | nil : RpWs K vs Hs B σ H r [] []
  | cons {v : V} {w : W} {xs : List V} {ws : List W} : RpW K vs Hs B σ H r v w → RpWs K vs Hs B σ H r xs ws → (∀ (i : Nat) (x : V) (u : W), xs[i]? = some x → ws[i]? = some u → ¬ Clash v w x u) → RpWs K vs Hs B σ H r (v :: xs) (w :: ws)
def fA (X : Cx) (vs : List V) (σ : L2.St) : Fam (List V) (List W) := fun Hs B' H' r' xs ws => RpWs X.K vs Hs B' σ H' r' xs ws
theorem RpWs.back {K : PySem.W.Frag} {vs : List V} {Hs H B' H' : Hp} {σ : L2.St} {r : Rho} (s : ∀ a, H a = none → Hs a = none) : ∀ {xs : List V} {ws : List W}, RpWs K vs H B' σ H' r xs ws → RpWs K vs Hs B' σ H' r xs ws
  | _, _, .nil => .nil
  | _, _, .cons h t n => .cons (h.back s) (t.back s) n
theorem back_A {X : Cx} {vs : List V} {σ : L2.St} : Back (fA X vs σ) := fun _ _ _ _ _ _ _ s h => RpWs.back s h
theorem RpWs.length {K : PySem.W.Frag} {vs : List V} {Hs H B : Hp} {σ : L2.St} {r : Rho} : ∀ {xs : List V} {ws : List W}, RpWs K vs Hs B σ H r xs ws → xs.length = ws.length
  | _, _, .nil => rfl
  | _, _, .cons _ t _ => by rw [List.length_cons, List.length_cons, t.length]
theorem RpWs.get {K : PySem.W.Frag} {vs : List V} {Hs H B : Hp} {σ : L2.St} {r : Rho} : ∀ {xs : List V} {ws : List W} {i : Nat} {x : V} {w : W}, RpWs K vs Hs B σ H r xs ws → xs[i]? = some x → ws[i]? = some w → RpW K vs Hs B σ H r x w
  | _, _, _, _, _, .nil, h, _ => by simp at h
  | _, _, 0, _, _, .cons h _ _, e, e' => by simp at e e'; subst e e'; exact h
  | _, _, i + 1, _, _, .cons _ t _, e, e' => t.get (i := i) (by simpa using e) (by simpa using e')
structure DA (X : Cx) (es : List Expr) (f : M (List W)) : Prop where
  run : ∀ Wx, Takes X Wx → ∃ t, PA X es t ∧ ∀ vs B σ H r Q, Rl X.K vs B σ H r → Post X vs Wx B H σ r (f r) (fA X vs σ H) Q → t σ H Q
def cCons (f : M W) (g : M (List W)) : M (List W) := M.bind f fun w => M.bind g fun ws => M.ret (w :: ws)
section
variable {X : Cx} {e : Expr} {es : List Expr} {f : M W} {g : M (List W)} {pos : Pos}
theorem da_nil : DA X [] (M.ret []) := ⟨fun _ _ => ⟨_, pa_nil, fun _ B _ H _ _ R h => h [] B H .refl R RpWs.nil⟩⟩
theorem da_cons (he : DE X e f) (hr : DA X es g) (hs : starEach (e :: es) X.env = (false, eval e X.env) :: starEach es X.env) : DA X (e :: es) (cCons f g) := by
  refine ⟨fun Wx tk => ?_⟩
  obtain ⟨ta, pa, qa⟩ := he.run Wx tk
  obtain ⟨tb, pb, qb⟩ := hr.run Wx tk
  refine ⟨_, pa_cons pa pb hs, fun vs B σ H r Q R h => qa vs B σ H r _ R (Post.bind0 h fun x w B1 H1 r1 s1 R1 q1 h1 => ?_)⟩
  have h1' := Post.shift (F := fA X vs σ) back_A s1 h1
  refine qb vs B1 σ H1 r1 _ R1 ?_
  cases hg : g r1 with
  | fail => simp only [M.bind, hg] at h1; exact h1.elim
  | exc y r2 =>
    simp only [M.bind, hg] at h1
    exact fun cl dd B2 H2 s2 R2 f2 => h1 cl dd B2 H2 (s1.trans s2) R2 f2
  | ok ws r2 =>
    simp only [M.bind, hg] at h1
    intro xs B2 H2 s2 R2 f2
    refine h1 (x :: xs) B2 H2 (s1.trans s2) R2 (RpWs.cons (RpW.stp q1 s2) (RpWs.back s1.dom f2) fun i y u e1 e2 ⟨a, c, c', g1, g2, g3, g4⟩ => ?_)
    have q2 := RpWs.get f2 e1 e2
    subst g1 g2 g3 g4
    obtain ⟨a1, k1, _, _, k4, _⟩ := q1
    obtain ⟨a2, m1, m2, _⟩ := q2
    cases k1; cases m1
    obtain ⟨o, ho⟩ := k4.some
    rw [m2] at ho; cases ho
end
end Lc

set_option Elab.async false
set_option maxRecDepth 100000
set_option maxHeartbeats 4000000
/-! Part D: displays, pure calls, subscripts, slices, methods of texts. -/
namespace Lc
open PySem L2
def frzAll : List W → M (List D)
  | [] => M.ret []
  | w :: ws => M.bind w.frz fun d => M.bind (frzAll ws) fun ds => M.ret (d :: ds)
theorem frz_noexc {w : W} {r r' : Rho} {x : Ex} : w.frz r ≠ .exc x r' := by
  cases w with
  | dt d => exact fun h => nomatch h
  | fresh c => exact fun h => nomatch h
  | cel z =>
    intro h
    cases hc : r.cnt z with
    | some c => simp only [W.frz, hc] at h; cases h
    | none =>
      cases hl : r.look z with
      | some d => simp only [W.frz, hc, hl] at h; cases h
      | none => simp only [W.frz, hc, hl] at h; cases h
theorem frzAll_noexc {r' : Rho} {x : Ex} : ∀ {ws : List W} {r : Rho}, frzAll ws r ≠ .exc x r'
  | [], r => fun h => nomatch h
  | w :: ws, r => by
    intro h
    simp only [frzAll, M.bind] at h
    cases e : w.frz r with
    | fail => rw [e] at h; cases h
    | exc y r1 => exact frz_noexc e
    | ok d r1 =>
      rw [e] at h
      cases e2 : frzAll ws r1 with
      | fail => simp only [e2] at h; cases h
      | exc y r1 => exact frzAll_noexc e2
      | ok ds r2 => simp only [e2] at h; cases h
section
variable {X : Cx} {vs : List V} {Wx : WX} {B H Hs B0 H0 : Hp} {σ : L2.St} {r r0 : Rho}
theorem RpWs.imp {K : PySem.W.Frag} {B' : Hp} {r' : Rho} : ∀ {xs : List V} {ws : List W}, RpWs K vs Hs B σ H r xs ws → (∀ (i : Nat) (x : V) (u : W), xs[i]? = some x → ws[i]? = some u → RpW K vs Hs B σ H r x u → RpW K vs Hs B' σ H r' x u) → RpWs K vs Hs B' σ H r' xs ws
  | _, _, .nil, _ => .nil
  | _, _, .cons h t n, f => .cons (f 0 _ _ rfl rfl h) (t.imp fun i x u e1 e2 q => f (i + 1) x u (by simpa using e1) (by simpa using e2) q) n
theorem frzAll_ok {K : PySem.W.Frag} : ∀ {ws : List W} {xs : List V} {ds : List D} {B : Hp} {r r' : Rho}, Rl K vs B σ H r → Stp vs B0 H0 σ r0 B H σ r → RpWs K vs H0 B σ H r xs ws → frzAll ws r = .ok ds r' →
    ∃ B', RpAll K B' xs ds ∧ Rl K vs B' σ H r' ∧ Stp vs B0 H0 σ r0 B' H σ r' ∧ Same B B'
  | [], xs, ds, B, r, r', R, s, h, e => by
    cases e
    cases h
    exact ⟨B, .nil, R, s, Same.refl B⟩
  | w :: ws, xs, ds, B, r, r', R, s, h, e => by
    simp only [frzAll, M.bind] at e
    cases e1 : w.frz r with
    | fail => rw [e1] at e; cases e
    | exc y r1 => exact absurd e1 frz_noexc
    | ok d r1 =>
      rw [e1] at e
      cases e2 : frzAll ws r1 with
      | fail => simp only [e2] at e; cases e
      | exc y r1 => exact absurd e2 frzAll_noexc
      | ok es r2 =>
        simp only [e2] at e
        cases e
        cases h with
        | cons h1 h2 h3 =>
          obtain ⟨B1, p1, R1, s1, sb1, k1⟩ := frz1 R s h1 e1
          obtain ⟨B2, p2, R2, s2, sb2⟩ := frzAll_ok R1 s1 (h2.imp fun i x u q1 q2 q => k1 x u q (h3 i x u q1 q2)) e2
          exact ⟨B2, .cons (p1.mono sb2) p2, R2, s2, sb1.trans sb2⟩
theorem Post.frzAll {γ δ : Type} {rel : Hp → Hp → Rho → δ → γ → Prop} {ws : List W} {xs : List V} {k : List D → M γ} {Q : δ → Hp → Prop} (R : Rl X.K vs B σ H r) (s : Stp vs B0 H0 σ r0 B H σ r) (hv : RpWs X.K vs H0 B σ H r xs ws)
    (h : Post X vs Wx B0 H0 σ r0 (M.bind (frzAll ws) k r) rel Q) : ∃ ds r' B', RpAll X.K B' xs ds ∧ Rl X.K vs B' σ H r' ∧ Stp vs B0 H0 σ r0 B' H σ r' ∧ Post X vs Wx B0 H0 σ r0 (k ds r') rel Q := by
  cases e : Lc.frzAll ws r with
  | fail => simp only [M.bind, e] at h; exact h.elim
  | exc y r1 => exact absurd e frzAll_noexc
  | ok ds r1 =>
    simp only [M.bind, e] at h
    obtain ⟨B', p, R', s', _⟩ := frzAll_ok R s hv e
    exact ⟨ds, r1, B', p, R', s', h⟩
theorem Post.frz {γ δ : Type} {rel : Hp → Hp → Rho → δ → γ → Prop} {w : W} {x : V} {k : D → M γ} {Q : δ → Hp → Prop} (R : Rl X.K vs B σ H r) (s : Stp vs B0 H0 σ r0 B H σ r) (hv : RpW X.K vs H0 B σ H r x w)
    (h : Post X vs Wx B0 H0 σ r0 (M.bind w.frz k r) rel Q) : ∃ d r' B', Rp X.K B' x d ∧ Rl X.K vs B' σ H r' ∧ Stp vs B0 H0 σ r0 B' H σ r' ∧ Same B B' ∧ Post X vs Wx B0 H0 σ r0 (k d r') rel Q := by
  cases e : w.frz r with
  | fail => simp only [M.bind, e] at h; exact h.elim
  | exc y r1 => exact absurd e frz_noexc
  | ok ds r1 =>
    simp only [M.bind, e] at h
    obtain ⟨B', p, R', s', sb, _⟩ := frz1 R s hv e
    exact ⟨ds, r1, B', p, R', s', sb, h⟩
/-- behind freezing, a new thing -/
theorem Stp.ext {B' H' : Hp} {r' : Rho} (s : Stp vs B0 H0 σ r0 B H σ r') (e : Ext B H B' H') : Stp vs B0 H0 σ r0 B' H' σ r' := s.trans e.stp

/-! ### displays -/
def M.chk (c : Bool) : M Unit := fun r => if c = true then .ok () r else .fail
theorem Post.chk {γ δ : Type} {rel : Hp → Hp → Rho → δ → γ → Prop} {c : Bool} {k : Unit → M γ} {Q : δ → Hp → Prop} (h : Post X vs Wx B0 H0 σ r0 (M.bind (M.chk c) k r) rel Q) : c = true ∧ Post X vs Wx B0 H0 σ r0 (k () r) rel Q := by
  cases c with
  | false => exact h.elim
  | true => exact ⟨rfl, h⟩
def cLst (f : M (List W)) : M W := M.bind f fun ws => M.bind (frzAll ws) fun ds => M.bind (M.chk (decide (ds.length ≤ sizeLine))) fun _ => M.ret (.fresh (.lst ds))
def cTup (f : M (List W)) : M W := M.bind f fun ws => M.bind (frzAll ws) fun ds => M.bind (M.chk (decide (ds.length ≤ sizeLine))) fun _ => M.ret (.dt (.tup ds))
variable {es : List Expr} {f : M (List W)} {pos : Pos}
theorem de_lst (h : DA X es f) : DE X (.List es pos) (cLst f) := by
  refine ⟨fun Wx tk => ?_⟩
  obtain ⟨t, p, q⟩ := h.run Wx tk
  refine ⟨_, pe_lst p, fun vs B σ H r Q R hw => q vs B σ H r _ R (Post.bind0 hw fun xs ws B1 H1 r1 s1 R1 q1 h1 => ?_)⟩
  obtain ⟨ds, r2, B2, p2, R2, s2, h2⟩ := Post.frzAll R1 s1 q1 h1
  obtain ⟨c3, h3⟩ := Post.chk h2
  refine ⟨by rw [p2.length]; exact of_decide_eq_true c3, fun a na => ?_⟩
  have e : Ext B2 H1 B2 (upd H1 a (.lst xs)) := .plain na
  have sm : Sbm B2 (upd H1 a (.lst xs)) := R2.sub.trans e.keep
  exact h3 (.ref a) B2 _ (s2.ext e) (R2.ext e sm) ⟨a, rfl, s1.dom _ na, none_of_sub R2.sub na, ⟨xs, upd_same, p2⟩, R2.notOwn na⟩
theorem de_tup {k : Nat} (h : DA X es f) : DE X (.Tuple es k pos) (cTup f) := by
  refine ⟨fun Wx tk => ?_⟩
  obtain ⟨t, p, q⟩ := h.run Wx tk
  refine ⟨_, pe_tup p, fun vs B σ H r Q R hw => q vs B σ H r _ R (Post.bind0 hw fun xs ws B1 H1 r1 s1 R1 q1 h1 => ?_)⟩
  obtain ⟨ds, r2, B2, p2, R2, s2, h2⟩ := Post.frzAll R1 s1 q1 h1
  obtain ⟨c3, h3⟩ := Post.chk h2
  refine ⟨by rw [p2.length]; exact of_decide_eq_true c3, fun a na => ?_⟩
  have e : Ext B2 H1 (upd B2 a (.tup xs)) (upd H1 a (.tup xs)) := .frozen R2.sub na
  have sm : Sbm (upd B2 a (.tup xs)) (upd H1 a (.tup xs)) := same_both R2.sub
  exact h3 (.ref a) _ _ (s2.ext e) (R2.ext e sm) (Rp.tup (.inl upd_same) (p2.mono e.sub))

/-! ### pure calls -/
inductive RpVs (K : PySem.W.Frag) (B H : Hp) : List V → List D → Prop
  | nil : RpVs K B H [] []
  | cons {v : V} {d : D} {xs : List V} {ds : List D} : RpV K B H v d → RpVs K B H xs ds → RpVs K B H (v :: xs) (d :: ds)
def viewAll : List W → M (List D)
  | [] => M.ret []
  | w :: ws => M.bind (M.view w) fun d => M.bind (viewAll ws) fun ds => M.ret (d :: ds)
theorem Post.viewAll {γ δ : Type} {rel : Hp → Hp → Rho → δ → γ → Prop} {Q : δ → Hp → Prop} : ∀ {ws : List W} {xs : List V} {k : List D → M γ}, Rl X.K vs B σ H r → RpWs X.K vs Hs B σ H r xs ws →
    Post X vs Wx B0 H0 σ r0 (M.bind (Lc.viewAll ws) k r) rel Q → ∃ ds, RpVs X.K B H xs ds ∧ Post X vs Wx B0 H0 σ r0 (k ds r) rel Q
  | [], xs, k, R, hv, h => by
    cases hv
    exact ⟨[], .nil, h⟩
  | w :: ws, xs, k, R, hv, h => by
    cases hv with
    | cons h1 h2 h3 =>
      have e : M.bind (Lc.viewAll (w :: ws)) k r = M.bind (M.view w) (fun d => M.bind (Lc.viewAll ws) fun ds => k (d :: ds)) r := by
        simp only [Lc.viewAll, M.bind]
        cases (M.view w) r with
        | ok d r1 =>
          simp only
          cases (Lc.viewAll ws) r1 <;> rfl
        | exc y r1 => rfl
        | fail => rfl
      rw [e] at h
      obtain ⟨d, vd, _, h'⟩ := Post.view R h1 h
      obtain ⟨ds, vds, h''⟩ := Post.viewAll R h2 h'
      exact ⟨d :: ds, .cons vd vds, h''⟩
def CallS (X : Cx) (rr : List V → Hp → VK → Prop) (g : List D → Option Bo) : Prop :=
  ∀ xs ds b, g ds = some b → ∀ B H Q, Sbm B H → RpVs X.K B H xs ds → (∀ v B' H', Ext B H B' H' → Sbm B' H' → RpB X.K H B' H' v b → Q v H') → rr xs H Q
def cCallP (g : List D → Option Bo) (f : M (List W)) : M W := M.bind f fun ws => M.bind (viewAll ws) fun ds => M.give (g ds)
theorem Post.give0 {o : Option Bo} {Q : VK} (R : Rl X.K vs B σ H r) (s : Stp vs B0 H0 σ r0 B H σ r) (h : Post X vs Wx B0 H0 σ r0 (M.give o r) (fW X vs σ H0) Q) :
    ∃ b, o = some b ∧ ∀ v B' H', Ext B H B' H' → Sbm B' H' → RpB X.K H B' H' v b → Q v H' := by
  cases o with
  | none => exact h.elim
  | some b =>
    refine ⟨b, rfl, fun v B' H' e sm q => ?_⟩
    have h' : Post X vs Wx B0 H0 σ r0 (.ok b.toW r) (fW X vs σ H0) Q := h
    exact h' v B' H' (s.ext e) (R.ext e sm) (q.toW R fun _ z => s.dom _ z)
theorem de_callP {e : Expr} {rr : List V → Hp → VK → Prop} {g : List D → Option Bo} (hp : ∀ t, PA X es t → PE X e (tCB rr t)) (hc : CallS X rr g) (h : DA X es f) : DE X e (cCallP g f) := by
  refine ⟨fun Wx tk => ?_⟩
  obtain ⟨t, p, q⟩ := h.run Wx tk
  refine ⟨_, hp t p, fun vs B σ H r Q R hw => q vs B σ H r _ R (Post.bind0 hw fun xs ws B1 H1 r1 s1 R1 q1 h1 => ?_)⟩
  obtain ⟨ds, v2, h2⟩ := Post.viewAll R1 q1 h1
  obtain ⟨b, eb, h3⟩ := Post.give0 R1 s1 h2
  exact hc xs ds b eb B1 H1 Q R1.sub v2 h3

/-! ### subscripts, slices -/
variable {a b e : Expr} {fa fb fe : M W}
theorem de_ix {rr : R2} {g : D → D → Option Bo} (hr : IxR X rr) (ho : ∀ x y da db b, g da db = some b → ∀ B H Q, Sbm B H → RpV X.K B H x da → RpV X.K B H y db → (∀ v B' H', Ext B H B' H' → Sbm B' H' → RpB X.K H B' H' v b → Q v H') → rr x y H Q)
    (ha : DE X a fa) (hb : DE X b fb) (hs : PlainIx b) : DE X (.Subscript a b pos) (cOp2 g fa fb) := by
  refine ⟨fun Wx tk => ?_⟩
  obtain ⟨ta, pa, qa⟩ := ha.run Wx tk
  obtain ⟨tb, pb, qb⟩ := hb.run Wx tk
  exact ⟨_, pe_ix hr pa pb hs, fun vs B σ H r Q R h => Post.op2 R qa qb ho h⟩
structure DO (X : Cx) (e : Option Expr) (f : M (Option Int)) : Prop where
  run : ∀ Wx, Takes X Wx → ∃ t, PO X e t ∧ ∀ vs B σ H r Q, Rl X.K vs B σ H r → Post X vs Wx B H σ r (f r) (fun _ _ _ b a => b = a) Q → t σ H Q
def W.asI : W → M (Option Int)
  | .dt (.int i) => M.ret (some i)
  | _ => M.no
theorem do_none : DO X none (M.ret none) := ⟨fun _ _ => ⟨_, po_none, fun _ B _ H _ _ R h => h none B H .refl R rfl⟩⟩
theorem do_some (h : DE X e fe) : DO X (some e) (M.bind fe W.asI) := by
  refine ⟨fun Wx tk => ?_⟩
  obtain ⟨t, p, q⟩ := h.run Wx tk
  refine ⟨_, po_some p, fun vs B σ H r Q R hw => q vs B σ H r _ R (Post.bind0 hw fun x w B1 H1 r1 s1 R1 q1 h1 => ?_)⟩
  cases w with
  | dt d =>
    cases d with
    | int i =>
      cases q1
      exact ⟨i, rfl, h1 (some i) B1 H1 s1 R1 rfl⟩
    | _ => exact h1.elim
  | _ => exact h1.elim
def SlS (X : Cx) (g : D → Option Int → Option Int → Option Bo) : Prop :=
  ∃ rr, SlR X rr ∧ ∀ x d lo hi b, g d lo hi = some b → ∀ B H Q, Sbm B H → RpV X.K B H x d → (∀ v B' H', Ext B H B' H' → Sbm B' H' → RpB X.K H B' H' v b → Q v H') → rr x lo hi H Q
def cSl (g : D → Option Int → Option Int → Option Bo) (fe : M W) (fl fh : M (Option Int)) : M W := M.bind fe fun w => M.bind fl fun lo => M.bind fh fun hi => M.bind (M.view w) fun d => M.give (g d lo hi)
def fI : Fam (Option Int) (Option Int) := fun _ _ _ _ b a => b = a
theorem de_sl {g : D → Option Int → Option Int → Option Bo} {lo hi : Option Expr} {fl fh : M (Option Int)} {p2 : Pos} (hs : SlS X g) (he : DE X e fe) (hl : DO X lo fl) (hh : DO X hi fh) : DE X (.Subscript e (.Slice lo hi none p2) pos) (cSl g fe fl fh) := by
  refine ⟨fun Wx tk => ?_⟩
  obtain ⟨t, p, q⟩ := he.run Wx tk
  obtain ⟨tl, pl, ql⟩ := hl.run Wx tk
  obtain ⟨th, ph, qh⟩ := hh.run Wx tk
  obtain ⟨rr, h1, h2⟩ := hs
  refine ⟨_, pe_slice h1 p pl ph, fun vs B σ H r Q R hw => q vs B σ H r _ R (Post.bind back_W hw fun x w B1 H1 r1 s1 R1 q1 hw1 => ?_)⟩
  refine ql vs B1 σ H1 r1 _ R1 (Post.bind (F1 := fI) back_W hw1 fun i i' B2 H2 r2 s2 R2 ei hw2 => ?_)
  refine qh vs B2 σ H2 r2 _ R2 (Post.bind (F1 := fI) back_W hw2 fun j j' B3 H3 r3 s3 R3 ej hw3 => ?_)
  obtain ⟨d, vd, _, hw4⟩ := Post.view R3 (RpW.stp (RpW.stp q1 s2) s3) hw3
  obtain ⟨bo, eb, hw5⟩ := Post.give R3 hw4
  cases ei; cases ej
  exact h2 x d i j bo eb B3 H3 Q R3.sub vd hw5

/-! ### methods of texts -/
def MtS (X : Cx) (id : String) (g : Str → List D → Option Bo) : Prop :=
  ∃ rr, MtR X id rr ∧ ∀ a xs ds b, g a ds = some b → ∀ B H Q, Sbm B H → RpVs X.K B H xs ds → (∀ v B' H', Ext B H B' H' → Sbm B' H' → RpB X.K H B' H' v b → Q v H') → rr (.str a) xs H Q
def W.asS : W → M Str
  | .dt (.str i) => M.ret i
  | _ => M.no
def cM1 (g : Str → List D → Option Bo) (fo fe : M W) : M W := M.bind fo fun wo => M.bind wo.asS fun a => M.bind fe fun we => M.bind (M.view we) fun d => M.give (g a [d])
def cM0 (g : Str → List D → Option Bo) (fo : M W) : M W := M.bind fo fun wo => M.bind wo.asS fun a => M.give (g a [])
theorem Post.asS {γ δ : Type} {rel : Hp → Hp → Rho → δ → γ → Prop} {w : W} {x : V} {k : Str → M γ} {Q : δ → Hp → Prop} (hv : RpW X.K vs Hs B σ H r x w) (h : Post X vs Wx B0 H0 σ r0 (M.bind w.asS k r) rel Q) : ∃ a, x = .str a ∧ w = .dt (.str a) ∧ Post X vs Wx B0 H0 σ r0 (k a r) rel Q := by
  cases w with
  | dt d =>
    cases d with
    | str i =>
      cases hv
      exact ⟨i, rfl, rfl, h⟩
    | _ => exact h.elim
  | _ => exact h.elim
theorem de_m1 {o : Expr} {fo : M W} {id : String} {name : Str} {apos : Pos} {g : Str → List D → Option Bo} (slot : Slot "str" name id) (ty : typeOf (.builtin id) = pure (.type "method_descriptor")) (hm : MtS X id g) (ho : DE X o fo) (he : DE X e fe)
    (hs : starEach [e] X.env = [(false, eval e X.env)]) (hbase : attributeBase o name X.env (eval o X.env) = eval o X.env) (hline : (apos.endLine == pos.line) = true) : DE X (.Call (.Attribute o name apos) [e] [] pos) (cM1 g fo fe) := by
  refine ⟨fun Wx tk => ?_⟩
  obtain ⟨t, p, q⟩ := ho.run Wx tk
  obtain ⟨t2, p2, q2⟩ := he.run Wx tk
  obtain ⟨rr, m1, m2⟩ := hm
  refine ⟨_, pe_m1 slot ty m1 p p2 hs hbase hline, fun vs B σ H r Q R hw => q vs B σ H r _ R (Post.bind back_W hw fun x w B1 H1 r1 s1 R1 q1 hw1 => ?_)⟩
  obtain ⟨a, rfl, rfl, hw2⟩ := Post.asS q1 hw1
  refine ⟨⟨a, rfl⟩, q2 vs B1 σ H1 r1 _ R1 (Post.bind back_W hw2 fun y w2 B2 H2 r2 s2 R2 q3 hw3 => ?_)⟩
  obtain ⟨d, vd, _, hw4⟩ := Post.view R2 q3 hw3
  obtain ⟨bo, eb, hw5⟩ := Post.give R2 hw4
  exact m2 a [y] [d] bo eb B2 H2 Q R2.sub (.cons vd .nil) hw5
theorem de_m0 {o : Expr} {fo : M W} {id : String} {name : Str} {apos : Pos} {g : Str → List D → Option Bo} (slot : Slot "str" name id) (ty : typeOf (.builtin id) = pure (.type "method_descriptor")) (hm : MtS X id g) (ho : DE X o fo)
    (hbase : attributeBase o name X.env (eval o X.env) = eval o X.env) (hline : (apos.endLine == pos.line) = true) : DE X (.Call (.Attribute o name apos) [] [] pos) (cM0 g fo) := by
  refine ⟨fun Wx tk => ?_⟩
  obtain ⟨t, p, q⟩ := ho.run Wx tk
  obtain ⟨rr, m1, m2⟩ := hm
  refine ⟨_, pe_m0 slot ty m1 p hbase hline, fun vs B σ H r Q R hw => q vs B σ H r _ R (Post.bind back_W hw fun x w B1 H1 r1 s1 R1 q1 hw1 => ?_)⟩
  obtain ⟨a, rfl, rfl, hw2⟩ := Post.asS q1 hw1
  obtain ⟨bo, eb, hw5⟩ := Post.give R1 hw2
  exact ⟨⟨a, rfl⟩, m2 a [] [] bo eb B1 H1 Q R1.sub .nil hw5⟩
end
end Lc

set_option Elab.async false
set_option maxRecDepth 100000
set_option maxHeartbeats 4000000
/-! Part E: statements, targets. -/
namespace Lc
open PySem L2
inductive Fl where
  | next
  | ret (w : W)
  | brk
  | cnt
def PostS (X : Cx) (vs : List V) (Wx : WX) (B H : Hp) (σ : L2.St) (r : Rho) (res : Res Fl) (E : Ends) : Prop :=
  match res with
  | .ok .next r' => ∀ σ' B' H', Stp vs B H σ r B' H' σ' r' → Rl X.K vs B' σ' H' r' → E.nx σ' H'
  | .ok (.ret w) r' => ∀ v σ' B' H', Stp vs B H σ r B' H' σ' r' → Rl X.K vs B' σ' H' r' → RpW X.K vs H B' σ' H' r' v w → E.rt v H'
  | .ok .brk r' => ∀ σ' B' H', Stp vs B H σ r B' H' σ' r' → Rl X.K vs B' σ' H' r' → E.bk σ' H'
  | .ok .cnt r' => ∀ σ' B' H', Stp vs B H σ r B' H' σ' r' → Rl X.K vs B' σ' H' r' → E.ct σ' H'
  | .exc x r' => ∀ cl dd σ' B' H', Stp vs B H σ r B' H' σ' r' → Rl X.K vs B' σ' H' r' → RpX X B' cl dd x → Wx cl dd σ' H'
  | .fail => False
structure DS (X : Cx) (st : Stmt) (f : M Fl) : Prop where
  run : ∀ Wx, Takes X Wx → ∃ t, PS X st t ∧ ∀ vs B σ H r E, Rl X.K vs B σ H r → PostS X vs Wx B H σ r (f r) E → t E σ H
structure DSs (X : Cx) (st : List Stmt) (f : M Fl) : Prop where
  run : ∀ Wx, Takes X Wx → ∃ t, PSs X st t ∧ ∀ vs B σ H r E, Rl X.K vs B σ H r → PostS X vs Wx B H σ r (f r) E → t E σ H
def cSeq (f g : M Fl) : M Fl := fun r => match f r with
  | .ok .next r1 => g r1
  | x => x
section
variable {X : Cx} {vs : List V} {Wx : WX} {B H B0 H0 B1 H1 : Hp} {σ σ0 σ1 : L2.St} {r r0 r1 : Rho} {E : Ends}
theorem PostS.shift {res : Res Fl} (s : Stp vs B H σ r B1 H1 σ1 r1) (h : PostS X vs Wx B H σ r res E) : PostS X vs Wx B1 H1 σ1 r1 res E := by
  cases res with
  | ok f r2 =>
    cases f with
    | next => exact fun σ' B' H' q R => h σ' B' H' (s.trans q) R
    | ret w => exact fun v σ' B' H' q R k => h v σ' B' H' (s.trans q) R (RpW.back k s.dom)
    | brk => exact fun σ' B' H' q R => h σ' B' H' (s.trans q) R
    | cnt => exact fun σ' B' H' q R => h σ' B' H' (s.trans q) R
  | exc x r2 => exact fun cl dd σ' B' H' q R k => h cl dd σ' B' H' (s.trans q) R k
  | fail => exact h.elim
theorem PostS.bind0 {α β : Type} {rel1 : Hp → Hp → Rho → β → α → Prop} {m : M α} {k : α → M Fl} {Q1 : β → Hp → Prop} (h : PostS X vs Wx B H σ r (M.bind m k r) E)
    (hk : ∀ b a B1 H1 r1, Stp vs B H σ r B1 H1 σ r1 → Rl X.K vs B1 σ H1 r1 → rel1 B1 H1 r1 b a → PostS X vs Wx B H σ r (k a r1) E → Q1 b H1) : Post X vs Wx B H σ r (m r) rel1 Q1 := by
  cases hm : m r with
  | ok a r1 =>
    have e : M.bind m k r = k a r1 := by simp [M.bind, hm]
    rw [e] at h
    exact fun b B1 H1 s1 R1 f1 => hk b a B1 H1 r1 s1 R1 f1 h
  | exc x r1 =>
    have e : M.bind m k r = .exc x r1 := by simp [M.bind, hm]
    rw [e] at h
    exact fun cl dd B' H' s R q => h cl dd σ B' H' s R q
  | fail =>
    have e : M.bind m k r = .fail := by simp [M.bind, hm]
    rw [e] at h
    exact h.elim
variable {st : Stmt} {rest : List Stmt} {f g : M Fl} {e c : Expr} {fe : M W} {fc : M Bool} {pos : Pos}
theorem dss_nil : DSs X [] (M.ret .next) := ⟨fun _ _ => ⟨_, pss_nil, fun _ B σ H _ _ R h => h σ B H .refl R⟩⟩
theorem PostS.seq {t u : TS} (R : Rl X.K vs B σ H r) (ht : ∀ vs B σ H r E, Rl X.K vs B σ H r → PostS X vs Wx B H σ r (f r) E → t E σ H) (hu : ∀ vs B σ H r E, Rl X.K vs B σ H r → PostS X vs Wx B H σ r (g r) E → u E σ H)
    (h : PostS X vs Wx B H σ r (cSeq f g r) E) : tSeq t u E σ H := by
  refine ht vs B σ H r _ R ?_
  unfold cSeq at h
  cases e : f r with
  | ok fl r1 =>
    rw [e] at h
    cases fl with
    | next => exact fun σ1 B1 H1 s1 R1 => hu vs B1 σ1 H1 r1 E R1 (h.shift s1)
    | ret w => exact h
    | brk => exact h
    | cnt => exact h
  | exc x r1 => rw [e] at h; exact h
  | fail => rw [e] at h; exact h.elim
theorem dss_cons (h1 : DS X st f) (h2 : DSs X rest g) : DSs X (st :: rest) (cSeq f g) := by
  refine ⟨fun Wx tk => ?_⟩
  obtain ⟨t, p, q⟩ := h1.run Wx tk
  obtain ⟨u, p2, q2⟩ := h2.run Wx tk
  exact ⟨_, pss_cons p p2, fun vs B σ H r E R h => PostS.seq R q q2 h⟩
def cDrop (f : M W) : M Fl := M.bind f fun _ => M.ret .next
def cRet (f : M W) : M Fl := M.bind f fun w => M.ret (.ret w)
def cIfS (t : M Bool) (f g : M Fl) : M Fl := M.bind t fun k => if k = true then f else g
theorem ds_pass : DS X (.Pass pos) (M.ret .next) := ⟨fun _ _ => ⟨_, ps_pass, fun _ B σ H _ _ R h => h σ B H .refl R⟩⟩
theorem ds_break : DS X (.Break pos) (M.ret .brk) := ⟨fun _ _ => ⟨_, ps_break, fun _ B σ H _ _ R h => h σ B H .refl R⟩⟩
theorem ds_continue : DS X (.Continue pos) (M.ret .cnt) := ⟨fun _ _ => ⟨_, ps_continue, fun _ B σ H _ _ R h => h σ B H .refl R⟩⟩
theorem ds_retN : DS X (.Return none pos) (M.ret (.ret (.dt .non))) := ⟨fun _ _ => ⟨_, ps_retN, fun _ B σ H _ _ R h => h .non σ B H .refl R (Rp.non)⟩⟩
theorem ds_ret (he : DE X e fe) : DS X (.Return (some e) pos) (cRet fe) := by
  refine ⟨fun Wx tk => ?_⟩
  obtain ⟨t, p, q⟩ := he.run Wx tk
  exact ⟨_, ps_ret p, fun vs B σ H r E R h => q vs B σ H r _ R (PostS.bind0 h fun x w B1 H1 r1 s1 R1 q1 h1 => h1 x σ B1 H1 s1 R1 q1)⟩
theorem ds_expr (he : DE X e fe) (hs : swapsWith e none pos.line X.env = pure false) : DS X (.Expr e pos) (cDrop fe) := by
  refine ⟨fun Wx tk => ?_⟩
  obtain ⟨t, p, q⟩ := he.run Wx tk
  exact ⟨_, ps_expr p hs, fun vs B σ H r E R h => q vs B σ H r _ R (PostS.bind0 h fun x w B1 H1 r1 s1 R1 q1 h1 => h1 σ B1 H1 s1 R1)⟩
theorem ds_if {a b : List Stmt} (hc : DT X c fc) (ha : DSs X a f) (hb : DSs X b g) : DS X (.If c a b pos) (cIfS fc f g) := by
  refine ⟨fun Wx tk => ?_⟩
  obtain ⟨tc, pc, qc⟩ := hc.run Wx tk
  obtain ⟨t, p, q⟩ := ha.run Wx tk
  obtain ⟨u, p2, q2⟩ := hb.run Wx tk
  refine ⟨_, ps_if pc p p2, fun vs B σ H r E R h => qc vs B σ H r _ R (PostS.bind0 (rel1 := fT H) h fun k k' B1 H1 r1 s1 R1 e h1 => ?_)⟩
  cases e
  cases k with
  | true => exact q vs B1 σ H1 r1 E R1 (h1.shift s1)
  | false => exact q2 vs B1 σ H1 r1 E R1 (h1.shift s1)

/-! ### a name takes a value -/
def settle (w : W) : M Sl := fun r => match w with
  | .dt d => .ok (.dt d) r
  | .fresh c => .ok (.own c) r
  | .cel (.bor k) => .ok (.bor k) r
  | .cel (.loc i) => match r.cnt (.loc i) with
    | some c => .ok (.dt c.toD) (r.frz c.toD (.loc i))
    | none => match r.look (.loc i) with
      | some d => .ok (.dt d) r
      | none => .fail
def RpS (K : PySem.W.Frag) (vs : List V) (Hs B : Hp) (σ : L2.St) (H : Hp) (r : Rho) (v : V) : Sl → Prop
  | .dt d => Rp K B v d
  | .own c => ∃ a, v = .ref a ∧ Hs a = none ∧ B a = none ∧ At K B H a c ∧ ¬ Own vs σ r a
  | .bor k => vs[k]? = some v
theorem settle_ok {K : PySem.W.Frag} {v : V} {w : W} {sl : Sl} {r' : Rho} (R : Rl K vs B σ H r) (s : Stp vs B0 H0 σ0 r0 B H σ r) (h : RpW K vs H0 B σ H r v w) (e : settle w r = .ok sl r') :
    ∃ B', RpS K vs H0 B' σ H r' v sl ∧ Rl K vs B' σ H r' ∧ Stp vs B0 H0 σ0 r0 B' H σ r' ∧ Same B B' := by
  cases w with
  | dt d => cases e; exact ⟨B, h, R, s, Same.refl B⟩
  | fresh c => cases e; exact ⟨B, h, R, s, Same.refl B⟩
  | cel z =>
    cases z with
    | bor k => cases e; exact ⟨B, h, R, s, Same.refl B⟩
    | loc i =>
      cases hc : r.cnt (.loc i) with
      | none =>
        cases hl : r.look (.loc i) with
        | none => simp only [settle, hc, hl] at e; cases e
        | some d' =>
          simp only [settle, hc, hl] at e
          cases e
          exact ⟨B, look_data R hc hl h, R, s, Same.refl B⟩
      | some c =>
        simp only [settle, hc] at e
        cases e
        obtain ⟨a, q1, _, _⟩ := R.own _ c hc
        have hv : v = .ref a := by have h' : adr vs σ (.loc i) = some v := h; rw [q1] at h'; exact (Option.some.inj h').symm
        subst hv
        obtain ⟨o, ho, rp, R2, s2⟩ := R.freeze hc q1
        exact ⟨_, rp, R2, s.trans s2, s2.sub⟩
theorem settle_noexc {w : W} {r r' : Rho} {x : Ex} : settle w r ≠ .exc x r' := by
  cases w with
  | dt d => exact fun h => nomatch h
  | fresh c => exact fun h => nomatch h
  | cel z =>
    cases z with
    | bor k => exact fun h => nomatch h
    | loc i =>
      intro h
      cases hc : r.cnt (.loc i) with
      | some c => simp only [settle, hc] at h; cases h
      | none =>
        cases hl : r.look (.loc i) with
        | some d => simp only [settle, hc, hl] at h; cases h
        | none => simp only [settle, hc, hl] at h; cases h
def Rho.put (r : Rho) (i : Nat) (s : Sl) : Rho := { r with loc := r.loc.set i (some s) }
theorem cnt_put {i : Nat} {s : Sl} (hi : i < r.loc.length) (z : Ix) : (r.put i s).cnt z = if z = .loc i then (match s with | .own c => some c | _ => none) else r.cnt z := by
  cases z with
  | loc j =>
    by_cases e : j = i
    · subst e
      simp only [Rho.put, Rho.cnt, List.getElem?_set_self hi, if_true]
      cases s <;> rfl
    · have : ¬ Ix.loc j = Ix.loc i := fun q => e (Ix.loc.inj q)
      simp [Rho.put, Rho.cnt, List.getElem?_set_ne (Ne.symm e), this]
  | bor j => simp [Rho.put, Rho.cnt]
theorem adr_set {i : Nat} {v : V} (z : Ix) (hz : z ≠ .loc i) : adr vs (σ.set i (some v)) z = adr vs σ z := by
  cases z with
  | loc j =>
    have : i ≠ j := fun e => hz (by rw [e])
    simp only [adr, List.getElem?_set_ne this]
  | bor k => rfl
theorem adr_self {i : Nat} {v : V} (hi : i < σ.length) : adr vs (σ.set i (some v)) (.loc i) = some v := by
  simp only [adr, List.getElem?_set_self hi]
theorem Rl.assign {K : PySem.W.Frag} {v : V} {sl : Sl} {i : Nat} (R : Rl K vs B σ H r) (s : Stp vs B0 H0 σ0 r0 B H σ r) (h : RpS K vs H0 B σ H r v sl) (hi : i < r.loc.length) :
    Rl K vs B (σ.set i (some v)) H (r.put i sl) ∧ Stp vs B0 H0 σ0 r0 B H (σ.set i (some v)) (r.put i sl) := by
  have hs : i < σ.length := by rw [← R.len]; exact hi
  have old : ∀ z c, z ≠ .loc i → (r.put i sl).cnt z = some c → r.cnt z = some c := fun z c n q => by rw [cnt_put hi, if_neg n] at q; exact q
  have new : ∀ c, (r.put i sl).cnt (.loc i) = some c → sl = .own c := fun c q => by
    rw [cnt_put hi, if_pos rfl] at q
    cases sl with
    | own c' => cases q; rfl
    | dt d => cases q
    | bor k => cases q
  have ow : ∀ a, Own vs (σ.set i (some v)) (r.put i sl) a → Own vs σ r a ∨ H0 a = none := fun a ⟨z, c, q1, q2⟩ => by
    by_cases hz : z = .loc i
    · subst hz
      have := new c q1
      subst this
      rw [adr_self hs] at q2
      cases q2
      obtain ⟨b, e, n, _⟩ := h
      cases e
      exact .inr n
    · rw [adr_set z hz] at q2
      exact .inl ⟨z, c, old z c hz q1, q2⟩
  refine ⟨⟨R.sub, R.sto, ?_, ?_, ?_, ?_, R.bod, ?_⟩, ⟨s.sub, s.keep, s.stl, s.dom, fun a q => (ow a q).elim (s.own a) .inr, s.bol, s.bod, s.boo⟩⟩
  · simp [Rho.put, R.len]
  · intro j d q
    by_cases e : j = i
    · subst e
      simp only [Rho.put, List.getElem?_set_self hi, Option.some.injEq] at q
      subst q
      exact ⟨v, by rw [List.getElem?_set_self hs], h⟩
    · simp only [Rho.put, List.getElem?_set_ne (Ne.symm e)] at q
      obtain ⟨u, p1, p2⟩ := R.dat j d q
      exact ⟨u, by rw [List.getElem?_set_ne (Ne.symm e)]; exact p1, p2⟩
  · intro z c q
    by_cases hz : z = .loc i
    · subst hz
      have := new c q
      subst this
      obtain ⟨a, rfl, _, p2, p3, _⟩ := h
      exact ⟨a, adr_self hs, p2, p3⟩
    · obtain ⟨a, p1, p2, p3⟩ := R.own z c (old z c hz q)
      exact ⟨a, by rw [adr_set z hz]; exact p1, p2, p3⟩
  · intro j k q
    by_cases e : j = i
    · subst e
      simp only [Rho.put, List.getElem?_set_self hi, Option.some.injEq] at q
      subst q
      exact ⟨v, h, by rw [List.getElem?_set_self hs]⟩
    · simp only [Rho.put, List.getElem?_set_ne (Ne.symm e)] at q
      obtain ⟨u, p1, p2⟩ := R.lbo j k q
      exact ⟨u, p1, by rw [List.getElem?_set_ne (Ne.symm e)]; exact p2⟩
  · intro z z' c c' a q q' p p'
    by_cases hz : z = .loc i
    · by_cases hz' : z' = .loc i
      · rw [hz, hz']
      · subst hz
        have := new c q
        subst this
        rw [adr_self hs] at p; cases p
        obtain ⟨b, e, _, _, _, no⟩ := h
        cases e
        rw [adr_set z' hz'] at p'
        exact absurd ⟨z', c', old z' c' hz' q', p'⟩ no
    · by_cases hz' : z' = .loc i
      · subst hz'
        have := new c' q'
        subst this
        rw [adr_self hs] at p'; cases p'
        obtain ⟨b, e, _, _, _, no⟩ := h
        cases e
        rw [adr_set z hz] at p
        exact absurd ⟨z, c, old z c hz q, p⟩ no
      · rw [adr_set z hz] at p
        rw [adr_set z' hz'] at p'
        exact R.sep z z' c c' a (old z c hz q) (old z' c' hz' q') p p'

/-! ### targets -/
/-- only the slots ts are stored to -/
structure Out (σ σ' : L2.St) (ts : List Nat) : Prop where
  len : σ'.length = σ.length
  get : ∀ (j : Nat), j ∉ ts → σ'[j]? = σ[j]?
theorem Out.refl {ts : List Nat} : Out σ σ ts := ⟨rfl, fun _ _ => rfl⟩
theorem Out.trans {σ2 : L2.St} {ts us : List Nat} (a : Out σ σ1 ts) (b : Out σ1 σ2 us) : Out σ σ2 (ts ++ us) :=
  ⟨b.len.trans a.len, fun j n => (b.get j fun q => n (List.mem_append_right _ q)).trans (a.get j fun q => n (List.mem_append_left _ q))⟩
theorem Out.set {i : Nat} {v : Option V} : Out σ (σ.set i v) [i] := ⟨List.length_set .., fun j n => List.getElem?_set_ne fun e => n (by simp [e])⟩
/-- Bc, σc: what is frozen and where the slots stand when the targets begin -/
def PostU (X : Cx) (vs : List V) (Wx : WX) (Bc : Hp) (σc : L2.St) (ts : List Nat) (B H : Hp) (σ : L2.St) (r : Rho) (res : Res Unit) (Q : L2.St → Hp → Prop) : Prop :=
  match res with
  | .ok _ r' => ∀ σ' B' H', Stp vs B H σ r B' H' σ' r' → Same Bc B' → Out σc σ' ts → Rl X.K vs B' σ' H' r' → Q σ' H'
  | .exc x r' => ∀ cl dd σ' B' H', Stp vs B H σ r B' H' σ' r' → Rl X.K vs B' σ' H' r' → RpX X B' cl dd x → Wx cl dd σ' H'
  | .fail => False
structure DG (X : Cx) (tg : Expr) (ts : List Nat) (f : W → M Unit) : Prop where
  run : ∀ Wx, Takes X Wx → ∃ g, PG X tg g ∧ ∀ vs B0 H0 σ0 r0 B σ H r v w Q, Rl X.K vs B σ H r → Stp vs B0 H0 σ0 r0 B H σ r → RpW X.K vs H0 B σ H r v w → PostU X vs Wx B σ ts B0 H0 σ0 r0 (f w r) Q → g v σ H Q
def gN (i : Nat) (w : W) : M Unit := M.bind (settle w) fun sl => fun r => if i < r.loc.length then .ok () (r.put i sl) else .fail
theorem gN_ok {v : V} {w : W} {i : Nat} {Q : L2.St → Hp → Prop} (R : Rl X.K vs B σ H r) (s : Stp vs B0 H0 σ0 r0 B H σ r) (h : RpW X.K vs H0 B σ H r v w) (hp : PostU X vs Wx B σ [i] B0 H0 σ0 r0 (gN i w r) Q) : Q (σ.set i (some v)) H := by
  unfold gN M.bind at hp
  cases e : settle w r with
  | fail => simp only [e] at hp; exact hp.elim
  | exc x r1 => exact absurd e settle_noexc
  | ok sl r1 =>
    simp only [e] at hp
    by_cases hi : i < r1.loc.length
    · rw [if_pos hi] at hp
      obtain ⟨B', p, R', s', sb⟩ := settle_ok R s h e
      obtain ⟨R2, s2⟩ := R'.assign s' p hi
      exact hp _ B' H s2 sb .set R2
    · rw [if_neg hi] at hp
      exact hp.elim
theorem dg_name {i : Nat} {x : Str} (hN : X.N.Nodup) (hi : X.N[i]? = some x) (hx : Loc X.env.scope x) (hf : X.fn x = true ∨ X.env.scope.names.lookup x = some .local) : DG X (.Name x pos) [i] (gN i) :=
  ⟨fun _ _ => ⟨_, pg_name hN hi hx hf, fun _ _ _ _ _ _ _ _ _ _ _ _ R s h hp => gN_ok R s h hp⟩⟩
/-- several targets -/
structure DGs (X : Cx) (es : List Expr) (ts : List Nat) (f : List D → M Unit) : Prop where
  run : ∀ Wx, Takes X Wx → ∃ g, PGs X es g ∧ ∀ vs B0 H0 σ0 r0 B σ H r xs ds Q, Rl X.K vs B σ H r → Stp vs B0 H0 σ0 r0 B H σ r → RpAll X.K B xs ds → PostU X vs Wx B σ ts B0 H0 σ0 r0 (f ds r) Q → g xs σ H Q
def gsNil : List D → M Unit
  | [] => M.ret ()
  | _ => M.no
def gsCons (f : W → M Unit) (g : List D → M Unit) : List D → M Unit
  | [] => M.no
  | d :: ds => M.bind (f (.dt d)) fun _ => g ds
theorem dgs_nil : DGs X [] [] gsNil := ⟨fun _ _ => ⟨_, pgs_nil, fun vs B0 H0 σ0 r0 B σ H r xs ds Q R s h hp => by
  cases h with
  | nil => exact ⟨rfl, hp σ B H s (Same.refl B) .refl R⟩
  | cons a b => exact hp.elim⟩⟩
theorem dgs_cons {es : List Expr} {ts us : List Nat} {f : W → M Unit} {g : List D → M Unit} (h1 : DG X e ts f) (h2 : DGs X es us g) (hs : (assignEach (e :: es) X.env).map (·.2) = assign e X.env :: (assignEach es X.env).map (·.2)) : DGs X (e :: es) (ts ++ us) (gsCons f g) := by
  refine ⟨fun Wx tk => ?_⟩
  obtain ⟨t, p, q⟩ := h1.run Wx tk
  obtain ⟨u, p2, q2⟩ := h2.run Wx tk
  refine ⟨_, pgs_cons p p2 hs, fun vs B0 H0 σ0 r0 B σ H r xs ds Q R s h hp => ?_⟩
  cases h with
  | nil => exact hp.elim
  | @cons v vr d dr a b =>
    refine ⟨v, vr, rfl, q vs B0 H0 σ0 r0 B σ H r v (.dt d) _ R s a ?_⟩
    have hp' : PostU X vs Wx B σ (ts ++ us) B0 H0 σ0 r0 (M.bind (f (.dt d)) (fun _ => g dr) r) Q := hp
    cases e1 : f (.dt d) r with
    | fail => simp only [M.bind, e1] at hp'; exact hp'.elim
    | exc x r1 => simp only [M.bind, e1] at hp'; exact hp'
    | ok _ r1 =>
      simp only [M.bind, e1] at hp'
      intro σ1 B1 H1 s1 sb o1 R1
      refine q2 vs B0 H0 σ0 r0 B1 σ1 H1 r1 vr dr Q R1 s1 (b.mono sb) ?_
      revert hp'
      cases g dr r1 with
      | ok _ r2 => exact fun hp' σ2 B2 H2 s2 sb2 o2 R2 => hp' σ2 B2 H2 s2 (sb.trans sb2) (o1.trans o2) R2
      | exc x r2 => exact fun hp' => hp'
      | fail => exact fun hp' => hp'
def gT (n : Nat) (f : List D → M Unit) : W → M Unit
  | .dt (.tup ds) => M.bind (M.chk (decide (ds.length = n))) fun _ => f ds
  | _ => M.no
theorem dg_tup {es : List Expr} {ts : List Nat} {k n : Nat} {f : List D → M Unit} (hc : X.calm = true) (h : DGs X es ts f) (hn : (assignEach es X.env).length = n) (hst : (assignEach es X.env).findIdx? (·.1) = none) : DG X (.Tuple es k pos) ts (gT n f) := by
  refine ⟨fun Wx tk => ?_⟩
  obtain ⟨t, p, q⟩ := h.run Wx tk
  refine ⟨_, pg_tup hc p hn hst, fun vs B0 H0 σ0 r0 B σ H r v w Q R s hv hp => ?_⟩
  cases w with
  | dt d =>
    cases d with
    | tup ds =>
      cases hv with
      | @tup a xs _ h1 h2 =>
        have hp' : PostU X vs Wx B σ ts B0 H0 σ0 r0 (M.bind (M.chk (decide (ds.length = n))) (fun _ => f ds) r) Q := hp
        by_cases e : ds.length = n
        · have e2 : M.bind (M.chk (decide (ds.length = n))) (fun _ => f ds) r = f ds r := by simp [M.bind, M.chk, e]
          rw [e2] at hp'
          exact ⟨a, xs, rfl, seqT_mono R.sub h1, h2.length.trans e, q vs B0 H0 σ0 r0 B σ H r xs ds Q R s h2 hp'⟩
        · have e2 : M.bind (M.chk (decide (ds.length = n))) (fun _ => f ds) r = .fail := by simp [M.bind, M.chk, e]
          rw [e2] at hp'
          exact hp'.elim
    | _ => exact hp.elim
  | _ => exact hp.elim
/-- o[i] = data, o a list that may change -/
def gIx (fo fi : M W) : W → M Unit
  | .dt d => M.bind fo fun wo => M.bind fi fun wi => match wo, wi with
    | .cel z, .dt (.int i) => fun r => match r.cnt z with
      | some (.lst ds) => match ixN ds.length i with
        | some j => .ok () (r.setc (.lst (ds.set j d)) z)
        | none => .fail
      | _ => .fail
    | _, _ => M.no
  | _ => M.no
theorem dg_ix {o i : Expr} {fo fi : M W} (ho : DE X o fo) (hi : DE X i fi)
    (ha : ∀ v, assign (.Subscript o i pos) X.env v = (do
      let ov ← holding [v] (eval o X.env)
      let iv ← holding [v, ov] (eval i X.env)
      standAt pos
      holding [v, ov, iv] (setItem ov iv v)
      release [v, ov, iv] [])) : DG X (.Subscript o i pos) [] (gIx fo fi) := by
  refine ⟨fun Wx tk => ?_⟩
  obtain ⟨t, p, q⟩ := ho.run Wx tk
  obtain ⟨u, p2, q2⟩ := hi.run Wx tk
  refine ⟨_, pg_sub p p2 set_list ha, fun vs B0 H0 σ0 r0 B σ H r v w Q R s hv hp => ?_⟩
  cases w with
  | dt d =>
    have go : ∀ {α β : Type} {rel : Hp → Hp → Rho → β → α → Prop} {m : M α} {k : α → M Unit} {r : Rho} {B1 H1 : Hp} {Q1 : β → Hp → Prop}, Stp vs B0 H0 σ0 r0 B1 H1 σ r → Same B B1 → PostU X vs Wx B σ [] B0 H0 σ0 r0 (M.bind m k r) Q →
        (∀ b a B2 H2 r2, Stp vs B1 H1 σ r B2 H2 σ r2 → Rl X.K vs B2 σ H2 r2 → rel B2 H2 r2 b a → PostU X vs Wx B σ [] B0 H0 σ0 r0 (k a r2) Q → Q1 b H2) → Post X vs Wx B1 H1 σ r (m r) rel Q1 := by
      intro α β rel m k r B1 H1 Q1 s1 sb hp hk
      cases hm : m r with
      | ok a r1 =>
        have e : M.bind m k r = k a r1 := by simp [M.bind, hm]
        rw [e] at hp
        exact fun b B2 H2 s2 R2 f2 => hk b a B2 H2 r1 s2 R2 f2 hp
      | exc x r1 =>
        have e : M.bind m k r = .exc x r1 := by simp [M.bind, hm]
        rw [e] at hp
        exact fun cl dd B2 H2 s2 R2 f2 => hp cl dd σ B2 H2 (s1.trans s2) R2 f2
      | fail =>
        have e : M.bind m k r = .fail := by simp [M.bind, hm]
        rw [e] at hp
        exact hp.elim
    refine q vs B σ H r _ R (go s (Same.refl B) hp fun x wo B1 H1 r1 s1 R1 q1 h1 => ?_)
    refine q2 vs B1 σ H1 r1 _ R1 (go (s.trans s1) s1.sub h1 fun y wi B2 H2 r2 s2 R2 q3 h2 => ?_)
    cases wo with
    | dt _ => exact h2.elim
    | fresh _ => exact h2.elim
    | cel z =>
      cases wi with
      | fresh _ => exact h2.elim
      | cel _ => exact h2.elim
      | dt di =>
        cases di with
        | int n =>
          cases q3
          simp only at h2
          cases hc : r2.cnt z with
          | none => simp only [hc] at h2; exact h2.elim
          | some c =>
            cases c with
            | dct l => simp only [hc] at h2; exact h2.elim
            | lst ds =>
              simp only [hc] at h2
              cases hx : ixN ds.length n with
              | none => simp only [hx] at h2; exact h2.elim
              | some j =>
                simp only [hx] at h2
                obtain ⟨a, k1, k2, xs, k3, k4⟩ := R2.own z _ hc
                have hv' : Rp X.K B2 v d := Rp.mono (s1.sub.trans s2.sub) hv
                have ex : x = .ref a := by
                  have h' : adr vs σ z = some x := q1
                  rw [k1] at h'; exact (Option.some.inj h').symm
                subst ex
                obtain ⟨R3, s3⟩ := R2.put (o := .lst (xs.set j v)) (c' := .lst (ds.set j d)) hc k1 ⟨_, upd_same, k4.set hv' j⟩
                refine ⟨a, xs, n, j, rfl, rfl, k3, by rw [k4.length]; exact hx, ?_⟩
                exact h2 σ B2 _ (((s.trans s1).trans s2).trans s3) (s1.sub.trans s2.sub) .refl R3
        | _ => exact h2.elim
  | _ => exact hp.elim

/-! ### assignments -/
def cAsg (f : M W) (g : W → M Unit) : M Fl := M.bind f fun w => M.bind (g w) fun _ => M.ret .next
theorem PostS.tgt {w : W} {ts : List Nat} {gg : W → M Unit} (h : PostS X vs Wx B0 H0 σ0 r0 (M.bind (gg w) (fun _ => M.ret .next) r) E) : PostU X vs Wx B σ ts B0 H0 σ0 r0 (gg w r) E.nx := by
  cases e : gg w r with
  | ok u r1 =>
    simp only [M.bind, e] at h
    exact fun σ' B' H' s _ _ R => h σ' B' H' s R
  | exc x r1 => simp only [M.bind, e] at h; exact h
  | fail => simp only [M.bind, e] at h; exact h.elim
theorem ds_asg {tg : Expr} {ts : List Nat} {gg : W → M Unit} (he : DE X e fe) (hg : DG X tg ts gg) (hs : swapsWithSole [tg] e pos.line X.env = pure false) (hw : swappedStores [tg] e X.env = pure none) (h1 : (assignEach [tg] X.env).map (·.2) = [assign tg X.env]) :
    DS X (.Assign [tg] e pos) (cAsg fe gg) := by
  refine ⟨fun Wx tk => ?_⟩
  obtain ⟨t, p, q⟩ := he.run Wx tk
  obtain ⟨u, p2, q2⟩ := hg.run Wx tk
  refine ⟨_, ps_asg p p2 hs hw h1, fun vs B σ H r E R h => q vs B σ H r _ R (PostS.bind0 h fun x w B1 H1 r1 s1 R1 q1 h2 => ?_)⟩
  exact q2 vs B H σ r B1 σ H1 r1 x w E.nx R1 s1 q1 (PostS.tgt h2)
theorem ds_set {i : Nat} {x : Str} {pos' : Pos} (hN : X.N.Nodup) (hi : X.N[i]? = some x) (hx : Loc X.env.scope x) (he : DE X e fe) (hs : swapsWith e (some (.Name x pos')) pos.line X.env = pure false) (hf : X.fn x = true ∨ X.env.scope.names.lookup x = some .local) :
    DS X (.Assign [.Name x pos'] e pos) (cAsg fe (gN i)) := by
  refine ⟨fun Wx tk => ?_⟩
  obtain ⟨t, p, q⟩ := he.run Wx tk
  refine ⟨_, ps_set hN hi hx p hs hf, fun vs B σ H r E R h => q vs B σ H r _ R (PostS.bind0 h fun x w B1 H1 r1 s1 R1 q1 h2 => ?_)⟩
  exact gN_ok R1 s1 q1 (PostS.tgt h2)
end
end Lc

set_option Elab.async false
set_option maxRecDepth 100000
set_option maxHeartbeats 4000000
/-! Part F: loops over data, list comprehensions. -/
namespace Lc
open PySem L2
structure Aft (vs : List V) (Hs B1 H1 : Hp) (σ : L2.St) (r1 : Rho) (B' H' : Hp) : Prop where
  sub : Same B1 B'
  bh : Sbm B' H'
  keep : ∀ a o, H1 a = some o → ¬ Own vs σ r1 a → NoMk B1 a → Hs a = none → H' a = some o
/-- the walked thing yields the data ds, one by one -/
structure Wk (K : PySem.W.Frag) (vs : List V) (Hs B1 H1 : Hp) (σ : L2.St) (r1 : Rho) (J : It) (ds : List D) : Prop where
  go : ∀ i B' H', i < ds.length → Aft vs Hs B1 H1 σ r1 B' H' → J.go i H'
  yld : ∀ (i : Nat) (d : D) (B' H' : Hp) (x : V) (H2 : Hp), ds[i]? = some d → Aft vs Hs B1 H1 σ r1 B' H' → J.yld i H' x H2 → ∃ B2, Ext B' H' B2 H2 ∧ Sbm B2 H2 ∧ Rp K B2 x d
  stop : ∀ B' H', Aft vs Hs B1 H1 σ r1 B' H' → J.stop ds.length H'
def fJ (X : Cx) (vs : List V) (σ : L2.St) : Fam It (List D) := fun Hs B1 H1 r1 J ds => Wk X.K vs Hs B1 H1 σ r1 J ds
structure DI (X : Cx) (tg iter : Expr) (f : M (List D)) : Prop where
  run : ∀ Wx, Takes X Wx → ∃ wi, PI X tg iter wi ∧ ∀ vs B σ H r R, Rl X.K vs B σ H r → Post X vs Wx B H σ r (f r) (fJ X vs σ H) R → wi σ H R
def signs (x : Str) : List D := x.cps.toList.map fun c => .str ⟨#[c]⟩
section
variable {X : Cx} {vs : List V} {Wx : WX} {B H B0 H0 B1 H1 Hs : Hp} {σ σ0 σ1 : L2.St} {r r0 r1 : Rho} {E : Ends} {tg e : Expr} {fe : M W} {pos : Pos}
theorem pi_or {l : Expr} {w1 w2 : TI} (h1 : PI X tg l w1) (h2 : PI X tg l w2) : PI X tg l (fun σ H R => w1 σ H R ∨ w2 σ H R) :=
  ⟨fun pins s σ H R I h => h.elim (h1.run pins s σ H R I) (h2.run pins s σ H R I)⟩
theorem wk_list {K : PySem.W.Frag} {a : Addr} {xs : List V} {ds : List D} (h : ∀ B' H', Aft vs Hs B1 H1 σ r1 B' H' → H' a = some (.lst xs)) (hr : RpAll K B1 xs ds) : Wk K vs Hs B1 H1 σ r1 (Itl K a) ds where
  go := fun i B' H' hi q => by
    have hi' : i < xs.length := by rw [hr.length]; exact hi
    exact ⟨xs, xs[i], .of (h B' H' q), by simp [hi']⟩
  yld := fun i d B' H' x H2 e q y => by
    obtain ⟨rfl, y⟩ := y
    obtain ⟨v, hv, rv⟩ := hr.get e
    have := y xs (.of (h B' _ q))
    rw [hv] at this; cases this
    exact ⟨B', .refl, q.bh, rv.mono q.sub⟩
  stop := fun B' H' q => ⟨xs, .of (h B' H' q), by rw [hr.length]; exact Nat.le_refl _⟩
theorem wk_tup {K : PySem.W.Frag} {a : Addr} {xs : List V} {ds : List D} (h : TpA K B1 a xs) (hr : RpAll K B1 xs ds) : Wk K vs Hs B1 H1 σ r1 (Itt K a) ds where
  go := fun i B' H' hi q => by
    have hi' : i < xs.length := by rw [hr.length]; exact hi
    exact ⟨xs, xs[i], seqT_mono (Sbm.pre q.sub q.bh) h, by simp [hi']⟩
  yld := fun i d B' H' x H2 e q y => by
    obtain ⟨rfl, y⟩ := y
    obtain ⟨v, hv, rv⟩ := hr.get e
    have := y xs (seqT_mono (Sbm.pre q.sub q.bh) h)
    rw [hv] at this; cases this
    exact ⟨B', .refl, q.bh, rv.mono q.sub⟩
  stop := fun B' H' q => ⟨xs, seqT_mono (Sbm.pre q.sub q.bh) h, by rw [hr.length]; exact Nat.le_refl _⟩
theorem wk_str {K : PySem.W.Frag} {x : Str} : Wk K vs Hs B1 H1 σ r1 (Its x) (signs x) where
  go := fun i B' H' hi q => by simpa [signs, Its] using hi
  yld := fun i d B' H' v H2 e q y => by
    obtain ⟨rfl, c, hc, rfl⟩ := y
    simp only [signs, List.getElem?_map, Array.getElem?_toList, hc, Option.map_some, Option.some.injEq] at e
    subst e
    exact ⟨B', .refl, q.bh, .str _⟩
  stop := fun B' H' q => by simp [signs, Its]
def W.items : W → M (List D)
  | .dt (.str x) => M.ret (signs x)
  | .dt (.tup ds) => M.ret ds
  | .dt (.lst ds) => M.ret ds
  | .fresh (.lst ds) => M.ret ds
  | .cel z => M.bind (W.frz (.cel z)) fun d => match d with
    | .lst ds => M.ret ds
    | _ => M.no
  | _ => M.no
theorem di_expr (he : DE X e fe) : DI X tg e (M.bind fe W.items) := by
  refine ⟨fun Wx tk => ?_⟩
  obtain ⟨t, p, q⟩ := he.run Wx tk
  refine ⟨_, pi_or (pi_list p) (pi_or (pi_tup p) (pi_str p)), fun vs B σ H r R0 R h => ?_⟩
  cases hf : fe r with
  | fail => simp only [M.bind, hf] at h; exact h.elim
  | exc x r1 =>
    simp only [M.bind, hf] at h
    exact .inl (q vs B σ H r _ R (by rw [hf]; exact h))
  | ok w r1 =>
    simp only [M.bind, hf] at h
    cases w with
    | cel z =>
      refine .inl (q vs B σ H r _ R ?_)
      rw [hf]
      intro v B1 H1 s1 R1 hv
      obtain ⟨d, r2, B2, rp, R2, s2, _, h2⟩ := Post.frz (x := v) R1 s1 hv h
      cases d with
      | lst ds =>
        cases rp with
        | lst h1 h3 => exact ⟨_, rfl, ⟨_, .of (R2.sub.get _ _ h1)⟩, h2 _ B2 H1 s2 R2 (wk_list (fun B' H' af => af.bh.get _ _ (af.sub _ _ h1)) h3)⟩
      | _ => exact h2.elim
    | fresh c =>
      cases c with
      | dct l => exact h.elim
      | lst ds =>
        refine .inl (q vs B σ H r _ R ?_)
        rw [hf]
        rintro v B1 H1 s1 R1 ⟨a, rfl, n0, nb, ⟨xs, ha, hx⟩, no⟩
        exact ⟨a, rfl, ⟨xs, .of ha⟩, h _ B1 H1 s1 R1 (wk_list (fun B' H' af => af.keep a _ ha no (noMk_none nb) n0) hx)⟩
    | dt d =>
      cases d with
      | str x =>
        refine .inr (.inr (q vs B σ H r _ R ?_))
        rw [hf]
        intro v B1 H1 s1 R1 hv
        cases hv
        exact ⟨x, rfl, h _ B1 H1 s1 R1 wk_str⟩
      | tup ds =>
        refine .inr (.inl (q vs B σ H r _ R ?_))
        rw [hf]
        intro v B1 H1 s1 R1 hv
        cases hv with
        | tup h1 h2 => exact ⟨_, rfl, ⟨_, seqT_mono R1.sub h1⟩, h _ B1 H1 s1 R1 (wk_tup h1 h2)⟩
      | lst ds =>
        refine .inl (q vs B σ H r _ R ?_)
        rw [hf]
        intro v B1 H1 s1 R1 hv
        cases hv with
        | lst h1 h2 => exact ⟨_, rfl, ⟨_, .of (R1.sub.get _ _ h1)⟩, h _ B1 H1 s1 R1 (wk_list (fun B' H' af => af.bh.get _ _ (af.sub _ _ h1)) h2)⟩
      | _ => exact h.elim
def rngD (lo : Int) (n : Nat) : List D := (List.range n).map fun i => .int (lo + (i : Nat))
theorem wk_rng {K : PySem.W.Frag} {lo : Int} {n : Nat} : Wk K vs Hs B1 H1 σ r1 (Itr lo n) (rngD lo n) where
  go := fun i B' H' hi q => by simpa [rngD, Itr] using hi
  yld := fun i d B' H' v H2 e q y => by
    obtain ⟨rfl, rfl⟩ := y
    simp only [rngD, List.getElem?_map] at e
    by_cases hi : i < n
    · simp only [List.getElem?_range hi, Option.map_some, Option.some.injEq] at e
      subst e
      exact ⟨B', .refl, q.bh, .int _⟩
    · rw [List.getElem?_eq_none (by simpa using hi)] at e
      cases e
  stop := fun B' H' q => by simp [rngD, Itr]
def W.rng1 : List W → M (List D)
  | [.dt (.int j)] => M.bind (M.chk (decide (-(2 ^ 62) ≤ j ∧ j < 2 ^ 62))) fun _ => M.ret (rngD 0 j.toNat)
  | _ => M.no
def W.rng2 : List W → M (List D)
  | [.dt (.int i), .dt (.int j)] => M.bind (M.chk (decide (-(2 ^ 62) ≤ i ∧ i < 2 ^ 62 ∧ -(2 ^ 62) ≤ j ∧ j < 2 ^ 62))) fun _ => M.ret (rngD i (j - i).toNat)
  | _ => M.no
theorem di_range1 {a : Expr} {fa : M (List W)} {p : Pos} (hg : Gl X "range") (hm : X.mg "range" = none) (ha : DA X [a] fa) (hs : starEach [a] X.env = [(false, eval a X.env)]) : DI X tg (.Call (.Name "range" p) [a] [] pos) (M.bind fa W.rng1) := by
  refine ⟨fun Wx tk => ?_⟩
  obtain ⟨t, pp, q⟩ := ha.run Wx tk
  refine ⟨_, pi_range1 hg hm pp hs, fun vs B σ H r R0 R h => q vs B σ H r _ R (Post.bind0 h fun xs ws B1 H1 r1 s1 R1 q1 h1 => ?_)⟩
  unfold W.rng1 at h1
  split at h1
  · rename_i j
    cases q1 with
    | cons v1 v2 _ =>
      cases v1; cases v2
      obtain ⟨c, h2⟩ := Post.chk h1
      have c' := of_decide_eq_true c
      exact ⟨j, rfl, c'.1, c'.2, h2 _ B1 H1 s1 R1 wk_rng⟩
  · exact h1.elim
theorem di_range2 {a b : Expr} {fa : M (List W)} {p : Pos} (hg : Gl X "range") (hm : X.mg "range" = none) (ha : DA X [a, b] fa) (hs : starEach [a, b] X.env = [(false, eval a X.env), (false, eval b X.env)]) (hs2 : starEach [b] X.env = [(false, eval b X.env)]) : DI X tg (.Call (.Name "range" p) [a, b] [] pos) (M.bind fa W.rng2) := by
  refine ⟨fun Wx tk => ?_⟩
  obtain ⟨t, pp, q⟩ := ha.run Wx tk
  refine ⟨_, pi_range2 hg hm pp hs hs2, fun vs B σ H r R0 R h => q vs B σ H r _ R (Post.bind0 h fun xs ws B1 H1 r1 s1 R1 q1 h1 => ?_)⟩
  unfold W.rng2 at h1
  split at h1
  · rename_i i j
    cases q1 with
    | cons v1 v2 _ =>
      cases v2 with
      | cons v3 v4 _ =>
        cases v1; cases v3; cases v4
        obtain ⟨c, h2⟩ := Post.chk h1
        have c' := of_decide_eq_true c
        exact ⟨i, j, rfl, c', h2 _ B1 H1 s1 R1 wk_rng⟩
  · exact h1.elim

/-! ### for -/
def loopL (T : W → M Unit) (body : M Fl) : List D → M Fl
  | [] => M.ret .next
  | d :: ds => fun r => match T (.dt d) r with
    | .ok _ r1 => match body r1 with
      | .ok .next r2 => loopL T body ds r2
      | .ok .cnt r2 => loopL T body ds r2
      | .ok .brk r2 => .ok .next r2
      | .ok (.ret w) r2 => .ok (.ret w) r2
      | .exc x r2 => .exc x r2
      | .fail => .fail
    | .exc x r1 => .exc x r1
    | .fail => .fail
def cFor (fi : M (List D)) (T : W → M Unit) (body : M Fl) : M Fl := M.bind fi (loopL T body)
theorem Stp.aft {B' H' : Hp} {σ' : L2.St} {r' : Rho} (s : Stp vs B1 H1 σ r1 B' H' σ' r') (R : Rl X.K vs B' σ' H' r') : Aft vs Hs B1 H1 σ r1 B' H' := ⟨s.sub, R.sub, fun a o h n m _ => (s.keep a o h n m).1⟩
theorem ds_for {iter : Expr} {body : List Stmt} {fi : M (List D)} {ts : List Nat} {T : W → M Unit} {fb : M Fl} (hp : PassesOwn (model X.prog X.w) X.A X.env X.xe) (hc : X.calm = true) (hi : DI X tg iter fi) (hg : DG X tg ts T) (hb : DSs X body fb)
    (hs : ∀ x, foldedSetIterable iter X.env x = pure x) : DS X (.For tg iter body [] pos) (cFor fi T fb) := by
  refine ⟨fun Wx tk => ?_⟩
  obtain ⟨wi, pi, qi⟩ := hi.run Wx tk
  obtain ⟨g, pg, qg⟩ := hg.run Wx tk
  obtain ⟨tb, pb, qb⟩ := hb.run Wx tk
  refine ⟨_, ps_for hp hc pi pg pb hs, fun vs B σ H r E R h => qi vs B σ H r _ R (PostS.bind0 h fun J ds B1 H1 r1 s1 R1 wk h1 => ?_)⟩
  replace h1 := PostS.shift s1 h1
  refine ⟨fun i m σ' H' => i + m = ds.length ∧ ∃ B' r', Stp vs B1 H1 σ r1 B' H' σ' r' ∧ Rl X.K vs B' σ' H' r' ∧ PostS X vs Wx B1 H1 σ r1 (loopL T fb (ds.drop i) r') E, ⟨ds.length, by omega, B1, r1, .refl, R1, h1⟩, ?_⟩
  rintro i m σ' H' ⟨hm, B', r', s', R', h'⟩
  by_cases hlt : i < ds.length
  · refine .inr ⟨wk.go i B' H' hlt (s'.aft R'), fun σ2 H2 => i + 1 + (m - 1) = ds.length ∧ ∃ B2 r2, Stp vs B1 H1 σ r1 B2 H2 σ2 r2 ∧ Rl X.K vs B2 σ2 H2 r2 ∧ PostS X vs Wx B1 H1 σ r1 (loopL T fb (ds.drop (i + 1)) r2) E, fun σ2 H2 q => ⟨m - 1, by omega, q⟩, fun x H2 y => ?_⟩
    have ed : ds.drop i = ds[i] :: ds.drop (i + 1) := List.drop_eq_getElem_cons hlt
    rw [ed] at h'
    obtain ⟨B2, e2, sm2, rp⟩ := wk.yld i ds[i] B' H' x H2 (by simp [hlt]) (s'.aft R') y
    have s2 : Stp vs B1 H1 σ r1 B2 H2 σ' r' := s'.trans e2.stp
    have R2 := R'.ext e2 sm2
    refine qg vs B2 H2 σ' r' B2 σ' H2 r' x (.dt ds[i]) _ R2 .refl rp ?_
    cases e3 : T (.dt ds[i]) r' with
    | fail => simp only [loopL, e3] at h'; exact h'.elim
    | exc y r3 =>
      simp only [loopL, e3] at h'
      exact fun cl dd σ3 B3 H3 s3 R3 q3 => h' cl dd σ3 B3 H3 (s2.trans s3) R3 q3
    | ok u r3 =>
      intro σ3 B3 H3 s3 _ _ R3
      refine qb vs B3 σ3 H3 r3 _ R3 ?_
      have s13 := s2.trans s3
      cases e4 : fb r3 with
      | fail => simp only [loopL, e3, e4] at h'; exact h'.elim
      | exc y r4 =>
        simp only [loopL, e3, e4] at h'
        exact fun cl dd σ4 B4 H4 s4 R4 q4 => h' cl dd σ4 B4 H4 (s13.trans s4) R4 q4
      | ok fl r4 =>
        cases fl with
        | next =>
          simp only [loopL, e3, e4] at h'
          exact fun σ4 B4 H4 s4 R4 => ⟨by omega, B4, r4, s13.trans s4, R4, h'⟩
        | cnt =>
          simp only [loopL, e3, e4] at h'
          exact fun σ4 B4 H4 s4 R4 => ⟨by omega, B4, r4, s13.trans s4, R4, h'⟩
        | brk =>
          simp only [loopL, e3, e4] at h'
          exact fun σ4 B4 H4 s4 R4 => h' σ4 B4 H4 (s13.trans s4) R4
        | ret w =>
          simp only [loopL, e3, e4] at h'
          exact fun v σ4 B4 H4 s4 R4 q4 => h' v σ4 B4 H4 (s13.trans s4) R4 (RpW.back q4 s13.dom)
  · have e : i = ds.length := by omega
    subst e
    rw [List.drop_length] at h'
    exact .inl ⟨wk.stop B' H' (s'.aft R'), h' σ' B' H' s' R'⟩
end
end Lc

set_option Elab.async false
set_option maxRecDepth 100000
set_option maxHeartbeats 4000000
/-! Part G: list comprehensions. -/
namespace Lc
open PySem L2
def wipeG {α : Type} (l : List (Option α)) : List Nat → List (Option α)
  | [] => l
  | v :: vs => (wipeG l vs).set v none
theorem wipeG_len {α : Type} (l : List (Option α)) : ∀ vs, (wipeG l vs).length = l.length
  | [] => rfl
  | v :: vs => by rw [wipeG, List.length_set, wipeG_len l vs]
theorem wipeG_in {α : Type} {l : List (Option α)} {i : Nat} : ∀ {vs : List Nat}, i ∈ vs → i < l.length → (wipeG l vs)[i]? = some none
  | [], h, _ => nomatch h
  | v :: vs, h, hl => by
    by_cases e : v = i
    · subst e
      rw [wipeG, List.getElem?_set_self (by rw [wipeG_len]; exact hl)]
    · rw [wipeG, List.getElem?_set_ne e]
      exact wipeG_in ((List.mem_cons.mp h).resolve_left fun q => e q.symm) hl
theorem wipeG_out {α : Type} {l : List (Option α)} {i : Nat} : ∀ {vs : List Nat}, i ∉ vs → (wipeG l vs)[i]? = l[i]?
  | [], _ => rfl
  | v :: vs, h => by
    have e : v ≠ i := fun q => h (by simp [q])
    rw [wipeG, List.getElem?_set_ne e]
    exact wipeG_out fun q => h (List.mem_cons_of_mem _ q)
theorem wipeG_eq (σ : L2.St) : ∀ vs, wipe σ vs = wipeG σ vs
  | [] => rfl
  | v :: vs => by rw [wipe, wipeG, wipeG_eq σ vs]
def Rho.wipe (r : Rho) (own : List Nat) : Rho := { r with loc := wipeG r.loc own }
def backL {α : Type} (l1 le : List (Option α)) : List Nat → List (Option α)
  | [] => le
  | v :: vs => match l1[v]? with
    | some x => (backL l1 le vs).set v x
    | none => backL l1 le vs
theorem backL_len {α : Type} (l1 le : List (Option α)) : ∀ vs, (backL l1 le vs).length = le.length
  | [] => rfl
  | v :: vs => by
    unfold backL
    split
    · rw [List.length_set, backL_len l1 le vs]
    · exact backL_len l1 le vs
theorem backL_out {α : Type} {l1 le : List (Option α)} {i : Nat} : ∀ {vs : List Nat}, i ∉ vs → (backL l1 le vs)[i]? = le[i]?
  | [], _ => rfl
  | v :: vs, h => by
    have e : v ≠ i := fun q => h (by simp [q])
    have n : i ∉ vs := fun q => h (List.mem_cons_of_mem _ q)
    unfold backL
    split
    · rw [List.getElem?_set_ne e]; exact backL_out n
    · exact backL_out n
theorem backL_in {α : Type} {l1 le : List (Option α)} {i : Nat} (hl : le.length = l1.length) : ∀ {vs : List Nat}, i ∈ vs → (backL l1 le vs)[i]? = l1[i]?
  | [], h => nomatch h
  | v :: vs, h => by
    unfold backL
    by_cases e : v = i
    · subst e
      cases q : l1[v]? with
      | none =>
        simp only
        have : ¬ v < l1.length := fun z => by rw [List.getElem?_eq_getElem z] at q; cases q
        rw [List.getElem?_eq_none (by rw [backL_len, hl]; omega)]
      | some x =>
        simp only
        have : v < l1.length := (List.getElem?_eq_some_iff.mp q).1
        rw [List.getElem?_set_self (by rw [backL_len, hl]; exact this)]
    · have h' : i ∈ vs := (List.mem_cons.mp h).resolve_left fun q => e q.symm
      split
      · rw [List.getElem?_set_ne e]; exact backL_in hl h'
      · exact backL_in hl h'
def Rho.back (r1 re : Rho) (own : List Nat) : Rho := { loc := backL r1.loc re.loc own, bor := re.bor, st := re.st }
/-- none of these names holds a thing of its own -/
def Rho.noOwn (r : Rho) (own : List Nat) : Bool := own.all fun i => match r.loc[i]? with
  | some (some (.own _)) => false
  | _ => true
section
variable {K : PySem.W.Frag} {vs : List V} {B H B1 H1 : Hp} {σ : L2.St} {r r1 re : Rho} {own : List Nat}
theorem cnt_wipe {z : Ix} {c : Cn} (h : (r.wipe own).cnt z = some c) : r.cnt z = some c ∧ ∀ i, z = .loc i → i ∉ own := by
  cases z with
  | bor k => exact ⟨h, fun i e => nomatch e⟩
  | loc i =>
    by_cases hi : i ∈ own
    · by_cases hl : i < r.loc.length
      · simp [Rho.cnt, Rho.wipe, wipeG_in hi hl] at h
      · simp [Rho.cnt, Rho.wipe, List.getElem?_eq_none (show (wipeG r.loc own).length ≤ i by rw [wipeG_len]; omega)] at h
    · refine ⟨?_, fun j e => by cases e; exact hi⟩
      simpa [Rho.cnt, Rho.wipe, wipeG_out hi] using h
theorem adr_wipe {z : Ix} (h : ∀ i, z = .loc i → i ∉ own) : adr vs (wipe σ own) z = adr vs σ z := by
  cases z with
  | bor k => rfl
  | loc i => simp only [adr, wipeG_eq, wipeG_out (h i rfl)]
theorem own_wipe {a : Addr} (h : Own vs (wipe σ own) (r.wipe own) a) : Own vs σ r a := by
  obtain ⟨z, c, h1, h2⟩ := h
  obtain ⟨h3, h4⟩ := cnt_wipe h1
  exact ⟨z, c, h3, by rw [← adr_wipe h4]; exact h2⟩
theorem Rl.wipe (R : Rl K vs B σ H r) : Rl K vs B (wipe σ own) H (r.wipe own) where
  sub := R.sub
  sto := R.sto
  len := by simp [Rho.wipe, wipeG_len, wipeG_eq, R.len]
  dat := fun i d h => by
    by_cases hi : i ∈ own
    · by_cases hl : i < r.loc.length
      · simp [Rho.wipe, wipeG_in hi hl] at h
      · simp [Rho.wipe, List.getElem?_eq_none (show (wipeG r.loc own).length ≤ i by rw [wipeG_len]; omega)] at h
    · simp only [Rho.wipe, wipeG_out hi] at h
      obtain ⟨v, h1, h2⟩ := R.dat i d h
      exact ⟨v, by rw [wipeG_eq, wipeG_out hi]; exact h1, h2⟩
  own := fun z c h => by
    obtain ⟨h3, h4⟩ := cnt_wipe h
    obtain ⟨a, q1, q2⟩ := R.own z c h3
    exact ⟨a, by rw [adr_wipe h4]; exact q1, q2⟩
  lbo := fun i k h => by
    by_cases hi : i ∈ own
    · by_cases hl : i < r.loc.length
      · simp [Rho.wipe, wipeG_in hi hl] at h
      · simp [Rho.wipe, List.getElem?_eq_none (show (wipeG r.loc own).length ≤ i by rw [wipeG_len]; omega)] at h
    · simp only [Rho.wipe, wipeG_out hi] at h
      obtain ⟨v, h1, h2⟩ := R.lbo i k h
      exact ⟨v, h1, by rw [wipeG_eq, wipeG_out hi]; exact h2⟩
  bod := R.bod
  sep := fun z z' c c' a h h' p p' => by
    obtain ⟨g1, g2⟩ := cnt_wipe h
    obtain ⟨g3, g4⟩ := cnt_wipe h'
    rw [adr_wipe g2] at p
    rw [adr_wipe g4] at p'
    exact R.sep z z' c c' a g1 g3 p p'
theorem back_ok (R1 : Rl K vs B1 σ H1 r1) (hn : r1.noOwn own = true) (Re : Rl K vs B (wipe σ own) H re) (s : Stp vs B1 H1 (wipe σ own) (r1.wipe own) B H (wipe σ own) re) (hw : re.wipe own = re) :
    Rl K vs B σ H (r1.back re own) ∧ Stp vs B1 H1 σ r1 B H σ (r1.back re own) ∧ ∀ a, Own vs σ (r1.back re own) a → Own vs (wipe σ own) re a := by
  have hlen : re.loc.length = r1.loc.length := by
    have := Re.len
    rw [wipeG_eq, wipeG_len, ← R1.len] at this
    exact this
  have cb : ∀ z c, (r1.back re own).cnt z = some c → re.cnt z = some c ∧ ∀ i, z = .loc i → i ∉ own := fun z c h => by
    cases z with
    | bor k => exact ⟨h, fun i e => nomatch e⟩
    | loc i =>
      by_cases hi : i ∈ own
      · have h3 := List.all_eq_true.mp hn i hi
        exfalso
        cases e : r1.loc[i]? with
        | none => simp [Rho.cnt, Rho.back, backL_in hlen hi, e] at h
        | some o =>
          cases o with
          | none => simp [Rho.cnt, Rho.back, backL_in hlen hi, e] at h
          | some sl =>
            cases sl with
            | own c' => simp [e] at h3
            | dt d => simp [Rho.cnt, Rho.back, backL_in hlen hi, e] at h
            | bor k => simp [Rho.cnt, Rho.back, backL_in hlen hi, e] at h
      · refine ⟨by simpa [Rho.cnt, Rho.back, backL_out hi] using h, fun j e => by cases e; exact hi⟩
  have ob : ∀ a, Own vs σ (r1.back re own) a → Own vs (wipe σ own) re a := fun a ⟨z, c, h1, h2⟩ => by
    obtain ⟨g1, g2⟩ := cb z c h1
    exact ⟨z, c, g1, by rw [adr_wipe g2]; exact h2⟩
  refine ⟨⟨Re.sub, Re.sto, ?_, ?_, ?_, ?_, Re.bod, ?_⟩, ⟨s.sub, fun a o h n m => s.keep a o h (fun q => n (own_wipe q)) m, s.stl, s.dom, fun a h => ?_, s.bol, s.bod, s.boo⟩, ob⟩
  · simp only [Rho.back, backL_len]
    rw [hlen, R1.len]
  · intro i d h
    by_cases hi : i ∈ own
    · simp only [Rho.back, backL_in hlen hi] at h
      obtain ⟨v, h1, h2⟩ := R1.dat i d h
      exact ⟨v, h1, h2.mono s.sub⟩
    · simp only [Rho.back, backL_out hi] at h
      obtain ⟨v, h1, h2⟩ := Re.dat i d h
      exact ⟨v, by rw [wipeG_eq, wipeG_out hi] at h1; exact h1, h2⟩
  · intro z c h
    obtain ⟨g1, g2⟩ := cb z c h
    obtain ⟨a, q1, q2⟩ := Re.own z c g1
    exact ⟨a, by rw [← adr_wipe g2]; exact q1, q2⟩
  · intro i k h
    by_cases hi : i ∈ own
    · simp only [Rho.back, backL_in hlen hi] at h
      exact R1.lbo i k h
    · simp only [Rho.back, backL_out hi] at h
      obtain ⟨v, h1, h2⟩ := Re.lbo i k h
      exact ⟨v, h1, by rw [wipeG_eq, wipeG_out hi] at h2; exact h2⟩
  · intro z z' c c' a h h' p p'
    obtain ⟨g1, g2⟩ := cb z c h
    obtain ⟨g3, g4⟩ := cb z' c' h'
    rw [← adr_wipe g2] at p
    rw [← adr_wipe g4] at p'
    exact Re.sep z z' c c' a g1 g3 p p'
  · rcases s.own a (ob a h) with q | q
    · exact .inl (own_wipe q)
    · exact .inr q
theorem wipe_wipe : (r.wipe own).wipe own = r.wipe own := by
  have : ∀ (l : List (Option Sl)), wipeG (wipeG l own) own = wipeG l own := fun l => by
    apply List.ext_getElem?
    intro i
    by_cases hi : i ∈ own
    · by_cases hl : i < l.length
      · rw [wipeG_in hi (by rw [wipeG_len]; exact hl), wipeG_in hi hl]
      · rw [List.getElem?_eq_none (by rw [wipeG_len, wipeG_len]; omega), List.getElem?_eq_none (by rw [wipeG_len]; omega)]
    · rw [wipeG_out hi]
  simp only [Rho.wipe, this]
/-- a place that no one here knows is written -/
theorem Rl.other {a : Addr} {o : HO} (R : Rl K vs B σ H r) (nb : B a = none) (no : ¬ Own vs σ r a) : Rl K vs B σ (upd H a o) r where
  sub := ⟨fun x u h m => by
    have : x ≠ a := fun e => by subst e; rw [nb] at h; cases h
    rw [upd_ne this]; exact R.sub.at' _ _ h m, fun x u h m => by
    have : x ≠ a := fun e => by subst e; rw [nb] at h; cases h
    rw [upd_ne this]; exact R.sub.mks _ _ h m⟩
  sto := R.sto.off fun b j u h1 h2 => by
    have : b ≠ a := fun e => by subst e; rw [nb] at h1; cases h1
    rw [upd_ne this]; exact h2
  len := R.len
  dat := R.dat
  own := fun z c h => by
    obtain ⟨b, q1, q2, q3⟩ := R.own z c h
    have : b ≠ a := fun e => no ⟨z, c, h, e ▸ q1⟩
    exact ⟨b, q1, q2, q3.mono (Same.refl B) fun u q => by rw [upd_ne this]; exact q⟩
  lbo := R.lbo
  bod := R.bod
  sep := R.sep
end

/-! ### the readings that a denotation itself gives -/
def Wf : WX := fun _ _ _ _ => False
section
variable {X : Cx}
def tOf (X : Cx) (f : M W) : TE := fun σ H Q => ∃ vs B r, Rl X.K vs B σ H r ∧ Post X vs Wf B H σ r (f r) (fW X vs σ H) Q
def ttOf (X : Cx) (f : M Bool) : TT := fun σ H Q => ∃ vs B r, Rl X.K vs B σ H r ∧ Post X vs Wf B H σ r (f r) (fT H) Q
def gOf (X : Cx) (ts : List Nat) (T : W → M Unit) : TG := fun v σ H Q => ∃ vs B r w, Rl X.K vs B σ H r ∧ RpW X.K vs H B σ H r v w ∧ PostU X vs Wf B σ ts B H σ r (T w r) Q
theorem DE.pe {e : Expr} {f : M W} (h : DE X e f) (tk : Takes X Wf) : PE X e (tOf X f) := by
  obtain ⟨t, p, q⟩ := h.run Wf tk
  exact ⟨fun pins s σ H Q I ⟨vs, B, r, R, hp⟩ => p.run pins s σ H Q I (q vs B σ H r Q R hp)⟩
theorem DG.pg {e : Expr} {ts : List Nat} {T : W → M Unit} (h : DG X e ts T) (tk : Takes X Wf) : PG X e (gOf X ts T) := by
  obtain ⟨t, p, q⟩ := h.run Wf tk
  exact ⟨fun pins s σ H v u Q I rv ⟨vs, B, r, w, R, hv, hp⟩ => p.run pins s σ H v u Q I rv (q vs B H σ r B σ H r v w Q R .refl hv hp)⟩
/-- the tests of a clause -/
structure DTs (X : Cx) (ifs : List Expr) (f : M Bool) : Prop where
  run : Takes X Wf → PTs X ifs (ttOf X f)
theorem dts_nil : DTs X [] (M.ret true) := ⟨fun _ => ⟨fun pins s σ H Q I ⟨vs, B, r, R, hp⟩ => pts_nil.run pins s σ H Q I (hp true B H .refl R rfl)⟩⟩
theorem dts_one {c : Expr} {f : M Bool} (h : DT X c f) : DTs X [c] f := ⟨fun tk => by
  obtain ⟨t, p, q⟩ := h.run Wf tk
  exact ⟨fun pins s σ H Q I ⟨vs, B, r, R, hp⟩ => (pts_one p).run pins s σ H Q I (q vs B σ H r Q R hp)⟩⟩
theorem takes_blk {s : Shared} {H : Hp} {scope : Scope} {cenv : Env} {fp : List Addr} : Takes (X.blk s H scope cenv fp) Wf := fun u s' ⟨_, _, _, _, _, _, _, _, _, _, _, _, _, _, _, _, h⟩ => h.elim

def lcLoop (own : List Nat) (T : W → M Unit) (tt : M Bool) (fe : M W) : List D → List D → M (List D)
  | [], acc => M.ret acc
  | d :: ds, acc => fun r => match T (.dt d) r with
    | .ok _ r1 => match tt r1 with
      | .ok true r2 => match fe r2 with
        | .ok w r3 => match w.frz r3 with
          | .ok y r4 => if acc.length < sizeLine then lcLoop own T tt fe ds (acc ++ [y]) (r4.wipe own) else .fail
          | _ => .fail
        | _ => .fail
      | .ok false r2 => lcLoop own T tt fe ds acc (r2.wipe own)
      | _ => .fail
    | _ => .fail
def cLc (fi : M (List D)) (own : List Nat) (T : W → M Unit) (tt : M Bool) (fe : M W) : M W := M.bind fi fun ds => fun r1 => if r1.noOwn own = true then
  match lcLoop own T tt fe ds [] (r1.wipe own) with
  | .ok acc re => .ok (.fresh (.lst acc)) (r1.back re own)
  | _ => .fail
  else .fail
theorem Out.wipe {σ σ2 : L2.St} {ts own : List Nat} (o : Out (wipe σ own) σ2 ts) (h : ∀ t ∈ ts, t ∈ own) : wipe σ2 own = wipe σ own := by
  rw [wipeG_eq, wipeG_eq]
  have hl : σ2.length = σ.length := by rw [o.len, wipeG_eq, wipeG_len]
  apply List.ext_getElem?
  intro i
  by_cases hi : i ∈ own
  · by_cases q : i < σ.length
    · rw [wipeG_in hi (by rw [hl]; exact q), wipeG_in hi q]
    · rw [List.getElem?_eq_none (by rw [wipeG_len]; omega), List.getElem?_eq_none (by rw [wipeG_len]; omega)]
  · rw [wipeG_out hi, o.get i fun q => hi (h i q), wipeG_eq]
theorem lc_read {vs : List V} {Wx : WX} {B H : Hp} {σ : L2.St} {r : Rho} {fi : M (List D)} {own ts : List Nat} {T : W → M Unit} {tt : M Bool} {fe : M W} {wi : TI} {Q : VK} (hts : ∀ t ∈ ts, t ∈ own) (R : Rl X.K vs B σ H r)
    (qi : ∀ vs B σ H r R, Rl X.K vs B σ H r → Post X vs Wx B H σ r (fi r) (fJ X vs σ H) R → wi σ H R) (h : Post X vs Wx B H σ r (cLc fi own T tt fe r) (fW X vs σ H) Q) : tLc wi (gOf X ts T) (ttOf X tt) (tOf X fe) own σ H Q := by
  refine qi vs B σ H r _ R (Post.bind0 h fun J ds B1 H1 r1 s1 R1 wk h1 => ?_)
  intro L hL
  by_cases hno : r1.noOwn own = true
  · rw [if_pos hno] at h1
    have hsome : ∃ tot, tot = lcLoop own T tt fe ds [] (r1.wipe own) := ⟨_, rfl⟩
    obtain ⟨tot, htot⟩ := hsome
    rw [← htot] at h1
    have nofail : tot ≠ .fail := fun e => by rw [e] at h1; exact h1
    refine ⟨fun i m H' => i + m = ds.length ∧ ∃ B' r' acc accV, Stp vs B1 H1 (wipe σ own) (r1.wipe own) B' H' (wipe σ own) r' ∧ Rl X.K vs B' (wipe σ own) H' r' ∧ H' L = some (.lst accV) ∧ RpAll X.K B' accV acc ∧ B' L = none ∧ ¬ Own vs (wipe σ own) r' L ∧ r'.wipe own = r' ∧ lcLoop own T tt fe (ds.drop i) acc r' = tot, ?_, ?_⟩
    · have Rw : Rl X.K vs B1 (wipe σ own) H1 (r1.wipe own) := R1.wipe
      have e : Ext B1 H1 B1 (upd H1 L (.lst [])) := .plain hL
      exact ⟨ds.length, by omega, B1, r1.wipe own, [], [], e.stp, Rw.ext e (Rw.sub.trans e.keep), upd_same, .nil, none_of_sub R1.sub hL, Rw.notOwn hL, wipe_wipe, htot.symm⟩
    · rintro i m H' ⟨hm, B', r', acc, accV, s', R', hD, ra, nb, no, hw, hl⟩
      have af : Aft vs H B1 H1 σ r1 B' H' := ⟨s'.sub, R'.sub, fun a o e n m _ => (s'.keep a o e (fun q => n (own_wipe q)) m).1⟩
      by_cases hlt : i < ds.length
      · refine .inr ⟨wk.go i B' H' hlt af, fun H2 => i + 1 + (m - 1) = ds.length ∧ ∃ B2 r2 acc2 accV2, Stp vs B1 H1 (wipe σ own) (r1.wipe own) B2 H2 (wipe σ own) r2 ∧ Rl X.K vs B2 (wipe σ own) H2 r2 ∧ H2 L = some (.lst accV2) ∧ RpAll X.K B2 accV2 acc2 ∧ B2 L = none ∧ ¬ Own vs (wipe σ own) r2 L ∧ r2.wipe own = r2 ∧ lcLoop own T tt fe (ds.drop (i + 1)) acc2 r2 = tot, fun H2 q => ⟨m - 1, by omega, q⟩, fun x H2 y => ?_⟩
        have ed : ds.drop i = ds[i] :: ds.drop (i + 1) := List.drop_eq_getElem_cons hlt
        rw [ed] at hl
        obtain ⟨B2, e2, sm2, rp⟩ := wk.yld i ds[i] B' H' x H2 (by simp [hlt]) af y
        have R2 := R'.ext e2 sm2
        have s2 := s'.trans (e2.stp (vs := vs) (σ := wipe σ own) (r := r'))
        have hD2 := e2.keep _ _ hD
        have nb2 := e2.new _ _ hD nb
        refine ⟨vs, B2, r', .dt ds[i], R2, rp, ?_⟩
        cases e3 : T (.dt ds[i]) r' with
        | fail => simp only [lcLoop, e3] at hl; exact (nofail hl.symm).elim
        | exc z r3 => simp only [lcLoop, e3] at hl; exact (nofail hl.symm).elim
        | ok u r3 =>
          intro σ3 B3 H3 s3 _ o3 R3
          refine ⟨o3.wipe hts, ?_⟩
          obtain ⟨k3, n3⟩ := s3.keep L _ hD2 no (noMk_none nb2)
          have no3 : ¬ Own vs σ3 r3 L := fun q => (s3.own L q).elim no fun z => by rw [hD2] at z; cases z
          refine ⟨vs, B3, r3, R3, ?_⟩
          cases e4 : tt r3 with
          | fail => simp only [lcLoop, e3, e4] at hl; exact (nofail hl.symm).elim
          | exc z r4 => simp only [lcLoop, e3, e4] at hl; exact (nofail hl.symm).elim
          | ok k r4 =>
            intro k' B4 H4 s4 R4 ek
            have ek' : k' = k := ek
            subst ek'
            obtain ⟨k4, n4⟩ := s4.keep L _ k3 no3 (noMk_none (n3 nb2))
            have no4 : ¬ Own vs σ3 r4 L := fun q => (s4.own L q).elim no3 fun z => by rw [k3] at z; cases z
            have s14 := (s2.trans s3).trans s4
            cases k' with
            | false =>
              rw [if_neg Bool.false_ne_true]
              simp only [lcLoop, e3, e4] at hl
              have R5 : Rl X.K vs B4 (wipe σ own) H4 (r4.wipe own) := by rw [← o3.wipe hts]; exact R4.wipe
              have ow5 : ∀ a, Own vs (wipe σ own) (r4.wipe own) a → Own vs σ3 r4 a := fun a q => by rw [← o3.wipe hts] at q; exact own_wipe q
              exact ⟨by omega, B4, r4.wipe own, acc, accV, ⟨s14.sub, s14.keep, s14.stl, s14.dom, fun a q => s14.own a (ow5 a q), s14.bol, s14.bod, s14.boo⟩, R5, k4, (ra.mono e2.sub).mono (s3.sub.trans s4.sub), n4 (n3 nb2), fun q => no4 (ow5 L q), wipe_wipe, hl⟩
            | true =>
              rw [if_pos rfl]
              refine ⟨vs, B4, r4, R4, ?_⟩
              cases e5 : fe r4 with
              | fail => simp only [lcLoop, e3, e4, e5] at hl; exact (nofail hl.symm).elim
              | exc z r5 => simp only [lcLoop, e3, e4, e5] at hl; exact (nofail hl.symm).elim
              | ok w r5 =>
                intro yv B5 H5 s5 R5 q5
                obtain ⟨k5, n5⟩ := s5.keep L _ k4 no4 (noMk_none (n4 (n3 nb2)))
                have no5 : ¬ Own vs σ3 r5 L := fun q => (s5.own L q).elim no4 fun z => by rw [k4] at z; cases z
                cases e6 : w.frz r5 with
                | fail => simp only [lcLoop, e3, e4, e5, e6] at hl; exact (nofail hl.symm).elim
                | exc z r6 => exact absurd e6 frz_noexc
                | ok yd r6 =>
                  simp only [lcLoop, e3, e4, e5, e6] at hl
                  by_cases hz : acc.length < sizeLine
                  · rw [if_pos hz] at hl
                    obtain ⟨B6, p6, R6, s6, sb6, _⟩ := frz1 (B0 := B4) (H0 := H4) (r0 := r4) R5 s5 q5 e6
                    have n6 : B6 L = none := (s6.keep L _ k4 no4 (noMk_none (n4 (n3 nb2)))).2 (n4 (n3 nb2))
                    have no6 : ¬ Own vs σ3 r6 L := fun q => (s6.own L q).elim no4 fun z => by rw [k4] at z; cases z
                    have ra6 : RpAll X.K B6 accV acc := (ra.mono e2.sub).mono ((s3.sub.trans s4.sub).trans s6.sub)
                    refine ⟨accV, k5, by rw [ra.length]; exact hz, by omega, B6, r6.wipe own, acc ++ [yd], accV ++ [yv], ?_, ?_, upd_same, ra6.append (.cons p6 .nil), n6, ?_, wipe_wipe, hl⟩
                    · have s16 := s14.trans s6
                      refine ⟨s16.sub, fun a o e n m => ?_, s16.stl, fun a e => ?_, fun a q => s16.own a ?_, s16.bol, s16.bod, s16.boo⟩
                      · have : a ≠ L := fun q => by subst q; rw [hL] at e; cases e
                        obtain ⟨g1, g2⟩ := s16.keep a o e n m
                        exact ⟨by rw [upd_ne this]; exact g1, g2⟩
                      · by_cases q : a = L
                        · subst q; exact hL
                        · rw [upd_ne q] at e; exact s16.dom a e
                      · rw [← o3.wipe hts] at q; exact own_wipe q
                    · have := (R6.other (o := .lst (accV ++ [yv])) n6 no6).wipe (own := own)
                      rw [o3.wipe hts] at this
                      exact this
                    · intro q
                      rw [← o3.wipe hts] at q
                      exact no6 (own_wipe q)
                  · rw [if_neg hz] at hl
                    exact (nofail hl.symm).elim
      · have e : i = ds.length := by omega
        subst e
        rw [List.drop_length] at hl
        refine .inl ⟨wk.stop B' H' af, ?_⟩
        have hl' : tot = .ok acc r' := hl.symm
        rw [hl'] at h1
        obtain ⟨Rf, sf, ob⟩ := back_ok R1 hno R' s' hw
        exact h1 (.ref L) B' H' (s1.trans sf) Rf ⟨L, rfl, s1.dom _ hL, nb, ⟨accV, hD, ra⟩, fun q => no (ob L q)⟩
  · rw [if_neg hno] at h1
    exact h1.elim
theorem de_lc {elt tg iter : Expr} {ifs : List Expr} {scope : Scope} {own : List (Str × Nat)} {pos : Pos} {fi : M (List D)} {ts : List Nat} {T : W → M Unit} {tt : M Bool} {fe : M W} (hc : X.calm = true) (hN : X.N.Nodup) (hi : DI X tg iter fi) (ok : BlkOk X.N X.env.scope scope own)
    (hts : ∀ t ∈ ts, t ∈ own.map (·.2)) (hg : ∀ (s : Shared) (H : Hp) (C : Addr) (cl : List (Str × Addr)) (fp : List Addr), DG (X.blk s H scope (compEnvC scope cl C X.env) fp) tg ts T) (ht : ∀ (s : Shared) (H : Hp) (C : Addr) (cl : List (Str × Addr)) (fp : List Addr), DTs (X.blk s H scope (compEnvC scope cl C X.env) fp) ifs tt)
    (he : ∀ (s : Shared) (H : Hp) (C : Addr) (cl : List (Str × Addr)) (fp : List Addr), DE (X.blk s H scope (compEnvC scope cl C X.env) fp) elt fe) (hs : ∀ x, foldedSetIterable iter X.env x = pure x) :
    DE X (.ListComp elt [⟨tg, iter, ifs, 0⟩] scope pos) (cLc fi (own.map (·.2)) T tt fe) := by
  refine ⟨fun Wx tk => ?_⟩
  obtain ⟨wi, pi, qi⟩ := hi.run Wx tk
  exact ⟨_, pe_lc (g := gOf X ts T) (tt := ttOf X tt) (te := tOf X fe) hc hN pi ok (fun s H C cl fp => (hg s H C cl fp).pg takes_blk) (fun s H C cl fp => (ht s H C cl fp).run takes_blk) (fun s H C cl fp => (he s H C cl fp).pe takes_blk) hs, fun vs B σ H r Q R h => lc_read hts R qi h⟩
theorem ds_setLc {i : Nat} {y : Str} {py : Pos} {elt tg iter : Expr} {ifs : List Expr} {scope : Scope} {own : List (Str × Nat)} {pos spos : Pos} {fi : M (List D)} {ts : List Nat} {T : W → M Unit} {tt : M Bool} {fe : M W} (hc : X.calm = true) (hN : X.N.Nodup) (hy : X.N[i]? = some y) (hyl : X.env.scope.names.lookup y = some .local)
    (hsw : swapsWith (.ListComp elt [⟨tg, iter, ifs, 0⟩] scope pos) (some (.Name y py)) spos.line X.env = pure true) (hi : DI X tg iter fi) (ok : BlkOk X.N X.env.scope scope own)
    (hts : ∀ t ∈ ts, t ∈ own.map (·.2)) (hg : ∀ (s : Shared) (H : Hp) (C : Addr) (cl : List (Str × Addr)) (fp : List Addr), DG (X.blk s H scope (compEnvC scope cl C X.env) fp) tg ts T) (ht : ∀ (s : Shared) (H : Hp) (C : Addr) (cl : List (Str × Addr)) (fp : List Addr), DTs (X.blk s H scope (compEnvC scope cl C X.env) fp) ifs tt)
    (he : ∀ (s : Shared) (H : Hp) (C : Addr) (cl : List (Str × Addr)) (fp : List Addr), DE (X.blk s H scope (compEnvC scope cl C X.env) fp) elt fe) (hs : ∀ x, foldedSetIterable iter X.env x = pure x) :
    DS X (.Assign [.Name y py] (.ListComp elt [⟨tg, iter, ifs, 0⟩] scope pos) spos) (cAsg (cLc fi (own.map (·.2)) T tt fe) (gN i)) := by
  refine ⟨fun Wx tk => ?_⟩
  obtain ⟨wi, pi, qi⟩ := hi.run Wx tk
  refine ⟨_, ps_setLc (g := gOf X ts T) (tt := ttOf X tt) (te := tOf X fe) hc hN hy hyl hsw pi ok (fun s H C cl fp => (hg s H C cl fp).pg takes_blk) (fun s H C cl fp => (ht s H C cl fp).run takes_blk) (fun s H C cl fp => (he s H C cl fp).pe takes_blk) hs, fun vs B σ H r E R h => ?_⟩
  exact lc_read hts R qi (PostS.bind0 h fun x w B1 H1 r1 s1 R1 q1 h2 => gN_ok R1 s1 q1 (PostS.tgt h2))
end
end Lc

set_option Elab.async false
set_option maxRecDepth 100000
set_option maxHeartbeats 4000000
/-! Part H: defs, and calls of them. -/
namespace Lc
open PySem L2 PySem.Spec PyProof.Rows
inductive FRes where
  | ok (b : Bo) (as : List Bo)
  | exc (x : Ex) (as : List Bo)
  | fail
abbrev Fn := List Bo → FRes
/-- the same, with the store -/
inductive FReS where
  | ok (b : Bo) (as : List Bo) (st : List Cn)
  | exc (x : Ex) (as : List Bo) (st : List Cn)
  | fail
abbrev FnS := List Bo → List Cn → FReS
def Cn.nm : Cn → Bool
  | .lst l => D.nms l
  | .dct l => D.nmk l
def Bo.nm : Bo → Bool
  | .dt d => d.nm
  | .own c => c.nm
def FRes.up (st : List Cn) : FRes → FReS
  | .ok b bs => .ok b bs st
  | .exc x bs => .exc x bs st
  | .fail => .fail
/-- a def without a store, called where there is one -/
def Fn.up (F : Fn) : FnS := fun as st => match st with
  | [] => (F as).up []
  | c :: st => if as.all Bo.nm = true then (F as).up (c :: st) else .fail
def Ex.nm (x : Ex) : Bool := D.nmf x.fs
/-- what it has in its store is let go -/
def FReS.down : FReS → FRes
  | .ok b bs [] => .ok b bs
  | .ok b bs (_ :: _) => if b.nm && bs.all Bo.nm then .ok b bs else .fail
  | .exc x bs [] => .exc x bs
  | .exc x bs (_ :: _) => if x.nm && bs.all Bo.nm then .exc x bs else .fail
  | .fail => .fail
def FnS.down (F : FnS) : Fn := fun as => (F as []).down
def PostF (K : PySem.W.Frag) (mg : Str → Option Value) (vs : List V) (B H : Hp) (as : List Bo) (st : List Cn) (res : FReS) (Q : VK) (E : XK) : Prop :=
  match res with
  | .ok b as' st' => ∀ v B' H', Stp vs B H [] ⟨[], as, st⟩ B' H' [] ⟨[], as', st'⟩ → Rl K vs B' [] H' ⟨[], as', st'⟩ → RpW K vs H B' [] H' ⟨[], as', st'⟩ v b.toW → Q v H'
  | .exc x as' st' => ∀ cl dd B' H', Stp vs B H [] ⟨[], as, st⟩ B' H' [] ⟨[], as', st'⟩ → Rl K vs B' [] H' ⟨[], as', st'⟩ → RpXK K mg B' cl dd x → E cl dd H'
  | .fail => False
/-- a def's promise: it does on data what F does -/
def spG (K : PySem.W.Frag) (mg : Str → Option Value) (n : Nat) (F : FnS) : Sp := fun vs H Q E => vs.length = n ∧ ∃ B as st, as.length = n ∧ Rl K vs B [] H ⟨[], as, st⟩ ∧ PostF K mg vs B H as st (F as st) Q E
structure FnT (P : Program) (w : World) (K : PySem.W.Frag) (mg : Str → Option Value) (base : Heap) (k : Nat) (f : Addr) (fd : FuncData) (ps : List Str) (F : FnS) : Prop where
  run : ∀ (A : Around) (outer : List Env) (s : Shared) (H : Hp) (args : Args) (us : List Value) (vs : List V) (Q : VK) (E : XK), Room k A → A.guards = some [] → Env0 P w K mg base A outer s H → BindsTo s fd args (ps.zip us) → Vals vs us →
    spG K mg ps.length F vs H Q E → codeAny (model P w) A (.call (.ref f) args) (CR (L2.CX P w) outer P w H s Q E) s
abbrev FnG (P : Program) (w : World) (K : PySem.W.Frag) (mg : Str → Option Value) (base : Heap) (k : Nat) (f : Addr) (fd : FuncData) (ps : List Str) (F : Fn) : Prop := FnT P w K mg base k f fd ps F.up
theorem FnT.up {P : Program} {w : World} {K : PySem.W.Frag} {mg : Str → Option Value} {base : Heap} {j k : Nat} {f : Addr} {fd : FuncData} {ps : List Str} {F : FnS} (h : FnT P w K mg base j f fd ps F) (l : j ≤ k) : FnT P w K mg base k f fd ps F :=
  ⟨fun A outer s H args us vs Q E hr => h.run A outer s H args us vs Q E (hr.mono l)⟩

/-! ### letting the store go -/
def unm (B : Hp) : Hp := fun a => match B a with
  | some o => if isMk o = true then none else some o
  | none => none
/-- the marks of B over what is no mark in B' -/
def rem (B B' : Hp) : Hp := fun a => match B a with
  | some o => if isMk o = true then some o else unm B' a
  | none => unm B' a
theorem unm_some {B : Hp} {a : Addr} {o : HO} (h : unm B a = some o) : B a = some o ∧ isMk o = false := by
  unfold unm at h
  split at h
  · rename_i u e
    split at h
    · cases h
    · rename_i m
      cases h
      exact ⟨e, by simpa using m⟩
  · cases h
theorem unm_of {B : Hp} {a : Addr} {o : HO} (h : B a = some o) (m : isMk o = false) : unm B a = some o := by
  unfold unm
  rw [h]
  simp [m]
theorem unm_none {B : Hp} {a : Addr} (h : B a = none) : unm B a = none := by
  unfold unm
  rw [h]
theorem unm_mk {B : Hp} {a : Addr} {o : HO} (h : B a = some o) (m : isMk o = true) : unm B a = none := by
  unfold unm
  rw [h]
  simp [m]
theorem rem_mk {B B' : Hp} {a : Addr} {o : HO} (h : B a = some o) (m : isMk o = true) : rem B B' a = some o := by
  unfold rem
  rw [h]
  simp [m]
theorem rem_un {B B' : Hp} {a : Addr} (h : ∀ o, B a = some o → isMk o = false) : rem B B' a = unm B' a := by
  unfold rem
  cases e : B a with
  | none => rfl
  | some o => simp [h o e]
theorem rem_mark {B B' : Hp} {a : Addr} {k : Nat} (h : rem B B' a = some (mark k)) : B a = some (mark k) := by
  cases e : B a with
  | none =>
    rw [rem_un fun o q => by rw [e] at q; cases q] at h
    exact absurd (unm_some h).2 (by simp [isMk, mark])
  | some o =>
    cases m : isMk o with
    | true => rw [rem_mk e m] at h; exact h
    | false =>
      rw [rem_un fun o' q => by rw [e] at q; cases q; exact m] at h
      exact absurd (unm_some h).2 (by simp [isMk, mark])
section
variable {K : PySem.W.Frag} {mg : Str → Option Value} {vs : List V} {B H B' H' : Hp} {as bs : List Bo} {st st' : List Cn}
theorem Sto.no (S : Sto K B H []) : ∀ a, NoMk B a := fun a k h => absurd (S.lt a k h) (Nat.not_lt_zero _)
theorem no_mk (s : Sbm B H) (S : Sto K B H []) {a : Addr} {o : HO} (h : B a = some o) : isMk o = false := by
  cases m : isMk o with
  | false => rfl
  | true =>
    obtain ⟨⟨k, rfl⟩, _⟩ := s.mks _ _ h m
    exact absurd h (S.no a k)
theorem At.nm {a : Addr} {c : Cn} (h : At K B H a c) (s : ∀ a o, B a = Option.some o → isMk o = false → B' a = Option.some o) (q : c.nm = true) : At K B' H a c := by
  cases c with
  | lst ds => obtain ⟨xs, h1, h2⟩ := h; exact ⟨xs, h1, h2.subu s q⟩
  | dct ds => obtain ⟨xs, h1, h2⟩ := h; exact ⟨xs, h1, h2.subu s q⟩
end

/-! ### a def by its body -/
def entryL : Nat → List Bo → List (Option Sl)
  | _, [] => []
  | k, .dt d :: as => some (.dt d) :: entryL (k + 1) as
  | k, .own _ :: as => some (.bor k) :: entryL (k + 1) as
def entry (n : Nat) (as : List Bo) (st : List Cn) : Rho := ⟨entryL 0 as ++ List.replicate (n - as.length) none, as, st⟩
def finish (w : W) (r : Rho) : FReS := match w with
  | .dt d => .ok (.dt d) r.bor r.st
  | .fresh c => .ok (.own c) r.bor r.st
  | .cel (.loc i) => match r.cnt (.loc i) with
    | some c => .ok (.own c) r.bor r.st
    | none => match r.look (.loc i) with
      | some d => .ok (.dt d) r.bor r.st
      | none => .fail
  | .cel (.bor k) => match r.cnt (.bor k) with
    | some c => .ok (.dt c.toD) (r.frz c.toD (.bor k)).bor r.st
    | none => match r.look (.bor k) with
      | some d => .ok (.dt d) r.bor r.st
      | none => .fail
def runS (n : Nat) (body : M Fl) : FnS := fun as st => match body (entry n as st) with
  | .ok .next r => .ok (.dt .non) r.bor r.st
  | .ok (.ret w) r => finish w r
  | .ok _ _ => .fail
  | .exc x r => .exc x r.bor r.st
  | .fail => .fail
def runF (n : Nat) (body : M Fl) : Fn := (runS n body).down
theorem entryL_len : ∀ (as : List Bo) (k : Nat), (entryL k as).length = as.length
  | [], _ => rfl
  | .dt _ :: as, k => by rw [entryL, List.length_cons, List.length_cons, entryL_len as]
  | .own _ :: as, k => by rw [entryL, List.length_cons, List.length_cons, entryL_len as]
theorem entryL_get : ∀ (as : List Bo) (k i : Nat), (entryL k as)[i]? = (as[i]?).map fun b => match b with
    | .dt d => some (.dt d)
    | .own _ => some (.bor (k + i))
  | [], _, _ => rfl
  | .dt d :: as, k, 0 => rfl
  | .own c :: as, k, 0 => rfl
  | .dt d :: as, k, i + 1 => by
    have := entryL_get as (k + 1) i
    rw [show k + 1 + i = k + (i + 1) by omega] at this
    simpa [entryL] using this
  | .own c :: as, k, i + 1 => by
    have := entryL_get as (k + 1) i
    rw [show k + 1 + i = k + (i + 1) by omega] at this
    simpa [entryL] using this
theorem entry_get {n : Nat} {as : List Bo} {st : List Cn} {i : Nat} {s : Sl} (h : (entry n as st).loc[i]? = some (some s)) : (∃ d, as[i]? = some (.dt d) ∧ s = .dt d) ∨ (∃ c, as[i]? = some (.own c) ∧ s = .bor i) := by
  simp only [entry] at h
  by_cases hi : i < as.length
  · rw [List.getElem?_append_left (by rw [entryL_len]; exact hi), entryL_get] at h
    cases e : as[i]? with
    | none => rw [e] at h; cases h
    | some b =>
      rw [e] at h
      cases b with
      | dt d => simp at h; exact .inl ⟨d, rfl, h.symm⟩
      | own c => simp at h; exact .inr ⟨c, rfl, h.symm⟩
  · rw [List.getElem?_append_right (by rw [entryL_len]; omega), List.getElem?_replicate] at h
    split at h <;> cases h
section
variable {K : PySem.W.Frag} {mg : Str → Option Value} {vs : List V} {B H B' H' : Hp} {σ' : L2.St} {r' : Rho} {as : List Bo} {st : List Cn} {N : List Str}
theorem cnt_bare {z : Ix} {c : Cn} (h : (⟨[], as, st⟩ : Rho).cnt z = some c) : ∃ k, z = .bor k ∧ as[k]? = some (.own c) := by
  cases z with
  | loc i => simp [Rho.cnt] at h
  | bor k =>
    refine ⟨k, rfl, ?_⟩
    cases e : as[k]? with
    | none => simp [Rho.cnt, e] at h
    | some b =>
      cases b with
      | dt d => simp [Rho.cnt, e] at h
      | own c' => simp [Rho.cnt, e] at h; rw [h]
theorem cnt_entry {n : Nat} {z : Ix} {c : Cn} (h : (entry n as st).cnt z = some c) : (⟨[], as, st⟩ : Rho).cnt z = some c := by
  cases z with
  | bor k => exact h
  | loc i =>
    exfalso
    cases e : (entry n as st).loc[i]? with
    | none => simp [Rho.cnt, e] at h
    | some o =>
      cases o with
      | none => simp [Rho.cnt, e] at h
      | some s =>
        rcases entry_get e with ⟨d, _, rfl⟩ | ⟨c', _, rfl⟩
        · simp [Rho.cnt, e] at h
        · simp [Rho.cnt, e] at h
theorem start_get {i : Nat} {v : V} (h : vs[i]? = some v) : (L2.start N vs)[i]? = some (some v) := by
  have hi := (List.getElem?_eq_some_iff.mp h).1
  unfold L2.start
  rw [List.getElem?_append_left (by simpa using hi), List.getElem?_map, h]
  rfl
theorem entry_rl (R : Rl K vs B [] H ⟨[], as, st⟩) (hl : vs.length = as.length) : Rl K vs B (L2.start N vs) H (entry N.length as st) where
  sub := R.sub
  sto := R.sto
  len := by
    unfold L2.start entry
    simp only [List.length_append, List.length_map, List.length_replicate, entryL_len]
    omega
  dat := fun i d h => by
    rcases entry_get h with ⟨d', e, q⟩ | ⟨c, e, q⟩
    · cases q
      obtain ⟨v, h1, h2⟩ := R.bod i d e
      exact ⟨v, start_get h1, h2⟩
    · cases q
  own := fun z c h => by
    have h' := cnt_entry h
    obtain ⟨k, rfl, _⟩ := cnt_bare h'
    exact R.own _ c h'
  lbo := fun i k h => by
    rcases entry_get h with ⟨d', e, q⟩ | ⟨c, e, q⟩
    · cases q
    · cases q
      obtain ⟨a, h1, _⟩ := R.own (.bor i) c (by simp [Rho.cnt, e])
      have h1' : vs[i]? = some (.ref a) := h1
      exact ⟨_, h1', start_get h1'⟩
  bod := R.bod
  sep := fun z z' c c' a h h' p p' => by
    have g := cnt_entry h
    have g' := cnt_entry h'
    obtain ⟨k, rfl, _⟩ := cnt_bare g
    obtain ⟨k', rfl, _⟩ := cnt_bare g'
    exact R.sep _ _ c c' a g g' p p'
theorem own_bare {σ : L2.St} {a : Addr} {r : Rho} (h : Own vs [] ⟨[], r.bor, r.st⟩ a) : Own vs σ r a := by
  obtain ⟨z, c, h1, h2⟩ := h
  obtain ⟨k, rfl, e⟩ := cnt_bare h1
  exact ⟨.bor k, c, by simp [Rho.cnt, e], h2⟩
theorem own_entry {n : Nat} {σ : L2.St} {a : Addr} (h : Own vs σ (entry n as st) a) : Own vs [] ⟨[], as, st⟩ a := by
  obtain ⟨z, c, h1, h2⟩ := h
  have g := cnt_entry h1
  obtain ⟨k, rfl, e⟩ := cnt_bare g
  exact ⟨.bor k, c, g, h2⟩
theorem exit_rl {σ : L2.St} {r : Rho} (R : Rl K vs B σ H r) : Rl K vs B [] H ⟨[], r.bor, r.st⟩ where
  sub := R.sub
  sto := R.sto
  len := rfl
  dat := fun i d h => by simp at h
  own := fun z c h => by
    obtain ⟨k, rfl, e⟩ := cnt_bare h
    exact R.own (.bor k) c (by simp [Rho.cnt, e])
  lbo := fun i k h => by simp at h
  bod := R.bod
  sep := fun z z' c c' a h h' p p' => by
    obtain ⟨k, rfl, e⟩ := cnt_bare h
    obtain ⟨k', rfl, e'⟩ := cnt_bare h'
    exact R.sep _ _ c c' a (by simp [Rho.cnt, e]) (by simp [Rho.cnt, e']) p p'
theorem exit_stp {n : Nat} {σ : L2.St} (s : Stp vs B H σ (entry n as st) B' H' σ' r') : Stp vs B H [] ⟨[], as, st⟩ B' H' [] ⟨[], r'.bor, r'.st⟩ where
  sub := s.sub
  keep := fun a o h no m => s.keep a o h (fun q => no (own_entry q)) m
  stl := s.stl
  dom := s.dom
  own := fun a h => (s.own a (own_bare h)).elim (fun q => .inl (own_entry q)) .inr
  bol := s.bol
  bod := s.bod
  boo := s.boo
theorem finish_ok {n : Nat} {σ : L2.St} {w : W} {v : V} {Q : VK} {E : XK} (s : Stp vs B H σ (entry n as st) B' H' σ' r') (R : Rl K vs B' σ' H' r') (hv : RpW K vs H B' σ' H' r' v w) (h : PostF K mg vs B H as st (finish w r') Q E) : Q v H' := by
  cases w with
  | dt d => exact h v B' H' (exit_stp s) (exit_rl R) hv
  | fresh c =>
    obtain ⟨a, rfl, h1, h2, h3, h4⟩ := hv
    exact h _ B' H' (exit_stp s) (exit_rl R) ⟨a, rfl, h1, h2, h3, fun q => h4 (own_bare q)⟩
  | cel z =>
    cases z with
    | loc i =>
      cases hc : r'.cnt (.loc i) with
      | none =>
        cases hl : r'.look (.loc i) with
        | none => simp only [finish, hc, hl] at h; exact h.elim
        | some d =>
          simp only [finish, hc, hl] at h
          exact h v B' H' (exit_stp s) (exit_rl R) (look_data R hc hl hv)
      | some c =>
        simp only [finish, hc] at h
        obtain ⟨a, q1, q2, q3⟩ := R.own _ c hc
        have e : v = .ref a := by have h' : adr vs σ' (.loc i) = some v := hv; rw [q1] at h'; exact (Option.some.inj h').symm
        subst e
        refine h _ B' H' (exit_stp s) (exit_rl R) ⟨a, rfl, ?_, q2, q3, fun ⟨z, c', g1, g2⟩ => ?_⟩
        · rcases s.own a ⟨_, c, hc, q1⟩ with g | g
          · obtain ⟨z, c', g1, g2⟩ := own_entry g
            obtain ⟨k, rfl, e⟩ := cnt_bare g1
            have g2' : vs[k]? = some (.ref a) := g2
            rcases s.boo k c' a e g2' with ⟨c2, m⟩ | ⟨d, o, _, m, _⟩
            · have := R.sep (.loc i) (.bor k) c c2 a hc (by simp [Rho.cnt, m]) q1 g2'
              cases this
            · rw [q2] at m; cases m
          · exact g
        · obtain ⟨k, rfl, e⟩ := cnt_bare g1
          have := R.sep (.loc i) (.bor k) c c' a hc (by simp [Rho.cnt, e]) q1 g2
          cases this
    | bor k =>
      cases hc : r'.cnt (.bor k) with
      | none =>
        cases hl : r'.look (.bor k) with
        | none => simp only [finish, hc, hl] at h; exact h.elim
        | some d =>
          simp only [finish, hc, hl] at h
          exact h v B' H' (exit_stp s) (exit_rl R) (look_data R hc hl hv)
      | some c =>
        simp only [finish, hc] at h
        obtain ⟨a, q1, q2, q3⟩ := R.own _ c hc
        have e : v = .ref a := by have h' : adr vs σ' (.bor k) = some v := hv; rw [q1] at h'; exact (Option.some.inj h').symm
        subst e
        obtain ⟨o, ho, rp, R2, s2⟩ := R.freeze hc q1
        exact h _ _ H' (exit_stp (s.trans s2)) (exit_rl R2) rp
/-- from a body's denotation to the def's -/
theorem runS_ok {X : Cx} {body : M Fl} {Q : VK} {E : XK} (hK : X.K = K) (hmg : X.mg = mg) (R : Rl K vs B [] H ⟨[], as, st⟩) (hl : vs.length = as.length) (h : PostF K mg vs B H as st (runS N.length body as st) Q E) :
    PostS X vs (fun cl dd _ H' => E cl dd H') B H (L2.start N vs) (entry N.length as st) (body (entry N.length as st)) { nx := fun _ H' => Q .non H', rt := Q } := by
  subst hK hmg
  unfold runS at h
  cases e : body (entry N.length as st) with
  | fail => rw [e] at h; exact h.elim
  | exc x r => rw [e] at h; exact fun cl dd σ' B' H' s R' q => h cl dd B' H' (exit_stp s) (exit_rl R') q
  | ok fl r =>
    rw [e] at h
    cases fl with
    | next => exact fun σ' B' H' s R' => h .non B' H' (exit_stp s) (exit_rl R') Rp.non
    | ret w => exact fun v σ' B' H' s R' hv => finish_ok s R' hv h
    | brk => exact h.elim
    | cnt => exact h.elim
end
/-- a def of the text does what its body denotes. C: whatever the body's contexts are to bear -/
theorem fnT_of {P : Program} {w : World} {K : PySem.W.Frag} {mg : Str → Option Value} {base : Heap} {k : Nat} {x qual : Str} {st : Stmt} {f : Addr} {fd : FuncData} {N ps : List Str} {body : M Fl} (F : Fun K x qual st f fd) (S : FnScope N ps (defScope st))
    (hbody : ∀ (cdv : Value) (A : Around) (outer : List Env) (s : Shared) (H : Hp) (E : XK), Room k (A.deeper (envOfC qual (defScope st) s.heap.objs.size f cdv)) → A.guards = some [] →
      DSs (cxOf (L2.CX P w) P w K mg base N qual (defScope st) f cdv A outer s H E) (defBody st) body) : FnT P w K mg base (k + 1) f fd ps (runS N.length body) := by
  obtain ⟨oc, od, kV, doc, pm, an, cdv, ct, osl, rfl, lk, hcd⟩ := F.ex
  refine ⟨fun A outer s H args us vs Q E hr hgu e0 hb rv ⟨hl, B, as, stc, ha, R, hp⟩ => ?_⟩
  have inK : K.In s.heap := e0.mod.kin.keeps fun b o e => (e0.bs b o e).1
  have nolim : s.heap.NoLimit := e0.mod.nolimit.keeps fun b o e => (e0.bs b o e).1
  have kinds : ∀ y ∈ ps.zip us, (defScope st).names.lookup y.1 = some .local ∨ ((defScope st).names.lookup y.1 = some .cell ∧ ((cellsFrom (s.heap.objs.size + 1) (defScope st).names []).lookup y.1).isSome = true) := by
    rintro ⟨y, u⟩ hy
    rcases S.par y (List.of_mem_zip hy).1 with q | q
    · exact Or.inl q
    · exact Or.inr ⟨q, PySem.W.cellsFrom_some _ _ _ (Or.inl q)⟩
  refine codeAny_call_function hr.depth (inK _ _ lk) rfl S.co S.gen rfl (PySem.W.codeRec_of inK hcd) (hb _ _ _ _ ?_)
  refine wpAny_newFunctionEnv_cells S.kind kinds fun env he s1 ic => ?_
  subst he
  refine ⟨nolim.keeps ic.toInCall.keep, codeAny_func ?_⟩
  obtain ⟨t, pt, qt⟩ := (hbody cdv A outer s H E (hr.deeper _) hgu).run _ (takes_of rfl rfl rfl rfl)
  have I := inv_start (CX := L2.CX P w) (P := P) (w := w) (K := K) (mg := mg) (base := base) (N := N) (qual := qual) (f := f) (cd := cdv) (E := E) S hr.hd e0 hl rv ic
  have q := qt vs B (L2.start N vs) H (entry N.length as stc) _ (entry_rl R (hl.trans ha.symm)) (runS_ok rfl rfl R (hl.trans ha.symm) hp)
  refine wpAny_mono (pt.run [] s1 (L2.start N vs) H _ I q) (fun fl s2 hs => ?_) fun e s2 hs => hs
  cases fl with
  | ret u =>
    obtain ⟨v, σ2, H2, J, ru, z⟩ := hs
    exact ⟨v, H2, J.os, J.bare, J.base, J.hok, ru, z⟩
  | next =>
    obtain ⟨σ2, H2, J, z⟩ := hs
    exact ⟨.non, H2, J.os, J.bare, J.base, J.hok, rfl, z⟩
  | brk => obtain ⟨_, _, _, z⟩ := hs; exact z.elim
  | cont => obtain ⟨_, _, _, z⟩ := hs; exact z.elim
section
variable {K : PySem.W.Frag} {mg : Str → Option Value} {vs : List V} {B B1 H B' H' : Hp} {as bs : List Bo} {st st' : List Cn}
theorem all_nm {l : List Bo} (h : l.all Bo.nm = true) {k : Nat} {b : Bo} (e : l[k]? = some b) : b.nm = true := List.all_eq_true.mp h b (List.mem_of_getElem? e)
/-- the frame without its store -/
theorem Rl.unmk (R : Rl K vs B [] H ⟨[], as, st⟩) (q : st = [] ∨ as.all Bo.nm = true) : Rl K vs (unm B) [] H ⟨[], as, []⟩ := by
  have tr : ∀ {v : V} {d : D}, (st = [] ∨ d.nm = true) → Rp K B v d → Rp K (unm B) v d := fun {v d} q h => by
    rcases q with rfl | q
    · exact h.mono fun a o e => unm_of e (no_mk R.sub R.sto e)
    · exact h.subu (fun a o e m => unm_of e m) q
  refine ⟨⟨fun a o h m => R.sub.at' a o (unm_some h).1 m, fun a o h m => by rw [(unm_some h).2] at m; cases m⟩, ⟨fun k c h => by simp at h, fun a k h => ?_, fun a a' k h => ?_⟩, rfl, fun i d h => by simp at h, fun z c h => ?_, fun i k h => by simp at h, fun k d h => ?_, R.sep⟩
  · exact absurd (unm_some h).2 (by simp [isMk, mark])
  · exact absurd (unm_some h).2 (by simp [isMk, mark])
  · obtain ⟨a, h1, h2, h3⟩ := R.own z c h
    refine ⟨a, h1, unm_none h2, ?_⟩
    obtain ⟨k, rfl, e⟩ := cnt_bare h
    rcases q with rfl | q
    · exact h3.mono (fun a o e => unm_of e (no_mk R.sub R.sto e)) fun o e => e
    · exact h3.nm (fun a o e m => unm_of e m) (all_nm q e)
  · obtain ⟨v, h1, h2⟩ := R.bod k d h
    exact ⟨v, h1, tr (q.imp (fun z => z) fun q => all_nm q (b := .dt d) h) h2⟩
theorem own_st {a : Addr} (h : Own vs [] ⟨[], as, st⟩ a) : Own vs [] ⟨[], as, st'⟩ a := by
  obtain ⟨z, c, h1, h2⟩ := h
  obtain ⟨k, rfl, e⟩ := cnt_bare h1
  exact ⟨.bor k, c, by simp [Rho.cnt, e], h2⟩
/-- behind the call, with the caller's store again -/
theorem down_out (R : Rl K vs B [] H ⟨[], as, st⟩) (s : Stp vs (Lc.unm B) H [] ⟨[], as, []⟩ B' H' [] ⟨[], bs, st'⟩) (R' : Rl K vs B' [] H' ⟨[], bs, st'⟩) (q : st' = [] ∨ bs.all Bo.nm = true) :
    Rl K vs (rem B B') [] H' ⟨[], bs, st⟩ ∧ Stp vs B H [] ⟨[], as, st⟩ (rem B B') H' [] ⟨[], bs, st⟩ ∧ (∀ a o, B' a = some o → isMk o = false → rem B B' a = some o) ∧ (∀ a, B' a = none → H a = none → rem B B' a = none) := by
  have atm : ∀ {a : Addr} {o : HO}, B a = some o → isMk o = true → H' a = H a ∧ B' a = none := fun {a o} h m => by
    obtain ⟨⟨k, rfl⟩, u, hu⟩ := R.sub.mks _ _ h m
    have no : ¬ Own vs [] ⟨[], as, []⟩ a := fun z => R.notOwnB h (own_st z)
    obtain ⟨h1, h2⟩ := s.keep a u hu no (fun j e => absurd (unm_some e).2 (by simp [isMk, mark]))
    exact ⟨by rw [h1, hu], h2 (unm_mk h m)⟩
  have up : ∀ a o, B' a = some o → isMk o = false → rem B B' a = some o := fun a o h m => by
    rw [rem_un]
    · exact unm_of h m
    · intro o' e
      cases m' : isMk o' with
      | false => rfl
      | true => rw [(atm e m').2] at h; cases h
  have tr : ∀ {v : V} {d : D}, (st' = [] ∨ d.nm = true) → Rp K B' v d → Rp K (rem B B') v d := fun {v d} q h => by
    rcases q with rfl | q
    · exact h.mono fun a o e => up a o e (no_mk R'.sub R'.sto e)
    · exact h.subu up q
  have nn : ∀ a, B' a = none → B a = none → rem B B' a = none := fun a h h' => by
    rw [rem_un fun o e => by rw [h'] at e; cases e]
    exact unm_none h
  have sb : Same B (rem B B') := fun a o h => by
    cases m : isMk o with
    | true => exact rem_mk h m
    | false => exact up a o (s.sub _ _ (unm_of h m)) m
  refine ⟨⟨⟨fun a o h m => ?_, fun a o h m => ?_⟩, ⟨fun k c h => ?_, fun a k h => R.sto.lt a k (rem_mark h), fun a a' k h h' => R.sto.inj a a' k (rem_mark h) (rem_mark h')⟩, rfl, fun i d h => by simp at h, fun z c h => ?_, fun i k h => by simp at h, fun k d h => ?_, fun z z' c c' a h h' => R'.sep z z' c c' a (by simpa [Rho.cnt] using h) (by simpa [Rho.cnt] using h')⟩,
    ⟨sb, fun a o h n m => ?_, Nat.le_refl _, s.dom, fun a h => (s.own a (own_st h)).imp own_st fun z => z, s.bol, s.bod, fun k c a h hv => ?_⟩, up, ?_⟩
  · cases e : B a with
    | none => rw [rem_un fun o q => by rw [e] at q; cases q] at h; exact R'.sub.at' a o (unm_some h).1 m
    | some u =>
      cases mu : isMk u with
      | true => rw [rem_mk e mu] at h; cases h; rw [mu] at m; cases m
      | false =>
        rw [rem_un fun o q => by rw [e] at q; cases q; exact mu] at h
        exact R'.sub.at' a o (unm_some h).1 m
  · cases e : B a with
    | none => rw [rem_un fun o q => by rw [e] at q; cases q] at h; rw [(unm_some h).2] at m; cases m
    | some u =>
      cases mu : isMk u with
      | true =>
        rw [rem_mk e mu] at h; cases h
        rw [(atm e mu).1]
        exact R.sub.mks _ _ e mu
      | false =>
        rw [rem_un fun o q => by rw [e] at q; cases q; exact mu] at h
        rw [(unm_some h).2] at m; cases m
  · obtain ⟨a, h1, h2⟩ := R.sto.at' k c h
    have := (atm h1 rfl).1
    exact ⟨a, rem_mk h1 rfl, h2.mono sb fun o e => by rw [this]; exact e⟩
  · obtain ⟨k, rfl, e⟩ := cnt_bare h
    obtain ⟨a, h1, h2, h3⟩ := R'.own (.bor k) c (by simpa [Rho.cnt] using h)
    have hb : B a = none := by
      cases eb : B a with
      | none => rfl
      | some o =>
        exfalso
        rcases s.own a ⟨.bor k, c, by simpa [Rho.cnt] using h, h1⟩ with z | z
        · exact R.notOwnB eb (own_st z)
        · obtain ⟨u, hu⟩ := R.sub.some eb
          rw [z] at hu; cases hu
    refine ⟨a, h1, nn a h2 hb, ?_⟩
    rcases q with rfl | q
    · exact h3.mono (fun a o e => up a o e (no_mk R'.sub R'.sto e)) fun o e => e
    · exact h3.nm up (all_nm q e)
  · obtain ⟨v, h1, h2⟩ := R'.bod k d h
    exact ⟨v, h1, tr (q.imp (fun z => z) fun q => all_nm q (b := .dt d) h) h2⟩
  · obtain ⟨h1, h2⟩ := s.keep a o h (fun z => n (own_st z)) (fun j e => absurd (unm_some e).2 (by simp [isMk, mark]))
    exact ⟨h1, fun e => nn a (h2 (unm_none e)) e⟩
  · rcases s.boo k c a h hv with z | ⟨d, o, h1, h2⟩
    · exact .inl z
    · exact .inr ⟨d, o, h1, up a o h2.1 h2.2, h2.2⟩
  · intro a h h'
    exact nn a h (none_of_sub R.sub h')
theorem sp_down {n : Nat} {F : FnS} {Q : VK} {E : XK} (h : spG K mg n F.down.up vs H Q E) : spG K mg n F vs H Q E := by
  obtain ⟨hl, B, as, st, ha, R, hp⟩ := h
  have hq : (st = [] ∨ as.all Bo.nm = true) ∧ PostF K mg vs B H as st ((F as []).down.up st) Q E := by
    cases st with
    | nil => exact ⟨.inl rfl, hp⟩
    | cons c st =>
      by_cases g : as.all Bo.nm = true
      · simp only [Fn.up, g, if_true] at hp
        exact ⟨.inr g, hp⟩
      · simp only [Fn.up, g] at hp
        exact hp.elim
  obtain ⟨q, hp'⟩ := hq
  refine ⟨hl, Lc.unm B, as, [], ha, R.unmk q, ?_⟩
  cases e : F as [] with
  | fail => rw [e] at hp'; exact hp'.elim
  | ok b bs st' =>
    rw [e] at hp'
    have hd : (st' = [] ∨ b.nm = true ∧ bs.all Bo.nm = true) ∧ PostF K mg vs B H as st (.ok b bs st) Q E := by
      cases st' with
      | nil => exact ⟨.inl rfl, hp'⟩
      | cons c st' =>
        by_cases g : (b.nm && bs.all Bo.nm) = true
        · simp only [FReS.down, g, if_true] at hp'
          rw [Bool.and_eq_true] at g
          exact ⟨.inr g, hp'⟩
        · simp only [FReS.down, g] at hp'
          exact hp'.elim
    obtain ⟨q', h2⟩ := hd
    intro v B' H' s R' hv
    obtain ⟨R2, s2, up, nn⟩ := down_out R s R' (q'.imp (fun z => z) fun z => z.2)
    refine h2 v _ H' s2 R2 ?_
    cases b with
    | dt d =>
      rcases q' with rfl | q'
      · exact Rp.mono (fun a o e => up a o e (no_mk R'.sub R'.sto e)) hv
      · exact Rp.subu up hv q'.1
    | own c =>
      obtain ⟨a, rfl, g1, g2, g3, g4⟩ := hv
      refine ⟨a, rfl, g1, nn a g2 g1, ?_, fun z => g4 (own_st z)⟩
      rcases q' with rfl | q'
      · exact g3.mono (fun a o e => up a o e (no_mk R'.sub R'.sto e)) fun o e => e
      · exact g3.nm up q'.1
  | exc x bs st' =>
    rw [e] at hp'
    have hd : (st' = [] ∨ x.nm = true ∧ bs.all Bo.nm = true) ∧ PostF K mg vs B H as st (.exc x bs st) Q E := by
      cases st' with
      | nil => exact ⟨.inl rfl, hp'⟩
      | cons c st' =>
        by_cases g : (x.nm && bs.all Bo.nm) = true
        · simp only [FReS.down, g, if_true] at hp'
          rw [Bool.and_eq_true] at g
          exact ⟨.inr g, hp'⟩
        · simp only [FReS.down, g] at hp'
          exact hp'.elim
    obtain ⟨q', h2⟩ := hd
    intro cl dd B' H' s R' hv
    obtain ⟨R2, s2, up, nn⟩ := down_out R s R' (q'.imp (fun z => z) fun z => z.2)
    obtain ⟨C, a, fs, g1, g2, g3, g4, g5⟩ := hv
    refine h2 cl dd _ H' s2 R2 ⟨C, a, fs, g1, g2, g3, up _ _ g4 rfl, ?_⟩
    rcases q' with rfl | q'
    · exact g5.mono (fun a o e => up a o e (no_mk R'.sub R'.sto e))
    · exact g5.subu up q'.1
end
theorem FnT.down {P : Program} {w : World} {K : PySem.W.Frag} {mg : Str → Option Value} {base : Heap} {k : Nat} {f : Addr} {fd : FuncData} {ps : List Str} {F : FnS} (h : FnT P w K mg base k f fd ps F) : FnG P w K mg base k f fd ps F.down :=
  ⟨fun A outer s H args us vs Q E hr hg e0 hb rv hs => h.run A outer s H args us vs Q E hr hg e0 hb rv (sp_down hs)⟩
theorem fnG_of {P : Program} {w : World} {K : PySem.W.Frag} {mg : Str → Option Value} {base : Heap} {k : Nat} {x qual : Str} {st : Stmt} {f : Addr} {fd : FuncData} {N ps : List Str} {body : M Fl} (F : Fun K x qual st f fd) (S : FnScope N ps (defScope st))
    (hbody : ∀ (cdv : Value) (A : Around) (outer : List Env) (s : Shared) (H : Hp) (E : XK), Room k (A.deeper (envOfC qual (defScope st) s.heap.objs.size f cdv)) → A.guards = some [] →
      DSs (cxOf (L2.CX P w) P w K mg base N qual (defScope st) f cdv A outer s H E) (defBody st) body) : FnG P w K mg base (k + 1) f fd ps (runF N.length body) := (fnT_of F S hbody).down
end Lc

set_option Elab.async false
set_option maxRecDepth 100000
set_option maxHeartbeats 4000000
/-! Part I: calls of defs. -/
namespace Lc
open PySem L2 PySem.Spec PyProof.Rows
def argOf (r : Rho) : W → Option Bo
  | .dt d => some (.dt d)
  | .fresh c => some (.own c)
  | .cel z => match r.cnt z with
    | some c => some (.own c)
    | none => match r.look z with
      | some d => some (.dt d)
      | none => none
def argsOf (r : Rho) : List W → Option (List Bo)
  | [] => some []
  | w :: ws => match argOf r w, argsOf r ws with
    | some b, some bs => some (b :: bs)
    | _, _ => none
def celOf (r : Rho) : W → Option Ix
  | .cel z => match r.cnt z with
    | some _ => some z
    | none => none
  | _ => none
def apart (r : Rho) : List W → Bool
  | [] => true
  | w :: ws => (match celOf r w with
    | some z => ws.all fun u => decide (celOf r u ≠ some z)
    | none => true) && apart r ws
def findArg (z : Ix) : List W → List Bo → Option Bo
  | .cel z' :: ws, b :: bs => if z' = z then some b else findArg z ws bs
  | _ :: ws, _ :: bs => findArg z ws bs
  | _, _ => none
def upSl (ws : List W) (bs : List Bo) (i : Nat) : Option Sl → Option Sl
  | some (.own c) => match findArg (.loc i) ws bs with
    | some (.own c') => some (.own c')
    | some (.dt d) => some (.dt d)
    | none => some (.own c)
  | x => x
def upBo (ws : List W) (bs : List Bo) (k : Nat) : Bo → Bo
  | .own c => match findArg (.bor k) ws bs with
    | some b => b
    | none => .own c
  | x => x
/-- the caller's things behind a call -/
def Rho.after (r : Rho) (ws : List W) (bs : List Bo) (st : List Cn) : Rho := ⟨r.loc.mapIdx (upSl ws bs), r.bor.mapIdx (upBo ws bs), st⟩
def cCallT (F : FnS) (f : M (List W)) : M W := M.bind f fun ws => fun r => match argsOf r ws with
  | some as => if apart r ws = true then match F as r.st with
      | .ok b bs st => .ok b.toW (r.after ws bs st)
      | .exc x bs st => .exc x (r.after ws bs st)
      | .fail => .fail
    else .fail
  | none => .fail
def cCall (F : Fn) (f : M (List W)) : M W := cCallT F.up f
theorem argsOf_get {r : Rho} : ∀ {ws : List W} {as : List Bo}, argsOf r ws = some as → as.length = ws.length ∧ ∀ (k : Nat) (b : Bo), as[k]? = some b → ∃ w, ws[k]? = some w ∧ argOf r w = some b
  | [], as, h => by cases h; exact ⟨rfl, fun k b e => by simp at e⟩
  | w :: ws, as, h => by
    unfold argsOf at h
    cases e1 : argOf r w with
    | none => simp [e1] at h
    | some b =>
      cases e2 : argsOf r ws with
      | none => simp [e1, e2] at h
      | some bs =>
        simp only [e1, e2, Option.some.injEq] at h
        subst h
        obtain ⟨l, g⟩ := argsOf_get e2
        refine ⟨by rw [List.length_cons, List.length_cons, l], fun k b' e => ?_⟩
        cases k with
        | zero => simp at e; subst e; exact ⟨w, rfl, e1⟩
        | succ k => simpa using g k b' (by simpa using e)
theorem argsOf_get' {r : Rho} : ∀ {ws : List W} {as : List Bo} {k : Nat} {w : W}, argsOf r ws = some as → ws[k]? = some w → ∃ b, as[k]? = some b ∧ argOf r w = some b
  | ws, as, k, w, h, e => by
    obtain ⟨l, g⟩ := argsOf_get h
    have hk := (List.getElem?_eq_some_iff.mp e).1
    have hk' : k < as.length := by rw [l]; exact hk
    obtain ⟨w', e', q⟩ := g k as[k] (by simp [hk'])
    rw [e] at e'; cases e'
    exact ⟨as[k], by simp [hk'], q⟩
theorem apart_get {r : Rho} {z : Ix} {ws : List W} : apart r ws = true → ∀ {i j : Nat} {w u : W}, ws[i]? = some w → ws[j]? = some u → celOf r w = some z → celOf r u = some z → i = j := by
  induction ws with
  | nil => intro _ i j w u h; simp at h
  | cons w0 ws ih =>
    intro h i j w u e1 e2 c1 c2
    have h2 : apart r ws = true := by simp only [apart, Bool.and_eq_true] at h; exact h.2
    have one : ∀ {u : W}, celOf r w0 = some z → u ∈ ws → celOf r u ≠ some z := fun {u} c m => by
      simp only [apart, c, Bool.and_eq_true, List.all_eq_true, decide_eq_true_eq] at h
      exact h.1 u m
    cases i with
    | zero =>
      cases j with
      | zero => rfl
      | succ j =>
        simp at e1; subst e1
        exact absurd c2 (one c1 (List.mem_of_getElem? (by simpa using e2)))
    | succ i =>
      cases j with
      | zero =>
        simp at e2; subst e2
        exact absurd c1 (one c2 (List.mem_of_getElem? (by simpa using e1)))
      | succ j => exact congrArg (· + 1) (ih h2 (i := i) (j := j) (by simpa using e1) (by simpa using e2) c1 c2)
theorem findArg_some {z : Ix} {b : Bo} : ∀ {ws : List W} {bs : List Bo}, findArg z ws bs = some b → ∃ k : Nat, ws[k]? = some (.cel z) ∧ bs[k]? = some b
  | [], bs, h => by cases bs <;> simp [findArg] at h
  | w :: ws, [], h => by cases w <;> simp [findArg] at h
  | w :: ws, b' :: bs, h => by
    cases w with
    | cel z' =>
      by_cases e : z' = z
      · subst e
        simp [findArg] at h
        exact ⟨0, rfl, by simp [h]⟩
      · simp [findArg, e] at h
        obtain ⟨k, h1, h2⟩ := findArg_some h
        exact ⟨k + 1, by simpa using h1, by simpa using h2⟩
    | dt d =>
      simp [findArg] at h
      obtain ⟨k, h1, h2⟩ := findArg_some h
      exact ⟨k + 1, by simpa using h1, by simpa using h2⟩
    | fresh d =>
      simp [findArg] at h
      obtain ⟨k, h1, h2⟩ := findArg_some h
      exact ⟨k + 1, by simpa using h1, by simpa using h2⟩
theorem findArg_none {z : Ix} : ∀ {ws : List W} {bs : List Bo} {k : Nat}, findArg z ws bs = none → ws[k]? = some (.cel z) → bs[k]? = none
  | [], bs, k, h, e => by simp at e
  | w :: ws, [], k, h, e => by simp
  | w :: ws, b' :: bs, k, h, e => by
    cases k with
    | zero =>
      simp at e; subst e
      simp [findArg] at h
    | succ k =>
      have h' : findArg z ws bs = none := by
        cases w with
        | cel z' =>
          by_cases q : z' = z
          · subst q; simp [findArg] at h
          · simpa [findArg, q] using h
        | dt d => simpa [findArg] using h
        | fresh d => simpa [findArg] using h
      simpa using findArg_none h' (by simpa using e)
section
variable {K : PySem.W.Frag} {vs xs : List V} {Hs B H B' H' : Hp} {σ : L2.St} {r : Rho} {ws : List W} {as bs : List Bo} {st' : List Cn}
theorem RpWs.clash {xs : List V} {ws : List W} (h : RpWs K vs Hs B σ H r xs ws) : ∀ {i j : Nat} {v x : V} {w u : W}, i < j → xs[i]? = some v → ws[i]? = some w → xs[j]? = some x → ws[j]? = some u → ¬ Clash v w x u := by
  induction h with
  | nil => intro i j v x w u _ e; simp at e
  | cons h0 t n ih =>
    intro i j v x w u hij e1 e2 e3 e4
    cases j with
    | zero => omega
    | succ j =>
      cases i with
      | zero =>
        simp at e1 e2; subst e1 e2
        exact n j _ _ (by simpa using e3) (by simpa using e4)
      | succ i => exact ih (i := i) (j := j) (by omega) (by simpa using e1) (by simpa using e2) (by simpa using e3) (by simpa using e4)
theorem RpWs.at (h : RpWs K vs Hs B σ H r xs ws) {k : Nat} {w : W} (e : ws[k]? = some w) : ∃ v, xs[k]? = some v ∧ RpW K vs Hs B σ H r v w := by
  have hk : k < xs.length := by rw [h.length]; exact (List.getElem?_eq_some_iff.mp e).1
  exact ⟨xs[k], by simp [hk], h.get (by simp [hk]) e⟩
/-- an argument that the callee may change: a new thing, or a kept one -/
theorem own_arg (R : Rl K vs B σ H r) (h : RpWs K vs Hs B σ H r xs ws) (ea : argsOf r ws = some as) {k : Nat} {c : Cn} (e : as[k]? = some (.own c)) :
    ∃ w a, ws[k]? = some w ∧ xs[k]? = some (.ref a) ∧ B a = none ∧ At K B H a c ∧ ((w = .fresh c ∧ ¬ Own vs σ r a ∧ Hs a = none) ∨ ∃ z, w = .cel z ∧ r.cnt z = some c ∧ adr vs σ z = some (.ref a)) := by
  obtain ⟨w, ew, eb⟩ := (argsOf_get ea).2 k _ e
  obtain ⟨v, ev, hv⟩ := h.at ew
  cases w with
  | dt d => simp [argOf] at eb
  | fresh c' =>
    simp [argOf] at eb; subst eb
    obtain ⟨a, rfl, h1, h2, h3, h4⟩ := hv
    exact ⟨_, a, ew, ev, h2, h3, .inl ⟨rfl, h4, h1⟩⟩
  | cel z =>
    cases hc : r.cnt z with
    | none =>
      cases hl : r.look z with
      | none => simp [argOf, hc, hl] at eb
      | some d => simp [argOf, hc, hl] at eb
    | some c' =>
      simp [argOf, hc] at eb; subst eb
      obtain ⟨a, q1, q2, q3⟩ := R.own z _ hc
      have hv' : adr vs σ z = some v := hv
      rw [q1] at hv'; cases hv'
      exact ⟨_, a, ew, ev, q2, q3, .inr ⟨z, rfl, hc, q1⟩⟩
theorem call_in (R : Rl K vs B σ H r) (h : RpWs K vs Hs B σ H r xs ws) (ea : argsOf r ws = some as) (hap : apart r ws = true) : Rl K xs B [] H ⟨[], as, r.st⟩ where
  sto := R.sto
  sub := R.sub
  len := rfl
  dat := fun i d q => by simp at q
  own := fun z c q => by
    obtain ⟨k, rfl, e⟩ := cnt_bare q
    obtain ⟨w, a, h1, h2, h3, h4, _⟩ := own_arg R h ea e
    exact ⟨a, h2, h3, h4⟩
  lbo := fun i k q => by simp at q
  bod := fun k d e => by
    obtain ⟨w, ew, eb⟩ := (argsOf_get ea).2 k _ e
    obtain ⟨v, ev, hv⟩ := h.at ew
    refine ⟨v, ev, ?_⟩
    cases w with
    | dt d' => simp [argOf] at eb; subst eb; exact hv
    | fresh c' => simp [argOf] at eb
    | cel z =>
      cases hc : r.cnt z with
      | some c' => simp [argOf, hc] at eb
      | none =>
        cases hl : r.look z with
        | none => simp [argOf, hc, hl] at eb
        | some d' =>
          simp [argOf, hc, hl] at eb; subst eb
          exact look_data R hc hl hv
  sep := fun z z' c c' a q q' p p' => by
    obtain ⟨k, rfl, e⟩ := cnt_bare q
    obtain ⟨k', rfl, e'⟩ := cnt_bare q'
    obtain ⟨w, a1, h1, h2, _, h4, o1⟩ := own_arg R h ea e
    obtain ⟨w', a2, g1, g2, _, g4, o2⟩ := own_arg R h ea e'
    have p1 : xs[k]? = some (.ref a) := p
    have p2 : xs[k']? = some (.ref a) := p'
    rw [h2] at p1; cases p1
    rw [g2] at p2; cases p2
    congr 1
    rcases o1 with ⟨rfl, n1, _⟩ | ⟨z1, rfl, c1, d1⟩
    · rcases o2 with ⟨rfl, n2, _⟩ | ⟨z2, rfl, c2, d2⟩
      · rcases Nat.lt_trichotomy k k' with l | l | l
        · exact absurd ⟨_, _, _, rfl, rfl, rfl, rfl⟩ (h.clash l h2 h1 g2 g1)
        · exact l
        · exact absurd ⟨_, _, _, rfl, rfl, rfl, rfl⟩ (h.clash l g2 g1 h2 h1)
      · exact absurd ⟨z2, _, c2, d2⟩ n1
    · rcases o2 with ⟨rfl, n2, _⟩ | ⟨z2, rfl, c2, d2⟩
      · exact absurd ⟨z1, _, c1, d1⟩ n2
      · have := R.sep z1 z2 _ _ _ c1 c2 d1 d2
        subst this
        exact apart_get (z := z1) hap h1 g1 (by simp [celOf, c1]) (by simp [celOf, c1])
theorem cnt_after {z : Ix} : (r.after ws bs st').cnt z = match r.cnt z with
    | some c => match findArg z ws bs with
      | some (.own c') => some c'
      | some (.dt _) => none
      | none => some c
    | none => none := by
  cases z with
  | loc i =>
    cases e : r.loc[i]? with
    | none => simp [Rho.cnt, Rho.after, List.getElem?_mapIdx, e]
    | some o =>
      cases o with
      | none => simp [Rho.cnt, Rho.after, List.getElem?_mapIdx, e, upSl]
      | some s =>
        cases s with
        | dt d => simp [Rho.cnt, Rho.after, List.getElem?_mapIdx, e, upSl]
        | bor k => simp [Rho.cnt, Rho.after, List.getElem?_mapIdx, e, upSl]
        | own c =>
          simp only [Rho.cnt, Rho.after, List.getElem?_mapIdx, e, upSl, Option.map_some]
          cases findArg (.loc i) ws bs with
          | none => rfl
          | some b => cases b <;> rfl
  | bor k =>
    cases e : r.bor[k]? with
    | none => simp [Rho.cnt, Rho.after, List.getElem?_mapIdx, e]
    | some s =>
      cases s with
      | dt d => simp [Rho.cnt, Rho.after, List.getElem?_mapIdx, e, upBo]
      | own c =>
        simp only [Rho.cnt, Rho.after, List.getElem?_mapIdx, e, upBo, Option.map_some]
        cases findArg (.bor k) ws bs with
        | none => rfl
        | some b => cases b <;> rfl
theorem after_own {z : Ix} {c : Cn} (h : (r.after ws bs st').cnt z = some c) : ∃ c0, r.cnt z = some c0 ∧ ((∃ k : Nat, ws[k]? = some (.cel z) ∧ bs[k]? = some (.own c)) ∨ (findArg z ws bs = none ∧ c = c0)) := by
  rw [cnt_after] at h
  cases e : r.cnt z with
  | none => rw [e] at h; cases h
  | some c0 =>
    rw [e] at h
    cases e2 : findArg z ws bs with
    | none => simp only [e2] at h; cases h; exact ⟨_, rfl, .inr ⟨rfl, rfl⟩⟩
    | some b =>
      cases b with
      | dt d => simp only [e2] at h; cases h
      | own c' => simp only [e2] at h; cases h; exact ⟨c0, rfl, .inl (findArg_some e2)⟩
/-- a kept thing that is not handed in is not the callee's -/
theorem not_handed (R : Rl K vs B σ H r) (h : RpWs K vs Hs B σ H r xs ws) (ea : argsOf r ws = some as) (hb : bs.length = as.length) {z : Ix} {c : Cn} {a : Addr} (hc : r.cnt z = some c) (ha : adr vs σ z = some (.ref a)) (hn : findArg z ws bs = none) : ¬ Own xs [] ⟨[], as, r.st⟩ a := by
  rintro ⟨z', c', q1, q2⟩
  obtain ⟨k, rfl, e⟩ := cnt_bare q1
  have q2' : xs[k]? = some (.ref a) := q2
  obtain ⟨w, a1, h1, h2, _, _, o1⟩ := own_arg R h ea e
  rw [q2'] at h2; cases h2
  rcases o1 with ⟨rfl, n1, _⟩ | ⟨z1, rfl, c1, d1⟩
  · exact n1 ⟨z, c, hc, ha⟩
  · have := R.sep z z1 _ _ _ hc c1 ha d1
    subst this
    have hk := (List.getElem?_eq_some_iff.mp e).1
    have := findArg_none hn h1
    rw [List.getElem?_eq_getElem (by rw [hb]; exact hk)] at this
    cases this
theorem call_out {B0 H0 : Hp} {r0 : Rho} (R : Rl K vs B σ H r) (s0 : Stp vs B0 H0 σ r0 B H σ r) (h : RpWs K vs H0 B σ H r xs ws) (ea : argsOf r ws = some as) (s : Stp xs B H [] ⟨[], as, r.st⟩ B' H' [] ⟨[], bs, st'⟩) (R' : Rl K xs B' [] H' ⟨[], bs, st'⟩) :
    Rl K vs B' σ H' (r.after ws bs st') ∧ Stp vs B0 H0 σ r0 B' H' σ (r.after ws bs st') := by
  have hb : bs.length = as.length := s.bol
  have callee : ∀ a, Own xs [] ⟨[], as, r.st⟩ a → Own vs σ r a ∨ H0 a = none := by
    rintro a ⟨z', c', q1, q2⟩
    obtain ⟨k, rfl, e⟩ := cnt_bare q1
    obtain ⟨w, a1, h1, h2, _, _, o1⟩ := own_arg R h ea e
    have q2' : xs[k]? = some (.ref a) := q2
    rw [q2'] at h2; cases h2
    rcases o1 with ⟨rfl, n1, n2⟩ | ⟨z1, rfl, c1, d1⟩
    · exact .inr n2
    · exact .inl ⟨z1, _, c1, d1⟩
  have own' : ∀ z c, (r.after ws bs st').cnt z = some c → ∃ a c0, r.cnt z = some c0 ∧ adr vs σ z = some (.ref a) ∧ B' a = none ∧ At K B' H' a c := fun z c q => by
    obtain ⟨c0, q0, q1 | ⟨q1, rfl⟩⟩ := after_own q
    · obtain ⟨k, e1, e2⟩ := q1
      obtain ⟨a, p1, p2, p3⟩ := R'.own (.bor k) c (by simp [Rho.cnt, e2])
      have p1' : xs[k]? = some (.ref a) := p1
      exact ⟨a, c0, q0, h.get p1' e1, p2, p3⟩
    · obtain ⟨a, p1, p2, p3⟩ := R.own z c q0
      have no := not_handed R h ea hb q0 p1 q1
      obtain ⟨o, ho⟩ := p3.some
      exact ⟨a, c, q0, p1, (s.keep a o ho no (noMk_none p2)).2 p2, p3.mono s.sub fun o' e => (s.keep a o' e no (noMk_none p2)).1⟩
  have ow : ∀ a, Own vs σ (r.after ws bs st') a → Own vs σ r a := fun a ⟨z, c, q1, q2⟩ => by
    obtain ⟨c0, q0, _⟩ := after_own q1
    exact ⟨z, c0, q0, q2⟩
  have frozen : ∀ {z : Ix} {d : D} {v : V}, adr vs σ z = some v → findArg z ws bs = some (.dt d) → Rp K B' v d := fun {z d v} ha q => by
    obtain ⟨k, e1, e2⟩ := findArg_some q
    obtain ⟨u, p1, p2⟩ := R'.bod k d e2
    have : adr vs σ z = some u := h.get p1 e1
    rw [ha] at this; cases this
    exact p2
  refine ⟨⟨R'.sub, R'.sto, ?_, ?_, fun z c q => ?_, ?_, ?_, ?_⟩, ⟨s0.sub.trans s.sub, fun a o e no mk => ?_, Nat.le_trans s0.stl s.stl, fun a e => s0.dom a (s.dom a e), fun a q => s0.own a (ow a q), ?_, ?_, ?_⟩⟩
  · simp [Rho.after, R.len]
  · intro i d q
    cases e : r.loc[i]? with
    | none => simp [Rho.after, List.getElem?_mapIdx, e] at q
    | some o =>
      cases o with
      | none => simp [Rho.after, List.getElem?_mapIdx, e, upSl] at q
      | some sl =>
        cases sl with
        | dt d' =>
          simp [Rho.after, List.getElem?_mapIdx, e, upSl] at q
          subst q
          obtain ⟨v, p1, p2⟩ := R.dat i _ e
          exact ⟨v, p1, p2.mono s.sub⟩
        | bor k => simp [Rho.after, List.getElem?_mapIdx, e, upSl] at q
        | own c =>
          obtain ⟨a, p1, p2, p3⟩ := R.own (.loc i) c (by simp [Rho.cnt, e])
          cases e2 : findArg (.loc i) ws bs with
          | none => simp [Rho.after, List.getElem?_mapIdx, e, upSl, e2] at q
          | some b =>
            cases b with
            | own c' => simp [Rho.after, List.getElem?_mapIdx, e, upSl, e2] at q
            | dt d' =>
              simp [Rho.after, List.getElem?_mapIdx, e, upSl, e2] at q
              subst q
              refine ⟨.ref a, ?_, frozen p1 e2⟩
              simp only [adr] at p1
              cases e3 : σ[i]? with
              | none => rw [e3] at p1; cases p1
              | some w => cases w with
                | none => rw [e3] at p1; cases p1
                | some w => rw [e3] at p1; cases p1; rfl
  · obtain ⟨a, c0, _, p1, p2, p3⟩ := own' z c q
    exact ⟨a, p1, p2, p3⟩
  · intro i k q
    cases e : r.loc[i]? with
    | none => simp [Rho.after, List.getElem?_mapIdx, e] at q
    | some o =>
      cases o with
      | none => simp [Rho.after, List.getElem?_mapIdx, e, upSl] at q
      | some sl =>
        cases sl with
        | dt d' => simp [Rho.after, List.getElem?_mapIdx, e, upSl] at q
        | bor k' =>
          simp [Rho.after, List.getElem?_mapIdx, e, upSl] at q
          subst q
          exact R.lbo i _ e
        | own c =>
          cases e2 : findArg (.loc i) ws bs with
          | none => simp [Rho.after, List.getElem?_mapIdx, e, upSl, e2] at q
          | some b => cases b <;> simp [Rho.after, List.getElem?_mapIdx, e, upSl, e2] at q
  · intro k d q
    cases e : r.bor[k]? with
    | none => simp [Rho.after, List.getElem?_mapIdx, e] at q
    | some b0 =>
      cases b0 with
      | dt d' =>
        simp [Rho.after, List.getElem?_mapIdx, e, upBo] at q
        subst q
        obtain ⟨v, p1, p2⟩ := R.bod k _ e
        exact ⟨v, p1, p2.mono s.sub⟩
      | own c =>
        obtain ⟨a, p1, p2, p3⟩ := R.own (.bor k) c (by simp [Rho.cnt, e])
        cases e2 : findArg (.bor k) ws bs with
        | none => simp [Rho.after, List.getElem?_mapIdx, e, upBo, e2] at q
        | some b =>
          cases b with
          | own c' => simp [Rho.after, List.getElem?_mapIdx, e, upBo, e2] at q
          | dt d' =>
            simp [Rho.after, List.getElem?_mapIdx, e, upBo, e2] at q
            subst q
            exact ⟨.ref a, p1, frozen p1 e2⟩
  · intro z z' c c' a q q' p p'
    obtain ⟨c0, q0, _⟩ := after_own q
    obtain ⟨c1, q1, _⟩ := after_own q'
    exact R.sep z z' c0 c1 a q0 q1 p p'
  · obtain ⟨k1, k2⟩ := s0.keep a o e no mk
    have mk1 : NoMk B a := fun k q => by
      cases eb : B0 a with
      | none => rw [k2 eb] at q; cases q
      | some u => rw [s0.sub _ _ eb] at q; cases q; exact mk k eb
    have no1 : ¬ Own xs [] ⟨[], as, r.st⟩ a := fun q => by
      rcases callee a q with g | g
      · exact (s0.own a g).elim no fun z => by rw [e] at z; cases z
      · rw [e] at g; cases g
    obtain ⟨k3, k4⟩ := s.keep a o k1 no1 mk1
    exact ⟨k3, fun z => k4 (k2 z)⟩
  · simp [Rho.after, s0.bol]
  · intro k d q
    have := s0.bod k d q
    simp [Rho.after, List.getElem?_mapIdx, this, upBo]
  · intro k c a q hv
    rcases s0.boo k c a q hv with ⟨c1, e⟩ | ⟨d, o, e, e2⟩
    · cases e2 : findArg (.bor k) ws bs with
      | none => exact .inl ⟨c1, by simp [Rho.after, List.getElem?_mapIdx, e, upBo, e2]⟩
      | some b =>
        cases b with
        | own c' => exact .inl ⟨c', by simp [Rho.after, List.getElem?_mapIdx, e, upBo, e2]⟩
        | dt d' =>
          obtain ⟨k', e3, e4⟩ := findArg_some e2
          obtain ⟨b1, e5, e6⟩ := argsOf_get' ea e3
          have hc : r.cnt (.bor k) = some c1 := by simp [Rho.cnt, e]
          simp [argOf, hc] at e6
          subst e6
          obtain ⟨u, p1, p2⟩ := R'.bod k' d' e4
          have pu : adr vs σ (.bor k) = some u := h.get p1 e3
          have pu' : vs[k]? = some u := pu
          rw [hv] at pu'; cases pu'
          rcases s.boo k' c1 a e5 p1 with ⟨c2, m⟩ | ⟨d2, o2, m, m2⟩
          · have m' : bs[k']? = some (.own c2) := m
            rw [e4] at m'; cases m'
          · exact .inr ⟨d', o2, by simp [Rho.after, List.getElem?_mapIdx, e, upBo, e2], m2⟩
    · exact .inr ⟨d, o, by simp [Rho.after, List.getElem?_mapIdx, e, upBo], s.sub _ _ e2.1, e2.2⟩
end
/-- f(e, ..), what is raised wished for at the caller's slots -/
def tCallG (Wx : WX) (sp : Sp) (t : TA) : TE := fun σ H Q => t σ H fun vs H1 => sp vs H1 Q (fun cl dd H' => Wx cl dd σ H')
section
variable {X : Cx} {Wx : WX} {k : Nat} {f : Addr} {fd : FuncData} {ps : List Str} {F : FnS} {x : Str} {p pos : Pos} {e : Expr} {es : List Expr} {t : TA}
theorem run_fnG {pins : List (Addr × Obj)} {σ : L2.St} {H : Hp} {s : Shared} {Q : VK} {args : Args} {us : List Value} {vs : List V} (G : FnT X.prog X.w X.K X.mg X.base k f fd ps F) (hr : Room k X.A) (hgu : X.A.guards = some []) (hb : BindsTo s fd args (ps.zip us)) (tk : Takes X Wx)
    (I : Inv X pins σ H s) (rv : Vals vs us) (h : spG X.K X.mg ps.length F vs H Q (fun cl dd H' => Wx cl dd σ H')) : codeAny (model X.prog X.w) X.A (.call (.ref f) args) (fun r s' => match r with
      | .ok (.ret u) => EP X pins σ Q u s'
      | .ok _ => False
      | .error e => X.xe e s') s := by
  refine codeAny_mono (G.run X.A X.stack s H args us vs Q _ hr hgu I.env0 hb rv h) fun res s2 hq => ?_
  cases res with
  | error u => exact tk u s2 (XE.of_call I (fun _ _ _ z => z) hq)
  | ok fl =>
    cases fl with
    | ret u => exact I.after hq
    | next => exact hq
    | brk => exact hq
    | cont => exact hq
theorem pe_callG (G : FnT X.prog X.w X.K X.mg X.base k f fd ps F) (hr : Room k X.A) (hgu : X.A.guards = some []) (hg : Gl X x) (hm : X.mg x = some (.ref f)) (hk : PySem.W.keepIn X.K (.ref f) = true) (hb : Binds X.K fd ps []) (tk : Takes X Wx)
    (ha : PA X (e :: es) t) (hdb : (x == ("__debug__" : Str)) = false) (he : starEach (e :: es) X.env = (false, eval e X.env) :: starEach es X.env) (hpl : (backTo pos (starEach es X.env)).any (·.1) = false) :
    PE X (.Call (.Name x p) (e :: es) [] pos) (tCallG Wx (spG X.K X.mg ps.length F) t) := by
  refine ⟨fun pins s σ H Q I h => wpAny_Call_Name_kw (ld_glob I hg hm ?_ hdb)⟩
  refine PySem.W.callWith_K (h₀ := X.base) I.ok.mod.kin hk (thn (ha.run pos pins s σ H _ I h) fun us s1 ⟨vs, H1, I1, rv, q⟩ => ⟨I1.kIn, ?_⟩) he hpl
  have hl : (us ++ []).length = ps.length := by rw [List.append_nil, ← rv.length]; exact q.1
  have hb' := hb s1 us I1.kIn hl
  rw [List.append_nil] at hb'
  exact wpAny_call (codeAny_mono (run_fnG G hr hgu hb' tk I1 rv q) fun res s2 hq => by
    cases res with
    | error u => exact hq
    | ok fl => cases fl <;> exact hq)
theorem pe_callG0 (G : FnT X.prog X.w X.K X.mg X.base k f fd ps F) (hr : Room k X.A) (hgu : X.A.guards = some []) (hg : Gl X x) (hm : X.mg x = some (.ref f)) (hk : PySem.W.keepIn X.K (.ref f) = true) (hb : Binds X.K fd ps []) (tk : Takes X Wx)
    (hdb : (x == ("__debug__" : Str)) = false) : PE X (.Call (.Name x p) [] [] pos) (tCallG Wx (spG X.K X.mg ps.length F) tNil) := by
  refine ⟨fun pins s σ H Q I h => wpAny_Call_Name_kw (ld_glob I hg hm ?_ hdb)⟩
  have hb' := hb s [] I.kIn (by have z := h.1; simp only [List.length_nil] at z; simpa using z)
  exact PySem.W.callWith_K0 I.kIn hk (wpAny_call (codeAny_mono (run_fnG G hr hgu hb' tk I .nil h) fun res s2 hq => by
    cases res with
    | error u => exact hq
    | ok fl => cases fl <;> exact hq))
/-- the reading of a call -/
theorem Post.call {vs : List V} {B H : Hp} {σ : L2.St} {r : Rho} {fa : M (List W)} {Q : VK} (R : Rl X.K vs B σ H r) (qa : ∀ vs B σ H r Q, Rl X.K vs B σ H r → Post X vs Wx B H σ r (fa r) (fA X vs σ H) Q → t σ H Q)
    (hn : ∀ ws r r', fa r = .ok ws r' → ws.length = ps.length) (h : Post X vs Wx B H σ r (cCallT F fa r) (fW X vs σ H) Q) : tCallG Wx (spG X.K X.mg ps.length F) t σ H Q := by
  cases efa : fa r with
  | fail => unfold cCallT M.bind at h; rw [efa] at h; exact h.elim
  | exc y r1 =>
    unfold cCallT M.bind at h; rw [efa] at h
    exact qa vs B σ H r _ R (by rw [efa]; exact h)
  | ok ws r1 =>
    unfold cCallT M.bind at h; rw [efa] at h
    refine qa vs B σ H r _ R ?_
    rw [efa]
    intro xs B1 H1 s1 R1 q1
    have hw := hn _ _ _ efa
    have hxl : xs.length = ps.length := (RpWs.length q1).trans hw
    cases ea : argsOf r1 ws with
    | none => simp only [ea] at h; exact h.elim
    | some as =>
      simp only [ea] at h
      by_cases hap : apart r1 ws = true
      · rw [if_pos hap] at h
        refine ⟨hxl, B1, as, r1.st, (argsOf_get ea).1.trans hw, call_in R1 q1 ea hap, ?_⟩
        cases eF : F as r1.st with
        | fail => simp only [eF] at h; exact h.elim
        | exc y bs st' =>
          simp only [eF] at h
          intro cl dd B2 H2 s2 R2 q2
          obtain ⟨R3, s3⟩ := call_out R1 s1 q1 ea s2 R2
          exact h cl dd B2 H2 s3 R3 q2
        | ok b bs st' =>
          simp only [eF] at h
          intro v B2 H2 s2 R2 q2
          obtain ⟨R3, s3⟩ := call_out R1 s1 q1 ea s2 R2
          refine h v B2 H2 s3 R3 ?_
          cases b with
          | dt d => exact q2
          | own c =>
            obtain ⟨a, rfl, g1, g2, g3, g4⟩ := q2
            refine ⟨a, rfl, s1.dom _ g1, g2, g3, fun ⟨z, c', m1, m2⟩ => ?_⟩
            obtain ⟨c0, m0, _⟩ := after_own m1
            obtain ⟨a', n1, _, n3⟩ := R1.own z c0 m0
            rw [m2] at n1; cases n1
            obtain ⟨o, ho⟩ := n3.some
            rw [g1] at ho; cases ho
      · rw [if_neg hap] at h
        exact h.elim
end
end Lc

set_option Elab.async false
set_option maxRecDepth 100000
set_option maxHeartbeats 4000000
/-! Part J: operations on data. -/
namespace Lc
open PySem L2 PySem.Spec PyProof.Rows
def bD (b : Bool) : Option Bo := some (.dt (.bl b))
def iD (i : Int) : Option Bo := some (.dt (.int i))
def sD (x : Str) : Option Bo := some (.dt (.str x))
section
variable {X : Cx} {B H : Hp} {v : V}
theorem rv_int {i : Int} (h : RpV X.K B H v (.int i)) : v = .int i := by cases h; rfl
theorem rv_str {i : Str} (h : RpV X.K B H v (.str i)) : v = .str i := by cases h; rfl
theorem rv_bl {i : Bool} (h : RpV X.K B H v (.bl i)) : v = .bl i := by cases h; rfl
theorem rv_non (h : RpV X.K B H v .non) : v = .non := by cases h; rfl
theorem rv_ty {n : String} (h : RpV X.K B H v (.ty n)) : v = .ty n := by cases h; rfl
theorem rv_tup {ds : List D} (h : RpV X.K B H v (.tup ds)) : ∃ a xs, v = .ref a ∧ TpA X.K B a xs ∧ RpAll X.K B xs ds := by
  cases h with
  | tup h1 h2 => exact ⟨_, _, rfl, h1, h2⟩
theorem rv_scr {ds : List Int} (h : RpV X.K B H v (.scr ds)) : ∃ a, v = .ref a ∧ SqL X.K B a (ds.map V.int) := by
  cases h with
  | scr h1 => exact ⟨_, rfl, h1⟩
/-- an operation on two ints -/
theorem ops_int {f : Value → Value → Sem Value} {C : Int → Int → Prop} {g : Int → Int → V} {G : Int → Int → D} {gg : D → D → Option Bo} (h : OpR X f (rI C g))
    (hg : ∀ da db b, gg da db = some b → ∃ i j, da = .int i ∧ db = .int j ∧ C i j ∧ b = .dt (G i j)) (hG : ∀ i j B, Rp X.K B (g i j) (G i j)) : OpS X f gg := by
  refine ⟨_, h, fun x y da db b e B H Q s vx vy k => ?_⟩
  obtain ⟨i, j, rfl, rfl, c, rfl⟩ := hg da db b e
  exact ⟨i, j, rv_int vx, rv_int vy, c, k _ B H .refl s (hG i j B)⟩
theorem ops_int0 {f : Value → Value → Sem Value} {g : Int → Int → V} {G : Int → Int → D} {gg : D → D → Option Bo} (h : OpR X f (rI0 g))
    (hg : ∀ da db b, gg da db = some b → ∃ i j, da = .int i ∧ db = .int j ∧ b = .dt (G i j)) (hG : ∀ i j B, Rp X.K B (g i j) (G i j)) : OpS X f gg := by
  refine ⟨_, h, fun x y da db b e B H Q s vx vy k => ?_⟩
  obtain ⟨i, j, rfl, rfl, rfl⟩ := hg da db b e
  exact ⟨i, j, rv_int vx, rv_int vy, k _ B H .refl s (hG i j B)⟩

/-! ### arithmetic -/
def gAdd : D → D → Option Bo
  | .int i, .int j => iD (i + j)
  | .str x, .str y => if x.length + y.length ≤ sizeLine then sD (x ++ y) else none
  | .lst xs, .lst ys => if xs.length + ys.length ≤ sizeLine then some (.own (.lst (xs ++ ys))) else none
  | _, _ => none
theorem ops_add : OpS X (binaryOp .Add) gAdd := by
  refine ⟨_, op_add.or (op_add_str.or op_cat), fun x y da db b e B H Q s vx vy k => ?_⟩
  unfold gAdd at e
  split at e
  · cases e
    exact .inl ⟨_, _, rv_int vx, rv_int vy, k _ B H .refl s (Rp.int _)⟩
  · split at e
    · cases e
      exact .inr (.inl ⟨_, _, rv_str vx, rv_str vy, by assumption, k _ B H .refl s (Rp.str _)⟩)
    · cases e
  · split at e
    · cases e
      obtain ⟨l, xs, rfl, h1, h2⟩ := vx
      obtain ⟨l2, ys, rfl, h3, h4⟩ := vy
      refine .inr (.inr ⟨l, l2, xs, ys, rfl, rfl, h1, h3, by rw [h2.length, h4.length]; assumption, fun p np => ?_⟩)
      exact k _ B _ (.plain np) (s.trans (same_upd np)) ⟨p, rfl, np, none_of_sub s np, ⟨_, upd_same, h2.append h4⟩⟩
    · cases e
  · cases e
def gSub : D → D → Option Bo
  | .int i, .int j => iD (i - j)
  | _, _ => none
theorem ops_sub : OpS X (binaryOp .Sub) gSub := ops_int0 (G := fun i j => .int (i - j)) op_sub (fun da db b e => by unfold gSub at e; split at e; cases e; exact ⟨_, _, rfl, rfl, rfl⟩; cases e) fun _ _ _ => .int _
def gMul : D → D → Option Bo
  | .int i, .int j => if (-(2 ^ 64) < i ∧ i < 2 ^ 64) ∨ (-(2 ^ 64) < j ∧ j < 2 ^ 64) then iD (i * j) else none
  | _, _ => none
theorem ops_mul : OpS X (binaryOp .Mult) gMul := ops_int (G := fun i j => .int (i * j)) op_mul (fun da db b e => by
  unfold gMul at e
  split at e
  · split at e
    · cases e; exact ⟨_, _, rfl, rfl, by assumption, rfl⟩
    · cases e
  · cases e) fun _ _ _ => .int _
def gMod : D → D → Option Bo
  | .int i, .int j => if 0 < j then iD (i % j) else none
  | _, _ => none
theorem ops_mod : OpS X (binaryOp .Mod) gMod := ops_int (G := fun i j => .int (i % j)) op_mod (fun da db b e => by
  unfold gMod at e
  split at e
  · split at e
    · cases e; exact ⟨_, _, rfl, rfl, by assumption, rfl⟩
    · cases e
  · cases e) fun _ _ _ => .int _
def gFdiv : D → D → Option Bo
  | .int i, .int j => if 0 < j ∧ j < 1073741824 then iD (i / j) else none
  | _, _ => none
theorem ops_fdiv : OpS X (binaryOp .FloorDiv) gFdiv := ops_int (G := fun i j => .int (i / j)) op_fdiv (fun da db b e => by
  unfold gFdiv at e
  split at e
  · split at e
    · cases e; exact ⟨_, _, rfl, rfl, by assumption, rfl⟩
    · cases e
  · cases e) fun _ _ _ => .int _
def gPow : D → D → Option Bo
  | .int i, .int j => if 0 ≤ j ∧ j ≤ 1000000 ∧ i.natAbs < 2 ^ 64 then iD (i ^ j.toNat) else none
  | _, _ => none
theorem ops_pow : OpS X (binaryOp .Pow) gPow := ops_int (G := fun i j => .int (i ^ j.toNat)) op_pow (fun da db b e => by
  unfold gPow at e
  split at e
  · split at e
    · cases e; exact ⟨_, _, rfl, rfl, by assumption, rfl⟩
    · cases e
  · cases e) fun _ _ _ => .int _
def gNeg : D → Option Bo
  | .int i => iD (-i)
  | _ => none
theorem uns_neg : UnS X (unaryOp .USub) gNeg := by
  refine ⟨_, un_neg, fun x da b e B H Q s vx k => ?_⟩
  unfold gNeg at e
  split at e
  · cases e
    exact ⟨_, rv_int vx, k _ B H .refl s (Rp.int _)⟩
  · cases e

/-! ### comparisons -/
def gLt : D → D → Option Bo
  | .int i, .int j => bD (decide (i < j))
  | _, _ => none
def gLe : D → D → Option Bo
  | .int i, .int j => bD (decide (i ≤ j))
  | _, _ => none
def gGt : D → D → Option Bo
  | .int i, .int j => bD (decide (j < i))
  | _, _ => none
def gGe : D → D → Option Bo
  | .int i, .int j => bD (decide (j ≤ i))
  | _, _ => none
theorem ops_lt : OpS X (compareOp .Lt) gLt := ops_int0 (G := fun i j => .bl (decide (i < j))) op_lt (fun da db b e => by unfold gLt at e; split at e; cases e; exact ⟨_, _, rfl, rfl, rfl⟩; cases e) fun _ _ _ => .bl _
theorem ops_le : OpS X (compareOp .LtE) gLe := ops_int0 (G := fun i j => .bl (decide (i ≤ j))) op_le (fun da db b e => by unfold gLe at e; split at e; cases e; exact ⟨_, _, rfl, rfl, rfl⟩; cases e) fun _ _ _ => .bl _
theorem ops_gt : OpS X (compareOp .Gt) gGt := ops_int0 (G := fun i j => .bl (decide (j < i))) op_gt (fun da db b e => by unfold gGt at e; split at e; cases e; exact ⟨_, _, rfl, rfl, rfl⟩; cases e) fun _ _ _ => .bl _
theorem ops_ge : OpS X (compareOp .GtE) gGe := ops_int0 (G := fun i j => .bl (decide (j ≤ i))) op_ge (fun da db b e => by unfold gGe at e; split at e; cases e; exact ⟨_, _, rfl, rfl, rfl⟩; cases e) fun _ _ _ => .bl _
def gIn : D → D → Option Bo
  | .str x, .str z => match x.cps.toList with
    | [c] => bD (decide (c ∈ z.cps.toList))
    | _ => none
  | _, _ => none
def gNotIn : D → D → Option Bo
  | .str x, .str z => match x.cps.toList with
    | [c] => bD (!decide (c ∈ z.cps.toList))
    | _ => none
  | _, _ => none
theorem one_sign {x : Str} {c : Nat} (h : x.cps.toList = [c]) : x = ⟨#[c]⟩ := by
  obtain ⟨⟨l⟩⟩ := x
  simp at h
  rw [h]
theorem ops_in : OpS X (compareOp .In) gIn := by
  refine ⟨_, op_in_sign, fun x y da db b e B H Q s vx vy k => ?_⟩
  unfold gIn at e
  split at e
  · split at e
    · rename_i hc
      cases e
      exact ⟨_, _, by rw [rv_str vx, one_sign hc], rv_str vy, k _ B H .refl s (Rp.bl _)⟩
    · cases e
  · cases e
theorem ops_notIn : OpS X (compareOp .NotIn) gNotIn := by
  refine ⟨_, op_notIn_sign, fun x y da db b e B H Q s vx vy k => ?_⟩
  unfold gNotIn at e
  split at e
  · split at e
    · rename_i hc
      cases e
      exact ⟨_, _, by rw [rv_str vx, one_sign hc], rv_str vy, k _ B H .refl s (Rp.bl _)⟩
    · cases e
  · cases e
def isNon : D → Bool
  | .non => true
  | _ => false
def gIs : D → D → Option Bo
  | d, .non => bD (isNon d)
  | _, _ => none
def gIsNot : D → D → Option Bo
  | d, .non => bD (!isNon d)
  | _, _ => none
theorem rv_isNon {d : D} (h : RpV X.K B H v d) : decide (v = .non) = isNon d := by
  cases d with
  | non => rw [rv_non h]; rfl
  | bl b => rw [rv_bl h]; rfl
  | int i => rw [rv_int h]; rfl
  | str x => rw [rv_str h]; rfl
  | ty n => rw [rv_ty h]; rfl
  | lst l => obtain ⟨a, _, rfl, _⟩ := h; rfl
  | dct l => obtain ⟨a, _, rfl, _⟩ := h; rfl
  | tup l => obtain ⟨a, _, rfl, _⟩ := rv_tup h; rfl
  | scr l => obtain ⟨a, rfl, _⟩ := rv_scr h; rfl
  | cls l => cases h; rfl
  | exc a l m => cases h; rfl
  | obj l m => cases h; rfl
  | err l m => cases h; rfl
  | sto l => cases h; rfl
theorem ops_is : OpS X (compareOp .Is) gIs := by
  refine ⟨_, op_isN, fun x y da db b e B H Q s vx vy k => ?_⟩
  unfold gIs at e
  split at e
  · cases e
    refine ⟨rv_non vy, ?_⟩
    rw [rv_isNon vx]
    exact k _ B H .refl s (Rp.bl _)
  · cases e
theorem ops_isNot : OpS X (compareOp .IsNot) gIsNot := by
  refine ⟨_, op_notN, fun x y da db b e B H Q s vx vy k => ?_⟩
  unfold gIsNot at e
  split at e
  · cases e
    refine ⟨rv_non vy, ?_⟩
    rw [rv_isNon vx]
    exact k _ B H .refl s (Rp.bl _)
  · cases e
end

/-! ### data as the library's own -/
mutual
def D.py : D → PyData
  | .non => .none
  | .bl b => .bool b
  | .int i => .int i
  | .str x => .str x
  | .lst l => .list (D.pys l)
  | .tup l => .tuple (D.pys l)
  | .dct l => .dict (D.pyk l)
  | .ty _ => .none
  | .scr l => .list (l.map PyData.int)
  | .cls _ => .none
  | .exc _ _ _ => .none
  | .obj _ _ => .none
  | .err _ _ => .none
  | .sto _ => .none
def D.pys : List D → List PyData
  | [] => []
  | d :: ds => d.py :: D.pys ds
def D.pyk : List (D × D) → List (PyData × PyData)
  | [] => []
  | (k, v) :: r => (k.py, v.py) :: D.pyk r
end
mutual
/-- lists and tuples of flat things, at any depth -/
def D.flat : D → Bool
  | .lst l => D.flats l
  | .tup l => D.flats l
  | .dct _ => false
  | .ty _ => false
  | .scr _ => false
  | .cls _ => false
  | .exc _ _ _ => false
  | .obj _ _ => false
  | .err _ _ => false
  | .sto _ => false
  | _ => true
def D.flats : List D → Bool
  | [] => true
  | d :: ds => d.flat && D.flats ds
end
mutual
theorem Rp.dp {K : PySem.W.Frag} {B : Hp} : ∀ {v : V} {d : D}, Rp K B v d → d.flat = true → Dp K B v d.py
  | _, _, .non, _ => by rw [D.py]; exact .non
  | _, _, .bl b, _ => by rw [D.py]; exact .bl b
  | _, _, .int i, _ => by rw [D.py]; exact .int i
  | _, _, .str x, _ => by rw [D.py]; exact .str x
  | _, _, .ty n, h => by simp [D.flat] at h
  | _, _, .scr _, h => by simp [D.flat] at h
  | _, _, .cls _, h => by simp [D.flat] at h
  | _, _, .exc _ _, h => by simp [D.flat] at h
  | _, _, .obj _ _ _ _, h => by simp [D.flat] at h
  | _, _, .err _ _ _ _, h => by simp [D.flat] at h
  | _, _, .sto _, h => by simp [D.flat] at h
  | _, _, .dct _ _, h => by simp [D.flat] at h
  | _, _, .lst h r, q => by rw [D.py]; exact .lst (.of h) (RpAll.dp r (by simpa [D.flat] using q))
  | _, _, .tup h r, q => by rw [D.py]; exact .tup (h.sq) (RpAll.dp r (by simpa [D.flat] using q))
theorem RpAll.dp {K : PySem.W.Frag} {B : Hp} : ∀ {vs : List V} {ds : List D}, RpAll K B vs ds → D.flats ds = true → DpAll K B vs (D.pys ds)
  | _, _, .nil, _ => by rw [D.pys]; exact .nil
  | _, _, .cons h r, q => by
    simp only [D.flats, Bool.and_eq_true] at q
    rw [D.pys]
    exact .cons (h.dp q.1) (RpAll.dp r q.2)
end
mutual
theorem D.flat_nm : ∀ d : D, d.flat = true → d.nm = true
  | .non, _ => rfl
  | .bl _, _ => rfl
  | .int _, _ => rfl
  | .str _, _ => rfl
  | .ty _, h => by simp [D.flat] at h
  | .scr _, h => by simp [D.flat] at h
  | .cls _, h => by simp [D.flat] at h
  | .exc _ _ _, h => by simp [D.flat] at h
  | .obj _ _, h => by simp [D.flat] at h
  | .err _ _, h => by simp [D.flat] at h
  | .dct _, h => by simp [D.flat] at h
  | .sto _, h => by simp [D.flat] at h
  | .lst l, h => by
    simp only [D.flat] at h
    simp only [D.nm]
    exact D.flats_nm l h
  | .tup l, h => by
    simp only [D.flat] at h
    simp only [D.nm]
    exact D.flats_nm l h
theorem D.flats_nm : ∀ l : List D, D.flats l = true → D.nms l = true
  | [], _ => rfl
  | d :: l, h => by
    simp only [D.flats, Bool.and_eq_true] at h
    simp only [D.nms, Bool.and_eq_true]
    exact ⟨D.flat_nm d h.1, D.flats_nm l h.2⟩
end
/-- what the library's deep comparison takes -/
def D.deepOk (a : D) : Bool := a.flat && SeqAt.shaped a.py
def D.eq : D → D → Option Bool
  | .str x, .str y => some (x == y)
  | .int i, .int j => some (i == j)
  | a, b => if a.deepOk = true ∧ b.deepOk = true then some (a.py.eqv b.py) else none
def gEq (a b : D) : Option Bo := (a.eq b).bind bD
def gNe (a b : D) : Option Bo := (a.eq b).bind fun k => bD (!k)
section
variable {X : Cx} {B H : Hp} {v : V}
theorem eq_rule {x y : V} {da db : D} {k : Bool} (e : da.eq db = some k) (s : Sbm B H) (vx : RpV X.K B H x da) (vy : RpV X.K B H y db) :
    (scal x y = true ∧ decide (x = y) = k) ∨ ∃ d e, Dp X.K H x d ∧ Dp X.K H y e ∧ SeqAt.shaped d = true ∧ SeqAt.shaped e = true ∧ PyData.eqv d e = k := by
  unfold D.eq at e
  split at e
  · cases e
    rw [rv_str vx, rv_str vy]
    exact .inl ⟨rfl, dec_str⟩
  · cases e
    rw [rv_int vx, rv_int vy]
    exact .inl ⟨rfl, dec_int⟩
  · split at e
    · rename_i h
      cases e
      simp only [D.deepOk, Bool.and_eq_true] at h
      exact .inr ⟨_, _, (vx.whole s (D.flat_nm _ h.1.1)).dp h.1.1, (vy.whole s (D.flat_nm _ h.2.1)).dp h.2.1, h.1.2, h.2.2, rfl⟩
    · cases e
theorem ops_eq (hu : X.A.units + 64 < cLine) : OpS X (compareOp .Eq) gEq := by
  refine ⟨_, op_eq.or (op_eqD hu), fun x y da db b e B H Q s vx vy k => ?_⟩
  unfold gEq at e
  cases q : da.eq db with
  | none => rw [q] at e; cases e
  | some c =>
    rw [q] at e; cases e
    rcases eq_rule q s vx vy with ⟨h1, h2⟩ | ⟨d, e, h1, h2, h3, h4, h5⟩
    · exact .inl ⟨h1, by rw [h2]; exact k _ B H .refl s (Rp.bl _)⟩
    · exact .inr ⟨d, e, h1, h2, h3, h4, by rw [h5]; exact k _ B H .refl s (Rp.bl _)⟩
theorem ops_ne (hu : X.A.units + 64 < cLine) : OpS X (compareOp .NotEq) gNe := by
  refine ⟨_, op_ne.or (op_neD hu), fun x y da db b e B H Q s vx vy k => ?_⟩
  unfold gNe at e
  cases q : da.eq db with
  | none => rw [q] at e; cases e
  | some c =>
    rw [q] at e; cases e
    rcases eq_rule q s vx vy with ⟨h1, h2⟩ | ⟨d, e, h1, h2, h3, h4, h5⟩
    · exact .inl ⟨h1, by rw [h2]; exact k _ B H .refl s (Rp.bl _)⟩
    · exact .inr ⟨d, e, h1, h2, h3, h4, by rw [h5]; exact k _ B H .refl s (Rp.bl _)⟩

/-! ### subscripts and slices -/
def gIx1 : D → D → Option Bo
  | .lst l, .int i => (atI l i).map .dt
  | .tup l, .int i => (atI l i).map .dt
  | .str x, .int i => if x.length ≤ sizeLine then (atI x.cps.toList i).map fun c => .dt (.str ⟨#[c]⟩) else none
  | .scr l, .int i => (atI l i).map fun n => .dt (.int n)
  | _, _ => none
theorem atI_all {K : PySem.W.Frag} {xs : List V} {ds : List D} {i : Int} {d : D} (h : RpAll K B xs ds) (e : atI ds i = some d) : ∃ v, atI xs i = some v ∧ Rp K B v d := by
  unfold atI at e ⊢
  rw [h.length]
  cases q : ixN ds.length i with
  | none => rw [q] at e; cases e
  | some j =>
    rw [q] at e
    exact h.get e
theorem ix_rule : ∀ (x y : V) (da db : D) (b : Bo), gIx1 da db = some b → ∀ (B H : Hp) (Q : VK), Sbm B H → RpV X.K B H x da → RpV X.K B H y db → (∀ v B' H', Ext B H B' H' → Sbm B' H' → RpB X.K H B' H' v b → Q v H') → rIx X.K x y H Q := by
  intro x y da db b e B H Q s vx vy k
  unfold gIx1 at e
  split at e
  · rename_i l i
    cases q : atI l i with
    | none => rw [q] at e; cases e
    | some d =>
      rw [q] at e; cases e
      obtain ⟨a, xs, rfl, h1, h2⟩ := vx
      obtain ⟨v, p1, p2⟩ := atI_all h2 q
      exact .inl ⟨a, xs, i, v, rfl, rv_int vy, .of h1, p1, k v B H .refl s p2⟩
  · rename_i l i
    cases q : atI l i with
    | none => rw [q] at e; cases e
    | some d =>
      rw [q] at e; cases e
      obtain ⟨a, xs, rfl, h1, h2⟩ := rv_tup vx
      obtain ⟨v, p1, p2⟩ := atI_all h2 q
      exact .inr (.inl ⟨a, xs, i, v, rfl, rv_int vy, seqT_mono s h1, p1, k v B H .refl s p2⟩)
  · rename_i z i
    split at e
    · rename_i hz
      cases q : atI z.cps.toList i with
      | none => rw [q] at e; cases e
      | some c =>
        rw [q] at e; cases e
        exact .inr (.inr ⟨z, i, c, rv_str vx, rv_int vy, hz, q, k _ B H .refl s (Rp.str _)⟩)
    · cases e
  · rename_i l i
    cases q : atI l i with
    | none => rw [q] at e; cases e
    | some n =>
      rw [q] at e; cases e
      obtain ⟨a, rfl, h1⟩ := rv_scr vx
      have q' : atI (l.map V.int) i = some (.int n) := by
        unfold atI at q ⊢
        rw [List.length_map]
        cases q2 : ixN l.length i with
        | none => rw [q2] at q; cases q
        | some j =>
          rw [q2] at q
          have q3 : l[j]? = some n := q
          show (l.map V.int)[j]? = _
          rw [List.getElem?_map, q3]
          rfl
      exact .inl ⟨a, _, i, _, rfl, rv_int vy, s.seq h1, q', k _ B H .refl s (Rp.int _)⟩
  · cases e
def cutD (l : List D) (lo hi : Option Int) : List D := (l.drop (HT.sIx l.length 0 lo)).take (HT.sIx l.length l.length hi - HT.sIx l.length 0 lo)
def gSl : D → Option Int → Option Int → Option Bo
  | .str x, lo, hi => if x.length ≤ sizeLine then sD (cutS x lo hi) else none
  | .lst l, lo, hi => some (.own (.lst (cutD l lo hi)))
  | _, _, _ => none
theorem sls : SlS X gSl := by
  refine ⟨_, sl_str.or sl_list, fun x d lo hi b e B H Q s vx k => ?_⟩
  unfold gSl at e
  split at e
  · split at e
    · cases e
      exact .inl ⟨_, rv_str vx, by assumption, k _ B H .refl s (Rp.str _)⟩
    · cases e
  · cases e
    obtain ⟨a, xs, rfl, h1, h2⟩ := vx
    refine .inr ⟨a, xs, rfl, .of h1, fun p np => ?_⟩
    refine k _ B _ (.plain np) (s.trans (same_upd np)) ⟨p, rfl, np, none_of_sub s np, ⟨_, upd_same, ?_⟩⟩
    unfold cutV cutD
    rw [h2.length]
    exact (h2.drop _).take _
  · cases e
end
end Lc

set_option Elab.async false
set_option maxRecDepth 100000
set_option maxHeartbeats 4000000
/-! Part K: built-in calls on data. -/
namespace Lc
open PySem L2 PySem.Spec PyProof.Rows
section
variable {X : Cx} {B H : Hp} {v : V}
theorem rvs_one {xs : List V} {d : D} (h : RpVs X.K B H xs [d]) : ∃ x, xs = [x] ∧ RpV X.K B H x d := by
  cases h with
  | cons a b => cases b; exact ⟨_, rfl, a⟩
theorem rvs_two {xs : List V} {d e : D} (h : RpVs X.K B H xs [d, e]) : ∃ x y, xs = [x, y] ∧ RpV X.K B H x d ∧ RpV X.K B H y e := by
  cases h with
  | cons a b =>
    cases b with
    | cons c d => cases d; exact ⟨_, _, rfl, a, c⟩

/-! ### isinstance -/
def tyD : D → Option String
  | .non => some "NoneType"
  | .bl _ => some "bool"
  | .int _ => some "int"
  | .str _ => some "str"
  | .lst _ => some "list"
  | .tup _ => some "tuple"
  | .dct _ => some "dict"
  | .scr _ => some "list"
  | .ty _ => none
  | .cls _ => none
  | .exc _ _ _ => none
  | .obj _ _ => none
  | .err _ _ => none
  | .sto _ => none
theorem ty_of {K : PySem.W.Frag} {d : D} {t : String} (h : RpV K B H v d) (s : Sbm B H) (e : tyD d = some t) : TyX K H v (.type t) := by
  cases d with
  | non => cases h; cases e; exact .base .non
  | bl b => cases h; cases e; exact .base (.bl _)
  | int i => cases h; cases e; exact .base (.int _)
  | str x => cases h; cases e; exact .base (.str _)
  | lst l => obtain ⟨a, xs, rfl, h1, _⟩ := h; cases e; exact .base (.lst h1)
  | dct l => obtain ⟨a, xs, rfl, h1, _⟩ := h; cases e; exact .base (.dK h1)
  | ty n => cases e
  | cls n => cases e
  | exc a n m => cases e
  | obj n m => cases e
  | err n m => cases e
  | sto n => cases e
  | tup l =>
    cases e
    cases h with
    | tup h1 h2 =>
      rcases h1 with h1 | ⟨o, its, n, k1, k2, _⟩
      · exact .base (.tup (s.get _ _ h1))
      · exact .kTuple k1 k2
  | scr l =>
    cases e
    cases h with
    | scr h1 =>
      rcases h1 with (h1 | ⟨o, h1⟩) | ⟨o, its, n, k1, k2, _⟩
      · exact .base (.lst (s.get _ _ h1))
      · exact .base (.frz (s.get _ _ h1))
      · exact .kList k1 k2
def tysOf : List D → Option (List String)
  | [] => some []
  | .ty n :: cs => (tysOf cs).map (n :: ·)
  | _ => none
def isiAny (t : String) : List String → Option Bool
  | [] => some false
  | n :: cs => match kitB t n with
    | some true => some true
    | some false => isiAny t cs
    | none => none
def gIsi : List D → Option Bo
  | [d, .ty n] => match tyD d with
    | some t => (kitB t n).bind bD
    | none => none
  | [d, .tup cs] => match tyD d, tysOf cs with
    | some t, some ns => (isiAny t ns).bind bD
    | _, _ => none
  | _ => none
theorem tysOf_ok {K : PySem.W.Frag} : ∀ {cs : List D} {xs : List V} {ns : List String}, RpAll K B xs cs → tysOf cs = some ns → xs = ns.map V.ty
  | [], xs, ns, h, e => by cases h; cases e; rfl
  | c :: cs, xs, ns, h, e => by
    cases h with
    | cons h1 h2 =>
      cases c with
      | ty n =>
        cases h1
        simp only [tysOf] at e
        cases q : tysOf cs with
        | none => rw [q] at e; cases e
        | some ms => rw [q] at e; cases e; rw [tysOf_ok h2 q]; rfl
      | _ => simp [tysOf] at e
theorem cls_tys : ∀ ns : List String, Paired ClsV (ns.map V.ty) (ns.map Value.type)
  | [] => .nil
  | n :: ns => .cons (.ty n) (cls_tys ns)
theorem isiAny_ok {K : PySem.W.Frag} {t : String} : ∀ {ns : List String} {b : Bool}, isiAny t ns = some b → PySem.W.kitAny K (.type t) (ns.map Value.type) = some b
  | [], b, e => by cases e; exact kitAny_nil
  | n :: ns, b, e => by
    unfold isiAny at e
    cases q : kitB t n with
    | none => simp only [q] at e; cases e
    | some k =>
      cases k with
      | true => simp only [q] at e; cases e; exact kitAny_cons (kit_ty q) (fun z => by cases z) (fun _ => rfl)
      | false => simp only [q] at e; exact kitAny_cons (kit_ty q) (fun _ => isiAny_ok e) (fun z => by cases z)
def rIsiA (K : PySem.W.Frag) : List V → Hp → VK → Prop := fun xs H Q => rIsi K xs H Q ∨ rIsiT K xs H Q ∨ rIsiK K xs H Q
theorem call_isiA : CallR X (.builtin "isinstance") (rIsiA X.K) := call_isi.or (call_isiT.or call_isiK)
theorem vals_tys : ∀ {ns : List String} {us : List Value}, Vals (ns.map V.ty) us → us = ns.map Value.type
  | [], _, h => by cases h; rfl
  | n :: ns, _, h => by
    cases h with
    | cons a b =>
      have e : _ = Value.type n := a
      rw [e, vals_tys b]
      rfl
theorem cs_isi : CallS X (rIsiA X.K) gIsi := by
  intro xs ds b e B H Q s vs k
  unfold gIsi at e
  split at e
  · rename_i d n
    split at e
    · rename_i t ht
      cases q : kitB t n with
      | none => rw [q] at e; cases e
      | some c =>
        rw [q] at e; cases e
        obtain ⟨x, y, rfl, hx, hy⟩ := rvs_two vs
        rw [rv_ty hy]
        exact .inl ⟨x, _, _, _, c, rfl, .ty n, ty_of hx s ht, kit_ty q, k _ B H .refl s (Rp.bl _)⟩
    · cases e
  · rename_i d cs
    split at e
    · rename_i t ns ht hn
      cases q : isiAny t ns with
      | none => rw [q] at e; cases e
      | some c =>
        rw [q] at e; cases e
        obtain ⟨x, y, rfl, hx, hy⟩ := rvs_two vs
        obtain ⟨a, ys, rfl, h1, h2⟩ := rv_tup hy
        have e2 := tysOf_ok h2 hn
        subst e2
        rcases h1 with h1 | ⟨o, its, n, k1, k2, k3, k4, k5⟩
        · exact .inr (.inl ⟨x, a, _, _, _, c, rfl, s.get _ _ h1, cls_tys ns, ty_of hx s ht, isiAny_ok q, k _ B H .refl s (Rp.bl _)⟩)
        · obtain ⟨oc, od, dt, sl⟩ := o
          simp only at k2 k3
          subst k2 k3
          have e3 := vals_tys k5
          refine .inr (.inr ⟨x, a, od, ns.map Value.type, n, sl, _, c, rfl, ?_, ty_of hx s ht, isiAny_ok q, k _ B H .refl s (Rp.bl _)⟩)
          rw [k1, ← e3]
    · cases e
  · cases e

/-! ### len, abs, max, min, all, any, divmod, list(text) -/
def gLen : List D → Option Bo
  | [.str x] => if x.length ≤ sizeLine then iD x.length else none
  | [.lst l] => iD l.length
  | [.tup l] => iD l.length
  | [.scr l] => iD l.length
  | _ => none
theorem cs_len : CallS X (fun xs H Q => ∃ x n, xs = [x] ∧ LenV X.K x H n ∧ Q (.int n) H) gLen := by
  intro xs ds b e B H Q s vs k
  unfold gLen at e
  split at e
  · split at e
    · cases e
      obtain ⟨x, rfl, hx⟩ := rvs_one vs
      rw [rv_str hx]
      exact ⟨_, _, rfl, ⟨by assumption, rfl⟩, k _ B H .refl s (Rp.int _)⟩
    · cases e
  · cases e
    obtain ⟨x, rfl, a, xs, rfl, h1, h2⟩ := rvs_one vs
    exact ⟨_, _, rfl, .inl ⟨xs, .of h1, rfl⟩, by rw [h2.length]; exact k _ B H .refl s (Rp.int _)⟩
  · cases e
    obtain ⟨x, rfl, hx⟩ := rvs_one vs
    obtain ⟨a, xs, rfl, h1, h2⟩ := rv_tup hx
    exact ⟨_, _, rfl, .inr ⟨xs, seqT_mono s h1, rfl⟩, by rw [h2.length]; exact k _ B H .refl s (Rp.int _)⟩
  · cases e
    obtain ⟨x, rfl, hx⟩ := rvs_one vs
    obtain ⟨a, rfl, h1⟩ := rv_scr hx
    exact ⟨_, _, rfl, .inl ⟨_, s.seq h1, rfl⟩, by rw [List.length_map]; exact k _ B H .refl s (Rp.int _)⟩
  · cases e
def gAbs : List D → Option Bo
  | [.int i] => iD (if i < 0 then -i else i)
  | _ => none
theorem cs_abs : CallS X (fun xs H Q => ∃ i, xs = [.int i] ∧ Q (.int (if i < 0 then -i else i)) H) gAbs := by
  intro xs ds b e B H Q s vs k
  unfold gAbs at e
  split at e
  · cases e
    obtain ⟨x, rfl, hx⟩ := rvs_one vs
    exact ⟨_, by rw [rv_int hx], k _ B H .refl s (Rp.int _)⟩
  · cases e
def gMax : List D → Option Bo
  | [.int i, .int j] => iD (if j > i then j else i)
  | _ => none
def gMin : List D → Option Bo
  | [.int i, .int j] => iD (if j < i then j else i)
  | _ => none
theorem cs_max : CallS X (fun xs H Q => ∃ i j, xs = [.int i, .int j] ∧ Q (.int (if j > i then j else i)) H) gMax := by
  intro xs ds b e B H Q s vs k
  unfold gMax at e
  split at e
  · cases e
    obtain ⟨x, y, rfl, hx, hy⟩ := rvs_two vs
    exact ⟨_, _, by rw [rv_int hx, rv_int hy], k _ B H .refl s (Rp.int _)⟩
  · cases e
theorem cs_min : CallS X (fun xs H Q => ∃ i j, xs = [.int i, .int j] ∧ Q (.int (if j < i then j else i)) H) gMin := by
  intro xs ds b e B H Q s vs k
  unfold gMin at e
  split at e
  · cases e
    obtain ⟨x, y, rfl, hx, hy⟩ := rvs_two vs
    exact ⟨_, _, by rw [rv_int hx, rv_int hy], k _ B H .refl s (Rp.int _)⟩
  · cases e
def blsOf : List D → Option (List Bool)
  | [] => some []
  | .bl b :: l => (blsOf l).map (b :: ·)
  | _ => none
theorem blsOf_ok : ∀ {l : List D} {bs : List Bool}, blsOf l = some bs → l = bs.map D.bl
  | [], bs, e => by cases e; rfl
  | d :: l, bs, e => by
    cases d with
    | bl b =>
      simp only [blsOf] at e
      cases q : blsOf l with
      | none => rw [q] at e; cases e
      | some cs => rw [q] at e; cases e; rw [blsOf_ok q]; rfl
    | _ => simp [blsOf] at e
def gAll : List D → Option Bo
  | [.lst l] => (blsOf l).bind fun bs => bD (bs.all id)
  | _ => none
def gAny : List D → Option Bo
  | [.lst l] => (blsOf l).bind fun bs => bD (bs.any id)
  | _ => none
theorem cs_all : CallS X (rAll X.K) gAll := by
  intro xs ds b e B H Q s vs k
  unfold gAll at e
  split at e
  · rename_i l
    cases q : blsOf l with
    | none => rw [q] at e; cases e
    | some bs =>
      rw [q] at e; cases e
      obtain ⟨x, rfl, a, xs, rfl, h1, h2⟩ := rvs_one vs
      rw [blsOf_ok q] at h2
      have := h2.bls
      subst this
      exact ⟨a, bs, rfl, .of h1, k _ B H .refl s (Rp.bl _)⟩
  · cases e
theorem cs_any : CallS X (rAny X.K) gAny := by
  intro xs ds b e B H Q s vs k
  unfold gAny at e
  split at e
  · rename_i l
    cases q : blsOf l with
    | none => rw [q] at e; cases e
    | some bs =>
      rw [q] at e; cases e
      obtain ⟨x, rfl, a, xs, rfl, h1, h2⟩ := rvs_one vs
      rw [blsOf_ok q] at h2
      have := h2.bls
      subst this
      exact ⟨a, bs, rfl, .of h1, k _ B H .refl s (Rp.bl _)⟩
  · cases e
def gDivmod : List D → Option Bo
  | [.int i, .int j] => if 0 < j ∧ Builtin.divisionGoesByPylong i j = false then some (.dt (.tup [.int (i / j), .int (i % j)])) else none
  | _ => none
theorem cs_divmod : CallS X (fun xs H Q => ∃ i j, xs = [.int i, .int j] ∧ CDivP i j ∧ ∀ p, H p = none → Q (.ref p) (upd H p (.tup [.int (i / j), .int (i % j)]))) gDivmod := by
  intro xs ds b e B H Q s vs k
  unfold gDivmod at e
  split at e
  · split at e
    · rename_i hc
      cases e
      obtain ⟨x, y, rfl, hx, hy⟩ := rvs_two vs
      refine ⟨_, _, by rw [rv_int hx, rv_int hy], hc, fun p np => ?_⟩
      exact k _ _ _ (.frozen s np) (same_both s) (Rp.tup (.inl upd_same) (.cons (.int _) (.cons (.int _) .nil)))
    · cases e
  · cases e
def rListS : List V → Hp → VK → Prop := fun xs H Q => ∃ z : Str, xs = [.str z] ∧ z.length ≤ sizeLine ∧ ∀ l, H l = none → Q (.ref l) (upd H l (.lst (z.cps.toList.map fun c => V.str ⟨#[c]⟩)))
theorem call_listS (hc : X.calm = true) : CallR X (.type "list") rListS := by
  intro pins s σ H xs us Q I r h
  obtain ⟨z, rfl, hz, q⟩ := h
  obtain ⟨u, rfl, t, rfl⟩ := vals1 r
  have hz' : z.cps.size ≤ sizeLine := hz
  refine call_list_str (I.ok.hd hc) z t (hn := hz') fun h' tk acc c hk hS hacc => ?_
  have hn : H s.heap.objs.size = none := I.hok.fresh (Nat.le_refl _)
  have rv : Vals (z.cps.toList.map fun c => V.str ⟨#[c]⟩) acc.toList := by
    refine vals_of_at (by simp [hacc.1]) fun j x u e1 e2 => ?_
    obtain ⟨c, tu, hc', rfl⟩ := hacc.2 j u (by simpa using e2)
    rw [List.getElem?_map] at e1
    have : z.cps.toList[j]? = some c := by simpa using hc'
    rw [this] at e1
    cases e1
    exact ⟨tu, rfl⟩
  refine ⟨.ref s.heap.objs.size, _, I.laid (t' := tk) (o := .lst (z.cps.toList.map fun c => V.str ⟨#[c]⟩)) hk (Nat.le_refl _) ?_, rfl, q _ hn⟩
  exact ⟨by simpa using hz', acc.toList, c, rv, by simpa using hS⟩
def gList : List D → Option Bo
  | [.str x] => if x.length ≤ sizeLine then some (.own (.lst (signs x))) else none
  | [.lst l] => some (.own (.lst l))
  | [.tup l] => some (.own (.lst l))
  | _ => none
def rListA (K : PySem.W.Frag) : List V → Hp → VK → Prop := fun xs H Q => rListS xs H Q ∨ ∃ p ys, xs = [.ref p] ∧ (SqL K H p ys ∨ SqT K H p ys) ∧ ∀ l, H l = none → Q (.ref l) (upd H l (.lst ys))
theorem call_listA (hc : X.calm = true) : CallR X (.type "list") (rListA X.K) := (call_listS hc).or call_list_of
theorem signs_rp {K : PySem.W.Frag} : ∀ l : List Nat, RpAll K B (l.map fun c => V.str ⟨#[c]⟩) (l.map fun c => D.str ⟨#[c]⟩)
  | [] => .nil
  | _ :: l => .cons (.str _) (signs_rp l)
theorem cs_list : CallS X (rListA X.K) gList := by
  intro xs ds b e B H Q s vs k
  unfold gList at e
  split at e
  · split at e
    · rename_i z hz
      cases e
      obtain ⟨x, rfl, hx⟩ := rvs_one vs
      refine .inl ⟨z, by rw [rv_str hx], hz, fun p np => ?_⟩
      exact k _ B _ (.plain np) (s.trans (same_upd np)) ⟨p, rfl, np, none_of_sub s np, ⟨_, upd_same, signs_rp _⟩⟩
    · cases e
  · cases e
    obtain ⟨x, rfl, a, xs, rfl, h1, h2⟩ := rvs_one vs
    refine .inr ⟨a, xs, rfl, .inl (.of h1), fun p np => ?_⟩
    exact k _ B _ (.plain np) (s.trans (same_upd np)) ⟨p, rfl, np, none_of_sub s np, ⟨_, upd_same, h2⟩⟩
  · cases e
    obtain ⟨x, rfl, hx⟩ := rvs_one vs
    obtain ⟨a, xs, rfl, h1, h2⟩ := rv_tup hx
    refine .inr ⟨a, xs, rfl, .inr (seqT_mono s h1), fun p np => ?_⟩
    exact k _ B _ (.plain np) (s.trans (same_upd np)) ⟨p, rfl, np, none_of_sub s np, ⟨_, upd_same, h2⟩⟩
  · cases e

/-! ### join -/
def strsOf : List D → Option (List Str)
  | [] => some []
  | .str b :: l => (strsOf l).map (b :: ·)
  | _ => none
theorem strsOf_ok : ∀ {l : List D} {bs : List Str}, strsOf l = some bs → l = bs.map D.str
  | [], bs, e => by cases e; rfl
  | d :: l, bs, e => by
    cases d with
    | str b =>
      simp only [strsOf] at e
      cases q : strsOf l with
      | none => rw [q] at e; cases e
      | some cs => rw [q] at e; cases e; rw [strsOf_ok q]; rfl
    | _ => simp [strsOf] at e
def gJoin (a : Str) : List D → Option Bo
  | [.lst l] => (strsOf l).bind fun ys => if (ys.map (·.length)).sum + ys.length * a.length ≤ 16777216 then sD (Txt.join a ys) else none
  | [.tup l] => (strsOf l).bind fun ys => if (ys.map (·.length)).sum + ys.length * a.length ≤ 16777216 then sD (Txt.join a ys) else none
  | _ => none
theorem ms_join : MtS X "str.join" gJoin := by
  refine ⟨_, mt_join, fun a xs ds b e B H Q s vs k => ?_⟩
  unfold gJoin at e
  split at e
  · rename_i l
    cases q : strsOf l with
    | none => rw [q] at e; cases e
    | some ys =>
      rw [q] at e
      have e' : (if (ys.map (·.length)).sum + ys.length * a.length ≤ 16777216 then sD (Txt.join a ys) else none) = some b := e
      split at e'
      · cases e'
        obtain ⟨x, rfl, p, xs, rfl, h1, h2⟩ := rvs_one vs
        rw [strsOf_ok q] at h2
        have := h2.strs
        subst this
        exact ⟨a, p, ys, rfl, rfl, .inl (.of h1), by assumption, k _ B H .refl s (Rp.str _)⟩
      · cases e'
  · rename_i l
    cases q : strsOf l with
    | none => rw [q] at e; cases e
    | some ys =>
      rw [q] at e
      have e' : (if (ys.map (·.length)).sum + ys.length * a.length ≤ 16777216 then sD (Txt.join a ys) else none) = some b := e
      split at e'
      · cases e'
        obtain ⟨x, rfl, hx⟩ := rvs_one vs
        obtain ⟨p, xs, rfl, h1, h2⟩ := rv_tup hx
        rw [strsOf_ok q] at h2
        have := h2.strs
        subst this
        exact ⟨a, p, ys, rfl, rfl, .inr (seqT_mono s h1), by assumption, k _ B H .refl s (Rp.str _)⟩
      · cases e'
  · cases e
end
end Lc

set_option Elab.async false
set_option maxRecDepth 100000
set_option maxHeartbeats 4000000
/-! Part L: repr of data. -/
namespace Lc
open PySem L2 PySem.Spec PyProof.Rows
mutual
/-- no type, no script inside -/
def D.shw : D → Bool
  | .lst l => D.shws l
  | .tup l => D.shws l
  | .dct l => D.shwk l
  | .ty _ => false
  | .scr _ => false
  | .cls _ => false
  | .exc _ _ _ => false
  | .obj _ _ => false
  | .err _ _ => false
  | .sto _ => false
  | _ => true
def D.shws : List D → Bool
  | [] => true
  | d :: ds => d.shw && D.shws ds
def D.shwk : List (D × D) → Bool
  | [] => true
  | (k, v) :: ds => k.shw && v.shw && D.shwk ds
end
mutual
theorem D.shw_nm : ∀ d : D, d.shw = true → d.nm = true
  | .non, _ => rfl
  | .bl _, _ => rfl
  | .int _, _ => rfl
  | .str _, _ => rfl
  | .ty _, h => by simp [D.shw] at h
  | .scr _, h => by simp [D.shw] at h
  | .cls _, h => by simp [D.shw] at h
  | .exc _ _ _, h => by simp [D.shw] at h
  | .obj _ _, h => by simp [D.shw] at h
  | .err _ _, h => by simp [D.shw] at h
  | .sto _, h => by simp [D.shw] at h
  | .dct l, h => by
    simp only [D.shw] at h
    simp only [D.nm]
    exact D.shwk_nm l h
  | .lst l, h => by
    simp only [D.shw] at h
    simp only [D.nm]
    exact D.shws_nm l h
  | .tup l, h => by
    simp only [D.shw] at h
    simp only [D.nm]
    exact D.shws_nm l h
theorem D.shws_nm : ∀ l : List D, D.shws l = true → D.nms l = true
  | [], _ => rfl
  | d :: l, h => by
    simp only [D.shws, Bool.and_eq_true] at h
    simp only [D.nms, Bool.and_eq_true]
    exact ⟨D.shw_nm d h.1, D.shws_nm l h.2⟩
theorem D.shwk_nm : ∀ l : List (D × D), D.shwk l = true → D.nmk l = true
  | [], _ => rfl
  | (k, d) :: l, h => by
    simp only [D.shwk, Bool.and_eq_true] at h
    simp only [D.nmk, Bool.and_eq_true]
    exact ⟨D.shw_nm d h.1.2, D.shwk_nm l h.2⟩
end
theorem keyIs_key {k : Key} {d : D} {u : Value} {h : Heap} (hk : KeyD k d) (h1 : keyIs k u = true) : Reads h u d.py [] := by
  rcases keyIs_shape h1 with ⟨i, t, rfl, rfl⟩ | ⟨x, t, rfl, rfl⟩
  · cases d <;> simp only [KeyD] at hk
    subst hk
    rw [D.py]
    exact .int _ _
  · cases d <;> simp only [KeyD] at hk
    subst hk
    rw [D.py]
    exact .str _ _
section
variable {P : Program} {w : World} {K : PySem.W.Frag} {B : Hp} {h : Heap}
theorem pyk_1 : ∀ l : List (D × D), (D.pyk l).map (·.1) = D.pys (l.map (·.1))
  | [] => by rw [D.pyk]; rfl
  | (k, v) :: r => by rw [D.pyk, List.map_cons, List.map_cons, D.pys, pyk_1 r]
theorem pyk_2 : ∀ l : List (D × D), (D.pyk l).map (·.2) = D.pys (l.map (·.2))
  | [] => by rw [D.pyk]; rfl
  | (k, v) :: r => by rw [D.pyk, List.map_cons, List.map_cons, D.pys, pyk_2 r]
theorem keys_read : ∀ (ds : List (D × D)) {es : List DictEntry} {ks : List (Key × V)} {vs : List (Key × Value)}, Pairs (mixKind P w) es vs → KV ks vs → RpKv K B ks ds → ReadsAll h (es.map (·.key)) ((D.pyk ds).map (·.1)) []
  | [], _, _, _, p, r, x => by
    cases x; cases r; cases p
    rw [D.pyk]
    exact .nil
  | (d, e) :: ds, _, _, _, p, r, x => by
    cases x with
    | cons k1 v1 kr =>
      cases r with
      | cons r1 r2 =>
        cases p with
        | cons p1 p2 p3 =>
          rw [D.pyk]
          have e1 := r1.1
          refine .cons (as := []) (bs := []) (keyIs_key k1 ?_) (keys_read ds p3 r2 kr)
          simp only at e1
          rw [e1]
          exact p1
mutual
theorem Rp.reads (hok : HOk P w B h) (KX : K.In h) (hsy : ∀ a o, B a = some o → a ≠ sysModules) : ∀ (d : D) (v : V) (u : Value), Rp K B v d → RelV v u → d.shw = true → ∃ as, Reads h u d.py as ∧ sysModules ∉ as
  | .non, _, _, x, r, _ => by
    cases x; cases r
    rw [D.py]
    exact ⟨_, .none, by simp⟩
  | .bl b, _, _, x, r, _ => by
    cases x; cases r
    rw [D.py]
    exact ⟨_, .bool b, by simp⟩
  | .int i, _, _, x, r, _ => by
    cases x
    obtain ⟨t, rfl⟩ := r
    rw [D.py]
    exact ⟨_, .int i t, by simp⟩
  | .str i, _, _, x, r, _ => by
    cases x
    obtain ⟨t, rfl⟩ := r
    rw [D.py]
    exact ⟨_, .str i t, by simp⟩
  | .ty n, _, _, _, _, q => by simp [D.shw] at q
  | .scr n, _, _, _, _, q => by simp [D.shw] at q
  | .cls n, _, _, _, _, q => by simp [D.shw] at q
  | .exc _ _ _, _, _, _, _, q => by simp [D.shw] at q
  | .obj n m, _, _, _, _, q => by simp [D.shw] at q
  | .err n m, _, _, _, _, q => by simp [D.shw] at q
  | .sto n, _, _, _, _, q => by simp [D.shw] at q
  | .lst ds, _, _, x, r, q => by
    cases x with
    | lst hs ha =>
      cases r
      obtain ⟨its, o, n, rv, ho, hc, hd⟩ := sqL_at hok KX (.of hs)
      obtain ⟨as, hr, hn⟩ := RpAll.reads hok KX hsy ds _ its ha rv (by simpa [D.shw] using q)
      rw [D.py]
      refine ⟨_, .list ho hc hd hr, fun z => ?_⟩
      rcases List.mem_cons.mp z with z | z
      · exact hsy _ _ hs z.symm
      · exact hn z
  | .tup ds, _, _, x, r, q => by
    cases x with
    | tup hs ha =>
      cases r
      obtain ⟨its, o, n, rv, ho, hc, hd⟩ := sqT_at hok KX (hs.sq)
      obtain ⟨as, hr, hn⟩ := RpAll.reads hok KX hsy ds _ its ha rv (by simpa [D.shw] using q)
      rw [D.py]
      exact ⟨_, .tuple ho hc hd hr, hn⟩
  | .dct ds, _, _, x, r, q => by
    cases x with
    | dct hs ha =>
      cases r
      obtain ⟨_, hsm, vs, kv, o, es, ep, e1, e2, e3, _, pr, _⟩ := hok _ _ hs
      obtain ⟨bs, hr, hn'⟩ := RpKv.reads hok KX hsy ds _ vs es.toList ha kv pr (by simpa [D.shw] using q)
      have hk := keys_read (h := h) ds pr kv ha
      rw [D.py]
      refine ⟨_, .dict e1 e2.1 e3 hk hr, ?_⟩
      simp only [List.cons_append, List.nil_append, List.mem_cons, not_or]
      exact ⟨fun e => by rw [e] at hsm; simp at hsm, hn'⟩
theorem RpAll.reads (hok : HOk P w B h) (KX : K.In h) (hsy : ∀ a o, B a = some o → a ≠ sysModules) : ∀ (ds : List D) (vs : List V) (us : List Value), RpAll K B vs ds → Vals vs us → D.shws ds = true → ∃ as, ReadsAll h us (D.pys ds) as ∧ sysModules ∉ as
  | [], _, _, x, r, _ => by
    cases x; cases r
    rw [D.pys]
    exact ⟨_, .nil, by simp⟩
  | d :: ds, _, _, x, r, q => by
    cases x with
    | cons h1 h2 =>
      cases r with
      | cons r1 r2 =>
        simp only [D.shws, Bool.and_eq_true] at q
        obtain ⟨as, q1, n1⟩ := Rp.reads hok KX hsy d _ _ h1 r1 q.1
        obtain ⟨bs, q2, n2⟩ := RpAll.reads hok KX hsy ds _ _ h2 r2 q.2
        rw [D.pys]
        refine ⟨_, .cons q1 q2, ?_⟩
        simp only [List.mem_append, not_or]
        exact ⟨n1, n2⟩
theorem RpKv.reads (hok : HOk P w B h) (KX : K.In h) (hsy : ∀ a o, B a = some o → a ≠ sysModules) : ∀ (ds : List (D × D)) (ks : List (Key × V)) (vs : List (Key × Value)) (es : List DictEntry), RpKv K B ks ds → KV ks vs → Pairs (mixKind P w) es vs → D.shwk ds = true → ∃ as, ReadsAll h (es.map (·.val)) ((D.pyk ds).map (·.2)) as ∧ sysModules ∉ as
  | [], _, _, _, x, r, p, _ => by
    cases x; cases r; cases p
    rw [D.pyk]
    exact ⟨_, .nil, by simp⟩
  | (k, d) :: ds, _, _, _, x, r, p, q => by
    cases x with
    | cons k1 h1 h2 =>
      cases r with
      | cons r1 r2 =>
        cases p with
        | cons p1 p2 p3 =>
          simp only [D.shwk, Bool.and_eq_true] at q
          obtain ⟨as, q1, n1⟩ := Rp.reads hok KX hsy d _ _ h1 (p2 ▸ r1.2) q.1.2
          obtain ⟨bs, q2, n2⟩ := RpKv.reads hok KX hsy ds _ _ _ h2 r2 p3 q.2
          rw [D.pyk]
          refine ⟨_, .cons q1 q2, ?_⟩
          simp only [List.mem_append, not_or]
          exact ⟨n1, n2⟩
end
end

/-! ### repr -/
def D.shown (d : D) : Str := d.py.shown
def D.rok (d : D) : Bool := d.shw && d.py.showable && decide (d.py.depth ≤ 64) && decide (d.shown.length ≤ sizeLine)
theorem rok_shw {d : D} (h : d.rok = true) : d.shw = true := by simp only [D.rok, Bool.and_eq_true] at h; exact h.1.1.1
def gRepr : List D → Option Bo
  | [d] => if d.rok = true then sD d.shown else none
  | _ => none
def rRepr (K : PySem.W.Frag) : List V → Hp → VK → Prop := fun xs H Q => ∃ x d, xs = [x] ∧ Rp K H x d ∧ d.rok = true ∧ Q (.str d.shown) H
section
variable {X : Cx}
theorem call_repr (hsm : ∃ o, X.K.lookup sysModules = some o) (hg : X.A.guards = some []) (hu : X.A.units + 80 < cLine) : CallR X (.builtin "repr") (rRepr X.K) := by
  intro pins s σ H xs us Q I r h
  obtain ⟨x, d, rfl, hx, hd, q⟩ := h
  obtain ⟨u, rfl, ru⟩ := vals1 r
  simp only [D.rok, Bool.and_eq_true, decide_eq_true_eq] at hd
  obtain ⟨⟨⟨q1, q2⟩, q4⟩, q5⟩ := hd
  have hsy : ∀ a o, H a = some o → a ≠ sysModules := fun a o e z => by
    obtain ⟨ob, ho⟩ := hsm
    have := (I.bs _ _ (I.ok.mod.kin _ _ ho)).2
    rw [← z, e] at this
    cases this
  obtain ⟨as, hr, hn⟩ := Rp.reads I.hok I.kIn hsy d x u hx ru q1
  have deep : ∀ a, u = .ref a → wpAny (model X.prog X.w) X.A (call (.builtin "repr") [u]) (EP X pins σ Q) X.xe s := by
    rintro a rfl
    refine repr_of_reads' hr q2 (fun _ => hn) hg (by omega) (fun _ _ e => e) (fun h' u tk hk => ⟨.str _, H, I.kept hk, ⟨_, rfl⟩, q⟩) q5
  cases hx with
  | non =>
    cases ru
    simp only [D.shown, D.py, PyData.shown] at q
    exact PySem.P.repr_of_none ⟨.str _, H, I.tok _, ⟨_, rfl⟩, q⟩
  | bl b =>
    cases ru
    simp only [D.shown, D.py, PyData.shown] at q
    exact PySem.P.repr_of_bool ⟨.str _, H, I.tok _, ⟨_, rfl⟩, q⟩
  | int i =>
    obtain ⟨t, rfl⟩ := ru
    simp only [D.shown, D.py, PyData.shown] at q
    exact PySem.P.repr_of_int (by simpa [D.py, PyData.showable] using q2) ⟨.str _, H, I.tok _, ⟨_, rfl⟩, q⟩
  | str i =>
    obtain ⟨t, rfl⟩ := ru
    simp only [D.shown, D.py, PyData.shown] at q q5
    exact PySem.P.repr_of_str ⟨.str _, H, I.tok _, ⟨_, rfl⟩, q⟩ q5
  | ty n => simp [D.shw] at q1
  | scr _ => simp [D.shw] at q1
  | cls _ => simp [D.shw] at q1
  | exc _ _ => simp [D.shw] at q1
  | obj _ _ _ _ => simp [D.shw] at q1
  | err _ _ _ _ => simp [D.shw] at q1
  | sto _ => simp [D.shw] at q1
  | lst _ _ => cases ru; exact deep _ rfl
  | tup _ _ => cases ru; exact deep _ rfl
  | dct _ _ => cases ru; exact deep _ rfl
theorem cs_repr : CallS X (rRepr X.K) gRepr := by
  intro xs ds b e B H Q s vs k
  unfold gRepr at e
  split at e
  · split at e
    · cases e
      obtain ⟨x, rfl, hx⟩ := rvs_one vs
      exact ⟨x, _, rfl, hx.whole s (D.shw_nm _ (rok_shw (by assumption))), by assumption, k _ B H .refl s (Rp.str _)⟩
    · cases e
  · cases e
end
end Lc

set_option Elab.async false
set_option maxRecDepth 100000
set_option maxHeartbeats 4000000
/-! Part M: calls of defs, by names too; reversed texts; dict displays; a pair of names. -/
namespace Lc
open PySem L2 PySem.Spec PyProof.Rows
section
variable {X : Cx} {Wx : WX} {k : Nat} {f : Addr} {fd : FuncData} {ps : List Str} {F : FnS} {x : Str} {p pos kpos : Pos} {e : Expr} {es : List Expr} {kws : List Keyword} {fa fe : M W} {g : M (List W)} {nm : Option Str}
/-- how many values -/
def ArgN (f : M (List W)) (n : Nat) : Prop := ∀ ws r r', f r = .ok ws r' → ws.length = n
theorem argn_nil : ArgN (M.ret []) 0 := fun ws r r' h => by cases h; rfl
theorem argn_cons {n : Nat} (h : ArgN g n) : ArgN (cCons fe g) (n + 1) := fun ws r r' e => by
  unfold cCons M.bind at e
  cases e1 : fe r with
  | fail => rw [e1] at e; cases e
  | exc _ _ => rw [e1] at e; cases e
  | ok w r1 =>
    rw [e1] at e
    cases e2 : g r1 with
    | fail => simp only [e2] at e; cases e
    | exc _ _ => simp only [e2] at e; cases e
    | ok ws' r2 =>
      simp only [e2] at e
      cases e
      rw [List.length_cons, h _ _ _ e2]
theorem de_call (G : FnT X.prog X.w X.K X.mg X.base k f fd ps F) (hr : Room k X.A) (hgu : X.A.guards = some []) (hg : Gl X x) (hm : X.mg x = some (.ref f)) (hk : PySem.W.keepIn X.K (.ref f) = true) (hb : Binds X.K fd ps [])
    (ha : DA X (e :: es) g) (hn : ArgN g ps.length) (hdb : (x == ("__debug__" : Str)) = false) (he : starEach (e :: es) X.env = (false, eval e X.env) :: starEach es X.env) (hpl : (backTo pos (starEach es X.env)).any (·.1) = false) :
    DE X (.Call (.Name x p) (e :: es) [] pos) (cCallT F g) := by
  refine ⟨fun Wx tk => ?_⟩
  obtain ⟨t, pt, qt⟩ := ha.run Wx tk
  exact ⟨_, pe_callG G hr hgu hg hm hk hb tk pt hdb he hpl, fun vs B σ H r Q R h => Post.call R qt hn h⟩
theorem de_call0 (G : FnT X.prog X.w X.K X.mg X.base k f fd [] F) (hr : Room k X.A) (hgu : X.A.guards = some []) (hg : Gl X x) (hm : X.mg x = some (.ref f)) (hk : PySem.W.keepIn X.K (.ref f) = true) (hb : Binds X.K fd [] [])
    (hdb : (x == ("__debug__" : Str)) = false) : DE X (.Call (.Name x p) [] [] pos) (cCallT F (M.ret [])) := by
  refine ⟨fun Wx tk => ?_⟩
  obtain ⟨t, pt, qt⟩ := (da_nil (X := X)).run Wx tk
  exact ⟨_, pe_callG0 G hr hgu hg hm hk hb tk hdb, fun vs B σ H r Q R h => Post.call (t := tNil) (fa := M.ret []) R (fun vs B σ H r Q R h => h [] B H .refl R RpWs.nil) argn_nil h⟩

/-! ### arguments by names -/
structure DK (X : Cx) (kws : List Keyword) (f : M (List W)) : Prop where
  run : ∀ Wx, Takes X Wx → ∃ t, PK X kws t ∧ ∀ vs B σ H r Q, Rl X.K vs B σ H r → Post X vs Wx B H σ r (f r) (fA X vs σ H) Q → t σ H Q
theorem dk_nil : DK X [] (M.ret []) := ⟨fun _ _ => ⟨_, pk_nil, fun _ B _ H _ _ R h => h [] B H .refl R RpWs.nil⟩⟩
theorem dk_cons (he : DE X e fe) (hr : DK X kws g) : DK X (⟨nm, e, kpos⟩ :: kws) (cCons fe g) := by
  refine ⟨fun Wx tk => ?_⟩
  obtain ⟨ta, pa, qa⟩ := he.run Wx tk
  obtain ⟨tb, pb, qb⟩ := hr.run Wx tk
  refine ⟨_, pk_cons pa pb, fun vs B σ H r Q R h => qa vs B σ H r _ R (Post.bind0 h fun x w B1 H1 r1 s1 R1 q1 h1 => ?_)⟩
  have h1' := Post.shift (F := fA X vs σ) back_A s1 h1
  refine qb vs B1 σ H1 r1 _ R1 ?_
  cases hg : g r1 with
  | fail => simp only [M.bind, hg] at h1; exact h1.elim
  | exc y r2 =>
    simp only [M.bind, hg] at h1
    exact fun cl dd B2 H2 s2 R2 f2 => h1 cl dd B2 H2 (s1.trans s2) R2 f2
  | ok ws r2 =>
    simp only [M.bind, hg] at h1
    intro xs B2 H2 s2 R2 f2
    refine h1 (x :: xs) B2 H2 (s1.trans s2) R2 (RpWs.cons (RpW.stp q1 s2) (RpWs.back s1.dom f2) fun i y u e1 e2 ⟨a, c, c', g1, g2, g3, g4⟩ => ?_)
    have q2 := RpWs.get f2 e1 e2
    subst g1 g2 g3 g4
    obtain ⟨a1, k1, _, _, k4, _⟩ := q1
    obtain ⟨a2, m1, m2, _⟩ := q2
    cases k1; cases m1
    obtain ⟨o, ho⟩ := k4.some
    rw [m2] at ho; cases ho
/-- f(k = e, ..), the names in the parameters' order -/
theorem pe_callGK (G : FnT X.prog X.w X.K X.mg X.base k f fd ps F) (hr : Room k X.A) (hgu : X.A.guards = some []) (hg : Gl X x) (hm : X.mg x = some (.ref f)) (hk : PySem.W.keepIn X.K (.ref f) = true)
    (hb : ∀ (s : Shared) (ws : List Value), X.K.In s.heap → ws.length = ps.length → BindsTo s fd ⟨[], ps.zip ws⟩ (ps.zip ws)) (tk : Takes X Wx) {t : TA}
    (ha : PK X kws t) (hdb : (x == ("__debug__" : Str)) = false) (hall : (backToKw pos (keywordEach kws X.env)).all (·.1.isSome) = true) (hks : (backToKw pos (keywordEach kws X.env)).filterMap (·.1) = ps)
    (hpl : ((backTo pos (starEach [] X.env)).any (·.1) || (backToKw pos (keywordEach kws X.env)).any (·.1.isNone)) = false) :
    PE X (.Call (.Name x p) [] kws pos) (tCallG Wx (spG X.K X.mg ps.length F) t) := by
  refine ⟨fun pins s σ H Q I h => wpAny_Call_Name_kw (ld_glob I hg hm ?_ hdb)⟩
  refine PySem.W.callWith_KW0 (h₀ := X.base) I.ok.mod.kin hk hall (thn (ha.run pos pins s σ H _ I h) fun us s1 ⟨vs, H1, I1, rv, q⟩ => ⟨I1.kIn, ?_⟩) hpl
  rw [hks]
  have hl : us.length = ps.length := by rw [← rv.length]; exact q.1
  exact wpAny_call (codeAny_mono (run_fnG G hr hgu (hb s1 us I1.kIn hl) tk I1 rv q) fun res s2 hq => by
    cases res with
    | error u => exact hq
    | ok fl => cases fl <;> exact hq)
theorem de_callK (G : FnT X.prog X.w X.K X.mg X.base k f fd ps F) (hr : Room k X.A) (hgu : X.A.guards = some []) (hg : Gl X x) (hm : X.mg x = some (.ref f)) (hk : PySem.W.keepIn X.K (.ref f) = true)
    (hb : ∀ (s : Shared) (ws : List Value), X.K.In s.heap → ws.length = ps.length → BindsTo s fd ⟨[], ps.zip ws⟩ (ps.zip ws))
    (ha : DK X kws g) (hn : ArgN g ps.length) (hdb : (x == ("__debug__" : Str)) = false) (hall : (backToKw pos (keywordEach kws X.env)).all (·.1.isSome) = true) (hks : (backToKw pos (keywordEach kws X.env)).filterMap (·.1) = ps)
    (hpl : ((backTo pos (starEach [] X.env)).any (·.1) || (backToKw pos (keywordEach kws X.env)).any (·.1.isNone)) = false) :
    DE X (.Call (.Name x p) [] kws pos) (cCallT F g) := by
  refine ⟨fun Wx tk => ?_⟩
  obtain ⟨t, pt, qt⟩ := ha.run Wx tk
  exact ⟨_, pe_callGK G hr hgu hg hm hk hb tk pt hdb hall hks hpl, fun vs B σ H r Q R h => Post.call R qt hn h⟩

/-! ### e[::-1] -/
def revS (x : Str) : Str := ⟨((slicePicked x none none (some (-1, 0))).filterMap (x.cps[·]?)).toArray⟩
def tRevS (te : TE) : TE := fun σ H Q => te σ H fun x H1 => ∃ y, x = .str y ∧ (revS y).length ≤ sizeLine ∧ Q (.str (revS y)) H1
theorem pe_or {t u : TE} (h1 : PE X e t) (h2 : PE X e u) : PE X e (fun σ H Q => t σ H Q ∨ u σ H Q) := ⟨fun pins s σ H Q I h => h.elim (h1.run pins s σ H Q I) (h2.run pins s σ H Q I)⟩
theorem pe_revS {te : TE} {k : Nat} {p1 p2 p3 pos : Pos} (he : PE X e te) : PE X (.Subscript e (.Slice none none (some (.UnaryOp .USub (.Constant (.int 1) k p1) p2)) p3) pos) (tRevS te) := by
  refine ⟨fun pins s σ H Q I h => ?_⟩
  refine Subscript_ (thn (he.run pins s σ H _ I h) fun v s1 ⟨x, H1, I1, r1, q1⟩ => ?_)
  obtain ⟨y, ex, hz, q⟩ := q1
  subst ex
  obtain ⟨tk, rfl⟩ := r1
  have hst : PO X (some (.UnaryOp .USub (.Constant (.int 1) k p1) p2)) (tPart (tUn (rU fun i => .int (-i)) (tC (.int 1)))) := po_some (pe_un un_neg pe_int)
  refine wpAny_Slice (thn (po_none.run pins s1 σ H1 (fun o H2 => o = none ∧ H2 = H1) I1 ⟨rfl, rfl⟩) fun vl s2 ⟨l, H2, I2, pl, el, e2⟩ => ?_)
  subst el e2
  refine thn (po_none.run pins s2 σ H2 (fun o H3 => o = none ∧ H3 = H2) I2 ⟨rfl, rfl⟩) fun vu s3 ⟨u, H3, I3, pu, eu, e3⟩ => ?_
  subst eu e3
  refine thn (hst.run pins s3 σ H3 (fun o H4 => o = some (-1) ∧ H4 = H3) I3 ⟨1, rfl, -1, rfl, rfl, rfl⟩) fun vs s4 ⟨o, H4, I4, ps, eo, e4⟩ => ?_
  subst eo e4
  cases pl
  cases pu
  cases ps with
  | int i tk2 =>
    have I5 : Inv X pins σ H4 { s4 with heap := s4.heap.push { cls := .type "slice", data := .fields #[.none, .none, .int (-1) tk2] } } := I4.kept (t' := s4.toks) fun b ob q => Heap.get?_push_of_some _ q
    show wpAny (model X.prog X.w) X.A (subscriptTail e (.Slice none none (some (.UnaryOp .USub (.Constant (.int 1) k p1) p2)) p3) (.str y tk) (.ref s4.heap.objs.size)) (EP X pins σ Q) X.xe { s4 with heap := s4.heap.push { cls := .type "slice", data := .fields #[.none, .none, .int (-1) tk2] } }
    refine tail_any (ops := [.str y tk, .ref s4.heap.objs.size]) (typeIs_str _ _ _) (F.slot_str_getitem.lookup) ?_ (by with_unfolding_all rfl)
    refine wpAny_getItem_str_slice (l := none) (u := none) (st := some (-1, tk2)) ⟨_, Heap.get?_push_size _ rfl, rfl, rfl⟩ rfl ?_
    exact ⟨hz, .str _, H4, I5.tok _, ⟨_, rfl⟩, q⟩
def gRev : D → Option Bo
  | .str y => if (revS y).length ≤ sizeLine then some (.dt (.str (revS y))) else none
  | .lst l => some (.own (.lst l.reverse))
  | _ => none
theorem de_rev {k : Nat} {p1 p2 p3 pos : Pos} (he : DE X e fe) : DE X (.Subscript e (.Slice none none (some (.UnaryOp .USub (.Constant (.int 1) k p1) p2)) p3) pos) (cOp1 gRev fe) := by
  refine ⟨fun Wx tk => ?_⟩
  obtain ⟨t, pt, qt⟩ := he.run Wx tk
  refine ⟨_, pe_or (pe_revS pt) (pe_revL pt), fun vs B σ H r Q R h => ?_⟩
  cases ef : fe r with
  | fail => simp only [cOp1, M.bind, ef] at h; exact h.elim
  | exc y r1 =>
    simp only [cOp1, M.bind, ef] at h
    exact .inl (qt vs B σ H r _ R (by rw [ef]; exact h))
  | ok w r1 =>
    simp only [cOp1, M.bind, ef] at h
    cases ev : w.view r1 with
    | none => simp only [M.view, ev] at h; exact h.elim
    | some d =>
      simp only [M.view, ev] at h
      cases eg : gRev d with
      | none => rw [eg] at h; exact h.elim
      | some b =>
        rw [eg] at h
        have fin : ∀ (v : V) (B1 H1 : Hp), Stp vs B H σ r B1 H1 σ r1 → Rl X.K vs B1 σ H1 r1 → ∀ (v' : V) (B' H' : Hp), Ext B1 H1 B' H' → Sbm B' H' → RpB X.K H1 B' H' v' b → Q v' H' := fun v B1 H1 s1 R1 v' B' H' ex sm q => by
          have h' : Post X vs Wx B H σ r (.ok b.toW r1) (fW X vs σ H) Q := h
          exact h' v' B' H' (s1.ext ex) (R1.ext ex sm) (q.toW R1 fun _ z => s1.dom _ z)
        unfold gRev at eg
        split at eg
        · split at eg
          · cases eg
            refine .inl (qt vs B σ H r _ R ?_)
            rw [ef]
            intro v B1 H1 s1 R1 q1
            have vd := RpW.view R1 q1 ev
            exact ⟨_, rv_str vd, by assumption, fin v B1 H1 s1 R1 _ B1 H1 .refl R1.sub (Rp.str _)⟩
          · cases eg
        · cases eg
          refine .inr (qt vs B σ H r _ R ?_)
          rw [ef]
          intro v B1 H1 s1 R1 q1
          obtain ⟨a, xs, rfl, h1, h2⟩ := RpW.view R1 q1 ev
          refine ⟨a, xs, rfl, .of h1, fun p np => ?_⟩
          exact fin .non B1 H1 s1 R1 _ B1 _ (.plain np) (R1.sub.trans (same_upd np)) ⟨p, rfl, np, none_of_sub R1.sub np, ⟨_, upd_same, h2.reverse⟩⟩
        · cases eg
end
end Lc

set_option Elab.async false
set_option maxRecDepth 100000
set_option maxHeartbeats 4000000
/-! Part N: dict displays; a pair of names takes a pair. -/
namespace Lc
open PySem L2 PySem.Spec PyProof.Rows
section
variable {X : Cx} {Wx : WX} {pos kpos : Pos} {e a b : Expr} {es : List Expr} {fe fk fv : M W} {g : M (List W)}
def cDct0 : M W := M.ret (.fresh (.dct []))
theorem de_dct0 : DE X (.Dict [] [] pos) cDct0 := ⟨fun _ _ => ⟨_, pe_dnewK, fun vs B σ H r Q R h p np => by
  have ex : Ext B H B (upd H p (.dK [])) := .plain np
  have sm : Sbm B (upd H p (.dK [])) := R.sub.trans ex.keep
  exact h (.ref p) B _ ex.stp (R.ext ex sm) ⟨p, rfl, np, none_of_sub R.sub np, ⟨[], upd_same, .nil⟩, R.notOwn np⟩⟩⟩
theorem read_cons {ta : TE} {tb : TA} (qa : ∀ vs B σ H r Q, Rl X.K vs B σ H r → Post X vs Wx B H σ r (fe r) (fW X vs σ H) Q → ta σ H Q) (qb : ∀ vs B σ H r Q, Rl X.K vs B σ H r → Post X vs Wx B H σ r (g r) (fA X vs σ H) Q → tb σ H Q) :
    ∀ vs B σ H r Q, Rl X.K vs B σ H r → Post X vs Wx B H σ r (cCons fe g r) (fA X vs σ H) Q → tCons ta tb σ H Q := by
  intro vs B σ H r Q R h
  refine qa vs B σ H r _ R (Post.bind0 h fun x w B1 H1 r1 s1 R1 q1 h1 => ?_)
  have h1' := Post.shift (F := fA X vs σ) back_A s1 h1
  refine qb vs B1 σ H1 r1 _ R1 ?_
  cases hg : g r1 with
  | fail => simp only [M.bind, hg] at h1; exact h1.elim
  | exc y r2 =>
    simp only [M.bind, hg] at h1
    exact fun cl dd B2 H2 s2 R2 f2 => h1 cl dd B2 H2 (s1.trans s2) R2 f2
  | ok ws r2 =>
    simp only [M.bind, hg] at h1
    intro xs B2 H2 s2 R2 f2
    refine h1 (x :: xs) B2 H2 (s1.trans s2) R2 (RpWs.cons (RpW.stp q1 s2) (RpWs.back s1.dom f2) fun i y u e1 e2 ⟨a, c, c', g1, g2, g3, g4⟩ => ?_)
    have q2 := RpWs.get f2 e1 e2
    subst g1 g2 g3 g4
    obtain ⟨a1, k1, _, _, k4, _⟩ := q1
    obtain ⟨a2, m1, m2, _⟩ := q2
    cases k1; cases m1
    obtain ⟨o, ho⟩ := k4.some
    rw [m2] at ho; cases ho
def tAll : List (TE × TE) → TA
  | [] => tNil
  | (a, b) :: r => tCons a (tCons b (tAll r))
def pairUp : List V → List (V × V)
  | x :: y :: r => (x, y) :: pairUp r
  | _ => []
theorem tPairs_all : ∀ (trs : List (TE × TE)) (σ : L2.St) (H : Hp) (Q : List (V × V) → Hp → Prop), tPairs trs σ H Q = tAll trs σ H (fun vs H' => Q (pairUp vs) H')
  | [], σ, H, Q => rfl
  | (a, b) :: r, σ, H, Q => by
    show (a σ H fun x H1 => b σ H1 fun y H2 => tPairs r σ H2 fun ps H3 => Q ((x, y) :: ps) H3) = (a σ H fun x H1 => b σ H1 fun y H2 => tAll r σ H2 fun vs H3 => Q (pairUp (x :: y :: vs)) H3)
    congr 1
    funext x H1
    congr 1
    funext y H2
    rw [tPairs_all r σ H2]
    rfl
structure DP (X : Cx) (pos : Pos) (keys : List (Option Expr)) (values : List Expr) (f : M (List W)) : Prop where
  run : ∀ Wx, Takes X Wx → ∃ trs, PPs X pos keys values trs ∧ ∀ vs B σ H r Q, Rl X.K vs B σ H r → Post X vs Wx B H σ r (f r) (fA X vs σ H) Q → tAll trs σ H Q
theorem dp_nil : DP X pos [] [] (M.ret []) := ⟨fun _ _ => ⟨_, pps_nil, fun _ B _ H _ _ R h => h [] B H .refl R RpWs.nil⟩⟩
theorem dp_cons {k v : Expr} {ks : List (Option Expr)} {vals : List Expr} (hk : DE X k fk) (hv : DE X v fv) (hr : DP X pos ks vals g) : DP X pos (some k :: ks) (v :: vals) (cCons fk (cCons fv g)) := by
  refine ⟨fun Wx tk => ?_⟩
  obtain ⟨ta, pa, qa⟩ := hk.run Wx tk
  obtain ⟨tb, pb, qb⟩ := hv.run Wx tk
  obtain ⟨tc, pc, qc⟩ := hr.run Wx tk
  exact ⟨_, pps_cons pa pb pc, read_cons qa (read_cons qb qc)⟩
/-! ### data as keys -/
def D.key : D → Option Key
  | .int i => some (.inl i)
  | .str x => some (.inr x)
  | _ => none
def keyD : Key → D
  | .inl i => .int i
  | .inr x => .str x
theorem key_rp {K : PySem.W.Frag} {B : Hp} {v : V} {d : D} {k : Key} (h : Rp K B v d) (e : d.key = some k) : v = kV k ∧ KeyD k d := by
  cases h <;> simp only [D.key, Option.some.injEq, reduceCtorEq] at e
  · subst e; exact ⟨rfl, rfl⟩
  · subst e; exact ⟨rfl, rfl⟩
/-- the pairs that a display writes -/
def pairsD : List D → Option (List (Key × D))
  | [] => some []
  | k :: v :: r => match k.key, pairsD r with
    | some k, some l => some ((k, v) :: l)
    | _, _ => none
  | [_] => none
def putD (l : List (D × D)) (k : Key) (v : D) : List (D × D) :=
  if (l.any fun kv => decide (kv.1.key = some k)) = true then l.map (fun kv => if kv.1.key = some k then (kv.1, v) else kv) else l ++ [(keyD k, v)]
def mergeD (l : List (D × D)) (more : List (Key × D)) : List (D × D) := more.foldl (fun acc kv => putD acc kv.1 kv.2) l
theorem keyD_key {k : Key} {d : D} (h : KeyD k d) : d.key = some k := by
  cases k <;> cases d <;> simp_all [KeyD, D.key]
theorem keyD_self (k : Key) : KeyD k (keyD k) := by cases k <;> rfl
section
variable {K : PySem.W.Frag} {B : Hp}
theorem kv_any {k : Key} : ∀ {ks : List (Key × V)} {ds : List (D × D)}, RpKv K B ks ds → (ks.any fun kv => decide (kv.1 = k)) = ds.any fun kv => decide (kv.1.key = some k)
  | _, _, .nil => rfl
  | _, _, .cons h1 h2 r => by
    simp only [List.any_cons, kv_any r, keyD_key h1, Option.some.injEq]
theorem kv_put {k : Key} {v : V} {d : D} (hv : Rp K B v d) : ∀ {ks : List (Key × V)} {ds : List (D × D)}, RpKv K B ks ds → RpKv K B (ks.map fun kv => if kv.1 = k then (kv.1, v) else kv) (ds.map fun kv => if kv.1.key = some k then (kv.1, d) else kv)
  | _, _, .nil => .nil
  | _, _, .cons h1 h2 r => by
    simp only [List.map_cons, keyD_key h1, Option.some.injEq]
    split
    · exact .cons h1 hv (kv_put hv r)
    · exact .cons h1 h2 (kv_put hv r)
theorem kv_app : ∀ {ks ks' : List (Key × V)} {ds ds' : List (D × D)}, RpKv K B ks ds → RpKv K B ks' ds' → RpKv K B (ks ++ ks') (ds ++ ds')
  | _, _, _, _, .nil, h => h
  | _, _, _, _, .cons h1 h2 r, h => .cons h1 h2 (kv_app r h)
theorem put_rp {k : Key} {v : V} {d : D} {ks : List (Key × V)} {ds : List (D × D)} (h : RpKv K B ks ds) (hv : Rp K B v d) : RpKv K B (putK ks k v) (putD ds k d) := by
  unfold putK putD
  rw [kv_any h]
  split
  · exact kv_put hv h
  · exact kv_app h (.cons (keyD_self k) hv .nil)
theorem merge_rp : ∀ {l : List (Key × D)} {more : List (Key × V)} {ks : List (Key × V)} {ds : List (D × D)}, RpKv K B ks ds → Paired (fun (p : Key × V) (q : Key × D) => p.1 = q.1 ∧ Rp K B p.2 q.2) more l → RpKv K B (mergeK ks more) (mergeD ds l)
  | _, _, _, _, h, .nil => h
  | _, _, ks, ds, h, .cons (a := p) (b := q) x r => by
    obtain ⟨k, v⟩ := p
    obtain ⟨k', d⟩ := q
    obtain ⟨e, hv⟩ := x
    simp only at e hv
    subst e
    show RpKv K B (mergeK (putK ks k v) _) (mergeD (putD ds k d) _)
    exact merge_rp (put_rp h hv) r
theorem pairs_rp : ∀ {ds : List D} {xs : List V} {l : List (Key × D)}, RpAll K B xs ds → pairsD ds = some l → ∃ kvs : List (Key × V), pairUp xs = kvs.map (fun kv => (kV kv.1, kv.2)) ∧ Paired (fun (p : Key × V) (q : Key × D) => p.1 = q.1 ∧ Rp K B p.2 q.2) kvs l
  | [], xs, l, h, e => by
    cases h; cases e
    exact ⟨[], rfl, .nil⟩
  | [_], xs, l, h, e => by cases e
  | k :: v :: r, xs, l, h, e => by
    cases h with
    | cons h1 h2 =>
      cases h2 with
      | cons h3 h4 =>
        unfold pairsD at e
        cases ek : k.key with
        | none => simp only [ek] at e; cases e
        | some kk =>
          cases er : pairsD r with
          | none => simp only [ek, er] at e; cases e
          | some l' =>
            simp only [ek, er, Option.some.injEq] at e
            subst e
            obtain ⟨kvs, p1, p2⟩ := pairs_rp h4 er
            obtain ⟨ev, _⟩ := key_rp h1 ek
            refine ⟨(kk, _) :: kvs, ?_, .cons ⟨rfl, h3⟩ p2⟩
            subst ev
            simp [pairUp, p1]
end
def cDct (f : M (List W)) : M W := M.bind f fun ws => M.bind (frzAll ws) fun ds => M.bind (M.opt (pairsD ds)) fun l => M.bind (M.chk (decide (l.length ≤ 15))) fun _ => M.ret (.fresh (.dct (mergeD [] l)))
theorem paired_len {α β : Type} {F : α → β → Prop} : ∀ {l : List α} {m : List β}, Paired F l m → l.length = m.length
  | _, _, .nil => rfl
  | _, _, .cons _ r => by rw [List.length_cons, List.length_cons, paired_len r]
theorem de_dct {keys : List (Option Expr)} {values : List Expr} {f : M (List W)} (h : DP X pos keys values f) (hall : keys.all (·.isSome) = true) (hl : keys.length = values.length) (h0 : keys ≠ []) (h15 : keys.length ≤ 15) : DE X (.Dict keys values pos) (cDct f) := by
  refine ⟨fun Wx tk => ?_⟩
  obtain ⟨trs, p, q⟩ := h.run Wx tk
  refine ⟨_, pe_disp p hall hl h0 h15, fun vs B σ H r Q R hw p np => ?_⟩
  rw [tPairs_all]
  have ex : Ext B H B (upd H p (.dK [])) := .plain np
  have sm : Sbm B (upd H p (.dK [])) := R.sub.trans ex.keep
  have s0 : Stp vs B H σ r B (upd H p (.dK [])) σ r := ex.stp
  have R0 := R.ext ex sm
  refine q vs B σ _ r _ R0 ?_
  cases ef : f r with
  | fail => simp only [cDct, M.bind, ef] at hw; exact hw.elim
  | exc y r1 =>
    simp only [cDct, M.bind, ef] at hw
    exact fun cl dd B2 H2 s2 R2 f2 => hw cl dd B2 H2 (s0.trans s2) R2 f2
  | ok ws r1 =>
    intro xs B1 H1 s1 R1 q1
    have hp0 : H1 p = some (.dK []) := (s1.keep p _ upd_same (R.notOwn np ∘ fun z => z) (noMk_none (none_of_sub R.sub np))).1
    have nb1 : B1 p = none := (s1.keep p _ upd_same (R.notOwn np) (noMk_none (none_of_sub R.sub np))).2 (none_of_sub R.sub np)
    have no1 : ¬ Own vs σ r1 p := fun z => (s1.own p z).elim (R.notOwn np) fun z => by rw [upd_same] at z; cases z
    have hw1 : Post X vs Wx B H σ r (M.bind (frzAll ws) (fun ds => M.bind (M.opt (pairsD ds)) fun l => M.bind (M.chk (decide (l.length ≤ 15))) fun _ => M.ret (.fresh (.dct (mergeD [] l)))) r1) (fW X vs σ H) Q := by
      simp only [cDct, M.bind, ef] at hw
      exact hw
    cases e2 : frzAll ws r1 with
    | fail => simp only [M.bind, e2] at hw1; exact hw1.elim
    | exc y r2 => exact absurd e2 frzAll_noexc
    | ok ds r2 =>
      simp only [M.bind, e2] at hw1
      obtain ⟨B2, p2, R2, s2, sb⟩ := frzAll_ok R1 s1 q1 e2
      have hw2 : Post X vs Wx B H σ r (M.bind (M.opt (pairsD ds)) (fun l => M.bind (M.chk (decide (l.length ≤ 15))) fun _ => M.ret (.fresh (.dct (mergeD [] l)))) r2) (fW X vs σ H) Q := hw1
      obtain ⟨l, el, hw3⟩ := Post.opt hw2
      obtain ⟨c4, hw4⟩ := Post.chk hw3
      obtain ⟨kvs, k1, k2⟩ := pairs_rp p2 el
      refine ⟨hp0, kvs, k1, by rw [paired_len k2]; exact of_decide_eq_true c4, ?_⟩
      have nb2 : B2 p = none := (s2.keep p _ upd_same (R.notOwn np) (noMk_none (none_of_sub R.sub np))).2 (none_of_sub R.sub np)
      have no2 : ¬ Own vs σ r2 p := fun z => (s2.own p z).elim (R.notOwn np) fun z => by rw [upd_same] at z; cases z
      have R3 : Rl X.K vs B2 σ (upd H1 p (.dK (mergeK [] kvs))) r2 := R2.other nb2 no2
      have s3 : Stp vs B H σ r B2 (upd H1 p (.dK (mergeK [] kvs))) σ r2 := by
        have s4 := s0.trans s2
        refine ⟨s4.sub, fun a o h n m => ?_, s4.stl, fun a h => ?_, s4.own, s4.bol, s4.bod, s4.boo⟩
        · have ne : a ≠ p := fun e => by subst e; rw [np] at h; cases h
          rw [upd_ne ne]
          exact s4.keep a o h n m
        · by_cases e : a = p
          · subst e; exact np
          · rw [upd_ne e] at h; exact s4.dom a h
      exact hw4 (.ref p) B2 _ s3 R3 ⟨p, rfl, np, nb2, ⟨_, upd_same, merge_rp .nil k2⟩, no2⟩

/-! ### a, b = x, y -/
def W.isLoc (i : Nat) : W → Bool
  | .cel (.loc j) => decide (j = i)
  | _ => false
def cPar2 (i j : Nat) (f : M (List W)) : M Fl := M.bind f fun ws => match ws with
  | [w1, w2] => if w2.isLoc i = true then M.no else M.bind (gN i w1) fun _ => M.bind (gN j w2) fun _ => M.ret .next
  | _ => M.no
theorem settle_more {K : PySem.W.Frag} {vs : List V} {B0 H0 B H : Hp} {σ0 σ : L2.St} {r0 r r' : Rho} {v : V} {w : W} {sl : Sl} (R : Rl K vs B σ H r) (s : Stp vs B0 H0 σ0 r0 B H σ r) (h : RpW K vs H0 B σ H r v w) (e : settle w r = .ok sl r') :
    ∃ B', RpS K vs H0 B' σ H r' v sl ∧ Rl K vs B' σ H r' ∧ Stp vs B0 H0 σ0 r0 B' H σ r' ∧ (∀ x u, RpW K vs H0 B σ H r x u → RpW K vs H0 B' σ H r' x u) ∧ ∀ c, sl = .own c → w = .fresh c := by
  cases w with
  | dt d => cases e; exact ⟨B, h, R, s, fun _ _ q => q, fun c z => by cases z⟩
  | fresh c => cases e; exact ⟨B, h, R, s, fun _ _ q => q, fun c z => by cases z; rfl⟩
  | cel z =>
    cases z with
    | bor k => cases e; exact ⟨B, h, R, s, fun _ _ q => q, fun c z => by cases z⟩
    | loc i =>
      cases hc : r.cnt (.loc i) with
      | none =>
        cases hl : r.look (.loc i) with
        | none => simp only [settle, hc, hl] at e; cases e
        | some d' =>
          simp only [settle, hc, hl] at e
          cases e
          exact ⟨B, look_data R hc hl h, R, s, fun _ _ q => q, fun c z => by cases z⟩
      | some c =>
        simp only [settle, hc] at e
        cases e
        obtain ⟨a, q1, _, _⟩ := R.own _ c hc
        have hv : v = .ref a := by have h' : adr vs σ (.loc i) = some v := h; rw [q1] at h'; exact (Option.some.inj h').symm
        subst hv
        obtain ⟨o, ho, rp, R2, s2⟩ := R.freeze hc q1
        exact ⟨_, rp, R2, s.trans s2, fun _ _ q => RpW.stp q s2, fun c z => by cases z⟩
theorem gN_step {vs : List V} {B0 H0 B H : Hp} {σ0 σ : L2.St} {r0 r r' : Rho} {v : V} {w : W} {i : Nat} (R : Rl X.K vs B σ H r) (s : Stp vs B0 H0 σ0 r0 B H σ r) (h : RpW X.K vs H0 B σ H r v w) (e : gN i w r = .ok () r') :
    ∃ B', Rl X.K vs B' (σ.set i (some v)) H r' ∧ Stp vs B0 H0 σ0 r0 B' H (σ.set i (some v)) r' ∧ ∀ x u, RpW X.K vs H0 B σ H r x u → ¬ Clash v w x u → u.isLoc i = false → RpW X.K vs H0 B' (σ.set i (some v)) H r' x u := by
  unfold gN M.bind at e
  cases e1 : settle w r with
  | fail => simp only [e1] at e; cases e
  | exc x r1 => exact absurd e1 settle_noexc
  | ok sl r1 =>
    simp only [e1] at e
    split at e
    · rename_i hi
      cases e
      obtain ⟨B', p, R', s', keepW, hown⟩ := settle_more R s h e1
      obtain ⟨R2, s2⟩ := R'.assign s' p hi
      have hs : i < σ.length := by rw [← R'.len]; exact hi
      refine ⟨B', R2, s2, fun x u q nc nl => ?_⟩
      have q' := keepW x u q
      cases u with
      | dt d => exact q'
      | cel z =>
        have hz : z ≠ .loc i := fun z2 => by subst z2; simp [W.isLoc] at nl
        show adr vs _ z = _
        rw [adr_set z hz]
        exact q'
      | fresh c =>
        obtain ⟨a, rfl, g1, g2, g3, g4⟩ := q'
        refine ⟨a, rfl, g1, g2, g3, fun ⟨z, c', m1, m2⟩ => ?_⟩
        by_cases hz : z = .loc i
        · subst hz
          rw [adr_self hs] at m2
          cases m2
          rw [cnt_put hi, if_pos rfl] at m1
          cases sl with
          | own c2 =>
            have := hown c2 rfl
            subst this
            exact nc ⟨a, c2, c, rfl, rfl, rfl, rfl⟩
          | dt d => cases m1
          | bor k => cases m1
        · rw [adr_set z hz] at m2
          rw [cnt_put hi, if_neg hz] at m1
          exact g4 ⟨z, c', m1, m2⟩
    · cases e
theorem gN_noexc {w : W} {i : Nat} {r r' : Rho} {x : Ex} : gN i w r ≠ .exc x r' := fun e => by
  unfold gN M.bind at e
  cases e1 : settle w r with
  | fail => simp only [e1] at e; cases e
  | exc x r1 => exact settle_noexc e1
  | ok sl r1 =>
    simp only [e1] at e
    split at e <;> cases e
theorem ds_par {i j : Nat} {x y : Str} {f : M (List W)} {px py pt : Pos} {kt k2 pt2} (hc : X.calm = true) (hN : X.N.Nodup) (hi : X.N[i]? = some x) (hj : X.N[j]? = some y) (hij : i ≠ j)
    (hx : X.env.scope.names.lookup x = some .local) (hy : X.env.scope.names.lookup y = some .local) (ha : DA X [a, b] f)
    (hw : swappedStores [.Tuple [.Name x px, .Name y py] kt pt] (.Tuple [a, b] k2 pt2) X.env = pure (some [x, y]))
    (hs : swapsWithSole [.Tuple [.Name x px, .Name y py] kt pt] (.Tuple [a, b] k2 pt2) pos.line X.env = pure false) :
    DS X (.Assign [.Tuple [.Name x px, .Name y py] kt pt] (.Tuple [a, b] k2 pt2) pos) (cPar2 i j f) := by
  refine ⟨fun Wx tk => ?_⟩
  obtain ⟨t, p, q⟩ := ha.run Wx tk
  refine ⟨_, ps_par hc hN hi hj hij hx hy p hw hs, fun vs B σ H r E R h => q vs B σ H r _ R (PostS.bind0 h fun xs ws B1 H1 r1 s1 R1 q1 h1 => ?_)⟩
  cases q1 with
  | nil => exact h1.elim
  | cons a1 b1 n1 =>
    cases b1 with
    | nil => exact h1.elim
    | cons a2 b2 n2 =>
      cases b2 with
      | cons _ _ _ => exact h1.elim
      | nil =>
        rename_i v1 w1 v2 w2
        simp only at h1
        split at h1
        · exact h1.elim
        · rename_i hl
          have hl' : w2.isLoc i = false := by cases e : w2.isLoc i with
            | true => exact absurd e hl
            | false => rfl
          cases e1 : gN i w1 r1 with
          | fail => simp only [M.bind, e1] at h1; exact h1.elim
          | exc x r2 => exact absurd e1 gN_noexc
          | ok u r2 =>
            simp only [M.bind, e1] at h1
            obtain ⟨B2, R2, s2, k2⟩ := gN_step R1 s1 a1 e1
            have q2 := k2 v2 w2 a2 (n1 0 v2 w2 rfl rfl) hl'
            cases e2 : gN j w2 r2 with
            | fail => simp only [M.bind, e2] at h1; exact h1.elim
            | exc x r3 => exact absurd e2 gN_noexc
            | ok u r3 =>
              simp only [M.bind, e2] at h1
              obtain ⟨B3, R3, s3, _⟩ := gN_step R2 s2 q2 e2
              exact ⟨v1, v2, rfl, h1 _ B3 H1 s3 R3⟩
end
end Lc

set_option Elab.async false
set_option maxRecDepth 100000
set_option maxHeartbeats 4000000
/-! Part O: a law's end over FnG; names of the module and of Python. -/
namespace Lc
open PySem L2 PySem.Spec PyProof.Rows
section
variable {P : Program} {w : World} {K : PySem.W.Frag} {mg mb : Str → Option Value} {k : Nat} {fl ad : Addr} {fd : FuncData} {x : Str} {F : Fn}
/-- what the law's def promises of a script -/
theorem law_sp {H : Hp} {ns : List Int} {bs : List Bo} (hF : F [.dt (.scr ns)] = .ok (.dt (.bl true)) bs) (hS : SqL K H ad (ns.map V.int)) :
    spG K mg 1 F.up [.ref ad] H (fun v _ => v = .bl true) fun _ _ _ => False := by
  have hS' : SqL K (unm H) ad (ns.map V.int) := hS.imp (fun z => z.imp (fun q => unm_of q rfl) fun ⟨o, q⟩ => ⟨o, unm_of q rfl⟩) fun z => z
  refine ⟨rfl, unm H, [.dt (.scr ns)], [], rfl, ⟨⟨fun a o h m => (unm_some h).1, fun a o h m => by rw [(unm_some h).2] at m; cases m⟩, ⟨fun k c h => by simp at h, fun a k h => absurd (unm_some h).2 (by simp [isMk, mark]), fun a a' k h => absurd (unm_some h).2 (by simp [isMk, mark])⟩, rfl, fun i d q => by simp at q, fun z c q => ?_, fun i k q => by simp at q, fun k d q => ?_, fun z z' c c' a q => ?_⟩, ?_⟩
  · obtain ⟨k, rfl, e⟩ := cnt_bare q
    cases k <;> simp at e
  · cases k with
    | zero => simp at q; subst q; exact ⟨_, rfl, .scr hS'⟩
    | succ k => simp at q
  · obtain ⟨k, rfl, e⟩ := cnt_bare q
    cases k <;> simp at e
  · show PostF K mg _ _ _ _ _ ((F [.dt (.scr ns)]).up []) _ _
    rw [hF]
    intro v B' H' _ _ q
    cases q
    rfl
/-- from a heap in which nothing but the script is tracked -/
theorem law_core {s1 : Shared} {vs : List Value} {ns : List Int} {H : Hp} {bs : List Bo} (kin : K.In s1.heap) (hns : s1.heap.Ns mainGlobals mg) (hnb : s1.heap.Ns builtinsNs mb) (hbb : ∀ y : Str, y ≠ "__name__" → mb y = bootBuiltins y)
    (hlim : s1.heap.NoLimit) (hg : s1.gens = #[]) (ha : s1.heap.get? ad = some { cls := .type "list", data := .seq vs.toArray }) (hr : Room k callerA)
    (G : ∀ base : Heap, K.In base → base.Ns mainGlobals mg → FnG P w K mg base k fl fd [x] F) (hb : ∀ (s : Shared) (u : Value), BindsTo s fd ⟨[u], []⟩ [(x, u)]) (hF : F [.dt (.scr ns)] = .ok (.dt (.bl true)) bs)
    (only : ∀ b, H b ≠ none → b = ad ∧ ∃ o xs, H b = some (.frz o (.lst xs))) (hS : SqL K H ad (ns.map V.int)) (hok : HOk P w H s1.heap) (hK : H ad ≠ none → K.lookup ad = none) :
    codeAny (model P w) callerA (.call (.ref fl) ⟨[.ref ad], []⟩) (fun r s' => r = .ok (.ret (.bool true)) ∧ OldK s1.heap s'.heap ∧ s'.os = s1.os ∧ AllBare s'.gens) s1 := by
  have stay : ∀ {b : Addr} {o : Obj}, s1.heap.get? b = some o → H b = none → (hidT s1.heap H).get? b = some o := fun e n => hidT_get e n
  have notD : ∀ {b : Addr} {o : Obj} {es : Array DictEntry} {ep : Nat}, s1.heap.get? b = some o → o.data = .dict es ep → H b = none := fun {b o es ep} e d =>
    Classical.byContradiction fun n => by
      obtain ⟨rfl, _⟩ := only b n
      rw [ha] at e
      cases e
      exact nomatch d
  have nsS : ∀ {b : Addr} {m : Str → Option Value}, s1.heap.Ns b m → (hidT s1.heap H).Ns b m := fun {b m} ⟨o, es, ep, e, d, q⟩ => ⟨o, es, ep, stay e (notD e d), d, q⟩
  have kb : K.In (hidT s1.heap H) := fun b o e => stay (kin b o e) (Classical.byContradiction fun n => by
    obtain ⟨rfl, _⟩ := only b n
    rw [hK n] at e
    cases e)
  have md : Mod K mg (hidT s1.heap H) := ⟨kb, nsS hns, ⟨mb, nsS hnb, hbb⟩, by obtain ⟨mc, h1, h2⟩ := hlim; exact ⟨mc, nsS h1, h2⟩⟩
  have e0 : Env0 P w K mg (hidT s1.heap H) callerA [] s1 H := by
    refine ⟨rfl, md, fun b o e => of_hidT e, Nat.le_of_eq (hidT_size _ _), trivial, fun b hb => ?_, hok, .of_eq hg⟩
    have : b ∈ ([] : List Addr) := hb
    cases this
  refine codeAny_mono ((G _ kb (nsS hns)).run callerA [] s1 H ⟨[.ref ad], []⟩ [.ref ad] [.ref ad] _ _ hr rfl e0 (hb s1 (.ref ad)) (.cons rfl .nil) (law_sp hF hS)) fun res s2 hq => ?_
  cases res with
  | error u =>
    obtain ⟨_, _, _, _, _, _, _, _, _, _, _, _, z⟩ := hq
    exact z.elim
  | ok f1 =>
    cases f1 with
    | next => exact hq.elim
    | brk => exact hq.elim
    | cont => exact hq.elim
    | ret u =>
      obtain ⟨v, H2, os, bare, un, hok2, rv, q⟩ := hq
      have q' : v = .bl true := q
      subst q'
      have eu : u = Value.bool true := rv
      subst eu
      refine ⟨rfl, OldK.of_keep fun b o e => ?_, os, bare⟩
      by_cases n : H b = none
      · refine un.keep b o e n (fun z => ?_) (by simp)
        have : b ∈ ([] : List Addr) := z
        cases this
      · obtain ⟨_, ob, xs, z⟩ := only b n
        obtain ⟨e1, _⟩ := hok b _ z
        obtain ⟨e2, _⟩ := hok2 b _ (un.frzs b ob _ z)
        rw [e] at e1
        cases e1
        exact e2
end
/-- the law's row from its def: F's promise over every base, the answer True at every script -/
theorem walk_ofG {l : PySem.W.OpenLaw} {n k : Nat} {q : Program} {loose : List Str} {XP : (Str → Option Value) → Heap → Prop} {YP : World → Heap → Prop} {d : DefRec} {x : Str} (hn : l.most = some n) (hz : n ≤ sizeLine) (hdf : d.params.defaults = []) (hr : Room k callerA)
    (G : ∀ (w : World) (mg : Str → Option Value) (fl : Addr) (h : Heap), YP w h → h.Ns mainGlobals mg → mg d.name = some (.ref fl) → ∃ (K : PySem.W.Frag) (fd : FuncData) (F : Fn), K.In h ∧ (∀ (s : Shared) (u : Value), BindsTo s fd ⟨[u], []⟩ [(x, u)]) ∧
      (∀ ns : List Int, ns.length ≤ n → ∃ bs, F [.dt (.scr ns)] = .ok (.dt (.bl true)) bs) ∧ ∀ base : Heap, K.In base → base.Ns mainGlobals mg → FnG l.prog w K mg base k fl fd [x] F) :
    PySem.W.WalkO q loose XP YP l.row.toRowW d [] (fun f vs => PySem.call f vs) := by
  refine Att.attach_call hn hdf fun w s0 s1 mg mb fl o pm cd doc ad vs ns gr Y ho hd hcd hmg hobj hints hlen hg => ?_
  obtain ⟨K, fd, F, kin, hb, hF, hG⟩ := G w mg fl _ Y gr.T.g hmg
  obtain ⟨bs, hF⟩ := hF ns hlen
  have rv := vals_ints hints
  have hl : ns.length ≤ sizeLine := Nat.le_trans hlen hz
  have lv := hints.length
  cases hk : K.lookup ad with
  | some ob =>
    have e := kin ad ob hk
    rw [hobj] at e
    cases e
    refine law_core (H := fun _ => none) kin gr.T.g gr.T.b gr.T.builtins gr.T.nolimit hg hobj hr hG hb hF (fun b z => absurd rfl z) ?_ (fun b u z => nomatch z) fun z => absurd rfl z
    exact .inr ⟨_, vs.toArray, _, hk, rfl, rfl, rfl, by rw [List.size_toArray, lv]; exact hl, by simpa using rv⟩
  | none =>
    have hH : ∀ b u, (if b = ad then some (HO.frz { cls := .type "list", data := .seq vs.toArray } (.lst (ns.map V.int))) else none) = some u → b = ad ∧ u = HO.frz { cls := .type "list", data := .seq vs.toArray } (.lst (ns.map V.int)) := fun b u z => by
      split at z
      · cases z; exact ⟨by assumption, rfl⟩
      · cases z
    refine law_core (H := fun b => if b = ad then some (.frz { cls := .type "list", data := .seq vs.toArray } (.lst (ns.map V.int))) else none) kin gr.T.g gr.T.b gr.T.builtins gr.T.nolimit hg hobj hr hG hb hF (fun b z => ?_) (.inl (.inr ⟨_, if_pos rfl⟩)) (fun b u z => ?_) fun _ => hk
    · by_cases e : b = ad
      · exact ⟨e, _, _, if_pos e⟩
      · exact absurd (if_neg e) z
    · obtain ⟨rfl, rfl⟩ := hH b u z
      exact ⟨hobj, by rw [List.length_map]; exact hl, vs, _, rv, hobj⟩

/-! ### names -/
section
variable {X : Cx} {x : Str} {pos p : Pos} {e : Expr} {es : List Expr} {f : M (List W)} {id : String}
theorem de_glo {v : V} {d : D} {u : Value} (hg : Gl X x) (hm : X.mg x = some u) (hv : RelV v u) (hr : ∀ B, Rp X.K B v d) (hd : (x == ("__debug__" : Str)) = false) : DE X (.Name x pos) (cC d) := de_const (pe_glob hg hm hv hd) hr
theorem de_bty {T : String} (hg : Gl X x) (hm : X.mg x = none) (hv : bootBuiltins x = some (.type T)) (hn : x ≠ "__name__") (hd : (x == ("__debug__" : Str)) = false) : DE X (.Name x pos) (cC (.ty T)) := de_const (pe_bltn (v := .ty T) hg hm hv rfl hn hd) fun _ => .ty T
theorem de_callB {rr : List V → Hp → VK → Prop} {g : List D → Option Bo} (hc : CallR X (.builtin id) rr) (hs : CallS X rr g) (hg : Gl X x) (hm : X.mg x = none) (hv : bootBuiltins x = some (.builtin id)) (ha : DA X (e :: es) f) (hn : x ≠ "__name__") (hdb : (x == ("__debug__" : Str)) = false)
    (he : starEach (e :: es) X.env = (false, eval e X.env) :: starEach es X.env) (hpl : (backTo pos (starEach es X.env)).any (·.1) = false) : DE X (.Call (.Name x p) (e :: es) [] pos) (cCallP g f) :=
  de_callP (fun _ pa => pe_callB hc hg hm hv pa hn hdb he hpl) hs ha
theorem de_callT {rr : List V → Hp → VK → Prop} {g : List D → Option Bo} (hc : CallR X (.type id) rr) (hs : CallS X rr g) (hg : Gl X x) (hm : X.mg x = none) (hv : bootBuiltins x = some (.type id)) (ha : DA X (e :: es) f) (hn : x ≠ "__name__") (hdb : (x == ("__debug__" : Str)) = false)
    (he : starEach (e :: es) X.env = (false, eval e X.env) :: starEach es X.env) (hpl : (backTo pos (starEach es X.env)).any (·.1) = false) : DE X (.Call (.Name x p) (e :: es) [] pos) (cCallP g f) :=
  de_callP (fun _ pa => pe_callTy hc hg hm hv pa hn hdb he hpl) hs ha
end
end Lc

set_option Elab.async false
set_option maxRecDepth 100000
set_option maxHeartbeats 4000000
/-! Part P: what a printed proof names. -/
namespace Lc
open PySem L2 PySem.Spec PyProof.Rows
def visB (sc : Scope) (x : Str) : Bool := match sc.names.lookup x with
  | some .local => true
  | some .cell => true
  | some .free => true
  | _ => false
def locB (sc : Scope) (x : Str) : Bool := match sc.names.lookup x with
  | some .local => true
  | some .cell => true
  | _ => false
theorem vis_by {sc : Scope} {x : Str} (h : visB sc x = true) : Vis sc x := by
  unfold visB at h
  split at h
  · exact .inl (by assumption)
  · exact .inr (.inl (by assumption))
  · exact .inr (.inr (by assumption))
  · cases h
theorem loc_by {sc : Scope} {x : Str} (h : locB sc x = true) : Loc sc x := by
  unfold locB at h
  split at h
  · exact .inl (by assumption)
  · exact .inr (by assumption)
  · cases h
/-- a def that may be called: by values, by its parameters' names -/
structure CalT (P : Program) (w : World) (K : PySem.W.Frag) (mg : Str → Option Value) (base : Heap) (k : Nat) (x : Str) (ps : List Str) (F : FnS) : Prop where
  ex : ∃ f fd, FnT P w K mg base k f fd ps F ∧ mg x = some (.ref f) ∧ PySem.W.keepIn K (.ref f) = true ∧ Binds K fd ps [] ∧ ∀ (s : Shared) (ws : List Value), K.In s.heap → ws.length = ps.length → BindsTo s fd ⟨[], ps.zip ws⟩ (ps.zip ws)
abbrev CalG (P : Program) (w : World) (K : PySem.W.Frag) (mg : Str → Option Value) (base : Heap) (k : Nat) (x : Str) (ps : List Str) (F : Fn) : Prop := CalT P w K mg base k x ps F.up
/-- names that the module does not bind -/
def FreeN (l : List Str) (mg : Str → Option Value) : Prop := ∀ (i : Nat) (x : Str), l[i]? = some x → mg x = none
section
variable {P : Program} {w : World} {K : PySem.W.Frag} {mg : Str → Option Value} {base : Heap} {x qual : Str} {params : Arguments} {body : List Stmt} {scope : Scope} {f : Addr} {fd : FuncData} {ps : List Str} {k : Nat} {F : FnS}
theorem cal_of (D : FunD K x qual params body scope [] [] f fd) (G : FnT P w K mg base k f fd ps F) (hm : mg x = some (.ref f)) 
    (h1 : ∀ (kV doc pm : Value) (an : Option Addr) (cdv ct : Value) (us : List Value), us.length = ps.length → bindArgs (PySem.W.fnOf x qual params body scope .none kV doc pm an cdv ct) ⟨us, []⟩ = pure (ps.zip us))
    (h2 : ∀ (kV doc pm : Value) (an : Option Addr) (cdv ct : Value) (us : List Value), us.length = ps.length → bindArgs (PySem.W.fnOf x qual params body scope .none kV doc pm an cdv ct) ⟨[], ps.zip us⟩ = pure (ps.zip us)) : CalT P w K mg base k x ps F := by
  refine ⟨f, fd, G, hm, D.kp, D.bindsN h1, fun s ws _ hl => ?_⟩
  obtain ⟨oc, od, dV, kV, doc, pm, an, cdv, ct, osl, rfl, lk, hcd, hD, hK⟩ := D.ex
  rcases hD with ⟨_, rfl⟩ | ⟨e, _⟩
  · exact .of_eq (h2 kV doc pm an cdv ct ws hl)
  · exact absurd rfl e
/-- a def of the text does what its body denotes -/
theorem fnT_ofD {N : List Str} {bd : M Fl} {n : Nat} (D : FunD K x qual params body scope [] [] f fd) (S : FnScope N ps scope) (hn : N.length = n)
    (hbody : ∀ (cdv : Value) (A : Around) (outer : List Env) (s : Shared) (H : Hp) (E : XK), Room k (A.deeper (envOfC qual scope s.heap.objs.size f cdv)) → A.guards = some [] →
      DSs (cxOf (L2.CX P w) P w K mg base N qual scope f cdv A outer s H E) body bd) : FnT P w K mg base (k + 1) f fd ps (runS n bd) := by
  subst hn
  obtain ⟨oc, od, dV, kV, doc, pm, an, cdv, ct, osl, rfl, lk, hcd, _, _⟩ := D.ex
  refine ⟨fun A outer s H args us vs Q E hr hgu e0 hb rv ⟨hl, B, as, stc, ha, R, hp⟩ => ?_⟩
  have inK : K.In s.heap := e0.mod.kin.keeps fun b o e => (e0.bs b o e).1
  have nolim : s.heap.NoLimit := e0.mod.nolimit.keeps fun b o e => (e0.bs b o e).1
  have kinds : ∀ y ∈ ps.zip us, scope.names.lookup y.1 = some .local ∨ (scope.names.lookup y.1 = some .cell ∧ ((cellsFrom (s.heap.objs.size + 1) scope.names []).lookup y.1).isSome = true) := by
    rintro ⟨y, u⟩ hy
    rcases S.par y (List.of_mem_zip hy).1 with q | q
    · exact Or.inl q
    · exact Or.inr ⟨q, PySem.W.cellsFrom_some _ _ _ (Or.inl q)⟩
  refine codeAny_call_function hr.depth (inK _ _ lk) rfl S.co S.gen rfl (PySem.W.codeRec_of inK hcd) (hb _ _ _ _ ?_)
  refine wpAny_newFunctionEnv_cells S.kind kinds fun env he s1 ic => ?_
  subst he
  refine ⟨nolim.keeps ic.toInCall.keep, codeAny_func ?_⟩
  obtain ⟨t, pt, qt⟩ := (hbody cdv A outer s H E (hr.deeper _) hgu).run _ (takes_of rfl rfl rfl rfl)
  have I := inv_start (CX := L2.CX P w) (P := P) (w := w) (K := K) (mg := mg) (base := base) (N := N) (qual := qual) (f := f) (cd := cdv) (E := E) S hr.hd e0 hl rv ic
  have q := qt vs B (L2.start N vs) H (entry N.length as stc) _ (entry_rl R (hl.trans ha.symm)) (runS_ok rfl rfl R (hl.trans ha.symm) hp)
  refine wpAny_mono (pt.run [] s1 (L2.start N vs) H _ I q) (fun fl s2 hs => ?_) fun e s2 hs => hs
  cases fl with
  | ret u =>
    obtain ⟨v, σ2, H2, J, ru, z⟩ := hs
    exact ⟨v, H2, J.os, J.bare, J.base, J.hok, ru, z⟩
  | next =>
    obtain ⟨σ2, H2, J, z⟩ := hs
    exact ⟨.non, H2, J.os, J.bare, J.base, J.hok, rfl, z⟩
  | brk => obtain ⟨_, _, _, z⟩ := hs; exact z.elim
  | cont => obtain ⟨_, _, _, z⟩ := hs; exact z.elim
theorem fnG_ofD {N : List Str} {bd : M Fl} {n : Nat} (D : FunD K x qual params body scope [] [] f fd) (S : FnScope N ps scope) (hn : N.length = n)
    (hbody : ∀ (cdv : Value) (A : Around) (outer : List Env) (s : Shared) (H : Hp) (E : XK), Room k (A.deeper (envOfC qual scope s.heap.objs.size f cdv)) → A.guards = some [] →
      DSs (cxOf (L2.CX P w) P w K mg base N qual scope f cdv A outer s H E) body bd) : FnG P w K mg base (k + 1) f fd ps (runF n bd) := (fnT_ofD D S hn hbody).down
end
section
variable {X : Cx} {k : Nat} {ps : List Str} {F : FnS} {x : Str} {p pos : Pos} {e : Expr} {es : List Expr} {kws : List Keyword} {g : M (List W)}
theorem de_callC (C : CalT X.prog X.w X.K X.mg X.base k x ps F) (hr : Room k X.A) (hgu : X.A.guards = some []) (hg : Gl X x) (ha : DA X (e :: es) g) (hn : ArgN g ps.length)
    (hdb : (x == ("__debug__" : Str)) = false) (he : starEach (e :: es) X.env = (false, eval e X.env) :: starEach es X.env) (hpl : (backTo pos (starEach es X.env)).any (·.1) = false) : DE X (.Call (.Name x p) (e :: es) [] pos) (cCallT F g) := by
  obtain ⟨f, fd, G, hm, hk, hb, _⟩ := C.ex
  exact de_call G hr hgu hg hm hk hb ha hn hdb he hpl
theorem de_callC0 (C : CalT X.prog X.w X.K X.mg X.base k x [] F) (hr : Room k X.A) (hgu : X.A.guards = some []) (hg : Gl X x) (hdb : (x == ("__debug__" : Str)) = false) : DE X (.Call (.Name x p) [] [] pos) (cCallT F (M.ret [])) := by
  obtain ⟨f, fd, G, hm, hk, hb, _⟩ := C.ex
  exact de_call0 G hr hgu hg hm hk hb hdb
theorem de_callCK (C : CalT X.prog X.w X.K X.mg X.base k x ps F) (hr : Room k X.A) (hgu : X.A.guards = some []) (hg : Gl X x) (ha : DK X kws g) (hn : ArgN g ps.length)
    (hdb : (x == ("__debug__" : Str)) = false) (hall : (backToKw pos (keywordEach kws X.env)).all (·.1.isSome) = true) (hks : (backToKw pos (keywordEach kws X.env)).filterMap (·.1) = ps)
    (hpl : ((backTo pos (starEach [] X.env)).any (·.1) || (backToKw pos (keywordEach kws X.env)).any (·.1.isNone)) = false) : DE X (.Call (.Name x p) [] kws pos) (cCallT F g) := by
  obtain ⟨f, fd, G, hm, hk, _, hb⟩ := C.ex
  exact de_callK G hr hgu hg hm hk hb ha hn hdb hall hks hpl
theorem de_gloS {z : Str} (hg : Gl X x) (hm : ∃ t, X.mg x = some (.str z t)) (hd : (x == ("__debug__" : Str)) = false) : DE X (.Name x pos) (cC (.str z)) := by
  obtain ⟨t, hm⟩ := hm
  exact de_glo (v := .str z) hg hm ⟨t, rfl⟩ (fun _ => .str z) hd
theorem de_gloI {z : Int} (hg : Gl X x) (hm : ∃ t, X.mg x = some (.int z t)) (hd : (x == ("__debug__" : Str)) = false) : DE X (.Name x pos) (cC (.int z)) := by
  obtain ⟨t, hm⟩ := hm
  exact de_glo (v := .int z) hg hm ⟨t, rfl⟩ (fun _ => .int z) hd
end
theorem room_u {k : Nat} {A : Around} (r : Room k A) (n : Nat) (h : n ≤ 200) : A.units + n < cLine := by have := r.un; omega
end Lc

set_option Elab.async false
set_option maxRecDepth 100000
set_option maxHeartbeats 4000000
/-! Part Q: the denotations computed by simp. -/
namespace Lc
open PySem L2
section
variable {α β : Type} {r r1 : Rho} {m : M α} {f : α → M β}
@[simp] theorem q_bind : M.bind m f r = (match m r with | .ok a r1 => f a r1 | .exc x r1 => .exc x r1 | .fail => .fail) := rfl
@[simp] theorem q_ret {a : α} : M.ret a r = .ok a r := rfl
@[simp] theorem q_no : (M.no : M α) r = .fail := rfl
@[simp] theorem q_optS {a : α} : M.opt (some a) r = .ok a r := rfl
@[simp] theorem q_optN : M.opt (none : Option α) r = .fail := rfl
@[simp] theorem q_view {w : W} : M.view w r = (match w.view r with | some d => .ok d r | none => .fail) := rfl
@[simp] theorem q_wd {d : D} {l : List (Option Sl)} {b : List Bo} : W.view ⟨l, b, []⟩ (.dt d) = some d := rfl
@[simp] theorem q_wdi {i : Int} : W.view r (.dt (.int i)) = some (.int i) := by simp only [W.view, Rho.cur]; split <;> rfl
@[simp] theorem q_wdb {i : Bool} : W.view r (.dt (.bl i)) = some (.bl i) := by simp only [W.view, Rho.cur]; split <;> rfl
@[simp] theorem q_wds {i : Str} : W.view r (.dt (.str i)) = some (.str i) := by simp only [W.view, Rho.cur]; split <;> rfl
@[simp] theorem q_wdn : W.view r (.dt .non) = some .non := by simp only [W.view, Rho.cur]; split <;> rfl
@[simp] theorem q_wdl {i : List D} : W.view r (.dt (.lst i)) = some (.lst i) := by simp only [W.view, Rho.cur]; split <;> rfl
@[simp] theorem q_wdt {i : List D} : W.view r (.dt (.tup i)) = some (.tup i) := by simp only [W.view, Rho.cur]; split <;> rfl
@[simp] theorem q_wdd {i : List (D × D)} : W.view r (.dt (.dct i)) = some (.dct i) := by simp only [W.view, Rho.cur]; split <;> rfl
@[simp] theorem q_wdc {i : Str} : W.view r (.dt (.cls i)) = some (.cls i) := by simp only [W.view, Rho.cur]; split <;> rfl
@[simp] theorem q_wdy {i : String} : W.view r (.dt (.ty i)) = some (.ty i) := by simp only [W.view, Rho.cur]; split <;> rfl
@[simp] theorem q_wdr {i : List Int} : W.view r (.dt (.scr i)) = some (.scr i) := by simp only [W.view, Rho.cur]; split <;> rfl
theorem q_wst {k : Nat} {c : Cn} (h : r.st[k]? = some c) : W.view r (.dt (.sto k)) = some c.toD := by
  simp only [W.view, Rho.cur]
  split
  · rename_i e; rw [e] at h; simp at h
  · simp only [D.cur, h]
@[simp] theorem q_wsc {k : Nat} {c : Cn} {st : List Cn} {l : List (Option Sl)} {b : List Bo} : W.view ⟨l, b, c :: st⟩ (.dt (.sto k)) = (match (c :: st)[k]? with | some c => some c.toD | none => none) := rfl
@[simp] theorem q_wf {c : Cn} : W.view r (.fresh c) = some c.toD := rfl
@[simp] theorem q_wc {z : Ix} : W.view r (.cel z) = r.look z := rfl
@[simp] theorem q_tl {l : List D} : Cn.toD (.lst l) = .lst l := rfl
@[simp] theorem q_td {l : List (D × D)} : Cn.toD (.dct l) = .dct l := rfl
@[simp] theorem q_ll {i : Nat} {l : List (Option Sl)} {b : List Bo} {s0 : List Cn} : Rho.look ⟨l, b, s0⟩ (.loc i) = (match l[i]? with | some (some (.own c)) => some c.toD | some (some (.dt d)) => some d | _ => none) := rfl
@[simp] theorem q_lb {i : Nat} {l : List (Option Sl)} {b : List Bo} {s0 : List Cn} : Rho.look ⟨l, b, s0⟩ (.bor i) = (match b[i]? with | some (.own c) => some c.toD | some (.dt d) => some d | _ => none) := rfl
@[simp] theorem q_cl {i : Nat} {l : List (Option Sl)} {b : List Bo} {s0 : List Cn} : Rho.cnt ⟨l, b, s0⟩ (.loc i) = (match l[i]? with | some (some (.own c)) => some c | _ => none) := rfl
@[simp] theorem q_cb {i : Nat} {l : List (Option Sl)} {b : List Bo} {s0 : List Cn} : Rho.cnt ⟨l, b, s0⟩ (.bor i) = (match b[i]? with | some (.own c) => some c | _ => none) := rfl
@[simp] theorem q_sl {i : Nat} {l : List (Option Sl)} {b : List Bo} {s0 : List Cn} {c : Cn} : Rho.setc ⟨l, b, s0⟩ c (.loc i) = ⟨l.set i (some (.own c)), b, s0⟩ := rfl
@[simp] theorem q_sb {i : Nat} {l : List (Option Sl)} {b : List Bo} {s0 : List Cn} {c : Cn} : Rho.setc ⟨l, b, s0⟩ c (.bor i) = ⟨l, b.set i (.own c), s0⟩ := rfl
@[simp] theorem q_fl {i : Nat} {l : List (Option Sl)} {b : List Bo} {s0 : List Cn} {d : D} : Rho.frz ⟨l, b, s0⟩ d (.loc i) = ⟨l.set i (some (.dt d)), b, s0⟩ := rfl
@[simp] theorem q_fb {i : Nat} {l : List (Option Sl)} {b : List Bo} {s0 : List Cn} {d : D} : Rho.frz ⟨l, b, s0⟩ d (.bor i) = ⟨l, b.set i (.dt d), s0⟩ := rfl
@[simp] theorem q_put {i : Nat} {l : List (Option Sl)} {b : List Bo} {s0 : List Cn} {s : Sl} : Rho.put ⟨l, b, s0⟩ i s = ⟨l.set i (some s), b, s0⟩ := rfl
@[simp] theorem q_giveS {b : Bo} : M.give (some b) r = .ok b.toW r := rfl
@[simp] theorem q_giveN : M.give none r = .fail := rfl
@[simp] theorem q_bod {d : D} : Bo.toW (.dt d) = .dt d := rfl
@[simp] theorem q_boo {c : Cn} : Bo.toW (.own c) = .fresh c := rfl
@[simp] theorem q_chk {c : Bool} : M.chk c r = if c = true then .ok () r else .fail := rfl
@[simp] theorem q_var {i : Nat} : cVar i r = (match r.loc[i]? with | some (some (.dt d)) => .ok (.dt d) r | some (some (.own _)) => .ok (.cel (.loc i)) r | some (some (.bor k)) => .ok (.cel (.bor k)) r | _ => .fail) := rfl
@[simp] theorem q_c {d : D} : cC d r = .ok (.dt d) r := rfl
variable {fa fb fc : M W} {ga gb : M Bool} {g g' : D → D → Option Bo} {g1 : D → Option Bo} {gl : List D → Option Bo} {fs : M (List W)}
@[simp] theorem q_op2 : cOp2 g fa fb = M.bind fa fun wa => M.bind fb fun wb => M.bind (M.view wa) fun da => M.bind (M.view wb) fun db => M.give (g da db) := rfl
@[simp] theorem q_op1 : cOp1 g1 fa = M.bind fa fun wa => M.bind (M.view wa) fun da => M.give (g1 da) := rfl
@[simp] theorem q_tru : cTru fa = M.bind fa fun w => M.bind (M.view w) fun d => M.opt d.tru := rfl
@[simp] theorem q_bl : M.bl fa = M.bind fa W.asB := rfl
@[simp] theorem q_asB {b : Bool} : W.asB (.dt (.bl b)) = M.ret b := rfl
@[simp] theorem q_asI {i : Int} : W.asI (.dt (.int i)) = M.ret (some i) := rfl
@[simp] theorem q_asS {i : Str} : W.asS (.dt (.str i)) = M.ret i := rfl
@[simp] theorem q_andT : cAndT ga gb = M.bind ga fun k => if k = true then gb else M.ret false := rfl
@[simp] theorem q_orT : cOrT ga gb = M.bind ga fun k => if k = true then M.ret true else gb := rfl
@[simp] theorem q_notT : cNotT ga = M.bind ga fun k => M.ret (!k) := rfl
@[simp] theorem q_and : cAnd fa fb = M.bind fa fun w => M.bind (M.view w) fun d => M.bind (M.opt d.tru) fun k => if k = true then fb else M.ret w := rfl
@[simp] theorem q_or : cOr fa fb = M.bind fa fun w => M.bind (M.view w) fun d => M.bind (M.opt d.tru) fun k => if k = true then M.ret w else fb := rfl
@[simp] theorem q_not : cNot fa = M.bind (cTru fa) fun k => M.ret (.dt (.bl (!k))) := rfl
@[simp] theorem q_ifE : cIfE ga fa fb = M.bind ga fun k => if k = true then fa else fb := rfl
@[simp] theorem q_trb {b : Bool} : D.tru (.bl b) = some b := rfl
@[simp] theorem q_chain : cChain g g' fa fb fc = M.bind fa fun wa => M.bind fb fun wb => M.bind (M.view wa) fun da => M.bind (M.view wb) fun db => match g da db with
  | some (.dt (.bl true)) => M.bind fc fun wc => M.bind (M.view wb) fun db => M.bind (M.view wc) fun dc => M.give (g' db dc)
  | some (.dt (.bl false)) => M.ret (.dt (.bl false))
  | _ => M.no := rfl
@[simp] theorem q_frzD {d : D} : W.frz (.dt d) r = .ok d r := rfl
@[simp] theorem q_frzF {c : Cn} : W.frz (.fresh c) r = .ok c.toD r := rfl
@[simp] theorem q_frzC {z : Ix} : W.frz (.cel z) r = (match r.cnt z with | some c => .ok c.toD (r.frz c.toD z) | none => match r.look z with | some d => .ok d r | none => .fail) := rfl
@[simp] theorem q_fan : frzAll [] = M.ret [] := rfl
@[simp] theorem q_fac {w : W} {ws : List W} : frzAll (w :: ws) = M.bind w.frz fun d => M.bind (frzAll ws) fun ds => M.ret (d :: ds) := rfl
@[simp] theorem q_van : viewAll [] = M.ret [] := rfl
@[simp] theorem q_vac {w : W} {ws : List W} : viewAll (w :: ws) = M.bind (M.view w) fun d => M.bind (viewAll ws) fun ds => M.ret (d :: ds) := rfl
@[simp] theorem q_cons : cCons fa fs = M.bind fa fun w => M.bind fs fun ws => M.ret (w :: ws) := rfl
@[simp] theorem q_lst : cLst fs = M.bind fs fun ws => M.bind (frzAll ws) fun ds => M.bind (M.chk (decide (ds.length ≤ sizeLine))) fun _ => M.ret (.fresh (.lst ds)) := rfl
@[simp] theorem q_tup : cTup fs = M.bind fs fun ws => M.bind (frzAll ws) fun ds => M.bind (M.chk (decide (ds.length ≤ sizeLine))) fun _ => M.ret (.dt (.tup ds)) := rfl
@[simp] theorem q_callP : cCallP gl fs = M.bind fs fun ws => M.bind (viewAll ws) fun ds => M.give (gl ds) := rfl
@[simp] theorem q_csl {gs : D → Option Int → Option Int → Option Bo} {lo hi : M (Option Int)} : cSl gs fa lo hi = M.bind fa fun w => M.bind lo fun lo => M.bind hi fun hi => M.bind (M.view w) fun d => M.give (gs d lo hi) := rfl
@[simp] theorem q_m1 {gm : Str → List D → Option Bo} : cM1 gm fa fb = M.bind fa fun wo => M.bind wo.asS fun a => M.bind fb fun we => M.bind (M.view we) fun d => M.give (gm a [d]) := rfl
@[simp] theorem q_m0 {gm : Str → List D → Option Bo} : cM0 gm fa = M.bind fa fun wo => M.bind wo.asS fun a => M.give (gm a []) := rfl
@[simp] theorem q_dct0 : cDct0 = M.ret (.fresh (.dct [])) := rfl
@[simp] theorem q_dct : cDct fs = M.bind fs fun ws => M.bind (frzAll ws) fun ds => M.bind (M.opt (pairsD ds)) fun l => M.bind (M.chk (decide (l.length ≤ 15))) fun _ => M.ret (.fresh (.dct (mergeD [] l))) := rfl
variable {sf sg : M Fl} {T : W → M Unit}
@[simp] theorem q_seq : cSeq sf sg r = (match sf r with | .ok .next r1 => sg r1 | x => x) := rfl
@[simp] theorem q_drop : cDrop fa = M.bind fa fun _ => M.ret .next := rfl
@[simp] theorem q_cret : cRet fa = M.bind fa fun w => M.ret (.ret w) := rfl
@[simp] theorem q_ifS : cIfS ga sf sg = M.bind ga fun k => if k = true then sf else sg := rfl
@[simp] theorem q_asg : cAsg fa T = M.bind fa fun w => M.bind (T w) fun _ => M.ret .next := rfl
@[simp] theorem q_for {fi : M (List D)} : cFor fi T sf = M.bind fi (loopL T sf) := rfl
@[simp] theorem q_gN {i : Nat} {w : W} : gN i w = M.bind (settle w) fun sl => fun r => if i < r.loc.length then .ok () (r.put i sl) else .fail := rfl
@[simp] theorem q_sed {d : D} : settle (.dt d) r = .ok (.dt d) r := rfl
@[simp] theorem q_sef {c : Cn} : settle (.fresh c) r = .ok (.own c) r := rfl
@[simp] theorem q_seb {k : Nat} : settle (.cel (.bor k)) r = .ok (.bor k) r := rfl
@[simp] theorem q_sec {i : Nat} : settle (.cel (.loc i)) r = (match r.cnt (.loc i) with | some c => .ok (.dt c.toD) (r.frz c.toD (.loc i)) | none => match r.look (.loc i) with | some d => .ok (.dt d) r | none => .fail) := rfl
@[simp] theorem q_gT {n : Nat} {h : List D → M Unit} {ds : List D} : gT n h (.dt (.tup ds)) = M.bind (M.chk (decide (ds.length = n))) fun _ => h ds := rfl
@[simp] theorem q_gsn : gsNil [] = M.ret () := rfl
@[simp] theorem q_gsc {h : List D → M Unit} {d : D} {ds : List D} : gsCons T h (d :: ds) = M.bind (T (.dt d)) fun _ => h ds := rfl
@[simp] theorem q_gix {d : D} : gIx fa fb (.dt d) = M.bind fa fun wo => M.bind fb fun wi => match wo, wi with
    | .cel z, .dt (.int i) => fun r => match r.cnt z with
      | some (.lst ds) => match ixN ds.length i with
        | some j => .ok () (r.setc (.lst (ds.set j d)) z)
        | none => .fail
      | _ => .fail
    | _, _ => M.no := rfl
@[simp] theorem q_par {i j : Nat} : cPar2 i j fs = M.bind fs fun ws => match ws with
  | [w1, w2] => if w2.isLoc i = true then M.no else M.bind (gN i w1) fun _ => M.bind (gN j w2) fun _ => M.ret .next
  | _ => M.no := rfl
@[simp] theorem q_isd {i : Nat} {d : D} : W.isLoc i (.dt d) = false := rfl
@[simp] theorem q_isf {i : Nat} {c : Cn} : W.isLoc i (.fresh c) = false := rfl
@[simp] theorem q_isb {i k : Nat} : W.isLoc i (.cel (.bor k)) = false := rfl
@[simp] theorem q_isl {i k : Nat} : W.isLoc i (.cel (.loc k)) = decide (k = i) := rfl
@[simp] theorem q_its {x : Str} : W.items (.dt (.str x)) = M.ret (signs x) := rfl
@[simp] theorem q_itt {l : List D} : W.items (.dt (.tup l)) = M.ret l := rfl
@[simp] theorem q_itl {l : List D} : W.items (.dt (.lst l)) = M.ret l := rfl
@[simp] theorem q_itf {l : List D} : W.items (.fresh (.lst l)) = M.ret l := rfl
@[simp] theorem q_rng1 {j : Int} : W.rng1 [.dt (.int j)] = M.bind (M.chk (decide (-(2 ^ 62) ≤ j ∧ j < 2 ^ 62))) fun _ => M.ret (rngD 0 j.toNat) := rfl
@[simp] theorem q_rng2 {i j : Int} : W.rng2 [.dt (.int i), .dt (.int j)] = M.bind (M.chk (decide (-(2 ^ 62) ≤ i ∧ i < 2 ^ 62 ∧ -(2 ^ 62) ≤ j ∧ j < 2 ^ 62))) fun _ => M.ret (rngD i (j - i).toNat) := rfl
@[simp] theorem q_wipe {l : List (Option Sl)} {b : List Bo} {s0 : List Cn} {own : List Nat} : Rho.wipe ⟨l, b, s0⟩ own = ⟨wipeG l own, b, s0⟩ := rfl
@[simp] theorem q_wgn {l : List (Option Sl)} : wipeG l [] = l := rfl
@[simp] theorem q_wgc {l : List (Option Sl)} {v : Nat} {vs : List Nat} : wipeG l (v :: vs) = (wipeG l vs).set v none := rfl
@[simp] theorem q_back {l : List (Option Sl)} {b : List Bo} {s0 : List Cn} {re : Rho} {own : List Nat} : Rho.back ⟨l, b, s0⟩ re own = ⟨backL l re.loc own, re.bor, re.st⟩ := rfl
@[simp] theorem q_bkn {l l' : List (Option Sl)} : backL l l' [] = l' := rfl
@[simp] theorem q_bkc {l l' : List (Option Sl)} {v : Nat} {vs : List Nat} : backL l l' (v :: vs) = (match l[v]? with | some x => (backL l l' vs).set v x | none => backL l l' vs) := by rw [backL]; cases l[v]? <;> rfl
@[simp] theorem q_noOwn {l : List (Option Sl)} {b : List Bo} {s0 : List Cn} {own : List Nat} : Rho.noOwn ⟨l, b, s0⟩ own = own.all fun i => match l[i]? with | some (some (.own _)) => false | _ => true := rfl
@[simp] theorem q_lc {fi : M (List D)} {own : List Nat} : cLc fi own T ga fa = M.bind fi fun ds => fun r1 => if r1.noOwn own = true then
  match lcLoop own T ga fa ds [] (r1.wipe own) with
  | .ok acc re => .ok (.fresh (.lst acc)) (r1.back re own)
  | _ => .fail
  else .fail := rfl
@[simp] theorem q_agd {d : D} : argOf r (.dt d) = some (.dt d) := rfl
@[simp] theorem q_agf {c : Cn} : argOf r (.fresh c) = some (.own c) := rfl
@[simp] theorem q_agc {z : Ix} : argOf r (.cel z) = (match r.cnt z with | some c => some (.own c) | none => match r.look z with | some d => some (.dt d) | none => none) := rfl
@[simp] theorem q_asn : argsOf r [] = some [] := rfl
@[simp] theorem q_asc {w : W} {ws : List W} : argsOf r (w :: ws) = (match argOf r w, argsOf r ws with | some b, some bs => some (b :: bs) | _, _ => none) := rfl
@[simp] theorem q_ced {d : D} : celOf r (.dt d) = none := rfl
@[simp] theorem q_cef {c : Cn} : celOf r (.fresh c) = none := rfl
@[simp] theorem q_cec {z : Ix} : celOf r (.cel z) = (match r.cnt z with | some _ => some z | none => none) := rfl
@[simp] theorem q_apn : apart r [] = true := rfl
@[simp] theorem q_apc {w : W} {ws : List W} : apart r (w :: ws) = ((match celOf r w with | some z => ws.all fun u => decide (celOf r u ≠ some z) | none => true) && apart r ws) := rfl
@[simp] theorem q_fi0 {z : Ix} {bs : List Bo} : findArg z [] bs = none := by cases bs <;> rfl
@[simp] theorem q_fic {z z' : Ix} {ws : List W} {b : Bo} {bs : List Bo} : findArg z (.cel z' :: ws) (b :: bs) = if z' = z then some b else findArg z ws bs := rfl
@[simp] theorem q_fid {z : Ix} {d : D} {ws : List W} {b : Bo} {bs : List Bo} : findArg z (.dt d :: ws) (b :: bs) = findArg z ws bs := rfl
@[simp] theorem q_fif {z : Ix} {c : Cn} {ws : List W} {b : Bo} {bs : List Bo} : findArg z (.fresh c :: ws) (b :: bs) = findArg z ws bs := rfl
@[simp] theorem q_usn {ws : List W} {bs : List Bo} {i : Nat} : upSl ws bs i none = none := rfl
@[simp] theorem q_usd {ws : List W} {bs : List Bo} {i : Nat} {d : D} : upSl ws bs i (some (.dt d)) = some (.dt d) := rfl
@[simp] theorem q_usb {ws : List W} {bs : List Bo} {i k : Nat} : upSl ws bs i (some (.bor k)) = some (.bor k) := rfl
@[simp] theorem q_uso {ws : List W} {bs : List Bo} {i : Nat} {c : Cn} : upSl ws bs i (some (.own c)) = (match findArg (.loc i) ws bs with | some (.own c') => some (.own c') | some (.dt d) => some (.dt d) | none => some (.own c)) := rfl
@[simp] theorem q_ubd {ws : List W} {bs : List Bo} {i : Nat} {d : D} : upBo ws bs i (.dt d) = .dt d := rfl
@[simp] theorem q_ubo {ws : List W} {bs : List Bo} {i : Nat} {c : Cn} : upBo ws bs i (.own c) = (match findArg (.bor i) ws bs with | some b => b | none => .own c) := rfl
@[simp] theorem q_aft {l : List (Option Sl)} {b : List Bo} {s0 s1 : List Cn} {ws : List W} {bs : List Bo} : Rho.after ⟨l, b, s0⟩ ws bs s1 = ⟨l.mapIdx (upSl ws bs), b.mapIdx (upBo ws bs), s1⟩ := rfl
@[simp] theorem q_callT {F : FnS} : cCallT F fs = M.bind fs fun ws => fun r => match argsOf r ws with
  | some as => if apart r ws = true then match F as r.st with
      | .ok b bs s1 => .ok b.toW (r.after ws bs s1)
      | .exc x bs s1 => .exc x (r.after ws bs s1)
      | .fail => .fail
    else .fail
  | none => .fail := rfl
@[simp] theorem q_call {F : Fn} : cCall F fs = cCallT F.up fs := rfl
@[simp] theorem q_upn {F : Fn} {as : List Bo} : F.up as [] = (F as).up [] := rfl
@[simp] theorem q_upc {F : Fn} {as : List Bo} {c : Cn} {s : List Cn} : F.up as (c :: s) = if as.all Bo.nm = true then (F as).up (c :: s) else .fail := rfl
@[simp] theorem q_upok {b : Bo} {bs : List Bo} {s : List Cn} : FRes.up s (.ok b bs) = .ok b bs s := rfl
@[simp] theorem q_upex {x : Ex} {bs : List Bo} {s : List Cn} : FRes.up s (.exc x bs) = .exc x bs s := rfl
@[simp] theorem q_upfa {s : List Cn} : FRes.up s .fail = .fail := rfl
@[simp] theorem q_dok {b : Bo} {bs : List Bo} : FReS.down (.ok b bs []) = .ok b bs := rfl
@[simp] theorem q_dokc {b : Bo} {bs : List Bo} {c : Cn} {s : List Cn} : FReS.down (.ok b bs (c :: s)) = if b.nm && bs.all Bo.nm then .ok b bs else .fail := rfl
@[simp] theorem q_dex {x : Ex} {bs : List Bo} : FReS.down (.exc x bs []) = .exc x bs := rfl
@[simp] theorem q_dexc {x : Ex} {bs : List Bo} {c : Cn} {s : List Cn} : FReS.down (.exc x bs (c :: s)) = if x.nm && bs.all Bo.nm then .exc x bs else .fail := rfl
@[simp] theorem q_dfa : FReS.down .fail = .fail := rfl
@[simp] theorem q_eln {k : Nat} : entryL k [] = [] := rfl
@[simp] theorem q_eld {k : Nat} {d : D} {as : List Bo} : entryL k (.dt d :: as) = some (.dt d) :: entryL (k + 1) as := rfl
@[simp] theorem q_elo {k : Nat} {c : Cn} {as : List Bo} : entryL k (.own c :: as) = some (.bor k) :: entryL (k + 1) as := rfl
@[simp] theorem q_ent {n : Nat} {as : List Bo} {s : List Cn} : entry n as s = ⟨entryL 0 as ++ List.replicate (n - as.length) none, as, s⟩ := rfl
@[simp] theorem q_fid2 {d : D} : finish (.dt d) r = .ok (.dt d) r.bor r.st := rfl
@[simp] theorem q_fif2 {c : Cn} : finish (.fresh c) r = .ok (.own c) r.bor r.st := rfl
@[simp] theorem q_fil {i : Nat} : finish (.cel (.loc i)) r = (match r.cnt (.loc i) with | some c => .ok (.own c) r.bor r.st | none => match r.look (.loc i) with | some d => .ok (.dt d) r.bor r.st | none => .fail) := rfl
@[simp] theorem q_fib {k : Nat} : finish (.cel (.bor k)) r = (match r.cnt (.bor k) with | some c => .ok (.dt c.toD) (r.frz c.toD (.bor k)).bor r.st | none => match r.look (.bor k) with | some d => .ok (.dt d) r.bor r.st | none => .fail) := rfl
theorem q_runS {n : Nat} {b : M Fl} {as : List Bo} {s : List Cn} : runS n b as s = (match b (entry n as s) with | .ok .next r => .ok (.dt .non) r.bor r.st | .ok (.ret w) r => finish w r | .ok _ _ => .fail | .exc x r => .exc x r.bor r.st | .fail => .fail) := rfl
theorem q_run {n : Nat} {b : M Fl} {as : List Bo} : runF n b as = (match b (entry n as []) with | .ok .next r => FReS.down (.ok (.dt .non) r.bor r.st) | .ok (.ret w) r => (finish w r).down | .ok _ _ => .fail | .exc x r => FReS.down (.exc x r.bor r.st) | .fail => .fail) := by
  simp only [runF, FnS.down, runS]
  cases b (entry n as []) with
  | ok f r => cases f <;> rfl
  | exc x r => rfl
  | fail => rfl
@[simp] theorem q_iD {i : Int} : iD i = some (.dt (.int i)) := rfl
@[simp] theorem q_bD {i : Bool} : bD i = some (.dt (.bl i)) := rfl
@[simp] theorem q_sD {i : Str} : sD i = some (.dt (.str i)) := rfl
theorem q_size : sizeLine = 16777216 := sizeLine_eq
/-- a loop that goes through -/
theorem loopL_inv {T : W → M Unit} {body : M Fl} (I : Rho → Prop) : ∀ (ds : List D) (r : Rho), I r → (∀ d ∈ ds, ∀ r, I r → ∃ r1 r2, T (.dt d) r = .ok () r1 ∧ body r1 = .ok .next r2 ∧ I r2) → ∃ r', loopL T body ds r = .ok .next r' ∧ I r'
  | [], r, h, _ => ⟨r, rfl, h⟩
  | d :: ds, r, h, k => by
    obtain ⟨r1, r2, e1, e2, h2⟩ := k d List.mem_cons_self r h
    obtain ⟨r', e3, h3⟩ := loopL_inv I ds r2 h2 fun x hx => k x (List.mem_cons_of_mem _ hx)
    exact ⟨r', by simp only [loopL, e1, e2, e3], h3⟩
/-- a comprehension without tests: each step's value by a relation -/
theorem lc_inv {own : List Nat} {T : W → M Unit} {fe : M W} (I : Rho → Prop) (G : D → Prop) : ∀ (ds : List D) (acc : List D) (r : Rho), acc.length + ds.length ≤ sizeLine → I r →
    (∀ d ∈ ds, ∀ r, I r → ∃ r1 w r3 y r4, T (.dt d) r = .ok () r1 ∧ fe r1 = .ok w r3 ∧ w.frz r3 = .ok y r4 ∧ G y ∧ I (r4.wipe own)) →
    ∃ ys r', lcLoop own T (M.ret true) fe ds acc r = .ok (acc ++ ys) r' ∧ I r' ∧ ys.length = ds.length ∧ ∀ y ∈ ys, G y
  | [], acc, r, _, h, _ => ⟨[], r, by rw [List.append_nil]; rfl, h, rfl, fun _ z => nomatch z⟩
  | d :: ds, acc, r, hl, h, k => by
    obtain ⟨r1, w, r3, y, r4, e1, e2, e3, hg, h2⟩ := k d List.mem_cons_self r h
    rw [List.length_cons] at hl
    obtain ⟨ys, r', e4, h3, h5, h6⟩ := lc_inv (own := own) (T := T) (fe := fe) I G ds (acc ++ [y]) (r4.wipe own) (by rw [List.length_append, List.length_singleton]; omega) h2 fun x hx => k x (List.mem_cons_of_mem _ hx)
    refine ⟨y :: ys, r', ?_, h3, by rw [List.length_cons, List.length_cons, h5], fun z hz => ?_⟩
    · have hlt : acc.length < sizeLine := by omega
      simp only [lcLoop, e1, M.ret, e2, e3, if_pos hlt, e4, List.append_assoc, List.singleton_append]
    · rcases List.mem_cons.mp hz with rfl | hz
      · exact hg
      · exact h6 z hz
/-- a comprehension whose values are a function of the items, the frame left as it was -/
theorem lc_map {own : List Nat} {T : W → M Unit} {fe : M W} {r : Rho} (G : D → D) : ∀ (ds : List D) (acc : List D), acc.length + ds.length ≤ sizeLine →
    (∀ d ∈ ds, ∃ r1 w r3 r4, T (.dt d) r = .ok () r1 ∧ fe r1 = .ok w r3 ∧ w.frz r3 = .ok (G d) r4 ∧ r4.wipe own = r) →
    lcLoop own T (M.ret true) fe ds acc r = .ok (acc ++ ds.map G) r
  | [], acc, _, _ => by rw [List.map_nil, List.append_nil]; rfl
  | d :: ds, acc, hl, k => by
    obtain ⟨r1, w, r3, r4, e1, e2, e3, h2⟩ := k d List.mem_cons_self
    rw [List.length_cons] at hl
    have hlt : acc.length < sizeLine := by omega
    simp only [lcLoop, e1, M.ret, e2, e3, if_pos hlt, h2]
    have := lc_map (own := own) (T := T) (fe := fe) (r := r) G ds (acc ++ [G d]) (by rw [List.length_append, List.length_singleton]; omega) fun x hx => k x (List.mem_cons_of_mem _ hx)
    rw [this, List.map_cons, List.append_assoc, List.singleton_append]
theorem cLc_inv {fi : M (List D)} {own : List Nat} {T : W → M Unit} {fe : M W} {ds : List D} {r r1 : Rho} (hi : fi r = .ok ds r1) (hno : r1.noOwn own = true) (I : Rho → Prop) (G : D → Prop) (hl : ds.length ≤ sizeLine) (h0 : I (r1.wipe own))
    (k : ∀ d ∈ ds, ∀ r, I r → ∃ r1 w r3 y r4, T (.dt d) r = .ok () r1 ∧ fe r1 = .ok w r3 ∧ w.frz r3 = .ok y r4 ∧ G y ∧ I (r4.wipe own)) :
    ∃ ys re, cLc fi own T (M.ret true) fe r = .ok (.fresh (.lst ys)) (r1.back re own) ∧ I re ∧ ys.length = ds.length ∧ ∀ y ∈ ys, G y := by
  obtain ⟨ys, re, e, h1, h2, h3⟩ := lc_inv (own := own) (T := T) (fe := fe) I G ds [] (r1.wipe own) (by simpa using hl) h0 k
  refine ⟨ys, re, ?_, h1, h2, h3⟩
  rw [List.nil_append] at e
  simp only [cLc, M.bind, hi, if_pos hno, e]
theorem cLc_map {fi : M (List D)} {own : List Nat} {T : W → M Unit} {fe : M W} {ds : List D} {r r1 : Rho} (hi : fi r = .ok ds r1) (hno : r1.noOwn own = true) (G : D → D) (hl : ds.length ≤ sizeLine)
    (k : ∀ d ∈ ds, ∃ r2 w r3 r4, T (.dt d) (r1.wipe own) = .ok () r2 ∧ fe r2 = .ok w r3 ∧ w.frz r3 = .ok (G d) r4 ∧ r4.wipe own = r1.wipe own) :
    cLc fi own T (M.ret true) fe r = .ok (.fresh (.lst (ds.map G))) (r1.back (r1.wipe own) own) := by
  have e := lc_map (own := own) (T := T) (fe := fe) (r := r1.wipe own) G ds [] (by simpa using hl) k
  rw [List.nil_append] at e
  simp only [cLc, M.bind, hi, if_pos hno, e]
theorem cFor_inv {fi : M (List D)} {T : W → M Unit} {body : M Fl} {ds : List D} {r r1 : Rho} (hi : fi r = .ok ds r1) (I : Rho → Prop) (h0 : I r1) (k : ∀ d ∈ ds, ∀ r, I r → ∃ r1 r2, T (.dt d) r = .ok () r1 ∧ body r1 = .ok .next r2 ∧ I r2) :
    ∃ r', cFor fi T body r = .ok .next r' ∧ I r' := by
  obtain ⟨r', e, h⟩ := loopL_inv I ds r1 h0 k
  exact ⟨r', by simp only [cFor, M.bind, hi, e], h⟩
end
end Lc

set_option Elab.async false
set_option maxRecDepth 100000
set_option maxHeartbeats 4000000
/-! Part R: texts by their length and signs. -/
namespace Lc
open PySem L2
/-- at most n signs, none of them beyond the code points -/
structure Wd (n : Nat) (x : Str) : Prop where
  len : x.length ≤ n
  low : ∀ c ∈ x.cps.toList, c < 1114112
theorem Wd.mono {n m : Nat} {x : Str} (h : Wd n x) (l : n ≤ m) : Wd m x := ⟨Nat.le_trans h.len l, h.low⟩
theorem len_list (x : Str) : x.length = x.cps.toList.length := by simp [Str.length]
theorem Wd.app {n m : Nat} {x y : Str} (h : Wd n x) (k : Wd m y) : Wd (n + m) (x ++ y) := by
  refine ⟨by rw [Str.length_append]; have := h.len; have := k.len; omega, fun c hc => ?_⟩
  rw [Str.cps_append] at hc
  simp only [Array.toList_append, List.mem_append] at hc
  exact hc.elim (h.low c) (k.low c)
theorem Wd.of_list {n : Nat} {l : List Nat} (h : l.length ≤ n) (k : ∀ c ∈ l, c < 1114112) : Wd n ⟨l.toArray⟩ := ⟨by simpa [Str.length] using h, by simpa using k⟩
theorem Wd.cut {n : Nat} {x : Str} {lo hi : Option Int} (h : Wd n x) : Wd n (cutS x lo hi) := by
  refine Wd.of_list ?_ fun c hc => h.low c (List.mem_of_mem_drop (List.mem_of_mem_take hc))
  have := h.len
  rw [len_list] at this
  rw [List.length_take, List.length_drop]
  omega
theorem Wd.one {c : Nat} (h : c < 1114112) : Wd 1 ⟨#[c]⟩ := ⟨by simp [Str.length], by simpa using h⟩
theorem cut_len {x : Str} {k : Nat} (h : k ≤ x.length) : (cutS x none (some (k : Int))).length = k := by
  unfold cutS
  rw [HT.sIx_none, HT.sIx_nat]
  have := len_list x
  simp only [Str.length, List.size_toArray, List.length_take, List.drop_zero] at *
  omega
theorem join_wd {n : Nat} : ∀ {ys : List Str}, ys.length ≤ n → (∀ y ∈ ys, Wd 1 y ∧ y.length = 1) → Wd n (Txt.join (Str.ofString "") ys) ∧ (Txt.join (Str.ofString "") ys).length = ys.length := by
  intro ys
  rw [TL.join_eq]
  induction ys generalizing n with
  | nil => intro _ _; exact ⟨⟨by show 0 ≤ n; omega, fun c hc => by exact nomatch hc⟩, rfl⟩
  | cons y ys ih =>
    intro h k
    cases ys with
    | nil =>
      have := k y List.mem_cons_self
      exact ⟨this.1.mono (by simpa using h), this.2⟩
    | cons z r =>
      have hy := k y List.mem_cons_self
      obtain ⟨a, b⟩ := ih (n := n - 1) (by simp only [List.length_cons] at h ⊢; omega) fun u hu => k u (List.mem_cons_of_mem _ hu)
      have e : Str.join (Str.ofString "") (y :: z :: r) = y ++ Str.ofString "" ++ Str.join (Str.ofString "") (z :: r) := rfl
      have e0 : (Str.ofString "").length = 0 := by decide
      have w0 : Wd 0 (Str.ofString "") := ⟨by decide, fun c hc => by exact absurd hc (by decide +revert)⟩
      rw [e]
      refine ⟨((hy.1.app w0).app a).mono (by simp only [List.length_cons] at h; omega), ?_⟩
      rw [Str.length_append, Str.length_append, e0, hy.2, b]
      simp only [List.length_cons]
      omega
theorem rev_eq (x : Str) : revS x = ⟨x.cps.toList.reverse.toArray⟩ := by
  have e : slicePicked x none none (some (-1, 0)) = sliceRange ((x.length : Int) - 1) (-1) (-1) := rfl
  unfold revS
  rw [e, PySem.W.krv_sliceRange, PySem.W.krv_range, List.filterMap_reverse]
  have := PySem.W.krv_all x.cps
  rw [show x.length = x.cps.size from rfl, this]
theorem rev_wd {n : Nat} {x : Str} (h : Wd n x) : Wd n (revS x) := by
  rw [rev_eq]
  refine Wd.of_list ?_ fun c hc => h.low c (List.mem_reverse.mp hc)
  rw [List.length_reverse, ← len_list]
  exact h.len
theorem repr_len {n : Nat} {x : Str} (h : Wd n x) : (reprText x).length ≤ 10 * n + 2 := by
  have := StrLaws.reprText_len x fun c hc => Nat.lt_of_lt_of_le (h.low c hc) (by decide)
  have := h.len
  omega
theorem rok_str {n : Nat} {x : Str} (h : Wd n x) (hn : n ≤ 100000) : D.rok (.str x) = true := by
  have := repr_len h
  simp only [D.rok, D.shw, D.py, PyData.showable, D.shown, PyData.shown, PyData.depth, q_size, Bool.and_eq_true, decide_eq_true_eq, true_and]
  omega
theorem rok_lst {n : Nat} {x : Str} (h : Wd n x) (hn : n ≤ 100000) : D.rok (.lst [.str x]) = true := by
  have h1 := repr_len h
  have h2 := listText_len_le [reprText x]
  simp [D.rok, D.shw, D.shws, D.py, D.pys, PyData.showable, PyData.showableAll, D.shown, PyData.shown, PyData.shownAll, PyData.depth, PyData.depthAll, q_size] at h2 ⊢
  omega
theorem rok_tup {n : Nat} {x : Str} (h : Wd n x) (hn : n ≤ 100000) : D.rok (.tup [.str x]) = true := by
  have h1 := repr_len h
  have h2 : (tupleText [reprText x]).length = (reprText x).length + 3 := by
    rw [PyProof.Rows.tupleText_one, Str.length_append, Str.length_append]
    have e1 : (Str.ofString "(").length = 1 := by decide
    have e2 : (Str.ofString ",)").length = 2 := by decide
    omega
  simp [D.rok, D.shw, D.shws, D.py, D.pys, PyData.showable, PyData.showableAll, D.shown, PyData.shown, PyData.shownAll, PyData.depth, PyData.depthAll, q_size, h2] at h2 ⊢
  omega
theorem rok_int {i : Int} (h : i.natAbs.log2 < 1920) : D.rok (.int i) = true := by
  have h1 := int_text_fits h
  have h2 : (PyData.shown (.int i)).length ≤ sizeLine := by rw [PyData.shown]; exact h1
  simp only [D.rok, D.shw, D.py, PyData.showable, D.shown, PyData.depth, Bool.and_eq_true, decide_eq_true_eq, true_and]
  exact ⟨⟨h, by omega⟩, decide_eq_true h2⟩
theorem log_lt {i : Int} {k : Nat} (h : i.natAbs < 2 ^ k) (hk : 0 < k) : i.natAbs.log2 < k := by
  by_cases e : i.natAbs = 0
  · rw [e]; simpa using hk
  · exact (Nat.log2_lt e).mpr h
end Lc

set_option Elab.async false
set_option maxRecDepth 100000
set_option maxHeartbeats 4000000
/-! Part S: an own error whose __init__ says super().__init__(text), then stores its values. -/
namespace Lc
open PySem L2 PySem.Spec PyProof.Rows
/-- the class of Python's own under an error class -/
inductive Ba where
  | val | look | run | arith
def Ba.name : Ba → String
  | .val => "ValueError"
  | .look => "LookupError"
  | .run => "RuntimeError"
  | .arith => "ArithmeticError"
def Ba.new : Ba → String
  | .val => "ValueError.__new__"
  | .look => "LookupError.__new__"
  | .run => "RuntimeError.__new__"
  | .arith => "ArithmeticError.__new__"
def Ba.ini : Ba → String
  | .val => "ValueError.__init__"
  | .look => "LookupError.__init__"
  | .run => "RuntimeError.__init__"
  | .arith => "ArithmeticError.__init__"
def Ba.tail (b : Ba) : List Value := [.type b.name, .type "Exception", .type "BaseException", .type "object"]
structure BaF (b : Ba) : Prop where
  fb : ExcBaseFacts b.name b.new b.ini b.tail
  sf : StoreFacts b.name b.tail "object.__setattr__" "object"
  kf : PySem.W.KxsFacts b.name b.ini
theorem baF : ∀ b : Ba, BaF b
  | .val => ⟨F.excBase_ValueError, F.store_ValueError, PySem.W.kxs_ValueError⟩
  | .look => ⟨F.excBase_LookupError, F.store_LookupError, PySem.W.kxs_LookupError⟩
  | .run => ⟨F.excBase_RuntimeError, F.store_RuntimeError, PySem.W.kxs_RuntimeError⟩
  | .arith => ⟨F.excBase_ArithmeticError, F.store_ArithmeticError, PySem.W.kxs_ArithmeticError⟩
/-- what the written part says of an own error class over b -/
structure OexB (K : PySem.W.Frag) (b : Ba) (C : Addr) : Prop where
  cls : ∃ nm q N bs bm sn sub ab col dd k0 k1 k2 k3 k5, K.lookup C = some (excClassObj nm q C N bs bm true sn sub ab col dd k0 k1 k2 k3 k5 b.new) ∧ PySem.W.excTail b.tail bm = true
  sa : PySem.W.findIn K (.ref C) "__setattr__" = some (some (.builtin "object.__setattr__"))
  exC : PySem.W.subIn K (.ref C) (.type "BaseException") = some true
  tyC : PySem.W.typeIn K (.ref C) = some (.type "type")
  kC : PySem.W.keepIn K (.ref C) = true
/-- what the written part says of such a class, with its __init__ -/
structure XcI (K : PySem.W.Frag) (b : Ba) (file : Str) (params : Arguments) (body : List Stmt) (scope : Scope) (C fI cc cda : Addr) (fd : FuncData) : Prop where
  ox : OexB K b C
  iC : PySem.W.findIn K (.ref C) "__init__" = some (some (.ref fI))
  tI : PySem.W.typeIn K (.ref fI) = some (.type "function")
  lk : ∃ nm qual oc od doc pm an ct osl, fd = PySem.W.ksFn nm qual params body scope .none .none doc pm an (.ref cda) ct cc ∧ K.lookup fI = some ⟨oc, od, .func fd, osl⟩ ∧ PySem.W.codeIn K (.ref cda) qual = true
  co : ∃ ccl cdd vs ccs tf, K.lookup cda = some ⟨ccl, cdd, .fields vs, ccs⟩ ∧ vs[2]? = some (.str file tf)
  ce : ∃ cl cld csl, K.lookup cc = some ⟨cl, cld, .cell (some (.ref C)), csl⟩
  su : PySem.W.ks_superIn K C C "__init__" = some (some (.builtin b.ini))
  sb : PySem.W.subIn K (.ref C) (.type b.name) = some true
  op : PySem.W.nsIn K cStatics "thirdparty.any" = some none
  mr : PySem.W.mroIn K C (.ref C) = some true
section
variable {prog : Program} {w : World} {A : Around} {K : PySem.W.Frag} {b : Ba} {mg : Str → Option Value} {s : Shared}
/-- super().__init__(text), in the def's own frame -/
theorem super_init {file : Str} {params : Arguments} {body : List Stmt} {scope : Scope} {C fI cc cda a t0 L : Addr} {fd : FuncData} {p0 p1 p2 p3 p4 p5 : Pos} {txt : Str} {j : Nat} {ar : Arg} {m : Str → Option Value} {Q : Flow → Shared → Prop} {E : Value → Shared → Prop}
    (T : XcI K b file params body scope C fI cc cda fd) (X : K.In s.heap) (G : s.heap.Ns mainGlobals mg) (Bn : ∃ mb, s.heap.Ns builtinsNs mb ∧ ∀ x : Str, x ≠ "__name__" → mb x = bootBuiltins x) (hsup : mg "super" = none)
    (hp : (params.posonlyargs ++ params.args).head? = some ar) (hns : s.heap.Ns L m) (hself : m ar.arg = some (.ref a)) (ha : s.heap.get? a = some (PySem.HandSPX.excO C t0))
    (hfile : ((prog.main.file : Str) == file) = true) (htop : (prog.main.scope.names.lookup ("super" : Str)).isSome = false) (hboot : bootBuiltins "super" = some (.type "super"))
    (hks : scope.names.lookup ("super" : Str) = some .globalImplicit) (hkc : scope.names.lookup ("__class__" : Str) = some .free) (hka : scope.names.lookup ar.arg = some .local) (hk : scope.kind = .function)
    (hev : ∀ env : Env, ∃ pl : Sem Bool, eval (.Call (.Attribute (.Call (.Name "super" p0) [] [] p1) "__init__" p2) [.Constant (.str txt) j p3] [] p4) env = (do
      let ov ← attributeBase (.Call (.Name "super" p0) [] [] p1) "__init__" env (eval (.Call (.Name "super" p0) [] [] p1) env)
      standAt p2.atName
      let (f, first) ← holding [ov] (getMethod ov "__init__" pl)
      callWith p4 f first (backTo p4 (starEach [.Constant (.str txt) j p3] env)) []))
    (hq : ∀ h' t1 tk, (∀ b o, b ≠ a → s.heap.get? b = some o → h'.get? b = some o) → h'.get? a = some (PySem.HandSPX.excO C t1) → Q .next { s with heap := h', toks := tk }) :
    _root_.PySem.wpAt (model prog w) A (.func body (callEnv fd L fI)) (exec (.Expr (.Call (.Attribute (.Call (.Name "super" p0) [] [] p1) "__init__" p2) [.Constant (.str txt) j p3] [] p4) p5) (callEnv fd L fI)) Q E s := by
  obtain ⟨nm, qual, oc, od, doc, pm, an, ct, osl, rfl, lk, hcd⟩ := T.lk
  obtain ⟨ccl, cdd, vs, ccs, tf, hco, hvs⟩ := T.co
  obtain ⟨cl, cld, csl, hce⟩ := T.ce
  obtain ⟨nm2, q2, N, bs, bm, sn, sub, ab, col, dd, k0, k1, k2, k3, k5, hC, hbm⟩ := T.ox.cls
  obtain ⟨mb, hb1, hb2⟩ := Bn
  obtain ⟨hp0, g, d, t, os⟩ := s
  have hcl : PySem.W.clsIn K C = some { name := nm2, bases := bs, mro := .ref C :: bm, ns := N, qualname := q2, hasDict := true, slotNames := sn, subclasses := sub, abstract := ab, collection := col, hasDel := false } := by unfold PySem.W.clsIn; rw [hC] <;> rfl
  have Lne : L ≠ a := fun z => by
    obtain ⟨o, es, ep, e1, e2, _⟩ := hns
    rw [z, ha] at e1
    cases e1
    cases e2
  refine ks_wpAt_Expr_any ?_ (by have hk' : (callEnv (PySem.W.ksFn nm qual params body scope .none .none doc pm an (.ref cda) ct cc) L fI).scope.kind = .function := hk
                                 simp [interactive, hk'])
  obtain ⟨pl, hev⟩ := hev (callEnv (PySem.W.ksFn nm qual params body scope .none .none doc pm an (.ref cda) ct cc) L fI)
  refine ks_wpAt_MethodCall ?_ hev
  refine ks_wpAt_super_base (f := fI) (cc := cda) hks hkc (by decide) rfl (X _ _ lk) rfl hp rfl (X _ _ hco) rfl hvs hfile htop ?_
  refine PySem.W.ks_loadName_global hk hks (Calls.loadGlobal_builtin G hsup hb1 ((hb2 _ (by decide +kernel)).trans hboot) ⟨rfl, ?_⟩)
  refine wpAny_loadName_free hk hkc rfl ⟨_, X _ _ hce, rfl⟩ ?_
  refine wpAny_loadName_local hk hka hns hself ?_
  refine ks_wpAny_isType_cls (X _ _ hC) rfl ⟨rfl, ?_⟩
  refine ks_wpAny_call_super (X _ _ hC) rfl ha rfl (fun c e => nomatch e) (PySem.W.looks_mroIn X T.mr) fun h1 e1 k1 => ?_
  have X1 : K.In h1 := X.keeps k1
  have I1 : PySem.W.InstAt h1 a (PySem.HandSPX.excO C t0) C none := ⟨k1 _ _ ha, rfl, rfl, trivial⟩
  have sup := T.su
  unfold PySem.W.ks_superIn at sup
  rw [hcl] at sup
  refine PySem.W.kxs_getMethod (baF b).kf e1 (PySem.W.looks_opaque X1 T.op) (l₀ := .ref C :: bm) ((PySem.W.looks_clsIn X1 hcl).andThen .now) rfl X1 sup (I1.type.andThen (PySem.W.looks_subIn X1 T.sb)) (PySem.W.ks_ne X1 I1 hcl) (by decide) ?_
  have ne1 : ∀ {b : Addr} {o : Obj}, h1.get? b = some o → b ≠ h1.objs.size := fun e => Nat.ne_of_lt (Heap.lt_size e)
  refine PySem.W.kxs_callWith (i := b.ini) (x := a) rfl (Calls.evalArgs_plain (Calls.spliced_cons ?_))
  refine Calls.Constant_str (k := j) (pos := p3) (Calls.spliced_nil ⟨Heap.get?_push_size _ rfl, ?_⟩)
  have hu : (h1.push (PySem.W.kxs_mw b.ini a)).get? h1.objs.size = some (PySem.W.kxs_mw b.ini a) := Heap.get?_push_size _ rfl
  have up : ∀ c o, h1.get? c = some o → (h1.push (PySem.W.kxs_mw b.ini a)).get? c = some o := fun c o e => Heap.get?_push_of_some _ e
  have he := up _ _ (k1 _ _ ha)
  have hC2 := up _ _ (k1 _ _ (X _ _ hC))
  refine wpAny_call (codeAny_of_tree ?_); show wpAny _ A.in1 (callAny (.ref h1.objs.size) ⟨[.str txt _], []⟩) _ _ _
  simp only [callAny]; refine wpAny_bind (wpAny_load hu ?_)
  have z1 : (Value.type "method-wrapper" == Value.type "method" || Value.type "method-wrapper" == Value.type "builtin_function_or_method" || Value.type "method-wrapper" == Value.type "method-wrapper") = true := by decide
  simp only [PySem.W.kxs_mw, z1, if_true]
  refine PySem.W.KFB.if_so (by decide) (wpAny_bind (PySem.W.check_bound_init (baF b).fb.toExcCallFacts hC2 he rfl (wpAny_bind (wpAny_pure (wpAny_pure ⟨plainId_quiet (baF b).fb.init.plain _, codeAny_builtin (baF b).fb.initEntry ?_⟩)))))
  refine PySem.W.exc_init_tree (cls := .ref C) (t0 := t0) (dv := none) (c2 := .none) (c3 := .none) (b4 := .bool false) he (by show 1 ≤ sizeLine; rw [sizeLine_eq]; omega) fun h2 k2 e2 _ => ?_
  exact hq h2 _ _ (fun b o nb e => k2 b o nb (up b o (k1 b o e))) e2
theorem over_of {C : Addr} (T : OexB K b C) : PySem.W.excOver K C b.tail = true := by
  obtain ⟨nm, q, N, bs, bm, sn, sub, ab, col, dd, k0, k1, k2, k3, k5, hC, hbm⟩ := T.cls
  unfold PySem.W.excOver PySem.W.clsIn
  rw [hC]
  simp [hbm]
theorem taker_of {C : Addr} {f : Str} (h : PySem.W.findIn K (.ref C) f = some none) : PySem.W.takerIn K C f = some none := by
  unfold PySem.W.takerIn
  rw [h]
  rfl
/-- the first field -/
theorem store1 {C a : Addr} {f : Str} {u : Value} {t1 : Addr} {Q : Unit → Shared → Prop} {E : Value → Shared → Prop} (T : OexB K b C) (X : K.In s.heap) (hno : PySem.W.findIn K (.ref C) f = some none) (ha : s.heap.get? a = some (PySem.HandSPX.excO C t1))
    (hq : ∀ h' tk dx, (∀ b o, b ≠ a → s.heap.get? b = some o → h'.get? b = some o) → s.heap.objs.size ≤ dx → dx ≠ a → h'.get? a = some { cls := .ref C, dict := some dx, data := .fields #[.ref t1, .none, .none, .none, .bool false, .none] } →
      h'.Ns1 dx (fun y => if y = f then some u else none) → Q () { s with heap := h', toks := tk }) : wpAny (model prog w) A (setAttr (.ref a) f u) Q E s := by
  have ov := over_of T
  obtain ⟨nm, q, N, bs, bm, sn, sub, ab, col, dd, k0, k1, k2, k3, k5, hC, hbm⟩ := T.cls
  have hcl : PySem.W.clsIn K C = some { name := nm, bases := bs, mro := .ref C :: bm, ns := N, qualname := q, hasDict := true, slotNames := sn, subclasses := sub, abstract := ab, collection := col, hasDel := false } := by unfold PySem.W.clsIn; rw [hC] <;> rfl
  obtain ⟨hp, g, d, t, os⟩ := s
  refine PySem.W.set_plain X (ox := PySem.HandSPX.excO C t1) (od := none) ⟨ha, rfl, rfl, trivial⟩ T.sa ?_
  refine PySem.W.osa_openX (baF b).sf (ox := PySem.HandSPX.excO C t1) (od := none) X ⟨ha, rfl, rfl, trivial⟩ ov (taker_of hno) fun b' => ?_
  have hcls : PySem.W.Looks (model prog w) hp (classData C) _ := PySem.W.looks_clsIn X hcl
  have hxs : a ≠ hp.objs.size := Nat.ne_of_lt (Heap.lt_size ha)
  have ha' : hp.get? a = some (PySem.HandSPX.excO C t1) := ha
  show wpAny _ _ (Builtin.ObjectAttr.storeInOwnDict (.ref a) (.ref C) _ f u b') _ _ _
  unfold Builtin.ObjectAttr.storeInOwnDict Builtin.ObjectAttr.ownDictForStores
  repeat (first | with_reducible refine PySem.HandSPX.store_in_new ?_ ?_ | with_reducible refine wpAny_loadPart_at ha' ?_ | with_reducible refine hcls.at ?_ | wp_step)
  · exact ⟨_, #[], _, (Heap.get?_update_ne _ _ _ _ hxs.symm).trans (Heap.get?_push_at rfl rfl), rfl, fun e he => absurd he (by simp), fun _ => rfl⟩
  · intro h' tk' hn' hs
    have hx1 : (hp.push { cls := .type "dict", data := .dict #[] }).get? a = some (PySem.HandSPX.excO C t1) := Heap.get?_push_of_some _ ha'
    refine hq h' tk' hp.objs.size (fun c o hb ho => ?_) (Nat.le_refl _) hxs.symm ?_ hn'
    · rw [hs.2 c (Nat.ne_of_lt (Heap.lt_size ho)), Heap.get?_update_ne _ _ _ _ hb]
      exact Heap.get?_push_of_some _ ho
    · rw [hs.2 a hxs]
      exact Heap.get?_update_self _ hx1 rfl
/-- a further field -/
theorem store2 {C a dx : Addr} {f g : Str} {u v : Value} {t1 : Addr} {Q : Unit → Shared → Prop} {E : Value → Shared → Prop} (T : OexB K b C) (X : K.In s.heap) (hno : PySem.W.findIn K (.ref C) g = some none)
    (ha : s.heap.get? a = some { cls := .ref C, dict := some dx, data := .fields #[.ref t1, .none, .none, .none, .bool false, .none] }) (hn : s.heap.Ns1 dx (fun y => if y = f then some u else none))
    (hq : ∀ h' tk, (∀ b o, b ≠ dx → s.heap.get? b = some o → h'.get? b = some o) → h'.Ns1 dx (fun y => if y = g then some v else if y = f then some u else none) → Q () { s with heap := h', toks := tk }) : wpAny (model prog w) A (setAttr (.ref a) g v) Q E s := by
  have ov := over_of T
  obtain ⟨nm, q, N, bs, bm, sn, sub, ab, col, dd, k0, k1, k2, k3, k5, hC, hbm⟩ := T.cls
  have hcl : PySem.W.clsIn K C = some { name := nm, bases := bs, mro := .ref C :: bm, ns := N, qualname := q, hasDict := true, slotNames := sn, subclasses := sub, abstract := ab, collection := col, hasDel := false } := by unfold PySem.W.clsIn; rw [hC] <;> rfl
  obtain ⟨hp, g', d, t, os⟩ := s
  have hw : PySem.Within (fun y => if y = f then some u else none) [f] := PySem.Within.cons f u (m := fun _ => none) (fun _ h => absurd rfl h)
  have hz : [f].length ≤ 1000 := by simp
  obtain ⟨oD, esD, epD, hoD, hdD, _⟩ := hn.count hw
  have I : PySem.W.InstAt hp a { cls := .ref C, dict := some dx, data := .fields #[.ref t1, .none, .none, .none, .bool false, .none] } C (some oD) := ⟨ha, rfl, rfl, hoD⟩
  refine PySem.W.set_plain X I T.sa ?_
  refine PySem.W.osa_openX (baF b).sf X I ov (taker_of hno) fun b' => ?_
  have hcls : PySem.W.Looks (model prog w) hp (classData C) _ := PySem.W.looks_clsIn X hcl
  show wpAny _ _ (Builtin.ObjectAttr.storeInOwnDict (.ref a) (.ref C) _ g v b') _ _ _
  unfold Builtin.ObjectAttr.storeInOwnDict Builtin.ObjectAttr.ownDictForStores
  repeat (first | with_reducible refine ESX.store_in_old hn hw hz ?_ | with_reducible refine wpAny_loadPart_at ha ?_ | with_reducible refine hcls.at ?_ | wp_step)
  intro h' tk' hn' hs
  exact hq h' tk' (fun c o hb ho => (hs.2 c hb).trans ho) hn'
/-- def __init__(self, p): super().__init__(text); self.f = p -/
theorem init_ok1 {R : Result → Shared → Prop} {file : Str} {params : Arguments} {scope : Scope} {C fI cc cda a t0 : Addr} {fd : FuncData} {p0 p1 p2 p3 p4 p5 q0 q1 q2 q3 : Pos} {txt f p self : Str} {j : Nat} {ar : Arg} {u : Value} {args : Args} {body : List Stmt}
    (T : XcI K b file params body scope C fI cc cda fd) (hbd : body = [.Expr (.Call (.Attribute (.Call (.Name "super" p0) [] [] p1) "__init__" p2) [.Constant (.str txt) j p3] [] p4) p5, .Assign [.Attribute (.Name self q0) f q1] (.Name p q2) q3])
    (X : K.In s.heap) (G : s.heap.Ns mainGlobals mg) (Bn : ∃ mb, s.heap.Ns builtinsNs mb ∧ ∀ x : Str, x ≠ "__name__" → mb x = bootBuiltins x) (nl : s.heap.NoLimit) (hsup : mg "super" = none) (hroom : A.depth < recursionLimit)
    (hp : (params.posonlyargs ++ params.args).head? = some ar) (har : ar.arg = self) (ha : s.heap.get? a = some (PySem.HandSPX.excO C t0))
    (hbind : ∀ (nm qual : Str) (doc pm : Value) (an : Option Addr) (cdv ct : Value) (cc : Addr), bindArgs (PySem.W.ksFn nm qual params body scope .none .none doc pm an cdv ct cc) args = pure [(self, .ref a), (p, u)])
    (hKa : K.lookup a = none) (hsp : p ≠ self) (hno : PySem.W.findIn K (.ref C) f = some none)
    (hfile : ((prog.main.file : Str) == file) = true) (htop : (prog.main.scope.names.lookup ("super" : Str)).isSome = false) (hboot : bootBuiltins "super" = some (.type "super"))
    (hks : scope.names.lookup ("super" : Str) = some .globalImplicit) (hkc : scope.names.lookup ("__class__" : Str) = some .free) (hka : scope.names.lookup self = some .local) (hkp : scope.names.lookup p = some .local) (hk : scope.kind = .function) (hcell : ∀ x ∈ scope.names, x.2 ≠ .cell) (hco : scope.isCoroutine = false) (hgen : scope.isGenerator = false)
    (hds : (self == ("__debug__" : Str)) = false) (hdp : (p == ("__debug__" : Str)) = false)
    (hev : ∀ env : Env, ∃ pl : Sem Bool, eval (.Call (.Attribute (.Call (.Name "super" p0) [] [] p1) "__init__" p2) [.Constant (.str txt) j p3] [] p4) env = (do
      let ov ← attributeBase (.Call (.Name "super" p0) [] [] p1) "__init__" env (eval (.Call (.Name "super" p0) [] [] p1) env)
      standAt p2.atName
      let (f, first) ← holding [ov] (getMethod ov "__init__" pl)
      callWith p4 f first (backTo p4 (starEach [.Constant (.str txt) j p3] env)) []))
    (hsw : ∀ env : Env, swapsWith (.Name p q2) (some (.Attribute (.Name self q0) f q1)) q3.line env = pure false)
    (hq : ∀ h' tk dx t1, (∀ b o, b ≠ a → s.heap.get? b = some o → h'.get? b = some o) → s.heap.get? dx = none → dx ≠ a → s.heap.objs.size ≤ dx → h'.get? a = some { cls := .ref C, dict := some dx, data := .fields #[.ref t1, .none, .none, .none, .bool false, .none] } →
      h'.Ns1 dx (fun y => if y = f then some u else none) → R (.ok (.ret .none)) { s with heap := h', toks := tk }) : codeAny (model prog w) A (.call (.ref fI) args) R s := by
  have T' := T
  obtain ⟨nm, qual, oc, od, doc, pm, an, ct, osl, rfl, lk, hcd⟩ := T.lk
  refine ks_codeAny_call_defAt (fd := PySem.W.ksFn nm qual params body scope .none .none doc pm an (.ref cda) ct cc) (body := body) (binds := [(self, .ref a), (p, u)]) hroom (X _ _ lk) rfl nl (PySem.W.codeRec_of X hcd) rfl (.of_eq (hbind ..)) hcell
    (fun y hy => ?_) (fun h0 hns hk0 => ?_) hco hgen hk
  · rcases List.mem_cons.mp hy with rfl | hy
    · exact hka
    · rw [List.mem_singleton.mp hy]; exact hkp
  have n1 : ([(self, (Value.ref a)), (p, u)] : List (Str × Value)).reverse.lookup self = some (.ref a) := by
    have e1 : (self == p) = false := by rw [beq_eq_false_iff_ne]; exact fun z => hsp z.symm
    simp [List.lookup_cons, e1]
  have n2 : ([(self, (Value.ref a)), (p, u)] : List (Str × Value)).reverse.lookup p = some u := by simp [List.lookup_cons]
  have Bn' := Bn
  obtain ⟨mb, hb1, hb2⟩ := Bn
  have aL : s.heap.objs.size ≠ a := (Nat.ne_of_lt (Heap.lt_size ha)).symm
  rw [show execs body = execs [_, _] from congrArg execs hbd]
  refine ks_wpAt_execs_cons (super_init (m := fun x => ([(self, (Value.ref a)), (p, u)] : List (Str × Value)).reverse.lookup x) (mg := mg) T' (X.keeps hk0) (G.keeps hk0) ⟨mb, hb1.keeps hk0, hb2⟩ hsup hp hns (by rw [har]; exact n1) (hk0 _ _ ha) hfile htop hboot hks hkc (by rw [har]; exact hka) hk hev fun h1 t1 tk k1 e1 => ?_)
  have hns1 : h1.Ns s.heap.objs.size (fun x => ([(self, (Value.ref a)), (p, u)] : List (Str × Value)).reverse.lookup x) := by
    obtain ⟨o, es, ep, z1, z2, z3⟩ := hns
    exact ⟨o, es, ep, k1 _ _ aL z1, z2, z3⟩
  have X1 : K.In h1 := fun b o e => k1 b o (fun z => by subst z; rw [hKa] at e; cases e) (X.keeps hk0 b o e)
  refine ks_wpAt_execs_cons (ks_wpAt_Assign_Attr (wpAt_of_wpAny (wpAny_Name (wpAny_loadName_local hk hkp hns1 n2 ?_) hdp)) (hsw _))
  refine wpAny_Name (wpAny_loadName_local hk hka hns1 n1 ?_) hds
  refine store1 T'.ox X1 hno e1 fun h2 tk2 dx k2 dn dne hx hn => wpAt_of_wpAny (wpAny_execs_nil ?_)
  have sz : s.heap.objs.size ≤ dx := Nat.le_trans (Nat.le_of_lt (Heap.lt_size (show h1.get? s.heap.objs.size = some _ from hns1.choose_spec.choose_spec.choose_spec.1))) dn
  refine hq h2 tk2 dx t1 (fun b o nb e => k2 b o nb (k1 b o nb (hk0 b o e))) ?_ dne sz hx hn
  cases q : s.heap.get? dx with
  | none => rfl
  | some o => exact absurd (Heap.lt_size q) (Nat.not_lt.mpr sz)
/-- the same with two values -/
theorem init_ok2 {R : Result → Shared → Prop} {file : Str} {params : Arguments} {scope : Scope} {C fI cc cda a t0 : Addr} {fd : FuncData} {p0 p1 p2 p3 p4 p5 q0 q1 q2 q3 o0 o1 o2 o3 : Pos} {txt f p f2 y2 self : Str} {j : Nat} {ar : Arg} {u v : Value} {args : Args} {body : List Stmt}
    (T : XcI K b file params body scope C fI cc cda fd) (hbd : body = [.Expr (.Call (.Attribute (.Call (.Name "super" p0) [] [] p1) "__init__" p2) [.Constant (.str txt) j p3] [] p4) p5, .Assign [.Attribute (.Name self q0) f q1] (.Name p q2) q3, .Assign [.Attribute (.Name self o0) f2 o1] (.Name y2 o2) o3])
    (X : K.In s.heap) (G : s.heap.Ns mainGlobals mg) (Bn : ∃ mb, s.heap.Ns builtinsNs mb ∧ ∀ x : Str, x ≠ "__name__" → mb x = bootBuiltins x) (nl : s.heap.NoLimit) (hsup : mg "super" = none) (hroom : A.depth < recursionLimit)
    (hp : (params.posonlyargs ++ params.args).head? = some ar) (har : ar.arg = self) (ha : s.heap.get? a = some (PySem.HandSPX.excO C t0))
    (hbind : ∀ (nm qual : Str) (doc pm : Value) (an : Option Addr) (cdv ct : Value) (cc : Addr), bindArgs (PySem.W.ksFn nm qual params body scope .none .none doc pm an cdv ct cc) args = pure [(self, .ref a), (p, u), (y2, v)])
    (hKa : K.lookup a = none) (hsp : p ≠ self) (hsp2 : y2 ≠ self) (hpp : y2 ≠ p) (hno2 : PySem.W.findIn K (.ref C) f2 = some none) (hno : PySem.W.findIn K (.ref C) f = some none)
    (hfile : ((prog.main.file : Str) == file) = true) (htop : (prog.main.scope.names.lookup ("super" : Str)).isSome = false) (hboot : bootBuiltins "super" = some (.type "super"))
    (hks : scope.names.lookup ("super" : Str) = some .globalImplicit) (hkc : scope.names.lookup ("__class__" : Str) = some .free) (hka : scope.names.lookup self = some .local) (hkp : scope.names.lookup p = some .local) (hkp2 : scope.names.lookup y2 = some .local) (hk : scope.kind = .function) (hcell : ∀ x ∈ scope.names, x.2 ≠ .cell) (hco : scope.isCoroutine = false) (hgen : scope.isGenerator = false)
    (hds : (self == ("__debug__" : Str)) = false) (hdp : (p == ("__debug__" : Str)) = false) (hdp2 : (y2 == ("__debug__" : Str)) = false)
    (hev : ∀ env : Env, ∃ pl : Sem Bool, eval (.Call (.Attribute (.Call (.Name "super" p0) [] [] p1) "__init__" p2) [.Constant (.str txt) j p3] [] p4) env = (do
      let ov ← attributeBase (.Call (.Name "super" p0) [] [] p1) "__init__" env (eval (.Call (.Name "super" p0) [] [] p1) env)
      standAt p2.atName
      let (f, first) ← holding [ov] (getMethod ov "__init__" pl)
      callWith p4 f first (backTo p4 (starEach [.Constant (.str txt) j p3] env)) []))
    (hsw : ∀ env : Env, swapsWith (.Name p q2) (some (.Attribute (.Name self q0) f q1)) q3.line env = pure false) (hsw2 : ∀ env : Env, swapsWith (.Name y2 o2) (some (.Attribute (.Name self o0) f2 o1)) o3.line env = pure false)
    (hq : ∀ h' tk dx t1, (∀ b o, b ≠ a → s.heap.get? b = some o → h'.get? b = some o) → s.heap.get? dx = none → dx ≠ a → s.heap.objs.size ≤ dx → h'.get? a = some { cls := .ref C, dict := some dx, data := .fields #[.ref t1, .none, .none, .none, .bool false, .none] } →
      h'.Ns1 dx (fun y => if y = f2 then some v else if y = f then some u else none) → R (.ok (.ret .none)) { s with heap := h', toks := tk }) : codeAny (model prog w) A (.call (.ref fI) args) R s := by
  have T' := T
  obtain ⟨nm, qual, oc, od, doc, pm, an, ct, osl, rfl, lk, hcd⟩ := T.lk
  refine ks_codeAny_call_defAt (fd := PySem.W.ksFn nm qual params body scope .none .none doc pm an (.ref cda) ct cc) (body := body) (binds := [(self, .ref a), (p, u), (y2, v)]) hroom (X _ _ lk) rfl nl (PySem.W.codeRec_of X hcd) rfl (.of_eq (hbind ..)) hcell
    (fun y hy => ?_) (fun h0 hns hk0 => ?_) hco hgen hk
  · rcases List.mem_cons.mp hy with rfl | hy
    · exact hka
    · rcases List.mem_cons.mp hy with rfl | hy
      · exact hkp
      · rw [List.mem_singleton.mp hy]; exact hkp2
  have n1 : ([(self, (Value.ref a)), (p, u), (y2, v)] : List (Str × Value)).reverse.lookup self = some (.ref a) := by
    have e1 : (self == p) = false := by rw [beq_eq_false_iff_ne]; exact fun z => hsp z.symm
    have e2 : (self == y2) = false := by rw [beq_eq_false_iff_ne]; exact fun z => hsp2 z.symm
    simp [List.lookup_cons, e1, e2]
  have n2 : ([(self, (Value.ref a)), (p, u), (y2, v)] : List (Str × Value)).reverse.lookup p = some u := by
    have e1 : (p == y2) = false := by rw [beq_eq_false_iff_ne]; exact fun z => hpp z.symm
    simp [List.lookup_cons, e1]
  have n3 : ([(self, (Value.ref a)), (p, u), (y2, v)] : List (Str × Value)).reverse.lookup y2 = some v := by simp [List.lookup_cons]
  have Bn' := Bn
  obtain ⟨mb, hb1, hb2⟩ := Bn
  have aL : s.heap.objs.size ≠ a := (Nat.ne_of_lt (Heap.lt_size ha)).symm
  rw [show execs body = execs [_, _, _] from congrArg execs hbd]
  refine ks_wpAt_execs_cons (super_init (m := fun x => ([(self, (Value.ref a)), (p, u), (y2, v)] : List (Str × Value)).reverse.lookup x) (mg := mg) T' (X.keeps hk0) (G.keeps hk0) ⟨mb, hb1.keeps hk0, hb2⟩ hsup hp hns (by rw [har]; exact n1) (hk0 _ _ ha) hfile htop hboot hks hkc (by rw [har]; exact hka) hk hev fun h1 t1 tk k1 e1 => ?_)
  have hns1 : h1.Ns s.heap.objs.size (fun x => ([(self, (Value.ref a)), (p, u), (y2, v)] : List (Str × Value)).reverse.lookup x) := by
    obtain ⟨o, es, ep, z1, z2, z3⟩ := hns
    exact ⟨o, es, ep, k1 _ _ aL z1, z2, z3⟩
  have X1 : K.In h1 := fun b o e => k1 b o (fun z => by subst z; rw [hKa] at e; cases e) (X.keeps hk0 b o e)
  refine ks_wpAt_execs_cons (ks_wpAt_Assign_Attr (wpAt_of_wpAny (wpAny_Name (wpAny_loadName_local hk hkp hns1 n2 ?_) hdp)) (hsw _))
  refine wpAny_Name (wpAny_loadName_local hk hka hns1 n1 ?_) hds
  refine store1 T'.ox X1 hno e1 fun h2 tk2 dx k2 dn dne hx hn => ?_
  have aL2 : s.heap.objs.size ≠ dx := Nat.ne_of_lt (Nat.lt_of_lt_of_le (Heap.lt_size (show h1.get? s.heap.objs.size = some _ from hns1.choose_spec.choose_spec.choose_spec.1)) dn)
  have hns2 : h2.Ns s.heap.objs.size (fun x => ([(self, (Value.ref a)), (p, u), (y2, v)] : List (Str × Value)).reverse.lookup x) := by
    obtain ⟨o, es, ep, z1, z2, z3⟩ := hns1
    exact ⟨o, es, ep, k2 _ _ aL z1, z2, z3⟩
  have X2 : K.In h2 := fun c o e => k2 c o (fun z => by subst z; rw [hKa] at e; cases e) (X1 c o e)
  refine ks_wpAt_execs_cons (ks_wpAt_Assign_Attr (wpAt_of_wpAny (wpAny_Name (wpAny_loadName_local hk hkp2 hns2 n3 ?_) hdp2)) (hsw2 _))
  refine wpAny_Name (wpAny_loadName_local hk hka hns2 n1 ?_) hds
  refine store2 (f := f) (u := u) T'.ox X2 hno2 hx hn fun h3 tk3 k3 hn3 => wpAt_of_wpAny (wpAny_execs_nil ?_)
  have sz : s.heap.objs.size ≤ dx := Nat.le_trans (Nat.le_of_lt (Heap.lt_size (show h1.get? s.heap.objs.size = some _ from hns1.choose_spec.choose_spec.choose_spec.1))) dn
  have nd : s.heap.get? dx = none := by
    cases q : s.heap.get? dx with
    | none => rfl
    | some o => exact absurd (Heap.lt_size q) (Nat.not_lt.mpr sz)
  refine hq h3 tk3 dx t1 (fun c o nc e => k3 c o (fun z => by subst z; rw [nd] at e; cases e) (k2 c o nc (k1 c o nc (hk0 c o e)))) nd dne sz (k3 _ _ (Ne.symm dne) hx) hn3
end
end Lc
/-! ### the class called, with names too -/
namespace Lc
open PySem L2
section
variable {prog : Program} {w : World} {A : Around} {E : Value → Shared → Prop} {R : Result → Shared → Prop} {h : Heap} {g : Array GenState} {d : Drawn} {t : Nat} {os : OsState}
variable {nm q : Str} {C N : Addr} {bs bm bmB : List Value} {hdct : Bool} {sn : List Str} {sub : List Value} {ab : Bool} {col : Option Bool} {dd : Option Addr} {k0 k1 k2 k3 k5 : Option Value} {B newId initId : String}
theorem xk_check {M : Model} (F : ExcBaseFacts B newId initId bmB) (hT : ∀ X : String, bm.contains (.type X) = bmB.contains (.type X)) {rest : List Value} {kw : List (Str × Value)} {Q : Unit → Shared → Prop}
    (hC : h.get? C = some (excClassObj nm q C N bs bm hdct sn sub ab col dd k0 k1 k2 k3 k5 newId)) (hq : Q () ⟨h, g, d, t, os⟩) : wpAny M A (checkBuiltinCall newId ⟨.ref C :: rest, kw⟩) Q E ⟨h, g, d, t, os⟩ := by
  have hin : (Value.ref C :: bm).contains (.type B) = true := by rw [List.contains_cons, hT, F.hasB, Bool.or_true]
  have hst := F.noStar
  simp only [checkBuiltinCall, F.newKind, F.newSplit, F.newRow]
  repeat (first | refine wpAny_loadPart_at hC ?_ | (refine wpAny_isSubtype_exc hC ?_; rw [hin]) | refine wpAny_staticBase_exc hC ?_ | refine wpAny_madeBy_exc hC ?_ | simp only [bne_self_eq_false, Bool.false_eq_true, if_false] | wp_step)
  all_goals first | exact hq | skip
theorem xk_new (F : ExcBaseFacts B newId initId bmB) (hT : ∀ X : String, bm.contains (.type X) = bmB.contains (.type X)) {rest : List Value} {kw : List (Str × Value)}
    (hC : h.get? C = some (excClassObj nm q C N bs bm hdct sn sub ab col dd k0 k1 k2 k3 k5 newId))
    (hq : R (.ok (.ret (.ref (h.objs.size + 1)))) ⟨(h.push (PySem.W.kdv_tup rest)).push (PySem.HandSPX.excO C h.objs.size), g, d, t, os⟩) (hrest : rest.length ≤ sizeLine) :
    codeAny (model prog w) A (.builtin newId ⟨.ref C :: rest, kw⟩) R ⟨h, g, d, t, os⟩ := by
  have hen := F.ends
  have hB : (Value.ref C :: bm).contains (.type B) = true := by rw [List.contains_cons, hT, F.hasB, Bool.or_true]
  have hA : (Value.ref C :: bm).contains (.type "AttributeError") = false := by rw [List.contains_cons, hT, F.noAttr]; rfl
  have hN : (Value.ref C :: bm).contains (.type "NameError") = false := by rw [List.contains_cons, hT, F.noName]; rfl
  refine codeAny_builtinAt F.entry ?_
  unfold Builtin.«BaseException.__new__»
  refine wpAt_bind ?_
  show wpAt _ _ _ (stack >>= _) _ _ _
  refine wpAt_bind (wpAt_stack fun p below => wpAt_of_wpAny ?_)
  wp_walk
  refine wpAt_of_wpAny ?_
  rw [F.owner]
  repeat (first | with_reducible refine wpAny_madeHere_exc F.canon hC ?_ | with_reducible refine wpAny_loadPart_at hC ?_ | (with_reducible refine wpAny_isSubtype_exc hC ?_; first | rw [hB] | rw [hA] | rw [hN]) | wp_step)
  show R _ _
  rw [Heap.size_push]
  exact hq
theorem xk_tcall (F : ExcBaseFacts B newId initId bmB) (hT : ∀ X : String, bm.contains (.type X) = bmB.contains (.type X)) {rest : List Value} {kw : List (Str × Value)} {fI : Addr} {Q : Fin → Shared → Prop}
    (hC : h.get? C = some (excClassObj nm q C N bs bm hdct sn sub ab col dd k0 k1 k2 k3 k5 newId))
    (hi : PySem.W.Looks (model prog w) h (typeLookup (.ref C) "__init__") (some (.ref fI))) (hb : ∀ self, PySem.W.Looks (model prog w) h (bindSpecial (.ref fI) self) (.ref fI, [self])) (hrest : rest.length ≤ sizeLine)
    (hq : codeAny (model prog w) A (.call (.ref fI) ⟨.ref (h.objs.size + 1) :: rest, kw⟩)
      (fun r s' => match r with | .ok (.ret v) => v = .none ∧ Q (.done (.ret (.ref (h.objs.size + 1)))) s' | .ok _ => False | .error e => E e s')
      ⟨(h.push (PySem.W.kdv_tup rest)).push (PySem.HandSPX.excO C h.objs.size), g, d, t, os⟩) :
    wpAny (model prog w) A (Builtin.«type.__call__» ⟨.ref C :: rest, kw⟩) Q E ⟨h, g, d, t, os⟩ := by
  repeat (first | with_reducible refine wpAny_loadPart_at hC ?_ | with_reducible refine wpAny_madeBy_exc hC ?_ | wp_step)
  refine codeAny_call_builtin_code (Code.quiet_builtin _ F.quiet) (xk_check F hT hC ?_)
  refine xk_new F hT hC ?_ hrest
  show wpAny _ _ _ _ _ _
  have k : ∀ b o, h.get? b = some o → ((h.push (PySem.W.kdv_tup rest)).push (PySem.HandSPX.excO C h.objs.size)).get? b = some o := fun b o e => Heap.get?_push_of_some _ (Heap.get?_push_of_some _ e)
  have hC1 := k _ _ hC
  have hg : ((h.push (PySem.W.kdv_tup rest)).push (PySem.HandSPX.excO C h.objs.size)).get? (h.objs.size + 1) = some (PySem.HandSPX.excO C h.objs.size) := by heap_get
  have hself : (Value.ref C :: bm).contains (.ref C) = true := by simp
  have i1 := hi.keeps k
  have b1 := (hb (.ref (h.objs.size + 1))).keeps k
  unfold isInstance
  repeat (first | with_reducible refine wpAny_loadPart_at hg ?_ | (with_reducible refine wpAny_isSubtype_exc hC1 ?_; rw [hself]) | wp_step)
  show wpAny _ _ (typeLookup (.ref C) _) _ _ _
  refine i1.at (wpAny_holding (wpAny_bind (b1.at ?_)))
  refine wpAny_bind (wpAny_call (codeAny_mono hq fun r s' z => ?_))
  rcases r with e | (v | _ | _ | _) <;> first | exact z | exact z.elim | skip
  obtain ⟨rfl, z⟩ := z
  first
    | exact wpAny_pure (wpAny_pure z)
    | (wp_walk; exact z)
theorem xk_call (F : ExcBaseFacts B newId initId bmB) (hT : ∀ X : String, bm.contains (.type X) = bmB.contains (.type X)) {rest : List Value} {kw : List (Str × Value)} {fI : Addr}
    (hC : h.get? C = some (excClassObj nm q C N bs bm hdct sn sub ab col dd k0 k1 k2 k3 k5 newId))
    (hi : PySem.W.Looks (model prog w) h (typeLookup (.ref C) "__init__") (some (.ref fI))) (hb : ∀ self, PySem.W.Looks (model prog w) h (bindSpecial (.ref fI) self) (.ref fI, [self])) (hrest : rest.length ≤ sizeLine)
    (hq : codeAny (model prog w) (A.under (.builtin "type.__call__" ⟨.ref C :: rest, kw⟩)) (.call (.ref fI) ⟨.ref (h.objs.size + 1) :: rest, kw⟩) (PySem.W.InitBack (h.objs.size + 1) R)
      ⟨(h.push (PySem.W.kdv_tup rest)).push (PySem.HandSPX.excO C h.objs.size), g, d, t, os⟩) :
    codeAny (model prog w) A (.call (.ref C) ⟨rest, kw⟩) R ⟨h, g, d, t, os⟩ := by
  have f1 := tc_lookup
  have f2 := tc_bind (.ref C)
  have hTy : (⟨h, g, d, t, os⟩ : Shared).TypeIs (.ref C) "type" := ⟨_, hC, rfl⟩
  refine codeAny_of_tree ?_
  show wpAny _ _ (callAny (.ref C) _) _ _ _
  repeat (any_goals (first | assumption | with_reducible refine wpAny_loadPart_at hC ?_ | wp_step))
  refine ⟨rfl, ?_⟩
  refine codeAny_call_builtin_at (Code.quiet_builtin _ (by decide +kernel)) entry_typeCall (wpAny_check_type_call_sub hC (xk_tcall F hT hC hi hb hrest ?_))
  refine codeAny_mono hq fun r s' z => ?_
  rcases r with e | (v | _ | _ | _) <;> exact z
end
end Lc

set_option Elab.async false
set_option maxRecDepth 100000
set_option maxHeartbeats 4000000
/-! Part T: such an error made, raised, held as a value. -/
namespace Lc
open PySem L2 PySem.Spec PyProof.Rows
/-- by position, or by the names from the last to the first -/
def Bnd (fs : List Str) (pos : List Value) (kw : List (Str × Value)) (us : List Value) : Prop := (pos = us ∧ kw = []) ∨ (pos = [] ∧ kw = (fs.zip us).reverse)
def BindI (params : Arguments) (body : List Stmt) (scope : Scope) (self : Str) (fs : List Str) : Prop := ∀ (a : Addr) (us pos : List Value) (kw : List (Str × Value)) (nm qual : Str) (doc pm : Value) (an : Option Addr) (cdv ct : Value) (cc : Addr), us.length = fs.length → Bnd fs pos kw us →
  bindArgs (PySem.W.ksFn nm qual params body scope .none .none doc pm an cdv ct cc) ⟨.ref a :: pos, kw⟩ = pure ((self, .ref a) :: fs.zip us)
/-- what holds of each such def -/
structure FormC (P : Program) (file : Str) (scope : Scope) : Prop where
  hfile : ((P.main.file : Str) == file) = true
  htop : (P.main.scope.names.lookup ("super" : Str)).isSome = false
  hks : scope.names.lookup ("super" : Str) = some .globalImplicit
  hkc : scope.names.lookup ("__class__" : Str) = some .free
  hk : scope.kind = .function
  hcell : ∀ x ∈ scope.names, x.2 ≠ .cell
  hco : scope.isCoroutine = false
  hgen : scope.isGenerator = false
def SupEv (p0 p1 p2 p3 p4 : Pos) (txt : Str) (j : Nat) : Prop := ∀ env : Env, ∃ pl : Sem Bool, eval (.Call (.Attribute (.Call (.Name "super" p0) [] [] p1) "__init__" p2) [.Constant (.str txt) j p3] [] p4) env = (do
      let ov ← attributeBase (.Call (.Name "super" p0) [] [] p1) "__init__" env (eval (.Call (.Name "super" p0) [] [] p1) env)
      standAt p2.atName
      let (f, first) ← holding [ov] (getMethod ov "__init__" pl)
      callWith p4 f first (backTo p4 (starEach [.Constant (.str txt) j p3] env)) [])
/-- the def's form, one value -/
structure Form1 (P : Program) (file : Str) (params : Arguments) (body : List Stmt) (scope : Scope) (f : Str) : Prop where
  ex : ∃ (p0 p1 p2 p3 p4 p5 q0 q1 q2 q3 : Pos) (txt self : Str) (j : Nat) (ar : Arg), body = [.Expr (.Call (.Attribute (.Call (.Name "super" p0) [] [] p1) "__init__" p2) [.Constant (.str txt) j p3] [] p4) p5, .Assign [.Attribute (.Name self q0) f q1] (.Name f q2) q3] ∧
    (params.posonlyargs ++ params.args).head? = some ar ∧ ar.arg = self ∧ BindI params body scope self [f] ∧
    f ≠ self ∧ scope.names.lookup self = some .local ∧ scope.names.lookup f = some .local ∧ (self == ("__debug__" : Str)) = false ∧ (f == ("__debug__" : Str)) = false ∧
    SupEv p0 p1 p2 p3 p4 txt j ∧ ∀ env : Env, swapsWith (.Name f q2) (some (.Attribute (.Name self q0) f q1)) q3.line env = pure false
  c : FormC P file scope
/-- two values -/
structure Form2 (P : Program) (file : Str) (params : Arguments) (body : List Stmt) (scope : Scope) (f g : Str) : Prop where
  ex : ∃ (p0 p1 p2 p3 p4 p5 q0 q1 q2 q3 o0 o1 o2 o3 : Pos) (txt self : Str) (j : Nat) (ar : Arg), body = [.Expr (.Call (.Attribute (.Call (.Name "super" p0) [] [] p1) "__init__" p2) [.Constant (.str txt) j p3] [] p4) p5, .Assign [.Attribute (.Name self q0) f q1] (.Name f q2) q3, .Assign [.Attribute (.Name self o0) g o1] (.Name g o2) o3] ∧
    (params.posonlyargs ++ params.args).head? = some ar ∧ ar.arg = self ∧ BindI params body scope self [f, g] ∧
    f ≠ self ∧ g ≠ self ∧ g ≠ f ∧ scope.names.lookup self = some .local ∧ scope.names.lookup f = some .local ∧ scope.names.lookup g = some .local ∧ (self == ("__debug__" : Str)) = false ∧ (f == ("__debug__" : Str)) = false ∧ (g == ("__debug__" : Str)) = false ∧
    SupEv p0 p1 p2 p3 p4 txt j ∧ (∀ env : Env, swapsWith (.Name f q2) (some (.Attribute (.Name self q0) f q1)) q3.line env = pure false) ∧ ∀ env : Env, swapsWith (.Name g o2) (some (.Attribute (.Name self o0) g o1)) o3.line env = pure false
  c : FormC P file scope
def FormE (P : Program) (file : Str) (params : Arguments) (body : List Stmt) (scope : Scope) (fs : List Str) : Prop := (∃ f, fs = [f] ∧ Form1 P file params body scope f) ∨ ∃ f g, fs = [f, g] ∧ Form2 P file params body scope f g
theorem relO_one {f : Str} {v : V} {u : Value} (r : RelV v u) (y : Str) : RelO (List.lookup y [(f, v)]) (if y = f then some u else none) := relO_put (fs := []) (mA := fun _ => none) r (fun _ => True.intro) y
theorem relO_two {f g : Str} {v v' : V} {u u' : Value} (hn : g ≠ f) (r : RelV v u) (r' : RelV v' u') (y : Str) : RelO (List.lookup y [(f, v), (g, v')]) (if y = g then some u' else if y = f then some u else none) := by
  rw [lookup_put]
  by_cases h : y = f
  · subst h
    rw [if_pos rfl, if_neg (Ne.symm hn), if_pos rfl]
    exact r
  · rw [if_neg h, if_neg h]
    exact relO_one r' y
section
variable {P : Program} {w : World} {A : Around} {K : PySem.W.Frag} {b : Ba} {mg : Str → Option Value} {s : Shared}
theorem ini_run {file : Str} {params : Arguments} {body : List Stmt} {scope : Scope} {C fI cc cda a t0 : Addr} {fd : FuncData} {fs : List Str} {us pos : List Value} {kw : List (Str × Value)} {R : Result → Shared → Prop} (T : XcI K b file params body scope C fI cc cda fd) (Fo : FormE P file params body scope fs)
    (X : K.In s.heap) (G : s.heap.Ns mainGlobals mg) (Bn : ∃ mb, s.heap.Ns builtinsNs mb ∧ ∀ x : Str, x ≠ "__name__" → mb x = bootBuiltins x) (nl : s.heap.NoLimit) (hsup : mg "super" = none) (hroom : A.depth < recursionLimit)
    (ha : s.heap.get? a = some (PySem.HandSPX.excO C t0)) (hl : us.length = fs.length) (hb : Bnd fs pos kw us) (hKa : K.lookup a = none) (hno : ∀ f ∈ fs, PySem.W.findIn K (.ref C) f = some none)
    (hq : ∀ h' tk dx t1 mA, (∀ c o, c ≠ a → s.heap.get? c = some o → h'.get? c = some o) → s.heap.get? dx = none → dx ≠ a → s.heap.objs.size ≤ dx → h'.get? a = some { cls := .ref C, dict := some dx, data := .fields #[.ref t1, .none, .none, .none, .bool false, .none] } →
      h'.Ns1 dx mA → (∀ vs, Vals vs us → ∀ y, RelO ((fs.zip vs).lookup y) (mA y)) → R (.ok (.ret .none)) { s with heap := h', toks := tk }) : codeAny (model P w) A (.call (.ref fI) ⟨.ref a :: pos, kw⟩) R s := by
  rcases Fo with ⟨f, rfl, Fo⟩ | ⟨f, g, rfl, Fo⟩
  · obtain ⟨p0, p1, p2, p3, p4, p5, q0, q1, q2, q3, txt, self, j, ar, b1, b2, b3, b4, b5, b6, b7, b8, b9, b10, b11⟩ := Fo.ex
    match us, hl with
    | [u], _ =>
      refine init_ok1 (mg := mg) (K := K) T b1 X G Bn nl hsup hroom b2 b3 ha (fun nm qual doc pm an cdv ct cc => b4 a [u] pos kw nm qual doc pm an cdv ct cc rfl hb) hKa b5 (hno f List.mem_cons_self) Fo.c.hfile Fo.c.htop (by decide +kernel) Fo.c.hks Fo.c.hkc b6 b7 Fo.c.hk Fo.c.hcell Fo.c.hco Fo.c.hgen b8 b9 b10 b11 fun h2 tk2 dx t1 k2 nd dne sz hx hn => hq h2 tk2 dx t1 _ k2 nd dne sz hx hn fun vs rv y => ?_
      match vs, rv with
      | [v], .cons r .nil => exact relO_one r y
  · obtain ⟨p0, p1, p2, p3, p4, p5, q0, q1, q2, q3, o0, o1, o2, o3, txt, self, j, ar, b1, b2, b3, b4, b5, b5', b5'', b6, b7, b7', b8, b9, b9', b10, b11, b12⟩ := Fo.ex
    match us, hl with
    | [u, u'], _ =>
      refine init_ok2 (mg := mg) (K := K) T b1 X G Bn nl hsup hroom b2 b3 ha (fun nm qual doc pm an cdv ct cc => b4 a [u, u'] pos kw nm qual doc pm an cdv ct cc rfl hb) hKa b5 b5' b5'' (hno g (by simp)) (hno f List.mem_cons_self) Fo.c.hfile Fo.c.htop (by decide +kernel) Fo.c.hks Fo.c.hkc b6 b7 b7' Fo.c.hk Fo.c.hcell Fo.c.hco Fo.c.hgen b8 b9 b9' b10 b11 b12 fun h2 tk2 dx t1 k2 nd dne sz hx hn => hq h2 tk2 dx t1 _ k2 nd dne sz hx hn fun vs rv y => ?_
      match vs, rv with
      | [v, v'], .cons r (.cons r' .nil) => exact relO_two b5'' r r' y
end
/-- an error class that may be made -/
structure Xc (P : Program) (K : PySem.W.Frag) (mg : Str → Option Value) (x : Str) (fs : List Str) : Prop where
  ex : ∃ b file params body scope C fI cc cda fd, XcI K b file params body scope C fI cc cda fd ∧ FormE P file params body scope fs ∧ (∀ f ∈ fs, PySem.W.findIn K (.ref C) f = some none) ∧ mg x = some (.ref C) ∧ PySem.W.nsIn K mainGlobals x = some (some (.ref C)) ∧ mg "super" = none
section
variable {X : Cx} {x : Str} {fs : List Str} {p pos : Pos} {e : Expr} {es : List Expr} {kws : List Keyword} {ta : TA} {k : Nat}
theorem mk_core {pins : List (Addr × Obj)} {s1 : Shared} {σ : L2.St} {H1 : Hp} {us pv : List Value} {kw : List (Str × Value)} {vs : List V} {C : Addr} {Q : Value → Shared → Prop} (T : Xc X.prog X.K X.mg x fs) (hr : Room (k + 1) X.A) (I1 : Inv X pins σ H1 s1) (rv : Vals vs us) (hl : us.length = fs.length) (hz : pv.length ≤ sizeLine) (hb : Bnd fs pv kw us) (hm : X.mg x = some (.ref C))
    (hq : ∀ a dx h2 tk2 t1 mA, s1.heap.objs.size < a → (∀ c o, s1.heap.get? c = some o → h2.get? c = some o) → s1.heap.get? dx = none → s1.heap.objs.size ≤ dx → dx ≠ a → h2.get? a = some { cls := .ref C, dict := some dx, data := .fields #[.ref t1, .none, .none, .none, .bool false, .none] } →
      h2.Ns1 dx mA → (∀ y, RelO ((fs.zip vs).lookup y) (mA y)) → Q (.ref a) { s1 with heap := h2, toks := tk2 }) : wpAny (model X.prog X.w) X.A (call (.ref C) pv kw) Q X.xe s1 := by
  obtain ⟨b, file, params, body, scope, C', fI, cc, cda, fd, T, Fo, hno, hm', _, hsup⟩ := T.ex
  obtain rfl : C = C' := by rw [hm] at hm'; cases hm'; rfl
  obtain ⟨nm, q, N, bs, bm, sn, sub, ab, col, dd, k0, k1, k2, k3, k5, hC, hbm⟩ := T.ox.cls
  obtain ⟨hp, g, dr, tk, os⟩ := s1
  have up : ∀ b o, hp.get? b = some o → ((hp.push (PySem.W.kdv_tup pv)).push (PySem.HandSPX.excO C hp.objs.size)).get? b = some o := fun b o e => Heap.get?_push_of_some _ (Heap.get?_push_of_some _ e)
  have hget : ((hp.push (PySem.W.kdv_tup pv)).push (PySem.HandSPX.excO C hp.objs.size)).get? (hp.objs.size + 1) = some (PySem.HandSPX.excO C hp.objs.size) := by heap_get
  have hKa : X.K.lookup (hp.objs.size + 1) = none := by
    cases q : X.K.lookup (hp.objs.size + 1) with
    | none => rfl
    | some o => exact absurd (Heap.lt_size (I1.kIn _ _ q)) (by show ¬ hp.objs.size + 1 < hp.objs.size; omega)
  have bk : ∀ b o, X.base.get? b = some o → ((hp.push (PySem.W.kdv_tup pv)).push (PySem.HandSPX.excO C hp.objs.size)).get? b = some o := fun b o e => up b o (I1.bk b o e)
  have Bn : ∃ mb, ((hp.push (PySem.W.kdv_tup pv)).push (PySem.HandSPX.excO C hp.objs.size)).Ns builtinsNs mb ∧ ∀ x : Str, x ≠ "__name__" → mb x = bootBuiltins x := by
    obtain ⟨mb, z1, z2⟩ := I1.mod.blt
    exact ⟨mb, z1.keeps bk, z2⟩
  refine wpAny_call (xk_call (baF b).fb (fun Y => PySem.W.excTail_contains Y bm hbm) (I1.kIn _ _ hC) (PySem.W.looks_findIn I1.kIn T.iC) (fun self => PySem.W.bind_fn I1.kIn self T.tI) hz ?_)
  refine ini_run (mg := X.mg) (K := X.K) T Fo (I1.kIn.keeps up) (I1.mod.glob.keeps bk) Bn (I1.mod.nolimit.keeps bk) hsup (hr.make C pv kw).depth hget hl hb hKa hno fun h2 tk2 dx t1 mA k2 nd dne sz hx hn hR => ?_
  refine ⟨rfl, ?_⟩
  have old : ∀ b o, hp.get? b = some o → b ≠ hp.objs.size + 1 := fun b o e => Nat.ne_of_lt (Nat.lt_succ_of_lt (Heap.lt_size e))
  have nd1 : hp.get? dx = none := by
    cases q : hp.get? dx with
    | none => rfl
    | some o => rw [up _ _ q] at nd; cases nd
  have sz1 : hp.objs.size ≤ dx := by
    have z : ((hp.push (PySem.W.kdv_tup pv)).push (PySem.HandSPX.excO C hp.objs.size)).objs.size = hp.objs.size + 2 := by simp [Heap.push]
    have sz' : ((hp.push (PySem.W.kdv_tup pv)).push (PySem.HandSPX.excO C hp.objs.size)).objs.size ≤ dx := sz
    rw [z] at sz'
    omega
  exact hq (hp.objs.size + 1) dx h2 tk2 t1 mA (Nat.lt_succ_self _) (fun c o e => k2 c o (old c o e) (up c o e)) nd1 sz1 dne hx hn (hR vs rv)
/-! ### raised -/
def tMk (mg : Str → Option Value) (x : Str) (fs : List Str) (ta : TA) : L2.St → Hp → XK → Prop := fun σ H Q => ta σ H fun vs H1 => vs.length = fs.length ∧ (∃ C, mg x = some (.ref C)) ∧ ∀ C' d, mg x = some (.ref C') → H1 d = none → Q (.ref C') (some d) (upd H1 d (.xd (fs.zip vs)))
theorem pmk_xc (T : Xc X.prog X.K X.mg x fs) (hfs : fs.length ≤ sizeLine) (hr : Room (k + 1) X.A) (hg : Gl X x) (ha : PA X (e :: es) ta) (hdb : (x == ("__debug__" : Str)) = false) (he : starEach (e :: es) X.env = (false, eval e X.env) :: starEach es X.env) (hpl : (backTo pos (starEach es X.env)).any (·.1) = false) :
    PMk X (.Call (.Name x p) (e :: es) [] pos) (tMk X.mg x fs ta) := by
  intro pins s σ H Q I h
  have T0 := T
  obtain ⟨b, file, params, body, scope, C, fI, cc, cda, fd, T, _, _, hm, _, hsup⟩ := T.ex
  refine wpAny_Call_Name_kw (ld_glob I hg hm ?_ hdb)
  refine PySem.W.callWith_K (h₀ := X.base) I.ok.mod.kin T.ox.kC (thn (ha.run pos pins s σ H _ I h) fun us s1 ⟨vs, H1, I1, r1, hq⟩ => ⟨I1.kIn, ?_⟩) he hpl
  obtain ⟨hlen, _, hq⟩ := hq
  have hl : us.length = fs.length := by rw [← r1.length]; exact hlen
  refine mk_core T0 hr I1 r1 hl (by rw [List.nil_append, hl]; exact hfs) (.inl ⟨rfl, rfl⟩) hm fun a dx h2 tk2 t1 mA sa up nd1 sz1 dne hx hn hR => ?_
  obtain ⟨hp, g, dr, tk, os⟩ := s1
  show MkP X pins σ Q (.ref a) ⟨h2, g, dr, tk2, os⟩
  obtain ⟨G, g1, g2⟩ := restrict h2 fun b => decide (b ≠ a)
  have gk : ∀ b, b ≠ a → G.get? b = h2.get? b := fun b hb => g1 b (decide_eq_true hb)
  have ge : G.get? a = none := g2 _ (by simp)
  have old : ∀ b o, hp.get? b = some o → b ≠ a := fun b o e => Nat.ne_of_lt (Nat.lt_trans (Heap.lt_size e) sa)
  have kG : ∀ b o, hp.get? b = some o → G.get? b = some o := fun b o e => by rw [gk b (old b o e)]; exact up b o e
  have nH : H1 dx = none := I1.hok.fresh sz1
  have J : Inv X pins σ (upd H1 dx (.xd (fs.zip vs))) ⟨G, g, dr, tk2, os⟩ := I1.laidN (t' := tk2) (h' := G) (a := dx) (o := .xd (fs.zip vs)) kG nd1 nH ⟨_, hn.at fun o y => (gk dx dne).trans y, hR⟩
  refine ⟨a, _, _, ⟨G, g, dr, tk2, os⟩, _, .ref C, some dx, rfl, J, fun b o e => ?_, ge, hx, ⟨rfl, rfl⟩, rfl, rfl, ?_, rfl, I1.bare, raises_own T.ox.exC T.ox.tyC, hq C dx hm nH⟩
  · have nb : b ≠ a := fun z => by subst z; rw [ge] at e; cases e
    rw [gk b nb] at e
    exact e
  · rw [upd_ne (Ne.symm dne)]
    exact I1.hok.fresh (Nat.le_of_lt sa)
/-! ### as a value -/
def tMkV (mg : Str → Option Value) (x : Str) (fs : List Str) (rv : List V → List V) (ta : TA) : TE := fun σ H Q => ta σ H fun vs H1 => vs.length = fs.length ∧ ∀ C a d, mg x = some (.ref C) → H1 d = none → H1 a = none → a ≠ d → Q (.ref a) (upd (upd H1 d (.xd (fs.zip (rv vs)))) a (exo a C (some d)))
theorem mkv_end {pins : List (Addr × Obj)} {s1 : Shared} {σ : L2.St} {H1 : Hp} {vs : List V} {C : Addr} {Q : VK} {a dx t1 : Addr} {h2 : Heap} {tk2 : Nat} {mA : Str → Option Value} (I1 : Inv X pins σ H1 s1) (sa : s1.heap.objs.size < a) (up : ∀ c o, s1.heap.get? c = some o → h2.get? c = some o) (nd1 : s1.heap.get? dx = none) (sz1 : s1.heap.objs.size ≤ dx) (dne : dx ≠ a)
    (hx : h2.get? a = some { cls := .ref C, dict := some dx, data := .fields #[.ref t1, .none, .none, .none, .bool false, .none] }) (hn : h2.Ns1 dx mA) (hR : ∀ y, RelO ((fs.zip vs).lookup y) (mA y))
    (hq : H1 dx = none → H1 a = none → a ≠ dx → Q (.ref a) (upd (upd H1 dx (.xd (fs.zip vs))) a (exo a C (some dx)))) : EP X pins σ Q (.ref a) { s1 with heap := h2, toks := tk2 } := by
  obtain ⟨hp, g, dr, tk, os⟩ := s1
  have nH : H1 dx = none := I1.hok.fresh sz1
  have nA : H1 a = none := I1.hok.fresh (Nat.le_of_lt sa)
  have na : hp.get? a = none := by
    cases q : hp.get? a with
    | none => rfl
    | some o => exact absurd (Heap.lt_size q) (by show ¬ a < hp.objs.size; exact Nat.not_lt.mpr (Nat.le_of_lt sa))
  obtain ⟨G, g1, g2⟩ := restrict h2 fun b => decide (b ≠ a)
  have gk : ∀ b, b ≠ a → G.get? b = h2.get? b := fun b hb => g1 b (decide_eq_true hb)
  have ge : G.get? a = none := g2 _ (by simp)
  have old : ∀ b o, hp.get? b = some o → b ≠ a := fun b o e => Nat.ne_of_lt (Nat.lt_trans (Heap.lt_size e) sa)
  have kG : ∀ b o, hp.get? b = some o → G.get? b = some o := fun b o e => by rw [gk b (old b o e)]; exact up b o e
  have J : Inv X pins σ (upd H1 dx (.xd (fs.zip vs))) ⟨G, g, dr, tk2, os⟩ := I1.laidN (t' := tk2) (h' := G) (a := dx) (o := .xd (fs.zip vs)) kG nd1 nH ⟨_, hn.at fun o y => (gk dx dne).trans y, hR⟩
  have nA2 : upd H1 dx (.xd (fs.zip vs)) a = none := by rw [upd_ne (Ne.symm dne)]; exact nA
  have J2 : Inv X pins σ (upd (upd H1 dx (.xd (fs.zip vs))) a (exo a C (some dx))) ⟨h2, g, dr, tk2, os⟩ := J.laidN (t' := tk2) (h' := h2) (a := a) (o := exo a C (some dx)) (fun b o e => by
    have nb : b ≠ a := fun z => by subst z; rw [ge] at e; cases e
    rw [gk b nb] at e
    exact e) ge nA2 (exo_ok hx)
  exact ⟨.ref a, _, J2, rfl, hq nH nA (Ne.symm dne)⟩
theorem pe_mkv (T : Xc X.prog X.K X.mg x fs) (hfs : fs.length ≤ sizeLine) (hr : Room (k + 1) X.A) (hg : Gl X x) (ha : PA X (e :: es) ta) (hdb : (x == ("__debug__" : Str)) = false) (he : starEach (e :: es) X.env = (false, eval e X.env) :: starEach es X.env) (hpl : (backTo pos (starEach es X.env)).any (·.1) = false) :
    PE X (.Call (.Name x p) (e :: es) [] pos) (tMkV X.mg x fs id ta) := by
  refine ⟨fun pins s σ H Q I h => ?_⟩
  have T0 := T
  obtain ⟨b, file, params, body, scope, C, fI, cc, cda, fd, T, _, _, hm, _, hsup⟩ := T.ex
  refine wpAny_Call_Name_kw (ld_glob I hg hm ?_ hdb)
  refine PySem.W.callWith_K (h₀ := X.base) I.ok.mod.kin T.ox.kC (thn (ha.run pos pins s σ H _ I h) fun us s1 ⟨vs, H1, I1, r1, hq⟩ => ⟨I1.kIn, ?_⟩) he hpl
  obtain ⟨hlen, hq⟩ := hq
  have hl : us.length = fs.length := by rw [← r1.length]; exact hlen
  exact mk_core T0 hr I1 r1 hl (by rw [List.nil_append, hl]; exact hfs) (.inl ⟨rfl, rfl⟩) hm fun a dx h2 tk2 t1 mA sa up nd1 sz1 dne hx hn hR => mkv_end I1 sa up nd1 sz1 dne hx hn hR fun n1 n2 n3 => hq C a dx hm n1 n2 n3
theorem vals_rev : ∀ {vs : List V} {us : List Value}, Vals vs us → Vals vs.reverse us.reverse
  | _, _, .nil => .nil
  | _, _, .cons r t => by
    rw [List.reverse_cons, List.reverse_cons]
    exact (vals_rev t).append (.cons r .nil)
theorem zip_rev {α β : Type} : ∀ {l : List α} {m : List β}, l.length = m.length → (l.zip m).reverse = l.reverse.zip m.reverse
  | [], [], _ => rfl
  | a :: l, b :: m, h => by
    have h' : l.length = m.length := by simpa using h
    rw [List.zip_cons_cons, List.reverse_cons, List.reverse_cons, List.reverse_cons, zip_rev h', List.zip_append (by simp [h'])]
    rfl
  | [], _ :: _, h => by simp at h
  | _ :: _, [], h => by simp at h
/-- by names, from the last to the first -/
theorem pe_mkvK (T : Xc X.prog X.K X.mg x fs) (hr : Room (k + 1) X.A) (hg : Gl X x) (ha : PK X kws ta) (hdb : (x == ("__debug__" : Str)) = false) (hall : (backToKw pos (keywordEach kws X.env)).all (·.1.isSome) = true) (hks : (backToKw pos (keywordEach kws X.env)).filterMap (·.1) = fs.reverse)
    (hpl : ((backTo pos (starEach [] X.env)).any (·.1) || (backToKw pos (keywordEach kws X.env)).any (·.1.isNone)) = false) :
    PE X (.Call (.Name x p) [] kws pos) (tMkV X.mg x fs List.reverse ta) := by
  refine ⟨fun pins s σ H Q I h => ?_⟩
  have T0 := T
  obtain ⟨b, file, params, body, scope, C, fI, cc, cda, fd, T, _, _, hm, _, hsup⟩ := T.ex
  refine wpAny_Call_Name_kw (ld_glob I hg hm ?_ hdb)
  refine PySem.W.callWith_KW0 (h₀ := X.base) I.ok.mod.kin T.ox.kC hall (thn (ha.run pos pins s σ H _ I h) fun us s1 ⟨vs, H1, I1, r1, hq⟩ => ⟨I1.kIn, ?_⟩) hpl
  obtain ⟨hlen, hq⟩ := hq
  have hl : us.length = fs.length := by rw [← r1.length]; exact hlen
  rw [hks]
  have e1 : fs.reverse.zip us = (fs.zip us.reverse).reverse := by
    rw [zip_rev (by rw [List.length_reverse, hl]), List.reverse_reverse]
  rw [e1]
  exact mk_core T0 hr I1 (vals_rev r1) (by rw [List.length_reverse, hl]) (by simp) (.inr ⟨rfl, rfl⟩) hm fun a dx h2 tk2 t1 mA sa up nd1 sz1 dne hx hn hR => mkv_end I1 sa up nd1 sz1 dne hx hn hR fun n1 n2 n3 => hq C a dx hm n1 n2 n3
/-! ### raise -/
def cRaise (x : Str) (fs : List Str) (fa : M (List W)) : M Fl := M.bind fa fun ws => M.bind (frzAll ws) fun ds => fun r => if ds.length = fs.length then .exc ⟨x, fs.zip ds⟩ r else .fail
theorem PostS.frzAll {vs : List V} {Wx : WX} {B0 H0 B H : Hp} {σ : L2.St} {r0 r : Rho} {ws : List W} {xs : List V} {kk : List D → M Fl} {E : Ends} (R : Rl X.K vs B σ H r) (s : Stp vs B0 H0 σ r0 B H σ r) (hv : RpWs X.K vs H0 B σ H r xs ws)
    (h : PostS X vs Wx B0 H0 σ r0 (M.bind (Lc.frzAll ws) kk r) E) : ∃ ds r' B', RpAll X.K B' xs ds ∧ Rl X.K vs B' σ H r' ∧ Stp vs B0 H0 σ r0 B' H σ r' ∧ PostS X vs Wx B0 H0 σ r0 (kk ds r') E := by
  cases e : Lc.frzAll ws r with
  | fail => simp only [M.bind, e] at h; exact h.elim
  | exc y r1 => exact absurd e frzAll_noexc
  | ok ds r1 =>
    simp only [M.bind, e] at h
    obtain ⟨B', p, R', s', _⟩ := frzAll_ok R s hv e
    exact ⟨ds, r1, B', p, R', s', h⟩
theorem rpF_zip {K : PySem.W.Frag} {B : Hp} : ∀ (fs : List Str) {vs : List V} {ds : List D}, RpAll K B vs ds → RpF K B (fs.zip vs) (fs.zip ds)
  | [], _, _, _ => .nil
  | _ :: _, _, _, .nil => .nil
  | _ :: fs, _, _, .cons h r => .cons h (rpF_zip fs r)
theorem ds_raise {fa : M (List W)} {rp : Pos} (T : Xc X.prog X.K X.mg x fs) (hfs : fs.length ≤ sizeLine) (hc : X.calm = true) (hr : Room (k + 1) X.A) (hg : Gl X x) (ha : DA X (e :: es) fa) (hdb : (x == ("__debug__" : Str)) = false) (he : starEach (e :: es) X.env = (false, eval e X.env) :: starEach es X.env) (hpl : (backTo pos (starEach es X.env)).any (·.1) = false) :
    DS X (.Raise (some (.Call (.Name x p) (e :: es) [] pos)) none rp) (cRaise x fs fa) := by
  refine ⟨fun Wx tk => ?_⟩
  obtain ⟨t, pt, qt⟩ := ha.run Wx tk
  refine ⟨_, ps_raise hc tk (pmk_xc T hfs hr hg pt hdb he hpl), fun vs B σ H r E R h => qt vs B σ H r _ R (PostS.bind0 h fun xs ws B1 H1 r1 s1 R1 q1 h1 => ?_)⟩
  obtain ⟨ds, r2, B2, p2, R2, s2, h2⟩ := PostS.frzAll R1 s1 q1 h1
  have hC : ∃ C, X.mg x = some (.ref C) := by
    obtain ⟨_, _, _, _, _, C, _, _, _, _, _, _, _, hm, _⟩ := T.ex
    exact ⟨C, hm⟩
  split at h2
  · rename_i hd
    refine ⟨by rw [p2.length, hd], hC, fun C' dd hm' nd => ?_⟩
    have ex : Ext B2 H1 (upd B2 dd (.xd (fs.zip xs))) (upd H1 dd (.xd (fs.zip xs))) := .frozen R2.sub nd
    exact h2 (.ref C') (some dd) σ _ _ (s2.ext ex) (R2.ext ex (same_both R2.sub)) ⟨C', dd, _, rfl, hm', rfl, upd_same, rpF_zip fs (p2.mono ex.sub)⟩
  · exact h2.elim
/-! ### made, as a value -/
def cMk (x : Str) (fs : List Str) (rv : Bool) (fa : M (List W)) : M W := M.bind fa fun ws => M.bind (frzAll ws) fun ds => fun r => if ds.length = fs.length then .ok (.dt (.err x (fs.zip (if rv = true then ds.reverse else ds)))) r else .fail
theorem mkv_post {vs : List V} {Wx : WX} {B H : Hp} {σ : L2.St} {r : Rho} {fa : M (List W)} {Q : VK} {rv : Bool} {t : TA} (T : Xc X.prog X.K X.mg x fs) (R : Rl X.K vs B σ H r)
    (qt : ∀ vs B σ H r Q, Rl X.K vs B σ H r → Post X vs Wx B H σ r (fa r) (fA X vs σ H) Q → t σ H Q) (h : Post X vs Wx B H σ r (cMk x fs rv fa r) (fW X vs σ H) Q) : tMkV X.mg x fs (fun l => if rv = true then l.reverse else l) t σ H Q := by
  refine qt vs B σ H r _ R (Post.bind0 h fun xs ws B1 H1 r1 s1 R1 q1 h1 => ?_)
  obtain ⟨ds, r2, B2, p2, R2, s2, h2⟩ := Post.frzAll R1 s1 q1 h1
  split at h2
  · rename_i hd
    refine ⟨by rw [p2.length, hd], fun C a d hm nd na nad => ?_⟩
    obtain ⟨_, _, _, _, _, C', _, _, _, _, _, _, _, hm', hns, _⟩ := T.ex
    obtain rfl : C = C' := by rw [hm] at hm'; cases hm'; rfl
    have ex : Ext B2 H1 (upd B2 d (.xd (fs.zip (if rv = true then xs.reverse else xs)))) (upd H1 d (.xd (fs.zip (if rv = true then xs.reverse else xs)))) := .frozen R2.sub nd
    have sm := same_both (p := d) (o := .xd (fs.zip (if rv = true then xs.reverse else xs))) R2.sub
    have na2 : upd H1 d (.xd (fs.zip (if rv = true then xs.reverse else xs))) a = none := by rw [upd_ne nad]; exact na
    have ex2 : Ext _ _ (upd (upd B2 d (.xd (fs.zip (if rv = true then xs.reverse else xs)))) a (exo a C (some d))) (upd (upd H1 d (.xd (fs.zip (if rv = true then xs.reverse else xs)))) a (exo a C (some d))) := .frozen sm na2
    have ex3 := ex.trans ex2
    refine h2 (.ref a) _ _ (s2.ext ex3) (R2.ext ex3 (same_both sm)) (Rp.err (C := C) (dd := d) (fs := fs.zip (if rv = true then xs.reverse else xs)) upd_same ?_ hns (rpF_zip fs ?_))
    · rw [upd_ne (Ne.symm nad)]; exact upd_same
    · have p3 := p2.mono ex3.sub
      cases rv with
      | false => exact p3
      | true => exact p3.reverse
  · exact h2.elim
theorem de_mk {fa : M (List W)} (T : Xc X.prog X.K X.mg x fs) (hfs : fs.length ≤ sizeLine) (hr : Room (k + 1) X.A) (hg : Gl X x) (ha : DA X (e :: es) fa) (hdb : (x == ("__debug__" : Str)) = false) (he : starEach (e :: es) X.env = (false, eval e X.env) :: starEach es X.env) (hpl : (backTo pos (starEach es X.env)).any (·.1) = false) :
    DE X (.Call (.Name x p) (e :: es) [] pos) (cMk x fs false fa) := by
  refine ⟨fun Wx tk => ?_⟩
  obtain ⟨t, pt, qt⟩ := ha.run Wx tk
  exact ⟨_, pe_mkv T hfs hr hg pt hdb he hpl, fun vs B σ H r Q R h => mkv_post (rv := false) T R qt h⟩
theorem de_mkK {fa : M (List W)} (T : Xc X.prog X.K X.mg x fs) (hr : Room (k + 1) X.A) (hg : Gl X x) (ha : DK X kws fa) (hdb : (x == ("__debug__" : Str)) = false) (hall : (backToKw pos (keywordEach kws X.env)).all (·.1.isSome) = true) (hks : (backToKw pos (keywordEach kws X.env)).filterMap (·.1) = fs.reverse)
    (hpl : ((backTo pos (starEach [] X.env)).any (·.1) || (backToKw pos (keywordEach kws X.env)).any (·.1.isNone)) = false) :
    DE X (.Call (.Name x p) [] kws pos) (cMk x fs true fa) := by
  refine ⟨fun Wx tk => ?_⟩
  obtain ⟨t, pt, qt⟩ := ha.run Wx tk
  exact ⟨_, pe_mkvK T hr hg pt hdb hall hks hpl, fun vs B σ H r Q R h => mkv_post (rv := true) T R qt h⟩
end
end Lc

set_option Elab.async false
set_option maxRecDepth 100000
set_option maxHeartbeats 4000000
/-! Part U: try, except C as e; e.f, isinstance(e, c) in the suite. -/
namespace Lc
open PySem L2 PySem.Spec PyProof.Rows
open Classical in
/-- what does not hang on places -/
noncomputable def collapse (g : Addr → Addr → Res Fl) : Res Fl := if h : ∃ R, ∀ a dd, g a dd = R then h.choose else .fail
theorem collapse_eq {g : Addr → Addr → Res Fl} {R : Res Fl} (h : ∀ a dd, g a dd = R) : collapse g = R := by
  have hx : ∃ R, ∀ a dd, g a dd = R := ⟨R, h⟩
  unfold collapse
  rw [dif_pos hx, ← hx.choose_spec 0 0]
  exact h 0 0
theorem collapse_all {g : Addr → Addr → Res Fl} (h : collapse g ≠ .fail) (a dd : Addr) : g a dd = collapse g := by
  unfold collapse at h ⊢
  split
  · rename_i hx
    exact hx.choose_spec a dd
  · rename_i hx
    rw [dif_neg hx] at h
    exact absurd rfl h
def Rho.clr (r : Rho) (i : Nat) : Rho := { r with loc := r.loc.set i none }
def clearI (i : Nat) : Res Fl → Res Fl
  | .ok (.ret w) r => if w.isLoc i = true then .fail else .ok (.ret w) (r.clr i)
  | .ok fl r => .ok fl (r.clr i)
  | _ => .fail
noncomputable def cTry (body : M Fl) (c : Str → Option Bool) (i : Nat) (suite : Addr → Addr → Ex → M Fl) : M Fl := fun r => match body r with
  | .exc x r1 => match c x.cls with
    | some true => if i < r1.loc.length then collapse fun a dd => clearI i (suite a dd x (r1.put i (.dt (.exc a dd x.fs)))) else .fail
    | some false => .exc x r1
    | none => .fail
  | res => res
section
variable {K : PySem.W.Frag} {vs : List V} {B H : Hp} {σ : L2.St} {r : Rho} {i : Nat}
theorem clr_eq : r.clr i = r.wipe [i] := rfl
theorem Rl.clr (R : Rl K vs B σ H r) : Rl K vs B (σ.set i none) H (r.clr i) := R.wipe (own := [i])
theorem own_clr {a : Addr} (h : Own vs (σ.set i none) (r.clr i) a) : Own vs σ r a := own_wipe (own := [i]) h
theorem Stp.clr {B0 H0 : Hp} {σ0 : L2.St} {r0 : Rho} (s : Stp vs B0 H0 σ0 r0 B H σ r) : Stp vs B0 H0 σ0 r0 B H (σ.set i none) (r.clr i) :=
  ⟨s.sub, s.keep, s.stl, s.dom, fun a q => s.own a (own_clr q), s.bol, s.bod, s.boo⟩
theorem RpW.clr {Hs : Hp} {v : V} {w : W} (h : RpW K vs Hs B σ H r v w) (hw : w.isLoc i = false) : RpW K vs Hs B (σ.set i none) H (r.clr i) v w := by
  cases w with
  | dt d => exact h
  | fresh c =>
    obtain ⟨a, e, h1, h2, h3, h4⟩ := h
    exact ⟨a, e, h1, h2, h3, fun q => h4 (own_clr q)⟩
  | cel z =>
    have hz : ∀ j, z = .loc j → j ∉ [i] := fun j e => by
      subst e
      intro hm
      have : j = i := by simpa using hm
      subst this
      simp [W.isLoc] at hw
    have := adr_wipe (vs := vs) (σ := σ) (own := [i]) hz
    show adr vs (wipe σ [i]) z = some v
    rw [this]
    exact h
end
section
variable {X : Cx} {x n : Str} {cv : Value} {i : Nat} {body suite : List Stmt} {b0 : Stmt} {np pos pos' : Pos} {fb : M Fl} {fs : Addr → Addr → Ex → M Fl} {c : Str → Option Bool}
theorem takes_suite {a : Addr} {pn : List (Addr × Obj)} : Takes (X.suite a pn) Wf := fun u s' ⟨_, _, _, _, _, _, _, _, _, _, _, _, _, _, _, _, h⟩ => h.elim
theorem ds_try (hs : X.stack = X.env :: X.outer) (hf : X.env.frame = some X.env.locals) (hN : X.N.Nodup) (hi : X.N[i]? = some n) (hln : X.env.kindOf n = some .local) (hc : Names X x cv)
    (hcat : ∀ (y : Str) (b : Bool) (C : Addr), c y = some b → X.mg y = some (.ref C) → PySem.W.exmOne X.K (.ref C) cv = some b)
    (hb : ∀ (pn : List (Addr × Obj)) (xe : Value → Shared → Prop), PassesOwn (model X.prog X.w) X.A X.env xe → DSs (X.tr pn xe) body fb)
    (hsu : ∀ (a : Addr) (oe : Obj) (pn : List (Addr × Obj)) (C dd : Addr) (y : Ex), Zc (.ref C) (some dd) oe → (∃ vs, oe.data = .fields vs) → X.mg y.cls = some (.ref C) → c y.cls = some true → DSs (X.suite a ((a, oe) :: pn)) (b0 :: suite) (fs a dd y)) :
    DS X (.Try body [.ExceptHandler (some (.Name x np)) (some n) (b0 :: suite) pos'] [] [] pos) (cTry fb c i fs) := by
  refine ⟨fun Wout tk => ?_⟩
  refine ⟨_, ps_try_as (c := cv) (i := i) (Wout := Wout) (tb := fun W E σ H => ∃ vs B r, Rl X.K vs B σ H r ∧ PostS X vs W B H σ r (fb r) E)
    (ts := fun a cls d E σ H => ∃ C dd y vs B r, cls = .ref C ∧ d = some dd ∧ X.mg y.cls = some (.ref C) ∧ c y.cls = some true ∧ Rl X.K vs B σ H r ∧ PostS X vs Wf B H σ r (fs a dd y r) E) hs hf hN hi hln hc tk
    (fun W pn xe tkb hp => ⟨fun pins s σ H D I ⟨vs, B, r, R, h⟩ => ?_⟩) (fun a oe cls d pn hz hfl => ⟨fun pins s σ H D I ⟨C, dd, y, vs, B, r, e1, e2, hm, hcy, R, h⟩ => ?_⟩), fun vs B σ H r E R h => ⟨vs, B, r, R, ?_⟩⟩
  · obtain ⟨t, pt, qt⟩ := (hb pn xe hp).run W tkb
    exact pt.run pins s σ H D I (qt vs B σ H r D R h)
  · subst e1 e2
    obtain ⟨t, pt, qt⟩ := (hsu a oe pn C dd y hz hfl hm hcy).run Wf takes_suite
    exact pt.run pins s σ H D I (qt vs B σ H r D R h)
  · unfold cTry at h
    cases ef : fb r with
    | fail => rw [ef] at h; exact h.elim
    | ok fl r1 => rw [ef] at h; cases fl <;> exact h
    | exc y r1 =>
      rw [ef] at h
      simp only at h
      intro cl dd0 σ1 B1 H1 s1 R1 hx
      obtain ⟨C, dd, fsV, rfl, hm, rfl, hB, hF⟩ := hx
      cases ec : c y.cls with
      | none => rw [ec] at h; exact h.elim
      | some b =>
        rw [ec] at h
        refine ⟨b, hcat y.cls b C ec hm, fun hb2 a na => ?_, fun hb2 => ?_⟩
        · subst hb2
          simp only at h
          split at h
          · rename_i hlt
            have nf : collapse (fun a dd => clearI i (fs a dd y (r1.put i (.dt (.exc a dd y.fs))))) ≠ .fail := fun z => by rw [z] at h; exact h
            have hall := collapse_all nf a dd
            rw [← hall] at h
            have rp : RpS X.K vs H B1 σ1 H1 r1 (.ref a) (.dt (.exc a dd y.fs)) := Rp.exc hB hF
            obtain ⟨R2, s2⟩ := R1.assign s1 rp hlt
            refine ⟨C, dd, y, vs, B1, r1.put i (.dt (.exc a dd y.fs)), rfl, rfl, hm, ec, R2, ?_⟩
            cases e3 : fs a dd y (r1.put i (.dt (.exc a dd y.fs))) with
            | fail => rw [e3] at h; exact h.elim
            | exc z r3 => rw [e3] at h; exact h.elim
            | ok fl r3 =>
              rw [e3] at h
              cases fl with
              | next => exact fun σ3 B3 H3 s3 R3 => h _ B3 H3 (s2.trans s3).clr R3.clr
              | brk => exact fun σ3 B3 H3 s3 R3 => h _ B3 H3 (s2.trans s3).clr R3.clr
              | cnt => exact fun σ3 B3 H3 s3 R3 => h _ B3 H3 (s2.trans s3).clr R3.clr
              | ret w =>
                simp only [clearI] at h
                split at h
                · exact h.elim
                · rename_i hw
                  have hw' : w.isLoc i = false := by cases q : w.isLoc i with
                    | true => exact absurd q hw
                    | false => rfl
                  exact fun v σ3 B3 H3 s3 R3 q3 => h v _ B3 H3 (s2.trans s3).clr R3.clr (RpW.clr (RpW.back q3 s2.dom) hw')
          · exact h.elim
        · subst hb2
          exact h (.ref C) (some dd) σ1 B1 H1 s1 R1 ⟨C, dd, fsV, rfl, hm, rfl, hB, hF⟩
/-! ### e.f -/
def cXf (a dd : Addr) (i : Nat) (f : Str) : M W := fun r => match r.loc[i]? with
  | some (some (.dt (.exc a' dd' fs))) => if a' = a ∧ dd' = dd then (match fs.lookup f with
      | some d => .ok (.dt d) r
      | none => .fail) else .fail
  | _ => .fail
theorem rpF_look {K : PySem.W.Frag} {B : Hp} {f : Str} {d : D} : ∀ {fs : List (Str × V)} {ds : List (Str × D)}, RpF K B fs ds → ds.lookup f = some d → ∃ v, fs.lookup f = some v ∧ Rp K B v d
  | _, _, .nil, e => by cases e
  | _, _, .cons (x := x) h r, e => by
    rw [List.lookup_cons] at e ⊢
    cases q : (f == x) with
    | true => rw [q] at e; cases e; exact ⟨_, rfl, h⟩
    | false => rw [q] at e; exact rpF_look r e
theorem slot_exc {vs : List V} {B H : Hp} {σ : L2.St} {r : Rho} {a dd : Addr} {ds : List (Str × D)} (R : Rl X.K vs B σ H r) (e : r.loc[i]? = some (some (.dt (.exc a dd ds)))) : σ[i]? = some (some (.ref a)) ∧ ∃ fs, B dd = some (.xd fs) ∧ RpF X.K B fs ds := by
  obtain ⟨v, h1, h2⟩ := R.dat i _ e
  cases h2 with
  | exc hB hF => exact ⟨h1, _, hB, hF⟩
theorem de_xf {a C dd : Addr} {oe : Obj} {pn : List (Addr × Obj)} {f : Str} (T : XfC X.K C) (hno : PySem.W.findIn X.K (.ref C) f = some none) (hz : Zc (.ref C) (some dd) oe) (hfl : ∃ vs, oe.data = .fields vs)
    (hi : X.N[i]? = some n) (hv : Vis X.env.scope n) (hd : (n == ("__debug__" : Str)) = false) (hcd : (n == ("__classdict__" : Str)) = false) (hb : attributeBase (.Name n np) f X.env (eval (.Name n np) X.env) = eval (.Name n np) X.env) :
    DE (X.suite a ((a, oe) :: pn)) (.Attribute (.Name n np) f pos) (cXf a dd i f) := by
  refine ⟨fun Wx tk => ⟨_, pe_xf (X := X) T hno hz hfl (pe_var (X := X.suite a ((a, oe) :: pn)) hi hv hd hcd) hb, fun vs B σ H r Q R h => ?_⟩⟩
  unfold cXf at h
  split at h
  · rename_i a' dd' ds e
    split at h
    · rename_i he
      obtain ⟨rfl, rfl⟩ := he
      obtain ⟨h1, fsV, hB, hF⟩ := slot_exc (X := X) R e
      cases el : ds.lookup f with
      | none => rw [el] at h; exact h.elim
      | some d =>
        rw [el] at h
        obtain ⟨v, hl, rv⟩ := rpF_look hF el
        exact ⟨.ref a', h1, rfl, rfl, dd', fsV, v, rfl, R.sub.get _ _ hB, hl, h v B H .refl R rv⟩
    · exact h.elim
  · exact h.elim
/-! ### isinstance(e, c) -/
/-- what the class D must say -/
structure XiC (K : PySem.W.Frag) (C : Addr) : Prop where
  hcl : (PySem.W.clsIn K C).isSome = true
  hga : PySem.W.findIn K (.ref C) "__getattribute__" = some (some (.builtin "BaseException.__getattribute__"))
  hgt : ∃ gt, PySem.W.findIn K (.ref C) "__getattr__" = some gt
  hsub : PySem.W.subIn K (.ref C) (.type "BaseException") = some true
  ha : PySem.W.findIn K (.ref C) "__class__" = some (some (.builtin "object.__class__"))
  hn : PySem.W.specialIn K (.builtin "object.__class__") "__get__" = some (some (.builtin "getset_descriptor.__get__"))
  ht : PySem.W.takesIn K (.builtin "object.__class__") = some true
  hm : PySem.W.mroIn K C (.type "object") = some true
/-- one class, or several -/
def isaD (isa : D → Option Bool) : D → Option Bool
  | .tup l => isaL isa l
  | d => isa d
where isaL (isa : D → Option Bool) : List D → Option Bool
  | [] => some false
  | c :: r => match isa c with
    | some true => some true
    | some false => isaL isa r
    | none => none

/-- a class as data -/
def D.isC : D → Bool
  | .cls _ => true
  | .ty _ => true
  | _ => false
/-- isa tells the truth of the class at C -/
def IsaOk (K : PySem.W.Frag) (C : Addr) (isa : D → Option Bool) : Prop := (∀ d, d.isC = false → isa d = none) ∧ ∀ (d : D) (b : Bool), isa d = some b → ∀ (B : Hp) (v : V) (u : Value), Rp K B v d → RelV v u → PySem.W.kitOne K (.ref C) u = some b
def rIsX (K : PySem.W.Frag) (C a : Addr) (isa : D → Option Bool) : List V → Hp → VK → Prop := fun xs H Q => ∃ v d b, xs = [.ref a, v] ∧ (∃ B, Sbm B H ∧ RpV K B H v d) ∧ isaD isa d = some b ∧ Q (.bl b) H
theorem rp_isC {K : PySem.W.Frag} {B H : Hp} {v : V} {d : D} (h : RpV K B H v d) (q : d.isC = true) : Rp K B v d := by
  cases d <;> first | exact h | (simp [D.isC] at q)
theorem isaL_ok {K : PySem.W.Frag} {C : Addr} {isa : D → Option Bool} (h : IsaOk K C isa) : ∀ {l : List D} {b : Bool} {B : Hp} {vs : List V} {us : List Value}, isaD.isaL isa l = some b → RpAll K B vs l → Vals vs us → PySem.W.kitAny K (.ref C) us = some b
  | [], b, B, vs, us, e, r, v => by
    cases r; cases v; cases e
    exact kitAny_nil
  | c :: l, b, B, vs, us, e, r, v => by
    cases r with
    | cons r1 r2 =>
      cases v with
      | cons v1 v2 =>
        unfold isaD.isaL at e
        cases q : isa c with
        | none => rw [q] at e; cases e
        | some k =>
          rw [q] at e
          have k1 := h.2 c k q B _ _ r1 v1
          cases k with
          | true => cases e; exact kitAny_cons k1 (fun z => by cases z) (fun _ => rfl)
          | false => exact kitAny_cons k1 (fun _ => isaL_ok h e r2 v2) (fun z => by cases z)
theorem call_isX {a C dd : Addr} {oe : Obj} {pn : List (Addr × Obj)} {isa : D → Option Bool} (T : XiC X.K C) (hz : Zc (.ref C) (some dd) oe) (hfl : ∃ vs, oe.data = .fields vs) (hisa : IsaOk X.K C isa) :
    CallR (X.suite a ((a, oe) :: pn)) (.builtin "isinstance") (fun xs H Q => (∃ fs, H dd = some (.xd fs)) ∧ rIsX X.K C a isa xs H Q) := by
  intro pins s σ H xs us Q I r h
  obtain ⟨⟨fs, hdd⟩, v, d, b, rfl, ⟨B, sB, rp⟩, eb, q⟩ := h
  cases r with
  | cons ra rr =>
    cases rr with
    | cons rv rr =>
      cases rr
      rename_i u1 u2
      obtain rfl : u1 = Value.ref a := ra
      obtain ⟨hget, _⟩ := I.pin (a, oe) (List.mem_append.mpr (.inl List.mem_cons_self))
      obtain ⟨vs0, hd0⟩ := hfl
      obtain ⟨gt, hgt⟩ := T.hgt
      obtain ⟨mA, hns, _⟩ : ObjOk X.prog X.w H s.heap dd (.xd fs) := I.hok dd _ hdd
      obtain ⟨od, ho, _⟩ := lookIn_ns hns
      have J : PySem.W.InstAt s.heap a oe C (some od) := ⟨hget, hz.1, by unfold PySem.W.notCls; rw [hd0] <;> rfl, by rw [hz.2]; exact ho⟩
      have Z := PySem.W.kitx_exc (K := X.K) (x := a) (ox := oe) (od := some od) T.hcl T.hga hgt T.hsub T.ha T.hn T.ht T.hm
      have fin : ∀ tk, EP (X.suite a ((a, oe) :: pn)) pins σ Q (.bool b) { s with toks := tk } := fun tk => ⟨.bl b, H, I.kept (t' := tk) fun _ _ z => z, rfl, q⟩
      by_cases ht : ∃ l, d = .tup l
      · obtain ⟨l, rfl⟩ := ht
        have rp' : Rp X.K B v (.tup l) := rp
        cases rp' with
        | tup h1 h2 =>
          rename_i p xs
          obtain rfl : u2 = Value.ref p := rv
          obtain ⟨its, o, m, rvs, ho2, hc2, hd2⟩ := sqT_at I.hok I.kIn (seqT_mono sB h1)
          obtain ⟨oc, od2, dt2, sl2⟩ := o
          simp only at hc2 hd2
          subst hc2 hd2
          exact PySem.W.kia_tup Z I.kIn J ho2 (isaL_ok hisa eb h2 rvs) (fun z => nomatch z) fin
      · have e1 : isaD isa d = isa d := by
          cases d <;> first | rfl | exact absurd ⟨_, rfl⟩ ht
        rw [e1] at eb
        have hc : d.isC = true := by
          cases hq : d.isC with
          | true => rfl
          | false => rw [hisa.1 d hq] at eb; cases eb
        exact PySem.W.kia_one Z I.kIn J (hisa.2 d b eb B v u2 (rp_isC rp hc) rv) (fun z => nomatch z) fin
def cIsE (a dd : Addr) (i : Nat) (isa : D → Option Bool) (fc : M W) : M W := fun r => match r.loc[i]? with
  | some (some (.dt (.exc a' dd' _))) => if a' = a ∧ dd' = dd then M.bind fc (fun w => M.bind (M.view w) fun d => M.bind (M.opt (isaD isa d)) fun b => M.ret (.dt (.bl b))) r else .fail
  | _ => .fail
theorem de_isE {a C dd : Addr} {oe : Obj} {pn : List (Addr × Obj)} {isa : D → Option Bool} {e : Expr} {fc : M W} {p : Pos} (T : XiC X.K C) (hz : Zc (.ref C) (some dd) oe) (hfl : ∃ vs, oe.data = .fields vs) (hisa : IsaOk X.K C isa)
    (hi : X.N[i]? = some n) (hv : Vis X.env.scope n) (hd : (n == ("__debug__" : Str)) = false) (hcd : (n == ("__classdict__" : Str)) = false) (hg : Gl X "isinstance") (hm : X.mg "isinstance" = none) (hc : DE (X.suite a ((a, oe) :: pn)) e fc)
    (he : starEach [.Name n np, e] X.env = (false, eval (.Name n np) X.env) :: starEach [e] X.env) (he2 : starEach [e] X.env = (false, eval e X.env) :: starEach [] X.env) (hpl : (backTo pos (starEach [e] X.env)).any (·.1) = false) :
    DE (X.suite a ((a, oe) :: pn)) (.Call (.Name "isinstance" p) [.Name n np, e] [] pos) (cIsE a dd i isa fc) := by
  refine ⟨fun Wx tk => ?_⟩
  obtain ⟨t, pt, qt⟩ := hc.run Wx tk
  refine ⟨_, pe_callB (X := X.suite a ((a, oe) :: pn)) (call_isX (X := X) T hz hfl hisa) hg hm (by decide +kernel) (pa_cons (pe_var (X := X.suite a ((a, oe) :: pn)) hi hv hd hcd) (pa_cons pt pa_nil he2) he) (by decide) (by decide) he hpl, fun vs B σ H r Q R h => ?_⟩
  unfold cIsE at h
  split at h
  · rename_i a' dd' ds es
    split at h
    · rename_i hq
      obtain ⟨rfl, rfl⟩ := hq
      obtain ⟨h1, fsV, hB, hF⟩ := slot_exc (X := X) R es
      refine ⟨.ref a', h1, qt vs B σ H r _ R (Post.bind0 h fun v w B1 H1 r1 s1 R1 q1 h2 => ?_)⟩
      obtain ⟨d, vd, _, h3⟩ := Post.view R1 q1 h2
      obtain ⟨b, eb, h4⟩ := Post.opt h3
      exact ⟨⟨fsV, R1.sub.get _ _ (s1.sub _ _ hB)⟩, v, d, b, rfl, ⟨B1, R1.sub, vd⟩, eb, h4 (.bl b) B1 H1 s1 R1 (Rp.bl b)⟩
    · exact h.elim
  · exact h.elim
end
end Lc

set_option Elab.async false
set_option maxRecDepth 100000
set_option maxHeartbeats 4000000
/-! Part V: tuples and lists added, repeated, cut; sum, max, min of lists, tuple(x); classes by name; a def that fails. -/
namespace Lc
open PySem L2 PySem.Spec PyProof.Rows
section
variable {X : Cx} {B H : Hp} {v : V}
theorem OpS.or {f : Value → Value → Sem Value} {g g' : D → D → Option Bo} (h : OpS X f g) (h' : OpS X f g') : OpS X f (fun a b => match g a b with | some c => some c | none => g' a b) := by
  obtain ⟨rr, h1, h2⟩ := h
  obtain ⟨rr', h1', h2'⟩ := h'
  refine ⟨_, h1.or h1', fun x y da db b e B H Q s vx vy k => ?_⟩
  cases q : g da db with
  | some c => simp only [q] at e; cases e; exact .inl (h2 x y da db b q B H Q s vx vy k)
  | none => simp only [q] at e; exact .inr (h2' x y da db b e B H Q s vx vy k)
def gAddT : D → D → Option Bo
  | .tup xs, .tup ys => if xs.length + ys.length ≤ sizeLine then some (.dt (.tup (xs ++ ys))) else none
  | _, _ => none
theorem ops_addT : OpS X (binaryOp .Add) gAddT := by
  refine ⟨_, op_catA, fun x y da db b e B H Q s vx vy k => ?_⟩
  unfold gAddT at e
  split at e
  · rename_i xs ys
    split at e
    · rename_i hl
      cases e
      obtain ⟨a, us, rfl, h1, h2⟩ := rv_tup vx
      obtain ⟨c, ws, rfl, h3, h4⟩ := rv_tup vy
      refine ⟨a, c, us, ws, rfl, rfl, seqT_mono s h1, seqT_mono s h3, by rw [h2.length, h4.length]; exact hl, fun e0 => ?_, fun e0 e1 => ?_, fun e0 e1 p np => ?_⟩
      · subst e0
        have : xs = [] := List.length_eq_zero_iff.mp h2.length.symm
        subst this
        exact k _ B H .refl s (Rp.tup h3 h4)
      · subst e1
        have : ys = [] := List.length_eq_zero_iff.mp h4.length.symm
        subst this
        rw [List.append_nil] at k
        exact k _ B H .refl s (Rp.tup h1 h2)
      · exact k _ _ _ (.frozen s np) (same_both s) (Rp.tup (.inl upd_same) ((h2.append h4).mono (Ext.frozen s np).sub))
    · cases e
  · cases e
def gAdd2 (a b : D) : Option Bo := match gAdd a b with
  | some c => some c
  | none => gAddT a b
theorem ops_add2 : OpS X (binaryOp .Add) gAdd2 := OpS.or ops_add ops_addT
def gRepL : D → D → Option Bo
  | .lst xs, .int k => if -(2 ^ 63) ≤ k ∧ k < 2 ^ 63 ∧ xs.length * k.toNat ≤ sizeLine then some (.own (.lst (List.replicate k.toNat xs).flatten)) else none
  | _, _ => none
theorem rep_rp {K : PySem.W.Frag} {xs : List V} {ds : List D} (h : RpAll K B xs ds) : ∀ n : Nat, RpAll K B (List.replicate n xs).flatten (List.replicate n ds).flatten
  | 0 => .nil
  | n + 1 => by
    rw [List.replicate_succ, List.replicate_succ, List.flatten_cons, List.flatten_cons]
    exact h.append (rep_rp h n)
theorem ops_repL : OpS X (binaryOp .Mult) gRepL := by
  refine ⟨_, op_rep, fun x y da db b e B H Q s vx vy k => ?_⟩
  unfold gRepL at e
  split at e
  · rename_i xs n
    split at e
    · rename_i hl
      cases e
      obtain ⟨a, us, rfl, h1, h2⟩ := vx
      refine ⟨a, n, us, rfl, rv_int vy, h1, hl.1, hl.2.1, by rw [h2.length]; exact hl.2.2, fun p np => ?_⟩
      exact k _ B _ (.plain np) (s.trans (same_upd np)) ⟨p, rfl, np, none_of_sub s np, ⟨_, upd_same, rep_rp h2 _⟩⟩
    · cases e
  · cases e
def gRepT : D → D → Option Bo
  | .tup xs, .int k => if xs ≠ [] ∧ 2 ≤ k ∧ k ≤ 1000 ∧ xs.length ≤ 1000 then some (.dt (.tup (List.replicate k.toNat xs).flatten)) else none
  | _, _ => none
theorem ne_nil_len {α β : Type} {l : List α} {m : List β} (h : l.length = m.length) (n : m ≠ []) : l ≠ [] := fun z => by
  subst z
  exact n (List.length_eq_zero_iff.mp h.symm)
theorem ops_repT : OpS X (binaryOp .Mult) gRepT := by
  refine ⟨_, op_repT, fun x y da db b e B H Q s vx vy k => ?_⟩
  unfold gRepT at e
  split at e
  · rename_i xs n
    split at e
    · rename_i hl
      cases e
      obtain ⟨a, us, rfl, h1, h2⟩ := rv_tup vx
      refine ⟨a, n, us, rfl, rv_int vy, seqT_mono s h1, ne_nil_len h2.length hl.1, hl.2.1, hl.2.2.1, by rw [h2.length]; exact hl.2.2.2, fun p np => ?_⟩
      exact k _ _ _ (.frozen s np) (same_both s) (Rp.tup (.inl upd_same) ((rep_rp h2 _).mono (Ext.frozen s np).sub))
    · cases e
  · cases e
def gMul2 (a b : D) : Option Bo := match (match gMul a b with
    | some c => some c
    | none => gRepL a b) with
  | some c => some c
  | none => gRepT a b
theorem ops_mul2 : OpS X (binaryOp .Mult) gMul2 := OpS.or (OpS.or ops_mul ops_repL) ops_repT
/-! ### t[lo:hi] -/
def gSl2 : D → Option Int → Option Int → Option Bo
  | .tup l, lo, hi => some (.dt (.tup (cutD l lo hi)))
  | d, lo, hi => gSl d lo hi
theorem cut_rp {K : PySem.W.Frag} {xs : List V} {l : List D} {lo hi : Option Int} (h2 : RpAll K B xs l) : RpAll K B (cutV xs lo hi) (cutD l lo hi) := by
  unfold cutV cutD
  rw [h2.length]
  exact (h2.drop _).take _
theorem sls2 : SlS X gSl2 := by
  obtain ⟨rr, h1, h2⟩ := sls (X := X)
  refine ⟨_, h1.or sl_tupA, fun x d lo hi b e B H Q s vx k => ?_⟩
  unfold gSl2 at e
  split at e
  · rename_i l
    cases e
    obtain ⟨a, us, rfl, g1, g2⟩ := rv_tup vx
    refine .inr ⟨a, us, rfl, seqT_mono s g1, fun w => ?_, fun _ p np => ?_⟩
    · have e2 : cutD l lo hi = l := by
        unfold cutD
        rw [g2.length] at w
        rw [w.1, w.2, List.drop_zero, Nat.sub_zero, List.take_length]
      rw [e2] at k
      exact k _ B H .refl s (Rp.tup g1 g2)
    · exact k _ _ _ (.frozen s np) (same_both s) (Rp.tup (.inl upd_same) ((cut_rp g2).mono (Ext.frozen s np).sub))
  · exact .inl (h2 x d lo hi b e B H Q s vx k)
/-! ### sum, max, min of a list, tuple(x) -/
def intsOf : List D → Option (List Int)
  | [] => some []
  | .int b :: l => (intsOf l).map (b :: ·)
  | _ => none
theorem intsOf_ok : ∀ {l : List D} {bs : List Int}, intsOf l = some bs → l = bs.map D.int
  | [], bs, e => by cases e; rfl
  | d :: l, bs, e => by
    cases d with
    | int b =>
      simp only [intsOf] at e
      cases q : intsOf l with
      | none => rw [q] at e; cases e
      | some cs => rw [q] at e; cases e; rw [intsOf_ok q]; rfl
    | _ => simp [intsOf] at e
def gSum : List D → Option Bo
  | [.lst l] => (intsOf l).bind fun ns => iD ns.sum
  | _ => none
theorem cs_sum : CallS X (rSum X.K) gSum := by
  intro xs ds b e B H Q s vs k
  unfold gSum at e
  split at e
  · rename_i l
    cases q : intsOf l with
    | none => rw [q] at e; cases e
    | some ns =>
      rw [q] at e; cases e
      obtain ⟨x, rfl, a, xs, rfl, h1, h2⟩ := rvs_one vs
      rw [intsOf_ok q] at h2
      have := h2.ints
      subst this
      exact ⟨a, ns, rfl, .of h1, k _ B H .refl s (Rp.int _)⟩
  · cases e
def maxI : List Int → Int
  | [] => 0
  | [n] => n
  | n :: m :: r => max n (maxI (m :: r))
theorem maxI_ge : ∀ (ns : List Int) (y : Int), y ∈ ns → y ≤ maxI ns
  | [n], y, h => by rw [List.mem_singleton.mp h]; exact Int.le_refl _
  | n :: m :: r, y, h => by
    rcases List.mem_cons.mp h with rfl | h
    · exact Int.le_max_left _ _
    · exact Int.le_trans (maxI_ge (m :: r) y h) (Int.le_max_right _ _)
theorem maxI_in : ∀ (ns : List Int), ns ≠ [] → maxI ns ∈ ns
  | [n], _ => List.mem_singleton.mpr rfl
  | n :: m :: r, _ => by
    have := maxI_in (m :: r) (by simp)
    show max n (maxI (m :: r)) ∈ _
    rcases Int.le_total n (maxI (m :: r)) with h | h
    · rw [Int.max_eq_right h]; exact List.mem_cons_of_mem _ this
    · rw [Int.max_eq_left h]; exact List.mem_cons_self
def gMaxL : List D → Option Bo
  | [.lst l] => (intsOf l).bind fun ns => if ns = [] then none else iD (maxI ns)
  | ds => gMax ds
def rMax2 (K : PySem.W.Frag) : List V → Hp → VK → Prop := fun xs H Q => (∃ i j, xs = [.int i, .int j] ∧ Q (.int (if j > i then j else i)) H) ∨ rMax K xs H Q
theorem call_max12 (hc : X.calm = true) : CallR X (.builtin "max") (rMax2 X.K) := (call_max2 hc).or (cr_max hc)
theorem cs_max12 : CallS X (rMax2 X.K) gMaxL := by
  intro xs ds b e B H Q s vs k
  unfold gMaxL at e
  split at e
  · rename_i l
    cases q : intsOf l with
    | none => rw [q] at e; cases e
    | some ns =>
      rw [q] at e
      have e' : (if ns = [] then none else iD (maxI ns)) = some b := e
      split at e'
      · cases e'
      · rename_i hne
        cases e'
        obtain ⟨x, rfl, a, xs, rfl, h1, h2⟩ := rvs_one vs
        rw [intsOf_ok q] at h2
        have := h2.ints
        subst this
        refine .inr ⟨a, ns, rfl, .of h1, List.length_pos_iff.mpr hne, fun m hm hg => ?_⟩
        have : m = maxI ns := Int.le_antisymm (maxI_ge ns m hm) (hg _ (maxI_in ns hne))
        rw [this]
        exact k _ B H .refl s (Rp.int _)
  · exact .inl (cs_max xs _ b e B H Q s vs k)
def gTuple : List D → Option Bo
  | [.lst l] => some (.dt (.tup l))
  | [.tup l] => some (.dt (.tup l))
  | _ => none
theorem cs_tuple : CallS X (fun xs H Q => ∃ p ys, xs = [.ref p] ∧ ((SqL X.K H p ys ∧ ∀ l, H l = none → Q (.ref l) (upd H l (.tup ys))) ∨ (SqT X.K H p ys ∧ Q (.ref p) H))) gTuple := by
  intro xs ds b e B H Q s vs k
  unfold gTuple at e
  split at e
  · cases e
    obtain ⟨x, rfl, a, xs, rfl, h1, h2⟩ := rvs_one vs
    exact ⟨a, xs, rfl, .inl ⟨.of h1, fun p np => k _ _ _ (.frozen s np) (same_both s) (Rp.tup (.inl upd_same) (h2.mono (Ext.frozen s np).sub))⟩⟩
  · cases e
    obtain ⟨x, rfl, hx⟩ := rvs_one vs
    obtain ⟨a, xs, rfl, h1, h2⟩ := rv_tup hx
    exact ⟨a, xs, rfl, .inr ⟨seqT_mono s h1, k _ B H .refl s (Rp.tup h1 h2)⟩⟩
  · cases e
/-! ### classes by name; a def that fails -/
theorem de_cls {x : Str} {C : Addr} {pos : Pos} (hg : Gl X x) (hm : X.mg x = some (.ref C)) (hn : PySem.W.nsIn X.K mainGlobals x = some (some (.ref C))) (hd : (x == ("__debug__" : Str)) = false) : DE X (.Name x pos) (cC (.cls x)) := de_glo (v := .ref C) hg hm rfl (fun _ => .cls hn) hd
end
theorem fnT_fail {P : Program} {w : World} {K : PySem.W.Frag} {mg : Str → Option Value} {base : Heap} {k : Nat} {f : Addr} {fd : FuncData} {ps : List Str} : FnT P w K mg base k f fd ps (fun _ _ => .fail) :=
  ⟨fun _ _ _ _ _ _ _ _ _ _ _ _ _ _ ⟨_, _, _, _, _, _, h⟩ => h.elim⟩
theorem fnG_fail {P : Program} {w : World} {K : PySem.W.Frag} {mg : Str → Option Value} {base : Heap} {k : Nat} {f : Addr} {fd : FuncData} {ps : List Str} : FnG P w K mg base k f fd ps (fun _ => .fail) :=
  ⟨fun _ _ _ _ _ _ _ _ _ _ _ _ _ _ ⟨_, _, _, st, _, _, h⟩ => by
    cases st with
    | nil => exact h.elim
    | cons c st =>
      simp only [Fn.up] at h
      split at h <;> exact h.elim⟩
end Lc

set_option Elab.async false
set_option maxRecDepth 100000
set_option maxHeartbeats 4000000
/-! Part W: the head's facts: defs, names, error classes. -/
namespace Lc
open PySem L2 PySem.Spec PyProof.Rows He
def clsB (K : PySem.W.Frag) (b : Ba) (C : Addr) : Bool := match K.lookup C with
  | some ⟨.type t, _, .cls cd, sl⟩ => decide (t = "type") && (cd.hasDict && (!cd.hasDel && ((match sl.toList with
      | [_, _, _, _, some (.builtin nid), _] => decide (nid = b.new)
      | _ => false) && (match cd.mro with
      | .ref C' :: bm => decide (C' = C) && PySem.W.excTail b.tail bm
      | _ => false))))
  | _ => false
theorem clsB_ok {K : PySem.W.Frag} {b : Ba} {C : Addr} (h : clsB K b C = true) : ∃ nm q N bs bm sn sub ab col dd k0 k1 k2 k3 k5, K.lookup C = some (excClassObj nm q C N bs bm true sn sub ab col dd k0 k1 k2 k3 k5 b.new) ∧ PySem.W.excTail b.tail bm = true := by
  unfold clsB at h
  split at h
  · rename_i t dd cd sl hl
    obtain ⟨h1, h⟩ := ba h
    obtain ⟨h2, h⟩ := ba h
    obtain ⟨h3, h⟩ := ba h
    obtain ⟨h4, h5⟩ := ba h
    split at h4
    · rename_i k0 k1 k2 k3 nid k5 hs
      split at h5
      · rename_i C' bm hmro
        obtain ⟨h6, h7⟩ := ba h5
        have e1 := of_decide_eq_true h1
        have e4 := of_decide_eq_true h4
        have e6 := of_decide_eq_true h6
        obtain ⟨nm, bs, mro, ns, qn, hd, sn, sb, ab, col, del⟩ := cd
        simp only at h2 h3 hmro
        subst e1 e4 e6 hmro h2
        have e3 : del = false := by simpa using h3
        subst e3
        have es : sl = #[k0, k1, k2, k3, some (.builtin b.new), k5] := Array.toList_inj.mp (by rw [hs])
        subst es
        exact ⟨_, _, _, _, bm, _, _, _, _, _, _, _, _, _, _, hl, h7⟩
      · cases h5
    · cases h4
  · cases h
def initB (K : PySem.W.Frag) (file : Str) (C fI : Addr) : Bool := match K.lookup fI with
  | some ⟨_, _, .func fd, _⟩ => PySem.W.codeIn K fd.code fd.qualname && ((match fd.code with
      | .ref cda => (match K.lookup cda with
        | some ⟨_, _, .fields vs, _⟩ => (match (vs[2]? : Option Value) with
          | some (.str z _) => decide (z = file)
          | _ => false)
        | _ => false)
      | _ => false) && (match fd.closure with
      | [(_, cc)] => (match K.lookup cc with
        | some ⟨_, _, .cell (some (.ref C')), _⟩ => decide (C' = C)
        | _ => false)
      | _ => false))
  | _ => false
abbrev IniW : Type := Option (Arguments × FuncBody × Scope × Addr × List Str × Addr × Value × Value)
def iniW (K : PySem.W.Frag) (x : Str) : IniW := match K.lookup (ma K (ga K x) "__init__") with
  | some ⟨_, _, .func fd, _⟩ => some (fd.params, fd.body, fd.scope, fd.globals, fd.closure.map (·.1), fd.builtins, fd.defaults, fd.kwdefaults)
  | _ => none
def xcB (K : PySem.W.Frag) (b : Ba) (file x : Str) (fs : List Str) : Bool :=
  clsB K b (ga K x) && (eqO (PySem.W.findIn K (.ref (ga K x)) "__setattr__") (some (some (.builtin "object.__setattr__"))) && (decide (PySem.W.subIn K (.ref (ga K x)) (.type "BaseException") = some true) && (decide (PySem.W.typeIn K (.ref (ga K x)) = some (.type "type")) && (PySem.W.keepIn K (.ref (ga K x)) &&
  (eqO (PySem.W.findIn K (.ref (ga K x)) "__init__") (some (some (.ref (ma K (ga K x) "__init__")))) && (decide (PySem.W.typeIn K (.ref (ma K (ga K x) "__init__")) = some (.type "function")) && (initB K file (ga K x) (ma K (ga K x) "__init__") &&
  (eqO (PySem.W.ks_superIn K (ga K x) (ga K x) "__init__") (some (some (.builtin b.ini))) && (decide (PySem.W.subIn K (.ref (ga K x)) (.type b.name) = some true) && (eqO (PySem.W.nsIn K cStatics "thirdparty.any") (some none) && (decide (PySem.W.mroIn K (ga K x) (.ref (ga K x)) = some true) &&
  (fs.all (fun f => eqO (PySem.W.findIn K (.ref (ga K x)) f) (some none)) && (xfB K (ga K x) && ((PySem.W.clsIn K (ga K x)).isSome && (eqO (PySem.W.findIn K (.ref (ga K x)) "__class__") (some (some (.builtin "object.__class__"))) &&
  (eqO (PySem.W.specialIn K (.builtin "object.__class__") "__get__") (some (some (.builtin "getset_descriptor.__get__"))) && (decide (PySem.W.takesIn K (.builtin "object.__class__") = some true) && decide (PySem.W.mroIn K (ga K x) (.type "object") = some true))))))))))))))))))
/-- an error class: its name, its fields, its __init__ -/
structure XD where
  b : Ba
  x : Str
  fs : List Str
  params : Arguments
  body : List Stmt
  scope : Scope
def XD.val (d : XD) : IniW := some (d.params, .stmts d.body, d.scope, mainGlobals, ["__class__"], builtinsNs, .none, .none)
/-- all that is told of an error class -/
structure XcA (K : PySem.W.Frag) (b : Ba) (file x : Str) (fs : List Str) (params : Arguments) (body : List Stmt) (scope : Scope) : Prop where
  ini : ∃ fI cc cda fd, XcI K b file params body scope (ga K x) fI cc cda fd
  no : ∀ f ∈ fs, PySem.W.findIn K (.ref (ga K x)) f = some none
  xf : XfC K (ga K x)
  xi : XiC K (ga K x)
theorem xcA_of {K : PySem.W.Frag} {file : Str} {d : XD} (h : xcB K d.b file d.x d.fs = true) (e : iniW K d.x = d.val) : XcA K d.b file d.x d.fs d.params d.body d.scope := by
  obtain ⟨a1, h⟩ := ba h
  obtain ⟨a2, h⟩ := ba h
  obtain ⟨a3, h⟩ := ba h
  obtain ⟨a4, h⟩ := ba h
  obtain ⟨a5, h⟩ := ba h
  obtain ⟨a6, h⟩ := ba h
  obtain ⟨a7, h⟩ := ba h
  obtain ⟨a8, h⟩ := ba h
  obtain ⟨a9, h⟩ := ba h
  obtain ⟨a10, h⟩ := ba h
  obtain ⟨a11, h⟩ := ba h
  obtain ⟨a12, h⟩ := ba h
  obtain ⟨a13, h⟩ := ba h
  obtain ⟨a14, h⟩ := ba h
  obtain ⟨a15, h⟩ := ba h
  obtain ⟨a16, h⟩ := ba h
  obtain ⟨a17, h⟩ := ba h
  obtain ⟨a18, a19⟩ := ba h
  have ox : OexB K d.b (ga K d.x) := ⟨clsB_ok a1, eqO_ok a2, of_decide_eq_true a3, of_decide_eq_true a4, a5⟩
  have xf := xfB_ok a14
  refine ⟨?_, fun f hf => eqO_ok (List.all_eq_true.mp a13 f hf), xf, ⟨a15, xf.ga, ⟨_, xf.gg⟩, xf.exC, eqO_ok a16, eqO_ok a17, of_decide_eq_true a18, of_decide_eq_true a19⟩⟩
  unfold initB at a8
  unfold iniW at e
  split at a8
  · rename_i oc od fd osl hl
    rw [hl] at e
    obtain ⟨b1, b⟩ := ba a8
    obtain ⟨b2, b3⟩ := ba b
    split at b2
    · rename_i cda hcd
      split at b2
      · rename_i ccl cdd vs ccs hco
        split at b2
        · rename_i z tf hz
          have ez := of_decide_eq_true b2
          subst ez
          split at b3
          · rename_i nm cc hcl
            split at b3
            · rename_i cl cld C' csl hce
              have eC := of_decide_eq_true b3
              subst eC
              obtain ⟨n1, n2, n3, n4, n5, n6, n7, n8, n9, n10, n11, n12, n13, n14, n15⟩ := fd
              simp only [XD.val, Option.some.injEq, Prod.mk.injEq] at e
              simp only at hcd hcl b1
              obtain ⟨e1, e2, e3, e4, e5, e6, e7, e8⟩ := e
              subst hcd hcl e1 e2 e3 e4 e6 e7 e8
              have e5' : nm = "__class__" := by simpa using e5
              subst e5'
              exact ⟨_, cc, cda, _, ⟨ox, eqO_ok a6, of_decide_eq_true a7, ⟨_, _, _, _, _, _, _, _, _, rfl, hl, b1⟩, ⟨_, _, _, _, _, hco, hz⟩, ⟨_, _, _, hce⟩, eqO_ok a9, of_decide_eq_true a10, eqO_ok a11, of_decide_eq_true a12⟩⟩
            · cases b3
          · cases b3
        · cases b2
      · cases b2
    · cases b2
  · cases a8
/-! ### the Hook -/
abbrev AlS : Type := AlD × (Bool × List IniW)
def frS (g : Addr → Option Obj) (n : Nat) : PySem.W.Frag := frG g (sysModules :: cStatics :: asD g n)
def obsS (n : Nat) (fa : List Fa) (fn : List DefD) (file : Str) (xs : List XD) (ex : PySem.W.Frag → Bool) (g : Addr → Option Obj) : AlS := (obsD fa fn (frS g n), ((xs.all fun d => xcB (frS g n) d.b file d.x d.fs) && ex (frS g n), xs.map fun d => iniW (frS g n) d.x))
def valS (fn : List DefD) (xs : List XD) : AlS := (valD fn, (true, xs.map XD.val))
structure SaysS (fa : List Fa) (fn : List DefD) (file : Str) (xs : List XD) (ex : PySem.W.Frag → Bool) (K : PySem.W.Frag) : Prop where
  d : SaysD fa fn K
  xc : ∀ (i : Nat) (x : XD), xs[i]? = some x → XcA K x.b file x.x x.fs x.params x.body x.scope
  more : ex K = true
theorem saysS_of {n : Nat} {fa : List Fa} {fn : List DefD} {file : Str} {xs : List XD} {ex : PySem.W.Frag → Bool} {g : Addr → Option Obj} (e : obsS n fa fn file xs ex g = valS fn xs) : SaysS fa fn file xs ex (frS g n) := by
  have e1 : obsD fa fn (frS g n) = valD fn := congrArg (fun z : AlS => z.1) e
  have e2 : ((xs.all fun d => xcB (frS g n) d.b file d.x d.fs) && ex (frS g n)) = true := congrArg (fun z : AlS => z.2.1) e
  have e3 : (xs.map fun d => iniW (frS g n) d.x) = xs.map XD.val := congrArg (fun z : AlS => z.2.2) e
  obtain ⟨h1, h2⟩ := ba e2
  refine ⟨e1, fun i x hi => ?_, h2⟩
  have e4 : (xs.map fun d => iniW (frS g n) d.x)[i]? = (xs.map XD.val)[i]? := by rw [e3]
  rw [List.getElem?_map, List.getElem?_map, hi] at e4
  exact xcA_of (List.all_eq_true.mp h1 x (List.mem_of_getElem? hi)) (Option.some.inj e4)
def hookS (n : Nat) (fa : List Fa) (fn : List DefD) (file : Str) (xs : List XD) (ex : PySem.W.Frag → Bool) : PySem.W.Hook where
  α := AlS
  obs := fun s => obsS n fa fn file xs ex s.heap.get?
  val := fun _ => valS fn xs
  says := fun _ h => ∃ K : PySem.W.Frag, K.In h ∧ SaysS fa fn file xs ex K
  of := fun _ _ e => ⟨_, frG_in, saysS_of e⟩
  keeps := fun _ _ _ ⟨K, hK, c⟩ k => ⟨K, PySem.W.Frag.In.keeps hK k, c⟩
theorem obsS_eq {n : Nat} {fa : List Fa} {fn : List DefD} {file : Str} {xs : List XD} {ex : PySem.W.Frag → Bool} {g : Addr → Option Obj} {s : Shared} (h : ∀ a, g a = s.heap.get? a) : obsS n fa fn file xs ex g = (hookS n fa fn file xs ex).obs s := by
  have e : g = s.heap.get? := funext h
  rw [e]
  rfl
end Lc

set_option Elab.async false
set_option maxRecDepth 100000
set_option maxHeartbeats 4000000
/-! Part X: error classes as the printed proofs name them. -/
namespace Lc
open PySem L2 PySem.Spec PyProof.Rows He
def clsBody (s : Stmt) : List Stmt := match s with
  | .ClassDef _ _ _ b _ _ _ _ _ _ _ => b
  | _ => []
/-- a class: of the module, of Python -/
inductive CK where
  | c (x : Str)
  | t (n : String)
  deriving DecidableEq
def CK.val (K : PySem.W.Frag) : CK → Value
  | .c x => .ref (ga K x)
  | .t n => .type n
def CK.glo (K : PySem.W.Frag) : CK → Bool
  | .c x => eqO (PySem.W.nsIn K mainGlobals x) (some (some (.ref (ga K x))))
  | .t _ => true
abbrev Tab : Type := List ((Str × CK) × Bool)
/-- which class is under which: of each class of the module the one above it -/
structure IsaT where
  par : List (Str × CK)
  xs : List Str
  cs : List CK
def IsaT.up (t : IsaT) : Nat → CK → List CK
  | 0, _ => []
  | n + 1, .c x => .c x :: (match t.par.lookup x with
    | some p => t.up n p
    | none => [])
  | _ + 1, .t n => [.t n, .t "Exception", .t "BaseException", .t "object"]
def IsaT.sub (t : IsaT) (x : Str) (c : CK) : Bool := (t.up 6 (.c x)).contains c
def isaOf (tb : IsaT) (x : Str) : D → Option Bool
  | .cls y => if (tb.xs.contains x && tb.cs.contains (.c y)) = true then some (tb.sub x (.c y)) else none
  | .ty n => if (tb.xs.contains x && tb.cs.contains (.t n)) = true then some (tb.sub x (.t n)) else none
  | _ => none
def isaB (K : PySem.W.Frag) (tb : IsaT) : Bool := tb.xs.all fun x => tb.cs.all fun c => decide (PySem.W.kitOne K (.ref (ga K x)) (c.val K) = some (tb.sub x c)) && c.glo K
def catB (K : PySem.W.Frag) (tb : Tab) : Bool := tb.all fun p => decide (PySem.W.exmOne K (.ref (ga K p.1.1)) (p.1.2.val K) = some p.2)
theorem lookup_in {α β : Type} [BEq α] [LawfulBEq α] {k : α} {v : β} : ∀ {l : List (α × β)}, l.lookup k = some v → (k, v) ∈ l
  | [], h => by cases h
  | (a, b) :: l, h => by
    rw [List.lookup_cons] at h
    cases q : (k == a) with
    | true => rw [q] at h; cases h; rw [eq_of_beq q]; exact List.mem_cons_self
    | false => rw [q] at h; exact List.mem_cons_of_mem _ (lookup_in h)
theorem isa_in {K : PySem.W.Frag} {tb : IsaT} {x : Str} {c : CK} (h : isaB K tb = true) (hx : (tb.xs.contains x && tb.cs.contains c) = true) : PySem.W.kitOne K (.ref (ga K x)) (c.val K) = some (tb.sub x c) ∧ c.glo K = true := by
  obtain ⟨h1, h2⟩ := ba hx
  obtain ⟨z1, z2⟩ := ba (List.all_eq_true.mp (List.all_eq_true.mp h x (by simpa using h1)) c (by simpa using h2))
  exact ⟨of_decide_eq_true z1, z2⟩
theorem isa_ok {K : PySem.W.Frag} {tb : IsaT} {x : Str} (h : isaB K tb = true) : IsaOk K (ga K x) (isaOf tb x) := by
  refine ⟨fun d hd => by cases d <;> first | rfl | (simp [D.isC] at hd), fun d b e B v u r rv => ?_⟩
  unfold isaOf at e
  split at e
  · rename_i y
    split at e
    · rename_i hx
      obtain ⟨h1, h2⟩ := isa_in h hx
      cases e
      cases r with
      | cls hn =>
        have z := eqO_ok h2
        rw [hn] at z
        cases z
        obtain rfl : u = Value.ref (ga K y) := rv
        exact h1
    · cases e
  · rename_i n
    split at e
    · rename_i hx
      obtain ⟨h1, h2⟩ := isa_in h hx
      cases e
      cases r
      obtain rfl : u = Value.type n := rv
      exact h1
    · cases e
  · cases e
/-- what a law's text has of error classes -/
structure EnvE (P : Program) (K : PySem.W.Frag) (mg : Str → Option Value) (file : Str) (names : List Str) (isaT : IsaT) (catT : Tab) (xds : List XD) : Prop where
  cls : ∀ (i : Nat) (y : Str), names[i]? = some y → mg y = some (.ref (ga K y)) ∧ PySem.W.nsIn K mainGlobals y = some (some (.ref (ga K y)))
  isa : isaB K isaT = true
  cat : catB K catT = true
  xc : ∀ (i : Nat) (d : XD), xds[i]? = some d → XcA K d.b file d.x d.fs d.params d.body d.scope
  sup : mg "super" = none
  sys : ∃ o, K.lookup sysModules = some o
  hfile : ((P.main.file : Str) == file) = true
  htop : (P.main.scope.names.lookup ("super" : Str)).isSome = false
section
variable {P : Program} {K : PySem.W.Frag} {mg : Str → Option Value} {file : Str} {names : List Str} {isaT : IsaT} {catT : Tab} {xds : List XD}
/-- which classes the clause takes -/
def catOf (tb : Tab) (k : CK) (y : Str) : Option Bool := tb.lookup (y, k)
theorem cat_ok (ev : EnvE P K mg file names isaT catT xds) (hn : ∀ p ∈ catT, p.1.1 ∈ names) {k : CK} {y : Str} {b : Bool} {C : Addr} (e : catOf catT k y = some b) (hm : mg y = some (.ref C)) : PySem.W.exmOne K (.ref C) (k.val K) = some b ∧ C = ga K y := by
  have hi := lookup_in e
  have h1 := List.all_eq_true.mp ev.cat _ hi
  obtain ⟨j, hj, ej⟩ := List.mem_iff_getElem.mp (hn _ hi)
  have h2 := (ev.cls j y (by rw [List.getElem?_eq_getElem hj, ej])).1
  rw [hm] at h2
  cases h2
  exact ⟨of_decide_eq_true h1, rfl⟩
theorem xc_of (ev : EnvE P K mg file names isaT catT xds) {i j : Nat} {d : XD} (hx : xds[i]? = some d) (hn : names[j]? = some d.x) (Fo : ((P.main.file : Str) == file) = true → (P.main.scope.names.lookup ("super" : Str)).isSome = false → FormE P file d.params d.body d.scope d.fs) : Xc P K mg d.x d.fs := by
  have A := ev.xc i d hx
  obtain ⟨fI, cc, cda, fd, T⟩ := A.ini
  exact ⟨d.b, file, d.params, d.body, d.scope, _, fI, cc, cda, fd, T, Fo ev.hfile ev.htop, A.no, (ev.cls j d.x hn).1, (ev.cls j d.x hn).2, ev.sup⟩
end
section
variable {X : Cx} {x n : Str} {i : Nat} {body suite : List Stmt} {b0 : Stmt} {np pos pos' : Pos} {fb : M Fl} {fs : Addr → Addr → Ex → M Fl} {file : Str} {names : List Str} {isaT : IsaT} {catT : Tab} {xds : List XD}
theorem ds_tryC {j : Nat} (ev : EnvE X.prog X.K X.mg file names isaT catT xds) (hs : X.stack = X.env :: X.outer) (hf : X.env.frame = some X.env.locals) (hN : X.N.Nodup) (hi : X.N[i]? = some n) (hln : X.env.kindOf n = some .local) (hg : Gl X x) (hdb : (x == ("__debug__" : Str)) = false)
    (hj : names[j]? = some x) (hn : ∀ p ∈ catT, p.1.1 ∈ names)
    (hb : ∀ (pn : List (Addr × Obj)) (xe : Value → Shared → Prop), PassesOwn (model X.prog X.w) X.A X.env xe → DSs (X.tr pn xe) body fb)
    (hsu : ∀ (a : Addr) (oe : Obj) (pn : List (Addr × Obj)) (dd : Addr) (y : Ex), Zc (.ref (ga X.K y.cls)) (some dd) oe → (∃ vs, oe.data = .fields vs) → catOf catT (.c x) y.cls = some true → DSs (X.suite a ((a, oe) :: pn)) (b0 :: suite) (fs a dd y)) :
    DS X (.Try body [.ExceptHandler (some (.Name x np)) (some n) (b0 :: suite) pos'] [] [] pos) (cTry fb (catOf catT (.c x)) i fs) :=
  ds_try (cv := .ref (ga X.K x)) hs hf hN hi hln ⟨hg, hdb, .inl (ev.cls j x hj).1⟩ (fun _ _ _ e hm => (cat_ok ev hn e hm).1) hb fun a oe pn C dd y hz hfl hm hcy => by
    have e := (cat_ok ev hn hcy hm).2
    subst e
    exact hsu a oe pn dd y hz hfl hcy
theorem de_clsE {j : Nat} {X' : Cx} (ev : EnvE X'.prog X'.K X'.mg file names isaT catT xds) (hj : names[j]? = some x) (hg : Gl X' x) (hdb : (x == ("__debug__" : Str)) = false) : DE X' (.Name x pos) (cC (.cls x)) := de_cls hg (ev.cls j x hj).1 (ev.cls j x hj).2 hdb
end
end Lc
namespace Lc
open PySem L2 PySem.Spec PyProof.Rows He
theorem cat_one {tb : Tab} {k : CK} {y z : Str} (h : catOf tb k y = some true) (hd : ∀ p ∈ tb, p.1.2 = k → p.2 = true → p.1.1 = z) : y = z := hd _ (lookup_in h) rfl rfl
section
variable {K : PySem.W.Frag} {b : Ba} {file y z : Str} {fs : List Str} {params : Arguments} {body : List Stmt} {scope : Scope}
theorem xf_at (e : y = z) (T : XcA K b file z fs params body scope) : XfC K (ga K y) := by subst e; exact T.xf
theorem xi_at (e : y = z) (T : XcA K b file z fs params body scope) : XiC K (ga K y) := by subst e; exact T.xi
theorem no_at {f : Str} (e : y = z) (T : XcA K b file z fs params body scope) (hf : f ∈ fs) : PySem.W.findIn K (.ref (ga K y)) f = some none := by subst e; exact T.no f hf
end
end Lc

set_option Elab.async false
set_option maxRecDepth 100000
set_option maxHeartbeats 4000000
/-! Part Y: the signs of shown texts. -/
namespace Lc
open PySem L2
def OkS (x : Str) : Prop := ∀ c ∈ x.cps.toList, c < 1114112
theorem OkS.app {x y : Str} (h : OkS x) (k : OkS y) : OkS (x ++ y) := fun c hc => by
  rw [Str.cps_append] at hc
  simp only [Array.toList_append, List.mem_append] at hc
  exact hc.elim (h c) (k c)
theorem char_lt (c : Char) : c.toNat < 1114112 := by
  have := c.valid
  rcases this with h | h
  · have : c.toNat < 0xd800 := h
    omega
  · exact h.2
theorem ok_lit (s : String) : OkS (Str.ofString s) := fun c hc => by
  rw [Str.ofString_eq_toList] at hc
  obtain ⟨d, _, rfl⟩ : ∃ d : Char, d ∈ s.toList ∧ d.toNat = c := by simpa using hc
  exact char_lt d
theorem ok_strOk {x : Str} (h : OkS x) : PyData.strOk x = true := by
  unfold PyData.strOk
  rw [Array.all_eq_true_iff_forall_mem]
  intro c hc
  exact decide_eq_true (h c (by simpa using hc))
theorem ok_join {s : Str} (hs : OkS s) : ∀ {l : List Str}, (∀ x ∈ l, OkS x) → OkS (Str.join s l)
  | [], _ => fun c hc => by exact nomatch hc
  | [x], h => h x List.mem_cons_self
  | x :: y :: r, h => by
    show OkS (x ++ s ++ Str.join s (y :: r))
    exact ((h x List.mem_cons_self).app hs).app (ok_join hs fun z hz => h z (List.mem_cons_of_mem _ hz))
theorem ok_reprChar {q c : Nat} (hq : q < 1114112) (hc : c < 1114112) : ∀ e ∈ Builtin.Str.reprChar q c, e < 1114112 := by
  intro e he
  have hx : ∀ w, ∀ e ∈ (List.replicate (w - ((Nat.toDigits 16 c).map Char.toNat).length) 48 ++ (Nat.toDigits 16 c).map Char.toNat), e < 1114112 := fun w e he => by
    rcases List.mem_append.mp he with h | h
    · rw [(List.mem_replicate.mp h).2]; decide
    · obtain ⟨d, _, rfl⟩ := List.mem_map.mp h
      exact char_lt d
  unfold Builtin.Str.reprChar at he
  dsimp only at he
  repeat' split at he
  all_goals first
    | (simp only [List.mem_cons, List.not_mem_nil, or_false] at he; omega)
    | (rcases List.mem_append.mp he with h | h
       · simp only [List.mem_cons, List.not_mem_nil, or_false] at h; omega
       · exact hx _ e h)
theorem ok_fold {q : Nat} (hq : q < 1114112) : ∀ (l : List Nat) (acc : Array Nat), (∀ c ∈ l, c < 1114112) → (∀ c ∈ acc.toList, c < 1114112) → ∀ c ∈ (l.foldl (fun out c => out ++ (Builtin.Str.reprChar q c).toArray) acc).toList, c < 1114112
  | [], acc, _, h => h
  | c :: r, acc, hl, h => by
    refine ok_fold hq r _ (fun d hd => hl d (List.mem_cons_of_mem _ hd)) fun d hd => ?_
    simp only [Array.toList_append, List.mem_append] at hd
    rcases hd with hd | hd
    · exact h d hd
    · exact ok_reprChar hq (hl c List.mem_cons_self) d hd
theorem quote_lt (x : Str) : reprQuote x < 1114112 := by
  unfold reprQuote
  split <;> decide
theorem ok_repr {x : Str} (h : OkS x) : OkS (reprText x) := by
  unfold reprText
  intro c hc
  have hc' : c ∈ ((x.cps.foldl (fun out c => out ++ (Builtin.Str.reprChar (reprQuote x) c).toArray) #[reprQuote x]).push (reprQuote x)).toList := hc
  rw [Array.toList_push, ← Array.foldl_toList] at hc'
  rcases List.mem_append.mp hc' with h1 | h1
  · exact ok_fold (quote_lt x) _ _ h (fun d hd => by simp at hd; rw [hd]; exact quote_lt x) c h1
  · simp at h1; rw [h1]; exact quote_lt x
mutual
/-- texts of code points alone inside, dicts empty -/
def okP : PyData → Prop
  | .str x => OkS x
  | .list l => okPs l
  | .tuple l => okPs l
  | .dict l => l = []
  | _ => True
def okPs : List PyData → Prop
  | [] => True
  | d :: l => okP d ∧ okPs l
end
mutual
theorem shown_ok : ∀ d : PyData, okP d → OkS d.shown
  | .none, _ => by rw [PyData.shown]; exact ok_lit _
  | .bool b, _ => by rw [PyData.shown]; cases b <;> exact ok_lit _
  | .int i, _ => by rw [PyData.shown]; exact ok_lit _
  | .str x, h => by rw [PyData.shown]; exact ok_repr (by rw [okP] at h; exact h)
  | .list l, h => by
    rw [PyData.shown, listText_eq_join]
    exact ((ok_lit _).app (ok_join (ok_lit _) (shownAll_ok l (by rw [okP] at h; exact h)))).app (ok_lit _)
  | .tuple l, h => by
    rw [PyData.shown, tupleText]
    refine ((ok_lit _).app (ok_join (ok_lit _) (shownAll_ok l (by rw [okP] at h; exact h)))).app ?_
    exact ok_lit _
  | .dict l, h => by
    rw [okP] at h
    subst h
    intro c hc
    have : ∀ c ∈ (PyData.shown (.dict [])).cps.toList, c < 1114112 := by decide +kernel
    exact this c hc
theorem shownAll_ok : ∀ l : List PyData, okPs l → ∀ x ∈ PyData.shownAll l, OkS x
  | [], _, x, hx => by rw [PyData.shownAll] at hx; exact nomatch hx
  | d :: l, h, x, hx => by
    rw [okPs] at h
    rw [PyData.shownAll] at hx
    rcases List.mem_cons.mp hx with rfl | hx
    · exact shown_ok d h.1
    · exact shownAll_ok l h.2 x hx
end
end Lc

set_option Elab.async false
set_option maxRecDepth 100000
set_option maxHeartbeats 4000000
/-! Part Z: errors held as values: e.f, isinstance(e, c). -/
namespace Lc
open PySem L2 PySem.Spec PyProof.Rows He
section
variable {P : Program} {K : PySem.W.Frag} {mg : Str → Option Value} {file : Str} {names : List Str} {isaT : IsaT} {catT : Tab} {xds : List XD}
/-- the fields that may be read -/
def xdT (xds : List XD) : List (Str × List Str) := xds.map fun d => (d.x, d.fs)
def xdHas (t : List (Str × List Str)) (x f : Str) : Bool := t.any fun p => p.1 == x && p.2.contains f
def xdIs (t : List (Str × List Str)) (x : Str) : Bool := t.any fun p => p.1 == x
def xdN (xds : List XD) (names : List Str) : Prop := ∀ d ∈ xds, d.x ∈ names
theorem EnvE.at (ev : EnvE P K mg file names isaT catT xds) (hn : xdN xds names) {x : Str} {C : Addr} (h : xdIs (xdT xds) x = true) (hx : PySem.W.nsIn K mainGlobals x = some (some (.ref C))) : C = ga K x ∧ XfC K C ∧ XiC K C := by
  obtain ⟨p, hp, he⟩ := List.any_eq_true.mp h
  obtain ⟨d, hd, rfl⟩ := List.mem_map.mp hp
  have e : d.x = x := by simpa using he
  subst e
  obtain ⟨j, hj, ej⟩ := List.mem_iff_getElem.mp (hn d hd)
  have h2 := (ev.cls j d.x (by rw [List.getElem?_eq_getElem hj, ej])).2
  rw [hx] at h2
  cases h2
  obtain ⟨i, hi, ei⟩ := List.mem_iff_getElem.mp hd
  have A := ev.xc i d (by rw [List.getElem?_eq_getElem hi, ei])
  exact ⟨rfl, A.xf, A.xi⟩
theorem EnvE.atF (ev : EnvE P K mg file names isaT catT xds) (hn : xdN xds names) {x f : Str} {C : Addr} (h : xdHas (xdT xds) x f = true) (hx : PySem.W.nsIn K mainGlobals x = some (some (.ref C))) : XfC K C ∧ PySem.W.findIn K (.ref C) f = some none := by
  obtain ⟨p, hp, he⟩ := List.any_eq_true.mp h
  obtain ⟨d, hd, rfl⟩ := List.mem_map.mp hp
  obtain ⟨e, hf⟩ := ba he
  have e : d.x = x := by simpa using e
  have hf : f ∈ d.fs := by simpa using hf
  subst e
  obtain ⟨j, hj, ej⟩ := List.mem_iff_getElem.mp (hn d hd)
  have h2 := (ev.cls j d.x (by rw [List.getElem?_eq_getElem hj, ej])).2
  rw [hx] at h2
  cases h2
  obtain ⟨i, hi, ei⟩ := List.mem_iff_getElem.mp hd
  have A := ev.xc i d (by rw [List.getElem?_eq_getElem hi, ei])
  exact ⟨A.xf, A.no f hf⟩
end
section
variable {X : Cx} {e : Expr} {pos : Pos} {n : Str} {file : Str} {names : List Str} {isaT : IsaT} {catT : Tab} {xds : List XD} {fe : M W}
theorem pe_xv {te : TE} (he : PE X e te) (hb : attributeBase e n X.env (eval e X.env) = eval e X.env) :
    PE X (.Attribute e n pos) (fun σ H Q => te σ H fun x H1 => ∃ a C dd fs v, x = .ref a ∧ XfC X.K C ∧ PySem.W.findIn X.K (.ref C) n = some none ∧ H1 a = some (exo a C (some dd)) ∧ H1 dd = some (.xd fs) ∧ fs.lookup n = some v ∧ Q v H1) := by
  refine ⟨fun pins s σ H Q I h => ?_⟩
  refine attr_of hb (thn (he.run pins s σ H _ I h) fun u s1 hh => ?_)
  obtain ⟨x, H1, I1, rx, a, C, dd, fs, v, ex, T, hno, ea, ed, l, q⟩ := hh
  subst ex
  obtain rfl : u = Value.ref a := rx
  obtain ⟨t1, ho⟩ := exo_at I1.hok ea
  obtain ⟨mA, hns, hr⟩ : ObjOk X.prog X.w H1 s1.heap dd (.xd fs) := I1.hok dd _ ed
  obtain ⟨od, hod, hl⟩ := lookIn_ns hns
  obtain ⟨u, hu, ru⟩ := RelO.some_of (v := v) (o := mA n) (by rw [← l]; exact hr n)
  have J : PySem.W.InstAt s1.heap a _ C (some od) := ⟨ho, rfl, rfl, hod⟩
  exact HandSPX.exc_get I1.kIn J T.ga T.gg T.exC (PySem.W.findObj_own T.hdC hno rfl (by rw [hl, hu])) (handed_of ru) ⟨v, H1, I1.tok _, ru, q⟩
def gXv (t : List (Str × List Str)) (f : Str) : D → Option D
  | .err x fs => if xdHas t x f = true then fs.lookup f else none
  | _ => none
def cXv (t : List (Str × List Str)) (f : Str) (fe : M W) : M W := M.bind fe fun w => M.bind (M.view w) fun d => M.bind (M.opt (gXv t f d)) fun d' => M.ret (.dt d')
theorem de_xv (ev : EnvE X.prog X.K X.mg file names isaT catT xds) (hn : xdN xds names) (he : DE X e fe) (hb : attributeBase e n X.env (eval e X.env) = eval e X.env) : DE X (.Attribute e n pos) (cXv (xdT xds) n fe) := by
  refine ⟨fun Wx tk => ?_⟩
  obtain ⟨t, pt, qt⟩ := he.run Wx tk
  refine ⟨_, pe_xv pt hb, fun vs B σ H r Q R h => qt vs B σ H r _ R (Post.bind0 h fun v w B1 H1 r1 s1 R1 q1 h1 => ?_)⟩
  obtain ⟨d, vd, _, h2⟩ := Post.view R1 q1 h1
  obtain ⟨d', ed, h3⟩ := Post.opt h2
  unfold gXv at ed
  split at ed
  · rename_i x ds
    split at ed
    · rename_i hx
      cases vd with
      | err b1 b2 b3 b4 =>
        obtain ⟨v', l', rv'⟩ := rpF_look b4 ed
        obtain ⟨T, hno⟩ := ev.atF hn hx b3
        exact ⟨_, _, _, _, v', rfl, T, hno, R1.sub.get _ _ b1, R1.sub.get _ _ b2, l', h3 v' B1 H1 s1 R1 rv'⟩
    · cases ed
  · cases ed
/-! ### isinstance -/
def rIsV (K : PySem.W.Frag) : List V → Hp → VK → Prop := fun xs H Q => ∃ a C dd fs v d b isa, xs = [.ref a, v] ∧ XiC K C ∧ H a = some (exo a C (some dd)) ∧ H dd = some (.xd fs) ∧ IsaOk K C isa ∧ (∃ B, Sbm B H ∧ RpV K B H v d) ∧ isaD isa d = some b ∧ Q (.bl b) H
theorem call_isV : CallR X (.builtin "isinstance") (rIsV X.K) := by
  intro pins s σ H xs us Q I r h
  obtain ⟨a, C, dd, fs, v, d, b, isa, rfl, T, ha, hdd, hisa, ⟨B, sB, rp⟩, eb, q⟩ := h
  cases r with
  | cons ra rr =>
    cases rr with
    | cons rv rr =>
      cases rr
      rename_i u1 u2
      obtain rfl : u1 = Value.ref a := ra
      obtain ⟨t1, hget⟩ := exo_at I.hok ha
      obtain ⟨gt, hgt⟩ := T.hgt
      obtain ⟨mA, hns, _⟩ : ObjOk X.prog X.w H s.heap dd (.xd fs) := I.hok dd _ hdd
      obtain ⟨od, ho, _⟩ := lookIn_ns hns
      have J : PySem.W.InstAt s.heap a _ C (some od) := ⟨hget, rfl, rfl, ho⟩
      have Z := PySem.W.kitx_exc (K := X.K) (x := a) (ox := { cls := Value.ref C, dict := some dd, data := .fields #[.ref t1, .none, .none, .none, .bool false, .none] }) (od := some od) T.hcl T.hga hgt T.hsub T.ha T.hn T.ht T.hm
      have fin : ∀ tk, EP X pins σ Q (.bool b) { s with toks := tk } := fun tk => ⟨.bl b, H, I.kept (t' := tk) fun _ _ z => z, rfl, q⟩
      by_cases ht : ∃ l, d = .tup l
      · obtain ⟨l, rfl⟩ := ht
        have rp' : Rp X.K B v (.tup l) := rp
        cases rp' with
        | tup h1 h2 =>
          rename_i p xs
          obtain rfl : u2 = Value.ref p := rv
          obtain ⟨its, o, m, rvs, ho2, hc2, hd2⟩ := sqT_at I.hok I.kIn (seqT_mono sB h1)
          obtain ⟨oc, od2, dt2, sl2⟩ := o
          simp only at hc2 hd2
          subst hc2 hd2
          exact PySem.W.kia_tup Z I.kIn J ho2 (isaL_ok hisa eb h2 rvs) (fun z => nomatch z) fin
      · have e1 : isaD isa d = isa d := by
          cases d <;> first | rfl | exact absurd ⟨_, rfl⟩ ht
        rw [e1] at eb
        have hc : d.isC = true := by
          cases hq : d.isC with
          | true => rfl
          | false => rw [hisa.1 d hq] at eb; cases eb
        exact PySem.W.kia_one Z I.kIn J (hisa.2 d b eb B v u2 (rp_isC rp hc) rv) (fun z => nomatch z) fin
def gIsi2 (t : List (Str × List Str)) (isaT : IsaT) : List D → Option Bo
  | [.err x _, d] => if xdIs t x = true then (isaD (isaOf isaT x) d).bind bD else none
  | l => gIsi l
theorem call_isi2 : CallR X (.builtin "isinstance") (fun xs H Q => rIsiA X.K xs H Q ∨ rIsV X.K xs H Q) := call_isiA.or call_isV
theorem cs_isi2 (ev : EnvE X.prog X.K X.mg file names isaT catT xds) (hn : xdN xds names) : CallS X (fun xs H Q => rIsiA X.K xs H Q ∨ rIsV X.K xs H Q) (gIsi2 (xdT xds) isaT) := by
  intro xs ds b e B H Q s r k
  unfold gIsi2 at e
  split at e
  · rename_i x fs d
    split at e
    · rename_i hx
      obtain ⟨v1, v2, rfl, r1, r2⟩ := rvs_two r
      cases r1 with
      | err b1 b2 b3 b4 =>
        obtain ⟨rfl, _, T⟩ := ev.at hn hx b3
        obtain ⟨bb, e1, e2⟩ := Option.bind_eq_some_iff.mp e
        cases e2
        exact .inr ⟨_, _, _, _, v2, d, bb, isaOf isaT x, rfl, T, s.get _ _ b1, s.get _ _ b2, isa_ok ev.isa, ⟨B, s, r2⟩, e1, k _ B H .refl s (Rp.bl _)⟩
    · cases e
  · exact .inl (cs_isi xs ds b e B H Q s r k)
end
end Lc
namespace Lc
open PySem L2 PySem.Spec PyProof.Rows He
def cPar3 (i j l : Nat) (f : M (List W)) : M Fl := M.bind f fun ws => match ws with
  | [w1, w2, w3] => fun r => if (w2.isLoc i || (w3.isLoc i || w3.isLoc j)) = true then .fail else M.bind (gN i w1) (fun _ => M.bind (gN j w2) fun _ => M.bind (gN l w3) fun _ => M.ret .next) r
  | _ => M.no
section
variable {X : Cx} {a b c : Expr} {pos : Pos}
theorem ds_par3 {i j l : Nat} {x y z : Str} {f : M (List W)} {px py pz pt : Pos} {kt k2 pt2} (hc : X.calm = true) (hN : X.N.Nodup) (hi : X.N[i]? = some x) (hj : X.N[j]? = some y) (hl : X.N[l]? = some z) (hij : i ≠ j) (hil : i ≠ l) (hjl : j ≠ l)
    (hx : X.env.scope.names.lookup x = some .local) (hy : X.env.scope.names.lookup y = some .local) (hz : X.env.scope.names.lookup z = some .local) (ha : DA X [a, b, c] f)
    (hw : swappedStores [.Tuple [.Name x px, .Name y py, .Name z pz] kt pt] (.Tuple [a, b, c] k2 pt2) X.env = pure (some [x, y, z]))
    (hs : swapsWithSole [.Tuple [.Name x px, .Name y py, .Name z pz] kt pt] (.Tuple [a, b, c] k2 pt2) pos.line X.env = pure false) :
    DS X (.Assign [.Tuple [.Name x px, .Name y py, .Name z pz] kt pt] (.Tuple [a, b, c] k2 pt2) pos) (cPar3 i j l f) := by
  refine ⟨fun Wx tk => ?_⟩
  obtain ⟨t, p, q⟩ := ha.run Wx tk
  refine ⟨_, ps_par3 hc hN hi hj hl hij hil hjl hx hy hz p hw hs, fun vs B σ H r E R h => q vs B σ H r _ R (PostS.bind0 h fun xs ws B1 H1 r1 s1 R1 q1 h1 => ?_)⟩
  cases q1 with
  | nil => exact h1.elim
  | cons a1 b1 n1 =>
    cases b1 with
    | nil => exact h1.elim
    | cons a2 b2 n2 =>
      cases b2 with
      | nil => exact h1.elim
      | cons a3 b3 n3 =>
        cases b3 with
        | cons _ _ _ => exact h1.elim
        | nil =>
          rename_i v1 w1 v2 w2 v3 w3
          simp only at h1
          split at h1
          · exact h1.elim
          · rename_i hl
            have hl' : w2.isLoc i = false ∧ w3.isLoc i = false ∧ w3.isLoc j = false := by
              cases e : w2.isLoc i <;> cases e' : w3.isLoc i <;> cases e'' : w3.isLoc j <;> simp [e, e', e''] at hl ⊢
            cases e1 : gN i w1 r1 with
            | fail => simp only [M.bind, e1] at h1; exact h1.elim
            | exc x r2 => exact absurd e1 gN_noexc
            | ok u r2 =>
              simp only [M.bind, e1] at h1
              obtain ⟨B2, R2, s2, k2⟩ := gN_step R1 s1 a1 e1
              have q2 := k2 v2 w2 a2 (n1 0 v2 w2 rfl rfl) hl'.1
              have q3 := k2 v3 w3 a3 (n1 1 v3 w3 rfl rfl) hl'.2.1
              cases e2 : gN j w2 r2 with
              | fail => simp only [M.bind, e2] at h1; exact h1.elim
              | exc x r3 => exact absurd e2 gN_noexc
              | ok u r3 =>
                simp only [M.bind, e2] at h1
                obtain ⟨B3, R3, s3, k3⟩ := gN_step R2 s2 q2 e2
                have q4 := k3 v3 w3 q3 (n2 0 v3 w3 rfl rfl) hl'.2.2
                cases e3 : gN l w3 r3 with
                | fail => simp only [M.bind, e3] at h1; exact h1.elim
                | exc x r4 => exact absurd e3 gN_noexc
                | ok u r4 =>
                  simp only [M.bind, e3] at h1
                  obtain ⟨B4, R4, s4, _⟩ := gN_step R3 s3 q4 e3
                  exact ⟨v1, v2, v3, rfl, h1 _ B4 H1 s4 R4⟩
end
end Lc

namespace Lc
open PySem L2 PySem.Spec PyProof.Rows He
/-! ### a long top, looked at in parts -/
def obsX (file : Str) (xs : List XD) (K : PySem.W.Frag) : Bool × List IniW := (xs.all fun d => xcB K d.b file d.x d.fs, xs.map fun d => iniW K d.x)
theorem run_join {X : Option PySem.W.SharedT} {α β : Type} {lk : PySem.W.SharedT → α} {sn : PySem.W.SharedT → β} {va : α} {vb : β} {n : Nat} {fa : List Fa} {fn : List DefD} {file : Str} {xs ys zs : List XD} {ex : PySem.W.Frag → Bool} (hz : zs = xs ++ ys)
    (hA : X.map (fun s => (lk s, sn s, obsD fa fn (frS (HandSHeadRun.getT s) n))) = some (va, vb, valD fn)) (h1 : X.map (fun s => obsX file xs (frS (HandSHeadRun.getT s) n)) = some (true, xs.map XD.val)) (h2 : X.map (fun s => obsX file ys (frS (HandSHeadRun.getT s) n)) = some (true, ys.map XD.val))
    (hC : X.map (fun s => ex (frS (HandSHeadRun.getT s) n)) = some true) : X.map (fun s => (lk s, sn s, obsS n fa fn file zs ex (HandSHeadRun.getT s))) = some (va, vb, valS fn zs) := by
  subst hz
  cases X with
  | none => cases hA
  | some s =>
    simp only [Option.map_some, Option.some.injEq, Prod.mk.injEq, obsX] at hA h1 h2 hC ⊢
    obtain ⟨a1, a2, a3⟩ := hA
    refine ⟨a1, a2, ?_⟩
    unfold obsS valS
    rw [a3, List.all_append, h1.1, h2.1, hC, List.map_append, h1.2, h2.2, List.map_append]
    rfl
end Lc

set_option Elab.async false
set_option maxRecDepth 100000
set_option maxHeartbeats 4000000
/-! Comprehensions of two clauses. -/
namespace Lc
open PySem L2
def iOf (X : Cx) (f : M (List D)) : TI := fun σ H R => ∃ vs B r, Rl X.K vs B σ H r ∧ Post X vs Wf B H σ r (f r) (fJ X vs σ H) R
theorem DI.pi {X : Cx} {tg e : Expr} {f : M (List D)} (h : DI X tg e f) (tk : Takes X Wf) : PI X tg e (iOf X f) := by
  obtain ⟨t, p, q⟩ := h.run Wf tk
  exact ⟨fun pins s σ H R I ⟨vs, B, r, R', hp⟩ => p.run pins s σ H R I (q vs B σ H r R R' hp)⟩
def lc2Loop (own vs1 : List Nat) (T : W → M Unit) (tt : M Bool) (fi1 : M (List D)) (T1 : W → M Unit) (tt1 : M Bool) (fe : M W) : List D → List D → M (List D)
  | [], acc => M.ret acc
  | d :: ds, acc => fun r => match T (.dt d) r with
    | .ok _ r1 => match tt r1 with
      | .ok true r2 => match fi1 r2 with
        | .ok es r3 => match lcLoop vs1 T1 tt1 fe es acc (r3.wipe vs1) with
          | .ok acc' r4 => lc2Loop own vs1 T tt fi1 T1 tt1 fe ds acc' (r4.wipe own)
          | _ => .fail
        | _ => .fail
      | .ok false r2 => lc2Loop own vs1 T tt fi1 T1 tt1 fe ds acc (r2.wipe own)
      | _ => .fail
    | _ => .fail
def cLc2 (fi : M (List D)) (own vs1 : List Nat) (T : W → M Unit) (tt : M Bool) (fi1 : M (List D)) (T1 : W → M Unit) (tt1 : M Bool) (fe : M W) : M W := M.bind fi fun ds => fun r1 => if r1.noOwn own = true then
  match lc2Loop own vs1 T tt fi1 T1 tt1 fe ds [] (r1.wipe own) with
  | .ok acc re => .ok (.fresh (.lst acc)) (r1.back re own)
  | _ => .fail
  else .fail
section
variable {X : Cx}
theorem inner_read {vs : List V} {Hs B0 H0 B3 H3 : Hp} {σ0 σ2 : L2.St} {r0 r3 : Rho} {es acc : List D} {accV : List V} {J : It} {vs1 ts1 : List Nat} {T1 : W → M Unit} {tt1 : M Bool} {fe : M W} {L : Addr} {tot : Res (List D)} {Nx : Hp → Prop}
    (hts : ∀ t ∈ ts1, t ∈ vs1) (wk : Wk X.K vs Hs B3 H3 σ2 r3 J es) (hLs : ∃ o, Hs L = some o) (s3 : Stp vs B0 H0 σ0 r0 B3 H3 σ2 r3) (R3 : Rl X.K vs B3 σ2 H3 r3) (hL : H0 L = none) (hD3 : H3 L = some (.lst accV)) (ra3 : RpAll X.K B3 accV acc) (nb3 : B3 L = none) (no3 : ¬ Own vs σ2 r3 L)
    (htot : lcLoop vs1 T1 tt1 fe es acc (r3.wipe vs1) = tot) (nofail : tot ≠ .fail)
    (fin : ∀ B' H' r' acc' accV', tot = .ok acc' r' → Stp vs B0 H0 σ0 r0 B' H' (wipe σ2 vs1) r' → Rl X.K vs B' (wipe σ2 vs1) H' r' → H' L = some (.lst accV') → RpAll X.K B' accV' acc' → B' L = none → ¬ Own vs (wipe σ2 vs1) r' L → Nx H') :
    ∃ W1 : Nat → Nat → Hp → Prop, (∃ m, W1 0 m H3) ∧ ∀ j k H, W1 j k H → (J.stop j H ∧ Nx H) ∨ (J.go j H ∧ ∃ Nx1 : Hp → Prop, (∀ H', Nx1 H' → ∃ k', k' < k ∧ W1 (j + 1) k' H') ∧ ∀ x H', J.yld j H x H' → gOf X ts1 T1 x (wipe σ2 vs1) H' fun σ3 H5 => wipe σ3 vs1 = wipe σ2 vs1 ∧ ttOf X tt1 σ3 H5 fun b H6 =>
      if b = true then tOf X fe σ3 H6 fun y H7 => ∃ acc, H7 L = some (.lst acc) ∧ acc.length < sizeLine ∧ Nx1 (upd H7 L (.lst (acc ++ [y]))) else Nx1 H6) := by
  refine ⟨fun i m H' => i + m = es.length ∧ ∃ B' r' acc accV, Stp vs B0 H0 σ0 r0 B' H' (wipe σ2 vs1) r' ∧ Same B3 B' ∧ (∀ a o, H3 a = some o → ¬ Own vs σ2 r3 a → a ≠ L → NoMk B3 a → H' a = some o ∧ NoMk B' a) ∧ (∀ a, Own vs (wipe σ2 vs1) r' a → Own vs σ2 r3 a ∨ H3 a = none) ∧ (∀ a, H' a = none → H3 a = none) ∧ Rl X.K vs B' (wipe σ2 vs1) H' r' ∧ H' L = some (.lst accV) ∧ RpAll X.K B' accV acc ∧ B' L = none ∧ ¬ Own vs (wipe σ2 vs1) r' L ∧ r'.wipe vs1 = r' ∧ lcLoop vs1 T1 tt1 fe (es.drop i) acc r' = tot, ?_, ?_⟩
  · have Rw : Rl X.K vs B3 (wipe σ2 vs1) H3 (r3.wipe vs1) := R3.wipe
    have ow : ∀ a, Own vs (wipe σ2 vs1) (r3.wipe vs1) a → Own vs σ2 r3 a := fun a q => own_wipe q
    exact ⟨es.length, by omega, B3, r3.wipe vs1, acc, accV, ⟨s3.sub, s3.keep, s3.stl, s3.dom, fun a q => s3.own a (ow a q), s3.bol, s3.bod, s3.boo⟩, Same.refl B3, fun _ _ e _ _ m => ⟨e, m⟩, fun a q => .inl (ow a q), fun _ e => e, Rw, hD3, ra3, nb3, fun q => no3 (ow L q), wipe_wipe, htot⟩
  · rintro i m H' ⟨hm, B', r', acc, accV, s', sb', kp', on', dm', R', hD, ra, nb, no, hw, hl⟩
    have af : Aft vs Hs B3 H3 σ2 r3 B' H' := ⟨sb', R'.sub, fun a o e n mk hs => (kp' a o e n (fun q => by subst q; obtain ⟨o, ho⟩ := hLs; rw [hs] at ho; cases ho) mk).1⟩
    by_cases hlt : i < es.length
    · refine .inr ⟨wk.go i B' H' hlt af, fun H2 => i + 1 + (m - 1) = es.length ∧ ∃ B2 r2 acc2 accV2, Stp vs B0 H0 σ0 r0 B2 H2 (wipe σ2 vs1) r2 ∧ Same B3 B2 ∧ (∀ a o, H3 a = some o → ¬ Own vs σ2 r3 a → a ≠ L → NoMk B3 a → H2 a = some o ∧ NoMk B2 a) ∧ (∀ a, Own vs (wipe σ2 vs1) r2 a → Own vs σ2 r3 a ∨ H3 a = none) ∧ (∀ a, H2 a = none → H3 a = none) ∧ Rl X.K vs B2 (wipe σ2 vs1) H2 r2 ∧ H2 L = some (.lst accV2) ∧ RpAll X.K B2 accV2 acc2 ∧ B2 L = none ∧ ¬ Own vs (wipe σ2 vs1) r2 L ∧ r2.wipe vs1 = r2 ∧ lcLoop vs1 T1 tt1 fe (es.drop (i + 1)) acc2 r2 = tot, fun H2 q => ⟨m - 1, by omega, q⟩, fun x H2 y => ?_⟩
      have ed : es.drop i = es[i] :: es.drop (i + 1) := List.drop_eq_getElem_cons hlt
      rw [ed] at hl
      obtain ⟨B2, e2, sm2, rp⟩ := wk.yld i es[i] B' H' x H2 (by simp [hlt]) af y
      have R2 := R'.ext e2 sm2
      have st2 := e2.stp (vs := vs) (σ := wipe σ2 vs1) (r := r')
      have s2 := s'.trans st2
      have hD2 := e2.keep _ _ hD
      have nb2 := e2.new _ _ hD nb
      have step : ∀ {Bn Hn : Hp} {σn : L2.St} {rn : Rho}, Stp vs B' H' (wipe σ2 vs1) r' Bn Hn σn rn → Same B3 Bn ∧ (∀ a o, H3 a = some o → ¬ Own vs σ2 r3 a → a ≠ L → NoMk B3 a → Hn a = some o ∧ NoMk Bn a) ∧ (∀ a, Own vs σn rn a → Own vs σ2 r3 a ∨ H3 a = none) ∧ (∀ a, Hn a = none → H3 a = none) := fun {Bn Hn σn rn} st => by
        refine ⟨sb'.trans st.sub, fun a o e n q mk => (fun no => ⟨(st.keep a o (kp' a o e n q mk).1 no (kp' a o e n q mk).2).1, st.nomk (kp' a o e n q mk).1 no (kp' a o e n q mk).2⟩) fun z => ?_, fun a q => ?_, fun a q => dm' a (st.dom a q)⟩
        · exact (on' a z).elim n fun w => by rw [e] at w; cases w
        · exact (st.own a q).elim (on' a) fun w => .inr (dm' a w)
      refine ⟨vs, B2, r', .dt es[i], R2, rp, ?_⟩
      cases e3 : T1 (.dt es[i]) r' with
      | fail => simp only [lcLoop, e3] at hl; exact (nofail hl.symm).elim
      | exc z r4 => simp only [lcLoop, e3] at hl; exact (nofail hl.symm).elim
      | ok u r4 =>
        intro σ3 B3' H3' s4 _ o3 R4
        refine ⟨o3.wipe hts, ?_⟩
        obtain ⟨k3, n3⟩ := s4.keep L _ hD2 no (noMk_none nb2)
        have no4 : ¬ Own vs σ3 r4 L := fun q => (s4.own L q).elim no fun z => by rw [hD2] at z; cases z
        refine ⟨vs, B3', r4, R4, ?_⟩
        cases e4 : tt1 r4 with
        | fail => simp only [lcLoop, e3, e4] at hl; exact (nofail hl.symm).elim
        | exc z r5 => simp only [lcLoop, e3, e4] at hl; exact (nofail hl.symm).elim
        | ok k r5 =>
          intro k' B4 H4 s5 R5 ek
          have ek' : k' = k := ek
          subst ek'
          obtain ⟨k4, n4⟩ := s5.keep L _ k3 no4 (noMk_none (n3 nb2))
          have no5 : ¬ Own vs σ3 r5 L := fun q => (s5.own L q).elim no4 fun z => by rw [k3] at z; cases z
          have st4 := (st2.trans s4).trans s5
          have s14 := s'.trans st4
          cases k' with
          | false =>
            rw [if_neg Bool.false_ne_true]
            simp only [lcLoop, e3, e4] at hl
            have R6 : Rl X.K vs B4 (wipe σ2 vs1) H4 (r5.wipe vs1) := by rw [← o3.wipe hts]; exact R5.wipe
            have ow5 : ∀ a, Own vs (wipe σ2 vs1) (r5.wipe vs1) a → Own vs σ3 r5 a := fun a q => by rw [← o3.wipe hts] at q; exact own_wipe q
            obtain ⟨f1, f2, f3, f4⟩ := step st4
            exact ⟨by omega, B4, r5.wipe vs1, acc, accV, ⟨s14.sub, s14.keep, s14.stl, s14.dom, fun a q => s14.own a (ow5 a q), s14.bol, s14.bod, s14.boo⟩, f1, f2, fun a q => f3 a (ow5 a q), f4, R6, k4, (ra.mono e2.sub).mono (s4.sub.trans s5.sub), n4 (n3 nb2), fun q => no5 (ow5 L q), wipe_wipe, hl⟩
          | true =>
            rw [if_pos rfl]
            refine ⟨vs, B4, r5, R5, ?_⟩
            cases e5 : fe r5 with
            | fail => simp only [lcLoop, e3, e4, e5] at hl; exact (nofail hl.symm).elim
            | exc z r6 => simp only [lcLoop, e3, e4, e5] at hl; exact (nofail hl.symm).elim
            | ok w r6 =>
              intro yv B5 H5 s6 R6 q5
              obtain ⟨k5, n5⟩ := s6.keep L _ k4 no5 (noMk_none (n4 (n3 nb2)))
              cases e6 : w.frz r6 with
              | fail => simp only [lcLoop, e3, e4, e5, e6] at hl; exact (nofail hl.symm).elim
              | exc z r7 => exact absurd e6 frz_noexc
              | ok yd r7 =>
                simp only [lcLoop, e3, e4, e5, e6] at hl
                by_cases hz : acc.length < sizeLine
                · rw [if_pos hz] at hl
                  obtain ⟨B6, p6, R7, s7, sb6, _⟩ := frz1 (B0 := B4) (H0 := H4) (r0 := r5) R6 s6 q5 e6
                  have n6 : B6 L = none := (s7.keep L _ k4 no5 (noMk_none (n4 (n3 nb2)))).2 (n4 (n3 nb2))
                  have no6 : ¬ Own vs σ3 r7 L := fun q => (s7.own L q).elim no5 fun z => by rw [k4] at z; cases z
                  have ra6 : RpAll X.K B6 accV acc := (ra.mono e2.sub).mono ((s4.sub.trans s5.sub).trans s7.sub)
                  have st6 := st4.trans s7
                  obtain ⟨f1, f2, f3, f4⟩ := step st6
                  have ow7 : ∀ a, Own vs (wipe σ2 vs1) (r7.wipe vs1) a → Own vs σ3 r7 a := fun a q => by rw [← o3.wipe hts] at q; exact own_wipe q
                  have hL3 : ∀ a, a = L → H3 a ≠ none := fun a q => by subst q; rw [hD3]; exact fun z => by cases z
                  refine ⟨accV, k5, by rw [ra.length]; exact hz, by omega, B6, r7.wipe vs1, acc ++ [yd], accV ++ [yv], ?_, f1, fun a o e n q mk => ?_, fun a q => f3 a (ow7 a q), fun a e => ?_, ?_, upd_same, ra6.append (.cons p6 .nil), n6, fun q => no6 (ow7 L q), wipe_wipe, hl⟩
                  · have s16 := s'.trans st6
                    refine ⟨s16.sub, fun a o e n mk => ?_, s16.stl, fun a e => ?_, fun a q => s16.own a (ow7 a q), s16.bol, s16.bod, s16.boo⟩
                    · have : a ≠ L := fun q => by subst q; rw [hL] at e; cases e
                      obtain ⟨g1, g2⟩ := s16.keep a o e n mk
                      exact ⟨by rw [upd_ne this]; exact g1, g2⟩
                    · by_cases q : a = L
                      · subst q; exact hL
                      · rw [upd_ne q] at e; exact s16.dom a e
                  · rw [upd_ne q]; exact f2 a o e n q mk
                  · by_cases q : a = L
                    · subst q; rw [upd_same] at e; cases e
                    · rw [upd_ne q] at e; exact f4 a e
                  · have := (R7.other (o := .lst (accV ++ [yv])) n6 no6).wipe (own := vs1)
                    rw [o3.wipe hts] at this
                    exact this
                · rw [if_neg hz] at hl
                  exact (nofail hl.symm).elim
    · have e : i = es.length := by omega
      subst e
      rw [List.drop_length] at hl
      exact .inl ⟨wk.stop B' H' af, fin B' H' r' acc accV hl.symm s' R' hD ra nb no⟩
theorem wipe_sub (σ : L2.St) {own vs1 : List Nat} (hv : ∀ i ∈ vs1, i ∈ own) : wipe (wipe σ vs1) own = wipe σ own := by
  rw [wipeG_eq, wipeG_eq, wipeG_eq]
  apply List.ext_getElem?
  intro i
  by_cases hi : i ∈ own
  · by_cases q : i < σ.length
    · rw [wipeG_in hi (by rw [wipeG_len]; exact q), wipeG_in hi q]
    · rw [List.getElem?_eq_none (by rw [wipeG_len, wipeG_len]; omega), List.getElem?_eq_none (by rw [wipeG_len]; omega)]
  · rw [wipeG_out hi, wipeG_out hi, wipeG_out fun z => hi (hv i z)]
theorem lc2_read {vs : List V} {Wx : WX} {B H : Hp} {σ : L2.St} {r : Rho} {fi fi1 : M (List D)} {own ts vs1 ts1 : List Nat} {T T1 : W → M Unit} {tt tt1 : M Bool} {fe : M W} {wi : TI} {Q : VK} (hts : ∀ t ∈ ts, t ∈ own) (hts1 : ∀ t ∈ ts1, t ∈ vs1) (hv : ∀ i ∈ vs1, i ∈ own) (R : Rl X.K vs B σ H r)
    (qi : ∀ vs B σ H r R, Rl X.K vs B σ H r → Post X vs Wx B H σ r (fi r) (fJ X vs σ H) R → wi σ H R) (h : Post X vs Wx B H σ r (cLc2 fi own vs1 T tt fi1 T1 tt1 fe r) (fW X vs σ H) Q) : tLc2 wi (gOf X ts T) (ttOf X tt) (iOf X fi1) (gOf X ts1 T1) (ttOf X tt1) (tOf X fe) own vs1 σ H Q := by
  refine qi vs B σ H r _ R (Post.bind0 h fun J ds B1 H1 r1 s1 R1 wk h1 => ?_)
  intro L hL
  by_cases hno : r1.noOwn own = true
  · rw [if_pos hno] at h1
    have hsome : ∃ tot, tot = lc2Loop own vs1 T tt fi1 T1 tt1 fe ds [] (r1.wipe own) := ⟨_, rfl⟩
    obtain ⟨tot, htot⟩ := hsome
    rw [← htot] at h1
    have nofail : tot ≠ .fail := fun e => by rw [e] at h1; exact h1
    refine ⟨fun i m H' => i + m = ds.length ∧ ∃ B' r' acc accV, Stp vs B1 H1 (wipe σ own) (r1.wipe own) B' H' (wipe σ own) r' ∧ Rl X.K vs B' (wipe σ own) H' r' ∧ H' L = some (.lst accV) ∧ RpAll X.K B' accV acc ∧ B' L = none ∧ ¬ Own vs (wipe σ own) r' L ∧ r'.wipe own = r' ∧ lc2Loop own vs1 T tt fi1 T1 tt1 fe (ds.drop i) acc r' = tot, ?_, ?_⟩
    · have Rw : Rl X.K vs B1 (wipe σ own) H1 (r1.wipe own) := R1.wipe
      have e : Ext B1 H1 B1 (upd H1 L (.lst [])) := .plain hL
      exact ⟨ds.length, by omega, B1, r1.wipe own, [], [], e.stp, Rw.ext e (Rw.sub.trans e.keep), upd_same, .nil, none_of_sub R1.sub hL, Rw.notOwn hL, wipe_wipe, htot.symm⟩
    · rintro i m H' ⟨hm, B', r', acc, accV, s', R', hD, ra, nb, no, hw, hl⟩
      have af : Aft vs H B1 H1 σ r1 B' H' := ⟨s'.sub, R'.sub, fun a o e n mk _ => (s'.keep a o e (fun q => n (own_wipe q)) mk).1⟩
      by_cases hlt : i < ds.length
      · refine .inr ⟨wk.go i B' H' hlt af, fun H2 => i + 1 + (m - 1) = ds.length ∧ ∃ B2 r2 acc2 accV2, Stp vs B1 H1 (wipe σ own) (r1.wipe own) B2 H2 (wipe σ own) r2 ∧ Rl X.K vs B2 (wipe σ own) H2 r2 ∧ H2 L = some (.lst accV2) ∧ RpAll X.K B2 accV2 acc2 ∧ B2 L = none ∧ ¬ Own vs (wipe σ own) r2 L ∧ r2.wipe own = r2 ∧ lc2Loop own vs1 T tt fi1 T1 tt1 fe (ds.drop (i + 1)) acc2 r2 = tot, fun H2 q => ⟨m - 1, by omega, q⟩, fun x H2 y => ?_⟩
        have ed : ds.drop i = ds[i] :: ds.drop (i + 1) := List.drop_eq_getElem_cons hlt
        rw [ed] at hl
        obtain ⟨B2, e2, sm2, rp⟩ := wk.yld i ds[i] B' H' x H2 (by simp [hlt]) af y
        have R2 := R'.ext e2 sm2
        have s2 := s'.trans (e2.stp (vs := vs) (σ := wipe σ own) (r := r'))
        have hD2 := e2.keep _ _ hD
        have nb2 := e2.new _ _ hD nb
        refine ⟨vs, B2, r', .dt ds[i], R2, rp, ?_⟩
        cases e3 : T (.dt ds[i]) r' with
        | fail => simp only [lc2Loop, e3] at hl; exact (nofail hl.symm).elim
        | exc z r3 => simp only [lc2Loop, e3] at hl; exact (nofail hl.symm).elim
        | ok u r3 =>
          intro σ3 B3 H3 s3 _ o3 R3
          refine ⟨o3.wipe hts, ?_⟩
          obtain ⟨k3, n3⟩ := s3.keep L _ hD2 no (noMk_none nb2)
          have no3 : ¬ Own vs σ3 r3 L := fun q => (s3.own L q).elim no fun z => by rw [hD2] at z; cases z
          refine ⟨vs, B3, r3, R3, ?_⟩
          cases e4 : tt r3 with
          | fail => simp only [lc2Loop, e3, e4] at hl; exact (nofail hl.symm).elim
          | exc z r4 => simp only [lc2Loop, e3, e4] at hl; exact (nofail hl.symm).elim
          | ok k r4 =>
            intro k' B4 H4 s4 R4 ek
            have ek' : k' = k := ek
            subst ek'
            obtain ⟨k4, n4⟩ := s4.keep L _ k3 no3 (noMk_none (n3 nb2))
            have no4 : ¬ Own vs σ3 r4 L := fun q => (s4.own L q).elim no3 fun z => by rw [k3] at z; cases z
            have s14 := (s2.trans s3).trans s4
            cases k' with
            | false =>
              rw [if_neg Bool.false_ne_true]
              simp only [lc2Loop, e3, e4] at hl
              have R5 : Rl X.K vs B4 (wipe σ own) H4 (r4.wipe own) := by rw [← o3.wipe hts]; exact R4.wipe
              have ow5 : ∀ a, Own vs (wipe σ own) (r4.wipe own) a → Own vs σ3 r4 a := fun a q => by rw [← o3.wipe hts] at q; exact own_wipe q
              exact ⟨by omega, B4, r4.wipe own, acc, accV, ⟨s14.sub, s14.keep, s14.stl, s14.dom, fun a q => s14.own a (ow5 a q), s14.bol, s14.bod, s14.boo⟩, R5, k4, (ra.mono e2.sub).mono (s3.sub.trans s4.sub), n4 (n3 nb2), fun q => no4 (ow5 L q), wipe_wipe, hl⟩
            | true =>
              rw [if_pos rfl]
              refine ⟨vs, B4, r4, R4, ?_⟩
              cases e5 : fi1 r4 with
              | fail => simp only [lc2Loop, e3, e4, e5] at hl; exact (nofail hl.symm).elim
              | exc z r5 => simp only [lc2Loop, e3, e4, e5] at hl; exact (nofail hl.symm).elim
              | ok es r5 =>
                intro J1 B5 H5 s5 R5 wk1
                obtain ⟨k5, n5⟩ := s5.keep L _ k4 no4 (noMk_none (n4 (n3 nb2)))
                have no5 : ¬ Own vs σ3 r5 L := fun q => (s5.own L q).elim no4 fun z => by rw [k4] at z; cases z
                have s15 := s14.trans s5
                have ra5 : RpAll X.K B5 accV acc := (ra.mono e2.sub).mono ((s3.sub.trans s4.sub).trans s5.sub)
                simp only [lc2Loop, e3, e4, e5] at hl
                refine inner_read (Hs := H4) (tot := lcLoop vs1 T1 tt1 fe es acc (r5.wipe vs1)) hts1 wk1 ⟨_, k4⟩ s15 R5 hL k5 ra5 (n5 (n4 (n3 nb2))) no5 rfl (fun z => by rw [z] at hl; exact nofail hl.symm) fun B6 H6 r6 acc6 accV6 et s6 R6 hD6 ra6 nb6 no6 => ?_
                rw [et] at hl
                have ew : wipe (wipe σ3 vs1) own = wipe σ own := by rw [wipe_sub _ hv, o3.wipe hts]
                have R7 : Rl X.K vs B6 (wipe σ own) H6 (r6.wipe own) := by rw [← ew]; exact R6.wipe
                have ow6 : ∀ a, Own vs (wipe σ own) (r6.wipe own) a → Own vs (wipe σ3 vs1) r6 a := fun a q => by rw [← ew] at q; exact own_wipe q
                exact ⟨by omega, B6, r6.wipe own, acc6, accV6, ⟨s6.sub, s6.keep, s6.stl, s6.dom, fun a q => s6.own a (ow6 a q), s6.bol, s6.bod, s6.boo⟩, R7, hD6, ra6, nb6, fun q => no6 (ow6 L q), wipe_wipe, hl⟩
      · have e : i = ds.length := by omega
        subst e
        rw [List.drop_length] at hl
        refine .inl ⟨wk.stop B' H' af, ?_⟩
        have hl' : tot = .ok acc r' := hl.symm
        rw [hl'] at h1
        obtain ⟨Rf, sf, ob⟩ := back_ok R1 hno R' s' hw
        exact h1 (.ref L) B' H' (s1.trans sf) Rf ⟨L, rfl, s1.dom _ hL, nb, ⟨accV, hD, ra⟩, fun q => no (ob L q)⟩
  · rw [if_neg hno] at h1
    exact h1.elim
theorem de_lc2 {elt tg iter tg1 iter1 : Expr} {ifs ifs1 : List Expr} {scope : Scope} {own : List (Str × Nat)} {pos : Pos} {fi fi1 : M (List D)} {ts vs1 ts1 : List Nat} {T T1 : W → M Unit} {tt tt1 : M Bool} {fe : M W} (hc : X.calm = true) (hN : X.N.Nodup) (hi : DI X tg iter fi) (ok : BlkOk X.N X.env.scope scope own)
    (hts : ∀ t ∈ ts, t ∈ own.map (·.2)) (hts1 : ∀ t ∈ ts1, t ∈ vs1) (hv : ∀ i ∈ vs1, i ∈ own.map (·.2)) (hg : ∀ (s : Shared) (H : Hp) (C : Addr) (cl : List (Str × Addr)) (fp : List Addr), DG (X.blk s H scope (compEnvC scope cl C X.env) fp) tg ts T) (ht : ∀ (s : Shared) (H : Hp) (C : Addr) (cl : List (Str × Addr)) (fp : List Addr), DTs (X.blk s H scope (compEnvC scope cl C X.env) fp) ifs tt)
    (hi1 : ∀ (s : Shared) (H : Hp) (C : Addr) (cl : List (Str × Addr)) (fp : List Addr), DI (X.blk s H scope (compEnvC scope cl C X.env) fp) tg1 iter1 fi1) (hg1 : ∀ (s : Shared) (H : Hp) (C : Addr) (cl : List (Str × Addr)) (fp : List Addr), DG (X.blk s H scope (compEnvC scope cl C X.env) fp) tg1 ts1 T1) (ht1 : ∀ (s : Shared) (H : Hp) (C : Addr) (cl : List (Str × Addr)) (fp : List Addr), DTs (X.blk s H scope (compEnvC scope cl C X.env) fp) ifs1 tt1)
    (he : ∀ (s : Shared) (H : Hp) (C : Addr) (cl : List (Str × Addr)) (fp : List Addr), DE (X.blk s H scope (compEnvC scope cl C X.env) fp) elt fe) (hs : ∀ x, foldedSetIterable iter X.env x = pure x) (hs1 : ∀ env x, foldedSetIterable iter1 env x = pure x) :
    DE X (.ListComp elt [⟨tg, iter, ifs, 0⟩, ⟨tg1, iter1, ifs1, 0⟩] scope pos) (cLc2 fi (own.map (·.2)) vs1 T tt fi1 T1 tt1 fe) := by
  refine ⟨fun Wx tk => ?_⟩
  obtain ⟨wi, pi, qi⟩ := hi.run Wx tk
  exact ⟨_, pe_lc2 (g := gOf X ts T) (tt := ttOf X tt) (wi1 := iOf X fi1) (g1 := gOf X ts1 T1) (tt1 := ttOf X tt1) (te := tOf X fe) hc hN pi ok hv (fun s H C cl fp => (hg s H C cl fp).pg takes_blk) (fun s H C cl fp => (ht s H C cl fp).run takes_blk)
    (fun s H C cl fp => (hi1 s H C cl fp).pi takes_blk) (fun s H C cl fp => (hg1 s H C cl fp).pg takes_blk) (fun s H C cl fp => (ht1 s H C cl fp).run takes_blk) (fun s H C cl fp => (he s H C cl fp).pe takes_blk) hs hs1, fun vs B σ H r Q R h => lc2_read hts hts1 hv R qi h⟩
end
end Lc

set_option Elab.async false
set_option maxRecDepth 100000
set_option maxHeartbeats 4000000
/-! Stars: (a, *b), defs with *args and calls of them. -/
namespace Lc
open PySem L2 PySem.Spec PyProof.Rows
section
variable {X : Cx} {Wx : WX} {e : Expr} {es : List Expr} {p pos : Pos} {fe : M W} {g : M (List W)}
def D.seq : D → Option (List D)
  | .lst l => some l
  | .tup l => some l
  | _ => none
def cStar (f : M W) (g : M (List W)) : M (List W) := M.bind f fun w => M.bind (M.view w) fun d => M.bind (M.opt d.seq) fun ds => M.bind g fun ws => M.ret (ds.map W.dt ++ ws)
theorem RpWs.dts {K : PySem.W.Frag} {vs : List V} {Hs B H : Hp} {σ : L2.St} {r : Rho} {ys : List V} {ws : List W} (h : RpWs K vs Hs B σ H r ys ws) : ∀ {xs : List V} {ds : List D}, RpAll K B xs ds → RpWs K vs Hs B σ H r (xs ++ ys) (ds.map W.dt ++ ws)
  | _, _, .nil => h
  | _, _, .cons a b => .cons a (RpWs.dts h b) fun _ _ _ _ _ ⟨_, _, _, z, _⟩ => by cases z
theorem da_star (he : DE X e fe) (hr : DA X es g) (hs : starEach (.Starred e p :: es) X.env = (true, eval e X.env) :: starEach es X.env) : DA X (.Starred e p :: es) (cStar fe g) := by
  refine ⟨fun Wx tk => ?_⟩
  obtain ⟨ta, pa, qa⟩ := he.run Wx tk
  obtain ⟨tb, pb, qb⟩ := hr.run Wx tk
  refine ⟨_, StX.pa_star pa pb hs, fun vs B σ H r Q R h => qa vs B σ H r _ R (Post.bind0 h fun x w B1 H1 r1 s1 R1 q1 h1 => ?_)⟩
  obtain ⟨d, vd, _, h2⟩ := Post.view R1 q1 h1
  obtain ⟨ds, ed, h3⟩ := Post.opt h2
  have fin : ∀ a xs, x = .ref a → (SqT X.K H1 a xs ∨ SqL X.K H1 a xs) → RpAll X.K B1 xs ds → ∃ p xs, x = V.ref p ∧ (SqT X.K H1 p xs ∨ SqL X.K H1 p xs) ∧ tb σ H1 fun ys H2 => Q (xs ++ ys) H2 := fun a xs ex sq ra => by
    refine ⟨a, xs, ex, sq, qb vs B1 σ H1 r1 _ R1 ?_⟩
    cases hg : g r1 with
    | fail => simp only [M.bind, hg] at h3; exact h3.elim
    | exc y r2 =>
      simp only [M.bind, hg] at h3
      exact fun cl dd B2 H2 s2 R2 f2 => h3 cl dd B2 H2 (s1.trans s2) R2 f2
    | ok ws r2 =>
      simp only [M.bind, hg] at h3
      intro ys B2 H2 s2 R2 f2
      exact h3 (xs ++ ys) B2 H2 (s1.trans s2) R2 (RpWs.dts (RpWs.back s1.dom f2) (ra.mono s2.sub))
  cases d with
  | lst l =>
    cases ed
    obtain ⟨a, xs, rfl, ha, hx⟩ := vd
    exact fin a xs rfl (.inr (.inl (.inl ha))) hx
  | tup l =>
    cases ed
    cases vd with
    | tup ha hx => exact fin _ _ rfl (.inl (seqT_mono R1.sub ha)) hx
  | _ => cases ed
end
/-! ### def f(a, .., *v) -/
/-- what a call with further values does: F gets them as a tuple -/
def spS (K : PySem.W.Frag) (mg : Str → Option Value) (n : Nat) (F : FnS) : Sp := fun vs H Q E => ∃ ws rest, vs = ws ++ rest ∧ ws.length = n ∧ rest.length ≤ sizeLine ∧
  ∀ p, H p = none → spG K mg (n + 1) F (ws ++ [.ref p]) (upd H p (.tup rest)) Q E
structure FnGS (P : Program) (w : World) (K : PySem.W.Frag) (mg : Str → Option Value) (base : Heap) (k : Nat) (f : Addr) (n : Nat) (F : FnS) : Prop where
  run : ∀ (A : Around) (outer : List Env) (s : Shared) (H : Hp) (us : List Value) (vs : List V) (Q : VK) (E : XK), Room k A → A.guards = some [] → Env0 P w K mg base A outer s H → Vals vs us →
    spS K mg n F vs H Q E → codeAny (model P w) A (.call (.ref f) ⟨us, []⟩) (CR (L2.CX P w) outer P w H s Q E) s
structure CalGS (P : Program) (w : World) (K : PySem.W.Frag) (mg : Str → Option Value) (base : Heap) (k : Nat) (x : Str) (n : Nat) (F : FnS) : Prop where
  ex : ∃ f, FnGS P w K mg base k f n F ∧ mg x = some (.ref f) ∧ PySem.W.keepIn K (.ref f) = true
theorem FnGS.up {P : Program} {w : World} {K : PySem.W.Frag} {mg : Str → Option Value} {base : Heap} {j k n : Nat} {f : Addr} {F : FnS} (h : FnGS P w K mg base j f n F) (l : j ≤ k) : FnGS P w K mg base k f n F :=
  ⟨fun A outer s H us vs Q E hr => h.run A outer s H us vs Q E (hr.mono l)⟩
section
variable {K : PySem.W.Frag} {mg : Str → Option Value} {ws rest : List V} {B H : Hp} {as : List Bo} {st : List Cn} {ds : List D} {p : Addr}
theorem get_snoc {α : Type} {l : List α} {a x : α} {k : Nat} (h : (l ++ [a])[k]? = some x) : l[k]? = some x ∨ (k = l.length ∧ x = a) := by
  by_cases hk : k < l.length
  · rw [List.getElem?_append_left hk] at h; exact .inl h
  · rw [List.getElem?_append_right (by omega)] at h
    have : k - l.length = 0 := by
      cases q : k - l.length with
      | zero => rfl
      | succ n => rw [q] at h; simp at h
    rw [this] at h
    exact .inr ⟨by omega, by simpa using h.symm⟩
theorem snoc_own {bs : List Bo} {d : D} {z : Ix} {c : Cn} (h : (⟨[], bs ++ [.dt d], st⟩ : Rho).cnt z = some c) : (⟨[], bs, st⟩ : Rho).cnt z = some c := by
  obtain ⟨k, rfl, e⟩ := cnt_bare h
  rcases get_snoc e with q | ⟨_, q⟩
  · simp [Rho.cnt, q]
  · cases q
theorem snoc_cnt {bs : List Bo} {d : D} {z : Ix} {c : Cn} (h : (⟨[], bs, st⟩ : Rho).cnt z = some c) : (⟨[], bs ++ [.dt d], st⟩ : Rho).cnt z = some c ∧ ∃ k, z = .bor k ∧ k < bs.length := by
  obtain ⟨k, rfl, e⟩ := cnt_bare h
  have hk : k < bs.length := (List.getElem?_eq_some_iff.mp e).1
  exact ⟨by simp [Rho.cnt, List.getElem?_append_left hk, e], k, rfl, hk⟩
theorem star_in (R : Rl K ws B [] H ⟨[], as, st⟩) (hl : ws.length = as.length) (hr : RpAll K B rest ds) (n : H p = none) : Rl K (ws ++ [.ref p]) (upd B p (.tup rest)) [] (upd H p (.tup rest)) ⟨[], as ++ [.dt (.tup ds)], st⟩ := by
  have ex : Ext B H (upd B p (.tup rest)) (upd H p (.tup rest)) := .frozen R.sub n
  have R1 := R.ext ex (same_both R.sub)
  refine ⟨R1.sub, R1.sto, rfl, fun i d q => by simp at q, fun z c q => ?_, fun i k q => by simp at q, fun k d q => ?_, fun z z' c c' a q q' h h' => ?_⟩
  · obtain ⟨a, h1, h2, h3⟩ := R1.own z c (snoc_own q)
    obtain ⟨k, rfl, e⟩ := cnt_bare (snoc_own q)
    have hk : k < ws.length := by rw [hl]; exact (List.getElem?_eq_some_iff.mp e).1
    refine ⟨a, ?_, h2, h3⟩
    have h1' : ws[k]? = some (.ref a) := h1
    show (ws ++ [.ref p])[k]? = _
    rw [List.getElem?_append_left hk]
    exact h1'
  · rcases get_snoc (l := as) q with q2 | ⟨hk, q2⟩
    · obtain ⟨v, h1, h2⟩ := R1.bod k d q2
      have hk : k < ws.length := (List.getElem?_eq_some_iff.mp h1).1
      exact ⟨v, by rw [List.getElem?_append_left hk]; exact h1, h2⟩
    · subst hk
      have q' : d = .tup ds := by injection q2
      subst q'
      exact ⟨.ref p, by rw [← hl]; simp, .tup (.inl upd_same) (hr.mono ex.sub)⟩
  · have q1 := snoc_own q
    have q2 := snoc_own q'
    obtain ⟨k, rfl, e⟩ := cnt_bare q1
    obtain ⟨k', rfl, e'⟩ := cnt_bare q2
    have hk : k < ws.length := by rw [hl]; exact (List.getElem?_eq_some_iff.mp e).1
    have hk' : k' < ws.length := by rw [hl]; exact (List.getElem?_eq_some_iff.mp e').1
    have g1 : (ws ++ [.ref p])[k]? = some (.ref a) := h
    have g2 : (ws ++ [.ref p])[k']? = some (.ref a) := h'
    rw [List.getElem?_append_left hk] at g1
    rw [List.getElem?_append_left hk'] at g2
    exact R1.sep (.bor k) (.bor k') c c' a q1 q2 g1 g2
/-- F, the tuple given -/
def starF (F : FnS) (ds : List D) : FnS := fun as st => match F (as ++ [.dt (.tup ds)]) st with
  | .ok b bs s1 => .ok b bs.dropLast s1
  | .exc x bs s1 => .exc x bs.dropLast s1
  | .fail => .fail
theorem star_out {B' H' : Hp} {bs : List Bo} {st' : List Cn} (hl : ws.length = as.length) (n : H p = none) (sub : Sbm B H) (s : Stp (ws ++ [.ref p]) (upd B p (.tup rest)) (upd H p (.tup rest)) [] ⟨[], as ++ [.dt (.tup ds)], st⟩ B' H' [] ⟨[], bs, st'⟩) (R : Rl K (ws ++ [.ref p]) B' [] H' ⟨[], bs, st'⟩) :
    Stp ws B H [] ⟨[], as, st⟩ B' H' [] ⟨[], bs.dropLast, st'⟩ ∧ Rl K ws B' [] H' ⟨[], bs.dropLast, st'⟩ ∧ ∀ a, Own ws [] ⟨[], bs.dropLast, st'⟩ a → Own (ws ++ [.ref p]) [] ⟨[], bs, st'⟩ a := by
  have hbl : bs.length = as.length + 1 := by have := s.bol; simpa using this
  have hlast : bs[as.length]? = some (.dt (.tup ds)) := s.bod as.length (.tup ds) (by simp)
  have ebs : bs = bs.dropLast ++ [.dt (.tup ds)] := by
    have hne : bs ≠ [] := fun z => by rw [z] at hbl; simp at hbl
    have := (List.dropLast_concat_getLast hne).symm
    rw [List.getLast_eq_getElem] at this
    have e2 : bs[bs.length - 1]'(by omega) = .dt (.tup ds) := by
      have h3 : bs.length - 1 = as.length := by omega
      have := List.getElem?_eq_some_iff.mp hlast
      obtain ⟨h4, h5⟩ := this
      simp only [h3]
      exact h5
    rw [e2] at this
    exact this
  generalize hb2 : bs.dropLast = bs' at ebs ⊢
  subst ebs
  have hbl' : bs'.length = as.length := by simp at hbl; omega
  have ex : Ext B H (upd B p (.tup rest)) (upd H p (.tup rest)) := .frozen sub n
  have inOwn : ∀ a, Own (ws ++ [.ref p]) [] ⟨[], as ++ [.dt (.tup ds)], st⟩ a → Own ws [] ⟨[], as, st⟩ a := fun a ⟨z, c, q1, q2⟩ => by
    have q3 := snoc_own q1
    obtain ⟨k, rfl, e⟩ := cnt_bare q3
    have hk : k < ws.length := by rw [hl]; exact (List.getElem?_eq_some_iff.mp e).1
    have g1 : (ws ++ [.ref p])[k]? = some (.ref a) := q2
    rw [List.getElem?_append_left hk] at g1
    exact ⟨.bor k, c, q3, g1⟩
  have outOwn : ∀ a, Own ws [] ⟨[], bs', st'⟩ a → Own (ws ++ [.ref p]) [] ⟨[], bs' ++ [.dt (.tup ds)], st'⟩ a := fun a ⟨z, c, q1, q2⟩ => by
    obtain ⟨q3, k, rfl, hk⟩ := snoc_cnt (d := .tup ds) q1
    have hk : k < ws.length := by omega
    have g1 : ws[k]? = some (.ref a) := q2
    exact ⟨.bor k, c, q3, by show (ws ++ [.ref p])[k]? = _; rw [List.getElem?_append_left hk]; exact g1⟩
  refine ⟨⟨ex.sub.trans s.sub, fun a o e no mk => ?_, s.stl, fun a e => ex.keep.free (s.dom a e), fun a q => ?_, by simpa using hbl', fun k d q => ?_, fun k c a q q2 => ?_⟩, ⟨R.sub, R.sto, rfl, fun i d q => by simp at q, fun z c q => ?_, fun i k q => by simp at q, fun k d q => ?_, fun z z' c c' a q q' h h' => ?_⟩, outOwn⟩
  · obtain ⟨h1, h2⟩ := s.keep a o (ex.keep _ _ e) (fun z => no (inOwn a z)) (fun k q => mk k (ex.mks a k q))
    exact ⟨h1, fun z => h2 (ex.new a o e z)⟩
  · exact (s.own a (outOwn a q)).elim (fun z => .inl (inOwn a z)) fun z => .inr (ex.keep.free z)
  · have hk : k < as.length := (List.getElem?_eq_some_iff.mp q).1
    have := s.bod k d (by show (as ++ _)[k]? = _; rw [List.getElem?_append_left hk]; exact q)
    have this' : (bs' ++ [Bo.dt (.tup ds)])[k]? = some (.dt d) := this
    rw [List.getElem?_append_left (by omega)] at this'
    exact this'
  · have hk : k < as.length := (List.getElem?_eq_some_iff.mp q).1
    have := s.boo k c a (by show (as ++ _)[k]? = _; rw [List.getElem?_append_left hk]; exact q) (by rw [List.getElem?_append_left (by omega)]; exact q2)
    rcases this with ⟨c', h1⟩ | ⟨d, o, h1, h2⟩
    · have h1' : (bs' ++ [Bo.dt (.tup ds)])[k]? = some (.own c') := h1
      rw [List.getElem?_append_left (by omega)] at h1'
      exact .inl ⟨c', h1'⟩
    · have h1' : (bs' ++ [Bo.dt (.tup ds)])[k]? = some (.dt d) := h1
      rw [List.getElem?_append_left (by omega)] at h1'
      exact .inr ⟨d, o, h1', h2⟩
  · obtain ⟨q3, k, rfl, hk⟩ := snoc_cnt (d := .tup ds) q
    obtain ⟨a, h1, h2, h3⟩ := R.own (.bor k) c q3
    have g1 : (ws ++ [.ref p])[k]? = some (.ref a) := h1
    rw [List.getElem?_append_left (by omega)] at g1
    exact ⟨a, g1, h2, h3⟩
  · have hk : k < bs'.length := (List.getElem?_eq_some_iff.mp q).1
    obtain ⟨v, h1, h2⟩ := R.bod k d (by show (bs' ++ _)[k]? = _; rw [List.getElem?_append_left hk]; exact q)
    rw [List.getElem?_append_left (by omega)] at h1
    exact ⟨v, h1, h2⟩
  · obtain ⟨q3, k, rfl, hk⟩ := snoc_cnt (d := .tup ds) q
    obtain ⟨q4, k', rfl, hk'⟩ := snoc_cnt (d := .tup ds) q'
    have g1 : ws[k]? = some (.ref a) := h
    have g2 : ws[k']? = some (.ref a) := h'
    exact R.sep (.bor k) (.bor k') c c' a q3 q4 (by show (ws ++ [.ref p])[k]? = _; rw [List.getElem?_append_left (by omega)]; exact g1) (by show (ws ++ [.ref p])[k']? = _; rw [List.getElem?_append_left (by omega)]; exact g2)
theorem star_post {F : FnS} {Q : VK} {E : XK} (hl : ws.length = as.length) (n : H p = none) (sub : Sbm B H) (h : PostF K mg ws B H as st (starF F ds as st) Q E) :
    PostF K mg (ws ++ [.ref p]) (upd B p (.tup rest)) (upd H p (.tup rest)) (as ++ [.dt (.tup ds)]) st (F (as ++ [.dt (.tup ds)]) st) Q E := by
  unfold starF at h
  cases e : F (as ++ [.dt (.tup ds)]) st with
  | fail => rw [e] at h; exact h.elim
  | exc x bs st' =>
    rw [e] at h
    intro cl dd B' H' s R q
    obtain ⟨s', R', _⟩ := star_out hl n sub s R
    exact h cl dd B' H' s' R' q
  | ok b bs st' =>
    rw [e] at h
    intro v B' H' s R q
    obtain ⟨s', R', ow⟩ := star_out hl n sub s R
    refine h v B' H' s' R' ?_
    cases b with
    | dt d => exact q
    | own c =>
      obtain ⟨a, ea, h1, h2, h3, h4⟩ := q
      exact ⟨a, ea, (same_upd (o := .tup rest) n).free h1, h2, h3, fun z => h4 (ow a z)⟩
end
section
variable {P : Program} {w : World} {K : PySem.W.Frag} {mg : Str → Option Value} {base : Heap} {x qual : Str} {params : Arguments} {body : List Stmt} {scope : Scope} {f : Addr} {fd : FuncData} {ps : List Str} {pv : Str} {k : Nat} {F : FnS}
theorem fnTS_ofD {N : List Str} {bd : M Fl} {n : Nat} (D : FunD K x qual params body scope [] [] f fd) (S : FnScope N (ps ++ [pv]) scope) (hn : N.length = n)
    (hb : ∀ (kV doc pm : Value) (an : Option Addr) (cdv ct : Value) (us rest : List Value), us.length = ps.length → bindArgs (PySem.W.fnOf x qual params body scope .none kV doc pm an cdv ct) ⟨us ++ rest, []⟩ = (newTuple rest >>= fun t => pure (ps.zip us ++ [(pv, t)])))
    (hbody : ∀ (cdv : Value) (A : Around) (outer : List Env) (s : Shared) (H : Hp) (E : XK), Room k (A.deeper (envOfC qual scope s.heap.objs.size f cdv)) → A.guards = some [] →
      DSs (cxOf (L2.CX P w) P w K mg base N qual scope f cdv A outer s H E) body bd) : FnGS P w K mg base (k + 1) f ps.length (runS n bd) := by
  subst hn
  obtain ⟨oc, od, dV, kV, doc, pm, an, cdv, ct, osl, rfl, lk, hcd, hD, _⟩ := D.ex
  obtain rfl : dV = .none := by
    rcases hD with ⟨_, z⟩ | ⟨z, _⟩
    · exact z
    · exact absurd rfl z
  refine ⟨fun A outer s H us vs Q E hr hgu e0 rv ⟨ws, rest, ev, hl, hz, hp⟩ => ?_⟩
  subst ev
  obtain ⟨u1, u2, eu, r1, r2⟩ := StX.vals_split rv
  subst eu
  have hnn : H s.heap.objs.size = Option.none := e0.hok.fresh (Nat.le_refl _)
  have hl1 : u1.length = ps.length := by rw [← r1.length]; exact hl
  have hl2 : u2.length ≤ sizeLine := by rw [← r2.length]; exact hz
  refine StX.run_bnd lk hcd S hr e0 (G := fun xs H2 => ∃ p, H p = Option.none ∧ xs = ws ++ [V.ref p] ∧ H2 = upd H p (.tup rest)) (fun A' Ex Q' h => ?_) fun s2 H2 xs ⟨p, hpn, ex, eH⟩ hr' => ?_
  · rw [hb kV doc pm an cdv ct u1 u2 hl1]
    refine wpAny_bind (wpAny_newTuple (wpAny_pure ?_) hl2)
    have new : ObjOk P w (upd H s.heap.objs.size (.tup rest)) (s.heap.push ({ cls := .type "tuple", data := .seq u2.toArray } : Obj)) s.heap.objs.size (.tup rest) := ⟨hz, u2, r2, ⟨_, Heap.get?_push_size _ rfl, rfl, _, rfl⟩⟩
    have un := StX.un_laid (fs := frs outer) (s := s) (o := ({ cls := .type "tuple", data := .seq u2.toArray } : Obj)) (u := .tup rest) hnn
    have z := h _ _ (ws ++ [V.ref s.heap.objs.size]) (u1 ++ [Value.ref s.heap.objs.size]) (StX.env0_laid e0 new) un rfl (fun e s' => StX.cxUp outer s H _ _ E e s' un (fun b o q => Heap.get?_push_of_some _ q) rfl) (r1.append (.cons rfl .nil))
      (by rw [List.length_append, List.length_append, hl] <;> rfl) ⟨_, hnn, rfl, rfl⟩
    rw [List.zip_append hl1.symm] at z
    exact z
  · subst ex eH
    obtain ⟨t, pt, qt⟩ := (hbody cdv A outer s2 (upd H p (.tup rest)) E hr' hgu).run _ (takes_of rfl rfl rfl rfl)
    obtain ⟨hlv, B, as, st, hla, R1, hp1⟩ := hp p hpn
    have hlen : (ws ++ [V.ref p]).length = as.length := by rw [hla, hlv]
    exact ⟨t, pt, qt (ws ++ [V.ref p]) B (L2.start N (ws ++ [V.ref p])) (upd H p (.tup rest)) (entry N.length as st) _ (entry_rl (N := N) R1 hlen) (runS_ok (N := N) rfl rfl R1 hlen hp1)⟩
theorem FnGS.down {n : Nat} {F : FnS} (h : FnGS P w K mg base k f n F) : FnGS P w K mg base k f n F.down.up :=
  ⟨fun A outer s H us vs Q E hr hg e0 rv ⟨ws, rest, ev, hl, hz, hp⟩ => h.run A outer s H us vs Q E hr hg e0 rv ⟨ws, rest, ev, hl, hz, fun p hn => sp_down (hp p hn)⟩⟩
theorem fnGS_ofD {N : List Str} {bd : M Fl} {n : Nat} (D : FunD K x qual params body scope [] [] f fd) (S : FnScope N (ps ++ [pv]) scope) (hn : N.length = n)
    (hb : ∀ (kV doc pm : Value) (an : Option Addr) (cdv ct : Value) (us rest : List Value), us.length = ps.length → bindArgs (PySem.W.fnOf x qual params body scope .none kV doc pm an cdv ct) ⟨us ++ rest, []⟩ = (newTuple rest >>= fun t => pure (ps.zip us ++ [(pv, t)])))
    (hbody : ∀ (cdv : Value) (A : Around) (outer : List Env) (s : Shared) (H : Hp) (E : XK), Room k (A.deeper (envOfC qual scope s.heap.objs.size f cdv)) → A.guards = some [] →
      DSs (cxOf (L2.CX P w) P w K mg base N qual scope f cdv A outer s H E) body bd) : FnGS P w K mg base (k + 1) f ps.length (runF n bd).up := (fnTS_ofD D S hn hb hbody).down
theorem calS_of {n : Nat} (D : FunD K x qual params body scope [] [] f fd) (G : FnGS P w K mg base k f n F) (hm : mg x = some (.ref f)) : CalGS P w K mg base k x n F := ⟨f, G, hm, D.kp⟩
end
section
variable {X : Cx} {Wx : WX} {k n : Nat} {F : FnS} {x : Str} {p pos : Pos} {e : Expr} {es : List Expr} {g : M (List W)} {t : TA}
/-- a call whose further values are given as a tuple -/
def cCallS (n : Nat) (F : FnS) (f : M (List W)) : M W := M.bind f fun ws => M.bind (frzAll (ws.drop n)) fun ds => M.bind (M.chk (decide (ds.length ≤ sizeLine ∧ n ≤ ws.length))) fun _ => cCallT (starF F ds) (M.ret (ws.take n))
theorem RpWs.takeW {K : PySem.W.Frag} {vs : List V} {Hs B H : Hp} {σ : L2.St} {r : Rho} : ∀ {xs : List V} {ws : List W} (n : Nat), RpWs K vs Hs B σ H r xs ws → RpWs K vs Hs B σ H r (xs.take n) (ws.take n)
  | _, _, 0, _ => .nil
  | _, _, _ + 1, .nil => .nil
  | _, _, n + 1, .cons a b c => .cons a (RpWs.takeW n b) fun i x u h1 h2 => by
    have h1' := h1
    have h2' := h2
    rw [List.getElem?_take] at h1 h2
    split at h1
    · rename_i hi
      rw [if_pos hi] at h2
      exact c i x u h1 h2
    · cases h1
theorem RpWs.dropW {K : PySem.W.Frag} {vs : List V} {Hs B H : Hp} {σ : L2.St} {r : Rho} : ∀ {xs : List V} {ws : List W} (n : Nat), RpWs K vs Hs B σ H r xs ws → RpWs K vs Hs B σ H r (xs.drop n) (ws.drop n)
  | _, _, 0, h => h
  | _, _, _ + 1, .nil => .nil
  | _, _, n + 1, .cons _ b _ => RpWs.dropW n b
theorem RpWs.apartW {K : PySem.W.Frag} {vs : List V} {Hs B H : Hp} {σ : L2.St} {r : Rho} {xs : List V} {ws : List W} (h : RpWs K vs Hs B σ H r xs ws) {n : Nat} {i j : Nat} {v x : V} {w u : W} (h1 : (xs.take n)[i]? = some v) (h2 : (ws.take n)[i]? = some w) (h3 : (xs.drop n)[j]? = some x) (h4 : (ws.drop n)[j]? = some u) : ¬ Clash v w x u ∧ ¬ Clash x u v w := by
  rw [List.getElem?_take] at h1 h2
  split at h1
  · rename_i hi
    rw [if_pos hi] at h2
    rw [List.getElem?_drop] at h3 h4
    have z := RpWs.clash h (i := i) (j := n + j) (by omega) h1 h2 h3 h4
    exact ⟨z, fun ⟨a, c, c', q1, q2, q3, q4⟩ => z ⟨a, c', c, q2, q1, q4, q3⟩⟩
  · cases h1
theorem frzAll_more {K : PySem.W.Frag} {vs : List V} {B0 H0 H : Hp} {σ : L2.St} {r0 : Rho} : ∀ {ws : List W} {xs : List V} {ds : List D} {B : Hp} {r r' : Rho}, Rl K vs B σ H r → Stp vs B0 H0 σ r0 B H σ r → RpWs K vs H0 B σ H r xs ws → frzAll ws r = .ok ds r' →
    ∃ B', RpAll K B' xs ds ∧ Rl K vs B' σ H r' ∧ Stp vs B0 H0 σ r0 B' H σ r' ∧ Same B B' ∧ ∀ x u, RpW K vs H0 B σ H r x u → (∀ (j : Nat) (y : V) (w : W), xs[j]? = some y → ws[j]? = some w → ¬ Clash y w x u) → RpW K vs H0 B' σ H r' x u
  | [], xs, ds, B, r, r', R, s, h, e => by
    cases e
    cases h
    exact ⟨B, .nil, R, s, Same.refl B, fun _ _ q _ => q⟩
  | w :: ws, xs, ds, B, r, r', R, s, h, e => by
    simp only [frzAll, M.bind] at e
    cases e1 : w.frz r with
    | fail => rw [e1] at e; cases e
    | exc y r1 => exact absurd e1 frz_noexc
    | ok d r1 =>
      rw [e1] at e
      cases e2 : frzAll ws r1 with
      | fail => simp only [e2] at e; cases e
      | exc y r1 => exact absurd e2 frzAll_noexc
      | ok es r2 =>
        simp only [e2] at e
        cases e
        cases h with
        | cons h1 h2 h3 =>
          obtain ⟨B1, p1, R1, s1, sb1, k1⟩ := frz1 R s h1 e1
          obtain ⟨B2, p2, R2, s2, sb2, k2⟩ := frzAll_more R1 s1 (h2.imp fun i x u q1 q2 q => k1 x u q (h3 i x u q1 q2)) e2
          exact ⟨B2, .cons (p1.mono sb2) p2, R2, s2, sb1.trans sb2, fun x u q nc => k2 x u (k1 x u q (nc 0 _ _ rfl rfl)) fun j y v e3 e4 => nc (j + 1) y v (by simpa using e3) (by simpa using e4)⟩
theorem Post.callS {vs : List V} {B H : Hp} {σ : L2.St} {r : Rho} {fa : M (List W)} {Q : VK} (R : Rl X.K vs B σ H r) (qa : ∀ vs B σ H r Q, Rl X.K vs B σ H r → Post X vs Wx B H σ r (fa r) (fA X vs σ H) Q → t σ H Q)
    (h : Post X vs Wx B H σ r (cCallS n F fa r) (fW X vs σ H) Q) : tCallG Wx (spS X.K X.mg n F) t σ H Q := by
  refine qa vs B σ H r _ R (Post.bind0 h fun xs ws B1 H1 r1 s1 R1 q1 h1 => ?_)
  cases ef : Lc.frzAll (ws.drop n) r1 with
  | fail => simp only [M.bind, ef] at h1; exact h1.elim
  | exc y r2 => exact absurd ef frzAll_noexc
  | ok ds r2 =>
    obtain ⟨B2, p2, R2, s2, _, keepW⟩ := frzAll_more R1 s1 (RpWs.dropW n q1) ef
    simp only [M.bind, ef] at h1
    obtain ⟨c3, h3⟩ := Post.chk h1
    obtain ⟨hz, hnw⟩ := of_decide_eq_true c3
    have q2 : RpWs X.K vs H B2 σ H1 r2 (xs.take n) (ws.take n) := RpWs.imp (RpWs.takeW n q1) fun i x u e1 e2 q => keepW x u q fun j y w e3 e4 => (RpWs.apartW q1 e1 e2 e3 e4).2
    have hxw := RpWs.length q1
    cases ea : argsOf r2 (ws.take n) with
    | none => simp only [cCallT, M.bind, M.ret, ea] at h3; exact h3.elim
    | some as =>
      simp only [cCallT, M.bind, M.ret, ea] at h3
      by_cases hap : apart r2 (ws.take n) = true
      · rw [if_pos hap] at h3
        have hla : as.length = n := by rw [(argsOf_get ea).1, List.length_take]; omega
        have hlw : (xs.take n).length = as.length := by rw [List.length_take, hla]; omega
        refine ⟨xs.take n, xs.drop n, (List.take_append_drop n xs).symm, by rw [List.length_take]; omega, by rw [p2.length]; exact hz, fun p hp => ⟨by rw [List.length_append, hlw, hla]; rfl, _, as ++ [.dt (.tup ds)], r2.st, by rw [List.length_append, hla]; rfl, star_in (call_in R2 q2 ea hap) hlw p2 hp, ?_⟩⟩
        refine star_post (by rw [List.length_take, hla]; omega) hp R2.sub ?_
        cases eF : starF F ds as r2.st with
        | fail => rw [eF] at h3; exact h3.elim
        | exc y bs st' =>
          rw [eF] at h3
          intro cl dd B3 H3 s3 R3 q3
          obtain ⟨R4, s4⟩ := call_out R2 s2 q2 ea s3 R3
          exact h3 cl dd B3 H3 s4 R4 q3
        | ok b bs st' =>
          rw [eF] at h3
          intro v B3 H3 s3 R3 q3
          obtain ⟨R4, s4⟩ := call_out R2 s2 q2 ea s3 R3
          refine h3 v B3 H3 s4 R4 ?_
          cases b with
          | dt d => exact q3
          | own c =>
            obtain ⟨a, rfl, g1, g2, g3, g4⟩ := q3
            refine ⟨a, rfl, s2.dom _ g1, g2, g3, fun ⟨z, c', m1, m2⟩ => ?_⟩
            obtain ⟨c0, m0, _⟩ := after_own m1
            obtain ⟨a', n1, _, n3⟩ := R2.own z c0 m0
            rw [m2] at n1; cases n1
            obtain ⟨o, ho⟩ := n3.some
            rw [g1] at ho; cases ho
      · rw [if_neg hap] at h3; exact h3.elim
theorem de_callS (C : CalGS X.prog X.w X.K X.mg X.base k x n F) (hr : Room k X.A) (hgu : X.A.guards = some []) (hg : Gl X x) (ha : DA X (e :: es) g)
    (hdb : (x == ("__debug__" : Str)) = false) (he : starEach (e :: es) X.env = (false, eval e X.env) :: starEach es X.env) (hpl : (backTo pos (starEach es X.env)).any (·.1) = false) : DE X (.Call (.Name x p) (e :: es) [] pos) (cCallS n F g) := by
  obtain ⟨f, G, hm, hk⟩ := C.ex
  refine ⟨fun Wx tk => ?_⟩
  obtain ⟨t, pt, qt⟩ := ha.run Wx tk
  refine ⟨tCallG Wx (spS X.K X.mg n F) t, ⟨fun pins s σ H Q I h => wpAny_Call_Name_kw (ld_glob I hg hm ?_ hdb)⟩, fun vs B σ H r Q R h => Post.callS R qt h⟩
  refine PySem.W.callWith_K (h₀ := X.base) I.ok.mod.kin hk (thn (pt.run pos pins s σ H _ I h) fun us s1 ⟨vs, H1, I1, rv, q⟩ => ⟨I1.kIn, ?_⟩) he hpl
  refine wpAny_call (codeAny_mono (G.run X.A X.stack s1 H1 us vs Q _ hr hgu I1.env0 rv q) fun res s2 hq => ?_)
  cases res with
  | error u => exact tk u s2 (XE.of_call I1 (fun _ _ _ z => z) hq)
  | ok fl =>
    cases fl with
    | ret u => exact I1.after hq
    | next => exact hq
    | brk => exact hq
    | cont => exact hq
end
end Lc

set_option Elab.async false
set_option maxRecDepth 100000
set_option maxHeartbeats 4000000
/-! except (A, B, ..) as e: a clause by what its test says of each class. -/
namespace Lc
open PySem L2 PySem.Spec PyProof.Rows He
/-- what a clause wishes of an exception of the body -/
def wCl (cat : Value → Option Bool) (i : Nat) (ts : Addr → Value → Option Addr → TS) (Wo : WX) (D : Ends) : WX := fun cl dd σ H =>
  ∃ k, cat cl = some k ∧ (k = true → ∀ a, H a = none → ts a cl dd { nx := fun σ1 H1 => D.nx (σ1.set i none) H1, rt := D.rt, bk := fun σ1 H1 => D.bk (σ1.set i none) H1, ct := fun σ1 H1 => D.ct (σ1.set i none) H1 } (σ.set i (some (.ref a))) H) ∧ (k = false → Wo cl dd σ H)
/-- the clause's expression, tested -/
def TestC (X : Cx) (tE : Expr) (cat : Value → Option Bool) : Prop := ∀ (a : Addr) (oe : Obj) (pn pins : List (Addr × Obj)) (s : Shared) (σ : L2.St) (H : Hp) (cl : Value) (k : Bool) (Q : Bool → Shared → Prop) (E : Value → Shared → Prop), cat cl = some k → L2.Inv (X.suite a ((a, oe) :: pn)) pins σ H s → PySem.W.Looks (model X.prog X.w) s.heap (typeOf (.ref a)) cl →
  (∀ h, (∀ b o, s.heap.get? b = some o → h.get? b = some o) → Q k { s with heap := h }) → wpAny (model X.prog X.w) (X.A.mark (some (.ref a))) (eval tE X.env) (fun c s1 => wpAny (model X.prog X.w) (X.A.mark (some (.ref a))) (excMatches (.ref a) c) Q E s1) E s
theorem fly_keeps {B : Heap} {l : List Env} {a : Addr} {Z : Obj → Prop} {h h2 : Heap} (x : HandSPX.FlyingZ B l a Z h) (k : ∀ b o, h.get? b = some o → h2.get? b = some o) : HandSPX.FlyingZ B l a Z h2 := by
  obtain ⟨x1, x2, x3, oe, vs, T, oT, ts, y1, y2, y3, y4, y5, y6, y7, y8, y9⟩ := x
  exact ⟨fun b o e => k b o (x1 b o e), x2, Heap.FunFrames.of_keeps (fun b o e _ => ⟨o, k b o e, rfl⟩) x3, oe, vs, T, oT, ts, k _ _ y1, y2, y3, y4, y5, y6, k _ _ y7, y8, y9⟩
section
variable {X : Cx} {tE : Expr} {n : Str} {i : Nat} {body suite : List Stmt} {b0 : Stmt} {pos pos1 : Pos} {tb : WX → TS} {ts : Addr → Value → Option Addr → TS} {Wo : WX} {cat : Value → Option Bool}
theorem ps_tryC (hst : X.stack = X.env :: X.outer) (hfm : X.env.frame = some X.env.locals) (hN : X.N.Nodup) (hi : X.N[i]? = some n) (hln : X.env.kindOf n = some .local) (hte : TestC X tE cat) (tk : Takes X Wo)
    (hbd : ∀ (Wb : WX) (pn : List (Addr × Obj)) (xe : Value → Shared → Prop), Takes (X.tr pn xe) Wb → PassesOwn (model X.prog X.w) X.A X.env xe → PSs (X.tr pn xe) body (tb Wb))
    (hsu : ∀ (a : Addr) (oe : Obj) (cl : Value) (dd : Option Addr) (pn : List (Addr × Obj)), Zc cl dd oe → (∃ vs, oe.data = .fields vs) → PSs (X.suite a ((a, oe) :: pn)) (b0 :: suite) (ts a cl dd)) :
    PS X (.Try body [.ExceptHandler (some tE) (some n) (b0 :: suite) pos1] [] [] pos) (fun D σ H => tb (wCl cat i ts Wo D) D σ H) := by
  refine ⟨fun pins s σ H D I hh => ?_⟩
  have okX := I.ok
  have hframes : X.A.frames = some (X.env :: X.outer) := by rw [okX.frames, hst]
  have hlc : Loc X.env.scope n := Or.inl hln
  refine wpAny_Try_except ?_
  refine wpAny_mono ((hbd (wCl cat i ts Wo D) (X.pn ++ pins) (fun ev t1 => wpAny (model X.prog X.w) X.A (noteFrame ev X.env) (fun _ t2 => wpAny (model X.prog X.w) X.A (setFlight ev none) (fun _ t3 =>
    wpAny (model X.prog X.w) X.A (handleBy ev X.env [.ExceptHandler (some tE) (some n) (b0 :: suite) pos1]) (SP X pins D) X.xe t3) X.xe t2) X.xe t1) (fun u t xx => ?_) PassesOwn.looking).run [] s σ H D (I.toTry _) hh) (fun fl t1 hsp => ?_) (fun ev t1 he => he)
  · obtain ⟨a, B, sI, pins', σ', H', cl, dd, rfl, Jt, nb, up, sky, na, eos, ag, k, hk1, hyes, hno⟩ := xx
    have J : L2.Inv X pins σ' H' sI := Jt.ofTry okX
    have sk : Sky B (X.env :: X.outer) a (Zc cl dd) X.env.locals t.heap := hst ▸ sky
    show wpAny (model X.prog X.w) X.A (noteFrame (.ref a) X.env) _ _ _
    refine Sky.land Zc.steady hframes hfm sk fun h3 f3 u3 => ?_
    have J3 : L2.Inv X pins σ' H' { t with heap := h3 } := J.landed nb f3.1 (up.trans u3) eos ag
    obtain ⟨o3, v3, g3, z3, d3⟩ := f3.there
    have out : a ∉ frs (X.env :: X.outer) := fun hm => by
      obtain ⟨_, ox, gx, hx⟩ := f3.2.2.1.mem hm
      rw [g3] at gx; cases gx
      exact hx _ d3
    have nL : a ≠ X.env.locals := fun z => out (List.mem_filterMap.mpr ⟨X.env, List.mem_cons_self, hfm.trans (congrArg some z.symm)⟩)
    have nF : a ∉ X.fs := fun hm => by
      obtain ⟨ee, hee, q⟩ := List.mem_filterMap.mp hm
      exact out (List.mem_filterMap.mpr ⟨ee, List.mem_cons_of_mem _ hee, q⟩)
    have S3 := J3.suite g3 d3 na nL nF
    refine wpAny_handleBy_cons (codeAny_handlers_test ?_) (fun q => nomatch q)
    have LT : PySem.W.Looks (model X.prog X.w) h3 (typeOf (.ref a)) cl := fun A' Q' E' s' kk q => wpAny_typeOf_ref (kk _ _ g3) (z3.1 ▸ q)
    refine hte a o3 _ _ _ _ _ cl k _ _ hk1 S3 LT fun h5 kp => ?_
    have f5 := fly_keeps f3 kp
    have u5 : sI.heap.UpToSlots h5 := (up.trans u3).trans (Heap.UpToSlots.of_keeps kp)
    cases k with
    | true =>
      refine codeAny_handlers_suite_as ?_
      refine HandSPX.lands_againZ f5 fun h4 f4 u4 => ?_
      have J4 : L2.Inv X pins σ' H' { t with heap := h4 } := J.landed nb f4.1 (u5.trans u4) eos ag
      obtain ⟨o4, v4, g4, z4, d4⟩ := f4.there
      have S4 := J4.suite g4 d4 na nL nF
      refine store_ok (X := X.suite a ((a, o4) :: (X.pn ++ pins))) (v := .ref a) S4 hN hi hlc rfl (fun t5 S5 => ?_) (Or.inr hln)
      refine wpAny_mono ((hsu a o4 cl dd (X.pn ++ pins) z4 ⟨_, d4⟩).run [] t5 _ H' _ S5 (hyes rfl a na)) (fun fl t6 hsp => ?_) (fun _ _ z => z.elim)
      have fine : ∀ {σ6 : L2.St} {H6 : Hp} {Q6 : Shared → Prop}, L2.Inv (X.suite a ((a, o4) :: (X.pn ++ pins))) [] σ6 H6 t6 → (∀ t7, L2.Inv X pins (σ6.set i none) H6 t7 → Q6 t7) →
          wpAny (model X.prog X.w) X.A (do bindName X.env n .none; unbindBehindTheSuite X.env n pos1) (fun _ t7 => Q6 t7) X.xe t6 := fun {σ6 H6 Q6} S6 hq => gone_ok (S6.unsuite okX) hN hi hln hq
      cases fl with
      | next =>
        obtain ⟨_, _, S6, q6⟩ := hsp
        exact fine S6 fun t7 J7 => ⟨_, _, J7, q6⟩
      | brk =>
        obtain ⟨_, _, S6, q6⟩ := hsp
        exact fine S6 fun t7 J7 => ⟨_, _, J7, q6⟩
      | cont =>
        obtain ⟨_, _, S6, q6⟩ := hsp
        exact fine S6 fun t7 J7 => ⟨_, _, J7, q6⟩
      | ret u =>
        obtain ⟨_, _, _, S6, r6, q6⟩ := hsp
        exact fine S6 fun t7 J7 => ⟨_, _, _, J7, r6, q6⟩
    | false =>
      show wpAny _ X.A (handleBy (.ref a) X.env []) _ _ _
      refine wpAny_handleBy_nil ?_
      obtain ⟨_, _, _, oe, vs, T, oT, ts', g5, z5, d5, p1, _⟩ := id f5
      unfold PySem.passOn
      refine wpAny_bind (wpAny_field g5 d5 p1 ?_)
      have neT : ¬ ((Value.ref T == Value.none) = true) := by simp
      rw [if_neg neT]
      have last : wpAny (model X.prog X.w) X.A (setFlight (.ref a) X.env.frame) (fun _ t4 => wpAny (model X.prog X.w) X.A (throw (.ref a) : Sem Flow) (SP X pins D) X.xe t4) X.xe { t with heap := h5 } := by
        rw [hfm]
        refine HandSPX.setFlight_upZ f5 fun h4 hh4 u4 => wpAny_throw (tk _ _ ?_)
        exact ⟨a, B, sI, pins, σ', H', cl, dd, rfl, J, nb, u5.trans u4, Or.inr (Or.inr (hst ▸ hh4)), na, eos, ag, hno rfl⟩
      first
        | exact wpAny_bind (wpAny_pure (wpAny_bind last))
        | exact wpAny_bind last
  · cases fl with
    | next =>
      obtain ⟨σ1, H1, J1, q1⟩ := hsp
      exact wpAny_execs_nil ⟨σ1, H1, J1.ofTry okX, q1⟩
    | brk =>
      obtain ⟨σ1, H1, J1, q1⟩ := hsp
      exact ⟨σ1, H1, J1.ofTry okX, q1⟩
    | cont =>
      obtain ⟨σ1, H1, J1, q1⟩ := hsp
      exact ⟨σ1, H1, J1.ofTry okX, q1⟩
    | ret u =>
      obtain ⟨v1, σ1, H1, J1, r1, q1⟩ := hsp
      exact ⟨v1, σ1, H1, J1.ofTry okX, r1, q1⟩
end
/-! ### the tests -/
section
variable {X : Cx} {x1 x2 x3 x4 : Str} {c1 c2 c3 c4 : Value} {p1 p2 p3 p4 tp : Pos} {kk : Nat}
theorem nm_ld {a : Addr} {oe : Obj} {pn pins : List (Addr × Obj)} {s : Shared} {σ : L2.St} {H : Hp} {Q : Value → Shared → Prop} {E : Value → Shared → Prop} (S : L2.Inv (X.suite a ((a, oe) :: pn)) pins σ H s) (hc : Names X x1 c1) (q : Q c1 s) : wpAny (model X.prog X.w) (X.A.mark (some (.ref a))) (eval (.Name x1 p1) X.env) Q E s := by
  obtain ⟨hg, hdb, hm | ⟨hm, hv, hnn⟩⟩ := hc
  · exact ld_glob (X := X.suite a ((a, oe) :: pn)) S hg hm q hdb
  · exact ld_blt (X := X.suite a ((a, oe) :: pn)) S hg hm hv q hnn hdb
theorem test1 (n1 : Names X x1 c1) : TestC X (.Name x1 p1) (fun cl => PySem.W.exmOne X.K cl c1) := fun a oe pn pins s σ H cl k Q E hk S LT q =>
  nm_ld S n1 ((PySem.W.exm_one S.kIn LT hk).here (q s.heap fun _ _ z => z))
theorem test2 (n1 : Names X x1 c1) (n2 : Names X x2 c2) : TestC X (.Tuple [.Name x1 p1, .Name x2 p2] kk tp) (fun cl => PySem.W.exmAny X.K cl [c1, c2]) := fun a oe pn pins s σ H cl k Q E hk S LT q => by
  refine wpAny_Tuple (wpAny_items_cons (nm_ld S n1 (wpAny_items_cons (nm_ld S n2 (wpAny_items_nil ⟨by size_fits, ?_⟩)))))
  have up : ∀ b o, s.heap.get? b = some o → (s.heap.push { cls := .type "tuple", data := .seq [c1, c2].toArray }).get? b = some o := fun b o z => Heap.get?_push_of_some _ z
  exact (PySem.W.exm_tup2 (S.kIn.keeps up) (LT.keeps up) (Heap.get?_push_size s.heap rfl) hk).here (q _ up)
theorem test3 (n1 : Names X x1 c1) (n2 : Names X x2 c2) (n3 : Names X x3 c3) : TestC X (.Tuple [.Name x1 p1, .Name x2 p2, .Name x3 p3] kk tp) (fun cl => PySem.W.exmAny X.K cl [c1, c2, c3]) := fun a oe pn pins s σ H cl k Q E hk S LT q => by
  refine wpAny_Tuple (wpAny_items_cons (nm_ld S n1 (wpAny_items_cons (nm_ld S n2 (wpAny_items_cons (nm_ld S n3 (wpAny_items_nil ⟨by size_fits, ?_⟩)))))))
  have up : ∀ b o, s.heap.get? b = some o → (s.heap.push { cls := .type "tuple", data := .seq [c1, c2, c3].toArray }).get? b = some o := fun b o z => Heap.get?_push_of_some _ z
  exact (PySem.W.exm_tup3 (S.kIn.keeps up) (LT.keeps up) (Heap.get?_push_size s.heap rfl) hk).here (q _ up)
theorem test4 (n1 : Names X x1 c1) (n2 : Names X x2 c2) (n3 : Names X x3 c3) (n4 : Names X x4 c4) : TestC X (.Tuple [.Name x1 p1, .Name x2 p2, .Name x3 p3, .Name x4 p4] kk tp) (fun cl => PySem.W.exmAny X.K cl [c1, c2, c3, c4]) := fun a oe pn pins s σ H cl k Q E hk S LT q => by
  refine wpAny_Tuple (wpAny_items_cons (nm_ld S n1 (wpAny_items_cons (nm_ld S n2 (wpAny_items_cons (nm_ld S n3 (wpAny_items_cons (nm_ld S n4 (wpAny_items_nil ⟨by size_fits, ?_⟩)))))))))
  have up : ∀ b o, s.heap.get? b = some o → (s.heap.push { cls := .type "tuple", data := .seq [c1, c2, c3, c4].toArray }).get? b = some o := fun b o z => Heap.get?_push_of_some _ z
  exact (PySem.W.exm_tup4 (S.kIn.keeps up) (LT.keeps up) (Heap.get?_push_size s.heap rfl) hk).here (q _ up)
end
section
variable {X : Cx} {tE : Expr} {n : Str} {i : Nat} {body suite : List Stmt} {b0 : Stmt} {pos pos' : Pos} {fb : M Fl} {fs : Addr → Addr → Ex → M Fl} {c : Str → Option Bool} {cat : Value → Option Bool}
theorem ds_tryM (hs : X.stack = X.env :: X.outer) (hf : X.env.frame = some X.env.locals) (hN : X.N.Nodup) (hi : X.N[i]? = some n) (hln : X.env.kindOf n = some .local) (hte : TestC X tE cat)
    (hcat : ∀ (y : Str) (b : Bool) (C : Addr), c y = some b → X.mg y = some (.ref C) → cat (.ref C) = some b)
    (hb : ∀ (pn : List (Addr × Obj)) (xe : Value → Shared → Prop), PassesOwn (model X.prog X.w) X.A X.env xe → DSs (X.tr pn xe) body fb)
    (hsu : ∀ (a : Addr) (oe : Obj) (pn : List (Addr × Obj)) (C dd : Addr) (y : Ex), Zc (.ref C) (some dd) oe → (∃ vs, oe.data = .fields vs) → X.mg y.cls = some (.ref C) → c y.cls = some true → DSs (X.suite a ((a, oe) :: pn)) (b0 :: suite) (fs a dd y)) :
    DS X (.Try body [.ExceptHandler (some tE) (some n) (b0 :: suite) pos'] [] [] pos) (cTry fb c i fs) := by
  refine ⟨fun Wout tk => ?_⟩
  refine ⟨_, ps_tryC (cat := cat) (i := i) (Wo := Wout) (tb := fun W E σ H => ∃ vs B r, Rl X.K vs B σ H r ∧ PostS X vs W B H σ r (fb r) E)
    (ts := fun a cls d E σ H => ∃ C dd y vs B r, cls = .ref C ∧ d = some dd ∧ X.mg y.cls = some (.ref C) ∧ c y.cls = some true ∧ Rl X.K vs B σ H r ∧ PostS X vs Wf B H σ r (fs a dd y r) E) hs hf hN hi hln hte tk
    (fun W pn xe tkb hp => ⟨fun pins s σ H D I ⟨vs, B, r, R, h⟩ => ?_⟩) (fun a oe cls d pn hz hfl => ⟨fun pins s σ H D I ⟨C, dd, y, vs, B, r, e1, e2, hm, hcy, R, h⟩ => ?_⟩), fun vs B σ H r E R h => ⟨vs, B, r, R, ?_⟩⟩
  · obtain ⟨t, pt, qt⟩ := (hb pn xe hp).run W tkb
    exact pt.run pins s σ H D I (qt vs B σ H r D R h)
  · subst e1 e2
    obtain ⟨t, pt, qt⟩ := (hsu a oe pn C dd y hz hfl hm hcy).run Wf takes_suite
    exact pt.run pins s σ H D I (qt vs B σ H r D R h)
  · unfold cTry at h
    cases ef : fb r with
    | fail => rw [ef] at h; exact h.elim
    | ok fl r1 => rw [ef] at h; cases fl <;> exact h
    | exc y r1 =>
      rw [ef] at h
      simp only at h
      intro cl dd0 σ1 B1 H1 s1 R1 hx
      obtain ⟨C, dd, fsV, rfl, hm, rfl, hB, hF⟩ := hx
      cases ec : c y.cls with
      | none => rw [ec] at h; exact h.elim
      | some b =>
        rw [ec] at h
        refine ⟨b, hcat y.cls b C ec hm, fun hb2 a na => ?_, fun hb2 => ?_⟩
        · subst hb2
          simp only at h
          split at h
          · rename_i hlt
            have nf : collapse (fun a dd => clearI i (fs a dd y (r1.put i (.dt (.exc a dd y.fs))))) ≠ .fail := fun z => by rw [z] at h; exact h
            have hall := collapse_all nf a dd
            rw [← hall] at h
            have rp : RpS X.K vs H B1 σ1 H1 r1 (.ref a) (.dt (.exc a dd y.fs)) := Rp.exc hB hF
            obtain ⟨R2, s2⟩ := R1.assign s1 rp hlt
            refine ⟨C, dd, y, vs, B1, r1.put i (.dt (.exc a dd y.fs)), rfl, rfl, hm, ec, R2, ?_⟩
            cases e3 : fs a dd y (r1.put i (.dt (.exc a dd y.fs))) with
            | fail => rw [e3] at h; exact h.elim
            | exc z r3 => rw [e3] at h; exact h.elim
            | ok fl r3 =>
              rw [e3] at h
              cases fl with
              | next => exact fun σ3 B3 H3 s3 R3 => h _ B3 H3 (s2.trans s3).clr R3.clr
              | brk => exact fun σ3 B3 H3 s3 R3 => h _ B3 H3 (s2.trans s3).clr R3.clr
              | cnt => exact fun σ3 B3 H3 s3 R3 => h _ B3 H3 (s2.trans s3).clr R3.clr
              | ret w =>
                simp only [clearI] at h
                split at h
                · exact h.elim
                · rename_i hw
                  have hw' : w.isLoc i = false := by cases q : w.isLoc i with
                    | true => exact absurd q hw
                    | false => rfl
                  exact fun v σ3 B3 H3 s3 R3 q3 => h v _ B3 H3 (s2.trans s3).clr R3.clr (RpW.clr (RpW.back q3 s2.dom) hw')
          · exact h.elim
        · subst hb2
          exact h (.ref C) (some dd) σ1 B1 H1 s1 R1 ⟨C, dd, fsV, rfl, hm, rfl, hB, hF⟩
end
/-- what a clause of several classes says of a class -/
def catL (tb : Tab) : List CK → Str → Option Bool
  | [], _ => some false
  | k :: ks, y => match tb.lookup (y, k), catL tb ks y with
    | some a, some b => some (a || b)
    | _, _ => none
section
variable {P : Program} {K : PySem.W.Frag} {mg : Str → Option Value} {file : Str} {names : List Str} {isaT : IsaT} {catT : Tab} {xds : List XD}
theorem catL_ok (ev : EnvE P K mg file names isaT catT xds) (hn : ∀ p ∈ catT, p.1.1 ∈ names) {y : Str} {C : Addr} (hm : mg y = some (.ref C)) : ∀ {ks : List CK} {b : Bool}, catL catT ks y = some b → PySem.W.exmAny K (.ref C) (ks.map fun k => k.val K) = some b
  | [], b, e => by cases e; rfl
  | k :: ks, b, e => by
    unfold catL at e
    split at e
    · rename_i a b' h1 h2
      cases e
      have z1 := (cat_ok ev hn (k := k) h1 hm).1
      have z2 := catL_ok ev hn hm h2
      rw [List.map_cons, PySem.W.exmAny, z1, z2]
    · cases e
theorem catL_in {tb : Tab} {y : Str} : ∀ {ks : List CK}, catL tb ks y = some true → ∃ k ∈ ks, ((y, k), true) ∈ tb
  | [], e => by cases e
  | k :: ks, e => by
    unfold catL at e
    split at e
    · rename_i a b h1 h2
      cases a with
      | true => exact ⟨k, List.mem_cons_self, lookup_in h1⟩
      | false =>
        simp only [Bool.false_or, Option.some.injEq] at e
        subst e
        obtain ⟨k', m, q⟩ := catL_in h2
        exact ⟨k', List.mem_cons_of_mem _ m, q⟩
    · cases e
/-- of what is caught something is known -/
theorem caught {tb : Tab} {ks : List CK} {y : Str} {q : Str → Bool} (h : catL tb ks y = some true) (hq : (tb.all fun p => !(ks.contains p.1.2 && p.2) || q p.1.1) = true) : q y = true := by
  obtain ⟨k, hk, hp⟩ := catL_in h
  have := List.all_eq_true.mp hq _ hp
  have hc : ks.contains k = true := by simpa using hk
  rw [hc] at this
  simpa using this
theorem EnvE.ga_ns (ev : EnvE P K mg file names isaT catT xds) (hn : xdN xds names) {y : Str} (h : xdIs (xdT xds) y = true) : PySem.W.nsIn K mainGlobals y = some (some (.ref (ga K y))) := by
  obtain ⟨p, hp, he⟩ := List.any_eq_true.mp h
  obtain ⟨d, hd, rfl⟩ := List.mem_map.mp hp
  have e : d.x = y := by simpa using he
  subst e
  obtain ⟨j, hj, ej⟩ := List.mem_iff_getElem.mp (hn d hd)
  exact (ev.cls j d.x (by rw [List.getElem?_eq_getElem hj, ej])).2
theorem xdIs_of {t : List (Str × List Str)} {y f : Str} (h : xdHas t y f = true) : xdIs t y = true := by
  obtain ⟨p, hp, he⟩ := List.any_eq_true.mp h
  exact List.any_eq_true.mpr ⟨p, hp, (ba he).1⟩
theorem EnvE.xfY (ev : EnvE P K mg file names isaT catT xds) (hn : xdN xds names) {y : Str} (h : xdIs (xdT xds) y = true) : XfC K (ga K y) := (ev.at hn h (ev.ga_ns hn h)).2.1
theorem EnvE.xiY (ev : EnvE P K mg file names isaT catT xds) (hn : xdN xds names) {y : Str} (h : xdIs (xdT xds) y = true) : XiC K (ga K y) := (ev.at hn h (ev.ga_ns hn h)).2.2
theorem EnvE.noY (ev : EnvE P K mg file names isaT catT xds) (hn : xdN xds names) {y f : Str} (h : xdHas (xdT xds) y f = true) : PySem.W.findIn K (.ref (ga K y)) f = some none := (ev.atF hn h (ev.ga_ns hn (xdIs_of h))).2
end
section
variable {X : Cx} {tE : Expr} {n : Str} {i : Nat} {body suite : List Stmt} {b0 : Stmt} {pos pos' : Pos} {fb : M Fl} {fs : Addr → Addr → Ex → M Fl} {file : Str} {names : List Str} {isaT : IsaT} {catT : Tab} {xds : List XD}
theorem ds_tryL {ks : List CK} (ev : EnvE X.prog X.K X.mg file names isaT catT xds) (hs : X.stack = X.env :: X.outer) (hf : X.env.frame = some X.env.locals) (hN : X.N.Nodup) (hi : X.N[i]? = some n) (hln : X.env.kindOf n = some .local)
    (hn : ∀ p ∈ catT, p.1.1 ∈ names) (hte : TestC X tE (fun cl => PySem.W.exmAny X.K cl (ks.map fun k => k.val X.K)))
    (hb : ∀ (pn : List (Addr × Obj)) (xe : Value → Shared → Prop), PassesOwn (model X.prog X.w) X.A X.env xe → DSs (X.tr pn xe) body fb)
    (hsu : ∀ (a : Addr) (oe : Obj) (pn : List (Addr × Obj)) (dd : Addr) (y : Ex), Zc (.ref (ga X.K y.cls)) (some dd) oe → (∃ vs, oe.data = .fields vs) → catL catT ks y.cls = some true → DSs (X.suite a ((a, oe) :: pn)) (b0 :: suite) (fs a dd y)) :
    DS X (.Try body [.ExceptHandler (some tE) (some n) (b0 :: suite) pos'] [] [] pos) (cTry fb (catL catT ks) i fs) :=
  ds_tryM hs hf hN hi hln hte (fun _ _ _ e hm => catL_ok ev hn hm e) hb fun a oe pn C dd y hz hfl hm hcy => by
    have e : C = ga X.K y.cls := by
      obtain ⟨k, _, hp⟩ := catL_in hcy
      obtain ⟨j, hj, ej⟩ := List.mem_iff_getElem.mp (hn _ hp)
      have h2 := (ev.cls j y.cls (by rw [List.getElem?_eq_getElem hj, ej])).1
      rw [hm] at h2
      cases h2
      rfl
    subst e
    exact hsu a oe pn dd y hz hfl hcy
/-- the names of a clause -/
theorem nm_of {x : Str} {j : Nat} (ev : EnvE X.prog X.K X.mg file names isaT catT xds) (hj : names[j]? = some x) (hg : Gl X x) (hdb : (x == ("__debug__" : Str)) = false) : Names X x ((CK.c x).val X.K) := ⟨hg, hdb, .inl (ev.cls j x hj).1⟩
theorem testL1 {x : Str} {p : Pos} (n1 : Names X x ((CK.c x).val X.K)) : TestC X (.Name x p) (fun cl => PySem.W.exmAny X.K cl ([CK.c x].map fun k => k.val X.K)) := fun a oe pn pins s σ H cl k Q E hk S LT q => by
  obtain ⟨b1, d1, z1, z2, z3⟩ := PySem.W.exmAny_cons hk
  have z4 : d1 = false := by
    have : some false = some d1 := z2
    injection this with this
    exact this.symm
  subst z4
  rw [Bool.or_false] at z3
  subst z3
  exact test1 n1 a oe pn pins s σ H cl _ Q E z1 S LT q
end
end Lc

set_option Elab.async false
set_option maxRecDepth 100000
set_option maxHeartbeats 4000000
/-! Methods of lists: append, pop, index, count. -/
namespace Lc
open PySem L2 PySem.Spec PyProof.Rows He
section
variable {X : Cx} {o e : Expr} {fo fe : M W} {apos pos : Pos}
/-- a list that may change -/
def M.isL (w : W) : M Unit := fun r => match w with
  | .cel z => match r.cnt z with
    | some (.lst _) => .ok () r
    | _ => .fail
  | _ => .fail
theorem Post.isL {vs : List V} {Wx : WX} {B0 H0 B H : Hp} {σ : L2.St} {r0 r : Rho} {γ δ : Type} {rel : Hp → Hp → Rho → δ → γ → Prop} {w : W} {k : Unit → M γ} {Q : δ → Hp → Prop} {Hs : Hp} {v : V} (R : Rl X.K vs B σ H r) (hv : RpW X.K vs Hs B σ H r v w) (h : Post X vs Wx B0 H0 σ r0 (M.bind (M.isL w) k r) rel Q) :
    ∃ z a l xs, w = .cel z ∧ v = .ref a ∧ r.cnt z = some (.lst l) ∧ adr vs σ z = some (.ref a) ∧ H a = some (.lst xs) ∧ RpAll X.K B xs l ∧ Post X vs Wx B0 H0 σ r0 (k () r) rel Q := by
  cases w with
  | dt d => simp only [M.bind, M.isL] at h; exact h.elim
  | fresh c => simp only [M.bind, M.isL] at h; exact h.elim
  | cel z =>
    cases hc : r.cnt z with
    | none => simp only [M.bind, M.isL, hc] at h; exact h.elim
    | some c =>
      cases c with
      | dct l => simp only [M.bind, M.isL, hc] at h; exact h.elim
      | lst l =>
        simp only [M.bind, M.isL, hc] at h
        obtain ⟨a, h1, h2, xs, h3, h4⟩ := R.own z _ hc
        have e : v = .ref a := by
          have h' : adr vs σ z = some v := hv
          rw [h1] at h'
          exact (Option.some.inj h').symm
        exact ⟨z, a, l, xs, rfl, e, hc, h1, h3, h4, h⟩
def cApp (fo fe : M W) : M W := M.bind fo fun wo => M.bind (M.isL wo) fun _ => M.bind fe fun we => M.bind we.frz fun d => fun r => match wo with
  | .cel z => match r.cnt z with
    | some (.lst l) => if l.length < sizeLine then .ok (.dt .non) (r.setc (.lst (l ++ [d])) z) else .fail
    | _ => .fail
  | _ => .fail
theorem de_app (ho : DE X o fo) (he : DE X e fe) (hbase : attributeBase o "append" X.env (eval o X.env) = eval o X.env)
    (hfew : ((backTo pos (starEach [e] X.env)).all (fun x => !x.1) && (backToKw pos (keywordEach [] X.env)).all (fun x => x.1.isSome) && decide ([e].length + ([] : List Keyword).length + (if ([] : List Keyword).isEmpty then 0 else 1) < 30)) = true)
    (hline : (apos.endLine == pos.line) = true) (hs : starEach [e] X.env = (false, eval e X.env) :: starEach [] X.env) (hpl : (backTo pos (starEach [] X.env)).any (·.1) = false) : DE X (.Call (.Attribute o "append" apos) [e] [] pos) (cApp fo fe) := by
  refine ⟨fun Wx tk => ?_⟩
  obtain ⟨to, po, qo⟩ := ho.run Wx tk
  obtain ⟨te, pe, qe⟩ := he.run Wx tk
  refine ⟨_, pe_bm PySem.F.plainAttrs_list PySem.F.slot_list_append PySem.F.type_list_append mt_append po (pa_cons pe pa_nil hs) hbase hfew hline hs hpl, fun vs B σ H r Q R h => qo vs B σ H r _ R (Post.bind0 h fun x wo B1 H1 r1 s1 R1 q1 h1 => ?_)⟩
  obtain ⟨z, a, l, xs, rfl, rfl, hc, ha, hH, _, h2⟩ := Post.isL R1 q1 h1
  refine ⟨.inl ⟨rfl, xs, .inl (.inl hH)⟩, qe vs B1 σ H1 r1 _ R1 ?_⟩
  cases ef : fe r1 with
  | fail => simp only [M.bind, ef] at h2; exact h2.elim
  | exc y r2 =>
    simp only [M.bind, ef] at h2
    exact fun cl dd B2 H2 s2 R2 f2 => h2 cl dd B2 H2 (s1.trans s2) R2 f2
  | ok we r2 =>
    simp only [M.bind, ef] at h2
    intro y B2 H2 s2 R2 q2
    obtain ⟨d, r3, B3, p3, R3, s3, sb3, h3⟩ := Post.frz (w := we) (x := y) R2 (s1.trans s2) (q2.back s1.dom) h2
    cases hc3 : r3.cnt z with
    | none => simp only [hc3] at h3; exact h3.elim
    | some c =>
      cases c with
      | dct _ => simp only [hc3] at h3; exact h3.elim
      | lst l3 =>
        simp only [hc3] at h3
        split at h3
        · rename_i hz
          obtain ⟨a', k1, k2, xs3, k3, k4⟩ := R3.own z _ hc3
          obtain rfl : a' = a := by rw [ha] at k1; cases k1; rfl
          obtain ⟨R4, s4⟩ := R3.put (o := .lst (xs3 ++ [y])) (c' := .lst (l3 ++ [d])) hc3 k1 ⟨_, upd_same, k4.append (.cons p3 .nil)⟩
          exact ⟨a', xs3, y, rfl, rfl, k3, by rw [k4.length]; exact hz, h3 .non _ _ (s3.trans s4) R4 Rp.non⟩
        · exact h3.elim
def cPop (fo : M W) : M W := M.bind fo fun wo => M.bind (M.isL wo) fun _ => fun r => match wo with
  | .cel z => match r.cnt z with
    | some (.lst l) => match l.getLast? with
      | some d => .ok (.dt d) (r.setc (.lst l.dropLast) z)
      | none => .fail
    | _ => .fail
  | _ => .fail
theorem RpAll.dropLast {K : PySem.W.Frag} {B : Hp} {xs : List V} {ds : List D} (h : RpAll K B xs ds) : RpAll K B xs.dropLast ds.dropLast := by
  rw [List.dropLast_eq_take, List.dropLast_eq_take, h.length]
  exact h.take _
theorem de_pop (ho : DE X o fo) (hbase : attributeBase o "pop" X.env (eval o X.env) = eval o X.env) (hline : (apos.endLine == pos.line) = true) : DE X (.Call (.Attribute o "pop" apos) [] [] pos) (cPop fo) := by
  refine ⟨fun Wx tk => ?_⟩
  obtain ⟨to, po, qo⟩ := ho.run Wx tk
  refine ⟨_, pe_bm0 PySem.F.plainAttrs_list PySem.F.slot_list_pop PySem.F.type_list_pop mt_pop po hbase hline, fun vs B σ H r Q R h => qo vs B σ H r _ R (Post.bind0 h fun x wo B1 H1 r1 s1 R1 q1 h1 => ?_)⟩
  obtain ⟨z, a, l, xs, rfl, rfl, hc, ha, hH, hr, h2⟩ := Post.isL R1 q1 h1
  refine ⟨.inl ⟨rfl, xs, .inl (.inl hH)⟩, ?_⟩
  simp only [hc] at h2
  cases hg : l.getLast? with
  | none => simp only [hg] at h2; exact h2.elim
  | some d =>
    simp only [hg] at h2
    have e1 : l[l.length - 1]? = some d := by rw [← List.getLast?_eq_getElem?]; exact hg
    obtain ⟨y, e2, ry⟩ := hr.get e1
    obtain ⟨R2, s2⟩ := R1.put (o := .lst xs.dropLast) (c' := .lst l.dropLast) hc ha ⟨_, upd_same, hr.dropLast⟩
    exact ⟨a, xs, y, rfl, rfl, hH, by rw [hr.length]; exact e2, h2 y _ _ (s1.trans s2) R2 ry⟩
/-! ### pure ones -/
def flatD : D → Bool
  | .non => true
  | .bl _ => true
  | .int _ => true
  | .str _ => true
  | _ => false
def vOf : D → V
  | .non => .non
  | .bl b => .bl b
  | .int i => .int i
  | .str x => .str x
  | _ => .non
def eqD (a b : D) : Bool := eqV (vOf a) (vOf b)
theorem flat_v {K : PySem.W.Frag} {B : Hp} {v : V} {d : D} (h : Rp K B v d) (f : flatD d = true) : v = vOf d ∧ flatV v = true := by
  cases h <;> first | exact ⟨rfl, rfl⟩ | exact absurd f (by simp [flatD])
theorem flat_vs {K : PySem.W.Frag} {B : Hp} : ∀ {vs : List V} {ds : List D}, RpAll K B vs ds → ds.all flatD = true → vs = ds.map vOf ∧ vs.all flatV = true
  | _, _, .nil, _ => ⟨rfl, rfl⟩
  | _, _, .cons h r, f => by
    rw [List.all_cons, Bool.and_eq_true] at f
    obtain ⟨e1, f1⟩ := flat_v h f.1
    obtain ⟨e2, f2⟩ := flat_vs r f.2
    exact ⟨by rw [List.map_cons, ← e1, ← e2], by rw [List.all_cons, f1, f2]; rfl⟩
def rCntF (K : PySem.W.Frag) : V → List V → Hp → VK → Prop := fun x xs H Q => ∃ (p : Addr) (ys : List V) (y : V), x = .ref p ∧ xs = [y] ∧ SqL K H p ys ∧ flatV y = true ∧ ys.all flatV = true ∧ Q (.int (ys.countP (eqV · y) : Nat)) H
theorem cnt_vals {y : V} : ∀ {ys : List V} {us : List Value}, Vals ys us → ys.all flatV = true → us.countP (eqU y) = ys.countP (eqV · y)
  | _, _, .nil, _ => rfl
  | _, _, .cons r t, f => by
    rw [List.all_cons, Bool.and_eq_true] at f
    rw [List.countP_cons, List.countP_cons, cnt_vals t f.2, eqU_of r f.1]
theorem mt_countF : MtR X "list.count" (rCntF X.K) := by
  intro pins s σ H x xs v us Q I rx rxs h
  obtain ⟨p, ys, y, rfl, rfl, hs, fy, fys, q⟩ := h
  cases rx
  cases rxs with
  | cons ry rt =>
    rename_i uy ut
    cases rt
    obtain ⟨its, rv, ⟨⟨cls, dd, data, sl⟩, n, ho, hc, _, hd⟩, _⟩ := I.list hs
    simp only at hc hd
    subst hc hd
    refine call_meets PySem.F.slot_list_count ⟨_, ho, rfl⟩ PySem.F.entry_list_count (PySem.F.args_list_count_2 _ _) (SeqAt.list_countAt p its.toArray n dd sl uy (eqU y)) ⟨ho, fun u hu => mem_eqAt ry fy rv fys u (by simpa using hu), ?_⟩
    refine ⟨.int (ys.countP (eqV · y) : Nat), H, I.tok _, ⟨s.toks, ?_⟩, q⟩
    show Value.int ((its.toArray.toList.countP (eqU y) : Nat) : Int) s.toks = _
    rw [show its.toArray.toList.countP (eqU y) = ys.countP (eqV · y) from cnt_vals rv fys]
def gCnt (l : List D) (d : D) : Option Bo := if (flatD d && l.all flatD) = true then some (.dt (.int (l.countP (eqD · d) : Nat))) else none
def gIdx (l : List D) (d : D) : Option Bo := if (flatD d && l.all flatD) = true then (match l.findIdx? (eqD · d) with
    | some j => some (.dt (.int (j : Nat)))
    | none => none) else none
def cML (g : List D → D → Option Bo) (fo fe : M W) : M W := M.bind fo fun wo => M.bind (M.view wo) fun dl => M.bind (M.opt (match dl with | .lst l => some l | _ => none)) fun l0 => M.bind fe fun we => M.bind (M.view wo) fun dl => M.bind (M.opt (match dl with | .lst l => some l | _ => none)) fun l => M.bind (M.view we) fun d => M.give (g l d)
theorem de_ml {id : String} {name : Str} {rr : V → List V → Hp → VK → Prop} {g : List D → D → Option Bo} (slot : Slot "list" name id) (ty : typeOf (.builtin id) = pure (.type "method_descriptor")) (hm : MtR X id rr)
    (hrr : ∀ a xs y l d b, g l d = some b → ∀ B H Q, Sbm B H → H a = some (.lst xs) → RpAll X.K B xs l → RpV X.K B H y d → (∀ v B' H', Ext B H B' H' → Sbm B' H' → RpB X.K H B' H' v b → Q v H') → rr (.ref a) [y] H Q)
    (ho : DE X o fo) (he : DE X e fe) (hbase : attributeBase o name X.env (eval o X.env) = eval o X.env)
    (hfew : ((backTo pos (starEach [e] X.env)).all (fun x => !x.1) && (backToKw pos (keywordEach [] X.env)).all (fun x => x.1.isSome) && decide ([e].length + ([] : List Keyword).length + (if ([] : List Keyword).isEmpty then 0 else 1) < 30)) = true)
    (hline : (apos.endLine == pos.line) = true) (hs : starEach [e] X.env = (false, eval e X.env) :: starEach [] X.env) (hpl : (backTo pos (starEach [] X.env)).any (·.1) = false) : DE X (.Call (.Attribute o name apos) [e] [] pos) (cML g fo fe) := by
  refine ⟨fun Wx tk => ?_⟩
  obtain ⟨to, po, qo⟩ := ho.run Wx tk
  obtain ⟨te, pe, qe⟩ := he.run Wx tk
  refine ⟨_, pe_bm PySem.F.plainAttrs_list slot ty hm po (pa_cons pe pa_nil hs) hbase hfew hline hs hpl, fun vs B σ H r Q R h => qo vs B σ H r _ R (Post.bind back_W h fun x wo B1 H1 r1 s1 R1 q1 h1 => ?_)⟩
  obtain ⟨d0, v0, _, h2⟩ := Post.view R1 q1 h1
  obtain ⟨l0, e0, h3⟩ := Post.opt h2
  cases d0 with
  | lst l =>
    obtain ⟨a, xs, rfl, hH, hr⟩ := v0
    refine ⟨.inl ⟨rfl, xs, .inl (.inl hH)⟩, qe vs B1 σ H1 r1 _ R1 (Post.bind back_W h3 fun y we B2 H2 r2 s2 R2 q2 h4 => ?_)⟩
    obtain ⟨d1, v1, _, h5⟩ := Post.view R2 (RpW.stp q1 s2) h4
    obtain ⟨l1, e1, h6⟩ := Post.opt h5
    obtain ⟨d2, v2, _, h7⟩ := Post.view R2 q2 h6
    obtain ⟨bo, eb, h8⟩ := Post.give R2 h7
    cases d1 with
    | lst l' =>
      cases e1
      obtain ⟨a', xs', e', hH', hr'⟩ := v1
      cases e'
      exact hrr a xs' y _ d2 bo eb B2 H2 Q R2.sub hH' hr' v2 h8
    | _ => cases e1
  | _ => cases e0
theorem rv_flat {K : PySem.W.Frag} {B H : Hp} {v : V} {d : D} (h : RpV K B H v d) (f : flatD d = true) : v = vOf d ∧ flatV v = true := by
  cases d with
  | lst _ => simp [flatD] at f
  | dct _ => simp [flatD] at f
  | non => exact flat_v h f
  | bl _ => exact flat_v h f
  | int _ => exact flat_v h f
  | str _ => exact flat_v h f
  | _ => simp [flatD] at f
theorem hr_cnt (a : Addr) (xs : List V) (y : V) (l : List D) (d : D) (b : Bo) (e : gCnt l d = some b) (B H : Hp) (Q : VK) (s : Sbm B H) (hH : H a = some (.lst xs)) (hr : RpAll X.K B xs l) (vd : RpV X.K B H y d) (k : ∀ v B' H', Ext B H B' H' → Sbm B' H' → RpB X.K H B' H' v b → Q v H') : rCntF X.K (.ref a) [y] H Q := by
  unfold gCnt at e
  split at e
  · rename_i hf
    obtain ⟨f1, f2⟩ := ba hf
    cases e
    obtain ⟨rfl, fy⟩ := rv_flat vd f1
    obtain ⟨rfl, fx⟩ := flat_vs hr f2
    refine ⟨a, _, _, rfl, rfl, .inl (.inl hH), fy, fx, ?_⟩
    have ec : (l.map vOf).countP (eqV · (vOf d)) = l.countP (eqD · d) := by rw [List.countP_map]; rfl
    rw [ec]
    exact k _ B H .refl s (Rp.int _)
  · cases e
theorem hr_idx (a : Addr) (xs : List V) (y : V) (l : List D) (d : D) (b : Bo) (e : gIdx l d = some b) (B H : Hp) (Q : VK) (s : Sbm B H) (hH : H a = some (.lst xs)) (hr : RpAll X.K B xs l) (vd : RpV X.K B H y d) (k : ∀ v B' H', Ext B H B' H' → Sbm B' H' → RpB X.K H B' H' v b → Q v H') : rIndex X.K (.ref a) [y] H Q := by
  unfold gIdx at e
  split at e
  · rename_i hf
    obtain ⟨f1, f2⟩ := ba hf
    cases hj : l.findIdx? (eqD · d) with
    | none => rw [hj] at e; cases e
    | some j =>
      rw [hj] at e
      cases e
      obtain ⟨rfl, fy⟩ := rv_flat vd f1
      obtain ⟨rfl, fx⟩ := flat_vs hr f2
      obtain ⟨hlt, hp, hmin⟩ := List.findIdx?_eq_some_iff_getElem.mp hj
      refine ⟨a, _, _, j, vOf l[j], rfl, rfl, .inl (.inl hH), fy, fx, by simp [hlt], hp, fun m z' hm hz => ?_, k _ B H .refl s (Rp.int _)⟩
      have hml : m < l.length := by omega
      have ez : z' = vOf l[m] := by
        rw [List.getElem?_map, List.getElem?_eq_getElem hml] at hz
        simpa using hz.symm
      subst ez
      have := hmin m hm
      simpa [eqD] using this
  · cases e
end
end Lc

set_option Elab.async false
set_option maxRecDepth 100000
set_option maxHeartbeats 4000000
/-! sorted(set(xs)), xs a list of ints. -/
namespace Lc
open PySem L2 PySem.Spec PyProof.Rows
abbrev newS (w : World) : Obj := { cls := .type "set", dict := none, data := .set #[] 0 (.fresh 0 0 (!w.params.followText "set-order")) }
section
variable {P : Program} {w : World} {A : Around} {E : Value → Shared → Prop} {s : Shared}
theorem set_ints {l : Addr} {its : Array Value} (ns : List Int) {Q : Value → Shared → Prop} (hh : A.handled = none) (hl : s.heap.IsList l its) (hit : IntsAre its.toList ns) (hb : ns.length + 1 < scanBound)
    (hq : ∀ (h' : Heap) (tk c : Nat), SetR w h' s.heap.objs.size (fun j => decide (j ∈ ns)) c → c ≤ ns.length → (∀ b o, s.heap.get? b = some o → h'.get? b = some o) → Q (.ref s.heap.objs.size) { s with heap := h', toks := tk }) :
    wpAny (model P w) A (call (.type "set") [.ref l]) Q E s := by
  have hsz : its.size = ns.length := (Array.length_toList).symm.trans (IntsAre.length hit)
  obtain ⟨c0, tl0, mr⟩ := F.called_set.mro
  have md := F.called_set.made
  have sb := F.called_set.sub
  refine wpAny_call (codeAny_of_tree ?_)
  show wpAny _ _ (callAny (.type "set") _) _ _ _
  refine wpAny_pure ⟨Code.quiet_builtin _ (by decide +kernel), codeAny_builtin F.entry_type_call ?_⟩
  rw [Around.under_plain (weight_type_call_type "set" [.ref l] []) rfl]
  have nt := F.called_set.notType
  have cc := F.called_set.canCreate
  have tc := F.typeCall_set_1 (.ref l)
  repeat (any_goals (first | assumption | wp_step))
  refine codeAny_mono (code_set_led1 (.ref l) (E := E) (Q₁ := fun ob t => ob = .ref s.heap.objs.size ∧ t = { s with heap := s.heap.push (newS w) }) ⟨rfl, rfl⟩) fun r t hr => ?_
  cases r with
  | error e => exact hr
  | ok fl =>
    cases fl with
    | ret ob =>
      obtain ⟨rfl, rfl⟩ := hr
      have gS : (s.heap.push (newS w)).get? s.heap.objs.size = some (newS w) := Heap.get?_push_size _ rfl
      have tS : Shared.TypeIs { s with heap := s.heap.push (newS w) } (.ref s.heap.objs.size) "set" := ⟨_, gS, rfl⟩
      have li := F.called_set.init.lookup
      have bi := F.called_set.init.bind (.ref s.heap.objs.size)
      repeat (any_goals (first | assumption | wp_step))
      refine codeAny_mono (codeAny_call_builtin (R := wants (fun r t2 => r = .none ∧ ∃ h' tk c, t2 = { s with heap := h', toks := tk } ∧ SetR w h' s.heap.objs.size (fun j => decide (j ∈ ns)) c ∧ c ≤ ns.length ∧ (∀ b o, s.heap.get? b = some o → h'.get? b = some o)) E) F.called_set.init.plain F.entry_set_init (check_set_init_1 tS ?_)) fun r2 t2 hr2 => ?_
      · obtain ⟨⟨oc, od, oda, osl⟩, go, ec, nl, ed⟩ := hl
        simp only at ec ed
        subst ec ed
        have go1 : (s.heap.push (newS w)).get? l = some { cls := .type "list", dict := od, data := .seq its nl, slots := osl } := Heap.get?_push_of_some _ go
        have i1 := F.sub_list_set
        have i2 := F.sub_list_frozenset
        have i3 : (Value.type "list" == Value.type "dict") = false := by decide
        have L1 : (s.heap.push (newS w)).IsList l its := ⟨_, go1, rfl, nl, rfl⟩
        unfold Builtin.«set.__init__» noKeywords Builtin.Frozenset.updateFrom
        generalize hPI : pyIter = PI
        wp_walk
        subst hPI
        refine wpAny_pyIter_list L1 (wpAny_bind (wpAny_runValue ?_))
        have lt : l < s.heap.objs.size := Heap.lt_size go
        have h3 : A.in1.in1.in1.handled = none := by simp [hh]
        have sz1 : (s.heap.push (newS w)).objs.size = s.heap.objs.size + 1 := Heap.size_push ..
        have neI : l ≠ (s.heap.push (newS w)).objs.size := by rw [sz1]; exact Nat.ne_of_lt (Nat.lt_succ_of_lt lt)
        have nm : s.heap.objs.size ∉ [(s.heap.push (newS w)).objs.size, l] := by
          rw [sz1]
          intro z
          rcases List.mem_cons.mp z with z | z
          · omega
          · exact absurd (List.mem_singleton.mp z) (Nat.ne_of_gt lt)
        have val : ∀ (i : Nat) (v : Value), its[i]? = some v → ∃ k t, ns[i]? = some k ∧ v = .int k t := fun i v hv => by
          have hi : i < ns.length := hsz ▸ (Array.getElem?_eq_some_iff.mp hv).1
          obtain ⟨t, e⟩ := IntsAre.int_at hit i v (by rw [Array.getElem?_toList]; exact hv)
          exact ⟨ns[i], t, List.getElem?_eq_getElem hi, by rw [e, List.getD_eq_getElem?_getD, List.getElem?_eq_getElem hi]; rfl⟩
        refine set_update_ints ((Walks.list h3 _ l neI its).toS) s.heap.objs.size nm ns hsz hb val (its.size - 0) 0 _ (by omega) (Nat.zero_le _) ⟨⟨_, Heap.get?_push_size _ rfl, rfl, rfl⟩, L1.push _⟩ ?h0 ?hR
        case h0 =>
          have g2 : ((s.heap.push (newS w)).push { cls := .type "list_iterator", data := .fields #[.ref l, .int 0 0] }).get? s.heap.objs.size = some (newS w) := Heap.get?_push_of_some _ gS
          exact ⟨0, Nat.le_refl 0, setR_new_at g2⟩
        case hR =>
          rintro ⟨h', g2, d', tk', os'⟩ c' hm hc hS
          obtain rfl : g2 = s.gens := hm.gens
          obtain rfl : d' = s.drawn := hm.drawn
          obtain rfl : os' = s.os := hm.os
          show wpAny _ _ _ _ _ _
          refine wpAny_pure ?_
          show wpAny _ _ (ret Value.none) _ _ _
          refine wpAny_pure ⟨rfl, h', tk', c', rfl, hS, hsz ▸ hc, fun b o e => ?_⟩
          have b0 : b < s.heap.objs.size := Heap.lt_size e
          refine hm.heap b o (fun z => ?_) (Heap.get?_push_of_some _ (Heap.get?_push_of_some _ e))
          rcases List.mem_cons.mp z with z | z
          · exact absurd z (Nat.ne_of_lt b0)
          · have z2 := List.mem_singleton.mp z
            rw [sz1] at z2
            exact absurd z2 (Nat.ne_of_lt (Nat.lt_succ_of_lt b0))
      · cases r2 with
        | error e => exact hr2
        | ok fl2 =>
          cases fl2 with
          | ret r =>
            obtain ⟨rfl, h', tk, c', rfl, hS, hc, hk⟩ := hr2
            repeat (any_goals (first | assumption | wp_step))
            exact hq _ _ _ hS hc hk
          | _ => exact hr2.elim
    | _ => exact hr.elim
end
section
variable {X : Cx}
def rSetI (K : PySem.W.Frag) (w : World) : List V → Hp → VK → Prop := fun xs H Q => ∃ (a : Addr) (ns : List Int), xs = [.ref a] ∧ SqL K H a (ns.map V.int) ∧ ns.length + 1 < scanBound ∧ ∀ p c, H p = none → c ≤ ns.length → Q (.ref p) (upd H p (SetO w p (fun j => decide (j ∈ ns)) c))
theorem cr_setI (hc : X.calm = true) : CallR X (.type "set") (rSetI X.K X.w) := by
  intro pins s σ H xs us Q I r h
  obtain ⟨a, ns, rfl, hs, hb, q⟩ := h
  rw [Vals.ref1 r]
  obtain ⟨its, rv, hl, hlen⟩ := I.list hs
  obtain ⟨o, n, ho, hc', hdn, hd⟩ := hl
  refine set_ints ns (I.ok.hd hc) (l := a) (its := its.toArray) ⟨o, ho, hc', n, hd⟩ (by simpa using ints_of_vals rv) hb fun h' tk c hS hcl hk => ?_
  have hn : H s.heap.objs.size = none := I.hok.fresh (Nat.le_refl _)
  exact ⟨.ref s.heap.objs.size, _, I.laid (t' := tk) (h' := h') (o := SetO X.w s.heap.objs.size (fun j => decide (j ∈ ns)) c) hk (Nat.le_refl _) (setO_new hS), rfl, q _ _ hn hcl⟩
/-- sorted, each once -/
def insI (k : Int) : List Int → List Int
  | [] => [k]
  | x :: l => if k < x then k :: x :: l else if k = x then x :: l else x :: insI k l
def sortI (ns : List Int) : List Int := ns.foldr insI []
theorem mem_insI {k j : Int} : ∀ {l : List Int}, j ∈ insI k l ↔ j = k ∨ j ∈ l
  | [] => by simp [insI]
  | x :: l => by
    unfold insI
    split
    · simp
    · split
      · rename_i h; subst h; simp
      · rw [List.mem_cons, mem_insI, List.mem_cons]
        constructor
        · rintro (h | h | h)
          · exact .inr (.inl h)
          · exact .inl h
          · exact .inr (.inr h)
        · rintro (h | h | h)
          · exact .inr (.inl h)
          · exact .inl h
          · exact .inr (.inr h)
theorem pw_insI {k : Int} : ∀ {l : List Int}, l.Pairwise (· < ·) → (insI k l).Pairwise (· < ·)
  | [], _ => by simp [insI]
  | x :: l, h => by
    obtain ⟨h1, h2⟩ := List.pairwise_cons.mp h
    unfold insI
    split
    · rename_i hk
      refine List.pairwise_cons.mpr ⟨fun y hy => ?_, h⟩
      rcases List.mem_cons.mp hy with rfl | hy
      · exact hk
      · have := h1 y hy; omega
    · split
      · exact h
      · refine List.pairwise_cons.mpr ⟨fun y hy => ?_, pw_insI h2⟩
        rcases mem_insI.mp hy with rfl | hy
        · omega
        · exact h1 y hy
theorem mem_sortI {j : Int} : ∀ {ns : List Int}, j ∈ sortI ns ↔ j ∈ ns
  | [] => by simp [sortI]
  | n :: ns => by
    show j ∈ insI n (sortI ns) ↔ _
    rw [mem_insI, mem_sortI, List.mem_cons]
theorem pw_sortI : ∀ ns : List Int, (sortI ns).Pairwise (· < ·)
  | [] => .nil
  | n :: ns => pw_insI (pw_sortI ns)
theorem sortI_of {ns out : List Int} (h1 : out.Pairwise (· < ·)) (h2 : ∀ k : Int, k ∈ out ↔ k ∈ ns) : out = sortI ns := sorted_eq h1 (pw_sortI ns) fun k => (h2 k).trans mem_sortI.symm
where sorted_eq : ∀ {a b : List Int}, a.Pairwise (· < ·) → b.Pairwise (· < ·) → (∀ k, k ∈ a ↔ k ∈ b) → a = b
  | [], [], _, _, _ => rfl
  | [], y :: b, _, _, h => absurd ((h y).mpr List.mem_cons_self) (by simp)
  | x :: a, [], _, _, h => absurd ((h x).mp List.mem_cons_self) (by simp)
  | x :: a, y :: b, h1, h2, h => by
    obtain ⟨u1, u2⟩ := List.pairwise_cons.mp h1
    obtain ⟨v1, v2⟩ := List.pairwise_cons.mp h2
    have e : x = y := by
      rcases List.mem_cons.mp ((h x).mp List.mem_cons_self) with q | q
      · exact q
      · rcases List.mem_cons.mp ((h y).mpr List.mem_cons_self) with q' | q'
        · exact q'.symm
        · have := v1 x q
          have := u1 y q'
          omega
    subst e
    have : a = b := sorted_eq u2 v2 fun k => by
      constructor
      · intro hk
        rcases List.mem_cons.mp ((h k).mp (List.mem_cons_of_mem _ hk)) with q | q
        · have := u1 k hk; omega
        · exact q
      · intro hk
        rcases List.mem_cons.mp ((h k).mpr (List.mem_cons_of_mem _ hk)) with q | q
        · have := v1 k hk; omega
        · exact q
    rw [this]
end
end Lc

set_option Elab.async false
set_option maxRecDepth 100000
set_option maxHeartbeats 4000000
/-! sum(xs, []), xs a list of lists. -/
namespace Lc
open PySem L2 PySem.Spec PyProof.Rows
/-- the first i of them behind one another -/
def preL (xs : Nat → Array Value) : Nat → Array Value
  | 0 => #[]
  | i + 1 => preL xs i ++ xs i
theorem args_sum2 (a b : Value) : argsOk "sum" ⟨[a, b], []⟩ := by unfold argsOk; kernel_rfl
section
variable {prog : Program} {w : World} {A : Around} {R : Result → Shared → Prop} {I : Addr} {fp wr : List Addr} {n : Nat} {P : Nat → Value → Prop} {St : Nat → Heap → Prop}
theorem sum_loopL (W : Walks prog w A.in1 I fp wr n P St) (hw : ∀ i h, St i h → ∀ b ∈ wr, ∃ o, h.get? b = some o) (bl : Nat → Addr) (xs : Nat → Array Value) (hval : ∀ i v, P i v → v = Value.ref (bl i)) (hz : ∀ i, i ≤ n → (preL xs i).size ≤ sizeLine) (S : Addr) (hSf : S ∉ fp) :
    ∀ (k i : Nat) (s : Shared) (T : Addr) (c cT : Nat), n - i = k → i ≤ n → St i s.heap → s.heap.get? S = some { cls := .type "list", dict := none, data := .seq #[.ref T] c, slots := #[] } → IsL s.heap T (preL xs i) cT → T ∉ wr → T ≠ S →
    (∀ j, i ≤ j → j < n → ∃ m, IsL s.heap (bl j) (xs j) m ∧ bl j ∉ wr ∧ bl j ≠ S) →
    (∀ h' tk T' c', IsL h' T' (preL xs n) c' → (i = n → T' = T) → (i < n → s.heap.get? T' = none) → (∀ b o, b ∉ wr → b ≠ S → s.heap.get? b = some o → h'.get? b = some o) → R (.ok (.ret (.ref T'))) { s with heap := h', toks := tk }) →
    codeAny (model prog w) A (.builtin "sum.loop" ⟨[.ref I, .ref S, rawInt 2, rawInt 0], []⟩) R s := by
  have hSw : S ∉ wr := fun z => hSf (W.sub _ z)
  intro k
  induction k with
  | zero =>
    intro i s T c cT hk hi hst hS hT nT nS hbl hR
    obtain rfl : i = n := by omega
    refine codeAny_builtin F.entry_sum_loop ?_
    rw [Around.under_plainId F.plain_sum_loop _]
    show wpAny _ A.in1 (seqItems? (.ref S) >>= _) _ _ s
    refine wpAny_bind (wpAny_seqItems hS rfl ?_)
    show wpAny _ A.in1 (tryCatch (pyNext (.ref I)) _ >>= _) _ _ s
    refine wpAny_bind (wpAny_tryCatch (W.done s _ _ hst fun h1 tk kp => ?_))
    exact wpAny_pure (hR h1 tk T cT (kp _ _ nT hT) (fun _ => rfl) (fun z => absurd z (Nat.lt_irrefl _)) fun b o nb _ e => kp b o nb e)
  | succ k ih =>
    intro i s T c cT hk hi hst hS hT nT nS hbl hR
    have hlt : i < n := by omega
    refine codeAny_builtin F.entry_sum_loop ?_
    rw [Around.under_plainId F.plain_sum_loop _]
    show wpAny _ A.in1 (seqItems? (.ref S) >>= _) _ _ s
    refine wpAny_bind (wpAny_seqItems hS rfl ?_)
    show wpAny _ A.in1 (tryCatch (pyNext (.ref I)) _ >>= _) _ _ s
    refine wpAny_bind (wpAny_tryCatch (W.item i s _ _ hlt hst fun v h1 tk hP hst1 kp => ?_))
    obtain rfl := hval i v hP
    have hS1 := kp S _ hSw hS
    have hT1 : IsL h1 T (preL xs i) cT := kp _ _ nT hT
    obtain ⟨m, hb0, nb1, nb2⟩ := hbl i (Nat.le_refl _) hlt
    have hb1 : IsL h1 (bl i) (xs i) m := kp _ _ nb1 hb0
    have ltw : ∀ b ∈ wr, b < h1.objs.size := fun b hb => by
      obtain ⟨o, e⟩ := hw _ _ hst1 b hb
      exact Heap.lt_size e
    have nw : h1.objs.size ∉ wr := fun z => Nat.lt_irrefl _ (ltw _ z)
    have nS1 : h1.objs.size ≠ S := fun z => Nat.lt_irrefl _ (Nat.lt_of_lt_of_eq (Heap.lt_size hS1) z)
    have fr : s.heap.get? h1.objs.size = none := by
      cases q : s.heap.get? h1.objs.size with
      | none => rfl
      | some o => exact absurd (Heap.lt_size (kp _ _ nw q)) (Nat.lt_irrefl _)
    have hz1 := hz (i + 1) hlt
    show wpAny _ A.in1 ((holding [Value.ref (bl i)] (binaryOp .Add (.ref T) (.ref (bl i)))).attempt >>= _) _ _ _
    refine wpAny_bind (wpAny_attempt (wpAny_holding (PySem.P.add_list (s := { s with heap := h1, toks := tk }) hT1 hb1 ?_ (by simpa [preL] using hz1))))
    have hS2 : (h1.push { cls := .type "list", data := .seq (preL xs i ++ xs i) }).get? S = some _ := Heap.get?_push_of_some _ hS1
    show wpAny _ A.in1 (updateSeq S (fun _ => #[.ref h1.objs.size]) >>= _) _ _ _
    refine wpAny_bind (wpAny_updateSeq hS2 rfl ?_)
    have hS3 := Heap.get?_update_self (Obj.mapSeq fun _ => #[Value.ref h1.objs.size]) hS2 rfl
    refine wpAny_bind (wpAny_letGo (wpAny_bind (wpAny_updateSeq hS3 rfl ?_)))
    have hS4 := Heap.get?_update_self (Obj.mapSeq fun _ => #[Value.ref h1.objs.size]) hS3 rfl
    have up : ∀ b o, b ≠ S → h1.get? b = some o → (((h1.push { cls := .type "list", data := .seq (preL xs i ++ xs i) }).update S (Obj.mapSeq fun _ => #[Value.ref h1.objs.size])).update S (Obj.mapSeq fun _ => #[Value.ref h1.objs.size])).get? b = some o := fun b o nb e => by
      rw [Heap.get?_update_other _ _ (Ne.symm nb), Heap.get?_update_other _ _ (Ne.symm nb)]
      exact Heap.get?_push_of_some _ e
    have hT2 : IsL (((h1.push { cls := .type "list", data := .seq (preL xs i ++ xs i) }).update S (Obj.mapSeq fun _ => #[Value.ref h1.objs.size])).update S (Obj.mapSeq fun _ => #[Value.ref h1.objs.size])) h1.objs.size (preL xs (i + 1)) 0 := by
      show Heap.get? _ _ = _
      rw [Heap.get?_update_other _ _ (Ne.symm nS1), Heap.get?_update_other _ _ (Ne.symm nS1)]
      exact Heap.get?_push_size _ rfl
    have st2 := W.frame _ _ _ hst1 fun b hb o e => up b o (fun z => hSf (z ▸ hb)) e
    refine wpAny_pure ⟨plainId_quiet F.plain_sum_loop _, ih (i + 1) _ h1.objs.size _ 0 (by omega) hlt st2 hS4 hT2 nw nS1 (fun j hj hn => ?_) fun h' tk' T' c' hT' e1 e2 kp' => ?_⟩
    · obtain ⟨m', g1, g2, g3⟩ := hbl j (by omega) hn
      exact ⟨m', up _ _ g3 (kp _ _ g2 g1), g2, g3⟩
    · refine hR h' tk' T' c' hT' (fun z => absurd z (Nat.ne_of_lt hlt)) (fun _ => ?_) fun b o nb nbS e => kp' b o nb nbS (up b o nbS (kp b o nb e))
      by_cases hn : i + 1 = n
      · rw [e1 hn]; exact fr
      · have e3 := e2 (by omega)
        cases q : s.heap.get? T' with
        | none => rfl
        | some o =>
          by_cases z1 : T' ∈ wr
          · obtain ⟨o', z⟩ := hw _ _ st2 T' z1
            rw [z] at e3; cases e3
          · by_cases z2 : T' = S
            · subst z2; rw [hS4] at e3; cases e3
            · rw [up T' o z2 (kp T' o z1 q)] at e3; cases e3
end
section
variable {prog : Program} {w : World} {A : Around} {E : Value → Shared → Prop} {s : Shared}
theorem sum_lists {l T : Addr} {its : Array Value} {bl : Nat → Addr} {xs : Nat → Array Value} {Q : Value → Shared → Prop} {cT : Nat} (hh : A.handled = none) (hl : s.heap.IsList l its) (hT : IsL s.heap T #[] cT) (hi : ∀ i v, its[i]? = some v → v = Value.ref (bl i))
    (hb : ∀ j, j < its.size → ∃ m, IsL s.heap (bl j) (xs j) m) (hz : ∀ i, i ≤ its.size → (preL xs i).size ≤ sizeLine)
    (hq : ∀ h' tk T' c', IsL h' T' (preL xs its.size) c' → (its.size = 0 → T' = T) → (0 < its.size → s.heap.get? T' = none) → (∀ b o, s.heap.get? b = some o → h'.get? b = some o) → Q (.ref T') { s with heap := h', toks := tk }) :
    wpAny (model prog w) A (call (.builtin "sum") [.ref l, .ref T]) Q E s := by
  refine call_function_tree F.kind_sum F.plain_sum F.entry_sum (args_sum2 _ _) ?_
  unfold Builtin.«sum»
  simp only [List.length_cons, List.length_nil]
  rw [if_neg (by decide)]
  refine wpAny_bind (wpAny_of_eq (show Builtin.Builtins.bindParams "sum" ["start"] 0 ⟨[.ref T], []⟩ = pure [some (.ref T)] from rfl) ?_)
  have hlt : l < s.heap.objs.size := by obtain ⟨_, e, _⟩ := id hl; exact Heap.lt_size e
  refine wpAny_bind (wpAny_pyIter_list hl ?_)
  refine wpAny_bind (wpAny_pure ?_)
  have hT1 : IsL (s.heap.push { cls := .type "list_iterator", data := .fields #[.ref l, .int 0 0] }) T #[] cT := Heap.get?_push_of_some _ hT
  have tT : Shared.TypeIs { s with heap := s.heap.push { cls := .type "list_iterator", data := .fields #[.ref l, .int 0 0] } } (.ref T) "list" := ⟨_, hT1, rfl⟩
  simp only [List.forIn_cons, List.forIn_nil]
  refine wpAny_bind (wpAny_bind (wpAny_bind (wpAny_isInstance (T := "list") (b := false) tT F.sub_list_str ?_)))
  simp only [Bool.false_eq_true, if_false]
  refine wpAny_pure (wpAny_bind (wpAny_bind (wpAny_isInstance (T := "list") (b := false) tT F.sub_list_bytes ?_)))
  simp only [Bool.false_eq_true, if_false]
  refine wpAny_pure (wpAny_bind (wpAny_bind (wpAny_isInstance (T := "list") (b := false) tT F.sub_list_bytearray ?_)))
  simp only [Bool.false_eq_true, if_false]
  refine wpAny_pure (wpAny_pure ?_)
  refine wpAny_bind (wpAny_newObj_type ?_)
  have sz : (s.heap.push { cls := .type "list_iterator", data := .fields #[.ref l, .int 0 0] }).objs.size = s.heap.objs.size + 1 := Heap.size_push ..
  have up : ∀ b o, s.heap.get? b = some o → ((s.heap.push { cls := .type "list_iterator", data := .fields #[.ref l, .int 0 0] }).push { cls := .type "list", data := .seq #[.ref T] }).get? b = some o := fun b o e => Heap.get?_push_of_some _ (Heap.get?_push_of_some _ e)
  have ne : ∀ {b : Addr} {o : Obj}, s.heap.get? b = some o → b ∉ [s.heap.objs.size] ∧ b ≠ (s.heap.push { cls := .type "list_iterator", data := .fields #[.ref l, .int 0 0] }).objs.size := fun {b o} e => by
    have lt := Heap.lt_size e
    exact ⟨fun z => absurd (List.mem_singleton.mp z) (Nat.ne_of_lt lt), by rw [sz]; exact Nat.ne_of_lt (Nat.lt_succ_of_lt lt)⟩
  refine wpAny_pure ⟨plainId_quiet F.plain_sum_loop _, sum_loopL (Walks.list (A := A.in1) (by simpa using hh) s.heap.objs.size l (Nat.ne_of_lt hlt) its) (fun i h st b hb => ?_) bl xs hi hz _ (fun z => ?_) its.size 0 _ T 0 cT (by omega) (Nat.zero_le _) ⟨⟨_, Heap.get?_push_of_some _ (Heap.get?_push_size _ rfl), rfl, rfl⟩, (hl.push _).push _⟩ (Heap.get?_push_size _ rfl) (up _ _ hT) (ne hT).1 (ne hT).2 (fun j _ hj => ?_) fun h' tk T' c' g1 g2 g3 kp => ?_⟩
  · obtain rfl := List.mem_singleton.mp hb
    obtain ⟨⟨o, e, _⟩, _⟩ := st
    exact ⟨o, e⟩
  · rw [sz] at z
    rcases List.mem_cons.mp z with z | z
    · exact absurd z (Nat.ne_of_gt (Nat.lt_succ_self _))
    · exact absurd (List.mem_singleton.mp z) (Nat.ne_of_gt (Nat.lt_succ_of_lt hlt))
  · obtain ⟨m, g⟩ := hb j hj
    exact ⟨m, up _ _ g, (ne g).1, (ne g).2⟩
  · refine hq h' tk T' c' g1 (fun z => g2 z.symm) (fun z => ?_) fun b o e => kp b o (ne e).1 (ne e).2 (up b o e)
    have := g3 z
    cases q : s.heap.get? T' with
    | none => rfl
    | some o => rw [up T' o q] at this; cases this
end
theorem preL_take (us : List (List Value)) : ∀ i, i ≤ us.length → preL (fun i => (us.getD i []).toArray) i = ((us.take i).flatten).toArray
  | 0, _ => rfl
  | i + 1, h => by
    have hi : i < us.length := h
    rw [preL, preL_take us i (Nat.le_of_lt hi), List.take_succ_eq_append_getElem hi, List.flatten_append, List.getD_eq_getElem?_getD, List.getElem?_eq_getElem hi]
    show _ ++ (us[i]).toArray = _
    rw [List.append_toArray]
    simp only [List.flatten_cons, List.flatten_nil, List.append_nil]
theorem vals_flat : ∀ {zs : List (List V)} {us : List (List Value)}, Paired Vals zs us → Vals zs.flatten us.flatten
  | _, _, .nil => .nil
  | _, _, .cons r t => by
    rw [List.flatten_cons, List.flatten_cons]
    exact r.append (vals_flat t)
section
variable {X : Cx}
theorem obj_there {P : Program} {w : World} {H : Hp} {h : Heap} {a : Addr} {o : HO} (x : ObjOk P w H h a o) : ∃ o', h.get? a = some o' := by
  cases o with
  | lst xs => obtain ⟨_, _, _, _, e⟩ := x; exact ⟨_, e⟩
  | tup xs => obtain ⟨_, _, _, ob, e, _⟩ := x; exact ⟨_, e⟩
  | dK kvs => obtain ⟨_, _, _, _, o, _, _, e, _⟩ := x; exact ⟨_, e⟩
  | dT kvs => obtain ⟨_, _, _, _, o, _, _, e, _⟩ := x; exact ⟨_, e⟩
  | set S n => obtain ⟨o, _, _, _, e, _⟩ := x; exact ⟨_, e⟩
  | ins C dx fs => obtain ⟨_, _, _, e, _⟩ := x; exact ⟨_, e⟩
  | own y => exact x
  | xd fs => obtain ⟨_, ⟨_, _, _, e, _⟩, _⟩ := x; exact ⟨_, e⟩
  | rng lo hi => obtain ⟨_, _, _, e⟩ := x; exact ⟨_, e⟩
  | frz ob u => exact ⟨_, x.1⟩
  | tbl ps => exact ⟨_, x⟩
  | met f y => exact ⟨_, x⟩
  | ext φ => exact x.2.1
def rSumL (K : PySem.W.Frag) : List V → Hp → VK → Prop := fun xs H Q => ∃ (a p : Addr) (bs : List Addr) (zs : List (List V)), xs = [.ref a, .ref p] ∧ SqL K H a (bs.map V.ref) ∧ H p = some (.lst []) ∧ Paired (fun b z => H b = some (.lst z)) bs zs ∧ zs.flatten.length ≤ sizeLine ∧ (bs = [] → Q (.ref p) H) ∧ (bs ≠ [] → ∀ T, H T = none → Q (.ref T) (upd H T (.lst zs.flatten)))
theorem look_lists {pins : List (Addr × Obj)} {σ : L2.St} {H : Hp} {s : Shared} (I : L2.Inv X pins σ H s) : ∀ {bs : List Addr} {zs : List (List V)}, Paired (fun b z => H b = some (.lst z)) bs zs → ∃ us : List (List Value), Paired Vals zs us ∧ Paired (fun b u => ∃ m, IsL s.heap b u.toArray m) bs us
  | _, _, .nil => ⟨[], .nil, .nil⟩
  | _, _, .cons h t => by
    obtain ⟨us, u1, u2⟩ := look_lists I t
    obtain ⟨_, its, n, r, e⟩ := I.hok _ _ h
    exact ⟨its :: us, .cons r u1, .cons ⟨n, e⟩ u2⟩
theorem refs_of : ∀ {bs : List Addr} {us : List Value}, Vals (bs.map V.ref) us → us = bs.map Value.ref
  | [], _, h => by cases h; rfl
  | b :: bs, _, h => by
    cases h with
    | cons a t =>
      obtain rfl := a
      rw [refs_of t, List.map_cons]
theorem paired_get {α β : Type} {F : α → β → Prop} : ∀ {l : List α} {m : List β}, Paired F l m → ∀ i (h1 : i < l.length) (h2 : i < m.length), F l[i] m[i]
  | _, _, .cons r _, 0, _, _ => r
  | _, _, .cons _ t, i + 1, h1, h2 => paired_get t i (Nat.lt_of_succ_lt_succ h1) (Nat.lt_of_succ_lt_succ h2)
theorem cr_sumL (hc : X.calm = true) : CallR X (.builtin "sum") (rSumL X.K) := by
  intro pins s σ H xs us Q I r h
  obtain ⟨a, p, bs, zs, rfl, hs, hp, hz, hl, q0, q1⟩ := h
  obtain ⟨w1, e1⟩ : ∃ w : Unit, us = [.ref a, .ref p] := by
    cases r with
    | cons r1 rt =>
      cases rt with
      | cons r2 rt =>
        cases rt
        obtain rfl := r1
        obtain rfl := r2
        exact ⟨(), rfl⟩
  subst e1
  obtain ⟨its, rv, ⟨o, n, ho, hcl, hdn, hd⟩, _⟩ := I.list hs
  obtain rfl := refs_of rv
  obtain ⟨uv, v1, v2⟩ := look_lists I hz
  obtain ⟨_, ip, np, rp, ep⟩ := I.hok _ _ hp
  cases rp
  have lb : bs.length = uv.length := v2.length
  have szs : (bs.map Value.ref).toArray.size = bs.length := by simp
  have fl := (vals_flat v1).length
  refine sum_lists (T := p) (bl := fun i => bs.getD i 0) (xs := fun i => (uv.getD i []).toArray) (I.ok.hd hc) ⟨o, ho, hcl, n, hd⟩ ep (fun i v hv => ?_) (fun j hj => ?_) (fun i hi => ?_) fun h2 tk T' c' g1 g2 g3 kp => ?_
  · have hv' : (bs.map Value.ref)[i]? = some v := by simpa using hv
    rw [List.getElem?_map] at hv'
    cases hb : bs[i]? with
    | none => rw [hb] at hv'; cases hv'
    | some b => rw [hb] at hv'; cases hv'; simp [List.getD_eq_getElem?_getD, hb]
  · rw [szs] at hj
    have hj2 : j < uv.length := by omega
    obtain ⟨m, e⟩ := paired_get v2 j hj hj2
    refine ⟨m, ?_⟩
    simpa [List.getD_eq_getElem?_getD, List.getElem?_eq_getElem hj, List.getElem?_eq_getElem hj2] using e
  · rw [szs] at hi
    rw [preL_take uv i (by omega)]
    have : ((uv.take i).flatten).length ≤ uv.flatten.length := by
      conv => rhs; rw [← List.take_append_drop i uv, List.flatten_append, List.length_append]
      omega
    simp only [List.size_toArray]
    omega
  · rw [szs] at g1 g2 g3
    rw [preL_take uv _ (by omega), lb, List.take_length] at g1
    by_cases hb : bs = []
    · obtain rfl := g2 (by rw [hb]; rfl)
      exact ⟨.ref T', H, I.kept (t' := tk) kp, rfl, q0 hb⟩
    · have hn : s.heap.get? T' = none := g3 (List.length_pos_iff.mpr hb)
      have hH : H T' = none := by
        cases q : H T' with
        | none => rfl
        | some o =>
          have lt := (I.hok _ _ q)
          obtain ⟨o', e⟩ : ∃ o', s.heap.get? T' = some o' := obj_there lt
          rw [hn] at e; cases e
      exact ⟨.ref T', _, I.laidN (t' := tk) (h' := h2) (o := .lst zs.flatten) kp hn hH ⟨hl, uv.flatten, c', vals_flat v1, g1⟩, rfl, q1 hb T' hH⟩
/-! ### what they denote -/
def listsOf : List D → Option (List (List D))
  | [] => some []
  | .lst l :: r => (listsOf r).map (l :: ·)
  | _ => none
theorem listsOf_ok {K : PySem.W.Frag} {B : Hp} : ∀ {ds : List D} {ls : List (List D)} {vs : List V}, listsOf ds = some ls → RpAll K B vs ds → ∃ (bs : List Addr) (zs : List (List V)), vs = bs.map V.ref ∧ Paired (fun b z => B b = some (.lst z)) bs zs ∧ RpAll K B zs.flatten ls.flatten ∧ (ds = [] ↔ bs = [])
  | [], ls, vs, e, h => by
    cases h; cases e
    exact ⟨[], [], rfl, .nil, .nil, by simp⟩
  | d :: ds, ls, vs, e, h => by
    cases h with
    | cons h1 h2 =>
      cases d with
      | lst l =>
        simp only [listsOf] at e
        cases q : listsOf ds with
        | none => rw [q] at e; cases e
        | some ls' =>
          rw [q] at e; cases e
          obtain ⟨bs, zs, e1, e2, e3, _⟩ := listsOf_ok q h2
          cases h1 with
          | lst g1 g2 =>
            rename_i a xs
            refine ⟨a :: bs, xs :: zs, by rw [e1]; rfl, .cons g1 e2, ?_, by simp⟩
            rw [List.flatten_cons, List.flatten_cons]
            exact g2.append e3
      | _ => simp [listsOf] at e
def gSumL : D → Option Bo
  | .lst ds => (listsOf ds).bind fun ls => if ls.flatten.length ≤ sizeLine then some (.own (.lst ls.flatten)) else none
  | _ => none
variable {e : Expr} {fe : M W} {p p2 lp pos q : Pos}
theorem paired_same {B H : Hp} (s : Sbm B H) : ∀ {bs : List Addr} {zs : List (List V)}, Paired (fun b z => B b = some (.lst z)) bs zs → Paired (fun b z => H b = some (.lst z)) bs zs
  | _, _, .nil => .nil
  | _, _, .cons h t => .cons (s.get _ _ h) (paired_same s t)
theorem de_sumL (he : DE X e fe) (hc : X.calm = true) (hg : Gl X "sum") (hm : X.mg "sum" = none) (hs1 : starEach [e, .List [] lp] X.env = (false, eval e X.env) :: starEach [.List [] lp] X.env) (hs2 : starEach [.List [] lp] X.env = (false, eval (.List [] lp) X.env) :: starEach [] X.env)
    (hpl : (backTo pos (starEach [.List [] lp] X.env)).any (·.1) = false) : DE X (.Call (.Name "sum" p) [e, .List [] lp] [] pos) (cOp1 gSumL fe) := by
  refine ⟨fun Wx tk => ?_⟩
  obtain ⟨t, pt, qt⟩ := he.run Wx tk
  refine ⟨_, pe_callB (cr_sumL hc) hg hm (by decide +kernel) (pa_cons pt (pa_cons (pe_lst pa_nil) pa_nil hs2) hs1) (by decide) (by decide) hs1 hpl, fun vs B σ H r Q R h => qt vs B σ H r _ R (Post.bind back_W h fun x w B1 H1 r1 s1 R1 q1 h1 => ?_)⟩
  obtain ⟨d, vd, _, h2⟩ := Post.view R1 q1 h1
  obtain ⟨bo, eb, h3⟩ := Post.give R1 h2
  refine ⟨Nat.zero_le _, fun pl np => ?_⟩
  cases d with
  | lst ds =>
    obtain ⟨a, xs, rfl, ha, hr⟩ := vd
    simp only [gSumL] at eb
    cases el : listsOf ds with
    | none => rw [el] at eb; cases eb
    | some ls =>
      rw [el] at eb
      simp only [Option.bind_some] at eb
      split at eb
      · rename_i hz
        cases eb
        obtain ⟨bs, zs, rfl, e2, e3, e4⟩ := listsOf_ok el hr
        have ea : a ≠ pl := fun z => by subst z; rw [np] at ha; cases ha
        have sm := R1.sub.trans (same_upd (o := .lst []) np)
        refine ⟨a, pl, bs, zs, rfl, .inl (.inl (by rw [upd_ne ea]; exact ha)), upd_same, paired_same sm e2, by rw [e3.length]; exact hz, fun hb => ?_, fun hb T hT => ?_⟩
        · refine h3 (.ref pl) B1 _ (.plain np) sm ⟨pl, rfl, np, none_of_sub R1.sub np, ⟨[], upd_same, ?_⟩⟩
          have : ds = [] := e4.mpr hb
          subst this
          cases el
          exact .nil
        · have nT : T ≠ pl := fun z => by subst z; rw [upd_same] at hT; cases hT
          have hT1 : H1 T = none := by rw [upd_ne nT] at hT; exact hT
          have ex : Ext B1 H1 B1 (upd (upd H1 pl (.lst [])) T (.lst zs.flatten)) := (Ext.plain np).trans (.plain hT)
          exact h3 (.ref T) B1 _ ex (R1.sub.trans ex.keep) ⟨T, rfl, hT1, none_of_sub R1.sub hT1, ⟨_, upd_same, e3⟩⟩
      · cases eb
  | _ => cases eb
/-- sorted(set(e)) -/
def gSortS : D → Option Bo
  | .lst ds => (intsOf ds).bind fun ns => if ns.length < 64 then some (.own (.lst ((sortI ns).map D.int))) else none
  | _ => none
theorem de_sortS (he : DE X e fe) (hc : X.calm = true) (hg : Gl X "sorted") (hm : X.mg "sorted" = none) (hg2 : Gl X "set") (hm2 : X.mg "set" = none) (hs1 : starEach [.Call (.Name "set" p2) [e] [] q] X.env = (false, eval (.Call (.Name "set" p2) [e] [] q) X.env) :: starEach [] X.env)
    (hpl : (backTo pos (starEach [] X.env)).any (·.1) = false) (hs2 : starEach [e] X.env = (false, eval e X.env) :: starEach [] X.env) (hpl2 : (backTo q (starEach [] X.env)).any (·.1) = false) : DE X (.Call (.Name "sorted" p) [.Call (.Name "set" p2) [e] [] q] [] pos) (cOp1 gSortS fe) := by
  refine ⟨fun Wx tk => ?_⟩
  obtain ⟨t, pt, qt⟩ := he.run Wx tk
  refine ⟨_, pe_callB (cr_sortedSet hc) hg hm (by decide +kernel) (pa_cons (pe_callTy (cr_setI hc) hg2 hm2 (by decide +kernel) (pa_cons pt pa_nil hs2) (by decide) (by decide) hs2 hpl2) pa_nil hs1) (by decide) (by decide) hs1 hpl, fun vs B σ H r Q R h => qt vs B σ H r _ R (Post.bind back_W h fun x w B1 H1 r1 s1 R1 q1 h1 => ?_)⟩
  obtain ⟨d, vd, _, h2⟩ := Post.view R1 q1 h1
  obtain ⟨bo, eb, h3⟩ := Post.give R1 h2
  cases d with
  | lst ds =>
    obtain ⟨a, xs, rfl, ha, hr⟩ := vd
    simp only [gSortS] at eb
    cases el : intsOf ds with
    | none => rw [el] at eb; cases eb
    | some ns =>
      rw [el] at eb
      simp only [Option.bind_some] at eb
      split at eb
      · rename_i hz
        cases eb
        obtain rfl := intsOf_ok el
        obtain rfl := hr.ints
        refine ⟨a, ns, rfl, .inl (.inl ha), by unfold scanBound; omega, fun pl c np hcl => ⟨pl, _, c, rfl, upd_same, by omega, fun out T ho hmem hlen hT => ?_⟩⟩
        have eo := sortI_of (ns := ns) ho fun k => by rw [hmem k]; simp
        subst eo
        have nT : T ≠ pl := fun z => by subst z; rw [upd_same] at hT; cases hT
        have hT1 : H1 T = none := by rw [upd_ne nT] at hT; exact hT
        have ex : Ext B1 H1 B1 (upd (upd H1 pl (SetO X.w pl (fun j => decide (j ∈ ns)) c)) T (.lst ((sortI ns).map V.int))) := (Ext.plain np).trans (.plain hT)
        exact h3 (.ref T) B1 _ ex (R1.sub.trans ex.keep) ⟨T, rfl, hT1, none_of_sub R1.sub hT1, ⟨_, upd_same, RpAll.of_ints _⟩⟩
      · cases eb
  | _ => cases eb
end
end Lc

set_option Elab.async false
set_option maxRecDepth 100000
set_option maxHeartbeats 4000000
/-! while; x += e. -/
namespace Lc
open PySem L2 PySem.Spec PyProof.Rows
def whileN (t : M Bool) (b : M Fl) : Nat → M Fl
  | 0 => fun _ => .fail
  | n + 1 => fun r => match t r with
    | .ok true r1 => match b r1 with
      | .ok .next r2 => whileN t b n r2
      | .ok .cnt r2 => whileN t b n r2
      | .ok .brk r2 => .ok .next r2
      | .ok (.ret w) r2 => .ok (.ret w) r2
      | .exc x r2 => .exc x r2
      | .fail => .fail
    | .ok false r1 => .ok .next r1
    | .exc x r1 => .exc x r1
    | .fail => .fail
theorem whileN_up {t : M Bool} {b : M Fl} : ∀ {n m : Nat} {r : Rho}, n ≤ m → whileN t b n r ≠ .fail → whileN t b m r = whileN t b n r
  | 0, _, _, _, h => absurd rfl h
  | n + 1, 0, _, l, _ => absurd l (by omega)
  | n + 1, m + 1, r, l, h => by
    have l' : n ≤ m := by omega
    simp only [whileN] at h ⊢
    cases e1 : t r with
    | fail => rfl
    | exc x r1 => rfl
    | ok k r1 =>
      rw [e1] at h
      cases k with
      | false => rfl
      | true =>
        simp only at h ⊢
        cases e2 : b r1 with
        | fail => rfl
        | exc x r2 => rfl
        | ok fl r2 =>
          rw [e2] at h
          cases fl with
          | next => exact whileN_up l' h
          | cnt => exact whileN_up l' h
          | brk => rfl
          | ret w => rfl
open Classical in
noncomputable def cWhile (t : M Bool) (b : M Fl) : M Fl := fun r => if h : ∃ n, whileN t b n r ≠ .fail then whileN t b h.choose r else .fail
theorem cWhile_eq {t : M Bool} {b : M Fl} {n : Nat} {r : Rho} {res : Res Fl} (h : whileN t b n r = res) (hn : res ≠ .fail) : cWhile t b r = res := by
  have hx : ∃ n, whileN t b n r ≠ .fail := ⟨n, h ▸ hn⟩
  unfold cWhile
  rw [dif_pos hx]
  rcases Nat.le_total n hx.choose with l | l
  · rw [whileN_up l (h ▸ hn)]; exact h
  · rw [← whileN_up l hx.choose_spec]; exact h
section
variable {X : Cx} {c e : Expr} {body : List Stmt} {tt : M Bool} {fb : M Fl} {fe : M W} {pos : Pos}
theorem ds_while (hp : PassesOwn (model X.prog X.w) X.A X.env X.xe) (hc : DT X c tt) (hb : DSs X body fb) : DS X (.While c body [] pos) (cWhile tt fb) := by
  refine ⟨fun Wx tk => ?_⟩
  obtain ⟨t, pt, qt⟩ := hc.run Wx tk
  obtain ⟨tb, pb, qb⟩ := hb.run Wx tk
  refine ⟨_, ps_while hp pt pb, fun vs B σ H r E R h => ?_⟩
  unfold cWhile at h
  split at h
  · rename_i hx
    refine ⟨fun m σ' H' => ∃ B' r', Stp vs B H σ r B' H' σ' r' ∧ Rl X.K vs B' σ' H' r' ∧ PostS X vs Wx B H σ r (whileN tt fb m r') E, ⟨hx.choose, B, r, .refl, R, h⟩, ?_⟩
    rintro m σ' H' ⟨B', r', s', R', h'⟩
    cases m with
    | zero => exact h'.elim
    | succ m =>
      refine qt vs B' σ' H' r' _ R' ?_
      simp only [whileN] at h'
      cases e1 : tt r' with
      | fail => rw [e1] at h'; exact h'.elim
      | exc x r1 =>
        rw [e1] at h'
        exact fun cl dd B1 H1 s1 R1 q1 => h' cl dd σ' B1 H1 (s'.trans s1) R1 q1
      | ok k r1 =>
        rw [e1] at h'
        intro k' B1 H1 s1 R1 ek
        have ek' : k' = k := ek
        subst ek'
        have s2 := s'.trans s1
        cases k' with
        | false =>
          rw [if_neg Bool.false_ne_true]
          exact h' σ' B1 H1 s2 R1
        | true =>
          rw [if_pos rfl]
          refine ⟨fun σ2 H2 => ∃ B2 r2, Stp vs B H σ r B2 H2 σ2 r2 ∧ Rl X.K vs B2 σ2 H2 r2 ∧ PostS X vs Wx B H σ r (whileN tt fb m r2) E, fun σ2 H2 q => ⟨m, Nat.lt_succ_self m, q⟩, qb vs B1 σ' H1 r1 _ R1 ?_⟩
          simp only at h'
          cases e2 : fb r1 with
          | fail => rw [e2] at h'; exact h'.elim
          | exc x r2 =>
            rw [e2] at h'
            exact fun cl dd σ2 B2 H2 s3 R2 q2 => h' cl dd σ2 B2 H2 (s2.trans s3) R2 q2
          | ok fl r2 =>
            rw [e2] at h'
            cases fl with
            | next => exact fun σ2 B2 H2 s3 R2 => ⟨B2, r2, s2.trans s3, R2, h'⟩
            | cnt => exact fun σ2 B2 H2 s3 R2 => ⟨B2, r2, s2.trans s3, R2, h'⟩
            | brk => exact fun σ2 B2 H2 s3 R2 => h' σ2 B2 H2 (s2.trans s3) R2
            | ret w => exact fun v σ2 B2 H2 s3 R2 q2 => h' v σ2 B2 H2 (s2.trans s3) R2 (RpW.back q2 s2.dom)
  · exact h.elim
/-! ### x += e, x -= e on ints -/
def W.asI1 : W → M Int
  | .dt (.int i) => M.ret i
  | _ => M.no
def cAug (i : Nat) (g : Int → Int → Int) (fe : M W) : M Fl := fun r => match r.loc[i]? with
  | some (some (.dt (.int x))) => M.bind fe (fun w => M.bind w.asI1 fun y => fun r => match r.loc[i]? with
    | some (some (.dt (.int x'))) => if x' = x then .ok .next (r.put i (.dt (.int (g x y)))) else .fail
    | _ => .fail) r
  | _ => .fail
theorem ds_aug {i : Nat} {x : Str} {op : Operator} {g : Int → Int → Int} {pos' : Pos} (hN : X.N.Nodup) (hi : X.N[i]? = some x) (hx : Loc X.env.scope x) (ho : PIp X op (ipI g)) (he : DE X e fe) (hf : X.fn x = true ∨ X.env.scope.names.lookup x = some .local) : DS X (.AugAssign (.Name x pos') op e pos) (cAug i g fe) := by
  refine ⟨fun Wx tk => ?_⟩
  obtain ⟨t, pt, qt⟩ := he.run Wx tk
  refine ⟨_, ps_aug hN hi hx pt ho hf, fun vs B σ H r E R h => ?_⟩
  unfold cAug at h
  split at h
  · rename_i xv e1
    obtain ⟨v, h1, h2⟩ := R.dat i _ e1
    cases h2
    refine ⟨.int xv, h1, qt vs B σ H r _ R (PostS.bind0 h fun y w B1 H1 r1 s1 R1 q1 h3 => ?_)⟩
    cases w with
    | dt d =>
      cases d with
      | int j =>
        cases q1
        have h4 : PostS X vs Wx B H σ r ((match r1.loc[i]? with
          | some (some (.dt (.int x'))) => if x' = xv then .ok .next (r1.put i (.dt (.int (g xv j)))) else .fail
          | _ => .fail : Res Fl)) E := h3
        split at h4
        · rename_i x' e2
          split at h4
          · have hlt : i < r1.loc.length := (List.getElem?_eq_some_iff.mp e2).1
            obtain ⟨R2, s2⟩ := R1.assign (sl := .dt (.int (g xv j))) (v := .int (g xv j)) s1 (Rp.int _) hlt
            exact ⟨xv, j, rfl, rfl, h4 _ B1 H1 s2 R2⟩
          · exact h4.elim
        · exact h4.elim
      | _ => exact h3.elim
    | _ => exact h3.elim
  · exact h.elim
end
end Lc

set_option Elab.async false
set_option maxRecDepth 100000
set_option maxHeartbeats 4000000
/-! The store: a new thing goes there; things there change; repr through it. -/
namespace Lc
open PySem L2 PySem.Spec PyProof.Rows He
section
variable {X : Cx} {o e : Expr} {fo fe : M W} {apos pos : Pos}
/-- a new thing goes to the store -/
def W.toS (w : W) : M W := fun r => match w with
  | .fresh c => .ok (.dt (.sto r.st.length)) (r.news c)
  | w => .ok w r
def cSto (f : M W) : M W := M.bind f W.toS
theorem de_sto (he : DE X e fe) : DE X e (cSto fe) := by
  refine ⟨fun Wx tk => ?_⟩
  obtain ⟨t, p, q⟩ := he.run Wx tk
  refine ⟨_, p, fun vs B σ H r Q R h => q vs B σ H r _ R (Post.bind0 h fun x w B1 H1 r1 s1 R1 q1 h1 => ?_)⟩
  cases w with
  | dt d => exact h1 x B1 H1 s1 R1 q1
  | cel z => exact h1 x B1 H1 s1 R1 q1
  | fresh c =>
    obtain ⟨a, rfl, n0, nb, hc, no⟩ := q1
    obtain ⟨B2, sb, hm, R2, s2, out⟩ := R1.store nb no hc
    refine h1 (.ref a) B2 H1 ⟨s1.sub.trans sb, fun y u hy n m => ?_, ?_, s1.dom, fun y hy => s1.own y (own_news hy), s1.bol, s1.bod, fun k c' y hk hv => ?_⟩ R2 (Rp.sto hm)
    · obtain ⟨g1, g2⟩ := s1.keep y u hy n m
      have : y ≠ a := fun z => by subst z; rw [n0] at hy; cases hy
      exact ⟨g1, fun z => by rw [out y this]; exact g2 z⟩
    · have := s1.stl
      simp only [Rho.news, List.length_append]
      omega
    · rcases s1.boo k c' y hk hv with z | ⟨d, u, g1, g2, g3⟩
      · exact .inl z
      · exact .inr ⟨d, u, g1, sb _ _ g2, g3⟩
/-! ### append, pop, clear there -/
def M.isS (w : W) : M Nat := fun r => match w with
  | .dt (.sto k) => match r.st[k]? with
    | some (.lst _) => .ok k r
    | _ => .fail
  | _ => .fail
theorem Post.isS {vs : List V} {Wx : WX} {B0 H0 B H : Hp} {σ : L2.St} {r0 r : Rho} {γ δ : Type} {rel : Hp → Hp → Rho → δ → γ → Prop} {w : W} {f : Nat → M γ} {Q : δ → Hp → Prop} {Hs : Hp} {v : V} (R : Rl X.K vs B σ H r) (hv : RpW X.K vs Hs B σ H r v w) (h : Post X vs Wx B0 H0 σ r0 (M.bind (M.isS w) f r) rel Q) :
    ∃ k a l xs, w = .dt (.sto k) ∧ v = .ref a ∧ r.st[k]? = some (.lst l) ∧ B a = some (mark k) ∧ H a = some (.lst xs) ∧ RpAll X.K B xs l ∧ Post X vs Wx B0 H0 σ r0 (f k r) rel Q := by
  cases w with
  | cel z => simp only [M.bind, M.isS] at h; exact h.elim
  | fresh c => simp only [M.bind, M.isS] at h; exact h.elim
  | dt d =>
    cases d with
    | sto k =>
      cases hc : r.st[k]? with
      | none => simp only [M.bind, M.isS, hc] at h; exact h.elim
      | some c =>
        cases c with
        | dct l => simp only [M.bind, M.isS, hc] at h; exact h.elim
        | lst l =>
          simp only [M.bind, M.isS, hc] at h
          cases hv with
          | sto hb =>
            obtain ⟨a', h1, xs, h2, h3⟩ := R.sto.at' k _ hc
            obtain rfl := R.sto.inj _ _ _ h1 hb
            exact ⟨k, _, l, xs, rfl, rfl, hc, hb, h2, h3, h⟩
    | _ => simp only [M.bind, M.isS] at h; exact h.elim
def cAppS (fo fe : M W) : M W := M.bind fo fun wo => M.bind (M.isS wo) fun k => M.bind fe fun we => M.bind we.frz fun d => fun r => match r.st[k]? with
  | some (.lst l) => if l.length < sizeLine then .ok (.dt .non) (r.sets k (.lst (l ++ [d]))) else .fail
  | _ => .fail
theorem de_appS (ho : DE X o fo) (he : DE X e fe) (hbase : attributeBase o "append" X.env (eval o X.env) = eval o X.env)
    (hfew : ((backTo pos (starEach [e] X.env)).all (fun x => !x.1) && (backToKw pos (keywordEach [] X.env)).all (fun x => x.1.isSome) && decide ([e].length + ([] : List Keyword).length + (if ([] : List Keyword).isEmpty then 0 else 1) < 30)) = true)
    (hline : (apos.endLine == pos.line) = true) (hs : starEach [e] X.env = (false, eval e X.env) :: starEach [] X.env) (hpl : (backTo pos (starEach [] X.env)).any (·.1) = false) : DE X (.Call (.Attribute o "append" apos) [e] [] pos) (cAppS fo fe) := by
  refine ⟨fun Wx tk => ?_⟩
  obtain ⟨to, po, qo⟩ := ho.run Wx tk
  obtain ⟨te, pe, qe⟩ := he.run Wx tk
  refine ⟨_, pe_bm PySem.F.plainAttrs_list PySem.F.slot_list_append PySem.F.type_list_append mt_append po (pa_cons pe pa_nil hs) hbase hfew hline hs hpl, fun vs B σ H r Q R h => qo vs B σ H r _ R (Post.bind0 h fun x wo B1 H1 r1 s1 R1 q1 h1 => ?_)⟩
  obtain ⟨k, a, l, xs, rfl, rfl, hc, ha, hH, _, h2⟩ := Post.isS R1 q1 h1
  refine ⟨.inl ⟨rfl, xs, .inl (.inl hH)⟩, qe vs B1 σ H1 r1 _ R1 ?_⟩
  cases ef : fe r1 with
  | fail => simp only [M.bind, ef] at h2; exact h2.elim
  | exc y r2 =>
    simp only [M.bind, ef] at h2
    exact fun cl dd B2 H2 s2 R2 f2 => h2 cl dd B2 H2 (s1.trans s2) R2 f2
  | ok we r2 =>
    simp only [M.bind, ef] at h2
    intro y B2 H2 s2 R2 q2
    obtain ⟨d, r3, B3, p3, R3, s3, sb3, h3⟩ := Post.frz (w := we) (x := y) R2 (s1.trans s2) (q2.back s1.dom) h2
    cases hc3 : r3.st[k]? with
    | none => simp only [hc3] at h3; exact h3.elim
    | some c =>
      cases c with
      | dct _ => simp only [hc3] at h3; exact h3.elim
      | lst l3 =>
        simp only [hc3] at h3
        split at h3
        · rename_i hz
          have ha3 := sb3 _ _ (s2.sub _ _ ha)
          obtain ⟨a', k1, xs3, k3, k4⟩ := R3.sto.at' k _ hc3
          obtain rfl := R3.sto.inj _ _ _ k1 ha3
          obtain ⟨R4, s4⟩ := R3.putS (o := .lst (xs3 ++ [y])) (c' := .lst (l3 ++ [d])) hc3 k1 ⟨_, upd_same, k4.append (.cons p3 .nil)⟩
          exact ⟨a', xs3, y, rfl, rfl, k3, by rw [k4.length]; exact hz, h3 .non _ _ (s3.trans s4) R4 Rp.non⟩
        · exact h3.elim

/-! ### data through the store -/
def allO (f : D → Option D) : List D → Option (List D)
  | [] => some []
  | d :: l => match f d, allO f l with
    | some d', some l' => some (d' :: l')
    | _, _ => none
def allK (f : D → Option D) : List (D × D) → Option (List (D × D))
  | [] => some []
  | (k, d) :: l => match f d, allK f l with
    | some d', some l' => some ((k, d') :: l')
    | _, _ => none
def Cn.mapO (f : D → Option D) : Cn → Option D
  | .lst l => (allO f l).map .lst
  | .dct l => (allK f l).map .dct
/-- what is in the store put in its place -/
def deepF (st : List Cn) : Nat → D → Option D
  | 0, _ => none
  | n + 1, .sto k => match st[k]? with
    | some c => c.mapO (deepF st n)
    | none => none
  | n + 1, .lst l => (allO (deepF st n) l).map .lst
  | n + 1, .tup l => (allO (deepF st n) l).map .tup
  | n + 1, .dct l => (allK (deepF st n) l).map .dct
  | _ + 1, d => if d.nm = true then some d else none
section
variable {K : PySem.W.Frag} {B H : Hp} {st : List Cn}
theorem allO_rp {f : D → Option D} (h : ∀ {v : V} {d d' : D}, Rp K B v d → f d = some d' → Rp K H v d') : ∀ {vs : List V} {l l' : List D}, RpAll K B vs l → allO f l = some l' → RpAll K H vs l'
  | _, _, _, .nil, e => by cases e; exact .nil
  | _, _, _, .cons a b, e => by
    rename_i v vs d ds
    unfold allO at e
    cases e1 : f d with
    | none => simp [e1] at e
    | some d1 =>
      cases e2 : allO f ds with
      | none => simp [e1, e2] at e
      | some l1 =>
        simp only [e1, e2, Option.some.injEq] at e
        subst e
        exact .cons (h a e1) (allO_rp h b e2)
theorem allK_rp {f : D → Option D} (h : ∀ {v : V} {d d' : D}, Rp K B v d → f d = some d' → Rp K H v d') : ∀ {vs : List (Key × V)} {l l' : List (D × D)}, RpKv K B vs l → allK f l = some l' → RpKv K H vs l'
  | _, _, _, .nil, e => by cases e; exact .nil
  | _, _, _, .cons k a b, e => by
    rename_i key v vs d0 d ds
    unfold allK at e
    cases e1 : f d with
    | none => simp [e1] at e
    | some d1 =>
      cases e2 : allK f ds with
      | none => simp [e1, e2] at e
      | some l1 =>
        simp only [e1, e2, Option.some.injEq] at e
        subst e
        exact .cons k (h a e1) (allK_rp h b e2)
theorem deep_rp (s : Sbm B H) (S : Sto K B H st) : ∀ (n : Nat) {v : V} {d d' : D}, Rp K B v d → deepF st n d = some d' → Rp K H v d'
  | 0, _, _, _, _, e => by cases e
  | n + 1, v, d, d', h, e => by
    have ih : ∀ {v : V} {d d' : D}, Rp K B v d → deepF st n d = some d' → Rp K H v d' := fun h e => deep_rp s S n h e
    have flat : (if d.nm = true then some d else none) = some d' → Rp K H v d' := fun e => by
      split at e
      · cases e; exact h.subm s (by assumption)
      · cases e
    cases d with
    | sto k =>
      simp only [deepF] at e
      cases hc : st[k]? with
      | none => rw [hc] at e; cases e
      | some c =>
        rw [hc] at e
        cases h with
        | sto hb =>
          obtain ⟨a', h1, h2⟩ := S.at' k c hc
          obtain rfl := S.inj _ _ _ h1 hb
          cases c with
          | lst l =>
            obtain ⟨xs, g1, g2⟩ := h2
            obtain ⟨l', e1, rfl⟩ := Option.map_eq_some_iff.mp e
            exact .lst g1 (allO_rp ih g2 e1)
          | dct l =>
            obtain ⟨xs, g1, g2⟩ := h2
            obtain ⟨l', e1, rfl⟩ := Option.map_eq_some_iff.mp e
            exact .dct g1 (allK_rp ih g2 e1)
    | lst l =>
      simp only [deepF] at e
      obtain ⟨l', e1, rfl⟩ := Option.map_eq_some_iff.mp e
      cases h with
      | lst g1 g2 => exact .lst (s.get _ _ g1) (allO_rp ih g2 e1)
    | tup l =>
      simp only [deepF] at e
      obtain ⟨l', e1, rfl⟩ := Option.map_eq_some_iff.mp e
      cases h with
      | tup g1 g2 => exact .tup (g1.subm s) (allO_rp ih g2 e1)
    | dct l =>
      simp only [deepF] at e
      obtain ⟨l', e1, rfl⟩ := Option.map_eq_some_iff.mp e
      cases h with
      | dct g1 g2 => exact .dct (s.get _ _ g1) (allK_rp ih g2 e1)
    | non => exact flat e
    | bl _ => exact flat e
    | int _ => exact flat e
    | str _ => exact flat e
    | ty _ => exact flat e
    | scr _ => exact flat e
    | cls _ => exact flat e
    | exc _ _ _ => exact flat e
    | obj _ _ => exact flat e
    | err _ _ => exact flat e
theorem deep_rv {vs : List V} {σ : L2.St} {r : Rho} {v : V} {d d' : D} (R : Rl K vs B σ H r) (n : Nat) (h : RpV K B H v d) (e : deepF r.st (n + 1) d = some d') : Rp K H v d' := by
  have ih : ∀ {v : V} {d d' : D}, Rp K B v d → deepF r.st n d = some d' → Rp K H v d' := fun h e => deep_rp R.sub R.sto n h e
  cases d with
  | lst l =>
    simp only [deepF] at e
    obtain ⟨l', e1, rfl⟩ := Option.map_eq_some_iff.mp e
    obtain ⟨a, xs, rfl, g1, g2⟩ := h
    exact .lst g1 (allO_rp ih g2 e1)
  | dct l =>
    simp only [deepF] at e
    obtain ⟨l', e1, rfl⟩ := Option.map_eq_some_iff.mp e
    obtain ⟨a, xs, rfl, g1, g2⟩ := h
    exact .dct g1 (allK_rp ih g2 e1)
  | sto k => exact deep_rp R.sub R.sto (n + 1) (h : Rp K B v (.sto k)) e
  | tup l => exact deep_rp R.sub R.sto (n + 1) (h : Rp K B v (.tup l)) e
  | non => exact deep_rp R.sub R.sto (n + 1) (h : Rp K B v .non) e
  | bl b => exact deep_rp R.sub R.sto (n + 1) (h : Rp K B v (.bl b)) e
  | int i => exact deep_rp R.sub R.sto (n + 1) (h : Rp K B v (.int i)) e
  | str i => exact deep_rp R.sub R.sto (n + 1) (h : Rp K B v (.str i)) e
  | ty i => exact deep_rp R.sub R.sto (n + 1) (h : Rp K B v (.ty i)) e
  | scr i => exact deep_rp R.sub R.sto (n + 1) (h : Rp K B v (.scr i)) e
  | cls i => exact deep_rp R.sub R.sto (n + 1) (h : Rp K B v (.cls i)) e
  | exc i j k => exact deep_rp R.sub R.sto (n + 1) (h : Rp K B v (.exc i j k)) e
  | obj i j => exact deep_rp R.sub R.sto (n + 1) (h : Rp K B v (.obj i j)) e
  | err i j => exact deep_rp R.sub R.sto (n + 1) (h : Rp K B v (.err i j)) e
end
def deepFuel : Nat := 24
def M.deep (d : D) : M D := fun r => match r.st with
  | [] => .ok d r
  | _ :: _ => match deepF r.st deepFuel d with
    | some d' => .ok d' r
    | none => .fail
/-- repr(e), through the store -/
def cReprS (fe : M W) : M W := M.bind fe fun w => M.bind (M.view w) fun d => M.bind (M.deep d) fun d => M.give (gRepr [d])
theorem Post.deep {vs : List V} {Wx : WX} {B0 H0 B H : Hp} {σ : L2.St} {r0 r : Rho} {γ δ : Type} {rel : Hp → Hp → Rho → δ → γ → Prop} {d : D} {f : D → M γ} {Q : δ → Hp → Prop} {v : V} (R : Rl X.K vs B σ H r) (hv : RpV X.K B H v d) (h : Post X vs Wx B0 H0 σ r0 (M.bind (M.deep d) f r) rel Q) :
    ∃ d', (d'.nm = true → Rp X.K H v d') ∧ Post X vs Wx B0 H0 σ r0 (f d' r) rel Q := by
  cases es : r.st with
  | nil =>
    simp only [M.bind, M.deep, es] at h
    exact ⟨d, fun q => hv.whole R.sub q, h⟩
  | cons c st =>
    simp only [M.bind, M.deep, es] at h
    cases ed : deepF (c :: st) deepFuel d with
    | none => rw [ed] at h; exact h.elim
    | some d' =>
      rw [ed] at h
      exact ⟨d', fun _ => deep_rv R 23 hv (by rw [es]; exact ed), h⟩
theorem de_reprS {p : Pos} (hc : CallR X (.builtin "repr") (rRepr X.K)) (hg : Gl X "repr") (hm : X.mg "repr" = none) (he : DE X e fe)
    (hs : starEach [e] X.env = (false, eval e X.env) :: starEach [] X.env) (hpl : (backTo pos (starEach [] X.env)).any (·.1) = false) : DE X (.Call (.Name "repr" p) [e] [] pos) (cReprS fe) := by
  refine ⟨fun Wx tk => ?_⟩
  obtain ⟨t, pt, qt⟩ := he.run Wx tk
  refine ⟨_, pe_callB hc hg hm (by decide +kernel) (pa_cons pt pa_nil hs) (by decide) (by decide) hs hpl, fun vs B σ H r Q R h => qt vs B σ H r _ R (Post.bind0 h fun x w B1 H1 r1 s1 R1 q1 h1 => ?_)⟩
  obtain ⟨d, vd, _, h2⟩ := Post.view R1 q1 h1
  obtain ⟨d', vd', h3⟩ := Post.deep R1 vd h2
  simp only [gRepr] at h3
  split at h3
  · rename_i hd
    exact ⟨x, d', rfl, vd' (D.shw_nm _ (rok_shw hd)), hd, h3 (.str _) B1 H1 s1 R1 (Rp.str _)⟩
  · exact h3.elim
end
end Lc

set_option Elab.async false
set_option maxRecDepth 100000
set_option maxHeartbeats 4000000
/-! x in a list or tuple of flat things; comprehensions with tests, of two clauses; what simp computes of the newer combinators. -/
namespace Lc
open PySem L2 PySem.Spec PyProof.Rows He
def inD (d : D) (l : List D) : Bool := l.any fun y => eqD y d
def gIn2 : D → D → Option Bo
  | .str x, .str y => gIn (.str x) (.str y)
  | d, .lst l => if (flatD d && l.all flatD) = true then bD (inD d l) else none
  | d, .tup l => if (flatD d && l.all flatD) = true then bD (inD d l) else none
  | _, _ => none
def gNotIn2 : D → D → Option Bo
  | .str x, .str y => gNotIn (.str x) (.str y)
  | d, .lst l => if (flatD d && l.all flatD) = true then bD (!inD d l) else none
  | d, .tup l => if (flatD d && l.all flatD) = true then bD (!inD d l) else none
  | _, _ => none
section
variable {X : Cx}
theorem inV_map {d : D} {l : List D} : inV (vOf d) (l.map vOf) = inD d l := by
  unfold inV inD
  rw [List.any_map]
  rfl
theorem ops_in2 : OpS X (compareOp .In) gIn2 := by
  obtain ⟨rr, h1, h2⟩ := ops_in (X := X)
  refine ⟨_, h1.or op_in_seq, fun x y da db b e B H Q s vx vy k => ?_⟩
  unfold gIn2 at e
  split at e
  · exact .inl (h2 x y _ _ b e B H Q s vx vy k)
  · rename_i d l _
    split at e
    · rename_i hf
      obtain ⟨f1, f2⟩ := ba hf
      cases e
      obtain ⟨a, xs, rfl, hH, hr⟩ := vy
      obtain ⟨rfl, fx⟩ := rv_flat vx f1
      obtain ⟨rfl, fl⟩ := flat_vs hr f2
      refine .inr ⟨a, _, rfl, .inl (.of hH), fx, fl, ?_⟩
      rw [inV_map]
      exact k _ B H .refl s (Rp.bl _)
    · cases e
  · rename_i d l _
    split at e
    · rename_i hf
      obtain ⟨f1, f2⟩ := ba hf
      cases e
      obtain ⟨a, xs, rfl, hH, hr⟩ := rv_tup vy
      obtain ⟨rfl, fx⟩ := rv_flat vx f1
      obtain ⟨rfl, fl⟩ := flat_vs hr f2
      refine .inr ⟨a, _, rfl, .inr (seqT_mono s hH), fx, fl, ?_⟩
      rw [inV_map]
      exact k _ B H .refl s (Rp.bl _)
    · cases e
  · cases e
theorem ops_notIn2 : OpS X (compareOp .NotIn) gNotIn2 := by
  obtain ⟨rr, h1, h2⟩ := ops_notIn (X := X)
  refine ⟨_, h1.or op_notIn_seq, fun x y da db b e B H Q s vx vy k => ?_⟩
  unfold gNotIn2 at e
  split at e
  · exact .inl (h2 x y _ _ b e B H Q s vx vy k)
  · rename_i d l _
    split at e
    · rename_i hf
      obtain ⟨f1, f2⟩ := ba hf
      cases e
      obtain ⟨a, xs, rfl, hH, hr⟩ := vy
      obtain ⟨rfl, fx⟩ := rv_flat vx f1
      obtain ⟨rfl, fl⟩ := flat_vs hr f2
      refine .inr ⟨a, _, rfl, .inl (.of hH), fx, fl, ?_⟩
      rw [if_pos rfl, inV_map]
      exact k _ B H .refl s (Rp.bl _)
    · cases e
  · rename_i d l _
    split at e
    · rename_i hf
      obtain ⟨f1, f2⟩ := ba hf
      cases e
      obtain ⟨a, xs, rfl, hH, hr⟩ := rv_tup vy
      obtain ⟨rfl, fx⟩ := rv_flat vx f1
      obtain ⟨rfl, fl⟩ := flat_vs hr f2
      refine .inr ⟨a, _, rfl, .inr (seqT_mono s hH), fx, fl, ?_⟩
      rw [if_pos rfl, inV_map]
      exact k _ B H .refl s (Rp.bl _)
    · cases e
  · cases e
end
/-! ### comprehensions whose frame stays -/
section
variable {own vs1 : List Nat} {T T1 : W → M Unit} {tt tt1 : M Bool} {fe : M W} {r r1 : Rho} {fi fi1 : M (List D)}
theorem lc_filter (P : D → Bool) (G : D → D) : ∀ (ds acc : List D), acc.length + ds.length ≤ sizeLine →
    (∀ d ∈ ds, ∃ r1 r2, T (.dt d) r = .ok () r1 ∧ tt r1 = .ok (P d) r2 ∧ (P d = false → r2.wipe own = r) ∧ (P d = true → ∃ w r3 r4, fe r2 = .ok w r3 ∧ w.frz r3 = .ok (G d) r4 ∧ r4.wipe own = r)) →
    lcLoop own T tt fe ds acc r = .ok (acc ++ (ds.filter P).map G) r
  | [], acc, _, _ => by rw [List.filter_nil, List.map_nil, List.append_nil]; rfl
  | d :: ds, acc, hl, k => by
    obtain ⟨r1, r2, e1, e2, h3, h4⟩ := k d List.mem_cons_self
    rw [List.length_cons] at hl
    have ih := fun acc h => lc_filter P G ds acc h fun x hx => k x (List.mem_cons_of_mem _ hx)
    cases hp : P d with
    | false =>
      rw [hp] at e2
      simp only [lcLoop, e1, e2, h3 hp]
      rw [ih acc (by omega), List.filter_cons, hp]
      rfl
    | true =>
      rw [hp] at e2
      obtain ⟨w, r3, r4, e3, e4, h5⟩ := h4 hp
      have hlt : acc.length < sizeLine := by omega
      simp only [lcLoop, e1, e2, e3, e4, if_pos hlt, h5]
      rw [ih (acc ++ [G d]) (by rw [List.length_append, List.length_singleton]; omega), List.filter_cons, hp, if_pos rfl, List.map_cons, List.append_assoc, List.singleton_append]
theorem cLc_filter {ds : List D} (hi : fi r = .ok ds r1) (hno : r1.noOwn own = true) (P : D → Bool) (G : D → D) (hl : ds.length ≤ sizeLine)
    (k : ∀ d ∈ ds, ∃ r2 r3, T (.dt d) (r1.wipe own) = .ok () r2 ∧ tt r2 = .ok (P d) r3 ∧ (P d = false → r3.wipe own = r1.wipe own) ∧ (P d = true → ∃ w r4 r5, fe r3 = .ok w r4 ∧ w.frz r4 = .ok (G d) r5 ∧ r5.wipe own = r1.wipe own)) :
    cLc fi own T tt fe r = .ok (.fresh (.lst ((ds.filter P).map G))) (r1.back (r1.wipe own) own) := by
  have e := lc_filter (own := own) (T := T) (tt := tt) (fe := fe) (r := r1.wipe own) P G ds [] (by simpa using hl) k
  rw [List.nil_append] at e
  simp only [cLc, M.bind, hi, if_pos hno, e]
/-- two clauses without tests: the items of the second are handed on -/
theorem lc2_map (L : D → List D) : ∀ (ds acc : List D), acc.length + (ds.map L).flatten.length ≤ sizeLine →
    (∀ d ∈ ds, ∃ r1 r3, T (.dt d) r = .ok () r1 ∧ fi1 r1 = .ok (L d) r3 ∧ (r3.wipe vs1).wipe own = r ∧ ∀ x ∈ L d, ∃ r4 w r5 r6, T1 (.dt x) (r3.wipe vs1) = .ok () r4 ∧ fe r4 = .ok w r5 ∧ w.frz r5 = .ok x r6 ∧ r6.wipe vs1 = r3.wipe vs1) →
    lc2Loop own vs1 T (M.ret true) fi1 T1 (M.ret true) fe ds acc r = .ok (acc ++ (ds.map L).flatten) r
  | [], acc, _, _ => by rw [List.map_nil, List.flatten_nil, List.append_nil]; rfl
  | d :: ds, acc, hl, k => by
    obtain ⟨r1, r3, e1, e2, h3, h4⟩ := k d List.mem_cons_self
    rw [List.map_cons, List.flatten_cons, List.length_append] at hl
    have e5 := lc_map (own := vs1) (T := T1) (fe := fe) (r := r3.wipe vs1) (fun x => x) (L d) acc (by omega) h4
    rw [List.map_id'] at e5
    simp only [lc2Loop, e1, M.ret, e2, e5, h3]
    rw [lc2_map L ds (acc ++ L d) (by rw [List.length_append]; omega) fun x hx => k x (List.mem_cons_of_mem _ hx), List.map_cons, List.flatten_cons, List.append_assoc]
theorem cLc2_map {ds : List D} (hi : fi r = .ok ds r1) (hno : r1.noOwn own = true) (L : D → List D) (hl : (ds.map L).flatten.length ≤ sizeLine)
    (k : ∀ d ∈ ds, ∃ r2 r3, T (.dt d) (r1.wipe own) = .ok () r2 ∧ fi1 r2 = .ok (L d) r3 ∧ (r3.wipe vs1).wipe own = r1.wipe own ∧ ∀ x ∈ L d, ∃ r4 w r5 r6, T1 (.dt x) (r3.wipe vs1) = .ok () r4 ∧ fe r4 = .ok w r5 ∧ w.frz r5 = .ok x r6 ∧ r6.wipe vs1 = r3.wipe vs1) :
    cLc2 fi own vs1 T (M.ret true) fi1 T1 (M.ret true) fe r = .ok (.fresh (.lst (ds.map L).flatten)) (r1.back (r1.wipe own) own) := by
  have e := lc2_map (own := own) (vs1 := vs1) (T := T) (fi1 := fi1) (T1 := T1) (fe := fe) (r := r1.wipe own) L ds [] (by simpa using hl) k
  rw [List.nil_append] at e
  simp only [cLc2, M.bind, hi, if_pos hno, e]
end
/-! ### for simp -/
section
variable {r : Rho} {fo fe fa : M W} {fs : M (List W)} {l : List (Option Sl)} {b : List Bo} {s0 : List Cn}
@[simp] theorem q_toSf {c : Cn} : W.toS (.fresh c) r = .ok (.dt (.sto r.st.length)) (r.news c) := rfl
@[simp] theorem q_toSd {d : D} : W.toS (.dt d) r = .ok (.dt d) r := rfl
@[simp] theorem q_news {c : Cn} : Rho.news ⟨l, b, s0⟩ c = ⟨l, b, s0 ++ [c]⟩ := rfl
@[simp] theorem q_sets {k : Nat} {c : Cn} : Rho.sets ⟨l, b, s0⟩ k c = ⟨l, b, s0.set k c⟩ := rfl
@[simp] theorem q_sto : cSto fa = M.bind fa W.toS := rfl
@[simp] theorem q_isS {k : Nat} : M.isS (.dt (.sto k)) r = (match r.st[k]? with | some (.lst _) => .ok k r | _ => .fail) := rfl
@[simp] theorem q_appS : cAppS fo fe = M.bind fo fun wo => M.bind (M.isS wo) fun k => M.bind fe fun we => M.bind we.frz fun d => fun r => match r.st[k]? with
  | some (.lst l) => if l.length < sizeLine then .ok (.dt .non) (r.sets k (.lst (l ++ [d]))) else .fail
  | _ => .fail := rfl
@[simp] theorem q_isL {z : Ix} : M.isL (.cel z) r = (match r.cnt z with | some (.lst _) => .ok () r | _ => .fail) := rfl
@[simp] theorem q_app : cApp fo fe = M.bind fo fun wo => M.bind (M.isL wo) fun _ => M.bind fe fun we => M.bind we.frz fun d => fun r => match wo with
  | .cel z => match r.cnt z with
    | some (.lst l) => if l.length < sizeLine then .ok (.dt .non) (r.setc (.lst (l ++ [d])) z) else .fail
    | _ => .fail
  | _ => .fail := rfl
@[simp] theorem q_deep0 {d : D} : M.deep d ⟨l, b, []⟩ = .ok d ⟨l, b, []⟩ := rfl
@[simp] theorem q_deepc {d : D} {c : Cn} : M.deep d ⟨l, b, c :: s0⟩ = (match deepF (c :: s0) deepFuel d with | some d' => .ok d' ⟨l, b, c :: s0⟩ | none => .fail) := rfl
@[simp] theorem q_reprS : cReprS fe = M.bind fe fun w => M.bind (M.view w) fun d => M.bind (M.deep d) fun d => M.give (gRepr [d]) := rfl
@[simp] theorem q_callS {n : Nat} {F : FnS} : cCallS n F fs = M.bind fs fun ws => M.bind (frzAll (ws.drop n)) fun ds => M.bind (M.chk (decide (ds.length ≤ sizeLine ∧ n ≤ ws.length))) fun _ => cCallT (starF F ds) (M.ret (ws.take n)) := rfl
@[simp] theorem q_starF {F : FnS} {ds : List D} {as : List Bo} {st : List Cn} : starF F ds as st = (match F (as ++ [.dt (.tup ds)]) st with
  | .ok b bs s1 => .ok b bs.dropLast s1
  | .exc x bs s1 => .exc x bs.dropLast s1
  | .fail => .fail) := rfl
@[simp] theorem q_star : cStar fe fs = M.bind fe fun w => M.bind (M.view w) fun d => M.bind (M.opt d.seq) fun ds => M.bind fs fun ws => M.ret (ds.map W.dt ++ ws) := rfl
@[simp] theorem q_seqL {x : List D} : D.seq (.lst x) = some x := rfl
@[simp] theorem q_seqT {x : List D} : D.seq (.tup x) = some x := rfl
@[simp] theorem q_ml {g : List D → D → Option Bo} : cML g fo fe = M.bind fo fun wo => M.bind (M.view wo) fun dl => M.bind (M.opt (match dl with | .lst l => some l | _ => none)) fun l0 => M.bind fe fun we => M.bind (M.view wo) fun dl => M.bind (M.opt (match dl with | .lst l => some l | _ => none)) fun l => M.bind (M.view we) fun d => M.give (g l d) := rfl
@[simp] theorem q_isi2t {t : List (Str × List Str)} {i : IsaT} {d : D} {x : List D} : gIsi2 t i [.tup x, d] = gIsi [.tup x, d] := rfl
@[simp] theorem q_isi2l {t : List (Str × List Str)} {i : IsaT} {d : D} {x : List D} : gIsi2 t i [.lst x, d] = gIsi [.lst x, d] := rfl
@[simp] theorem q_isi2s {t : List (Str × List Str)} {i : IsaT} {d : D} {x : Str} : gIsi2 t i [.str x, d] = gIsi [.str x, d] := rfl
@[simp] theorem q_isi2i {t : List (Str × List Str)} {i : IsaT} {d : D} {x : Int} : gIsi2 t i [.int x, d] = gIsi [.int x, d] := rfl
@[simp] theorem q_isi2b {t : List (Str × List Str)} {i : IsaT} {d : D} {x : Bool} : gIsi2 t i [.bl x, d] = gIsi [.bl x, d] := rfl
@[simp] theorem q_isi2n {t : List (Str × List Str)} {i : IsaT} {d : D} : gIsi2 t i [.non, d] = gIsi [.non, d] := rfl
@[simp] theorem q_isi2d {t : List (Str × List Str)} {i : IsaT} {d : D} {x : List (D × D)} : gIsi2 t i [.dct x, d] = gIsi [.dct x, d] := rfl
@[simp] theorem q_isi2o {t : List (Str × List Str)} {i : IsaT} {d : D} {c : Str} {fs : List (Str × D)} : gIsi2 t i [.obj c fs, d] = gIsi [.obj c fs, d] := rfl
end
end Lc

set_option Elab.async false
set_option maxRecDepth 100000
set_option maxHeartbeats 4000000
/-! l == [], l != []; str(x), int(x). -/
namespace Lc
open PySem L2 PySem.Spec PyProof.Rows He
section
variable {X : Cx}
/-- a list against an empty one -/
def rNil (K : PySem.W.Frag) (neg : Bool) : R2 := fun x y H Q => ∃ p q xs, x = .ref p ∧ y = .ref q ∧ SqL K H p xs ∧ SqL K H q [] ∧ Q (.bl (if neg then !xs.isEmpty else xs.isEmpty)) H
theorem op_neNil (hu : X.A.units + 64 < cLine) : OpR X (compareOp .NotEq) (rNil X.K true) := by
  intro pins s σ H x y v u Q I rx ry h
  obtain ⟨p, q, xs, rfl, rfl, h1, h2, hq⟩ := h
  cases rx; cases ry
  obtain ⟨i1, r1, l1, _⟩ := I.list h1
  obtain ⟨i2, r2, l2, _⟩ := I.list h2
  cases r2
  cases xs with
  | nil =>
    cases r1
    exact SeqAt.RcNeAt.lists (e := fun _ => true) l1.isList l2.isList rfl (by omega) (fun j h => by simp at h) _ _ _ _ ⟨.bl _, H, I, rfl, by simpa using hq⟩
  | cons z zs =>
    cases r1 with
    | cons a b => exact SeqAt.RcNeAt.lists_lengths l1.isList l2.isList (by simp) (by omega) _ _ _ _ ⟨.bl _, H, I, rfl, hq⟩
theorem op_eqNil (hu : X.A.units + 64 < cLine) : OpR X (compareOp .Eq) (rNil X.K false) := by
  intro pins s σ H x y v u Q I rx ry h
  obtain ⟨p, q, xs, rfl, rfl, h1, h2, hq⟩ := h
  cases rx; cases ry
  obtain ⟨i1, r1, l1, _⟩ := I.list h1
  obtain ⟨i2, r2, l2, _⟩ := I.list h2
  cases r2
  cases xs with
  | nil =>
    cases r1
    exact SeqAt.RcAt.lists (e := fun _ => true) l1.isList l2.isList rfl (by omega) (fun j h => by simp at h) _ _ _ _ ⟨.bl _, H, I, rfl, by simpa using hq⟩
  | cons z zs =>
    cases r1 with
    | cons a b => exact SeqAt.RcAt.lists_lengths l1.isList l2.isList (by simp) (by omega) _ _ _ _ ⟨.bl _, H, I, rfl, hq⟩
def gEq2 : D → D → Option Bo
  | .lst l, .lst [] => bD l.isEmpty
  | a, b => gEq a b
def gNe2 : D → D → Option Bo
  | .lst l, .lst [] => bD (!l.isEmpty)
  | a, b => gNe a b
theorem ops_eq2 (hu : X.A.units + 64 < cLine) : OpS X (compareOp .Eq) gEq2 := by
  obtain ⟨rr, h1, h2⟩ := ops_eq (X := X) hu
  refine ⟨_, h1.or (op_eqNil hu), fun x y da db b e B H Q s vx vy k => ?_⟩
  unfold gEq2 at e
  split at e
  · cases e
    obtain ⟨a, xs, rfl, h3, h4⟩ := vx
    obtain ⟨a', xs', rfl, h5, h6⟩ := vy
    cases h6
    refine .inr ⟨a, a', xs, rfl, rfl, .of h3, .of h5, ?_⟩
    rw [if_neg Bool.false_ne_true, emp_len h4.length]
    exact k _ B H .refl s (Rp.bl _)
  · exact .inl (h2 x y _ _ b e B H Q s vx vy k)
theorem ops_ne2 (hu : X.A.units + 64 < cLine) : OpS X (compareOp .NotEq) gNe2 := by
  obtain ⟨rr, h1, h2⟩ := ops_ne (X := X) hu
  refine ⟨_, h1.or (op_neNil hu), fun x y da db b e B H Q s vx vy k => ?_⟩
  unfold gNe2 at e
  split at e
  · cases e
    obtain ⟨a, xs, rfl, h3, h4⟩ := vx
    obtain ⟨a', xs', rfl, h5, h6⟩ := vy
    cases h6
    refine .inr ⟨a, a', xs, rfl, rfl, .of h3, .of h5, ?_⟩
    rw [if_pos rfl, emp_len h4.length]
    exact k _ B H .refl s (Rp.bl _)
  · exact .inl (h2 x y _ _ b e B H Q s vx vy k)
/-! ### str(x), int(x) -/
def gStr : List D → Option Bo
  | [.str x] => sD x
  | [.int i] => if i.natAbs.log2 < 1920 then sD (Str.ofString (toString i)) else none
  | _ => none
theorem call_strA : CallR X (.type "str") (fun xs H Q => (∃ a, xs = [.str a] ∧ Q (.str a) H) ∨ ∃ i, xs = [.int i] ∧ i.natAbs.log2 < 1920 ∧ Q (.str (toString i)) H) := (SkE.call_str_str (X := X)).or call_str_int
theorem cs_str : CallS X (fun xs H Q => (∃ a, xs = [.str a] ∧ Q (.str a) H) ∨ ∃ i, xs = [.int i] ∧ i.natAbs.log2 < 1920 ∧ Q (.str (toString i)) H) gStr := by
  intro xs ds b e B H Q s vs k
  unfold gStr at e
  split at e
  · cases e
    obtain ⟨x, rfl, hx⟩ := rvs_one vs
    exact .inl ⟨_, by rw [rv_str hx], k _ B H .refl s (Rp.str _)⟩
  · split at e
    · cases e
      obtain ⟨x, rfl, hx⟩ := rvs_one vs
      exact .inr ⟨_, by rw [rv_int hx], by assumption, k _ B H .refl s (Rp.str _)⟩
    · cases e
  · cases e
def gInt : List D → Option Bo
  | [.str x] => if x.length ≤ 640 then (PySem.intText? x).bind iD else none
  | _ => none
theorem cs_int : CallS X (fun xs H Q => ∃ a n, xs = [.str a] ∧ PySem.intText? a = some n ∧ a.length ≤ 640 ∧ Q (.int n) H) gInt := by
  intro xs ds b e B H Q s vs k
  unfold gInt at e
  split at e
  · split at e
    · rename_i x hl
      obtain ⟨n, e1, e2⟩ := Option.bind_eq_some_iff.mp e
      cases e2
      obtain ⟨v, rfl, hx⟩ := rvs_one vs
      exact ⟨_, n, by rw [rv_str hx], e1, hl, k _ B H .refl s (Rp.int _)⟩
    · cases e
  · cases e
end
/-! ### for simp -/
@[simp] theorem q_eq2n {l : List D} : gEq2 (.lst l) (.lst []) = bD l.isEmpty := rfl
@[simp] theorem q_ne2n {l : List D} : gNe2 (.lst l) (.lst []) = bD (!l.isEmpty) := rfl
@[simp] theorem q_eq2i {i j : Int} : gEq2 (.int i) (.int j) = bD (i == j) := rfl
@[simp] theorem q_ne2i {i j : Int} : gNe2 (.int i) (.int j) = bD (!(i == j)) := rfl
@[simp] theorem q_eq2s {i j : Str} : gEq2 (.str i) (.str j) = bD (i == j) := rfl
@[simp] theorem q_ne2s {i j : Str} : gNe2 (.str i) (.str j) = bD (!(i == j)) := rfl
end Lc

set_option Elab.async false
set_option maxRecDepth 100000
set_option maxHeartbeats 4000000
/-! Plain data: levels, size, how it is shown. -/
namespace Lc
open PySem L2
/-- data that may be judged, at most n levels -/
def Th : Nat → D → Prop
  | 0, _ => False
  | n + 1, d => match d with
    | .non => True
    | .bl _ => True
    | .int i => i.natAbs < 2 ^ 200
    | .str x => Wd 30 x
    | .tup l => l.length ≤ 20000 ∧ ∀ x ∈ l, Th n x
    | .lst l => l.length ≤ 20000 ∧ ∀ x ∈ l, Th n x
    | .dct l => l = []
    | _ => False
mutual
/-- data of at most n levels and size s -/
inductive Gd : Nat → Nat → D → Prop
  | non {n s : Nat} : Gd (n + 1) (s + 1) .non
  | bl {n s : Nat} (b : Bool) : Gd (n + 1) (s + 1) (.bl b)
  | int {n s : Nat} {i : Int} : i.natAbs < 2 ^ 200 → Gd (n + 1) (s + 1) (.int i)
  | str {n s : Nat} {x : Str} : Wd 30 x → Gd (n + 1) (s + 1) (.str x)
  | dct {n s : Nat} : Gd (n + 1) (s + 1) (.dct [])
  | tup {n s : Nat} {l : List D} : GdL n s l → Gd (n + 1) (s + 1) (.tup l)
  | lst {n s : Nat} {l : List D} : GdL n s l → Gd (n + 1) (s + 1) (.lst l)
inductive GdL : Nat → Nat → List D → Prop
  | nil {n s : Nat} : GdL n s []
  | cons {n s1 s2 s : Nat} {d : D} {l : List D} : Gd n s1 d → GdL n s2 l → s1 + s2 ≤ s → GdL n s (d :: l)
end
theorem Gd.pos {n s : Nat} {d : D} (h : Gd n s d) : 1 ≤ s := by
  cases h <;> omega
theorem GdL.len {n s : Nat} {l : List D} (h : GdL n s l) : l.length ≤ s := by
  induction l generalizing s with
  | nil => exact Nat.zero_le _
  | cons d l ih =>
    cases h with
    | cons a b c =>
      have := ih b
      have := a.pos
      rw [List.length_cons]
      omega
mutual
theorem Gd.mono {n s m t : Nat} {d : D} (h : Gd n s d) (hn : n ≤ m) (hs : s ≤ t) : Gd m t d := by
  obtain ⟨m', rfl⟩ : ∃ m', m = m' + 1 := by cases h <;> exact ⟨m - 1, by omega⟩
  obtain ⟨t', rfl⟩ : ∃ t', t = t' + 1 := by cases h <;> exact ⟨t - 1, by omega⟩
  cases h with
  | non => exact .non
  | bl b => exact .bl b
  | int h => exact .int h
  | str h => exact .str h
  | dct => exact .dct
  | tup h => exact .tup (h.mono (by omega) (by omega))
  | lst h => exact .lst (h.mono (by omega) (by omega))
theorem GdL.mono {n s m t : Nat} {l : List D} (h : GdL n s l) (hn : n ≤ m) (hs : s ≤ t) : GdL m t l := by
  cases h with
  | nil => exact .nil
  | cons a b c => exact .cons (a.mono hn (Nat.le_refl _)) (b.mono hn (Nat.le_refl _)) (Nat.le_trans c hs)
end
theorem join_len : ∀ ts : List Str, (Str.join ", " ts).length ≤ (ts.map (·.length)).sum + 2 * ts.length
  | [] => by show (0 : Nat) ≤ _; omega
  | [x] => by simp [Str.join]
  | x :: y :: r => by
    show (x ++ ", " ++ Str.join ", " (y :: r)).length ≤ _
    have := join_len (y :: r)
    have e : (Str.ofString ", ").length = 2 := by decide
    rw [Str.length_append, Str.length_append, e]
    simp only [List.map_cons, List.sum_cons, List.length_cons] at this ⊢
    omega
theorem tup_len (ts : List Str) : (tupleText ts).length ≤ (ts.map (·.length)).sum + 2 * ts.length + 3 := by
  unfold tupleText
  have := join_len ts
  have e : (Str.ofString "(").length = 1 := by decide
  have e2 : (Str.ofString ",)").length = 2 := by decide
  have e3 : (Str.ofString ")").length = 1 := by decide
  rw [Str.length_append, Str.length_append, e]
  split <;> omega
theorem shownAll_len : ∀ l : List PyData, (PyData.shownAll l).length = l.length
  | [] => by rw [PyData.shownAll]; rfl
  | d :: l => by rw [PyData.shownAll, List.length_cons, List.length_cons, shownAll_len l]
theorem pys_len : ∀ l : List D, (D.pys l).length = l.length
  | [] => by rw [D.pys]; rfl
  | d :: l => by rw [D.pys, List.length_cons, List.length_cons, pys_len l]
structure TH (n s : Nat) (d : D) : Prop where
  th : Th n d
  okc : okP d.py
  shw : d.shw = true
  sho : d.py.showable = true
  dep : d.py.depth ≤ n
  len : d.py.shown.length + 10 ≤ 400 * s
mutual
theorem Gd.all : ∀ {n s : Nat} {d : D}, Gd n s d → s ≤ 20000 → TH n s d
  | _, _, _, .non, _ => ⟨trivial, by simp [D.py, okP], by simp [D.shw], by simp [D.py, PyData.showable], by simp [D.py, PyData.depth], by
      have : (PyData.shown .none).length = 4 := by decide +kernel
      rw [D.py, this]; omega⟩
  | _, _, _, .bl b, _ => ⟨trivial, by simp [D.py, okP], by simp [D.shw], by simp [D.py, PyData.showable], by simp [D.py, PyData.depth], by
      have : (PyData.shown (.bool b)).length ≤ 5 := by cases b <;> decide +kernel
      rw [D.py]; omega⟩
  | _, _, _, .int (i := i) h, _ => ⟨h, by simp [D.py, okP], by simp [D.shw], by
      have := log_lt h (by decide)
      simp only [D.py, PyData.showable, decide_eq_true_eq]; omega, by simp [D.py, PyData.depth], by
      have := int_text_length_le (k := 200) (by decide) (log_lt h (by decide))
      rw [D.py, PyData.shown]
      have e : (Str.ofString (toString i)).length = (toString i).length := ofString_length _
      rw [e]; omega⟩
  | _, _, _, .str h, _ => ⟨h, by rw [D.py, okP]; exact h.low, by simp [D.shw], by simp [D.py, PyData.showable], by simp [D.py, PyData.depth], by
      have := repr_len h
      rw [D.py, PyData.shown]; omega⟩
  | _, _, _, .dct, _ => ⟨rfl, by simp [D.py, D.pyk, okP], by simp [D.shw, D.shwk], by simp [D.py, D.pyk, PyData.showable, PyData.showableKv], by simp [D.py, D.pyk, PyData.depth, PyData.depthKv], by
      have : (PyData.shown (.dict [])).length = 2 := by decide +kernel
      rw [D.py, D.pyk, this]; omega⟩
  | _, _, _, .tup (l := l) h, hs => by
    obtain ⟨h1, h2, h3, h4, h5, h6⟩ := h.all (by omega)
    have hl := h.len
    refine ⟨⟨by omega, h1⟩, by rw [D.py, okP]; exact h2, by rw [D.shw]; exact h3, by rw [D.py, PyData.showable]; exact h4, by rw [D.py, PyData.depth]; omega, ?_⟩
    rw [D.py, PyData.shown]
    have := tup_len (PyData.shownAll (D.pys l))
    rw [shownAll_len, pys_len] at this
    omega
  | _, _, _, .lst (l := l) h, hs => by
    obtain ⟨h1, h2, h3, h4, h5, h6⟩ := h.all (by omega)
    have hl := h.len
    refine ⟨⟨by omega, h1⟩, by rw [D.py, okP]; exact h2, by rw [D.shw]; exact h3, by rw [D.py, PyData.showable]; exact h4, by rw [D.py, PyData.depth]; omega, ?_⟩
    rw [D.py, PyData.shown]
    have := listText_len_le (PyData.shownAll (D.pys l))
    rw [shownAll_len, pys_len] at this
    omega
theorem GdL.all : ∀ {n s : Nat} {l : List D}, GdL n s l → s ≤ 20000 → (∀ x ∈ l, Th n x) ∧ okPs (D.pys l) ∧ D.shws l = true ∧ PyData.showableAll (D.pys l) = true ∧ PyData.depthAll (D.pys l) ≤ n ∧ ((PyData.shownAll (D.pys l)).map (·.length)).sum + 10 * l.length ≤ 400 * s
  | _, _, _, .nil, _ => by
    refine ⟨fun x hx => absurd hx (by simp), by simp [D.pys, okPs], by simp [D.shws], by simp [D.pys, PyData.showableAll], by simp [D.pys, PyData.depthAll], by simp [D.pys, PyData.shownAll]⟩
  | _, _, _, .cons (d := d) (l := l) a b c, hs => by
    have A := a.all (by omega)
    obtain ⟨h1, h2, h3, h4, h5, h6⟩ := b.all (by omega)
    have hp := a.pos
    refine ⟨fun x hx => ?_, ?_, ?_, ?_, ?_, ?_⟩
    · rcases List.mem_cons.mp hx with rfl | hx
      · exact A.th
      · exact h1 x hx
    · rw [D.pys, okPs]; exact ⟨A.okc, h2⟩
    · rw [D.shws, A.shw, h3]; rfl
    · rw [D.pys, PyData.showableAll, A.sho, h4]; rfl
    · rw [D.pys, PyData.depthAll]; exact Nat.max_le.mpr ⟨A.dep, h5⟩
    · rw [D.pys, PyData.shownAll, List.map_cons, List.sum_cons, List.length_cons]
      have := A.len
      omega
end
theorem Gd.nm {n s : Nat} {d : D} (h : Gd n s d) (hs : s ≤ 20000) : d.nm = true := D.shw_nm _ (h.all hs).shw
theorem GdL.nm {n s : Nat} {l : List D} (h : GdL n s l) (hs : s ≤ 20000) : D.nms l = true := D.shws_nm _ (h.all hs).2.2.1
theorem Gd.rok {n s : Nat} {d : D} (h : Gd n s d) (hn : n ≤ 64) (hs : s ≤ 20000) : d.rok = true := by
  have T := h.all hs
  have h1 := T.len
  have h2 := T.dep
  simp only [D.rok, D.shown, T.shw, T.sho, q_size, Bool.and_eq_true, decide_eq_true_eq, true_and]
  omega
theorem GdL.drop {n s : Nat} : ∀ {l : List D} (k : Nat), GdL n s l → GdL n s (l.drop k)
  | [], _, h => by simpa using h
  | _ :: _, 0, h => h
  | _ :: l, k + 1, .cons a b c => (b.mono (Nat.le_refl _) (by omega)).drop k
end Lc

set_option Elab.async false
set_option maxRecDepth 100000
set_option maxHeartbeats 4000000
/-! Loops with a count. -/
namespace Lc
open PySem L2
theorem loopL_ix {T : W → M Unit} {body : M Fl} (I : Nat → Rho → Prop) : ∀ (ds : List D) (k : Nat) (r : Rho), I k r → (∀ i d, ds[i]? = some d → ∀ r, I (k + i) r → ∃ r1 r2, T (.dt d) r = .ok () r1 ∧ body r1 = .ok .next r2 ∧ I (k + i + 1) r2) → ∃ r', loopL T body ds r = .ok .next r' ∧ I (k + ds.length) r'
  | [], k, r, h, _ => ⟨r, rfl, h⟩
  | d :: ds, k, r, h, f => by
    obtain ⟨r1, r2, e1, e2, h2⟩ := f 0 d rfl r h
    obtain ⟨r', e3, h3⟩ := loopL_ix I ds (k + 1) r2 h2 fun i x hx r hr => by
      have := f (i + 1) x (by simpa using hx) r (by rw [show k + (i + 1) = k + 1 + i by omega]; exact hr)
      rw [show k + (i + 1) + 1 = k + 1 + i + 1 by omega] at this
      exact this
    refine ⟨r', by simp only [loopL, e1, e2, e3], ?_⟩
    rw [List.length_cons, show k + (ds.length + 1) = k + 1 + ds.length by omega]
    exact h3
theorem cFor_ix {fi : M (List D)} {T : W → M Unit} {body : M Fl} {ds : List D} {r r1 : Rho} (hi : fi r = .ok ds r1) (I : Nat → Rho → Prop) (h0 : I 0 r1)
    (k : ∀ i d, ds[i]? = some d → ∀ r, I i r → ∃ r1 r2, T (.dt d) r = .ok () r1 ∧ body r1 = .ok .next r2 ∧ I (i + 1) r2) : ∃ r', cFor fi T body r = .ok .next r' ∧ I ds.length r' := by
  obtain ⟨r', e, h⟩ := loopL_ix I ds 0 r1 h0 fun i d hd r hr => by
    rw [Nat.zero_add] at hr
    rw [Nat.zero_add]
    exact k i d hd r hr
  refine ⟨r', by simp only [cFor, M.bind, hi, e], ?_⟩
  rw [Nat.zero_add] at h
  exact h
theorem lc_ix {own : List Nat} {T : W → M Unit} {fe : M W} (I : Nat → Rho → Prop) (G : Nat → D → Prop) : ∀ (ds : List D) (acc : List D) (k : Nat) (r : Rho), acc.length + ds.length ≤ sizeLine → I k r →
    (∀ i d, ds[i]? = some d → ∀ r, I (k + i) r → ∃ r1 w r3 y r4, T (.dt d) r = .ok () r1 ∧ fe r1 = .ok w r3 ∧ w.frz r3 = .ok y r4 ∧ G (k + i) y ∧ I (k + i + 1) (r4.wipe own)) →
    ∃ ys r', lcLoop own T (M.ret true) fe ds acc r = .ok (acc ++ ys) r' ∧ I (k + ds.length) r' ∧ ys.length = ds.length ∧ ∀ i y, ys[i]? = some y → G (k + i) y
  | [], acc, k, r, _, h, _ => ⟨[], r, by rw [List.append_nil]; rfl, h, rfl, fun _ _ z => by simp at z⟩
  | d :: ds, acc, k, r, hl, h, f => by
    obtain ⟨r1, w, r3, y, r4, e1, e2, e3, hg, h2⟩ := f 0 d rfl r h
    rw [List.length_cons] at hl
    obtain ⟨ys, r', e4, h3, h5, h6⟩ := lc_ix (own := own) (T := T) (fe := fe) I G ds (acc ++ [y]) (k + 1) (r4.wipe own) (by rw [List.length_append, List.length_singleton]; omega) h2 fun i x hx r hr => by
      have := f (i + 1) x (by simpa using hx) r (by rw [show k + (i + 1) = k + 1 + i by omega]; exact hr)
      rw [show k + (i + 1) = k + 1 + i by omega] at this
      exact this
    refine ⟨y :: ys, r', ?_, by rw [List.length_cons, show k + (ds.length + 1) = k + 1 + ds.length by omega]; exact h3, by rw [List.length_cons, List.length_cons, h5], fun i z hz => ?_⟩
    · have hlt : acc.length < sizeLine := by omega
      simp only [lcLoop, e1, M.ret, e2, e3, if_pos hlt, e4, List.append_assoc, List.singleton_append]
    · cases i with
      | zero => simp at hz; subst hz; exact hg
      | succ i =>
        have := h6 i z (by simpa using hz)
        rw [show k + 1 + i = k + (i + 1) by omega] at this
        exact this
/-- small lengths -/
theorem szs : (1 ≤ sizeLine) ∧ (2 ≤ sizeLine) ∧ (3 ≤ sizeLine) ∧ (4 ≤ sizeLine) ∧ (5 ≤ sizeLine) ∧ (6 ≤ sizeLine) ∧ (7 ≤ sizeLine) ∧ (8 ≤ sizeLine) ∧ (9 ≤ sizeLine) ∧ (10 ≤ sizeLine) ∧ (11 ≤ sizeLine) ∧ (12 ≤ sizeLine) ∧ (13 ≤ sizeLine) ∧ (14 ≤ sizeLine) ∧ (15 ≤ sizeLine) ∧ (16 ≤ sizeLine) ∧ (17 ≤ sizeLine) ∧ (18 ≤ sizeLine) ∧ (19 ≤ sizeLine) ∧ (20 ≤ sizeLine) ∧ (21 ≤ sizeLine) ∧ (22 ≤ sizeLine) ∧ (23 ≤ sizeLine) ∧ (24 ≤ sizeLine) ∧ (25 ≤ sizeLine) ∧ (26 ≤ sizeLine) ∧ (27 ≤ sizeLine) ∧ (28 ≤ sizeLine) ∧ (29 ≤ sizeLine) ∧ (30 ≤ sizeLine) ∧ (31 ≤ sizeLine) ∧ (32 ≤ sizeLine) ∧ (33 ≤ sizeLine) ∧ (34 ≤ sizeLine) ∧ (35 ≤ sizeLine) ∧ (36 ≤ sizeLine) ∧ (37 ≤ sizeLine) ∧ (38 ≤ sizeLine) ∧ (39 ≤ sizeLine) ∧ (40 ≤ sizeLine) := by
  rw [q_size]
  decide
theorem cut1 {x : D} {xs : List D} : cutD (x :: xs) (some 1) none = xs := by
  have e : HT.sIx (x :: xs).length 0 (some 1) = 1 := by
    have := HT.sIx_nat (x :: xs).length 0 1
    rw [show ((1 : Nat) : Int) = 1 from rfl] at this
    rw [this]
    simp
  unfold cutD
  rw [e, HT.sIx_none]
  simp
theorem cutr {l : List D} : cutD l (some 1) none = l.drop 1 := by
  cases l with
  | nil => rfl
  | cons x xs => rw [cut1]; rfl
theorem cutf {x : D} {xs : List D} : cutD (x :: xs) none (some 1) = [x] := by
  have e : HT.sIx (x :: xs).length (x :: xs).length (some 1) = 1 := by
    have := HT.sIx_nat (x :: xs).length (x :: xs).length 1
    rw [show ((1 : Nat) : Int) = 1 from rfl] at this
    rw [this]
    simp
  unfold cutD
  rw [e, HT.sIx_none]
  simp
theorem intsOf_map {α : Type} {f : α → Int} : ∀ l : List α, intsOf (l.map fun c => D.int (f c)) = some (l.map f)
  | [] => rfl
  | a :: l => by simp [intsOf, intsOf_map l]
theorem intsOf_ints (l : List Int) : intsOf (l.map D.int) = some l := by
  have := intsOf_map (f := fun i : Int => i) l
  simpa using this
theorem blsOf_map {α : Type} {f : α → Bool} : ∀ l : List α, blsOf (l.map fun c => D.bl (f c)) = some (l.map f)
  | [] => rfl
  | a :: l => by simp [blsOf, blsOf_map l]
theorem kt1 : kitB "str" "str" = some true := by decide +kernel
theorem kt2 : kitB "int" "str" = some false := by decide +kernel
theorem kt3 : kitB "bool" "str" = some false := by decide +kernel
theorem kt4 : kitB "NoneType" "str" = some false := by decide +kernel
theorem kt5 : kitB "list" "str" = some false := by decide +kernel
theorem kt6 : kitB "tuple" "str" = some false := by decide +kernel
theorem kt7 : kitB "dict" "str" = some false := by decide +kernel
theorem ki1 : kitB "str" "int" = some false := by decide +kernel
theorem ki2 : kitB "int" "int" = some true := by decide +kernel
theorem ki3 : kitB "bool" "int" = some true := by decide +kernel
theorem ki4 : kitB "NoneType" "int" = some false := by decide +kernel
theorem ki5 : kitB "list" "int" = some false := by decide +kernel
theorem ki6 : kitB "tuple" "int" = some false := by decide +kernel
theorem ki7 : kitB "dict" "int" = some false := by decide +kernel
theorem kb2 : kitB "int" "bool" = some false := by decide +kernel
theorem kb3 : kitB "bool" "bool" = some true := by decide +kernel
theorem kp1 : kitB "str" "tuple" = some false := by decide +kernel
theorem kp2 : kitB "int" "tuple" = some false := by decide +kernel
theorem kp3 : kitB "bool" "tuple" = some false := by decide +kernel
theorem kp4 : kitB "NoneType" "tuple" = some false := by decide +kernel
theorem kp5 : kitB "list" "tuple" = some false := by decide +kernel
theorem kp6 : kitB "tuple" "tuple" = some true := by decide +kernel
theorem kp7 : kitB "dict" "tuple" = some false := by decide +kernel
end Lc

set_option Elab.async false
set_option maxRecDepth 100000
set_option maxHeartbeats 4000000
/-! try, for simp; what may be compared. -/
namespace Lc
open PySem L2
theorem collapse_const {R : Res Fl} : collapse (fun _ _ => R) = R := collapse_eq fun _ _ => rfl
theorem q_try {body : M Fl} {c : Str → Option Bool} {i : Nat} {suite : Addr → Addr → Ex → M Fl} {r : Rho} : cTry body c i suite r = (match body r with
  | .exc x r1 => match c x.cls with
    | some true => if i < r1.loc.length then collapse fun a dd => clearI i (suite a dd x (r1.put i (.dt (.exc a dd x.fs)))) else .fail
    | some false => .exc x r1
    | none => .fail
  | res => res) := rfl
mutual
theorem lay_of : ∀ d : D, okP d.py → d.flat = true → d.py.canLay0 = true
  | .non, _, _ => by simp [D.py, PyData.canLay0]
  | .bl _, _, _ => by simp [D.py, PyData.canLay0]
  | .int _, _, _ => by simp [D.py, PyData.canLay0]
  | .str x, h, _ => by
    rw [D.py, okP] at h
    simp only [D.py, PyData.canLay0]
    exact ok_strOk h
  | .lst l, h, f => by
    rw [D.py, okP] at h
    simp only [D.flat] at f
    simp only [D.py, PyData.canLay0]
    exact lays_of l h f
  | .tup l, h, f => by
    rw [D.py, okP] at h
    simp only [D.flat] at f
    simp only [D.py, PyData.canLay0]
    exact lays_of l h f
  | .dct _, _, f => by simp [D.flat] at f
  | .ty _, _, f => by simp [D.flat] at f
  | .scr _, _, f => by simp [D.flat] at f
  | .cls _, _, f => by simp [D.flat] at f
  | .exc _ _ _, _, f => by simp [D.flat] at f
  | .obj _ _, _, f => by simp [D.flat] at f
  | .err _ _, _, f => by simp [D.flat] at f
  | .sto _, _, f => by simp [D.flat] at f
theorem lays_of : ∀ l : List D, okPs (D.pys l) → D.flats l = true → PyData.canLayAll0 (D.pys l) = true
  | [], _, _ => by simp [D.pys, PyData.canLayAll0]
  | d :: l, h, f => by
    rw [D.pys, okPs] at h
    simp only [D.flats, Bool.and_eq_true] at f
    simp only [D.pys, PyData.canLayAll0, Bool.and_eq_true]
    exact ⟨lay_of d h.1 f.1, lays_of l h.2 f.2⟩
end
theorem Gd.deep {n s : Nat} {d : D} (h : Gd n s d) (hn : n ≤ 64) (hs : s ≤ 20000) (f : d.flat = true) : d.deepOk = true := by
  have T := h.all hs
  have h2 := T.dep
  simp only [D.deepOk, SeqAt.shaped, f, lay_of d T.okc f, Bool.true_and, decide_eq_true_eq]
  omega
theorem flats_of {l : List D} (h : ∀ d ∈ l, d.flat = true) : D.flats l = true := by
  induction l with
  | nil => rfl
  | cons d l ih =>
    simp only [D.flats, Bool.and_eq_true]
    exact ⟨h d List.mem_cons_self, ih fun x hx => h x (List.mem_cons_of_mem _ hx)⟩
/-- l != [] -/
theorem ne_nil {l : List D} (h : (D.lst l).deepOk = true) : gNe (.lst l) (.lst []) = some (.dt (.bl (!l.isEmpty))) := by
  have h0 : (D.lst []).deepOk = true := by decide +kernel
  have e : D.eq (.lst l) (.lst []) = some l.isEmpty := by
    simp only [D.eq, h, h0, and_self, if_true, D.py]
    cases l <;> simp [D.pys, PyData.eqv, PyData.eqvAll]
  simp only [gNe, e, Option.bind_some]
  rfl
end Lc

set_option Elab.async false
set_option maxRecDepth 100000
set_option maxHeartbeats 4000000
/-! Levels and sizes of closed data, computed. -/
namespace Lc
open PySem L2
mutual
def szD : D → Nat
  | .tup l => 1 + szL l
  | .lst l => 1 + szL l
  | _ => 1
def szL : List D → Nat
  | [] => 0
  | d :: l => szD d + szL l
end
mutual
def lvD : D → Nat
  | .tup l => 1 + lvL l
  | .lst l => 1 + lvL l
  | _ => 1
def lvL : List D → Nat
  | [] => 0
  | d :: l => Nat.max (lvD d) (lvL l)
end
mutual
def okD : D → Bool
  | .non => true
  | .bl _ => true
  | .int i => decide (i.natAbs < 2 ^ 200)
  | .str x => decide (x.length ≤ 30) && x.cps.toList.all fun c => decide (c < 1114112)
  | .tup l => okL l
  | .lst l => okL l
  | .dct l => l.isEmpty
  | _ => false
def okL : List D → Bool
  | [] => true
  | d :: l => okD d && okL l
end
mutual
theorem gd_of : ∀ d : D, okD d = true → Gd (lvD d) (szD d) d
  | .non, _ => by simp only [lvD, szD]; exact .non
  | .bl _, _ => by simp only [lvD, szD]; exact .bl _
  | .int i, h => by simp only [okD, decide_eq_true_eq] at h; simp only [lvD, szD]; exact .int h
  | .str x, h => by
    simp only [okD, Bool.and_eq_true, decide_eq_true_eq, List.all_eq_true] at h
    simp only [lvD, szD]
    exact .str ⟨h.1, h.2⟩
  | .tup l, h => by
    simp only [okD] at h
    have := gdl_of l h
    simp only [lvD, szD]
    rw [Nat.add_comm 1, Nat.add_comm 1]
    exact .tup this
  | .lst l, h => by
    simp only [okD] at h
    have := gdl_of l h
    simp only [lvD, szD]
    rw [Nat.add_comm 1, Nat.add_comm 1]
    exact .lst this
  | .dct l, h => by
    simp only [okD, List.isEmpty_iff] at h
    subst h
    simp only [lvD, szD]
    exact .dct
  | .ty _, h => by simp [okD] at h
  | .scr _, h => by simp [okD] at h
  | .cls _, h => by simp [okD] at h
  | .exc _ _ _, h => by simp [okD] at h
  | .obj _ _, h => by simp [okD] at h
  | .err _ _, h => by simp [okD] at h
  | .sto _, h => by simp [okD] at h
theorem gdl_of : ∀ l : List D, okL l = true → GdL (lvL l) (szL l) l
  | [], _ => .nil
  | d :: l, h => by
    simp only [okL, Bool.and_eq_true] at h
    have h1 := gd_of d h.1
    have h2 := gdl_of l h.2
    simp only [lvL, szL]
    exact .cons (h1.mono (Nat.le_max_left _ _) (Nat.le_refl _)) (h2.mono (Nat.le_max_right _ _) (Nat.le_refl _)) (Nat.le_refl _)
end
/-- closed data of at most n levels and size s -/
def gdB (n s : Nat) (d : D) : Bool := okD d && (decide (lvD d ≤ n) && decide (szD d ≤ s))
theorem gd_by {n s : Nat} {d : D} (h : gdB n s d = true) : Gd n s d := by
  simp only [gdB, Bool.and_eq_true, decide_eq_true_eq] at h
  exact (gd_of d h.1).mono h.2.1 h.2.2
end Lc

set_option Elab.async false
set_option maxRecDepth 100000
set_option maxHeartbeats 4000000
/-! while: one turn more; x += e, l.pop() and a, b, c = x, y, z for simp; signs of a text. -/
namespace Lc
open PySem L2
theorem cWhile_eq1 {t : M Bool} {b : M Fl} {r : Rho} : cWhile t b r = (match t r with
    | .ok true r1 => match b r1 with
      | .ok .next r2 => cWhile t b r2
      | .ok .cnt r2 => cWhile t b r2
      | .ok .brk r2 => .ok .next r2
      | .ok (.ret w) r2 => .ok (.ret w) r2
      | .exc x r2 => .exc x r2
      | .fail => .fail
    | .ok false r1 => .ok .next r1
    | .exc x r1 => .exc x r1
    | .fail => .fail) := by
  have step : ∀ n, whileN t b (n + 1) r = (match t r with
    | .ok true r1 => match b r1 with
      | .ok .next r2 => whileN t b n r2
      | .ok .cnt r2 => whileN t b n r2
      | .ok .brk r2 => .ok .next r2
      | .ok (.ret w) r2 => .ok (.ret w) r2
      | .exc x r2 => .exc x r2
      | .fail => .fail
    | .ok false r1 => .ok .next r1
    | .exc x r1 => .exc x r1
    | .fail => .fail) := fun n => rfl
  have one : ∀ {res : Res Fl}, (∀ n, whileN t b (n + 1) r = res) → cWhile t b r = res := fun {res} h => by
    by_cases e : res = .fail
    · subst e
      unfold cWhile
      rw [dif_neg]
      rintro ⟨n, hn⟩
      cases n with
      | zero => exact hn rfl
      | succ n => exact hn (h n)
    · exact cWhile_eq (h 0) e
  have rec' : ∀ {r2 : Rho}, (∀ n, whileN t b (n + 1) r = whileN t b n r2) → cWhile t b r = cWhile t b r2 := fun {r2} h => by
    by_cases hx : ∃ n, whileN t b n r2 ≠ .fail
    · obtain ⟨n, hn⟩ := hx
      rw [cWhile_eq (res := whileN t b n r2) rfl hn]
      exact cWhile_eq (h n) hn
    · have e2 : cWhile t b r2 = .fail := by unfold cWhile; rw [dif_neg hx]
      rw [e2]
      unfold cWhile
      rw [dif_neg]
      rintro ⟨n, hn⟩
      cases n with
      | zero => exact hn rfl
      | succ n => rw [h n] at hn; exact hx ⟨n, hn⟩
  cases e1 : t r with
  | fail => simp only [e1] at step ⊢; exact one step
  | exc x r1 => simp only [e1] at step ⊢; exact one step
  | ok k r1 =>
    cases k with
    | false => simp only [e1] at step ⊢; exact one step
    | true =>
      simp only [e1] at step ⊢
      cases e2 : b r1 with
      | fail => simp only [e2] at step ⊢; exact one step
      | exc x r2 => simp only [e2] at step ⊢; exact one step
      | ok fl r2 =>
        cases fl with
        | next => simp only [e2] at step ⊢; exact rec' step
        | cnt => simp only [e2] at step ⊢; exact rec' step
        | brk => simp only [e2] at step ⊢; exact one step
        | ret w => simp only [e2] at step ⊢; exact one step
section
variable {r : Rho} {fo fe : M W} {fs : M (List W)}
@[simp] theorem q_aug {i : Nat} {g : Int → Int → Int} : cAug i g fe r = (match r.loc[i]? with
  | some (some (.dt (.int x))) => M.bind fe (fun w => M.bind w.asI1 fun y => fun r => match r.loc[i]? with
    | some (some (.dt (.int x'))) => if x' = x then .ok .next (r.put i (.dt (.int (g x y)))) else .fail
    | _ => .fail) r
  | _ => .fail) := rfl
@[simp] theorem q_asI1 {i : Int} : W.asI1 (.dt (.int i)) = M.ret i := rfl
@[simp] theorem q_pop : cPop fo = M.bind fo fun wo => M.bind (M.isL wo) fun _ => fun r => match wo with
  | .cel z => match r.cnt z with
    | some (.lst l) => match l.getLast? with
      | some d => .ok (.dt d) (r.setc (.lst l.dropLast) z)
      | none => .fail
    | _ => .fail
  | _ => .fail := rfl
@[simp] theorem q_par3 {i j l : Nat} : cPar3 i j l fs = M.bind fs fun ws => match ws with
  | [w1, w2, w3] => fun r => if (w2.isLoc i || (w3.isLoc i || w3.isLoc j)) = true then .fail else M.bind (gN i w1) (fun _ => M.bind (gN j w2) fun _ => M.bind (gN l w3) fun _ => M.ret .next) r
  | _ => M.no := rfl
end
/-! ### signs of a text -/
def mkS (l : List Nat) : Str := ⟨l.toArray⟩
theorem mkS_list (x : Str) : mkS x.cps.toList = x := rfl
theorem mkS_cps (l : List Nat) : (mkS l).cps.toList = l := rfl
theorem mkS_len (l : List Nat) : (mkS l).length = l.length := rfl
theorem cutS_nat {x : Str} {p q : Nat} : cutS x (some (p : Int)) (some (q : Int)) = mkS ((x.cps.toList.drop p).take (q - p)) := by
  unfold cutS mkS
  rw [HT.sIx_nat, HT.sIx_nat]
  have hl : x.cps.toList.length = x.length := by rw [Array.length_toList]; rfl
  by_cases hp : p ≤ x.length
  · rw [Nat.min_eq_left hp]
    by_cases hq : q ≤ x.length
    · rw [Nat.min_eq_left hq]
    · rw [Nat.min_eq_right (show x.length ≤ q by omega), List.take_of_length_le (by rw [List.length_drop]; omega), List.take_of_length_le (by rw [List.length_drop]; omega)]
  · rw [Nat.min_eq_right (show x.length ≤ p by omega), List.drop_eq_nil_of_le (by omega), List.drop_eq_nil_of_le (by omega)]
    simp
theorem cutS_to {x : Str} {q : Nat} : cutS x none (some (q : Int)) = mkS (x.cps.toList.take q) := by
  unfold cutS mkS
  rw [HT.sIx_nat, HT.sIx_none]
  have hl : x.cps.toList.length = x.length := by rw [Array.length_toList]; rfl
  by_cases hq : q ≤ x.length
  · rw [Nat.min_eq_left hq]; simp
  · rw [Nat.min_eq_right (show x.length ≤ q by omega), List.drop_zero, Nat.sub_zero, List.take_of_length_le (by omega), List.take_of_length_le (by omega)]
theorem cutS_from {x : Str} {p : Nat} : cutS x (some (p : Int)) none = mkS (x.cps.toList.drop p) := by
  unfold cutS mkS
  rw [HT.sIx_nat, HT.sIx_none]
  have hl : x.cps.toList.length = x.length := by rw [Array.length_toList]; rfl
  by_cases hp : p ≤ x.length
  · rw [Nat.min_eq_left hp, List.take_of_length_le (by rw [List.length_drop]; omega)]
  · rw [Nat.min_eq_right (show x.length ≤ p by omega), List.drop_eq_nil_of_le (by omega), List.drop_eq_nil_of_le (by omega)]
    simp
/-- the next sign as a text of its own, empty at the end -/
def sgn (s : List Nat) : Str := mkS (s.take 1)
theorem sl_sign {x : Str} {p : Nat} (hx : x.length ≤ 16777216) : gSl2 (.str x) (some (p : Int)) (some ((p : Int) + 1)) = some (.dt (.str (sgn (x.cps.toList.drop p)))) := by
  have e : cutS x (some (p : Int)) (some ((p : Int) + 1)) = sgn (x.cps.toList.drop p) := by
    have := cutS_nat (x := x) (p := p) (q := p + 1)
    rw [show ((p + 1 : Nat) : Int) = (p : Int) + 1 by omega] at this
    rw [this, show p + 1 - p = 1 by omega]
    rfl
  simp only [gSl2, gSl, q_size, hx, if_true, e, sD]
theorem sl_part {x : Str} {p q : Nat} (hx : x.length ≤ 16777216) : gSl2 (.str x) (some (p : Int)) (some (q : Int)) = some (.dt (.str (mkS ((x.cps.toList.drop p).take (q - p))))) := by
  simp only [gSl2, gSl, q_size, hx, if_true, cutS_nat, sD]
theorem str_inj {x y : Str} (h : x.cps.toList = y.cps.toList) : x = y := by
  rw [← mkS_list x, ← mkS_list y, h]
theorem beq_str {x y : Str} : (x == y) = decide (x = y) := by
  by_cases h : x = y
  · subst h; simp
  · simp [h]
theorem sgn_is {s : List Nat} {z : Str} {c : Nat} (hz : z.cps.toList = [c]) : (sgn s == z) = decide (s.head? = some c) := by
  rw [beq_str]
  cases s with
  | nil =>
    have : sgn [] ≠ z := fun e => by rw [← e] at hz; cases hz
    simp [this]
  | cons a s =>
    by_cases h : a = c
    · subst h
      have : sgn (a :: s) = z := str_inj (by rw [hz]; rfl)
      simp [this]
    · have : sgn (a :: s) ≠ z := fun e => by rw [← e] at hz; cases hz; exact h rfl
      simp [this, h]
theorem sgn_emp {s : List Nat} : (sgn s == Str.ofString "") = decide (s = []) := by
  rw [beq_str]
  have e0 : (Str.ofString "").cps.toList = [] := by decide
  cases s with
  | nil =>
    have : sgn [] = Str.ofString "" := str_inj (by rw [e0]; rfl)
    simp [this]
  | cons a s =>
    have : sgn (a :: s) ≠ Str.ofString "" := fun e => by rw [← e] at e0; cases e0
    simp [this]
theorem atI_nat {α : Type} {l : List α} {p : Nat} : atI l (p : Int) = l[p]? := by
  unfold atI ixN
  by_cases h : p < l.length
  · simp [h]
  · have : ¬ ((p : Int) < (l.length : Int)) := by omega
    simp [h, this]
end Lc

set_option Elab.async false
set_option maxRecDepth 100000
set_option maxHeartbeats 4000000
set_option linter.unusedVariables false
namespace Lw
open PySem L2 Lc PySem.Spec PyProof.Rows He
noncomputable section
def top (i : Nat) : Stmt := PySem.Challenge.pw_leastcopies_k14_whole_texts_of_shapes.main.body.getD i (.Pass ⟨0, 0, 0, 0⟩)
def frN : List Str := [PySem.Str.ofString "all", PySem.Str.ofString "str", PySem.Str.ofString "isinstance", PySem.Str.ofString "len", PySem.Str.ofString "int", PySem.Str.ofString "bool", PySem.Str.ofString "tuple", PySem.Str.ofString "max", PySem.Str.ofString "abs", PySem.Str.ofString "divmod", PySem.Str.ofString "range", PySem.Str.ofString "repr", PySem.Str.ofString "ValueError", PySem.Str.ofString "min", PySem.Str.ofString "super"]
def fileS : Str := "/claim/cut.py"
def clsN : List Str := [PySem.Str.ofString "InvalidPattern", PySem.Str.ofString "InvalidText", PySem.Str.ofString "CopyError", PySem.Str.ofString "InvalidCommand", PySem.Str.ofString "InvalidShape"]
def isaP : List (Str × CK) := [(PySem.Str.ofString "CopyError", .t "ValueError"), (PySem.Str.ofString "InvalidShape", .c (PySem.Str.ofString "CopyError")), (PySem.Str.ofString "InvalidPattern", .c (PySem.Str.ofString "CopyError")), (PySem.Str.ofString "InvalidText", .c (PySem.Str.ofString "CopyError")), (PySem.Str.ofString "InvalidCommand", .c (PySem.Str.ofString "CopyError"))]
def isaX : List Str := [PySem.Str.ofString "InvalidText", PySem.Str.ofString "InvalidPattern"]
def isaC : List CK := [.c (PySem.Str.ofString "CopyError"), .t "ValueError", .c (PySem.Str.ofString "InvalidCommand"), .c (PySem.Str.ofString "InvalidPattern"), .c (PySem.Str.ofString "InvalidShape"), .t "str", .t "int", .t "bool", .t "tuple"]
def isaT : IsaT := ⟨isaP, isaX, isaC⟩
def catT : Tab := [(("InvalidPattern", .c "InvalidText"), false), (("InvalidText", .c "InvalidText"), true), (("InvalidPattern", .c "InvalidPattern"), true), (("InvalidText", .c "InvalidPattern"), false)]
abbrev ci_InvalidPattern : Stmt := (clsBody (top 3)).getD 0 (.Pass ⟨0, 0, 0, 0⟩)
def xd_InvalidPattern : XD := ⟨.val, "InvalidPattern", ["value"], defArgs ci_InvalidPattern, defBody ci_InvalidPattern, defScope ci_InvalidPattern⟩
abbrev ci_InvalidText : Stmt := (clsBody (top 4)).getD 0 (.Pass ⟨0, 0, 0, 0⟩)
def xd_InvalidText : XD := ⟨.val, "InvalidText", ["line"], defArgs ci_InvalidText, defBody ci_InvalidText, defScope ci_InvalidText⟩
def xdL : List XD := [xd_InvalidPattern, xd_InvalidText]
abbrev xdTL : List (Str × List Str) := xdT xdL
theorem xdNL : xdN xdL clsN := fun d hd => by
  simp only [xdL, List.mem_cons, List.not_mem_nil, or_false] at hd
  rcases hd with rfl | rfl
  all_goals (simp only [xd_InvalidPattern, xd_InvalidText]; decide +kernel)
def exB (K : PySem.W.Frag) : Bool := (K.lookup sysModules).isSome && (isaB K isaT && catB K catT)
abbrev st_is_name : Stmt := top 9
def x_is_name_1 : M W := (cLc (M.bind (cVar 0) W.items) [1] (gN 1) (M.ret true) (cOp2 gIn2 (cVar 1) (cC (.str "abcdefghijklmnopqrstuvwxyz"))))
def b_is_name : M Fl := (cSeq (cIfS (cOrT (cNotT (cTru (cCallP (gIsi2 xdTL isaT) (cCons (cVar 0) (cCons (cC (.ty "str")) (M.ret [])))))) (cNotT (M.bl (cChain gLe gLe (cC (.int 1)) (cCallP gLen (cCons (cVar 0) (M.ret []))) (cC (.int 8)))))) (cSeq (cRet (cC (.bl false)))
    (M.ret .next)) (M.ret .next))
    (cSeq (cRet (cCallP gAll (cCons x_is_name_1 (M.ret []))))
    (M.ret .next)))
def F_is_name : Fn := runF 2 b_is_name
abbrev st_is_integer : Stmt := top 10
def b_is_integer : M Fl := (cSeq (cRet (cAnd (cCallP (gIsi2 xdTL isaT) (cCons (cVar 0) (cCons (cC (.ty "int")) (M.ret [])))) (cNot (cCallP (gIsi2 xdTL isaT) (cCons (cVar 0) (cCons (cC (.ty "bool")) (M.ret [])))))))
    (M.ret .next))
def F_is_integer : Fn := runF 1 b_is_integer
abbrev st_is_index : Stmt := top 14
def b_is_index : M Fl := (cSeq (cRet (cAnd (cCall F_is_integer (cCons (cVar 0) (M.ret []))) (cChain gLe gLt (cC (.int 0)) (cVar 0) (cC (.int 3)))))
    (M.ret .next))
def F_is_index : Fn := runF 1 b_is_index
abbrev st_is_tree : Stmt := top 15
def x_is_tree_1 (self : Fn) : M W := (cLc (M.bind (cSl gSl2 (cVar 0) (M.bind (cC (.int 1)) W.asI) (M.ret none)) W.items) [2] (gN 2) (M.ret true) (cCall self (cCons (cVar 2) (cCons (cVar 1) (M.ret [])))))
def b_is_tree (self : Fn) : M Fl := (cSeq (cIfS (cNotT (cTru (cCallP (gIsi2 xdTL isaT) (cCons (cVar 0) (cCons (cC (.ty "tuple")) (M.ret [])))))) (cSeq (cRet (cOr (cCall F_is_name (cCons (cVar 0) (M.ret []))) (cAnd (cVar 1) (cCall F_is_index (cCons (cVar 0) (M.ret []))))))
    (M.ret .next)) (M.ret .next))
    (cSeq (cIfS (cOrT (cNotT (M.bl (cChain gLe gLe (cC (.int 2)) (cCallP gLen (cCons (cVar 0) (M.ret []))) (cOp2 gAdd2 (cC (.int 1)) (cC (.int 3)))))) (cNotT (cTru (cCall F_is_name (cCons (cOp2 gIx1 (cVar 0) (cC (.int 0))) (M.ret [])))))) (cSeq (cRet (cC (.bl false)))
    (M.ret .next)) (M.ret .next))
    (cSeq (cRet (cCallP gAll (cCons (x_is_tree_1 self) (M.ret []))))
    (M.ret .next))))
def F_is_tree : Nat → Fn
  | 0 => fun _ => .fail
  | n + 1 => runF 3 (b_is_tree (F_is_tree n))
abbrev st_is_pattern : Stmt := top 16
def b_is_pattern : M Fl := (cSeq (cRet (cCall (F_is_tree 40) (cCons (cVar 0) (cCons (cC (.bl true)) (M.ret [])))))
    (M.ret .next))
def F_is_pattern : Fn := runF 1 b_is_pattern
abbrev st_require_pattern : Stmt := top 17
def b_require_pattern : M Fl := (cSeq (cIfS (cNotT (cTru (cCall F_is_pattern (cCons (cVar 0) (M.ret []))))) (cSeq (cRaise "InvalidPattern" ["value"] (cCons (cVar 0) (M.ret [])))
    (M.ret .next)) (M.ret .next))
    (M.ret .next))
def F_require_pattern : Fn := runF 1 b_require_pattern
abbrev st_tree_text : Stmt := top 18
def x_tree_text_1 (self : Fn) : M W := (cLc (M.bind (cSl gSl2 (cVar 0) (M.bind (cC (.int 1)) W.asI) (M.ret none)) W.items) [1] (gN 1) (M.ret true) (cCall self (cCons (cVar 1) (M.ret []))))
def b_tree_text (self : Fn) : M Fl := (cSeq (cIfS (cNotT (cTru (cCallP (gIsi2 xdTL isaT) (cCons (cVar 0) (cCons (cC (.ty "tuple")) (M.ret [])))))) (cSeq (cRet (cCallP gStr (cCons (cVar 0) (M.ret []))))
    (M.ret .next)) (M.ret .next))
    (cSeq (cRet (cOp2 gAdd2 (cOp2 gAdd2 (cOp2 gAdd2 (cOp2 gIx1 (cVar 0) (cC (.int 0))) (cC (.str "("))) (cM1 gJoin (cC (.str ",")) (x_tree_text_1 self))) (cC (.str ")"))))
    (M.ret .next)))
def F_tree_text : Nat → Fn
  | 0 => fun _ => .fail
  | n + 1 => runF 2 (b_tree_text (F_tree_text n))
abbrev st_pattern_text : Stmt := top 19
def b_pattern_text : M Fl := (cSeq (cDrop (cCall F_require_pattern (cCons (cVar 0) (M.ret []))))
    (cSeq (cRet (cCall (F_tree_text 40) (cCons (cVar 0) (M.ret []))))
    (M.ret .next)))
def F_pattern_text : Fn := runF 1 b_pattern_text
abbrev st_leaf_at : Stmt := top 20
def z_leaf_at_4 : M Fl := (cSeq (cIfS (cAndT (cTru (cVar 2)) (cAndT (M.bl (cOp2 gNe2 (cVar 4) (cC (.str "")))) (M.bl (cOp2 gIn2 (cVar 4) (cC (.str "012")))))) (cSeq (cRet (cTup (cCons (cCallP gInt (cCons (cVar 4) (M.ret []))) (cCons (cOp2 gAdd2 (cVar 1) (cC (.int 1))) (M.ret [])))))
    (M.ret .next)) (M.ret .next))
    (cSeq (cRet (cTup (cCons (cC .non) (cCons (cVar 1) (M.ret [])))))
    (M.ret .next)))
def z_leaf_at_3 : M Fl := (cSeq (cAsg (cSl gSl2 (cVar 0) (M.bind (cVar 1) W.asI) (M.bind (cOp2 gAdd2 (cVar 1) (cC (.int 1))) W.asI)) (gN 4))
    z_leaf_at_4)
def z_leaf_at_2 : M Fl := (cSeq (cIfS (M.bl (cOp2 gGt (cVar 3) (cVar 1))) (cSeq (cAsg (cSl gSl2 (cVar 0) (M.bind (cVar 1) W.asI) (M.bind (cVar 3) W.asI)) (gN 5))
    (cSeq (cRet (cTup (cCons (cIfE (cTru (cCall F_is_name (cCons (cVar 5) (M.ret [])))) (cVar 5) (cC .non)) (cCons (cVar 3) (M.ret [])))))
    (M.ret .next))) (M.ret .next))
    z_leaf_at_3)
def x_leaf_at_1 : M Fl := (cSeq (cAug 3 (fun i j => i + j) (cC (.int 1)))
    (M.ret .next))
noncomputable def x_leaf_at_2 : M Fl := (cWhile (cAndT (M.bl (cOp2 gLt (cVar 3) (cCallP gLen (cCons (cVar 0) (M.ret []))))) (M.bl (cOp2 gIn2 (cOp2 gIx1 (cVar 0) (cVar 3)) (cC (.str "abcdefghijklmnopqrstuvwxyz"))))) x_leaf_at_1)
def z_leaf_at_1 : M Fl := (cSeq x_leaf_at_2
    z_leaf_at_2)
def b_leaf_at : M Fl := (cSeq (cAsg (cVar 1) (gN 3))
    z_leaf_at_1)
def F_leaf_at : Fn := runF 6 b_leaf_at
abbrev st_closed : Stmt := top 21
def x_closed_1 : M Fl := (cSeq (cAsg (cOp2 gIx1 (cVar 0) (cOp1 gNeg (cC (.int 1)))) (gT 2 (gsCons (gN 5) (gsCons (gN 6) gsNil))))
    (cSeq (cDrop (cAppS (cVar 6) (cVar 1)))
    (cSeq (cAsg (cSl gSl2 (cVar 2) (M.bind (cVar 3) W.asI) (M.bind (cOp2 gAdd2 (cVar 3) (cC (.int 1))) W.asI)) (gN 4))
    (cSeq (cIfS (cAndT (M.bl (cOp2 gEq2 (cVar 4) (cC (.str ",")))) (M.bl (cOp2 gLt (cCallP gLen (cCons (cVar 6) (M.ret []))) (cC (.int 3))))) (cSeq (cRet (cTup (cCons (cC .non) (cCons (cOp2 gAdd2 (cVar 3) (cC (.int 1))) (M.ret [])))))
    (M.ret .next)) (M.ret .next))
    (cSeq (cIfS (M.bl (cOp2 gNe2 (cVar 4) (cC (.str ")")))) (cSeq (cRet (cTup (cCons (cC .non) (cCons (cC .non) (M.ret [])))))
    (M.ret .next)) (M.ret .next))
    (cSeq (cDrop (cPop (cVar 0)))
    (cSeq (cPar2 1 3 (cCons (cTup (cCons (cVar 5) (cStar (cVar 6) (M.ret [])))) (cCons (cOp2 gAdd2 (cVar 3) (cC (.int 1))) (M.ret []))))
    (M.ret .next))))))))
noncomputable def x_closed_2 : M Fl := (cWhile (M.bl (cOp2 gNe2 (cVar 0) (cLst (M.ret [])))) x_closed_1)
def b_closed : M Fl := (cSeq x_closed_2
    (cSeq (cRet (cTup (cCons (cVar 1) (cCons (cVar 3) (M.ret [])))))
    (M.ret .next)))
def F_closed : FnS := runS 7 b_closed
abbrev st_tree_in : Stmt := top 22
def x_tree_in_1 : M Fl := (cSeq (cAsg (cCall F_leaf_at (cCons (cVar 0) (cCons (cVar 3) (cCons (cVar 1) (M.ret []))))) (gT 2 (gsCons (gN 4) (gsCons (gN 3) gsNil))))
    (cSeq (cIfS (M.bl (cOp2 gIs (cVar 4) (cC .non))) (cSeq (cRet (cC .non))
    (M.ret .next)) (M.ret .next))
    (cSeq (cIfS (cAndT (M.bl (cOp2 gEq2 (cSl gSl2 (cVar 0) (M.bind (cVar 3) W.asI) (M.bind (cOp2 gAdd2 (cVar 3) (cC (.int 1))) W.asI)) (cC (.str "(")))) (cNotT (cTru (cCall F_is_index (cCons (cVar 4) (M.ret [])))))) (cSeq (cDrop (cApp (cVar 2) (cTup (cCons (cVar 4) (cCons (cSto (cLst (M.ret []))) (M.ret []))))))
    (cSeq (cAug 3 (fun i j => i + j) (cC (.int 1)))
    (cSeq (M.ret .cnt)
    (M.ret .next)))) (M.ret .next))
    (cSeq (cAsg (cCallT F_closed (cCons (cVar 2) (cCons (cVar 4) (cCons (cVar 0) (cCons (cVar 3) (M.ret [])))))) (gT 2 (gsCons (gN 5) (gsCons (gN 3) gsNil))))
    (cSeq (cIfS (M.bl (cOp2 gIsNot (cVar 5) (cC .non))) (cSeq (cRet (cIfE (M.bl (cOp2 gEq2 (cVar 3) (cCallP gLen (cCons (cVar 0) (M.ret []))))) (cVar 5) (cC .non)))
    (M.ret .next)) (M.ret .next))
    (M.ret .next))))))
noncomputable def x_tree_in_2 : M Fl := (cWhile (M.bl (cOp2 gIsNot (cVar 3) (cC .non))) x_tree_in_1)
def b_tree_in : M Fl := (cSeq (cPar2 2 3 (cCons (cLst (M.ret [])) (cCons (cC (.int 0)) (M.ret []))))
    (cSeq x_tree_in_2
    (cSeq (cRet (cC .non))
    (M.ret .next))))
def F_tree_in : Fn := runF 6 b_tree_in
abbrev st_read_tree : Stmt := top 23
def b_read_tree : M Fl := (cSeq (cIfS (cNotT (cTru (cCallP (gIsi2 xdTL isaT) (cCons (cVar 0) (cCons (cC (.ty "str")) (M.ret [])))))) (cSeq (cRaise "InvalidText" ["line"] (cCons (cC (.int 0)) (M.ret [])))
    (M.ret .next)) (M.ret .next))
    (cSeq (cAsg (cCall F_tree_in (cCons (cVar 0) (cCons (cVar 1) (M.ret [])))) (gN 2))
    (cSeq (cIfS (M.bl (cOp2 gIs (cVar 2) (cC .non))) (cSeq (cRaise "InvalidText" ["line"] (cCons (cC (.int 1)) (M.ret [])))
    (M.ret .next)) (M.ret .next))
    (cSeq (cRet (cVar 2))
    (M.ret .next)))))
def F_read_tree : Fn := runF 3 b_read_tree
abbrev st_read_shape : Stmt := top 24
def b_read_shape : M Fl := (cSeq (cRet (cCall F_read_tree (cCons (cVar 0) (cCons (cC (.bl false)) (M.ret [])))))
    (M.ret .next))
def F_read_shape : Fn := runF 1 b_read_shape
abbrev st_read_pattern : Stmt := top 25
def b_read_pattern : M Fl := (cSeq (cRet (cCall F_read_tree (cCons (cVar 0) (cCons (cC (.bl true)) (M.ret [])))))
    (M.ret .next))
def F_read_pattern : Fn := runF 1 b_read_pattern
abbrev st__law_rng : Stmt := top 27
def b__law_rng : M Fl := (cSeq (cAsg (cIfE (M.bl (cOp2 gLt (cVar 1) (cCallP gLen (cCons (cVar 0) (M.ret []))))) (cCallP gAbs (cCons (cOp2 gIx1 (cVar 0) (cVar 1)) (M.ret []))) (cC (.int 0))) (gN 2))
    (cSeq (cRet (cLst (cCons (cCallP gMaxL (cCons (cC (.int 0)) (cCons (cOp2 gSub (cVar 2) (cOp2 gPow (cC (.int 10)) (cC (.int 18)))) (M.ret [])))) (cCons (cOp2 gAdd2 (cOp2 gMod (cOp2 gPow (cOp2 gAdd2 (cOp2 gAdd2 (cOp2 gMod (cVar 2) (cC (.int 2147483549))) (cOp2 gMul2 (cC (.int 4127)) (cVar 1))) (cC (.int 29))) (cC (.int 2))) (cC (.int 2147483477))) (cC (.int 1))) (M.ret [])))))
    (M.ret .next)))
def F__law_rng : Fn := runF 3 b__law_rng
abbrev st__law_draw : Stmt := top 28
def b__law_draw : M Fl := (cSeq (cIfS (M.bl (cOp2 gGt (cOp2 gIx1 (cVar 0) (cC (.int 0))) (cC (.int 0)))) (cSeq (cAsg (cCallP gDivmod (cCons (cOp2 gIx1 (cVar 0) (cC (.int 0))) (cCons (cVar 1) (M.ret [])))) (gT 2 (gsCons (gIx (cVar 0) (cC (.int 0))) (gsCons (gN 2) gsNil))))
    (cSeq (cRet (cVar 2))
    (M.ret .next))) (M.ret .next))
    (cSeq (cAsg (cOp2 gMod (cOp2 gAdd2 (cOp2 gMul2 (cOp2 gIx1 (cVar 0) (cC (.int 1))) (cC (.int 39373))) (cC (.int 9973))) (cC (.int 2147483629))) (gIx (cVar 0) (cC (.int 1))))
    (cSeq (cRet (cOp2 gMod (cOp2 gFdiv (cOp2 gMod (cOp2 gMul2 (cOp2 gIx1 (cVar 0) (cC (.int 1))) (cOp2 gIx1 (cVar 0) (cC (.int 1)))) (cC (.int 2147483563))) (cC (.int 13))) (cVar 1)))
    (M.ret .next))))
def F__law_draw : Fn := runF 3 b__law_draw
abbrev st__law_choice : Stmt := top 29
def b__law_choice : M Fl := (cSeq (cRet (cOp2 gIx1 (cVar 1) (cCall F__law_draw (cCons (cVar 0) (cCons (cCallP gLen (cCons (cVar 1) (M.ret []))) (M.ret []))))))
    (M.ret .next))
def F__law_choice : Fn := runF 2 b__law_choice
abbrev st__law_pattern_text : Stmt := top 30
def x__law_pattern_text_1 (self : Fn) : M W := (cLc (M.bind (cSl gSl2 (cVar 0) (M.bind (cC (.int 1)) W.asI) (M.ret none)) W.items) [1] (gN 1) (M.ret true) (cCall self (cCons (cVar 1) (M.ret []))))
def b__law_pattern_text (self : Fn) : M Fl := (cSeq (cIfS (cNotT (cTru (cCallP (gIsi2 xdTL isaT) (cCons (cVar 0) (cCons (cC (.ty "tuple")) (M.ret [])))))) (cSeq (cRet (cCallP gStr (cCons (cVar 0) (M.ret []))))
    (M.ret .next)) (M.ret .next))
    (cSeq (cRet (cOp2 gAdd2 (cOp2 gAdd2 (cOp2 gAdd2 (cOp2 gIx1 (cVar 0) (cC (.int 0))) (cC (.str "("))) (cM1 gJoin (cC (.str ",")) (x__law_pattern_text_1 self))) (cC (.str ")"))))
    (M.ret .next)))
def F__law_pattern_text : Nat → Fn
  | 0 => fun _ => .fail
  | n + 1 => runF 2 (b__law_pattern_text (F__law_pattern_text n))
abbrev st__law_word : Stmt := top 31
def x__law_word_1 : M W := (cLc (M.bind (cCons (cOp2 gIx1 (cLst (cCons (cC (.int 1)) (cCons (cC (.int 1)) (cCons (cC (.int 2)) (cCons (cC (.int 8)) (M.ret [])))))) (cCall F__law_draw (cCons (cVar 0) (cCons (cC (.int 4)) (M.ret []))))) (M.ret [])) W.rng1) [2] (gN 2) (M.ret true) (cCall F__law_choice (cCons (cVar 0) (cCons (cVar 1) (M.ret [])))))
def b__law_word : M Fl := (cSeq (cAsg (cC (.str "abcdefghijklmnopqrstuvwxyz")) (gN 1))
    (cSeq (cRet (cM1 gJoin (cC (.str "")) x__law_word_1))
    (M.ret .next)))
def F__law_word : Fn := runF 3 b__law_word
abbrev st__law_tree : Stmt := top 32
def x__law_tree_1 (self : Fn) : M W := (cLc (M.bind (cCons (cOp2 gAdd2 (cC (.int 1)) (cCall F__law_draw (cCons (cVar 0) (cCons (cC (.int 3)) (M.ret []))))) (M.ret [])) W.rng1) [3] (gN 3) (M.ret true) (cCall self (cCons (cVar 0) (cCons (cOp2 gSub (cVar 1) (cC (.int 1))) (cCons (cVar 2) (M.ret []))))))
def b__law_tree (self : Fn) : M Fl := (cSeq (cIfS (cOrT (M.bl (cOp2 gLt (cVar 1) (cC (.int 1)))) (M.bl (cOp2 gEq2 (cCall F__law_draw (cCons (cVar 0) (cCons (cC (.int 3)) (M.ret [])))) (cC (.int 0))))) (cSeq (cIfS (cAndT (cTru (cVar 2)) (M.bl (cOp2 gEq2 (cCall F__law_draw (cCons (cVar 0) (cCons (cC (.int 2)) (M.ret [])))) (cC (.int 0))))) (cSeq (cRet (cCall F__law_draw (cCons (cVar 0) (cCons (cC (.int 3)) (M.ret [])))))
    (M.ret .next)) (M.ret .next))
    (cSeq (cRet (cCall F__law_word (cCons (cVar 0) (M.ret []))))
    (M.ret .next))) (M.ret .next))
    (cSeq (cRet (cOp2 gAdd2 (cTup (cCons (cCall F__law_word (cCons (cVar 0) (M.ret []))) (M.ret []))) (cCallP gTuple (cCons (x__law_tree_1 self) (M.ret [])))))
    (M.ret .next)))
def F__law_tree : Nat → Fn
  | 0 => fun _ => .fail
  | n + 1 => runF 4 (b__law_tree (F__law_tree n))
abbrev st__law_deep : Stmt := top 33
def x__law_deep_1 : M Fl := (cSeq (cAsg (cTup (cCons (cCall F__law_word (cCons (cVar 0) (M.ret []))) (cCons (cVar 1) (M.ret [])))) (gN 1))
    (M.ret .next))
def x__law_deep_2 : M Fl := (cFor (M.bind (cCons (cCall F__law_choice (cCons (cVar 0) (cCons (cLst (cCons (cC (.int 0)) (cCons (cC (.int 0)) (cCons (cC (.int 1)) (cCons (cC (.int 15)) (M.ret [])))))) (M.ret [])))) (M.ret [])) W.rng1) (gN 2) x__law_deep_1)
def b__law_deep : M Fl := (cSeq (cAsg (cCall (F__law_tree 40) (cCons (cVar 0) (cCons (cC (.int 3)) (cCons (cOp2 gEq2 (cCall F__law_draw (cCons (cVar 0) (cCons (cC (.int 2)) (M.ret [])))) (cC (.int 0))) (M.ret []))))) (gN 1))
    (cSeq x__law_deep_2
    (cSeq (cRet (cVar 1))
    (M.ret .next))))
def F__law_deep : Fn := runF 3 b__law_deep
abbrev st__law_spoiled : Stmt := top 34
def x__law_spoiled_1 : M Fl := (cSeq (cPar2 4 5 (cCons (cCall F__law_draw (cCons (cVar 0) (cCons (cOp2 gAdd2 (cCallP gLen (cCons (cVar 1) (M.ret []))) (cC (.int 1))) (M.ret [])))) (cCons (cCall F__law_draw (cCons (cVar 0) (cCons (cC (.int 3)) (M.ret [])))) (M.ret []))))
    (cSeq (cAsg (cCall F__law_choice (cCons (cVar 0) (cCons (cC (.str "abz0123(),,() .A-\n")) (M.ret [])))) (gN 3))
    (cSeq (cIfS (M.bl (cOp2 gEq2 (cVar 5) (cC (.int 0)))) (cSeq (cAsg (cOp2 gAdd2 (cOp2 gAdd2 (cSl gSl2 (cVar 1) (M.ret none) (M.bind (cVar 4) W.asI)) (cVar 3)) (cSl gSl2 (cVar 1) (M.bind (cVar 4) W.asI) (M.ret none))) (gN 1))
    (M.ret .next)) (cSeq (cIfS (M.bl (cOp2 gEq2 (cVar 5) (cC (.int 1)))) (cSeq (cAsg (cOp2 gAdd2 (cSl gSl2 (cVar 1) (M.ret none) (M.bind (cVar 4) W.asI)) (cSl gSl2 (cVar 1) (M.bind (cOp2 gAdd2 (cVar 4) (cC (.int 1))) W.asI) (M.ret none))) (gN 1))
    (M.ret .next)) (cSeq (cAsg (cOp2 gAdd2 (cOp2 gAdd2 (cSl gSl2 (cVar 1) (M.ret none) (M.bind (cVar 4) W.asI)) (cVar 3)) (cSl gSl2 (cVar 1) (M.bind (cOp2 gAdd2 (cVar 4) (cC (.int 1))) W.asI) (M.ret none))) (gN 1))
    (M.ret .next)))
    (M.ret .next)))
    (M.ret .next))))
def x__law_spoiled_2 : M Fl := (cFor (M.bind (cCons (cOp2 gAdd2 (cC (.int 1)) (cCall F__law_draw (cCons (cVar 0) (cCons (cC (.int 3)) (M.ret []))))) (M.ret [])) W.rng1) (gN 2) x__law_spoiled_1)
def b__law_spoiled : M Fl := (cSeq x__law_spoiled_2
    (cSeq (cRet (cVar 1))
    (M.ret .next)))
def F__law_spoiled : Fn := runF 6 b__law_spoiled
abbrev st__law_read_at : Stmt := top 35
def z__law_read_at_7 (self : Fn) : M Fl := (cSeq (cIfS (cOrT (M.bl (cOp2 gNe2 (cSl gSl2 (cVar 0) (M.bind (cVar 3) W.asI) (M.bind (cOp2 gAdd2 (cVar 3) (cC (.int 1))) W.asI)) (cC (.str ")")))) (M.bl (cOp2 gGt (cCallP gLen (cCons (cVar 6) (M.ret []))) (cC (.int 3))))) (cSeq (cRet (cC .non))
    (M.ret .next)) (M.ret .next))
    (cSeq (cRet (cTup (cCons (cOp2 gAdd2 (cTup (cCons (cVar 4) (M.ret []))) (cCallP gTuple (cCons (cVar 6) (M.ret [])))) (cCons (cOp2 gAdd2 (cVar 3) (cC (.int 1))) (M.ret [])))))
    (M.ret .next)))
def x__law_read_at_1 (self : Fn) : M Fl := (cSeq (cAsg (cCall self (cCons (cVar 0) (cCons (cOp2 gAdd2 (cVar 3) (cC (.int 1))) (cCons (cVar 2) (M.ret []))))) (gN 7))
    (cSeq (cIfS (M.bl (cOp2 gIs (cVar 7) (cC .non))) (cSeq (cRet (cC .non))
    (M.ret .next)) (M.ret .next))
    (cSeq (cDrop (cApp (cVar 6) (cOp2 gIx1 (cVar 7) (cC (.int 0)))))
    (cSeq (cAsg (cOp2 gIx1 (cVar 7) (cC (.int 1))) (gN 3))
    (M.ret .next)))))
noncomputable def x__law_read_at_2 (self : Fn) : M Fl := (cWhile (cOrT (M.bl (cOp2 gEq2 (cVar 6) (cLst (M.ret [])))) (M.bl (cOp2 gEq2 (cSl gSl2 (cVar 0) (M.bind (cVar 3) W.asI) (M.bind (cOp2 gAdd2 (cVar 3) (cC (.int 1))) W.asI)) (cC (.str ","))))) (x__law_read_at_1 self))
def z__law_read_at_6 (self : Fn) : M Fl := (cSeq (x__law_read_at_2 self)
    (z__law_read_at_7 self))
def z__law_read_at_5 (self : Fn) : M Fl := (cSeq (cIfS (M.bl (cOp2 gNe2 (cSl gSl2 (cVar 0) (M.bind (cVar 3) W.asI) (M.bind (cOp2 gAdd2 (cVar 3) (cC (.int 1))) W.asI)) (cC (.str "(")))) (cSeq (cRet (cTup (cCons (cVar 4) (cCons (cVar 3) (M.ret [])))))
    (M.ret .next)) (M.ret .next))
    (z__law_read_at_6 self))
def z__law_read_at_4 (self : Fn) : M Fl := (cSeq (cIfS (M.bl (cOp2 gGt (cCallP gLen (cCons (cVar 4) (M.ret []))) (cC (.int 8)))) (cSeq (cRet (cC .non))
    (M.ret .next)) (M.ret .next))
    (z__law_read_at_5 self))
def z__law_read_at_3 (self : Fn) : M Fl := (cSeq (cIfS (M.bl (cOp2 gEq2 (cVar 4) (cC (.str "")))) (cSeq (cRet (cIfE (cAndT (cTru (cVar 2)) (cAndT (M.bl (cOp2 gNe2 (cVar 5) (cC (.str "")))) (M.bl (cOp2 gIn2 (cVar 5) (cC (.str "012")))))) (cTup (cCons (cCallP gInt (cCons (cVar 5) (M.ret []))) (cCons (cOp2 gAdd2 (cVar 1) (cC (.int 1))) (M.ret [])))) (cC .non)))
    (M.ret .next)) (M.ret .next))
    (z__law_read_at_4 self))
def z__law_read_at_2 (self : Fn) : M Fl := (cSeq (cPar3 4 5 6 (cCons (cSl gSl2 (cVar 0) (M.bind (cVar 1) W.asI) (M.bind (cVar 3) W.asI)) (cCons (cSl gSl2 (cVar 0) (M.bind (cVar 1) W.asI) (M.bind (cOp2 gAdd2 (cVar 1) (cC (.int 1))) W.asI)) (cCons (cLst (M.ret [])) (M.ret [])))))
    (z__law_read_at_3 self))
def x__law_read_at_3 (self : Fn) : M Fl := (cSeq (cAsg (cOp2 gAdd2 (cVar 3) (cC (.int 1))) (gN 3))
    (M.ret .next))
noncomputable def x__law_read_at_4 (self : Fn) : M Fl := (cWhile (cAndT (M.bl (cOp2 gLt (cVar 3) (cCallP gLen (cCons (cVar 0) (M.ret []))))) (M.bl (cOp2 gIn2 (cOp2 gIx1 (cVar 0) (cVar 3)) (cC (.str "abcdefghijklmnopqrstuvwxyz"))))) (x__law_read_at_3 self))
def z__law_read_at_1 (self : Fn) : M Fl := (cSeq (x__law_read_at_4 self)
    (z__law_read_at_2 self))
def b__law_read_at (self : Fn) : M Fl := (cSeq (cAsg (cVar 1) (gN 3))
    (z__law_read_at_1 self))
def F__law_read_at : Nat → Fn
  | 0 => fun _ => .fail
  | n + 1 => runF 8 (b__law_read_at (F__law_read_at n))
abbrev st__law_read : Stmt := top 36
def b__law_read : M Fl := (cSeq (cAsg (cCall (F__law_read_at 40) (cCons (cVar 0) (cCons (cC (.int 0)) (cCons (cVar 1) (M.ret []))))) (gN 2))
    (cSeq (cRet (cIfE (cOrT (M.bl (cOp2 gIs (cVar 2) (cC .non))) (M.bl (cOp2 gNe2 (cOp2 gIx1 (cVar 2) (cC (.int 1))) (cCallP gLen (cCons (cVar 0) (M.ret [])))))) (cC .non) (cOp2 gIx1 (cVar 2) (cC (.int 0)))))
    (M.ret .next)))
def F__law_read : Fn := runF 3 b__law_read
abbrev st__law_told : Stmt := top 37
def b__law_told : M Fl := (cSeq (cAsg (cLst (cCons (cC (.str "none")) (M.ret []))) (gN 2))
    (cSeq (cTry (cSeq (cAsg (cLst (cCons (cC (.str "told")) (cCons (cIfE (M.bl (cOp2 gEq2 (cVar 0) (cC (.int 0)))) (cCall F_read_shape (cCons (cVar 1) (M.ret []))) (cCall F_read_pattern (cCons (cVar 1) (M.ret [])))) (M.ret [])))) (gN 2))
    (M.ret .next)) (catOf catT (.c "InvalidText")) 3 (fun a dd y => (cSeq (cAsg (cNot (cIsE a dd 3 (isaOf isaT y.cls) (cTup (cCons (cC (.cls "InvalidCommand")) (cCons (cC (.cls "InvalidPattern")) (cCons (cC (.cls "InvalidShape")) (M.ret []))))))) (gN 4))
    (cSeq (cAsg (cLst (cCons (cC (.str "refused")) (cCons (cXf a dd 3 "line") (cCons (cAnd (cIsE a dd 3 (isaOf isaT y.cls) (cC (.cls "CopyError"))) (cAnd (cIsE a dd 3 (isaOf isaT y.cls) (cC (.ty "ValueError"))) (cVar 4))) (M.ret []))))) (gN 2))
    (M.ret .next)))))
    (cSeq (cRet (cCallP gRepr (cCons (cVar 2) (M.ret []))))
    (M.ret .next))))
def F__law_told : Fn := runF 5 b__law_told
abbrev st__law_read_right : Stmt := top 38
def x__law_read_right_1 : M W := (cLc (M.bind (cCons (cC (.int 2)) (M.ret [])) W.rng1) [2] (gN 2) (M.ret true) (cCall F__law_told (cCons (cVar 2) (cCons (cVar 0) (M.ret [])))))
def x__law_read_right_2 : M Fl := (cSeq (cAsg (cCall F__law_read (cCons (cVar 0) (cCons (cOp2 gEq2 (cVar 2) (cC (.int 1))) (M.ret [])))) (gN 3))
    (cSeq (cDrop (cApp (cVar 1) (cCallP gRepr (cCons (cIfE (M.bl (cOp2 gIs (cVar 3) (cC .non))) (cLst (cCons (cC (.str "refused")) (cCons (cC (.int 1)) (cCons (cC (.bl true)) (M.ret []))))) (cLst (cCons (cC (.str "told")) (cCons (cVar 3) (M.ret []))))) (M.ret [])))))
    (M.ret .next)))
def x__law_read_right_3 : M Fl := (cFor (M.bind (cCons (cC (.int 2)) (M.ret [])) W.rng1) (gN 2) x__law_read_right_2)
def b__law_read_right : M Fl := (cSeq (cAsg (cLst (M.ret [])) (gN 1))
    (cSeq x__law_read_right_3
    (cSeq (cRet (cOp2 gEq2 x__law_read_right_1 (cVar 1)))
    (M.ret .next))))
def F__law_read_right : Fn := runF 4 b__law_read_right
abbrev st__law_is_pattern_refused : Stmt := top 39
def b__law_is_pattern_refused : M Fl := (cSeq (cAsg (cLst (cCons (cC (.str "none")) (M.ret []))) (gN 1))
    (cSeq (cTry (cSeq (cDrop (cCall F_pattern_text (cCons (cVar 0) (M.ret []))))
    (M.ret .next)) (catOf catT (.c "InvalidPattern")) 2 (fun a dd y => (cSeq (cAsg (cLst (cCons (cC (.str "refused")) (cCons (cXf a dd 2 "value") (cCons (cAnd (cIsE a dd 2 (isaOf isaT y.cls) (cC (.cls "CopyError"))) (cNot (cIsE a dd 2 (isaOf isaT y.cls) (cC (.cls "InvalidShape"))))) (M.ret []))))) (gN 1))
    (M.ret .next))))
    (cSeq (cRet (cOp2 gEq2 (cCallP gRepr (cCons (cVar 1) (M.ret []))) (cCallP gRepr (cCons (cLst (cCons (cC (.str "refused")) (cCons (cVar 0) (cCons (cC (.bl true)) (M.ret []))))) (M.ret [])))))
    (M.ret .next))))
def F__law_is_pattern_refused : Fn := runF 3 b__law_is_pattern_refused
abbrev st_law : Stmt := top 40
def x_law_1 : M W := (cLc (M.bind (cCons (cC (.int 2)) (M.ret [])) W.rng1) [7] (gN 7) (M.ret true) (cCall F__law_told (cCons (cVar 7) (cCons (cVar 6) (M.ret [])))))
def x_law_2 : M Fl := (cSeq (cAsg (cCall F__law_deep (cCons (cVar 2) (M.ret []))) (gN 4))
    (cSeq (cAsg (cCall (F__law_pattern_text 40) (cCons (cVar 4) (M.ret []))) (gN 5))
    (cSeq (cIfS (cOrT (M.bl (cOp2 gNe2 (cCall F_pattern_text (cCons (cVar 4) (M.ret []))) (cVar 5))) (cNotT (cTru (cCall F__law_read_right (cCons (cVar 5) (M.ret [])))))) (cSeq (cRet (cC (.bl false)))
    (M.ret .next)) (M.ret .next))
    (cSeq (cIfS (cOrT (M.bl (cOp2 gNe2 (cCallP gRepr (cCons (cCall F_read_pattern (cCons (cVar 5) (M.ret []))) (M.ret []))) (cCallP gRepr (cCons (cVar 4) (M.ret []))))) (cNotT (cTru (cCall F__law_read_right (cCons (cCall F__law_spoiled (cCons (cVar 2) (cCons (cVar 5) (M.ret [])))) (M.ret [])))))) (cSeq (cRet (cC (.bl false)))
    (M.ret .next)) (M.ret .next))
    (cSeq (cAsg (cCall F__law_choice (cCons (cVar 2) (cCons (cLst (cCons (cC .non) (cCons (cC (.int 0)) (cCons (cC (.bl true)) (cCons (cLst (M.ret [])) (cCons cDct0 (cCons (cTup (M.ret [])) (cCons (cTup (cCons (cC (.str "a")) (M.ret []))) (cCons (cLst (cCons (cVar 5) (M.ret []))) (cCons (cTup (cCons (cVar 4) (cCons (cC (.str "a")) (M.ret [])))) (cCons (cLst (cCons (cC (.str "a")) (cCons (cC (.str "b")) (M.ret [])))) (cCons (cOp1 gNeg (cC (.int 1))) (cCons (cC (.int 3)) (M.ret [])))))))))))))) (M.ret [])))) (gN 6))
    (cSeq (cIfS (M.bl (cOp2 gNe2 x_law_1 (cOp2 gMul2 (cLst (cCons (cCallP gRepr (cCons (cLst (cCons (cC (.str "refused")) (cCons (cC (.int 0)) (cCons (cC (.bl true)) (M.ret []))))) (M.ret []))) (M.ret []))) (cC (.int 2))))) (cSeq (cRet (cC (.bl false)))
    (M.ret .next)) (M.ret .next))
    (cSeq (cIfS (cNotT (cTru (cCall F__law_is_pattern_refused (cCons (cCall F__law_choice (cCons (cVar 2) (cCons (cLst (cCons (cC .non) (cCons (cC (.bl true)) (cCons (cC (.int 3)) (cCons (cOp1 gNeg (cC (.int 1))) (cCons (cC (.str "")) (cCons (cC (.str "A")) (cCons (cLst (M.ret [])) (cCons cDct0 (cCons (cTup (cCons (cC (.str "a")) (M.ret []))) (cCons (cLst (cCons (cC (.str "a")) (cCons (cC (.str "b")) (M.ret [])))) (M.ret [])))))))))))) (M.ret [])))) (M.ret []))))) (cSeq (cRet (cC (.bl false)))
    (M.ret .next)) (M.ret .next))
    (M.ret .next))))))))
def x_law_3 : M Fl := (cFor (M.bind (cCons (cC (.int 4)) (M.ret [])) W.rng1) (gN 3) x_law_2)
def x_law_4 : M Fl := (cSeq (cAsg (cCall F__law_rng (cCons (cVar 0) (cCons (cVar 1) (M.ret [])))) (gN 2))
    (cSeq x_law_3
    (M.ret .next)))
def x_law_5 : M Fl := (cFor (M.bind (cCons (cCallP gMaxL (cCons (cC (.int 1)) (cCons (cCallP gMin (cCons (cCallP gLen (cCons (cVar 0) (M.ret []))) (cCons (cC (.int 6)) (M.ret [])))) (M.ret [])))) (M.ret [])) W.rng1) (gN 1) x_law_4)
def b_law : M Fl := (cSeq x_law_5
    (cSeq (cRet (cC (.bl true)))
    (M.ret .next)))
def F_law : Fn := runF 8 b_law
end
end Lw

set_option Elab.async false
set_option maxRecDepth 100000
set_option maxHeartbeats 4000000
set_option linter.unusedVariables false
namespace Lw
open PySem L2 Lc PySem.Spec PyProof.Rows He
section
variable {P : Program} {w : World} {K : PySem.W.Frag} {mg : Str → Option Value} {base : Heap} {f : Addr} {fd : FuncData}
theorem xc_InvalidPattern (ev : EnvE P K mg fileS clsN isaT catT xdL) : Xc P K mg "InvalidPattern" ["value"] := xc_of ev (i := 0) (j := 0) (d := xd_InvalidPattern) rfl rfl fun h1 h2 => .inl ⟨_, rfl, ⟨_, _, _, _, _, _, _, _, _, _, _, _, _, _, rfl, rfl, rfl, fun a us pos kw nm qual doc pm an cdv ct cc hl hb => match us, hl with | [_], _ => by rcases hb with ⟨rfl, rfl⟩ | ⟨rfl, rfl⟩ <;> rfl, by decide +kernel, rfl, rfl, rfl, rfl, fun _ => ⟨_, rfl⟩, fun _ => rfl⟩, ⟨h1, h2, rfl, rfl, rfl, by decide +kernel, rfl, rfl⟩⟩
theorem xc_InvalidText (ev : EnvE P K mg fileS clsN isaT catT xdL) : Xc P K mg "InvalidText" ["line"] := xc_of ev (i := 1) (j := 1) (d := xd_InvalidText) rfl rfl fun h1 h2 => .inl ⟨_, rfl, ⟨_, _, _, _, _, _, _, _, _, _, _, _, _, _, rfl, rfl, rfl, fun a us pos kw nm qual doc pm an cdv ct cc hl hb => match us, hl with | [_], _ => by rcases hb with ⟨rfl, rfl⟩ | ⟨rfl, rfl⟩ <;> rfl, by decide +kernel, rfl, rfl, rfl, rfl, fun _ => ⟨_, rfl⟩, fun _ => rfl⟩, ⟨h1, h2, rfl, rfl, rfl, by decide +kernel, rfl, rfl⟩⟩
theorem sc_is_name : FnScope ["value", "letter"] ["value"] (defScope st_is_name) := ⟨rfl, rfl, rfl, by decide +kernel, rfl, by decide +kernel, by decide +kernel⟩
theorem ok_is_name (D : FunD K "is_name" "is_name" (defArgs st_is_name) (defBody st_is_name) (defScope st_is_name) [] [] f fd) (fr : FreeN frN mg) (ev : EnvE P K mg fileS clsN isaT catT xdL) (c_LETTERS : ∃ t, mg "LETTERS" = some (.str "abcdefghijklmnopqrstuvwxyz" t)) (c_LONGEST_NAME : ∃ t, mg "LONGEST_NAME" = some (.int 8 t)) : FnG P w K mg base 1 f fd ["value"] F_is_name :=
  have sc := sc_is_name
  fnG_ofD D sc rfl fun cdv A outer s H E hr hgu =>
    (dss_cons (ds_if (DW.dt (dw_or (dt_not (dt_truth (de_callB call_isi2 (cs_isi2 ev xdNL) rfl (fr 2 _ rfl) (by decide +kernel) (da_cons (de_var (i := 0) rfl (vis_by rfl) rfl rfl) (da_cons (de_bty rfl (fr 1 _ rfl) (by decide +kernel) (by decide) rfl) da_nil rfl) rfl) (by decide) rfl rfl rfl) fun _ => rfl)) (dw_or1 (dt_not (dt_chain ops_le ops_le de_int (de_callB call_len cs_len rfl (fr 3 _ rfl) (by decide +kernel) (da_cons (de_var (i := 0) rfl (vis_by rfl) rfl rfl) da_nil rfl) (by decide) rfl rfl rfl) (de_gloI rfl c_LONGEST_NAME rfl) rfl))))) (dss_cons (ds_ret de_bl)
    dss_nil) dss_nil)
    (dss_cons (ds_ret (de_callB (cr_all rfl) cs_all rfl (fr 0 _ rfl) (by decide +kernel) (da_cons (de_lc (own := [("letter", 1)]) (ts := [1]) rfl sc.nd (di_expr (de_var (i := 0) rfl (vis_by rfl) rfl rfl)) (blkOk_by (by kernel_rfl)) (by decide) (fun _ _ _ _ _ => (dg_name (i := 1) sc.nd rfl (loc_by rfl) (.inr rfl))) (fun _ _ _ _ _ => dts_nil) (fun _ _ _ _ _ => (de_cmp ops_in2 (de_var (i := 1) rfl (vis_by rfl) rfl rfl) (de_gloS rfl c_LETTERS rfl) rfl)) fun _ => rfl) da_nil rfl) (by decide) rfl rfl rfl))
    dss_nil))
theorem sc_is_integer : FnScope ["value"] ["value"] (defScope st_is_integer) := ⟨rfl, rfl, rfl, by decide +kernel, rfl, by decide +kernel, by decide +kernel⟩
theorem ok_is_integer (D : FunD K "is_integer" "is_integer" (defArgs st_is_integer) (defBody st_is_integer) (defScope st_is_integer) [] [] f fd) (fr : FreeN frN mg) (ev : EnvE P K mg fileS clsN isaT catT xdL) : FnG P w K mg base 1 f fd ["value"] F_is_integer :=
  have sc := sc_is_integer
  fnG_ofD D sc rfl fun cdv A outer s H E hr hgu =>
    (dss_cons (ds_ret (de_and (de_callB call_isi2 (cs_isi2 ev xdNL) rfl (fr 2 _ rfl) (by decide +kernel) (da_cons (de_var (i := 0) rfl (vis_by rfl) rfl rfl) (da_cons (de_bty rfl (fr 4 _ rfl) (by decide +kernel) (by decide) rfl) da_nil rfl) rfl) (by decide) rfl rfl rfl) (de_one (de_not (de_callB call_isi2 (cs_isi2 ev xdNL) rfl (fr 2 _ rfl) (by decide +kernel) (da_cons (de_var (i := 0) rfl (vis_by rfl) rfl rfl) (da_cons (de_bty rfl (fr 5 _ rfl) (by decide +kernel) (by decide) rfl) da_nil rfl) rfl) (by decide) rfl rfl rfl)))))
    dss_nil)
theorem sc_is_index : FnScope ["value"] ["value"] (defScope st_is_index) := ⟨rfl, rfl, rfl, by decide +kernel, rfl, by decide +kernel, by decide +kernel⟩
theorem ok_is_index (D : FunD K "is_index" "is_index" (defArgs st_is_index) (defBody st_is_index) (defScope st_is_index) [] [] f fd) (fr : FreeN frN mg) (ev : EnvE P K mg fileS clsN isaT catT xdL) (g_is_integer : CalG P w K mg base 1 "is_integer" ["value"] F_is_integer) (c_MOST_ARGUMENTS : ∃ t, mg "MOST_ARGUMENTS" = some (.int 3 t)) : FnG P w K mg base 2 f fd ["value"] F_is_index :=
  have sc := sc_is_index
  fnG_ofD D sc rfl fun cdv A outer s H E hr hgu =>
    (dss_cons (ds_ret (de_and (de_callC g_is_integer (hr.mono (by omega)) hgu rfl (da_cons (de_var (i := 0) rfl (vis_by rfl) rfl rfl) da_nil rfl) (argn_cons argn_nil) rfl rfl rfl) (de_one (de_chain ops_le ops_lt de_int (de_var (i := 0) rfl (vis_by rfl) rfl rfl) (de_gloI rfl c_MOST_ARGUMENTS rfl) rfl))))
    dss_nil)
theorem sc_is_tree : FnScope ["value", "with_indexes", "part"] ["value", "with_indexes"] (defScope st_is_tree) := ⟨rfl, rfl, rfl, by decide +kernel, rfl, by decide +kernel, by decide +kernel⟩
theorem ok_is_tree (n : Nat) (D : FunD K "is_tree" "is_tree" (defArgs st_is_tree) (defBody st_is_tree) (defScope st_is_tree) [] [] f fd) (fr : FreeN frN mg) (ev : EnvE P K mg fileS clsN isaT catT xdL) (g_is_name : CalG P w K mg base 1 "is_name" ["value"] F_is_name) (g_is_tree : CalG P w K mg base (n + 3) "is_tree" ["value", "with_indexes"] (F_is_tree n)) (g_is_index : CalG P w K mg base 2 "is_index" ["value"] F_is_index) (c_MOST_ARGUMENTS : ∃ t, mg "MOST_ARGUMENTS" = some (.int 3 t)) : FnG P w K mg base (n + 3 + 1) f fd ["value", "with_indexes"] (F_is_tree (n + 1)) :=
  have sc := sc_is_tree
  fnG_ofD D sc rfl fun cdv A outer s H E hr hgu =>
    (dss_cons (ds_if (dt_not (dt_truth (de_callB call_isi2 (cs_isi2 ev xdNL) rfl (fr 2 _ rfl) (by decide +kernel) (da_cons (de_var (i := 0) rfl (vis_by rfl) rfl rfl) (da_cons (de_bty rfl (fr 6 _ rfl) (by decide +kernel) (by decide) rfl) da_nil rfl) rfl) (by decide) rfl rfl rfl) fun _ => rfl)) (dss_cons (ds_ret (de_or (de_callC g_is_name (hr.mono (by omega)) hgu rfl (da_cons (de_var (i := 0) rfl (vis_by rfl) rfl rfl) da_nil rfl) (argn_cons argn_nil) rfl rfl rfl) (de_one (de_and (de_var (i := 1) rfl (vis_by rfl) rfl rfl) (de_one (de_callC g_is_index (hr.mono (by omega)) hgu rfl (da_cons (de_var (i := 0) rfl (vis_by rfl) rfl rfl) da_nil rfl) (argn_cons argn_nil) rfl rfl rfl))))))
    dss_nil) dss_nil)
    (dss_cons (ds_if (DW.dt (dw_or (dt_not (dt_chain ops_le ops_le de_int (de_callB call_len cs_len rfl (fr 3 _ rfl) (by decide +kernel) (da_cons (de_var (i := 0) rfl (vis_by rfl) rfl rfl) da_nil rfl) (by decide) rfl rfl rfl) (de_bin ops_add2 de_int (de_gloI rfl c_MOST_ARGUMENTS rfl)) rfl)) (dw_or1 (dt_not (dt_truth (de_callC g_is_name (hr.mono (by omega)) hgu rfl (da_cons (de_ix ix_seq ix_rule (de_var (i := 0) rfl (vis_by rfl) rfl rfl) de_int fun _ _ => rfl) da_nil rfl) (argn_cons argn_nil) rfl rfl rfl) fun _ => rfl))))) (dss_cons (ds_ret de_bl)
    dss_nil) dss_nil)
    (dss_cons (ds_ret (de_callB (cr_all rfl) cs_all rfl (fr 0 _ rfl) (by decide +kernel) (da_cons (de_lc (own := [("part", 2)]) (ts := [2]) rfl sc.nd (di_expr (de_sl sls2 (de_var (i := 0) rfl (vis_by rfl) rfl rfl) (do_some de_int) do_none)) (blkOk_by (by kernel_rfl)) (by decide) (fun _ _ _ _ _ => (dg_name (i := 2) sc.nd rfl (loc_by rfl) (.inr rfl))) (fun _ _ _ _ _ => dts_nil) (fun _ _ _ _ _ => (de_callC g_is_tree (hr.mono (by omega)) hgu rfl (da_cons (de_var (i := 2) rfl (vis_by rfl) rfl rfl) (da_cons (de_var (i := 1) rfl (vis_by rfl) rfl rfl) da_nil rfl) rfl) (argn_cons (argn_cons argn_nil)) rfl rfl rfl)) fun _ => rfl) da_nil rfl) (by decide) rfl rfl rfl))
    dss_nil)))
theorem sc_is_pattern : FnScope ["value"] ["value"] (defScope st_is_pattern) := ⟨rfl, rfl, rfl, by decide +kernel, rfl, by decide +kernel, by decide +kernel⟩
theorem ok_is_pattern (D : FunD K "is_pattern" "is_pattern" (defArgs st_is_pattern) (defBody st_is_pattern) (defScope st_is_pattern) [] [] f fd) (fr : FreeN frN mg) (ev : EnvE P K mg fileS clsN isaT catT xdL) (g_is_tree : CalG P w K mg base 43 "is_tree" ["value", "with_indexes"] (F_is_tree 40)) : FnG P w K mg base 44 f fd ["value"] F_is_pattern :=
  have sc := sc_is_pattern
  fnG_ofD D sc rfl fun cdv A outer s H E hr hgu =>
    (dss_cons (ds_ret (de_callC g_is_tree (hr.mono (by omega)) hgu rfl (da_cons (de_var (i := 0) rfl (vis_by rfl) rfl rfl) (da_cons de_bl da_nil rfl) rfl) (argn_cons (argn_cons argn_nil)) rfl rfl rfl))
    dss_nil)
theorem sc_require_pattern : FnScope ["value"] ["value"] (defScope st_require_pattern) := ⟨rfl, rfl, rfl, by decide +kernel, rfl, by decide +kernel, by decide +kernel⟩
theorem ok_require_pattern (D : FunD K "require_pattern" "require_pattern" (defArgs st_require_pattern) (defBody st_require_pattern) (defScope st_require_pattern) [] [] f fd) (fr : FreeN frN mg) (ev : EnvE P K mg fileS clsN isaT catT xdL) (g_is_pattern : CalG P w K mg base 44 "is_pattern" ["value"] F_is_pattern) : FnG P w K mg base 45 f fd ["value"] F_require_pattern :=
  have sc := sc_require_pattern
  fnG_ofD D sc rfl fun cdv A outer s H E hr hgu =>
    (dss_cons (ds_if (dt_not (dt_truth (de_callC g_is_pattern (hr.mono (by omega)) hgu rfl (da_cons (de_var (i := 0) rfl (vis_by rfl) rfl rfl) da_nil rfl) (argn_cons argn_nil) rfl rfl rfl) fun _ => rfl)) (dss_cons (ds_raise (k := 0) (xc_InvalidPattern ev) (by decide) rfl (hr.mono (by omega)) rfl (da_cons (de_var (i := 0) rfl (vis_by rfl) rfl rfl) da_nil rfl) rfl rfl rfl)
    dss_nil) dss_nil)
    dss_nil)
theorem sc_tree_text : FnScope ["tree", "part"] ["tree"] (defScope st_tree_text) := ⟨rfl, rfl, rfl, by decide +kernel, rfl, by decide +kernel, by decide +kernel⟩
theorem ok_tree_text (n : Nat) (D : FunD K "tree_text" "tree_text" (defArgs st_tree_text) (defBody st_tree_text) (defScope st_tree_text) [] [] f fd) (fr : FreeN frN mg) (ev : EnvE P K mg fileS clsN isaT catT xdL) (g_tree_text : CalG P w K mg base (n + 1) "tree_text" ["tree"] (F_tree_text n)) : FnG P w K mg base (n + 1 + 1) f fd ["tree"] (F_tree_text (n + 1)) :=
  have sc := sc_tree_text
  fnG_ofD D sc rfl fun cdv A outer s H E hr hgu =>
    (dss_cons (ds_if (dt_not (dt_truth (de_callB call_isi2 (cs_isi2 ev xdNL) rfl (fr 2 _ rfl) (by decide +kernel) (da_cons (de_var (i := 0) rfl (vis_by rfl) rfl rfl) (da_cons (de_bty rfl (fr 6 _ rfl) (by decide +kernel) (by decide) rfl) da_nil rfl) rfl) (by decide) rfl rfl rfl) fun _ => rfl)) (dss_cons (ds_ret (de_callT call_strA cs_str rfl (fr 1 _ rfl) (by decide +kernel) (da_cons (de_var (i := 0) rfl (vis_by rfl) rfl rfl) da_nil rfl) (by decide) rfl rfl rfl))
    dss_nil) dss_nil)
    (dss_cons (ds_ret (de_bin ops_add2 (de_bin ops_add2 (de_bin ops_add2 (de_ix ix_seq ix_rule (de_var (i := 0) rfl (vis_by rfl) rfl rfl) de_int fun _ _ => rfl) de_str) (de_m1 F.slot_str_join F.type_str_join ms_join de_str (de_lc (own := [("part", 1)]) (ts := [1]) rfl sc.nd (di_expr (de_sl sls2 (de_var (i := 0) rfl (vis_by rfl) rfl rfl) (do_some de_int) do_none)) (blkOk_by (by kernel_rfl)) (by decide) (fun _ _ _ _ _ => (dg_name (i := 1) sc.nd rfl (loc_by rfl) (.inr rfl))) (fun _ _ _ _ _ => dts_nil) (fun _ _ _ _ _ => (de_callC g_tree_text (hr.mono (by omega)) hgu rfl (da_cons (de_var (i := 1) rfl (vis_by rfl) rfl rfl) da_nil rfl) (argn_cons argn_nil) rfl rfl rfl)) fun _ => rfl) rfl rfl rfl)) de_str))
    dss_nil))
theorem sc_pattern_text : FnScope ["pattern"] ["pattern"] (defScope st_pattern_text) := ⟨rfl, rfl, rfl, by decide +kernel, rfl, by decide +kernel, by decide +kernel⟩
theorem ok_pattern_text (D : FunD K "pattern_text" "pattern_text" (defArgs st_pattern_text) (defBody st_pattern_text) (defScope st_pattern_text) [] [] f fd) (fr : FreeN frN mg) (ev : EnvE P K mg fileS clsN isaT catT xdL) (g_require_pattern : CalG P w K mg base 45 "require_pattern" ["value"] F_require_pattern) (g_tree_text : CalG P w K mg base 41 "tree_text" ["tree"] (F_tree_text 40)) : FnG P w K mg base 46 f fd ["pattern"] F_pattern_text :=
  have sc := sc_pattern_text
  fnG_ofD D sc rfl fun cdv A outer s H E hr hgu =>
    (dss_cons (ds_expr (de_callC g_require_pattern (hr.mono (by omega)) hgu rfl (da_cons (de_var (i := 0) rfl (vis_by rfl) rfl rfl) da_nil rfl) (argn_cons argn_nil) rfl rfl rfl) rfl)
    (dss_cons (ds_ret (de_callC g_tree_text (hr.mono (by omega)) hgu rfl (da_cons (de_var (i := 0) rfl (vis_by rfl) rfl rfl) da_nil rfl) (argn_cons argn_nil) rfl rfl rfl))
    dss_nil))
theorem sc_leaf_at : FnScope ["text", "start", "with_indexes", "end", "sign", "name"] ["text", "start", "with_indexes"] (defScope st_leaf_at) := ⟨rfl, rfl, rfl, by decide +kernel, rfl, by decide +kernel, by decide +kernel⟩
theorem ok_leaf_at (D : FunD K "leaf_at" "leaf_at" (defArgs st_leaf_at) (defBody st_leaf_at) (defScope st_leaf_at) [] [] f fd) (fr : FreeN frN mg) (ev : EnvE P K mg fileS clsN isaT catT xdL) (g_is_name : CalG P w K mg base 1 "is_name" ["value"] F_is_name) (c_INDEXES : ∃ t, mg "INDEXES" = some (.str "012" t)) (c_LETTERS : ∃ t, mg "LETTERS" = some (.str "abcdefghijklmnopqrstuvwxyz" t)) : FnG P w K mg base 2 f fd ["text", "start", "with_indexes"] F_leaf_at :=
  have sc := sc_leaf_at
  fnG_ofD D sc rfl fun cdv A outer s H E hr hgu =>
    (dss_cons (ds_set (i := 3) sc.nd rfl (loc_by rfl) (de_var (i := 1) rfl (vis_by rfl) rfl rfl) rfl (.inl rfl))
    (dss_cons (ds_while (passes_of rfl) (DW.dt (dw_and (dt_cmp ops_lt (de_var (i := 3) rfl (vis_by rfl) rfl rfl) (de_callB call_len cs_len rfl (fr 3 _ rfl) (by decide +kernel) (da_cons (de_var (i := 0) rfl (vis_by rfl) rfl rfl) da_nil rfl) (by decide) rfl rfl rfl) rfl) (dw_and1 (dt_cmp ops_in2 (de_ix ix_seq ix_rule (de_var (i := 0) rfl (vis_by rfl) rfl rfl) (de_var (i := 3) rfl (vis_by rfl) rfl rfl) fun _ _ => rfl) (de_gloS rfl c_LETTERS rfl) rfl)))) (dss_cons (ds_aug (i := 3) sc.nd rfl (loc_by rfl) ip_add de_int (.inl rfl))
    dss_nil))
    (dss_cons (ds_if (dt_cmp ops_gt (de_var (i := 3) rfl (vis_by rfl) rfl rfl) (de_var (i := 1) rfl (vis_by rfl) rfl rfl) rfl) (dss_cons (ds_set (i := 5) sc.nd rfl (loc_by rfl) (de_sl sls2 (de_var (i := 0) rfl (vis_by rfl) rfl rfl) (do_some (de_var (i := 1) rfl (vis_by rfl) rfl rfl)) (do_some (de_var (i := 3) rfl (vis_by rfl) rfl rfl))) rfl (.inl rfl))
    (dss_cons (ds_ret (de_tup (da_cons (de_ifE (dt_truth (de_callC g_is_name (hr.mono (by omega)) hgu rfl (da_cons (de_var (i := 5) rfl (vis_by rfl) rfl rfl) da_nil rfl) (argn_cons argn_nil) rfl rfl rfl) fun _ => rfl) (de_var (i := 5) rfl (vis_by rfl) rfl rfl) de_non) (da_cons (de_var (i := 3) rfl (vis_by rfl) rfl rfl) da_nil rfl) rfl)))
    dss_nil)) dss_nil)
    (dss_cons (ds_set (i := 4) sc.nd rfl (loc_by rfl) (de_sl sls2 (de_var (i := 0) rfl (vis_by rfl) rfl rfl) (do_some (de_var (i := 1) rfl (vis_by rfl) rfl rfl)) (do_some (de_bin ops_add2 (de_var (i := 1) rfl (vis_by rfl) rfl rfl) de_int))) rfl (.inl rfl))
    (dss_cons (ds_if (DW.dt (dw_and (dt_truth (de_var (i := 2) rfl (vis_by rfl) rfl rfl) fun _ => rfl) (dw_and (dt_cmp (ops_ne2 (room_u hr 64 (by decide))) (de_var (i := 4) rfl (vis_by rfl) rfl rfl) de_str rfl) (dw_and1 (dt_cmp ops_in2 (de_var (i := 4) rfl (vis_by rfl) rfl rfl) (de_gloS rfl c_INDEXES rfl) rfl))))) (dss_cons (ds_ret (de_tup (da_cons (de_callT call_int_str cs_int rfl (fr 4 _ rfl) (by decide +kernel) (da_cons (de_var (i := 4) rfl (vis_by rfl) rfl rfl) da_nil rfl) (by decide) rfl rfl rfl) (da_cons (de_bin ops_add2 (de_var (i := 1) rfl (vis_by rfl) rfl rfl) de_int) da_nil rfl) rfl)))
    dss_nil) dss_nil)
    (dss_cons (ds_ret (de_tup (da_cons de_non (da_cons (de_var (i := 1) rfl (vis_by rfl) rfl rfl) da_nil rfl) rfl)))
    dss_nil))))))
theorem sc_closed : FnScope ["opened", "value", "text", "at", "sign", "name", "parts"] ["opened", "value", "text", "at"] (defScope st_closed) := ⟨rfl, rfl, rfl, by decide +kernel, rfl, by decide +kernel, by decide +kernel⟩
theorem ok_closed (D : FunD K "closed" "closed" (defArgs st_closed) (defBody st_closed) (defScope st_closed) [] [] f fd) (fr : FreeN frN mg) (ev : EnvE P K mg fileS clsN isaT catT xdL) (c_MOST_ARGUMENTS : ∃ t, mg "MOST_ARGUMENTS" = some (.int 3 t)) : FnT P w K mg base 1 f fd ["opened", "value", "text", "at"] F_closed :=
  have sc := sc_closed
  fnT_ofD D sc rfl fun cdv A outer s H E hr hgu =>
    (dss_cons (ds_while (passes_of rfl) (dt_cmp (ops_ne2 (room_u hr 64 (by decide))) (de_var (i := 0) rfl (vis_by rfl) rfl rfl) (de_lst da_nil) rfl) (dss_cons (ds_asg (de_ix ix_seq ix_rule (de_var (i := 0) rfl (vis_by rfl) rfl rfl) (de_un uns_neg de_int) fun _ _ => rfl) (dg_tup rfl (dgs_cons (dg_name (i := 5) sc.nd rfl (loc_by rfl) (.inl rfl)) (dgs_cons (dg_name (i := 6) sc.nd rfl (loc_by rfl) (.inl rfl)) dgs_nil rfl) rfl) rfl rfl) rfl rfl rfl)
    (dss_cons (ds_expr (de_appS (de_var (i := 6) rfl (vis_by rfl) rfl rfl) (de_var (i := 1) rfl (vis_by rfl) rfl rfl) rfl rfl rfl rfl rfl) rfl)
    (dss_cons (ds_set (i := 4) sc.nd rfl (loc_by rfl) (de_sl sls2 (de_var (i := 2) rfl (vis_by rfl) rfl rfl) (do_some (de_var (i := 3) rfl (vis_by rfl) rfl rfl)) (do_some (de_bin ops_add2 (de_var (i := 3) rfl (vis_by rfl) rfl rfl) de_int))) rfl (.inl rfl))
    (dss_cons (ds_if (DW.dt (dw_and (dt_cmp (ops_eq2 (room_u hr 64 (by decide))) (de_var (i := 4) rfl (vis_by rfl) rfl rfl) de_str rfl) (dw_and1 (dt_cmp ops_lt (de_callB call_len cs_len rfl (fr 3 _ rfl) (by decide +kernel) (da_cons (de_var (i := 6) rfl (vis_by rfl) rfl rfl) da_nil rfl) (by decide) rfl rfl rfl) (de_gloI rfl c_MOST_ARGUMENTS rfl) rfl)))) (dss_cons (ds_ret (de_tup (da_cons de_non (da_cons (de_bin ops_add2 (de_var (i := 3) rfl (vis_by rfl) rfl rfl) de_int) da_nil rfl) rfl)))
    dss_nil) dss_nil)
    (dss_cons (ds_if (dt_cmp (ops_ne2 (room_u hr 64 (by decide))) (de_var (i := 4) rfl (vis_by rfl) rfl rfl) de_str rfl) (dss_cons (ds_ret (de_tup (da_cons de_non (da_cons de_non da_nil rfl) rfl)))
    dss_nil) dss_nil)
    (dss_cons (ds_expr (de_pop (de_var (i := 0) rfl (vis_by rfl) rfl rfl) rfl rfl) rfl)
    (dss_cons (ds_par (i := 1) (j := 3) rfl sc.nd rfl rfl (by decide) rfl rfl (da_cons (de_tup (da_cons (de_var (i := 5) rfl (vis_by rfl) rfl rfl) (da_star (de_var (i := 6) rfl (vis_by rfl) rfl rfl) da_nil rfl) rfl)) (da_cons (de_bin ops_add2 (de_var (i := 3) rfl (vis_by rfl) rfl rfl) de_int) da_nil rfl) rfl) rfl rfl)
    dss_nil))))))))
    (dss_cons (ds_ret (de_tup (da_cons (de_var (i := 1) rfl (vis_by rfl) rfl rfl) (da_cons (de_var (i := 3) rfl (vis_by rfl) rfl rfl) da_nil rfl) rfl)))
    dss_nil))
theorem sc_tree_in : FnScope ["text", "with_indexes", "opened", "at", "leaf", "value"] ["text", "with_indexes"] (defScope st_tree_in) := ⟨rfl, rfl, rfl, by decide +kernel, rfl, by decide +kernel, by decide +kernel⟩
theorem ok_tree_in (D : FunD K "tree_in" "tree_in" (defArgs st_tree_in) (defBody st_tree_in) (defScope st_tree_in) [] [] f fd) (fr : FreeN frN mg) (ev : EnvE P K mg fileS clsN isaT catT xdL) (g_leaf_at : CalG P w K mg base 2 "leaf_at" ["text", "start", "with_indexes"] F_leaf_at) (g_closed : CalT P w K mg base (1) "closed" ["opened", "value", "text", "at"] (F_closed)) (g_is_index : CalG P w K mg base 2 "is_index" ["value"] F_is_index) : FnG P w K mg base 3 f fd ["text", "with_indexes"] F_tree_in :=
  have sc := sc_tree_in
  fnG_ofD D sc rfl fun cdv A outer s H E hr hgu =>
    (dss_cons (ds_par (i := 2) (j := 3) rfl sc.nd rfl rfl (by decide) rfl rfl (da_cons (de_lst da_nil) (da_cons de_int da_nil rfl) rfl) rfl rfl)
    (dss_cons (ds_while (passes_of rfl) (dt_cmp ops_isNot (de_var (i := 3) rfl (vis_by rfl) rfl rfl) de_non rfl) (dss_cons (ds_asg (de_callC g_leaf_at (hr.mono (by omega)) hgu rfl (da_cons (de_var (i := 0) rfl (vis_by rfl) rfl rfl) (da_cons (de_var (i := 3) rfl (vis_by rfl) rfl rfl) (da_cons (de_var (i := 1) rfl (vis_by rfl) rfl rfl) da_nil rfl) rfl) rfl) (argn_cons (argn_cons (argn_cons argn_nil))) rfl rfl rfl) (dg_tup rfl (dgs_cons (dg_name (i := 4) sc.nd rfl (loc_by rfl) (.inl rfl)) (dgs_cons (dg_name (i := 3) sc.nd rfl (loc_by rfl) (.inl rfl)) dgs_nil rfl) rfl) rfl rfl) rfl rfl rfl)
    (dss_cons (ds_if (dt_cmp ops_is (de_var (i := 4) rfl (vis_by rfl) rfl rfl) de_non rfl) (dss_cons (ds_ret de_non)
    dss_nil) dss_nil)
    (dss_cons (ds_if (DW.dt (dw_and (dt_cmp (ops_eq2 (room_u hr 64 (by decide))) (de_sl sls2 (de_var (i := 0) rfl (vis_by rfl) rfl rfl) (do_some (de_var (i := 3) rfl (vis_by rfl) rfl rfl)) (do_some (de_bin ops_add2 (de_var (i := 3) rfl (vis_by rfl) rfl rfl) de_int))) de_str rfl) (dw_and1 (dt_not (dt_truth (de_callC g_is_index (hr.mono (by omega)) hgu rfl (da_cons (de_var (i := 4) rfl (vis_by rfl) rfl rfl) da_nil rfl) (argn_cons argn_nil) rfl rfl rfl) fun _ => rfl))))) (dss_cons (ds_expr (de_app (de_var (i := 2) rfl (vis_by rfl) rfl rfl) (de_tup (da_cons (de_var (i := 4) rfl (vis_by rfl) rfl rfl) (da_cons (de_sto (de_lst da_nil)) da_nil rfl) rfl)) rfl rfl rfl rfl rfl) rfl)
    (dss_cons (ds_aug (i := 3) sc.nd rfl (loc_by rfl) ip_add de_int (.inl rfl))
    (dss_cons ds_continue
    dss_nil))) dss_nil)
    (dss_cons (ds_asg (de_callC g_closed (hr.mono (by omega)) hgu rfl (da_cons (de_var (i := 2) rfl (vis_by rfl) rfl rfl) (da_cons (de_var (i := 4) rfl (vis_by rfl) rfl rfl) (da_cons (de_var (i := 0) rfl (vis_by rfl) rfl rfl) (da_cons (de_var (i := 3) rfl (vis_by rfl) rfl rfl) da_nil rfl) rfl) rfl) rfl) (argn_cons (argn_cons (argn_cons (argn_cons argn_nil)))) rfl rfl rfl) (dg_tup rfl (dgs_cons (dg_name (i := 5) sc.nd rfl (loc_by rfl) (.inl rfl)) (dgs_cons (dg_name (i := 3) sc.nd rfl (loc_by rfl) (.inl rfl)) dgs_nil rfl) rfl) rfl rfl) rfl rfl rfl)
    (dss_cons (ds_if (dt_cmp ops_isNot (de_var (i := 5) rfl (vis_by rfl) rfl rfl) de_non rfl) (dss_cons (ds_ret (de_ifE (dt_cmp (ops_eq2 (room_u hr 64 (by decide))) (de_var (i := 3) rfl (vis_by rfl) rfl rfl) (de_callB call_len cs_len rfl (fr 3 _ rfl) (by decide +kernel) (da_cons (de_var (i := 0) rfl (vis_by rfl) rfl rfl) da_nil rfl) (by decide) rfl rfl rfl) rfl) (de_var (i := 5) rfl (vis_by rfl) rfl rfl) de_non))
    dss_nil) dss_nil)
    dss_nil))))))
    (dss_cons (ds_ret de_non)
    dss_nil)))
theorem sc_read_tree : FnScope ["text", "with_indexes", "found"] ["text", "with_indexes"] (defScope st_read_tree) := ⟨rfl, rfl, rfl, by decide +kernel, rfl, by decide +kernel, by decide +kernel⟩
theorem ok_read_tree (D : FunD K "read_tree" "read_tree" (defArgs st_read_tree) (defBody st_read_tree) (defScope st_read_tree) [] [] f fd) (fr : FreeN frN mg) (ev : EnvE P K mg fileS clsN isaT catT xdL) (g_tree_in : CalG P w K mg base 3 "tree_in" ["text", "with_indexes"] F_tree_in) : FnG P w K mg base 4 f fd ["text", "with_indexes"] F_read_tree :=
  have sc := sc_read_tree
  fnG_ofD D sc rfl fun cdv A outer s H E hr hgu =>
    (dss_cons (ds_if (dt_not (dt_truth (de_callB call_isi2 (cs_isi2 ev xdNL) rfl (fr 2 _ rfl) (by decide +kernel) (da_cons (de_var (i := 0) rfl (vis_by rfl) rfl rfl) (da_cons (de_bty rfl (fr 1 _ rfl) (by decide +kernel) (by decide) rfl) da_nil rfl) rfl) (by decide) rfl rfl rfl) fun _ => rfl)) (dss_cons (ds_raise (k := 0) (xc_InvalidText ev) (by decide) rfl (hr.mono (by omega)) rfl (da_cons de_int da_nil rfl) rfl rfl rfl)
    dss_nil) dss_nil)
    (dss_cons (ds_set (i := 2) sc.nd rfl (loc_by rfl) (de_callC g_tree_in (hr.mono (by omega)) hgu rfl (da_cons (de_var (i := 0) rfl (vis_by rfl) rfl rfl) (da_cons (de_var (i := 1) rfl (vis_by rfl) rfl rfl) da_nil rfl) rfl) (argn_cons (argn_cons argn_nil)) rfl rfl rfl) rfl (.inl rfl))
    (dss_cons (ds_if (dt_cmp ops_is (de_var (i := 2) rfl (vis_by rfl) rfl rfl) de_non rfl) (dss_cons (ds_raise (k := 0) (xc_InvalidText ev) (by decide) rfl (hr.mono (by omega)) rfl (da_cons de_int da_nil rfl) rfl rfl rfl)
    dss_nil) dss_nil)
    (dss_cons (ds_ret (de_var (i := 2) rfl (vis_by rfl) rfl rfl))
    dss_nil))))
theorem sc_read_shape : FnScope ["text"] ["text"] (defScope st_read_shape) := ⟨rfl, rfl, rfl, by decide +kernel, rfl, by decide +kernel, by decide +kernel⟩
theorem ok_read_shape (D : FunD K "read_shape" "read_shape" (defArgs st_read_shape) (defBody st_read_shape) (defScope st_read_shape) [] [] f fd) (fr : FreeN frN mg) (ev : EnvE P K mg fileS clsN isaT catT xdL) (g_read_tree : CalG P w K mg base 4 "read_tree" ["text", "with_indexes"] F_read_tree) : FnG P w K mg base 5 f fd ["text"] F_read_shape :=
  have sc := sc_read_shape
  fnG_ofD D sc rfl fun cdv A outer s H E hr hgu =>
    (dss_cons (ds_ret (de_callC g_read_tree (hr.mono (by omega)) hgu rfl (da_cons (de_var (i := 0) rfl (vis_by rfl) rfl rfl) (da_cons de_bl da_nil rfl) rfl) (argn_cons (argn_cons argn_nil)) rfl rfl rfl))
    dss_nil)
theorem sc_read_pattern : FnScope ["text"] ["text"] (defScope st_read_pattern) := ⟨rfl, rfl, rfl, by decide +kernel, rfl, by decide +kernel, by decide +kernel⟩
theorem ok_read_pattern (D : FunD K "read_pattern" "read_pattern" (defArgs st_read_pattern) (defBody st_read_pattern) (defScope st_read_pattern) [] [] f fd) (fr : FreeN frN mg) (ev : EnvE P K mg fileS clsN isaT catT xdL) (g_read_tree : CalG P w K mg base 4 "read_tree" ["text", "with_indexes"] F_read_tree) : FnG P w K mg base 5 f fd ["text"] F_read_pattern :=
  have sc := sc_read_pattern
  fnG_ofD D sc rfl fun cdv A outer s H E hr hgu =>
    (dss_cons (ds_ret (de_callC g_read_tree (hr.mono (by omega)) hgu rfl (da_cons (de_var (i := 0) rfl (vis_by rfl) rfl rfl) (da_cons de_bl da_nil rfl) rfl) (argn_cons (argn_cons argn_nil)) rfl rfl rfl))
    dss_nil)
theorem sc__law_rng : FnScope ["_law_script", "_law_k", "_law_cell"] ["_law_script", "_law_k"] (defScope st__law_rng) := ⟨rfl, rfl, rfl, by decide +kernel, rfl, by decide +kernel, by decide +kernel⟩
theorem ok__law_rng (D : FunD K "_law_rng" "_law_rng" (defArgs st__law_rng) (defBody st__law_rng) (defScope st__law_rng) [] [] f fd) (fr : FreeN frN mg) (ev : EnvE P K mg fileS clsN isaT catT xdL) : FnG P w K mg base 1 f fd ["_law_script", "_law_k"] F__law_rng :=
  have sc := sc__law_rng
  fnG_ofD D sc rfl fun cdv A outer s H E hr hgu =>
    (dss_cons (ds_set (i := 2) sc.nd rfl (loc_by rfl) (de_ifE (dt_cmp ops_lt (de_var (i := 1) rfl (vis_by rfl) rfl rfl) (de_callB call_len cs_len rfl (fr 3 _ rfl) (by decide +kernel) (da_cons (de_var (i := 0) rfl (vis_by rfl) rfl rfl) da_nil rfl) (by decide) rfl rfl rfl) rfl) (de_callB call_abs cs_abs rfl (fr 8 _ rfl) (by decide +kernel) (da_cons (de_ix ix_seq ix_rule (de_var (i := 0) rfl (vis_by rfl) rfl rfl) (de_var (i := 1) rfl (vis_by rfl) rfl rfl) fun _ _ => rfl) da_nil rfl) (by decide) rfl rfl rfl) de_int) rfl (.inl rfl))
    (dss_cons (ds_ret (de_lst (da_cons (de_callB (call_max12 rfl) cs_max12 rfl (fr 7 _ rfl) (by decide +kernel) (da_cons de_int (da_cons (de_bin ops_sub (de_var (i := 2) rfl (vis_by rfl) rfl rfl) (de_bin ops_pow de_int de_int)) da_nil rfl) rfl) (by decide) rfl rfl rfl) (da_cons (de_bin ops_add2 (de_bin ops_mod (de_bin ops_pow (de_bin ops_add2 (de_bin ops_add2 (de_bin ops_mod (de_var (i := 2) rfl (vis_by rfl) rfl rfl) de_int) (de_bin ops_mul2 de_int (de_var (i := 1) rfl (vis_by rfl) rfl rfl))) de_int) de_int) de_int) de_int) da_nil rfl) rfl)))
    dss_nil))
theorem sc__law_draw : FnScope ["_law_rng_here", "_law_many", "_law_digit"] ["_law_rng_here", "_law_many"] (defScope st__law_draw) := ⟨rfl, rfl, rfl, by decide +kernel, rfl, by decide +kernel, by decide +kernel⟩
theorem ok__law_draw (D : FunD K "_law_draw" "_law_draw" (defArgs st__law_draw) (defBody st__law_draw) (defScope st__law_draw) [] [] f fd) (fr : FreeN frN mg) (ev : EnvE P K mg fileS clsN isaT catT xdL) : FnG P w K mg base 1 f fd ["_law_rng_here", "_law_many"] F__law_draw :=
  have sc := sc__law_draw
  fnG_ofD D sc rfl fun cdv A outer s H E hr hgu =>
    (dss_cons (ds_if (dt_cmp ops_gt (de_ix ix_seq ix_rule (de_var (i := 0) rfl (vis_by rfl) rfl rfl) de_int fun _ _ => rfl) de_int rfl) (dss_cons (ds_asg (de_callB call_divmodW cs_divmod rfl (fr 9 _ rfl) (by decide +kernel) (da_cons (de_ix ix_seq ix_rule (de_var (i := 0) rfl (vis_by rfl) rfl rfl) de_int fun _ _ => rfl) (da_cons (de_var (i := 1) rfl (vis_by rfl) rfl rfl) da_nil rfl) rfl) (by decide) rfl rfl rfl) (dg_tup rfl (dgs_cons (dg_ix (de_var (i := 0) rfl (vis_by rfl) rfl rfl) de_int fun _ => rfl) (dgs_cons (dg_name (i := 2) sc.nd rfl (loc_by rfl) (.inl rfl)) dgs_nil rfl) rfl) rfl rfl) rfl rfl rfl)
    (dss_cons (ds_ret (de_var (i := 2) rfl (vis_by rfl) rfl rfl))
    dss_nil)) dss_nil)
    (dss_cons (ds_asg (de_bin ops_mod (de_bin ops_add2 (de_bin ops_mul2 (de_ix ix_seq ix_rule (de_var (i := 0) rfl (vis_by rfl) rfl rfl) de_int fun _ _ => rfl) de_int) de_int) de_int) (dg_ix (de_var (i := 0) rfl (vis_by rfl) rfl rfl) de_int fun _ => rfl) rfl rfl rfl)
    (dss_cons (ds_ret (de_bin ops_mod (de_bin ops_fdiv (de_bin ops_mod (de_bin ops_mul2 (de_ix ix_seq ix_rule (de_var (i := 0) rfl (vis_by rfl) rfl rfl) de_int fun _ _ => rfl) (de_ix ix_seq ix_rule (de_var (i := 0) rfl (vis_by rfl) rfl rfl) de_int fun _ _ => rfl)) de_int) de_int) (de_var (i := 1) rfl (vis_by rfl) rfl rfl)))
    dss_nil)))
theorem sc__law_choice : FnScope ["_law_rng_here", "_law_options"] ["_law_rng_here", "_law_options"] (defScope st__law_choice) := ⟨rfl, rfl, rfl, by decide +kernel, rfl, by decide +kernel, by decide +kernel⟩
theorem ok__law_choice (D : FunD K "_law_choice" "_law_choice" (defArgs st__law_choice) (defBody st__law_choice) (defScope st__law_choice) [] [] f fd) (fr : FreeN frN mg) (ev : EnvE P K mg fileS clsN isaT catT xdL) (g__law_draw : CalG P w K mg base 1 "_law_draw" ["_law_rng_here", "_law_many"] F__law_draw) : FnG P w K mg base 2 f fd ["_law_rng_here", "_law_options"] F__law_choice :=
  have sc := sc__law_choice
  fnG_ofD D sc rfl fun cdv A outer s H E hr hgu =>
    (dss_cons (ds_ret (de_ix ix_seq ix_rule (de_var (i := 1) rfl (vis_by rfl) rfl rfl) (de_callC g__law_draw (hr.mono (by omega)) hgu rfl (da_cons (de_var (i := 0) rfl (vis_by rfl) rfl rfl) (da_cons (de_callB call_len cs_len rfl (fr 3 _ rfl) (by decide +kernel) (da_cons (de_var (i := 1) rfl (vis_by rfl) rfl rfl) da_nil rfl) (by decide) rfl rfl rfl) da_nil rfl) rfl) (argn_cons (argn_cons argn_nil)) rfl rfl rfl) fun _ _ => rfl))
    dss_nil)
theorem sc__law_pattern_text : FnScope ["_law_pattern", "_law_part"] ["_law_pattern"] (defScope st__law_pattern_text) := ⟨rfl, rfl, rfl, by decide +kernel, rfl, by decide +kernel, by decide +kernel⟩
theorem ok__law_pattern_text (n : Nat) (D : FunD K "_law_pattern_text" "_law_pattern_text" (defArgs st__law_pattern_text) (defBody st__law_pattern_text) (defScope st__law_pattern_text) [] [] f fd) (fr : FreeN frN mg) (ev : EnvE P K mg fileS clsN isaT catT xdL) (g__law_pattern_text : CalG P w K mg base (n + 1) "_law_pattern_text" ["_law_pattern"] (F__law_pattern_text n)) : FnG P w K mg base (n + 1 + 1) f fd ["_law_pattern"] (F__law_pattern_text (n + 1)) :=
  have sc := sc__law_pattern_text
  fnG_ofD D sc rfl fun cdv A outer s H E hr hgu =>
    (dss_cons (ds_if (dt_not (dt_truth (de_callB call_isi2 (cs_isi2 ev xdNL) rfl (fr 2 _ rfl) (by decide +kernel) (da_cons (de_var (i := 0) rfl (vis_by rfl) rfl rfl) (da_cons (de_bty rfl (fr 6 _ rfl) (by decide +kernel) (by decide) rfl) da_nil rfl) rfl) (by decide) rfl rfl rfl) fun _ => rfl)) (dss_cons (ds_ret (de_callT call_strA cs_str rfl (fr 1 _ rfl) (by decide +kernel) (da_cons (de_var (i := 0) rfl (vis_by rfl) rfl rfl) da_nil rfl) (by decide) rfl rfl rfl))
    dss_nil) dss_nil)
    (dss_cons (ds_ret (de_bin ops_add2 (de_bin ops_add2 (de_bin ops_add2 (de_ix ix_seq ix_rule (de_var (i := 0) rfl (vis_by rfl) rfl rfl) de_int fun _ _ => rfl) de_str) (de_m1 F.slot_str_join F.type_str_join ms_join de_str (de_lc (own := [("_law_part", 1)]) (ts := [1]) rfl sc.nd (di_expr (de_sl sls2 (de_var (i := 0) rfl (vis_by rfl) rfl rfl) (do_some de_int) do_none)) (blkOk_by (by kernel_rfl)) (by decide) (fun _ _ _ _ _ => (dg_name (i := 1) sc.nd rfl (loc_by rfl) (.inr rfl))) (fun _ _ _ _ _ => dts_nil) (fun _ _ _ _ _ => (de_callC g__law_pattern_text (hr.mono (by omega)) hgu rfl (da_cons (de_var (i := 1) rfl (vis_by rfl) rfl rfl) da_nil rfl) (argn_cons argn_nil) rfl rfl rfl)) fun _ => rfl) rfl rfl rfl)) de_str))
    dss_nil))
theorem sc__law_word : FnScope ["_law_rng_here", "_law_letters", "_law_k"] ["_law_rng_here"] (defScope st__law_word) := ⟨rfl, rfl, rfl, by decide +kernel, rfl, by decide +kernel, by decide +kernel⟩
theorem ok__law_word (D : FunD K "_law_word" "_law_word" (defArgs st__law_word) (defBody st__law_word) (defScope st__law_word) [] [] f fd) (fr : FreeN frN mg) (ev : EnvE P K mg fileS clsN isaT catT xdL) (g__law_choice : CalG P w K mg base 2 "_law_choice" ["_law_rng_here", "_law_options"] F__law_choice) (g__law_draw : CalG P w K mg base 1 "_law_draw" ["_law_rng_here", "_law_many"] F__law_draw) : FnG P w K mg base 3 f fd ["_law_rng_here"] F__law_word :=
  have sc := sc__law_word
  fnG_ofD D sc rfl fun cdv A outer s H E hr hgu =>
    (dss_cons (ds_set (i := 1) sc.nd rfl (loc_by rfl) de_str rfl (.inl rfl))
    (dss_cons (ds_ret (de_m1 F.slot_str_join F.type_str_join ms_join de_str (de_lc (own := [("_law_k", 2)]) (ts := [2]) rfl sc.nd (di_range1 rfl (fr 10 _ rfl) (da_cons (de_ix ix_seq ix_rule (de_lst (da_cons de_int (da_cons de_int (da_cons de_int (da_cons de_int da_nil rfl) rfl) rfl) rfl)) (de_callC g__law_draw (hr.mono (by omega)) hgu rfl (da_cons (de_var (i := 0) rfl (vis_by rfl) rfl rfl) (da_cons de_int da_nil rfl) rfl) (argn_cons (argn_cons argn_nil)) rfl rfl rfl) fun _ _ => rfl) da_nil rfl) rfl) (blkOk_by (by kernel_rfl)) (by decide) (fun _ _ _ _ _ => (dg_name (i := 2) sc.nd rfl (loc_by rfl) (.inr rfl))) (fun _ _ _ _ _ => dts_nil) (fun _ _ _ _ _ => (de_callC g__law_choice (hr.mono (by omega)) hgu rfl (da_cons (de_var (i := 0) rfl (vis_by rfl) rfl rfl) (da_cons (de_var (i := 1) rfl (vis_by rfl) rfl rfl) da_nil rfl) rfl) (argn_cons (argn_cons argn_nil)) rfl rfl rfl)) fun _ => rfl) rfl rfl rfl))
    dss_nil))
theorem sc__law_tree : FnScope ["_law_rng_here", "_law_levels", "_law_is_indexed", "_law_k"] ["_law_rng_here", "_law_levels", "_law_is_indexed"] (defScope st__law_tree) := ⟨rfl, rfl, rfl, by decide +kernel, rfl, by decide +kernel, by decide +kernel⟩
theorem ok__law_tree (n : Nat) (D : FunD K "_law_tree" "_law_tree" (defArgs st__law_tree) (defBody st__law_tree) (defScope st__law_tree) [] [] f fd) (fr : FreeN frN mg) (ev : EnvE P K mg fileS clsN isaT catT xdL) (g__law_word : CalG P w K mg base 3 "_law_word" ["_law_rng_here"] F__law_word) (g__law_draw : CalG P w K mg base 1 "_law_draw" ["_law_rng_here", "_law_many"] F__law_draw) (g__law_tree : CalG P w K mg base (n + 4) "_law_tree" ["_law_rng_here", "_law_levels", "_law_is_indexed"] (F__law_tree n)) : FnG P w K mg base (n + 4 + 1) f fd ["_law_rng_here", "_law_levels", "_law_is_indexed"] (F__law_tree (n + 1)) :=
  have sc := sc__law_tree
  fnG_ofD D sc rfl fun cdv A outer s H E hr hgu =>
    (dss_cons (ds_if (DW.dt (dw_or (dt_cmp ops_lt (de_var (i := 1) rfl (vis_by rfl) rfl rfl) de_int rfl) (dw_or1 (dt_cmp (ops_eq2 (room_u hr 64 (by decide))) (de_callC g__law_draw (hr.mono (by omega)) hgu rfl (da_cons (de_var (i := 0) rfl (vis_by rfl) rfl rfl) (da_cons de_int da_nil rfl) rfl) (argn_cons (argn_cons argn_nil)) rfl rfl rfl) de_int rfl)))) (dss_cons (ds_if (DW.dt (dw_and (dt_truth (de_var (i := 2) rfl (vis_by rfl) rfl rfl) fun _ => rfl) (dw_and1 (dt_cmp (ops_eq2 (room_u hr 64 (by decide))) (de_callC g__law_draw (hr.mono (by omega)) hgu rfl (da_cons (de_var (i := 0) rfl (vis_by rfl) rfl rfl) (da_cons de_int da_nil rfl) rfl) (argn_cons (argn_cons argn_nil)) rfl rfl rfl) de_int rfl)))) (dss_cons (ds_ret (de_callC g__law_draw (hr.mono (by omega)) hgu rfl (da_cons (de_var (i := 0) rfl (vis_by rfl) rfl rfl) (da_cons de_int da_nil rfl) rfl) (argn_cons (argn_cons argn_nil)) rfl rfl rfl))
    dss_nil) dss_nil)
    (dss_cons (ds_ret (de_callC g__law_word (hr.mono (by omega)) hgu rfl (da_cons (de_var (i := 0) rfl (vis_by rfl) rfl rfl) da_nil rfl) (argn_cons argn_nil) rfl rfl rfl))
    dss_nil)) dss_nil)
    (dss_cons (ds_ret (de_bin ops_add2 (de_tup (da_cons (de_callC g__law_word (hr.mono (by omega)) hgu rfl (da_cons (de_var (i := 0) rfl (vis_by rfl) rfl rfl) da_nil rfl) (argn_cons argn_nil) rfl rfl rfl) da_nil rfl)) (de_callT call_tuple_of cs_tuple rfl (fr 6 _ rfl) (by decide +kernel) (da_cons (de_lc (own := [("_law_k", 3)]) (ts := [3]) rfl sc.nd (di_range1 rfl (fr 10 _ rfl) (da_cons (de_bin ops_add2 de_int (de_callC g__law_draw (hr.mono (by omega)) hgu rfl (da_cons (de_var (i := 0) rfl (vis_by rfl) rfl rfl) (da_cons de_int da_nil rfl) rfl) (argn_cons (argn_cons argn_nil)) rfl rfl rfl)) da_nil rfl) rfl) (blkOk_by (by kernel_rfl)) (by decide) (fun _ _ _ _ _ => (dg_name (i := 3) sc.nd rfl (loc_by rfl) (.inr rfl))) (fun _ _ _ _ _ => dts_nil) (fun _ _ _ _ _ => (de_callC g__law_tree (hr.mono (by omega)) hgu rfl (da_cons (de_var (i := 0) rfl (vis_by rfl) rfl rfl) (da_cons (de_bin ops_sub (de_var (i := 1) rfl (vis_by rfl) rfl rfl) de_int) (da_cons (de_var (i := 2) rfl (vis_by rfl) rfl rfl) da_nil rfl) rfl) rfl) (argn_cons (argn_cons (argn_cons argn_nil))) rfl rfl rfl)) fun _ => rfl) da_nil rfl) (by decide) rfl rfl rfl)))
    dss_nil))
theorem sc__law_deep : FnScope ["_law_rng_here", "_law_found", "_law_turn"] ["_law_rng_here"] (defScope st__law_deep) := ⟨rfl, rfl, rfl, by decide +kernel, rfl, by decide +kernel, by decide +kernel⟩
theorem ok__law_deep (D : FunD K "_law_deep" "_law_deep" (defArgs st__law_deep) (defBody st__law_deep) (defScope st__law_deep) [] [] f fd) (fr : FreeN frN mg) (ev : EnvE P K mg fileS clsN isaT catT xdL) (g__law_tree : CalG P w K mg base 44 "_law_tree" ["_law_rng_here", "_law_levels", "_law_is_indexed"] (F__law_tree 40)) (g__law_choice : CalG P w K mg base 2 "_law_choice" ["_law_rng_here", "_law_options"] F__law_choice) (g__law_draw : CalG P w K mg base 1 "_law_draw" ["_law_rng_here", "_law_many"] F__law_draw) (g__law_word : CalG P w K mg base 3 "_law_word" ["_law_rng_here"] F__law_word) : FnG P w K mg base 45 f fd ["_law_rng_here"] F__law_deep :=
  have sc := sc__law_deep
  fnG_ofD D sc rfl fun cdv A outer s H E hr hgu =>
    (dss_cons (ds_set (i := 1) sc.nd rfl (loc_by rfl) (de_callC g__law_tree (hr.mono (by omega)) hgu rfl (da_cons (de_var (i := 0) rfl (vis_by rfl) rfl rfl) (da_cons de_int (da_cons (de_cmp (ops_eq2 (room_u hr 64 (by decide))) (de_callC g__law_draw (hr.mono (by omega)) hgu rfl (da_cons (de_var (i := 0) rfl (vis_by rfl) rfl rfl) (da_cons de_int da_nil rfl) rfl) (argn_cons (argn_cons argn_nil)) rfl rfl rfl) de_int rfl) da_nil rfl) rfl) rfl) (argn_cons (argn_cons (argn_cons argn_nil))) rfl rfl rfl) rfl (.inl rfl))
    (dss_cons (ds_for (passes_of rfl) rfl (di_range1 rfl (fr 10 _ rfl) (da_cons (de_callC g__law_choice (hr.mono (by omega)) hgu rfl (da_cons (de_var (i := 0) rfl (vis_by rfl) rfl rfl) (da_cons (de_lst (da_cons de_int (da_cons de_int (da_cons de_int (da_cons de_int da_nil rfl) rfl) rfl) rfl)) da_nil rfl) rfl) (argn_cons (argn_cons argn_nil)) rfl rfl rfl) da_nil rfl) rfl) (dg_name (i := 2) sc.nd rfl (loc_by rfl) (.inl rfl)) (dss_cons (ds_set (i := 1) sc.nd rfl (loc_by rfl) (de_tup (da_cons (de_callC g__law_word (hr.mono (by omega)) hgu rfl (da_cons (de_var (i := 0) rfl (vis_by rfl) rfl rfl) da_nil rfl) (argn_cons argn_nil) rfl rfl rfl) (da_cons (de_var (i := 1) rfl (vis_by rfl) rfl rfl) da_nil rfl) rfl)) rfl (.inl rfl))
    dss_nil) fun _ => rfl)
    (dss_cons (ds_ret (de_var (i := 1) rfl (vis_by rfl) rfl rfl))
    dss_nil)))
theorem sc__law_spoiled : FnScope ["_law_rng_here", "_law_written", "_law_turn", "_law_sign", "_law_at", "_law_way"] ["_law_rng_here", "_law_written"] (defScope st__law_spoiled) := ⟨rfl, rfl, rfl, by decide +kernel, rfl, by decide +kernel, by decide +kernel⟩
theorem ok__law_spoiled (D : FunD K "_law_spoiled" "_law_spoiled" (defArgs st__law_spoiled) (defBody st__law_spoiled) (defScope st__law_spoiled) [] [] f fd) (fr : FreeN frN mg) (ev : EnvE P K mg fileS clsN isaT catT xdL) (g__law_choice : CalG P w K mg base 2 "_law_choice" ["_law_rng_here", "_law_options"] F__law_choice) (g__law_draw : CalG P w K mg base 1 "_law_draw" ["_law_rng_here", "_law_many"] F__law_draw) : FnG P w K mg base 3 f fd ["_law_rng_here", "_law_written"] F__law_spoiled :=
  have sc := sc__law_spoiled
  fnG_ofD D sc rfl fun cdv A outer s H E hr hgu =>
    (dss_cons (ds_for (passes_of rfl) rfl (di_range1 rfl (fr 10 _ rfl) (da_cons (de_bin ops_add2 de_int (de_callC g__law_draw (hr.mono (by omega)) hgu rfl (da_cons (de_var (i := 0) rfl (vis_by rfl) rfl rfl) (da_cons de_int da_nil rfl) rfl) (argn_cons (argn_cons argn_nil)) rfl rfl rfl)) da_nil rfl) rfl) (dg_name (i := 2) sc.nd rfl (loc_by rfl) (.inl rfl)) (dss_cons (ds_par (i := 4) (j := 5) rfl sc.nd rfl rfl (by decide) rfl rfl (da_cons (de_callC g__law_draw (hr.mono (by omega)) hgu rfl (da_cons (de_var (i := 0) rfl (vis_by rfl) rfl rfl) (da_cons (de_bin ops_add2 (de_callB call_len cs_len rfl (fr 3 _ rfl) (by decide +kernel) (da_cons (de_var (i := 1) rfl (vis_by rfl) rfl rfl) da_nil rfl) (by decide) rfl rfl rfl) de_int) da_nil rfl) rfl) (argn_cons (argn_cons argn_nil)) rfl rfl rfl) (da_cons (de_callC g__law_draw (hr.mono (by omega)) hgu rfl (da_cons (de_var (i := 0) rfl (vis_by rfl) rfl rfl) (da_cons de_int da_nil rfl) rfl) (argn_cons (argn_cons argn_nil)) rfl rfl rfl) da_nil rfl) rfl) rfl rfl)
    (dss_cons (ds_set (i := 3) sc.nd rfl (loc_by rfl) (de_callC g__law_choice (hr.mono (by omega)) hgu rfl (da_cons (de_var (i := 0) rfl (vis_by rfl) rfl rfl) (da_cons de_str da_nil rfl) rfl) (argn_cons (argn_cons argn_nil)) rfl rfl rfl) rfl (.inl rfl))
    (dss_cons (ds_if (dt_cmp (ops_eq2 (room_u hr 64 (by decide))) (de_var (i := 5) rfl (vis_by rfl) rfl rfl) de_int rfl) (dss_cons (ds_set (i := 1) sc.nd rfl (loc_by rfl) (de_bin ops_add2 (de_bin ops_add2 (de_sl sls2 (de_var (i := 1) rfl (vis_by rfl) rfl rfl) do_none (do_some (de_var (i := 4) rfl (vis_by rfl) rfl rfl))) (de_var (i := 3) rfl (vis_by rfl) rfl rfl)) (de_sl sls2 (de_var (i := 1) rfl (vis_by rfl) rfl rfl) (do_some (de_var (i := 4) rfl (vis_by rfl) rfl rfl)) do_none)) rfl (.inl rfl))
    dss_nil) (dss_cons (ds_if (dt_cmp (ops_eq2 (room_u hr 64 (by decide))) (de_var (i := 5) rfl (vis_by rfl) rfl rfl) de_int rfl) (dss_cons (ds_set (i := 1) sc.nd rfl (loc_by rfl) (de_bin ops_add2 (de_sl sls2 (de_var (i := 1) rfl (vis_by rfl) rfl rfl) do_none (do_some (de_var (i := 4) rfl (vis_by rfl) rfl rfl))) (de_sl sls2 (de_var (i := 1) rfl (vis_by rfl) rfl rfl) (do_some (de_bin ops_add2 (de_var (i := 4) rfl (vis_by rfl) rfl rfl) de_int)) do_none)) rfl (.inl rfl))
    dss_nil) (dss_cons (ds_set (i := 1) sc.nd rfl (loc_by rfl) (de_bin ops_add2 (de_bin ops_add2 (de_sl sls2 (de_var (i := 1) rfl (vis_by rfl) rfl rfl) do_none (do_some (de_var (i := 4) rfl (vis_by rfl) rfl rfl))) (de_var (i := 3) rfl (vis_by rfl) rfl rfl)) (de_sl sls2 (de_var (i := 1) rfl (vis_by rfl) rfl rfl) (do_some (de_bin ops_add2 (de_var (i := 4) rfl (vis_by rfl) rfl rfl) de_int)) do_none)) rfl (.inl rfl))
    dss_nil))
    dss_nil))
    dss_nil))) fun _ => rfl)
    (dss_cons (ds_ret (de_var (i := 1) rfl (vis_by rfl) rfl rfl))
    dss_nil))
theorem sc__law_read_at : FnScope ["_law_written", "_law_at", "_law_is_indexed", "_law_stop", "_law_word_here", "_law_sign", "_law_parts", "_law_found"] ["_law_written", "_law_at", "_law_is_indexed"] (defScope st__law_read_at) := ⟨rfl, rfl, rfl, by decide +kernel, rfl, by decide +kernel, by decide +kernel⟩
theorem ok__law_read_at (n : Nat) (D : FunD K "_law_read_at" "_law_read_at" (defArgs st__law_read_at) (defBody st__law_read_at) (defScope st__law_read_at) [] [] f fd) (fr : FreeN frN mg) (ev : EnvE P K mg fileS clsN isaT catT xdL) (g__law_read_at : CalG P w K mg base (n + 1) "_law_read_at" ["_law_written", "_law_at", "_law_is_indexed"] (F__law_read_at n)) : FnG P w K mg base (n + 1 + 1) f fd ["_law_written", "_law_at", "_law_is_indexed"] (F__law_read_at (n + 1)) :=
  have sc := sc__law_read_at
  fnG_ofD D sc rfl fun cdv A outer s H E hr hgu =>
    (dss_cons (ds_set (i := 3) sc.nd rfl (loc_by rfl) (de_var (i := 1) rfl (vis_by rfl) rfl rfl) rfl (.inl rfl))
    (dss_cons (ds_while (passes_of rfl) (DW.dt (dw_and (dt_cmp ops_lt (de_var (i := 3) rfl (vis_by rfl) rfl rfl) (de_callB call_len cs_len rfl (fr 3 _ rfl) (by decide +kernel) (da_cons (de_var (i := 0) rfl (vis_by rfl) rfl rfl) da_nil rfl) (by decide) rfl rfl rfl) rfl) (dw_and1 (dt_cmp ops_in2 (de_ix ix_seq ix_rule (de_var (i := 0) rfl (vis_by rfl) rfl rfl) (de_var (i := 3) rfl (vis_by rfl) rfl rfl) fun _ _ => rfl) de_str rfl)))) (dss_cons (ds_set (i := 3) sc.nd rfl (loc_by rfl) (de_bin ops_add2 (de_var (i := 3) rfl (vis_by rfl) rfl rfl) de_int) rfl (.inl rfl))
    dss_nil))
    (dss_cons (ds_par3 (i := 4) (j := 5) (l := 6) rfl sc.nd rfl rfl rfl (by decide) (by decide) (by decide) rfl rfl rfl (da_cons (de_sl sls2 (de_var (i := 0) rfl (vis_by rfl) rfl rfl) (do_some (de_var (i := 1) rfl (vis_by rfl) rfl rfl)) (do_some (de_var (i := 3) rfl (vis_by rfl) rfl rfl))) (da_cons (de_sl sls2 (de_var (i := 0) rfl (vis_by rfl) rfl rfl) (do_some (de_var (i := 1) rfl (vis_by rfl) rfl rfl)) (do_some (de_bin ops_add2 (de_var (i := 1) rfl (vis_by rfl) rfl rfl) de_int))) (da_cons (de_lst da_nil) da_nil rfl) rfl) rfl) rfl rfl)
    (dss_cons (ds_if (dt_cmp (ops_eq2 (room_u hr 64 (by decide))) (de_var (i := 4) rfl (vis_by rfl) rfl rfl) de_str rfl) (dss_cons (ds_ret (de_ifE (DW.dt (dw_and (dt_truth (de_var (i := 2) rfl (vis_by rfl) rfl rfl) fun _ => rfl) (dw_and (dt_cmp (ops_ne2 (room_u hr 64 (by decide))) (de_var (i := 5) rfl (vis_by rfl) rfl rfl) de_str rfl) (dw_and1 (dt_cmp ops_in2 (de_var (i := 5) rfl (vis_by rfl) rfl rfl) de_str rfl))))) (de_tup (da_cons (de_callT call_int_str cs_int rfl (fr 4 _ rfl) (by decide +kernel) (da_cons (de_var (i := 5) rfl (vis_by rfl) rfl rfl) da_nil rfl) (by decide) rfl rfl rfl) (da_cons (de_bin ops_add2 (de_var (i := 1) rfl (vis_by rfl) rfl rfl) de_int) da_nil rfl) rfl)) de_non))
    dss_nil) dss_nil)
    (dss_cons (ds_if (dt_cmp ops_gt (de_callB call_len cs_len rfl (fr 3 _ rfl) (by decide +kernel) (da_cons (de_var (i := 4) rfl (vis_by rfl) rfl rfl) da_nil rfl) (by decide) rfl rfl rfl) de_int rfl) (dss_cons (ds_ret de_non)
    dss_nil) dss_nil)
    (dss_cons (ds_if (dt_cmp (ops_ne2 (room_u hr 64 (by decide))) (de_sl sls2 (de_var (i := 0) rfl (vis_by rfl) rfl rfl) (do_some (de_var (i := 3) rfl (vis_by rfl) rfl rfl)) (do_some (de_bin ops_add2 (de_var (i := 3) rfl (vis_by rfl) rfl rfl) de_int))) de_str rfl) (dss_cons (ds_ret (de_tup (da_cons (de_var (i := 4) rfl (vis_by rfl) rfl rfl) (da_cons (de_var (i := 3) rfl (vis_by rfl) rfl rfl) da_nil rfl) rfl)))
    dss_nil) dss_nil)
    (dss_cons (ds_while (passes_of rfl) (DW.dt (dw_or (dt_cmp (ops_eq2 (room_u hr 64 (by decide))) (de_var (i := 6) rfl (vis_by rfl) rfl rfl) (de_lst da_nil) rfl) (dw_or1 (dt_cmp (ops_eq2 (room_u hr 64 (by decide))) (de_sl sls2 (de_var (i := 0) rfl (vis_by rfl) rfl rfl) (do_some (de_var (i := 3) rfl (vis_by rfl) rfl rfl)) (do_some (de_bin ops_add2 (de_var (i := 3) rfl (vis_by rfl) rfl rfl) de_int))) de_str rfl)))) (dss_cons (ds_set (i := 7) sc.nd rfl (loc_by rfl) (de_callC g__law_read_at (hr.mono (by omega)) hgu rfl (da_cons (de_var (i := 0) rfl (vis_by rfl) rfl rfl) (da_cons (de_bin ops_add2 (de_var (i := 3) rfl (vis_by rfl) rfl rfl) de_int) (da_cons (de_var (i := 2) rfl (vis_by rfl) rfl rfl) da_nil rfl) rfl) rfl) (argn_cons (argn_cons (argn_cons argn_nil))) rfl rfl rfl) rfl (.inl rfl))
    (dss_cons (ds_if (dt_cmp ops_is (de_var (i := 7) rfl (vis_by rfl) rfl rfl) de_non rfl) (dss_cons (ds_ret de_non)
    dss_nil) dss_nil)
    (dss_cons (ds_expr (de_app (de_var (i := 6) rfl (vis_by rfl) rfl rfl) (de_ix ix_seq ix_rule (de_var (i := 7) rfl (vis_by rfl) rfl rfl) de_int fun _ _ => rfl) rfl rfl rfl rfl rfl) rfl)
    (dss_cons (ds_set (i := 3) sc.nd rfl (loc_by rfl) (de_ix ix_seq ix_rule (de_var (i := 7) rfl (vis_by rfl) rfl rfl) de_int fun _ _ => rfl) rfl (.inl rfl))
    dss_nil)))))
    (dss_cons (ds_if (DW.dt (dw_or (dt_cmp (ops_ne2 (room_u hr 64 (by decide))) (de_sl sls2 (de_var (i := 0) rfl (vis_by rfl) rfl rfl) (do_some (de_var (i := 3) rfl (vis_by rfl) rfl rfl)) (do_some (de_bin ops_add2 (de_var (i := 3) rfl (vis_by rfl) rfl rfl) de_int))) de_str rfl) (dw_or1 (dt_cmp ops_gt (de_callB call_len cs_len rfl (fr 3 _ rfl) (by decide +kernel) (da_cons (de_var (i := 6) rfl (vis_by rfl) rfl rfl) da_nil rfl) (by decide) rfl rfl rfl) de_int rfl)))) (dss_cons (ds_ret de_non)
    dss_nil) dss_nil)
    (dss_cons (ds_ret (de_tup (da_cons (de_bin ops_add2 (de_tup (da_cons (de_var (i := 4) rfl (vis_by rfl) rfl rfl) da_nil rfl)) (de_callT call_tuple_of cs_tuple rfl (fr 6 _ rfl) (by decide +kernel) (da_cons (de_var (i := 6) rfl (vis_by rfl) rfl rfl) da_nil rfl) (by decide) rfl rfl rfl)) (da_cons (de_bin ops_add2 (de_var (i := 3) rfl (vis_by rfl) rfl rfl) de_int) da_nil rfl) rfl)))
    dss_nil)))))))))
theorem sc__law_read : FnScope ["_law_written", "_law_is_indexed", "_law_found"] ["_law_written", "_law_is_indexed"] (defScope st__law_read) := ⟨rfl, rfl, rfl, by decide +kernel, rfl, by decide +kernel, by decide +kernel⟩
theorem ok__law_read (D : FunD K "_law_read" "_law_read" (defArgs st__law_read) (defBody st__law_read) (defScope st__law_read) [] [] f fd) (fr : FreeN frN mg) (ev : EnvE P K mg fileS clsN isaT catT xdL) (g__law_read_at : CalG P w K mg base 41 "_law_read_at" ["_law_written", "_law_at", "_law_is_indexed"] (F__law_read_at 40)) : FnG P w K mg base 42 f fd ["_law_written", "_law_is_indexed"] F__law_read :=
  have sc := sc__law_read
  fnG_ofD D sc rfl fun cdv A outer s H E hr hgu =>
    (dss_cons (ds_set (i := 2) sc.nd rfl (loc_by rfl) (de_callC g__law_read_at (hr.mono (by omega)) hgu rfl (da_cons (de_var (i := 0) rfl (vis_by rfl) rfl rfl) (da_cons de_int (da_cons (de_var (i := 1) rfl (vis_by rfl) rfl rfl) da_nil rfl) rfl) rfl) (argn_cons (argn_cons (argn_cons argn_nil))) rfl rfl rfl) rfl (.inl rfl))
    (dss_cons (ds_ret (de_ifE (DW.dt (dw_or (dt_cmp ops_is (de_var (i := 2) rfl (vis_by rfl) rfl rfl) de_non rfl) (dw_or1 (dt_cmp (ops_ne2 (room_u hr 64 (by decide))) (de_ix ix_seq ix_rule (de_var (i := 2) rfl (vis_by rfl) rfl rfl) de_int fun _ _ => rfl) (de_callB call_len cs_len rfl (fr 3 _ rfl) (by decide +kernel) (da_cons (de_var (i := 0) rfl (vis_by rfl) rfl rfl) da_nil rfl) (by decide) rfl rfl rfl) rfl)))) de_non (de_ix ix_seq ix_rule (de_var (i := 2) rfl (vis_by rfl) rfl rfl) de_int fun _ _ => rfl)))
    dss_nil))
theorem sc__law_told : FnScope ["_law_way", "_law_thing", "_law_told_here", "e", "_law_is_alone"] ["_law_way", "_law_thing"] (defScope st__law_told) := ⟨rfl, rfl, rfl, by decide +kernel, rfl, by decide +kernel, by decide +kernel⟩
theorem ok__law_told (D : FunD K "_law_told" "_law_told" (defArgs st__law_told) (defBody st__law_told) (defScope st__law_told) [] [] f fd) (fr : FreeN frN mg) (ev : EnvE P K mg fileS clsN isaT catT xdL) (g_read_shape : CalG P w K mg base 5 "read_shape" ["text"] F_read_shape) (g_read_pattern : CalG P w K mg base 5 "read_pattern" ["text"] F_read_pattern) : FnG P w K mg base 6 f fd ["_law_way", "_law_thing"] F__law_told :=
  have sc := sc__law_told
  fnG_ofD D sc rfl fun cdv A outer s H E hr hgu =>
    (dss_cons (ds_set (i := 2) sc.nd rfl (loc_by rfl) (de_lst (da_cons de_str da_nil rfl)) rfl (.inl rfl))
    (dss_cons (ds_tryC (i := 3) (j := 1) ev rfl rfl sc.nd rfl rfl rfl rfl rfl (by decide +kernel) (fun pn xe hpo => (dss_cons (ds_set (i := 2) sc.nd rfl (loc_by rfl) (de_lst (da_cons de_str (da_cons (de_ifE (dt_cmp (ops_eq2 (room_u hr 64 (by decide))) (de_var (i := 0) rfl (vis_by rfl) rfl rfl) de_int rfl) (de_callC g_read_shape (hr.mono (by omega)) hgu rfl (da_cons (de_var (i := 1) rfl (vis_by rfl) rfl rfl) da_nil rfl) (argn_cons argn_nil) rfl rfl rfl) (de_callC g_read_pattern (hr.mono (by omega)) hgu rfl (da_cons (de_var (i := 1) rfl (vis_by rfl) rfl rfl) da_nil rfl) (argn_cons argn_nil) rfl rfl rfl)) da_nil rfl) rfl)) rfl (.inl rfl))
    dss_nil)) (fun a oe pn dd y hz hfl hcy => (dss_cons (ds_set (i := 4) sc.nd rfl (loc_by rfl) (de_not (de_isE (i := 3) (xi_at (cat_one hcy (by decide +kernel)) (ev.xc 1 _ rfl)) hz hfl (isa_ok ev.isa) rfl (vis_by rfl) rfl rfl rfl (fr 2 _ rfl) (de_tup (da_cons (de_clsE (j := 3) ev rfl rfl rfl) (da_cons (de_clsE (j := 0) ev rfl rfl rfl) (da_cons (de_clsE (j := 4) ev rfl rfl rfl) da_nil rfl) rfl) rfl)) rfl rfl rfl)) rfl (.inl rfl))
    (dss_cons (ds_set (i := 2) sc.nd rfl (loc_by rfl) (de_lst (da_cons de_str (da_cons (de_xf (i := 3) (xf_at (cat_one hcy (by decide +kernel)) (ev.xc 1 _ rfl)) (no_at (cat_one hcy (by decide +kernel)) (ev.xc 1 _ rfl) (by decide +kernel)) hz hfl rfl (vis_by rfl) rfl rfl rfl) (da_cons (de_and (de_isE (i := 3) (xi_at (cat_one hcy (by decide +kernel)) (ev.xc 1 _ rfl)) hz hfl (isa_ok ev.isa) rfl (vis_by rfl) rfl rfl rfl (fr 2 _ rfl) (de_clsE (j := 2) ev rfl rfl rfl) rfl rfl rfl) (de_and (de_isE (i := 3) (xi_at (cat_one hcy (by decide +kernel)) (ev.xc 1 _ rfl)) hz hfl (isa_ok ev.isa) rfl (vis_by rfl) rfl rfl rfl (fr 2 _ rfl) (de_bty rfl (fr 12 _ rfl) (by decide +kernel) (by decide) rfl) rfl rfl rfl) (de_one (de_var (i := 4) rfl (vis_by rfl) rfl rfl)))) da_nil rfl) rfl) rfl)) rfl (.inl rfl))
    dss_nil))))
    (dss_cons (ds_ret (de_callB (call_repr ev.sys hgu (room_u hr 80 (by decide))) cs_repr rfl (fr 11 _ rfl) (by decide +kernel) (da_cons (de_var (i := 2) rfl (vis_by rfl) rfl rfl) da_nil rfl) (by decide) rfl rfl rfl))
    dss_nil)))
theorem sc__law_read_right : FnScope ["_law_written", "_law_dues", "_law_way", "_law_found"] ["_law_written"] (defScope st__law_read_right) := ⟨rfl, rfl, rfl, by decide +kernel, rfl, by decide +kernel, by decide +kernel⟩
theorem ok__law_read_right (D : FunD K "_law_read_right" "_law_read_right" (defArgs st__law_read_right) (defBody st__law_read_right) (defScope st__law_read_right) [] [] f fd) (fr : FreeN frN mg) (ev : EnvE P K mg fileS clsN isaT catT xdL) (g__law_read : CalG P w K mg base 42 "_law_read" ["_law_written", "_law_is_indexed"] F__law_read) (g__law_told : CalG P w K mg base 6 "_law_told" ["_law_way", "_law_thing"] F__law_told) : FnG P w K mg base 43 f fd ["_law_written"] F__law_read_right :=
  have sc := sc__law_read_right
  fnG_ofD D sc rfl fun cdv A outer s H E hr hgu =>
    (dss_cons (ds_set (i := 1) sc.nd rfl (loc_by rfl) (de_lst da_nil) rfl (.inl rfl))
    (dss_cons (ds_for (passes_of rfl) rfl (di_range1 rfl (fr 10 _ rfl) (da_cons de_int da_nil rfl) rfl) (dg_name (i := 2) sc.nd rfl (loc_by rfl) (.inl rfl)) (dss_cons (ds_set (i := 3) sc.nd rfl (loc_by rfl) (de_callC g__law_read (hr.mono (by omega)) hgu rfl (da_cons (de_var (i := 0) rfl (vis_by rfl) rfl rfl) (da_cons (de_cmp (ops_eq2 (room_u hr 64 (by decide))) (de_var (i := 2) rfl (vis_by rfl) rfl rfl) de_int rfl) da_nil rfl) rfl) (argn_cons (argn_cons argn_nil)) rfl rfl rfl) rfl (.inl rfl))
    (dss_cons (ds_expr (de_app (de_var (i := 1) rfl (vis_by rfl) rfl rfl) (de_callB (call_repr ev.sys hgu (room_u hr 80 (by decide))) cs_repr rfl (fr 11 _ rfl) (by decide +kernel) (da_cons (de_ifE (dt_cmp ops_is (de_var (i := 3) rfl (vis_by rfl) rfl rfl) de_non rfl) (de_lst (da_cons de_str (da_cons de_int (da_cons de_bl da_nil rfl) rfl) rfl)) (de_lst (da_cons de_str (da_cons (de_var (i := 3) rfl (vis_by rfl) rfl rfl) da_nil rfl) rfl))) da_nil rfl) (by decide) rfl rfl rfl) rfl rfl rfl rfl rfl) rfl)
    dss_nil)) fun _ => rfl)
    (dss_cons (ds_ret (de_cmp (ops_eq2 (room_u hr 64 (by decide))) (de_lc (own := [("_law_way", 2)]) (ts := [2]) rfl sc.nd (di_range1 rfl (fr 10 _ rfl) (da_cons de_int da_nil rfl) rfl) (blkOk_by (by kernel_rfl)) (by decide) (fun _ _ _ _ _ => (dg_name (i := 2) sc.nd rfl (loc_by rfl) (.inr rfl))) (fun _ _ _ _ _ => dts_nil) (fun _ _ _ _ _ => (de_callC g__law_told (hr.mono (by omega)) hgu rfl (da_cons (de_var (i := 2) rfl (vis_by rfl) rfl rfl) (da_cons (de_var (i := 0) rfl (vis_by rfl) rfl rfl) da_nil rfl) rfl) (argn_cons (argn_cons argn_nil)) rfl rfl rfl)) fun _ => rfl) (de_var (i := 1) rfl (vis_by rfl) rfl rfl) rfl))
    dss_nil)))
theorem sc__law_is_pattern_refused : FnScope ["_law_thing", "_law_told_here", "e"] ["_law_thing"] (defScope st__law_is_pattern_refused) := ⟨rfl, rfl, rfl, by decide +kernel, rfl, by decide +kernel, by decide +kernel⟩
theorem ok__law_is_pattern_refused (D : FunD K "_law_is_pattern_refused" "_law_is_pattern_refused" (defArgs st__law_is_pattern_refused) (defBody st__law_is_pattern_refused) (defScope st__law_is_pattern_refused) [] [] f fd) (fr : FreeN frN mg) (ev : EnvE P K mg fileS clsN isaT catT xdL) (g_pattern_text : CalG P w K mg base 46 "pattern_text" ["pattern"] F_pattern_text) : FnG P w K mg base 47 f fd ["_law_thing"] F__law_is_pattern_refused :=
  have sc := sc__law_is_pattern_refused
  fnG_ofD D sc rfl fun cdv A outer s H E hr hgu =>
    (dss_cons (ds_set (i := 1) sc.nd rfl (loc_by rfl) (de_lst (da_cons de_str da_nil rfl)) rfl (.inl rfl))
    (dss_cons (ds_tryC (i := 2) (j := 0) ev rfl rfl sc.nd rfl rfl rfl rfl rfl (by decide +kernel) (fun pn xe hpo => (dss_cons (ds_expr (de_callC g_pattern_text (hr.mono (by omega)) hgu rfl (da_cons (de_var (i := 0) rfl (vis_by rfl) rfl rfl) da_nil rfl) (argn_cons argn_nil) rfl rfl rfl) rfl)
    dss_nil)) (fun a oe pn dd y hz hfl hcy => (dss_cons (ds_set (i := 1) sc.nd rfl (loc_by rfl) (de_lst (da_cons de_str (da_cons (de_xf (i := 2) (xf_at (cat_one hcy (by decide +kernel)) (ev.xc 0 _ rfl)) (no_at (cat_one hcy (by decide +kernel)) (ev.xc 0 _ rfl) (by decide +kernel)) hz hfl rfl (vis_by rfl) rfl rfl rfl) (da_cons (de_and (de_isE (i := 2) (xi_at (cat_one hcy (by decide +kernel)) (ev.xc 0 _ rfl)) hz hfl (isa_ok ev.isa) rfl (vis_by rfl) rfl rfl rfl (fr 2 _ rfl) (de_clsE (j := 2) ev rfl rfl rfl) rfl rfl rfl) (de_one (de_not (de_isE (i := 2) (xi_at (cat_one hcy (by decide +kernel)) (ev.xc 0 _ rfl)) hz hfl (isa_ok ev.isa) rfl (vis_by rfl) rfl rfl rfl (fr 2 _ rfl) (de_clsE (j := 4) ev rfl rfl rfl) rfl rfl rfl)))) da_nil rfl) rfl) rfl)) rfl (.inl rfl))
    dss_nil)))
    (dss_cons (ds_ret (de_cmp (ops_eq2 (room_u hr 64 (by decide))) (de_callB (call_repr ev.sys hgu (room_u hr 80 (by decide))) cs_repr rfl (fr 11 _ rfl) (by decide +kernel) (da_cons (de_var (i := 1) rfl (vis_by rfl) rfl rfl) da_nil rfl) (by decide) rfl rfl rfl) (de_callB (call_repr ev.sys hgu (room_u hr 80 (by decide))) cs_repr rfl (fr 11 _ rfl) (by decide +kernel) (da_cons (de_lst (da_cons de_str (da_cons (de_var (i := 0) rfl (vis_by rfl) rfl rfl) (da_cons de_bl da_nil rfl) rfl) rfl)) da_nil rfl) (by decide) rfl rfl rfl) rfl))
    dss_nil)))
theorem sc_law : FnScope ["_law_script", "_law_k", "_law_rng_here", "_law_turn", "_law_thing", "_law_written", "_law_odd", "_law_way"] ["_law_script"] (defScope st_law) := ⟨rfl, rfl, rfl, by decide +kernel, rfl, by decide +kernel, by decide +kernel⟩
theorem ok_law (D : FunD K "law" "law" (defArgs st_law) (defBody st_law) (defScope st_law) [] [] f fd) (fr : FreeN frN mg) (ev : EnvE P K mg fileS clsN isaT catT xdL) (g__law_rng : CalG P w K mg base 1 "_law_rng" ["_law_script", "_law_k"] F__law_rng) (g__law_deep : CalG P w K mg base 45 "_law_deep" ["_law_rng_here"] F__law_deep) (g__law_pattern_text : CalG P w K mg base 41 "_law_pattern_text" ["_law_pattern"] (F__law_pattern_text 40)) (g__law_choice : CalG P w K mg base 2 "_law_choice" ["_law_rng_here", "_law_options"] F__law_choice) (g__law_is_pattern_refused : CalG P w K mg base 47 "_law_is_pattern_refused" ["_law_thing"] F__law_is_pattern_refused) (g_pattern_text : CalG P w K mg base 46 "pattern_text" ["pattern"] F_pattern_text) (g__law_read_right : CalG P w K mg base 43 "_law_read_right" ["_law_written"] F__law_read_right) (g__law_told : CalG P w K mg base 6 "_law_told" ["_law_way", "_law_thing"] F__law_told) (g_read_pattern : CalG P w K mg base 5 "read_pattern" ["text"] F_read_pattern) (g__law_spoiled : CalG P w K mg base 3 "_law_spoiled" ["_law_rng_here", "_law_written"] F__law_spoiled) : FnG P w K mg base 48 f fd ["_law_script"] F_law :=
  have sc := sc_law
  fnG_ofD D sc rfl fun cdv A outer s H E hr hgu =>
    (dss_cons (ds_for (passes_of rfl) rfl (di_range1 rfl (fr 10 _ rfl) (da_cons (de_callB (call_max12 rfl) cs_max12 rfl (fr 7 _ rfl) (by decide +kernel) (da_cons de_int (da_cons (de_callB (call_min2 rfl) cs_min rfl (fr 13 _ rfl) (by decide +kernel) (da_cons (de_callB call_len cs_len rfl (fr 3 _ rfl) (by decide +kernel) (da_cons (de_var (i := 0) rfl (vis_by rfl) rfl rfl) da_nil rfl) (by decide) rfl rfl rfl) (da_cons de_int da_nil rfl) rfl) (by decide) rfl rfl rfl) da_nil rfl) rfl) (by decide) rfl rfl rfl) da_nil rfl) rfl) (dg_name (i := 1) sc.nd rfl (loc_by rfl) (.inl rfl)) (dss_cons (ds_set (i := 2) sc.nd rfl (loc_by rfl) (de_callC g__law_rng (hr.mono (by omega)) hgu rfl (da_cons (de_var (i := 0) rfl (vis_by rfl) rfl rfl) (da_cons (de_var (i := 1) rfl (vis_by rfl) rfl rfl) da_nil rfl) rfl) (argn_cons (argn_cons argn_nil)) rfl rfl rfl) rfl (.inl rfl))
    (dss_cons (ds_for (passes_of rfl) rfl (di_range1 rfl (fr 10 _ rfl) (da_cons de_int da_nil rfl) rfl) (dg_name (i := 3) sc.nd rfl (loc_by rfl) (.inl rfl)) (dss_cons (ds_set (i := 4) sc.nd rfl (loc_by rfl) (de_callC g__law_deep (hr.mono (by omega)) hgu rfl (da_cons (de_var (i := 2) rfl (vis_by rfl) rfl rfl) da_nil rfl) (argn_cons argn_nil) rfl rfl rfl) rfl (.inl rfl))
    (dss_cons (ds_set (i := 5) sc.nd rfl (loc_by rfl) (de_callC g__law_pattern_text (hr.mono (by omega)) hgu rfl (da_cons (de_var (i := 4) rfl (vis_by rfl) rfl rfl) da_nil rfl) (argn_cons argn_nil) rfl rfl rfl) rfl (.inl rfl))
    (dss_cons (ds_if (DW.dt (dw_or (dt_cmp (ops_ne2 (room_u hr 64 (by decide))) (de_callC g_pattern_text (hr.mono (by omega)) hgu rfl (da_cons (de_var (i := 4) rfl (vis_by rfl) rfl rfl) da_nil rfl) (argn_cons argn_nil) rfl rfl rfl) (de_var (i := 5) rfl (vis_by rfl) rfl rfl) rfl) (dw_or1 (dt_not (dt_truth (de_callC g__law_read_right (hr.mono (by omega)) hgu rfl (da_cons (de_var (i := 5) rfl (vis_by rfl) rfl rfl) da_nil rfl) (argn_cons argn_nil) rfl rfl rfl) fun _ => rfl))))) (dss_cons (ds_ret de_bl)
    dss_nil) dss_nil)
    (dss_cons (ds_if (DW.dt (dw_or (dt_cmp (ops_ne2 (room_u hr 64 (by decide))) (de_callB (call_repr ev.sys hgu (room_u hr 80 (by decide))) cs_repr rfl (fr 11 _ rfl) (by decide +kernel) (da_cons (de_callC g_read_pattern (hr.mono (by omega)) hgu rfl (da_cons (de_var (i := 5) rfl (vis_by rfl) rfl rfl) da_nil rfl) (argn_cons argn_nil) rfl rfl rfl) da_nil rfl) (by decide) rfl rfl rfl) (de_callB (call_repr ev.sys hgu (room_u hr 80 (by decide))) cs_repr rfl (fr 11 _ rfl) (by decide +kernel) (da_cons (de_var (i := 4) rfl (vis_by rfl) rfl rfl) da_nil rfl) (by decide) rfl rfl rfl) rfl) (dw_or1 (dt_not (dt_truth (de_callC g__law_read_right (hr.mono (by omega)) hgu rfl (da_cons (de_callC g__law_spoiled (hr.mono (by omega)) hgu rfl (da_cons (de_var (i := 2) rfl (vis_by rfl) rfl rfl) (da_cons (de_var (i := 5) rfl (vis_by rfl) rfl rfl) da_nil rfl) rfl) (argn_cons (argn_cons argn_nil)) rfl rfl rfl) da_nil rfl) (argn_cons argn_nil) rfl rfl rfl) fun _ => rfl))))) (dss_cons (ds_ret de_bl)
    dss_nil) dss_nil)
    (dss_cons (ds_set (i := 6) sc.nd rfl (loc_by rfl) (de_callC g__law_choice (hr.mono (by omega)) hgu rfl (da_cons (de_var (i := 2) rfl (vis_by rfl) rfl rfl) (da_cons (de_lst (da_cons de_non (da_cons de_int (da_cons de_bl (da_cons (de_lst da_nil) (da_cons de_dct0 (da_cons (de_tup da_nil) (da_cons (de_tup (da_cons de_str da_nil rfl)) (da_cons (de_lst (da_cons (de_var (i := 5) rfl (vis_by rfl) rfl rfl) da_nil rfl)) (da_cons (de_tup (da_cons (de_var (i := 4) rfl (vis_by rfl) rfl rfl) (da_cons de_str da_nil rfl) rfl)) (da_cons (de_lst (da_cons de_str (da_cons de_str da_nil rfl) rfl)) (da_cons (de_un uns_neg de_int) (da_cons de_int da_nil rfl) rfl) rfl) rfl) rfl) rfl) rfl) rfl) rfl) rfl) rfl) rfl)) da_nil rfl) rfl) (argn_cons (argn_cons argn_nil)) rfl rfl rfl) rfl (.inl rfl))
    (dss_cons (ds_if (dt_cmp (ops_ne2 (room_u hr 64 (by decide))) (de_lc (own := [("_law_way", 7)]) (ts := [7]) rfl sc.nd (di_range1 rfl (fr 10 _ rfl) (da_cons de_int da_nil rfl) rfl) (blkOk_by (by kernel_rfl)) (by decide) (fun _ _ _ _ _ => (dg_name (i := 7) sc.nd rfl (loc_by rfl) (.inr rfl))) (fun _ _ _ _ _ => dts_nil) (fun _ _ _ _ _ => (de_callC g__law_told (hr.mono (by omega)) hgu rfl (da_cons (de_var (i := 7) rfl (vis_by rfl) rfl rfl) (da_cons (de_var (i := 6) rfl (vis_by rfl) rfl rfl) da_nil rfl) rfl) (argn_cons (argn_cons argn_nil)) rfl rfl rfl)) fun _ => rfl) (de_bin ops_mul2 (de_lst (da_cons (de_callB (call_repr ev.sys hgu (room_u hr 80 (by decide))) cs_repr rfl (fr 11 _ rfl) (by decide +kernel) (da_cons (de_lst (da_cons de_str (da_cons de_int (da_cons de_bl da_nil rfl) rfl) rfl)) da_nil rfl) (by decide) rfl rfl rfl) da_nil rfl)) de_int) rfl) (dss_cons (ds_ret de_bl)
    dss_nil) dss_nil)
    (dss_cons (ds_if (dt_not (dt_truth (de_callC g__law_is_pattern_refused (hr.mono (by omega)) hgu rfl (da_cons (de_callC g__law_choice (hr.mono (by omega)) hgu rfl (da_cons (de_var (i := 2) rfl (vis_by rfl) rfl rfl) (da_cons (de_lst (da_cons de_non (da_cons de_bl (da_cons de_int (da_cons (de_un uns_neg de_int) (da_cons de_str (da_cons de_str (da_cons (de_lst da_nil) (da_cons de_dct0 (da_cons (de_tup (da_cons de_str da_nil rfl)) (da_cons (de_lst (da_cons de_str (da_cons de_str da_nil rfl) rfl)) da_nil rfl) rfl) rfl) rfl) rfl) rfl) rfl) rfl) rfl) rfl)) da_nil rfl) rfl) (argn_cons (argn_cons argn_nil)) rfl rfl rfl) da_nil rfl) (argn_cons argn_nil) rfl rfl rfl) fun _ => rfl)) (dss_cons (ds_ret de_bl)
    dss_nil) dss_nil)
    dss_nil))))))) fun _ => rfl)
    dss_nil)) fun _ => rfl)
    (dss_cons (ds_ret de_bl)
    dss_nil))
end
end Lw

set_option Elab.async false
set_option maxRecDepth 100000
set_option maxHeartbeats 4000000
set_option linter.unusedVariables false
namespace Lw
open PySem L2 Lc PySem.Spec PyProof.Rows He
/-! ### the head: facts by names, the run -/
def d_is_name : He.DefD := ⟨("is_name", none), "is_name", "is_name", defArgs st_is_name, defBody st_is_name, defScope st_is_name, [], []⟩
def d_is_integer : He.DefD := ⟨("is_integer", none), "is_integer", "is_integer", defArgs st_is_integer, defBody st_is_integer, defScope st_is_integer, [], []⟩
def d_is_index : He.DefD := ⟨("is_index", none), "is_index", "is_index", defArgs st_is_index, defBody st_is_index, defScope st_is_index, [], []⟩
def d_is_tree : He.DefD := ⟨("is_tree", none), "is_tree", "is_tree", defArgs st_is_tree, defBody st_is_tree, defScope st_is_tree, [], []⟩
def d_is_pattern : He.DefD := ⟨("is_pattern", none), "is_pattern", "is_pattern", defArgs st_is_pattern, defBody st_is_pattern, defScope st_is_pattern, [], []⟩
def d_require_pattern : He.DefD := ⟨("require_pattern", none), "require_pattern", "require_pattern", defArgs st_require_pattern, defBody st_require_pattern, defScope st_require_pattern, [], []⟩
def d_tree_text : He.DefD := ⟨("tree_text", none), "tree_text", "tree_text", defArgs st_tree_text, defBody st_tree_text, defScope st_tree_text, [], []⟩
def d_pattern_text : He.DefD := ⟨("pattern_text", none), "pattern_text", "pattern_text", defArgs st_pattern_text, defBody st_pattern_text, defScope st_pattern_text, [], []⟩
def d_leaf_at : He.DefD := ⟨("leaf_at", none), "leaf_at", "leaf_at", defArgs st_leaf_at, defBody st_leaf_at, defScope st_leaf_at, [], []⟩
def d_closed : He.DefD := ⟨("closed", none), "closed", "closed", defArgs st_closed, defBody st_closed, defScope st_closed, [], []⟩
def d_tree_in : He.DefD := ⟨("tree_in", none), "tree_in", "tree_in", defArgs st_tree_in, defBody st_tree_in, defScope st_tree_in, [], []⟩
def d_read_tree : He.DefD := ⟨("read_tree", none), "read_tree", "read_tree", defArgs st_read_tree, defBody st_read_tree, defScope st_read_tree, [], []⟩
def d_read_shape : He.DefD := ⟨("read_shape", none), "read_shape", "read_shape", defArgs st_read_shape, defBody st_read_shape, defScope st_read_shape, [], []⟩
def d_read_pattern : He.DefD := ⟨("read_pattern", none), "read_pattern", "read_pattern", defArgs st_read_pattern, defBody st_read_pattern, defScope st_read_pattern, [], []⟩
def d__law_rng : He.DefD := ⟨("_law_rng", none), "_law_rng", "_law_rng", defArgs st__law_rng, defBody st__law_rng, defScope st__law_rng, [], []⟩
def d__law_draw : He.DefD := ⟨("_law_draw", none), "_law_draw", "_law_draw", defArgs st__law_draw, defBody st__law_draw, defScope st__law_draw, [], []⟩
def d__law_choice : He.DefD := ⟨("_law_choice", none), "_law_choice", "_law_choice", defArgs st__law_choice, defBody st__law_choice, defScope st__law_choice, [], []⟩
def d__law_pattern_text : He.DefD := ⟨("_law_pattern_text", none), "_law_pattern_text", "_law_pattern_text", defArgs st__law_pattern_text, defBody st__law_pattern_text, defScope st__law_pattern_text, [], []⟩
def d__law_word : He.DefD := ⟨("_law_word", none), "_law_word", "_law_word", defArgs st__law_word, defBody st__law_word, defScope st__law_word, [], []⟩
def d__law_tree : He.DefD := ⟨("_law_tree", none), "_law_tree", "_law_tree", defArgs st__law_tree, defBody st__law_tree, defScope st__law_tree, [], []⟩
def d__law_deep : He.DefD := ⟨("_law_deep", none), "_law_deep", "_law_deep", defArgs st__law_deep, defBody st__law_deep, defScope st__law_deep, [], []⟩
def d__law_spoiled : He.DefD := ⟨("_law_spoiled", none), "_law_spoiled", "_law_spoiled", defArgs st__law_spoiled, defBody st__law_spoiled, defScope st__law_spoiled, [], []⟩
def d__law_read_at : He.DefD := ⟨("_law_read_at", none), "_law_read_at", "_law_read_at", defArgs st__law_read_at, defBody st__law_read_at, defScope st__law_read_at, [], []⟩
def d__law_read : He.DefD := ⟨("_law_read", none), "_law_read", "_law_read", defArgs st__law_read, defBody st__law_read, defScope st__law_read, [], []⟩
def d__law_told : He.DefD := ⟨("_law_told", none), "_law_told", "_law_told", defArgs st__law_told, defBody st__law_told, defScope st__law_told, [], []⟩
def d__law_read_right : He.DefD := ⟨("_law_read_right", none), "_law_read_right", "_law_read_right", defArgs st__law_read_right, defBody st__law_read_right, defScope st__law_read_right, [], []⟩
def d__law_is_pattern_refused : He.DefD := ⟨("_law_is_pattern_refused", none), "_law_is_pattern_refused", "_law_is_pattern_refused", defArgs st__law_is_pattern_refused, defBody st__law_is_pattern_refused, defScope st__law_is_pattern_refused, [], []⟩
def d_law : He.DefD := ⟨("law", none), "law", "law", defArgs st_law, defBody st_law, defScope st_law, [], []⟩
def fnL : List He.DefD := [d_is_name, d_is_integer, d_is_index, d_is_tree, d_is_pattern, d_require_pattern, d_tree_text, d_pattern_text, d_leaf_at, d_closed, d_tree_in, d_read_tree, d_read_shape, d_read_pattern, d__law_rng, d__law_draw, d__law_choice, d__law_pattern_text, d__law_word, d__law_tree, d__law_deep, d__law_spoiled, d__law_read_at, d__law_read, d__law_told, d__law_read_right, d__law_is_pattern_refused, d_law]
def faL : List He.Fa := [.glo "is_name", .glo "is_integer", .glo "is_index", .glo "is_tree", .glo "is_pattern", .glo "require_pattern", .glo "tree_text", .glo "pattern_text", .glo "leaf_at", .glo "closed", .glo "tree_in", .glo "read_tree", .glo "read_shape", .glo "read_pattern", .glo "_law_rng", .glo "_law_draw", .glo "_law_choice", .glo "_law_pattern_text", .glo "_law_word", .glo "_law_tree", .glo "_law_deep", .glo "_law_spoiled", .glo "_law_read_at", .glo "_law_read", .glo "_law_told", .glo "_law_read_right", .glo "_law_is_pattern_refused", .glo "law", .glo "InvalidPattern", .glo "InvalidText", .glo "CopyError", .glo "InvalidCommand", .glo "InvalidShape", .str "LETTERS" "abcdefghijklmnopqrstuvwxyz", .int "LONGEST_NAME" 8, .int "MOST_ARGUMENTS" 3, .str "INDEXES" "012", .free "all", .free "str", .free "isinstance", .free "len", .free "int", .free "bool", .free "tuple", .free "max", .free "abs", .free "divmod", .free "range", .free "repr", .free "ValueError", .free "min", .free "super"]
abbrev R : PySem.W.OpenRow := PySem.W.OpenLaw.row PySem.Challenge.rw_leastcopies_k14_whole_texts_of_shapes
abbrev hk : PySem.W.Hook := hookS 4 faL fnL fileS xdL exB
def ob (s : PySem.W.SharedT) : AlS := obsS 4 faL fnL fileS xdL exB (HandSHeadRun.getT s)
theorem ob_eq (s : PySem.W.SharedT) : ob s = hk.obs s.abs := obsS_eq (HandSHeadRun.getT_eq s)
theorem run (w : World) : HandSHeadRun.RunEq R (PySem.W.view R.prog [40]) hk ob 20000 [PySem.Str.ofString "__name__", PySem.Str.ofString "CopyError", PySem.Str.ofString "InvalidShape", PySem.Str.ofString "InvalidPattern", PySem.Str.ofString "InvalidText", PySem.Str.ofString "InvalidCommand", PySem.Str.ofString "LETTERS", PySem.Str.ofString "LONGEST_NAME", PySem.Str.ofString "is_name", PySem.Str.ofString "is_integer", PySem.Str.ofString "MOST_ARGUMENTS", PySem.Str.ofString "INDEXES", PySem.Str.ofString "is_index", PySem.Str.ofString "is_tree", PySem.Str.ofString "is_pattern", PySem.Str.ofString "require_pattern", PySem.Str.ofString "tree_text", PySem.Str.ofString "pattern_text", PySem.Str.ofString "leaf_at", PySem.Str.ofString "closed", PySem.Str.ofString "tree_in", PySem.Str.ofString "read_tree", PySem.Str.ofString "read_shape", PySem.Str.ofString "read_pattern", PySem.Str.ofString "_law_rng", PySem.Str.ofString "_law_draw", PySem.Str.ofString "_law_choice", PySem.Str.ofString "_law_pattern_text", PySem.Str.ofString "_law_word", PySem.Str.ofString "_law_tree", PySem.Str.ofString "_law_deep", PySem.Str.ofString "_law_spoiled", PySem.Str.ofString "_law_read_at", PySem.Str.ofString "_law_read", PySem.Str.ofString "_law_told", PySem.Str.ofString "_law_read_right", PySem.Str.ofString "_law_is_pattern_refused"] w := by
  intro os
  kernel_rfl
end Lw

set_option Elab.async false
set_option maxRecDepth 100000
set_option maxHeartbeats 4000000
set_option linter.unusedVariables false
namespace Lw
open PySem L2 Lc PySem.Spec PyProof.Rows He
theorem facts {w : World} {K : PySem.W.Frag} {h : Heap} {mg : Str → Option Value} {f : Addr} (X : K.In h) (G : h.Ns mainGlobals mg) (hfa : mg ("law" : Str) = some (.ref f)) (c : SaysS faL fnL fileS xdL exB K) :
    ∃ fd : FuncData, (∀ (s : Shared) (v : Value), BindsTo s fd ⟨[v], []⟩ [("_law_script", v)]) ∧ ∀ base : Heap, K.In base → base.Ns mainGlobals mg → FnG PySem.Challenge.rw_leastcopies_k14_whole_texts_of_shapes.prog w K mg base 48 f fd ["_law_script"] F_law := by
  have fr : FreeN frN mg := fun i x e => by
    match i, e with
    | 0, e => exact (Option.some.inj e) ▸ He.free_ok X G (c.d.fact 37 (f := .free "all") rfl)
    | 1, e => exact (Option.some.inj e) ▸ He.free_ok X G (c.d.fact 38 (f := .free "str") rfl)
    | 2, e => exact (Option.some.inj e) ▸ He.free_ok X G (c.d.fact 39 (f := .free "isinstance") rfl)
    | 3, e => exact (Option.some.inj e) ▸ He.free_ok X G (c.d.fact 40 (f := .free "len") rfl)
    | 4, e => exact (Option.some.inj e) ▸ He.free_ok X G (c.d.fact 41 (f := .free "int") rfl)
    | 5, e => exact (Option.some.inj e) ▸ He.free_ok X G (c.d.fact 42 (f := .free "bool") rfl)
    | 6, e => exact (Option.some.inj e) ▸ He.free_ok X G (c.d.fact 43 (f := .free "tuple") rfl)
    | 7, e => exact (Option.some.inj e) ▸ He.free_ok X G (c.d.fact 44 (f := .free "max") rfl)
    | 8, e => exact (Option.some.inj e) ▸ He.free_ok X G (c.d.fact 45 (f := .free "abs") rfl)
    | 9, e => exact (Option.some.inj e) ▸ He.free_ok X G (c.d.fact 46 (f := .free "divmod") rfl)
    | 10, e => exact (Option.some.inj e) ▸ He.free_ok X G (c.d.fact 47 (f := .free "range") rfl)
    | 11, e => exact (Option.some.inj e) ▸ He.free_ok X G (c.d.fact 48 (f := .free "repr") rfl)
    | 12, e => exact (Option.some.inj e) ▸ He.free_ok X G (c.d.fact 49 (f := .free "ValueError") rfl)
    | 13, e => exact (Option.some.inj e) ▸ He.free_ok X G (c.d.fact 50 (f := .free "min") rfl)
    | 14, e => exact (Option.some.inj e) ▸ He.free_ok X G (c.d.fact 51 (f := .free "super") rfl)
    | _ + 15, e => exact nomatch e
  have cl : ∀ (i : Nat) (y : Str), clsN[i]? = some y → mg y = some (.ref (He.ga K y)) ∧ PySem.W.nsIn K mainGlobals y = some (some (.ref (He.ga K y))) := fun i y e => by
    match i, e with
    | 0, e => exact (Option.some.inj e) ▸ ⟨He.glo_ok X G (c.d.fact 28 (f := .glo "InvalidPattern") rfl), He.eqO_ok (c.d.fact 28 (f := .glo "InvalidPattern") rfl)⟩
    | 1, e => exact (Option.some.inj e) ▸ ⟨He.glo_ok X G (c.d.fact 29 (f := .glo "InvalidText") rfl), He.eqO_ok (c.d.fact 29 (f := .glo "InvalidText") rfl)⟩
    | 2, e => exact (Option.some.inj e) ▸ ⟨He.glo_ok X G (c.d.fact 30 (f := .glo "CopyError") rfl), He.eqO_ok (c.d.fact 30 (f := .glo "CopyError") rfl)⟩
    | 3, e => exact (Option.some.inj e) ▸ ⟨He.glo_ok X G (c.d.fact 31 (f := .glo "InvalidCommand") rfl), He.eqO_ok (c.d.fact 31 (f := .glo "InvalidCommand") rfl)⟩
    | 4, e => exact (Option.some.inj e) ▸ ⟨He.glo_ok X G (c.d.fact 32 (f := .glo "InvalidShape") rfl), He.eqO_ok (c.d.fact 32 (f := .glo "InvalidShape") rfl)⟩
    | _ + 5, e => exact nomatch e
  have ev : EnvE PySem.Challenge.rw_leastcopies_k14_whole_texts_of_shapes.prog K mg fileS clsN isaT catT xdL := ⟨cl, (He.ba (He.ba c.more).2).1, (He.ba (He.ba c.more).2).2, c.xc, fr 14 _ rfl, Option.isSome_iff_exists.mp (He.ba c.more).1, by kernel_rfl, by kernel_rfl⟩
  have c_LETTERS := He.str_ok X G (c.d.fact 33 (f := .str "LETTERS" "abcdefghijklmnopqrstuvwxyz") rfl)
  have c_LONGEST_NAME := He.int_ok X G (c.d.fact 34 (f := .int "LONGEST_NAME" 8) rfl)
  have c_MOST_ARGUMENTS := He.int_ok X G (c.d.fact 35 (f := .int "MOST_ARGUMENTS" 3) rfl)
  have c_INDEXES := He.str_ok X G (c.d.fact 36 (f := .str "INDEXES" "012") rfl)
  obtain ⟨fd_is_name, D_is_name⟩ := c.d.def_ 0 (d := d_is_name) rfl
  have m_is_name := He.glo_ok X G (c.d.fact 0 (f := .glo "is_name") rfl)
  obtain ⟨fd_is_integer, D_is_integer⟩ := c.d.def_ 1 (d := d_is_integer) rfl
  have m_is_integer := He.glo_ok X G (c.d.fact 1 (f := .glo "is_integer") rfl)
  obtain ⟨fd_is_index, D_is_index⟩ := c.d.def_ 2 (d := d_is_index) rfl
  have m_is_index := He.glo_ok X G (c.d.fact 2 (f := .glo "is_index") rfl)
  obtain ⟨fd_is_tree, D_is_tree⟩ := c.d.def_ 3 (d := d_is_tree) rfl
  have m_is_tree := He.glo_ok X G (c.d.fact 3 (f := .glo "is_tree") rfl)
  obtain ⟨fd_is_pattern, D_is_pattern⟩ := c.d.def_ 4 (d := d_is_pattern) rfl
  have m_is_pattern := He.glo_ok X G (c.d.fact 4 (f := .glo "is_pattern") rfl)
  obtain ⟨fd_require_pattern, D_require_pattern⟩ := c.d.def_ 5 (d := d_require_pattern) rfl
  have m_require_pattern := He.glo_ok X G (c.d.fact 5 (f := .glo "require_pattern") rfl)
  obtain ⟨fd_tree_text, D_tree_text⟩ := c.d.def_ 6 (d := d_tree_text) rfl
  have m_tree_text := He.glo_ok X G (c.d.fact 6 (f := .glo "tree_text") rfl)
  obtain ⟨fd_pattern_text, D_pattern_text⟩ := c.d.def_ 7 (d := d_pattern_text) rfl
  have m_pattern_text := He.glo_ok X G (c.d.fact 7 (f := .glo "pattern_text") rfl)
  obtain ⟨fd_leaf_at, D_leaf_at⟩ := c.d.def_ 8 (d := d_leaf_at) rfl
  have m_leaf_at := He.glo_ok X G (c.d.fact 8 (f := .glo "leaf_at") rfl)
  obtain ⟨fd_closed, D_closed⟩ := c.d.def_ 9 (d := d_closed) rfl
  have m_closed := He.glo_ok X G (c.d.fact 9 (f := .glo "closed") rfl)
  obtain ⟨fd_tree_in, D_tree_in⟩ := c.d.def_ 10 (d := d_tree_in) rfl
  have m_tree_in := He.glo_ok X G (c.d.fact 10 (f := .glo "tree_in") rfl)
  obtain ⟨fd_read_tree, D_read_tree⟩ := c.d.def_ 11 (d := d_read_tree) rfl
  have m_read_tree := He.glo_ok X G (c.d.fact 11 (f := .glo "read_tree") rfl)
  obtain ⟨fd_read_shape, D_read_shape⟩ := c.d.def_ 12 (d := d_read_shape) rfl
  have m_read_shape := He.glo_ok X G (c.d.fact 12 (f := .glo "read_shape") rfl)
  obtain ⟨fd_read_pattern, D_read_pattern⟩ := c.d.def_ 13 (d := d_read_pattern) rfl
  have m_read_pattern := He.glo_ok X G (c.d.fact 13 (f := .glo "read_pattern") rfl)
  obtain ⟨fd__law_rng, D__law_rng⟩ := c.d.def_ 14 (d := d__law_rng) rfl
  have m__law_rng := He.glo_ok X G (c.d.fact 14 (f := .glo "_law_rng") rfl)
  obtain ⟨fd__law_draw, D__law_draw⟩ := c.d.def_ 15 (d := d__law_draw) rfl
  have m__law_draw := He.glo_ok X G (c.d.fact 15 (f := .glo "_law_draw") rfl)
  obtain ⟨fd__law_choice, D__law_choice⟩ := c.d.def_ 16 (d := d__law_choice) rfl
  have m__law_choice := He.glo_ok X G (c.d.fact 16 (f := .glo "_law_choice") rfl)
  obtain ⟨fd__law_pattern_text, D__law_pattern_text⟩ := c.d.def_ 17 (d := d__law_pattern_text) rfl
  have m__law_pattern_text := He.glo_ok X G (c.d.fact 17 (f := .glo "_law_pattern_text") rfl)
  obtain ⟨fd__law_word, D__law_word⟩ := c.d.def_ 18 (d := d__law_word) rfl
  have m__law_word := He.glo_ok X G (c.d.fact 18 (f := .glo "_law_word") rfl)
  obtain ⟨fd__law_tree, D__law_tree⟩ := c.d.def_ 19 (d := d__law_tree) rfl
  have m__law_tree := He.glo_ok X G (c.d.fact 19 (f := .glo "_law_tree") rfl)
  obtain ⟨fd__law_deep, D__law_deep⟩ := c.d.def_ 20 (d := d__law_deep) rfl
  have m__law_deep := He.glo_ok X G (c.d.fact 20 (f := .glo "_law_deep") rfl)
  obtain ⟨fd__law_spoiled, D__law_spoiled⟩ := c.d.def_ 21 (d := d__law_spoiled) rfl
  have m__law_spoiled := He.glo_ok X G (c.d.fact 21 (f := .glo "_law_spoiled") rfl)
  obtain ⟨fd__law_read_at, D__law_read_at⟩ := c.d.def_ 22 (d := d__law_read_at) rfl
  have m__law_read_at := He.glo_ok X G (c.d.fact 22 (f := .glo "_law_read_at") rfl)
  obtain ⟨fd__law_read, D__law_read⟩ := c.d.def_ 23 (d := d__law_read) rfl
  have m__law_read := He.glo_ok X G (c.d.fact 23 (f := .glo "_law_read") rfl)
  obtain ⟨fd__law_told, D__law_told⟩ := c.d.def_ 24 (d := d__law_told) rfl
  have m__law_told := He.glo_ok X G (c.d.fact 24 (f := .glo "_law_told") rfl)
  obtain ⟨fd__law_read_right, D__law_read_right⟩ := c.d.def_ 25 (d := d__law_read_right) rfl
  have m__law_read_right := He.glo_ok X G (c.d.fact 25 (f := .glo "_law_read_right") rfl)
  obtain ⟨fd__law_is_pattern_refused, D__law_is_pattern_refused⟩ := c.d.def_ 26 (d := d__law_is_pattern_refused) rfl
  have m__law_is_pattern_refused := He.glo_ok X G (c.d.fact 26 (f := .glo "_law_is_pattern_refused") rfl)
  obtain ⟨fd_law, D_law⟩ := c.d.def_ 27 (d := d_law) rfl
  have m_law := He.glo_ok X G (c.d.fact 27 (f := .glo "law") rfl)
  have e := hfa.symm.trans m_law
  cases e
  have b := FunD.bindsA (ps := ["_law_script"]) D_law fun _ _ _ _ _ _ us hl => match us, hl with | [_], _ => rfl
  refine ⟨fd_law, fun s v => b s [v] rfl, fun base _ _ => ?_⟩
  have g_is_name : CalG PySem.Challenge.rw_leastcopies_k14_whole_texts_of_shapes.prog w K mg base 1 "is_name" ["value"] F_is_name := cal_of D_is_name (ok_is_name D_is_name fr ev c_LETTERS c_LONGEST_NAME) m_is_name (fun _ _ _ _ _ _ us hl => match us, hl with | [_], _ => rfl) (fun _ _ _ _ _ _ us hl => match us, hl with | [_], _ => rfl)
  have g_is_integer : CalG PySem.Challenge.rw_leastcopies_k14_whole_texts_of_shapes.prog w K mg base 1 "is_integer" ["value"] F_is_integer := cal_of D_is_integer (ok_is_integer D_is_integer fr ev) m_is_integer (fun _ _ _ _ _ _ us hl => match us, hl with | [_], _ => rfl) (fun _ _ _ _ _ _ us hl => match us, hl with | [_], _ => rfl)
  have g_is_index : CalG PySem.Challenge.rw_leastcopies_k14_whole_texts_of_shapes.prog w K mg base 2 "is_index" ["value"] F_is_index := cal_of D_is_index (ok_is_index D_is_index fr ev g_is_integer c_MOST_ARGUMENTS) m_is_index (fun _ _ _ _ _ _ us hl => match us, hl with | [_], _ => rfl) (fun _ _ _ _ _ _ us hl => match us, hl with | [_], _ => rfl)
  have g_is_tree : ∀ n, CalG PySem.Challenge.rw_leastcopies_k14_whole_texts_of_shapes.prog w K mg base (n + 3) "is_tree" ["value", "with_indexes"] (F_is_tree n) := fun n => by
    induction n with
    | zero => exact cal_of D_is_tree fnG_fail m_is_tree (fun _ _ _ _ _ _ us hl => match us, hl with | [_, _], _ => rfl) (fun _ _ _ _ _ _ us hl => match us, hl with | [_, _], _ => rfl)
    | succ n ih =>
      rw [show n + 1 + 3 = n + 3 + 1 from by omega]
      exact cal_of D_is_tree (ok_is_tree n D_is_tree fr ev g_is_name ih g_is_index c_MOST_ARGUMENTS) m_is_tree (fun _ _ _ _ _ _ us hl => match us, hl with | [_, _], _ => rfl) (fun _ _ _ _ _ _ us hl => match us, hl with | [_, _], _ => rfl)
  have g_is_pattern : CalG PySem.Challenge.rw_leastcopies_k14_whole_texts_of_shapes.prog w K mg base 44 "is_pattern" ["value"] F_is_pattern := cal_of D_is_pattern (ok_is_pattern D_is_pattern fr ev (g_is_tree 40)) m_is_pattern (fun _ _ _ _ _ _ us hl => match us, hl with | [_], _ => rfl) (fun _ _ _ _ _ _ us hl => match us, hl with | [_], _ => rfl)
  have g_require_pattern : CalG PySem.Challenge.rw_leastcopies_k14_whole_texts_of_shapes.prog w K mg base 45 "require_pattern" ["value"] F_require_pattern := cal_of D_require_pattern (ok_require_pattern D_require_pattern fr ev g_is_pattern) m_require_pattern (fun _ _ _ _ _ _ us hl => match us, hl with | [_], _ => rfl) (fun _ _ _ _ _ _ us hl => match us, hl with | [_], _ => rfl)
  have g_tree_text : ∀ n, CalG PySem.Challenge.rw_leastcopies_k14_whole_texts_of_shapes.prog w K mg base (n + 1) "tree_text" ["tree"] (F_tree_text n) := fun n => by
    induction n with
    | zero => exact cal_of D_tree_text fnG_fail m_tree_text (fun _ _ _ _ _ _ us hl => match us, hl with | [_], _ => rfl) (fun _ _ _ _ _ _ us hl => match us, hl with | [_], _ => rfl)
    | succ n ih =>
      rw [show n + 1 + 1 = n + 1 + 1 from by omega]
      exact cal_of D_tree_text (ok_tree_text n D_tree_text fr ev ih) m_tree_text (fun _ _ _ _ _ _ us hl => match us, hl with | [_], _ => rfl) (fun _ _ _ _ _ _ us hl => match us, hl with | [_], _ => rfl)
  have g_pattern_text : CalG PySem.Challenge.rw_leastcopies_k14_whole_texts_of_shapes.prog w K mg base 46 "pattern_text" ["pattern"] F_pattern_text := cal_of D_pattern_text (ok_pattern_text D_pattern_text fr ev g_require_pattern (g_tree_text 40)) m_pattern_text (fun _ _ _ _ _ _ us hl => match us, hl with | [_], _ => rfl) (fun _ _ _ _ _ _ us hl => match us, hl with | [_], _ => rfl)
  have g_leaf_at : CalG PySem.Challenge.rw_leastcopies_k14_whole_texts_of_shapes.prog w K mg base 2 "leaf_at" ["text", "start", "with_indexes"] F_leaf_at := cal_of D_leaf_at (ok_leaf_at D_leaf_at fr ev g_is_name c_INDEXES c_LETTERS) m_leaf_at (fun _ _ _ _ _ _ us hl => match us, hl with | [_, _, _], _ => rfl) (fun _ _ _ _ _ _ us hl => match us, hl with | [_, _, _], _ => rfl)
  have g_closed : CalT PySem.Challenge.rw_leastcopies_k14_whole_texts_of_shapes.prog w K mg base 1 "closed" ["opened", "value", "text", "at"] F_closed := cal_of D_closed (ok_closed D_closed fr ev c_MOST_ARGUMENTS) m_closed (fun _ _ _ _ _ _ us hl => match us, hl with | [_, _, _, _], _ => rfl) (fun _ _ _ _ _ _ us hl => match us, hl with | [_, _, _, _], _ => rfl)
  have g_tree_in : CalG PySem.Challenge.rw_leastcopies_k14_whole_texts_of_shapes.prog w K mg base 3 "tree_in" ["text", "with_indexes"] F_tree_in := cal_of D_tree_in (ok_tree_in D_tree_in fr ev g_leaf_at g_closed g_is_index) m_tree_in (fun _ _ _ _ _ _ us hl => match us, hl with | [_, _], _ => rfl) (fun _ _ _ _ _ _ us hl => match us, hl with | [_, _], _ => rfl)
  have g_read_tree : CalG PySem.Challenge.rw_leastcopies_k14_whole_texts_of_shapes.prog w K mg base 4 "read_tree" ["text", "with_indexes"] F_read_tree := cal_of D_read_tree (ok_read_tree D_read_tree fr ev g_tree_in) m_read_tree (fun _ _ _ _ _ _ us hl => match us, hl with | [_, _], _ => rfl) (fun _ _ _ _ _ _ us hl => match us, hl with | [_, _], _ => rfl)
  have g_read_shape : CalG PySem.Challenge.rw_leastcopies_k14_whole_texts_of_shapes.prog w K mg base 5 "read_shape" ["text"] F_read_shape := cal_of D_read_shape (ok_read_shape D_read_shape fr ev g_read_tree) m_read_shape (fun _ _ _ _ _ _ us hl => match us, hl with | [_], _ => rfl) (fun _ _ _ _ _ _ us hl => match us, hl with | [_], _ => rfl)
  have g_read_pattern : CalG PySem.Challenge.rw_leastcopies_k14_whole_texts_of_shapes.prog w K mg base 5 "read_pattern" ["text"] F_read_pattern := cal_of D_read_pattern (ok_read_pattern D_read_pattern fr ev g_read_tree) m_read_pattern (fun _ _ _ _ _ _ us hl => match us, hl with | [_], _ => rfl) (fun _ _ _ _ _ _ us hl => match us, hl with | [_], _ => rfl)
  have g__law_rng : CalG PySem.Challenge.rw_leastcopies_k14_whole_texts_of_shapes.prog w K mg base 1 "_law_rng" ["_law_script", "_law_k"] F__law_rng := cal_of D__law_rng (ok__law_rng D__law_rng fr ev) m__law_rng (fun _ _ _ _ _ _ us hl => match us, hl with | [_, _], _ => rfl) (fun _ _ _ _ _ _ us hl => match us, hl with | [_, _], _ => rfl)
  have g__law_draw : CalG PySem.Challenge.rw_leastcopies_k14_whole_texts_of_shapes.prog w K mg base 1 "_law_draw" ["_law_rng_here", "_law_many"] F__law_draw := cal_of D__law_draw (ok__law_draw D__law_draw fr ev) m__law_draw (fun _ _ _ _ _ _ us hl => match us, hl with | [_, _], _ => rfl) (fun _ _ _ _ _ _ us hl => match us, hl with | [_, _], _ => rfl)
  have g__law_choice : CalG PySem.Challenge.rw_leastcopies_k14_whole_texts_of_shapes.prog w K mg base 2 "_law_choice" ["_law_rng_here", "_law_options"] F__law_choice := cal_of D__law_choice (ok__law_choice D__law_choice fr ev g__law_draw) m__law_choice (fun _ _ _ _ _ _ us hl => match us, hl with | [_, _], _ => rfl) (fun _ _ _ _ _ _ us hl => match us, hl with | [_, _], _ => rfl)
  have g__law_pattern_text : ∀ n, CalG PySem.Challenge.rw_leastcopies_k14_whole_texts_of_shapes.prog w K mg base (n + 1) "_law_pattern_text" ["_law_pattern"] (F__law_pattern_text n) := fun n => by
    induction n with
    | zero => exact cal_of D__law_pattern_text fnG_fail m__law_pattern_text (fun _ _ _ _ _ _ us hl => match us, hl with | [_], _ => rfl) (fun _ _ _ _ _ _ us hl => match us, hl with | [_], _ => rfl)
    | succ n ih =>
      rw [show n + 1 + 1 = n + 1 + 1 from by omega]
      exact cal_of D__law_pattern_text (ok__law_pattern_text n D__law_pattern_text fr ev ih) m__law_pattern_text (fun _ _ _ _ _ _ us hl => match us, hl with | [_], _ => rfl) (fun _ _ _ _ _ _ us hl => match us, hl with | [_], _ => rfl)
  have g__law_word : CalG PySem.Challenge.rw_leastcopies_k14_whole_texts_of_shapes.prog w K mg base 3 "_law_word" ["_law_rng_here"] F__law_word := cal_of D__law_word (ok__law_word D__law_word fr ev g__law_choice g__law_draw) m__law_word (fun _ _ _ _ _ _ us hl => match us, hl with | [_], _ => rfl) (fun _ _ _ _ _ _ us hl => match us, hl with | [_], _ => rfl)
  have g__law_tree : ∀ n, CalG PySem.Challenge.rw_leastcopies_k14_whole_texts_of_shapes.prog w K mg base (n + 4) "_law_tree" ["_law_rng_here", "_law_levels", "_law_is_indexed"] (F__law_tree n) := fun n => by
    induction n with
    | zero => exact cal_of D__law_tree fnG_fail m__law_tree (fun _ _ _ _ _ _ us hl => match us, hl with | [_, _, _], _ => rfl) (fun _ _ _ _ _ _ us hl => match us, hl with | [_, _, _], _ => rfl)
    | succ n ih =>
      rw [show n + 1 + 4 = n + 4 + 1 from by omega]
      exact cal_of D__law_tree (ok__law_tree n D__law_tree fr ev g__law_word g__law_draw ih) m__law_tree (fun _ _ _ _ _ _ us hl => match us, hl with | [_, _, _], _ => rfl) (fun _ _ _ _ _ _ us hl => match us, hl with | [_, _, _], _ => rfl)
  have g__law_deep : CalG PySem.Challenge.rw_leastcopies_k14_whole_texts_of_shapes.prog w K mg base 45 "_law_deep" ["_law_rng_here"] F__law_deep := cal_of D__law_deep (ok__law_deep D__law_deep fr ev (g__law_tree 40) g__law_choice g__law_draw g__law_word) m__law_deep (fun _ _ _ _ _ _ us hl => match us, hl with | [_], _ => rfl) (fun _ _ _ _ _ _ us hl => match us, hl with | [_], _ => rfl)
  have g__law_spoiled : CalG PySem.Challenge.rw_leastcopies_k14_whole_texts_of_shapes.prog w K mg base 3 "_law_spoiled" ["_law_rng_here", "_law_written"] F__law_spoiled := cal_of D__law_spoiled (ok__law_spoiled D__law_spoiled fr ev g__law_choice g__law_draw) m__law_spoiled (fun _ _ _ _ _ _ us hl => match us, hl with | [_, _], _ => rfl) (fun _ _ _ _ _ _ us hl => match us, hl with | [_, _], _ => rfl)
  have g__law_read_at : ∀ n, CalG PySem.Challenge.rw_leastcopies_k14_whole_texts_of_shapes.prog w K mg base (n + 1) "_law_read_at" ["_law_written", "_law_at", "_law_is_indexed"] (F__law_read_at n) := fun n => by
    induction n with
    | zero => exact cal_of D__law_read_at fnG_fail m__law_read_at (fun _ _ _ _ _ _ us hl => match us, hl with | [_, _, _], _ => rfl) (fun _ _ _ _ _ _ us hl => match us, hl with | [_, _, _], _ => rfl)
    | succ n ih =>
      rw [show n + 1 + 1 = n + 1 + 1 from by omega]
      exact cal_of D__law_read_at (ok__law_read_at n D__law_read_at fr ev ih) m__law_read_at (fun _ _ _ _ _ _ us hl => match us, hl with | [_, _, _], _ => rfl) (fun _ _ _ _ _ _ us hl => match us, hl with | [_, _, _], _ => rfl)
  have g__law_read : CalG PySem.Challenge.rw_leastcopies_k14_whole_texts_of_shapes.prog w K mg base 42 "_law_read" ["_law_written", "_law_is_indexed"] F__law_read := cal_of D__law_read (ok__law_read D__law_read fr ev (g__law_read_at 40)) m__law_read (fun _ _ _ _ _ _ us hl => match us, hl with | [_, _], _ => rfl) (fun _ _ _ _ _ _ us hl => match us, hl with | [_, _], _ => rfl)
  have g__law_told : CalG PySem.Challenge.rw_leastcopies_k14_whole_texts_of_shapes.prog w K mg base 6 "_law_told" ["_law_way", "_law_thing"] F__law_told := cal_of D__law_told (ok__law_told D__law_told fr ev g_read_shape g_read_pattern) m__law_told (fun _ _ _ _ _ _ us hl => match us, hl with | [_, _], _ => rfl) (fun _ _ _ _ _ _ us hl => match us, hl with | [_, _], _ => rfl)
  have g__law_read_right : CalG PySem.Challenge.rw_leastcopies_k14_whole_texts_of_shapes.prog w K mg base 43 "_law_read_right" ["_law_written"] F__law_read_right := cal_of D__law_read_right (ok__law_read_right D__law_read_right fr ev g__law_read g__law_told) m__law_read_right (fun _ _ _ _ _ _ us hl => match us, hl with | [_], _ => rfl) (fun _ _ _ _ _ _ us hl => match us, hl with | [_], _ => rfl)
  have g__law_is_pattern_refused : CalG PySem.Challenge.rw_leastcopies_k14_whole_texts_of_shapes.prog w K mg base 47 "_law_is_pattern_refused" ["_law_thing"] F__law_is_pattern_refused := cal_of D__law_is_pattern_refused (ok__law_is_pattern_refused D__law_is_pattern_refused fr ev g_pattern_text) m__law_is_pattern_refused (fun _ _ _ _ _ _ us hl => match us, hl with | [_], _ => rfl) (fun _ _ _ _ _ _ us hl => match us, hl with | [_], _ => rfl)
  exact ok_law D_law fr ev g__law_rng g__law_deep (g__law_pattern_text 40) g__law_choice g__law_is_pattern_refused g_pattern_text g__law_read_right g__law_told g_read_pattern g__law_spoiled
end Lw

set_option Elab.async false
set_option maxRecDepth 100000
set_option maxHeartbeats 4000000
namespace Lw
open PySem L2 Lc
/-- the drawing state -/
def Rng (c : Cn) : Prop := ∃ a b : Int, c = .lst [.int a, .int b] ∧ 0 ≤ a ∧ 0 ≤ b ∧ b < 2147483629
theorem Rng.nm {c : Cn} (h : Rng c) : c.nm = true := by
  obtain ⟨a, b, rfl, _⟩ := h
  simp [Cn.nm, D.nms, D.nm]
theorem pylong_no {i j : Int} (h0 : 0 < j) (h : j ≤ 10 ^ 60) : Builtin.divisionGoesByPylong i j = false := by
  have h1 : j.natAbs < 2 ^ 210 := by
    have : (10 : Int) ^ 60 < 2 ^ 210 := by decide
    omega
  have h2 := log_lt h1 (by decide)
  have e : (j == 0) = false := by simp; omega
  unfold Builtin.divisionGoesByPylong
  simp only [e, Bool.and_eq_false_imp, decide_eq_true_eq]
  intro z
  simp at z
  omega
theorem rng_ok {ns : List Int} {k : Nat} (hk : k ≤ 5) (hl : ns.length ≤ 63) : ∃ c, F__law_rng [.dt (.scr ns), .dt (.int k)] = .ok (.own c) [.dt (.scr ns), .dt (.int k)] ∧ Rng c := by
  have go : ∀ x : Int, 0 ≤ x → Rng (.lst [.int (if x - 10 ^ 18 > 0 then x - 10 ^ 18 else 0), .int ((x % 2147483549 + 4127 * (k : Int) + 29) ^ 2 % 2147483477 + 1)]) := fun x hx => by
    refine ⟨_, _, rfl, ?_, ?_, ?_⟩
    · split <;> omega
    · have := Int.emod_nonneg ((x % 2147483549 + 4127 * (k : Int) + 29) ^ 2) (show (2147483477 : Int) ≠ 0 by decide)
      omega
    · have := Int.emod_lt_of_pos ((x % 2147483549 + 4127 * (k : Int) + 29) ^ 2) (show (0 : Int) < 2147483477 by decide)
      omega
  have pw : ∀ x : Int, (x % 2147483549 + 4127 * (k : Int) + 29).natAbs < 18446744073709551616 := fun x => by omega
  by_cases h : k < ns.length
  · obtain ⟨x, hx⟩ : ∃ x, ns[k]? = some x := ⟨ns[k], by simp [h]⟩
    refine ⟨_, ?_, go (if x < 0 then -x else x) (by split <;> omega)⟩
    have ha : atI ns (k : Int) = some x := by
      have e : ixN ns.length (k : Int) = some k := by simp [ixN, h]
      rw [atI, e]
      exact hx
    have h' : (k : Int) < (ns.length : Int) := by omega
    simp [F__law_rng, q_run, b__law_rng, gLen, gLt, h', gIx1, ha, gAbs, gPow, Lc.gSub, gMax, gMod, gMul, gAdd2, gAdd, gMul2, gRepL, gRepT, gMaxL, pw, q_size]
  · refine ⟨_, ?_, go 0 (by decide)⟩
    have h' : ¬ (k : Int) < (ns.length : Int) := by omega
    have p0 : (4127 * (k : Int) + 29).natAbs < 18446744073709551616 := by omega
    simp [F__law_rng, q_run, b__law_rng, gLen, gLt, h', gIx1, gAbs, gPow, Lc.gSub, gMax, gMod, gMul, gAdd2, gAdd, gMul2, gRepL, gRepT, gMaxL, p0, q_size]
theorem draw_ok {c : Cn} {n : Int} (h : Rng c) (h0 : 0 < n) (h1 : n ≤ 10 ^ 60) : ∃ m c', F__law_draw [.own c, .dt (.int n)] = .ok (.dt (.int m)) [.own c', .dt (.int n)] ∧ 0 ≤ m ∧ m < n ∧ Rng c' := by
  obtain ⟨a, b, rfl, ha, hb, hb2⟩ := h
  by_cases h : 0 < a
  · refine ⟨a % n, .lst [.int (a / n), .int b], ?_, Int.emod_nonneg _ (by omega), Int.emod_lt_of_pos _ h0, _, _, rfl, Int.ediv_nonneg ha (by omega), hb, hb2⟩
    simp [F__law_draw, q_run, b__law_draw, gIx1, atI, ixN, gGt, h, gDivmod, h0, pylong_no h0 h1]
  · have b1 := Int.emod_nonneg (b * 39373 + 9973) (show (2147483629 : Int) ≠ 0 by decide)
    have b2 := Int.emod_lt_of_pos (b * 39373 + 9973) (show (0 : Int) < 2147483629 by decide)
    refine ⟨(b * 39373 + 9973) % 2147483629 * ((b * 39373 + 9973) % 2147483629) % 2147483563 / 13 % n, .lst [.int a, .int ((b * 39373 + 9973) % 2147483629)], ?_, Int.emod_nonneg _ (by omega), Int.emod_lt_of_pos _ h0, _, _, rfl, ha, b1, b2⟩
    have c1 : -18446744073709551616 < (b * 39373 + 9973) % 2147483629 ∧ (b * 39373 + 9973) % 2147483629 < 18446744073709551616 := by omega
    simp [F__law_draw, q_run, b__law_draw, gIx1, atI, ixN, gGt, h, gMul2, gMul, gAdd2, gAdd, gMod, gFdiv, h0, c1]
theorem atI_in {α : Type} {l : List α} {m : Int} (h0 : 0 ≤ m) (h1 : m < l.length) : ∃ d, atI l m = some d ∧ d ∈ l := by
  obtain ⟨d, hd⟩ : ∃ d, l[m.toNat]? = some d := ⟨l[m.toNat]'(by omega), by simp⟩
  refine ⟨d, ?_, List.mem_of_getElem? hd⟩
  have e : ixN l.length m = some m.toNat := by simp [ixN, h0, h1]
  rw [atI, e]
  exact hd
theorem choice_ok {c : Cn} {l : List D} (h : Rng c) (h0 : 0 < l.length) (h1 : l.length ≤ 1000) : ∃ d c', F__law_choice [.own c, .own (.lst l)] = .ok (.dt d) [.own c', .own (.lst l)] ∧ d ∈ l ∧ Rng c' := by
  obtain ⟨m, c', e, m0, m1, hc⟩ := draw_ok (n := (l.length : Int)) h (by omega) (by omega)
  obtain ⟨d, ha, hd⟩ := atI_in (l := l) m0 m1
  refine ⟨d, c', ?_, hd, hc⟩
  simp [F__law_choice, q_run, b__law_choice, gLen, e, gIx1, ha]
/-- a word: one to eight letters -/
def inL (c : Nat) : Bool := decide (c ∈ (Str.ofString "abcdefghijklmnopqrstuvwxyz").cps.toList)
structure Word (x : Str) : Prop where
  le : x.length ≤ 8
  pos : 1 ≤ x.length
  let' : ∀ c ∈ x.cps.toList, inL c = true
theorem inL_lt {c : Nat} (h : inL c = true) : c < 1114112 := by
  have hall : ∀ ch ∈ (Str.ofString "abcdefghijklmnopqrstuvwxyz").cps.toList, ch < 1114112 := by decide +kernel
  exact hall c (of_decide_eq_true h)
theorem Word.wd {x : Str} (h : Word x) : Wd 8 x := ⟨h.le, fun c hc => inL_lt (h.let' c hc)⟩
theorem Word.gd {n s : Nat} {x : Str} (h : Word x) : Gd (n + 1) (s + 1) (.str x) := .str (h.wd.mono (by decide))
def abc : Str := "abcdefghijklmnopqrstuvwxyz"
theorem letter_ok {m : Int} (h0 : 0 ≤ m) (h1 : m < 26) : ∃ ch, gIx1 (.str (Str.ofString "abcdefghijklmnopqrstuvwxyz")) (.int m) = some (.dt (.str ⟨#[ch]⟩)) ∧ (Str.ofString "abcdefghijklmnopqrstuvwxyz").cps.toList[m.toNat]? = some ch ∧ inL ch = true := by
  have hl : (Str.ofString "abcdefghijklmnopqrstuvwxyz").cps.toList.length = 26 := by decide +kernel
  have hz : (Str.ofString "abcdefghijklmnopqrstuvwxyz").length ≤ 16777216 := by decide +kernel
  obtain ⟨d, hd⟩ : ∃ d, (Str.ofString "abcdefghijklmnopqrstuvwxyz").cps.toList[m.toNat]? = some d := ⟨_, List.getElem?_eq_getElem (by omega)⟩
  refine ⟨d, ?_, hd, decide_eq_true (List.mem_of_getElem? hd)⟩
  have e : ixN (Str.ofString "abcdefghijklmnopqrstuvwxyz").cps.toList.length m = some m.toNat := by simp only [ixN, hl]; simp [h0]; omega
  have ha : atI (Str.ofString "abcdefghijklmnopqrstuvwxyz").cps.toList m = some d := by rw [atI, e]; exact hd
  simp only [gIx1, q_size, hz, if_true, ha, Option.map_some]
/-- one sign of a text -/
theorem choice_str {c : Cn} {x : Str} (h : Rng c) (h0 : 0 < x.length) (h1 : x.length ≤ 1000) : ∃ ch c', F__law_choice [.own c, .dt (.str x)] = .ok (.dt (.str ⟨#[ch]⟩)) [.own c', .dt (.str x)] ∧ ch ∈ x.cps.toList ∧ Rng c' := by
  obtain ⟨m, c', e, m0, m1, hc⟩ := draw_ok (n := (x.length : Int)) h (by omega) (by omega)
  have hl := len_list x
  obtain ⟨d, ha, hd⟩ := atI_in (l := x.cps.toList) m0 (by omega)
  have hz : x.length ≤ 16777216 := by omega
  refine ⟨d, c', ?_, hd, hc⟩
  simp [F__law_choice, q_run, b__law_choice, gLen, e, gIx1, ha, hz, q_size]
theorem join_cps : ∀ ys : List Str, (Txt.join (Str.ofString "") ys).cps.toList = (ys.map (·.cps.toList)).flatten := by
  intro ys
  rw [TL.join_eq]
  induction ys with
  | nil => rfl
  | cons y ys ih =>
    cases ys with
    | nil => show y.cps.toList = _; simp
    | cons z r =>
      have e : Str.join (Str.ofString "") (y :: z :: r) = y ++ Str.ofString "" ++ Str.join (Str.ofString "") (z :: r) := rfl
      have e0 : (Str.ofString "").cps.toList = [] := by decide
      rw [e, Str.cps_append, Str.cps_append, Array.toList_append, Array.toList_append, ih, e0, List.map_cons, List.flatten_cons]
      simp
theorem strsOf_map : ∀ ys : List Str, strsOf (ys.map D.str) = some ys
  | [] => rfl
  | y :: ys => by simp [strsOf, strsOf_map ys]
theorem join_word {ys : List Str} (h1 : 1 ≤ ys.length) (h8 : ys.length ≤ 8) (h : ∀ y ∈ ys, ∃ ch, y = (⟨#[ch]⟩ : Str) ∧ inL ch = true) : Word (Txt.join (Str.ofString "") ys) ∧ gJoin (Str.ofString "") [.lst (ys.map D.str)] = some (.dt (.str (Txt.join (Str.ofString "") ys))) := by
  have hl : ∀ ys : List Str, (∀ y ∈ ys, ∃ ch, y = (⟨#[ch]⟩ : Str) ∧ inL ch = true) → ((ys.map (·.cps.toList)).flatten).length = ys.length ∧ (ys.map (·.length)).sum = ys.length ∧ ∀ c ∈ (ys.map (·.cps.toList)).flatten, inL c = true := by
    intro ys h
    induction ys with
    | nil => exact ⟨rfl, rfl, fun _ z => nomatch z⟩
    | cons y ys ih =>
      obtain ⟨a, b, c⟩ := ih fun z hz => h z (List.mem_cons_of_mem _ hz)
      obtain ⟨ch, rfl, hx⟩ := h y List.mem_cons_self
      refine ⟨by simp only [List.map_cons, List.flatten_cons, List.length_append, a, List.length_cons]; simp; omega, by simp only [List.map_cons, List.sum_cons, b, List.length_cons]; simp [Str.length]; omega, fun e he => ?_⟩
      rw [List.map_cons, List.flatten_cons] at he
      rcases List.mem_append.mp he with he | he
      · simp at he; rw [he]; exact hx
      · exact c e he
  obtain ⟨a, b, c⟩ := hl ys h
  have e0 : (Str.ofString "").length = 0 := by decide
  refine ⟨⟨?_, ?_, ?_⟩, ?_⟩
  · rw [len_list, join_cps, a]; exact h8
  · rw [len_list, join_cps, a]; exact h1
  · rw [join_cps]; exact c
  · simp only [gJoin, strsOf_map, Option.bind_some, b, e0]
    rw [if_pos (by omega)]
    rfl
theorem word_ok {c : Cn} (h : Rng c) : ∃ x c', F__law_word [.own c] = .ok (.dt (.str x)) [.own c'] ∧ Word x ∧ Rng c' := by
  obtain ⟨m, c1, e1, m0, m1, hc1⟩ := draw_ok (n := 4) h (by decide) (by decide)
  obtain ⟨j, hj, hj1, hj8⟩ : ∃ j : Int, gIx1 (.lst [.int 1, .int 1, .int 2, .int 8]) (.int m) = some (.dt (.int j)) ∧ 1 ≤ j ∧ j ≤ 8 := by
    have hm : m = 0 ∨ m = 1 ∨ m = 2 ∨ m = 3 := by omega
    rcases hm with rfl | rfl | rfl | rfl
    · exact ⟨1, rfl, by decide, by decide⟩
    · exact ⟨1, rfl, by decide, by decide⟩
    · exact ⟨2, rfl, by decide, by decide⟩
    · exact ⟨8, rfl, by decide, by decide⟩
  have hi : (M.bind (cCons (cOp2 gIx1 (cLst (cCons (cC (.int 1)) (cCons (cC (.int 1)) (cCons (cC (.int 2)) (cCons (cC (.int 8)) (M.ret [])))))) (cCall F__law_draw (cCons (cVar 0) (cCons (cC (.int 4)) (M.ret []))))) (M.ret [])) W.rng1) ⟨[some (.bor 0), some (.dt (.str "abcdefghijklmnopqrstuvwxyz")), none], [.own c], []⟩ = .ok (rngD 0 j.toNat) ⟨[some (.bor 0), some (.dt (.str "abcdefghijklmnopqrstuvwxyz")), none], [.own c1], []⟩ := by
    have z : -4611686018427387904 ≤ j ∧ j < 4611686018427387904 := by omega
    simp [e1, hj, z, q_size]
  obtain ⟨ys, re, e2, ⟨c2, hre, hc2⟩, hlen, hys⟩ := cLc_inv (own := [2]) (T := gN 2) (fe := cCall F__law_choice (cCons (cVar 0) (cCons (cVar 1) (M.ret [])))) hi rfl
    (fun r => ∃ c, r = ⟨[some (.bor 0), some (.dt (.str "abcdefghijklmnopqrstuvwxyz")), none], [.own c], []⟩ ∧ Rng c) (fun d => ∃ ch, d = .str ⟨#[ch]⟩ ∧ inL ch = true) (by simp [rngD, q_size]; omega) ⟨c1, rfl, hc1⟩ fun d _ r ⟨c, hr, hc⟩ => by
      subst hr
      obtain ⟨ch, c', e, hin, hc'⟩ := choice_str (x := "abcdefghijklmnopqrstuvwxyz") hc (by decide +kernel) (by decide +kernel)
      refine ⟨_, .dt (.str ⟨#[ch]⟩), ⟨[some (.bor 0), some (.dt (.str "abcdefghijklmnopqrstuvwxyz")), some (.dt d)], [.own c'], []⟩, .str ⟨#[ch]⟩, _, rfl, ?_, rfl, ⟨_, rfl, decide_eq_true hin⟩, c', rfl, hc'⟩
      simp [e]
  subst hre
  have hst : ∃ zs : List Str, ys = zs.map D.str ∧ ∀ y ∈ zs, ∃ ch, y = ⟨#[ch]⟩ ∧ inL ch = true := by
    clear hlen e2
    induction ys with
    | nil => exact ⟨[], rfl, fun _ z => nomatch z⟩
    | cons y ys ih =>
      obtain ⟨zs, a, b⟩ := ih fun z hz => hys z (List.mem_cons_of_mem _ hz)
      obtain ⟨ch, rfl, hx⟩ := hys y List.mem_cons_self
      refine ⟨⟨#[ch]⟩ :: zs, by rw [a]; rfl, fun z hz => ?_⟩
      rcases List.mem_cons.mp hz with rfl | hz
      · exact ⟨ch, rfl, hx⟩
      · exact b z hz
  obtain ⟨zs, rfl, z2⟩ := hst
  have hn : zs.length = j.toNat := by rw [List.length_map] at hlen; rw [hlen]; simp [rngD]
  obtain ⟨hw, hj2⟩ := join_word (ys := zs) (by omega) (by omega) z2
  have e3 : x__law_word_1 ⟨[some (.bor 0), some (.dt (.str "abcdefghijklmnopqrstuvwxyz")), none], [.own c], []⟩ = .ok (.fresh (.lst (zs.map D.str))) ⟨[some (.bor 0), some (.dt (.str "abcdefghijklmnopqrstuvwxyz")), none], [.own c2], []⟩ := by
    refine e2.trans ?_
    simp
  refine ⟨_, c2, ?_, hw, hc2⟩
  simp [F__law_word, q_run, b__law_word, e3, hj2]
end Lw

set_option Elab.async false
set_option maxRecDepth 100000
set_option maxHeartbeats 4000000
set_option linter.unusedSimpArgs false
namespace Lw
open PySem L2 Lc
/-! ### trees -/
/-- a drawn tree: indexes below t, at most n levels, its size at most s -/
def sz : Nat → Nat
  | 0 => 0
  | 1 => 1
  | n + 2 => 2 + 3 * sz (n + 1)
def Tr (t : Int) : Nat → D → Prop
  | 0, _ => False
  | n + 1, d => match d with
    | .int i => 0 ≤ i ∧ i < t
    | .str x => Word x
    | .tup (.str x :: l) => Word x ∧ 1 ≤ l.length ∧ l.length ≤ 3 ∧ ∀ d ∈ l, Tr t n d
    | _ => False
theorem Tr.mono {t : Int} : ∀ {n : Nat} {d : D}, Tr t n d → Tr t (n + 1) d
  | 0, _, h => h.elim
  | n + 1, d, h => by
    cases d with
    | int i => exact h
    | str x => exact h
    | tup l =>
      cases l with
      | nil => exact h.elim
      | cons y l =>
        cases y with
        | str x => exact ⟨h.1, h.2.1, h.2.2.1, fun d hd => (h.2.2.2 d hd).mono⟩
        | _ => exact h.elim
    | _ => exact h.elim
theorem Tr.le {t : Int} {n m : Nat} {d : D} (h : Tr t n d) (l : n ≤ m) : Tr t m d := by
  induction m with
  | zero => obtain rfl : n = 0 := by omega
            exact h
  | succ m ih =>
    by_cases e : n = m + 1
    · subst e; exact h
    · exact (ih (by omega)).mono
def lcIn : M W := (cLc (M.bind (cVar 0) W.items) [1] (gN 1) (M.ret true) (cOp2 gIn2 (cVar 1) (cC (.str "abcdefghijklmnopqrstuvwxyz"))))
theorem lcIn_ok {x : Str} (hx : x.length ≤ sizeLine) : lcIn ⟨[some (.dt (.str x)), none], [.dt (.str x)], []⟩ = .ok (.fresh (.lst (x.cps.toList.map fun c => .bl (inL c)))) ⟨[some (.dt (.str x)), none], [.dt (.str x)], []⟩ := by
  have hi : (M.bind (cVar 0) W.items) ⟨[some (.dt (.str x)), none], [.dt (.str x)], []⟩ = .ok (signs x) ⟨[some (.dt (.str x)), none], [.dt (.str x)], []⟩ := by simp
  have hs : (signs x).length ≤ sizeLine := by simpa [signs, Str.length] using hx
  have e := cLc_map (own := [1]) (T := gN 1) (fe := cOp2 gIn2 (cVar 1) (cC (.str "abcdefghijklmnopqrstuvwxyz"))) hi rfl (fun d => match d with | .str y => .bl (y.cps.toList.all inL) | _ => .non) hs fun d hd => by
    simp only [signs, List.mem_map] at hd
    obtain ⟨c, _, rfl⟩ := hd
    exact ⟨_, .dt (.bl (inL c)), ⟨[some (.dt (.str x)), some (.dt (.str ⟨#[c]⟩))], [.dt (.str x)], []⟩, ⟨[some (.dt (.str x)), some (.dt (.str ⟨#[c]⟩))], [.dt (.str x)], []⟩, rfl, rfl, by simp, rfl⟩
  refine e.trans ?_
  simp [signs, List.map_map, Function.comp_def]
/-- a name -/
def nmB : D → Bool
  | .str x => decide (1 ≤ x.length ∧ x.length ≤ 8) && (x.cps.toList.map inL).all id
  | _ => false
theorem isn_ok {n : Nat} {d : D} (h : Th n d) : F_is_name [.dt d] = .ok (.dt (.bl (nmB d))) [.dt d] := by
  cases n with
  | zero => exact h.elim
  | succ n =>
    cases d with
    | str x =>
      have hx : Wd 30 x := h
      have l := hx.len
      have l2 : x.length ≤ 16777216 := by omega
      have e := lcIn_ok (x := x) (by rw [q_size]; exact l2)
      have e' : x_is_name_1 ⟨[some (.dt (.str x)), none], [.dt (.str x)], []⟩ = _ := e
      by_cases h1 : 1 ≤ x.length
      · by_cases h8 : x.length ≤ 8
        · have z1 : (1 : Int) ≤ x.length := by omega
          have z8 : (x.length : Int) ≤ 8 := by omega
          simp [F_is_name, q_run, b_is_name, gIsi, tyD, kt1, gLen, l2, gLe, z1, z8, e', gAll, blsOf_map, nmB, h1, h8, q_size]
        · have z1 : (1 : Int) ≤ x.length := by omega
          have z8 : ¬ (x.length : Int) ≤ 8 := by omega
          simp [F_is_name, q_run, b_is_name, gIsi, tyD, kt1, gLen, l2, gLe, z1, z8, nmB, h8, q_size]
      · have z1 : ¬ (1 : Int) ≤ x.length := by omega
        simp [F_is_name, q_run, b_is_name, gIsi, tyD, kt1, gLen, l2, gLe, z1, nmB, h1, q_size]
    | ty _ => exact h.elim
    | scr _ => exact h.elim
    | cls _ => exact h.elim
    | exc _ _ _ => exact h.elim
    | obj _ _ => exact h.elim
    | err _ _ => exact h.elim
    | sto _ => exact h.elim
    | _ => simp [F_is_name, q_run, b_is_name, gIsi, tyD, kt2, kt3, kt4, kt5, kt6, kt7, nmB]
/-- an index -/
def ixB : D → Bool
  | .int i => decide (0 ≤ i ∧ i ≤ 2)
  | _ => false
theorem isi_ok {n : Nat} {d : D} (h : Th n d) : F_is_index [.dt d] = .ok (.dt (.bl (ixB d))) [.dt d] := by
  cases n with
  | zero => exact h.elim
  | succ n =>
    cases d with
    | int i =>
      by_cases h0 : 0 ≤ i
      · by_cases h3 : i < 3
        · have h2 : i ≤ 2 := by omega
          simp [F_is_index, q_run, b_is_index, F_is_integer, b_is_integer, gIsi, tyD, ki2, kb2, gLe, gLt, h0, h3, h2, ixB]
        · have h2 : ¬ i ≤ 2 := by omega
          simp [F_is_index, q_run, b_is_index, F_is_integer, b_is_integer, gIsi, tyD, ki2, kb2, gLe, gLt, h0, h3, h2, ixB]
      · simp [F_is_index, q_run, b_is_index, F_is_integer, b_is_integer, gIsi, tyD, ki2, kb2, gLe, gLt, h0, ixB]
    | ty _ => exact h.elim
    | scr _ => exact h.elim
    | cls _ => exact h.elim
    | exc _ _ _ => exact h.elim
    | obj _ _ => exact h.elim
    | err _ _ => exact h.elim
    | sto _ => exact h.elim
    | _ => simp [F_is_index, q_run, b_is_index, F_is_integer, b_is_integer, gIsi, tyD, ki1, ki2, ki3, ki4, ki5, ki6, ki7, kb3, ixB]
/-- a tree: a shape (b false), a pattern (b true) -/
def tr : Nat → Bool → D → Bool
  | 0, _, _ => false
  | n + 1, b, d => match d with
    | .tup (x :: xs) => decide (1 ≤ xs.length ∧ xs.length ≤ 3) && (nmB x && xs.all (tr n b))
    | .tup [] => false
    | d => nmB d || (b && ixB d)
theorem ist_ok : ∀ (n : Nat) (b : Bool) (d : D), Th n d → F_is_tree n [.dt d, .dt (.bl b)] = .ok (.dt (.bl (tr n b d))) [.dt d, .dt (.bl b)]
  | 0, _, _, h => h.elim
  | n + 1, b, d, h => by
    have e1 := isn_ok h
    have e2 := isi_ok h
    cases d with
    | ty _ => exact h.elim
    | scr _ => exact h.elim
    | cls _ => exact h.elim
    | exc _ _ _ => exact h.elim
    | obj _ _ => exact h.elim
    | err _ _ => exact h.elim
    | sto _ => exact h.elim
    | tup l =>
      obtain ⟨hl, hp⟩ : l.length ≤ 20000 ∧ ∀ x ∈ l, Th n x := h
      cases l with
      | nil => simp [F_is_tree, q_run, b_is_tree, gIsi, tyD, kp6, gLen, gLe, gAdd2, gAdd, tr]
      | cons x xs =>
        have e3 := isn_ok (hp x List.mem_cons_self)
        have hi : (M.bind (cSl gSl2 (cVar 0) (M.bind (cC (.int 1)) W.asI) (M.ret none)) W.items) ⟨[some (.dt (.tup (x :: xs))), some (.dt (.bl b)), none], [.dt (.tup (x :: xs)), .dt (.bl b)], []⟩ = .ok xs ⟨[some (.dt (.tup (x :: xs))), some (.dt (.bl b)), none], [.dt (.tup (x :: xs)), .dt (.bl b)], []⟩ := by
          simp [gSl2, cut1]
        have hs : xs.length ≤ sizeLine := by rw [q_size]; rw [List.length_cons] at hl; omega
        have e4 := cLc_map (own := [2]) (T := gN 2) (fe := cCall (F_is_tree n) (cCons (cVar 2) (cCons (cVar 1) (M.ret [])))) hi rfl (fun d => .bl (tr n b d)) hs fun d hd => by
          have ih := ist_ok n b d (hp d (List.mem_cons_of_mem _ hd))
          refine ⟨⟨[some (.dt (.tup (x :: xs))), some (.dt (.bl b)), some (.dt d)], [.dt (.tup (x :: xs)), .dt (.bl b)], []⟩, .dt (.bl (tr n b d)), ⟨[some (.dt (.tup (x :: xs))), some (.dt (.bl b)), some (.dt d)], [.dt (.tup (x :: xs)), .dt (.bl b)], []⟩, ⟨[some (.dt (.tup (x :: xs))), some (.dt (.bl b)), some (.dt d)], [.dt (.tup (x :: xs)), .dt (.bl b)], []⟩, rfl, ?_, rfl, rfl⟩
          simp [ih]
        have e5 : x_is_tree_1 (F_is_tree n) ⟨[some (.dt (.tup (x :: xs))), some (.dt (.bl b)), none], [.dt (.tup (x :: xs)), .dt (.bl b)], []⟩ = .ok (.fresh (.lst (xs.map fun d => .bl (tr n b d)))) ⟨[some (.dt (.tup (x :: xs))), some (.dt (.bl b)), none], [.dt (.tup (x :: xs)), .dt (.bl b)], []⟩ := by
          refine e4.trans ?_
          simp
        have hix : gIx1 (.tup (x :: xs)) (.int 0) = some (.dt x) := by simp [gIx1, atI, ixN]
        by_cases h2 : 1 ≤ xs.length
        · by_cases h4 : xs.length ≤ 3
          · have z2 : (2 : Int) ≤ (xs.length : Int) + 1 := by omega
            have z4 : (xs.length : Int) + 1 ≤ 4 := by omega
            cases hn : nmB x with
            | true => rw [hn] at e3; simp [F_is_tree, q_run, b_is_tree, gIsi, tyD, kp6, gLen, gLe, gAdd2, gAdd, z2, z4, hix, e3, e5, gAll, blsOf_map, tr, h2, h4, hn]
            | false => rw [hn] at e3; simp [F_is_tree, q_run, b_is_tree, gIsi, tyD, kp6, gLen, gLe, gAdd2, gAdd, z2, z4, hix, e3, tr, h2, h4, hn]
          · have z2 : (2 : Int) ≤ (xs.length : Int) + 1 := by omega
            have z4 : ¬ (xs.length : Int) + 1 ≤ 4 := by omega
            simp [F_is_tree, q_run, b_is_tree, gIsi, tyD, kp6, gLen, gLe, gAdd2, gAdd, z2, z4, tr, h4]
        · have z2 : ¬ (2 : Int) ≤ (xs.length : Int) + 1 := by omega
          simp [F_is_tree, q_run, b_is_tree, gIsi, tyD, kp6, gLen, gLe, gAdd2, gAdd, z2, tr, h2]
    | str x =>
      cases hn : nmB (.str x) with
      | true => rw [hn] at e1; cases hb : b <;> simp [F_is_tree, q_run, b_is_tree, gIsi, tyD, kp1, e1, tr, hn]
      | false => rw [hn] at e1; cases hb : b <;> simp [F_is_tree, q_run, b_is_tree, gIsi, tyD, kp1, e1, e2, tr, hn, ixB]
    | _ =>
      cases hb : b <;> simp [F_is_tree, q_run, b_is_tree, gIsi, tyD, kp2, kp3, kp4, kp5, kp7, e1, e2, tr, nmB, ixB]
theorem pattern_ok {d : D} (h : Th 40 d) : F_is_pattern [.dt d] = .ok (.dt (.bl (tr 40 true d))) [.dt d] := by
  have e := ist_ok 40 true d h
  simp [F_is_pattern, q_run, b_is_pattern, e]
theorem reqp_yes {d : D} (h : Th 40 d) (ht : tr 40 true d = true) : F_require_pattern [.dt d] = .ok (.dt .non) [.dt d] := by
  have e := pattern_ok h
  rw [ht] at e
  simp [F_require_pattern, q_run, b_require_pattern, e]
theorem reqp_no {d : D} (h : Th 40 d) (ht : tr 40 true d = false) : F_require_pattern [.dt d] = .exc ⟨"InvalidPattern", [("value", d)]⟩ [.dt d] := by
  have e := pattern_ok h
  rw [ht] at e
  simp [F_require_pattern, q_run, b_require_pattern, e, cRaise]
theorem nm_word {x : Str} (h : Word x) : nmB (.str x) = true := by
  have h1 := h.pos
  have h8 := h.le
  simp only [nmB, h1, h8, and_self, decide_true, Bool.true_and, List.all_map, List.all_eq_true]
  exact fun c hc => h.let' c hc
theorem tr_mono : ∀ (n : Nat) (d : D), tr n false d = true → tr n true d = true
  | 0, _, h => by simp [tr] at h
  | n + 1, d, h => by
    cases d with
    | tup l =>
      cases l with
      | nil => simp [tr] at h
      | cons x xs =>
        simp only [tr, Bool.and_eq_true, decide_eq_true_eq, List.all_eq_true] at h ⊢
        exact ⟨h.1, h.2.1, fun d hd => tr_mono n d (h.2.2 d hd)⟩
    | _ => simp only [tr, Bool.or_eq_true, Bool.and_eq_true] at h ⊢; exact h.imp (fun z => z) fun z => ⟨trivial, z.2⟩
theorem tr_no {n : Nat} {d : D} (h : tr n true d = false) : tr n false d = false := by
  cases e : tr n false d with
  | false => rfl
  | true => rw [tr_mono n d e] at h; cases h
theorem Tr.tr {t : Int} (ht : t ≤ 3) : ∀ {n : Nat} {d : D}, Tr t n d → Lw.tr n true d = true
  | 0, _, h => h.elim
  | n + 1, d, h => by
    cases d with
    | int i => obtain ⟨h0, h1⟩ : 0 ≤ i ∧ i < t := h; simp only [Lw.tr, nmB, ixB, Bool.false_or, Bool.true_and, decide_eq_true_eq]; omega
    | str x => simp only [Lw.tr, nm_word h, Bool.true_or]
    | tup l =>
      cases l with
      | nil => exact h.elim
      | cons y l =>
        cases y with
        | str x =>
          obtain ⟨a, b, c, e⟩ := h
          simp only [Lw.tr, b, c, nm_word a, Bool.and_eq_true, decide_eq_true_eq, List.all_eq_true]
          exact ⟨⟨trivial, trivial⟩, trivial, fun d hd => Tr.tr ht (e d hd)⟩
        | _ => exact h.elim
    | _ => exact h.elim
theorem GdL.of {n s : Nat} : ∀ {l : List D}, (∀ d ∈ l, Gd n s d) → GdL n (l.length * s) l
  | [], _ => .nil
  | d :: l, h => .cons (h d List.mem_cons_self) (GdL.of fun x hx => h x (List.mem_cons_of_mem _ hx)) (by rw [List.length_cons, Nat.succ_mul]; omega)
theorem sz_pos : ∀ n : Nat, 1 ≤ n → 1 ≤ sz n
  | 0, h => by omega
  | 1, _ => by simp [sz]
  | n + 2, _ => by simp [sz]; omega
theorem Tr.gd {t : Int} (ht : t ≤ 3) : ∀ {n : Nat} {d : D}, Tr t n d → Gd n (sz n) d
  | 0, _, h => h.elim
  | n + 1, d, h => by
    have hp := sz_pos (n + 1) (by omega)
    obtain ⟨s, hs⟩ : ∃ s, sz (n + 1) = s + 1 := ⟨sz (n + 1) - 1, by omega⟩
    rw [hs]
    cases d with
    | int i =>
      obtain ⟨h0, h1⟩ : 0 ≤ i ∧ i < t := h
      have h2 : (4 : Nat) < 2 ^ 200 := by decide
      exact .int (by omega)
    | str x => exact .str ((Word.wd h).mono (by decide))
    | tup l =>
      cases l with
      | nil => exact h.elim
      | cons y l =>
        cases y with
        | str x =>
          obtain ⟨a, b, c, e⟩ := h
          cases n with
          | zero =>
            cases l with
            | nil => simp at b
            | cons z l => exact (e z List.mem_cons_self).elim
          | succ n =>
            have hl : GdL (n + 1) (l.length * sz (n + 1)) l := GdL.of fun d hd => Tr.gd ht (e d hd)
            have hm : l.length * sz (n + 1) ≤ 3 * sz (n + 1) := Nat.mul_le_mul_right _ c
            have es : sz (n + 1 + 1) = 2 + 3 * sz (n + 1) := rfl
            exact .tup (.cons (s1 := 1) (.str ((Word.wd a).mono (by decide))) hl (by omega))
        | _ => exact h.elim
    | _ => exact h.elim
/-- a name, for long texts too -/
theorem isn_str {x : Str} (l2 : x.length ≤ 16777216) : F_is_name [.dt (.str x)] = .ok (.dt (.bl (nmB (.str x)))) [.dt (.str x)] := by
  have e := lcIn_ok (x := x) (by rw [q_size]; exact l2)
  have e' : x_is_name_1 ⟨[some (.dt (.str x)), none], [.dt (.str x)], []⟩ = _ := e
  by_cases h1 : 1 ≤ x.length
  · by_cases h8 : x.length ≤ 8
    · have z1 : (1 : Int) ≤ x.length := by omega
      have z8 : (x.length : Int) ≤ 8 := by omega
      simp [F_is_name, q_run, b_is_name, gIsi, tyD, kt1, gLen, l2, gLe, z1, z8, e', gAll, blsOf_map, nmB, h1, h8, q_size]
    · have z1 : (1 : Int) ≤ x.length := by omega
      have z8 : ¬ (x.length : Int) ≤ 8 := by omega
      simp [F_is_name, q_run, b_is_name, gIsi, tyD, kt1, gLen, l2, gLe, z1, z8, nmB, h8, q_size]
  · have z1 : ¬ (1 : Int) ≤ x.length := by omega
    simp [F_is_name, q_run, b_is_name, gIsi, tyD, kt1, gLen, l2, gLe, z1, nmB, h1, q_size]
end Lw

set_option Elab.async false
set_option maxRecDepth 100000
set_option maxHeartbeats 4000000
set_option linter.unusedSimpArgs false
namespace Lw
open PySem L2 Lc
/-! ### reading a text, told in lists of signs -/
inductive Lf where
  | nam (x : Str)
  | ix (i : Int)
def Lf.d : Lf → D
  | .nam x => .str x
  | .ix i => .int i
def leaf (wi : Bool) (s : List Nat) : Option (Lf × List Nat) :=
  if s.takeWhile inL = [] then
    match s with
    | [] => none
    | c :: r => if wi = true ∧ (c = 48 ∨ c = 49 ∨ c = 50) then some (.ix ((c : Int) - 48), r) else none
  else if (s.takeWhile inL).length ≤ 8 then some (.nam (mkS (s.takeWhile inL)), s.dropWhile inL) else none
def rdA (f : List Nat → Option (D × List Nat)) : Nat → List D → List Nat → Option (List D × List Nat)
  | 0, _, _ => none
  | m + 1, acc, s => match f s with
    | none => none
    | some (d, r) => if r.head? = some 44 then rdA f m (acc ++ [d]) r.tail
      else if r.head? = some 41 ∧ acc.length < 3 then some (acc ++ [d], r.tail) else none
def rd (wi : Bool) : Nat → List Nat → Option (D × List Nat)
  | 0, _ => none
  | n + 1, s => match leaf wi s with
    | none => none
    | some (.ix i, r) => some (.int i, r)
    | some (.nam x, r) => if r.head? = some 40 then
        match rdA (rd wi n) (r.length + 1) [] r.tail with
        | some (l, r') => some (.tup (.str x :: l), r')
        | none => none
      else some (.str x, r)
theorem leaf_suf {wi : Bool} {s r : List Nat} {f : Lf} (h : leaf wi s = some (f, r)) : ∃ p, p ≠ [] ∧ s = p ++ r := by
  unfold leaf at h
  split at h
  · cases s with
    | nil => cases h
    | cons c r0 =>
      simp only at h
      split at h
      · cases h; exact ⟨[c], by simp, rfl⟩
      · cases h
  · rename_i hw
    split at h
    · cases h; exact ⟨_, hw, (List.takeWhile_append_dropWhile).symm⟩
    · cases h
theorem suf_len {s p r : List Nat} (hp : p ≠ []) (h : s = p ++ r) : r.length < s.length := by
  subst h
  have := List.length_pos_iff.mpr hp
  rw [List.length_append]; omega
theorem suf_cnt {s p r : List Nat} (h : s = p ++ r) : r.count 40 ≤ s.count 40 := by
  subst h
  rw [List.count_append]; omega
theorem tail_len {s : List Nat} {c : Nat} (h : s.head? = some c) : s.length = s.tail.length + 1 := by
  cases s with
  | nil => cases h
  | cons a l => rfl
theorem tail_eq {s : List Nat} {c : Nat} (h : s.head? = some c) : s = c :: s.tail := by
  cases s with
  | nil => cases h
  | cons a l => cases h; rfl
theorem tail_cnt (s : List Nat) : s.tail.count 40 ≤ s.count 40 := by
  cases s with
  | nil => exact Nat.le_refl _
  | cons a l => rw [List.tail_cons, List.count_cons]; omega
theorem rdA_suf {f : List Nat → Option (D × List Nat)} (hf : ∀ s d r, f s = some (d, r) → ∃ p, p ≠ [] ∧ s = p ++ r) : ∀ (m : Nat) (acc : List D) (s : List Nat) (l : List D) (r : List Nat), rdA f m acc s = some (l, r) → ∃ p, p ≠ [] ∧ s = p ++ r
  | 0, _, _, _, _, h => by cases h
  | m + 1, acc, s, l, r, h => by
    unfold rdA at h
    split at h
    · cases h
    · rename_i d r0 e
      obtain ⟨p, hp, rfl⟩ := hf _ _ _ e
      split at h
      · rename_i h44
        obtain ⟨p2, _, e2⟩ := rdA_suf hf m _ _ _ _ h
        refine ⟨p ++ 44 :: p2, by simp, ?_⟩
        have e3 := tail_eq h44
        rw [e2] at e3
        rw [e3]; simp
      · split at h
        · rename_i h41
          cases h
          refine ⟨p ++ [41], by simp, ?_⟩
          have e3 := tail_eq h41.1
          rw [e3]; simp
        · cases h
theorem rd_suf {wi : Bool} : ∀ (n : Nat) (s : List Nat) (d : D) (r : List Nat), rd wi n s = some (d, r) → ∃ p, p ≠ [] ∧ s = p ++ r
  | 0, _, _, _, h => by cases h
  | n + 1, s, d, r, h => by
    unfold rd at h
    split at h
    · cases h
    · rename_i i r0 e; cases h; exact leaf_suf e
    · rename_i x r0 e
      obtain ⟨p, hp, rfl⟩ := leaf_suf e
      split at h
      · rename_i h40
        split at h
        · rename_i l r' e2
          cases h
          obtain ⟨p2, _, e3⟩ := rdA_suf (fun s d r => rd_suf n s d r) _ _ _ _ _ e2
          refine ⟨p ++ 40 :: p2, by simp, ?_⟩
          have e4 := tail_eq h40
          rw [e3] at e4
          rw [e4]; simp
        · cases h
      · cases h; exact ⟨p, hp, rfl⟩
theorem rdA_full {f : List Nat → Option (D × List Nat)} : ∀ (m : Nat) (acc : List D) (s : List Nat), 3 ≤ acc.length → rdA f m acc s = none
  | 0, _, _, _ => rfl
  | m + 1, acc, s, h => by
    unfold rdA
    split
    · rfl
    · split
      · exact rdA_full m _ _ (by rw [List.length_append]; omega)
      · rw [if_neg (by omega)]
/-! the machine with a stack -/
inductive Cl where
  | done (v : D) (r : List Nat)
  | more (ps : List (Str × List D)) (r : List Nat)
  | bad
def cls : List (Str × List D) → D → List Nat → Cl
  | [], v, s => .done v s
  | (w, l) :: ps, v, s => if s.head? = some 44 ∧ l.length < 2 then .more ((w, l ++ [v]) :: ps) s.tail
    else if s.head? = some 41 then cls ps (.tup (.str w :: (l ++ [v]))) s.tail else .bad
theorem cls_len : ∀ {ps : List (Str × List D)} {v : D} {s : List Nat} {qs : List (Str × List D)} {r : List Nat}, cls ps v s = .more qs r → r.length < s.length
  | [], _, _, _, _, h => by cases h
  | (w, l) :: ps, v, s, qs, r, h => by
    unfold cls at h
    split at h
    · rename_i h1
      cases h
      have := tail_len h1.1
      omega
    · split at h
      · rename_i h1
        have := tail_len h1
        have := cls_len h
        omega
      · cases h
/-- what comes behind a value -/
def nxt (g : List (Str × List D) → List Nat → Option D) : Cl → Option D
  | .done v r => if r = [] then some v else none
  | .more ps r => g ps r
  | .bad => none
def runM (wi : Bool) : Nat → List (Str × List D) → List Nat → Option D
  | 0, _, _ => none
  | k + 1, ps, s => match leaf wi s with
    | none => none
    | some (.nam x, r) => if r.head? = some 40 then runM wi k ((x, []) :: ps) r.tail else nxt (runM wi k) (cls ps (.str x) r)
    | some (.ix i, r) => nxt (runM wi k) (cls ps (.int i) r)
theorem nxt_up {g g' : List (Str × List D) → List Nat → Option D} {ps : List (Str × List D)} {v : D} {r : List Nat} (h : ∀ qs r', r'.length < r.length → g qs r' = g' qs r') : nxt g (cls ps v r) = nxt g' (cls ps v r) := by
  cases e : cls ps v r with
  | done v r' => rfl
  | more qs r' => exact h _ _ (cls_len e)
  | bad => rfl
theorem runM_up {wi : Bool} : ∀ (k m : Nat) (ps : List (Str × List D)) (s : List Nat), s.length < k → s.length < m → runM wi k ps s = runM wi m ps s
  | 0, _, _, _, h, _ => by omega
  | _ + 1, 0, _, _, _, h => by omega
  | k + 1, m + 1, ps, s, h1, h2 => by
    unfold runM
    cases e : leaf wi s with
    | none => rfl
    | some q =>
      obtain ⟨f, r⟩ := q
      obtain ⟨p, hp, es⟩ := leaf_suf e
      have hl := suf_len hp es
      cases f with
      | nam x =>
        show (if r.head? = some 40 then _ else _) = (if r.head? = some 40 then _ else _)
        split
        · rename_i h40
          have := tail_len h40
          exact runM_up k m _ _ (by omega) (by omega)
        · exact nxt_up fun qs r' h => runM_up k m _ _ (by omega) (by omega)
      | ix i => exact nxt_up fun qs r' h => runM_up k m _ _ (by omega) (by omega)
def RM (wi : Bool) (ps : List (Str × List D)) (s : List Nat) : Option D := runM wi (s.length + 1) ps s
def Fin' (wi : Bool) (ps : List (Str × List D)) (v : D) (r : List Nat) : Option D := nxt (RM wi) (cls ps v r)
theorem RM_eq {wi : Bool} {ps : List (Str × List D)} {s : List Nat} : RM wi ps s = match leaf wi s with
    | none => none
    | some (.nam x, r) => if r.head? = some 40 then RM wi ((x, []) :: ps) r.tail else Fin' wi ps (.str x) r
    | some (.ix i, r) => Fin' wi ps (.int i) r := by
  unfold RM
  rw [runM]
  cases e : leaf wi s with
  | none => rfl
  | some q =>
    obtain ⟨f, r⟩ := q
    obtain ⟨p, hp, es⟩ := leaf_suf e
    have hl := suf_len hp es
    cases f with
    | nam x =>
      show (if r.head? = some 40 then _ else _) = (if r.head? = some 40 then _ else _)
      split
      · rename_i h40
        have := tail_len h40
        exact runM_up _ _ _ _ (by omega) (by omega)
      · exact nxt_up fun qs r' h => runM_up _ _ _ _ (by omega) (by omega)
    | ix i => exact nxt_up fun qs r' h => runM_up _ _ _ _ (by omega) (by omega)
theorem RM_rd {wi : Bool} : ∀ (n : Nat) (ps : List (Str × List D)) (s : List Nat), s.count 40 < n → RM wi ps s = match rd wi n s with
    | none => none
    | some (d, r) => Fin' wi ps d r
  | 0, _, _, h => by omega
  | n + 1, ps, s, h => by
    have args : ∀ (m : Nat) (w : Str) (acc : List D) (ps : List (Str × List D)) (s : List Nat), acc.length ≤ 2 → s.length < m → s.count 40 < n → RM wi ((w, acc) :: ps) s = match rdA (rd wi n) m acc s with
        | none => none
        | some (l, r) => Fin' wi ps (.tup (.str w :: l)) r := fun m => by
      induction m with
      | zero => intro _ _ _ _ _ h _; omega
      | succ m ih =>
        intro w acc ps s ha hm hc
        rw [RM_rd n _ s hc]
        cases e : rd wi n s with
        | none => simp only [rdA, e]
        | some q =>
          obtain ⟨d, r⟩ := q
          obtain ⟨p, hp, es⟩ := rd_suf _ _ _ _ e
          have hl := suf_len hp es
          have hcr := suf_cnt es
          have htc := tail_cnt r
          simp only [rdA, e, Fin', cls, nxt]
          by_cases h44 : r.head? = some 44
          · have htl := tail_len h44
            by_cases h2 : acc.length < 2
            · simp only [h44, h2, and_self, if_true]
              rw [ih w (acc ++ [d]) ps r.tail (by rw [List.length_append]; simp; omega) (by omega) (by omega)]
              rfl
            · have hx : rdA (rd wi n) m (acc ++ [d]) r.tail = none := rdA_full _ _ _ (by rw [List.length_append]; simp; omega)
              simp [h44, h2, hx]
          · by_cases h41 : r.head? = some 41
            · have h3 : acc.length < 3 := by omega
              simp [h41, h3]
            · simp [h44, h41]
    rw [RM_eq]
    unfold rd
    cases e : leaf wi s with
    | none => rfl
    | some q =>
      obtain ⟨f, r⟩ := q
      obtain ⟨p, hp, es⟩ := leaf_suf e
      have hl := suf_len hp es
      have hcr := suf_cnt es
      cases f with
      | ix i => rfl
      | nam x =>
        by_cases h40 : r.head? = some 40
        · have htl := tail_len h40
          have ht := tail_eq h40
          have hc : r.tail.count 40 + 1 ≤ r.count 40 := by rw [ht, List.tail_cons, List.count_cons]; simp
          simp only [h40, if_true]
          rw [args (r.length + 1) x [] ps r.tail (by decide) (by omega) (by omega)]
          cases rdA (rd wi n) (r.length + 1) [] r.tail with
          | none => rfl
          | some q => rfl
        · simp only [if_neg h40]
theorem RM_top {wi : Bool} {n : Nat} {s : List Nat} (h : s.count 40 < n) : RM wi [] s = match rd wi n s with
    | none => none
    | some (d, r) => if r = [] then some d else none := by
  rw [RM_rd n [] s h]
  rfl
/-! ### the text of a tree, read again -/
def jn : List (List Nat) → List Nat
  | [] => []
  | [a] => a
  | a :: b :: l => a ++ 44 :: jn (b :: l)
def txt : Nat → D → List Nat
  | 0, _ => []
  | n + 1, d => match d with
    | .int i => [48 + i.toNat]
    | .str x => x.cps.toList
    | .tup (.str x :: l) => x.cps.toList ++ 40 :: (jn (l.map (txt n)) ++ [41])
    | _ => []
/-- what may stand behind a tree -/
def SepR (r : List Nat) : Prop := ∀ c, r.head? = some c → inL c = false ∧ c ≠ 40
theorem sep_cons {c : Nat} {r : List Nat} (h : inL c = false ∧ c ≠ 40) : SepR (c :: r) := fun c' e => by
  cases e; exact h
theorem sep_nil : SepR [] := fun c' e => by cases e
theorem take_word {x : Str} {r : List Nat} (h : Word x) (hr : ∀ c, r.head? = some c → inL c = false) : (x.cps.toList ++ r).takeWhile inL = x.cps.toList ∧ (x.cps.toList ++ r).dropWhile inL = r := by
  have go : ∀ l : List Nat, (∀ c ∈ l, inL c = true) → (l ++ r).takeWhile inL = l ∧ (l ++ r).dropWhile inL = r := fun l => by
    induction l with
    | nil =>
      intro _
      cases r with
      | nil => exact ⟨rfl, rfl⟩
      | cons c r =>
        have hc := hr c rfl
        simp [hc]
    | cons c l ih =>
      intro hl
      have hc := hl c List.mem_cons_self
      obtain ⟨a, b⟩ := ih fun z hz => hl z (List.mem_cons_of_mem _ hz)
      simp only [List.cons_append, List.takeWhile, List.dropWhile, hc, a, b, and_self]
  exact go _ h.let'
theorem word_ne {x : Str} (h : Word x) : x.cps.toList ≠ [] := fun e => by
  have := h.pos
  have e2 : x.cps.toList.length = 0 := by rw [e]; rfl
  rw [Array.length_toList] at e2
  unfold Str.length at this
  omega
theorem leaf_word {wi : Bool} {x : Str} {r : List Nat} (h : Word x) (hr : ∀ c, r.head? = some c → inL c = false) : leaf wi (x.cps.toList ++ r) = some (.nam x, r) := by
  obtain ⟨a, b⟩ := take_word h hr
  have hl : x.cps.toList.length ≤ 8 := by rw [Array.length_toList]; exact h.le
  unfold leaf
  rw [a, b, if_neg (word_ne h), if_pos hl, mkS_list]
theorem dig_no {k : Nat} (h : k < 3) : inL (48 + k) = false := by
  match k, h with
  | 0, _ => decide +kernel
  | 1, _ => decide +kernel
  | 2, _ => decide +kernel
theorem leaf_dig {i : Int} {r : List Nat} (h0 : 0 ≤ i) (h3 : i < 3) : leaf true ((48 + i.toNat) :: r) = some (.ix i, r) := by
  have hn := dig_no (k := i.toNat) (by omega)
  unfold leaf
  have e : ((48 + i.toNat) :: r).takeWhile inL = [] := by simp only [List.takeWhile, hn]
  rw [if_pos e]
  have h2 : (48 + i.toNat = 48 ∨ 48 + i.toNat = 49 ∨ 48 + i.toNat = 50) := by omega
  simp only [h2, and_self, if_true]
  have h4 : ((48 + i.toNat : Nat) : Int) - 48 = i := by omega
  rw [h4]
theorem no40 : inL 40 = false ∧ inL 44 = false ∧ inL 41 = false := by decide +kernel
theorem rdA_jn {f : List Nat → Option (D × List Nat)} {g : D → List Nat} {r : List Nat} : ∀ (l : List D) (m : Nat) (acc : List D), l ≠ [] → acc.length + l.length ≤ 3 → l.length ≤ m → (∀ d ∈ l, ∀ r, SepR r → f (g d ++ r) = some (d, r)) → rdA f m acc (jn (l.map g) ++ 41 :: r) = some (acc ++ l, r)
  | [], _, _, h, _, _, _ => absurd rfl h
  | _ :: _, 0, _, _, _, h, _ => by simp at h
  | [d], m + 1, acc, _, h3, _, hf => by
    have e := hf d List.mem_cons_self (41 :: r) (sep_cons ⟨no40.2.2, by decide⟩)
    have h3' : acc.length < 3 := by simp at h3; omega
    simp only [List.map_cons, List.map_nil, jn, rdA, e]
    simp [h3']
  | d :: d' :: l, m + 1, acc, _, h3, hm, hf => by
    have e := hf d List.mem_cons_self (44 :: (jn ((d' :: l).map g) ++ 41 :: r)) (sep_cons ⟨no40.2.1, by decide⟩)
    have ih := rdA_jn (f := f) (g := g) (r := r) (d' :: l) m (acc ++ [d]) (by simp) (by simp at h3 ⊢; omega) (by simp at hm ⊢; omega) fun d hd r hr => hf d (List.mem_cons_of_mem _ hd) r hr
    simp only [List.map_cons, jn, List.append_assoc, List.cons_append, rdA]
    simp only [List.map_cons] at e ih
    rw [e]
    simp only [List.head?_cons, if_true, List.tail_cons]
    rw [ih]; simp
theorem jn_cnt {g : D → List Nat} : ∀ (l : List D), ∀ d ∈ l, (g d).count 40 ≤ (jn (l.map g)).count 40
  | [], _, h => by cases h
  | [a], d, h => by
    rw [List.mem_singleton.mp h]; exact Nat.le_refl _
  | a :: b :: l, d, h => by
    simp only [List.map_cons, jn, List.count_append, List.count_cons]
    rcases List.mem_cons.mp h with rfl | h
    · omega
    · have := jn_cnt (g := g) (b :: l) d h
      simp only [List.map_cons] at this
      omega
theorem jn_len {g : D → List Nat} : ∀ (l : List D), (∀ d ∈ l, 1 ≤ (g d).length) → l.length ≤ (jn (l.map g)).length
  | [], _ => Nat.zero_le _
  | [a], h => by simpa [jn] using h a List.mem_cons_self
  | a :: b :: l, h => by
    have := jn_len (b :: l) fun d hd => h d (List.mem_cons_of_mem _ hd)
    have h1 := h a List.mem_cons_self
    simp only [List.map_cons, jn, List.length_append, List.length_cons] at this ⊢
    omega
theorem txt_pos {t : Int} : ∀ {n : Nat} {d : D}, Tr t n d → 1 ≤ (txt n d).length
  | 0, _, h => h.elim
  | n + 1, d, h => by
    cases d with
    | int i => simp [txt]
    | str x => show 1 ≤ x.cps.toList.length; rw [Array.length_toList]; exact Word.pos h
    | tup l =>
      cases l with
      | nil => exact h.elim
      | cons y l =>
        cases y with
        | str x => simp [txt]; omega
        | _ => exact h.elim
    | _ => exact h.elim
/-- a text is read as its tree -/
theorem rd_txt {t : Int} {wi : Bool} (ht : t ≤ 3) (hw : 0 < t → wi = true) : ∀ {k n : Nat} {d : D} {r : List Nat}, Tr t k d → SepR r → (txt k d).count 40 < n → rd wi n (txt k d ++ r) = some (d, r)
  | 0, _, _, _, h, _, _ => h.elim
  | _ + 1, 0, _, _, _, _, h => by omega
  | k + 1, n + 1, d, r, h, hr, hc => by
    cases d with
    | int i =>
      obtain ⟨h0, h1⟩ : 0 ≤ i ∧ i < t := h
      rw [hw (by omega)]
      simp only [txt, List.singleton_append, rd, leaf_dig h0 (show i < 3 by omega)]
    | str x =>
      simp only [txt, rd, leaf_word (wi := wi) (show Word x from h) fun c e => (hr c e).1]
      rw [if_neg]
      exact fun e => (hr 40 e).2 rfl
    | tup l =>
      cases l with
      | nil => exact h.elim
      | cons y l =>
        cases y with
        | str x =>
          obtain ⟨a, b, c, e⟩ := h
          have hne : l ≠ [] := fun z => by rw [z] at b; simp at b
          have el : leaf wi (x.cps.toList ++ 40 :: (jn (l.map (txt k)) ++ 41 :: r)) = some (.nam x, 40 :: (jn (l.map (txt k)) ++ 41 :: r)) := leaf_word a fun c e => by cases e; exact no40.1
          have hc' : (jn (l.map (txt k))).count 40 < n := by
            simp only [txt, List.count_append, List.count_cons] at hc
            simp at hc
            omega
          have ea := rdA_jn (f := rd wi n) (g := txt k) (r := r) l ((40 :: (jn (l.map (txt k)) ++ 41 :: r)).length + 1) [] hne (by simpa using c) (by
            have := jn_len (g := txt k) l fun d hd => txt_pos (e d hd)
            simp; omega) fun d hd r hr => rd_txt ht hw (e d hd) hr (by have := jn_cnt (g := txt k) l d hd; omega)
          simp only [txt, List.append_assoc, List.cons_append, List.nil_append, rd, el, List.head?_cons, if_true, List.tail_cons]
          rw [ea]
          simp
        | _ => exact h.elim
    | _ => exact h.elim
/-! ### the size of what is read -/
theorem gdl_snoc {n : Nat} : ∀ {q p : Nat} {l : List D} {d : D}, GdL n q l → Gd n p d → GdL n (q + p) (l ++ [d])
  | _, _, [], _, _, h => .cons h (.nil (s := 0)) (by omega)
  | _, _, _ :: _, _, .cons a b c, h => .cons a (gdl_snoc b h) (by omega)
theorem all_take {p : Nat → Bool} : ∀ l : List Nat, ∀ c ∈ l.takeWhile p, p c = true
  | [], c, h => by cases h
  | a :: l, c, h => by
    by_cases e : p a = true
    · rw [List.takeWhile_cons_of_pos e] at h
      rcases List.mem_cons.mp h with rfl | h
      · exact e
      · exact all_take l c h
    · rw [List.takeWhile_cons_of_neg e] at h; cases h
theorem leaf_nam {wi : Bool} {s r : List Nat} {x : Str} (h : leaf wi s = some (.nam x, r)) : Word x := by
  unfold leaf at h
  split at h
  · cases s with
    | nil => cases h
    | cons c r0 =>
      simp only at h
      split at h
      · cases h
      · cases h
  · rename_i hne
    split at h
    · rename_i h8
      cases h
      refine ⟨?_, ?_, fun c hc => all_take s c (by simpa [mkS] using hc)⟩
      · simpa [mkS, Str.length] using h8
      · have := List.length_pos_iff.mpr hne
        simp only [mkS, Str.length, List.size_toArray]
        omega
    · cases h
theorem leaf_ix {wi : Bool} {s r : List Nat} {i : Int} (h : leaf wi s = some (.ix i, r)) : 0 ≤ i ∧ i < 3 := by
  unfold leaf at h
  split at h
  · cases s with
    | nil => cases h
    | cons c r0 =>
      simp only at h
      split at h
      · rename_i h2; cases h; omega
      · cases h
  · split at h
    · cases h
    · cases h
theorem rdA_gd {n : Nat} {f : List Nat → Option (D × List Nat)} (hs : ∀ s d r, f s = some (d, r) → ∃ p, p ≠ [] ∧ s = p ++ r) (hf : ∀ s d r, f s = some (d, r) → Gd n (s.length - r.length) d) : ∀ (m : Nat) (acc : List D) (s : List Nat) (l : List D) (r : List Nat) (q : Nat), rdA f m acc s = some (l, r) → GdL n q acc → GdL n (q + (s.length - r.length)) l
  | 0, _, _, _, _, _, h, _ => by cases h
  | m + 1, acc, s, l, r, q, h, ha => by
    unfold rdA at h
    split at h
    · cases h
    · rename_i d r0 e
      obtain ⟨p, hp, es⟩ := hs _ _ _ e
      have l1 := suf_len hp es
      have g := hf _ _ _ e
      split at h
      · rename_i h44
        have l2 := tail_len h44
        obtain ⟨p2, hp2, es2⟩ := rdA_suf hs _ _ _ _ _ h
        have l3 := suf_len hp2 es2
        exact (rdA_gd hs hf m _ _ _ _ _ h (gdl_snoc ha g)).mono (Nat.le_refl _) (by omega)
      · split at h
        · rename_i h41
          have l2 := tail_len h41.1
          cases h
          exact (gdl_snoc ha g).mono (Nat.le_refl _) (by omega)
        · cases h
theorem rd_gd {wi : Bool} : ∀ (n : Nat) (s : List Nat) (d : D) (r : List Nat), rd wi n s = some (d, r) → Gd n (s.length - r.length) d
  | 0, _, _, _, h => by cases h
  | n + 1, s, d, r, h => by
    have one : ∀ r : List Nat, r.length < s.length → ∃ k, s.length - r.length = k + 1 := fun r h => ⟨s.length - r.length - 1, by omega⟩
    unfold rd at h
    split at h
    · cases h
    · rename_i i r0 e
      cases h
      obtain ⟨p, hp, es⟩ := leaf_suf e
      obtain ⟨k, hk⟩ := one r (suf_len hp es)
      have hi := leaf_ix e
      have h2 : (4 : Nat) < 2 ^ 200 := by decide
      rw [hk]
      exact .int (by omega)
    · rename_i x r0 e
      obtain ⟨p, hp, es⟩ := leaf_suf e
      have l1 := suf_len hp es
      have hw := leaf_nam e
      split at h
      · rename_i h40
        have l2 := tail_len h40
        split at h
        · rename_i l r' e2
          cases h
          have g := rdA_gd (n := n) (fun s d r => rd_suf n s d r) (fun s d r => rd_gd n s d r) _ _ _ _ _ 0 e2 .nil
          obtain ⟨p2, hp2, es2⟩ := rdA_suf (fun s d r => rd_suf n s d r) _ _ _ _ _ e2
          have l3 := suf_len hp2 es2
          obtain ⟨k, hk⟩ := one r (by omega)
          have hn : ∃ m, n = m + 1 := by
            cases n with
            | zero =>
              exfalso
              unfold rdA at e2
              simp [rd] at e2
            | succ m => exact ⟨m, rfl⟩
          obtain ⟨m, rfl⟩ := hn
          rw [hk]
          exact .tup (.cons (s1 := 1) (.str (n := m) (s := 0) (hw.wd.mono (by decide))) g (by omega))
        · cases h
      · cases h
        obtain ⟨k, hk⟩ := one r l1
        rw [hk]
        exact .str (hw.wd.mono (by decide))
end Lw

set_option Elab.async false
set_option maxRecDepth 100000
set_option maxHeartbeats 4000000
set_option linter.unusedSimpArgs false
namespace Lw
open PySem L2 Lc
/-! ### drawn trees -/
def tb (b : Bool) : Int := if b = true then 3 else 0
theorem tb_le (b : Bool) : tb b ≤ 3 := by cases b <;> decide
theorem tree_ok : ∀ (k f : Nat) (c : Cn) (b : Bool), Rng c → k < f → ∃ d c', F__law_tree f [.own c, .dt (.int k), .dt (.bl b)] = .ok (.dt d) [.own c', .dt (.int k), .dt (.bl b)] ∧ Tr (tb b) (k + 1) d ∧ Rng c'
  | k, 0, _, _, _, h => by omega
  | 0, f + 1, c, b, hc, _ => by
    cases b with
    | false =>
      obtain ⟨x, c1, e1, hx, h1⟩ := word_ok hc
      exact ⟨.str x, c1, by simp [F__law_tree, q_run, b__law_tree, gLt, e1], hx, h1⟩
    | true =>
      obtain ⟨m, c1, e1, m0, m1, h1⟩ := draw_ok (n := 2) hc (by decide) (by decide)
      by_cases hm : m = 0
      · subst hm
        obtain ⟨j, c2, e2, j0, j1, h2⟩ := draw_ok (n := 3) h1 (by decide) (by decide)
        exact ⟨.int j, c2, by simp [F__law_tree, q_run, b__law_tree, gLt, e1, e2], ⟨j0, j1⟩, h2⟩
      · have hm' : (m == 0) = false := by simpa using hm
        obtain ⟨x, c2, e2, hx, h2⟩ := word_ok h1
        exact ⟨.str x, c2, by simp [F__law_tree, q_run, b__law_tree, gLt, e1, hm', hm, e2], hx, h2⟩
  | k + 1, f + 1, c, b, hc, hf => by
    have hlt : ¬ ((k : Int) + 1 < 1) := by omega
    obtain ⟨q, c0, e0, q0, q1, h0⟩ := draw_ok (n := 3) hc (by decide) (by decide)
    by_cases hq : q = 0
    · subst hq
      cases b with
      | false =>
        obtain ⟨x, c1, e1, hx, h1⟩ := word_ok h0
        exact ⟨.str x, c1, by simp [F__law_tree, q_run, b__law_tree, gLt, hlt, e0, e1], hx, h1⟩
      | true =>
        obtain ⟨m, c1, e1, m0, m1, h1⟩ := draw_ok (n := 2) h0 (by decide) (by decide)
        by_cases hm : m = 0
        · subst hm
          obtain ⟨j, c2, e2, j0, j1, h2⟩ := draw_ok (n := 3) h1 (by decide) (by decide)
          exact ⟨.int j, c2, by simp [F__law_tree, q_run, b__law_tree, gLt, hlt, e0, e1, e2], ⟨j0, j1⟩, h2⟩
        · have hm' : (m == 0) = false := by simpa using hm
          obtain ⟨x, c2, e2, hx, h2⟩ := word_ok h1
          exact ⟨.str x, c2, by simp [F__law_tree, q_run, b__law_tree, gLt, hlt, e0, e1, hm', hm, e2], hx, h2⟩
    · have hq' : (q == 0) = false := by simpa using hq
      obtain ⟨x, c1, e1, hx, h1⟩ := word_ok h0
      obtain ⟨m, c2, e2, m0, m1, h2⟩ := draw_ok (n := 3) h1 (by decide) (by decide)
      have hi : (M.bind (cCons (cOp2 gAdd2 (cC (.int 1)) (cCall F__law_draw (cCons (cVar 0) (cCons (cC (.int 3)) (M.ret []))))) (M.ret [])) W.rng1) ⟨[some (.bor 0), some (.dt (.int ((k : Int) + 1))), some (.dt (.bl b)), none], [.own c1, .dt (.int ((k : Int) + 1)), .dt (.bl b)], []⟩ = .ok (rngD 0 (1 + m).toNat) ⟨[some (.bor 0), some (.dt (.int ((k : Int) + 1))), some (.dt (.bl b)), none], [.own c2, .dt (.int ((k : Int) + 1)), .dt (.bl b)], []⟩ := by
        have z : -4611686018427387904 ≤ 1 + m ∧ 1 + m < 4611686018427387904 := by omega
        simp [e2, gAdd2, gAdd, z]
      obtain ⟨ys, re, e3, ⟨c3, hre, hc3⟩, hlen, hys⟩ := cLc_inv (own := [3]) (T := gN 3) (fe := cCall (F__law_tree f) (cCons (cVar 0) (cCons (cOp2 Lc.gSub (cVar 1) (cC (.int 1))) (cCons (cVar 2) (M.ret []))))) hi rfl
        (fun r => ∃ c, r = ⟨[some (.bor 0), some (.dt (.int ((k : Int) + 1))), some (.dt (.bl b)), none], [.own c, .dt (.int ((k : Int) + 1)), .dt (.bl b)], []⟩ ∧ Rng c) (fun d => Tr (tb b) (k + 1) d) (by simp [rngD, q_size]; omega) ⟨c2, rfl, h2⟩ fun d _ r ⟨c, hr, hc⟩ => by
          subst hr
          obtain ⟨y, c', e, hg, hc'⟩ := tree_ok k f c b hc (by omega)
          have ek : (k : Int) + 1 - 1 = k := by omega
          refine ⟨_, .dt y, ⟨[some (.bor 0), some (.dt (.int ((k : Int) + 1))), some (.dt (.bl b)), some (.dt d)], [.own c', .dt (.int ((k : Int) + 1)), .dt (.bl b)], []⟩, y, _, rfl, ?_, rfl, hg, c', rfl, hc'⟩
          simp [Lc.gSub, ek, e]
      subst hre
      have e4 : x__law_tree_1 (F__law_tree f) ⟨[some (.bor 0), some (.dt (.int ((k : Int) + 1))), some (.dt (.bl b)), none], [.own c1, .dt (.int ((k : Int) + 1)), .dt (.bl b)], []⟩ = .ok (.fresh (.lst ys)) ⟨[some (.bor 0), some (.dt (.int ((k : Int) + 1))), some (.dt (.bl b)), none], [.own c3, .dt (.int ((k : Int) + 1)), .dt (.bl b)], []⟩ := by
        refine e3.trans ?_
        simp
      have hyl : ys.length = (1 + m).toNat := by rw [hlen]; simp [rngD]
      have hsz : ys.length + 1 ≤ 16777216 := by omega
      have hsz2 : 1 + ys.length ≤ 16777216 := by omega
      refine ⟨.tup (.str x :: ys), c3, ?_, ⟨hx, by omega, by omega, hys⟩, hc3⟩
      simp [F__law_tree, q_run, b__law_tree, gLt, hlt, e0, hq', hq, e1, e4, gTuple, gAdd2, gAdd, gAddT, q_size, hsz, hsz2]
/-! ### the length of a text, its opening brackets -/
def tl : Nat → Nat
  | 0 => 0
  | 1 => 8
  | n + 2 => 13 + 3 * tl (n + 1)
def cn : Nat → Nat
  | 0 => 0
  | 1 => 0
  | n + 2 => 1 + 3 * cn (n + 1)
theorem jn_max {g : D → List Nat} {b q : Nat} : ∀ (l : List D), (∀ d ∈ l, (g d).length ≤ b ∧ (g d).count 40 ≤ q) → (jn (l.map g)).length ≤ l.length * (b + 1) ∧ (jn (l.map g)).count 40 ≤ l.length * q
  | [], _ => ⟨Nat.zero_le _, Nat.zero_le _⟩
  | [a], h => by
    obtain ⟨h1, h2⟩ := h a List.mem_cons_self
    simp only [List.map_cons, List.map_nil, jn, List.length_singleton]
    omega
  | a :: c :: l, h => by
    obtain ⟨i1, i2⟩ := jn_max (g := g) (b := b) (q := q) (c :: l) fun d hd => h d (List.mem_cons_of_mem _ hd)
    obtain ⟨h1, h2⟩ := h a List.mem_cons_self
    simp only [List.map_cons, jn, List.length_append, List.length_cons, List.count_append, List.count_cons] at i1 i2 ⊢
    rw [Nat.add_mul (l.length + 1) 1, Nat.add_mul (l.length + 1) 1]
    simp
    omega
theorem word_cnt {x : Str} (h : Word x) : x.cps.toList.count 40 = 0 := by
  rw [List.count_eq_zero]
  intro z
  have := h.let' _ z
  rw [no40.1] at this
  cases this
theorem txt_max {t : Int} : ∀ {n : Nat} {d : D}, Tr t n d → (txt n d).length ≤ tl n ∧ (txt n d).count 40 ≤ cn n
  | 0, _, h => h.elim
  | n + 1, d, h => by
    have hp : 8 ≤ tl (n + 1) := by cases n with | zero => exact Nat.le_refl _ | succ n => unfold tl; omega
    cases d with
    | int i =>
      obtain ⟨h0, h1⟩ : 0 ≤ i ∧ i < t := h
      have h40 : ¬ 48 + i.toNat = 40 := by omega
      simp [txt, h40]
      omega
    | str x =>
      have h8 := Word.le h
      simp only [txt, word_cnt h]
      rw [Array.length_toList]
      unfold Str.length at h8
      omega
    | tup l =>
      cases l with
      | nil => exact h.elim
      | cons y l =>
        cases y with
        | str x =>
          obtain ⟨a, b, c, e⟩ := h
          cases n with
          | zero =>
            cases l with
            | nil => simp at b
            | cons z l => exact (e z List.mem_cons_self).elim
          | succ n =>
            obtain ⟨j1, j2⟩ := jn_max (g := txt (n + 1)) (b := tl (n + 1)) (q := cn (n + 1)) l fun d hd => txt_max (e d hd)
            have m1 : l.length * (tl (n + 1) + 1) ≤ 3 * (tl (n + 1) + 1) := Nat.mul_le_mul_right _ c
            have m2 : l.length * cn (n + 1) ≤ 3 * cn (n + 1) := Nat.mul_le_mul_right _ c
            have h8 := a.le
            have hw : x.cps.toList.length ≤ 8 := by rw [Array.length_toList]; exact h8
            have hc := word_cnt a
            have e1 : tl (n + 1 + 1) = 13 + 3 * tl (n + 1) := rfl
            have e2 : cn (n + 1 + 1) = 1 + 3 * cn (n + 1) := rfl
            have et : txt (n + 1 + 1) (.tup (.str x :: l)) = x.cps.toList ++ 40 :: (jn (l.map (txt (n + 1))) ++ [41]) := rfl
            rw [et]
            generalize hJ : jn (l.map (txt (n + 1))) = J at j1 j2
            simp only [List.length_append, List.length_cons, List.count_append, List.count_cons, hc, List.length_nil, List.count_nil]
            simp only [show (40 == 40) = true from rfl, show ((41 : Nat) == 40) = false from rfl, if_true, Bool.false_eq_true, if_false]
            omega
        | _ => exact h.elim
    | _ => exact h.elim
theorem txt_up {t : Int} : ∀ {n : Nat} {d : D}, Tr t n d → txt (n + 1) d = txt n d
  | 0, _, h => h.elim
  | n + 1, d, h => by
    cases d with
    | int i => rfl
    | str x => rfl
    | tup l =>
      cases l with
      | nil => exact h.elim
      | cons y l =>
        cases y with
        | str x =>
          obtain ⟨a, b, c, e⟩ := h
          have em : l.map (txt (n + 1)) = l.map (txt n) := List.map_congr_left fun d hd => txt_up (e d hd)
          show x.cps.toList ++ 40 :: (jn (l.map (txt (n + 1))) ++ [41]) = x.cps.toList ++ 40 :: (jn (l.map (txt n)) ++ [41])
          rw [em]
        | _ => exact h.elim
    | _ => exact h.elim
theorem txt_le {t : Int} {n m : Nat} {d : D} (h : Tr t n d) (l : n ≤ m) : txt m d = txt n d := by
  induction m with
  | zero => obtain rfl : n = 0 := by omega
            rfl
  | succ m ih =>
    by_cases e : n = m + 1
    · subst e; rfl
    · rw [txt_up (h.le (show n ≤ m by omega)), ih (by omega)]
theorem deep_ok {c : Cn} (h : Rng c) : ∃ b d c', F__law_deep [.own c] = .ok (.dt d) [.own c'] ∧ Tr (tb b) 19 d ∧ (txt 19 d).length ≤ 535 ∧ (txt 19 d).count 40 ≤ 28 ∧ Rng c' := by
  obtain ⟨m, c1, e1, m0, m1, h1⟩ := draw_ok (n := 2) h (by decide) (by decide)
  obtain ⟨t, c2, e2, ht, h2⟩ := tree_ok 3 40 c1 (m == 0) h1 (by decide)
  obtain ⟨x1, x2⟩ := txt_max ht
  obtain ⟨q, c3, e3, hq, h3⟩ := choice_ok (l := [.int 0, .int 0, .int 1, .int 15]) h2 (by decide) (by decide)
  obtain ⟨j, rfl, hj0, hj⟩ : ∃ j : Nat, q = .int (j : Int) ∧ 0 ≤ j ∧ j ≤ 15 := by
    simp only [List.mem_cons, List.not_mem_nil, or_false] at hq
    rcases hq with rfl | rfl | rfl | rfl
    · exact ⟨0, rfl, by decide, by decide⟩
    · exact ⟨0, rfl, by decide, by decide⟩
    · exact ⟨1, rfl, by decide, by decide⟩
    · exact ⟨15, rfl, by decide, by decide⟩
  have hi : (M.bind (cCons (cCall F__law_choice (cCons (cVar 0) (cCons (cLst (cCons (cC (.int 0)) (cCons (cC (.int 0)) (cCons (cC (.int 1)) (cCons (cC (.int 15)) (M.ret [])))))) (M.ret [])))) (M.ret [])) W.rng1) ⟨[some (.bor 0), some (.dt t), none], [.own c2], []⟩ = .ok (rngD 0 j) ⟨[some (.bor 0), some (.dt t), none], [.own c3], []⟩ := by
    have z : -4611686018427387904 ≤ (j : Int) ∧ (j : Int) < 4611686018427387904 := by omega
    simp [e3, z, q_size]
  generalize hb : (m == 0) = b at e2 ht
  have go : ∀ (ds : List D) (k : Nat) (t : D) (u : Option Sl) (c : Cn), Rng c → Tr (tb b) (4 + k) t → (txt (4 + k) t).length ≤ 385 + 10 * k → (txt (4 + k) t).count 40 ≤ 13 + k → ∃ t' u' c', loopL (gN 2) x__law_deep_1 ds ⟨[some (.bor 0), some (.dt t), u], [.own c], []⟩ = .ok .next ⟨[some (.bor 0), some (.dt t'), u'], [.own c'], []⟩ ∧ Rng c' ∧ Tr (tb b) (4 + (k + ds.length)) t' ∧ (txt (4 + (k + ds.length)) t').length ≤ 385 + 10 * (k + ds.length) ∧ (txt (4 + (k + ds.length)) t').count 40 ≤ 13 + (k + ds.length) := fun ds => by
    induction ds with
    | nil => intro k t u c hc ht hl hn; exact ⟨t, u, c, rfl, hc, ht, hl, hn⟩
    | cons d ds ih =>
      intro k t u c hc ht hl hn
      obtain ⟨x, c', e, hx, hc'⟩ := word_ok hc
      have hb : x__law_deep_1 ⟨[some (.bor 0), some (.dt t), some (.dt d)], [.own c], []⟩ = .ok .next ⟨[some (.bor 0), some (.dt (.tup [.str x, t])), some (.dt d)], [.own c'], []⟩ := by
        simp [x__law_deep_1, e, q_size]
      have hg : Tr (tb b) (4 + (k + 1)) (.tup [.str x, t]) := ⟨hx, by simp, by simp, fun d hd => by rw [List.mem_singleton.mp hd]; exact ht⟩
      have et : txt (4 + (k + 1)) (.tup [.str x, t]) = x.cps.toList ++ 40 :: (txt (4 + k) t ++ [41]) := rfl
      have hw : x.cps.toList.length ≤ 8 := by rw [Array.length_toList]; exact hx.le
      have hcw := word_cnt hx
      obtain ⟨t', u', c2, e2, h2, g2, l2, n2⟩ := ih (k + 1) (.tup [.str x, t]) (some (.dt d)) c' hc' hg (by
        rw [et]; simp only [List.length_append, List.length_cons, List.length_nil]; omega) (by
        rw [et]; simp only [List.count_append, List.count_cons, List.count_nil, hcw]; simp; omega)
      rw [List.length_cons, show k + (ds.length + 1) = k + 1 + ds.length by omega]
      refine ⟨t', u', c2, ?_, h2, g2, l2, n2⟩
      have hT : gN 2 (.dt d) ⟨[some (.bor 0), some (.dt t), u], [.own c], []⟩ = .ok () ⟨[some (.bor 0), some (.dt t), some (.dt d)], [.own c], []⟩ := rfl
      simp only [loopL, hT, hb, e2]
  obtain ⟨t', u', c4, e4, h4, g4, l4, n4⟩ := go (rngD 0 j) 0 t none c3 h3 ht (by
    have : tl 4 = 385 := by decide
    rw [← this]; exact x1) (by
    have : cn 4 = 13 := by decide
    rw [← this]; exact x2)
  have hl : (rngD 0 j).length = j := by simp [rngD]
  have e5 : x__law_deep_2 ⟨[some (.bor 0), some (.dt t), none], [.own c2], []⟩ = .ok .next ⟨[some (.bor 0), some (.dt t'), u'], [.own c4], []⟩ := by
    show M.bind _ _ _ = _
    unfold M.bind at hi ⊢
    rw [hi]
    exact e4
  rw [hl, Nat.zero_add] at g4 l4 n4
  have hup := txt_le g4 (show 4 + j ≤ 19 by omega)
  refine ⟨b, t', c4, ?_, g4.le (by omega), by rw [hup]; omega, by rw [hup]; omega, h4⟩
  rw [show ((3 : Nat) : Int) = 3 from rfl] at e2
  simp [F__law_deep, q_run, b__law_deep, e1, hb, e2, e5]
/-! ### its text -/
theorem join_jn : ∀ ys : List Str, (Txt.join (Str.ofString ",") ys).cps.toList = jn (ys.map (·.cps.toList)) := by
  intro ys
  rw [TL.join_eq]
  induction ys with
  | nil => rfl
  | cons y ys ih =>
    cases ys with
    | nil => rfl
    | cons z r =>
      have e : Str.join (Str.ofString ",") (y :: z :: r) = y ++ Str.ofString "," ++ Str.join (Str.ofString ",") (z :: r) := rfl
      have e0 : (Str.ofString ",").cps.toList = [44] := by decide
      rw [e, Str.cps_append, Str.cps_append, Array.toList_append, Array.toList_append, ih, e0]
      simp only [List.map_cons, jn, List.append_assoc, List.singleton_append]
theorem join_sum : ∀ (ys : List Str), (ys.map (·.length)).sum + ys.length ≤ (jn (ys.map (·.cps.toList))).length + 1
  | [] => by simp [jn]
  | [y] => by simp [jn, Str.length]
  | y :: z :: r => by
    have := join_sum (z :: r)
    have hy : y.cps.toList.length = y.length := by rw [Array.length_toList]; rfl
    simp only [List.map_cons, List.sum_cons, List.length_cons, jn, List.length_append] at this ⊢
    omega
theorem jn_in {g : D → List Nat} : ∀ (l : List D), ∀ d ∈ l, (g d).length ≤ (jn (l.map g)).length
  | [], _, h => by cases h
  | [a], d, h => by
    rw [List.mem_singleton.mp h]; exact Nat.le_refl _
  | a :: b :: l, d, h => by
    simp only [List.map_cons, jn, List.length_append, List.length_cons]
    rcases List.mem_cons.mp h with rfl | h
    · omega
    · have := jn_in (g := g) (b :: l) d h
      simp only [List.map_cons] at this
      omega
theorem ptext_ok {t : Int} (ht : t ≤ 3) : ∀ {n k : Nat} {d : D}, Tr t n d → n ≤ k → (txt n d).length ≤ 1000 → F__law_pattern_text k [.dt d] = .ok (.dt (.str (mkS (txt n d)))) [.dt d]
  | 0, _, _, h, _, _ => h.elim
  | _ + 1, 0, _, _, h, _ => by omega
  | n + 1, k + 1, d, h, hk, hl => by
    cases d with
    | int i =>
      obtain ⟨h0, h1⟩ : 0 ≤ i ∧ i < t := h
      obtain ⟨e1, e2⟩ : gStr [.int i] = some (.dt (.str (mkS [48 + i.toNat]))) ∧ True := by
        have hi : i = 0 ∨ i = 1 ∨ i = 2 := by omega
        have z0 : Str.ofString (toString (0 : Int)) = mkS [48] := by decide +kernel
        have z1 : Str.ofString (toString (1 : Int)) = mkS [49] := by decide +kernel
        have z2 : Str.ofString (toString (2 : Int)) = mkS [50] := by decide +kernel
        have l0 : (0 : Int).natAbs.log2 < 1920 := by decide +kernel
        have l1 : (1 : Int).natAbs.log2 < 1920 := by decide +kernel
        have l2 : (2 : Int).natAbs.log2 < 1920 := by decide +kernel
        rcases hi with rfl | rfl | rfl
        · exact ⟨by rw [gStr, if_pos l0, z0]; rfl, trivial⟩
        · exact ⟨by rw [gStr, if_pos l1, z1]; rfl, trivial⟩
        · exact ⟨by rw [gStr, if_pos l2, z2]; rfl, trivial⟩
      simp [F__law_pattern_text, q_run, b__law_pattern_text, gIsi, tyD, kp2, e1, txt]
    | str x =>
      have e1 : gStr [.str x] = some (.dt (.str x)) := rfl
      simp [F__law_pattern_text, q_run, b__law_pattern_text, gIsi, tyD, kp1, e1, txt, mkS_list]
    | tup l =>
      cases l with
      | nil => exact h.elim
      | cons y l =>
        cases y with
        | str x =>
          obtain ⟨a, b, c, e⟩ := h
          have hi : (M.bind (cSl gSl2 (cVar 0) (M.bind (cC (.int 1)) W.asI) (M.ret none)) W.items) ⟨[some (.dt (.tup (.str x :: l))), none], [.dt (.tup (.str x :: l))], []⟩ = .ok l ⟨[some (.dt (.tup (.str x :: l))), none], [.dt (.tup (.str x :: l))], []⟩ := by
            simp [gSl2, cut1]
          simp only [txt, List.length_append, List.length_cons] at hl
          have e4 := cLc_map (own := [1]) (T := gN 1) (fe := cCall (F__law_pattern_text k) (cCons (cVar 1) (M.ret []))) hi rfl (fun d => .str (mkS (txt n d))) (by rw [q_size]; omega) fun d hd => by
            have hd2 := jn_in (g := txt n) l d hd
            have ih := ptext_ok ht (e d hd) (show n ≤ k by omega) (by omega)
            refine ⟨⟨[some (.dt (.tup (.str x :: l))), some (.dt d)], [.dt (.tup (.str x :: l))], []⟩, .dt (.str (mkS (txt n d))), ⟨[some (.dt (.tup (.str x :: l))), some (.dt d)], [.dt (.tup (.str x :: l))], []⟩, ⟨[some (.dt (.tup (.str x :: l))), some (.dt d)], [.dt (.tup (.str x :: l))], []⟩, rfl, ?_, rfl, rfl⟩
            simp [ih]
          have e5 : x__law_pattern_text_1 (F__law_pattern_text k) ⟨[some (.dt (.tup (.str x :: l))), none], [.dt (.tup (.str x :: l))], []⟩ = .ok (.fresh (.lst ((l.map fun d => mkS (txt n d)).map D.str))) ⟨[some (.dt (.tup (.str x :: l))), none], [.dt (.tup (.str x :: l))], []⟩ := by
            refine e4.trans ?_
            simp [List.map_map, Function.comp_def]
          have em : (l.map fun d => mkS (txt n d)).map (·.cps.toList) = l.map (txt n) := by rw [List.map_map]; rfl
          have hjs := join_sum (l.map fun d => mkS (txt n d))
          rw [em] at hjs
          have hjj := join_jn (l.map fun d => mkS (txt n d))
          rw [em] at hjj
          have o1 : (Str.ofString ",").length = 1 := by decide
          have o2 : (Str.ofString "(").length = 1 := by decide
          have o3 : (Str.ofString ")").length = 1 := by decide
          have c2 : (Str.ofString "(").cps.toList = [40] := by decide
          have c3 : (Str.ofString ")").cps.toList = [41] := by decide
          have hj : gJoin (Str.ofString ",") [.lst ((l.map fun d => mkS (txt n d)).map D.str)] = some (.dt (.str (Txt.join (Str.ofString ",") (l.map fun d => mkS (txt n d))))) := by
            simp only [gJoin, strsOf_map, Option.bind_some, o1, Nat.mul_one]
            rw [if_pos (by omega)]
            rfl
          generalize hJ : Txt.join (Str.ofString ",") (l.map fun d => mkS (txt n d)) = J at hj hjj
          clear hJ hjs em
          generalize (l.map fun d => mkS (txt n d)) = ys at e5 hj
          have hJl : J.length = (jn (l.map (txt n))).length := by rw [← hjj, Array.length_toList]; rfl
          have hxl : x.length ≤ 8 := a.le
          have hix : gIx1 (.tup (.str x :: l)) (.int 0) = some (.dt (.str x)) := by simp [gIx1, atI, ixN]
          have z1 : x.length + 1 ≤ 16777216 := by omega
          have z2 : (x ++ Str.ofString "(").length + J.length ≤ 16777216 := by rw [Str.length_append, o2]; omega
          have z3 : (x ++ Str.ofString "(" ++ J).length + 1 ≤ 16777216 := by rw [Str.length_append, Str.length_append, o2]; omega
          have ef : x ++ Str.ofString "(" ++ J ++ Str.ofString ")" = mkS (txt (n + 1) (.tup (.str x :: l))) := by
            apply str_inj
            rw [Str.cps_append, Str.cps_append, Str.cps_append, Array.toList_append, Array.toList_append, Array.toList_append, hjj, c2, c3, mkS_cps]
            simp [txt]
          rw [← ef]
          simp [F__law_pattern_text, q_run, b__law_pattern_text, gIsi, tyD, kp6, hix, e5, hj, gAdd2, gAdd, o2, o3, z1, z2, z3, q_size]
        | _ => exact h.elim
    | _ => exact h.elim
theorem tt_eq : ∀ k, F_tree_text k = F__law_pattern_text k
  | 0 => rfl
  | k + 1 => by
    show runF 2 (b_tree_text (F_tree_text k)) = runF 2 (b__law_pattern_text (F__law_pattern_text k))
    rw [tt_eq k]
    rfl
end Lw

set_option Elab.async false
set_option maxRecDepth 100000
set_option maxHeartbeats 4000000
set_option linter.unusedSimpArgs false
namespace Lw
open PySem L2 Lc
/-! ### the loop over letters -/
def tst : M Bool := (cAndT (M.bl (cOp2 gLt (cVar 3) (cCallP gLen (cCons (cVar 0) (M.ret []))))) (M.bl (cOp2 gIn2 (cOp2 gIx1 (cVar 0) (cVar 3)) (cC (.str "abcdefghijklmnopqrstuvwxyz")))))
theorem drop_cons {l : List Nat} {p c : Nat} {s : List Nat} (h : l.drop p = c :: s) : p < l.length ∧ l[p]? = some c ∧ l.drop (p + 1) = s := by
  have h1 : p < l.length := by
    refine Classical.byContradiction fun q => ?_
    rw [List.drop_eq_nil_of_le (by omega)] at h
    cases h
  rw [List.drop_eq_getElem_cons h1] at h
  injection h with a b
  exact ⟨h1, by rw [List.getElem?_eq_getElem h1, a], b⟩
theorem tst_go {x : Str} {p c : Nat} {a b : Option Sl} {rest : List (Option Sl)} {bo : List Bo} {s : List Nat} (hx : x.length ≤ 16777216) (h : x.cps.toList.drop p = c :: s) : tst ⟨some (.dt (.str x)) :: a :: b :: some (.dt (.int (p : Int))) :: rest, bo, []⟩ = .ok (inL c) ⟨some (.dt (.str x)) :: a :: b :: some (.dt (.int (p : Int))) :: rest, bo, []⟩ := by
  obtain ⟨h1, h2, _⟩ := drop_cons h
  have hl : (p : Int) < (x.length : Int) := by rw [Array.length_toList] at h1; exact Int.ofNat_lt.mpr h1
  have e1 : gIx1 (.str x) (.int (p : Int)) = some (.dt (.str ⟨#[c]⟩)) := by simp only [gIx1, q_size, hx, if_true, Lc.atI_nat, h2, Option.map_some]
  have e2 : gIn2 (.str ⟨#[c]⟩) (.str (Str.ofString "abcdefghijklmnopqrstuvwxyz")) = some (.dt (.bl (inL c))) := rfl
  simp [tst, gLen, hx, gLt, hl, e1, e2, q_size]
theorem tst_end {x : Str} {p : Nat} {a b : Option Sl} {rest : List (Option Sl)} {bo : List Bo} (hx : x.length ≤ 16777216) (h : x.cps.toList.drop p = []) : tst ⟨some (.dt (.str x)) :: a :: b :: some (.dt (.int (p : Int))) :: rest, bo, []⟩ = .ok false ⟨some (.dt (.str x)) :: a :: b :: some (.dt (.int (p : Int))) :: rest, bo, []⟩ := by
  have h1 := List.drop_eq_nil_iff.mp h
  have hl : ¬ (p : Int) < (x.length : Int) := by
    rw [Array.length_toList] at h1
    have : x.length ≤ p := h1
    omega
  simp [tst, gLen, hx, gLt, hl, q_size]
theorem letters {x : Str} {a b : Option Sl} {rest : List (Option Sl)} {bo : List Bo} {body : M Fl} (hx : x.length ≤ 16777216)
    (hb : ∀ p : Nat, body ⟨some (.dt (.str x)) :: a :: b :: some (.dt (.int (p : Int))) :: rest, bo, []⟩ = .ok .next ⟨some (.dt (.str x)) :: a :: b :: some (.dt (.int ((p : Int) + 1))) :: rest, bo, []⟩) :
    ∀ (s : List Nat) (p : Nat), x.cps.toList.drop p = s → cWhile tst body ⟨some (.dt (.str x)) :: a :: b :: some (.dt (.int (p : Int))) :: rest, bo, []⟩ = .ok .next ⟨some (.dt (.str x)) :: a :: b :: some (.dt (.int ((p + (s.takeWhile inL).length : Nat) : Int))) :: rest, bo, []⟩
  | [], p, h => by
    rw [cWhile_eq1, tst_end hx h]
    rfl
  | c :: s, p, h => by
    rw [cWhile_eq1, tst_go hx h]
    cases hc : inL c with
    | false =>
      rw [List.takeWhile_cons_of_neg (by simp [hc])]
      rfl
    | true =>
      have ih := letters hx hb s (p + 1) (drop_cons h).2.2
      rw [show ((p + 1 : Nat) : Int) = (p : Int) + 1 by omega] at ih
      simp only [hb, ih]
      rw [List.takeWhile_cons_of_pos hc, List.length_cons, show p + 1 + (s.takeWhile inL).length = p + ((s.takeWhile inL).length + 1) by omega]
theorem take_tw (p : Nat → Bool) : ∀ s : List Nat, s.take (s.takeWhile p).length = s.takeWhile p ∧ s.drop (s.takeWhile p).length = s.dropWhile p
  | [] => ⟨rfl, rfl⟩
  | a :: l => by
    by_cases e : p a = true
    · obtain ⟨i1, i2⟩ := take_tw p l
      rw [List.takeWhile_cons_of_pos e, List.dropWhile_cons_of_pos e, List.length_cons, List.take_succ_cons, List.drop_succ_cons, i1, i2]
      exact ⟨rfl, rfl⟩
    · rw [List.takeWhile_cons_of_neg e, List.dropWhile_cons_of_neg e]
      exact ⟨rfl, rfl⟩
/-- the letters at p as a slice -/
theorem sl_letters {x : Str} {p : Nat} (hx : x.length ≤ 16777216) : gSl2 (.str x) (some (p : Int)) (some ((p + ((x.cps.toList.drop p).takeWhile inL).length : Nat) : Int)) = some (.dt (.str (mkS ((x.cps.toList.drop p).takeWhile inL)))) := by
  rw [sl_part hx, Nat.add_sub_cancel_left, (take_tw inL _).1]
theorem drop_letters {x : Str} {p : Nat} : x.cps.toList.drop (p + ((x.cps.toList.drop p).takeWhile inL).length) = (x.cps.toList.drop p).dropWhile inL := by
  rw [← List.drop_drop, (take_tw inL _).2]
/-- where a rest begins -/
theorem at_rest {x : Str} {p : Nat} {q r : List Nat} (h : x.cps.toList.drop p = q ++ r) : x.cps.toList.drop (x.length - r.length) = r ∧ r.length ≤ x.length := by
  have hl : x.cps.toList.length = x.length := by rw [Array.length_toList]; rfl
  have e := List.take_append_drop p x.cps.toList
  rw [h, ← List.append_assoc] at e
  have e2 := congrArg List.length e
  rw [List.length_append, hl] at e2
  refine ⟨?_, by omega⟩
  rw [show x.length - r.length = (x.cps.toList.take p ++ q).length by omega]
  have e3 := List.drop_left (l₁ := x.cps.toList.take p ++ q) (l₂ := r)
  rw [e] at e3
  exact e3
theorem lit1 : (Str.ofString "(").cps.toList = [40] ∧ (Str.ofString ",").cps.toList = [44] ∧ (Str.ofString ")").cps.toList = [41] := by decide
/-- one of the digits 0, 1, 2 -/
theorem dig_in {s : List Nat} (h : s ≠ []) : gIn2 (.str (sgn s)) (.str (Str.ofString "012")) = some (.dt (.bl (decide (s.head? = some 48 ∨ s.head? = some 49 ∨ s.head? = some 50)))) := by
  cases s with
  | nil => exact absurd rfl h
  | cons c s =>
    have hl : (Str.ofString "012").cps.toList = [48, 49, 50] := by decide
    have e : gIn2 (.str (sgn (c :: s))) (.str (Str.ofString "012")) = some (.dt (.bl (decide (c ∈ (Str.ofString "012").cps.toList)))) := rfl
    rw [e, hl]
    simp
theorem dig_int {c : Nat} {s : List Nat} (h : c = 48 ∨ c = 49 ∨ c = 50) : gInt [.str (sgn (c :: s))] = some (.dt (.int ((c : Int) - 48))) := by
  have e : sgn (c :: s) = mkS [c] := rfl
  rw [e]
  have z0 : PySem.intText? (mkS [48]) = some 0 := by decide +kernel
  have z1 : PySem.intText? (mkS [49]) = some 1 := by decide +kernel
  have z2 : PySem.intText? (mkS [50]) = some 2 := by decide +kernel
  rcases h with rfl | rfl | rfl
  · rw [gInt, if_pos (by decide), z0]; rfl
  · rw [gInt, if_pos (by decide), z1]; rfl
  · rw [gInt, if_pos (by decide), z2]; rfl
/-! ### leaf_at -/
/-- the data of a leaf -/
def lfD (n : Nat) : Option (Lf × List Nat) → D
  | none => .non
  | some (f, _) => f.d
theorem leaf_ok {x : Str} {p : Nat} {wi : Bool} (hx : x.length ≤ 16777216) (hp : p ≤ x.length) : ∃ q : Nat, F_leaf_at [.dt (.str x), .dt (.int p), .dt (.bl wi)] = .ok (.dt (.tup [lfD 0 (leaf wi (x.cps.toList.drop p)), .int q])) [.dt (.str x), .dt (.int p), .dt (.bl wi)] ∧ ∀ f r, leaf wi (x.cps.toList.drop p) = some (f, r) → x.cps.toList.drop q = r ∧ q ≤ x.length := by
  have hl : x.cps.toList.length = x.length := by rw [Array.length_toList]; rfl
  have e1 : x_leaf_at_2 ⟨[some (.dt (.str x)), some (.dt (.int p)), some (.dt (.bl wi)), some (.dt (.int p)), none, none], [.dt (.str x), .dt (.int p), .dt (.bl wi)], []⟩ = .ok .next ⟨[some (.dt (.str x)), some (.dt (.int p)), some (.dt (.bl wi)), some (.dt (.int ((p + ((x.cps.toList.drop p).takeWhile inL).length : Nat) : Int))), none, none], [.dt (.str x), .dt (.int p), .dt (.bl wi)], []⟩ :=
    letters (body := x_leaf_at_1) hx (fun p => by simp [x_leaf_at_1]) _ p rfl
  have hs := sl_letters (x := x) (p := p) hx
  have hd := drop_letters (x := x) (p := p)
  have hg := sl_sign (x := x) (p := p) hx
  generalize hS : x.cps.toList.drop p = s at e1 hs hd hg
  have hlen : s.length = x.length - p := by rw [← hS, List.length_drop, hl]
  have htw : (s.takeWhile inL).length ≤ s.length := (List.takeWhile_sublist inL).length_le
  by_cases hw : s.takeWhile inL = []
  · have hw0 : (s.takeWhile inL).length = 0 := by rw [hw]; rfl
    rw [hw0] at e1
    cases hs0 : s with
    | nil =>
      refine ⟨p, ?_, ?_⟩
      · subst hs0
        cases wi <;> simp [F_leaf_at, q_run, b_leaf_at, z_leaf_at_1, e1, z_leaf_at_2, gGt, z_leaf_at_3, hg, z_leaf_at_4, sgn_emp, leaf, lfD, gAdd2, gAdd, q_size]
      · intro f r e
        simp [leaf] at e
    | cons c s' =>
      have hc : inL c = false := by
        cases hq : inL c with
        | false => rfl
        | true => rw [hs0, List.takeWhile_cons_of_pos hq] at hw; cases hw
      rw [hs0] at hg hS
      have hin := dig_in (s := c :: s') (by simp)
      by_cases hdig : wi = true ∧ (c = 48 ∨ c = 49 ∨ c = 50)
      · have hi := dig_int (s := s') hdig.2
        have hde : decide ((c :: s').head? = some 48 ∨ (c :: s').head? = some 49 ∨ (c :: s').head? = some 50) = true := by simpa using hdig.2
        rw [hde] at hin
        have elf : leaf wi (c :: s') = some (.ix ((c : Int) - 48), s') := by
          rw [hs0] at hw
          unfold leaf
          rw [if_pos hw]
          simp only [hdig, and_self, if_true]
        refine ⟨p + 1, ?_, ?_⟩
        · rw [elf]
          obtain ⟨rfl, _⟩ := hdig
          simp [F_leaf_at, q_run, b_leaf_at, z_leaf_at_1, e1, z_leaf_at_2, gGt, z_leaf_at_3, hg, z_leaf_at_4, sgn_emp, hin, hi, gAdd2, gAdd, lfD, Lf.d, q_size]
        · intro f r e
          rw [elf] at e
          cases e
          obtain ⟨h1, h2, h3⟩ := drop_cons hS
          exact ⟨h3, by omega⟩
      · have elf : leaf wi (c :: s') = none := by
          rw [hs0] at hw
          unfold leaf
          rw [if_pos hw]
          simp only [hdig, if_false]
        refine ⟨p, ?_, ?_⟩
        · rw [elf]
          cases wi with
          | false => simp [F_leaf_at, q_run, b_leaf_at, z_leaf_at_1, e1, z_leaf_at_2, gGt, z_leaf_at_3, hg, z_leaf_at_4, gAdd2, gAdd, lfD, q_size]
          | true =>
            have hde : decide ((c :: s').head? = some 48 ∨ (c :: s').head? = some 49 ∨ (c :: s').head? = some 50) = false := by simpa using hdig
            rw [hde] at hin
            simp [F_leaf_at, q_run, b_leaf_at, z_leaf_at_1, e1, z_leaf_at_2, gGt, z_leaf_at_3, hg, z_leaf_at_4, sgn_emp, hin, gAdd2, gAdd, lfD, q_size]
        · intro f r e
          rw [elf] at e
          cases e
  · have hw0 : 0 < (s.takeWhile inL).length := List.length_pos_iff.mpr hw
    have hgt : (p : Int) < ((p + (s.takeWhile inL).length : Nat) : Int) := by omega
    refine ⟨p + (s.takeWhile inL).length, ?_, ?_⟩
    · have hn := isn_str (x := mkS (s.takeWhile inL)) (by rw [mkS_len]; omega)
      have hnb : nmB (.str (mkS (s.takeWhile inL))) = decide ((s.takeWhile inL).length ≤ 8) := by
        simp only [nmB, mkS_len, mkS_cps]
        have : ((s.takeWhile inL).map inL).all id = true := by
          rw [List.all_map, List.all_eq_true]
          exact fun c hc => all_take s c hc
        rw [this, Bool.and_true]
        exact decide_eq_decide.mpr ⟨fun h => h.2, fun h => ⟨hw0, h⟩⟩
      rw [hnb] at hn
      by_cases h8 : (s.takeWhile inL).length ≤ 8
      · have elf : leaf wi s = some (.nam (mkS (s.takeWhile inL)), s.dropWhile inL) := by
          unfold leaf
          rw [if_neg hw, if_pos h8]
        rw [decide_eq_true h8] at hn
        rw [elf]
        push_cast at hgt e1 hs
        simp [F_leaf_at, q_run, b_leaf_at, z_leaf_at_1, e1, z_leaf_at_2, gGt, hgt, hs, hn, lfD, Lf.d, q_size]
      · have elf : leaf wi s = none := by
          unfold leaf
          rw [if_neg hw, if_neg h8]
        rw [decide_eq_false h8] at hn
        rw [elf]
        push_cast at hgt e1 hs
        simp [F_leaf_at, q_run, b_leaf_at, z_leaf_at_1, e1, z_leaf_at_2, gGt, hgt, hs, hn, lfD, q_size]
    · intro f r e
      unfold leaf at e
      rw [if_neg hw] at e
      split at e
      · cases e
        exact ⟨hd, by omega⟩
      · cases e
end Lw

set_option Elab.async false
set_option maxRecDepth 100000
set_option maxHeartbeats 4000000
set_option linter.unusedSimpArgs false
namespace Lw
open PySem L2 Lc
/-! ### the law's own reading -/
def rv (x : Str) : Option (D × List Nat) → D
  | none => .non
  | some (d, r) => .tup [d, .int ((x.length - r.length : Nat) : Int)]
def fR (x : Str) (a : Int) (wi : Bool) (w sg : Str) (acc : List D) (p : Nat) (s7 : Option Sl) : Rho :=
  ⟨[some (.dt (.str x)), some (.dt (.int a)), some (.dt (.bl wi)), some (.dt (.int (p : Int))), some (.dt (.str w)), some (.dt (.str sg)), some (.own (.lst acc)), s7], [.dt (.str x), .dt (.int a), .dt (.bl wi)], []⟩
def tstA : M Bool := (cOrT (M.bl (cOp2 gEq2 (cVar 6) (cLst (M.ret [])))) (M.bl (cOp2 gEq2 (cSl gSl2 (cVar 0) (M.bind (cVar 3) W.asI) (M.bind (cOp2 gAdd2 (cVar 3) (cC (.int 1))) W.asI)) (cC (.str ",")))))
section
variable {x w sg : Str} {a : Int} {wi : Bool}
theorem tstA_ok {acc : List D} {p : Nat} {s7 : Option Sl} (hx : x.length ≤ 16777216) : tstA (fR x a wi w sg acc p s7) = .ok (decide (acc = [] ∨ (x.cps.toList.drop p).head? = some 44)) (fR x a wi w sg acc p s7) := by
  have hg := sl_sign (x := x) (p := p) hx
  generalize x.cps.toList.drop p = s at hg ⊢
  cases acc with
  | nil => simp [tstA, fR]
  | cons d acc =>
    simp [tstA, fR, gAdd2, gAdd, hg, sgn_is lit1.2.1]
theorem z7_ok {n : Nat} {acc : List D} {p : Nat} {s7 : Option Sl} (hx : x.length ≤ 16777216) (ha : acc.length ≤ 1000000) : ∃ r', z__law_read_at_7 (F__law_read_at n) (fR x a wi w sg acc p s7) = .ok (.ret (.dt (if (x.cps.toList.drop p).head? = some 41 ∧ acc.length ≤ 3 then .tup [.tup (.str w :: acc), .int ((p + 1 : Nat) : Int)] else .non))) r' ∧ r'.bor = [.dt (.str x), .dt (.int a), .dt (.bl wi)] ∧ r'.st = [] := by
  have hg := sl_sign (x := x) (p := p) hx
  have l1 : 1 + acc.length ≤ 16777216 := by omega
  generalize x.cps.toList.drop p = s at hg ⊢
  by_cases h41 : s.head? = some 41
  · by_cases h3 : acc.length ≤ 3
    · have h3' : ¬ (3 : Int) < (acc.length : Int) := by omega
      refine ⟨fR x a wi w sg acc p s7, ?_, rfl, rfl⟩
      simp [z__law_read_at_7, fR, gAdd2, gAdd, hg, sgn_is lit1.2.2, h41, gLen, gGt, h3, h3', gTuple, gAddT, l1, q_size]
    · have h3' : (3 : Int) < (acc.length : Int) := by omega
      refine ⟨fR x a wi w sg acc p s7, ?_, rfl, rfl⟩
      simp [z__law_read_at_7, fR, gAdd2, gAdd, hg, sgn_is lit1.2.2, h41, gLen, gGt, h3, h3', q_size]
  · refine ⟨fR x a wi w sg acc p s7, ?_, rfl, rfl⟩
    simp [z__law_read_at_7, fR, gAdd2, gAdd, hg, sgn_is lit1.2.2, h41, q_size]
theorem args_ok {n : Nat} (hx : x.length ≤ 10000) (hself : ∀ p : Nat, p ≤ x.length → (x.cps.toList.drop p).count 40 < n → F__law_read_at n [.dt (.str x), .dt (.int p), .dt (.bl wi)] = .ok (.dt (rv x (rd wi n (x.cps.toList.drop p)))) [.dt (.str x), .dt (.int p), .dt (.bl wi)]) :
    ∀ (m : Nat) (acc : List D) (p : Nat) (s7 : Option Sl), p < x.length → (acc = [] ∨ (x.cps.toList.drop p).head? = some 44) → (x.cps.toList.drop (p + 1)).length < m → (x.cps.toList.drop (p + 1)).count 40 < n → acc.length + (x.length - p) ≤ 20000 →
    ∃ r', cSeq (cWhile tstA (x__law_read_at_1 (F__law_read_at n))) (z__law_read_at_7 (F__law_read_at n)) (fR x a wi w sg acc p s7) = .ok (.ret (.dt (match rdA (rd wi n) m acc (x.cps.toList.drop (p + 1)) with
      | some (l, r) => .tup [.tup (.str w :: l), .int ((x.length - r.length : Nat) : Int)]
      | none => .non))) r' ∧ r'.bor = [.dt (.str x), .dt (.int a), .dt (.bl wi)] ∧ r'.st = [] := fun m => by
  induction m with
  | zero => intro _ _ _ _ _ h; omega
  | succ m ih =>
    intro acc p s7 hp hcond hm hc hacc
    have hl : x.cps.toList.length = x.length := by rw [Array.length_toList]; rfl
    have ht := tstA_ok (w := w) (sg := sg) (a := a) (wi := wi) (acc := acc) (p := p) (s7 := s7) (show x.length ≤ 16777216 by omega)
    rw [decide_eq_true hcond] at ht
    have hs := hself (p + 1) (by omega) hc
    rw [show ((p + 1 : Nat) : Int) = (p : Int) + 1 by omega] at hs
    cases e : rd wi n (x.cps.toList.drop (p + 1)) with
    | none =>
      rw [e] at hs
      have hb : x__law_read_at_1 (F__law_read_at n) (fR x a wi w sg acc p s7) = .ok (.ret (.dt .non)) (fR x a wi w sg acc p (some (.dt .non))) := by
        simp [x__law_read_at_1, fR, gAdd2, gAdd, hs, rv, gIs, Lc.isNon]
      refine ⟨fR x a wi w sg acc p (some (.dt .non)), ?_, rfl, rfl⟩
      rw [q_seq, cWhile_eq1, ht]
      simp only [hb, rdA, e]
    | some q =>
      obtain ⟨d, r⟩ := q
      rw [e] at hs
      obtain ⟨pp, hpp, es⟩ := rd_suf _ _ _ _ e
      obtain ⟨hq, hrl⟩ := at_rest es
      have l1 := suf_len hpp es
      have lc := suf_cnt es
      rw [List.length_drop, hl] at l1
      have hal : acc.length < 16777216 := by omega
      have hb : x__law_read_at_1 (F__law_read_at n) (fR x a wi w sg acc p s7) = .ok .next (fR x a wi w sg (acc ++ [d]) (x.length - r.length) (some (.dt (.tup [d, .int ((x.length - r.length : Nat) : Int)])))) := by
        simp [x__law_read_at_1, fR, gAdd2, gAdd, hs, rv, gIs, Lc.isNon, gIx1, atI, ixN, hal, q_size]
      have ht2 := tstA_ok (w := w) (sg := sg) (a := a) (wi := wi) (acc := acc ++ [d]) (p := x.length - r.length) (s7 := some (.dt (.tup [d, .int ((x.length - r.length : Nat) : Int)]))) (show x.length ≤ 16777216 by omega)
      rw [hq] at ht2
      rw [q_seq, cWhile_eq1, ht]
      simp only [hb]
      by_cases h44 : r.head? = some 44
      · have e2 := tail_eq h44
        have htl := tail_len h44
        have hd1 : x.cps.toList.drop (x.length - r.length + 1) = r.tail := by
          rw [← List.drop_drop, hq, List.drop_one]
        have htc := tail_cnt r
        obtain ⟨r', e3, h3, h4⟩ := ih (acc ++ [d]) (x.length - r.length) (some (.dt (.tup [d, .int ((x.length - r.length : Nat) : Int)]))) (by omega) (.inr (by rw [hq]; exact h44)) (by rw [hd1]; rw [List.length_drop, hl] at hm; omega) (by rw [hd1]; omega) (by rw [List.length_append]; simp only [List.length_singleton]; omega)
        refine ⟨r', ?_, h3, h4⟩
        rw [hd1] at e3
        simp only [rdA, e, if_pos h44]
        exact e3
      · rw [decide_eq_false (by simp [h44])] at ht2
        obtain ⟨r', e3, h3, h4⟩ := z7_ok (w := w) (sg := sg) (a := a) (wi := wi) (n := n) (acc := acc ++ [d]) (p := x.length - r.length) (s7 := some (.dt (.tup [d, .int ((x.length - r.length : Nat) : Int)]))) (show x.length ≤ 16777216 by omega) (by rw [List.length_append]; simp only [List.length_singleton]; omega)
        refine ⟨r', ?_, h3, h4⟩
        rw [cWhile_eq1, ht2]
        simp only [e3, rdA, e, if_neg h44, hq]
        by_cases h41 : r.head? = some 41 ∧ acc.length < 3
        · have h41' : r.head? = some 41 ∧ (acc ++ [d]).length ≤ 3 := ⟨h41.1, by rw [List.length_append]; simp only [List.length_singleton]; omega⟩
          have htl := tail_len h41.1
          rw [if_pos h41, if_pos h41']
          simp only
          have ez : x.length - r.length + 1 = x.length - r.tail.length := by omega
          rw [ez]
        · have h41' : ¬ (r.head? = some 41 ∧ (acc ++ [d]).length ≤ 3) := fun q => h41 ⟨q.1, by have := q.2; rw [List.length_append] at this; simp only [List.length_singleton] at this; omega⟩
          rw [if_neg h41, if_neg h41']
theorem read_at_ok (hx : x.length ≤ 10000) : ∀ (n p : Nat), p ≤ x.length → (x.cps.toList.drop p).count 40 < n → F__law_read_at n [.dt (.str x), .dt (.int p), .dt (.bl wi)] = .ok (.dt (rv x (rd wi n (x.cps.toList.drop p)))) [.dt (.str x), .dt (.int p), .dt (.bl wi)]
  | 0, _, _, h => by omega
  | n + 1, p, hp, hc => by
    have hx2 : x.length ≤ 16777216 := by omega
    have hl : x.cps.toList.length = x.length := by rw [Array.length_toList]; rfl
    have e1 : x__law_read_at_4 (F__law_read_at n) ⟨[some (.dt (.str x)), some (.dt (.int p)), some (.dt (.bl wi)), some (.dt (.int p)), none, none, none, none], [.dt (.str x), .dt (.int p), .dt (.bl wi)], []⟩ = .ok .next ⟨[some (.dt (.str x)), some (.dt (.int p)), some (.dt (.bl wi)), some (.dt (.int ((p + ((x.cps.toList.drop p).takeWhile inL).length : Nat) : Int))), none, none, none, none], [.dt (.str x), .dt (.int p), .dt (.bl wi)], []⟩ :=
      letters (body := x__law_read_at_3 (F__law_read_at n)) hx2 (fun p => by simp [x__law_read_at_3, gAdd2, gAdd]) _ p rfl
    have hs := sl_letters (x := x) (p := p) hx2
    have hd := drop_letters (x := x) (p := p)
    have hg := sl_sign (x := x) (p := p) hx2
    have hg2 := sl_sign (x := x) (p := p + ((x.cps.toList.drop p).takeWhile inL).length) hx2
    rw [hd] at hg2
    generalize hS : x.cps.toList.drop p = s at e1 hs hd hg hg2 hc
    have hlen : s.length = x.length - p := by rw [← hS, List.length_drop, hl]
    have htw : (s.takeWhile inL).length ≤ s.length := (List.takeWhile_sublist inL).length_le
    by_cases hw : s.takeWhile inL = []
    · have hw0 : (s.takeWhile inL).length = 0 := by rw [hw]; rfl
      have hm : (mkS (s.takeWhile inL) == Str.ofString "") = true := by rw [hw]; decide +kernel
      rw [hw0] at e1 hs
      rw [Nat.add_zero] at e1 hs
      generalize mkS (s.takeWhile inL) = wd at hs hm
      cases hs0 : s with
      | nil =>
        subst hs0
        cases wi <;> simp [F__law_read_at, q_run, b__law_read_at, z__law_read_at_1, e1, z__law_read_at_2, hs, hg, gAdd2, gAdd, z__law_read_at_3, hm, sgn_emp, rd, leaf, rv, q_size]
      | cons c s' =>
        have hcl : inL c = false := by
          cases hq : inL c with
          | false => rfl
          | true => rw [hs0, List.takeWhile_cons_of_pos hq] at hw; cases hw
        have hin := dig_in (s := c :: s') (by simp)
        rw [← hs0]
        by_cases hdig : wi = true ∧ (c = 48 ∨ c = 49 ∨ c = 50)
        · have hi := dig_int (s := s') hdig.2
          have hde : decide ((c :: s').head? = some 48 ∨ (c :: s').head? = some 49 ∨ (c :: s').head? = some 50) = true := by simpa using hdig.2
          rw [hde] at hin
          have elf : leaf wi s = some (.ix ((c : Int) - 48), s') := by
            unfold leaf
            rw [if_pos hw, hs0]
            simp only [hdig, and_self, if_true]
          have ez : ((x.length - s'.length : Nat) : Int) = (p : Int) + 1 := by
            rw [hs0, List.length_cons] at hlen
            omega
          obtain ⟨rfl, _⟩ := hdig
          rw [← hs0] at hin hi
          have hse : (sgn s == Str.ofString "") = false := by rw [sgn_emp, hs0]; rfl
          simp [F__law_read_at, q_run, b__law_read_at, z__law_read_at_1, e1, z__law_read_at_2, hs, hg, gAdd2, gAdd, z__law_read_at_3, hm, hse, hin, hi, rd, elf, rv, ez, q_size]
        · have elf : leaf wi s = none := by
            unfold leaf
            rw [if_pos hw, hs0]
            simp only [hdig, if_false]
          cases wi with
          | false => simp [F__law_read_at, q_run, b__law_read_at, z__law_read_at_1, e1, z__law_read_at_2, hs, hg, gAdd2, gAdd, z__law_read_at_3, hm, rd, elf, rv, q_size]
          | true =>
            have hde : decide ((c :: s').head? = some 48 ∨ (c :: s').head? = some 49 ∨ (c :: s').head? = some 50) = false := by simpa using hdig
            rw [hde, ← hs0] at hin
            have hse : (sgn s == Str.ofString "") = false := by rw [sgn_emp, hs0]; rfl
            simp [F__law_read_at, q_run, b__law_read_at, z__law_read_at_1, e1, z__law_read_at_2, hs, hg, gAdd2, gAdd, z__law_read_at_3, hm, hse, hin, rd, elf, rv, q_size]
    · have hw0 : 0 < (s.takeWhile inL).length := List.length_pos_iff.mpr hw
      have hm : (mkS (s.takeWhile inL) == Str.ofString "") = false := by
        rw [beq_str, decide_eq_false]
        intro q
        have := congrArg Str.length q
        rw [mkS_len] at this
        have e0 : (Str.ofString "").length = 0 := by decide
        omega
      have hml : (mkS (s.takeWhile inL)).length = (s.takeWhile inL).length := mkS_len _
      by_cases h8 : (s.takeWhile inL).length ≤ 8
      · have h8' : ¬ (8 : Int) < ((s.takeWhile inL).length : Int) := by omega
        have hl2 : (s.takeWhile inL).length ≤ 16777216 := by omega
        have elf : leaf wi s = some (.nam (mkS (s.takeWhile inL)), s.dropWhile inL) := by
          unfold leaf
          rw [if_neg hw, if_pos h8]
        have hdl : (s.dropWhile inL).length + (s.takeWhile inL).length = s.length := by
          have := congrArg List.length (List.takeWhile_append_dropWhile (p := inL) (l := s))
          rw [List.length_append] at this
          omega
        have hq : p + (s.takeWhile inL).length = x.length - (s.dropWhile inL).length := by omega
        generalize hwd : mkS (s.takeWhile inL) = wd at hs hm hml elf
        by_cases h40 : (s.dropWhile inL).head? = some 40
        · have hcnt : (s.dropWhile inL).count 40 ≤ s.count 40 := suf_cnt (p := s.takeWhile inL) (List.takeWhile_append_dropWhile).symm
          have ht := tail_eq h40
          have hc1 : (s.dropWhile inL).tail.count 40 + 1 ≤ (s.dropWhile inL).count 40 := by
            conv => rhs; rw [ht]
            rw [List.count_cons]; simp
          have htl := tail_len h40
          have hd1 : x.cps.toList.drop (p + (s.takeWhile inL).length + 1) = (s.dropWhile inL).tail := by
            rw [← List.drop_drop, hd, List.drop_one]
          obtain ⟨r', e3, h3, h4⟩ := args_ok (w := wd) (sg := sgn s) (a := (p : Int)) (wi := wi) hx (fun p hp hc => read_at_ok hx n p hp hc) ((s.dropWhile inL).length + 1) [] (p + (s.takeWhile inL).length) none (by omega) (.inl rfl) (by rw [hd1]; omega) (by rw [hd1]; omega) (by simp only [List.length_nil]; omega)
          rw [hd1] at e3
          have e4 : z__law_read_at_6 (F__law_read_at n) ⟨[some (.dt (.str x)), some (.dt (.int p)), some (.dt (.bl wi)), some (.dt (.int ((p + (s.takeWhile inL).length : Nat) : Int))), some (.dt (.str wd)), some (.dt (.str (sgn s))), some (.own (.lst [])), none], [.dt (.str x), .dt (.int p), .dt (.bl wi)], []⟩ = _ := e3
          push_cast at e1 hs hg2 e4
          have hsg : (sgn (s.dropWhile inL) == Str.ofString "(") = true := by rw [sgn_is lit1.1, h40]; rfl
          have erd : rd wi (n + 1) s = match rdA (rd wi n) ((s.dropWhile inL).length + 1) [] (s.dropWhile inL).tail with
            | some (l, r) => some (.tup (.str wd :: l), r)
            | none => none := by
            simp only [rd, elf, if_pos h40]
            all_goals rfl
          rw [erd]
          simp [F__law_read_at, q_run, b__law_read_at, z__law_read_at_1, e1, z__law_read_at_2, hs, hg, gAdd2, gAdd, z__law_read_at_3, hm, z__law_read_at_4, gLen, hml, hl2, gGt, h8', z__law_read_at_5, hg2, hsg, e4, h3, h4, q_size]
          cases rdA (rd wi n) ((s.dropWhile inL).length + 1) [] (s.dropWhile inL).tail with
          | none => rfl
          | some q => rfl
        · have hsg : (sgn (s.dropWhile inL) == Str.ofString "(") = false := by rw [sgn_is lit1.1, decide_eq_false h40]
          have erd : rd wi (n + 1) s = some (.str wd, s.dropWhile inL) := by simp only [rd, elf, if_neg h40]
          rw [erd, rv, ← hq]
          push_cast at e1 hs hg2 ⊢
          simp [F__law_read_at, q_run, b__law_read_at, z__law_read_at_1, e1, z__law_read_at_2, hs, hg, gAdd2, gAdd, z__law_read_at_3, hm, z__law_read_at_4, gLen, hml, hl2, gGt, h8', z__law_read_at_5, hg2, hsg, q_size]
      · have h8' : (8 : Int) < ((s.takeWhile inL).length : Int) := by omega
        have hl2 : (s.takeWhile inL).length ≤ 16777216 := by omega
        have elf : leaf wi s = none := by
          unfold leaf
          rw [if_neg hw, if_neg h8]
        generalize hwd : mkS (s.takeWhile inL) = wd at hs hm hml
        push_cast at e1 hs hg2
        simp [F__law_read_at, q_run, b__law_read_at, z__law_read_at_1, e1, z__law_read_at_2, hs, hg, gAdd2, gAdd, z__law_read_at_3, hm, z__law_read_at_4, gLen, hml, hl2, gGt, h8', rd, elf, rv, q_size]
end
/-- the whole text read by the law -/
def whole : Option (D × List Nat) → D
  | some (d, []) => d
  | _ => .non
theorem law_read_ok {x : Str} {wi : Bool} (hx : x.length ≤ 10000) (hc : x.cps.toList.count 40 < 40) : F__law_read [.dt (.str x), .dt (.bl wi)] = .ok (.dt (whole (rd wi 40 x.cps.toList))) [.dt (.str x), .dt (.bl wi)] := by
  have e := read_at_ok (x := x) (wi := wi) hx 40 0 (Nat.zero_le _) hc
  rw [List.drop_zero, show ((0 : Nat) : Int) = 0 from rfl] at e
  cases h : rd wi 40 x.cps.toList with
  | none =>
    rw [h] at e
    simp [F__law_read, q_run, b__law_read, e, rv, gIs, Lc.isNon, whole]
  | some q =>
    obtain ⟨d, r⟩ := q
    rw [h] at e
    have hx2 : x.length ≤ 16777216 := by omega
    obtain ⟨pp, hpp, es⟩ := rd_suf _ _ _ _ h
    have hl : x.cps.toList.length = x.length := by rw [Array.length_toList]; rfl
    have hll := suf_len hpp es
    cases r with
    | nil => simp [F__law_read, q_run, b__law_read, e, rv, gIs, Lc.isNon, whole, gIx1, atI, ixN, gLen, hx2, q_size]
    | cons c r =>
      have hne : ((x.length - (c :: r).length : Nat) : Int) ≠ (x.length : Int) := by rw [List.length_cons] at hll ⊢; omega
      simp only [rv] at e
      generalize ((x.length - (c :: r).length : Nat) : Int) = z at e hne
      have hne' : (z == (x.length : Int)) = false := by simpa using hne
      simp [F__law_read, q_run, b__law_read, e, rv, gIs, Lc.isNon, whole, gIx1, atI, ixN, gLen, hx2, hne', hne, q_size]
end Lw

set_option Elab.async false
set_option maxRecDepth 100000
set_option maxHeartbeats 4000000
set_option linter.unusedSimpArgs false
namespace Lw
open PySem L2 Lc
/-! ### the constructors that are open -/
/-- the stack in the store: indexes below b, falling -/
inductive StR : List Cn → Nat → List (Str × Nat) → List (Str × List D) → Prop
  | nil {st : List Cn} {b : Nat} : StR st b [] []
  | cons {st : List Cn} {b k : Nat} {w : Str} {l : List D} {stk : List (Str × Nat)} {ps : List (Str × List D)} : k < b → st[k]? = some (.lst l) ∧ l.length ≤ 2 → StR st k stk ps → StR st b ((w, k) :: stk) ((w, l) :: ps)
theorem StR.up {st : List Cn} {b b' : Nat} {stk : List (Str × Nat)} {ps : List (Str × List D)} (h : StR st b stk ps) (l : b ≤ b') : StR st b' stk ps := by
  cases h with
  | nil => exact .nil
  | cons a c d => exact .cons (by omega) c d
theorem StR.set {st : List Cn} {c : Cn} : ∀ {b k : Nat} {stk : List (Str × Nat)} {ps : List (Str × List D)}, StR st b stk ps → b ≤ k → StR (st.set k c) b stk ps
  | _, _, _, _, .nil, _ => .nil
  | _, _, _, _, .cons a e d, l => .cons a ⟨by rw [List.getElem?_set_ne (by omega)]; exact e.1, e.2⟩ (d.set (by omega))
theorem StR.app {st : List Cn} {c : Cn} : ∀ {b : Nat} {stk : List (Str × Nat)} {ps : List (Str × List D)}, StR st b stk ps → StR (st ++ [c]) b stk ps
  | _, _, _, .nil => .nil
  | _, _, _, .cons a e d => .cons a ⟨by
      have := (List.getElem?_eq_some_iff.mp e.1).1
      rw [List.getElem?_append_left this]; exact e.1, e.2⟩ d.app
def mkO (e : Str × Nat) : D := .tup [.str e.1, .sto e.2]
/-- the list of the open ones, the outermost first -/
def ops (stk : List (Str × Nat)) : List D := (stk.map mkO).reverse
theorem ops_cons (e : Str × Nat) (stk : List (Str × Nat)) : ops (e :: stk) = ops stk ++ [mkO e] := by
  simp [ops]
def okV (v : D) : Prop := (∃ x, v = .str x) ∨ (∃ i, v = .int i) ∨ ∃ l, v = .tup l
theorem cls_ok : ∀ {ps : List (Str × List D)} {v : D} {s : List Nat} {v' : D} {r : List Nat}, okV v → cls ps v s = .done v' r → okV v'
  | [], _, _, _, _, h, e => by cases e; exact h
  | (w, l) :: ps, v, s, v', r, h, e => by
    unfold cls at e
    split at e
    · cases e
    · split at e
      · exact cls_ok (.inr (.inr ⟨_, rfl⟩)) e
      · cases e
theorem frz_dt : ∀ (l : List D) (r : Rho), frzAll (l.map W.dt) r = .ok l r
  | [], _ => rfl
  | d :: l, r => by
    have := frz_dt l r
    simp [this]
theorem at_last {l : List D} {d : D} : gIx1 (.lst (l ++ [d])) (.int (-1)) = some (.dt d) := by
  have e : ixN (l ++ [d]).length (-1) = some l.length := by
    simp only [ixN, List.length_append, List.length_singleton]
    rw [if_neg (by decide)]
    rw [if_pos (by omega)]
    congr 1
    omega
  simp only [gIx1, atI, e, Option.bind_some]
  simp
theorem view_sto {r : Rho} {k : Nat} {l : List D} (h : r.st[k]? = some (.lst l)) : W.view r (.dt (.sto k)) = some (.lst l) := q_wst h
section
variable {x : Str}
def fC (v : D) (p : Int) (s4 s5 s6 : Option Sl) (o : List D) (v0 : D) (p0 : Int) (st : List Cn) : Rho :=
  ⟨[some (.bor 0), some (.dt v), some (.dt (.str x)), some (.dt (.int p)), s4, s5, s6], [.own (.lst o), .dt v0, .dt (.str x), .dt (.int p0)], st⟩
/-- what closed tells -/
def clD (x : Str) (b : Nat) : Cl → D → List D → List Cn → Prop
  | .done v r, d, o', _ => o' = [] ∧ ∃ q : Nat, q ≤ x.length ∧ x.cps.toList.drop q = r ∧ d = .tup [v, .int q]
  | .more ps r, d, o', st' => ∃ (q : Nat) (stk : List (Str × Nat)), q ≤ x.length ∧ x.cps.toList.drop q = r ∧ d = .tup [.non, .int q] ∧ o' = ops stk ∧ StR st' b stk ps
  | .bad, d, _, _ => d = .tup [.non, .non]
section
variable {v v0 : D} {p : Nat} {p0 : Int} {s4 s5 s6 : Option Sl} {w : Str} {k : Nat} {stk : List (Str × Nat)} {st : List Cn} {l : List D}
theorem step_more (hx : x.length ≤ 10000) (hk : st[k]? = some (.lst l)) (hl : l.length ≤ 2) (h : (x.cps.toList.drop p).head? = some 44 ∧ l.length < 2) :
    ∃ s4' s5' s6', x_closed_1 (fC (x := x) v p s4 s5 s6 (ops ((w, k) :: stk)) v0 p0 st) = .ok (.ret (.dt (.tup [.non, .int ((p : Int) + 1)]))) (fC (x := x) v p s4' s5' s6' (ops ((w, k) :: stk)) v0 p0 (st.set k (.lst (l ++ [v])))) := by
  refine ⟨some (.dt (.str (sgn (x.cps.toList.drop p)))), some (.dt (.str w)), some (.dt (.sto k)), ?_⟩
  have hg := sl_sign (x := x) (p := p) (by omega)
  have hkl := (List.getElem?_eq_some_iff.mp hk).1
  have hk2 : (st.set k (.lst (l ++ [v])))[k]? = some (.lst (l ++ [v])) := by rw [List.getElem?_set_self hkl]
  have hal : l.length < 16777216 := by omega
  rw [ops_cons]
  have hsg := sgn_is (s := x.cps.toList.drop p) lit1.2.1
  rw [h.1] at hsg
  have hlt : ((l.length : Int) + 1 < 3) := by omega
  generalize sgn (x.cps.toList.drop p) = sg at hg hsg ⊢
  have hv : ∀ lo bo, W.view ⟨lo, bo, st.set k (.lst (l ++ [v]))⟩ (.dt (.sto k)) = some (.lst (l ++ [v])) := fun lo bo => view_sto hk2
  have hmk : mkO (w, k) = .tup [.str w, .sto k] := rfl
  simp [x_closed_1, fC, at_last, hmk, gNeg, hk, hal, gAdd2, gAdd, hg, hsg, hv, gLen, gLt, hlt, q_size]
theorem step_bad (hx : x.length ≤ 10000) (hk : st[k]? = some (.lst l)) (hl : l.length ≤ 2) (h : ¬ ((x.cps.toList.drop p).head? = some 44 ∧ l.length < 2)) (h41 : (x.cps.toList.drop p).head? ≠ some 41) :
    ∃ s4' s5' s6', x_closed_1 (fC (x := x) v p s4 s5 s6 (ops ((w, k) :: stk)) v0 p0 st) = .ok (.ret (.dt (.tup [.non, .non]))) (fC (x := x) v p s4' s5' s6' (ops ((w, k) :: stk)) v0 p0 (st.set k (.lst (l ++ [v])))) := by
  refine ⟨some (.dt (.str (sgn (x.cps.toList.drop p)))), some (.dt (.str w)), some (.dt (.sto k)), ?_⟩
  have hg := sl_sign (x := x) (p := p) (by omega)
  have hkl := (List.getElem?_eq_some_iff.mp hk).1
  have hk2 : (st.set k (.lst (l ++ [v])))[k]? = some (.lst (l ++ [v])) := by rw [List.getElem?_set_self hkl]
  have hal : l.length < 16777216 := by omega
  rw [ops_cons]
  have hsg := sgn_is (s := x.cps.toList.drop p) lit1.2.1
  have hsg2 := sgn_is (s := x.cps.toList.drop p) lit1.2.2
  rw [decide_eq_false h41] at hsg2
  by_cases h44 : (x.cps.toList.drop p).head? = some 44
  · rw [decide_eq_true h44] at hsg
    have hlt : ¬ ((l.length : Int) + 1 < 3) := fun z => h ⟨h44, by omega⟩
    generalize sgn (x.cps.toList.drop p) = sg at hg hsg hsg2 ⊢
    have hv : ∀ lo bo, W.view ⟨lo, bo, st.set k (.lst (l ++ [v]))⟩ (.dt (.sto k)) = some (.lst (l ++ [v])) := fun lo bo => view_sto hk2
    have hmk : mkO (w, k) = .tup [.str w, .sto k] := rfl
    simp [x_closed_1, fC, at_last, hmk, gNeg, hk, hal, gAdd2, gAdd, hg, hsg, hsg2, hv, gLen, gLt, hlt, q_size]
  · rw [decide_eq_false h44] at hsg
    generalize sgn (x.cps.toList.drop p) = sg at hg hsg hsg2 ⊢
    have hmk : mkO (w, k) = .tup [.str w, .sto k] := rfl
    simp [x_closed_1, fC, at_last, hmk, gNeg, hk, hal, gAdd2, gAdd, hg, hsg, hsg2, q_size]
theorem step_close (hx : x.length ≤ 10000) (hk : st[k]? = some (.lst l)) (hl : l.length ≤ 2) (h41 : (x.cps.toList.drop p).head? = some 41) :
    ∃ s4' s5' s6', x_closed_1 (fC (x := x) v p s4 s5 s6 (ops ((w, k) :: stk)) v0 p0 st) = .ok .next (fC (x := x) (.tup (.str w :: (l ++ [v]))) ((p + 1 : Nat) : Int) s4' s5' s6' (ops stk) v0 p0 (st.set k (.lst (l ++ [v])))) := by
  refine ⟨some (.dt (.str (sgn (x.cps.toList.drop p)))), some (.dt (.str w)), some (.dt (.sto k)), ?_⟩
  have hg := sl_sign (x := x) (p := p) (by omega)
  have hkl := (List.getElem?_eq_some_iff.mp hk).1
  have hk2 : (st.set k (.lst (l ++ [v])))[k]? = some (.lst (l ++ [v])) := by rw [List.getElem?_set_self hkl]
  have hal : l.length < 16777216 := by omega
  have hal2 : l.length + 1 + 1 ≤ 16777216 := by omega
  rw [ops_cons]
  have hsg := sgn_is (s := x.cps.toList.drop p) lit1.2.1
  have hsg2 := sgn_is (s := x.cps.toList.drop p) lit1.2.2
  rw [decide_eq_true h41] at hsg2
  rw [h41] at hsg
  generalize sgn (x.cps.toList.drop p) = sg at hg hsg hsg2 ⊢
  have hv : ∀ lo bo, W.view ⟨lo, bo, st.set k (.lst (l ++ [v]))⟩ (.dt (.sto k)) = some (.lst (l ++ [v])) := fun lo bo => view_sto hk2
  have hmk : mkO (w, k) = .tup [.str w, .sto k] := rfl
  have hf := fun r => frz_dt (l ++ [v]) r
  simp only [List.map_append, List.map_cons, List.map_nil] at hf
  simp [x_closed_1, fC, at_last, hmk, gNeg, hk, hal, gAdd2, gAdd, hg, hsg, hsg2, hv, hf, hal2, q_size]
end
theorem closed_loop (hx : x.length ≤ 10000) (v0 : D) (p0 : Int) (b : Nat) : ∀ (ps : List (Str × List D)) (stk : List (Str × Nat)) (st : List Cn) (b' : Nat) (v : D) (p : Nat) (s4 s5 s6 : Option Sl), StR st b' stk ps → b' ≤ b → p ≤ x.length →
    ∃ d o' st' r', cSeq x_closed_2 (cSeq (cRet (cTup (cCons (cVar 1) (cCons (cVar 3) (M.ret []))))) (M.ret .next)) (fC (x := x) v p s4 s5 s6 (ops stk) v0 p0 st) = .ok (.ret (.dt d)) r' ∧ r'.bor = [.own (.lst o'), .dt v0, .dt (.str x), .dt (.int p0)] ∧ r'.st = st' ∧ st'.length = st.length ∧ clD x b (cls ps v (x.cps.toList.drop p)) d o' st' := fun ps => by
  have hl : x.cps.toList.length = x.length := by rw [Array.length_toList]; rfl
  induction ps with
  | nil =>
    intro stk st b' v p s4 s5 s6 hS hb hp
    cases hS
    have ht : (M.bl (cOp2 gNe2 (cVar 0) (cLst (M.ret [])))) (fC (x := x) v p s4 s5 s6 (ops []) v0 p0 st) = .ok false (fC (x := x) v p s4 s5 s6 (ops []) v0 p0 st) := by
      simp [fC, ops]
    refine ⟨.tup [v, .int p], [], st, fC (x := x) v p s4 s5 s6 (ops []) v0 p0 st, ?_, rfl, rfl, rfl, rfl, p, hp, rfl, rfl⟩
    rw [q_seq, x_closed_2, cWhile_eq1, ht]
    simp [fC, q_size]
  | cons e ps ih =>
    intro stk st b' v p s4 s5 s6 hS hb hp
    obtain ⟨w, l⟩ := e
    cases hS with
    | cons hkb hk hS' =>
      rename_i k stk'
      obtain ⟨hk, hl2⟩ := hk
      have hne : (ops ((w, k) :: stk')).isEmpty = false := by rw [ops_cons]; simp
      have ht : (M.bl (cOp2 gNe2 (cVar 0) (cLst (M.ret [])))) (fC (x := x) v p s4 s5 s6 (ops ((w, k) :: stk')) v0 p0 st) = .ok true (fC (x := x) v p s4 s5 s6 (ops ((w, k) :: stk')) v0 p0 st) := by
        generalize ops ((w, k) :: stk') = o at hne ⊢
        simp [fC, hne]
      have hkl := (List.getElem?_eq_some_iff.mp hk).1
      have hk2 : (st.set k (.lst (l ++ [v])))[k]? = some (.lst (l ++ [v])) := by rw [List.getElem?_set_self hkl]
      rw [q_seq, x_closed_2, cWhile_eq1, ht]
      simp only [cls]
      by_cases hm : (x.cps.toList.drop p).head? = some 44 ∧ l.length < 2
      · obtain ⟨s4', s5', s6', e1⟩ := step_more (v := v) (v0 := v0) (p0 := p0) (s4 := s4) (s5 := s5) (s6 := s6) (w := w) (stk := stk') hx hk hl2 hm
        have hlt : p < x.length := by
          have := tail_len hm.1
          rw [List.length_drop, hl] at this
          omega
        have hd1 : x.cps.toList.drop (p + 1) = (x.cps.toList.drop p).tail := by rw [← List.drop_drop, List.drop_one]
        refine ⟨.tup [.non, .int ((p : Int) + 1)], ops ((w, k) :: stk'), st.set k (.lst (l ++ [v])), fC (x := x) v p s4' s5' s6' (ops ((w, k) :: stk')) v0 p0 (st.set k (.lst (l ++ [v]))), ?_, rfl, rfl, by simp, ?_⟩
        · simp only [e1]
        rw [if_pos hm]
        exact ⟨p + 1, (w, k) :: stk', by omega, hd1, by simp, rfl, .cons (by omega) ⟨hk2, by rw [List.length_append]; simp only [List.length_singleton]; omega⟩ (hS'.set (Nat.le_refl _))⟩
      · rw [if_neg hm]
        by_cases h41 : (x.cps.toList.drop p).head? = some 41
        · obtain ⟨s4', s5', s6', e1⟩ := step_close (v := v) (v0 := v0) (p0 := p0) (s4 := s4) (s5 := s5) (s6 := s6) (w := w) (stk := stk') hx hk hl2 h41
          have hlt : p < x.length := by
            have := tail_len h41
            rw [List.length_drop, hl] at this
            omega
          have hd1 : x.cps.toList.drop (p + 1) = (x.cps.toList.drop p).tail := by rw [← List.drop_drop, List.drop_one]
          obtain ⟨d, o', st', r', e2, h1, h2, h3, h4⟩ := ih stk' (st.set k (.lst (l ++ [v]))) k (.tup (.str w :: (l ++ [v]))) (p + 1) s4' s5' s6' (hS'.set (Nat.le_refl _)) (by omega) (by omega)
          rw [hd1] at h4
          refine ⟨d, o', st', r', ?_, h1, h2, by rw [h3]; simp, by rw [if_pos h41]; exact h4⟩
          simp only [e1]
          exact e2
        · obtain ⟨s4', s5', s6', e1⟩ := step_bad (v := v) (v0 := v0) (p0 := p0) (s4 := s4) (s5 := s5) (s6 := s6) (w := w) (stk := stk') hx hk hl2 hm h41
          refine ⟨.tup [.non, .non], ops ((w, k) :: stk'), st.set k (.lst (l ++ [v])), fC (x := x) v p s4' s5' s6' (ops ((w, k) :: stk')) v0 p0 (st.set k (.lst (l ++ [v]))), ?_, rfl, rfl, by simp, ?_⟩
          · simp only [e1]
          rw [if_neg h41]
          exact rfl
theorem closed_ok (hx : x.length ≤ 10000) {ps : List (Str × List D)} {stk : List (Str × Nat)} {st : List Cn} {b : Nat} {v : D} {p : Nat} (h : StR st b stk ps) (hp : p ≤ x.length) :
    ∃ d o' st', F_closed [.own (.lst (ops stk)), .dt v, .dt (.str x), .dt (.int p)] st = .ok (.dt d) [.own (.lst o'), .dt v, .dt (.str x), .dt (.int p)] st' ∧ st'.length = st.length ∧ clD x b (cls ps v (x.cps.toList.drop p)) d o' st' := by
  obtain ⟨d, o', st', r', e, h1, h2, h3, h4⟩ := closed_loop hx v p b ps stk st b v p none none none h (Nat.le_refl _) hp
  refine ⟨d, o', st', ?_, h3, h4⟩
  have e2 : b_closed ⟨[some (.bor 0), some (.dt v), some (.dt (.str x)), some (.dt (.int p)), none, none, none], [.own (.lst (ops stk)), .dt v, .dt (.str x), .dt (.int p)], st⟩ = .ok (.ret (.dt d)) r' := e
  simp [F_closed, q_runS, e2, h1, h2]
end
end Lw

set_option Elab.async false
set_option maxRecDepth 100000
set_option maxHeartbeats 4000000
set_option linter.unusedSimpArgs false
namespace Lw
open PySem L2 Lc
theorem up_nm {F : Fn} {as : List Bo} {st : List Cn} (h : as.all Bo.nm = true) : F.up as st = (F as).up st := by
  cases st with
  | nil => rfl
  | cons c st => rw [q_upc, if_pos h]
section
variable {x : Str} {wi : Bool}
def fT (x : Str) (wi : Bool) (a : D) (s4 s5 : Option D) (o : List D) (st : List Cn) : Rho :=
  ⟨[some (.dt (.str x)), some (.dt (.bl wi)), some (.own (.lst o)), some (.dt a), s4.map Sl.dt, s5.map Sl.dt], [.dt (.str x), .dt (.bl wi)], st⟩
theorem up_map {ws : List W} {bs : List Bo} {i : Nat} {s : Option D} : upSl ws bs i (s.map Sl.dt) = s.map Sl.dt := by
  cases s <;> rfl
/-- behind the call of closed -/
def rest (d : D) : M Fl := (cSeq (cAsg (cC d) (gT 2 (gsCons (gN 5) (gsCons (gN 3) gsNil))))
    (cSeq (cIfS (M.bl (cOp2 gIsNot (cVar 5) (cC .non))) (cSeq (cRet (cIfE (M.bl (cOp2 gEq2 (cVar 3) (cCallP gLen (cCons (cVar 0) (M.ret []))))) (cVar 5) (cC .non)))
    (M.ret .next)) (M.ret .next))
    (M.ret .next)))
theorem rest_no {s4 s5 : Option D} {a b : D} {o : List D} {st : List Cn} : rest (.tup [.non, b]) (fT x wi a s4 s5 o st) = .ok .next (fT x wi b s4 (some .non) o st) := by
  simp [rest, fT, gIsNot, Lc.isNon]
theorem rest_yes {v : D} {s4 s5 : Option D} {a : D} {q : Nat} {o : List D} {st : List Cn} (hx : x.length ≤ 10000) (hv : okV v) : rest (.tup [v, .int q]) (fT x wi a s4 s5 o st) = .ok (.ret (.dt (if q = x.length then v else .non))) (fT x wi (.int q) s4 (some v) o st) := by
  have hx2 : x.length ≤ 16777216 := by omega
  have hb : ((q : Int) == (x.length : Int)) = decide (q = x.length) := by
    by_cases h : q = x.length
    · simp [h]
    · have : ¬ (q : Int) = (x.length : Int) := by omega
      simp [h, this]
  by_cases h : q = x.length
  · subst h
    rcases hv with ⟨w, rfl⟩ | ⟨i, rfl⟩ | ⟨l, rfl⟩ <;> simp [rest, fT, gIsNot, Lc.isNon, gLen, hx2, q_size]
  · rw [decide_eq_false h] at hb
    have hi : ¬ (q : Int) = (x.length : Int) := by omega
    rcases hv with ⟨w, rfl⟩ | ⟨i, rfl⟩ | ⟨l, rfl⟩ <;> simp [rest, fT, gIsNot, Lc.isNon, gLen, hx2, hb, h, hi, q_size]
theorem th_nam {w : Str} (h : Word w) : Th 40 (.str w) := show Wd 30 w from h.wd.mono (by decide)
theorem th_ix {i : Int} (h : 0 ≤ i ∧ i < 3) : Th 40 (.int i) := by
  show i.natAbs < 2 ^ 200
  have h2 : (4 : Nat) < 2 ^ 200 := by decide
  omega
theorem leaf_up {p : Nat} {st : List Cn} (hx : x.length ≤ 10000) (hp : p ≤ x.length) : ∃ q : Nat, F_leaf_at.up [.dt (.str x), .dt (.int p), .dt (.bl wi)] st = .ok (.dt (.tup [lfD 0 (leaf wi (x.cps.toList.drop p)), .int q])) [.dt (.str x), .dt (.int p), .dt (.bl wi)] st ∧ ∀ f r, leaf wi (x.cps.toList.drop p) = some (f, r) → x.cps.toList.drop q = r ∧ q ≤ x.length := by
  obtain ⟨q, e, h⟩ := leaf_ok (x := x) (p := p) (wi := wi) (by omega) hp
  refine ⟨q, ?_, h⟩
  rw [up_nm rfl, e]
  rfl
theorem ix_up {d : D} {st : List Cn} (h : Th 40 d) (hn : d.nm = true) : F_is_index.up [.dt d] st = .ok (.dt (.bl (ixB d))) [.dt d] st := by
  rw [up_nm (by simpa [Bo.nm] using hn), isi_ok h]
  rfl
theorem it_none {p : Nat} {s4 s5 : Option D} {stk : List (Str × Nat)} {st : List Cn} (hx : x.length ≤ 10000) (hp : p ≤ x.length) (e : leaf wi (x.cps.toList.drop p) = none) :
    ∃ r', x_tree_in_1 (fT x wi (.int p) s4 s5 (ops stk) st) = .ok (.ret (.dt .non)) r' ∧ r'.bor = [.dt (.str x), .dt (.bl wi)] := by
  obtain ⟨q, h1, _⟩ := leaf_up (x := x) (wi := wi) (st := st) hx hp
  rw [e] at h1
  refine ⟨fT x wi (.int q) (some .non) s5 (ops stk) st, ?_, rfl⟩
  simp [x_tree_in_1, fT, up_map, h1, lfD, gIs, Lc.isNon]
theorem it_open {p : Nat} {s4 s5 : Option D} {stk : List (Str × Nat)} {st : List Cn} {w : Str} {r : List Nat} (hx : x.length ≤ 10000) (hp : p ≤ x.length) (hst : stk.length ≤ 100000) (e : leaf wi (x.cps.toList.drop p) = some (.nam w, r)) (h40 : r.head? = some 40) :
    ∃ s4', ∃ q : Nat, x_tree_in_1 (fT x wi (.int p) s4 s5 (ops stk) st) = .ok .cnt (fT x wi (.int q) s4' s5 (ops ((w, st.length) :: stk)) (st ++ [.lst []])) ∧ q ≤ x.length ∧ x.cps.toList.drop q = r.tail := by
  obtain ⟨q, h1, h2⟩ := leaf_up (x := x) (wi := wi) (st := st) hx hp
  obtain ⟨hd, hq⟩ := h2 _ _ e
  rw [e] at h1
  have hl : x.cps.toList.length = x.length := by rw [Array.length_toList]; rfl
  have hg := sl_sign (x := x) (p := q) (by omega)
  rw [hd] at hg
  have hsg := sgn_is (s := r) lit1.1
  rw [h40] at hsg
  have hw := leaf_nam e
  have hi := ix_up (d := .str w) (st := st) (th_nam hw) rfl
  refine ⟨some (.str w), q + 1, ?_, ?_, ?_⟩
  · have hol : (ops stk).length < 16777216 := by simp only [ops, List.length_reverse, List.length_map]; omega
    have hmk : mkO (w, st.length) = .tup [.str w, .sto st.length] := rfl
    rw [ops_cons, hmk]
    generalize ops stk = o at hol ⊢
    simp [x_tree_in_1, fT, up_map, h1, lfD, Lf.d, gIs, Lc.isNon, hg, gAdd2, gAdd, hsg, hi, ixB, hol, q_size]
  · have := tail_len h40
    rw [← hd, List.length_drop, hl] at this
    omega
  · rw [← List.drop_drop, hd, List.drop_one]
theorem it_value {p : Nat} {s4 s5 : Option D} {ps : List (Str × List D)} {stk : List (Str × Nat)} {st : List Cn} {f : Lf} {r : List Nat} (hx : x.length ≤ 10000) (hp : p ≤ x.length) (hS : StR st st.length stk ps) (e : leaf wi (x.cps.toList.drop p) = some (f, r)) (hno : ∀ w, f = .nam w → r.head? ≠ some 40) :
    match cls ps f.d r with
    | .done v r' => ∃ ρ, x_tree_in_1 (fT x wi (.int p) s4 s5 (ops stk) st) = .ok (.ret (.dt (if r' = [] then v else .non))) ρ ∧ ρ.bor = [.dt (.str x), .dt (.bl wi)]
    | .more qs r' => ∃ s4' s5' st' stk', ∃ q : Nat, x_tree_in_1 (fT x wi (.int p) s4 s5 (ops stk) st) = .ok .next (fT x wi (.int q) s4' s5' (ops stk') st') ∧ q ≤ x.length ∧ x.cps.toList.drop q = r' ∧ StR st' st'.length stk' qs
    | .bad => ∃ s4' s5' o' st', x_tree_in_1 (fT x wi (.int p) s4 s5 (ops stk) st) = .ok .next (fT x wi .non s4' s5' o' st') := by
  obtain ⟨q, h1, h2⟩ := leaf_up (x := x) (wi := wi) (st := st) hx hp
  obtain ⟨hd, hq⟩ := h2 _ _ e
  rw [e] at h1
  have hl : x.cps.toList.length = x.length := by rw [Array.length_toList]; rfl
  have hx2 : x.length ≤ 16777216 := by omega
  have hg := sl_sign (x := x) (p := q) (by omega)
  rw [hd] at hg
  have hsg := sgn_is (s := r) lit1.1
  obtain ⟨d, o', st', hc, hlen, hD⟩ := closed_ok hx (v := f.d) hS hq
  rw [hd] at hD
  have hv : okV f.d := by
    cases f with
    | nam w => exact .inl ⟨w, rfl⟩
    | ix i => exact .inr (.inl ⟨i, rfl⟩)
  have start : x_tree_in_1 (fT x wi (.int p) s4 s5 (ops stk) st) = rest d (fT x wi (.int q) (some f.d) s5 o' st') := by
    cases f with
    | nam w =>
      rw [decide_eq_false (hno w rfl)] at hsg
      simp only [Lf.d] at hc
      generalize ops stk = o at hc ⊢
      simp [x_tree_in_1, rest, fT, up_map, h1, lfD, Lf.d, gIs, Lc.isNon, hg, gAdd2, gAdd, hsg, hc, q_size]
    | ix i =>
      have hi := ix_up (d := .int i) (st := st) (th_ix (leaf_ix e)) rfl
      have hix : ixB (.int i) = true := by
        have := leaf_ix e
        simp only [ixB, decide_eq_true_eq]
        omega
      rw [hix] at hi
      simp only [Lf.d] at hc
      generalize ops stk = o at hc ⊢
      cases hb : decide (r.head? = some 40) with
      | false =>
        rw [hb] at hsg
        simp [x_tree_in_1, rest, fT, up_map, h1, lfD, Lf.d, gIs, Lc.isNon, hg, gAdd2, gAdd, hsg, hc, q_size]
      | true =>
        rw [hb] at hsg
        simp [x_tree_in_1, rest, fT, up_map, h1, lfD, Lf.d, gIs, Lc.isNon, hg, gAdd2, gAdd, hsg, hi, hc, q_size]
  cases ecl : cls ps f.d r with
  | done v r' =>
    rw [ecl] at hD
    obtain ⟨ho, q', hq', hd', rfl⟩ := hD
    have hv' := cls_ok hv ecl
    have hr : (q' = x.length) ↔ r' = [] := by
      rw [← hd', List.drop_eq_nil_iff, hl]
      omega
    refine ⟨fT x wi (.int q') (some f.d) (some v) o' st', ?_, rfl⟩
    rw [start, rest_yes hx hv']
    simp only [hr]
  | more qs r' =>
    rw [ecl] at hD
    obtain ⟨q', stk', hq', hd', rfl, rfl, hS'⟩ := hD
    refine ⟨some f.d, some .non, st', stk', q', ?_, hq', hd', by rw [hlen]; exact hS'⟩
    rw [start, rest_no]
  | bad =>
    rw [ecl] at hD
    obtain rfl : d = .tup [.non, .non] := hD
    refine ⟨some f.d, some .non, o', st', ?_⟩
    rw [start, rest_no]
/-- the loop of tree_in -/
theorem tree_loop (hx : x.length ≤ 10000) : ∀ (n : Nat) (p : Nat) (ps : List (Str × List D)) (stk : List (Str × Nat)) (st : List Cn) (s4 s5 : Option D), p ≤ x.length → (x.cps.toList.drop p).length < n → StR st st.length stk ps → stk.length + x.length ≤ 50000 + p →
    ∃ ρ, cSeq x_tree_in_2 (cSeq (cRet (cC .non)) (M.ret .next)) (fT x wi (.int p) s4 s5 (ops stk) st) = .ok (.ret (.dt ((RM wi ps (x.cps.toList.drop p)).getD .non))) ρ ∧ ρ.bor = [.dt (.str x), .dt (.bl wi)]
  | 0, _, _, _, _, _, _, _, h, _, _ => by omega
  | n + 1, p, ps, stk, st, s4, s5, hp, hn, hS, hk => by
    have hl : x.cps.toList.length = x.length := by rw [Array.length_toList]; rfl
    have ht : (M.bl (cOp2 gIsNot (cVar 3) (cC .non))) (fT x wi (.int p) s4 s5 (ops stk) st) = .ok true (fT x wi (.int p) s4 s5 (ops stk) st) := by
      generalize ops stk = o
      simp [fT, gIsNot, Lc.isNon]
    have hend : ∀ s4 s5 o st, cSeq x_tree_in_2 (cSeq (cRet (cC .non)) (M.ret .next)) (fT x wi .non s4 s5 o st) = .ok (.ret (.dt .non)) (fT x wi .non s4 s5 o st) := fun s4 s5 o st => by
      have ht : (M.bl (cOp2 gIsNot (cVar 3) (cC .non))) (fT x wi .non s4 s5 o st) = .ok false (fT x wi .non s4 s5 o st) := by
        simp [fT, gIsNot, Lc.isNon]
      rw [q_seq, x_tree_in_2, cWhile_eq1, ht]
      simp
    rw [RM_eq]
    cases e : leaf wi (x.cps.toList.drop p) with
    | none =>
      obtain ⟨r', e1, h1⟩ := it_none (s4 := s4) (s5 := s5) (stk := stk) (st := st) hx hp e
      refine ⟨r', ?_, h1⟩
      rw [q_seq, x_tree_in_2, cWhile_eq1, ht]
      simp only [e1]
      rfl
    | some q =>
      obtain ⟨f, r⟩ := q
      obtain ⟨pp, hpp, es⟩ := leaf_suf e
      have hrl := suf_len hpp es
      -- a value
      have val : (∀ w, f = .nam w → r.head? ≠ some 40) → ∃ ρ, cSeq x_tree_in_2 (cSeq (cRet (cC .non)) (M.ret .next)) (fT x wi (.int p) s4 s5 (ops stk) st) = .ok (.ret (.dt ((Fin' wi ps f.d r).getD .non))) ρ ∧ ρ.bor = [.dt (.str x), .dt (.bl wi)] := fun hno => by
        have hv := it_value (s4 := s4) (s5 := s5) hx hp hS e hno
        unfold Fin'
        cases ecl : cls ps f.d r with
        | done v r' =>
          rw [ecl] at hv
          obtain ⟨ρ, e1, h1⟩ := hv
          refine ⟨ρ, ?_, h1⟩
          rw [q_seq, x_tree_in_2, cWhile_eq1, ht]
          simp only [e1, nxt]
          split <;> rfl
        | more qs r' =>
          rw [ecl] at hv
          obtain ⟨s4', s5', st', stk', q, e1, hq, hd, hS'⟩ := hv
          have hlt := cls_len ecl
          have hdl := congrArg List.length hd
          rw [List.length_drop, hl] at hdl
          have hpl : (x.cps.toList.drop p).length = x.length - p := by rw [List.length_drop, hl]
          have hsk : stk'.length ≤ stk.length := by
            have l1 : ∀ {st : List Cn} {b : Nat} {stk : List (Str × Nat)} {ps : List (Str × List D)}, StR st b stk ps → stk.length = ps.length := fun h => by
              induction h with
              | nil => rfl
              | cons _ _ _ ih => rw [List.length_cons, List.length_cons, ih]
            have l2 : ∀ {ps : List (Str × List D)} {v : D} {s : List Nat} {qs : List (Str × List D)} {r : List Nat}, cls ps v s = .more qs r → qs.length ≤ ps.length := fun {ps} => by
              induction ps with
              | nil => intro v s qs r h; cases h
              | cons a ps ih =>
                intro v s qs r h
                obtain ⟨w, l⟩ := a
                unfold cls at h
                split at h
                · cases h; rw [List.length_cons, List.length_cons]; exact Nat.le_refl _
                · split at h
                  · have := ih h
                    rw [List.length_cons]; omega
                  · cases h
            rw [l1 hS', l1 hS]
            exact l2 ecl
          obtain ⟨ρ, e2, h2⟩ := tree_loop hx n q qs stk' st' s4' s5' hq (by rw [hd]; omega) hS' (by omega)
          refine ⟨ρ, ?_, h2⟩
          rw [hd] at e2
          rw [q_seq, x_tree_in_2, cWhile_eq1, ht]
          simp only [e1, nxt]
          exact e2
        | bad =>
          rw [ecl] at hv
          obtain ⟨s4', s5', o', st', e1⟩ := hv
          refine ⟨fT x wi .non s4' s5' o' st', ?_, rfl⟩
          have e2 := hend s4' s5' o' st'
          rw [q_seq, x_tree_in_2, cWhile_eq1, ht]
          simp only [e1, nxt]
          exact e2
      cases f with
      | ix i => exact val fun w h => by cases h
      | nam w =>
        by_cases h40 : r.head? = some 40
        · obtain ⟨s4', q, e1, hq, hd⟩ := it_open (s4 := s4) (s5 := s5) (stk := stk) (st := st) hx hp (by omega) e h40
          have htl := tail_len h40
          have hdl := congrArg List.length hd
          rw [List.length_drop, hl] at hdl
          have hpl : (x.cps.toList.drop p).length = x.length - p := by rw [List.length_drop, hl]
          obtain ⟨ρ, e2, h2⟩ := tree_loop hx n q ((w, []) :: ps) ((w, st.length) :: stk) (st ++ [.lst []]) s4' s5 hq (by rw [hd]; omega) (.cons (by simp) ⟨by simp, by decide⟩ hS.app) (by rw [List.length_cons]; omega)
          refine ⟨ρ, ?_, h2⟩
          rw [hd] at e2
          rw [q_seq, x_tree_in_2, cWhile_eq1, ht]
          simp only [e1, if_pos h40]
          exact e2
        · simp only [if_neg h40]
          exact val fun w' _ => h40
end
theorem tree_in_ok {x : Str} {wi : Bool} (hx : x.length ≤ 10000) (hc : x.cps.toList.count 40 < 40) : F_tree_in [.dt (.str x), .dt (.bl wi)] = .ok (.dt (whole (rd wi 40 x.cps.toList))) [.dt (.str x), .dt (.bl wi)] := by
  obtain ⟨ρ, e, h⟩ := tree_loop (x := x) (wi := wi) hx (x.length + 1) 0 [] [] [] none none (Nat.zero_le _) (by rw [List.drop_zero, Array.length_toList]; exact Nat.lt_succ_self _) .nil (by simp only [List.length_nil]; omega)
  rw [List.drop_zero] at e
  have e2 : cSeq x_tree_in_2 (cSeq (cRet (cC .non)) (M.ret .next)) ⟨[some (.dt (.str x)), some (.dt (.bl wi)), some (.own (.lst [])), some (.dt (.int 0)), none, none], [.dt (.str x), .dt (.bl wi)], []⟩ = _ := e
  have hw : (RM wi [] x.cps.toList).getD .non = whole (rd wi 40 x.cps.toList) := by
    rw [RM_top hc]
    cases rd wi 40 x.cps.toList with
    | none => rfl
    | some q =>
      obtain ⟨d, r⟩ := q
      cases r with
      | nil => rfl
      | cons c r => rfl
  rw [hw] at e2
  have hnm : (whole (rd wi 40 x.cps.toList)).nm = true := by
    cases h : rd wi 40 x.cps.toList with
    | none => rfl
    | some q =>
      obtain ⟨d, r⟩ := q
      have g := rd_gd _ _ _ _ h
      have hl : x.cps.toList.length = x.length := by rw [Array.length_toList]; rfl
      cases r with
      | nil => exact g.nm (by omega)
      | cons c r => rfl
  generalize whole (rd wi 40 x.cps.toList) = d at e2 hnm ⊢
  have e3 : b_tree_in (entry 6 [.dt (.str x), .dt (.bl wi)] []) = .ok (.ret (.dt d)) ρ := by
    simp only [q_seq] at e2
    simp [b_tree_in, q_size]
    simp at e2
    exact e2
  simp only [F_tree_in, q_run, e3, q_fid2, h]
  cases ρ.st with
  | nil => rfl
  | cons c s => simp [Bo.nm, D.nm, hnm]
end Lw

set_option Elab.async false
set_option maxRecDepth 100000
set_option maxHeartbeats 4000000
set_option linter.unusedSimpArgs false
namespace Lw
open PySem L2 Lc
/-! ### what is told -/
theorem lkv {d : D} : List.lookup (Str.ofString "value") [(Str.ofString "value", d)] = some d := by simp [List.lookup_cons]
theorem lkl {d : D} : List.lookup (Str.ofString "line") [(Str.ofString "line", d)] = some d := by simp [List.lookup_cons]
theorem ct1 : catOf catT (.c "InvalidText") "InvalidText" = some true := by decide +kernel
theorem ct2 : catOf catT (.c "InvalidPattern") "InvalidPattern" = some true := by decide +kernel
theorem it1 : isaD (isaOf isaT "InvalidText") (.tup [.cls "InvalidCommand", .cls "InvalidPattern", .cls "InvalidShape"]) = some false := by decide +kernel
theorem it2 : isaD (isaOf isaT "InvalidText") (.cls "CopyError") = some true := by decide +kernel
theorem it3 : isaD (isaOf isaT "InvalidText") (.ty "ValueError") = some true := by decide +kernel
theorem ip1 : isaD (isaOf isaT "InvalidPattern") (.cls "CopyError") = some true := by decide +kernel
theorem ip2 : isaD (isaOf isaT "InvalidPattern") (.cls "InvalidShape") = some false := by decide +kernel
theorem repr_of {d : D} (h : d.rok = true) : gRepr [d] = some (.dt (.str d.shown)) := by simp [gRepr, h, sD]
theorem wd_lit {s : String} (h : (Str.ofString s).length ≤ 30) : Wd 30 (Str.ofString s) := ⟨h, ok_lit s⟩
def rfD (k : Int) : D := .lst [.str "refused", .int k, .bl true]
/-- what stands for a value that is read, or for none -/
def tv : D → D
  | .non => rfD 1
  | d => .lst [.str "told", d]
theorem rf_gd (k : Int) (h : k.natAbs < 2 ^ 200) : Gd 2 4 (rfD k) :=
  .lst (.cons (s1 := 1) (s2 := 2) (.str (n := 0) (s := 0) (wd_lit (by decide +kernel))) (.cons (s1 := 1) (s2 := 1) (.int (n := 0) (s := 0) h) (.cons (s1 := 1) (s2 := 0) (.bl (n := 0) (s := 0) true) .nil (by decide)) (by decide)) (by decide))
theorem rf_small (k : Int) (h : k = 0 ∨ k = 1) : k.natAbs < 2 ^ 200 := by
  have h2 : (4 : Nat) < 2 ^ 200 := by decide
  omega
theorem res_gd {x : Str} {wi : Bool} (hl : x.length ≤ 10000) : whole (rd wi 40 x.cps.toList) = .non ∨ Gd 40 10000 (whole (rd wi 40 x.cps.toList)) := by
  cases h : rd wi 40 x.cps.toList with
  | none => exact .inl rfl
  | some q =>
    obtain ⟨d, r⟩ := q
    have g := rd_gd _ _ _ _ h
    have hll : x.cps.toList.length = x.length := by rw [Array.length_toList]; rfl
    cases r with
    | nil => exact .inr (g.mono (Nat.le_refl _) (by omega))
    | cons c r => exact .inl rfl
theorem tv_gd {d : D} (h : d = .non ∨ Gd 40 10000 d) : Gd 41 10002 (tv d) := by
  have g1 := (rf_gd 1 (rf_small 1 (.inr rfl))).mono (show 2 ≤ 41 by decide) (show 4 ≤ 10002 by decide)
  have go : Gd 40 10000 d → Gd 41 10002 (.lst [.str "told", d]) := fun g => .lst (.cons (s1 := 1) (s2 := 10000) (.str (n := 39) (s := 0) (wd_lit (by decide +kernel))) (.cons g (.nil (s := 0)) (by decide)) (by decide))
  rcases h with rfl | h
  · exact g1
  · cases d with
    | non => exact g1
    | _ => exact go h
theorem tv_repr {d : D} (h : d = .non ∨ Gd 40 10000 d) : gRepr [tv d] = some (.dt (.str (tv d).shown)) ∧ OkS (tv d).shown := by
  have g := tv_gd h
  have A := g.all (by decide)
  exact ⟨repr_of (g.rok (by decide) (by decide)), shown_ok _ A.okc⟩
/-- what is read is no list of its own -/
def kd (d : D) : Prop := d = .non ∨ (∃ x, d = .str x) ∨ (∃ i, d = .int i) ∨ ∃ l, d = .tup l
theorem res_kd {x : Str} {wi : Bool} : kd (whole (rd wi 40 x.cps.toList)) := by
  have go : ∀ (n : Nat) (s : List Nat) (d : D) (r : List Nat), rd wi n s = some (d, r) → kd d
    | 0, _, _, _, h => by cases h
    | n + 1, s, d, r, h => by
      unfold rd at h
      split at h
      · cases h
      · cases h; exact .inr (.inr (.inl ⟨_, rfl⟩))
      · split at h
        · split at h
          · cases h; exact .inr (.inr (.inr ⟨_, rfl⟩))
          · cases h
        · cases h; exact .inr (.inl ⟨_, rfl⟩)
  cases h : rd wi 40 x.cps.toList with
  | none => exact .inl rfl
  | some q =>
    obtain ⟨d, r⟩ := q
    cases r with
    | nil => exact go _ _ _ _ h
    | cons c r => exact .inl rfl
section
variable {x : Str}
theorem read_ok {wi : Bool} (hl : x.length ≤ 10000) (hc : x.cps.toList.count 40 < 40) (hn : whole (rd wi 40 x.cps.toList) ≠ .non) : F_read_tree [.dt (.str x), .dt (.bl wi)] = .ok (.dt (whole (rd wi 40 x.cps.toList))) [.dt (.str x), .dt (.bl wi)] := by
  have e := tree_in_ok (wi := wi) hl hc
  have hk := res_kd (x := x) (wi := wi)
  generalize whole (rd wi 40 x.cps.toList) = d at e hn hk ⊢
  rcases hk with rfl | ⟨w, rfl⟩ | ⟨i, rfl⟩ | ⟨l, rfl⟩
  · exact absurd rfl hn
  all_goals simp [F_read_tree, q_run, b_read_tree, gIsi, tyD, kt1, e, gIs, Lc.isNon]
theorem read_no {wi : Bool} (hl : x.length ≤ 10000) (hc : x.cps.toList.count 40 < 40) (hn : whole (rd wi 40 x.cps.toList) = .non) : F_read_tree [.dt (.str x), .dt (.bl wi)] = .exc ⟨"InvalidText", [("line", .int 1)]⟩ [.dt (.str x), .dt (.bl wi)] := by
  have e := tree_in_ok (wi := wi) hl hc
  rw [hn] at e
  simp [F_read_tree, q_run, b_read_tree, gIsi, tyD, kt1, e, gIs, Lc.isNon, cRaise]
theorem told_str (hl : x.length ≤ 10000) (hc : x.cps.toList.count 40 < 40) {k : Int} {wi : Bool} (hk : (k = 0 ∧ wi = false) ∨ (k = 1 ∧ wi = true)) : F__law_told [.dt (.int k), .dt (.str x)] = .ok (.dt (.str (tv (whole (rd wi 40 x.cps.toList))).shown)) [.dt (.int k), .dt (.str x)] := by
  obtain ⟨hr, _⟩ := tv_repr (res_gd (x := x) (wi := wi) hl)
  have hkd := res_kd (x := x) (wi := wi)
  by_cases hn : whole (rd wi 40 x.cps.toList) = .non
  · have e := read_no hl hc hn
    rw [hn] at hr ⊢
    have hr' : gRepr [.lst [.str "refused", .int 1, .bl true]] = some (.dt (.str (tv .non).shown)) := hr
    rcases hk with ⟨rfl, rfl⟩ | ⟨rfl, rfl⟩
    · have e2 : F_read_shape [.dt (.str x)] = .exc ⟨"InvalidText", [("line", .int 1)]⟩ [.dt (.str x)] := by simp [F_read_shape, q_run, b_read_shape, e]
      simp [F__law_told, q_run, b__law_told, q_try, e2, szs, ct1, cIsE, it1, it2, it3, cXf, lkl, clearI, Rho.clr, collapse_const, hr']
    · have e2 : F_read_pattern [.dt (.str x)] = .exc ⟨"InvalidText", [("line", .int 1)]⟩ [.dt (.str x)] := by simp [F_read_pattern, q_run, b_read_pattern, e]
      simp [F__law_told, q_run, b__law_told, q_try, e2, szs, ct1, cIsE, it1, it2, it3, cXf, lkl, clearI, Rho.clr, collapse_const, hr']
  · have e := read_ok hl hc hn
    generalize whole (rd wi 40 x.cps.toList) = d at e hn hr hkd ⊢
    have hd : tv d = .lst [.str "told", d] := by cases d with | non => exact absurd rfl hn | _ => rfl
    rw [hd] at hr ⊢
    generalize (D.lst [.str "told", d]).shown = S at hr ⊢
    rcases hk with ⟨rfl, rfl⟩ | ⟨rfl, rfl⟩
    · have e2 : F_read_shape [.dt (.str x)] = .ok (.dt d) [.dt (.str x)] := by simp [F_read_shape, q_run, b_read_shape, e]
      simp [F__law_told, q_run, b__law_told, q_try, e2, szs, hr]
    · have e2 : F_read_pattern [.dt (.str x)] = .ok (.dt d) [.dt (.str x)] := by simp [F_read_pattern, q_run, b_read_pattern, e]
      simp [F__law_told, q_run, b__law_told, q_try, e2, szs, hr]
theorem eq_two (a b : Str) (ha : OkS a) (hb : OkS b) : gEq (.lst [.str a, .str b]) (.lst [.str a, .str b]) = some (.dt (.bl true)) ∧ gNe (.lst [.str a, .str b]) (.lst [.str a, .str b]) = some (.dt (.bl false)) := by
  have h1 : (D.lst [.str a, .str b]).deepOk = true := by simp [D.deepOk, D.flat, D.flats, D.py, D.pys, SeqAt.shaped, PyData.canLay0, PyData.canLayAll0, PyData.depth, PyData.depthAll, ok_strOk ha, ok_strOk hb]
  have h2 : (D.lst [.str a, .str b]).py.eqv (D.lst [.str a, .str b]).py = true := by
    simp [D.py, D.pys, PyData.eqv, PyData.eqvAll]
  exact ⟨by simp [gEq, D.eq, h1, h2], by simp [gNe, D.eq, h1, h2]⟩
/-- one turn of the dues -/
theorem due_step {k : Int} {wi : Bool} {acc : List D} {s3 : Option D} (hl : x.length ≤ 10000) (hc : x.cps.toList.count 40 < 40) (hk : (k == 1) = wi) (ha : acc.length < 100) :
    ∃ s3', x__law_read_right_2 ⟨[some (.dt (.str x)), some (.own (.lst acc)), some (.dt (.int k)), s3.map Sl.dt], [.dt (.str x)], []⟩ = .ok .next ⟨[some (.dt (.str x)), some (.own (.lst (acc ++ [.str (tv (whole (rd wi 40 x.cps.toList))).shown]))), some (.dt (.int k)), Option.map Sl.dt s3'], [.dt (.str x)], []⟩ := by
  have e := law_read_ok (wi := wi) hl hc
  obtain ⟨hr, _⟩ := tv_repr (res_gd (x := x) (wi := wi) hl)
  have hkd := res_kd (x := x) (wi := wi)
  have hal : acc.length < 16777216 := by omega
  generalize whole (rd wi 40 x.cps.toList) = d at e hr hkd ⊢
  refine ⟨some d, ?_⟩
  rcases hkd with rfl | ⟨w, rfl⟩ | ⟨i, rfl⟩ | ⟨l, rfl⟩
  · have hr' : gRepr [.lst [.str "refused", .int 1, .bl true]] = some (.dt (.str (tv .non).shown)) := hr
    generalize (tv .non).shown = S at hr' ⊢
    simp [x__law_read_right_2, hk, e, gIs, Lc.isNon, szs, hr', hal, q_size]
  all_goals
    simp only [tv] at hr ⊢
    generalize D.shown _ = S at hr ⊢
    simp [x__law_read_right_2, hk, e, gIs, Lc.isNon, szs, hr, hal, q_size]
theorem read_right_ok (hl : x.length ≤ 10000) (hc : x.cps.toList.count 40 < 40) : F__law_read_right [.dt (.str x)] = .ok (.dt (.bl true)) [.dt (.str x)] := by
  have t0 := told_str hl hc (k := 0) (wi := false) (.inl ⟨rfl, rfl⟩)
  have t1 := told_str hl hc (k := 1) (wi := true) (.inr ⟨rfl, rfl⟩)
  have o0 := (tv_repr (res_gd (x := x) (wi := false) hl)).2
  have o1 := (tv_repr (res_gd (x := x) (wi := true) hl)).2
  obtain ⟨a1, d1⟩ := due_step (k := 0) (wi := false) (acc := []) (s3 := none) hl hc rfl (by decide)
  obtain ⟨a2, d2⟩ := due_step (k := 1) (wi := true) (acc := [.str (tv (whole (rd false 40 x.cps.toList))).shown]) (s3 := a1) hl hc rfl (by simp)
  generalize (tv (whole (rd false 40 x.cps.toList))).shown = S0 at t0 d1 d2 o0
  generalize (tv (whole (rd true 40 x.cps.toList))).shown = S1 at t1 d2 o1
  have e3 : x__law_read_right_3 ⟨[some (.dt (.str x)), some (.own (.lst [])), none, none], [.dt (.str x)], []⟩ = .ok .next ⟨[some (.dt (.str x)), some (.own (.lst [.str S0, .str S1])), some (.dt (.int 1)), a2.map Sl.dt], [.dt (.str x)], []⟩ := by
    have hi : (M.bind (cCons (cC (.int 2)) (M.ret [])) W.rng1) ⟨[some (.dt (.str x)), some (.own (.lst [])), none, none], [.dt (.str x)], []⟩ = .ok [.int 0, .int 1] ⟨[some (.dt (.str x)), some (.own (.lst [])), none, none], [.dt (.str x)], []⟩ := by
      simp [rngD, List.range_succ]
    simp only [x__law_read_right_3, cFor]
    rw [q_bind, hi]
    simp only [Option.map_none] at d1
    simp only [List.nil_append] at d1
    simp only [List.singleton_append] at d2
    simp [loopL, d1, d2]
  have hi : (M.bind (cCons (cC (.int 2)) (M.ret [])) W.rng1) ⟨[some (.dt (.str x)), some (.own (.lst [.str S0, .str S1])), some (.dt (.int 1)), a2.map Sl.dt], [.dt (.str x)], []⟩ = .ok [.int 0, .int 1] ⟨[some (.dt (.str x)), some (.own (.lst [.str S0, .str S1])), some (.dt (.int 1)), a2.map Sl.dt], [.dt (.str x)], []⟩ := by
    simp [rngD, List.range_succ]
  have e1 := cLc_map (own := [2]) (T := gN 2) (fe := cCall F__law_told (cCons (cVar 2) (cCons (cVar 0) (M.ret [])))) hi (by cases a2 <;> rfl) (fun d => match d with | .int i => if i = 0 then .str S0 else .str S1 | _ => .non) (by rw [q_size]; decide) fun q hq => by
    have hq2 : q = .int 0 ∨ q = .int 1 := by simpa using hq
    rcases hq2 with rfl | rfl
    · refine ⟨_, .dt (.str S0), ⟨[some (.dt (.str x)), some (.own (.lst [.str S0, .str S1])), some (.dt (.int 0)), a2.map Sl.dt], [.dt (.str x)], []⟩, _, rfl, ?_, rfl, rfl⟩
      simp [t0, up_map]
    · refine ⟨_, .dt (.str S1), ⟨[some (.dt (.str x)), some (.own (.lst [.str S0, .str S1])), some (.dt (.int 1)), a2.map Sl.dt], [.dt (.str x)], []⟩, _, rfl, ?_, rfl, rfl⟩
      simp [t1, up_map]
  have e2 : x__law_read_right_1 ⟨[some (.dt (.str x)), some (.own (.lst [.str S0, .str S1])), some (.dt (.int 1)), a2.map Sl.dt], [.dt (.str x)], []⟩ = .ok (.fresh (.lst [.str S0, .str S1])) ⟨[some (.dt (.str x)), some (.own (.lst [.str S0, .str S1])), some (.dt (.int 1)), a2.map Sl.dt], [.dt (.str x)], []⟩ := by
    refine e1.trans ?_
    simp
  have hq := (eq_two S0 S1 o0 o1).1
  have hq2 : gEq2 (.lst [.str S0, .str S1]) (.lst [.str S0, .str S1]) = some (.dt (.bl true)) := hq
  simp [F__law_read_right, q_run, b__law_read_right, e3, e2, hq2]
end
end Lw

set_option Elab.async false
set_option maxRecDepth 100000
set_option maxHeartbeats 4000000
set_option linter.unusedSimpArgs false
namespace Lw
open PySem L2 Lc
/-! ### spoiled texts -/
theorem cnt_take (l : List Nat) (n : Nat) : (l.take n).count 40 + (l.drop n).count 40 = l.count 40 := by
  rw [← List.count_append, List.take_append_drop]
theorem one_len {c : Nat} : (⟨#[c]⟩ : Str).length = 1 := rfl
theorem one_cps {c : Nat} : (⟨#[c]⟩ : Str).cps.toList = [c] := rfl
theorem one_cnt {c : Nat} : [c].count 40 ≤ 1 := by
  rw [List.count_singleton]; split <;> decide
/-- the way a text is spoiled at p with the sign ch -/
def spo (w : Int) (p : Nat) (ch : Nat) (y : Str) : Str :=
  if w = 0 then mkS (y.cps.toList.take p) ++ ⟨#[ch]⟩ ++ mkS (y.cps.toList.drop p)
  else if w = 1 then mkS (y.cps.toList.take p) ++ mkS (y.cps.toList.drop (p + 1))
  else mkS (y.cps.toList.take p) ++ ⟨#[ch]⟩ ++ mkS (y.cps.toList.drop (p + 1))
theorem spo_ok {w : Int} {p ch : Nat} {y : Str} : (spo w p ch y).length ≤ y.length + 1 ∧ (spo w p ch y).cps.toList.count 40 ≤ y.cps.toList.count 40 + 1 := by
  have hl : y.cps.toList.length = y.length := by rw [Array.length_toList]; rfl
  have h1 := cnt_take y.cps.toList p
  have h2 := cnt_take y.cps.toList (p + 1)
  have h3 : (y.cps.toList.drop (p + 1)).count 40 ≤ (y.cps.toList.drop p).count 40 := by
    rw [← List.drop_drop, List.drop_one]
    exact tail_cnt _
  have hc := one_cnt (c := ch)
  unfold spo
  split
  · refine ⟨?_, ?_⟩
    · rw [Str.length_append, Str.length_append, mkS_len, mkS_len, one_len, List.length_take, List.length_drop]; omega
    · rw [Str.cps_append, Str.cps_append, Array.toList_append, Array.toList_append, mkS_cps, mkS_cps, one_cps, List.count_append, List.count_append]; omega
  · split
    · refine ⟨?_, ?_⟩
      · rw [Str.length_append, mkS_len, mkS_len, List.length_take, List.length_drop]; omega
      · rw [Str.cps_append, Array.toList_append, mkS_cps, mkS_cps, List.count_append]; omega
    · refine ⟨?_, ?_⟩
      · rw [Str.length_append, Str.length_append, mkS_len, mkS_len, one_len, List.length_take, List.length_drop]; omega
      · rw [Str.cps_append, Str.cps_append, Array.toList_append, Array.toList_append, mkS_cps, mkS_cps, one_cps, List.count_append, List.count_append]; omega
def fS (c : Cn) (x y : Str) (s2 s3 s4 s5 : Option D) : Rho := ⟨[some (.bor 0), some (.dt (.str y)), s2.map Sl.dt, s3.map Sl.dt, s4.map Sl.dt, s5.map Sl.dt], [.own c, .dt (.str x)], []⟩
theorem spoil_step {c : Cn} {x y : Str} {s2 s3 s4 s5 : Option D} (hc : Rng c) (hy : y.length ≤ 5000) : ∃ y' c' s3' s4' s5', x__law_spoiled_1 (fS c x y s2 s3 s4 s5) = .ok .next (fS c' x y' s2 s3' s4' s5') ∧ y'.length ≤ y.length + 1 ∧ y'.cps.toList.count 40 ≤ y.cps.toList.count 40 + 1 ∧ Rng c' := by
  obtain ⟨m, c1, e1, m0, m1, hc1⟩ := draw_ok (n := (y.length : Int) + 1) hc (by omega) (by omega)
  obtain ⟨w, c2, e2, w0, w1, hc2⟩ := draw_ok (n := 3) hc1 (by decide) (by decide)
  obtain ⟨ch, c3, e3, _, hc3⟩ := choice_str (x := Str.ofString "abz0123(),,() .A-\n") hc2 (by decide +kernel) (by decide +kernel)
  obtain ⟨p, rfl⟩ : ∃ p : Nat, m = (p : Int) := ⟨m.toNat, by omega⟩
  have hy2 : y.length ≤ 16777216 := by omega
  have g1 : gSl2 (.str y) none (some (p : Int)) = some (.dt (.str (mkS (y.cps.toList.take p)))) := by
    simp only [gSl2, gSl, q_size, hy2, if_true, cutS_to, sD]
  have g2 : gSl2 (.str y) (some (p : Int)) none = some (.dt (.str (mkS (y.cps.toList.drop p)))) := by
    simp only [gSl2, gSl, q_size, hy2, if_true, cutS_from, sD]
  have g3 : gSl2 (.str y) (some ((p : Int) + 1)) none = some (.dt (.str (mkS (y.cps.toList.drop (p + 1))))) := by
    have e : cutS y (some ((p : Int) + 1)) none = mkS (y.cps.toList.drop (p + 1)) := by
      rw [show (p : Int) + 1 = ((p + 1 : Nat) : Int) by omega]; exact cutS_from
    simp only [gSl2, gSl, q_size, hy2, if_true, e, sD]
  have hl : y.cps.toList.length = y.length := by rw [Array.length_toList]; rfl
  have l1 : (mkS (y.cps.toList.take p)).length ≤ 5000 := by rw [mkS_len, List.length_take]; omega
  have l2 : (mkS (y.cps.toList.drop p)).length ≤ 5000 := by rw [mkS_len, List.length_drop]; omega
  have l3 : (mkS (y.cps.toList.drop (p + 1))).length ≤ 5000 := by rw [mkS_len, List.length_drop]; omega
  have lc : (⟨#[ch]⟩ : Str).length = 1 := rfl
  obtain ⟨k1, k2⟩ := spo_ok (w := w) (p := p) (ch := ch) (y := y)
  refine ⟨spo w p ch y, c3, some (.str ⟨#[ch]⟩), some (.int p), some (.int w), ?_, k1, k2, hc3⟩
  clear k1 k2
  unfold spo
  generalize mkS (y.cps.toList.take p) = A at g1 l1 ⊢
  generalize mkS (y.cps.toList.drop p) = B at g2 l2 ⊢
  generalize mkS (y.cps.toList.drop (p + 1)) = C at g3 l3 ⊢
  have z1 : A.length + 1 ≤ 16777216 := by omega
  have z2 : (A ++ (⟨#[ch]⟩ : Str)).length + B.length ≤ 16777216 := by rw [Str.length_append, lc]; omega
  have z3 : (A ++ (⟨#[ch]⟩ : Str)).length + C.length ≤ 16777216 := by rw [Str.length_append, lc]; omega
  have z4 : A.length + C.length ≤ 16777216 := by omega
  generalize (⟨#[ch]⟩ : Str) = S at e3 lc z2 z3 ⊢
  have hw : w = 0 ∨ w = 1 ∨ w = 2 := by omega
  rcases hw with rfl | rfl | rfl
  · simp [x__law_spoiled_1, fS, up_map, gLen, hy2, gAdd2, gAdd, e1, e2, e3, g1, g2, lc, z1, z2, q_size]
  · simp [x__law_spoiled_1, fS, up_map, gLen, hy2, gAdd2, gAdd, e1, e2, e3, g1, g3, z4, q_size]
  · simp [x__law_spoiled_1, fS, up_map, gLen, hy2, gAdd2, gAdd, e1, e2, e3, g1, g3, lc, z1, z3, q_size]
theorem spoil_ok {c : Cn} {x : Str} (hc : Rng c) (hx : x.length ≤ 1000) : ∃ y c', F__law_spoiled [.own c, .dt (.str x)] = .ok (.dt (.str y)) [.own c', .dt (.str x)] ∧ y.length ≤ x.length + 3 ∧ y.cps.toList.count 40 ≤ x.cps.toList.count 40 + 3 ∧ Rng c' := by
  obtain ⟨m, c1, e1, m0, m1, hc1⟩ := draw_ok (n := 3) hc (by decide) (by decide)
  have hi : (M.bind (cCons (cOp2 gAdd2 (cC (.int 1)) (cCall F__law_draw (cCons (cVar 0) (cCons (cC (.int 3)) (M.ret []))))) (M.ret [])) W.rng1) (fS c x x none none none none) = .ok (rngD 0 (1 + m).toNat) (fS c1 x x none none none none) := by
    have z : -4611686018427387904 ≤ 1 + m ∧ 1 + m < 4611686018427387904 := by omega
    simp [fS, e1, gAdd2, gAdd, z]
  obtain ⟨r', e2, y, c2, s2, s3, s4, s5, rfl, h1, h2, hc2⟩ := cFor_ix (T := gN 2) (body := x__law_spoiled_1) hi (fun i r => ∃ (y : Str) (c : Cn) (s2 s3 s4 s5 : Option D), r = fS c x y s2 s3 s4 s5 ∧ y.length ≤ x.length + i ∧ y.cps.toList.count 40 ≤ x.cps.toList.count 40 + i ∧ Rng c)
    ⟨x, c1, none, none, none, none, rfl, by omega, by omega, hc1⟩ fun i d hd r ⟨y, c, s2, s3, s4, s5, hr, h1, h2, hc⟩ => by
      subst hr
      have hi' : i < 3 := by
        have := (List.getElem?_eq_some_iff.mp hd).1
        simp [rngD] at this
        omega
      obtain ⟨y', c', s3', s4', s5', e, k1, k2, hc'⟩ := spoil_step (x := x) (s2 := some d) (s3 := s3) (s4 := s4) (s5 := s5) hc (show y.length ≤ 5000 by omega)
      exact ⟨fS c x y (some d) s3 s4 s5, _, rfl, e, y', c', some d, s3', s4', s5', rfl, by omega, by omega, hc'⟩
  have hn : (rngD 0 (1 + m).toNat).length ≤ 3 := by simp [rngD]; omega
  refine ⟨y, c2, ?_, by omega, by omega, hc2⟩
  have e3 : x__law_spoiled_2 ⟨[some (.bor 0), some (.dt (.str x)), none, none, none, none], [.own c, .dt (.str x)], []⟩ = _ := e2
  unfold fS at e3
  simp [F__law_spoiled, q_run, b__law_spoiled, e3]
/-! ### values of other kinds -/
theorem tx_odd {d : D} (h : gIsi2 xdTL isaT [d, .ty "str"] = some (.dt (.bl false))) (wi : Bool) : F_read_tree [.dt d, .dt (.bl wi)] = .exc ⟨"InvalidText", [("line", .int 0)]⟩ [.dt d, .dt (.bl wi)] := by
  simp [F_read_tree, q_run, b_read_tree, h, cRaise]
theorem rf0 : gRepr [.lst [.str "refused", .int 0, .bl true]] = some (.dt (.str (rfD 0).shown)) := repr_of ((rf_gd 0 (rf_small 0 (.inl rfl))).rok (by decide) (by decide))
theorem rf0_ok : OkS (rfD 0).shown := shown_ok _ ((rf_gd 0 (rf_small 0 (.inl rfl))).all (by decide)).okc
theorem told_odd {d : D} (h : gIsi2 xdTL isaT [d, .ty "str"] = some (.dt (.bl false))) {k : Int} (hk : k = 0 ∨ k = 1) : F__law_told [.dt (.int k), .dt d] = .ok (.dt (.str (rfD 0).shown)) [.dt (.int k), .dt d] := by
  have hr := rf0
  generalize (rfD 0).shown = S at hr ⊢
  rcases hk with rfl | rfl
  · have e2 : F_read_shape [.dt d] = .exc ⟨"InvalidText", [("line", .int 0)]⟩ [.dt d] := by simp [F_read_shape, q_run, b_read_shape, tx_odd h]
    simp [F__law_told, q_run, b__law_told, q_try, e2, szs, ct1, cIsE, it1, it2, it3, cXf, lkl, clearI, Rho.clr, collapse_const, hr]
  · have e2 : F_read_pattern [.dt d] = .exc ⟨"InvalidText", [("line", .int 0)]⟩ [.dt d] := by simp [F_read_pattern, q_run, b_read_pattern, tx_odd h]
    simp [F__law_told, q_run, b__law_told, q_try, e2, szs, ct1, cIsE, it1, it2, it3, cXf, lkl, clearI, Rho.clr, collapse_const, hr]
def badC : List D := [.non, .bl true, .int 3, .int (-1), .str (Str.ofString ""), .str (Str.ofString "A"), .lst [], .dct [], .tup [.str (Str.ofString "a")], .lst [.str (Str.ofString "a"), .str (Str.ofString "b")]]
theorem badC_all : badC.all (fun x => gdB 6 60 x && !tr 40 true x) = true := by decide +kernel
theorem refused_ok {d : D} (h : d ∈ badC) : F__law_is_pattern_refused [.dt d] = .ok (.dt (.bl true)) [.dt d] := by
  have h2 := List.all_eq_true.mp badC_all d h
  simp only [Bool.and_eq_true, Bool.not_eq_true'] at h2
  have g := gd_by h2.1
  have hT := ((g.mono (show 6 ≤ 40 by decide) (Nat.le_refl _)).all (by decide)).th
  have e := reqp_no hT h2.2
  have e2 : F_pattern_text [.dt d] = .exc ⟨"InvalidPattern", [("value", d)]⟩ [.dt d] := by
    simp [F_pattern_text, q_run, b_pattern_text, e]
  have r : (D.lst [.str "refused", d, .bl true]).rok = true := Gd.rok (n := 7) (s := 64) (.lst (.cons (s1 := 1) (s2 := 61) (.str (wd_lit (by decide +kernel))) (.cons g (.cons (s1 := 1) (.bl (n := 5) (s := 0) true) (.nil (s := 0)) (Nat.le_refl _)) (by decide)) (by decide))) (by decide) (by decide)
  have hr := repr_of r
  generalize (D.lst [.str "refused", d, .bl true]).shown = S at hr
  simp [F__law_is_pattern_refused, q_run, b__law_is_pattern_refused, q_try, e2, szs, ct2, cIsE, ip1, ip2, cXf, lkv, clearI, Rho.clr, collapse_const, hr]
/-! ### the turns -/
def fL (ns : List Int) (k : Int) (c : Cn) (s3 s4 s5 : Option D) (s6 : Option D) : Rho := ⟨[some (.dt (.scr ns)), some (.dt (.int k)), some (.own c), s3.map Sl.dt, s4.map Sl.dt, s5.map Sl.dt, s6.map Sl.dt, none], [.dt (.scr ns)], []⟩
theorem turn_ok {ns : List Int} {k : Int} {c : Cn} {s3 s4 s5 s6 : Option D} (hc : Rng c) : ∃ c' s4' s5' s6', x_law_2 (fL ns k c s3 s4 s5 s6) = .ok .next (fL ns k c' s3 s4' s5' s6') ∧ Rng c' := by
  obtain ⟨b, d, c1, e1, hT, hlen, hcnt, hc1⟩ := deep_ok hc
  have ht := tb_le b
  have e2 := ptext_ok ht hT (show 19 ≤ 40 by decide) (by omega)
  have hxl : (mkS (txt 19 d)).length ≤ 535 := by rw [mkS_len]; exact hlen
  have hxc : (mkS (txt 19 d)).cps.toList.count 40 ≤ 28 := by rw [mkS_cps]; exact hcnt
  have erd : rd true 40 (mkS (txt 19 d)).cps.toList = some (d, []) := by
    have := rd_txt (wi := true) ht (fun _ => rfl) (n := 40) (r := []) hT sep_nil (by omega)
    rw [List.append_nil] at this
    exact this
  have g := rd_gd _ _ _ _ erd
  have hgl : (mkS (txt 19 d)).cps.toList.length ≤ 535 := by rw [mkS_cps]; exact hlen
  have g2 : Gd 40 535 d := g.mono (Nat.le_refl _) (by simp only [List.length_nil]; omega)
  have hth := (g2.all (by decide)).th
  have etr : tr 40 true d = true := Tr.tr ht (hT.le (show 19 ≤ 40 by decide))
  have e3 : F_pattern_text [.dt d] = .ok (.dt (.str (mkS (txt 19 d)))) [.dt d] := by
    have q1 := reqp_yes hth etr
    have q2 := e2
    rw [← tt_eq] at q2
    simp [F_pattern_text, q_run, b_pattern_text, q1, q2]
  have hwd : whole (rd true 40 (mkS (txt 19 d)).cps.toList) = d := by rw [erd]; rfl
  have hdn : d ≠ .non := fun z => by subst z; exact hT.elim
  generalize hx : mkS (txt 19 d) = x at e2 hxl hxc erd e3 hwd
  have e4 := read_right_ok (x := x) (by omega) (by omega)
  have e5 : F_read_pattern [.dt (.str x)] = .ok (.dt d) [.dt (.str x)] := by
    have := read_ok (x := x) (wi := true) (by omega) (by omega) (by rw [hwd]; exact hdn)
    rw [hwd] at this
    simp [F_read_pattern, q_run, b_read_pattern, this]
  have hrd := repr_of (g2.rok (by decide) (by decide))
  obtain ⟨y, c2, e6, hy1, hy2, hc2⟩ := spoil_ok (x := x) hc1 (by omega)
  have e7 := read_right_ok (x := y) (by omega) (by omega)
  obtain ⟨o, c3, e8, ho, hc3⟩ := choice_ok (l := [.non, .int 0, .bl true, .lst [], .dct [], .tup [], .tup [.str (Str.ofString "a")], .lst [.str x], .tup [d, .str (Str.ofString "a")], .lst [.str (Str.ofString "a"), .str (Str.ofString "b")], .int (-1), .int 3]) hc2 (by simp) (by simp)
  have hoi : gIsi2 xdTL isaT [o, .ty "str"] = some (.dt (.bl false)) := by
    simp only [List.mem_cons, List.not_mem_nil, or_false] at ho
    rcases ho with rfl | rfl | rfl | rfl | rfl | rfl | rfl | rfl | rfl | rfl | rfl | rfl <;> simp [gIsi, tyD, kt2, kt3, kt4, kt5, kt6, kt7]
  obtain ⟨z, c4, e9, hz, hc4⟩ := choice_ok (l := badC) hc3 (by decide) (by decide)
  have e10 := refused_ok hz
  have hi : (M.bind (cCons (cC (.int 2)) (M.ret [])) W.rng1) (fL ns k c3 s3 (some d) (some (.str x)) (some o)) = .ok [.int 0, .int 1] (fL ns k c3 s3 (some d) (some (.str x)) (some o)) := by
    simp [rngD, List.range_succ, fL]
  have f1 := cLc_map (own := [7]) (T := gN 7) (fe := cCall F__law_told (cCons (cVar 7) (cCons (cVar 6) (M.ret [])))) hi (by cases s3 <;> rfl) (fun _ => .str (rfD 0).shown) (by rw [q_size]; decide) fun q hq => by
    have hq2 : q = .int 0 ∨ q = .int 1 := by simpa using hq
    have ek : ∃ j : Int, q = .int j ∧ (j = 0 ∨ j = 1) := by
      rcases hq2 with rfl | rfl
      · exact ⟨0, rfl, .inl rfl⟩
      · exact ⟨1, rfl, .inr rfl⟩
    obtain ⟨j, rfl, hj⟩ := ek
    have t0 := told_odd hoi hj
    generalize (rfD 0).shown = S at t0 ⊢
    refine ⟨_, .dt (.str S), ⟨[some (.dt (.scr ns)), some (.dt (.int k)), some (.own c3), s3.map Sl.dt, some (.dt d), some (.dt (.str x)), some (.dt o), some (.dt (.int j))], [.dt (.scr ns)], []⟩, _, rfl, ?_, rfl, rfl⟩
    simp [fL, t0, up_map]
  have f2 : x_law_1 ⟨[some (.dt (.scr ns)), some (.dt (.int k)), some (.own c3), s3.map Sl.dt, some (.dt d), some (.dt (.str x)), some (.dt o), none], [.dt (.scr ns)], []⟩ = .ok (.fresh (.lst [.str (rfD 0).shown, .str (rfD 0).shown])) ⟨[some (.dt (.scr ns)), some (.dt (.int k)), some (.own c3), s3.map Sl.dt, some (.dt d), some (.dt (.str x)), some (.dt o), none], [.dt (.scr ns)], []⟩ := by
    refine f1.trans ?_
    simp [fL]
  have hq := (eq_two (rfD 0).shown (rfD 0).shown rf0_ok rf0_ok).2
  have hrf := rf0
  generalize (rfD 0).shown = S at hq hrf f2
  have hq2 : gNe2 (.lst [.str S, .str S]) (.lst [.str S, .str S]) = some (.dt (.bl false)) := hq
  unfold badC at e9
  generalize d.shown = SD at hrd
  refine ⟨c4, some d, some (.str x), some o, ?_, hc4⟩
  simp [x_law_2, fL, up_map, e1, e2, e3, e4, e5, hrd, e6, e7, e8, szs, f2, hrf, gMul2, gMul, gRepL, hq2, gNeg, e9, e10, q_size]
theorem holds : ∀ ns : List Int, ns.length ≤ 63 → ∃ bs, F_law [.dt (.scr ns)] = .ok (.dt (.bl true)) bs := fun ns hns => by
  refine ⟨[.dt (.scr ns)], ?_⟩
  obtain ⟨k, hk, h1, h3⟩ : ∃ k : Int, (if (if (6 : Int) < (ns.length : Int) then (6 : Int) else (ns.length : Int)) > 1 then (if (6 : Int) < (ns.length : Int) then (6 : Int) else (ns.length : Int)) else 1) = k ∧ 1 ≤ k ∧ k ≤ 6 := ⟨_, rfl, by split <;> (try split) <;> omega, by split <;> (try split) <;> omega⟩
  have hi : (M.bind (cCons (cCallP gMaxL (cCons (cC (.int 1)) (cCons (cCallP gMin (cCons (cCallP gLen (cCons (cVar 0) (M.ret []))) (cCons (cC (.int 6)) (M.ret [])))) (M.ret [])))) (M.ret [])) W.rng1) ⟨[some (.dt (.scr ns)), none, none, none, none, none, none, none], [.dt (.scr ns)], []⟩ = .ok (rngD 0 k.toNat) ⟨[some (.dt (.scr ns)), none, none, none, none, none, none, none], [.dt (.scr ns)], []⟩ := by
    have z : -4611686018427387904 ≤ k ∧ k < 4611686018427387904 := by omega
    simp [gLen, gMin, gMaxL, gMax, hk, z]
  obtain ⟨r', e2, hr'⟩ := cFor_ix (T := gN 1) (body := x_law_4) hi (fun i r => (i = 0 ∧ r = ⟨[some (.dt (.scr ns)), none, none, none, none, none, none, none], [.dt (.scr ns)], []⟩) ∨ ∃ k c s3 s4 s5 s6, r = fL ns k c s3 s4 s5 s6)
    (.inl ⟨rfl, rfl⟩) fun i d hd r hr => by
      obtain ⟨j, hj, rfl⟩ : ∃ j : Nat, j < 6 ∧ d = .int j := by
        have := List.mem_of_getElem? hd
        simp only [rngD, List.mem_map, List.mem_range] at this
        obtain ⟨j, hj, rfl⟩ := this
        exact ⟨j, by omega, by simp⟩
      obtain ⟨c, e1, hc⟩ := rng_ok (ns := ns) (k := j) (by omega) hns
      have turns : ∀ (c : Cn) (s3 s4 s5 s6 : Option D), Rng c → ∃ r', x_law_3 (fL ns j c s3 s4 s5 s6) = .ok .next r' ∧ ∃ k c s3 s4 s5 s6, r' = fL ns k c s3 s4 s5 s6 := fun c s3 s4 s5 s6 hc => by
        have hi4 : (M.bind (cCons (cC (.int 4)) (M.ret [])) W.rng1) (fL ns j c s3 s4 s5 s6) = .ok (rngD 0 4) (fL ns j c s3 s4 s5 s6) := by
          simp [fL]
        obtain ⟨r', e, c', s3', s4', s5', s6', rfl, _⟩ := cFor_ix (T := gN 3) (body := x_law_2) hi4 (fun i r => ∃ c s3 s4 s5 s6, r = fL ns j c s3 s4 s5 s6 ∧ Rng c) ⟨c, s3, s4, s5, s6, rfl, hc⟩ fun i d _ r ⟨c, s3, s4, s5, s6, hr, hc⟩ => by
          subst hr
          obtain ⟨c', s4', s5', s6', e, hc'⟩ := turn_ok (ns := ns) (k := j) (s3 := some d) (s4 := s4) (s5 := s5) (s6 := s6) hc
          exact ⟨fL ns j c (some d) s4 s5 s6, _, rfl, e, c', some d, s4', s5', s6', rfl, hc'⟩
        exact ⟨_, e, _, _, _, _, _, _, rfl⟩
      rcases hr with ⟨_, rfl⟩ | ⟨k0, c0, s3, s4, s5, s6, rfl⟩
      · obtain ⟨r', e3, h⟩ := turns c none none none none hc
        refine ⟨_, r', rfl, ?_, .inr h⟩
        unfold fL at e3
        simp only [Option.map_none] at e3
        simp [x_law_4, e1, e3]
      · obtain ⟨r', e3, h⟩ := turns c s3 s4 s5 s6 hc
        refine ⟨fL ns j c0 s3 s4 s5 s6, r', rfl, ?_, .inr h⟩
        unfold fL at e3 ⊢
        simp [x_law_4, up_map, e1, e3]
  have e3 : x_law_5 ⟨[some (.dt (.scr ns)), none, none, none, none, none, none, none], [.dt (.scr ns)], []⟩ = .ok .next r' := e2
  have hb : r'.bor = [.dt (.scr ns)] ∧ r'.st = [] := by
    rcases hr' with ⟨_, rfl⟩ | ⟨k0, c0, s3, s4, s5, s6, rfl⟩
    · exact ⟨rfl, rfl⟩
    · exact ⟨rfl, rfl⟩
  simp [F_law, q_run, b_law, e3, hb.1, hb.2]
end Lw

open PySem PySem.W PySem.Calls PyProof.Rows
theorem PySem.Challenge.cw_leastcopies_k14_whole_texts_of_shapes_holds : PySem.Challenge.rw_leastcopies_k14_whole_texts_of_shapes.Holds := by
  w_on; o_law
  refine HandSHeadRun.head_any (r := OpenLaw.row PySem.Challenge.rw_leastcopies_k14_whole_texts_of_shapes) (q := view (OpenLaw.row PySem.Challenge.rw_leastcopies_k14_whole_texts_of_shapes).prog [40]) (H := Lw.hk) (ob := Lw.ob) (M := 20000) (loose := [PySem.Str.ofString "__name__", PySem.Str.ofString "CopyError", PySem.Str.ofString "InvalidShape", PySem.Str.ofString "InvalidPattern", PySem.Str.ofString "InvalidText", PySem.Str.ofString "InvalidCommand", PySem.Str.ofString "LETTERS", PySem.Str.ofString "LONGEST_NAME", PySem.Str.ofString "is_name", PySem.Str.ofString "is_integer", PySem.Str.ofString "MOST_ARGUMENTS", PySem.Str.ofString "INDEXES", PySem.Str.ofString "is_index", PySem.Str.ofString "is_tree", PySem.Str.ofString "is_pattern", PySem.Str.ofString "require_pattern", PySem.Str.ofString "tree_text", PySem.Str.ofString "pattern_text", PySem.Str.ofString "leaf_at", PySem.Str.ofString "closed", PySem.Str.ofString "tree_in", PySem.Str.ofString "read_tree", PySem.Str.ofString "read_shape", PySem.Str.ofString "read_pattern", PySem.Str.ofString "_law_rng", PySem.Str.ofString "_law_draw", PySem.Str.ofString "_law_choice", PySem.Str.ofString "_law_pattern_text", PySem.Str.ofString "_law_word", PySem.Str.ofString "_law_tree", PySem.Str.ofString "_law_deep", PySem.Str.ofString "_law_spoiled", PySem.Str.ofString "_law_read_at", PySem.Str.ofString "_law_read", PySem.Str.ofString "_law_told", PySem.Str.ofString "_law_read_right", PySem.Str.ofString "_law_is_pattern_refused"])
    (d := HandSHeadRun.topDef (OpenLaw.row PySem.Challenge.rw_leastcopies_k14_whole_texts_of_shapes).prog 40) (kwd := []) Lw.ob_eq
    (by kernel_rfl) (fun s => by kernel_rfl) Lw.run (by kernel_rfl) (by kernel_rfl) (by kernel_rfl) (by rfl) (by first | assumption | decide +kernel)
    (by decide +kernel) ⟨rfl, rfl, rfl, rfl, rfl, by decide +kernel⟩ ?hw ?hc
  case hw => w_witness2
  case hc =>
    refine Lc.walk_ofG (l := PySem.Challenge.rw_leastcopies_k14_whole_texts_of_shapes) (n := 63) (k := 48) (x := "_law_script") rfl (by decide) (by kernel_rfl) ⟨rfl, by decide, by decide⟩ ?F
    intro w mg fl h Y G hmg0
    obtain ⟨K, KX, c⟩ := Y
    have hmg : mg ("law" : PySem.Str) = some (.ref fl) := by
      have e : (HandSHeadRun.topDef (OpenLaw.row PySem.Challenge.rw_leastcopies_k14_whole_texts_of_shapes).prog 40).name = ("law" : PySem.Str) := by kernel_rfl
      rw [← e]
      exact hmg0
    obtain ⟨fd, hb, hF⟩ := Lw.facts (w := w) KX G hmg c
    exact ⟨K, fd, Lw.F_law, KX, hb, Lw.holds, hF⟩
