import PyProof.Rows.All
import Wide.All
import OpenK.AllK
import Wide.FinOn
import HandS.ForMost
import HandS.Evl
import HandS.Lambda
import HandS.ExcOwn
import HandS.IsInst
import HandS.RaiseMore
import HandS.Wide
import HandS.StrMore
import HandS.TupAny
import HandS.Flow
import PyProof.ReprRoads
import PyProof.StrBlock2
import HandS.ExcIs
import HandS.DictComp
import PyProof.Rows.TupDisplay
import HandS.ExcValue
import HandS.EndTab
import HandS.Text
import PyProof.StrLawsRepr
import PyProof.StrLawsChain
import HandS.Codes
import HandS.Head0
import HandS.Head1
import HandS.Head2
import HandS.HeadEnd
import HandS.HeadHook1
import HandS.HeadHook2
import HandS.HeadHook3
import HandS.HeadHook4
import HandS.NestedK
import PySem.Challenge.RW_everyfind_k87_lines_of_texts
set_option Elab.async false
set_option linter.all false
set_option maxRecDepth 100000
set_option maxHeartbeats 4000000
namespace DV
open PySem PySem.Spec PyProof.Rows L2
open Evl (Ex)

/-! ### plain data -/
inductive D where
  | non
  | bl (b : Bool)
  | int (i : Int)
  | str (s : PySem.Str)
  | lst (xs : List D)
  | tup (xs : List D)
  | dct (ks vs : List D)
  | exc (c : PySem.Str) (ns : List PySem.Str) (vs : List D)
  | hid (n : Nat)
deriving Inhabited

/-- no address in it that matters -/
def D.flat : D → Bool
  | .non => true
  | .bl _ => true
  | .int _ => true
  | .str _ => true
  | .hid _ => true
  | _ => false

structure Tx where
  K : PySem.W.Frag
  mg : PySem.Str → Option Value
  hid : Nat → Addr

def kD : Key → D
  | .inl i => .int i
  | .inr s => .str s

/-- an exception object that is kept -/
def XcO (C : Addr) (d : Option Addr) (a : Addr) : HO := .ext fun h => ∃ (oe : Obj) (vs : Array Value), h.get? a = some oe ∧ Zc (.ref C) d oe ∧ oe.data = .fields vs

mutual
inductive Rp (T : Tx) (H : Hp) : V → D → Prop
  | non : Rp T H .non .non
  | bl (b : Bool) : Rp T H (.bl b) (.bl b)
  | int (i : Int) : Rp T H (.int i) (.int i)
  | str (s : PySem.Str) : Rp T H (.str s) (.str s)
  | lst {a : Addr} {xs : List V} {ds : List D} : SqL T.K H a xs → RpA T H xs ds → Rp T H (.ref a) (.lst ds)
  | tup {a : Addr} {xs : List V} {ds : List D} : SqT T.K H a xs → RpA T H xs ds → Rp T H (.ref a) (.tup ds)
  | dct {a : Addr} {kvs : List (Key × V)} {ks vs : List D} : Rd H a (.dK kvs) → ks = kvs.map (fun p => kD p.1) → RpA T H (kvs.map fun p => p.2) vs → Rp T H (.ref a) (.dct ks vs)
  | exc0 {a C : Addr} {c : PySem.Str} : T.mg c = some (.ref C) → H a = some (XcO C none a) → Rp T H (.ref a) (.exc c [] [])
  | exc1 {a C dd : Addr} {c : PySem.Str} {fs : List (PySem.Str × V)} {ns : List PySem.Str} {vs : List D} : T.mg c = some (.ref C) → H a = some (XcO C (some dd) a) → H dd = some (.xd fs) → fs ≠ [] → ns = fs.map (fun p => p.1) →
      RpA T H (fs.map fun p => p.2) vs → Rp T H (.ref a) (.exc c ns vs)
  | hid (n : Nat) : Rp T H (.ref (T.hid n)) (.hid n)
inductive RpA (T : Tx) (H : Hp) : List V → List D → Prop
  | nil : RpA T H [] []
  | cons {v : V} {vs : List V} {d : D} {ds : List D} : Rp T H v d → RpA T H vs ds → RpA T H (v :: vs) (d :: ds)
end

mutual
theorem Rp.mono {T : Tx} {H H' : Hp} (e : Ex H H') : ∀ {v : V} {d : D}, Rp T H v d → Rp T H' v d
  | _, _, .non => .non
  | _, _, .bl b => .bl b
  | _, _, .int i => .int i
  | _, _, .str s => .str s
  | _, _, .lst h hs => .lst (Evl.ex_l e h) (RpA.mono e hs)
  | _, _, .tup h hs => .tup (Evl.ex_t e h) (RpA.mono e hs)
  | _, _, .dct h q hs => .dct (Evl.ex_rd e h) q (RpA.mono e hs)
  | _, _, .exc0 h1 h2 => .exc0 h1 (e _ _ h2)
  | _, _, .exc1 h1 h2 h3 hn h4 hs => .exc1 h1 (e _ _ h2) (e _ _ h3) hn h4 (RpA.mono e hs)
  | _, _, .hid n => .hid n
theorem RpA.mono {T : Tx} {H H' : Hp} (e : Ex H H') : ∀ {vs : List V} {ds : List D}, RpA T H vs ds → RpA T H' vs ds
  | _, _, .nil => .nil
  | _, _, .cons h hs => .cons (Rp.mono e h) (RpA.mono e hs)
end
theorem Rp.flat {T : Tx} {H : Hp} (H' : Hp) {v : V} {d : D} (hf : d.flat = true) (h : Rp T H v d) : Rp T H' v d := by
  cases h with
  | non => exact .non
  | bl b => exact .bl b
  | int i => exact .int i
  | str s => exact .str s
  | hid n => exact .hid n
  | lst _ _ => cases hf
  | tup _ _ => cases hf
  | dct _ _ _ => cases hf
  | exc0 _ _ => cases hf
  | exc1 _ _ _ _ _ _ => cases hf
theorem RpA.flat {T : Tx} {H : Hp} (H' : Hp) : ∀ {vs : List V} {ds : List D}, ds.all D.flat = true → RpA T H vs ds → RpA T H' vs ds
  | _, _, _, .nil => .nil
  | _, _, hf, .cons h hs => by
    rw [List.all_cons, Bool.and_eq_true] at hf
    exact .cons (h.flat H' hf.1) (hs.flat H' hf.2)
theorem RpA.length {T : Tx} {H : Hp} : ∀ {vs : List V} {ds : List D}, RpA T H vs ds → vs.length = ds.length
  | _, _, .nil => rfl
  | _, _, .cons _ hs => by rw [List.length_cons, List.length_cons, hs.length]
theorem RpA.append {T : Tx} {H : Hp} : ∀ {vs us : List V} {ds es : List D}, RpA T H vs ds → RpA T H us es → RpA T H (vs ++ us) (ds ++ es)
  | _, _, _, _, .nil, h => h
  | _, _, _, _, .cons h hs, h' => .cons h (hs.append h')
theorem RpA.get {T : Tx} {H : Hp} : ∀ {vs : List V} {ds : List D} {i : Nat} {v : V}, RpA T H vs ds → vs[i]? = some v → ∃ d, ds[i]? = some d ∧ Rp T H v d
  | _, _, _, _, .nil, e => by simp at e
  | _, _, 0, _, .cons h _, e => by simp at e; subst e; exact ⟨_, rfl, h⟩
  | _, _, i + 1, v, .cons _ hs, e => by
    obtain ⟨d, h1, h2⟩ := hs.get (i := i) (v := v) (by simpa using e)
    exact ⟨d, by simpa using h1, h2⟩
theorem RpA.getD {T : Tx} {H : Hp} : ∀ {vs : List V} {ds : List D} {i : Nat} {d : D}, RpA T H vs ds → ds[i]? = some d → ∃ v, vs[i]? = some v ∧ Rp T H v d
  | _, _, _, _, .nil, e => by simp at e
  | _, _, 0, _, .cons h _, e => by simp at e; subst e; exact ⟨_, rfl, h⟩
  | _, _, i + 1, v, .cons _ hs, e => by
    obtain ⟨d, h1, h2⟩ := hs.getD (i := i) (d := v) (by simpa using e)
    exact ⟨d, by simpa using h1, h2⟩
theorem RpA.take {T : Tx} {H : Hp} : ∀ {vs : List V} {ds : List D} (n : Nat), RpA T H vs ds → RpA T H (vs.take n) (ds.take n)
  | _, _, 0, _ => .nil
  | _, _, _ + 1, .nil => .nil
  | _, _, n + 1, .cons h hs => .cons h (hs.take n)
theorem RpA.drop {T : Tx} {H : Hp} : ∀ {vs : List V} {ds : List D} (n : Nat), RpA T H vs ds → RpA T H (vs.drop n) (ds.drop n)
  | _, _, 0, h => h
  | _, _, _ + 1, .nil => .nil
  | _, _, n + 1, .cons _ hs => hs.drop n
theorem RpA.set {T : Tx} {H : Hp} {v : V} {d : D} (q : Rp T H v d) : ∀ {vs : List V} {ds : List D} (n : Nat), RpA T H vs ds → RpA T H (vs.set n v) (ds.set n d)
  | _, _, _, .nil => .nil
  | _, _, 0, .cons _ hs => .cons q hs
  | _, _, n + 1, .cons h hs => .cons h (RpA.set q n hs)
theorem RpA.reverse {T : Tx} {H : Hp} : ∀ {vs : List V} {ds : List D}, RpA T H vs ds → RpA T H vs.reverse ds.reverse
  | _, _, .nil => .nil
  | _, _, .cons h hs => by
    rw [List.reverse_cons, List.reverse_cons]
    exact hs.reverse.append (.cons h .nil)
theorem RpA.ints {T : Tx} {H : Hp} : ∀ (ns : List Int), RpA T H (ns.map V.int) (ns.map D.int)
  | [] => .nil
  | n :: r => .cons (.int n) (RpA.ints r)
theorem RpA.strs {T : Tx} {H : Hp} : ∀ (ns : List PySem.Str), RpA T H (ns.map V.str) (ns.map D.str)
  | [] => .nil
  | n :: r => .cons (.str n) (RpA.strs r)
theorem RpA.strs_inv {T : Tx} {H : Hp} : ∀ {ns : List PySem.Str} {vs : List V}, RpA T H vs (ns.map D.str) → vs = ns.map V.str
  | [], _, h => by cases h; rfl
  | n :: r, _, h => by
    cases h with
    | cons h1 h2 =>
      cases h1
      rw [RpA.strs_inv h2, List.map_cons]
theorem RpA.ints_inv {T : Tx} {H : Hp} : ∀ {ns : List Int} {vs : List V}, RpA T H vs (ns.map D.int) → vs = ns.map V.int
  | [], _, h => by cases h; rfl
  | n :: r, _, h => by
    cases h with
    | cons h1 h2 =>
      cases h1
      rw [RpA.ints_inv h2, List.map_cons]

/-! ### growth: a base that is seen, a heap in which it lies -/
structure Gr (S : Addr → Prop) (Hb H1 Hb2 H2 : Hp) : Prop where
  base : Ex Hb Hb2
  top : ∀ a o, H1 a = some o → ¬ S a → H2 a = some o
  sub : Ex Hb2 H2
  hid : ∀ a, H1 a ≠ none → Hb a = none → Hb2 a = none
  here : ∀ a, H1 a ≠ none → H2 a ≠ none
section
variable {S : Addr → Prop} {Hb H1 Hb2 H2 Hb3 H3 : Hp}
theorem Gr.refl (e : Ex Hb H1) : Gr S Hb H1 Hb H1 := ⟨Ex.refl _, fun _ _ h _ => h, e, fun _ _ h => h, fun _ h => h⟩
theorem Gr.trans (a : Gr S Hb H1 Hb2 H2) (b : Gr S Hb2 H2 Hb3 H3) : Gr S Hb H1 Hb3 H3 :=
  ⟨a.base.trans b.base, fun c o h n => b.top c o (a.top c o h n) n, b.sub, fun c h n => b.hid c (a.here c h) (a.hid c h n), fun c h => b.here c (a.here c h)⟩
theorem Gr.lift (a : Gr (fun _ => False) Hb H1 Hb2 H2) : Gr S Hb H1 Hb2 H2 := ⟨a.base, fun c o h _ => a.top c o h (fun z => z), a.sub, a.hid, a.here⟩
theorem ne_none_of {H : Hp} {a : Addr} {o : HO} (h : H a = some o) : H a ≠ none := by rw [h]; exact fun z => nomatch z
/-- a new object that is seen -/
theorem Gr.new (e : Ex Hb H1) {p : Addr} {o : HO} (n : H1 p = none) : Gr S Hb H1 (upd Hb p o) (upd H1 p o) := by
  have nb : Hb p = none := Evl.fresh_back e n
  refine ⟨Ex.new nb, fun a u h _ => Ex.new n a u h, fun a u h => ?_, fun a h hb => ?_, fun a h => ?_⟩
  · by_cases q : a = p
    · subst q; rw [upd_same] at h ⊢; exact h
    · rw [upd_ne q] at h ⊢; exact e a u h
  · have q : a ≠ p := fun z => by subst z; exact h n
    rw [upd_ne q]; exact hb
  · have q : a ≠ p := fun z => by subst z; exact h n
    rw [upd_ne q]; exact h
/-- a new object that is not seen -/
theorem Gr.newH (e : Ex Hb H1) {p : Addr} {o : HO} (n : H1 p = none) : Gr S Hb H1 Hb (upd H1 p o) :=
  ⟨Ex.refl _, fun a u h _ => Ex.new n a u h, e.trans (Ex.new n), fun _ _ hb => hb, fun a h => by
    have q : a ≠ p := fun z => by subst z; exact h n
    rw [upd_ne q]; exact h⟩
/-- an object that is not seen changes -/
theorem Gr.mutS (e : Ex Hb H1) {p : Addr} {o : HO} (nb : Hb p = none) (hs : S p) : Gr S Hb H1 Hb (upd H1 p o) :=
  ⟨Ex.refl _, fun a u h n => by
    have q : a ≠ p := fun z => by subst z; exact n hs
    rw [upd_ne q]; exact h, Ex.mut e nb, fun _ _ hb => hb, fun a h => by
    by_cases q : a = p
    · subst q; rw [upd_same]; exact fun z => nomatch z
    · rw [upd_ne q]; exact h⟩
/-- what lay unseen and stands there may be seen from now on, if it was not there at the start -/
theorem Gr.show (g : Gr S Hb H1 Hb2 H2) {p : Addr} {o : HO} (n : H1 p = none) (nb : Hb2 p = none) (h : H2 p = some o) : Gr S Hb H1 (upd Hb2 p o) H2 := by
  refine ⟨g.base.trans (Ex.new nb), g.top, fun a u q => ?_, fun a q hb => ?_, g.here⟩
  · by_cases z : a = p
    · subst z; rw [upd_same] at q; cases q; exact h
    · rw [upd_ne z] at q; exact g.sub a u q
  · have z : a ≠ p := fun z => by subst z; exact q n
    rw [upd_ne z]; exact g.hid a q hb
end

/-! ### worlds: what is changed by the way -/
structure Wd where
  S : Addr → Prop
  G : Type
  R : Hp → G → Prop
  inS : ∀ H g, R H g → ∀ a, S a → H a ≠ none
  stay : ∀ H H' g, R H g → (∀ a o, S a → H a = some o → H' a = some o) → (∀ a φ, H a = some (.ext φ) → H' a = some (.ext φ)) → R H' g
/-- nothing -/
abbrev W0 : Wd := ⟨fun _ => False, Unit, fun _ _ => True, fun _ _ _ _ h => h.elim, fun _ _ _ _ _ _ => True.intro⟩

structure En where
  P : Program
  w : World
  T : Tx
  base : Heap
  k : Nat
  wd : Wd
abbrev En.S (E : En) : Addr → Prop := E.wd.S
abbrev En.G (E : En) : Type := E.wd.G
abbrev En.R (E : En) : Hp → E.G → Prop := E.wd.R

/-! ### outcomes -/
inductive Out (G α : Type) where
  | ok (a : α) (g : G)
  | err (e : D) (g : G)
  | stk
def bnd {G α β : Type} (m : Out G α) (k : α → G → Out G β) : Out G β :=
  match m with
  | .ok a g => k a g
  | .err e g => .err e g
  | .stk => .stk
@[simp] theorem bnd_ok {G α β : Type} (a : α) (g : G) (k : α → G → Out G β) : bnd (.ok a g) k = k a g := rfl
@[simp] theorem bnd_err {G α β : Type} (e : D) (g : G) (k : α → G → Out G β) : bnd (.err e g) k = .err e g := rfl
@[simp] theorem bnd_stk {G α β : Type} (k : α → G → Out G β) : bnd (.stk : Out G α) k = .stk := rfl
/-- from an option -/
def opt {G α : Type} (o : Option α) (g : G) : Out G α := match o with
  | some a => .ok a g
  | none => .stk
@[simp] theorem opt_some {G α : Type} (a : α) (g : G) : opt (some a) g = .ok a g := rfl
@[simp] theorem opt_none {G α : Type} (g : G) : (opt none g : Out G α) = .stk := rfl
/-- what is asked of an answer: nothing, or it is this one -/
def Le {G α : Type} (a b : Out G α) : Prop := a = .stk ∨ b = a
theorem Le.refl {G α : Type} (a : Out G α) : Le a a := .inr rfl

abbrev Rho := List (Option D)
/-- an exception in the air -/
def Xr (T : Tx) (H : Hp) (cv : Value) (dd : Option Addr) (e : D) : Prop :=
  ∃ c C ns vs, e = .exc c ns vs ∧ T.mg c = some (.ref C) ∧ cv = .ref C ∧ ((dd = none ∧ ns = [] ∧ vs = []) ∨ ∃ a fs, dd = some a ∧ H a = some (.xd fs) ∧ fs ≠ [] ∧ ns = fs.map (fun p => p.1) ∧ RpA T H (fs.map fun p => p.2) vs)

def Sl (T : Tx) (H : Hp) (σ : L2.St) (ρ : Rho) : Prop := ∀ (i : Nat) (d : D), ρ[i]? = some (some d) → ∃ v, σ[i]? = some (some v) ∧ Rp T H v d
theorem Sl.mono {T : Tx} {H H' : Hp} {σ : L2.St} {ρ : Rho} (e : Ex H H') (h : Sl T H σ ρ) : Sl T H' σ ρ := fun i d q => by
  obtain ⟨v, h1, h2⟩ := h i d q
  exact ⟨v, h1, h2.mono e⟩

def Post {α : Type} (E : En) (W : WX) (σ : L2.St) (Hb H1 : Hp) (okc : α → E.G → Prop) : Out E.G α → Prop
  | .ok a g => okc a g
  | .err e g => ∀ cv dd Hb2 H2, Gr E.S Hb H1 Hb2 H2 → E.R H2 g → Xr E.T Hb2 cv dd e → W cv dd σ H2
  | .stk => False
section
variable {α β : Type} {E : En} {W : WX} {σ : L2.St} {Hb H1 Hb2 H2 : Hp}
theorem Post.bnd {okc : α → E.G → Prop} {okd : β → E.G → Prop} {m : Out E.G α} {k : α → E.G → Out E.G β} (h : Post E W σ Hb H1 okd (DV.bnd m k)) (hh : ∀ a g, Post E W σ Hb H1 okd (k a g) → okc a g) : Post E W σ Hb H1 okc m := by
  cases m with
  | ok a g => exact hh a g h
  | err e g => exact h
  | stk => exact h
theorem Post.step {okc okd : α → E.G → Prop} {m : Out E.G α} (h : Post E W σ Hb H1 okc m) (gr : Gr E.S Hb H1 Hb2 H2) (hh : ∀ a g, okc a g → okd a g) : Post E W σ Hb2 H2 okd m := by
  cases m with
  | ok a g => exact hh a g h
  | err e g => exact fun cv dd Hb3 H3 g3 => h cv dd Hb3 H3 (gr.trans g3)
  | stk => exact h
theorem Post.imp {okc okd : α → E.G → Prop} {m : Out E.G α} (h : Post E W σ Hb H1 okc m) (hh : ∀ a g, okc a g → okd a g) : Post E W σ Hb H1 okd m := by
  cases m with
  | ok a g => exact hh a g h
  | err e g => exact h
  | stk => exact h
theorem Post.le {okc : α → E.G → Prop} {m m' : Out E.G α} (h : Post E W σ Hb H1 okc m) (l : Le m m') : Post E W σ Hb H1 okc m' := by
  rcases l with l | l
  · subst l; exact False.elim h
  · rw [l]; exact h
end

/-! ### contexts -/
abbrev Gn (sc : Scope) (x : PySem.Str) : Prop := sc.names.lookup x = some .globalImplicit
/-- a block: its names by slot, its scope, the names whose cells are its own -/
structure Bk where
  N : List PySem.Str
  sc : Scope
  fn : PySem.Str → Bool
  cq : Option (Value × PySem.Str)
structure InC (B : Bk) (E : En) (W : WX) (X : Cx) : Prop where
  hN : X.N = B.N
  hs : X.env.scope = B.sc
  hfn : X.fn = B.fn
  hP : X.prog = E.P
  hw : X.w = E.w
  hK : X.K = E.T.K
  hmg : X.mg = E.T.mg
  hb : X.base = E.base
  room : Room E.k X.A
  gd : X.A.guards = some []
  calm : X.calm = true
  tk : Takes X W
  hcq : ∀ cd q, B.cq = some (cd, q) → X.env.code = cd ∧ X.env.qual = q

/-- the state ahead of an expression -/
structure Pr (E : En) (σ : L2.St) (ρ : Rho) (Hb H1 : Hp) (g : E.G) : Prop where
  len : σ.length = ρ.length
  sl : Sl E.T Hb σ ρ
  ex : Ex Hb H1
  hd : ∀ a, E.S a → Hb a = none
  r : E.R H1 g
theorem Pr.step {E : En} {σ : L2.St} {ρ : Rho} {Hb H1 Hb2 H2 : Hp} {g g2 : E.G} (p : Pr E σ ρ Hb H1 g) (gr : Gr E.S Hb H1 Hb2 H2) (r : E.R H2 g2) : Pr E σ ρ Hb2 H2 g2 :=
  ⟨p.len, p.sl.mono gr.base, gr.sub, fun a h => gr.hid a (E.wd.inS _ _ p.r a h) (p.hd a h), r⟩

/-- how a result stands: T, the heap ahead, the base and the heap behind -/
abbrev RRel := Tx → Hp → Hp → Hp → V → D → Prop
/-- it is seen -/
def Rs : RRel := fun T _ Hb2 _ v d => Rp T Hb2 v d
/-- it is a flat one, or a new list or dict that is not seen yet -/
def Rf : RRel := fun T H1 Hb2 H2 v d => (d.flat = true ∧ Rp T Hb2 v d) ∨
  (∃ p xs ds, v = .ref p ∧ d = .lst ds ∧ H1 p = none ∧ Hb2 p = none ∧ H2 p = some (.lst xs) ∧ RpA T Hb2 xs ds) ∨
  (∃ p kvs ks vs, v = .ref p ∧ d = .dct ks vs ∧ H1 p = none ∧ Hb2 p = none ∧ H2 p = some (.dK kvs) ∧ ks = kvs.map (fun p => kD p.1) ∧ RpA T Hb2 (kvs.map fun p => p.2) vs)
/-- a result relation may be read from an earlier heap -/
structure RBack (RR : RRel) : Prop where
  back : ∀ {T : Tx} {S : Addr → Prop} {Hb H1 Hb1 H1' Hb2 H2 : Hp} {v : V} {d : D}, Gr S Hb H1 Hb1 H1' → RR T H1' Hb2 H2 v d → RR T H1 Hb2 H2 v d
  seen : ∀ {T : Tx} {S : Addr → Prop} {Hb H1 Hb2 H2 : Hp} {v : V} {d : D}, Gr S Hb H1 Hb2 H2 → RR T H1 Hb2 H2 v d → ∃ Hb3, Gr S Hb H1 Hb3 H2 ∧ Ex Hb2 Hb3 ∧ Rp T Hb3 v d
theorem rs_back : RBack Rs := ⟨fun _ h => h, fun g h => ⟨_, g, Ex.refl _, h⟩⟩
theorem none_back {S : Addr → Prop} {Hb H1 Hb2 H2 : Hp} (g : Gr S Hb H1 Hb2 H2) {p : Addr} (h : H2 p = none) : H1 p = none := by
  cases q : H1 p with
  | none => rfl
  | some o => exact absurd h (g.here p (ne_none_of q))
theorem rf_back : RBack Rf := by
  refine ⟨fun g h => ?_, fun g h => ?_⟩
  · rcases h with h | ⟨p, xs, ds, e1, e2, n, r⟩ | ⟨p, kvs, ks, vs, e1, e2, n, r⟩
    · exact .inl h
    · exact .inr (.inl ⟨p, xs, ds, e1, e2, none_back g n, r⟩)
    · exact .inr (.inr ⟨p, kvs, ks, vs, e1, e2, none_back g n, r⟩)
  · rcases h with ⟨_, h⟩ | ⟨p, xs, ds, rfl, rfl, n, nb, hp, r⟩ | ⟨p, kvs, ks, vs, rfl, rfl, n, nb, hp, ek, r⟩
    · exact ⟨_, g, Ex.refl _, h⟩
    · exact ⟨_, g.show n nb hp, Ex.new nb, .lst (.inl (.inl upd_same)) (r.mono (Ex.new nb))⟩
    · exact ⟨_, g.show n nb hp, Ex.new nb, .dct (.inl upd_same) ek (r.mono (Ex.new nb))⟩

/-- what is wanted of a value -/
def okE (E : En) (RR : RRel) (Hb H1 : Hp) (Q : VK) (d : D) (g : E.G) : Prop := ∀ v Hb2 H2, Gr E.S Hb H1 Hb2 H2 → E.R H2 g → RR E.T H1 Hb2 H2 v d → Q v H2
def okA (E : En) (Hb H1 : Hp) (Q : List V → Hp → Prop) (ds : List D) (g : E.G) : Prop := ∀ vs Hb2 H2, Gr E.S Hb H1 Hb2 H2 → E.R H2 g → RpA E.T Hb2 vs ds → Q vs H2
def okT (E : En) (Hb H1 : Hp) (Q : Bool → Hp → Prop) (b : Bool) (g : E.G) : Prop := ∀ Hb2 H2, Gr E.S Hb H1 Hb2 H2 → E.R H2 g → Q b H2
section
variable {E : En} {RR : RRel} {Hb H1 Hb2 H2 : Hp} {Q : VK}
theorem okE.step {d : D} {g : E.G} (Z : RBack RR) (h : okE E RR Hb H1 Q d g) (gr : Gr E.S Hb H1 Hb2 H2) : okE E RR Hb2 H2 Q d g := fun v Hb3 H3 g3 r q => h v Hb3 H3 (gr.trans g3) r (Z.back gr q)
theorem okA.step {Q : List V → Hp → Prop} {d : List D} {g : E.G} (h : okA E Hb H1 Q d g) (gr : Gr E.S Hb H1 Hb2 H2) : okA E Hb2 H2 Q d g := fun v Hb3 H3 g3 r q => h v Hb3 H3 (gr.trans g3) r q
theorem okT.step {Q : Bool → Hp → Prop} {d : Bool} {g : E.G} (h : okT E Hb H1 Q d g) (gr : Gr E.S Hb H1 Hb2 H2) : okT E Hb2 H2 Q d g := fun Hb3 H3 g3 r => h Hb3 H3 (gr.trans g3) r
/-- no change -/
theorem okE.here {d : D} {g : E.G} {v : V} (h : okE E Rs Hb H1 Q d g) (e : Ex Hb H1) (r : E.R H1 g) (q : Rp E.T Hb v d) : Q v H1 := h v Hb H1 (Gr.refl e) r q
theorem okE.hereF {d : D} {g : E.G} {v : V} (h : okE E Rf Hb H1 Q d g) (e : Ex Hb H1) (r : E.R H1 g) (f : d.flat = true) (q : Rp E.T Hb v d) : Q v H1 := h v Hb H1 (Gr.refl e) r (.inl ⟨f, q⟩)
theorem R_new {g : E.G} {p : Addr} {o : HO} (r : E.R H1 g) (n : H1 p = none) : E.R (upd H1 p o) g :=
  E.wd.stay _ _ _ r (fun a u _ h => Ex.new n a u h) fun a φ h => Ex.new n a _ h
/-- a new object -/
theorem okE.newL {ds : List D} {g : E.G} {xs : List V} (h : okE E Rf Hb H1 Q (.lst ds) g) (e : Ex Hb H1) (r : E.R H1 g) (q : RpA E.T Hb xs ds) : ∀ p, H1 p = none → Q (.ref p) (upd H1 p (.lst xs)) := fun p n =>
  h _ Hb _ (Gr.newH e n) (R_new r n) (.inr (.inl ⟨p, xs, ds, rfl, rfl, n, Evl.fresh_back e n, upd_same, q⟩))
theorem okE.newT {ds : List D} {g : E.G} {xs : List V} (h : okE E Rs Hb H1 Q (.tup ds) g) (e : Ex Hb H1) (r : E.R H1 g) (q : RpA E.T Hb xs ds) : ∀ p, H1 p = none → Q (.ref p) (upd H1 p (.tup xs)) := fun p n =>
  h _ _ _ (Gr.new e n) (R_new r n) (.tup (.inl (.inl upd_same)) (q.mono (Ex.new (Evl.fresh_back e n))))
end

/-! ### the judgements -/
def RX (RR : RRel) (B : Bk) (E : En) (W : WX) (e : Expr) (f : Rho → E.G → Out E.G D) : Prop :=
  ∃ t : TE, (∀ X, InC B E W X → PE X e t) ∧ ∀ σ ρ Hb H1 g Q, Pr E σ ρ Hb H1 g → Post E W σ Hb H1 (okE E RR Hb H1 Q) (f ρ g) → t σ H1 Q
abbrev RE := RX Rs
abbrev RF := RX Rf
def RA (B : Bk) (E : En) (W : WX) (es : List Expr) (f : Rho → E.G → Out E.G (List D)) : Prop :=
  ∃ t : TA, (∀ X, InC B E W X → PA X es t) ∧ ∀ σ ρ Hb H1 g Q, Pr E σ ρ Hb H1 g → Post E W σ Hb H1 (okA E Hb H1 Q) (f ρ g) → t σ H1 Q
def RT (B : Bk) (E : En) (W : WX) (e : Expr) (f : Rho → E.G → Out E.G Bool) : Prop :=
  ∃ t : TT, (∀ X, InC B E W X → PT X e t) ∧ ∀ σ ρ Hb H1 g Q, Pr E σ ρ Hb H1 g → Post E W σ Hb H1 (okT E Hb H1 Q) (f ρ g) → t σ H1 Q
/-- a test whatever its whole is -/
def RW (B : Bk) (E : En) (W : WX) (e : Expr) (f : Rho → E.G → Out E.G Bool) : Prop :=
  ∃ t : TT, (∀ X, InC B E W X → PW X e t) ∧ ∀ σ ρ Hb H1 g Q, Pr E σ ρ Hb H1 g → Post E W σ Hb H1 (okT E Hb H1 Q) (f ρ g) → t σ H1 Q

section
variable {B : Bk} {E : En} {W : WX} {e : Expr}
/-- a new one is seen -/
theorem RX.seen {RR : RRel} (Z : RBack RR) {f : Rho → E.G → Out E.G D} (h : RX RR B E W e f) : RE B E W e f := by
  obtain ⟨t, p, q⟩ := h
  refine ⟨t, p, fun σ ρ Hb H1 g Q pr h => q σ ρ Hb H1 g Q pr (h.imp fun d g k v Hb2 H2 gr r x => ?_)⟩
  obtain ⟨Hb3, g3, _, x3⟩ := Z.seen gr x
  exact k v Hb3 H2 g3 r x3
theorem RF.s {f : Rho → E.G → Out E.G D} (h : RF B E W e f) : RE B E W e f := RX.seen rf_back h
end
end DV
set_option Elab.async false
set_option linter.all false
set_option maxRecDepth 100000
set_option maxHeartbeats 4000000
namespace DV
open PySem PySem.Spec PyProof.Rows L2
open Evl (Ex)

/-! ### the plain side -/
def getR {G : Type} (ρ : Rho) (i : Nat) (g : G) : Out G D := match ρ[i]? with
  | some (some d) => .ok d g
  | _ => .stk
def asB {G : Type} (d : D) (g : G) : Out G Bool := match d with
  | .bl b => .ok b g
  | _ => .stk
@[simp] theorem asB_bl {G : Type} (b : Bool) (g : G) : asB (.bl b) g = .ok b g := rfl
def isFlat {G : Type} (d : D) (g : G) : Out G D := match d.flat with
  | true => .ok d g
  | false => .stk

section
variable {B : Bk} {E : En} {W : WX} {RR : RRel}

/-- results that may be flat ones -/
structure RFl (RR : RRel) : Prop where
  flat : ∀ {T : Tx} {H1 Hb2 H2 : Hp} {v : V} {d : D}, d.flat = true → Rp T Hb2 v d → RR T H1 Hb2 H2 v d
theorem rs_flat : RFl Rs := ⟨fun _ h => h⟩
theorem rf_flat : RFl Rf := ⟨fun f h => .inl ⟨f, h⟩⟩
theorem RE.toF {e : Expr} {f : Rho → E.G → Out E.G D} (h : RE B E W e f) : RF B E W e (fun ρ g => bnd (f ρ g) isFlat) := by
  obtain ⟨t, p, q⟩ := h
  refine ⟨t, p, fun σ ρ Hb H1 g Q pr h => q σ ρ Hb H1 g Q pr (h.bnd fun d g k v Hb2 H2 gr r x => ?_)⟩
  unfold isFlat at k
  cases hd : d.flat with
  | true => rw [hd] at k; exact k v Hb2 H2 gr r (.inl ⟨hd, x⟩)
  | false => rw [hd] at k; exact False.elim k

/-! ### names, constants -/
theorem RE_var (i : Nat) {x : PySem.Str} {pos : Pos} (hN : B.N[i]? = some x := by rfl) (hv : Vis B.sc x := by first | exact Or.inl rfl | exact Or.inr (Or.inl rfl) | exact Or.inr (Or.inr rfl)) (hd : (x == ("__debug__" : PySem.Str)) = false := by decide)
    (hcd : (x == ("__classdict__" : PySem.Str)) = false := by decide) : RE B E W (.Name x pos) (fun ρ g => getR ρ i g) := by
  refine ⟨tVar i, fun X c => pe_var (by rw [c.hN]; exact hN) (by rw [c.hs]; exact hv) hd hcd, fun σ ρ Hb H1 g Q pr h => ?_⟩
  try dsimp only at h
  unfold getR at h
  cases q : ρ[i]? with
  | none => rw [q] at h; exact False.elim h
  | some o =>
    cases o with
    | none => rw [q] at h; exact False.elim h
    | some d =>
      rw [q] at h
      obtain ⟨v, h1, h2⟩ := pr.sl i d q
      exact ⟨v, h1, okE.here h pr.ex pr.r h2⟩
theorem RX_int (F : RFl RR) {i : Int} {j : Nat} {pos : Pos} : RX RR B E W (.Constant (.int i) j pos) (fun _ g => .ok (.int i) g) :=
  ⟨_, fun X c => pe_int, fun σ ρ Hb H1 g Q pr h => h _ _ _ (Gr.refl pr.ex) pr.r (F.flat rfl (.int i))⟩
theorem RX_str (F : RFl RR) {i : PySem.Str} {j : Nat} {pos : Pos} : RX RR B E W (.Constant (.str i) j pos) (fun _ g => .ok (.str i) g) :=
  ⟨_, fun X c => pe_str, fun σ ρ Hb H1 g Q pr h => h _ _ _ (Gr.refl pr.ex) pr.r (F.flat rfl (.str i))⟩
theorem RX_bl (F : RFl RR) {i : Bool} {j : Nat} {pos : Pos} : RX RR B E W (.Constant (.bool i) j pos) (fun _ g => .ok (.bl i) g) :=
  ⟨_, fun X c => pe_bl, fun σ ρ Hb H1 g Q pr h => h _ _ _ (Gr.refl pr.ex) pr.r (F.flat rfl (.bl i))⟩
theorem RX_non (F : RFl RR) {j : Nat} {pos : Pos} : RX RR B E W (.Constant .none j pos) (fun _ g => .ok .non g) :=
  ⟨_, fun X c => pe_non, fun σ ρ Hb H1 g Q pr h => h _ _ _ (Gr.refl pr.ex) pr.r (F.flat rfl .non)⟩
/-- a module's number or text -/
theorem RX_gint (F : RFl RR) {x : PySem.Str} {i : Int} {pos : Pos} (hg : Gn B.sc x) (hm : ∃ t, E.T.mg x = some (.int i t)) (hd : (x == ("__debug__" : PySem.Str)) = false := by decide) : RX RR B E W (.Name x pos) (fun _ g => .ok (.int i) g) := by
  obtain ⟨t, hm⟩ := hm
  exact ⟨_, fun X c => pe_glob (v := .int i) (by unfold Gl Env.kindOf; rw [c.hs]; exact hg) (by rw [c.hmg]; exact hm) ⟨t, rfl⟩ hd, fun σ ρ Hb H1 g Q pr h => h _ _ _ (Gr.refl pr.ex) pr.r (F.flat rfl (.int i))⟩
theorem RX_gstr (F : RFl RR) {x : PySem.Str} {i : PySem.Str} {pos : Pos} (hg : Gn B.sc x) (hm : ∃ t, E.T.mg x = some (.str i t)) (hd : (x == ("__debug__" : PySem.Str)) = false := by decide) : RX RR B E W (.Name x pos) (fun _ g => .ok (.str i) g) := by
  obtain ⟨t, hm⟩ := hm
  exact ⟨_, fun X c => pe_glob (v := .str i) (by unfold Gl Env.kindOf; rw [c.hs]; exact hg) (by rw [c.hmg]; exact hm) ⟨t, rfl⟩ hd, fun σ ρ Hb H1 g Q pr h => h _ _ _ (Gr.refl pr.ex) pr.r (F.flat rfl (.str i))⟩

/-! ### two operands -/
def Sem2 (E : En) (RR : RRel) (r : R2) (sem : D → D → E.G → Out E.G D) : Prop :=
  ∀ (x y : D) (v u : V) (W : WX) (σ : L2.St) (Hb H1 : Hp) (g : E.G) (Q : VK), Ex Hb H1 → (∀ a, E.S a → Hb a = none) → E.R H1 g → Rp E.T Hb v x → Rp E.T Hb u y → Post E W σ Hb H1 (okE E RR Hb H1 Q) (sem x y g) → r v u H1 Q
theorem tOp_post (Z : RBack RR) {fa fb : Rho → E.G → Out E.G D} {r : R2} {sem : D → D → E.G → Out E.G D} {ta tb : TE} (hs : Sem2 E RR r sem)
    (ea : ∀ σ ρ Hb H1 g Q, Pr E σ ρ Hb H1 g → Post E W σ Hb H1 (okE E Rs Hb H1 Q) (fa ρ g) → ta σ H1 Q) (eb : ∀ σ ρ Hb H1 g Q, Pr E σ ρ Hb H1 g → Post E W σ Hb H1 (okE E Rs Hb H1 Q) (fb ρ g) → tb σ H1 Q) :
    ∀ σ ρ Hb H1 g Q, Pr E σ ρ Hb H1 g → Post E W σ Hb H1 (okE E RR Hb H1 Q) (bnd (fa ρ g) fun x g => bnd (fb ρ g) fun y g => sem x y g) → tOp r ta tb σ H1 Q := by
  intro σ ρ Hb H1 g Q pr h
  refine ea σ ρ Hb H1 g _ pr (h.bnd fun x g1 h v Hb2 H2 gr r1 rx => ?_)
  have pr2 := pr.step gr r1
  refine eb σ ρ Hb2 H2 g1 _ pr2 (Post.bnd (h.step gr fun _ _ k => okE.step Z k gr) fun y g2 h u Hb3 H3 gr2 r2 ry => ?_)
  have pr3 := pr2.step gr2 r2
  exact hs x y v u W σ Hb3 H3 g2 Q pr3.ex pr3.hd r2 (rx.mono gr2.base) ry (h.step gr2 fun _ _ k => okE.step Z k gr2)
theorem RX_op (Z : RBack RR) {a b : Expr} {fa fb : Rho → E.G → Out E.G D} {op : Operator} {r : R2} {sem : D → D → E.G → Out E.G D} {pos : Pos} (ho : ∀ X, InC B E W X → OpR X (binaryOp op) r) (hs : Sem2 E RR r sem) (ha : RE B E W a fa) (hb : RE B E W b fb) :
    RX RR B E W (.BinOp a op b pos) (fun ρ g => bnd (fa ρ g) fun x g => bnd (fb ρ g) fun y g => sem x y g) := by
  obtain ⟨ta, pa, ea⟩ := ha
  obtain ⟨tb, pb, eb⟩ := hb
  exact ⟨_, fun X c => pe_op (ho X c) (pa X c) (pb X c), tOp_post Z hs ea eb⟩
theorem RX_cmp (Z : RBack RR) {a b : Expr} {fa fb : Rho → E.G → Out E.G D} {op : CmpOp} {r : R2} {sem : D → D → E.G → Out E.G D} {pos : Pos} (ho : ∀ X, InC B E W X → OpR X (compareOp op) r) (hs : Sem2 E RR r sem) (ha : RE B E W a fa) (hb : RE B E W b fb)
    (hm : behindInMarks op b = false) : RX RR B E W (.Compare a [op] [b] pos) (fun ρ g => bnd (fa ρ g) fun x g => bnd (fb ρ g) fun y g => sem x y g) := by
  obtain ⟨ta, pa, ea⟩ := ha
  obtain ⟨tb, pb, eb⟩ := hb
  exact ⟨_, fun X c => pe_cmpR (ho X c) (pa X c) (pb X c) hm, tOp_post Z hs ea eb⟩
theorem RX_ix (Z : RBack RR) {a b : Expr} {fa fb : Rho → E.G → Out E.G D} {r : R2} {sem : D → D → E.G → Out E.G D} {pos : Pos} (ho : ∀ X, InC B E W X → IxR X r) (hs : Sem2 E RR r sem) (ha : RE B E W a fa) (hb : RE B E W b fb) (hp : PlainIx b) :
    RX RR B E W (.Subscript a b pos) (fun ρ g => bnd (fa ρ g) fun x g => bnd (fb ρ g) fun y g => sem x y g) := by
  obtain ⟨ta, pa, ea⟩ := ha
  obtain ⟨tb, pb, eb⟩ := hb
  exact ⟨_, fun X c => pe_ix (ho X c) (pa X c) (pb X c) hp, tOp_post Z hs ea eb⟩

/-- an int operation -/
def semI {G : Type} (C : Int → Int → Bool) (f : Int → Int → D) (x y : D) (g : G) : Out G D := match x, y with
  | .int i, .int j => if C i j = true then .ok (f i j) g else .stk
  | _, _ => .stk
@[simp] theorem semI_int {G : Type} (C : Int → Int → Bool) (f : Int → Int → D) (i j : Int) (g : G) : semI C f (.int i) (.int j) g = if C i j = true then .ok (f i j) g else .stk := rfl
theorem sem_int (F : RFl RR) {C : Int → Int → Bool} {P : Int → Int → Prop} (hP : ∀ i j, C i j = true → P i j) (f : Int → Int → V) (fd : Int → Int → D) (hf : ∀ i j, (fd i j).flat = true) (hr : ∀ (T : Tx) (H : Hp) i j, Rp T H (f i j) (fd i j)) : Sem2 E RR (rI P f) (semI C fd) := by
  intro x y v u W σ Hb H1 g Q e hd r rx ry h
  try dsimp only at h
  unfold semI at h
  cases rx <;> cases ry <;> first | exact False.elim h | skip
  rename_i i j
  by_cases hc : C i j = true
  · dsimp only at h
    rw [if_pos hc] at h
    exact ⟨i, j, rfl, rfl, hP i j hc, h _ _ _ (Gr.refl e) r (F.flat (hf i j) (hr _ _ i j))⟩
  · dsimp only at h
    rw [if_neg hc] at h
    exact False.elim h
theorem sem_int0 (F : RFl RR) (f : Int → Int → V) (fd : Int → Int → D) (hf : ∀ i j, (fd i j).flat = true) (hr : ∀ (T : Tx) (H : Hp) i j, Rp T H (f i j) (fd i j)) : Sem2 E RR (rI0 f) (semI (fun _ _ => true) fd) := by
  intro x y v u W σ Hb H1 g Q e hd r rx ry h
  try dsimp only at h
  unfold semI at h
  cases rx <;> cases ry <;> first | exact False.elim h | skip
  rename_i i j
  dsimp only at h
  rw [if_pos rfl] at h
  exact ⟨i, j, rfl, rfl, h _ _ _ (Gr.refl e) r (F.flat (hf i j) (hr _ _ i j))⟩
abbrev tru2 : Int → Int → Bool := fun _ _ => true
theorem RE_addI {a b : Expr} {fa fb : Rho → E.G → Out E.G D} {pos : Pos} (ha : RE B E W a fa) (hb : RE B E W b fb) : RE B E W (.BinOp a .Add b pos) (fun ρ g => bnd (fa ρ g) fun x g => bnd (fb ρ g) fun y g => semI tru2 (fun i j => .int (i + j)) x y g) :=
  RX_op rs_back (fun X _ => op_add) (sem_int0 rs_flat _ _ (fun _ _ => rfl) (fun _ _ i j => .int _)) ha hb
theorem RE_subI {a b : Expr} {fa fb : Rho → E.G → Out E.G D} {pos : Pos} (ha : RE B E W a fa) (hb : RE B E W b fb) : RE B E W (.BinOp a .Sub b pos) (fun ρ g => bnd (fa ρ g) fun x g => bnd (fb ρ g) fun y g => semI tru2 (fun i j => .int (i - j)) x y g) :=
  RX_op rs_back (fun X _ => op_sub) (sem_int0 rs_flat _ _ (fun _ _ => rfl) (fun _ _ i j => .int _)) ha hb
theorem RE_cmpI {a b : Expr} {fa fb : Rho → E.G → Out E.G D} {op : CmpOp} {p : Int → Int → Bool} {pos : Pos} (ho : ∀ X : Cx, OpR X (compareOp op) (rI0 fun i j => .bl (p i j))) (hm : behindInMarks op b = false) (ha : RE B E W a fa) (hb : RE B E W b fb) :
    RE B E W (.Compare a [op] [b] pos) (fun ρ g => bnd (fa ρ g) fun x g => bnd (fb ρ g) fun y g => semI tru2 (fun i j => .bl (p i j)) x y g) :=
  RX_cmp rs_back (fun X _ => ho X) (sem_int0 rs_flat _ _ (fun _ _ => rfl) (fun _ _ i j => .bl _)) ha hb hm

/-! ### == of data -/
mutual
def D.py : D → Option PyData
  | .non => some .none
  | .bl b => some (.bool b)
  | .int i => some (.int i)
  | .str s => some (.str s)
  | .lst xs => (D.pyA xs).map .list
  | .tup xs => (D.pyA xs).map .tuple
  | .dct _ _ => none
  | .exc _ _ _ => none
  | .hid _ => none
def D.pyA : List D → Option (List PyData)
  | [] => some []
  | x :: r => match D.py x, D.pyA r with
    | some p, some q => some (p :: q)
    | _, _ => none
end
mutual
theorem Rp.dp {T : Tx} {H : Hp} : ∀ {v : V} {d : D} {p : PyData}, Rp T H v d → d.py = some p → Dp T.K H v p
  | _, _, _, .non, e => by simp [D.py] at e; subst e; exact .non
  | _, _, _, .bl b, e => by simp [D.py] at e; subst e; exact .bl b
  | _, _, _, .int i, e => by simp [D.py] at e; subst e; exact .int i
  | _, _, _, .str s, e => by simp [D.py] at e; subst e; exact .str s
  | _, _, _, .lst (ds := ds) h hs, e => by
    simp only [D.py] at e
    cases q : D.pyA ds with
    | none => rw [q] at e; cases e
    | some ps => rw [q] at e; cases e; exact .lst h (RpA.dp hs q)
  | _, _, _, .tup (ds := ds) h hs, e => by
    simp only [D.py] at e
    cases q : D.pyA ds with
    | none => rw [q] at e; cases e
    | some ps => rw [q] at e; cases e; exact .tup h (RpA.dp hs q)
  | _, _, _, .dct _ _ _, e => by simp [D.py] at e
  | _, _, _, .exc0 _ _, e => by simp [D.py] at e
  | _, _, _, .exc1 _ _ _ _ _ _, e => by simp [D.py] at e
  | _, _, _, .hid _, e => by simp [D.py] at e
theorem RpA.dp {T : Tx} {H : Hp} : ∀ {vs : List V} {ds : List D} {ps : List PyData}, RpA T H vs ds → D.pyA ds = some ps → DpAll T.K H vs ps
  | _, _, _, .nil, e => by simp [D.pyA] at e; subst e; exact .nil
  | _, _, _, .cons (d := d) (ds := ds) h hs, e => by
    simp only [D.pyA] at e
    cases q : D.py d with
    | none => rw [q] at e; cases e
    | some p =>
      cases q2 : D.pyA ds with
      | none => rw [q, q2] at e; cases e
      | some ps => rw [q, q2] at e; cases e; exact .cons (Rp.dp h q) (RpA.dp hs q2)
end
/-- == of two data -/
def eqD (neg : Bool) (x y : D) : Option D := match x.py, y.py with
  | some p, some q => if (SeqAt.shaped p && SeqAt.shaped q) = true then some (.bl (if neg then !PyData.eqv p q else PyData.eqv p q)) else none
  | _, _ => none
theorem sem_eqD (F : RFl RR) {K : PySem.W.Frag} (hK : E.T.K = K) : Sem2 E RR (rEqD K) (fun x y g => opt (eqD false x y) g) := by
  subst hK
  intro x y v u W σ Hb H1 g Q e hd r rx ry h
  try dsimp only at h
  unfold eqD at h
  cases hx : x.py with
  | none => rw [hx] at h; exact False.elim h
  | some p =>
    cases hy : y.py with
    | none => rw [hx, hy] at h; exact False.elim h
    | some q =>
      rw [hx, hy] at h
      by_cases hc : (SeqAt.shaped p && SeqAt.shaped q) = true
      · simp only [if_pos hc, opt_some] at h
        rw [Bool.and_eq_true] at hc
        exact ⟨p, q, ((rx.mono e).dp hx), ((ry.mono e).dp hy), hc.1, hc.2, h _ _ _ (Gr.refl e) r (F.flat rfl (by simpa using Rp.bl _))⟩
      · simp only [if_neg hc, opt_none] at h; exact False.elim h
end
end DV
set_option Elab.async false
set_option linter.all false
set_option maxRecDepth 100000
set_option maxHeartbeats 4000000
namespace DV
open PySem PySem.Spec PyProof.Rows L2
open Evl (Ex)
section
variable {B : Bk} {E : En} {W : WX} {RR : RRel}

/-! ### tests, and, or, not, if -/
theorem RT_val {e : Expr} {f : Rho → E.G → Out E.G D} (h : RE B E W e f) (he : ∀ (env : Env) (whole : Sem Value), isTrue e env whole = (do let v ← whole; standAt e.pos; holding [v] (truthy v)) := by intro _ _; rfl) :
    RT B E W e (fun ρ g => bnd (f ρ g) asB) := by
  obtain ⟨t, p, q⟩ := h
  refine ⟨tB t, fun X c => pt_val (p X c) (he _), fun σ ρ Hb H1 g Q pr h => q σ ρ Hb H1 g _ pr (h.bnd fun d g1 k v Hb2 H2 gr r x => ?_)⟩
  unfold asB at k
  cases x <;> first | exact False.elim k | exact ⟨_, rfl, k _ _ gr r⟩
theorem RT_not {a : Expr} {pos : Pos} {f : Rho → E.G → Out E.G Bool} (h : RT B E W a f) : RT B E W (.UnaryOp .Not a pos) (fun ρ g => bnd (f ρ g) fun b g => .ok (!b) g) := by
  obtain ⟨t, p, q⟩ := h
  exact ⟨tNot t, fun X c => pt_not (p X c), fun σ ρ Hb H1 g Q pr h => q σ ρ Hb H1 g _ pr (h.bnd fun b g1 k Hb2 H2 gr r => k _ _ gr r)⟩
theorem RW.t {e : Expr} {f : Rho → E.G → Out E.G Bool} (h : RW B E W e f) : RT B E W e f := by
  obtain ⟨t, p, q⟩ := h
  exact ⟨t, fun X c => (p X c).pt, q⟩
theorem RW_and1 {a : Expr} {pos : Pos} {f : Rho → E.G → Out E.G Bool} (h : RT B E W a f) : RW B E W (.BoolOp .And [a] pos) f := by
  obtain ⟨t, p, q⟩ := h
  exact ⟨t, fun X c => pw_and1 (p X c), q⟩
theorem RW_or1 {a : Expr} {pos : Pos} {f : Rho → E.G → Out E.G Bool} (h : RT B E W a f) : RW B E W (.BoolOp .Or [a] pos) f := by
  obtain ⟨t, p, q⟩ := h
  exact ⟨t, fun X c => pw_or1 (p X c), q⟩
def andO {G : Type} (m : Out G Bool) (k : G → Out G Bool) : Out G Bool := bnd m fun b g => match b with
  | true => k g
  | false => .ok false g
def orO {G : Type} (m : Out G Bool) (k : G → Out G Bool) : Out G Bool := bnd m fun b g => match b with
  | true => .ok true g
  | false => k g
@[simp] theorem andO_t {G : Type} (g : G) (k : G → Out G Bool) : andO (.ok true g) k = k g := rfl
@[simp] theorem andO_f {G : Type} (g : G) (k : G → Out G Bool) : andO (.ok false g) k = .ok false g := rfl
@[simp] theorem orO_t {G : Type} (g : G) (k : G → Out G Bool) : orO (.ok true g) k = .ok true g := rfl
@[simp] theorem orO_f {G : Type} (g : G) (k : G → Out G Bool) : orO (.ok false g) k = k g := rfl
theorem andO_b {G : Type} (b c : Bool) (g : G) : andO (.ok b g) (fun g => .ok c g) = .ok (b && c) g := by cases b <;> rfl
theorem orO_b {G : Type} (b c : Bool) (g : G) : orO (.ok b g) (fun g => .ok c g) = .ok (b || c) g := by cases b <;> rfl
theorem RW_and {a b : Expr} {rest : List Expr} {pos : Pos} {fa fb : Rho → E.G → Out E.G Bool} (ha : RT B E W a fa) (hb : RW B E W (.BoolOp .And (b :: rest) pos) fb) : RW B E W (.BoolOp .And (a :: b :: rest) pos) (fun ρ g => andO (fa ρ g) (fb ρ)) := by
  obtain ⟨t, p, q⟩ := ha
  obtain ⟨t2, p2, q2⟩ := hb
  refine ⟨tAnd t t2, fun X c => pw_and (p X c) (p2 X c), fun σ ρ Hb H1 g Q pr h => ?_⟩
  unfold andO at h
  refine q σ ρ Hb H1 g _ pr (h.bnd fun b g1 k Hb2 H2 gr r => ?_)
  cases b with
  | true => exact q2 σ ρ Hb2 H2 g1 Q (pr.step gr r) (k.step gr fun _ _ k => okT.step k gr)
  | false => exact k _ _ gr r
theorem RW_or {a b : Expr} {rest : List Expr} {pos : Pos} {fa fb : Rho → E.G → Out E.G Bool} (ha : RT B E W a fa) (hb : RW B E W (.BoolOp .Or (b :: rest) pos) fb) : RW B E W (.BoolOp .Or (a :: b :: rest) pos) (fun ρ g => orO (fa ρ g) (fb ρ)) := by
  obtain ⟨t, p, q⟩ := ha
  obtain ⟨t2, p2, q2⟩ := hb
  refine ⟨tOr t t2, fun X c => pw_or (p X c) (p2 X c), fun σ ρ Hb H1 g Q pr h => ?_⟩
  unfold orO at h
  refine q σ ρ Hb H1 g _ pr (h.bnd fun b g1 k Hb2 H2 gr r => ?_)
  cases b with
  | true => exact k _ _ gr r
  | false => exact q2 σ ρ Hb2 H2 g1 Q (pr.step gr r) (k.step gr fun _ _ k => okT.step k gr)
/-- as values -/
def andV {G : Type} (m : Out G D) (k : G → Out G D) : Out G D := bnd m fun d g => match d with
  | .bl true => k g
  | .bl false => .ok (.bl false) g
  | _ => .stk
def orV {G : Type} (m : Out G D) (k : G → Out G D) : Out G D := bnd m fun d g => match d with
  | .bl true => .ok (.bl true) g
  | .bl false => k g
  | _ => .stk
@[simp] theorem andV_t {G : Type} (g : G) (k : G → Out G D) : andV (.ok (.bl true) g) k = k g := rfl
@[simp] theorem andV_f {G : Type} (g : G) (k : G → Out G D) : andV (.ok (.bl false) g) k = .ok (.bl false) g := rfl
@[simp] theorem orV_t {G : Type} (g : G) (k : G → Out G D) : orV (.ok (.bl true) g) k = .ok (.bl true) g := rfl
@[simp] theorem orV_f {G : Type} (g : G) (k : G → Out G D) : orV (.ok (.bl false) g) k = k g := rfl
theorem andV_b {G : Type} (b c : Bool) (g : G) : andV (.ok (.bl b) g) (fun g => .ok (.bl c) g) = .ok (.bl (b && c)) g := by cases b <;> rfl
theorem orV_b {G : Type} (b c : Bool) (g : G) : orV (.ok (.bl b) g) (fun g => .ok (.bl c) g) = .ok (.bl (b || c)) g := by cases b <;> rfl
theorem RE_one {a : Expr} {op : BoolOp} {pos : Pos} {f : Rho → E.G → Out E.G D} (h : RX RR B E W a f) : RX RR B E W (.BoolOp op [a] pos) f := by
  obtain ⟨t, p, q⟩ := h
  exact ⟨t, fun X c => pe_one (p X c), q⟩
theorem RE_and {a b : Expr} {rest : List Expr} {pos : Pos} {fa fb : Rho → E.G → Out E.G D} (ha : RE B E W a fa) (hb : RE B E W (.BoolOp .And (b :: rest) pos) fb) : RE B E W (.BoolOp .And (a :: b :: rest) pos) (fun ρ g => andV (fa ρ g) (fb ρ)) := by
  obtain ⟨t, p, q⟩ := ha
  obtain ⟨t2, p2, q2⟩ := hb
  refine ⟨tAndV t t2, fun X c => pe_and (p X c) (p2 X c), fun σ ρ Hb H1 g Q pr h => ?_⟩
  unfold andV at h
  refine q σ ρ Hb H1 g _ pr (h.bnd fun d g1 k v Hb2 H2 gr r x => ?_)
  cases x <;> first | exact False.elim k | skip
  rename_i b
  refine ⟨b, rfl, ?_⟩
  cases b with
  | true => exact q2 σ ρ Hb2 H2 g1 Q (pr.step gr r) (k.step gr fun _ _ k => okE.step rs_back k gr)
  | false => exact k _ _ _ gr r (.bl false)
theorem RE_or {a b : Expr} {rest : List Expr} {pos : Pos} {fa fb : Rho → E.G → Out E.G D} (ha : RE B E W a fa) (hb : RE B E W (.BoolOp .Or (b :: rest) pos) fb) : RE B E W (.BoolOp .Or (a :: b :: rest) pos) (fun ρ g => orV (fa ρ g) (fb ρ)) := by
  obtain ⟨t, p, q⟩ := ha
  obtain ⟨t2, p2, q2⟩ := hb
  refine ⟨tOrV t t2, fun X c => pe_or (p X c) (p2 X c), fun σ ρ Hb H1 g Q pr h => ?_⟩
  unfold orV at h
  refine q σ ρ Hb H1 g _ pr (h.bnd fun d g1 k v Hb2 H2 gr r x => ?_)
  cases x <;> first | exact False.elim k | skip
  rename_i b
  refine ⟨b, rfl, ?_⟩
  cases b with
  | true => exact k _ _ _ gr r (.bl true)
  | false => exact q2 σ ρ Hb2 H2 g1 Q (pr.step gr r) (k.step gr fun _ _ k => okE.step rs_back k gr)
def notV {G : Type} (d : D) (g : G) : Out G D := match d with
  | .bl b => .ok (.bl (!b)) g
  | _ => .stk
@[simp] theorem notV_bl {G : Type} (b : Bool) (g : G) : notV (.bl b) g = .ok (.bl (!b)) g := rfl
theorem RE_not {a : Expr} {pos : Pos} {f : Rho → E.G → Out E.G D} (h : RE B E W a f) : RE B E W (.UnaryOp .Not a pos) (fun ρ g => bnd (f ρ g) notV) := by
  obtain ⟨t, p, q⟩ := h
  refine ⟨tNotV t, fun X c => pe_not (p X c), fun σ ρ Hb H1 g Q pr h => q σ ρ Hb H1 g _ pr (h.bnd fun d g1 k v Hb2 H2 gr r x => ?_)⟩
  unfold notV at k
  cases x <;> first | exact False.elim k | exact ⟨_, rfl, k _ _ _ gr r (.bl _)⟩
def ifO {G α : Type} (m : Out G Bool) (a b : G → Out G α) : Out G α := bnd m fun c g => match c with
  | true => a g
  | false => b g
@[simp] theorem ifO_t {G α : Type} (g : G) (a b : G → Out G α) : ifO (.ok true g) a b = a g := rfl
@[simp] theorem ifO_f {G α : Type} (g : G) (a b : G → Out G α) : ifO (.ok false g) a b = b g := rfl
theorem ifO_ok {G α : Type} (c : Bool) (g : G) (a b : G → Out G α) : ifO (.ok c g) a b = if c = true then a g else b g := by cases c <;> rfl
theorem RX_if (Z : RBack RR) {c a b : Expr} {pos : Pos} {fc : Rho → E.G → Out E.G Bool} {fa fb : Rho → E.G → Out E.G D} (hc : RT B E W c fc) (ha : RX RR B E W a fa) (hb : RX RR B E W b fb) : RX RR B E W (.IfExp c a b pos) (fun ρ g => ifO (fc ρ g) (fa ρ) (fb ρ)) := by
  obtain ⟨t, p, q⟩ := hc
  obtain ⟨ta, pa, qa⟩ := ha
  obtain ⟨tb, pb, qb⟩ := hb
  refine ⟨tIf t ta tb, fun X c => pe_ifExp (p X c) (pa X c) (pb X c), fun σ ρ Hb H1 g Q pr h => ?_⟩
  unfold ifO at h
  refine q σ ρ Hb H1 g _ pr (h.bnd fun b g1 k Hb2 H2 gr r => ?_)
  cases b with
  | true => exact qa σ ρ Hb2 H2 g1 Q (pr.step gr r) (k.step gr fun _ _ k => okE.step Z k gr)
  | false => exact qb σ ρ Hb2 H2 g1 Q (pr.step gr r) (k.step gr fun _ _ k => okE.step Z k gr)
/-- x is None -/
def isNonD : D → Bool
  | .non => true
  | _ => false
theorem RE_isN {a : Expr} {pos pos' : Pos} {j : Nat} {f : Rho → E.G → Out E.G D} (h : RE B E W a f) : RE B E W (.Compare a [.Is] [.Constant .none j pos'] pos) (fun ρ g => bnd (f ρ g) fun d g => .ok (.bl (isNonD d)) g) := by
  obtain ⟨t, p, q⟩ := h
  refine ⟨tIsN t, fun X c => pe_cmp (pc_isN (p X c)) rfl, fun σ ρ Hb H1 g Q pr h => q σ ρ Hb H1 g _ pr (h.bnd fun d g1 k v Hb2 H2 gr r x => ?_)⟩
  have e : decide (v = .non) = isNonD d := by cases x <;> rfl
  show Q (.bl (decide (v = .non))) H2
  rw [e]
  exact k _ _ _ gr r (.bl _)
theorem RE_notN {a : Expr} {pos pos' : Pos} {j : Nat} {f : Rho → E.G → Out E.G D} (h : RE B E W a f) : RE B E W (.Compare a [.IsNot] [.Constant .none j pos'] pos) (fun ρ g => bnd (f ρ g) fun d g => .ok (.bl (!isNonD d)) g) := by
  obtain ⟨t, p, q⟩ := h
  refine ⟨tNotN t, fun X c => pe_cmp (pc_notN (p X c)) rfl, fun σ ρ Hb H1 g Q pr h => q σ ρ Hb H1 g _ pr (h.bnd fun d g1 k v Hb2 H2 gr r x => ?_)⟩
  have e : decide (v = .non) = isNonD d := by cases x <;> rfl
  show Q (.bl (!decide (v = .non))) H2
  rw [e]
  exact k _ _ _ gr r (.bl _)

/-! ### argument lists, displays -/
theorem RA_nil : RA B E W [] (fun _ g => .ok [] g) := ⟨tNil, fun X c => pa_nil, fun σ ρ Hb H1 g Q pr h => h [] _ _ (Gr.refl pr.ex) pr.r .nil⟩
theorem RA_cons {e : Expr} {es : List Expr} {f : Rho → E.G → Out E.G D} {fs : Rho → E.G → Out E.G (List D)} (h : RE B E W e f) (hs : RA B E W es fs) (hst : ∀ env, starEach (e :: es) env = (false, eval e env) :: starEach es env := by intro _; rfl) :
    RA B E W (e :: es) (fun ρ g => bnd (f ρ g) fun d g => bnd (fs ρ g) fun ds g => .ok (d :: ds) g) := by
  obtain ⟨t, p, q⟩ := h
  obtain ⟨t2, p2, q2⟩ := hs
  refine ⟨tCons t t2, fun X c => pa_cons (p X c) (p2 X c) (hst _), fun σ ρ Hb H1 g Q pr h => ?_⟩
  refine q σ ρ Hb H1 g _ pr (h.bnd fun d g1 k v Hb2 H2 gr r x => ?_)
  have pr2 := pr.step gr r
  refine q2 σ ρ Hb2 H2 g1 _ pr2 (Post.bnd (k.step gr fun _ _ k => okA.step k gr) fun ds g2 k vs Hb3 H3 gr2 r2 xs => ?_)
  exact k (v :: vs) _ _ gr2 r2 (.cons (x.mono gr2.base) xs)
def lenOk {G : Type} (ds : List D) (k : Out G D) : Out G D := if ds.length ≤ sizeLine then k else .stk
theorem lenOk_of {G : Type} {ds : List D} {k : Out G D} (h : ds.length ≤ 100000) : lenOk ds k = k := if_pos (Evl.sz_of h)
theorem RE_tup {es : List Expr} {k : Nat} {pos : Pos} {fs : Rho → E.G → Out E.G (List D)} (h : RA B E W es fs) : RE B E W (.Tuple es k pos) (fun ρ g => bnd (fs ρ g) fun ds g => lenOk ds (.ok (.tup ds) g)) := by
  obtain ⟨t, p, q⟩ := h
  refine ⟨tTup t, fun X c => pe_tup (p X c), fun σ ρ Hb H1 g Q pr h => q σ ρ Hb H1 g _ pr (h.bnd fun ds g1 k vs Hb2 H2 gr r xs => ?_)⟩
  unfold lenOk at k
  by_cases hl : ds.length ≤ sizeLine
  · rw [if_pos hl] at k
    exact ⟨by rw [xs.length]; exact hl, okE.newT (okE.step rs_back k gr) gr.sub r xs⟩
  · rw [if_neg hl] at k; exact False.elim k
theorem RF_lst {es : List Expr} {pos : Pos} {fs : Rho → E.G → Out E.G (List D)} (h : RA B E W es fs) : RF B E W (.List es pos) (fun ρ g => bnd (fs ρ g) fun ds g => lenOk ds (.ok (.lst ds) g)) := by
  obtain ⟨t, p, q⟩ := h
  refine ⟨tLst t, fun X c => pe_lst (p X c), fun σ ρ Hb H1 g Q pr h => q σ ρ Hb H1 g _ pr (h.bnd fun ds g1 k vs Hb2 H2 gr r xs => ?_)⟩
  unfold lenOk at k
  by_cases hl : ds.length ≤ sizeLine
  · rw [if_pos hl] at k
    exact ⟨by rw [xs.length]; exact hl, okE.newL (okE.step rf_back k gr) gr.sub r xs⟩
  · rw [if_neg hl] at k; exact False.elim k

/-! ### calls of built-ins by values -/
def SemA (E : En) (RR : RRel) (r : List V → Hp → VK → Prop) (sem : List D → E.G → Out E.G D) : Prop :=
  ∀ (ds : List D) (vs : List V) (W : WX) (σ : L2.St) (Hb H1 : Hp) (g : E.G) (Q : VK), Ex Hb H1 → (∀ a, E.S a → Hb a = none) → E.R H1 g → RpA E.T Hb vs ds → Post E W σ Hb H1 (okE E RR Hb H1 Q) (sem ds g) → r vs H1 Q
theorem tCB_post (Z : RBack RR) {fs : Rho → E.G → Out E.G (List D)} {r : List V → Hp → VK → Prop} {sem : List D → E.G → Out E.G D} {t : TA} (hs : SemA E RR r sem)
    (q : ∀ σ ρ Hb H1 g Q, Pr E σ ρ Hb H1 g → Post E W σ Hb H1 (okA E Hb H1 Q) (fs ρ g) → t σ H1 Q) :
    ∀ σ ρ Hb H1 g Q, Pr E σ ρ Hb H1 g → Post E W σ Hb H1 (okE E RR Hb H1 Q) (bnd (fs ρ g) fun ds g => sem ds g) → tCB r t σ H1 Q := by
  intro σ ρ Hb H1 g Q pr h
  refine q σ ρ Hb H1 g _ pr (h.bnd fun ds g1 k vs Hb2 H2 gr r xs => ?_)
  have pr2 := pr.step gr r
  exact hs ds vs W σ Hb2 H2 g1 Q pr2.ex pr2.hd r xs (k.step gr fun _ _ k => okE.step Z k gr)
theorem RX_callB (Z : RBack RR) {x : PySem.Str} {p pos : Pos} {e : Expr} {es : List Expr} {id : String} {r : List V → Hp → VK → Prop} {fs : Rho → E.G → Out E.G (List D)} {sem : List D → E.G → Out E.G D} (hc : ∀ X, InC B E W X → CallR X (.builtin id) r) (hs : SemA E RR r sem) (h : RA B E W (e :: es) fs)
    (hg : Gn B.sc x) (hm : E.T.mg x = none) (hv : bootBuiltins x = some (.builtin id)) (hn : x ≠ "__name__" := by decide) (hd : (x == ("__debug__" : PySem.Str)) = false := by decide)
    (he : ∀ env, starEach (e :: es) env = (false, eval e env) :: starEach es env := by intro _; rfl) (hpl : ∀ env, (backTo pos (starEach es env)).any (·.1) = false := by intro _; rfl) :
    RX RR B E W (.Call (.Name x p) (e :: es) [] pos) (fun ρ g => bnd (fs ρ g) fun ds g => sem ds g) := by
  obtain ⟨t, pt, q⟩ := h
  exact ⟨_, fun X c => pe_callB (hc X c) (by unfold Gl Env.kindOf; rw [c.hs]; exact hg) (by rw [c.hmg]; exact hm) hv (pt X c) hn hd (he _) (hpl _), tCB_post Z hs q⟩
theorem RX_callTy (Z : RBack RR) {x : PySem.Str} {p pos : Pos} {e : Expr} {es : List Expr} {T : String} {r : List V → Hp → VK → Prop} {fs : Rho → E.G → Out E.G (List D)} {sem : List D → E.G → Out E.G D} (hc : ∀ X, InC B E W X → CallR X (.type T) r) (hs : SemA E RR r sem) (h : RA B E W (e :: es) fs)
    (hg : Gn B.sc x) (hm : E.T.mg x = none) (hv : bootBuiltins x = some (.type T)) (hn : x ≠ "__name__" := by decide) (hd : (x == ("__debug__" : PySem.Str)) = false := by decide)
    (he : ∀ env, starEach (e :: es) env = (false, eval e env) :: starEach es env := by intro _; rfl) (hpl : ∀ env, (backTo pos (starEach es env)).any (·.1) = false := by intro _; rfl) :
    RX RR B E W (.Call (.Name x p) (e :: es) [] pos) (fun ρ g => bnd (fs ρ g) fun ds g => sem ds g) := by
  obtain ⟨t, pt, q⟩ := h
  exact ⟨_, fun X c => pe_callTy (hc X c) (by unfold Gl Env.kindOf; rw [c.hs]; exact hg) (by rw [c.hmg]; exact hm) hv (pt X c) hn hd (he _) (hpl _), tCB_post Z hs q⟩

/-- len -/
def lenD : List D → Option D
  | [.str s] => if s.length ≤ sizeLine then some (.int s.length) else none
  | [.lst xs] => some (.int xs.length)
  | [.tup xs] => some (.int xs.length)
  | _ => none
def rLenX (K : PySem.W.Frag) : List V → Hp → VK → Prop := fun xs H Q => ∃ x n, xs = [x] ∧ LenV K x H n ∧ Q (.int n) H
theorem sem_len (F : RFl RR) : SemA E RR (rLenX E.T.K) (fun ds g => opt (lenD ds) g) := by
  intro ds vs W σ Hb H1 g Q e hd r xs h
  cases xs with
  | nil => exact False.elim h
  | cons x xs =>
    cases xs with
    | cons _ _ => cases x <;> exact False.elim h
    | nil =>
      cases x <;> first | exact False.elim h | skip
      · rename_i s
        try dsimp only [lenD] at h
        by_cases hl : s.length ≤ sizeLine
        · rw [if_pos hl] at h
          exact ⟨_, s.length, rfl, ⟨hl, rfl⟩, h _ _ _ (Gr.refl e) r (F.flat rfl (.int _))⟩
        · rw [if_neg hl] at h; exact False.elim h
      · rename_i hq hr
        have hl := hr.length
        exact ⟨_, _, rfl, .inl ⟨_, Evl.ex_l e hq, rfl⟩, h _ _ _ (Gr.refl e) r (F.flat rfl (by rw [hl]; exact .int _))⟩
      · rename_i hq hr
        have hl := hr.length
        exact ⟨_, _, rfl, .inr ⟨_, Evl.ex_t e hq, rfl⟩, h _ _ _ (Gr.refl e) r (F.flat rfl (by rw [hl]; exact .int _))⟩
theorem RE_len {p pos : Pos} {a : Expr} {fs : Rho → E.G → Out E.G (List D)} (h : RA B E W [a] fs) (hg : Gn B.sc "len") (hm : E.T.mg "len" = none) (he : ∀ env, starEach [a] env = (false, eval a env) :: starEach [] env := by intro _; rfl) :
    RE B E W (.Call (.Name "len" p) [a] [] pos) (fun ρ g => bnd (fs ρ g) fun ds g => opt (lenD ds) g) :=
  RX_callB rs_back (fun X c => by have := call_len (X := X); rw [c.hK] at this; exact this) (sem_len rs_flat) h hg hm PySem.boot_len (he := he)

/-- any, all of a list of truths -/
def blsD : List D → Option (List Bool)
  | [] => some []
  | .bl b :: r => (blsD r).map (b :: ·)
  | _ => none
theorem blsD_map (bs : List Bool) : blsD (bs.map D.bl) = some bs := by
  induction bs with
  | nil => rfl
  | cons b r ih => show (blsD (r.map D.bl)).map (b :: ·) = _; rw [ih]; rfl
theorem RpA.bls {T : Tx} {H : Hp} : ∀ {vs : List V} {ds : List D} {bs : List Bool}, RpA T H vs ds → blsD ds = some bs → vs = bs.map V.bl
  | _, _, _, .nil, e => by cases e; rfl
  | _, _, _, .cons (d := d) (ds := ds) h hs, e => by
    cases h <;> first | (simp [blsD] at e; done) | skip
    rename_i b
    cases q : blsD ds with
    | none => simp [blsD, q] at e
    | some cs =>
      simp [blsD, q] at e
      subst e
      rw [RpA.bls hs q]
      rfl
def allD : List D → Option D
  | [.lst ds] => (blsD ds).map fun bs => .bl (bs.all id)
  | _ => none
def anyD : List D → Option D
  | [.lst ds] => (blsD ds).map fun bs => .bl (bs.any id)
  | _ => none
theorem sem_all (F : RFl RR) : SemA E RR (rAll E.T.K) (fun ds g => opt (allD ds) g) := by
  intro ds vs W σ Hb H1 g Q e hd r xs h
  cases xs with
  | nil => exact False.elim h
  | cons x xs =>
    cases xs with
    | cons _ _ => cases x <;> exact False.elim h
    | nil =>
      cases x <;> first | exact False.elim h | skip
      rename_i a ys es hq hr
      cases q : blsD es with
      | none => simp [allD, q] at h; exact False.elim h
      | some bs =>
        simp [allD, q] at h
        have e2 := hr.bls q
        subst e2
        exact ⟨a, bs, rfl, Evl.ex_l e hq, h _ _ _ (Gr.refl e) r (F.flat rfl (.bl _))⟩
theorem sem_any (F : RFl RR) : SemA E RR (rAny E.T.K) (fun ds g => opt (anyD ds) g) := by
  intro ds vs W σ Hb H1 g Q e hd r xs h
  cases xs with
  | nil => exact False.elim h
  | cons x xs =>
    cases xs with
    | cons _ _ => cases x <;> exact False.elim h
    | nil =>
      cases x <;> first | exact False.elim h | skip
      rename_i a ys es hq hr
      cases q : blsD es with
      | none => simp [anyD, q] at h; exact False.elim h
      | some bs =>
        simp [anyD, q] at h
        have e2 := hr.bls q
        subst e2
        exact ⟨a, bs, rfl, Evl.ex_l e hq, h _ _ _ (Gr.refl e) r (F.flat rfl (.bl _))⟩
theorem RE_all {p pos : Pos} {a : Expr} {fs : Rho → E.G → Out E.G (List D)} (h : RA B E W [a] fs) (hg : Gn B.sc "all") (hm : E.T.mg "all" = none) (he : ∀ env, starEach [a] env = (false, eval a env) :: starEach [] env := by intro _; rfl) :
    RE B E W (.Call (.Name "all" p) [a] [] pos) (fun ρ g => bnd (fs ρ g) fun ds g => opt (allD ds) g) :=
  RX_callB rs_back (fun X c => by have := cr_all c.calm; rw [c.hK] at this; exact this) (sem_all rs_flat) h hg hm (by decide +kernel) (he := he)
theorem RE_any {p pos : Pos} {a : Expr} {fs : Rho → E.G → Out E.G (List D)} (h : RA B E W [a] fs) (hg : Gn B.sc "any") (hm : E.T.mg "any" = none) (he : ∀ env, starEach [a] env = (false, eval a env) :: starEach [] env := by intro _; rfl) :
    RE B E W (.Call (.Name "any" p) [a] [] pos) (fun ρ g => bnd (fs ρ g) fun ds g => opt (anyD ds) g) :=
  RX_callB rs_back (fun X c => by have := cr_any c.calm; rw [c.hK] at this; exact this) (sem_any rs_flat) h hg hm (by decide +kernel) (he := he)
end
end DV
set_option Elab.async false
set_option linter.all false
set_option maxRecDepth 100000
set_option maxHeartbeats 4000000
namespace DV
open PySem PySem.Spec PyProof.Rows L2
open Evl (Ex)

/-! ### what is walked -/
/-- what a walk yields: the items, one by one, over any later heap -/
def WalkI (E : En) (Hb : Hp) (ds : List D) (J : It) : Prop :=
  ∀ Hb' H g0, Ex Hb Hb' → Ex Hb' H → E.R H g0 → (∀ a, E.S a → Hb' a = none) →
    (∀ (i : Nat) (d : D), ds[i]? = some d → J.go i H ∧ ∀ x H', J.yld i H x H' → ∃ Hb2, (∀ g, E.R H g → E.R H' g) ∧ Gr E.S Hb' H Hb2 H' ∧ Rp E.T Hb2 x d) ∧ (∀ i, ds.length ≤ i → J.stop i H)
def RI (B : Bk) (E : En) (W : WX) (tg iter : Expr) (f : Rho → E.G → Out E.G (List D)) : Prop :=
  ∃ wi : TI, (∀ X, InC B E W X → PI X tg iter wi) ∧ ∀ σ ρ Hb H1 g (K : It → Hp → Prop), Pr E σ ρ Hb H1 g →
    Post E W σ Hb H1 (fun ds g => ∀ J Hb2 H2, Gr E.S Hb H1 Hb2 H2 → E.R H2 g → WalkI E Hb2 ds J → K J H2) (f ρ g) → wi σ H1 K
section
variable {B : Bk} {E : En} {W : WX} {RR : RRel}
/-- the signs of a text, as texts -/
def signs (s : PySem.Str) : List D := s.cps.toList.map fun c => .str ⟨#[c]⟩
theorem walk_list {Hb : Hp} {a : Addr} {xs : List V} {ds : List D} (h : SqL E.T.K Hb a xs) (r : RpA E.T Hb xs ds) : WalkI E Hb ds (Itl E.T.K a) := by
  intro Hb' H g0 e1 e2 r0 hs
  have q := Evl.ex_l (e1.trans e2) h
  refine ⟨fun i d hd => ?_, fun i hi => ⟨xs, q, by rw [r.length]; exact hi⟩⟩
  obtain ⟨v, hv, hr⟩ := r.getD hd
  refine ⟨⟨xs, v, q, hv⟩, fun x H' hy => ?_⟩
  obtain ⟨rfl, hx⟩ := hy
  have hv2 := hx xs q
  rw [hv] at hv2
  cases hv2
  exact ⟨Hb', fun _ z => z, Gr.refl e2, hr.mono e1⟩
theorem walk_tup {Hb : Hp} {a : Addr} {xs : List V} {ds : List D} (h : SqT E.T.K Hb a xs) (r : RpA E.T Hb xs ds) : WalkI E Hb ds (Itt E.T.K a) := by
  intro Hb' H g0 e1 e2 r0 hs
  have q := Evl.ex_t (e1.trans e2) h
  refine ⟨fun i d hd => ?_, fun i hi => ⟨xs, q, by rw [r.length]; exact hi⟩⟩
  obtain ⟨v, hv, hr⟩ := r.getD hd
  refine ⟨⟨xs, v, q, hv⟩, fun x H' hy => ?_⟩
  obtain ⟨rfl, hx⟩ := hy
  have hv2 := hx xs q
  rw [hv] at hv2
  cases hv2
  exact ⟨Hb', fun _ z => z, Gr.refl e2, hr.mono e1⟩
theorem walk_str {Hb : Hp} (s : PySem.Str) : WalkI E Hb (signs s) (Its s) := by
  intro Hb' H g0 e1 e2 r0 hs
  have hl : s.cps.toList.length = s.cps.size := by simp
  refine ⟨fun i d hd => ?_, fun i hi => ?_⟩
  · unfold signs at hd
    rw [List.getElem?_map] at hd
    cases q : s.cps.toList[i]? with
    | none => rw [q] at hd; cases hd
    | some c =>
      rw [q] at hd
      have hd : d = .str ⟨#[c]⟩ := (Option.some.inj hd).symm
      have hi := (List.getElem?_eq_some_iff.mp q).1
      refine ⟨show i < s.cps.size by omega, fun x H' hy => ?_⟩
      obtain ⟨rfl, c2, h1, h2⟩ := hy
      have q2 : s.cps[i]? = some c := by simpa using q
      rw [q2] at h1
      cases h1
      subst h2 hd
      exact ⟨Hb', fun _ z => z, Gr.refl e2, .str _⟩
  · show s.cps.size ≤ i
    unfold signs at hi
    rw [List.length_map, hl] at hi
    exact hi
theorem walk_range {Hb : Hp} (lo : Int) (n : Nat) : WalkI E Hb ((List.range n).map fun i => .int (lo + (i : Nat))) (Itr lo n) := by
  intro Hb' H g0 e1 e2 r0 hs
  refine ⟨fun i d hd => ?_, fun i hi => by rw [List.length_map, List.length_range] at hi; exact hi⟩
  rw [List.getElem?_map] at hd
  cases q : (List.range n)[i]? with
  | none => rw [q] at hd; cases hd
  | some c =>
    rw [q] at hd
    obtain ⟨h1, h2⟩ := List.getElem?_eq_some_iff.mp q
    rw [List.getElem_range] at h2
    subst h2
    have hd : d = .int (lo + (i : Nat)) := (Option.some.inj hd).symm
    refine ⟨by rw [List.length_range] at h1; exact h1, fun x H' hy => ?_⟩
    obtain ⟨rfl, h2⟩ := hy
    subst h2 hd
    exact ⟨Hb', fun _ z => z, Gr.refl e2, .int _⟩
/-- a walk over a list, a tuple or a text, whichever it is -/
def iSeq (K : PySem.W.Frag) (tl : TE) : TI := fun σ H R => tl σ H fun x H1 => (∃ a, x = .ref a ∧ (∃ xs, SqL K H1 a xs) ∧ R (Itl K a) H1) ∨ (∃ a, x = .ref a ∧ (∃ xs, SqT K H1 a xs) ∧ R (Itt K a) H1) ∨ ∃ y, x = .str y ∧ R (Its y) H1
theorem pi_seq {X : Cx} {tg l : Expr} {tl : TE} (hl : PE X l tl) : PI X tg l (iSeq X.K tl) := by
  refine ⟨fun pins s σ H R I h => thn (hl.run pins s σ H _ I h) fun v s1 ⟨x, H1, I1, r1, q1⟩ => ?_⟩
  rcases q1 with ⟨a, rfl, ⟨xs, hq⟩, q⟩ | ⟨a, rfl, ⟨xs, hq⟩, q⟩ | ⟨y, rfl, q⟩
  · cases r1
    obtain ⟨its, rv, p, _⟩ := I1.list hq
    exact wpAny_pyIter_list p.isList (pi_one (tk := s1.toks) I1 _ (turn_list a _) ⟨_, Heap.get?_push_size _ rfl, rfl, rfl⟩ q)
  · cases r1
    obtain ⟨its, rv, p, _⟩ := I1.tuple hq
    exact wpAny_pyIter_tuple (show s1.heap.IsTuple a its.toArray from p) (pi_one (tk := s1.toks) I1 _ (turn_tuple a _) ⟨_, Heap.get?_push_size _ rfl, rfl, rfl⟩ q)
  · obtain ⟨t, rfl⟩ := r1
    cases ha : y.cps.all (· < 128) with
    | false => exact wpAny_pyIter_wide ha (pi_one (tk := s1.toks) I1 _ (turn_str _ y t "str_iterator" (.inr rfl)) ⟨_, Heap.get?_push_size _ rfl, rfl, rfl⟩ q)
    | true => exact wpAny_pyIter_ascii ha (pi_one (tk := s1.toks) I1 _ (turn_str _ y t "str_ascii_iterator" (.inl rfl)) ⟨_, Heap.get?_push_size _ rfl, rfl, rfl⟩ q)
def seqD {G : Type} (d : D) (g : G) : Out G (List D) := match d with
  | .lst ds => .ok ds g
  | .tup ds => .ok ds g
  | .str s => .ok (signs s) g
  | _ => .stk
@[simp] theorem seqD_lst {G : Type} (ds : List D) (g : G) : seqD (.lst ds) g = .ok ds g := rfl
@[simp] theorem seqD_tup {G : Type} (ds : List D) (g : G) : seqD (.tup ds) g = .ok ds g := rfl
@[simp] theorem seqD_str {G : Type} (s : PySem.Str) (g : G) : seqD (.str s) g = .ok (signs s) g := rfl
theorem RI_seq {tg e : Expr} {f : Rho → E.G → Out E.G D} (h : RE B E W e f) : RI B E W tg e (fun ρ g => bnd (f ρ g) seqD) := by
  obtain ⟨t, p, q⟩ := h
  refine ⟨iSeq E.T.K t, fun X c => by have := pi_seq (tg := tg) (p X c); rw [c.hK] at this; exact this, fun σ ρ Hb H1 g K pr h => ?_⟩
  refine q σ ρ Hb H1 g _ pr (h.bnd fun d g1 k v Hb2 H2 gr r x => ?_)
  unfold seqD at k
  cases x <;> first | exact False.elim k | skip
  · exact .inr (.inr ⟨_, rfl, k _ _ _ gr r (walk_str _)⟩)
  · rename_i hq hr
    exact .inl ⟨_, rfl, ⟨_, Evl.ex_l gr.sub hq⟩, k _ _ _ gr r (walk_list hq hr)⟩
  · rename_i hq hr
    exact .inr (.inl ⟨_, rfl, ⟨_, Evl.ex_t gr.sub hq⟩, k _ _ _ gr r (walk_tup hq hr)⟩)
def rangeD {G : Type} (ds : List D) (g : G) : Out G (List D) := match ds with
  | [.int j] => if -(2 ^ 62) ≤ j ∧ j < 2 ^ 62 then .ok ((List.range j.toNat).map fun i => .int (0 + (i : Nat))) g else .stk
  | _ => .stk
def rangeD2 {G : Type} (ds : List D) (g : G) : Out G (List D) := match ds with
  | [.int i, .int j] => if -(2 ^ 62) ≤ i ∧ i < 2 ^ 62 ∧ -(2 ^ 62) ≤ j ∧ j < 2 ^ 62 then .ok ((List.range (j - i).toNat).map fun k => .int (i + (k : Nat))) g else .stk
  | _ => .stk
theorem RI_range1 {tg a : Expr} {p pos : Pos} {fs : Rho → E.G → Out E.G (List D)} (h : RA B E W [a] fs) (hg : Gn B.sc "range") (hm : E.T.mg "range" = none) (hst : ∀ env, starEach [a] env = [(false, eval a env)] := by intro _; rfl) :
    RI B E W tg (.Call (.Name "range" p) [a] [] pos) (fun ρ g => bnd (fs ρ g) rangeD) := by
  obtain ⟨t, pt, q⟩ := h
  refine ⟨iRng1 t, fun X c => pi_range1 (by unfold Gl Env.kindOf; rw [c.hs]; exact hg) (by rw [c.hmg]; exact hm) (pt X c) (hst _), fun σ ρ Hb H1 g K pr h => ?_⟩
  refine q σ ρ Hb H1 g _ pr (h.bnd fun ds g1 k vs Hb2 H2 gr r xs => ?_)
  unfold rangeD at k
  cases xs with
  | nil => exact False.elim k
  | cons x xs =>
    cases xs with
    | cons _ _ => cases x <;> exact False.elim k
    | nil =>
      cases x <;> first | exact False.elim k | skip
      rename_i j
      dsimp only at k
      by_cases hc : -(2 ^ 62) ≤ j ∧ j < 2 ^ 62
      · rw [if_pos hc] at k
        exact ⟨j, rfl, hc.1, hc.2, k _ _ _ gr r (walk_range 0 _)⟩
      · rw [if_neg hc] at k; exact False.elim k
theorem RI_range2 {tg a b : Expr} {p pos : Pos} {fs : Rho → E.G → Out E.G (List D)} (h : RA B E W [a, b] fs) (hg : Gn B.sc "range") (hm : E.T.mg "range" = none) (hst : ∀ env, starEach [a, b] env = [(false, eval a env), (false, eval b env)] := by intro _; rfl) (hst2 : ∀ env, starEach [b] env = [(false, eval b env)] := by intro _; rfl) :
    RI B E W tg (.Call (.Name "range" p) [a, b] [] pos) (fun ρ g => bnd (fs ρ g) rangeD2) := by
  obtain ⟨t, pt, q⟩ := h
  refine ⟨iRng2 t, fun X c => pi_range2 (by unfold Gl Env.kindOf; rw [c.hs]; exact hg) (by rw [c.hmg]; exact hm) (pt X c) (hst _) (hst2 _), fun σ ρ Hb H1 g K pr h => ?_⟩
  refine q σ ρ Hb H1 g _ pr (h.bnd fun ds g1 k vs Hb2 H2 gr r xs => ?_)
  unfold rangeD2 at k
  cases xs with
  | nil => exact False.elim k
  | cons x xs =>
    cases xs with
    | nil => cases x <;> exact False.elim k
    | cons y xs =>
      cases xs with
      | cons _ _ => cases x <;> cases y <;> exact False.elim k
      | nil =>
        cases x <;> cases y <;> first | exact False.elim k | skip
        rename_i i j
        dsimp only at k
        by_cases hc : -(2 ^ 62) ≤ i ∧ i < 2 ^ 62 ∧ -(2 ^ 62) ≤ j ∧ j < 2 ^ 62
        · rw [if_pos hc] at k
          exact ⟨i, j, rfl, hc, k _ _ _ gr r (walk_range i _)⟩
        · rw [if_neg hc] at k; exact False.elim k

end
end DV
set_option Elab.async false
set_option linter.all false
set_option maxRecDepth 100000
set_option maxHeartbeats 4000000
namespace DV
open PySem PySem.Spec PyProof.Rows L2
open Evl (Ex)

/-! ### targets: names, tuples of names -/
def setAll {α : Type} (l : List (Option α)) : List Nat → List α → List (Option α)
  | i :: is, v :: vs => setAll (l.set i (some v)) is vs
  | _, _ => l
@[simp] theorem setAll_nil {α : Type} (l : List (Option α)) (vs : List α) : setAll l [] vs = l := by unfold setAll; rfl
@[simp] theorem setAll_cons {α : Type} (l : List (Option α)) (i : Nat) (is : List Nat) (v : α) (vs : List α) : setAll l (i :: is) (v :: vs) = setAll (l.set i (some v)) is vs := rfl
theorem setAll_length {α : Type} : ∀ (is : List Nat) (l : List (Option α)) (vs : List α), (setAll l is vs).length = l.length
  | [], l, vs => by rw [setAll_nil]
  | i :: is, l, [] => rfl
  | i :: is, l, v :: vs => by rw [setAll_cons, setAll_length is, List.length_set]
def RG (B : Bk) (E : En) (tg : Expr) (is : List Nat) (parts : D → Option (List D)) : Prop :=
  ∃ t : TG, (∀ W X, InC B E W X → PG X tg t) ∧ ∀ (Hb H : Hp) (σ : L2.St) (v : V) (d : D) (ds : List D) (Q : L2.St → Hp → Prop), Ex Hb H → Rp E.T Hb v d → parts d = some ds → (∀ vs, RpA E.T Hb vs ds → Q (setAll σ is vs) H) → t v σ H Q
section
variable {B : Bk} {E : En} {W : WX} {RR : RRel}
def oneD (d : D) : Option (List D) := some [d]
theorem RG_name (i : Nat) {x : PySem.Str} {pos : Pos} (hnd : B.N.Nodup) (hi : B.N[i]? = some x := by rfl) (hl : Loc B.sc x := by first | exact Or.inl rfl | exact Or.inr rfl) (hf : B.fn x = true ∨ B.sc.names.lookup x = some .local := by first | exact Or.inr rfl | exact Or.inl rfl) : RG B E (.Name x pos) [i] oneD :=
  ⟨gName i, fun W X c => pg_name (by rw [c.hN]; exact hnd) (by rw [c.hN]; exact hi) (by rw [c.hs]; exact hl) (by rw [c.hfn, c.hs]; exact hf), fun Hb H σ v d ds Q e r p h => by
    cases p
    exact h [v] (.cons r .nil)⟩
/-- a tuple of names -/
def RGs (B : Bk) (E : En) (tgs : List Expr) (is : List Nat) : Prop :=
  ∃ t : TGs, (∀ W X, InC B E W X → PGs X tgs t) ∧ ∀ (σ : L2.St) (H : Hp) (vs : List V) (Q : L2.St → Hp → Prop), vs.length = is.length → Q (setAll σ is vs) H → t vs σ H Q
theorem RGs_nil : RGs B E [] [] := ⟨gNil, fun W X c => pgs_nil, fun σ H vs Q hl h => by
  cases vs with
  | nil => exact ⟨rfl, h⟩
  | cons _ _ => cases hl⟩
theorem RGs_cons (i : Nat) {x : PySem.Str} {pos : Pos} {tgs : List Expr} {is : List Nat} (hs : RGs B E tgs is) (hnd : B.N.Nodup) (hi : B.N[i]? = some x := by rfl) (hl : Loc B.sc x := by first | exact Or.inl rfl | exact Or.inr rfl) (hf : B.fn x = true ∨ B.sc.names.lookup x = some .local := by first | exact Or.inr rfl | exact Or.inl rfl) :
    RGs B E (.Name x pos :: tgs) (i :: is) := by
  obtain ⟨t, p, q⟩ := hs
  refine ⟨gCons (gName i) t, fun W X c => pgs_cons (pg_name (by rw [c.hN]; exact hnd) (by rw [c.hN]; exact hi) (by rw [c.hs]; exact hl) (by rw [c.hfn, c.hs]; exact hf)) (p W X c), fun σ H vs Q hlen h => ?_⟩
  cases vs with
  | nil => cases hlen
  | cons v vs => exact ⟨v, vs, rfl, q _ H vs Q (by simpa using hlen) h⟩
def tupD (n : Nat) (d : D) : Option (List D) := match d with
  | .tup ds => if ds.length = n then some ds else none
  | _ => none
theorem RG_tup {es : List Expr} {k : Nat} {pos : Pos} {is : List Nat} {n : Nat} (h : RGs B E es is) (hn : is.length = n := by rfl) (h1 : ∀ env, (assignEach es env).length = n := by intro _; rfl) (h2 : ∀ env, List.findIdx? (fun x => x.fst) (assignEach es env) = none := by intro _; rfl) : RG B E (.Tuple es k pos) is (tupD n) := by
  obtain ⟨t, p, q⟩ := h
  refine ⟨gTup E.T.K n t, fun W X c => by have := pg_tup (pos := pos) (k := k) c.calm (p W X c) (h1 _) (h2 _); rw [c.hK] at this; exact this, fun Hb H σ v d ds Q e r hp h => ?_⟩
  cases r <;> first | (simp [tupD] at hp; done) | skip
  rename_i a xs es' hq hr
  unfold tupD at hp
  dsimp only at hp
  by_cases hc : es'.length = n
  · rw [if_pos hc] at hp
    cases hp
    have hxl : xs.length = n := by rw [hr.length]; exact hc
    exact ⟨a, xs, rfl, Evl.ex_t e hq, hxl, q σ H xs Q (by rw [hxl, hn]) (h xs hr)⟩
  · rw [if_neg hc] at hp; cases hp

/-! ### list comprehensions -/
def wipeR (ρ : Rho) : List Nat → Rho
  | [] => ρ
  | v :: vs => (wipeR ρ vs).set v none
theorem Sl.set {T : Tx} {H : Hp} {σ : L2.St} {ρ : Rho} (h : Sl T H σ ρ) {i : Nat} {v : V} {d : D} (r : Rp T H v d) (hl : σ.length = ρ.length) : Sl T H (σ.set i (some v)) (ρ.set i (some d)) := fun j e q => by
  by_cases hj : i = j
  · subst hj
    have hlt : i < ρ.length := by
      have := (List.getElem?_eq_some_iff.mp q).1
      rw [List.length_set] at this; exact this
    rw [List.getElem?_set_self hlt] at q
    cases q
    exact ⟨v, by rw [List.getElem?_set_self (by omega)], r⟩
  · rw [List.getElem?_set_ne hj] at q ⊢
    exact h j e q
theorem Sl.setNone {T : Tx} {H : Hp} {σ : L2.St} {ρ : Rho} (h : Sl T H σ ρ) (i : Nat) : Sl T H (σ.set i none) (ρ.set i none) := fun j e q => by
  by_cases hj : i = j
  · subst hj
    have hlt : i < ρ.length := by
      have := (List.getElem?_eq_some_iff.mp q).1
      rw [List.length_set] at this; exact this
    rw [List.getElem?_set_self hlt] at q
    cases q
  · rw [List.getElem?_set_ne hj] at q ⊢
    exact h j e q
theorem wipeR_length (ρ : Rho) : ∀ vs : List Nat, (wipeR ρ vs).length = ρ.length
  | [] => rfl
  | v :: vs => by unfold wipeR; rw [List.length_set, wipeR_length ρ vs]
theorem Sl.wipe {T : Tx} {H : Hp} {σ : L2.St} {ρ : Rho} (h : Sl T H σ ρ) : ∀ vs : List Nat, Sl T H (L2.wipe σ vs) (wipeR ρ vs)
  | [] => h
  | v :: vs => by unfold L2.wipe wipeR; exact (h.wipe vs).setNone v
theorem Sl.setAll {T : Tx} {H : Hp} : ∀ {is : List Nat} {vs : List V} {ds : List D} {σ : L2.St} {ρ : Rho}, Sl T H σ ρ → RpA T H vs ds → σ.length = ρ.length → Sl T H (DV.setAll σ is vs) (DV.setAll ρ is ds)
  | [], _, _, _, _, h, _, _ => by rw [setAll_nil, setAll_nil]; exact h
  | i :: is, _, _, _, _, h, .nil, _ => h
  | i :: is, _, _, _, _, h, .cons r rs, hl => by
    rw [setAll_cons, setAll_cons]
    exact Sl.setAll (h.set r hl) rs (by rw [List.length_set, List.length_set]; exact hl)
theorem wipe_get {σ : L2.St} {j : Nat} : ∀ {vs : List Nat}, (L2.wipe σ vs)[j]? = if j ∈ vs ∧ j < σ.length then some none else σ[j]?
  | [] => by simp [L2.wipe]
  | v :: vs => by
    unfold L2.wipe
    by_cases hj : v = j
    · subst hj
      by_cases hlt : v < σ.length
      · rw [List.getElem?_set_self (by rw [wipe_length]; exact hlt), if_pos ⟨List.mem_cons_self, hlt⟩]
      · rw [List.getElem?_eq_none (by rw [List.length_set, wipe_length]; omega), if_neg (fun z => hlt z.2), List.getElem?_eq_none (by omega)]
    · rw [List.getElem?_set_ne hj, wipe_get (vs := vs)]
      have : (j ∈ v :: vs) = (j ∈ vs) := by simp [Ne.symm hj]
      simp only [this]
theorem wipe_set {σ : L2.St} {vs : List Nat} {i : Nat} (hi : i ∈ vs) (o : Option V) : L2.wipe (σ.set i o) vs = L2.wipe σ vs := by
  apply List.ext_getElem?
  intro j
  rw [wipe_get, wipe_get, List.length_set]
  by_cases hj : i = j
  · subst hj
    by_cases hlt : i < σ.length
    · rw [if_pos ⟨hi, hlt⟩, if_pos ⟨hi, hlt⟩]
    · rw [if_neg (fun z => hlt z.2), if_neg (fun z => hlt z.2), List.getElem?_eq_none (by rw [List.length_set]; omega), List.getElem?_eq_none (by omega)]
  · rw [List.getElem?_set_ne hj]
theorem wipe_wipe {σ : L2.St} {vs : List Nat} : L2.wipe (L2.wipe σ vs) vs = L2.wipe σ vs := by
  apply List.ext_getElem?
  intro j
  simp only [wipe_get, wipe_length]
  by_cases hj : j ∈ vs ∧ j < σ.length
  · rw [if_pos hj, if_pos hj]
  · rw [if_neg hj]
theorem wipe_setAll {vs : List Nat} : ∀ {is : List Nat} {us : List V} {σ : L2.St}, (∀ i ∈ is, i ∈ vs) → L2.wipe (DV.setAll σ is us) vs = L2.wipe σ vs
  | [], _, _, _ => by rw [setAll_nil]
  | i :: is, [], _, _ => rfl
  | i :: is, u :: us, σ, h => by
    rw [setAll_cons, wipe_setAll fun k hk => h k (List.mem_cons_of_mem _ hk), wipe_set (h i List.mem_cons_self)]

/-- the tests of a comprehension -/
def RTs (B : Bk) (E : En) (W : WX) (ifs : List Expr) (f : Rho → E.G → Out E.G Bool) : Prop :=
  ∃ t : TT, (∀ X, InC B E W X → PTs X ifs t) ∧ ∀ σ ρ Hb H1 g Q, Pr E σ ρ Hb H1 g → Post E W σ Hb H1 (okT E Hb H1 Q) (f ρ g) → t σ H1 Q
theorem RTs_nil : RTs B E W [] (fun _ g => .ok true g) := ⟨tYes, fun X c => pts_nil, fun σ ρ Hb H1 g Q pr h => h _ _ (Gr.refl pr.ex) pr.r⟩
theorem RTs_one {c : Expr} {f : Rho → E.G → Out E.G Bool} (h : RT B E W c f) : RTs B E W [c] f := by
  obtain ⟨t, p, q⟩ := h
  exact ⟨t, fun X c => pts_one (p X c), q⟩
def bndN {G α β : Type} (m : Out G α) (k : α → G → Out G β) : Out G β := match m with
  | .ok a g => k a g
  | _ => .stk
@[simp] theorem bndN_ok {G α β : Type} (a : α) (g : G) (k : α → G → Out G β) : bndN (.ok a g) k = k a g := rfl
@[simp] theorem bndN_stk {G α β : Type} (k : α → G → Out G β) : bndN (.stk : Out G α) k = .stk := rfl
def compD {G : Type} (parts : D → Option (List D)) (is : List Nat) (fc : Rho → G → Out G Bool) (fe : Rho → G → Out G D) (ρ : Rho) : List D → G → Out G (List D)
  | [], g => .ok [] g
  | d :: r, g => match parts d with
    | none => .stk
    | some ds => bndN (fc (setAll ρ is ds) g) fun b g => match b with
      | true => bndN (fe (setAll ρ is ds) g) fun y g => bnd (compD parts is fc fe ρ r g) fun ys g => .ok (y :: ys) g
      | false => compD parts is fc fe ρ r g
def lenC {G α : Type} (ds : List D) (k : Out G α) : Out G α := if ds.length ≤ sizeLine then k else .stk
theorem lenC_of {G α : Type} {ds : List D} {k : Out G α} (h : ds.length ≤ 100000) : lenC ds k = k := if_pos (Evl.sz_of h)
theorem Gr.mut {S : Addr → Prop} {Hb H1 Hb2 H2 : Hp} {p : Addr} {o : HO} (g : Gr S Hb H1 Hb2 H2) (n : H1 p = none) (nb : Hb2 p = none) : Gr S Hb H1 Hb2 (upd H2 p o) :=
  ⟨g.base, fun a u h hs => by
    have q : a ≠ p := fun z => by subst z; rw [n] at h; cases h
    rw [upd_ne q]; exact g.top a u h hs, Ex.mut g.sub nb, g.hid, fun a h => by
    have q : a ≠ p := fun z => by subst z; exact h n
    rw [upd_ne q]; exact g.here a h⟩
/-- the block of a comprehension -/
def Bk.comp (B : Bk) (scope : Scope) : Bk := ⟨B.N, relS scope B.sc, fun x => scope.names.lookup x == some .cell, none⟩
abbrev W0x : WX := fun _ _ _ _ => False
theorem InC.comp {X : Cx} (c : InC B E W X) {s : Shared} {H : Hp} {scope : Scope} {C : Addr} {cl : List (PySem.Str × Addr)} {fp : List Addr} : InC (B.comp scope) E W0x (X.blk s H scope (compEnvC scope cl C X.env) fp) where
  hN := c.hN
  hs := by show relabel scope X.env = relS scope B.sc; rw [← c.hs]; rfl
  hfn := rfl
  hP := c.hP
  hw := c.hw
  hK := c.hK
  hmg := c.hmg
  hb := c.hb
  room := c.room
  gd := c.gd
  calm := c.calm
  tk := LamX.takes0
  hcq := fun _ _ z => nomatch z
theorem not_S {g : E.G} {H : Hp} (r : E.R H g) {p : Addr} (n : H p = none) : ¬ E.S p := fun z => E.wd.inS H g r p z n
theorem R_mut {g : E.G} {H : Hp} {p : Addr} {o u0 : HO} (r : E.R H g) (n : ¬ E.S p) (h0 : H p = some u0) (hx : ∀ φ, u0 ≠ .ext φ) : E.R (upd H p o) g := E.wd.stay _ _ _ r (fun a u z h => by
  have q : a ≠ p := fun e => by subst e; exact n z
  rw [upd_ne q]; exact h) fun a φ h => by
  have q : a ≠ p := fun e => by
    subst e
    rw [h0] at h
    exact hx φ (Option.some.inj h)
  rw [upd_ne q]; exact h
theorem tLc_post {wi : TI} {tgt : TG} {tt : TT} {te : TE} {vs : List Nat} {is : List Nat} {parts : D → Option (List D)} {fi : Rho → E.G → Out E.G (List D)} {fc : Rho → E.G → Out E.G Bool} {fe : Rho → E.G → Out E.G D}
    (qi : ∀ σ ρ Hb H1 g (K : It → Hp → Prop), Pr E σ ρ Hb H1 g → Post E W σ Hb H1 (fun ds g => ∀ J Hb2 H2, Gr E.S Hb H1 Hb2 H2 → E.R H2 g → WalkI E Hb2 ds J → K J H2) (fi ρ g) → wi σ H1 K)
    (qg : ∀ (Hb H : Hp) (σ : L2.St) (v : V) (d : D) (ds : List D) (Q : L2.St → Hp → Prop), Ex Hb H → Rp E.T Hb v d → parts d = some ds → (∀ vs, RpA E.T Hb vs ds → Q (setAll σ is vs) H) → tgt v σ H Q)
    (qt : ∀ σ ρ Hb H1 g Q, Pr E σ ρ Hb H1 g → Post E W0x σ Hb H1 (okT E Hb H1 Q) (fc ρ g) → tt σ H1 Q)
    (qe : ∀ σ ρ Hb H1 g Q, Pr E σ ρ Hb H1 g → Post E W0x σ Hb H1 (okE E Rs Hb H1 Q) (fe ρ g) → te σ H1 Q) (hv : ∀ i ∈ is, i ∈ vs) :
    ∀ σ ρ Hb H1 g Q, Pr E σ ρ Hb H1 g → Post E W σ Hb H1 (okE E Rf Hb H1 Q) (bnd (fi ρ g) fun ds g => lenC ds (bnd (compD parts is fc fe (wipeR ρ vs) ds g) fun ys g => .ok (.lst ys) g)) → tLc wi tgt tt te vs σ H1 Q := by
  intro σ ρ Hb H1 g Q pr h
  have hlen := pr.len
  refine qi σ ρ Hb H1 g _ pr (h.bnd fun ds g1 k J Hb2 H2 gr r wk Dl hD => ?_)
  unfold lenC at k
  by_cases hz : ds.length ≤ sizeLine
  case neg => rw [if_neg hz] at k; exact False.elim k
  rw [if_pos hz] at k
  have pr2 := pr.step gr r
  have nS : ¬ E.S Dl := not_S r hD
  refine ⟨fun i m H => m = ds.length - i ∧ i ≤ ds.length ∧ ∃ Hb' g' acc dacc, Gr E.S Hb2 H2 Hb' H ∧ Hb' Dl = none ∧ H Dl = some (.lst acc) ∧ E.R H g' ∧ RpA E.T Hb' acc dacc ∧ dacc.length ≤ i ∧
      Post E W σ Hb H1 (okE E Rf Hb H1 Q) (bnd (compD parts is fc fe (wipeR ρ vs) (ds.drop i) g') fun ys g => .ok (.lst (dacc ++ ys)) g),
    ⟨ds.length, by simp, Nat.zero_le _, Hb2, g1, [], [], Gr.newH gr.sub hD, Evl.fresh_back gr.sub hD, upd_same, R_new r hD, .nil, Nat.le_refl _, by simpa using k⟩, ?_⟩
  rintro i m H ⟨rfl, hi, Hb', g', acc, dacc, gr', nb, hDl, r', ra, hda, hp⟩
  have pr' := pr2.step gr' r'
  obtain ⟨w1, w2⟩ := wk Hb' H g' gr'.base gr'.sub r' pr'.hd
  rcases Nat.lt_or_ge i ds.length with hlt | hge
  · right
    have hdi : ds[i]? = some ds[i] := List.getElem?_eq_getElem hlt
    obtain ⟨hgo, hy⟩ := w1 i ds[i] hdi
    refine ⟨hgo, fun H' => ∃ Hb' g' acc dacc, Gr E.S Hb2 H2 Hb' H' ∧ Hb' Dl = none ∧ H' Dl = some (.lst acc) ∧ E.R H' g' ∧ RpA E.T Hb' acc dacc ∧ dacc.length ≤ i + 1 ∧
      Post E W σ Hb H1 (okE E Rf Hb H1 Q) (bnd (compD parts is fc fe (wipeR ρ vs) (ds.drop (i + 1)) g') fun ys g => .ok (.lst (dacc ++ ys)) g), fun H' hN => ⟨ds.length - (i + 1), by omega, rfl, hlt, hN⟩, fun x H' hyl => ?_⟩
    obtain ⟨Hbx, rx, grx, hx⟩ := hy x H' hyl
    have hdrop : ds.drop i = ds[i] :: ds.drop (i + 1) := List.drop_eq_getElem_cons hlt
    rw [hdrop] at hp
    simp only [compD] at hp
    cases hpa : parts ds[i] with
    | none => rw [hpa] at hp; exact False.elim hp
    | some es =>
      rw [hpa] at hp
      dsimp only at hp
      refine qg Hbx H' (L2.wipe σ vs) x ds[i] es _ grx.sub hx hpa fun us hus => ⟨by rw [wipe_setAll hv, wipe_wipe], ?_⟩
      have gx := gr'.trans grx
      have prx : Pr E (setAll (L2.wipe σ vs) is us) (setAll (wipeR ρ vs) is es) Hbx H' g' := ⟨by rw [setAll_length, setAll_length, wipe_length, wipeR_length]; exact hlen, Sl.setAll ((pr2.sl.wipe vs).mono gx.base) hus (by rw [wipe_length, wipeR_length]; exact hlen), gx.sub, (pr2.step gx (rx g' r')).hd, rx g' r'⟩
      have nbx : Hbx Dl = none := grx.hid Dl (ne_none_of hDl) nb
      have hDx : H' Dl = some (.lst acc) := grx.top Dl _ hDl nS
      cases hc : fc (setAll (wipeR ρ vs) is es) g' with
      | err e gq => rw [hc] at hp; exact False.elim hp
      | stk => rw [hc] at hp; exact False.elim hp
      | ok b gc =>
        rw [hc] at hp
        simp only [bndN_ok] at hp
        refine qt _ _ Hbx H' g' _ prx ?_
        rw [hc]
        intro Hb3 H3 gr3 r3
        have nb3 : Hb3 Dl = none := gr3.hid Dl (ne_none_of hDx) nbx
        have hD3 : H3 Dl = some (.lst acc) := gr3.top Dl _ hDx nS
        have g03 := gx.trans gr3
        cases b with
        | false => exact ⟨Hb3, gc, acc, dacc, g03, nb3, hD3, r3, ra.mono (grx.base.trans gr3.base), by omega, hp⟩
        | true =>
          cases he : fe (setAll (wipeR ρ vs) is es) gc with
          | err e gq => simp only [he] at hp; exact False.elim hp
          | stk => simp only [he] at hp; exact False.elim hp
          | ok y ge =>
            simp only [he, bndN_ok] at hp
            show te _ H3 _
            refine qe _ _ Hb3 H3 gc _ (prx.step gr3 r3) ?_
            rw [he]
            intro v Hb4 H4 gr4 r4 ry
            have nb4 : Hb4 Dl = none := gr4.hid Dl (ne_none_of hD3) nb3
            have hD4 : H4 Dl = some (.lst acc) := gr4.top Dl _ hD3 nS
            have hal : acc.length ≤ i := by rw [ra.length]; exact hda
            refine ⟨acc, hD4, by omega, Hb4, ge, acc ++ [v], dacc ++ [y], (g03.trans gr4).mut hD nb4, nb4, upd_same, R_mut r4 nS hD4 (fun φ => nofun), (ra.mono (grx.base.trans (gr3.base.trans gr4.base))).append (.cons ry .nil), by rw [List.length_append]; simp; omega, ?_⟩
            cases hr : compD parts is fc fe (wipeR ρ vs) (ds.drop (i + 1)) ge with
            | ok ys g5 => rw [hr] at hp; simpa using hp
            | err e g5 => rw [hr] at hp; exact hp
            | stk => rw [hr] at hp; exact False.elim hp
  · left
    have hdrop : ds.drop i = [] := List.drop_eq_nil_of_le hge
    rw [hdrop] at hp
    simp only [compD, bnd_ok, List.append_nil] at hp
    refine ⟨w2 i hge, hp (.ref Dl) Hb' H (gr.trans gr') r' (.inr (.inl ⟨Dl, acc, dacc, rfl, rfl, none_back gr hD, nb, hDl, ra⟩))⟩
theorem RF_lc {elt tg iter : Expr} {ifs : List Expr} {scope : Scope} {pos : Pos} {is : List Nat} {parts : D → Option (List D)} {fi : Rho → E.G → Out E.G (List D)} {fc : Rho → E.G → Out E.G Bool} {fe : Rho → E.G → Out E.G D} (own : List (PySem.Str × Nat)) (hnd : B.N.Nodup)
    (hi : RI B E W tg iter fi) (hg : RG (B.comp scope) E tg is parts) (ht : RTs (B.comp scope) E W0x ifs fc) (he : RE (B.comp scope) E W0x elt fe) (ok : blkC B.N B.sc scope own = true) (hv : ∀ i ∈ is, i ∈ own.map (·.2)) (hs : ∀ env x, foldedSetIterable iter env x = pure x := by intro _ _; rfl) :
    RF B E W (.ListComp elt [⟨tg, iter, ifs, 0⟩] scope pos) (fun ρ g => bnd (fi ρ g) fun ds g => lenC ds (bnd (compD parts is fc fe (wipeR ρ (own.map (·.2))) ds g) fun ys g => .ok (.lst ys) g)) := by
  obtain ⟨wi, pi, qi⟩ := hi
  obtain ⟨t, p, q⟩ := hg
  obtain ⟨tt, pt, qt⟩ := ht
  obtain ⟨te, pe, qe⟩ := he
  exact ⟨tLc wi t tt te (own.map (·.2)), fun X c => pe_lc c.calm (by rw [c.hN]; exact hnd) (pi X c) (blkOk_by (by rw [c.hN, c.hs]; exact ok)) (fun _ _ _ _ _ => p W0x _ c.comp) (fun _ _ _ _ _ => pt _ c.comp) (fun _ _ _ _ _ => pe _ c.comp) (hs _), tLc_post qi q qt qe hv⟩
end
end DV
set_option Elab.async false
set_option linter.all false
set_option maxRecDepth 100000
set_option maxHeartbeats 4000000
namespace DV
open PySem PySem.Spec PyProof.Rows L2
open Evl (Ex)

/-! ### defs: promises that know that no repr is under way -/
structure FnG (P : Program) (w : World) (K : PySem.W.Frag) (mg : PySem.Str → Option Value) (base : Heap) (k : Nat) (f : Addr) (fd : FuncData) (ps : List PySem.Str) (sp : Sp) : Prop where
  len : ∀ vs H Q E, sp vs H Q E → vs.length = ps.length
  run : ∀ (A : Around) (outer : List Env) (s : Shared) (H : Hp) (args : Args) (us : List Value) (vs : List V) (Q : VK) (E : XK), Room k A → A.guards = some [] → Env0 P w K mg base A outer s H → BindsTo s fd args (ps.zip us) → Vals vs us → sp vs H Q E →
    codeAny (model P w) A (.call (.ref f) args) (CR (L2.CX P w) outer P w H s Q E) s
/-- what a call of F leaves -/
def PostF (T : Tx) (wd : Wd) (RR : RRel) (Hb H : Hp) (Q : VK) (E : XK) : Out wd.G D → Prop
  | .ok d g => ∀ v Hb2 H2, Gr wd.S Hb H Hb2 H2 → wd.R H2 g → RR T H Hb2 H2 v d → Q v H2
  | .err e g => ∀ cv dd Hb2 H2, Gr wd.S Hb H Hb2 H2 → wd.R H2 g → Xr T Hb2 cv dd e → E cv dd H2
  | .stk => False
/-- a def computes F -/
def spD (T : Tx) (wd : Wd) (RR : RRel) (n : Nat) (F : List D → wd.G → Out wd.G D) : Sp := fun vs H Q E =>
  ∃ Hb ds g, vs.length = n ∧ Ex Hb H ∧ (∀ a, wd.S a → Hb a = none) ∧ wd.R H g ∧ RpA T Hb vs ds ∧ PostF T wd RR Hb H Q E (F ds g)
/-- a def computes F and touches nothing else, whatever the world -/
def spP (K : PySem.W.Frag) (mg : PySem.Str → Option Value) (RR : RRel) (n : Nat) (F : List D → Unit → Out Unit D) : Sp := fun vs H Q E => ∃ hd, spD ⟨K, mg, hd⟩ W0 RR n F vs H Q E

section
variable {B : Bk} {E : En} {W : WX} {RR : RRel}
theorem run_G {X : Cx} {pins : List (Addr × Obj)} {σ : L2.St} {H : Hp} {s : Shared} {Q : VK} {j : Nat} {f : Addr} {fd : FuncData} {ps : List PySem.Str} {sp : Sp} {us : List Value} {kw : List (PySem.Str × Value)} {ws : List Value} {vs : List V} (c : InC B E W X)
    (F : FnG E.P E.w E.T.K E.T.mg E.base j f fd ps sp) (hj : j ≤ E.k) (I : Inv X pins σ H s) (hb : BindsTo s fd ⟨us, kw⟩ (ps.zip ws)) (r : Vals vs ws) (h : sp vs H Q fun cv dd H2 => W cv dd σ H2) :
    wpAny (model X.prog X.w) X.A (call (.ref f) us kw) (EP X pins σ Q) X.xe s := by
  have e0 := I.env0
  have F2 := F.run X.A X.stack s H ⟨us, kw⟩ ws vs Q (fun cv dd H2 => W cv dd σ H2) (c.room.mono hj) c.gd (by have := e0; rw [c.hP, c.hw, c.hK, c.hmg, c.hb] at this; exact this) hb r h
  rw [← c.hP, ← c.hw] at F2
  refine wpAny_call (codeAny_mono F2 fun r s' hq => ?_)
  cases r with
  | error e => exact c.tk e s' (XE.of_call I (fun _ _ _ z => z) hq)
  | ok fl =>
    cases fl with
    | ret u => exact I.after hq
    | next => exact False.elim hq
    | brk => exact False.elim hq
    | cont => exact False.elim hq
/-- f(e, ..) -/
def tCallW (sp : Sp) (W : WX) (t : TA) : TE := fun σ H Q => t σ H fun vs H1 => sp vs H1 Q fun cv dd H2 => W cv dd σ H2
theorem pe_callG {X : Cx} {j : Nat} {f : Addr} {fd : FuncData} {ps : List PySem.Str} {sp : Sp} {x : PySem.Str} {p pos : Pos} {e : Expr} {es : List Expr} {t : TA} (c : InC B E W X) (F : FnG E.P E.w E.T.K E.T.mg E.base j f fd ps sp) (hj : j ≤ E.k) (hg : Gn B.sc x) (hm : E.T.mg x = some (.ref f))
    (hk : PySem.W.keepIn E.T.K (.ref f) = true) (hb : Binds E.T.K fd ps []) (ha : PA X (e :: es) t) (hdb : (x == ("__debug__" : PySem.Str)) = false) (he : starEach (e :: es) X.env = (false, eval e X.env) :: starEach es X.env) (hpl : (backTo pos (starEach es X.env)).any (·.1) = false) :
    PE X (.Call (.Name x p) (e :: es) [] pos) (tCallW sp W t) := by
  refine ⟨fun pins s σ H Q I h => wpAny_Call_Name_kw (ld_glob I (by unfold Gl Env.kindOf; rw [c.hs]; exact hg) (by rw [c.hmg]; exact hm) ?_ hdb)⟩
  refine PySem.W.callWith_K (h₀ := X.base) I.ok.mod.kin (by rw [c.hK]; exact hk) (thn (ha.run pos pins s σ H _ I h) fun us s1 ⟨vs, H1, I1, r, q⟩ => ⟨I1.kIn, ?_⟩) he hpl
  have hl : us.length = ps.length := by rw [← r.length]; exact F.len _ _ _ _ q
  have b := hb s1 us (by have := I1.kIn; rw [c.hK] at this; exact this) (by simpa using hl)
  rw [List.append_nil] at b
  exact run_G c F hj I1 b r q
theorem vals_perm {vs : List V} {ws : List Value} (r : Vals vs ws) : ∀ (pm : List Nat) (us : List V), pm.map (fun i => vs[i]?) = us.map some → ∃ zs, pm.map (fun i => ws[i]?) = zs.map some ∧ Vals us zs
  | [], [], _ => ⟨[], rfl, .nil⟩
  | [], _ :: _, e => by cases e
  | _ :: _, [], e => by cases e
  | i :: pm, u :: us, e => by
    simp only [List.map_cons, List.cons.injEq] at e
    obtain ⟨zs, h1, h2⟩ := vals_perm r pm us e.2
    obtain ⟨z, hz1, hz2⟩ := r.get e.1
    exact ⟨z :: zs, by simp only [List.map_cons, h1, hz1], .cons hz2 h2⟩
/-- f(k = e, ..), names alone -/
structure KwB (K : PySem.W.Frag) (fd : FuncData) (ps ks : List PySem.Str) (pm : List Nat) : Prop where
  to : ∀ (s : Shared) (ws zs : List Value), K.In s.heap → ws.length = ks.length → pm.map (fun i => ws[i]?) = zs.map some → BindsTo s fd ⟨[], ks.zip ws⟩ (ps.zip zs)
theorem pe_callKG {X : Cx} {j : Nat} {f : Addr} {fd : FuncData} {ps ks : List PySem.Str} {sp : Sp} {x : PySem.Str} {p pos : Pos} {kws : List Keyword} {t : TA} {pm : List Nat} (c : InC B E W X) (F : FnG E.P E.w E.T.K E.T.mg E.base j f fd ps sp) (hj : j ≤ E.k) (hg : Gn B.sc x) (hm : E.T.mg x = some (.ref f))
    (hk : PySem.W.keepIn E.T.K (.ref f) = true) (hb : KwB E.T.K fd ps ks pm) (ha : PK X kws t) (hdb : (x == ("__debug__" : PySem.Str)) = false) (hall : (backToKw pos (keywordEach kws X.env)).all (·.1.isSome) = true) (hks : (backToKw pos (keywordEach kws X.env)).filterMap (·.1) = ks)
    (hpl : ((backTo pos (starEach [] X.env)).any (·.1) || (backToKw pos (keywordEach kws X.env)).any (·.1.isNone)) = false) :
    PE X (.Call (.Name x p) [] kws pos) (fun σ H Q => t σ H fun vs H1 => vs.length = ks.length ∧ ∃ us, pm.map (fun i => vs[i]?) = us.map some ∧ sp us H1 Q fun cv dd H2 => W cv dd σ H2) := by
  refine ⟨fun pins s σ H Q I h => wpAny_Call_Name_kw (ld_glob I (by unfold Gl Env.kindOf; rw [c.hs]; exact hg) (by rw [c.hmg]; exact hm) ?_ hdb)⟩
  refine PySem.W.callWith_KW0 (h₀ := X.base) I.ok.mod.kin (by rw [c.hK]; exact hk) hall ?_ hpl
  refine thn (ha.run pos pins s σ H _ I h) fun ws s1 ⟨vs, H1, I1, r, l1, us, e1, q⟩ => ⟨I1.kIn, ?_⟩
  rw [hks]
  obtain ⟨zs, z1, z2⟩ := vals_perm r pm us e1
  exact run_G c F hj I1 (hb.to s1 ws zs (by have := I1.kIn; rw [c.hK] at this; exact this) (by rw [← r.length]; exact l1) z1) z2 q

/-- a call in its own world -/
theorem PostF_of {σ : L2.St} {Hb H1 : Hp} {Q : VK} {m : Out E.G D} (h : Post E W σ Hb H1 (okE E RR Hb H1 Q) m) : PostF E.T E.wd RR Hb H1 Q (fun cv dd H2 => W cv dd σ H2) m := by
  cases m with
  | ok d g => exact h
  | err e g => exact h
  | stk => exact h
/-- a call that touches nothing -/
def liftP {G : Type} (m : Out Unit D) (g : G) : Out G D := match m with
  | .ok d _ => .ok d g
  | .err e _ => .err e g
  | .stk => .stk
@[simp] theorem liftP_ok {G : Type} (d : D) (u : Unit) (g : G) : liftP (.ok d u) g = .ok d g := rfl
@[simp] theorem liftP_err {G : Type} (d : D) (u : Unit) (g : G) : liftP (.err d u) g = .err d g := rfl
@[simp] theorem liftP_stk {G : Type} (g : G) : liftP .stk g = .stk := rfl
theorem PostF_lift {σ : L2.St} {Hb H1 : Hp} {Q : VK} {m : Out Unit D} {g : E.G} (r : E.R H1 g) (h : Post E W σ Hb H1 (okE E RR Hb H1 Q) (liftP m g)) : PostF E.T W0 RR Hb H1 Q (fun cv dd H2 => W cv dd σ H2) m := by
  have st : ∀ {Hb2 H2}, Gr (fun _ => False) Hb H1 Hb2 H2 → E.R H2 g := fun gr => E.wd.stay _ _ _ r (fun a o _ q => gr.top a o q (fun z => z)) fun a φ q => gr.top a _ q (fun z => z)
  cases m with
  | ok d u => exact fun v Hb2 H2 gr _ x => h v Hb2 H2 (Gr.lift gr) (st gr) x
  | err e u => exact fun cv dd Hb2 H2 gr _ x => h cv dd Hb2 H2 (Gr.lift gr) (st gr) x
  | stk => exact h
section
variable {j : Nat} {f : Addr} {fd : FuncData} {ps ks : List PySem.Str} {x : PySem.Str} {p pos : Pos} {e : Expr} {es : List Expr} {n : Nat} {fs : Rho → E.G → Out E.G (List D)} {pm : List Nat} {kws : List Keyword}
def lenN {G : Type} (n : Nat) (ds : List D) (k : Out G D) : Out G D := if ds.length = n then k else .stk
@[simp] theorem lenN_of {G : Type} {n : Nat} {ds : List D} {k : Out G D} (h : ds.length = n) : lenN n ds k = k := if_pos h
theorem RX_call (Z : RBack RR) {Fn : List D → E.G → Out E.G D} (F : FnG E.P E.w E.T.K E.T.mg E.base j f fd ps (spD E.T E.wd RR n Fn)) (hj : j ≤ E.k) (hg : Gn B.sc x) (hm : E.T.mg x = some (.ref f)) (hk : PySem.W.keepIn E.T.K (.ref f) = true) (hb : Binds E.T.K fd ps []) (h : RA B E W (e :: es) fs)
    (hdb : (x == ("__debug__" : PySem.Str)) = false := by decide) (he : ∀ env, starEach (e :: es) env = (false, eval e env) :: starEach es env := by intro _; rfl) (hpl : ∀ env, (backTo pos (starEach es env)).any (·.1) = false := by intro _; rfl) :
    RX RR B E W (.Call (.Name x p) (e :: es) [] pos) (fun ρ g => bnd (fs ρ g) fun ds g => lenN n ds (Fn ds g)) := by
  obtain ⟨t, pt, q⟩ := h
  refine ⟨_, fun X c => pe_callG c F hj hg hm hk hb (pt X c) hdb (he _) (hpl _), fun σ ρ Hb H1 g Q pr h => q σ ρ Hb H1 g _ pr (h.bnd fun ds g1 k vs Hb2 H2 gr r xs => ?_)⟩
  have pr2 := pr.step gr r
  unfold lenN at k
  by_cases hn : ds.length = n
  · rw [if_pos hn] at k
    exact ⟨Hb2, ds, g1, by rw [xs.length]; exact hn, pr2.ex, pr2.hd, r, xs, PostF_of (k.step gr fun _ _ k => okE.step Z k gr)⟩
  · rw [if_neg hn] at k; exact False.elim k
theorem RX_callP (Z : RBack RR) {Fn : List D → Unit → Out Unit D} (F : FnG E.P E.w E.T.K E.T.mg E.base j f fd ps (spP E.T.K E.T.mg RR n Fn)) (hj : j ≤ E.k) (hg : Gn B.sc x) (hm : E.T.mg x = some (.ref f)) (hk : PySem.W.keepIn E.T.K (.ref f) = true) (hb : Binds E.T.K fd ps []) (h : RA B E W (e :: es) fs)
    (hdb : (x == ("__debug__" : PySem.Str)) = false := by decide) (he : ∀ env, starEach (e :: es) env = (false, eval e env) :: starEach es env := by intro _; rfl) (hpl : ∀ env, (backTo pos (starEach es env)).any (·.1) = false := by intro _; rfl) :
    RX RR B E W (.Call (.Name x p) (e :: es) [] pos) (fun ρ g => bnd (fs ρ g) fun ds g => lenN n ds (liftP (Fn ds ()) g)) := by
  obtain ⟨t, pt, q⟩ := h
  refine ⟨_, fun X c => pe_callG c F hj hg hm hk hb (pt X c) hdb (he _) (hpl _), fun σ ρ Hb H1 g Q pr h => q σ ρ Hb H1 g _ pr (h.bnd fun ds g1 k vs Hb2 H2 gr r xs => ?_)⟩
  have pr2 := pr.step gr r
  unfold lenN at k
  by_cases hn : ds.length = n
  · rw [if_pos hn] at k
    exact ⟨E.T.hid, Hb2, ds, (), by rw [xs.length]; exact hn, pr2.ex, fun _ z => z.elim, True.intro, xs, PostF_lift r (k.step gr fun _ _ k => okE.step Z k gr)⟩
  · rw [if_neg hn] at k; exact False.elim k
/-- the values of keywords -/
def RK (B : Bk) (E : En) (W : WX) (kws : List Keyword) (f : Rho → E.G → Out E.G (List D)) : Prop :=
  ∃ t : TA, (∀ X, InC B E W X → PK X kws t) ∧ ∀ σ ρ Hb H1 g Q, Pr E σ ρ Hb H1 g → Post E W σ Hb H1 (okA E Hb H1 Q) (f ρ g) → t σ H1 Q
theorem RK_nil : RK B E W [] (fun _ g => .ok [] g) := ⟨tNil, fun X c => pk_nil, fun σ ρ Hb H1 g Q pr h => h [] _ _ (Gr.refl pr.ex) pr.r .nil⟩
theorem RK_cons {nm : Option PySem.Str} {kpos : Pos} {f : Rho → E.G → Out E.G D} {fs : Rho → E.G → Out E.G (List D)} (h : RE B E W e f) (hs : RK B E W kws fs) : RK B E W (⟨nm, e, kpos⟩ :: kws) (fun ρ g => bnd (f ρ g) fun d g => bnd (fs ρ g) fun ds g => .ok (d :: ds) g) := by
  obtain ⟨t, p, q⟩ := h
  obtain ⟨t2, p2, q2⟩ := hs
  refine ⟨tCons t t2, fun X c => pk_cons (p X c) (p2 X c), fun σ ρ Hb H1 g Q pr h => ?_⟩
  refine q σ ρ Hb H1 g _ pr (h.bnd fun d g1 k v Hb2 H2 gr r x => ?_)
  have pr2 := pr.step gr r
  refine q2 σ ρ Hb2 H2 g1 _ pr2 (Post.bnd (k.step gr fun _ _ k => okA.step k gr) fun ds g2 k vs Hb3 H3 gr2 r2 xs => ?_)
  exact k (v :: vs) _ _ gr2 r2 (.cons (x.mono gr2.base) xs)
/-- the values in the parameters' sequence -/
def permD (pm : List Nat) (ds : List D) : Option (List D) := match pm with
  | [] => some []
  | i :: r => match ds[i]?, permD r ds with
    | some d, some es => some (d :: es)
    | _, _ => none
theorem RpA.perm {T : Tx} {H : Hp} {vs : List V} {ds : List D} (r : RpA T H vs ds) : ∀ {pm : List Nat} {es : List D}, permD pm ds = some es → ∃ us, pm.map (fun i => vs[i]?) = us.map some ∧ RpA T H us es
  | [], _, h => by cases h; exact ⟨[], rfl, .nil⟩
  | i :: pm, es, h => by
    unfold permD at h
    cases q : ds[i]? with
    | none => rw [q] at h; cases h
    | some d =>
      cases q2 : permD pm ds with
      | none => rw [q, q2] at h; cases h
      | some fs =>
        rw [q, q2] at h
        cases h
        obtain ⟨v, h1, h2⟩ := r.getD q
        obtain ⟨us, h3, h4⟩ := RpA.perm r q2
        exact ⟨v :: us, by simp only [List.map_cons, h1, h3], .cons h2 h4⟩
theorem RX_callKP (Z : RBack RR) {Fn : List D → Unit → Out Unit D} (F : FnG E.P E.w E.T.K E.T.mg E.base j f fd ps (spP E.T.K E.T.mg RR n Fn)) (hj : j ≤ E.k) (hg : Gn B.sc x) (hm : E.T.mg x = some (.ref f)) (hk : PySem.W.keepIn E.T.K (.ref f) = true) (hb : KwB E.T.K fd ps ks pm) (h : RK B E W kws fs)
    (hdb : (x == ("__debug__" : PySem.Str)) = false := by decide) (hall : ∀ env, (backToKw pos (keywordEach kws env)).all (·.1.isSome) = true := by intro _; rfl) (hks : ∀ env, (backToKw pos (keywordEach kws env)).filterMap (·.1) = ks := by intro _; rfl)
    (hpl : ∀ env, ((backTo pos (starEach [] env)).any (·.1) || (backToKw pos (keywordEach kws env)).any (·.1.isNone)) = false := by intro _; rfl) :
    RX RR B E W (.Call (.Name x p) [] kws pos) (fun ρ g => bnd (fs ρ g) fun ds g => if ds.length = ks.length then (match permD pm ds with
      | some es => lenN n es (liftP (Fn es ()) g)
      | none => .stk) else .stk) := by
  obtain ⟨t, pt, q⟩ := h
  refine ⟨_, fun X c => pe_callKG c F hj hg hm hk hb (pt X c) hdb (hall _) (hks _) (hpl _), fun σ ρ Hb H1 g Q pr h => q σ ρ Hb H1 g _ pr (h.bnd fun ds g1 k vs Hb2 H2 gr r xs => ?_)⟩
  have pr2 := pr.step gr r
  by_cases hl : ds.length = ks.length
  case neg => rw [if_neg hl] at k; exact False.elim k
  rw [if_pos hl] at k
  cases hp : permD pm ds with
  | none => rw [hp] at k; exact False.elim k
  | some es =>
    rw [hp] at k
    dsimp only at k
    unfold lenN at k
    obtain ⟨us, h1, h2⟩ := xs.perm hp
    by_cases hn : es.length = n
    · rw [if_pos hn] at k
      exact ⟨by rw [xs.length]; exact hl, us, h1, E.T.hid, Hb2, es, (), by rw [h2.length]; exact hn, pr2.ex, fun _ z => z.elim, True.intro, h2, PostF_lift r (k.step gr fun _ _ k => okE.step Z k gr)⟩
    · rw [if_neg hn] at k; exact False.elim k
end
end
end DV
set_option Elab.async false
set_option linter.all false
set_option maxRecDepth 100000
set_option maxHeartbeats 4000000
namespace DV
open PySem PySem.Spec PyProof.Rows L2
open Evl (Ex)

/-! ### the state between statements -/
/-- an object that one name alone holds -/
def Ow (T : Tx) (H0 Hb H : Hp) (a : Addr) (d : D) : Prop := H0 a = none ∧ Hb a = none ∧
  ((∃ xs ds, d = .lst ds ∧ H a = some (.lst xs) ∧ RpA T Hb xs ds) ∨ (∃ kvs ks vs, d = .dct ks vs ∧ H a = some (.dK kvs) ∧ ks = kvs.map (fun p => kD p.1) ∧ RpA T Hb (kvs.map fun p => p.2) vs))
theorem Ow.here {T : Tx} {H0 Hb H : Hp} {a : Addr} {d : D} (h : Ow T H0 Hb H a d) : ∃ o, H a = some o := by
  obtain ⟨_, _, ⟨xs, _, _, e, _⟩ | ⟨kvs, _, _, _, e, _⟩⟩ := h
  · exact ⟨_, e⟩
  · exact ⟨_, e⟩
/-- seen from now on -/
theorem Ow.rp {T : Tx} {H0 Hb H : Hp} {a : Addr} {d : D} {o : HO} (h : Ow T H0 Hb H a d) (e : H a = some o) : Rp T (upd Hb a o) (.ref a) d := by
  obtain ⟨_, nb, ⟨xs, ds, rfl, e2, r⟩ | ⟨kvs, ks, vs, rfl, e2, ek, r⟩⟩ := h
  · rw [e] at e2; cases e2
    exact .lst (.inl (.inl upd_same)) (r.mono (Ex.new nb))
  · rw [e] at e2; cases e2
    exact .dct (.inl upd_same) ek (r.mono (Ex.new nb))
structure SE (E : En) (Hb0 H0 : Hp) (O : Nat → Prop) (ρ : Rho) (σ : L2.St) (Hb H : Hp) : Prop where
  len : σ.length = ρ.length
  gr : Gr E.S Hb0 H0 Hb H
  hd : ∀ a, E.S a → Hb a = none
  s0 : ∀ a, E.S a → H0 a ≠ none
  sh : ∀ i d, ¬ O i → ρ[i]? = some (some d) → ∃ v, σ[i]? = some (some v) ∧ Rp E.T Hb v d
  ow : ∀ i d, O i → ρ[i]? = some (some d) → ∃ v, σ[i]? = some (some v) ∧ ((d.flat = true ∧ Rp E.T Hb v d) ∨ ∃ a, v = .ref a ∧ d.flat = false ∧ Ow E.T H0 Hb H a d)
  ap : ∀ i j d e a, O i → O j → i ≠ j → ρ[i]? = some (some d) → ρ[j]? = some (some e) → d.flat = false → e.flat = false → σ[i]? = some (some (.ref a)) → σ[j]? ≠ some (some (.ref a))
section
variable {E : En} {Hb0 H0 : Hp} {O : Nat → Prop} {ρ : Rho} {σ : L2.St} {Hb H Hb2 H2 : Hp}
theorem Ow.noS (h : SE E Hb0 H0 O ρ σ Hb H) {a : Addr} {d : D} (w : Ow E.T H0 Hb H a d) : ¬ E.S a := fun z => h.s0 a z w.1
theorem SE.congr {O' : Nat → Prop} (h : SE E Hb0 H0 O ρ σ Hb H) (e : ∀ i, i < ρ.length → (O i ↔ O' i)) : SE E Hb0 H0 O' ρ σ Hb H := by
  have lt : ∀ {i : Nat} {d : D}, ρ[i]? = some (some d) → i < ρ.length := fun q => (List.getElem?_eq_some_iff.mp q).1
  exact ⟨h.len, h.gr, h.hd, h.s0, fun i d n q => h.sh i d (fun z => n ((e i (lt q)).mp z)) q, fun i d o q => h.ow i d ((e i (lt q)).mpr o) q,
    fun i j d e' a o1 o2 ne q1 q2 => h.ap i j d e' a ((e i (lt q1)).mpr o1) ((e j (lt q2)).mpr o2) ne q1 q2⟩
/-- one name's object is seen from now on -/
theorem SE.freeze (h : SE E Hb0 H0 O ρ σ Hb H) (k : Nat) : ∃ Hb', Ex Hb Hb' ∧ SE E Hb0 H0 (fun j => O j ∧ j ≠ k) ρ σ Hb' H := by
  by_cases hO : O k
  case neg => exact ⟨Hb, Ex.refl _, h.congr fun i _ => ⟨fun z => ⟨z, fun e => hO (e ▸ z)⟩, fun z => z.1⟩⟩
  have same : (∀ d, ρ[k]? = some (some d) → ∃ v, σ[k]? = some (some v) ∧ Rp E.T Hb v d) → ∃ Hb', Ex Hb Hb' ∧ SE E Hb0 H0 (fun j => O j ∧ j ≠ k) ρ σ Hb' H := fun hk => by
    refine ⟨Hb, Ex.refl _, h.len, h.gr, h.hd, h.s0, fun i d n q => ?_, fun i d o q => h.ow i d o.1 q, fun i j d e a o1 o2 => h.ap i j d e a o1.1 o2.1⟩
    by_cases hi : i = k
    · subst hi; exact hk d q
    · exact h.sh i d (fun z => n ⟨z, hi⟩) q
  cases q : ρ[k]? with
  | none => exact same fun d z => by rw [q] at z; cases z
  | some o =>
    cases o with
    | none => exact same fun d z => by rw [q] at z; cases z
    | some d =>
      obtain ⟨v, hv, ⟨hf, hr⟩ | ⟨a, rfl, hnf, w⟩⟩ := h.ow k d hO q
      · exact same fun d' z => by rw [q] at z; cases z; exact ⟨v, hv, hr⟩
      · obtain ⟨o, ho⟩ := w.here
        have ex : Ex Hb (upd Hb a o) := Ex.new w.2.1
        have noS := w.noS h
        refine ⟨upd Hb a o, ex, h.len, h.gr.show w.1 w.2.1 ho, fun b hb => ?_, h.s0, fun i d' n q' => ?_, fun i d' o' q' => ?_, fun i j d e a o1 o2 => h.ap i j d e a o1.1 o2.1⟩
        · rw [upd_ne (fun z : b = a => noS (by rw [← z]; exact hb))]; exact h.hd b hb
        · by_cases hi : i = k
          · subst hi
            rw [q] at q'; cases q'
            exact ⟨_, hv, w.rp ho⟩
          · obtain ⟨u, h1, h2⟩ := h.sh i d' (fun z => n ⟨z, hi⟩) q'
            exact ⟨u, h1, h2.mono ex⟩
        · obtain ⟨u, h1, ⟨h2, h3⟩ | ⟨b, rfl, h2, w2⟩⟩ := h.ow i d' o'.1 q'
          · exact ⟨u, h1, .inl ⟨h2, h3.mono ex⟩⟩
          · have hba : b ≠ a := fun z => h.ap i k d' d b o'.1 hO o'.2 q' q h2 hnf h1 (by rw [z]; exact hv)
            obtain ⟨w1, w2, w3⟩ := w2
            refine ⟨_, h1, .inr ⟨b, rfl, h2, w1, by rw [upd_ne hba]; exact w2, ?_⟩⟩
            rcases w3 with ⟨xs, ds, e1, e2, r⟩ | ⟨kvs, ks, vs, e1, e2, e3, r⟩
            · exact .inl ⟨xs, ds, e1, e2, r.mono ex⟩
            · exact .inr ⟨kvs, ks, vs, e1, e2, e3, r.mono ex⟩
theorem SE.keepN {O' : Nat → Prop} (h : SE E Hb0 H0 O ρ σ Hb H) (sub : ∀ i, O' i → O i) : ∀ k : Nat, ∃ Hb', Ex Hb Hb' ∧ SE E Hb0 H0 (fun j => O j ∧ (O' j ∨ k ≤ j)) ρ σ Hb' H
  | 0 => ⟨Hb, Ex.refl _, h.congr fun i _ => ⟨fun z => ⟨z, .inr (Nat.zero_le _)⟩, fun z => z.1⟩⟩
  | k + 1 => by
    obtain ⟨Hb1, e1, h1⟩ := h.keepN sub k
    by_cases hk : O' k
    · exact ⟨Hb1, e1, h1.congr fun i _ => ⟨fun z => ⟨z.1, z.2.elim .inl fun q => by
        by_cases hi : i = k
        · subst hi; exact .inl hk
        · exact .inr (by omega)⟩, fun z => ⟨z.1, z.2.elim .inl fun q => .inr (by omega)⟩⟩⟩
    · obtain ⟨Hb2, e2, h2⟩ := h1.freeze k
      exact ⟨Hb2, e1.trans e2, h2.congr fun i _ => ⟨fun z => ⟨z.1.1, z.1.2.elim .inl fun q => .inr (by have := z.2; omega)⟩, fun z => ⟨⟨z.1, z.2.elim .inl fun q => .inr (by omega)⟩, fun e => by
        subst e
        rcases z.2 with q | q
        · exact hk q
        · omega⟩⟩⟩
/-- fewer names hold alone -/
theorem SE.keep {O' : Nat → Prop} (h : SE E Hb0 H0 O ρ σ Hb H) (sub : ∀ i, O' i → O i) : ∃ Hb', Ex Hb Hb' ∧ SE E Hb0 H0 O' ρ σ Hb' H := by
  obtain ⟨Hb', e, h'⟩ := h.keepN sub ρ.length
  exact ⟨Hb', e, h'.congr fun i hi => ⟨fun z => z.2.elim id fun q => by omega, fun z => ⟨sub i z, .inl z⟩⟩⟩
/-- the heap grows -/
theorem SE.step (h : SE E Hb0 H0 O ρ σ Hb H) (gr : Gr E.S Hb H Hb2 H2) : SE E Hb0 H0 O ρ σ Hb2 H2 := by
  refine ⟨h.len, h.gr.trans gr, fun a ha => gr.hid a (h.gr.here a (h.s0 a ha)) (h.hd a ha), h.s0, fun i d n q => ?_, fun i d o q => ?_, h.ap⟩
  · obtain ⟨v, h1, h2⟩ := h.sh i d n q
    exact ⟨v, h1, h2.mono gr.base⟩
  · obtain ⟨v, h1, ⟨h2, h3⟩ | ⟨a, rfl, h2, w⟩⟩ := h.ow i d o q
    · exact ⟨v, h1, .inl ⟨h2, h3.mono gr.base⟩⟩
    · have noS := w.noS h
      obtain ⟨o', ho⟩ := w.here
      obtain ⟨w1, w2, w3⟩ := w
      refine ⟨_, h1, .inr ⟨a, rfl, h2, w1, gr.hid a (ne_none_of ho) w2, ?_⟩⟩
      rcases w3 with ⟨xs, ds, e1, e2, r⟩ | ⟨kvs, ks, vs, e1, e2, e3, r⟩
      · exact .inl ⟨xs, ds, e1, gr.top a _ e2 noS, r.mono gr.base⟩
      · exact .inr ⟨kvs, ks, vs, e1, gr.top a _ e2 noS, e3, r.mono gr.base⟩
/-- the heap grows over a larger base: here nothing of it is seen -/
theorem SE.top {Hb' : Hp} (h : SE E Hb0 H0 O ρ σ Hb H) (ex : Ex Hb Hb') (gr : Gr E.S Hb' H Hb2 H2) : SE E Hb0 H0 O ρ σ Hb H2 :=
  h.step ⟨Ex.refl _, gr.top, fun a o e => gr.top a o (h.gr.sub a o e) (fun z => by rw [h.hd a z] at e; cases e), fun _ _ q => q, gr.here⟩
/-- a name is set to what is seen -/
theorem SE.set {O' : Nat → Prop} (h : SE E Hb0 H0 O ρ σ Hb H) {i : Nat} {v : V} {d : D} (r : Rp E.T Hb v d) (sub : ∀ j, O' j ↔ O j ∧ j ≠ i) : SE E Hb0 H0 O' (ρ.set i (some d)) (σ.set i (some v)) Hb H := by
  refine ⟨by rw [List.length_set, List.length_set]; exact h.len, h.gr, h.hd, h.s0, fun j e n q => ?_, fun j e o q => ?_, fun j k d1 d2 a o1 o2 ne q1 q2 f1 f2 s1 => ?_⟩
  · by_cases hj : i = j
    · subst hj
      have hlt : i < ρ.length := by have := (List.getElem?_eq_some_iff.mp q).1; rw [List.length_set] at this; exact this
      rw [List.getElem?_set_self hlt] at q
      cases q
      exact ⟨v, by rw [List.getElem?_set_self (by rw [h.len]; exact hlt)], r⟩
    · rw [List.getElem?_set_ne hj] at q ⊢
      exact h.sh j e (fun z => n ((sub j).mpr ⟨z, Ne.symm hj⟩)) q
  · obtain ⟨o1, o2⟩ := (sub j).mp o
    rw [List.getElem?_set_ne (Ne.symm o2)] at q ⊢
    exact h.ow j e o1 q
  · obtain ⟨o1, n1⟩ := (sub j).mp o1
    obtain ⟨o2, n2⟩ := (sub k).mp o2
    rw [List.getElem?_set_ne (Ne.symm n1)] at q1 s1
    rw [List.getElem?_set_ne (Ne.symm n2)] at q2 ⊢
    exact h.ap j k d1 d2 a o1 o2 ne q1 q2 f1 f2 s1
/-- a name is set to a flat value or to a new object -/
theorem SE.setF {O' : Nat → Prop} (h : SE E Hb0 H0 O ρ σ Hb H) {i : Nat} {v : V} {d : D} (r : (d.flat = true ∧ Rp E.T Hb v d) ∨ ∃ a, v = .ref a ∧ d.flat = false ∧ Ow E.T H0 Hb H a d ∧ ∀ j e, O j → ρ[j]? = some (some e) → e.flat = false → σ[j]? ≠ some (some (.ref a))) (sub : ∀ j, O' j ↔ O j ∨ j = i) :
    SE E Hb0 H0 O' (ρ.set i (some d)) (σ.set i (some v)) Hb H := by
  have r' : (d.flat = true ∧ Rp E.T Hb v d) ∨ ∃ a, v = .ref a ∧ d.flat = false ∧ Ow E.T H0 Hb H a d := by
    rcases r with r | ⟨a, r1, r2, r3, _⟩
    · exact .inl r
    · exact .inr ⟨a, r1, r2, r3⟩
  have own : ∀ {k : Nat}, O' k → i ≠ k → O k := fun {k} z n => ((sub k).mp z).elim id fun q => absurd q.symm n
  refine ⟨by rw [List.length_set, List.length_set]; exact h.len, h.gr, h.hd, h.s0, fun j e n q => ?_, fun j e o q => ?_, fun j k d1 d2 a o1 o2 ne q1 q2 f1 f2 s1 => ?_⟩
  · have hj : i ≠ j := fun z => n ((sub j).mpr (.inr z.symm))
    rw [List.getElem?_set_ne hj] at q ⊢
    exact h.sh j e (fun z => n ((sub j).mpr (.inl z))) q
  · by_cases hj : i = j
    · subst hj
      have hlt : i < ρ.length := by have := (List.getElem?_eq_some_iff.mp q).1; rw [List.length_set] at this; exact this
      rw [List.getElem?_set_self hlt] at q
      cases q
      exact ⟨v, by rw [List.getElem?_set_self (by rw [h.len]; exact hlt)], r'⟩
    · rw [List.getElem?_set_ne hj] at q ⊢
      exact h.ow j e (own o hj) q
  · by_cases hj : i = j
    · subst hj
      have hk : i ≠ k := ne
      have hlt : i < ρ.length := by have := (List.getElem?_eq_some_iff.mp q1).1; rw [List.length_set] at this; exact this
      rw [List.getElem?_set_self hlt] at q1
      cases q1
      rw [List.getElem?_set_self (by rw [h.len]; exact hlt)] at s1
      cases s1
      rw [List.getElem?_set_ne hk] at q2 ⊢
      rcases r with ⟨rf, _⟩ | ⟨b, e1, _, _, r4⟩
      · rw [f1] at rf; cases rf
      · cases e1
        exact r4 k d2 (own o2 hk) q2 f2
    · rw [List.getElem?_set_ne hj] at q1 s1
      by_cases hk : i = k
      · subst hk
        have hlt : i < ρ.length := by have := (List.getElem?_eq_some_iff.mp q2).1; rw [List.length_set] at this; exact this
        rw [List.getElem?_set_self hlt] at q2
        cases q2
        rw [List.getElem?_set_self (by rw [h.len]; exact hlt)]
        rcases r with ⟨rf, _⟩ | ⟨b, e1, _, _, r4⟩
        · rw [f2] at rf; cases rf
        · subst e1
          intro z
          cases z
          exact r4 j d1 (own o1 hj) q1 f1 s1
      · rw [List.getElem?_set_ne hk] at q2 ⊢
        exact h.ap j k d1 d2 a (own o1 hj) (own o2 hk) ne q1 q2 f1 f2 s1
/-- what is read with nothing hidden -/
theorem SE.pr (h : SE E Hb0 H0 (fun _ => False) ρ σ Hb H) {g : E.G} (r : E.R H g) : Pr E σ ρ Hb H g := ⟨h.len, fun i d q => h.sh i d (fun z => z) q, h.gr.sub, h.hd, r⟩
theorem SE.all (h : SE E Hb0 H0 O ρ σ Hb H) : ∃ Hb', Ex Hb Hb' ∧ SE E Hb0 H0 (fun _ => False) ρ σ Hb' H := h.keep fun _ z => z.elim
end
/-- the names that hold alone are not read -/
def msk (ρ : Rho) : List Nat → Rho
  | [] => ρ
  | v :: vs => (msk ρ vs).set v none
theorem msk_eq (ρ : Rho) : ∀ vs : List Nat, msk ρ vs = wipeR ρ vs
  | [] => rfl
  | v :: vs => by unfold msk wipeR; rw [msk_eq ρ vs]
theorem msk_get {ρ : Rho} {j : Nat} {d : D} : ∀ {vs : List Nat}, (msk ρ vs)[j]? = some (some d) → ρ[j]? = some (some d) ∧ j ∉ vs
  | [], h => ⟨h, by simp⟩
  | v :: vs, h => by
    unfold msk at h
    by_cases hj : v = j
    · subst hj
      by_cases hlt : v < (msk ρ vs).length
      · rw [List.getElem?_set_self hlt] at h; cases h
      · rw [List.getElem?_eq_none (by rw [List.length_set]; omega)] at h; cases h
    · rw [List.getElem?_set_ne hj] at h
      obtain ⟨h1, h2⟩ := msk_get h
      exact ⟨h1, by simp [Ne.symm hj, h2]⟩
theorem msk_length (ρ : Rho) (vs : List Nat) : (msk ρ vs).length = ρ.length := by rw [msk_eq, wipeR_length]
abbrev mem (O : List Nat) : Nat → Prop := fun i => i ∈ O
theorem SE.prM {E : En} {Hb0 H0 : Hp} {O : List Nat} {ρ : Rho} {σ : L2.St} {Hb H : Hp} (h : SE E Hb0 H0 (mem O) ρ σ Hb H) {g : E.G} (r : E.R H g) : Pr E σ (msk ρ O) Hb H g :=
  ⟨by rw [msk_length]; exact h.len, fun i d q => h.sh i d (msk_get q).2 (msk_get q).1, h.gr.sub, h.hd, r⟩
end DV
set_option Elab.async false
set_option linter.all false
set_option maxRecDepth 100000
set_option maxHeartbeats 4000000
namespace DV
open PySem PySem.Spec PyProof.Rows L2
open Evl (Ex)

inductive Fl where
  | nx (ρ : Rho)
  | rt (d : D)
  | bk (ρ : Rho)
  | ct (ρ : Rho)
structure InF (B : Bk) (E : En) (W : WX) (X : Cx) : Prop extends InC B E W X where
  st : X.stack = X.env :: X.outer
  fr : X.env.frame = some X.env.locals
  ex : X.ex = []
  po : PassesOwn (model X.prog X.w) X.A X.env X.xe
def PostS (E : En) (W : WX) (RR : RRel) (Hb0 H0 : Hp) (OB O' : List Nat) (Z : Ends) : Out E.G Fl → Prop
  | .ok (.nx ρ) g => ∀ σ Hb H, SE E Hb0 H0 (mem O') ρ σ Hb H → E.R H g → Z.nx σ H
  | .ok (.rt d) g => ∀ v Hb H, Gr E.S Hb0 H0 Hb H → E.R H g → RR E.T H0 Hb H v d → Z.rt v H
  | .ok (.bk ρ) g => ∀ σ Hb H, SE E Hb0 H0 (mem OB) ρ σ Hb H → E.R H g → Z.bk σ H
  | .ok (.ct ρ) g => ∀ σ Hb H, SE E Hb0 H0 (mem OB) ρ σ Hb H → E.R H g → Z.ct σ H
  | .err e g => ∀ cv dd σ Hb H, Gr E.S Hb0 H0 Hb H → E.R H g → Xr E.T Hb cv dd e → W cv dd σ H
  | .stk => False
def RS (B : Bk) (E : En) (W : WX) (RR : RRel) (OB O O' : List Nat) (st : Stmt) (f : Rho → E.G → Out E.G Fl) : Prop :=
  ∃ t : TS, (∀ X, InF B E W X → PS X st t) ∧ ∀ Hb0 H0 σ ρ Hb H g (Z : Ends), SE E Hb0 H0 (mem O) ρ σ Hb H → E.R H g → PostS E W RR Hb0 H0 OB O' Z (f ρ g) → t Z σ H
def RSs (B : Bk) (E : En) (W : WX) (RR : RRel) (OB O O' : List Nat) (st : List Stmt) (f : Rho → E.G → Out E.G Fl) : Prop :=
  ∃ t : TS, (∀ X, InF B E W X → PSs X st t) ∧ ∀ Hb0 H0 σ ρ Hb H g (Z : Ends), SE E Hb0 H0 (mem O) ρ σ Hb H → E.R H g → PostS E W RR Hb0 H0 OB O' Z (f ρ g) → t Z σ H
/-- one statement, then the rest -/
def seqF {G : Type} (m : Out G Fl) (k : Rho → G → Out G Fl) : Out G Fl := match m with
  | .ok (.nx ρ) g => k ρ g
  | .ok (.rt d) g => .ok (.rt d) g
  | .ok (.bk ρ) g => .ok (.bk ρ) g
  | .ok (.ct ρ) g => .ok (.ct ρ) g
  | .err e g => .err e g
  | .stk => .stk
@[simp] theorem seqF_nx {G : Type} (ρ : Rho) (g : G) (k : Rho → G → Out G Fl) : seqF (.ok (.nx ρ) g) k = k ρ g := rfl
@[simp] theorem seqF_rt {G : Type} (d : D) (g : G) (k : Rho → G → Out G Fl) : seqF (.ok (.rt d) g) k = .ok (.rt d) g := rfl
@[simp] theorem seqF_bk {G : Type} (d : Rho) (g : G) (k : Rho → G → Out G Fl) : seqF (.ok (.bk d) g) k = .ok (.bk d) g := rfl
@[simp] theorem seqF_ct {G : Type} (d : Rho) (g : G) (k : Rho → G → Out G Fl) : seqF (.ok (.ct d) g) k = .ok (.ct d) g := rfl
@[simp] theorem seqF_err {G : Type} (d : D) (g : G) (k : Rho → G → Out G Fl) : seqF (.err d g) k = .err d g := rfl
@[simp] theorem seqF_stk {G : Type} (k : Rho → G → Out G Fl) : seqF .stk k = .stk := rfl
section
variable {B : Bk} {E : En} {W : WX} {RR : RRel} {OB O O' O1 : List Nat} {pos : Pos}
theorem PostS.imp {Hb0 H0 : Hp} {OB O1 O2 : List Nat} {Z Z' : Ends} {m : Out E.G Fl} (h : PostS E W RR Hb0 H0 OB O1 Z m) (h1 : ∀ ρ g, m = .ok (.nx ρ) g → PostS E W RR Hb0 H0 OB O2 Z' m) (h2 : ∀ v H, Z.rt v H → Z'.rt v H) (h3 : ∀ v H, Z.bk v H → Z'.bk v H) (h4 : ∀ v H, Z.ct v H → Z'.ct v H) : PostS E W RR Hb0 H0 OB O2 Z' m := by
  cases m with
  | ok f g =>
    cases f with
    | nx ρ => exact h1 ρ g rfl
    | rt d => exact fun v Hb H a b c => h2 v H (h v Hb H a b c)
    | bk ρ => exact fun σ Hb H a b => h3 σ H (h σ Hb H a b)
    | ct ρ => exact fun σ Hb H a b => h4 σ H (h σ Hb H a b)
  | err e g => exact h
  | stk => exact h
theorem RSs_nil : RSs B E W RR OB O O [] (fun ρ g => .ok (.nx ρ) g) := ⟨tNext, fun X c => pss_nil, fun Hb0 H0 σ ρ Hb H g Z s r h => h σ Hb H s r⟩
theorem RSs_cons {st : Stmt} {rest : List Stmt} {f k : Rho → E.G → Out E.G Fl} (h : RS B E W RR OB O O1 st f) (hs : RSs B E W RR OB O1 O' rest k) : RSs B E W RR OB O O' (st :: rest) (fun ρ g => seqF (f ρ g) k) := by
  obtain ⟨t, p, q⟩ := h
  obtain ⟨t2, p2, q2⟩ := hs
  refine ⟨tSeq t t2, fun X c => pss_cons (p X c) (p2 X c), fun Hb0 H0 σ ρ Hb H g Z s r h => ?_⟩
  refine q Hb0 H0 σ ρ Hb H g _ s r ?_
  replace h : PostS E W RR Hb0 H0 OB O' Z (seqF (f ρ g) k) := h
  generalize f ρ g = m at h
  cases m with
  | ok fl g1 =>
    cases fl with
    | nx ρ1 => exact fun σ1 Hb1 H1 s1 r1 => q2 Hb0 H0 σ1 ρ1 Hb1 H1 g1 Z s1 r1 h
    | rt d => exact h
    | bk ρ1 => exact h
    | ct ρ1 => exact h
  | err e g1 => exact h
  | stk => exact h
theorem RSs_one {st : Stmt} {f : Rho → E.G → Out E.G Fl} (h : RS B E W RR OB O O' st f) : RSs B E W RR OB O O' [st] f := by
  obtain ⟨t, p, q⟩ := h
  exact ⟨t, fun X c => pss_one (p X c), q⟩
/-- fewer names hold alone behind -/
theorem SE.keepL {Hb0 H0 : Hp} {ρ : Rho} {σ : L2.St} {Hb H : Hp} (h : SE E Hb0 H0 (mem O) ρ σ Hb H) (sub : ∀ i ∈ O', i ∈ O) : ∃ Hb', Ex Hb Hb' ∧ SE E Hb0 H0 (mem O') ρ σ Hb' H := h.keep sub
theorem RSs.weak {st : List Stmt} {f : Rho → E.G → Out E.G Fl} (h : RSs B E W RR OB O O1 st f) (sub : ∀ i ∈ O', i ∈ O1) : RSs B E W RR OB O O' st f := by
  obtain ⟨t, p, q⟩ := h
  refine ⟨t, p, fun Hb0 H0 σ ρ Hb H g Z s r h => q Hb0 H0 σ ρ Hb H g Z s r ?_⟩
  generalize f ρ g = m at h
  cases m with
  | ok fl g1 =>
    cases fl with
    | nx ρ1 =>
      intro σ1 Hb1 H1 s1 r1
      obtain ⟨Hb2, _, s2⟩ := s1.keepL sub
      exact h σ1 Hb2 H1 s2 r1
    | rt d => exact h
    | bk ρ1 => exact h
    | ct ρ1 => exact h
  | err e g1 => exact h
  | stk => exact h
/-- what an expression's error is at a statement -/
theorem PostS.err_of {α : Type} {Hb0 H0 : Hp} {σ : L2.St} {Hb H : Hp} {Z : Ends} {okc : α → E.G → Prop} {m : Out E.G α} {k : α → E.G → Out E.G Fl} (gr : Gr E.S Hb0 H0 Hb H) (h : PostS E W RR Hb0 H0 OB O' Z (bnd m k)) (hh : ∀ a g, PostS E W RR Hb0 H0 OB O' Z (k a g) → okc a g) : Post E W σ Hb H okc m := by
  cases m with
  | ok a g => exact hh a g h
  | err e g => exact fun cv dd Hb2 H2 g2 r2 x => h cv dd σ Hb2 H2 (gr.trans g2) r2 x
  | stk => exact h

/-! ### name = e -/
/-- an expression that is stored by a name -/
def RN (RR : RRel) (B : Bk) (E : En) (W : WX) (i : Nat) (tgt e : Expr) (pos : Pos) (f : Rho → E.G → Out E.G D) : Prop :=
  ∃ t : TE, (∀ X, InC B E W X → PS X (.Assign [tgt] e pos) (tAsg t (gName i))) ∧ ∀ σ ρ Hb H1 g Q, Pr E σ ρ Hb H1 g → Post E W σ Hb H1 (okE E RR Hb H1 Q) (f ρ g) → t σ H1 Q
theorem RN_of (i : Nat) {x : PySem.Str} {px : Pos} {e : Expr} {f : Rho → E.G → Out E.G D} (h : RX RR B E W e f) (hnd : B.N.Nodup) (hi : B.N[i]? = some x := by rfl) (hl : Loc B.sc x := by first | exact Or.inl rfl | exact Or.inr rfl) (hf : B.fn x = true ∨ B.sc.names.lookup x = some .local := by first | exact Or.inr rfl | exact Or.inl rfl)
    (hs : ∀ env, swapsWith e (some (.Name x px)) pos.line env = pure false := by intro _; rfl) : RN RR B E W i (.Name x px) e pos f := by
  obtain ⟨t, p, q⟩ := h
  exact ⟨t, fun X c => ps_set (by rw [c.hN]; exact hnd) (by rw [c.hN]; exact hi) (by rw [c.hs]; exact hl) (p X c) (hs _) (by rw [c.hfn, c.hs]; exact hf), q⟩
theorem RN_lc (i : Nat) {x : PySem.Str} {px lpos : Pos} {elt tg iter : Expr} {ifs : List Expr} {scope : Scope} {is : List Nat} {parts : D → Option (List D)} {fi : Rho → E.G → Out E.G (List D)} {fc : Rho → E.G → Out E.G Bool} {fe : Rho → E.G → Out E.G D} (own : List (PySem.Str × Nat)) (hnd : B.N.Nodup)
    (hi : RI B E W tg iter fi) (hg : RG (B.comp scope) E tg is parts) (ht : RTs (B.comp scope) E W0x ifs fc) (he : RE (B.comp scope) E W0x elt fe) (ok : blkC B.N B.sc scope own = true) (hv : ∀ i ∈ is, i ∈ own.map (·.2))
    (hx : B.N[i]? = some x := by rfl) (hl : B.sc.names.lookup x = some .local := by rfl) (hk : B.sc.kind = .function := by rfl) (hln : (px.line == lpos.line) = true := by rfl)
    (hno : (scope.names.any fun (n, k) => n == x && (k == .local || k == .cell)) = false := by first | rfl | decide +kernel) (hs : ∀ env x, foldedSetIterable iter env x = pure x := by intro _ _; rfl) :
    RN Rf B E W i (.Name x px) (.ListComp elt [⟨tg, iter, ifs, 0⟩] scope lpos) pos (fun ρ g => bnd (fi ρ g) fun ds g => lenC ds (bnd (compD parts is fc fe (wipeR ρ (own.map (·.2))) ds g) fun ys g => .ok (.lst ys) g)) := by
  obtain ⟨wi, pi, qi⟩ := hi
  obtain ⟨t, p, q⟩ := hg
  obtain ⟨tt, pt, qt⟩ := ht
  obtain ⟨te, pe, qe⟩ := he
  exact ⟨tLc wi t tt te (own.map (·.2)), fun X c => ps_setLc c.calm (by rw [c.hN]; exact hnd) (by rw [c.hN]; exact hx) (by rw [c.hs]; exact hl) (sw_true (by rw [c.hs]; exact hk) (by rw [c.hs]; exact hl) hln hno) (pi X c) (blkOk_by (by rw [c.hN, c.hs]; exact ok)) (fun _ _ _ _ _ => p W0x _ c.comp) (fun _ _ _ _ _ => pt _ c.comp) (fun _ _ _ _ _ => pe _ c.comp) (hs _), tLc_post qi q qt qe hv⟩
/-- x = [..], x a captured name -/
theorem RN_lcC (i : Nat) {x : PySem.Str} {px lpos : Pos} {elt : Expr} {gs : List Comprehension} {scope : Scope} {f : Rho → E.G → Out E.G D} (h : RX RR B E W (.ListComp elt gs scope lpos) f) (hnd : B.N.Nodup) (hi : B.N[i]? = some x := by rfl) (hl : B.sc.names.lookup x = some .cell := by rfl) (hf : B.fn x = true := by rfl) :
    RN RR B E W i (.Name x px) (.ListComp elt gs scope lpos) pos f := by
  obtain ⟨t, p, q⟩ := h
  refine ⟨t, fun X c => ps_set (by rw [c.hN]; exact hnd) (by rw [c.hN]; exact hi) (by rw [c.hs]; exact .inr hl) (p X c) ?_ (by rw [c.hfn]; exact .inl hf), q⟩
  have hk : X.env.kindOf x = some .cell := by unfold Env.kindOf; rw [c.hs]; exact hl
  show (pure (X.env.blockKind == .function && X.env.kindOf x == some .local && px.line == lpos.line && !(scope.names.any fun (n, k) => n == x && (k == .local || k == .cell))) : Sem Bool) = pure false
  rw [hk]
  have : ((some NameKind.cell == some NameKind.local) : Bool) = false := by decide
  rw [this, Bool.and_false, Bool.false_and, Bool.false_and]
/-- x = e, e seen; what is in O1 is not read -/
theorem RS_asg {tgt e : Expr} {i : Nat} {f : Rho → E.G → Out E.G D} (O1 : List Nat) (h : RN Rs B E W i tgt e pos f) (h1 : ∀ j ∈ O1, j ∈ O) (h2 : ∀ j ∈ O', j ∈ O1 ∧ j ≠ i) : RS B E W RR OB O O' (.Assign [tgt] e pos) (fun ρ g => bnd (f (msk ρ O1) g) fun d g => .ok (.nx (ρ.set i (some d))) g) := by
  obtain ⟨t, p, q⟩ := h
  refine ⟨_, fun X c => p X c.toInC, fun Hb0 H0 σ ρ Hb H g Z s r h => ?_⟩
  obtain ⟨Hb1, _, s1⟩ := s.keepL h1
  refine q σ _ Hb1 H g _ (s1.prM r) (h.err_of s1.gr fun d g1 k v Hb2 H2 gr r2 x => ?_)
  have s2 := (s1.step gr).set (O' := fun j => mem O1 j ∧ j ≠ i) x fun j => Iff.rfl
  obtain ⟨Hb3, _, s3⟩ := s2.keep (O' := mem O') h2
  exact k _ Hb3 H2 s3 r2
/-- x = e, e flat: all is read, nothing is given away -/
theorem RS_asgV {tgt e : Expr} {i : Nat} {f : Rho → E.G → Out E.G D} (h : RN Rs B E W i tgt e pos f) (h2 : ∀ j ∈ O', j ∈ O ∧ j ≠ i) : RS B E W RR OB O O' (.Assign [tgt] e pos) (fun ρ g => bnd (f ρ g) fun d g => bnd (isFlat d g) fun d g => .ok (.nx (ρ.set i (some d))) g) := by
  obtain ⟨t, p, q⟩ := h
  refine ⟨_, fun X c => p X c.toInC, fun Hb0 H0 σ ρ Hb H g Z s r h => ?_⟩
  obtain ⟨Hb1, e1, s1⟩ := s.all
  refine q σ _ Hb1 H g _ (s1.pr r) (h.err_of s1.gr fun d g1 k v Hb2 H2 gr r2 x => ?_)
  unfold isFlat at k
  cases hf : d.flat with
  | false => rw [hf] at k; exact False.elim k
  | true =>
    rw [hf] at k
    have s2 := (s.top e1 gr).set (O' := fun j => mem O j ∧ j ≠ i) (x.flat Hb hf) fun j => Iff.rfl
    obtain ⟨Hb3, _, s3⟩ := s2.keep (O' := mem O') h2
    exact k _ Hb3 H2 s3 r2
theorem owned_at {Hb0 H0 : Hp} {Oc : Nat → Prop} {ρ : Rho} {σ : L2.St} {Hb H : Hp} (s : SE E Hb0 H0 Oc ρ σ Hb H) {p : Addr} (n : H p = none) : ∀ j e, ρ[j]? = some (some e) → e.flat = false → Oc j → σ[j]? ≠ some (some (.ref p)) := fun j e q hf o z => by
  obtain ⟨v, h1, ⟨h2, _⟩ | ⟨a, rfl, _, w⟩⟩ := s.ow j e o q
  · rw [hf] at h2; cases h2
  · rw [z] at h1
    cases h1
    obtain ⟨o, ho⟩ := w.here
    rw [n] at ho; cases ho
end
end DV
set_option Elab.async false
set_option linter.all false
set_option maxRecDepth 100000
set_option maxHeartbeats 4000000
namespace DV
open PySem PySem.Spec PyProof.Rows L2
open Evl (Ex)

/-- how a result is kept by a name: what the names hold alone behind it -/
structure Keeps (RR : RRel) (up : (Nat → Prop) → Nat → Nat → Prop) : Prop where
  put : ∀ {E : En} {Hb0 H0 : Hp} {O : Nat → Prop} {ρ : Rho} {σ : L2.St} {Hb H Hb2 H2 : Hp} {i : Nat} {v : V} {d : D} {R : Hp},
    SE E Hb0 H0 O ρ σ Hb2 H2 → (∀ p, R p = none → H0 p = none ∧ ∀ j e, O j → ρ[j]? = some (some e) → e.flat = false → σ[j]? ≠ some (some (.ref p))) → RR E.T R Hb2 H2 v d → SE E Hb0 H0 (up O i) (ρ.set i (some d)) (σ.set i (some v)) Hb2 H2
def upS (O : Nat → Prop) (i j : Nat) : Prop := O j ∧ j ≠ i
def upF (O : Nat → Prop) (i j : Nat) : Prop := O j ∨ j = i
theorem keeps_s : Keeps Rs upS := ⟨fun s _ x => s.set x fun _ => Iff.rfl⟩
theorem keeps_f : Keeps Rf upF := ⟨fun {E Hb0 H0 O ρ σ Hb H Hb2 H2 i v d R} s n x => by
  refine s.setF ?_ fun _ => Iff.rfl
  rcases x with x | ⟨p, xs, ds, rfl, rfl, np, nb, hp, r⟩ | ⟨p, kvs, ks, vs, rfl, rfl, np, nb, hp, ek, r⟩
  · exact .inl x
  · exact .inr ⟨p, rfl, rfl, ⟨(n p np).1, nb, .inl ⟨xs, ds, rfl, hp, r⟩⟩, (n p np).2⟩
  · exact .inr ⟨p, rfl, rfl, ⟨(n p np).1, nb, .inr ⟨kvs, ks, vs, rfl, hp, ek, r⟩⟩, (n p np).2⟩⟩
theorem fresh_at {E : En} {Hb0 H0 : Hp} {O : Nat → Prop} {ρ : Rho} {σ : L2.St} {Hb H : Hp} (s : SE E Hb0 H0 O ρ σ Hb H) : ∀ p, H p = none → H0 p = none ∧ ∀ j e, O j → ρ[j]? = some (some e) → e.flat = false → σ[j]? ≠ some (some (.ref p)) := fun p n =>
  ⟨none_back s.gr n, fun j e o q hf z => by
    obtain ⟨v, h1, ⟨h2, h3⟩ | ⟨a, rfl, _, w⟩⟩ := s.ow j e o q
    · rw [hf] at h2; cases h2
    · rw [z] at h1
      cases h1
      obtain ⟨o, ho⟩ := w.here
      rw [n] at ho; cases ho⟩

section
variable {B : Bk} {E : En} {W : WX} {RR : RRel} {OB O O' O1 : List Nat} {pos : Pos}
/-- x = e, e a new object; what is in O1 is not read -/
theorem RS_asgF {tgt e : Expr} {i : Nat} {f : Rho → E.G → Out E.G D} (O1 : List Nat) (h : RN Rf B E W i tgt e pos f) (h1 : ∀ j ∈ O1, j ∈ O) (h2 : ∀ j ∈ O', j ∈ O1 ∨ j = i) : RS B E W RR OB O O' (.Assign [tgt] e pos) (fun ρ g => bnd (f (msk ρ O1) g) fun d g => .ok (.nx (ρ.set i (some d))) g) := by
  obtain ⟨t, p, q⟩ := h
  refine ⟨_, fun X c => p X c.toInC, fun Hb0 H0 σ ρ Hb H g Z s r h => ?_⟩
  obtain ⟨Hb1, _, s1⟩ := s.keepL h1
  refine q σ _ Hb1 H g _ (s1.prM r) (h.err_of s1.gr fun d g1 k v Hb2 H2 gr r2 x => ?_)
  have s2 := keeps_f.put (i := i) (R := H) (Hb := Hb1) (H := H) (s1.step gr) (fresh_at s1) x
  obtain ⟨Hb3, _, s3⟩ := s2.keep (O' := mem O') h2
  exact k _ Hb3 H2 s3 r2
/-- the same, the new object's items flat: all is read -/
def flatIn {G : Type} (d : D) (g : G) : Out G D := match d with
  | .lst ds => if ds.all D.flat = true then .ok (.lst ds) g else .stk
  | .dct ks vs => if vs.all D.flat = true then .ok (.dct ks vs) g else .stk
  | d => isFlat d g
theorem flatIn_ok {G : Type} {d d' : D} {g g' : G} (h : flatIn d g = .ok d' g') : d' = d ∧ g' = g ∧ (d.flat = true ∨ (∃ ds, d = .lst ds ∧ ds.all D.flat = true) ∨ ∃ ks vs, d = .dct ks vs ∧ vs.all D.flat = true) := by
  cases d <;> simp only [flatIn, isFlat, D.flat] at h <;> first | (cases h; exact ⟨rfl, rfl, .inl rfl⟩) | skip
  · split at h
    · cases h; rename_i hc; exact ⟨rfl, rfl, .inr (.inl ⟨_, rfl, hc⟩)⟩
    · cases h
  · cases h
  · split at h
    · cases h; rename_i hc; exact ⟨rfl, rfl, .inr (.inr ⟨_, _, rfl, hc⟩)⟩
    · cases h
  · cases h
theorem flatIn_cases {G : Type} (d : D) (g : G) : flatIn d g = .ok d g ∨ flatIn d g = .stk := by
  cases d <;> simp only [flatIn, isFlat, D.flat] <;> first | exact .inl trivial | exact .inr trivial | skip
  all_goals split
  all_goals first | exact .inl rfl | exact .inr rfl | simp
theorem rf_flat_in {T : Tx} {R Hb Hb2 H2 : Hp} {v : V} {d : D} (hn : ∀ p, Hb2 p = none → Hb p = none) (hf : d.flat = true ∨ (∃ ds, d = .lst ds ∧ ds.all D.flat = true) ∨ ∃ ks vs, d = .dct ks vs ∧ vs.all D.flat = true) (x : Rf T R Hb2 H2 v d) : Rf T R Hb H2 v d := by
  rcases x with ⟨h1, h2⟩ | ⟨p, xs, ds, rfl, rfl, np, nb, hp, r⟩ | ⟨p, kvs, ks, vs, rfl, rfl, np, nb, hp, ek, r⟩
  · exact .inl ⟨h1, h2.flat Hb h1⟩
  · rcases hf with hf | ⟨es, he, hf⟩ | ⟨_, _, he, _⟩
    · cases hf
    · cases he
      exact .inr (.inl ⟨p, xs, ds, rfl, rfl, np, hn p nb, hp, r.flat Hb hf⟩)
    · cases he
  · rcases hf with hf | ⟨es, he, hf⟩ | ⟨_, _, he, hf⟩
    · cases hf
    · cases he
    · cases he
      exact .inr (.inr ⟨p, kvs, ks, vs, rfl, rfl, np, hn p nb, hp, ek, r.flat Hb hf⟩)
theorem RS_asgFV {tgt e : Expr} {i : Nat} {f : Rho → E.G → Out E.G D} (h : RN Rf B E W i tgt e pos f) (h2 : ∀ j ∈ O', j ∈ O ∨ j = i) : RS B E W RR OB O O' (.Assign [tgt] e pos) (fun ρ g => bnd (f ρ g) fun d g => bnd (flatIn d g) fun d g => .ok (.nx (ρ.set i (some d))) g) := by
  obtain ⟨t, p, q⟩ := h
  refine ⟨_, fun X c => p X c.toInC, fun Hb0 H0 σ ρ Hb H g Z s r h => ?_⟩
  obtain ⟨Hb1, e1, s1⟩ := s.all
  refine q σ _ Hb1 H g _ (s1.pr r) (h.err_of s1.gr fun d g1 k v Hb2 H2 gr r2 x => ?_)
  rcases flatIn_cases d g1 with e | e
  · have hf := (flatIn_ok e).2.2
    rw [e] at k
    have x2 : Rf E.T H Hb H2 v d := rf_flat_in (fun p np => Evl.fresh_back (e1.trans gr.base) np) hf x
    have s2 := keeps_f.put (i := i) (R := H) (Hb := Hb) (H := H) (s.top e1 gr) (fresh_at s) x2
    obtain ⟨Hb3, _, s3⟩ := s2.keep (O' := mem O') h2
    exact k _ Hb3 H2 s3 r2
  · rw [e] at k; exact False.elim k
/-- e as a statement -/
theorem RS_drop {e : Expr} {f : Rho → E.G → Out E.G D} (h : RE B E W e f) (hs : ∀ env, swapsWith e none pos.line env = pure false := by intro _; rfl) : RS B E W RR OB O O (.Expr e pos) (fun ρ g => bnd (f ρ g) fun _ g => .ok (.nx ρ) g) := by
  obtain ⟨t, p, q⟩ := h
  refine ⟨_, fun X c => ps_expr (p X c.toInC) (hs _), fun Hb0 H0 σ ρ Hb H g Z s r h => ?_⟩
  obtain ⟨Hb1, e1, s1⟩ := s.all
  exact q σ _ Hb1 H g _ (s1.pr r) (h.err_of s1.gr fun d g1 k v Hb2 H2 gr r2 x => k _ Hb H2 (s.top e1 gr) r2)
theorem RS_pass : RS B E W RR OB O O (.Pass pos) (fun ρ g => .ok (.nx ρ) g) := ⟨_, fun X c => ps_pass, fun Hb0 H0 σ ρ Hb H g Z s r h => h _ Hb H s r⟩
theorem RS_break (sub : ∀ i ∈ OB, i ∈ O) : RS B E W RR OB O O (.Break pos) (fun ρ g => .ok (.bk ρ) g) := ⟨_, fun X c => ps_break, fun Hb0 H0 σ ρ Hb H g Z s r h => by
  obtain ⟨Hb2, _, s2⟩ := s.keepL sub
  exact h _ Hb2 H s2 r⟩
theorem RS_cont (sub : ∀ i ∈ OB, i ∈ O) : RS B E W RR OB O O (.Continue pos) (fun ρ g => .ok (.ct ρ) g) := ⟨_, fun X c => ps_continue, fun Hb0 H0 σ ρ Hb H g Z s r h => by
  obtain ⟨Hb2, _, s2⟩ := s.keepL sub
  exact h _ Hb2 H s2 r⟩
theorem RS_if {c : Expr} {a b : List Stmt} {fc : Rho → E.G → Out E.G Bool} {fa fb : Rho → E.G → Out E.G Fl} (hc : RT B E W c fc) (ha : RSs B E W RR OB O O' a fa) (hb : RSs B E W RR OB O O' b fb) : RS B E W RR OB O O' (.If c a b pos) (fun ρ g => ifO (fc ρ g) (fa ρ) (fb ρ)) := by
  obtain ⟨t, p, q⟩ := hc
  obtain ⟨ta, pa, qa⟩ := ha
  obtain ⟨tb, pb, qb⟩ := hb
  refine ⟨_, fun X cx => ps_if (p X cx.toInC) (pa X cx) (pb X cx), fun Hb0 H0 σ ρ Hb H g Z s r h => ?_⟩
  obtain ⟨Hb1, e1, s1⟩ := s.all
  unfold ifO at h
  refine q σ _ Hb1 H g _ (s1.pr r) (h.err_of s1.gr fun c g1 k Hb2 H2 gr r2 => ?_)
  cases c with
  | true => exact qa Hb0 H0 σ ρ Hb H2 g1 Z (s.top e1 gr) r2 k
  | false => exact qb Hb0 H0 σ ρ Hb H2 g1 Z (s.top e1 gr) r2 k
theorem RS_ret (Z : RBack RR) {e : Expr} {f : Rho → E.G → Out E.G D} (h : RX RR B E W e f) : RS B E W RR OB O O' (.Return (some e) pos) (fun ρ g => bnd (f ρ g) fun d g => .ok (.rt d) g) := by
  obtain ⟨t, p, q⟩ := h
  refine ⟨_, fun X c => ps_ret (p X c.toInC), fun Hb0 H0 σ ρ Hb H g Z' s r h => ?_⟩
  obtain ⟨Hb1, e1, s1⟩ := s.all
  exact q σ _ Hb1 H g _ (s1.pr r) (h.err_of s1.gr fun d g1 k v Hb2 H2 gr r2 x => k v Hb2 H2 (s1.gr.trans gr) r2 (Z.back s1.gr x))
/-- what is returned at the end: names that hold alone hand over -/
def RM (B : Bk) (E : En) (W : WX) (O : List Nat) (e : Expr) (f : Rho → E.G → Out E.G D) : Prop :=
  ∃ t : TE, (∀ X, InC B E W X → PE X e t) ∧ ∀ Hb0 H0 σ ρ Hb H g (Q : VK), SE E Hb0 H0 (mem O) ρ σ Hb H → E.R H g →
    Post E W σ Hb0 H0 (fun d g => ∀ v Hb2 H2, Gr E.S Hb0 H0 Hb2 H2 → E.R H2 g → Rf E.T H0 Hb2 H2 v d → Q v H2) (f ρ g) → t σ H Q
theorem Post.bnd_at {α β : Type} {σ : L2.St} {Hb H1 Hb2 H2 : Hp} {okc : α → E.G → Prop} {okd : β → E.G → Prop} {m : Out E.G α} {k : α → E.G → Out E.G β} (gr : Gr E.S Hb H1 Hb2 H2) (h : Post E W σ Hb H1 okd (DV.bnd m k)) (hh : ∀ a g, Post E W σ Hb H1 okd (k a g) → okc a g) : Post E W σ Hb2 H2 okc m := by
  cases m with
  | ok a g => exact hh a g h
  | err e g => exact fun cv dd Hb3 H3 g3 => h cv dd Hb3 H3 (gr.trans g3)
  | stk => exact h
theorem RM_of {e : Expr} {f : Rho → E.G → Out E.G D} (h : RF B E W e f) : RM B E W O e f := by
  obtain ⟨t, p, q⟩ := h
  refine ⟨t, p, fun Hb0 H0 σ ρ Hb H g Q s r h => ?_⟩
  obtain ⟨Hb1, e1, s1⟩ := s.all
  exact q σ _ Hb1 H g _ (s1.pr r) (h.step s1.gr fun d g1 k v Hb2 H2 gr r2 x => k v Hb2 H2 (s1.gr.trans gr) r2 (rf_back.back s1.gr x))
theorem RM_var (i : Nat) {x : PySem.Str} {px : Pos} (hO : i ∈ O) (hN : B.N[i]? = some x := by rfl) (hv : Vis B.sc x := by first | exact Or.inl rfl | exact Or.inr (Or.inl rfl) | exact Or.inr (Or.inr rfl)) (hd : (x == ("__debug__" : PySem.Str)) = false := by decide)
    (hcd : (x == ("__classdict__" : PySem.Str)) = false := by decide) : RM B E W O (.Name x px) (fun ρ g => getR ρ i g) := by
  refine ⟨tVar i, fun X c => pe_var (by rw [c.hN]; exact hN) (by rw [c.hs]; exact hv) hd hcd, fun Hb0 H0 σ ρ Hb H g Q s r h => ?_⟩
  try dsimp only at h
  unfold getR at h
  cases q : ρ[i]? with
  | none => rw [q] at h; exact False.elim h
  | some o =>
    cases o with
    | none => rw [q] at h; exact False.elim h
    | some d =>
      rw [q] at h
      obtain ⟨v, h1, ⟨h2, h3⟩ | ⟨a, rfl, _, w1, w2, w3⟩⟩ := s.ow i d hO q
      · exact ⟨v, h1, h v Hb H s.gr r (.inl ⟨h2, h3⟩)⟩
      · refine ⟨_, h1, h _ Hb H s.gr r ?_⟩
        rcases w3 with ⟨xs, ds, e1, e2, rr⟩ | ⟨kvs, ks, vs, e1, e2, e3, rr⟩
        · exact .inr (.inl ⟨a, xs, ds, rfl, e1, w1, w2, e2, rr⟩)
        · exact .inr (.inr ⟨a, kvs, ks, vs, rfl, e1, w1, w2, e2, e3, rr⟩)
theorem RM_if {c a b : Expr} {fc : Rho → E.G → Out E.G Bool} {fa fb : Rho → E.G → Out E.G D} (hc : RT B E W c fc) (ha : RM B E W O a fa) (hb : RM B E W O b fb) : RM B E W O (.IfExp c a b pos) (fun ρ g => ifO (fc ρ g) (fa ρ) (fb ρ)) := by
  obtain ⟨t, p, q⟩ := hc
  obtain ⟨ta, pa, qa⟩ := ha
  obtain ⟨tb, pb, qb⟩ := hb
  refine ⟨tIf t ta tb, fun X c => pe_ifExp (p X c) (pa X c) (pb X c), fun Hb0 H0 σ ρ Hb H g Q s r h => ?_⟩
  obtain ⟨Hb1, e1, s1⟩ := s.all
  unfold ifO at h
  refine q σ _ Hb1 H g _ (s1.pr r) (Post.bnd_at s1.gr h fun c g1 k Hb2 H2 gr r2 => ?_)
  have s2 := s.top e1 gr
  cases c with
  | true => exact qa Hb0 H0 σ ρ Hb H2 g1 Q s2 r2 k
  | false => exact qb Hb0 H0 σ ρ Hb H2 g1 Q s2 r2 k
theorem PostS.err0 {α : Type} {Hb0 H0 : Hp} {σ : L2.St} {Z : Ends} {okc : α → E.G → Prop} {m : Out E.G α} {k : α → E.G → Out E.G Fl} (h : PostS E W RR Hb0 H0 OB O' Z (bnd m k)) (hh : ∀ a g, PostS E W RR Hb0 H0 OB O' Z (k a g) → okc a g) : Post E W σ Hb0 H0 okc m := by
  cases m with
  | ok a g => exact hh a g h
  | err e g => exact fun cv dd Hb2 H2 g2 r2 x => h cv dd σ Hb2 H2 g2 r2 x
  | stk => exact h
/-- return, from names that hold alone -/
theorem RS_retM {e : Expr} {f : Rho → E.G → Out E.G D} (h : RM B E W O e f) : RS B E W Rf OB O O' (.Return (some e) pos) (fun ρ g => bnd (f ρ g) fun d g => .ok (.rt d) g) := by
  obtain ⟨t, p, q⟩ := h
  refine ⟨_, fun X c => ps_ret (p X c.toInC), fun Hb0 H0 σ ρ Hb H g Z' s r h => ?_⟩
  exact q Hb0 H0 σ ρ Hb H g _ s r (PostS.err0 h fun d g1 k v Hb2 H2 gr r2 x => k v Hb2 H2 gr r2 x)
/-- raise C('..') -/
theorem RS_raise {x : PySem.Str} {m : PySem.Str} {j : Nat} {p p2 cpos : Pos} {C : Addr} {bmB : List Value} {Bn newId initId : String} (F : ExcBaseFacts Bn newId initId bmB) (hq : PySem.W.excIn E.T.K C bmB newId = true) (gC : E.T.mg x = some (.ref C)) (kC : PySem.W.keepIn E.T.K (.ref C) = true)
    (h1 : PySem.W.subIn E.T.K (.ref C) (.type "BaseException") = some true) (h2 : PySem.W.typeIn E.T.K (.ref C) = some (.type "type")) (hg : Gn B.sc x) (hdb : (x == ("__debug__" : PySem.Str)) = false := by decide) :
    RS B E W RR OB O O' (.Raise (some (.Call (.Name x p) [.Constant (.str m) j p2] [] cpos)) none pos) (fun _ g => .err (.exc x [] []) g) := by
  refine ⟨_, fun X c => ps_raise c.calm c.tk (pmk_own F (by rw [c.hK]; exact hq) (by rw [c.hmg]; exact gC) (by rw [c.hK]; exact kC) (raises_own (by rw [c.hK]; exact h1) (by rw [c.hK]; exact h2)) (by unfold Gl Env.kindOf; rw [c.hs]; exact hg) hdb), fun Hb0 H0 σ ρ Hb H g Z s r h => ?_⟩
  exact h _ none σ Hb H s.gr r ⟨x, C, [], [], rfl, gC, rfl, .inl ⟨rfl, rfl, rfl⟩⟩
/-- the list in a slot -/
def lstAt {G : Type} (ρ : Rho) (i : Nat) (g : G) : Out G (List D) := match ρ[i]? with
  | some (some (.lst ds)) => .ok ds g
  | _ => .stk
def appD {G : Type} (ρ : Rho) (i : Nat) (ds : List D) (d : D) (g : G) : Out G Rho := if ds.length < sizeLine then .ok (ρ.set i (some (.lst (ds ++ [d])))) g else .stk
theorem lstAt_cases {G : Type} (ρ : Rho) (i : Nat) (g : G) : (∃ ds, ρ[i]? = some (some (.lst ds)) ∧ lstAt ρ i g = .ok ds g) ∨ lstAt ρ i g = .stk := by
  unfold lstAt
  split
  · exact .inl ⟨_, by assumption, rfl⟩
  · exact .inr rfl
/-- the list that a name holds alone grows -/
theorem SE.app {Hb0 H0 : Hp} {Oc : Nat → Prop} {ρ : Rho} {σ : L2.St} {Hb H : Hp} (s : SE E Hb0 H0 Oc ρ σ Hb H) {i : Nat} {ds : List D} {a : Addr} {xs : List V} (hi : ρ[i]? = some (some (.lst ds))) (ha : σ[i]? = some (some (.ref a))) (hO : Oc i) (h0 : H0 a = none) (hb : Hb a = none) (hx : H a = some (.lst xs)) {ys : List V} {es : List D} (r : RpA E.T Hb ys es) :
    SE E Hb0 H0 Oc (ρ.set i (some (.lst es))) σ Hb (upd H a (.lst ys)) := by
  have noS : ¬ E.S a := fun z => s.s0 a z h0
  have hlt : i < ρ.length := (List.getElem?_eq_some_iff.mp hi).1
  refine ⟨by rw [List.length_set]; exact s.len, s.gr.mut h0 hb, s.hd, s.s0, fun j d n q => ?_, fun j d o q => ?_, fun j k d e b o1 o2 ne q1 q2 f1 f2 => ?_⟩
  · by_cases hj : i = j
    · subst hj; exact absurd hO n
    · rw [List.getElem?_set_ne hj] at q
      exact s.sh j d n q
  · by_cases hj : i = j
    · subst hj
      rw [List.getElem?_set_self hlt] at q
      cases q
      exact ⟨_, ha, .inr ⟨a, rfl, rfl, h0, hb, .inl ⟨ys, es, rfl, upd_same, r⟩⟩⟩
    · rw [List.getElem?_set_ne hj] at q
      obtain ⟨v, h1, h2 | ⟨b, rfl, h2, w1, w2, w3⟩⟩ := s.ow j d o q
      · exact ⟨v, h1, .inl h2⟩
      · have hba : b ≠ a := fun z => s.ap j i d (.lst ds) b o hO (Ne.symm hj) q hi h2 rfl h1 (by rw [z]; exact ha)
        refine ⟨_, h1, .inr ⟨b, rfl, h2, w1, w2, ?_⟩⟩
        rw [upd_ne hba]
        exact w3
  · by_cases hj : i = j
    · subst hj
      rw [List.getElem?_set_ne ne] at q2
      exact fun z => s.ap i k (.lst ds) e b o1 o2 ne hi q2 rfl f2 z
    · rw [List.getElem?_set_ne hj] at q1
      by_cases hk : i = k
      · subst hk
        exact fun z => s.ap j i d (.lst ds) b o1 o2 ne q1 hi f1 rfl z
      · rw [List.getElem?_set_ne hk] at q2
        exact fun z => s.ap j k d e b o1 o2 ne q1 q2 f1 f2 z
/-- x.append(e), all else is read; e is seen -/
theorem RS_app {e : Expr} {i : Nat} {x : PySem.Str} {px apos cpos : Pos} {f : Rho → E.G → Out E.G D} (O1 : List Nat) (h : RE B E W e f) (h1 : ∀ j ∈ O1, j ∈ O) (hO : i ∈ O1) (h2 : ∀ j ∈ O', j ∈ O1) (hN : B.N[i]? = some x := by rfl) (hv : Vis B.sc x := by first | exact Or.inl rfl | exact Or.inr (Or.inl rfl) | exact Or.inr (Or.inr rfl)) (hd : (x == ("__debug__" : PySem.Str)) = false := by decide)
    (hcd : (x == ("__classdict__" : PySem.Str)) = false := by decide) (hab : ∀ env, attributeBase (.Name x px) "append" env (eval (.Name x px) env) = eval (.Name x px) env := by intro _; rfl)
    (hbm : ∀ env, ((backTo cpos (starEach [e] env)).all (fun x => !x.1) && (backToKw cpos (keywordEach [] env)).all (fun x => x.1.isSome) && decide ([e].length + ([] : List Keyword).length + (if ([] : List Keyword).isEmpty = true then 0 else 1) < 30)) = true := by intro _; rfl)
    (hln : (apos.endLine == cpos.line) = true := by rfl) (hst : ∀ env, starEach [e] env = (false, eval e env) :: starEach [] env := by intro _; rfl) (hpl : ∀ env, ((backTo cpos (starEach [] env)).any (·.1)) = false := by intro _; rfl) :
    RS B E W RR OB O O' (.Expr (.Call (.Attribute (.Name x px) "append" apos) [e] [] cpos) pos) (fun ρ g => bnd (lstAt ρ i g) fun ds g => bnd (f (msk ρ O1) g) fun d g => bnd (appD ρ i ds d g) fun ρ g => .ok (.nx ρ) g) := by
  obtain ⟨t, p, q⟩ := h
  refine ⟨tDrop (tBM E.T.K "list" rAppend (tVar i) (tCons t tNil)), fun X c => ?_, fun Hb0 H0 σ ρ Hb H g Z s r h => ?_⟩
  · have hp := pe_bm (apos := apos) (cpos := cpos) PySem.F.plainAttrs_list PySem.F.slot_list_append PySem.F.type_list_append mt_append (pe_var (X := X) (i := i) (pos := px) (by rw [c.hN]; exact hN) (by rw [c.hs]; exact hv) hd hcd) (pa_cons (p X c.toInC) pa_nil (hst _)) (hab _) (hbm _) hln (hst _) (hpl _)
    rw [c.hK] at hp
    exact ps_expr hp (by rfl)
  · obtain ⟨Hb1, _, s1⟩ := s.keepL h1
    try dsimp only at h
    rcases lstAt_cases ρ i g with ⟨ds, q1, e1⟩ | e1
    · rw [e1] at h
      simp only [bnd_ok] at h
      obtain ⟨v, hv1, ⟨hf, _⟩ | ⟨a, rfl, _, w1, w2, w3⟩⟩ := s1.ow i _ hO q1
      · cases hf
      rcases w3 with ⟨xs, ds2, e3, e2, rr⟩ | ⟨_, _, _, e3, _⟩
      rotate_left
      · cases e3
      cases e3
      refine ⟨_, hv1, .inl ⟨rfl, xs, Evl.sq_of e2⟩, ?_⟩
      refine q σ _ Hb1 H g _ (s1.prM r) (h.err_of s1.gr fun d g1 k v Hb2 H2 gr r2 x => ?_)
      have s2 := s1.step gr
      obtain ⟨v', hv2, ⟨hf, _⟩ | ⟨a', rfl, _, w1', w2', w3⟩⟩ := s2.ow i _ hO q1
      · cases hf
      rw [hv1] at hv2
      cases hv2
      rcases w3 with ⟨xs', ds3, e3, e2', rr'⟩ | ⟨_, _, _, e3, _⟩
      rotate_left
      · cases e3
      cases e3
      unfold appD at k
      split at k
      · rename_i hlt
        have s3 := s2.app (es := ds ++ [d]) (ys := xs' ++ [v]) q1 hv1 hO w1' w2' e2' (rr'.append (.cons x .nil))
        obtain ⟨Hb3, _, s4⟩ := s3.keepL h2
        exact ⟨a, xs', v, rfl, rfl, e2', by rw [rr'.length]; exact hlt, k _ Hb3 _ s4 (R_mut r2 (fun z => s2.s0 a z w1') e2' fun φ => nofun)⟩
      · exact False.elim k
    · rw [e1] at h; exact False.elim h
end
end DV
set_option Elab.async false
set_option linter.all false
set_option maxRecDepth 100000
set_option maxHeartbeats 4000000
namespace DV
open PySem PySem.Spec PyProof.Rows L2
open Evl (Ex)

/-! ### loops -/
section
variable {S : Addr → Prop} {Hb0 H0 Hb2 H2 Hb3 H3 : Hp}
/-- the base may grow under the same heap -/
theorem Gr.up (a : Gr S Hb0 H0 Hb2 H2) : Gr S Hb2 H0 Hb2 H2 := ⟨Ex.refl _, a.top, a.sub, fun _ _ h => h, a.here⟩
theorem Gr.down (a : Gr S Hb0 H0 Hb2 H2) (b : Gr S Hb2 H0 Hb3 H3) : Gr S Hb0 H0 Hb3 H3 := ⟨a.base.trans b.base, b.top, b.sub, fun c h n => b.hid c h (a.hid c h n), b.here⟩
end
section
variable {B : Bk} {E : En} {W : WX} {RR : RRel} {OB O O' O1 OL : List Nat} {pos : Pos}
theorem SE.up {Hb0 H0 : Hp} {Oc : Nat → Prop} {ρ : Rho} {σ : L2.St} {Hb H : Hp} (s : SE E Hb0 H0 Oc ρ σ Hb H) : SE E Hb H0 Oc ρ σ Hb H := ⟨s.len, s.gr.up, s.hd, s.s0, s.sh, s.ow, s.ap⟩
theorem SE.down {Hb0 H0 Hb2 H2 : Hp} {Oc : Nat → Prop} {ρ : Rho} {σ : L2.St} {Hb H : Hp} (g : Gr E.S Hb0 H0 Hb2 H2) (s : SE E Hb2 H0 Oc ρ σ Hb H) : SE E Hb0 H0 Oc ρ σ Hb H := ⟨s.len, g.down s.gr, s.hd, s.s0, s.sh, s.ow, s.ap⟩
theorem PostS.up {Hb0 H0 Hb2 H2 : Hp} {Z : Ends} {m : Out E.G Fl} (g : Gr E.S Hb0 H0 Hb2 H2) (h : PostS E W RR Hb0 H0 OB O' Z m) : PostS E W RR Hb2 H0 OB O' Z m := by
  cases m with
  | ok f g1 =>
    cases f with
    | nx ρ => exact fun σ Hb H s r => h σ Hb H (s.down g) r
    | rt d => exact fun v Hb H a b c => h v Hb H (g.down a) b c
    | bk ρ => exact fun σ Hb H s r => h σ Hb H (s.down g) r
    | ct ρ => exact fun σ Hb H s r => h σ Hb H (s.down g) r
  | err e g1 => exact fun cv dd σ Hb H a r x => h cv dd σ Hb H (g.down a) r x
  | stk => exact h
theorem SE.setAll {Hb0 H0 : Hp} {Oc : Nat → Prop} {Hb H : Hp} : ∀ {is : List Nat} {vs : List V} {ds : List D} {σ : L2.St} {ρ : Rho}, SE E Hb0 H0 Oc ρ σ Hb H → RpA E.T Hb vs ds → (∀ i ∈ is, ¬ Oc i) → SE E Hb0 H0 Oc (DV.setAll ρ is ds) (DV.setAll σ is vs) Hb H
  | [], _, _, _, _, h, _, _ => by rw [setAll_nil, setAll_nil]; exact h
  | i :: is, _, _, _, _, h, .nil, _ => h
  | i :: is, _, _, _, _, h, .cons r rs, hn => by
    rw [setAll_cons, setAll_cons]
    exact SE.setAll (h.set (O' := Oc) r fun j => ⟨fun z => ⟨z, fun e => hn i List.mem_cons_self (e ▸ z)⟩, fun z => z.1⟩) rs fun k hk => hn k (List.mem_cons_of_mem _ hk)
/-- one turn, then the rest -/
def loopF {G : Type} (m : Out G Fl) (k : Rho → G → Out G Fl) : Out G Fl := match m with
  | .ok (.nx ρ) g => k ρ g
  | .ok (.ct ρ) g => k ρ g
  | .ok (.bk ρ) g => .ok (.nx ρ) g
  | .ok (.rt d) g => .ok (.rt d) g
  | .err e g => .err e g
  | .stk => .stk
@[simp] theorem loopF_nx {G : Type} (ρ : Rho) (g : G) (k : Rho → G → Out G Fl) : loopF (.ok (.nx ρ) g) k = k ρ g := rfl
@[simp] theorem loopF_rt {G : Type} (d : D) (g : G) (k : Rho → G → Out G Fl) : loopF (.ok (.rt d) g) k = .ok (.rt d) g := rfl
@[simp] theorem loopF_bk {G : Type} (d : Rho) (g : G) (k : Rho → G → Out G Fl) : loopF (.ok (.bk d) g) k = .ok (.nx d) g := rfl
@[simp] theorem loopF_ct {G : Type} (d : Rho) (g : G) (k : Rho → G → Out G Fl) : loopF (.ok (.ct d) g) k = k d g := rfl
@[simp] theorem loopF_err {G : Type} (d : D) (g : G) (k : Rho → G → Out G Fl) : loopF (.err d g) k = .err d g := rfl
@[simp] theorem loopF_stk {G : Type} (k : Rho → G → Out G Fl) : loopF .stk k = .stk := rfl
theorem PostS.loop {Hb0 H0 : Hp} {Z : Ends} {N : L2.St → Hp → Prop} {m : Out E.G Fl} {k : Rho → E.G → Out E.G Fl} (h : PostS E W RR Hb0 H0 OB O' Z (loopF m k)) (sub : ∀ i ∈ O', i ∈ OL)
    (hn : ∀ ρ g, PostS E W RR Hb0 H0 OB O' Z (k ρ g) → ∀ σ Hb H, SE E Hb0 H0 (mem OL) ρ σ Hb H → E.R H g → N σ H) : PostS E W RR Hb0 H0 OL OL { Z with nx := N, ct := N, bk := Z.nx } m := by
  cases m with
  | ok f g1 =>
    cases f with
    | nx ρ => exact hn ρ g1 h
    | rt d => exact h
    | bk ρ =>
      intro σ Hb H s r
      obtain ⟨Hb2, _, s2⟩ := s.keepL sub
      exact h σ Hb2 H s2 r
    | ct ρ => exact hn ρ g1 h
  | err e g1 => exact h
  | stk => exact h
def forD {G : Type} (parts : D → Option (List D)) (is : List Nat) (fb : Rho → G → Out G Fl) : List D → Rho → G → Out G Fl
  | [], ρ, g => .ok (.nx ρ) g
  | d :: r, ρ, g => match parts d with
    | none => .stk
    | some ds => loopF (fb (DV.setAll ρ is ds) g) (forD parts is fb r)
theorem RS_for {tg iter : Expr} {body : List Stmt} {is : List Nat} {parts : D → Option (List D)} {fi : Rho → E.G → Out E.G (List D)} {fb : Rho → E.G → Out E.G Fl} (OL : List Nat) (hi : RI B E W tg iter fi) (hg : RG B E tg is parts) (hb : RSs B E W RR OL OL OL body fb)
    (h1 : ∀ j ∈ OL, j ∈ O) (h2 : ∀ j ∈ O', j ∈ OL) (h3 : ∀ i ∈ is, i ∉ OL) (hs : ∀ env x, foldedSetIterable iter env x = pure x := by intro _ _; rfl) : RS B E W RR OB O O' (.For tg iter body [] pos) (fun ρ g => bnd (fi (msk ρ OL) g) fun ds g => forD parts is fb ds ρ g) := by
  obtain ⟨wi, pi, qi⟩ := hi
  obtain ⟨t, p, q⟩ := hg
  obtain ⟨tb, pb, qb⟩ := hb
  refine ⟨tFor wi t tb, fun X c => ps_for c.po c.calm (pi X c.toInC) (p W X c.toInC) (pb X c) (hs _), fun Hb0 H0 σ ρ Hb H g Z s r h => ?_⟩
  obtain ⟨Hb1, _, s1⟩ := s.keepL h1
  refine qi σ _ Hb1 H g _ (s1.prM r) (h.err_of s1.gr fun ds g1 k J Hb2 H2 gr r2 wk => ?_)
  have s2 := s1.step gr
  refine ⟨fun i m σ H => m = ds.length - i ∧ i ≤ ds.length ∧ ∃ Hb' ρ' g', SE E Hb2 H0 (mem OL) ρ' σ Hb' H ∧ E.R H g' ∧ PostS E W RR Hb2 H0 OB O' Z (forD parts is fb (ds.drop i) ρ' g'),
    ⟨ds.length, by simp, Nat.zero_le _, Hb2, ρ, g1, s2.up, r2, by simpa using PostS.up s2.gr k⟩, ?_⟩
  rintro i m σ' H' ⟨rfl, hi, Hb', ρ', g', s', r', hp⟩
  obtain ⟨w1, w2⟩ := wk Hb' H' g' s'.gr.base s'.gr.sub r' s'.hd
  rcases Nat.lt_or_ge i ds.length with hlt | hge
  · right
    have hdi : ds[i]? = some ds[i] := List.getElem?_eq_getElem hlt
    obtain ⟨hgo, hy⟩ := w1 i ds[i] hdi
    have hdrop : ds.drop i = ds[i] :: ds.drop (i + 1) := List.drop_eq_getElem_cons hlt
    rw [hdrop] at hp
    refine ⟨hgo, fun σ3 H3 => ∃ Hb' ρ' g', SE E Hb2 H0 (mem OL) ρ' σ3 Hb' H3 ∧ E.R H3 g' ∧ PostS E W RR Hb2 H0 OB O' Z (forD parts is fb (ds.drop (i + 1)) ρ' g'), fun σ3 H3 hN => ⟨ds.length - (i + 1), by omega, rfl, hlt, hN⟩, fun x H3 hyl => ?_⟩
    obtain ⟨Hbx, rx, grx, hx⟩ := hy x H3 hyl
    have sx := s'.step grx
    unfold forD at hp
    cases hpa : parts ds[i] with
    | none => rw [hpa] at hp; exact False.elim hp
    | some es =>
      rw [hpa] at hp
      refine q Hbx H3 σ' x ds[i] es _ grx.sub hx hpa fun us hus => ?_
      exact qb Hb2 H0 _ _ Hbx H3 g' _ (sx.setAll hus h3) (rx g' r') (PostS.loop hp h2 fun ρ4 g4 h4 σ4 Hb4 H4 s4 r4 => ⟨Hb4, ρ4, g4, s4, r4, h4⟩)
  · left
    have hdrop : ds.drop i = [] := List.drop_eq_nil_of_le hge
    rw [hdrop] at hp
    obtain ⟨Hb4, _, s4⟩ := s'.keepL h2
    exact ⟨w2 i hge, hp σ' Hb4 H' s4 r'⟩
/-- while -/
def whileN {G : Type} (fc : Rho → G → Out G Bool) (fb : Rho → G → Out G Fl) : Nat → Rho → G → Out G Fl
  | 0, _, _ => .stk
  | n + 1, ρ, g => ifO (fc ρ g) (fun g => loopF (fb ρ g) (whileN fc fb n)) (fun g => .ok (.nx ρ) g)
open Classical in
/-- as many turns as it takes -/
noncomputable def whileD {G : Type} (fc : Rho → G → Out G Bool) (fb : Rho → G → Out G Fl) (ρ : Rho) (g : G) : Out G Fl :=
  if h : ∃ n, whileN fc fb n ρ g ≠ .stk then whileN fc fb (Classical.choose h) ρ g else .stk
theorem whileN_up {G : Type} {fc : Rho → G → Out G Bool} {fb : Rho → G → Out G Fl} : ∀ {n m : Nat} {ρ : Rho} {g : G}, n ≤ m → whileN fc fb n ρ g ≠ .stk → whileN fc fb m ρ g = whileN fc fb n ρ g
  | 0, _, _, _, _, h => absurd rfl h
  | n + 1, 0, _, _, h, _ => by omega
  | n + 1, m + 1, ρ, g, hnm, h => by
    unfold whileN at h ⊢
    cases hc : fc ρ g with
    | err e g1 => rfl
    | stk => rfl
    | ok b g1 =>
      rw [hc] at h
      cases b with
      | false => rfl
      | true =>
        simp only [ifO, bnd_ok] at h ⊢
        cases hb : fb ρ g1 with
        | err e g2 => rfl
        | stk => rfl
        | ok f g2 =>
          rw [hb] at h
          cases f with
          | nx ρ2 => exact whileN_up (by omega) h
          | ct ρ2 => exact whileN_up (by omega) h
          | bk ρ2 => rfl
          | rt d => rfl
theorem whileD_eq {G : Type} {fc : Rho → G → Out G Bool} {fb : Rho → G → Out G Fl} {n : Nat} {ρ : Rho} {g : G} (h : whileN fc fb n ρ g ≠ .stk) : whileD fc fb ρ g = whileN fc fb n ρ g := by
  unfold whileD
  rw [dif_pos ⟨n, h⟩]
  have hc := Classical.choose_spec (⟨n, h⟩ : ∃ n, whileN fc fb n ρ g ≠ .stk)
  rcases Nat.le_total n (Classical.choose (⟨n, h⟩ : ∃ n, whileN fc fb n ρ g ≠ .stk)) with z | z
  · exact whileN_up z h
  · exact (whileN_up z hc).symm
theorem whileD_cases {G : Type} (fc : Rho → G → Out G Bool) (fb : Rho → G → Out G Fl) (ρ : Rho) (g : G) : (∃ n, whileD fc fb ρ g = whileN fc fb n ρ g) := by
  unfold whileD
  split
  · exact ⟨_, rfl⟩
  · exact ⟨0, rfl⟩
/-- one turn -/
theorem whileD_step {G : Type} {fc : Rho → G → Out G Bool} {fb : Rho → G → Out G Fl} {ρ : Rho} {g : G} : whileD fc fb ρ g = ifO (fc ρ g) (fun g => loopF (fb ρ g) (whileD fc fb)) (fun g => .ok (.nx ρ) g) := by
  cases hc : fc ρ g with
  | err e g1 =>
    rw [whileD_eq (n := 1) (by unfold whileN; rw [hc]; exact nofun)]
    unfold whileN; rw [hc]; rfl
  | stk =>
    obtain ⟨n, e⟩ := whileD_cases fc fb ρ g
    rw [e]
    cases n with
    | zero => rfl
    | succ n => unfold whileN; rw [hc]; rfl
  | ok b g1 =>
    cases b with
    | false =>
      rw [whileD_eq (n := 1) (by unfold whileN; rw [hc]; exact nofun)]
      unfold whileN; rw [hc]; rfl
    | true =>
      show _ = loopF (fb ρ g1) (whileD fc fb)
      have one : ∀ n, whileN fc fb (n + 1) ρ g = loopF (fb ρ g1) (whileN fc fb n) := fun n => by
        conv => lhs; unfold whileN
        rw [hc]; rfl
      have go : ∀ (k : (Rho → G → Out G Fl) → Out G Fl), (∀ n, whileN fc fb (n + 1) ρ g = k (whileN fc fb n)) → (∀ ρ2 g2, (k = fun f => f ρ2 g2) → whileD fc fb ρ g = whileD fc fb ρ2 g2) := fun k hk ρ2 g2 e => by
        subst e
        replace hk : ∀ n, whileN fc fb (n + 1) ρ g = whileN fc fb n ρ2 g2 := hk
        obtain ⟨n, en⟩ := whileD_cases fc fb ρ2 g2
        by_cases hz : whileN fc fb n ρ2 g2 = .stk
        · rw [en, hz]
          obtain ⟨m, em⟩ := whileD_cases fc fb ρ g
          rw [em]
          cases m with
          | zero => rfl
          | succ m =>
            rw [hk m]
            by_cases hy : whileN fc fb m ρ2 g2 = .stk
            · exact hy
            · rw [← whileD_eq hy, en, hz]
        · rw [en, ← hk n]
          exact whileD_eq (by rw [hk n]; exact hz)
      cases hb : fb ρ g1 with
      | err e g2 => rw [whileD_eq (n := 1) (by rw [one, hb]; exact nofun), one, hb]; rfl
      | stk =>
        obtain ⟨n, e⟩ := whileD_cases fc fb ρ g
        rw [e]
        cases n with
        | zero => rfl
        | succ n => rw [one, hb]; rfl
      | ok f g2 =>
        cases f with
        | nx ρ2 => exact go (fun f => f ρ2 g2) (fun n => by rw [one, hb]; rfl) ρ2 g2 rfl
        | ct ρ2 => exact go (fun f => f ρ2 g2) (fun n => by rw [one, hb]; rfl) ρ2 g2 rfl
        | bk ρ2 => rw [whileD_eq (n := 1) (by rw [one, hb]; exact nofun), one, hb]; rfl
        | rt d => rw [whileD_eq (n := 1) (by rw [one, hb]; exact nofun), one, hb]; rfl
theorem RS_while {c : Expr} {body : List Stmt} {fc : Rho → E.G → Out E.G Bool} {fb : Rho → E.G → Out E.G Fl} (OL : List Nat) (hc : RT B E W c fc) (hb : RSs B E W RR OL OL OL body fb) (h1 : ∀ j ∈ OL, j ∈ O) (h2 : ∀ j ∈ O', j ∈ OL) : RS B E W RR OB O O' (.While c body [] pos) (fun ρ g => whileD fc fb ρ g) := by
  obtain ⟨t, p, q⟩ := hc
  obtain ⟨tb, pb, qb⟩ := hb
  refine ⟨tWhile t tb, fun X c => ps_while c.po (p X c.toInC) (pb X c), fun Hb0 H0 σ ρ Hb H g Z s r h => ?_⟩
  obtain ⟨Hb1, _, s1⟩ := s.keepL h1
  obtain ⟨n, en⟩ := whileD_cases fc fb ρ g
  try dsimp only at h
  rw [en] at h
  refine ⟨fun m σ H => ∃ Hb' ρ' g', SE E Hb0 H0 (mem OL) ρ' σ Hb' H ∧ E.R H g' ∧ PostS E W RR Hb0 H0 OB O' Z (whileN fc fb m ρ' g'), ⟨n, Hb1, ρ, g, s1, r, h⟩, ?_⟩
  rintro m σ' H' ⟨Hb', ρ', g', s', r', hp⟩
  cases m with
  | zero => exact False.elim hp
  | succ m =>
    obtain ⟨Hb2, e2, s2⟩ := s'.all
    unfold whileN ifO at hp
    refine q σ' _ Hb2 H' g' _ (s2.pr r') (hp.err_of s2.gr fun b g1 k Hb3 H3 gr r3 => ?_)
    have s3 := s'.top e2 gr
    cases b with
    | true => exact ⟨fun σ4 H4 => ∃ Hb' ρ' g', SE E Hb0 H0 (mem OL) ρ' σ4 Hb' H4 ∧ E.R H4 g' ∧ PostS E W RR Hb0 H0 OB O' Z (whileN fc fb m ρ' g'), fun σ4 H4 hN => ⟨m, Nat.lt_succ_self m, hN⟩,
        qb Hb0 H0 σ' ρ' Hb' H3 g1 _ s3 r3 (PostS.loop k h2 fun ρ4 g4 h4 σ4 Hb4 H4 s4 r4 => ⟨Hb4, ρ4, g4, s4, r4, h4⟩)⟩
    | false =>
      obtain ⟨Hb4, _, s4⟩ := s3.keepL h2
      exact k σ' Hb4 H3 s4 r3
end
end DV
set_option Elab.async false
set_option linter.all false
set_option maxRecDepth 100000
set_option maxHeartbeats 4000000
namespace DV
open PySem PySem.Spec PyProof.Rows L2
open Evl (Ex)

/-! ### defs -/
def startR (N : List PySem.Str) (ds : List D) : Rho := ds.map some ++ List.replicate (N.length - ds.length) none
/-- what a body gives back -/
def retF {G : Type} (m : Out G Fl) : Out G D := match m with
  | .ok (.rt d) g => .ok d g
  | .ok (.nx _) g => .ok .non g
  | .err e g => .err e g
  | _ => .stk
@[simp] theorem retF_rt {G : Type} (d : D) (g : G) : retF (.ok (.rt d) g) = .ok d g := rfl
@[simp] theorem retF_nx {G : Type} (d : Rho) (g : G) : retF (.ok (.nx d) g) = .ok .non g := rfl
@[simp] theorem retF_err {G : Type} (d : D) (g : G) : retF (.err d g : Out G Fl) = .err d g := rfl
@[simp] theorem retF_stk {G : Type} : retF (.stk : Out G Fl) = .stk := rfl
def RNon (RR : RRel) : Prop := ∀ T H1 Hb2 H2, RR T H1 Hb2 H2 .non .non
theorem rs_non : RNon Rs := fun _ _ _ _ => .non
theorem rf_non : RNon Rf := fun _ _ _ _ => .inl ⟨rfl, .non⟩
/-- the block of a def -/
abbrev bkOf (N : List PySem.Str) (st : Stmt) (cq : Option (Value × PySem.Str) := none) : Bk := ⟨N, defScope st, fun _ => true, cq⟩
theorem start_se {E : En} {N : List PySem.Str} {vs : List V} {ds : List D} {Hb H : Hp} (r : RpA E.T Hb vs ds) (e : Ex Hb H) (hd : ∀ a, E.S a → Hb a = none) (hs : ∀ a, E.S a → H a ≠ none) : SE E Hb H (mem []) (startR N ds) (L2.start N vs) Hb H := by
  refine ⟨?_, Gr.refl e, hd, hs, fun i d _ q => ?_, fun i d z => absurd z (by simp), fun i j d e a z => absurd z (by simp)⟩
  · unfold L2.start startR
    rw [List.length_append, List.length_append, List.length_map, List.length_map, List.length_replicate, List.length_replicate, r.length]
  · unfold startR at q
    unfold L2.start
    by_cases hi : i < ds.length
    · rw [List.getElem?_append_left (by rw [List.length_map]; exact hi), List.getElem?_map] at q
      rw [List.getElem?_append_left (by rw [List.length_map, r.length]; exact hi), List.getElem?_map]
      cases h : ds[i]? with
      | none => rw [h] at q; cases q
      | some d' =>
        rw [h] at q
        cases q
        obtain ⟨v, h1, h2⟩ := r.getD h
        exact ⟨v, by rw [h1]; rfl, h2⟩
    · rw [List.getElem?_append_right (by rw [List.length_map]; omega), List.getElem?_replicate] at q
      split at q <;> cases q
section
variable {P : Program} {w : World} {K : PySem.W.Frag} {mg : PySem.Str → Option Value} {base : Heap} {x qual : PySem.Str} {st : Stmt} {f : Addr} {fd : FuncData} {N ps : List PySem.Str} {k n : Nat} {RR : RRel}
/-- a def's body, run -/
theorem run_def {T : Tx} {wd : Wd} {Hb H : Hp} {vs : List V} {ds : List D} {g : wd.G} {Q : VK} {XE : XK} {fb : Rho → wd.G → Out wd.G Fl} {F : List D → wd.G → Out wd.G D} {O' : List Nat} {A : Around} {outer : List Env} {s : Shared} {cdv : Value} {cq : Option (Value × PySem.Str)} (hcq : ∀ cd q, cq = some (cd, q) → cdv = cd ∧ qual ++ ".<locals>." = q) (hT : T.K = K) (hM : T.mg = mg) (hr : Room k (A.deeper (envOfC qual (defScope st) s.heap.objs.size f cdv))) (hg : A.guards = some [])
    (hRR : RNon RR) (h : RSs (bkOf N st cq) ⟨P, w, T, base, k, wd⟩ (fun cv dd _ H => XE cv dd H) RR [] [] O' (defBody st) fb) (e : Ex Hb H) (hd : ∀ a, wd.S a → Hb a = none) (r : wd.R H g) (xs : RpA T Hb vs ds) (le : Le (F ds g) (retF (fb (startR N ds) g))) (post : PostF T wd RR Hb H Q XE (F ds g)) :
    ∃ t, PSs (cxOf (L2.CX P w) P w K mg base N qual (defScope st) f cdv A outer s H XE) (defBody st) t ∧ t { nx := fun _ H' => Q .non H', rt := Q } (L2.start N vs) H := by
  obtain ⟨t, p, q⟩ := h
  refine ⟨t, p _ ?_, q Hb H _ (startR N ds) Hb H g _ (start_se (E := ⟨P, w, T, base, k, wd⟩) xs e hd fun a z => wd.inS _ _ r a z) r ?_⟩
  · exact { hN := rfl, hs := rfl, hfn := rfl, hP := rfl, hw := rfl, hK := hT.symm, hmg := hM.symm, hb := rfl, room := hr, gd := hg, calm := rfl, tk := takes_of rfl rfl rfl rfl, hcq := hcq, st := rfl, fr := rfl, ex := rfl, po := passes_of rfl }
  · rcases le with le | le
    · rw [le] at post; exact False.elim post
    · rw [← le] at post
      generalize fb (startR N ds) g = m at post
      cases m with
      | ok fl g1 =>
        cases fl with
        | nx ρ => exact fun σ2 Hb2 H2 s2 r2 => post .non Hb2 H2 s2.gr r2 (hRR _ _ _ _)
        | rt d => exact post
        | bk ρ => exact False.elim post
        | ct ρ => exact False.elim post
      | err e g1 => exact fun cv dd σ2 Hb2 H2 g2 r2 x => post cv dd Hb2 H2 g2 r2 x
      | stk => exact False.elim post
theorem fnG_of (F : Fun K x qual st f fd) (S : FnScope N ps (defScope st)) {sp : Sp} (len : ∀ vs H Q E, sp vs H Q E → vs.length = ps.length)
    (h : ∀ (cdv : Value) (A : Around) (outer : List Env) (s : Shared) (H : Hp) (vs : List V) (Q : VK) (XE : XK), Room k (A.deeper (envOfC qual (defScope st) s.heap.objs.size f cdv)) → A.guards = some [] → sp vs H Q XE →
      ∃ t, PSs (cxOf (L2.CX P w) P w K mg base N qual (defScope st) f cdv A outer s H XE) (defBody st) t ∧ t { nx := fun _ H' => Q .non H', rt := Q } (L2.start N vs) H) : FnG P w K mg base (k + 1) f fd ps sp := by
  obtain ⟨oc, od, kV, doc, pm, an, cdv, ct, osl, rfl, lk, hcd⟩ := F.ex
  exact ⟨len, fun A outer s H args us vs Q E hr hg e0 hb r hsp => LamX.run_ofS lk hcd S hr e0 hb r (len _ _ _ _ hsp) fun hr' => h cdv A outer s H vs Q E hr' hg hsp⟩
/-- a def that touches nothing -/
theorem def_okP {Fn : List D → Unit → Out Unit D} (F : Fun K x qual st f fd) (S : FnScope N ps (defScope st)) (hn : ps.length = n) (hRR : RNon RR)
    (h : ∀ (hd : Nat → Addr) (W : WX), ∃ (O' : List Nat) (fb : Rho → Unit → Out Unit Fl), RSs (bkOf N st) ⟨P, w, ⟨K, mg, hd⟩, base, k, W0⟩ W RR [] [] O' (defBody st) fb ∧ ∀ ds g, ds.length = n → Le (Fn ds g) (retF (fb (startR N ds) g))) : FnG P w K mg base (k + 1) f fd ps (spP K mg RR n Fn) := by
  refine fnG_of F S (fun vs H Q E ⟨hd, Hb, ds, g, h, _⟩ => by rw [h, hn]) fun cdv A outer s H vs Q XE hr hg ⟨hd, Hb, ds, g, hl, e, hdS, r, xs, post⟩ => ?_
  obtain ⟨O', fb, h1, h2⟩ := h hd fun cv dd _ H => XE cv dd H
  exact run_def (cq := none) (fun _ _ z => nomatch z) (T := ⟨K, mg, hd⟩) (wd := W0) rfl rfl hr hg hRR h1 e hdS r xs (h2 ds g (by rw [← xs.length]; exact hl)) post
/-- a def in a world -/
theorem def_okD {hid : Nat → Addr} {wd : Wd} {Fn : List D → wd.G → Out wd.G D} (F : Fun K x qual st f fd) (S : FnScope N ps (defScope st)) (hn : ps.length = n) (hRR : RNon RR)
    (h : ∀ (W : WX), ∃ (O' : List Nat) (fb : Rho → wd.G → Out wd.G Fl), RSs (bkOf N st) ⟨P, w, ⟨K, mg, hid⟩, base, k, wd⟩ W RR [] [] O' (defBody st) fb ∧ ∀ ds g, ds.length = n → Le (Fn ds g) (retF (fb (startR N ds) g))) : FnG P w K mg base (k + 1) f fd ps (spD ⟨K, mg, hid⟩ wd RR n Fn) := by
  refine fnG_of F S (fun vs H Q E ⟨Hb, ds, g, h, _⟩ => by rw [h, hn]) fun cdv A outer s H vs Q XE hr hg ⟨Hb, ds, g, hl, e, hdS, r, xs, post⟩ => ?_
  obtain ⟨O', fb, h1, h2⟩ := h fun cv dd _ H => XE cv dd H
  exact run_def (cq := none) (fun _ _ z => nomatch z) (T := ⟨K, mg, hid⟩) rfl rfl hr hg hRR h1 e hdS r xs (h2 ds g (by rw [← xs.length]; exact hl)) post
end
end DV
set_option Elab.async false
set_option linter.all false
set_option maxRecDepth 100000
set_option maxHeartbeats 4000000
namespace DV
open PySem PySem.Spec PyProof.Rows L2
open Evl (Ex)

/-! ### isinstance -/
def tyNm : D → Option String
  | .non => some "NoneType"
  | .bl _ => some "bool"
  | .int _ => some "int"
  | .str _ => some "str"
  | .lst _ => some "list"
  | .tup _ => some "tuple"
  | .dct _ _ => some "dict"
  | _ => none
theorem Rp.tyX {T : Tx} {Hb H : Hp} {v : V} {d : D} {n : String} (e : Ex Hb H) (h : Rp T Hb v d) (hn : tyNm d = some n) : TyX T.K H v (.type n) := by
  cases h with
  | non => cases hn; exact .base .non
  | bl b => cases hn; exact .base (.bl b)
  | int i => cases hn; exact .base (.int i)
  | str s => cases hn; exact .base (.str s)
  | lst hq _ =>
    cases hn
    rcases Evl.ex_l e hq with (h | ⟨o, h⟩) | ⟨o, its, k, h1, h2, _⟩
    · exact .base (.lst h)
    · exact .base (.frz h)
    · exact .kList h1 h2
  | tup hq _ =>
    cases hn
    rcases Evl.ex_t e hq with (h | ⟨o, h⟩) | ⟨o, its, k, h1, h2, _⟩
    · exact .base (.tup h)
    · exact .fTuple h
    · exact .kTuple h1 h2
  | dct hq _ _ =>
    cases hn
    rcases Evl.ex_rd e hq with h | ⟨o, h⟩
    · exact .base (.dK h)
    · exact .fDict h
  | exc0 _ _ => cases hn
  | exc1 _ _ _ _ _ _ => cases hn
  | hid _ => cases hn
def kitBs (a : String) : List String → Option Bool
  | [] => some false
  | b :: r => match kitB a b with
    | some true => some true
    | some false => kitBs a r
    | none => none
theorem kitBs_ok {K : PySem.W.Frag} {a : String} : ∀ {bs : List String} {r : Bool}, kitBs a bs = some r → PySem.W.kitAny K (.type a) (bs.map Value.type) = some r
  | [], r, h => by cases h; rfl
  | b :: bs, r, h => by
    unfold kitBs at h
    cases q : kitB a b with
    | none => rw [q] at h; cases h
    | some c =>
      rw [q] at h
      cases c with
      | true => cases h; exact kitAny_cons (kit_ty q) (fun z => nomatch z) (fun _ => rfl)
      | false => exact kitAny_cons (kit_ty q) (fun _ => kitBs_ok h) (fun z => nomatch z)
def isTy (b : String) (d : D) : Option D := match tyNm d with
  | some a => (kitB a b).map .bl
  | none => none
def isTys (bs : List String) (d : D) : Option D := match tyNm d with
  | some a => (kitBs a bs).map .bl
  | none => none
section
variable {B : Bk} {E : En} {W : WX} {RR : RRel}
theorem RE_isi {e : Expr} {x : PySem.Str} {p px pos : Pos} {T : String} {f : Rho → E.G → Out E.G D} (h : RE B E W e f) (hg : Gn B.sc "isinstance") (hm : E.T.mg "isinstance" = none) (hgx : Gn B.sc x) (hmx : E.T.mg x = none) (hv : bootBuiltins x = some (.type T)) (hn : x ≠ "__name__" := by decide) (hd : (x == ("__debug__" : PySem.Str)) = false := by decide)
    (he : ∀ env, starEach [e, .Name x px] env = (false, eval e env) :: starEach [.Name x px] env := by intro _; rfl) (hpl : ∀ env, (backTo pos (starEach [.Name x px] env)).any (·.1) = false := by intro _; rfl) :
    RE B E W (.Call (.Name "isinstance" p) [e, .Name x px] [] pos) (fun ρ g => bnd (f ρ g) fun d g => opt (isTy T d) g) := by
  obtain ⟨t, pt, q⟩ := h
  refine ⟨_, fun X c => pe_callB (by have := call_isi (X := X); rw [c.hK] at this; exact this) (by unfold Gl Env.kindOf; rw [c.hs]; exact hg) (by rw [c.hmg]; exact hm) boot_isinstance (pa_cons (pt X c) (pa_cons (pe_bltn (v := .ty T) (by unfold Gl Env.kindOf; rw [c.hs]; exact hgx) (by rw [c.hmg]; exact hmx) hv rfl hn hd) pa_nil (by rfl)) (he _)) (by decide) (by decide) (he _) (hpl _), fun σ ρ Hb H1 g Q pr h => q σ ρ Hb H1 g _ pr (h.bnd fun d g1 k v Hb2 H2 gr r x => ?_)⟩
  unfold isTy at k
  cases ht : tyNm d with
  | none => rw [ht] at k; exact False.elim k
  | some n =>
    rw [ht] at k
    dsimp only at k
    cases hk : kitB n T with
    | none => rw [hk] at k; exact False.elim k
    | some b =>
      rw [hk] at k
      exact ⟨v, .ty T, .type n, .type T, b, rfl, .ty T, x.tyX gr.sub ht, kit_ty hk, k _ _ _ gr r (.bl b)⟩
theorem RE_isi2 {e : Expr} {x y : PySem.Str} {p px py ptu pos : Pos} {ku : Nat} {T U : String} {f : Rho → E.G → Out E.G D} (h : RE B E W e f) (hg : Gn B.sc "isinstance") (hm : E.T.mg "isinstance" = none) (hgx : Gn B.sc x) (hmx : E.T.mg x = none) (hgy : Gn B.sc y) (hmy : E.T.mg y = none) (hv : bootBuiltins x = some (.type T)) (hw : bootBuiltins y = some (.type U))
    (hn : x ≠ "__name__" := by decide) (hd : (x == ("__debug__" : PySem.Str)) = false := by decide) (hn2 : y ≠ "__name__" := by decide) (hd2 : (y == ("__debug__" : PySem.Str)) = false := by decide)
    (he : ∀ env, starEach [e, .Tuple [.Name x px, .Name y py] ku ptu] env = (false, eval e env) :: starEach [.Tuple [.Name x px, .Name y py] ku ptu] env := by intro _; rfl) (hpl : ∀ env, (backTo pos (starEach [.Tuple [.Name x px, .Name y py] ku ptu] env)).any (·.1) = false := by intro _; rfl) :
    RE B E W (.Call (.Name "isinstance" p) [e, .Tuple [.Name x px, .Name y py] ku ptu] [] pos) (fun ρ g => bnd (f ρ g) fun d g => opt (isTys [T, U] d) g) := by
  obtain ⟨t, pt, q⟩ := h
  refine ⟨_, fun X c => pe_callB (by have := call_isiT (X := X); rw [c.hK] at this; exact this) (by unfold Gl Env.kindOf; rw [c.hs]; exact hg) (by rw [c.hmg]; exact hm) boot_isinstance (pa_cons (pt X c) (pa_cons (pe_tup (pa_cons (pe_bltn (v := .ty T) (by unfold Gl Env.kindOf; rw [c.hs]; exact hgx) (by rw [c.hmg]; exact hmx) hv rfl hn hd) (pa_cons (pe_bltn (v := .ty U) (by unfold Gl Env.kindOf; rw [c.hs]; exact hgy) (by rw [c.hmg]; exact hmy) hw rfl hn2 hd2) pa_nil (by rfl)) (by rfl))) pa_nil (by rfl)) (he _)) (by decide) (by decide) (he _) (hpl _), fun σ ρ Hb H1 g Q pr h => q σ ρ Hb H1 g _ pr (h.bnd fun d g1 k v Hb2 H2 gr r x => ?_)⟩
  unfold isTys at k
  cases ht : tyNm d with
  | none => rw [ht] at k; exact False.elim k
  | some n =>
    rw [ht] at k
    dsimp only at k
    cases hk : kitBs n [T, U] with
    | none => rw [hk] at k; exact False.elim k
    | some b =>
      rw [hk] at k
      refine ⟨by show 2 ≤ sizeLine; decide, fun tp hp => ?_⟩
      have gr2 : Gr E.S Hb H1 Hb2 (upd H2 tp (.tup [.ty T, .ty U])) := gr.trans (Gr.newH gr.sub hp)
      exact ⟨v, tp, [.ty T, .ty U], .type n, [.type T, .type U], b, rfl, upd_same, .cons (.ty T) (.cons (.ty U) .nil), x.tyX (gr.sub.trans (Ex.new hp)) ht, kitBs_ok (K := E.T.K) hk, k _ _ _ gr2 (R_new r hp) (.bl b)⟩
end
end DV
set_option Elab.async false
set_option linter.all false
set_option maxRecDepth 100000
set_option maxHeartbeats 4000000
namespace DV
open PySem PySem.Spec PyProof.Rows L2
open Evl (Ex)
section
variable {B : Bk} {E : En} {W : WX} {RR : RRel}
/-! ### a op b op c -/
def chO {G : Type} (m : Out G D) (k : G → Out G D) : Out G D := bnd m fun d g => match d with
  | .bl true => k g
  | .bl false => .ok (.bl false) g
  | _ => .stk
@[simp] theorem chO_t {G : Type} (g : G) (k : G → Out G D) : chO (.ok (.bl true) g) k = k g := rfl
@[simp] theorem chO_f {G : Type} (g : G) (k : G → Out G D) : chO (.ok (.bl false) g) k = .ok (.bl false) g := rfl
theorem chO_b {G : Type} (b c : Bool) (g : G) : chO (.ok (.bl b) g) (fun g => .ok (.bl c) g) = .ok (.bl (b && c)) g := by cases b <;> rfl
theorem tChain_post {fa fb fc : Rho → E.G → Out E.G D} {r r' : R2} {s1 s2 : D → D → E.G → Out E.G D} {ta tb tc : TE} (hs : Sem2 E Rs r s1) (hs' : Sem2 E Rs r' s2)
    (ea : ∀ σ ρ Hb H1 g Q, Pr E σ ρ Hb H1 g → Post E W σ Hb H1 (okE E Rs Hb H1 Q) (fa ρ g) → ta σ H1 Q) (eb : ∀ σ ρ Hb H1 g Q, Pr E σ ρ Hb H1 g → Post E W σ Hb H1 (okE E Rs Hb H1 Q) (fb ρ g) → tb σ H1 Q) (ec : ∀ σ ρ Hb H1 g Q, Pr E σ ρ Hb H1 g → Post E W σ Hb H1 (okE E Rs Hb H1 Q) (fc ρ g) → tc σ H1 Q) :
    ∀ σ ρ Hb H1 g Q, Pr E σ ρ Hb H1 g → Post E W σ Hb H1 (okE E Rs Hb H1 Q) (bnd (fa ρ g) fun x g => bnd (fb ρ g) fun y g => chO (s1 x y g) fun g => bnd (fc ρ g) fun z g => s2 y z g) → tChain r r' ta tb tc σ H1 Q := by
  intro σ ρ Hb H1 g Q pr h
  refine ea σ ρ Hb H1 g _ pr (h.bnd fun x g1 h v Hb2 H2 gr r1 rx => ?_)
  have pr2 := pr.step gr r1
  refine eb σ ρ Hb2 H2 g1 _ pr2 (Post.bnd (h.step gr fun _ _ k => okE.step rs_back k gr) fun y g2 h u Hb3 H3 gr2 r2 ry => ?_)
  have pr3 := pr2.step gr2 r2
  unfold chO at h
  refine hs x y v u W σ Hb3 H3 g2 _ pr3.ex pr3.hd r2 (rx.mono gr2.base) ry (Post.bnd (h.step gr2 fun _ _ k => okE.step rs_back k gr2) fun z g3 h z' Hb4 H4 gr3 r3 rz => ?_)
  have pr4 := pr3.step gr3 r3
  cases rz <;> first | exact False.elim h | skip
  rename_i b
  refine ⟨b, rfl, ?_⟩
  cases b with
  | false => exact h _ Hb4 H4 gr3 r3 (.bl false)
  | true => exact ec σ ρ Hb4 H4 g3 _ pr4 (Post.bnd (h.step gr3 fun _ _ k => okE.step rs_back k gr3) fun w' g4 h w2 Hb5 H5 gr4 r4 rw' => hs' y w' u w2 W σ Hb5 H5 g4 Q (pr4.step gr4 r4).ex (pr4.step gr4 r4).hd r4 (ry.mono (gr3.base.trans gr4.base)) rw' (h.step gr4 fun _ _ k => okE.step rs_back k gr4))
theorem RE_chain {a b c : Expr} {op op' : CmpOp} {r r' : R2} {s1 s2 : D → D → E.G → Out E.G D} {fa fb fc : Rho → E.G → Out E.G D} {pos : Pos} (ho : ∀ X, InC B E W X → OpR X (compareOp op) r) (ho' : ∀ X, InC B E W X → OpR X (compareOp op') r') (hs : Sem2 E Rs r s1) (hs' : Sem2 E Rs r' s2)
    (ha : RE B E W a fa) (hb : RE B E W b fb) (hc : RE B E W c fc) (hm : lastMarks [op, op'] [b, c] = false := by with_unfolding_all rfl) :
    RE B E W (.Compare a [op, op'] [b, c] pos) (fun ρ g => bnd (fa ρ g) fun x g => bnd (fb ρ g) fun y g => chO (s1 x y g) fun g => bnd (fc ρ g) fun z g => s2 y z g) := by
  obtain ⟨ta, pa, ea⟩ := ha
  obtain ⟨tb, pb, eb⟩ := hb
  obtain ⟨tc, pc, ec⟩ := hc
  exact ⟨_, fun X c => pe_chain (ho X c) (ho' X c) (pa X c) (pb X c) (pc X c) hm, tChain_post hs hs' ea eb ec⟩
theorem RT_chain {a b c : Expr} {op op' : CmpOp} {r r' : R2} {s1 s2 : D → D → E.G → Out E.G D} {fa fb fc : Rho → E.G → Out E.G D} {pos : Pos} (ho : ∀ X, InC B E W X → OpR X (compareOp op) r) (ho' : ∀ X, InC B E W X → OpR X (compareOp op') r') (hs : Sem2 E Rs r s1) (hs' : Sem2 E Rs r' s2)
    (ha : RE B E W a fa) (hb : RE B E W b fb) (hc : RE B E W c fc) (hm : lastMarks [op, op'] [b, c] = false := by with_unfolding_all rfl) :
    RT B E W (.Compare a [op, op'] [b, c] pos) (fun ρ g => bnd (bnd (fa ρ g) fun x g => bnd (fb ρ g) fun y g => chO (s1 x y g) fun g => bnd (fc ρ g) fun z g => s2 y z g) asB) := by
  obtain ⟨ta, pa, ea⟩ := ha
  obtain ⟨tb, pb, eb⟩ := hb
  obtain ⟨tc, pc, ec⟩ := hc
  refine ⟨_, fun X c => pt_chain (ho X c) (ho' X c) (pa X c) (pb X c) (pc X c) hm, fun σ ρ Hb H1 g Q pr h => tChain_post hs hs' ea eb ec σ ρ Hb H1 g _ pr (Post.bnd h fun d g1 k v Hb2 H2 gr r x => ?_)⟩
  unfold asB at k
  cases x <;> first | exact False.elim k | exact ⟨_, rfl, k _ _ gr r⟩
/-! ### a sign in a text -/
def inSign {G : Type} (neg : Bool) (x y : D) (g : G) : Out G D := match x, y with
  | .str s, .str z => match s.cps.toList with
    | [c] => .ok (.bl (if neg then !decide (c ∈ z.cps.toList) else decide (c ∈ z.cps.toList))) g
    | _ => .stk
  | _, _ => .stk
theorem str_one {s : PySem.Str} {c : Nat} (h : s.cps.toList = [c]) : s = ⟨#[c]⟩ := by
  obtain ⟨a⟩ := s
  have e : a = #[c] := by rw [← Array.toArray_toList (xs := a)]; rw [h]
  rw [e]
theorem inSign_one {G : Type} (neg : Bool) (c : Nat) (z : PySem.Str) (g : G) : inSign neg (.str ⟨#[c]⟩) (.str z) g = .ok (.bl (if neg then !decide (c ∈ z.cps.toList) else decide (c ∈ z.cps.toList))) g := rfl
theorem inSign_post {Q : VK} {x y : D} {v u : V} {σ : L2.St} {Hb H1 : Hp} {g : E.G} {neg : Bool} (e : Ex Hb H1) (r : E.R H1 g) (rx : Rp E.T Hb v x) (ry : Rp E.T Hb u y) (h : Post E W σ Hb H1 (okE E Rs Hb H1 Q) (inSign neg x y g)) :
    ∃ (c : Nat) (z : PySem.Str), v = .str ⟨#[c]⟩ ∧ u = .str z ∧ Q (.bl (if neg then !decide (c ∈ z.cps.toList) else decide (c ∈ z.cps.toList))) H1 := by
  unfold inSign at h
  cases rx <;> cases ry <;> first | exact False.elim h | skip
  rename_i s z
  dsimp only at h
  split at h
  · rename_i c hc
    exact ⟨c, z, by rw [str_one hc], rfl, h _ Hb H1 (Gr.refl e) r (.bl _)⟩
  · exact False.elim h
theorem RE_inS {a b : Expr} {fa fb : Rho → E.G → Out E.G D} {pos : Pos} (ha : RE B E W a fa) (hb : RE B E W b fb) (hm : behindInMarks .In b = false := by rfl) : RE B E W (.Compare a [.In] [b] pos) (fun ρ g => bnd (fa ρ g) fun x g => bnd (fb ρ g) fun y g => inSign false x y g) :=
  RX_cmp rs_back (fun X _ => op_in_sign) (fun x y v u W σ Hb H1 g Q e hd r rx ry h => inSign_post (neg := false) e r rx ry h) ha hb hm
theorem RE_notInS {a b : Expr} {fa fb : Rho → E.G → Out E.G D} {pos : Pos} (ha : RE B E W a fa) (hb : RE B E W b fb) (hm : behindInMarks .NotIn b = false := by rfl) : RE B E W (.Compare a [.NotIn] [b] pos) (fun ρ g => bnd (fa ρ g) fun x g => bnd (fb ρ g) fun y g => inSign true x y g) :=
  RX_cmp rs_back (fun X _ => op_notIn_sign) (fun x y v u W σ Hb H1 g Q e hd r rx ry h => inSign_post (neg := true) e r rx ry h) ha hb hm
/-! ### + of ints, of texts -/
def addD {G : Type} (x y : D) (g : G) : Out G D := match x, y with
  | .int i, .int j => .ok (.int (i + j)) g
  | .str a, .str b => if a.length + b.length ≤ sizeLine then .ok (.str (a ++ b)) g else .stk
  | _, _ => .stk
@[simp] theorem addD_int {G : Type} (i j : Int) (g : G) : addD (.int i) (.int j) g = .ok (.int (i + j)) g := rfl
theorem addD_str {G : Type} {a b : PySem.Str} {g : G} (h : a.length + b.length ≤ 100000) : addD (.str a) (.str b) g = .ok (.str (a ++ b)) g := if_pos (Evl.sz_of h)
theorem RE_add {a b : Expr} {fa fb : Rho → E.G → Out E.G D} {pos : Pos} (ha : RE B E W a fa) (hb : RE B E W b fb) : RE B E W (.BinOp a .Add b pos) (fun ρ g => bnd (fa ρ g) fun x g => bnd (fb ρ g) fun y g => addD x y g) :=
  RX_op rs_back (fun X _ => op_add.or op_add_str) (fun x y v u W σ Hb H1 g Q e hd r rx ry h => by
    unfold addD at h
    cases rx <;> cases ry <;> first | exact False.elim h | skip
    · exact .inl ⟨_, _, rfl, rfl, h _ Hb H1 (Gr.refl e) r (.int _)⟩
    · rename_i i j
      dsimp only at h
      split at h
      · rename_i hl
        exact .inr ⟨_, _, rfl, rfl, hl, h _ Hb H1 (Gr.refl e) r (.str _)⟩
      · exact False.elim h) ha hb
/-! ### index -/
def ixD (x y : D) : Option D := match x, y with
  | .lst ds, .int i => atI ds i
  | .tup ds, .int i => atI ds i
  | .str z, .int i => if z.length ≤ sizeLine then (atI z.cps.toList i).map fun c => .str ⟨#[c]⟩ else none
  | _, _ => none
theorem RpA.atI {T : Tx} {H : Hp} {vs : List V} {ds : List D} {i : Int} {d : D} (r : RpA T H vs ds) (h : L2.atI ds i = some d) : ∃ v, L2.atI vs i = some v ∧ Rp T H v d := by
  unfold L2.atI at h ⊢
  rw [r.length]
  cases q : ixN ds.length i with
  | none => rw [q] at h; cases h
  | some j =>
    rw [q] at h
    exact r.getD h
theorem RE_ix {a b : Expr} {fa fb : Rho → E.G → Out E.G D} {pos : Pos} (ha : RE B E W a fa) (hb : RE B E W b fb) (hp : PlainIx b := by intro _ _; rfl) : RE B E W (.Subscript a b pos) (fun ρ g => bnd (fa ρ g) fun x g => bnd (fb ρ g) fun y g => opt (ixD x y) g) :=
  RX_ix rs_back (r := rIx E.T.K) (fun X c => by have := ix_seq (X := X); rw [c.hK] at this; exact this) (fun x y v u W σ Hb H1 g Q e hd r rx ry h => by
    try dsimp only at h
    unfold ixD at h
    cases rx <;> cases ry <;> first | exact False.elim h | skip
    · rename_i z i
      dsimp only at h
      split at h
      · rename_i hl
        cases q : L2.atI z.cps.toList i with
        | none => rw [q] at h; exact False.elim h
        | some c => rw [q] at h; exact .inr (.inr ⟨z, i, c, rfl, rfl, hl, q, h _ Hb H1 (Gr.refl e) r (.str _)⟩)
      · exact False.elim h
    · rename_i p xs ds hq hr i
      dsimp only at h
      cases q : L2.atI ds i with
      | none => rw [q] at h; exact False.elim h
      | some d =>
        rw [q] at h
        obtain ⟨w', h1, h2⟩ := hr.atI q
        exact .inl ⟨p, xs, i, w', rfl, rfl, Evl.ex_l e hq, h1, h _ Hb H1 (Gr.refl e) r h2⟩
    · rename_i p xs ds hq hr i
      dsimp only at h
      cases q : L2.atI ds i with
      | none => rw [q] at h; exact False.elim h
      | some d =>
        rw [q] at h
        obtain ⟨w', h1, h2⟩ := hr.atI q
        exact .inr (.inl ⟨p, xs, i, w', rfl, rfl, Evl.ex_t e hq, h1, h _ Hb H1 (Gr.refl e) r h2⟩)) ha hb hp
/-! ### slices -/
def RO (B : Bk) (E : En) (W : WX) (e : Option Expr) (f : Rho → E.G → Out E.G (Option Int)) : Prop :=
  ∃ t : TO, (∀ X, InC B E W X → PO X e t) ∧ ∀ σ ρ Hb H1 g (Q : Option Int → Hp → Prop), Pr E σ ρ Hb H1 g → Post E W σ Hb H1 (fun o g => ∀ Hb2 H2, Gr E.S Hb H1 Hb2 H2 → E.R H2 g → Q o H2) (f ρ g) → t σ H1 Q
theorem RO_none : RO B E W none (fun _ g => .ok none g) := ⟨tNoPart, fun X c => po_none, fun σ ρ Hb H1 g Q pr h => h _ _ (Gr.refl pr.ex) pr.r⟩
def asI {G : Type} (d : D) (g : G) : Out G (Option Int) := match d with
  | .int i => .ok (some i) g
  | _ => .stk
@[simp] theorem asI_int {G : Type} (i : Int) (g : G) : asI (.int i) g = .ok (some i) g := rfl
theorem RO_some {e : Expr} {f : Rho → E.G → Out E.G D} (h : RE B E W e f) : RO B E W (some e) (fun ρ g => bnd (f ρ g) asI) := by
  obtain ⟨t, p, q⟩ := h
  refine ⟨tPart t, fun X c => po_some (p X c), fun σ ρ Hb H1 g Q pr h => q σ ρ Hb H1 g _ pr (h.bnd fun d g1 k v Hb2 H2 gr r x => ?_)⟩
  unfold asI at k
  cases x <;> first | exact False.elim k | exact ⟨_, rfl, k _ _ gr r⟩
def slSD {G : Type} (d : D) (lo hi : Option Int) (g : G) : Out G D := match d with
  | .str z => if z.length ≤ sizeLine then .ok (.str (cutS z lo hi)) g else .stk
  | _ => .stk
theorem RE_slS {e : Expr} {lo hi : Option Expr} {p2 pos : Pos} {f : Rho → E.G → Out E.G D} {fl fh : Rho → E.G → Out E.G (Option Int)} (h : RE B E W e f) (hl : RO B E W lo fl) (hh : RO B E W hi fh) :
    RE B E W (.Subscript e (.Slice lo hi none p2) pos) (fun ρ g => bnd (f ρ g) fun d g => bnd (fl ρ g) fun l g => bnd (fh ρ g) fun u g => slSD d l u g) := by
  obtain ⟨t, p, q⟩ := h
  obtain ⟨tl, pl, ql⟩ := hl
  obtain ⟨th, ph, qh⟩ := hh
  refine ⟨_, fun X c => pe_slice sl_str (p X c) (pl X c) (ph X c), fun σ ρ Hb H1 g Q pr h => q σ ρ Hb H1 g _ pr (h.bnd fun d g1 k v Hb2 H2 gr r x => ?_)⟩
  have pr2 := pr.step gr r
  refine ql σ ρ Hb2 H2 g1 _ pr2 (Post.bnd (k.step gr fun _ _ k => okE.step rs_back k gr) fun l g2 k Hb3 H3 gr2 r2 => ?_)
  have pr3 := pr2.step gr2 r2
  refine qh σ ρ Hb3 H3 g2 _ pr3 (Post.bnd (k.step gr2 fun _ _ k => okE.step rs_back k gr2) fun u g3 k Hb4 H4 gr3 r3 => ?_)
  cases x with
  | str z =>
    unfold slSD at k
    dsimp only at k
    split at k
    · rename_i hz
      exact ⟨z, rfl, hz, k _ Hb4 H4 gr3 r3 (.str _)⟩
    · exact False.elim k
  | _ => exact False.elim k
end
end DV
set_option Elab.async false
set_option linter.all false
set_option maxRecDepth 100000
set_option maxHeartbeats 4000000
namespace DV
open PySem PySem.Spec PyProof.Rows L2
open Evl (Ex)
section
variable {B : Bk} {E : En} {W : WX} {RR : RRel}
theorem InC.un {X : Cx} (c : InC B E W X) : X.A.units + 190 < cLine := by have := c.room.un; omega
/-! ### == -/
theorem RE_eq {a b : Expr} {fa fb : Rho → E.G → Out E.G D} {pos : Pos} (ha : RE B E W a fa) (hb : RE B E W b fb) (hm : behindInMarks .Eq b = false := by rfl) : RE B E W (.Compare a [.Eq] [b] pos) (fun ρ g => bnd (fa ρ g) fun x g => bnd (fb ρ g) fun y g => opt (eqD false x y) g) :=
  RX_cmp rs_back (fun X c => by have := op_eqD (X := X) (by have := c.un; omega); rw [c.hK] at this; exact this) (sem_eqD rs_flat rfl) ha hb hm
theorem sem_neD : Sem2 E Rs (rNeD E.T.K) (fun x y g => opt (eqD true x y) g) := by
  intro x y v u W σ Hb H1 g Q e hd r rx ry h
  try dsimp only at h
  unfold eqD at h
  cases hx : x.py with
  | none => rw [hx] at h; exact False.elim h
  | some p =>
    cases hy : y.py with
    | none => rw [hx, hy] at h; exact False.elim h
    | some q =>
      rw [hx, hy] at h
      by_cases hc : (SeqAt.shaped p && SeqAt.shaped q) = true
      · simp only [if_pos hc, opt_some] at h
        rw [Bool.and_eq_true] at hc
        exact ⟨p, q, ((rx.mono e).dp hx), ((ry.mono e).dp hy), hc.1, hc.2, h _ _ _ (Gr.refl e) r (show Rp E.T Hb _ _ by simpa using Rp.bl _)⟩
      · simp only [if_neg hc, opt_none] at h; exact False.elim h
theorem RE_ne {a b : Expr} {fa fb : Rho → E.G → Out E.G D} {pos : Pos} (ha : RE B E W a fa) (hb : RE B E W b fb) (hm : behindInMarks .NotEq b = false := by rfl) : RE B E W (.Compare a [.NotEq] [b] pos) (fun ρ g => bnd (fa ρ g) fun x g => bnd (fb ρ g) fun y g => opt (eqD true x y) g) :=
  RX_cmp rs_back (fun X c => by have := op_neD (X := X) (by have := c.un; omega); rw [c.hK] at this; exact this) sem_neD ha hb hm
/-! ### methods of texts -/
def asS {G : Type} (d : D) (g : G) : Out G PySem.Str := match d with
  | .str s => .ok s g
  | _ => .stk
@[simp] theorem asS_str {G : Type} (s : PySem.Str) (g : G) : asS (.str s) g = .ok s g := rfl
def SemM (E : En) (RR : RRel) (r : V → List V → Hp → VK → Prop) (sem : PySem.Str → List D → E.G → Out E.G D) : Prop :=
  ∀ (s : PySem.Str) (ds : List D) (vs : List V) (W : WX) (σ : L2.St) (Hb H1 : Hp) (g : E.G) (Q : VK), Ex Hb H1 → (∀ a, E.S a → Hb a = none) → E.R H1 g → RpA E.T Hb vs ds → Post E W σ Hb H1 (okE E RR Hb H1 Q) (sem s ds g) → r (.str s) vs H1 Q
theorem RX_m1 (Z : RBack RR) {o e : Expr} {id : String} {name : PySem.Str} {apos pos : Pos} {r : V → List V → Hp → VK → Prop} {fo fe : Rho → E.G → Out E.G D} {sem : PySem.Str → List D → E.G → Out E.G D} (slot : Slot "str" name id) (ty : typeOf (.builtin id) = pure (.type "method_descriptor")) (rule : ∀ X, InC B E W X → MtR X id r) (hs : SemM E RR r sem)
    (ho : RE B E W o fo) (he : RE B E W e fe) (h1 : ∀ env, starEach [e] env = [(false, eval e env)] := by intro _; rfl) (hbase : ∀ env, attributeBase o name env (eval o env) = eval o env := by intro _; rfl) (hline : (apos.endLine == pos.line) = true := by rfl) :
    RX RR B E W (.Call (.Attribute o name apos) [e] [] pos) (fun ρ g => bnd (bnd (fo ρ g) asS) fun s g => bnd (fe ρ g) fun d g => sem s [d] g) := by
  obtain ⟨to, po, qo⟩ := ho
  obtain ⟨te, pe, qe⟩ := he
  refine ⟨_, fun X c => pe_m1 slot ty (rule X c) (po X c) (pe X c) (h1 _) (hbase _) hline, fun σ ρ Hb H1 g Q pr h => ?_⟩
  refine qo σ ρ Hb H1 g _ pr (Post.bnd (Post.bnd h fun s g k => k) fun x g1 k v Hb2 H2 gr r1 rx => ?_)
  have pr2 := pr.step gr r1
  cases rx <;> first | exact False.elim k | skip
  rename_i s
  refine ⟨⟨s, rfl⟩, ?_⟩
  replace k : Post E W σ Hb H1 (okE E RR Hb H1 Q) (bnd (fe ρ g1) fun d g => sem s [d] g) := k
  refine qe σ ρ Hb2 H2 g1 _ pr2 (Post.bnd (k.step gr fun _ _ k => okE.step Z k gr) fun y g2 k u Hb3 H3 gr2 r2 ry => ?_)
  have pr3 := pr2.step gr2 r2
  exact hs s [y] [u] W σ Hb3 H3 g2 Q pr3.ex pr3.hd r2 (.cons ry .nil) (k.step gr2 fun _ _ k => okE.step Z k gr2)
theorem RX_m0 (Z : RBack RR) {o : Expr} {id : String} {name : PySem.Str} {apos pos : Pos} {r : V → List V → Hp → VK → Prop} {fo : Rho → E.G → Out E.G D} {sem : PySem.Str → List D → E.G → Out E.G D} (slot : Slot "str" name id) (ty : typeOf (.builtin id) = pure (.type "method_descriptor")) (rule : ∀ X, InC B E W X → MtR X id r) (hs : SemM E RR r sem)
    (ho : RE B E W o fo) (hbase : ∀ env, attributeBase o name env (eval o env) = eval o env := by intro _; rfl) (hline : (apos.endLine == pos.line) = true := by rfl) :
    RX RR B E W (.Call (.Attribute o name apos) [] [] pos) (fun ρ g => bnd (bnd (fo ρ g) asS) fun s g => sem s [] g) := by
  obtain ⟨to, po, qo⟩ := ho
  refine ⟨_, fun X c => pe_m0 slot ty (rule X c) (po X c) (hbase _) hline, fun σ ρ Hb H1 g Q pr h => ?_⟩
  refine qo σ ρ Hb H1 g _ pr (Post.bnd (Post.bnd h fun s g k => k) fun x g1 k v Hb2 H2 gr r1 rx => ?_)
  have pr2 := pr.step gr r1
  cases rx <;> first | exact False.elim k | skip
  rename_i s
  replace k : Post E W σ Hb H1 (okE E RR Hb H1 Q) (sem s [] g1) := k
  exact ⟨⟨s, rfl⟩, hs s [] [] W σ Hb2 H2 g1 Q pr2.ex pr2.hd r1 .nil (k.step gr fun _ _ k => okE.step Z k gr)⟩
def strsD : List D → Option (List PySem.Str)
  | [] => some []
  | .str s :: r => (strsD r).map (s :: ·)
  | _ => none
theorem strsD_map (ss : List PySem.Str) : strsD (ss.map D.str) = some ss := by
  induction ss with
  | nil => rfl
  | cons s r ih => show (strsD (r.map D.str)).map (s :: ·) = _; rw [ih]; rfl
theorem strsD_inv : ∀ {ds : List D} {ss : List PySem.Str}, strsD ds = some ss → ds = ss.map D.str
  | [], ss, h => by cases h; rfl
  | d :: r, ss, h => by
    cases d <;> first | (simp [strsD] at h; done) | skip
    rename_i s
    simp only [strsD] at h
    cases q : strsD r with
    | none => rw [q] at h; cases h
    | some ts => rw [q] at h; cases h; rw [strsD_inv q]; rfl
def joinD {G : Type} (s : PySem.Str) (ds : List D) (g : G) : Out G D := match ds with
  | [.lst xs] => match strsD xs with
    | some ys => if (ys.map (·.length)).sum + ys.length * s.length ≤ 16777216 then .ok (.str (Txt.join s ys)) g else .stk
    | none => .stk
  | [.tup xs] => match strsD xs with
    | some ys => if (ys.map (·.length)).sum + ys.length * s.length ≤ 16777216 then .ok (.str (Txt.join s ys)) g else .stk
    | none => .stk
  | _ => .stk
theorem joinD_lst {G : Type} {s : PySem.Str} {ys : List PySem.Str} {g : G} (h : (ys.map (·.length)).sum + ys.length * s.length ≤ 16777216) : joinD s [.lst (ys.map .str)] g = .ok (.str (Txt.join s ys)) g := by
  simp only [joinD, strsD_map, if_pos h]
theorem joinD_tup {G : Type} {s : PySem.Str} {ys : List PySem.Str} {g : G} (h : (ys.map (·.length)).sum + ys.length * s.length ≤ 16777216) : joinD s [.tup (ys.map .str)] g = .ok (.str (Txt.join s ys)) g := by
  simp only [joinD, strsD_map, if_pos h]
def rJoin (K : PySem.W.Frag) : V → List V → Hp → VK → Prop := fun x xs H Q => ∃ (a : PySem.Str) (p : Addr), ∃ ys : List PySem.Str, x = .str a ∧ xs = [.ref p] ∧ (SqL K H p (ys.map V.str) ∨ SqT K H p (ys.map V.str)) ∧ (ys.map (·.length)).sum + ys.length * a.length ≤ 16777216 ∧ Q (.str (Txt.join a ys)) H
theorem RE_join {o e : Expr} {apos pos : Pos} {fo fe : Rho → E.G → Out E.G D} (ho : RE B E W o fo) (he : RE B E W e fe) (h1 : ∀ env, starEach [e] env = [(false, eval e env)] := by intro _; rfl) (hbase : ∀ env, attributeBase o "join" env (eval o env) = eval o env := by intro _; rfl) (hline : (apos.endLine == pos.line) = true := by rfl) :
    RE B E W (.Call (.Attribute o "join" apos) [e] [] pos) (fun ρ g => bnd (bnd (fo ρ g) asS) fun s g => bnd (fe ρ g) fun d g => joinD s [d] g) :=
  RX_m1 (r := rJoin E.T.K) rs_back F.slot_str_join F.type_str_join (fun X c => by have := mt_join (X := X); rw [c.hK] at this; exact this) (fun s ds vs W σ Hb H1 g Q e hd r xs h => by
    cases ds with
    | nil => exact False.elim h
    | cons d ds =>
      cases ds with
      | cons _ _ => cases d <;> exact False.elim h
      | nil =>
        cases xs with
        | cons x xs =>
          cases xs
          cases d with
          | lst ys =>
            simp only [joinD] at h
            cases q : strsD ys with
            | none => rw [q] at h; exact False.elim h
            | some ss =>
              rw [q] at h
              dsimp only at h
              split at h
              · rename_i hl
                have e1 := strsD_inv q
                subst e1
                cases x with
                | lst hq hr =>
                  have e2 := hr.strs_inv
                  subst e2
                  exact ⟨s, _, ss, rfl, rfl, .inl (Evl.ex_l e hq), hl, h _ Hb H1 (Gr.refl e) r (.str _)⟩
              · exact False.elim h
          | tup ys =>
            simp only [joinD] at h
            cases q : strsD ys with
            | none => rw [q] at h; exact False.elim h
            | some ss =>
              rw [q] at h
              dsimp only at h
              split at h
              · rename_i hl
                have e1 := strsD_inv q
                subst e1
                cases x with
                | tup hq hr =>
                  have e2 := hr.strs_inv
                  subst e2
                  exact ⟨s, _, ss, rfl, rfl, .inr (Evl.ex_t e hq), hl, h _ Hb H1 (Gr.refl e) r (.str _)⟩
              · exact False.elim h
          | _ => exact False.elim h) ho he h1 hbase hline
end
end DV
set_option Elab.async false
set_option linter.all false
set_option maxRecDepth 100000
set_option maxHeartbeats 4000000
namespace DV
open PySem PySem.Spec PyProof.Rows L2
open Evl (Ex)
section
variable {B : Bk} {E : En} {W : WX} {RR : RRel}
/-! ### split, upper -/
def splitD {G : Type} (s : PySem.Str) (ds : List D) (g : G) : Out G D := match ds with
  | [.str b] => if (b.length == 0) = false ∧ s.length + 2 ≤ sizeLine then .ok (.lst ((Txt.split s b).map .str)) g else .stk
  | _ => .stk
theorem splitD_ok {G : Type} {s b : PySem.Str} {g : G} (h : (b.length == 0) = false) (h2 : s.length ≤ 100000) : splitD s [.str b] g = .ok (.lst ((Txt.split s b).map .str)) g := if_pos ⟨h, Nat.le_trans (Nat.add_le_add_right h2 2) (by decide)⟩
def rSplit : V → List V → Hp → VK → Prop := fun x xs H Q => ∃ a b, x = .str a ∧ xs = [.str b] ∧ (b.length == 0) = false ∧ a.length + 2 ≤ sizeLine ∧ rNewStrs (Txt.split a b) H Q
theorem RF_split {o e : Expr} {apos pos : Pos} {fo fe : Rho → E.G → Out E.G D} (ho : RE B E W o fo) (he : RE B E W e fe) (h1 : ∀ env, starEach [e] env = [(false, eval e env)] := by intro _; rfl) (hbase : ∀ env, attributeBase o "split" env (eval o env) = eval o env := by intro _; rfl) (hline : (apos.endLine == pos.line) = true := by rfl) :
    RF B E W (.Call (.Attribute o "split" apos) [e] [] pos) (fun ρ g => bnd (bnd (fo ρ g) asS) fun s g => bnd (fe ρ g) fun d g => splitD s [d] g) :=
  RX_m1 (r := rSplit) rf_back F.slot_str_split F.type_str_split (fun X c => mt_split) (fun s ds vs W σ Hb H1 g Q e hd r xs h => by
    unfold splitD at h
    cases xs with
    | nil => exact False.elim h
    | cons x xs =>
      cases xs with
      | cons _ _ => cases x <;> exact False.elim h
      | nil =>
        cases x <;> first | exact False.elim h | skip
        rename_i b
        dsimp only at h
        split at h
        · rename_i hl
          exact ⟨s, b, rfl, rfl, hl.1, hl.2, fun p hp => h _ Hb _ (Gr.newH e hp) (R_new r hp) (.inr (.inl ⟨p, _, _, rfl, rfl, hp, Evl.fresh_back e hp, upd_same, RpA.strs _⟩))⟩
        · exact False.elim h) ho he h1 hbase hline
def upperD {G : Type} (s : PySem.Str) (ds : List D) (g : G) : Out G D := match ds with
  | [] => if s.length ≤ 5592405 then .ok (.str (Txt.upper s)) g else .stk
  | _ => .stk
def rUpper : V → List V → Hp → VK → Prop := fun x xs H Q => ∃ a, x = .str a ∧ xs = [] ∧ a.length ≤ 5592405 ∧ Q (.str (Txt.upper a)) H
theorem RE_upper {o : Expr} {apos pos : Pos} {fo : Rho → E.G → Out E.G D} (ho : RE B E W o fo) (hbase : ∀ env, attributeBase o "upper" env (eval o env) = eval o env := by intro _; rfl) (hline : (apos.endLine == pos.line) = true := by rfl) :
    RE B E W (.Call (.Attribute o "upper" apos) [] [] pos) (fun ρ g => bnd (bnd (fo ρ g) asS) fun s g => upperD s [] g) :=
  RX_m0 (r := rUpper) rs_back F.slot_str_upper F.type_str_upper (fun X c => mt_upper) (fun s ds vs W σ Hb H1 g Q e hd r xs h => by
    unfold upperD at h
    cases xs with
    | cons _ _ => exact False.elim h
    | nil =>
      dsimp only at h
      split at h
      · rename_i hl
        exact ⟨s, rfl, rfl, hl, h _ Hb H1 (Gr.refl e) r (.str _)⟩
      · exact False.elim h) ho hbase hline
/-! ### built-in calls -/
def absD : List D → Option D
  | [.int i] => some (.int (if i < 0 then -i else i))
  | _ => none
theorem RE_abs {p pos : Pos} {a : Expr} {fs : Rho → E.G → Out E.G (List D)} (h : RA B E W [a] fs) (hg : Gn B.sc "abs") (hm : E.T.mg "abs" = none) (he : ∀ env, starEach [a] env = (false, eval a env) :: starEach [] env := by intro _; rfl) :
    RE B E W (.Call (.Name "abs" p) [a] [] pos) (fun ρ g => bnd (fs ρ g) fun ds g => opt (absD ds) g) :=
  RX_callB rs_back (fun X c => call_abs) (fun ds vs W σ Hb H1 g Q e hd r xs h => by
    cases xs with
    | nil => exact False.elim h
    | cons x xs =>
      cases xs with
      | cons _ _ => cases x <;> exact False.elim h
      | nil =>
        cases x <;> first | exact False.elim h | skip
        exact ⟨_, rfl, h _ Hb H1 (Gr.refl e) r (.int _)⟩) h hg hm (by decide +kernel) (he := he)
def minD : List D → Option D
  | [.int i, .int j] => some (.int (if j < i then j else i))
  | _ => none
theorem RE_min {p pos : Pos} {a b : Expr} {fs : Rho → E.G → Out E.G (List D)} (h : RA B E W [a, b] fs) (hg : Gn B.sc "min") (hm : E.T.mg "min" = none) (he : ∀ env, starEach [a, b] env = (false, eval a env) :: starEach [b] env := by intro _; rfl) (hpl : ∀ env, (backTo pos (starEach [b] env)).any (·.1) = false := by intro _; rfl) :
    RE B E W (.Call (.Name "min" p) [a, b] [] pos) (fun ρ g => bnd (fs ρ g) fun ds g => opt (minD ds) g) :=
  RX_callB rs_back (fun X c => call_min2 c.calm) (fun ds vs W σ Hb H1 g Q e hd r xs h => by
    cases xs with
    | nil => exact False.elim h
    | cons x xs =>
      cases xs with
      | nil => cases x <;> exact False.elim h
      | cons y ys =>
        cases ys with
        | cons _ _ => cases x <;> cases y <;> exact False.elim h
        | nil =>
          cases x <;> cases y <;> first | exact False.elim h | skip
          exact ⟨_, _, rfl, h _ Hb H1 (Gr.refl e) r (.int _)⟩) h hg hm (by decide +kernel) (he := he) (hpl := hpl)
def intD : List D → Option D
  | [.int i] => some (.int i)
  | _ => none
theorem RE_int1 {p pos : Pos} {a : Expr} {fs : Rho → E.G → Out E.G (List D)} (h : RA B E W [a] fs) (hg : Gn B.sc "int") (hm : E.T.mg "int" = none) (he : ∀ env, starEach [a] env = (false, eval a env) :: starEach [] env := by intro _; rfl) :
    RE B E W (.Call (.Name "int" p) [a] [] pos) (fun ρ g => bnd (fs ρ g) fun ds g => opt (intD ds) g) :=
  RX_callTy rs_back (fun X c => call_int1) (fun ds vs W σ Hb H1 g Q e hd r xs h => by
    cases xs with
    | nil => exact False.elim h
    | cons x xs =>
      cases xs with
      | cons _ _ => cases x <;> exact False.elim h
      | nil =>
        cases x <;> first | exact False.elim h | skip
        exact .inl ⟨_, rfl, h _ Hb H1 (Gr.refl e) r (.int _)⟩) h hg hm (by decide +kernel) (he := he)
def tupleD : List D → Option D
  | [.lst ds] => some (.tup ds)
  | [.tup ds] => some (.tup ds)
  | _ => none
def rTupleOf (K : PySem.W.Frag) : List V → Hp → VK → Prop := fun xs H Q => ∃ p ys, xs = [.ref p] ∧ ((SqL K H p ys ∧ ∀ l, H l = none → Q (.ref l) (upd H l (.tup ys))) ∨ (SqT K H p ys ∧ Q (.ref p) H))
theorem RE_tuple {p pos : Pos} {a : Expr} {fs : Rho → E.G → Out E.G (List D)} (h : RA B E W [a] fs) (hg : Gn B.sc "tuple") (hm : E.T.mg "tuple" = none) (he : ∀ env, starEach [a] env = (false, eval a env) :: starEach [] env := by intro _; rfl) :
    RE B E W (.Call (.Name "tuple" p) [a] [] pos) (fun ρ g => bnd (fs ρ g) fun ds g => opt (tupleD ds) g) :=
  RX_callTy (r := rTupleOf E.T.K) rs_back (fun X c => by have := call_tuple_of (X := X); rw [c.hK] at this; exact this) (fun ds vs W σ Hb H1 g Q e hd r xs h => by
    cases xs with
    | nil => exact False.elim h
    | cons x xs =>
      cases xs with
      | cons _ _ => cases x <;> exact False.elim h
      | nil =>
        cases x <;> first | exact False.elim h | skip
        · rename_i hq hr
          exact ⟨_, _, rfl, .inl ⟨Evl.ex_l e hq, fun l hl => h _ _ _ (Gr.new e hl) (R_new r hl) (.tup (.inl (.inl upd_same)) (hr.mono (Ex.new (Evl.fresh_back e hl))))⟩⟩
        · rename_i hq hr
          exact ⟨_, _, rfl, .inr ⟨Evl.ex_t e hq, h _ Hb H1 (Gr.refl e) r (.tup hq hr)⟩⟩) h hg hm (by decide +kernel) (he := he)
/-! ### {} -/
theorem RF_dict0 {pos : Pos} : RF B E W (.Dict [] [] pos) (fun _ g => .ok (.dct [] []) g) :=
  ⟨tDNewK, fun X c => pe_dnewK, fun σ ρ Hb H1 g Q pr h p hp => h _ Hb _ (Gr.newH pr.ex hp) (R_new pr.r hp) (.inr (.inr ⟨p, [], [], [], rfl, rfl, hp, Evl.fresh_back pr.ex hp, upd_same, rfl, .nil⟩))⟩
/-- a new object is seen -/
theorem RF.e {e : Expr} {f : Rho → E.G → Out E.G D} (h : RF B E W e f) : RE B E W e f := h.s
/-! ### * -/
def mulS {G : Type} (x y : D) (g : G) : Out G D := match x, y with
  | .str s, .int n => if 0 ≤ n ∧ n ≤ 1000 ∧ s.length ≤ 1000 then .ok (.str (Txt.mul s n)) g else .stk
  | _, _ => .stk
def rMulS : R2 := fun x y H Q => ∃ s n, x = .str s ∧ y = .int n ∧ (0 ≤ n ∧ n ≤ 1000 ∧ s.length ≤ 1000) ∧ Q (.str (Txt.mul s n)) H
theorem op_mulS {X : Cx} : OpR X (binaryOp .Mult) rMulS := by
  intro pins s σ H x y v u Q I rx ry h
  obtain ⟨z, n, rfl, rfl, ⟨h1, h2, h3⟩, q⟩ := h
  obtain ⟨t, rfl⟩ := rx
  obtain ⟨t', rfl⟩ := ry
  refine SB.mul ⟨?_, fun h4 _ => ?_, fun h4 _ => ?_⟩ fun t' k => ⟨.str (Txt.mul z n), H, I.tok _, ⟨_, rfl⟩, q⟩
  · simp only [Bool.or_eq_false_iff, decide_eq_false_iff_not]
    constructor <;> omega
  · have : (1000 : Int) ≤ (2 ^ 63 - 1) / n := (Int.le_ediv_iff_mul_le (by omega)).mpr (by omega)
    omega
  · unfold Builtin.Str.tooLong
    have : z.length * n.toNat ≤ 1000 * 1000 := Nat.mul_le_mul h3 (by omega)
    have : (1000000 : Nat) ≤ sizeLine := by decide
    simp
    omega
theorem RE_mulS {a b : Expr} {fa fb : Rho → E.G → Out E.G D} {pos : Pos} (ha : RE B E W a fa) (hb : RE B E W b fb) : RE B E W (.BinOp a .Mult b pos) (fun ρ g => bnd (fa ρ g) fun x g => bnd (fb ρ g) fun y g => mulS x y g) :=
  RX_op rs_back (fun X _ => op_mulS) (fun x y v u W σ Hb H1 g Q e hd r rx ry h => by
    unfold mulS at h
    cases rx <;> cases ry <;> first | exact False.elim h | skip
    dsimp only at h
    split at h
    · rename_i hl
      exact ⟨_, _, rfl, rfl, hl, h _ Hb H1 (Gr.refl e) r (.str _)⟩
    · exact False.elim h) ha hb
/-- a new list, taken some times -/
def repD {G : Type} (x y : D) (g : G) : Out G D := match x, y with
  | .lst ds, .int n => if 0 ≤ n ∧ n ≤ 10000 ∧ ds.length ≤ 1000 then .ok (.lst (List.replicate n.toNat ds).flatten) g else .stk
  | _, _ => .stk
theorem RpA.rep {T : Tx} {H : Hp} {vs : List V} {ds : List D} (r : RpA T H vs ds) : ∀ n : Nat, RpA T H (List.replicate n vs).flatten (List.replicate n ds).flatten
  | 0 => .nil
  | n + 1 => by
    rw [List.replicate_succ, List.replicate_succ, List.flatten_cons, List.flatten_cons]
    exact r.append (r.rep n)
theorem RF_rep {a b : Expr} {fa fb : Rho → E.G → Out E.G D} {pos : Pos} (ha : RF B E W a fa) (hb : RE B E W b fb) : RF B E W (.BinOp a .Mult b pos) (fun ρ g => bnd (fa ρ g) fun x g => bnd (fb ρ g) fun y g => repD x y g) := by
  obtain ⟨ta, pa, qa⟩ := ha
  obtain ⟨tb, pb, qb⟩ := hb
  refine ⟨_, fun X c => pe_op op_rep (pa X c) (pb X c), fun σ ρ Hb H1 g Q pr h => qa σ ρ Hb H1 g _ pr (h.bnd fun x g1 k v Hb2 H2 gr r1 rx => ?_)⟩
  have pr2 := pr.step gr r1
  refine qb σ ρ Hb2 H2 g1 _ pr2 (Post.bnd (k.step gr fun _ _ k => okE.step rf_back k gr) fun y g2 k u Hb3 H3 gr2 r2 ry => ?_)
  have pr3 := pr2.step gr2 r2
  rcases rx with ⟨hf, hx⟩ | ⟨p, xs, ds, rfl, rfl, np, nb, hp, rr⟩ | ⟨p, kvs, ks, vs, rfl, rfl, np, nb, hp, ek, rr⟩
  · cases hx <;> first | exact False.elim k | skip
    all_goals cases hf
  · cases ry <;> first | exact False.elim k | skip
    rename_i n
    simp only [repD] at k
    split at k
    · rename_i hl
      have nS : ¬ E.S p := fun z => E.wd.inS _ _ pr.r p z np
      have hp3 := gr2.top p _ hp nS
      refine ⟨p, n, xs, rfl, rfl, hp3, by omega, by omega, ?_, fun q hq => k _ Hb3 _ (gr2.trans (Gr.newH gr2.sub hq)) (R_new r2 hq) (.inr (.inl ⟨q, _, _, rfl, rfl, none_back gr2 hq, Evl.fresh_back gr2.sub hq, upd_same, (rr.mono gr2.base).rep _⟩))⟩
      have : xs.length * n.toNat ≤ 1000 * 10000 := Nat.mul_le_mul (by rw [rr.length]; exact hl.2.2) (by omega)
      have : (10000000 : Nat) ≤ sizeLine := by decide
      omega
    · exact False.elim k
  · exact False.elim k
end
end DV
set_option Elab.async false
set_option linter.all false
set_option maxRecDepth 100000
set_option maxHeartbeats 4000000
namespace DV
open PySem PySem.Spec PyProof.Rows L2
open Evl (Ex)
section
variable {B : Bk} {E : En} {W : WX} {RR : RRel} {OB O O' O1 : List Nat} {pos : Pos}
/-! ### x, y = (a, b) -/
def Par2 (B : Bk) (E : En) (W : WX) (i j : Nat) (tgt rhs a b : Expr) (pos : Pos) : Prop :=
  ∃ (F : TA → TS) (PQ : Ends → L2.St → List V → Hp → Prop), (∀ X, InF B E W X → ∀ t, PA X [a, b] t → PS X (.Assign [tgt] rhs pos) (F t)) ∧ (∀ t Z σ H, t σ H (PQ Z σ) → F t Z σ H) ∧
    ∀ Z σ v u H1, (∀ H2, H2 = H1 ∨ (∃ p, H1 p = none ∧ H2 = upd H1 p (.tup [v, u])) → Z.nx ((σ.set i (some v)).set j (some u)) H2) → PQ Z σ [v, u] H1
theorem par_loc (i j : Nat) {x y : PySem.Str} {a b : Expr} {px py pt pt2 : Pos} {kt k2 : Nat} (hnd : B.N.Nodup) (hi : B.N[i]? = some x := by rfl) (hj : B.N[j]? = some y := by rfl) (hij : i ≠ j := by decide) (hx : B.sc.names.lookup x = some .local := by rfl) (hy : B.sc.names.lookup y = some .local := by rfl)
    (hw : ∀ env : Env, env.scope = B.sc → swappedStores [.Tuple [.Name x px, .Name y py] kt pt] (.Tuple [a, b] k2 pt2) env = pure (some [x, y]))
    (hs : ∀ env, swapsWithSole [.Tuple [.Name x px, .Name y py] kt pt] (.Tuple [a, b] k2 pt2) pos.line env = pure false := by intro _; rfl) : Par2 B E W i j (.Tuple [.Name x px, .Name y py] kt pt) (.Tuple [a, b] k2 pt2) a b pos :=
  ⟨tPar i j, fun Z σ vs H1 => ∃ v u, vs = [v, u] ∧ Z.nx ((σ.set i (some v)).set j (some u)) H1, fun X c t h => ps_par c.calm (by rw [c.hN]; exact hnd) (by rw [c.hN]; exact hi) (by rw [c.hN]; exact hj) hij (by rw [c.hs]; exact hx) (by rw [c.hs]; exact hy) h (hw _ c.hs) (hs _), fun t Z σ H h => h, fun Z σ v u H1 h => ⟨v, u, rfl, h H1 (.inl rfl)⟩⟩
theorem par_gen (i j : Nat) {x y : PySem.Str} {a b : Expr} {px py pt pt2 : Pos} {kt k2 : Nat} (hnd : B.N.Nodup) (hi : B.N[i]? = some x := by rfl) (hj : B.N[j]? = some y := by rfl) (hx : Loc B.sc x := by first | exact Or.inl rfl | exact Or.inr rfl) (hy : Loc B.sc y := by first | exact Or.inl rfl | exact Or.inr rfl) (hfx : B.fn x = true ∨ B.sc.names.lookup x = some .local := by first | exact Or.inr rfl | exact Or.inl rfl) (hfy : B.fn y = true ∨ B.sc.names.lookup y = some .local := by first | exact Or.inr rfl | exact Or.inl rfl)
    (hw : ∀ env : Env, env.scope = B.sc → swappedStores [.Tuple [.Name x px, .Name y py] kt pt] (.Tuple [a, b] k2 pt2) env = pure none)
    (hs : ∀ env, swapsWithSole [.Tuple [.Name x px, .Name y py] kt pt] (.Tuple [a, b] k2 pt2) pos.line env = pure false := by intro _; rfl)
    (h1 : ∀ env, (assignEach [.Name x px, .Name y py] env).length = 2 := by intro _; rfl) (h2 : ∀ env, List.findIdx? (fun x => x.fst) (assignEach [.Name x px, .Name y py] env) = none := by intro _; rfl) : Par2 B E W i j (.Tuple [.Name x px, .Name y py] kt pt) (.Tuple [a, b] k2 pt2) a b pos := by
  refine ⟨fun t => tAsg (tTup t) (gTup E.T.K 2 (gCons (gName i) (gCons (gName j) gNil))), fun Z σ vs H1 => vs.length ≤ sizeLine ∧ ∀ p, H1 p = none → (gTup E.T.K 2 (gCons (gName i) (gCons (gName j) gNil))) (.ref p) σ (upd H1 p (.tup vs)) fun σ H => Z.nx σ H, fun X c t h => ?_, fun t Z σ H h => h, fun Z σ v u H1 h => ?_⟩
  · have hg := pg_tup (X := X) (pos := pt) (k := kt) c.calm (pgs_cons (pg_name (i := i) (pos := px) (by rw [c.hN]; exact hnd) (by rw [c.hN]; exact hi) (by rw [c.hs]; exact hx) (by rw [c.hfn, c.hs]; exact hfx)) (pgs_cons (pg_name (i := j) (pos := py) (by rw [c.hN]; exact hnd) (by rw [c.hN]; exact hj) (by rw [c.hs]; exact hy) (by rw [c.hfn, c.hs]; exact hfy)) pgs_nil)) (h1 _) (h2 _)
    rw [c.hK] at hg
    exact ps_asg (pe_tup h) hg (hs _) (hw _ c.hs)
  · exact ⟨by show 2 ≤ sizeLine; decide, fun p hp => ⟨p, [v, u], rfl, .inl (.inl upd_same), rfl, v, [u], rfl, u, [], rfl, rfl, h _ (.inr ⟨p, hp, rfl⟩)⟩⟩
def two {G α : Type} (ds : List D) (g : G) (k : D → D → Out G α) : Out G α := match ds with
  | [d, e] => k d e
  | _ => .stk
@[simp] theorem two_ok {G α : Type} (d e : D) (g : G) (k : D → D → Out G α) : two [d, e] g k = k d e := rfl
/-- both are seen -/
theorem RS_par {tgt rhs a b : Expr} {i j : Nat} {f : Rho → E.G → Out E.G (List D)} (O1 : List Nat) (h : Par2 B E W i j tgt rhs a b pos) (ha : RA B E W [a, b] f) (h1 : ∀ k ∈ O1, k ∈ O) (h2 : ∀ k ∈ O', k ∈ O1 ∧ k ≠ i ∧ k ≠ j) :
    RS B E W RR OB O O' (.Assign [tgt] rhs pos) (fun ρ g => bnd (f (msk ρ O1) g) fun ds g => two ds g fun d e => .ok (.nx ((ρ.set i (some d)).set j (some e))) g) := by
  obtain ⟨F, PQ, p1, p2, p3⟩ := h
  obtain ⟨t, p, q⟩ := ha
  refine ⟨F t, fun X c => p1 X c t (p X c.toInC), fun Hb0 H0 σ ρ Hb H g Z s r h => p2 _ _ _ _ ?_⟩
  obtain ⟨Hb1, _, s1⟩ := s.keepL h1
  refine q σ _ Hb1 H g _ (s1.prM r) (h.err_of s1.gr fun ds g1 k vs Hb2 H2 gr r2 xs => ?_)
  unfold two at k
  cases xs with
  | nil => exact False.elim k
  | cons x xs =>
    cases xs with
    | nil => exact False.elim k
    | cons y ys =>
      cases ys with
      | cons _ _ => exact False.elim k
      | nil =>
        refine p3 _ _ _ _ _ fun H3 e => ?_
        have gr3 : Gr E.S Hb1 H Hb2 H3 ∧ E.R H3 g1 := by
          rcases e with rfl | ⟨p, hp, rfl⟩
          · exact ⟨gr, r2⟩
          · exact ⟨gr.trans (Gr.newH gr.sub hp), R_new r2 hp⟩
        have s2 := (s1.step gr3.1).set (i := i) (O' := fun k => mem O1 k ∧ k ≠ i) x fun k => Iff.rfl
        have s3 := s2.set (i := j) (O' := fun k => (mem O1 k ∧ k ≠ i) ∧ k ≠ j) y fun k => Iff.rfl
        obtain ⟨Hb4, _, s4⟩ := s3.keep (O' := mem O') fun k hk => ⟨⟨(h2 k hk).1, (h2 k hk).2.1⟩, (h2 k hk).2.2⟩
        exact k _ Hb4 H3 s4 gr3.2
/-- two values, flat or new objects -/
def RAF2 (B : Bk) (E : En) (W : WX) (a b : Expr) (f : Rho → E.G → Out E.G (List D)) : Prop :=
  ∃ t : TA, (∀ X, InC B E W X → PA X [a, b] t) ∧ ∀ σ ρ Hb H1 g (Q : List V → Hp → Prop), Pr E σ ρ Hb H1 g → Post E W σ Hb H1 (fun ds g => ∀ v u d e Hb2 H2, ds = [d, e] → Gr E.S Hb H1 Hb2 H2 → E.R H2 g → Rf E.T H1 Hb2 H2 v d → Rf E.T H1 Hb2 H2 u e → (∀ p, v = .ref p → d.flat = false → u ≠ .ref p ∨ e.flat = true) → Q [v, u] H2) (f ρ g) → t σ H1 Q
theorem rf_later {T : Tx} {S : Addr → Prop} {H1 Hb2 H2 Hb3 H3 : Hp} {v : V} {d : D} (nS : ∀ p, H1 p = none → ¬ S p) (gr : Gr S Hb2 H2 Hb3 H3) (h : Rf T H1 Hb2 H2 v d) : Rf T H1 Hb3 H3 v d := by
  rcases h with ⟨h1, h2⟩ | ⟨p, xs, ds, rfl, rfl, np, nb, hp, r⟩ | ⟨p, kvs, ks, vs, rfl, rfl, np, nb, hp, ek, r⟩
  · exact .inl ⟨h1, h2.mono gr.base⟩
  · exact .inr (.inl ⟨p, xs, ds, rfl, rfl, np, gr.hid p (ne_none_of hp) nb, gr.top p _ hp (nS p np), r.mono gr.base⟩)
  · exact .inr (.inr ⟨p, kvs, ks, vs, rfl, rfl, np, gr.hid p (ne_none_of hp) nb, gr.top p _ hp (nS p np), ek, r.mono gr.base⟩)
theorem rf_here {T : Tx} {H1 Hb2 H2 : Hp} {p : Addr} {d : D} (h : Rf T H1 Hb2 H2 (.ref p) d) (hf : d.flat = false) : H1 p = none ∧ ∃ o, H2 p = some o := by
  rcases h with ⟨h1, h2⟩ | ⟨p, xs, ds, e, rfl, np, nb, hp, r⟩ | ⟨p, kvs, ks, vs, e, rfl, np, nb, hp, ek, r⟩
  · rw [hf] at h1; cases h1
  · cases e; exact ⟨np, _, hp⟩
  · cases e; exact ⟨np, _, hp⟩
theorem RAF2_mk {a b : Expr} {fa fb : Rho → E.G → Out E.G D} (ha : RF B E W a fa) (hb : RF B E W b fb) (h1 : ∀ env, starEach [a, b] env = (false, eval a env) :: starEach [b] env := by intro _; rfl) (h2 : ∀ env, starEach [b] env = (false, eval b env) :: starEach [] env := by intro _; rfl) :
    RAF2 B E W a b (fun ρ g => bnd (fa ρ g) fun d g => bnd (fb ρ g) fun e g => .ok [d, e] g) := by
  obtain ⟨ta, pa, qa⟩ := ha
  obtain ⟨tb, pb, qb⟩ := hb
  refine ⟨tCons ta (tCons tb tNil), fun X c => pa_cons (pa X c) (pa_cons (pb X c) pa_nil (h2 _)) (h1 _), fun σ ρ Hb H1 g Q pr h => ?_⟩
  refine qa σ ρ Hb H1 g _ pr (h.bnd fun d g1 k v Hb2 H2 gr r x => ?_)
  have pr2 := pr.step gr r
  refine qb σ ρ Hb2 H2 g1 _ pr2 (Post.bnd (k.step gr fun ds g k => (fun v u d e Hb3 H3 e1 g3 r3 x y z => k v u d e Hb3 H3 e1 (gr.trans g3) r3 x y z : ∀ v u d e Hb3 H3, ds = [d, e] → Gr E.S Hb2 H2 Hb3 H3 → E.R H3 g → Rf E.T H1 Hb3 H3 v d → Rf E.T H1 Hb3 H3 u e → _ → Q [v, u] H3)) fun e g2 k u Hb3 H3 gr2 r2 y => ?_)
  refine k v u d e Hb3 H3 rfl gr2 r2 (rf_later (fun p np z => E.wd.inS _ _ pr.r p z np) gr2 x) (rf_back.back gr y) fun p ep hf => ?_
  subst ep
  cases he : e.flat with
  | true => exact .inr rfl
  | false =>
    refine .inl fun z => ?_
    subst z
    obtain ⟨_, o, ho⟩ := rf_here x hf
    obtain ⟨n, _⟩ := rf_here y he
    rw [ho] at n; cases n
theorem SE.setRf {Hb0 H0 : Hp} {Oc O2 : Nat → Prop} {ρ : Rho} {σ : L2.St} {Hb H : Hp} (s : SE E Hb0 H0 Oc ρ σ Hb H) {Hs : Hp} {i : Nat} {v : V} {d : D} (x : Rf E.T Hs Hb H v d) (n : ∀ p, Hs p = none → H0 p = none) (na : ∀ p, v = .ref p → d.flat = false → ∀ j e, Oc j → ρ[j]? = some (some e) → e.flat = false → σ[j]? ≠ some (some (.ref p))) (sub : ∀ j, O2 j ↔ Oc j ∨ j = i) :
    SE E Hb0 H0 O2 (ρ.set i (some d)) (σ.set i (some v)) Hb H := by
  refine s.setF ?_ sub
  rcases x with x | ⟨p, xs, ds, rfl, rfl, np, nb, hp, r⟩ | ⟨p, kvs, ks, vs, rfl, rfl, np, nb, hp, ek, r⟩
  · exact .inl x
  · exact .inr ⟨p, rfl, rfl, ⟨n p np, nb, .inl ⟨xs, ds, rfl, hp, r⟩⟩, na p rfl rfl⟩
  · exact .inr ⟨p, rfl, rfl, ⟨n p np, nb, .inr ⟨kvs, ks, vs, rfl, hp, ek, r⟩⟩, na p rfl rfl⟩
theorem RS_parF {tgt rhs a b : Expr} {i j : Nat} {f : Rho → E.G → Out E.G (List D)} (O1 : List Nat) (h : Par2 B E W i j tgt rhs a b pos) (ha : RAF2 B E W a b f) (h1 : ∀ k ∈ O1, k ∈ O) (h2 : ∀ k ∈ O', k ∈ O1 ∨ k = i ∨ k = j) (hij : i ≠ j := by decide) :
    RS B E W RR OB O O' (.Assign [tgt] rhs pos) (fun ρ g => bnd (f (msk ρ O1) g) fun ds g => two ds g fun d e => .ok (.nx ((ρ.set i (some d)).set j (some e))) g) := by
  obtain ⟨F, PQ, p1, p2, p3⟩ := h
  obtain ⟨t, p, q⟩ := ha
  refine ⟨F t, fun X c => p1 X c t (p X c.toInC), fun Hb0 H0 σ ρ Hb H g Z s r h => p2 _ _ _ _ ?_⟩
  obtain ⟨Hb1, _, s1⟩ := s.keepL h1
  refine q σ _ Hb1 H g _ (s1.prM r) (h.err_of s1.gr fun ds g1 k v u d e Hb2 H2 ed gr r2 x y na => ?_)
  subst ed
  simp only [two_ok] at k
  refine p3 _ _ _ _ _ fun H3 e3 => ?_
  have gr3 : Gr E.S Hb2 H2 Hb2 H3 ∧ E.R H3 g1 := by
    rcases e3 with rfl | ⟨p, hp, rfl⟩
    · exact ⟨Gr.refl gr.sub, r2⟩
    · exact ⟨Gr.newH gr.sub hp, R_new r2 hp⟩
  have nS : ∀ p, H p = none → ¬ E.S p := fun p np z => E.wd.inS _ _ r p z np
  have n0 : ∀ p, H p = none → H0 p = none := fun p np => none_back s1.gr np
  have fr : ∀ p, H p = none → ∀ k e', mem O1 k → ρ[k]? = some (some e') → e'.flat = false → σ[k]? ≠ some (some (.ref p)) := fun p np => (fresh_at s1 p np).2
  have s2 := s1.step (gr.trans gr3.1)
  have x3 := rf_later nS gr3.1 x
  have y3 := rf_later nS gr3.1 y
  have s3 : SE E Hb0 H0 (fun k => mem O1 k ∨ k = i) (ρ.set i (some d)) (σ.set i (some v)) Hb2 H3 := s2.setRf x3 n0 (fun p ep hf k e' => by
    subst ep
    exact fr p (rf_here x3 hf).1 k e') fun k => Iff.rfl
  have s4 : SE E Hb0 H0 (fun k => (mem O1 k ∨ k = i) ∨ k = j) ((ρ.set i (some d)).set j (some e)) ((σ.set i (some v)).set j (some u)) Hb2 H3 := s3.setRf y3 n0 (fun p ep hf k e' o q hq z => by
    subst ep
    have np := (rf_here y3 hf).1
    by_cases hk : i = k
    · subst hk
      have hlt : i < ρ.length := by have := (List.getElem?_eq_some_iff.mp q).1; rw [List.length_set] at this; exact this
      rw [List.getElem?_set_self hlt] at q
      cases q
      rw [List.getElem?_set_self (by rw [s1.len]; exact hlt)] at z
      cases z
      rcases na p rfl hq with z | z
      · exact z rfl
      · rw [hf] at z; cases z
    · rw [List.getElem?_set_ne hk] at q z
      exact fr p np k e' (o.elim id fun w => absurd w.symm hk) q hq z) fun k => Iff.rfl
  obtain ⟨Hb4, _, s5⟩ := s4.keep (O' := mem O') fun k hk => (h2 k hk).elim (fun z => .inl (.inl z)) fun z => z.elim (fun z => .inl (.inr z)) .inr
  exact k _ Hb4 H3 s5 gr3.2
end
end DV
set_option Elab.async false
set_option linter.all false
set_option maxRecDepth 100000
set_option maxHeartbeats 4000000
namespace DV
open PySem PySem.Spec PyProof.Rows L2
open Evl (Ex)

/-! ### {k: v, ..} with keys that are ints or texts -/
abbrev TP := L2.St → Hp → (List (V × V) → Hp → Prop) → Prop
def tpNil : TP := fun _ H Q => Q [] H
def tpCons (tk tv : TE) (t : TP) : TP := fun σ H Q => tk σ H fun k H1 => tv σ H1 fun v H2 => t σ H2 fun r H3 => Q ((k, v) :: r) H3
inductive VP : List (V × V) → List (Value × Value) → Prop
  | nil : VP [] []
  | cons {k v : V} {a b : Value} {r : List (V × V)} {q : List (Value × Value)} : RelV k a → RelV v b → VP r q → VP ((k, v) :: r) ((a, b) :: q)
structure PPairs (X : Cx) (ks : List (Option Expr)) (vs : List Expr) (t : TP) : Prop where
  all : ks.all (·.isSome) = true
  len : ks.length = vs.length
  run : ∀ (pos : Pos) (pins : List (Addr × Obj)) (s : Shared) (σ : L2.St) (H : Hp) (Q : List (V × V) → Hp → Prop), Inv X pins σ H s → t σ H Q →
    wpAny (model X.prog X.w) X.A (evalPairs (pairTrees ks vs X.env pos)) (fun us s' => ∃ kvs H', Inv X pins σ H' s' ∧ VP kvs us ∧ Q kvs H') X.xe s
theorem pp_nil {X : Cx} : PPairs X [] [] tpNil := ⟨rfl, rfl, fun pos pins s σ H Q I h => evalPairs_nil ⟨[], H, I, .nil, h⟩⟩
theorem pp_cons {X : Cx} {k v : Expr} {ks : List (Option Expr)} {vs : List Expr} {tk tv : TE} {t : TP} (hk : PE X k tk) (hv : PE X v tv) (h : PPairs X ks vs t) : PPairs X (some k :: ks) (v :: vs) (tpCons tk tv t) := by
  refine ⟨by rw [List.all_cons, h.all]; rfl, by rw [List.length_cons, List.length_cons, h.len], fun pos pins s σ H Q I hq => ?_⟩
  show wpAny _ _ (evalPairs ((eval k X.env, do let x ← eval v X.env; standAt pos; pure x) :: pairTrees ks vs X.env pos)) _ _ s
  refine evalPairs_cons (thn (hk.run pins s σ H _ I hq) fun a s1 ⟨x, H1, I1, r1, q1⟩ => ?_)
  refine wpAny_bind (thn (hv.run pins s1 σ H1 _ I1 q1) fun b s2 ⟨y, H2, I2, r2, q2⟩ => ?_)
  refine wpAny_bind (wpAny_standAt (wpAny_pure ?_))
  exact thn (h.run pos pins s2 σ H2 _ I2 q2) fun us s3 ⟨kvs, H3, I3, r3, q3⟩ => ⟨(x, y) :: kvs, H3, I3, .cons r1 r2 r3, q3⟩
/-- what is stored -/
def puts (kvs : List (Key × V)) : List (Key × V) → List (Key × V)
  | [] => kvs
  | p :: r => puts (putK kvs p.1 p.2) r
def tDict (t : TP) : TE := fun σ H Q => ∀ p, H p = none → t σ (upd H p (.dK [])) fun kvs H1 => ∃ ks : List (Key × V), kvs = ks.map (fun q => (kV q.1, q.2)) ∧ ks.length ≤ 15 ∧ H1 p = some (.dK []) ∧ Q (.ref p) (upd H1 p (.dK (puts [] ks)))
theorem upd_upd {H : Hp} {p : Addr} {o u : HO} : upd (upd H p o) p u = upd H p u := by
  funext b
  by_cases e : b = p
  · subst e; rw [upd_same, upd_same]
  · rw [upd_ne e, upd_ne e, upd_ne e]
theorem store_all {X : Cx} {pins : List (Addr × Obj)} {σ : L2.St} {p : Addr} {Q : PUnit → Shared → Prop} (ks : List (Key × V)) : ∀ (us : List (Value × Value)) (kvs : List (Key × V)) (H : Hp) (s : Shared), VP (ks.map (fun q => (kV q.1, q.2))) us → Inv X pins σ (upd H p (.dK kvs)) s → kvs.length + ks.length ≤ 15 →
    (∀ s', Inv X pins σ (upd H p (.dK (puts kvs ks))) s' → Q PUnit.unit s') → wpAny (model X.prog X.w) X.A (storeAll p us) Q X.xe s := by
  induction ks with
  | nil =>
    intro us kvs H s r I _ h
    cases r
    unfold storeAll
    rw [List.forIn_nil]
    exact wpAny_pure (h s I)
  | cons kv ks ih =>
    intro us kvs H s r I hl h
    cases r with
    | cons r1 r2 r3 =>
      unfold storeAll
      rw [List.forIn_cons]
      rw [List.length_cons] at hl
      have big : (15 : Nat) < sizeLine := by decide
      have hz : kvs.length < sizeLine := Nat.lt_of_le_of_lt (by omega) big
      have hl2 := length_putK kvs kv.1 kv.2
      refine wpAny_bind (wpAny_bind (d_dictSet I upd_same hz r1 r2 fun s1 I1 => wpAny_pure ?_))
      rw [upd_upd] at I1
      exact ih _ (putK kvs kv.1 kv.2) H s1 r3 I1 (by omega) h
theorem pe_dict {X : Cx} {ks : List (Option Expr)} {vs : List Expr} {t : TP} {pos : Pos} (h : PPairs X ks vs t) (h0 : ks ≠ []) (hl : ks.length ≤ 15) : PE X (.Dict ks vs pos) (tDict t) := by
  refine ⟨fun pins s σ H Q I hq => ?_⟩
  have np : H s.heap.objs.size = none := I.hok.fresh (Nat.le_refl _)
  refine wpAny_Dict_any h.all h.len h0 hl ?_
  have I1 : Inv X pins σ (upd H s.heap.objs.size (.dK [])) { s with heap := s.heap.push { cls := .type "dict", data := .dict #[] } } := I.laid (t' := s.toks) (fun b u q => Heap.get?_push_of_some _ q) (Nat.le_refl _) (dk_empty s.heap I.big)
  refine thn (h.run pos pins _ σ _ _ I1 (hq _ np)) fun us s2 ⟨kvs, H2, I2, r2, ks2, e, hn, hp, q2⟩ => ?_
  subst e
  have I3 : Inv X pins σ (upd H2 s.heap.objs.size (.dK [])) s2 := by
    have e2 : upd H2 s.heap.objs.size (.dK []) = H2 := by
      funext b
      by_cases e : b = s.heap.objs.size
      · subst e; rw [upd_same, hp]
      · rw [upd_ne e]
    rw [e2]; exact I2
  exact store_all ks2 us [] H2 s2 r2 I3 (by simpa using hn) fun s3 I4 => ⟨.ref s.heap.objs.size, _, I4, rfl, q2⟩
end DV
set_option Elab.async false
set_option linter.all false
set_option maxRecDepth 100000
set_option maxHeartbeats 4000000
namespace DV
open PySem PySem.Spec PyProof.Rows L2
open Evl (Ex)
/-! ### repr of lists and tuples -/
def rRepr (K : PySem.W.Frag) : List V → Hp → VK → Prop := fun xs H Q => ∃ (a : Addr) (p : PyData), xs = [.ref a] ∧ Dp K H (.ref a) p ∧ p.showable = true ∧ p.hasDict = false ∧ p.depth ≤ 60 ∧ p.shown.length ≤ sizeLine ∧ Q (.str p.shown) H
theorem call_repr {X : Cx} (hg : X.A.guards = some []) (hu : X.A.units + 100 < cLine) : CallR X (.builtin "repr") (rRepr X.K) := by
  intro pins s σ H xs us Q I r h
  obtain ⟨a, p, rfl, hd, h1, h2, h3, h4, q⟩ := h
  obtain ⟨u, rfl, rx⟩ := vals1 r
  obtain ⟨as, rd⟩ := Dp.reads I p _ _ hd rx
  cases (show u = Value.ref a from rx)
  exact repr_of_reads' rd h1 (fun z => by rw [h2] at z; cases z) hg (by omega) (fun b o e => e) (fun h' u tk k => ⟨.str p.shown, H, I.kept k, ⟨_, rfl⟩, q⟩) h4
def seqLike : D → Bool
  | .lst _ => true
  | .tup _ => true
  | _ => false
def showOk (p : PyData) : Bool := p.showable && !p.hasDict && decide (p.depth ≤ 60) && decide (p.shown.length ≤ sizeLine)
def reprD (ds : List D) : Option D := match ds with
  | [d] => if seqLike d = true then (match d.py with
    | some p => if showOk p = true then some (.str p.shown) else none
    | none => none) else none
  | _ => none
theorem reprD_ok {d : D} {p : PyData} (h1 : seqLike d = true) (h2 : d.py = some p) (h3 : showOk p = true) : reprD [d] = some (.str p.shown) := by
  simp only [reprD, h1, h2, h3, if_true]
section
variable {B : Bk} {E : En} {W : WX} {RR : RRel}
theorem RE_repr {p pos : Pos} {a : Expr} {fs : Rho → E.G → Out E.G (List D)} (h : RA B E W [a] fs) (hg : Gn B.sc "repr") (hm : E.T.mg "repr" = none) (he : ∀ env, starEach [a] env = (false, eval a env) :: starEach [] env := by intro _; rfl) :
    RE B E W (.Call (.Name "repr" p) [a] [] pos) (fun ρ g => bnd (fs ρ g) fun ds g => opt (reprD ds) g) :=
  RX_callB (r := rRepr E.T.K) rs_back (fun X c => by have := call_repr (X := X) c.gd (by have := c.un; omega); rw [c.hK] at this; exact this) (fun ds vs W σ Hb H1 g Q e hd r xs h => by
    cases xs with
    | nil => exact False.elim h
    | cons x xs =>
      cases xs with
      | cons _ _ => exact False.elim h
      | nil =>
        rename_i v d
        unfold reprD at h
        dsimp only at h
        split at h
        · rename_i hs
          cases hp : d.py with
          | none => rw [hp] at h; exact False.elim h
          | some p =>
            rw [hp] at h
            dsimp only at h
            split at h
            · rename_i ho
              unfold showOk at ho
              simp only [Bool.and_eq_true, Bool.not_eq_true', decide_eq_true_eq] at ho
              obtain ⟨⟨⟨h1, h2⟩, h3⟩, h4⟩ := ho
              have hx := (x.mono e).dp hp
              have : ∃ a, v = .ref a := by cases x <;> first | exact ⟨_, rfl⟩ | cases hs
              obtain ⟨a, rfl⟩ := this
              exact ⟨a, p, rfl, hx, h1, h2, h3, h4, h _ Hb H1 (Gr.refl e) r (.str _)⟩
            · exact False.elim h
        · exact False.elim h) h hg hm (by decide +kernel) (he := he)
end
end DV
set_option Elab.async false
set_option linter.all false
set_option maxRecDepth 100000
set_option maxHeartbeats 4000000
namespace DV
open PySem PySem.Spec PyProof.Rows L2
open Evl (Ex)

/-! ### the worlds of a law: tables of code objects; a draw -/
theorem tabs_stay {T : List (Addr × PySem.Str)} {H H' : Hp} (h : LamX.Tabs T H) (e : ∀ p ∈ T, ∀ o, H p.1 = some o → H' p.1 = some o) (ex : ∀ a φ, H a = some (.ext φ) → H' a = some (.ext φ)) : LamX.Tabs T H' := fun p hp => by
  obtain ⟨ps, h1, h2, h3⟩ := h p hp
  refine ⟨ps, e p hp _ h1, h2, fun pos cv hc => ?_⟩
  obtain ⟨c, e1, e2⟩ := h3 pos cv hc
  exact ⟨c, e1, ex _ _ e2⟩
/-- the tables alone -/
abbrev wT (T : List (Addr × PySem.Str)) : Wd where
  S := fun a => ∃ p ∈ T, p.1 = a
  G := Unit
  R := fun H _ => LamX.Tabs T H
  inS := fun H g h a ⟨p, hp, e⟩ => by
    obtain ⟨ps, h1, _⟩ := h p hp
    rw [← e, h1]; exact nofun
  stay := fun H H' g h e ex => tabs_stay h (fun p hp o q => e p.1 o ⟨p, hp, rfl⟩ q) ex
structure Dr where
  large : List Int
  rest : Int
  turn : Int
def kvD (l c : Addr) (g : Dr) : List (Key × V) := [(.inr "large", .ref l), (.inr "rest", .int g.rest), (.inr "cells", .ref c), (.inr "turn", .int g.turn)]
structure DrawAt (T : List (Addr × PySem.Str)) (ad l c : Addr) (cells : List Int) (H : Hp) (g : Dr) : Prop where
  hd : H ad = some (.dK (kvD l c g))
  hl : H l = some (.lst (g.large.map V.int))
  hc : H c = some (.lst (cells.map V.int))
  lc : l ≠ c
  ht : LamX.Tabs T H
abbrev wD (T : List (Addr × PySem.Str)) (ad l c : Addr) (cells : List Int) : Wd where
  S := fun a => a = ad ∨ a = l ∨ a = c ∨ ∃ p ∈ T, p.1 = a
  G := Dr
  R := DrawAt T ad l c cells
  inS := fun H g h a ha => by
    rcases ha with rfl | rfl | rfl | ⟨p, hp, e⟩
    · rw [h.hd]; exact nofun
    · rw [h.hl]; exact nofun
    · rw [h.hc]; exact nofun
    · obtain ⟨ps, h1, _⟩ := h.ht p hp
      rw [← e, h1]; exact nofun
  stay := fun H H' g h e ex => ⟨e _ _ (.inl rfl) h.hd, e _ _ (.inr (.inl rfl)) h.hl, e _ _ (.inr (.inr (.inl rfl))) h.hc, h.lc, tabs_stay h.ht (fun p hp o q => e p.1 o (.inr (.inr (.inr ⟨p, hp, rfl⟩))) q) ex⟩
section
variable {T : List (Addr × PySem.Str)} {ad l c : Addr} {cells : List Int} {H : Hp} {g : Dr}
theorem DrawAt.nt (h : DrawAt T ad l c cells H g) {a : Addr} {o : HO} (e : H a = some o) (n : ∀ ps, o ≠ .tbl ps) : ∀ p ∈ T, p.1 ≠ a := fun p hp z => by
  obtain ⟨ps, h1, _⟩ := h.ht p hp
  rw [z, e] at h1
  exact n ps (Option.some.inj h1)
theorem DrawAt.tabs (h : DrawAt T ad l c cells H g) {a : Addr} {o u : HO} (e : H a = some o) (n : ∀ ps, o ≠ .tbl ps) (n2 : ∀ φ, o ≠ .ext φ) : LamX.Tabs T (upd H a u) :=
  tabs_stay h.ht (fun p hp o' q => by rw [upd_ne (h.nt e n p hp)]; exact q) fun b φ q => by
    have hb : b ≠ a := fun z => by
      rw [z, e] at q
      exact n2 φ (Option.some.inj q)
    rw [upd_ne hb]; exact q
theorem DrawAt.dl (h : DrawAt T ad l c cells H g) : ad ≠ l := fun z => by have := h.hd; rw [z, h.hl] at this; cases this
theorem DrawAt.dc (h : DrawAt T ad l c cells H g) : ad ≠ c := fun z => by have := h.hd; rw [z, h.hc] at this; cases this
theorem DrawAt.putD (h : DrawAt T ad l c cells H g) (g' : Dr) (e : g'.large = g.large) : DrawAt T ad l c cells (upd H ad (.dK (kvD l c g'))) g' :=
  ⟨upd_same, by rw [upd_ne h.dl.symm, e]; exact h.hl, by rw [upd_ne h.dc.symm]; exact h.hc, h.lc, h.tabs h.hd nofun nofun⟩
theorem DrawAt.putL (h : DrawAt T ad l c cells H g) (xs : List Int) : DrawAt T ad l c cells (upd H l (.lst (xs.map V.int))) { g with large := xs } :=
  ⟨by rw [upd_ne h.dl]; exact h.hd, upd_same, by rw [upd_ne h.lc.symm]; exact h.hc, h.lc, h.tabs h.hl nofun nofun⟩
end
theorem k_lr : ¬ (("large" : PySem.Str) = "rest") := by decide +kernel
theorem k_lc : ¬ (("large" : PySem.Str) = "cells") := by decide +kernel
theorem k_lt : ¬ (("large" : PySem.Str) = "turn") := by decide +kernel
theorem k_rc : ¬ (("rest" : PySem.Str) = "cells") := by decide +kernel
theorem k_rt : ¬ (("rest" : PySem.Str) = "turn") := by decide +kernel
theorem k_ct : ¬ (("cells" : PySem.Str) = "turn") := by decide +kernel
theorem inr_ne {a b : PySem.Str} (h : ¬ a = b) : ¬ ((Sum.inr a : Key) = Sum.inr b) := fun z => h (Sum.inr.inj z)
theorem val_large {l c : Addr} {g : Dr} : valV (kvD l c g) (.inr "large") = some (.ref l) := valV_pos rfl
theorem val_rest {l c : Addr} {g : Dr} : valV (kvD l c g) (.inr "rest") = some (.int g.rest) := (valV_neg (inr_ne k_lr)).trans (valV_pos rfl)
theorem val_cells {l c : Addr} {g : Dr} : valV (kvD l c g) (.inr "cells") = some (.ref c) := (valV_neg (inr_ne k_lc)).trans ((valV_neg (inr_ne k_rc)).trans (valV_pos rfl))
theorem val_turn {l c : Addr} {g : Dr} : valV (kvD l c g) (.inr "turn") = some (.int g.turn) := (valV_neg (inr_ne k_lt)).trans ((valV_neg (inr_ne k_rt)).trans ((valV_neg (inr_ne k_ct)).trans (valV_pos rfl)))
theorem put_rest {l c : Addr} {g : Dr} {z : Int} : putK (kvD l c g) (.inr "rest") (.int z) = kvD l c { g with rest := z } := by
  unfold kvD putK
  simp only [List.any_cons, List.any_nil, List.map_cons, List.map_nil, inr_ne k_lr, inr_ne (Ne.symm k_rc), inr_ne (Ne.symm k_rt), decide_true, Bool.true_or, Bool.or_true, if_true, if_false, decide_false]
theorem put_turn {l c : Addr} {g : Dr} {z : Int} : putK (kvD l c g) (.inr "turn") (.int z) = kvD l c { g with turn := z } := by
  unfold kvD putK
  simp only [List.any_cons, List.any_nil, List.map_cons, List.map_nil, inr_ne k_lt, inr_ne k_ct, inr_ne k_rt, decide_true, Bool.true_or, Bool.or_true, if_true, if_false, decide_false]
def hidf (ad l c : Addr) : Nat → Addr
  | 0 => ad
  | 1 => l
  | _ => c
abbrev ED (P : Program) (w : World) (K : PySem.W.Frag) (mg : PySem.Str → Option Value) (base : Heap) (k : Nat) (T : List (Addr × PySem.Str)) (ad l c : Addr) (cells : List Int) : En := ⟨P, w, ⟨K, mg, hidf ad l c⟩, base, k, wD T ad l c cells⟩
def asHid {G : Type} (n : Nat) (x : D) (g : G) : Out G Unit := match x with
  | .hid m => if m = n then .ok () g else .stk
  | _ => .stk
@[simp] theorem asHid_ok {G : Type} (n : Nat) (g : G) : asHid n (.hid n) g = .ok () g := if_pos rfl
theorem asHid_inv {G : Type} {n : Nat} {x : D} {g : G} : asHid n x g = .ok () g ∧ x = .hid n ∨ asHid n x g = .stk := by
  cases x <;> first | exact .inr rfl | skip
  rename_i m
  by_cases h : m = n
  · subst h; exact .inl ⟨if_pos rfl, rfl⟩
  · exact .inr (if_neg h)
section
variable {P : Program} {w : World} {K : PySem.W.Frag} {mg : PySem.Str → Option Value} {base : Heap} {k : Nat} {T : List (Addr × PySem.Str)} {ad l c : Addr} {cells : List Int} {B : Bk} {W : WX} {RR : RRel} {OB O O' : List Nat} {pos : Pos}
/-- draw[key] -/
theorem RE_hk {o : Expr} {key : PySem.Str} {jk : Nat} {pk : Pos} {fo : Rho → (ED P w K mg base k T ad l c cells).G → Out (ED P w K mg base k T ad l c cells).G D} (v : Dr → V) (dv : Dr → D) (hv : ∀ g, valV (kvD l c g) (.inr key) = some (v g)) (hd : ∀ H g, Rp ⟨K, mg, hidf ad l c⟩ H (v g) (dv g))
    (ho : RE B (ED P w K mg base k T ad l c cells) W o fo) (hs : NoSl (.Constant (.str key) jk pk) := by intro _ _; rfl) : RE B (ED P w K mg base k T ad l c cells) W (.Subscript o (.Constant (.str key) jk pk) pos) (fun ρ g => bnd (fo ρ g) fun d g => bnd (asHid 0 d g) fun _ g => .ok (dv g) g) := by
  obtain ⟨to, po, qo⟩ := ho
  refine ⟨tDGet to (tC (.str key)), fun X cx => pe_dget (by have := cx.un; omega) (po X cx) pe_str hs, fun σ ρ Hb H1 g Q pr h => ?_⟩
  refine qo σ ρ Hb H1 g _ pr (h.bnd fun d g1 h v1 Hb2 H2 gr r1 rx => ?_)
  rcases asHid_inv (n := 0) (x := d) (g := g1) with ⟨e, rfl⟩ | e
  · rw [e] at h
    have R : DrawAt T ad l c cells H2 g1 := r1
    cases rx
    exact ⟨ad, v g1, rfl, by have := DGet.k (k := .inr key) R.hd; have hx : valV (kvD l c g1) (.inr key) = some (v g1) := hv g1; rw [hx] at this; exact this, h _ Hb2 H2 gr r1 (hd _ _)⟩
  · rw [e] at h; exact False.elim h
theorem RE_hlarge {o : Expr} {jk : Nat} {pk : Pos} {fo : Rho → (ED P w K mg base k T ad l c cells).G → Out (ED P w K mg base k T ad l c cells).G D} (ho : RE B (ED P w K mg base k T ad l c cells) W o fo) : RE B (ED P w K mg base k T ad l c cells) W (.Subscript o (.Constant (.str "large") jk pk) pos) (fun ρ g => bnd (fo ρ g) fun d g => bnd (asHid 0 d g) fun _ g => .ok (.hid 1) g) := RE_hk (fun _ => .ref l) (fun _ => .hid 1) (fun _ => val_large) (fun _ _ => .hid 1) ho
theorem RE_hcells {o : Expr} {jk : Nat} {pk : Pos} {fo : Rho → (ED P w K mg base k T ad l c cells).G → Out (ED P w K mg base k T ad l c cells).G D} (ho : RE B (ED P w K mg base k T ad l c cells) W o fo) : RE B (ED P w K mg base k T ad l c cells) W (.Subscript o (.Constant (.str "cells") jk pk) pos) (fun ρ g => bnd (fo ρ g) fun d g => bnd (asHid 0 d g) fun _ g => .ok (.hid 2) g) := RE_hk (fun _ => .ref c) (fun _ => .hid 2) (fun _ => val_cells) (fun _ _ => .hid 2) ho
theorem RE_hrest {o : Expr} {jk : Nat} {pk : Pos} {fo : Rho → (ED P w K mg base k T ad l c cells).G → Out (ED P w K mg base k T ad l c cells).G D} (ho : RE B (ED P w K mg base k T ad l c cells) W o fo) : RE B (ED P w K mg base k T ad l c cells) W (.Subscript o (.Constant (.str "rest") jk pk) pos) (fun ρ g => bnd (fo ρ g) fun d g => bnd (asHid 0 d g) fun _ g => .ok (.int g.rest) g) := RE_hk (fun g => .int g.rest) (fun g => .int g.rest) (fun _ => val_rest) (fun _ _ => .int _) ho
theorem RE_hturn {o : Expr} {jk : Nat} {pk : Pos} {fo : Rho → (ED P w K mg base k T ad l c cells).G → Out (ED P w K mg base k T ad l c cells).G D} (ho : RE B (ED P w K mg base k T ad l c cells) W o fo) : RE B (ED P w K mg base k T ad l c cells) W (.Subscript o (.Constant (.str "turn") jk pk) pos) (fun ρ g => bnd (fo ρ g) fun d g => bnd (asHid 0 d g) fun _ g => .ok (.int g.turn) g) := RE_hk (fun g => .int g.turn) (fun g => .int g.turn) (fun _ => val_turn) (fun _ _ => .int _) ho
/-- draw[key] = e -/
def asInt {G : Type} (d : D) (g : G) : Out G Int := match d with
  | .int i => .ok i g
  | _ => .stk
@[simp] theorem asInt_int {G : Type} (i : Int) (g : G) : asInt (.int i) g = .ok i g := rfl
theorem RS_hput {o e : Expr} {key : PySem.Str} {jk : Nat} {pk pt : Pos} {fo fe : Rho → (ED P w K mg base k T ad l c cells).G → Out (ED P w K mg base k T ad l c cells).G D} (up : Dr → Int → Dr) (hup : ∀ g z, putK (kvD l c g) (.inr key) (.int z) = kvD l c (up g z)) (hl : ∀ g z, (up g z).large = g.large)
    (ho : RE B (ED P w K mg base k T ad l c cells) W o fo) (he : RE B (ED P w K mg base k T ad l c cells) W e fe) (hs : ∀ env, swapsWith e (some (.Subscript o (.Constant (.str key) jk pk) pt)) pos.line env = pure false := by intro _; rfl) :
    RS B (ED P w K mg base k T ad l c cells) W RR OB O O (.Assign [.Subscript o (.Constant (.str key) jk pk) pt] e pos) (fun ρ g => bnd (fe ρ g) fun y g => bnd (asInt y g) fun z g => bnd (fo ρ g) fun d g => bnd (asHid 0 d g) fun _ g => .ok (.nx ρ) (up g z)) := by
  obtain ⟨to, po, qo⟩ := ho
  obtain ⟨te, pe, qe⟩ := he
  refine ⟨_, fun X cx => ps_dput (by have := cx.un; omega) (po X cx.toInC) (pe_str (j := jk) (pos := pk)) (pe X cx.toInC) (hs _), fun Hb0 H0 σ ρ Hb H g Z s r h => ?_⟩
  obtain ⟨Hb1, e1, s1⟩ := s.all
  refine qe σ _ Hb1 H g _ (s1.pr r) (h.err_of s1.gr fun y g1 h u Hb2 H2 gr r1 ry => ?_)
  have s2 := s.top e1 gr
  cases y <;> first | exact False.elim h | skip
  rename_i z
  cases ry
  simp only [asInt_int, bnd_ok] at h
  obtain ⟨Hb3, e3, s3⟩ := s2.all
  refine qo σ _ Hb3 H2 g1 _ (s3.pr r1) (PostS.err_of s3.gr h fun d g2 h v Hb4 H4 gr4 r4 rx => ?_)
  have s4 := s2.top e3 gr4
  rcases asHid_inv (n := 0) (x := d) (g := g2) with ⟨ee, rfl⟩ | ee
  · rw [ee] at h
    simp only [bnd_ok] at h
    have R : DrawAt T ad l c cells H4 g2 := r4
    cases rx
    have hb : Hb ad = none := s4.hd ad (.inl rfl)
    refine ⟨ad, upd H4 ad (.dK (kvD l c (up g2 z))), rfl, ?_, ?_⟩
    · have hz : (kvD l c g2).length < sizeLine := by show 4 < sizeLine; decide
      have := DPut.k (k := .inr key) (v := .int z) R.hd hz
      have hx : putK (kvD l c g2) (.inr key) (.int z) = kvD l c (up g2 z) := hup g2 z
      rw [hx] at this
      exact this
    · exact h σ Hb _ (s4.step (Gr.mutS s4.gr.sub hb (.inl rfl))) (R.putD _ (hl _ _))
  · rw [ee] at h; exact False.elim h
theorem RS_hrest {o e : Expr} {jk : Nat} {pk pt : Pos} {fo fe : Rho → (ED P w K mg base k T ad l c cells).G → Out (ED P w K mg base k T ad l c cells).G D} (ho : RE B (ED P w K mg base k T ad l c cells) W o fo) (he : RE B (ED P w K mg base k T ad l c cells) W e fe) (hs : ∀ env, swapsWith e (some (.Subscript o (.Constant (.str "rest") jk pk) pt)) pos.line env = pure false := by intro _; rfl) :
    RS B (ED P w K mg base k T ad l c cells) W RR OB O O (.Assign [.Subscript o (.Constant (.str "rest") jk pk) pt] e pos) (fun ρ g => bnd (fe ρ g) fun y g => bnd (asInt y g) fun z g => bnd (fo ρ g) fun d g => bnd (asHid 0 d g) fun _ g => .ok (.nx ρ) { g with rest := z }) := RS_hput (fun g z => { g with rest := z }) (fun _ _ => put_rest) (fun _ _ => rfl) ho he hs
theorem RS_hturn {o e : Expr} {jk : Nat} {pk pt : Pos} {fo fe : Rho → (ED P w K mg base k T ad l c cells).G → Out (ED P w K mg base k T ad l c cells).G D} (ho : RE B (ED P w K mg base k T ad l c cells) W o fo) (he : RE B (ED P w K mg base k T ad l c cells) W e fe) (hs : ∀ env, swapsWith e (some (.Subscript o (.Constant (.str "turn") jk pk) pt)) pos.line env = pure false := by intro _; rfl) :
    RS B (ED P w K mg base k T ad l c cells) W RR OB O O (.Assign [.Subscript o (.Constant (.str "turn") jk pk) pt] e pos) (fun ρ g => bnd (fe ρ g) fun y g => bnd (asInt y g) fun z g => bnd (fo ρ g) fun d g => bnd (asHid 0 d g) fun _ g => .ok (.nx ρ) { g with turn := z }) := RS_hput (fun g z => { g with turn := z }) (fun _ _ => put_turn) (fun _ _ => rfl) ho he hs
end
end DV
set_option Elab.async false
set_option linter.all false
set_option maxRecDepth 100000
set_option maxHeartbeats 4000000
namespace DV
open PySem PySem.Spec PyProof.Rows L2
open Evl (Ex)
section
variable {B : Bk} {E : En} {W : WX} {RR : RRel} {pos : Pos}
/-! ### ==, flat ones first -/
def scalD : D → D → Option Bool
  | .non, .non => some true
  | .non, .int _ => some false
  | .int _, .non => some false
  | .non, .bl _ => some false
  | .bl _, .non => some false
  | .non, .str _ => some false
  | .str _, .non => some false
  | .int i, .int j => some (decide (i = j))
  | .bl i, .bl j => some (decide (i = j))
  | .str i, .str j => some (decide (i = j))
  | .int _, .str _ => some false
  | .str _, .int _ => some false
  | .bl _, .str _ => some false
  | .str _, .bl _ => some false
  | _, _ => none
def eqX (neg : Bool) (x y : D) : Option D := match scalD x y with
  | some b => some (.bl (if neg then !b else b))
  | none => eqD neg x y
theorem scal_ok {T : Tx} {H : Hp} {v u : V} {x y : D} {b : Bool} (rx : Rp T H v x) (ry : Rp T H u y) (h : scalD x y = some b) : scal v u = true ∧ b = decide (v = u) := by
  cases rx <;> cases ry <;> first | (cases h; done) | skip
  all_goals (simp only [scalD, Option.some.injEq] at h; subst h; exact ⟨rfl, by simp⟩)
theorem RE_eqX {a b : Expr} {fa fb : Rho → E.G → Out E.G D} (ha : RE B E W a fa) (hb : RE B E W b fb) (hm : behindInMarks .Eq b = false := by rfl) : RE B E W (.Compare a [.Eq] [b] pos) (fun ρ g => bnd (fa ρ g) fun x g => bnd (fb ρ g) fun y g => opt (eqX false x y) g) :=
  RX_cmp rs_back (fun X c => (op_eq (X := X)).or (by have := op_eqD (X := X) (by have := c.un; omega); rw [c.hK] at this; exact this)) (fun x y v u W σ Hb H1 g Q e hd r rx ry h => by
    unfold eqX at h
    cases hs : scalD x y with
    | some b =>
      rw [hs] at h
      obtain ⟨h1, h2⟩ := scal_ok rx ry hs
      subst h2
      exact .inl ⟨h1, h _ Hb H1 (Gr.refl e) r (.bl _)⟩
    | none =>
      rw [hs] at h
      exact .inr (sem_eqD rs_flat rfl x y v u W σ Hb H1 g Q e hd r rx ry h)) ha hb hm
theorem RE_neX {a b : Expr} {fa fb : Rho → E.G → Out E.G D} (ha : RE B E W a fa) (hb : RE B E W b fb) (hm : behindInMarks .NotEq b = false := by rfl) : RE B E W (.Compare a [.NotEq] [b] pos) (fun ρ g => bnd (fa ρ g) fun x g => bnd (fb ρ g) fun y g => opt (eqX true x y) g) :=
  RX_cmp rs_back (fun X c => (op_ne (X := X)).or (by have := op_neD (X := X) (by have := c.un; omega); rw [c.hK] at this; exact this)) (fun x y v u W σ Hb H1 g Q e hd r rx ry h => by
    unfold eqX at h
    cases hs : scalD x y with
    | some b =>
      rw [hs] at h
      obtain ⟨h1, h2⟩ := scal_ok rx ry hs
      subst h2
      exact .inl ⟨h1, h _ Hb H1 (Gr.refl e) r (.bl _)⟩
    | none =>
      rw [hs] at h
      exact .inr (sem_neD x y v u W σ Hb H1 g Q e hd r rx ry h)) ha hb hm
/-! ### ints -/
def bMul (i j : Int) : Bool := decide (-(2 ^ 64) < i ∧ i < 2 ^ 64) || decide (-(2 ^ 64) < j ∧ j < 2 ^ 64)
def bMod (_ j : Int) : Bool := decide (0 < j)
def bDiv (_ j : Int) : Bool := decide (0 < j ∧ j < 1073741824)
def bPow (i j : Int) : Bool := decide (0 ≤ j ∧ j ≤ 1000000 ∧ i.natAbs < 2 ^ 64)
theorem RE_mulI {a b : Expr} {fa fb : Rho → E.G → Out E.G D} (ha : RE B E W a fa) (hb : RE B E W b fb) : RE B E W (.BinOp a .Mult b pos) (fun ρ g => bnd (fa ρ g) fun x g => bnd (fb ρ g) fun y g => semI bMul (fun i j => .int (i * j)) x y g) :=
  RX_op rs_back (fun X _ => op_mul) (sem_int rs_flat (fun i j h => by
    unfold bMul at h
    simp only [Bool.or_eq_true, decide_eq_true_eq] at h
    exact h) _ _ (fun _ _ => rfl) (fun _ _ i j => .int _)) ha hb
theorem RE_modI {a b : Expr} {fa fb : Rho → E.G → Out E.G D} (ha : RE B E W a fa) (hb : RE B E W b fb) : RE B E W (.BinOp a .Mod b pos) (fun ρ g => bnd (fa ρ g) fun x g => bnd (fb ρ g) fun y g => semI bMod (fun i j => .int (i % j)) x y g) :=
  RX_op rs_back (fun X _ => op_mod) (sem_int rs_flat (fun i j h => of_decide_eq_true h) _ _ (fun _ _ => rfl) (fun _ _ i j => .int _)) ha hb
theorem RE_divI {a b : Expr} {fa fb : Rho → E.G → Out E.G D} (ha : RE B E W a fa) (hb : RE B E W b fb) : RE B E W (.BinOp a .FloorDiv b pos) (fun ρ g => bnd (fa ρ g) fun x g => bnd (fb ρ g) fun y g => semI bDiv (fun i j => .int (i / j)) x y g) :=
  RX_op rs_back (fun X _ => op_fdiv) (sem_int rs_flat (fun i j h => (of_decide_eq_true h : 0 < j ∧ j < 1073741824)) _ _ (fun _ _ => rfl) (fun _ _ i j => .int _)) ha hb
theorem RE_powI {a b : Expr} {fa fb : Rho → E.G → Out E.G D} (ha : RE B E W a fa) (hb : RE B E W b fb) : RE B E W (.BinOp a .Pow b pos) (fun ρ g => bnd (fa ρ g) fun x g => bnd (fb ρ g) fun y g => semI bPow (fun i j => .int (i ^ j.toNat)) x y g) :=
  RX_op rs_back (fun X _ => op_pow) (sem_int rs_flat (fun i j h => (of_decide_eq_true h : 0 ≤ j ∧ j ≤ 1000000 ∧ i.natAbs < 2 ^ 64)) _ _ (fun _ _ => rfl) (fun _ _ i j => .int _)) ha hb
end
theorem dp_ints {K : PySem.W.Frag} {H : Hp} : ∀ ns : List Int, DpAll K H (ns.map V.int) (ns.map PyData.int)
  | [] => .nil
  | n :: r => .cons (.int n) (dp_ints r)
theorem canLay_ints : ∀ ns : List Int, PyData.canLayAll0 (ns.map PyData.int) = true
  | [] => rfl
  | n :: r => by simp [PyData.canLayAll0, PyData.canLay0, canLay_ints r]
theorem depth_ints : ∀ ns : List Int, PyData.depthAll (ns.map PyData.int) ≤ 1
  | [] => by simp [PyData.depthAll]
  | n :: r => by
    have := depth_ints r
    simp only [List.map_cons, PyData.depthAll, PyData.depth]
    omega
section
variable {P : Program} {w : World} {K : PySem.W.Frag} {mg : PySem.Str → Option Value} {base : Heap} {k : Nat} {T : List (Addr × PySem.Str)} {ad l c : Addr} {cells : List Int} {B : Bk} {W : WX} {RR : RRel} {OB O O' : List Nat} {pos : Pos}
/-- draw["large"].pop(0) -/
theorem RE_hpop {o : Expr} {jk : Nat} {pk apos : Pos} {fo : Rho → (ED P w K mg base k T ad l c cells).G → Out (ED P w K mg base k T ad l c cells).G D} (ho : RE B (ED P w K mg base k T ad l c cells) W o fo) (hab : ∀ env, attributeBase o "pop" env (eval o env) = eval o env := by intro _; rfl)
    (hbm : ∀ env, ((backTo pos (starEach [.Constant (.int 0) jk pk] env)).all (fun x => !x.1) && (backToKw pos (keywordEach [] env)).all (fun x => x.1.isSome) && decide ([(Expr.Constant (.int 0) jk pk)].length + ([] : List Keyword).length + (if ([] : List Keyword).isEmpty = true then 0 else 1) < 30)) = true := by intro _; rfl)
    (hln : (apos.endLine == pos.line) = true := by rfl) (hst : ∀ env, starEach [.Constant (.int 0) jk pk] env = (false, eval (.Constant (.int 0) jk pk) env) :: starEach [] env := by intro _; rfl) (hpl : ∀ env, ((backTo pos (starEach [] env)).any (·.1)) = false := by intro _; rfl) :
    RE B (ED P w K mg base k T ad l c cells) W (.Call (.Attribute o "pop" apos) [.Constant (.int 0) jk pk] [] pos) (fun ρ g => bnd (fo ρ g) fun d g => bnd (asHid 1 d g) fun _ g => match g.large with
      | x :: r => .ok (.int x) { g with large := r }
      | [] => .stk) := by
  obtain ⟨to, po, qo⟩ := ho
  refine ⟨tBM K "list" rPopAt to (tCons (tC (.int 0)) tNil), fun X cx => ?_, fun σ ρ Hb H1 g Q pr h => ?_⟩
  · have hp := pe_bm (apos := apos) (cpos := pos) PySem.F.plainAttrs_list PySem.F.slot_list_pop PySem.F.type_list_pop mt_popAt (po X cx) (pa_cons (pe_int (j := jk) (pos := pk)) pa_nil (hst _)) (hab _) (hbm _) hln (hst _) (hpl _)
    rw [cx.hK] at hp
    exact hp
  · refine qo σ ρ Hb H1 g _ pr (h.bnd fun d g1 h v Hb2 H2 gr r1 rx => ?_)
    rcases asHid_inv (n := 1) (x := d) (g := g1) with ⟨e, rfl⟩ | e
    · rw [e] at h
      have R : DrawAt T ad l c cells H2 g1 := r1
      have pr2 := pr.step gr r1
      cases rx
      simp only [bnd_ok] at h
      cases hL : (g1 : Dr).large with
      | nil => rw [hL] at h; exact False.elim h
      | cons x r =>
        rw [hL] at h
        have hl := R.hl
        rw [hL, List.map_cons] at hl
        refine ⟨.inl ⟨rfl, _, Evl.sq_of hl⟩, l, _, 0, 0, .int x, rfl, rfl, hl, by decide, by decide, by simp [seqIndex?], rfl, ?_⟩
        exact h _ Hb2 _ (gr.trans (Gr.mutS pr2.ex (pr2.hd l (.inr (.inl rfl))) (.inr (.inl rfl)))) (R.putL r) (.int x)
    · rw [e] at h; exact False.elim h
/-- draw["large"] != [] -/
theorem RE_hne {o : Expr} {pk : Pos} {fo : Rho → (ED P w K mg base k T ad l c cells).G → Out (ED P w K mg base k T ad l c cells).G D} (ho : RE B (ED P w K mg base k T ad l c cells) W o fo) : RE B (ED P w K mg base k T ad l c cells) W (.Compare o [.NotEq] [.List [] pk] pos) (fun ρ g => bnd (fo ρ g) fun d g => bnd (asHid 1 d g) fun _ g => .ok (.bl (!g.large.isEmpty)) g) := by
  obtain ⟨to, po, qo⟩ := ho
  refine ⟨tOp (rNeD K) to (tLst tNil), fun X cx => by have := pe_cmpR (pos := pos) (op_neD (X := X) (by have := cx.un; omega)) (po X cx) (pe_lst (pos := pk) pa_nil) (by rfl); rw [cx.hK] at this; exact this, fun σ ρ Hb H1 g Q pr h => ?_⟩
  refine qo σ ρ Hb H1 g _ pr (h.bnd fun d g1 h v Hb2 H2 gr r1 rx => ?_)
  rcases asHid_inv (n := 1) (x := d) (g := g1) with ⟨e, rfl⟩ | e
  · rw [e] at h
    have R : DrawAt T ad l c cells H2 g1 := r1
    cases rx
    refine ⟨by show 0 ≤ sizeLine; decide, fun p hp => ?_⟩
    have hl : upd H2 p (.lst []) l = some (.lst ((g1 : Dr).large.map V.int)) := by
      rw [upd_ne (ne_of_none R.hl hp)]; exact R.hl
    have eq : PyData.eqv (.list ((g1 : Dr).large.map PyData.int)) (.list []) = (g1 : Dr).large.isEmpty := by
      cases (g1 : Dr).large <;> simp [PyData.eqv, PyData.eqvAll]
    refine ⟨.list ((g1 : Dr).large.map PyData.int), .list [], .lst (Evl.sq_of hl) (dp_ints _), .lst (Evl.sq_of upd_same) .nil, ?_, rfl, ?_⟩
    · unfold SeqAt.shaped
      have := depth_ints (g1 : Dr).large
      have h1 : PyData.canLay0 (.list ((g1 : Dr).large.map PyData.int)) = true := canLay_ints _
      have h2 : PyData.depth (.list ((g1 : Dr).large.map PyData.int)) ≤ 64 := by
        show PyData.depthAll ((g1 : Dr).large.map PyData.int) + 1 ≤ 64
        omega
      rw [h1, decide_eq_true h2]
      rfl
    · rw [eq]
      exact h _ Hb2 _ (gr.trans (Gr.newH gr.sub hp)) (R_new r1 hp) (.bl _)
  · rw [e] at h; exact False.elim h
/-- for cell in draw["cells"] -/
theorem RI_hid {tg e : Expr} {f : Rho → (ED P w K mg base k T ad l c cells).G → Out (ED P w K mg base k T ad l c cells).G D} (h : RE B (ED P w K mg base k T ad l c cells) W e f) : RI B (ED P w K mg base k T ad l c cells) W tg e (fun ρ g => bnd (f ρ g) fun d g => bnd (asHid 2 d g) fun _ g => .ok (cells.map D.int) g) := by
  obtain ⟨t, p, q⟩ := h
  refine ⟨iSeq K t, fun X cx => by have := pi_seq (tg := tg) (p X cx); rw [cx.hK] at this; exact this, fun σ ρ Hb H1 g K' pr h => ?_⟩
  refine q σ ρ Hb H1 g _ pr (h.bnd fun d g1 h v Hb2 H2 gr r x => ?_)
  rcases asHid_inv (n := 2) (x := d) (g := g1) with ⟨e, rfl⟩ | e
  · rw [e] at h
    have R : DrawAt T ad l c cells H2 g1 := r
    cases x
    refine .inl ⟨c, rfl, ⟨_, Evl.sq_of R.hc⟩, h _ _ _ gr r ?_⟩
    intro Hb' H g0 e1 e2 r0 hs
    have R0 : DrawAt T ad l c cells H g0 := r0
    have hq := Evl.sq_of (K := K) R0.hc
    refine ⟨fun i d hd => ?_, fun i hi => ⟨_, hq, by rw [List.length_map] at hi ⊢; exact hi⟩⟩
    rw [List.getElem?_map] at hd
    cases hc : cells[i]? with
    | none => rw [hc] at hd; cases hd
    | some z =>
      rw [hc] at hd
      cases hd
      have hv : (cells.map V.int)[i]? = some (.int z) := by rw [List.getElem?_map, hc]; rfl
      refine ⟨⟨_, _, hq, hv⟩, fun x H' hy => ?_⟩
      obtain ⟨rfl, hx⟩ := hy
      have h2 := hx _ hq
      rw [hv] at h2
      cases h2
      exact ⟨Hb', fun _ z => z, Gr.refl e2, .int _⟩
  · rw [e] at h; exact False.elim h
end
end DV
set_option Elab.async false
set_option linter.all false
set_option maxRecDepth 100000
set_option maxHeartbeats 4000000
namespace DV
open PySem PySem.Spec PyProof.Rows L2
open Evl (Ex)
/-! ### a lambda is made: the heap behind is told exactly -/
def LG (T : List (Addr × PySem.Str)) (H H1 : Hp) : Prop := H1 = H ∨ ∃ (P c' : Addr) (q : PySem.Str) (ps more : Array Value), (P, q) ∈ T ∧ H P = some (.tbl ps) ∧ H c' = none ∧ H1 = upd (upd H P (.tbl (ps ++ more))) c' (LamX.CodeO c' q)
section
variable {X : Cx} {pins : List (Addr × Obj)} {σ : L2.St} {H : Hp} {s : Shared}
theorem lam_new {T : List (Addr × PySem.Str)} {c P : Addr} {params : Arguments} {body : Expr} {scope : Scope} {pos : Pos} {E : Value → Shared → Prop} {Q : Value → Shared → Prop} (I : Inv X pins σ H s) (TB : LamX.TabB X.base X.mg c P) (hcode : X.env.code = .ref c)
    (hm : (P, X.env.qual ++ "<lambda>") ∈ T) (hu : ∀ p ∈ T, p.1 = P → p.2 = X.env.qual ++ "<lambda>") (hT : LamX.Tabs T H) (hdef : defaultsOf params X.env = ([], [])) (hfree : ∀ y ∈ scope.names, y.2 = .free → ∃ c, X.env.cells.lookup y.1 = some c)
    (h : ∀ (f c' : Addr) (pm ctv : Value) (H1 : Hp) (s' : Shared), Inv X pins σ H1 s' → LG T H H1 → LamX.Tabs T H1 →
      s'.heap.get? f = some (PySem.W.kla_obj "<lambda>" (X.env.qual ++ "<lambda>") params body scope (cloFrom X.env.cells scope.names []) pm c' ctv) → H1 f = none → f ∉ frs X.stack → H1 c' = some (LamX.CodeO c' (X.env.qual ++ "<lambda>")) → Q (.ref f) s') :
    wpAny (model X.prog X.w) X.A (eval (.Lambda params body scope pos) X.env) Q E s := by
  obtain ⟨ps, hP, ht, ha⟩ := hT _ hm
  have hP' : s.heap.get? P = some { cls := .none, data := .fields ps } := I.hok P _ hP
  have bP : s.heap.BuiltinsAt X.mg P := TB.bm.keeps I.bk
  have away : ∀ f, s.heap.objs.size ≤ f → f ∉ frs X.stack := fun f hf z => (List.mem_cons.mp (I.stkSub _ z)).elim (fun e => Nat.lt_irrefl _ (Nat.lt_of_lt_of_le (e ▸ I.lt) hf)) (fun e => I.nofs hf e)
  refine PySem.W.kla_eval hdef ?_
  cases hc : codeAmong pos ps.toList with
  | some cv =>
    obtain ⟨c', rfl, hco⟩ := ha pos cv hc
    exact PySem.W.kla_makeFunctionHit (mg := X.mg) (c := c) (P := P) (ps := ps) (closure_ok hfree) I.ok.glob (I.mod.glob.keeps I.bk) hcode (TB.code.keeps I.bk) hP' ht hc bP fun ctv h' tk hx hsz =>
      h h'.objs.size c' ((X.mg "__name__").getD .none) ctv H _ (I.kept fun b o e => Heap.get?_push_of_some _ (hx b o e)) (.inl rfl) hT (Heap.get?_push_size _ rfl) (I.hok.fresh hsz) (away _ hsz) hco
  | none =>
    refine PySem.W.kla_makeFunction (mg := X.mg) (c := c) (P := P) (ps := ps) (closure_ok hfree) I.ok.glob (I.mod.glob.keeps I.bk) hcode (TB.code.keeps I.bk) hP' ht hc TB.gP bP fun c' ctv h' tk hx hge hlt hrec htb => ?_
    obtain ⟨c2, oc, vs, t, e2, hoc, hd, hv⟩ := hrec
    cases e2
    have hsz : s.heap.objs.size ≤ h'.objs.size := Nat.le_trans hge (Nat.le_of_lt hlt)
    have nC : H c' = none := I.hok.fresh hge
    have I1 := LamX.inv_table (t' := tk) (more := #[rawInt pos.line, rawInt pos.col, .ref c']) (h' := h'.push (PySem.W.kla_obj "<lambda>" (X.env.qual ++ "<lambda>") params body scope (cloFrom X.env.cells scope.names []) ((X.mg "__name__").getD .none) c' ctv)) I hP
      (fun b o hb e => Heap.get?_push_of_some _ (hx b o hb e)) (Heap.get?_push_of_some _ htb) hge ⟨oc, vs, t, Heap.get?_push_of_some _ hoc, hd, hv⟩
    have old : ∀ b o, H b = some o → (∀ ps, o ≠ .tbl ps) → upd (upd H P (.tbl (ps ++ #[rawInt pos.line, rawInt pos.col, .ref c']))) c' (LamX.CodeO c' (X.env.qual ++ "<lambda>")) b = some o := fun b o e n => by
      rw [upd_ne (ne_of_none e nC), upd_ne (fun z => n ps (Option.some.inj (e.symm.trans (by rw [z]; exact hP))))]
      exact e
    have eL : (ps ++ #[rawInt pos.line, rawInt pos.col, .ref c']).toList = ps.toList ++ [rawInt pos.line, rawInt pos.col, .ref c'] := by simp
    refine h h'.objs.size c' ((X.mg "__name__").getD .none) ctv _ _ I1 (.inr ⟨P, c', _, ps, _, hm, hP, nC, rfl⟩) (fun p hp => ?_) (Heap.get?_push_size _ rfl) ?_ (away _ hsz) upd_same
    · by_cases hb : p.1 = P
      · rw [hu p hp hb, hb]
        refine ⟨_, by rw [upd_ne (ne_of_none hP nC), upd_same], by rw [eL]; exact PySem.TriplesOk_snoc _ _ _ _ ht, fun p' cv hcv => ?_⟩
        rw [eL] at hcv
        rcases LamX.among_app _ ht hcv with z | z
        · obtain ⟨c0, e1, e2⟩ := ha p' cv z
          exact ⟨c0, e1, old _ _ e2 LamX.codeO_ne⟩
        · exact ⟨c', z, upd_same⟩
      · obtain ⟨ps', a1, a2, a3⟩ := hT p hp
        refine ⟨ps', by rw [upd_ne (ne_of_none a1 nC), upd_ne hb]; exact a1, a2, fun p' cv hcv => ?_⟩
        obtain ⟨c0, e1, e2⟩ := a3 p' cv hcv
        exact ⟨c0, e1, old _ _ e2 LamX.codeO_ne⟩
    · rw [upd_ne (Nat.ne_of_gt hlt), upd_ne (Nat.ne_of_gt (Nat.lt_of_lt_of_le (Heap.lt_size hP') hsz))]
      exact I.hok.fresh hsz
/-- what a made lambda does when it is called, its maker waiting -/
theorem lam_run {f c' : Addr} {pm ctv : Value} {params : Arguments} {body : Expr} {scope : Scope} {k : Nat} {tb : TE} (I : Inv X pins σ H s) (L : LamX.LamS X.env.scope scope)
    (hf : s.heap.get? f = some (PySem.W.kla_obj "<lambda>" (X.env.qual ++ "<lambda>") params body scope (cloFrom X.env.cells scope.names []) pm c' ctv)) (hfn : H f = none) (hfr : f ∉ frs X.stack)
    (hbind : bindArgs (PySem.W.kla_fn "<lambda>" (X.env.qual ++ "<lambda>") params body scope (cloFrom X.env.cells scope.names []) pm (.ref c') ctv) ⟨[], []⟩ = pure [])
    {A : Around} {outer : List Env} {s1 : Shared} {HZ : Hp} {Q : VK} {E : XK} (e0 : Env0 X.prog X.w X.K X.mg X.base A outer s1 HZ) (un : Un (frs X.stack) [] H HZ s.heap s1.heap) (hr : Room (k + 1) A)
    (hbody : PE (LamX.lamCx X A outer s1 HZ E scope f c') body tb) (hc : HZ c' = some (LamX.CodeO c' (X.env.qual ++ "<lambda>"))) (ht : tb σ HZ Q) (nl : s1.heap.NoLimit) :
    codeAny (model X.prog X.w) A (.call (.ref f) ⟨[], []⟩) (CR (L2.CX X.prog X.w) outer X.prog X.w HZ s1 Q E) s1 := by
  have of1 := un.keep f _ hf hfn hfr (fun z => nomatch (show f ∈ ([] : List Addr) from z))
  obtain ⟨⟨oc, vs, t, hoc, hdc, hvc⟩, _, _⟩ := e0.hok c' _ hc
  refine PySem.W.kla_callFunE hr.depth of1 rfl L.co L.gen rfl ⟨c', oc, vs, t, rfl, hoc, hdc, hvc⟩ ?_
  rw [hbind]
  refine wpAny_pure (wpAny_newFunctionEnv (fun y hy => (L.own y hy).2) (fun y hy => absurd hy (by simp)) (fun h₁ hns hsb => ⟨nl.fresh _ hsb, ?_⟩) L.kind)
  have kp : ∀ b o, s1.heap.get? b = some o → h₁.get? b = some o := fun b o e => hsb.extBut b o (Nat.ne_of_lt (Heap.lt_size e)) (Heap.get?_push_of_some _ e)
  have J := LamX.lam_start2 (tk := s1.toks + ([] : List (PySem.Str × Value)).length) (E := E) (f := f) (c' := c') I L e0 hr.hd un hns kp
  refine PySem.W.kla_codeExpr (wpAny_mono (hbody.run [] _ _ HZ Q J ht) (fun v s' hq => ?_) fun e s' hq => hq)
  obtain ⟨w', H', J', rv, q⟩ := hq
  exact ⟨w', H', J'.os, J'.bare, J'.base, J'.hok, rv, q⟩
end
end DV
set_option Elab.async false
set_option linter.all false
set_option maxRecDepth 100000
set_option maxHeartbeats 4000000
namespace DV
open PySem PySem.Spec PyProof.Rows L2
open Evl (Ex)
/-! ### an exception that was caught is kept -/
section
variable {X : Cx} {pins : List (Addr × Obj)} {σ : L2.St} {H : Hp} {s : Shared}
/-- an object of the frame's time is tracked from now on -/
theorem Inv_track {a : Addr} {φ : Heap → Prop} (I : Inv X pins σ H s) (hx : X.ex = []) (n0 : X.s_0.heap.get? a = none) (hn : H a = none) (nL : a ≠ X.env.locals) (nC : ∀ y c, X.env.cells.lookup y = some c → c ≠ a) (nP : ∀ p ∈ X.pn ++ pins, p.1 ≠ a) (new : ObjOk X.prog X.w (upd H a (.ext φ)) s.heap a (.ext φ)) :
    Inv X pins σ (upd H a (.ext φ)) s := by
  refine ⟨I.ok, I.os, I.bare, ⟨I.base.keep, I.base.slot, fun b o q n hb => ?_, I.base.there, fun b xs q => ?_, fun b o u q => ?_, fun b ps q => ?_⟩, I.loc, I.cell, by rw [upd_ne nL.symm]; exact I.free, fun y c q => by rw [upd_ne (nC y c q)]; exact I.freeC y c q, fun p hp => ?_, HOk.laidN I.hok (fun _ _ z => z) hn new, I.len⟩
  · rw [upd_ne (fun z => by rw [z, n0] at q; cases q)]
    exact I.base.free b o q n hb
  · have z := I.base.tups b xs q
    rw [upd_ne (ne_of_none z hn)]; exact z
  · have z := I.base.frzs b o u q
    rw [upd_ne (ne_of_none z hn)]; exact z
  · obtain ⟨more, z⟩ := I.base.tbls b ps q
    exact ⟨more, by rw [upd_ne (ne_of_none z hn)]; exact z⟩
  · obtain ⟨p1, p2, p3⟩ := I.pin p hp
    exact ⟨p1, by rw [upd_ne (nP p hp)]; exact p2, p3⟩
end
theorem xcO_ok {P : Program} {w : World} {H : Hp} {h : Heap} {a C : Addr} {d : Option Addr} {oe : Obj} {vs : Array Value} (e : h.get? a = some oe) (z : Zc (.ref C) d oe) (hd : oe.data = .fields vs) : ObjOk P w H h a (XcO C d a) :=
  ⟨⟨oe, vs, e, z, hd⟩, ⟨oe, e⟩, fun _ _ ⟨o, v, q, r⟩ k => ⟨o, v, k o q, r⟩⟩
/-- what the clause wishes: the class is an own one and is meant; the suite runs, then the exception is an object of ours -/
def wKeep (K : PySem.W.Frag) (c : Value) (i : Nat) (ts : Addr → TS) (D : Ends) : WX := fun cls d σ H =>
  ∃ C, cls = .ref C ∧ PySem.W.exmOne K cls c = some true ∧ ∀ a, H a = none → ts a { nx := fun σ' H' => D.nx (σ'.set i none) (upd H' a (XcO C d a)), rt := fun _ _ => False, bk := fun _ _ => False, ct := fun _ _ => False } (σ.set i (some (.ref a))) H
section
variable {X : Cx} {x n : PySem.Str} {c : Value} {i : Nat} {body suite : List Stmt} {b₀ : Stmt} {np pos pos' : Pos} {tb : WX → TS} {ts : Addr → TS}
theorem ps_try_keep (hs : X.stack = X.env :: X.outer) (hf : X.env.frame = some X.env.locals) (hex : X.ex = []) (hN : X.N.Nodup) (hi : X.N[i]? = some n) (hln : X.env.kindOf n = some .local) (hc : Names X x c)
    (hb : ∀ (W : WX) (pn : List (Addr × Obj)) (xe : Value → Shared → Prop), Takes (X.tr pn xe) W → PassesOwn (model X.prog X.w) X.A X.env xe → PSs (X.tr pn xe) body (tb W))
    (hsu : ∀ (a : Addr) (oe : Obj) (pn : List (Addr × Obj)), PSs (X.suite a ((a, oe) :: pn)) (b₀ :: suite) (ts a)) :
    PS X (.Try body [.ExceptHandler (some (.Name x np)) (some n) (b₀ :: suite) pos'] [] [] pos) (fun D σ H => tb (wKeep X.K c i ts D) D σ H) := by
  refine ⟨fun pins s σ H D I h => ?_⟩
  have ok := I.ok
  have hfr : X.A.frames = some (X.env :: X.outer) := by rw [ok.frames, hs]
  refine wpAny_Try_except (wpAny_mono ((hb (wKeep X.K c i ts D) (X.pn ++ pins) (fun e s₁ => wpAny (model X.prog X.w) X.A (noteFrame e X.env) (fun _ s₂ => wpAny (model X.prog X.w) X.A (setFlight e none) (fun _ s₃ =>
    wpAny (model X.prog X.w) X.A (handleBy e X.env [.ExceptHandler (some (.Name x np)) (some n) (b₀ :: suite) pos']) (SP X pins D) X.xe s₃) X.xe s₂) X.xe s₁) (fun u s' xx => ?_) PassesOwn.looking).run [] s σ H D (I.toTry _) h) (fun f s1 hsp => ?_) (fun e s1 he => he))
  rotate_left
  · cases f with
    | next =>
      obtain ⟨σ', H', J', q⟩ := hsp
      exact wpAny_execs_nil ⟨σ', H', J'.ofTry ok, q⟩
    | brk =>
      obtain ⟨σ', H', J', q⟩ := hsp
      exact ⟨σ', H', J'.ofTry ok, q⟩
    | cont =>
      obtain ⟨σ', H', J', q⟩ := hsp
      exact ⟨σ', H', J'.ofTry ok, q⟩
    | ret u =>
      obtain ⟨v, σ', H', J', r, q⟩ := hsp
      exact ⟨v, σ', H', J'.ofTry ok, r, q⟩
  obtain ⟨a, B, sI, pins', σ', H', cls, d, rfl, J', nb, up, sky, na, os, ag, C, rfl, hb1, hyes⟩ := xx
  have J : Inv X pins σ' H' sI := J'.ofTry ok
  have sky' : Sky B (X.env :: X.outer) a (Zc (.ref C) d) X.env.locals s'.heap := by rw [← hs]; exact sky
  show wpAny (model X.prog X.w) X.A (noteFrame (.ref a) X.env) _ _ _
  refine Sky.land Zc.steady hfr hf sky' fun h3 fl3 up3 => ?_
  have J3 : Inv X pins σ' H' { s' with heap := h3 } := J.landed nb fl3.1 (up.trans up3) os ag
  obtain ⟨oe3, vs3, he3, hz3, hd3⟩ := fl3.there
  have nfr : a ∉ frs (X.env :: X.outer) := fun hm => by
    obtain ⟨_, o', e', hnf⟩ := fl3.2.2.1.mem hm
    rw [he3] at e'; cases e'
    exact hnf _ hd3
  have nL : a ≠ X.env.locals := fun z => nfr (List.mem_filterMap.mpr ⟨X.env, List.mem_cons_self, by rw [hf, z]⟩)
  have nF : a ∉ X.fs := fun hm => by
    obtain ⟨e, he, q⟩ := List.mem_filterMap.mp hm
    exact nfr (List.mem_filterMap.mpr ⟨e, List.mem_cons_of_mem _ he, q⟩)
  -- it is new to the state without it
  have nI : sI.heap.get? a = none := by
    cases e : sI.heap.get? a with
    | none => rfl
    | some o =>
      have z := nb a o e (by rw [hs]; exact nfr)
      rw [fl3.2.1] at z; cases z
  have n0 : X.s_0.heap.get? a = none := by
    cases e : X.s_0.heap.get? a with
    | none => rfl
    | some o =>
      obtain ⟨o', z⟩ := J.base.there a o e (by rw [hex]; exact fun z => nomatch z)
      rw [nI] at z; cases z
  have nP : ∀ p ∈ X.pn ++ pins, p.1 ≠ a := fun p hp z => by
    have e := (J.pin p hp).1
    rw [z, nI] at e; cases e
  have nC : ∀ y c', X.env.cells.lookup y = some c' → c' ≠ a := fun y c' q z => by
    obtain ⟨v, o, ho, _⟩ := J.cell y c' q
    rw [z, nI] at ho; cases ho
  have S3 := J3.suite he3 hd3 na nL nF
  refine wpAny_handleBy_cons (codeAny_handlers_test ?_) (by intro q; cases q)
  have LT : PySem.W.Looks (model X.prog X.w) h3 (typeOf (.ref a)) (.ref C) := fun A Q E s k q => wpAny_typeOf_ref (k _ _ he3) (by rw [hz3.1]; exact q)
  have LM := PySem.W.exm_one (M := model X.prog X.w) (J3.kIn) LT hb1
  have test : ∀ {Q : Value → Shared → Prop} {E : Value → Shared → Prop}, Q c { s' with heap := h3 } → wpAny (model X.prog X.w) (X.A.mark (some (.ref a))) (eval (.Name x np) X.env) Q E { s' with heap := h3 } := fun {Q E} q => by
    obtain ⟨hg, hdbg, hm | ⟨hm, hv, hnn⟩⟩ := hc
    · exact ld_glob (X := X.suite a ((a, oe3) :: (X.pn ++ pins))) S3 hg hm q hdbg
    · exact ld_blt (X := X.suite a ((a, oe3) :: (X.pn ++ pins))) S3 hg hm hv q hnn hdbg
  refine test (LM.here (codeAny_handlers_suite_as (HandSPX.lands_againZ fl3 fun h4 fl4 up4 => ?_)))
  have J4 : Inv X pins σ' H' { s' with heap := h4 } := J.landed nb fl4.1 ((up.trans up3).trans up4) os ag
  obtain ⟨oe4, vs4, he4, hz4, hd4⟩ := fl4.there
  have S4 := J4.suite he4 hd4 na nL nF
  refine store_ok (X := X.suite a ((a, oe4) :: (X.pn ++ pins))) (v := .ref a) S4 hN hi (.inl hln) rfl (fun s5 S5 => ?_) (.inr hln)
  refine wpAny_mono ((hsu a oe4 (X.pn ++ pins)).run [] s5 _ H' _ S5 (hyes a na)) (fun f s6 hsp => ?_) (fun _ _ z => False.elim z)
  cases f with
  | brk => obtain ⟨_, _, _, q⟩ := hsp; exact False.elim q
  | cont => obtain ⟨_, _, _, q⟩ := hsp; exact False.elim q
  | ret u => obtain ⟨_, _, _, _, _, q⟩ := hsp; exact False.elim q
  | next =>
    obtain ⟨σ6, H6, S6, q6⟩ := hsp
    have I6 : Inv X ((a, oe4) :: pins) σ6 H6 s6 := ⟨ok, S6.os, S6.bare, S6.base, S6.loc, S6.cell, S6.free, S6.freeC, fun p hp => S6.pin p (by
      rw [List.append_nil]
      rcases List.mem_append.mp hp with z | z
      · exact List.mem_cons_of_mem _ (List.mem_append_left _ z)
      · rcases List.mem_cons.mp z with z | z
        · rw [z]; exact List.mem_cons_self
        · exact List.mem_cons_of_mem _ (List.mem_append_right _ z)), S6.hok, S6.len⟩
    refine gone_ok I6 hN hi hln fun s7 I7 => ?_
    obtain ⟨p1, p2, _⟩ := I7.pin (a, oe4) (List.mem_append_right _ List.mem_cons_self)
    have I8 : Inv X pins (σ6.set i none) H6 s7 := ⟨ok, I7.os, I7.bare, I7.base, I7.loc, I7.cell, I7.free, I7.freeC, fun p hp => I7.pin p (by
      rcases List.mem_append.mp hp with z | z
      · exact List.mem_append_left _ z
      · exact List.mem_append_right _ (List.mem_cons_of_mem _ z)), I7.hok, I7.len⟩
    exact ⟨_, _, Inv_track I8 hex n0 p2 nL nC nP (xcO_ok p1 hz4 hd4), q6⟩
end
end DV
set_option Elab.async false
set_option linter.all false
set_option maxRecDepth 100000
set_option maxHeartbeats 4000000
namespace DV
open PySem PySem.Spec PyProof.Rows L2
open Evl (Ex)
/-! ### _law_caught(lambda: e) -/
/-- the def that calls what it gets, and gives back the error or None -/
def caughtB (p1 p2 p3 p4 p5 p6 p7 p8 p9 q1 q2 q3 q4 q5 q6 : Pos) (j1 : Nat) : List Stmt :=
  [.Assign [.Name "caught" p1] (.Constant .none j1 p2) p3, .Try [.Expr (.Call (.Name "work" p4) [] [] p5) p6] [.ExceptHandler (some (.Name "FindError" p7)) (some "error") [.Assign [.Name "caught" p8] (.Name "error" p9) q1] q2] [] [] q3, .Return (some (.Name "caught" q4)) q5]
def tCaught (T : List (Addr × PySem.Str)) (K : PySem.W.Frag) (FE : Addr) (t : XK → TE) : TE := fun σ H Q => LamX.Tabs T H ∧ ∀ H1, LG T H H1 → LamX.Tabs T H1 → ∀ (EX : XK) (QX : VK),
  (∀ cls d H', (∃ C, cls = .ref C ∧ PySem.W.exmOne K cls (.ref FE) = some true ∧ ∀ a, H' a = none → Q (.ref a) (upd H' a (XcO C d a))) → EX cls d H') → (∀ v H', Q .non H' → QX v H') → t EX σ H1 QX
theorem sc_nd : (["work", "caught", "error"] : List PySem.Str).Nodup := by decide +kernel
theorem pe_caught {X : Cx} {T : List (Addr × PySem.Str)} {g FE c P : Addr} {k : Nat} {st : Stmt} {fdg : FuncData} {params : Arguments} {body : Expr} {scope : Scope} {t : XK → TE} {p lpos pos : Pos} {p1 p2 p3 p4 p5 p6 p7 p8 p9 q1 q2 q3 q4 q5 q6 : Pos} {j1 : Nat}
    (F : Fun X.K "_law_caught" "_law_caught" st g fdg) (hB : defBody st = caughtB p1 p2 p3 p4 p5 p6 p7 p8 p9 q1 q2 q3 q4 q5 q6 j1) (Sg : FnScope ["work", "caught", "error"] ["work"] (defScope st)) (hb : L2.Binds X.K fdg ["work"] [])
    (l1 : (defScope st).names.lookup ("work" : PySem.Str) = some .local) (l2 : (defScope st).names.lookup ("caught" : PySem.Str) = some .local) (l3 : (defScope st).names.lookup ("error" : PySem.Str) = some .local) (l4 : (defScope st).names.lookup ("FindError" : PySem.Str) = some .globalImplicit) (hFE : X.mg "FindError" = some (.ref FE))
    (hg : Gl X "_law_caught") (hm : X.mg "_law_caught" = some (.ref g)) (TB : LamX.TabB X.base X.mg c P) (hcode : X.env.code = .ref c) (hmT : (P, X.env.qual ++ "<lambda>") ∈ T) (hu : ∀ p ∈ T, p.1 = P → p.2 = X.env.qual ++ "<lambda>") (hr : Room (k + 2) X.A) (hgd : X.A.guards = some [])
    (L : LamX.LamS X.env.scope scope) (hdef : defaultsOf params X.env = ([], [])) (hbind : ∀ (q : PySem.Str) (cl : List (PySem.Str × Addr)) (pm cv ctv : Value), bindArgs (PySem.W.kla_fn "<lambda>" q params body scope cl pm cv ctv) ⟨[], []⟩ = pure [])
    (hbody : ∀ (A : Around) (outer : List Env) (s : Shared) (H : Hp) (E : XK) (f c' : Addr), Room k (A.deeper (LamX.lamEnv X scope s.heap.objs.size f c')) → A.guards = some [] → PE (LamX.lamCx X A outer s H E scope f c') body (t E)) :
    PE X (.Call (.Name "_law_caught" p) [.Lambda params body scope lpos] [] pos) (tCaught T X.K FE t) := by
  refine ⟨fun pins s σ H Q I h => ?_⟩
  obtain ⟨hT, h⟩ := h
  refine wpAny_Call_Name_kw (ld_glob I hg hm ?_ (by decide))
  refine PySem.W.callWith_K (h₀ := X.base) I.ok.mod.kin F.kp ?_ (by rfl) (by rfl)
  show wpAny _ _ (spliced ((false, eval (.Lambda params body scope lpos) X.env) :: backTo pos (starEach [] X.env))) _ _ s
  refine Calls.spliced_cons (lam_new I TB hcode hmT hu hT hdef (L.has I.ok) fun f c' pm' ctv H1 s' I1 lg T1 hf hfn hfr hco => ?_)
  refine Calls.spliced_nil ⟨I1.kIn, ?_⟩
  have rc : codeAny (model X.prog X.w) X.A (.call (.ref g) ⟨[.ref f], []⟩) (CR (L2.CX X.prog X.w) X.stack X.prog X.w H1 s' Q fun _ _ _ => False) s' := by
    obtain ⟨oc, od, kV, doc, pm, an, cdv, ct, osl, rfl, lk, hcd⟩ := F.ex
    refine LamX.run_ofS (N := ["work", "caught", "error"]) (ps := ["work"]) (us := [.ref f]) (vs := [.ref f]) lk hcd Sg hr I1.env0 (hb s' [.ref f] I1.kIn rfl) (.cons rfl .nil) rfl fun hr' => ?_
    rw [hB]
    -- work(), in the try
    have act : ∀ (W : WX) (pn : List (Addr × Obj)) (xe : Value → Shared → Prop), Takes ((cxOf (L2.CX X.prog X.w) X.prog X.w X.K X.mg X.base ["work", "caught", "error"] "_law_caught" (defScope st) g cdv X.A X.stack s' H1 fun _ _ _ => False).tr pn xe) W →
        PE ((cxOf (L2.CX X.prog X.w) X.prog X.w X.K X.mg X.base ["work", "caught", "error"] "_law_caught" (defScope st) g cdv X.A X.stack s' H1 fun _ _ _ => False).tr pn xe) (.Call (.Name "work" p4) [] [] p5)
          (fun σZ HZ QZ => σZ[0]? = some (some (.ref f)) ∧ HZ c' = some (LamX.CodeO c' (X.env.qual ++ "<lambda>")) ∧ t (fun cls d H' => W cls d σZ H') σ HZ QZ) := by
      intro W pn xe tk
      refine ⟨fun pinsZ sZ σZ HZ QZ IZ ⟨hs, hc, ht⟩ => ?_⟩
      refine wpAny_Call_Name_kw (thn ((pe_var (pos := p4) (i := 0) (x := "work") rfl (.inl l1) (by decide) (by decide)).run pinsZ sZ σZ HZ (fun v H1 => v = .ref f ∧ H1 = HZ) IZ ⟨.ref f, hs, rfl, rfl⟩) fun u s1 ⟨v, H2, I2, r1, ev, eH⟩ => ?_)
      subst ev
      rw [eH] at I2
      obtain rfl : u = Value.ref f := r1
      have un : Un (frs X.stack) [] H1 HZ s'.heap s1.heap := I2.base
      have of1 := un.keep f _ hf hfn hfr (fun z => nomatch (show f ∈ ([] : List Addr) from z))
      refine PySem.W.callWith_F0 ⟨_, _, _, _, of1⟩ ?_
      have hr1 : Room (k + 1) (X.A.deeper (envOfC "_law_caught" (defScope st) s'.heap.objs.size g cdv)) := hr'
      have e1 : Env0 X.prog X.w X.K X.mg X.base (X.A.deeper (envOfC "_law_caught" (defScope st) s'.heap.objs.size g cdv)) (envOfC "_law_caught" (defScope st) s'.heap.objs.size g cdv :: X.stack) s1 HZ := I2.env0
      have rl := lam_run (Q := QZ) (E := fun cls d H' => W cls d σZ H') I1 L hf hfn hfr (hbind _ _ _ _ _) e1 un hr1 (hbody (X.A.deeper (envOfC "_law_caught" (defScope st) s'.heap.objs.size g cdv)) (envOfC "_law_caught" (defScope st) s'.heap.objs.size g cdv :: X.stack) s1 HZ (fun cls d H' => W cls d σZ H') f c' (hr1.deeper _) hgd) hc ht I2.nolimit
      refine wpAny_call (codeAny_mono rl fun r s2 hq => ?_)
      cases r with
      | error e => exact tk e s2 (XE.of_call I2 (fun _ _ _ z => z) hq)
      | ok fl =>
        cases fl with
        | ret u => exact I2.after hq
        | next => exact False.elim hq
        | brk => exact False.elim hq
        | cont => exact False.elim hq
    refine ⟨_, pss_cons (ps_set (i := 1) sc_nd rfl (.inl l2) (pe_non (j := j1) (pos := p2)) (by rfl) (.inl rfl))
      (pss_cons (ps_try_keep (i := 2) (x := "FindError") (n := "error") (c := .ref FE)
        (tb := fun W => tDrop (fun σZ HZ QZ => σZ[0]? = some (some (.ref f)) ∧ HZ c' = some (LamX.CodeO c' (X.env.qual ++ "<lambda>")) ∧ t (fun cls d H' => W cls d σZ H') σ HZ QZ)) (ts := fun a => tAsg (tVar 2) (gName 1))
        rfl rfl rfl sc_nd rfl l3 ⟨l4, by decide, .inl hFE⟩ (fun W pn xe tk _ => pss_one (ps_expr (act W pn xe tk) (by rfl))) (fun a oe pn => pss_one (ps_set (i := 1) sc_nd rfl (.inl l2) (pe_var (pos := p9) (i := 2) (x := "error") rfl (.inl l3) (by decide) (by decide)) (by rfl) (.inl rfl))))
      (pss_one (ps_ret (pe_var (pos := q4) (i := 1) (x := "caught") rfl (.inl l2) (by decide) (by decide))))), ?_⟩
    refine ⟨rfl, hco, h H1 lg T1 _ _ (fun cls d H' ⟨C, e1, e2, q⟩ => ⟨C, e1, e2, fun a na => ⟨.ref a, rfl, .ref a, rfl, q a na⟩⟩) (fun v H' q => ⟨.non, rfl, q⟩)⟩
  refine wpAny_call (codeAny_mono rc fun r s2 hq => ?_)
  cases r with
  | error e =>
    obtain ⟨_, _, _, _, _, _, _, _, _, _, _, _, z⟩ := hq
    exact z.elim
  | ok fl =>
    cases fl with
    | ret u => exact I1.after hq
    | next => exact False.elim hq
    | brk => exact False.elim hq
    | cont => exact False.elim hq
end DV
set_option Elab.async false
set_option linter.all false
set_option maxRecDepth 100000
set_option maxHeartbeats 4000000
namespace DV
open PySem PySem.Spec PyProof.Rows L2
open Evl (Ex)
/-! ### worlds in which lambdas are made -/
structure LamW (E : En) (T : List (Addr × PySem.Str)) : Prop where
  tabs : ∀ H g, E.R H g → LamX.Tabs T H
  sS : ∀ p ∈ T, E.S p.1
  keep : ∀ H H1 g, E.R H g → LG T H H1 → LamX.Tabs T H1 → E.R H1 g
theorem LG.gr {S : Addr → Prop} {T : List (Addr × PySem.Str)} {Hb H H1 : Hp} (h : LG T H H1) (e : Ex Hb H) (hd : ∀ a, S a → Hb a = none) (sS : ∀ p ∈ T, S p.1) : Gr S Hb H Hb H1 := by
  rcases h with rfl | ⟨P, c', q, ps, more, hm, hP, nC, rfl⟩
  · exact Gr.refl e
  · have g1 : Gr S Hb H Hb (upd H P (.tbl (ps ++ more))) := Gr.mutS e (hd P (sS _ hm)) (sS _ hm)
    exact g1.trans (Gr.newH g1.sub (by rw [upd_ne (ne_of_none hP nC).symm]; exact nC))
theorem LG.old {T : List (Addr × PySem.Str)} {H H1 : Hp} (h : LG T H H1) : ∀ a o, H a = some o → (∀ ps, o ≠ .tbl ps) → H1 a = some o := by
  intro a o e n
  rcases h with rfl | ⟨P, c', q, ps, more, hm, hP, nC, rfl⟩
  · exact e
  · rw [upd_ne (ne_of_none e nC), upd_ne (fun z => n ps (by rw [z, hP] at e; exact (Option.some.inj e).symm))]
    exact e
theorem lamW_T {P : Program} {w : World} {X : Tx} {base : Heap} {k : Nat} {T : List (Addr × PySem.Str)} : LamW ⟨P, w, X, base, k, wT T⟩ T :=
  ⟨fun H g h => h, fun p hp => ⟨p, hp, rfl⟩, fun H H1 g _ _ h => h⟩
theorem lamW_D {P : Program} {w : World} {K : PySem.W.Frag} {mg : PySem.Str → Option Value} {base : Heap} {k : Nat} {T : List (Addr × PySem.Str)} {ad l c : Addr} {cells : List Int} : LamW (ED P w K mg base k T ad l c cells) T :=
  ⟨fun H g h => DrawAt.ht h, fun p hp => .inr (.inr (.inr ⟨p, hp, rfl⟩)), fun H H1 g h lg t => ⟨lg.old _ _ (DrawAt.hd h) nofun, lg.old _ _ (DrawAt.hl h) nofun, lg.old _ _ (DrawAt.hc h) nofun, DrawAt.lc h, t⟩⟩
/-! ### _law_caught(lambda: e), told plainly -/
def catchD {G : Type} (Cs : List PySem.Str) (m : Out G D) : Out G D := match m with
  | .ok _ g => .ok .non g
  | .err (.exc c ns vs) g => if c ∈ Cs then .ok (.exc c ns vs) g else .stk
  | _ => .stk
@[simp] theorem catchD_ok {G : Type} (Cs : List PySem.Str) (d : D) (g : G) : catchD Cs (.ok d g) = .ok .non g := rfl
theorem catchD_err {G : Type} {Cs : List PySem.Str} {c : PySem.Str} {ns : List PySem.Str} {vs : List D} {g : G} (h : c ∈ Cs) : catchD Cs (.err (.exc c ns vs) g) = .ok (.exc c ns vs) g := if_pos h
/-- what is known of _law_caught and of the classes it catches -/
structure CaughtOk (K : PySem.W.Frag) (mg : PySem.Str → Option Value) (Cs : List PySem.Str) (g FE : Addr) (st : Stmt) (fdg : FuncData) : Prop where
  F : Fun K "_law_caught" "_law_caught" st g fdg
  hB : ∃ p1 p2 p3 p4 p5 p6 p7 p8 p9 q1 q2 q3 q4 q5 q6 j1, defBody st = caughtB p1 p2 p3 p4 p5 p6 p7 p8 p9 q1 q2 q3 q4 q5 q6 j1
  Sg : FnScope ["work", "caught", "error"] ["work"] (defScope st)
  hb : L2.Binds K fdg ["work"] []
  l1 : (defScope st).names.lookup ("work" : PySem.Str) = some .local
  l2 : (defScope st).names.lookup ("caught" : PySem.Str) = some .local
  l3 : (defScope st).names.lookup ("error" : PySem.Str) = some .local
  l4 : (defScope st).names.lookup ("FindError" : PySem.Str) = some .globalImplicit
  hFE : mg "FindError" = some (.ref FE)
  hm : mg "_law_caught" = some (.ref g)
  cs : ∀ c ∈ Cs, ∀ C, mg c = some (.ref C) → PySem.W.exmOne K (.ref C) (.ref FE) = some true
/-- what the maker must be -/
structure MakerOk (B : Bk) (E : En) (T : List (Addr × PySem.Str)) (scope : Scope) (params : Arguments) (body : Expr) : Prop where
  cq : ∃ c P q, B.cq = some (.ref c, q) ∧ LamX.TabB E.base E.T.mg c P ∧ (P, q ++ "<lambda>") ∈ T ∧ ∀ p ∈ T, p.1 = P → p.2 = q ++ "<lambda>"
  L : LamX.LamS B.sc scope
  dflt : ∀ env, defaultsOf params env = ([], [])
  bind : ∀ (q : PySem.Str) (cl : List (PySem.Str × Addr)) (pm cv ctv : Value), bindArgs (PySem.W.kla_fn "<lambda>" q params body scope cl pm cv ctv) ⟨[], []⟩ = pure []
/-- the block of a lambda -/
def Bk.lam (B : Bk) (scope : Scope) : Bk := ⟨B.N, scope, fun _ => false, none⟩
abbrev En.at (E : En) (j : Nat) : En := ⟨E.P, E.w, E.T, E.base, j, E.wd⟩
abbrev wE (E : XK) : WX := fun cls d _ H => E cls d H
theorem InC.lam {B : Bk} {E : En} {W : WX} {X : Cx} (c : InC B E W X) {scope : Scope} {A : Around} {outer : List Env} {s : Shared} {H : Hp} {XE : XK} {f c' : Addr} {j : Nat} (hr : Room j (A.deeper (LamX.lamEnv X scope s.heap.objs.size f c'))) (hg : A.guards = some []) :
    InC (B.lam scope) (E.at j) (wE XE) (LamX.lamCx X A outer s H XE scope f c') where
  hN := c.hN
  hs := rfl
  hfn := rfl
  hP := c.hP
  hw := c.hw
  hK := c.hK
  hmg := c.hmg
  hb := c.hb
  room := hr
  gd := hg
  calm := rfl
  tk := takes_of rfl rfl rfl rfl
  hcq := fun _ _ z => nomatch z
section
variable {B : Bk} {E : En} {W : WX} {RR : RRel}
/-- what an error is, seen from the catcher -/
theorem xr_caught {T : Tx} {Hb2 : Hp} {cv : Value} {dd : Option Addr} {c : PySem.Str} {ns : List PySem.Str} {vs : List D} (x : Xr T Hb2 cv dd (.exc c ns vs)) : ∃ C, cv = .ref C ∧ T.mg c = some (.ref C) ∧
    ∀ a, Hb2 a = none → Rp T (upd Hb2 a (XcO C dd a)) (.ref a) (.exc c ns vs) := by
  obtain ⟨c0, C, ns0, vs0, e, hm, hc, hx⟩ := x
  cases e
  refine ⟨C, hc, hm, fun a n => ?_⟩
  rcases hx with ⟨rfl, rfl, rfl⟩ | ⟨a0, fs, rfl, h1, h0, h2, h3⟩
  · exact .exc0 hm upd_same
  · have ne : a0 ≠ a := fun z => by rw [z, n] at h1; cases h1
    exact .exc1 hm upd_same (by rw [upd_ne ne]; exact h1) h0 h2 (h3.mono (Ex.new n))
theorem RE_caught {T : List (Addr × PySem.Str)} {Cs : List PySem.Str} {g FE : Addr} {st : Stmt} {fdg : FuncData} {j : Nat} {params : Arguments} {body : Expr} {scope : Scope} {p lpos pos : Pos} {f : Rho → E.G → Out E.G D} (C : CaughtOk E.T.K E.T.mg Cs g FE st fdg) (M : MakerOk B E T scope params body) (LW : LamW E T) (hj : j + 2 ≤ E.k)
    (hg : Gn B.sc "_law_caught") (h : ∀ XE : XK, RE (B.lam scope) (E.at j) (wE XE) body f) : RE B E W (.Call (.Name "_law_caught" p) [.Lambda params body scope lpos] [] pos) (fun ρ g => catchD Cs (f ρ g)) := by
  obtain ⟨t, ht⟩ : ∃ t : XK → TE, ∀ XE, (∀ X, InC (B.lam scope) (E.at j) (wE XE) X → PE X body (t XE)) ∧ ∀ σ ρ Hb H1 g Q, Pr (E.at j) σ ρ Hb H1 g → Post (E.at j) (wE XE) σ Hb H1 (okE (E.at j) Rs Hb H1 Q) (f ρ g) → t XE σ H1 Q :=
    ⟨fun XE => Classical.choose (h XE), fun XE => Classical.choose_spec (h XE)⟩
  obtain ⟨p1, p2, p3, p4, p5, p6, p7, p8, p9, q1, q2, q3, q4, q5, q6, j1, hB⟩ := C.hB
  obtain ⟨cc, P, qn, e1, TB, hmT, hu⟩ := M.cq
  refine ⟨tCaught T E.T.K FE t, fun X c => ?_, fun σ ρ Hb H1 g Q pr h => ?_⟩
  · obtain ⟨hcode, hqual⟩ := c.hcq _ _ e1
    have hp := pe_caught (X := X) (k := j) (t := t) (p := p) (lpos := lpos) (pos := pos) (by rw [c.hK]; exact C.F) hB C.Sg (by rw [c.hK]; exact C.hb) C.l1 C.l2 C.l3 C.l4 (by rw [c.hmg]; exact C.hFE) (by unfold Gl Env.kindOf; rw [c.hs]; exact hg) (by rw [c.hmg]; exact C.hm) (by rw [c.hb, c.hmg]; exact TB) hcode (by rw [hqual]; exact hmT) (by rw [hqual]; exact hu) (c.room.mono hj) c.gd
      (by rw [c.hs]; exact M.L) (M.dflt _) M.bind (fun A outer s H XE f c' hr hgd => (ht XE).1 _ (c.lam hr hgd))
    rw [c.hK] at hp
    exact hp
  · refine ⟨LW.tabs _ _ pr.r, fun H2 lg T2 EX QX hE hQ => ?_⟩
    have gr := lg.gr pr.ex pr.hd LW.sS
    have r2 := LW.keep _ _ _ pr.r lg T2
    have pr2 : Pr (E.at j) σ ρ Hb H2 g := ⟨pr.len, pr.sl, gr.sub, pr.hd, r2⟩
    refine (ht EX).2 σ ρ Hb H2 g QX pr2 ?_
    replace h : Post E W σ Hb H1 (okE E Rs Hb H1 Q) (catchD Cs (f ρ g)) := h
    generalize f ρ g = m at h
    cases m with
    | stk => exact h
    | ok d g1 => exact fun v Hb3 H3 g3 r3 x => hQ v H3 (h _ Hb3 H3 (gr.trans g3) r3 .non)
    | err e g1 =>
      cases e <;> first | exact False.elim h | skip
      rename_i c0 ns vs
      simp only [catchD] at h
      split at h
      · rename_i hc
        intro cv dd Hb3 H3 g3 r3 x
        obtain ⟨C0, hcv, hm, hr⟩ := xr_caught x
        exact hE cv dd H3 ⟨C0, hcv, by rw [hcv]; exact C.cs c0 hc C0 hm, fun a na => h _ _ _ (gr.trans (g3.trans (Gr.new g3.sub na))) (R_new r3 na) (hr a (Evl.fresh_back g3.sub na))⟩
      · exact False.elim h
/-- x = _law_caught(lambda: y.append(e)), y a list that its name holds alone -/
def appCaught {G : Type} (Cs : List PySem.Str) (ρ : Rho) (i : Nat) (ds : List D) (m : Out G D) : Out G (D × Rho) := match m with
  | .ok d g => if ds.length < sizeLine then .ok (.non, ρ.set i (some (.lst (ds ++ [d])))) g else .stk
  | .err (.exc c ns vs) g => if c ∈ Cs then .ok (.exc c ns vs, ρ) g else .stk
  | _ => .stk
theorem RS_caughtApp {OB O O' : List Nat} {T : List (Addr × PySem.Str)} {Cs : List PySem.Str} {g FE : Addr} {st : Stmt} {fdg : FuncData} {j : Nat} {params : Arguments} {e : Expr} {scope : Scope} {x y : PySem.Str} {px py apos cpos p lpos kpos pos : Pos} {f : Rho → E.G → Out E.G D} {i iy : Nat} (O1 : List Nat)
    (C : CaughtOk E.T.K E.T.mg Cs g FE st fdg) (M : MakerOk B E T scope params (.Call (.Attribute (.Name y py) "append" apos) [e] [] cpos)) (LW : LamW E T) (hj : j + 2 ≤ E.k) (hg : Gn B.sc "_law_caught")
    (h : ∀ XE : XK, RE (B.lam scope) (E.at j) (wE XE) e f) (h1 : ∀ k ∈ O1, k ∈ O) (hO : iy ∈ O1) (h2 : ∀ k ∈ O', k ∈ O1 ∧ k ≠ i) (hne : i ≠ iy)
    (hN : B.N[iy]? = some y := by rfl) (hv : Vis scope y := by first | exact Or.inl rfl | exact Or.inr (Or.inl rfl) | exact Or.inr (Or.inr rfl)) (hd : (y == ("__debug__" : PySem.Str)) = false := by decide) (hcd : (y == ("__classdict__" : PySem.Str)) = false := by decide)
    (hab : ∀ env, attributeBase (.Name y py) "append" env (eval (.Name y py) env) = eval (.Name y py) env := by intro _; rfl)
    (hbm : ∀ env, ((backTo cpos (starEach [e] env)).all (fun x => !x.1) && (backToKw cpos (keywordEach [] env)).all (fun x => x.1.isSome) && decide ([e].length + ([] : List Keyword).length + (if ([] : List Keyword).isEmpty = true then 0 else 1) < 30)) = true := by intro _; rfl)
    (hln : (apos.endLine == cpos.line) = true := by rfl) (hst : ∀ env, starEach [e] env = (false, eval e env) :: starEach [] env := by intro _; rfl) (hpl : ∀ env, ((backTo cpos (starEach [] env)).any (·.1)) = false := by intro _; rfl)
    (hnd : B.N.Nodup) (hi : B.N[i]? = some x := by rfl) (hl : Loc B.sc x := by first | exact Or.inl rfl | exact Or.inr rfl) (hf : B.fn x = true ∨ B.sc.names.lookup x = some .local := by first | exact Or.inr rfl | exact Or.inl rfl)
    (hs : ∀ env, swapsWith (.Call (.Name "_law_caught" p) [.Lambda params (.Call (.Attribute (.Name y py) "append" apos) [e] [] cpos) scope lpos] [] kpos) (some (.Name x px)) pos.line env = pure false := by intro _; rfl) :
    RS B E W RR OB O O' (.Assign [.Name x px] (.Call (.Name "_law_caught" p) [.Lambda params (.Call (.Attribute (.Name y py) "append" apos) [e] [] cpos) scope lpos] [] kpos) pos) (fun ρ g => bnd (lstAt ρ iy g) fun ds g => bnd (appCaught Cs ρ iy ds (f (msk ρ O1) g)) fun q g => .ok (.nx (q.2.set i (some q.1))) g) := by
  obtain ⟨t, ht⟩ : ∃ t : XK → TE, ∀ XE, (∀ X, InC (B.lam scope) (E.at j) (wE XE) X → PE X e (t XE)) ∧ ∀ σ ρ Hb H1 g Q, Pr (E.at j) σ ρ Hb H1 g → Post (E.at j) (wE XE) σ Hb H1 (okE (E.at j) Rs Hb H1 Q) (f ρ g) → t XE σ H1 Q :=
    ⟨fun XE => Classical.choose (h XE), fun XE => Classical.choose_spec (h XE)⟩
  obtain ⟨p1, p2, p3, p4, p5, p6, p7, p8, p9, q1, q2, q3, q4, q5, q6, j1, hB⟩ := C.hB
  obtain ⟨cc, P, qn, e1, TB, hmT, hu⟩ := M.cq
  refine ⟨tAsg (tCaught T E.T.K FE fun XE => tBM E.T.K "list" rAppend (tVar iy) (tCons (t XE) tNil)) (gName i), fun X c => ?_, fun Hb0 H0 σ ρ Hb H g Z s r h => ?_⟩
  · obtain ⟨hcode, hqual⟩ := c.hcq _ _ e1
    have hp := pe_caught (X := X) (k := j) (t := fun XE => tBM E.T.K "list" rAppend (tVar iy) (tCons (t XE) tNil)) (p := p) (lpos := lpos) (pos := kpos) (by rw [c.hK]; exact C.F) hB C.Sg (by rw [c.hK]; exact C.hb) C.l1 C.l2 C.l3 C.l4 (by rw [c.hmg]; exact C.hFE) (by unfold Gl Env.kindOf; rw [c.hs]; exact hg) (by rw [c.hmg]; exact C.hm) (by rw [c.hb, c.hmg]; exact TB) hcode (by rw [hqual]; exact hmT) (by rw [hqual]; exact hu) (c.room.mono hj) c.gd
      (by rw [c.hs]; exact M.L) (M.dflt _) M.bind (fun A outer s H XE f c' hr hgd => by
        have cl := c.toInC.lam (scope := scope) (A := A) (outer := outer) (s := s) (H := H) (XE := XE) (f := f) (c' := c') hr hgd
        have hb := pe_bm (apos := apos) (cpos := cpos) PySem.F.plainAttrs_list PySem.F.slot_list_append PySem.F.type_list_append mt_append (pe_var (X := LamX.lamCx X A outer s H XE scope f c') (i := iy) (pos := py) (by rw [cl.hN]; exact hN) (by rw [cl.hs]; exact hv) hd hcd) (pa_cons ((ht XE).1 _ cl) pa_nil (hst _)) (hab _) (hbm _) hln (hst _) (hpl _)
        rw [cl.hK] at hb
        exact hb)
    rw [c.hK] at hp
    exact ps_set (by rw [c.hN]; exact hnd) (by rw [c.hN]; exact hi) (by rw [c.hs]; exact hl) hp (hs _) (by rw [c.hfn, c.hs]; exact hf)
  · obtain ⟨Hb1, _, s1⟩ := s.keepL h1
    try dsimp only at h
    rcases lstAt_cases ρ iy g with ⟨ds, qy, ey⟩ | ey
    rotate_left
    · rw [ey] at h; exact False.elim h
    rw [ey] at h
    simp only [bnd_ok] at h
    refine ⟨LW.tabs _ _ r, fun H2 lg T2 EX QX hE hQ => ?_⟩
    have gr := lg.gr s1.gr.sub s1.hd LW.sS
    have r2 := LW.keep _ _ _ r lg T2
    have s2 := s1.step gr
    obtain ⟨v, hv1, ⟨hfl, _⟩ | ⟨a, rfl, _, w1, w2, w3⟩⟩ := s2.ow iy _ hO qy
    · cases hfl
    rcases w3 with ⟨xs, ds2, e3, e2, rr⟩ | ⟨_, _, _, e3, _⟩
    rotate_left
    · cases e3
    cases e3
    have pr := s2.prM r2
    have pr2 : Pr (E.at j) σ (msk ρ O1) Hb1 H2 g := ⟨pr.len, pr.sl, pr.ex, pr.hd, r2⟩
    refine ⟨_, hv1, .inl ⟨rfl, xs, Evl.sq_of e2⟩, (ht EX).2 σ (msk ρ O1) Hb1 H2 g _ pr2 ?_⟩
    generalize f (msk ρ O1) g = m at h
    -- the name is set at the end
    have fin : ∀ {q : D × Rho} {g1 : E.G} {v : V} {Hb3 H3 : Hp}, PostS E W RR Hb0 H0 OB O' Z (.ok (.nx (q.2.set i (some q.1))) g1) → SE E Hb0 H0 (mem O1) q.2 σ Hb3 H3 → E.R H3 g1 → Rp E.T Hb3 v q.1 → Z.nx (σ.set i (some v)) H3 := fun h s r x => by
      have s5 := s.set (i := i) (O' := fun k => mem O1 k ∧ k ≠ i) x fun k => Iff.rfl
      obtain ⟨Hb6, _, s6⟩ := s5.keep (O' := mem O') h2
      exact h _ Hb6 _ s6 r
    cases m with
    | stk => exact h
    | ok d g1 =>
      intro v Hb3 H3 g3 r3 x
      have s3 := s2.step g3
      obtain ⟨v', hv2, ⟨hfl, _⟩ | ⟨a', rfl, _, w1', w2', w3⟩⟩ := s3.ow iy _ hO qy
      · cases hfl
      rw [hv1] at hv2
      cases hv2
      rcases w3 with ⟨xs', ds3, e3, e2', rr'⟩ | ⟨_, _, _, e3, _⟩
      rotate_left
      · cases e3
      cases e3
      simp only [appCaught] at h
      split at h
      · rename_i hlt
        have s4 := s3.app (es := ds ++ [d]) (ys := xs' ++ [v]) qy hv1 hO w1' w2' e2' (rr'.append (.cons x .nil))
        exact ⟨a, xs', v, rfl, rfl, e2', by rw [rr'.length]; exact hlt, hQ _ _ (fin (q := (.non, ρ.set iy (some (.lst (ds ++ [d]))))) h s4 (R_mut r3 (fun z => s3.s0 a z w1') e2' fun φ => nofun) .non)⟩
      · exact False.elim h
    | err e g1 =>
      cases e <;> first | exact False.elim h | skip
      rename_i c0 ns vs
      simp only [appCaught] at h
      split at h
      · rename_i hc
        intro cv dd Hb3 H3 g3 r3 x
        obtain ⟨C0, hcv, hm, hr⟩ := xr_caught x
        refine hE cv dd H3 ⟨C0, hcv, by rw [hcv]; exact C.cs c0 hc C0 hm, fun a na => ?_⟩
        have s3 := s2.step (g3.trans (Gr.new (o := XcO C0 dd a) g3.sub na))
        exact fin (q := (.exc c0 ns vs, ρ)) h s3 (R_new r3 na) (hr a (Evl.fresh_back g3.sub na))
      · exact False.elim h
end
end DV
set_option Elab.async false
set_option linter.all false
set_option maxRecDepth 100000
set_option maxHeartbeats 4000000
namespace DV
open PySem PySem.Spec PyProof.Rows L2
open Evl (Ex)
/-! ### isinstance of what was caught -/
def rIsX (K : PySem.W.Frag) (Cl : Addr) : List V → Hp → VK → Prop := fun xs H Q => ∃ x, xs = [x, .ref Cl] ∧ ((x = .non ∧ PySem.W.kitOne K (.type "NoneType") (.ref Cl) = some false ∧ Q (.bl false) H) ∨
  ∃ a C b, x = .ref a ∧ H a = some (XcO C none a) ∧ ExcC K C ∧ PySem.W.kitOne K (.ref C) (.ref Cl) = some b ∧ Q (.bl b) H)
theorem call_isX {X : Cx} {Cl : Addr} : CallR X (.builtin "isinstance") (rIsX X.K Cl) := by
  intro pins s σ H xs us Q I r h
  obtain ⟨x, rfl, h⟩ := h
  obtain ⟨u1, u2, rfl, r1, r2⟩ := vals2 r
  cases (show u2 = Value.ref Cl from r2)
  rcases h with ⟨rfl, e, q⟩ | ⟨a, C, b, rfl, ha, EC, e, q⟩
  · cases (show u1 = Value.none from r1)
    exact isinst_ok (x := .non) I rfl .non e fun tk => ⟨.bl false, H, I.tok _, rfl, q⟩
  · cases (show u1 = Value.ref a from r1)
    obtain ⟨⟨oe, vs, h1, hz, hv⟩, _⟩ := I.hok a _ ha
    have J : PySem.W.InstAt s.heap a oe C none := by
      obtain ⟨oc, od, oda, osl⟩ := oe
      obtain ⟨h2, h3⟩ := hz
      dsimp only at h2 h3 hv
      subst h2 h3 hv
      exact ⟨h1, rfl, rfl, trivial⟩
    exact PySem.W.kia_one (PySem.W.handS_kitx_exc EC.hg EC.hk EC.hs EC.hd EC.ha EC.hn EC.ht EC.hm) I.kIn J e (fun z => nomatch z) fun tk => ⟨.bl b, H, I.kept (t' := tk) fun _ _ z => z, rfl, q⟩
/-- what the classes say of each other -/
structure IsTab (K : PySem.W.Frag) (mg : PySem.Str → Option Value) (Cl : Addr) (tab : List (PySem.Str × Bool)) : Prop where
  non : PySem.W.kitOne K (.type "NoneType") (.ref Cl) = some false
  is : ∀ c b, tab.lookup c = some b → ∀ C, mg c = some (.ref C) → ExcC K C ∧ PySem.W.kitOne K (.ref C) (.ref Cl) = some b
def isX (tab : List (PySem.Str × Bool)) (d : D) : Option D := match d with
  | .non => some (.bl false)
  | .exc c [] [] => (tab.lookup c).map .bl
  | _ => none
@[simp] theorem isX_non (tab : List (PySem.Str × Bool)) : isX tab .non = some (.bl false) := rfl
theorem isX_exc {tab : List (PySem.Str × Bool)} {c : PySem.Str} {b : Bool} (h : tab.lookup c = some b) : isX tab (.exc c [] []) = some (.bl b) := by simp only [isX, h, Option.map_some]
section
variable {B : Bk} {E : En} {W : WX}
theorem RE_isX {e : Expr} {x : PySem.Str} {p px pos : Pos} {Cl : Addr} {tab : List (PySem.Str × Bool)} {f : Rho → E.G → Out E.G D} (TB : IsTab E.T.K E.T.mg Cl tab) (h : RE B E W e f) (hg : Gn B.sc "isinstance") (hm : E.T.mg "isinstance" = none) (hgx : Gn B.sc x) (hmx : E.T.mg x = some (.ref Cl)) (hd : (x == ("__debug__" : PySem.Str)) = false := by decide)
    (he : ∀ env, starEach [e, .Name x px] env = (false, eval e env) :: starEach [.Name x px] env := by intro _; rfl) (hpl : ∀ env, (backTo pos (starEach [.Name x px] env)).any (·.1) = false := by intro _; rfl) :
    RE B E W (.Call (.Name "isinstance" p) [e, .Name x px] [] pos) (fun ρ g => bnd (f ρ g) fun d g => opt (isX tab d) g) := by
  obtain ⟨t, pt, q⟩ := h
  refine ⟨tCB (rIsX E.T.K Cl) (tCons t (tCons (tC (.ref Cl)) tNil)), fun X c => pe_callB (by have := call_isX (X := X) (Cl := Cl); rw [c.hK] at this; exact this) (by unfold Gl Env.kindOf; rw [c.hs]; exact hg) (by rw [c.hmg]; exact hm) boot_isinstance (pa_cons (pt X c) (pa_cons (pe_glob (v := .ref Cl) (by unfold Gl Env.kindOf; rw [c.hs]; exact hgx) (by rw [c.hmg]; exact hmx) rfl hd) pa_nil (by rfl)) (he _)) (by decide) (by decide) (he _) (hpl _), fun σ ρ Hb H1 g Q pr h => q σ ρ Hb H1 g _ pr (h.bnd fun d g1 k v Hb2 H2 gr r x => ?_)⟩
  cases x <;> first | exact False.elim k | skip
  · exact ⟨_, rfl, .inl ⟨rfl, TB.non, k _ Hb2 H2 gr r (.bl _)⟩⟩
  · rename_i a C c hm2 ha
    cases hl : tab.lookup c with
    | none => simp only [isX, hl] at k; exact False.elim k
    | some b =>
      rw [isX_exc hl] at k
      obtain ⟨EC, kt⟩ := TB.is c b hl C hm2
      exact ⟨_, rfl, .inr ⟨a, C, b, rfl, gr.sub _ _ ha, EC, kt, k _ Hb2 H2 gr r (.bl _)⟩⟩
  · rename_i a C dd c fs ns vs hm2 ha hdd hne hns hr
    cases ns with
    | nil =>
      cases fs with
      | nil => exact absurd rfl hne
      | cons _ _ => cases hns
    | cons _ _ => exact False.elim k
end
end DV
set_option Elab.async false
set_option linter.all false
set_option maxRecDepth 100000
set_option maxHeartbeats 4000000
namespace DV
open PySem PySem.Spec PyProof.Rows L2
/-! ### plain lemmas -/
section
variable {G : Type}
theorem compD_filter {parts : D → Option (List D)} {is : List Nat} {fc : Rho → G → Out G Bool} {fe : Rho → G → Out G D} {ρ : Rho} {g : G} (p : D → Bool) (F : D → D) : ∀ {ds : List D}, (∀ d ∈ ds, ∃ es, parts d = some es ∧ fc (setAll ρ is es) g = .ok (p d) g ∧ (p d = true → fe (setAll ρ is es) g = .ok (F d) g)) →
    compD parts is fc fe ρ ds g = .ok ((ds.filter p).map F) g
  | [], _ => rfl
  | d :: r, h => by
    obtain ⟨es, h1, h2, h3⟩ := h d List.mem_cons_self
    have ih := compD_filter (ds := r) p F fun x hx => h x (List.mem_cons_of_mem _ hx)
    unfold compD
    rw [h1]
    simp only [h2, bndN_ok]
    cases hp : p d with
    | true => simp only [h3 hp, bndN_ok, ih, bnd_ok]; rw [List.filter_cons_of_pos hp]; rfl
    | false => simp only [ih]; rw [List.filter_cons_of_neg (by rw [hp]; exact Bool.false_ne_true)]
theorem compD_map {parts : D → Option (List D)} {is : List Nat} {fc : Rho → G → Out G Bool} {fe : Rho → G → Out G D} {ρ : Rho} {g : G} (F : D → D) {ds : List D} (h : ∀ d ∈ ds, ∃ es, parts d = some es ∧ fc (setAll ρ is es) g = .ok true g ∧ fe (setAll ρ is es) g = .ok (F d) g) :
    compD parts is fc fe ρ ds g = .ok (ds.map F) g := by
  have := compD_filter (fun _ => true) F (ds := ds) fun d hd => by
    obtain ⟨es, h1, h2, h3⟩ := h d hd
    exact ⟨es, h1, h2, fun _ => h3⟩
  rw [this, List.filter_eq_self.mpr fun _ _ => rfl]
/-- with a world that changes -/
theorem compD_run {parts : D → Option (List D)} {is : List Nat} {fc : Rho → G → Out G Bool} {fe : Rho → G → Out G D} {ρ : Rho} (Ok : List D → G → Prop) (h0 : ∀ g, Ok [] g) : ∀ {ds : List D} {g : G} (Y : D → D → Prop), (∀ d ∈ ds, ∀ g, ∃ es y g', parts d = some es ∧ fc (setAll ρ is es) g = .ok true g ∧ fe (setAll ρ is es) g = .ok y g' ∧ Y d y) →
    ∃ ys g', compD parts is fc fe ρ ds g = .ok ys g' ∧ ys.length = ds.length ∧ ∀ y ∈ ys, ∃ d ∈ ds, Y d y
  | [], g, Y, _ => ⟨[], g, rfl, rfl, fun y hy => by cases hy⟩
  | d :: r, g, Y, h => by
    obtain ⟨es, y, g', h1, h2, h3, h4⟩ := h d List.mem_cons_self g
    obtain ⟨ys, g2, e, hl, hy⟩ := compD_run Ok h0 (ds := r) (g := g') Y fun x hx => h x (List.mem_cons_of_mem _ hx)
    refine ⟨y :: ys, g2, ?_, by rw [List.length_cons, List.length_cons, hl], fun z hz => ?_⟩
    · unfold compD
      rw [h1]
      simp only [h2, bndN_ok, h3, e, bnd_ok]
    · rcases List.mem_cons.mp hz with z | z
      · subst z; exact ⟨d, List.mem_cons_self, h4⟩
      · obtain ⟨d', h5, h6⟩ := hy _ z
        exact ⟨d', List.mem_cons_of_mem _ h5, h6⟩
end
theorem kb {a b : String} {r : Bool} (h : kitB a b = some r) {d : D} (hd : tyNm d = some a) : isTy b d = some (.bl r) := by
  unfold isTy; rw [hd]; simp only [h, Option.map_some]
@[simp] theorem ty_str_str (s : PySem.Str) : isTy "str" (.str s) = some (.bl true) := kb (a := "str") (by decide +kernel) rfl
@[simp] theorem ty_str_non : isTy "str" .non = some (.bl false) := kb (a := "NoneType") (by decide +kernel) rfl
@[simp] theorem ty_str_bl (b : Bool) : isTy "str" (.bl b) = some (.bl false) := kb (a := "bool") (by decide +kernel) rfl
@[simp] theorem ty_str_int (b : Int) : isTy "str" (.int b) = some (.bl false) := kb (a := "int") (by decide +kernel) rfl
@[simp] theorem ty_str_lst (b : List D) : isTy "str" (.lst b) = some (.bl false) := kb (a := "list") (by decide +kernel) rfl
@[simp] theorem ty_str_tup (b : List D) : isTy "str" (.tup b) = some (.bl false) := kb (a := "tuple") (by decide +kernel) rfl
@[simp] theorem ty_str_dct (a b : List D) : isTy "str" (.dct a b) = some (.bl false) := kb (a := "dict") (by decide +kernel) rfl
theorem kbs {a : String} {bs : List String} {r : Bool} (h : kitBs a bs = some r) {d : D} (hd : tyNm d = some a) : isTys bs d = some (.bl r) := by
  unfold isTys; rw [hd]; simp only [h, Option.map_some]
@[simp] theorem ty_lt_str (s : PySem.Str) : isTys ["list", "tuple"] (.str s) = some (.bl false) := kbs (a := "str") (by decide +kernel) rfl
@[simp] theorem ty_lt_non : isTys ["list", "tuple"] .non = some (.bl false) := kbs (a := "NoneType") (by decide +kernel) rfl
@[simp] theorem ty_lt_bl (b : Bool) : isTys ["list", "tuple"] (.bl b) = some (.bl false) := kbs (a := "bool") (by decide +kernel) rfl
@[simp] theorem ty_lt_int (b : Int) : isTys ["list", "tuple"] (.int b) = some (.bl false) := kbs (a := "int") (by decide +kernel) rfl
@[simp] theorem ty_lt_lst (b : List D) : isTys ["list", "tuple"] (.lst b) = some (.bl true) := kbs (a := "list") (by decide +kernel) rfl
@[simp] theorem ty_lt_tup (b : List D) : isTys ["list", "tuple"] (.tup b) = some (.bl true) := kbs (a := "tuple") (by decide +kernel) rfl
@[simp] theorem ty_lt_dct (a b : List D) : isTys ["list", "tuple"] (.dct a b) = some (.bl false) := kbs (a := "dict") (by decide +kernel) rfl
theorem signs_length (s : PySem.Str) : (signs s).length = s.length := by unfold signs; rw [List.length_map, Array.length_toList]; rfl
theorem mem_signs {s : PySem.Str} {d : D} (h : d ∈ signs s) : ∃ c, c ∈ s.cps.toList ∧ d = .str ⟨#[c]⟩ := by
  unfold signs at h
  obtain ⟨c, h1, h2⟩ := List.mem_map.mp h
  exact ⟨c, h1, h2.symm⟩
theorem sz {n : Nat} (h : n ≤ 100000) : (n ≤ sizeLine) = True := eq_true (Evl.sz_of h)
section
variable {G : Type} {N : List PySem.Str} {d0 d1 d2 d3 d4 : D} {ds : List D} {g : G}
@[simp] theorem get0 : getR (startR N (d0 :: ds)) 0 g = .ok d0 g := rfl
@[simp] theorem get1 : getR (startR N (d0 :: d1 :: ds)) 1 g = .ok d1 g := rfl
@[simp] theorem get2 : getR (startR N (d0 :: d1 :: d2 :: ds)) 2 g = .ok d2 g := rfl
@[simp] theorem get3 : getR (startR N (d0 :: d1 :: d2 :: d3 :: ds)) 3 g = .ok d3 g := rfl
theorem lenD_str {s : PySem.Str} (h : s.length ≤ 100000) : lenD [.str s] = some (.int s.length) := if_pos (Evl.sz_of h)
@[simp] theorem lenD_lst {s : List D} : lenD [.lst s] = some (.int s.length) := rfl
@[simp] theorem lenD_tup {s : List D} : lenD [.tup s] = some (.int s.length) := rfl
@[simp] theorem semI_le (i j : Int) : semI tru2 (fun i j => D.bl (decide (i ≤ j))) (.int i) (.int j) g = .ok (.bl (decide (i ≤ j))) g := rfl
@[simp] theorem semI_lt (i j : Int) : semI tru2 (fun i j => D.bl (decide (i < j))) (.int i) (.int j) g = .ok (.bl (decide (i < j))) g := rfl
end
theorem allD_map {α : Type} (l : List α) (F : α → D) (p : α → Bool) (h : ∀ a ∈ l, F a = .bl (p a)) : allD [.lst (l.map F)] = some (.bl (l.all p)) := by
  have e : l.map F = (l.map p).map D.bl := by rw [List.map_map]; exact List.map_congr_left h
  rw [e]
  show (blsD ((l.map p).map D.bl)).map (fun bs => D.bl (bs.all id)) = _
  rw [blsD_map]
  simp [List.all_map]
section
variable {G : Type} (b c : Bool) (g : G)
theorem andV_k : andV (.ok (.bl b) g) (fun _ => .ok (.bl c) g) = .ok (.bl (b && c)) g := by cases b <;> rfl
theorem orV_k : orV (.ok (.bl b) g) (fun _ => .ok (.bl c) g) = .ok (.bl (b || c)) g := by cases b <;> rfl
theorem andO_k : andO (.ok b g) (fun _ => .ok c g) = .ok (b && c) g := by cases b <;> rfl
theorem orO_k : orO (.ok b g) (fun _ => .ok c g) = .ok (b || c) g := by cases b <;> rfl
theorem chO_k : chO (.ok (.bl b) g) (fun _ => .ok (.bl c) g) = .ok (.bl (b && c)) g := by cases b <;> rfl
end
theorem bnd_bnd {G α β γ : Type} (m : Out G α) (k : α → G → Out G β) (l : β → G → Out G γ) : bnd (bnd m k) l = bnd m fun a g => bnd (k a g) l := by cases m <;> rfl
@[simp] theorem lenN1 {G : Type} (d : D) (k : Out G D) : lenN 1 [d] k = k := rfl
@[simp] theorem lenN2 {G : Type} (d e : D) (k : Out G D) : lenN 2 [d, e] k = k := rfl
@[simp] theorem lenN3 {G : Type} (d e f : D) (k : Out G D) : lenN 3 [d, e, f] k = k := rfl
theorem get_set1 {G : Type} {ρ : Rho} {i : Nat} {d : D} {g : G} (h : i < ρ.length) : getR (setAll (wipeR ρ [i]) [i] [d]) i g = .ok d g := by
  simp only [setAll_cons, setAll_nil, wipeR, getR]
  rw [List.getElem?_set_self (by rw [List.length_set]; exact h)]
end DV
set_option Elab.async false
set_option linter.all false
set_option maxRecDepth 100000
set_option maxHeartbeats 4000000
namespace DV
open PySem PySem.Spec PyProof.Rows L2
/-! ### comparisons as tests -/
section
variable {B : Bk} {E : En} {W : WX} {pos : Pos}
theorem RT_cmp {a b : Expr} {fa fb : Rho → E.G → Out E.G D} {op : CmpOp} {r : R2} {sem : D → D → E.G → Out E.G D} (ho : ∀ X, InC B E W X → OpR X (compareOp op) r) (hs : Sem2 E Rs r sem) (ha : RE B E W a fa) (hb : RE B E W b fb)
    (hm : behindInMarks op b = false) : RT B E W (.Compare a [op] [b] pos) (fun ρ g => bnd (bnd (fa ρ g) fun x g => bnd (fb ρ g) fun y g => sem x y g) asB) := by
  obtain ⟨ta, pa, ea⟩ := ha
  obtain ⟨tb, pb, eb⟩ := hb
  refine ⟨_, fun X c => pt_cmpR (ho X c) (pa X c) (pb X c) hm, fun σ ρ Hb H1 g Q pr h => tOp_post rs_back hs ea eb σ ρ Hb H1 g _ pr (Post.bnd h fun d g1 k v Hb2 H2 gr r x => ?_)⟩
  unfold asB at k
  cases x <;> first | exact False.elim k | exact ⟨_, rfl, k _ _ gr r⟩
theorem sem_eqX : Sem2 E Rs (fun x y H Q => rEq x y H Q ∨ rEqD E.T.K x y H Q) (fun x y g => opt (eqX false x y) g) := fun x y v u W σ Hb H1 g Q e hd r rx ry h => by
  dsimp only at h
  unfold eqX at h
  cases hs : scalD x y with
  | some b =>
    rw [hs] at h
    obtain ⟨h1, h2⟩ := scal_ok rx ry hs
    subst h2
    exact .inl ⟨h1, h _ Hb H1 (Gr.refl e) r (.bl _)⟩
  | none =>
    rw [hs] at h
    exact .inr (sem_eqD rs_flat rfl x y v u W σ Hb H1 g Q e hd r rx ry h)
theorem sem_neX : Sem2 E Rs (fun x y H Q => rNe x y H Q ∨ rNeD E.T.K x y H Q) (fun x y g => opt (eqX true x y) g) := fun x y v u W σ Hb H1 g Q e hd r rx ry h => by
  dsimp only at h
  unfold eqX at h
  cases hs : scalD x y with
  | some b =>
    rw [hs] at h
    obtain ⟨h1, h2⟩ := scal_ok rx ry hs
    subst h2
    exact .inl ⟨h1, h _ Hb H1 (Gr.refl e) r (.bl _)⟩
  | none =>
    rw [hs] at h
    exact .inr (sem_neD x y v u W σ Hb H1 g Q e hd r rx ry h)
theorem RT_eqX {a b : Expr} {fa fb : Rho → E.G → Out E.G D} (ha : RE B E W a fa) (hb : RE B E W b fb) (hm : behindInMarks .Eq b = false := by rfl) : RT B E W (.Compare a [.Eq] [b] pos) (fun ρ g => bnd (bnd (fa ρ g) fun x g => bnd (fb ρ g) fun y g => opt (eqX false x y) g) asB) :=
  RT_cmp (fun X c => (op_eq (X := X)).or (by have := op_eqD (X := X) (by have := c.un; omega); rw [c.hK] at this; exact this)) sem_eqX ha hb hm
theorem RT_neX {a b : Expr} {fa fb : Rho → E.G → Out E.G D} (ha : RE B E W a fa) (hb : RE B E W b fb) (hm : behindInMarks .NotEq b = false := by rfl) : RT B E W (.Compare a [.NotEq] [b] pos) (fun ρ g => bnd (bnd (fa ρ g) fun x g => bnd (fb ρ g) fun y g => opt (eqX true x y) g) asB) :=
  RT_cmp (fun X c => (op_ne (X := X)).or (by have := op_neD (X := X) (by have := c.un; omega); rw [c.hK] at this; exact this)) sem_neX ha hb hm
theorem RT_inS {a b : Expr} {fa fb : Rho → E.G → Out E.G D} (ha : RE B E W a fa) (hb : RE B E W b fb) (hm : behindInMarks .In b = false := by rfl) : RT B E W (.Compare a [.In] [b] pos) (fun ρ g => bnd (bnd (fa ρ g) fun x g => bnd (fb ρ g) fun y g => inSign false x y g) asB) :=
  RT_cmp (fun X _ => op_in_sign) (fun x y v u W σ Hb H1 g Q e hd r rx ry h => inSign_post (neg := false) e r rx ry h) ha hb hm
theorem RT_notInS {a b : Expr} {fa fb : Rho → E.G → Out E.G D} (ha : RE B E W a fa) (hb : RE B E W b fb) (hm : behindInMarks .NotIn b = false := by rfl) : RT B E W (.Compare a [.NotIn] [b] pos) (fun ρ g => bnd (bnd (fa ρ g) fun x g => bnd (fb ρ g) fun y g => inSign true x y g) asB) :=
  RT_cmp (fun X _ => op_notIn_sign) (fun x y v u W σ Hb H1 g Q e hd r rx ry h => inSign_post (neg := true) e r rx ry h) ha hb hm
theorem RT_isN {a : Expr} {pos' : Pos} {j : Nat} {f : Rho → E.G → Out E.G D} (h : RE B E W a f) : RT B E W (.Compare a [.Is] [.Constant .none j pos'] pos) (fun ρ g => bnd (f ρ g) fun d g => .ok (isNonD d) g) := by
  obtain ⟨t, p, q⟩ := h
  refine ⟨_, fun X c => pt_cmp (pc_isN (p X c)), fun σ ρ Hb H1 g Q pr h => q σ ρ Hb H1 g _ pr (h.bnd fun d g1 k v Hb2 H2 gr r x => ?_)⟩
  have e : decide (v = .non) = isNonD d := by cases x <;> rfl
  exact ⟨_, rfl, by rw [e]; exact k _ _ gr r⟩
theorem RT_notN {a : Expr} {pos' : Pos} {j : Nat} {f : Rho → E.G → Out E.G D} (h : RE B E W a f) : RT B E W (.Compare a [.IsNot] [.Constant .none j pos'] pos) (fun ρ g => bnd (f ρ g) fun d g => .ok (!isNonD d) g) := by
  obtain ⟨t, p, q⟩ := h
  refine ⟨_, fun X c => pt_cmp (pc_notN (p X c)), fun σ ρ Hb H1 g Q pr h => q σ ρ Hb H1 g _ pr (h.bnd fun d g1 k v Hb2 H2 gr r x => ?_)⟩
  have e : decide (v = .non) = isNonD d := by cases x <;> rfl
  exact ⟨_, rfl, by rw [e]; exact k _ _ gr r⟩
end
/-! ### loops, plainly -/
section
variable {G : Type}
def Nx (X : Out G Fl) (g : G) (P : Rho → Prop) : Prop := ∃ ρ, X = .ok (.nx ρ) g ∧ P ρ
theorem Nx.mono {X : Out G Fl} {g : G} {P Q : Rho → Prop} (h : Nx X g P) (hk : ∀ ρ, P ρ → Q ρ) : Nx X g Q := by
  obtain ⟨ρ, e, p⟩ := h
  exact ⟨ρ, e, hk ρ p⟩
theorem Nx.ok {ρ : Rho} {g : G} {P : Rho → Prop} (h : P ρ) : Nx (.ok (.nx ρ) g) g P := ⟨ρ, rfl, h⟩
theorem Nx.seq {X : Out G Fl} {g : G} {P Q : Rho → Prop} {k : Rho → G → Out G Fl} (h : Nx X g P) (hk : ∀ ρ, P ρ → Nx (k ρ g) g Q) : Nx (seqF X k) g Q := by
  obtain ⟨ρ, e, p⟩ := h
  rw [e]; exact hk ρ p
theorem Nx.le {X : Out G Fl} {g : G} {P : Rho → Prop} {F : Out G D} {k : Rho → G → Out G Fl} (h : Nx X g P) (hk : ∀ ρ, P ρ → Le F (retF (k ρ g))) : Le F (retF (seqF X k)) := by
  obtain ⟨ρ, e, p⟩ := h
  rw [e]; exact hk ρ p
theorem Nx.for_ {α β : Type} {is : List Nat} {fb : Rho → G → Out G Fl} {g : G} (emb : α → D) (st : β → Rho → Prop) (step : β → α → β) : ∀ (items : List α) (b : β) (ρ : Rho), st b ρ → (∀ b a ρ, a ∈ items → st b ρ → Nx (fb (setAll ρ is [emb a]) g) g (st (step b a))) →
    Nx (forD oneD is fb (items.map emb) ρ g) g (st (items.foldl step b))
  | [], b, ρ, h0, _ => ⟨ρ, rfl, h0⟩
  | a :: r, b, ρ, h0, h => by
    obtain ⟨ρ', e, p⟩ := h b a ρ List.mem_cons_self h0
    rw [List.map_cons]
    unfold forD
    show Nx (loopF (fb (setAll ρ is [emb a]) g) _) g _
    rw [e]
    exact Nx.for_ emb st step r (step b a) ρ' p fun b a' ρ ha => h b a' ρ (List.mem_cons_of_mem _ ha)
theorem getR_z {d : D} {ρ : Rho} {g : G} : getR (some d :: ρ) 0 g = .ok d g := rfl
theorem getR_s {o : Option D} {ρ : Rho} {i : Nat} {g : G} : getR (o :: ρ) (i + 1) g = getR ρ i g := rfl
end
theorem bMul_r {i j : Int} (h : -(2 ^ 64) < j) (h2 : j < 2 ^ 64) : bMul i j = true := by unfold bMul; rw [decide_eq_true (⟨h, h2⟩ : -(2 ^ 64) < j ∧ j < 2 ^ 64), Bool.or_true]
/-! ### step by step: what stands first is reckoned first (for simp: with an arrow down) -/
section
variable {G β : Type} {d : D} {o : Option D} {ρ : Rho} {i : Nat} {g : G}
theorem bz {k : D → G → Out G β} : bnd (getR (some d :: ρ) 0 g) k = k d g := rfl
theorem bs {k : D → G → Out G β} : bnd (getR (o :: ρ) (i + 1) g) k = bnd (getR ρ i g) k := rfl
theorem b_asS {s : PySem.Str} {k : PySem.Str → G → Out G β} : bnd (asS (.str s) g) k = k s g := rfl
theorem b_asI {j : Int} {k : Option Int → G → Out G β} : bnd (asI (.int j) g) k = k (some j) g := rfl
theorem bnd_of {α : Type} {m : Out G α} {a : α} {g2 : G} {k : α → G → Out G β} (h : m = .ok a g2) : bnd m k = k a g2 := by rw [h]; rfl
end
end DV
set_option Elab.async false
set_option linter.all false
set_option maxRecDepth 100000
set_option maxHeartbeats 4000000
namespace DV
open PySem PySem.Spec PyProof.Rows L2
/-! ### the end: a law whose promise knows that no repr is under way -/
/-- the heap as the law meets it: the script (unless the module holds it) and the tables are tracked -/
structure Start (P : Program) (w : World) (K : PySem.W.Frag) (cs : List (Addr × Addr)) (a : Addr) (ns : List Int) (h : Heap) (H : Hp) : Prop where
  tab : ∀ p ∈ cs, H p.2 = some (.tbl #[])
  only : ∀ b, H b = none ∨ b ∈ cs.map (·.2) ∨ ∃ o xs, H b = some (.frz o (.lst xs))
  sq : SqL K H a (ns.map V.int)
  ok : HOk P w H h
  at_ : ∀ b, H b ≠ none → b = a ∨ b ∈ cs.map (·.2)
  nk : H a ≠ none → K.lookup a = none
section
variable {P : Program} {w : World} {K : PySem.W.Frag} {mg mb : PySem.Str → Option Value} {cs : List (Addr × Addr)} {a : Addr} {ns : List Int} {vs : List Value} {s₁ : Shared}
theorem start_of (KX : K.In s₁.heap) (hT : ∀ p ∈ cs, s₁.heap.get? p.2 = some { cls := .none, data := .fields #[] }) (ha : s₁.heap.get? a = some { cls := .type "list", data := .seq vs.toArray }) (hi : IntsAre vs ns) (hl : ns.length ≤ sizeLine) : ∃ H, Start P w K cs a ns s₁.heap H := by
  have rv := vals_ints hi
  have lenV := hi.length
  have isT : ∀ b : Addr, b ∈ cs.map (·.2) → s₁.heap.get? b = some { cls := .none, data := .fields #[] } := fun b hb => by
    obtain ⟨p, hp, e⟩ := List.mem_map.mp hb
    rw [← e]
    exact hT p hp
  have aT : a ∉ cs.map (·.2) := fun z => by
    have q := isT a z
    rw [ha] at q
    have z' : Data.seq vs.toArray _ = Data.fields #[] := congrArg Obj.data (Option.some.inj q)
    cases z'
  have memT : ∀ p ∈ cs, p.2 ∈ cs.map (·.2) := fun p hp => List.mem_map.mpr ⟨p, hp, rfl⟩
  cases hk : K.lookup a with
  | some o =>
    have e := KX a o hk
    rw [ha] at e
    cases e
    refine ⟨fun b => if b ∈ cs.map (·.2) then some (.tbl #[]) else none, fun p hp => if_pos (memT p hp), fun b => ?_, .inr ⟨_, vs.toArray, _, hk, rfl, rfl, rfl, by rw [List.size_toArray, lenV]; exact hl, by simpa using rv⟩, fun b u z => ?_, fun b z => ?_, fun z => absurd (show (if a ∈ cs.map (·.2) then some (HO.tbl #[]) else none) = none from if_neg aT) z⟩
    · by_cases hb : b ∈ cs.map (·.2)
      · exact .inr (.inl hb)
      · exact .inl (if_neg hb)
    · by_cases hb : b ∈ cs.map (·.2)
      · cases (if_pos hb).symm.trans z
        exact isT b hb
      · cases (if_neg hb).symm.trans z
    · by_cases hb : b ∈ cs.map (·.2)
      · exact .inr hb
      · exact absurd (if_neg hb) z
  | none =>
    refine ⟨fun b => if b = a then some (.frz { cls := .type "list", data := .seq vs.toArray } (.lst (ns.map V.int))) else if b ∈ cs.map (·.2) then some (.tbl #[]) else none, fun p hp => (if_neg (show ¬ p.2 = a from fun z => aT (by rw [← z]; exact memT p hp))).trans (if_pos (memT p hp)), fun b => ?_,
      .inl (.inr ⟨{ cls := .type "list", data := .seq vs.toArray }, if_pos rfl⟩), fun b u z => ?_, fun b z => ?_, fun _ => hk⟩
    · by_cases hb : b = a
      · exact .inr (.inr ⟨_, _, if_pos hb⟩)
      · by_cases hb2 : b ∈ cs.map (·.2)
        · exact .inr (.inl hb2)
        · exact .inl ((if_neg hb).trans (if_neg hb2))
    · by_cases hb : b = a
      · cases (if_pos hb).symm.trans z
        rw [hb]
        exact ⟨ha, by rw [List.length_map]; exact hl, vs, _, rv, ha⟩
      · have z1 := (if_neg hb).symm.trans z
        by_cases hb2 : b ∈ cs.map (·.2)
        · cases (if_pos hb2).symm.trans z1
          exact isT b hb2
        · cases (if_neg hb2).symm.trans z1
    · by_cases hb : b = a
      · exact .inl hb
      · by_cases hb2 : b ∈ cs.map (·.2)
        · exact .inr hb2
        · exact absurd ((if_neg hb).trans (if_neg hb2)) z
theorem law_callG {fa : Addr} {fd : FuncData} {x : PySem.Str} {sp : Sp} {k : Nat} (KX : K.In s₁.heap) (hns : s₁.heap.Ns mainGlobals mg) (hb : s₁.heap.Ns builtinsNs mb) (hbb : ∀ x : PySem.Str, x ≠ "__name__" → mb x = bootBuiltins x) (hlim : s₁.heap.NoLimit) (hg : s₁.gens = #[])
    (hT : ∀ p ∈ cs, s₁.heap.get? p.2 = some { cls := .none, data := .fields #[] }) (nT : ∀ p ∈ cs, K.lookup p.2 = none) (C : ∀ p ∈ cs, PySem.W.CodeHd s₁.heap p.1 p.2)
    (hbm : ∃ (bm : Addr) (ob : Obj), mg "__builtins__" = some (.ref bm) ∧ bm ≠ builtinsNs ∧ s₁.heap.get? bm = some ob ∧ ob.cls = .type "module" ∧ ob.dict = some builtinsNs ∧ ob.data = .plain)
    (ha : s₁.heap.get? a = some { cls := .type "list", data := .seq vs.toArray }) (hi : IntsAre vs ns) (hl : ns.length ≤ sizeLine) (hr : Room k callerA)
    (F : ∀ base : Heap, K.In base → base.Ns mainGlobals mg → (∀ p ∈ cs, LamX.TabB base mg p.1 p.2) → FnG P w K mg base k fa fd [x] sp) (hbind : ∀ (s : Shared) (u : Value), BindsTo s fd ⟨[u], []⟩ [(x, u)])
    (hsp : ∀ H : Hp, (∀ p ∈ cs, H p.2 = some (.tbl #[])) → SqL K H a (ns.map V.int) → sp [.ref a] H (fun v _ => v = .bl true) fun _ _ _ => False) :
    codeAny (model P w) callerA (.call (.ref fa) ⟨[.ref a], []⟩) (fun r s' => r = .ok (.ret (.bool true)) ∧ OldK s₁.heap s'.heap ∧ s'.os = s₁.os ∧ AllBare s'.gens) s₁ := by
  obtain ⟨H, S⟩ := start_of (P := P) (w := w) KX hT ha hi hl
  have isT : ∀ b : Addr, b ∈ cs.map (·.2) → s₁.heap.get? b = some { cls := .none, data := .fields #[] } := fun b hb => by
    obtain ⟨p, hp, e⟩ := List.mem_map.mp hb
    rw [← e]
    exact hT p hp
  have base_of : ∀ {b : Addr} {o : Obj}, s₁.heap.get? b = some o → H b = none → (hidT s₁.heap H).get? b = some o := fun e n => hidT_get e n
  have noD : ∀ {b : Addr} {o : Obj}, s₁.heap.get? b = some o → (∀ vs n, o.data ≠ .seq vs n) → o.data ≠ .fields #[] → H b = none := fun {b o} e h1 h2 => by
    cases q : H b with
    | none => rfl
    | some u =>
      rcases S.at_ b (by rw [q]; simp) with e' | e'
      · rw [e', ha] at e
        cases e
        exact (h1 _ _ rfl).elim
      · rw [isT b e'] at e
        cases e
        exact (h2 rfl).elim
  have noA : ∀ {b : Addr} {o : Obj} {es : Array DictEntry} {ep : Nat}, s₁.heap.get? b = some o → o.data = .dict es ep → H b = none := fun {b o es ep} e d => noD e (fun vs n z => by rw [d] at z; cases z) fun z => by rw [d] at z; cases z
  have nsK : ∀ {b : Addr} {m : PySem.Str → Option Value}, s₁.heap.Ns b m → (hidT s₁.heap H).Ns b m := fun {b m} ⟨o, es, ep, e, d, r⟩ => ⟨o, es, ep, base_of e (noA e d), d, r⟩
  have hKb : K.In (hidT s₁.heap H) := fun b o e => base_of (KX b o e) (by
    cases q : H b with
    | none => rfl
    | some u =>
      rcases S.at_ b (by rw [q]; simp) with e' | e'
      · rw [e'] at e q
        rw [S.nk (by rw [q]; simp)] at e
        cases e
      · obtain ⟨p, hp, ep⟩ := List.mem_map.mp e'
        rw [← ep, nT p hp] at e
        cases e)
  have hM : L2.Mod K mg (hidT s₁.heap H) := ⟨hKb, nsK hns, ⟨mb, nsK hb, hbb⟩, let ⟨mc, h1, h2⟩ := hlim; ⟨mc, nsK h1, h2⟩⟩
  have TB : ∀ p ∈ cs, LamX.TabB (hidT s₁.heap H) mg p.1 p.2 := fun p hp => by
    have hTp := hT p hp
    refine ⟨?_, ?_, fun z => ?_⟩
    · obtain ⟨o, us, file, tf, flags, tg, inF, text, tt, e1, r1, r2, r3, r4, r5, r6, r7, r8, hne⟩ := C p hp
      refine ⟨o, us, file, tf, flags, tg, inF, text, tt, base_of e1 (noD e1 (fun vs n z => by rw [r2] at z; cases z) fun z => ?_), r1, r2, r3, r4, r5, r6, r7, r8, hne⟩
      rw [r2] at z
      cases z
      simp at r3
    · obtain ⟨bm, ob, b1, b2, b3, b4, b5, b6⟩ := hbm
      have nG : bm ≠ mainGlobals := fun q => by
        obtain ⟨o, es, ep, e, hd, _⟩ := hns
        rw [q, e] at b3
        cases b3
        rw [hd] at b6
        cases b6
      have nP : bm ≠ p.2 := fun q => by
        rw [q, hTp] at b3
        cases b3
        cases b6
      exact ⟨bm, ob, b1, b2, nG, nP, base_of b3 (noD b3 (fun vs n z => by rw [b6] at z; cases z) fun z => by rw [b6] at z; cases z), b4, b5, b6⟩
    · obtain ⟨o, es, ep, e, hd, _⟩ := hns
      rw [z, hTp] at e
      cases e
      cases hd
  have e0 : Env0 P w K mg (hidT s₁.heap H) callerA [] s₁ H := ⟨rfl, hM, fun b o e => of_hidT e, Nat.le_of_eq (hidT_size _ _), trivial, fun b hb => absurd (show b ∈ ([] : List Addr) from hb) (by simp), S.ok, .of_eq hg⟩
  refine codeAny_mono ((F _ hKb (nsK hns) TB).run callerA [] s₁ H ⟨[.ref a], []⟩ [.ref a] [.ref a] _ _ hr rfl e0 (hbind s₁ (.ref a)) (.cons rfl .nil) (hsp H S.tab S.sq)) fun r s' h => ?_
  cases r with
  | error e =>
    obtain ⟨_, _, _, _, _, _, _, _, _, _, _, _, z⟩ := h
    exact z.elim
  | ok fl =>
    cases fl with
    | next => exact False.elim h
    | brk => exact False.elim h
    | cont => exact False.elim h
    | ret u =>
      obtain ⟨v, H', os, bare, un, hok', r', q⟩ := h
      have q' : v = .bl true := q
      subst q'
      obtain rfl : u = Value.bool true := r'
      have key : ∀ b o, b ∉ cs.map (·.2) → s₁.heap.get? b = some o → s'.heap.get? b = some o := fun b o nb e => by
        cases q : H b with
        | none => exact un.keep b o e q (by intro z; exact absurd (show b ∈ ([] : List Addr) from z) (by simp)) (by simp)
        | some u =>
          rcases S.only b with z | z | ⟨ob, xs, z⟩
          · rw [q] at z; cases z
          · exact absurd z nb
          · obtain ⟨e1, _⟩ := S.ok b _ z
            obtain ⟨e2, _⟩ := hok' b _ (un.frzs b ob _ z)
            rw [e] at e1; cases e1
            exact e2
      have grown : ∀ p ∈ cs, ∃ more : Array Value, s'.heap.get? p.2 = some { cls := .none, data := .fields more } := fun p hp => by
        obtain ⟨more, z⟩ := un.tbls p.2 #[] (S.tab p hp)
        exact ⟨_, hok' p.2 _ z⟩
      refine ⟨rfl, ⟨fun b o e => ?_, fun b o e => ?_⟩, os, bare⟩
      · by_cases hb : b ∈ cs.map (·.2)
        · obtain ⟨p, hp, ep⟩ := List.mem_map.mp hb
          obtain ⟨more, hm⟩ := grown p hp
          rw [← ep] at e ⊢
          rw [hT p hp] at e
          cases e
          exact .inr (.inl ⟨((C p hp).tab (hT p hp)).isCodeTable, rfl, #[], more, rfl, by rw [Array.empty_append]; exact hm⟩)
        · exact .inl (key b o hb e)
      · by_cases hb : b ∈ cs.map (·.2)
        · obtain ⟨p, hp, ep⟩ := List.mem_map.mp hb
          obtain ⟨more, hm⟩ := grown p hp
          rw [← ep]
          exact ⟨_, hm⟩
        · exact ⟨o, key b o hb e⟩
end
/-- what is known of the law's promise at the head's heap h -/
def LawAtG (l : PySem.W.OpenLaw) (w : World) (K : PySem.W.Frag) (k n : Nat) (x : PySem.Str) (mg : PySem.Str → Option Value) (fa : Addr) (h : Heap) : Prop :=
  ∃ (fd : FuncData) (cs : List (Addr × Addr)) (sp : Sp), (∀ p ∈ cs, h.get? p.2 = some { cls := .none, data := .fields #[] }) ∧ (∀ p ∈ cs, K.lookup p.2 = none) ∧ (∀ p ∈ cs, PySem.W.CodeHd h p.1 p.2) ∧ (∀ (s : Shared) (u : Value), BindsTo s fd ⟨[u], []⟩ [(x, u)]) ∧
    (∀ (H : Hp) (a : Addr) (ns : List Int), ns.length ≤ n → (∀ p ∈ cs, H p.2 = some (.tbl #[])) → SqL K H a (ns.map V.int) → sp [.ref a] H (fun v _ => v = .bl true) fun _ _ _ => False) ∧
    ∀ base : Heap, K.In base → base.Ns mainGlobals mg → (∀ p ∈ cs, LamX.TabB base mg p.1 p.2) → FnG l.prog w K mg base k fa fd [x] sp
theorem walk_G {l : PySem.W.OpenLaw} {n k : Nat} {q : Program} {loose : List PySem.Str} {XP : (PySem.Str → Option Value) → Heap → Prop} {YP : World → Heap → Prop} {d : DefRec} {K : Params → PySem.W.Frag} {x : PySem.Str}
    (hn : l.most = some n) (hn2 : n ≤ sizeLine) (hdf : d.params.defaults = []) (hr : Room k callerA) (hY : ∀ (w : World) (h : Heap), YP w h → (K w.params).In h)
    (F : ∀ (w : World) (mg : PySem.Str → Option Value) (fa : Addr) (h : Heap), YP w h → (K w.params).In h → h.Ns mainGlobals mg → mg d.name = some (.ref fa) → LawAtG l w (K w.params) k n x mg fa h) :
    PySem.W.WalkO q loose XP YP l.row.toRowW d [] (fun f vs => PySem.call f vs) := by
  refine Att.attach_callB hn hdf fun w s₀ s₁ mg mb fa o pm cd doc a vs ns G Y ho hd hcd hmg hobj hints hlen hbits hg => ?_
  have KX := hY w _ Y
  obtain ⟨fd, cs, sp, hT, nT, C, hb, hsp, hF⟩ := F w mg fa _ Y KX G.T.g hmg
  exact law_callG KX G.T.g G.T.b G.T.builtins G.T.nolimit hg hT nT C G.T.bmain hobj hints (Nat.le_trans hlen hn2) hr hF hb fun H hH hS => hsp H a ns hlen hH hS
end DV
set_option Elab.async false
set_option linter.all false
set_option maxRecDepth 100000
set_option maxHeartbeats 1000000
namespace DV
open PySem PySem.Spec PyProof.Rows L2 TL
/-! ### texts, plainly -/
/-- only signs that are signs -/
def sgT (s : PySem.Str) : Prop := ∀ c ∈ tl s, c < 0x110000
theorem sgT_append {a b : PySem.Str} (ha : sgT a) (hb : sgT b) : sgT (a ++ b) := fun c hc => by
  rw [tl_append] at hc
  exact (List.mem_append.mp hc).elim (ha c) (hb c)
theorem sgT_sub {a b : PySem.Str} (h : ∀ c ∈ tl b, c ∈ tl a) (ha : sgT a) : sgT b := fun c hc => ha c (h c hc)
theorem tl_cut (z : PySem.Str) (lo hi : Option Int) : tl (cutS z lo hi) = ((tl z).drop (HT.sIx z.length 0 lo)).take (HT.sIx z.length z.length hi - HT.sIx z.length 0 lo) := rfl
theorem cut_mem {z : PySem.Str} {lo hi : Option Int} : ∀ c ∈ tl (cutS z lo hi), c ∈ tl z := fun c hc => List.mem_of_mem_drop (List.mem_of_mem_take hc)
theorem cut_len (z : PySem.Str) (lo hi : Option Int) : (cutS z lo hi).length ≤ z.length := by
  rw [len_tl, tl_cut, len_tl z, List.length_take, List.length_drop]; omega
theorem len_append (a b : PySem.Str) : (a ++ b).length = a.length + b.length := by rw [len_tl, tl_append, List.length_append, ← len_tl, ← len_tl]
theorem joinL_sub {S : List Nat} : ∀ {parts : List (List Nat)} {p : List Nat}, p ∈ parts → (∀ c ∈ p, c ∈ joinL S parts) ∧ p.length ≤ (joinL S parts).length
  | [q], p, h => by
    rw [List.mem_singleton.mp h]
    exact ⟨fun _ hc => hc, Nat.le_refl _⟩
  | q :: r :: l, p, h => by
    show (∀ c ∈ p, c ∈ q ++ (S ++ joinL S (r :: l))) ∧ p.length ≤ (q ++ (S ++ joinL S (r :: l))).length
    rw [List.length_append, List.length_append]
    rcases List.mem_cons.mp h with rfl | h
    · exact ⟨fun c hc => List.mem_append_left _ hc, by omega⟩
    · obtain ⟨h1, h2⟩ := joinL_sub (S := S) h
      exact ⟨fun c hc => List.mem_append_right _ (List.mem_append_right _ (h1 c hc)), by omega⟩
theorem joinL_cnt {S : List Nat} (hS : S.length = 1) : ∀ parts : List (List Nat), parts.length ≤ (joinL S parts).length + 1
  | [] => Nat.zero_le _
  | [q] => by show 1 ≤ q.length + 1; omega
  | q :: r :: l => by
    have ih := joinL_cnt hS (r :: l)
    show (r :: l).length + 1 ≤ (q ++ (S ++ joinL S (r :: l))).length + 1
    rw [List.length_append, List.length_append, hS]
    omega
theorem joinL_mem {S : List Nat} {c : Nat} : ∀ {parts : List (List Nat)}, c ∈ joinL S parts → c ∈ S ∨ ∃ p ∈ parts, c ∈ p
  | [q], h => .inr ⟨q, List.mem_singleton.mpr rfl, h⟩
  | q :: r :: l, h => by
    have h' : c ∈ q ++ (S ++ joinL S (r :: l)) := h
    rcases List.mem_append.mp h' with h | h
    · exact .inr ⟨q, List.mem_cons_self, h⟩
    · rcases List.mem_append.mp h with h | h
      · exact .inl h
      · rcases joinL_mem h with h | ⟨p, hp, hc⟩
        · exact .inl h
        · exact .inr ⟨p, List.mem_cons_of_mem _ hp, hc⟩
theorem joinL_len {S : List Nat} (n : Nat) : ∀ {parts : List (List Nat)}, (∀ p ∈ parts, p.length ≤ n) → (joinL S parts).length ≤ parts.length * (n + S.length)
  | [], _ => Nat.zero_le _
  | [q], h => by
    have := h q List.mem_cons_self
    show q.length ≤ 1 * (n + S.length)
    omega
  | q :: r :: l, h => by
    have ih := joinL_len n (S := S) (parts := r :: l) fun p hp => h p (List.mem_cons_of_mem _ hp)
    have := h q List.mem_cons_self
    show (q ++ (S ++ joinL S (r :: l))).length ≤ (r :: l).length.succ * (n + S.length)
    rw [List.length_append, List.length_append, Nat.succ_mul]
    omega
theorem split_parts (x y : PySem.Str) : joinL (tl y) ((Txt.split x y).map tl) = tl x := by rw [← tl_join, StrLaws.join_split]
theorem split_mem {x y p : PySem.Str} (h : p ∈ Txt.split x y) : (∀ c ∈ tl p, c ∈ tl x) ∧ p.length ≤ x.length := by
  have := joinL_sub (S := tl y) (List.mem_map.mpr ⟨p, h, rfl⟩ : tl p ∈ (Txt.split x y).map tl)
  rw [split_parts] at this
  rw [len_tl, len_tl x]
  exact this
theorem split_cnt {x y : PySem.Str} (hy : (tl y).length = 1) : (Txt.split x y).length ≤ x.length + 1 := by
  have := joinL_cnt hy ((Txt.split x y).map tl)
  rw [split_parts, List.length_map, ← len_tl] at this
  exact this
/-! ### repr, how long -/
mutual
def rl : PyData → Nat
  | .none => 4
  | .bool _ => 5
  | .int i => (toString i : PySem.Str).length
  | .str x => 10 * x.length + 2
  | .list xs => 2 + rlA xs
  | .tuple xs => 3 + rlA xs
  | .dict _ => 0
def rlA : List PyData → Nat
  | [] => 0
  | x :: r => rl x + 2 + rlA r
end
theorem listText_le : ∀ ts : List PySem.Str, (listText ts).length ≤ 2 + piled ts
  | [] => by decide +kernel
  | t :: r => by
    have h := textFrom_length_pos r 1 (("[" : Str) ++ (if (0 : Nat) > 0 then ", " else "" : String) ++ t) (Nat.succ_pos 0)
    have e : ((("[" : Str) ++ (if (0 : Nat) > 0 then ", " else "" : String) ++ t)).length = 1 + t.length := by
      rw [strLen_append, strLen_append]; rfl
    have hX : (listText (t :: r)).length = (textFrom 0 "[" (t :: r)).length + 1 := by
      show (textFrom 0 "[" (t :: r) ++ "]").length = _
      rw [strLen_append]; rfl
    have hY : (textFrom 0 "[" (t :: r)).length = (textFrom 1 (("[" : Str) ++ (if (0 : Nat) > 0 then ", " else "" : String) ++ t) r).length := rfl
    rw [hX, hY, h, e, piled_cons]; omega
theorem tupleText_le (ts : List PySem.Str) : (tupleText ts).length ≤ 3 + piled ts := by
  unfold tupleText
  rw [strLen_append, strLen_append]
  have h1 : (Str.join ", " ts).length ≤ piled ts := by
    by_cases h : ts = []
    · subst h; decide +kernel
    · have := join_length_add ts h; omega
  have h2 : ((if ts.length == 1 then ",)" else ")" : String) : PySem.Str).length ≤ 2 := by split <;> decide +kernel
  have h3 : ("(" : PySem.Str).length = 1 := by decide +kernel
  omega
mutual
def okP : PyData → Prop
  | .str x => sgT x
  | .list xs => okPA xs
  | .tuple xs => okPA xs
  | .dict _ => False
  | _ => True
def okPA : List PyData → Prop
  | [] => True
  | x :: r => okP x ∧ okPA r
end
mutual
theorem shown_le : ∀ {p : PyData}, okP p → p.shown.length ≤ rl p
  | .none, _ => by show ("None" : PySem.Str).length ≤ 4; decide +kernel
  | .bool b, _ => by cases b <;> decide +kernel
  | .int i, _ => Nat.le_refl _
  | .str x, h => by
    simp only [okP] at h
    show (reprText x).length ≤ 10 * x.length + 2
    exact StrLaws.reprText_len x fun c hc => Nat.lt_of_lt_of_le (h c hc) (by decide : 0x110000 ≤ 16 ^ 8)
  | .list xs, h => by
    simp only [okP] at h
    have h1 := shownA_le h
    have h2 := listText_le (PyData.shownAll xs)
    show (listText (PyData.shownAll xs)).length ≤ 2 + rlA xs
    omega
  | .tuple xs, h => by
    simp only [okP] at h
    have h1 := shownA_le h
    have h2 := tupleText_le (PyData.shownAll xs)
    show (tupleText (PyData.shownAll xs)).length ≤ 3 + rlA xs
    omega
  | .dict _, h => by simp only [okP] at h
theorem shownA_le : ∀ {ps : List PyData}, okPA ps → piled (PyData.shownAll ps) ≤ rlA ps
  | [], _ => Nat.le_refl _
  | x :: r, h => by
    simp only [okPA] at h
    have h1 := shown_le h.1
    have h2 := shownA_le h.2
    simp only [PyData.shownAll, piled_cons, rlA]
    omega
end
mutual
theorem noDict_of : ∀ {p : PyData}, okP p → p.hasDict = false
  | .none, _ => rfl
  | .bool _, _ => rfl
  | .int _, _ => rfl
  | .str _, _ => rfl
  | .list xs, h => by simp only [okP] at h; simp only [PyData.hasDict]; exact noDictA_of h
  | .tuple xs, h => by simp only [okP] at h; simp only [PyData.hasDict]; exact noDictA_of h
  | .dict _, h => by simp only [okP] at h
theorem noDictA_of : ∀ {ps : List PyData}, okPA ps → PyData.hasDictAll ps = false
  | [], _ => rfl
  | x :: r, h => by
    simp only [okPA] at h
    simp only [PyData.hasDictAll, noDict_of h.1, noDictA_of h.2, Bool.or_self]
end
theorem okPA_strs : ∀ {ss : List PySem.Str}, (∀ s ∈ ss, sgT s) → okPA (ss.map .str)
  | [], _ => by simp only [List.map_nil, okPA]
  | s :: r, h => by
    simp only [List.map_cons, okPA, okP]
    exact ⟨h s List.mem_cons_self, okPA_strs fun z hz => h z (List.mem_cons_of_mem _ hz)⟩
theorem rlA_strs {n : Nat} : ∀ {ss : List PySem.Str}, (∀ s ∈ ss, s.length ≤ n) → rlA (ss.map .str) ≤ ss.length * (10 * n + 4)
  | [], _ => Nat.zero_le _
  | s :: r, h => by
    have h1 := h s List.mem_cons_self
    have h2 := rlA_strs (ss := r) fun z hz => h z (List.mem_cons_of_mem _ hz)
    simp only [List.map_cons, rlA, rl, List.length_cons]
    have e : (r.length + 1) * (10 * n + 4) = r.length * (10 * n + 4) + (10 * n + 4) := Nat.succ_mul _ _
    omega
theorem showableA_strs : ∀ (ss : List PySem.Str), PyData.showableAll (ss.map .str) = true
  | [] => rfl
  | s :: r => by simp only [List.map_cons, PyData.showableAll, PyData.showable, showableA_strs r]; rfl
theorem depthA_strs : ∀ ss : List PySem.Str, PyData.depthAll (ss.map PyData.str) = 0
  | [] => rfl
  | s :: r => by simp only [List.map_cons, PyData.depthAll, PyData.depth, depthA_strs r]; rfl
theorem pyA_strs : ∀ ss : List PySem.Str, D.pyA (ss.map D.str) = some (ss.map PyData.str)
  | [] => rfl
  | s :: r => by simp only [List.map_cons, D.pyA, D.py, pyA_strs r]
theorem showOk_of {p : PyData} (h1 : okP p) (h2 : p.showable = true) (h3 : p.depth ≤ 60) (h4 : rl p ≤ 16000000) : showOk p = true := by
  unfold showOk
  have h5 := shown_le h1
  have h6 : (16000000 : Nat) ≤ sizeLine := by decide
  rw [h2, noDict_of h1, decide_eq_true h3, decide_eq_true (by omega : p.shown.length ≤ sizeLine)]
  rfl
end DV
set_option Elab.async false
set_option linter.all false
set_option maxRecDepth 100000
set_option maxHeartbeats 1000000
namespace DV
open PySem PySem.Spec PyProof.Rows L2
/-! ### running step by step: what stands first is run first -/
section
variable {G α β : Type} {m : Out G α}
theorem ifO_bnd {k : α → G → Out G Bool} {a b : G → Out G β} : ifO (bnd m k) a b = bnd m fun x g => ifO (k x g) a b := by cases m <;> rfl
theorem andO_bnd {k : α → G → Out G Bool} {b : G → Out G Bool} : andO (bnd m k) b = bnd m fun x g => andO (k x g) b := by cases m <;> rfl
theorem orO_bnd {k : α → G → Out G Bool} {b : G → Out G Bool} : orO (bnd m k) b = bnd m fun x g => orO (k x g) b := by cases m <;> rfl
theorem andV_bnd {k : α → G → Out G D} {b : G → Out G D} : andV (bnd m k) b = bnd m fun x g => andV (k x g) b := by cases m <;> rfl
theorem orV_bnd {k : α → G → Out G D} {b : G → Out G D} : orV (bnd m k) b = bnd m fun x g => orV (k x g) b := by cases m <;> rfl
theorem chO_bnd {k : α → G → Out G D} {b : G → Out G D} : chO (bnd m k) b = bnd m fun x g => chO (k x g) b := by cases m <;> rfl
theorem seqF_bnd {k : α → G → Out G Fl} {r : Rho → G → Out G Fl} : seqF (bnd m k) r = bnd m fun x g => seqF (k x g) r := by cases m <;> rfl
theorem loopF_bnd {k : α → G → Out G Fl} {r : Rho → G → Out G Fl} : loopF (bnd m k) r = bnd m fun x g => loopF (k x g) r := by cases m <;> rfl
theorem retF_bnd {k : α → G → Out G Fl} : retF (bnd m k) = bnd m fun x g => retF (k x g) := by cases m <;> rfl
theorem bnd_ifO {c : Out G Bool} {a b : G → Out G α} {k : α → G → Out G β} : bnd (ifO c a b) k = ifO c (fun g => bnd (a g) k) (fun g => bnd (b g) k) := by
  cases c with
  | ok x g => cases x <;> rfl
  | err e g => rfl
  | stk => rfl
theorem seqF_ifO {c : Out G Bool} {a b : G → Out G Fl} {r : Rho → G → Out G Fl} : seqF (ifO c a b) r = ifO c (fun g => seqF (a g) r) (fun g => seqF (b g) r) := by
  cases c with
  | ok x g => cases x <;> rfl
  | err e g => rfl
  | stk => rfl
theorem retF_ifO {c : Out G Bool} {a b : G → Out G Fl} : retF (ifO c a b) = ifO c (fun g => retF (a g)) (fun g => retF (b g)) := by
  cases c with
  | ok x g => cases x <;> rfl
  | err e g => rfl
  | stk => rfl
theorem seqF_seqF {x : Out G Fl} {a b : Rho → G → Out G Fl} : seqF (seqF x a) b = seqF x fun ρ g => seqF (a ρ g) b := by
  cases x with
  | ok x g => cases x <;> rfl
  | err e g => rfl
  | stk => rfl
theorem bnd_andV {a : Out G D} {b : G → Out G D} {k : D → G → Out G β} : bnd (andV a b) k = bnd a fun d g => bnd (andV (.ok d g) b) k := by cases a <;> rfl
theorem bnd_orV {a : Out G D} {b : G → Out G D} {k : D → G → Out G β} : bnd (orV a b) k = bnd a fun d g => bnd (orV (.ok d g) b) k := by cases a <;> rfl
theorem b_lift {m : Out Unit D} {d : D} {g : G} {k : D → G → Out G β} (h : m = .ok d ()) : bnd (liftP m g) k = k d g := by rw [h]; rfl
theorem b_get {m : Out G α} {a : α} {g : G} {k : α → G → Out G β} (h : m = .ok a g) : bnd m k = k a g := by rw [h]; rfl
theorem b_err {e : D} {g : G} {k : α → G → Out G β} : bnd (.err e g) k = .err e g := rfl
theorem two_k {d e : D} {g : G} {k : D → D → Out G α} : two [d, e] g k = k d e := rfl
theorem perm0 {d : D} : permD [0] [d] = some [d] := rfl
theorem tupleD_lst {ds : List D} : tupleD [.lst ds] = some (.tup ds) := rfl
theorem tupleD_tup {ds : List D} : tupleD [.tup ds] = some (.tup ds) := rfl
end
end DV
namespace DV
open PySem PySem.Spec PyProof.Rows L2
section
variable {G : Type}
/-- a loop that always goes on -/
theorem forD_run {is : List Nat} {fb : Rho → G → Out G Fl} (Inv : Rho → Prop) : ∀ {ds : List D} {ρ : Rho} {g : G}, Inv ρ → (∀ d ∈ ds, ∀ ρ g, Inv ρ → ∃ ρ' g', fb (setAll ρ is [d]) g = .ok (.nx ρ') g' ∧ Inv ρ') → ∃ ρ' g', forD oneD is fb ds ρ g = .ok (.nx ρ') g' ∧ Inv ρ'
  | [], ρ, g, h0, _ => ⟨ρ, g, rfl, h0⟩
  | d :: r, ρ, g, h0, h => by
    obtain ⟨ρ1, g1, e, h1⟩ := h d List.mem_cons_self ρ g h0
    obtain ⟨ρ2, g2, e2, h2⟩ := forD_run Inv (ds := r) (ρ := ρ1) (g := g1) h1 fun x hx => h x (List.mem_cons_of_mem _ hx)
    refine ⟨ρ2, g2, ?_, h2⟩
    unfold forD
    show loopF (fb (setAll ρ is [d]) g) _ = _
    rw [e]
    exact e2
theorem b_app_ok {β : Type} {Cs : List PySem.Str} {ρ : Rho} {i : Nat} {ds : List D} {m : Out G D} {d : D} {g : G} {k : D × Rho → G → Out G β} (h : m = .ok d g) (hl : ds.length ≤ 100000) : bnd (appCaught Cs ρ i ds m) k = k (.non, ρ.set i (some (.lst (ds ++ [d])))) g := by
  have h6 : (100000 : Nat) < sizeLine := by decide
  rw [h]
  show bnd (if ds.length < sizeLine then _ else _) k = _
  rw [if_pos (by omega)]; rfl
theorem b_app_err {β : Type} {Cs : List PySem.Str} {ρ : Rho} {i : Nat} {ds : List D} {m : Out G D} {c : PySem.Str} {ns : List PySem.Str} {vs : List D} {g : G} {k : D × Rho → G → Out G β} (h : m = .err (.exc c ns vs) g) (hc : c ∈ Cs) : bnd (appCaught Cs ρ i ds m) k = k (.exc c ns vs, ρ) g := by
  rw [h]
  show bnd (if c ∈ Cs then _ else _) k = _
  rw [if_pos hc]; rfl
theorem b_catch_ok {β : Type} {Cs : List PySem.Str} {m : Out G D} {d : D} {g : G} {k : D → G → Out G β} (h : m = .ok d g) : bnd (catchD Cs m) k = k .non g := by rw [h]; rfl
theorem b_catch_err {β : Type} {Cs : List PySem.Str} {m : Out G D} {c : PySem.Str} {ns : List PySem.Str} {vs : List D} {g : G} {k : D → G → Out G β} (h : m = .err (.exc c ns vs) g) (hc : c ∈ Cs) : bnd (catchD Cs m) k = k (.exc c ns vs) g := by
  rw [h, catchD_err hc]; rfl
theorem lift_err {m : Out Unit D} {e : D} {g : G} (h : m = .err e ()) : liftP m g = .err e g := by rw [h]; rfl
theorem lift_ok {m : Out Unit D} {d : D} {g : G} (h : m = .ok d ()) : liftP m g = .ok d g := by rw [h]; rfl
theorem repD_ok {ds : List D} {n : Int} {g : G} (h : (0 ≤ n ∧ n ≤ 10000) ∧ ds.length ≤ 1000) : repD (.lst ds) (.int n) g = .ok (.lst (List.replicate n.toNat ds).flatten) g := by
  unfold repD
  exact if_pos ⟨h.1.1, h.1.2, h.2⟩
theorem seqF_of {m : Out G Fl} {ρ : Rho} {g : G} {k : Rho → G → Out G Fl} (h : m = .ok (.nx ρ) g) : seqF m k = k ρ g := by rw [h]; rfl
end
end DV
set_option Elab.async false
set_option linter.all false
set_option maxRecDepth 100000
set_option maxHeartbeats 4000000
namespace K87
open PySem PySem.Spec PyProof.Rows L2 DV
def top (i : Nat) : Stmt := PySem.Challenge.pw_everyfind_k87_lines_of_texts.main.body.getD i (.Pass ⟨0, 0, 0, 0⟩)
def letters : PySem.Str := "abcdefghijklmnopqrstuvwxyz"
/-- what the names of the module are -/
structure Tk (mg : PySem.Str → Option Value) : Prop where
  isinstance : mg "isinstance" = none
  str : mg "str" = none
  len : mg "len" = none
  all : mg "all" = none
  letters : ∃ t, mg "LETTERS" = some (.str letters t)
  list : mg "list" = none
  tuple : mg "tuple" = none
  mostL : ∃ t, mg "MOST_LETTERS" = some (.int 8 t)
  mostT : ∃ t, mg "MOST_TOKENS" = some (.int 400 t)
  brk : ∃ t, mg "BREAK" = some (.str "." t)
/-- an own class of errors without own __init__ -/
structure ExK (K : PySem.W.Frag) (mg : PySem.Str → Option Value) (x : PySem.Str) (C : Addr) : Prop where
  gC : mg x = some (.ref C)
  xC : PySem.W.excIn K C [.type "ValueError", .type "Exception", .type "BaseException", .type "object"] "ValueError.__new__" = true
  kC : PySem.W.keepIn K (.ref C) = true
  bC : PySem.W.subIn K (.ref C) (.type "BaseException") = some true
  tC : PySem.W.typeIn K (.ref C) = some (.type "type")
theorem boot_list : bootBuiltins "list" = some (.type "list") := by decide +kernel
theorem boot_tuple : bootBuiltins "tuple" = some (.type "tuple") := by decide +kernel
theorem sem_le {E : En} : Sem2 E Rs (rI0 fun i j => .bl (decide (i ≤ j))) (semI tru2 fun i j => .bl (decide (i ≤ j))) := sem_int0 rs_flat _ _ (fun _ _ => rfl) (fun _ _ i j => .bl _)
theorem boot_str : bootBuiltins "str" = some (.type "str") := by decide +kernel
section
variable {P : Program} {w : World} {K : PySem.W.Frag} {mg : PySem.Str → Option Value} {base : Heap}
theorem sc9 : FnScope ["thing", "least", "most", "sign"] ["thing", "least", "most"] (defScope (top 9)) := ⟨rfl, rfl, rfl, by decide +kernel, rfl, by decide +kernel, by decide +kernel⟩
/-- is_letters -/
def lettersB (s : PySem.Str) (a b : Int) : Bool := decide (a ≤ s.length) && (decide ((s.length : Int) ≤ b) && s.cps.toList.all fun c => decide (c ∈ letters.cps.toList))
def inL (d : D) : D := match d with
  | .str z => .bl (match z.cps.toList with
    | [c] => decide (c ∈ letters.cps.toList)
    | _ => false)
  | _ => .non
def isLetters (ds : List D) (g : Unit) : Out Unit D := match ds with
  | [.str s, .int a, .int b] => if s.length ≤ 100000 then .ok (.bl (lettersB s a b)) g else .stk
  | [d, .int _, .int _] => match tyNm d with
    | some _ => .ok (.bl false) g
    | none => .stk
  | _ => .stk
theorem ok_is_letters {f : Addr} {fd : FuncData} (F : Fun K "is_letters" "is_letters" (top 9) f fd) (T : Tk mg) : FnG P w K mg base 1 f fd ["thing", "least", "most"] (spP K mg Rs 3 isLetters) := by
  refine def_okP F sc9 rfl rs_non fun hd W => ⟨[], _, RSs_one (RS_ret rs_back (RE_and (RE_isi (T := "str") (RE_var 0) rfl T.isinstance rfl T.str boot_str) (RE_and (RE_chain (fun X _ => op_le) (fun X _ => op_le) sem_le sem_le (RE_var 1) (RE_len (RA_cons (RE_var 0) RA_nil) rfl T.len) (RE_var 2))
    (RE_one (RE_all (RA_cons (RF.e (RF_lc [("sign", 3)] sc9.nd (RI_seq (RE_var 0)) (RG_name 3 sc9.nd) RTs_nil (RE_inS (RE_var 3) (RX_gstr rs_flat rfl T.letters)) (by decide +kernel) (by decide))) RA_nil) rfl T.all))))), fun ds g hl => ?_⟩
  match ds, hl with
  | [d, x, y], _ =>
    cases x with
    | int a => cases y with
      | int b =>
        cases d with
        | str s =>
          by_cases hs : s.length ≤ 100000
          case neg => exact .inl (if_neg hs)
          refine .inr ?_
          have hc := compD_map (parts := oneD) (is := [3]) (fc := fun _ g => .ok true g) (fe := fun ρ g => bnd (getR ρ 3 g) fun x g => inSign false x (.str letters) g) (ρ := wipeR (startR ["thing", "least", "most", "sign"] [.str s, .int a, .int b]) [3]) (g := g)
              inL (ds := DV.signs s) fun d hd => by
            obtain ⟨c, _, rfl⟩ := mem_signs hd
            exact ⟨_, rfl, rfl, rfl⟩
          have ha : allD [.lst ((DV.signs s).map inL)] = some (.bl (s.cps.toList.all fun c => decide (c ∈ letters.cps.toList))) := by
            unfold DV.signs
            rw [List.map_map]
            exact allD_map _ _ _ fun c _ => rfl
          simp only [List.map_cons, List.map_nil, get0, get1, get2, bnd_ok, ty_str_str, opt_some, andV_t, lenD_str hs, semI_le, chO_b, seqD_str, lenC_of (show (DV.signs s).length ≤ 100000 by rw [DV.signs_length]; exact hs), hc, ha, andV_b, andV_k, retF_rt]
          refine Eq.trans ?_ (if_pos hs).symm
          unfold lettersB
          simp only [Bool.and_assoc, Bool.true_and]
        | non => exact .inr rfl
        | bl b => exact .inr rfl
        | int b => exact .inr rfl
        | lst b => exact .inr rfl
        | tup b => exact .inr rfl
        | dct a b => exact .inr rfl
        | _ => exact .inl rfl
      | _ => exact .inl (by cases d <;> rfl)
    | _ => exact .inl (by cases d <;> rfl)
theorem sc10 : FnScope ["thing"] ["thing"] (defScope (top 10)) := ⟨rfl, rfl, rfl, by decide +kernel, rfl, by decide +kernel, by decide +kernel⟩
def isWord (ds : List D) (g : Unit) : Out Unit D := match ds with
  | [d] => isLetters [d, .int 1, .int 8] g
  | _ => .stk
theorem ok_is_word {f f1 : Addr} {fd fd1 : FuncData} (F : Fun K "is_word" "is_word" (top 10) f fd) (T : Tk mg) (F1 : Fun K "is_letters" "is_letters" (top 9) f1 fd1) (m1 : mg "is_letters" = some (.ref f1)) (b1 : L2.Binds K fd1 ["thing", "least", "most"] []) : FnG P w K mg base 2 f fd ["thing"] (spP K mg Rs 1 isWord) := by
  have G1 := ok_is_letters (P := P) (w := w) (base := base) F1 T
  refine def_okP F sc10 rfl rs_non fun hd W => ⟨[], _, RSs_one (RS_ret rs_back (RX_callP rs_back G1 (Nat.le_refl _) rfl m1 F1.kp b1 (RA_cons (RE_var 0) (RA_cons (RX_int rs_flat) (RA_cons (RX_gint rs_flat rfl T.mostL) RA_nil))))), fun ds g hl => ?_⟩
  match ds, hl with
  | [d], _ =>
    refine .inr ?_
    simp only [get0, bnd_ok, lenN_of (show [d, D.int 1, D.int 8].length = 3 from rfl)]
    show _ = isLetters [d, .int 1, .int 8] ()
    generalize isLetters [d, .int 1, .int 8] () = m
    cases m <;> rfl
theorem sc11 : FnScope ["thing"] ["thing"] (defScope (top 11)) := ⟨rfl, rfl, rfl, by decide +kernel, rfl, by decide +kernel, by decide +kernel⟩
def dot : PySem.Str := "."
def tokB (s : PySem.Str) : Bool := lettersB s 1 8 || decide (s = dot)
def isTok (ds : List D) (g : Unit) : Out Unit D := match ds with
  | [.str s] => if s.length ≤ 100000 then .ok (.bl (tokB s)) g else .stk
  | [d] => match tyNm d with
    | some _ => .ok (.bl false) g
    | none => .stk
  | _ => .stk
theorem ok_is_token {f f1 : Addr} {fd fd1 : FuncData} (F : Fun K "is_token" "is_token" (top 11) f fd) (T : Tk mg) (F1 : Fun K "is_word" "is_word" (top 10) f1 fd1) (m1 : mg "is_word" = some (.ref f1)) (b1 : L2.Binds K fd1 ["thing"] []) (G1 : FnG P w K mg base 2 f1 fd1 ["thing"] (spP K mg Rs 1 isWord)) : FnG P w K mg base 3 f fd ["thing"] (spP K mg Rs 1 isTok) := by
  refine def_okP F sc11 rfl rs_non fun hd W => ⟨[], _, RSs_one (RS_ret rs_back (RE_or (RX_callP rs_back G1 (Nat.le_refl _) rfl m1 F1.kp b1 (RA_cons (RE_var 0) RA_nil))
    (RE_one (RE_and (RE_isi (T := "str") (RE_var 0) rfl T.isinstance rfl T.str boot_str) (RE_one (RE_eqX (RE_var 0) (RX_gstr rs_flat rfl T.brk))))))), fun ds g hl => ?_⟩
  match ds, hl with
  | [d], _ =>
    cases d with
    | str s =>
      by_cases hs : s.length ≤ 100000
      case neg => exact .inl (if_neg hs)
      refine .inr ?_
      have e : isWord [.str s] () = .ok (.bl (lettersB s 1 8)) () := if_pos hs
      simp only [get0, bnd_ok, lenN_of (show [D.str s].length = 1 from rfl), e, liftP_ok, ty_str_str, opt_some, andV_t, eqX, scalD, Bool.false_eq_true, if_false, orV_k, orV_b, retF_rt]
      exact (if_pos hs).symm
    | non => exact .inr rfl
    | bl b => exact .inr rfl
    | int b => exact .inr rfl
    | lst b => exact .inr rfl
    | tup b => exact .inr rfl
    | dct a b => exact .inr rfl
    | _ => exact .inl rfl
theorem sc12 : FnScope ["thing", "token"] ["thing"] (defScope (top 12)) := ⟨rfl, rfl, rfl, by decide +kernel, rfl, by decide +kernel, by decide +kernel⟩
def tokG (d : D) : Bool := match d with
  | .str s => decide (s.length ≤ 100000)
  | d => (tyNm d).isSome
def tokD (d : D) : Bool := match d with
  | .str s => tokB s
  | _ => false
theorem isTok_ok {d : D} (h : tokG d = true) (g : Unit) : isTok [d] g = .ok (.bl (tokD d)) g := by
  cases d with
  | str s => exact if_pos (of_decide_eq_true h)
  | exc _ _ _ => cases h
  | hid _ => cases h
  | _ => rfl
def txtB (ts : List D) : Bool := decide ((ts.length : Int) ≤ 400) && ts.all tokD
def isTxtL (ts : List D) (g : Unit) : Out Unit D := if ts.length ≤ 100000 ∧ ts.all tokG = true then .ok (.bl (txtB ts)) g else .stk
def isTxt (ds : List D) (g : Unit) : Out Unit D := match ds with
  | [.lst ts] => isTxtL ts g
  | [.tup ts] => isTxtL ts g
  | [d] => match tyNm d with
    | some _ => .ok (.bl false) g
    | none => .stk
  | _ => .stk
theorem ok_is_text {f f1 : Addr} {fd fd1 : FuncData} (F : Fun K "is_text" "is_text" (top 12) f fd) (T : Tk mg) (F1 : Fun K "is_token" "is_token" (top 11) f1 fd1) (m1 : mg "is_token" = some (.ref f1)) (b1 : L2.Binds K fd1 ["thing"] []) (G1 : FnG P w K mg base 3 f1 fd1 ["thing"] (spP K mg Rs 1 isTok)) : FnG P w K mg base 4 f fd ["thing"] (spP K mg Rs 1 isTxt) := by
  refine def_okP F sc12 rfl rs_non fun hd W => ⟨[], _, RSs_one (RS_ret rs_back (RE_and (RE_isi2 (T := "list") (U := "tuple") (RE_var 0) rfl T.isinstance rfl T.list rfl T.tuple boot_list boot_tuple)
    (RE_and (RX_cmp rs_back (fun X _ => op_le) sem_le (RE_len (RA_cons (RE_var 0) RA_nil) rfl T.len) (RX_gint rs_flat rfl T.mostT) rfl)
    (RE_one (RE_all (RA_cons (RF.e (RF_lc [("token", 1)] sc12.nd (RI_seq (RE_var 0)) (RG_name 1 sc12.nd) RTs_nil (RX_callP rs_back G1 (Nat.le_refl _) rfl m1 F1.kp b1 (RA_cons (RE_var 1) RA_nil)) (by decide +kernel) (by decide))) RA_nil) rfl T.all))))), fun ds g hl => ?_⟩
  have main : ∀ ts : List D, ts.all tokG = true → ∀ ρ : Rho, 1 < ρ.length → compD oneD [1] (fun x g => Out.ok true g) (fun ρ g => bnd (getR ρ 1 g) fun d g => liftP (isTok [d] ()) g) (wipeR ρ [1]) ts g = .ok (ts.map fun d => .bl (tokD d)) g := fun ts h2 ρ hρ =>
    compD_map (parts := oneD) (fun d => .bl (tokD d)) fun d hd => ⟨[d], rfl, rfl, by rw [get_set1 hρ, bnd_ok, isTok_ok (List.all_eq_true.mp h2 d hd)]; rfl⟩
  have fin : ∀ ts : List D, allD [.lst (ts.map fun d => .bl (tokD d))] = some (.bl (ts.all tokD)) := fun ts => allD_map _ _ _ fun _ _ => rfl
  match ds, hl with
  | [d], _ =>
    cases d with
    | lst ts =>
      by_cases hs : ts.length ≤ 100000 ∧ ts.all tokG = true
      case neg => exact .inl (if_neg hs)
      refine .inr (Eq.trans ?_ (if_pos hs).symm)
      simp only [bnd_bnd, lenN1, List.map_cons, List.map_nil, get0, bnd_ok, ty_lt_lst, opt_some, andV_t, lenD_lst, semI_le, seqD_lst, lenC_of hs.1, main ts hs.2 (startR ["thing", "token"] [.lst ts]) (Nat.le_refl 2), fin, andV_k, retF_rt, txtB]
    | tup ts =>
      by_cases hs : ts.length ≤ 100000 ∧ ts.all tokG = true
      case neg => exact .inl (if_neg hs)
      refine .inr (Eq.trans ?_ (if_pos hs).symm)
      simp only [bnd_bnd, lenN1, List.map_cons, List.map_nil, get0, bnd_ok, ty_lt_tup, opt_some, andV_t, lenD_tup, semI_le, seqD_tup, lenC_of hs.1, main ts hs.2 (startR ["thing", "token"] [.tup ts]) (Nat.le_refl 2), fin, andV_k, retF_rt, txtB]
    | non => exact .inr rfl
    | bl b => exact .inr rfl
    | int b => exact .inr rfl
    | str b => exact .inr rfl
    | dct a b => exact .inr rfl
    | _ => exact .inl rfl
theorem sc14 : FnScope ["text"] ["text"] (defScope (top 14)) := ⟨rfl, rfl, rfl, by decide +kernel, rfl, by decide +kernel, by decide +kernel⟩
def sp : PySem.Str := " "
def lineOf (ds : List D) (g : Unit) : Out Unit D := joinD sp ds g
theorem ok_line_of {f : Addr} {fd : FuncData} (F : Fun K "line_of" "line_of" (top 14) f fd) : FnG P w K mg base 1 f fd ["text"] (spP K mg Rs 1 lineOf) := by
  refine def_okP F sc14 rfl rs_non fun hd W => ⟨[], _, RSs_one (RS_ret rs_back (RE_join (RX_str rs_flat) (RE_var 0))), fun ds g hl => ?_⟩
  match ds, hl with
  | [d], _ =>
    refine .inr ?_
    simp only [bnd_bnd, get0, bnd_ok, asS_str]
    show _ = joinD sp [d] g
    show retF (bnd (joinD sp [d] g) _) = _
    generalize joinD sp [d] g = m
    cases m <;> rfl
theorem sc15 : FnScope ["text"] ["text"] (defScope (top 15)) := ⟨rfl, rfl, rfl, by decide +kernel, rfl, by decide +kernel, by decide +kernel⟩
def badText : D := .exc "BadText" [] []
def badForm : D := .exc "BadForm" [] []
def textLine (ds : List D) (g : Unit) : Out Unit D := bnd (isTxt ds g) fun d g => match d with
  | .bl true => lineOf ds g
  | .bl false => .err badText g
  | _ => .stk
theorem ok_text_line {f f1 f2 CT : Addr} {fd fd1 fd2 : FuncData} (F : Fun K "text_line" "text_line" (top 15) f fd) (XT : ExK K mg "BadText" CT) (F1 : Fun K "is_text" "is_text" (top 12) f1 fd1) (m1 : mg "is_text" = some (.ref f1)) (b1 : L2.Binds K fd1 ["thing"] []) (G1 : FnG P w K mg base 4 f1 fd1 ["thing"] (spP K mg Rs 1 isTxt))
    (F2 : Fun K "line_of" "line_of" (top 14) f2 fd2) (m2 : mg "line_of" = some (.ref f2)) (b2 : L2.Binds K fd2 ["text"] []) (G2 : FnG P w K mg base 1 f2 fd2 ["text"] (spP K mg Rs 1 lineOf)) : FnG P w K mg base 5 f fd ["text"] (spP K mg Rs 1 textLine) := by
  refine def_okP F sc15 rfl rs_non fun hd W => ⟨[], _, RSs_cons (RS_if (RT_not (RT_val (RX_callP rs_back G1 (Nat.le_refl _) rfl m1 F1.kp b1 (RA_cons (RE_var 0) RA_nil)))) (RSs_one (RS_raise PySem.F.excBase_ValueError XT.xC XT.gC XT.kC XT.bC XT.tC rfl)) RSs_nil)
    (RSs_one (RS_ret rs_back (RX_callP rs_back G2 (Nat.le_of_ble_eq_true rfl) rfl m2 F2.kp b2 (RA_cons (RE_var 0) RA_nil)))), fun ds g hl => ?_⟩
  match ds, hl with
  | [d], _ =>
    refine .inr ?_
    simp only [bnd_bnd, get0, bnd_ok, lenN1]
    show _ = bnd (isTxt [d] ()) _
    generalize isTxt [d] () = m
    cases m with
    | stk => rfl
    | err e g => rfl
    | ok v g =>
      cases v <;> first | rfl | skip
      rename_i b
      cases b with
      | false => rfl
      | true =>
        simp only [bnd_ok, liftP_ok, asB_bl, Bool.not_true, ifO_f, seqF_nx]
        simp only [get0, bnd_ok]
        show _ = lineOf [d] ()
        generalize lineOf [d] () = m
        cases m <;> rfl
theorem sc16 : FnScope ["form", "found"] ["form"] (defScope (top 16)) := ⟨rfl, rfl, rfl, by decide +kernel, rfl, by decide +kernel, by decide +kernel⟩
def wordsOf (s : PySem.Str) : List PySem.Str := if s = "" then [] else Txt.split s sp
def wordD (s : PySem.Str) : List D := (wordsOf s).map .str
def okW (s : PySem.Str) : Bool := decide (s.length ≤ 100000) && (decide ((wordD s).length ≤ 100000) && (wordD s).all tokG)
def textOf (ds : List D) (g : Unit) : Out Unit D := match ds with
  | [.str s] => if okW s = true then .ok (if txtB (wordD s) = true then .lst (wordD s) else .non) g else .stk
  | [d] => match tyNm d with
    | some _ => .ok .non g
    | none => .stk
  | _ => .stk
theorem ok_text_of {f f1 : Addr} {fd fd1 : FuncData} (F : Fun K "text_of" "text_of" (top 16) f fd) (T : Tk mg) (F1 : Fun K "is_text" "is_text" (top 12) f1 fd1) (m1 : mg "is_text" = some (.ref f1)) (b1 : L2.Binds K fd1 ["thing"] []) (G1 : FnG P w K mg base 4 f1 fd1 ["thing"] (spP K mg Rs 1 isTxt)) : FnG P w K mg base 5 f fd ["form"] (spP K mg Rf 1 textOf) := by
  refine def_okP F sc16 rfl rf_non fun hd W => ⟨[1], _, RSs_cons (RS_if (O' := []) (RT_not (RT_val (RE_isi (T := "str") (RE_var 0) rfl T.isinstance rfl T.str boot_str))) (RSs_one (RS_ret rf_back (RX_non rf_flat))) RSs_nil)
    (RSs_cons (RS_asgF (O' := [1]) [] (RN_of 1 (RX_if rf_back (RT_neX (RE_var 0) (RX_str rs_flat)) (RF_split (RE_var 0) (RX_str rs_flat)) (RF_lst RA_nil)) sc16.nd) (by simp) (by simp))
    (RSs_one (RS_retM (RM_if (RT_val (RX_callP rs_back G1 (Nat.le_refl _) rfl m1 F1.kp b1 (RA_cons (RE_var 1) RA_nil))) (RM_var 1 (by simp)) (RM_of (RX_non rf_flat)))))), fun ds g hl => ?_⟩
  match ds, hl with
  | [d], _ =>
    cases d with
    | str s =>
      by_cases hs : okW s = true
      case neg => exact .inl (if_neg hs)
      refine .inr (Eq.trans ?_ (if_pos hs).symm)
      have hs2 := hs
      unfold okW at hs2
      simp only [Bool.and_eq_true, decide_eq_true_eq] at hs2
      obtain ⟨h1, h2, h3⟩ := hs2
      have tx : isTxt [.lst (wordD s)] () = .ok (.bl (txtB (wordD s))) () := if_pos ⟨h2, h3⟩
      have two : bnd (ifO (.ok (!decide (s = "")) g) (fun g => splitD s [.str " "] g) fun g => lenOk [] (.ok (.lst []) g)) (fun d g => (Out.ok (.nx ((startR ["form", "found"] [.str s]).set 1 (some d))) g : Out Unit Fl)) = .ok (.nx [some (.str s), some (.lst (wordD s))]) g := by
        unfold wordD wordsOf
        by_cases he : s = ""
        · rw [decide_eq_true he, if_pos he]; rfl
        · rw [decide_eq_false he, if_neg he]
          show bnd (splitD s [.str sp] g) _ = _
          rw [splitD_ok (by decide +kernel) h1]; rfl
      simp only [bnd_bnd, get0, bnd_ok, ty_str_str, opt_some, asB_bl, Bool.not_true, ifO_f, seqF_nx, asS_str, msk, eqX, scalD, if_true, two]
      show retF (bnd (ifO (bnd (liftP (isTxt [.lst (wordD s)] ()) g) asB) (fun g => .ok (.lst (wordD s)) g) fun g => .ok .non g) fun d g => .ok (.rt d) g) = _
      rw [tx]
      cases txtB (wordD s) <;> rfl
    | non => exact .inr rfl
    | bl b => exact .inr rfl
    | int b => exact .inr rfl
    | lst b => exact .inr rfl
    | tup b => exact .inr rfl
    | dct a b => exact .inr rfl
    | _ => exact .inl rfl
theorem sc17 : FnScope ["form", "found"] ["form"] (defScope (top 17)) := ⟨rfl, rfl, rfl, by decide +kernel, rfl, by decide +kernel, by decide +kernel⟩
def readLine (ds : List D) (g : Unit) : Out Unit D := bnd (textOf ds g) fun d g => match d with
  | .lst ts => .ok (.lst ts) g
  | .non => .err badForm g
  | _ => .stk
theorem ok_read_line {f f1 CF : Addr} {fd fd1 : FuncData} (F : Fun K "read_line" "read_line" (top 17) f fd) (XF : ExK K mg "BadForm" CF) (F1 : Fun K "text_of" "text_of" (top 16) f1 fd1) (m1 : mg "text_of" = some (.ref f1)) (b1 : L2.Binds K fd1 ["form"] []) (G1 : FnG P w K mg base 5 f1 fd1 ["form"] (spP K mg Rf 1 textOf)) : FnG P w K mg base 6 f fd ["form"] (spP K mg Rf 1 readLine) := by
  refine def_okP F sc17 rfl rf_non fun hd W => ⟨[1], _, RSs_cons (RS_asgF (O' := [1]) [] (RN_of 1 (RX_callP rf_back G1 (Nat.le_refl _) rfl m1 F1.kp b1 (RA_cons (RE_var 0) RA_nil)) sc17.nd) (by simp) (by simp))
    (RSs_cons (RS_if (O' := [1]) (RT_isN (RE_var 1)) (RSs_one (RS_raise PySem.F.excBase_ValueError XF.xC XF.gC XF.kC XF.bC XF.tC rfl)) RSs_nil) (RSs_one (RS_retM (RM_var 1 (by simp))))), fun ds g hl => ?_⟩
  match ds, hl with
  | [d], _ =>
    show Le (readLine [d] g) (retF (seqF (bnd (bnd (bnd (getR (msk (startR ["form", "found"] [d]) []) 0 g) fun d g => .ok [d] g) fun ds g => lenN 1 ds (liftP (textOf ds ()) g)) fun e g => .ok (.nx [some d, some e]) g) fun ρ g => _))
    unfold readLine
    show Le (bnd (textOf [d] ()) _) (retF (seqF (bnd (liftP (textOf [d] ()) g) fun e g => .ok (.nx [some d, some e]) g) fun ρ g => _))
    generalize textOf [d] () = m
    cases m with
    | stk => exact .inl rfl
    | err e g => exact .inr rfl
    | ok v g => cases v <;> first | exact .inr rfl | exact .inl rfl
end
end K87
set_option Elab.async false
set_option linter.all false
set_option maxRecDepth 100000
set_option maxHeartbeats 4000000
namespace K87
open PySem PySem.Spec PyProof.Rows L2 DV
structure Tl (mg : PySem.Str → Option Value) : Prop where
  int : mg "int" = none
  abs : mg "abs" = none
  min : mg "min" = none
  range : mg "range" = none
  repr : mg "repr" = none
section
variable {P : Program} {w : World} {K : PySem.W.Frag} {mg : PySem.Str → Option Value} {base : Heap} {T : List (Addr × PySem.Str)} {ad l c : Addr} {cells : List Int}
theorem sc20 : FnScope ["draw", "turn", "found", "great", "blend", "cell"] ["draw"] (defScope (top 20)) := ⟨rfl, rfl, rfl, by decide +kernel, rfl, by decide +kernel, by decide +kernel⟩
def mixG : List Int := [2147483647, 2147483629, 2147483587]
def blendF (turn great b : Int) (cs : List Int) : Int := cs.foldl (fun b c => (b * 69621 + c + turn) % great) b
def blend0 (turn great : Int) : Int := (turn * 48271 + great / 11) % great
def mixS (cells : List Int) (turn f great : Int) : Int := f * 2147483659 + blendF turn great (blend0 turn great) cells ^ 5 % great
def mixN (cells : List Int) (turn : Int) : Int := mixG.foldl (mixS cells turn) 0
def mixedF (cells : List Int) (ds : List D) (g : Dr) : Out Dr D := match ds with
  | [.hid 0] => .ok (.int (mixN cells (g.turn + 1))) { g with turn := g.turn + 1 }
  | _ => .stk
theorem ok_mixed {f : Addr} {fd : FuncData} (F : Fun K "_law_mixed" "_law_mixed" (top 20) f fd) (TL : Tl mg) : FnG P w K mg base 1 f fd ["draw"] (spD ⟨K, mg, hidf ad l c⟩ (wD T ad l c cells) Rs 1 (mixedF cells)) := by
  refine def_okD F sc20 rfl rs_non fun W => ⟨[], _, RSs_cons (RS_hturn (RE_var 0) (RE_add (RE_hturn (RE_var 0)) (RX_int rs_flat)))
    (RSs_cons (RS_par (O' := []) [] (par_loc 1 2 sc20.nd (hw := fun env h => by unfold swappedStores Env.blockKind Env.kindOf; rw [h]; rfl)) (RA_cons (RE_int1 (RA_cons (RE_hturn (RE_var 0)) RA_nil) rfl TL.int) (RA_cons (RX_int rs_flat) RA_nil)) (by simp) (by simp))
    (RSs_cons (RS_for (O' := []) [] (RI_seq (RF.e (RF_lst (RA_cons (RX_int rs_flat) (RA_cons (RX_int rs_flat) (RA_cons (RX_int rs_flat) RA_nil)))))) (RG_name 3 sc20.nd)
      (RSs_cons (RS_asg (O' := []) [] (RN_of 4 (RE_modI (RE_add (RE_mulI (RE_var 1) (RX_int rs_flat)) (RE_divI (RE_var 3) (RX_int rs_flat))) (RE_var 3)) sc20.nd) (by simp) (by simp))
      (RSs_cons (RS_for (O' := []) [] (RI_hid (RE_hcells (RE_var 0))) (RG_name 5 sc20.nd)
        (RSs_one (RS_asg (O' := []) [] (RN_of 4 (RE_modI (RE_add (RE_add (RE_mulI (RE_var 4) (RX_int rs_flat)) (RE_int1 (RA_cons (RE_var 5) RA_nil) rfl TL.int)) (RE_var 1)) (RE_var 3)) sc20.nd) (by simp) (by simp))) (by simp) (by simp) (by simp))
      (RSs_one (RS_asg (O' := []) [] (RN_of 2 (RE_add (RE_mulI (RE_var 2) (RX_int rs_flat)) (RE_modI (RE_powI (RE_var 4) (RX_int rs_flat)) (RE_var 3))) sc20.nd) (by simp) (by simp))))) (by simp) (by simp) (by simp))
    (RSs_one (RS_ret rs_back (RE_var 2))))), fun ds g hl => ?_⟩
  match ds, hl with
  | [d], _ =>
    by_cases hd : d = .hid 0
    case neg =>
      refine .inl ?_
      cases d <;> first | rfl | skip
      rename_i n _
      cases n with
      | succ n => rfl
      | zero => exact absurd rfl hd
    subst hd
    rcases g with ⟨lg, rs, tn⟩
    have m1 : ∀ i : Int, bMul i 48271 = true := fun i => bMul_r (by decide) (by decide)
    have m2 : ∀ i : Int, bMul i 69621 = true := fun i => bMul_r (by decide) (by decide)
    have m3 : ∀ i : Int, bMul i 2147483659 = true := fun i => bMul_r (by decide) (by decide)
    have d1 : ∀ i : Int, bDiv i 11 = true := fun i => rfl
    refine Nx.le (g := (⟨lg, rs, tn + 1⟩ : Dr)) (P := fun ρ => ρ = [some (.hid 0), none, none, none, none, none]) ⟨_, rfl, rfl⟩ fun ρ e => ?_
    subst e
    refine Nx.le (g := (⟨lg, rs, tn + 1⟩ : Dr)) (P := fun ρ => ρ = [some (.hid 0), some (.int (tn + 1)), some (.int 0), none, none, none]) ⟨_, rfl, rfl⟩ fun ρ e => ?_
    subst e
    refine Nx.le (g := (⟨lg, rs, tn + 1⟩ : Dr)) (P := fun ρ => ∃ x y z, ρ = [some (.hid 0), some (.int (tn + 1)), some (.int (mixN cells (tn + 1))), x, y, z]) ?_ fun ρ e => ?_
    · simp only [bnd_ok, lenOk_of (show [D.int 2147483647, D.int 2147483629, D.int 2147483587].length ≤ 100000 by decide), seqD_lst]
      refine Nx.for_ (α := Int) (β := Int) D.int (fun f ρ => ∃ x y z, ρ = [some (.hid 0), some (.int (tn + 1)), some (.int f), x, y, z]) (mixS cells (tn + 1)) mixG 0 _ ⟨_, _, _, rfl⟩ fun f great ρ hm ⟨x, y, z, e⟩ => ?_
      subst e
      have gp : 0 < great ∧ great < 2 ^ 40 := by
        simp only [mixG, List.mem_cons, List.not_mem_nil, or_false] at hm
        rcases hm with rfl | rfl | rfl <;> decide
      have md : ∀ i : Int, bMod i great = true := fun i => decide_eq_true gp.1
      refine Nx.seq (P := fun ρ => ρ = [some (.hid 0), some (.int (tn + 1)), some (.int f), some (.int great), some (.int (blend0 (tn + 1) great)), z]) ⟨_, ?_, rfl⟩ fun ρ e => ?_
      · simp only [setAll_cons, setAll_nil, msk, List.set_cons_succ, List.set_cons_zero, getR_z, getR_s, bnd_ok, semI_int, m1, d1, md, if_true, addD_int]
        rfl
      subst e
      have hr : ∀ (i : Int), 0 ≤ i % great ∧ i % great < great := fun i => ⟨Int.emod_nonneg _ (by omega), Int.emod_lt_of_pos _ gp.1⟩
      refine Nx.seq (P := fun ρ => ∃ b z, (0 ≤ b ∧ b < great) ∧ b = blendF (tn + 1) great (blend0 (tn + 1) great) cells ∧ ρ = [some (.hid 0), some (.int (tn + 1)), some (.int f), some (.int great), some (.int b), z]) ?_ fun ρ ⟨b, z, hb, eb, e⟩ => ?_
      · simp only [getR_z, getR_s, asHid_ok, bnd_ok, msk]
        refine Nx.mono (Nx.for_ (α := Int) (β := Int) D.int (fun b ρ => ∃ z, (0 ≤ b ∧ b < great) ∧ ρ = [some (.hid 0), some (.int (tn + 1)), some (.int f), some (.int great), some (.int b), z]) (fun b c => (b * 69621 + c + (tn + 1)) % great) cells (blend0 (tn + 1) great) _ ⟨z, hr _, rfl⟩ fun b cell ρ _ ⟨z, hb, e⟩ => ?_) (fun ρ ⟨z', hb', e'⟩ => ⟨_, z', hb', rfl, e'⟩)
        subst e
        refine ⟨[some (.hid 0), some (.int (tn + 1)), some (.int f), some (.int great), some (.int ((b * 69621 + cell + (tn + 1)) % great)), some (.int cell)], ?_, _, hr _, rfl⟩
        simp only [setAll_cons, setAll_nil, msk, List.set_cons_succ, List.set_cons_zero, getR_z, getR_s, bnd_ok, semI_int, m2, md, if_true, addD_int, DV.intD, opt_some]
      · subst e
        have pw : bPow b 5 = true := decide_eq_true ⟨by decide, by decide, by omega⟩
        refine ⟨[some (.hid 0), some (.int (tn + 1)), some (.int (mixS cells (tn + 1) f great)), some (.int great), some (.int b), z], ?_, _, _, _, rfl⟩
        subst eb
        simp only [setAll_cons, setAll_nil, msk, List.set_cons_succ, List.set_cons_zero, getR_z, getR_s, bnd_ok, semI_int, m3, md, pw, if_true, addD_int]
        rfl
    · obtain ⟨x, y, z, rfl⟩ := e
      exact .inr rfl
/-- draw["large"] != [], as a test -/
theorem RT_hne {k : Nat} {B : Bk} {W : WX} {o : Expr} {pk pos : Pos} {fo : Rho → (ED P w K mg base k T ad l c cells).G → Out (ED P w K mg base k T ad l c cells).G D} (ho : RE B (ED P w K mg base k T ad l c cells) W o fo) : RT B (ED P w K mg base k T ad l c cells) W (.Compare o [.NotEq] [.List [] pk] pos) (fun ρ g => bnd (fo ρ g) fun d g => bnd (asHid 1 d g) fun _ g => .ok (!g.large.isEmpty) g) := by
  obtain ⟨to, po, qo⟩ := ho
  refine ⟨tTest (tOp (rNeD K) to (tLst tNil)), fun X cx => by have := pt_cmpR (pos := pos) (op_neD (X := X) (by have := cx.un; omega)) (po X cx) (pe_lst (pos := pk) pa_nil) (by rfl); rw [cx.hK] at this; exact this, fun σ ρ Hb H1 g Q pr h => ?_⟩
  refine qo σ ρ Hb H1 g _ pr (h.bnd fun d g1 h v Hb2 H2 gr r1 rx => ?_)
  rcases asHid_inv (n := 1) (x := d) (g := g1) with ⟨e, rfl⟩ | e
  · rw [e] at h
    have R : DrawAt T ad l c cells H2 g1 := r1
    cases rx
    refine ⟨by show 0 ≤ sizeLine; decide, fun p hp => ?_⟩
    have hl : upd H2 p (.lst []) l = some (.lst ((g1 : Dr).large.map V.int)) := by
      rw [upd_ne (ne_of_none R.hl hp)]; exact R.hl
    have eq : PyData.eqv (.list ((g1 : Dr).large.map PyData.int)) (.list []) = (g1 : Dr).large.isEmpty := by
      cases (g1 : Dr).large <;> simp [PyData.eqv, PyData.eqvAll]
    refine ⟨.list ((g1 : Dr).large.map PyData.int), .list [], .lst (Evl.sq_of hl) (dp_ints _), .lst (Evl.sq_of upd_same) .nil, ?_, rfl, _, rfl, ?_⟩
    · unfold SeqAt.shaped
      have := depth_ints (g1 : Dr).large
      have h1 : PyData.canLay0 (.list ((g1 : Dr).large.map PyData.int)) = true := canLay_ints _
      have h2 : PyData.depth (.list ((g1 : Dr).large.map PyData.int)) ≤ 64 := by
        show PyData.depthAll ((g1 : Dr).large.map PyData.int) + 1 ≤ 64
        omega
      rw [h1, decide_eq_true h2]
      rfl
    · rw [eq]
      exact h Hb2 _ (gr.trans (Gr.newH gr.sub hp)) (R_new r1 hp)
  · rw [e] at h; exact False.elim h
theorem sc21 : FnScope ["draw", "amount", "found"] ["draw", "amount"] (defScope (top 21)) := ⟨rfl, rfl, rfl, by decide +kernel, rfl, by decide +kernel, by decide +kernel⟩
def fillD (cells : List Int) (g : Dr) : Dr := if g.rest = 0 then (match g.large with
  | x :: r => ⟨r, x, g.turn⟩
  | [] => ⟨[], mixN cells (g.turn + 1), g.turn + 1⟩) else g
def takeD (cells : List Int) (n : Int) (g : Dr) : Dr := { fillD cells g with rest := (fillD cells g).rest / n }
def takeN (cells : List Int) (n : Int) (g : Dr) : Int := (fillD cells g).rest % n
def takeF (cells : List Int) (ds : List D) (g : Dr) : Out Dr D := match ds with
  | [.hid 0, .int n] => if 0 < n ∧ n < 1073741824 then .ok (.int (takeN cells n g)) (takeD cells n g) else .stk
  | _ => .stk
theorem ok_take {f f1 : Addr} {fd fd1 : FuncData} (F : Fun K "_law_take" "_law_take" (top 21) f fd) (TL : Tl mg) (F1 : Fun K "_law_mixed" "_law_mixed" (top 20) f1 fd1) (m1 : mg "_law_mixed" = some (.ref f1)) (b1 : L2.Binds K fd1 ["draw"] []) : FnG P w K mg base 2 f fd ["draw", "amount"] (spD ⟨K, mg, hidf ad l c⟩ (wD T ad l c cells) Rs 2 (takeF cells)) := by
  have GM : FnG P w K mg base 1 f1 fd1 ["draw"] (spD ⟨K, mg, hidf ad l c⟩ (wD T ad l c cells) Rs 1 (mixedF cells)) := ok_mixed F1 TL
  refine def_okD F sc21 rfl rs_non fun W => ⟨[], _, RSs_cons (RS_if (O' := []) (RT_eqX (RE_hrest (RE_var 0)) (RX_int rs_flat)) (RSs_one (RS_hrest (RE_var 0) (RX_if rs_back (RT_hne (RE_hlarge (RE_var 0))) (RE_hpop (RE_hlarge (RE_var 0))) (RX_call rs_back GM (Nat.le_refl _) rfl m1 F1.kp b1 (RA_cons (RE_var 0) RA_nil))))) RSs_nil)
    (RSs_cons (RS_asg (O' := []) [] (RN_of 2 (RE_modI (RE_int1 (RA_cons (RE_hrest (RE_var 0)) RA_nil) rfl TL.int) (RE_var 1)) sc21.nd) (by simp) (by simp))
    (RSs_cons (RS_hrest (RE_var 0) (RE_divI (RE_int1 (RA_cons (RE_hrest (RE_var 0)) RA_nil) rfl TL.int) (RE_var 1)))
    (RSs_one (RS_ret rs_back (RE_var 2))))), fun ds g hl => ?_⟩
  match ds, hl with
  | [d, n], _ =>
    by_cases hd : d = .hid 0 ∧ ∃ i, n = .int i ∧ 0 < i ∧ i < 1073741824
    case neg =>
      refine .inl ?_
      unfold takeF
      split
      · rename_i i e
        cases e
        exact if_neg fun z => hd ⟨rfl, i, rfl, z⟩
      · rfl
    obtain ⟨rfl, i, rfl, hi⟩ := hd
    refine .inr (Eq.trans ?_ (if_pos hi).symm)
    have md : ∀ j : Int, bMod j i = true := fun j => decide_eq_true hi.1
    have dv : ∀ j : Int, bDiv j i = true := fun j => decide_eq_true hi
    have hst : startR ["draw", "amount", "found"] [.hid 0, .int i] = [some (.hid 0), some (.int i), none] := rfl
    rcases g with ⟨lg, rs, tn⟩
    by_cases h0 : rs = 0
    · subst h0
      cases lg with
      | nil =>
        simp only [hst, getR_z, getR_s, List.set_cons_succ, List.set_cons_zero, bnd_ok, bnd_bnd, asHid_ok, eqX, scalD, opt_some, decide_true, asB_bl, ifO_t, List.isEmpty_nil, Bool.not_true, ifO_f, lenN1, mixedF, asInt_int, seqF_nx, retF_rt, Bool.false_eq_true, if_false, msk, DV.intD, semI_int, md, dv, if_true]
        rfl
      | cons x r =>
        simp only [hst, getR_z, getR_s, List.set_cons_succ, List.set_cons_zero, bnd_ok, bnd_bnd, asHid_ok, eqX, scalD, opt_some, decide_true, asB_bl, ifO_t, List.isEmpty_cons, Bool.not_false, ifO_f, lenN1, mixedF, asInt_int, seqF_nx, retF_rt, Bool.false_eq_true, if_false, msk, DV.intD, semI_int, md, dv, if_true]
        rfl
    · simp only [hst, getR_z, getR_s, List.set_cons_succ, List.set_cons_zero, bnd_ok, bnd_bnd, asHid_ok, eqX, scalD, opt_some, decide_eq_false h0, asB_bl, ifO_f, asInt_int, seqF_nx, retF_rt, Bool.false_eq_true, if_false, msk, DV.intD, semI_int, md, dv, if_true]
      simp only [takeN, takeD, fillD, if_neg h0]
theorem sc22 : FnScope ["draw", "some"] ["draw", "some"] (defScope (top 22)) := ⟨rfl, rfl, rfl, by decide +kernel, rfl, by decide +kernel, by decide +kernel⟩
def pickF (cells : List Int) (ds : List D) (g : Dr) : Out Dr D := match ds with
  | [.hid 0, .lst xs] => bnd (takeF cells [.hid 0, .int xs.length] g) fun n g => opt (ixD (.lst xs) n) g
  | _ => .stk
theorem ok_pick {f f1 : Addr} {fd fd1 : FuncData} (F : Fun K "_law_pick" "_law_pick" (top 22) f fd) (Tk : Tk mg) (F1 : Fun K "_law_take" "_law_take" (top 21) f1 fd1) (m1 : mg "_law_take" = some (.ref f1)) (b1 : L2.Binds K fd1 ["draw", "amount"] [])
    (G1 : FnG P w K mg base 2 f1 fd1 ["draw", "amount"] (spD ⟨K, mg, hidf ad l c⟩ (wD T ad l c cells) Rs 2 (takeF cells))) : FnG P w K mg base 3 f fd ["draw", "some"] (spD ⟨K, mg, hidf ad l c⟩ (wD T ad l c cells) Rs 2 (pickF cells)) := by
  refine def_okD F sc22 rfl rs_non fun W => ⟨[], _, RSs_one (RS_ret rs_back (RE_ix (RE_var 1) (RX_call rs_back G1 (Nat.le_refl _) rfl m1 F1.kp b1 (RA_cons (RE_var 0) (RA_cons (RE_len (RA_cons (RE_var 1) RA_nil) rfl Tk.len) RA_nil))))), fun ds g hl => ?_⟩
  match ds, hl with
  | [d, s], _ =>
    by_cases hd : d = .hid 0 ∧ ∃ xs, s = .lst xs
    case neg =>
      refine .inl ?_
      unfold pickF
      split
      · rename_i xs e
        cases e
        exact absurd ⟨rfl, xs, rfl⟩ hd
      · rfl
    obtain ⟨rfl, xs, rfl⟩ := hd
    refine .inr ?_
    simp only [get0, get1, bnd_ok, bnd_bnd, lenD_lst, opt_some, lenN2]
    show _ = bnd (takeF cells [.hid 0, .int xs.length] g) _
    generalize takeF cells [.hid 0, .int xs.length] g = m
    cases m with
    | ok n g =>
      simp only [bnd_ok]
      cases ixD (.lst xs) n <;> rfl
    | err e g => rfl
    | stk => rfl
end
end K87
set_option Elab.async false
set_option linter.all false
set_option maxRecDepth 100000
set_option maxHeartbeats 4000000
namespace K87
open PySem PySem.Spec PyProof.Rows L2 DV
section
variable {P : Program} {w : World} {K : PySem.W.Frag} {mg : PySem.Str → Option Value} {base : Heap} {T : List (Addr × PySem.Str)} {ad l c : Addr} {cells : List Int}
theorem sc24 : FnScope ["told", "due"] ["told", "due"] (defScope (top 24)) := ⟨rfl, rfl, rfl, by decide +kernel, rfl, by decide +kernel, by decide +kernel⟩
def saysF (ds : List D) (g : Unit) : Out Unit D := match ds with
  | [d, e] => match reprD [d], reprD [e] with
    | some (.str a), some (.str b) => .ok (.bl (decide (a = b))) g
    | _, _ => .stk
  | _ => .stk
theorem ok_says {f : Addr} {fd : FuncData} (F : Fun K "_law_says" "_law_says" (top 24) f fd) (TL : Tl mg) : FnG P w K mg base 1 f fd ["told", "due"] (spP K mg Rs 2 saysF) := by
  refine def_okP F sc24 rfl rs_non fun hd W => ⟨[], _, RSs_one (RS_ret rs_back (RE_eqX (RE_repr (RA_cons (RE_var 0) RA_nil) rfl TL.repr) (RE_repr (RA_cons (RE_var 1) RA_nil) rfl TL.repr))), fun ds g hl => ?_⟩
  match ds, hl with
  | [d, e], _ =>
    by_cases hc : ∃ a b, reprD [d] = some (.str a) ∧ reprD [e] = some (.str b)
    case neg =>
      refine .inl ?_
      unfold saysF
      dsimp only
      split
      · rename_i a b h1 h2
        exact absurd ⟨a, b, h1, h2⟩ hc
      · rfl
    obtain ⟨a, b, h1, h2⟩ := hc
    refine .inr ?_
    simp only [bnd_bnd, get0, get1, bnd_ok, h1, h2, opt_some, eqX, scalD, Bool.false_eq_true, if_false, retF_rt, saysF]
theorem sc25 : FnScope ["word", "sign"] ["word"] (defScope (top 25)) := ⟨rfl, rfl, rfl, by decide +kernel, rfl, by decide +kernel, by decide +kernel⟩
def okS (s : PySem.Str) : Bool := s.cps.toList.all fun c => decide (c < 0x110000)
def lawTokF (ds : List D) (g : Unit) : Out Unit D := match ds with
  | [.str s] => if s.length ≤ 100000 ∧ okS s = true then .ok (.bl (tokB s)) g else .stk
  | _ => .stk
def notL (d : D) : Bool := match d with
  | .str z => (match z.cps.toList with
    | [c] => !decide (c ∈ letters.cps.toList)
    | _ => true)
  | _ => true
theorem filt_nil (s : PySem.Str) (h : okS s = true) : eqD false (.lst (((DV.signs s).filter notL).map fun d => d)) (.lst []) = some (.bl (s.cps.toList.all fun c => decide (c ∈ letters.cps.toList))) := by
  have hm : ((DV.signs s).filter notL).map (fun d => d) = (s.cps.toList.filter fun c => !decide (c ∈ letters.cps.toList)).map fun c => D.str ⟨#[c]⟩ := by
    rw [List.map_id']
    unfold DV.signs
    rw [List.filter_map]
    rfl
  rw [hm]
  have hall : ∀ c ∈ (s.cps.toList.filter fun c => !decide (c ∈ letters.cps.toList)), c < 0x110000 := fun c hc => by
    have := (List.mem_filter.mp hc).1
    exact of_decide_eq_true (List.all_eq_true.mp h c this)
  have hb : (s.cps.toList.all fun c => decide (c ∈ letters.cps.toList)) = (s.cps.toList.filter fun c => !decide (c ∈ letters.cps.toList)).isEmpty := by
    rw [Bool.eq_iff_iff, List.all_eq_true, List.isEmpty_iff, List.filter_eq_nil_iff]
    exact ⟨fun h c hc => by simp [of_decide_eq_true (h c hc)], fun h c hc => by have := h c hc; simpa using this⟩
  rw [hb]
  generalize (s.cps.toList.filter fun c => !decide (c ∈ letters.cps.toList)) = cs at hall
  have py : ∀ cs : List Nat, D.pyA (cs.map fun c => D.str ⟨#[c]⟩) = some (cs.map fun c => PyData.str ⟨#[c]⟩) := fun cs => by
    induction cs with
    | nil => rfl
    | cons c r ih => simp only [List.map_cons, D.pyA, D.py, ih]
  have lay : ∀ cs : List Nat, (∀ c ∈ cs, c < 0x110000) → PyData.canLayAll0 (cs.map fun c => PyData.str ⟨#[c]⟩) = true := fun cs => by
    induction cs with
    | nil => intro _; rfl
    | cons c r ih =>
      intro h
      have h1 := h c List.mem_cons_self
      have h2 := ih fun d hd => h d (List.mem_cons_of_mem _ hd)
      simp only [List.map_cons, PyData.canLayAll0, PyData.canLay0, h2, Bool.and_true]
      unfold PyData.strOk
      simp [h1]
  have dep : ∀ cs : List Nat, PyData.depthAll (cs.map fun c => PyData.str ⟨#[c]⟩) = 0 := fun cs => by
    induction cs with
    | nil => rfl
    | cons c r ih => simp only [List.map_cons, PyData.depthAll, PyData.depth, ih]; rfl
  show eqD false (.lst (cs.map fun c => D.str ⟨#[c]⟩)) (.lst []) = _
  have sh : SeqAt.shaped (.list (cs.map fun c => PyData.str ⟨#[c]⟩)) = true := by
    unfold SeqAt.shaped
    have h1 : PyData.canLay0 (.list (cs.map fun c => PyData.str ⟨#[c]⟩)) = true := lay cs hall
    have h2 : PyData.depth (.list (cs.map fun c => PyData.str ⟨#[c]⟩)) ≤ 64 := by
      show PyData.depthAll _ + 1 ≤ 64
      rw [dep]; decide
    rw [h1, decide_eq_true h2]; rfl
  unfold eqD
  simp only [D.py, py, D.pyA, Option.map_some, sh, Bool.true_and]
  have sh0 : SeqAt.shaped (.list []) = true := rfl
  rw [sh0, if_pos rfl]
  cases cs <;> simp [PyData.eqv, PyData.eqvAll]
theorem ok_law_tok {f : Addr} {fd : FuncData} (F : Fun K "_law_is_token" "_law_is_token" (top 25) f fd) (Tk : Tk mg) : FnG P w K mg base 1 f fd ["word"] (spP K mg Rs 1 lawTokF) := by
  refine def_okP F sc25 rfl rs_non fun hd W => ⟨[], _, RSs_one (RS_ret rs_back (RE_or (RE_eqX (RE_var 0) (RX_str rs_flat)) (RE_one (RE_and (RE_chain (fun X _ => op_le) (fun X _ => op_le) sem_le sem_le (RX_int rs_flat) (RE_len (RA_cons (RE_var 0) RA_nil) rfl Tk.len) (RX_int rs_flat))
    (RE_one (RE_eqX (RF.e (RF_lc [("sign", 1)] sc25.nd (RI_seq (RE_var 0)) (RG_name 1 sc25.nd) (RTs_one (RT_notInS (RE_var 1) (RX_str rs_flat))) (RE_var 1) (by decide +kernel) (by decide))) (RF.e (RF_lst RA_nil)))))))), fun ds g hl => ?_⟩
  match ds, hl with
  | [d], _ =>
    cases d with
    | str s =>
      by_cases hs : s.length ≤ 100000 ∧ okS s = true
      case neg => exact .inl (if_neg hs)
      refine .inr (Eq.trans ?_ (if_pos hs).symm)
      have hc := compD_filter (parts := oneD) (is := [1]) (fc := fun ρ g => bnd (getR ρ 1 g) fun x g => bnd (inSign true x (.str letters) g) asB) (fe := fun ρ g => getR ρ 1 g) (ρ := wipeR (startR ["word", "sign"] [.str s]) [1]) (g := g)
          notL (fun d => d) (ds := DV.signs s) fun d hd => by
        obtain ⟨c, _, rfl⟩ := mem_signs hd
        exact ⟨_, rfl, rfl, fun _ => rfl⟩
      have nl : (DV.signs s).length ≤ 100000 := by rw [DV.signs_length]; exact hs.1
      have hlk : (Str.ofString "abcdefghijklmnopqrstuvwxyz") = letters := rfl
      simp only [bnd_bnd, List.map_cons, List.map_nil, get0, bnd_ok, eqX, scalD, opt_some, Bool.false_eq_true, if_false, lenD_str hs.1, semI_le, chO_b, chO_k, seqD_str, lenC_of nl, hlk]
      simp only [hc, bnd_ok, lenOk_of (show ([] : List D).length ≤ 100000 by decide), filt_nil s hs.2, opt_some, andV_b, andV_k, orV_b, orV_k, retF_rt]
      unfold tokB lettersB
      simp only [Bool.and_assoc, Bool.or_comm]
      rfl
    | _ => exact .inl rfl
end
end K87
set_option Elab.async false
set_option linter.all false
set_option maxRecDepth 100000
set_option maxHeartbeats 4000000
namespace K87
open PySem PySem.Spec PyProof.Rows L2 DV
theorem py_strs : ∀ ss : List PySem.Str, D.pyA (ss.map D.str) = some (ss.map PyData.str)
  | [] => rfl
  | s :: r => by simp only [List.map_cons, D.pyA, D.py, py_strs r]
theorem lay_strs : ∀ ss : List PySem.Str, (∀ s ∈ ss, okS s = true) → PyData.canLayAll0 (ss.map PyData.str) = true
  | [], _ => rfl
  | s :: r, h => by
    have h1 := h s List.mem_cons_self
    have h2 := lay_strs r fun d hd => h d (List.mem_cons_of_mem _ hd)
    simp only [List.map_cons, PyData.canLayAll0, PyData.canLay0, h2, Bool.and_true]
    unfold PyData.strOk
    unfold okS at h1
    rw [← Array.all_toList]
    exact h1
theorem dep_strs : ∀ ss : List PySem.Str, PyData.depthAll (ss.map PyData.str) = 0
  | [] => rfl
  | s :: r => by simp only [List.map_cons, PyData.depthAll, PyData.depth, dep_strs r]; rfl
theorem shaped_strs (ss : List PySem.Str) (h : ∀ s ∈ ss, okS s = true) : SeqAt.shaped (.list (ss.map PyData.str)) = true := by
  unfold SeqAt.shaped
  have h1 : PyData.canLay0 (.list (ss.map PyData.str)) = true := lay_strs ss h
  have h2 : PyData.depth (.list (ss.map PyData.str)) ≤ 64 := by
    show PyData.depthAll _ + 1 ≤ 64
    rw [dep_strs]; decide
  rw [h1, decide_eq_true h2]; rfl
theorem eqNil (ss : List PySem.Str) (h : ∀ s ∈ ss, okS s = true) : eqD false (.lst (ss.map .str)) (.lst []) = some (.bl ss.isEmpty) := by
  unfold eqD
  simp only [D.py, py_strs, D.pyA, Option.map_some, shaped_strs ss h, Bool.true_and]
  rw [show SeqAt.shaped (.list []) = true from rfl, if_pos rfl]
  cases ss <;> simp [PyData.eqv, PyData.eqvAll]
section
variable {P : Program} {w : World} {K : PySem.W.Frag} {mg : PySem.Str → Option Value} {base : Heap} {T : List (Addr × PySem.Str)} {ad l c : Addr} {cells : List Int}
theorem sc26 : FnScope ["form", "words", "word"] ["form"] (defScope (top 26)) := ⟨rfl, rfl, rfl, by decide +kernel, rfl, by decide +kernel, by decide +kernel⟩
def okW2 (s : PySem.Str) : Bool := decide (s.length ≤ 100000) && (decide ((wordsOf s).length ≤ 100000) && (wordsOf s).all fun z => decide (z.length ≤ 100000) && okS z)
def dueF (ds : List D) (g : Unit) : Out Unit D := match ds with
  | [.str s] => if okW2 s = true then .ok (if txtB (wordD s) = true then .lst (wordD s) else .non) g else .stk
  | _ => .stk
def notT (d : D) : Bool := match d with
  | .str z => !tokB z
  | _ => true
theorem ok_due {f f1 : Addr} {fd fd1 : FuncData} (F : Fun K "_law_due" "_law_due" (top 26) f fd) (Tk : Tk mg) (F1 : Fun K "_law_is_token" "_law_is_token" (top 25) f1 fd1) (m1 : mg "_law_is_token" = some (.ref f1)) (b1 : L2.Binds K fd1 ["word"] []) : FnG P w K mg base 2 f fd ["form"] (spP K mg Rf 1 dueF) := by
  have G1 : FnG P w K mg base 1 f1 fd1 ["word"] (spP K mg Rs 1 lawTokF) := ok_law_tok F1 Tk
  refine def_okP F sc26 rfl rf_non fun hd W => ⟨[1], _, RSs_cons (RS_asgF (O' := [1]) [] (RN_of 1 (RX_if rf_back (RT_neX (RE_var 0) (RX_str rs_flat)) (RF_split (RE_var 0) (RX_str rs_flat)) (RF_lst RA_nil)) sc26.nd) (by simp) (by simp))
    (RSs_one (RS_retM (RM_if (RW.t (RW_and (RT_cmp (fun X _ => op_le) sem_le (RE_len (RA_cons (RE_var 1) RA_nil) rfl Tk.len) (RX_int rs_flat) rfl) (RW_and1 (RT_eqX (RF.e (RF_lc [("word", 2)] sc26.nd (RI_seq (RE_var 1)) (RG_name 2 sc26.nd)
      (RTs_one (RT_not (RT_val (RX_callP rs_back G1 (Nat.le_refl _) rfl m1 F1.kp b1 (RA_cons (RE_var 2) RA_nil))))) (RE_var 2) (by decide +kernel) (by decide))) (RF.e (RF_lst RA_nil)))))) (RM_var 1 (by simp)) (RM_of (RX_non rf_flat))))), fun ds g hl => ?_⟩
  match ds, hl with
  | [d], _ =>
    cases d with
    | str s =>
      by_cases hs : okW2 s = true
      case neg => exact .inl (if_neg hs)
      refine .inr (Eq.trans ?_ (if_pos hs).symm)
      have hs2 := hs
      unfold okW2 at hs2
      simp only [Bool.and_eq_true, decide_eq_true_eq, List.all_eq_true] at hs2
      obtain ⟨h1, h2, h3⟩ := hs2
      have two : bnd (ifO (.ok (!decide (s = "")) g) (fun g => splitD s [.str " "] g) fun g => .ok (.lst []) g) (fun d g => (Out.ok (.nx ((startR ["form", "words", "word"] [.str s]).set 1 (some d))) g : Out Unit Fl)) = .ok (.nx [some (.str s), some (.lst (wordD s)), none]) g := by
        unfold wordD wordsOf
        by_cases he : s = ""
        · rw [decide_eq_true he, if_pos he]; rfl
        · rw [decide_eq_false he, if_neg he]
          show bnd (splitD s [.str sp] g) _ = _
          rw [splitD_ok (by decide +kernel) h1]; rfl
      have hc := compD_filter (parts := oneD) (is := [2]) (fc := fun ρ g => bnd (getR ρ 2 g) fun d g => bnd (liftP (lawTokF [d] ()) g) fun d g => bnd (asB d g) fun b g => .ok (!b) g) (fe := fun ρ g => getR ρ 2 g) (ρ := wipeR [some (.str s), some (.lst (wordD s)), none] [2]) (g := g)
          notT (fun d => d) (ds := wordD s) fun d hd => by
        unfold wordD at hd
        obtain ⟨z, hz, rfl⟩ := List.mem_map.mp hd
        have hz2 := h3 z hz
        have e : lawTokF [.str z] () = .ok (.bl (tokB z)) () := if_pos hz2
        refine ⟨_, rfl, ?_, fun _ => rfl⟩
        show bnd (liftP (lawTokF [.str z] ()) g) _ = _
        rw [e]; rfl
      have nl : (wordD s).length ≤ 100000 := by unfold wordD; rw [List.length_map]; exact h2
      have hf : ((wordD s).filter notT).map (fun d => d) = ((wordsOf s).filter fun z => !tokB z).map .str := by
        rw [List.map_id']
        unfold wordD
        rw [List.filter_map]
        rfl
      have hn : eqD false (.lst (((wordD s).filter notT).map fun d => d)) (.lst []) = some (.bl ((wordD s).all tokD)) := by
        rw [hf, eqNil _ fun z hz => (h3 z (List.mem_filter.mp hz).1).2]
        congr 2
        rw [Bool.eq_iff_iff, List.all_eq_true, List.isEmpty_iff, List.filter_eq_nil_iff]
        unfold wordD
        constructor
        · intro h d hd
          obtain ⟨z, hz, rfl⟩ := List.mem_map.mp hd
          have := h z hz
          simpa [tokD] using this
        · intro h z hz
          have := h (.str z) (List.mem_map.mpr ⟨z, hz, rfl⟩)
          simpa [tokD] using this
      simp only [bnd_bnd, get0, bnd_ok, opt_some, asB_bl, seqF_nx, asS_str, msk, eqX, scalD, if_true, two, getR_z, getR_s, lenD_lst, semI_le, seqD_lst, lenC_of nl, List.map_cons, List.map_nil, lenN1, hc, lenOk_of (show ([] : List D).length ≤ 100000 by decide), hn, andO_b, andO_k]
      unfold txtB
      cases (decide (((wordD s).length : Int) ≤ 400) && (wordD s).all tokD) <;> rfl
    | _ => exact .inl rfl
end
end K87
set_option Elab.async false
set_option linter.all false
set_option maxRecDepth 100000
set_option maxHeartbeats 4000000
namespace K87
open PySem PySem.Spec PyProof.Rows L2 DV
section
variable {P : Program} {w : World} {K : PySem.W.Frag} {mg : PySem.Str → Option Value} {base : Heap} {T : List (Addr × PySem.Str)} {ad l c : Addr} {cells : List Int}
theorem sc27 : FnScope ["draw", "form", "at", "way"] ["draw", "form"] (defScope (top 27)) := ⟨rfl, rfl, rfl, by decide +kernel, rfl, by decide +kernel, by decide +kernel⟩
def strs1 : List PySem.Str := [" ", ".", "a", "A", "1", "\n", "\t", "*", " . "]
def strs2 (s : PySem.Str) : List PySem.Str := [s ++ (" " : PySem.Str), (" " : PySem.Str) ++ s, s ++ (" abcdefgh" : PySem.Str), s ++ (" abcdefghi" : PySem.Str), s ++ ("  a" : PySem.Str), Txt.upper s, s ++ (" .." : PySem.Str), " ", ".", "", s ++ Txt.mul " ." 9]
def spoilF (cells : List Int) (ds : List D) (g : Dr) : Out Dr D := match ds with
  | [.hid 0, .str s] => if s.length ≤ 5000 then bnd (takeF cells [.hid 0, .int (s.length + 1)] g) fun a g => bnd (takeF cells [.hid 0, .int 5] g) fun v g => match a, v with
    | .int a, .int v => if v = 0 then addD (.str (cutS s none (some a))) (.str (cutS s (some (a + 1)) none)) g
        else if v = 1 then bnd (pickF cells [.hid 0, .lst (strs1.map .str)] g) fun p g => bnd (addD (.str (cutS s none (some a))) p g) fun q g => addD q (.str (cutS s (some a) none)) g
        else pickF cells [.hid 0, .lst ((strs2 s).map .str)] g
    | _, _ => .stk else .stk
  | _ => .stk
theorem take_ok {n : Int} (h : 0 < n) (h2 : n < 1073741824) (g : Dr) : takeF cells [.hid 0, .int n] g = .ok (.int (takeN cells n g)) (takeD cells n g) := if_pos ⟨h, h2⟩
set_option maxHeartbeats 400000 in
theorem ok_spoilt {f f1 f2 : Addr} {fd fd1 fd2 : FuncData} (F : Fun K "_law_spoilt" "_law_spoilt" (top 27) f fd) (Tk : Tk mg) (F1 : Fun K "_law_take" "_law_take" (top 21) f1 fd1) (m1 : mg "_law_take" = some (.ref f1)) (b1 : L2.Binds K fd1 ["draw", "amount"] [])
    (F2 : Fun K "_law_pick" "_law_pick" (top 22) f2 fd2) (m2 : mg "_law_pick" = some (.ref f2)) (b2 : L2.Binds K fd2 ["draw", "some"] [])
    (G1 : FnG P w K mg base 2 f1 fd1 ["draw", "amount"] (spD ⟨K, mg, hidf ad l c⟩ (wD T ad l c cells) Rs 2 (takeF cells))) (G2 : FnG P w K mg base 3 f2 fd2 ["draw", "some"] (spD ⟨K, mg, hidf ad l c⟩ (wD T ad l c cells) Rs 2 (pickF cells))) : FnG P w K mg base 4 f fd ["draw", "form"] (spD ⟨K, mg, hidf ad l c⟩ (wD T ad l c cells) Rs 2 (spoilF cells)) := by
  refine def_okD F sc27 rfl rs_non fun W => ⟨[], _, RSs_cons (RS_par (O' := []) [] (par_loc 2 3 sc27.nd (hw := fun env h => by unfold swappedStores Env.blockKind Env.kindOf; rw [h]; rfl))
      (RA_cons (RX_call rs_back G1 (Nat.le_of_ble_eq_true rfl) rfl m1 F1.kp b1 (RA_cons (RE_var 0) (RA_cons (RE_add (RE_len (RA_cons (RE_var 1) RA_nil) rfl Tk.len) (RX_int rs_flat)) RA_nil))) (RA_cons (RX_call rs_back G1 (Nat.le_of_ble_eq_true rfl) rfl m1 F1.kp b1 (RA_cons (RE_var 0) (RA_cons (RX_int rs_flat) RA_nil))) RA_nil)) (by simp) (by simp))
    (RSs_cons (RS_if (O' := []) (RT_eqX (RE_var 3) (RX_int rs_flat)) (RSs_one (RS_ret rs_back (RE_add (RE_slS (RE_var 1) RO_none (RO_some (RE_var 2))) (RE_slS (RE_var 1) (RO_some (RE_add (RE_var 2) (RX_int rs_flat))) RO_none)))) RSs_nil)
    (RSs_cons (RS_if (O' := []) (RT_eqX (RE_var 3) (RX_int rs_flat)) (RSs_one (RS_ret rs_back (RE_add (RE_add (RE_slS (RE_var 1) RO_none (RO_some (RE_var 2))) (RX_call rs_back G2 (Nat.le_refl _) rfl m2 F2.kp b2 (RA_cons (RE_var 0) (RA_cons (RF.e (RF_lst (RA_cons (RX_str rs_flat) (RA_cons (RX_str rs_flat) (RA_cons (RX_str rs_flat) (RA_cons (RX_str rs_flat) (RA_cons (RX_str rs_flat) (RA_cons (RX_str rs_flat) (RA_cons (RX_str rs_flat) (RA_cons (RX_str rs_flat) (RA_cons (RX_str rs_flat) RA_nil))))))))))) RA_nil))))
        (RE_slS (RE_var 1) (RO_some (RE_var 2)) RO_none)))) RSs_nil)
    (RSs_one (RS_ret rs_back (RX_call rs_back G2 (Nat.le_refl _) rfl m2 F2.kp b2 (RA_cons (RE_var 0) (RA_cons (RF.e (RF_lst
      (RA_cons (RE_add (RE_var 1) (RX_str rs_flat)) (RA_cons (RE_add (RX_str rs_flat) (RE_var 1)) (RA_cons (RE_add (RE_var 1) (RX_str rs_flat)) (RA_cons (RE_add (RE_var 1) (RX_str rs_flat)) (RA_cons (RE_add (RE_var 1) (RX_str rs_flat)) (RA_cons (RE_upper (RE_var 1)) (RA_cons (RE_add (RE_var 1) (RX_str rs_flat))
      (RA_cons (RX_str rs_flat) (RA_cons (RX_str rs_flat) (RA_cons (RX_str rs_flat) (RA_cons (RE_add (RE_var 1) (RE_mulS (RX_str rs_flat) (RX_int rs_flat))) RA_nil))))))))))))) RA_nil))))))), fun ds g hl => ?_⟩
  match ds, hl with
  | [d, e], _ =>
    by_cases hd : d = .hid 0 ∧ ∃ s, e = .str s ∧ s.length ≤ 5000
    case neg =>
      refine .inl ?_
      unfold spoilF
      split
      · rename_i s e
        cases e
        exact if_neg fun z => hd ⟨rfl, s, rfl, z⟩
      · rfl
    obtain ⟨rfl, s, rfl, hs⟩ := hd
    refine .inr (Eq.trans ?_ (if_pos hs).symm)
    have hs1 : s.length ≤ 100000 := by omega
    have hst : startR ["draw", "form", "at", "way"] [.hid 0, .str s] = [some (.hid 0), some (.str s), none, none] := rfl
    have t1 := take_ok (cells := cells) (n := (s.length : Int) + 1) (by omega) (by omega) g
    have t2 := take_ok (cells := cells) (n := 5) (by decide) (by decide) (takeD cells ((s.length : Int) + 1) g)
    have eI : ∀ i j : Int, eqX false (.int i) (.int j) = some (.bl (decide (i = j))) := fun _ _ => rfl
    have sS : ∀ (lo hi : Option Int) (g : Dr), slSD (.str s) lo hi g = .ok (.str (cutS s lo hi)) g := fun lo hi g => if_pos (Evl.sz_of hs1)
    have aS : ∀ (z : PySem.Str) (g : Dr), z.length ≤ 50000 → addD (.str s) (.str z) g = .ok (.str (s ++ z)) g := fun z g hz => addD_str (by omega)
    simp only [hst, bnd_bnd, getR_z, getR_s, bnd_ok, msk, lenD_str hs1, opt_some, addD_int, lenN2, t1, t2, two_ok, seqF_nx, List.set_cons_succ, List.set_cons_zero, eI, asB_bl]
    generalize takeN cells ((s.length : Int) + 1) g = a
    generalize takeN cells 5 (takeD cells ((s.length : Int) + 1) g) = v
    generalize takeD cells 5 (takeD cells ((s.length : Int) + 1) g) = g2
    by_cases hv : v = 0
    · rw [if_pos hv, decide_eq_true hv]
      simp only [ifO_t, bnd_ok, asI_int, sS]
      cases addD (.str (cutS s none (some a))) (.str (cutS s (some (a + 1)) none)) g2 <;> rfl
    rw [if_neg hv, decide_eq_false hv]
    simp only [ifO_f, seqF_nx, getR_z, getR_s, bnd_ok, eI, opt_some, asB_bl]
    by_cases hw : v = 1
    · rw [if_pos hw, decide_eq_true hw]
      simp only [ifO_t, bnd_ok, asI_int, sS, lenOk_of (show [D.str " ", D.str ".", D.str "a", D.str "A", D.str "1", D.str "\n", D.str "\t", D.str "*", D.str " . "].length ≤ 100000 by decide), lenN2]
      show retF (seqF (bnd (pickF cells [.hid 0, .lst (strs1.map .str)] g2) _) _) = bnd (pickF cells [.hid 0, .lst (strs1.map .str)] g2) _
      cases pickF cells [.hid 0, .lst (strs1.map .str)] g2 with
      | stk => rfl
      | err e g => rfl
      | ok p g3 =>
        simp only [bnd_ok]
        cases addD (.str (cutS s none (some a))) p g3 with
        | stk => rfl
        | err e g => rfl
        | ok q g4 =>
          simp only [bnd_ok]
          cases addD q (.str (cutS s (some a) none)) g4 <;> rfl
    · rw [if_neg hw, decide_eq_false hw]
      have up : ∀ g : Dr, upperD s [] g = .ok (.str (Txt.upper s)) g := fun g => if_pos (by omega)
      have a1 : ∀ g : Dr, addD (.str (" " : PySem.Str)) (.str s) g = .ok (.str ((" " : PySem.Str) ++ s)) g := fun g => addD_str (by show 1 + s.length ≤ _; omega)
      have ml : ∀ g : Dr, mulS (.str (" ." : PySem.Str)) (.int 9) g = .ok (.str (Txt.mul " ." 9)) g := fun g => by
        unfold mulS
        exact if_pos ⟨by decide, by decide, by decide⟩
      have mlen : (Txt.mul (" ." : PySem.Str) 9).length ≤ 50000 := by decide +kernel
      rw [ifO_f, seqF_nx, bz, bs, bz, bnd_of (aS (" " : PySem.Str) _ (by decide)), bs, bz, bnd_of (a1 _), bs, bz, bnd_of (aS (" abcdefgh" : PySem.Str) _ (by decide)), bs, bz, bnd_of (aS (" abcdefghi" : PySem.Str) _ (by decide)), bs, bz, bnd_of (aS ("  a" : PySem.Str) _ (by decide)), bs, bz, b_asS, bnd_of (up _), bs, bz, bnd_of (aS (" .." : PySem.Str) _ (by decide)), bs, bz, bnd_of (ml _), bnd_of (aS _ _ mlen), lenOk_of (by show (11 : Nat) ≤ 100000; decide), bnd_ok]
      have e2 : (strs2 s).map D.str = [.str (s ++ (" " : PySem.Str)), .str ((" " : PySem.Str) ++ s), .str (s ++ (" abcdefgh" : PySem.Str)), .str (s ++ (" abcdefghi" : PySem.Str)), .str (s ++ ("  a" : PySem.Str)), .str (Txt.upper s), .str (s ++ (" .." : PySem.Str)), .str " ", .str ".", .str "", .str (s ++ Txt.mul " ." 9)] := rfl
      rw [e2]
      generalize pickF cells [.hid 0, .lst [.str (s ++ (" " : PySem.Str)), .str ((" " : PySem.Str) ++ s), .str (s ++ (" abcdefgh" : PySem.Str)), .str (s ++ (" abcdefghi" : PySem.Str)), .str (s ++ ("  a" : PySem.Str)), .str (Txt.upper s), .str (s ++ (" .." : PySem.Str)), .str " ", .str ".", .str "", .str (s ++ Txt.mul " ." 9)]] g2 = m
      cases m <;> rfl
end
end K87
set_option Elab.async false
set_option linter.all false
set_option maxRecDepth 100000
set_option maxHeartbeats 4000000
namespace K87
open PySem PySem.Spec PyProof.Rows L2 DV
open Evl (Ex)
/-! ### the draw is made -/
def Rdr : RRel := fun T H1 Hb2 H2 v d => (v = .non ∧ d = .non) ∨ ∃ ad l c ls cs, v = .ref ad ∧ d = .tup [.lst (List.map D.int ls), .lst (List.map D.int cs)] ∧ H1 ad = none ∧ H1 l = none ∧ H1 c = none ∧ l ≠ c ∧
  H2 ad = some (.dK (kvD l c ⟨ls, 0, 0⟩)) ∧ H2 l = some (.lst (ls.map V.int)) ∧ H2 c = some (.lst (cs.map V.int))
theorem rdr_non : RNon Rdr := fun _ _ _ _ => .inl ⟨rfl, rfl⟩
def intsD : List D → Option (List Int)
  | [] => some []
  | .int i :: r => (intsD r).map (i :: ·)
  | _ => none
theorem intsD_map (l : List Int) : intsD (l.map D.int) = some l := by
  induction l with
  | nil => rfl
  | cons a r ih => show (intsD (r.map D.int)).map (a :: ·) = _; rw [ih]; rfl
theorem intsD_inv : ∀ {ds : List D} {ss : List Int}, intsD ds = some ss → ds = ss.map D.int
  | [], ss, h => by cases h; rfl
  | d :: r, ss, h => by
    cases d with
    | int s =>
      simp only [intsD] at h
      cases q : intsD r with
      | none => rw [q] at h; cases h
      | some ts => rw [q] at h; cases h; rw [intsD_inv q]; rfl
    | _ => cases h
def drawD {G : Type} (ls : List D) (d : D) (g : G) : Out G D := match intsD ls, d with
  | some a, .lst cs => (match intsD cs with
    | some b => .ok (.tup [.lst (a.map D.int), .lst (b.map D.int)]) g
    | none => .stk)
  | _, _ => .stk
theorem puts_draw (l c : Addr) (ls : List Int) : puts [] [((.inr "large" : Key), V.ref l), (.inr "rest", .int 0), (.inr "cells", .ref c), (.inr "turn", .int 0)] = kvD l c ⟨ls, 0, 0⟩ := by
  unfold kvD
  simp only [puts, putK, List.any_nil, List.any_cons, List.nil_append, List.cons_append, inr_ne k_lr, inr_ne k_lc, inr_ne k_lt, inr_ne k_rc, inr_ne k_rt, inr_ne k_ct, decide_false, Bool.or_false, Bool.false_eq_true, if_false]
section
variable {B : Bk} {E : En} {W : WX} {OB O O' : List Nat} {pos : Pos}
theorem RS_draw {x : PySem.Str} {e : Expr} {i j1 j2 j3 j4 j5 j6 : Nat} {px p1 p2 p3 p4 p5 p6 pd : Pos} {fe : Rho → E.G → Out E.G D} (h : RF B E W e fe) (hO : i ∈ O) (hN : B.N[i]? = some x := by rfl) (hv : Vis B.sc x := by first | exact Or.inl rfl | exact Or.inr (Or.inl rfl) | exact Or.inr (Or.inr rfl)) (hd : (x == ("__debug__" : PySem.Str)) = false := by decide)
    (hcd : (x == ("__classdict__" : PySem.Str)) = false := by decide) :
    RS B E W Rdr OB O O' (.Return (some (.Dict [some (.Constant (.str "large") j1 p1), some (.Constant (.str "rest") j2 p2), some (.Constant (.str "cells") j3 p3), some (.Constant (.str "turn") j4 p4)] [.Name x px, .Constant (.int 0) j5 p5, e, .Constant (.int 0) j6 p6] pd)) pos) (fun ρ g => bnd (lstAt ρ i g) fun ls g => bnd (fe ρ g) fun d g => bnd (drawD ls d g) fun d g => .ok (.rt d) g) := by
  obtain ⟨te, pe, qe⟩ := h
  refine ⟨tRet (tDict (tpCons (tC (.str "large")) (tVar i) (tpCons (tC (.str "rest")) (tC (.int 0)) (tpCons (tC (.str "cells")) te (tpCons (tC (.str "turn")) (tC (.int 0)) tpNil))))),
    fun X c => ps_ret (pe_dict (pp_cons pe_str (pe_var (by rw [c.hN]; exact hN) (by rw [c.hs]; exact hv) hd hcd) (pp_cons pe_str pe_int (pp_cons pe_str (pe X c.toInC) (pp_cons pe_str pe_int pp_nil)))) (by simp) (by show 4 ≤ 15; decide)), fun Hb0 H0 σ ρ Hb H g Z s r h => ?_⟩
  try dsimp only at h
  rcases lstAt_cases ρ i g with ⟨ds, qy, ey⟩ | ey
  rotate_left
  · rw [ey] at h; exact False.elim h
  rw [ey] at h
  simp only [bnd_ok] at h
  intro p hp
  obtain ⟨v, hv1, ⟨hfl, _⟩ | ⟨l, rfl, _, w1, w2, w3⟩⟩ := s.ow i _ hO qy
  · cases hfl
  rcases w3 with ⟨xs, ds2, e3, e2, rr⟩ | ⟨_, _, _, e3, _⟩
  rotate_left
  · cases e3
  cases e3
  refine ⟨_, hv1, ?_⟩
  have npl : p ≠ l := fun z => by rw [z, e2] at hp; cases hp
  have s1 := s.step (Gr.newH (o := .dK []) s.gr.sub hp)
  have r1 : E.R (upd H p (.dK [])) g := R_new r hp
  obtain ⟨Hb1, ex1, s2⟩ := s1.all
  refine qe σ _ Hb1 _ g _ (s2.pr r1) (PostS.err_of s2.gr h fun d g1 k u Hb2 H2 gr r2 x => ?_)
  have s3 := s1.top ex1 gr
  have nSp : ¬ E.S p := not_S r hp
  have hp2 : H2 p = some (.dK []) := gr.top p _ upd_same nSp
  have hl2 : H2 l = some (.lst xs) := gr.top l _ (by rw [upd_ne npl.symm]; exact e2) fun z => s.s0 l z w1
  cases hi : intsD ds with
  | none => simp only [drawD, hi] at k; exact False.elim k
  | some a =>
    rcases x with ⟨hf, hx⟩ | ⟨c, ys, es, rfl, rfl, np, nb, hc, rc⟩ | ⟨c, kvs, ks, vs, rfl, rfl, np, nb, hc, ek, rc⟩
    · cases hx <;> first | (simp only [drawD, hi] at k; exact False.elim k) | cases hf
    · cases hj : intsD es with
      | none => simp only [drawD, hi, hj] at k; exact False.elim k
      | some b =>
        simp only [drawD, hi, hj, bnd_ok] at k
        have ea := intsD_inv hi
        have eb := intsD_inv hj
        subst ea eb
        have ex := rr.ints_inv
        have ey := rc.ints_inv
        subst ex ey
        have ncp : c ≠ p := fun z => by rw [z, upd_same] at np; cases np
        have ncl : l ≠ c := fun z => by rw [← z, upd_ne npl.symm, e2] at np; cases np
        have hc0 : H c = none := by rw [upd_ne ncp] at np; exact np
        have bp : Hb p = none := Evl.fresh_back s.gr.sub hp
        have p0 : H0 p = none := none_back s.gr hp
        refine ⟨[((.inr "large" : Key), V.ref l), (.inr "rest", .int 0), (.inr "cells", .ref c), (.inr "turn", .int 0)], rfl, by show 4 ≤ 15; decide, hp2, ?_⟩
        rw [puts_draw l c a]
        refine k (.ref p) Hb _ (s3.gr.mut p0 bp) (R_mut r2 nSp hp2 fun φ => nofun) (.inr ⟨p, l, c, a, b, rfl, rfl, p0, w1, none_back s.gr hc0, ncl, upd_same, by rw [upd_ne npl.symm]; exact hl2, by rw [upd_ne ncp]; exact hc⟩)
    · simp only [drawD, hi] at k; exact False.elim k
end
end K87
set_option Elab.async false
set_option linter.all false
set_option maxRecDepth 100000
set_option maxHeartbeats 4000000
namespace K87
open PySem PySem.Spec PyProof.Rows L2 DV
theorem sem_ge {E : En} : Sem2 E Rs (rI0 fun i j => .bl (decide (j ≤ i))) (semI tru2 fun i j => .bl (decide (j ≤ i))) := sem_int0 rs_flat _ _ (fun _ _ => rfl) (fun _ _ i j => .bl _)
def absI (i : Int) : Int := if i < 0 then -i else i
def largeOf (ns : List Int) : List Int := (ns.filter fun i => decide (10 ^ 18 ≤ absI i)).map fun i => absI i - 10 ^ 18
def cellsOf (ns : List Int) : List Int := ns.map absI
section
variable {P : Program} {w : World} {K : PySem.W.Frag} {mg : PySem.Str → Option Value} {base : Heap} {T : List (Addr × PySem.Str)} {hid : Nat → Addr}
theorem sc19 : FnScope ["script", "large", "cell"] ["script"] (defScope (top 19)) := ⟨rfl, rfl, rfl, by decide +kernel, rfl, by decide +kernel, by decide +kernel⟩
def begunF (ds : List D) (g : Unit) : Out Unit D := match ds with
  | [.lst xs] => match intsD xs with
    | some ns => if ns.length ≤ 100000 then .ok (.tup [.lst ((largeOf ns).map .int), .lst ((cellsOf ns).map .int)]) g else .stk
    | none => .stk
  | _ => .stk
def pBig (d : D) : Bool := match d with
  | .int i => decide (10 ^ 18 ≤ absI i)
  | _ => false
def fBig (d : D) : D := match d with
  | .int i => .int (absI i - 10 ^ 18)
  | _ => .non
def fAbs (d : D) : D := match d with
  | .int i => .int (absI i)
  | _ => .non
theorem bnd_filter {G β : Type} {parts : D → Option (List D)} {is : List Nat} {fc : Rho → G → Out G Bool} {fe : Rho → G → Out G D} {ρ : Rho} {g : G} {ds : List D} {k : List D → G → Out G β} (p : D → Bool) (F : D → D) (h : ∀ d ∈ ds, ∃ es, parts d = some es ∧ fc (setAll ρ is es) g = .ok (p d) g ∧ (p d = true → fe (setAll ρ is es) g = .ok (F d) g)) :
    bnd (compD parts is fc fe ρ ds g) k = k ((ds.filter p).map F) g := by rw [compD_filter p F h]; rfl
set_option maxHeartbeats 400000 in
theorem ok_begun {f : Addr} {fd : FuncData} (F : Fun K "_law_begun" "_law_begun" (top 19) f fd) (TL : Tl mg) : FnG P w K mg base 1 f fd ["script"] (spD ⟨K, mg, hid⟩ (wT T) Rdr 1 begunF) := by
  refine def_okD F sc19 rfl rdr_non fun W => ⟨[1], _, RSs_cons (RS_asgF (O' := [1]) [] (RN_lc 1 [("cell", 2)] sc19.nd (RI_seq (RE_var 0)) (RG_name 2 sc19.nd) (RTs_one (RT_cmp (fun X _ => op_ge) sem_ge (RE_abs (RA_cons (RE_var 2) RA_nil) rfl TL.abs) (RE_powI (RX_int rs_flat) (RX_int rs_flat)) rfl))
      (RE_subI (RE_abs (RA_cons (RE_var 2) RA_nil) rfl TL.abs) (RE_powI (RX_int rs_flat) (RX_int rs_flat))) (by decide +kernel) (by decide)) (by simp) (by simp))
    (RSs_one (RS_draw (i := 1) (RF_lc [("cell", 2)] sc19.nd (RI_seq (RE_var 0)) (RG_name 2 sc19.nd) RTs_nil (RE_abs (RA_cons (RE_var 2) RA_nil) rfl TL.abs) (by decide +kernel) (by decide)) (by simp))), fun ds g hl => ?_⟩
  match ds, hl with
  | [d], _ =>
    by_cases hd : ∃ ns : List Int, d = .lst (ns.map .int) ∧ ns.length ≤ 100000
    case neg =>
      refine .inl ?_
      unfold begunF
      split
      · rename_i xs e
        cases e
        split
        · rename_i ns hn
          exact if_neg fun z => hd ⟨ns, by rw [intsD_inv hn], z⟩
        · rfl
      · rfl
    obtain ⟨ns, rfl, hn⟩ := hd
    have hF : begunF [.lst (ns.map .int)] g = .ok (.tup [.lst ((largeOf ns).map .int), .lst ((cellsOf ns).map .int)]) g := by simp only [begunF, intsD_map, if_pos hn]
    refine .inr (Eq.trans ?_ hF.symm)
    have nl : (ns.map D.int).length ≤ 100000 := by rw [List.length_map]; exact hn
    show retF (seqF (bnd (lenC (ns.map .int) (bnd (compD oneD [2] _ _ _ (ns.map .int) g) _)) _) _) = _
    rw [lenC_of nl, bnd_filter pBig fBig]
    · show retF (bnd (lenC (ns.map .int) (bnd (compD oneD [2] _ _ _ (ns.map .int) g) _)) _) = _
      rw [lenC_of nl, bnd_filter (fun _ => true) fAbs]
      · rw [List.filter_map, List.filter_map, List.map_map, List.map_map]
        have e1 : List.map (fBig ∘ D.int) (List.filter (pBig ∘ D.int) ns) = (largeOf ns).map D.int := by unfold largeOf; rw [List.map_map]; rfl
        have e2 : List.map (fAbs ∘ D.int) (List.filter ((fun _ => true) ∘ D.int) ns) = (cellsOf ns).map D.int := by
          have e0 : List.filter ((fun x => true) ∘ D.int) ns = ns := List.filter_eq_self.mpr fun _ _ => rfl
          rw [e0]; unfold cellsOf; rw [List.map_map]; rfl
        rw [e1, e2]
        show retF (bnd (drawD ((largeOf ns).map D.int) (.lst ((cellsOf ns).map D.int)) g) _) = _
        have e3 : drawD ((largeOf ns).map D.int) (.lst ((cellsOf ns).map D.int)) g = .ok (.tup [.lst ((largeOf ns).map .int), .lst ((cellsOf ns).map .int)]) g := by simp only [drawD, intsD_map]
        rw [e3]
        rfl
      · intro d hd
        obtain ⟨i, _, rfl⟩ := List.mem_map.mp hd
        exact ⟨_, rfl, rfl, fun _ => rfl⟩
    · intro d hd
      obtain ⟨i, _, rfl⟩ := List.mem_map.mp hd
      exact ⟨_, rfl, rfl, fun _ => rfl⟩
end
end K87
set_option Elab.async false
set_option linter.all false
set_option maxRecDepth 100000
set_option maxHeartbeats 1000000
namespace K87
open PySem PySem.Spec PyProof.Rows L2 DV TL
/-! ### the plain law -/
theorem okS_of {s : PySem.Str} (h : sgT s) : okS s = true := List.all_eq_true.mpr fun c hc => decide_eq_true (h c hc)
theorem words_mem {s p : PySem.Str} (h : p ∈ wordsOf s) : (∀ c ∈ tl p, c ∈ tl s) ∧ p.length ≤ s.length := by
  unfold wordsOf at h
  split at h
  · cases h
  · exact split_mem h
theorem words_cnt (s : PySem.Str) : (wordsOf s).length ≤ s.length + 1 := by
  unfold wordsOf
  split
  · exact Nat.zero_le _
  · exact split_cnt (by decide +kernel)
theorem okW2_of {s : PySem.Str} (h : s.length ≤ 90000) (hg : sgT s) : okW2 s = true := by
  unfold okW2
  have h1 := words_cnt s
  rw [decide_eq_true (by omega : s.length ≤ 100000), decide_eq_true (by omega : (wordsOf s).length ≤ 100000), Bool.true_and, Bool.true_and, List.all_eq_true]
  intro z hz
  obtain ⟨h2, h3⟩ := words_mem hz
  rw [decide_eq_true (by omega : z.length ≤ 100000), Bool.true_and]
  exact okS_of (sgT_sub h2 hg)
theorem okW_of {s : PySem.Str} (h : s.length ≤ 90000) : okW s = true := by
  unfold okW wordD
  have h1 := words_cnt s
  rw [decide_eq_true (by omega : s.length ≤ 100000), List.length_map, decide_eq_true (by omega : (wordsOf s).length ≤ 100000), Bool.true_and, Bool.true_and, List.all_eq_true]
  intro d hd
  obtain ⟨z, hz, rfl⟩ := List.mem_map.mp hd
  obtain ⟨h2, h3⟩ := words_mem hz
  exact decide_eq_true (by omega : z.length ≤ 100000)
def textD (s : PySem.Str) : D := if txtB (wordD s) = true then .lst (wordD s) else .non
theorem due_ok {s : PySem.Str} (h : s.length ≤ 90000) (hg : sgT s) (g : Unit) : dueF [.str s] g = .ok (textD s) g := if_pos (okW2_of h hg)
theorem readLine_ok {s : PySem.Str} (h : s.length ≤ 90000) (g : Unit) : readLine [.str s] g = if txtB (wordD s) = true then .ok (.lst (wordD s)) g else .err badForm g := by
  have e : textOf [.str s] g = .ok (textD s) g := if_pos (okW_of h)
  unfold readLine
  rw [e]
  unfold textD
  split <;> rfl
theorem says_same {d : D} {p : PyData} (h1 : seqLike d = true) (h2 : d.py = some p) (h3 : showOk p = true) (g : Unit) : saysF [d, d] g = .ok (.bl true) g := by
  have e := reprD_ok h1 h2 h3
  simp only [saysF, e, decide_true]
section
variable {cells : List Int}
theorem pick_ok {xs : List D} (h : xs ≠ []) (hl : xs.length ≤ 1000) (g : Dr) : ∃ d g', d ∈ xs ∧ pickF cells [.hid 0, .lst xs] g = .ok d g' := by
  have hpos : 0 < xs.length := List.length_pos_iff.mpr h
  have e := take_ok (cells := cells) (n := (xs.length : Int)) (by omega) (by omega) g
  have h1 : 0 ≤ takeN cells xs.length g := Int.emod_nonneg _ (by omega)
  have h2 : takeN cells xs.length g < xs.length := Int.emod_lt_of_pos _ (by omega)
  have hlt : (takeN cells xs.length g).toNat < xs.length := by omega
  refine ⟨xs[(takeN cells xs.length g).toNat], takeD cells xs.length g, List.getElem_mem hlt, ?_⟩
  show bnd (takeF cells [.hid 0, .int xs.length] g) _ = _
  rw [e]
  show opt (atI xs (takeN cells xs.length g)) _ = _
  unfold atI ixN
  rw [if_pos h1, if_pos h2]
  show opt (xs[(takeN cells xs.length g).toNat]?) _ = _
  rw [List.getElem?_eq_getElem hlt]
  rfl
/-- what a form is made of -/
structure Fm (s : PySem.Str) : Prop where
  len : s.length ≤ 4000
  sg : ∀ c ∈ tl s, c < 128
theorem Fm.sgT {s : PySem.Str} (h : Fm s) : sgT s := fun c hc => Nat.lt_trans (h.sg c hc) (by decide)
theorem sg_of {s : PySem.Str} (h : ((tl s).all fun c => decide (c < 128)) = true) : DV.sgT s := fun c hc => Nat.lt_trans (of_decide_eq_true (List.all_eq_true.mp h c hc)) (by decide)
theorem upper_ok {s : PySem.Str} (h : Fm s) : DV.sgT (Txt.upper s) ∧ (Txt.upper s).length ≤ 4000 := by
  have ha : (tl s).all (· < 128) = true := List.all_eq_true.mpr fun c hc => decide_eq_true (h.sg c hc)
  have e := SX.upper_S ha
  have e2 : (SX.S (tl s)) = s := mk_tl s
  rw [e2] at e
  rw [e]
  refine ⟨fun c hc => ?_, ?_⟩
  · have hc' : c ∈ (tl s).map PyProof.Rows.up1 := hc
    obtain ⟨d, hd, rfl⟩ := List.mem_map.mp hc'
    have := h.sg d hd
    unfold PyProof.Rows.up1
    split <;> omega
  · rw [len_tl]
    show ((tl s).map PyProof.Rows.up1).length ≤ 4000
    rw [List.length_map, ← len_tl]
    exact h.len
/-- what comes of a spoilt form -/
structure Spo (z : PySem.Str) : Prop where
  len : z.length ≤ 10000
  sg : DV.sgT z
theorem strs1_sg : ∀ z ∈ strs1, DV.sgT z ∧ z.length ≤ 100 := fun z hz => by
  have h : ∀ z ∈ strs1, ((tl z).all fun c => decide (c < 128)) = true ∧ z.length ≤ 100 := by decide +kernel
  exact ⟨sg_of (h z hz).1, (h z hz).2⟩
theorem strs2_sp {s : PySem.Str} (h : Fm s) : ∀ z ∈ strs2 s, Spo z := by
  have hl := h.len
  have ap : ∀ a b : PySem.Str, DV.sgT a → DV.sgT b → a.length + b.length ≤ 10000 → Spo (a ++ b) := fun a b ha hb hn => ⟨by rw [len_append]; exact hn, sgT_append ha hb⟩
  have k : ∀ b : PySem.Str, ((tl b).all fun c => decide (c < 128)) = true → b.length ≤ 100 → Spo (s ++ b) := fun b hb hn => ap s b h.sgT (sg_of hb) (by omega)
  intro z hz
  simp only [strs2, List.mem_cons, List.not_mem_nil, or_false] at hz
  rcases hz with rfl | rfl | rfl | rfl | rfl | rfl | rfl | rfl | rfl | rfl | rfl
  · exact k _ (by decide +kernel) (by decide +kernel)
  · have e1 : (Str.ofString " ").length = 1 := by decide +kernel
    exact ap _ _ (sg_of (by decide +kernel)) h.sgT (by omega)
  · exact k _ (by decide +kernel) (by decide +kernel)
  · exact k _ (by decide +kernel) (by decide +kernel)
  · exact k _ (by decide +kernel) (by decide +kernel)
  · exact ⟨by have := (upper_ok h).2; omega, (upper_ok h).1⟩
  · exact k _ (by decide +kernel) (by decide +kernel)
  · exact ⟨by decide +kernel, sg_of (by decide +kernel)⟩
  · exact ⟨by decide +kernel, sg_of (by decide +kernel)⟩
  · exact ⟨by decide +kernel, sg_of (by decide +kernel)⟩
  · exact k _ (by decide +kernel) (by decide +kernel)
theorem spoil_ok {s : PySem.Str} (h : Fm s) (g : Dr) : ∃ z g', Spo z ∧ spoilF cells [.hid 0, .str s] g = .ok (.str z) g' := by
  have hl := h.len
  have t1 := take_ok (cells := cells) (n := (s.length : Int) + 1) (by omega) (by omega) g
  have t2 := take_ok (cells := cells) (n := 5) (by decide) (by decide) (takeD cells ((s.length : Int) + 1) g)
  have e0 : spoilF cells [.hid 0, .str s] g = bnd (takeF cells [.hid 0, .int (s.length + 1)] g) fun a g => bnd (takeF cells [.hid 0, .int 5] g) fun v g => match a, v with
    | .int a, .int v => if v = 0 then addD (.str (cutS s none (some a))) (.str (cutS s (some (a + 1)) none)) g
        else if v = 1 then bnd (pickF cells [.hid 0, .lst (strs1.map .str)] g) fun p g => bnd (addD (.str (cutS s none (some a))) p g) fun q g => addD q (.str (cutS s (some a) none)) g
        else pickF cells [.hid 0, .lst ((strs2 s).map .str)] g
    | _, _ => .stk := if_pos (by omega : s.length ≤ 5000)
  rw [e0, t1, bnd_ok, t2, bnd_ok]
  generalize takeN cells ((s.length : Int) + 1) g = a
  generalize takeN cells 5 (takeD cells ((s.length : Int) + 1) g) = v
  generalize takeD cells 5 (takeD cells ((s.length : Int) + 1) g) = g2
  have hc : ∀ lo hi, DV.sgT (cutS s lo hi) ∧ (cutS s lo hi).length ≤ 4000 := fun lo hi => ⟨sgT_sub cut_mem h.sgT, Nat.le_trans (cut_len s lo hi) hl⟩
  dsimp only
  by_cases hv : v = 0
  · rw [if_pos hv]
    obtain ⟨c1, c2⟩ := hc none (some a)
    obtain ⟨d1, d2⟩ := hc (some (a + 1)) none
    refine ⟨_, g2, ⟨?_, sgT_append c1 d1⟩, addD_str (by omega)⟩
    rw [len_append]; omega
  rw [if_neg hv]
  by_cases hw : v = 1
  · rw [if_pos hw]
    obtain ⟨d, g3, hd, ep⟩ := pick_ok (cells := cells) (xs := strs1.map .str) (by simp [strs1]) (by decide) g2
    obtain ⟨p, hp, rfl⟩ := List.mem_map.mp hd
    obtain ⟨p1, p2⟩ := strs1_sg p hp
    obtain ⟨c1, c2⟩ := hc none (some a)
    obtain ⟨d1, d2⟩ := hc (some a) none
    rw [ep, bnd_ok, addD_str (by omega), bnd_ok, addD_str (by rw [len_append]; omega)]
    refine ⟨_, g3, ⟨?_, sgT_append (sgT_append c1 p1) d1⟩, rfl⟩
    rw [len_append, len_append]; omega
  · rw [if_neg hw]
    obtain ⟨d, g3, hd, ep⟩ := pick_ok (cells := cells) (xs := (strs2 s).map .str) (by simp [strs2]) (by simp [strs2]) g2
    obtain ⟨p, hp, rfl⟩ := List.mem_map.mp hd
    exact ⟨p, g3, strs2_sp h p hp, ep⟩
end
end K87
set_option Elab.async false
set_option linter.all false
set_option maxRecDepth 100000
set_option maxHeartbeats 1000000
namespace K87
open PySem PySem.Spec PyProof.Rows L2 DV TL
def toks : List PySem.Str := ["a", "abcdefgh", "zz", ".", "cat"]
structure Tk5 (ts : List PySem.Str) : Prop where
  len : ts.length ≤ 400
  mem : ∀ t ∈ ts, t ∈ toks
theorem toks_ok : ∀ t ∈ toks, 1 ≤ t.length ∧ t.length ≤ 8 ∧ (∀ c ∈ tl t, c < 128) ∧ 32 ∉ tl t ∧ tokB t = true := by decide +kernel
theorem sum_le : ∀ {ss : List PySem.Str}, (∀ t ∈ ss, t ∈ toks) → (ss.map (·.length)).sum ≤ ss.length * 8
  | [], _ => Nat.zero_le _
  | s :: r, h => by
    have h1 := (toks_ok s (h s List.mem_cons_self)).2.1
    have h2 := sum_le (ss := r) fun z hz => h z (List.mem_cons_of_mem _ hz)
    simp only [List.map_cons, List.sum_cons, List.length_cons]
    omega
section
variable {ts : List PySem.Str} (h : Tk5 ts)
include h
theorem tl_form : tl (Txt.join sp ts) = joinL [32] (ts.map tl) := by
  rw [join_eq, tl_join]
  rfl
theorem form_fm : Fm (Txt.join sp ts) := by
  have hl := h.len
  constructor
  · rw [len_tl, tl_form h]
    have := joinL_len (S := [32]) 8 (parts := ts.map tl) fun p hp => by
      obtain ⟨t, ht, rfl⟩ := List.mem_map.mp hp
      rw [← len_tl]
      exact (toks_ok t (h.mem t ht)).2.1
    rw [List.length_map] at this
    have e : ts.length * (8 + [32].length) = ts.length * 9 := rfl
    omega
  · intro c hc
    rw [tl_form h] at hc
    rcases joinL_mem hc with hc | ⟨p, hp, hc⟩
    · rw [List.mem_singleton.mp hc]; decide
    · obtain ⟨t, ht, rfl⟩ := List.mem_map.mp hp
      exact (toks_ok t (h.mem t ht)).2.2.1 c hc
theorem words_form : wordsOf (Txt.join sp ts) = ts := by
  unfold wordsOf
  cases ts with
  | nil => exact if_pos rfl
  | cons t r =>
    have ht := toks_ok t (h.mem t List.mem_cons_self)
    have hn : Txt.join sp (t :: r) ≠ "" := fun z => by
      have h1 := tl_form h
      rw [z] at h1
      have h2 := (joinL_sub (S := [32]) (List.mem_map.mpr ⟨t, List.mem_cons_self, rfl⟩ : tl t ∈ (t :: r).map tl)).2
      rw [← h1, ← len_tl, ← len_tl] at h2
      have : ("" : PySem.Str).length = 0 := by decide +kernel
      omega
    rw [if_neg hn]
    exact split_join (s := 32) (S := []) (by decide +kernel) (by decide +kernel) (by simp) fun p hp => (toks_ok p (h.mem p hp)).2.2.2.1
theorem wordD_form : wordD (Txt.join sp ts) = ts.map .str := by unfold wordD; rw [words_form h]
theorem txt_toks : txtB (ts.map .str) = true := by
  have hl := h.len
  unfold txtB
  rw [List.length_map, decide_eq_true (by omega : (ts.length : Int) ≤ 400), Bool.true_and, List.all_eq_true]
  intro d hd
  obtain ⟨t, ht, rfl⟩ := List.mem_map.mp hd
  exact (toks_ok t (h.mem t ht)).2.2.2.2
theorem tok_small : (ts.map D.str).length ≤ 100000 ∧ (ts.map D.str).all tokG = true := by
  have hl := h.len
  rw [List.length_map, List.all_eq_true]
  refine ⟨by omega, fun d hd => ?_⟩
  obtain ⟨t, ht, rfl⟩ := List.mem_map.mp hd
  have := (toks_ok t (h.mem t ht)).2.1
  exact decide_eq_true (by omega : t.length ≤ 100000)
theorem line_lst (g : Unit) : textLine [.lst (ts.map .str)] g = .ok (.str (Txt.join sp ts)) g := by
  have e : isTxt [.lst (ts.map .str)] g = .ok (.bl true) g := by
    show isTxtL _ _ = _
    unfold isTxtL
    rw [if_pos (tok_small h), txt_toks h]
  have h1 := sum_le h.mem
  have hl := h.len
  have hs : sp.length = 1 := by decide +kernel
  unfold textLine
  rw [e, bnd_ok]
  exact joinD_lst (by rw [hs]; omega)
theorem line_tup (g : Unit) : textLine [.tup (ts.map .str)] g = .ok (.str (Txt.join sp ts)) g := by
  have e : isTxt [.tup (ts.map .str)] g = .ok (.bl true) g := by
    show isTxtL _ _ = _
    unfold isTxtL
    rw [if_pos (tok_small h), txt_toks h]
  have h1 := sum_le h.mem
  have hl := h.len
  have hs : sp.length = 1 := by decide +kernel
  unfold textLine
  rw [e, bnd_ok]
  exact joinD_tup (by rw [hs]; omega)
theorem read_form (g : Unit) : readLine [.str (Txt.join sp ts)] g = .ok (.lst (ts.map .str)) g := by
  have := (form_fm h).len
  rw [readLine_ok (by omega), wordD_form h, if_pos (txt_toks h)]
theorem sgT_toks : ∀ t ∈ ts, DV.sgT t := fun t ht c hc => Nat.lt_trans ((toks_ok t (h.mem t ht)).2.2.1 c hc) (by decide)
theorem says4 (g : Unit) : saysF [.lst [.str (Txt.join sp ts), .str (Txt.join sp ts), .lst (ts.map .str), .lst (ts.map .str)], .lst [.str (Txt.join sp ts), .str (Txt.join sp ts), .lst (ts.map .str), .lst (ts.map .str)]] g = .ok (.bl true) g := by
  have hf := form_fm h
  have h1 := hf.len
  have hl := h.len
  have h2 := rlA_strs (n := 8) (ss := ts) fun t ht => (toks_ok t (h.mem t ht)).2.1
  refine says_same (p := .list [.str (Txt.join sp ts), .str (Txt.join sp ts), .list (ts.map .str), .list (ts.map .str)]) rfl ?_ (showOk_of ?_ ?_ ?_ ?_) g
  · simp only [D.py, D.pyA, pyA_strs, Option.map_some]
  · simp only [okP, okPA]
    exact ⟨hf.sgT, hf.sgT, okPA_strs (sgT_toks h), okPA_strs (sgT_toks h), trivial⟩
  · simp only [PyData.showable, PyData.showableAll, showableA_strs]; rfl
  · simp only [PyData.depth, PyData.depthAll, depthA_strs]; decide
  · simp only [rl, rlA]
    omega
end
/-- what is found and what is due are one -/
theorem says1 {ws : List PySem.Str} (h : txtB (ws.map .str) = true) (g : Unit) : saysF [.lst [.lst (ws.map .str)], .lst [.lst (ws.map .str)]] g = .ok (.bl true) g := by
  unfold txtB at h
  rw [Bool.and_eq_true, List.all_eq_true, List.length_map] at h
  have hl := of_decide_eq_true h.1
  have hw : ∀ t ∈ ws, t.length ≤ 8 ∧ DV.sgT t := fun t ht => by
    have h1 : tokB t = true := h.2 _ (List.mem_map.mpr ⟨t, ht, rfl⟩)
    unfold tokB lettersB at h1
    simp only [Bool.or_eq_true, Bool.and_eq_true, decide_eq_true_eq, List.all_eq_true] at h1
    rcases h1 with ⟨_, h2, h3⟩ | h1
    · exact ⟨by omega, fun c hc => by
        have h4 := h3 c hc
        have h5 : ∀ c ∈ letters.cps.toList, c < 0x110000 := by decide +kernel
        exact h5 c h4⟩
    · subst h1
      exact ⟨by decide +kernel, by unfold DV.sgT; decide +kernel⟩
  have h2 := rlA_strs (n := 8) (ss := ws) fun t ht => (hw t ht).1
  refine says_same (p := .list [.list (ws.map .str)]) rfl ?_ (showOk_of ?_ ?_ ?_ ?_) g
  · simp only [D.py, D.pyA, pyA_strs, Option.map_some]
  · simp only [okP, okPA]
    exact ⟨okPA_strs fun t ht => (hw t ht).2, trivial⟩
  · simp only [PyData.showable, PyData.showableAll, showableA_strs]; rfl
  · simp only [PyData.depth, PyData.depthAll, depthA_strs]; decide
  · simp only [rl, rlA]
    omega
end K87
set_option Elab.async false
set_option linter.all false
set_option maxRecDepth 100000
set_option maxHeartbeats 1000000
namespace K87
open PySem PySem.Spec PyProof.Rows L2 DV TL
def lawN : List PySem.Str := ["script", "draw", "turn", "many", "text", "form", "due", "caught", "told", "bad", "found", "odd", "thing", "lap"]
theorem sc28 : FnScope ["script", "draw", "turn", "many", "text", "form", "due", "caught", "told", "bad", "found", "odd", "thing", "lap"] ["script"] (defScope (top 28)) := ⟨rfl, rfl, rfl, by decide +kernel, rfl, by decide +kernel, by decide +kernel⟩
/-- the body of law's loop -/
def loopB : List Stmt := match (defBody (top 28)).getD 1 (.Pass ⟨0, 0, 0, 0⟩) with
  | .For _ _ b _ _ => b
  | _ => []
def st (i : Nat) : Stmt := loopB.getD i (.Pass ⟨0, 0, 0, 0⟩)
/-- the body of the inner loop -/
def inB : List Stmt := match st 4 with
  | .For _ _ b _ _ => b
  | _ => []
def si (i : Nat) : Stmt := inB.getD i (.Pass ⟨0, 0, 0, 0⟩)
abbrev CqOk (base : Heap) (mg : PySem.Str → Option Value) (T : List (Addr × PySem.Str)) (cq : Option (Value × PySem.Str)) : Prop := ∃ c P q, cq = some (.ref c, q) ∧ LamX.TabB base mg c P ∧ (P, q ++ "<lambda>") ∈ T ∧ ∀ p ∈ T, p.1 = P → p.2 = q ++ "<lambda>"
abbrev ro (S : D) (x2 x3 x4 x5 x6 x7 x8 x9 x10 x11 x12 x13 : Option D) : Rho := [some S, some (.hid 0), x2, x3, x4, x5, x6, x7, x8, x9, x10, x11, x12, x13]
section
variable {P : Program} {w : World} {K : PySem.W.Frag} {mg : PySem.Str → Option Value} {base : Heap} {T : List (Addr × PySem.Str)} {ad l c : Addr} {cells : List Int} {W : WX} {cq : Option (Value × PySem.Str)} {k : Nat}
abbrev LB (cq : Option (Value × PySem.Str)) : Bk := bkOf ["script", "draw", "turn", "many", "text", "form", "due", "caught", "told", "bad", "found", "odd", "thing", "lap"] (top 28) cq
/-- what is known of the defs that law calls -/
structure FnAt (P : Program) (w : World) (K : PySem.W.Frag) (mg : PySem.Str → Option Value) (base : Heap) (x : PySem.Str) (k : Nat) (ps : List PySem.Str) (sp : Sp) : Prop where
  ex : ∃ f fd, mg x = some (.ref f) ∧ PySem.W.keepIn K (.ref f) = true ∧ L2.Binds K fd ps [] ∧ FnG P w K mg base k f fd ps sp
structure Defs (P : Program) (w : World) (K : PySem.W.Frag) (mg : PySem.Str → Option Value) (base : Heap) (T : List (Addr × PySem.Str)) (ad l c : Addr) (cells : List Int) : Prop where
  pick : ∃ f fd, mg "_law_pick" = some (.ref f) ∧ PySem.W.keepIn K (.ref f) = true ∧ L2.Binds K fd ["draw", "some"] [] ∧ FnG P w K mg base 3 f fd ["draw", "some"] (spD ⟨K, mg, hidf ad l c⟩ (wD T ad l c cells) Rs 2 (pickF cells))
  says : FnAt P w K mg base "_law_says" 1 ["told", "due"] (spP K mg Rs 2 saysF)
  due : FnAt P w K mg base "_law_due" 2 ["form"] (spP K mg Rf 1 dueF)
  spoilt : FnAt P w K mg base "_law_spoilt" 4 ["draw", "form"] (spD ⟨K, mg, hidf ad l c⟩ (wD T ad l c cells) Rs 2 (spoilF cells))
  tline : ∃ f fd, mg "text_line" = some (.ref f) ∧ PySem.W.keepIn K (.ref f) = true ∧ L2.Binds K fd ["text"] [] ∧ KwB K fd ["text"] ["text"] [0] ∧ FnG P w K mg base 5 f fd ["text"] (spP K mg Rs 1 textLine)
  rline : ∃ f fd, mg "read_line" = some (.ref f) ∧ PySem.W.keepIn K (.ref f) = true ∧ L2.Binds K fd ["form"] [] ∧ KwB K fd ["form"] ["form"] [0] ∧ FnG P w K mg base 6 f fd ["form"] (spP K mg Rf 1 readLine)
def manysN : List Nat := [0, 1, 2, 9, 9, 40, 399, 400]
def manys : List D := manysN.map fun (n : Nat) => D.int (n : Int)
theorem manys_eq : manys = [.int 0, .int 1, .int 2, .int 9, .int 9, .int 40, .int 399, .int 400] := rfl
theorem rangeD_ok {G : Type} {n : Nat} {g : G} (h : n ≤ 100000) : rangeD [.int (n : Int)] g = .ok ((List.range n).map fun i => D.int (0 + (i : Nat))) g := by
  unfold rangeD
  dsimp only
  rw [if_pos ⟨by omega, by omega⟩]
  rfl
/-- many = _law_pick(draw, [..]) -/
theorem d0 (DF : Defs P w K mg base T ad l c cells) (hk : 3 ≤ k) : ∃ f, RS (LB cq) (ED P w K mg base k T ad l c cells) W Rs [] [] [] (st 0) f ∧
    ∀ S x2 x3 x4 x5 x6 x7 x8 x9 x10 x11 x12 x13 (g : Dr), ∃ d g', d ∈ manys ∧ f (ro S x2 x3 x4 x5 x6 x7 x8 x9 x10 x11 x12 x13) g = .ok (.nx (ro S x2 (some d) x4 x5 x6 x7 x8 x9 x10 x11 x12 x13)) g' := by
  obtain ⟨f, fd, m1, k1, b1, G1⟩ := DF.pick
  refine ⟨_, RS_asg (O' := []) [] (RN_of 3 (RX_call rs_back G1 hk rfl m1 k1 b1 (RA_cons (RE_var 1) (RA_cons (RF.e (RF_lst (RA_cons (RX_int rs_flat) (RA_cons (RX_int rs_flat) (RA_cons (RX_int rs_flat) (RA_cons (RX_int rs_flat) (RA_cons (RX_int rs_flat) (RA_cons (RX_int rs_flat) (RA_cons (RX_int rs_flat) (RA_cons (RX_int rs_flat) RA_nil)))))))))) RA_nil))) sc28.nd) (by simp) (by simp), fun S x2 x3 x4 x5 x6 x7 x8 x9 x10 x11 x12 x13 g => ?_⟩
  obtain ⟨d, g', hd, e⟩ := pick_ok (cells := cells) (xs := manys) (by rw [manys_eq]; exact nofun) (by decide) g
  refine ⟨d, g', hd, ?_⟩
  simp -implicitDefEqProofs only [ro, msk, ↓bnd_bnd, ↓ifO_bnd, ↓andO_bnd, ↓orO_bnd, ↓andV_bnd, ↓orV_bnd, ↓chO_bnd, ↓seqF_bnd, ↓retF_bnd, ↓loopF_bnd, ↓bnd_ifO, ↓seqF_ifO, ↓retF_ifO, ↓seqF_seqF, ↓bz, ↓bs, ↓bnd_ok, ↓lenOk_of, ↓lenC_of, ↓lenN1, ↓lenN2, ↓lenN3, ↓opt_some, ↓b_asS, ↓b_asI, ↓asB_bl, ↓ifO_t, ↓ifO_f, ↓andO_t, ↓andO_f, ↓orO_t, ↓orO_f, ↓andV_t, ↓andV_f, ↓orV_t, ↓orV_f, ↓seqF_nx, ↓seqF_rt, ↓retF_rt, ↓retF_nx, ↓two_k, ↓tupleD_lst, ↓tupleD_tup, perm0, if_true, List.length_cons, List.length_nil, Nat.reduceAdd, Nat.reduceLeDiff, List.set_cons_succ, List.set_cons_zero]

  rw [manys_eq] at e
  rw [e]
  rfl

def DT (ts : List PySem.Str) : D := .lst (ts.map .str)
/-- text = [_law_pick(draw, [..]) for lap in range(many)] -/
theorem d1 (DF : Defs P w K mg base T ad l c cells) (TL : Tl mg) (hk : 3 ≤ k) : ∃ f, RS (LB cq) (ED P w K mg base k T ad l c cells) W Rs [] [] [] (st 1) f ∧
    ∀ (S : D) (x2 x3 x4 x5 x6 x7 x8 x9 x10 x11 x12 x13 : Option D) (g : Dr), ∀ d ∈ manys, ∃ ts g', Tk5 ts ∧ f (ro S x2 (some d) x4 x5 x6 x7 x8 x9 x10 x11 x12 x13) g = .ok (.nx (ro S x2 (some d) (some (DT ts)) x5 x6 x7 x8 x9 x10 x11 x12 x13)) g' := by
  obtain ⟨f, fd, m1, k1, b1, G1⟩ := DF.pick
  refine ⟨_, RS_asgF (O' := []) [] (RN_lc 4 [("lap", 13)] sc28.nd (RI_range1 (RA_cons (RE_var 3) RA_nil) rfl TL.range) (RG_name 13 sc28.nd) RTs_nil
    (RX_call rs_back G1 hk rfl m1 k1 b1 (RA_cons (RE_var 1) (RA_cons (RF.e (RF_lst (RA_cons (RX_str rs_flat) (RA_cons (RX_str rs_flat) (RA_cons (RX_str rs_flat) (RA_cons (RX_str rs_flat) (RA_cons (RX_str rs_flat) RA_nil))))))) RA_nil))) (by dsimp only; decide +kernel) (by decide)) (by simp) (by simp), fun S x2 x3 x4 x5 x6 x7 x8 x9 x10 x11 x12 x13 g d hd => ?_⟩
  obtain ⟨n, hn, rfl⟩ := List.mem_map.mp hd
  replace hn : n ≤ 400 := (by decide : ∀ n ∈ manysN, n ≤ 400) n hn
  simp -implicitDefEqProofs only [ro, msk, ↓bnd_bnd, ↓ifO_bnd, ↓andO_bnd, ↓orO_bnd, ↓andV_bnd, ↓orV_bnd, ↓chO_bnd, ↓seqF_bnd, ↓retF_bnd, ↓loopF_bnd, ↓bnd_ifO, ↓seqF_ifO, ↓retF_ifO, ↓seqF_seqF, ↓bz, ↓bs, ↓bnd_ok, ↓lenOk_of, ↓lenC_of, ↓lenN1, ↓lenN2, ↓lenN3, ↓opt_some, ↓b_asS, ↓b_asI, ↓asB_bl, ↓ifO_t, ↓ifO_f, ↓andO_t, ↓andO_f, ↓orO_t, ↓orO_f, ↓andV_t, ↓andV_f, ↓orV_t, ↓orV_f, ↓seqF_nx, ↓seqF_rt, ↓retF_rt, ↓retF_nx, ↓two_k, ↓tupleD_lst, ↓tupleD_tup, perm0, if_true, List.length_cons, List.length_nil, Nat.reduceAdd, Nat.reduceLeDiff, List.set_cons_succ, List.set_cons_zero]
  have hr := rangeD_ok (g := g) (show n ≤ 100000 by omega)
  rw [hr, bnd_ok, lenC_of (by rw [List.length_map, List.length_range]; omega)]
  obtain ⟨ys, g', e, hl, hy⟩ := compD_run (parts := oneD) (is := [13]) (fc := fun _ g => .ok true g) (fe := fun ρ g => bnd (getR ρ 1 g) fun a g => pickF cells [a, .lst (toks.map .str)] g) (ρ := wipeR (ro S x2 (some (.int (n : Int))) x4 x5 x6 x7 x8 x9 x10 x11 x12 x13) [13]) (fun _ _ => True) (fun _ => trivial) (ds := (List.range n).map fun i => D.int (0 + (i : Nat))) (g := g) (fun _ y => y ∈ toks.map D.str) fun d hd g => by
    obtain ⟨y, g', hy, e⟩ := pick_ok (cells := cells) (xs := toks.map D.str) (by simp [toks]) (by decide) g
    exact ⟨[d], y, g', rfl, rfl, e, hy⟩
  have hts : ∃ ts : List PySem.Str, ys = ts.map D.str ∧ ∀ t ∈ ts, t ∈ toks := by
    clear e hl
    induction ys with
    | nil => exact ⟨[], rfl, fun _ h => nomatch h⟩
    | cons y r ih =>
      obtain ⟨ts, e1, h1⟩ := ih fun z hz => hy z (List.mem_cons_of_mem _ hz)
      obtain ⟨_, _, h2⟩ := hy y List.mem_cons_self
      obtain ⟨t, ht, rfl⟩ := List.mem_map.mp h2
      exact ⟨t :: ts, by rw [e1]; rfl, fun z hz => (List.mem_cons.mp hz).elim (fun q => q ▸ ht) (h1 z)⟩
  obtain ⟨ts, rfl, hm⟩ := hts
  refine ⟨ts, g', ⟨?_, hm⟩, ?_⟩
  · rw [List.length_map, List.length_map, List.length_range] at hl; omega
  · simp only [toks, List.map_cons, List.map_nil] at e
    simp only [List.map_cons, List.map_nil]
    rw [e]
    rfl
/-- form = " ".join(text) -/
theorem d2 : ∃ f, RS (LB cq) (ED P w K mg base k T ad l c cells) W Rs [] [] [] (st 2) f ∧
    ∀ (S : D) (x2 x3 x4 x5 x6 x7 x8 x9 x10 x11 x12 x13 : Option D) (g : Dr) ts, Tk5 ts → f (ro S x2 x3 (some (DT ts)) x5 x6 x7 x8 x9 x10 x11 x12 x13) g = .ok (.nx (ro S x2 x3 (some (DT ts)) (some (.str (Txt.join sp ts))) x6 x7 x8 x9 x10 x11 x12 x13)) g := by
  refine ⟨_, RS_asg (O' := []) [] (RN_of 5 (RE_join (RX_str rs_flat) (RE_var 4)) sc28.nd) (by simp) (by simp), fun S x2 x3 x4 x5 x6 x7 x8 x9 x10 x11 x12 x13 g ts h => ?_⟩
  have h1 := sum_le h.mem
  have hl := h.len
  have hs : sp.length = 1 := by decide +kernel
  have e : ∀ g : Dr, joinD sp [DT ts] g = .ok (.str (Txt.join sp ts)) g := fun g => joinD_lst (by rw [hs]; omega)
  have hsp : Str.ofString " " = sp := rfl
  simp -implicitDefEqProofs only [ro, msk, ↓bnd_bnd, ↓ifO_bnd, ↓andO_bnd, ↓orO_bnd, ↓andV_bnd, ↓orV_bnd, ↓chO_bnd, ↓seqF_bnd, ↓retF_bnd, ↓loopF_bnd, ↓bnd_ifO, ↓seqF_ifO, ↓retF_ifO, ↓seqF_seqF, ↓bz, ↓bs, ↓bnd_ok, ↓lenOk_of, ↓lenC_of, ↓lenN1, ↓lenN2, ↓lenN3, ↓opt_some, ↓b_asS, ↓b_asI, ↓asB_bl, ↓ifO_t, ↓ifO_f, ↓andO_t, ↓andO_f, ↓orO_t, ↓orO_f, ↓andV_t, ↓andV_f, ↓orV_t, ↓orV_f, ↓seqF_nx, ↓seqF_rt, ↓retF_rt, ↓retF_nx, ↓two_k, ↓tupleD_lst, ↓tupleD_tup, perm0, if_true, List.length_cons, List.length_nil, Nat.reduceAdd, Nat.reduceLeDiff, List.set_cons_succ, List.set_cons_zero, hsp, ↓e]

/-- if not _law_says([..], [..]): return False -/
theorem d3 (DF : Defs P w K mg base T ad l c cells) (Tk : Tk mg) (hk : 6 ≤ k) : ∃ f, RS (LB cq) (ED P w K mg base k T ad l c cells) W Rs [] [] [] (st 3) f ∧
    ∀ (S : D) (x2 x3 x4 x5 x6 x7 x8 x9 x10 x11 x12 x13 : Option D) (g : Dr) ts, Tk5 ts → f (ro S x2 x3 (some (DT ts)) (some (.str (Txt.join sp ts))) x6 x7 x8 x9 x10 x11 x12 x13) g = .ok (.nx (ro S x2 x3 (some (DT ts)) (some (.str (Txt.join sp ts))) x6 x7 x8 x9 x10 x11 x12 x13)) g := by
  obtain ⟨f1, fd1, m1, k1, b1, G1⟩ := DF.says.ex
  obtain ⟨f2, fd2, m2, k2, b2, kw2, G2⟩ := DF.tline
  obtain ⟨f3, fd3, m3, k3, b3, kw3, G3⟩ := DF.rline
  refine ⟨_, RS_if (O' := []) (RT_not (RT_val (RX_callP rs_back G1 (by show 1 ≤ k; omega) rfl m1 k1 b1 (RA_cons (RF.e (RF_lst (RA_cons (RX_callP rs_back G2 (by show 5 ≤ k; omega) rfl m2 k2 b2 (RA_cons (RE_var 4) RA_nil)) (RA_cons (RX_callKP rs_back G2 (by show 5 ≤ k; omega) rfl m2 k2 kw2 (RK_cons (RE_tuple (RA_cons (RE_var 4) RA_nil) rfl Tk.tuple) RK_nil))
    (RA_cons (RF.e (RX_callP rf_back G3 hk rfl m3 k3 b3 (RA_cons (RE_var 5) RA_nil))) (RA_cons (RF.e (RX_callKP rf_back G3 hk rfl m3 k3 kw3 (RK_cons (RE_var 5) RK_nil))) RA_nil)))))) (RA_cons (RF.e (RF_lst (RA_cons (RE_var 5) (RA_cons (RE_var 5) (RA_cons (RE_var 4) (RA_cons (RE_var 4) RA_nil)))))) RA_nil))))) (RSs_one (RS_ret rs_back (RX_bl rs_flat))) RSs_nil, fun S x2 x3 x4 x5 x6 x7 x8 x9 x10 x11 x12 x13 g ts h => ?_⟩
  have e1 : textLine [.lst (ts.map .str)] () = _ := line_lst h ()
  have e2 : textLine [.tup (ts.map .str)] () = _ := line_tup h ()
  have e3 : readLine [.str (Txt.join sp ts)] () = _ := read_form h ()
  have e4 := says4 h ()
  simp -implicitDefEqProofs only [ro, msk, ↓bnd_bnd, ↓ifO_bnd, ↓andO_bnd, ↓orO_bnd, ↓andV_bnd, ↓orV_bnd, ↓chO_bnd, ↓seqF_bnd, ↓retF_bnd, ↓loopF_bnd, ↓bnd_ifO, ↓seqF_ifO, ↓retF_ifO, ↓seqF_seqF, ↓bz, ↓bs, ↓bnd_ok, ↓lenOk_of, ↓lenC_of, ↓lenN1, ↓lenN2, ↓lenN3, ↓opt_some, ↓b_asS, ↓b_asI, ↓asB_bl, ↓ifO_t, ↓ifO_f, ↓andO_t, ↓andO_f, ↓orO_t, ↓orO_f, ↓andV_t, ↓andV_f, ↓orV_t, ↓orV_f, ↓seqF_nx, ↓seqF_rt, ↓retF_rt, ↓retF_nx, ↓two_k, ↓tupleD_lst, ↓tupleD_tup, perm0, if_true, List.length_cons, List.length_nil, Nat.reduceAdd, Nat.reduceLeDiff, List.set_cons_succ, List.set_cons_zero, DT, ↓b_lift e1, ↓b_lift e2, ↓b_lift e3, ↓b_lift e4, Bool.not_true]

/-- due, found = (_law_due(thing), []) -/
theorem e0 (DF : Defs P w K mg base T ad l c cells) (hk : 6 ≤ k) : ∃ f, RS (LB cq) (ED P w K mg base k T ad l c cells) W Rs [] [] [10] (si 0) f ∧
    ∀ (S : D) (x2 x3 x4 x5 x6 x7 x8 x9 x10 x11 x12 x13 : Option D) (g : Dr) z, Spo z → f (ro S x2 x3 x4 x5 x6 x7 x8 x9 x10 x11 (some (.str z)) x13) g = .ok (.nx (ro S x2 x3 x4 x5 (some (textD z)) x7 x8 x9 (some (.lst [])) x11 (some (.str z)) x13)) g := by
  obtain ⟨f1, fd1, m1, k1, b1, G1⟩ := DF.due.ex
  refine ⟨_, RS_parF (O' := [10]) [] (par_gen 6 10 sc28.nd (hw := fun env h => by unfold swappedStores Env.blockKind Env.kindOf; rw [h]; rfl)) (RAF2_mk (RX_callP rf_back G1 (by show 2 ≤ k; omega) rfl m1 k1 b1 (RA_cons (RE_var 12) RA_nil)) (RF_lst RA_nil)) (by simp) (by simp), fun S x2 x3 x4 x5 x6 x7 x8 x9 x10 x11 x12 x13 g z h => ?_⟩
  have hl := h.len
  have e1 := due_ok (by omega) h.sg ()
  simp -implicitDefEqProofs only [ro, msk, ↓bnd_bnd, ↓ifO_bnd, ↓andO_bnd, ↓orO_bnd, ↓andV_bnd, ↓orV_bnd, ↓chO_bnd, ↓seqF_bnd, ↓retF_bnd, ↓loopF_bnd, ↓bnd_ifO, ↓seqF_ifO, ↓retF_ifO, ↓seqF_seqF, ↓bz, ↓bs, ↓bnd_ok, ↓lenOk_of, ↓lenC_of, ↓lenN1, ↓lenN2, ↓lenN3, ↓opt_some, ↓b_asS, ↓b_asI, ↓asB_bl, ↓ifO_t, ↓ifO_f, ↓andO_t, ↓andO_f, ↓orO_t, ↓orO_f, ↓andV_t, ↓andV_f, ↓orV_t, ↓orV_f, ↓seqF_nx, ↓seqF_rt, ↓retF_rt, ↓retF_nx, ↓two_k, ↓tupleD_lst, ↓tupleD_tup, perm0, if_true, List.length_cons, List.length_nil, Nat.reduceAdd, Nat.reduceLeDiff, List.set_cons_succ, List.set_cons_zero, ↓b_lift e1]
/-- caught = _law_caught(lambda: found.append(read_line(thing))) -/
theorem e1 {g FE : Addr} {sg : Stmt} {fdg : FuncData} (DF : Defs P w K mg base T ad l c cells) (hk : 8 ≤ k) (C : CaughtOk K mg ["BadText", "BadForm"] g FE sg fdg) (M : CqOk base mg T cq) : ∃ f, RS (LB cq) (ED P w K mg base k T ad l c cells) W Rs [] [10] [10] (si 1) f ∧
    ∀ (S : D) (x2 x3 x4 x5 x6 x7 x8 x9 x10 x11 x12 x13 : Option D) (g : Dr) z, Spo z → f (ro S x2 x3 x4 x5 x6 x7 x8 x9 (some (.lst [])) x11 (some (.str z)) x13) g = .ok (.nx (if txtB (wordD z) = true then (ro S x2 x3 x4 x5 x6 (some .non) x8 x9 (some (.lst [.lst (wordD z)])) x11 (some (.str z)) x13) else (ro S x2 x3 x4 x5 x6 (some badForm) x8 x9 (some (.lst [])) x11 (some (.str z)) x13))) g := by
  obtain ⟨f3, fd3, m3, k3, b3, kw3, G3⟩ := DF.rline
  refine ⟨_, RS_caughtApp (O' := [10]) (i := 7) (iy := 10) (j := 6) [10] C ⟨M, LamX.lamS_by (by dsimp only; decide +kernel), fun _ => rfl, fun _ _ _ _ _ => rfl⟩ lamW_D hk rfl (fun XE => RF.e (RX_callP rf_back G3 (Nat.le_refl 6) rfl m3 k3 b3 (RA_cons (RE_var 12) RA_nil))) (by simp) (by simp) (by simp) (by decide) (hnd := sc28.nd), fun S x2 x3 x4 x5 x6 x7 x8 x9 x10 x11 x12 x13 g z h => ?_⟩
  have hl := h.len
  have e1 := readLine_ok (show z.length ≤ 90000 by omega) ()
  have ek : ∀ g : Dr, lstAt (ro S x2 x3 x4 x5 x6 x7 x8 x9 (some (.lst [])) x11 (some (.str z)) x13) 10 g = .ok [] g := fun _ => rfl
  by_cases hz : txtB (wordD z) = true
  · rw [if_pos hz] at e1 ⊢
    simp -implicitDefEqProofs only [↓b_get (ek _)]
    simp -implicitDefEqProofs only [ro, msk, ↓bnd_bnd, ↓ifO_bnd, ↓andO_bnd, ↓orO_bnd, ↓andV_bnd, ↓orV_bnd, ↓chO_bnd, ↓seqF_bnd, ↓retF_bnd, ↓loopF_bnd, ↓bnd_ifO, ↓seqF_ifO, ↓retF_ifO, ↓seqF_seqF, ↓bz, ↓bs, ↓bnd_ok, ↓lenOk_of, ↓lenC_of, ↓lenN1, ↓lenN2, ↓lenN3, ↓opt_some, ↓b_asS, ↓b_asI, ↓asB_bl, ↓ifO_t, ↓ifO_f, ↓andO_t, ↓andO_f, ↓orO_t, ↓orO_f, ↓andV_t, ↓andV_f, ↓orV_t, ↓orV_f, ↓seqF_nx, ↓seqF_rt, ↓retF_rt, ↓retF_nx, ↓two_k, ↓tupleD_lst, ↓tupleD_tup, perm0, if_true, List.length_cons, List.length_nil, Nat.reduceAdd, Nat.reduceLeDiff, List.set_cons_succ, List.set_cons_zero]
    rw [b_app_ok (lift_ok e1) (by decide)]
    rfl
  · rw [if_neg hz] at e1 ⊢
    simp -implicitDefEqProofs only [↓b_get (ek _)]
    simp -implicitDefEqProofs only [ro, msk, ↓bnd_bnd, ↓ifO_bnd, ↓andO_bnd, ↓orO_bnd, ↓andV_bnd, ↓orV_bnd, ↓chO_bnd, ↓seqF_bnd, ↓retF_bnd, ↓loopF_bnd, ↓bnd_ifO, ↓seqF_ifO, ↓retF_ifO, ↓seqF_seqF, ↓bz, ↓bs, ↓bnd_ok, ↓lenOk_of, ↓lenC_of, ↓lenN1, ↓lenN2, ↓lenN3, ↓opt_some, ↓b_asS, ↓b_asI, ↓asB_bl, ↓ifO_t, ↓ifO_f, ↓andO_t, ↓andO_f, ↓orO_t, ↓orO_f, ↓andV_t, ↓andV_f, ↓orV_t, ↓orV_f, ↓seqF_nx, ↓seqF_rt, ↓retF_rt, ↓retF_nx, ↓two_k, ↓tupleD_lst, ↓tupleD_tup, perm0, if_true, List.length_cons, List.length_nil, Nat.reduceAdd, Nat.reduceLeDiff, List.set_cons_succ, List.set_cons_zero]
    rw [b_app_err (lift_err e1) (by decide +kernel)]
    rfl
/-- if due is None and not isinstance(caught, BadForm) or due is not None and (caught is not None or not _law_says(found, [due])): return False -/
theorem e2 {CF : Addr} (DF : Defs P w K mg base T ad l c cells) (Tk : Tk mg) (hk : 8 ≤ k) (TB : IsTab K mg CF [("BadForm", true), ("BadText", false)]) (mF : mg "BadForm" = some (.ref CF)) : ∃ f, RS (LB cq) (ED P w K mg base k T ad l c cells) W Rs [] [10] [10] (si 2) f ∧
    (∀ (S : D) (x2 x3 x4 x5 x6 x7 x8 x9 x10 x11 x12 x13 : Option D) (g : Dr) z, txtB (wordD z) = true → f (ro S x2 x3 x4 x5 (some (textD z)) (some .non) x8 x9 (some (.lst [.lst (wordD z)])) x11 x12 x13) g = .ok (.nx (ro S x2 x3 x4 x5 (some (textD z)) (some .non) x8 x9 (some (.lst [.lst (wordD z)])) x11 x12 x13)) g) ∧
    (∀ (S : D) (x2 x3 x4 x5 x6 x7 x8 x9 x10 x11 x12 x13 : Option D) (g : Dr), f (ro S x2 x3 x4 x5 (some .non) (some badForm) x8 x9 x10 x11 x12 x13) g = .ok (.nx (ro S x2 x3 x4 x5 (some .non) (some badForm) x8 x9 x10 x11 x12 x13)) g) := by
  obtain ⟨f1, fd1, m1, k1, b1, G1⟩ := DF.says.ex
  refine ⟨_, RS_if (O' := [10]) (RW.t (RW_or (RW.t (RW_and (RT_isN (RE_var 6)) (RW_and1 (RT_not (RT_val (RE_isX TB (RE_var 7) rfl Tk.isinstance rfl mF)))))) (RW_or1 (RW.t (RW_and (RT_notN (RE_var 6)) (RW_and1 (RW.t (RW_or (RT_notN (RE_var 7)) (RW_or1 (RT_not (RT_val (RX_callP rs_back G1 (by show 1 ≤ k; omega) rfl m1 k1 b1 (RA_cons (RE_var 10) (RA_cons (RF.e (RF_lst (RA_cons (RE_var 6) RA_nil))) RA_nil))))))))))))))
    (RSs_one (RS_ret rs_back (RX_bl rs_flat))) RSs_nil, fun S x2 x3 x4 x5 x6 x7 x8 x9 x10 x11 x12 x13 g z hz => ?_, fun S x2 x3 x4 x5 x6 x7 x8 x9 x10 x11 x12 x13 g => ?_⟩
  · have et : textD z = .lst (wordD z) := if_pos hz
    have e1 := says1 hz ()
    have e2 : saysF [.lst [.lst (wordD z)], .lst [.lst (wordD z)]] () = _ := e1
    have n1 : isNonD (.lst (wordD z)) = false := rfl
    have n2 : isNonD .non = true := rfl
    rw [et]
    simp -implicitDefEqProofs only [ro, msk, ↓bnd_bnd, ↓ifO_bnd, ↓andO_bnd, ↓orO_bnd, ↓andV_bnd, ↓orV_bnd, ↓chO_bnd, ↓seqF_bnd, ↓retF_bnd, ↓loopF_bnd, ↓bnd_ifO, ↓seqF_ifO, ↓retF_ifO, ↓seqF_seqF, ↓bz, ↓bs, ↓bnd_ok, ↓lenOk_of, ↓lenC_of, ↓lenN1, ↓lenN2, ↓lenN3, ↓opt_some, ↓b_asS, ↓b_asI, ↓asB_bl, ↓ifO_t, ↓ifO_f, ↓andO_t, ↓andO_f, ↓orO_t, ↓orO_f, ↓andV_t, ↓andV_f, ↓orV_t, ↓orV_f, ↓seqF_nx, ↓seqF_rt, ↓retF_rt, ↓retF_nx, ↓two_k, ↓tupleD_lst, ↓tupleD_tup, perm0, if_true, List.length_cons, List.length_nil, Nat.reduceAdd, Nat.reduceLeDiff, List.set_cons_succ, List.set_cons_zero, n1, n2, Bool.not_false, Bool.not_true, ↓b_lift e2]
  · have n2 : isNonD .non = true := rfl
    have ei : isX [(Str.ofString "BadForm", true), (Str.ofString "BadText", false)] badForm = some (.bl true) := isX_exc (by decide +kernel)
    simp -implicitDefEqProofs only [ro, msk, ↓bnd_bnd, ↓ifO_bnd, ↓andO_bnd, ↓orO_bnd, ↓andV_bnd, ↓orV_bnd, ↓chO_bnd, ↓seqF_bnd, ↓retF_bnd, ↓loopF_bnd, ↓bnd_ifO, ↓seqF_ifO, ↓retF_ifO, ↓seqF_seqF, ↓bz, ↓bs, ↓bnd_ok, ↓lenOk_of, ↓lenC_of, ↓lenN1, ↓lenN2, ↓lenN3, ↓opt_some, ↓b_asS, ↓b_asI, ↓asB_bl, ↓ifO_t, ↓ifO_f, ↓andO_t, ↓andO_f, ↓orO_t, ↓orO_f, ↓andV_t, ↓andV_f, ↓orV_t, ↓orV_f, ↓seqF_nx, ↓seqF_rt, ↓retF_rt, ↓retF_nx, ↓two_k, ↓tupleD_lst, ↓tupleD_tup, perm0, if_true, List.length_cons, List.length_nil, Nat.reduceAdd, Nat.reduceLeDiff, List.set_cons_succ, List.set_cons_zero, n2, ei, Bool.not_false, Bool.not_true]

/-- for thing in [_law_spoilt(draw, form) for lap in range(6)] -/
theorem d4 {g FE CF : Addr} {sg : Stmt} {fdg : FuncData} (DF : Defs P w K mg base T ad l c cells) (Tk : Tk mg) (TL : Tl mg) (hk : 8 ≤ k) (C : CaughtOk K mg ["BadText", "BadForm"] g FE sg fdg) (M : CqOk base mg T cq) (TB : IsTab K mg CF [("BadForm", true), ("BadText", false)]) (mF : mg "BadForm" = some (.ref CF)) :
    ∃ f, RS (LB cq) (ED P w K mg base k T ad l c cells) W Rs [] [] [] (st 4) f ∧
    ∀ (S : D) (x2 x3 x4 x5 x6 x7 x8 x9 x10 x11 x12 x13 : Option D) (g : Dr) ts, Tk5 ts → ∃ ρ' g', f (ro S x2 x3 (some (DT ts)) (some (.str (Txt.join sp ts))) x6 x7 x8 x9 x10 x11 x12 x13) g = .ok (.nx ρ') g' ∧ ∃ x6 x7 x10 x12, ρ' = (ro S x2 x3 (some (DT ts)) (some (.str (Txt.join sp ts))) x6 x7 x8 x9 x10 x11 x12 x13) := by
  obtain ⟨f1, fd1, m1, k1, b1, G1⟩ := DF.spoilt.ex
  obtain ⟨fa, ha, ka⟩ := e0 (W := W) (cq := cq) DF (show 6 ≤ k by omega)
  obtain ⟨fb, hb, kb⟩ := e1 (W := W) DF hk C M
  obtain ⟨fc, hc, kc1, kc2⟩ := e2 (W := W) (cq := cq) DF Tk hk TB mF
  refine ⟨_, RS_for (O' := []) [] (RI_seq (RF.e (RF_lc [("lap", 13)] sc28.nd (RI_range1 (RA_cons (RX_int rs_flat) RA_nil) rfl TL.range) (RG_name 13 sc28.nd) RTs_nil (RX_call rs_back G1 (by show 4 ≤ k; omega) rfl m1 k1 b1 (RA_cons (RE_var 1) (RA_cons (RE_var 5) RA_nil))) (by dsimp only; decide +kernel) (by decide)))) (RG_name 12 sc28.nd)
    (RSs_cons ha (RSs_cons hb (RSs.weak (RSs_one hc) (by simp)))) (by simp) (by simp) (by simp), fun S x2 x3 x4 x5 x6 x7 x8 x9 x10 x11 x12 x13 g ts h => ?_⟩
  have hf := form_fm h
  have e6 : ∀ {β : Type} (g : Dr) (k : List D → Dr → Out Dr β), bnd (rangeD [.int 6] g) k = k ((List.range 6).map fun i => D.int (0 + (i : Nat))) g := fun g k => bnd_of (rangeD_ok (n := 6) (by decide))
  simp -implicitDefEqProofs only [ro, msk, ↓bnd_bnd, ↓ifO_bnd, ↓andO_bnd, ↓orO_bnd, ↓andV_bnd, ↓orV_bnd, ↓chO_bnd, ↓seqF_bnd, ↓retF_bnd, ↓loopF_bnd, ↓bnd_ifO, ↓seqF_ifO, ↓retF_ifO, ↓seqF_seqF, ↓bz, ↓bs, ↓bnd_ok, ↓lenOk_of, ↓lenC_of, ↓lenN1, ↓lenN2, ↓lenN3, ↓opt_some, ↓b_asS, ↓b_asI, ↓asB_bl, ↓ifO_t, ↓ifO_f, ↓andO_t, ↓andO_f, ↓orO_t, ↓orO_f, ↓andV_t, ↓andV_f, ↓orV_t, ↓orV_f, ↓seqF_nx, ↓seqF_rt, ↓retF_rt, ↓retF_nx, ↓two_k, ↓tupleD_lst, ↓tupleD_tup, perm0, if_true, List.length_cons, List.length_nil, Nat.reduceAdd, Nat.reduceLeDiff, List.set_cons_succ, List.set_cons_zero, ↓e6, List.map_cons, List.map_nil, List.length_map, List.length_range]
  obtain ⟨ys, g', e, hl, hy⟩ := compD_run (parts := oneD) (is := [13]) (fc := fun _ g => .ok true g) (fe := fun ρ g => bnd (getR ρ 1 g) fun a g => bnd (getR ρ 5 g) fun a_1 g => spoilF cells [a, a_1] g) (ρ := wipeR (ro S x2 x3 (some (DT ts)) (some (.str (Txt.join sp ts))) x6 x7 x8 x9 x10 x11 x12 x13) [13]) (fun _ _ => True) (fun _ => trivial) (ds := (List.range 6).map fun i => D.int (0 + (i : Nat))) (g := g) (fun _ y => ∃ z, y = .str z ∧ Spo z) fun d hd g => by
    obtain ⟨z, g', hz, e⟩ := spoil_ok (cells := cells) hf g
    exact ⟨[d], .str z, g', rfl, rfl, e, z, rfl, hz⟩
  have hs : ∀ {β : Type} (ds : List D) (g : Dr) (k : List D → Dr → Out Dr β), bnd (seqD (.lst ds) g) k = k ds g := fun _ _ _ => rfl
  simp -implicitDefEqProofs only [↓b_get e, ↓hs]
  refine forD_run (fun ρ' => ∃ x6 x7 x10 x12, ρ' = (ro S x2 x3 (some (DT ts)) (some (.str (Txt.join sp ts))) x6 x7 x8 x9 x10 x11 x12 x13)) ⟨_, _, _, _, rfl⟩ fun d hd ρ g ⟨x6, x7, x10, x12, er⟩ => ?_
  subst er
  obtain ⟨_, _, z, rfl, hz⟩ := hy d hd
  have a1 := ka S x2 x3 (some (DT ts)) (some (.str (Txt.join sp ts))) x6 x7 x8 x9 x10 x11 (some (.str z)) x13 g z hz
  rw [show setAll (ro S x2 x3 (some (DT ts)) (some (.str (Txt.join sp ts))) x6 x7 x8 x9 x10 x11 x12 x13) [12] [.str z] = (ro S x2 x3 (some (DT ts)) (some (.str (Txt.join sp ts))) x6 x7 x8 x9 x10 x11 (some (.str z)) x13) from rfl, seqF_of a1]
  have a2 := kb S x2 x3 (some (DT ts)) (some (.str (Txt.join sp ts))) (some (textD z)) x7 x8 x9 (some (.lst [])) x11 (some (.str z)) x13 g z hz
  rw [seqF_of a2]
  by_cases ht : txtB (wordD z) = true
  · rw [if_pos ht]
    exact ⟨_, g, kc1 S x2 x3 (some (DT ts)) (some (.str (Txt.join sp ts))) (some (textD z)) (some .non) x8 x9 x10 x11 (some (.str z)) x13 g z ht, _, _, _, _, rfl⟩
  · rw [if_neg ht]
    have et : textD z = .non := if_neg ht
    rw [et]
    exact ⟨_, g, kc2 S x2 x3 (some (DT ts)) (some (.str (Txt.join sp ts))) (some .non) (some badForm) x8 x9 _ x11 (some (.str z)) x13 g, _, _, _, _, rfl⟩
/-- told = read_line(form) -/
theorem d5 (DF : Defs P w K mg base T ad l c cells) (hk : 6 ≤ k) : ∃ f, RS (LB cq) (ED P w K mg base k T ad l c cells) W Rs [] [] [8] (st 5) f ∧
    ∀ (S : D) (x2 x3 x4 x5 x6 x7 x8 x9 x10 x11 x12 x13 : Option D) (g : Dr) ts, Tk5 ts → f (ro S x2 x3 x4 (some (.str (Txt.join sp ts))) x6 x7 x8 x9 x10 x11 x12 x13) g = .ok (.nx (ro S x2 x3 x4 (some (.str (Txt.join sp ts))) x6 x7 (some (DT ts)) x9 x10 x11 x12 x13)) g := by
  obtain ⟨f3, fd3, m3, k3, b3, kw3, G3⟩ := DF.rline
  refine ⟨_, RS_asgF (O' := [8]) [] (RN_of 8 (RX_callP rf_back G3 hk rfl m3 k3 b3 (RA_cons (RE_var 5) RA_nil)) sc28.nd) (by simp) (by simp), fun S x2 x3 x4 x5 x6 x7 x8 x9 x10 x11 x12 x13 g ts h => ?_⟩
  have e3 : readLine [.str (Txt.join sp ts)] () = _ := read_form h ()
  simp -implicitDefEqProofs only [ro, msk, ↓bnd_bnd, ↓ifO_bnd, ↓andO_bnd, ↓orO_bnd, ↓andV_bnd, ↓orV_bnd, ↓chO_bnd, ↓seqF_bnd, ↓retF_bnd, ↓loopF_bnd, ↓bnd_ifO, ↓seqF_ifO, ↓retF_ifO, ↓seqF_seqF, ↓bz, ↓bs, ↓bnd_ok, ↓lenOk_of, ↓lenC_of, ↓lenN1, ↓lenN2, ↓lenN3, ↓opt_some, ↓b_asS, ↓b_asI, ↓asB_bl, ↓ifO_t, ↓ifO_f, ↓andO_t, ↓andO_f, ↓orO_t, ↓orO_f, ↓andV_t, ↓andV_f, ↓orV_t, ↓orV_f, ↓seqF_nx, ↓seqF_rt, ↓retF_rt, ↓retF_nx, ↓two_k, ↓tupleD_lst, ↓tupleD_tup, perm0, if_true, List.length_cons, List.length_nil, Nat.reduceAdd, Nat.reduceLeDiff, List.set_cons_succ, List.set_cons_zero, DT, ↓b_lift e3]
/-- told.append("a") -/
theorem d6 : ∃ f, RS (LB cq) (ED P w K mg base k T ad l c cells) W Rs [] [8] [] (st 6) f ∧
    ∀ (S : D) (x2 x3 x4 x5 x6 x7 x8 x9 x10 x11 x12 x13 : Option D) (g : Dr) ts, Tk5 ts → ∃ y, f (ro S x2 x3 x4 x5 x6 x7 (some (DT ts)) x9 x10 x11 x12 x13) g = .ok (.nx (ro S x2 x3 x4 x5 x6 x7 (some y) x9 x10 x11 x12 x13)) g := by
  refine ⟨_, RS_app (O' := []) (i := 8) [8] (RX_str rs_flat) (by simp) (by simp) (by simp), fun S x2 x3 x4 x5 x6 x7 x8 x9 x10 x11 x12 x13 g ts h => ?_⟩
  have ek : ∀ g : Dr, lstAt (ro S x2 x3 x4 x5 x6 x7 (some (DT ts)) x9 x10 x11 x12 x13) 8 g = .ok (ts.map .str) g := fun _ => rfl
  simp -implicitDefEqProofs only [↓b_get (ek _)]
  simp -implicitDefEqProofs only [ro, msk, ↓bnd_bnd, ↓ifO_bnd, ↓andO_bnd, ↓orO_bnd, ↓andV_bnd, ↓orV_bnd, ↓chO_bnd, ↓seqF_bnd, ↓retF_bnd, ↓loopF_bnd, ↓bnd_ifO, ↓seqF_ifO, ↓retF_ifO, ↓seqF_seqF, ↓bz, ↓bs, ↓bnd_ok, ↓lenOk_of, ↓lenC_of, ↓lenN1, ↓lenN2, ↓lenN3, ↓opt_some, ↓b_asS, ↓b_asI, ↓asB_bl, ↓ifO_t, ↓ifO_f, ↓andO_t, ↓andO_f, ↓orO_t, ↓orO_f, ↓andV_t, ↓andV_f, ↓orV_t, ↓orV_f, ↓seqF_nx, ↓seqF_rt, ↓retF_rt, ↓retF_nx, ↓two_k, ↓tupleD_lst, ↓tupleD_tup, perm0, if_true, List.length_cons, List.length_nil, Nat.reduceAdd, Nat.reduceLeDiff, List.set_cons_succ, List.set_cons_zero]
  have hl := h.len
  have h6 : (100000 : Nat) < sizeLine := by decide
  refine ⟨_, bnd_of (if_pos (by rw [List.length_map]; omega))⟩

def bads : List D := [.non, .int 5, .str ("a b" : PySem.Str), .lst [.str ("A" : PySem.Str)], .lst [.str ("" : PySem.Str)], .lst [.str ("a" : PySem.Str), .non], .lst [.lst [.str ("a" : PySem.Str)]], .lst (List.replicate 401 [D.str ("a" : PySem.Str)]).flatten, .tup [.str ("abcdefghi" : PySem.Str)], .dct [] []]
def odds : List D := [.non, .int 5, .lst [.str ("a" : PySem.Str)], .tup [.str ("a" : PySem.Str)], .bl true]
theorem bad_err : ∀ b ∈ bads, textLine [b] () = .err badText () := fun b hb => by
  have tx : ∀ ts : List D, (decide (ts.length ≤ 100000) && ts.all tokG) = true → txtB ts = false → isTxtL ts () = .ok (.bl false) () := fun ts h1 h2 => by
    rw [Bool.and_eq_true, decide_eq_true_eq] at h1
    unfold isTxtL
    rw [if_pos h1, h2]
  have fin : ∀ d, isTxt [d] () = .ok (.bl false) () → textLine [d] () = .err badText () := fun d h => by unfold textLine; rw [h]; rfl
  simp only [bads, List.mem_cons, List.not_mem_nil, or_false] at hb
  rcases hb with rfl | rfl | rfl | rfl | rfl | rfl | rfl | rfl | rfl | rfl
  · exact fin _ rfl
  · exact fin _ rfl
  · exact fin _ rfl
  · exact fin _ (tx _ (by decide +kernel) (by decide +kernel))
  · exact fin _ (tx _ (by decide +kernel) (by decide +kernel))
  · exact fin _ (tx _ (by decide +kernel) (by decide +kernel))
  · exact fin _ (tx _ (by decide +kernel) (by decide +kernel))
  · exact fin _ (tx _ (by decide +kernel) (by decide +kernel))
  · exact fin _ (tx _ (by decide +kernel) (by decide +kernel))
  · exact fin _ rfl
theorem odd_err : ∀ b ∈ odds, readLine [b] () = .err badForm () := fun b hb => by
  simp only [odds, List.mem_cons, List.not_mem_nil, or_false] at hb
  rcases hb with rfl | rfl | rfl | rfl | rfl <;> rfl
/-- bad, odd = (_law_pick(..), _law_pick(..)) -/
theorem d7 (DF : Defs P w K mg base T ad l c cells) (hk : 3 ≤ k) : ∃ f, RS (LB cq) (ED P w K mg base k T ad l c cells) W Rs [] [] [] (st 7) f ∧
    ∀ (S : D) (x2 x3 x4 x5 x6 x7 x8 x9 x10 x11 x12 x13 : Option D) (g : Dr), ∃ b o g', b ∈ bads ∧ o ∈ odds ∧ f (ro S x2 x3 x4 x5 x6 x7 x8 x9 x10 x11 x12 x13) g = .ok (.nx (ro S x2 x3 x4 x5 x6 x7 x8 (some b) x10 (some o) x12 x13)) g' := by
  obtain ⟨f1, fd1, m1, k1, b1, G1⟩ := DF.pick
  refine ⟨_, RS_par (O' := []) [] (par_gen 9 11 sc28.nd (hw := fun env h => by unfold swappedStores Env.blockKind Env.kindOf; rw [h]; rfl))
    (RA_cons (RX_call rs_back G1 hk rfl m1 k1 b1 (RA_cons (RE_var 1) (RA_cons (RF.e (RF_lst (RA_cons (RX_non rs_flat) (RA_cons (RX_int rs_flat) (RA_cons (RX_str rs_flat) (RA_cons (RF.e (RF_lst (RA_cons (RX_str rs_flat) RA_nil))) (RA_cons (RF.e (RF_lst (RA_cons (RX_str rs_flat) RA_nil)))
        (RA_cons (RF.e (RF_lst (RA_cons (RX_str rs_flat) (RA_cons (RX_non rs_flat) RA_nil)))) (RA_cons (RF.e (RF_lst (RA_cons (RF.e (RF_lst (RA_cons (RX_str rs_flat) RA_nil))) RA_nil))) (RA_cons (RF.e (RF_rep (RF_lst (RA_cons (RX_str rs_flat) RA_nil)) (RX_int rs_flat))) (RA_cons (RE_tup (RA_cons (RX_str rs_flat) RA_nil)) (RA_cons (RF.e RF_dict0) RA_nil)))))))))))) RA_nil)))
      (RA_cons (RX_call rs_back G1 hk rfl m1 k1 b1 (RA_cons (RE_var 1) (RA_cons (RF.e (RF_lst (RA_cons (RX_non rs_flat) (RA_cons (RX_int rs_flat) (RA_cons (RF.e (RF_lst (RA_cons (RX_str rs_flat) RA_nil))) (RA_cons (RE_tup (RA_cons (RX_str rs_flat) RA_nil)) (RA_cons (RX_bl rs_flat) RA_nil))))))) RA_nil))) RA_nil)) (by simp) (by simp), fun S x2 x3 x4 x5 x6 x7 x8 x9 x10 x11 x12 x13 g => ?_⟩
  obtain ⟨b, g1, hb, p1⟩ := pick_ok (cells := cells) (xs := bads) (by simp [bads]) (by decide) g
  obtain ⟨o, g2, ho, p2⟩ := pick_ok (cells := cells) (xs := odds) (by simp [odds]) (by decide) g1
  refine ⟨b, o, g2, hb, ho, ?_⟩
  have er : ∀ {β : Type} (g : Dr) (k : D → Dr → Out Dr β), bnd (repD (.lst [.str ("a" : PySem.Str)]) (.int 401) g) k = k (.lst (List.replicate 401 [D.str ("a" : PySem.Str)]).flatten) g := fun g k => bnd_of (repD_ok (by decide))
  have q1 : ∀ {β : Type} (k : D → Dr → Out Dr β), bnd (pickF cells [.hid 0, .lst bads] g) k = k b g1 := fun k => bnd_of p1
  have q2 : ∀ {β : Type} (k : D → Dr → Out Dr β), bnd (pickF cells [.hid 0, .lst odds] g1) k = k o g2 := fun k => bnd_of p2
  unfold bads at q1
  unfold odds at q2
  simp -implicitDefEqProofs only [ro, msk, ↓bnd_bnd, ↓ifO_bnd, ↓andO_bnd, ↓orO_bnd, ↓andV_bnd, ↓orV_bnd, ↓chO_bnd, ↓seqF_bnd, ↓retF_bnd, ↓loopF_bnd, ↓bnd_ifO, ↓seqF_ifO, ↓retF_ifO, ↓seqF_seqF, ↓bz, ↓bs, ↓bnd_ok, ↓lenOk_of, ↓lenC_of, ↓lenN1, ↓lenN2, ↓lenN3, ↓opt_some, ↓b_asS, ↓b_asI, ↓asB_bl, ↓ifO_t, ↓ifO_f, ↓andO_t, ↓andO_f, ↓orO_t, ↓orO_f, ↓andV_t, ↓andV_f, ↓orV_t, ↓orV_f, ↓seqF_nx, ↓seqF_rt, ↓retF_rt, ↓retF_nx, ↓two_k, ↓tupleD_lst, ↓tupleD_tup, perm0, if_true, List.length_cons, List.length_nil, Nat.reduceAdd, Nat.reduceLeDiff, List.set_cons_succ, List.set_cons_zero, ↓er, ↓q1, ↓q2]

/-- caught = [_law_caught(lambda: text_line(bad))] -/
theorem d8 {g FE : Addr} {sg : Stmt} {fdg : FuncData} (DF : Defs P w K mg base T ad l c cells) (hk : 8 ≤ k) (C : CaughtOk K mg ["BadText", "BadForm"] g FE sg fdg) (M : CqOk base mg T cq) : ∃ f, RS (LB cq) (ED P w K mg base k T ad l c cells) W Rs [] [] [7] (st 8) f ∧
    ∀ (S : D) (x2 x3 x4 x5 x6 x7 x8 x9 x10 x11 x12 x13 : Option D) (g : Dr), ∀ b ∈ bads, f (ro S x2 x3 x4 x5 x6 x7 x8 (some b) x10 x11 x12 x13) g = .ok (.nx (ro S x2 x3 x4 x5 x6 (some (.lst [badText])) x8 (some b) x10 x11 x12 x13)) g := by
  obtain ⟨f2, fd2, m2, k2, b2, kw2, G2⟩ := DF.tline
  refine ⟨_, RS_asgF (O' := [7]) [] (RN_of 7 (RF_lst (RA_cons (RE_caught (j := 6) C ⟨M, LamX.lamS_by (by dsimp only; decide +kernel), fun _ => rfl, fun _ _ _ _ _ => rfl⟩ lamW_D hk rfl (fun XE => RX_callP rs_back G2 (Nat.le_of_ble_eq_true rfl) rfl m2 k2 b2 (RA_cons (RE_var 9) RA_nil))) RA_nil)) sc28.nd) (by simp) (by simp), fun S x2 x3 x4 x5 x6 x7 x8 x9 x10 x11 x12 x13 g b hb => ?_⟩
  have e1 := bad_err b hb
  simp -implicitDefEqProofs only [ro, msk, ↓bnd_bnd, ↓ifO_bnd, ↓andO_bnd, ↓orO_bnd, ↓andV_bnd, ↓orV_bnd, ↓chO_bnd, ↓seqF_bnd, ↓retF_bnd, ↓loopF_bnd, ↓bnd_ifO, ↓seqF_ifO, ↓retF_ifO, ↓seqF_seqF, ↓bz, ↓bs, ↓bnd_ok, ↓lenOk_of, ↓lenC_of, ↓lenN1, ↓lenN2, ↓lenN3, ↓opt_some, ↓b_asS, ↓b_asI, ↓asB_bl, ↓ifO_t, ↓ifO_f, ↓andO_t, ↓andO_f, ↓orO_t, ↓orO_f, ↓andV_t, ↓andV_f, ↓orV_t, ↓orV_f, ↓seqF_nx, ↓seqF_rt, ↓retF_rt, ↓retF_nx, ↓two_k, ↓tupleD_lst, ↓tupleD_tup, perm0, if_true, List.length_cons, List.length_nil, Nat.reduceAdd, Nat.reduceLeDiff, List.set_cons_succ, List.set_cons_zero]
  rw [b_catch_err (lift_err e1) (by decide +kernel)]
  rfl
/-- caught.append(_law_caught(lambda: read_line(odd))) -/
theorem d9 {g FE : Addr} {sg : Stmt} {fdg : FuncData} (DF : Defs P w K mg base T ad l c cells) (hk : 8 ≤ k) (C : CaughtOk K mg ["BadText", "BadForm"] g FE sg fdg) (M : CqOk base mg T cq) : ∃ f, RS (LB cq) (ED P w K mg base k T ad l c cells) W Rs [] [7] [] (st 9) f ∧
    ∀ (S : D) (x2 x3 x4 x5 x6 x7 x8 x9 x10 x11 x12 x13 : Option D) (g : Dr), ∀ b ∈ odds, f (ro S x2 x3 x4 x5 x6 (some (.lst [badText])) x8 x9 x10 (some b) x12 x13) g = .ok (.nx (ro S x2 x3 x4 x5 x6 (some (.lst [badText, badForm])) x8 x9 x10 (some b) x12 x13)) g := by
  obtain ⟨f2, fd2, m2, k2, b2, kw2, G2⟩ := DF.rline
  refine ⟨_, RS_app (O' := []) (i := 7) [7] (RE_caught (j := 6) C ⟨M, LamX.lamS_by (by dsimp only; decide +kernel), fun _ => rfl, fun _ _ _ _ _ => rfl⟩ lamW_D hk rfl (fun XE => RF.e (RX_callP rf_back G2 (Nat.le_of_ble_eq_true rfl) rfl m2 k2 b2 (RA_cons (RE_var 11) RA_nil)))) (by simp) (by simp) (by simp), fun S x2 x3 x4 x5 x6 x7 x8 x9 x10 x11 x12 x13 g b hb => ?_⟩
  have e1 := odd_err b hb
  have ek : ∀ g : Dr, lstAt (ro S x2 x3 x4 x5 x6 (some (.lst [badText])) x8 x9 x10 (some b) x12 x13) 7 g = .ok [badText] g := fun _ => rfl
  simp -implicitDefEqProofs only [↓b_get (ek _)]
  simp -implicitDefEqProofs only [ro, msk, ↓bnd_bnd, ↓ifO_bnd, ↓andO_bnd, ↓orO_bnd, ↓andV_bnd, ↓orV_bnd, ↓chO_bnd, ↓seqF_bnd, ↓retF_bnd, ↓loopF_bnd, ↓bnd_ifO, ↓seqF_ifO, ↓retF_ifO, ↓seqF_seqF, ↓bz, ↓bs, ↓bnd_ok, ↓lenOk_of, ↓lenC_of, ↓lenN1, ↓lenN2, ↓lenN3, ↓opt_some, ↓b_asS, ↓b_asI, ↓asB_bl, ↓ifO_t, ↓ifO_f, ↓andO_t, ↓andO_f, ↓orO_t, ↓orO_f, ↓andV_t, ↓andV_f, ↓orV_t, ↓orV_f, ↓seqF_nx, ↓seqF_rt, ↓retF_rt, ↓retF_nx, ↓two_k, ↓tupleD_lst, ↓tupleD_tup, perm0, if_true, List.length_cons, List.length_nil, Nat.reduceAdd, Nat.reduceLeDiff, List.set_cons_succ, List.set_cons_zero]
  rw [b_catch_err (lift_err e1) (by decide +kernel)]
  have h6 : (100000 : Nat) < sizeLine := by decide
  refine Eq.trans (bnd_of (if_pos (by show 1 < sizeLine; omega))) ?_
  rfl
/-- if not isinstance(caught[0], BadText) or not isinstance(caught[1], BadForm) or read_line(form) != text: return False -/
theorem d10 {CF CT : Addr} (DF : Defs P w K mg base T ad l c cells) (Tk : Tk mg) (hk : 6 ≤ k) (TB : IsTab K mg CF [("BadForm", true), ("BadText", false)]) (mF : mg "BadForm" = some (.ref CF)) (TB2 : IsTab K mg CT [("BadForm", false), ("BadText", true)]) (mT : mg "BadText" = some (.ref CT)) :
    ∃ f, RS (LB cq) (ED P w K mg base k T ad l c cells) W Rs [] [] [] (st 10) f ∧
    ∀ (S : D) (x2 x3 x4 x5 x6 x7 x8 x9 x10 x11 x12 x13 : Option D) (g : Dr) ts, Tk5 ts → f (ro S x2 x3 (some (DT ts)) (some (.str (Txt.join sp ts))) x6 (some (.lst [badText, badForm])) x8 x9 x10 x11 x12 x13) g = .ok (.nx (ro S x2 x3 (some (DT ts)) (some (.str (Txt.join sp ts))) x6 (some (.lst [badText, badForm])) x8 x9 x10 x11 x12 x13)) g := by
  obtain ⟨f3, fd3, m3, k3, b3, kw3, G3⟩ := DF.rline
  refine ⟨_, RS_if (O' := []) (RW.t (RW_or (RT_not (RT_val (RE_isX TB2 (RE_ix (RE_var 7) (RX_int rs_flat)) rfl Tk.isinstance rfl mT))) (RW_or (RT_not (RT_val (RE_isX TB (RE_ix (RE_var 7) (RX_int rs_flat)) rfl Tk.isinstance rfl mF))) (RW_or1 (RT_neX (RF.e (RX_callP rf_back G3 hk rfl m3 k3 b3 (RA_cons (RE_var 5) RA_nil))) (RE_var 4))))))
    (RSs_one (RS_ret rs_back (RX_bl rs_flat))) RSs_nil, fun S x2 x3 x4 x5 x6 x7 x8 x9 x10 x11 x12 x13 g ts h => ?_⟩
  have e3 : readLine [.str (Txt.join sp ts)] () = _ := read_form h ()
  have i1 : isX [(Str.ofString "BadForm", false), (Str.ofString "BadText", true)] badText = some (.bl true) := isX_exc (by decide +kernel)
  have i2 : isX [(Str.ofString "BadForm", true), (Str.ofString "BadText", false)] badForm = some (.bl true) := isX_exc (by decide +kernel)
  have x0 : ixD (.lst [badText, badForm]) (.int 0) = some badText := rfl
  have x1 : ixD (.lst [badText, badForm]) (.int 1) = some badForm := rfl
  have en : eqX true (.lst (ts.map .str)) (.lst (ts.map .str)) = some (.bl false) := by
    unfold eqX
    have h1 : scalD (.lst (ts.map .str)) (.lst (ts.map .str)) = none := rfl
    rw [h1]
    unfold eqD
    have h2 : D.py (.lst (ts.map .str)) = some (.list (ts.map .str)) := by simp only [D.py, pyA_strs, Option.map_some]
    rw [h2]
    dsimp only
    have h3 := shaped_strs ts fun s hs => okS_of (sgT_toks h s hs)
    have h4 : PyData.canLay0 (.list (ts.map .str)) = true := by
      unfold SeqAt.shaped at h3
      rw [Bool.and_eq_true] at h3
      exact h3.1
    rw [h3, if_pos (by rfl), if_pos rfl, SeqAt.eqv_refl _ h4]
    rfl
  simp -implicitDefEqProofs only [ro, msk, ↓bnd_bnd, ↓ifO_bnd, ↓andO_bnd, ↓orO_bnd, ↓andV_bnd, ↓orV_bnd, ↓chO_bnd, ↓seqF_bnd, ↓retF_bnd, ↓loopF_bnd, ↓bnd_ifO, ↓seqF_ifO, ↓retF_ifO, ↓seqF_seqF, ↓bz, ↓bs, ↓bnd_ok, ↓lenOk_of, ↓lenC_of, ↓lenN1, ↓lenN2, ↓lenN3, ↓opt_some, ↓b_asS, ↓b_asI, ↓asB_bl, ↓ifO_t, ↓ifO_f, ↓andO_t, ↓andO_f, ↓orO_t, ↓orO_f, ↓andV_t, ↓andV_f, ↓orV_t, ↓orV_f, ↓seqF_nx, ↓seqF_rt, ↓retF_rt, ↓retF_nx, ↓two_k, ↓tupleD_lst, ↓tupleD_tup, perm0, if_true, List.length_cons, List.length_nil, Nat.reduceAdd, Nat.reduceLeDiff, List.set_cons_succ, List.set_cons_zero, DT, x0, x1, i1, i2, en, ↓b_lift e3, Bool.not_true]

def s1 : Stmt := (defBody (top 28)).getD 1 (.Pass ⟨0, 0, 0, 0⟩)
def s2 : Stmt := (defBody (top 28)).getD 2 (.Pass ⟨0, 0, 0, 0⟩)
/-- all that law needs -/
structure Hyp (P : Program) (w : World) (K : PySem.W.Frag) (mg : PySem.Str → Option Value) (base : Heap) (T : List (Addr × PySem.Str)) (ad l c : Addr) (cells : List Int) (cq : Option (Value × PySem.Str)) (CF CT g FE : Addr) (sg : Stmt) (fdg : FuncData) : Prop where
  DF : Defs P w K mg base T ad l c cells
  Tk : Tk mg
  TL : Tl mg
  C : CaughtOk K mg ["BadText", "BadForm"] g FE sg fdg
  M : CqOk base mg T cq
  TB : IsTab K mg CF [("BadForm", true), ("BadText", false)]
  mF : mg "BadForm" = some (.ref CF)
  TB2 : IsTab K mg CT [("BadForm", false), ("BadText", true)]
  mT : mg "BadText" = some (.ref CT)
theorem d11 {CF CT g FE : Addr} {sg : Stmt} {fdg : FuncData} (Y : Hyp P w K mg base T ad l c cells cq CF CT g FE sg fdg) (hk : 8 ≤ k) : ∃ f, RS (LB cq) (ED P w K mg base k T ad l c cells) W Rs [] [] [] s1 f ∧
    ∀ (S : D) (x2 x3 x4 x5 x6 x7 x8 x9 x10 x11 x12 x13 : Option D) (g : Dr) (ns : List Int), ns.length ≤ 100 → S = .lst (ns.map .int) → ∃ ρ' g', f (ro S x2 x3 x4 x5 x6 x7 x8 x9 x10 x11 x12 x13) g = .ok (.nx ρ') g' ∧ ∃ x2 x3 x4 x5 x6 x7 x8 x9 x10 x11 x12 x13, ρ' = (ro S x2 x3 x4 x5 x6 x7 x8 x9 x10 x11 x12 x13) := by
  obtain ⟨DF, Tk, TL, C, M, TB, mF, TB2, mT⟩ := Y
  obtain ⟨f0, h0, k0⟩ := d0 (W := W) (cq := cq) DF (show 3 ≤ k by omega)
  obtain ⟨f1, h1, k1⟩ := d1 (W := W) (cq := cq) DF TL (show 3 ≤ k by omega)
  obtain ⟨f2, h2, k2⟩ := d2 (P := P) (w := w) (K := K) (mg := mg) (base := base) (T := T) (ad := ad) (l := l) (c := c) (cells := cells) (k := k) (W := W) (cq := cq)
  obtain ⟨f3, h3, k3⟩ := d3 (W := W) (cq := cq) DF Tk (show 6 ≤ k by omega)
  obtain ⟨f4, h4, k4⟩ := d4 (W := W) (cq := cq) DF Tk TL hk C M TB mF
  obtain ⟨f5, h5, k5⟩ := d5 (W := W) (cq := cq) DF (show 6 ≤ k by omega)
  obtain ⟨f6, h6, k6⟩ := d6 (P := P) (w := w) (K := K) (mg := mg) (base := base) (T := T) (ad := ad) (l := l) (c := c) (cells := cells) (k := k) (W := W) (cq := cq)
  obtain ⟨f7, h7, k7⟩ := d7 (W := W) (cq := cq) DF (show 3 ≤ k by omega)
  obtain ⟨f8, h8, k8⟩ := d8 (W := W) (cq := cq) DF hk C M
  obtain ⟨f9, h9, k9⟩ := d9 (W := W) (cq := cq) DF hk C M
  obtain ⟨fa, ha, ka⟩ := d10 (W := W) (cq := cq) DF Tk (show 6 ≤ k by omega) TB mF TB2 mT
  refine ⟨_, RS_for (O' := []) [] (RI_range1 (RA_cons (RE_add (RX_int rs_flat) (RE_min (RA_cons (RE_len (RA_cons (RE_var 0) RA_nil) rfl Tk.len) (RA_cons (RX_int rs_flat) RA_nil)) rfl TL.min)) RA_nil) rfl TL.range) (RG_name 2 sc28.nd)
    (RSs_cons h0 (RSs_cons h1 (RSs_cons h2 (RSs_cons h3 (RSs_cons h4 (RSs_cons h5 (RSs_cons h6 (RSs_cons h7 (RSs_cons h8 (RSs_cons h9 (RSs_one ha))))))))))) (by simp) (by simp) (by simp), fun S x2 x3 x4 x5 x6 x7 x8 x9 x10 x11 x12 x13 g ns hn hS => ?_⟩
  subst hS
  obtain ⟨n, hn2, em⟩ : ∃ n : Nat, n ≤ 10 ∧ minD [.int ((ns.map D.int).length : Nat), .int 10] = some (.int (n : Int)) := by
    rw [List.length_map]
    by_cases h : (10 : Int) < (ns.length : Int)
    · exact ⟨10, Nat.le_refl _, by unfold minD; dsimp only; rw [if_pos h]; rfl⟩
    · exact ⟨ns.length, by omega, by unfold minD; dsimp only; rw [if_neg h]⟩
  have er : ∀ {β : Type} (g : Dr) (k : List D → Dr → Out Dr β), bnd (rangeD [.int (6 + (n : Int))] g) k = k ((List.range (6 + n)).map fun i => D.int (0 + (i : Nat))) g := fun g k => bnd_of (by
    have := rangeD_ok (n := 6 + n) (g := g) (by omega)
    rw [Int.natCast_add] at this
    exact this)
  have ea : ∀ {β : Type} (g : Dr) (k : D → Dr → Out Dr β), bnd (addD (.int 6) (.int (n : Int)) g) k = k (.int (6 + (n : Int))) g := fun _ _ => rfl
  simp -implicitDefEqProofs only [ro, msk, ↓bnd_bnd, ↓ifO_bnd, ↓andO_bnd, ↓orO_bnd, ↓andV_bnd, ↓orV_bnd, ↓chO_bnd, ↓seqF_bnd, ↓retF_bnd, ↓loopF_bnd, ↓bnd_ifO, ↓seqF_ifO, ↓retF_ifO, ↓seqF_seqF, ↓bz, ↓bs, ↓bnd_ok, ↓lenOk_of, ↓lenC_of, ↓lenN1, ↓lenN2, ↓lenN3, ↓opt_some, ↓b_asS, ↓b_asI, ↓asB_bl, ↓ifO_t, ↓ifO_f, ↓andO_t, ↓andO_f, ↓orO_t, ↓orO_f, ↓andV_t, ↓andV_f, ↓orV_t, ↓orV_f, ↓seqF_nx, ↓seqF_rt, ↓retF_rt, ↓retF_nx, ↓two_k, ↓tupleD_lst, ↓tupleD_tup, perm0, if_true, List.length_cons, List.length_nil, Nat.reduceAdd, Nat.reduceLeDiff, List.set_cons_succ, List.set_cons_zero, lenD_lst, em, ↓ea, ↓er]
  refine forD_run (fun ρ' => ∃ x2 x3 x4 x5 x6 x7 x8 x9 x10 x11 x12 x13, ρ' = ro (.lst (ns.map .int)) x2 x3 x4 x5 x6 x7 x8 x9 x10 x11 x12 x13) ⟨_, _, _, _, _, _, _, _, _, _, _, _, rfl⟩ fun d hd ρ g ⟨x2, x3, x4, x5, x6, x7, x8, x9, x10, x11, x12, x13, er⟩ => ?_
  subst er
  generalize D.lst (ns.map .int) = S
  rw [show setAll (ro S x2 x3 x4 x5 x6 x7 x8 x9 x10 x11 x12 x13) [2] [d] = (ro S (some d) x3 x4 x5 x6 x7 x8 x9 x10 x11 x12 x13) from rfl]
  obtain ⟨many, g0, hm, q0⟩ := k0 S (some d) x3 x4 x5 x6 x7 x8 x9 x10 x11 x12 x13 g
  rw [seqF_of q0]
  obtain ⟨ts, g1, h, q1⟩ := k1 S (some d) x3 x4 x5 x6 x7 x8 x9 x10 x11 x12 x13 g0 many hm
  rw [seqF_of q1, seqF_of (k2 S (some d) (some many) x4 x5 x6 x7 x8 x9 x10 x11 x12 x13 g1 ts h), seqF_of (k3 S (some d) (some many) x4 x5 x6 x7 x8 x9 x10 x11 x12 x13 g1 ts h)]
  obtain ⟨ρ4, g4, q4, x6, x7, x10, x12, e4⟩ := k4 S (some d) (some many) x4 x5 x6 x7 x8 x9 x10 x11 x12 x13 g1 ts h
  subst e4
  rw [seqF_of q4, seqF_of (k5 S (some d) (some many) (some (DT ts)) x5 x6 x7 x8 x9 x10 x11 x12 x13 g4 ts h)]
  obtain ⟨y, q6⟩ := k6 S (some d) (some many) (some (DT ts)) (some (.str (Txt.join sp ts))) x6 x7 x8 x9 x10 x11 x12 x13 g4 ts h
  rw [seqF_of q6]
  obtain ⟨b, o, g7, hb, ho, q7⟩ := k7 S (some d) (some many) (some (DT ts)) (some (.str (Txt.join sp ts))) x6 x7 (some y) x9 x10 x11 x12 x13 g4
  rw [seqF_of q7, seqF_of (k8 S (some d) (some many) (some (DT ts)) (some (.str (Txt.join sp ts))) x6 x7 (some y) x9 x10 (some o) x12 x13 g7 b hb), seqF_of (k9 S (some d) (some many) (some (DT ts)) (some (.str (Txt.join sp ts))) x6 x7 (some y) (some b) x10 x11 x12 x13 g7 o ho)]
  exact ⟨_, g7, ka S (some d) (some many) x4 x5 x6 x7 (some y) (some b) x10 (some o) x12 x13 g7 ts h, _, _, _, _, _, _, _, _, _, _, _, _, rfl⟩
/-- return .. -/
theorem d12 (DF : Defs P w K mg base T ad l c cells) (hk : 8 ≤ k) : ∃ f, RS (LB cq) (ED P w K mg base k T ad l c cells) W Rs [] [] [] s2 f ∧ ∀ (S : D) (x2 x3 x4 x5 x6 x7 x8 x9 x10 x11 x12 x13 : Option D) (g : Dr), f (ro S x2 x3 x4 x5 x6 x7 x8 x9 x10 x11 x12 x13) g = .ok (.rt (.bl true)) g := by
  obtain ⟨f2, fd2, m2, k2, b2, kw2, G2⟩ := DF.tline
  obtain ⟨f3, fd3, m3, k3, b3, kw3, G3⟩ := DF.rline
  refine ⟨_, RS_ret rs_back (RE_and (RE_eqX (RX_callP rs_back G2 (by show 5 ≤ k; omega) rfl m2 k2 b2 (RA_cons (RF.e (RF_lst (RA_cons (RX_str rs_flat) (RA_cons (RX_str rs_flat) (RA_cons (RX_str rs_flat) (RA_cons (RX_str rs_flat) RA_nil)))))) RA_nil)) (RX_str rs_flat))
    (RE_one (RE_eqX (RF.e (RX_callP rf_back G3 (by show 6 ≤ k; omega) rfl m3 k3 b3 (RA_cons (RX_str rs_flat) RA_nil))) (RF.e (RF_lst RA_nil))))), fun S x2 x3 x4 x5 x6 x7 x8 x9 x10 x11 x12 x13 g => ?_⟩
  have e1 : textLine [.lst [.str (Str.ofString "the"), .str (Str.ofString "cat"), .str (Str.ofString "."), .str (Str.ofString "sat")]] () = .ok (.str (Str.ofString "the cat . sat")) () := by
    have ex : isTxt [.lst [.str (Str.ofString "the"), .str (Str.ofString "cat"), .str (Str.ofString "."), .str (Str.ofString "sat")]] () = .ok (.bl true) () := by
      show isTxtL _ _ = _
      have h2 : txtB [.str (Str.ofString "the"), .str (Str.ofString "cat"), .str (Str.ofString "."), .str (Str.ofString "sat")] = true := by decide +kernel
      have h1 : (decide ([D.str (Str.ofString "the"), .str (Str.ofString "cat"), .str (Str.ofString "."), .str (Str.ofString "sat")].length ≤ 100000) && [D.str (Str.ofString "the"), .str (Str.ofString "cat"), .str (Str.ofString "."), .str (Str.ofString "sat")].all tokG) = true := by decide +kernel
      rw [Bool.and_eq_true, decide_eq_true_eq] at h1
      unfold isTxtL
      rw [if_pos h1, h2]
    unfold textLine
    rw [ex]
    have hj : Txt.join sp [Str.ofString "the", Str.ofString "cat", Str.ofString ".", Str.ofString "sat"] = Str.ofString "the cat . sat" := by decide +kernel
    have := joinD_lst (s := sp) (ys := [Str.ofString "the", Str.ofString "cat", Str.ofString ".", Str.ofString "sat"]) (g := ()) (by decide +kernel)
    rw [hj] at this
    exact this
  have e2 : readLine [.str (Str.ofString "")] () = .ok (.lst []) () := by
    rw [readLine_ok (by decide +kernel)]
    exact if_pos (by decide +kernel)
  have q1 : eqX false (.str (Str.ofString "the cat . sat")) (.str (Str.ofString "the cat . sat")) = some (.bl true) := by
    simp [eqX, scalD]
  have q2 : eqX false (.lst []) (.lst []) = some (.bl true) := rfl
  simp -implicitDefEqProofs only [ro, msk, ↓bnd_bnd, ↓ifO_bnd, ↓andO_bnd, ↓orO_bnd, ↓andV_bnd, ↓orV_bnd, ↓chO_bnd, ↓seqF_bnd, ↓retF_bnd, ↓loopF_bnd, ↓bnd_ifO, ↓seqF_ifO, ↓retF_ifO, ↓seqF_seqF, ↓bz, ↓bs, ↓bnd_ok, ↓lenOk_of, ↓lenC_of, ↓lenN1, ↓lenN2, ↓lenN3, ↓opt_some, ↓b_asS, ↓b_asI, ↓asB_bl, ↓ifO_t, ↓ifO_f, ↓andO_t, ↓andO_f, ↓orO_t, ↓orO_f, ↓andV_t, ↓andV_f, ↓orV_t, ↓orV_f, ↓seqF_nx, ↓seqF_rt, ↓retF_rt, ↓retF_nx, ↓two_k, ↓tupleD_lst, ↓tupleD_tup, perm0, if_true, List.length_cons, List.length_nil, Nat.reduceAdd, Nat.reduceLeDiff, List.set_cons_succ, List.set_cons_zero, ↓b_lift e1, ↓b_lift e2, q1, q2]
end
end K87
set_option Elab.async false
set_option linter.all false
set_option maxRecDepth 100000
set_option maxHeartbeats 1000000
namespace K87
open PySem PySem.Spec PyProof.Rows L2 DV TL
open Evl (Ex)
def s0 : Stmt := (defBody (top 28)).getD 0 (.Pass ⟨0, 0, 0, 0⟩)
def s0t : Expr := match s0 with
  | .Assign [t] _ _ => t
  | _ => .Name "" ⟨0, 0, 0, 0⟩
def s0e : Expr := match s0 with
  | .Assign _ e _ => e
  | _ => .Name "" ⟨0, 0, 0, 0⟩
def s0p : Pos := match s0 with
  | .Assign _ _ p => p
  | _ => ⟨0, 0, 0, 0⟩
theorem s0_eq : s0 = .Assign [s0t] s0e s0p := rfl
theorem law_body : defBody (top 28) = [s0, s1, s2] := rfl
theorem rdr_back {T : Tx} {S : Addr → Prop} {Hb H1 Hb1 H1' Hb2 H2 : Hp} {v : V} {d : D} (g : Gr S Hb H1 Hb1 H1') (h : Rdr T H1' Hb2 H2 v d) : Rdr T H1 Hb2 H2 v d := by
  rcases h with h | ⟨ad, l, c, ls, cs, e1, e2, n1, n2, n3, h⟩
  · exact .inl h
  · exact .inr ⟨ad, l, c, ls, cs, e1, e2, none_back g n1, none_back g n2, none_back g n3, h⟩
theorem pss_any {X : Cx} {st : List Stmt} {ι : Type} [Inhabited ι] {t : ι → TS} (h : ∀ i, PSs X st (t i)) : PSs X st (fun D σ H => ∃ i, t i D σ H) := ⟨fun pins s σ H D I ⟨i, q⟩ => (h i).run pins s σ H D I q⟩
section
variable {B : Bk} {E : En} {W : WX} {RR : RRel} {j : Nat} {f : Addr} {fd : FuncData} {ps : List PySem.Str} {x : PySem.Str} {p pos : Pos} {e : Expr} {es : List Expr} {n : Nat} {fs : Rho → E.G → Out E.G (List D)}
/-- a call whose answer is told in a way of its own -/
theorem RX_callO (Z : ∀ {T : Tx} {S : Addr → Prop} {Hb H1 Hb1 H1' Hb2 H2 : Hp} {v : V} {d : D}, Gr S Hb H1 Hb1 H1' → RR T H1' Hb2 H2 v d → RR T H1 Hb2 H2 v d) {Fn : List D → E.G → Out E.G D} (F : FnG E.P E.w E.T.K E.T.mg E.base j f fd ps (spD E.T E.wd RR n Fn)) (hj : j ≤ E.k) (hg : Gn B.sc x) (hm : E.T.mg x = some (.ref f)) (hk : PySem.W.keepIn E.T.K (.ref f) = true) (hb : Binds E.T.K fd ps []) (h : RA B E W (e :: es) fs)
    (hdb : (x == ("__debug__" : PySem.Str)) = false := by decide) (he : ∀ env, starEach (e :: es) env = (false, eval e env) :: starEach es env := by intro _; rfl) (hpl : ∀ env, (backTo pos (starEach es env)).any (·.1) = false := by intro _; rfl) :
    RX RR B E W (.Call (.Name x p) (e :: es) [] pos) (fun ρ g => bnd (fs ρ g) fun ds g => lenN n ds (Fn ds g)) := by
  obtain ⟨t, pt, q⟩ := h
  refine ⟨_, fun X c => pe_callG c F hj hg hm hk hb (pt X c) hdb (he _) (hpl _), fun σ ρ Hb H1 g Q pr h => q σ ρ Hb H1 g _ pr (h.bnd fun ds g1 k vs Hb2 H2 gr r xs => ?_)⟩
  have pr2 := pr.step gr r
  unfold lenN at k
  by_cases hn : ds.length = n
  · rw [if_pos hn] at k
    exact ⟨Hb2, ds, g1, by rw [xs.length]; exact hn, pr2.ex, pr2.hd, r, xs, PostF_of (k.step gr fun _ _ k v Hb3 H3 g3 r q => k v Hb3 H3 (gr.trans g3) r (Z gr q))⟩
  · rw [if_neg hn] at k; exact False.elim k
end
def lawSp (K : PySem.W.Frag) (cs : List (Addr × Addr)) : Sp := fun vs H Q _ => ∃ (a : Addr) (ns : List Int), vs = [.ref a] ∧ ns.length ≤ 63 ∧ SqL K H a (ns.map V.int) ∧ (∀ p ∈ cs, H p.2 = some (.tbl #[])) ∧ ∀ H', Q (.bl true) H'
abbrev ro0 (S : D) : Rho := [some S, none, none, none, none, none, none, none, none, none, none, none, none, none]
section
variable {P : Program} {w : World} {K : PySem.W.Frag} {mg : PySem.Str → Option Value} {base : Heap} {k : Nat}
theorem ok_law {f c Pt : Addr} {oc kV doc pm ct : Value} {od an : Option Addr} {osl : Array (Option Value)} (lk : K.lookup f = some ⟨oc, od, .func (PySem.W.fnOf "law" "law" (defArgs (top 28)) (defBody (top 28)) (defScope (top 28)) .none kV doc pm an (.ref c) ct), osl⟩) (hcd : PySem.W.codeIn K (.ref c) "law" = true)
    (TBc : LamX.TabB base mg c Pt) (nT : K.lookup Pt = none)
    (BG : ∃ f fd, mg "_law_begun" = some (.ref f) ∧ PySem.W.keepIn K (.ref f) = true ∧ L2.Binds K fd ["script"] [] ∧ FnG P w K mg base 1 f fd ["script"] (spD ⟨K, mg, fun _ => 0⟩ (wT [(Pt, "law.<locals>." ++ "<lambda>")]) Rdr 1 begunF))
    {CF CT g FE : Addr} {sg : Stmt} {fdg : FuncData} (hk : 8 ≤ k)
    (Y : ∀ ad l c2 cells, Hyp P w K mg base [(Pt, "law.<locals>." ++ "<lambda>")] ad l c2 cells (some (.ref c, "law.<locals>.")) CF CT g FE sg fdg) :
    FnG P w K mg base (k + 1) f (PySem.W.fnOf "law" "law" (defArgs (top 28)) (defBody (top 28)) (defScope (top 28)) .none kV doc pm an (.ref c) ct) ["script"] (lawSp K [(c, Pt)]) := by
  refine ⟨fun vs H Q E ⟨a, ns, e, _⟩ => by rw [e]; rfl, fun A outer s H args us vs Q E hr hg e0 hb r hsp => LamX.run_ofS lk hcd sc28 hr e0 hb r (by obtain ⟨a, ns, e, _⟩ := hsp; rw [e]; rfl) fun hr' => ?_⟩
  obtain ⟨a, ns, rfl, hn, hS, hT, hQ⟩ := hsp
  obtain ⟨fb, fdb, mb, kb, bb, GB⟩ := BG
  rw [law_body]
  let T : List (Addr × PySem.Str) := [(Pt, "law.<locals>." ++ "<lambda>")]
  let W : WX := fun cv dd _ H => E cv dd H
  -- the rest of the body, in each world
  have rest : ∀ (i : Addr × Addr × Addr × List Int), ∃ f, RSs (LB (some (.ref c, "law.<locals>."))) (ED P w K mg base k T i.1 i.2.1 i.2.2.1 i.2.2.2) W Rs [] [] [] [s1, s2] f ∧ ∀ (S : D) (g : Dr), S = .lst (ns.map .int) → ∃ g', f (ro S none none none none none none none none none none none none) g = .ok (.rt (.bl true)) g' := fun ⟨ad, l, c2, cells⟩ => by
    obtain ⟨f1, h1, q1⟩ := d11 (W := W) (k := k) (Y ad l c2 cells) hk
    obtain ⟨f2, h2, q2⟩ := d12 (W := W) (k := k) (cq := some (.ref c, "law.<locals>.")) (Y ad l c2 cells).DF hk
    refine ⟨_, RSs_cons h1 (RSs_one h2), fun S g hS => ?_⟩
    obtain ⟨ρ', g', e1, x2, x3, x4, x5, x6, x7, x8, x9, x10, x11, x12, x13, e2⟩ := q1 S none none none none none none none none none none none none g ns (by omega) hS
    subst e2
    exact ⟨g', by rw [seqF_of e1]; exact q2 S x2 x3 x4 x5 x6 x7 x8 x9 x10 x11 x12 x13 g'⟩
  let fR := fun i => Classical.choose (rest i)
  have hR := fun i => Classical.choose_spec (rest i)
  let tR := fun i => Classical.choose (hR i).1
  have pR := fun i => (Classical.choose_spec (hR i).1).1
  have qR := fun i => (Classical.choose_spec (hR i).1).2
  -- the first statement
  let E1 : En := ⟨P, w, ⟨K, mg, fun _ => 0⟩, base, k, wT T⟩
  have hN0 : RN Rdr (LB (some (.ref c, "law.<locals>."))) E1 W 1 s0t s0e s0p (fun ρ g => bnd (bnd (getR ρ 0 g) fun d g => bnd (.ok [] g) fun ds g => .ok (d :: ds) g) fun ds g => lenN 1 ds (begunF ds g)) :=
    RN_of (B := LB (some (.ref c, "law.<locals>."))) (E := E1) (W := W) 1 (RX_callO (B := LB (some (.ref c, "law.<locals>."))) (E := E1) (W := W) (RR := Rdr) (n := 1) (Fn := begunF) (fun g h => rdr_back g h) GB (show 1 ≤ k by omega) rfl mb kb bb (RA_cons (B := LB (some (.ref c, "law.<locals>."))) (E := E1) (W := W) (RE_var (B := LB (some (.ref c, "law.<locals>."))) (E := E1) (W := W) (x := "script") 0) RA_nil)) sc28.nd
  obtain ⟨t0, p0, q0⟩ := hN0
  -- the heap at the start: the script alone is seen
  let Hb : Hp := fun b => if b = a then H b else none
  have hT0 : H Pt = some (.tbl #[]) := hT (c, Pt) (List.mem_singleton.mpr rfl)
  have ex0 : Ex Hb H := fun b o e => by
    by_cases hb : b = a
    · have e2 : (if b = a then H b else none) = some o := e
      rw [if_pos hb] at e2; exact e2
    · have e2 : (if b = a then H b else none) = some o := e
      rw [if_neg hb] at e2; cases e2
  have hSb : SqL K Hb a (ns.map V.int) := by
    have ha : Hb a = H a := if_pos rfl
    rcases hS with h | h
    · exact .inl (by unfold Rd at h ⊢; rw [ha]; exact h)
    · exact .inr h
  have nPt : Hb Pt = none := by
    by_cases hb : Pt = a
    · exfalso
      rcases hS with h | h
      · rw [hb] at hT0
        rcases h with h | ⟨o, h⟩
        · rw [hT0] at h; cases h
        · rw [hT0] at h; cases h
      · obtain ⟨o, its, n, h, _⟩ := h
        rw [← hb, nT] at h; cases h
    · exact if_neg hb
  have tabs0 : LamX.Tabs T H := fun p hp => by
    cases List.mem_singleton.mp hp
    exact ⟨#[], hT0, by trivial, fun pos cv hc => by cases hc⟩
  have hdS : ∀ b, E1.S b → Hb b = none := fun b ⟨p, hp, e⟩ => by
    cases List.mem_singleton.mp hp
    rw [← e]; exact nPt
  have hsH : ∀ b, E1.S b → H b ≠ none := fun b ⟨p, hp, e⟩ => by
    cases List.mem_singleton.mp hp
    rw [← e, hT0]; exact nofun
  have pr0 : Pr E1 (L2.start lawN [.ref a]) (ro0 (.lst (ns.map .int))) Hb H () := (start_se (E := E1) (N := lawN) (ds := [.lst (ns.map .int)]) (RpA.cons (.lst hSb (RpA.ints ns)) .nil) ex0 hdS hsH).prM tabs0
  have hbeg : bnd (bnd (getR (ro0 (.lst (ns.map .int))) 0 ()) fun d g => bnd (.ok [] g) fun ds g => .ok (d :: ds) g) (fun ds g => lenN 1 ds (begunF ds g)) = .ok (.tup [.lst ((largeOf ns).map .int), .lst ((cellsOf ns).map .int)]) () := by
    show begunF [.lst (ns.map .int)] () = _
    unfold begunF
    dsimp only
    rw [intsD_map]
    dsimp only
    rw [if_pos (by omega)]
  refine ⟨tSeq (tAsg t0 (gName 1)) (fun D σ H => ∃ i, tR i D σ H), pss_cons (p0 _ ?_) (pss_any fun i => pR i _ ?_), ?_⟩
  · exact { hN := rfl, hs := rfl, hfn := rfl, hP := rfl, hw := rfl, hK := rfl, hmg := rfl, hb := rfl, room := hr', gd := hg, calm := rfl, tk := takes_of rfl rfl rfl rfl, hcq := fun _ _ z => by cases z; exact ⟨rfl, rfl⟩ }
  · exact { hN := rfl, hs := rfl, hfn := rfl, hP := rfl, hw := rfl, hK := rfl, hmg := rfl, hb := rfl, room := hr', gd := hg, calm := rfl, tk := takes_of rfl rfl rfl rfl, hcq := fun _ _ z => by cases z; exact ⟨rfl, rfl⟩, st := rfl, fr := rfl, ex := rfl, po := passes_of rfl }
  · refine q0 _ _ Hb H () _ pr0 ?_
    show Post E1 W _ Hb H _ (bnd (bnd (getR (ro0 (.lst (ns.map .int))) 0 ()) fun d g => bnd (.ok [] g) fun ds g => .ok (d :: ds) g) (fun ds g => lenN 1 ds (begunF ds g)))
    rw [hbeg]
    intro v Hb2 H2 gr r2 x
    rcases x with ⟨_, z⟩ | ⟨ad, l, c2, ls, cs, rfl, e2, n1, n2, n3, n4, h1, h2, h3⟩
    · cases z
    have inj : ∀ {x y : List Int}, x.map D.int = y.map D.int → x = y := fun {x y} h => by
      have h1 := congrArg intsD h
      rw [intsD_map, intsD_map] at h1
      exact Option.some.inj h1
    have els : ls = largeOf ns ∧ cs = cellsOf ns := by
      injection e2 with e3
      injection e3 with e4 e5
      injection e5 with e6 e7
      injection e4 with e8
      injection e6 with e9
      exact ⟨(inj e8).symm, (inj e9).symm⟩
    obtain ⟨rfl, rfl⟩ := els
    refine ⟨(ad, l, c2, cellsOf ns), ?_⟩
    obtain ⟨g', hg'⟩ := (hR (ad, l, c2, cellsOf ns)).2 (.lst (ns.map .int)) ⟨largeOf ns, 0, 0⟩ rfl
    have fresh : ∀ b, H b = none → Hb b = none := fun b hb => by
      show (if b = a then H b else none) = none
      split
      · exact hb
      · rfl
    have se : SE (ED P w K mg base k T ad l c2 (cellsOf ns)) Hb H2 (mem []) (ro (.lst (ns.map .int)) none none none none none none none none none none none none) ((L2.start lawN [.ref a]).set 1 (some (.ref ad))) Hb H2 := by
      refine ⟨rfl, Gr.refl (gr.base.trans gr.sub), fun b hb => ?_, fun b hb => ?_, fun i d _ q => ?_, fun i d z => absurd z (by simp), fun i j d e a z => absurd z (by simp)⟩
      · rcases hb with rfl | rfl | rfl | hb
        · exact fresh _ n1
        · exact fresh _ n2
        · exact fresh _ n3
        · exact hdS b hb
      · rcases hb with rfl | rfl | rfl | ⟨p, hp, rfl⟩
        · rw [h1]; exact nofun
        · rw [h2]; exact nofun
        · rw [h3]; exact nofun
        · obtain ⟨ps, hps, _⟩ := r2 p hp
          rw [hps]; exact nofun
      · match i, q with
        | 0, q => cases q; exact ⟨.ref a, rfl, .lst hSb (RpA.ints ns)⟩
        | 1, q => cases q; exact ⟨.ref ad, rfl, .hid 0⟩
        | 2, q => cases q
        | 3, q => cases q
        | 4, q => cases q
        | 5, q => cases q
        | 6, q => cases q
        | 7, q => cases q
        | 8, q => cases q
        | 9, q => cases q
        | 10, q => cases q
        | 11, q => cases q
        | 12, q => cases q
        | 13, q => cases q
        | (n + 14), q => cases q
    refine qR (ad, l, c2, cellsOf ns) Hb H2 _ _ Hb H2 ⟨largeOf ns, 0, 0⟩ _ se ⟨h1, h2, h3, n4, r2⟩ ?_
    show PostS _ W Rs Hb H2 [] [] _ (fR (ad, l, c2, cellsOf ns) _ _)
    have hg2 : fR (ad, l, c2, cellsOf ns) (ro (.lst (ns.map .int)) none none none none none none none none none none none none) ⟨largeOf ns, 0, 0⟩ = .ok (.rt (.bl true)) g' := hg'
    rw [hg2]
    intro v Hb3 H3 _ _ x
    cases x
    exact hQ H3
end
end K87
set_option Elab.async false
set_option linter.all false
set_option maxRecDepth 100000
set_option maxHeartbeats 1000000
namespace DV
open PySem PySem.Spec PyProof.Rows L2
/-- the end, the heap's part told by what the head says -/
theorem walk_GE {l : PySem.W.OpenLaw} {n k : Nat} {q : Program} {loose : List PySem.Str} {XP : (PySem.Str → Option Value) → Heap → Prop} {YP : World → Heap → Prop} {d : DefRec} {x : PySem.Str}
    (hn : l.most = some n) (hn2 : n ≤ sizeLine) (hdf : d.params.defaults = []) (hr : Room k callerA)
    (F : ∀ (w : World) (mg : PySem.Str → Option Value) (fa : Addr) (h : Heap), YP w h → h.Ns mainGlobals mg → mg d.name = some (.ref fa) → ∃ K : PySem.W.Frag, K.In h ∧ LawAtG l w K k n x mg fa h) :
    PySem.W.WalkO q loose XP YP l.row.toRowW d [] (fun f vs => PySem.call f vs) := by
  refine Att.attach_callB hn hdf fun w s₀ s₁ mg mb fa o pm cd doc a vs ns G Y ho hd hcd hmg hobj hints hlen hbits hg => ?_
  obtain ⟨K, KX, fd, cs, sp, hT, nT, C, hb, hsp, hF⟩ := F w mg fa _ Y G.T.g hmg
  exact law_callG KX G.T.g G.T.b G.T.builtins G.T.nolimit hg hT nT C G.T.bmain hobj hints (Nat.le_trans hlen hn2) hr hF hb fun H hH hS => hsp H a ns hlen hH hS
/-- a def without defaults, as the head tells it -/
theorem fun_of {K : PySem.W.Frag} {x : PySem.Str} {st : Stmt} {f : Addr} {fd : FuncData} (F : FunD K x x (defArgs st) (defBody st) (defScope st) [] [] f fd) : Fun K x x st f fd := by
  obtain ⟨oc, od, dV, kV, doc, pm, an, cdv, ct, osl, rfl, lk, hcd, hD, hK⟩ := F.ex
  rcases hD with ⟨_, rfl⟩ | ⟨e, _⟩
  · exact ⟨⟨oc, od, kV, doc, pm, an, cdv, ct, osl, rfl, lk, hcd⟩, F.kp⟩
  · exact absurd rfl e
/-- what the class of an error says -/
def excB (K : PySem.W.Frag) (D : Addr) : Bool := He.eqO (PySem.W.findIn K (.ref D) "__getattribute__") (some (some (.builtin "BaseException.__getattribute__"))) && (He.eqO (PySem.W.findIn K (.ref D) "__getattr__") (some none) && (decide (PySem.W.subIn K (.ref D) (.type "BaseException") = some true) && (PySem.W.hasDictIn K D &&
  (He.eqO (PySem.W.findIn K (.ref D) "__class__") (some (some (.builtin "object.__class__"))) && (He.eqO (PySem.W.specialIn K (.builtin "object.__class__") "__get__") (some (some (.builtin "getset_descriptor.__get__"))) && (decide (PySem.W.takesIn K (.builtin "object.__class__") = some true) && decide (PySem.W.mroIn K D (.type "object") = some true)))))))
theorem excB_ok {K : PySem.W.Frag} {D : Addr} (h : excB K D = true) : ExcC K D := by
  obtain ⟨h1, h⟩ := He.ba h
  obtain ⟨h2, h⟩ := He.ba h
  obtain ⟨h3, h⟩ := He.ba h
  obtain ⟨h4, h⟩ := He.ba h
  obtain ⟨h5, h⟩ := He.ba h
  obtain ⟨h6, h⟩ := He.ba h
  obtain ⟨h7, h8⟩ := He.ba h
  exact ⟨He.eqO_ok h1, He.eqO_ok h2, of_decide_eq_true h3, h4, He.eqO_ok h5, He.eqO_ok h6, of_decide_eq_true h7, of_decide_eq_true h8⟩
def kitB1 (K : PySem.W.Frag) (t c : Value) (b : Bool) : Bool := decide (PySem.W.kitOne K t c = some b)
end DV
namespace K87
open PySem PySem.Spec PyProof.Rows L2 DV
/-! ### the head -/
def dd (x : PySem.Str) (i : Nat) : He.DefD := ⟨(x, none), x, x, defArgs (top i), defBody (top i), defScope (top i), [], []⟩
def fn : List He.DefD := [dd "is_letters" 9, dd "is_word" 10, dd "is_token" 11, dd "is_text" 12, dd "line_of" 14, dd "text_line" 15, dd "text_of" 16, dd "read_line" 17, dd "_law_begun" 19, dd "_law_mixed" 20, dd "_law_take" 21, dd "_law_pick" 22, dd "_law_caught" 23, dd "_law_says" 24, dd "_law_is_token" 25, dd "_law_due" 26, dd "_law_spoilt" 27, dd "law" 28]
def fa : List He.Fa := [.glo "is_letters", .glo "is_word", .glo "is_token", .glo "is_text", .glo "line_of", .glo "text_line", .glo "text_of", .glo "read_line", .glo "_law_begun", .glo "_law_mixed", .glo "_law_take", .glo "_law_pick", .glo "_law_caught", .glo "_law_says", .glo "_law_is_token", .glo "_law_due", .glo "_law_spoilt", .glo "law", .glo "FindError", .glo "BadForm", .glo "BadText", .free "isinstance", .free "str", .free "len", .free "all", .free "list", .free "tuple", .free "int", .free "abs", .free "min", .free "range", .free "repr", .int "MOST_LETTERS" 8, .int "MOST_TOKENS" 400, .str "LETTERS" letters, .str "BREAK" ".", .exc "BadForm", .exc "BadText", .exm "BadForm" "FindError" true, .exm "BadText" "FindError" true]
def ex (K : PySem.W.Frag) : Bool := excB K (He.ga K "BadForm") && (excB K (He.ga K "BadText") && (kitB1 K (.type "NoneType") (.ref (He.ga K "BadForm")) false && (kitB1 K (.type "NoneType") (.ref (He.ga K "BadText")) false && (kitB1 K (.ref (He.ga K "BadForm")) (.ref (He.ga K "BadForm")) true &&
  (kitB1 K (.ref (He.ga K "BadText")) (.ref (He.ga K "BadForm")) false && (kitB1 K (.ref (He.ga K "BadForm")) (.ref (He.ga K "BadText")) false && kitB1 K (.ref (He.ga K "BadText")) (.ref (He.ga K "BadText")) true))))))
def tf : List He.Defn := [("law", none)]
abbrev R : PySem.W.OpenRow := PySem.W.OpenLaw.row PySem.Challenge.rw_everyfind_k87_lines_of_texts
abbrev hk : PySem.W.Hook := He.hookX 5 fa fn [] tf ex
def ob (s : PySem.W.SharedT) : He.AlX := He.obsX 5 fa fn [] tf ex (HandSHeadRun.getT s)
theorem ob_eq (s : PySem.W.SharedT) : ob s = hk.obs s.abs := He.obsX_eq (HandSHeadRun.getT_eq s)
def loose : List PySem.Str := ["FindError", "BadForm", "BadText", "MOST_LETTERS", "MOST_TOKENS", "LETTERS", "BREAK", "is_letters", "is_word", "is_token", "is_text", "line_of", "text_line", "text_of", "read_line", "_law_begun", "_law_mixed", "_law_take", "_law_pick", "_law_caught", "_law_says", "_law_is_token", "_law_due", "_law_spoilt"]
theorem run (w : World) : HandSHeadRun.RunEq R (PySem.W.view R.prog [28]) hk ob 3000 loose w := by
  intro os
  kernel_rfl
end K87
set_option Elab.async false
set_option linter.all false
set_option maxRecDepth 100000
set_option maxHeartbeats 1000000
namespace K87
open PySem PySem.Spec PyProof.Rows L2 DV
section
variable {P : Program} {w : World} {K : PySem.W.Frag} {h : Heap} {mg : PySem.Str → Option Value} {base : Heap}
/-- a def by its place -/
theorem def_at (c : He.SaysD fa fn K) (X : K.In h) (G : h.Ns mainGlobals mg) {x : PySem.Str} {i j : Nat} (hi : fn[i]? = some (dd x j)) (hj : fa[i]? = some (.glo x)) : ∃ fd, Fun K x x (top j) (He.ga K x) fd ∧ mg x = some (.ref (He.ga K x)) := by
  obtain ⟨fd, F⟩ := c.def_ i hi
  exact ⟨fd, fun_of F, He.glo_ok X G (c.fact i hj)⟩
theorem tk_of (c : He.SaysD fa fn K) (X : K.In h) (G : h.Ns mainGlobals mg) : Tk mg where
  isinstance := He.free_ok X G (c.fact 21 (f := .free "isinstance") rfl)
  str := He.free_ok X G (c.fact 22 (f := .free "str") rfl)
  len := He.free_ok X G (c.fact 23 (f := .free "len") rfl)
  all := He.free_ok X G (c.fact 24 (f := .free "all") rfl)
  list := He.free_ok X G (c.fact 25 (f := .free "list") rfl)
  tuple := He.free_ok X G (c.fact 26 (f := .free "tuple") rfl)
  letters := He.str_ok X G (c.fact 34 (f := .str "LETTERS" letters) rfl)
  mostL := He.int_ok X G (c.fact 32 (f := .int "MOST_LETTERS" 8) rfl)
  mostT := He.int_ok X G (c.fact 33 (f := .int "MOST_TOKENS" 400) rfl)
  brk := He.str_ok X G (c.fact 35 (f := .str "BREAK" ".") rfl)
theorem tl_of (c : He.SaysD fa fn K) (X : K.In h) (G : h.Ns mainGlobals mg) : Tl mg where
  int := He.free_ok X G (c.fact 27 (f := .free "int") rfl)
  abs := He.free_ok X G (c.fact 28 (f := .free "abs") rfl)
  min := He.free_ok X G (c.fact 29 (f := .free "min") rfl)
  range := He.free_ok X G (c.fact 30 (f := .free "range") rfl)
  repr := He.free_ok X G (c.fact 31 (f := .free "repr") rfl)
theorem exk_of (c : He.SaysD fa fn K) (X : K.In h) (G : h.Ns mainGlobals mg) {x : PySem.Str} {i j : Nat} (hi : fa[i]? = some (.glo x)) (hj : fa[j]? = some (.exc x)) : ExK K mg x (He.ga K x) := by
  obtain ⟨h1, h2, h3, h4⟩ := He.exc_ok (c.fact j hj)
  exact ⟨He.glo_ok X G (c.fact i hi), h1, h2, h3, h4⟩
/-- all the promises, from what the head says -/
theorem hyp_of (c : He.SaysD fa fn K) (X : K.In h) (G : h.Ns mainGlobals mg) (hx : ex K = true) {T : List (Addr × PySem.Str)} {cq : Option (Value × PySem.Str)} (M : CqOk base mg T cq) :
    (∃ f fd, mg "_law_begun" = some (.ref f) ∧ PySem.W.keepIn K (.ref f) = true ∧ L2.Binds K fd ["script"] [] ∧ FnG P w K mg base 1 f fd ["script"] (spD ⟨K, mg, fun _ => 0⟩ (wT T) Rdr 1 begunF)) ∧
    ∃ sg fdg, ∀ ad l c2 cells, Hyp P w K mg base T ad l c2 cells cq (He.ga K "BadForm") (He.ga K "BadText") (He.ga K "_law_caught") (He.ga K "FindError") sg fdg := by
  have tk := tk_of c X G
  have tl := tl_of c X G
  have xF := exk_of c X G (x := "BadForm") (i := 19) (j := 36) rfl rfl
  have xT := exk_of c X G (x := "BadText") (i := 20) (j := 37) rfl rfl
  obtain ⟨fd_is_letters, F_is_letters, m_is_letters⟩ := def_at c X G (x := "is_letters") (i := 0) (j := 9) rfl rfl
  have b_is_letters := F_is_letters.binds (ps := ["thing", "least", "most"]) fun _ _ _ _ _ _ us hl => match us, hl with | [_, _, _], _ => rfl
  obtain ⟨fd_is_word, F_is_word, m_is_word⟩ := def_at c X G (x := "is_word") (i := 1) (j := 10) rfl rfl
  have b_is_word := F_is_word.binds (ps := ["thing"]) fun _ _ _ _ _ _ us hl => match us, hl with | [_], _ => rfl
  obtain ⟨fd_is_token, F_is_token, m_is_token⟩ := def_at c X G (x := "is_token") (i := 2) (j := 11) rfl rfl
  have b_is_token := F_is_token.binds (ps := ["thing"]) fun _ _ _ _ _ _ us hl => match us, hl with | [_], _ => rfl
  obtain ⟨fd_is_text, F_is_text, m_is_text⟩ := def_at c X G (x := "is_text") (i := 3) (j := 12) rfl rfl
  have b_is_text := F_is_text.binds (ps := ["thing"]) fun _ _ _ _ _ _ us hl => match us, hl with | [_], _ => rfl
  obtain ⟨fd_line_of, F_line_of, m_line_of⟩ := def_at c X G (x := "line_of") (i := 4) (j := 14) rfl rfl
  have b_line_of := F_line_of.binds (ps := ["text"]) fun _ _ _ _ _ _ us hl => match us, hl with | [_], _ => rfl
  obtain ⟨fd_text_line, F_text_line, m_text_line⟩ := def_at c X G (x := "text_line") (i := 5) (j := 15) rfl rfl
  have b_text_line := F_text_line.binds (ps := ["text"]) fun _ _ _ _ _ _ us hl => match us, hl with | [_], _ => rfl
  obtain ⟨fd_text_of, F_text_of, m_text_of⟩ := def_at c X G (x := "text_of") (i := 6) (j := 16) rfl rfl
  have b_text_of := F_text_of.binds (ps := ["form"]) fun _ _ _ _ _ _ us hl => match us, hl with | [_], _ => rfl
  obtain ⟨fd_read_line, F_read_line, m_read_line⟩ := def_at c X G (x := "read_line") (i := 7) (j := 17) rfl rfl
  have b_read_line := F_read_line.binds (ps := ["form"]) fun _ _ _ _ _ _ us hl => match us, hl with | [_], _ => rfl
  obtain ⟨fd_law_begun, F_law_begun, m_law_begun⟩ := def_at c X G (x := "_law_begun") (i := 8) (j := 19) rfl rfl
  have b_law_begun := F_law_begun.binds (ps := ["script"]) fun _ _ _ _ _ _ us hl => match us, hl with | [_], _ => rfl
  obtain ⟨fd_law_mixed, F_law_mixed, m_law_mixed⟩ := def_at c X G (x := "_law_mixed") (i := 9) (j := 20) rfl rfl
  have b_law_mixed := F_law_mixed.binds (ps := ["draw"]) fun _ _ _ _ _ _ us hl => match us, hl with | [_], _ => rfl
  obtain ⟨fd_law_take, F_law_take, m_law_take⟩ := def_at c X G (x := "_law_take") (i := 10) (j := 21) rfl rfl
  have b_law_take := F_law_take.binds (ps := ["draw", "amount"]) fun _ _ _ _ _ _ us hl => match us, hl with | [_, _], _ => rfl
  obtain ⟨fd_law_pick, F_law_pick, m_law_pick⟩ := def_at c X G (x := "_law_pick") (i := 11) (j := 22) rfl rfl
  have b_law_pick := F_law_pick.binds (ps := ["draw", "some"]) fun _ _ _ _ _ _ us hl => match us, hl with | [_, _], _ => rfl
  obtain ⟨fd_law_caught, F_law_caught, m_law_caught⟩ := def_at c X G (x := "_law_caught") (i := 12) (j := 23) rfl rfl
  have b_law_caught := F_law_caught.binds (ps := ["work"]) fun _ _ _ _ _ _ us hl => match us, hl with | [_], _ => rfl
  obtain ⟨fd_law_says, F_law_says, m_law_says⟩ := def_at c X G (x := "_law_says") (i := 13) (j := 24) rfl rfl
  have b_law_says := F_law_says.binds (ps := ["told", "due"]) fun _ _ _ _ _ _ us hl => match us, hl with | [_, _], _ => rfl
  obtain ⟨fd_law_tok, F_law_tok, m_law_tok⟩ := def_at c X G (x := "_law_is_token") (i := 14) (j := 25) rfl rfl
  have b_law_tok := F_law_tok.binds (ps := ["word"]) fun _ _ _ _ _ _ us hl => match us, hl with | [_], _ => rfl
  obtain ⟨fd_law_due, F_law_due, m_law_due⟩ := def_at c X G (x := "_law_due") (i := 15) (j := 26) rfl rfl
  have b_law_due := F_law_due.binds (ps := ["form"]) fun _ _ _ _ _ _ us hl => match us, hl with | [_], _ => rfl
  obtain ⟨fd_law_spoilt, F_law_spoilt, m_law_spoilt⟩ := def_at c X G (x := "_law_spoilt") (i := 16) (j := 27) rfl rfl
  have b_law_spoilt := F_law_spoilt.binds (ps := ["draw", "form"]) fun _ _ _ _ _ _ us hl => match us, hl with | [_, _], _ => rfl
  have G1 := ok_is_letters (P := P) (w := w) (base := base) F_is_letters tk
  have G2 := ok_is_word (P := P) (w := w) (base := base) F_is_word tk F_is_letters m_is_letters b_is_letters
  have G3 := ok_is_token (P := P) (w := w) (base := base) F_is_token tk F_is_word m_is_word b_is_word G2
  have G4 := ok_is_text (P := P) (w := w) (base := base) F_is_text tk F_is_token m_is_token b_is_token G3
  have G5 := ok_line_of (P := P) (w := w) (mg := mg) (base := base) F_line_of
  have G6 := ok_text_line (P := P) (w := w) (base := base) F_text_line xT F_is_text m_is_text b_is_text G4 F_line_of m_line_of b_line_of G5
  have G7 := ok_text_of (P := P) (w := w) (base := base) F_text_of tk F_is_text m_is_text b_is_text G4
  have G8 := ok_read_line (P := P) (w := w) (base := base) F_read_line xF F_text_of m_text_of b_text_of G7
  have kw1 : KwB K fd_text_line ["text"] ["text"] [0] := by
    obtain ⟨oc, od, kV, doc, pm, an, cdv, ct, osl, rfl, lk, hcd⟩ := F_text_line.ex
    refine ⟨fun s ws zs _ hl hz => ?_⟩
    match ws, hl with
    | [a], _ =>
      match zs, hz with
      | [b], hz => cases hz; exact BindsTo.of_eq rfl
      | [], hz => cases hz
      | _ :: _ :: _, hz => simp at hz
  have kw2 : KwB K fd_read_line ["form"] ["form"] [0] := by
    obtain ⟨oc, od, kV, doc, pm, an, cdv, ct, osl, rfl, lk, hcd⟩ := F_read_line.ex
    refine ⟨fun s ws zs _ hl hz => ?_⟩
    match ws, hl with
    | [a], _ =>
      match zs, hz with
      | [b], hz => cases hz; exact BindsTo.of_eq rfl
      | [], hz => cases hz
      | _ :: _ :: _, hz => simp at hz
  obtain ⟨hx1, hx⟩ := He.ba hx
  obtain ⟨hx2, hx⟩ := He.ba hx
  obtain ⟨hx3, hx⟩ := He.ba hx
  obtain ⟨hx4, hx⟩ := He.ba hx
  obtain ⟨hx5, hx⟩ := He.ba hx
  obtain ⟨hx6, hx⟩ := He.ba hx
  obtain ⟨hx7, hx8⟩ := He.ba hx
  have inj : ∀ {a b : Addr}, some (Value.ref a) = some (Value.ref b) → a = b := fun e => by injection e with e; injection e
  have tabF : IsTab K mg (He.ga K "BadForm") [("BadForm", true), ("BadText", false)] := ⟨of_decide_eq_true hx3, fun x b hl C hC => by
    by_cases q1 : x = "BadForm"
    · subst q1
      cases inj (xF.gC.symm.trans hC)
      cases hl
      exact ⟨excB_ok hx1, of_decide_eq_true hx5⟩
    · by_cases q2 : x = "BadText"
      · subst q2
        cases inj (xT.gC.symm.trans hC)
        cases hl
        exact ⟨excB_ok hx2, of_decide_eq_true hx6⟩
      · rw [List.lookup_cons, List.lookup_cons, beq_eq_false_iff_ne.mpr q1, beq_eq_false_iff_ne.mpr q2] at hl; cases hl⟩
  have tabT : IsTab K mg (He.ga K "BadText") [("BadForm", false), ("BadText", true)] := ⟨of_decide_eq_true hx4, fun x b hl C hC => by
    by_cases q1 : x = "BadForm"
    · subst q1
      cases inj (xF.gC.symm.trans hC)
      cases hl
      exact ⟨excB_ok hx1, of_decide_eq_true hx7⟩
    · by_cases q2 : x = "BadText"
      · subst q2
        cases inj (xT.gC.symm.trans hC)
        cases hl
        exact ⟨excB_ok hx2, of_decide_eq_true hx8⟩
      · rw [List.lookup_cons, List.lookup_cons, beq_eq_false_iff_ne.mpr q1, beq_eq_false_iff_ne.mpr q2] at hl; cases hl⟩
  have cau : CaughtOk K mg ["BadText", "BadForm"] (He.ga K "_law_caught") (He.ga K "FindError") (top 23) fd_law_caught := {
    F := F_law_caught
    hB := ⟨_, _, _, _, _, _, _, _, _, _, _, _, _, _, ⟨0, 0, 0, 0⟩, _, rfl⟩
    Sg := ⟨rfl, rfl, rfl, by decide +kernel, rfl, by decide +kernel, by decide +kernel⟩
    hb := b_law_caught
    l1 := rfl
    l2 := rfl
    l3 := rfl
    l4 := rfl
    hFE := He.glo_ok X G (c.fact 18 (f := .glo "FindError") rfl)
    hm := m_law_caught
    cs := fun x hx C hC => by
      simp only [List.mem_cons, List.not_mem_nil, or_false] at hx
      rcases hx with rfl | rfl
      · cases inj (xT.gC.symm.trans hC); exact He.exm_ok (c.fact 39 (f := .exm "BadText" "FindError" true) rfl)
      · cases inj (xF.gC.symm.trans hC); exact He.exm_ok (c.fact 38 (f := .exm "BadForm" "FindError" true) rfl) }
  refine ⟨⟨_, _, m_law_begun, F_law_begun.kp, b_law_begun, ok_begun F_law_begun tl⟩, top 23, fd_law_caught, fun ad l c2 cells => ?_⟩
  have T2 := ok_take (P := P) (w := w) (base := base) (T := T) (ad := ad) (l := l) (c := c2) (cells := cells) F_law_take tl F_law_mixed m_law_mixed b_law_mixed
  have T3 := ok_pick (P := P) (w := w) (base := base) (T := T) (ad := ad) (l := l) (c := c2) (cells := cells) F_law_pick tk F_law_take m_law_take b_law_take T2
  have T4 := ok_spoilt (P := P) (w := w) (base := base) (T := T) (ad := ad) (l := l) (c := c2) (cells := cells) F_law_spoilt tk F_law_take m_law_take b_law_take F_law_pick m_law_pick b_law_pick T2 T3
  exact { DF := { pick := ⟨_, _, m_law_pick, F_law_pick.kp, b_law_pick, T3⟩
                  says := ⟨⟨_, _, m_law_says, F_law_says.kp, b_law_says, ok_says F_law_says tl⟩⟩
                  due := ⟨⟨_, _, m_law_due, F_law_due.kp, b_law_due, ok_due F_law_due tk F_law_tok m_law_tok b_law_tok⟩⟩
                  spoilt := ⟨⟨_, _, m_law_spoilt, F_law_spoilt.kp, b_law_spoilt, T4⟩⟩
                  tline := ⟨_, _, m_text_line, F_text_line.kp, b_text_line, kw1, G6⟩
                  rline := ⟨_, _, m_read_line, F_read_line.kp, b_read_line, kw2, G8⟩ }
          Tk := tk
          TL := tl
          C := cau
          M := M
          TB := tabF
          mF := xF.gC
          TB2 := tabT
          mT := xT.gC }
end
end K87
set_option Elab.async false
set_option linter.all false
set_option maxRecDepth 100000
set_option maxHeartbeats 1000000
namespace K87
open PySem PySem.Spec PyProof.Rows L2 DV
theorem law_at {w : World} {K : PySem.W.Frag} {h : Heap} {mg : PySem.Str → Option Value} (X : K.In h) (G : h.Ns mainGlobals mg) (c : He.SaysX fa fn [] tf ex w h K) {f : Addr} (hf : mg "law" = some (.ref f)) :
    LawAtG PySem.Challenge.rw_everyfind_k87_lines_of_texts w K 30 63 "script" mg f h := by
  obtain ⟨fd, F⟩ := c.t.d.def_ 17 (d := dd "law" 28) rfl
  have eg := hf.symm.trans (He.glo_ok X G (c.t.d.fact 17 (f := .glo "law") rfl))
  injection eg with eg
  injection eg with eg
  subst eg
  have F2 : FunD K "law" "law" (defArgs (top 28)) (defBody (top 28)) (defScope (top 28)) [] [] (He.ga K "law") fd := F
  obtain ⟨oc, od, kV, doc, pm, an, cdv, ct, osl, e, lk, hcd⟩ := (fun_of F2).ex
  obtain ⟨cc, rfl⟩ := He.codeIn_ref hcd
  subst e
  have ec : He.codeOf K ("law", none) = cc := He.codeOf_eq lk rfl
  have hcs : He.cT K ("law", none) = (cc, He.tabOf K cc) := by unfold He.cT; rw [ec]
  have hd := c.hd ("law", none) (List.mem_singleton.mpr rfl)
  have out := c.out ("law", none) (List.mem_singleton.mpr rfl)
  have emp := c.empty ("law", none) (List.mem_singleton.mpr rfl)
  rw [hcs] at hd out emp
  have bnd : ∀ (s : Shared) (u : Value), BindsTo s (PySem.W.fnOf "law" "law" (defArgs (top 28)) (defBody (top 28)) (defScope (top 28)) .none kV doc pm an (.ref cc) ct) ⟨[u], []⟩ [("script", u)] := fun s u => BindsTo.of_eq rfl
  refine ⟨_, [(cc, He.tabOf K cc)], lawSp K [(cc, He.tabOf K cc)], ?_, ?_, ?_, bnd, ?_, ?_⟩
  · intro p hp; cases List.mem_singleton.mp hp; exact emp
  · intro p hp; cases List.mem_singleton.mp hp; exact out
  · intro p hp; cases List.mem_singleton.mp hp; exact PySem.W.codeHd_of_K X hd
  · exact fun H a ns hl hH hS => ⟨a, ns, rfl, hl, hS, hH, fun _ => rfl⟩
  · intro base KB GB TB
    have TBc : LamX.TabB base mg cc (He.tabOf K cc) := TB (cc, He.tabOf K cc) (List.mem_singleton.mpr rfl)
    obtain ⟨BG, sg, fdg, Y⟩ := hyp_of (P := (PySem.Challenge.rw_everyfind_k87_lines_of_texts).prog) (w := w) (base := base) (T := [(He.tabOf K cc, "law.<locals>." ++ "<lambda>")]) (cq := some (.ref cc, "law.<locals>.")) c.t.d X G c.more ⟨cc, He.tabOf K cc, "law.<locals>.", rfl, TBc, List.mem_singleton.mpr rfl, fun p hp _ => by cases List.mem_singleton.mp hp; rfl⟩
    exact ok_law lk hcd TBc out BG (k := 29) (by decide) Y
end K87
open PySem PySem.W PySem.Calls PyProof.Rows
set_option maxRecDepth 100000 in
set_option maxHeartbeats 0 in
theorem PySem.Challenge.cw_everyfind_k87_lines_of_texts_holds : PySem.Challenge.rw_everyfind_k87_lines_of_texts.Holds := by
  w_on; o_law
  refine HandSHeadRun.head_any (r := OpenLaw.row PySem.Challenge.rw_everyfind_k87_lines_of_texts) (q := view (OpenLaw.row PySem.Challenge.rw_everyfind_k87_lines_of_texts).prog [28]) (H := K87.hk) (ob := K87.ob) (M := 3000) (loose := K87.loose) (d := HandSHeadRun.topDef (OpenLaw.row PySem.Challenge.rw_everyfind_k87_lines_of_texts).prog 28) (kwd := []) K87.ob_eq
    (by kernel_rfl) (fun s => by kernel_rfl) K87.run (by kernel_rfl) (by kernel_rfl) (by kernel_rfl) (by rfl) (by first | assumption | decide +kernel) (by decide +kernel) ⟨rfl, rfl, rfl, rfl, rfl, by decide +kernel⟩ ?hw ?hc
  case hw => w_witness2
  case hc =>
    refine DV.walk_GE (l := PySem.Challenge.rw_everyfind_k87_lines_of_texts) (n := 63) (k := 30) (x := "script") rfl (by decide) (by kernel_rfl) ⟨rfl, by decide, by decide⟩ ?F
    intro w mg fa h Y G hmg0
    obtain ⟨K, KX, c⟩ := Y
    have hmg : mg ("law" : PySem.Str) = some (.ref fa) := by
      have e : (HandSHeadRun.topDef (OpenLaw.row PySem.Challenge.rw_everyfind_k87_lines_of_texts).prog 28).name = ("law" : PySem.Str) := by kernel_rfl
      rw [← e]
      exact hmg0
    exact ⟨K, KX, K87.law_at KX G c hmg⟩
