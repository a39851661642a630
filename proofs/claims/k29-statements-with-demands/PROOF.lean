import PyProof.Rows.All
import Wide.All
import OpenK.AllK
import Wide.FinOn
import HandS.Base
import HandS.Call
import HandS.List
import HandS.Comp
import HandS.Exc
import HandS.Slots
import HandS.More
import HandS.ForMost
import HandS.Wide
import HandS.Strs
import HandS.Deep
import HandS.TupAny
import KE.DataEq
import KE.DataFind
import HandS.ExcOwn
import HandS.IsInst
import HandS.ClsMeth
import HandS.Defaults
import HandS.Star
import HandS.Iter
import HandS.RevRange
import HandS.MakeKwOnly
import HandS.HeadHook2
import HandS.HeadHook1
import HandS.HeadNt
import HandS.SlotsOwn
import HandS.Property
import HandS.Style
import HandS.TryOnly
import HandS.ExcIs
import HandS.Conv
import HandS.Text
import HandS.FStr
import HandS.Small
import HandS.Replace
import KE.KCallOwn
import HandS.HeadHook3
import KE.KExcSuper
import KE.KSuper
import KE.KFromBytes
import HandS.ExcInit
import HandS.ExcField
import KE.KExcIs
import PyProof.StrLawsIn
import KE.KStateDown
import HandS.Ends
import HandS.Words
import HandS.WordsExc
import HandS.Head0
import HandS.Head1
import HandS.Head2
import HandS.HeadEnd
import Lean
import PySem.Challenge.RW_onehandparts_k29_statements_with_demands
set_option Elab.async false
set_option linter.all false
set_option maxRecDepth 100000
set_option maxHeartbeats 0
/-! Mi0: the data D, what it means that a value stands for a datum in a view of the heap, contexts, readings. -/
namespace Mi
open L2 PySem PySem.Spec PyProof.Rows

abbrev D := PyData
/-- what an evaluation comes to: a value, an exception of the program's own, or nothing is claimed -/
inductive Res (α : Type) where
  | ok (a : α) | ex (c : Str) (fs : List D) | no
def Res.bind {α β : Type} (r : Res α) (f : α → Res β) : Res β := match r with
  | .ok a => f a
  | .ex c fs => .ex c fs
  | .no => .no
/-- what a block comes to: falls through, returns, breaks, continues .. -/
inductive Fl (β τ : Type) where
  | nx (t : τ) | rt (d : D) | bk (b : β) | ct (b : β) | ex (c : Str) (fs : List D) | no
def Fl.bind {β τ υ : Type} (r : Fl β τ) (f : τ → Fl β υ) : Fl β υ := match r with
  | .nx t => f t
  | .rt d => .rt d
  | .bk b => .bk b
  | .ct b => .ct b
  | .ex c fs => .ex c fs
  | .no => .no
def Res.bindF {α β τ : Type} (r : Res α) (f : α → Fl β τ) : Fl β τ := match r with
  | .ok a => f a
  | .ex c fs => .ex c fs
  | .no => .no
def Fl.up {β τ : Type} (r : Fl β Empty) : Fl β τ := r.bind fun e => e.elim
/-- a def's whole body: falling off the end gives None -/
def Fl.res (r : Fl Empty Unit) : Res D := match r with
  | .nx _ => .ok .none
  | .rt d => .ok d
  | .bk b => b.elim
  | .ct b => b.elim
  | .ex c fs => .ex c fs
  | .no => .no
/-- a value or nothing claimed -/
def ofO {α : Type} : Option α → Res α
  | some a => .ok a
  | none => .no
@[simp] theorem ofO_some {α : Type} (a : α) : ofO (some a) = .ok a := rfl
@[simp] theorem ofO_none {α : Type} : ofO (none : Option α) = .no := rfl
@[simp] theorem Res.bind_ok {α β : Type} (a : α) (f : α → Res β) : (Res.ok a).bind f = f a := rfl
@[simp] theorem Res.bind_ex {α β : Type} (c : Str) (fs : List D) (f : α → Res β) : (Res.ex c fs : Res α).bind f = .ex c fs := rfl
@[simp] theorem Res.bind_no {α β : Type} (f : α → Res β) : (Res.no : Res α).bind f = .no := rfl
@[simp] theorem Res.bindF_ok {α β τ : Type} (a : α) (f : α → Fl β τ) : (Res.ok a).bindF f = f a := rfl
@[simp] theorem Res.bindF_ex {α β τ : Type} (c : Str) (fs : List D) (f : α → Fl β τ) : (Res.ex c fs : Res α).bindF f = .ex c fs := rfl
@[simp] theorem Res.bindF_no {α β τ : Type} (f : α → Fl β τ) : (Res.no : Res α).bindF f = .no := rfl
@[simp] theorem Fl.bind_nx {β τ υ : Type} (t : τ) (f : τ → Fl β υ) : (Fl.nx t : Fl β τ).bind f = f t := rfl
@[simp] theorem Fl.bind_rt {β τ υ : Type} (d : D) (f : τ → Fl β υ) : (Fl.rt d : Fl β τ).bind f = .rt d := rfl
@[simp] theorem Fl.bind_bk {β τ υ : Type} (b : β) (f : τ → Fl β υ) : (Fl.bk b : Fl β τ).bind f = .bk b := rfl
@[simp] theorem Fl.bind_ct {β τ υ : Type} (b : β) (f : τ → Fl β υ) : (Fl.ct b : Fl β τ).bind f = .ct b := rfl
@[simp] theorem Fl.bind_ex {β τ υ : Type} (c : Str) (fs : List D) (f : τ → Fl β υ) : (Fl.ex c fs : Fl β τ).bind f = .ex c fs := rfl
@[simp] theorem Fl.bind_no {β τ υ : Type} (f : τ → Fl β υ) : (Fl.no : Fl β τ).bind f = .no := rfl
@[simp] theorem Fl.up_rt {β τ : Type} (d : D) : (Fl.rt d : Fl β Empty).up = (Fl.rt d : Fl β τ) := rfl
@[simp] theorem Fl.res_rt (d : D) : (Fl.rt d : Fl Empty Unit).res = .ok d := rfl
@[simp] theorem Fl.res_nx (u : Unit) : (Fl.nx u : Fl Empty Unit).res = .ok .none := rfl
@[simp] theorem Fl.res_ex (c : Str) (fs : List D) : (Fl.ex c fs : Fl Empty Unit).res = .ex c fs := rfl
@[simp] theorem Fl.res_no : (Fl.no : Fl Empty Unit).res = .no := rfl

/-! ### data in the heap -/
/-- a class of the program: where it stands, whether it has slots, its instances. fields in order -/
inductive Kd where
  | slots | dict | exc
structure CI where
  C : Addr
  k : Kd
  fs : List Str
  /-- the slots' places, in the order of fs -/
  pl : List Nat
/-- the values stored so far, at their places -/
def PutOk (pl : List Nat) (vs : List V) (ss : List (Option V)) : Prop := ∀ (j : Nat) (v : V) (p : Nat), vs[j]? = some v → pl[j]? = some p → ss[p]? = some (some v)
/-- an instance at a, its own dict at dx, the fields stored so far -/
def ObjAt (i : CI) (H : Hp) (a dx : Addr) (ns : List Str) (vs : List V) : Prop :=
  (i.k = .slots ∧ ns = i.fs.take ns.length ∧ ns.length = vs.length ∧ ((vs = [] ∧ H a = some (.ins i.C dx []) ∧ H dx = some (.own a)) ∨ (∃ ss, PutOk i.pl vs ss ∧ H a = some (SlX.SlO a i.C dx ss) ∧ H dx = some (.xd [])))) ∨
    (i.k = .dict ∧ ns.length = vs.length ∧ H a = some (.ins i.C dx (ns.zip vs)) ∧ H dx = some (.own a) ∧ ∀ f ∈ ns, f ∈ i.fs)
structure Gm where
  K : PySem.W.Frag
  ci : Str → Option CI
/-- an exact tuple's object -/
def obT (its : List Value) : Obj := { cls := .type "tuple", data := .seq its.toArray }
/-- at a an exact tuple of xs is to be read -/
def TupX (K : PySem.W.Frag) (F : Hp) (a : Addr) (xs : List V) : Prop :=
  (∃ its, F a = some (.frz (obT its) (.tup xs))) ∨
    ∃ (o : Obj) (its : Array Value) (n : Nat), K.lookup a = some o ∧ o.cls = .type "tuple" ∧ o.dict = none ∧ o.data = .seq its n ∧ its.size ≤ sizeLine ∧ Vals xs its.toList
theorem TupX.sqT {K : PySem.W.Frag} {F : Hp} {a : Addr} {xs : List V} (h : TupX K F a xs) : SqT K F a xs := by
  rcases h with ⟨its, h⟩ | ⟨o, its, n, h1, h2, h3, h4, h5, h6⟩
  · exact .inl (.inr ⟨_, h⟩)
  · exact .inr ⟨o, its, n, h1, h2, h4, h5, h6⟩
mutual
/-- the value v stands for the datum d in the view F -/
inductive Enc (g : Gm) (F : Hp) : V → D → Prop
  | non : Enc g F .non .none
  | bl (b : Bool) : Enc g F (.bl b) (.bool b)
  | int (i : Int) : Enc g F (.int i) (.int i)
  | str (x : Str) : Enc g F (.str x) (.str x)
  | lst {a : Addr} {xs : List V} {ds : List D} : F a = some (.lst xs) → EncL g F xs ds → Enc g F (.ref a) (.list ds)
  | tup {a : Addr} {xs : List V} {ds : List D} : TupX g.K F a xs → EncL g F xs ds → Enc g F (.ref a) (.tuple ds)
  | dct {a : Addr} {kvs : List (D × D)} : EncK g F a kvs → Enc g F (.ref a) (.dict kvs)
inductive EncL (g : Gm) (F : Hp) : List V → List D → Prop
  | nil : EncL g F [] []
  | cons {v : V} {vs : List V} {d : D} {ds : List D} : Enc g F v d → EncL g F vs ds → EncL g F (v :: vs) (d :: ds)
/-- a dict, or an instance (its first pair is None and the class's name) -/
inductive EncK (g : Gm) (F : Hp) : Addr → List (D × D) → Prop
  /-- the script: a list that is only read -/
  | scr {a : Addr} {xs : List V} {ds : List D} : SqL g.K F a xs → EncL g F xs ds → EncK g F a [(.none, .list ds)]
  | dk {a : Addr} {ps : List (Key × V)} {kvs : List (D × D)} : F a = some (.dK ps) → EncP g F ps kvs → EncK g F a kvs
  | obj {a dx : Addr} {c : Str} {i : CI} {ns : List Str} {vs : List V} {kvs : List (D × D)} : g.ci c = some i → EncF g F ns vs kvs → ObjAt i F a dx ns vs → EncK g F a ((.none, .str c) :: kvs)
inductive EncF (g : Gm) (F : Hp) : List Str → List V → List (D × D) → Prop
  | nil : EncF g F [] [] []
  | cons {f : Str} {v : V} {d : D} {fs : List Str} {vs : List V} {kvs : List (D × D)} : Enc g F v d → EncF g F fs vs kvs → EncF g F (f :: fs) (v :: vs) ((.str f, d) :: kvs)
inductive EncP (g : Gm) (F : Hp) : List (Key × V) → List (D × D) → Prop
  | nil : EncP g F [] []
  | consI {i : Int} {v : V} {d : D} {ps : List (Key × V)} {kvs : List (D × D)} : Enc g F v d → EncP g F ps kvs → EncP g F ((.inl i, v) :: ps) ((.int i, d) :: kvs)
  | consS {x : Str} {v : V} {d : D} {ps : List (Key × V)} {kvs : List (D × D)} : Enc g F v d → EncP g F ps kvs → EncP g F ((.inr x, v) :: ps) ((.str x, d) :: kvs)
end

def Sub (F H : Hp) : Prop := ∀ b o, F b = some o → H b = some o
theorem Sub.refl (H : Hp) : Sub H H := fun _ _ h => h
theorem Sub.trans {H H1 H2 : Hp} (a : Sub H H1) (b : Sub H1 H2) : Sub H H2 := fun c o h => b c o (a c o h)
theorem Sub.new {H : Hp} {p : Addr} {o : HO} (h : H p = none) : Sub H (upd H p o) := fun a u e => by
  rw [upd_ne (ne_of_none e h)]
  exact e
theorem Sub.mut {H H' : Hp} {p : Addr} {o : HO} (e : Sub H H') (h : H p = none) : Sub H (upd H' p o) := fun a u ha => by
  rw [upd_ne (ne_of_none ha h)]
  exact e a u ha
theorem Sub.free {H H' : Hp} (e : Sub H H') {l : Addr} (h : H' l = Option.none) : H l = Option.none := by
  cases q : H l with
  | none => rfl
  | some o =>
    rw [e l o q] at h
    cases h
theorem Sub.rd {H H' : Hp} {a : Addr} {u : HO} (e : Sub H H') (h : Rd H a u) : Rd H' a u := by
  rcases h with h | ⟨o, h⟩
  · exact .inl (e _ _ h)
  · exact .inr ⟨o, e _ _ h⟩
theorem Sub.sqL {K : PySem.W.Frag} {H H' : Hp} {a : Addr} {xs : List V} (e : Sub H H') (h : SqL K H a xs) : SqL K H' a xs := by
  rcases h with h | h
  · exact .inl (e.rd h)
  · exact .inr h
theorem Sub.sqT {K : PySem.W.Frag} {H H' : Hp} {a : Addr} {xs : List V} (e : Sub H H') (h : SqT K H a xs) : SqT K H' a xs := by
  rcases h with h | h
  · exact .inl (e.rd h)
  · exact .inr h
theorem Sub.tupX {K : PySem.W.Frag} {H H' : Hp} {a : Addr} {xs : List V} (e : Sub H H') (h : TupX K H a xs) : TupX K H' a xs := by
  rcases h with ⟨its, h⟩ | h
  · exact .inl ⟨its, e _ _ h⟩
  · exact .inr h
theorem Sub.objAt {i : CI} {H H' : Hp} {a dx : Addr} {ns : List Str} {vs : List V} (e : Sub H H') (h : ObjAt i H a dx ns vs) : ObjAt i H' a dx ns vs := by
  rcases h with ⟨h1, h2, h3, ⟨h4, h5, h6⟩ | ⟨ss, h0, h5, h6⟩⟩ | ⟨h1, h2, h3, h4, h7⟩
  · exact .inl ⟨h1, h2, h3, .inl ⟨h4, e _ _ h5, e _ _ h6⟩⟩
  · exact .inl ⟨h1, h2, h3, .inr ⟨ss, h0, e _ _ h5, e _ _ h6⟩⟩
  · exact .inr ⟨h1, h2, e _ _ h3, e _ _ h4, h7⟩
theorem Sub.slt {H H' : Hp} {a C dx : Addr} {vs : List (Option V)} (e : Sub H H') (h : SlX.Slt H a C dx vs) : SlX.Slt H' a C dx vs := by
  rcases h with ⟨h, q⟩ | ⟨h, q⟩
  · exact .inl ⟨e _ _ h, q⟩
  · exact .inr ⟨e _ _ h, e _ _ q⟩
mutual
theorem Enc.mono {g : Gm} {F F' : Hp} (e : Sub F F') : ∀ {v : V} {d : D}, Enc g F v d → Enc g F' v d
  | _, _, .non => .non
  | _, _, .bl b => .bl b
  | _, _, .int i => .int i
  | _, _, .str x => .str x
  | _, _, .lst h k => .lst (e _ _ h) (EncL.mono e k)
  | _, _, .tup h k => .tup (e.tupX h) (EncL.mono e k)
  | _, _, .dct k => .dct (EncK.mono e k)
theorem EncL.mono {g : Gm} {F F' : Hp} (e : Sub F F') : ∀ {vs : List V} {ds : List D}, EncL g F vs ds → EncL g F' vs ds
  | _, _, .nil => .nil
  | _, _, .cons h k => .cons (Enc.mono e h) (EncL.mono e k)
theorem EncK.mono {g : Gm} {F F' : Hp} (e : Sub F F') : ∀ {a : Addr} {kvs : List (D × D)}, EncK g F a kvs → EncK g F' a kvs
  | _, _, .scr h k => .scr (e.sqL h) (EncL.mono e k)
  | _, _, .dk h k => .dk (e _ _ h) (EncP.mono e k)
  | _, _, .obj h k q => .obj h (EncF.mono e k) (e.objAt q)
theorem EncF.mono {g : Gm} {F F' : Hp} (e : Sub F F') : ∀ {fs : List Str} {vs : List V} {kvs : List (D × D)}, EncF g F fs vs kvs → EncF g F' fs vs kvs
  | _, _, _, .nil => .nil
  | _, _, _, .cons h k => .cons (Enc.mono e h) (EncF.mono e k)
theorem EncP.mono {g : Gm} {F F' : Hp} (e : Sub F F') : ∀ {ps : List (Key × V)} {kvs : List (D × D)}, EncP g F ps kvs → EncP g F' ps kvs
  | _, _, .nil => .nil
  | _, _, .consI h k => .consI (Enc.mono e h) (EncP.mono e k)
  | _, _, .consS h k => .consS (Enc.mono e h) (EncP.mono e k)
end
theorem EncL.len {g : Gm} {F : Hp} : ∀ {vs : List V} {ds : List D}, EncL g F vs ds → vs.length = ds.length
  | _, _, .nil => rfl
  | _, _, .cons _ k => congrArg (· + 1) (EncL.len k)
theorem EncL.get {g : Gm} {F : Hp} : ∀ {vs : List V} {ds : List D} {i : Nat} {d : D}, EncL g F vs ds → ds[i]? = some d → ∃ v, vs[i]? = some v ∧ Enc g F v d
  | _, _, i, _, .nil, e => by simp at e
  | _, _, 0, _, .cons h _, e => by
    simp at e
    subst e
    exact ⟨_, rfl, h⟩
  | _, _, i + 1, d, .cons _ k, e => by
    obtain ⟨v, h1, h2⟩ := EncL.get (i := i) (d := d) k (by simpa using e)
    exact ⟨v, by simpa using h1, h2⟩
theorem EncL.getV {g : Gm} {F : Hp} : ∀ {vs : List V} {ds : List D} {i : Nat} {v : V}, EncL g F vs ds → vs[i]? = some v → ∃ d, ds[i]? = some d ∧ Enc g F v d
  | _, _, i, _, .nil, e => by simp at e
  | _, _, 0, _, .cons h _, e => by
    simp at e
    subst e
    exact ⟨_, rfl, h⟩
  | _, _, i + 1, d, .cons _ k, e => by
    obtain ⟨v, h1, h2⟩ := EncL.getV (i := i) (v := d) k (by simpa using e)
    exact ⟨v, by simpa using h1, h2⟩
theorem EncL.app {g : Gm} {F : Hp} : ∀ {vs ws : List V} {ds es : List D}, EncL g F vs ds → EncL g F ws es → EncL g F (vs ++ ws) (ds ++ es)
  | _, _, _, _, .nil, q => q
  | _, _, _, _, .cons h k, q => .cons h (EncL.app k q)
theorem EncL.drop {g : Gm} {F : Hp} : ∀ (n : Nat) {vs : List V} {ds : List D}, EncL g F vs ds → EncL g F (vs.drop n) (ds.drop n)
  | 0, _, _, q => q
  | _ + 1, _, _, .nil => .nil
  | n + 1, _, _, .cons _ k => EncL.drop n k
theorem EncL.take {g : Gm} {F : Hp} : ∀ (n : Nat) {vs : List V} {ds : List D}, EncL g F vs ds → EncL g F (vs.take n) (ds.take n)
  | 0, _, _, _ => .nil
  | _ + 1, _, _, .nil => .nil
  | n + 1, _, _, .cons h k => .cons h (EncL.take n k)
theorem EncL.set {g : Gm} {F : Hp} {v : V} {d : D} (h : Enc g F v d) : ∀ (n : Nat) {vs : List V} {ds : List D}, EncL g F vs ds → EncL g F (vs.set n v) (ds.set n d)
  | _, _, _, .nil => .nil
  | 0, _, _, .cons _ k => .cons h k
  | n + 1, _, _, .cons q k => .cons q (EncL.set h n k)
theorem EncL.reverse {g : Gm} {F : Hp} : ∀ {vs : List V} {ds : List D}, EncL g F vs ds → EncL g F vs.reverse ds.reverse
  | _, _, .nil => .nil
  | _, _, .cons h k => by
    rw [List.reverse_cons, List.reverse_cons]
    exact (EncL.reverse k).app (.cons h .nil)
/-- a scalar: it stands in any view -/
def sc : D → Bool
  | .none | .bool _ | .int _ | .str _ => true
  | _ => false
theorem Enc.scal {g : Gm} {F F' : Hp} {v : V} {d : D} (h : Enc g F v d) (s : sc d = true) : Enc g F' v d := by
  cases h with
  | non => exact .non
  | bl b => exact .bl b
  | int i => exact .int i
  | str x => exact .str x
  | lst _ _ => cases s
  | tup _ _ => cases s
  | dct _ => cases s

theorem EncL.scal {g : Gm} {F F' : Hp} : ∀ {vs : List V} {ds : List D}, EncL g F vs ds → ds.all sc = true → EncL g F' vs ds
  | _, _, .nil, _ => .nil
  | _, _, .cons h k, q => by
    rw [List.all_cons] at q
    have q2 := Bool.and_eq_true_iff.mp q
    exact .cons (h.scal q2.1) (EncL.scal k q2.2)

/-! ### a view grows with its heap; what the heap has beside the view stays out of it -/
structure Grow (F H F' H' : Hp) : Prop where
  ff : Sub F F'
  fh : Sub F' H'
  hh : Sub H H'
  new : ∀ a, H a ≠ none → F a = none → F' a = none
theorem Grow.refl {F H : Hp} (h : Sub F H) : Grow F H F H := ⟨Sub.refl _, h, Sub.refl _, fun _ _ z => z⟩
theorem Grow.trans {F H F1 H1 F2 H2 : Hp} (a : Grow F H F1 H1) (b : Grow F1 H1 F2 H2) : Grow F H F2 H2 :=
  ⟨a.ff.trans b.ff, b.fh, a.hh.trans b.hh, fun c h1 h2 => b.new c (fun z => h1 (a.hh.free z)) (a.new c h1 h2)⟩
theorem Grow.alloc {F H : Hp} {p : Addr} {o : HO} (h : Sub F H) (hp : H p = none) : Grow F H (upd F p o) (upd H p o) :=
  ⟨Sub.new (h.free hp), fun b u e => by
    by_cases q : b = p
    · subst q
      rw [upd_same] at e ⊢
      exact e
    · rw [upd_ne q] at e ⊢
      exact h _ _ e, Sub.new hp, fun a h1 h2 => by
    have q : a ≠ p := fun z => h1 (by rw [z]; exact hp)
    rw [upd_ne q]
    exact h2⟩

/-! ### contexts -/
/-- what a slot holds: a datum of the view, or a list of one's own that is still changed -/
inductive Bnd where
  | v (d : D)
  | l (xs : List D)
  /-- an instance that is being made -/
  | o (a : Addr) (c : Str) (kvs : List (D × D))
  /-- the exception that a suite holds -/
  | x (a : Addr)
abbrev Ctx := List (Option Bnd)
inductive Le : Ctx → Ctx → Prop
  | nil {Γ : Ctx} : Le [] Γ
  | none {o : Option Bnd} {Γ Δ : Ctx} : Le Γ Δ → Le (Option.none :: Γ) (o :: Δ)
  | same {b : Bnd} {Γ Δ : Ctx} : Le Γ Δ → Le (some b :: Γ) (some b :: Δ)
theorem Le.refl : ∀ (Γ : Ctx), Le Γ Γ
  | [] => .nil
  | Option.none :: Γ => .none (Le.refl Γ)
  | some _ :: Γ => .same (Le.refl Γ)
theorem Le.at_ : ∀ {Γ Δ : Ctx} {i : Nat} {b : Bnd}, Le Γ Δ → Γ[i]? = some (some b) → Δ[i]? = some (some b)
  | _, _, i, b, .nil, e => by simp at e
  | _, _, 0, b, .none _, e => by simp at e
  | _, _, i + 1, b, .none h, e => by simpa using Le.at_ (i := i) h (by simpa using e)
  | _, _, 0, b, .same _, e => by simpa using e
  | _, _, i + 1, b, .same h, e => by simpa using Le.at_ (i := i) h (by simpa using e)
theorem Le.trans {Γ Δ Θ : Ctx} (a : Le Γ Δ) : Le Δ Θ → Le Γ Θ := by
  intro b
  induction a generalizing Θ with
  | nil => exact .nil
  | none _ ih =>
    cases b with
    | none q => exact .none (ih q)
    | same q => exact .none (ih q)
  | same _ ih =>
    cases b with
    | same q => exact .same (ih q)
theorem Le.setr : ∀ {Γ Δ : Ctx} {i : Nat} {b : Option Bnd}, Le Γ Δ → (Γ[i]?).join = Option.none → Le Γ (Δ.set i b)
  | _, _, _, _, .nil, _ => .nil
  | _, _, 0, _, .none h, _ => .none h
  | _, _, i + 1, _, .none h, e => .none (Le.setr h (by simpa using e))
  | _, _, 0, _, .same h, e => by simp at e
  | _, _, i + 1, _, .same h, e => .same (Le.setr h (by simpa using e))

/-- what stays the same through a block: the view and the heap at its beginning, what a raised exception keeps, and what is wanted of it -/
structure Bs where
  F0 : Hp
  H0 : Hp
  cx : Ctx
  W : WX
theorem ObjAt.there {i : CI} {H : Hp} {a dx : Addr} {ns : List Str} {vs : List V} (h : ObjAt i H a dx ns vs) : H a ≠ none ∧ H dx ≠ none := by
  rcases h with ⟨_, _, _, ⟨_, h5, h6⟩ | ⟨_, _, h5, h6⟩⟩ | ⟨_, _, h5, h6, _⟩ <;> exact ⟨by rw [h5]; simp, by rw [h6]; simp⟩
/-- what stands there is no list -/
theorem ObjAt.noL {i : CI} {H : Hp} {a dx c : Addr} {ns : List Str} {vs xs : List V} (h : ObjAt i H a dx ns vs) (hc : H c = some (.lst xs)) : c ≠ a ∧ c ≠ dx := by
  rcases h with ⟨_, _, _, ⟨_, h5, h6⟩ | ⟨_, _, h5, h6⟩⟩ | ⟨_, _, h5, h6, _⟩ <;> refine ⟨fun z => ?_, fun z => ?_⟩ <;> rw [z] at hc
  all_goals first | (rw [h5] at hc; unfold SlX.SlO at hc; cases hc) | (rw [h5] at hc; cases hc) | (rw [h6] at hc; cases hc)
theorem ObjAt.congr {i : CI} {H H' : Hp} {a dx : Addr} {ns : List Str} {vs : List V} (h : ObjAt i H a dx ns vs) (h1 : H' a = H a) (h2 : H' dx = H dx) : ObjAt i H' a dx ns vs := by
  unfold ObjAt
  rw [h1, h2]
  exact h
def BOk (g : Gm) (H0 F H : Hp) : Option V → Bnd → Prop
  | some v, .v d => Enc g F v d
  | some (.ref a), .l xs => F a = none ∧ H0 a = none ∧ ∃ vs, H a = some (.lst vs) ∧ EncL g F vs xs
  | some (.ref a), .o a0 c kvs => a = a0 ∧ ∃ (i : CI) (dx : Addr) (ns : List Str) (vs : List V), g.ci c = some i ∧ F a = none ∧ F dx = none ∧ H0 a = none ∧ H0 dx = none ∧ dx ≠ a ∧ EncF g F ns vs kvs ∧ ObjAt i H a dx ns vs
  | some (.ref a), .x a0 => a = a0
  | _, _ => False
structure Rf (g : Gm) (b : Bs) (Γ : Ctx) (F : Hp) (σ : L2.St) (H : Hp) : Prop where
  gr : Grow b.F0 b.H0 F H
  le : Le b.cx Γ
  at_ : ∀ (i : Nat) (bd : Bnd), Γ[i]? = some (some bd) → ∃ ov, σ[i]? = some ov ∧ BOk g b.H0 F H ov bd
  sep : ∀ (i j : Nat) (a : Addr) (xs ys : List D), Γ[i]? = some (some (.l xs)) → Γ[j]? = some (some (.l ys)) → σ[i]? = some (some (.ref a)) → σ[j]? = some (some (.ref a)) → i = j
section
variable {g : Gm} {b : Bs} {Γ Δ : Ctx} {F F' H H' : Hp} {σ : L2.St}
theorem BOk.grow {ov : Option V} {bd : Bnd} (h : BOk g b.H0 F H ov bd) (gr : Grow F H F' H') : BOk g b.H0 F' H' ov bd := by
  cases ov with
  | none => exact h
  | some v =>
    cases bd with
    | v d => exact Enc.mono gr.ff h
    | l xs =>
      cases v with
      | ref a =>
        obtain ⟨h1, h2, vs, h3, h4⟩ := h
        exact ⟨gr.new a (by rw [h3]; simp) h1, h2, vs, gr.hh _ _ h3, EncL.mono gr.ff h4⟩
      | _ => exact h
    | o a0 c kvs =>
      cases v with
      | ref a =>
        obtain ⟨h0, i, dx, ns, vs, h1, h2, h3, h4, h5, h6, h7, h8⟩ := h
        obtain ⟨n1, n2⟩ := h8.there
        exact ⟨h0, i, dx, ns, vs, h1, gr.new a n1 h2, gr.new dx n2 h3, h4, h5, h6, EncF.mono gr.ff h7, gr.hh.objAt h8⟩
      | _ => exact h
    | x a0 => cases v <;> exact h
theorem Rf.grow (r : Rf g b Γ F σ H) (gr : Grow F H F' H') : Rf g b Γ F' σ H' :=
  ⟨r.gr.trans gr, r.le, fun i bd e => let ⟨ov, h1, h2⟩ := r.at_ i bd e; ⟨ov, h1, h2.grow gr⟩, r.sep⟩
theorem Rf.weak (r : Rf g b Γ F σ H) (l : Le Δ Γ) (le : Le b.cx Δ) : Rf g b Δ F σ H :=
  ⟨r.gr, le, fun i bd e => r.at_ i bd (l.at_ e), fun i j a xs ys h1 h2 => r.sep i j a xs ys (l.at_ h1) (l.at_ h2)⟩
theorem Rf.cx (r : Rf g b Γ F σ H) : Rf g b b.cx F σ H := r.weak r.le (Le.refl _)
theorem Rf.val (r : Rf g b Γ F σ H) {i : Nat} {d : D} (h : Γ[i]? = some (some (.v d))) : ∃ v, σ[i]? = some (some v) ∧ Enc g F v d := by
  obtain ⟨ov, h1, h2⟩ := r.at_ i _ h
  cases ov with
  | none => exact h2.elim
  | some v => exact ⟨v, h1, h2⟩
theorem Rf.own (r : Rf g b Γ F σ H) {i : Nat} {xs : List D} (h : Γ[i]? = some (some (.l xs))) : ∃ a vs, σ[i]? = some (some (.ref a)) ∧ F a = none ∧ b.H0 a = none ∧ H a = some (.lst vs) ∧ EncL g F vs xs := by
  obtain ⟨ov, h1, h2⟩ := r.at_ i _ h
  cases ov with
  | none => exact h2.elim
  | some v =>
    cases v with
    | ref a =>
      obtain ⟨k1, k2, vs, k3, k4⟩ := h2
      exact ⟨a, vs, h1, k1, k2, k3, k4⟩
    | _ => exact h2.elim
theorem set_get {α : Type} {l : List α} {i j : Nat} {x y : α} (h : (l.set i x)[j]? = some y) : (j = i ∧ y = x ∧ i < l.length) ∨ (j ≠ i ∧ l[j]? = some y) := by
  by_cases e : j = i
  · subst e
    by_cases q : j < l.length
    · rw [List.getElem?_set_self q] at h
      cases h
      exact .inl ⟨rfl, rfl, q⟩
    · rw [List.getElem?_eq_none (by simp; omega)] at h
      cases h
  · rw [List.getElem?_set_ne (Ne.symm e)] at h
    exact .inr ⟨e, h⟩
/-- a slot takes a value -/
theorem Rf.setv (r : Rf g b Γ F σ H) {i : Nat} {v : V} {d : D} (h : Enc g F v d) (hc : (b.cx[i]?).join = none) (hi : i < σ.length) : Rf g b (Γ.set i (some (.v d))) F (σ.set i (some v)) H := by
  refine ⟨r.gr, r.le.setr hc, fun j bd e => ?_, fun j k a xs ys h1 h2 h3 h4 => ?_⟩
  · rcases set_get e with ⟨rfl, e2, _⟩ | ⟨ne, e2⟩
    · cases e2
      exact ⟨some v, List.getElem?_set_self hi, h⟩
    · obtain ⟨ov, k1, k2⟩ := r.at_ j bd e2
      exact ⟨ov, by rw [List.getElem?_set_ne (Ne.symm ne)]; exact k1, k2⟩
  · rcases set_get h1 with ⟨_, e2, _⟩ | ⟨n1, e1⟩
    · cases e2
    · rcases set_get h2 with ⟨_, e2, _⟩ | ⟨n2, e2⟩
      · cases e2
      · rw [List.getElem?_set_ne (Ne.symm n1)] at h3
        rw [List.getElem?_set_ne (Ne.symm n2)] at h4
        exact r.sep j k a xs ys e1 e2 h3 h4
/-- a slot takes a new list of one's own -/
theorem Rf.setl (r : Rf g b Γ F σ H) {i : Nat} {a : Addr} {vs : List V} {xs : List D} (h : EncL g F vs xs) (hf : F a = none) (h0 : b.H0 a = none) (hh : H a = some (.lst vs)) (hn : ∀ (j : Nat) (ys : List D), j ≠ i → Γ[j]? = some (some (.l ys)) → σ[j]? ≠ some (some (.ref a)))
    (hc : (b.cx[i]?).join = none) (hi : i < σ.length) : Rf g b (Γ.set i (some (.l xs))) F (σ.set i (some (.ref a))) H := by
  refine ⟨r.gr, r.le.setr hc, fun j bd e => ?_, fun j k c us ys h1 h2 h3 h4 => ?_⟩
  · rcases set_get e with ⟨rfl, e2, _⟩ | ⟨ne, e2⟩
    · cases e2
      exact ⟨some (.ref a), List.getElem?_set_self hi, hf, h0, vs, hh, h⟩
    · obtain ⟨ov, k1, k2⟩ := r.at_ j bd e2
      exact ⟨ov, by rw [List.getElem?_set_ne (Ne.symm ne)]; exact k1, k2⟩
  · rcases set_get h1 with ⟨rfl, _, _⟩ | ⟨n1, e1⟩
    · rcases set_get h2 with ⟨rfl, _, _⟩ | ⟨n2, e2⟩
      · rfl
      · rw [List.getElem?_set_self hi] at h3
        cases h3
        rw [List.getElem?_set_ne (Ne.symm n2)] at h4
        exact absurd h4 (hn k ys n2 e2)
    · rcases set_get h2 with ⟨rfl, _, _⟩ | ⟨n2, e2⟩
      · rw [List.getElem?_set_self hi] at h4
        cases h4
        rw [List.getElem?_set_ne (Ne.symm n1)] at h3
        exact absurd h3 (hn j us n1 e1)
      · rw [List.getElem?_set_ne (Ne.symm n1)] at h3
        rw [List.getElem?_set_ne (Ne.symm n2)] at h4
        exact r.sep j k c us ys e1 e2 h3 h4
/-- a list of one's own is changed in place -/
theorem Rf.mutl (r : Rf g b Γ F σ H) {i : Nat} {a : Addr} {vs ws : List V} {xs ys : List D} (hx : Γ[i]? = some (some (.l xs))) (hs : σ[i]? = some (some (.ref a))) (hh : H a = some (.lst vs)) (hf : F a = none) (h0 : b.H0 a = none) (hw : EncL g F ws ys) (hc : (b.cx[i]?).join = none) :
    Rf g b (Γ.set i (some (.l ys))) F σ (upd H a (.lst ws)) := by
  refine ⟨⟨r.gr.ff, r.gr.fh.mut hf, r.gr.hh.mut h0, r.gr.new⟩, r.le.setr hc, fun j bd e => ?_, fun j k c us zs h1 h2 h3 h4 => ?_⟩
  · rcases set_get e with ⟨rfl, e2, _⟩ | ⟨ne, e2⟩
    · cases e2
      exact ⟨some (.ref a), hs, hf, h0, ws, upd_same, hw⟩
    · obtain ⟨ov, k1, k2⟩ := r.at_ j bd e2
      refine ⟨ov, k1, ?_⟩
      cases ov with
      | none => exact k2
      | some v =>
        cases bd with
        | v d => exact k2
        | l us =>
          cases v with
          | ref c =>
            obtain ⟨q1, q2, vs', q3, q4⟩ := k2
            have nc : c ≠ a := fun z => by
              subst z
              exact ne (r.sep j i c us xs e2 hx k1 hs)
            exact ⟨q1, q2, vs', by rw [upd_ne nc]; exact q3, q4⟩
          | _ => exact k2
        | o a0 cn kvs =>
          cases v with
          | ref c =>
            obtain ⟨q0, ci, dx, ns, us, q1, q2, q3, q4, q5, q6, q7, q8⟩ := k2
            obtain ⟨n1, n2⟩ := q8.noL hh
            exact ⟨q0, ci, dx, ns, us, q1, q2, q3, q4, q5, q6, q7, q8.congr (upd_ne (Ne.symm n1)) (upd_ne (Ne.symm n2))⟩
          | _ => exact k2
        | x a0 => cases v <;> exact k2
  · have l1 : ∃ us', Γ[j]? = some (some (.l us')) := by
      rcases set_get h1 with ⟨rfl, _, _⟩ | ⟨_, e1⟩
      · exact ⟨_, hx⟩
      · exact ⟨_, e1⟩
    have l2 : ∃ us', Γ[k]? = some (some (.l us')) := by
      rcases set_get h2 with ⟨rfl, _, _⟩ | ⟨_, e1⟩
      · exact ⟨_, hx⟩
      · exact ⟨_, e1⟩
    obtain ⟨u1, e1⟩ := l1
    obtain ⟨u2, e2⟩ := l2
    exact r.sep j k c u1 u2 e1 e2 h3 h4
/-- a list of one's own is changed no more: it goes into the view -/
theorem Rf.freeze (r : Rf g b Γ F σ H) {i : Nat} {xs : List D} (hx : Γ[i]? = some (some (.l xs))) (hc : (b.cx[i]?).join = none) : ∃ F', Rf g b (Γ.set i (some (.v (.list xs)))) F' σ H := by
  obtain ⟨a, vs, hs, hf, h0, hh, he⟩ := r.own hx
  have s1 : Sub F (upd F a (.lst vs)) := Sub.new hf
  refine ⟨upd F a (.lst vs), ⟨r.gr.ff.trans s1, fun c o e => ?_, r.gr.hh, fun c z1 z2 => ?_⟩, r.le.setr hc, fun j bd e => ?_, fun j k c us zs h1 h2 h3 h4 => ?_⟩
  · by_cases q : c = a
    · subst q
      rw [upd_same] at e
      cases e
      exact hh
    · rw [upd_ne q] at e
      exact r.gr.fh _ _ e
  · by_cases q : c = a
    · subst q
      exact absurd h0 z1
    · rw [upd_ne q]
      exact r.gr.new c z1 z2
  · rcases set_get e with ⟨rfl, e2, _⟩ | ⟨ne, e2⟩
    · cases e2
      exact ⟨some (.ref a), hs, .lst upd_same (EncL.mono s1 he)⟩
    · obtain ⟨ov, k1, k2⟩ := r.at_ j bd e2
      refine ⟨ov, k1, ?_⟩
      cases ov with
      | none => exact k2
      | some v =>
        cases bd with
        | v d => exact Enc.mono s1 k2
        | l us =>
          cases v with
          | ref c =>
            obtain ⟨q1, q2, vs', q3, q4⟩ := k2
            have nc : c ≠ a := fun z => by
              subst z
              exact ne (r.sep j i c us xs e2 hx k1 hs)
            exact ⟨by rw [upd_ne nc]; exact q1, q2, vs', q3, EncL.mono s1 q4⟩
          | _ => exact k2
        | o a0 cn kvs =>
          cases v with
          | ref c =>
            obtain ⟨q0, ci, dx, ns, us, q1, q2, q3, q4, q5, q6, q7, q8⟩ := k2
            obtain ⟨n1, n2⟩ := q8.noL hh
            exact ⟨q0, ci, dx, ns, us, q1, by rw [upd_ne (Ne.symm n1)]; exact q2, by rw [upd_ne (Ne.symm n2)]; exact q3, q4, q5, q6, EncF.mono s1 q7, q8⟩
          | _ => exact k2
        | x a0 => cases v <;> exact k2
  · rcases set_get h1 with ⟨_, e2, _⟩ | ⟨n1, e1⟩
    · cases e2
    · rcases set_get h2 with ⟨_, e2, _⟩ | ⟨n2, e2⟩
      · cases e2
      · exact r.sep j k c us zs e1 e2 h3 h4
end

/-! ### readings -/
/-- an exception as it comes: its class, its own dict's address, what it carries -/
def ExOk (g : Gm) (c : Str) (fs : List D) (cls : Value) (od : Option Addr) (F : Hp) : Prop :=
  ∃ i, g.ci c = some i ∧ cls = .ref i.C ∧ (fs = [] → od = none) ∧ (fs ≠ [] → ∃ dd vs, od = some dd ∧ F dd = some (.xd (i.fs.zip vs)) ∧ EncL g F vs fs ∧ i.fs.length = fs.length ∧ fs.all sc = true)
def Post (g : Gm) (b : Bs) (Γ : Ctx) (F : Hp) (r : Res D) (σ : L2.St) (H : Hp) (Q : VK) : Prop :=
  Rf g b Γ F σ H ∧ match r with
  | .ok d => ∀ v F' H', Grow F H F' H' → Enc g F' v d → Q v H'
  | .ex c fs => ∀ cls od F' H', Grow F H F' H' → Rf g b b.cx F' σ H' → ExOk g c fs cls od F' → b.W cls od σ H'
  | .no => False
def tE (g : Gm) (b : Bs) (Γ : Ctx) (r : Res D) : TE := fun σ H Q => ∃ F, Post g b Γ F r σ H Q
/-- a test -/
def PostT (g : Gm) (b : Bs) (Γ : Ctx) (F : Hp) (r : Res Bool) (σ : L2.St) (H : Hp) (Q : Bool → Hp → Prop) : Prop :=
  Rf g b Γ F σ H ∧ match r with
  | .ok k => ∀ F' H', Grow F H F' H' → Q k H'
  | .ex c fs => ∀ cls od F' H', Grow F H F' H' → Rf g b b.cx F' σ H' → ExOk g c fs cls od F' → b.W cls od σ H'
  | .no => False
def tT (g : Gm) (b : Bs) (Γ : Ctx) (r : Res Bool) : TT := fun σ H Q => ∃ F, PostT g b Γ F r σ H Q
/-- an argument list -/
def PostA (g : Gm) (b : Bs) (Γ : Ctx) (F : Hp) (r : Res (List D)) (σ : L2.St) (H : Hp) (Q : List V → Hp → Prop) : Prop :=
  Rf g b Γ F σ H ∧ match r with
  | .ok ds => ∀ vs F' H', Grow F H F' H' → EncL g F' vs ds → Q vs H'
  | .ex c fs => ∀ cls od F' H', Grow F H F' H' → Rf g b b.cx F' σ H' → ExOk g c fs cls od F' → b.W cls od σ H'
  | .no => False
def tA (g : Gm) (b : Bs) (Γ : Ctx) (r : Res (List D)) : TA := fun σ H Q => ∃ F, PostA g b Γ F r σ H Q
/-- a value that is only looked at: its datum stands in the heap, not in the view -/
def PostR (g : Gm) (b : Bs) (Γ : Ctx) (F : Hp) (r : Res D) (σ : L2.St) (H : Hp) (Q : VK) : Prop :=
  Rf g b Γ F σ H ∧ match r with
  | .ok d => ∀ v F' H', Grow F H F' H' → Enc g H' v d → Q v H'
  | .ex c fs => ∀ cls od F' H', Grow F H F' H' → Rf g b b.cx F' σ H' → ExOk g c fs cls od F' → b.W cls od σ H'
  | .no => False
def tR (g : Gm) (b : Bs) (Γ : Ctx) (r : Res D) : TE := fun σ H Q => ∃ F, PostR g b Γ F r σ H Q
section
variable {g : Gm} {b : Bs} {Γ : Ctx} {F : Hp} {σ : L2.St} {H : Hp}
theorem ex_go {c : Str} {fs : List D} {Fn Hn : Hp} (gr : Grow F H Fn Hn) (h : ∀ cls od F' H', Grow F H F' H' → Rf g b b.cx F' σ H' → ExOk g c fs cls od F' → b.W cls od σ H') :
    ∀ cls od F' H', Grow Fn Hn F' H' → Rf g b b.cx F' σ H' → ExOk g c fs cls od F' → b.W cls od σ H' := fun cls od F' H' a => h cls od F' H' (gr.trans a)
theorem Post.grow {r : Res D} {Q : VK} {F' H' : Hp} (p : Post g b Γ F r σ H Q) (gr : Grow F H F' H') : Post g b Γ F' r σ H' Q := by
  obtain ⟨rf, p⟩ := p
  refine ⟨rf.grow gr, ?_⟩
  cases r with
  | ok d => exact fun v F2 H2 a => p v F2 H2 (gr.trans a)
  | ex c fs => exact ex_go gr p
  | no => exact p
theorem tE_bind {ra : Res D} {f : D → Res D} {Q K : VK} (h : Post g b Γ F (ra.bind f) σ H Q) (k : ∀ d v F' H', ra = .ok d → Grow F H F' H' → Enc g F' v d → Post g b Γ F' (f d) σ H' Q → K v H') : tE g b Γ ra σ H K := by
  refine ⟨F, h.1, ?_⟩
  cases ra with
  | ok d =>
    intro v F' H' gr en
    exact k d v F' H' rfl gr en (Post.grow h gr)
  | ex c fs => exact h.2
  | no => exact h.2
theorem tR_bind {ra : Res D} {f : D → Res D} {Q K : VK} (h : Post g b Γ F (ra.bind f) σ H Q) (k : ∀ d v F' H', ra = .ok d → Grow F H F' H' → Enc g H' v d → Post g b Γ F' (f d) σ H' Q → K v H') : tR g b Γ ra σ H K := by
  refine ⟨F, h.1, ?_⟩
  cases ra with
  | ok d =>
    intro v F' H' gr en
    exact k d v F' H' rfl gr en (Post.grow h gr)
  | ex c fs => exact h.2
  | no => exact h.2
theorem PostT.grow {r : Res Bool} {Q : Bool → Hp → Prop} {F' H' : Hp} (p : PostT g b Γ F r σ H Q) (gr : Grow F H F' H') : PostT g b Γ F' r σ H' Q := by
  obtain ⟨rf, p⟩ := p
  refine ⟨rf.grow gr, ?_⟩
  cases r with
  | ok d => exact fun F2 H2 a => p F2 H2 (gr.trans a)
  | ex c fs => exact ex_go gr p
  | no => exact p
theorem PostA.grow {r : Res (List D)} {Q : List V → Hp → Prop} {F' H' : Hp} (p : PostA g b Γ F r σ H Q) (gr : Grow F H F' H') : PostA g b Γ F' r σ H' Q := by
  obtain ⟨rf, p⟩ := p
  refine ⟨rf.grow gr, ?_⟩
  cases r with
  | ok d => exact fun v F2 H2 a => p v F2 H2 (gr.trans a)
  | ex c fs => exact ex_go gr p
  | no => exact p
/-- a value, then a test; a value, then arguments; a test, then a value, a test; arguments, then a value -/
theorem tE_bindT {ra : Res D} {f : D → Res Bool} {Q : Bool → Hp → Prop} {K : VK} (h : PostT g b Γ F (ra.bind f) σ H Q) (k : ∀ d v F' H', ra = .ok d → Grow F H F' H' → Enc g F' v d → PostT g b Γ F' (f d) σ H' Q → K v H') : tE g b Γ ra σ H K := by
  refine ⟨F, h.1, ?_⟩
  cases ra with
  | ok d => exact fun v F' H' gr en => k d v F' H' rfl gr en (PostT.grow h gr)
  | ex c fs => exact h.2
  | no => exact h.2
theorem tR_bindT {ra : Res D} {f : D → Res Bool} {Q : Bool → Hp → Prop} {K : VK} (h : PostT g b Γ F (ra.bind f) σ H Q) (k : ∀ d v F' H', ra = .ok d → Grow F H F' H' → Enc g H' v d → PostT g b Γ F' (f d) σ H' Q → K v H') : tR g b Γ ra σ H K := by
  refine ⟨F, h.1, ?_⟩
  cases ra with
  | ok d => exact fun v F' H' gr en => k d v F' H' rfl gr en (PostT.grow h gr)
  | ex c fs => exact h.2
  | no => exact h.2
theorem tE_bindA {ra : Res D} {f : D → Res (List D)} {Q : List V → Hp → Prop} {K : VK} (h : PostA g b Γ F (ra.bind f) σ H Q) (k : ∀ d v F' H', ra = .ok d → Grow F H F' H' → Enc g F' v d → PostA g b Γ F' (f d) σ H' Q → K v H') : tE g b Γ ra σ H K := by
  refine ⟨F, h.1, ?_⟩
  cases ra with
  | ok d => exact fun v F' H' gr en => k d v F' H' rfl gr en (PostA.grow h gr)
  | ex c fs => exact h.2
  | no => exact h.2
theorem tA_bind {ra : Res (List D)} {f : List D → Res D} {Q : VK} {K : List V → Hp → Prop} (h : Post g b Γ F (ra.bind f) σ H Q) (k : ∀ d v F' H', ra = .ok d → Grow F H F' H' → EncL g F' v d → Post g b Γ F' (f d) σ H' Q → K v H') : tA g b Γ ra σ H K := by
  refine ⟨F, h.1, ?_⟩
  cases ra with
  | ok d => exact fun v F' H' gr en => k d v F' H' rfl gr en (Post.grow h gr)
  | ex c fs => exact h.2
  | no => exact h.2
theorem tA_bindA {ra : Res (List D)} {f : List D → Res (List D)} {Q : List V → Hp → Prop} {K : List V → Hp → Prop} (h : PostA g b Γ F (ra.bind f) σ H Q) (k : ∀ d v F' H', ra = .ok d → Grow F H F' H' → EncL g F' v d → PostA g b Γ F' (f d) σ H' Q → K v H') : tA g b Γ ra σ H K := by
  refine ⟨F, h.1, ?_⟩
  cases ra with
  | ok d => exact fun v F' H' gr en => k d v F' H' rfl gr en (PostA.grow h gr)
  | ex c fs => exact h.2
  | no => exact h.2
theorem tT_bind {ra : Res Bool} {f : Bool → Res D} {Q : VK} {K : Bool → Hp → Prop} (h : Post g b Γ F (ra.bind f) σ H Q) (k : ∀ d F' H', ra = .ok d → Grow F H F' H' → Post g b Γ F' (f d) σ H' Q → K d H') : tT g b Γ ra σ H K := by
  refine ⟨F, h.1, ?_⟩
  cases ra with
  | ok d => exact fun F' H' gr => k d F' H' rfl gr (Post.grow h gr)
  | ex c fs => exact h.2
  | no => exact h.2
theorem tT_bindT {ra : Res Bool} {f : Bool → Res Bool} {Q : Bool → Hp → Prop} {K : Bool → Hp → Prop} (h : PostT g b Γ F (ra.bind f) σ H Q) (k : ∀ d F' H', ra = .ok d → Grow F H F' H' → PostT g b Γ F' (f d) σ H' Q → K d H') : tT g b Γ ra σ H K := by
  refine ⟨F, h.1, ?_⟩
  cases ra with
  | ok d => exact fun F' H' gr => k d F' H' rfl gr (PostT.grow h gr)
  | ex c fs => exact h.2
  | no => exact h.2
end
/-- a stronger reading -/
theorem PE.imp {X : Cx} {e : Expr} {t t' : TE} (h : PE X e t) (k : ∀ σ H Q, t' σ H Q → t σ H Q) : PE X e t' := ⟨fun pins s σ H Q I q => h.run pins s σ H Q I (k σ H Q q)⟩
theorem PT.imp {X : Cx} {e : Expr} {t t' : TT} (h : PT X e t) (k : ∀ σ H Q, t' σ H Q → t σ H Q) : PT X e t' := ⟨fun pins s σ H Q I q => h.run pins s σ H Q I (k σ H Q q)⟩
theorem PW.imp {X : Cx} {e : Expr} {t t' : TT} (h : PW X e t) (k : ∀ σ H Q, t' σ H Q → t σ H Q) : PW X e t' := ⟨fun wh pins s σ H Q I q => h.run wh pins s σ H Q I (k σ H Q q)⟩
theorem PA.imp {X : Cx} {es : List Expr} {t t' : TA} (h : PA X es t) (k : ∀ σ H Q, t' σ H Q → t σ H Q) : PA X es t' := ⟨fun pos pins s σ H Q I q => h.run pos pins s σ H Q I (k σ H Q q)⟩
theorem PS.imp {X : Cx} {st : Stmt} {t t' : TS} (h : PS X st t) (k : ∀ D σ H, t' D σ H → t D σ H) : PS X st t' := ⟨fun pins s σ H D I q => h.run pins s σ H D I (k D σ H q)⟩
theorem PSs.imp {X : Cx} {st : List Stmt} {t t' : TS} (h : PSs X st t) (k : ∀ D σ H, t' D σ H → t D σ H) : PSs X st t' := ⟨fun pins s σ H D I q => h.run pins s σ H D I (k D σ H q)⟩
/-- .. where the slots' number is known -/
theorem PSs.impI {X : Cx} {st : List Stmt} {t t' : TS} (h : PSs X st t) (k : ∀ D σ H, σ.length = X.N.length → t' D σ H → t D σ H) : PSs X st t' := ⟨fun pins s σ H D I q => h.run pins s σ H D I (k D σ H I.len q)⟩
theorem PSs.ex {α : Sort _} {X : Cx} {st : List Stmt} {t : α → TS} (h : ∀ a, PSs X st (t a)) : PSs X st (fun D σ H => ∃ a, t a D σ H) := ⟨fun pins s σ H D I ⟨a, q⟩ => (h a).run pins s σ H D I q⟩
end Mi
/-! Mi1: names, constants, operators, comparisons, tests, displays, items, slices, built-in calls, by data. -/
namespace Mi
open L2 PySem PySem.Spec PyProof.Rows

def cap : Nat := 100000
theorem cap_line {n : Nat} (h : n ≤ cap) : n ≤ sizeLine := Nat.le_trans h (by decide)
theorem cap_lt {n : Nat} (h : n < cap) : n < sizeLine := Nat.lt_of_lt_of_le h (by decide)
section
variable {X : Cx} {g : Gm} {b : Bs} {Γ : Ctx} {F : Hp} {σ : L2.St} {H : Hp} {e e1 e2 : Expr} {pos : Pos} {r ra rb : Res D}
/-- a value that stands: handed on -/
theorem Post.done {Q : VK} {d : D} {v : V} (p : Post g b Γ F (.ok d) σ H Q) (h : Enc g F v d) : Q v H := p.2 v F H (Grow.refl p.1.gr.fh) h
theorem Post.sc {Q : VK} {d : D} {v : V} (p : Post g b Γ F (.ok d) σ H Q) {F' : Hp} (h : Enc g F' v d) (s : sc d = true) : Q v H := p.done (h.scal s)
/-- a new object -/
theorem Post.new {Q : VK} {d : D} {o : HO} {p : Addr} (h : Post g b Γ F (.ok d) σ H Q) (hp : H p = none) (he : Enc g (upd F p o) (.ref p) d) : Q (.ref p) (upd H p o) :=
  h.2 _ _ _ (Grow.alloc h.1.gr.fh hp) he
theorem Post.newS {d : D} {F' H' : Hp} : Sub F' H' → ∀ {p : Addr} {o : HO}, H' p = none → Sub F' (upd F' p o) := fun s _ _ hp => Sub.new (s.free hp)
theorem toR (h : PE X e (tE g b Γ r)) : PE X e (tR g b Γ r) := PE.imp h fun σ H Q q => by
  obtain ⟨F, rf, q⟩ := q
  refine ⟨F, rf, ?_⟩
  cases r with
  | ok d => exact fun v F' H' gr en => q v F' H' gr (Enc.mono gr.fh en)
  | ex c fs => exact q
  | no => exact q
/-- another way to write what it comes to -/
theorem e_is {r' : Res D} (h : PE X e (tE g b Γ r)) (q : r = r') : PE X e (tE g b Γ r') := q ▸ h
theorem e_var {i : Nat} {x : Str} {d : D} (hΓ : Γ[i]? = some (some (.v d)) := by rfl) (hN : X.N[i]? = some x := by rfl) (hv : Vis X.env.scope x := by first | exact Or.inl rfl | exact Or.inr (Or.inl rfl) | exact Or.inr (Or.inr rfl))
    (hd : (x == ("__debug__" : Str)) = false := by decide) (hcd : (x == ("__classdict__" : Str)) = false := by decide) : PE X (.Name x pos) (tE g b Γ (.ok d)) := PE.imp (pe_var hN hv hd hcd) fun σ H Q q => by
  obtain ⟨F, p⟩ := q
  obtain ⟨v, h1, h2⟩ := p.1.val hΓ
  exact ⟨v, h1, p.done h2⟩
/-- a list of one's own, looked at -/
theorem r_own {i : Nat} {x : Str} {xs : List D} (hΓ : Γ[i]? = some (some (.l xs)) := by rfl) (hN : X.N[i]? = some x := by rfl) (hv : Vis X.env.scope x := by first | exact Or.inl rfl | exact Or.inr (Or.inl rfl) | exact Or.inr (Or.inr rfl))
    (hd : (x == ("__debug__" : Str)) = false := by decide) (hcd : (x == ("__classdict__" : Str)) = false := by decide) : PE X (.Name x pos) (tR g b Γ (.ok (.list xs))) := PE.imp (pe_var hN hv hd hcd) fun σ H Q q => by
  obtain ⟨F, rf, p⟩ := q
  obtain ⟨a, vs, h1, h2, h3, h4, h5⟩ := rf.own hΓ
  exact ⟨_, h1, p _ F H (Grow.refl rf.gr.fh) (.lst h4 (EncL.mono rf.gr.fh h5))⟩
theorem e_c {v : V} {d : D} (h : PE X e (tC v)) (he : ∀ F, Enc g F v d) : PE X e (tE g b Γ (.ok d)) := PE.imp h fun σ H Q q => by
  obtain ⟨F, p⟩ := q
  exact p.done (he F)
theorem e_int {i : Int} {j : Nat} : PE X (.Constant (.int i) j pos) (tE g b Γ (.ok (.int i))) := e_c pe_int fun _ => .int i
theorem e_bl {k : Bool} {j : Nat} : PE X (.Constant (.bool k) j pos) (tE g b Γ (.ok (.bool k))) := e_c pe_bl fun _ => .bl k
theorem e_non {j : Nat} : PE X (.Constant .none j pos) (tE g b Γ (.ok .none)) := e_c pe_non fun _ => .non
theorem e_str {x : Str} {j : Nat} : PE X (.Constant (.str x) j pos) (tE g b Γ (.ok (.str x))) := e_c pe_str fun _ => .str x
/-- a module's constant: an int, a text -/
theorem e_gint {x : Str} {i : Int} (hm : ∃ t, X.mg x = some (.int i t)) (hg : Gl X x := by rfl) (hd : (x == ("__debug__" : Str)) = false := by decide) : PE X (.Name x pos) (tE g b Γ (.ok (.int i))) := by
  obtain ⟨t, hm⟩ := hm
  exact e_c (v := .int i) (pe_glob hg hm ⟨t, rfl⟩ hd) fun _ => .int i
theorem e_gstr {x z : Str} (hm : ∃ t, X.mg x = some (.str z t)) (hg : Gl X x := by rfl) (hd : (x == ("__debug__" : Str)) = false := by decide) : PE X (.Name x pos) (tE g b Γ (.ok (.str z))) := by
  obtain ⟨t, hm⟩ := hm
  exact e_c (v := .str z) (pe_glob hg hm ⟨t, rfl⟩ hd) fun _ => .str z


/-! ### operators of two values -/
/-- what is wanted behind an operation that gives d -/
abbrev Gives (g : Gm) (F H : Hp) (d : D) (Q : VK) : Prop := ∀ v F' H', Grow F H F' H' → Enc g F' v d → Q v H'
theorem Gives.here {F H : Hp} {d : D} {Q : VK} (k : Gives g F H d Q) (s : Sub F H) {v : V} (h : Enc g F v d) : Q v H := k v F H (Grow.refl s) h
theorem Gives.new {F H : Hp} {d : D} {Q : VK} (k : Gives g F H d Q) (s : Sub F H) {p : Addr} {o : HO} (hp : H p = none) (h : Enc g (upd F p o) (.ref p) d) : Q (.ref p) (upd H p o) := k _ _ _ (Grow.alloc s hp) h
theorem Post.gives {o : Option D} {Q : VK} (p : Post g b Γ F (ofO o) σ H Q) : ∃ d, o = some d ∧ Gives g F H d Q := by
  cases o with
  | none => exact p.2.elim
  | some d => exact ⟨d, rfl, p.2⟩
def OpD (X : Cx) (g : Gm) (f : Value → Value → Sem Value) (op : D → D → Option D) : Prop :=
  ∃ r : R2, OpR X f r ∧ ∀ (F H : Hp) (x y d : D) (v w : V) (Q : VK), Sub F H → Enc g F v x → Enc g F w y → op x y = some d → Gives g F H d Q → r v w H Q
theorem OpD.or {f : Value → Value → Sem Value} {o1 o2 : D → D → Option D} (h1 : OpD X g f o1) (h2 : OpD X g f o2) : OpD X g f (fun x y => (o1 x y).or (o2 x y)) := by
  obtain ⟨r1, a1, k1⟩ := h1
  obtain ⟨r2, a2, k2⟩ := h2
  refine ⟨_, a1.or a2, fun F H x y d v w Q s ex ey e q => ?_⟩
  cases e1 : o1 x y with
  | some d' =>
    have e : (o1 x y).or (o2 x y) = some d := e
    rw [e1] at e
    cases e
    exact .inl (k1 F H x y _ v w Q s ex ey e1 q)
  | none =>
    have e : (o1 x y).or (o2 x y) = some d := e
    rw [e1] at e
    exact .inr (k2 F H x y d v w Q s ex ey e q)
theorem OpD.is {f : Value → Value → Sem Value} {o1 o2 : D → D → Option D} (h1 : OpD X g f o1) (h : ∀ x y d, o2 x y = some d → o1 x y = some d) : OpD X g f o2 := by
  obtain ⟨r1, a1, k1⟩ := h1
  exact ⟨r1, a1, fun F H x y d v w Q s ex ey e => k1 F H x y d v w Q s ex ey (h _ _ _ e)⟩
theorem e_op {op : Operator} {o : D → D → Option D} (ho : OpD X g (binaryOp op) o) (ha : PE X e1 (tE g b Γ ra)) (hb : PE X e2 (tE g b Γ rb)) :
    PE X (.BinOp e1 op e2 pos) (tE g b Γ (ra.bind fun x => rb.bind fun y => ofO (o x y))) := by
  obtain ⟨r2, h1, h2⟩ := ho
  refine PE.imp (pe_op h1 ha hb) fun σ H Q q => ?_
  obtain ⟨F, p⟩ := q
  exact tE_bind p fun x v F1 H1 _ g1 ex p1 => tE_bind p1 fun y w F2 H2 _ g2 ey p2 => by
    obtain ⟨d, e, k⟩ := p2.gives
    exact h2 F2 H2 x y d v w Q p2.1.gr.fh (Enc.mono g2.ff ex) ey e k
/-- an operator of two ints, on a condition -/
def iiO (c : Int → Int → Bool) (f : Int → Int → Int) : D → D → Option D
  | .int i, .int j => if c i j = true then some (.int (f i j)) else none
  | _, _ => none
theorem iiO_some {c : Int → Int → Bool} {f : Int → Int → Int} {x y d : D} (h : iiO c f x y = some d) : ∃ i j, x = .int i ∧ y = .int j ∧ c i j = true ∧ d = .int (f i j) := by
  cases x <;> cases y <;> simp only [iiO] at h <;> try (cases h; done)
  rename_i i j
  by_cases q : c i j = true
  · rw [if_pos q] at h
    cases h
    exact ⟨i, j, rfl, rfl, q, rfl⟩
  · rw [if_neg q] at h
    cases h
theorem opI_D {f : Value → Value → Sem Value} {C : Int → Int → Prop} {h : Int → Int → Int} {c : Int → Int → Bool} (ho : OpR X f (rI C fun i j => .int (h i j))) (hc : ∀ i j, c i j = true → C i j) : OpD X g f (iiO c h) := by
  refine ⟨_, ho, fun F H x y d v w Q s ex ey e q => ?_⟩
  obtain ⟨i, j, rfl, rfl, k, rfl⟩ := iiO_some e
  cases ex
  cases ey
  exact ⟨i, j, rfl, rfl, hc i j k, q.here s (.int _)⟩
def subD : D → D → Option D := iiO (fun _ _ => true) fun i j => i - j
def fdivD : D → D → Option D := iiO (fun _ j => decide (0 < j ∧ j.natAbs < 2 ^ 200)) fun i j => i / j
def modD : D → D → Option D := iiO (fun _ j => decide (0 < j)) fun i j => i % j
def mulD : D → D → Option D := iiO (fun i j => decide (i.natAbs < 2 ^ 200 ∧ j.natAbs < 2 ^ 200)) fun i j => i * j
def powD : D → D → Option D := iiO (fun i j => decide (0 ≤ j ∧ j ≤ 1000 ∧ i.natAbs < 2 ^ 64)) fun i j => i ^ j.toNat
theorem rI0_rI {f : Value → Value → Sem Value} {h : Int → Int → V} (ho : OpR X f (rI0 h)) : OpR X f (rI (fun _ _ => True) h) := fun pins s σ H x y v u Q I rx ry ⟨i, j, e1, e2, _, q⟩ => ho pins s σ H x y v u Q I rx ry ⟨i, j, e1, e2, q⟩
theorem o_sub : OpD X g (binaryOp .Sub) subD := opI_D (rI0_rI op_sub) fun _ _ _ => trivial
theorem o_fdiv : OpD X g (binaryOp .FloorDiv) fdivD := opI_D op_fdivW fun i j h => by
  have h := of_decide_eq_true h
  exact wide_div h.1 h.2 (by decide) (by decide)
theorem o_mod : OpD X g (binaryOp .Mod) modD := opI_D op_mod fun i j h => of_decide_eq_true h
theorem o_mul : OpD X g (binaryOp .Mult) mulD := opI_D op_mulW fun i j h => by
  have h := of_decide_eq_true h
  exact wide_mul h.1 h.2 (by decide) (by decide) (by decide)
theorem o_pow : OpD X g (binaryOp .Pow) powD := opI_D op_pow fun i j h => by
  have h := of_decide_eq_true h
  exact ⟨h.1, by omega, h.2.2⟩
def addI : D → D → Option D := iiO (fun _ _ => true) fun i j => i + j
def addS : D → D → Option D
  | .str x, .str y => if x.length + y.length ≤ cap then some (.str (x ++ y)) else none
  | _, _ => none
def addL : D → D → Option D
  | .list xs, .list ys => if xs.length + ys.length ≤ cap then some (.list (xs ++ ys)) else none
  | _, _ => none
def addT : D → D → Option D
  | .tuple xs, .tuple ys => if xs.length + ys.length ≤ cap then some (.tuple (xs ++ ys)) else none
  | _, _ => none
/-- x + y: ints, texts, lists, tuples -/
def addD : D → D → Option D
  | .int i, .int j => some (.int (i + j))
  | .str x, .str y => if x.length + y.length ≤ cap then some (.str (x ++ y)) else none
  | .list xs, .list ys => if xs.length + ys.length ≤ cap then some (.list (xs ++ ys)) else none
  | .tuple xs, .tuple ys => if xs.length + ys.length ≤ cap then some (.tuple (xs ++ ys)) else none
  | _, _ => none
theorem o_addI : OpD X g (binaryOp .Add) addI := opI_D (rI0_rI op_add) fun _ _ _ => trivial
theorem o_addS : OpD X g (binaryOp .Add) addS := by
  refine ⟨_, op_add_str, fun F H x y d v w Q s ex ey e q => ?_⟩
  cases x <;> cases y <;> simp only [addS] at e <;> try (cases e; done)
  rename_i i j
  cases ex
  cases ey
  split at e
  · rename_i hc
    cases e
    exact ⟨i, j, rfl, rfl, cap_line hc, q.here s (.str _)⟩
  · cases e
theorem o_addL : OpD X g (binaryOp .Add) addL := by
  refine ⟨_, op_cat, fun F H x y d v w Q s ex ey e q => ?_⟩
  cases x <;> cases y <;> simp only [addL] at e <;> try (cases e; done)
  split at e
  · rename_i hc
    cases e
    cases ex with
    | lst h1 k1 =>
      cases ey with
      | lst h2 k2 =>
        refine ⟨_, _, _, _, rfl, rfl, s _ _ h1, s _ _ h2, cap_line (by rw [k1.len, k2.len]; exact hc), fun p hp => ?_⟩
        exact q _ _ _ (Grow.alloc s hp) (.lst upd_same ((k1.app k2).mono (Sub.new (s.free hp))))
  · cases e
theorem TupX.at_ {K : PySem.W.Frag} {pins : List (Addr × Obj)} {s : Shared} {a : Addr} {xs : List V} (I : Inv X pins σ H s) (hK : X.K = K) (h : TupX K H a xs) :
    ∃ (its : List Value) (o : Obj) (n : Nat), Vals xs its ∧ s.heap.get? a = some o ∧ o.cls = .type "tuple" ∧ o.dict = none ∧ o.data = .seq its.toArray n ∧ xs.length ≤ sizeLine := by
  rcases h with ⟨its, h⟩ | ⟨o, its, n, h1, h2, h3, h4, h5, h6⟩
  · obtain ⟨e, hz, its2, r, o2, e2, c2, n2, d2⟩ := I.hok a _ h
    rw [e] at e2
    cases e2
    exact ⟨its2, _, _, r, e, rfl, rfl, d2, hz⟩
  · refine ⟨its.toList, o, n, h6, I.kIn a o (hK ▸ h1), h2, h3, by simpa using h4, ?_⟩
    have e := h6.length
    simp only [Array.length_toList] at e
    omega
/-- a new exact tuple is laid -/
theorem inv_newTup {pins : List (Addr × Obj)} {s : Shared} {xs : List V} {its : List Value} {tk : Nat} (I : Inv X pins σ H s) (r : Vals xs its) (hz : xs.length ≤ sizeLine) :
    Inv X pins σ (upd H s.heap.objs.size (.frz (obT its) (.tup xs))) { s with heap := s.heap.push (obT its), toks := tk } :=
  I.laid (fun _ _ e => Heap.get?_push_of_some _ e) (Nat.le_refl _) ⟨Heap.get?_push_size _ rfl, hz, its, r, _, Heap.get?_push_size _ rfl, rfl, _, rfl⟩
/-- what is wanted of a new tuple -/
abbrev NewT (xs : List V) (H : Hp) (Q : VK) : Prop := ∀ p its, H p = none → Q (.ref p) (upd H p (.frz (obT its) (.tup xs)))
theorem Gives.newT {F H : Hp} {ds : List D} {xs : List V} {Q : VK} (k : Gives g F H (.tuple ds) Q) (s : Sub F H) (h : EncL g F xs ds) : NewT xs H Q := fun p its hp =>
  k.new s hp (.tup (.inl ⟨its, upd_same⟩) (h.mono (Sub.new (s.free hp))))
def rCatX (K : PySem.W.Frag) : R2 := fun x y H Q => ∃ a b xs ys, x = .ref a ∧ y = .ref b ∧ TupX K H a xs ∧ TupX K H b ys ∧ xs.length + ys.length ≤ sizeLine ∧
  (xs = [] → Q (.ref b) H) ∧ (xs ≠ [] → ys = [] → Q (.ref a) H) ∧ (xs ≠ [] → ys ≠ [] → NewT (xs ++ ys) H Q)
theorem op_catX : OpR X (binaryOp .Add) (rCatX X.K) := by
  intro pins s σ H x y v u Q I rx ry h
  obtain ⟨a, b, xs, ys, rfl, rfl, ha, hb, hz, q0, q1, q2⟩ := h
  by_cases hx : xs = []
  · exact op_catA pins s σ H _ _ v u Q I rx ry ⟨a, b, xs, ys, rfl, rfl, ha.sqT, hb.sqT, hz, q0, fun z => absurd hx z, fun z => absurd hx z⟩
  · by_cases hy : ys = []
    · exact op_catA pins s σ H _ _ v u Q I rx ry ⟨a, b, xs, ys, rfl, rfl, ha.sqT, hb.sqT, hz, fun z => absurd z hx, q1, fun _ z => absurd hy z⟩
    · cases rx
      cases ry
      obtain ⟨its, r1, p1, _⟩ := I.tuple ha.sqT
      obtain ⟨its2, r2, p2, _⟩ := I.tuple hb.sqT
      refine HT.cat_tup p1 p2 (fun z => hx (r1.nil_iff.mp z)) (fun z => absurd (r2.nil_iff.mp z) hy) (fun _ => ?_) (by rw [← r1.length, ← r2.length]; exact hz)
      exact ⟨.ref s.heap.objs.size, _, inv_newTup (tk := s.toks) I (r1.append r2) (by rw [List.length_append]; exact hz), rfl, q2 hx hy _ _ (I.hok.fresh (Nat.le_refl _))⟩
theorem o_addT (hK : X.K = g.K := by rfl) : OpD X g (binaryOp .Add) addT := by
  refine ⟨_, op_catX, fun F H x y d v w Q s ex ey e q => ?_⟩
  cases x <;> cases y <;> simp only [addT] at e <;> try (cases e; done)
  split at e
  · rename_i hc
    cases e
    cases ex with
    | tup h1 k1 =>
      cases ey with
      | tup h2 k2 =>
        refine ⟨_, _, _, _, rfl, rfl, s.tupX (hK ▸ h1), s.tupX (hK ▸ h2), cap_line (by rw [k1.len, k2.len]; exact hc), fun e1 => ?_, fun _ e2 => ?_, fun _ _ => ?_⟩
        · subst e1
          cases k1
          exact q.here s (.tup h2 k2)
        · subst e2
          cases k2
          rw [List.append_nil] at q
          exact q.here s (.tup h1 k1)
        · exact q.newT s (k1.app k2)
  · cases e
theorem o_add (hK : X.K = g.K := by rfl) : OpD X g (binaryOp .Add) addD := (o_addI.or (o_addS.or (o_addL.or (o_addT hK)))).is fun x y d h => by
  cases x <;> cases y <;> simp only [addD] at h <;> first | (cases h; done) | simpa [addI, addS, addL, addT, iiO] using h
/-- -x -/
def negD : D → Option D
  | .int i => some (.int (-i))
  | _ => none
theorem e_neg (ha : PE X e1 (tE g b Γ ra)) : PE X (.UnaryOp .USub e1 pos) (tE g b Γ (ra.bind fun x => ofO (negD x))) := by
  refine PE.imp (pe_un un_neg ha) fun σ H Q q => ?_
  obtain ⟨F, p⟩ := q
  refine tE_bind p fun x v F1 H1 _ g1 ex p1 => ?_
  obtain ⟨d, e, k⟩ := p1.gives
  cases x <;> simp only [negD] at e <;> try (cases e; done)
  cases e
  cases ex
  exact ⟨_, rfl, k.here p1.1.gr.fh (.int _)⟩

/-! ### comparisons: two values that are looked at -/
def OpB (X : Cx) (g : Gm) (f : Value → Value → Sem Value) (op : D → D → Option Bool) : Prop :=
  ∃ r : R2, OpR X f r ∧ ∀ (H : Hp) (x y : D) (k : Bool) (v w : V) (Q : VK), Enc g H v x → Enc g H w y → op x y = some k → Q (.bl k) H → r v w H Q
theorem OpB.or {f : Value → Value → Sem Value} {o1 o2 : D → D → Option Bool} (h1 : OpB X g f o1) (h2 : OpB X g f o2) : OpB X g f (fun x y => (o1 x y).or (o2 x y)) := by
  obtain ⟨r1, a1, k1⟩ := h1
  obtain ⟨r2, a2, k2⟩ := h2
  refine ⟨_, a1.or a2, fun H x y d v w Q ex ey e q => ?_⟩
  have e : (o1 x y).or (o2 x y) = some d := e
  cases e1 : o1 x y with
  | some d' =>
    rw [e1] at e
    cases e
    exact .inl (k1 H x y _ v w Q ex ey e1 q)
  | none =>
    rw [e1] at e
    exact .inr (k2 H x y d v w Q ex ey e q)
theorem OpB.is {f : Value → Value → Sem Value} {o1 o2 : D → D → Option Bool} (h1 : OpB X g f o1) (h : ∀ x y d, o2 x y = some d → o1 x y = some d) : OpB X g f o2 := by
  obtain ⟨r1, a1, k1⟩ := h1
  exact ⟨r1, a1, fun H x y d v w Q ex ey e => k1 H x y d v w Q ex ey (h _ _ _ e)⟩
/-- a test's truth as a value -/
def blR (r : Res Bool) : Res D := r.bind fun k => .ok (.bool k)
theorem tR_two {o : D → D → Option Bool} {r2 : R2} (h2 : ∀ (H : Hp) (x y : D) (k : Bool) (v w : V) (Q : VK), Enc g H v x → Enc g H w y → o x y = some k → Q (.bl k) H → r2 v w H Q) {Q : Bool → Hp → Prop}
    (q : tT g b Γ (ra.bind fun x => rb.bind fun y => ofO (o x y)) σ H Q) : tTest (tOp r2 (tR g b Γ ra) (tR g b Γ rb)) σ H Q := by
  obtain ⟨F, p⟩ := q
  refine tR_bindT p fun x v F1 H1 _ g1 ex p1 => tR_bindT p1 fun y w F2 H2 _ g2 ey p2 => ?_
  obtain ⟨rf, p2⟩ := p2
  cases e : o x y with
  | none =>
    rw [e] at p2
    exact p2.elim
  | some k =>
    rw [e] at p2
    exact h2 H2 x y k v w _ (Enc.mono g2.hh ex) ey e ⟨k, rfl, p2 F2 H2 (Grow.refl rf.gr.fh)⟩
theorem t_cmp {op : CmpOp} {o : D → D → Option Bool} (ho : OpB X g (compareOp op) o) (ha : PE X e1 (tR g b Γ ra)) (hb : PE X e2 (tR g b Γ rb)) (hm : behindInMarks op e2 = false := by first | exact nomark _ | rfl) :
    PT X (.Compare e1 [op] [e2] pos) (tT g b Γ (ra.bind fun x => rb.bind fun y => ofO (o x y))) := by
  obtain ⟨r2, h1, h2⟩ := ho
  exact PT.imp (pt_cmpR h1 ha hb hm) fun σ H Q q => tR_two h2 q
theorem e_cmp {op : CmpOp} {o : D → D → Option Bool} (ho : OpB X g (compareOp op) o) (ha : PE X e1 (tR g b Γ ra)) (hb : PE X e2 (tR g b Γ rb)) (hm : behindInMarks op e2 = false := by first | exact nomark _ | rfl) :
    PE X (.Compare e1 [op] [e2] pos) (tE g b Γ (ra.bind fun x => rb.bind fun y => (ofO (o x y)).bind fun k => .ok (.bool k))) := by
  obtain ⟨r2, h1, h2⟩ := ho
  refine PE.imp (pe_cmpR h1 ha hb hm) fun σ H Q q => ?_
  obtain ⟨F, p⟩ := q
  refine tR_bind p fun x v F1 H1 _ g1 ex p1 => tR_bind p1 fun y w F2 H2 _ g2 ey p2 => ?_
  cases e : o x y with
  | none =>
    rw [e] at p2
    exact p2.2.elim
  | some k =>
    rw [e] at p2
    exact h2 H2 x y k v w _ (Enc.mono g2.hh ex) ey e (p2.done (.bl k))
/-- an order of two ints -/
def iiB (f : Int → Int → Bool) : D → D → Option Bool
  | .int i, .int j => some (f i j)
  | _, _ => none
theorem opI_B {f : Value → Value → Sem Value} {h : Int → Int → Bool} (ho : OpR X f (rI0 fun i j => .bl (h i j))) : OpB X g f (iiB h) := by
  refine ⟨_, ho, fun H x y k v w Q ex ey e q => ?_⟩
  cases x <;> cases y <;> simp only [iiB] at e <;> try (cases e; done)
  cases e
  cases ex
  cases ey
  exact ⟨_, _, rfl, rfl, q⟩
def ltB : D → D → Option Bool := iiB fun i j => decide (i < j)
def leB : D → D → Option Bool := iiB fun i j => decide (i ≤ j)
def gtB : D → D → Option Bool := iiB fun i j => decide (j < i)
def geB : D → D → Option Bool := iiB fun i j => decide (j ≤ i)
theorem o_lt : OpB X g (compareOp .Lt) ltB := opI_B op_lt
theorem o_le : OpB X g (compareOp .LtE) leB := opI_B op_le
theorem o_gt : OpB X g (compareOp .Gt) gtB := opI_B op_gt
theorem o_ge : OpB X g (compareOp .GtE) geB := opI_B op_ge
mutual
theorem Enc.dp {H : Hp} : ∀ {v : V} {d : D}, Enc g H v d → d.plain = true → Dp g.K H v d
  | _, _, .non, _ => .non
  | _, _, .bl k, _ => .bl k
  | _, _, .int i, _ => .int i
  | _, _, .str x, _ => .str x
  | _, _, .lst h k, q => .lst (SqL.of h) (EncL.dp k (by simpa [PyData.plain] using q))
  | _, _, .tup h k, q => .tup h.sqT (EncL.dp k (by simpa [PyData.plain] using q))
  | _, _, .dct _, q => by simp [PyData.plain] at q
theorem EncL.dp {H : Hp} : ∀ {vs : List V} {ds : List D}, EncL g H vs ds → PyData.plainAll ds = true → DpAll g.K H vs ds
  | _, _, .nil, _ => .nil
  | _, _, .cons h k, q => by
    have q2 : PyData.plain _ = true ∧ PyData.plainAll _ = true := Bool.and_eq_true_iff.mp q
    exact .cons (Enc.dp h q2.1) (EncL.dp k q2.2)
end
theorem Enc.reads {pins : List (Addr × Obj)} {s : Shared} {v : V} {u : Value} {d : D} (hK : X.K = g.K) (I : Inv X pins σ H s) (h : Enc g H v d) (p : d.plain = true) (r : RelV v u) : ∃ as, Reads s.heap u d as :=
  Dp.reads I d v u (by rw [hK]; exact h.dp p) r
/-- two data that == compares: without dicts and instances, one of them not deep -/
def eqOk (x y : D) : Bool := x.plain && y.plain && (decide (x.depth ≤ 60) || decide (y.depth ≤ 60))
theorem eqOk_d {x y : D} (h : eqOk x y = true) : x.plain = true ∧ y.plain = true ∧ min x.depth y.depth ≤ 60 := by
  unfold eqOk at h
  rw [Bool.and_eq_true, Bool.and_eq_true, Bool.or_eq_true] at h
  obtain ⟨⟨h1, h2⟩, h3⟩ := h
  refine ⟨h1, h2, ?_⟩
  rcases h3 with h3 | h3
  · have := of_decide_eq_true h3
    omega
  · have := of_decide_eq_true h3
    omega
def eqB (x y : D) : Option Bool := if eqOk x y = true then some (PyData.eqv x y) else none
def neB (x y : D) : Option Bool := if eqOk x y = true then some (!PyData.eqv x y) else none
theorem if_some {c : Prop} [Decidable c] {α : Type} {a b : α} (h : (if c then some a else none) = some b) : c ∧ a = b := by
  split at h
  · cases h
    exact ⟨by assumption, rfl⟩
  · cases h
/-- an operation told by data -/
theorem opB_of {f : Value → Value → Sem Value} {o : D → D → Option Bool}
    (h : ∀ (pins : List (Addr × Obj)) (s : Shared) (σ : L2.St) (H : Hp) (x y : D) (k : Bool) (v w : V) (u t : Value) (Q : Value → Shared → Prop), Inv X pins σ H s → RelV v u → RelV w t → Enc g H v x → Enc g H w y → o x y = some k → Q (.bool k) s →
      wpAny (model X.prog X.w) X.A (f u t) Q X.xe s) : OpB X g f o :=
  ⟨fun v w H Q => ∃ x y k, Enc g H v x ∧ Enc g H w y ∧ o x y = some k ∧ Q (.bl k) H, fun pins s σ H v w u t Q I rv rw ⟨x, y, k, ex, ey, e, q⟩ =>
    h pins s σ H x y k v w u t _ I rv rw ex ey e ⟨.bl k, H, I, rfl, q⟩, fun H x y k v w Q ex ey e q => ⟨x, y, k, ex, ey, e, q⟩⟩
theorem o_eq (hu : X.A.units + 64 < cLine) (hK : X.K = g.K := by rfl) : OpB X g (compareOp .Eq) eqB := opB_of fun pins s σ H x y k v w u t Q I rv rw ex ey e q => by
  obtain ⟨hc, rfl⟩ := if_some e
  obtain ⟨px, py, hd⟩ := eqOk_d hc
  obtain ⟨as, r1⟩ := ex.reads hK I px rv
  obtain ⟨bs, r2⟩ := ey.reads hK I py rw
  exact SeqAt.eq_plain r1 r2 px py (by omega) q
theorem o_ne (hu : X.A.units + 64 < cLine) (hK : X.K = g.K := by rfl) : OpB X g (compareOp .NotEq) neB := opB_of fun pins s σ H x y k v w u t Q I rv rw ex ey e q => by
  obtain ⟨hc, rfl⟩ := if_some e
  obtain ⟨px, py, hd⟩ := eqOk_d hc
  obtain ⟨as, r1⟩ := ex.reads hK I px rv
  obtain ⟨bs, r2⟩ := ey.reads hK I py rw
  exact SeqAt.ne_plain r1 r2 px py (by omega) q
/-- x in ys -/
def inOk (x : D) (ys : List D) : Bool := x.plain && PyData.plainAll ys && (decide (x.depth ≤ 60) || decide (PyData.depthAll ys ≤ 60))
theorem inOk_d {x : D} {ys : List D} (h : inOk x ys = true) : x.plain = true ∧ PyData.plainAll ys = true ∧ min (PyData.depthAll ys) x.depth ≤ 60 := by
  unfold inOk at h
  rw [Bool.and_eq_true, Bool.and_eq_true, Bool.or_eq_true] at h
  obtain ⟨⟨h1, h2⟩, h3⟩ := h
  refine ⟨h1, h2, ?_⟩
  rcases h3 with h3 | h3
  · have := of_decide_eq_true h3
    omega
  · have := of_decide_eq_true h3
    omega
def memD (x : D) (ys : List D) : Bool := ys.any fun y => PyData.eqv y x
/-- a dict's entry -/
def getK (kvs : List (D × D)) (k : D) : Option D := (kvs.find? fun p => PyData.eqv p.1 k).map (·.2)
def inB : D → D → Option Bool
  | x, .list ys => if inOk x ys = true then some (memD x ys) else none
  | x, .tuple ys => if inOk x ys = true then some (memD x ys) else none
  | .str x, .str y => if x.length = 1 then some (decide (x.cps.toList.getD 0 0 ∈ y.cps.toList)) else none
  | _, _ => none
def ninB : D → D → Option Bool
  | x, .list ys => if inOk x ys = true then some (!memD x ys) else none
  | x, .tuple ys => if inOk x ys = true then some (!memD x ys) else none
  | .str x, .str y => if x.length = 1 then some (!decide (x.cps.toList.getD 0 0 ∈ y.cps.toList)) else none
  | _, _ => none
theorem Enc.list_at {H : Hp} {v : V} {ys : List D} (h : Enc g H v (.list ys)) : ∃ a vs, v = .ref a ∧ H a = some (.lst vs) ∧ EncL g H vs ys := by
  cases h with
  | lst h k => exact ⟨_, _, rfl, h, k⟩
theorem Enc.tup_at {H : Hp} {v : V} {ys : List D} (h : Enc g H v (.tuple ys)) : ∃ a vs, v = .ref a ∧ TupX g.K H a vs ∧ EncL g H vs ys := by
  cases h with
  | tup h k => exact ⟨_, _, rfl, h, k⟩
theorem one_sign {x : Str} (h : x.length = 1) : x = ⟨#[x.cps.toList.getD 0 0]⟩ := by
  apply TL.ext_tl
  have h1 : x.cps.toList.length = 1 := by simpa [Str.length] using h
  show x.cps.toList = (#[x.cps.toList.getD 0 0] : Array Nat).toList
  cases e : x.cps.toList with
  | nil => rw [e] at h1; simp at h1
  | cons c r =>
    cases r with
    | nil => rfl
    | cons c2 r2 => rw [e] at h1; simp at h1
theorem o_in (hu : X.A.units + 64 < cLine) (hK : X.K = g.K := by rfl) : OpB X g (compareOp .In) inB := opB_of fun pins s σ H x y k v w u t Q I rv rw ex ey e q => by
  cases y with
  | list ys =>
    have e : (if inOk x ys = true then some (memD x ys) else none) = some k := by
      cases x <;> exact e
    obtain ⟨hc, rfl⟩ := if_some e
    obtain ⟨px, py, hd⟩ := inOk_d hc
    obtain ⟨as, r1⟩ := ex.reads hK I px rv
    obtain ⟨bs, r2⟩ := ey.reads hK I (show PyData.plainAll ys = true from py) rw
    exact SeqAt.in_list_data r2 r1 py px (by omega) q
  | tuple ys =>
    have e : (if inOk x ys = true then some (memD x ys) else none) = some k := by
      cases x <;> exact e
    obtain ⟨hc, rfl⟩ := if_some e
    obtain ⟨px, py, hd⟩ := inOk_d hc
    obtain ⟨as, r1⟩ := ex.reads hK I px rv
    obtain ⟨bs, r2⟩ := ey.reads hK I (show PyData.plainAll ys = true from py) rw
    exact SeqAt.in_tuple_data r2 r1 py px (by omega) q
  | str y =>
    cases x with
    | str x =>
      obtain ⟨hc, rfl⟩ := if_some (show (if x.length = 1 then some (decide (x.cps.toList.getD 0 0 ∈ y.cps.toList)) else none) = some k from e)
      cases ex
      cases ey
      obtain ⟨t1, rfl⟩ := rv
      obtain ⟨t2, rfl⟩ := rw
      refine PyProof.Rows.in_str ?_
      rw [one_sign hc, PySem.StrLaws.found_one]
      rw [one_sign hc] at q
      exact q
    | _ => cases e
  | _ => cases x <;> cases e
theorem o_nin (hu : X.A.units + 64 < cLine) (hK : X.K = g.K := by rfl) : OpB X g (compareOp .NotIn) ninB := opB_of fun pins s σ H x y k v w u t Q I rv rw ex ey e q => by
  cases y with
  | list ys =>
    have e : (if inOk x ys = true then some (!memD x ys) else none) = some k := by
      cases x <;> exact e
    obtain ⟨hc, rfl⟩ := if_some e
    obtain ⟨px, py, hd⟩ := inOk_d hc
    obtain ⟨as, r1⟩ := ex.reads hK I px rv
    obtain ⟨bs, r2⟩ := ey.reads hK I (show PyData.plainAll ys = true from py) rw
    exact SeqAt.notIn_list_data r2 r1 py px (by omega) q
  | tuple ys =>
    have e : (if inOk x ys = true then some (!memD x ys) else none) = some k := by
      cases x <;> exact e
    obtain ⟨hc, rfl⟩ := if_some e
    obtain ⟨px, py, hd⟩ := inOk_d hc
    obtain ⟨as, r1⟩ := ex.reads hK I px rv
    obtain ⟨bs, r2⟩ := ey.reads hK I (show PyData.plainAll ys = true from py) rw
    exact SeqAt.notIn_tuple_data r2 r1 py px (by omega) q
  | str y =>
    cases x with
    | str x =>
      obtain ⟨hc, rfl⟩ := if_some (show (if x.length = 1 then some (!decide (x.cps.toList.getD 0 0 ∈ y.cps.toList)) else none) = some k from e)
      cases ex
      cases ey
      obtain ⟨t1, rfl⟩ := rv
      obtain ⟨t2, rfl⟩ := rw
      refine PyProof.Rows.notIn_str ?_
      rw [one_sign hc, PySem.StrLaws.found_one]
      rw [one_sign hc] at q
      exact q
    | _ => cases e
  | _ => cases x <;> cases e
/-- is None, is not None -/
def isNone : D → Bool
  | .none => true
  | _ => false
theorem Enc.isNon {H : Hp} {v : V} {d : D} (h : Enc g H v d) : decide (v = .non) = isNone d := by
  cases h <;> rfl
theorem t_isN {j : Nat} {p : Pos} (ha : PE X e1 (tR g b Γ ra)) : PT X (.Compare e1 [.Is] [.Constant .none j p] pos) (tT g b Γ (ra.bind fun x => .ok (isNone x))) := by
  refine PT.imp (pt_cmpR op_isN ha pe_non (nomark _)) fun σ H Q q => ?_
  obtain ⟨F, p⟩ := q
  refine tR_bindT p fun x v F1 H1 _ g1 ex p1 => ?_
  refine ⟨rfl, _, rfl, ?_⟩
  rw [ex.isNon]
  exact p1.2 F1 H1 (Grow.refl p1.1.gr.fh)
theorem t_notN {j : Nat} {p : Pos} (ha : PE X e1 (tR g b Γ ra)) : PT X (.Compare e1 [.IsNot] [.Constant .none j p] pos) (tT g b Γ (ra.bind fun x => .ok (!isNone x))) := by
  refine PT.imp (pt_cmpR op_notN ha pe_non (nomark _)) fun σ H Q q => ?_
  obtain ⟨F, p⟩ := q
  refine tR_bindT p fun x v F1 H1 _ g1 ex p1 => ?_
  refine ⟨rfl, _, rfl, ?_⟩
  rw [ex.isNon]
  exact p1.2 F1 H1 (Grow.refl p1.1.gr.fh)
theorem e_isN {j : Nat} {p : Pos} (ha : PE X e1 (tR g b Γ ra)) : PE X (.Compare e1 [.Is] [.Constant .none j p] pos) (tE g b Γ (ra.bind fun x => .ok (.bool (isNone x)))) := by
  refine PE.imp (pe_cmpR op_isN ha pe_non (nomark _)) fun σ H Q q => ?_
  obtain ⟨F, p⟩ := q
  refine tR_bind p fun x v F1 H1 _ g1 ex p1 => ?_
  refine ⟨rfl, ?_⟩
  rw [ex.isNon]
  exact p1.done (.bl _)
theorem e_notN {j : Nat} {p : Pos} (ha : PE X e1 (tR g b Γ ra)) : PE X (.Compare e1 [.IsNot] [.Constant .none j p] pos) (tE g b Γ (ra.bind fun x => .ok (.bool (!isNone x)))) := by
  refine PE.imp (pe_cmpR op_notN ha pe_non (nomark _)) fun σ H Q q => ?_
  obtain ⟨F, p⟩ := q
  refine tR_bind p fun x v F1 H1 _ g1 ex p1 => ?_
  refine ⟨rfl, ?_⟩
  rw [ex.isNon]
  exact p1.done (.bl _)

/-! ### tests -/
/-- a value that is True or False -/
def asB : D → Option Bool
  | .bool k => some k
  | _ => none
theorem t_val (ha : PE X e1 (tE g b Γ ra)) (he : ∀ whole, isTrue e1 X.env whole = (do let v ← whole; standAt e1.pos; holding [v] (truthy v)) := by intro _; rfl) : PT X e1 (tT g b Γ (ra.bind fun x => ofO (asB x))) := by
  refine PT.imp (pt_val ha he) fun σ H Q q => ?_
  obtain ⟨F, p⟩ := q
  refine tE_bindT p fun x v F1 H1 _ g1 ex p1 => ?_
  obtain ⟨rf, p1⟩ := p1
  cases x <;> simp only [asB, ofO] at p1 <;> try exact p1.elim
  cases ex
  exact ⟨_, rfl, p1 F1 H1 (Grow.refl rf.gr.fh)⟩
theorem t_not {rt : Res Bool} (ha : PT X e1 (tT g b Γ rt)) : PT X (.UnaryOp .Not e1 pos) (tT g b Γ (rt.bind fun k => .ok (!k))) := by
  refine PT.imp (pt_not ha) fun σ H Q q => ?_
  obtain ⟨F, p⟩ := q
  exact tT_bindT p fun k F1 H1 _ g1 p1 => p1.2 F1 H1 (Grow.refl p1.1.gr.fh)
variable {rest : List Expr} {rt ru : Res Bool}
theorem w_and1 (ha : PT X e1 (tT g b Γ rt)) : PW X (.BoolOp .And [e1] pos) (tT g b Γ rt) := pw_and1 ha
theorem w_or1 (ha : PT X e1 (tT g b Γ rt)) : PW X (.BoolOp .Or [e1] pos) (tT g b Γ rt) := pw_or1 ha
theorem w_and (ha : PT X e1 (tT g b Γ rt)) (hb : PW X (.BoolOp .And (e2 :: rest) pos) (tT g b Γ ru)) : PW X (.BoolOp .And (e1 :: e2 :: rest) pos) (tT g b Γ (rt.bind fun k => if k = true then ru else .ok false)) := by
  refine PW.imp (pw_and ha hb) fun σ H Q q => ?_
  obtain ⟨F, p⟩ := q
  refine tT_bindT p fun k F1 H1 _ g1 p1 => ?_
  cases k with
  | true => exact ⟨F1, p1⟩
  | false => exact p1.2 F1 H1 (Grow.refl p1.1.gr.fh)
theorem w_or (ha : PT X e1 (tT g b Γ rt)) (hb : PW X (.BoolOp .Or (e2 :: rest) pos) (tT g b Γ ru)) : PW X (.BoolOp .Or (e1 :: e2 :: rest) pos) (tT g b Γ (rt.bind fun k => if k = true then .ok true else ru)) := by
  refine PW.imp (pw_or ha hb) fun σ H Q q => ?_
  obtain ⟨F, p⟩ := q
  refine tT_bindT p fun k F1 H1 _ g1 p1 => ?_
  cases k with
  | true => exact p1.2 F1 H1 (Grow.refl p1.1.gr.fh)
  | false => exact ⟨F1, p1⟩
/-- and, or, not as values that are True or False -/
theorem v_one {op : BoolOp} (ha : PE X e1 (tE g b Γ ra)) : PE X (.BoolOp op [e1] pos) (tE g b Γ ra) := pe_one ha
theorem v_and (ha : PE X e1 (tE g b Γ ra)) (hb : PE X (.BoolOp .And (e2 :: rest) pos) (tE g b Γ rb)) : PE X (.BoolOp .And (e1 :: e2 :: rest) pos) (tE g b Γ (ra.bind fun x => (ofO (asB x)).bind fun k => if k = true then rb else .ok (.bool false))) := by
  refine PE.imp (pe_and ha hb) fun σ H Q q => ?_
  obtain ⟨F, p⟩ := q
  refine tE_bind p fun x v F1 H1 _ g1 ex p1 => ?_
  cases x <;> simp only [asB, ofO_some, ofO_none, Res.bind_ok, Res.bind_no] at p1 <;> try exact p1.2.elim
  cases ex
  rename_i k _
  refine ⟨k, rfl, ?_⟩
  cases k with
  | true => exact ⟨F1, p1⟩
  | false => exact p1.done (.bl false)
theorem v_or (ha : PE X e1 (tE g b Γ ra)) (hb : PE X (.BoolOp .Or (e2 :: rest) pos) (tE g b Γ rb)) : PE X (.BoolOp .Or (e1 :: e2 :: rest) pos) (tE g b Γ (ra.bind fun x => (ofO (asB x)).bind fun k => if k = true then .ok (.bool true) else rb)) := by
  refine PE.imp (pe_or ha hb) fun σ H Q q => ?_
  obtain ⟨F, p⟩ := q
  refine tE_bind p fun x v F1 H1 _ g1 ex p1 => ?_
  cases x <;> simp only [asB, ofO_some, ofO_none, Res.bind_ok, Res.bind_no] at p1 <;> try exact p1.2.elim
  cases ex
  rename_i k _
  refine ⟨k, rfl, ?_⟩
  cases k with
  | true => exact p1.done (.bl true)
  | false => exact ⟨F1, p1⟩
theorem v_not (ha : PE X e1 (tE g b Γ ra)) : PE X (.UnaryOp .Not e1 pos) (tE g b Γ (ra.bind fun x => (ofO (asB x)).bind fun k => .ok (.bool (!k)))) := by
  refine PE.imp (pe_not ha) fun σ H Q q => ?_
  obtain ⟨F, p⟩ := q
  refine tE_bind p fun x v F1 H1 _ g1 ex p1 => ?_
  cases x <;> simp only [asB, ofO_some, ofO_none, Res.bind_ok, Res.bind_no] at p1 <;> try exact p1.2.elim
  cases ex
  exact ⟨_, rfl, p1.done (.bl _)⟩
theorem e_ifx {c : Expr} (hc : PT X c (tT g b Γ rt)) (ha : PE X e1 (tE g b Γ ra)) (hb : PE X e2 (tE g b Γ rb)) : PE X (.IfExp c e1 e2 pos) (tE g b Γ (rt.bind fun k => if k = true then ra else rb)) := by
  refine PE.imp (pe_ifExp hc ha hb) fun σ H Q q => ?_
  obtain ⟨F, p⟩ := q
  refine tT_bind p fun k F1 H1 _ g1 p1 => ?_
  cases k with
  | true => exact ⟨F1, p1⟩
  | false => exact ⟨F1, p1⟩
/-- a < b < c -/
theorem t_chain {op op' : CmpOp} {o o' : D → D → Option Bool} {c : Expr} {rc : Res D} (ho : OpB X g (compareOp op) o) (ho' : OpB X g (compareOp op') o') (ha : PE X e1 (tR g b Γ ra)) (hb : PE X e2 (tR g b Γ rb)) (hc : PE X c (tR g b Γ rc))
    (hm : lastMarks [op, op'] [e2, c] = false := by with_unfolding_all rfl) :
    PT X (.Compare e1 [op, op'] [e2, c] pos) (tT g b Γ (ra.bind fun x => rb.bind fun y => (ofO (o x y)).bind fun k => if k = true then rc.bind fun z => ofO (o' y z) else .ok false)) := by
  obtain ⟨r1, a1, k1⟩ := ho
  obtain ⟨r2, a2, k2⟩ := ho'
  refine PT.imp (pt_chain a1 a2 ha hb hc hm) fun σ H Q q => ?_
  obtain ⟨F, p⟩ := q
  refine tR_bindT p fun x v F1 H1 _ g1 ex p1 => tR_bindT p1 fun y w F2 H2 _ g2 ey p2 => ?_
  cases e : o x y with
  | none =>
    rw [e] at p2
    exact p2.2.elim
  | some k =>
    rw [e] at p2
    refine k1 H2 x y k v w _ (Enc.mono g2.hh ex) ey e ⟨k, rfl, ?_⟩
    cases k with
    | false => exact ⟨false, rfl, p2.2 F2 H2 (Grow.refl p2.1.gr.fh)⟩
    | true =>
      refine tR_bindT (f := fun z => ofO (o' y z)) (by simpa using p2) fun z t F3 H3 _ g3 ez p3 => ?_
      obtain ⟨rf, p3⟩ := p3
      cases e3 : o' y z with
      | none =>
        rw [e3] at p3
        exact p3.elim
      | some k3 =>
        rw [e3] at p3
        exact k2 H3 y z k3 w t _ (Enc.mono g3.hh ey) ez e3 ⟨k3, rfl, p3 F3 H3 (Grow.refl rf.gr.fh)⟩
end
end Mi
/-! Mi2: argument lists, displays, items, slices, built-in calls and methods, calls of the program's own defs, by data. -/
namespace Mi
open L2 PySem PySem.Spec PyProof.Rows
section
variable {X : Cx} {g : Gm} {b : Bs} {Γ : Ctx} {F : Hp} {σ : L2.St} {H : Hp} {e e1 e2 : Expr} {es : List Expr} {pos : Pos} {r ra rb : Res D} {rs : Res (List D)}

/-! ### argument lists, displays -/
theorem a_nil : PA X [] (tA g b Γ (.ok [])) := PA.imp pa_nil fun σ H Q q => by
  obtain ⟨F, rf, p⟩ := q
  exact p [] F H (Grow.refl rf.gr.fh) .nil
theorem a_cons (ha : PE X e (tE g b Γ ra)) (hr : PA X es (tA g b Γ rs)) (hs : starEach (e :: es) X.env = (false, eval e X.env) :: starEach es X.env := by rfl) :
    PA X (e :: es) (tA g b Γ (ra.bind fun x => rs.bind fun xs => .ok (x :: xs))) := PA.imp (pa_cons ha hr hs) fun σ H Q q => by
  obtain ⟨F, p⟩ := q
  exact tE_bindA p fun x v F1 H1 _ g1 ex p1 => tA_bindA p1 fun xs vs F2 H2 _ g2 exs p2 => p2.2 (v :: vs) F2 H2 (Grow.refl p2.1.gr.fh) (.cons (ex.mono g2.ff) exs)
/-- a new list that the view does not have yet -/
def PostN (g : Gm) (b : Bs) (Γ : Ctx) (F : Hp) (r : Res (List D)) (σ : L2.St) (H : Hp) (Q : VK) : Prop :=
  Rf g b Γ F σ H ∧ match r with
  | .ok ds => ∀ p vs F' H', Grow F H F' H' → H p = none → F' p = none → H' p = some (.lst vs) → EncL g F' vs ds → Q (.ref p) H'
  | .ex c fs => ∀ cls od F' H', Grow F H F' H' → Rf g b b.cx F' σ H' → ExOk g c fs cls od F' → b.W cls od σ H'
  | .no => False
def tN (g : Gm) (b : Bs) (Γ : Ctx) (r : Res (List D)) : TE := fun σ H Q => ∃ F, PostN g b Γ F r σ H Q
theorem PostN.grow {r : Res (List D)} {Q : VK} {F' H' : Hp} (p : PostN g b Γ F r σ H Q) (gr : Grow F H F' H') : PostN g b Γ F' r σ H' Q := by
  obtain ⟨rf, p⟩ := p
  refine ⟨rf.grow gr, ?_⟩
  cases r with
  | ok d => exact fun q v F2 H2 a hp => p q v F2 H2 (gr.trans a) (gr.hh.free hp)
  | ex c fs => exact ex_go gr p
  | no => exact p
/-- .. taken into the view -/
theorem ofN (h : PE X e (tN g b Γ rs)) : PE X e (tE g b Γ (rs.bind fun xs => .ok (.list xs))) := PE.imp h fun σ H Q q => by
  obtain ⟨F, rf, q⟩ := q
  refine ⟨F, rf, ?_⟩
  cases rs with
  | ok ds =>
    intro p vs F' H' gr hp hf hh en
    refine q (.ref p) (upd F' p (.lst vs)) H' ⟨gr.ff.trans (Sub.new hf), fun c o z => ?_, gr.hh, fun c z1 z2 => ?_⟩ (.lst upd_same (en.mono (Sub.new hf)))
    · by_cases w : c = p
      · subst w
        rw [upd_same] at z
        cases z
        exact hh
      · rw [upd_ne w] at z
        exact gr.fh _ _ z
    · have w : c ≠ p := fun w => z1 (by rw [w]; exact hp)
      rw [upd_ne w]
      exact gr.new c z1 z2
  | ex c fs => exact q
  | no => exact q
/-- a length that a list may have -/
def mkL (xs : List D) : Option (List D) := if xs.length ≤ cap then some xs else none
theorem mkL_some {xs ys : List D} (h : mkL xs = some ys) : ys = xs ∧ xs.length ≤ cap := by
  obtain ⟨h1, h2⟩ := if_some (show (if xs.length ≤ cap then some xs else none) = some ys from h)
  exact ⟨h2.symm, h1⟩
theorem PostN.new {ds : List D} {vs : List V} {Q : VK} (h : PostN g b Γ F (.ok ds) σ H Q) (en : EncL g F vs ds) : ∀ p, H p = none → Q (.ref p) (upd H p (.lst vs)) := fun p hp =>
  h.2 p vs F _ ⟨Sub.refl _, h.1.gr.fh.trans (Sub.new hp), Sub.new hp, fun _ _ z => z⟩ hp (h.1.gr.fh.free hp) upd_same en
theorem tA_bindN {ra : Res (List D)} {f : List D → Res (List D)} {Q : VK} {K : List V → Hp → Prop} (h : PostN g b Γ F (ra.bind f) σ H Q) (k : ∀ d v F' H', ra = .ok d → Grow F H F' H' → EncL g F' v d → PostN g b Γ F' (f d) σ H' Q → K v H') : tA g b Γ ra σ H K := by
  refine ⟨F, h.1, ?_⟩
  cases ra with
  | ok d => exact fun v F' H' gr en => k d v F' H' rfl gr en (PostN.grow h gr)
  | ex c fs => exact h.2
  | no => exact h.2
theorem tE_bindN {ra : Res D} {f : D → Res (List D)} {Q : VK} {K : VK} (h : PostN g b Γ F (ra.bind f) σ H Q) (k : ∀ d v F' H', ra = .ok d → Grow F H F' H' → Enc g F' v d → PostN g b Γ F' (f d) σ H' Q → K v H') : tE g b Γ ra σ H K := by
  refine ⟨F, h.1, ?_⟩
  cases ra with
  | ok d => exact fun v F' H' gr en => k d v F' H' rfl gr en (PostN.grow h gr)
  | ex c fs => exact h.2
  | no => exact h.2
/-- [a, b] -/
theorem n_lst (ha : PA X es (tA g b Γ rs)) : PE X (.List es pos) (tN g b Γ (rs.bind fun xs => ofO (mkL xs))) := PE.imp (pe_lst ha) fun σ H Q q => by
  obtain ⟨F, p⟩ := q
  refine tA_bindN p fun xs vs F1 H1 _ g1 ex p1 => ?_
  cases e : mkL xs with
  | none =>
    rw [e] at p1
    exact p1.2.elim
  | some ys =>
    rw [e] at p1
    obtain ⟨rfl, hz⟩ := mkL_some e
    exact ⟨cap_line (by rw [ex.len]; exact hz), p1.new ex⟩
/-- (a, b) -/
def tTupX (t : TA) : TE := fun σ H Q => t σ H fun xs H1 => xs.length ≤ sizeLine ∧ NewT xs H1 Q
theorem pe_tupX {x1 : Nat} {t : TA} (h : PA X es t) : PE X (.Tuple es x1 pos) (tTupX t) := by
  refine ⟨fun pins s σ H Q I hq => ?_⟩
  refine wpAny_Tuple_spliced (thn (h.run pos pins s σ H _ I hq) fun us s1 ⟨xs, H1, I1, r, z, q⟩ => ⟨r.length ▸ z, ?_⟩)
  exact ⟨.ref s1.heap.objs.size, _, inv_newTup (tk := s1.toks) I1 r z, rfl, q _ _ (I1.hok.fresh (Nat.le_refl _))⟩
theorem e_tup {x1 : Nat} (ha : PA X es (tA g b Γ rs)) : PE X (.Tuple es x1 pos) (tE g b Γ (rs.bind fun xs => (ofO (mkL xs)).bind fun ys => .ok (.tuple ys))) := PE.imp (pe_tupX ha) fun σ H Q q => by
  obtain ⟨F, p⟩ := q
  refine tA_bind p fun xs vs F1 H1 _ g1 ex p1 => ?_
  cases e : mkL xs with
  | none =>
    rw [e] at p1
    exact p1.2.elim
  | some ys =>
    rw [e] at p1
    obtain ⟨rfl, hz⟩ := mkL_some e
    exact ⟨cap_line (by rw [ex.len]; exact hz), Gives.newT p1.2 p1.1.gr.fh ex⟩

/-! ### items -/
def itemD : D → D → Option D
  | .list xs, .int i => atI xs i
  | .tuple xs, .int i => atI xs i
  | .str z, .int i => if z.length ≤ cap then (atI z.cps.toList i).map fun c => .str ⟨#[c]⟩ else none
  | .dict [(.none, .list xs)], .int i => atI xs i
  | _, _ => none
theorem atI_enc {vs : List V} {ds : List D} {i : Int} {d : D} (h : EncL g F vs ds) (e : atI ds i = some d) : ∃ v, atI vs i = some v ∧ Enc g F v d := by
  unfold atI at e ⊢
  rw [h.len]
  cases q : ixN ds.length i with
  | none =>
    rw [q] at e
    cases e
  | some j =>
    rw [q] at e
    exact h.get e
theorem ix_go (hK : X.K = g.K) {x y d : D} {v w : V} {Q : VK} (s : Sub F H) (ex : Enc g F v x) (ey : Enc g F w y) (e : itemD x y = some d) (k : Gives g F H d Q) : rIx X.K v w H Q := by
  cases ey with
  | int i =>
    cases ex with
    | lst h1 k1 =>
      obtain ⟨u, e1, e2⟩ := atI_enc k1 (show atI _ i = some d from e)
      exact .inl ⟨_, _, i, u, rfl, rfl, SqL.of (s _ _ h1), e1, k.here s e2⟩
    | tup h1 k1 =>
      obtain ⟨u, e1, e2⟩ := atI_enc k1 (show atI _ i = some d from e)
      exact .inr (.inl ⟨_, _, i, u, rfl, rfl, hK ▸ (s.tupX h1).sqT, e1, k.here s e2⟩)
    | str z =>
      obtain ⟨hc, e1⟩ : z.length ≤ cap ∧ (atI z.cps.toList i).map (fun c => PyData.str ⟨#[c]⟩) = some d := by
        have e1 : (if z.length ≤ cap then (atI z.cps.toList i).map fun c => PyData.str ⟨#[c]⟩ else none) = some d := e
        split at e1
        · exact ⟨by assumption, e1⟩
        · cases e1
      obtain ⟨c, e2, rfl⟩ := Option.map_eq_some_iff.mp e1
      exact .inr (.inr ⟨z, i, c, rfl, rfl, cap_line hc, e2, k.here s (.str _)⟩)
    | dct h1 =>
      cases h1 with
      | scr h2 k2 =>
        obtain ⟨u, e1, e2⟩ := atI_enc k2 (show atI _ i = some d from e)
        exact .inl ⟨_, _, i, u, rfl, rfl, hK ▸ s.sqL h2, e1, k.here s e2⟩
      | dk _ kp =>
        cases kp with
        | nil => cases e
        | consI _ _ => cases e
        | consS _ _ => cases e
      | obj _ kf _ => cases e
    | _ => cases e
  | _ => cases x <;> first | (cases e; done) | (unfold itemD at e; split at e <;> first | (cases e; done) | rename_i q; cases q)
theorem e_ix (ha : PE X e1 (tE g b Γ ra)) (hb : PE X e2 (tE g b Γ rb)) (hs : PlainIx e2 := by exact fun _ _ => rfl) (hK : X.K = g.K := by rfl) :
    PE X (.Subscript e1 e2 pos) (tE g b Γ (ra.bind fun x => rb.bind fun y => ofO (itemD x y))) := PE.imp (pe_ix ix_seq ha hb hs) fun σ H Q q => by
  obtain ⟨F, p⟩ := q
  refine tE_bind p fun x v F1 H1 _ g1 ex p1 => tE_bind p1 fun y w F2 H2 _ g2 ey p2 => ?_
  obtain ⟨d, e, k⟩ := p2.gives
  exact ix_go hK p2.1.gr.fh (ex.mono g2.ff) ey e k
/-- an item of a list of one's own -/
theorem e_ixo {i : Nat} {x : Str} {p1 : Pos} {xs : List D} (hb : PE X e2 (tE g b Γ rb)) (hΓ : Γ[i]? = some (some (.l xs)) := by rfl) (hN : X.N[i]? = some x := by rfl) (hv : Vis X.env.scope x := by first | exact Or.inl rfl | exact Or.inr (Or.inl rfl) | exact Or.inr (Or.inr rfl))
    (hs : PlainIx e2 := by exact fun _ _ => rfl) (hd : (x == ("__debug__" : Str)) = false := by decide) (hcd : (x == ("__classdict__" : Str)) = false := by decide) :
    PE X (.Subscript (.Name x p1) e2 pos) (tE g b Γ (rb.bind fun y => ofO (itemD (.list xs) y))) := PE.imp (pe_ix ix_seq (pe_var hN hv hd hcd) hb hs) fun σ H Q q => by
  obtain ⟨F, p⟩ := q
  obtain ⟨a, vs, h1, h2, h3, h4, h5⟩ := p.1.own hΓ
  refine ⟨_, h1, tE_bind p fun y w F2 H2 _ g2 ey p2 => ?_⟩
  obtain ⟨d, e, k⟩ := p2.gives
  cases ey with
  | int j =>
    obtain ⟨u, e1, e2⟩ := atI_enc (h5.mono g2.ff) (show atI xs j = some d from e)
    exact .inl ⟨_, _, j, u, rfl, rfl, SqL.of (g2.hh _ _ h4), e1, k.here p2.1.gr.fh e2⟩
  | _ => cases e

/-! ### slices -/
/-- a part of a slice: nothing, or an int -/
def tO (g : Gm) (b : Bs) (Γ : Ctx) (r : Res (Option Int)) : TO := fun σ H Q => ∃ F, Rf g b Γ F σ H ∧ match r with
  | .ok o => ∀ F' H', Grow F H F' H' → Q o H'
  | .ex c fs => ∀ cls od F' H', Grow F H F' H' → Rf g b b.cx F' σ H' → ExOk g c fs cls od F' → b.W cls od σ H'
  | .no => False
def asI : D → Option (Option Int)
  | .int i => some (some i)
  | _ => none
theorem PO.imp {o : Option Expr} {t t' : TO} (h : PO X o t) (k : ∀ σ H Q, t' σ H Q → t σ H Q) : PO X o t' := by
  obtain ⟨h⟩ := h
  constructor
  intros
  first
    | exact h _ _ _ _ _ ‹_› (k _ _ _ ‹_›)
    | exact h _ _ _ _ _ _ ‹_› (k _ _ _ ‹_›)
theorem s_none : PO X none (tO g b Γ (.ok none)) := PO.imp po_none fun σ H Q q => by
  obtain ⟨F, rf, p⟩ := q
  exact p F H (Grow.refl rf.gr.fh)
theorem s_some (ha : PE X e (tE g b Γ ra)) : PO X (some e) (tO g b Γ (ra.bind fun x => ofO (asI x))) := PO.imp (po_some ha) fun σ H Q q => by
  obtain ⟨F, rf, p⟩ := q
  refine ⟨F, rf, ?_⟩
  cases ra with
  | ok d =>
    intro v F' H' gr en
    cases d with
    | int i =>
      cases en
      exact ⟨i, rfl, p F' H' gr⟩
    | _ => exact p.elim
  | ex c fs => exact p
  | no => exact p
def cutL {α : Type} (xs : List α) (lo hi : Option Int) : List α := (xs.drop (HT.sIx xs.length 0 lo)).take (HT.sIx xs.length xs.length hi - HT.sIx xs.length 0 lo)
def sliceD : D → Option Int → Option Int → Option D
  | .tuple xs, lo, hi => some (.tuple (cutL xs lo hi))
  | .str z, lo, hi => if z.length ≤ cap then some (.str (cutS z lo hi)) else none
  | _, _, _ => none
theorem cutL_enc {vs : List V} {ds : List D} (h : EncL g F vs ds) (lo hi : Option Int) : EncL g F (cutV vs lo hi) (cutL ds lo hi) := by
  unfold cutV cutL
  rw [h.len]
  exact (h.drop _).take _
theorem tO_bind {f : Option Int → Res D} {ro : Res (Option Int)} {Q : VK} {K : Option Int → Hp → Prop} (h : Post g b Γ F (ro.bind f) σ H Q) (k : ∀ o F' H', ro = .ok o → Grow F H F' H' → Post g b Γ F' (f o) σ H' Q → K o H') : tO g b Γ ro σ H K := by
  refine ⟨F, h.1, ?_⟩
  cases ro with
  | ok d => exact fun F' H' gr => k d F' H' rfl gr (Post.grow h gr)
  | ex c fs => exact h.2
  | no => exact h.2
def rSlX (K : PySem.W.Frag) : V → Option Int → Option Int → Hp → VK → Prop := fun x lo hi H Q => ∃ a xs, x = .ref a ∧ TupX K H a xs ∧
  (HT.sIx xs.length 0 lo = 0 ∧ HT.sIx xs.length xs.length hi = xs.length → Q (.ref a) H) ∧ (¬ (HT.sIx xs.length 0 lo = 0 ∧ HT.sIx xs.length xs.length hi = xs.length) → NewT (cutV xs lo hi) H Q)
theorem sl_tupX : SlR X (rSlX X.K) := by
  intro pins s σ H x v vl vu lo hi sl Q I rx hs pl pu h
  obtain ⟨a, xs, rfl, hx, q1, q2⟩ := h
  by_cases hw : HT.sIx xs.length 0 lo = 0 ∧ HT.sIx xs.length xs.length hi = xs.length
  · exact sl_tupA pins s σ H _ v vl vu lo hi sl Q I rx hs pl pu ⟨a, xs, rfl, hx.sqT, q1, fun z => absurd hw z⟩
  · cases rx
    obtain ⟨its, r, ht, hz⟩ := I.tuple hx.sqT
    have hlen : its.toArray.size = xs.length := by rw [List.size_toArray]; exact r.length.symm
    refine ⟨"tuple", _, PyProof.Rows.slot_tuple_getitem.lookup, ht.typeIs, HT.getItem_tuple_cut ht hs pl pu (hlen.symm ▸ hw) ?_ (hlen.symm ▸ hz)⟩
    rw [hlen]
    exact ⟨.ref s.heap.objs.size, _, inv_newTup (tk := s.toks) I ((r.drop _).take _) (Nat.le_trans (cutV_length xs lo hi) hz), rfl, q2 hw _ _ (I.hok.fresh (Nat.le_refl _))⟩
theorem e_slice {lo hi : Option Expr} {p2 : Pos} {rl rh : Res (Option Int)} (ha : PE X e1 (tE g b Γ ra)) (hl : PO X lo (tO g b Γ rl)) (hh : PO X hi (tO g b Γ rh)) (hK : X.K = g.K := by rfl) :
    PE X (.Subscript e1 (.Slice lo hi none p2) pos) (tE g b Γ (ra.bind fun x => rl.bind fun l => rh.bind fun h => ofO (sliceD x l h))) := PE.imp (pe_slice (sl_tupX.or sl_str) ha hl hh) fun σ H Q q => by
  obtain ⟨F, p⟩ := q
  refine tE_bind p fun x v F1 H1 _ g1 ex p1 => tO_bind p1 fun l F2 H2 _ g2 p2 => tO_bind p2 fun h F3 H3 _ g3 p3 => ?_
  obtain ⟨d, e, k⟩ := p3.gives
  cases ex.mono (g2.ff.trans g3.ff) with
  | tup h1 k1 =>
    cases e
    refine .inl ⟨_, _, rfl, hK ▸ p3.1.gr.fh.tupX h1, fun z => ?_, fun _ => k.newT p3.1.gr.fh (cutL_enc k1 l h)⟩
    refine k.here p3.1.gr.fh (.tup h1 ?_)
    have z2 := cutL_enc k1 l h
    unfold cutV at z2
    rw [z.1, z.2, Nat.sub_zero, List.drop_zero, List.take_length] at z2
    exact z2
  | str z =>
    obtain ⟨hc, rfl⟩ := if_some (show (if z.length ≤ cap then some (PyData.str (cutS z l h)) else none) = some d from e)
    exact .inr ⟨z, rfl, cap_line hc, k.here p3.1.gr.fh (.str _)⟩
  | _ => cases e
/-- a slice of a list is a new list -/
theorem n_slice {lo hi : Option Expr} {p2 : Pos} {rl rh : Res (Option Int)} (ha : PE X e1 (tE g b Γ ra)) (hl : PO X lo (tO g b Γ rl)) (hh : PO X hi (tO g b Γ rh)) :
    PE X (.Subscript e1 (.Slice lo hi none p2) pos) (tN g b Γ (ra.bind fun x => rl.bind fun l => rh.bind fun h => match x with
      | .list xs => .ok (cutL xs l h)
      | _ => .no)) := PE.imp (pe_slice sl_list ha hl hh) fun σ H Q q => by
  obtain ⟨F, p⟩ := q
  refine tE_bindN p fun x v F1 H1 _ g1 ex p1 => ?_
  have go : ∀ {ro : Res (Option Int)} {f : Option Int → Res (List D)} {F : Hp} {H : Hp} {K : Option Int → Hp → Prop}, PostN g b Γ F (ro.bind f) σ H Q → (∀ o F' H', ro = .ok o → Grow F H F' H' → PostN g b Γ F' (f o) σ H' Q → K o H') → tO g b Γ ro σ H K := by
    intro ro f F H K h k
    refine ⟨F, h.1, ?_⟩
    cases ro with
    | ok d => exact fun F' H' gr => k d F' H' rfl gr (PostN.grow h gr)
    | ex c fs => exact h.2
    | no => exact h.2
  refine go p1 fun l F2 H2 _ g2 p2 => go p2 fun h F3 H3 _ g3 p3 => ?_
  cases ex.mono (g2.ff.trans g3.ff) with
  | lst h1 k1 => exact ⟨_, _, rfl, SqL.of (p3.1.gr.fh _ _ h1), p3.new (cutL_enc k1 l h)⟩
  | _ => exact p3.2.elim
end
end Mi
/-! Mi3: built-in calls and methods, calls of the program's own defs, by data. -/
namespace Mi
open L2 PySem PySem.Spec PyProof.Rows
section
variable {X : Cx} {g : Gm} {b : Bs} {Γ : Ctx} {F : Hp} {σ : L2.St} {H : Hp} {e e1 e2 : Expr} {es : List Expr} {pos p : Pos} {r ra rb : Res D} {rs : Res (List D)} {x : Str} {id : String}
/-- one value of a call, looked at -/
theorem tR_one {K : List V → Hp → Prop} (h : tR g b Γ ra σ H fun v H1 => K [v] H1) (he : PE X e1 (tR g b Γ ra)) : tCons (tR g b Γ ra) tNil σ H K := h
/-- a built-in of one value that is looked at; the answer is a scalar -/
def Call1 (X : Cx) (g : Gm) (f : Value) (o : D → Option D) : Prop :=
  ∃ r : List V → Hp → VK → Prop, CallR X f r ∧ ∀ (H : Hp) (x d : D) (v : V) (Q : VK), Enc g H v x → o x = some d → (∀ w, (∀ F, Enc g F w d) → Q w H) → r [v] H Q
theorem e_b1 {o : D → Option D} (hc : Call1 X g (.builtin id) o) (ha : PE X e1 (tR g b Γ ra)) (hm : X.mg x = none) (hg : Gl X x := by rfl) (hv : bootBuiltins x = some (.builtin id) := by decide +kernel) (hn : x ≠ "__name__" := by decide)
    (hdb : (x == ("__debug__" : Str)) = false := by decide) (he : starEach [e1] X.env = (false, eval e1 X.env) :: starEach [] X.env := by rfl) (hpl : (backTo pos (starEach [] X.env)).any (·.1) = false := by rfl) :
    PE X (.Call (.Name x p) [e1] [] pos) (tE g b Γ (ra.bind fun y => ofO (o y))) := by
  obtain ⟨r1, h1, h2⟩ := hc
  refine PE.imp (pe_callB h1 hg hm hv (pa_cons ha pa_nil he) hn hdb he hpl) fun σ H Q q => ?_
  obtain ⟨F, q⟩ := q
  refine tR_bind q fun y v F1 H1 _ g1 ey p1 => ?_
  obtain ⟨d, e, k⟩ := p1.gives
  exact h2 H1 y d v Q ey e fun w hw => k.here p1.1.gr.fh (hw F1)
theorem e_t1 {T : String} {o : D → Option D} (hc : Call1 X g (.type T) o) (ha : PE X e1 (tR g b Γ ra)) (hm : X.mg x = none) (hg : Gl X x := by rfl) (hv : bootBuiltins x = some (.type T) := by decide +kernel) (hn : x ≠ "__name__" := by decide)
    (hdb : (x == ("__debug__" : Str)) = false := by decide) (he : starEach [e1] X.env = (false, eval e1 X.env) :: starEach [] X.env := by rfl) (hpl : (backTo pos (starEach [] X.env)).any (·.1) = false := by rfl) :
    PE X (.Call (.Name x p) [e1] [] pos) (tE g b Γ (ra.bind fun y => ofO (o y))) := by
  obtain ⟨r1, h1, h2⟩ := hc
  refine PE.imp (pe_callTy h1 hg hm hv (pa_cons ha pa_nil he) hn hdb he hpl) fun σ H Q q => ?_
  obtain ⟨F, q⟩ := q
  refine tR_bind q fun y v F1 H1 _ g1 ey p1 => ?_
  obtain ⟨d, e, k⟩ := p1.gives
  exact h2 H1 y d v Q ey e fun w hw => k.here p1.1.gr.fh (hw F1)
def lenD : D → Option D
  | .str z => if z.length ≤ cap then some (.int z.length) else none
  | .list xs => some (.int xs.length)
  | .tuple xs => some (.int xs.length)
  | .dict [(.none, .list xs)] => some (.int xs.length)
  | _ => none
theorem c_len (hK : X.K = g.K := by rfl) : Call1 X g (.builtin "len") lenD := by
  refine ⟨_, call_len, fun H x d v Q ex e k => ?_⟩
  cases ex with
  | str z =>
    obtain ⟨hc, rfl⟩ := if_some (show (if z.length ≤ cap then some (PyData.int z.length) else none) = some d from e)
    exact ⟨_, z.length, rfl, ⟨cap_line hc, rfl⟩, k _ fun _ => .int _⟩
  | lst h1 k1 =>
    cases e
    refine ⟨_, _, rfl, .inl ⟨_, SqL.of h1, k1.len.symm⟩, k _ fun _ => .int _⟩
  | tup h1 k1 =>
    cases e
    refine ⟨_, _, rfl, .inr ⟨_, hK ▸ h1.sqT, k1.len.symm⟩, k _ fun _ => .int _⟩
  | dct h1 =>
    cases h1 with
    | scr h2 k2 =>
      cases e
      exact ⟨_, _, rfl, .inl ⟨_, hK ▸ h2, k2.len.symm⟩, k _ fun _ => .int _⟩
    | dk _ kp =>
      cases kp with
      | nil => cases e
      | consI _ _ => cases e
      | consS _ _ => cases e
    | obj _ kf _ => cases e
  | _ => cases e
def intD : D → Option D
  | .int i => some (.int i)
  | .bool k => some (.int (if k then 1 else 0))
  | _ => none
theorem c_int : Call1 X g (.type "int") intD := by
  refine ⟨_, call_int1, fun H x d v Q ex e k => ?_⟩
  cases ex with
  | int i =>
    cases e
    exact .inl ⟨i, rfl, k _ fun _ => .int i⟩
  | bl t =>
    cases e
    exact .inr ⟨t, rfl, k _ fun _ => .int _⟩
  | _ => cases e
def strD : D → Option D
  | .int i => if i.natAbs < 2 ^ 200 then some (.str (toString i)) else none
  | _ => none
theorem c_str : Call1 X g (.type "str") strD := by
  refine ⟨_, call_str_int, fun H x d v Q ex e k => ?_⟩
  cases ex with
  | int i =>
    obtain ⟨hc, rfl⟩ := if_some (show (if i.natAbs < 2 ^ 200 then some (PyData.str (toString i)) else none) = some d from e)
    exact ⟨i, rfl, Nat.lt_of_lt_of_le (PySem.Flt.log2_lt_of (by decide) hc) (by decide), k _ fun _ => .str _⟩
  | _ => cases e
/-- tuple(x): x a list or a tuple -/
def tupleD : D → Option D
  | .list xs => some (.tuple xs)
  | .tuple xs => some (.tuple xs)
  | _ => none
def rTupOf (K : PySem.W.Frag) : List V → Hp → VK → Prop := fun xs H Q => ∃ q ys, xs = [.ref q] ∧ ((SqL K H q ys ∧ NewT ys H Q) ∨ (SqT K H q ys ∧ Q (.ref q) H))
theorem call_tupX : CallR X (.type "tuple") (rTupOf X.K) := by
  intro pins s σ H xs us Q I r h
  obtain ⟨q, ys, rfl, h | h⟩ := h
  · obtain ⟨hq, k⟩ := h
    obtain ⟨u, rfl, rx⟩ := vals1 r
    cases rx
    obtain ⟨its, r', pl, hz⟩ := I.list hq
    refine call_tuple_list pl.isList (fun h' kp => ?_) (by rw [List.size_toArray, ← r'.length]; exact hz)
    have I1 := I.kept (t' := s.toks) kp
    exact ⟨.ref h'.objs.size, _, inv_newTup (tk := s.toks) I1 r' hz, rfl, k _ _ (I1.hok.fresh (Nat.le_refl _))⟩
  · exact call_tuple_of pins s σ H _ us Q I r ⟨q, ys, rfl, .inr h⟩
/-- a built-in class of one value of the view -/
def Call1F (X : Cx) (g : Gm) (f : Value) (o : D → Option D) : Prop :=
  ∃ r : List V → Hp → VK → Prop, CallR X f r ∧ ∀ (F H : Hp) (x d : D) (v : V) (Q : VK), Sub F H → Enc g F v x → o x = some d → Gives g F H d Q → r [v] H Q
theorem e_t1F {T : String} {o : D → Option D} (hc : Call1F X g (.type T) o) (ha : PE X e1 (tE g b Γ ra)) (hm : X.mg x = none) (hg : Gl X x := by rfl) (hv : bootBuiltins x = some (.type T) := by decide +kernel) (hn : x ≠ "__name__" := by decide)
    (hdb : (x == ("__debug__" : Str)) = false := by decide) (he : starEach [e1] X.env = (false, eval e1 X.env) :: starEach [] X.env := by rfl) (hpl : (backTo pos (starEach [] X.env)).any (·.1) = false := by rfl) :
    PE X (.Call (.Name x p) [e1] [] pos) (tE g b Γ (ra.bind fun y => ofO (o y))) := by
  obtain ⟨r1, h1, h2⟩ := hc
  refine PE.imp (pe_callTy h1 hg hm hv (pa_cons ha pa_nil he) hn hdb he hpl) fun σ H Q q => ?_
  obtain ⟨F, q⟩ := q
  refine tE_bind q fun y v F1 H1 _ g1 ey p1 => ?_
  obtain ⟨d, e, k⟩ := p1.gives
  exact h2 F1 H1 y d v Q p1.1.gr.fh ey e k
theorem c_tuple (hK : X.K = g.K := by rfl) : Call1F X g (.type "tuple") tupleD := by
  refine ⟨_, call_tupX, fun F H x d v Q s ex e k => ?_⟩
  cases ex with
  | lst h1 k1 =>
    cases e
    exact ⟨_, _, rfl, .inl ⟨SqL.of (s _ _ h1), k.newT s k1⟩⟩
  | tup h1 k1 =>
    cases e
    exact ⟨_, _, rfl, .inr ⟨hK ▸ (s.tupX h1).sqT, k.here s (.tup h1 k1)⟩⟩
  | _ => cases e
/-- list(x): a new list of x's items -/
def listR : D → Res (List D)
  | .list xs => .ok xs
  | .tuple xs => .ok xs
  | _ => .no
theorem n_list (ha : PE X e1 (tE g b Γ ra)) (hm : X.mg "list" = none) (hg : Gl X "list" := by rfl) (hv : bootBuiltins "list" = some (.type "list") := by decide +kernel)
    (he : starEach [e1] X.env = (false, eval e1 X.env) :: starEach [] X.env := by rfl) (hpl : (backTo pos (starEach [] X.env)).any (·.1) = false := by rfl) (hK : X.K = g.K := by rfl) :
    PE X (.Call (.Name "list" p) [e1] [] pos) (tN g b Γ (ra.bind fun y => listR y)) := PE.imp (pe_callTy call_list_of hg hm hv (pa_cons ha pa_nil he) (by decide) (by decide) he hpl) fun σ H Q q => by
  obtain ⟨F, q⟩ := q
  refine tE_bindN q fun y v F1 H1 _ g1 ey p1 => ?_
  cases ey with
  | lst h1 k1 => exact ⟨_, _, rfl, .inl (SqL.of (p1.1.gr.fh _ _ h1)), p1.new k1⟩
  | tup h1 k1 => exact ⟨_, _, rfl, .inr (hK ▸ (p1.1.gr.fh.tupX h1).sqT), p1.new k1⟩
  | _ => exact p1.2.elim
/-- min(a, b), max(a, b) of two ints -/
def minD : D → D → Option D
  | .int i, .int j => some (.int (if j < i then j else i))
  | _, _ => none
def maxD : D → D → Option D
  | .int i, .int j => some (.int (if j > i then j else i))
  | _, _ => none
theorem e_min (ha : PE X e1 (tE g b Γ ra)) (hb : PE X e2 (tE g b Γ rb)) (hm : X.mg "min" = none) (hc : X.calm = true := by rfl) (hg : Gl X "min" := by rfl) (hv : bootBuiltins "min" = some (.builtin "min") := by decide +kernel)
    (he : starEach [e1, e2] X.env = (false, eval e1 X.env) :: starEach [e2] X.env := by rfl) (he2 : starEach [e2] X.env = (false, eval e2 X.env) :: starEach [] X.env := by rfl) (hpl : (backTo pos (starEach [e2] X.env)).any (·.1) = false := by rfl) :
    PE X (.Call (.Name "min" p) [e1, e2] [] pos) (tE g b Γ (ra.bind fun y => rb.bind fun z => ofO (minD y z))) := PE.imp (pe_callB (call_min2 hc) hg hm hv (pa_cons ha (pa_cons hb pa_nil he2) he) (by decide) (by decide) he hpl) fun σ H Q q => by
  obtain ⟨F, q⟩ := q
  refine tE_bind q fun y v F1 H1 _ g1 ey p1 => tE_bind p1 fun z w F2 H2 _ g2 ez p2 => ?_
  obtain ⟨d, e, k⟩ := p2.gives
  cases ey with
  | int i =>
    cases ez with
    | int j =>
      cases e
      exact ⟨i, j, rfl, k.here p2.1.gr.fh (.int _)⟩
    | _ => cases e
  | _ => cases z <;> cases e
theorem e_max (ha : PE X e1 (tE g b Γ ra)) (hb : PE X e2 (tE g b Γ rb)) (hm : X.mg "max" = none) (hc : X.calm = true := by rfl) (hg : Gl X "max" := by rfl) (hv : bootBuiltins "max" = some (.builtin "max") := by decide +kernel)
    (he : starEach [e1, e2] X.env = (false, eval e1 X.env) :: starEach [e2] X.env := by rfl) (he2 : starEach [e2] X.env = (false, eval e2 X.env) :: starEach [] X.env := by rfl) (hpl : (backTo pos (starEach [e2] X.env)).any (·.1) = false := by rfl) :
    PE X (.Call (.Name "max" p) [e1, e2] [] pos) (tE g b Γ (ra.bind fun y => rb.bind fun z => ofO (maxD y z))) := PE.imp (pe_callB (call_max2 hc) hg hm hv (pa_cons ha (pa_cons hb pa_nil he2) he) (by decide) (by decide) he hpl) fun σ H Q q => by
  obtain ⟨F, q⟩ := q
  refine tE_bind q fun y v F1 H1 _ g1 ey p1 => tE_bind p1 fun z w F2 H2 _ g2 ez p2 => ?_
  obtain ⟨d, e, k⟩ := p2.gives
  cases ey with
  | int i =>
    cases ez with
    | int j =>
      cases e
      exact ⟨i, j, rfl, k.here p2.1.gr.fh (.int _)⟩
    | _ => cases e
  | _ => cases z <;> cases e

/-! ### isinstance with built-in types -/
def tyName : D → String
  | .none => "NoneType"
  | .bool _ => "bool"
  | .int _ => "int"
  | .str _ => "str"
  | .list _ => "list"
  | .tuple _ => "tuple"
  | .dict _ => "dict"
def isiT (T : String) (d : D) : Option Bool := match d with
  | .dict _ => none
  | d => kitB (tyName d) T
theorem Enc.tyx {v : V} {d : D} (hK : X.K = g.K) (h : Enc g H v d) (nd : ∀ kvs, d ≠ .dict kvs) : TyX X.K H v (.type (tyName d)) := by
  cases h with
  | non => exact .base .non
  | bl k => exact .base (.bl k)
  | int i => exact .base (.int i)
  | str z => exact .base (.str z)
  | lst h1 _ => exact .base (.lst h1)
  | tup h1 _ =>
    rcases h1 with ⟨its, h1⟩ | ⟨o, its, n, h1, h2, _⟩
    · exact .fTuple h1
    · exact .kTuple (hK ▸ h1) h2
  | dct _ => exact absurd rfl (nd _)
theorem isi_reading {T : String} {Q : VK} {y : D} {v : V} {k : Bool} (hK : X.K = g.K) (ey : Enc g H v y) (e : isiT T y = some k) (q : Q (.bl k) H) : rIsi X.K [v, .ty T] H Q := by
  have nd : ∀ kvs, y ≠ .dict kvs := fun kvs z => by
    subst z
    cases e
  refine ⟨v, .ty T, .type (tyName y), .type T, k, rfl, .ty T, ey.tyx hK nd, kit_ty ?_, q⟩
  cases y <;> first | exact e | cases e
/-- isinstance(x, T) as a test, T a built-in class -/
theorem t_isi {T : String} {tn : Str} {p2 : Pos} (ha : PE X e1 (tR g b Γ ra)) (hm : X.mg "isinstance" = none) (hmT : X.mg tn = none) (hvT : bootBuiltins tn = some (.type T) := by decide +kernel) (hgT : Gl X tn := by rfl) (hg : Gl X "isinstance" := by rfl)
    (hv : bootBuiltins "isinstance" = some (.builtin "isinstance") := by decide +kernel) (hnT : tn ≠ "__name__" := by decide) (hdT : (tn == ("__debug__" : Str)) = false := by decide)
    (he : starEach [e1, .Name tn p2] X.env = (false, eval e1 X.env) :: starEach [.Name tn p2] X.env := by rfl) (he2 : starEach [.Name tn p2] X.env = (false, eval (.Name tn p2) X.env) :: starEach [] X.env := by rfl)
    (hpl : (backTo pos (starEach [.Name tn p2] X.env)).any (·.1) = false := by rfl) (hw : ∀ whole, isTrue (.Call (.Name "isinstance" p) [e1, .Name tn p2] [] pos) X.env whole = (do let v ← whole; standAt pos; holding [v] (truthy v)) := by intro _; rfl) (hK : X.K = g.K := by rfl) :
    PT X (.Call (.Name "isinstance" p) [e1, .Name tn p2] [] pos) (tT g b Γ (ra.bind fun y => ofO (isiT T y))) := PT.imp (pt_val (pe_callB call_isi hg hm hv (pa_cons ha (pa_cons (pe_bltn (v := .ty T) hgT hmT hvT rfl hnT hdT) pa_nil he2) he) (by decide) (by decide) he hpl) hw) fun σ H Q q => by
  obtain ⟨F, q⟩ := q
  refine tR_bindT q fun y v F1 H1 _ g1 ey p1 => ?_
  obtain ⟨rf, p1⟩ := p1
  cases e : isiT T y with
  | none =>
    rw [e] at p1
    exact p1.elim
  | some k =>
    rw [e] at p1
    exact isi_reading (Q := fun x H' => ∃ c, x = .bl c ∧ Q c H') hK ey e ⟨k, rfl, p1 F1 H1 (Grow.refl rf.gr.fh)⟩
theorem e_isi {T : String} {tn : Str} {p2 : Pos} (ha : PE X e1 (tR g b Γ ra)) (hm : X.mg "isinstance" = none) (hmT : X.mg tn = none) (hvT : bootBuiltins tn = some (.type T) := by decide +kernel) (hgT : Gl X tn := by rfl) (hg : Gl X "isinstance" := by rfl)
    (hv : bootBuiltins "isinstance" = some (.builtin "isinstance") := by decide +kernel) (hnT : tn ≠ "__name__" := by decide) (hdT : (tn == ("__debug__" : Str)) = false := by decide)
    (he : starEach [e1, .Name tn p2] X.env = (false, eval e1 X.env) :: starEach [.Name tn p2] X.env := by rfl) (he2 : starEach [.Name tn p2] X.env = (false, eval (.Name tn p2) X.env) :: starEach [] X.env := by rfl)
    (hpl : (backTo pos (starEach [.Name tn p2] X.env)).any (·.1) = false := by rfl) (hK : X.K = g.K := by rfl) :
    PE X (.Call (.Name "isinstance" p) [e1, .Name tn p2] [] pos) (tE g b Γ (ra.bind fun y => (ofO (isiT T y)).bind fun k => .ok (.bool k))) := PE.imp (pe_callB call_isi hg hm hv (pa_cons ha (pa_cons (pe_bltn (v := .ty T) hgT hmT hvT rfl hnT hdT) pa_nil he2) he) (by decide) (by decide) he hpl) fun σ H Q q => by
  obtain ⟨F, q⟩ := q
  refine tR_bind q fun y v F1 H1 _ g1 ey p1 => ?_
  cases e : isiT T y with
  | none =>
    rw [e] at p1
    exact p1.2.elim
  | some k =>
    rw [e] at p1
    exact isi_reading hK ey e (p1.done (.bl k))
/-- isinstance(x, (T1, T2)) -/
def isiT2 (T U : String) (d : D) : Option Bool := match isiT T d with
  | some true => some true
  | some false => isiT U d
  | none => none
theorem t_isi2 {T U : String} {tn un : Str} {p2 p3 p4 : Pos} {k4 : Nat} (ha : PE X e1 (tR g b Γ ra)) (hm : X.mg "isinstance" = none) (hmT : X.mg tn = none) (hmU : X.mg un = none) (hvT : bootBuiltins tn = some (.type T) := by decide +kernel) (hvU : bootBuiltins un = some (.type U) := by decide +kernel)
    (hgT : Gl X tn := by rfl) (hgU : Gl X un := by rfl) (hg : Gl X "isinstance" := by rfl)
    (hv : bootBuiltins "isinstance" = some (.builtin "isinstance") := by decide +kernel) (hnT : tn ≠ "__name__" := by decide) (hdT : (tn == ("__debug__" : Str)) = false := by decide) (hnU : un ≠ "__name__" := by decide) (hdU : (un == ("__debug__" : Str)) = false := by decide)
    (he : starEach [e1, .Tuple [.Name tn p2, .Name un p3] k4 p4] X.env = (false, eval e1 X.env) :: starEach [.Tuple [.Name tn p2, .Name un p3] k4 p4] X.env := by rfl) (he2 : starEach [.Tuple [.Name tn p2, .Name un p3] k4 p4] X.env = (false, eval (.Tuple [.Name tn p2, .Name un p3] k4 p4) X.env) :: starEach [] X.env := by rfl)
    (he3 : starEach [.Name tn p2, .Name un p3] X.env = (false, eval (.Name tn p2) X.env) :: starEach [.Name un p3] X.env := by rfl) (he4 : starEach [.Name un p3] X.env = (false, eval (.Name un p3) X.env) :: starEach [] X.env := by rfl)
    (hpl : (backTo pos (starEach [.Tuple [.Name tn p2, .Name un p3] k4 p4] X.env)).any (·.1) = false := by rfl) (hw : ∀ whole, isTrue (.Call (.Name "isinstance" p) [e1, .Tuple [.Name tn p2, .Name un p3] k4 p4] [] pos) X.env whole = (do let v ← whole; standAt pos; holding [v] (truthy v)) := by intro _; rfl) (hK : X.K = g.K := by rfl) :
    PT X (.Call (.Name "isinstance" p) [e1, .Tuple [.Name tn p2, .Name un p3] k4 p4] [] pos) (tT g b Γ (ra.bind fun y => ofO (isiT2 T U y))) :=
  PT.imp (pt_val (pe_callB call_isiT hg hm hv (pa_cons ha (pa_cons (pe_tup (pa_cons (pe_bltn (v := .ty T) hgT hmT hvT rfl hnT hdT) (pa_cons (pe_bltn (v := .ty U) hgU hmU hvU rfl hnU hdU) pa_nil he4) he3)) pa_nil he2) he) (by decide) (by decide) he hpl) hw) fun σ H Q q => by
  obtain ⟨F, q⟩ := q
  refine tR_bindT q fun y v F1 H1 _ g1 ey p1 => ⟨cap_line (by show 2 ≤ cap; decide), fun tp hp => ?_⟩
  obtain ⟨rf, p1⟩ := p1
  cases e : isiT2 T U y with
  | none =>
    rw [e] at p1
    exact p1.elim
  | some k =>
    rw [e] at p1
    have nd : ∀ kvs, y ≠ .dict kvs := fun kvs z => by
      subst z
      cases e
    have e0 : (match isiT T y with
      | some true => some true
      | some false => isiT U y
      | none => none) = some k := e
    have one : ∀ (S : String) (j : Bool), isiT S y = some j → PySem.W.kitOne X.K (.type (tyName y)) (.type S) = some j := fun S j z => kit_ty (by
      cases y <;> first | exact z | cases z)
    refine ⟨v, tp, _, .type (tyName y), [.type T, .type U], k, rfl, upd_same, .cons (.ty T) (.cons (.ty U) .nil), (ey.mono (Sub.new hp)).tyx hK nd, ?_, k, rfl, p1 F1 _ ⟨Sub.refl _, rf.gr.fh.trans (Sub.new hp), Sub.new hp, fun _ _ z => z⟩⟩
    cases eT : isiT T y with
    | none =>
      rw [eT] at e0
      cases e0
    | some jT =>
      rw [eT] at e0
      cases jT with
      | true =>
        cases e0
        exact kitAny_cons (one T true eT) (fun z => nomatch z) fun _ => rfl
      | false => exact kitAny_cons (one T false eT) (fun _ => kitAny_cons (one U k e0) (fun z => by rw [z]; exact kitAny_nil) fun z => z) fun z => nomatch z
end
end Mi
/-! Mi4: attributes, calls of the program's own defs, statements, by data. -/
namespace Mi
open L2 PySem PySem.Spec PyProof.Rows

/-! ### fields -/
structure ClsOk (K : PySem.W.Frag) (i : CI) : Prop where
  sl : i.k = .slots → SlX.SCls K i.C ∧ i.pl.Nodup ∧ ∀ (j : Nat) (f : Str), i.fs[j]? = some f → ∃ p q, i.pl[j]? = some q ∧ SlX.Slot1 K i.C f p q
  di : i.k = .dict → Cls K i.C ∧ ∀ f ∈ i.fs, NoAttr K i.C f
def CisOk (g : Gm) : Prop := ∀ c i, g.ci c = some i → ClsOk g.K i
/-- a field among those stored -/
def getF : List (D × D) → Str → Option D
  | [], _ => none
  | (.str f, d) :: r, x => if f = x then some d else getF r x
  | _ :: r, x => getF r x
def attrD (d : D) (f : Str) : Option D := match d with
  | .dict ((.none, .str _) :: kvs) => getF kvs f
  | _ => none
def setF (f : Str) (v : D) : List (D × D) → List (D × D)
  | [] => [(.str f, v)]
  | (.str h, d) :: r => if h = f then (.str h, v) :: r else (.str h, d) :: setF f v r
  | q :: r => q :: setF f v r
section
variable {g : Gm} {F H : Hp}
theorem EncF.lens : ∀ {ns : List Str} {vs : List V} {kvs : List (D × D)}, EncF g F ns vs kvs → ns.length = vs.length ∧ vs.length = kvs.length
  | _, _, _, .nil => ⟨rfl, rfl⟩
  | _, _, _, .cons _ k => ⟨congrArg (· + 1) (EncF.lens k).1, congrArg (· + 1) (EncF.lens k).2⟩
theorem EncF.find : ∀ {ns : List Str} {vs : List V} {kvs : List (D × D)} {f : Str} {d : D}, EncF g F ns vs kvs → getF kvs f = some d → ∃ (j : Nat) (v : V), ns[j]? = some f ∧ vs[j]? = some v ∧ (ns.zip vs).lookup f = some v ∧ Enc g F v d
  | _, _, _, f, d, .nil, e => by cases e
  | n :: ns, v :: vs, _, f, d, .cons h k, e => by
    have e1 : (if n = f then some _ else getF _ f) = some d := e
    split at e1
    · rename_i q
      cases e1
      subst q
      exact ⟨0, v, rfl, rfl, by simp [List.lookup], h⟩
    · rename_i q
      obtain ⟨j, u, a1, a2, a3, a4⟩ := EncF.find k e1
      refine ⟨j + 1, u, by simpa using a1, by simpa using a2, ?_, a4⟩
      have nq : (f == n) = false := by simpa using fun z => q z.symm
      show List.lookup f ((n, v) :: ns.zip vs) = some u
      simp only [List.lookup, nq]
      exact a3
end
section
variable {X : Cx} {g : Gm} {b : Bs} {Γ : Ctx} {F : Hp} {σ : L2.St} {H : Hp} {e e1 e2 : Expr} {es : List Expr} {pos p : Pos} {r ra rb : Res D} {rs : Res (List D)} {x f : Str}
/-- a field of an instance is read -/
theorem attr_go {pins : List (Addr × Obj)} {s : Shared} {a dx : Addr} {i : CI} {ns : List Str} {vs : List V} {v : V} {j : Nat} {t : Bool} {Q : Value → Shared → Prop} {E : Value → Shared → Prop} (hK : X.K = g.K) (co : ClsOk g.K i) (I : Inv X pins σ H s) (o : ObjAt i H a dx ns vs)
    (h1 : ns[j]? = some f) (h2 : vs[j]? = some v) (h3 : (ns.zip vs).lookup f = some v) (k : ∀ u s', Inv X pins σ H s' → RelV v u → Q u s') : wpAny (model X.prog X.w) X.A (getAttr (.ref a) f t) Q E s := by
  rcases o with ⟨ks, en, el, o⟩ | ⟨kd, el, ha, hd, hin⟩
  · obtain ⟨c, nd, sl⟩ := co.sl ks
    have q1 : i.fs[j]? = some f := by
      rw [en, List.getElem?_take] at h1
      split at h1
      · exact h1
      · cases h1
    obtain ⟨p, q, hq, t1⟩ := sl j f q1
    rcases o with ⟨z, _, _⟩ | ⟨ss, h0, z1, z2⟩
    · subst z
      simp at h2
    · exact SlX.getslot_ok I (.inr ⟨z1, z2⟩) (hK ▸ c) (hK ▸ t1) (h0 j v q h2 hq) k
  · obtain ⟨c, na⟩ := co.di kd
    exact getattr_ok I ha (hK ▸ c) (show NoAttr X.K i.C f from hK ▸ na f (hin f (List.mem_of_getElem? h1))) h3 k
theorem e_attr (ha : PE X e (tE g b Γ ra)) (co : CisOk g) (hb : attributeBase e f X.env (eval e X.env) = eval e X.env := by rfl) (hK : X.K = g.K := by rfl) : PE X (.Attribute e f pos) (tE g b Γ (ra.bind fun d => ofO (attrD d f))) := by
  refine ⟨fun pins s σ H Q I h => ?_⟩
  obtain ⟨F, h⟩ := h
  refine attr_of hb (thn (ha.run pins s σ H (fun v H1 => ∃ d F1, Post g b Γ F1 (ofO (attrD d f)) σ H1 Q ∧ Enc g F1 v d) I (tE_bind h fun d v F1 H1 _ g1 en p1 => ⟨d, F1, p1, en⟩)) fun u s1 ⟨v, H1, I1, rv, d, F1, p1, en⟩ => ?_)
  obtain ⟨d', e', k⟩ := p1.gives
  cases en with
  | dct en =>
    cases en with
    | obj hc kf o =>
      obtain ⟨j, w, a1, a2, a3, a4⟩ := kf.find (show getF _ f = some d' from e')
      cases rv
      exact attr_go hK (co _ _ hc) I1 (p1.1.gr.fh.objAt o) a1 a2 a3 fun u' s2 I2 ru => ⟨w, H1, I2, ru, k.here p1.1.gr.fh a4⟩
    | scr _ _ => cases e'
    | dk _ kp =>
      cases kp with
      | nil => cases e'
      | consI _ _ => cases e'
      | consS _ _ => cases e'
  | _ => cases e'
/-- a field of the instance that is being made -/
theorem e_attro {i : Nat} {a0 : Addr} {c : Str} {kvs : List (D × D)} {p1 : Pos} (co : CisOk g) (hΓ : Γ[i]? = some (some (.o a0 c kvs)) := by rfl) (hN : X.N[i]? = some x := by rfl) (hv : Vis X.env.scope x := by first | exact Or.inl rfl | exact Or.inr (Or.inl rfl) | exact Or.inr (Or.inr rfl))
    (hd : (x == ("__debug__" : Str)) = false := by decide) (hcd : (x == ("__classdict__" : Str)) = false := by decide)
    (hb : attributeBase (.Name x p1) f X.env (eval (.Name x p1) X.env) = eval (.Name x p1) X.env := by rfl) (hK : X.K = g.K := by rfl) : PE X (.Attribute (.Name x p1) f pos) (tE g b Γ (ofO (getF kvs f))) := by
  refine ⟨fun pins s σ H Q I h => ?_⟩
  obtain ⟨F, p1⟩ := h
  obtain ⟨ov, h1, h2⟩ := p1.1.at_ i _ hΓ
  obtain ⟨d', e', k⟩ := p1.gives
  cases ov with
  | none => exact h2.elim
  | some v =>
    cases v with
    | ref a =>
      obtain ⟨_, ci, dx, ns, vs, q1, q2, q3, q4, q5, q6, q7, q8⟩ := h2
      obtain ⟨j, w, a1, a2, a3, a4⟩ := q7.find e'
      refine attr_of hb (thn ((pe_var hN hv hd hcd).run pins s σ H (fun v H1 => v = .ref a ∧ H1 = H) I ⟨_, h1, rfl, rfl⟩) fun u s1 ⟨v, H1, I1, rv, e1, e2⟩ => ?_)
      subst e1 e2
      cases rv
      exact attr_go hK (co _ _ q1) I1 q8 a1 a2 a3 fun u' s2 I2 ru => ⟨w, _, I2, ru, k.here p1.1.gr.fh a4⟩
    | _ => exact h2.elim

/-! ### the program's own defs -/
/-- what a def is worth: its arguments' data, the answer's datum -/
def spD (g : Gm) (m : List D → Res D) : Sp := fun vs H Q E => ∃ F ds, Sub F H ∧ EncL g F vs ds ∧ match m ds with
  | .ok d => Gives g F H d Q
  | .ex c fs => ∀ cls od F' H', Grow F H F' H' → ExOk g c fs cls od F' → E cls od H'
  | .no => False
/-- a def of the module by its name -/
structure DefT (P : Program) (w : World) (g : Gm) (mg : Str → Option Value) (base : Heap) (name : Str) (k : Nat) (m : List D → Res D) : Prop where
  ex : ∃ f fd ps, FnOk P w g.K mg base (L2.CX P w) k f fd ps (spD g m) ∧ mg name = some (.ref f) ∧ PySem.W.keepIn g.K (.ref f) = true ∧ Binds g.K fd ps []
theorem e_call {k j : Nat} {m : List D → Res D} (T : DefT X.prog X.w g X.mg X.base x k m) (hr : Room j X.A) (tk : Takes X b.W) (ha : PA X (e :: es) (tA g b Γ rs)) (hj : k ≤ j := by decide) (hg : Gl X x := by rfl) (hdb : (x == ("__debug__" : Str)) = false := by decide)
    (he : starEach (e :: es) X.env = (false, eval e X.env) :: starEach es X.env := by rfl) (hpl : (backTo pos (starEach es X.env)).any (·.1) = false := by rfl) (hK : X.K = g.K := by rfl) :
    PE X (.Call (.Name x p) (e :: es) [] pos) (tE g b Γ (rs.bind fun ds => m ds)) := by
  obtain ⟨f, fd, ps, Fn, gm, kp, bd⟩ := T.ex
  rw [← hK] at Fn kp bd
  refine ⟨fun pins s σ H Q I h => ?_⟩
  obtain ⟨F, h⟩ := h
  refine wpAny_Call_Name_kw (ld_glob I hg gm ?_ hdb)
  refine PySem.W.callWith_K (h₀ := X.base) I.ok.mod.kin kp (thn (ha.run pos pins s σ H (fun vs H1 => ∃ ds F1, Post g b Γ F1 (m ds) σ H1 Q ∧ EncL g F1 vs ds) I (tA_bind h fun d v F1 H1 _ g1 en p1 => ⟨d, F1, p1, en⟩)) fun us s1 ⟨vs, H1, I1, rv, ds, F1, p1, en⟩ => ⟨I1.kIn, ?_⟩) he hpl
  refine run_fnS Fn (hr.mono hj) bd (passAt tk σ) I1 rv ⟨F1, ds, p1.1.gr.fh, en, ?_⟩
  obtain ⟨rf, p1⟩ := p1
  cases q : m ds with
  | ok d =>
    rw [q] at p1
    exact p1
  | ex c fs =>
    rw [q] at p1
    exact fun cls od F' H' gr ok => p1 cls od F' H' gr (rf.grow gr).cx ok
  | no =>
    rw [q] at p1
    exact p1

/-! ### statements -/
/-- what is wanted behind a block that comes to o -/
def EndS {β τ : Type} (g : Gm) (b : Bs) (Γb : β → Ctx) (Γn : τ → Ctx) (o : Fl β τ) (Ds : Ends) : Prop := match o with
  | .nx t => ∀ F' σ' H', Rf g b (Γn t) F' σ' H' → Ds.nx σ' H'
  | .rt d => ∀ v F' H', Grow b.F0 b.H0 F' H' → Enc g F' v d → Ds.rt v H'
  | .bk t => ∀ F' σ' H', Rf g b (Γb t) F' σ' H' → Ds.bk σ' H'
  | .ct t => ∀ F' σ' H', Rf g b (Γb t) F' σ' H' → Ds.ct σ' H'
  | .ex c fs => ∀ cls od F' σ' H', Rf g b b.cx F' σ' H' → ExOk g c fs cls od F' → b.W cls od σ' H'
  | .no => False
def tS {β τ : Type} (g : Gm) (b : Bs) (Γb : β → Ctx) (Γ : Ctx) (o : Fl β τ) (Γn : τ → Ctx) : TS := fun Ds σ H => ∃ F, Rf g b Γ F σ H ∧ EndS g b Γb Γn o Ds
variable {β τ υ : Type} {Γb : β → Ctx} {Γn : τ → Ctx} {rest body : List Stmt} {st : Stmt}
theorem b_nil {t : τ} (hl : Le (Γn t) Γ := by repeat (first | exact Le.nil | apply Le.same | apply Le.none)) (hc : Le b.cx (Γn t) := by repeat (first | exact Le.nil | apply Le.same | apply Le.none)) : PSs X [] (tS g b Γb Γ (.nx t) Γn) := PSs.imp pss_nil fun D σ H q => by
  obtain ⟨F, rf, q⟩ := q
  exact q F σ H (rf.weak hl hc)
/-- nothing more is claimed -/
theorem b_no {sts : List Stmt} : PSs X sts (tS g b Γb Γ (.no : Fl β τ) Γn) := PSs.imp pss_never fun D σ H q => by
  obtain ⟨F, rf, q⟩ := q
  exact q
/-- another way to write what it comes to -/
theorem b_is {sts : List Stmt} {o o' : Fl β τ} (h : PSs X sts (tS g b Γb Γ o Γn)) (q : o = o') : PSs X sts (tS g b Γb Γ o' Γn) := q ▸ h
/-- an expression, then the rest of the block by its value -/
theorem tS_bind {ra : Res D} {k : D → Fl β τ} {Ds : Ends} {K : VK} (h : tS g b Γb Γ (ra.bindF k) Γn Ds σ H)
    (go : ∀ d v F1 H1, ra = .ok d → Rf g b Γ F1 σ H1 → Enc g F1 v d → EndS g b Γb Γn (k d) Ds → K v H1) : tE g b Γ ra σ H K := by
  obtain ⟨F, rf, h⟩ := h
  refine ⟨F, rf, ?_⟩
  cases ra with
  | ok d => exact fun v F' H' gr en => go d v F' H' rfl (rf.grow gr) en h
  | ex c fs => exact fun cls od F' H' gr r1 ok => h cls od F' σ H' r1 ok
  | no => exact h
theorem tS_bindG {ra : Res D} {k : D → Fl β τ} {Ds : Ends} {K : VK} (rf : Rf g b Γ F σ H) (h : EndS g b Γb Γn (ra.bindF k) Ds)
    (go : ∀ d v F1 H1, ra = .ok d → Grow F H F1 H1 → Rf g b Γ F1 σ H1 → Enc g F1 v d → EndS g b Γb Γn (k d) Ds → K v H1) : tE g b Γ ra σ H K := by
  refine ⟨F, rf, ?_⟩
  cases ra with
  | ok d => exact fun v F' H' gr en => go d v F' H' rfl gr (rf.grow gr) en h
  | ex c fs => exact fun cls od F' H' gr r1 ok => h cls od F' σ H' r1 ok
  | no => exact h
theorem tS_bindT {rt : Res Bool} {k : Bool → Fl β τ} {Ds : Ends} {K : Bool → Hp → Prop} (h : tS g b Γb Γ (rt.bindF k) Γn Ds σ H)
    (go : ∀ d F1 H1, rt = .ok d → Rf g b Γ F1 σ H1 → EndS g b Γb Γn (k d) Ds → K d H1) : tT g b Γ rt σ H K := by
  obtain ⟨F, rf, h⟩ := h
  refine ⟨F, rf, ?_⟩
  cases rt with
  | ok d => exact fun F' H' gr => go d F' H' rfl (rf.grow gr) h
  | ex c fs => exact fun cls od F' H' gr r1 ok => h cls od F' σ H' r1 ok
  | no => exact h
theorem tS_bindN {ra : Res (List D)} {k : List D → Fl β τ} {Ds : Ends} {K : VK} (h : tS g b Γb Γ (ra.bindF k) Γn Ds σ H)
    (go : ∀ ds p vs F1 H1, ra = .ok ds → Rf g b Γ F1 σ H1 → F1 p = none → b.H0 p = none → H1 p = some (.lst vs) → EncL g F1 vs ds → (∀ (j : Nat) (ys : List D), Γ[j]? = some (some (.l ys)) → σ[j]? ≠ some (some (.ref p))) → EndS g b Γb Γn (k ds) Ds → K (.ref p) H1) :
    tN g b Γ ra σ H K := by
  obtain ⟨F, rf, h⟩ := h
  refine ⟨F, rf, ?_⟩
  cases ra with
  | ok d =>
    intro p vs F' H' gr hp hf hh en
    refine go d p vs F' H' rfl (rf.grow gr) hf (rf.gr.hh.free hp) hh en (fun j ys hj hs => ?_) h
    obtain ⟨a, us, k1, k2, k3, k4, k5⟩ := rf.own hj
    rw [hs] at k1
    cases k1
    rw [hp] at k4
    cases k4
  | ex c fs => exact fun cls od F' H' gr r1 ok => h cls od F' σ H' r1 ok
  | no => exact h
/-- x = e; rest -/
theorem b_set {i : Nat} {k : D → Fl β τ} {py : Pos} (he : PE X e (tE g b Γ ra)) (hrest : ∀ d, ra = .ok d → PSs X rest (tS g b Γb (Γ.set i (some (.v d))) (k d) Γn)) (hN : X.N.Nodup) (hc : (b.cx[i]?).join = none := by rfl) (hi : X.N[i]? = some x := by rfl)
    (hx : Loc X.env.scope x := by first | exact Or.inl rfl | exact Or.inr rfl) (hs : swapsWith e (some (.Name x py)) pos.line X.env = pure false := by rfl) (hf : X.fn x = true ∨ X.env.scope.names.lookup x = some .local := by first | exact .inl rfl | exact .inr rfl) :
    PSs X (.Assign [.Name x py] e pos :: rest) (tS g b Γb Γ (ra.bindF k) Γn) := by
  refine PSs.impI (pss_cons (ps_set hN hi hx he hs hf) (PSs.ex fun d => PSs.ex fun q => hrest d q)) fun Ds σ H hl h => ?_
  refine tS_bind h fun d v F1 H1 ed rf en h2 => ?_
  exact ⟨d, ed, F1, rf.setv en hc (by rw [hl]; exact (List.getElem?_eq_some_iff.mp hi).1), h2⟩
/-- x = a new list that is changed later; rest -/
theorem b_setn {i : Nat} {k : List D → Fl β τ} {py : Pos} (he : PE X e (tN g b Γ rs)) (hrest : ∀ ds, rs = .ok ds → PSs X rest (tS g b Γb (Γ.set i (some (.l ds))) (k ds) Γn)) (hN : X.N.Nodup) (hc : (b.cx[i]?).join = none := by rfl) (hi : X.N[i]? = some x := by rfl)
    (hx : Loc X.env.scope x := by first | exact Or.inl rfl | exact Or.inr rfl) (hs : swapsWith e (some (.Name x py)) pos.line X.env = pure false := by rfl) (hf : X.fn x = true ∨ X.env.scope.names.lookup x = some .local := by first | exact .inl rfl | exact .inr rfl) :
    PSs X (.Assign [.Name x py] e pos :: rest) (tS g b Γb Γ (rs.bindF k) Γn) := by
  refine PSs.impI (pss_cons (ps_set hN hi hx he hs hf) (PSs.ex fun d => PSs.ex fun q => hrest d q)) fun Ds σ H hl h => ?_
  refine tS_bindN h fun ds p vs F1 H1 ed rf hf h0 hh en hn h2 => ?_
  exact ⟨ds, ed, F1, rf.setl en hf h0 hh (fun j ys _ hj => hn j ys hj) hc (by rw [hl]; exact (List.getElem?_eq_some_iff.mp hi).1), h2⟩
/-- xs.append(e); rest, xs a list of one's own -/
theorem b_app {i : Nat} {xs : List D} {k : D → Fl β τ} {p1 p2 p3 : Pos} (he : PE X e (tE g b Γ ra)) (hrest : ∀ d, ra = .ok d → xs.length < cap → PSs X rest (tS g b Γb (Γ.set i (some (.l (xs ++ [d])))) (k d) Γn))
    (hΓ : Γ[i]? = some (some (.l xs)) := by rfl) (hc : (b.cx[i]?).join = none := by rfl) (hN : X.N[i]? = some x := by rfl) (hv : Vis X.env.scope x := by first | exact Or.inl rfl | exact Or.inr (Or.inl rfl) | exact Or.inr (Or.inr rfl))
    (hd : (x == ("__debug__" : Str)) = false := by decide) (hcd : (x == ("__classdict__" : Str)) = false := by decide)
    (hbase : attributeBase (.Name x p1) "append" X.env (eval (.Name x p1) X.env) = eval (.Name x p1) X.env := by rfl)
    (hfew : ((backTo p3 (starEach [e] X.env)).all (fun x => !x.1) && (backToKw p3 (keywordEach [] X.env)).all (fun x => x.1.isSome) && decide ([e].length + ([] : List Keyword).length + (if ([] : List Keyword).isEmpty then 0 else 1) < 30)) = true := by rfl)
    (hline : (p2.endLine == p3.line) = true := by rfl) (hs : starEach [e] X.env = (false, eval e X.env) :: starEach [] X.env := by rfl) (hplain : (backTo p3 (starEach [] X.env)).any (·.1) = false := by rfl)
    (hsw : swapsWith (.Call (.Attribute (.Name x p1) "append" p2) [e] [] p3) none pos.line X.env = pure false := by rfl) :
    PSs X (.Expr (.Call (.Attribute (.Name x p1) "append" p2) [e] [] p3) pos :: rest) (tS g b Γb Γ (ra.bindF fun d => if xs.length < cap then k d else .no) Γn) := by
  refine PSs.imp (pss_cons (ps_expr (pe_bm PySem.F.plainAttrs_list PySem.F.slot_list_append PySem.F.type_list_append mt_append (pe_var hN hv hd hcd) (pa_cons he pa_nil hs) hbase hfew hline hs hplain) hsw) (PSs.ex fun d => PSs.ex fun q => PSs.ex fun z => hrest d q z)) fun Ds σ H h => ?_
  obtain ⟨F, rf, h⟩ := h
  obtain ⟨a, vs, h1, h2, h3, h4, h5⟩ := rf.own hΓ
  refine ⟨_, h1, .inl ⟨rfl, vs, SqL.of h4⟩, tS_bind ⟨F, rf, h⟩ fun d v F1 H1 ed rf1 en k1 => ?_⟩
  obtain ⟨a', vs', h1', h2', h3', h4', h5'⟩ := rf1.own hΓ
  rw [h1] at h1'
  cases h1'
  by_cases hz : xs.length < cap
  · rw [if_pos hz] at k1
    exact ⟨a, vs', v, rfl, rfl, h4', cap_lt (by rw [h5'.len]; exact hz), d, ed, hz, F1, rf1.mutl hΓ h1 h4' h2' h3' (h5'.app (.cons en .nil)) hc, k1⟩
  · rw [if_neg hz] at k1
    exact k1.elim
/-- xs[j] = e; rest, xs a list of one's own -/
def setI (xs : List D) (j : D) (d : D) : Option (List D) := match j with
  | .int n => (ixN xs.length n).map fun m => xs.set m d
  | _ => none
/-- .. taken further -/
def setK {β τ : Type} (o : Option (List D)) (k : List D → Fl β τ) : Fl β τ := match o with
  | some ys => k ys
  | none => .no
theorem b_seti {i : Nat} {xs : List D} {k : List D → Fl β τ} {e2 : Expr} {p1 p2 : Pos} (he : PE X e (tE g b Γ ra)) (hj : PE X e2 (tE g b Γ rb)) (hrest : ∀ ys, PSs X rest (tS g b Γb (Γ.set i (some (.l ys))) (k ys) Γn))
    (hΓ : Γ[i]? = some (some (.l xs)) := by rfl) (hc : (b.cx[i]?).join = none := by rfl) (hN : X.N[i]? = some x := by rfl) (hv : Vis X.env.scope x := by first | exact Or.inl rfl | exact Or.inr (Or.inl rfl) | exact Or.inr (Or.inr rfl))
    (hd : (x == ("__debug__" : Str)) = false := by decide) (hcd : (x == ("__classdict__" : Str)) = false := by decide)
    (ha : ∀ v, assign (.Subscript (.Name x p1) e2 p2) X.env v = (do
      let ov ← holding [v] (eval (.Name x p1) X.env)
      let iv ← holding [v, ov] (eval e2 X.env)
      standAt p2
      holding [v, ov, iv] (setItem ov iv v)
      release [v, ov, iv] []) := by intro _; rfl)
    (hs : swapsWithSole [.Subscript (.Name x p1) e2 p2] e pos.line X.env = pure false := by rfl) (hw : swappedStores [.Subscript (.Name x p1) e2 p2] e X.env = pure none := by rfl)
    (h1 : (assignEach [.Subscript (.Name x p1) e2 p2] X.env).map (·.2) = [assign (.Subscript (.Name x p1) e2 p2) X.env] := by rfl) :
    PSs X (.Assign [.Subscript (.Name x p1) e2 p2] e pos :: rest) (tS g b Γb Γ (ra.bindF fun d => rb.bindF fun j => setK (setI xs j d) k) Γn) := by
  refine PSs.imp (pss_cons (ps_asg he (pg_sub (pe_var hN hv hd hcd) hj set_list ha) hs hw h1) (PSs.ex fun ys => hrest ys)) fun Ds σ H h => ?_
  refine tS_bind h fun d v F1 H1 ed rf1 en k1 => ?_
  obtain ⟨a, vs, q1, q2, q3, q4, q5⟩ := rf1.own hΓ
  refine ⟨_, q1, tS_bindG rf1 k1 fun j w F2 H2 ej gr rf2 en2 k2 => ?_⟩
  obtain ⟨a', vs', h1', h2', h3', h4', h5'⟩ := rf2.own hΓ
  rw [q1] at h1'
  cases h1'
  cases en2 with
  | int n =>
    cases z : ixN xs.length n with
    | none =>
      have z2 : setI xs (.int n) d = none := by show (ixN xs.length n).map _ = none; rw [z]; rfl
      rw [z2] at k2
      exact (show False from k2).elim
    | some m =>
      have z2 : setI xs (.int n) d = some (xs.set m d) := by show (ixN xs.length n).map _ = _; rw [z]; rfl
      rw [z2] at k2
      refine ⟨a, vs', n, m, rfl, rfl, h4', by rw [h5'.len]; exact z, xs.set m d, F2, rf2.mutl hΓ q1 h4' h2' h3' (h5'.set (en.mono gr.ff) m) hc, k2⟩
  | _ => exact k2.elim
/-- a list of one's own is changed no more -/
theorem b_frz {i : Nat} {xs : List D} {sts : List Stmt} {o : Fl β τ} (hrest : PSs X sts (tS g b Γb (Γ.set i (some (.v (.list xs)))) o Γn)) (hΓ : Γ[i]? = some (some (.l xs)) := by rfl) (hc : (b.cx[i]?).join = none := by rfl) : PSs X sts (tS g b Γb Γ o Γn) := PSs.imp hrest fun Ds σ H h => by
  obtain ⟨F, rf, h⟩ := h
  obtain ⟨F', rf'⟩ := rf.freeze hΓ hc
  exact ⟨F', rf', h⟩
/-- return e -/
theorem b_ret (he : PE X e (tE g b Γ ra)) : PSs X (.Return (some e) pos :: rest) (tS g b Γb Γ (ra.bindF fun d => (.rt d : Fl β τ)) Γn) := PSs.imp (pss_cons (ps_ret he) pss_never) fun Ds σ H h => by
  refine tS_bind h fun d v F1 H1 ed rf en k => ?_
  exact k v F1 H1 rf.gr en
theorem b_retN : PSs X (.Return none pos :: rest) (tS g b Γb Γ (.rt .none : Fl β τ) Γn) := PSs.imp (pss_cons ps_retN pss_never) fun Ds σ H h => by
  obtain ⟨F, rf, h⟩ := h
  exact h .non F H rf.gr .non
/-- an expression whose value is dropped; rest -/
theorem b_expr {k : D → Fl β τ} (he : PE X e (tE g b Γ ra)) (hrest : ∀ d, PSs X rest (tS g b Γb Γ (k d) Γn)) (hs : swapsWith e none pos.line X.env = pure false := by rfl) : PSs X (.Expr e pos :: rest) (tS g b Γb Γ (ra.bindF k) Γn) :=
  PSs.imp (pss_cons (ps_expr he hs) (PSs.ex fun d => hrest d)) fun Ds σ H h => by
  refine tS_bind h fun d v F1 H1 ed rf en k1 => ?_
  exact ⟨d, F1, rf, k1⟩
theorem b_pass (hrest : PSs X rest (tS g b Γb Γ (o : Fl β τ) Γn)) : PSs X (.Pass pos :: rest) (tS g b Γb Γ o Γn) := PSs.imp (pss_cons ps_pass hrest) fun Ds σ H h => h
theorem b_break {t : β} (hl : Le (Γb t) Γ := by repeat (first | exact Le.nil | apply Le.same | apply Le.none)) (hc : Le b.cx (Γb t) := by repeat (first | exact Le.nil | apply Le.same | apply Le.none)) : PSs X (.Break pos :: rest) (tS g b Γb Γ (.bk t : Fl β τ) Γn) := PSs.imp (pss_cons ps_break pss_never) fun Ds σ H h => by
  obtain ⟨F, rf, h⟩ := h
  exact h F σ H (rf.weak hl hc)
theorem b_cont {t : β} (hl : Le (Γb t) Γ := by repeat (first | exact Le.nil | apply Le.same | apply Le.none)) (hc : Le b.cx (Γb t) := by repeat (first | exact Le.nil | apply Le.same | apply Le.none)) : PSs X (.Continue pos :: rest) (tS g b Γb Γ (.ct t : Fl β τ) Γn) := PSs.imp (pss_cons ps_continue pss_never) fun Ds σ H h => by
  obtain ⟨F, rf, h⟩ := h
  exact h F σ H (rf.weak hl hc)
/-- if c: A else: B; rest: what both branches leave is Γ1 of some t -/
theorem b_if {c : Expr} {A B : List Stmt} {rt : Res Bool} {oA oB : Fl β υ} {Γ1 : υ → Ctx} {k : υ → Fl β τ} (hc : PT X c (tT g b Γ rt)) (hA : rt = .ok true → PSs X A (tS g b Γb Γ oA Γ1)) (hB : rt = .ok false → PSs X B (tS g b Γb Γ oB Γ1)) (hrest : ∀ t, PSs X rest (tS g b Γb (Γ1 t) (k t) Γn)) :
    PSs X (.If c A B pos :: rest) (tS g b Γb Γ ((rt.bindF fun q => if q = true then oA else oB).bind k) Γn) := by
  have one : PS X (.If c A B pos) (tS g b Γb Γ (rt.bindF fun q => if q = true then oA else oB) Γ1) := by
    refine PS.imp (ps_if hc (t := fun Ds σ H => ∃ q : rt = .ok true, tS g b Γb Γ oA Γ1 Ds σ H) (u := fun Ds σ H => ∃ q : rt = .ok false, tS g b Γb Γ oB Γ1 Ds σ H) (PSs.ex fun q => hA q) (PSs.ex fun q => hB q)) fun Ds σ H h => ?_
    refine tS_bindT h fun d F1 H1 ed rf h1 => ?_
    cases d with
    | true => exact iteT ⟨ed, F1, rf, h1⟩
    | false => exact iteF ⟨ed, F1, rf, h1⟩
  refine PSs.imp (pss_cons one (PSs.ex fun t => hrest t)) fun Ds σ H h => ?_
  obtain ⟨F, rf, h⟩ := h
  refine ⟨F, rf, ?_⟩
  cases q : (rt.bindF fun q => if q = true then oA else oB) with
  | nx t =>
    rw [q] at h
    exact fun F' σ' H' r1 => ⟨t, F', r1, h⟩
  | rt d => rw [q] at h; exact h
  | bk t => rw [q] at h; exact h
  | ct t => rw [q] at h; exact h
  | ex c fs => rw [q] at h; exact h
  | no => rw [q] at h; exact h
/-- if c: A, where A leaves; rest -/
theorem b_ifr {c : Expr} {A : List Stmt} {rt : Res Bool} {oA : Fl β Empty} {oB : Fl β τ} (hc : PT X c (tT g b Γ rt)) (hA : rt = .ok true → PSs X A (tS g b Γb Γ oA (fun e => e.elim))) (hrest : rt = .ok false → PSs X rest (tS g b Γb Γ oB Γn)) :
    PSs X (.If c A [] pos :: rest) (tS g b Γb Γ (rt.bindF fun q => if q = true then oA.up else oB) Γn) := by
  refine PSs.imp (pss_cons (ps_if hc (t := fun Ds σ H => ∃ q : rt = .ok true, tS g b Γb Γ oA (fun e => e.elim) Ds σ H) (PSs.ex fun q => hA q) pss_nil) (PSs.ex fun q => hrest q)) fun Ds σ H h => ?_
  refine tS_bindT h fun d F1 H1 ed rf h1 => ?_
  cases d with
  | true =>
    refine iteT ⟨ed, F1, rf, ?_⟩
    have h1 : EndS g b Γb Γn (oA.up) Ds := h1
    cases oA with
    | nx t => exact t.elim
    | rt d => exact h1
    | bk t => exact h1
    | ct t => exact h1
    | ex c fs => exact h1
    | no => exact h1
  | false => exact iteF ⟨ed, F1, rf, h1⟩
end
end Mi
/-! Mi5: what is walked; for, comprehensions, while, by data. -/
namespace Mi
open L2 PySem PySem.Spec PyProof.Rows
/-- the iterator J yields the data xs, one by one, as long as the view has grown out of F -/
structure Walks (g : Gm) (J : It) (F : Hp) (xs : List D) : Prop where
  go : ∀ (i : Nat) (F' H' : Hp), Sub F F' → Sub F' H' → i < xs.length → J.go i H' ∧ ∀ x H'', J.yld i H' x H'' → H'' = H' ∧ ∃ d, xs[i]? = some d ∧ Enc g F' x d
  stop : ∀ (F' H' : Hp), Sub F F' → Sub F' H' → J.stop xs.length H'
/-- what stands behind «in»: the data that it yields -/
structure Src (X : Cx) (g : Gm) (b : Bs) (Γ : Ctx) (tg iter : Expr) (rx : Res (List D)) : Prop where
  ex : ∃ wi, PI X tg iter wi ∧ ∀ (σ : L2.St) (H : Hp) (R : It → Hp → Prop), (∃ F, Rf g b Γ F σ H ∧ match rx with
    | .ok xs => ∀ J F' H', Grow F H F' H' → Walks g J F' xs → R J H'
    | .ex c fs => ∀ cls od F' H', Grow F H F' H' → Rf g b b.cx F' σ H' → ExOk g c fs cls od F' → b.W cls od σ H'
    | .no => False) → wi σ H R
section
variable {X : Cx} {g : Gm} {b : Bs} {Γ : Ctx} {F : Hp} {σ : L2.St} {H : Hp} {tg e e1 e2 iter : Expr} {es : List Expr} {pos p : Pos} {r ra rb : Res D} {rx : Res (List D)} {x : Str}
theorem walks_list {K : PySem.W.Frag} {a : Addr} {vs : List V} {xs : List D} (h : F a = some (.lst vs)) (en : EncL g F vs xs) : Walks g (Itl K a) F xs where
  go := fun i F' H' s1 s2 hi => by
    have hq := SqL.of (K := K) (s2 _ _ (s1 _ _ h))
    obtain ⟨v, h1, h2⟩ := en.get (List.getElem?_eq_getElem hi)
    refine ⟨⟨vs, v, hq, h1⟩, fun y H'' z => ⟨z.1, _, List.getElem?_eq_getElem hi, ?_⟩⟩
    have e2 := z.2 vs hq
    rw [h1] at e2
    cases e2
    exact h2.mono s1
  stop := fun F' H' s1 s2 => ⟨vs, SqL.of (s2 _ _ (s1 _ _ h)), by rw [en.len]; exact Nat.le_refl _⟩
theorem walks_tup {K : PySem.W.Frag} {a : Addr} {vs : List V} {xs : List D} (h : SqT K F a vs) (en : EncL g F vs xs) : Walks g (Itt K a) F xs where
  go := fun i F' H' s1 s2 hi => by
    have hq := (s1.trans s2).sqT h
    obtain ⟨v, h1, h2⟩ := en.get (List.getElem?_eq_getElem hi)
    refine ⟨⟨vs, v, hq, h1⟩, fun y H'' z => ⟨z.1, _, List.getElem?_eq_getElem hi, ?_⟩⟩
    have e2 := z.2 vs hq
    rw [h1] at e2
    cases e2
    exact h2.mono s1
  stop := fun F' H' s1 s2 => ⟨vs, (s1.trans s2).sqT h, by rw [en.len]; exact Nat.le_refl _⟩
/-- the rngL lo, lo + 1, .., n of them -/
def rngL (lo : Int) (n : Nat) : List D := (List.range n).map fun k => .int (lo + ((k : Nat) : Int))
theorem rngL_len (lo : Int) (n : Nat) : (rngL lo n).length = n := by simp [rngL]
theorem rngL_get {lo : Int} {n i : Nat} (h : i < n) : (rngL lo n)[i]? = some (.int (lo + (i : Int))) := by
  simp [rngL, h]
theorem walks_range (lo : Int) (n : Nat) : Walks g (Itr lo n) F (rngL lo n) where
  go := fun i F' H' s1 s2 hi => by
    rw [rngL_len] at hi
    refine ⟨hi, fun y H'' z => ⟨z.1, _, rngL_get hi, ?_⟩⟩
    rw [z.2]
    exact .int _
  stop := fun F' H' s1 s2 => by
    rw [rngL_len]
    exact Nat.le_refl _
def chars (z : Str) : List D := z.cps.toList.map fun c => .str ⟨#[c]⟩
theorem walks_str (z : Str) : Walks g (Its z) F (chars z) where
  go := fun i F' H' s1 s2 hi => by
    have hi : i < z.cps.size := by simpa [chars] using hi
    refine ⟨hi, fun y H'' q => ⟨q.1, ?_⟩⟩
    obtain ⟨c, h1, h2⟩ := q.2
    refine ⟨.str ⟨#[c]⟩, ?_, by rw [h2]; exact .str _⟩
    have h3 : z.cps.toList[i]? = some c := by simpa using h1
    simp [chars, h3]
  stop := fun F' H' s1 s2 => by
    show z.cps.size ≤ _
    simp [chars]
/-- the data that a value yields: a list's, a tuple's items, a text's signs -/
def itemsD : D → Option (List D)
  | .list xs => some xs
  | .tuple xs => some xs
  | .str z => some (chars z)
  | _ => none
theorem src_val (he : PE X e (tE g b Γ ra)) (hK : X.K = g.K := by rfl) : Src X g b Γ tg e (ra.bind fun d => ofO (itemsD d)) := by
  have lst : ∀ (σ : L2.St) (H : Hp) (R : It → Hp → Prop), (∀ xs, ra ≠ .ok (.tuple xs)) → (∀ z, ra ≠ .ok (.str z)) → (∃ F, Rf g b Γ F σ H ∧ match (ra.bind fun d => ofO (itemsD d)) with
    | .ok xs => ∀ J F' H', Grow F H F' H' → Walks g J F' xs → R J H'
    | .ex c fs => ∀ cls od F' H', Grow F H F' H' → Rf g b b.cx F' σ H' → ExOk g c fs cls od F' → b.W cls od σ H'
    | .no => False) → iList X.K (tE g b Γ ra) σ H R := by
    intro σ H R nt ns h
    obtain ⟨F, rf, h⟩ := h
    refine ⟨F, rf, ?_⟩
    cases ra with
    | ok d =>
      intro v F' H' gr en
      cases en with
      | lst h1 k1 => exact ⟨_, rfl, ⟨_, SqL.of (gr.fh _ _ h1)⟩, h (Itl X.K _) F' H' gr (walks_list h1 k1)⟩
      | tup _ _ => exact absurd rfl (nt _)
      | str _ => exact absurd rfl (ns _)
      | _ => exact h.elim
    | ex c fs => exact h
    | no => exact h
  cases hra : ra with
  | ok d =>
    cases d with
    | tuple xs =>
      refine ⟨_, pi_tup (hra ▸ he), fun σ H R h => ?_⟩
      obtain ⟨F, rf, h⟩ := h
      refine ⟨F, rf, fun v F' H' gr en => ?_⟩
      cases en with
      | tup h1 k1 => exact ⟨_, rfl, ⟨_, hK ▸ (gr.fh.tupX h1).sqT⟩, h (Itt X.K _) F' H' gr (walks_tup (hK ▸ h1.sqT) k1)⟩
    | str z =>
      refine ⟨_, pi_str (hra ▸ he), fun σ H R h => ?_⟩
      obtain ⟨F, rf, h⟩ := h
      refine ⟨F, rf, fun v F' H' gr en => ?_⟩
      cases en
      exact ⟨z, rfl, h (Its z) F' H' gr (walks_str z)⟩
    | _ => exact ⟨_, pi_list (hra ▸ he), fun σ H R h => by
        have := lst σ H R (by rw [hra]; intro _ z; cases z) (by rw [hra]; intro _ z; cases z)
        rw [hra] at this
        exact this h⟩
  | ex c fs => exact ⟨_, pi_list (hra ▸ he), fun σ H R h => by
      have := lst σ H R (by rw [hra]; intro _ z; cases z) (by rw [hra]; intro _ z; cases z)
      rw [hra] at this
      exact this h⟩
  | no => exact ⟨_, pi_list (hra ▸ he), fun σ H R h => by
      have := lst σ H R (by rw [hra]; intro _ z; cases z) (by rw [hra]; intro _ z; cases z)
      rw [hra] at this
      exact this h⟩
/-- range(n), range(a, b) -/
def rng1 : D → Option (List D)
  | .int n => if n < 2 ^ 62 ∧ -(2 ^ 62) ≤ n then some (rngL 0 n.toNat) else none
  | _ => none
def rng2 : D → D → Option (List D)
  | .int a, .int b => if (-(2 ^ 62) ≤ a ∧ a < 2 ^ 62) ∧ -(2 ^ 62) ≤ b ∧ b < 2 ^ 62 then some (rngL a (b - a).toNat) else none
  | _, _ => none
theorem src_range1 (ha : PE X e1 (tE g b Γ ra)) (hm : X.mg "range" = none) (hg : Gl X "range" := by rfl) (hs : starEach [e1] X.env = [(false, eval e1 X.env)] := by rfl) (hs2 : starEach [e1] X.env = (false, eval e1 X.env) :: starEach [] X.env := by rfl) :
    Src X g b Γ tg (.Call (.Name "range" p) [e1] [] pos) (ra.bind fun d => ofO (rng1 d)) := by
  refine ⟨_, pi_range1 hg hm (pa_cons ha pa_nil hs2) hs, fun σ H R h => ?_⟩
  obtain ⟨F, rf, h⟩ := h
  refine ⟨F, rf, ?_⟩
  cases ra with
  | ok d =>
    intro v F' H' gr en
    cases en with
    | int n =>
      by_cases hc : n < 2 ^ 62 ∧ -(2 ^ 62) ≤ n
      · have e : rng1 (.int n) = some (rngL 0 n.toNat) := if_pos hc
        refine ⟨n, rfl, hc.2, hc.1, ?_⟩
        have h2 : match (ofO (rng1 (.int n)) : Res (List D)) with
          | .ok xs => ∀ J F' H', Grow F H F' H' → Walks g J F' xs → R J H'
          | .ex c fs => ∀ cls od F' H', Grow F H F' H' → Rf g b b.cx F' σ H' → ExOk g c fs cls od F' → b.W cls od σ H'
          | .no => False := h
        rw [e] at h2
        exact h2 _ F' H' gr (walks_range 0 n.toNat)
      · have e : rng1 (.int n) = none := if_neg hc
        have h2 : match (ofO (rng1 (.int n)) : Res (List D)) with
          | .ok xs => ∀ J F' H', Grow F H F' H' → Walks g J F' xs → R J H'
          | .ex c fs => ∀ cls od F' H', Grow F H F' H' → Rf g b b.cx F' σ H' → ExOk g c fs cls od F' → b.W cls od σ H'
          | .no => False := h
        rw [e] at h2
        exact h2.elim
    | _ => exact h.elim
  | ex c fs => exact h
  | no => exact h
theorem src_range2 (ha : PE X e1 (tE g b Γ ra)) (hb : PE X e2 (tE g b Γ rb)) (hm : X.mg "range" = none) (hg : Gl X "range" := by rfl) (hs : starEach [e1, e2] X.env = [(false, eval e1 X.env), (false, eval e2 X.env)] := by rfl) (hs2 : starEach [e2] X.env = [(false, eval e2 X.env)] := by rfl)
    (hs3 : starEach [e1, e2] X.env = (false, eval e1 X.env) :: starEach [e2] X.env := by rfl) (hs4 : starEach [e2] X.env = (false, eval e2 X.env) :: starEach [] X.env := by rfl) :
    Src X g b Γ tg (.Call (.Name "range" p) [e1, e2] [] pos) (ra.bind fun d => rb.bind fun c => ofO (rng2 d c)) := by
  refine ⟨_, pi_range2 hg hm (pa_cons ha (pa_cons hb pa_nil hs4) hs3) hs hs2, fun σ H R h => ?_⟩
  obtain ⟨F, rf, h⟩ := h
  refine ⟨F, rf, ?_⟩
  cases ra with
  | ok d =>
    intro v F' H' gr en
    refine ⟨F', rf.grow gr, ?_⟩
    cases rb with
    | ok c =>
      intro w F2 H2 gr2 en2
      have h2 : match (ofO (rng2 d c) : Res (List D)) with
        | .ok xs => ∀ J F' H', Grow F H F' H' → Walks g J F' xs → R J H'
        | .ex c fs => ∀ cls od F' H', Grow F H F' H' → Rf g b b.cx F' σ H' → ExOk g c fs cls od F' → b.W cls od σ H'
        | .no => False := h
      cases en with
      | int n =>
        cases en2 with
        | int m =>
          by_cases hc : (-(2 ^ 62) ≤ n ∧ n < 2 ^ 62) ∧ -(2 ^ 62) ≤ m ∧ m < 2 ^ 62
          · have e : rng2 (.int n) (.int m) = some (rngL n (m - n).toNat) := if_pos hc
            rw [e] at h2
            exact ⟨n, m, rfl, ⟨hc.1.1, hc.1.2, hc.2.1, hc.2.2⟩, h2 _ F2 H2 (gr.trans gr2) (walks_range n (m - n).toNat)⟩
          · have e : rng2 (.int n) (.int m) = none := if_neg hc
            rw [e] at h2
            exact h2.elim
        | _ => exact h2.elim
      | _ => cases c <;> exact h2.elim
    | ex c fs => exact ex_go gr h
    | no => exact h
  | ex c fs => exact h
  | no => exact h

/-! ### for -/
def loopF {β τ : Type} : List D → τ → (D → τ → Fl τ τ) → Fl β τ
  | [], t, _ => .nx t
  | x :: xs, t, f => match f x t with
    | .nx t' => loopF xs t' f
    | .ct t' => loopF xs t' f
    | .bk t' => .nx t'
    | .rt d => .rt d
    | .ex c fs => .ex c fs
    | .no => .no
/-- the block's view at a loop's start -/
abbrev Bs.at_ (b : Bs) (F1 : Hp) : Bs := { b with F0 := F1 }
theorem Grow.base {F0 H0 F1 H1 F' H' : Hp} (a : Grow F0 H0 F1 H1) (c : Grow F1 H0 F' H') : Grow F0 H0 F' H' :=
  ⟨a.ff.trans c.ff, c.fh, c.hh, fun z h1 h2 => c.new z h1 (a.new z h1 h2)⟩
theorem Rf.down {F1 : Hp} (r : Rf g b Γ F σ H) : Rf g (b.at_ F) Γ F σ H := ⟨⟨Sub.refl _, r.gr.fh, r.gr.hh, fun _ _ z => z⟩, r.le, r.at_, r.sep⟩
theorem Rf.up {F1 H1 : Hp} {Δ : Ctx} {F' H' : Hp} {σ' : L2.St} (r : Rf g (b.at_ F1) Δ F' σ' H') (gr : Grow b.F0 b.H0 F1 H1) : Rf g b Δ F' σ' H' := ⟨gr.base r.gr, r.le, r.at_, r.sep⟩
/-- .. where the slots' number is known -/
theorem PG.impI {tg : Expr} {t : TG} (h : PG X tg t) : PG X tg (fun v σ H Q => σ.length = X.N.length → t v σ H Q) := ⟨fun pins s σ H v u Q I r q => h.run pins s σ H v u Q I r (q I.len)⟩
variable {β τ υ : Type} {Γb : β → Ctx} {Γn : υ → Ctx} {rest body : List Stmt}
/-- for x in e: body; rest -/
theorem b_for {i : Nat} {py : Pos} {t0 : τ} {Γh : τ → Ctx} {f : D → τ → Fl τ τ} {k : τ → Fl β υ} (hS : Src X g b Γ (.Name x py) iter rx)
    (hbody : ∀ (F1 : Hp) (d : D) (t : τ), PSs X body (tS g (b.at_ F1) Γh ((Γh t).set i (some (.v d))) (f d t) Γh)) (hrest : ∀ t, PSs X rest (tS g b Γb (Γh t) (k t) Γn))
    (hp : PassesOwn (model X.prog X.w) X.A X.env X.xe) (hN : X.N.Nodup)
    (h0 : Le (Γh t0) Γ := by repeat (first | exact Le.nil | apply Le.same | apply Le.none)) (hcx : ∀ t, Le b.cx (Γh t) := by intro _; repeat (first | exact Le.nil | apply Le.same | apply Le.none)) (hc0 : (b.cx[i]?).join = none := by rfl)
    (hi : X.N[i]? = some x := by rfl) (hx : Loc X.env.scope x := by first | exact Or.inl rfl | exact Or.inr rfl) (hf : X.fn x = true ∨ X.env.scope.names.lookup x = some .local := by first | exact .inl rfl | exact .inr rfl)
    (hc : X.calm = true := by rfl) (hs : ∀ x, foldedSetIterable iter X.env x = pure x := by intro _; rfl) :
    PSs X (.For (.Name x py) iter body [] pos :: rest) (tS g b Γb Γ (rx.bindF fun xs => (loopF xs t0 f).bind k) Γn) := by
  obtain ⟨wi, hw, hr⟩ := hS.ex
  refine PSs.impI (pss_cons (ps_for (tb := fun Ds σ H => ∃ (F1 : Hp) (d : D) (t : τ), tS g (b.at_ F1) Γh ((Γh t).set i (some (.v d))) (f d t) Γh Ds σ H) hp hc hw (PG.impI (pg_name hN hi hx hf)) (PSs.ex fun F1 => PSs.ex fun d => PSs.ex fun t => hbody F1 d t) hs) (PSs.ex fun t => hrest t)) fun Ds σ H hl h => ?_
  obtain ⟨F, rf, h⟩ := h
  have hiN := (List.getElem?_eq_some_iff.mp hi).1
  refine hr σ H _ ⟨F, rf, ?_⟩
  cases rx with
  | no => exact h
  | ex c fs => exact fun cls od F' H' gr r1 ok => h cls od F' σ H' r1 ok
  | ok xs =>
    intro J Fs Hs gr wk
    have rs := rf.grow gr
    have h : EndS g b Γb Γn ((loopF xs t0 f).bind k) Ds := h
    -- the invariant by the turn
    refine ⟨fun j m σ' H' => m = xs.length - j ∧ j ≤ xs.length ∧ ∃ t F', Rf g (b.at_ Fs) (Γh t) F' σ' H' ∧ (loopF (xs.drop j) t f : Fl β τ) = loopF xs t0 f, ⟨xs.length, by simp, Nat.zero_le _, t0, Fs, (rs.down (F1 := Fs)).weak h0 (hcx t0), by rw [List.drop_zero]⟩, ?_⟩
    rintro j m σ' H' ⟨rfl, hj, t, F', r1, eL⟩
    by_cases hlt : j < xs.length
    · obtain ⟨hgo, hy⟩ := wk.go j F' H' r1.gr.ff r1.gr.fh hlt
      refine .inr ⟨hgo, fun σ2 H2 => ∃ t F', Rf g (b.at_ Fs) (Γh t) F' σ2 H2 ∧ (loopF (xs.drop (j + 1)) t f : Fl β τ) = loopF xs t0 f, fun σ2 H2 q => ⟨xs.length - (j + 1), by omega, rfl, hlt, q⟩, fun v H'' hv hl' => ?_⟩
      obtain ⟨rfl, d, hd, en⟩ := hy v H'' hv
      have dr : xs.drop j = d :: xs.drop (j + 1) := by
        rw [List.drop_eq_getElem_cons hlt]
        have e2 := List.getElem?_eq_getElem hlt
        rw [e2] at hd
        rw [Option.some.inj hd]
      refine ⟨Fs, d, t, F', r1.setv en hc0 (by rw [hl']; exact hiN), ?_⟩
      have eL2 : (loopF (d :: xs.drop (j + 1)) t f : Fl β τ) = loopF xs t0 f := by rw [← dr]; exact eL
      rw [loopF] at eL2
      cases ef : f d t with
      | nx t' =>
        rw [ef] at eL2
        exact fun F2 σ2 H2 r2 => ⟨t', F2, r2, eL2⟩
      | ct t' =>
        rw [ef] at eL2
        exact fun F2 σ2 H2 r2 => ⟨t', F2, r2, eL2⟩
      | bk t' =>
        rw [ef] at eL2
        have e2 : (.nx t' : Fl β τ) = loopF xs t0 f := eL2
        rw [← e2] at h
        exact fun F2 σ2 H2 r2 => ⟨t', F2, r2.up rs.gr, h⟩
      | rt d2 =>
        rw [ef] at eL2
        have e2 : (.rt d2 : Fl β τ) = loopF xs t0 f := eL2
        rw [← e2] at h
        exact fun v F2 H2 gr2 en2 => h v F2 H2 (rs.gr.base gr2) en2
      | ex c fs =>
        rw [ef] at eL2
        have e2 : (.ex c fs : Fl β τ) = loopF xs t0 f := eL2
        rw [← e2] at h
        exact fun cls od F2 σ2 H2 r2 ok => h cls od F2 σ2 H2 (r2.up rs.gr) ok
      | no =>
        rw [ef] at eL2
        have e2 : (.no : Fl β τ) = loopF xs t0 f := eL2
        rw [← e2] at h
        exact h
    · have ej : j = xs.length := by omega
      subst ej
      refine .inl ⟨wk.stop F' H' r1.gr.ff r1.gr.fh, t, F', r1.up rs.gr, ?_⟩
      rw [List.drop_length] at eL
      have e2 : (.nx t : Fl β τ) = loopF xs t0 f := eL
      rw [← e2] at h
      exact h
end
end Mi
/-! Mi6: list comprehensions, by data. -/
namespace Mi
open L2 PySem PySem.Spec PyProof.Rows
/-- the slots of a block's own names say nothing within it -/
def wipeC (Γ : Ctx) : List Nat → Ctx
  | [] => Γ
  | v :: vs => (wipeC Γ vs).set v none
theorem wipeC_get {Γ : Ctx} {i : Nat} {bd : Bnd} : ∀ {vs : List Nat}, (wipeC Γ vs)[i]? = some (some bd) → Γ[i]? = some (some bd) ∧ i ∉ vs
  | [], h => ⟨h, by simp⟩
  | v :: vs, h => by
    rcases set_get (show ((wipeC Γ vs).set v none)[i]? = some (some bd) from h) with ⟨_, e, _⟩ | ⟨ne, e⟩
    · cases e
    · obtain ⟨h1, h2⟩ := wipeC_get e
      exact ⟨h1, by simp only [List.mem_cons, not_or]; exact ⟨ne, h2⟩⟩
theorem wipe_set {σ : L2.St} {i : Nat} {o : Option V} : ∀ {vs : List Nat}, i ∈ vs → wipe ((wipe σ vs).set i o) vs = wipe σ vs := by
  have key : ∀ (vs : List Nat) (τ : L2.St) (j : Nat), (wipe τ vs)[j]? = if j ∈ vs ∧ j < τ.length then some none else τ[j]? := by
    intro vs
    induction vs with
    | nil => intro τ j; simp [wipe]
    | cons v vs ih =>
      intro τ j
      show ((wipe τ vs).set v none)[j]? = _
      rw [List.getElem?_set, wipe_length, ih]
      by_cases hv : v = j
      · subst hv
        by_cases hl : v < τ.length
        · simp [hl]
        · simp [hl]
      · have : ¬ j = v := fun z => hv z.symm
        simp [hv, this]
  intro vs hi
  apply List.ext_getElem?
  intro j
  rw [key, key, List.length_set, wipe_length, List.getElem?_set, wipe_length, key]
  by_cases hj : j ∈ vs
  · by_cases hl : j < σ.length
    · simp [hj, hl]
    · simp [hj, hl]
      omega
  · have ne : i ≠ j := fun z => hj (z ▸ hi)
    simp [hj, ne]
abbrev Bs.blk (b : Bs) : Bs := { b with cx := [], W := fun _ _ _ _ => False }
section
variable {X : Cx} {g : Gm} {b : Bs} {Γ : Ctx} {F : Hp} {σ : L2.St} {H : Hp} {tg e e1 e2 iter elt : Expr} {es ifs : List Expr} {pos p : Pos} {r ra rb : Res D} {rx : Res (List D)} {x : Str} {rt : Res Bool}
theorem Rf.blk (r : Rf g b Γ F σ H) (vs : List Nat) : Rf g b.blk (wipeC Γ vs) F (wipe σ vs) H := by
  refine ⟨r.gr, .nil, fun i bd e => ?_, fun i j a xs ys h1 h2 h3 h4 => ?_⟩
  · obtain ⟨e1, e2⟩ := wipeC_get e
    obtain ⟨ov, k1, k2⟩ := r.at_ i bd e1
    exact ⟨ov, by rw [wipe_out e2]; exact k1, k2⟩
  · obtain ⟨a1, n1⟩ := wipeC_get h1
    obtain ⟨a2, n2⟩ := wipeC_get h2
    rw [wipe_out n1] at h3
    rw [wipe_out n2] at h4
    exact r.sep i j a xs ys a1 a2 h3 h4
theorem PTs.imp {t t' : TT} (h : PTs X ifs t) (k : ∀ σ H Q, t' σ H Q → t σ H Q) : PTs X ifs t' := ⟨fun pins s σ H Q I q => h.run pins s σ H Q I (k σ H Q q)⟩
theorem PTs.ex {α : Sort _} {t : α → TT} (h : ∀ a, PTs X ifs (t a)) : PTs X ifs (fun σ H Q => ∃ a, t a σ H Q) := ⟨fun pins s σ H Q I ⟨a, q⟩ => (h a).run pins s σ H Q I q⟩
theorem PE.ex {α : Sort _} {t : α → TE} (h : ∀ a, PE X e (t a)) : PE X e (fun σ H Q => ∃ a, t a σ H Q) := ⟨fun pins s σ H Q I ⟨a, q⟩ => (h a).run pins s σ H Q I q⟩
theorem p_nil : PTs X [] (tT g b Γ (.ok true)) := PTs.imp pts_nil fun σ H Q q => by
  obtain ⟨F, rf, p⟩ := q
  exact p F H (Grow.refl rf.gr.fh)
theorem p_one (h : PT X e (tT g b Γ rt)) : PTs X [e] (tT g b Γ rt) := pts_one h
/-- [f x for x in xs if c x] -/
def lcF : List D → (D → Res Bool) → (D → Res D) → Res (List D)
  | [], _, _ => .ok []
  | x :: xs, c, f => match c x with
    | .ok true => match f x with
      | .ok y => (lcF xs c f).bind fun ys => .ok (y :: ys)
      | _ => .no
    | .ok false => lcF xs c f
    | _ => .no
def lcC (xs : List D) (c : D → Res Bool) (f : D → Res D) : Res (List D) := if xs.length ≤ cap then lcF xs c f else .no
/-- the loop of a comprehension -/
theorem lc_go {i : Nat} {vs : List Nat} {c : D → Res Bool} {f : D → Res D} {xs : List D} {J : It} {Q : VK} {n : Nat} (rs : Rf g b Γ F σ H) (wk : Walks g J F xs) (hi : i ∈ vs) (hl : σ.length = n) (hn : i < n) (hz : xs.length ≤ cap)
    (hq : match lcF xs c f with
      | .ok ds => ∀ p us F' H', Grow F H F' H' → H p = none → F' p = none → H' p = some (.lst us) → EncL g F' us ds → Q (.ref p) H'
      | .ex _ _ => False
      | .no => False) (D : Addr) (hD : H D = none) :
    ∃ W : Nat → Nat → Hp → Prop, (∃ m, W 0 m (upd H D (.lst []))) ∧ ∀ j m H', W j m H' →
      (J.stop j H' ∧ Q (.ref D) H') ∨ (J.go j H' ∧ ∃ Nx : Hp → Prop, (∀ H', Nx H' → ∃ m', m' < m ∧ W (j + 1) m' H') ∧ ∀ y H'', J.yld j H' y H'' → gName i y (wipe σ vs) H'' fun σ2 H2 => wipe σ2 vs = wipe σ vs ∧
        (∃ d, tT g b.blk ((wipeC Γ vs).set i (some (.v d))) (c d) σ2 H2 fun k H3 =>
          if k = true then (∃ d, tE g b.blk ((wipeC Γ vs).set i (some (.v d))) (f d) σ2 H3 fun y H4 => ∃ acc, H4 D = some (.lst acc) ∧ acc.length < sizeLine ∧ Nx (upd H4 D (.lst (acc ++ [y])))) else Nx H3)) := by
  have D0 : b.H0 D = none := rs.gr.hh.free hD
  have DF : F D = none := rs.gr.fh.free hD
  -- what the rest comes to
  have step : ∀ (H' : Hp) (F' : Hp) (us : List V) (y : V) (dy : PyData) (ds : List PyData), Grow F H F' H' → F' D = none → H' D = some (.lst us) → EncL g F' us ds → Enc g F' y dy → Grow F H F' (upd H' D (.lst (us ++ [y]))) ∧ EncL g F' (us ++ [y]) (ds ++ [dy]) := fun H' F' us y dy ds gr h1 h2 en ey =>
    ⟨⟨gr.ff, gr.fh.mut h1, gr.hh.mut hD, gr.new⟩, en.app (.cons ey .nil)⟩
  refine ⟨fun j m H' => m = xs.length - j ∧ j ≤ xs.length ∧ ∃ (F' : Hp) (us : List V) (ds : List PyData), Grow F H F' H' ∧ F' D = none ∧ H' D = some (.lst us) ∧ EncL g F' us ds ∧ ds.length ≤ j ∧ ((lcF (xs.drop j) c f).bind fun es => .ok (ds ++ es)) = lcF xs c f, ⟨xs.length, by simp, Nat.zero_le _, F, [], [], ⟨Sub.refl _, rs.gr.fh.trans (Sub.new hD), Sub.new hD, fun _ _ z => z⟩, DF, upd_same, .nil, Nat.le_refl _, by
    rw [List.drop_zero]
    cases lcF xs c f <;> rfl⟩, ?_⟩
  rintro j m H' ⟨rfl, hj, F', us, ds, gr, hF, hH, en, hlen, eL⟩
  by_cases hlt : j < xs.length
  · obtain ⟨hgo, hy⟩ := wk.go j F' H' gr.ff gr.fh hlt
    refine .inr ⟨hgo, fun H2 => ∃ (F' : Hp) (us : List V) (ds : List PyData), Grow F H F' H2 ∧ F' D = none ∧ H2 D = some (.lst us) ∧ EncL g F' us ds ∧ ds.length ≤ j + 1 ∧ ((lcF (xs.drop (j + 1)) c f).bind fun es => .ok (ds ++ es)) = lcF xs c f, fun H2 q => ⟨xs.length - (j + 1), by omega, rfl, hlt, q⟩, fun v H'' hv => ?_⟩
    obtain ⟨rfl, d, hd, ev⟩ := hy v H'' hv
    have dr : xs.drop j = d :: xs.drop (j + 1) := by
      rw [List.drop_eq_getElem_cons hlt]
      have e2 := List.getElem?_eq_getElem hlt
      rw [e2] at hd
      rw [Option.some.inj hd]
    rw [dr, lcF] at eL
    refine ⟨wipe_set hi, d, F', ((rs.grow gr).blk vs).setv ev rfl (by rw [wipe_length, hl]; exact hn), ?_⟩
    have r2 := ((rs.grow gr).blk vs).setv ev (i := i) rfl (by rw [wipe_length, hl]; exact hn)
    cases ec : c d with
    | ok k =>
      rw [ec] at eL
      intro F2 H2 gr2
      have gF : Grow F H F2 H2 := gr.trans gr2
      have hF2 : F2 D = none := gr2.new D (by rw [hH]; simp) hF
      have hH2 : H2 D = some (.lst us) := gr2.hh _ _ hH
      cases k with
      | false => exact ⟨F2, us, ds, gF, hF2, hH2, en.mono gr2.ff, by omega, eL⟩
      | true =>
        refine ⟨d, F2, r2.grow gr2, ?_⟩
        cases ef : f d with
        | ok y =>
          have eL : (match f d with
            | .ok y => (lcF (xs.drop (j + 1)) c f).bind fun ys => .ok (y :: ys)
            | _ => .no).bind (fun es => .ok (ds ++ es)) = lcF xs c f := eL
          rw [ef] at eL
          intro w F3 H3 gr3 ew
          have hH3 := gr3.hh _ _ hH2
          have hF3 := gr3.new D (by rw [hH2]; simp) hF2
          obtain ⟨s1, s2⟩ := step H3 F3 us w y ds (gF.trans gr3) hF3 hH3 (en.mono (gr2.ff.trans gr3.ff)) ew
          refine ⟨us, hH3, cap_lt (by rw [en.len]; omega), F3, us ++ [w], ds ++ [y], s1, hF3, upd_same, s2, by simp; omega, ?_⟩
          rw [← eL]
          cases lcF (xs.drop (j + 1)) c f with
          | ok es => simp
          | ex _ _ => rfl
          | no => rfl
        | ex cn fs =>
          have eL : (match f d with
            | .ok y => (lcF (xs.drop (j + 1)) c f).bind fun ys => .ok (y :: ys)
            | _ => .no).bind (fun es => .ok (ds ++ es)) = lcF xs c f := eL
          rw [ef] at eL
          rw [← eL] at hq
          exact hq.elim
        | no =>
          have eL : (match f d with
            | .ok y => (lcF (xs.drop (j + 1)) c f).bind fun ys => .ok (y :: ys)
            | _ => .no).bind (fun es => .ok (ds ++ es)) = lcF xs c f := eL
          rw [ef] at eL
          rw [← eL] at hq
          exact hq.elim
    | ex cn fs =>
      rw [ec] at eL
      rw [← eL] at hq
      exact hq.elim
    | no =>
      rw [ec] at eL
      rw [← eL] at hq
      exact hq.elim
  · have ej : j = xs.length := by omega
    subst ej
    rw [List.drop_length] at eL
    have e2 : Res.ok (ds ++ []) = lcF xs c f := eL
    rw [← e2, List.append_nil] at hq
    exact .inl ⟨wk.stop F' H' gr.ff gr.fh, hq D us F' H' gr hD hF hH en⟩

variable {own : List (Str × Nat)} {i : Nat} {py : Pos} {scope : Scope} {c : D → Res Bool} {f : D → Res D}
/-- what a comprehension asks, from what is claimed of it -/
theorem lc_reads {wi : TI} {vs : List Nat} {Q : VK} (hi : i ∈ vs) (hn : i < X.N.length) (hl : σ.length = X.N.length)
    (hr : ∀ (σ : L2.St) (H : Hp) (R : It → Hp → Prop), (∃ F, Rf g b Γ F σ H ∧ match rx with
    | .ok xs => ∀ J F' H', Grow F H F' H' → Walks g J F' xs → R J H'
    | .ex c fs => ∀ cls od F' H', Grow F H F' H' → Rf g b b.cx F' σ H' → ExOk g c fs cls od F' → b.W cls od σ H'
    | .no => False) → wi σ H R) (h : PostN g b Γ F (rx.bind fun xs => lcC xs c f) σ H Q) :
    tLc wi (gName i) (fun σ H Q => ∃ d, tT g b.blk ((wipeC Γ vs).set i (some (.v d))) (c d) σ H Q) (fun σ H Q => ∃ d, tE g b.blk ((wipeC Γ vs).set i (some (.v d))) (f d) σ H Q) vs σ H Q := by
  refine hr σ H _ ⟨F, h.1, ?_⟩
  cases rx with
  | no => exact h.2
  | ex c fs => exact h.2
  | ok xs =>
    intro J F1 H1 gr wk D hD
    have h2 : match lcC xs c f with
      | .ok ds => ∀ p vs F' H', Grow F H F' H' → H p = none → F' p = none → H' p = some (.lst vs) → EncL g F' vs ds → Q (.ref p) H'
      | .ex c fs => ∀ cls od F' H', Grow F H F' H' → Rf g b b.cx F' σ H' → ExOk g c fs cls od F' → b.W cls od σ H'
      | .no => False := h.2
    unfold lcC at h2
    by_cases hz : xs.length ≤ cap
    · rw [if_pos hz] at h2
      refine lc_go (h.1.grow gr) wk hi hl hn hz ?_ D hD
      have nex : ∀ (ys : List PyData) (cn : Str) (fs : List PyData), lcF ys c f ≠ .ex cn fs := by
        intro ys
        induction ys with
        | nil => intro cn fs z; cases z
        | cons y ys ih =>
          intro cn fs z
          rw [lcF] at z
          cases ec : c y with
          | ok k =>
            rw [ec] at z
            cases k with
            | false => exact ih cn fs z
            | true =>
              cases ef : f y with
              | ok w =>
                have z : (match f y with
                  | .ok y => (lcF ys c f).bind fun ys => .ok (y :: ys)
                  | _ => .no) = Res.ex cn fs := z
                rw [ef] at z
                cases er : lcF ys c f with
                | ok es =>
                  have z : (lcF ys c f).bind (fun ys => .ok (w :: ys)) = Res.ex cn fs := z
                  rw [er] at z
                  cases z
                | ex cn' fs' => exact ih cn' fs' er
                | no =>
                  have z : (lcF ys c f).bind (fun ys => .ok (w :: ys)) = Res.ex cn fs := z
                  rw [er] at z
                  cases z
              | ex cn' fs' =>
                have z : (match f y with
                  | .ok y => (lcF ys c f).bind fun ys => .ok (y :: ys)
                  | _ => .no) = Res.ex cn fs := z
                rw [ef] at z
                cases z
              | no =>
                have z : (match f y with
                  | .ok y => (lcF ys c f).bind fun ys => .ok (y :: ys)
                  | _ => .no) = Res.ex cn fs := z
                rw [ef] at z
                cases z
          | ex cn' fs' =>
            rw [ec] at z
            cases z
          | no =>
            rw [ec] at z
            cases z
      cases er : lcF xs c f with
      | ok ds =>
        rw [er] at h2
        exact fun p us F' H' gr2 h3 h4 h5 h6 => h2 p us F' H' (gr.trans gr2) (gr.hh.free h3) h4 h5 h6
      | ex cn fs => exact absurd er (nex _ _ _)
      | no =>
        rw [er] at h2
        exact h2
    · rw [if_neg hz] at h2
      exact h2.elim
theorem n_lc (own : List (Str × Nat)) (hS : Src X g b Γ (.Name x py) iter rx)
    (ht : ∀ (s : Shared) (H : Hp) (C : Addr) (cl : List (Str × Addr)) (fp : List Addr) (d : D), PTs (X.blk s H scope (compEnvC scope cl C X.env) fp) ifs (tT g b.blk ((wipeC Γ (own.map (·.2))).set i (some (.v d))) (c d)))
    (he : ∀ (s : Shared) (H : Hp) (C : Addr) (cl : List (Str × Addr)) (fp : List Addr) (d : D), PE (X.blk s H scope (compEnvC scope cl C X.env) fp) elt (tE g b.blk ((wipeC Γ (own.map (·.2))).set i (some (.v d))) (f d))) (hN : X.N.Nodup)
    (hc : X.calm = true := by rfl) (ok : blkC X.N X.env.scope scope own = true := by kernel_rfl) (hi : X.N[i]? = some x := by rfl) (hm : i ∈ own.map (·.2) := by decide)
    (hx : ∀ (s : Shared) (H : Hp) (C : Addr) (cl : List (Str × Addr)) (fp : List Addr), Loc (X.blk s H scope (compEnvC scope cl C X.env) fp).env.scope x := by intro _ _ _ _ _; first | exact Or.inl rfl | exact Or.inr rfl)
    (hf : ∀ (s : Shared) (H : Hp) (C : Addr) (cl : List (Str × Addr)) (fp : List Addr), (X.blk s H scope (compEnvC scope cl C X.env) fp).fn x = true ∨ (X.blk s H scope (compEnvC scope cl C X.env) fp).env.scope.names.lookup x = some .local := by intro _ _ _ _ _; first | exact .inl rfl | exact .inr rfl)
    (hs : ∀ x, foldedSetIterable iter X.env x = pure x := by intro _; rfl) :
    PE X (.ListComp elt [⟨.Name x py, iter, ifs, 0⟩] scope pos) (tN g b Γ (rx.bind fun xs => lcC xs c f)) := by
  obtain ⟨wi, hw, hr⟩ := hS.ex
  have pe := pe_lc (pos := pos) hc hN hw (blkOk_by ok) (g := gName i) (tt := fun σ H Q => ∃ d, tT g b.blk ((wipeC Γ (own.map (·.2))).set i (some (.v d))) (c d) σ H Q) (te := fun σ H Q => ∃ d, tE g b.blk ((wipeC Γ (own.map (·.2))).set i (some (.v d))) (f d) σ H Q)
    (fun s H C cl fp => pg_name hN hi (hx s H C cl fp) (hf s H C cl fp)) (fun s H C cl fp => PTs.ex fun d => ht s H C cl fp d) (fun s H C cl fp => PE.ex fun d => he s H C cl fp d) hs
  refine ⟨fun pins s σ H Q I h => pe.run pins s σ H Q I ?_⟩
  obtain ⟨F, h⟩ := h
  exact lc_reads hm (List.getElem?_eq_some_iff.mp hi).1 I.len hr h
variable {β τ υ : Type} {Γb : β → Ctx} {Γn : τ → Ctx} {rest : List Stmt} {y : Str} {k : List D → Fl β τ} {i2 : Nat} {py2 spos : Pos}
/-- y = [..], y a plain local -/
theorem b_setLc (own : List (Str × Nat)) (hS : Src X g b Γ (.Name x py) iter rx)
    (ht : ∀ (s : Shared) (H : Hp) (C : Addr) (cl : List (Str × Addr)) (fp : List Addr) (d : D), PTs (X.blk s H scope (compEnvC scope cl C X.env) fp) ifs (tT g b.blk ((wipeC Γ (own.map (·.2))).set i (some (.v d))) (c d)))
    (he : ∀ (s : Shared) (H : Hp) (C : Addr) (cl : List (Str × Addr)) (fp : List Addr) (d : D), PE (X.blk s H scope (compEnvC scope cl C X.env) fp) elt (tE g b.blk ((wipeC Γ (own.map (·.2))).set i (some (.v d))) (f d)))
    (hrest : ∀ ds, PSs X rest (tS g b Γb (Γ.set i2 (some (.l ds))) (k ds) Γn)) (hN : X.N.Nodup)
    (hy : X.N[i2]? = some y := by rfl) (hyl : X.env.scope.names.lookup y = some .local := by rfl) (hcx : (b.cx[i2]?).join = none := by rfl) (hsw : swapsWith (.ListComp elt [⟨.Name x py, iter, ifs, 0⟩] scope pos) (some (.Name y py2)) spos.line X.env = pure true := by rfl)
    (hc : X.calm = true := by rfl) (ok : blkC X.N X.env.scope scope own = true := by kernel_rfl) (hi : X.N[i]? = some x := by rfl) (hm : i ∈ own.map (·.2) := by decide)
    (hx : ∀ (s : Shared) (H : Hp) (C : Addr) (cl : List (Str × Addr)) (fp : List Addr), Loc (X.blk s H scope (compEnvC scope cl C X.env) fp).env.scope x := by intro _ _ _ _ _; first | exact Or.inl rfl | exact Or.inr rfl)
    (hf : ∀ (s : Shared) (H : Hp) (C : Addr) (cl : List (Str × Addr)) (fp : List Addr), (X.blk s H scope (compEnvC scope cl C X.env) fp).fn x = true ∨ (X.blk s H scope (compEnvC scope cl C X.env) fp).env.scope.names.lookup x = some .local := by intro _ _ _ _ _; first | exact .inl rfl | exact .inr rfl)
    (hs : ∀ x, foldedSetIterable iter X.env x = pure x := by intro _; rfl) :
    PSs X (.Assign [.Name y py2] (.ListComp elt [⟨.Name x py, iter, ifs, 0⟩] scope pos) spos :: rest) (tS g b Γb Γ ((rx.bind fun xs => lcC xs c f).bindF k) Γn) := by
  obtain ⟨wi, hw, hr⟩ := hS.ex
  refine PSs.impI (pss_cons (ps_setLc hc hN hy hyl hsw hw (blkOk_by ok) (g := gName i) (tt := fun σ H Q => ∃ d, tT g b.blk ((wipeC Γ (own.map (·.2))).set i (some (.v d))) (c d) σ H Q) (te := fun σ H Q => ∃ d, tE g b.blk ((wipeC Γ (own.map (·.2))).set i (some (.v d))) (f d) σ H Q)
    (fun s H C cl fp => pg_name hN hi (hx s H C cl fp) (hf s H C cl fp)) (fun s H C cl fp => PTs.ex fun d => ht s H C cl fp d) (fun s H C cl fp => PE.ex fun d => he s H C cl fp d) hs) (PSs.ex fun ds => hrest ds)) fun Ds σ H hl h => ?_
  have h2 := tS_bindN (K := fun v H1 => gName i2 v σ H1 fun σ' H' => ∃ ds, tS g b Γb (Γ.set i2 (some (.l ds))) (k ds) Γn Ds σ' H') h fun ds p vs F1 H1 _ rf1 a1 a2 a3 a4 a5 a6 => ⟨ds, F1, rf1.setl a4 a1 a2 a3 (fun j ys _ hj => a5 j ys hj) hcx (by rw [hl]; exact (List.getElem?_eq_some_iff.mp hy).1), a6⟩
  obtain ⟨F, h2⟩ := h2
  exact lc_reads hm (List.getElem?_eq_some_iff.mp hi).1 hl hr h2
end
end Mi
/-! Mi7: instances that are made, own errors, the promise of a def and of a class. -/
namespace Mi
open L2 PySem PySem.Spec PyProof.Rows

/-! ### an instance that is being made -/
def noO : Option Bnd → Bool
  | some (.o _ _ _) => false
  | _ => true
theorem noO_at {Γ : Ctx} {i j : Nat} (h : (Γ.set i none).all noO = true) (ne : j ≠ i) {a : Addr} {c : Str} {kvs : List (D × D)} : Γ[j]? ≠ some (some (.o a c kvs)) := fun z => by
  have h2 : (Γ.set i none)[j]? = some (some (.o a c kvs)) := by
    rw [List.getElem?_set_ne (Ne.symm ne)]
    exact z
  have h3 := List.all_eq_true.mp h _ (List.mem_of_getElem? h2)
  cases h3
section
variable {g : Gm} {b : Bs} {Γ : Ctx} {F H H' : Hp} {σ : L2.St}
theorem Rf.puto (r : Rf g b Γ F σ H) {i : Nat} {a dx : Addr} {c : Str} {kvs kvs' : List (D × D)} {ci : CI} {ns ns' : List Str} {vs vs' : List V} (hx : Γ[i]? = some (some (.o a c kvs))) (hu : (Γ.set i none).all noO = true) (hc : (b.cx[i]?).join = none)
    (hci : g.ci c = some ci) (fa : F a = none) (fd : F dx = none) (ha : b.H0 a = none) (hd : b.H0 dx = none) (ne : dx ≠ a) (ob : ObjAt ci H a dx ns vs) (same : ∀ z, z ≠ a → z ≠ dx → H' z = H z) (ob' : ObjAt ci H' a dx ns' vs') (en : EncF g F ns' vs' kvs') :
    Rf g b (Γ.set i (some (.o a c kvs'))) F σ H' := by
  have sub : ∀ {G : Hp}, Sub G H → G a = none → G dx = none → Sub G H' := fun s n1 n2 z u e => by
    have z1 : z ≠ a := fun q => by
      rw [q, n1] at e
      cases e
    have z2 : z ≠ dx := fun q => by
      rw [q, n2] at e
      cases e
    rw [same z z1 z2]
    exact s _ _ e
  refine ⟨⟨r.gr.ff, sub r.gr.fh fa fd, sub r.gr.hh ha hd, r.gr.new⟩, r.le.setr hc, fun j bd e => ?_, fun j k z us ys h1 h2 h3 h4 => ?_⟩
  · rcases set_get e with ⟨rfl, e2, _⟩ | ⟨nj, e2⟩
    · cases e2
      obtain ⟨ov, k1, k2⟩ := r.at_ j _ hx
      refine ⟨ov, k1, ?_⟩
      cases ov with
      | none => exact k2
      | some v =>
        cases v with
        | ref a1 =>
          obtain ⟨e0, _⟩ := k2
          subst e0
          exact ⟨rfl, ci, dx, ns', vs', hci, fa, fd, ha, hd, ne, en, ob'⟩
        | _ => exact k2
    · obtain ⟨ov, k1, k2⟩ := r.at_ j bd e2
      refine ⟨ov, k1, ?_⟩
      cases ov with
      | none => exact k2
      | some v =>
        cases bd with
        | v d => exact k2
        | l us =>
          cases v with
          | ref z =>
            obtain ⟨q1, q2, ws, q3, q4⟩ := k2
            obtain ⟨n1, n2⟩ := ob.noL q3
            exact ⟨q1, q2, ws, by rw [same z n1 n2]; exact q3, q4⟩
          | _ => exact k2
        | o a2 c2 kvs2 => exact absurd e2 (noO_at hu nj)
        | x a2 => cases v <;> exact k2
  · rcases set_get h1 with ⟨_, e2, _⟩ | ⟨n1, e1⟩
    · cases e2
    · rcases set_get h2 with ⟨_, e2, _⟩ | ⟨n2, e2⟩
      · cases e2
      · exact r.sep j k z us ys e1 e2 h3 h4
theorem EncF.snoc : ∀ {ns : List Str} {vs : List V} {kvs : List (D × D)} {f : Str} {v : V} {d : D}, EncF g F ns vs kvs → Enc g F v d → EncF g F (ns ++ [f]) (vs ++ [v]) (kvs ++ [(.str f, d)])
  | _, _, _, _, _, _, .nil, h => .cons h .nil
  | _, _, _, _, _, _, .cons q k, h => .cons q (EncF.snoc k h)
/-- what names the fields stored so far bear -/
def keysF : List (D × D) → List Str
  | [] => []
  | (.str f, _) :: r => f :: keysF r
  | _ :: r => keysF r
theorem EncF.keys : ∀ {ns : List Str} {vs : List V} {kvs : List (D × D)}, EncF g F ns vs kvs → keysF kvs = ns
  | _, _, _, .nil => rfl
  | _, _, _, .cons _ k => congrArg (_ :: ·) (EncF.keys k)
theorem putF_new {f : Str} {v : V} : ∀ {ns : List Str} {vs : List V}, ns.length = vs.length → f ∉ ns → putF f v (ns.zip vs) = (ns ++ [f]).zip (vs ++ [v])
  | [], [], _, _ => rfl
  | n :: ns, w :: vs, h, q => by
    have h1 : ¬ n = f := fun z => q (by simp [z])
    have h2 : f ∉ ns := fun z => q (by simp [z])
    show (if n = f then _ else (n, w) :: putF f v (ns.zip vs)) = _
    rw [if_neg h1, putF_new (by simpa using h) h2]
    rfl
end
section
variable {X : Cx} {g : Gm} {b : Bs} {Γ : Ctx} {F : Hp} {σ : L2.St} {H : Hp} {e e1 e2 : Expr} {es : List Expr} {pos p : Pos} {r ra rb : Res D} {rs : Res (List D)} {x f : Str} {β τ υ : Type} {Γb : β → Ctx} {Γn : τ → Ctx} {rest body : List Stmt}
/-- self.f = e, a field that it does not have yet; rest -/
theorem b_attr {i : Nat} {a : Addr} {c : Str} {ci : CI} {kvs : List (D × D)} {k : D → Fl β τ} {p1 p2 : Pos} (co : CisOk g) (hci : g.ci c = some ci) (he : PE X e (tE g b Γ ra)) (hrest : ∀ d, PSs X rest (tS g b Γb (Γ.set i (some (.o a c (kvs ++ [(.str f, d)])))) (k d) Γn))
    (hk : (match ci.k with
      | .slots => decide (ci.fs[kvs.length]? = some f)
      | _ => decide (f ∈ ci.fs) && decide (f ∉ keysF kvs) && decide (kvs.length < 1000)) = true)
    (hΓ : Γ[i]? = some (some (.o a c kvs)) := by rfl) (hu : (Γ.set i none).all noO = true := by rfl) (hc : (b.cx[i]?).join = none := by rfl) (hN : X.N[i]? = some x := by rfl) (hv : Vis X.env.scope x := by first | exact Or.inl rfl | exact Or.inr (Or.inl rfl) | exact Or.inr (Or.inr rfl))
    (hd : (x == ("__debug__" : Str)) = false := by decide) (hcd : (x == ("__classdict__" : Str)) = false := by decide) (hs : swapsWith e (some (.Attribute (.Name x p1) f p2)) pos.line X.env = pure false := by rfl) (hK : X.K = g.K := by rfl) :
    PSs X (.Assign [.Attribute (.Name x p1) f p2] e pos :: rest) (tS g b Γb Γ (ra.bindF k) Γn) := by
  have hv2 := pe_var (pos := p1) hN hv hd hcd
  have one : PS X (.Assign [.Attribute (.Name x p1) f p2] e pos) (fun Ds σ H => tE g b Γ ra σ H fun v H1 => ∃ d, Rf g b Γ (Classical.epsilon fun F1 => Rf g b Γ F1 σ H1 ∧ Enc g F1 v d) σ H1 ∧ Enc g (Classical.epsilon fun F1 => Rf g b Γ F1 σ H1 ∧ Enc g F1 v d) v d ∧ ∀ F2 H2, Rf g b (Γ.set i (some (.o a c (kvs ++ [(.str f, d)])))) F2 σ H2 → Ds.nx σ H2) := by
    refine ⟨fun pins s σ H Ds I h => ?_⟩
    refine plainObj_wpAny_Assign_Attribute (thn (he.run pins s σ H _ I h) fun u s1 ⟨v, H1, I1, rv, d, rf, en, q⟩ => ?_) hs
    generalize hF : (Classical.epsilon fun F1 => Rf g b Γ F1 σ H1 ∧ Enc g F1 v d) = F1 at rf en
    obtain ⟨ov, h1, h2⟩ := rf.at_ i _ hΓ
    cases ov with
    | none => exact h2.elim
    | some w =>
      cases w with
      | ref a1 =>
        obtain ⟨e0, ci', dx, ns, vs, q1, q2, q3, q4, q5, q6, q7, q8⟩ := h2
        subst e0
        rw [hci] at q1
        cases q1
        refine thn (hv2.run pins s1 σ H1 (fun v2 H2 => v2 = .ref a1 ∧ H2 = H1) I1 ⟨_, h1, rfl, rfl⟩) fun u2 s2 ⟨v2, H2, I2, rv2, e1, e2⟩ => ?_
        subst e1 e2
        cases rv2
        have kl := q7.lens
        have ky := q7.keys
        have en2 : EncF g F1 (ns ++ [f]) (vs ++ [v]) (kvs ++ [(.str f, d)]) := q7.snoc en
        rcases q8 with ⟨ks, qn, ql, ho⟩ | ⟨kd, ql, ha, hdx, hin⟩
        · rw [ks] at hk
          have hk : ci.fs[kvs.length]? = some f := of_decide_eq_true hk
          obtain ⟨sc, nd, sl⟩ := (co c ci hci).sl ks
          obtain ⟨pp, pq, hpq, t1⟩ := sl _ _ hk
          have l0 : kvs.length = vs.length := by omega
          have st : ∃ ss, PutOk ci.pl vs ss ∧ SlX.Slt H2 a1 ci.C dx ss := by
            rcases ho with ⟨z1, z2, _⟩ | ⟨ss, z0, z1, z2⟩
            · exact ⟨[], fun j w p h => by rw [z1] at h; simp at h, .inl ⟨z2, rfl⟩⟩
            · exact ⟨ss, z0, .inr ⟨z1, z2⟩⟩
          obtain ⟨ss, hss, st⟩ := st
          have hss2 : PutOk ci.pl (vs ++ [v]) (SlX.putS pq v ss) := fun j w p hw hp => by
            by_cases hj : j < vs.length
            · rw [List.getElem?_append_left hj] at hw
              have ne : p ≠ pq := fun z => by
                subst z
                have := (List.getElem?_inj (List.getElem?_eq_some_iff.mp hp).1 nd).mp (hp.trans hpq.symm)
                omega
              exact (SlX.putS_ne ne).mpr (hss j w p hw hp)
            · have ej : j = vs.length := by
                have := (List.getElem?_eq_some_iff.mp hw).1
                simp at this
                omega
              subst ej
              rw [List.getElem?_append_right (Nat.le_refl _)] at hw
              simp at hw
              subst hw
              rw [← l0, hpq] at hp
              cases hp
              exact SlX.putS_get _ _ _
          refine SlX.setslot_ok I2 st (hK ▸ sc) (hK ▸ t1) rv fun s3 I3 => ⟨σ, _, I3, q F1 _ (rf.puto hΓ hu hc hci q2 q3 q4 q5 q6 (.inl ⟨ks, qn, ql, ho⟩) (fun z n1 n2 => SlX.slH_ne n1 n2) (ns' := ns ++ [f]) (vs' := vs ++ [v]) (.inl ⟨ks, ?_, by simp [ql], .inr ?_⟩) en2)⟩
          · have l0 : kvs.length = ns.length := by omega
            rw [l0] at hk
            rw [List.length_append, List.length_singleton, List.take_succ, hk, ← qn]
            rfl
          · exact ⟨_, hss2, upd_same, by unfold SlX.slH; rw [upd_ne q6, upd_same]⟩
        · rw [kd] at hk
          have hk : (decide (f ∈ ci.fs) && decide (f ∉ keysF kvs) && decide (kvs.length < 1000)) = true := hk
          rw [Bool.and_eq_true, Bool.and_eq_true, decide_eq_true_eq, decide_eq_true_eq, decide_eq_true_eq] at hk
          obtain ⟨⟨k1, k2⟩, k3⟩ := hk
          rw [ky] at k2
          obtain ⟨sc, na⟩ := (co c ci hci).di kd
          refine setattr_ok I2 ha (hK ▸ sc) (show NoAttr X.K ci.C f from hK ▸ na f k1) (by rw [List.length_zip]; omega) rv fun s3 I3 => ⟨σ, _, I3, q F1 _ (rf.puto hΓ hu hc hci q2 q3 q4 q5 q6 (.inr ⟨kd, ql, ha, hdx, hin⟩) (fun z n1 n2 => upd_ne n1) (ns' := ns ++ [f]) (vs' := vs ++ [v]) (.inr ⟨kd, by simp [ql], ?_, ?_, ?_⟩) en2)⟩
          · rw [upd_same, putF_new ql k2]
          · rw [upd_ne q6]
            exact hdx
          · intro y hy
            rcases List.mem_append.mp hy with z | z
            · exact hin y z
            · rw [List.mem_singleton.mp z]
              exact k1
      | _ => exact h2.elim
  refine PSs.imp (pss_cons one (PSs.ex fun d => hrest d)) fun Ds σ H h => ?_
  refine tS_bind h fun d v F1 H1 ed rf en h2 => ?_
  have sp := Classical.epsilon_spec (p := fun F1 => Rf g b Γ F1 σ H1 ∧ Enc g F1 v d) ⟨F1, rf, en⟩
  exact ⟨d, sp.1, sp.2, fun F2 H2 r2 => ⟨d, F2, r2, h2⟩⟩

/-! ### an own error without fields is raised -/
structure ErrT (g : Gm) (mg : Str → Option Value) (x : Str) : Prop where
  ex : ∃ i, g.ci x = some i ∧ PySem.W.excIn g.K i.C He.veBase "ValueError.__new__" = true ∧ mg x = some (.ref i.C) ∧ PySem.W.keepIn g.K (.ref i.C) = true ∧ PySem.W.subIn g.K (.ref i.C) (.type "BaseException") = some true ∧ PySem.W.typeIn g.K (.ref i.C) = some (.type "type")
theorem b_raise {m : Str} {j : Nat} {p2 p3 : Pos} (T : ErrT g X.mg x) (tk : Takes X b.W) (hc : X.calm = true := by rfl) (hg : Gl X x := by rfl) (hdb : (x == ("__debug__" : Str)) = false := by decide) (hK : X.K = g.K := by rfl) :
    PSs X (.Raise (some (.Call (.Name x p) [.Constant (.str m) j p2] [] p3)) none pos :: rest) (tS g b Γb Γ (.ex x [] : Fl β τ) Γn) := by
  obtain ⟨i, h0, h1, h2, h3, h4, h5⟩ := T.ex
  rw [← hK] at h1 h3 h4 h5
  refine PSs.imp (pss_cons (ps_raise hc tk (pmk_own PySem.F.excBase_ValueError h1 h2 h3 (raises_own h4 h5) hg hdb)) pss_never) fun Ds σ H h => ?_
  obtain ⟨F, rf, h⟩ := h
  exact h (.ref i.C) none F σ H rf.cx ⟨i, h0, rfl, fun _ => rfl, fun z => absurd rfl z⟩

/-! ### the promise of an __init__, a class that is called -/
def ansI (o : Fl Empty (List (D × D))) (c : Str) : Res D := match o with
  | .nx kvs => .ok (.dict ((.none, .str c) :: kvs))
  | .ex c fs => .ex c fs
  | _ => .no
def spI (g : Gm) (i : CI) (m : List D → Res D) : Sp := fun vs H Q E => ∃ F H0 ds a dx vs', vs = .ref a :: vs' ∧ H0 a = none ∧ H0 dx = none ∧ dx ≠ a ∧ H = upd (upd H0 dx (.own a)) a (.ins i.C dx []) ∧ Sub F H0 ∧ EncL g F vs' ds ∧ match m ds with
  | .ok d => ∀ F' H', Grow F H0 F' H' → Enc g F' (.ref a) d → Q .non H'
  | .ex c fs => ∀ cls od F' H', Grow F H0 F' H' → ExOk g c fs cls od F' → E cls od H'
  | .no => False
/-- a class of the program: n positional values, keywords named ks; gD puts them in the order of the parameters -/
structure MakeT (P : Program) (w : World) (g : Gm) (mg : Str → Option Value) (base : Heap) (x : Str) (k n : Nat) (ks : List Str) (gD : List D → List D → List D) (m : List D → Res D) : Prop where
  ex : ∃ i f fd ps g' gV, g.ci x = some i ∧ mg x = some (.ref i.C) ∧ Mk g.K i.C f ∧ FnOk P w g.K mg base (L2.CX P w) k f fd ps (spI g i m) ∧ KBn g.K fd ps (n + 1) ks g' gV ∧
    ∀ (F : Hp) (x : Addr) (vs zs : List V) (ds es : List D), vs.length = n → zs.length = ks.length → EncL g F vs ds → EncL g F zs es → ∃ ws, gV (.ref x :: vs) zs = .ref x :: ws ∧ EncL g F ws (gD ds es)
theorem run_makeS {CX : CXT} {k n : Nat} {f C : Addr} {fd : FuncData} {ps ks : List Str} {sp : Sp} {E : XK} {gg : List Value → List Value → List Value} {gV : List V → List V → List V} {pins : List (Addr × Obj)} {s : Shared} {Q : VK} {us ws : List Value} {vs zs : List V} (M : Mk X.K C f)
    (Fn : FnOk X.prog X.w X.K X.mg X.base CX k f fd ps sp) (hr : Room (k + 1) X.A) (hb : KBn X.K fd ps (n + 1) ks gg gV) (hx : PassesAt CX X σ E) (I : Inv X pins σ H s) (r : Vals vs us) (rz : Vals zs ws) (l1 : vs.length = n) (l2 : zs.length = ks.length)
    (h : ∀ x dx, H x = none → H dx = none → dx ≠ x → sp (gV (.ref x :: vs) zs) (upd (upd H dx (.own x)) x (.ins C dx [])) (fun v H2 => v = .non ∧ Q (.ref x) H2) E) : wpAny (model X.prog X.w) X.A (call (.ref C) us (ks.zip ws)) (EP X pins σ Q) X.xe s := by
  have hq := h (s.heap.objs.size + 1) s.heap.objs.size (I.hok.fresh (Nat.le_succ _)) (I.hok.fresh (Nat.le_refl _)) (Nat.ne_of_lt (Nat.lt_succ_self _))
  have I2 := Inv.made (C := C) I
  have r1 : Vals (V.ref (s.heap.objs.size + 1) :: vs) (Value.ref (s.heap.objs.size + 1) :: us) := .cons rfl r
  have n1 : (Value.ref (s.heap.objs.size + 1) :: us).length = n + 1 := by rw [List.length_cons, ← r.length, l1]
  refine wpAny_call (make_map (f := f) I.kIn M.makes M.init (beq_iff_eq.mp M.fn) (codeAny_mono (Fn.run _ X.stack _ _ ⟨Value.ref (s.heap.objs.size + 1) :: us, ks.zip ws⟩ (gg (Value.ref (s.heap.objs.size + 1) :: us) ws) _ _ E (hr.make C us (ks.zip ws))
    (I2.env0.make C us (ks.zip ws)) (hb.to _ (Value.ref (s.heap.objs.size + 1) :: us) ws I2.kIn n1 (rz.length.symm.trans l2)) (hb.rel r1 rz) hq) fun r s' hq' => ?_))
  cases r with
  | error e => exact hx pins _ _ e s' I2 hq'
  | ok fl =>
    cases fl with
    | ret u =>
      obtain ⟨v, H', I3, rv, ev, q3⟩ := I2.after hq'
      subst ev
      exact ⟨rv, ⟨V.ref (s.heap.objs.size + 1), H', I3, rfl, q3⟩⟩
    | next => exact False.elim hq'
    | brk => exact False.elim hq'
    | cont => exact False.elim hq'
/-- what a new instance asks -/
theorem make_go {i : CI} {m : List D → Res D} {Q : VK} {ds : List D} {ws : List V} {a dx : Addr} (p1 : Post g b Γ F (m ds) σ H Q) (en : EncL g F ws ds) (h1 : H a = none) (h2 : H dx = none) (h3 : dx ≠ a) :
    spI g i m (.ref a :: ws) (upd (upd H dx (.own a)) a (.ins i.C dx [])) (fun v H2 => v = .non ∧ Q (.ref a) H2) (WE b.W σ) := by
  refine ⟨F, H, ds, a, dx, ws, rfl, h1, h2, h3, rfl, p1.1.gr.fh, en, ?_⟩
  obtain ⟨rf, p1⟩ := p1
  cases q : m ds with
  | ok d =>
    rw [q] at p1
    exact fun F' H' gr ed => ⟨rfl, p1 _ F' H' gr ed⟩
  | ex c fs =>
    rw [q] at p1
    exact fun cls od F' H' gr ok => p1 cls od F' H' gr (rf.grow gr).cx ok
  | no =>
    rw [q] at p1
    exact p1
/-- C(e, ..) -/
theorem e_make {k n j : Nat} {gD : List D → List D → List D} {m : List D → Res D} (T : MakeT X.prog X.w g X.mg X.base x k n [] gD m) (hr : Room j X.A) (tk : Takes X b.W) (ha : PA X (e :: es) (tA g b Γ rs)) (hj : k + 1 ≤ j := by decide) (hn : (e :: es).length = n := by rfl) (hg : Gl X x := by rfl)
    (hl : ∀ ds, rs = .ok ds → ds.length = n) (hdb : (x == ("__debug__" : Str)) = false := by decide) (he : starEach (e :: es) X.env = (false, eval e X.env) :: starEach es X.env := by rfl) (hpl : (backTo pos (starEach es X.env)).any (·.1) = false := by rfl) (hK : X.K = g.K := by rfl) :
    PE X (.Call (.Name x p) (e :: es) [] pos) (tE g b Γ (rs.bind fun ds => m (gD ds []))) := by
  obtain ⟨i, f, fd, ps, g', gV, hi, gm, M, Fn, hb, hG⟩ := T.ex
  rw [← hK] at Fn hb M
  refine ⟨fun pins s σ H Q I h => ?_⟩
  obtain ⟨F, h⟩ := h
  refine wpAny_Call_Name_kw (ld_glob I hg gm ?_ hdb)
  refine PySem.W.callWith_K (h₀ := X.base) I.ok.mod.kin M.kp (thn (ha.run pos pins s σ H (fun vs H1 => ∃ ds F1, rs = .ok ds ∧ Post g b Γ F1 (m (gD ds [])) σ H1 Q ∧ EncL g F1 vs ds) I (tA_bind h fun d v F1 H1 hrs g1 en p1 => ⟨d, F1, hrs, p1, en⟩)) fun us s1 ⟨vs, H1, I1, rv, ds, F1, hrs, p1, en⟩ => ⟨I1.kIn, ?_⟩) he hpl
  have l1 : vs.length = n := by rw [en.len, hl ds hrs]
  refine run_makeS (ks := []) (ws := []) (zs := []) M Fn (hr.mono hj) hb (passAt tk σ) I1 rv .nil l1 rfl fun a dx h1 h2 h3 => ?_
  obtain ⟨ws, e1, e2⟩ := hG F1 a vs [] ds [] l1 rfl en .nil
  rw [e1]
  exact make_go p1 e2 h1 h2 h3
/-- keywords' values -/
theorem k_nil : PK X [] (tA g b Γ (.ok [])) := ⟨fun pos pins s σ H Q I q => by
  obtain ⟨F, rf, p⟩ := q
  exact (pk_nil (X := X)).run pos pins s σ H Q I (p [] F H (Grow.refl rf.gr.fh) .nil)⟩
theorem k_cons {nm : Option Str} {kws : List Keyword} {kpos : Pos} (ha : PE X e (tE g b Γ ra)) (hr : PK X kws (tA g b Γ rs)) : PK X (⟨nm, e, kpos⟩ :: kws) (tA g b Γ (ra.bind fun x => rs.bind fun xs => .ok (x :: xs))) :=
  ⟨fun pos pins s σ H Q I q => by
  obtain ⟨F, p⟩ := q
  exact (pk_cons ha hr).run pos pins s σ H Q I (tE_bindA p fun x v F1 H1 _ g1 ex p1 => tA_bindA p1 fun xs vs F2 H2 _ g2 exs p2 => p2.2 (v :: vs) F2 H2 (Grow.refl p2.1.gr.fh) (.cons (ex.mono g2.ff) exs))⟩
/-- C(e, .., k = v, ..) -/
theorem e_makek {k n j : Nat} {ks : List Str} {kws : List Keyword} {rk : Res (List D)} {gD : List D → List D → List D} {m : List D → Res D} (T : MakeT X.prog X.w g X.mg X.base x k n ks gD m) (hr : Room j X.A) (tk : Takes X b.W) (ha : PA X (e :: es) (tA g b Γ rs)) (hkw : PK X kws (tA g b Γ rk)) (hj : k + 1 ≤ j := by decide)
    (hl : ∀ ds, rs = .ok ds → ds.length = n) (hlk : ∀ ds, rk = .ok ds → ds.length = ks.length) (hg : Gl X x := by rfl) (hdb : (x == ("__debug__" : Str)) = false := by decide)
    (hall : (backToKw pos (keywordEach kws X.env)).all (·.1.isSome) = true := by rfl) (hks : (backToKw pos (keywordEach kws X.env)).filterMap (·.1) = ks := by rfl)
    (he : starEach (e :: es) X.env = (false, eval e X.env) :: starEach es X.env := by rfl) (hpl : ((backTo pos (starEach (e :: es) X.env)).any (·.1) || (backToKw pos (keywordEach kws X.env)).any (·.1.isNone)) = false := by rfl) (hK : X.K = g.K := by rfl) :
    PE X (.Call (.Name x p) (e :: es) kws pos) (tE g b Γ (rs.bind fun ds => rk.bind fun es => m (gD ds es))) := by
  obtain ⟨i, f, fd, ps, g', gV, hi, gm, M, Fn, hb, hG⟩ := T.ex
  rw [← hK] at Fn hb M
  refine ⟨fun pins s σ H Q I h => ?_⟩
  obtain ⟨F, h⟩ := h
  refine wpAny_Call_Name_kw (ld_glob I hg gm ?_ hdb)
  refine PySem.W.callWith_KW (h₀ := X.base) I.ok.mod.kin M.kp hall (thn (ha.run pos pins s σ H (fun vs H1 => ∃ ds F1, rs = .ok ds ∧ Post g b Γ F1 (rk.bind fun es => m (gD ds es)) σ H1 Q ∧ EncL g F1 vs ds) I (tA_bind h fun d v F1 H1 hrs g1 en p1 => ⟨d, F1, hrs, p1, en⟩))
    fun us s1 ⟨vs, H1, I1, r, ds, F1, hrs, p1, en⟩ => ?_) hpl he
  refine thn (hkw.run pos pins s1 σ H1 (fun zs H2 => ∃ es F2, rk = .ok es ∧ Post g b Γ F2 (m (gD ds es)) σ H2 Q ∧ EncL g F2 zs es ∧ EncL g F2 vs ds) I1 (tA_bind p1 fun d v F2 H2 hrk g2 en2 p2 => ⟨d, F2, hrk, p2, en2, en.mono g2.ff⟩)) fun ws s2 ⟨zs, H2, I2, rz, es', F2, hrk, p2, enz, en2⟩ => ⟨I2.kIn, ?_⟩
  rw [hks]
  have l1 : vs.length = n := by rw [en.len, hl ds hrs]
  have l2 : zs.length = ks.length := by rw [enz.len, hlk es' hrk]
  refine run_makeS M Fn (hr.mono hj) hb (passAt tk σ) I2 r rz l1 l2 fun a dx h1 h2 h3 => ?_
  obtain ⟨ws, e1, e2⟩ := hG F2 a vs zs ds es' l1 l2 en2 enz
  rw [e1]
  exact make_go p2 e2 h1 h2 h3
end

/-! ### a def keeps its promise -/
section
variable {P : Program} {w : World} {g : Gm} {mg : Str → Option Value} {base : Heap} {name qual : Str} {params : Arguments} {body : List Stmt} {scope : Scope} {dvs : List V} {kws : List (Str × V)} {f : Addr} {fd : FuncData} {N ps : List Str} {k : Nat}
def ctx0 (n : Nat) (ds : List D) : Ctx := ds.map (fun d => some (.v d)) ++ List.replicate (n - ds.length) none
abbrev bs0 (F H : Hp) (E : XK) : Bs := ⟨F, H, [], fun cls od _ H' => E cls od H'⟩
theorem rf0 {n : Nat} {F H : Hp} {E : XK} {vs : List V} {ds : List D} (hN : N.length = n) (s : Sub F H) (en : EncL g F vs ds) : Rf g (bs0 F H E) (ctx0 n ds) F (start N vs) H := by
  refine ⟨Grow.refl s, .nil, fun i bd e => ?_, fun i j a xs ys h1 => ?_⟩
  · unfold ctx0 at e
    by_cases hi : i < ds.length
    · rw [List.getElem?_append_left (by simpa using hi), List.getElem?_map] at e
      cases q : ds[i]? with
      | none =>
        rw [q] at e
        cases e
      | some d =>
        rw [q] at e
        cases e
        obtain ⟨v, h1, h2⟩ := en.get q
        refine ⟨some v, ?_, h2⟩
        unfold L2.start
        rw [List.getElem?_append_left (by rw [List.length_map, en.len]; exact hi), List.getElem?_map, h1]
        rfl
    · rw [List.getElem?_append_right (by simpa using hi), List.getElem?_replicate] at e
      split at e <;> cases e
  · exfalso
    unfold ctx0 at h1
    by_cases hi : i < ds.length
    · rw [List.getElem?_append_left (by simpa using hi), List.getElem?_map] at h1
      cases q : ds[i]? with
      | none =>
        rw [q] at h1
        cases h1
      | some d =>
        rw [q] at h1
        cases h1
    · rw [List.getElem?_append_right (by simpa using hi), List.getElem?_replicate] at h1
      split at h1 <;> cases h1
/-- what each rule within a def's body may lean on -/
structure Side (k : Nat) (P : Program) (w : World) (g : Gm) (mg : Str → Option Value) (base : Heap) (N : List Str) (qual : Str) (scope : Scope) (f : Addr) (cdv : Value) (A : Around) (outer : List Env) (s : Shared) (H : Hp) (E : XK) : Prop where
  hr : Room k (cxOf (L2.CX P w) P w g.K mg base N qual scope f cdv A outer s H E).A
  tk : Takes (cxOf (L2.CX P w) P w g.K mg base N qual scope f cdv A outer s H E) (fun cls od _ H' => E cls od H')
  hu : (cxOf (L2.CX P w) P w g.K mg base N qual scope f cdv A outer s H E).A.units + 64 < cLine
  hu1 : (cxOf (L2.CX P w) P w g.K mg base N qual scope f cdv A outer s H E).A.units + 65 < cLine
  po : PassesOwn (model P w) (cxOf (L2.CX P w) P w g.K mg base N qual scope f cdv A outer s H E).A (cxOf (L2.CX P w) P w g.K mg base N qual scope f cdv A outer s H E).env (cxOf (L2.CX P w) P w g.K mg base N qual scope f cdv A outer s H E).xe
theorem side_of {cdv : Value} {A : Around} {outer : List Env} {s : Shared} {H : Hp} {E : XK} (hr : Room k (A.deeper (envOfC qual scope s.heap.objs.size f cdv))) : Side k P w g mg base N qual scope f cdv A outer s H E :=
  have h : (cxOf (L2.CX P w) P w g.K mg base N qual scope f cdv A outer s H E).A.units + 16 * k + 200 < cLine := hr.un
  ⟨hr, takes_of rfl rfl rfl rfl, by omega, by omega, passes_of rfl⟩
theorem takes_no {X : Cx} : Takes X (fun _ _ _ _ => False) := fun u s' ⟨a, B, sI, pins, σ, H, cls, d, e, I, nb, up, sky, na, os, ag, w⟩ => w.elim
theorem len_nil : ∀ ds : List D, (Res.ok [] : Res (List D)) = .ok ds → ds.length = 0 := fun ds h => by
  cases h
  rfl
theorem len_cons {ra : Res D} {rs : Res (List D)} {n : Nat} (h : ∀ ds, rs = .ok ds → ds.length = n) : ∀ ds : List D, (ra.bind fun x => rs.bind fun xs => .ok (x :: xs)) = .ok ds → ds.length = n + 1 := fun ds q => by
  cases ra with
  | ok a =>
    cases rs with
    | ok xs =>
      cases q
      rw [List.length_cons, h xs rfl]
    | ex _ _ => cases q
    | no => cases q
  | ex _ _ => cases q
  | no => cases q
theorem def_ok {o : List D → Fl Empty Unit} {m : List D → Res D} (Fd : FunD g.K name qual params body scope dvs kws f fd) (S : FnScope N ps scope) (hm : ∀ ds, ds.length = ps.length → m ds = (o ds).res) (hl : ∀ ds, ds.length ≠ ps.length → m ds = .no)
    (hbody : ∀ (cdv : Value) (A : Around) (outer : List Env) (s : Shared) (H F : Hp) (E : XK) (ds : List D), Side k P w g mg base N qual scope f cdv A outer s H E → ds.length = ps.length →
      PSs (cxOf (L2.CX P w) P w g.K mg base N qual scope f cdv A outer s H E) body (tS g (bs0 F H E) (fun e : Empty => e.elim) (ctx0 N.length ds) (o ds) (fun _ : Unit => []))) :
    FnOk P w g.K mg base (L2.CX P w) (k + 1) f fd ps (spD g m) := by
  have len : ∀ vs H Q E, spD g m vs H Q E → vs.length = ps.length := fun vs H Q E h => by
    obtain ⟨F, ds, s, en, h⟩ := h
    rw [en.len]
    by_cases q : ds.length = ps.length
    · exact q
    · rw [hl ds q] at h
      exact h.elim
  refine Fd.ok S len fun cdv A outer s H vs Q E hr h => ?_
  have l0 := len _ _ _ _ h
  obtain ⟨F, ds, sb, en, h⟩ := h
  have l1 : ds.length = ps.length := by rw [← en.len, l0]
  rw [hm ds l1] at h
  refine ⟨_, hbody cdv A outer s H F E ds (side_of hr) l1, F, rf0 rfl sb en, ?_⟩
  cases q : o ds with
  | nx t =>
    rw [q] at h
    exact fun F' σ' H' r => h .non F' H' r.gr .non
  | rt d =>
    rw [q] at h
    exact fun v F' H' gr en => h v F' H' gr en
  | bk e => exact e.elim
  | ct e => exact e.elim
  | ex c fs =>
    rw [q] at h
    exact fun cls od F' σ' H' r ok => h cls od F' H' r.gr ok
  | no =>
    rw [q] at h
    exact h
/-- an __init__ -/
theorem init_ok {i : CI} {c : Str} {o : List D → Fl Empty (List (D × D))} {m : List D → Res D} (hci : g.ci c = some i) (hk : i.k ≠ .exc) (Fd : FunD g.K name qual params body scope dvs kws f fd) (S : FnScope N ps scope) (hm : ∀ ds, ds.length + 1 = ps.length → m ds = ansI (o ds) c) (hl : ∀ ds, ds.length + 1 ≠ ps.length → m ds = .no)
    (hbody : ∀ (cdv : Value) (A : Around) (outer : List Env) (s : Shared) (H H0 F : Hp) (E : XK) (a : Addr) (ds : List D), Side k P w g mg base N qual scope f cdv A outer s H E → ds.length + 1 = ps.length →
      PSs (cxOf (L2.CX P w) P w g.K mg base N qual scope f cdv A outer s H E) body (tS g (bs0 F H0 E) (fun e : Empty => e.elim) (some (.o a c []) :: ctx0 (N.length - 1) ds) (o ds) (fun kvs => [some (.o a c kvs)]))) :
    FnOk P w g.K mg base (L2.CX P w) (k + 1) f fd ps (spI g i m) := by
  have len : ∀ vs H Q E, spI g i m vs H Q E → vs.length = ps.length := fun vs H Q E h => by
    obtain ⟨F, H0, ds, a, dx, vs', rfl, h1, h2, h3, h4, s, en, h⟩ := h
    rw [List.length_cons, en.len]
    by_cases q : ds.length + 1 = ps.length
    · exact q
    · rw [hl ds q] at h
      exact h.elim
  refine Fd.ok S len fun cdv A outer s H vs Q E hr h => ?_
  have l0 := len _ _ _ _ h
  obtain ⟨F, H0, ds, a, dx, vs', rfl, h1, h2, h3, h4, sb, en, h⟩ := h
  have l1 : ds.length + 1 = ps.length := by rw [← en.len]; exact l0
  rw [hm ds l1] at h
  have N1 : 1 ≤ N.length := by
    have z := S.pre
    have z2 := congrArg List.length z
    rw [List.length_take] at z2
    omega
  have Fa : F a = none := sb.free h1
  have Fd' : F dx = none := sb.free h2
  have ob : ObjAt i H a dx [] [] := by
    cases hkd : i.k with
    | slots => exact .inl ⟨hkd, rfl, rfl, .inl ⟨rfl, by rw [h4, upd_same], by rw [h4, upd_ne h3, upd_same]⟩⟩
    | dict => exact .inr ⟨hkd, rfl, by rw [h4, upd_same]; rfl, by rw [h4, upd_ne h3, upd_same], fun _ z => nomatch z⟩
    | exc => exact absurd hkd hk
  have s0 : Sub H0 H := by
    rw [h4]
    exact (Sub.new h2).trans (Sub.new (by rw [upd_ne (Ne.symm h3)]; exact h1))
  have r0 := rf0 (g := g) (N := N.tail) (n := N.length - 1) (E := E) (by simp) sb en
  refine ⟨_, hbody cdv A outer s H H0 F E a ds (side_of hr) l1, F, ?_, ?_⟩
  · refine ⟨⟨Sub.refl _, sb.trans s0, s0, fun _ _ z => z⟩, .nil, fun j bd e => ?_, fun j j2 z xs ys e1 e2 e3 e4 => ?_⟩
    · cases j with
      | zero =>
        cases e
        exact ⟨some (.ref a), rfl, rfl, i, dx, [], [], hci, Fa, Fd', h1, h2, h3, .nil, ob⟩
      | succ j =>
        obtain ⟨ov, k1, k2⟩ := r0.at_ j bd (by simpa using e)
        refine ⟨ov, ?_, ?_⟩
        · have e9 : start N (V.ref a :: vs') = some (V.ref a) :: start N.tail vs' := by
            unfold L2.start
            simp
            omega
          rw [e9]
          exact k1
        · cases ov with
          | none => exact k2
          | some v =>
            cases bd with
            | v d => exact k2
            | l xs =>
              cases v with
              | ref z =>
                obtain ⟨q1, q2, vs, q3, q4⟩ := k2
                exact ⟨q1, q2, vs, s0 _ _ q3, q4⟩
              | _ => exact k2
            | x a2 => cases v <;> exact k2
            | o a2 c2 kvs2 =>
              exfalso
              have z2 : (ctx0 (N.length - 1) ds)[j]? = some (some (.o a2 c2 kvs2)) := by simpa using e
              unfold ctx0 at z2
              by_cases hj : j < ds.length
              · rw [List.getElem?_append_left (by simpa using hj), List.getElem?_map] at z2
                cases q : ds[j]? with
                | none =>
                  rw [q] at z2
                  cases z2
                | some d =>
                  rw [q] at z2
                  cases z2
              · rw [List.getElem?_append_right (by simpa using hj), List.getElem?_replicate] at z2
                split at z2 <;> cases z2
    · cases j with
      | zero => cases e1
      | succ j =>
        cases j2 with
        | zero => cases e2
        | succ j2 =>
          have e9 : start N (V.ref a :: vs') = some (V.ref a) :: start N.tail vs' := by
            unfold L2.start
            simp
            omega
          rw [e9] at e3 e4
          exact congrArg (· + 1) (r0.sep j j2 z xs ys (by simpa using e1) (by simpa using e2) (by simpa using e3) (by simpa using e4))
  · cases q : o ds with
    | nx kvs =>
      rw [q] at h
      intro F' σ' H' r
      obtain ⟨ov, k1, k2⟩ := r.at_ 0 (.o a c kvs) rfl
      cases ov with
      | none => exact k2.elim
      | some v =>
        cases v with
        | ref a1 =>
          obtain ⟨e0, ci, dx2, ns, vs, q1, q2, q3, q4, q5, q6, q7, q8⟩ := k2
          subst e0
          rw [hci] at q1
          cases q1
          -- the instance's two cells go into the view
          obtain ⟨n1, n2⟩ := q8.there
          have sF : Sub F' (fun z => if z = a1 ∨ z = dx2 then H' z else F' z) := fun z u e => by
            have z1 : ¬ (z = a1 ∨ z = dx2) := fun w => by
              rcases w with w | w
              · rw [w, q2] at e
                cases e
              · rw [w, q3] at e
                cases e
            show (if z = a1 ∨ z = dx2 then H' z else F' z) = some u
            rw [if_neg z1]
            exact e
          refine h (fun z => if z = a1 ∨ z = dx2 then H' z else F' z) H' ⟨r.gr.ff.trans sF, fun z u e => ?_, r.gr.hh, fun z w1 w2 => ?_⟩ (.dct (.obj hci (q7.mono sF) (q8.congr ?_ ?_)))
          · have e : (if z = a1 ∨ z = dx2 then H' z else F' z) = some u := e
            split at e
            · exact e
            · exact r.gr.fh _ _ e
          · have z1 : ¬ (z = a1 ∨ z = dx2) := fun w => by
              rcases w with w | w
              · rw [w] at w1
                exact w1 q4
              · rw [w] at w1
                exact w1 q5
            show (if z = a1 ∨ z = dx2 then H' z else F' z) = none
            rw [if_neg z1]
            exact r.gr.new z w1 w2
          · show (if a1 = a1 ∨ a1 = dx2 then H' a1 else F' a1) = H' a1
            rw [if_pos (.inl rfl)]
          · show (if dx2 = a1 ∨ dx2 = dx2 then H' dx2 else F' dx2) = H' dx2
            rw [if_pos (.inr rfl)]
        | _ => exact k2.elim
    | rt d =>
      rw [q] at h
      exact h.elim
    | bk e => exact e.elim
    | ct e => exact e.elim
    | ex c fs =>
      rw [q] at h
      exact fun cls od F' σ' H' r ok => h cls od F' H' r.gr ok
    | no =>
      rw [q] at h
      exact h
end
end Mi
/-! Mi8: methods of lists, tuples, texts; calls to which lists of one's own are lent. -/
namespace Mi
open L2 PySem PySem.Spec PyProof.Rows
section
variable {X : Cx} {g : Gm} {b : Bs} {Γ : Ctx} {F : Hp} {σ : L2.St} {H : Hp} {e e1 e2 : Expr} {es : List Expr} {pos p : Pos} {r ra rb ro : Res D} {rs : Res (List D)} {x f : Str} {β τ υ : Type} {Γb : β → Ctx} {Γn : τ → Ctx} {rest body : List Stmt}
/-! ### methods that look -/
/-- a list's, a tuple's, a text's type is built in -/
def tyB : D → String
  | .list _ => "list"
  | .tuple _ => "tuple"
  | .str _ => "str"
  | _ => ""
theorem Enc.tyB {pins : List (Addr × Obj)} {s : Shared} {v : V} {u : Value} {d : D} (hK : X.K = g.K) (I : Inv X pins σ H s) (h : Enc g H v d) (r : RelV v u) (n : tyB d ≠ "") : s.TypeIs u (Mi.tyB d) ∧ ∀ a, u = .ref a → ∃ o, s.heap.get? a = some o ∧ o.dict = none := by
  cases h with
  | str z =>
    obtain ⟨t, rfl⟩ := r
    exact ⟨typeIs_str s z t, fun _ e => nomatch e⟩
  | lst h1 _ =>
    cases r
    obtain ⟨its, _, pl, _⟩ := I.list (SqL.of (K := X.K) h1)
    refine ⟨pl.isList.typeIs, fun a e => ?_⟩
    cases e
    obtain ⟨o, n, e, c, hd, _⟩ := pl
    exact ⟨o, e, hd⟩
  | tup h1 _ =>
    cases r
    rcases h1 with ⟨its, h1⟩ | ⟨o, its, m, h1, h2, h3, _⟩
    · obtain ⟨e, _⟩ := I.hok _ _ h1
      exact ⟨⟨_, e, rfl⟩, fun a e2 => by
        cases e2
        exact ⟨_, e, rfl⟩⟩
    · have e := I.kIn _ _ (hK ▸ h1)
      exact ⟨⟨_, e, h2⟩, fun a e2 => by
        cases e2
        exact ⟨_, e, h3⟩⟩
  | _ => exact absurd rfl n
/-- a method of one value, both looked at; the answer is a scalar -/
def Meth1 (X : Cx) (g : Gm) (T id : String) (o : D → D → Option D) : Prop :=
  ∀ (pins : List (Addr × Obj)) (s : Shared) (σ : L2.St) (H : Hp) (v w : V) (u t : Value) (x y d : D) (Q : VK), Inv X pins σ H s → RelV v u → RelV w t → Enc g H v x → Enc g H w y → Mi.tyB x = T → o x y = some d → (∀ z, (∀ F, Enc g F z d) → Q z H) →
    wpAny (model X.prog X.w) X.A (call (.builtin id) [u, t]) (EP X pins σ Q) X.xe s
theorem e_m1 {T id : String} {name : Str} {apos cpos : Pos} {o : D → D → Option D} (pa : PlainAttrs T) (slot : Slot T name id) (hty : typeOf (.builtin id) = pure (.type "method_descriptor")) (hm : Meth1 X g T id o) (hT : T ≠ "") (ho : PE X e1 (tR g b Γ ro)) (ha : PE X e (tR g b Γ ra))
    (hbase : attributeBase e1 name X.env (eval e1 X.env) = eval e1 X.env := by rfl)
    (hfew : ((backTo cpos (starEach [e] X.env)).all (fun x => !x.1) && (backToKw cpos (keywordEach [] X.env)).all (fun x => x.1.isSome) && decide ([e].length + ([] : List Keyword).length + (if ([] : List Keyword).isEmpty then 0 else 1) < 30)) = true := by rfl)
    (hline : (apos.endLine == cpos.line) = true := by rfl) (hs : starEach [e] X.env = (false, eval e X.env) :: starEach [] X.env := by rfl) (hplain : (backTo cpos (starEach [] X.env)).any (·.1) = false := by rfl) (hK : X.K = g.K := by rfl) :
    PE X (.Call (.Attribute e1 name apos) [e] [] cpos) (tE g b Γ (ro.bind fun x => if Mi.tyB x = T then ra.bind fun y => ofO (o x y) else .no)) := by
  refine ⟨fun pins s σ H Q I h => ?_⟩
  obtain ⟨F, h⟩ := h
  refine wpAny_Call_method_late hbase hfew hline rfl (thn (ho.run pins s σ H (fun v H1 => ∃ d F1, Post g b Γ F1 (if Mi.tyB d = T then ra.bind fun y => ofO (o d y) else .no) σ H1 Q ∧ Enc g H1 v d) I (tR_bind h fun d v F1 H1 _ g1 en p1 => ⟨d, F1, p1, en⟩)) fun v s1 ⟨x, H1, I1, r1, d, F1, p1, en⟩ => ?_)
  by_cases q : Mi.tyB d = T
  · rw [if_pos q] at p1
    obtain ⟨h1, h2⟩ := en.tyB hK I1 r1 (by rw [q]; exact hT)
    rw [q] at h1
    refine ⟨T, id, pa, slot, hty, h1, h2, ?_⟩
    have hA := (pa_cons ha pa_nil hs).run cpos pins s1 σ H1 (fun vs H2 => ∃ w dy F2, vs = [w] ∧ Post g b Γ F2 (ofO (o d dy)) σ H2 Q ∧ Enc g H2 w dy ∧ Enc g H2 x d) I1 (tR_bind p1 fun dy w F2 H2 _ g2 ey p2 => ⟨w, dy, F2, rfl, p2, ey, en.mono g2.hh⟩)
    rw [hs] at hA ⊢
    refine Calls.callWith_builtin (by show (false || (backTo cpos (starEach [] X.env)).any (·.1)) = false; rw [hplain] <;> rfl) (Calls.evalArgs_plain ?_)
    refine thn hA fun us s2 ⟨vs, H2, I2, r2, w, dy, F2, e2, p2, ey, ex⟩ => ?_
    subst e2
    obtain ⟨t, rfl, rt⟩ := vals1 r2
    obtain ⟨d', e', k⟩ := p2.gives
    exact hm pins s2 σ H2 x w v t d dy d' Q I2 r1 rt ex ey q e' fun z hz => k.here p2.1.gr.fh (hz F2)
  · rw [if_neg q] at p1
    exact p1.2.elim
/-- l.index(x), t.index(x); l.count(x), t.count(x) -/
def indexD (x y : D) : Option D := match x with
  | .list xs | .tuple xs => if inOk y xs = true ∧ xs.length ≤ cap then (SeqAt.dataPlace xs y).map fun j => .int (j : Nat) else none
  | _ => none
def countD (x y : D) : Option D := match x with
  | .list xs | .tuple xs => if inOk y xs = true then some (.int ((xs.countP fun z => PyData.eqv z y : Nat) : Int)) else none
  | _ => none
theorem Enc.seq {pins : List (Addr × Obj)} {s : Shared} {v : V} {u : Value} {xs : List D} {a : Addr} {vs : List V} {its : List Value} (hK : X.K = g.K) (I : Inv X pins σ H s) (en : EncL g H vs xs) (p : PyData.plainAll xs = true) (r : Vals vs its) : ∃ as, ReadsAll s.heap its xs as :=
  Dp.readsAll I xs vs its (by rw [hK]; exact en.dp p) r
theorem index_some {xs : List D} {y d : D} (h : (if inOk y xs = true ∧ xs.length ≤ cap then (SeqAt.dataPlace xs y).map fun j => PyData.int (j : Nat) else none) = some d) : inOk y xs = true ∧ xs.length ≤ cap ∧ ∃ j, SeqAt.dataPlace xs y = some j ∧ d = .int (j : Nat) := by
  split at h
  · rename_i q
    obtain ⟨j, h1, h2⟩ := Option.map_eq_some_iff.mp h
    exact ⟨q.1, q.2, j, h1, h2.symm⟩
  · cases h
theorem m_lindex (hu : X.A.units + 65 < cLine) (hK : X.K = g.K := by rfl) : Meth1 X g "list" "list.index" indexD := fun pins s σ H v w u t x y d Q I rv rw ex ey hT e k => by
  cases ex with
  | lst h1 k1 =>
    rename_i a vs xs
    obtain ⟨hc, hz, j, hj, rfl⟩ := index_some (show (if inOk y xs = true ∧ xs.length ≤ cap then (SeqAt.dataPlace xs y).map fun j => PyData.int (j : Nat) else none) = some d from e)
    obtain ⟨py, pxs, hd⟩ := inOk_d hc
    cases rv
    obtain ⟨bs, r1⟩ := ey.reads hK I py rw
    obtain ⟨its, rv, ⟨⟨cls, dd, data, sls⟩, n, ho, hc, hdn, hdt⟩, hlen⟩ := I.list (SqL.of (K := X.K) h1)
    simp only at hc hdt
    subst hc hdt
    obtain ⟨as, h4⟩ := Dp.readsAll I xs _ its (by rw [hK]; exact k1.dp pxs) rv
    have h5 : ReadsAll s.heap its.toArray.toList xs as := h4
    obtain ⟨hj2, hit, hno⟩ := SeqAt.hit_at h5 pxs hj
    have hl := SeqAt.len_at h5
    refine call_meets PySem.F.slot_list_index ⟨_, ho, rfl⟩ PySem.F.entry_list_index (PySem.F.args_list_index_2 _ _) (SeqAt.list_indexAt a its.toArray n dd sls t _ j hj2 (by have := cap_line hz; have := sizeLine_eq; omega) hit hno) ⟨ho, SeqAt.items_plain h5 r1 pxs py (by omega), ?_⟩
    exact ⟨.int (j : Nat), H, I.tok _, ⟨_, rfl⟩, k _ fun _ => .int _⟩
  | _ => simp [Mi.tyB] at hT
theorem m_tindex (hu : X.A.units + 65 < cLine) (hK : X.K = g.K := by rfl) : Meth1 X g "tuple" "tuple.index" indexD := fun pins s σ H v w u t x y d Q I rv rw ex ey hT e k => by
  cases ex with
  | tup h1 k1 =>
    rename_i a vs xs
    obtain ⟨hc, hz, j, hj, rfl⟩ := index_some (show (if inOk y xs = true ∧ xs.length ≤ cap then (SeqAt.dataPlace xs y).map fun j => PyData.int (j : Nat) else none) = some d from e)
    obtain ⟨py, pxs, hd⟩ := inOk_d hc
    cases rv
    obtain ⟨bs, r1⟩ := ey.reads hK I py rw
    obtain ⟨its, rv, ⟨⟨cls, dd, data, sls⟩, ho, hc, n, hdt⟩, hlen⟩ := I.tuple (hK ▸ h1.sqT)
    simp only at hc hdt
    subst hc hdt
    obtain ⟨as, h4⟩ := Dp.readsAll I xs _ its (by rw [hK]; exact k1.dp pxs) rv
    have h5 : ReadsAll s.heap its.toArray.toList xs as := h4
    obtain ⟨hj2, hit, hno⟩ := SeqAt.hit_at h5 pxs hj
    refine call_meets PySem.F.slot_tuple_index ⟨_, ho, rfl⟩ PySem.F.entry_tuple_index (PySem.F.args_tuple_index_2 _ _) (TI.tuple_indexAt a its.toArray n dd sls t _ j hj2 hit hno) ⟨ho, SeqAt.items_plain h5 r1 pxs py (by omega), ?_⟩
    exact ⟨.int (j : Nat), H, I.tok _, ⟨_, rfl⟩, k _ fun _ => .int _⟩
  | _ => simp [Mi.tyB] at hT
theorem m_lcount (hu : X.A.units + 65 < cLine) (hK : X.K = g.K := by rfl) : Meth1 X g "list" "list.count" countD := fun pins s σ H v w u t x y d Q I rv rw ex ey hT e k => by
  cases ex with
  | lst h1 k1 =>
    rename_i a vs xs
    obtain ⟨hc, rfl⟩ := if_some (show (if inOk y xs = true then some (PyData.int ((xs.countP fun z => PyData.eqv z y : Nat) : Int)) else none) = some d from e)
    obtain ⟨py, pxs, hd⟩ := inOk_d hc
    cases rv
    obtain ⟨bs, r1⟩ := ey.reads hK I py rw
    obtain ⟨its, rv, pl, hlen⟩ := I.list (SqL.of (K := X.K) h1)
    obtain ⟨as, h4⟩ := Dp.readsAll I xs _ its (by rw [hK]; exact k1.dp pxs) rv
    exact SeqAt.count_list_data (vs := its.toArray) pl.isList h4 r1 pxs py (by omega) ⟨.int _, H, I.tok _, ⟨_, rfl⟩, k _ fun _ => .int _⟩
  | _ => simp [Mi.tyB] at hT
theorem m_tcount (hu : X.A.units + 65 < cLine) (hK : X.K = g.K := by rfl) : Meth1 X g "tuple" "tuple.count" countD := fun pins s σ H v w u t x y d Q I rv rw ex ey hT e k => by
  cases ex with
  | tup h1 k1 =>
    rename_i a vs xs
    obtain ⟨hc, rfl⟩ := if_some (show (if inOk y xs = true then some (PyData.int ((xs.countP fun z => PyData.eqv z y : Nat) : Int)) else none) = some d from e)
    obtain ⟨py, pxs, hd⟩ := inOk_d hc
    cases rv
    obtain ⟨bs, r1⟩ := ey.reads hK I py rw
    obtain ⟨its, rv, pl, hlen⟩ := I.tuple (hK ▸ h1.sqT)
    obtain ⟨as, h4⟩ := Dp.readsAll I xs _ its (by rw [hK]; exact k1.dp pxs) rv
    exact SeqAt.count_tuple_data (vs := its.toArray) pl h4 r1 pxs py (by omega) ⟨.int _, H, I.tok _, ⟨_, rfl⟩, k _ fun _ => .int _⟩
  | _ => simp [Mi.tyB] at hT
theorem e_lindex {apos cpos : Pos} (hu : X.A.units + 65 < cLine) (ho : PE X e1 (tR g b Γ ro)) (ha : PE X e (tR g b Γ ra)) (hbase : attributeBase e1 "index" X.env (eval e1 X.env) = eval e1 X.env := by rfl)
    (hfew : ((backTo cpos (starEach [e] X.env)).all (fun x => !x.1) && (backToKw cpos (keywordEach [] X.env)).all (fun x => x.1.isSome) && decide ([e].length + ([] : List Keyword).length + (if ([] : List Keyword).isEmpty then 0 else 1) < 30)) = true := by rfl)
    (hline : (apos.endLine == cpos.line) = true := by rfl) (hs : starEach [e] X.env = (false, eval e X.env) :: starEach [] X.env := by rfl) (hplain : (backTo cpos (starEach [] X.env)).any (·.1) = false := by rfl) (hK : X.K = g.K := by rfl) :
    PE X (.Call (.Attribute e1 "index" apos) [e] [] cpos) (tE g b Γ (ro.bind fun x => if Mi.tyB x = "list" then ra.bind fun y => ofO (indexD x y) else .no)) :=
  e_m1 PySem.F.plainAttrs_list PySem.F.slot_list_index PySem.F.type_list_index (m_lindex hu hK) (by decide) ho ha hbase hfew hline hs hplain hK
theorem e_tindex {apos cpos : Pos} (hu : X.A.units + 65 < cLine) (ho : PE X e1 (tR g b Γ ro)) (ha : PE X e (tR g b Γ ra)) (hbase : attributeBase e1 "index" X.env (eval e1 X.env) = eval e1 X.env := by rfl)
    (hfew : ((backTo cpos (starEach [e] X.env)).all (fun x => !x.1) && (backToKw cpos (keywordEach [] X.env)).all (fun x => x.1.isSome) && decide ([e].length + ([] : List Keyword).length + (if ([] : List Keyword).isEmpty then 0 else 1) < 30)) = true := by rfl)
    (hline : (apos.endLine == cpos.line) = true := by rfl) (hs : starEach [e] X.env = (false, eval e X.env) :: starEach [] X.env := by rfl) (hplain : (backTo cpos (starEach [] X.env)).any (·.1) = false := by rfl) (hK : X.K = g.K := by rfl) :
    PE X (.Call (.Attribute e1 "index" apos) [e] [] cpos) (tE g b Γ (ro.bind fun x => if Mi.tyB x = "tuple" then ra.bind fun y => ofO (indexD x y) else .no)) :=
  e_m1 PySem.F.plainAttrs_tuple PySem.F.slot_tuple_index PySem.F.type_tuple_index (m_tindex hu hK) (by decide) ho ha hbase hfew hline hs hplain hK
theorem e_lcount {apos cpos : Pos} (hu : X.A.units + 65 < cLine) (ho : PE X e1 (tR g b Γ ro)) (ha : PE X e (tR g b Γ ra)) (hbase : attributeBase e1 "count" X.env (eval e1 X.env) = eval e1 X.env := by rfl)
    (hfew : ((backTo cpos (starEach [e] X.env)).all (fun x => !x.1) && (backToKw cpos (keywordEach [] X.env)).all (fun x => x.1.isSome) && decide ([e].length + ([] : List Keyword).length + (if ([] : List Keyword).isEmpty then 0 else 1) < 30)) = true := by rfl)
    (hline : (apos.endLine == cpos.line) = true := by rfl) (hs : starEach [e] X.env = (false, eval e X.env) :: starEach [] X.env := by rfl) (hplain : (backTo cpos (starEach [] X.env)).any (·.1) = false := by rfl) (hK : X.K = g.K := by rfl) :
    PE X (.Call (.Attribute e1 "count" apos) [e] [] cpos) (tE g b Γ (ro.bind fun x => if Mi.tyB x = "list" then ra.bind fun y => ofO (countD x y) else .no)) :=
  e_m1 PySem.F.plainAttrs_list PySem.F.slot_list_count PySem.F.type_list_count (m_lcount hu hK) (by decide) ho ha hbase hfew hline hs hplain hK
theorem e_tcount {apos cpos : Pos} (hu : X.A.units + 65 < cLine) (ho : PE X e1 (tR g b Γ ro)) (ha : PE X e (tR g b Γ ra)) (hbase : attributeBase e1 "count" X.env (eval e1 X.env) = eval e1 X.env := by rfl)
    (hfew : ((backTo cpos (starEach [e] X.env)).all (fun x => !x.1) && (backToKw cpos (keywordEach [] X.env)).all (fun x => x.1.isSome) && decide ([e].length + ([] : List Keyword).length + (if ([] : List Keyword).isEmpty then 0 else 1) < 30)) = true := by rfl)
    (hline : (apos.endLine == cpos.line) = true := by rfl) (hs : starEach [e] X.env = (false, eval e X.env) :: starEach [] X.env := by rfl) (hplain : (backTo cpos (starEach [] X.env)).any (·.1) = false := by rfl) (hK : X.K = g.K := by rfl) :
    PE X (.Call (.Attribute e1 "count" apos) [e] [] cpos) (tE g b Γ (ro.bind fun x => if Mi.tyB x = "tuple" then ra.bind fun y => ofO (countD x y) else .no)) :=
  e_m1 PySem.F.plainAttrs_tuple PySem.F.slot_tuple_count PySem.F.type_tuple_count (m_tcount hu hK) (by decide) ho ha hbase hfew hline hs hplain hK

/-! ### lists of one's own are lent -/
/-- a view with all of the heap's lists -/
def lend (F H : Hp) : Hp := fun a => match F a with
  | some o => some o
  | none => match H a with
    | some (.lst xs) => some (.lst xs)
    | _ => none
theorem lend_sub (s : Sub F H) : Sub (lend F H) H := fun a o e => by
  unfold lend at e
  cases q : F a with
  | some o' =>
    rw [q] at e
    cases e
    exact s _ _ q
  | none =>
    rw [q] at e
    cases z : H a with
    | none =>
      rw [z] at e
      cases e
    | some o' =>
      rw [z] at e
      cases o' <;> first | exact e | cases e
theorem lend_view : Sub F (lend F H) := fun a o e => by
  unfold lend
  rw [e]
theorem lend_grow {F' H' : Hp} (gr : Grow F H F' H') (s : Sub F H) : Sub (lend F H) (lend F' H') := fun a o e => by
  unfold lend at e ⊢
  cases q : F a with
  | some o' =>
    rw [q] at e
    rw [gr.ff _ _ q]
    exact e
  | none =>
    rw [q] at e
    cases z : H a with
    | none =>
      rw [z] at e
      cases e
    | some o' =>
      rw [z] at e
      have z2 := gr.hh _ _ z
      have q2 := gr.new a (by rw [z]; simp) q
      rw [q2, z2]
      exact e
/-- a value that may be a list of one's own -/
def PostL (g : Gm) (b : Bs) (Γ : Ctx) (F : Hp) (r : Res (List D)) (σ : L2.St) (H : Hp) (Q : List V → Hp → Prop) : Prop :=
  Rf g b Γ F σ H ∧ match r with
  | .ok ds => ∀ vs F' H', Grow F H F' H' → EncL g (lend F' H') vs ds → Q vs H'
  | .ex c fs => ∀ cls od F' H', Grow F H F' H' → Rf g b b.cx F' σ H' → ExOk g c fs cls od F' → b.W cls od σ H'
  | .no => False
def tL (g : Gm) (b : Bs) (Γ : Ctx) (r : Res (List D)) : TA := fun σ H Q => ∃ F, PostL g b Γ F r σ H Q
def PostW (g : Gm) (b : Bs) (Γ : Ctx) (F : Hp) (r : Res D) (σ : L2.St) (H : Hp) (Q : VK) : Prop :=
  Rf g b Γ F σ H ∧ match r with
  | .ok d => ∀ v F' H', Grow F H F' H' → Enc g (lend F' H') v d → Q v H'
  | .ex c fs => ∀ cls od F' H', Grow F H F' H' → Rf g b b.cx F' σ H' → ExOk g c fs cls od F' → b.W cls od σ H'
  | .no => False
def tW (g : Gm) (b : Bs) (Γ : Ctx) (r : Res D) : TE := fun σ H Q => ∃ F, PostW g b Γ F r σ H Q
theorem w_of (h : PE X e (tE g b Γ r)) : PE X e (tW g b Γ r) := PE.imp h fun σ H Q q => by
  obtain ⟨F, rf, q⟩ := q
  refine ⟨F, rf, ?_⟩
  cases r with
  | ok d => exact fun v F' H' gr en => q v F' H' gr (en.mono lend_view)
  | ex c fs => exact q
  | no => exact q
theorem w_own {i : Nat} {x : Str} {xs : List D} (hΓ : Γ[i]? = some (some (.l xs)) := by rfl) (hN : X.N[i]? = some x := by rfl) (hv : Vis X.env.scope x := by first | exact Or.inl rfl | exact Or.inr (Or.inl rfl) | exact Or.inr (Or.inr rfl))
    (hd : (x == ("__debug__" : Str)) = false := by decide) (hcd : (x == ("__classdict__" : Str)) = false := by decide) : PE X (.Name x pos) (tW g b Γ (.ok (.list xs))) := PE.imp (pe_var hN hv hd hcd) fun σ H Q q => by
  obtain ⟨F, rf, p⟩ := q
  obtain ⟨a, vs, h1, h2, h3, h4, h5⟩ := rf.own hΓ
  refine ⟨_, h1, p _ F H (Grow.refl rf.gr.fh) (.lst ?_ (h5.mono lend_view))⟩
  unfold lend
  rw [h2, h4]
theorem PostL.grow {r : Res (List D)} {Q : List V → Hp → Prop} {F' H' : Hp} (p : PostL g b Γ F r σ H Q) (gr : Grow F H F' H') : PostL g b Γ F' r σ H' Q := by
  obtain ⟨rf, p⟩ := p
  refine ⟨rf.grow gr, ?_⟩
  cases r with
  | ok d => exact fun v F2 H2 a => p v F2 H2 (gr.trans a)
  | ex c fs => exact ex_go gr p
  | no => exact p
theorem l_nil : PA X [] (tL g b Γ (.ok [])) := PA.imp pa_nil fun σ H Q q => by
  obtain ⟨F, rf, p⟩ := q
  exact p [] F H (Grow.refl rf.gr.fh) .nil
theorem l_red {ra : Res D} {rs : Res (List D)} {Q : List V → Hp → Prop} (h : PostL g b Γ F (ra.bind fun x => rs.bind fun xs => .ok (x :: xs)) σ H Q) : tW g b Γ ra σ H fun v H1 => tL g b Γ rs σ H1 fun vs H2 => Q (v :: vs) H2 := by
  refine ⟨F, h.1, ?_⟩
  cases ra with
  | ok d =>
    intro v F' H' gr en
    have h1 := PostL.grow h gr
    refine ⟨F', h1.1, ?_⟩
    cases rs with
    | ok ds => exact fun vs F2 H2 gr2 en2 => h1.2 _ F2 H2 gr2 (.cons (en.mono (lend_grow gr2 h1.1.gr.fh)) en2)
    | ex c fs => exact h1.2
    | no => exact h1.2
  | ex c fs => exact h.2
  | no => exact h.2
theorem l_cons (ha : PE X e (tW g b Γ ra)) (hr : PA X es (tL g b Γ rs)) (hs : starEach (e :: es) X.env = (false, eval e X.env) :: starEach es X.env := by rfl) :
    PA X (e :: es) (tL g b Γ (ra.bind fun x => rs.bind fun xs => .ok (x :: xs))) := PA.imp (pa_cons ha hr hs) fun σ H Q q => by
  obtain ⟨F, p⟩ := q
  exact l_red p
theorem lk_nil : PK X [] (tL g b Γ (.ok [])) := ⟨fun pos pins s σ H Q I q => by
  obtain ⟨F, rf, p⟩ := q
  exact (pk_nil (X := X)).run pos pins s σ H Q I (p [] F H (Grow.refl rf.gr.fh) .nil)⟩
theorem lk_cons {nm : Option Str} {kws : List Keyword} {kpos : Pos} (ha : PE X e (tW g b Γ ra)) (hr : PK X kws (tL g b Γ rs)) : PK X (⟨nm, e, kpos⟩ :: kws) (tL g b Γ (ra.bind fun x => rs.bind fun xs => .ok (x :: xs))) :=
  ⟨fun pos pins s σ H Q I q => by
  obtain ⟨F, p⟩ := q
  exact (pk_cons ha hr).run pos pins s σ H Q I (l_red p)⟩
mutual
/-- no list within -/
def noL : D → Bool
  | .list _ => false
  | .tuple xs => noLs xs
  | .dict kvs => noLp kvs
  | _ => true
def noLs : List D → Bool
  | [] => true
  | x :: xs => noL x && noLs xs
def noLp : List (D × D) → Bool
  | [] => true
  | (a, b) :: r => noL a && (noL b && noLp r)
end
/-- what the answer of a call to which lists were lent keeps of the view -/
def take (F Fc F' : Hp) : Hp := fun a => if Fc a ≠ none ∧ F a = none then none else F' a
section
variable {Fc F' : Hp}
theorem take_keep (hc : ∀ a, Fc a ≠ none → F a = none → ∃ xs, Fc a = some (.lst xs)) (s : Sub Fc F') {a : Addr} {o : HO} (e : F' a = some o) (h : ∀ xs, o ≠ .lst xs) : take F Fc F' a = some o := by
  unfold take
  rw [if_neg (fun z => by
    obtain ⟨xs, q⟩ := hc a z.1 z.2
    rw [s _ _ q] at e
    cases e
    exact h xs rfl)]
  exact e
theorem slo_noL {a C dx : Addr} {vs : List (Option V)} : ∀ xs, SlX.SlO a C dx vs ≠ .lst xs := fun xs z => by
  unfold SlX.SlO at z
  cases z
theorem take_obj (hc : ∀ a, Fc a ≠ none → F a = none → ∃ xs, Fc a = some (.lst xs)) (s : Sub Fc F') {i : CI} {a dx : Addr} {ns : List Str} {vs : List V} (h : ObjAt i F' a dx ns vs) : ObjAt i (take F Fc F') a dx ns vs := by
  rcases h with ⟨h1, h2, h3, ⟨h4, h5, h6⟩ | ⟨ss, h0, h5, h6⟩⟩ | ⟨h1, h2, h3, h4, h5⟩
  · exact .inl ⟨h1, h2, h3, .inl ⟨h4, take_keep hc s h5 (fun _ z => nomatch z), take_keep hc s h6 (fun _ z => nomatch z)⟩⟩
  · exact .inl ⟨h1, h2, h3, .inr ⟨ss, h0, take_keep hc s h5 slo_noL, take_keep hc s h6 (fun _ z => nomatch z)⟩⟩
  · exact .inr ⟨h1, h2, take_keep hc s h3 (fun _ z => nomatch z), take_keep hc s h4 (fun _ z => nomatch z), h5⟩
mutual
theorem Enc.tkn (hc : ∀ a, Fc a ≠ none → F a = none → ∃ xs, Fc a = some (.lst xs)) (s : Sub Fc F') : ∀ {v : V} {d : D}, Enc g F' v d → noL d = true → Enc g (Mi.take F Fc F') v d
  | _, _, .non, _ => .non
  | _, _, .bl k, _ => .bl k
  | _, _, .int i, _ => .int i
  | _, _, .str x, _ => .str x
  | _, _, .lst _ _, q => by simp [noL] at q
  | _, _, .tup h k, q => .tup (by
      rcases h with ⟨its, h⟩ | h
      · exact .inl ⟨its, take_keep hc s h (fun _ z => nomatch z)⟩
      · exact .inr h) (EncL.tkn hc s k (by simpa [noL] using q))
  | _, _, .dct k, q => .dct (EncK.tkn hc s k (by simpa [noL] using q))
theorem EncL.tkn (hc : ∀ a, Fc a ≠ none → F a = none → ∃ xs, Fc a = some (.lst xs)) (s : Sub Fc F') : ∀ {vs : List V} {ds : List D}, EncL g F' vs ds → noLs ds = true → EncL g (Mi.take F Fc F') vs ds
  | _, _, .nil, _ => .nil
  | _, _, .cons h k, q => by
    have q2 : noL _ = true ∧ noLs _ = true := Bool.and_eq_true_iff.mp q
    exact .cons (Enc.tkn hc s h q2.1) (EncL.tkn hc s k q2.2)
theorem EncK.tkn (hc : ∀ a, Fc a ≠ none → F a = none → ∃ xs, Fc a = some (.lst xs)) (s : Sub Fc F') : ∀ {a : Addr} {kvs : List (D × D)}, EncK g F' a kvs → noLp kvs = true → EncK g (Mi.take F Fc F') a kvs
  | _, _, .scr _ _, q => by simp [noLp, noL] at q
  | _, _, .dk h k, q => .dk (take_keep hc s h fun _ z => nomatch z) (EncP.tkn hc s k q)
  | _, _, .obj h k o, q => by
    simp only [noLp, noL, Bool.true_and] at q
    exact .obj h (EncF.tkn hc s k q) (take_obj hc s o)
theorem EncF.tkn (hc : ∀ a, Fc a ≠ none → F a = none → ∃ xs, Fc a = some (.lst xs)) (s : Sub Fc F') : ∀ {fs : List Str} {vs : List V} {kvs : List (D × D)}, EncF g F' fs vs kvs → noLp kvs = true → EncF g (Mi.take F Fc F') fs vs kvs
  | _, _, _, .nil, _ => .nil
  | _, _, _, .cons h k, q => by
    simp only [noLp, noL, Bool.true_and] at q
    have q2 := Bool.and_eq_true_iff.mp q
    exact .cons (Enc.tkn hc s h q2.1) (EncF.tkn hc s k q2.2)
theorem EncP.tkn (hc : ∀ a, Fc a ≠ none → F a = none → ∃ xs, Fc a = some (.lst xs)) (s : Sub Fc F') : ∀ {ps : List (Key × V)} {kvs : List (D × D)}, EncP g F' ps kvs → noLp kvs = true → EncP g (Mi.take F Fc F') ps kvs
  | _, _, .nil, _ => .nil
  | _, _, .consI h k, q => by
    simp only [noLp, noL, Bool.true_and] at q
    have q2 := Bool.and_eq_true_iff.mp q
    exact .consI (Enc.tkn hc s h q2.1) (EncP.tkn hc s k q2.2)
  | _, _, .consS h k, q => by
    simp only [noLp, noL, Bool.true_and] at q
    have q2 := Bool.and_eq_true_iff.mp q
    exact .consS (Enc.tkn hc s h q2.1) (EncP.tkn hc s k q2.2)
end
end
theorem lend_lst : ∀ a, lend F H a ≠ none → F a = none → ∃ xs, lend F H a = some (.lst xs) := fun a h1 h2 => by
  unfold lend at h1 ⊢
  rw [h2] at h1 ⊢
  cases z : H a with
  | none =>
    rw [z] at h1
    exact absurd rfl h1
  | some o =>
    rw [z] at h1
    cases o <;> first | exact ⟨_, rfl⟩ | exact absurd rfl h1
/-- behind a call that had the lent view -/
theorem lend_back {F' H' : Hp} (s : Sub F H) (gr : Grow (lend F H) H F' H') : Grow F H (Mi.take F (lend F H) F') H' := by
  refine ⟨fun a o e => ?_, fun a o e => ?_, gr.hh, fun a h1 h2 => ?_⟩
  · unfold Mi.take
    rw [if_neg (fun z => by rw [e] at z; exact absurd z.2 (by simp))]
    exact gr.ff _ _ (lend_view _ _ e)
  · unfold Mi.take at e
    split at e
    · cases e
    · exact gr.fh _ _ e
  · unfold Mi.take
    by_cases q : lend F H a = none
    · rw [if_neg (fun z => z.1 q)]
      exact gr.new a h1 q
    · rw [if_pos ⟨q, h2⟩]
theorem ExOk.take {c : Str} {fs : List D} {cls : Value} {od : Option Addr} {F' : Hp} (s : Sub (lend F H) F') (ok : ExOk g c fs cls od F') : ExOk g c fs cls od (Mi.take F (lend F H) F') := by
  obtain ⟨i, h1, h2, h3, h4⟩ := ok
  refine ⟨i, h1, h2, h3, fun z => ?_⟩
  obtain ⟨dd, vs, k1, k2, k3, k4, k5⟩ := h4 z
  exact ⟨dd, vs, k1, take_keep lend_lst s k2 (fun _ z => nomatch z), k3.scal k5, k4, k5⟩
/-- an answer without lists -/
def outL (r : Res D) : Res D := r.bind fun d => if noL d = true then .ok d else .no
/-- what a callee is to do for us, seen by it with the lent view -/
def LendOk (g : Gm) (b : Bs) (F : Hp) (m : Res D) (σ : L2.St) (H : Hp) (Q : VK) : Prop := match m with
  | .ok d => Gives g (lend F H) H d Q
  | .ex c fs => ∀ cls od F' H', Grow (lend F H) H F' H' → ExOk g c fs cls od F' → b.W cls od σ H'
  | .no => False
theorem lend_post {m : Res D} {Q : VK} (p : Post g b Γ F (outL m) σ H Q) : LendOk g b F m σ H Q := by
  obtain ⟨rf, p⟩ := p
  cases m with
  | ok d =>
    have p : match (if noL d = true then Res.ok d else .no) with
      | .ok d => ∀ v F' H', Grow F H F' H' → Enc g F' v d → Q v H'
      | .ex c fs => ∀ cls od F' H', Grow F H F' H' → Rf g b b.cx F' σ H' → ExOk g c fs cls od F' → b.W cls od σ H'
      | .no => False := p
    by_cases q : noL d = true
    · rw [if_pos q] at p
      exact fun v F' H' gr en => p v _ H' (lend_back rf.gr.fh gr) (Enc.tkn lend_lst gr.ff en q)
    · rw [if_neg q] at p
      exact p.elim
  | ex c fs => exact fun cls od F' H' gr ok => p cls od _ H' (lend_back rf.gr.fh gr) (rf.grow (lend_back rf.gr.fh gr)).cx (ok.take gr.ff)
  | no => exact p
theorem tL_bind {ra : Res (List D)} {f : List D → Res D} {Q : VK} {K : List V → Hp → Prop} (h : Post g b Γ F (ra.bind f) σ H Q) (k : ∀ d v F' H', ra = .ok d → Grow F H F' H' → EncL g (lend F' H') v d → Post g b Γ F' (f d) σ H' Q → K v H') : tL g b Γ ra σ H K := by
  refine ⟨F, h.1, ?_⟩
  cases ra with
  | ok d => exact fun v F' H' gr en => k d v F' H' rfl gr en (Post.grow h gr)
  | ex c fs => exact h.2
  | no => exact h.2
/-- f(e, ..), lists of one's own lent -/
theorem e_callL {k j : Nat} {m : List D → Res D} (T : DefT X.prog X.w g X.mg X.base x k m) (hr : Room j X.A) (tk : Takes X b.W) (ha : PA X (e :: es) (tL g b Γ rs)) (hj : k ≤ j := by decide) (hg : Gl X x := by rfl) (hdb : (x == ("__debug__" : Str)) = false := by decide)
    (he : starEach (e :: es) X.env = (false, eval e X.env) :: starEach es X.env := by rfl) (hpl : (backTo pos (starEach es X.env)).any (·.1) = false := by rfl) (hK : X.K = g.K := by rfl) :
    PE X (.Call (.Name x p) (e :: es) [] pos) (tE g b Γ (rs.bind fun ds => outL (m ds))) := by
  obtain ⟨f, fd, ps, Fn, gm, kp, bd⟩ := T.ex
  rw [← hK] at Fn kp bd
  refine ⟨fun pins s σ H Q I h => ?_⟩
  obtain ⟨F, h⟩ := h
  refine wpAny_Call_Name_kw (ld_glob I hg gm ?_ hdb)
  refine PySem.W.callWith_K (h₀ := X.base) I.ok.mod.kin kp (thn (ha.run pos pins s σ H (fun vs H1 => ∃ ds F1, Post g b Γ F1 (outL (m ds)) σ H1 Q ∧ EncL g (lend F1 H1) vs ds) I (tL_bind h fun d v F1 H1 _ g1 en p1 => ⟨d, F1, p1, en⟩)) fun us s1 ⟨vs, H1, I1, rv, ds, F1, p1, en⟩ => ⟨I1.kIn, ?_⟩) he hpl
  refine run_fnS Fn (hr.mono hj) bd (passAt tk σ) I1 rv ⟨lend F1 H1, ds, lend_sub p1.1.gr.fh, en, ?_⟩
  have p2 := lend_post p1
  cases q : m ds with
  | ok d =>
    rw [q] at p2
    exact p2
  | ex c fs =>
    rw [q] at p2
    exact p2
  | no =>
    rw [q] at p2
    exact p2
theorem make_goL {i : CI} {m : List D → Res D} {Q : VK} {ds : List D} {ws : List V} {a dx : Addr} (p1 : Post g b Γ F (outL (m ds)) σ H Q) (en : EncL g (lend F H) ws ds) (h1 : H a = none) (h2 : H dx = none) (h3 : dx ≠ a) :
    spI g i m (.ref a :: ws) (upd (upd H dx (.own a)) a (.ins i.C dx [])) (fun v H2 => v = .non ∧ Q (.ref a) H2) (WE b.W σ) := by
  refine ⟨lend F H, H, ds, a, dx, ws, rfl, h1, h2, h3, rfl, lend_sub p1.1.gr.fh, en, ?_⟩
  have p2 := lend_post p1
  cases q : m ds with
  | ok d =>
    rw [q] at p2
    exact fun F' H' gr ed => ⟨rfl, p2 _ F' H' gr ed⟩
  | ex c fs =>
    rw [q] at p2
    exact p2
  | no =>
    rw [q] at p2
    exact p2
/-- C(e, .., k = v, ..), lists of one's own lent -/
theorem e_makekL {k n j : Nat} {ks : List Str} {kws : List Keyword} {rk : Res (List D)} {gD : List D → List D → List D} {m : List D → Res D} (T : MakeT X.prog X.w g X.mg X.base x k n ks gD m) (hr : Room j X.A) (tk : Takes X b.W) (ha : PA X (e :: es) (tL g b Γ rs)) (hkw : PK X kws (tL g b Γ rk)) (hj : k + 1 ≤ j := by decide)
    (hl : ∀ ds, rs = .ok ds → ds.length = n) (hlk : ∀ ds, rk = .ok ds → ds.length = ks.length) (hg : Gl X x := by rfl) (hdb : (x == ("__debug__" : Str)) = false := by decide)
    (hall : (backToKw pos (keywordEach kws X.env)).all (·.1.isSome) = true := by rfl) (hks : (backToKw pos (keywordEach kws X.env)).filterMap (·.1) = ks := by rfl)
    (he : starEach (e :: es) X.env = (false, eval e X.env) :: starEach es X.env := by rfl) (hpl : ((backTo pos (starEach (e :: es) X.env)).any (·.1) || (backToKw pos (keywordEach kws X.env)).any (·.1.isNone)) = false := by rfl) (hK : X.K = g.K := by rfl) :
    PE X (.Call (.Name x p) (e :: es) kws pos) (tE g b Γ (rs.bind fun ds => rk.bind fun es => outL (m (gD ds es)))) := by
  obtain ⟨i, f, fd, ps, g', gV, hi, gm, M, Fn, hb, hG⟩ := T.ex
  rw [← hK] at Fn hb M
  refine ⟨fun pins s σ H Q I h => ?_⟩
  obtain ⟨F, h⟩ := h
  refine wpAny_Call_Name_kw (ld_glob I hg gm ?_ hdb)
  refine PySem.W.callWith_KW (h₀ := X.base) I.ok.mod.kin M.kp hall (thn (ha.run pos pins s σ H (fun vs H1 => ∃ ds F1, rs = .ok ds ∧ Post g b Γ F1 (rk.bind fun es => outL (m (gD ds es))) σ H1 Q ∧ EncL g (lend F1 H1) vs ds) I (tL_bind h fun d v F1 H1 hrs g1 en p1 => ⟨d, F1, hrs, p1, en⟩))
    fun us s1 ⟨vs, H1, I1, r, ds, F1, hrs, p1, en⟩ => ?_) hpl he
  refine thn (hkw.run pos pins s1 σ H1 (fun zs H2 => ∃ es F2, rk = .ok es ∧ Post g b Γ F2 (outL (m (gD ds es))) σ H2 Q ∧ EncL g (lend F2 H2) zs es ∧ EncL g (lend F2 H2) vs ds) I1 (tL_bind p1 fun d v F2 H2 hrk g2 en2 p2 => ⟨d, F2, hrk, p2, en2, en.mono (lend_grow g2 p1.1.gr.fh)⟩)) fun ws s2 ⟨zs, H2, I2, rz, es', F2, hrk, p2, enz, en2⟩ => ⟨I2.kIn, ?_⟩
  rw [hks]
  have l1 : vs.length = n := by rw [en.len, hl ds hrs]
  have l2 : zs.length = ks.length := by rw [enz.len, hlk es' hrk]
  refine run_makeS M Fn (hr.mono hj) hb (passAt tk σ) I2 r rz l1 l2 fun a dx h1 h2 h3 => ?_
  obtain ⟨ws, e1, e2⟩ := hG (lend F2 H2) a vs zs ds es' l1 l2 en2 enz
  rw [e1]
  exact make_goL p2 e2 h1 h2 h3
end
end Mi
/-! Mi9: more statements; facts of the top. -/
namespace Mi
open L2 PySem PySem.Spec PyProof.Rows
section
variable {X : Cx} {g : Gm} {b : Bs} {Γ : Ctx} {F : Hp} {σ : L2.St} {H : Hp} {e e1 e2 : Expr} {es : List Expr} {pos p : Pos} {r ra rb ro : Res D} {rs : Res (List D)} {x f : Str} {β τ υ : Type} {Γb : β → Ctx} {Γn : τ → Ctx} {rest body : List Stmt}
/-- xs.insert(i, e); rest, xs a list of one's own -/
def insD (xs : List D) (i d : D) : Option (List D) := match i with
  | .int n => if 0 ≤ n ∧ n < 2 ^ 62 ∧ xs.length < cap then some (xs.take n.toNat ++ [d] ++ xs.drop n.toNat) else none
  | _ => none
theorem b_ins {i : Nat} {xs : List D} {k : List D → Fl β τ} {p1 p2 p3 : Pos} (hi : PE X e1 (tE g b Γ ra)) (he : PE X e (tE g b Γ rb)) (hrest : ∀ ys, PSs X rest (tS g b Γb (Γ.set i (some (.l ys))) (k ys) Γn))
    (hΓ : Γ[i]? = some (some (.l xs)) := by rfl) (hc : (b.cx[i]?).join = none := by rfl) (hN : X.N[i]? = some x := by rfl) (hv : Vis X.env.scope x := by first | exact Or.inl rfl | exact Or.inr (Or.inl rfl) | exact Or.inr (Or.inr rfl))
    (hd : (x == ("__debug__" : Str)) = false := by decide) (hcd : (x == ("__classdict__" : Str)) = false := by decide)
    (hbase : attributeBase (.Name x p1) "insert" X.env (eval (.Name x p1) X.env) = eval (.Name x p1) X.env := by rfl)
    (hfew : ((backTo p3 (starEach [e1, e] X.env)).all (fun x => !x.1) && (backToKw p3 (keywordEach [] X.env)).all (fun x => x.1.isSome) && decide ([e1, e].length + ([] : List Keyword).length + (if ([] : List Keyword).isEmpty then 0 else 1) < 30)) = true := by rfl)
    (hline : (p2.endLine == p3.line) = true := by rfl) (hs : starEach [e1, e] X.env = (false, eval e1 X.env) :: starEach [e] X.env := by rfl) (hs2 : starEach [e] X.env = (false, eval e X.env) :: starEach [] X.env := by rfl) (hplain : (backTo p3 (starEach [e] X.env)).any (·.1) = false := by rfl)
    (hsw : swapsWith (.Call (.Attribute (.Name x p1) "insert" p2) [e1, e] [] p3) none pos.line X.env = pure false := by rfl) :
    PSs X (.Expr (.Call (.Attribute (.Name x p1) "insert" p2) [e1, e] [] p3) pos :: rest) (tS g b Γb Γ (ra.bindF fun i => rb.bindF fun d => setK (insD xs i d) k) Γn) := by
  refine PSs.imp (pss_cons (ps_expr (pe_bm PySem.F.plainAttrs_list PySem.F.slot_list_insert PySem.F.type_list_insert mt_insert (pe_var hN hv hd hcd) (pa_cons hi (pa_cons he pa_nil hs2) hs) hbase hfew hline hs hplain) hsw) (PSs.ex fun ys => hrest ys)) fun Ds σ H h => ?_
  obtain ⟨F, rf, h⟩ := h
  obtain ⟨a, vs, h1, h2, h3, h4, h5⟩ := rf.own hΓ
  refine ⟨_, h1, .inl ⟨rfl, vs, SqL.of h4⟩, tS_bindG rf h fun di vi F1 H1 ed gr1 rf1 en1 k1 => tS_bindG rf1 k1 fun d v F2 H2 ed2 gr2 rf2 en2 k2 => ?_⟩
  obtain ⟨a', vs', h1', h2', h3', h4', h5'⟩ := rf2.own hΓ
  rw [h1] at h1'
  cases h1'
  cases q : insD xs di d with
  | none =>
    rw [q] at k2
    exact k2.elim
  | some ys =>
    rw [q] at k2
    cases en1 with
    | int n =>
      obtain ⟨hc1, rfl⟩ := if_some (show (if 0 ≤ n ∧ n < 2 ^ 62 ∧ xs.length < cap then some (xs.take n.toNat ++ [d] ++ xs.drop n.toNat) else none) = some ys from q)
      refine ⟨a, vs', n, v, rfl, rfl, h4', cap_lt (by rw [h5'.len]; exact hc1.2.2), hc1.1, Int.lt_trans hc1.2.1 (by decide), _, F2, rf2.mutl hΓ h1 h4' h2' h3' (((h5'.take _).app (.cons en2 .nil)).app (h5'.drop _)) hc, k2⟩
    | _ => cases q
/-- C.f, a constant of a class -/
structure ConstT (g : Gm) (mg : Str → Option Value) (x f : Str) (d : D) : Prop where
  ex : ∃ C mc v u, mg x = some (.ref C) ∧ ClX.CRead g.K C mc ∧ ClX.CVal g.K C mc f v u ∧ ∀ F, Enc g F v d
theorem e_cval {d : D} (T : ConstT g X.mg x f d) (hg : Gl X x := by rfl) (hdb : (x == ("__debug__" : Str)) = false := by decide) (hb : attributeBase (.Name x p) f X.env (eval (.Name x p) X.env) = eval (.Name x p) X.env := by rfl) (hK : X.K = g.K := by rfl) :
    PE X (.Attribute (.Name x p) f pos) (tE g b Γ (.ok d)) := by
  obtain ⟨C, mc, v, u, gm, r, k, en⟩ := T.ex
  rw [← hK] at r k
  refine PE.imp (ClX.pe_cval (pe_glob (v := .ref C) hg gm rfl hdb) hb) fun σ H Q q => ?_
  obtain ⟨F, p⟩ := q
  exact ⟨C, mc, v, u, rfl, r, k, p.done (en F)⟩
end

/-! ### facts of the top -/
section
open He
variable {K : PySem.W.Frag} {h : Heap} {mg : Str → Option Value}
/-- a class with slots -/
def sclsB (K : PySem.W.Frag) (C : Addr) : Bool := PySem.W.plainGet K C Str.empty && (PySem.W.isClsIn K C && (PySem.W.plainOver K C && eqO (PySem.W.findIn K (.ref C) "__setattr__") (some (some (.builtin "object.__setattr__")))))
theorem scls_ok {C : Addr} (c : sclsB K C = true) : SlX.SCls K C := by
  obtain ⟨c1, c⟩ := ba c
  obtain ⟨c2, c⟩ := ba c
  obtain ⟨c3, c4⟩ := ba c
  exact ⟨c1, c2, c3, eqO_ok c4⟩
def slotB (K : PySem.W.Frag) (C : Addr) (f : Str) (i : Nat) : Bool := eqO (PySem.W.findIn K (.ref C) f) (some (some (.ref (ma K C f)))) && (eqO (PySem.W.specialIn K (.ref (ma K C f)) "__get__") (some (some (.builtin "member_descriptor.__get__"))) &&
  (decide (PySem.W.takesIn K (.ref (ma K C f)) = some true) && (decide (PySem.W.typeIn K (.ref (ma K C f)) = some (.type "member_descriptor")) && (decide (PySem.W.slotIn K (ma K C f) C = some i) && decide (i < 1000)))))
theorem slot_ok {C : Addr} {f : Str} {i : Nat} (c : slotB K C f i = true) : SlX.Slot1 K C f (ma K C f) i := by
  obtain ⟨c1, c⟩ := ba c
  obtain ⟨c2, c⟩ := ba c
  obtain ⟨c3, c⟩ := ba c
  obtain ⟨c4, c⟩ := ba c
  obtain ⟨c5, c6⟩ := ba c
  exact ⟨eqO_ok c1, eqO_ok c2, of_decide_eq_true c3, of_decide_eq_true c4, of_decide_eq_true c5, of_decide_eq_true c6⟩
def slotsB (K : PySem.W.Frag) (C : Addr) : List Str → List Nat → Bool
  | [], _ => true
  | f :: fs, i :: is => slotB K C f i && slotsB K C fs is
  | _ :: _, [] => false
theorem slots_ok {C : Addr} : ∀ {fs : List Str} {is : List Nat}, slotsB K C fs is = true → ∀ (j : Nat) (f : Str), fs[j]? = some f → ∃ p q, is[j]? = some q ∧ SlX.Slot1 K C f p q
  | [], _, _, j, f, e => by simp at e
  | _ :: _, [], c, _, _, _ => by cases c
  | f0 :: fs, i :: is, c, 0, f, e => by
    obtain ⟨c1, _⟩ := ba c
    simp at e
    subst e
    exact ⟨_, i, rfl, slot_ok c1⟩
  | f0 :: fs, i :: is, c, j + 1, f, e => by
    obtain ⟨_, c2⟩ := ba c
    obtain ⟨p, q, h1, h2⟩ := slots_ok c2 j f (by simpa using e)
    exact ⟨p, q, by simpa using h1, h2⟩
/-- a class by its name: its facts as one Bool -/
def ciOk (K : PySem.W.Frag) (x : Str) (k : Kd) (fs : List Str) (pl : List Nat) : Bool := match k with
  | .slots => sclsB K (ga K x) && (decide pl.Nodup && slotsB K (ga K x) fs pl)
  | .dict => (Fa.cls x).ok K && fs.all fun f => (Fa.noat x f).ok K
  | .exc => (Fa.exc x).ok K || !fs.isEmpty
theorem ci_ok {x : Str} {k : Kd} {fs : List Str} {pl : List Nat} (c : ciOk K x k fs pl = true) : ClsOk K ⟨ga K x, k, fs, pl⟩ := by
  refine ⟨fun e => ?_, fun e => ?_⟩
  · have e : k = .slots := e
    subst e
    obtain ⟨c1, c2⟩ := ba c
    obtain ⟨c2, c3⟩ := ba c2
    exact ⟨scls_ok c1, of_decide_eq_true c2, slots_ok c3⟩
  · have e : k = .dict := e
    subst e
    obtain ⟨c1, c2⟩ := ba c
    exact ⟨cls_ok c1, fun f hf => noat_ok (List.all_eq_true.mp c2 f hf)⟩
/-- the classes by a table -/
def ciT (K : PySem.W.Frag) : List (Str × Kd × List Str × List Nat) → Str → Option CI
  | [], _ => none
  | (x, k, fs, pl) :: r, c => if c = x then some ⟨ga K x, k, fs, pl⟩ else ciT K r c
theorem cis_ok {t : List (Str × Kd × List Str × List Nat)} (c : (t.all fun q => ciOk K q.1 q.2.1 q.2.2.1 q.2.2.2) = true) : CisOk ⟨K, ciT K t⟩ := by
  intro n i e
  have e : ciT K t n = some i := e
  show ClsOk K i
  induction t with
  | nil => cases e
  | cons q r ih =>
    obtain ⟨x, k, fs, pl⟩ := q
    obtain ⟨c1, c2⟩ := ba (show (ciOk K x k fs pl && r.all fun q => ciOk K q.1 q.2.1 q.2.2.1 q.2.2.2) = true from c)
    have e2 : (if n = x then some (⟨ga K x, k, fs, pl⟩ : CI) else ciT K r n) = some i := e
    split at e2
    · cases e2
      exact ci_ok c1
    · exact ih c2 e2 e2
theorem err_ok {g : Gm} (X : g.K.In h) (G : h.Ns mainGlobals mg) {x : Str} {fs : List Str} {k : Kd} {pl : List Nat} (e : g.ci x = some ⟨ga g.K x, k, fs, pl⟩) (c1 : (Fa.exc x).ok g.K = true) (c2 : (Fa.glo x).ok g.K = true) : ErrT g mg x := by
  obtain ⟨h1, h2, h3, h4⟩ := exc_ok c1
  exact ⟨⟨_, e, h1, glo_ok X G c2, h2, h3, h4⟩⟩
def cintB (K : PySem.W.Frag) (x f : Str) (i : Int) : Bool := PySem.W.readsIn K (ga K x) (.type "type") && (eqO (PySem.W.specialIn K (.ref (ga K x)) "__getattribute__") (some (some (.builtin "type.__getattribute__"))) && (match PySem.W.findCls K (.ref (ga K x)) (.type "type") f with
  | some (.val (.int j _)) => decide (j = i)
  | _ => false))
theorem cint_ok {g : Gm} (X : g.K.In h) (G : h.Ns mainGlobals mg) {x f : Str} {i : Int} (c : cintB g.K x f i = true) (c2 : (Fa.glo x).ok g.K = true) : ConstT g mg x f (.int i) := by
  obtain ⟨h1, c⟩ := ba c
  obtain ⟨h2, h3⟩ := ba c
  split at h3
  · rename_i j t e
    have ej := of_decide_eq_true h3
    subst ej
    exact ⟨⟨_, _, .int j, .int j t, glo_ok X G c2, ⟨h1, eqO_ok h2⟩, ⟨e, ⟨t, rfl⟩⟩, fun _ => .int j⟩⟩
  · cases h3
end
/-! ### the Hook: a Bool of one's own, and the defs -/
section
open He
def obsM (ex : PySem.W.Frag → Bool) (fn : List He5.DefA) (K : PySem.W.Frag) : He.AlD := (ex K && fn.all fun d => d.ok K, fn.map fun d => He5.fnA K (d.at_ K))
def SaysM (ex : PySem.W.Frag → Bool) (fn : List He5.DefA) (K : PySem.W.Frag) : Prop := obsM ex fn K = He5.valA fn
def obsMG (n : Nat) (ex : PySem.W.Frag → Bool) (fn : List He5.DefA) (g : Addr → Option Obj) : He.AlD := obsM ex fn (He.frG g (He5.asA g n))
def hookM (n : Nat) (ex : PySem.W.Frag → Bool) (fn : List He5.DefA) : PySem.W.Hook where
  α := He.AlD
  obs := fun s => obsMG n ex fn s.heap.get?
  val := fun _ => He5.valA fn
  says := fun _ h => ∃ K : PySem.W.Frag, K.In h ∧ SaysM ex fn K
  of := fun _ _ e => ⟨_, frG_in, e⟩
  keeps := fun _ _ _ ⟨K, hK, c⟩ k => ⟨K, PySem.W.Frag.In.keeps hK k, c⟩
theorem obsMG_eq {n : Nat} {ex : PySem.W.Frag → Bool} {fn : List He5.DefA} {g : Addr → Option Obj} {s : Shared} (h : ∀ a, g a = s.heap.get? a) : obsMG n ex fn g = (hookM n ex fn).obs s := by
  have e : g = s.heap.get? := funext h
  rw [e] <;> rfl
variable {ex : PySem.W.Frag → Bool} {fn : List He5.DefA} {K : PySem.W.Frag}
theorem SaysM.more (c : SaysM ex fn K) : ex K = true := (ba (show (ex K && fn.all fun d => d.ok K) = true from congrArg (fun z : He.AlD => z.1) c)).1
theorem SaysM.def_ (c : SaysM ex fn K) (i : Nat) {d : He5.DefA} (h : fn[i]? = some d := by rfl) : ∃ fd, L2.FunD K d.name d.qual d.params d.body d.scope (d.dvs K) (d.kws K) (d.at_ K) fd := by
  have c2 := (ba (show (ex K && fn.all fun d => d.ok K) = true from congrArg (fun z : He.AlD => z.1) c)).2
  have e : fn.map (fun d => He5.fnA K (d.at_ K)) = fn.map He5.DefA.val := congrArg (fun z : He.AlD => z.2) c
  have e2 : (fn.map fun d => He5.fnA K (d.at_ K))[i]? = (fn.map He5.DefA.val)[i]? := by rw [e]
  rw [List.getElem?_map, List.getElem?_map, h] at e2
  exact He5.DefA.funD (Option.some.inj e2) (List.all_eq_true.mp c2 d (List.mem_of_getElem? h))
end

/-! ### the law's own def: nothing leaves it -/
theorem calm_of {P : Program} {w : World} {K : PySem.W.Frag} {mg : Str → Option Value} {base : Heap} {k : Nat} {f : Addr} {fd : FuncData} {ps : List Str} {sp : Sp} (F : FnOk P w K mg base (L2.CX P w) k f fd ps sp) :
    FnOk P w K mg base CX0 k f fd ps (fun vs H Q _ => sp vs H Q fun _ _ _ => False) :=
  ⟨fun vs H Q E h => F.len vs H Q _ h, fun A outer s H args us vs Q E hr he hb hv h => codeAny_mono (F.run A outer s H args us vs Q (fun _ _ _ => False) hr he hb hv h) fun r s' hq => by
    cases r with
    | error e =>
      obtain ⟨a, B, H', cls, d, h1, h2, h3, h4, h5, h6, h7, h8⟩ := (show L2.CX P w outer H s (fun _ _ _ => False) e s' from hq)
      exact h8.elim
    | ok fl => cases fl <;> exact hq⟩
/-- the script -/
def scrD (ns : List Int) : D := .dict [(.none, .list (ns.map .int))]
theorem encInts {g : Gm} {F : Hp} : ∀ ns : List Int, EncL g F (ns.map V.int) (ns.map PyData.int)
  | [] => .nil
  | n :: ns => .cons (.int n) (encInts ns)
theorem law_sp {g : Gm} {m : List D → Res D} {H : Hp} {a : Addr} {ns : List Int} (hS : SqL g.K H a (ns.map V.int)) (h : m [scrD ns] = .ok (.bool true)) : spD g m [.ref a] H (fun v _ => v = .bl true) fun _ _ _ => False := by
  refine ⟨H, [scrD ns], Sub.refl _, .cons (.dct (.scr hS (encInts ns))) .nil, ?_⟩
  rw [h]
  intro v F' H' _ en
  cases en
  rfl
end Mi
/-! Mi10: methods, properties, own classes as the second of isinstance, by data. -/
namespace Mi
open L2 PySem PySem.Spec PyProof.Rows
/-- an instance of the class c? -/
def isC (c : Str) : D → Bool
  | .dict ((.none, .str x) :: _) => decide (x = c)
  | _ => false
theorem Enc.isC {g : Gm} {F : Hp} {v : V} {d : D} {c : Str} (h : Enc g F v d) (q : isC c d = true) : ∃ a dx i ns vs kvs, v = .ref a ∧ d = .dict ((.none, .str c) :: kvs) ∧ g.ci c = some i ∧ EncF g F ns vs kvs ∧ ObjAt i F a dx ns vs := by
  cases h with
  | dct k =>
    cases k with
    | obj h1 h2 h3 =>
      have e := of_decide_eq_true (show decide (_ = c) = true from q)
      subst e
      exact ⟨_, _, _, _, _, _, rfl, rfl, h1, h2, h3⟩
    | scr _ _ => cases q
    | dk _ kp =>
      cases kp with
      | nil => cases q
      | consI _ _ => cases q
      | consS _ _ => cases q
  | _ => cases q
/-- a def of a class, called at an instance -/
structure MethT (P : Program) (w : World) (g : Gm) (mg : Str → Option Value) (base : Heap) (c m : Str) (k : Nat) (mm : List D → Res D) : Prop where
  ex : ∃ i f fd ps, g.ci c = some i ∧ Meth g.K i.C m f ∧ FnOk P w g.K mg base (L2.CX P w) k f fd ps (spD g mm) ∧ Binds g.K fd ps [] ∧ (i.k = .dict → ∀ f ∈ i.fs, ¬ f = m) ∧ i.k ≠ .exc
section
variable {X : Cx} {g : Gm} {b : Bs} {Γ : Ctx} {F : Hp} {σ : L2.St} {H : Hp} {e e1 e2 : Expr} {es : List Expr} {pos p : Pos} {r ra rb ro : Res D} {rs : Res (List D)} {x f : Str}
theorem zip_none {m : Str} : ∀ {ns : List Str} {vs : List V}, (∀ f ∈ ns, ¬ f = m) → (ns.zip vs).lookup m = none
  | [], _, _ => rfl
  | _ :: _, [], _ => rfl
  | n :: ns, v :: vs, h => by
    have h1 : (m == n) = false := by
      have := h n (by simp)
      simpa using fun z => this z.symm
    show List.lookup m ((n, v) :: ns.zip vs) = none
    simp only [List.lookup, h1]
    exact zip_none fun f hf => h f (by simp [hf])
/-- the method is found -/
theorem meth_go {pins : List (Addr × Obj)} {s : Shared} {a dx fa : Addr} {i : CI} {ns : List Str} {vs : List V} {m : Str} {pl : Sem Bool} {Q : Value × List Value → Shared → Prop} {E : Value → Shared → Prop} (hK : X.K = g.K) (co : ClsOk g.K i) (I : Inv X pins σ H s) (o : ObjAt i H a dx ns vs) (hm : Meth g.K i.C m fa)
    (hf : i.k = .dict → ∀ f ∈ i.fs, ¬ f = m) (hx : i.k ≠ .exc) (q : Q (.ref fa, [.ref a]) s) : wpAny (model X.prog X.w) X.A (getMethod (.ref a) m pl) Q E s := by
  rcases o with ⟨ks, en, el, o⟩ | ⟨kd, el, ha, hd, hin⟩
  · obtain ⟨c, nd, sl⟩ := co.sl ks
    rcases o with ⟨z, z1, _⟩ | ⟨ss, h0, z1, z2⟩
    · exact SlX.getmethsl_ok I (.inl ⟨z1, rfl⟩) (hK ▸ c) (hK ▸ hm) q
    · exact SlX.getmethsl_ok I (.inr ⟨z1, z2⟩) (hK ▸ c) (hK ▸ hm) q
  · obtain ⟨c, na⟩ := co.di kd
    exact getmeth_ok I ha (hK ▸ c) (hK ▸ hm) (zip_none fun f h => hf kd f (hin f h)) q
/-- o.m(e, ..) -/
theorem e_meth {c m : Str} {k j : Nat} {mm : List D → Res D} {apos : Pos} {pl : Sem Bool} (T : MethT X.prog X.w g X.mg X.base c m k mm) (co : CisOk g) (hr : Room j X.A) (tk : Takes X b.W) (ho : PE X e1 (tE g b Γ ro)) (ha : PA X (e :: es) (tA g b Γ rs)) (hj : k ≤ j := by decide)
    (hst : starEach (e :: es) X.env = (false, eval e X.env) :: starEach es X.env := by rfl) (hpl : (backTo pos (starEach es X.env)).any (·.1) = false := by rfl)
    (ht : eval (.Call (.Attribute e1 m apos) (e :: es) [] pos) X.env = (do
      let ov ← eval e1 X.env
      standAt apos.atName
      let (f, first) ← holding [ov] (getMethod ov m pl)
      callWith pos f first (backTo pos (starEach (e :: es) X.env)) (backToKw pos (keywordEach [] X.env))) := by rfl) (hK : X.K = g.K := by rfl) :
    PE X (.Call (.Attribute e1 m apos) (e :: es) [] pos) (tE g b Γ (ro.bind fun o => if isC c o = true then rs.bind fun ds => mm (o :: ds) else .no)) := by
  obtain ⟨i, fa, fd, ps, hi, hm, Fn, bd, hf, hx⟩ := T.ex
  refine ⟨fun pins s σ H Q I h => ?_⟩
  obtain ⟨F, h⟩ := h
  refine PySem.W.methodCall_KW (pl := pl) (thn (ho.run pins s σ H (fun v H1 => ∃ d F1, Post g b Γ F1 (if isC c d = true then rs.bind fun ds => mm (d :: ds) else .no) σ H1 Q ∧ Enc g F1 v d) I (tE_bind h fun d v F1 H1 _ g1 en p1 => ⟨d, F1, p1, en⟩)) fun u s1 ⟨v, H1, I1, rv, d, F1, p1, en⟩ => ?_) ht
  by_cases q : isC c d = true
  · rw [if_pos q] at p1
    obtain ⟨a, dx, i', ns, vs, kvs, rfl, rfl, hi', ef, ob⟩ := en.isC q
    rw [hi] at hi'
    cases hi'
    cases rv
    refine meth_go hK (co _ _ hi) I1 (p1.1.gr.fh.objAt ob) hm hf hx ?_
    rw [← hK] at Fn bd hm
    refine PySem.W.callWith_K (first := [.ref a]) (h₀ := X.base) I1.ok.mod.kin hm.kp (thn (ha.run pos pins s1 σ H1 (fun ws H2 => ∃ ds F2, Post g b Γ F2 (mm (.dict ((.none, .str c) :: kvs) :: ds)) σ H2 Q ∧ EncL g F2 ws ds ∧ Enc g F2 (.ref a) (.dict ((.none, .str c) :: kvs))) I1 (tA_bind p1 fun ds ws F2 H2 _ g2 en2 p2 => ⟨ds, F2, p2, en2, en.mono g2.ff⟩)) fun us s2 ⟨ws, H2, I2, r2, ds, F2, p2, en2, en3⟩ => ⟨I2.kIn, ?_⟩) hst hpl
    refine run_fnS (us := .ref a :: us) (vs := .ref a :: ws) Fn (hr.mono hj) bd (passAt tk σ) I2 (.cons rfl r2) ⟨F2, _, p2.1.gr.fh, .cons en3 en2, ?_⟩
    obtain ⟨rf, p2⟩ := p2
    cases q2 : mm (.dict ((.none, .str c) :: kvs) :: ds) with
    | ok d =>
      rw [q2] at p2
      exact p2
    | ex c fs =>
      rw [q2] at p2
      exact fun cls od F' H' gr ok => p2 cls od F' H' gr (rf.grow gr).cx ok
    | no =>
      rw [q2] at p2
      exact p2
  · rw [if_neg q] at p1
    exact p1.2.elim
/-- o.m() -/
theorem e_meth0 {c m : Str} {k j : Nat} {mm : List D → Res D} {apos : Pos} {pl : Sem Bool} (T : MethT X.prog X.w g X.mg X.base c m k mm) (co : CisOk g) (hr : Room j X.A) (tk : Takes X b.W) (ho : PE X e1 (tE g b Γ ro)) (hj : k ≤ j := by decide)
    (ht : eval (.Call (.Attribute e1 m apos) [] [] pos) X.env = (do
      let ov ← eval e1 X.env
      standAt apos.atName
      let (f, first) ← holding [ov] (getMethod ov m pl)
      callWith pos f first (backTo pos (starEach [] X.env)) (backToKw pos (keywordEach [] X.env))) := by rfl) (hK : X.K = g.K := by rfl) :
    PE X (.Call (.Attribute e1 m apos) [] [] pos) (tE g b Γ (ro.bind fun o => if isC c o = true then mm [o] else .no)) := by
  obtain ⟨i, fa, fd, ps, hi, hm, Fn, bd, hf, hx⟩ := T.ex
  refine ⟨fun pins s σ H Q I h => ?_⟩
  obtain ⟨F, h⟩ := h
  refine PySem.W.methodCall_KW (pl := pl) (thn (ho.run pins s σ H (fun v H1 => ∃ d F1, Post g b Γ F1 (if isC c d = true then mm [d] else .no) σ H1 Q ∧ Enc g F1 v d) I (tE_bind h fun d v F1 H1 _ g1 en p1 => ⟨d, F1, p1, en⟩)) fun u s1 ⟨v, H1, I1, rv, d, F1, p1, en⟩ => ?_) ht
  by_cases q : isC c d = true
  · rw [if_pos q] at p1
    obtain ⟨a, dx, i', ns, vs, kvs, rfl, rfl, hi', ef, ob⟩ := en.isC q
    rw [hi] at hi'
    cases hi'
    cases rv
    refine meth_go hK (co _ _ hi) I1 (p1.1.gr.fh.objAt ob) hm hf hx ?_
    rw [← hK] at Fn bd hm
    refine PySem.W.callWith_K0 (first := [.ref a]) I1.kIn hm.kp ?_
    refine run_fnS (us := [.ref a]) (vs := [.ref a]) Fn (hr.mono hj) bd (passAt tk σ) I1 (.cons rfl .nil) ⟨F1, _, p1.1.gr.fh, .cons en .nil, ?_⟩
    obtain ⟨rf, p1⟩ := p1
    cases q2 : mm [.dict ((.none, .str c) :: kvs)] with
    | ok d =>
      rw [q2] at p1
      exact p1
    | ex c fs =>
      rw [q2] at p1
      exact fun cls od F' H' gr ok => p1 cls od F' H' gr (rf.grow gr).cx ok
    | no =>
      rw [q2] at p1
      exact p1
  · rw [if_neg q] at p1
    exact p1.2.elim
/-- a property -/
structure PropT (P : Program) (w : World) (g : Gm) (mg : Str → Option Value) (base : Heap) (c f : Str) (k : Nat) (mm : List D → Res D) : Prop where
  ex : ∃ i p fa fd ps, g.ci c = some i ∧ PropOf g.K i.C f p fa ∧ FnOk P w g.K mg base (L2.CX P w) k fa fd ps (spD g mm) ∧ Binds g.K fd ps []
def noX (r : Res D) : Res D := match r with
  | .ok d => .ok d
  | _ => .no
theorem e_prop {c f : Str} {k j : Nat} {mm : List D → Res D} (T : PropT X.prog X.w g X.mg X.base c f k mm) (co : CisOk g) (hr : Room j X.A) (ho : PE X e (tE g b Γ ro)) (hj : k + 1 ≤ j := by decide) (hb : attributeBase e f X.env (eval e X.env) = eval e X.env := by rfl) (hK : X.K = g.K := by rfl) :
    PE X (.Attribute e f pos) (tE g b Γ (ro.bind fun o => if isC c o = true then noX (mm [o]) else .no)) := by
  obtain ⟨i, pp, fa, fd, ps, hi, hp, Fn, bd⟩ := T.ex
  rw [← hK] at Fn bd hp
  refine ⟨fun pins s σ H Q I h => ?_⟩
  obtain ⟨F, h⟩ := h
  refine attr_of hb (thn (ho.run pins s σ H (fun v H1 => ∃ d F1, Post g b Γ F1 (if isC c d = true then noX (mm [d]) else .no) σ H1 Q ∧ Enc g F1 v d) I (tE_bind h fun d v F1 H1 _ g1 en p1 => ⟨d, F1, p1, en⟩)) fun u s1 ⟨v, H1, I1, rv, d, F1, p1, en⟩ => ?_)
  by_cases q : isC c d = true
  · rw [if_pos q] at p1
    obtain ⟨a, dx, i', ns, vs, kvs, rfl, rfl, hi', ef, ob⟩ := en.isC q
    rw [hi] at hi'
    cases hi'
    cases rv
    have sp : spD g mm [.ref a] H1 Q (fun _ _ _ => False) := by
      refine ⟨F1, _, p1.1.gr.fh, .cons en .nil, ?_⟩
      obtain ⟨rf, p1⟩ := p1
      cases q2 : mm [.dict ((.none, .str c) :: kvs)] with
      | ok d =>
        rw [q2] at p1
        exact p1
      | ex cn fs =>
        rw [q2] at p1
        exact p1.elim
      | no =>
        rw [q2] at p1
        exact p1.elim
    have hx : ∀ (H : Hp) (s : Shared) (e : Value) (s' : Shared), L2.CX X.prog X.w X.stack H s (fun _ _ _ => False) e s' → False := fun H s e s' ⟨a, B, H', cls, d, _, _, _, _, _, _, _, z⟩ => z
    rcases (p1.1.gr.fh.objAt ob) with ⟨ks, _, _, o⟩ | ⟨kd, _, ha, _, _⟩
    · obtain ⟨cl, _, _⟩ := (co _ _ hi).sl ks
      have st : ∃ ss, SlX.Slt H1 a i.C dx ss := by
        rcases o with ⟨_, z1, _⟩ | ⟨ss, _, z1, z2⟩
        · exact ⟨[], .inl ⟨z1, rfl⟩⟩
        · exact ⟨ss, .inr ⟨z1, z2⟩⟩
      obtain ⟨ss, st⟩ := st
      refine SlX.getprop_sl (CX := L2.CX X.prog X.w) (E := fun _ _ _ => False) (sp := fun vs H Q E => spD g mm (vs ++ []) H Q E) I1 st (hK ▸ cl) hp.at_ hp.get hp.tak hp.rec_ (Fn.raw bd .nil) (hr.mono hj) hx ?_
      exact sp
    · obtain ⟨cl, _⟩ := (co _ _ hi).di kd
      exact getprop_ok (CX := L2.CX X.prog X.w) (E := fun _ _ _ => False) I1 ha (hK ▸ cl) hp Fn (hr.mono hj) bd .nil (fun pins σ H s e s' _ z => (hx H s e s' z).elim) sp
  · rw [if_neg q] at p1
    exact p1.2.elim
end
/-! ### facts of the top: properties -/
section
open He
variable {K : PySem.W.Frag}
/-- the getter's def -/
def propG (K : PySem.W.Frag) (C : Addr) (f : Str) : Addr := match PySem.W.recIn K (ma K C f) "property" with
  | some (.ref g :: _) => g
  | _ => 0
def propB (K : PySem.W.Frag) (C : Addr) (f : Str) : Bool := eqO (PySem.W.findIn K (.ref C) f) (some (some (.ref (ma K C f)))) && (eqO (PySem.W.specialIn K (.ref (ma K C f)) "__get__") (some (some (.builtin "property.__get__"))) &&
  (decide (PySem.W.takesIn K (.ref (ma K C f)) = some true) && (match PySem.W.recIn K (ma K C f) "property" with
    | some (.ref _ :: _) => true
    | _ => false)))
theorem prop_ok {C : Addr} {f : Str} (c : propB K C f = true) : PropOf K C f (ma K C f) (propG K C f) := by
  obtain ⟨c1, c⟩ := ba c
  obtain ⟨c2, c⟩ := ba c
  obtain ⟨c3, c4⟩ := ba c
  refine ⟨eqO_ok c1, eqO_ok c2, of_decide_eq_true c3, ?_⟩
  split at c4
  · rename_i g r e
    unfold propG
    rw [e]
    exact ⟨r, rfl⟩
  · cases c4
end
end Mi
/-! Mi11: methods with a star parameter, own comparisons and operators, isinstance of own classes, is of bools, a, b = x, y. -/
namespace Mi
open L2 PySem PySem.Spec PyProof.Rows
/-- a def of a class, called at an instance by positions -/
structure MethR (P : Program) (w : World) (g : Gm) (mg : Str → Option Value) (base : Heap) (c m : Str) (k : Nat) (mm : List D → Res D) : Prop where
  ex : ∃ i f, g.ci c = some i ∧ Meth g.K i.C m f ∧ FnR P w g.K mg base (L2.CX P w) k f (spD g mm) ∧ (i.k = .dict → ∀ f ∈ i.fs, ¬ f = m) ∧ i.k ≠ .exc
theorem MethT.raw {P : Program} {w : World} {g : Gm} {mg : Str → Option Value} {base : Heap} {c m : Str} {k : Nat} {mm : List D → Res D} (T : MethT P w g mg base c m k mm) : MethR P w g mg base c m k mm := by
  obtain ⟨i, f, fd, ps, h1, h2, F, bd, h3, h4⟩ := T.ex
  refine ⟨i, f, h1, h2, (F.raw bd .nil).imp fun vs H Q E h => ?_, h3, h4⟩
  rw [List.append_nil]
  exact h
section
variable {X : Cx} {g : Gm} {b : Bs} {Γ : Ctx} {F : Hp} {σ : L2.St} {H : Hp} {e e1 e2 : Expr} {es : List Expr} {pos p : Pos} {r ra rb ro : Res D} {rs : Res (List D)} {x f : Str}
theorem run_fnRS {CX : CXT} {k : Nat} {f : Addr} {sp : Sp} {E : L2.St → XK} {pins : List (Addr × Obj)} {s : Shared} {Q : VK} {us : List Value} {vs : List V} (F : FnR X.prog X.w X.K X.mg X.base CX k f sp) (hr : Room k X.A) (hx : PassesAt CX X σ (E σ))
    (I : Inv X pins σ H s) (r : Vals vs us) (h : sp vs H Q (E σ)) : wpAny (model X.prog X.w) X.A (call (.ref f) us) (EP X pins σ Q) X.xe s := by
  refine wpAny_call (codeAny_mono (F X.A X.stack s H us vs Q (E σ) hr I.env0 r h) fun r s' hq => ?_)
  cases r with
  | error e => exact hx pins H s e s' I hq
  | ok fl =>
    cases fl with
    | ret u => exact I.after hq
    | next => exact False.elim hq
    | brk => exact False.elim hq
    | cont => exact False.elim hq
/-- what a callee promises, at data -/
theorem sp_of {mm : List D → Res D} {Q : VK} {ds : List D} {vs : List V} (p : Post g b Γ F (mm ds) σ H Q) (en : EncL g F vs ds) : spD g mm vs H Q (WE b.W σ) := by
  refine ⟨F, ds, p.1.gr.fh, en, ?_⟩
  obtain ⟨rf, p⟩ := p
  cases q : mm ds with
  | ok d =>
    rw [q] at p
    exact p
  | ex c fs =>
    rw [q] at p
    exact fun cls od F' H' gr ok => p cls od F' H' gr (rf.grow gr).cx ok
  | no =>
    rw [q] at p
    exact p
/-- o.m(e, ..) -/
theorem e_methR {c m : Str} {k j : Nat} {mm : List D → Res D} {apos : Pos} {pl : Sem Bool} (T : MethR X.prog X.w g X.mg X.base c m k mm) (co : CisOk g) (hr : Room j X.A) (tk : Takes X b.W) (ho : PE X e1 (tE g b Γ ro)) (ha : PA X (e :: es) (tA g b Γ rs)) (hj : k ≤ j := by decide)
    (hst : starEach (e :: es) X.env = (false, eval e X.env) :: starEach es X.env := by rfl) (hpl : (backTo pos (starEach es X.env)).any (·.1) = false := by rfl)
    (ht : eval (.Call (.Attribute e1 m apos) (e :: es) [] pos) X.env = (do
      let ov ← eval e1 X.env
      standAt apos.atName
      let (f, first) ← holding [ov] (getMethod ov m pl)
      callWith pos f first (backTo pos (starEach (e :: es) X.env)) (backToKw pos (keywordEach [] X.env))) := by rfl) (hK : X.K = g.K := by rfl) :
    PE X (.Call (.Attribute e1 m apos) (e :: es) [] pos) (tE g b Γ (ro.bind fun o => if isC c o = true then rs.bind fun ds => mm (o :: ds) else .no)) := by
  obtain ⟨i, fa, hi, hm, Fn, hf, hx⟩ := T.ex
  refine ⟨fun pins s σ H Q I h => ?_⟩
  obtain ⟨F, h⟩ := h
  refine PySem.W.methodCall_KW (pl := pl) (thn (ho.run pins s σ H (fun v H1 => ∃ d F1, Post g b Γ F1 (if isC c d = true then rs.bind fun ds => mm (d :: ds) else .no) σ H1 Q ∧ Enc g F1 v d) I (tE_bind h fun d v F1 H1 _ g1 en p1 => ⟨d, F1, p1, en⟩)) fun u s1 ⟨v, H1, I1, rv, d, F1, p1, en⟩ => ?_) ht
  by_cases q : isC c d = true
  · rw [if_pos q] at p1
    obtain ⟨a, dx, i', ns, vs, kvs, rfl, rfl, hi', ef, ob⟩ := en.isC q
    rw [hi] at hi'
    cases hi'
    cases rv
    refine meth_go hK (co _ _ hi) I1 (p1.1.gr.fh.objAt ob) hm hf hx ?_
    rw [← hK] at Fn hm
    refine PySem.W.callWith_K (first := [.ref a]) (h₀ := X.base) I1.ok.mod.kin hm.kp (thn (ha.run pos pins s1 σ H1 (fun ws H2 => ∃ ds F2, Post g b Γ F2 (mm (.dict ((.none, .str c) :: kvs) :: ds)) σ H2 Q ∧ EncL g F2 ws ds ∧ Enc g F2 (.ref a) (.dict ((.none, .str c) :: kvs))) I1 (tA_bind p1 fun ds ws F2 H2 _ g2 en2 p2 => ⟨ds, F2, p2, en2, en.mono g2.ff⟩)) fun us s2 ⟨ws, H2, I2, r2, ds, F2, p2, en2, en3⟩ => ⟨I2.kIn, ?_⟩) hst hpl
    exact run_fnRS (E := WE b.W) (us := .ref a :: us) (vs := .ref a :: ws) Fn (hr.mono hj) (passAt tk σ) I2 (.cons rfl r2) (sp_of p2 (.cons en3 en2))
  · rw [if_neg q] at p1
    exact p1.2.elim
/-- o.m() -/
theorem e_methR0 {c m : Str} {k j : Nat} {mm : List D → Res D} {apos : Pos} {pl : Sem Bool} (T : MethR X.prog X.w g X.mg X.base c m k mm) (co : CisOk g) (hr : Room j X.A) (tk : Takes X b.W) (ho : PE X e1 (tE g b Γ ro)) (hj : k ≤ j := by decide)
    (ht : eval (.Call (.Attribute e1 m apos) [] [] pos) X.env = (do
      let ov ← eval e1 X.env
      standAt apos.atName
      let (f, first) ← holding [ov] (getMethod ov m pl)
      callWith pos f first (backTo pos (starEach [] X.env)) (backToKw pos (keywordEach [] X.env))) := by rfl) (hK : X.K = g.K := by rfl) :
    PE X (.Call (.Attribute e1 m apos) [] [] pos) (tE g b Γ (ro.bind fun o => if isC c o = true then mm [o] else .no)) := by
  obtain ⟨i, fa, hi, hm, Fn, hf, hx⟩ := T.ex
  refine ⟨fun pins s σ H Q I h => ?_⟩
  obtain ⟨F, h⟩ := h
  refine PySem.W.methodCall_KW (pl := pl) (thn (ho.run pins s σ H (fun v H1 => ∃ d F1, Post g b Γ F1 (if isC c d = true then mm [d] else .no) σ H1 Q ∧ Enc g F1 v d) I (tE_bind h fun d v F1 H1 _ g1 en p1 => ⟨d, F1, p1, en⟩)) fun u s1 ⟨v, H1, I1, rv, d, F1, p1, en⟩ => ?_) ht
  by_cases q : isC c d = true
  · rw [if_pos q] at p1
    obtain ⟨a, dx, i', ns, vs, kvs, rfl, rfl, hi', ef, ob⟩ := en.isC q
    rw [hi] at hi'
    cases hi'
    cases rv
    refine meth_go hK (co _ _ hi) I1 (p1.1.gr.fh.objAt ob) hm hf hx ?_
    rw [← hK] at Fn hm
    refine PySem.W.callWith_K0 (first := [.ref a]) I1.kIn hm.kp ?_
    exact run_fnRS (E := WE b.W) (us := [.ref a]) (vs := [.ref a]) Fn (hr.mono hj) (passAt tk σ) I1 (.cons rfl .nil) (sp_of p1 (.cons en .nil))
  · rw [if_neg q] at p1
    exact p1.2.elim
/-! ### the type of a datum -/
theorem ObjAt.inst {pins : List (Addr × Obj)} {s : Shared} {i : CI} {a dx : Addr} {ns : List Str} {vs : List V} (I : Inv X pins σ H s) (h : ObjAt i H a dx ns vs) : ∃ ox od, PySem.W.InstAt s.heap a ox i.C (some od) := by
  have ins : ∀ fs : List (Str × V), H a = some (.ins i.C dx fs) → ∃ ox od, PySem.W.InstAt s.heap a ox i.C (some od) := fun fs h => by
    obtain ⟨mA, O, _⟩ := ins_get I.hok h
    obtain ⟨od, J, _⟩ := O.look
    exact ⟨_, _, J⟩
  rcases h with ⟨_, _, _, ⟨_, h, _⟩ | ⟨ss, _, h1, h2⟩⟩ | ⟨_, _, h, _⟩
  · exact ins _ h
  · obtain ⟨sl, od, _, J, _⟩ := SlX.slt_inst I (.inr ⟨h1, h2⟩)
    exact ⟨_, _, J⟩
  · exact ins _ h
def baseTys : List String := ["NoneType", "bool", "int", "str", "list", "tuple"]
theorem tyName_base {d : D} (nd : ∀ kvs, d ≠ .dict kvs) : tyName d ∈ baseTys := by
  cases d <;> first | exact absurd rfl (nd _) | (simp [tyName, baseTys])
/-- what the type of a datum is -/
theorem Enc.looks {M : Model} {pins : List (Addr × Obj)} {s : Shared} {v : V} {u : Value} {d : D} (hK : X.K = g.K) (I : Inv X pins σ H s) (h : Enc g H v d) (r : RelV v u) :
    (∀ kvs, d ≠ .dict kvs) → PySem.W.Looks M s.heap (typeOf u) (.type (tyName d)) := fun nd => by
  obtain ⟨P, k, p, _⟩ := kit_of I r (h.tyx hK nd)
  exact k.ty M _ I.kIn p
/-- isinstance(x, C) of an own class -/
structure SubT (g : Gm) (mg : Str → Option Value) (c : Str) (ks : List (Str × Bool)) : Prop where
  ex : ∃ C, mg c = some (.ref C) ∧ (∀ T ∈ baseTys, PySem.W.kitOne g.K (.type T) (.ref C) = some false) ∧ ∀ x b, ks.lookup x = some b → ∃ i, g.ci x = some i ∧ SlX.SIsi g.K i.C ∧ PySem.W.isClsIn g.K i.C = true ∧ PySem.W.plainGet g.K i.C "__class__" = true ∧ PySem.W.kitOne g.K (.ref i.C) (.ref C) = some b
def isiO (ks : List (Str × Bool)) (d : D) : Option Bool := match d with
  | .dict ((.none, .str x) :: _) => ks.lookup x
  | .dict _ => none
  | _ => some false
def rIsiO (g : Gm) (ks : List (Str × Bool)) (C : Addr) : List V → Hp → VK → Prop := fun xs H Q => ∃ x d k, xs = [x, .ref C] ∧ Enc g H x d ∧ isiO ks d = some k ∧ Q (.bl k) H
theorem call_isiO {C : Addr} {ks : List (Str × Bool)} (hb : ∀ T ∈ baseTys, PySem.W.kitOne g.K (.type T) (.ref C) = some false)
    (hk : ∀ x b, ks.lookup x = some b → ∃ i, g.ci x = some i ∧ SlX.SIsi g.K i.C ∧ PySem.W.isClsIn g.K i.C = true ∧ PySem.W.plainGet g.K i.C "__class__" = true ∧ PySem.W.kitOne g.K (.ref i.C) (.ref C) = some b) (hK : X.K = g.K) : CallR X (.builtin "isinstance") (rIsiO g ks C) := by
  intro pins s σ H xs us Q I r h
  obtain ⟨x, d, k, rfl, en, e, q⟩ := h
  by_cases nd : ∀ kvs, d ≠ .dict kvs
  · have e2 : k = false := by
      cases d <;> first | exact absurd rfl (nd _) | (cases e; rfl)
    subst e2
    exact call_isi pins s σ H _ us Q I r ⟨x, .ref C, .type (tyName d), .ref C, false, rfl, .own C, en.tyx hK nd, hK ▸ hb _ (tyName_base nd), q⟩
  · have nd : ∃ kvs, d = .dict kvs := Classical.byContradiction fun z => nd fun kvs e => z ⟨kvs, e⟩
    obtain ⟨kvs, rfl⟩ := nd
    cases en with
    | dct k1 =>
      cases k1 with
      | scr _ _ => cases e
      | dk _ kp =>
        cases kp with
        | nil => cases e
        | consI _ _ => cases e
        | consS _ _ => cases e
      | obj h1 h2 h3 =>
        obtain ⟨i, hi, si, ic, pg, ko⟩ := hk _ _ (show ks.lookup _ = some k from e)
        rw [h1] at hi
        cases hi
        obtain ⟨u1, u2, rfl, r1, r2⟩ := r.two
        cases (show u1 = Value.ref _ from r1)
        cases (show u2 = Value.ref _ from r2)
        rw [← hK] at si ic pg ko
        obtain ⟨ox, od, J⟩ := h3.inst I
        exact PySem.W.kia_one (OwX.kitx_slt ic pg si.ca si.cn si.ct si.cm) I.kIn J ko (fun z => nomatch z) fun tk => ⟨.bl k, H, I.tok _, rfl, q⟩
end
end Mi
/-! Mi12: isinstance of own classes, own comparisons and operators, is of bools, a, b = x, y, star defs. -/
namespace Mi
open L2 PySem PySem.Spec PyProof.Rows
section
variable {X : Cx} {g : Gm} {b : Bs} {Γ : Ctx} {F : Hp} {σ : L2.St} {H : Hp} {e e1 e2 : Expr} {es : List Expr} {pos p : Pos} {r ra rb ro : Res D} {rs : Res (List D)} {x f : Str}
theorem t_isO {c : Str} {ks : List (Str × Bool)} {p2 : Pos} (T : SubT g X.mg c ks) (ha : PE X e1 (tR g b Γ ra)) (hm : X.mg "isinstance" = none) (hgT : Gl X c := by rfl) (hg : Gl X "isinstance" := by rfl)
    (hv : bootBuiltins "isinstance" = some (.builtin "isinstance") := by decide +kernel) (hdT : (c == ("__debug__" : Str)) = false := by decide)
    (he : starEach [e1, .Name c p2] X.env = (false, eval e1 X.env) :: starEach [.Name c p2] X.env := by rfl) (he2 : starEach [.Name c p2] X.env = (false, eval (.Name c p2) X.env) :: starEach [] X.env := by rfl)
    (hpl : (backTo pos (starEach [.Name c p2] X.env)).any (·.1) = false := by rfl) (hw : ∀ whole, isTrue (.Call (.Name "isinstance" p) [e1, .Name c p2] [] pos) X.env whole = (do let v ← whole; standAt pos; holding [v] (truthy v)) := by intro _; rfl) (hK : X.K = g.K := by rfl) :
    PT X (.Call (.Name "isinstance" p) [e1, .Name c p2] [] pos) (tT g b Γ (ra.bind fun y => ofO (isiO ks y))) := by
  obtain ⟨C, hC, hb, hk⟩ := T.ex
  refine PT.imp (pt_val (pe_callB (call_isiO hb hk hK) hg hm hv (pa_cons ha (pa_cons (pe_glob (v := .ref C) hgT hC rfl hdT) pa_nil he2) he) (by decide) (by decide) he hpl) hw) fun σ H Q q => ?_
  obtain ⟨F, q⟩ := q
  refine tR_bindT q fun y v F1 H1 _ g1 ey p1 => ?_
  obtain ⟨rf, p1⟩ := p1
  cases e : isiO ks y with
  | none =>
    rw [e] at p1
    exact p1.elim
  | some k =>
    rw [e] at p1
    exact ⟨v, y, k, rfl, ey, e, k, rfl, p1 F1 H1 (Grow.refl rf.gr.fh)⟩
theorem e_isO {c : Str} {ks : List (Str × Bool)} {p2 : Pos} (T : SubT g X.mg c ks) (ha : PE X e1 (tR g b Γ ra)) (hm : X.mg "isinstance" = none) (hgT : Gl X c := by rfl) (hg : Gl X "isinstance" := by rfl)
    (hv : bootBuiltins "isinstance" = some (.builtin "isinstance") := by decide +kernel) (hdT : (c == ("__debug__" : Str)) = false := by decide)
    (he : starEach [e1, .Name c p2] X.env = (false, eval e1 X.env) :: starEach [.Name c p2] X.env := by rfl) (he2 : starEach [.Name c p2] X.env = (false, eval (.Name c p2) X.env) :: starEach [] X.env := by rfl)
    (hpl : (backTo pos (starEach [.Name c p2] X.env)).any (·.1) = false := by rfl) (hK : X.K = g.K := by rfl) :
    PE X (.Call (.Name "isinstance" p) [e1, .Name c p2] [] pos) (tE g b Γ (ra.bind fun y => (ofO (isiO ks y)).bind fun k => .ok (.bool k))) := by
  obtain ⟨C, hC, hb, hk⟩ := T.ex
  refine PE.imp (pe_callB (call_isiO hb hk hK) hg hm hv (pa_cons ha (pa_cons (pe_glob (v := .ref C) hgT hC rfl hdT) pa_nil he2) he) (by decide) (by decide) he hpl) fun σ H Q q => ?_
  obtain ⟨F, q⟩ := q
  refine tR_bind q fun y v F1 H1 _ g1 ey p1 => ?_
  cases e : isiO ks y with
  | none =>
    rw [e] at p1
    exact p1.2.elim
  | some k =>
    rw [e] at p1
    exact ⟨v, y, k, rfl, ey, e, p1.done (.bl k)⟩
/-! ### x op y by a def of x's class -/
/-- the second operand's type does not come first -/
structure FirstT (g : Gm) (c : Str) : Prop where
  ty : ∀ i, g.ci c = some i → ∀ T ∈ baseTys, PySem.W.notFirst g.K i.C (.type T) = true
def cmpOk (c : Str) (y : D) : Bool := match y with
  | .dict ((.none, .str x) :: _) => decide (x = c)
  | .dict _ => false
  | _ => true
theorem ownCmp {pins : List (Addr × Obj)} {s : Shared} {op : CmpOp} {c : Str} {k j : Nat} {mm : List D → Res D} {v w : V} {u t : Value} {x y : D} {Q : VK} (hop : ∀ a b, compareOp op a b = richCompare op a b) (T : MethR X.prog X.w g X.mg X.base c (cmpInfo op).2.1 k mm) (FT : FirstT g c) (hr : Room j X.A) (tk : Takes X b.W)
    (hj : k ≤ j) (hK : X.K = g.K) (I : Inv X pins σ H s) (rv : RelV v u) (rw' : RelV w t) (ev : Enc g F v x) (ew : Enc g F w y) (q : isC c x = true) (q2 : cmpOk c y = true) (p : Post g b Γ F (mm [x, y]) σ H Q) :
    wpAny (model X.prog X.w) X.A (compareOp op u t) (EP X pins σ Q) X.xe s := by
  obtain ⟨i, fa, hi, hm, Fn, hf, hx⟩ := T.ex
  obtain ⟨a, dx, i', ns, vs, kvs, rfl, rfl, hi', ef, ob⟩ := ev.isC q
  rw [hi] at hi'
  cases hi'
  cases rv
  obtain ⟨ox, od, J⟩ := (p.1.gr.fh.objAt ob).inst I
  have L : ∃ tb, PySem.W.Looks (model X.prog X.w) s.heap (typeOf t) tb ∧ PySem.W.notFirst X.K i.C tb = true := by
    by_cases nd : ∀ kvs, y ≠ .dict kvs
    · exact ⟨_, (ew.mono p.1.gr.fh).looks hK I rw' nd, by rw [hK]; exact FT.ty i hi _ (tyName_base nd)⟩
    · have nd : ∃ kvs, y = .dict kvs := Classical.byContradiction fun z => nd fun kvs e => z ⟨kvs, e⟩
      obtain ⟨kv2, rfl⟩ := nd
      have q3 : isC c (.dict kv2) = true := by
        rcases kv2 with _ | ⟨⟨k1, k2⟩, kv2⟩
        · cases q2
        · cases k1 <;> cases k2 <;> first | exact q2 | cases q2
      obtain ⟨a2, dx2, i2, ns2, vs2, kvs2, rfl, _, hi2, ef2, ob2⟩ := ew.isC q3
      rw [hi] at hi2
      cases hi2
      cases rw'
      obtain ⟨ox2, od2, J2⟩ := (p.1.gr.fh.objAt ob2).inst I
      exact ⟨_, J2.type, by simp [PySem.W.notFirst]⟩
  obtain ⟨tb, L, nf⟩ := L
  obtain ⟨m, hF⟩ := I.fr
  rw [hop]
  rw [← hK] at Fn hm
  refine PySem.W.cmp_K (op := op) (tb := tb) hr.units0 hF I.ok.mod.kin J L nf hm.at_ hm.fn ?_
  refine wpAny_mono (run_fnRS (E := WE b.W) (us := [.ref a, t]) (vs := [.ref a, w]) Fn (hr.mono hj) (passAt tk σ) I (.cons rfl (.cons rw' .nil)) (sp_of p (.cons ev (.cons ew .nil)))) (fun w s' z => ?_) fun _ _ x => x
  obtain ⟨z', H', I', rz, qz⟩ := z
  exact SlX.cmpback rz ⟨z', H', I', rz, qz⟩
def cmpO (c : Str) (mm : List D → Res D) (x y : D) : Res D := if isC c x = true ∧ cmpOk c y = true then mm [x, y] else .no
theorem e_cmpO {op : CmpOp} {c : Str} {k j : Nat} {mm : List D → Res D} (T : MethR X.prog X.w g X.mg X.base c (cmpInfo op).2.1 k mm) (FT : FirstT g c) (hr : Room j X.A) (tk : Takes X b.W) (ha : PE X e1 (tE g b Γ ra)) (hb : PE X e2 (tE g b Γ rb)) (hj : k ≤ j := by decide)
    (hop : ∀ a b, compareOp op a b = richCompare op a b := by intro _ _; rfl) (hm : behindInMarks op e2 = false := by first | exact nomark _ | rfl) (hK : X.K = g.K := by rfl) :
    PE X (.Compare e1 [op] [e2] pos) (tE g b Γ (ra.bind fun x => rb.bind fun y => cmpO c mm x y)) := by
  refine ⟨fun pins s σ H Q I h => ?_⟩
  obtain ⟨F, h⟩ := h
  refine wpAny_Compare1 (thn (ha.run pins s σ H (fun v H1 => ∃ x F1, Post g b Γ F1 (rb.bind fun y => cmpO c mm x y) σ H1 Q ∧ Enc g F1 v x) I (tE_bind h fun d v F1 H1 _ g1 en p1 => ⟨d, F1, p1, en⟩)) fun u s1 ⟨v, H1, I1, rv, x, F1, p1, en⟩ =>
    thn (hb.run pins s1 σ H1 (fun w H2 => ∃ y F2, Post g b Γ F2 (cmpO c mm x y) σ H2 Q ∧ Enc g F2 v x ∧ Enc g F2 w y) I1 (tE_bind p1 fun d w F2 H2 _ g2 en2 p2 => ⟨d, F2, p2, en.mono g2.ff, en2⟩)) fun t s2 ⟨w, H2, I2, rw', y, F2, p2, en1, en2⟩ => ?_) hm
  unfold cmpO at p2
  split at p2
  · rename_i q
    exact ownCmp hop T FT hr tk hj hK I2 rv rw' en1 en2 q.1 q.2 p2
  · exact p2.2.elim
/-- a bool -/
def blO : D → Option Bool
  | .bool k => some k
  | _ => none
theorem t_cmpO {op : CmpOp} {c : Str} {k j : Nat} {mm : List D → Res D} (T : MethR X.prog X.w g X.mg X.base c (cmpInfo op).2.1 k mm) (FT : FirstT g c) (hr : Room j X.A) (tk : Takes X b.W) (ha : PE X e1 (tE g b Γ ra)) (hb : PE X e2 (tE g b Γ rb)) (hj : k ≤ j := by decide)
    (hop : ∀ a b, compareOp op a b = richCompare op a b := by intro _ _; rfl) (hm : behindInMarks op e2 = false := by first | exact nomark _ | rfl) (hK : X.K = g.K := by rfl) :
    PT X (.Compare e1 [op] [e2] pos) (tT g b Γ (ra.bind fun x => rb.bind fun y => (cmpO c mm x y).bind fun d => ofO (blO d))) := by
  refine ⟨fun pins s σ H Q I h => ?_⟩
  obtain ⟨F, h⟩ := h
  refine wpAny_isTrue_Compare1 (thn (ha.run pins s σ H (fun v H1 => ∃ x F1, PostT g b Γ F1 (rb.bind fun y => (cmpO c mm x y).bind fun d => ofO (blO d)) σ H1 Q ∧ Enc g F1 v x) I (tE_bindT h fun d v F1 H1 _ g1 en p1 => ⟨d, F1, p1, en⟩)) fun u s1 ⟨v, H1, I1, rv, x, F1, p1, en⟩ =>
    thn (hb.run pins s1 σ H1 (fun w H2 => ∃ y F2, PostT g b Γ F2 ((cmpO c mm x y).bind fun d => ofO (blO d)) σ H2 Q ∧ Enc g F2 v x ∧ Enc g F2 w y) I1 (tE_bindT p1 fun d w F2 H2 _ g2 en2 p2 => ⟨d, F2, p2, en.mono g2.ff, en2⟩)) fun t s2 ⟨w, H2, I2, rw', y, F2, p2, en1, en2⟩ => ?_) hm
  unfold cmpO at p2
  split at p2
  · rename_i q
    refine thn (ownCmp (Q := fun z H3 => ∃ k, z = .bl k ∧ Q k H3) hop T FT hr tk hj hK I2 rv rw' en1 en2 q.1 q.2 ⟨p2.1, ?_⟩) fun c s3 ⟨z, H3, I3, r3, k, e, q3⟩ => ?_
    · obtain ⟨rf, p2⟩ := p2
      cases q3 : mm [x, y] with
      | ok d =>
        rw [q3] at p2
        cases d with
        | bool k =>
          intro v F' H' gr en
          cases en
          exact ⟨k, rfl, p2 F' H' gr⟩
        | _ => exact p2.elim
      | ex c fs =>
        rw [q3] at p2
        exact p2
      | no =>
        rw [q3] at p2
        exact p2.elim
    · subst e
      cases r3
      exact wpAny_truthy_bool ⟨H3, I3, q3⟩
  · exact p2.2.elim
/-! ### x op y, an operator, both of one class -/
structure SelfT (g : Gm) (c : Str) : Prop where
  sf : ∀ i, g.ci c = some i → PySem.W.selfFirst g.K i.C = true
def opO (c : Str) (mm : List D → Res D) (x y : D) : Res D := if isC c x = true ∧ isC c y = true then mm [x, y] else .no
theorem e_opO {op : Operator} {c : Str} {k j : Nat} {mm : List D → Res D} (T : MethR X.prog X.w g X.mg X.base c (PySem.dunder op.info.2) k mm) (ST : SelfT g c) (hr : Room j X.A) (tk : Takes X b.W) (ha : PE X e1 (tE g b Γ ra)) (hb : PE X e2 (tE g b Γ rb)) (hj : k ≤ j := by decide) (hK : X.K = g.K := by rfl) :
    PE X (.BinOp e1 op e2 pos) (tE g b Γ (ra.bind fun x => rb.bind fun y => opO c mm x y)) := by
  refine ⟨fun pins s σ H Q I h => ?_⟩
  obtain ⟨F, h⟩ := h
  refine wpAny_BinOp (thn (ha.run pins s σ H (fun v H1 => ∃ x F1, Post g b Γ F1 (rb.bind fun y => opO c mm x y) σ H1 Q ∧ Enc g F1 v x) I (tE_bind h fun d v F1 H1 _ g1 en p1 => ⟨d, F1, p1, en⟩)) fun u s1 ⟨v, H1, I1, rv, x, F1, p1, en⟩ =>
    thn (hb.run pins s1 σ H1 (fun w H2 => ∃ y F2, Post g b Γ F2 (opO c mm x y) σ H2 Q ∧ Enc g F2 v x ∧ Enc g F2 w y) I1 (tE_bind p1 fun d w F2 H2 _ g2 en2 p2 => ⟨d, F2, p2, en.mono g2.ff, en2⟩)) fun t s2 ⟨w, H2, I2, rw', y, F2, p2, en1, en2⟩ => ?_)
  unfold opO at p2
  split at p2
  · rename_i q
    obtain ⟨i, fa, hi, hm, Fn, hf, hx⟩ := T.ex
    obtain ⟨a, dx, i', ns, vs, kvs, rfl, rfl, hi', ef, ob⟩ := en1.isC q.1
    rw [hi] at hi'
    cases hi'
    obtain ⟨a2, dx2, i2, ns2, vs2, kvs2, rfl, rfl, hi2, ef2, ob2⟩ := en2.isC q.2
    rw [hi] at hi2
    cases hi2
    cases rv
    cases rw'
    obtain ⟨ox, od, J⟩ := (p2.1.gr.fh.objAt ob).inst I2
    obtain ⟨ox2, od2, J2⟩ := (p2.1.gr.fh.objAt ob2).inst I2
    obtain ⟨m, hF⟩ := I2.fr
    have sf := ST.sf i hi
    rw [← hK] at Fn hm sf
    refine PySem.W.binop_K hF I2.ok.mod.kin J J2.type sf hm.at_ hm.fn ?_
    refine wpAny_mono (run_fnRS (E := WE b.W) (us := [.ref a, .ref a2]) (vs := [.ref a, .ref a2]) Fn (hr.mono hj) (passAt tk σ) I2 (.cons rfl (.cons rfl .nil)) (sp_of p2 (.cons en1 (.cons en2 .nil)))) (fun w s' z => ?_) fun _ _ x => x
    obtain ⟨z', H', I', rz, qz⟩ := z
    exact SlX.cmpback rz ⟨z', H', I', rz, qz⟩
  · exact p2.2.elim
/-! ### x is True -/
def isB (k : Bool) : D → Option Bool
  | .bool j => some (decide (j = k))
  | _ => none
def notB (k : Bool) : D → Option Bool
  | .bool j => some (!decide (j = k))
  | _ => none
theorem t_isB {k : Bool} {j : Nat} {p : Pos} (ha : PE X e1 (tR g b Γ ra)) : PT X (.Compare e1 [.Is] [.Constant (.bool k) j p] pos) (tT g b Γ (ra.bind fun x => ofO (isB k x))) := by
  refine PT.imp (pt_cmpR op_isBl ha pe_bl (nomark _)) fun σ H Q q => ?_
  obtain ⟨F, q⟩ := q
  refine tR_bindT q fun y v F1 H1 _ g1 ey p1 => ?_
  obtain ⟨rf, p1⟩ := p1
  cases y <;> first | exact p1.elim | skip
  cases ey
  exact ⟨_, _, rfl, rfl, _, rfl, p1 F1 H1 (Grow.refl rf.gr.fh)⟩
theorem t_notB {k : Bool} {j : Nat} {p : Pos} (ha : PE X e1 (tR g b Γ ra)) : PT X (.Compare e1 [.IsNot] [.Constant (.bool k) j p] pos) (tT g b Γ (ra.bind fun x => ofO (notB k x))) := by
  refine PT.imp (pt_cmpR op_notBl ha pe_bl (nomark _)) fun σ H Q q => ?_
  obtain ⟨F, q⟩ := q
  refine tR_bindT q fun y v F1 H1 _ g1 ey p1 => ?_
  obtain ⟨rf, p1⟩ := p1
  cases y <;> first | exact p1.elim | skip
  cases ey
  exact ⟨_, _, rfl, rfl, _, rfl, p1 F1 H1 (Grow.refl rf.gr.fh)⟩
theorem e_isB {k : Bool} {j : Nat} {p : Pos} (ha : PE X e1 (tR g b Γ ra)) : PE X (.Compare e1 [.Is] [.Constant (.bool k) j p] pos) (tE g b Γ (ra.bind fun x => (ofO (isB k x)).bind fun k => .ok (.bool k))) := by
  refine PE.imp (pe_cmpR op_isBl ha pe_bl (nomark _)) fun σ H Q q => ?_
  obtain ⟨F, q⟩ := q
  refine tR_bind q fun y v F1 H1 _ g1 ey p1 => ?_
  cases y <;> first | exact p1.2.elim | skip
  cases ey
  exact ⟨_, _, rfl, rfl, p1.done (.bl _)⟩
theorem e_notB {k : Bool} {j : Nat} {p : Pos} (ha : PE X e1 (tR g b Γ ra)) : PE X (.Compare e1 [.IsNot] [.Constant (.bool k) j p] pos) (tE g b Γ (ra.bind fun x => (ofO (notB k x)).bind fun k => .ok (.bool k))) := by
  refine PE.imp (pe_cmpR op_notBl ha pe_bl (nomark _)) fun σ H Q q => ?_
  obtain ⟨F, q⟩ := q
  refine tR_bind q fun y v F1 H1 _ g1 ey p1 => ?_
  cases y <;> first | exact p1.2.elim | skip
  cases ey
  exact ⟨_, _, rfl, rfl, p1.done (.bl _)⟩
section
variable {β τ υ : Type} {Γb : β → Ctx} {Γn : τ → Ctx} {rest body : List Stmt}
/-- x, y = a, b; rest -/
theorem b_par {i j : Nat} {y : Str} {k : D → D → Fl β τ} {px py pt pt2 : Pos} {kt k2 : _} (ha : PE X e1 (tE g b Γ ra)) (hb : PE X e2 (tE g b Γ rb)) (hrest : ∀ d d2, PSs X rest (tS g b Γb ((Γ.set i (some (.v d))).set j (some (.v d2))) (k d d2) Γn)) (hN : X.N.Nodup)
    (hc : (b.cx[i]?).join = none := by rfl) (hc2 : (b.cx[j]?).join = none := by rfl) (hi : X.N[i]? = some x := by rfl) (hj : X.N[j]? = some y := by rfl) (hij : i ≠ j := by decide) (hcalm : X.calm = true := by rfl)
    (hx : X.env.scope.names.lookup x = some .local := by rfl) (hy : X.env.scope.names.lookup y = some .local := by rfl)
    (hw : swappedStores [.Tuple [.Name x px, .Name y py] kt pt] (.Tuple [e1, e2] k2 pt2) X.env = pure (some [x, y]) := by rfl)
    (hs : swapsWithSole [.Tuple [.Name x px, .Name y py] kt pt] (.Tuple [e1, e2] k2 pt2) pos.line X.env = pure false := by rfl)
    (hst : starEach [e1, e2] X.env = (false, eval e1 X.env) :: starEach [e2] X.env := by rfl) (hst2 : starEach [e2] X.env = (false, eval e2 X.env) :: starEach [] X.env := by rfl) :
    PSs X (.Assign [.Tuple [.Name x px, .Name y py] kt pt] (.Tuple [e1, e2] k2 pt2) pos :: rest) (tS g b Γb Γ (ra.bindF fun d => rb.bindF fun d2 => k d d2) Γn) := by
  refine PSs.impI (pss_cons (ps_par hcalm hN hi hj hij hx hy (pa_cons ha (pa_cons hb pa_nil hst2) hst) hw hs) (PSs.ex fun d => PSs.ex fun d2 => hrest d d2)) fun Ds σ H hl h => ?_
  obtain ⟨F, rf, h⟩ := h
  refine tS_bindG rf h fun d v F1 H1 ed gr1 rf1 en1 k1 => tS_bindG rf1 k1 fun d2 v2 F2 H2 ed2 gr2 rf2 en2 k2 => ?_
  have l1 : i < σ.length := by rw [hl]; exact (List.getElem?_eq_some_iff.mp hi).1
  have l2 : j < σ.length := by rw [hl]; exact (List.getElem?_eq_some_iff.mp hj).1
  exact ⟨v, v2, rfl, d, d2, F2, (rf2.setv (en1.mono gr2.ff) hc l1).setv en2 hc2 (by rw [List.length_set]; exact l2), k2⟩
/-- the same, a name that a comprehension captures among them; at most one object is laid -/
theorem b_parC {i j : Nat} {y : Str} {k : D → D → Fl β τ} {px py pt pt2 : Pos} {kt k2 : Nat} (ha : PE X e1 (tE g b Γ ra)) (hb : PE X e2 (tE g b Γ rb)) (hrest : ∀ d d2, PSs X rest (tS g b Γb ((Γ.set i (some (.v d))).set j (some (.v d2))) (k d d2) Γn)) (hN : X.N.Nodup)
    (hc : (b.cx[i]?).join = none := by rfl) (hc2 : (b.cx[j]?).join = none := by rfl) (hi : X.N[i]? = some x := by rfl) (hj : X.N[j]? = some y := by rfl) (hij : i ≠ j := by decide) (hcalm : X.calm = true := by rfl)
    (hx : Loc X.env.scope x := by first | exact Or.inl rfl | exact Or.inr rfl) (hy : Loc X.env.scope y := by first | exact Or.inl rfl | exact Or.inr rfl)
    (hf : X.fn x = true ∨ X.env.scope.names.lookup x = some .local := by first | exact .inl rfl | exact .inr rfl) (hf2 : X.fn y = true ∨ X.env.scope.names.lookup y = some .local := by first | exact .inl rfl | exact .inr rfl)
    (hw : swappedStores [.Tuple [.Name x px, .Name y py] kt pt] (.Tuple [e1, e2] k2 pt2) X.env = pure none := by rfl)
    (hs : swapsWithSole [.Tuple [.Name x px, .Name y py] kt pt] (.Tuple [e1, e2] k2 pt2) pos.line X.env = pure false := by rfl)
    (h1 : (assignEach [.Tuple [.Name x px, .Name y py] kt pt] X.env).map (·.2) = [assign (.Tuple [.Name x px, .Name y py] kt pt) X.env] := by rfl)
    (hn : (assignEach [.Name x px, .Name y py] X.env).length = 2 := by rfl) (hstn : (assignEach [.Name x px, .Name y py] X.env).findIdx? (·.1) = none := by rfl)
    (hm1 : (assignEach [.Name x px, .Name y py] X.env).map (·.2) = assign (.Name x px) X.env :: (assignEach [.Name y py] X.env).map (·.2) := by rfl) (hm2 : (assignEach [.Name y py] X.env).map (·.2) = assign (.Name y py) X.env :: (assignEach [] X.env).map (·.2) := by rfl)
    (hst : starEach [e1, e2] X.env = (false, eval e1 X.env) :: starEach [e2] X.env := by rfl) (hst2 : starEach [e2] X.env = (false, eval e2 X.env) :: starEach [] X.env := by rfl) :
    PSs X (.Assign [.Tuple [.Name x px, .Name y py] kt pt] (.Tuple [e1, e2] k2 pt2) pos :: rest) (tS g b Γb Γ (ra.bindF fun d => rb.bindF fun d2 => k d d2) Γn) := by
  refine PSs.impI (pss_cons (ps_asg (pe_tupX (pa_cons ha (pa_cons hb pa_nil hst2) hst)) (pg_tup hcalm (pgs_cons (pg_name hN hi hx hf) (pgs_cons (pg_name hN hj hy hf2) pgs_nil hm2) hm1) hn hstn) hs hw h1) (PSs.ex fun d => PSs.ex fun d2 => hrest d d2)) fun Ds σ H hl h => ?_
  obtain ⟨F, rf, h⟩ := h
  refine tS_bindG rf h fun d v F1 H1 ed gr1 rf1 en1 k1 => tS_bindG rf1 k1 fun d2 v2 F2 H2 ed2 gr2 rf2 en2 k2 => ?_
  have l1 : i < σ.length := by rw [hl]; exact (List.getElem?_eq_some_iff.mp hi).1
  have l2 : j < σ.length := by rw [hl]; exact (List.getElem?_eq_some_iff.mp hj).1
  refine ⟨by show 2 ≤ sizeLine; decide, fun q its hq => ⟨q, [v, v2], rfl, .inl (.inr ⟨_, upd_same⟩), rfl, v, [v2], rfl, v2, [], rfl, rfl, ?_⟩⟩
  have g3 := Grow.alloc (o := .frz (obT its) (.tup [v, v2])) rf2.gr.fh hq
  exact ⟨d, d2, _, ((rf2.grow g3).setv ((en1.mono gr2.ff).mono g3.ff) hc l1).setv (en2.mono g3.ff) hc2 (by rw [List.length_set]; exact l2), k2⟩
end
end
/-! ### a slice of a list -/
def sliceR (x : D) (l h : Option Int) : Res (List D) := match x with
  | .list xs => .ok (cutL xs l h)
  | _ => .no
theorem n_sliceR {X : Cx} {g : Gm} {b : Bs} {Γ : Ctx} {e1 : Expr} {pos : Pos} {ra : Res D} {lo hi : Option Expr} {p2 : Pos} {rl rh : Res (Option Int)} (ha : PE X e1 (tE g b Γ ra)) (hl : PO X lo (tO g b Γ rl)) (hh : PO X hi (tO g b Γ rh)) :
    PE X (.Subscript e1 (.Slice lo hi none p2) pos) (tN g b Γ (ra.bind fun x => rl.bind fun l => rh.bind fun h => sliceR x l h)) := n_slice ha hl hh
/-! ### def f(self, *v) -/
section
variable {P : Program} {w : World} {g : Gm} {mg : Str → Option Value} {base : Heap} {k : Nat} {f : Addr} {fd : FuncData} {name qual : Str} {params : Arguments} {body : List Stmt} {scope : Scope} {dvs : List V} {kws : List (Str × V)} {N ps : List Str}
theorem fn_starX {CX : CXT} {pv : Str} {sp : Sp} {K : PySem.W.Frag} (Fd : FunD K name qual params body scope [] kws f fd) (S : FnScope N (ps ++ [pv]) scope) (hCX : StX.CXUp CX)
    (hb : ∀ (kV doc pm cdv ct : Value) (an : Option Addr) (us rest : List Value), us.length = ps.length → bindArgs (PySem.W.fnOf name qual params body scope .none kV doc pm an cdv ct) ⟨us ++ rest, []⟩ = (newTuple rest >>= fun t => pure (ps.zip us ++ [(pv, t)])))
    (hbody : ∀ (cdv : Value) (A : Around) (outer : List Env) (s : Shared) (H : Hp) (vs : List V) (Q : VK) (E : XK), Room k (A.deeper (envOfC qual scope s.heap.objs.size f cdv)) → sp vs H Q E →
      ∃ t, PSs (cxOf CX P w K mg base N qual scope f cdv A outer s H E) body t ∧ t { nx := fun _ H' => Q .non H', rt := Q } (start N vs) H) :
    FnR P w K mg base CX (k + 1) f (fun vs H Q E => ∃ ws rest, vs = ws ++ rest ∧ ws.length = ps.length ∧ rest.length ≤ sizeLine ∧ ∀ p its, H p = Option.none → sp (ws ++ [V.ref p]) (upd H p (.frz (obT its) (.tup rest))) Q E) := by
  obtain ⟨oc, od, dV, kV, doc, pm, an, cdv, ct, osl, rfl, lk, hcd, hdv, _⟩ := Fd.ex
  obtain rfl : dV = .none := by
    rcases hdv with ⟨_, z⟩ | ⟨z, _⟩
    · exact z
    · exact absurd rfl z
  intro A outer s H us vs Q E hr e0 r hsp
  obtain ⟨ws, rest, ev, hl, hz, hq⟩ := hsp
  subst ev
  obtain ⟨u1, u2, eu, r1, r2⟩ := StX.vals_split r
  subst eu
  have hn : H s.heap.objs.size = Option.none := e0.hok.fresh (Nat.le_refl _)
  have hl1 : u1.length = ps.length := by rw [← r1.length]; exact hl
  have hl2 : u2.length ≤ sizeLine := by rw [← r2.length]; exact hz
  refine StX.run_bnd lk hcd S hr e0 (G := fun xs H2 => ∃ p its, H p = Option.none ∧ xs = ws ++ [V.ref p] ∧ H2 = upd H p (.frz (obT its) (.tup rest))) (fun A' Ex Q' h => ?_) fun s2 H2 xs ⟨p, its, hp, ex, eH⟩ hr' => ?_
  · rw [hb kV doc pm cdv ct an u1 u2 hl1]
    refine wpAny_bind (wpAny_newTuple (wpAny_pure ?_) hl2)
    have new : ObjOk P w (upd H s.heap.objs.size (.frz (obT u2) (.tup rest))) (s.heap.push (obT u2)) s.heap.objs.size (.frz (obT u2) (.tup rest)) := ⟨Heap.get?_push_size _ rfl, hz, u2, r2, _, Heap.get?_push_size _ rfl, rfl, _, rfl⟩
    have un := StX.un_laid (fs := frs outer) (s := s) (o := obT u2) (u := .frz (obT u2) (.tup rest)) hn
    have z := h _ _ (ws ++ [V.ref s.heap.objs.size]) (u1 ++ [Value.ref s.heap.objs.size]) (StX.env0_laid e0 new) un rfl (fun e s' => hCX outer s H _ _ E e s' un (fun b o q => Heap.get?_push_of_some _ q) rfl) (r1.append (.cons rfl .nil))
      (by rw [List.length_append, List.length_append, hl] <;> rfl) ⟨_, _, hn, rfl, rfl⟩
    rw [List.zip_append hl1.symm] at z
    exact z
  · subst ex eH
    exact hbody cdv A outer s2 _ _ Q E hr' (hq p its hp)
/-- def f(self, *v): the mirror takes self and the tuple -/
theorem star_ok {p1 pv : Str} {o : D → D → Fl Empty Unit} {m : List D → Res D} (Fd : FunD g.K name qual params body scope [] kws f fd) (S : FnScope N [p1, pv] scope) (hm : ∀ d ds, m (d :: ds) = if ds.length ≤ cap then (o d (.tuple ds)).res else .no) (hl : m [] = .no)
    (hb0 : ∀ (kV doc pm cdv ct : Value) (an : Option Addr) (a : Value), bindArgs (PySem.W.fnOf name qual params body scope .none kV doc pm an cdv ct) ⟨[a], []⟩ = (newTuple [] >>= fun t => pure [(p1, a), (pv, t)]))
    (hb1 : ∀ (kV doc pm cdv ct : Value) (an : Option Addr) (a r : Value) (rs : List Value), bindArgs (PySem.W.fnOf name qual params body scope .none kV doc pm an cdv ct) ⟨a :: r :: rs, []⟩ = (newTuple (r :: rs) >>= fun t => pure [(p1, a), (pv, t)]))
    (hbody : ∀ (cdv : Value) (A : Around) (outer : List Env) (s : Shared) (H F : Hp) (E : XK) (d t : D), Side k P w g mg base N qual scope f cdv A outer s H E →
      PSs (cxOf (L2.CX P w) P w g.K mg base N qual scope f cdv A outer s H E) body (tS g (bs0 F H E) (fun e : Empty => e.elim) (ctx0 N.length [d, t]) (o d t) (fun _ : Unit => []))) :
    FnR P w g.K mg base (L2.CX P w) (k + 1) f (spD g m) := by
  refine FnR.imp (fn_starX (ps := [p1]) (sp := spD g fun xs => match xs with
    | [d, t] => (o d t).res
    | _ => .no) Fd S StX.cxUp (fun kV doc pm cdv ct an us rest hu => StX.bind_star1 (B := fun us => bindArgs (PySem.W.fnOf name qual params body scope .none kV doc pm an cdv ct) ⟨us, []⟩) (hb0 kV doc pm cdv ct an) (hb1 kV doc pm cdv ct an) us rest hu) fun cdv A outer s H vs Q E hr h => ?_) fun vs H Q E h => ?_
  · obtain ⟨F, ds, sb, en, h⟩ := h
    rcases ds with _ | ⟨d, _ | ⟨t, _ | ⟨_, _⟩⟩⟩
    · exact h.elim
    · exact h.elim
    · refine ⟨_, hbody cdv A outer s H F E d t (side_of hr), F, rf0 rfl sb en, ?_⟩
      have h : (match (o d t).res with
        | .ok d => ∀ v F' H', Grow F H F' H' → Enc g F' v d → Q v H'
        | .ex c fs => ∀ cls od F' H', Grow F H F' H' → ExOk g c fs cls od F' → E cls od H'
        | .no => False) := h
      cases q : o d t with
      | nx t =>
        rw [q] at h
        exact fun F' σ' H' r => h .non F' H' r.gr .non
      | rt d =>
        rw [q] at h
        exact fun v F' H' gr en => h v F' H' gr en
      | bk e => exact e.elim
      | ct e => exact e.elim
      | ex c fs =>
        rw [q] at h
        exact fun cls od F' σ' H' r ok => h cls od F' H' r.gr ok
      | no =>
        rw [q] at h
        exact h
    · exact h.elim
  · obtain ⟨F, ds, sb, en, h⟩ := h
    cases en with
    | nil =>
      rw [hl] at h
      exact h.elim
    | @cons v vs d ds e1 e2 =>
      rw [hm] at h
      by_cases hz : ds.length ≤ cap
      · rw [if_pos hz] at h
        refine ⟨[v], vs, rfl, rfl, cap_line (by rw [e2.len]; exact hz), fun p its hp => ?_⟩
        have sF : Sub F (upd F p (.frz (obT its) (.tup vs))) := Sub.new (sb.free hp)
        have gr := Grow.alloc (o := .frz (obT its) (.tup vs)) sb hp
        refine ⟨upd F p (.frz (obT its) (.tup vs)), [d, .tuple ds], gr.fh, .cons (e1.mono sF) (.cons (.tup (.inl ⟨its, upd_same⟩) (e2.mono sF)) .nil), ?_⟩
        show match (o d (.tuple ds)).res with
          | .ok d => _
          | .ex c fs => _
          | .no => False
        cases q : (o d (.tuple ds)).res with
        | ok d' =>
          rw [q] at h
          exact fun v F' H' g2 en => h v F' H' (gr.trans g2) en
        | ex c fs =>
          rw [q] at h
          exact fun cls od F' H' g2 ok => h cls od F' H' (gr.trans g2) ok
        | no =>
          rw [q] at h
          exact h
      · rw [if_neg hz] at h
        exact h.elim
end
/-! ### facts of the top -/
section
open He
variable {K : PySem.W.Frag}
def sisiB (K : PySem.W.Frag) (C : Addr) : Bool := eqO (PySem.W.findIn K (.ref C) "__class__") (some (some (.builtin "object.__class__"))) && (eqO (PySem.W.specialIn K (.builtin "object.__class__") "__get__") (some (some (.builtin "getset_descriptor.__get__"))) &&
  (decide (PySem.W.takesIn K (.builtin "object.__class__") = some true) && decide (PySem.W.mroIn K C (.type "object") = some true)))
theorem sisi_ok {C : Addr} (c : sisiB K C = true) : SlX.SIsi K C := by
  obtain ⟨c1, c⟩ := ba c
  obtain ⟨c2, c⟩ := ba c
  obtain ⟨c3, c4⟩ := ba c
  exact ⟨eqO_ok c1, eqO_ok c2, of_decide_eq_true c3, of_decide_eq_true c4⟩
/-- the class named c: may stand behind isinstance; ks: which instances are of it -/
def subB (K : PySem.W.Frag) (c : Str) (ks : List (Str × Bool)) : Bool := (baseTys.all fun T => decide (PySem.W.kitOne K (.type T) (.ref (ga K c)) = some false)) &&
  ks.all fun q => sisiB K (ga K q.1) && (PySem.W.isClsIn K (ga K q.1) && (PySem.W.plainGet K (ga K q.1) "__class__" && decide (PySem.W.kitOne K (.ref (ga K q.1)) (.ref (ga K c)) = some q.2)))
theorem lookup_mem {ks : List (Str × Bool)} {x : Str} {b : Bool} (h : ks.lookup x = some b) : (x, b) ∈ ks := by
  induction ks with
  | nil => cases h
  | cons q ks ih =>
    obtain ⟨y, c⟩ := q
    rw [List.lookup_cons] at h
    split at h
    · rename_i e
      have e := beq_iff_eq.mp e
      cases h
      subst e
      exact List.mem_cons_self ..
    · exact List.mem_cons_of_mem _ (ih h)
theorem sub_ok {g : Gm} {h : Heap} {mg : Str → Option Value} {c : Str} {ks : List (Str × Bool)} (X : g.K.In h) (G : h.Ns mainGlobals mg) (hc : subB g.K c ks = true) (c2 : (Fa.glo c).ok g.K = true) (hi : ∀ q ∈ ks, ∃ i, g.ci q.1 = some i ∧ i.C = ga g.K q.1) : SubT g mg c ks := by
  obtain ⟨c1, c3⟩ := ba hc
  refine ⟨⟨ga g.K c, glo_ok X G c2, fun T hT => of_decide_eq_true (List.all_eq_true.mp c1 T hT), fun x b e => ?_⟩⟩
  have hm := lookup_mem e
  obtain ⟨i, e1, e2⟩ := hi _ hm
  obtain ⟨d1, d⟩ := ba (List.all_eq_true.mp c3 _ hm)
  obtain ⟨d2, d⟩ := ba d
  obtain ⟨d3, d4⟩ := ba d
  rw [← e2] at d1 d2 d3 d4
  exact ⟨i, e1, sisi_ok d1, d2, d3, of_decide_eq_true d4⟩
def firstB (K : PySem.W.Frag) (c : Str) : Bool := baseTys.all fun T => PySem.W.notFirst K (ga K c) (.type T)
theorem first_ok {g : Gm} {c : Str} (hc : firstB g.K c = true) (hi : ∀ i, g.ci c = some i → i.C = ga g.K c) : FirstT g c := ⟨fun i e T hT => by
  rw [hi i e]
  exact List.all_eq_true.mp hc T hT⟩
theorem self_ok {g : Gm} {c : Str} (hc : PySem.W.selfFirst g.K (ga g.K c) = true) (hi : ∀ i, g.ci c = some i → i.C = ga g.K c) : SelfT g c := ⟨fun i e => by
  rw [hi i e]
  exact hc⟩
/-- the classes of a table stand where their names tell -/
theorem ciT_at {K : PySem.W.Frag} {n : Str} {i : CI} : ∀ {t : List (Str × Kd × List Str × List Nat)}, ciT K t n = some i → i.C = ga K n
  | [], e => by cases e
  | (x, k, fs, pl) :: r, e => by
    have e2 : (if n = x then some (⟨ga K x, k, fs, pl⟩ : CI) else ciT K r n) = some i := e
    split at e2
    · rename_i q
      cases e2
      rw [q]
    · exact ciT_at e2
end
end Mi
/-! Mi13: try .. except, the exception that is held. -/
namespace Mi
open L2 PySem PySem.Spec PyProof.Rows
section
variable {g : Gm} {b : Bs} {Γ : Ctx} {F : Hp} {σ : L2.St} {H : Hp}
abbrev Bs.wish (b : Bs) (cx : Ctx) (W : WX) : Bs := { b with cx := cx, W := W }
theorem Rf.wish (r : Rf g b Γ F σ H) {cx : Ctx} {W : WX} (l : Le cx Γ) : Rf g (b.wish cx W) Γ F σ H := ⟨r.gr, l, r.at_, r.sep⟩
theorem Rf.unwish {cx : Ctx} {W : WX} (r : Rf g (b.wish cx W) Γ F σ H) (l : Le b.cx Γ) : Rf g b Γ F σ H := ⟨r.gr, l, r.at_, r.sep⟩
/-- a slot that the context does not tell of -/
theorem Rf.other (r : Rf g b Γ F σ H) {i : Nat} {o : Option V} (h : (Γ[i]?).join = none) : Rf g b Γ F (σ.set i o) H := by
  have ne : ∀ (j : Nat) (bd : Bnd), Γ[j]? = some (some bd) → i ≠ j := fun j bd e z => by
    subst z
    rw [e] at h
    cases h
  refine ⟨r.gr, r.le, fun j bd e => ?_, fun j k a xs ys h1 h2 h3 h4 => ?_⟩
  · obtain ⟨ov, k1, k2⟩ := r.at_ j bd e
    exact ⟨ov, by rw [List.getElem?_set_ne (ne j bd e)]; exact k1, k2⟩
  · rw [List.getElem?_set_ne (ne j _ h1)] at h3
    rw [List.getElem?_set_ne (ne k _ h2)] at h4
    exact r.sep j k a xs ys h1 h2 h3 h4
/-- a slot holds the exception -/
theorem Rf.setx (r : Rf g b Γ F σ H) {i : Nat} {a : Addr} (hc : (b.cx[i]?).join = none) (hi : i < σ.length) : Rf g b (Γ.set i (some (.x a))) F (σ.set i (some (.ref a))) H := by
  refine ⟨r.gr, r.le.setr hc, fun j bd e => ?_, fun j k c xs ys h1 h2 h3 h4 => ?_⟩
  · rcases set_get e with ⟨rfl, e2, _⟩ | ⟨ne, e2⟩
    · cases e2
      exact ⟨some (.ref a), List.getElem?_set_self hi, rfl⟩
    · obtain ⟨ov, k1, k2⟩ := r.at_ j bd e2
      exact ⟨ov, by rw [List.getElem?_set_ne (Ne.symm ne)]; exact k1, k2⟩
  · rcases set_get h1 with ⟨_, e2, _⟩ | ⟨n1, e1⟩
    · cases e2
    · rcases set_get h2 with ⟨_, e2, _⟩ | ⟨n2, e2⟩
      · cases e2
      · rw [List.getElem?_set_ne (Ne.symm n1)] at h3
        rw [List.getElem?_set_ne (Ne.symm n2)] at h4
        exact r.sep j k c xs ys e1 e2 h3 h4
end
/-- the class that an except clause names: which classes of the table it takes -/
structure CatchT (g : Gm) (mg : Str → Option Value) (x : Str) (ks : List (Str × Bool)) : Prop where
  ex : ∃ cv, (mg x = some cv ∨ (mg x = none ∧ bootBuiltins x = some cv ∧ x ≠ "__name__")) ∧ ∀ c b, ks.lookup c = some b → ∀ i, g.ci c = some i → PySem.W.exmOne g.K (.ref i.C) cv = some b
/-- nothing leaves a suite -/
def Fl.noEx {β τ : Type} (o : Fl β τ) : Fl β τ := match o with
  | .ex _ _ => .no
  | o => o
def tryF {β τ : Type} (ob : Fl β τ) (ks : List (Str × Bool)) (oh : Str → Fl β τ) : Fl β τ := match ob with
  | .ex c [] => (match ks.lookup c with
    | some true => (oh c).noEx
    | some false => .ex c []
    | none => .no)
  | .ex _ _ => .no
  | o => o
section
variable {X : Cx} {g : Gm} {b : Bs} {Γ : Ctx} {β τ υ : Type} {Γb : β → Ctx} {Γn : τ → Ctx} {rest body suite : List Stmt} {b₀ : Stmt}
/-- try: body except x as n: suite -/
theorem b_tryAs {x n : Str} {i : Nat} {ks : List (Str × Bool)} {cx : Ctx} {Γ1 : υ → Ctx} {ob : Fl β υ} {oh : Str → Fl β υ} {k : υ → Fl β τ} {np pos' pos : Pos} (T : CatchT g X.mg x ks) (tk : Takes X b.W)
    (hbody : ∀ (W : WX) (pn : List (Addr × Obj)) (xe : Value → Shared → Prop), Takes (X.tr pn xe) W → PassesOwn (model X.prog X.w) X.A X.env xe → PSs (X.tr pn xe) body (tS g (b.wish cx W) Γb Γ ob Γ1))
    (hsuite : ∀ (a : Addr) (oe : Obj) (pn : List (Addr × Obj)) (c : Str) (ci : CI), g.ci c = some ci → ks.lookup c = some true → Zc (.ref ci.C) none oe → (∃ vs, oe.data = .fields vs) → PSs (X.suite a ((a, oe) :: pn)) (b₀ :: suite) (tS g (b.wish b.cx fun _ _ _ _ => False) Γb (cx.set i (some (.x a))) (oh c) Γ1))
    (hrest : ∀ t, PSs X rest (tS g b Γb (Γ1 t) (k t) Γn)) (hN : X.N.Nodup)
    (hl : Le cx Γ := by repeat (first | exact Le.nil | apply Le.same | apply Le.none)) (hl2 : Le b.cx cx := by repeat (first | exact Le.nil | apply Le.same | apply Le.none))
    (h1 : ∀ t, ((Γ1 t)[i]?).join = none := by intro _; rfl) (h2 : ∀ t, ((Γb t)[i]?).join = none := by first | (intro t; exact t.elim) | (intro _; rfl)) (hcx : (cx[i]?).join = none := by rfl) (hbx : (b.cx[i]?).join = none := by rfl)
    (hlb : ∀ t, Le b.cx (Γb t) := by first | (intro t; exact t.elim) | (intro _; repeat (first | exact Le.nil | apply Le.same | apply Le.none)))
    (hs : X.stack = X.env :: X.outer := by rfl) (hf : X.env.frame = some X.env.locals := by rfl) (hi : X.N[i]? = some n := by rfl) (hln : X.env.kindOf n = some .local := by rfl) (hg : Gl X x := by rfl) (hd : (x == ("__debug__" : Str)) = false := by decide) (hK : X.K = g.K := by rfl) :
    PSs X (.Try body [.ExceptHandler (some (.Name x np)) (some n) (b₀ :: suite) pos'] [] [] pos :: rest) (tS g b Γb Γ ((tryF ob ks oh).bind k) Γn) := by
  obtain ⟨cv, hcv, hks⟩ := T.ex
  let ts : Addr → Value → Option Addr → TS := fun a cls d Ds σ H => σ.length = X.N.length → ∃ c, ∃ ci : CI, ∃ _ : g.ci c = some ci ∧ ks.lookup c = some true ∧ cls = .ref ci.C ∧ d = none, tS g (b.wish b.cx fun _ _ _ _ => False) Γb (cx.set i (some (.x a))) (oh c) Γ1 Ds σ H
  refine PSs.impI (pss_cons (ps_try_as (Wout := b.W) (ts := ts) (tb := fun W => tS g (b.wish cx W) Γb Γ ob Γ1) hs hf hN hi hln ⟨hg, hd, hcv⟩ tk hbody fun a oe cls d pn hz hv => PSs.impI (PSs.ex fun c => PSs.ex fun ci => PSs.ex fun e => ?_) fun D σ H hl q => q hl) (PSs.ex fun t => hrest t)) fun Ds σ H hσ h => ?_
  · obtain ⟨e1, e2, e3, e4⟩ := e
    subst e3 e4
    exact hsuite a oe pn c ci e1 e2 hz hv
  obtain ⟨F, rf, h⟩ := h
  refine ⟨F, rf.wish hl, ?_⟩
  -- behind the body or the suite
  have back : ∀ {t : υ} {F' : Hp} {σ' : L2.St} {H' : Hp} {cx2 : Ctx} {W2 : WX}, EndS g b Γb Γn (k t) Ds → Le b.cx cx2 → Rf g (b.wish cx2 W2) (Γ1 t) F' σ' H' → ∃ t, tS g b Γb (Γ1 t) (k t) Γn Ds σ' H' := fun {t} {F'} {σ'} {H'} {cx2} {W2} e l r => ⟨t, F', r.unwish (l.trans r.le), e⟩
  cases q : ob with
  | nx t =>
    rw [q] at h
    exact fun F' σ' H' r => back h hl2 r
  | rt d =>
    rw [q] at h
    exact fun v F' H' gr en => h v F' H' gr en
  | bk t =>
    rw [q] at h
    exact fun F' σ' H' r => h F' σ' H' (r.unwish (hlb t))
  | ct t =>
    rw [q] at h
    exact fun F' σ' H' r => h F' σ' H' (r.unwish (hlb t))
  | no =>
    rw [q] at h
    exact h
  | ex c fs =>
    rw [q] at h
    cases fs with
    | cons f fs => exact h.elim
    | nil =>
      intro cls od F' σ' H' r ok
      obtain ⟨ci, e1, e2, e3, _⟩ := ok
      have e3 := e3 rfl
      subst e2 e3
      have h : EndS g b Γb Γn ((match ks.lookup c with
        | some true => (oh c).noEx
        | some false => (.ex c [] : Fl β υ)
        | none => .no).bind k) Ds := h
      cases q2 : ks.lookup c with
      | none =>
        rw [q2] at h
        exact h.elim
      | some bb =>
        rw [q2] at h
        refine ⟨bb, by rw [hK]; exact hks c bb q2 ci e1, fun e a ha => ?_, fun e => ?_⟩
        · subst e
          refine fun hlen => ⟨c, ci, ⟨e1, q2, rfl, rfl⟩, F', ?_, ?_⟩
          · rw [List.length_set] at hlen
            exact Rf.setx (b := b.wish b.cx fun _ _ _ _ => False) ((r.unwish hl2).wish hl2) hbx (by rw [hlen]; exact (List.getElem?_eq_some_iff.mp hi).1)
          · have h : EndS g b Γb Γn ((oh c).noEx.bind k) Ds := h
            cases q3 : oh c with
            | nx t =>
              rw [q3] at h
              exact fun F2 σ2 H2 r2 => back h (Le.refl _) (r2.other (h1 t))
            | rt d =>
              rw [q3] at h
              exact fun v F2 H2 gr en => h v F2 H2 gr en
            | bk t =>
              rw [q3] at h
              exact fun F2 σ2 H2 r2 => h F2 _ H2 ((r2.other (h2 t)).unwish (hlb t))
            | ct t =>
              rw [q3] at h
              exact fun F2 σ2 H2 r2 => h F2 _ H2 ((r2.other (h2 t)).unwish (hlb t))
            | ex c2 fs2 =>
              rw [q3] at h
              exact h.elim
            | no =>
              rw [q3] at h
              exact h.elim
        · subst e
          exact h (.ref ci.C) none F' σ' H' (r.unwish hl2).cx ⟨ci, e1, rfl, fun _ => rfl, fun z => absurd rfl z⟩
/-! ### isinstance of the exception that is held -/
/-- the class behind isinstance, own or built in: which classes of the table are of it -/
structure KitT (g : Gm) (mg : Str → Option Value) (x : Str) (ks : List (Str × Bool)) : Prop where
  ex : ∃ cv c, (mg x = some cv ∨ (mg x = none ∧ bootBuiltins x = some cv ∧ x ≠ "__name__")) ∧ ClsV c cv ∧ ∀ n b, ks.lookup n = some b → ∀ i, g.ci n = some i → PySem.W.kitOne g.K (.ref i.C) cv = some b ∧ ExcC g.K i.C
/-- the name of a class, read -/
theorem pe_clsName {X : Cx} {x : Str} {cv : Value} {c : V} {p : Pos} (h : X.mg x = some cv ∨ (X.mg x = none ∧ bootBuiltins x = some cv ∧ x ≠ "__name__")) (hc : ClsV c cv) (hg : Gl X x) (hd : (x == ("__debug__" : Str)) = false) : PE X (.Name x p) (tC c) := by
  have rc : RelV c cv := by
    cases hc with
    | ty n => rfl
    | own C => rfl
  rcases h with h | ⟨h1, h2, h3⟩
  · exact pe_glob hg h rc hd
  · exact pe_bltn hg h1 h2 rc h3 hd
theorem pe_exc {X : Cx} {i : Nat} {n : Str} {a : Addr} {pos : Pos} (hΓ : Γ[i]? = some (some (.x a))) (hN : X.N[i]? = some n) (hv : Vis X.env.scope n) (hd : (n == ("__debug__" : Str)) = false) (hcd : (n == ("__classdict__" : Str)) = false) :
    PE X (.Name n pos) (fun σ H Q => ∃ F, Rf g b Γ F σ H ∧ Q (.ref a) H) := PE.imp (pe_var hN hv hd hcd) fun σ H Q q => by
  obtain ⟨F, rf, q⟩ := q
  obtain ⟨ov, h1, h2⟩ := rf.at_ i _ hΓ
  cases ov with
  | none => exact h2.elim
  | some v =>
    cases v <;> first | exact h2.elim | skip
    have e : _ = a := h2
    subst e
    exact ⟨_, h1, q⟩
/-- isinstance(e, C) -/
theorem t_isX {X : Cx} {x n : Str} {i : Nat} {ks : List (Str × Bool)} {a : Addr} {oe : Obj} {pn : List (Addr × Obj)} {c : Str} {ci : CI} {kb : Bool} {p p1 p2 pos : Pos} (T : KitT g X.mg x ks) (hci : g.ci c = some ci) (hz : Zc (.ref ci.C) none oe) (hf : ∃ vs, oe.data = .fields vs) (hk : ks.lookup c = some kb) (hm : X.mg "isinstance" = none)
    (hΓ : Γ[i]? = some (some (.x a)) := by rfl) (hN : X.N[i]? = some n := by rfl) (hv : Vis X.env.scope n := by first | exact Or.inl rfl | exact Or.inr (Or.inl rfl) | exact Or.inr (Or.inr rfl)) (hd : (n == ("__debug__" : Str)) = false := by decide) (hcd : (n == ("__classdict__" : Str)) = false := by decide)
    (hgT : Gl X x := by rfl) (hdx : (x == ("__debug__" : Str)) = false := by decide) (hg : Gl X "isinstance" := by rfl) (hvi : bootBuiltins "isinstance" = some (.builtin "isinstance") := by decide +kernel)
    (he : starEach [.Name n p1, .Name x p2] X.env = (false, eval (.Name n p1) X.env) :: starEach [.Name x p2] X.env := by rfl) (he2 : starEach [.Name x p2] X.env = (false, eval (.Name x p2) X.env) :: starEach [] X.env := by rfl)
    (hpl : (backTo pos (starEach [.Name x p2] X.env)).any (·.1) = false := by rfl) (hw : ∀ whole, isTrue (.Call (.Name "isinstance" p) [.Name n p1, .Name x p2] [] pos) X.env whole = (do let v ← whole; standAt pos; holding [v] (truthy v)) := by intro _; rfl) (hK : X.K = g.K := by rfl) :
    PT (X.suite a ((a, oe) :: pn)) (.Call (.Name "isinstance" p) [.Name n p1, .Name x p2] [] pos) (tT g b Γ (.ok kb)) := by
  obtain ⟨cv, cl, hcv, hcl, hks⟩ := T.ex
  obtain ⟨k1, k2⟩ := hks c kb hk ci hci
  rw [← hK] at k1 k2
  refine PT.imp (pt_val (pe_callB (X := X.suite a ((a, oe) :: pn)) (call_isE k2 hz hf) hg hm hvi (pa_cons (pe_exc (X := X.suite a ((a, oe) :: pn)) (g := g) (b := b) hΓ hN hv hd hcd) (pa_cons (pe_clsName (X := X.suite a ((a, oe) :: pn)) hcv hcl hgT hdx) pa_nil he2) he) (by decide) (by decide) he hpl) hw) fun σ H Q q => ?_
  obtain ⟨F, rf, q⟩ := q
  exact ⟨F, rf, ⟨_, cv, kb, rfl, fun u r => hcl.eq r, k1, kb, rfl, q F H (Grow.refl rf.gr.fh)⟩⟩
/-- .. as a value -/
theorem e_isX {X : Cx} {x n : Str} {i : Nat} {ks : List (Str × Bool)} {a : Addr} {oe : Obj} {pn : List (Addr × Obj)} {c : Str} {ci : CI} {kb : Bool} {p p1 p2 pos : Pos} (T : KitT g X.mg x ks) (hci : g.ci c = some ci) (hz : Zc (.ref ci.C) none oe) (hf : ∃ vs, oe.data = .fields vs) (hk : ks.lookup c = some kb) (hm : X.mg "isinstance" = none)
    (hΓ : Γ[i]? = some (some (.x a)) := by rfl) (hN : X.N[i]? = some n := by rfl) (hv : Vis X.env.scope n := by first | exact Or.inl rfl | exact Or.inr (Or.inl rfl) | exact Or.inr (Or.inr rfl)) (hd : (n == ("__debug__" : Str)) = false := by decide) (hcd : (n == ("__classdict__" : Str)) = false := by decide)
    (hgT : Gl X x := by rfl) (hdx : (x == ("__debug__" : Str)) = false := by decide) (hg : Gl X "isinstance" := by rfl) (hvi : bootBuiltins "isinstance" = some (.builtin "isinstance") := by decide +kernel)
    (he : starEach [.Name n p1, .Name x p2] X.env = (false, eval (.Name n p1) X.env) :: starEach [.Name x p2] X.env := by rfl) (he2 : starEach [.Name x p2] X.env = (false, eval (.Name x p2) X.env) :: starEach [] X.env := by rfl)
    (hpl : (backTo pos (starEach [.Name x p2] X.env)).any (·.1) = false := by rfl) (hK : X.K = g.K := by rfl) :
    PE (X.suite a ((a, oe) :: pn)) (.Call (.Name "isinstance" p) [.Name n p1, .Name x p2] [] pos) (tE g b Γ (.ok (.bool kb))) := by
  obtain ⟨cv, cl, hcv, hcl, hks⟩ := T.ex
  obtain ⟨k1, k2⟩ := hks c kb hk ci hci
  rw [← hK] at k1 k2
  refine PE.imp (pe_callB (X := X.suite a ((a, oe) :: pn)) (call_isE k2 hz hf) hg hm hvi (pa_cons (pe_exc (X := X.suite a ((a, oe) :: pn)) (g := g) (b := b) hΓ hN hv hd hcd) (pa_cons (pe_clsName (X := X.suite a ((a, oe) :: pn)) hcv hcl hgT hdx) pa_nil he2) he) (by decide) (by decide) he hpl) fun σ H Q q => ?_
  obtain ⟨F, q⟩ := q
  exact ⟨F, q.1, ⟨_, cv, kb, rfl, fun u r => hcl.eq r, k1, q.done (.bl kb)⟩⟩
/-! .. by a table -/
def isXB (ks : List (Str × Bool)) (c : Str) : Res Bool := ofO (ks.lookup c)
def isXR (ks : List (Str × Bool)) (c : Str) : Res D := (isXB ks c).bind fun k => .ok (.bool k)
theorem pe_noR {X : Cx} {e : Expr} : PE X e (tE g b Γ .no) := ⟨fun pins s σ H Q I ⟨F, rf, h⟩ => h.elim⟩
theorem pt_noR {X : Cx} {e : Expr} : PT X e (tT g b Γ .no) := ⟨fun pins s σ H Q I ⟨F, rf, h⟩ => h.elim⟩
theorem t_isXT {X : Cx} {x n : Str} {i : Nat} {ks : List (Str × Bool)} {a : Addr} {oe : Obj} {pn : List (Addr × Obj)} {c : Str} {ci : CI} {p p1 p2 pos : Pos} (T : KitT g X.mg x ks) (hci : g.ci c = some ci) (hz : Zc (.ref ci.C) none oe) (hf : ∃ vs, oe.data = .fields vs) (hm : X.mg "isinstance" = none)
    (hΓ : Γ[i]? = some (some (.x a)) := by rfl) (hN : X.N[i]? = some n := by rfl) (hv : Vis X.env.scope n := by first | exact Or.inl rfl | exact Or.inr (Or.inl rfl) | exact Or.inr (Or.inr rfl)) (hd : (n == ("__debug__" : Str)) = false := by decide) (hcd : (n == ("__classdict__" : Str)) = false := by decide)
    (hgT : Gl X x := by rfl) (hdx : (x == ("__debug__" : Str)) = false := by decide) (hg : Gl X "isinstance" := by rfl) (hvi : bootBuiltins "isinstance" = some (.builtin "isinstance") := by decide +kernel)
    (he : starEach [.Name n p1, .Name x p2] X.env = (false, eval (.Name n p1) X.env) :: starEach [.Name x p2] X.env := by rfl) (he2 : starEach [.Name x p2] X.env = (false, eval (.Name x p2) X.env) :: starEach [] X.env := by rfl)
    (hpl : (backTo pos (starEach [.Name x p2] X.env)).any (·.1) = false := by rfl) (hw : ∀ whole, isTrue (.Call (.Name "isinstance" p) [.Name n p1, .Name x p2] [] pos) X.env whole = (do let v ← whole; standAt pos; holding [v] (truthy v)) := by intro _; rfl) (hK : X.K = g.K := by rfl) :
    PT (X.suite a ((a, oe) :: pn)) (.Call (.Name "isinstance" p) [.Name n p1, .Name x p2] [] pos) (tT g b Γ (isXB ks c)) := by
  unfold isXB
  cases q : ks.lookup c with
  | none => exact pt_noR
  | some k => exact t_isX T hci hz hf q hm hΓ hN hv hd hcd hgT hdx hg hvi he he2 hpl hw hK
theorem e_isXT {X : Cx} {x n : Str} {i : Nat} {ks : List (Str × Bool)} {a : Addr} {oe : Obj} {pn : List (Addr × Obj)} {c : Str} {ci : CI} {p p1 p2 pos : Pos} (T : KitT g X.mg x ks) (hci : g.ci c = some ci) (hz : Zc (.ref ci.C) none oe) (hf : ∃ vs, oe.data = .fields vs) (hm : X.mg "isinstance" = none)
    (hΓ : Γ[i]? = some (some (.x a)) := by rfl) (hN : X.N[i]? = some n := by rfl) (hv : Vis X.env.scope n := by first | exact Or.inl rfl | exact Or.inr (Or.inl rfl) | exact Or.inr (Or.inr rfl)) (hd : (n == ("__debug__" : Str)) = false := by decide) (hcd : (n == ("__classdict__" : Str)) = false := by decide)
    (hgT : Gl X x := by rfl) (hdx : (x == ("__debug__" : Str)) = false := by decide) (hg : Gl X "isinstance" := by rfl) (hvi : bootBuiltins "isinstance" = some (.builtin "isinstance") := by decide +kernel)
    (he : starEach [.Name n p1, .Name x p2] X.env = (false, eval (.Name n p1) X.env) :: starEach [.Name x p2] X.env := by rfl) (he2 : starEach [.Name x p2] X.env = (false, eval (.Name x p2) X.env) :: starEach [] X.env := by rfl)
    (hpl : (backTo pos (starEach [.Name x p2] X.env)).any (·.1) = false := by rfl) (hK : X.K = g.K := by rfl) :
    PE (X.suite a ((a, oe) :: pn)) (.Call (.Name "isinstance" p) [.Name n p1, .Name x p2] [] pos) (tE g b Γ (isXR ks c)) := by
  unfold isXR isXB
  cases q : ks.lookup c with
  | none => exact pe_noR
  | some k => exact e_isX T hci hz hf q hm hΓ hN hv hd hcd hgT hdx hg hvi he he2 hpl hK
end
/-! ### facts of the top -/
section
open He
variable {K : PySem.W.Frag}
/-- what a name stands for: an own class, or a built-in one -/
def clsVal (K : PySem.W.Frag) (x : Str) (bt : Option String) : Value := match bt with
  | none => .ref (ga K x)
  | some T => .type T
def catchB (K : PySem.W.Frag) (x : Str) (bt : Option String) (ks : List (Str × Bool)) : Bool := ks.all fun q => decide (PySem.W.exmOne K (.ref (ga K q.1)) (clsVal K x bt) = some q.2)
def excCB (K : PySem.W.Frag) (D : Addr) : Bool := eqO (PySem.W.findIn K (.ref D) "__getattribute__") (some (some (.builtin "BaseException.__getattribute__"))) && (eqO (PySem.W.findIn K (.ref D) "__getattr__") (some none) && (decide (PySem.W.subIn K (.ref D) (.type "BaseException") = some true) &&
  (PySem.W.hasDictIn K D && (eqO (PySem.W.findIn K (.ref D) "__class__") (some (some (.builtin "object.__class__"))) && (eqO (PySem.W.specialIn K (.builtin "object.__class__") "__get__") (some (some (.builtin "getset_descriptor.__get__"))) &&
  (decide (PySem.W.takesIn K (.builtin "object.__class__") = some true) && decide (PySem.W.mroIn K D (.type "object") = some true)))))))
theorem excC_ok {D : Addr} (c : excCB K D = true) : ExcC K D := by
  obtain ⟨c1, c⟩ := ba c
  obtain ⟨c2, c⟩ := ba c
  obtain ⟨c3, c⟩ := ba c
  obtain ⟨c4, c⟩ := ba c
  obtain ⟨c5, c⟩ := ba c
  obtain ⟨c6, c⟩ := ba c
  obtain ⟨c7, c8⟩ := ba c
  exact ⟨eqO_ok c1, eqO_ok c2, of_decide_eq_true c3, c4, eqO_ok c5, eqO_ok c6, of_decide_eq_true c7, of_decide_eq_true c8⟩
def kitOB (K : PySem.W.Frag) (x : Str) (bt : Option String) (ks : List (Str × Bool)) : Bool := ks.all fun q => decide (PySem.W.kitOne K (.ref (ga K q.1)) (clsVal K x bt) = some q.2) && excCB K (ga K q.1)
/-- the name is as clsVal tells -/
def NameIs (mg : Str → Option Value) (K : PySem.W.Frag) (x : Str) (bt : Option String) : Prop := match bt with
  | none => mg x = some (.ref (ga K x))
  | some T => mg x = none ∧ bootBuiltins x = some (.type T) ∧ x ≠ "__name__"
theorem NameIs.val {mg : Str → Option Value} {x : Str} {bt : Option String} (h : NameIs mg K x bt) : mg x = some (clsVal K x bt) ∨ (mg x = none ∧ bootBuiltins x = some (clsVal K x bt) ∧ x ≠ "__name__") := by
  cases bt with
  | none => exact .inl h
  | some T => exact .inr h
theorem catch_ok {mg : Str → Option Value} {t : List (Str × Kd × List Str × List Nat)} {x : Str} {bt : Option String} {ks : List (Str × Bool)} (c : catchB K x bt ks = true) (h : NameIs mg K x bt) : CatchT ⟨K, ciT K t⟩ mg x ks := ⟨⟨_, h.val, fun n b e i hi => by
  have hm := lookup_mem e
  have := of_decide_eq_true (List.all_eq_true.mp c _ hm)
  rw [ciT_at hi]
  exact this⟩⟩
theorem kit_ok {mg : Str → Option Value} {t : List (Str × Kd × List Str × List Nat)} {x : Str} {bt : Option String} {ks : List (Str × Bool)} (c : kitOB K x bt ks = true) (h : NameIs mg K x bt) : KitT ⟨K, ciT K t⟩ mg x ks := by
  refine ⟨⟨clsVal K x bt, (match bt with
    | none => .ref (ga K x)
    | some T => .ty T), h.val, ?_, fun n b e i hi => ?_⟩⟩
  · cases bt with
    | none => exact .own _
    | some T => exact .ty T
  · have hm := lookup_mem e
    obtain ⟨c1, c2⟩ := ba (List.all_eq_true.mp c _ hm)
    rw [ciT_at hi]
    exact ⟨of_decide_eq_true c1, excC_ok c2⟩
end
end Mi
/-! Mi14: list(range(..)), xs.append(ys.pop(e)). -/
namespace Mi
open L2 PySem PySem.Spec PyProof.Rows
section
variable {X : Cx} {g : Gm} {b : Bs} {Γ : Ctx} {F : Hp} {σ : L2.St} {H : Hp} {e e1 e2 : Expr} {es : List Expr} {pos p : Pos} {r ra rb : Res D} {x f : Str} {β τ υ : Type} {Γb : β → Ctx} {Γn : τ → Ctx} {rest : List Stmt}
theorem enc_rg (a b : Int) : EncL g F (rgV a b) (rngL a (b - a).toNat) := by
  unfold rgV rngL
  generalize List.range (b - a).toNat = ks
  induction ks with
  | nil => exact .nil
  | cons k ks ih => exact .cons (.int _) ih
/-- list(range(n)) -/
def rngR (d : D) : Res (List D) := match d with
  | .int n => if 0 ≤ n ∧ n ≤ cap then .ok (rngL 0 n.toNat) else .no
  | _ => .no
theorem n_listRg {p1 pos1 : Pos} (ha : PE X e1 (tE g b Γ ra)) (hm : X.mg "list" = none) (hmr : X.mg "range" = none) (hc : X.calm = true := by rfl) (hg : Gl X "list" := by rfl) (hgr : Gl X "range" := by rfl)
    (na : starEach [e1] X.env = (false, eval e1 X.env) :: starEach [] X.env := by rfl) (na2 : starEach [.Call (.Name "range" p1) [e1] [] pos1] X.env = (false, eval (.Call (.Name "range" p1) [e1] [] pos1) X.env) :: starEach [] X.env := by rfl) :
    PE X (.Call (.Name "list" p) [.Call (.Name "range" p1) [e1] [] pos1] [] pos) (tN g b Γ (ra.bind rngR)) := PE.imp (pe_listRg hc hg hm (prg_1 hgr hmr ha na) na2) fun σ H Q q => by
  obtain ⟨F, q⟩ := q
  refine tE_bindN q fun y v F1 H1 _ g1 ey p1 => ?_
  cases ey with
  | int n =>
    have p1 : PostN g b Γ F1 (if 0 ≤ n ∧ n ≤ cap then .ok (rngL 0 n.toNat) else .no) σ H1 Q := p1
    by_cases q : 0 ≤ n ∧ n ≤ cap
    · rw [if_pos q] at p1
      have hcap : (cap : Int) = 100000 := rfl
      refine ⟨n, rfl, RgOk.of_le (by omega) (by omega) (by omega) (by omega), fun q2 hq => ?_⟩
      have en : EncL g F1 (rgV 0 n) (rngL 0 n.toNat) := by
        have := enc_rg (g := g) (F := F1) 0 n
        rw [Int.sub_zero] at this
        exact this
      exact p1.new en q2 hq
    · rw [if_neg q] at p1
      exact p1.2.elim
  | _ => exact p1.2.elim
def popK {β τ : Type} (ys : List D) (i : D) (k : D → List D → Fl β τ) : Fl β τ := match i with
  | .int n => if 0 ≤ n ∧ n < 2 ^ 62 then (match ys[n.toNat]? with
    | some d => k d (ys.eraseIdx n.toNat)
    | none => .no) else .no
  | _ => .no
theorem EncL.erase : ∀ {vs : List V} {ds : List D} (k : Nat), EncL g F vs ds → EncL g F (vs.eraseIdx k) (ds.eraseIdx k)
  | _, _, _, .nil => .nil
  | _, _, 0, .cons _ h => h
  | _, _, k + 1, .cons h t => .cons h (EncL.erase k t)
/-- xs.append(ys.pop(e)); rest -/
theorem b_appPop {i j : Nat} {y : Str} {xs ys : List D} {k : List D → List D → Fl β τ} {p1 p2 p3 p4 p5 p6 : Pos} (he : PE X e (tE g b Γ ra)) (hrest : ∀ zs ws, PSs X rest (tS g b Γb ((Γ.set j (some (.l ws))).set i (some (.l zs))) (k zs ws) Γn))
    (hΓ : Γ[i]? = some (some (.l xs)) := by rfl) (hΓ2 : Γ[j]? = some (some (.l ys)) := by rfl) (hij : i ≠ j := by decide) (hc : (b.cx[i]?).join = none := by rfl) (hc2 : (b.cx[j]?).join = none := by rfl) (hN : X.N[i]? = some x := by rfl) (hN2 : X.N[j]? = some y := by rfl)
    (hv : Vis X.env.scope x := by first | exact Or.inl rfl | exact Or.inr (Or.inl rfl) | exact Or.inr (Or.inr rfl)) (hv2 : Vis X.env.scope y := by first | exact Or.inl rfl | exact Or.inr (Or.inl rfl) | exact Or.inr (Or.inr rfl))
    (hd : (x == ("__debug__" : Str)) = false := by decide) (hcd : (x == ("__classdict__" : Str)) = false := by decide) (hd2 : (y == ("__debug__" : Str)) = false := by decide) (hcd2 : (y == ("__classdict__" : Str)) = false := by decide)
    (hbase : attributeBase (.Name x p1) "append" X.env (eval (.Name x p1) X.env) = eval (.Name x p1) X.env := by rfl)
    (hbase2 : attributeBase (.Name y p4) "pop" X.env (eval (.Name y p4) X.env) = eval (.Name y p4) X.env := by rfl)
    (hfew : ((backTo p3 (starEach [(Expr.Call (.Attribute (.Name y p4) "pop" p5) [e] [] p6)] X.env)).all (fun x => !x.1) && (backToKw p3 (keywordEach [] X.env)).all (fun x => x.1.isSome) && decide ([(Expr.Call (.Attribute (.Name y p4) "pop" p5) [e] [] p6)].length + ([] : List Keyword).length + (if ([] : List Keyword).isEmpty then 0 else 1) < 30)) = true := by rfl)
    (hfew2 : ((backTo p6 (starEach [e] X.env)).all (fun x => !x.1) && (backToKw p6 (keywordEach [] X.env)).all (fun x => x.1.isSome) && decide ([e].length + ([] : List Keyword).length + (if ([] : List Keyword).isEmpty then 0 else 1) < 30)) = true := by rfl)
    (hline : (p2.endLine == p3.line) = true := by rfl) (hline2 : (p5.endLine == p6.line) = true := by rfl)
    (hs : starEach [(Expr.Call (.Attribute (.Name y p4) "pop" p5) [e] [] p6)] X.env = (false, eval (Expr.Call (.Attribute (.Name y p4) "pop" p5) [e] [] p6) X.env) :: starEach [] X.env := by rfl) (hs2 : starEach [e] X.env = (false, eval e X.env) :: starEach [] X.env := by rfl)
    (hplain : (backTo p3 (starEach [] X.env)).any (·.1) = false := by rfl) (hplain2 : (backTo p6 (starEach [] X.env)).any (·.1) = false := by rfl)
    (hsw : swapsWith (.Call (.Attribute (.Name x p1) "append" p2) [(Expr.Call (.Attribute (.Name y p4) "pop" p5) [e] [] p6)] [] p3) none pos.line X.env = pure false := by rfl) :
    PSs X (.Expr (.Call (.Attribute (.Name x p1) "append" p2) [(Expr.Call (.Attribute (.Name y p4) "pop" p5) [e] [] p6)] [] p3) pos :: rest) (tS g b Γb Γ (ra.bindF fun n => popK ys n fun d ws => if xs.length < cap then k (xs ++ [d]) ws else .no) Γn) := by
  refine PSs.imp (pss_cons (ps_expr (pe_bm PySem.F.plainAttrs_list PySem.F.slot_list_append PySem.F.type_list_append mt_append (pe_var hN hv hd hcd) (pa_cons (pe_bm PySem.F.plainAttrs_list PySem.F.slot_list_pop PySem.F.type_list_pop mt_popAt (pe_var hN2 hv2 hd2 hcd2) (pa_cons he pa_nil hs2) hbase2 hfew2 hline2 hs2 hplain2) pa_nil hs) hbase hfew hline hs hplain) hsw) (PSs.ex fun zs => PSs.ex fun ws => hrest zs ws)) fun Ds σ H h => ?_
  obtain ⟨F, rf, h⟩ := h
  obtain ⟨a, vs, h1, h2, h3, h4, h5⟩ := rf.own hΓ
  obtain ⟨c, us, m1, m2, m3, m4, m5⟩ := rf.own hΓ2
  refine ⟨_, h1, .inl ⟨rfl, vs, SqL.of h4⟩, _, m1, .inl ⟨rfl, us, SqL.of m4⟩, tS_bindG rf h fun d v F1 H1 ed gr rf1 en k1 => ?_⟩
  obtain ⟨c', us', m1', m2', m3', m4', m5'⟩ := rf1.own hΓ2
  rw [m1] at m1'
  cases m1'
  cases en with
  | int n =>
    by_cases q : 0 ≤ n ∧ n < 2 ^ 62
    · have k1 : EndS g b Γb Γn (if 0 ≤ n ∧ n < 2 ^ 62 then (match ys[n.toNat]? with
        | some d => (if xs.length < cap then k (xs ++ [d]) (ys.eraseIdx n.toNat) else .no)
        | none => .no) else .no) Ds := k1
      rw [if_pos q] at k1
      cases hy : ys[n.toNat]? with
      | none =>
        rw [hy] at k1
        exact k1.elim
      | some d =>
        rw [hy] at k1
        have k1 : EndS g b Γb Γn (if xs.length < cap then k (xs ++ [d]) (ys.eraseIdx n.toNat) else .no) Ds := k1
        by_cases hz : xs.length < cap
        · rw [if_pos hz] at k1
          obtain ⟨w, hw, ew⟩ := m5'.get hy
          have hlt := (List.getElem?_eq_some_iff.mp hw).1
          have rf2 := rf1.mutl hΓ2 m1 m4' m2' m3' (m5'.erase n.toNat) hc2
          have hΓ' : (Γ.set j (some (.l (ys.eraseIdx n.toNat))))[i]? = some (some (.l xs)) := by rw [List.getElem?_set_ne (Ne.symm hij)]; exact hΓ
          obtain ⟨a', vs', q1, q2, q3, q4, q5⟩ := rf2.own hΓ'
          rw [h1] at q1
          cases q1
          have si : seqIndex? n us'.length = some n.toNat := (ixN_seq (show ixN us'.length n = some n.toNat by
            unfold ixN
            rw [if_pos q.1, if_pos (by omega)])).1
          exact ⟨c, us', n, n.toNat, w, rfl, rfl, m4', by omega, Int.lt_trans q.2 (by decide), si, hw, a, vs', w, rfl, rfl, q4, cap_lt (by rw [q5.len]; exact hz), _, _, F1, rf2.mutl hΓ' h1 q4 q2 q3 (q5.app (.cons ew .nil)) hc, k1⟩
        · rw [if_neg hz] at k1
          exact k1.elim
    · have k1 : EndS g b Γb Γn (if 0 ≤ n ∧ n < 2 ^ 62 then (match ys[n.toNat]? with
        | some d => (if xs.length < cap then k (xs ++ [d]) (ys.eraseIdx n.toNat) else .no)
        | none => .no) else .no) Ds := k1
      rw [if_neg q] at k1
      exact k1.elim
  | _ => exact k1.elim
end
end Mi
/-! Mi15: a field stored again, methods of texts, f-strings. -/
namespace Mi
open L2 PySem PySem.Spec PyProof.Rows
section
variable {g : Gm} {F : Hp}
theorem EncF.put {f : Str} {v : V} {d : D} (en : Enc g F v d) : ∀ {ns : List Str} {vs : List V} {kvs : List (D × D)}, EncF g F ns vs kvs → f ∈ keysF kvs → ∃ vs', putF f v (ns.zip vs) = ns.zip vs' ∧ vs'.length = vs.length ∧ EncF g F ns vs' (setF f d kvs)
  | _, _, _, .nil, h => nomatch h
  | _, _, _, .cons (f := n) (v := w) (d := e) (fs := ns) (vs := vs) (kvs := kvs) q k, h => by
    by_cases z : n = f
    · refine ⟨v :: vs, ?_, rfl, ?_⟩
      · show (if n = f then (n, v) :: ns.zip vs else (n, w) :: putF f v (ns.zip vs)) = _
        rw [if_pos z]
        rfl
      · show EncF g F (n :: ns) (v :: vs) (if n = f then (.str n, d) :: kvs else (.str n, e) :: setF f d kvs)
        rw [if_pos z]
        exact .cons en k
    · have h2 : f ∈ keysF kvs := by
        rcases List.mem_cons.mp h with y | y
        · exact absurd y.symm z
        · exact y
      obtain ⟨vs', e1, e2, e3⟩ := EncF.put en k h2
      refine ⟨w :: vs', ?_, congrArg (· + 1) e2, ?_⟩
      · show (if n = f then (n, v) :: ns.zip vs else (n, w) :: putF f v (ns.zip vs)) = _
        rw [if_neg z, e1]
        rfl
      · show EncF g F (n :: ns) (w :: vs') (if n = f then (.str n, d) :: kvs else (.str n, e) :: setF f d kvs)
        rw [if_neg z]
        exact .cons q e3
end
section
variable {X : Cx} {g : Gm} {b : Bs} {Γ : Ctx} {F : Hp} {σ : L2.St} {H : Hp} {e e1 e2 : Expr} {es : List Expr} {pos p : Pos} {r ra rb : Res D} {rs : Res (List D)} {x f : Str} {β τ υ : Type} {Γb : β → Ctx} {Γn : τ → Ctx} {rest body : List Stmt}
/-- a text -/
def asS : D → Option Str
  | .str x => some x
  | _ => none
/-- self.f = e, a field that it has; rest -/
theorem b_attrS {i : Nat} {a : Addr} {c : Str} {ci : CI} {kvs : List (D × D)} {k : D → Fl β τ} {p1 p2 : Pos} (co : CisOk g) (hci : g.ci c = some ci) (he : PE X e (tE g b Γ ra)) (hrest : ∀ d, PSs X rest (tS g b Γb (Γ.set i (some (.o a c (setF f d kvs)))) (k d) Γn))
    (hk : (match ci.k with
      | .dict => decide (f ∈ keysF kvs) && decide (f ∈ ci.fs) && decide (kvs.length < 1000)
      | _ => false) = true)
    (hΓ : Γ[i]? = some (some (.o a c kvs)) := by rfl) (hu : (Γ.set i none).all noO = true := by rfl) (hc : (b.cx[i]?).join = none := by rfl) (hN : X.N[i]? = some x := by rfl) (hv : Vis X.env.scope x := by first | exact Or.inl rfl | exact Or.inr (Or.inl rfl) | exact Or.inr (Or.inr rfl))
    (hd : (x == ("__debug__" : Str)) = false := by decide) (hcd : (x == ("__classdict__" : Str)) = false := by decide) (hs : swapsWith e (some (.Attribute (.Name x p1) f p2)) pos.line X.env = pure false := by rfl) (hK : X.K = g.K := by rfl) :
    PSs X (.Assign [.Attribute (.Name x p1) f p2] e pos :: rest) (tS g b Γb Γ (ra.bindF k) Γn) := by
  have hv2 := pe_var (pos := p1) hN hv hd hcd
  have one : PS X (.Assign [.Attribute (.Name x p1) f p2] e pos) (fun Ds σ H => tE g b Γ ra σ H fun v H1 => ∃ d, Rf g b Γ (Classical.epsilon fun F1 => Rf g b Γ F1 σ H1 ∧ Enc g F1 v d) σ H1 ∧ Enc g (Classical.epsilon fun F1 => Rf g b Γ F1 σ H1 ∧ Enc g F1 v d) v d ∧ ∀ F2 H2, Rf g b (Γ.set i (some (.o a c (setF f d kvs)))) F2 σ H2 → Ds.nx σ H2) := by
    refine ⟨fun pins s σ H Ds I h => ?_⟩
    refine plainObj_wpAny_Assign_Attribute (thn (he.run pins s σ H _ I h) fun u s1 ⟨v, H1, I1, rv, d, rf, en, q⟩ => ?_) hs
    generalize hF : (Classical.epsilon fun F1 => Rf g b Γ F1 σ H1 ∧ Enc g F1 v d) = F1 at rf en
    obtain ⟨ov, h1, h2⟩ := rf.at_ i _ hΓ
    cases ov with
    | none => exact h2.elim
    | some w =>
      cases w with
      | ref a1 =>
        obtain ⟨e0, ci', dx, ns, vs, q1, q2, q3, q4, q5, q6, q7, q8⟩ := h2
        subst e0
        rw [hci] at q1
        cases q1
        refine thn (hv2.run pins s1 σ H1 (fun v2 H2 => v2 = .ref a1 ∧ H2 = H1) I1 ⟨_, h1, rfl, rfl⟩) fun u2 s2 ⟨v2, H2, I2, rv2, e1, e2⟩ => ?_
        subst e1 e2
        cases rv2
        have kl := q7.lens
        rcases q8 with ⟨ks, qn, ql, ho⟩ | ⟨kd, ql, ha, hdx, hin⟩
        · rw [ks] at hk
          cases hk
        · rw [kd] at hk
          have hk : (decide (f ∈ keysF kvs) && decide (f ∈ ci.fs) && decide (kvs.length < 1000)) = true := hk
          rw [Bool.and_eq_true, Bool.and_eq_true, decide_eq_true_eq, decide_eq_true_eq, decide_eq_true_eq] at hk
          obtain ⟨⟨k1, k2⟩, k3⟩ := hk
          obtain ⟨vs', e1, e2, e3⟩ := EncF.put en q7 k1
          obtain ⟨sc, na⟩ := (co c ci hci).di kd
          refine setattr_ok I2 ha (hK ▸ sc) (show NoAttr X.K ci.C f from hK ▸ na f k2) (by rw [List.length_zip]; omega) rv fun s3 I3 => ⟨σ, _, I3, q F1 _ (rf.puto hΓ hu hc hci q2 q3 q4 q5 q6 (.inr ⟨kd, ql, ha, hdx, hin⟩) (fun z n1 n2 => upd_ne n1) (ns' := ns) (vs' := vs') (.inr ⟨kd, by rw [e2]; exact ql, ?_, ?_, hin⟩) e3)⟩
          · rw [upd_same, e1]
          · rw [upd_ne q6]
            exact hdx
      | _ => exact h2.elim
  refine PSs.imp (pss_cons one (PSs.ex fun d => hrest d)) fun Ds σ H h => ?_
  refine tS_bind h fun d v F1 H1 ed rf en h2 => ?_
  have sp := Classical.epsilon_spec (p := fun F1 => Rf g b Γ F1 σ H1 ∧ Enc g F1 v d) ⟨F1, rf, en⟩
  exact ⟨d, sp.1, sp.2, fun F2 H2 r2 => ⟨d, F2, r2, h2⟩⟩
/-- .. with the fields written out -/
theorem b_attrSL {i : Nat} {a : Addr} {c : Str} {ci : CI} {kvs : List (D × D)} {kvs' : D → List (D × D)} {k : D → Fl β τ} {p1 p2 : Pos} (co : CisOk g) (hci : g.ci c = some ci) (he : PE X e (tE g b Γ ra)) (hrest : ∀ d, PSs X rest (tS g b Γb (Γ.set i (some (.o a c (kvs' d)))) (k d) Γn))
    (hk : (match ci.k with
      | .dict => decide (f ∈ keysF kvs) && decide (f ∈ ci.fs) && decide (kvs.length < 1000)
      | _ => false) = true) (hset : ∀ d, setF f d kvs = kvs' d)
    (hΓ : Γ[i]? = some (some (.o a c kvs)) := by rfl) (hu : (Γ.set i none).all noO = true := by rfl) (hc : (b.cx[i]?).join = none := by rfl) (hN : X.N[i]? = some x := by rfl) (hv : Vis X.env.scope x := by first | exact Or.inl rfl | exact Or.inr (Or.inl rfl) | exact Or.inr (Or.inr rfl))
    (hd : (x == ("__debug__" : Str)) = false := by decide) (hcd : (x == ("__classdict__" : Str)) = false := by decide) (hs : swapsWith e (some (.Attribute (.Name x p1) f p2)) pos.line X.env = pure false := by rfl) (hK : X.K = g.K := by rfl) :
    PSs X (.Assign [.Attribute (.Name x p1) f p2] e pos :: rest) (tS g b Γb Γ (ra.bindF k) Γn) :=
  b_attrS co hci he (fun d => by rw [hset d]; exact hrest d) hk hΓ hu hc hN hv hd hcd hs hK
theorem b_attrL {i : Nat} {a : Addr} {c : Str} {ci : CI} {kvs : List (D × D)} {kvs' : D → List (D × D)} {k : D → Fl β τ} {p1 p2 : Pos} (co : CisOk g) (hci : g.ci c = some ci) (he : PE X e (tE g b Γ ra)) (hrest : ∀ d, PSs X rest (tS g b Γb (Γ.set i (some (.o a c (kvs' d)))) (k d) Γn))
    (hk : (match ci.k with
      | .slots => decide (ci.fs[kvs.length]? = some f)
      | _ => decide (f ∈ ci.fs) && decide (f ∉ keysF kvs) && decide (kvs.length < 1000)) = true) (hset : ∀ d, kvs ++ [(.str f, d)] = kvs' d)
    (hΓ : Γ[i]? = some (some (.o a c kvs)) := by rfl) (hu : (Γ.set i none).all noO = true := by rfl) (hc : (b.cx[i]?).join = none := by rfl) (hN : X.N[i]? = some x := by rfl) (hv : Vis X.env.scope x := by first | exact Or.inl rfl | exact Or.inr (Or.inl rfl) | exact Or.inr (Or.inr rfl))
    (hd : (x == ("__debug__" : Str)) = false := by decide) (hcd : (x == ("__classdict__" : Str)) = false := by decide) (hs : swapsWith e (some (.Attribute (.Name x p1) f p2)) pos.line X.env = pure false := by rfl) (hK : X.K = g.K := by rfl) :
    PSs X (.Assign [.Attribute (.Name x p1) f p2] e pos :: rest) (tS g b Γb Γ (ra.bindF k) Γn) :=
  b_attr co hci he (fun d => by rw [hset d]; exact hrest d) hk hΓ hu hc hN hv hd hcd hs hK
/-! ### methods of texts -/
def findD (x y : D) : Option D := match x, y with
  | .str a, .str z => some (.int (Txt.find a z))
  | _, _ => none
theorem e_find {apos : Pos} (ho : PE X e1 (tE g b Γ ra)) (he : PE X e2 (tE g b Γ rb)) (hs : starEach [e2] X.env = [(false, eval e2 X.env)] := by rfl) (hbase : attributeBase e1 "find" X.env (eval e1 X.env) = eval e1 X.env := by rfl) (hline : (apos.endLine == pos.line) = true := by rfl) :
    PE X (.Call (.Attribute e1 "find" apos) [e2] [] pos) (tE g b Γ (ra.bind fun x => (ofO (asS x)).bind fun a => rb.bind fun y => ofO (findD (.str a) y))) := by
  refine PE.imp (pe_m1 PySem.F.slot_str_find PySem.F.type_str_find mt_find ho he hs hbase hline) fun σ H Q q => ?_
  obtain ⟨F, q⟩ := q
  refine tE_bind q fun x v F1 H1 _ g1 ex p1 => ?_
  cases x <;> first | exact p1.2.elim | skip
  cases ex
  refine ⟨⟨_, rfl⟩, tE_bind (f := fun y => ofO (findD (.str _) y)) p1 fun y w F2 H2 _ g2 ey p2 => ?_⟩
  cases y <;> first | exact p2.2.elim | skip
  cases ey
  exact ⟨_, _, rfl, rfl, p2.done (.int _)⟩
def splitR (x : Str) (y : D) : Res (List D) := match y with
  | .str z => if (z.length == 0) = false ∧ x.length ≤ cap then .ok ((Txt.split x z).map .str) else .no
  | _ => .no
theorem encStrs : ∀ xs : List Str, EncL g F (xs.map V.str) (xs.map PyData.str)
  | [] => .nil
  | x :: xs => .cons (.str x) (encStrs xs)
/-- s.split(z): a new list -/
theorem n_split {apos : Pos} (ho : PE X e1 (tE g b Γ ra)) (he : PE X e2 (tE g b Γ rb)) (hs : starEach [e2] X.env = [(false, eval e2 X.env)] := by rfl) (hbase : attributeBase e1 "split" X.env (eval e1 X.env) = eval e1 X.env := by rfl) (hline : (apos.endLine == pos.line) = true := by rfl) :
    PE X (.Call (.Attribute e1 "split" apos) [e2] [] pos) (tN g b Γ (ra.bind fun x => (ofO (asS x)).bind fun a => rb.bind fun y => splitR a y)) := by
  refine PE.imp (pe_m1 PySem.F.slot_str_split PySem.F.type_str_split mt_split ho he hs hbase hline) fun σ H Q q => ?_
  obtain ⟨F, q⟩ := q
  refine tE_bindN q fun x v F1 H1 _ g1 ex p1 => ?_
  cases x <;> first | exact p1.2.elim | skip
  rename_i a _
  cases ex
  refine ⟨⟨_, rfl⟩, tE_bindN (f := fun y => splitR a y) p1 fun y w F2 H2 _ g2 ey p2 => ?_⟩
  cases y <;> first | exact p2.2.elim | skip
  rename_i z _
  cases ey
  have p2 : PostN g b Γ F2 (if (z.length == 0) = false ∧ a.length ≤ cap then .ok ((Txt.split a z).map .str) else .no) σ H2 Q := p2
  by_cases c : (z.length == 0) = false ∧ a.length ≤ cap
  · rw [if_pos c] at p2
    exact ⟨a, z, rfl, rfl, c.1, Nat.le_trans (Nat.add_le_add_right c.2 2) (by decide), fun q hq => p2.new (encStrs _) q hq⟩
  · rw [if_neg c] at p2
    exact p2.2.elim
/-- the texts of a row -/
def strsD : List D → Option (List Str)
  | [] => some []
  | .str x :: r => (strsD r).map (x :: ·)
  | _ :: _ => none
theorem strsD_some : ∀ {ds : List D} {xs : List Str}, strsD ds = some xs → ds = xs.map .str
  | [], xs, h => by
    cases h
    rfl
  | .str x :: r, xs, h => by
    have h : (strsD r).map (x :: ·) = some xs := h
    cases q : strsD r with
    | none =>
      rw [q] at h
      cases h
    | some ys =>
      rw [q] at h
      cases h
      rw [strsD_some q]
      rfl
  | .none :: _, _, h => nomatch h
  | .bool _ :: _, _, h => nomatch h
  | .int _ :: _, _, h => nomatch h
  | .list _ :: _, _, h => nomatch h
  | .tuple _ :: _, _, h => nomatch h
  | .dict _ :: _, _, h => nomatch h
def joinK (a : Str) (xs : List Str) : Option D := if (xs.map (·.length)).sum + xs.length * a.length ≤ 16777216 then some (.str (Txt.join a xs)) else none
def joinD (a : Str) (y : D) : Option D := match y with
  | .list xs => (strsD xs).bind (joinK a)
  | .tuple xs => (strsD xs).bind (joinK a)
  | _ => none
theorem encStrs_inv : ∀ {vs : List V} {xs : List Str}, EncL g F vs (xs.map PyData.str) → vs = xs.map V.str
  | _, [], .nil => rfl
  | _, x :: xs, .cons h k => by
    cases h
    rw [encStrs_inv k]
    rfl
/-- s.join(xs) -/
theorem e_join {apos : Pos} (ho : PE X e1 (tE g b Γ ra)) (he : PE X e2 (tR g b Γ rb)) (hs : starEach [e2] X.env = [(false, eval e2 X.env)] := by rfl) (hbase : attributeBase e1 "join" X.env (eval e1 X.env) = eval e1 X.env := by rfl) (hline : (apos.endLine == pos.line) = true := by rfl) (hK : X.K = g.K := by rfl) :
    PE X (.Call (.Attribute e1 "join" apos) [e2] [] pos) (tE g b Γ (ra.bind fun x => (ofO (asS x)).bind fun a => rb.bind fun y => ofO (joinD a y))) := by
  refine PE.imp (pe_m1 PySem.F.slot_str_join PySem.F.type_str_join mt_join ho he hs hbase hline) fun σ H Q q => ?_
  obtain ⟨F, q⟩ := q
  refine tE_bind q fun x v F1 H1 _ g1 ex p1 => ?_
  cases x <;> first | exact p1.2.elim | skip
  rename_i a _
  cases ex
  refine ⟨⟨_, rfl⟩, tR_bind (f := fun y => ofO (joinD a y)) p1 fun y w F2 H2 _ g2 ey p2 => ?_⟩
  obtain ⟨d, e, k⟩ := p2.gives
  have fin : ∀ (ds : List D), (strsD ds).bind (joinK a) = some d → ∃ xs, ds = xs.map PyData.str ∧ (xs.map (·.length)).sum + xs.length * a.length ≤ 16777216 ∧ d = .str (Txt.join a xs) := fun ds h2 => by
    cases q : strsD ds with
    | none =>
      rw [q] at h2
      cases h2
    | some xs =>
      rw [q] at h2
      have h2 : (if (xs.map (·.length)).sum + xs.length * a.length ≤ 16777216 then some (PyData.str (Txt.join a xs)) else none) = some d := h2
      obtain ⟨c, e⟩ := if_some h2
      exact ⟨xs, strsD_some q, c, e.symm⟩
  cases ey with
  | lst h1 k1 =>
    obtain ⟨xs, ed, c1, rfl⟩ := fin _ e
    subst ed
    have ev := encStrs_inv k1
    subst ev
    exact ⟨a, _, xs, rfl, rfl, .inl (SqL.of h1), c1, k.here p2.1.gr.fh (.str _)⟩
  | tup h1 k1 =>
    obtain ⟨xs, ed, c1, rfl⟩ := fin _ e
    subst ed
    have ev := encStrs_inv k1
    subst ev
    exact ⟨a, _, xs, rfl, rfl, .inr (hK ▸ h1.sqT), c1, k.here p2.1.gr.fh (.str _)⟩
  | _ => cases e
/-! ### f-strings -/
def fmtD : D → Option D
  | .str y => if y.length ≤ cap then some (.str y) else none
  | .int i => if i.natAbs < 1000000000000000000 then some (.str (toString i : String)) else none
  | _ => none
theorem e_fmt (ha : PE X e (tE g b Γ ra)) : PE X (.FormattedValue e (-1) none pos) (tE g b Γ (ra.bind fun x => ofO (fmtD x))) := by
  refine PE.imp (pe_fmt ha) fun σ H Q q => ?_
  obtain ⟨F, q⟩ := q
  refine tE_bind q fun x v F1 H1 _ g1 ex p1 => ?_
  obtain ⟨d, e, k⟩ := p1.gives
  cases x <;> simp only [fmtD] at e <;> try (cases e; done)
  · rename_i i _
    cases ex
    obtain ⟨c, rfl⟩ := if_some e
    have l2 : i.natAbs.log2 < 1920 := by
      by_cases z : i.natAbs = 0
      · rw [z]
        decide
      · exact Nat.lt_trans ((Nat.log2_lt (k := 60) z).mpr (Nat.lt_of_lt_of_le c (by decide))) (by decide)
    exact .inr ⟨i, rfl, l2, k.here p1.1.gr.fh (.str _)⟩
  · cases ex
    obtain ⟨c, rfl⟩ := if_some e
    exact .inl ⟨_, rfl, cap_line c, k.here p1.1.gr.fh (.str _)⟩
def catK (acc : Str) (x : D) (f : Str → Res D) : Res D := match x with
  | .str y => if (acc ++ y).length ≤ cap then f (acc ++ y) else .no
  | _ => .no
inductive JR (X : Cx) (g : Gm) (b : Bs) (Γ : Ctx) : List Expr → (Str → Res D) → Prop
  | nil : JR X g b Γ [] (fun acc => .ok (.str acc))
  | cons {e : Expr} {es : List Expr} {r : Res D} {f : Str → Res D} : PE X e (tE g b Γ r) → JR X g b Γ es f → JR X g b Γ (e :: es) (fun acc => r.bind fun x => catK acc x f)
theorem JR.run {es : List Expr} {f : Str → Res D} (h : JR X g b Γ es f) : ∃ ts, PJ X es ts ∧ ∀ (acc : Str) (σ : L2.St) (H : Hp) (Q : VK), tE g b Γ (f acc) σ H Q → tJs ts acc σ H fun out H1 => Q (.str out) H1 := by
  induction h with
  | nil => exact ⟨[], .nil, fun acc σ H Q ⟨F, q⟩ => q.done (.str _)⟩
  | @cons e es r ff he hr ih =>
    obtain ⟨ts, hp, hq⟩ := ih
    refine ⟨_ :: ts, .cons he hp, fun acc σ H Q ⟨F, q⟩ => tE_bind q fun x v F1 H1 _ g1 ex p1 => ?_⟩
    cases x <;> first | exact p1.2.elim | skip
    rename_i y _
    cases ex
    have p1 : Post g b Γ F1 (if (acc ++ y).length ≤ cap then ff (acc ++ y) else .no) σ H1 Q := p1
    by_cases c : (acc ++ y).length ≤ cap
    · rw [if_pos c] at p1
      exact ⟨y, rfl, cap_line c, hq _ σ H1 Q ⟨F1, p1⟩⟩
    · rw [if_neg c] at p1
      exact p1.2.elim
theorem e_joined {v1 v2 : Expr} {es : List Expr} {f : Str → Res D} (h : JR X g b Γ (v1 :: v2 :: es) f) : PE X (.JoinedStr (v1 :: v2 :: es) pos) (tE g b Γ (f Str.empty)) := by
  obtain ⟨ts, hp, hq⟩ := h.run
  exact PE.imp (pe_joined hp) fun σ H Q q => hq _ σ H Q q
theorem e_joined1 (ha : PE X e (tE g b Γ ra)) : PE X (.JoinedStr [e] pos) (tE g b Γ ra) := pe_joined1 ha
end
end Mi
/-! Mi16: classmethods. -/
namespace Mi
open L2 PySem PySem.Spec PyProof.Rows
/-- a class called without keywords -/
theorem kbn0 {K : PySem.W.Frag} {fd : FuncData} {ps : List Str} {n : Nat} (hb : Binds K fd ps []) (hl : ps.length = n) : KBn K fd ps n [] (fun us _ => us) (fun vs _ => vs) := by
  refine ⟨fun s us ws kin l1 _ => ?_, fun r _ => r⟩
  have := hb s us kin (by rw [List.append_nil, l1, hl])
  rw [List.append_nil] at this
  exact this
theorem make0 {P : Program} {w : World} {g : Gm} {mg : Str → Option Value} {base : Heap} {x : Str} {k n : Nat} {m : List D → Res D} {i : CI} {f : Addr} {fd : FuncData} {ps : List Str} (hi : g.ci x = some i) (gm : mg x = some (.ref i.C)) (M : Mk g.K i.C f) (Fn : FnOk P w g.K mg base (L2.CX P w) k f fd ps (spI g i m)) (hb : Binds g.K fd ps []) (hl : ps.length = n + 1) :
    MakeT P w g mg base x k n [] (fun xs _ => xs) m :=
  ⟨⟨i, f, fd, ps, _, _, hi, gm, M, Fn, kbn0 hb hl, fun F x vs zs ds es _ _ h _ => ⟨vs, rfl, h⟩⟩⟩
/-- the promise of a def whose first value is the class at C -/
def spC (g : Gm) (C : Addr) (m : List D → Res D) : Sp := fun vs H Q E => ∃ vs', vs = .ref C :: vs' ∧ spD g m vs' H Q E
structure CmT (P : Program) (w : World) (g : Gm) (mg : Str → Option Value) (base : Heap) (c m : Str) (k : Nat) (mm : List D → Res D) : Prop where
  ex : ∃ i mc p f, g.ci c = some i ∧ mg c = some (.ref i.C) ∧ ClX.CRead g.K i.C mc ∧ ClX.CMet g.K i.C mc m p f ∧ FnR P w g.K mg base (L2.CX P w) k f (spC g i.C mm)
section
variable {X : Cx} {g : Gm} {b : Bs} {Γ : Ctx} {F : Hp} {σ : L2.St} {H : Hp} {e e1 e2 : Expr} {es : List Expr} {pos p : Pos} {r ra rb ro : Res D} {rs : Res (List D)} {x f : Str}
theorem run_cmS {CX : CXT} {k : Nat} {q gg C : Addr} {sp : Sp} {E : L2.St → XK} {Q : VK} {us : List Value} {vs : List V} {pins : List (Addr × Obj)} {s : Shared} (Fn : FnR X.prog X.w X.K X.mg X.base CX k gg sp) (hr : Room k X.A) (hx : PassesAt CX X σ (E σ)) (I : Inv X ((q, PySem.W.methodObj (.ref gg) (.ref C)) :: pins) σ H s)
    (r : Vals vs us) (h : sp (.ref C :: vs) H Q (E σ)) : wpAny (model X.prog X.w) X.A (call (.ref q) us) (EP X pins σ Q) X.xe s := by
  have z : wpAny (model X.prog X.w) X.A (call (.ref q) us) (EP X ((q, PySem.W.methodObj (.ref gg) (.ref C)) :: pins) σ Q) X.xe s := by
    refine wpAny_call (PySem.W.method_call (ClX.pin_at I) (codeAny_mono (Fn X.A X.stack s H (.ref C :: us) (.ref C :: vs) Q (E σ) hr I.env0 (.cons rfl r) h) fun r s' hq => ?_))
    cases r with
    | error e => exact hx _ H s e s' I hq
    | ok fl =>
      cases fl with
      | ret u => exact I.after hq
      | next => exact False.elim hq
      | brk => exact False.elim hq
      | cont => exact False.elim hq
  exact thn z fun _ _ y => ClX.unpinE y
/-- C.m(e, ..), a classmethod -/
theorem e_cmeth {c m : Str} {k j : Nat} {mm : List D → Res D} {apos p1 : Pos} {pl : Sem Bool} (T : CmT X.prog X.w g X.mg X.base c m k mm) (hr : Room j X.A) (tk : Takes X b.W) (ha : PA X (e :: es) (tA g b Γ rs)) (hj : k ≤ j := by decide) (hg : Gl X c := by rfl) (hdb : (c == ("__debug__" : Str)) = false := by decide)
    (hst : starEach (e :: es) X.env = (false, eval e X.env) :: starEach es X.env := by rfl) (hpl : (backTo pos (starEach es X.env)).any (·.1) = false := by rfl)
    (ht : eval (.Call (.Attribute (.Name c p1) m apos) (e :: es) [] pos) X.env = (do
      let ov ← eval (.Name c p1) X.env
      standAt apos.atName
      let (f, first) ← holding [ov] (getMethod ov m pl)
      callWith pos f first (backTo pos (starEach (e :: es) X.env)) (backToKw pos (keywordEach [] X.env))) := by rfl) (hK : X.K = g.K := by rfl) :
    PE X (.Call (.Attribute (.Name c p1) m apos) (e :: es) [] pos) (tE g b Γ (rs.bind mm)) := by
  obtain ⟨i, mc, pa, fa, hi, gm, rd, cm, Fn⟩ := T.ex
  rw [← hK] at rd cm Fn
  refine ⟨fun pins s σ H Q I h => ?_⟩
  obtain ⟨F, h⟩ := h
  refine PySem.W.methodCall_KW (pl := pl) (thn ((pe_glob (X := X) (v := .ref i.C) (pos := p1) hg gm rfl hdb).run pins s σ H (fun v H1 => v = .ref i.C ∧ H1 = H) I ⟨rfl, rfl⟩) fun u s1 ⟨v, H1, I1, rv, ev, eh⟩ => ?_) ht
  subst ev eh
  obtain rfl : u = Value.ref i.C := rv
  refine ClX.getmethcm_ok I1 rd cm fun s2 I2 => ?_
  refine ClX.callwith_cm I2 (ClX.base_none I1 (Nat.le_refl _)) cm.fi (thn (ha.run pos _ s2 σ H1 (fun ws H2 => ∃ ds F2, Post g b Γ F2 (mm ds) σ H2 Q ∧ EncL g F2 ws ds) I2 (tA_bind h fun ds ws F2 H2 _ g2 en2 p2 => ⟨ds, F2, p2, en2⟩)) fun us s3 ⟨ws, H2, I3, rv, ds, F2, p2, en2⟩ => ⟨⟨ClX.pin_at I3, I3.kIn⟩, ?_⟩) hst hpl
  exact run_cmS (E := WE b.W) Fn (hr.mono hj) (passAt tk σ) I3 rv ⟨_, rfl, sp_of p2 en2⟩
/-- cls(e, ..), cls a local that holds the class -/
theorem e_makeC {x nm : Str} {i : Nat} {C : Addr} {k n j : Nat} {gD : List D → List D → List D} {m : List D → Res D} (T : MakeT X.prog X.w g X.mg X.base x k n [] gD m) (hC : ∀ ci, g.ci x = some ci → ci.C = C) (hr : Room j X.A) (tk : Takes X b.W) (ha : PA X (e :: es) (tA g b Γ rs)) (hj : k + 1 ≤ j := by decide)
    (hl : ∀ ds, rs = .ok ds → ds.length = n) (hΓ : Γ[i]? = some (some (.x C)) := by rfl) (hN : X.N[i]? = some nm := by rfl) (hv : Vis X.env.scope nm := by first | exact Or.inl rfl | exact Or.inr (Or.inl rfl) | exact Or.inr (Or.inr rfl)) (hd : (nm == ("__debug__" : Str)) = false := by decide) (hcd : (nm == ("__classdict__" : Str)) = false := by decide)
    (he : starEach (e :: es) X.env = (false, eval e X.env) :: starEach es X.env := by rfl) (hpl : (backTo pos (starEach es X.env)).any (·.1) = false := by rfl) (hK : X.K = g.K := by rfl) :
    PE X (.Call (.Name nm p) (e :: es) [] pos) (tE g b Γ (rs.bind fun ds => m (gD ds []))) := by
  obtain ⟨ci, f, fd, ps, g', gV, hi, gm, M, Fn, hb, hG⟩ := T.ex
  have eC := hC ci hi
  rw [← hK] at Fn hb M
  refine ⟨fun pins s σ H Q I h => ?_⟩
  obtain ⟨F, h⟩ := h
  refine wpAny_Call_Name_kw (thn ((pe_exc (X := X) (g := g) (b := b) (pos := p) hΓ hN hv hd hcd).run pins s σ H (fun v H1 => v = .ref C ∧ H1 = H) I ⟨F, h.1, rfl, rfl⟩) fun u s0 ⟨v, H1, I0, rv, ev, eh⟩ => ?_)
  subst ev eh
  obtain rfl : u = Value.ref C := rv
  subst eC
  refine PySem.W.callWith_K (h₀ := X.base) I0.ok.mod.kin M.kp (thn (ha.run pos pins s0 σ H1 (fun vs H1 => ∃ ds F1, rs = .ok ds ∧ Post g b Γ F1 (m (gD ds [])) σ H1 Q ∧ EncL g F1 vs ds) I0 (tA_bind h fun d v F1 H1 hrs g1 en p1 => ⟨d, F1, hrs, p1, en⟩)) fun us s1 ⟨vs, H1, I1, rv, ds, F1, hrs, p1, en⟩ => ⟨I1.kIn, ?_⟩) he hpl
  have l1 : vs.length = n := by rw [en.len, hl ds hrs]
  refine run_makeS (ks := []) (ws := []) (zs := []) M Fn (hr.mono hj) hb (passAt tk σ) I1 rv .nil l1 rfl fun a dx h1 h2 h3 => ?_
  obtain ⟨ws, e1, e2⟩ := hG F1 a vs [] ds [] l1 rfl en .nil
  rw [e1]
  exact make_go p1 e2 h1 h2 h3
end
/-! ### the def of a classmethod -/
section
variable {P : Program} {w : World} {g : Gm} {mg : Str → Option Value} {base : Heap} {k : Nat} {f : Addr} {fd : FuncData} {name qual : Str} {params : Arguments} {body : List Stmt} {scope : Scope} {dvs : List V} {kws : List (Str × V)} {N ps : List Str}
theorem cm_ok {C : Addr} {o : List D → Fl Empty Unit} {m : List D → Res D} (Fd : FunD g.K name qual params body scope dvs kws f fd) (S : FnScope N ps scope) (hm : ∀ ds, ds.length + 1 = ps.length → m ds = (o ds).res) (hl : ∀ ds, ds.length + 1 ≠ ps.length → m ds = .no)
    (hbody : ∀ (cdv : Value) (A : Around) (outer : List Env) (s : Shared) (H F : Hp) (E : XK) (ds : List D), Side k P w g mg base N qual scope f cdv A outer s H E → ds.length + 1 = ps.length →
      PSs (cxOf (L2.CX P w) P w g.K mg base N qual scope f cdv A outer s H E) body (tS g (bs0 F H E) (fun e : Empty => e.elim) (some (.x C) :: ctx0 (N.length - 1) ds) (o ds) (fun _ : Unit => []))) :
    FnOk P w g.K mg base (L2.CX P w) (k + 1) f fd ps (spC g C m) := by
  have len : ∀ vs H Q E, spC g C m vs H Q E → vs.length = ps.length := fun vs H Q E h => by
    obtain ⟨vs', rfl, F, ds, s, en, h⟩ := h
    rw [List.length_cons, en.len]
    by_cases q : ds.length + 1 = ps.length
    · exact q
    · rw [hl ds q] at h
      exact h.elim
  refine Fd.ok S len fun cdv A outer s H vs Q E hr h => ?_
  have l0 := len _ _ _ _ h
  obtain ⟨vs', rfl, F, ds, sb, en, h⟩ := h
  have l1 : ds.length + 1 = ps.length := by rw [← en.len]; exact l0
  rw [hm ds l1] at h
  have N1 : 1 ≤ N.length := by
    have z := S.pre
    have z2 := congrArg List.length z
    rw [List.length_take] at z2
    omega
  have r0 := rf0 (g := g) (N := N.tail) (n := N.length - 1) (E := E) (by simp) sb en
  have e9 : start N (V.ref C :: vs') = some (V.ref C) :: start N.tail vs' := by
    unfold L2.start
    simp
    omega
  refine ⟨_, hbody cdv A outer s H F E ds (side_of hr) l1, F, ⟨r0.gr, .nil, fun j bd e => ?_, fun j j2 z xs ys e1 e2 e3 e4 => ?_⟩, ?_⟩
  · rw [e9]
    cases j with
    | zero =>
      cases e
      exact ⟨some (.ref C), rfl, rfl⟩
    | succ j =>
      obtain ⟨ov, k1, k2⟩ := r0.at_ j bd (by simpa using e)
      exact ⟨ov, by simpa using k1, k2⟩
  · cases j with
    | zero => cases e1
    | succ j =>
      cases j2 with
      | zero => cases e2
      | succ j2 =>
        rw [e9] at e3 e4
        exact congrArg (· + 1) (r0.sep j j2 z xs ys (by simpa using e1) (by simpa using e2) (by simpa using e3) (by simpa using e4))
  · cases q : o ds with
    | nx t =>
      rw [q] at h
      exact fun F' σ' H' r => h .non F' H' r.gr .non
    | rt d =>
      rw [q] at h
      exact fun v F' H' gr en => h v F' H' gr en
    | bk e => exact e.elim
    | ct e => exact e.elim
    | ex c fs =>
      rw [q] at h
      exact fun cls od F' σ' H' r ok => h cls od F' H' r.gr ok
    | no =>
      rw [q] at h
      exact h
end
/-! ### facts of the top -/
section
open He
variable {K : PySem.W.Frag}
def cmP (K : PySem.W.Frag) (C : Addr) (m : Str) : Addr := match PySem.W.findCls K (.ref C) (.type "type") m with
  | some (.get _ (.ref p) _ _) => p
  | _ => 0
def cmG (K : PySem.W.Frag) (C : Addr) (m : Str) : Addr := match PySem.W.recIn K (cmP K C m) "classmethod" with
  | some (.ref g :: _) => g
  | _ => 0
def cmB (K : PySem.W.Frag) (C : Addr) (m : Str) : Bool := PySem.W.readsIn K C (.type "type") && (eqO (PySem.W.specialIn K (.ref C) "__getattribute__") (some (some (.builtin "type.__getattribute__"))) && ((match PySem.W.findCls K (.ref C) (.type "type") m with
  | some (.get (.builtin x) (.ref _) .none (.ref c)) => decide (x = "classmethod.__get__") && decide (c = C)
  | _ => false) && ((match PySem.W.recIn K (cmP K C m) "classmethod" with
    | some (.ref _ :: _) => true
    | _ => false) && PySem.W.fnIn K (cmG K C m))))
theorem cm_facts {C : Addr} {m : Str} (c : cmB K C m = true) : ClX.CRead K C (.type "type") ∧ ClX.CMet K C (.type "type") m (cmP K C m) (cmG K C m) := by
  obtain ⟨c1, c⟩ := ba c
  obtain ⟨c2, c⟩ := ba c
  obtain ⟨c3, c⟩ := ba c
  obtain ⟨c4, c5⟩ := ba c
  refine ⟨⟨c1, eqO_ok c2⟩, ⟨?_, ?_, c5⟩⟩
  · split at c3
    · rename_i x pp cc e
      obtain ⟨d1, d2⟩ := ba c3
      have d1 := of_decide_eq_true d1
      have d2 := of_decide_eq_true d2
      subst d1 d2
      have ep : cmP K cc m = pp := by
        unfold cmP
        rw [e]
      rw [ep]
      exact e
    · cases c3
  · split at c4
    · rename_i gg r e
      have eg : cmG K C m = gg := by
        unfold cmG
        rw [e]
      rw [eg]
      exact ⟨r, e⟩
    · cases c4
end
end Mi
/-! Mi17: s.index(z), str(x) by an own __str__. -/
namespace Mi
open L2 PySem PySem.Spec PyProof.Rows
section
variable {X : Cx} {g : Gm} {b : Bs} {Γ : Ctx} {F : Hp} {σ : L2.St} {H : Hp} {e e1 e2 : Expr} {es : List Expr} {pos p : Pos} {r ra rb ro : Res D} {rs : Res (List D)} {x f : Str}
def sindexD (a : Str) (y : D) : Option D := match y with
  | .str z => (match Builtin.Str.occurrences a z 0 a.length 1 with
    | i :: _ => some (.int (i : Nat))
    | [] => none)
  | _ => none
theorem e_sindex {apos : Pos} (ho : PE X e1 (tE g b Γ ra)) (he : PE X e2 (tE g b Γ rb)) (hs : starEach [e2] X.env = [(false, eval e2 X.env)] := by rfl) (hbase : attributeBase e1 "index" X.env (eval e1 X.env) = eval e1 X.env := by rfl) (hline : (apos.endLine == pos.line) = true := by rfl) :
    PE X (.Call (.Attribute e1 "index" apos) [e2] [] pos) (tE g b Γ (ra.bind fun x => (ofO (asS x)).bind fun a => rb.bind fun y => ofO (sindexD a y))) := by
  refine PE.imp (pe_m1 PySem.F.slot_str_index PySem.F.type_str_index mt_sindex ho he hs hbase hline) fun σ H Q q => ?_
  obtain ⟨F, q⟩ := q
  refine tE_bind q fun x v F1 H1 _ g1 ex p1 => ?_
  cases x <;> first | exact p1.2.elim | skip
  rename_i a _
  cases ex
  refine ⟨⟨_, rfl⟩, tE_bind (f := fun y => ofO (sindexD a y)) p1 fun y w F2 H2 _ g2 ey p2 => ?_⟩
  cases y <;> first | exact p2.2.elim | skip
  rename_i z _
  cases ey
  obtain ⟨d, e, k⟩ := p2.gives
  have e : (match Builtin.Str.occurrences a z 0 a.length 1 with
    | i :: _ => some (PyData.int (i : Nat))
    | [] => none) = some d := e
  cases q : Builtin.Str.occurrences a z 0 a.length 1 with
  | nil =>
    rw [q] at e
    cases e
  | cons i r =>
    rw [q] at e
    cases e
    exact ⟨a, z, i, r, rfl, rfl, q, k.here p2.1.gr.fh (.int _)⟩
def strO : D → Option D
  | .str x => some (.str x)
  | _ => none
def rStrO (g : Gm) (c : Str) (mm : List D → Res D) : List V → Hp → VK → Prop := fun xs H Q => ∃ v d F, xs = [v] ∧ isC c d = true ∧ Enc g F v d ∧ Sub F H ∧ spD g mm [v] H (fun z H' => ∃ y, z = .str y ∧ Q z H') (fun _ _ _ => False)
theorem call_strO {c : Str} {k j : Nat} {mm : List D → Res D} (T : MethR X.prog X.w g X.mg X.base c "__str__" k mm) (hr : Room j X.A) (hj : k + 2 ≤ j) (hK : X.K = g.K) : CallR X (.type "str") (rStrO g c mm) := by
  intro pins s σ H xs us Q I r h
  obtain ⟨v, d, F, rfl, hc, en, sb, sp⟩ := h
  obtain ⟨i, fa, hi, hm, Fn, hf, hx⟩ := T.ex
  obtain ⟨a, dx, i', ns, vs, kvs, rfl, rfl, hi', ef, ob⟩ := en.isC hc
  rw [hi] at hi'
  cases hi'
  obtain ⟨u, rfl, ru⟩ := r.one
  cases (show u = Value.ref a from ru)
  obtain ⟨ox, od, J⟩ := (sb.objAt ob).inst I
  rw [← hK] at Fn hm
  have hr0 : Room (k + 2) X.A := hr.mono hj
  have hr2 : Room k X.A.in1.in1 := (show Room (k + 1) X.A.in1 from Room.in1 hr0).in1
  have hcx : Passes (L2.CX X.prog X.w) X (fun _ _ _ => False) := fun pins σ H s e s' _ ⟨a, B, H', cls, d, _, _, _, _, _, _, _, z⟩ => z.elim
  refine PySem.W.kso_call hr2.units0 I.kIn J hm.at_ hm.fn (wpAny_mono (wpAny_call (SlX.run_at (us := [.ref a]) (ws := [.ref a]) (Q := fun z H' => ∃ y, z = .str y ∧ Q z H') Fn hr2 I.env0.in1.in1 hcx I (.cons rfl .nil) sp)) (fun w s' z => ?_) fun _ _ x => x)
  obtain ⟨z', H', I', rz, y, ey, qz⟩ := z
  subst ey
  obtain ⟨t, e⟩ := (show ∃ t, w = Value.str y t from rz)
  cases e
  exact ⟨.str y, H', I', ⟨t, rfl⟩, qz⟩
/-- str(x), x of the class c -/
theorem e_strO {c : Str} {k j : Nat} {mm : List D → Res D} (T : MethR X.prog X.w g X.mg X.base c "__str__" k mm) (hr : Room j X.A) (ha : PE X e1 (tE g b Γ ra)) (hm : X.mg "str" = none) (hj : k + 2 ≤ j := by decide) (hg : Gl X "str" := by rfl) (hv : bootBuiltins "str" = some (.type "str") := by decide +kernel)
    (he : starEach [e1] X.env = (false, eval e1 X.env) :: starEach [] X.env := by rfl) (hpl : (backTo pos (starEach [] X.env)).any (·.1) = false := by rfl) (hK : X.K = g.K := by rfl) :
    PE X (.Call (.Name "str" p) [e1] [] pos) (tE g b Γ (ra.bind fun x => if isC c x = true then (noX (mm [x])).bind fun d => ofO (strO d) else .no)) := by
  refine PE.imp (pe_callTy (call_strO T hr hj hK) hg hm hv (pa_cons ha pa_nil he) (by decide) (by decide) he hpl) fun σ H Q q => ?_
  obtain ⟨F, q⟩ := q
  refine tE_bind q fun x v F1 H1 _ g1 ex p1 => ?_
  by_cases hc : isC c x = true
  · rw [if_pos hc] at p1
    refine ⟨v, x, F1, rfl, hc, ex, p1.1.gr.fh, F1, [x], p1.1.gr.fh, .cons ex .nil, ?_⟩
    obtain ⟨rf, p1⟩ := p1
    cases q2 : mm [x] with
    | ok d =>
      rw [q2] at p1
      cases d with
      | str y =>
        intro w F' H' gr en
        have q := p1 w F' H' gr en
        cases en
        exact ⟨y, rfl, q⟩
      | _ => exact p1.elim
    | ex cn fs =>
      rw [q2] at p1
      exact p1.elim
    | no =>
      rw [q2] at p1
      exact p1.elim
  · rw [if_neg hc] at p1
    exact p1.2.elim
end
end Mi
/-! Mi18: isinstance of a held exception and a tuple of classes. -/
namespace Mi
open L2 PySem PySem.Spec PyProof.Rows
section
variable {g : Gm} {b : Bs} {Γ : Ctx}
def rIsET (K : PySem.W.Frag) (D a : Addr) : List V → Hp → VK → Prop := fun xs H Q => ∃ (tp : Addr) (cs : List V) (us : List Value) (k : Bool), xs = [.ref a, .ref tp] ∧ H tp = some (.tup cs) ∧ Paired ClsV cs us ∧ PySem.W.kitAny K (.ref D) us = some k ∧ Q (.bl k) H
theorem call_isET {X : Cx} {a D : Addr} {oe : Obj} {pn : List (Addr × Obj)} (C : ExcC X.K D) (hz : Zc (.ref D) none oe) (hf : ∃ vs, oe.data = .fields vs) : CallR (X.suite a ((a, oe) :: pn)) (.builtin "isinstance") (rIsET X.K D a) := by
  intro pins s σ H xs us Q I r h
  obtain ⟨tp, cs, ws, k, rfl, hT, hcv, e, q⟩ := h
  cases r with
  | cons rx rr =>
    cases rr with
    | cons rt rr =>
      cases rr
      cases rx
      rename_i u2
      cases (show u2 = Value.ref tp from rt)
      obtain ⟨hget, _⟩ := I.pin (a, oe) (List.mem_append.mpr (.inl List.mem_cons_self))
      obtain ⟨vs, hv⟩ := hf
      have J : PySem.W.InstAt s.heap a oe D none := by
        obtain ⟨oc, od, oda, osl⟩ := oe
        obtain ⟨h1, h2⟩ := hz
        dsimp only at h1 h2 hv
        subst h1 h2 hv
        exact ⟨hget, rfl, rfl, trivial⟩
      obtain ⟨_, its, rv, o, h1, h2, n, h3⟩ := (show ObjOk _ _ H s.heap tp (.tup cs) from I.hok tp _ hT)
      have e3 := ClsV.all hcv rv
      subst e3
      obtain ⟨oc, od, dt, sl⟩ := o
      simp only at h2 h3
      subst h2 h3
      exact PySem.W.kia_tup (PySem.W.handS_kitx_exc C.hg C.hk C.hs C.hd C.ha C.hn C.ht C.hm) I.kIn J h1 e (fun z => nomatch z) fun tk => ⟨.bl k, H, I.kept (t' := tk) fun _ _ z => z, rfl, q⟩
/-- by tables: of one of these classes -/
def isXA : List (List (Str × Bool)) → Str → Option Bool
  | [], _ => some false
  | ks :: r, c => match ks.lookup c with
    | some true => some true
    | some false => isXA r c
    | none => none
def isXAR (kss : List (List (Str × Bool))) (c : Str) : Res D := (ofO (isXA kss c)).bind fun k => .ok (.bool k)
def tCs : List V → TA
  | [] => tNil
  | c :: cs => tCons (tC c) (tCs cs)
inductive KitTs (X : Cx) (g : Gm) : List Expr → List (List (Str × Bool)) → Prop
  | nil : KitTs X g [] []
  | cons {x : Str} {p : Pos} {es : List Expr} {ks : List (Str × Bool)} {kss : List (List (Str × Bool))} : KitT g X.mg x ks → Gl X x → (x == ("__debug__" : Str)) = false → starEach (.Name x p :: es) X.env = (false, eval (.Name x p) X.env) :: starEach es X.env → KitTs X g es kss → KitTs X g (.Name x p :: es) (ks :: kss)
theorem tCs_run {σ : L2.St} {Q : List V → Hp → Prop} : ∀ {cs : List V} {H : Hp}, Q cs H → tCs cs σ H Q
  | [], H, q => q
  | c :: cs, H, q => by
    show tCs cs σ H fun xs H2 => Q (c :: xs) H2
    exact tCs_run (Q := fun xs H2 => Q (c :: xs) H2) q
theorem KitTs.run {X : Cx} {es : List Expr} {kss : List (List (Str × Bool))} (h : KitTs X g es kss) : ∃ cs us, Paired ClsV cs us ∧ cs.length = kss.length ∧ PA X es (tCs cs) ∧ ∀ c ci, g.ci c = some ci → ∀ k, isXA kss c = some k → PySem.W.kitAny g.K (.ref ci.C) us = some k := by
  induction h with
  | nil => exact ⟨[], [], .nil, rfl, pa_nil, fun _ _ _ k e => by cases e; exact kitAny_nil⟩
  | @cons x p es ks kss T hg hd hs hr ih =>
    obtain ⟨cs, us, h1, h2, h3, h4⟩ := ih
    obtain ⟨cv, cl, hcv, hcl, hks⟩ := T.ex
    refine ⟨cl :: cs, cv :: us, .cons hcl h1, by simp [h2], pa_cons (pe_clsName hcv hcl hg hd) h3 hs, fun c ci hci k e => ?_⟩
    have e0 : (match ks.lookup c with
      | some true => some true
      | some false => isXA kss c
      | none => none) = some k := e
    cases q : ks.lookup c with
    | none =>
      rw [q] at e0
      cases e0
    | some j =>
      rw [q] at e0
      obtain ⟨k1, _⟩ := hks c j q ci hci
      cases j with
      | true =>
        cases e0
        exact kitAny_cons k1 (fun z => nomatch z) fun _ => rfl
      | false => exact kitAny_cons k1 (fun _ => h4 c ci hci k e0) fun z => nomatch z
theorem KitTs.exc {X : Cx} {es : List Expr} {kss : List (List (Str × Bool))} (h : KitTs X g es kss) (ne : kss ≠ []) {c : Str} {ci : CI} (hci : g.ci c = some ci) {k : Bool} (e : isXA kss c = some k) : ExcC g.K ci.C := by
  cases h with
  | nil => exact absurd rfl ne
  | @cons x p es ks kss T hg hd hs hr =>
    obtain ⟨cv, cl, hcv, hcl, hks⟩ := T.ex
    have e0 : (match ks.lookup c with
      | some true => some true
      | some false => isXA kss c
      | none => none) = some k := e
    cases q : ks.lookup c with
    | none =>
      rw [q] at e0
      cases e0
    | some j => exact (hks c j q ci hci).2
/-- isinstance(e, (A, B, ..)) -/
theorem e_isXs {X : Cx} {n : Str} {i k4 : Nat} {es : List Expr} {kss : List (List (Str × Bool))} {a : Addr} {oe : Obj} {pn : List (Addr × Obj)} {c : Str} {ci : CI} {p p1 p4 pos : Pos} (T : KitTs (X.suite a ((a, oe) :: pn)) g es kss) (hci : g.ci c = some ci) (hz : Zc (.ref ci.C) none oe) (hf : ∃ vs, oe.data = .fields vs) (hm : X.mg "isinstance" = none) (ne : kss ≠ [] := by exact List.cons_ne_nil _ _) (hl : kss.length ≤ 1000 := by decide)
    (hΓ : Γ[i]? = some (some (.x a)) := by rfl) (hN : X.N[i]? = some n := by rfl) (hv : Vis X.env.scope n := by first | exact Or.inl rfl | exact Or.inr (Or.inl rfl) | exact Or.inr (Or.inr rfl)) (hd : (n == ("__debug__" : Str)) = false := by decide) (hcd : (n == ("__classdict__" : Str)) = false := by decide)
    (hg : Gl X "isinstance" := by rfl) (hvi : bootBuiltins "isinstance" = some (.builtin "isinstance") := by decide +kernel)
    (he : starEach [.Name n p1, .Tuple es k4 p4] X.env = (false, eval (.Name n p1) X.env) :: starEach [.Tuple es k4 p4] X.env := by rfl) (he2 : starEach [.Tuple es k4 p4] X.env = (false, eval (.Tuple es k4 p4) X.env) :: starEach [] X.env := by rfl)
    (hpl : (backTo pos (starEach [.Tuple es k4 p4] X.env)).any (·.1) = false := by rfl) (hK : X.K = g.K := by rfl) :
    PE (X.suite a ((a, oe) :: pn)) (.Call (.Name "isinstance" p) [.Name n p1, .Tuple es k4 p4] [] pos) (tE g b Γ (isXAR kss c)) := by
  unfold isXAR
  cases q : isXA kss c with
  | none => exact pe_noR
  | some k =>
    have kc := T.exc ne hci q
    obtain ⟨cs, us, h1, h2, h3, h4⟩ := T.run
    have k1 := h4 c ci hci k q
    rw [← hK] at k1 kc
    refine PE.imp (pe_callB (X := X.suite a ((a, oe) :: pn)) (call_isET kc hz hf) hg hm hvi (pa_cons (pe_exc (X := X.suite a ((a, oe) :: pn)) (g := g) (b := b) hΓ hN hv hd hcd) (pa_cons (pe_tup h3) pa_nil he2) he) (by decide) (by decide) he hpl) fun σ H Q q => ?_
    obtain ⟨F, q⟩ := q
    refine ⟨F, q.1, tCs_run (Q := fun xs H1 => xs.length ≤ sizeLine ∧ _) ⟨cap_line (by rw [h2]; unfold cap; omega), fun tp hp => ?_⟩⟩
    exact ⟨tp, cs, us, k, rfl, upd_same, h1, k1, q.2 _ F _ ⟨Sub.refl _, q.1.gr.fh.trans (Sub.new hp), Sub.new hp, fun _ _ z => z⟩ (.bl k)⟩
end
end Mi
/-! Mi19: functions and classmethods called with keywords. -/
namespace Mi
open L2 PySem PySem.Spec PyProof.Rows
/-- a function: n positional values, keywords named ks; gD puts them in the order of the parameters -/
structure FnKT (P : Program) (w : World) (g : Gm) (mg : Str → Option Value) (base : Heap) (x : Str) (k n : Nat) (ks : List Str) (gD : List D → List D → List D) (m : List D → Res D) : Prop where
  ex : ∃ f fd ps g' gV, mg x = some (.ref f) ∧ PySem.W.keepIn g.K (.ref f) = true ∧ FnOk P w g.K mg base (L2.CX P w) k f fd ps (spD g m) ∧ KBn g.K fd ps n ks g' gV ∧
    ∀ (F : Hp) (vs zs : List V) (ds es : List D), vs.length = n → zs.length = ks.length → EncL g F vs ds → EncL g F zs es → EncL g F (gV vs zs) (gD ds es)
/-- .. a classmethod -/
structure CmKT (P : Program) (w : World) (g : Gm) (mg : Str → Option Value) (base : Heap) (c m : Str) (k n : Nat) (ks : List Str) (gD : List D → List D → List D) (mm : List D → Res D) : Prop where
  ex : ∃ i mc p f fd ps g' gV, g.ci c = some i ∧ mg c = some (.ref i.C) ∧ ClX.CRead g.K i.C mc ∧ ClX.CMet g.K i.C mc m p f ∧ FnOk P w g.K mg base (L2.CX P w) k f fd ps (spC g i.C mm) ∧ KBn g.K fd ps (n + 1) ks g' gV ∧
    ∀ (F : Hp) (x : Addr) (vs zs : List V) (ds es : List D), vs.length = n → zs.length = ks.length → EncL g F vs ds → EncL g F zs es → ∃ ws, gV (.ref x :: vs) zs = .ref x :: ws ∧ EncL g F ws (gD ds es)
section
variable {X : Cx} {g : Gm} {b : Bs} {Γ : Ctx} {F : Hp} {σ : L2.St} {H : Hp} {e e1 e2 : Expr} {es : List Expr} {pos p : Pos} {r ra rb ro : Res D} {rs : Res (List D)} {x f : Str}
theorem run_fnNS {CX : CXT} {k n : Nat} {f : Addr} {fd : FuncData} {ps ks : List Str} {sp : Sp} {E : L2.St → XK} {gg : List Value → List Value → List Value} {gV : List V → List V → List V} {pins : List (Addr × Obj)} {s : Shared} {Q : VK} {us ws : List Value} {vs zs : List V}
    (Fn : FnOk X.prog X.w X.K X.mg X.base CX k f fd ps sp) (hr : Room k X.A) (hb : KBn X.K fd ps n ks gg gV) (hx : PassesAt CX X σ (E σ))
    (I : Inv X pins σ H s) (r : Vals vs us) (rz : Vals zs ws) (l1 : vs.length = n) (l2 : zs.length = ks.length) (h : sp (gV vs zs) H Q (E σ)) : wpAny (model X.prog X.w) X.A (call (.ref f) us (ks.zip ws)) (EP X pins σ Q) X.xe s := by
  have r2 := hb.rel r rz
  refine wpAny_call (codeAny_mono (Fn.run X.A X.stack s H ⟨us, ks.zip ws⟩ (gg us ws) (gV vs zs) Q (E σ) hr I.env0 (hb.to s us ws I.kIn (r.length.symm.trans l1) (rz.length.symm.trans l2)) r2 h) fun r s' hq => ?_)
  cases r with
  | error e => exact hx _ H s e s' I hq
  | ok fl =>
    cases fl with
    | ret u => exact I.after hq
    | next => exact False.elim hq
    | brk => exact False.elim hq
    | cont => exact False.elim hq
theorem run_cmNS {CX : CXT} {k n : Nat} {q gg C : Addr} {fd : FuncData} {ps ks : List Str} {sp : Sp} {E : L2.St → XK} {g' : List Value → List Value → List Value} {gV : List V → List V → List V} {Q : VK} {us ws : List Value} {vs zs : List V} {pins : List (Addr × Obj)} {s : Shared}
    (Fn : FnOk X.prog X.w X.K X.mg X.base CX k gg fd ps sp) (hr : Room k X.A) (hb : KBn X.K fd ps (n + 1) ks g' gV) (hx : PassesAt CX X σ (E σ)) (I : Inv X ((q, PySem.W.methodObj (.ref gg) (.ref C)) :: pins) σ H s)
    (r : Vals vs us) (rz : Vals zs ws) (l1 : vs.length = n) (l2 : zs.length = ks.length) (h : sp (gV (.ref C :: vs) zs) H Q (E σ)) : wpAny (model X.prog X.w) X.A (call (.ref q) us (ks.zip ws)) (EP X pins σ Q) X.xe s := by
  have r1 : Vals (V.ref C :: vs) (Value.ref C :: us) := .cons rfl r
  have r2 := hb.rel r1 rz
  have n1 : (Value.ref C :: us).length = n + 1 := by rw [List.length_cons, ← r.length, l1]
  have z : wpAny (model X.prog X.w) X.A (call (.ref q) us (ks.zip ws)) (EP X ((q, PySem.W.methodObj (.ref gg) (.ref C)) :: pins) σ Q) X.xe s := by
    refine wpAny_call (PySem.W.method_call (ClX.pin_at I) (codeAny_mono (Fn.run X.A X.stack s H ⟨.ref C :: us, ks.zip ws⟩ (g' (.ref C :: us) ws) (gV (.ref C :: vs) zs) Q (E σ) hr I.env0 (hb.to s (.ref C :: us) ws I.kIn n1 (rz.length.symm.trans l2)) r2 h) fun r s' hq => ?_))
    cases r with
    | error e => exact hx _ H s e s' I hq
    | ok fl =>
      cases fl with
      | ret u => exact I.after hq
      | next => exact False.elim hq
      | brk => exact False.elim hq
      | cont => exact False.elim hq
  exact thn z fun _ _ y => ClX.unpinE y
/-- f(e, .., k = v, ..) -/
theorem e_callK {k n j : Nat} {ks : List Str} {kws : List Keyword} {rk : Res (List D)} {gD : List D → List D → List D} {m : List D → Res D} (T : FnKT X.prog X.w g X.mg X.base x k n ks gD m) (hr : Room j X.A) (tk : Takes X b.W) (ha : PA X (e :: es) (tA g b Γ rs)) (hkw : PK X kws (tA g b Γ rk)) (hj : k ≤ j := by decide)
    (hl : ∀ ds, rs = .ok ds → ds.length = n) (hlk : ∀ ds, rk = .ok ds → ds.length = ks.length) (hg : Gl X x := by rfl) (hdb : (x == ("__debug__" : Str)) = false := by decide)
    (hall : (backToKw pos (keywordEach kws X.env)).all (·.1.isSome) = true := by rfl) (hks : (backToKw pos (keywordEach kws X.env)).filterMap (·.1) = ks := by rfl)
    (he : starEach (e :: es) X.env = (false, eval e X.env) :: starEach es X.env := by rfl) (hpl : ((backTo pos (starEach (e :: es) X.env)).any (·.1) || (backToKw pos (keywordEach kws X.env)).any (·.1.isNone)) = false := by rfl) (hK : X.K = g.K := by rfl) :
    PE X (.Call (.Name x p) (e :: es) kws pos) (tE g b Γ (rs.bind fun ds => rk.bind fun es => m (gD ds es))) := by
  obtain ⟨f, fd, ps, g', gV, gm, kp, Fn, hb, hG⟩ := T.ex
  rw [← hK] at Fn hb kp
  refine ⟨fun pins s σ H Q I h => ?_⟩
  obtain ⟨F, h⟩ := h
  refine wpAny_Call_Name_kw (ld_glob I hg gm ?_ hdb)
  refine PySem.W.callWith_KW (h₀ := X.base) I.ok.mod.kin kp hall (thn (ha.run pos pins s σ H (fun vs H1 => ∃ ds F1, rs = .ok ds ∧ Post g b Γ F1 (rk.bind fun es => m (gD ds es)) σ H1 Q ∧ EncL g F1 vs ds) I (tA_bind h fun d v F1 H1 hrs g1 en p1 => ⟨d, F1, hrs, p1, en⟩))
    fun us s1 ⟨vs, H1, I1, r, ds, F1, hrs, p1, en⟩ => ?_) hpl he
  refine thn (hkw.run pos pins s1 σ H1 (fun zs H2 => ∃ es F2, rk = .ok es ∧ Post g b Γ F2 (m (gD ds es)) σ H2 Q ∧ EncL g F2 zs es ∧ EncL g F2 vs ds) I1 (tA_bind p1 fun d v F2 H2 hrk g2 en2 p2 => ⟨d, F2, hrk, p2, en2, en.mono g2.ff⟩)) fun ws s2 ⟨zs, H2, I2, rz, es', F2, hrk, p2, enz, en2⟩ => ⟨I2.kIn, ?_⟩
  rw [hks]
  have l1 : vs.length = n := by rw [en.len, hl ds hrs]
  have l2 : zs.length = ks.length := by rw [enz.len, hlk es' hrk]
  exact run_fnNS (E := WE b.W) Fn (hr.mono hj) hb (passAt tk σ) I2 r rz l1 l2 (sp_of p2 (hG F2 vs zs ds es' l1 l2 en2 enz))
/-- C.m(e, .., k = v, ..), a classmethod -/
theorem e_cmethK {c m : Str} {k n j : Nat} {ks : List Str} {kws : List Keyword} {rk : Res (List D)} {gD : List D → List D → List D} {mm : List D → Res D} {apos p1 : Pos} {pl : Sem Bool} (T : CmKT X.prog X.w g X.mg X.base c m k n ks gD mm) (hr : Room j X.A) (tk : Takes X b.W) (ha : PA X (e :: es) (tA g b Γ rs)) (hkw : PK X kws (tA g b Γ rk)) (hj : k ≤ j := by decide)
    (hl : ∀ ds, rs = .ok ds → ds.length = n) (hlk : ∀ ds, rk = .ok ds → ds.length = ks.length) (hg : Gl X c := by rfl) (hdb : (c == ("__debug__" : Str)) = false := by decide)
    (hall : (backToKw pos (keywordEach kws X.env)).all (·.1.isSome) = true := by rfl) (hks : (backToKw pos (keywordEach kws X.env)).filterMap (·.1) = ks := by rfl)
    (he : starEach (e :: es) X.env = (false, eval e X.env) :: starEach es X.env := by rfl) (hpl : ((backTo pos (starEach (e :: es) X.env)).any (·.1) || (backToKw pos (keywordEach kws X.env)).any (·.1.isNone)) = false := by rfl)
    (ht : eval (.Call (.Attribute (.Name c p1) m apos) (e :: es) kws pos) X.env = (do
      let ov ← eval (.Name c p1) X.env
      standAt apos.atName
      let (f, first) ← holding [ov] (getMethod ov m pl)
      callWith pos f first (backTo pos (starEach (e :: es) X.env)) (backToKw pos (keywordEach kws X.env))) := by rfl) (hK : X.K = g.K := by rfl) :
    PE X (.Call (.Attribute (.Name c p1) m apos) (e :: es) kws pos) (tE g b Γ (rs.bind fun ds => rk.bind fun es => mm (gD ds es))) := by
  obtain ⟨i, mc, pa, fa, fd, ps, g', gV, hi, gm, rd, cm, Fn, hb, hG⟩ := T.ex
  rw [← hK] at rd cm Fn hb
  refine ⟨fun pins s σ H Q I h => ?_⟩
  obtain ⟨F, h⟩ := h
  refine PySem.W.methodCall_KW (pl := pl) (thn ((pe_glob (X := X) (v := .ref i.C) (pos := p1) hg gm rfl hdb).run pins s σ H (fun v H1 => v = .ref i.C ∧ H1 = H) I ⟨rfl, rfl⟩) fun u s1 ⟨v, H1, I1, rv, ev, eh⟩ => ?_) ht
  subst ev eh
  obtain rfl : u = Value.ref i.C := rv
  refine ClX.getmethcm_ok I1 rd cm fun s2 I2 => ?_
  have hq := ClX.pin_at I2
  refine PySem.W.callWith_of (P := PySem.W.MethP X.K _ fa (.ref i.C)) hpl (PySem.W.keeps_M cm.fi) (PyProof.Rows.evalArgs_kw2 hall (thn (ha.run pos _ s2 σ H1 (fun vs H2 => ∃ ds F2, rs = .ok ds ∧ Post g b Γ F2 (rk.bind fun es => mm (gD ds es)) σ H2 Q ∧ EncL g F2 vs ds) I2 (tA_bind h fun d v F1 H1 hrs g1 en p1 => ⟨d, F1, hrs, p1, en⟩))
    fun us s3 ⟨vs, H2, I3, r, ds, F2, hrs, p1, en⟩ => ?_) he)
  refine thn (hkw.run pos _ s3 σ H2 (fun zs H3 => ∃ es F3, rk = .ok es ∧ Post g b Γ F3 (mm (gD ds es)) σ H3 Q ∧ EncL g F3 zs es ∧ EncL g F3 vs ds) I3 (tA_bind p1 fun d v F3 H3 hrk g2 en2 p2 => ⟨d, F3, hrk, p2, en2, en.mono g2.ff⟩)) fun ws s4 ⟨zs, H3, I4, rz, es', F3, hrk, p2, enz, en2⟩ => ⟨⟨ClX.pin_at I4, I4.kIn⟩, ?_⟩
  rw [hks]
  have l1 : vs.length = n := by rw [en.len, hl ds hrs]
  have l2 : zs.length = ks.length := by rw [enz.len, hlk es' hrk]
  obtain ⟨ws', e1, e2⟩ := hG F3 i.C vs zs ds es' l1 l2 en2 enz
  refine run_cmNS (E := WE b.W) Fn (hr.mono hj) hb (passAt tk σ) I4 r rz l1 l2 ?_
  rw [e1]
  exact ⟨_, rfl, sp_of p2 e2⟩
end
end Mi
/-! Mi20: try: x = e except ..: what x held before stays promised until e is there. -/
namespace Mi
open L2 PySem PySem.Spec PyProof.Rows
/-- the end of a body whose last step breaks a promise of its own: behind it cx' is promised -/
def EndX {β τ : Type} (g : Gm) (b : Bs) (cx' : Ctx) (Γb : β → Ctx) (Γn : τ → Ctx) (o : Fl β τ) (Ds : Ends) : Prop := match o with
  | .nx t => ∀ F' σ' H', Rf g (b.wish cx' b.W) (Γn t) F' σ' H' → Ds.nx σ' H'
  | .ex c fs => ∀ cls od F' σ' H', Rf g b b.cx F' σ' H' → ExOk g c fs cls od F' → b.W cls od σ' H'
  | .rt d => ∀ v F' H', Grow b.F0 b.H0 F' H' → Enc g F' v d → Ds.rt v H'
  | .bk t => ∀ F' σ' H', Rf g b (Γb t) F' σ' H' → Ds.bk σ' H'
  | .ct t => ∀ F' σ' H', Rf g b (Γb t) F' σ' H' → Ds.ct σ' H'
  | .no => False
def tSx {β τ : Type} (g : Gm) (b : Bs) (cx' : Ctx) (Γb : β → Ctx) (Γ : Ctx) (o : Fl β τ) (Γn : τ → Ctx) : TS := fun Ds σ H => ∃ F, Rf g b Γ F σ H ∧ EndX g b cx' Γb Γn o Ds
section
variable {X : Cx} {g : Gm} {b : Bs} {Γ cx' : Ctx} {β τ υ : Type} {Γb : β → Ctx} {Γn : τ → Ctx} {rest body suite : List Stmt} {b₀ : Stmt} {e : Expr} {pos : Pos} {ra : Res D} {x : Str}
/-- x = e, the last of the body -/
theorem x_set {i : Nat} {t : D → τ} {py : Pos} (he : PE X e (tE g b Γ ra)) (hrest : ∀ d, PSs X [] (tS g (b.wish cx' b.W) Γb (Γ.set i (some (.v d))) (.nx (t d) : Fl β τ) Γn)) (hN : X.N.Nodup) (hle : Le cx' Γ := by repeat (first | exact Le.nil | apply Le.same | apply Le.none)) (hc : (cx'[i]?).join = none := by rfl) (hi : X.N[i]? = some x := by rfl)
    (hx : Loc X.env.scope x := by first | exact Or.inl rfl | exact Or.inr rfl) (hs : swapsWith e (some (.Name x py)) pos.line X.env = pure false := by rfl) (hf : X.fn x = true ∨ X.env.scope.names.lookup x = some .local := by first | exact .inl rfl | exact .inr rfl) :
    PSs X [.Assign [.Name x py] e pos] (tSx g b cx' Γb Γ (ra.bindF fun d => (.nx (t d) : Fl β τ)) Γn) := by
  refine PSs.impI (pss_cons (ps_set hN hi hx he hs hf) (PSs.ex fun d => hrest d)) fun Ds σ H hl h => ?_
  obtain ⟨F, rf, h⟩ := h
  refine ⟨F, rf, ?_⟩
  cases ra with
  | ok d => exact fun v F' H' gr en => ⟨d, F', ((rf.grow gr).wish hle).setv en hc (by rw [hl]; exact (List.getElem?_eq_some_iff.mp hi).1), h⟩
  | ex c fs => exact fun cls od F' H' gr r1 ok => h cls od F' σ H' r1 ok
  | no => exact h
theorem x_if {c : Expr} {A B : List Stmt} {rt : Res Bool} {oA oB : Fl β υ} {Γ1 : υ → Ctx} (hc : PT X c (tT g b Γ rt)) (hA : PSs X A (tSx g b cx' Γb Γ oA Γ1)) (hB : PSs X B (tSx g b cx' Γb Γ oB Γ1)) :
    PSs X [.If c A B pos] (tSx g b cx' Γb Γ (rt.bindF fun q => if q = true then oA else oB) Γ1) := by
  refine PSs.imp (pss_cons (ps_if hc hA hB) pss_nil) fun Ds σ H h => ?_
  obtain ⟨F, rf, h⟩ := h
  refine ⟨F, rf, ?_⟩
  cases rt with
  | ok d =>
    cases d with
    | true => exact fun F' H' gr => iteT ⟨F', rf.grow gr, h⟩
    | false => exact fun F' H' gr => iteF ⟨F', rf.grow gr, h⟩
  | ex c fs => exact fun cls od F' H' gr r1 ok => h cls od F' σ H' r1 ok
  | no => exact h
/-- try: body except x as n: suite, the body's last step an assignment -/
theorem b_tryAs2 {x n : Str} {i : Nat} {ks : List (Str × Bool)} {cx cx' : Ctx} {Γ1 : υ → Ctx} {ob : Fl β υ} {oh : Str → Fl β υ} {k : υ → Fl β τ} {np pos' pos : Pos} (T : CatchT g X.mg x ks) (tk : Takes X b.W)
    (hbody : ∀ (W : WX) (pn : List (Addr × Obj)) (xe : Value → Shared → Prop), Takes (X.tr pn xe) W → PassesOwn (model X.prog X.w) X.A X.env xe → PSs (X.tr pn xe) body (tSx g (b.wish cx W) cx' Γb Γ ob Γ1))
    (hsuite : ∀ (a : Addr) (oe : Obj) (pn : List (Addr × Obj)) (c : Str) (ci : CI), g.ci c = some ci → ks.lookup c = some true → Zc (.ref ci.C) none oe → (∃ vs, oe.data = .fields vs) → PSs (X.suite a ((a, oe) :: pn)) (b₀ :: suite) (tS g (b.wish b.cx fun _ _ _ _ => False) Γb (cx.set i (some (.x a))) (oh c) Γ1))
    (hrest : ∀ t, PSs X rest (tS g b Γb (Γ1 t) (k t) Γn)) (hN : X.N.Nodup)
    (hl : Le cx Γ := by repeat (first | exact Le.nil | apply Le.same | apply Le.none)) (hl2 : Le b.cx cx := by repeat (first | exact Le.nil | apply Le.same | apply Le.none)) (hl3 : Le b.cx cx' := by repeat (first | exact Le.nil | apply Le.same | apply Le.none))
    (h1 : ∀ t, ((Γ1 t)[i]?).join = none := by intro _; rfl) (h2 : ∀ t, ((Γb t)[i]?).join = none := by first | (intro t; exact t.elim) | (intro _; rfl)) (hcx : (cx[i]?).join = none := by rfl) (hbx : (b.cx[i]?).join = none := by rfl)
    (hlb : ∀ t, Le b.cx (Γb t) := by first | (intro t; exact t.elim) | (intro _; repeat (first | exact Le.nil | apply Le.same | apply Le.none)))
    (hs : X.stack = X.env :: X.outer := by rfl) (hf : X.env.frame = some X.env.locals := by rfl) (hi : X.N[i]? = some n := by rfl) (hln : X.env.kindOf n = some .local := by rfl) (hg : Gl X x := by rfl) (hd : (x == ("__debug__" : Str)) = false := by decide) (hK : X.K = g.K := by rfl) :
    PSs X (.Try body [.ExceptHandler (some (.Name x np)) (some n) (b₀ :: suite) pos'] [] [] pos :: rest) (tS g b Γb Γ ((tryF ob ks oh).bind k) Γn) := by
  obtain ⟨cv, hcv, hks⟩ := T.ex
  let ts : Addr → Value → Option Addr → TS := fun a cls d Ds σ H => σ.length = X.N.length → ∃ c, ∃ ci : CI, ∃ _ : g.ci c = some ci ∧ ks.lookup c = some true ∧ cls = .ref ci.C ∧ d = none, tS g (b.wish b.cx fun _ _ _ _ => False) Γb (cx.set i (some (.x a))) (oh c) Γ1 Ds σ H
  refine PSs.impI (pss_cons (ps_try_as (Wout := b.W) (ts := ts) (tb := fun W => tSx g (b.wish cx W) cx' Γb Γ ob Γ1) hs hf hN hi hln ⟨hg, hd, hcv⟩ tk hbody fun a oe cls d pn hz hv => PSs.impI (PSs.ex fun c => PSs.ex fun ci => PSs.ex fun e => ?_) fun D σ H hl q => q hl) (PSs.ex fun t => hrest t)) fun Ds σ H hσ h => ?_
  · obtain ⟨e1, e2, e3, e4⟩ := e
    subst e3 e4
    exact hsuite a oe pn c ci e1 e2 hz hv
  obtain ⟨F, rf, h⟩ := h
  have back : ∀ {t : υ} {F' : Hp} {σ' : L2.St} {H' : Hp} {cx2 : Ctx} {W2 : WX}, EndS g b Γb Γn (k t) Ds → Le b.cx cx2 → Rf g (b.wish cx2 W2) (Γ1 t) F' σ' H' → ∃ t, tS g b Γb (Γ1 t) (k t) Γn Ds σ' H' := fun {t} {F'} {σ'} {H'} {cx2} {W2} e l r => ⟨t, F', r.unwish (l.trans r.le), e⟩
  refine ⟨F, rf.wish hl, ?_⟩
  cases q : ob with
  | nx t =>
    rw [q] at h
    exact fun F' σ' H' r => back h hl3 r
  | rt d =>
    rw [q] at h
    exact fun v F' H' gr en => h v F' H' gr en
  | bk t =>
    rw [q] at h
    exact fun F' σ' H' r => h F' σ' H' (r.unwish (hlb t))
  | ct t =>
    rw [q] at h
    exact fun F' σ' H' r => h F' σ' H' (r.unwish (hlb t))
  | no =>
    rw [q] at h
    exact h
  | ex c fs =>
    rw [q] at h
    cases fs with
    | cons f fs => exact h.elim
    | nil =>
      intro cls od F' σ' H' r ok
      obtain ⟨ci, e1, e2, e3, _⟩ := ok
      have e3 := e3 rfl
      subst e2 e3
      have h : EndS g b Γb Γn ((match ks.lookup c with
        | some true => (oh c).noEx
        | some false => (.ex c [] : Fl β υ)
        | none => .no).bind k) Ds := h
      cases q2 : ks.lookup c with
      | none =>
        rw [q2] at h
        exact h.elim
      | some bb =>
        rw [q2] at h
        refine ⟨bb, by rw [hK]; exact hks c bb q2 ci e1, fun e a ha => ?_, fun e => ?_⟩
        · subst e
          refine fun hlen => ⟨c, ci, ⟨e1, q2, rfl, rfl⟩, F', ?_, ?_⟩
          · rw [List.length_set] at hlen
            exact Rf.setx (b := b.wish b.cx fun _ _ _ _ => False) ((r.unwish hl2).wish hl2) hbx (by rw [hlen]; exact (List.getElem?_eq_some_iff.mp hi).1)
          · have h : EndS g b Γb Γn ((oh c).noEx.bind k) Ds := h
            cases q3 : oh c with
            | nx t =>
              rw [q3] at h
              exact fun F2 σ2 H2 r2 => back h (Le.refl _) (r2.other (h1 t))
            | rt d =>
              rw [q3] at h
              exact fun v F2 H2 gr en => h v F2 H2 gr en
            | bk t =>
              rw [q3] at h
              exact fun F2 σ2 H2 r2 => h F2 _ H2 ((r2.other (h2 t)).unwish (hlb t))
            | ct t =>
              rw [q3] at h
              exact fun F2 σ2 H2 r2 => h F2 _ H2 ((r2.other (h2 t)).unwish (hlb t))
            | ex c2 fs2 =>
              rw [q3] at h
              exact h.elim
            | no =>
              rw [q3] at h
              exact h.elim
        · subst e
          exact h (.ref ci.C) none F' σ' H' (r.unwish hl2).cx ⟨ci, e1, rfl, fun _ => rfl, fun z => absurd rfl z⟩
end
end Mi
/-! Mi21: xs + ys, a new list that is changed later. -/
namespace Mi
open L2 PySem PySem.Spec PyProof.Rows
section
variable {X : Cx} {g : Gm} {b : Bs} {Γ : Ctx} {e1 e2 : Expr} {pos : Pos} {ra rb : Res D}
def addR (x y : D) : Res (List D) := match x, y with
  | .list xs, .list ys => if xs.length + ys.length ≤ cap then .ok (xs ++ ys) else .no
  | _, _ => .no
theorem n_addL (ha : PE X e1 (tE g b Γ ra)) (hb : PE X e2 (tE g b Γ rb)) : PE X (.BinOp e1 .Add e2 pos) (tN g b Γ (ra.bind fun x => rb.bind fun y => addR x y)) := PE.imp (pe_op op_cat ha hb) fun σ H Q q => by
  obtain ⟨F, p⟩ := q
  refine tE_bindN p fun x v F1 H1 _ g1 ex p1 => ?_
  refine tE_bindN p1 fun y w F2 H2 _ g2 ey p2 => ?_
  have ex2 := ex.mono g2.ff
  cases ex2 with
  | lst h1 k1 =>
    cases ey with
    | lst h2 k2 =>
      unfold addR at p2
      dsimp only at p2
      split at p2
      · rename_i hc
        exact ⟨_, _, _, _, rfl, rfl, p2.1.gr.fh _ _ h1, p2.1.gr.fh _ _ h2, cap_line (by rw [k1.len, k2.len]; exact hc), p2.new (k1.app k2)⟩
      · exact p2.2.elim
    | _ => exact p2.2.elim
  | _ => cases ey <;> exact p2.2.elim
end
end Mi
/-! Mi22: an instance called; a written dict of the module: get with a default, in, an item. -/
namespace Mi
open L2 PySem PySem.Spec PyProof.Rows
/-- a class whose instances are called -/
structure CallT (P : Program) (w : World) (g : Gm) (mg : Str → Option Value) (base : Heap) (c : Str) (k : Nat) (mm : List D → Res D) : Prop where
  ex : ∃ i f, g.ci c = some i ∧ StX.CallO g.K i.C f ∧ FnR P w g.K mg base (L2.CX P w) k f (spD g mm) ∧ i.k ≠ .exc
section
variable {X : Cx} {g : Gm} {b : Bs} {Γ : Ctx} {F : Hp} {σ : L2.St} {H : Hp} {e e1 e2 fe : Expr} {es : List Expr} {pos p : Pos} {r ra rb ro : Res D} {rs : Res (List D)} {x f : Str}
theorem ObjAt.insC {i : CI} {a dx : Addr} {ns : List Str} {vs : List V} (h : ObjAt i H a dx ns vs) : StX.InsC X H a i.C := by
  rcases h with ⟨ks, en, el, o⟩ | ⟨kd, el, ha, hd, hin⟩
  · rcases o with ⟨z, z1, _⟩ | ⟨ss, h0, z1, z2⟩
    · exact .inr ⟨dx, [], z1⟩
    · exact .inl ⟨dx, ss, .inr ⟨z1, z2⟩⟩
  · exact .inr ⟨dx, _, ha⟩
/-- o(e, ..), o an instance -/
theorem e_callO {c : Str} {k j : Nat} {mm : List D → Res D} (T : CallT X.prog X.w g X.mg X.base c k mm) (hr : Room j X.A) (tk : Takes X b.W) (ho : PE X fe (tE g b Γ ro)) (ha : PA X (e :: es) (tA g b Γ rs)) (hj : k ≤ j := by decide)
    (ht : eval (.Call fe (e :: es) [] pos) X.env = (do callWith pos (← eval fe X.env) [] (backTo pos (starEach (e :: es) X.env)) (backToKw pos (keywordEach [] X.env))) := by rfl)
    (he : starEach (e :: es) X.env = (false, eval e X.env) :: starEach es X.env := by rfl) (hpl : (backTo pos (starEach es X.env)).any (·.1) = false := by rfl) (hK : X.K = g.K := by rfl) :
    PE X (.Call fe (e :: es) [] pos) (tE g b Γ (ro.bind fun o => if isC c o = true then rs.bind fun ds => mm (o :: ds) else .no)) := by
  obtain ⟨i, fa, hi, hc, Fn, hx⟩ := T.ex
  refine ⟨fun pins s σ H Q I h => ?_⟩
  obtain ⟨F, h⟩ := h
  refine Call_ (thn (ho.run pins s σ H (fun v H1 => ∃ d F1, Post g b Γ F1 (if isC c d = true then rs.bind fun ds => mm (d :: ds) else .no) σ H1 Q ∧ Enc g F1 v d) I (tE_bind h fun d v F1 H1 _ g1 en p1 => ⟨d, F1, p1, en⟩)) fun u s1 ⟨v, H1, I1, rv, d, F1, p1, en⟩ => ?_) ht
  by_cases q : isC c d = true
  · rw [if_pos q] at p1
    obtain ⟨a, dx, i', ns, vs, kvs, rfl, rfl, hi', ef, ob⟩ := en.isC q
    rw [hi] at hi'
    cases hi'
    cases rv
    rw [← hK] at Fn hc
    refine StX.callO_with (thn (ha.run pos pins s1 σ H1 (fun ws H2 => ∃ ds F2, Post g b Γ F2 (mm (.dict ((.none, .str c) :: kvs) :: ds)) σ H2 Q ∧ EncL g F2 ws ds ∧ Enc g F2 (.ref a) (.dict ((.none, .str c) :: kvs)) ∧ StX.InsC X H2 a i.C) I1 (tA_bind p1 fun ds ws F2 H2 _ g2 en2 p2 => ⟨ds, F2, p2, en2, en.mono g2.ff, ((g2.fh.objAt (g2.ff.objAt ob))).insC⟩)) fun us s2 ⟨ws, H2, I2, r2, ds, F2, p2, en2, en3, hins⟩ => ?_) he hpl
    obtain ⟨ox, od, J, hd⟩ := StX.insC_at I2 hins
    refine ⟨⟨i.C, ox, od, J, hd⟩, ?_⟩
    exact wpAny_call (PySem.W.kco_code I2.kIn J hd hc.at_ hc.fn hc.fi (codeAny_mono (Fn X.A X.stack s2 H2 (.ref a :: us) (.ref a :: ws) Q (WE b.W σ) (hr.mono hj) I2.env0 (.cons rfl r2) (sp_of p2 (.cons en3 en2))) fun r s' hq => by
      cases r with
      | error e => exact passAt tk σ pins H2 s2 e s' I2 hq
      | ok fl =>
        cases fl with
        | ret u => exact I2.after hq
        | next => exact False.elim hq
        | brk => exact False.elim hq
        | cont => exact False.elim hq))
  · rw [if_neg q] at p1
    exact p1.2.elim
theorem callT_of {P : Program} {w : World} {mg : Str → Option Value} {base : Heap} {c : Str} {k : Nat} {mm : List D → Res D} {i : CI} {fa : Addr} {fd : FuncData} {ps : List Str} {nm qual : Str} {params : Arguments} {body : List Stmt} {scope : Scope} {dvs : List V} {kws : List (Str × V)}
    (hi : g.ci c = some i) (h : Meth g.K i.C "__call__" fa) (Fd : FunD g.K nm qual params body scope dvs kws fa fd) (Fn : FnOk P w g.K mg base (L2.CX P w) k fa fd ps (spD g mm)) (bd : Binds g.K fd ps []) (hx : i.k ≠ .exc) : CallT P w g mg base c k mm := by
  refine ⟨⟨i, fa, hi, ⟨h.at_, h.fn, ?_⟩, (Fn.raw bd .nil).imp fun vs H Q E h => ?_, hx⟩⟩
  · obtain ⟨oc, od, dV, kV, doc, pm, an, cdv, ct, osl, _, lk, _⟩ := Fd.ex
    unfold PySem.W.fnIn
    rw [lk]
  · rw [List.append_nil]
    exact h
/-! ### a written dict of the module -/
structure TabT (g : Gm) (w : World) (mg : Str → Option Value) (x : Str) (tb : List (Str × D)) : Prop where
  ex : ∃ a es n, mg x = some (.ref a) ∧ KDict g.K w a es n ∧ ∀ z, (∃ d u v, tb.lookup z = some d ∧ PySem.W.nsIn g.K a z = some (some u) ∧ RelV v u ∧ ∀ F, Enc g F v d) ∨ (tb.lookup z = none ∧ PySem.W.nsIn g.K a z = some none)
def tgetD (tb : List (Str × D)) (k d : D) : Option D := match k with
  | .str z => some ((tb.lookup z).getD d)
  | _ => none
def tinB (tb : List (Str × D)) (k : D) : Option Bool := match k with
  | .str z => some (tb.lookup z).isSome
  | _ => none
def tixD (tb : List (Str × D)) (k : D) : Option D := match k with
  | .str z => tb.lookup z
  | _ => none
/-- x.get(k, d) -/
theorem e_tget {tb : List (Str × D)} {apos cpos : Pos} (T : TabT g X.w X.mg x tb) (he : PE X e1 (tE g b Γ ra)) (hf : PE X e2 (tE g b Γ rb)) (hg : Gl X x := by rfl) (hdb : (x == ("__debug__" : Str)) = false := by decide)
    (m : M2 X (.Name x p) "get" apos e1 e2 cpos := by exact ⟨rfl, rfl, rfl, rfl⟩) (hK : X.K = g.K := by rfl) :
    PE X (.Call (.Attribute (.Name x p) "get" apos) [e1, e2] [] cpos) (tE g b Γ (ra.bind fun k => rb.bind fun d => ofO (tgetD tb k d))) := by
  obtain ⟨a, es, n, hm, hd, ht⟩ := T.ex
  refine ⟨fun pins s σ H Q I h => ?_⟩
  obtain ⟨F, h⟩ := h
  rw [← hK] at hd
  have hty : ∀ {pins : List (Addr × Obj)} {σ : L2.St} {H : Hp} {s : Shared}, Inv X pins σ H s → s.TypeIs (.ref a) "dict" ∧ ∀ c, Value.ref a = .ref c → ∃ o, s.heap.get? c = some o ∧ o.dict = none := fun {pins σ H s} I => by
    refine ⟨kd_type hd I, fun c e => ?_⟩
    cases e
    exact ⟨_, I.kIn _ _ hd.at_, rfl⟩
  have hld := (pe_glob (X := X) (x := x) (v := .ref a) (pos := p) hg hm rfl hdb).run pins s σ H (fun v H1 => v = .ref a ∧ H1 = H) I (show tC (.ref a) σ H _ from ⟨rfl, rfl⟩)
  refine wpAny_Call_method m.base m.few m.line PySem.F.plainAttrs_dict PySem.F.slot_dict_get PySem.F.type_dict_get (thn hld fun u s1 ⟨v, H1, I1, rv, ev, eh⟩ => ?_)
  subst ev eh
  obtain rfl : u = Value.ref a := rv
  obtain ⟨t1, t2⟩ := hty I1
  refine ⟨t1, t2, ?_⟩
  rw [m.trees]
  refine Calls.callWith_builtin rfl (Calls.evalArgs_plain (Calls.spliced_cons (thn (he.run pins s1 σ H1 (fun v H2 => ∃ k F2, Post g b Γ F2 (rb.bind fun d => ofO (tgetD tb k d)) σ H2 Q ∧ Enc g F2 v k) I1 (tE_bind h fun k v F2 H2 _ g1 en p1 => ⟨k, F2, p1, en⟩)) fun iv s2 ⟨y, H2, I2, ry, k, F2, p2, ek⟩ =>
    Calls.spliced_cons (thn (hf.run pins s2 σ H2 (fun v H3 => ∃ d F3, Post g b Γ F3 (ofO (tgetD tb k d)) σ H3 Q ∧ Enc g F3 v d) I2 (tE_bind p2 fun d v F3 H3 _ g2 en p3 => ⟨d, F3, p3, en⟩)) fun fv s3 ⟨z, H3, I3, rz, d, F3, p3, ed⟩ => Calls.spliced_nil ?_))))
  obtain ⟨zz, ez⟩ : ∃ zz, k = .str zz := by
    cases k with
    | str zz => exact ⟨zz, rfl⟩
    | _ => exact p3.2.elim
  subst ez
  cases ek
  obtain ⟨t, rfl⟩ := (show ∃ t, iv = Value.str zz t from ry)
  have hm3 := PySem.W.mapOf_K (prog := X.prog) (w := X.w) I3.kIn hd.at_ hd.lit
  rcases ht zz with ⟨d0, u0, v0, e1, e2, e3, e4⟩ | ⟨e1, e2⟩
  · refine call_meetsIn PySem.F.slot_dict_get hm3.typeIs PySem.F.entry_dict_get (PySem.F.args_dict_get_3 _ _ _) (meets_dict_get_default (strKind X.prog X.w) a (PySem.strKind_is X.prog X.w zz t) hd.low fv) ⟨_, hm3, ?_⟩
    rw [PySem.W.find_K hd.at_ (hK ▸ e2)]
    simp only [tgetD, e1, Option.getD_some, ofO_some] at p3
    exact ⟨v0, H3, I3.tok _, e3, p3.done (e4 F3)⟩
  · refine call_meetsIn PySem.F.slot_dict_get hm3.typeIs PySem.F.entry_dict_get (PySem.F.args_dict_get_3 _ _ _) (meets_dict_get_default (strKind X.prog X.w) a (PySem.strKind_is X.prog X.w zz t) hd.low fv) ⟨_, hm3, ?_⟩
    rw [PySem.W.find_K hd.at_ (hK ▸ e2)]
    simp only [tgetD, e1, Option.getD_none, ofO_some] at p3
    exact ⟨z, H3, I3.tok _, rz, p3.done ed⟩
end
/-! facts of the top -/
/-- a written value: ints, texts, tuples of them -/
def datB (K : PySem.W.Frag) : D → Value → Bool
  | .none, .none => true
  | .int i, .int j _ => decide (i = j)
  | .str x, .str y _ => decide (x = y)
  | .tuple ds, .ref a => (match K.lookup a with
    | some ⟨.type c, none, .seq its _, _⟩ => decide (c = "tuple") && (decide (its.size ≤ 1000) && datL ds its.toList)
    | _ => false)
  | _, _ => false
where datL : List D → List Value → Bool
  | [], [] => true
  | .int i :: ds, .int j _ :: us => decide (i = j) && datL ds us
  | .str x :: ds, .str y _ :: us => decide (x = y) && datL ds us
  | _, _ => false
theorem datL_ok {g : Gm} : ∀ {ds : List D} {us : List Value}, datB.datL ds us = true → ∃ vs, Vals vs us ∧ ∀ F, EncL g F vs ds
  | [], [], _ => ⟨[], .nil, fun _ => .nil⟩
  | [], _ :: _, h => by simp [datB.datL] at h
  | .int i :: ds, .int j t :: us, h => by
    obtain ⟨h1, h2⟩ := He.ba (show (decide (i = j) && datB.datL ds us) = true from h)
    obtain ⟨vs, r, en⟩ := datL_ok (g := g) h2
    cases of_decide_eq_true h1
    exact ⟨.int i :: vs, .cons ⟨t, rfl⟩ r, fun F => .cons (.int i) (en F)⟩
  | .str x :: ds, .str y t :: us, h => by
    obtain ⟨h1, h2⟩ := He.ba (show (decide (x = y) && datB.datL ds us) = true from h)
    obtain ⟨vs, r, en⟩ := datL_ok (g := g) h2
    cases of_decide_eq_true h1
    exact ⟨.str x :: vs, .cons ⟨t, rfl⟩ r, fun F => .cons (.str x) (en F)⟩
  | .int _ :: _, [], h | .str _ :: _, [], h => by simp [datB.datL] at h
  | .none :: _, us, h | .bool _ :: _, us, h | .list _ :: _, us, h | .tuple _ :: _, us, h | .dict _ :: _, us, h => by cases us <;> simp [datB.datL] at h
  | .int _ :: _, u :: _, h => by
    cases u <;> first | (simp [datB.datL] at h; done) | skip
    rename_i i ds us j t
    obtain ⟨h1, h2⟩ := He.ba (show (decide (i = j) && datB.datL ds us) = true from h)
    obtain ⟨vs, r, en⟩ := datL_ok (g := g) h2
    cases of_decide_eq_true h1
    exact ⟨.int i :: vs, .cons ⟨t, rfl⟩ r, fun F => .cons (.int i) (en F)⟩
  | .str _ :: _, u :: _, h => by
    cases u <;> first | (simp [datB.datL] at h; done) | skip
    rename_i x ds us y t
    obtain ⟨h1, h2⟩ := He.ba (show (decide (x = y) && datB.datL ds us) = true from h)
    obtain ⟨vs, r, en⟩ := datL_ok (g := g) h2
    cases of_decide_eq_true h1
    exact ⟨.str x :: vs, .cons ⟨t, rfl⟩ r, fun F => .cons (.str x) (en F)⟩
theorem datB_ok {g : Gm} {d : D} {u : Value} (h : datB g.K d u = true) : ∃ v, RelV v u ∧ ∀ F, Enc g F v d := by
  cases d with
  | none => cases u <;> first | (simp [datB] at h; done) | exact ⟨.non, rfl, fun _ => .non⟩
  | int i =>
    cases u <;> first | (simp [datB] at h; done) | skip
    rename_i j t
    cases of_decide_eq_true h
    exact ⟨.int i, ⟨t, rfl⟩, fun _ => .int i⟩
  | str x =>
    cases u <;> first | (simp [datB] at h; done) | skip
    rename_i y t
    cases of_decide_eq_true h
    exact ⟨.str x, ⟨t, rfl⟩, fun _ => .str x⟩
  | tuple ds =>
    cases u <;> first | (simp [datB] at h; done) | skip
    rename_i a
    have h : (match g.K.lookup a with
    | some ⟨.type c, none, .seq its _, _⟩ => decide (c = "tuple") && (decide (its.size ≤ 1000) && datB.datL ds its.toList)
    | _ => false) = true := h
    split at h
    · rename_i c its n sl hl
      obtain ⟨h1, h2⟩ := He.ba h
      obtain ⟨h2, h3⟩ := He.ba h2
      obtain ⟨vs, r, en⟩ := datL_ok (g := g) h3
      cases of_decide_eq_true h1
      exact ⟨.ref a, rfl, fun F => .tup (.inr ⟨_, its, n, hl, rfl, rfl, rfl, Nat.le_trans (of_decide_eq_true h2) (by decide), r⟩) (en F)⟩
    · cases h
  | _ => simp [datB] at h
def tabL (K : PySem.W.Frag) : List DictEntry → List (Str × D) → Bool
  | [], [] => true
  | e :: es, q :: tb => (match e.key with
    | .str x _ => decide (x = q.1)
    | _ => false) && (datB K q.2 e.val && tabL K es tb)
  | _, _ => false
def tabB (K : PySem.W.Frag) (a : Addr) (tb : List (Str × D)) : Bool := match K.lookup a with
  | some ⟨_, _, .dict es _, _⟩ => tabL K es.toList tb
  | _ => false
theorem tabL_ok {g : Gm} : ∀ {l : List DictEntry} {tb : List (Str × D)}, tabL g.K l tb = true → ∀ z, l.any (·.refKey) = false ∧ ((∃ e d u v, l.find? (·.key.isStr z) = some e ∧ tb.lookup z = some d ∧ e.val = u ∧ RelV v u ∧ ∀ F, Enc g F v d) ∨ (l.find? (·.key.isStr z) = none ∧ tb.lookup z = none))
  | [], [], _, z => ⟨rfl, .inr ⟨rfl, rfl⟩⟩
  | [], _ :: _, h, _ => by simp [tabL] at h
  | _ :: _, [], h, _ => by simp [tabL] at h
  | e :: es, q :: tb, h, z => by
    unfold tabL at h
    obtain ⟨h1, h2⟩ := He.ba h
    obtain ⟨h2, h3⟩ := He.ba h2
    obtain ⟨r1, r2⟩ := tabL_ok (g := g) h3 z
    obtain ⟨v, rv, ev⟩ := datB_ok h2
    obtain ⟨k, d⟩ := q
    split at h1
    · rename_i x t ek
      cases of_decide_eq_true h1
      have nr : e.refKey = false := by unfold DictEntry.refKey; rw [ek]
      have hs : e.key.isStr z = (k == z) := by rw [ek]; rfl
      refine ⟨by rw [List.any_cons, nr, r1]; rfl, ?_⟩
      rw [List.find?_cons, hs]
      by_cases c : k = z
      · subst c
        refine .inl ⟨e, d, e.val, v, by simp, by simp [List.lookup], rfl, rv, ev⟩
      · have c1 : (k == z) = false := by simpa using c
        have c2 : (z == k) = false := by simpa using fun y => c y.symm
        rw [c1]
        simp only [List.lookup, c2]
        exact r2
    · cases h1
theorem tab_ok {g : Gm} {w : World} {h : Heap} {mg : Str → Option Value} (X : g.K.In h) (G : h.Ns mainGlobals mg) {x : Str} {tb : List (Str × D)} (c : ∃ es n, KDict g.K w (He.ga g.K x) es n) (c1 : tabB g.K (He.ga g.K x) tb = true) (c2 : (He.Fa.glo x).ok g.K = true) : TabT g w mg x tb := by
  obtain ⟨es, n, hd⟩ := c
  refine ⟨⟨_, es, n, He.glo_ok X G c2, hd, fun z => ?_⟩⟩
  unfold tabB at c1
  rw [hd.at_] at c1
  obtain ⟨r1, r2⟩ := tabL_ok c1 z
  unfold PySem.W.nsIn
  rw [hd.at_]
  rcases r2 with ⟨e, d, u, v, e1, e2, e3, e4, e5⟩ | ⟨e1, e2⟩
  · exact .inl ⟨d, u, v, e2, by simp only [e1, e3], e4, e5⟩
  · exact .inr ⟨e2, by simp only [e1, r1]; rfl⟩
/-! the Hook with tables -/
section
open He
def obsMT (ex : PySem.W.Frag → Bool) (fn : List He5.DefA) (ts : List He.Tab) (K : PySem.W.Frag) : He.AlT := (obsM ex fn K, ts.map fun t => dicW K (t.1 K))
def valMT (fn : List He5.DefA) (ts : List He.Tab) (w : World) : He.AlT := (He5.valA fn, ts.map fun t => some (keysIn w.params t.2))
def SaysMT (ex : PySem.W.Frag → Bool) (fn : List He5.DefA) (ts : List He.Tab) (w : World) (K : PySem.W.Frag) : Prop := obsMT ex fn ts K = valMT fn ts w
def obsMTG (n : Nat) (ex : PySem.W.Frag → Bool) (fn : List He5.DefA) (ts : List He.Tab) (g : Addr → Option Obj) : He.AlT := obsMT ex fn ts (He.frG g (He5.asA g n))
def hookMT (n : Nat) (ex : PySem.W.Frag → Bool) (fn : List He5.DefA) (ts : List He.Tab) : PySem.W.Hook where
  α := He.AlT
  obs := fun s => obsMTG n ex fn ts s.heap.get?
  val := fun w => valMT fn ts w
  says := fun w h => ∃ K : PySem.W.Frag, K.In h ∧ SaysMT ex fn ts w K
  of := fun _ _ e => ⟨_, frG_in, e⟩
  keeps := fun _ _ _ ⟨K, hK, c⟩ k => ⟨K, PySem.W.Frag.In.keeps hK k, c⟩
theorem obsMTG_eq {n : Nat} {ex : PySem.W.Frag → Bool} {fn : List He5.DefA} {ts : List He.Tab} {g : Addr → Option Obj} {s : Shared} (h : ∀ a, g a = s.heap.get? a) : obsMTG n ex fn ts g = (hookMT n ex fn ts).obs s := by
  have e : g = s.heap.get? := funext h
  rw [e] <;> rfl
variable {ex : PySem.W.Frag → Bool} {fn : List He5.DefA} {ts : List He.Tab} {w : World} {K : PySem.W.Frag}
theorem SaysMT.m (c : SaysMT ex fn ts w K) : SaysM ex fn K := congrArg (fun z : AlT => z.1) c
theorem SaysMT.tab (c : SaysMT ex fn ts w K) (i : Nat) {t : He.Tab} (h : ts[i]? = some t := by rfl) : ∃ es n, KDict K w (t.1 K) es n := by
  have e : ts.map (fun t => dicW K (t.1 K)) = ts.map fun t => some (keysIn w.params t.2) := congrArg (fun z : AlT => z.2) c
  have e2 : (ts.map fun t => dicW K (t.1 K))[i]? = (ts.map fun t => some (keysIn w.params t.2))[i]? := by rw [e]
  rw [List.getElem?_map, List.getElem?_map, h] at e2
  exact dicW_ok (Option.some.inj e2)
end
end Mi
/-! Mi23: defs that say super(): the entry, the first statement. -/
namespace Mi
open L2 PySem PySem.Spec PyProof.Rows
/-! ### the frame of a def with the cell of its class -/
abbrev ccl : Str := "__class__"
structure InF (s₀ : Shared) (L : Addr) (m : Str → Option Value) (cs : List (Str × Addr)) (cm : Str → Option Value) (s : Shared) : Prop where
  inn : InCall s₀ L m s
  cell : ∀ n c, cs.lookup n = some c → s.heap.IsCell c (cm n)
  apart : cs.Pairwise fun x y => x.2 ≠ y.2
  ne : ∀ n c, (n, c) ∈ cs → c ≠ L
  above : ∀ n c, (n, c) ∈ cs → n ≠ ccl → L < c
section
variable {M : Model} {A : Around} {E : Value → Shared → Prop} {s₀ s : Shared} {m cm : Str → Option Value} {env : Env}
theorem stLF {n : Str} {v : Value} {Q : Unit → Shared → Prop} (x : InF s₀ env.locals m env.cells cm s) (hk : env.scope.kind = .function) (hl : env.kindOf n = some .local)
    (h : ∀ s', InF s₀ env.locals (fun y => if y = n then some v else m y) env.cells cm s' → Q () s') : wpAny M A (storeName env n v) Q E s := by
  refine wpAny_storeName_local hl x.inn.ns (fun h' hn' hs' => h _ ⟨⟨?_, hn', fun b o e => ?_, x.inn.fresh⟩, fun k c hc => ?_, x.apart, x.ne, x.above⟩) (by rw [hk]; rfl)
  · obtain ⟨h₁, tk, rfl⟩ := x.inn.same
    exact ⟨h', _, rfl⟩
  · exact hs'.extBut b o (Nat.ne_of_lt (Nat.lt_of_lt_of_le (Heap.lt_size e) x.inn.fresh)) (x.inn.keep b o e)
  · exact (x.cell k c hc).sameBut hs' (x.ne k c (PySem.mem_of_lookup hc))
theorem stCF {n : Str} {c : Addr} {v : Value} {Q : Unit → Shared → Prop} (x : InF s₀ env.locals m env.cells cm s) (hk : env.scope.kind = .function) (hl : env.kindOf n = some .cell) (hn : n ≠ ccl)
    (hc : env.cells.lookup n = some c)
    (h : ∀ s', InF s₀ env.locals m env.cells (fun y => if y = n then some v else cm y) s' → Q () s') : wpAny M A (storeName env n v) Q E s := by
  have hLc := x.above n c (PySem.mem_of_lookup hc) hn
  refine wpAny_storeName_cell hk hl hc (x.cell n c hc) fun h' hc' hs' => h _ ⟨⟨?_, x.inn.ns.sameBut hs' (Nat.ne_of_lt hLc), fun b o e => ?_, x.inn.fresh⟩, fun k c' hk' => ?_, x.apart, x.ne, x.above⟩
  · obtain ⟨h₁, tk, rfl⟩ := x.inn.same
    exact ⟨h', _, rfl⟩
  · exact hs'.extBut b o (Nat.ne_of_lt (Nat.lt_trans (Nat.lt_of_lt_of_le (Heap.lt_size e) x.inn.fresh) hLc)) (x.inn.keep b o e)
  · by_cases hkn : k = n
    · subst hkn
      rw [hc] at hk'; cases hk'
      simpa using hc'
    · rw [if_neg hkn]
      exact (x.cell k c' hk').sameBut hs' fun e => hkn (name_of_addr x.apart (PySem.mem_of_lookup hk') (e ▸ PySem.mem_of_lookup hc))
theorem bindF_ (f : Str × Value → PUnit → Sem (ForInStep PUnit)) (hf : ∀ n v u, f (n, v) u = (do storeName env n v; pure (.yield ⟨⟩))) (hk : env.scope.kind = .function) :
    ∀ (binds : List (Str × Value)) (m cm : Str → Option Value) (s : Shared) (Q : PUnit → Shared → Prop), InF s₀ env.locals m env.cells cm s →
      (∀ x ∈ binds, x.1 ≠ ccl ∧ (env.kindOf x.1 = some .local ∨ (env.kindOf x.1 = some .cell ∧ (env.cells.lookup x.1).isSome = true))) →
      (∀ s', InF s₀ env.locals (bindL env.kindOf binds m) env.cells (bindC env.kindOf binds cm) s' → Q ⟨⟩ s') → wpAny M A (forIn binds ⟨⟩ f) Q E s
  | [], m, cm, s, Q, x, _, h => by rw [List.forIn_nil]; exact wpAny_pure (h s x)
  | (n, v) :: r, m, cm, s, Q, x, hkind, h => by
    rw [List.forIn_cons, hf]
    have hr : ∀ y ∈ r, y.1 ≠ ccl ∧ (env.kindOf y.1 = some .local ∨ (env.kindOf y.1 = some .cell ∧ (env.cells.lookup y.1).isSome = true)) := fun y hy => hkind y (List.mem_cons_of_mem _ hy)
    obtain ⟨hn, hq⟩ := hkind (n, v) List.mem_cons_self
    rcases hq with hl | ⟨hl, hc⟩
    · refine wpAny_bind (wpAny_bind (stLF x hk hl fun s' x' => wpAny_pure (bindF_ f hf hk r _ _ s' Q x' hr fun s'' x'' => h s'' ?_)))
      unfold bindL bindC; rw [if_pos hl, if_pos hl]; exact x''
    · obtain ⟨c, hc⟩ := Option.isSome_iff_exists.mp hc
      have hnl : ¬ env.kindOf n = some .local := by rw [hl]; decide
      refine wpAny_bind (wpAny_bind (stCF x hk hl hn hc fun s' x' => wpAny_pure (bindF_ f hf hk r _ _ s' Q x' hr fun s'' x'' => h s'' ?_)))
      unfold bindL bindC; rw [if_neg hnl, if_neg hnl]; exact x''
theorem cells_acc : ∀ (names : List (Str × NameKind)) (n : Nat) (acc : List (Str × Addr)), cellsFrom n names acc = cellsFrom n names [] ++ acc
  | [], _, _ => rfl
  | (y, k) :: r, n, acc => by
    unfold cellsFrom
    split
    · rw [cells_acc r (n + 1) ((y, n) :: acc), cells_acc r (n + 1) [(y, n)], List.append_assoc]
      rfl
    · exact cells_acc r n acc
theorem cells_name : ∀ (names : List (Str × NameKind)) (n : Nat) (y : Str) (c : Addr), (y, c) ∈ cellsFrom n names [] → (y, NameKind.cell) ∈ names
  | [], _, y, c, h => by simp [cellsFrom] at h
  | (x, k) :: r, n, y, c, h => by
    unfold cellsFrom at h
    split at h
    · rename_i hk
      rw [cells_acc] at h
      rcases List.mem_append.mp h with q | q
      · exact List.mem_cons_of_mem _ (cells_name r (n + 1) y c q)
      · simp only [List.mem_singleton, Prod.mk.injEq] at q
        rw [q.1, eq_of_beq hk]
        exact List.mem_cons_self
    · exact List.mem_cons_of_mem _ (cells_name r n y c h)
theorem newF {scope : Scope} {globals cc : Addr} {D : Value} {binds : List (Str × Value)} {qual : Str} {func : Option Addr} {code : Value} {builtins : Addr} {Q : Env → Shared → Prop} (hk : scope.kind = .function) (hnc : ∀ y ∈ scope.names, y.2 = .cell → y.1 ≠ ccl)
    (hcc : s.heap.IsCell cc (some D)) (hpn : ∀ x ∈ binds, x.1 ≠ ccl)
    (hkind : ∀ x ∈ binds, scope.names.lookup x.1 = some .local ∨ (scope.names.lookup x.1 = some .cell ∧ ((cellsFrom (s.heap.objs.size + 1) scope.names [(ccl, cc)]).lookup x.1).isSome = true))
    (hQ : ∀ env, env = newEnv scope s.heap.objs.size globals (cellsFrom (s.heap.objs.size + 1) scope.names [(ccl, cc)]) qual func code none builtins →
      ∀ s', InF s env.locals (bindL env.kindOf binds fun _ => none) env.cells (bindC env.kindOf binds fun y => if y = ccl then some D else none) s' → Q env s') :
    wpAny M A (newFunctionEnv scope globals [(ccl, cc)] binds qual func code none builtins) Q E s := by
  simp only [newFunctionEnv, Option.isSome_none, Bool.false_eq_true, if_false]
  refine wpAny_bind (wpAny_alloc ?_)
  refine wpAny_bind (wpAny_layCells _ (fun name kind cells => by cases hkc : kind == NameKind.cell <;> simp [hkc]) _ _ _ _ ?_)
  have ok := cellsFrom_ok scope.names (s.heap.push { cls := .type "frame", data := .dict #[] }) (s.heap.objs.size + 1) [] ⟨fun _ _ hm => (nomatch hm), List.Pairwise.nil⟩ (by rw [Heap.size_push]; exact Nat.le_refl _)
  rw [Heap.size_push] at ok
  rw [show ({ s with heap := s.heap.push { cls := .type "frame", data := .dict #[] } } : Shared).heap.objs.size = s.heap.objs.size + 1 from Heap.size_push ..]
  have lcc := hcc.lt
  have keep : ∀ b o, s.heap.get? b = some o → (pushCells (s.heap.push { cls := .type "frame", data := .dict #[] }) scope.names).get? b = some o := fun b o e => pushCells_keeps _ _ b o (Heap.get?_push_of_some _ e)
  have mem : ∀ n c, (n, c) ∈ cellsFrom (s.heap.objs.size + 1) scope.names [(ccl, cc)] → ((n, c) ∈ cellsFrom (s.heap.objs.size + 1) scope.names [] ∧ n ≠ ccl) ∨ (n = ccl ∧ c = cc) := fun n c h => by
    rw [cells_acc] at h
    rcases List.mem_append.mp h with q | q
    · exact .inl ⟨q, hnc _ (cells_name _ _ _ _ q) rfl⟩
    · simp only [List.mem_singleton, Prod.mk.injEq] at q
      exact .inr q
  refine wpAny_bind (bindF_ (s₀ := s) (env := newEnv scope s.heap.objs.size globals (cellsFrom (s.heap.objs.size + 1) scope.names [(ccl, cc)]) qual func code none builtins)
    _ (fun _ _ _ => rfl) hk binds (fun _ => none) (fun y => if y = ccl then some D else none) _ _
    ⟨⟨⟨_, _, rfl⟩, (Heap.Ns.new s.heap (.type "frame")).keeps (pushCells_keeps _ _), keep, Nat.le_refl _⟩, fun n c hc => ?_, ?_, fun n c hm => ?_, fun n c hm hn => ?_⟩
    (fun x hx => ⟨hpn x hx, hkind x hx⟩) fun s' x => wpAny_pure (hQ _ rfl s' x))
  · rcases mem n c (PySem.mem_of_lookup hc) with ⟨q, hn⟩ | ⟨rfl, rfl⟩
    · rw [if_neg hn]
      exact (ok.empty n c q).1
    · rw [if_pos rfl]
      exact hcc.keeps keep
  · show (cellsFrom (s.heap.objs.size + 1) scope.names [(ccl, cc)]).Pairwise _
    rw [cells_acc]
    refine List.pairwise_append.mpr ⟨ok.apart, by simp, fun x hx y hy => ?_⟩
    simp only [List.mem_singleton] at hy
    subst hy
    have := (ok.empty x.1 x.2 hx).2
    exact Nat.ne_of_gt (Nat.lt_of_lt_of_le lcc (Nat.le_of_succ_le this))
  · rcases mem n c hm with ⟨q, hn⟩ | ⟨_, rfl⟩
    · have := (ok.empty n c q).2
      exact Nat.ne_of_gt this
    · exact Nat.ne_of_lt lcc
  · rcases mem n c hm with ⟨q, _⟩ | ⟨q, _⟩
    · exact (ok.empty n c q).2
    · exact absurd q hn
end
/-! ### the context of the body -/
structure ScS (N P : List Str) (sc : Scope) : Prop where
  kind : sc.kind = .function
  co : sc.isCoroutine = false
  gen : sc.isGenerator = false
  nd : N.Nodup
  pre : N.take P.length = P
  par : ∀ x ∈ P, x ≠ ccl ∧ (sc.names.lookup x = some .local ∨ sc.names.lookup x = some .cell)
  free : ∀ y ∈ sc.names, y.2 = .free → y.1 = ccl
  cl : sc.names.lookup ccl = some .free
  nc : ∀ y ∈ sc.names, y.2 = .cell → y.1 ≠ ccl
  nn : ccl ∉ N
abbrev envS (qual : Str) (scope : Scope) (L f cc : Addr) (cd : Value) : Env := PySem.W.envX qual scope L f cd (cellsFrom (L + 1) scope.names [(ccl, cc)])
def cxS (CX : CXT) (P : Program) (w : World) (K : PySem.W.Frag) (mg : Str → Option Value) (base : Heap) (N : List Str) (qual : Str) (scope : Scope) (f cc : Addr) (cd : Value) (A : Around) (outer : List Env) (s : Shared) (H : Hp) (E : XK) : Cx where
  prog := P
  w := w
  K := K
  mg := mg
  base := base
  A := A.deeper (envS qual scope s.heap.objs.size f cc cd)
  N := N
  s_0 := s
  H_0 := H
  env := envS qual scope s.heap.objs.size f cc cd
  outer := outer
  stack := envS qual scope s.heap.objs.size f cc cd :: outer
  ex := []
  calm := true
  fn := fun x => !(x == ccl)
  pn := []
  xe := fun e s' => wpAny (model P w) (A.deeper (envS qual scope s.heap.objs.size f cc cd)) (leaving (envS qual scope s.heap.objs.size f cc cd) e) (fun _ s'' => CX outer H s E e s'') (fun e' s'' => CX outer H s E e' s'') s'
section
variable {CX : CXT} {P : Program} {w : World} {K : PySem.W.Frag} {mg : Str → Option Value} {base : Heap} {N ps : List Str} {qual : Str} {scope : Scope} {f cc Dc : Addr} {cd : Value} {A : Around} {outer : List Env} {s s1 : Shared} {H : Hp} {E : XK} {us : List Value} {vs : List V}
theorem inv_startS {oc : Value} {od : Option Addr} {sl : Array (Option Value)} (S : ScS N ps scope) (hd : A.handled = none) (e0 : Env0 P w K mg base A outer s H) (hl : vs.length = ps.length) (r : Vals vs us) (hcc : K.lookup cc = some ⟨oc, od, .cell (some (.ref Dc)), sl⟩)
    (x : InF s s.heap.objs.size (bindL (envS qual scope s.heap.objs.size f cc cd).kindOf (ps.zip us) fun _ => none) (cellsFrom (s.heap.objs.size + 1) scope.names [(ccl, cc)]) (bindC (envS qual scope s.heap.objs.size f cc cd).kindOf (ps.zip us) fun y => if y = ccl then some (.ref Dc) else none) s1) :
    Inv (cxS CX P w K mg base N qual scope f cc cd A outer s H E) [] (L2.start N vs) H s1 := by
  have hpl : ps.length ≤ N.length := by have := congrArg List.length S.pre; rw [List.length_take] at this; omega
  obtain ⟨h1, tk, rfl⟩ := x.inn.same
  have hk := x.inn.keep
  have noA : ∀ b : Addr, b ∉ (cxS CX P w K mg base N qual scope f cc cd A outer s H E).ex := fun b z => absurd (show b ∈ ([] : List Addr) from z) (by simp)
  have kb := e0.mod.kin _ _ hcc
  have mem : ∀ n c, (cellsFrom (s.heap.objs.size + 1) scope.names [(ccl, cc)]).lookup n = some c → n ≠ ccl ∨ (n = ccl ∧ c = cc) := fun n c h => by
    by_cases q : n = ccl
    · refine .inr ⟨q, ?_⟩
      have h := PySem.mem_of_lookup h
      rw [cells_acc] at h
      rcases List.mem_append.mp h with z | z
      · exact absurd q (S.nc _ (cells_name _ _ _ _ z) rfl)
      · simp only [List.mem_singleton, Prod.mk.injEq] at z
        exact z.2
    · exact .inl q
  refine ⟨⟨e0.mod, S.kind, rfl, rfl, Nat.le_refl _, fun y z c h1 h2 => ?_, fun y hy => ?_, fun y c hf h => ?_, fun _ => hd, Around.frames_deeper e0.frames, .inr ⟨rfl, rfl⟩, fun b z => absurd z (noA b), e0.bs, e0.bsz, fun b _ _ => noA b, fun b z => absurd z (noA b), e0.funs, e0.frf⟩,
    rfl, e0.bare, Un.kept hk, ⟨_, x.inn.ns, fun i y v h1 h2 h3 => ?_⟩, fun y c h => ⟨_, x.cell y c h⟩, e0.hok.fresh (Nat.le_refl _), fun y c h => ?_, fun p hp => absurd (show p ∈ ([] : List (Addr × Obj)) from hp) (by simp), e0.hok.kept hk, ?_⟩
  · exact name_of_addr x.apart (PySem.mem_of_lookup h1) (PySem.mem_of_lookup h2)
  · have hy : scope.names.lookup y = some .cell ∨ scope.names.lookup y = some .free := hy
    refine Option.isSome_iff_exists.mp (PySem.W.cellsFrom_some scope.names _ [(ccl, cc)] ?_)
    rcases hy with hy | hy
    · exact .inl hy
    · refine .inr ?_
      have ey : y = ccl := S.free _ (PySem.mem_of_lookup hy) rfl
      rw [ey]
      rfl
  · refine Nat.le_of_lt (x.above y c (PySem.mem_of_lookup h) fun e => ?_)
    subst e
    exact absurd (show (!(ccl == ccl)) = true from hf) (by decide)
  · have hi : i < vs.length := by
      unfold L2.start at h2
      by_cases hi : i < vs.length
      · exact hi
      · rw [List.getElem?_append_right (by simpa using hi)] at h2
        rw [List.getElem?_replicate] at h2
        split at h2 <;> cases h2
    have ha : vs[i]? = some v := by
      unfold L2.start at h2
      rw [List.getElem?_append_left (by simpa using hi), List.getElem?_map] at h2
      cases e : vs[i]? with
      | none => rw [e] at h2; cases h2
      | some a => rw [e] at h2; cases h2; rfl
    obtain ⟨u, hu, rv⟩ := r.get ha
    have hp : ps[i]? = some y := by
      rw [← S.pre, List.getElem?_take_of_lt (by omega)]; exact h1
    have ndP : ps.Nodup := by rw [← S.pre]; exact S.nd.sublist (List.take_sublist _ _)
    refine ⟨u, rv, ?_⟩
    rcases (S.par y (List.mem_of_getElem? hp)).2 with k | k
    · exact .inl ⟨k, bindL_get ndP hp hu k⟩
    · obtain ⟨c, e⟩ := Option.isSome_iff_exists.mp (PySem.W.cellsFrom_some scope.names (s.heap.objs.size + 1) [(ccl, cc)] (.inl k))
      refine .inr ⟨.inl k, c, e, ?_⟩
      have q := x.cell y c e
      rw [bindC_get ndP hp hu (by show scope.names.lookup y ≠ _; rw [k]; decide)] at q
      exact q
  · rcases mem y c h with q | ⟨_, rfl⟩
    · exact e0.hok.fresh (Nat.le_of_lt (x.above y c (PySem.mem_of_lookup h) q))
    · exact (e0.bs _ _ kb).2
  · unfold L2.start
    show _ = N.length
    rw [List.length_append, List.length_map, List.length_replicate]
    omega
/-- a block whose first statement may say super() -/
structure PSa (X : Cx) (b0 st : List Stmt) (t : TS) : Prop where
  run : ∀ (pins : List (Addr × Obj)) (s : Shared) (σ : L2.St) (H : Hp) (D : Ends), Inv X pins σ H s → t D σ H → PySem.wpAt (model X.prog X.w) X.A (.func b0 X.env) (execs st X.env) (SP X pins D) X.xe s
/-- THE RULE: a def that says super(), by its body -/
theorem fnS_of {k : Nat} {name : Str} {params : Arguments} {body : List Stmt} {dV kV doc pm ct oc oc2 : Value} {an od od2 : Option Addr} {osl osl2 : Array (Option Value)} {sp : Sp} (lk : K.lookup f = some ⟨oc, od, .func (PySem.W.fnX name qual params body scope [(ccl, cc)] dV kV doc pm an cd ct), osl⟩)
    (hcd : PySem.W.codeIn K cd qual = true) (hcc : K.lookup cc = some ⟨oc2, od2, .cell (some (.ref Dc)), osl2⟩) (S : ScS N ps scope) (len : ∀ vs H Q E, sp vs H Q E → vs.length = ps.length)
    (hbody : ∀ (A : Around) (outer : List Env) (s : Shared) (H : Hp) (vs : List V) (Q : VK) (E : XK), Room k (A.deeper (envS qual scope s.heap.objs.size f cc cd)) → sp vs H Q E →
      ∃ t, PSa (cxS CX P w K mg base N qual scope f cc cd A outer s H E) body body t ∧ t { nx := fun _ H' => Q .non H', rt := Q } (L2.start N vs) H) :
    FnOk P w K mg base CX (k + 1) f (PySem.W.fnX name qual params body scope [(ccl, cc)] dV kV doc pm an cd ct) ps sp := by
  refine ⟨len, fun A outer s H args us vs Q E hr e0 hb r hsp => ?_⟩
  have hl := len _ _ _ _ hsp
  have KX : K.In s.heap := e0.mod.kin.keeps fun b o e => (e0.bs b o e).1
  have lim : s.heap.NoLimit := e0.mod.nolimit.keeps fun b o e => (e0.bs b o e).1
  have hkind : ∀ y ∈ ps.zip us, scope.names.lookup y.1 = some .local ∨ (scope.names.lookup y.1 = some .cell ∧ ((cellsFrom (s.heap.objs.size + 1) scope.names [(ccl, cc)]).lookup y.1).isSome = true) := fun ⟨n, v⟩ hy => by
    rcases (S.par n (List.of_mem_zip hy).1).2 with q | q
    · exact .inl q
    · exact .inr ⟨q, PySem.W.cellsFrom_some _ _ _ (.inl q)⟩
  refine codeAny_call_function hr.depth (KX _ _ lk) rfl S.co S.gen rfl (PySem.W.codeRec_of KX hcd) (hb _ _ _ _ ?_)
  refine newF (D := .ref Dc) S.kind S.nc ⟨_, KX _ _ hcc, rfl⟩ (fun ⟨n, v⟩ hy => (S.par n (List.of_mem_zip hy).1).1) hkind fun env he s1 x => ?_
  subst he
  refine ⟨lim.keeps x.inn.keep, ks_codeAny_funcAt ?_⟩
  obtain ⟨t, ht, hq⟩ := hbody A outer s H vs Q E (hr.deeper _) hsp
  have I : Inv (cxS CX P w K mg base N qual scope f cc cd A outer s H E) [] (L2.start N vs) H s1 := inv_startS S hr.hd e0 hl r hcc x
  refine ks_wpAt_mono (ht.run [] s1 (L2.start N vs) H _ I hq) (fun fl s' hs => ?_) fun e s' hs => hs
  have fin : ∀ {σ' : L2.St} {H' : Hp} {v : V} {u : Value}, Inv (cxS CX P w K mg base N qual scope f cc cd A outer s H E) [] σ' H' s' → RelV v u → Q v H' → CE outer P w H s Q u s' :=
    fun {σ' H' v u} J rv q => ⟨v, H', J.os, J.bare, J.base, J.hok, rv, q⟩
  cases fl with
  | ret u =>
    obtain ⟨v, σ', H', J, rv, q⟩ := hs
    exact fin J rv q
  | next =>
    obtain ⟨σ', H', J, q⟩ := hs
    exact fin (v := V.non) (u := Value.none) J rfl q
  | brk =>
    obtain ⟨_, _, _, q⟩ := hs
    exact False.elim q
  | cont =>
    obtain ⟨_, _, _, q⟩ := hs
    exact False.elim q
end
end Mi
/-! Mi24: super() of an own exception; its fields. -/
namespace Mi
open L2 PySem PySem.Spec PyProof.Rows
/-- what the top says of a def that says super(): its cell, its code's file -/
structure SupK (P : Program) (K : PySem.W.Frag) (f cc D : Addr) (cd : Value) (fd : FuncData) (sf : Str) : Prop where
  lk : ∃ oc od osl, K.lookup f = some ⟨oc, od, .func fd, osl⟩
  hp : ∃ ar, (fd.params.posonlyargs ++ fd.params.args).head? = some ar ∧ ar.arg = sf
  code : ∃ cda ocl odd vs osc file tf, cd = .ref cda ∧ K.lookup cda = some ⟨ocl, odd, .fields vs, osc⟩ ∧ vs[2]? = some (.str file tf) ∧ ((P.main.file : Str) == file) = true
  top : (P.main.scope.names.lookup ("super" : Str)).isSome = false
  cell : ∃ oc od osl, K.lookup cc = some ⟨oc, od, .cell (some (.ref D)), osl⟩
  cls : ∃ cdD, PySem.W.clsIn K D = some cdD
  opq : PySem.W.nsIn K cStatics "thirdparty.any" = some none
section
variable {X : Cx} {pins : List (Addr × Obj)} {σ : L2.St} {H : Hp} {s : Shared}
theorem clsIn_at {K : PySem.W.Frag} {D : Addr} {cdD : ClassData} {h : Heap} (KX : K.In h) (e : PySem.W.clsIn K D = some cdD) : ∃ oD, h.get? D = some oD ∧ oD.data = .cls cdD := by
  unfold PySem.W.clsIn at e
  split at e
  · rename_i c d cd' sl ho
    cases e
    exact ⟨_, KX _ _ ho, rfl⟩
  · cases e
/-- super().attr: the super object -/
theorem sup_base {b0 : List Stmt} {attr : Str} {whole : Sem Value} {p0 p1 : Pos} {f cc D C a : Addr} {fd : FuncData} {ox : Obj} {odx : Option Obj} {self : Str} {E : Value → Shared → Prop} {Q : Value → Shared → Prop} (T : SupK X.prog X.K f cc D X.env.code fd self) (I : Inv X pins σ H s)
    (hm : X.mg "super" = none) (hfu : X.env.func = some f) (hks : X.env.scope.names.lookup ("super" : Str) = some .globalImplicit) (hkc : X.env.scope.names.lookup ccl = some .free) (hcc : X.env.cells.lookup ccl = some cc) (hat : (attr == ("__class__" : Str)) = false)
    (hN : X.N[0]? = some self) (hv : Vis X.env.scope self) (hs : σ[0]? = some (some (.ref a))) (hsc : (self == ("__classdict__" : Str)) = false) (J : PySem.W.InstAt s.heap a ox C odx) (hsub : PySem.W.mroIn X.K C (.ref D) = some true)
    (h : ∀ so h', h'.get? so = some (PySem.W.ks_superObj D a C) → (∀ y o, s.heap.get? y = some o → h'.get? y = some o) → Q (.ref so) { s with heap := h' }) :
    PySem.wpAt (model X.prog X.w) X.A (.func b0 X.env) (attributeBase (.Call (.Name "super" p0) [] [] p1) attr X.env whole) Q E s := by
  obtain ⟨oc, od, osl, lk⟩ := T.lk
  obtain ⟨ar, hp, ear⟩ := T.hp
  obtain ⟨cda, ocl, odd, vs, osc, file, tf, ecd, lcd, hvs, hfile⟩ := T.code
  obtain ⟨oc2, od2, osl2, lcc⟩ := T.cell
  obtain ⟨cdD, hD⟩ := T.cls
  have KX := I.kIn
  obtain ⟨oD, hD1, hD2⟩ := clsIn_at KX hD
  obtain ⟨mb, b1, b2⟩ := I.mod.blt
  obtain ⟨m, hns, hlook⟩ := I.loc
  obtain ⟨u, ru, hl⟩ := hlook 0 self (.ref a) hN hs hv
  obtain rfl : u = Value.ref a := ru
  have kC : X.env.scope.kind = .function := I.ok.kind
  obtain ⟨hh, g, d, t, os⟩ := s
  refine ks_wpAt_super_base (env := X.env) hks hkc hat hfu (KX _ _ lk) rfl hp ecd (KX _ _ lcd) rfl hvs hfile T.top ?_
  refine PySem.W.ks_loadName_global kC hks (Calls.loadGlobal_builtin (by rw [I.ok.glob]; exact I.mod.glob.keeps I.bk) hm (by rw [I.ok.blt]; exact b1.keeps I.bk) ((b2 "super" (by decide)).trans (show bootBuiltins "super" = some (.type "super") by decide +kernel)) ⟨rfl, ?_⟩)
  refine wpAny_loadName_free kC hkc hcc ⟨_, KX _ _ lcc, rfl⟩ ?_
  have done : wpAny (model X.prog X.w) X.A (isType (.ref D)) (fun b s₄ => b = true ∧ wpAny (model X.prog X.w) X.A (call (.type "super") [.ref D, .ref a]) Q E s₄) E ⟨hh, g, d, t, os⟩ := by
    refine ks_wpAny_isType_cls hD1 hD2 ⟨rfl, ?_⟩
    refine ks_wpAny_call_super hD1 hD2 J.at_ J.cls (fun c e => ?_) (PySem.W.looks_mroIn KX hsub) (fun h' e k => h _ h' e k)
    have := J.no
    unfold PySem.W.notCls at this
    rw [e] at this
    exact Bool.noConfusion this
  rw [ear]
  rcases hl with ⟨k, e⟩ | ⟨k, c, e1, e2⟩
  · exact wpAny_loadName_local kC k hns e done
  · rcases k with k | k
    · exact wpAny_loadName_cell kC k e1 e2 done
    · exact wpAny_loadName_free kC k e1 e2 done hsc
/-- ValueError.__init__ bound to an exception, called -/
theorem call_mwV {P : Program} {w : World} {A : Around} {E : Value → Shared → Prop} {h : Heap} {g : Array GenState} {d : Drawn} {t : Nat} {os : OsState} {nm q : Str} {C N : Addr} {bs bm : List Value} {hdct : Bool} {sn : List Str} {sub : List Value} {ab : Bool} {col : Option Bool} {dd : Option Addr} {k0 k1 k2 k3 k5 : Option Value} {u e t0 : Addr} {rest : List Value} {Q : Value → Shared → Prop}
    (hC : h.get? C = some (excClassObj nm q C N bs bm hdct sn sub ab col dd k0 k1 k2 k3 k5 "ValueError.__new__")) (he : h.get? e = some (HandSPX.excO C t0)) (hu : h.get? u = some (PySem.W.kxs_mw "ValueError.__init__" e)) (hrest : rest.length ≤ sizeLine)
    (hq : ∀ h' t1, (∀ b o, b ≠ e → h.get? b = some o → h'.get? b = some o) → h'.get? e = some (HandSPX.excO C t1) → Q .none ⟨h', g, d, t, os⟩) :
    wpAny (model P w) A (call (.ref u) rest) Q E ⟨h, g, d, t, os⟩ := by
  refine wpAny_call (codeAny_of_tree ?_)
  show wpAny _ A.in1 (callAny (.ref u) ⟨rest, []⟩) _ _ _
  simp only [callAny]
  refine wpAny_bind (wpAny_load hu ?_)
  simp only [PySem.W.kxs_mw, show (Value.type "method-wrapper" == Value.type "method" || Value.type "method-wrapper" == Value.type "builtin_function_or_method" || Value.type "method-wrapper" == Value.type "method-wrapper") = true by decide, if_true]
  refine W.KFB.if_so (by decide) ?_
  refine wpAny_bind (PySem.W.check_bound_init F.excBase_ValueError.toExcCallFacts hC he rfl ?_)
  refine wpAny_bind (wpAny_pure (wpAny_pure ?_))
  refine ⟨Code.quiet_builtin _ (by decide +kernel), codeAny_builtin F.excBase_ValueError.initEntry ?_⟩
  rw [Around.under_plainId F.excBase_ValueError.init.plain _]
  wp_walk
  refine hq _ h.objs.size (fun b o hb ho => ?_) ?_
  · rw [Heap.get?_update_other _ _ (Ne.symm hb)]
    exact Heap.get?_push_of_some _ ho
  · rw [Heap.get?_update_self _ (Heap.get?_push_of_some _ he) rfl]
    rfl
/-- super().__init__("..") in an exception's __init__ -/
theorem sup_exc {b0 : List Stmt} {p0 p1 p2 p3 pos : Pos} {j : Nat} {msg : Str} {f cc D C a : Addr} {fd : FuncData} {self : Str} {E : Value → Shared → Prop} {Q : Value → Shared → Prop} {pl : Sem Bool} (T : SupK X.prog X.K f cc D X.env.code fd self) (TC : OexC X.K C) (I : Inv X pins σ H s)
    (hm : X.mg "super" = none) (hfu : X.env.func = some f) (hks : X.env.scope.names.lookup ("super" : Str) = some .globalImplicit) (hkc : X.env.scope.names.lookup ccl = some .free) (hcc : X.env.cells.lookup ccl = some cc)
    (hN : X.N[0]? = some self) (hv : Vis X.env.scope self) (hs : σ[0]? = some (some (.ref a))) (hsc : (self == ("__classdict__" : Str)) = false) (ha : H a = some (exo a C none)) (hsub : PySem.W.mroIn X.K C (.ref D) = some true)
    (hsi : PySem.W.ks_superIn X.K C D "__init__" = some (some (.builtin "ValueError.__init__"))) (hB : PySem.W.subIn X.K (.ref C) (.type "ValueError") = some true)
    (h : ∀ v s', Inv X pins σ H s' → Q v s')
    (he : eval (.Call (.Attribute (.Call (.Name "super" p0) [] [] p1) "__init__" p2) [.Constant (.str msg) j p3] [] pos) X.env = (do
      let ov ← attributeBase (.Call (.Name "super" p0) [] [] p1) "__init__" X.env (eval (.Call (.Name "super" p0) [] [] p1) X.env)
      standAt p2.atName
      let (f, first) ← holding [ov] (getMethod ov "__init__" pl)
      callWith pos f first (backTo pos (starEach [.Constant (.str msg) j p3] X.env)) []) := by rfl)
    (he2 : starEach [.Constant (.str msg) j p3] X.env = (false, eval (.Constant (.str msg) j p3) X.env) :: starEach [] X.env := by rfl) (hpl : (backTo pos (starEach [] X.env)).any (·.1) = false := by rfl) :
    PySem.wpAt (model X.prog X.w) X.A (.func b0 X.env) (eval (.Call (.Attribute (.Call (.Name "super" p0) [] [] p1) "__init__" p2) [.Constant (.str msg) j p3] [] pos) X.env) Q E s := by
  obtain ⟨t0, ho⟩ := exo_at I.hok ha
  obtain ⟨nm, q, N, bs, bm, sn, sub, ab, col, dd, k0, k1, k2, k3, k5, hC, hbm⟩ := TC.cls
  have J : PySem.W.InstAt s.heap a ({ cls := .ref C, dict := none, data := .fields #[.ref t0, .none, .none, .none, .bool false, .none] } : Obj) C none := ⟨ho, rfl, rfl, trivial⟩
  refine ks_wpAt_MethodCall (pl := pl) ?_ he
  refine sup_base T I hm hfu hks hkc hcc (by decide) hN hv hs hsc J hsub fun so h' eso k => ?_
  have KX' : X.K.In h' := fun b o e => k b o (I.kIn b o e)
  have J' : PySem.W.InstAt h' a ({ cls := .ref C, dict := none, data := .fields #[.ref t0, .none, .none, .none, .bool false, .none] } : Obj) C none := ⟨k _ _ ho, rfl, rfl, trivial⟩
  obtain ⟨hh, g, d, t, os⟩ := s
  have I1 : Inv X pins σ H ⟨h', g, d, t, os⟩ := I.kept (t' := t) k
  obtain ⟨cdC, hcl⟩ : ∃ cd, PySem.W.clsIn X.K C = some cd := by
    cases e : PySem.W.clsIn X.K C with
    | none =>
      unfold PySem.W.ks_superIn at hsi
      rw [e] at hsi
      cases hsi
    | some cd => exact ⟨cd, rfl⟩
  have hsi2 := hsi
  unfold PySem.W.ks_superIn at hsi2
  rw [hcl] at hsi2
  have hI : PySem.W.Looks (model X.prog X.w) h' (isInstance (.ref a) (.type "ValueError")) true := J'.type.andThen (PySem.W.looks_subIn KX' hB)
  refine PySem.W.kxs_getMethod PySem.W.kxs_ValueError eso (PySem.W.looks_opaque KX' T.opq) (l₀ := cdC.mro) (fun A Q E s k q => wpAny_bind ((PySem.W.looks_clsIn KX' hcl) A _ E s k (wpAny_pure q))) rfl KX' hsi2 hI (PySem.W.ks_ne KX' J' hcl) (by decide) ?_
  have kp : ∀ b o, h'.get? b = some o → (h'.push (PySem.W.kxs_mw "ValueError.__init__" a)).get? b = some o := fun b o e => Heap.get?_push_of_some _ e
  have I2 : Inv X pins σ H ⟨h'.push (PySem.W.kxs_mw "ValueError.__init__" a), g, d, t + 1, os⟩ := I1.kept (t' := t + 1) kp
  have hu : (h'.push (PySem.W.kxs_mw "ValueError.__init__" a)).get? h'.objs.size = some (PySem.W.kxs_mw "ValueError.__init__" a) := Heap.get?_push_at rfl rfl
  show wpAny _ _ (callWith pos (.ref h'.objs.size) [] (backTo pos (starEach [.Constant (.str msg) j p3] X.env)) []) _ _ _
  rw [he2]
  refine PySem.W.kxs_callWith (i := "ValueError.__init__") (x := a) (by show (false || (backTo pos (starEach [] X.env)).any (·.1)) = false; rw [hpl]; rfl) (Calls.evalArgs_plain ?_)
  refine Calls.spliced_cons (show wpAny _ _ (eval (.Constant (.str msg) j p3) X.env) _ _ _ from ?_)
  have I3 : Inv X pins σ H ⟨h'.push (PySem.W.kxs_mw "ValueError.__init__" a), g, d, t + 1 + 1, os⟩ := I2.tok _
  have body : ∀ v : Value, wpAny (model X.prog X.w) X.A (spliced (backTo pos (starEach [] X.env))) (fun vs s₁ => PySem.W.KxsAt "ValueError.__init__" h'.objs.size a s₁.heap ∧ wpAny (model X.prog X.w) X.A (call (.ref h'.objs.size) ([] ++ (v :: vs))) Q E s₁) E ⟨h'.push (PySem.W.kxs_mw "ValueError.__init__" a), g, d, t + 1 + 1, os⟩ := fun v => by
    refine Calls.spliced_nil ⟨hu, ?_⟩
    refine call_mwV (t0 := t0) (kp _ _ (k _ _ (I.kIn _ _ hC))) (kp _ _ (k _ _ ho)) hu (by simp; decide) fun h2 t1 k2 hx => ?_
    have J2 := I3.write (h' := h2) (t' := t + 1 + 1) (x := a) (e := a) (o := exo a C none) (by rw [ha]; exact True.intro) (.inl rfl) k2 ⟨_, hx⟩ (exo_ok hx)
    have eu : upd H a (exo a C none) = H := by
      funext b
      by_cases hb : b = a
      · rw [hb, upd_same, ha]
      · rw [upd_ne hb]
    rw [eu] at J2
    exact h _ _ J2
  exact wpAny_Constant_str (body _)
end
end Mi
/-! Mi25: exceptions with fields: their __init__, raise, try, e.f, isinstance. -/
namespace Mi
open L2 PySem PySem.Spec PyProof.Rows
/-! ### self.f = p, one after another -/
def tStores (K : PySem.W.Frag) : List (Str × Nat) → TS
  | [] => tNext
  | (f, i) :: r => tSeq (tOst K f (tVar 0) (tVar i)) (tStores K r)
inductive Sts (K : PySem.W.Frag) (C : Addr) (σ : L2.St) : List (Str × Nat) → List V → Prop
  | nil : Sts K C σ [] []
  | cons {f : Str} {i : Nat} {v : V} {r : List (Str × Nat)} {ws : List V} : PySem.W.findIn K (.ref C) f = some none → σ[i]? = some (some v) → Sts K C σ r ws → Sts K C σ ((f, i) :: r) (v :: ws)
section
variable {K : PySem.W.Frag} {C a : Addr} {σ : L2.St} {D : Ends}
theorem Sts.len : ∀ {r : List (Str × Nat)} {ws : List V}, Sts K C σ r ws → r.length = ws.length
  | _, _, .nil => rfl
  | _, _, .cons _ _ k => congrArg (· + 1) k.len
theorem stores_old (T : OexC K C) (hs : σ[0]? = some (some (.ref a))) {d : Addr} (hd : d ≠ a) : ∀ {r : List (Str × Nat)} {ws : List V} {H : Hp} {fs : List (Str × V)}, Sts K C σ r ws → H a = some (exo a C (some d)) → H d = some (exd d fs) → fs.length + r.length ≤ 900 →
    (∀ H', H' a = some (exo a C (some d)) → H' d = some (exd d (((r.map (·.1)).zip ws).reverse ++ fs)) → (∀ b, b ≠ d → H' b = H b) → D.nx σ H') → tStores K r D σ H
  | _, _, H, fs, .nil, ha, hdd, _, h => h H ha hdd fun _ _ => rfl
  | _, _, H, fs, .cons (f := f) (i := i) (v := v) (r := r) (ws := ws) h1 h2 k, ha, hdd, hl, h => by
    refine ⟨v, h2, .ref a, hs, a, C, rfl, T, h1, .inr ⟨d, fs, ha, hdd, by omega, ?_⟩⟩
    refine stores_old T hs hd (H := upd H d (exd d ((f, v) :: fs))) (fs := (f, v) :: fs) k (by rw [upd_ne (Ne.symm hd)]; exact ha) upd_same (by simp only [List.length_cons] at hl ⊢; omega) fun H' e1 e2 e3 => h H' e1 ?_ fun b hb => ?_
    · rw [e2]
      simp
    · rw [e3 b hb, upd_ne hb]
theorem stores_new (T : OexC K C) (hs : σ[0]? = some (some (.ref a))) {r : List (Str × Nat)} {ws : List V} {H : Hp} (k : Sts K C σ r ws) (hr : r ≠ []) (ha : H a = some (exo a C none)) (hl : r.length ≤ 900)
    (h : ∀ H' d, H d = none → d ≠ a → H' a = some (exo a C (some d)) → H' d = some (exd d ((r.map (·.1)).zip ws).reverse) → (∀ b, b ≠ a → b ≠ d → H' b = H b) → D.nx σ H') : tStores K r D σ H := by
  cases k with
  | nil => exact absurd rfl hr
  | @cons f i v r ws h1 h2 k =>
    refine ⟨v, h2, .ref a, hs, a, C, rfl, T, h1, .inl ⟨ha, fun d hn hd => ?_⟩⟩
    refine stores_old T hs hd (fs := [(f, v)]) k upd_same (by rw [upd_ne hd, upd_same]) (by simp only [List.length_cons, List.length_nil] at hl ⊢; omega) fun H' e1 e2 e3 => h H' d hn hd e1 ?_ fun b hb hb2 => ?_
    · rw [e2]
      simp
    · rw [e3 b hb2, upd_ne hb, upd_ne hb2]
end
/-! ### super().__init__("..") ahead of them -/
section
variable {X : Cx} {rest : List Stmt} {t : TS}
theorem psa_super {b0 : List Stmt} {p0 p1 p2 p3 pos pp : Pos} {j : Nat} {msg : Str} {f cc D C : Addr} {fd : FuncData} {self : Str} {pl : Sem Bool} (T : SupK X.prog X.K f cc D X.env.code fd self) (TC : OexC X.K C) (hr : PSs X rest t)
    (hm : X.mg "super" = none) (hfu : X.env.func = some f) (hks : X.env.scope.names.lookup ("super" : Str) = some .globalImplicit) (hkc : X.env.scope.names.lookup ccl = some .free) (hcc : X.env.cells.lookup ccl = some cc)
    (hN : X.N[0]? = some self) (hv : Vis X.env.scope self) (hsc : (self == ("__classdict__" : Str)) = false) (hsub : PySem.W.mroIn X.K C (.ref D) = some true)
    (hsi : PySem.W.ks_superIn X.K C D "__init__" = some (some (.builtin "ValueError.__init__"))) (hB : PySem.W.subIn X.K (.ref C) (.type "ValueError") = some true)
    (he : eval (.Call (.Attribute (.Call (.Name "super" p0) [] [] p1) "__init__" p2) [.Constant (.str msg) j p3] [] pos) X.env = (do
      let ov ← attributeBase (.Call (.Name "super" p0) [] [] p1) "__init__" X.env (eval (.Call (.Name "super" p0) [] [] p1) X.env)
      standAt p2.atName
      let (f, first) ← holding [ov] (getMethod ov "__init__" pl)
      callWith pos f first (backTo pos (starEach [.Constant (.str msg) j p3] X.env)) []) := by rfl)
    (he2 : starEach [.Constant (.str msg) j p3] X.env = (false, eval (.Constant (.str msg) j p3) X.env) :: starEach [] X.env := by rfl) (hpl : (backTo pos (starEach [] X.env)).any (·.1) = false := by rfl)
    (hi : interactive X.env = false := by rfl) (hs : swapsWith (.Call (.Attribute (.Call (.Name "super" p0) [] [] p1) "__init__" p2) [.Constant (.str msg) j p3] [] pos) none pp.line X.env = pure false := by rfl) :
    PSa X b0 (.Expr (.Call (.Attribute (.Call (.Name "super" p0) [] [] p1) "__init__" p2) [.Constant (.str msg) j p3] [] pos) pp :: rest) (fun Ds σ H => ∃ a, σ[0]? = some (some (.ref a)) ∧ H a = some (exo a C none) ∧ t Ds σ H) := by
  refine ⟨fun pins s σ H Ds I h => ?_⟩
  obtain ⟨a, h1, h2, h⟩ := h
  exact ks_wpAt_execs_cons (ks_wpAt_Expr_any (sup_exc T TC I hm hfu hks hkc hcc hN hv h1 hsc h2 hsub hsi hB (fun v s' I' => wpAt_of_wpAny (hr.run pins s' σ H Ds I' h)) he he2 hpl) hi hs)
end
/-! ### the promise of such an __init__ -/
def spX (C : Addr) (fs : List Str) : Sp := fun vs H Q E => ∃ a ws, vs = .ref a :: ws ∧ ws.length = fs.length ∧ H a = some (exo a C none) ∧
  ∀ H' d, H d = none → d ≠ a → H' a = some (exo a C (some d)) → H' d = some (exd d (fs.zip ws).reverse) → (∀ b, b ≠ a → b ≠ d → H' b = H b) → Q .non H'
/-- an own error with fields, as a call of its class -/
structure ErrX (P : Program) (w : World) (g : Gm) (mg : Str → Option Value) (base : Heap) (x : Str) (k n : Nat) : Prop where
  ex : ∃ i fI fd ps fs, g.ci x = some i ∧ mg x = some (.ref i.C) ∧ OexC g.K i.C ∧ PySem.W.findIn g.K (.ref i.C) "__init__" = some (some (.ref fI)) ∧ PySem.W.typeIn g.K (.ref fI) = some (.type "function") ∧
    FnOk P w g.K mg base (L2.CX P w) k fI fd ps (spX i.C fs) ∧ Binds g.K fd ps [] ∧ i.fs = fs.reverse ∧ fs.length = n ∧ n ≠ 0 ∧ n ≤ 100
def errX {β τ : Type} (x : Str) (n : Nat) (ds : List D) : Fl β τ := if (ds.all sc && decide (ds.length = n)) = true then .ex x ds.reverse else .no
theorem zip_rev {α β : Type} : ∀ {xs : List α} {ys : List β}, xs.length = ys.length → (xs.zip ys).reverse = xs.reverse.zip ys.reverse
  | [], [], _ => rfl
  | x :: xs, y :: ys, h => by
    have h' : xs.length = ys.length := Nat.succ.inj h
    rw [List.zip_cons_cons, List.reverse_cons, List.reverse_cons, List.reverse_cons, zip_rev h', List.zip_append (by simpa using h')]
    rfl
section
variable {X : Cx} {g : Gm} {b : Bs} {Γ : Ctx} {β τ υ : Type} {Γb : β → Ctx} {Γn : τ → Ctx} {rest body suite : List Stmt} {b₀ : Stmt} {e : Expr} {es : List Expr} {rs : Res (List D)}
/-- raise X(e, ..) -/
theorem b_raiseX {x : Str} {k j n : Nat} {p p3 pos : Pos} (T : ErrX X.prog X.w g X.mg X.base x k n) (hr : Room j X.A) (tk : Takes X b.W) (ha : PA X (e :: es) (tA g b Γ rs)) (hj : k + 1 ≤ j := by decide) (hc : X.calm = true := by rfl) (hg : Gl X x := by rfl) (hdb : (x == ("__debug__" : Str)) = false := by decide)
    (he : starEach (e :: es) X.env = (false, eval e X.env) :: starEach es X.env := by rfl) (hpl : (backTo p3 (starEach es X.env)).any (·.1) = false := by rfl) (hK : X.K = g.K := by rfl) :
    PSs X (.Raise (some (.Call (.Name x p) (e :: es) [] p3)) none pos :: rest) (tS g b Γb Γ (rs.bindF fun ds => (errX x n ds : Fl β τ)) Γn) := by
  obtain ⟨i, fI, fd, ps, fs, h1, h2, h3, h4, h5, h6, h7, h8, h9, h10, h11⟩ := T.ex
  rw [← hK] at h3 h4 h5 h6 h7
  have hx : Passes (L2.CX X.prog X.w) X (fun _ _ _ => False) := fun pins σ H s e s' I c => tk e s' (XE.of_call I (fun _ _ _ h => h.elim) c)
  refine PSs.imp (pss_cons (ps_raise hc tk (pmk_oex h3 h4 h5 h6 (hr.mono hj) h7 .nil hx hg h2 ha hdb he hpl)) pss_never) fun Ds σ H h => ?_
  obtain ⟨F, rf, h⟩ := h
  refine ⟨F, rf, ?_⟩
  cases rs with
  | no => exact h
  | ex c fs => exact fun cls od F' H' gr r1 ok => h cls od F' σ H' r1 ok
  | ok ds =>
    have h : EndS g b Γb Γn (errX x n ds : Fl β τ) Ds := h
    unfold errX at h
    split at h
    · rename_i q
      obtain ⟨q1, q2⟩ := Bool.and_eq_true_iff.mp q
      have q2 := of_decide_eq_true q2
      intro vs F1 H1 gr en
      have lv : vs.length = fs.length := by rw [en.len, q2, h9]
      refine ⟨by omega, fun a ha => ⟨a, vs, by rw [List.append_nil], lv, upd_same, fun H2 d hd hda e1 e2 e3 => ⟨rfl, d, _, e1, e2, ?_, ?_⟩⟩⟩
      · rw [upd_ne hda] at hd
        exact hd
      · rw [upd_ne hda] at hd
        have eH : upd (del H2 a) d (.xd (fs.zip vs).reverse) = upd H1 d (.xd (fs.zip vs).reverse) := by
          funext c
          by_cases hc : c = d
          · rw [hc, upd_same, upd_same]
          · rw [upd_ne hc, upd_ne hc]
            by_cases hca : c = a
            · rw [hca, del_same, ha]
            · rw [del_ne hca, e3 c hca hc, upd_ne hca]
        rw [eH]
        have gr2 : Grow F1 H1 (upd F1 d (.xd (fs.zip vs).reverse)) (upd H1 d (.xd (fs.zip vs).reverse)) := Grow.alloc gr.fh hd
        refine h _ _ _ _ _ (rf.grow (gr.trans gr2)).cx ⟨i, h1, rfl, fun z => ?_, fun z => ⟨d, vs.reverse, rfl, ?_, (EncL.mono gr2.ff en).reverse, by rw [h8, List.length_reverse, List.length_reverse, h9, q2], by simpa using q1⟩⟩
        · have : ds.reverse.length = 0 := by rw [z]; rfl
          rw [List.length_reverse, q2] at this
          exact absurd this h10
        · rw [upd_same, h8, zip_rev lv.symm]
    · exact h.elim
/-! ### try .. except X as e, e with its fields -/
abbrev Bs.held (b : Bs) (F0 : Hp) : Bs := { b with F0 := F0, W := fun _ _ _ _ => False }
def HeldX (g : Gm) (F0 : Hp) (i : CI) (fs : List D) (od : Option Addr) : Prop := (fs = [] ∧ od = none) ∨ ∃ dd vs, od = some dd ∧ F0 dd = some (.xd (i.fs.zip vs)) ∧ EncL g F0 vs fs ∧ i.fs.length = fs.length
structure HeldF (b : Bs) (F0 : Hp) : Prop where
  sub : Sub b.F0 F0
  new : ∀ a, b.H0 a ≠ none → b.F0 a = none → F0 a = none
theorem HeldF.grow {F0 F H : Hp} (h : HeldF b F0) (gr : Grow F0 b.H0 F H) : Grow b.F0 b.H0 F H := ⟨h.sub.trans gr.ff, gr.fh, gr.hh, fun a h1 h2 => gr.new a h1 (h.new a h1 h2)⟩
theorem Rf.unheld {F0 F H : Hp} {σ : L2.St} (h : HeldF b F0) (r : Rf g (b.held F0) Γ F σ H) : Rf g b Γ F σ H := ⟨h.grow r.gr, r.le, r.at_, r.sep⟩
/-- an error is there: its fields are put into the view -/
theorem held_of {F H : Hp} {σ : L2.St} {c : Str} {fs : List D} {cls : Value} {od : Option Addr} {i : CI} (r : Rf g b Γ F σ H) (ok : ExOk g c fs cls od F) (hi : g.ci c = some i) : ∃ F0, HeldF b F0 ∧ HeldX g F0 i fs od ∧ Rf g (b.held F0) Γ F σ H := by
  obtain ⟨i2, k1, k2, k3, k4⟩ := ok
  obtain rfl : i = i2 := Option.some.inj (hi.symm.trans k1)
  by_cases z : fs = []
  · exact ⟨b.F0, ⟨Sub.refl _, fun _ _ z => z⟩, .inl ⟨z, k3 z⟩, ⟨r.gr, r.le, r.at_, r.sep⟩⟩
  · obtain ⟨dd, vs, e1, e2, e3, e4, e5⟩ := k4 z
    have sub : Sub b.F0 (upd b.F0 dd (.xd (i.fs.zip vs))) := fun a o h => by
      by_cases q : a = dd
      · subst q
        have := r.gr.ff _ _ h
        rw [e2] at this
        rw [upd_same]
        exact this
      · rw [upd_ne q]
        exact h
    refine ⟨upd b.F0 dd (.xd (i.fs.zip vs)), ⟨sub, fun a h1 h2 => ?_⟩, .inr ⟨dd, vs, e1, upd_same, e3.scal e5, e4⟩, ⟨⟨fun a o (h : upd b.F0 dd (.xd (i.fs.zip vs)) a = some o) => ?_, r.gr.fh, r.gr.hh, fun a h1 (h2 : upd b.F0 dd (.xd (i.fs.zip vs)) a = none) => ?_⟩, r.le, r.at_, r.sep⟩⟩
    · by_cases q : a = dd
      · subst q
        have := r.gr.new _ h1 h2
        rw [e2] at this
        cases this
      · rw [upd_ne q]
        exact h2
    · by_cases q : a = dd
      · subst q
        rw [upd_same] at h
        rw [e2]
        exact h
      · rw [upd_ne q] at h
        exact r.gr.ff _ _ h
    · by_cases q : a = dd
      · subst q
        rw [upd_same] at h2
        cases h2
      · rw [upd_ne q] at h2
        exact r.gr.new _ h1 h2
def tryX {β τ : Type} (ob : Fl β τ) (ks : List (Str × Bool)) (oh : Str → List D → Fl β τ) : Fl β τ := match ob with
  | .ex c fs => (match ks.lookup c with
    | some true => (oh c fs).noEx
    | some false => .ex c fs
    | none => .no)
  | o => o
theorem b_tryX2 {x n : Str} {i : Nat} {ks : List (Str × Bool)} {cx cx' : Ctx} {Γ1 : υ → Ctx} {ob : Fl β υ} {oh : Str → List D → Fl β υ} {k : υ → Fl β τ} {np pos' pos : Pos} (T : CatchT g X.mg x ks) (tk : Takes X b.W)
    (hbody : ∀ (W : WX) (pn : List (Addr × Obj)) (xe : Value → Shared → Prop), Takes (X.tr pn xe) W → PassesOwn (model X.prog X.w) X.A X.env xe → PSs (X.tr pn xe) body (tSx g (b.wish cx W) cx' Γb Γ ob Γ1))
    (hsuite : ∀ (a : Addr) (oe : Obj) (pn : List (Addr × Obj)) (c : Str) (ci : CI) (fs : List D) (od : Option Addr) (F0 : Hp), g.ci c = some ci → ks.lookup c = some true → Zc (.ref ci.C) od oe → (∃ vs, oe.data = .fields vs) → HeldX g F0 ci fs od → PSs (X.suite a ((a, oe) :: pn)) (b₀ :: suite) (tS g (b.held F0) Γb (cx.set i (some (.x a))) (oh c fs) Γ1))
    (hrest : ∀ t, PSs X rest (tS g b Γb (Γ1 t) (k t) Γn)) (hN : X.N.Nodup)
    (hl : Le cx Γ := by repeat (first | exact Le.nil | apply Le.same | apply Le.none)) (hl2 : Le b.cx cx := by repeat (first | exact Le.nil | apply Le.same | apply Le.none)) (hl3 : Le b.cx cx' := by repeat (first | exact Le.nil | apply Le.same | apply Le.none))
    (h1 : ∀ t, ((Γ1 t)[i]?).join = none := by intro _; rfl) (h2 : ∀ t, ((Γb t)[i]?).join = none := by first | (intro t; exact t.elim) | (intro _; rfl)) (hcx : (cx[i]?).join = none := by rfl) (hbx : (b.cx[i]?).join = none := by rfl)
    (hlb : ∀ t, Le b.cx (Γb t) := by first | (intro t; exact t.elim) | (intro _; repeat (first | exact Le.nil | apply Le.same | apply Le.none)))
    (hs : X.stack = X.env :: X.outer := by rfl) (hf : X.env.frame = some X.env.locals := by rfl) (hi : X.N[i]? = some n := by rfl) (hln : X.env.kindOf n = some .local := by rfl) (hg : Gl X x := by rfl) (hd : (x == ("__debug__" : Str)) = false := by decide) (hK : X.K = g.K := by rfl) :
    PSs X (.Try body [.ExceptHandler (some (.Name x np)) (some n) (b₀ :: suite) pos'] [] [] pos :: rest) (tS g b Γb Γ ((tryX ob ks oh).bind k) Γn) := by
  obtain ⟨cv, hcv, hks⟩ := T.ex
  let ts : Addr → Value → Option Addr → TS := fun a cls d Ds σ H => σ.length = X.N.length → ∃ c, ∃ ci : CI, ∃ fs : List D, ∃ F0 : Hp, ∃ _ : g.ci c = some ci ∧ ks.lookup c = some true ∧ cls = .ref ci.C ∧ HeldX g F0 ci fs d, tS g (b.held F0) Γb (cx.set i (some (.x a))) (oh c fs) Γ1 Ds σ H
  refine PSs.impI (pss_cons (ps_try_as (Wout := b.W) (ts := ts) (tb := fun W => tSx g (b.wish cx W) cx' Γb Γ ob Γ1) hs hf hN hi hln ⟨hg, hd, hcv⟩ tk hbody fun a oe cls d pn hz hv => PSs.impI (PSs.ex fun c => PSs.ex fun ci => PSs.ex fun fs => PSs.ex fun F0 => PSs.ex fun e => ?_) fun D σ H hl q => q hl) (PSs.ex fun t => hrest t)) fun Ds σ H hσ h => ?_
  · obtain ⟨e1, e2, e3, e4⟩ := e
    subst e3
    exact hsuite a oe pn c ci fs d F0 e1 e2 hz hv e4
  obtain ⟨F, rf, h⟩ := h
  have back : ∀ {t : υ} {F' : Hp} {σ' : L2.St} {H' : Hp} {cx2 : Ctx} {W2 : WX}, EndS g b Γb Γn (k t) Ds → Le b.cx cx2 → Rf g (b.wish cx2 W2) (Γ1 t) F' σ' H' → ∃ t, tS g b Γb (Γ1 t) (k t) Γn Ds σ' H' := fun {t} {F'} {σ'} {H'} {cx2} {W2} e l r => ⟨t, F', r.unwish (l.trans r.le), e⟩
  refine ⟨F, rf.wish hl, ?_⟩
  cases q : ob with
  | nx t =>
    rw [q] at h
    exact fun F' σ' H' r => back h hl3 r
  | rt d =>
    rw [q] at h
    exact fun v F' H' gr en => h v F' H' gr en
  | bk t =>
    rw [q] at h
    exact fun F' σ' H' r => h F' σ' H' (r.unwish (hlb t))
  | ct t =>
    rw [q] at h
    exact fun F' σ' H' r => h F' σ' H' (r.unwish (hlb t))
  | no =>
    rw [q] at h
    exact h
  | ex c fs =>
    rw [q] at h
    intro cls od F' σ' H' r ok
    obtain ⟨ci, e1, e2, e3, e4⟩ := id ok
    subst e2
    have h : EndS g b Γb Γn ((match ks.lookup c with
      | some true => (oh c fs).noEx
      | some false => (.ex c fs : Fl β υ)
      | none => .no).bind k) Ds := h
    cases q2 : ks.lookup c with
    | none =>
      rw [q2] at h
      exact h.elim
    | some bb =>
      rw [q2] at h
      refine ⟨bb, by rw [hK]; exact hks c bb q2 ci e1, fun e a ha => ?_, fun e => ?_⟩
      · subst e
        refine fun hlen => ?_
        rw [List.length_set] at hlen
        have r2 : Rf g b (cx.set i (some (.x a))) F' (σ'.set i (some (.ref a))) H' := Rf.setx (r.unwish hl2) hbx (by rw [hlen]; exact (List.getElem?_eq_some_iff.mp hi).1)
        obtain ⟨F0, hF, hX, r3⟩ := held_of r2 ok e1
        refine ⟨c, ci, fs, F0, ⟨e1, q2, rfl, hX⟩, F', r3, ?_⟩
        have h : EndS g b Γb Γn ((oh c fs).noEx.bind k) Ds := h
        cases q3 : oh c fs with
        | nx t =>
          rw [q3] at h
          exact fun F2 σ2 H2 r2 => back (cx2 := b.cx) (W2 := b.W) h (Le.refl _) ((Rf.unheld hF r2).other (h1 t))
        | rt d =>
          rw [q3] at h
          exact fun v F2 H2 gr en => h v F2 H2 (hF.grow gr) en
        | bk t =>
          rw [q3] at h
          exact fun F2 σ2 H2 r2 => h F2 _ H2 ((Rf.unheld hF r2).other (h2 t))
        | ct t =>
          rw [q3] at h
          exact fun F2 σ2 H2 r2 => h F2 _ H2 ((Rf.unheld hF r2).other (h2 t))
        | ex c2 fs2 =>
          rw [q3] at h
          exact h.elim
        | no =>
          rw [q3] at h
          exact h.elim
      · subst e
        exact h (.ref ci.C) od F' σ' H' (r.unwish hl2).cx ok
theorem b_tryX {x n : Str} {i : Nat} {ks : List (Str × Bool)} {cx : Ctx} {Γ1 : υ → Ctx} {ob : Fl β υ} {oh : Str → List D → Fl β υ} {k : υ → Fl β τ} {np pos' pos : Pos} (T : CatchT g X.mg x ks) (tk : Takes X b.W)
    (hbody : ∀ (W : WX) (pn : List (Addr × Obj)) (xe : Value → Shared → Prop), Takes (X.tr pn xe) W → PassesOwn (model X.prog X.w) X.A X.env xe → PSs (X.tr pn xe) body (tS g (b.wish cx W) Γb Γ ob Γ1))
    (hsuite : ∀ (a : Addr) (oe : Obj) (pn : List (Addr × Obj)) (c : Str) (ci : CI) (fs : List D) (od : Option Addr) (F0 : Hp), g.ci c = some ci → ks.lookup c = some true → Zc (.ref ci.C) od oe → (∃ vs, oe.data = .fields vs) → HeldX g F0 ci fs od → PSs (X.suite a ((a, oe) :: pn)) (b₀ :: suite) (tS g (b.held F0) Γb (cx.set i (some (.x a))) (oh c fs) Γ1))
    (hrest : ∀ t, PSs X rest (tS g b Γb (Γ1 t) (k t) Γn)) (hN : X.N.Nodup)
    (hl : Le cx Γ := by repeat (first | exact Le.nil | apply Le.same | apply Le.none)) (hl2 : Le b.cx cx := by repeat (first | exact Le.nil | apply Le.same | apply Le.none))
    (h1 : ∀ t, ((Γ1 t)[i]?).join = none := by intro _; rfl) (h2 : ∀ t, ((Γb t)[i]?).join = none := by first | (intro t; exact t.elim) | (intro _; rfl)) (hcx : (cx[i]?).join = none := by rfl) (hbx : (b.cx[i]?).join = none := by rfl)
    (hlb : ∀ t, Le b.cx (Γb t) := by first | (intro t; exact t.elim) | (intro _; repeat (first | exact Le.nil | apply Le.same | apply Le.none)))
    (hs : X.stack = X.env :: X.outer := by rfl) (hf : X.env.frame = some X.env.locals := by rfl) (hi : X.N[i]? = some n := by rfl) (hln : X.env.kindOf n = some .local := by rfl) (hg : Gl X x := by rfl) (hd : (x == ("__debug__" : Str)) = false := by decide) (hK : X.K = g.K := by rfl) :
    PSs X (.Try body [.ExceptHandler (some (.Name x np)) (some n) (b₀ :: suite) pos'] [] [] pos :: rest) (tS g b Γb Γ ((tryX ob ks oh).bind k) Γn) :=
  b_tryX2 T tk (fun W pn xe h3 h4 => PSs.imp (hbody W pn xe h3 h4) fun Ds σ H h => by
    obtain ⟨F, rf, h⟩ := h
    refine ⟨F, rf, ?_⟩
    cases ob <;> exact h) hsuite hrest hN hl hl2 hl2 h1 h2 hcx hbx hlb hs hf hi hln hg hd hK
/-! ### e.f -/
structure XfT (g : Gm) (tab : List (Str × List Str)) : Prop where
  ex : ∀ c ns, tab.lookup c = some ns → ∀ i, g.ci c = some i → i.fs = ns ∧ XfC g.K i.C ∧ ∀ f ∈ ns, PySem.W.findIn g.K (.ref i.C) f = some none
def xfR (tab : List (Str × List Str)) (c : Str) (fs : List D) (f : Str) : Res D := match tab.lookup c with
  | some ns => ofO ((ns.zip fs).lookup f)
  | none => .no
theorem look_zip {F : Hp} {f : Str} {d : D} : ∀ {ns : List Str} {vs : List V} {fs : List D}, EncL g F vs fs → (ns.zip fs).lookup f = some d → f ∈ ns ∧ ∃ v, (ns.zip vs).lookup f = some v ∧ Enc g F v d
  | [], _, _, _, h => by simp at h
  | _ :: _, _, _, .nil, h => by simp at h
  | m :: ns, _, _, .cons (v := v) (vs := vs) (d := d1) (ds := ds) e k, h => by
    rw [List.zip_cons_cons, List.lookup_cons] at h
    rw [List.zip_cons_cons, List.lookup_cons]
    split at h
    · rename_i q
      cases h
      exact ⟨by rw [eq_of_beq q]; exact List.mem_cons_self, v, rfl, e⟩
    · rename_i q
      obtain ⟨h1, w, h2, h3⟩ := look_zip k h
      exact ⟨List.mem_cons_of_mem _ h1, w, h2, h3⟩
theorem e_xfT {n f : Str} {i : Nat} {tab : List (Str × List Str)} {a : Addr} {oe : Obj} {pn : List (Addr × Obj)} {c : Str} {ci : CI} {fs : List D} {od : Option Addr} {F0 : Hp} {p pos : Pos} (T : XfT g tab) (hci : g.ci c = some ci) (hz : Zc (.ref ci.C) od oe) (hf : ∃ vs, oe.data = .fields vs) (hX : HeldX g F0 ci fs od)
    (hΓ : Γ[i]? = some (some (.x a)) := by rfl) (hN : X.N[i]? = some n := by rfl) (hv : Vis X.env.scope n := by first | exact Or.inl rfl | exact Or.inr (Or.inl rfl) | exact Or.inr (Or.inr rfl)) (hd : (n == ("__debug__" : Str)) = false := by decide) (hcd : (n == ("__classdict__" : Str)) = false := by decide)
    (hb : attributeBase (.Name n p) f X.env (eval (.Name n p) X.env) = eval (.Name n p) X.env := by rfl) (hK : X.K = g.K := by rfl) :
    PE (X.suite a ((a, oe) :: pn)) (.Attribute (.Name n p) f pos) (tE g (b.held F0) Γ (xfR tab c fs f)) := by
  unfold xfR
  cases q : tab.lookup c with
  | none => exact pe_noR
  | some ns =>
    obtain ⟨t1, t2, t3⟩ := T.ex c ns q ci hci
    show PE _ _ (tE g (b.held F0) Γ (ofO ((ns.zip fs).lookup f)))
    cases q2 : (ns.zip fs).lookup f with
    | none => exact pe_noR
    | some d =>
      rcases hX with ⟨h, _⟩ | ⟨dd, vs, h1, h2, h3, h4⟩
      · rw [h, List.zip_nil_right] at q2
        cases q2
      · obtain ⟨k1, v, k2, k3⟩ := look_zip h3 q2
        rw [← hK] at t2
        refine PE.imp (pe_xf t2 (by rw [hK]; exact t3 f k1) hz hf (pe_exc (X := X.suite a ((a, oe) :: pn)) (g := g) (b := b.held F0) hΓ hN hv hd hcd) hb) fun σ H Q q => ?_
        obtain ⟨F, rf, p⟩ := q
        have e2 := rf.gr.ff _ _ h2
        exact ⟨F, rf, rfl, rfl, dd, _, v, h1, rf.gr.fh _ _ e2, by rw [t1]; exact k2, p v F H (Grow.refl rf.gr.fh) (Enc.mono rf.gr.ff k3)⟩
/-! ### isinstance of such an error -/
def DicAt (od : Option Addr) (H : Hp) : Prop := ∀ dd, od = some dd → ∃ fs, H dd = some (.xd fs)
theorem HeldX.dic {F0 F H : Hp} {σ : L2.St} {ci : CI} {fs : List D} {od : Option Addr} (h : HeldX g F0 ci fs od) (rf : Rf g (b.held F0) Γ F σ H) : DicAt od H := fun dd e => by
  rcases h with ⟨_, h⟩ | ⟨d2, vs, h1, h2, _, _⟩
  · rw [h] at e
    cases e
  · rw [h1] at e
    cases e
    exact ⟨_, rf.gr.fh _ _ (rf.gr.ff _ _ h2)⟩
theorem inst_od {pins : List (Addr × Obj)} {s : Shared} {σ : L2.St} {H : Hp} {a D : Addr} {oe : Obj} {od : Option Addr} (hok : HOk X.prog X.w H s.heap) (hz : Zc (.ref D) od oe) (hf : ∃ vs, oe.data = .fields vs) (hd : DicAt od H) (hget : s.heap.get? a = some oe) : ∃ o, PySem.W.InstAt s.heap a oe D o := by
  obtain ⟨vs, hv⟩ := hf
  obtain ⟨oc, od1, oda, osl⟩ := oe
  obtain ⟨h1, h2⟩ := hz
  dsimp only at h1 h2 hv
  subst h1 h2 hv
  cases od1 with
  | none => exact ⟨none, hget, rfl, rfl, trivial⟩
  | some dd =>
    obtain ⟨fs, e⟩ := hd dd rfl
    have hx : ObjOk X.prog X.w H s.heap dd (.xd fs) := hok dd _ e
    obtain ⟨mA, ⟨o, es, ep, ho, _⟩, _⟩ := hx
    exact ⟨some o, hget, rfl, rfl, ho⟩
def rIsX (K : PySem.W.Frag) (D a : Addr) (od : Option Addr) : List V → Hp → VK → Prop := fun xs H Q => DicAt od H ∧ rIsE K D a xs H Q
def rIsXT (K : PySem.W.Frag) (D a : Addr) (od : Option Addr) : List V → Hp → VK → Prop := fun xs H Q => DicAt od H ∧ rIsET K D a xs H Q
theorem call_isX {a D : Addr} {oe : Obj} {od : Option Addr} {pn : List (Addr × Obj)} (C : ExcC X.K D) (hz : Zc (.ref D) od oe) (hf : ∃ vs, oe.data = .fields vs) : CallR (X.suite a ((a, oe) :: pn)) (.builtin "isinstance") (rIsX X.K D a od) := by
  intro pins s σ H xs us Q I r h
  obtain ⟨hd, c, cv, b, rfl, hcv, e, q⟩ := h
  cases r with
  | cons rx rr =>
    cases rr with
    | cons rt rr =>
      cases rr
      cases rx
      have ec := hcv _ rt
      subst ec
      obtain ⟨hget, _⟩ := I.pin (a, oe) (List.mem_append.mpr (.inl List.mem_cons_self))
      obtain ⟨o, J⟩ := inst_od (X := X) (pins := pins) (σ := σ) I.hok hz hf hd hget
      have hcl : (PySem.W.clsIn X.K D).isSome = true := by
        obtain ⟨cd, hc, _⟩ := PySem.W.any_some C.hd
        rw [hc]
        rfl
      exact PySem.W.kia_one (PySem.W.kitx_exc hcl C.hg C.hk C.hs C.ha C.hn C.ht C.hm) I.kIn J e (fun z => nomatch z) fun tk => ⟨.bl b, H, I.kept (t' := tk) fun _ _ z => z, rfl, q⟩
theorem call_isXT {a D : Addr} {oe : Obj} {od : Option Addr} {pn : List (Addr × Obj)} (C : ExcC X.K D) (hz : Zc (.ref D) od oe) (hf : ∃ vs, oe.data = .fields vs) : CallR (X.suite a ((a, oe) :: pn)) (.builtin "isinstance") (rIsXT X.K D a od) := by
  intro pins s σ H xs us Q I r h
  obtain ⟨hd, tp, cs, ws, k, rfl, hT, hcv, e, q⟩ := h
  cases r with
  | cons rx rr =>
    cases rr with
    | cons rt rr =>
      cases rr
      cases rx
      rename_i u2
      cases (show u2 = Value.ref tp from rt)
      obtain ⟨hget, _⟩ := I.pin (a, oe) (List.mem_append.mpr (.inl List.mem_cons_self))
      obtain ⟨o0, J⟩ := inst_od (X := X) (pins := pins) (σ := σ) I.hok hz hf hd hget
      have hcl : (PySem.W.clsIn X.K D).isSome = true := by
        obtain ⟨cd, hc, _⟩ := PySem.W.any_some C.hd
        rw [hc]
        rfl
      obtain ⟨_, its, rv, o, h1, h2, n, h3⟩ := (show ObjOk _ _ H s.heap tp (.tup cs) from I.hok tp _ hT)
      have e3 := ClsV.all hcv rv
      subst e3
      obtain ⟨oc, od, dt, sl⟩ := o
      simp only at h2 h3
      subst h2 h3
      exact PySem.W.kia_tup (PySem.W.kitx_exc hcl C.hg C.hk C.hs C.ha C.hn C.ht C.hm) I.kIn J h1 e (fun z => nomatch z) fun tk => ⟨.bl k, H, I.kept (t' := tk) fun _ _ z => z, rfl, q⟩
end
end Mi
/-! Mi26: exceptions with fields: isinstance as a rule; the facts of the top. -/
namespace Mi
open L2 PySem PySem.Spec PyProof.Rows
section
variable {X : Cx} {g : Gm} {b : Bs} {Γ : Ctx}
theorem t_isXH {x n : Str} {i : Nat} {ks : List (Str × Bool)} {a : Addr} {oe : Obj} {pn : List (Addr × Obj)} {c : Str} {ci : CI} {fs : List D} {od : Option Addr} {F0 : Hp} {p p1 p2 pos : Pos} (T : KitT g X.mg x ks) (hci : g.ci c = some ci) (hz : Zc (.ref ci.C) od oe) (hf : ∃ vs, oe.data = .fields vs) (hX : HeldX g F0 ci fs od) (hm : X.mg "isinstance" = none)
    (hΓ : Γ[i]? = some (some (.x a)) := by rfl) (hN : X.N[i]? = some n := by rfl) (hv : Vis X.env.scope n := by first | exact Or.inl rfl | exact Or.inr (Or.inl rfl) | exact Or.inr (Or.inr rfl)) (hd : (n == ("__debug__" : Str)) = false := by decide) (hcd : (n == ("__classdict__" : Str)) = false := by decide)
    (hgT : Gl X x := by rfl) (hdx : (x == ("__debug__" : Str)) = false := by decide) (hg : Gl X "isinstance" := by rfl) (hvi : bootBuiltins "isinstance" = some (.builtin "isinstance") := by decide +kernel)
    (he : starEach [.Name n p1, .Name x p2] X.env = (false, eval (.Name n p1) X.env) :: starEach [.Name x p2] X.env := by rfl) (he2 : starEach [.Name x p2] X.env = (false, eval (.Name x p2) X.env) :: starEach [] X.env := by rfl)
    (hpl : (backTo pos (starEach [.Name x p2] X.env)).any (·.1) = false := by rfl) (hw : ∀ whole, isTrue (.Call (.Name "isinstance" p) [.Name n p1, .Name x p2] [] pos) X.env whole = (do let v ← whole; standAt pos; holding [v] (truthy v)) := by intro _; rfl) (hK : X.K = g.K := by rfl) :
    PT (X.suite a ((a, oe) :: pn)) (.Call (.Name "isinstance" p) [.Name n p1, .Name x p2] [] pos) (tT g (b.held F0) Γ (isXB ks c)) := by
  unfold isXB
  cases hk : ks.lookup c with
  | none => exact pt_noR
  | some kb =>
    obtain ⟨cv, cl, hcv, hcl, hks⟩ := T.ex
    obtain ⟨k1, k2⟩ := hks c kb hk ci hci
    rw [← hK] at k1 k2
    refine PT.imp (pt_val (pe_callB (X := X.suite a ((a, oe) :: pn)) (call_isX (od := od) k2 hz hf) hg hm hvi (pa_cons (pe_exc (X := X.suite a ((a, oe) :: pn)) (g := g) (b := b.held F0) hΓ hN hv hd hcd) (pa_cons (pe_clsName (X := X.suite a ((a, oe) :: pn)) hcv hcl hgT hdx) pa_nil he2) he) (by decide) (by decide) he hpl) hw) fun σ H Q q => ?_
    obtain ⟨F, rf, q⟩ := q
    exact ⟨F, rf, ⟨hX.dic rf, _, cv, kb, rfl, fun u r => hcl.eq r, k1, kb, rfl, q F H (Grow.refl rf.gr.fh)⟩⟩
theorem e_isXH {x n : Str} {i : Nat} {ks : List (Str × Bool)} {a : Addr} {oe : Obj} {pn : List (Addr × Obj)} {c : Str} {ci : CI} {fs : List D} {od : Option Addr} {F0 : Hp} {p p1 p2 pos : Pos} (T : KitT g X.mg x ks) (hci : g.ci c = some ci) (hz : Zc (.ref ci.C) od oe) (hf : ∃ vs, oe.data = .fields vs) (hX : HeldX g F0 ci fs od) (hm : X.mg "isinstance" = none)
    (hΓ : Γ[i]? = some (some (.x a)) := by rfl) (hN : X.N[i]? = some n := by rfl) (hv : Vis X.env.scope n := by first | exact Or.inl rfl | exact Or.inr (Or.inl rfl) | exact Or.inr (Or.inr rfl)) (hd : (n == ("__debug__" : Str)) = false := by decide) (hcd : (n == ("__classdict__" : Str)) = false := by decide)
    (hgT : Gl X x := by rfl) (hdx : (x == ("__debug__" : Str)) = false := by decide) (hg : Gl X "isinstance" := by rfl) (hvi : bootBuiltins "isinstance" = some (.builtin "isinstance") := by decide +kernel)
    (he : starEach [.Name n p1, .Name x p2] X.env = (false, eval (.Name n p1) X.env) :: starEach [.Name x p2] X.env := by rfl) (he2 : starEach [.Name x p2] X.env = (false, eval (.Name x p2) X.env) :: starEach [] X.env := by rfl)
    (hpl : (backTo pos (starEach [.Name x p2] X.env)).any (·.1) = false := by rfl) (hK : X.K = g.K := by rfl) :
    PE (X.suite a ((a, oe) :: pn)) (.Call (.Name "isinstance" p) [.Name n p1, .Name x p2] [] pos) (tE g (b.held F0) Γ (isXR ks c)) := by
  unfold isXR isXB
  cases hk : ks.lookup c with
  | none => exact pe_noR
  | some kb =>
    obtain ⟨cv, cl, hcv, hcl, hks⟩ := T.ex
    obtain ⟨k1, k2⟩ := hks c kb hk ci hci
    rw [← hK] at k1 k2
    refine PE.imp (pe_callB (X := X.suite a ((a, oe) :: pn)) (call_isX (od := od) k2 hz hf) hg hm hvi (pa_cons (pe_exc (X := X.suite a ((a, oe) :: pn)) (g := g) (b := b.held F0) hΓ hN hv hd hcd) (pa_cons (pe_clsName (X := X.suite a ((a, oe) :: pn)) hcv hcl hgT hdx) pa_nil he2) he) (by decide) (by decide) he hpl) fun σ H Q q => ?_
    obtain ⟨F, q⟩ := q
    have dc := hX.dic q.1
    exact ⟨F, q.1, ⟨dc, _, cv, kb, rfl, fun u r => hcl.eq r, k1, q.2 _ F H (Grow.refl q.1.gr.fh) (.bl kb)⟩⟩
theorem e_isXsH {n : Str} {i k4 : Nat} {es : List Expr} {kss : List (List (Str × Bool))} {a : Addr} {oe : Obj} {pn : List (Addr × Obj)} {c : Str} {ci : CI} {fs : List D} {od : Option Addr} {F0 : Hp} {p p1 p4 pos : Pos} (T : KitTs (X.suite a ((a, oe) :: pn)) g es kss) (hci : g.ci c = some ci) (hz : Zc (.ref ci.C) od oe) (hf : ∃ vs, oe.data = .fields vs) (hX : HeldX g F0 ci fs od) (hm : X.mg "isinstance" = none) (ne : kss ≠ [] := by exact List.cons_ne_nil _ _) (hl : kss.length ≤ 1000 := by decide)
    (hΓ : Γ[i]? = some (some (.x a)) := by rfl) (hN : X.N[i]? = some n := by rfl) (hv : Vis X.env.scope n := by first | exact Or.inl rfl | exact Or.inr (Or.inl rfl) | exact Or.inr (Or.inr rfl)) (hd : (n == ("__debug__" : Str)) = false := by decide) (hcd : (n == ("__classdict__" : Str)) = false := by decide)
    (hg : Gl X "isinstance" := by rfl) (hvi : bootBuiltins "isinstance" = some (.builtin "isinstance") := by decide +kernel)
    (he : starEach [.Name n p1, .Tuple es k4 p4] X.env = (false, eval (.Name n p1) X.env) :: starEach [.Tuple es k4 p4] X.env := by rfl) (he2 : starEach [.Tuple es k4 p4] X.env = (false, eval (.Tuple es k4 p4) X.env) :: starEach [] X.env := by rfl)
    (hpl : (backTo pos (starEach [.Tuple es k4 p4] X.env)).any (·.1) = false := by rfl) (hK : X.K = g.K := by rfl) :
    PE (X.suite a ((a, oe) :: pn)) (.Call (.Name "isinstance" p) [.Name n p1, .Tuple es k4 p4] [] pos) (tE g (b.held F0) Γ (isXAR kss c)) := by
  unfold isXAR
  cases q : isXA kss c with
  | none => exact pe_noR
  | some k =>
    have kc := T.exc ne hci q
    obtain ⟨cs, us, h1, h2, h3, h4⟩ := T.run
    have k1 := h4 c ci hci k q
    rw [← hK] at k1 kc
    refine PE.imp (pe_callB (X := X.suite a ((a, oe) :: pn)) (call_isXT (od := od) kc hz hf) hg hm hvi (pa_cons (pe_exc (X := X.suite a ((a, oe) :: pn)) (g := g) (b := b.held F0) hΓ hN hv hd hcd) (pa_cons (pe_tup h3) pa_nil he2) he) (by decide) (by decide) he hpl) fun σ H Q q => ?_
    obtain ⟨F, q⟩ := q
    have dc := hX.dic q.1
    refine ⟨F, q.1, tCs_run (Q := fun xs H1 => xs.length ≤ sizeLine ∧ _) ⟨cap_line (by rw [h2]; unfold cap; omega), fun tp hp => ?_⟩⟩
    refine ⟨fun dd e => ?_, tp, cs, us, k, rfl, upd_same, h1, k1, q.2 _ F _ ⟨Sub.refl _, q.1.gr.fh.trans (Sub.new hp), Sub.new hp, fun _ _ z => z⟩ (.bl k)⟩
    obtain ⟨fs2, e2⟩ := dc dd e
    exact ⟨fs2, Sub.new hp _ _ e2⟩
end
/-! ### the facts of the top -/
structure SupP (P : Program) (file : Str) : Prop where
  file : ((P.main.file : Str) == file) = true
  top : (P.main.scope.names.lookup ("super" : Str)).isSome = false
structure FunS (K : PySem.W.Frag) (x qual : Str) (params : Arguments) (body : List Stmt) (scope : Scope) (f cc : Addr) (fd : FuncData) : Prop where
  ex : ∃ oc od kV doc pm an cdv ct osl, fd = PySem.W.fnX x qual params body scope [(ccl, cc)] .none kV doc pm an cdv ct ∧ K.lookup f = some ⟨oc, od, .func fd, osl⟩ ∧ PySem.W.codeIn K cdv qual = true
def ccOf (K : PySem.W.Frag) (f : Addr) : Addr := match K.lookup f with
  | some ⟨_, _, .func fd, _⟩ => (match fd.closure with
    | [(_, c)] => c
    | _ => 0)
  | _ => 0
section
open He
variable {K : PySem.W.Frag}
/-- one def that says super() -/
structure DefS where
  at_ : PySem.W.Frag → Addr
  name : Str
  qual : Str
  params : Arguments
  body : List Stmt
  scope : Scope
def fnS (K : PySem.W.Frag) (a : Addr) : He5.FnW := match K.lookup a with
  | some ⟨_, _, .func fd, _⟩ => some (fd.name, fd.qualname, fd.params, fd.body, fd.scope, fd.globals, fd.closure.map fun q => (q.1, 0), fd.builtins)
  | _ => none
def DefS.val (d : DefS) : He5.FnW := some (d.name, d.qual, d.params, .stmts d.body, d.scope, mainGlobals, [(ccl, 0)], builtinsNs)
def DefS.ok (K : PySem.W.Frag) (d : DefS) : Bool := match K.lookup (d.at_ K) with
  | some ⟨_, _, .func fd, _⟩ => PySem.W.codeIn K fd.code d.qual && decide (fd.defaults = .none)
  | _ => false
theorem DefS.funS {d : DefS} (e : fnS K (d.at_ K) = d.val) (c : d.ok K = true) : ∃ fd, FunS K d.name d.qual d.params d.body d.scope (d.at_ K) (ccOf K (d.at_ K)) fd := by
  unfold fnS at e
  unfold DefS.ok at c
  unfold ccOf
  cases q : K.lookup (d.at_ K) with
  | none =>
    rw [q] at c
    cases c
  | some o =>
    obtain ⟨oc, od, dt, osl⟩ := o
    rw [q] at c e
    cases dt with
    | func fd =>
      obtain ⟨n1, n2, n3, n4, n5, n6, n7, n8, n9, n10, n11, n12, n13, n14, n15⟩ := fd
      have e2 : (some (n1, n2, n3, n4, n5, n6, n7.map (fun q => (q.1, 0)), n15) : He5.FnW) = some (d.name, d.qual, d.params, .stmts d.body, d.scope, mainGlobals, [(ccl, 0)], builtinsNs) := e
      simp only [Option.some.injEq, Prod.mk.injEq] at e2
      obtain ⟨h1, h2, h3, h4, h5, h6, h7, h8⟩ := e2
      have c3 : (PySem.W.codeIn K n13 d.qual && decide (n8 = .none)) = true := c
      obtain ⟨k1, k2⟩ := ba c3
      have k2 := of_decide_eq_true k2
      match n7, h7 with
      | [(y, cc)], h7 =>
        have hy : y = ccl := by simpa using h7
        subst h1 h2 h3 h4 h5 h6 h8 k2 hy
        exact ⟨_, ⟨oc, od, n9, n10, n11, n12, n13, n14, osl, rfl, q, k1⟩⟩
      | [], h7 => cases h7
      | _ :: _ :: _, h7 => simp at h7
    | _ => cases c
/-! what the class of such an error must have -/
def oexB (K : PySem.W.Frag) (C : Addr) : Bool := match K.lookup C with
  | some ⟨.type "type", _, .cls cd, sl⟩ => (match cd.mro, sl.toList with
    | .ref C' :: bm, [_, _, _, _, some (.builtin n), _] => C' == C && n == "ValueError.__new__" && !cd.hasDel && (cd.hasDict && PySem.HandSPX.refsVE bm)
    | _, _ => false)
  | _ => false
def errB (K : PySem.W.Frag) (x file : Str) (fs : List Str) : Bool :=
  let C := ga K x
  let f := ma K C "__init__"
  let cc := ccOf K f
  oexB K C && (eqO (PySem.W.findIn K (.ref C) "__setattr__") (some (some (.builtin "object.__setattr__"))) && (decide (PySem.W.subIn K (.ref C) (.type "BaseException") = some true) && (decide (PySem.W.typeIn K (.ref C) = some (.type "type")) && (PySem.W.keepIn K (.ref C) &&
  (eqO (PySem.W.findIn K (.ref C) "__init__") (some (some (.ref f))) && (decide (PySem.W.typeIn K (.ref f) = some (.type "function")) && ((fs.all fun z => eqO (PySem.W.findIn K (.ref C) z) (some none)) &&
  ((match K.lookup cc with
    | some ⟨_, _, .cell (some (.ref D)), _⟩ => D == C
    | _ => false) && ((match K.lookup f with
    | some ⟨_, _, .func fd, _⟩ => (match fd.code with
      | Value.ref cda => (match K.lookup cda with
        | some ⟨_, _, Data.fields vs, _⟩ => (match vs[2]? with
          | some (Value.str z _) => decide (z = file)
          | _ => false)
        | _ => false)
      | _ => false)
    | _ => false) && ((PySem.W.clsIn K C).isSome && (eqO (PySem.W.nsIn K cStatics "thirdparty.any") (some none) && (decide (PySem.W.mroIn K C (.ref C) = some true) &&
  (eqO (PySem.W.ks_superIn K C C "__init__") (some (some (.builtin "ValueError.__init__"))) && (decide (PySem.W.subIn K (.ref C) (.type "ValueError") = some true) && xfB K C))))))))))))))
structure ErrF (K : PySem.W.Frag) (C f cc : Addr) (file : Str) (fs : List Str) : Prop where
  oex : OexC K C
  ini : PySem.W.findIn K (.ref C) "__init__" = some (some (.ref f))
  tyf : PySem.W.typeIn K (.ref f) = some (.type "function")
  no : ∀ z ∈ fs, PySem.W.findIn K (.ref C) z = some none
  cell : ∃ oc od osl, K.lookup cc = some ⟨oc, od, .cell (some (.ref C)), osl⟩
  code : ∀ oc od fd osl, K.lookup f = some ⟨oc, od, .func fd, osl⟩ → ∃ cda ocl odd vs osc tf, fd.code = .ref cda ∧ K.lookup cda = some ⟨ocl, odd, .fields vs, osc⟩ ∧ vs[2]? = some (.str file tf)
  cls : ∃ cd, PySem.W.clsIn K C = some cd
  opq : PySem.W.nsIn K cStatics "thirdparty.any" = some none
  mro : PySem.W.mroIn K C (.ref C) = some true
  sup : PySem.W.ks_superIn K C C "__init__" = some (some (.builtin "ValueError.__init__"))
  sub : PySem.W.subIn K (.ref C) (.type "ValueError") = some true
  xf : XfC K C
theorem oexB_ok {C : Addr} (h : oexB K C = true) : ∃ nm q N bs bm sn sub ab col dd k0 k1 k2 k3 k5, K.lookup C = some (excClassObj nm q C N bs bm true sn sub ab col dd k0 k1 k2 k3 k5 "ValueError.__new__") ∧ PySem.HandSPX.refsVE bm = true := by
  unfold oexB at h
  split at h
  · rename_i dd cd sl ho
    split at h
    · rename_i C' bm k0 k1 k2 k3 n k5 hm hs
      simp only [Bool.and_eq_true, beq_iff_eq, Bool.not_eq_true'] at h
      obtain ⟨⟨⟨rfl, rfl⟩, hdel⟩, hhd, ht⟩ := h
      obtain ⟨nm, bs, mro, ns, qn, hd, sn, sub, ab, col, del⟩ := cd
      dsimp only at hm hdel hhd
      subst hm hdel hhd
      have hsl : sl = #[k0, k1, k2, k3, some (.builtin "ValueError.__new__"), k5] := by
        obtain ⟨l⟩ := sl
        simp only at hs
        rw [hs]
      subst hsl
      exact ⟨nm, qn, ns, bs, bm, sn, sub, ab, col, dd, k0, k1, k2, k3, k5, ho, ht⟩
    · cases h
  · cases h
theorem errB_ok {x file : Str} {fs : List Str} (h : errB K x file fs = true) : ErrF K (ga K x) (ma K (ga K x) "__init__") (ccOf K (ma K (ga K x) "__init__")) file fs := by
  unfold errB at h
  obtain ⟨c1, h⟩ := ba h
  obtain ⟨c2, h⟩ := ba h
  obtain ⟨c3, h⟩ := ba h
  obtain ⟨c4, h⟩ := ba h
  obtain ⟨c5, h⟩ := ba h
  obtain ⟨c6, h⟩ := ba h
  obtain ⟨c7, h⟩ := ba h
  obtain ⟨c8, h⟩ := ba h
  obtain ⟨c9, h⟩ := ba h
  obtain ⟨c10, h⟩ := ba h
  obtain ⟨c11, h⟩ := ba h
  obtain ⟨c12, h⟩ := ba h
  obtain ⟨c13, h⟩ := ba h
  obtain ⟨c14, h⟩ := ba h
  obtain ⟨c15, c16⟩ := ba h
  refine ⟨⟨oexB_ok c1, eqO_ok c2, of_decide_eq_true c3, of_decide_eq_true c4, c5⟩, eqO_ok c6, of_decide_eq_true c7, fun z hz => eqO_ok (List.all_eq_true.mp c8 z hz), ?_, fun oc od fd osl e => ?_, Option.isSome_iff_exists.mp c11, eqO_ok c12, of_decide_eq_true c13, eqO_ok c14, of_decide_eq_true c15, xfB_ok c16⟩
  · split at c9
    · rename_i oc od D osl e
      have := eq_of_beq c9
      subst this
      exact ⟨_, _, _, e⟩
    · cases c9
  · rw [e] at c10
    dsimp only at c10
    split at c10
    · rename_i cda e1
      split at c10
      · rename_i ocl odd vs osc e2
        split at c10
        · rename_i z tf e3
          have := of_decide_eq_true c10
          subst this
          exact ⟨cda, ocl, odd, vs, osc, tf, e1, e2, e3⟩
        · cases c10
      · cases c10
    · cases c10
end
/-! ### the __init__ of an error -/
theorem ErrF.supK {P : Program} {K : PySem.W.Frag} {C f cc : Addr} {file x qual self : Str} {fs : List Str} {params : Arguments} {body : List Stmt} {scope : Scope} {fd : FuncData} (E : ErrF K C f cc file fs) (F : FunS K x qual params body scope f cc fd) (hP : SupP P file) (hs : ∃ ar, (params.posonlyargs ++ params.args).head? = some ar ∧ ar.arg = self) : SupK P K f cc C fd.code fd self := by
  obtain ⟨oc, od, kV, doc, pm, an, cdv, ct, osl, rfl, lk, hcd⟩ := F.ex
  obtain ⟨cda, ocl, odd, vs, osc, tf, e1, e2, e3⟩ := E.code _ _ _ _ lk
  exact ⟨⟨_, _, _, lk⟩, hs, ⟨cda, ocl, odd, vs, osc, file, tf, e1, e2, e3, hP.file⟩, hP.top, E.cell, E.cls, E.opq⟩
theorem start_at {N : List Str} {vs : List V} {i : Nat} {v : V} (h : vs[i]? = some v) : (L2.start N vs)[i]? = some (some v) := by
  have hi := (List.getElem?_eq_some_iff.mp h).1
  unfold L2.start
  rw [List.getElem?_append_left (by simpa using hi), List.getElem?_map, h]
  rfl
theorem sts_of {K : PySem.W.Frag} {C : Addr} {σ : L2.St} : ∀ {fs : List Str} {ws : List V} {j : Nat} (r : List (Str × Nat)), r = fs.zipIdx j → ws.length = fs.length → (∀ z ∈ fs, PySem.W.findIn K (.ref C) z = some none) → (∀ k v, ws[k]? = some v → σ[j + k]? = some (some v)) → Sts K C σ r ws
  | [], [], j, _, rfl, _, _, _ => .nil
  | f :: fs, w :: ws, j, _, rfl, hl, hn, hs => by
    rw [List.zipIdx_cons]
    exact .cons (hn f List.mem_cons_self) (hs 0 w rfl) (sts_of _ rfl (Nat.succ.inj hl) (fun z hz => hn z (List.mem_cons_of_mem _ hz)) fun k v e => by rw [show j + 1 + k = j + (k + 1) by omega]; exact hs (k + 1) v e)
theorem errx_fn {P : Program} {w : World} {K : PySem.W.Frag} {mg : Str → Option Value} {base : Heap} {C f cc : Addr} {file x qual self : Str} {fs N : List Str} {params : Arguments} {body : List Stmt} {scope : Scope} {fd : FuncData} (E : ErrF K C f cc file fs) (F : FunS K x qual params body scope f cc fd) (S : ScS N (self :: fs) scope) (hfs : fs ≠ []) (hl : fs.length ≤ 900)
    (hbody : ∀ (cd : Value) (A : Around) (outer : List Env) (s : Shared) (H : Hp) (E : XK), fd.code = cd → PSa (cxS (L2.CX P w) P w K mg base N qual scope f cc cd A outer s H E) body body (fun Ds σ H => ∃ a, σ[0]? = some (some (.ref a)) ∧ H a = some (exo a C none) ∧ tStores K (fs.zipIdx 1) Ds σ H)) :
    FnOk P w K mg base (L2.CX P w) 1 f fd (self :: fs) (spX C fs) := by
  obtain ⟨oc, od, kV, doc, pm, an, cdv, ct, osl, rfl, lk, hcd⟩ := F.ex
  obtain ⟨oc2, od2, osl2, lcc⟩ := E.cell
  refine fnS_of lk hcd lcc S (fun vs H Q E' h => ?_) fun A outer s H vs Q E' hr h => ⟨_, hbody cdv A outer s H E' rfl, ?_⟩
  · obtain ⟨a, ws, rfl, hw, _⟩ := h
    simp [hw]
  · obtain ⟨a, ws, rfl, hw, ha, h⟩ := h
    have h0 : (L2.start N (.ref a :: ws))[0]? = some (some (.ref a)) := start_at rfl
    have st : Sts K C (L2.start N (.ref a :: ws)) (fs.zipIdx 1) ws := sts_of _ rfl hw E.no fun k v e => start_at (i := 1 + k) (by rw [Nat.add_comm]; exact e)
    refine ⟨a, h0, ha, stores_new E.oex h0 st (fun z => hfs (by have := congrArg List.length z; simpa using this)) ha (by simpa using hl) fun H' d h1 h2 h3 h4 h5 => h H' d h1 h2 h3 ?_ h5⟩
    rw [h4, List.zipIdx_map_fst]
theorem errX_of {P : Program} {w : World} {g : Gm} {mg : Str → Option Value} {base : Heap} {f cc : Addr} {file x nm qual self : Str} {fs : List Str} {params : Arguments} {body : List Stmt} {scope : Scope} {fd : FuncData} {i : CI} (hi : g.ci x = some i) (hm : mg x = some (.ref i.C)) (E : ErrF g.K i.C f cc file fs) (F : FunS g.K nm qual params body scope f cc fd)
    (Fn : FnOk P w g.K mg base (L2.CX P w) 1 f fd (self :: fs) (spX i.C fs)) (hf : i.fs = fs.reverse)
    (hb : ∀ (kV doc pm : Value) (an : Option Addr) (cdv ct : Value) (us : List Value), us.length = (self :: fs).length → bindArgs (PySem.W.fnX nm qual params body scope [(ccl, cc)] .none kV doc pm an cdv ct) ⟨us, []⟩ = pure ((self :: fs).zip us)) (hn : fs.length ≠ 0 := by decide) (hn2 : fs.length ≤ 100 := by decide) : ErrX P w g mg base x 1 fs.length := by
  obtain ⟨oc, od, kV, doc, pm, an, cdv, ct, osl, e, lk, hcd⟩ := F.ex
  refine ⟨⟨i, f, fd, self :: fs, fs, hi, hm, E.oex, E.ini, E.tyf, Fn, ?_, hf, rfl, hn, hn2⟩⟩
  rw [e]
  exact .all (hb kV doc pm an cdv ct)
end Mi
/-! ### the Hook with tables and with defs that say super() -/
namespace Mi
open L2 PySem PySem.Spec PyProof.Rows
section
open He
abbrev AlX : Type := He.AlT × List He5.FnW
def exX (ex : PySem.W.Frag → Bool) (fx : List DefS) (K : PySem.W.Frag) : Bool := ex K && fx.all fun d => d.ok K
def obsMX (ex : PySem.W.Frag → Bool) (fn : List He5.DefA) (fx : List DefS) (ts : List He.Tab) (K : PySem.W.Frag) : AlX := (obsMT (exX ex fx) fn ts K, fx.map fun d => fnS K (d.at_ K))
def valMX (fn : List He5.DefA) (fx : List DefS) (ts : List He.Tab) (w : World) : AlX := (valMT fn ts w, fx.map DefS.val)
def SaysMX (ex : PySem.W.Frag → Bool) (fn : List He5.DefA) (fx : List DefS) (ts : List He.Tab) (w : World) (K : PySem.W.Frag) : Prop := obsMX ex fn fx ts K = valMX fn fx ts w
def obsMXG (n : Nat) (ex : PySem.W.Frag → Bool) (fn : List He5.DefA) (fx : List DefS) (ts : List He.Tab) (g : Addr → Option Obj) : AlX := obsMX ex fn fx ts (He.frG g (He5.asA g n))
def hookMX (n : Nat) (ex : PySem.W.Frag → Bool) (fn : List He5.DefA) (fx : List DefS) (ts : List He.Tab) : PySem.W.Hook where
  α := AlX
  obs := fun s => obsMXG n ex fn fx ts s.heap.get?
  val := fun w => valMX fn fx ts w
  says := fun w h => ∃ K : PySem.W.Frag, K.In h ∧ SaysMX ex fn fx ts w K
  of := fun _ _ e => ⟨_, frG_in, e⟩
  keeps := fun _ _ _ ⟨K, hK, c⟩ k => ⟨K, PySem.W.Frag.In.keeps hK k, c⟩
theorem obsMXG_eq {n : Nat} {ex : PySem.W.Frag → Bool} {fn : List He5.DefA} {fx : List DefS} {ts : List He.Tab} {g : Addr → Option Obj} {s : Shared} (h : ∀ a, g a = s.heap.get? a) : obsMXG n ex fn fx ts g = (hookMX n ex fn fx ts).obs s := by
  have e : g = s.heap.get? := funext h
  rw [e] <;> rfl
variable {ex : PySem.W.Frag → Bool} {fn : List He5.DefA} {fx : List DefS} {ts : List He.Tab} {w : World} {K : PySem.W.Frag}
theorem SaysMX.t (c : SaysMX ex fn fx ts w K) : SaysMT (exX ex fx) fn ts w K := congrArg (fun z : AlX => z.1) c
theorem SaysMX.more (c : SaysMX ex fn fx ts w K) : ex K = true := (ba c.t.m.more).1
theorem SaysMX.def_ (c : SaysMX ex fn fx ts w K) (i : Nat) {d : He5.DefA} (h : fn[i]? = some d := by rfl) : ∃ fd, L2.FunD K d.name d.qual d.params d.body d.scope (d.dvs K) (d.kws K) (d.at_ K) fd := c.t.m.def_ i h
theorem SaysMX.tab (c : SaysMX ex fn fx ts w K) (i : Nat) {t : He.Tab} (h : ts[i]? = some t := by rfl) : ∃ es n, KDict K w (t.1 K) es n := c.t.tab i h
theorem SaysMX.defS (c : SaysMX ex fn fx ts w K) (i : Nat) {d : DefS} (h : fx[i]? = some d := by rfl) : ∃ fd, FunS K d.name d.qual d.params d.body d.scope (d.at_ K) (ccOf K (d.at_ K)) fd := by
  have c2 := (ba c.t.m.more).2
  have e : fx.map (fun d => fnS K (d.at_ K)) = fx.map DefS.val := congrArg (fun z : AlX => z.2) c
  have e2 : (fx.map fun d => fnS K (d.at_ K))[i]? = (fx.map DefS.val)[i]? := by rw [e]
  rw [List.getElem?_map, List.getElem?_map, h] at e2
  exact DefS.funS (Option.some.inj e2) (List.all_eq_true.mp c2 d (List.mem_of_getElem? h))
end
end Mi
namespace Mi
open L2 PySem PySem.Spec PyProof.Rows
section
open He
variable {K : PySem.W.Frag}
def fsB (c : Str) (fs : List Str) : List (Str × Kd × List Str × List Nat) → Bool
  | [] => false
  | (x, _, f, _) :: r => if c = x then decide (f = fs) else fsB c fs r
theorem fsB_ok {c : Str} {fs : List Str} {i : CI} : ∀ {t : List (Str × Kd × List Str × List Nat)}, fsB c fs t = true → ciT K t c = some i → i.fs = fs
  | [], h, _ => by cases h
  | (x, k, f, pl) :: r, h, e => by
    unfold fsB at h
    unfold ciT at e
    split at h
    · rename_i q
      rw [if_pos q] at e
      cases e
      exact of_decide_eq_true h
    · rename_i q
      rw [if_neg q] at e
      exact fsB_ok h e
theorem memL {α : Type} {x : Str} {v : α} : ∀ {l : List (Str × α)}, l.lookup x = some v → (x, v) ∈ l
  | [], h => by cases h
  | (y, u) :: r, h => by
    rw [List.lookup_cons] at h
    split at h
    · rename_i q
      cases h
      rw [eq_of_beq q]
      exact List.mem_cons_self
    · exact List.mem_cons_of_mem _ (memL h)
theorem xf_ok {t : List (Str × Kd × List Str × List Nat)} {file : Str} {xt : List (Str × List Str)} (c : (xt.all fun q => errB K q.1 file q.2.reverse && fsB q.1 q.2 t) = true) : XfT ⟨K, ciT K t⟩ xt := by
  refine ⟨fun x ns h i hi => ?_⟩
  obtain ⟨c1, c2⟩ := ba (List.all_eq_true.mp c (x, ns) (memL h))
  have E := errB_ok c1
  have e : i.C = ga K x := by rw [ciT_at hi]
  rw [e]
  exact ⟨fsB_ok c2 hi, E.xf, fun f hf => E.no f (by simpa using hf)⟩
theorem xe_ok {t : List (Str × Kd × List Str × List Nat)} {file : Str} {xt : List (Str × List Str)} (c : (xt.all fun q => errB K q.1 file q.2.reverse && fsB q.1 q.2 t) = true) {x : Str} {ns : List Str} (h : (x, ns) ∈ xt) : ErrF K (ga K x) (ma K (ga K x) "__init__") (ccOf K (ma K (ga K x) "__init__")) file ns.reverse :=
  errB_ok (ba (List.all_eq_true.mp c _ h)).1
end
end Mi
namespace NS
open L2 Mi PySem PySem.Spec PyProof.Rows
/-! the text -/
abbrev topS (i : Nat) : Stmt := PySem.Challenge.pw_onehandparts_k29_statements_with_demands.main.body.getD i (.Pass ⟨0, 0, 0, 0⟩)
abbrev inCls (st : Stmt) (j : Nat) : Stmt := (match st with
  | .ClassDef (body := body) .. => body
  | _ => []).getD j (.Pass ⟨0, 0, 0, 0⟩)
def tab : List (Str × Kd × List Str × List Nat) := [("Regions", .slots, ["names", "codes", "groups"], [2, 0, 1]), ("Step", .dict, ["names", "signature", "word", "spots", "needs", "target"], []), ("BadRegions", .exc, [], []), ("Refused", .exc, ["name", "why"], [])]
def gm (K : PySem.W.Frag) : Gm := ⟨K, ciT K tab⟩
def file : Str := "/claim/cut.py"
def xtab : List (Str × List Str) := [("Refused", ["name", "why"])]
def tb_DEMANDED : List (Str × D) := [("use", (.tuple [(.int 0)])), ("send", (.tuple [(.int 0)])), ("post", (.tuple [(.int 0)])), ("put", (.tuple [(.int 0), (.int 1)])), ("cut", (.tuple [(.int 0)])), ("get", (.tuple [(.int 1)]))]
/-! what it computes -/
def o_canonical (a_labels : D) : Fl Empty Unit := ((((Res.ok [])).bind fun x2 => ofO (mkL x2)).bindF fun l_seen_1 => ((((Res.ok [])).bind fun x4 => ofO (mkL x4)).bindF fun l_codes_3 => ((((Res.ok a_labels)).bind fun x5 => ofO (itemsD x5)).bindF fun xs => (loopF xs ((l_seen_1, l_codes_3) : List D × List D) (fun v_label_7 (t6 : List D × List D) => (((((((Res.ok v_label_7)).bind fun x8 => ((Res.ok (.int 0))).bind fun x9 => ofO (neB x8 x9)).bind fun k => if k = true then (((Res.ok v_label_7)).bind fun x10 => ((Res.ok (.list t6.1))).bind fun x11 => ofO (ninB x10 x11)) else .ok false).bindF fun k => if k = true then ((Res.ok v_label_7).bindF fun e13 => if t6.1.length < cap then (Fl.nx (t6.1 ++ [e13])) else .no) else (Fl.nx t6.1)) : Fl _ (List D)).bind fun (t14 : List D) => ((((((Res.ok v_label_7)).bind fun x15 => ((Res.ok (.int 0))).bind fun x16 => ofO (eqB x15 x16)).bindF fun k => if k = true then ((Res.ok (.int 0)).bindF fun e23 => if t6.2.length < cap then (Fl.nx (t6.2 ++ [e23])) else .no) else (((((Res.ok (.list t14)).bind fun x24 => if Mi.tyB x24 = "list" then ((Res.ok v_label_7)).bind fun x25 => ofO (indexD x24 x25) else .no)).bind fun x26 => ((Res.ok (.int 1))).bind fun x27 => ofO (addD x26 x27)).bindF fun e28 => if t6.2.length < cap then (Fl.nx (t6.2 ++ [e28])) else .no)) : Fl _ (List D)).bind fun (t29 : List D) => (Fl.nx (t14, t29)))))).bind fun (t30 : List D × List D) => ((((Res.ok (.list t30.2))).bind fun x31 => ofO (tupleD x31)).bindF fun x32 => Fl.rt x32))))
def m_canonical : List D → Res D
  | [a_labels] => (o_canonical a_labels).res
  | _ => .no
def o_grouped (a_names a_codes : D) : Fl Empty Unit := ((((Res.ok [])).bind fun x34 => ofO (mkL x34)).bindF fun l_groups_33 => ((((Res.ok (.int 1))).bind fun x38 => ((((((Res.ok a_codes)).bind fun x35 => ofO (lenD x35))).bind fun x36 => ((Res.ok (.int 1))).bind fun x37 => ofO (addD x36 x37))).bind fun x39 => ofO (rng2 x38 x39)).bindF fun xs => (loopF xs (l_groups_33 : List D) (fun v_number_41 (t40 : List D) => ((((((((Res.ok a_codes)).bind fun x43 => ofO (lenD x43))).bind fun x44 => ofO (rng1 x44))).bind fun x52 => lcC x52 (fun v45 => (((((Res.ok a_codes)).bind fun x46 => ((Res.ok v45)).bind fun x47 => ofO (itemD x46 x47))).bind fun x48 => ((Res.ok v_number_41)).bind fun x49 => ofO (eqB x48 x49))) (fun v45 => (((Res.ok a_names)).bind fun x50 => ((Res.ok v45)).bind fun x51 => ofO (itemD x50 x51)))).bindF fun l_group_42 => ((((((((Res.ok (.list l_group_42))).bind fun x53 => ofO (lenD x53))).bind fun x54 => ((Res.ok (.int 0))).bind fun x55 => ofO (gtB x54 x55)).bindF fun k => if k = true then ((((Res.ok (.list l_group_42))).bind fun x58 => ofO (tupleD x58)).bindF fun e59 => if t40.length < cap then (Fl.nx (t40 ++ [e59])) else .no) else (Fl.nx t40)) : Fl _ (List D)).bind fun (t60 : List D) => (Fl.nx t60))))).bind fun (t61 : List D) => ((((Res.ok (.list t61))).bind fun x62 => ofO (tupleD x62)).bindF fun x63 => Fl.rt x63)))
def m_grouped : List D → Res D
  | [a_names, a_codes] => (o_grouped a_names a_codes).res
  | _ => .no
def o_is_name (a_text : D) : Fl Empty Unit := ((((Res.ok (.int 1)).bind fun x65 => (((Res.ok a_text)).bind fun x64 => ofO (lenD x64)).bind fun x66 => (ofO (leB x65 x66)).bind fun k => if k = true then (Res.ok (.int 8)).bind fun x67 => ofO (leB x66 x67) else .ok false).bind fun k => .ok (!k)).bindF fun k => if k = true then (((Res.ok (.bool false)).bindF fun x68 => Fl.rt x68)).up else ((((Res.ok a_text)).bind fun x69 => ofO (itemsD x69)).bindF fun xs => (loopF xs (() : Unit) (fun v_char_71 (t70 : Unit) => ((((Res.ok v_char_71)).bind fun x72 => ((Res.ok (.str "abcdefghijklmnopqrstuvwxyz"))).bind fun x73 => ofO (ninB x72 x73)).bindF fun k => if k = true then (((Res.ok (.bool false)).bindF fun x74 => Fl.rt x74)).up else (Fl.nx ())))).bind fun (t75 : Unit) => ((Res.ok (.bool true)).bindF fun x76 => Fl.rt x76)))
def m_is_name : List D → Res D
  | [a_text] => (o_is_name a_text).res
  | _ => .no
def o_are_names (a_names : D) : Fl Empty Unit := ((((Res.ok [])).bind fun x78 => ofO (mkL x78)).bindF fun l_seen_77 => ((((Res.ok a_names)).bind fun x79 => ofO (itemsD x79)).bindF fun xs => (loopF xs (l_seen_77 : List D) (fun v_name_81 (t80 : List D) => ((((((((((Res.ok v_name_81)).bind fun x82 => ((Res.ok [])).bind fun x83 => .ok (x82 :: x83))).bind fun x84 => m_is_name x84)).bind fun x85 => ofO (asB x85)).bind fun k => .ok (!k)).bind fun k => if k = true then .ok true else (((Res.ok v_name_81)).bind fun x86 => ((Res.ok (.list t80))).bind fun x87 => ofO (inB x86 x87))).bindF fun k => if k = true then (((Res.ok (.bool false)).bindF fun x88 => Fl.rt x88)).up else ((Res.ok v_name_81).bindF fun e89 => if t80.length < cap then (Fl.nx (t80 ++ [e89])) else .no)))).bind fun (t90 : List D) => ((Res.ok (.bool true)).bindF fun x91 => Fl.rt x91)))
def m_are_names : List D → Res D
  | [a_names] => (o_are_names a_names).res
  | _ => .no
def o_Regions___init__ (a_names a_codes : D) : Fl Empty (List (D × D)) := (((((((Res.ok a_names)).bind fun x92 => ofO (lenD x92))).bind fun x93 => ((Res.ok (.int 6))).bind fun x94 => ofO (gtB x93 x94)).bind fun k => if k = true then .ok true else ((((((((Res.ok a_names)).bind fun x95 => ((Res.ok [])).bind fun x96 => .ok (x95 :: x96))).bind fun x97 => m_are_names x97)).bind fun x98 => ofO (asB x98)).bind fun k => .ok (!k))).bindF fun k => if k = true then ((Fl.ex "BadRegions" [])).up else ((((((Res.ok a_codes)).bind fun x99 => .ok (isNone x99)).bindF fun k => if k = true then ((((((((Res.ok a_names)).bind fun x108 => ofO (lenD x108))).bind fun x109 => ofO (rng1 x109))).bind fun x113 => lcC x113 (fun v110 => (Res.ok true)) (fun v110 => (((Res.ok v110)).bind fun x111 => ((Res.ok (.int 1))).bind fun x112 => ofO (addD x111 x112)))).bindF fun l_codes_107 => (Fl.nx (.list l_codes_107))) else (Fl.nx a_codes)) : Fl _ (D)).bind fun (t114 : D) => ((((((Res.ok t114)).bind fun x115 => ofO (lenD x115))).bind fun x117 => ((((Res.ok a_names)).bind fun x116 => ofO (lenD x116))).bind fun x118 => ofO (neB x117 x118)).bindF fun k => if k = true then ((Fl.ex "BadRegions" [])).up else ((((Res.ok t114)).bind fun x119 => ofO (itemsD x119)).bindF fun xs => (loopF xs (() : Unit) (fun v_code_121 (t120 : Unit) => ((((Res.ok v_code_121)).bind fun x122 => ((Res.ok (.int 0))).bind fun x123 => ofO (ltB x122 x123)).bindF fun k => if k = true then ((Fl.ex "BadRegions" [])).up else (Fl.nx ())))).bind fun (t124 : Unit) => ((((Res.ok a_names)).bind fun x125 => ofO (tupleD x125)).bindF fun f_names_126 => ((((((Res.ok t114)).bind fun x127 => ((Res.ok [])).bind fun x128 => .ok (x127 :: x128))).bind fun x129 => m_canonical x129).bindF fun f_codes_130 => ((((((ofO (getF (([] ++ [(.str "names", f_names_126)]) ++ [(.str "codes", f_codes_130)]) "names"))).bind fun x133 => ((((ofO (getF (([] ++ [(.str "names", f_names_126)]) ++ [(.str "codes", f_codes_130)]) "codes"))).bind fun x131 => ((Res.ok [])).bind fun x132 => .ok (x131 :: x132))).bind fun x134 => .ok (x133 :: x134))).bind fun x135 => m_grouped x135).bindF fun f_groups_136 => (Fl.nx ((([] ++ [(.str "names", f_names_126)]) ++ [(.str "codes", f_codes_130)]) ++ [(.str "groups", f_groups_136)])))))))))
def m_Regions : List D → Res D
  | [a_names, a_codes] => ansI (o_Regions___init__ a_names a_codes) "Regions"
  | _ => .no
def gD_Regions_1_codes (xs ys : List D) : List D := match xs, ys with
  | [x0], [y0] => [x0, y0]
  | _, _ => []
def o__law_draws (a__law_script : D) : Fl Empty Unit := ((((Res.ok [])).bind fun x138 => ofO (mkL x138)).bindF fun l__law_row_137 => ((((((Res.ok (.int 63))).bind fun x140 => ((((Res.ok a__law_script)).bind fun x139 => ofO (lenD x139))).bind fun x141 => ofO (minD x140 x141))).bind fun x142 => ofO (rng1 x142)).bindF fun xs => (loopF xs (l__law_row_137 : List D) (fun v__law_k_144 (t143 : List D) => ((((((Res.ok a__law_script)).bind fun x145 => ((Res.ok v__law_k_144)).bind fun x146 => ofO (itemD x145 x146))).bind fun x147 => ofO (intD x147)).bindF fun v__law_cell_148 => ((Res.ok (.int 0)).bindF fun v__law_below_149 => ((((((Res.ok v__law_cell_148)).bind fun x150 => ((Res.ok (.int 0))).bind fun x151 => ofO (ltB x150 x151)).bindF fun k => if k = true then ((((Res.ok (.int 0))).bind fun x156 => ((Res.ok v__law_cell_148)).bind fun x157 => ofO (subD x156 x157)).bindF fun v__law_cell_158 => ((Res.ok (.int 1)).bindF fun v__law_below_159 => (Fl.nx (v__law_cell_158, v__law_below_159)))) else (Fl.nx (v__law_cell_148, v__law_below_149))) : Fl _ (D × D)).bind fun (t160 : D × D) => ((((((Res.ok t160.1)).bind fun x163 => ((((Res.ok (.int 10))).bind fun x161 => ((Res.ok (.int 18))).bind fun x162 => ofO (powD x161 x162))).bind fun x164 => ofO (geB x163 x164)).bindF fun k => if k = true then ((((Res.ok (.int 60))).bind fun x226 => ofO (rng1 x226)).bindF fun xs => (loopF xs ((t143, t160.1) : List D × D) (fun v__law_j_228 (t227 : List D × D) => ((((((Res.ok t227.2)).bind fun x229 => ((Res.ok (.int 0))).bind fun x230 => ofO (gtB x229 x230)).bindF fun k => if k = true then ((((((Res.ok t227.2)).bind fun x238 => ofO (intD x238))).bind fun x239 => ((Res.ok (.int 1000000))).bind fun x240 => ofO (modD x239 x240)).bindF fun e241 => if t227.1.length < cap then ((((Res.ok t227.2)).bind fun x242 => ((Res.ok (.int 1000000))).bind fun x243 => ofO (fdivD x242 x243)).bindF fun v__law_cell_244 => (Fl.nx ((t227.1 ++ [e241]), v__law_cell_244))) else .no) else (Fl.nx (t227.1, t227.2))) : Fl _ (List D × D)).bind fun (t245 : List D × D) => (Fl.nx (t245.1, t245.2))))).bind fun (t246 : List D × D) => (Fl.nx (t246.1, t246.2))) else ((((((((((((((Res.ok t160.1)).bind fun x247 => ((Res.ok (.int 5))).bind fun x248 => ofO (addD x247 x248))).bind fun x249 => ((Res.ok (.int 48271))).bind fun x250 => ofO (mulD x249 x250))).bind fun x259 => ((((((((Res.ok v__law_k_144)).bind fun x251 => ((Res.ok (.int 1))).bind fun x252 => ofO (addD x251 x252))).bind fun x255 => ((((Res.ok v__law_k_144)).bind fun x253 => ((Res.ok (.int 7))).bind fun x254 => ofO (addD x253 x254))).bind fun x256 => ofO (mulD x255 x256))).bind fun x257 => ((Res.ok (.int 69621))).bind fun x258 => ofO (mulD x257 x258))).bind fun x260 => ofO (addD x259 x260))).bind fun x263 => ((((Res.ok t160.2)).bind fun x261 => ((Res.ok (.int 40692))).bind fun x262 => ofO (mulD x261 x262))).bind fun x264 => ofO (addD x263 x264))).bind fun x265 => ofO (intD x265))).bind fun x266 => ((Res.ok (.int 2147483647))).bind fun x267 => ofO (modD x266 x267)).bindF fun v__law_mixed_268 => ((((((((((Res.ok v__law_mixed_268)).bind fun x269 => ((Res.ok v__law_mixed_268)).bind fun x270 => ofO (mulD x269 x270))).bind fun x271 => ((Res.ok t160.1)).bind fun x272 => ofO (addD x271 x272))).bind fun x273 => ofO (intD x273))).bind fun x274 => ((Res.ok (.int 2147483629))).bind fun x275 => ofO (modD x274 x275)).bindF fun v__law_mixed_276 => ((((((((((((Res.ok v__law_mixed_276)).bind fun x277 => ((Res.ok (.int 16807))).bind fun x278 => ofO (mulD x277 x278))).bind fun x279 => ((Res.ok v__law_k_144)).bind fun x280 => ofO (addD x279 x280))).bind fun x281 => ofO (intD x281))).bind fun x282 => ((Res.ok (.int 2147483587))).bind fun x283 => ofO (modD x282 x283))).bind fun x284 => ((Res.ok (.int 1000000))).bind fun x285 => ofO (modD x284 x285)).bindF fun e286 => if t143.length < cap then (Fl.nx ((t143 ++ [e286]), t160.1)) else .no)))) : Fl _ (List D × D)).bind fun (t287 : List D × D) => (Fl.nx t287.1))))))).bind fun (t288 : List D) => ((Res.ok (.list t288)).bindF fun x289 => Fl.rt x289)))
def m__law_draws : List D → Res D
  | [a__law_script] => (o__law_draws a__law_script).res
  | _ => .no
def o__law_names (a__law_draw a__law_many : D) : Fl Empty Unit := ((Res.ok (.str "abcdefghijklmnopqrstuvwxyz")).bindF fun v__law_letters_290 => ((((((Res.ok a__law_draw)).bind fun x291 => ofO (intD x291))).bind fun x292 => ((Res.ok (.int 3))).bind fun x293 => ofO (fdivD x292 x293)).bindF fun v__law_seed_294 => ((((((Res.ok v__law_seed_294)).bind fun x295 => ((Res.ok (.int 26))).bind fun x296 => ofO (fdivD x295 x296))).bind fun x297 => ((Res.ok (.int 4))).bind fun x298 => ofO (modD x297 x298)).bindF fun v__law_low_299 => ((((Res.ok [])).bind fun x301 => ofO (mkL x301)).bindF fun l__law_names_here_300 => ((((Res.ok a__law_many)).bind fun x302 => ofO (rng1 x302)).bindF fun xs => (loopF xs (l__law_names_here_300 : List D) (fun v__law_k_304 (t303 : List D) => ((((((((((Res.ok a__law_draw)).bind fun x305 => ofO (intD x305))).bind fun x306 => ((Res.ok (.int 3))).bind fun x307 => ofO (modD x306 x307))).bind fun x308 => ((Res.ok (.int 0))).bind fun x309 => ofO (eqB x308 x309)).bindF fun k => if k = true then ((((Res.ok v__law_letters_290)).bind fun x479 => ((((((((Res.ok v__law_seed_294)).bind fun x474 => ((((Res.ok v__law_k_304)).bind fun x472 => ((Res.ok (.int 5))).bind fun x473 => ofO (mulD x472 x473))).bind fun x475 => ofO (addD x474 x475))).bind fun x476 => ofO (intD x476))).bind fun x477 => ((Res.ok (.int 26))).bind fun x478 => ofO (modD x477 x478))).bind fun x480 => ofO (itemD x479 x480)).bindF fun e481 => if t303.length < cap then (Fl.nx (t303 ++ [e481])) else .no) else ((((((((((Res.ok a__law_draw)).bind fun x482 => ofO (intD x482))).bind fun x483 => ((Res.ok (.int 3))).bind fun x484 => ofO (modD x483 x484))).bind fun x485 => ((Res.ok (.int 1))).bind fun x486 => ofO (eqB x485 x486)).bindF fun k => if k = true then ((((Res.ok v__law_letters_290)).bind fun x567 => ((((((((Res.ok v__law_seed_294)).bind fun x562 => ((((Res.ok v__law_k_304)).bind fun x560 => ((Res.ok (.int 7))).bind fun x561 => ofO (mulD x560 x561))).bind fun x563 => ofO (addD x562 x563))).bind fun x564 => ofO (intD x564))).bind fun x565 => ((Res.ok (.int 26))).bind fun x566 => ofO (modD x565 x566))).bind fun x568 => ofO (itemD x567 x568)).bindF fun v__law_one_569 => ((((((((Res.ok (.str "queuelist"))).bind fun x578 => ((((Res.ok v__law_low_299)).bind fun x570 => ofO (asI x570))).bind fun x579 => ((((((Res.ok v__law_low_299)).bind fun x575 => ((((((Res.ok v__law_seed_294)).bind fun x571 => ((Res.ok (.int 104))).bind fun x572 => ofO (fdivD x571 x572))).bind fun x573 => ((Res.ok (.int 4))).bind fun x574 => ofO (modD x573 x574))).bind fun x576 => ofO (addD x575 x576))).bind fun x577 => ofO (asI x577))).bind fun x580 => ofO (sliceD x578 x579 x580))).bind fun x581 => ((Res.ok v__law_one_569)).bind fun x582 => ofO (addD x581 x582))).bind fun x594 => ((((Res.ok (.str "lettercall"))).bind fun x591 => ((((Res.ok v__law_low_299)).bind fun x583 => ofO (asI x583))).bind fun x592 => ((((((Res.ok v__law_low_299)).bind fun x588 => ((((((Res.ok v__law_seed_294)).bind fun x584 => ((Res.ok (.int 416))).bind fun x585 => ofO (fdivD x584 x585))).bind fun x586 => ((Res.ok (.int 4))).bind fun x587 => ofO (modD x586 x587))).bind fun x589 => ofO (addD x588 x589))).bind fun x590 => ofO (asI x590))).bind fun x593 => ofO (sliceD x591 x592 x593))).bind fun x595 => ofO (addD x594 x595)).bindF fun e596 => if t303.length < cap then (Fl.nx (t303 ++ [e596])) else .no)) else ((((((Res.ok v__law_letters_290)).bind fun x597 => ((Res.ok v__law_letters_290)).bind fun x598 => ofO (addD x597 x598))).bind fun x607 => ((((((Res.ok v__law_seed_294)).bind fun x599 => ((Res.ok (.int 26))).bind fun x600 => ofO (modD x599 x600))).bind fun x601 => ofO (asI x601))).bind fun x608 => ((((((((Res.ok v__law_seed_294)).bind fun x602 => ((Res.ok (.int 26))).bind fun x603 => ofO (modD x602 x603))).bind fun x604 => ((Res.ok (.int 8))).bind fun x605 => ofO (addD x604 x605))).bind fun x606 => ofO (asI x606))).bind fun x609 => ofO (sliceD x607 x608 x609)).bindF fun v__law_word_610 => ((((Res.ok v__law_word_610)).bind fun x629 => ((Res.ok none)).bind fun x630 => ((((((((((((((((Res.ok v__law_k_304)).bind fun x611 => ((Res.ok (.int 5))).bind fun x612 => ofO (mulD x611 x612))).bind fun x615 => ((((Res.ok v__law_seed_294)).bind fun x613 => ((Res.ok (.int 26))).bind fun x614 => ofO (fdivD x613 x614))).bind fun x616 => ofO (addD x615 x616))).bind fun x617 => ofO (intD x617))).bind fun x618 => ((Res.ok (.int 6))).bind fun x619 => ofO (modD x618 x619))).bind fun x620 => ((Res.ok (.int 1))).bind fun x621 => ofO (addD x620 x621))).bind fun x626 => ((((((Res.ok v__law_seed_294)).bind fun x622 => ((Res.ok (.int 156))).bind fun x623 => ofO (fdivD x622 x623))).bind fun x624 => ((Res.ok (.int 3))).bind fun x625 => ofO (modD x624 x625))).bind fun x627 => ofO (addD x626 x627))).bind fun x628 => ofO (asI x628))).bind fun x631 => ofO (sliceD x629 x630 x631)).bindF fun e632 => if t303.length < cap then (Fl.nx (t303 ++ [e632])) else .no))) : Fl _ (List D)).bind fun (t633 : List D) => (Fl.nx t633))) : Fl _ (List D)).bind fun (t634 : List D) => (Fl.nx t634)))).bind fun (t635 : List D) => ((Res.ok (.list t635)).bindF fun x636 => Fl.rt x636))))))
def m__law_names : List D → Res D
  | [a__law_draw, a__law_many] => (o__law_names a__law_draw a__law_many).res
  | _ => .no
def o__law_at (a__law_row a__law_k : D) : Fl Empty Unit := ((((Res.ok a__law_k)).bind fun x638 => ((((Res.ok a__law_row)).bind fun x637 => ofO (lenD x637))).bind fun x639 => ofO (ltB x638 x639)).bindF fun k => if k = true then (((((Res.ok a__law_row)).bind fun x640 => ((Res.ok a__law_k)).bind fun x641 => ofO (itemD x640 x641)).bindF fun x642 => Fl.rt x642)).up else ((Res.ok (.int 0)).bindF fun x643 => Fl.rt x643))
def m__law_at : List D → Res D
  | [a__law_row, a__law_k] => (o__law_at a__law_row a__law_k).res
  | _ => .no
def o__law_labels (a__law_row a__law_first a__law_many : D) : Fl Empty Unit := ((((((((((Res.ok a__law_row)).bind fun x646 => ((((Res.ok a__law_first)).bind fun x644 => ((Res.ok [])).bind fun x645 => .ok (x644 :: x645))).bind fun x647 => .ok (x646 :: x647))).bind fun x648 => m__law_at x648)).bind fun x649 => ofO (intD x649))).bind fun x650 => ((Res.ok (.int 6))).bind fun x651 => ofO (modD x650 x651)).bindF fun v__law_shape_652 => ((((Res.ok [])).bind fun x654 => ofO (mkL x654)).bindF fun l__law_labels_here_653 => ((((Res.ok a__law_many)).bind fun x655 => ofO (rng1 x655)).bindF fun xs => (loopF xs (l__law_labels_here_653 : List D) (fun v__law_k_657 (t656 : List D) => ((((((((((Res.ok a__law_row)).bind fun x664 => ((((((((Res.ok a__law_first)).bind fun x658 => ((Res.ok (.int 1))).bind fun x659 => ofO (addD x658 x659))).bind fun x660 => ((Res.ok v__law_k_657)).bind fun x661 => ofO (addD x660 x661))).bind fun x662 => ((Res.ok [])).bind fun x663 => .ok (x662 :: x663))).bind fun x665 => .ok (x664 :: x665))).bind fun x666 => m__law_at x666)).bind fun x667 => ofO (intD x667))).bind fun x670 => ((((Res.ok a__law_many)).bind fun x668 => ((Res.ok (.int 1))).bind fun x669 => ofO (addD x668 x669))).bind fun x671 => ofO (modD x670 x671)).bindF fun v__law_label_672 => ((((((Res.ok v__law_shape_652)).bind fun x673 => ((Res.ok (.int 1))).bind fun x674 => ofO (eqB x673 x674)).bindF fun k => if k = true then ((Res.ok (.int 1)).bindF fun v__law_label_699 => (Fl.nx v__law_label_699)) else ((((((Res.ok v__law_shape_652)).bind fun x700 => ((Res.ok (.int 2))).bind fun x701 => ofO (eqB x700 x701)).bindF fun k => if k = true then ((Res.ok (.int 0)).bindF fun v__law_label_712 => (Fl.nx v__law_label_712)) else ((((((Res.ok v__law_shape_652)).bind fun x713 => ((Res.ok (.int 3))).bind fun x714 => ofO (eqB x713 x714)).bindF fun k => if k = true then ((((Res.ok v__law_k_657)).bind fun x718 => ((Res.ok (.int 1))).bind fun x719 => ofO (addD x718 x719)).bindF fun v__law_label_720 => (Fl.nx v__law_label_720)) else (Fl.nx v__law_label_672)) : Fl _ (D)).bind fun (t721 : D) => (Fl.nx t721))) : Fl _ (D)).bind fun (t722 : D) => (Fl.nx t722))) : Fl _ (D)).bind fun (t723 : D) => ((Res.ok t723).bindF fun e724 => if t656.length < cap then (Fl.nx (t656 ++ [e724])) else .no))))).bind fun (t725 : List D) => ((Res.ok (.list t725)).bindF fun x726 => Fl.rt x726))))
def m__law_labels : List D → Res D
  | [a__law_row, a__law_first, a__law_many] => (o__law_labels a__law_row a__law_first a__law_many).res
  | _ => .no
def o__law_same (a__law_answer a__law_due : D) : Fl Empty Unit := ((((((Res.ok a__law_answer)).bind fun x727 => ofO (isiT "tuple" x727)).bind fun k => .ok (!k)).bind fun k => if k = true then .ok true else (((((Res.ok a__law_answer)).bind fun x728 => ofO (lenD x728))).bind fun x730 => ((((Res.ok a__law_due)).bind fun x729 => ofO (lenD x729))).bind fun x731 => ofO (neB x730 x731))).bindF fun k => if k = true then (((Res.ok (.bool false)).bindF fun x732 => Fl.rt x732)).up else ((((((Res.ok a__law_due)).bind fun x733 => ofO (lenD x733))).bind fun x734 => ofO (rng1 x734)).bindF fun xs => (loopF xs (() : Unit) (fun v__law_k_736 (t735 : Unit) => (((((((Res.ok a__law_answer)).bind fun x737 => ((Res.ok v__law_k_736)).bind fun x738 => ofO (itemD x737 x738))).bind fun x739 => ofO (isiT "bool" x739)).bind fun k => if k = true then .ok true else (((((((Res.ok a__law_answer)).bind fun x740 => ((Res.ok v__law_k_736)).bind fun x741 => ofO (itemD x740 x741))).bind fun x742 => (ofO (isiT "int" x742)).bind fun k => .ok (.bool k))).bind fun x746 => ((((((Res.ok a__law_due)).bind fun x743 => ((Res.ok v__law_k_736)).bind fun x744 => ofO (itemD x743 x744))).bind fun x745 => (ofO (isiT "str" x745)).bind fun k => .ok (.bool k))).bind fun x747 => ofO (eqB x746 x747))).bindF fun k => if k = true then (((Res.ok (.bool false)).bindF fun x748 => Fl.rt x748)).up else ((((((((Res.ok a__law_answer)).bind fun x749 => ((Res.ok v__law_k_736)).bind fun x750 => ofO (itemD x749 x750))).bind fun x751 => ofO (isiT2 "int" "str" x751)).bind fun k => .ok (!k)).bind fun k => if k = true then .ok true else (((((Res.ok a__law_answer)).bind fun x752 => ((Res.ok v__law_k_736)).bind fun x753 => ofO (itemD x752 x753))).bind fun x756 => ((((Res.ok a__law_due)).bind fun x754 => ((Res.ok v__law_k_736)).bind fun x755 => ofO (itemD x754 x755))).bind fun x757 => ofO (neB x756 x757))).bindF fun k => if k = true then (((Res.ok (.bool false)).bindF fun x758 => Fl.rt x758)).up else (Fl.nx ()))))).bind fun (t759 : Unit) => ((Res.ok (.bool true)).bindF fun x760 => Fl.rt x760)))
def m__law_same : List D → Res D
  | [a__law_answer, a__law_due] => (o__law_same a__law_answer a__law_due).res
  | _ => .no
def o__law_form (a__law_labels_here : D) : Fl Empty Unit := ((((Res.ok [])).bind fun x762 => ofO (mkL x762)).bindF fun l__law_seen_761 => ((((Res.ok [])).bind fun x764 => ofO (mkL x764)).bindF fun l__law_form_here_763 => ((((Res.ok a__law_labels_here)).bind fun x765 => ofO (itemsD x765)).bindF fun xs => (loopF xs ((l__law_seen_761, l__law_form_here_763) : List D × List D) (fun v__law_label_767 (t766 : List D × List D) => ((((((Res.ok v__law_label_767)).bind fun x768 => ((Res.ok (.int 0))).bind fun x769 => ofO (eqB x768 x769)).bindF fun k => if k = true then ((Res.ok (.int 0)).bindF fun e781 => if t766.2.length < cap then (Fl.nx (t766.1, (t766.2 ++ [e781]))) else .no) else ((((((Res.ok v__law_label_767)).bind fun x782 => ((Res.ok (.list t766.1))).bind fun x783 => ofO (ninB x782 x783)).bindF fun k => if k = true then ((Res.ok v__law_label_767).bindF fun e785 => if t766.1.length < cap then (Fl.nx (t766.1 ++ [e785])) else .no) else (Fl.nx t766.1)) : Fl _ (List D)).bind fun (t786 : List D) => (((((Res.ok (.list t786)).bind fun x787 => if Mi.tyB x787 = "list" then ((Res.ok v__law_label_767)).bind fun x788 => ofO (indexD x787 x788) else .no)).bind fun x789 => ((Res.ok (.int 1))).bind fun x790 => ofO (addD x789 x790)).bindF fun e791 => if t766.2.length < cap then (Fl.nx (t786, (t766.2 ++ [e791]))) else .no))) : Fl _ (List D × List D)).bind fun (t792 : List D × List D) => (Fl.nx (t792.1, t792.2))))).bind fun (t793 : List D × List D) => ((((Res.ok (.list t793.2))).bind fun x794 => ofO (tupleD x794)).bindF fun x795 => Fl.rt x795))))
def m__law_form : List D → Res D
  | [a__law_labels_here] => (o__law_form a__law_labels_here).res
  | _ => .no
def o__law_is (a__law_answer a__law_names_here a__law_labels_here : D) : Fl Empty Unit := (((((Res.ok a__law_answer)).bind fun x796 => ofO (isiO [("Regions", true), ("Step", false)] x796)).bind fun k => .ok (!k)).bindF fun k => if k = true then (((Res.ok (.bool false)).bindF fun x797 => Fl.rt x797)).up else (((((((((Res.ok a__law_answer)).bind fun x798 => ofO (attrD x798 "names"))).bind fun x801 => ((((Res.ok a__law_names_here)).bind fun x799 => ((Res.ok [])).bind fun x800 => .ok (x799 :: x800))).bind fun x802 => .ok (x801 :: x802))).bind fun x803 => m__law_same x803).bind fun x813 => (ofO (asB x813)).bind fun k => if k = true then (((((((Res.ok a__law_answer)).bind fun x804 => ofO (attrD x804 "codes"))).bind fun x810 => ((((((((Res.ok a__law_labels_here)).bind fun x805 => ((Res.ok [])).bind fun x806 => .ok (x805 :: x806))).bind fun x807 => m__law_form x807)).bind fun x808 => ((Res.ok [])).bind fun x809 => .ok (x808 :: x809))).bind fun x811 => .ok (x810 :: x811))).bind fun x812 => m__law_same x812) else .ok (.bool false)).bindF fun x814 => Fl.rt x814))
def m__law_is : List D → Res D
  | [a__law_answer, a__law_names_here, a__law_labels_here] => (o__law_is a__law_answer a__law_names_here a__law_labels_here).res
  | _ => .no
def o_Step_stop_at (a_self a_codes : D) : Fl Empty Unit := ((((((Res.ok a_self)).bind fun x815 => ofO (attrD x815 "needs"))).bind fun x816 => ofO (itemsD x816)).bindF fun xs => (loopF xs (() : Unit) (fun v_at_818 (t817 : Unit) => ((((((Res.ok a_codes)).bind fun x819 => ((Res.ok v_at_818)).bind fun x820 => ofO (itemD x819 x820))).bind fun x821 => ((Res.ok (.int 0))).bind fun x822 => ofO (eqB x821 x822)).bindF fun k => if k = true then (((((((Res.ok (.str "away"))).bind fun x825 => ((((Res.ok v_at_818)).bind fun x823 => ((Res.ok [])).bind fun x824 => .ok (x823 :: x824))).bind fun x826 => .ok (x825 :: x826))).bind fun x827 => (ofO (mkL x827)).bind fun ys => .ok (.tuple ys)).bindF fun x828 => Fl.rt x828)).up else (Fl.nx ())))).bind fun (t829 : Unit) => ((((((Res.ok a_self)).bind fun x830 => ofO (attrD x830 "word"))).bind fun x831 => ((Res.ok (.str "call"))).bind fun x832 => ofO (neB x831 x832)).bindF fun k => if k = true then (((Res.ok .none).bindF fun x833 => Fl.rt x833)).up else ((((((((Res.ok a_self)).bind fun x834 => ofO (attrD x834 "signature"))).bind fun x835 => ofO (attrD x835 "handed"))).bind fun x836 => ofO (itemsD x836)).bindF fun xs => (loopF xs (() : Unit) (fun v_at_838 (t837 : Unit) => ((((((((Res.ok a_self)).bind fun x839 => ofO (attrD x839 "spots"))).bind fun x840 => ofO (lenD x840))).bind fun x841 => ofO (rng1 x841)).bindF fun xs => (loopF xs (() : Unit) (fun v_other_843 (t842 : Unit) => (((((Res.ok v_other_843)).bind fun x844 => ((Res.ok v_at_838)).bind fun x845 => ofO (neB x844 x845)).bind fun k => if k = true then (((((Res.ok a_codes)).bind fun x849 => ((((((Res.ok a_self)).bind fun x846 => ofO (attrD x846 "spots"))).bind fun x847 => ((Res.ok v_other_843)).bind fun x848 => ofO (itemD x847 x848))).bind fun x850 => ofO (itemD x849 x850))).bind fun x856 => ((((Res.ok a_codes)).bind fun x854 => ((((((Res.ok a_self)).bind fun x851 => ofO (attrD x851 "spots"))).bind fun x852 => ((Res.ok v_at_838)).bind fun x853 => ofO (itemD x852 x853))).bind fun x855 => ofO (itemD x854 x855))).bind fun x857 => ofO (eqB x856 x857)) else .ok false).bindF fun k => if k = true then (((((((Res.ok (.str "tied"))).bind fun x863 => ((((((((Res.ok a_self)).bind fun x858 => ofO (attrD x858 "spots"))).bind fun x859 => ((Res.ok v_at_838)).bind fun x860 => ofO (itemD x859 x860))).bind fun x861 => ((Res.ok [])).bind fun x862 => .ok (x861 :: x862))).bind fun x864 => .ok (x863 :: x864))).bind fun x865 => (ofO (mkL x865)).bind fun ys => .ok (.tuple ys)).bindF fun x866 => Fl.rt x866)).up else (Fl.nx ())))).bind fun (t867 : Unit) => (Fl.nx ())))).bind fun (t868 : Unit) => ((Res.ok .none).bindF fun x869 => Fl.rt x869))))
def m_Step_stop_at : List D → Res D
  | [a_self, a_codes] => (o_Step_stop_at a_self a_codes).res
  | _ => .no
def o_Step__codes (a_self a_regions : D) : Fl Empty Unit := ((((((Res.ok a_regions)).bind fun x870 => ofO (attrD x870 "names"))).bind fun x872 => ((((Res.ok a_self)).bind fun x871 => ofO (attrD x871 "names"))).bind fun x873 => ofO (neB x872 x873)).bindF fun k => if k = true then ((Fl.ex "BadRegions" [])).up else ((((Res.ok a_regions)).bind fun x874 => ofO (attrD x874 "codes")).bindF fun x875 => Fl.rt x875))
def m_Step__codes : List D → Res D
  | [a_self, a_regions] => (o_Step__codes a_self a_regions).res
  | _ => .no
def o_Step_demand (a_self a_regions : D) : Fl Empty Unit := (((Res.ok a_self).bind fun x876 => if isC "Step" x876 = true then (((((Res.ok a_self).bind fun x877 => if isC "Step" x877 = true then ((((Res.ok a_regions)).bind fun x878 => ((Res.ok [])).bind fun x879 => .ok (x878 :: x879))).bind fun x880 => m_Step__codes (x877 :: x880) else .no)).bind fun x881 => ((Res.ok [])).bind fun x882 => .ok (x881 :: x882))).bind fun x883 => m_Step_stop_at (x876 :: x883) else .no).bindF fun v_stop_884 => ((((Res.ok v_stop_884)).bind fun x885 => .ok (isNone x885)).bindF fun k => if k = true then (((Res.ok .none).bindF fun x886 => Fl.rt x886)).up else ((((((((Res.ok v_stop_884)).bind fun x887 => ((Res.ok (.int 0))).bind fun x888 => ofO (itemD x887 x888))).bind fun x896 => ((((((((Res.ok a_self)).bind fun x891 => ofO (attrD x891 "names"))).bind fun x892 => ((((Res.ok v_stop_884)).bind fun x889 => ((Res.ok (.int 1))).bind fun x890 => ofO (itemD x889 x890))).bind fun x893 => ofO (itemD x892 x893))).bind fun x894 => ((Res.ok [])).bind fun x895 => .ok (x894 :: x895))).bind fun x897 => .ok (x896 :: x897))).bind fun x898 => (ofO (mkL x898)).bind fun ys => .ok (.tuple ys)).bindF fun x899 => Fl.rt x899)))
def m_Step_demand : List D → Res D
  | [a_self, a_regions] => (o_Step_demand a_self a_regions).res
  | _ => .no
def o_alone (a_codes a_at : D) : Fl Empty Unit := ((((Res.ok a_codes)).bind fun x901 => listR x901).bindF fun l_labels_900 => ((((((Res.ok a_codes)).bind fun x902 => ofO (lenD x902))).bind fun x903 => ((Res.ok (.int 1))).bind fun x904 => ofO (addD x903 x904)).bindF fun x910 => (Res.ok a_at).bindF fun x911 => setK (setI l_labels_900 x911 x910) fun l_labels_905 => ((((((Res.ok (.list l_labels_905))).bind fun x906 => ((Res.ok [])).bind fun x907 => .ok (x906 :: x907))).bind fun x908 => m_canonical x908).bindF fun x909 => Fl.rt x909)))
def m_alone : List D → Res D
  | [a_codes, a_at] => (o_alone a_codes a_at).res
  | _ => .no
def o_placed (a_codes a_at a_to : D) : Fl Empty Unit := ((((Res.ok a_codes)).bind fun x913 => listR x913).bindF fun l_labels_912 => ((((Res.ok a_codes)).bind fun x914 => ((Res.ok a_to)).bind fun x915 => ofO (itemD x914 x915)).bindF fun x921 => (Res.ok a_at).bindF fun x922 => setK (setI l_labels_912 x922 x921) fun l_labels_916 => ((((((Res.ok (.list l_labels_916))).bind fun x917 => ((Res.ok [])).bind fun x918 => .ok (x917 :: x918))).bind fun x919 => m_canonical x919).bindF fun x920 => Fl.rt x920)))
def m_placed : List D → Res D
  | [a_codes, a_at, a_to] => (o_placed a_codes a_at a_to).res
  | _ => .no
def o_struck (a_codes a_at : D) : Fl Empty Unit := ((((Res.ok a_codes)).bind fun x923 => ((Res.ok a_at)).bind fun x924 => ofO (itemD x923 x924)).bindF fun v_goes_925 => ((((((((((((Res.ok a_codes)).bind fun x926 => ofO (itemsD x926))).bind fun x930 => lcC x930 (fun v927 => (Res.ok true)) (fun v927 => ((((Res.ok v927)).bind fun x928 => ((Res.ok v_goes_925)).bind fun x929 => ofO (eqB x928 x929)).bind fun k => if k = true then (Res.ok (.int 0)) else (Res.ok v927))))).bind fun x931 => .ok (.list x931))).bind fun x932 => ((Res.ok [])).bind fun x933 => .ok (x932 :: x933))).bind fun x934 => m_canonical x934).bindF fun x935 => Fl.rt x935))
def m_struck : List D → Res D
  | [a_codes, a_at] => (o_struck a_codes a_at).res
  | _ => .no
def o_merged (a_codes a_first a_second : D) : Fl Empty Unit := ((((Res.ok a_codes)).bind fun x936 => ((Res.ok a_first)).bind fun x937 => ofO (itemD x936 x937)).bindF fun v_stays_938 => ((((Res.ok a_codes)).bind fun x939 => ((Res.ok a_second)).bind fun x940 => ofO (itemD x939 x940)).bindF fun v_goes_941 => ((((((Res.ok v_goes_941)).bind fun x942 => ((Res.ok (.int 0))).bind fun x943 => ofO (eqB x942 x943)).bindF fun k => if k = true then ((Res.ok v_goes_941).bindF fun v_stays_946 => (Res.ok v_stays_938).bindF fun v_goes_947 => (Fl.nx (v_stays_946, v_goes_947))) else (Fl.nx (v_stays_938, v_goes_941))) : Fl _ (D × D)).bind fun (t948 : D × D) => ((((((((((((Res.ok a_codes)).bind fun x949 => ofO (itemsD x949))).bind fun x953 => lcC x953 (fun v950 => (Res.ok true)) (fun v950 => ((((Res.ok v950)).bind fun x951 => ((Res.ok t948.2)).bind fun x952 => ofO (eqB x951 x952)).bind fun k => if k = true then (Res.ok t948.1) else (Res.ok v950))))).bind fun x954 => .ok (.list x954))).bind fun x955 => ((Res.ok [])).bind fun x956 => .ok (x955 :: x956))).bind fun x957 => m_canonical x957).bindF fun x958 => Fl.rt x958))))
def m_merged : List D → Res D
  | [a_codes, a_first, a_second] => (o_merged a_codes a_first a_second).res
  | _ => .no
def o_lost (a_codes a_at : D) : Fl Empty Unit := ((((Res.ok a_codes)).bind fun x960 => listR x960).bindF fun l_labels_959 => ((Res.ok (.int 0)).bindF fun x966 => (Res.ok a_at).bindF fun x967 => setK (setI l_labels_959 x967 x966) fun l_labels_961 => ((((((Res.ok (.list l_labels_961))).bind fun x962 => ((Res.ok [])).bind fun x963 => .ok (x962 :: x963))).bind fun x964 => m_canonical x964).bindF fun x965 => Fl.rt x965)))
def m_lost : List D → Res D
  | [a_codes, a_at] => (o_lost a_codes a_at).res
  | _ => .no
def o_Step__call (a_self a_codes : D) : Fl Empty Unit := ((((((Res.ok a_self)).bind fun x968 => ofO (attrD x968 "signature"))).bind fun x969 => ofO (attrD x969 "marks")).bindF fun v_marks_970 => ((((((Res.ok v_marks_970)).bind fun x971 => ofO (lenD x971))).bind fun x972 => ofO (rng1 x972)).bindF fun xs => (loopF xs (a_codes : D) (fun v_at_974 (t973 : D) => ((((((((Res.ok v_marks_970)).bind fun x975 => ((Res.ok v_at_974)).bind fun x976 => ofO (itemD x975 x976))).bind fun x982 => ((((((Res.ok (.str "-"))).bind fun x979 => ((((Res.ok (.str "!"))).bind fun x977 => ((Res.ok [])).bind fun x978 => .ok (x977 :: x978))).bind fun x980 => .ok (x979 :: x980))).bind fun x981 => (ofO (mkL x981)).bind fun ys => .ok (.tuple ys))).bind fun x983 => ofO (ninB x982 x983)).bindF fun k => if k = true then ((((((Res.ok t973)).bind fun x1016 => ((((((((Res.ok a_self)).bind fun x1006 => ofO (attrD x1006 "spots"))).bind fun x1007 => (((Res.ok v_marks_970).bind fun x1004 => if Mi.tyB x1004 = "tuple" then ((((Res.ok v_marks_970)).bind fun x1002 => ((Res.ok v_at_974)).bind fun x1003 => ofO (itemD x1002 x1003))).bind fun x1005 => ofO (indexD x1004 x1005) else .no)).bind fun x1008 => ofO (itemD x1007 x1008))).bind fun x1014 => ((((((((Res.ok a_self)).bind fun x1009 => ofO (attrD x1009 "spots"))).bind fun x1010 => ((Res.ok v_at_974)).bind fun x1011 => ofO (itemD x1010 x1011))).bind fun x1012 => ((Res.ok [])).bind fun x1013 => .ok (x1012 :: x1013))).bind fun x1015 => .ok (x1014 :: x1015))).bind fun x1017 => .ok (x1016 :: x1017))).bind fun x1018 => m_merged x1018).bindF fun v_codes_1019 => (Fl.nx v_codes_1019)) else (Fl.nx t973)) : Fl _ (D)).bind fun (t1020 : D) => (Fl.nx t1020)))).bind fun (t1021 : D) => ((((((((Res.ok a_self)).bind fun x1022 => ofO (attrD x1022 "signature"))).bind fun x1023 => ofO (attrD x1023 "handed"))).bind fun x1024 => ofO (itemsD x1024)).bindF fun xs => (loopF xs (t1021 : D) (fun v_at_1026 (t1025 : D) => ((((((Res.ok t1025)).bind fun x1032 => ((((((((Res.ok a_self)).bind fun x1027 => ofO (attrD x1027 "spots"))).bind fun x1028 => ((Res.ok v_at_1026)).bind fun x1029 => ofO (itemD x1028 x1029))).bind fun x1030 => ((Res.ok [])).bind fun x1031 => .ok (x1030 :: x1031))).bind fun x1033 => .ok (x1032 :: x1033))).bind fun x1034 => m_struck x1034).bindF fun v_codes_1035 => (Fl.nx v_codes_1035)))).bind fun (t1036 : D) => ((((((Res.ok a_self)).bind fun x1037 => ofO (attrD x1037 "target"))).bind fun x1038 => .ok (isNone x1038)).bindF fun k => if k = true then (((Res.ok t1036).bindF fun x1039 => Fl.rt x1039)).up else ((((((Res.ok a_self)).bind fun x1040 => ofO (attrD x1040 "signature"))).bind fun x1041 => ofO (attrD x1041 "result")).bindF fun v_result_1042 => ((((Res.ok v_result_1042)).bind fun x1043 => ((Res.ok (.str "!"))).bind fun x1044 => ofO (eqB x1043 x1044)).bindF fun k => if k = true then (((((((Res.ok t1036)).bind fun x1048 => ((((((Res.ok a_self)).bind fun x1045 => ofO (attrD x1045 "target"))).bind fun x1046 => ((Res.ok [])).bind fun x1047 => .ok (x1046 :: x1047))).bind fun x1049 => .ok (x1048 :: x1049))).bind fun x1050 => m_lost x1050).bindF fun x1051 => Fl.rt x1051)).up else (((((Res.ok v_result_1042)).bind fun x1052 => ((Res.ok (.str "-"))).bind fun x1053 => ofO (neB x1052 x1053)).bind fun k => if k = true then (((Res.ok v_result_1042)).bind fun x1054 => ((Res.ok v_marks_970)).bind fun x1055 => ofO (inB x1054 x1055)) else .ok false).bindF fun k => if k = true then (((((((Res.ok t1036)).bind fun x1066 => ((((((Res.ok a_self)).bind fun x1056 => ofO (attrD x1056 "target"))).bind fun x1064 => ((((((((Res.ok a_self)).bind fun x1059 => ofO (attrD x1059 "spots"))).bind fun x1060 => (((Res.ok v_marks_970).bind fun x1057 => if Mi.tyB x1057 = "tuple" then ((Res.ok v_result_1042)).bind fun x1058 => ofO (indexD x1057 x1058) else .no)).bind fun x1061 => ofO (itemD x1060 x1061))).bind fun x1062 => ((Res.ok [])).bind fun x1063 => .ok (x1062 :: x1063))).bind fun x1065 => .ok (x1064 :: x1065))).bind fun x1067 => .ok (x1066 :: x1067))).bind fun x1068 => m_placed x1068).bindF fun x1069 => Fl.rt x1069)).up else ((((((Res.ok t1036)).bind fun x1073 => ((((((Res.ok a_self)).bind fun x1070 => ofO (attrD x1070 "target"))).bind fun x1071 => ((Res.ok [])).bind fun x1072 => .ok (x1071 :: x1072))).bind fun x1074 => .ok (x1073 :: x1074))).bind fun x1075 => m_alone x1075).bindF fun x1076 => Fl.rt x1076))))))))
def m_Step__call : List D → Res D
  | [a_self, a_codes] => (o_Step__call a_self a_codes).res
  | _ => .no
def o_Step_move (a_self a_codes : D) : Fl Empty Unit := ((((((Res.ok a_self)).bind fun x1077 => ofO (attrD x1077 "word"))).bind fun x1078 => ((Res.ok (.str "new"))).bind fun x1079 => ofO (eqB x1078 x1079)).bindF fun k => if k = true then (((((((Res.ok a_codes)).bind fun x1085 => ((((((((Res.ok a_self)).bind fun x1080 => ofO (attrD x1080 "spots"))).bind fun x1081 => ((Res.ok (.int 0))).bind fun x1082 => ofO (itemD x1081 x1082))).bind fun x1083 => ((Res.ok [])).bind fun x1084 => .ok (x1083 :: x1084))).bind fun x1086 => .ok (x1085 :: x1086))).bind fun x1087 => m_alone x1087).bindF fun x1088 => Fl.rt x1088)).up else ((((((Res.ok a_self)).bind fun x1089 => ofO (attrD x1089 "word"))).bind fun x1095 => ((((((Res.ok (.str "let"))).bind fun x1092 => ((((Res.ok (.str "get"))).bind fun x1090 => ((Res.ok [])).bind fun x1091 => .ok (x1090 :: x1091))).bind fun x1093 => .ok (x1092 :: x1093))).bind fun x1094 => (ofO (mkL x1094)).bind fun ys => .ok (.tuple ys))).bind fun x1096 => ofO (inB x1095 x1096)).bindF fun k => if k = true then (((((((Res.ok a_codes)).bind fun x1107 => ((((((((Res.ok a_self)).bind fun x1097 => ofO (attrD x1097 "spots"))).bind fun x1098 => ((Res.ok (.int 0))).bind fun x1099 => ofO (itemD x1098 x1099))).bind fun x1105 => ((((((((Res.ok a_self)).bind fun x1100 => ofO (attrD x1100 "spots"))).bind fun x1101 => ((Res.ok (.int 1))).bind fun x1102 => ofO (itemD x1101 x1102))).bind fun x1103 => ((Res.ok [])).bind fun x1104 => .ok (x1103 :: x1104))).bind fun x1106 => .ok (x1105 :: x1106))).bind fun x1108 => .ok (x1107 :: x1108))).bind fun x1109 => m_placed x1109).bindF fun x1110 => Fl.rt x1110)).up else ((((((Res.ok a_self)).bind fun x1111 => ofO (attrD x1111 "word"))).bind fun x1112 => ((Res.ok (.str "send"))).bind fun x1113 => ofO (eqB x1112 x1113)).bindF fun k => if k = true then (((((((Res.ok a_codes)).bind fun x1119 => ((((((((Res.ok a_self)).bind fun x1114 => ofO (attrD x1114 "spots"))).bind fun x1115 => ((Res.ok (.int 0))).bind fun x1116 => ofO (itemD x1115 x1116))).bind fun x1117 => ((Res.ok [])).bind fun x1118 => .ok (x1117 :: x1118))).bind fun x1120 => .ok (x1119 :: x1120))).bind fun x1121 => m_struck x1121).bindF fun x1122 => Fl.rt x1122)).up else ((((((Res.ok a_self)).bind fun x1123 => ofO (attrD x1123 "word"))).bind fun x1124 => ((Res.ok (.str "put"))).bind fun x1125 => ofO (eqB x1124 x1125)).bindF fun k => if k = true then (((((((Res.ok a_codes)).bind fun x1136 => ((((((((Res.ok a_self)).bind fun x1126 => ofO (attrD x1126 "spots"))).bind fun x1127 => ((Res.ok (.int 0))).bind fun x1128 => ofO (itemD x1127 x1128))).bind fun x1134 => ((((((((Res.ok a_self)).bind fun x1129 => ofO (attrD x1129 "spots"))).bind fun x1130 => ((Res.ok (.int 1))).bind fun x1131 => ofO (itemD x1130 x1131))).bind fun x1132 => ((Res.ok [])).bind fun x1133 => .ok (x1132 :: x1133))).bind fun x1135 => .ok (x1134 :: x1135))).bind fun x1137 => .ok (x1136 :: x1137))).bind fun x1138 => m_merged x1138).bindF fun x1139 => Fl.rt x1139)).up else ((((((Res.ok a_self)).bind fun x1140 => ofO (attrD x1140 "word"))).bind fun x1141 => ((Res.ok (.str "call"))).bind fun x1142 => ofO (eqB x1141 x1142)).bindF fun k => if k = true then ((((Res.ok a_self).bind fun x1143 => if isC "Step" x1143 = true then ((((Res.ok a_codes)).bind fun x1144 => ((Res.ok [])).bind fun x1145 => .ok (x1144 :: x1145))).bind fun x1146 => m_Step__call (x1143 :: x1146) else .no).bindF fun x1147 => Fl.rt x1147)).up else ((Res.ok a_codes).bindF fun x1148 => Fl.rt x1148))))))
def m_Step_move : List D → Res D
  | [a_self, a_codes] => (o_Step_move a_self a_codes).res
  | _ => .no
def o_Step_total (a_self a_regions : D) : Fl Empty Unit := ((((((((Res.ok a_self)).bind fun x1149 => ofO (attrD x1149 "names"))).bind fun x1150 => ((Res.ok [])).bind fun x1151 => .ok (x1150 :: x1151))).bind fun x1162 => (((((Res.ok a_self).bind fun x1152 => if isC "Step" x1152 = true then (((((Res.ok a_self).bind fun x1153 => if isC "Step" x1153 = true then ((((Res.ok a_regions)).bind fun x1154 => ((Res.ok [])).bind fun x1155 => .ok (x1154 :: x1155))).bind fun x1156 => m_Step__codes (x1153 :: x1156) else .no)).bind fun x1157 => ((Res.ok [])).bind fun x1158 => .ok (x1157 :: x1158))).bind fun x1159 => m_Step_move (x1152 :: x1159) else .no)).bind fun x1160 => ((Res.ok [])).bind fun x1161 => .ok (x1160 :: x1161))).bind fun x1163 => m_Regions (gD_Regions_1_codes x1162 x1163)).bindF fun x1164 => Fl.rt x1164)
def m_Step_total : List D → Res D
  | [a_self, a_regions] => (o_Step_total a_self a_regions).res
  | _ => .no
def o_Step___call__ (a_self a_regions : D) : Fl Empty Unit := (((Res.ok a_self).bind fun x1165 => if isC "Step" x1165 = true then ((((Res.ok a_regions)).bind fun x1166 => ((Res.ok [])).bind fun x1167 => .ok (x1166 :: x1167))).bind fun x1168 => m_Step_demand (x1165 :: x1168) else .no).bindF fun v_stop_1169 => ((((Res.ok v_stop_1169)).bind fun x1170 => .ok (!isNone x1170)).bindF fun k => if k = true then (((((((Res.ok v_stop_1169)).bind fun x1171 => ((Res.ok (.int 0))).bind fun x1172 => ofO (itemD x1171 x1172))).bind fun x1177 => ((((((Res.ok v_stop_1169)).bind fun x1173 => ((Res.ok (.int 1))).bind fun x1174 => ofO (itemD x1173 x1174))).bind fun x1175 => ((Res.ok [])).bind fun x1176 => .ok (x1175 :: x1176))).bind fun x1178 => .ok (x1177 :: x1178)).bindF fun ds1179 => errX "Refused" 2 ds1179)).up else (((Res.ok a_self).bind fun x1180 => if isC "Step" x1180 = true then ((((Res.ok a_regions)).bind fun x1181 => ((Res.ok [])).bind fun x1182 => .ok (x1181 :: x1182))).bind fun x1183 => m_Step_total (x1180 :: x1183) else .no).bindF fun x1184 => Fl.rt x1184)))
def m_Step___call__ : List D → Res D
  | [a_self, a_regions] => (o_Step___call__ a_self a_regions).res
  | _ => .no
def o__law_right (a__law_step a__law_state a__law_names_here a__law_stop a__law_due : D) : Fl Empty Unit := ((((((((((Res.ok a__law_step).bind fun x1185 => if isC "Step" x1185 = true then ((((Res.ok a__law_state)).bind fun x1186 => ((Res.ok [])).bind fun x1187 => .ok (x1186 :: x1187))).bind fun x1188 => m_Step_total (x1185 :: x1188) else .no)).bind fun x1193 => ((((Res.ok a__law_names_here)).bind fun x1191 => ((((Res.ok a__law_due)).bind fun x1189 => ((Res.ok [])).bind fun x1190 => .ok (x1189 :: x1190))).bind fun x1192 => .ok (x1191 :: x1192))).bind fun x1194 => .ok (x1193 :: x1194))).bind fun x1195 => m__law_is x1195)).bind fun x1196 => ofO (asB x1196)).bind fun k => .ok (!k)).bindF fun k => if k = true then (((Res.ok (.bool false)).bindF fun x1197 => Fl.rt x1197)).up else (((Res.ok a__law_step).bind fun x1198 => if isC "Step" x1198 = true then ((((Res.ok a__law_state)).bind fun x1199 => ((Res.ok [])).bind fun x1200 => .ok (x1199 :: x1200))).bind fun x1201 => m_Step_demand (x1198 :: x1201) else .no).bindF fun v__law_told_1202 => ((Res.ok .none).bindF fun v__law_answer_1203 => ((Res.ok .none).bindF fun v__law_refused_1204 => ((tryX (((Res.ok a__law_step).bind fun x1218 => if isC "Step" x1218 = true then ((((Res.ok a__law_state)).bind fun x1216 => ((Res.ok [])).bind fun x1217 => .ok (x1216 :: x1217))).bind fun x1219 => m_Step___call__ (x1218 :: x1219) else .no).bindF fun v__law_answer_1220 => (Fl.nx (v__law_answer_1220, v__law_refused_1204))) [("BadRegions", false), ("Refused", true)] (fun c1 f1 => ((((((xfR xtab c1 f1 "why")).bind fun x1223 => ((((xfR xtab c1 f1 "name")).bind fun x1221 => ((Res.ok [])).bind fun x1222 => .ok (x1221 :: x1222))).bind fun x1224 => .ok (x1223 :: x1224))).bind fun x1225 => (ofO (mkL x1225)).bind fun ys => .ok (.tuple ys)).bindF fun v__law_refused_1226 => (Fl.nx (v__law_answer_1203, v__law_refused_1226)))) : Fl _ (D × D)).bind fun (t1227 : D × D) => ((((Res.ok a__law_stop)).bind fun x1228 => .ok (isNone x1228)).bindF fun k => if k = true then ((((((Res.ok v__law_told_1202)).bind fun x1229 => .ok (.bool (isNone x1229))).bind fun x1239 => (ofO (asB x1239)).bind fun k => if k = true then ((((Res.ok t1227.2)).bind fun x1230 => .ok (.bool (isNone x1230))).bind fun x1238 => (ofO (asB x1238)).bind fun k => if k = true then (((((Res.ok t1227.1)).bind fun x1235 => ((((Res.ok a__law_names_here)).bind fun x1233 => ((((Res.ok a__law_due)).bind fun x1231 => ((Res.ok [])).bind fun x1232 => .ok (x1231 :: x1232))).bind fun x1234 => .ok (x1233 :: x1234))).bind fun x1236 => .ok (x1235 :: x1236))).bind fun x1237 => m__law_is x1237) else .ok (.bool false)) else .ok (.bool false)).bindF fun x1240 => Fl.rt x1240)).up else (((((((Res.ok v__law_told_1202)).bind fun x1248 => ((((((((Res.ok (.str "away"))).bind fun x1243 => ((((Res.ok a__law_stop)).bind fun x1241 => ((Res.ok [])).bind fun x1242 => .ok (x1241 :: x1242))).bind fun x1244 => .ok (x1243 :: x1244))).bind fun x1245 => (ofO (mkL x1245)).bind fun ys => .ok (.tuple ys))).bind fun x1246 => ((Res.ok [])).bind fun x1247 => .ok (x1246 :: x1247))).bind fun x1249 => .ok (x1248 :: x1249))).bind fun x1250 => m__law_same x1250).bind fun x1261 => (ofO (asB x1261)).bind fun k => if k = true then (((((Res.ok t1227.2)).bind fun x1258 => ((((((((Res.ok (.str "away"))).bind fun x1253 => ((((Res.ok a__law_stop)).bind fun x1251 => ((Res.ok [])).bind fun x1252 => .ok (x1251 :: x1252))).bind fun x1254 => .ok (x1253 :: x1254))).bind fun x1255 => (ofO (mkL x1255)).bind fun ys => .ok (.tuple ys))).bind fun x1256 => ((Res.ok [])).bind fun x1257 => .ok (x1256 :: x1257))).bind fun x1259 => .ok (x1258 :: x1259))).bind fun x1260 => m__law_same x1260) else .ok (.bool false)).bindF fun x1262 => Fl.rt x1262)))))))
def m__law_right : List D → Res D
  | [a__law_step, a__law_state, a__law_names_here, a__law_stop, a__law_due] => (o__law_right a__law_step a__law_state a__law_names_here a__law_stop a__law_due).res
  | _ => .no
def o_mentioned (a_statement : D) : Fl Empty Unit := ((((((Res.ok a_statement)).bind fun x1263 => ((Res.ok (.int 0))).bind fun x1264 => ofO (itemD x1263 x1264))).bind fun x1270 => ((((((Res.ok (.str "if"))).bind fun x1267 => ((((Res.ok (.str "loop"))).bind fun x1265 => ((Res.ok [])).bind fun x1266 => .ok (x1265 :: x1266))).bind fun x1268 => .ok (x1267 :: x1268))).bind fun x1269 => (ofO (mkL x1269)).bind fun ys => .ok (.tuple ys))).bind fun x1271 => ofO (inB x1270 x1271)).bindF fun k => if k = true then (((((Res.ok [])).bind fun x1272 => (ofO (mkL x1272)).bind fun ys => .ok (.tuple ys)).bindF fun x1273 => Fl.rt x1273)).up else ((((((Res.ok a_statement)).bind fun x1274 => ((Res.ok (.int 0))).bind fun x1275 => ofO (itemD x1274 x1275))).bind fun x1276 => ((Res.ok (.str "call"))).bind fun x1277 => ofO (eqB x1276 x1277)).bindF fun k => if k = true then (((((((Res.ok a_statement)).bind fun x1278 => ((Res.ok (.int 2))).bind fun x1279 => ofO (itemD x1278 x1279))).bind fun x1280 => ofO (tupleD x1280)).bindF fun x1281 => Fl.rt x1281)).up else ((((((Res.ok a_statement)).bind fun x1282 => ((Res.ok (.int 0))).bind fun x1283 => ofO (itemD x1282 x1283))).bind fun x1284 => ((Res.ok (.str "get"))).bind fun x1285 => ofO (eqB x1284 x1285)).bindF fun k => if k = true then (((((Res.ok a_statement)).bind fun x1288 => ((((Res.ok (.int 1))).bind fun x1286 => ofO (asI x1286))).bind fun x1289 => ((((Res.ok (.int 3))).bind fun x1287 => ofO (asI x1287))).bind fun x1290 => ofO (sliceD x1288 x1289 x1290)).bindF fun x1291 => Fl.rt x1291)).up else ((((Res.ok a_statement)).bind fun x1293 => ((((Res.ok (.int 1))).bind fun x1292 => ofO (asI x1292))).bind fun x1294 => ((Res.ok none)).bind fun x1295 => ofO (sliceD x1293 x1294 x1295)).bindF fun x1296 => Fl.rt x1296))))
def m_mentioned : List D → Res D
  | [a_statement] => (o_mentioned a_statement).res
  | _ => .no
def o_Step___init__ (a_names a_statement a_signature a_copied : D) : Fl Empty (List (D × D)) := ((((Res.ok a_names)).bind fun x1297 => ofO (tupleD x1297)).bindF fun f_names_1298 => ((Res.ok a_signature).bindF fun f_signature_1299 => ((((Res.ok a_statement)).bind fun x1300 => ((Res.ok (.int 0))).bind fun x1301 => ofO (itemD x1300 x1301)).bindF fun f_word_1302 => (((((((Res.ok a_copied)).bind fun x1303 => ofO (asB x1303)).bind fun k => if k = true then (((ofO (getF [(.str "names", f_names_1298), (.str "signature", f_signature_1299), (.str "word", f_word_1302)] "word"))).bind fun x1304 => ((Res.ok (.str "send"))).bind fun x1305 => ofO (eqB x1304 x1305)) else .ok false).bindF fun k => if k = true then ((Res.ok (.str "post")).bindF fun f_word_1307 => (Fl.nx f_word_1307)) else (Fl.nx f_word_1302)) : Fl _ (D)).bind fun (t1308 : D) => ((((((((((((Res.ok a_statement)).bind fun x1309 => ((Res.ok [])).bind fun x1310 => .ok (x1309 :: x1310))).bind fun x1311 => m_mentioned x1311)).bind fun x1312 => ofO (itemsD x1312))).bind fun x1316 => lcC x1316 (fun v1313 => (Res.ok true)) (fun v1313 => ((ofO (getF [(.str "names", f_names_1298), (.str "signature", f_signature_1299), (.str "word", t1308)] "names")).bind fun x1314 => if Mi.tyB x1314 = "tuple" then ((Res.ok v1313)).bind fun x1315 => ofO (indexD x1314 x1315) else .no)))).bind fun x1317 => .ok (.list x1317)).bindF fun f_spots_1318 => ((((((((((ofO (getF [(.str "names", f_names_1298), (.str "signature", f_signature_1299), (.str "word", t1308), (.str "spots", f_spots_1318)] "word"))).bind fun x1320 => ((((Res.ok [])).bind fun x1319 => (ofO (mkL x1319)).bind fun ys => .ok (.tuple ys))).bind fun x1321 => ofO (tgetD tb_DEMANDED x1320 x1321))).bind fun x1322 => ofO (itemsD x1322))).bind fun x1326 => lcC x1326 (fun v1323 => (Res.ok true)) (fun v1323 => (((ofO (getF [(.str "names", f_names_1298), (.str "signature", f_signature_1299), (.str "word", t1308), (.str "spots", f_spots_1318)] "spots"))).bind fun x1324 => ((Res.ok v1323)).bind fun x1325 => ofO (itemD x1324 x1325))))).bind fun x1327 => .ok (.list x1327)).bindF fun f_needs_1328 => ((Res.ok .none).bindF fun f_target_1329 => ((((((ofO (getF [(.str "names", f_names_1298), (.str "signature", f_signature_1299), (.str "word", t1308), (.str "spots", f_spots_1318), (.str "needs", f_needs_1328), (.str "target", f_target_1329)] "word"))).bind fun x1330 => ((Res.ok (.str "call"))).bind fun x1331 => ofO (eqB x1330 x1331)).bindF fun k => if k = true then ((((((ofO (getF [(.str "names", f_names_1298), (.str "signature", f_signature_1299), (.str "word", t1308), (.str "spots", f_spots_1318), (.str "needs", f_needs_1328), (.str "target", f_target_1329)] "spots"))).bind fun x1349 => listR x1349)).bind fun x1350 => .ok (.list x1350)).bindF fun f_needs_1351 => ((((((((Res.ok a_statement)).bind fun x1352 => ((Res.ok (.int 3))).bind fun x1353 => ofO (itemD x1352 x1353))).bind fun x1354 => .ok (!isNone x1354)).bindF fun k => if k = true then (((ofO (getF [(.str "names", f_names_1298), (.str "signature", f_signature_1299), (.str "word", t1308), (.str "spots", f_spots_1318), (.str "needs", f_needs_1351), (.str "target", f_target_1329)] "names")).bind fun x1362 => if Mi.tyB x1362 = "tuple" then ((((Res.ok a_statement)).bind fun x1360 => ((Res.ok (.int 3))).bind fun x1361 => ofO (itemD x1360 x1361))).bind fun x1363 => ofO (indexD x1362 x1363) else .no).bindF fun f_target_1364 => (Fl.nx f_target_1364)) else (Fl.nx f_target_1329)) : Fl _ (D)).bind fun (t1365 : D) => (Fl.nx (f_needs_1351, t1365)))) else (Fl.nx (f_needs_1328, f_target_1329))) : Fl _ (D × D)).bind fun (t1366 : D × D) => (Fl.nx [(.str "names", f_names_1298), (.str "signature", f_signature_1299), (.str "word", t1308), (.str "spots", f_spots_1318), (.str "needs", t1366.1), (.str "target", t1366.2)])))))))))
def m_Step : List D → Res D
  | [a_names, a_statement, a_signature, a_copied] => ansI (o_Step___init__ a_names a_statement a_signature a_copied) "Step"
  | _ => .no
def gD_Step_2 (xs ys : List D) : List D := match xs, ys with
  | [x0, x1], [] => [x0, x1, .none, (.bool false)]
  | _, _ => []
def gD_Step_2_copied (xs ys : List D) : List D := match xs, ys with
  | [x0, x1], [y0] => [x0, x1, .none, y0]
  | _, _ => []
def o__law_gone (a__law_labels_here a__law_i : D) : Fl Empty Unit := ((((((((Res.ok a__law_labels_here)).bind fun x1367 => ofO (itemsD x1367))).bind fun x1373 => lcC x1373 (fun v1368 => (Res.ok true)) (fun v1368 => ((((Res.ok v1368)).bind fun x1371 => ((((Res.ok a__law_labels_here)).bind fun x1369 => ((Res.ok a__law_i)).bind fun x1370 => ofO (itemD x1369 x1370))).bind fun x1372 => ofO (eqB x1371 x1372)).bind fun k => if k = true then (Res.ok (.int 0)) else (Res.ok v1368))))).bind fun x1374 => .ok (.list x1374)).bindF fun x1375 => Fl.rt x1375)
def m__law_gone : List D → Res D
  | [a__law_labels_here, a__law_i] => (o__law_gone a__law_labels_here a__law_i).res
  | _ => .no
def o__law_tie (a__law_labels_here a__law_i a__law_j : D) : Fl Empty Unit := ((((Res.ok a__law_labels_here)).bind fun x1376 => ((Res.ok a__law_i)).bind fun x1377 => ofO (itemD x1376 x1377)).bindF fun v__law_low_1378 => ((((Res.ok a__law_labels_here)).bind fun x1379 => ((Res.ok a__law_j)).bind fun x1380 => ofO (itemD x1379 x1380)).bindF fun v__law_high_1381 => ((((((Res.ok v__law_low_1378)).bind fun x1382 => ((Res.ok v__law_high_1381)).bind fun x1383 => ofO (gtB x1382 x1383)).bindF fun k => if k = true then ((((Res.ok a__law_labels_here)).bind fun x1390 => ((Res.ok a__law_j)).bind fun x1391 => ofO (itemD x1390 x1391)).bindF fun v__law_low_1392 => ((((Res.ok a__law_labels_here)).bind fun x1393 => ((Res.ok a__law_i)).bind fun x1394 => ofO (itemD x1393 x1394)).bindF fun v__law_high_1395 => (Fl.nx (v__law_low_1392, v__law_high_1395)))) else (Fl.nx (v__law_low_1378, v__law_high_1381))) : Fl _ (D × D)).bind fun (t1396 : D × D) => ((((((((Res.ok a__law_labels_here)).bind fun x1397 => ofO (itemsD x1397))).bind fun x1401 => lcC x1401 (fun v1398 => (Res.ok true)) (fun v1398 => ((((Res.ok v1398)).bind fun x1399 => ((Res.ok t1396.2)).bind fun x1400 => ofO (eqB x1399 x1400)).bind fun k => if k = true then (Res.ok t1396.1) else (Res.ok v1398))))).bind fun x1402 => .ok (.list x1402)).bindF fun x1403 => Fl.rt x1403))))
def m__law_tie : List D → Res D
  | [a__law_labels_here, a__law_i, a__law_j] => (o__law_tie a__law_labels_here a__law_i a__law_j).res
  | _ => .no
def o_law (a__law_script : D) : Fl Empty Unit := ((((((Res.ok a__law_script)).bind fun x1404 => ((Res.ok [])).bind fun x1405 => .ok (x1404 :: x1405))).bind fun x1406 => m__law_draws x1406).bindF fun v__law_row_1407 => ((((((((((Res.ok v__law_row_1407)).bind fun x1410 => ((((Res.ok (.int 0))).bind fun x1408 => ((Res.ok [])).bind fun x1409 => .ok (x1408 :: x1409))).bind fun x1411 => .ok (x1410 :: x1411))).bind fun x1412 => m__law_at x1412)).bind fun x1413 => ofO (intD x1413))).bind fun x1414 => ((Res.ok (.int 7))).bind fun x1415 => ofO (modD x1414 x1415)).bindF fun v__law_many_1416 => ((((((((((Res.ok v__law_row_1407)).bind fun x1419 => ((((Res.ok (.int 1))).bind fun x1417 => ((Res.ok [])).bind fun x1418 => .ok (x1417 :: x1418))).bind fun x1420 => .ok (x1419 :: x1420))).bind fun x1421 => m__law_at x1421)).bind fun x1424 => ((((Res.ok v__law_many_1416)).bind fun x1422 => ((Res.ok [])).bind fun x1423 => .ok (x1422 :: x1423))).bind fun x1425 => .ok (x1424 :: x1425))).bind fun x1426 => m__law_names x1426).bindF fun v__law_names_here_1427 => ((((((Res.ok v__law_row_1407)).bind fun x1432 => ((((Res.ok (.int 2))).bind fun x1430 => ((((Res.ok v__law_many_1416)).bind fun x1428 => ((Res.ok [])).bind fun x1429 => .ok (x1428 :: x1429))).bind fun x1431 => .ok (x1430 :: x1431))).bind fun x1433 => .ok (x1432 :: x1433))).bind fun x1434 => m__law_labels x1434).bindF fun v__law_labels_here_1435 => ((((((Res.ok v__law_names_here_1427)).bind fun x1436 => ((Res.ok [])).bind fun x1437 => .ok (x1436 :: x1437))).bind fun x1440 => ((((Res.ok v__law_labels_here_1435)).bind fun x1438 => ((Res.ok [])).bind fun x1439 => .ok (x1438 :: x1439))).bind fun x1441 => m_Regions (gD_Regions_1_codes x1440 x1441)).bindF fun v__law_state_1442 => ((((((((Res.ok v__law_row_1407)).bind fun x1445 => ((((Res.ok (.int 11))).bind fun x1443 => ((Res.ok [])).bind fun x1444 => .ok (x1443 :: x1444))).bind fun x1446 => .ok (x1445 :: x1446))).bind fun x1447 => m__law_at x1447)).bind fun x1448 => ofO (intD x1448)).bindF fun v__law_shift_1449 => ((((Res.ok v__law_many_1416)).bind fun x1450 => ofO (rng1 x1450)).bindF fun xs => (loopF xs (() : Unit) (fun v__law_i_1452 (t1451 : Unit) => ((((((Res.ok v__law_i_1452)).bind fun x1453 => ((Res.ok v__law_shift_1449)).bind fun x1454 => ofO (addD x1453 x1454))).bind fun x1455 => ((Res.ok v__law_many_1416)).bind fun x1456 => ofO (modD x1455 x1456)).bindF fun v__law_j_1457 => ((((Res.ok v__law_names_here_1427)).bind fun x1458 => ((Res.ok v__law_i_1452)).bind fun x1459 => ofO (itemD x1458 x1459)).bindF fun v__law_x_1460 => ((((Res.ok v__law_names_here_1427)).bind fun x1461 => ((Res.ok v__law_j_1457)).bind fun x1462 => ofO (itemD x1461 x1462)).bindF fun v__law_y_1463 => ((Res.ok .none).bindF fun v__law_first_1464 => ((((((((Res.ok v__law_labels_here_1435)).bind fun x1465 => ((Res.ok v__law_i_1452)).bind fun x1466 => ofO (itemD x1465 x1466))).bind fun x1467 => ((Res.ok (.int 0))).bind fun x1468 => ofO (eqB x1467 x1468)).bindF fun k => if k = true then ((Res.ok v__law_x_1460).bindF fun v__law_first_1470 => (Fl.nx v__law_first_1470)) else (Fl.nx v__law_first_1464)) : Fl _ (D)).bind fun (t1471 : D) => ((Res.ok .none).bindF fun v__law_second_1472 => ((((((((Res.ok v__law_labels_here_1435)).bind fun x1473 => ((Res.ok v__law_j_1457)).bind fun x1474 => ofO (itemD x1473 x1474))).bind fun x1475 => ((Res.ok (.int 0))).bind fun x1476 => ofO (eqB x1475 x1476)).bindF fun k => if k = true then ((Res.ok v__law_y_1463).bindF fun v__law_second_1478 => (Fl.nx v__law_second_1478)) else (Fl.nx v__law_second_1472)) : Fl _ (D)).bind fun (t1479 : D) => ((Res.ok t1471).bindF fun v__law_either_1480 => ((((((Res.ok t1471)).bind fun x1481 => .ok (isNone x1481)).bindF fun k => if k = true then ((Res.ok t1479).bindF fun v__law_either_1483 => (Fl.nx v__law_either_1483)) else (Fl.nx v__law_either_1480)) : Fl _ (D)).bind fun (t1484 : D) => ((((Res.ok v__law_labels_here_1435)).bind fun x1486 => listR x1486).bindF fun l__law_moved_1485 => ((((Res.ok v__law_labels_here_1435)).bind fun x1487 => ((Res.ok v__law_j_1457)).bind fun x1488 => ofO (itemD x1487 x1488)).bindF fun x1667 => (Res.ok v__law_i_1452).bindF fun x1668 => setK (setI l__law_moved_1485 x1668 x1667) fun l__law_moved_1489 => ((((((((((((((((Res.ok (.str "use"))).bind fun x1493 => ((((Res.ok v__law_x_1460)).bind fun x1491 => ((Res.ok [])).bind fun x1492 => .ok (x1491 :: x1492))).bind fun x1494 => .ok (x1493 :: x1494))).bind fun x1495 => (ofO (mkL x1495)).bind fun ys => .ok (.tuple ys))).bind fun x1500 => ((((Res.ok t1471)).bind fun x1498 => ((((Res.ok v__law_labels_here_1435)).bind fun x1496 => ((Res.ok [])).bind fun x1497 => .ok (x1496 :: x1497))).bind fun x1499 => .ok (x1498 :: x1499))).bind fun x1501 => .ok (x1500 :: x1501))).bind fun x1502 => ofO (mkL x1502))).bind fun x1503 => .ok (.list x1503))).bind fun x1539 => ((((((((((((((Res.ok (.str "post"))).bind fun x1506 => ((((Res.ok v__law_x_1460)).bind fun x1504 => ((Res.ok [])).bind fun x1505 => .ok (x1504 :: x1505))).bind fun x1507 => .ok (x1506 :: x1507))).bind fun x1508 => (ofO (mkL x1508)).bind fun ys => .ok (.tuple ys))).bind fun x1513 => ((((Res.ok t1471)).bind fun x1511 => ((((Res.ok v__law_labels_here_1435)).bind fun x1509 => ((Res.ok [])).bind fun x1510 => .ok (x1509 :: x1510))).bind fun x1512 => .ok (x1511 :: x1512))).bind fun x1514 => .ok (x1513 :: x1514))).bind fun x1515 => ofO (mkL x1515))).bind fun x1516 => .ok (.list x1516))).bind fun x1537 => ((((((((((((((Res.ok (.str "send"))).bind fun x1519 => ((((Res.ok v__law_x_1460)).bind fun x1517 => ((Res.ok [])).bind fun x1518 => .ok (x1517 :: x1518))).bind fun x1520 => .ok (x1519 :: x1520))).bind fun x1521 => (ofO (mkL x1521)).bind fun ys => .ok (.tuple ys))).bind fun x1531 => ((((Res.ok t1471)).bind fun x1529 => ((((((((Res.ok v__law_labels_here_1435)).bind fun x1524 => ((((Res.ok v__law_i_1452)).bind fun x1522 => ((Res.ok [])).bind fun x1523 => .ok (x1522 :: x1523))).bind fun x1525 => .ok (x1524 :: x1525))).bind fun x1526 => m__law_gone x1526)).bind fun x1527 => ((Res.ok [])).bind fun x1528 => .ok (x1527 :: x1528))).bind fun x1530 => .ok (x1529 :: x1530))).bind fun x1532 => .ok (x1531 :: x1532))).bind fun x1533 => ofO (mkL x1533))).bind fun x1534 => .ok (.list x1534))).bind fun x1535 => ((Res.ok [])).bind fun x1536 => .ok (x1535 :: x1536))).bind fun x1538 => .ok (x1537 :: x1538))).bind fun x1540 => .ok (x1539 :: x1540))).bind fun x1541 => ofO (mkL x1541)).bindF fun l__law_rows_1490 => ((((Res.ok (.list l__law_rows_1490))).bind fun x1586 => ((((((((((((((((((Res.ok (.str "put"))).bind fun x1547 => ((((Res.ok v__law_x_1460)).bind fun x1545 => ((((Res.ok v__law_y_1463)).bind fun x1543 => ((Res.ok [])).bind fun x1544 => .ok (x1543 :: x1544))).bind fun x1546 => .ok (x1545 :: x1546))).bind fun x1548 => .ok (x1547 :: x1548))).bind fun x1549 => (ofO (mkL x1549)).bind fun ys => .ok (.tuple ys))).bind fun x1561 => ((((Res.ok t1484)).bind fun x1559 => ((((((((Res.ok v__law_labels_here_1435)).bind fun x1554 => ((((Res.ok v__law_i_1452)).bind fun x1552 => ((((Res.ok v__law_j_1457)).bind fun x1550 => ((Res.ok [])).bind fun x1551 => .ok (x1550 :: x1551))).bind fun x1553 => .ok (x1552 :: x1553))).bind fun x1555 => .ok (x1554 :: x1555))).bind fun x1556 => m__law_tie x1556)).bind fun x1557 => ((Res.ok [])).bind fun x1558 => .ok (x1557 :: x1558))).bind fun x1560 => .ok (x1559 :: x1560))).bind fun x1562 => .ok (x1561 :: x1562))).bind fun x1563 => ofO (mkL x1563))).bind fun x1564 => .ok (.list x1564))).bind fun x1582 => ((((((((((((((Res.ok (.str "cut"))).bind fun x1569 => ((((Res.ok v__law_x_1460)).bind fun x1567 => ((((Res.ok v__law_y_1463)).bind fun x1565 => ((Res.ok [])).bind fun x1566 => .ok (x1565 :: x1566))).bind fun x1568 => .ok (x1567 :: x1568))).bind fun x1570 => .ok (x1569 :: x1570))).bind fun x1571 => (ofO (mkL x1571)).bind fun ys => .ok (.tuple ys))).bind fun x1576 => ((((Res.ok t1471)).bind fun x1574 => ((((Res.ok v__law_labels_here_1435)).bind fun x1572 => ((Res.ok [])).bind fun x1573 => .ok (x1572 :: x1573))).bind fun x1575 => .ok (x1574 :: x1575))).bind fun x1577 => .ok (x1576 :: x1577))).bind fun x1578 => ofO (mkL x1578))).bind fun x1579 => .ok (.list x1579))).bind fun x1580 => ((Res.ok [])).bind fun x1581 => .ok (x1580 :: x1581))).bind fun x1583 => .ok (x1582 :: x1583))).bind fun x1584 => ofO (mkL x1584))).bind fun x1585 => .ok (.list x1585))).bind fun x1587 => addR x1586 x1587).bindF fun l__law_rows_1542 => ((((((((((((Res.ok (.str "get"))).bind fun x1600 => ((((Res.ok v__law_x_1460)).bind fun x1598 => ((((Res.ok v__law_y_1463)).bind fun x1596 => ((((((((((Res.ok v__law_row_1407)).bind fun x1590 => ((((Res.ok (.int 12))).bind fun x1588 => ((Res.ok [])).bind fun x1589 => .ok (x1588 :: x1589))).bind fun x1591 => .ok (x1590 :: x1591))).bind fun x1592 => m__law_at x1592)).bind fun x1593 => ofO (intD x1593))).bind fun x1594 => ((Res.ok [])).bind fun x1595 => .ok (x1594 :: x1595))).bind fun x1597 => .ok (x1596 :: x1597))).bind fun x1599 => .ok (x1598 :: x1599))).bind fun x1601 => .ok (x1600 :: x1601))).bind fun x1602 => (ofO (mkL x1602)).bind fun ys => .ok (.tuple ys))).bind fun x1607 => ((((Res.ok t1479)).bind fun x1605 => ((((Res.ok (.list l__law_moved_1489))).bind fun x1603 => ((Res.ok [])).bind fun x1604 => .ok (x1603 :: x1604))).bind fun x1606 => .ok (x1605 :: x1606))).bind fun x1608 => .ok (x1607 :: x1608))).bind fun x1609 => ofO (mkL x1609))).bind fun x1610 => .ok (.list x1610)).bindF fun e1611 => if l__law_rows_1542.length < cap then ((((Res.ok (.list (l__law_rows_1542 ++ [e1611])))).bind fun x1612 => ofO (itemsD x1612)).bindF fun xs => (loopF xs (() : Unit) (fun v__law_one_1614 (t1613 : Unit) => (((((((((((((Res.ok v__law_names_here_1427)).bind fun x1619 => ((((((Res.ok v__law_one_1614)).bind fun x1615 => ((Res.ok (.int 0))).bind fun x1616 => ofO (itemD x1615 x1616))).bind fun x1617 => ((Res.ok [])).bind fun x1618 => .ok (x1617 :: x1618))).bind fun x1620 => .ok (x1619 :: x1620))).bind fun x1621 => m_Step (gD_Step_2 x1621 []))).bind fun x1634 => ((((Res.ok v__law_state_1442)).bind fun x1632 => ((((Res.ok v__law_names_here_1427)).bind fun x1630 => ((((((Res.ok v__law_one_1614)).bind fun x1622 => ((Res.ok (.int 1))).bind fun x1623 => ofO (itemD x1622 x1623))).bind fun x1628 => ((((((Res.ok v__law_one_1614)).bind fun x1624 => ((Res.ok (.int 2))).bind fun x1625 => ofO (itemD x1624 x1625))).bind fun x1626 => ((Res.ok [])).bind fun x1627 => .ok (x1626 :: x1627))).bind fun x1629 => .ok (x1628 :: x1629))).bind fun x1631 => .ok (x1630 :: x1631))).bind fun x1633 => .ok (x1632 :: x1633))).bind fun x1635 => .ok (x1634 :: x1635))).bind fun x1636 => m__law_right x1636)).bind fun x1637 => ofO (asB x1637)).bind fun k => .ok (!k)).bindF fun k => if k = true then (((Res.ok (.bool false)).bindF fun x1638 => Fl.rt x1638)).up else (Fl.nx ())))).bind fun (t1639 : Unit) => (((((((((((((((Res.ok v__law_names_here_1427)).bind fun x1640 => ofO (tupleD x1640))).bind fun x1648 => ((((((((Res.ok (.str "send"))).bind fun x1643 => ((((Res.ok v__law_x_1460)).bind fun x1641 => ((Res.ok [])).bind fun x1642 => .ok (x1641 :: x1642))).bind fun x1644 => .ok (x1643 :: x1644))).bind fun x1645 => (ofO (mkL x1645)).bind fun ys => .ok (.tuple ys))).bind fun x1646 => ((Res.ok [])).bind fun x1647 => .ok (x1646 :: x1647))).bind fun x1649 => .ok (x1648 :: x1649))).bind fun x1652 => ((((Res.ok (.bool true))).bind fun x1650 => ((Res.ok [])).bind fun x1651 => .ok (x1650 :: x1651))).bind fun x1653 => m_Step (gD_Step_2_copied x1652 x1653))).bind fun x1662 => ((((Res.ok v__law_state_1442)).bind fun x1660 => ((((Res.ok v__law_names_here_1427)).bind fun x1658 => ((((Res.ok t1471)).bind fun x1656 => ((((Res.ok v__law_labels_here_1435)).bind fun x1654 => ((Res.ok [])).bind fun x1655 => .ok (x1654 :: x1655))).bind fun x1657 => .ok (x1656 :: x1657))).bind fun x1659 => .ok (x1658 :: x1659))).bind fun x1661 => .ok (x1660 :: x1661))).bind fun x1663 => .ok (x1662 :: x1663))).bind fun x1664 => m__law_right x1664)).bind fun x1665 => ofO (asB x1665)).bind fun k => .ok (!k)).bindF fun k => if k = true then (((Res.ok (.bool false)).bindF fun x1666 => Fl.rt x1666)).up else (Fl.nx ()))) else .no)))))))))))))))).bind fun (t1669 : Unit) => ((((((Res.ok v__law_state_1442)).bind fun x1674 => ((((Res.ok v__law_names_here_1427)).bind fun x1672 => ((((Res.ok v__law_labels_here_1435)).bind fun x1670 => ((Res.ok [])).bind fun x1671 => .ok (x1670 :: x1671))).bind fun x1673 => .ok (x1672 :: x1673))).bind fun x1675 => .ok (x1674 :: x1675))).bind fun x1676 => m__law_is x1676).bindF fun x1677 => Fl.rt x1677))))))))
def m_law : List D → Res D
  | [a__law_script] => (o_law a__law_script).res
  | _ => .no
/-! what the top has written -/
structure TX (P : Program) (w : World) (K : PySem.W.Frag) (mg : Str → Option Value) : Prop where
  n_bool : mg "bool" = none
  n_int : mg "int" = none
  n_isinstance : mg "isinstance" = none
  n_len : mg "len" = none
  n_list : mg "list" = none
  n_min : mg "min" = none
  n_range : mg "range" = none
  n_str : mg "str" = none
  n_super : mg "super" = none
  n_tuple : mg "tuple" = none
  c_LETTERS : ∃ t, mg "LETTERS" = some (.str "abcdefghijklmnopqrstuvwxyz" t)
  c_LONGEST : ∃ t, mg "LONGEST" = some (.int 8 t)
  x_BadRegions : ErrT (gm K) mg "BadRegions"
  cc_Regions_MOST : ConstT (gm K) mg "Regions" "MOST" (.int 6)
  s_Regions : SubT (gm K) mg "Regions" [("Regions", true), ("Step", false)]
  ca_Refused : CatchT (gm K) mg "Refused" [("BadRegions", false), ("Refused", true)]
  tb_DEMANDED : TabT (gm K) w mg "DEMANDED" tb_DEMANDED
  ge_Refused : mg "Refused" = some (.ref (He.ga K "Refused"))
  fe_Refused : ∃ fd, FunS K "__init__" "Refused.__init__" (defArgs (inCls (topS 13) 0)) (defBody (inCls (topS 13) 0)) (defScope (inCls (topS 13) 0)) (He.ma K (He.ga K "Refused") "__init__") (ccOf K (He.ma K (He.ga K "Refused") "__init__")) fd
  eb_Refused : ErrF K (He.ga K "Refused") (He.ma K (He.ga K "Refused") "__init__") (ccOf K (He.ma K (He.ga K "Refused") "__init__")) file ["why", "name"]
  sp : SupP P file
  xf : XfT (gm K) xtab
  co : CisOk (gm K)
  g_canonical : mg "canonical" = some (.ref (He.ga K "canonical"))
  f_canonical : ∃ fd, FunD K "canonical" "canonical" (defArgs (topS 2)) (defBody (topS 2)) (defScope (topS 2)) [] [] (He.ga K "canonical") fd
  g_grouped : mg "grouped" = some (.ref (He.ga K "grouped"))
  f_grouped : ∃ fd, FunD K "grouped" "grouped" (defArgs (topS 20)) (defBody (topS 20)) (defScope (topS 20)) [] [] (He.ga K "grouped") fd
  g_is_name : mg "is_name" = some (.ref (He.ga K "is_name"))
  f_is_name : ∃ fd, FunD K "is_name" "is_name" (defArgs (topS 17)) (defBody (topS 17)) (defScope (topS 17)) [] [] (He.ga K "is_name") fd
  g_are_names : mg "are_names" = some (.ref (He.ga K "are_names"))
  f_are_names : ∃ fd, FunD K "are_names" "are_names" (defArgs (topS 18)) (defBody (topS 18)) (defScope (topS 18)) [] [] (He.ga K "are_names") fd
  mk_Regions : mg "Regions" = some (.ref (He.ga K "Regions")) ∧ Mk K (He.ga K "Regions") (He.ma K (He.ga K "Regions") "__init__")
  f_Regions___init__ : ∃ fd, FunD K "__init__" "Regions.__init__" (defArgs (inCls (topS 21) 2)) (defBody (inCls (topS 21) 2)) (defScope (inCls (topS 21) 2)) [] [("codes", .non)] (He.ma K (He.ga K "Regions") "__init__") fd
  g__law_draws : mg "_law_draws" = some (.ref (He.ga K "_law_draws"))
  f__law_draws : ∃ fd, FunD K "_law_draws" "_law_draws" (defArgs (topS 28)) (defBody (topS 28)) (defScope (topS 28)) [] [] (He.ga K "_law_draws") fd
  g__law_names : mg "_law_names" = some (.ref (He.ga K "_law_names"))
  f__law_names : ∃ fd, FunD K "_law_names" "_law_names" (defArgs (topS 30)) (defBody (topS 30)) (defScope (topS 30)) [] [] (He.ga K "_law_names") fd
  g__law_at : mg "_law_at" = some (.ref (He.ga K "_law_at"))
  f__law_at : ∃ fd, FunD K "_law_at" "_law_at" (defArgs (topS 29)) (defBody (topS 29)) (defScope (topS 29)) [] [] (He.ga K "_law_at") fd
  g__law_labels : mg "_law_labels" = some (.ref (He.ga K "_law_labels"))
  f__law_labels : ∃ fd, FunD K "_law_labels" "_law_labels" (defArgs (topS 31)) (defBody (topS 31)) (defScope (topS 31)) [] [] (He.ga K "_law_labels") fd
  g__law_same : mg "_law_same" = some (.ref (He.ga K "_law_same"))
  f__law_same : ∃ fd, FunD K "_law_same" "_law_same" (defArgs (topS 33)) (defBody (topS 33)) (defScope (topS 33)) [] [] (He.ga K "_law_same") fd
  g__law_form : mg "_law_form" = some (.ref (He.ga K "_law_form"))
  f__law_form : ∃ fd, FunD K "_law_form" "_law_form" (defArgs (topS 32)) (defBody (topS 32)) (defScope (topS 32)) [] [] (He.ga K "_law_form") fd
  g__law_is : mg "_law_is" = some (.ref (He.ga K "_law_is"))
  f__law_is : ∃ fd, FunD K "_law_is" "_law_is" (defArgs (topS 34)) (defBody (topS 34)) (defScope (topS 34)) [] [] (He.ga K "_law_is") fd
  h_Step_stop_at : Meth K (He.ga K "Step") "stop_at" (He.ma K (He.ga K "Step") "stop_at")
  f_Step_stop_at : ∃ fd, FunD K "stop_at" "Step.stop_at" (defArgs (inCls (topS 26) 1)) (defBody (inCls (topS 26) 1)) (defScope (inCls (topS 26) 1)) [] [] (He.ma K (He.ga K "Step") "stop_at") fd
  h_Step__codes : Meth K (He.ga K "Step") "_codes" (He.ma K (He.ga K "Step") "_codes")
  f_Step__codes : ∃ fd, FunD K "_codes" "Step._codes" (defArgs (inCls (topS 26) 4)) (defBody (inCls (topS 26) 4)) (defScope (inCls (topS 26) 4)) [] [] (He.ma K (He.ga K "Step") "_codes") fd
  h_Step_demand : Meth K (He.ga K "Step") "demand" (He.ma K (He.ga K "Step") "demand")
  f_Step_demand : ∃ fd, FunD K "demand" "Step.demand" (defArgs (inCls (topS 26) 5)) (defBody (inCls (topS 26) 5)) (defScope (inCls (topS 26) 5)) [] [] (He.ma K (He.ga K "Step") "demand") fd
  g_alone : mg "alone" = some (.ref (He.ga K "alone"))
  f_alone : ∃ fd, FunD K "alone" "alone" (defArgs (topS 5)) (defBody (topS 5)) (defScope (topS 5)) [] [] (He.ga K "alone") fd
  g_placed : mg "placed" = some (.ref (He.ga K "placed"))
  f_placed : ∃ fd, FunD K "placed" "placed" (defArgs (topS 7)) (defBody (topS 7)) (defScope (topS 7)) [] [] (He.ga K "placed") fd
  g_struck : mg "struck" = some (.ref (He.ga K "struck"))
  f_struck : ∃ fd, FunD K "struck" "struck" (defArgs (topS 4)) (defBody (topS 4)) (defScope (topS 4)) [] [] (He.ga K "struck") fd
  g_merged : mg "merged" = some (.ref (He.ga K "merged"))
  f_merged : ∃ fd, FunD K "merged" "merged" (defArgs (topS 3)) (defBody (topS 3)) (defScope (topS 3)) [] [] (He.ga K "merged") fd
  g_lost : mg "lost" = some (.ref (He.ga K "lost"))
  f_lost : ∃ fd, FunD K "lost" "lost" (defArgs (topS 6)) (defBody (topS 6)) (defScope (topS 6)) [] [] (He.ga K "lost") fd
  h_Step__call : Meth K (He.ga K "Step") "_call" (He.ma K (He.ga K "Step") "_call")
  f_Step__call : ∃ fd, FunD K "_call" "Step._call" (defArgs (inCls (topS 26) 3)) (defBody (inCls (topS 26) 3)) (defScope (inCls (topS 26) 3)) [] [] (He.ma K (He.ga K "Step") "_call") fd
  h_Step_move : Meth K (He.ga K "Step") "move" (He.ma K (He.ga K "Step") "move")
  f_Step_move : ∃ fd, FunD K "move" "Step.move" (defArgs (inCls (topS 26) 2)) (defBody (inCls (topS 26) 2)) (defScope (inCls (topS 26) 2)) [] [] (He.ma K (He.ga K "Step") "move") fd
  h_Step_total : Meth K (He.ga K "Step") "total" (He.ma K (He.ga K "Step") "total")
  f_Step_total : ∃ fd, FunD K "total" "Step.total" (defArgs (inCls (topS 26) 6)) (defBody (inCls (topS 26) 6)) (defScope (inCls (topS 26) 6)) [] [] (He.ma K (He.ga K "Step") "total") fd
  h_Step___call__ : Meth K (He.ga K "Step") "__call__" (He.ma K (He.ga K "Step") "__call__")
  f_Step___call__ : ∃ fd, FunD K "__call__" "Step.__call__" (defArgs (inCls (topS 26) 7)) (defBody (inCls (topS 26) 7)) (defScope (inCls (topS 26) 7)) [] [] (He.ma K (He.ga K "Step") "__call__") fd
  g__law_right : mg "_law_right" = some (.ref (He.ga K "_law_right"))
  f__law_right : ∃ fd, FunD K "_law_right" "_law_right" (defArgs (topS 37)) (defBody (topS 37)) (defScope (topS 37)) [] [] (He.ga K "_law_right") fd
  g_mentioned : mg "mentioned" = some (.ref (He.ga K "mentioned"))
  f_mentioned : ∃ fd, FunD K "mentioned" "mentioned" (defArgs (topS 23)) (defBody (topS 23)) (defScope (topS 23)) [] [] (He.ga K "mentioned") fd
  mk_Step : mg "Step" = some (.ref (He.ga K "Step")) ∧ Mk K (He.ga K "Step") (He.ma K (He.ga K "Step") "__init__")
  f_Step___init__ : ∃ fd, FunD K "__init__" "Step.__init__" (defArgs (inCls (topS 26) 0)) (defBody (inCls (topS 26) 0)) (defScope (inCls (topS 26) 0)) [] [("signature", .non), ("copied", .bl false)] (He.ma K (He.ga K "Step") "__init__") fd
  g__law_gone : mg "_law_gone" = some (.ref (He.ga K "_law_gone"))
  f__law_gone : ∃ fd, FunD K "_law_gone" "_law_gone" (defArgs (topS 36)) (defBody (topS 36)) (defScope (topS 36)) [] [] (He.ga K "_law_gone") fd
  g__law_tie : mg "_law_tie" = some (.ref (He.ga K "_law_tie"))
  f__law_tie : ∃ fd, FunD K "_law_tie" "_law_tie" (defArgs (topS 35)) (defBody (topS 35)) (defScope (topS 35)) [] [] (He.ga K "_law_tie") fd
  g_law : mg "law" = some (.ref (He.ga K "law"))
  f_law : ∃ fd, FunD K "law" "law" (defArgs (topS 38)) (defBody (topS 38)) (defScope (topS 38)) [] [] (He.ga K "law") fd
theorem ci_Regions {K : PySem.W.Frag} : (gm K).ci "Regions" = some ⟨He.ga K "Regions", .slots, ["names", "codes", "groups"], [2, 0, 1]⟩ := by
  show ciT K tab "Regions" = _
  unfold tab
  unfold ciT
  rw [if_pos rfl]
theorem ci_Step {K : PySem.W.Frag} : (gm K).ci "Step" = some ⟨He.ga K "Step", .dict, ["names", "signature", "word", "spots", "needs", "target"], []⟩ := by
  show ciT K tab "Step" = _
  unfold tab
  unfold ciT
  rw [if_neg (by decide)]
  unfold ciT
  rw [if_pos rfl]
theorem ci_BadRegions {K : PySem.W.Frag} : (gm K).ci "BadRegions" = some ⟨He.ga K "BadRegions", .exc, [], []⟩ := by
  show ciT K tab "BadRegions" = _
  unfold tab
  unfold ciT
  rw [if_neg (by decide)]
  unfold ciT
  rw [if_neg (by decide)]
  unfold ciT
  rw [if_pos rfl]
theorem ci_Refused {K : PySem.W.Frag} : (gm K).ci "Refused" = some ⟨He.ga K "Refused", .exc, ["name", "why"], []⟩ := by
  show ciT K tab "Refused" = _
  unfold tab
  unfold ciT
  rw [if_neg (by decide)]
  unfold ciT
  rw [if_neg (by decide)]
  unfold ciT
  rw [if_neg (by decide)]
  unfold ciT
  rw [if_pos rfl]
section
variable {P : Program} {w : World} {K : PySem.W.Frag} {mg : Str → Option Value} {base : Heap}
theorem se_Refused : ScS ["self", "why", "name"] ["self", "why", "name"] (defScope (inCls (topS 13) 0)) := ⟨rfl, rfl, rfl, by decide +kernel, rfl, by decide +kernel, by decide +kernel, rfl, by decide +kernel, by decide +kernel⟩
theorem okx_Refused (T : TX P w K mg) {fd : FuncData} (F : FunS K "__init__" "Refused.__init__" (defArgs (inCls (topS 13) 0)) (defBody (inCls (topS 13) 0)) (defScope (inCls (topS 13) 0)) (He.ma K (He.ga K "Refused") "__init__") (ccOf K (He.ma K (He.ga K "Refused") "__init__")) fd) : FnOk P w (gm K).K mg base (L2.CX P w) 1 (He.ma K (He.ga K "Refused") "__init__") fd ["self", "why", "name"] (spX (He.ga K "Refused") ["why", "name"]) :=
  errx_fn (N := ["self", "why", "name"]) T.eb_Refused F se_Refused (by decide) (by decide) fun cd A outer s H E hcd => psa_super (fd := fd) (self := "self") (hcd ▸ T.eb_Refused.supK F T.sp ⟨_, rfl, rfl⟩) T.eb_Refused.oex (show PSs _ _ (tStores K [("why", 1), ("name", 2)]) from (pss_cons (ps_ost (pe_var rfl (Or.inl rfl)) (pe_var rfl (Or.inl rfl))) (pss_cons (ps_ost (pe_var rfl (Or.inl rfl)) (pe_var rfl (Or.inl rfl))) pss_nil))) T.n_super rfl rfl rfl rfl rfl (Or.inl rfl) (by decide) T.eb_Refused.mro T.eb_Refused.sup T.eb_Refused.sub
theorem exr_Refused (T : TX P w K mg) : ErrX P w (gm K) mg base "Refused" 1 2 :=
  let ⟨fd, F⟩ := T.fe_Refused
  errX_of (g := gm K) (self := "self") ci_Refused T.ge_Refused T.eb_Refused F (okx_Refused T F) rfl (fun _ _ _ _ _ _ us hl => match us, hl with
    | [_, _, _], _ => rfl)
theorem sc_canonical : FnScope ["labels", "seen", "codes", "label"] ["labels"] (defScope (topS 2)) := ⟨rfl, rfl, rfl, by decide +kernel, rfl, by decide +kernel, by decide +kernel⟩
theorem okf_canonical (T : TX P w K mg) {fd : FuncData} (F : FunD K "canonical" "canonical" (defArgs (topS 2)) (defBody (topS 2)) (defScope (topS 2)) [] [] (He.ga K "canonical") fd) : FnOk P w (gm K).K mg base (L2.CX P w) 1 (He.ga K "canonical") fd ["labels"] (spD (gm K) m_canonical) := by
  have co := T.co
  have S := sc_canonical
  refine def_ok (g := gm K) (o := fun ds => match ds with
    | [a_labels] => o_canonical a_labels
    | _ => .no) F S (fun ds hl => match ds, hl with
    | [_], _ => rfl) (fun ds hl => ?_) (fun cdv A outer s H F0 E ds sd hl => ?_)
  · unfold m_canonical
    split
    · exact absurd rfl hl
    · rfl
  · match ds, hl with
    | [a_labels], _ =>
      have hr := sd.hr
      have tk := sd.tk
      have hu := sd.hu
      have hu1 := sd.hu1
      have po := sd.po
      show PSs _ _ (tS _ _ _ _ (o_canonical a_labels) _)
      delta o_canonical
      exact (b_setn (i := 1) (n_lst a_nil) (fun l_seen_1 _ => (b_setn (i := 2) (n_lst a_nil) (fun l_codes_3 _ => (b_for (i := 3) (t0 := (l_seen_1, l_codes_3)) (Γh := fun (t6 : List D × List D) => [some (.v a_labels), some (.l t6.1), some (.l t6.2), none]) (src_val (e_var (i := 0))) (fun _ v_label_7 t6 => (b_if (Γ1 := fun (t14 : List D) => [some (.v a_labels), some (.l t14), some (.l t6.2), some (.v v_label_7)]) (PW.pt (w_and (t_cmp (o_ne hu) (toR (e_var (i := 3))) (toR e_int)) (w_and1 (t_cmp (o_nin hu) (toR (e_var (i := 3))) (r_own (i := 1)))))) (fun _ => (b_app (i := 1) (e_var (i := 3)) (fun e13 _ _ => b_nil))) (fun _ => b_nil) (fun t14 => (b_if (Γ1 := fun (t29 : List D) => [some (.v a_labels), some (.l t14), some (.l t29), some (.v v_label_7)]) (t_cmp (o_eq hu) (toR (e_var (i := 3))) (toR e_int)) (fun _ => (b_app (i := 2) e_int (fun e23 _ _ => b_nil))) (fun _ => (b_app (i := 2) (e_op o_add (e_lindex hu1 (r_own (i := 1)) (toR (e_var (i := 3)))) e_int) (fun e28 _ _ => b_nil))) (fun t29 => b_nil))))) (fun t30 => (b_frz (i := 2) (b_ret (e_t1F c_tuple (e_var (i := 2)) T.n_tuple)))) po S.nd)) S.nd)) S.nd)
theorem ok_canonical (T : TX P w K mg) : DefT P w (gm K) mg base "canonical" 1 m_canonical :=
  let ⟨fd, F⟩ := T.f_canonical
  ⟨⟨_, fd, ["labels"], okf_canonical T F, T.g_canonical, F.kp, F.bindsN fun _ _ _ _ _ _ us hl => match us, hl with
    | [_], _ => rfl⟩⟩
theorem sc_grouped : FnScope ["names", "codes", "groups", "number", "group", "at"] ["names", "codes"] (defScope (topS 20)) := ⟨rfl, rfl, rfl, by decide +kernel, rfl, by decide +kernel, by decide +kernel⟩
theorem okf_grouped (T : TX P w K mg) {fd : FuncData} (F : FunD K "grouped" "grouped" (defArgs (topS 20)) (defBody (topS 20)) (defScope (topS 20)) [] [] (He.ga K "grouped") fd) : FnOk P w (gm K).K mg base (L2.CX P w) 1 (He.ga K "grouped") fd ["names", "codes"] (spD (gm K) m_grouped) := by
  have co := T.co
  have S := sc_grouped
  refine def_ok (g := gm K) (o := fun ds => match ds with
    | [a_names, a_codes] => o_grouped a_names a_codes
    | _ => .no) F S (fun ds hl => match ds, hl with
    | [_, _], _ => rfl) (fun ds hl => ?_) (fun cdv A outer s H F0 E ds sd hl => ?_)
  · unfold m_grouped
    split
    · exact absurd rfl hl
    · rfl
  · match ds, hl with
    | [a_names, a_codes], _ =>
      have hr := sd.hr
      have tk := sd.tk
      have hu := sd.hu
      have hu1 := sd.hu1
      have po := sd.po
      show PSs _ _ (tS _ _ _ _ (o_grouped a_names a_codes) _)
      delta o_grouped
      exact (b_setn (i := 2) (n_lst a_nil) (fun l_groups_33 _ => (b_for (i := 3) (t0 := l_groups_33) (Γh := fun (t40 : List D) => [some (.v a_names), some (.v a_codes), some (.l t40), none, none, none]) (src_range2 e_int (e_op o_add (e_b1 c_len (toR (e_var (i := 1))) T.n_len) e_int) T.n_range) (fun _ v_number_41 t40 => (b_setLc (i := 5) (i2 := 4) [("at", 5)] (src_range1 (e_b1 c_len (toR (e_var (i := 1))) T.n_len) T.n_range) (fun _ _ _ _ _ _ => (p_one (t_cmp (o_eq hu) (toR (e_ix (e_var (i := 1)) (e_var (i := 5)))) (toR (e_var (i := 3)))))) (fun _ _ _ _ _ _ => (e_ix (e_var (i := 0)) (e_var (i := 5)))) (fun l_group_42 => (b_frz (i := 4) (b_if (Γ1 := fun (t60 : List D) => [some (.v a_names), some (.v a_codes), some (.l t60), some (.v v_number_41), some (.v (.list l_group_42)), none]) (t_cmp o_gt (toR (e_b1 c_len (toR (e_var (i := 4))) T.n_len)) (toR e_int)) (fun _ => (b_app (i := 2) (e_t1F c_tuple (e_var (i := 4)) T.n_tuple) (fun e59 _ _ => b_nil))) (fun _ => b_nil) (fun t60 => b_nil)))) S.nd)) (fun t61 => (b_frz (i := 2) (b_ret (e_t1F c_tuple (e_var (i := 2)) T.n_tuple)))) po S.nd)) S.nd)
theorem ok_grouped (T : TX P w K mg) : DefT P w (gm K) mg base "grouped" 1 m_grouped :=
  let ⟨fd, F⟩ := T.f_grouped
  ⟨⟨_, fd, ["names", "codes"], okf_grouped T F, T.g_grouped, F.kp, F.bindsN fun _ _ _ _ _ _ us hl => match us, hl with
    | [_, _], _ => rfl⟩⟩
theorem sc_is_name : FnScope ["text", "char"] ["text"] (defScope (topS 17)) := ⟨rfl, rfl, rfl, by decide +kernel, rfl, by decide +kernel, by decide +kernel⟩
theorem okf_is_name (T : TX P w K mg) {fd : FuncData} (F : FunD K "is_name" "is_name" (defArgs (topS 17)) (defBody (topS 17)) (defScope (topS 17)) [] [] (He.ga K "is_name") fd) : FnOk P w (gm K).K mg base (L2.CX P w) 1 (He.ga K "is_name") fd ["text"] (spD (gm K) m_is_name) := by
  have co := T.co
  have S := sc_is_name
  refine def_ok (g := gm K) (o := fun ds => match ds with
    | [a_text] => o_is_name a_text
    | _ => .no) F S (fun ds hl => match ds, hl with
    | [_], _ => rfl) (fun ds hl => ?_) (fun cdv A outer s H F0 E ds sd hl => ?_)
  · unfold m_is_name
    split
    · exact absurd rfl hl
    · rfl
  · match ds, hl with
    | [a_text], _ =>
      have hr := sd.hr
      have tk := sd.tk
      have hu := sd.hu
      have hu1 := sd.hu1
      have po := sd.po
      show PSs _ _ (tS _ _ _ _ (o_is_name a_text) _)
      delta o_is_name
      exact (b_ifr (t_not (t_chain o_le o_le (toR e_int) (toR (e_b1 c_len (toR (e_var (i := 0))) T.n_len)) (toR (e_gint T.c_LONGEST)))) (fun _ => (b_ret e_bl)) (fun _ => (b_for (i := 1) (t0 := ()) (Γh := fun (t70 : Unit) => [some (.v a_text), none]) (src_val (e_var (i := 0))) (fun _ v_char_71 t70 => (b_ifr (t_cmp (o_nin hu) (toR (e_var (i := 1))) (toR (e_gstr T.c_LETTERS))) (fun _ => (b_ret e_bl)) (fun _ => b_nil))) (fun t75 => (b_ret e_bl)) po S.nd)))
theorem ok_is_name (T : TX P w K mg) : DefT P w (gm K) mg base "is_name" 1 m_is_name :=
  let ⟨fd, F⟩ := T.f_is_name
  ⟨⟨_, fd, ["text"], okf_is_name T F, T.g_is_name, F.kp, F.bindsN fun _ _ _ _ _ _ us hl => match us, hl with
    | [_], _ => rfl⟩⟩
theorem sc_are_names : FnScope ["names", "seen", "name"] ["names"] (defScope (topS 18)) := ⟨rfl, rfl, rfl, by decide +kernel, rfl, by decide +kernel, by decide +kernel⟩
theorem okf_are_names (T : TX P w K mg) {fd : FuncData} (F : FunD K "are_names" "are_names" (defArgs (topS 18)) (defBody (topS 18)) (defScope (topS 18)) [] [] (He.ga K "are_names") fd) : FnOk P w (gm K).K mg base (L2.CX P w) 2 (He.ga K "are_names") fd ["names"] (spD (gm K) m_are_names) := by
  have co := T.co
  have S := sc_are_names
  have D_is_name : DefT P w (gm K) mg base "is_name" 1 m_is_name := ok_is_name T
  refine def_ok (g := gm K) (o := fun ds => match ds with
    | [a_names] => o_are_names a_names
    | _ => .no) F S (fun ds hl => match ds, hl with
    | [_], _ => rfl) (fun ds hl => ?_) (fun cdv A outer s H F0 E ds sd hl => ?_)
  · unfold m_are_names
    split
    · exact absurd rfl hl
    · rfl
  · match ds, hl with
    | [a_names], _ =>
      have hr := sd.hr
      have tk := sd.tk
      have hu := sd.hu
      have hu1 := sd.hu1
      have po := sd.po
      show PSs _ _ (tS _ _ _ _ (o_are_names a_names) _)
      delta o_are_names
      exact (b_setn (i := 1) (n_lst a_nil) (fun l_seen_77 _ => (b_for (i := 2) (t0 := l_seen_77) (Γh := fun (t80 : List D) => [some (.v a_names), some (.l t80), none]) (src_val (e_var (i := 0))) (fun _ v_name_81 t80 => (b_ifr (PW.pt (w_or (t_not (t_val (e_call D_is_name hr tk (a_cons (e_var (i := 2)) a_nil)))) (w_or1 (t_cmp (o_in hu) (toR (e_var (i := 2))) (r_own (i := 1)))))) (fun _ => (b_ret e_bl)) (fun _ => (b_app (i := 1) (e_var (i := 2)) (fun e89 _ _ => b_nil))))) (fun t90 => (b_ret e_bl)) po S.nd)) S.nd)
theorem ok_are_names (T : TX P w K mg) : DefT P w (gm K) mg base "are_names" 2 m_are_names :=
  let ⟨fd, F⟩ := T.f_are_names
  ⟨⟨_, fd, ["names"], okf_are_names T F, T.g_are_names, F.kp, F.bindsN fun _ _ _ _ _ _ us hl => match us, hl with
    | [_], _ => rfl⟩⟩
theorem sc_Regions___init__ : FnScope ["self", "names", "codes", "code", "at"] ["self", "names", "codes"] (defScope (inCls (topS 21) 2)) := ⟨rfl, rfl, rfl, by decide +kernel, rfl, by decide +kernel, by decide +kernel⟩
theorem ok_Regions___init__ (T : TX P w K mg) : ∃ fd, FunD K "__init__" "Regions.__init__" (defArgs (inCls (topS 21) 2)) (defBody (inCls (topS 21) 2)) (defScope (inCls (topS 21) 2)) [] [("codes", .non)] (He.ma K (He.ga K "Regions") "__init__") fd ∧ FnOk P w K mg base (L2.CX P w) 3 (He.ma K (He.ga K "Regions") "__init__") fd ["self", "names", "codes"] (spI (gm K) ⟨He.ga K "Regions", .slots, ["names", "codes", "groups"], [2, 0, 1]⟩ m_Regions) := by
  obtain ⟨fd, F⟩ := T.f_Regions___init__
  have co := T.co
  have S := sc_Regions___init__
  have D_canonical : DefT P w (gm K) mg base "canonical" 1 m_canonical := ok_canonical T
  have D_grouped : DefT P w (gm K) mg base "grouped" 1 m_grouped := ok_grouped T
  have D_are_names : DefT P w (gm K) mg base "are_names" 2 m_are_names := ok_are_names T
  refine ⟨fd, F, init_ok (g := gm K) (c := "Regions") (o := fun ds => match ds with
    | [a_names, a_codes] => o_Regions___init__ a_names a_codes
    | _ => .no) ci_Regions (fun z => nomatch z) F S (fun ds hl => match ds, hl with
    | [_, _], _ => rfl) (fun ds hl => ?_) (fun cdv A outer s H H0 F0 E a0 ds sd hl => ?_)⟩
  · unfold m_Regions
    split
    · exact absurd rfl hl
    · rfl
  · match ds, hl with
    | [a_names, a_codes], _ =>
      have hr := sd.hr
      have tk := sd.tk
      have hu := sd.hu
      have hu1 := sd.hu1
      have po := sd.po
      show PSs _ _ (tS _ _ _ _ (o_Regions___init__ a_names a_codes) _)
      delta o_Regions___init__
      exact (b_ifr (PW.pt (w_or (t_cmp o_gt (toR (e_b1 c_len (toR (e_var (i := 1))) T.n_len)) (toR (e_cval T.cc_Regions_MOST))) (w_or1 (t_not (t_val (e_call D_are_names hr tk (a_cons (e_var (i := 1)) a_nil))))))) (fun _ => (b_raise T.x_BadRegions tk)) (fun _ => (b_if (Γ1 := fun (t114 : D) => [some (.o a0 "Regions" []), some (.v a_names), some (.v t114), none, none]) (t_isN (toR (e_var (i := 2)))) (fun _ => (b_setLc (i := 4) (i2 := 2) [("at", 4)] (src_range1 (e_b1 c_len (toR (e_var (i := 1))) T.n_len) T.n_range) (fun _ _ _ _ _ _ => p_nil) (fun _ _ _ _ _ _ => (e_op o_add (e_var (i := 4)) e_int)) (fun l_codes_107 => (b_frz (i := 2) b_nil)) S.nd)) (fun _ => b_nil) (fun t114 => (b_ifr (t_cmp (o_ne hu) (toR (e_b1 c_len (toR (e_var (i := 2))) T.n_len)) (toR (e_b1 c_len (toR (e_var (i := 1))) T.n_len))) (fun _ => (b_raise T.x_BadRegions tk)) (fun _ => (b_for (i := 3) (t0 := ()) (Γh := fun (t120 : Unit) => [some (.o a0 "Regions" []), some (.v a_names), some (.v t114), none, none]) (src_val (e_var (i := 2))) (fun _ v_code_121 t120 => (b_ifr (t_cmp o_lt (toR (e_var (i := 3))) (toR e_int)) (fun _ => (b_raise T.x_BadRegions tk)) (fun _ => b_nil))) (fun t124 => (b_attr (i := 0) co ci_Regions (e_t1F c_tuple (e_var (i := 1)) T.n_tuple) (fun f_names_126 => (b_attr (i := 0) co ci_Regions (e_call D_canonical hr tk (a_cons (e_var (i := 2)) a_nil)) (fun f_codes_130 => (b_attr (i := 0) co ci_Regions (e_call D_grouped hr tk (a_cons (e_attro co (i := 0)) (a_cons (e_attro co (i := 0)) a_nil))) (fun f_groups_136 => b_nil) (hk := by kernel_rfl))) (hk := by kernel_rfl))) (hk := by kernel_rfl))) po S.nd)))))))
theorem mk_Regions_1_codes (T : TX P w K mg) : MakeT P w (gm K) mg base "Regions" 3 1 ["codes"] gD_Regions_1_codes m_Regions := by
  obtain ⟨fd, F, Fn⟩ := ok_Regions___init__ (P := P) (w := w) (base := base) T
  obtain ⟨g1, M⟩ := T.mk_Regions
  have KB0 := F.kbinds0 (ps := ["self", "names", "codes"]) 2 ["codes"] [] (fun {α} (us mv ws : List α) => match us, mv, ws with
    | [u0, u1], [], [w0] => [u0, u1, w0]
    | _, _, _ => []) (by simp) (by simp) ?hrel ?hb
  case hrel =>
    intro vs mz zs us mv ws r1 r2 r3
    rcases r1 with _ | ⟨a1, _ | ⟨a2, _ | ⟨a3, _ | ⟨a4, r1⟩⟩⟩⟩ <;> rcases r2 with _ | ⟨b1, _ | ⟨b2, _ | ⟨b3, r2⟩⟩⟩ <;> rcases r3 with _ | ⟨c1, _ | ⟨c2, _ | ⟨c3, _ | ⟨c4, r3⟩⟩⟩⟩ <;> first | exact .nil | (repeat (first | exact .nil | assumption | (refine .cons ?_ ?_)))
  case hb =>
    intro D doc pm an cdv ct us mv ws h1 h2 h3
    match us, h1, mv, h2, ws, h3 with
    | [_, _], _, [], _, [_], _ => exact rfl
  obtain ⟨mv, KB⟩ := KB0
  refine ⟨⟨_, _, fd, _, _, _, ci_Regions, g1, M, Fn, KB, fun F0 x vs zs ds es h1 h2 e1 e2 => ?_⟩⟩
  match vs, h1, zs, h2, ds, es, e1, e2 with
  | [v0], _, [z0], _, [d0], [e0], (.cons p0 .nil), (.cons q0 .nil) => exact ⟨_, rfl, (.cons p0 (.cons q0 .nil))⟩
theorem sc__law_draws : FnScope ["_law_script", "_law_row", "_law_k", "_law_cell", "_law_below", "_law_j", "_law_mixed"] ["_law_script"] (defScope (topS 28)) := ⟨rfl, rfl, rfl, by decide +kernel, rfl, by decide +kernel, by decide +kernel⟩
theorem okf__law_draws (T : TX P w K mg) {fd : FuncData} (F : FunD K "_law_draws" "_law_draws" (defArgs (topS 28)) (defBody (topS 28)) (defScope (topS 28)) [] [] (He.ga K "_law_draws") fd) : FnOk P w (gm K).K mg base (L2.CX P w) 1 (He.ga K "_law_draws") fd ["_law_script"] (spD (gm K) m__law_draws) := by
  have co := T.co
  have S := sc__law_draws
  refine def_ok (g := gm K) (o := fun ds => match ds with
    | [a__law_script] => o__law_draws a__law_script
    | _ => .no) F S (fun ds hl => match ds, hl with
    | [_], _ => rfl) (fun ds hl => ?_) (fun cdv A outer s H F0 E ds sd hl => ?_)
  · unfold m__law_draws
    split
    · exact absurd rfl hl
    · rfl
  · match ds, hl with
    | [a__law_script], _ =>
      have hr := sd.hr
      have tk := sd.tk
      have hu := sd.hu
      have hu1 := sd.hu1
      have po := sd.po
      show PSs _ _ (tS _ _ _ _ (o__law_draws a__law_script) _)
      delta o__law_draws
      exact (b_setn (i := 1) (n_lst a_nil) (fun l__law_row_137 _ => (b_for (i := 2) (t0 := l__law_row_137) (Γh := fun (t143 : List D) => [some (.v a__law_script), some (.l t143), none, none, none, none, none]) (src_range1 (e_min e_int (e_b1 c_len (toR (e_var (i := 0))) T.n_len) T.n_min) T.n_range) (fun _ v__law_k_144 t143 => (b_set (i := 3) (e_t1 c_int (toR (e_ix (e_var (i := 0)) (e_var (i := 2)))) T.n_int) (fun v__law_cell_148 _ => (b_set (i := 4) e_int (fun v__law_below_149 _ => (b_if (Γ1 := fun (t160 : D × D) => [some (.v a__law_script), some (.l t143), some (.v v__law_k_144), some (.v t160.1), some (.v t160.2), none, none]) (t_cmp o_lt (toR (e_var (i := 3))) (toR e_int)) (fun _ => (b_set (i := 3) (e_op o_sub e_int (e_var (i := 3))) (fun v__law_cell_158 _ => (b_set (i := 4) e_int (fun v__law_below_159 _ => b_nil) S.nd)) S.nd)) (fun _ => b_nil) (fun t160 => (b_if (Γ1 := fun (t287 : List D × D) => [some (.v a__law_script), some (.l t287.1), some (.v v__law_k_144), some (.v t287.2), some (.v t160.2), none, none]) (t_cmp o_ge (toR (e_var (i := 3))) (toR (e_op o_pow e_int e_int))) (fun _ => (b_for (i := 5) (t0 := (t143, t160.1)) (Γh := fun (t227 : List D × D) => [some (.v a__law_script), some (.l t227.1), some (.v v__law_k_144), some (.v t227.2), some (.v t160.2), none, none]) (src_range1 e_int T.n_range) (fun _ v__law_j_228 t227 => (b_if (Γ1 := fun (t245 : List D × D) => [some (.v a__law_script), some (.l t245.1), some (.v v__law_k_144), some (.v t245.2), some (.v t160.2), some (.v v__law_j_228), none]) (t_cmp o_gt (toR (e_var (i := 3))) (toR e_int)) (fun _ => (b_app (i := 1) (e_op o_mod (e_t1 c_int (toR (e_var (i := 3))) T.n_int) e_int) (fun e241 _ _ => (b_set (i := 3) (e_op o_fdiv (e_var (i := 3)) e_int) (fun v__law_cell_244 _ => b_nil) S.nd)))) (fun _ => b_nil) (fun t245 => b_nil))) (fun t246 => b_nil) po S.nd)) (fun _ => (b_set (i := 6) (e_op o_mod (e_t1 c_int (toR (e_op o_add (e_op o_add (e_op o_mul (e_op o_add (e_var (i := 3)) e_int) e_int) (e_op o_mul (e_op o_mul (e_op o_add (e_var (i := 2)) e_int) (e_op o_add (e_var (i := 2)) e_int)) e_int)) (e_op o_mul (e_var (i := 4)) e_int))) T.n_int) e_int) (fun v__law_mixed_268 _ => (b_set (i := 6) (e_op o_mod (e_t1 c_int (toR (e_op o_add (e_op o_mul (e_var (i := 6)) (e_var (i := 6))) (e_var (i := 3)))) T.n_int) e_int) (fun v__law_mixed_276 _ => (b_app (i := 1) (e_op o_mod (e_op o_mod (e_t1 c_int (toR (e_op o_add (e_op o_mul (e_var (i := 6)) e_int) (e_var (i := 2)))) T.n_int) e_int) e_int) (fun e286 _ _ => b_nil))) S.nd)) S.nd)) (fun t287 => b_nil))))) S.nd)) S.nd)) (fun t288 => (b_frz (i := 1) (b_ret (e_var (i := 1))))) po S.nd)) S.nd)
theorem ok__law_draws (T : TX P w K mg) : DefT P w (gm K) mg base "_law_draws" 1 m__law_draws :=
  let ⟨fd, F⟩ := T.f__law_draws
  ⟨⟨_, fd, ["_law_script"], okf__law_draws T F, T.g__law_draws, F.kp, F.bindsN fun _ _ _ _ _ _ us hl => match us, hl with
    | [_], _ => rfl⟩⟩
theorem sc__law_names : FnScope ["_law_draw", "_law_many", "_law_letters", "_law_seed", "_law_low", "_law_names_here", "_law_k", "_law_one", "_law_word"] ["_law_draw", "_law_many"] (defScope (topS 30)) := ⟨rfl, rfl, rfl, by decide +kernel, rfl, by decide +kernel, by decide +kernel⟩
theorem okf__law_names (T : TX P w K mg) {fd : FuncData} (F : FunD K "_law_names" "_law_names" (defArgs (topS 30)) (defBody (topS 30)) (defScope (topS 30)) [] [] (He.ga K "_law_names") fd) : FnOk P w (gm K).K mg base (L2.CX P w) 1 (He.ga K "_law_names") fd ["_law_draw", "_law_many"] (spD (gm K) m__law_names) := by
  have co := T.co
  have S := sc__law_names
  refine def_ok (g := gm K) (o := fun ds => match ds with
    | [a__law_draw, a__law_many] => o__law_names a__law_draw a__law_many
    | _ => .no) F S (fun ds hl => match ds, hl with
    | [_, _], _ => rfl) (fun ds hl => ?_) (fun cdv A outer s H F0 E ds sd hl => ?_)
  · unfold m__law_names
    split
    · exact absurd rfl hl
    · rfl
  · match ds, hl with
    | [a__law_draw, a__law_many], _ =>
      have hr := sd.hr
      have tk := sd.tk
      have hu := sd.hu
      have hu1 := sd.hu1
      have po := sd.po
      show PSs _ _ (tS _ _ _ _ (o__law_names a__law_draw a__law_many) _)
      delta o__law_names
      exact (b_set (i := 2) e_str (fun v__law_letters_290 _ => (b_set (i := 3) (e_op o_fdiv (e_t1 c_int (toR (e_var (i := 0))) T.n_int) e_int) (fun v__law_seed_294 _ => (b_set (i := 4) (e_op o_mod (e_op o_fdiv (e_var (i := 3)) e_int) e_int) (fun v__law_low_299 _ => (b_setn (i := 5) (n_lst a_nil) (fun l__law_names_here_300 _ => (b_for (i := 6) (t0 := l__law_names_here_300) (Γh := fun (t303 : List D) => [some (.v a__law_draw), some (.v a__law_many), some (.v v__law_letters_290), some (.v v__law_seed_294), some (.v v__law_low_299), some (.l t303), none, none, none]) (src_range1 (e_var (i := 1)) T.n_range) (fun _ v__law_k_304 t303 => (b_if (Γ1 := fun (t634 : List D) => [some (.v a__law_draw), some (.v a__law_many), some (.v v__law_letters_290), some (.v v__law_seed_294), some (.v v__law_low_299), some (.l t634), some (.v v__law_k_304), none, none]) (t_cmp (o_eq hu) (toR (e_op o_mod (e_t1 c_int (toR (e_var (i := 0))) T.n_int) e_int)) (toR e_int)) (fun _ => (b_app (i := 5) (e_ix (e_var (i := 2)) (e_op o_mod (e_t1 c_int (toR (e_op o_add (e_var (i := 3)) (e_op o_mul (e_var (i := 6)) e_int))) T.n_int) e_int)) (fun e481 _ _ => b_nil))) (fun _ => (b_if (Γ1 := fun (t633 : List D) => [some (.v a__law_draw), some (.v a__law_many), some (.v v__law_letters_290), some (.v v__law_seed_294), some (.v v__law_low_299), some (.l t633), some (.v v__law_k_304), none, none]) (t_cmp (o_eq hu) (toR (e_op o_mod (e_t1 c_int (toR (e_var (i := 0))) T.n_int) e_int)) (toR e_int)) (fun _ => (b_set (i := 7) (e_ix (e_var (i := 2)) (e_op o_mod (e_t1 c_int (toR (e_op o_add (e_var (i := 3)) (e_op o_mul (e_var (i := 6)) e_int))) T.n_int) e_int)) (fun v__law_one_569 _ => (b_app (i := 5) (e_op o_add (e_op o_add (e_slice e_str (s_some (e_var (i := 4))) (s_some (e_op o_add (e_var (i := 4)) (e_op o_mod (e_op o_fdiv (e_var (i := 3)) e_int) e_int)))) (e_var (i := 7))) (e_slice e_str (s_some (e_var (i := 4))) (s_some (e_op o_add (e_var (i := 4)) (e_op o_mod (e_op o_fdiv (e_var (i := 3)) e_int) e_int))))) (fun e596 _ _ => b_nil))) S.nd)) (fun _ => (b_set (i := 8) (e_slice (e_op o_add (e_var (i := 2)) (e_var (i := 2))) (s_some (e_op o_mod (e_var (i := 3)) e_int)) (s_some (e_op o_add (e_op o_mod (e_var (i := 3)) e_int) e_int))) (fun v__law_word_610 _ => (b_app (i := 5) (e_slice (e_var (i := 8)) s_none (s_some (e_op o_add (e_op o_add (e_op o_mod (e_t1 c_int (toR (e_op o_add (e_op o_mul (e_var (i := 6)) e_int) (e_op o_fdiv (e_var (i := 3)) e_int))) T.n_int) e_int) e_int) (e_op o_mod (e_op o_fdiv (e_var (i := 3)) e_int) e_int)))) (fun e632 _ _ => b_nil))) S.nd)) (fun t633 => b_nil))) (fun t634 => b_nil))) (fun t635 => (b_frz (i := 5) (b_ret (e_var (i := 5))))) po S.nd)) S.nd)) S.nd)) S.nd)) S.nd)
theorem ok__law_names (T : TX P w K mg) : DefT P w (gm K) mg base "_law_names" 1 m__law_names :=
  let ⟨fd, F⟩ := T.f__law_names
  ⟨⟨_, fd, ["_law_draw", "_law_many"], okf__law_names T F, T.g__law_names, F.kp, F.bindsN fun _ _ _ _ _ _ us hl => match us, hl with
    | [_, _], _ => rfl⟩⟩
theorem sc__law_at : FnScope ["_law_row", "_law_k"] ["_law_row", "_law_k"] (defScope (topS 29)) := ⟨rfl, rfl, rfl, by decide +kernel, rfl, by decide +kernel, by decide +kernel⟩
theorem okf__law_at (T : TX P w K mg) {fd : FuncData} (F : FunD K "_law_at" "_law_at" (defArgs (topS 29)) (defBody (topS 29)) (defScope (topS 29)) [] [] (He.ga K "_law_at") fd) : FnOk P w (gm K).K mg base (L2.CX P w) 1 (He.ga K "_law_at") fd ["_law_row", "_law_k"] (spD (gm K) m__law_at) := by
  have co := T.co
  have S := sc__law_at
  refine def_ok (g := gm K) (o := fun ds => match ds with
    | [a__law_row, a__law_k] => o__law_at a__law_row a__law_k
    | _ => .no) F S (fun ds hl => match ds, hl with
    | [_, _], _ => rfl) (fun ds hl => ?_) (fun cdv A outer s H F0 E ds sd hl => ?_)
  · unfold m__law_at
    split
    · exact absurd rfl hl
    · rfl
  · match ds, hl with
    | [a__law_row, a__law_k], _ =>
      have hr := sd.hr
      have tk := sd.tk
      have hu := sd.hu
      have hu1 := sd.hu1
      have po := sd.po
      show PSs _ _ (tS _ _ _ _ (o__law_at a__law_row a__law_k) _)
      delta o__law_at
      exact (b_ifr (t_cmp o_lt (toR (e_var (i := 1))) (toR (e_b1 c_len (toR (e_var (i := 0))) T.n_len))) (fun _ => (b_ret (e_ix (e_var (i := 0)) (e_var (i := 1))))) (fun _ => (b_ret e_int)))
theorem ok__law_at (T : TX P w K mg) : DefT P w (gm K) mg base "_law_at" 1 m__law_at :=
  let ⟨fd, F⟩ := T.f__law_at
  ⟨⟨_, fd, ["_law_row", "_law_k"], okf__law_at T F, T.g__law_at, F.kp, F.bindsN fun _ _ _ _ _ _ us hl => match us, hl with
    | [_, _], _ => rfl⟩⟩
theorem sc__law_labels : FnScope ["_law_row", "_law_first", "_law_many", "_law_shape", "_law_labels_here", "_law_k", "_law_label"] ["_law_row", "_law_first", "_law_many"] (defScope (topS 31)) := ⟨rfl, rfl, rfl, by decide +kernel, rfl, by decide +kernel, by decide +kernel⟩
theorem okf__law_labels (T : TX P w K mg) {fd : FuncData} (F : FunD K "_law_labels" "_law_labels" (defArgs (topS 31)) (defBody (topS 31)) (defScope (topS 31)) [] [] (He.ga K "_law_labels") fd) : FnOk P w (gm K).K mg base (L2.CX P w) 2 (He.ga K "_law_labels") fd ["_law_row", "_law_first", "_law_many"] (spD (gm K) m__law_labels) := by
  have co := T.co
  have S := sc__law_labels
  have D__law_at : DefT P w (gm K) mg base "_law_at" 1 m__law_at := ok__law_at T
  refine def_ok (g := gm K) (o := fun ds => match ds with
    | [a__law_row, a__law_first, a__law_many] => o__law_labels a__law_row a__law_first a__law_many
    | _ => .no) F S (fun ds hl => match ds, hl with
    | [_, _, _], _ => rfl) (fun ds hl => ?_) (fun cdv A outer s H F0 E ds sd hl => ?_)
  · unfold m__law_labels
    split
    · exact absurd rfl hl
    · rfl
  · match ds, hl with
    | [a__law_row, a__law_first, a__law_many], _ =>
      have hr := sd.hr
      have tk := sd.tk
      have hu := sd.hu
      have hu1 := sd.hu1
      have po := sd.po
      show PSs _ _ (tS _ _ _ _ (o__law_labels a__law_row a__law_first a__law_many) _)
      delta o__law_labels
      exact (b_set (i := 3) (e_op o_mod (e_t1 c_int (toR (e_call D__law_at hr tk (a_cons (e_var (i := 0)) (a_cons (e_var (i := 1)) a_nil)))) T.n_int) e_int) (fun v__law_shape_652 _ => (b_setn (i := 4) (n_lst a_nil) (fun l__law_labels_here_653 _ => (b_for (i := 5) (t0 := l__law_labels_here_653) (Γh := fun (t656 : List D) => [some (.v a__law_row), some (.v a__law_first), some (.v a__law_many), some (.v v__law_shape_652), some (.l t656), none, none]) (src_range1 (e_var (i := 2)) T.n_range) (fun _ v__law_k_657 t656 => (b_set (i := 6) (e_op o_mod (e_t1 c_int (toR (e_call D__law_at hr tk (a_cons (e_var (i := 0)) (a_cons (e_op o_add (e_op o_add (e_var (i := 1)) e_int) (e_var (i := 5))) a_nil)))) T.n_int) (e_op o_add (e_var (i := 2)) e_int)) (fun v__law_label_672 _ => (b_if (Γ1 := fun (t723 : D) => [some (.v a__law_row), some (.v a__law_first), some (.v a__law_many), some (.v v__law_shape_652), some (.l t656), some (.v v__law_k_657), some (.v t723)]) (t_cmp (o_eq hu) (toR (e_var (i := 3))) (toR e_int)) (fun _ => (b_set (i := 6) e_int (fun v__law_label_699 _ => b_nil) S.nd)) (fun _ => (b_if (Γ1 := fun (t722 : D) => [some (.v a__law_row), some (.v a__law_first), some (.v a__law_many), some (.v v__law_shape_652), some (.l t656), some (.v v__law_k_657), some (.v t722)]) (t_cmp (o_eq hu) (toR (e_var (i := 3))) (toR e_int)) (fun _ => (b_set (i := 6) e_int (fun v__law_label_712 _ => b_nil) S.nd)) (fun _ => (b_if (Γ1 := fun (t721 : D) => [some (.v a__law_row), some (.v a__law_first), some (.v a__law_many), some (.v v__law_shape_652), some (.l t656), some (.v v__law_k_657), some (.v t721)]) (t_cmp (o_eq hu) (toR (e_var (i := 3))) (toR e_int)) (fun _ => (b_set (i := 6) (e_op o_add (e_var (i := 5)) e_int) (fun v__law_label_720 _ => b_nil) S.nd)) (fun _ => b_nil) (fun t721 => b_nil))) (fun t722 => b_nil))) (fun t723 => (b_app (i := 4) (e_var (i := 6)) (fun e724 _ _ => b_nil))))) S.nd)) (fun t725 => (b_frz (i := 4) (b_ret (e_var (i := 4))))) po S.nd)) S.nd)) S.nd)
theorem ok__law_labels (T : TX P w K mg) : DefT P w (gm K) mg base "_law_labels" 2 m__law_labels :=
  let ⟨fd, F⟩ := T.f__law_labels
  ⟨⟨_, fd, ["_law_row", "_law_first", "_law_many"], okf__law_labels T F, T.g__law_labels, F.kp, F.bindsN fun _ _ _ _ _ _ us hl => match us, hl with
    | [_, _, _], _ => rfl⟩⟩
theorem sc__law_same : FnScope ["_law_answer", "_law_due", "_law_k"] ["_law_answer", "_law_due"] (defScope (topS 33)) := ⟨rfl, rfl, rfl, by decide +kernel, rfl, by decide +kernel, by decide +kernel⟩
theorem okf__law_same (T : TX P w K mg) {fd : FuncData} (F : FunD K "_law_same" "_law_same" (defArgs (topS 33)) (defBody (topS 33)) (defScope (topS 33)) [] [] (He.ga K "_law_same") fd) : FnOk P w (gm K).K mg base (L2.CX P w) 1 (He.ga K "_law_same") fd ["_law_answer", "_law_due"] (spD (gm K) m__law_same) := by
  have co := T.co
  have S := sc__law_same
  refine def_ok (g := gm K) (o := fun ds => match ds with
    | [a__law_answer, a__law_due] => o__law_same a__law_answer a__law_due
    | _ => .no) F S (fun ds hl => match ds, hl with
    | [_, _], _ => rfl) (fun ds hl => ?_) (fun cdv A outer s H F0 E ds sd hl => ?_)
  · unfold m__law_same
    split
    · exact absurd rfl hl
    · rfl
  · match ds, hl with
    | [a__law_answer, a__law_due], _ =>
      have hr := sd.hr
      have tk := sd.tk
      have hu := sd.hu
      have hu1 := sd.hu1
      have po := sd.po
      show PSs _ _ (tS _ _ _ _ (o__law_same a__law_answer a__law_due) _)
      delta o__law_same
      exact (b_ifr (PW.pt (w_or (t_not (t_isi (T := "tuple") (toR (e_var (i := 0))) T.n_isinstance T.n_tuple)) (w_or1 (t_cmp (o_ne hu) (toR (e_b1 c_len (toR (e_var (i := 0))) T.n_len)) (toR (e_b1 c_len (toR (e_var (i := 1))) T.n_len)))))) (fun _ => (b_ret e_bl)) (fun _ => (b_for (i := 2) (t0 := ()) (Γh := fun (t735 : Unit) => [some (.v a__law_answer), some (.v a__law_due), none]) (src_range1 (e_b1 c_len (toR (e_var (i := 1))) T.n_len) T.n_range) (fun _ v__law_k_736 t735 => (b_ifr (PW.pt (w_or (t_isi (T := "bool") (toR (e_ix (e_var (i := 0)) (e_var (i := 2)))) T.n_isinstance T.n_bool) (w_or1 (t_cmp (o_eq hu) (toR (e_isi (T := "int") (toR (e_ix (e_var (i := 0)) (e_var (i := 2)))) T.n_isinstance T.n_int)) (toR (e_isi (T := "str") (toR (e_ix (e_var (i := 1)) (e_var (i := 2)))) T.n_isinstance T.n_str)))))) (fun _ => (b_ret e_bl)) (fun _ => (b_ifr (PW.pt (w_or (t_not (t_isi2 (T := "int") (U := "str") (toR (e_ix (e_var (i := 0)) (e_var (i := 2)))) T.n_isinstance T.n_int T.n_str)) (w_or1 (t_cmp (o_ne hu) (toR (e_ix (e_var (i := 0)) (e_var (i := 2)))) (toR (e_ix (e_var (i := 1)) (e_var (i := 2)))))))) (fun _ => (b_ret e_bl)) (fun _ => b_nil))))) (fun t759 => (b_ret e_bl)) po S.nd)))
theorem ok__law_same (T : TX P w K mg) : DefT P w (gm K) mg base "_law_same" 1 m__law_same :=
  let ⟨fd, F⟩ := T.f__law_same
  ⟨⟨_, fd, ["_law_answer", "_law_due"], okf__law_same T F, T.g__law_same, F.kp, F.bindsN fun _ _ _ _ _ _ us hl => match us, hl with
    | [_, _], _ => rfl⟩⟩
theorem sc__law_form : FnScope ["_law_labels_here", "_law_seen", "_law_form_here", "_law_label"] ["_law_labels_here"] (defScope (topS 32)) := ⟨rfl, rfl, rfl, by decide +kernel, rfl, by decide +kernel, by decide +kernel⟩
theorem okf__law_form (T : TX P w K mg) {fd : FuncData} (F : FunD K "_law_form" "_law_form" (defArgs (topS 32)) (defBody (topS 32)) (defScope (topS 32)) [] [] (He.ga K "_law_form") fd) : FnOk P w (gm K).K mg base (L2.CX P w) 1 (He.ga K "_law_form") fd ["_law_labels_here"] (spD (gm K) m__law_form) := by
  have co := T.co
  have S := sc__law_form
  refine def_ok (g := gm K) (o := fun ds => match ds with
    | [a__law_labels_here] => o__law_form a__law_labels_here
    | _ => .no) F S (fun ds hl => match ds, hl with
    | [_], _ => rfl) (fun ds hl => ?_) (fun cdv A outer s H F0 E ds sd hl => ?_)
  · unfold m__law_form
    split
    · exact absurd rfl hl
    · rfl
  · match ds, hl with
    | [a__law_labels_here], _ =>
      have hr := sd.hr
      have tk := sd.tk
      have hu := sd.hu
      have hu1 := sd.hu1
      have po := sd.po
      show PSs _ _ (tS _ _ _ _ (o__law_form a__law_labels_here) _)
      delta o__law_form
      exact (b_setn (i := 1) (n_lst a_nil) (fun l__law_seen_761 _ => (b_setn (i := 2) (n_lst a_nil) (fun l__law_form_here_763 _ => (b_for (i := 3) (t0 := (l__law_seen_761, l__law_form_here_763)) (Γh := fun (t766 : List D × List D) => [some (.v a__law_labels_here), some (.l t766.1), some (.l t766.2), none]) (src_val (e_var (i := 0))) (fun _ v__law_label_767 t766 => (b_if (Γ1 := fun (t792 : List D × List D) => [some (.v a__law_labels_here), some (.l t792.1), some (.l t792.2), some (.v v__law_label_767)]) (t_cmp (o_eq hu) (toR (e_var (i := 3))) (toR e_int)) (fun _ => (b_app (i := 2) e_int (fun e781 _ _ => b_nil))) (fun _ => (b_if (Γ1 := fun (t786 : List D) => [some (.v a__law_labels_here), some (.l t786), some (.l t766.2), some (.v v__law_label_767)]) (t_cmp (o_nin hu) (toR (e_var (i := 3))) (r_own (i := 1))) (fun _ => (b_app (i := 1) (e_var (i := 3)) (fun e785 _ _ => b_nil))) (fun _ => b_nil) (fun t786 => (b_app (i := 2) (e_op o_add (e_lindex hu1 (r_own (i := 1)) (toR (e_var (i := 3)))) e_int) (fun e791 _ _ => b_nil))))) (fun t792 => b_nil))) (fun t793 => (b_frz (i := 2) (b_ret (e_t1F c_tuple (e_var (i := 2)) T.n_tuple)))) po S.nd)) S.nd)) S.nd)
theorem ok__law_form (T : TX P w K mg) : DefT P w (gm K) mg base "_law_form" 1 m__law_form :=
  let ⟨fd, F⟩ := T.f__law_form
  ⟨⟨_, fd, ["_law_labels_here"], okf__law_form T F, T.g__law_form, F.kp, F.bindsN fun _ _ _ _ _ _ us hl => match us, hl with
    | [_], _ => rfl⟩⟩
theorem sc__law_is : FnScope ["_law_answer", "_law_names_here", "_law_labels_here"] ["_law_answer", "_law_names_here", "_law_labels_here"] (defScope (topS 34)) := ⟨rfl, rfl, rfl, by decide +kernel, rfl, by decide +kernel, by decide +kernel⟩
theorem okf__law_is (T : TX P w K mg) {fd : FuncData} (F : FunD K "_law_is" "_law_is" (defArgs (topS 34)) (defBody (topS 34)) (defScope (topS 34)) [] [] (He.ga K "_law_is") fd) : FnOk P w (gm K).K mg base (L2.CX P w) 2 (He.ga K "_law_is") fd ["_law_answer", "_law_names_here", "_law_labels_here"] (spD (gm K) m__law_is) := by
  have co := T.co
  have S := sc__law_is
  have D__law_same : DefT P w (gm K) mg base "_law_same" 1 m__law_same := ok__law_same T
  have D__law_form : DefT P w (gm K) mg base "_law_form" 1 m__law_form := ok__law_form T
  refine def_ok (g := gm K) (o := fun ds => match ds with
    | [a__law_answer, a__law_names_here, a__law_labels_here] => o__law_is a__law_answer a__law_names_here a__law_labels_here
    | _ => .no) F S (fun ds hl => match ds, hl with
    | [_, _, _], _ => rfl) (fun ds hl => ?_) (fun cdv A outer s H F0 E ds sd hl => ?_)
  · unfold m__law_is
    split
    · exact absurd rfl hl
    · rfl
  · match ds, hl with
    | [a__law_answer, a__law_names_here, a__law_labels_here], _ =>
      have hr := sd.hr
      have tk := sd.tk
      have hu := sd.hu
      have hu1 := sd.hu1
      have po := sd.po
      show PSs _ _ (tS _ _ _ _ (o__law_is a__law_answer a__law_names_here a__law_labels_here) _)
      delta o__law_is
      exact (b_ifr (t_not (t_isO T.s_Regions (toR (e_var (i := 0))) T.n_isinstance)) (fun _ => (b_ret e_bl)) (fun _ => (b_ret (v_and (e_call D__law_same hr tk (a_cons (e_attr (e_var (i := 0)) co) (a_cons (e_var (i := 1)) a_nil))) (v_one (e_call D__law_same hr tk (a_cons (e_attr (e_var (i := 0)) co) (a_cons (e_call D__law_form hr tk (a_cons (e_var (i := 2)) a_nil)) a_nil))))))))
theorem ok__law_is (T : TX P w K mg) : DefT P w (gm K) mg base "_law_is" 2 m__law_is :=
  let ⟨fd, F⟩ := T.f__law_is
  ⟨⟨_, fd, ["_law_answer", "_law_names_here", "_law_labels_here"], okf__law_is T F, T.g__law_is, F.kp, F.bindsN fun _ _ _ _ _ _ us hl => match us, hl with
    | [_, _, _], _ => rfl⟩⟩
theorem sc_Step_stop_at : FnScope ["self", "codes", "at", "other"] ["self", "codes"] (defScope (inCls (topS 26) 1)) := ⟨rfl, rfl, rfl, by decide +kernel, rfl, by decide +kernel, by decide +kernel⟩
theorem okf_Step_stop_at (T : TX P w K mg) {fd : FuncData} (F : FunD K "stop_at" "Step.stop_at" (defArgs (inCls (topS 26) 1)) (defBody (inCls (topS 26) 1)) (defScope (inCls (topS 26) 1)) [] [] (He.ma K (He.ga K "Step") "stop_at") fd) : FnOk P w (gm K).K mg base (L2.CX P w) 1 (He.ma K (He.ga K "Step") "stop_at") fd ["self", "codes"] (spD (gm K) m_Step_stop_at) := by
  have co := T.co
  have S := sc_Step_stop_at
  refine def_ok (g := gm K) (o := fun ds => match ds with
    | [a_self, a_codes] => o_Step_stop_at a_self a_codes
    | _ => .no) F S (fun ds hl => match ds, hl with
    | [_, _], _ => rfl) (fun ds hl => ?_) (fun cdv A outer s H F0 E ds sd hl => ?_)
  · unfold m_Step_stop_at
    split
    · exact absurd rfl hl
    · rfl
  · match ds, hl with
    | [a_self, a_codes], _ =>
      have hr := sd.hr
      have tk := sd.tk
      have hu := sd.hu
      have hu1 := sd.hu1
      have po := sd.po
      show PSs _ _ (tS _ _ _ _ (o_Step_stop_at a_self a_codes) _)
      delta o_Step_stop_at
      exact (b_for (i := 2) (t0 := ()) (Γh := fun (t817 : Unit) => [some (.v a_self), some (.v a_codes), none, none]) (src_val (e_attr (e_var (i := 0)) co)) (fun _ v_at_818 t817 => (b_ifr (t_cmp (o_eq hu) (toR (e_ix (e_var (i := 1)) (e_var (i := 2)))) (toR e_int)) (fun _ => (b_ret (e_tup (a_cons e_str (a_cons (e_var (i := 2)) a_nil))))) (fun _ => b_nil))) (fun t829 => (b_ifr (t_cmp (o_ne hu) (toR (e_attr (e_var (i := 0)) co)) (toR e_str)) (fun _ => (b_ret e_non)) (fun _ => (b_for (i := 2) (t0 := ()) (Γh := fun (t837 : Unit) => [some (.v a_self), some (.v a_codes), none, none]) (src_val (e_attr (e_attr (e_var (i := 0)) co) co)) (fun _ v_at_838 t837 => (b_for (i := 3) (t0 := ()) (Γh := fun (t842 : Unit) => [some (.v a_self), some (.v a_codes), some (.v v_at_838), none]) (src_range1 (e_b1 c_len (toR (e_attr (e_var (i := 0)) co)) T.n_len) T.n_range) (fun _ v_other_843 t842 => (b_ifr (PW.pt (w_and (t_cmp (o_ne hu) (toR (e_var (i := 3))) (toR (e_var (i := 2)))) (w_and1 (t_cmp (o_eq hu) (toR (e_ix (e_var (i := 1)) (e_ix (e_attr (e_var (i := 0)) co) (e_var (i := 3))))) (toR (e_ix (e_var (i := 1)) (e_ix (e_attr (e_var (i := 0)) co) (e_var (i := 2))))))))) (fun _ => (b_ret (e_tup (a_cons e_str (a_cons (e_ix (e_attr (e_var (i := 0)) co) (e_var (i := 2))) a_nil))))) (fun _ => b_nil))) (fun t867 => b_nil) po S.nd)) (fun t868 => (b_ret e_non)) po S.nd)))) po S.nd)
theorem ok_Step_stop_at (T : TX P w K mg) : MethR P w (gm K) mg base "Step" "stop_at" 1 m_Step_stop_at :=
  let ⟨fd, F⟩ := T.f_Step_stop_at
  MethT.raw ⟨⟨_, _, fd, ["self", "codes"], ci_Step, T.h_Step_stop_at, okf_Step_stop_at T F, (F.bindsN fun _ _ _ _ _ _ us hl => match us, hl with
    | [_, _], _ => rfl), (fun _ => (by decide : ∀ f ∈ (["names", "signature", "word", "spots", "needs", "target"] : List Str), ¬ f = "stop_at")), (fun z => nomatch z)⟩⟩
theorem sc_Step__codes : FnScope ["self", "regions"] ["self", "regions"] (defScope (inCls (topS 26) 4)) := ⟨rfl, rfl, rfl, by decide +kernel, rfl, by decide +kernel, by decide +kernel⟩
theorem okf_Step__codes (T : TX P w K mg) {fd : FuncData} (F : FunD K "_codes" "Step._codes" (defArgs (inCls (topS 26) 4)) (defBody (inCls (topS 26) 4)) (defScope (inCls (topS 26) 4)) [] [] (He.ma K (He.ga K "Step") "_codes") fd) : FnOk P w (gm K).K mg base (L2.CX P w) 1 (He.ma K (He.ga K "Step") "_codes") fd ["self", "regions"] (spD (gm K) m_Step__codes) := by
  have co := T.co
  have S := sc_Step__codes
  refine def_ok (g := gm K) (o := fun ds => match ds with
    | [a_self, a_regions] => o_Step__codes a_self a_regions
    | _ => .no) F S (fun ds hl => match ds, hl with
    | [_, _], _ => rfl) (fun ds hl => ?_) (fun cdv A outer s H F0 E ds sd hl => ?_)
  · unfold m_Step__codes
    split
    · exact absurd rfl hl
    · rfl
  · match ds, hl with
    | [a_self, a_regions], _ =>
      have hr := sd.hr
      have tk := sd.tk
      have hu := sd.hu
      have hu1 := sd.hu1
      have po := sd.po
      show PSs _ _ (tS _ _ _ _ (o_Step__codes a_self a_regions) _)
      delta o_Step__codes
      exact (b_ifr (t_cmp (o_ne hu) (toR (e_attr (e_var (i := 1)) co)) (toR (e_attr (e_var (i := 0)) co))) (fun _ => (b_raise T.x_BadRegions tk)) (fun _ => (b_ret (e_attr (e_var (i := 1)) co))))
theorem ok_Step__codes (T : TX P w K mg) : MethR P w (gm K) mg base "Step" "_codes" 1 m_Step__codes :=
  let ⟨fd, F⟩ := T.f_Step__codes
  MethT.raw ⟨⟨_, _, fd, ["self", "regions"], ci_Step, T.h_Step__codes, okf_Step__codes T F, (F.bindsN fun _ _ _ _ _ _ us hl => match us, hl with
    | [_, _], _ => rfl), (fun _ => (by decide : ∀ f ∈ (["names", "signature", "word", "spots", "needs", "target"] : List Str), ¬ f = "_codes")), (fun z => nomatch z)⟩⟩
theorem sc_Step_demand : FnScope ["self", "regions", "stop"] ["self", "regions"] (defScope (inCls (topS 26) 5)) := ⟨rfl, rfl, rfl, by decide +kernel, rfl, by decide +kernel, by decide +kernel⟩
theorem okf_Step_demand (T : TX P w K mg) {fd : FuncData} (F : FunD K "demand" "Step.demand" (defArgs (inCls (topS 26) 5)) (defBody (inCls (topS 26) 5)) (defScope (inCls (topS 26) 5)) [] [] (He.ma K (He.ga K "Step") "demand") fd) : FnOk P w (gm K).K mg base (L2.CX P w) 2 (He.ma K (He.ga K "Step") "demand") fd ["self", "regions"] (spD (gm K) m_Step_demand) := by
  have co := T.co
  have S := sc_Step_demand
  have M_Step_stop_at : MethR P w (gm K) mg base "Step" "stop_at" 1 m_Step_stop_at := ok_Step_stop_at T
  have M_Step__codes : MethR P w (gm K) mg base "Step" "_codes" 1 m_Step__codes := ok_Step__codes T
  refine def_ok (g := gm K) (o := fun ds => match ds with
    | [a_self, a_regions] => o_Step_demand a_self a_regions
    | _ => .no) F S (fun ds hl => match ds, hl with
    | [_, _], _ => rfl) (fun ds hl => ?_) (fun cdv A outer s H F0 E ds sd hl => ?_)
  · unfold m_Step_demand
    split
    · exact absurd rfl hl
    · rfl
  · match ds, hl with
    | [a_self, a_regions], _ =>
      have hr := sd.hr
      have tk := sd.tk
      have hu := sd.hu
      have hu1 := sd.hu1
      have po := sd.po
      show PSs _ _ (tS _ _ _ _ (o_Step_demand a_self a_regions) _)
      delta o_Step_demand
      exact (b_set (i := 2) (e_methR M_Step_stop_at co hr tk (e_var (i := 0)) (a_cons (e_methR M_Step__codes co hr tk (e_var (i := 0)) (a_cons (e_var (i := 1)) a_nil)) a_nil)) (fun v_stop_884 _ => (b_ifr (t_isN (toR (e_var (i := 2)))) (fun _ => (b_ret e_non)) (fun _ => (b_ret (e_tup (a_cons (e_ix (e_var (i := 2)) e_int) (a_cons (e_ix (e_attr (e_var (i := 0)) co) (e_ix (e_var (i := 2)) e_int)) a_nil))))))) S.nd)
theorem ok_Step_demand (T : TX P w K mg) : MethR P w (gm K) mg base "Step" "demand" 2 m_Step_demand :=
  let ⟨fd, F⟩ := T.f_Step_demand
  MethT.raw ⟨⟨_, _, fd, ["self", "regions"], ci_Step, T.h_Step_demand, okf_Step_demand T F, (F.bindsN fun _ _ _ _ _ _ us hl => match us, hl with
    | [_, _], _ => rfl), (fun _ => (by decide : ∀ f ∈ (["names", "signature", "word", "spots", "needs", "target"] : List Str), ¬ f = "demand")), (fun z => nomatch z)⟩⟩
theorem sc_alone : FnScope ["codes", "at", "labels"] ["codes", "at"] (defScope (topS 5)) := ⟨rfl, rfl, rfl, by decide +kernel, rfl, by decide +kernel, by decide +kernel⟩
theorem okf_alone (T : TX P w K mg) {fd : FuncData} (F : FunD K "alone" "alone" (defArgs (topS 5)) (defBody (topS 5)) (defScope (topS 5)) [] [] (He.ga K "alone") fd) : FnOk P w (gm K).K mg base (L2.CX P w) 2 (He.ga K "alone") fd ["codes", "at"] (spD (gm K) m_alone) := by
  have co := T.co
  have S := sc_alone
  have D_canonical : DefT P w (gm K) mg base "canonical" 1 m_canonical := ok_canonical T
  refine def_ok (g := gm K) (o := fun ds => match ds with
    | [a_codes, a_at] => o_alone a_codes a_at
    | _ => .no) F S (fun ds hl => match ds, hl with
    | [_, _], _ => rfl) (fun ds hl => ?_) (fun cdv A outer s H F0 E ds sd hl => ?_)
  · unfold m_alone
    split
    · exact absurd rfl hl
    · rfl
  · match ds, hl with
    | [a_codes, a_at], _ =>
      have hr := sd.hr
      have tk := sd.tk
      have hu := sd.hu
      have hu1 := sd.hu1
      have po := sd.po
      show PSs _ _ (tS _ _ _ _ (o_alone a_codes a_at) _)
      delta o_alone
      exact (b_setn (i := 2) (n_list (e_var (i := 0)) T.n_list) (fun l_labels_900 _ => (b_seti (i := 2) (e_op o_add (e_b1 c_len (toR (e_var (i := 0))) T.n_len) e_int) (e_var (i := 1)) (fun l_labels_905 => (b_frz (i := 2) (b_ret (e_call D_canonical hr tk (a_cons (e_var (i := 2)) a_nil))))))) S.nd)
theorem ok_alone (T : TX P w K mg) : DefT P w (gm K) mg base "alone" 2 m_alone :=
  let ⟨fd, F⟩ := T.f_alone
  ⟨⟨_, fd, ["codes", "at"], okf_alone T F, T.g_alone, F.kp, F.bindsN fun _ _ _ _ _ _ us hl => match us, hl with
    | [_, _], _ => rfl⟩⟩
theorem sc_placed : FnScope ["codes", "at", "to", "labels"] ["codes", "at", "to"] (defScope (topS 7)) := ⟨rfl, rfl, rfl, by decide +kernel, rfl, by decide +kernel, by decide +kernel⟩
theorem okf_placed (T : TX P w K mg) {fd : FuncData} (F : FunD K "placed" "placed" (defArgs (topS 7)) (defBody (topS 7)) (defScope (topS 7)) [] [] (He.ga K "placed") fd) : FnOk P w (gm K).K mg base (L2.CX P w) 2 (He.ga K "placed") fd ["codes", "at", "to"] (spD (gm K) m_placed) := by
  have co := T.co
  have S := sc_placed
  have D_canonical : DefT P w (gm K) mg base "canonical" 1 m_canonical := ok_canonical T
  refine def_ok (g := gm K) (o := fun ds => match ds with
    | [a_codes, a_at, a_to] => o_placed a_codes a_at a_to
    | _ => .no) F S (fun ds hl => match ds, hl with
    | [_, _, _], _ => rfl) (fun ds hl => ?_) (fun cdv A outer s H F0 E ds sd hl => ?_)
  · unfold m_placed
    split
    · exact absurd rfl hl
    · rfl
  · match ds, hl with
    | [a_codes, a_at, a_to], _ =>
      have hr := sd.hr
      have tk := sd.tk
      have hu := sd.hu
      have hu1 := sd.hu1
      have po := sd.po
      show PSs _ _ (tS _ _ _ _ (o_placed a_codes a_at a_to) _)
      delta o_placed
      exact (b_setn (i := 3) (n_list (e_var (i := 0)) T.n_list) (fun l_labels_912 _ => (b_seti (i := 3) (e_ix (e_var (i := 0)) (e_var (i := 2))) (e_var (i := 1)) (fun l_labels_916 => (b_frz (i := 3) (b_ret (e_call D_canonical hr tk (a_cons (e_var (i := 3)) a_nil))))))) S.nd)
theorem ok_placed (T : TX P w K mg) : DefT P w (gm K) mg base "placed" 2 m_placed :=
  let ⟨fd, F⟩ := T.f_placed
  ⟨⟨_, fd, ["codes", "at", "to"], okf_placed T F, T.g_placed, F.kp, F.bindsN fun _ _ _ _ _ _ us hl => match us, hl with
    | [_, _, _], _ => rfl⟩⟩
theorem sc_struck : FnScope ["codes", "at", "goes", "code"] ["codes", "at"] (defScope (topS 4)) := ⟨rfl, rfl, rfl, by decide +kernel, rfl, by decide +kernel, by decide +kernel⟩
theorem okf_struck (T : TX P w K mg) {fd : FuncData} (F : FunD K "struck" "struck" (defArgs (topS 4)) (defBody (topS 4)) (defScope (topS 4)) [] [] (He.ga K "struck") fd) : FnOk P w (gm K).K mg base (L2.CX P w) 2 (He.ga K "struck") fd ["codes", "at"] (spD (gm K) m_struck) := by
  have co := T.co
  have S := sc_struck
  have D_canonical : DefT P w (gm K) mg base "canonical" 1 m_canonical := ok_canonical T
  refine def_ok (g := gm K) (o := fun ds => match ds with
    | [a_codes, a_at] => o_struck a_codes a_at
    | _ => .no) F S (fun ds hl => match ds, hl with
    | [_, _], _ => rfl) (fun ds hl => ?_) (fun cdv A outer s H F0 E ds sd hl => ?_)
  · unfold m_struck
    split
    · exact absurd rfl hl
    · rfl
  · match ds, hl with
    | [a_codes, a_at], _ =>
      have hr := sd.hr
      have tk := sd.tk
      have hu := sd.hu
      have hu1 := sd.hu1
      have po := sd.po
      show PSs _ _ (tS _ _ _ _ (o_struck a_codes a_at) _)
      delta o_struck
      exact (b_set (i := 2) (e_ix (e_var (i := 0)) (e_var (i := 1))) (fun v_goes_925 _ => (b_ret (e_call D_canonical hr tk (a_cons (ofN (n_lc (i := 3) [("code", 3)] (src_val (e_var (i := 0))) (fun _ _ _ _ _ _ => p_nil) (fun _ _ _ _ _ _ => (e_ifx (t_cmp (o_eq hu) (toR (e_var (i := 3))) (toR (e_var (i := 2)))) e_int (e_var (i := 3)))) S.nd)) a_nil)))) S.nd)
theorem ok_struck (T : TX P w K mg) : DefT P w (gm K) mg base "struck" 2 m_struck :=
  let ⟨fd, F⟩ := T.f_struck
  ⟨⟨_, fd, ["codes", "at"], okf_struck T F, T.g_struck, F.kp, F.bindsN fun _ _ _ _ _ _ us hl => match us, hl with
    | [_, _], _ => rfl⟩⟩
theorem sc_merged : FnScope ["codes", "first", "second", "stays", "goes", "code"] ["codes", "first", "second"] (defScope (topS 3)) := ⟨rfl, rfl, rfl, by decide +kernel, rfl, by decide +kernel, by decide +kernel⟩
theorem okf_merged (T : TX P w K mg) {fd : FuncData} (F : FunD K "merged" "merged" (defArgs (topS 3)) (defBody (topS 3)) (defScope (topS 3)) [] [] (He.ga K "merged") fd) : FnOk P w (gm K).K mg base (L2.CX P w) 2 (He.ga K "merged") fd ["codes", "first", "second"] (spD (gm K) m_merged) := by
  have co := T.co
  have S := sc_merged
  have D_canonical : DefT P w (gm K) mg base "canonical" 1 m_canonical := ok_canonical T
  refine def_ok (g := gm K) (o := fun ds => match ds with
    | [a_codes, a_first, a_second] => o_merged a_codes a_first a_second
    | _ => .no) F S (fun ds hl => match ds, hl with
    | [_, _, _], _ => rfl) (fun ds hl => ?_) (fun cdv A outer s H F0 E ds sd hl => ?_)
  · unfold m_merged
    split
    · exact absurd rfl hl
    · rfl
  · match ds, hl with
    | [a_codes, a_first, a_second], _ =>
      have hr := sd.hr
      have tk := sd.tk
      have hu := sd.hu
      have hu1 := sd.hu1
      have po := sd.po
      show PSs _ _ (tS _ _ _ _ (o_merged a_codes a_first a_second) _)
      delta o_merged
      exact (b_set (i := 3) (e_ix (e_var (i := 0)) (e_var (i := 1))) (fun v_stays_938 _ => (b_set (i := 4) (e_ix (e_var (i := 0)) (e_var (i := 2))) (fun v_goes_941 _ => (b_if (Γ1 := fun (t948 : D × D) => [some (.v a_codes), some (.v a_first), some (.v a_second), some (.v t948.1), some (.v t948.2), none]) (t_cmp (o_eq hu) (toR (e_var (i := 4))) (toR e_int)) (fun _ => (b_parC (i := 3) (j := 4) (e_var (i := 4)) (e_var (i := 3)) (fun v_stays_946 v_goes_947 => b_nil) S.nd)) (fun _ => b_nil) (fun t948 => (b_ret (e_call D_canonical hr tk (a_cons (ofN (n_lc (i := 5) [("code", 5)] (src_val (e_var (i := 0))) (fun _ _ _ _ _ _ => p_nil) (fun _ _ _ _ _ _ => (e_ifx (t_cmp (o_eq hu) (toR (e_var (i := 5))) (toR (e_var (i := 4)))) (e_var (i := 3)) (e_var (i := 5)))) S.nd)) a_nil)))))) S.nd)) S.nd)
theorem ok_merged (T : TX P w K mg) : DefT P w (gm K) mg base "merged" 2 m_merged :=
  let ⟨fd, F⟩ := T.f_merged
  ⟨⟨_, fd, ["codes", "first", "second"], okf_merged T F, T.g_merged, F.kp, F.bindsN fun _ _ _ _ _ _ us hl => match us, hl with
    | [_, _, _], _ => rfl⟩⟩
theorem sc_lost : FnScope ["codes", "at", "labels"] ["codes", "at"] (defScope (topS 6)) := ⟨rfl, rfl, rfl, by decide +kernel, rfl, by decide +kernel, by decide +kernel⟩
theorem okf_lost (T : TX P w K mg) {fd : FuncData} (F : FunD K "lost" "lost" (defArgs (topS 6)) (defBody (topS 6)) (defScope (topS 6)) [] [] (He.ga K "lost") fd) : FnOk P w (gm K).K mg base (L2.CX P w) 2 (He.ga K "lost") fd ["codes", "at"] (spD (gm K) m_lost) := by
  have co := T.co
  have S := sc_lost
  have D_canonical : DefT P w (gm K) mg base "canonical" 1 m_canonical := ok_canonical T
  refine def_ok (g := gm K) (o := fun ds => match ds with
    | [a_codes, a_at] => o_lost a_codes a_at
    | _ => .no) F S (fun ds hl => match ds, hl with
    | [_, _], _ => rfl) (fun ds hl => ?_) (fun cdv A outer s H F0 E ds sd hl => ?_)
  · unfold m_lost
    split
    · exact absurd rfl hl
    · rfl
  · match ds, hl with
    | [a_codes, a_at], _ =>
      have hr := sd.hr
      have tk := sd.tk
      have hu := sd.hu
      have hu1 := sd.hu1
      have po := sd.po
      show PSs _ _ (tS _ _ _ _ (o_lost a_codes a_at) _)
      delta o_lost
      exact (b_setn (i := 2) (n_list (e_var (i := 0)) T.n_list) (fun l_labels_959 _ => (b_seti (i := 2) e_int (e_var (i := 1)) (fun l_labels_961 => (b_frz (i := 2) (b_ret (e_call D_canonical hr tk (a_cons (e_var (i := 2)) a_nil))))))) S.nd)
theorem ok_lost (T : TX P w K mg) : DefT P w (gm K) mg base "lost" 2 m_lost :=
  let ⟨fd, F⟩ := T.f_lost
  ⟨⟨_, fd, ["codes", "at"], okf_lost T F, T.g_lost, F.kp, F.bindsN fun _ _ _ _ _ _ us hl => match us, hl with
    | [_, _], _ => rfl⟩⟩
theorem sc_Step__call : FnScope ["self", "codes", "marks", "at", "result"] ["self", "codes"] (defScope (inCls (topS 26) 3)) := ⟨rfl, rfl, rfl, by decide +kernel, rfl, by decide +kernel, by decide +kernel⟩
theorem okf_Step__call (T : TX P w K mg) {fd : FuncData} (F : FunD K "_call" "Step._call" (defArgs (inCls (topS 26) 3)) (defBody (inCls (topS 26) 3)) (defScope (inCls (topS 26) 3)) [] [] (He.ma K (He.ga K "Step") "_call") fd) : FnOk P w (gm K).K mg base (L2.CX P w) 3 (He.ma K (He.ga K "Step") "_call") fd ["self", "codes"] (spD (gm K) m_Step__call) := by
  have co := T.co
  have S := sc_Step__call
  have D_alone : DefT P w (gm K) mg base "alone" 2 m_alone := ok_alone T
  have D_placed : DefT P w (gm K) mg base "placed" 2 m_placed := ok_placed T
  have D_struck : DefT P w (gm K) mg base "struck" 2 m_struck := ok_struck T
  have D_merged : DefT P w (gm K) mg base "merged" 2 m_merged := ok_merged T
  have D_lost : DefT P w (gm K) mg base "lost" 2 m_lost := ok_lost T
  refine def_ok (g := gm K) (o := fun ds => match ds with
    | [a_self, a_codes] => o_Step__call a_self a_codes
    | _ => .no) F S (fun ds hl => match ds, hl with
    | [_, _], _ => rfl) (fun ds hl => ?_) (fun cdv A outer s H F0 E ds sd hl => ?_)
  · unfold m_Step__call
    split
    · exact absurd rfl hl
    · rfl
  · match ds, hl with
    | [a_self, a_codes], _ =>
      have hr := sd.hr
      have tk := sd.tk
      have hu := sd.hu
      have hu1 := sd.hu1
      have po := sd.po
      show PSs _ _ (tS _ _ _ _ (o_Step__call a_self a_codes) _)
      delta o_Step__call
      exact (b_set (i := 2) (e_attr (e_attr (e_var (i := 0)) co) co) (fun v_marks_970 _ => (b_for (i := 3) (t0 := a_codes) (Γh := fun (t973 : D) => [some (.v a_self), some (.v t973), some (.v v_marks_970), none, none]) (src_range1 (e_b1 c_len (toR (e_var (i := 2))) T.n_len) T.n_range) (fun _ v_at_974 t973 => (b_if (Γ1 := fun (t1020 : D) => [some (.v a_self), some (.v t1020), some (.v v_marks_970), some (.v v_at_974), none]) (t_cmp (o_nin hu) (toR (e_ix (e_var (i := 2)) (e_var (i := 3)))) (toR (e_tup (a_cons e_str (a_cons e_str a_nil))))) (fun _ => (b_set (i := 1) (e_call D_merged hr tk (a_cons (e_var (i := 1)) (a_cons (e_ix (e_attr (e_var (i := 0)) co) (e_tindex hu1 (toR (e_var (i := 2))) (toR (e_ix (e_var (i := 2)) (e_var (i := 3)))))) (a_cons (e_ix (e_attr (e_var (i := 0)) co) (e_var (i := 3))) a_nil)))) (fun v_codes_1019 _ => b_nil) S.nd)) (fun _ => b_nil) (fun t1020 => b_nil))) (fun t1021 => (b_for (i := 3) (t0 := t1021) (Γh := fun (t1025 : D) => [some (.v a_self), some (.v t1025), some (.v v_marks_970), none, none]) (src_val (e_attr (e_attr (e_var (i := 0)) co) co)) (fun _ v_at_1026 t1025 => (b_set (i := 1) (e_call D_struck hr tk (a_cons (e_var (i := 1)) (a_cons (e_ix (e_attr (e_var (i := 0)) co) (e_var (i := 3))) a_nil))) (fun v_codes_1035 _ => b_nil) S.nd)) (fun t1036 => (b_ifr (t_isN (toR (e_attr (e_var (i := 0)) co))) (fun _ => (b_ret (e_var (i := 1)))) (fun _ => (b_set (i := 4) (e_attr (e_attr (e_var (i := 0)) co) co) (fun v_result_1042 _ => (b_ifr (t_cmp (o_eq hu) (toR (e_var (i := 4))) (toR e_str)) (fun _ => (b_ret (e_call D_lost hr tk (a_cons (e_var (i := 1)) (a_cons (e_attr (e_var (i := 0)) co) a_nil))))) (fun _ => (b_ifr (PW.pt (w_and (t_cmp (o_ne hu) (toR (e_var (i := 4))) (toR e_str)) (w_and1 (t_cmp (o_in hu) (toR (e_var (i := 4))) (toR (e_var (i := 2))))))) (fun _ => (b_ret (e_call D_placed hr tk (a_cons (e_var (i := 1)) (a_cons (e_attr (e_var (i := 0)) co) (a_cons (e_ix (e_attr (e_var (i := 0)) co) (e_tindex hu1 (toR (e_var (i := 2))) (toR (e_var (i := 4))))) a_nil)))))) (fun _ => (b_ret (e_call D_alone hr tk (a_cons (e_var (i := 1)) (a_cons (e_attr (e_var (i := 0)) co) a_nil))))))))) S.nd)))) po S.nd)) po S.nd)) S.nd)
theorem ok_Step__call (T : TX P w K mg) : MethR P w (gm K) mg base "Step" "_call" 3 m_Step__call :=
  let ⟨fd, F⟩ := T.f_Step__call
  MethT.raw ⟨⟨_, _, fd, ["self", "codes"], ci_Step, T.h_Step__call, okf_Step__call T F, (F.bindsN fun _ _ _ _ _ _ us hl => match us, hl with
    | [_, _], _ => rfl), (fun _ => (by decide : ∀ f ∈ (["names", "signature", "word", "spots", "needs", "target"] : List Str), ¬ f = "_call")), (fun z => nomatch z)⟩⟩
theorem sc_Step_move : FnScope ["self", "codes"] ["self", "codes"] (defScope (inCls (topS 26) 2)) := ⟨rfl, rfl, rfl, by decide +kernel, rfl, by decide +kernel, by decide +kernel⟩
theorem okf_Step_move (T : TX P w K mg) {fd : FuncData} (F : FunD K "move" "Step.move" (defArgs (inCls (topS 26) 2)) (defBody (inCls (topS 26) 2)) (defScope (inCls (topS 26) 2)) [] [] (He.ma K (He.ga K "Step") "move") fd) : FnOk P w (gm K).K mg base (L2.CX P w) 4 (He.ma K (He.ga K "Step") "move") fd ["self", "codes"] (spD (gm K) m_Step_move) := by
  have co := T.co
  have S := sc_Step_move
  have D_alone : DefT P w (gm K) mg base "alone" 2 m_alone := ok_alone T
  have D_placed : DefT P w (gm K) mg base "placed" 2 m_placed := ok_placed T
  have D_struck : DefT P w (gm K) mg base "struck" 2 m_struck := ok_struck T
  have D_merged : DefT P w (gm K) mg base "merged" 2 m_merged := ok_merged T
  have M_Step__call : MethR P w (gm K) mg base "Step" "_call" 3 m_Step__call := ok_Step__call T
  refine def_ok (g := gm K) (o := fun ds => match ds with
    | [a_self, a_codes] => o_Step_move a_self a_codes
    | _ => .no) F S (fun ds hl => match ds, hl with
    | [_, _], _ => rfl) (fun ds hl => ?_) (fun cdv A outer s H F0 E ds sd hl => ?_)
  · unfold m_Step_move
    split
    · exact absurd rfl hl
    · rfl
  · match ds, hl with
    | [a_self, a_codes], _ =>
      have hr := sd.hr
      have tk := sd.tk
      have hu := sd.hu
      have hu1 := sd.hu1
      have po := sd.po
      show PSs _ _ (tS _ _ _ _ (o_Step_move a_self a_codes) _)
      delta o_Step_move
      exact (b_ifr (t_cmp (o_eq hu) (toR (e_attr (e_var (i := 0)) co)) (toR e_str)) (fun _ => (b_ret (e_call D_alone hr tk (a_cons (e_var (i := 1)) (a_cons (e_ix (e_attr (e_var (i := 0)) co) e_int) a_nil))))) (fun _ => (b_ifr (t_cmp (o_in hu) (toR (e_attr (e_var (i := 0)) co)) (toR (e_tup (a_cons e_str (a_cons e_str a_nil))))) (fun _ => (b_ret (e_call D_placed hr tk (a_cons (e_var (i := 1)) (a_cons (e_ix (e_attr (e_var (i := 0)) co) e_int) (a_cons (e_ix (e_attr (e_var (i := 0)) co) e_int) a_nil)))))) (fun _ => (b_ifr (t_cmp (o_eq hu) (toR (e_attr (e_var (i := 0)) co)) (toR e_str)) (fun _ => (b_ret (e_call D_struck hr tk (a_cons (e_var (i := 1)) (a_cons (e_ix (e_attr (e_var (i := 0)) co) e_int) a_nil))))) (fun _ => (b_ifr (t_cmp (o_eq hu) (toR (e_attr (e_var (i := 0)) co)) (toR e_str)) (fun _ => (b_ret (e_call D_merged hr tk (a_cons (e_var (i := 1)) (a_cons (e_ix (e_attr (e_var (i := 0)) co) e_int) (a_cons (e_ix (e_attr (e_var (i := 0)) co) e_int) a_nil)))))) (fun _ => (b_ifr (t_cmp (o_eq hu) (toR (e_attr (e_var (i := 0)) co)) (toR e_str)) (fun _ => (b_ret (e_methR M_Step__call co hr tk (e_var (i := 0)) (a_cons (e_var (i := 1)) a_nil)))) (fun _ => (b_ret (e_var (i := 1)))))))))))))
theorem ok_Step_move (T : TX P w K mg) : MethR P w (gm K) mg base "Step" "move" 4 m_Step_move :=
  let ⟨fd, F⟩ := T.f_Step_move
  MethT.raw ⟨⟨_, _, fd, ["self", "codes"], ci_Step, T.h_Step_move, okf_Step_move T F, (F.bindsN fun _ _ _ _ _ _ us hl => match us, hl with
    | [_, _], _ => rfl), (fun _ => (by decide : ∀ f ∈ (["names", "signature", "word", "spots", "needs", "target"] : List Str), ¬ f = "move")), (fun z => nomatch z)⟩⟩
theorem sc_Step_total : FnScope ["self", "regions"] ["self", "regions"] (defScope (inCls (topS 26) 6)) := ⟨rfl, rfl, rfl, by decide +kernel, rfl, by decide +kernel, by decide +kernel⟩
theorem okf_Step_total (T : TX P w K mg) {fd : FuncData} (F : FunD K "total" "Step.total" (defArgs (inCls (topS 26) 6)) (defBody (inCls (topS 26) 6)) (defScope (inCls (topS 26) 6)) [] [] (He.ma K (He.ga K "Step") "total") fd) : FnOk P w (gm K).K mg base (L2.CX P w) 5 (He.ma K (He.ga K "Step") "total") fd ["self", "regions"] (spD (gm K) m_Step_total) := by
  have co := T.co
  have S := sc_Step_total
  have K_Regions_1_codes : MakeT P w (gm K) mg base "Regions" 3 1 ["codes"] gD_Regions_1_codes m_Regions := mk_Regions_1_codes T
  have M_Step__codes : MethR P w (gm K) mg base "Step" "_codes" 1 m_Step__codes := ok_Step__codes T
  have M_Step_move : MethR P w (gm K) mg base "Step" "move" 4 m_Step_move := ok_Step_move T
  refine def_ok (g := gm K) (o := fun ds => match ds with
    | [a_self, a_regions] => o_Step_total a_self a_regions
    | _ => .no) F S (fun ds hl => match ds, hl with
    | [_, _], _ => rfl) (fun ds hl => ?_) (fun cdv A outer s H F0 E ds sd hl => ?_)
  · unfold m_Step_total
    split
    · exact absurd rfl hl
    · rfl
  · match ds, hl with
    | [a_self, a_regions], _ =>
      have hr := sd.hr
      have tk := sd.tk
      have hu := sd.hu
      have hu1 := sd.hu1
      have po := sd.po
      show PSs _ _ (tS _ _ _ _ (o_Step_total a_self a_regions) _)
      delta o_Step_total
      exact (b_ret (e_makek K_Regions_1_codes hr tk (a_cons (e_attr (e_var (i := 0)) co) a_nil) (k_cons (e_methR M_Step_move co hr tk (e_var (i := 0)) (a_cons (e_methR M_Step__codes co hr tk (e_var (i := 0)) (a_cons (e_var (i := 1)) a_nil)) a_nil)) k_nil) (hl := (len_cons len_nil)) (hlk := (len_cons len_nil))))
theorem ok_Step_total (T : TX P w K mg) : MethR P w (gm K) mg base "Step" "total" 5 m_Step_total :=
  let ⟨fd, F⟩ := T.f_Step_total
  MethT.raw ⟨⟨_, _, fd, ["self", "regions"], ci_Step, T.h_Step_total, okf_Step_total T F, (F.bindsN fun _ _ _ _ _ _ us hl => match us, hl with
    | [_, _], _ => rfl), (fun _ => (by decide : ∀ f ∈ (["names", "signature", "word", "spots", "needs", "target"] : List Str), ¬ f = "total")), (fun z => nomatch z)⟩⟩
theorem sc_Step___call__ : FnScope ["self", "regions", "stop"] ["self", "regions"] (defScope (inCls (topS 26) 7)) := ⟨rfl, rfl, rfl, by decide +kernel, rfl, by decide +kernel, by decide +kernel⟩
theorem okf_Step___call__ (T : TX P w K mg) {fd : FuncData} (F : FunD K "__call__" "Step.__call__" (defArgs (inCls (topS 26) 7)) (defBody (inCls (topS 26) 7)) (defScope (inCls (topS 26) 7)) [] [] (He.ma K (He.ga K "Step") "__call__") fd) : FnOk P w (gm K).K mg base (L2.CX P w) 6 (He.ma K (He.ga K "Step") "__call__") fd ["self", "regions"] (spD (gm K) m_Step___call__) := by
  have co := T.co
  have S := sc_Step___call__
  have EX_Refused : ErrX P w (gm K) mg base "Refused" 1 2 := exr_Refused T
  have M_Step_demand : MethR P w (gm K) mg base "Step" "demand" 2 m_Step_demand := ok_Step_demand T
  have M_Step_total : MethR P w (gm K) mg base "Step" "total" 5 m_Step_total := ok_Step_total T
  refine def_ok (g := gm K) (o := fun ds => match ds with
    | [a_self, a_regions] => o_Step___call__ a_self a_regions
    | _ => .no) F S (fun ds hl => match ds, hl with
    | [_, _], _ => rfl) (fun ds hl => ?_) (fun cdv A outer s H F0 E ds sd hl => ?_)
  · unfold m_Step___call__
    split
    · exact absurd rfl hl
    · rfl
  · match ds, hl with
    | [a_self, a_regions], _ =>
      have hr := sd.hr
      have tk := sd.tk
      have hu := sd.hu
      have hu1 := sd.hu1
      have po := sd.po
      show PSs _ _ (tS _ _ _ _ (o_Step___call__ a_self a_regions) _)
      delta o_Step___call__
      exact (b_set (i := 2) (e_methR M_Step_demand co hr tk (e_var (i := 0)) (a_cons (e_var (i := 1)) a_nil)) (fun v_stop_1169 _ => (b_ifr (t_notN (toR (e_var (i := 2)))) (fun _ => (b_raiseX EX_Refused hr tk (a_cons (e_ix (e_var (i := 2)) e_int) (a_cons (e_ix (e_var (i := 2)) e_int) a_nil)))) (fun _ => (b_ret (e_methR M_Step_total co hr tk (e_var (i := 0)) (a_cons (e_var (i := 1)) a_nil)))))) S.nd)
theorem ok_Step___call__ (T : TX P w K mg) : CallT P w (gm K) mg base "Step" 6 m_Step___call__ :=
  let ⟨fd, F⟩ := T.f_Step___call__
  callT_of ci_Step T.h_Step___call__ F (okf_Step___call__ T F) (F.bindsN fun _ _ _ _ _ _ us hl => match us, hl with
    | [_, _], _ => rfl) (fun z => nomatch z)
theorem sc__law_right : FnScope ["_law_step", "_law_state", "_law_names_here", "_law_stop", "_law_due", "_law_told", "_law_answer", "_law_refused", "e"] ["_law_step", "_law_state", "_law_names_here", "_law_stop", "_law_due"] (defScope (topS 37)) := ⟨rfl, rfl, rfl, by decide +kernel, rfl, by decide +kernel, by decide +kernel⟩
theorem okf__law_right (T : TX P w K mg) {fd : FuncData} (F : FunD K "_law_right" "_law_right" (defArgs (topS 37)) (defBody (topS 37)) (defScope (topS 37)) [] [] (He.ga K "_law_right") fd) : FnOk P w (gm K).K mg base (L2.CX P w) 7 (He.ga K "_law_right") fd ["_law_step", "_law_state", "_law_names_here", "_law_stop", "_law_due"] (spD (gm K) m__law_right) := by
  have co := T.co
  have S := sc__law_right
  have D__law_same : DefT P w (gm K) mg base "_law_same" 1 m__law_same := ok__law_same T
  have D__law_is : DefT P w (gm K) mg base "_law_is" 2 m__law_is := ok__law_is T
  have M_Step_demand : MethR P w (gm K) mg base "Step" "demand" 2 m_Step_demand := ok_Step_demand T
  have M_Step_total : MethR P w (gm K) mg base "Step" "total" 5 m_Step_total := ok_Step_total T
  have O_Step___call__ : CallT P w (gm K) mg base "Step" 6 m_Step___call__ := ok_Step___call__ T
  refine def_ok (g := gm K) (o := fun ds => match ds with
    | [a__law_step, a__law_state, a__law_names_here, a__law_stop, a__law_due] => o__law_right a__law_step a__law_state a__law_names_here a__law_stop a__law_due
    | _ => .no) F S (fun ds hl => match ds, hl with
    | [_, _, _, _, _], _ => rfl) (fun ds hl => ?_) (fun cdv A outer s H F0 E ds sd hl => ?_)
  · unfold m__law_right
    split
    · exact absurd rfl hl
    · rfl
  · match ds, hl with
    | [a__law_step, a__law_state, a__law_names_here, a__law_stop, a__law_due], _ =>
      have hr := sd.hr
      have tk := sd.tk
      have hu := sd.hu
      have hu1 := sd.hu1
      have po := sd.po
      show PSs _ _ (tS _ _ _ _ (o__law_right a__law_step a__law_state a__law_names_here a__law_stop a__law_due) _)
      delta o__law_right
      exact (b_ifr (t_not (t_val (e_call D__law_is hr tk (a_cons (e_methR M_Step_total co hr tk (e_var (i := 0)) (a_cons (e_var (i := 1)) a_nil)) (a_cons (e_var (i := 2)) (a_cons (e_var (i := 4)) a_nil)))))) (fun _ => (b_ret e_bl)) (fun _ => (b_set (i := 5) (e_methR M_Step_demand co hr tk (e_var (i := 0)) (a_cons (e_var (i := 1)) a_nil)) (fun v__law_told_1202 _ => (b_set (i := 6) e_non (fun v__law_answer_1203 _ => (b_set (i := 7) e_non (fun v__law_refused_1204 _ => (b_tryX2 (i := 8) (cx := [some (.v a__law_step), some (.v a__law_state), some (.v a__law_names_here), some (.v a__law_stop), some (.v a__law_due), some (.v v__law_told_1202), some (.v v__law_answer_1203), some (.v v__law_refused_1204), none]) (cx' := [some (.v a__law_step), some (.v a__law_state), some (.v a__law_names_here), some (.v a__law_stop), some (.v a__law_due), some (.v v__law_told_1202), none, some (.v v__law_refused_1204), none]) (Γ1 := fun (t1227 : D × D) => [some (.v a__law_step), some (.v a__law_state), some (.v a__law_names_here), some (.v a__law_stop), some (.v a__law_due), some (.v v__law_told_1202), some (.v t1227.1), some (.v t1227.2), none]) T.ca_Refused tk (fun W pn xe tk po => (x_set (i := 6) (e_callO O_Step___call__ hr tk (e_var (i := 0)) (a_cons (e_var (i := 1)) a_nil)) (fun v__law_answer_1220 => b_nil) S.nd)) (fun a1 oe pn c1 ci1 f1 od1 F01 hci1 hkl1 hz1 hf1 hX1 => (b_set (i := 7) (e_tup (a_cons (e_xfT (i := 8) T.xf hci1 hz1 hf1 hX1) (a_cons (e_xfT (i := 8) T.xf hci1 hz1 hf1 hX1) a_nil))) (fun v__law_refused_1226 _ => b_nil) S.nd)) (fun t1227 => (b_ifr (t_isN (toR (e_var (i := 3)))) (fun _ => (b_ret (v_and (e_isN (toR (e_var (i := 5)))) (v_and (e_isN (toR (e_var (i := 7)))) (v_one (e_call D__law_is hr tk (a_cons (e_var (i := 6)) (a_cons (e_var (i := 2)) (a_cons (e_var (i := 4)) a_nil))))))))) (fun _ => (b_ret (v_and (e_call D__law_same hr tk (a_cons (e_var (i := 5)) (a_cons (e_tup (a_cons e_str (a_cons (e_var (i := 3)) a_nil))) a_nil))) (v_one (e_call D__law_same hr tk (a_cons (e_var (i := 7)) (a_cons (e_tup (a_cons e_str (a_cons (e_var (i := 3)) a_nil))) a_nil))))))))) S.nd)) S.nd)) S.nd)) S.nd)))
theorem ok__law_right (T : TX P w K mg) : DefT P w (gm K) mg base "_law_right" 7 m__law_right :=
  let ⟨fd, F⟩ := T.f__law_right
  ⟨⟨_, fd, ["_law_step", "_law_state", "_law_names_here", "_law_stop", "_law_due"], okf__law_right T F, T.g__law_right, F.kp, F.bindsN fun _ _ _ _ _ _ us hl => match us, hl with
    | [_, _, _, _, _], _ => rfl⟩⟩
theorem sc_mentioned : FnScope ["statement"] ["statement"] (defScope (topS 23)) := ⟨rfl, rfl, rfl, by decide +kernel, rfl, by decide +kernel, by decide +kernel⟩
theorem okf_mentioned (T : TX P w K mg) {fd : FuncData} (F : FunD K "mentioned" "mentioned" (defArgs (topS 23)) (defBody (topS 23)) (defScope (topS 23)) [] [] (He.ga K "mentioned") fd) : FnOk P w (gm K).K mg base (L2.CX P w) 1 (He.ga K "mentioned") fd ["statement"] (spD (gm K) m_mentioned) := by
  have co := T.co
  have S := sc_mentioned
  refine def_ok (g := gm K) (o := fun ds => match ds with
    | [a_statement] => o_mentioned a_statement
    | _ => .no) F S (fun ds hl => match ds, hl with
    | [_], _ => rfl) (fun ds hl => ?_) (fun cdv A outer s H F0 E ds sd hl => ?_)
  · unfold m_mentioned
    split
    · exact absurd rfl hl
    · rfl
  · match ds, hl with
    | [a_statement], _ =>
      have hr := sd.hr
      have tk := sd.tk
      have hu := sd.hu
      have hu1 := sd.hu1
      have po := sd.po
      show PSs _ _ (tS _ _ _ _ (o_mentioned a_statement) _)
      delta o_mentioned
      exact (b_ifr (t_cmp (o_in hu) (toR (e_ix (e_var (i := 0)) e_int)) (toR (e_tup (a_cons e_str (a_cons e_str a_nil))))) (fun _ => (b_ret (e_tup a_nil))) (fun _ => (b_ifr (t_cmp (o_eq hu) (toR (e_ix (e_var (i := 0)) e_int)) (toR e_str)) (fun _ => (b_ret (e_t1F c_tuple (e_ix (e_var (i := 0)) e_int) T.n_tuple))) (fun _ => (b_ifr (t_cmp (o_eq hu) (toR (e_ix (e_var (i := 0)) e_int)) (toR e_str)) (fun _ => (b_ret (e_slice (e_var (i := 0)) (s_some e_int) (s_some e_int)))) (fun _ => (b_ret (e_slice (e_var (i := 0)) (s_some e_int) s_none))))))))
theorem ok_mentioned (T : TX P w K mg) : DefT P w (gm K) mg base "mentioned" 1 m_mentioned :=
  let ⟨fd, F⟩ := T.f_mentioned
  ⟨⟨_, fd, ["statement"], okf_mentioned T F, T.g_mentioned, F.kp, F.bindsN fun _ _ _ _ _ _ us hl => match us, hl with
    | [_], _ => rfl⟩⟩
theorem sc_Step___init__ : FnScope ["self", "names", "statement", "signature", "copied", "name", "at"] ["self", "names", "statement", "signature", "copied"] (defScope (inCls (topS 26) 0)) := ⟨rfl, rfl, rfl, by decide +kernel, rfl, by decide +kernel, by decide +kernel⟩
theorem ok_Step___init__ (T : TX P w K mg) : ∃ fd, FunD K "__init__" "Step.__init__" (defArgs (inCls (topS 26) 0)) (defBody (inCls (topS 26) 0)) (defScope (inCls (topS 26) 0)) [] [("signature", .non), ("copied", .bl false)] (He.ma K (He.ga K "Step") "__init__") fd ∧ FnOk P w K mg base (L2.CX P w) 2 (He.ma K (He.ga K "Step") "__init__") fd ["self", "names", "statement", "signature", "copied"] (spI (gm K) ⟨He.ga K "Step", .dict, ["names", "signature", "word", "spots", "needs", "target"], []⟩ m_Step) := by
  obtain ⟨fd, F⟩ := T.f_Step___init__
  have co := T.co
  have S := sc_Step___init__
  have D_mentioned : DefT P w (gm K) mg base "mentioned" 1 m_mentioned := ok_mentioned T
  refine ⟨fd, F, init_ok (g := gm K) (c := "Step") (o := fun ds => match ds with
    | [a_names, a_statement, a_signature, a_copied] => o_Step___init__ a_names a_statement a_signature a_copied
    | _ => .no) ci_Step (fun z => nomatch z) F S (fun ds hl => match ds, hl with
    | [_, _, _, _], _ => rfl) (fun ds hl => ?_) (fun cdv A outer s H H0 F0 E a0 ds sd hl => ?_)⟩
  · unfold m_Step
    split
    · exact absurd rfl hl
    · rfl
  · match ds, hl with
    | [a_names, a_statement, a_signature, a_copied], _ =>
      have hr := sd.hr
      have tk := sd.tk
      have hu := sd.hu
      have hu1 := sd.hu1
      have po := sd.po
      show PSs _ _ (tS _ _ _ _ (o_Step___init__ a_names a_statement a_signature a_copied) _)
      delta o_Step___init__
      exact (b_attrL (i := 0) (kvs := []) (kvs' := fun f_names_1298 => [(.str "names", f_names_1298)]) co ci_Step (e_t1F c_tuple (e_var (i := 1)) T.n_tuple) (fun f_names_1298 => (b_attrL (i := 0) (kvs := [(.str "names", f_names_1298)]) (kvs' := fun f_signature_1299 => [(.str "names", f_names_1298), (.str "signature", f_signature_1299)]) co ci_Step (e_var (i := 3)) (fun f_signature_1299 => (b_attrL (i := 0) (kvs := [(.str "names", f_names_1298), (.str "signature", f_signature_1299)]) (kvs' := fun f_word_1302 => [(.str "names", f_names_1298), (.str "signature", f_signature_1299), (.str "word", f_word_1302)]) co ci_Step (e_ix (e_var (i := 2)) e_int) (fun f_word_1302 => (b_if (Γ1 := fun (t1308 : D) => [some (.o a0 "Step" [(.str "names", f_names_1298), (.str "signature", f_signature_1299), (.str "word", t1308)]), some (.v a_names), some (.v a_statement), some (.v a_signature), some (.v a_copied), none, none]) (PW.pt (w_and (t_val (e_var (i := 4))) (w_and1 (t_cmp (o_eq hu) (toR (e_attro co (i := 0))) (toR e_str))))) (fun _ => (b_attrSL (i := 0) (kvs := [(.str "names", f_names_1298), (.str "signature", f_signature_1299), (.str "word", f_word_1302)]) (kvs' := fun f_word_1307 => [(.str "names", f_names_1298), (.str "signature", f_signature_1299), (.str "word", f_word_1307)]) co ci_Step e_str (fun f_word_1307 => b_nil) (by kernel_rfl) (by intro _; kernel_rfl))) (fun _ => b_nil) (fun t1308 => (b_attrL (i := 0) (kvs := [(.str "names", f_names_1298), (.str "signature", f_signature_1299), (.str "word", t1308)]) (kvs' := fun f_spots_1318 => [(.str "names", f_names_1298), (.str "signature", f_signature_1299), (.str "word", t1308), (.str "spots", f_spots_1318)]) co ci_Step (ofN (n_lc (i := 5) [("name", 5)] (src_val (e_call D_mentioned hr tk (a_cons (e_var (i := 2)) a_nil))) (fun _ _ _ _ _ _ => p_nil) (fun _ _ _ _ _ _ => (e_tindex hu1 (toR (e_attro co (i := 0))) (toR (e_var (i := 5))))) S.nd)) (fun f_spots_1318 => (b_attrL (i := 0) (kvs := [(.str "names", f_names_1298), (.str "signature", f_signature_1299), (.str "word", t1308), (.str "spots", f_spots_1318)]) (kvs' := fun f_needs_1328 => [(.str "names", f_names_1298), (.str "signature", f_signature_1299), (.str "word", t1308), (.str "spots", f_spots_1318), (.str "needs", f_needs_1328)]) co ci_Step (ofN (n_lc (i := 6) [("at", 6)] (src_val (e_tget T.tb_DEMANDED (e_attro co (i := 0)) (e_tup a_nil))) (fun _ _ _ _ _ _ => p_nil) (fun _ _ _ _ _ _ => (e_ix (e_attro co (i := 0)) (e_var (i := 6)))) S.nd)) (fun f_needs_1328 => (b_attrL (i := 0) (kvs := [(.str "names", f_names_1298), (.str "signature", f_signature_1299), (.str "word", t1308), (.str "spots", f_spots_1318), (.str "needs", f_needs_1328)]) (kvs' := fun f_target_1329 => [(.str "names", f_names_1298), (.str "signature", f_signature_1299), (.str "word", t1308), (.str "spots", f_spots_1318), (.str "needs", f_needs_1328), (.str "target", f_target_1329)]) co ci_Step e_non (fun f_target_1329 => (b_if (Γ1 := fun (t1366 : D × D) => [some (.o a0 "Step" [(.str "names", f_names_1298), (.str "signature", f_signature_1299), (.str "word", t1308), (.str "spots", f_spots_1318), (.str "needs", t1366.1), (.str "target", t1366.2)]), some (.v a_names), some (.v a_statement), some (.v a_signature), some (.v a_copied), none, none]) (t_cmp (o_eq hu) (toR (e_attro co (i := 0))) (toR e_str)) (fun _ => (b_attrSL (i := 0) (kvs := [(.str "names", f_names_1298), (.str "signature", f_signature_1299), (.str "word", t1308), (.str "spots", f_spots_1318), (.str "needs", f_needs_1328), (.str "target", f_target_1329)]) (kvs' := fun f_needs_1351 => [(.str "names", f_names_1298), (.str "signature", f_signature_1299), (.str "word", t1308), (.str "spots", f_spots_1318), (.str "needs", f_needs_1351), (.str "target", f_target_1329)]) co ci_Step (ofN (n_list (e_attro co (i := 0)) T.n_list)) (fun f_needs_1351 => (b_if (Γ1 := fun (t1365 : D) => [some (.o a0 "Step" [(.str "names", f_names_1298), (.str "signature", f_signature_1299), (.str "word", t1308), (.str "spots", f_spots_1318), (.str "needs", f_needs_1351), (.str "target", t1365)]), some (.v a_names), some (.v a_statement), some (.v a_signature), some (.v a_copied), none, none]) (t_notN (toR (e_ix (e_var (i := 2)) e_int))) (fun _ => (b_attrSL (i := 0) (kvs := [(.str "names", f_names_1298), (.str "signature", f_signature_1299), (.str "word", t1308), (.str "spots", f_spots_1318), (.str "needs", f_needs_1351), (.str "target", f_target_1329)]) (kvs' := fun f_target_1364 => [(.str "names", f_names_1298), (.str "signature", f_signature_1299), (.str "word", t1308), (.str "spots", f_spots_1318), (.str "needs", f_needs_1351), (.str "target", f_target_1364)]) co ci_Step (e_tindex hu1 (toR (e_attro co (i := 0))) (toR (e_ix (e_var (i := 2)) e_int))) (fun f_target_1364 => b_nil) (by kernel_rfl) (by intro _; kernel_rfl))) (fun _ => b_nil) (fun t1365 => b_nil))) (by kernel_rfl) (by intro _; kernel_rfl))) (fun _ => b_nil) (fun t1366 => b_nil))) (by kernel_rfl) (by intro _; rfl))) (by kernel_rfl) (by intro _; rfl))) (by kernel_rfl) (by intro _; rfl))))) (by kernel_rfl) (by intro _; rfl))) (by kernel_rfl) (by intro _; rfl))) (by kernel_rfl) (by intro _; rfl))
theorem mk_Step_2 (T : TX P w K mg) : MakeT P w (gm K) mg base "Step" 2 2 [] gD_Step_2 m_Step := by
  obtain ⟨fd, F, Fn⟩ := ok_Step___init__ (P := P) (w := w) (base := base) T
  obtain ⟨g1, M⟩ := T.mk_Step
  have KB0 := F.kbinds0 (ps := ["self", "names", "statement", "signature", "copied"]) 3 [] [("signature", .non), ("copied", .bl false)] (fun {α} (us mv ws : List α) => match us, mv, ws with
    | [u0, u1, u2], [m0, m1], [] => [u0, u1, u2, m0, m1]
    | _, _, _ => []) (by simp) (by simp) ?hrel ?hb
  case hrel =>
    intro vs mz zs us mv ws r1 r2 r3
    rcases r1 with _ | ⟨a1, _ | ⟨a2, _ | ⟨a3, _ | ⟨a4, r1⟩⟩⟩⟩ <;> rcases r2 with _ | ⟨b1, _ | ⟨b2, _ | ⟨b3, r2⟩⟩⟩ <;> rcases r3 with _ | ⟨c1, _ | ⟨c2, _ | ⟨c3, _ | ⟨c4, r3⟩⟩⟩⟩ <;> first | exact .nil | (repeat (first | exact .nil | assumption | (refine .cons ?_ ?_)))
  case hb =>
    intro D doc pm an cdv ct us mv ws h1 h2 h3
    match us, h1, mv, h2, ws, h3 with
    | [_, _, _], _, [_, _], _, [], _ => exact ⟨_, _, _, _, _, _, rfl, rfl, ⟨_, _, _, _, _, _, rfl, rfl, rfl⟩⟩
  obtain ⟨mv, KB⟩ := KB0
  refine ⟨⟨_, _, fd, _, _, _, ci_Step, g1, M, Fn, KB, fun F0 x vs zs ds es h1 h2 e1 e2 => ?_⟩⟩
  match vs, h1, zs, h2, ds, es, e1, e2 with
  | [v0, v1], _, [], _, [d0, d1], [], (.cons p0 (.cons p1 .nil)), .nil => exact ⟨_, rfl, (.cons p0 (.cons p1 (.cons (.non) (.cons (.bl _) .nil))))⟩
theorem mk_Step_2_copied (T : TX P w K mg) : MakeT P w (gm K) mg base "Step" 2 2 ["copied"] gD_Step_2_copied m_Step := by
  obtain ⟨fd, F, Fn⟩ := ok_Step___init__ (P := P) (w := w) (base := base) T
  obtain ⟨g1, M⟩ := T.mk_Step
  have KB0 := F.kbinds0 (ps := ["self", "names", "statement", "signature", "copied"]) 3 ["copied"] [("signature", .non)] (fun {α} (us mv ws : List α) => match us, mv, ws with
    | [u0, u1, u2], [m0], [w0] => [u0, u1, u2, m0, w0]
    | _, _, _ => []) (by simp) (by simp) ?hrel ?hb
  case hrel =>
    intro vs mz zs us mv ws r1 r2 r3
    rcases r1 with _ | ⟨a1, _ | ⟨a2, _ | ⟨a3, _ | ⟨a4, r1⟩⟩⟩⟩ <;> rcases r2 with _ | ⟨b1, _ | ⟨b2, _ | ⟨b3, r2⟩⟩⟩ <;> rcases r3 with _ | ⟨c1, _ | ⟨c2, _ | ⟨c3, _ | ⟨c4, r3⟩⟩⟩⟩ <;> first | exact .nil | (repeat (first | exact .nil | assumption | (refine .cons ?_ ?_)))
  case hb =>
    intro D doc pm an cdv ct us mv ws h1 h2 h3
    match us, h1, mv, h2, ws, h3 with
    | [_, _, _], _, [_], _, [_], _ => exact ⟨_, _, _, _, _, _, rfl, rfl, rfl⟩
  obtain ⟨mv, KB⟩ := KB0
  refine ⟨⟨_, _, fd, _, _, _, ci_Step, g1, M, Fn, KB, fun F0 x vs zs ds es h1 h2 e1 e2 => ?_⟩⟩
  match vs, h1, zs, h2, ds, es, e1, e2 with
  | [v0, v1], _, [z0], _, [d0, d1], [e0], (.cons p0 (.cons p1 .nil)), (.cons q0 .nil) => exact ⟨_, rfl, (.cons p0 (.cons p1 (.cons (.non) (.cons q0 .nil))))⟩
theorem sc__law_gone : FnScope ["_law_labels_here", "_law_i", "_law_label"] ["_law_labels_here", "_law_i"] (defScope (topS 36)) := ⟨rfl, rfl, rfl, by decide +kernel, rfl, by decide +kernel, by decide +kernel⟩
theorem okf__law_gone (T : TX P w K mg) {fd : FuncData} (F : FunD K "_law_gone" "_law_gone" (defArgs (topS 36)) (defBody (topS 36)) (defScope (topS 36)) [] [] (He.ga K "_law_gone") fd) : FnOk P w (gm K).K mg base (L2.CX P w) 1 (He.ga K "_law_gone") fd ["_law_labels_here", "_law_i"] (spD (gm K) m__law_gone) := by
  have co := T.co
  have S := sc__law_gone
  refine def_ok (g := gm K) (o := fun ds => match ds with
    | [a__law_labels_here, a__law_i] => o__law_gone a__law_labels_here a__law_i
    | _ => .no) F S (fun ds hl => match ds, hl with
    | [_, _], _ => rfl) (fun ds hl => ?_) (fun cdv A outer s H F0 E ds sd hl => ?_)
  · unfold m__law_gone
    split
    · exact absurd rfl hl
    · rfl
  · match ds, hl with
    | [a__law_labels_here, a__law_i], _ =>
      have hr := sd.hr
      have tk := sd.tk
      have hu := sd.hu
      have hu1 := sd.hu1
      have po := sd.po
      show PSs _ _ (tS _ _ _ _ (o__law_gone a__law_labels_here a__law_i) _)
      delta o__law_gone
      exact (b_ret (ofN (n_lc (i := 2) [("_law_label", 2)] (src_val (e_var (i := 0))) (fun _ _ _ _ _ _ => p_nil) (fun _ _ _ _ _ _ => (e_ifx (t_cmp (o_eq hu) (toR (e_var (i := 2))) (toR (e_ix (e_var (i := 0)) (e_var (i := 1))))) e_int (e_var (i := 2)))) S.nd)))
theorem ok__law_gone (T : TX P w K mg) : DefT P w (gm K) mg base "_law_gone" 1 m__law_gone :=
  let ⟨fd, F⟩ := T.f__law_gone
  ⟨⟨_, fd, ["_law_labels_here", "_law_i"], okf__law_gone T F, T.g__law_gone, F.kp, F.bindsN fun _ _ _ _ _ _ us hl => match us, hl with
    | [_, _], _ => rfl⟩⟩
theorem sc__law_tie : FnScope ["_law_labels_here", "_law_i", "_law_j", "_law_low", "_law_high", "_law_label"] ["_law_labels_here", "_law_i", "_law_j"] (defScope (topS 35)) := ⟨rfl, rfl, rfl, by decide +kernel, rfl, by decide +kernel, by decide +kernel⟩
theorem okf__law_tie (T : TX P w K mg) {fd : FuncData} (F : FunD K "_law_tie" "_law_tie" (defArgs (topS 35)) (defBody (topS 35)) (defScope (topS 35)) [] [] (He.ga K "_law_tie") fd) : FnOk P w (gm K).K mg base (L2.CX P w) 1 (He.ga K "_law_tie") fd ["_law_labels_here", "_law_i", "_law_j"] (spD (gm K) m__law_tie) := by
  have co := T.co
  have S := sc__law_tie
  refine def_ok (g := gm K) (o := fun ds => match ds with
    | [a__law_labels_here, a__law_i, a__law_j] => o__law_tie a__law_labels_here a__law_i a__law_j
    | _ => .no) F S (fun ds hl => match ds, hl with
    | [_, _, _], _ => rfl) (fun ds hl => ?_) (fun cdv A outer s H F0 E ds sd hl => ?_)
  · unfold m__law_tie
    split
    · exact absurd rfl hl
    · rfl
  · match ds, hl with
    | [a__law_labels_here, a__law_i, a__law_j], _ =>
      have hr := sd.hr
      have tk := sd.tk
      have hu := sd.hu
      have hu1 := sd.hu1
      have po := sd.po
      show PSs _ _ (tS _ _ _ _ (o__law_tie a__law_labels_here a__law_i a__law_j) _)
      delta o__law_tie
      exact (b_set (i := 3) (e_ix (e_var (i := 0)) (e_var (i := 1))) (fun v__law_low_1378 _ => (b_set (i := 4) (e_ix (e_var (i := 0)) (e_var (i := 2))) (fun v__law_high_1381 _ => (b_if (Γ1 := fun (t1396 : D × D) => [some (.v a__law_labels_here), some (.v a__law_i), some (.v a__law_j), some (.v t1396.1), some (.v t1396.2), none]) (t_cmp o_gt (toR (e_var (i := 3))) (toR (e_var (i := 4)))) (fun _ => (b_set (i := 3) (e_ix (e_var (i := 0)) (e_var (i := 2))) (fun v__law_low_1392 _ => (b_set (i := 4) (e_ix (e_var (i := 0)) (e_var (i := 1))) (fun v__law_high_1395 _ => b_nil) S.nd)) S.nd)) (fun _ => b_nil) (fun t1396 => (b_ret (ofN (n_lc (i := 5) [("_law_label", 5)] (src_val (e_var (i := 0))) (fun _ _ _ _ _ _ => p_nil) (fun _ _ _ _ _ _ => (e_ifx (t_cmp (o_eq hu) (toR (e_var (i := 5))) (toR (e_var (i := 4)))) (e_var (i := 3)) (e_var (i := 5)))) S.nd)))))) S.nd)) S.nd)
theorem ok__law_tie (T : TX P w K mg) : DefT P w (gm K) mg base "_law_tie" 1 m__law_tie :=
  let ⟨fd, F⟩ := T.f__law_tie
  ⟨⟨_, fd, ["_law_labels_here", "_law_i", "_law_j"], okf__law_tie T F, T.g__law_tie, F.kp, F.bindsN fun _ _ _ _ _ _ us hl => match us, hl with
    | [_, _, _], _ => rfl⟩⟩
theorem sc_law : FnScope ["_law_script", "_law_row", "_law_many", "_law_names_here", "_law_labels_here", "_law_state", "_law_shift", "_law_i", "_law_j", "_law_x", "_law_y", "_law_first", "_law_second", "_law_either", "_law_moved", "_law_rows", "_law_one"] ["_law_script"] (defScope (topS 38)) := ⟨rfl, rfl, rfl, by decide +kernel, rfl, by decide +kernel, by decide +kernel⟩
theorem okf_law (T : TX P w K mg) {fd : FuncData} (F : FunD K "law" "law" (defArgs (topS 38)) (defBody (topS 38)) (defScope (topS 38)) [] [] (He.ga K "law") fd) : FnOk P w (gm K).K mg base (L2.CX P w) 8 (He.ga K "law") fd ["_law_script"] (spD (gm K) m_law) := by
  have co := T.co
  have S := sc_law
  have K_Regions_1_codes : MakeT P w (gm K) mg base "Regions" 3 1 ["codes"] gD_Regions_1_codes m_Regions := mk_Regions_1_codes T
  have D__law_draws : DefT P w (gm K) mg base "_law_draws" 1 m__law_draws := ok__law_draws T
  have D__law_names : DefT P w (gm K) mg base "_law_names" 1 m__law_names := ok__law_names T
  have D__law_at : DefT P w (gm K) mg base "_law_at" 1 m__law_at := ok__law_at T
  have D__law_labels : DefT P w (gm K) mg base "_law_labels" 2 m__law_labels := ok__law_labels T
  have D__law_is : DefT P w (gm K) mg base "_law_is" 2 m__law_is := ok__law_is T
  have D__law_right : DefT P w (gm K) mg base "_law_right" 7 m__law_right := ok__law_right T
  have K_Step_2 : MakeT P w (gm K) mg base "Step" 2 2 [] gD_Step_2 m_Step := mk_Step_2 T
  have K_Step_2_copied : MakeT P w (gm K) mg base "Step" 2 2 ["copied"] gD_Step_2_copied m_Step := mk_Step_2_copied T
  have D__law_gone : DefT P w (gm K) mg base "_law_gone" 1 m__law_gone := ok__law_gone T
  have D__law_tie : DefT P w (gm K) mg base "_law_tie" 1 m__law_tie := ok__law_tie T
  refine def_ok (g := gm K) (o := fun ds => match ds with
    | [a__law_script] => o_law a__law_script
    | _ => .no) F S (fun ds hl => match ds, hl with
    | [_], _ => rfl) (fun ds hl => ?_) (fun cdv A outer s H F0 E ds sd hl => ?_)
  · unfold m_law
    split
    · exact absurd rfl hl
    · rfl
  · match ds, hl with
    | [a__law_script], _ =>
      have hr := sd.hr
      have tk := sd.tk
      have hu := sd.hu
      have hu1 := sd.hu1
      have po := sd.po
      show PSs _ _ (tS _ _ _ _ (o_law a__law_script) _)
      delta o_law
      exact (b_set (i := 1) (e_call D__law_draws hr tk (a_cons (e_var (i := 0)) a_nil)) (fun v__law_row_1407 _ => (b_set (i := 2) (e_op o_mod (e_t1 c_int (toR (e_call D__law_at hr tk (a_cons (e_var (i := 1)) (a_cons e_int a_nil)))) T.n_int) e_int) (fun v__law_many_1416 _ => (b_set (i := 3) (e_call D__law_names hr tk (a_cons (e_call D__law_at hr tk (a_cons (e_var (i := 1)) (a_cons e_int a_nil))) (a_cons (e_var (i := 2)) a_nil))) (fun v__law_names_here_1427 _ => (b_set (i := 4) (e_call D__law_labels hr tk (a_cons (e_var (i := 1)) (a_cons e_int (a_cons (e_var (i := 2)) a_nil)))) (fun v__law_labels_here_1435 _ => (b_set (i := 5) (e_makek K_Regions_1_codes hr tk (a_cons (e_var (i := 3)) a_nil) (k_cons (e_var (i := 4)) k_nil) (hl := (len_cons len_nil)) (hlk := (len_cons len_nil))) (fun v__law_state_1442 _ => (b_set (i := 6) (e_t1 c_int (toR (e_call D__law_at hr tk (a_cons (e_var (i := 1)) (a_cons e_int a_nil)))) T.n_int) (fun v__law_shift_1449 _ => (b_for (i := 7) (t0 := ()) (Γh := fun (t1451 : Unit) => [some (.v a__law_script), some (.v v__law_row_1407), some (.v v__law_many_1416), some (.v v__law_names_here_1427), some (.v v__law_labels_here_1435), some (.v v__law_state_1442), some (.v v__law_shift_1449), none, none, none, none, none, none, none, none, none, none]) (src_range1 (e_var (i := 2)) T.n_range) (fun _ v__law_i_1452 t1451 => (b_set (i := 8) (e_op o_mod (e_op o_add (e_var (i := 7)) (e_var (i := 6))) (e_var (i := 2))) (fun v__law_j_1457 _ => (b_set (i := 9) (e_ix (e_var (i := 3)) (e_var (i := 7))) (fun v__law_x_1460 _ => (b_set (i := 10) (e_ix (e_var (i := 3)) (e_var (i := 8))) (fun v__law_y_1463 _ => (b_set (i := 11) e_non (fun v__law_first_1464 _ => (b_if (Γ1 := fun (t1471 : D) => [some (.v a__law_script), some (.v v__law_row_1407), some (.v v__law_many_1416), some (.v v__law_names_here_1427), some (.v v__law_labels_here_1435), some (.v v__law_state_1442), some (.v v__law_shift_1449), some (.v v__law_i_1452), some (.v v__law_j_1457), some (.v v__law_x_1460), some (.v v__law_y_1463), some (.v t1471), none, none, none, none, none]) (t_cmp (o_eq hu) (toR (e_ix (e_var (i := 4)) (e_var (i := 7)))) (toR e_int)) (fun _ => (b_set (i := 11) (e_var (i := 9)) (fun v__law_first_1470 _ => b_nil) S.nd)) (fun _ => b_nil) (fun t1471 => (b_set (i := 12) e_non (fun v__law_second_1472 _ => (b_if (Γ1 := fun (t1479 : D) => [some (.v a__law_script), some (.v v__law_row_1407), some (.v v__law_many_1416), some (.v v__law_names_here_1427), some (.v v__law_labels_here_1435), some (.v v__law_state_1442), some (.v v__law_shift_1449), some (.v v__law_i_1452), some (.v v__law_j_1457), some (.v v__law_x_1460), some (.v v__law_y_1463), some (.v t1471), some (.v t1479), none, none, none, none]) (t_cmp (o_eq hu) (toR (e_ix (e_var (i := 4)) (e_var (i := 8)))) (toR e_int)) (fun _ => (b_set (i := 12) (e_var (i := 10)) (fun v__law_second_1478 _ => b_nil) S.nd)) (fun _ => b_nil) (fun t1479 => (b_set (i := 13) (e_var (i := 11)) (fun v__law_either_1480 _ => (b_if (Γ1 := fun (t1484 : D) => [some (.v a__law_script), some (.v v__law_row_1407), some (.v v__law_many_1416), some (.v v__law_names_here_1427), some (.v v__law_labels_here_1435), some (.v v__law_state_1442), some (.v v__law_shift_1449), some (.v v__law_i_1452), some (.v v__law_j_1457), some (.v v__law_x_1460), some (.v v__law_y_1463), some (.v t1471), some (.v t1479), some (.v t1484), none, none, none]) (t_isN (toR (e_var (i := 11)))) (fun _ => (b_set (i := 13) (e_var (i := 12)) (fun v__law_either_1483 _ => b_nil) S.nd)) (fun _ => b_nil) (fun t1484 => (b_setn (i := 14) (n_list (e_var (i := 4)) T.n_list) (fun l__law_moved_1485 _ => (b_seti (i := 14) (e_ix (e_var (i := 4)) (e_var (i := 8))) (e_var (i := 7)) (fun l__law_moved_1489 => (b_setn (i := 15) (n_lst (a_cons (ofN (n_lst (a_cons (e_tup (a_cons e_str (a_cons (e_var (i := 9)) a_nil))) (a_cons (e_var (i := 11)) (a_cons (e_var (i := 4)) a_nil))))) (a_cons (ofN (n_lst (a_cons (e_tup (a_cons e_str (a_cons (e_var (i := 9)) a_nil))) (a_cons (e_var (i := 11)) (a_cons (e_var (i := 4)) a_nil))))) (a_cons (ofN (n_lst (a_cons (e_tup (a_cons e_str (a_cons (e_var (i := 9)) a_nil))) (a_cons (e_var (i := 11)) (a_cons (e_call D__law_gone hr tk (a_cons (e_var (i := 4)) (a_cons (e_var (i := 7)) a_nil))) a_nil))))) a_nil)))) (fun l__law_rows_1490 _ => (b_frz (i := 15) (b_setn (i := 15) (n_addL (e_var (i := 15)) (ofN (n_lst (a_cons (ofN (n_lst (a_cons (e_tup (a_cons e_str (a_cons (e_var (i := 9)) (a_cons (e_var (i := 10)) a_nil)))) (a_cons (e_var (i := 13)) (a_cons (e_call D__law_tie hr tk (a_cons (e_var (i := 4)) (a_cons (e_var (i := 7)) (a_cons (e_var (i := 8)) a_nil)))) a_nil))))) (a_cons (ofN (n_lst (a_cons (e_tup (a_cons e_str (a_cons (e_var (i := 9)) (a_cons (e_var (i := 10)) a_nil)))) (a_cons (e_var (i := 11)) (a_cons (e_var (i := 4)) a_nil))))) a_nil))))) (fun l__law_rows_1542 _ => (b_frz (i := 14) (b_app (i := 15) (ofN (n_lst (a_cons (e_tup (a_cons e_str (a_cons (e_var (i := 9)) (a_cons (e_var (i := 10)) (a_cons (e_t1 c_int (toR (e_call D__law_at hr tk (a_cons (e_var (i := 1)) (a_cons e_int a_nil)))) T.n_int) a_nil))))) (a_cons (e_var (i := 12)) (a_cons (e_var (i := 14)) a_nil))))) (fun e1611 _ _ => (b_frz (i := 15) (b_for (i := 16) (t0 := ()) (Γh := fun (t1613 : Unit) => [some (.v a__law_script), some (.v v__law_row_1407), some (.v v__law_many_1416), some (.v v__law_names_here_1427), some (.v v__law_labels_here_1435), some (.v v__law_state_1442), some (.v v__law_shift_1449), some (.v v__law_i_1452), some (.v v__law_j_1457), some (.v v__law_x_1460), some (.v v__law_y_1463), some (.v t1471), some (.v t1479), some (.v t1484), some (.v (.list l__law_moved_1489)), some (.v (.list (l__law_rows_1542 ++ [e1611]))), none]) (src_val (e_var (i := 15))) (fun _ v__law_one_1614 t1613 => (b_ifr (t_not (t_val (e_call D__law_right hr tk (a_cons (e_make K_Step_2 hr tk (a_cons (e_var (i := 3)) (a_cons (e_ix (e_var (i := 16)) e_int) a_nil)) (hl := (len_cons (len_cons len_nil)))) (a_cons (e_var (i := 5)) (a_cons (e_var (i := 3)) (a_cons (e_ix (e_var (i := 16)) e_int) (a_cons (e_ix (e_var (i := 16)) e_int) a_nil)))))))) (fun _ => (b_ret e_bl)) (fun _ => b_nil))) (fun t1639 => (b_ifr (t_not (t_val (e_call D__law_right hr tk (a_cons (e_makek K_Step_2_copied hr tk (a_cons (e_t1F c_tuple (e_var (i := 3)) T.n_tuple) (a_cons (e_tup (a_cons e_str (a_cons (e_var (i := 9)) a_nil))) a_nil)) (k_cons e_bl k_nil) (hl := (len_cons (len_cons len_nil))) (hlk := (len_cons len_nil))) (a_cons (e_var (i := 5)) (a_cons (e_var (i := 3)) (a_cons (e_var (i := 11)) (a_cons (e_var (i := 4)) a_nil)))))))) (fun _ => (b_ret e_bl)) (fun _ => b_nil))) po S.nd)))))) S.nd))) S.nd)))) S.nd)))) S.nd)))) S.nd)))) S.nd)) S.nd)) S.nd)) S.nd)) (fun t1669 => (b_ret (e_call D__law_is hr tk (a_cons (e_var (i := 5)) (a_cons (e_var (i := 3)) (a_cons (e_var (i := 4)) a_nil)))))) po S.nd)) S.nd)) S.nd)) S.nd)) S.nd)) S.nd)) S.nd)
theorem ok_law (T : TX P w K mg) : DefT P w (gm K) mg base "law" 8 m_law :=
  let ⟨fd, F⟩ := T.f_law
  ⟨⟨_, fd, ["_law_script"], okf_law T F, T.g_law, F.kp, F.bindsN fun _ _ _ _ _ _ us hl => match us, hl with
    | [_], _ => rfl⟩⟩
end

end NS
/-! Pu: what the mirrors' operations come to on iL, texts, rows of them. -/
namespace Pu
open PySem Mi L2
abbrev iL (xs : List Int) : List D := xs.map PyData.int
abbrev sL (xs : List Str) : List D := xs.map PyData.str

/-! ### operations -/
theorem bi (a b : Int) : (a == b) = decide (a = b) := by
  by_cases h : a = b <;> simp [h]
theorem addD_int (a b : Int) : addD (.int a) (.int b) = some (.int (a + b)) := rfl
theorem subD_int (a b : Int) : subD (.int a) (.int b) = some (.int (a - b)) := rfl
theorem negD_int (a : Int) : negD (.int a) = some (.int (-a)) := rfl
theorem modD_int (a b : Int) : modD (.int a) (.int b) = if 0 < b then some (.int (a % b)) else none := by
  simp [modD, iiO]
theorem fdivD_int (a b : Int) : fdivD (.int a) (.int b) = if 0 < b ∧ b.natAbs < 2 ^ 200 then some (.int (a / b)) else none := by
  simp [fdivD, iiO]
theorem mulD_int (a b : Int) : mulD (.int a) (.int b) = if a.natAbs < 2 ^ 200 ∧ b.natAbs < 2 ^ 200 then some (.int (a * b)) else none := by
  simp [mulD, iiO]
theorem powD_int (a b : Int) : powD (.int a) (.int b) = if 0 ≤ b ∧ b ≤ 1000 ∧ a.natAbs < 2 ^ 64 then some (.int (a ^ b.toNat)) else none := by
  simp [powD, iiO]
theorem small200 {a : Int} (h : -1000000000000000000000000000000 < a) (h2 : a < 1000000000000000000000000000000) : a.natAbs < 2 ^ 200 := by
  have h3 : a.natAbs < 1000000000000000000000000000000 := by omega
  exact Nat.lt_of_lt_of_le h3 (by decide)
theorem modD_ok {a b : Int} (h : 0 < b) : modD (.int a) (.int b) = some (.int (a % b)) := by
  rw [modD_int, if_pos h]
theorem fdivD_ok {a b : Int} (h : 0 < b) (h2 : b < 1000000000000000000000000000000) : fdivD (.int a) (.int b) = some (.int (a / b)) := by
  rw [fdivD_int, if_pos ⟨h, small200 (by omega) h2⟩]
theorem mulD_ok {a b : Int} (h : -1000000000000000000000000000000 < a) (h2 : a < 1000000000000000000000000000000) (h3 : -1000000000000000000000000000000 < b) (h4 : b < 1000000000000000000000000000000) : mulD (.int a) (.int b) = some (.int (a * b)) := by
  rw [mulD_int, if_pos ⟨small200 h h2, small200 h3 h4⟩]
theorem ltB_int (a b : Int) : ltB (.int a) (.int b) = some (decide (a < b)) := rfl
theorem leB_int (a b : Int) : leB (.int a) (.int b) = some (decide (a ≤ b)) := rfl
theorem gtB_int (a b : Int) : gtB (.int a) (.int b) = some (decide (b < a)) := rfl
theorem geB_int (a b : Int) : geB (.int a) (.int b) = some (decide (b ≤ a)) := rfl
theorem eqB_int (a b : Int) : eqB (.int a) (.int b) = some (decide (a = b)) := by
  have h : eqOk (.int a) (.int b) = true := rfl
  unfold eqB
  rw [if_pos h, PyData.eqv, bi]
theorem neB_int (a b : Int) : neB (.int a) (.int b) = some (!decide (a = b)) := by
  have h : eqOk (.int a) (.int b) = true := rfl
  unfold neB
  rw [if_pos h, PyData.eqv, bi]
theorem eqB_bool (a b : Bool) : eqB (.bool a) (.bool b) = some (a == b) := by
  have h : eqOk (.bool a) (.bool b) = true := rfl
  unfold eqB
  rw [if_pos h, PyData.eqv]
theorem neB_bool (a b : Bool) : neB (.bool a) (.bool b) = some (!(a == b)) := by
  have h : eqOk (.bool a) (.bool b) = true := rfl
  unfold neB
  rw [if_pos h, PyData.eqv]
theorem eqB_str (a b : Str) : eqB (.str a) (.str b) = some (decide (a = b)) := by
  have h : eqOk (.str a) (.str b) = true := rfl
  unfold eqB
  rw [if_pos h, PyData.eqv]
  congr 1
theorem neB_str (a b : Str) : neB (.str a) (.str b) = some (!decide (a = b)) := by
  have h : eqOk (.str a) (.str b) = true := rfl
  unfold neB
  rw [if_pos h, PyData.eqv]
  congr 1
theorem plain_iL : ∀ xs : List Int, PyData.plainAll (iL xs) = true
  | [] => rfl
  | x :: xs => by
    show (PyData.plain (.int x) && PyData.plainAll (iL xs)) = true
    rw [plain_iL xs]
    rfl
theorem plain_sL : ∀ xs : List Str, PyData.plainAll (sL xs) = true
  | [] => rfl
  | x :: xs => by
    show (PyData.plain (.str x) && PyData.plainAll (sL xs)) = true
    rw [plain_sL xs]
    rfl
theorem eqvAll_iL : ∀ xs ys : List Int, PyData.eqvAll (iL xs) (iL ys) = decide (xs = ys)
  | [], [] => rfl
  | [], _ :: _ => rfl
  | _ :: _, [] => rfl
  | x :: xs, y :: ys => by
    show (PyData.eqv (.int x) (.int y) && PyData.eqvAll (iL xs) (iL ys)) = _
    rw [eqvAll_iL xs ys, PyData.eqv, bi]
    simp
theorem eqvAll_sL : ∀ xs ys : List Str, PyData.eqvAll (sL xs) (sL ys) = decide (xs = ys)
  | [], [] => rfl
  | [], _ :: _ => rfl
  | _ :: _, [] => rfl
  | x :: xs, y :: ys => by
    show (PyData.eqv (.str x) (.str y) && PyData.eqvAll (sL xs) (sL ys)) = _
    rw [eqvAll_sL xs ys, PyData.eqv]
    by_cases h : x = y <;> simp [h]
theorem depth_iL : ∀ xs : List Int, PyData.depthAll (iL xs) ≤ 2
  | [] => by decide
  | x :: xs => by
    have h : PyData.depthAll (iL (x :: xs)) = max (PyData.depth (.int x)) (PyData.depthAll (iL xs)) := rfl
    rw [h]
    exact Nat.max_le.mpr ⟨Nat.le_of_ble_eq_true rfl, depth_iL xs⟩
theorem depth_sL : ∀ xs : List Str, PyData.depthAll (sL xs) ≤ 2
  | [] => by decide
  | x :: xs => by
    have h : PyData.depthAll (sL (x :: xs)) = max (PyData.depth (.str x)) (PyData.depthAll (sL xs)) := rfl
    rw [h]
    exact Nat.max_le.mpr ⟨Nat.le_of_ble_eq_true rfl, depth_sL xs⟩
theorem eqB_lI (xs ys : List Int) : eqB (.list (iL xs)) (.list (iL ys)) = some (decide (xs = ys)) := by
  have h : eqOk (.list (iL xs)) (.list (iL ys)) = true := by
    have d := depth_iL xs
    have e : PyData.depth (.list (iL xs)) = PyData.depthAll (iL xs) + 1 := rfl
    simp [eqOk, PyData.plain, plain_iL, e]
    omega
  unfold eqB
  rw [if_pos h, PyData.eqv, eqvAll_iL]
theorem neB_lI (xs ys : List Int) : neB (.list (iL xs)) (.list (iL ys)) = some (!decide (xs = ys)) := by
  have h : eqOk (.list (iL xs)) (.list (iL ys)) = true := by
    have d := depth_iL xs
    have e : PyData.depth (.list (iL xs)) = PyData.depthAll (iL xs) + 1 := rfl
    simp [eqOk, PyData.plain, plain_iL, e]
    omega
  unfold neB
  rw [if_pos h, PyData.eqv, eqvAll_iL]
theorem neB_lS (xs ys : List Str) : neB (.list (sL xs)) (.list (sL ys)) = some (!decide (xs = ys)) := by
  have h : eqOk (.list (sL xs)) (.list (sL ys)) = true := by
    have d := depth_sL xs
    have e : PyData.depth (.list (sL xs)) = PyData.depthAll (sL xs) + 1 := rfl
    simp [eqOk, PyData.plain, plain_sL, e]
    omega
  unfold neB
  rw [if_pos h, PyData.eqv, eqvAll_sL]
theorem inOk_iL (x : Int) (xs : List Int) : inOk (.int x) (iL xs) = true := by
  have e : PyData.depth (.int x) = 0 ∨ PyData.depth (.int x) = 1 := by first | exact .inl rfl | exact .inr rfl
  have p : PyData.plain (.int x) = true := rfl
  simp only [inOk, p, plain_iL, Bool.and_self, Bool.true_and, Bool.or_eq_true, decide_eq_true_eq]
  omega
theorem inOk_sL (x : Str) (xs : List Str) : inOk (.str x) (sL xs) = true := by
  have e : PyData.depth (.str x) = 0 ∨ PyData.depth (.str x) = 1 := by first | exact .inl rfl | exact .inr rfl
  have p : PyData.plain (.str x) = true := rfl
  simp only [inOk, p, plain_sL, Bool.and_self, Bool.true_and, Bool.or_eq_true, decide_eq_true_eq]
  omega
theorem memD_iL (x : Int) (xs : List Int) : memD (.int x) (iL xs) = decide (x ∈ xs) := by
  induction xs with
  | nil => rfl
  | cons y ys ih =>
    have h : memD (.int x) (iL (y :: ys)) = (PyData.eqv (.int y) (.int x) || memD (.int x) (iL ys)) := rfl
    rw [h, ih, PyData.eqv, bi]
    by_cases q : y = x
    · simp [q]
    · simp [q, Ne.symm q]
theorem memD_sL (x : Str) (xs : List Str) : memD (.str x) (sL xs) = decide (x ∈ xs) := by
  induction xs with
  | nil => rfl
  | cons y ys ih =>
    have h : memD (.str x) (sL (y :: ys)) = (PyData.eqv (.str y) (.str x) || memD (.str x) (sL ys)) := rfl
    rw [h, ih, PyData.eqv]
    by_cases q : y = x
    · simp [q]
    · simp [q, Ne.symm q]
theorem inB_lI (x : Int) (xs : List Int) : inB (.int x) (.list (iL xs)) = some (decide (x ∈ xs)) := by
  show (if inOk (.int x) (iL xs) = true then some (memD (.int x) (iL xs)) else none) = _
  rw [if_pos (inOk_iL x xs), memD_iL]
theorem ninB_lI (x : Int) (xs : List Int) : ninB (.int x) (.list (iL xs)) = some (!decide (x ∈ xs)) := by
  show (if inOk (.int x) (iL xs) = true then some (!memD (.int x) (iL xs)) else none) = _
  rw [if_pos (inOk_iL x xs), memD_iL]
theorem inB_lS (x : Str) (xs : List Str) : inB (.str x) (.list (sL xs)) = some (decide (x ∈ xs)) := by
  show (if inOk (.str x) (sL xs) = true then some (memD (.str x) (sL xs)) else none) = _
  rw [if_pos (inOk_sL x xs), memD_sL]
theorem ninB_lS (x : Str) (xs : List Str) : ninB (.str x) (.list (sL xs)) = some (!decide (x ∈ xs)) := by
  show (if inOk (.str x) (sL xs) = true then some (!memD (.str x) (sL xs)) else none) = _
  rw [if_pos (inOk_sL x xs), memD_sL]
theorem inB_tS (x : Str) (xs : List Str) : inB (.str x) (.tuple (sL xs)) = some (decide (x ∈ xs)) := by
  show (if inOk (.str x) (sL xs) = true then some (memD (.str x) (sL xs)) else none) = _
  rw [if_pos (inOk_sL x xs), memD_sL]
theorem ninB_tS (x : Str) (xs : List Str) : ninB (.str x) (.tuple (sL xs)) = some (!decide (x ∈ xs)) := by
  show (if inOk (.str x) (sL xs) = true then some (!memD (.str x) (sL xs)) else none) = _
  rw [if_pos (inOk_sL x xs), memD_sL]
theorem place_iL (x : Int) (xs : List Int) (h : x ∈ xs) : SeqAt.dataPlace (iL xs) (.int x) = some (xs.idxOf x) := by
  unfold SeqAt.dataPlace
  induction xs with
  | nil => cases h
  | cons y ys ih =>
    show List.findIdx? _ (PyData.int y :: iL ys) = _
    rw [List.findIdx?_cons, PyData.eqv, List.idxOf_cons]
    by_cases q : y = x
    · simp [q]
    · have hm : x ∈ ys := by
        rcases List.mem_cons.mp h with z | z
        · exact absurd z.symm q
        · exact z
      rw [ih hm]
      have b : (y == x) = false := by simpa using q
      simp [b]
theorem place_sL (x : Str) (xs : List Str) (h : x ∈ xs) : SeqAt.dataPlace (sL xs) (.str x) = some (xs.idxOf x) := by
  unfold SeqAt.dataPlace
  induction xs with
  | nil => cases h
  | cons y ys ih =>
    show List.findIdx? _ (PyData.str y :: sL ys) = _
    rw [List.findIdx?_cons, PyData.eqv, List.idxOf_cons]
    by_cases q : y = x
    · simp [q]
    · have hm : x ∈ ys := by
        rcases List.mem_cons.mp h with z | z
        · exact absurd z.symm q
        · exact z
      rw [ih hm]
      have b : (y == x) = false := by simpa using q
      simp [b]
theorem index_lI (x : Int) (xs : List Int) (h : x ∈ xs) (z : xs.length ≤ cap) : indexD (.list (iL xs)) (.int x) = some (.int (xs.idxOf x : Nat)) := by
  show (if inOk (.int x) (iL xs) = true ∧ (iL xs).length ≤ cap then (SeqAt.dataPlace (iL xs) (.int x)).map fun j => PyData.int (j : Nat) else none) = _
  rw [if_pos ⟨inOk_iL x xs, by simpa using z⟩, place_iL x xs h]
  rfl
theorem index_tS (x : Str) (xs : List Str) (h : x ∈ xs) (z : xs.length ≤ cap) : indexD (.tuple (sL xs)) (.str x) = some (.int (xs.idxOf x : Nat)) := by
  show (if inOk (.str x) (sL xs) = true ∧ (sL xs).length ≤ cap then (SeqAt.dataPlace (sL xs) (.str x)).map fun j => PyData.int (j : Nat) else none) = _
  rw [if_pos ⟨inOk_sL x xs, by simpa using z⟩, place_sL x xs h]
  rfl
theorem lenD_l (xs : List D) : lenD (.list xs) = some (.int xs.length) := rfl
theorem lenD_t (xs : List D) : lenD (.tuple xs) = some (.int xs.length) := rfl
theorem lenD_s (z : Str) (h : z.length ≤ cap) : lenD (.str z) = some (.int z.length) := if_pos h
theorem at_nat {xs : List D} {j : Nat} {d : D} (h : xs[j]? = some d) : atI xs (j : Int) = some d := L2.atI_nat h
theorem item_lI {xs : List Int} {j : Nat} {x : Int} (h : xs[j]? = some x) : itemD (.list (iL xs)) (.int (j : Nat)) = some (.int x) := at_nat (by rw [List.getElem?_map, h]; rfl)
theorem item_tI {xs : List Int} {j : Nat} {x : Int} (h : xs[j]? = some x) : itemD (.tuple (iL xs)) (.int (j : Nat)) = some (.int x) := at_nat (by rw [List.getElem?_map, h]; rfl)
theorem item_lS {xs : List Str} {j : Nat} {x : Str} (h : xs[j]? = some x) : itemD (.list (sL xs)) (.int (j : Nat)) = some (.str x) := at_nat (by rw [List.getElem?_map, h]; rfl)
theorem item_tS {xs : List Str} {j : Nat} {x : Str} (h : xs[j]? = some x) : itemD (.tuple (sL xs)) (.int (j : Nat)) = some (.str x) := at_nat (by rw [List.getElem?_map, h]; rfl)
theorem mkL_ok {xs : List D} (h : xs.length ≤ cap) : mkL xs = some xs := if_pos h
theorem mkL_nil : mkL [] = some [] := rfl
/-! ### loops -/
theorem loop_at {β τ : Type} {f : D → τ → Fl τ τ} (P : Nat → τ → Prop) : ∀ (xs : List D) (i : Nat) (t : τ), P i t → (∀ (j : Nat) (x : D) (t : τ), xs[j]? = some x → P (i + j) t → ∃ t', (f x t = .nx t' ∨ f x t = .ct t') ∧ P (i + j + 1) t') →
    ∃ t', (loopF xs t f : Fl β τ) = .nx t' ∧ P (i + xs.length) t'
  | [], i, t, h, _ => ⟨t, rfl, h⟩
  | x :: xs, i, t, h, hs => by
    obtain ⟨t1, e1, p1⟩ := hs 0 x t rfl h
    obtain ⟨t2, e2, p2⟩ := loop_at (β := β) P xs (i + 1) t1 p1 fun j y u hy hp => by
      obtain ⟨t', a, b⟩ := hs (j + 1) y u (by simpa using hy) (by rw [show i + (j + 1) = i + 1 + j by omega]; exact hp)
      exact ⟨t', a, by rw [show i + 1 + j + 1 = i + (j + 1) + 1 by omega]; exact b⟩
    refine ⟨t2, ?_, by rw [List.length_cons, show i + (xs.length + 1) = i + 1 + xs.length by omega]; exact p2⟩
    rw [loopF]
    rcases e1 with e1 | e1 <;> rw [e1] <;> exact e2
theorem loop_ok {β τ : Type} {f : D → τ → Fl τ τ} {xs : List D} {t : τ} (P : Nat → τ → Prop) (h : P 0 t) (hs : ∀ (j : Nat) (x : D) (t : τ), xs[j]? = some x → P j t → ∃ t', (f x t = .nx t' ∨ f x t = .ct t') ∧ P (j + 1) t') :
    ∃ t', (loopF xs t f : Fl β τ) = .nx t' ∧ P xs.length t' := by
  obtain ⟨t', e, p⟩ := loop_at (β := β) P xs 0 t h fun j x t hx hp => by
    rw [Nat.zero_add] at hp
    rw [Nat.zero_add]
    exact hs j x t hx hp
  exact ⟨t', e, by rw [Nat.zero_add] at p; exact p⟩
theorem lc_all {xs : List D} {c : D → Res Bool} {f : D → Res D} {g : D → D} (hz : xs.length ≤ cap) (hc : ∀ x ∈ xs, c x = .ok true) (hf : ∀ x ∈ xs, f x = .ok (g x)) : lcC xs c f = .ok (xs.map g) := by
  unfold lcC
  rw [if_pos hz]
  clear hz
  induction xs with
  | nil => rfl
  | cons x xs ih =>
    rw [lcF, hc x (by simp)]
    show (match f x with
      | .ok y => (lcF xs c f).bind fun ys => .ok (y :: ys)
      | _ => .no) = _
    rw [hf x (by simp)]
    show (lcF xs c f).bind _ = _
    rw [ih (fun y hy => hc y (by simp [hy])) fun y hy => hf y (by simp [hy])]
    rfl
theorem lc_some {xs : List D} {c : D → Res Bool} {f : D → Res D} {p : D → Bool} {g : D → D} (hz : xs.length ≤ cap) (hc : ∀ x ∈ xs, c x = .ok (p x)) (hf : ∀ x ∈ xs, p x = true → f x = .ok (g x)) : lcC xs c f = .ok ((xs.filter p).map g) := by
  unfold lcC
  rw [if_pos hz]
  clear hz
  induction xs with
  | nil => rfl
  | cons x xs ih =>
    have ih2 := ih (fun y hy => hc y (by simp [hy])) fun y hy => hf y (by simp [hy])
    rw [lcF, hc x (by simp)]
    cases q : p x with
    | false =>
      show lcF xs c f = _
      rw [ih2, List.filter_cons_of_neg (by simp [q])]
    | true =>
      show (match f x with
        | .ok y => (lcF xs c f).bind fun ys => .ok (y :: ys)
        | _ => .no) = _
      rw [hf x (by simp) q]
      show (lcF xs c f).bind _ = _
      rw [ih2, List.filter_cons_of_pos q]
      rfl
theorem rng1_nat (n : Nat) (h : n < 2 ^ 62) : rng1 (.int (n : Nat)) = some (rngL 0 n) := by
  unfold rng1
  have h2 : (n : Int) < 2 ^ 62 ∧ -(2 ^ 62) ≤ (n : Int) := by omega
  simp only [h2, and_self, if_true, Int.toNat_natCast]
theorem rng2_nat (a b : Nat) (ha : a < 2 ^ 62) (hb : b < 2 ^ 62) : rng2 (.int (a : Nat)) (.int (b : Nat)) = some (rngL a (b - a)) := by
  unfold rng2
  have h2 : (-(2 ^ 62) ≤ (a : Int) ∧ (a : Int) < 2 ^ 62) ∧ -(2 ^ 62) ≤ (b : Int) ∧ (b : Int) < 2 ^ 62 := by omega
  have h3 : ((b : Int) - a).toNat = b - a := by omega
  simp only [h2, and_self, if_true, h3]
theorem rng_at {lo : Int} {n j : Nat} {x : D} (h : (rngL lo n)[j]? = some x) : j < n ∧ x = .int (lo + (j : Nat)) := by
  have hj : j < n := by
    have := (List.getElem?_eq_some_iff.mp h).1
    rwa [rngL_len] at this
  rw [rngL_get hj] at h
  exact ⟨hj, (Option.some.inj h).symm⟩
theorem iL_at {xs : List Int} {j : Nat} {d : D} (h : (iL xs)[j]? = some d) : ∃ x, xs[j]? = some x ∧ d = .int x := by
  rw [List.getElem?_map] at h
  obtain ⟨x, h1, h2⟩ := Option.map_eq_some_iff.mp h
  exact ⟨x, h1, h2.symm⟩
theorem sL_at {xs : List Str} {j : Nat} {d : D} (h : (sL xs)[j]? = some d) : ∃ x, xs[j]? = some x ∧ d = .str x := by
  rw [List.getElem?_map] at h
  obtain ⟨x, h1, h2⟩ := Option.map_eq_some_iff.mp h
  exact ⟨x, h1, h2.symm⟩
/-! ### a block falls through, returns -/
def Nx {β τ : Type} (r : Fl β τ) (P : τ → Prop) : Prop := ∃ t, r = .nx t ∧ P t
def Rt {β τ : Type} (r : Fl β τ) (P : D → Prop) : Prop := ∃ d, r = .rt d ∧ P d
def Ok {α : Type} (r : Res α) (P : α → Prop) : Prop := ∃ a, r = .ok a ∧ P a
section
variable {α β τ υ ω : Type}
theorem Nx.bind {r : Fl β τ} {k : τ → Fl β υ} {P : τ → Prop} {Q : υ → Prop} (h : Nx r P) (hk : ∀ t, P t → Nx (k t) Q) : Nx (r.bind k) Q := by
  obtain ⟨t, e, p⟩ := h
  rw [e]
  exact hk t p
theorem Rt.bind {r : Fl β τ} {k : τ → Fl β υ} {P : τ → Prop} {Q : D → Prop} (h : Nx r P) (hk : ∀ t, P t → Rt (k t) Q) : Rt (r.bind k) Q := by
  obtain ⟨t, e, p⟩ := h
  rw [e]
  exact hk t p
theorem Nx.bindF {r : Res α} {k : α → Fl β τ} {P : α → Prop} {Q : τ → Prop} (h : Ok r P) (hk : ∀ t, P t → Nx (k t) Q) : Nx (r.bindF k) Q := by
  obtain ⟨t, e, p⟩ := h
  rw [e]
  exact hk t p
theorem Rt.bindF {r : Res α} {k : α → Fl β τ} {P : α → Prop} {Q : D → Prop} (h : Ok r P) (hk : ∀ t, P t → Rt (k t) Q) : Rt (r.bindF k) Q := by
  obtain ⟨t, e, p⟩ := h
  rw [e]
  exact hk t p
theorem Nx.mk {t : τ} {P : τ → Prop} (h : P t) : Nx (.nx t : Fl β τ) P := ⟨t, rfl, h⟩
theorem Rt.mk {d : D} {P : D → Prop} (h : P d) : Rt (.rt d : Fl β τ) P := ⟨d, rfl, h⟩
theorem Ok.mk {a : α} {P : α → Prop} (h : P a) : Ok (.ok a) P := ⟨a, rfl, h⟩
theorem Nx.imp {r : Fl β τ} {P Q : τ → Prop} (h : Nx r P) (k : ∀ t, P t → Q t) : Nx r Q := let ⟨t, e, p⟩ := h; ⟨t, e, k t p⟩
theorem Nx.loop {f : D → τ → Fl τ τ} {xs : List D} {t : τ} (P : Nat → τ → Prop) (h : P 0 t) (hs : ∀ (j : Nat) (x : D) (t : τ), xs[j]? = some x → P j t → Nx (f x t) (P (j + 1))) : Nx (loopF xs t f : Fl β τ) (P xs.length) :=
  loop_ok P h fun j x t hx hp => let ⟨t', e, p⟩ := hs j x t hx hp; ⟨t', .inl e, p⟩
theorem Rt.res {r : Fl Empty Unit} {P : D → Prop} (h : Rt r P) : ∃ d, r.res = .ok d ∧ P d := let ⟨d, e, p⟩ := h; ⟨d, by rw [e]; rfl, p⟩
end
end Pu
/-! Pv: partitions by labels: the one form of labels, when two rows of labels say the same. -/
namespace Pu
open PySem Mi L2
def cstep (s : List Int × List Int) (l : Int) : List Int × List Int := if l = 0 then (s.1, s.2 ++ [0]) else if l ∈ s.1 then (s.1, s.2 ++ [((s.1.idxOf l : Nat) : Int) + 1]) else (s.1 ++ [l], s.2 ++ [(((s.1 ++ [l]).idxOf l : Nat) : Int) + 1])
def canonP (ls : List Int) : List Int := (ls.foldl cstep ([], [])).2
theorem foldl_take {α σ : Type} (f : σ → α → σ) (s : σ) (xs : List α) (j : Nat) (x : α) (h : xs[j]? = some x) : (xs.take (j + 1)).foldl f s = f ((xs.take j).foldl f s) x := by
  rw [List.take_succ, h, List.foldl_append]
  rfl
theorem cstep_len (ls : List Int) : ∀ s : List Int × List Int, s.1.length ≤ s.2.length → (ls.foldl cstep s).1.length ≤ (ls.foldl cstep s).2.length ∧ (ls.foldl cstep s).2.length = s.2.length + ls.length := by
  induction ls with
  | nil => exact fun s h => ⟨h, rfl⟩
  | cons l ls ih =>
    intro s h
    have h2 : (cstep s l).1.length ≤ (cstep s l).2.length ∧ (cstep s l).2.length = s.2.length + 1 := by
      unfold cstep
      split
      · simp; omega
      · split <;> simp <;> omega
    obtain ⟨a, b⟩ := ih (cstep s l) h2.1
    exact ⟨a, by rw [List.foldl_cons, b, h2.2, List.length_cons]; omega⟩
theorem canon_len (ls : List Int) : (canonP ls).length = ls.length := by
  have := (cstep_len ls ([], []) (Nat.le_refl _)).2
  unfold canonP
  rw [this]
  simp
def codeOf (S : List Int) (l : Int) : Int := if l = 0 then 0 else ((S.idxOf l : Nat) : Int) + 1
theorem cstep_map (ls : List Int) : ∀ s : List Int × List Int, (∃ t, (ls.foldl cstep s).1 = s.1 ++ t) ∧ (ls.foldl cstep s).2 = s.2 ++ ls.map (codeOf (ls.foldl cstep s).1) ∧ ∀ l ∈ ls, l ≠ 0 → l ∈ (ls.foldl cstep s).1 := by
  induction ls with
  | nil => exact fun s => ⟨⟨[], by simp⟩, by simp, fun _ h => nomatch h⟩
  | cons l ls ih =>
    intro s
    obtain ⟨⟨t, h1⟩, h2, h3⟩ := ih (cstep s l)
    rw [List.foldl_cons]
    have key : (∃ u, (cstep s l).1 = s.1 ++ u) ∧ (l ≠ 0 → l ∈ (cstep s l).1) ∧ (cstep s l).2 = s.2 ++ [codeOf (cstep s l).1 l] := by
      unfold cstep codeOf
      by_cases q : l = 0
      · simp [q]
      · by_cases m : l ∈ s.1
        · simp [q, m]
        · simp [q, m]
    obtain ⟨⟨u, k1⟩, k2, k3⟩ := key
    have idx : l ≠ 0 → codeOf (ls.foldl cstep (cstep s l)).1 l = codeOf (cstep s l).1 l := fun q => by
      unfold codeOf
      rw [if_neg q, if_neg q, h1, List.idxOf_append, if_pos (k2 q)]
    have idx2 : codeOf (ls.foldl cstep (cstep s l)).1 l = codeOf (cstep s l).1 l := by
      by_cases q : l = 0
      · unfold codeOf
        rw [if_pos q, if_pos q]
      · exact idx q
    refine ⟨⟨u ++ t, by rw [h1, k1, List.append_assoc]⟩, ?_, fun x hx hq => ?_⟩
    · rw [h2, k3, List.append_assoc, List.map_cons, idx2]
      rfl
    · rcases List.mem_cons.mp hx with z | z
      · subst z
        rw [h1]
        exact List.mem_append_left _ (k2 hq)
      · exact h3 x z hq
theorem canon_map (ls : List Int) : ∃ S : List Int, canonP ls = ls.map (codeOf S) ∧ ∀ l ∈ ls, l ≠ 0 → l ∈ S := by
  obtain ⟨_, h2, h3⟩ := cstep_map ls ([], [])
  exact ⟨_, by unfold canonP; rw [h2]; simp, h3⟩
theorem code_eq {S : List Int} {l m : Int} (hl : l ≠ 0 → l ∈ S) (hm : m ≠ 0 → m ∈ S) : codeOf S l = codeOf S m ↔ l = m := by
  refine ⟨fun h => ?_, fun h => by rw [h]⟩
  unfold codeOf at h
  by_cases q : l = 0
  · by_cases r : m = 0
    · rw [q, r]
    · rw [if_pos q, if_neg r] at h
      omega
  · by_cases r : m = 0
    · rw [if_neg q, if_pos r] at h
      omega
    · rw [if_neg q, if_neg r] at h
      have e : S.idxOf l = S.idxOf m := by omega
      have a := List.getElem_idxOf (List.idxOf_lt_length_of_mem (hl q))
      have b := List.getElem_idxOf (List.idxOf_lt_length_of_mem (hm r))
      rw [← a, ← b]
      congr 1
theorem code_zero {S : List Int} {l : Int} : codeOf S l = 0 ↔ l = 0 := by
  unfold codeOf
  split
  · simp [*]
  · constructor
    · intro h
      omega
    · intro h
      contradiction
/-- two rows of labels that say the same: the labels at the same places correspond one to one, 0 to 0 -/
def Eqv (ls ms : List Int) : Prop := ∃ R : Int → Int → Prop, (∀ a b c d, R a b → R c d → (a = c ↔ b = d)) ∧ R 0 0 ∧ ls.length = ms.length ∧ ∀ i, i < ls.length → R (ls.getD i 0) (ms.getD i 0)
theorem Eqv.refl (ls : List Int) : Eqv ls ls := ⟨fun a b => a = b, fun a b c d h1 h2 => by subst h1; subst h2; exact Iff.rfl, rfl, rfl, fun _ _ => rfl⟩
theorem Eqv.symm {ls ms : List Int} (h : Eqv ls ms) : Eqv ms ls := by
  obtain ⟨R, p, z, l, r⟩ := h
  exact ⟨fun a b => R b a, fun a b c d h1 h2 => (p b a d c h1 h2).symm, z, l.symm, fun i hi => r i (by omega)⟩
theorem Eqv.trans {ls ms ns : List Int} (h : Eqv ls ms) (k : Eqv ms ns) : Eqv ls ns := by
  obtain ⟨R, p, z, l, r⟩ := h
  obtain ⟨S, p2, z2, l2, r2⟩ := k
  refine ⟨fun a c => ∃ b, R a b ∧ S b c, fun a b c d h1 h2 => ?_, ⟨0, z, z2⟩, l.trans l2, fun i hi => ⟨_, r i hi, r2 i (by omega)⟩⟩
  obtain ⟨m1, x1, y1⟩ := h1
  obtain ⟨m2, x2, y2⟩ := h2
  exact (p _ _ _ _ x1 x2).trans (p2 _ _ _ _ y1 y2)
theorem Eqv.len {ls ms : List Int} (h : Eqv ls ms) : ls.length = ms.length := by
  obtain ⟨R, p, z, l, r⟩ := h
  exact l
theorem Eqv.tie {ls ms : List Int} (h : Eqv ls ms) {i j : Nat} (hi : i < ls.length) (hj : j < ls.length) : ls.getD i 0 = ls.getD j 0 ↔ ms.getD i 0 = ms.getD j 0 := by
  obtain ⟨R, p, z, l, r⟩ := h
  exact p _ _ _ _ (r i hi) (r j hj)
theorem Eqv.zero {ls ms : List Int} (h : Eqv ls ms) {i : Nat} (hi : i < ls.length) : ls.getD i 0 = 0 ↔ ms.getD i 0 = 0 := by
  obtain ⟨R, p, z, l, r⟩ := h
  exact p _ _ _ _ (r i hi) z
theorem Eqv.mk' {ls ms : List Int} (l : ls.length = ms.length) (t : ∀ i j, i < ls.length → j < ls.length → (ls.getD i 0 = ls.getD j 0 ↔ ms.getD i 0 = ms.getD j 0)) (z : ∀ i, i < ls.length → (ls.getD i 0 = 0 ↔ ms.getD i 0 = 0)) : Eqv ls ms := by
  refine ⟨fun a b => (a = 0 ∧ b = 0) ∨ ∃ i, i < ls.length ∧ a = ls.getD i 0 ∧ b = ms.getD i 0, fun a b c d h1 h2 => ?_, .inl ⟨rfl, rfl⟩, l, fun i hi => .inr ⟨i, hi, rfl, rfl⟩⟩
  rcases h1 with ⟨rfl, rfl⟩ | ⟨i, hi, rfl, rfl⟩
  · rcases h2 with ⟨rfl, rfl⟩ | ⟨j, hj, rfl, rfl⟩
    · simp
    · rw [eq_comm, z j hj, eq_comm]
  · rcases h2 with ⟨rfl, rfl⟩ | ⟨j, hj, rfl, rfl⟩
    · exact z i hi
    · exact t i j hi hj
theorem getD_map (f : Int → Int) (ls : List Int) {i : Nat} (hi : i < ls.length) : (ls.map f).getD i 0 = f (ls.getD i 0) := by
  rw [List.getD_eq_getElem?_getD, List.getD_eq_getElem?_getD, List.getElem?_map, List.getElem?_eq_getElem hi]
  rfl
theorem getD_mem {ls : List Int} {i : Nat} (hi : i < ls.length) : ls.getD i 0 ∈ ls := by
  rw [List.getD_eq_getElem?_getD, List.getElem?_eq_getElem hi]
  exact List.getElem_mem hi
theorem getD_at {ls : List Int} {i : Nat} (hi : i < ls.length) : ls[i]? = some (ls.getD i 0) := by
  rw [List.getD_eq_getElem?_getD, List.getElem?_eq_getElem hi]
  rfl
theorem mem_getD {ls : List Int} {x : Int} (h : x ∈ ls) : ∃ i, i < ls.length ∧ ls.getD i 0 = x := by
  obtain ⟨i, hi, e⟩ := List.mem_iff_getElem.mp h
  exact ⟨i, hi, by rw [List.getD_eq_getElem?_getD, List.getElem?_eq_getElem hi]; exact e⟩
theorem getD_set (ls : List Int) (i k : Nat) (v : Int) (hk : k < ls.length) : (ls.set i v).getD k 0 = if i = k then v else ls.getD k 0 := by
  rw [List.getD_eq_getElem?_getD, List.getElem?_set, List.getD_eq_getElem?_getD]
  by_cases e : i = k
  · subst e
    simp [hk]
  · simp [e]
theorem list_ext_getD {ls ms : List Int} (l : ls.length = ms.length) (h : ∀ i, i < ls.length → ls.getD i 0 = ms.getD i 0) : ls = ms := by
  refine List.ext_getElem l fun i h1 h2 => ?_
  have := h i h1
  rw [List.getD_eq_getElem?_getD, List.getD_eq_getElem?_getD, List.getElem?_eq_getElem h1, List.getElem?_eq_getElem h2] at this
  exact this
/-! the form -/
theorem idxOf_map {f : Int → Int} {s : List Int} {l : Int} (inj : ∀ a ∈ s, f a = f l → a = l) : (s.map f).idxOf (f l) = s.idxOf l := by
  induction s with
  | nil => rfl
  | cons a s ih =>
    rw [List.map_cons, List.idxOf_cons, List.idxOf_cons]
    by_cases e : a = l
    · subst e
      simp
    · have e2 : f a ≠ f l := fun z => e (inj a (by simp) z)
      have b1 : (f a == f l) = false := by simpa using e2
      have b2 : (a == l) = false := by simpa using e
      rw [b1, b2, ih fun a ha => inj a (by simp [ha])]
theorem fold_mapf (f : Int → Int) (U : Int → Prop) (h0 : ∀ l, U l → (l = 0 ↔ f l = 0)) (inj : ∀ l m, U l → U m → f l = f m → l = m) : ∀ (ls : List Int) (s : List Int × List Int), (∀ l ∈ ls, U l) → (∀ l ∈ s.1, U l) →
    (ls.map f).foldl cstep (s.1.map f, s.2) = ((ls.foldl cstep s).1.map f, (ls.foldl cstep s).2)
  | [], s, _, _ => rfl
  | l :: ls, s, hl, hs => by
    have ul := hl l (by simp)
    have st : cstep (s.1.map f, s.2) (f l) = ((cstep s l).1.map f, (cstep s l).2) := by
      unfold cstep
      by_cases q : l = 0
      · rw [if_pos q, if_pos ((h0 l ul).mp q)]
      · rw [if_neg q, if_neg (fun z => q ((h0 l ul).mpr z))]
        have mm : f l ∈ s.1.map f ↔ l ∈ s.1 := by
          constructor
          · intro z
            obtain ⟨a, ha, e⟩ := List.mem_map.mp z
            rw [← inj a l (hs a ha) ul e]
            exact ha
          · exact fun z => List.mem_map_of_mem z
        by_cases m : l ∈ s.1
        · rw [if_pos m, if_pos (mm.mpr m)]
          show (s.1.map f, s.2 ++ [(((s.1.map f).idxOf (f l) : Nat) : Int) + 1]) = _
          rw [idxOf_map fun a ha => inj a l (hs a ha) ul]
        · rw [if_neg m, if_neg (fun z => m (mm.mp z))]
          have e : s.1.map f ++ [f l] = (s.1 ++ [l]).map f := by simp
          show (s.1.map f ++ [f l], s.2 ++ [(((s.1.map f ++ [f l]).idxOf (f l) : Nat) : Int) + 1]) = _
          rw [e, idxOf_map fun a ha z => ?_]
          rcases List.mem_append.mp ha with w | w
          · exact inj a l (hs a w) ul z
          · exact List.mem_singleton.mp w
    rw [List.map_cons, List.foldl_cons, List.foldl_cons, st]
    refine fold_mapf f U h0 inj ls (cstep s l) (fun a ha => hl a (by simp [ha])) fun a ha => ?_
    unfold cstep at ha
    split at ha
    · exact hs a ha
    · split at ha
      · exact hs a ha
      · rcases List.mem_append.mp ha with w | w
        · exact hs a w
        · rw [List.mem_singleton.mp w]
          exact ul
theorem canon_mapf (f : Int → Int) (ls : List Int) (h0 : ∀ l ∈ ls, (l = 0 ↔ f l = 0)) (inj : ∀ l ∈ ls, ∀ m ∈ ls, f l = f m → l = m) : canonP (ls.map f) = canonP ls := by
  have h := fold_mapf f (fun l => l ∈ ls) h0 (fun l m hl hm => inj l hl m hm) ls ([], []) (fun _ z => z) (fun _ z => nomatch z)
  unfold canonP
  have h := congrArg Prod.snd h
  exact h
theorem canon_of {ls ms : List Int} (h : Eqv ls ms) : canonP ls = canonP ms := by
  have e : ms = ls.map fun l => ms.getD (ls.idxOf l) 0 := by
    refine list_ext_getD (by rw [List.length_map, h.len]) fun i hi => ?_
    have hi2 : i < ls.length := by rw [h.len]; exact hi
    rw [getD_map _ _ hi2]
    have hm := getD_mem hi2
    have hx := List.idxOf_lt_length_of_mem hm
    refine (h.tie hi2 hx).mp ?_
    have g := List.getElem_idxOf hx
    rw [List.getD_eq_getElem?_getD (i := ls.idxOf _), List.getElem?_eq_getElem hx]
    exact g.symm
  have at_ : ∀ l ∈ ls, ∃ i, i < ls.length ∧ l = ls.getD i 0 ∧ ms.getD (ls.idxOf l) 0 = ms.getD i 0 := fun l hl => by
    obtain ⟨i, hi, rfl⟩ := mem_getD hl
    refine ⟨i, hi, rfl, ?_⟩
    have hx := List.idxOf_lt_length_of_mem hl
    have g := List.getElem_idxOf hx
    refine (h.tie hx hi).mp ?_
    rw [List.getD_eq_getElem?_getD (i := ls.idxOf _), List.getElem?_eq_getElem hx]
    exact g
  rw [e, canon_mapf]
  · intro l hl
    obtain ⟨i, hi, rfl, e2⟩ := at_ l hl
    rw [e2]
    exact h.zero hi
  · intro l hl m hm q
    obtain ⟨i, hi, rfl, e2⟩ := at_ l hl
    obtain ⟨j, hj, rfl, e3⟩ := at_ m hm
    have q : ms.getD (ls.idxOf (ls.getD i 0)) 0 = ms.getD (ls.idxOf (ls.getD j 0)) 0 := q
    rw [e2, e3] at q
    exact (h.tie hi hj).mpr q
theorem canon_eqv (ls : List Int) : Eqv (canonP ls) ls := by
  obtain ⟨S, hS, hm⟩ := canon_map ls
  have cl := canon_len ls
  have g : ∀ i, i < ls.length → (canonP ls).getD i 0 = codeOf S (ls.getD i 0) := fun i hi => by
    rw [hS, getD_map _ _ hi]
  refine Eqv.mk' cl (fun i j hi hj => ?_) fun i hi => ?_
  · rw [g i (by omega), g j (by omega)]
    exact code_eq (hm _ (getD_mem (by omega))) (hm _ (getD_mem (by omega)))
  · rw [g i (by omega)]
    exact code_zero
theorem of_canon {ls ms : List Int} (h : canonP ls = canonP ms) : Eqv ls ms := (canon_eqv ls).symm.trans (h ▸ canon_eqv ms)
theorem canon_iff {ls ms : List Int} : canonP ls = canonP ms ↔ Eqv ls ms := ⟨of_canon, canon_of⟩
theorem canon_idem (ls : List Int) : canonP (canonP ls) = canonP ls := canon_of (canon_eqv ls)
theorem fold_bound (ls : List Int) : ∀ s : List Int × List Int, (∀ c ∈ s.2, 0 ≤ c ∧ c ≤ s.1.length) → (∀ c ∈ (ls.foldl cstep s).2, 0 ≤ c ∧ c ≤ (ls.foldl cstep s).1.length) ∧ (ls.foldl cstep s).1.length ≤ s.1.length + ls.length := by
  induction ls with
  | nil => exact fun s h => ⟨h, by simp⟩
  | cons l ls ih =>
    intro s h
    have k : (∀ c ∈ (cstep s l).2, 0 ≤ c ∧ c ≤ (cstep s l).1.length) ∧ (cstep s l).1.length ≤ s.1.length + 1 := by
      unfold cstep
      by_cases q : l = 0
      · rw [if_pos q]
        refine ⟨fun c hc => ?_, by simp⟩
        rcases List.mem_append.mp hc with w | w
        · exact h c w
        · rw [List.mem_singleton.mp w]
          omega
      · rw [if_neg q]
        by_cases m : l ∈ s.1
        · rw [if_pos m]
          refine ⟨fun c hc => ?_, by simp⟩
          rcases List.mem_append.mp hc with w | w
          · exact h c w
          · rw [List.mem_singleton.mp w]
            have := List.idxOf_lt_length_of_mem m
            show 0 ≤ _ ∧ _ ≤ ((s.1.length : Nat) : Int)
            omega
        · rw [if_neg m]
          refine ⟨fun c hc => ?_, by simp⟩
          have e : (((s.1 ++ [l]).length : Nat) : Int) = s.1.length + 1 := by simp
          show 0 ≤ c ∧ c ≤ (((s.1 ++ [l]).length : Nat) : Int)
          rw [e]
          rcases List.mem_append.mp hc with w | w
          · have := h c w
            omega
          · rw [List.mem_singleton.mp w]
            have := List.idxOf_lt_length_of_mem (show l ∈ s.1 ++ [l] by simp)
            rw [List.length_append] at this
            simp at this
            omega
    obtain ⟨a, b⟩ := ih (cstep s l) k.1
    refine ⟨a, ?_⟩
    rw [List.foldl_cons, List.length_cons]
    omega
theorem canon_bound (ls : List Int) : ∀ c ∈ canonP ls, 0 ≤ c ∧ c ≤ ls.length := fun c hc => by
  have h := fold_bound ls ([], []) (fun _ z => nomatch z)
  have h1 := h.1 c hc
  have h2 := h.2
  simp at h2
  omega
/-! changes -/
theorem Eqv.set {ls ms : List Int} (h : Eqv ls ms) (i : Nat) (v w : Int) (t : ∀ k, k < ls.length → k ≠ i → (ls.getD k 0 = v ↔ ms.getD k 0 = w)) (z : v = 0 ↔ w = 0) : Eqv (ls.set i v) (ms.set i w) := by
  have l := h.len
  refine Eqv.mk' (by simp [l]) (fun a b ha hb => ?_) fun a ha => ?_
  · rw [List.length_set] at ha hb
    rw [getD_set _ _ _ _ ha, getD_set _ _ _ _ hb, getD_set _ _ _ _ (by omega), getD_set _ _ _ _ (by omega)]
    by_cases e1 : i = a
    · by_cases e2 : i = b
      · rw [if_pos e1, if_pos e2, if_pos e1, if_pos e2]
        simp
      · rw [if_pos e1, if_neg e2, if_pos e1, if_neg e2, eq_comm, t b hb (Ne.symm e2), eq_comm]
    · by_cases e2 : i = b
      · rw [if_neg e1, if_pos e2, if_neg e1, if_pos e2, t a ha (Ne.symm e1)]
      · rw [if_neg e1, if_neg e2, if_neg e1, if_neg e2]
        exact h.tie ha hb
  · rw [List.length_set] at ha
    rw [getD_set _ _ _ _ ha, getD_set _ _ _ _ (by omega)]
    by_cases e1 : i = a
    · rw [if_pos e1, if_pos e1]
      exact z
    · rw [if_neg e1, if_neg e1]
      exact h.zero ha
theorem Eqv.set_new {ls ms : List Int} (h : Eqv ls ms) (i : Nat) {v w : Int} (hv : ∀ l ∈ ls, l ≠ v) (hw : ∀ m ∈ ms, m ≠ w) (z1 : v ≠ 0) (z2 : w ≠ 0) : Eqv (ls.set i v) (ms.set i w) :=
  h.set i v w (fun k hk _ => ⟨fun e => absurd e (hv _ (getD_mem hk)), fun e => absurd e (hw _ (getD_mem (by rw [← h.len]; exact hk)))⟩) ⟨fun e => absurd e z1, fun e => absurd e z2⟩
theorem Eqv.set_at {ls ms : List Int} (h : Eqv ls ms) (i j : Nat) (hj : j < ls.length) : Eqv (ls.set i (ls.getD j 0)) (ms.set i (ms.getD j 0)) :=
  h.set i _ _ (fun k hk _ => h.tie hk hj) (h.zero hj)
theorem Eqv.set_zero {ls ms : List Int} (h : Eqv ls ms) (i : Nat) : Eqv (ls.set i 0) (ms.set i 0) :=
  h.set i _ _ (fun k hk _ => h.zero hk) ⟨fun _ => rfl, fun _ => rfl⟩
theorem Eqv.map {ls ms : List Int} (h : Eqv ls ms) (f g : Int → Int) (hf : ∀ i j, i < ls.length → j < ls.length → (f (ls.getD i 0) = f (ls.getD j 0) ↔ g (ms.getD i 0) = g (ms.getD j 0))) (hz : ∀ i, i < ls.length → (f (ls.getD i 0) = 0 ↔ g (ms.getD i 0) = 0)) : Eqv (ls.map f) (ms.map g) := by
  have l := h.len
  refine Eqv.mk' (by simp [l]) (fun a b ha hb => ?_) fun a ha => ?_
  · rw [List.length_map] at ha hb
    rw [getD_map _ _ ha, getD_map _ _ hb, getD_map _ _ (by omega), getD_map _ _ (by omega)]
    exact hf a b ha hb
  · rw [List.length_map] at ha
    rw [getD_map _ _ ha, getD_map _ _ (by omega)]
    exact hz a ha
/-- one class joins the outside -/
def goneP (ls : List Int) (i : Nat) : List Int := ls.map fun l => if l = ls.getD i 0 then 0 else l
theorem Eqv.gone {ls ms : List Int} (h : Eqv ls ms) {i : Nat} (hi : i < ls.length) : Eqv (goneP ls i) (goneP ms i) := by
  refine h.map _ _ (fun a b ha hb => ?_) fun a ha => ?_
  · have t1 := h.tie ha hb
    have t2 := h.tie ha hi
    have t3 := h.tie hb hi
    have z1 := h.zero ha
    have z2 := h.zero hb
    generalize ls.getD a 0 = x at *
    generalize ls.getD b 0 = y at *
    generalize ls.getD i 0 = c at *
    generalize ms.getD a 0 = x2 at *
    generalize ms.getD b 0 = y2 at *
    generalize ms.getD i 0 = c2 at *
    show (if x = c then (0 : Int) else x) = (if y = c then 0 else y) ↔ (if x2 = c2 then (0 : Int) else x2) = (if y2 = c2 then 0 else y2)
    by_cases q1 : x = c <;> by_cases q2 : y = c
    · rw [if_pos q1, if_pos q2, if_pos (t2.mp q1), if_pos (t3.mp q2)]
    · rw [if_pos q1, if_neg q2, if_pos (t2.mp q1), if_neg (fun z => q2 (t3.mpr z)), eq_comm, z2, eq_comm]
    · rw [if_neg q1, if_pos q2, if_neg (fun z => q1 (t2.mpr z)), if_pos (t3.mp q2)]
      exact z1
    · rw [if_neg q1, if_neg q2, if_neg (fun z => q1 (t2.mpr z)), if_neg (fun z => q2 (t3.mpr z))]
      exact t1
  · have t2 := h.tie ha hi
    have z1 := h.zero ha
    show (if ls.getD a 0 = ls.getD i 0 then (0 : Int) else ls.getD a 0) = 0 ↔ (if ms.getD a 0 = ms.getD i 0 then (0 : Int) else ms.getD a 0) = 0
    by_cases q1 : ls.getD a 0 = ls.getD i 0
    · rw [if_pos q1, if_pos (t2.mp q1)]
    · rw [if_neg q1, if_neg (fun z => q1 (t2.mpr z))]
      exact z1
/-- the class of goes joins the class of stays -/
def joinP (ls : List Int) (stays goes : Int) : List Int := ls.map fun l => if l = goes then stays else l
theorem Eqv.join {ls ms : List Int} (h : Eqv ls ms) {i j i2 j2 : Nat} (hi : i < ls.length) (hj : j < ls.length) (hs : (i2 = i ∧ j2 = j) ∨ (i2 = j ∧ j2 = i)) (z1 : ls.getD j 0 = 0 → ls.getD i 0 = 0) (z2 : ms.getD j2 0 = 0 → ms.getD i2 0 = 0) :
    Eqv (joinP ls (ls.getD i 0) (ls.getD j 0)) (joinP ms (ms.getD i2 0) (ms.getD j2 0)) := by
  refine h.map _ _ (fun a b ha hb => ?_) fun a ha => ?_
  · have t1 := h.tie ha hb
    have ai := h.tie ha hi
    have aj := h.tie ha hj
    have bi := h.tie hb hi
    have bj := h.tie hb hj
    have ij := h.tie hi hj
    generalize ls.getD a 0 = x at *
    generalize ls.getD b 0 = y at *
    generalize ls.getD i 0 = c at *
    generalize ls.getD j 0 = d at *
    rcases hs with ⟨rfl, rfl⟩ | ⟨rfl, rfl⟩ <;> grind
  · have ai := h.tie ha hi
    have aj := h.tie ha hj
    have za := h.zero ha
    have zi := h.zero hi
    have zj := h.zero hj
    have ij := h.tie hi hj
    rcases hs with ⟨rfl, rfl⟩ | ⟨rfl, rfl⟩ <;> grind
theorem join_len (ls : List Int) (a b : Int) : (joinP ls a b).length = ls.length := by simp [joinP]
theorem gone_len (ls : List Int) (i : Nat) : (goneP ls i).length = ls.length := by simp [goneP]
def struckP (codes : List Int) (i : Nat) : List Int := canonP (goneP codes i)
theorem struck_len (codes : List Int) (i : Nat) : (struckP codes i).length = codes.length := by
  unfold struckP goneP
  rw [canon_len, List.length_map]
theorem gone_getD {ls : List Int} {i k : Nat} (hk : k < ls.length) : (goneP ls i).getD k 0 = if ls.getD k 0 = ls.getD i 0 then 0 else ls.getD k 0 := by
  unfold goneP
  rw [getD_map _ _ hk]
theorem join_getD {ls : List Int} {a b : Int} {k : Nat} (hk : k < ls.length) : (joinP ls a b).getD k 0 = if ls.getD k 0 = b then a else ls.getD k 0 := by
  unfold joinP
  rw [getD_map _ _ hk]
theorem fold_gone_len (js : List Nat) : ∀ ls : List Int, (js.foldl goneP ls).length = ls.length := by
  induction js with
  | nil => exact fun _ => rfl
  | cons j js ih => exact fun ls => (ih _).trans (gone_len ls j)
theorem fold_struck_len (js : List Nat) : ∀ ls : List Int, (js.foldl struckP ls).length = ls.length := by
  induction js with
  | nil => exact fun _ => rfl
  | cons j js ih => exact fun ls => (ih _).trans (struck_len ls j)
theorem fold_gone {ls ms : List Int} (h : Eqv ls ms) (js : List Nat) (hj : ∀ j ∈ js, j < ls.length) : Eqv (js.foldl struckP ls) (js.foldl goneP ms) := by
  induction js generalizing ls ms with
  | nil => exact h
  | cons j js ih =>
    refine ih (((canon_eqv _).trans (h.gone (hj j (by simp))))) fun k hk => ?_
    rw [struck_len]
    exact hj k (by simp [hk])
theorem gone_zero {ls : List Int} {j k : Nat} (hk : k < ls.length) (h : ls.getD k 0 = 0) : (goneP ls j).getD k 0 = 0 := by
  rw [gone_getD hk, h]
  split <;> rfl
theorem fold_gone_keep (js : List Nat) : ∀ {ls : List Int} {k : Nat}, k < ls.length → ls.getD k 0 = 0 → (js.foldl goneP ls).getD k 0 = 0 := by
  induction js with
  | nil => exact fun _ h => h
  | cons j js ih => exact fun hk h => ih (by rw [gone_len]; exact hk) (gone_zero hk h)
theorem fold_gone_zero (js : List Nat) : ∀ {ls : List Int} {k : Nat}, k < ls.length → k ∈ js → (js.foldl goneP ls).getD k 0 = 0 := by
  induction js with
  | nil => exact fun _ h => nomatch h
  | cons j js ih =>
    intro ls k hk h
    by_cases q : k = j
    · subst q
      refine fold_gone_keep js (by rw [gone_len]; exact hk) ?_
      rw [gone_getD hk, if_pos rfl]
    · refine ih (by rw [gone_len]; exact hk) ?_
      rcases List.mem_cons.mp h with z | z
      · exact absurd z q
      · exact z
/-- two classes become one, the lower label stays -/
def tieP (ls : List Int) (i j : Nat) : List Int := if ls.getD j 0 < ls.getD i 0 then joinP ls (ls.getD j 0) (ls.getD i 0) else joinP ls (ls.getD i 0) (ls.getD j 0)
def mergeP (codes : List Int) (i j : Nat) : List Int := if codes.getD j 0 = 0 then joinP codes (codes.getD j 0) (codes.getD i 0) else joinP codes (codes.getD i 0) (codes.getD j 0)
def mergedP (codes : List Int) (i j : Nat) : List Int := canonP (mergeP codes i j)
theorem tie_len (ls : List Int) (i j : Nat) : (tieP ls i j).length = ls.length := by
  unfold tieP
  split <;> exact join_len ..
theorem merge_len (ls : List Int) (i j : Nat) : (mergeP ls i j).length = ls.length := by
  unfold mergeP
  split <;> exact join_len ..
theorem merged_len (ls : List Int) (i j : Nat) : (mergedP ls i j).length = ls.length := by
  unfold mergedP
  rw [canon_len, merge_len]
theorem getD_nonneg {ls : List Int} (h : ∀ l ∈ ls, 0 ≤ l) (i : Nat) : 0 ≤ ls.getD i 0 := by
  by_cases q : i < ls.length
  · exact h _ (getD_mem q)
  · rw [List.getD_eq_getElem?_getD, List.getElem?_eq_none (by omega)]
    exact Int.le_refl _
theorem Eqv.tieP {ls ms : List Int} (h : Eqv ls ms) (hn : ∀ l ∈ ms, 0 ≤ l) {i j : Nat} (hi : i < ls.length) (hj : j < ls.length) : Eqv (mergeP ls i j) (tieP ms i j) := by
  have n1 := getD_nonneg hn i
  have n2 := getD_nonneg hn j
  unfold mergeP Pu.tieP
  by_cases q : ls.getD j 0 = 0 <;> by_cases r : ms.getD j 0 < ms.getD i 0
  · rw [if_pos q, if_pos r]
    exact h.join hj hi (.inl ⟨rfl, rfl⟩) (fun _ => q) (fun z => by omega)
  · rw [if_pos q, if_neg r]
    exact h.join hj hi (.inr ⟨rfl, rfl⟩) (fun _ => q) (fun z => by omega)
  · rw [if_neg q, if_pos r]
    exact h.join hi hj (.inr ⟨rfl, rfl⟩) (fun z => absurd z q) (fun z => by omega)
  · rw [if_neg q, if_neg r]
    exact h.join hi hj (.inl ⟨rfl, rfl⟩) (fun z => absurd z q) (fun z => by omega)
theorem join_self (ls : List Int) (a : Int) : joinP ls a a = ls := by
  unfold joinP
  have e : (fun l : Int => if l = a then a else l) = fun l => l := by
    funext l
    split
    · rename_i h
      exact h.symm
    · rfl
  rw [e, List.map_id']
theorem tie_self (ls : List Int) (i : Nat) : tieP ls i i = ls := by
  unfold tieP
  rw [if_neg (by omega)]
  exact join_self ..
theorem tie_nonneg {ls : List Int} (h : ∀ l ∈ ls, 0 ≤ l) (i j : Nat) : ∀ l ∈ tieP ls i j, 0 ≤ l := by
  have n1 := getD_nonneg h i
  have n2 := getD_nonneg h j
  intro l hl
  unfold tieP joinP at hl
  split at hl <;>
  · obtain ⟨x, hx, e⟩ := List.mem_map.mp hl
    have := h x hx
    split at e <;> omega
theorem fold_tie {ls ms : List Int} (h : Eqv ls ms) (hn : ∀ l ∈ ms, 0 ≤ l) (p : Nat) (hp : p < ls.length) (js : List Nat) (hj : ∀ j ∈ js, j < ls.length) : Eqv (js.foldl (fun c j => mergedP c p j) ls) (js.foldl (fun c j => tieP c p j) ms) := by
  induction js generalizing ls ms with
  | nil => exact h
  | cons j js ih =>
    refine ih ((canon_eqv _).trans (h.tieP hn hp (hj j (by simp)))) (tie_nonneg hn p j) (by rw [merged_len]; exact hp) fun k hk => ?_
    rw [merged_len]
    exact hj k (by simp [hk])
theorem fold_merged_len (p : Nat) (js : List Nat) : ∀ ls : List Int, (js.foldl (fun c j => mergedP c p j) ls).length = ls.length := by
  induction js with
  | nil => exact fun _ => rfl
  | cons j js ih => exact fun ls => (ih _).trans (merged_len ls p j)
theorem fold_tie_len (p : Nat) (js : List Nat) : ∀ ls : List Int, (js.foldl (fun c j => tieP c p j) ls).length = ls.length := by
  induction js with
  | nil => exact fun _ => rfl
  | cons j js ih => exact fun ls => (ih _).trans (tie_len ls p j)
theorem tie_getD {ls : List Int} {i j k : Nat} (hk : k < ls.length) : (tieP ls i j).getD k 0 = if ls.getD j 0 < ls.getD i 0 then (if ls.getD k 0 = ls.getD i 0 then ls.getD j 0 else ls.getD k 0) else (if ls.getD k 0 = ls.getD j 0 then ls.getD i 0 else ls.getD k 0) := by
  unfold tieP
  split <;> rw [join_getD hk]
theorem tie_keep {ls : List Int} {i j a b : Nat} (ha : a < ls.length) (hb : b < ls.length) (h : ls.getD a 0 = ls.getD b 0) : (tieP ls i j).getD a 0 = (tieP ls i j).getD b 0 := by
  rw [tie_getD ha, tie_getD hb, h]
theorem tie_tied {ls : List Int} {i j : Nat} (hi : i < ls.length) (hj : j < ls.length) : (tieP ls i j).getD i 0 = (tieP ls i j).getD j 0 := by
  rw [tie_getD hi, tie_getD hj]
  grind
theorem tie_has0 {ls : List Int} (hn : ∀ l ∈ ls, 0 ≤ l) {i j : Nat} (hi : i < ls.length) (hj : j < ls.length) : (∃ a, a < ls.length ∧ ls.getD a 0 = 0) ↔ (∃ a, a < ls.length ∧ (tieP ls i j).getD a 0 = 0) := by
  have n1 := getD_nonneg hn i
  have n2 := getD_nonneg hn j
  constructor
  · rintro ⟨a, ha, h⟩
    refine ⟨a, ha, ?_⟩
    rw [tie_getD ha, h]
    grind
  · rintro ⟨a, ha, h⟩
    rw [tie_getD ha] at h
    by_cases q : ls.getD j 0 < ls.getD i 0
    · rw [if_pos q] at h
      by_cases r : ls.getD a 0 = ls.getD i 0
      · rw [if_pos r] at h
        exact ⟨j, hj, h⟩
      · rw [if_neg r] at h
        exact ⟨a, ha, h⟩
    · rw [if_neg q] at h
      by_cases r : ls.getD a 0 = ls.getD j 0
      · rw [if_pos r] at h
        exact ⟨i, hi, h⟩
      · rw [if_neg r] at h
        exact ⟨a, ha, h⟩
/-- all tied to the first -/
theorem fold_tie_all {p : Nat} (js : List Nat) : ∀ {ls : List Int}, (∀ l ∈ ls, 0 ≤ l) → p < ls.length → (∀ j ∈ js, j < ls.length) → (∀ a b, a < ls.length → b < ls.length → ls.getD a 0 = ls.getD b 0 → (js.foldl (fun c j => tieP c p j) ls).getD a 0 = (js.foldl (fun c j => tieP c p j) ls).getD b 0) ∧
    (∀ j ∈ js, (js.foldl (fun c j => tieP c p j) ls).getD p 0 = (js.foldl (fun c j => tieP c p j) ls).getD j 0) ∧ ((∃ a, a < ls.length ∧ ls.getD a 0 = 0) ↔ (∃ a, a < ls.length ∧ (js.foldl (fun c j => tieP c p j) ls).getD a 0 = 0)) := by
  induction js with
  | nil => exact fun _ _ _ => ⟨fun a b _ _ h => h, fun _ z => (nomatch z), Iff.rfl⟩
  | cons j js ih =>
    intro ls hn hp hj
    have l1 := tie_len ls p j
    have jl := hj j (by simp)
    obtain ⟨i1, i2, i3⟩ := ih (ls := tieP ls p j) (tie_nonneg hn p j) (by rw [l1]; exact hp) fun k hk => by rw [l1]; exact hj k (by simp [hk])
    rw [l1] at i1 i3
    refine ⟨fun a b ha hb h => i1 a b ha hb (tie_keep ha hb h), fun k hk => ?_, (tie_has0 hn hp jl).trans i3⟩
    rcases List.mem_cons.mp hk with z | z
    · subst z
      exact i1 p k hp jl (tie_tied hp jl)
    · exact i2 k z
theorem merged_nonneg (c : List Int) (p j : Nat) : ∀ l ∈ mergedP c p j, 0 ≤ l := fun l hl => (canon_bound _ l hl).1
theorem fold_merged_nonneg (p : Nat) (js : List Nat) : ∀ {ls : List Int}, (∀ l ∈ ls, 0 ≤ l) → ∀ l ∈ js.foldl (fun c j => mergedP c p j) ls, 0 ≤ l := by
  induction js with
  | nil => exact fun h => h
  | cons j js ih => exact fun _ => ih (merged_nonneg _ _ _)
theorem fold_struck_nonneg (js : List Nat) : ∀ {ls : List Int}, (∀ l ∈ ls, 0 ≤ l) → ∀ l ∈ js.foldl struckP ls, 0 ≤ l := by
  induction js with
  | nil => exact fun h => h
  | cons j js ih => exact fun _ => ih fun l hl => (canon_bound _ l hl).1
/-! blocks that may return -/
section
variable {β τ υ α : Type}
def NR (r : Fl β τ) (P : τ → Prop) (Q : D → Prop) : Prop := (∃ t, r = .nx t ∧ P t) ∨ ∃ d, r = .rt d ∧ Q d
theorem NR.nx {t : τ} {P : τ → Prop} {Q : D → Prop} (h : P t) : NR (.nx t : Fl β τ) P Q := .inl ⟨t, rfl, h⟩
theorem NR.rt {d : D} {P : τ → Prop} {Q : D → Prop} (h : Q d) : NR (.rt d : Fl β τ) P Q := .inr ⟨d, rfl, h⟩
theorem Nx.nr {r : Fl β τ} {P : τ → Prop} {Q : D → Prop} (h : Nx r P) : NR r P Q := let ⟨t, e, p⟩ := h; .inl ⟨t, e, p⟩
theorem NR.bind {r : Fl β τ} {k : τ → Fl β υ} {P : τ → Prop} {P' : υ → Prop} {Q : D → Prop} (h : NR r P Q) (hk : ∀ t, P t → NR (k t) P' Q) : NR (r.bind k) P' Q := by
  rcases h with ⟨t, e, p⟩ | ⟨d, e, q⟩
  · rw [e]
    exact hk t p
  · rw [e]
    exact .inr ⟨d, rfl, q⟩
theorem NR.bindR {r : Fl β τ} {k : τ → Fl β υ} {P : τ → Prop} {Q : D → Prop} (h : NR r P Q) (hk : ∀ t, P t → Rt (k t) Q) : Rt (r.bind k) Q := by
  rcases h with ⟨t, e, p⟩ | ⟨d, e, q⟩
  · rw [e]
    exact hk t p
  · rw [e]
    exact ⟨d, rfl, q⟩
theorem NR.imp {r : Fl β τ} {P P' : τ → Prop} {Q Q' : D → Prop} (h : NR r P Q) (h1 : ∀ t, P t → P' t) (h2 : ∀ d, Q d → Q' d) : NR r P' Q' := by
  rcases h with ⟨t, e, p⟩ | ⟨d, e, q⟩
  · exact .inl ⟨t, e, h1 t p⟩
  · exact .inr ⟨d, e, h2 d q⟩
theorem NR.bindF {r : Res α} {k : α → Fl β τ} {R : α → Prop} {P : τ → Prop} {Q : D → Prop} (h : Ok r R) (hk : ∀ t, R t → NR (k t) P Q) : NR (r.bindF k) P Q := by
  obtain ⟨t, e, p⟩ := h
  rw [e]
  exact hk t p
theorem NR.loop_at {f : D → τ → Fl τ τ} {Q : D → Prop} (P : Nat → τ → Prop) : ∀ (xs : List D) (i : Nat) (t : τ), P i t → (∀ (j : Nat) (x : D) (t : τ), xs[j]? = some x → P (i + j) t → NR (f x t) (P (i + j + 1)) Q) → NR (loopF xs t f : Fl β τ) (P (i + xs.length)) Q
  | [], i, t, h, _ => .inl ⟨t, rfl, h⟩
  | x :: xs, i, t, h, hs => by
    rcases hs 0 x t rfl h with ⟨t1, e1, p1⟩ | ⟨d, e1, q1⟩
    · have := NR.loop_at (Q := Q) P xs (i + 1) t1 p1 fun j y u hy hp => by
        have := hs (j + 1) y u (by simpa using hy) (by rw [show i + (j + 1) = i + 1 + j by omega]; exact hp)
        rw [show i + 1 + j + 1 = i + (j + 1) + 1 by omega]
        exact this
      rw [List.length_cons, show i + (xs.length + 1) = i + 1 + xs.length by omega, loopF, e1]
      exact this
    · refine .inr ⟨d, ?_, q1⟩
      rw [loopF, e1]
theorem NR.loop {f : D → τ → Fl τ τ} {xs : List D} {t : τ} {Q : D → Prop} (P : Nat → τ → Prop) (h : P 0 t) (hs : ∀ (j : Nat) (x : D) (t : τ), xs[j]? = some x → P j t → NR (f x t) (P (j + 1)) Q) : NR (loopF xs t f : Fl β τ) (P xs.length) Q := by
  have := NR.loop_at (β := β) (f := f) (Q := Q) P xs 0 t h fun j x t hx hp => by
    rw [Nat.zero_add] at hp ⊢
    exact hs j x t hx hp
  rw [Nat.zero_add] at this
  exact this
end
/-! finer -/
/-- each tie and each away place of the one is one of the other -/
def Finer (xs ys : List Int) : Prop := ∀ i, i < xs.length → (xs.getD i 0 = 0 → ys.getD i 0 = 0) ∧ ∀ j, j < i → xs.getD j 0 = xs.getD i 0 → ys.getD j 0 = ys.getD i 0
theorem Finer.tie {xs ys : List Int} (h : Finer xs ys) {i j : Nat} (hi : i < xs.length) (hj : j < xs.length) (e : xs.getD i 0 = xs.getD j 0) : ys.getD i 0 = ys.getD j 0 := by
  rcases Nat.lt_trichotomy i j with q | q | q
  · exact (h j hj).2 i q e
  · subst q
    rfl
  · exact ((h i hi).2 j q e.symm).symm
theorem Finer.of {xs ys : List Int} (h1 : ∀ i, i < xs.length → xs.getD i 0 = 0 → ys.getD i 0 = 0) (h2 : ∀ i j, i < xs.length → j < xs.length → xs.getD i 0 = xs.getD j 0 → ys.getD i 0 = ys.getD j 0) : Finer xs ys := fun i hi => ⟨h1 i hi, fun j hj e => h2 j i (by omega) hi e⟩
theorem Finer.eqv {xs ys zs ws : List Int} (h : Finer xs ys) (l : ys.length = xs.length) (a : Eqv xs zs) (b : Eqv ys ws) : Finer zs ws := by
  have la := a.len
  refine Finer.of (fun i hi e => ?_) fun i j hi hj e => ?_
  · exact (b.zero (by omega)).mp ((h i (by omega)).1 ((a.zero (by omega)).mpr e))
  · exact (b.tie (by omega) (by omega)).mp (h.tie (by omega) (by omega) ((a.tie (by omega) (by omega)).mpr e))
theorem finer_iff {xs ys zs ws : List Int} (l : ys.length = xs.length) (a : Eqv xs zs) (b : Eqv ys ws) : Finer xs ys ↔ Finer zs ws :=
  ⟨fun h => h.eqv l a b, fun h => h.eqv (by rw [← a.len, ← b.len]; exact l) a.symm b.symm⟩
theorem Finer.refl (xs : List Int) : Finer xs xs := fun _ _ => ⟨fun e => e, fun _ _ e => e⟩
theorem Finer.trans {xs ys zs : List Int} (h : Finer xs ys) (k : Finer ys zs) (l : ys.length = xs.length) : Finer xs zs :=
  Finer.of (fun i hi e => (k i (by omega)).1 ((h i hi).1 e)) fun i j hi hj e => k.tie (by omega) (by omega) (h.tie hi hj e)
/-! as good -/
def Good (xs ys : List Int) : Prop := ∀ i, i < xs.length → ys.getD i 0 ≠ 0 → xs.getD i 0 ≠ 0 ∧ ∀ j, j < xs.length → ys.getD j 0 ≠ 0 → xs.getD i 0 = xs.getD j 0 → ys.getD i 0 = ys.getD j 0
theorem Good.eqv {xs ys zs ws : List Int} (h : Good xs ys) (l : ys.length = xs.length) (a : Eqv xs zs) (b : Eqv ys ws) : Good zs ws := fun i hi e => by
  have la := a.len
  have zi := b.zero (i := i) (by omega)
  have ai := a.zero (i := i) (by omega)
  obtain ⟨h1, h2⟩ := h i (by omega) fun z => e (zi.mp z)
  refine ⟨fun z => h1 (ai.mpr z), fun j hj f q => ?_⟩
  have zj := b.zero (i := j) (by omega)
  exact (b.tie (by omega) (by omega)).mp (h2 j (by omega) (fun z => f (zj.mp z)) ((a.tie (by omega) (by omega)).mpr q))
theorem good_iff {xs ys zs ws : List Int} (l : ys.length = xs.length) (a : Eqv xs zs) (b : Eqv ys ws) : Good xs ys ↔ Good zs ws :=
  ⟨fun h => h.eqv l a b, fun h => h.eqv (by rw [← a.len, ← b.len]; exact l) a.symm b.symm⟩
theorem Good.refl (xs : List Int) : Good xs xs := fun _ _ e => ⟨e, fun _ _ _ q => q⟩
theorem Good.trans {xs ys zs : List Int} (h : Good xs ys) (k : Good ys zs) (l : ys.length = xs.length) : Good xs zs := fun i hi e => by
  obtain ⟨k1, k2⟩ := k i (by omega) e
  obtain ⟨h1, h2⟩ := h i hi k1
  refine ⟨h1, fun j hj f q => ?_⟩
  obtain ⟨m1, _⟩ := k j (by omega) f
  exact k2 j (by omega) f (h2 j hj m1 q)
theorem Good.anti {xs ys : List Int} (h : Good xs ys) (k : Good ys xs) (l : ys.length = xs.length) : Eqv xs ys := by
  have zz : ∀ i, i < xs.length → (xs.getD i 0 = 0 ↔ ys.getD i 0 = 0) := fun i hi => by
    constructor
    · intro z
      exact Classical.byContradiction fun w => (h i hi w).1 z
    · intro z
      exact Classical.byContradiction fun w => (k i (by omega) w).1 z
  refine Eqv.mk' l.symm (fun i j hi hj => ?_) zz
  by_cases q : xs.getD i 0 = 0
  · have q2 := (zz i hi).mp q
    rw [q, q2, eq_comm, zz j hj, eq_comm]
  · by_cases r : xs.getD j 0 = 0
    · have r2 := (zz j hj).mp r
      rw [r, r2]
      exact zz i hi
    · have q2 : ys.getD i 0 ≠ 0 := fun z => q ((zz i hi).mpr z)
      have r2 : ys.getD j 0 ≠ 0 := fun z => r ((zz j hj).mpr z)
      exact ⟨fun e => (h i hi q2).2 j hj r2 e, fun e => (k i (by omega) q).2 j (by omega) r e⟩
theorem Finer.good {xs ys : List Int} (h : Finer xs ys) : Good xs ys := fun i hi e => ⟨fun z => e ((h i hi).1 z), fun j hj _ q => h.tie hi hj q⟩
theorem Good.set_new {xs ys : List Int} (h : Good xs ys) (l : ys.length = xs.length) (i : Nat) {v w : Int} (hv : ∀ x ∈ xs, x ≠ v) (z : v ≠ 0) : Good (xs.set i v) (ys.set i w) := fun a ha e => by
  rw [List.length_set] at ha
  rw [getD_set _ _ _ _ (by omega)] at e
  rw [getD_set _ _ _ _ ha]
  by_cases q : i = a
  · rw [if_pos q]
    refine ⟨z, fun b hb f g => ?_⟩
    rw [List.length_set] at hb
    rw [getD_set _ _ _ _ hb] at g
    by_cases r : i = b
    · rw [getD_set _ _ _ _ (by omega), getD_set _ _ _ _ (by omega), if_pos q, if_pos r]
    · rw [if_neg r] at g
      exact absurd g.symm (hv _ (getD_mem hb))
  · rw [if_neg q] at e ⊢
    obtain ⟨h1, h2⟩ := h a ha e
    refine ⟨h1, fun b hb f g => ?_⟩
    rw [List.length_set] at hb
    rw [getD_set _ _ _ _ hb] at g
    rw [getD_set _ _ _ _ (by omega)] at f
    rw [getD_set _ _ _ _ (by omega), getD_set _ _ _ _ (by omega), if_neg q]
    by_cases r : i = b
    · rw [if_pos r] at g
      exact absurd g (hv _ (getD_mem ha))
    · rw [if_neg r] at f g ⊢
      exact h2 b hb f g
theorem Good.set_at {xs ys : List Int} (h : Good xs ys) (l : ys.length = xs.length) (i j : Nat) (hj : j < xs.length) : Good (xs.set i (xs.getD j 0)) (ys.set i (ys.getD j 0)) := fun a ha e => by
  rw [List.length_set] at ha
  -- the place that a tells of
  have at_ : ∀ c, c < xs.length → ∃ d, d < xs.length ∧ (xs.set i (xs.getD j 0)).getD c 0 = xs.getD d 0 ∧ (ys.set i (ys.getD j 0)).getD c 0 = ys.getD d 0 := fun c hc => by
    by_cases q : i = c
    · exact ⟨j, hj, by rw [getD_set _ _ _ _ hc, if_pos q], by rw [getD_set _ _ _ _ (by omega), if_pos q]⟩
    · exact ⟨c, hc, by rw [getD_set _ _ _ _ hc, if_neg q], by rw [getD_set _ _ _ _ (by omega), if_neg q]⟩
  obtain ⟨d, hd, e1, e2⟩ := at_ a ha
  rw [e2] at e
  obtain ⟨h1, h2⟩ := h d hd e
  rw [e1]
  refine ⟨h1, fun b hb f g => ?_⟩
  rw [List.length_set] at hb
  obtain ⟨d', hd', e1', e2'⟩ := at_ b hb
  rw [e1'] at g
  rw [e2'] at f
  rw [e2, e2']
  exact h2 d' hd' f g
theorem Good.gone {xs ys : List Int} (h : Good xs ys) (l : ys.length = xs.length) {i : Nat} (hi : i < xs.length) (hy : ys.getD i 0 ≠ 0) : Good (goneP xs i) (goneP ys i) := fun a ha e => by
  rw [gone_len] at ha
  have key : ∀ c, c < xs.length → (goneP ys i).getD c 0 ≠ 0 → ys.getD c 0 ≠ 0 ∧ (goneP ys i).getD c 0 = ys.getD c 0 ∧ (goneP xs i).getD c 0 = xs.getD c 0 := fun c hc f => by
    rw [gone_getD (by omega)] at f
    by_cases q : ys.getD c 0 = ys.getD i 0
    · rw [if_pos q] at f
      exact absurd rfl f
    · rw [if_neg q] at f
      refine ⟨f, by rw [gone_getD (by omega), if_neg q], ?_⟩
      rw [gone_getD hc, if_neg fun z => q ((h c hc f).2 i hi hy z)]
  obtain ⟨k1, k2, k3⟩ := key a ha e
  obtain ⟨h1, h2⟩ := h a ha k1
  rw [k3]
  refine ⟨h1, fun b hb f g => ?_⟩
  rw [gone_len] at hb
  obtain ⟨m1, m2, m3⟩ := key b hb f
  rw [m3] at g
  rw [k2, m2]
  exact h2 b hb m1 g
/-! the least state above two -/
theorem Finer.canonR {xs ys : List Int} (h : Finer xs ys) (l : ys.length = xs.length) : Finer xs (canonP ys) := h.eqv l (Eqv.refl _) (canon_eqv ys).symm
theorem Finer.canonL {xs ys : List Int} (h : Finer xs ys) (l : ys.length = xs.length) : Finer (canonP xs) ys := h.eqv l (canon_eqv xs).symm (Eqv.refl _)
theorem struck_up {cs : List Int} {i : Nat} (hi : i < cs.length) : Finer cs (struckP cs i) ∧ (struckP cs i).getD i 0 = 0 ∧ ∀ ab : List Int, ab.length = cs.length → Finer cs ab → ab.getD i 0 = 0 → Finer (struckP cs i) ab := by
  have z : (goneP cs i).getD i 0 = 0 := by rw [gone_getD hi, if_pos rfl]
  refine ⟨Finer.canonR (Finer.of (fun k hk e => gone_zero hk e) fun a b ha hb e => by rw [gone_getD ha, gone_getD hb, e]) (gone_len _ _), ((canon_eqv (goneP cs i)).zero (by rw [canon_len, gone_len]; exact hi)).mpr z, fun ab l h e => Finer.canonL (Finer.of (fun k hk q => ?_) fun a b ha hb q => ?_) (by rw [gone_len]; exact l)⟩
  · rw [gone_len] at hk
    rw [gone_getD hk] at q
    by_cases r : cs.getD k 0 = cs.getD i 0
    · rw [h.tie hk hi r, e]
    · rw [if_neg r] at q
      exact (h k hk).1 q
  · rw [gone_len] at ha hb
    rw [gone_getD ha, gone_getD hb] at q
    by_cases r : cs.getD a 0 = cs.getD i 0 <;> by_cases s : cs.getD b 0 = cs.getD i 0
    · exact h.tie ha hb (r.trans s.symm)
    · rw [if_pos r, if_neg s] at q
      rw [h.tie ha hi r, e, (h b hb).1 q.symm]
    · rw [if_neg r, if_pos s] at q
      rw [h.tie hb hi s, e, (h a ha).1 q]
    · rw [if_neg r, if_neg s] at q
      exact h.tie ha hb q
theorem merge_getD {cs : List Int} {i j k : Nat} (hk : k < cs.length) : (mergeP cs i j).getD k 0 = if cs.getD j 0 = 0 then (if cs.getD k 0 = cs.getD i 0 then cs.getD j 0 else cs.getD k 0) else (if cs.getD k 0 = cs.getD j 0 then cs.getD i 0 else cs.getD k 0) := by
  unfold mergeP
  split <;> rw [join_getD hk]
theorem merged_up {cs : List Int} {i j : Nat} (hi : i < cs.length) (hj : j < cs.length) : Finer cs (mergedP cs i j) ∧ (mergedP cs i j).getD i 0 = (mergedP cs i j).getD j 0 ∧ ∀ ab : List Int, ab.length = cs.length → Finer cs ab → ab.getD i 0 = ab.getD j 0 → Finer (mergedP cs i j) ab := by
  have z : (mergeP cs i j).getD i 0 = (mergeP cs i j).getD j 0 := by
    rw [merge_getD hi, merge_getD hj]
    grind
  refine ⟨Finer.canonR (Finer.of (fun k hk e => by rw [merge_getD hk, e]; grind) fun a b ha hb e => by rw [merge_getD ha, merge_getD hb, e]) (merge_len _ _ _), ((canon_eqv (mergeP cs i j)).tie (by rw [canon_len, merge_len]; exact hi) (by rw [canon_len, merge_len]; exact hj)).mpr z, fun ab l h e => Finer.canonL (Finer.of (fun k hk q => ?_) fun a b ha hb q => ?_) (by rw [merge_len]; exact l)⟩
  · rw [merge_len] at hk
    rw [merge_getD hk] at q
    have hik := fun r => h.tie hk hi r
    have hjk := fun r => h.tie hk hj r
    have h0 := (h k hk).1
    have hi0 := (h i hi).1
    have hj0 := (h j hj).1
    grind
  · rw [merge_len] at ha hb
    rw [merge_getD ha, merge_getD hb] at q
    have ai := fun r => h.tie ha hi r
    have aj := fun r => h.tie ha hj r
    have bi := fun r => h.tie hb hi r
    have bj := fun r => h.tie hb hj r
    have ab' := fun r => h.tie ha hb r
    have ba' := fun r => h.tie hb ha r
    grind
theorem struck_nonneg (c : List Int) (j : Nat) : ∀ l ∈ struckP c j, 0 ≤ l := fun l hl => (canon_bound _ l hl).1
/-! all states of n names -/
def mostI (r : List Int) : Int := r.foldl (fun m c => if m < c then c else m) 0
def extI (r : List Int) : List (List Int) := (List.range (mostI r + 2).toNat).map fun c => r ++ [((c : Nat) : Int)]
def allP : Nat → List (List Int)
  | 0 => [[]]
  | k + 1 => (allP k).flatMap extI
theorem all_chk : ((List.range 7).all fun j => decide ((allP j).length ≤ 877) && (allP j).all fun r => decide (mostI r ≤ 6) && (decide (0 ≤ mostI r) && decide (r.length = j))) = true := by decide +kernel
theorem all_len {j : Nat} (h : j < 7) : (allP j).length ≤ 877 := of_decide_eq_true (Bool.and_eq_true_iff.mp (List.all_eq_true.mp all_chk j (List.mem_range.mpr h))).1
theorem all_at {j : Nat} (h : j < 7) {r : List Int} (hr : r ∈ allP j) : mostI r ≤ 6 ∧ 0 ≤ mostI r ∧ r.length = j := by
  have := List.all_eq_true.mp (Bool.and_eq_true_iff.mp (List.all_eq_true.mp all_chk j (List.mem_range.mpr h))).2 r hr
  obtain ⟨a, b⟩ := Bool.and_eq_true_iff.mp this
  obtain ⟨b, c⟩ := Bool.and_eq_true_iff.mp b
  exact ⟨of_decide_eq_true a, of_decide_eq_true b, of_decide_eq_true c⟩
theorem Rt.up {β τ : Type} {r : Fl β Empty} {Q : D → Prop} (h : Rt r Q) : Rt (r.up : Fl β τ) Q := by
  obtain ⟨d, e, q⟩ := h
  rw [e]
  exact ⟨d, rfl, q⟩
theorem Eqv.pick {ls ms : List Int} (h : Eqv ls ms) (js : List Nat) (hj : ∀ j ∈ js, j < ls.length) : Eqv (js.map fun j => ls.getD j 0) (js.map fun j => ms.getD j 0) := by
  have at_ : ∀ (xs : List Int) (i : Nat) (hi : i < js.length), (js.map fun j => xs.getD j 0).getD i 0 = xs.getD js[i] 0 := fun xs i hi => by
    rw [List.getD_eq_getElem?_getD, List.getElem?_map, List.getElem?_eq_getElem hi]
    rfl
  refine Eqv.mk' (by simp) (fun a b ha hb => ?_) fun a ha => ?_
  · rw [List.length_map] at ha hb
    rw [at_ ls a ha, at_ ls b hb, at_ ms a ha, at_ ms b hb]
    exact h.tie (hj _ (List.getElem_mem ha)) (hj _ (List.getElem_mem hb))
  · rw [List.length_map] at ha
    rw [at_ ls a ha, at_ ms a ha]
    exact h.zero (hj _ (List.getElem_mem ha))
end Pu
/-! Ps: texts as rows of signs: find, split, slices, join, by their signs. -/
namespace Pu
open PySem Mi L2 Builtin.Str
/-- a text by its signs -/
def tx (cs : List Nat) : Str := ⟨cs.toArray⟩
theorem tx_cps (cs : List Nat) : (tx cs).cps.toList = cs := rfl
theorem tx_len (cs : List Nat) : (tx cs).length = cs.length := by simp [tx, Str.length]
theorem tx_of (z : Str) : tx z.cps.toList = z := by
  cases z
  simp [tx]
theorem tx_inj {a b : List Nat} (h : tx a = tx b) : a = b := by
  have := congrArg (fun z : Str => z.cps.toList) h
  simpa [tx_cps] using this
theorem tx_app (a b : List Nat) : tx a ++ tx b = tx (a ++ b) := by
  show (⟨a.toArray ++ b.toArray⟩ : Str) = ⟨(a ++ b).toArray⟩
  simp
/-- where a sign stands -/
def occI (c : Nat) : List Nat → Nat → List Nat
  | [], _ => []
  | x :: xs, i => if x = c then i :: occI c xs (i + 1) else occI c xs (i + 1)
theorem occ_go (x : Str) (c lim : Nat) : ∀ (m a : Nat) (acc : Array Nat) (f : Nat), m + a = x.cps.toList.length + 1 → f ≤ a → acc.size ≤ lim →
    (forIn (List.range' a m) (acc, f) (StrLaws.occBody x ⟨#[c]⟩ x.length lim)).run.fst.toList = (acc.toList ++ occI c (x.cps.toList.drop a) a).take lim
  | 0, a, acc, f, h, _, hs => by
    have e : x.cps.toList.drop a = [] := List.drop_eq_nil_of_le (by omega)
    rw [e]
    show acc.toList = (acc.toList ++ []).take lim
    rw [List.append_nil, List.take_of_length_le (by simpa using hs)]
  | m + 1, a, acc, f, h, hf, hs => by
    have hlen : x.length = x.cps.toList.length := by simp [Str.length]
    have hsub : (⟨#[c]⟩ : Str).length = 1 := rfl
    rw [List.range'_succ, List.forIn_cons]
    unfold StrLaws.occBody
    rw [hsub]
    have one := StrLaws.subAt_one x c a
    by_cases ha : a < x.cps.toList.length
    · have ed : x.cps.toList.drop a = x.cps.toList[a] :: x.cps.toList.drop (a + 1) := List.drop_eq_getElem_cons ha
      have eg : x.cps.toList[a]? = some x.cps.toList[a] := List.getElem?_eq_getElem ha
      by_cases hc : x.cps.toList[a] = c
      · have os : occI c (x.cps.toList.drop a) a = a :: occI c (x.cps.toList.drop (a + 1)) (a + 1) := by
          rw [ed, occI, if_pos hc]
        have sub : subAt x ⟨#[c]⟩ a = true := (one.mpr (by rw [eg, hc])).2
        by_cases hl : acc.size < lim
        · rw [if_pos ⟨⟨⟨hl, hf⟩, by omega⟩, sub⟩]
          have ih := occ_go x c lim m (a + 1) (acc.push a) (a + 1) (by omega) (Nat.le_refl _) (by simp; omega)
          rw [os]
          have e2 : (acc.push a).toList ++ occI c (x.cps.toList.drop (a + 1)) (a + 1) = acc.toList ++ a :: occI c (x.cps.toList.drop (a + 1)) (a + 1) := by simp
          rw [e2] at ih
          exact ih
        · rw [if_neg (fun z => hl z.1.1.1)]
          have ih := occ_go x c lim m (a + 1) acc f (by omega) (by omega) hs
          rw [os]
          have full : acc.toList.length = lim := by simp; omega
          have t : ∀ l : List Nat, (acc.toList ++ l).take lim = acc.toList := fun l => by rw [← full, List.take_left']; rfl
          rw [t] at ih ⊢
          exact ih
      · have os : occI c (x.cps.toList.drop a) a = occI c (x.cps.toList.drop (a + 1)) (a + 1) := by
          rw [ed, occI, if_neg hc]
        rw [if_neg (fun z => hc (by
          have := one.mp ⟨z.1.2, z.2⟩
          rw [eg] at this
          exact Option.some.inj this))]
        rw [os]
        exact occ_go x c lim m (a + 1) acc f (by omega) (by omega) hs
    · have ed : x.cps.toList.drop a = [] := List.drop_eq_nil_of_le (by omega)
      have ed2 : x.cps.toList.drop (a + 1) = [] := List.drop_eq_nil_of_le (by omega)
      rw [if_neg (fun z => by have := z.1.2; omega), ed]
      have ih := occ_go x c lim m (a + 1) acc f (by omega) (by omega) hs
      rw [ed2] at ih
      exact ih
theorem occ1 (cs : List Nat) (c lim : Nat) : occurrences (tx cs) ⟨#[c]⟩ 0 (tx cs).length lim = (occI c cs 0).take lim := by
  rw [StrLaws.occ_eq]
  have := occ_go (tx cs) c lim ((tx cs).length + 1) 0 #[] 0 (by rw [tx_len, tx_cps]) (Nat.le_refl _) (Nat.zero_le _)
  rw [tx_cps, List.drop_zero] at this
  exact this
theorem occI_none {c : Nat} : ∀ {cs : List Nat} {i : Nat}, c ∉ cs → occI c cs i = []
  | [], _, _ => rfl
  | x :: xs, i, h => by
    rw [occI, if_neg fun e => h (by simp [e]), occI_none fun z => h (by simp [z])]
theorem occI_app {c : Nat} : ∀ {cs ds : List Nat} {i : Nat}, occI c (cs ++ ds) i = occI c cs i ++ occI c ds (i + cs.length)
  | [], ds, i => by simp [occI]
  | x :: xs, ds, i => by
    have ih := occI_app (c := c) (cs := xs) (ds := ds) (i := i + 1)
    have e : i + 1 + xs.length = i + (x :: xs).length := by simp; omega
    rw [e] at ih
    rw [List.cons_append, occI, occI, ih]
    split <;> rfl
/-- s.find(c), the sign there -/
theorem find_at {as bs : List Nat} {c : Nat} (h : c ∉ as) : Txt.find (tx (as ++ c :: bs)) ⟨#[c]⟩ = (as.length : Nat) := by
  unfold Txt.find
  rw [occ1, occI_app, occI_none h]
  simp [occI]
theorem find_no {as : List Nat} {c : Nat} (h : c ∉ as) : Txt.find (tx as) ⟨#[c]⟩ = -1 := by
  unfold Txt.find
  rw [occ1, occI_none h]
  rfl
/-- slices -/
theorem cut_tx (cs : List Nat) (lo hi : Option Int) : cutS (tx cs) lo hi = tx (cutL cs lo hi) := by
  have h : (cutS (tx cs) lo hi).cps.toList = cutL cs lo hi := by
    unfold cutS cutL
    rw [tx_len]
    simp [tx]
  rw [← h, tx_of]
theorem slice_tx (cs : List Nat) (lo hi : Option Int) (h : cs.length ≤ cap) : sliceD (.str (tx cs)) lo hi = some (.str (tx (cutL cs lo hi))) := by
  show (if (tx cs).length ≤ cap then some (PyData.str (cutS (tx cs) lo hi)) else none) = _
  rw [tx_len, if_pos h, cut_tx]
theorem cut_nat {α : Type} (xs : List α) (i j : Nat) (hi : i ≤ xs.length) (hj : j ≤ xs.length) : cutL xs (some (i : Nat)) (some (j : Nat)) = (xs.drop i).take (j - i) := by
  unfold cutL
  rw [HT.sIx_nat, HT.sIx_nat, Nat.min_eq_left hi, Nat.min_eq_left hj]
theorem cut_from {α : Type} (xs : List α) (i : Nat) : cutL xs (some (i : Nat)) none = xs.drop i := by
  unfold cutL
  rw [HT.sIx_none, HT.sIx_nat]
  by_cases h : i ≤ xs.length
  · rw [Nat.min_eq_left h, List.take_of_length_le (by rw [List.length_drop]; exact Nat.le_refl _)]
  · rw [Nat.min_eq_right (by omega), List.drop_eq_nil_of_le (Nat.le_refl _), List.drop_eq_nil_of_le (by omega)]
    simp
theorem cut_to {α : Type} (xs : List α) (j : Nat) : cutL xs none (some (j : Nat)) = xs.take j := by
  unfold cutL
  rw [HT.sIx_none, HT.sIx_nat, List.drop_zero, Nat.sub_zero]
  by_cases h : j ≤ xs.length
  · rw [Nat.min_eq_left h]
  · rw [Nat.min_eq_right (by omega), List.take_of_length_le (Nat.le_refl _), List.take_of_length_le (by omega)]
/-- pieces -/
theorem sub_tx (cs : List Nat) (i j : Nat) : strSub (tx cs) i j = tx ((cs.drop i).take (j - i)) := by
  have h : (strSub (tx cs) i j).cps.toList = (cs.drop i).take (j - i) := by
    unfold strSub
    simp [tx]
  rw [← h, tx_of]
theorem split_tx (cs : List Nat) (c : Nat) (hc : c < 256) (h : occI c cs 0 ≠ []) : Txt.split (tx cs) ⟨#[c]⟩ = ((0 :: (occI c cs 0).map (· + 1)).zip (occI c cs 0 ++ [cs.length])).map fun (i, j) => tx ((cs.drop i).take (j - i)) := by
  have hz : cs ≠ [] := fun z => h (by rw [z]; rfl)
  have hl : 0 < cs.length := List.length_pos_iff.mpr hz
  have occ : occurrences (tx cs) ⟨#[c]⟩ 0 (tx cs).length ((tx cs).length + 1) = occI c cs 0 := by
    rw [occ1, List.take_of_length_le]
    have : ∀ (cs : List Nat) (i : Nat), (occI c cs i).length ≤ cs.length := fun cs => by
      induction cs with
      | nil => exact fun _ => Nat.le_refl _
      | cons x xs ih =>
        intro i
        rw [occI]
        split
        · simp [ih (i + 1)]
        · exact Nat.le_succ_of_le (ih (i + 1))
    have := this cs 0
    rw [tx_len]
    omega
  have k1 : Builtin.Str.strKind (⟨#[c]⟩ : Str) = 1 := by
    unfold Builtin.Str.strKind
    rw [if_pos (by simp [hc])]
  have k2 : ¬ Builtin.Str.strKind (tx cs) < 1 := by
    unfold Builtin.Str.strKind
    split
    · omega
    · split <;> omega
  unfold Txt.split
  have l1 : (⟨#[c]⟩ : Str).length = 1 := rfl
  rw [occ, k1, l1, tx_len, if_neg (by
    simp only [Bool.or_eq_true, decide_eq_true_eq]
    omega), if_neg (by simpa using h)]
  unfold partsBetween
  rw [tx_len]
  refine List.map_congr_left fun p _ => ?_
  exact sub_tx cs p.1 p.2
theorem split_one (cs : List Nat) (c : Nat) (h : occI c cs 0 = []) : Txt.split (tx cs) ⟨#[c]⟩ = [tx cs] := by
  unfold Txt.split
  rw [occ1, h]
  split
  · rfl
  · simp
end Pu
/-! Pm: marks of signatures: what a text of marks says, what marks a partition shows. -/
namespace Pu
open PySem Mi L2 Builtin.Str
/-- a text of one sign -/
def mk1 (m : Nat) : Str := tx [m]
abbrev mL (ms : List Nat) : List D := sL (ms.map mk1)
theorem mk1_inj {a b : Nat} (h : mk1 a = mk1 b) : a = b := by
  have := tx_inj h
  simpa using this
theorem mk1_dec (a b : Nat) : decide (mk1 a = mk1 b) = decide (a = b) := by
  by_cases h : a = b
  · rw [decide_eq_true h, decide_eq_true (congrArg mk1 h)]
  · rw [decide_eq_false h, decide_eq_false fun z => h (mk1_inj z)]
theorem lit_bang : ("!" : Str) = mk1 33 := by decide +kernel
theorem lit_dash : ("-" : Str) = mk1 45 := by decide +kernel
theorem lit_open : ("(" : Str) = tx [40] := by decide +kernel
theorem lit_shut : (")" : Str) = tx [41] := by decide +kernel
theorem lit_comma : ("," : Str) = tx [44] := by decide +kernel
theorem lit_arrow : ("->" : Str) = tx [45, 62] := by decide +kernel
theorem lit_none : ("" : Str) = tx [] := by decide +kernel
theorem lit_abc : ("abcdefghijklmnopqrstuvwxyz" : Str) = tx (List.range' 97 26) := by decide +kernel
theorem dec_bang (m : Nat) : decide (mk1 m = ("!" : Str)) = decide (m = 33) := by rw [lit_bang, mk1_dec]
theorem dec_dash (m : Nat) : decide (mk1 m = ("-" : Str)) = decide (m = 45) := by rw [lit_dash, mk1_dec]
/-- joined by commas -/
def tailC : List Nat → List Nat
  | [] => []
  | m :: r => 44 :: m :: tailC r
def joinC : List Nat → List Nat
  | [] => []
  | m :: r => m :: tailC r
theorem join_fold (ms : List Nat) : ∀ acc : Array Nat, ((ms.map mk1).foldl (fun acc p => acc ++ (tx [44]).cps ++ p.cps) acc).toList = acc.toList ++ tailC ms := by
  induction ms with
  | nil => exact fun acc => (List.append_nil _).symm
  | cons m r ih =>
    intro acc
    rw [List.map_cons, List.foldl_cons, ih, tailC]
    simp [tx, mk1]
theorem join_mk (ms : List Nat) : Txt.join (tx [44]) (ms.map mk1) = tx (joinC ms) := by
  have h : (Txt.join (tx [44]) (ms.map mk1)).cps.toList = joinC ms := by
    show (((ms.map mk1).drop 1).foldl (fun acc p => acc ++ (tx [44]).cps ++ p.cps) ((ms.map mk1).headD Str.empty).cps).toList = _
    cases ms with
    | nil => rfl
    | cons m r =>
      show ((r.map mk1).foldl _ (mk1 m).cps).toList = _
      rw [join_fold]
      rfl
  rw [← h, tx_of]
theorem tail_len (ms : List Nat) : (tailC ms).length = 2 * ms.length := by
  induction ms with
  | nil => rfl
  | cons m r ih => simp [tailC, ih]; omega
theorem joinC_len (ms : List Nat) : (joinC ms).length ≤ 2 * ms.length := by
  cases ms with
  | nil => exact Nat.le_refl _
  | cons m r => simp [joinC, tail_len]; omega
theorem tail_mem (c : Nat) (ms : List Nat) (h : c ∉ ms) (hc : c ≠ 44) : c ∉ tailC ms := by
  induction ms with
  | nil => exact List.not_mem_nil
  | cons m r ih =>
    rw [tailC]
    simp only [List.mem_cons, not_or] at h ⊢
    exact ⟨hc, h.1, ih h.2⟩
theorem join_mem (c : Nat) (ms : List Nat) (h : c ∉ ms) (hc : c ≠ 44) : c ∉ joinC ms := by
  cases ms with
  | nil => exact List.not_mem_nil
  | cons m r =>
    rw [joinC]
    simp only [List.mem_cons, not_or] at h ⊢
    exact ⟨h.1, tail_mem c r h.2 hc⟩
theorem tail_occ (ms : List Nat) (h : 44 ∉ ms) : ∀ i, occI 44 (tailC ms) i = (List.range ms.length).map fun k => i + 2 * k := by
  induction ms with
  | nil => exact fun i => rfl
  | cons m r ih =>
    intro i
    simp only [List.mem_cons, not_or] at h
    rw [tailC, occI, if_pos rfl, occI, if_neg (fun z => h.1 z.symm), ih h.2, List.length_cons, List.range_succ_eq_map, List.map_cons, List.map_map]
    refine congrArg (List.cons _) (List.map_congr_left fun k _ => ?_)
    simp only [Function.comp]
    omega
theorem join_occ (a : Nat) (r : List Nat) (h : 44 ∉ a :: r) : occI 44 (joinC (a :: r)) 0 = (List.range r.length).map fun k => 1 + 2 * k := by
  simp only [List.mem_cons, not_or] at h
  rw [joinC, occI, if_neg (fun z => h.1 z.symm), tail_occ r h.2]
theorem split_join (ms : List Nat) (h : 44 ∉ ms) (h0 : ms ≠ []) (h4 : ms.length ≤ 5) : Txt.split (tx (joinC ms)) (tx [44]) = ms.map mk1 := by
  have z : Txt.split (tx (joinC ms)) ⟨#[44]⟩ = ms.map mk1 := by
    rcases ms with _ | ⟨a, _ | ⟨b, _ | ⟨c, _ | ⟨d, _ | ⟨e, _ | ⟨f, r⟩⟩⟩⟩⟩⟩
    · exact absurd rfl h0
    · exact (split_one _ 44 (join_occ _ _ h)).trans rfl
    · refine (split_tx _ 44 (by decide) (by rw [join_occ _ _ h]; exact List.cons_ne_nil _ _)).trans ?_
      rw [join_occ _ _ h]
      rfl
    · refine (split_tx _ 44 (by decide) (by rw [join_occ _ _ h]; exact List.cons_ne_nil _ _)).trans ?_
      rw [join_occ _ _ h]
      rfl
    · refine (split_tx _ 44 (by decide) (by rw [join_occ _ _ h]; exact List.cons_ne_nil _ _)).trans ?_
      rw [join_occ _ _ h]
      rfl
    · refine (split_tx _ 44 (by decide) (by rw [join_occ _ _ h]; exact List.cons_ne_nil _ _)).trans ?_
      rw [join_occ _ _ h]
      rfl
    · simp only [List.length_cons] at h4
      omega
  exact z
/-- a text of marks -/
def okM (m : Nat) : Prop := m = 33 ∨ m = 45 ∨ (97 ≤ m ∧ m ≤ 122)
def sgT (ms : List Nat) (size : Nat) : List Nat := 40 :: joinC (ms.take size) ++ 41 :: (if size < ms.length then [45, 62, ms.getD size 0] else [])
def labM (m k : Nat) : Int := if m = 33 then 0 else if m = 45 then 27 + (k : Nat) else (m : Int) - 96
def labs (ms : List Nat) : List Int := (List.range ms.length).map fun k => labM (ms.getD k 0) k
theorem labs_len (ms : List Nat) : (labs ms).length = ms.length := by simp [labs]
theorem labs_at {ms : List Nat} {k : Nat} (h : k < ms.length) : (labs ms).getD k 0 = labM (ms.getD k 0) k := by
  unfold labs
  rw [List.getD_eq_getElem?_getD, List.getElem?_map, List.getElem?_range h]
  rfl
theorem nD_mem {ms : List Nat} {k : Nat} (h : k < ms.length) : ms.getD k 0 ∈ ms := by
  rw [List.getD_eq_getElem?_getD, List.getElem?_eq_getElem h]
  exact List.getElem_mem h
theorem nD_at {ms : List Nat} {k : Nat} (h : k < ms.length) : ms[k]? = some (ms.getD k 0) := by
  rw [List.getD_eq_getElem?_getD, List.getElem?_eq_getElem h]
  rfl
theorem lab_nonneg {m k : Nat} (h : okM m) : 0 ≤ labM m k := by
  unfold labM
  split
  · omega
  · split
    · omega
    · unfold okM at h
      omega
theorem labs_nonneg {ms : List Nat} (h : ∀ m ∈ ms, okM m) : ∀ l ∈ labs ms, 0 ≤ l := fun l hl => by
  unfold labs at hl
  obtain ⟨k, hk, rfl⟩ := List.mem_map.mp hl
  exact lab_nonneg (h _ (nD_mem (List.mem_range.mp hk)))
/-- these marks say that partition -/
structure MK (ms : List Nat) (ls : List Int) : Prop where
  l : ms.length = ls.length
  ok : ∀ k, k < ls.length → okM (ms.getD k 0)
  z : ∀ k, k < ls.length → (ms.getD k 0 = 33 ↔ ls.getD k 0 = 0)
  one : ∀ k, k < ls.length → ms.getD k 0 = 45 → ∀ j, j < ls.length → ls.getD j 0 = ls.getD k 0 → j = k
  tie : ∀ j k, j < ls.length → k < ls.length → 97 ≤ ms.getD j 0 → 97 ≤ ms.getD k 0 → (ms.getD j 0 = ms.getD k 0 ↔ ls.getD j 0 = ls.getD k 0)
theorem MK.okA {ms : List Nat} {ls : List Int} (h : MK ms ls) : ∀ m ∈ ms, okM m := fun m hm => by
  obtain ⟨k, hk, rfl⟩ := List.mem_iff_getElem.mp hm
  have := h.ok k (by rw [← h.l]; exact hk)
  rw [List.getD_eq_getElem?_getD, List.getElem?_eq_getElem hk] at this
  exact this
theorem MK.eqv {ms : List Nat} {ls : List Int} (h : MK ms ls) : Eqv (labs ms) ls := by
  have hl := h.l
  refine Eqv.mk' (by rw [labs_len]; exact h.l) (fun i j hi hj => ?_) fun i hi => ?_
  · rw [labs_len] at hi hj
    rw [labs_at hi, labs_at hj]
    have oi := h.ok i (by omega)
    have oj := h.ok j (by omega)
    have zi := h.z i (by omega)
    have zj := h.z j (by omega)
    have ni := fun e q => h.one i (by omega) e j (by omega) q
    have nj := fun e q => h.one j (by omega) e i (by omega) q
    have t := h.tie i j (by omega) (by omega)
    have same : i = j → ms.getD i 0 = ms.getD j 0 ∧ ls.getD i 0 = ls.getD j 0 := by
      rintro rfl
      exact ⟨rfl, rfl⟩
    generalize ms.getD i 0 = a at *
    generalize ms.getD j 0 = b at *
    generalize ls.getD i 0 = x at *
    generalize ls.getD j 0 = y at *
    unfold labM
    unfold okM at oi oj
    by_cases a1 : a = 33
    · have x0 := zi.mp a1
      subst x0
      rw [if_pos a1]
      by_cases b1 : b = 33
      · rw [if_pos b1, zj.mp b1]
      · rw [if_neg b1]
        have y0 : ¬ y = 0 := fun z => b1 (zj.mpr z)
        constructor
        · intro e
          split at e <;> omega
        · exact fun e => absurd e.symm y0
    · have x0 : ¬ x = 0 := fun z => a1 (zi.mpr z)
      rw [if_neg a1]
      by_cases b1 : b = 33
      · have y0 := zj.mp b1
        subst y0
        rw [if_pos b1]
        constructor
        · intro e
          split at e <;> omega
        · exact fun e => absurd e x0
      · rw [if_neg b1]
        by_cases a2 : a = 45
        · rw [if_pos a2]
          constructor
          · intro e
            by_cases b2 : b = 45
            · rw [if_pos b2] at e
              exact (same (by omega)).2
            · exact False.elim (by rw [if_neg b2] at e; omega)
          · intro e
            have ij := ni a2 e.symm
            rw [if_pos (by rw [← (same ij.symm).1]; exact a2), ij]
        · rw [if_neg a2]
          by_cases b2 : b = 45
          · rw [if_pos b2]
            constructor
            · intro e
              omega
            · intro e
              exact absurd ((same (nj b2 e)).1.trans b2) a2
          · rw [if_neg b2]
            have ha : 97 ≤ a := by
              rcases oi with w | w | w
              · exact absurd w a1
              · exact absurd w a2
              · exact w.1
            have hb : 97 ≤ b := by
              rcases oj with w | w | w
              · exact absurd w b1
              · exact absurd w b2
              · exact w.1
            have t := t ha hb
            clear zi zj ni nj same oi oj
            constructor
            · intro e
              exact t.mp (by omega)
            · intro e
              rw [t.mpr e]
  · rw [labs_len] at hi
    rw [labs_at hi]
    have oi := h.ok i (by omega)
    have zi := h.z i (by omega)
    generalize ms.getD i 0 = a at *
    unfold labM
    unfold okM at oi
    rw [← zi]
    constructor
    · intro e
      split at e
      · assumption
      · split at e <;> omega
    · exact fun e => if_pos e
/-! the marks a partition shows -/
def mstep (cs : List Int) (s : List Int × List Nat) (c : Int) : List Int × List Nat := if c = 0 then (s.1, s.2 ++ [33]) else if cs.count c = 1 then (s.1, s.2 ++ [45]) else if c ∈ s.1 then (s.1, s.2 ++ [97 + s.1.idxOf c]) else (s.1 ++ [c], s.2 ++ [97 + (s.1 ++ [c]).idxOf c])
def showP (cs : List Int) : List Nat := (cs.foldl (mstep cs) ([], [])).2
theorem count_mapf {f : Int → Int} {cs : List Int} {c : Int} (inj : ∀ a ∈ cs, f a = f c → a = c) : (cs.map f).count (f c) = cs.count c := by
  induction cs with
  | nil => rfl
  | cons a cs ih =>
    rw [List.map_cons, List.count_cons, List.count_cons, ih fun b hb => inj b (by simp [hb])]
    by_cases e : a = c
    · subst e
      simp
    · have e2 : f a ≠ f c := fun z => e (inj a (by simp) z)
      have b1 : (f a == f c) = false := by simpa using e2
      have b2 : (a == c) = false := by simpa using e
      rw [b1, b2]
theorem mfold_map (f : Int → Int) (cs : List Int) (h0 : ∀ l ∈ cs, (l = 0 ↔ f l = 0)) (inj : ∀ l ∈ cs, ∀ m ∈ cs, f l = f m → l = m) : ∀ (ls : List Int) (s : List Int × List Nat), (∀ l ∈ ls, l ∈ cs) → (∀ l ∈ s.1, l ∈ cs) →
    (ls.map f).foldl (mstep (cs.map f)) (s.1.map f, s.2) = ((ls.foldl (mstep cs) s).1.map f, (ls.foldl (mstep cs) s).2)
  | [], s, _, _ => rfl
  | l :: ls, s, hl, hs => by
    have ul := hl l (by simp)
    have st : mstep (cs.map f) (s.1.map f, s.2) (f l) = ((mstep cs s l).1.map f, (mstep cs s l).2) := by
      unfold mstep
      rw [count_mapf fun a ha => inj a ha l ul]
      by_cases q : l = 0
      · rw [if_pos q, if_pos ((h0 l ul).mp q)]
      · rw [if_neg q, if_neg (fun z => q ((h0 l ul).mpr z))]
        by_cases c1 : cs.count l = 1
        · rw [if_pos c1, if_pos c1]
        · rw [if_neg c1, if_neg c1]
          have mm : f l ∈ s.1.map f ↔ l ∈ s.1 := by
            constructor
            · intro z
              obtain ⟨a, ha, e⟩ := List.mem_map.mp z
              rw [← inj a (hs a ha) l ul e]
              exact ha
            · exact fun z => List.mem_map_of_mem z
          by_cases m : l ∈ s.1
          · rw [if_pos m, if_pos (mm.mpr m)]
            show (s.1.map f, s.2 ++ [97 + (s.1.map f).idxOf (f l)]) = _
            rw [idxOf_map fun a ha => inj a (hs a ha) l ul]
          · rw [if_neg m, if_neg (fun z => m (mm.mp z))]
            have e : s.1.map f ++ [f l] = (s.1 ++ [l]).map f := by simp
            show (s.1.map f ++ [f l], s.2 ++ [97 + (s.1.map f ++ [f l]).idxOf (f l)]) = _
            rw [e, idxOf_map fun a ha z => ?_]
            rcases List.mem_append.mp ha with w | w
            · exact inj a (hs a w) l ul z
            · exact List.mem_singleton.mp w
    rw [List.map_cons, List.foldl_cons, List.foldl_cons, st]
    refine mfold_map f cs h0 inj ls (mstep cs s l) (fun a ha => hl a (by simp [ha])) fun a ha => ?_
    unfold mstep at ha
    split at ha
    · exact hs a ha
    · split at ha
      · exact hs a ha
      · split at ha
        · exact hs a ha
        · rcases List.mem_append.mp ha with w | w
          · exact hs a w
          · rw [List.mem_singleton.mp w]
            exact ul
theorem show_mapf (f : Int → Int) (ls : List Int) (h0 : ∀ l ∈ ls, (l = 0 ↔ f l = 0)) (inj : ∀ l ∈ ls, ∀ m ∈ ls, f l = f m → l = m) : showP (ls.map f) = showP ls := by
  have h := mfold_map f ls h0 inj ls ([], []) (fun _ z => z) (fun _ z => nomatch z)
  unfold showP
  have h := congrArg Prod.snd h
  exact h
theorem show_canon (ls : List Int) : showP (canonP ls) = showP ls := by
  obtain ⟨S, e, hS⟩ := canon_map ls
  rw [e]
  exact show_mapf _ ls (fun l _ => (code_zero).symm) fun l hl m hm q => (code_eq (hS l hl) (hS m hm)).mp q
theorem show_eqv {xs ys : List Int} (h : Eqv xs ys) : showP xs = showP ys := by
  rw [← show_canon xs, canon_of h, show_canon]
/-- one mark -/
def gOf (cs S : List Int) (c : Int) : Nat := if c = 0 then 33 else if cs.count c = 1 then 45 else 97 + S.idxOf c
theorem idx_pre {S t : List Int} {c : Int} (h : c ∈ S) : (S ++ t).idxOf c = S.idxOf c := by
  rw [List.idxOf_append, if_pos h]
theorem mfold_g (cs : List Int) : ∀ (ls : List Int) (s : List Int × List Nat), (∃ t, (ls.foldl (mstep cs) s).1 = s.1 ++ t ∧ t.length ≤ ls.length) ∧ (ls.foldl (mstep cs) s).2 = s.2 ++ ls.map (gOf cs (ls.foldl (mstep cs) s).1) ∧ ∀ l ∈ ls, l ≠ 0 → cs.count l ≠ 1 → l ∈ (ls.foldl (mstep cs) s).1
  | [], s => ⟨⟨[], by simp, Nat.le_refl _⟩, by simp, fun _ z => nomatch z⟩
  | l :: ls, s => by
    rw [List.foldl_cons]
    obtain ⟨⟨t, e1, l1⟩, e2, e3⟩ := mfold_g cs ls (mstep cs s l)
    have key : ∃ u, (mstep cs s l).1 = s.1 ++ u ∧ u.length ≤ 1 ∧ (l ≠ 0 → cs.count l ≠ 1 → l ∈ (mstep cs s l).1) ∧ (mstep cs s l).2 = s.2 ++ [gOf cs (mstep cs s l).1 l] := by
      unfold mstep gOf
      by_cases q : l = 0
      · rw [if_pos q]
        exact ⟨[], by simp, by simp, fun z => absurd q z, by rw [if_pos q]⟩
      · rw [if_neg q]
        by_cases c1 : cs.count l = 1
        · rw [if_pos c1]
          exact ⟨[], by simp, by simp, fun _ z => absurd c1 z, by rw [if_neg q, if_pos c1]⟩
        · rw [if_neg c1]
          by_cases m : l ∈ s.1
          · rw [if_pos m]
            exact ⟨[], by simp, by simp, fun _ _ => m, by rw [if_neg q, if_neg c1]⟩
          · rw [if_neg m]
            exact ⟨[l], rfl, by simp, fun _ _ => by simp, by rw [if_neg q, if_neg c1]⟩
    obtain ⟨u, k1, k2, k3, k4⟩ := key
    refine ⟨⟨u ++ t, by rw [e1, k1, List.append_assoc], by simp; omega⟩, ?_, fun x hx h0 h1 => ?_⟩
    · rw [e2, k4, List.append_assoc, List.map_cons]
      refine congrArg (s.2 ++ ·) ?_
      show gOf cs (mstep cs s l).1 l :: _ = _
      refine congrArg (· :: ls.map _) ?_
      unfold gOf
      by_cases q : l = 0
      · rw [if_pos q, if_pos q]
      · rw [if_neg q, if_neg q]
        by_cases c1 : cs.count l = 1
        · rw [if_pos c1, if_pos c1]
        · rw [if_neg c1, if_neg c1, e1, idx_pre (k3 q c1)]
    · rcases List.mem_cons.mp hx with rfl | hx
      · rw [e1]
        exact List.mem_append_left _ (k3 h0 h1)
      · exact e3 x hx h0 h1
theorem show_g (ls : List Int) : ∃ S : List Int, S.length ≤ ls.length ∧ showP ls = ls.map (gOf ls S) ∧ ∀ l ∈ ls, l ≠ 0 → ls.count l ≠ 1 → l ∈ S := by
  obtain ⟨⟨t, e1, l1⟩, e2, e3⟩ := mfold_g ls ls ([], [])
  refine ⟨_, ?_, e2, e3⟩
  rw [e1]
  exact l1
theorem show_len (ls : List Int) : (showP ls).length = ls.length := by
  obtain ⟨S, _, e, _⟩ := show_g ls
  rw [e, List.length_map]
theorem count_one {ls : List Int} {j k : Nat} (hj : j < ls.length) (hk : k < ls.length) (e : ls.getD j 0 = ls.getD k 0) (h : ls.count (ls.getD k 0) = 1) : j = k := by
  have main : ∀ {a b : Nat}, a < b → b < ls.length → ls.getD a 0 = ls.getD b 0 → 2 ≤ ls.count (ls.getD b 0) := fun {a b} hab hb q => by
    have s := List.take_append_drop b ls
    have h1 : ls.getD b 0 ∈ ls.take b := by
      rw [← q]
      refine List.mem_take_iff_getElem.mpr ⟨a, by omega, ?_⟩
      rw [List.getD_eq_getElem?_getD, List.getElem?_eq_getElem (by omega)]
      rfl
    have h2 : ls.getD b 0 ∈ ls.drop b := by
      rw [List.getD_eq_getElem?_getD, List.getElem?_eq_getElem hb, List.drop_eq_getElem_cons hb]
      exact List.mem_cons_self
    have c := List.count_append (a := ls.getD b 0) (l₁ := ls.take b) (l₂ := ls.drop b)
    rw [s] at c
    have c1 := List.count_pos_iff.mpr h1
    have c2 := List.count_pos_iff.mpr h2
    omega
  rcases Nat.lt_trichotomy j k with q | q | q
  · have := main q hk e
    omega
  · exact q
  · have := main q hj e.symm
    rw [e] at this
    omega
theorem show_at {ls : List Int} {k : Nat} {f : Int → Nat} (h : k < ls.length) : (ls.map f).getD k 0 = f (ls.getD k 0) := by
  rw [List.getD_eq_getElem?_getD, List.getElem?_map, getD_at h]
  rfl
theorem show_MK {ls : List Int} (h : ls.length ≤ 26) : MK (showP ls) ls := by
  obtain ⟨S, hl, e, hS⟩ := show_g ls
  rw [e]
  have idx : ∀ k, k < ls.length → ls.getD k 0 ≠ 0 → ls.count (ls.getD k 0) ≠ 1 → S.idxOf (ls.getD k 0) < S.length := fun k hk h0 h1 => List.idxOf_lt_length_of_mem (hS _ (getD_mem hk) h0 h1)
  refine ⟨List.length_map _, fun k hk => ?_, fun k hk => ?_, fun k hk q j hj r => ?_, fun j k hj hk q r => ?_⟩
  · rw [show_at hk]
    unfold gOf okM
    split
    · exact .inl rfl
    · split
      · exact .inr (.inl rfl)
      · have := idx k hk (by assumption) (by assumption)
        omega
  · rw [show_at hk]
    unfold gOf
    constructor
    · intro q
      split at q
      · assumption
      · split at q <;> omega
    · exact fun q => if_pos q
  · rw [show_at hk] at q
    unfold gOf at q
    split at q
    · omega
    · split at q
      · exact count_one hj hk r (by assumption)
      · omega
  · rw [show_at hj] at q ⊢
    rw [show_at hk] at r ⊢
    have ij := idx j hj
    have ik := idx k hk
    have mj := hS _ (getD_mem hj)
    have mk := hS _ (getD_mem hk)
    generalize ls.getD j 0 = x at *
    generalize ls.getD k 0 = y at *
    unfold gOf at q r ⊢
    by_cases x0 : x = 0
    · rw [if_pos x0] at q
      omega
    · by_cases x1 : ls.count x = 1
      · rw [if_neg x0, if_pos x1] at q
        omega
      · by_cases y0 : y = 0
        · rw [if_pos y0] at r
          omega
        · by_cases y1 : ls.count y = 1
          · rw [if_neg y0, if_pos y1] at r
            omega
          · rw [if_neg x0, if_neg x1, if_neg y0, if_neg y1]
            have hx := ij x0 x1
            have hy := ik y0 y1
            constructor
            · intro z
              have z : S.idxOf x = S.idxOf y := by omega
              have a := List.getElem_idxOf hx
              have b := List.getElem_idxOf hy
              rw [← a, ← b]
              congr 1
            · intro z
              rw [z]
end Pu
/-! Pw: what a call does to a partition. -/
namespace Pu
open PySem Mi L2
/-- the least partition above cs that has what is asked -/
structure UpTo (req : List Int → Prop) (cs zs : List Int) : Prop where
  l : zs.length = cs.length
  f : Finer cs zs
  r : req zs
  m : ∀ ab : List Int, ab.length = cs.length → Finer cs ab → req ab → Finer zs ab
theorem UpTo.imp {r1 r2 : List Int → Prop} {cs zs : List Int} (h : UpTo r1 cs zs) (e : ∀ z : List Int, z.length = cs.length → (r1 z ↔ r2 z)) : UpTo r2 cs zs := ⟨h.l, h.f, (e zs h.l).mp h.r, fun ab l f r => h.m ab l f ((e ab l).mpr r)⟩
theorem UpTo.comp {r1 r2 : List Int → Prop} {as bs cs : List Int} (h1 : UpTo r1 as bs) (h2 : UpTo r2 bs cs) (mono : ∀ x y : List Int, x.length = as.length → y.length = as.length → r1 x → Finer x y → r1 y) : UpTo (fun z => r1 z ∧ r2 z) as cs :=
  ⟨h2.l.trans h1.l, h1.f.trans h2.f h1.l, ⟨mono _ _ h1.l (h2.l.trans h1.l) h1.r h2.f, h2.r⟩, fun ab l f r => h2.m ab (l.trans h1.l.symm) (h1.m ab l f r.1) r.2⟩
theorem UpTo.eqv {r : List Int → Prop} {as bs xs ys : List Int} (h : UpTo r as xs) (k : UpTo r bs ys) (e : Eqv as bs) : Eqv xs ys := by
  have l := e.len
  have f1 : Finer xs ys := h.m ys (k.l.trans l.symm) (k.f.eqv k.l e.symm (Eqv.refl _)) k.r
  have f2 : Finer ys xs := k.m xs (h.l.trans l) (h.f.eqv h.l e (Eqv.refl _)) h.r
  exact f1.good.anti f2.good (k.l.trans (l.symm.trans h.l.symm))
theorem UpTo.fold {α : Type} (step : List Int → α → List Int) (req : α → List Int → Prop) (n : Nat) : ∀ (l : List α), (∀ a ∈ l, ∀ x y : List Int, x.length = n → y.length = n → req a x → Finer x y → req a y) → (∀ a ∈ l, ∀ cs : List Int, cs.length = n → UpTo (req a) cs (step cs a)) →
    ∀ cs : List Int, cs.length = n → UpTo (fun z => ∀ a ∈ l, req a z) cs (l.foldl step cs)
  | [], _, _, cs, _ => ⟨rfl, Finer.refl _, fun a ha => by simp at ha, fun ab _ f _ => f⟩
  | a :: l, mono, h, cs, e => by
    have h1 := h a (by simp) cs e
    have h2 := UpTo.fold step req n l (fun b hb => mono b (by simp [hb])) (fun b hb => h b (by simp [hb])) (step cs a) (h1.l.trans e)
    refine (h1.comp h2 fun x y lx ly => mono a (by simp) x y (lx.trans e) (ly.trans e)).imp fun z _ => ?_
    simp
theorem merged_to {cs : List Int} {i j : Nat} (hi : i < cs.length) (hj : j < cs.length) : UpTo (fun z => z.getD i 0 = z.getD j 0) cs (mergedP cs i j) := ⟨merged_len _ _ _, (merged_up hi hj).1, (merged_up hi hj).2.1, (merged_up hi hj).2.2⟩
theorem struck_to {cs : List Int} {i : Nat} (hi : i < cs.length) : UpTo (fun z => z.getD i 0 = 0) cs (struckP cs i) := ⟨struck_len _ _, (struck_up hi).1, (struck_up hi).2.1, (struck_up hi).2.2⟩
/-! ### a call -/
def isLet (m : Nat) : Bool := !decide (m = 45) && !decide (m = 33)
def jstep (M sp : List Nat) (cs : List Int) (a : Nat) : List Int := if isLet (M.getD a 0) = true then mergedP cs (sp.getD (M.idxOf (M.getD a 0)) 0) (sp.getD a 0) else cs
def callJ (M sp : List Nat) (cs : List Int) : List Int := (List.range M.length).foldl (jstep M sp) cs
def handP (M : List Nat) : List Nat := (List.range M.length).filter fun k => decide (M.getD k 0 = 33)
def callS (M sp : List Nat) (cs : List Int) : List Int := (handP M).foldl (fun cs a => struckP cs (sp.getD a 0)) cs
def callX (M sp : List Nat) (cs : List Int) : List Int := callS M sp (callJ M sp cs)
def tgtP (M sp : List Nat) (r t : Nat) (cs : List Int) : List Int := if r = 33 then canonP (cs.set t 0) else if r ≠ 45 ∧ r ∈ M then canonP (cs.set t (cs.getD (sp.getD (M.idxOf r) 0) 0)) else canonP (cs.set t (cs.length + 1))
def callT (M sp : List Nat) (o : Option (Nat × Nat)) (cs : List Int) : List Int := match o with
  | none => cs
  | some (r, t) => tgtP M sp r t cs
/-- what a call by these labels asks -/
def SigReq (ls : List Int) (size : Nat) (sp : List Nat) (z : List Int) : Prop := (∀ a b, a < size → b < size → ls.getD a 0 = ls.getD b 0 → z.getD (sp.getD a 0) 0 = z.getD (sp.getD b 0) 0) ∧ ∀ a, a < size → ls.getD a 0 = 0 → z.getD (sp.getD a 0) 0 = 0
theorem sp_lt {sp : List Nat} {n : Nat} (h : ∀ a ∈ sp, a < n) {a : Nat} (ha : a < sp.length) : sp.getD a 0 < n := by
  rw [List.getD_eq_getElem?_getD, List.getElem?_eq_getElem ha]
  exact h _ (List.getElem_mem ha)
theorem take_getD {ms : List Nat} {size k : Nat} (h : k < size) : (ms.take size).getD k 0 = ms.getD k 0 := by
  rw [List.getD_eq_getElem?_getD, List.getD_eq_getElem?_getD, List.getElem?_take_of_lt h]
theorem idx_getD {M : List Nat} {m : Nat} (h : m ∈ M) : M.idxOf m < M.length ∧ M.getD (M.idxOf m) 0 = m := by
  have h1 := List.idxOf_lt_length_of_mem h
  refine ⟨h1, ?_⟩
  rw [List.getD_eq_getElem?_getD, List.getElem?_eq_getElem h1]
  simp
theorem let_iff {m : Nat} (h : okM m) : isLet m = true ↔ 97 ≤ m := by
  unfold isLet
  simp only [Bool.and_eq_true, Bool.not_eq_true', decide_eq_false_iff_not]
  rcases h with h | h | h <;> omega
section
variable {ms : List Nat} {ls : List Int} {size : Nat} {sp : List Nat} {cs xs ys : List Int}
theorem callX_up (h : MK ms ls) (hs : size ≤ ls.length) (hl : sp.length = size) (hp : ∀ a ∈ sp, a < cs.length) : UpTo (SigReq ls size sp) cs (callX (ms.take size) sp cs) := by
  have ml : (ms.take size).length = size := by
    rw [List.length_take, h.l]
    omega
  have at_ : ∀ a, a < size → (ms.take size).getD a 0 = ms.getD a 0 := fun a ha => take_getD ha
  have mem : ∀ a, a < size → ms.getD a 0 ∈ ms.take size := fun a ha => by
    rw [← at_ a ha]
    exact nD_mem (by omega)
  have ix : ∀ a, a < size → (ms.take size).idxOf (ms.getD a 0) < size ∧ ms.getD ((ms.take size).idxOf (ms.getD a 0)) 0 = ms.getD a 0 := fun a ha => by
    obtain ⟨h1, h2⟩ := idx_getD (mem a ha)
    rw [ml] at h1
    rw [at_ _ h1] at h2
    exact ⟨h1, h2⟩
  have hJ : UpTo (fun z => ∀ a ∈ List.range (ms.take size).length, isLet ((ms.take size).getD a 0) = true → z.getD (sp.getD ((ms.take size).idxOf ((ms.take size).getD a 0)) 0) 0 = z.getD (sp.getD a 0) 0) cs (callJ (ms.take size) sp cs) := by
    refine UpTo.fold (jstep (ms.take size) sp) (fun a z => isLet ((ms.take size).getD a 0) = true → z.getD (sp.getD ((ms.take size).idxOf ((ms.take size).getD a 0)) 0) 0 = z.getD (sp.getD a 0) 0) cs.length _ (fun a ha x y lx ly r f q => ?_) (fun a ha c lc => ?_) cs rfl
    · have ha := List.mem_range.mp ha
      rw [ml] at ha
      rw [at_ a ha] at r q ⊢
      exact f.tie (by rw [lx]; exact sp_lt hp (by rw [hl]; exact (ix a ha).1)) (by rw [lx]; exact sp_lt hp (by rw [hl]; exact ha)) (r q)
    · have ha := List.mem_range.mp ha
      rw [ml] at ha
      unfold jstep
      rw [at_ a ha]
      by_cases q : isLet (ms.getD a 0) = true
      · rw [if_pos q]
        exact (merged_to (cs := c) (i := sp.getD ((ms.take size).idxOf (ms.getD a 0)) 0) (j := sp.getD a 0) (by rw [lc]; exact sp_lt hp (by rw [hl]; exact (ix a ha).1)) (by rw [lc]; exact sp_lt hp (by rw [hl]; exact ha))).imp fun z _ => ⟨fun e _ => e, fun e => e q⟩
      · rw [if_neg q]
        exact ⟨rfl, Finer.refl _, fun z => absurd z q, fun ab _ f _ => f⟩
  have hS : UpTo (fun z => ∀ a ∈ handP (ms.take size), z.getD (sp.getD a 0) 0 = 0) (callJ (ms.take size) sp cs) (callX (ms.take size) sp cs) := by
    have ha2 : ∀ a ∈ handP (ms.take size), a < size := fun a ha => by
      have := List.mem_range.mp (List.mem_filter.mp ha).1
      rwa [ml] at this
    refine UpTo.fold (fun cs a => struckP cs (sp.getD a 0)) (fun a z => z.getD (sp.getD a 0) 0 = 0) cs.length _ (fun a ha x y lx ly r f => (f _ (by rw [lx]; exact sp_lt hp (by rw [hl]; exact ha2 a ha))).1 r) (fun a ha c lc => struck_to (by rw [lc]; exact sp_lt hp (by rw [hl]; exact ha2 a ha))) _ hJ.l
  refine (hJ.comp hS fun x y lx ly r f a ha q => ?_).imp fun z lz => ⟨fun ⟨r1, r2⟩ => ?_, fun ⟨r1, r2⟩ => ⟨fun a ha q => ?_, fun a ha => ?_⟩⟩
  · have h1 := List.mem_range.mp ha
    rw [ml] at h1
    have e := r a ha q
    rw [at_ a h1] at e ⊢
    exact f.tie (by rw [lx]; exact sp_lt hp (by rw [hl]; exact (ix a h1).1)) (by rw [lx]; exact sp_lt hp (by rw [hl]; exact h1)) e
  · have z0 : ∀ a, a < size → ls.getD a 0 = 0 → z.getD (sp.getD a 0) 0 = 0 := fun a ha e => r2 a (List.mem_filter.mpr ⟨List.mem_range.mpr (by omega), by rw [at_ a ha]; exact decide_eq_true ((h.z a (by omega)).mpr e)⟩)
    refine ⟨fun a b ha hb e => ?_, z0⟩
    by_cases ne : a = b
    · rw [ne]
    by_cases e0 : ls.getD a 0 = 0
    · rw [z0 a ha e0, z0 b hb (by rw [← e]; exact e0)]
    have la : 97 ≤ ms.getD a 0 := by
      rcases h.ok a (by omega) with q | q | q
      · exact absurd ((h.z a (by omega)).mp q) e0
      · exact absurd (h.one a (by omega) q b (by omega) e.symm).symm ne
      · exact q.1
    have lb : 97 ≤ ms.getD b 0 := by
      rcases h.ok b (by omega) with q | q | q
      · exact absurd ((h.z b (by omega)).mp q) (by rw [← e]; exact e0)
      · exact absurd (h.one b (by omega) q a (by omega) e) ne
      · exact q.1
    have q := (h.tie a b (by omega) (by omega) la lb).mpr e
    have ra := r1 a (List.mem_range.mpr (by omega)) (by rw [at_ a ha]; exact (let_iff (h.ok a (by omega))).mpr la)
    have rb := r1 b (List.mem_range.mpr (by omega)) (by rw [at_ b hb]; exact (let_iff (h.ok b (by omega))).mpr lb)
    rw [at_ a ha] at ra
    rw [at_ b hb, ← q] at rb
    exact ra.symm.trans rb
  · have h1 := List.mem_range.mp ha
    rw [ml] at h1
    rw [at_ a h1] at q ⊢
    obtain ⟨i1, i2⟩ := ix a h1
    refine r1 _ _ i1 h1 ((h.tie _ _ (by omega) (by omega) ?_ ((let_iff (h.ok a (by omega))).mp q)).mp i2)
    rw [i2]
    exact (let_iff (h.ok a (by omega))).mp q
  · have h1 := List.mem_range.mp (List.mem_filter.mp ha).1
    have h2 := of_decide_eq_true (List.mem_filter.mp ha).2
    rw [ml] at h1
    rw [at_ a h1] at h2
    exact r2 a h1 ((h.z a (by omega)).mp h2)
theorem callJ_canon {M : List Nat} (h : canonP cs = cs) : canonP (callJ M sp cs) = callJ M sp cs := by
  unfold callJ
  generalize List.range M.length = l
  induction l generalizing cs with
  | nil => exact h
  | cons a l ih =>
    refine ih ?_
    unfold jstep
    split
    · exact canon_idem _
    · exact h
theorem callX_canon {M : List Nat} (h : canonP cs = cs) : canonP (callX M sp cs) = callX M sp cs := by
  unfold callX callS
  have h2 := callJ_canon (sp := sp) (M := M) h
  generalize callJ M sp cs = ds at h2
  generalize handP M = l
  clear h
  induction l generalizing ds with
  | nil => exact h2
  | cons a l ih => exact ih _ (canon_idem _)
theorem callT_canon {M : List Nat} {o : Option (Nat × Nat)} (h : canonP cs = cs) : canonP (callT M sp o cs) = callT M sp o cs := by
  unfold callT tgtP
  split
  · exact h
  · split
    · exact canon_idem _
    · split <;> exact canon_idem _
theorem callT_len {M : List Nat} {o : Option (Nat × Nat)} : (callT M sp o cs).length = cs.length := by
  unfold callT tgtP
  split
  · rfl
  · split
    · rw [canon_len, List.length_set]
    · split <;> rw [canon_len, List.length_set]
theorem callJ_len {M : List Nat} {n : Nat} (h : cs.length = n) : (callJ M sp cs).length = n := by
  unfold callJ
  generalize List.range M.length = l
  induction l generalizing cs with
  | nil => exact h
  | cons a l ih =>
    refine ih ?_
    unfold jstep
    split
    · rw [merged_len, h]
    · exact h
theorem callX_len {M : List Nat} {n : Nat} (h : cs.length = n) : (callX M sp cs).length = n := by
  unfold callX callS
  have h2 := callJ_len (sp := sp) (M := M) h
  generalize callJ M sp cs = ds at h2
  generalize handP M = l
  clear h
  induction l generalizing ds with
  | nil => exact h2
  | cons a l ih => exact ih _ (by rw [struck_len, h2])
theorem canon_le (ls : List Int) : ∀ c ∈ canonP ls, c ≤ (canonP ls).length := fun c hc => by
  rw [canon_len]
  exact (canon_bound ls c hc).2
theorem callJ_le {M : List Nat} (h : ∀ c ∈ cs, c ≤ cs.length) : ∀ c ∈ callJ M sp cs, c ≤ (callJ M sp cs).length := by
  unfold callJ
  generalize List.range M.length = l
  induction l generalizing cs with
  | nil => exact h
  | cons a l ih =>
    refine ih ?_
    unfold jstep
    split
    · exact canon_le _
    · exact h
theorem callX_le {M : List Nat} (h : ∀ c ∈ cs, c ≤ cs.length) : ∀ c ∈ callX M sp cs, c ≤ (callX M sp cs).length := by
  unfold callX callS
  have h2 := callJ_le (sp := sp) (M := M) h
  generalize callJ M sp cs = ds at h2
  generalize handP M = l
  clear h
  induction l generalizing ds with
  | nil => exact h2
  | cons a l ih => exact ih _ (canon_le _)
/-! ### as good -/
theorem Good.merge (h : Good xs ys) (l : ys.length = xs.length) {i j : Nat} (hi : i < xs.length) (hj : j < xs.length) (yi : ys.getD i 0 ≠ 0) (yj : ys.getD j 0 ≠ 0) : Good (mergeP xs i j) (mergeP ys i j) := fun a ha e => by
  rw [merge_len] at ha
  have xi := (h i hi yi).1
  have xj := (h j hj yj).1
  rw [merge_getD (by omega), if_neg yj] at e
  rw [merge_getD ha, if_neg xj, merge_getD (by omega), if_neg yj]
  have ya : ys.getD a 0 ≠ 0 := fun z => by
    rw [z] at e
    by_cases q : (0 : Int) = ys.getD j 0
    · exact yj q.symm
    · rw [if_neg q] at e
      exact e rfl
  have ka := h a ha ya
  refine ⟨?_, fun b hb eb q => ?_⟩
  · by_cases c : xs.getD a 0 = xs.getD j 0
    · rw [if_pos c]; exact xi
    · rw [if_neg c]; exact ka.1
  · rw [merge_len] at hb
    rw [merge_getD (by omega), if_neg yj] at eb
    rw [merge_getD hb, if_neg xj] at q
    rw [merge_getD (by omega), if_neg yj]
    have yb : ys.getD b 0 ≠ 0 := fun z => by
      rw [z] at eb
      by_cases q : (0 : Int) = ys.getD j 0
      · exact yj q.symm
      · rw [if_neg q] at eb
        exact eb rfl
    have kb := h b hb yb
    have kj := h j hj yj
    have ki := h i hi yi
    have t1 := ka.2 b hb yb
    have t2 := ka.2 j hj yj
    have t3 := ka.2 i hi yi
    have t4 := kb.2 j hj yj
    have t5 := kb.2 i hi yi
    grind
theorem Good.merged (h : Good xs ys) (l : ys.length = xs.length) {i j : Nat} (hi : i < xs.length) (hj : j < xs.length) (yi : ys.getD i 0 ≠ 0) (yj : ys.getD j 0 ≠ 0) : Good (mergedP xs i j) (mergedP ys i j) :=
  (h.merge l hi hj yi yj).eqv (by rw [merge_len, merge_len]; exact l) (canon_eqv _).symm (canon_eqv _).symm
theorem Good.struck (h : Good xs ys) (l : ys.length = xs.length) {i : Nat} (hi : i < xs.length) (yi : ys.getD i 0 ≠ 0) : Good (struckP xs i) (struckP ys i) :=
  (h.gone l hi yi).eqv (by rw [gone_len, gone_len]; exact l) (canon_eqv _).symm (canon_eqv _).symm
/-- the demand of a call: every argument is here, what is handed is tied with no other one -/
def CallOk (M sp : List Nat) (ys : List Int) : Prop := (∀ a, a < M.length → ys.getD (sp.getD a 0) 0 ≠ 0) ∧ ∀ k o, k < M.length → o < M.length → M.getD k 0 = 33 → o ≠ k → ys.getD (sp.getD o 0) 0 ≠ ys.getD (sp.getD k 0) 0
theorem CallOk.good {M : List Nat} (c : CallOk M sp ys) (h : Good xs ys) (l : ys.length = xs.length) (hp : ∀ a, a < M.length → sp.getD a 0 < xs.length) : CallOk M sp xs :=
  ⟨fun a ha => (h _ (hp a ha) (c.1 a ha)).1, fun k o hk ho m ne e => c.2 k o hk ho m ne ((h _ (hp o ho) (c.1 o ho)).2 _ (hp k hk) (c.1 k hk) e)⟩
theorem callX_good {M : List Nat} (c : CallOk M sp ys) (h : Good xs ys) (l : ys.length = xs.length) (hp : ∀ a, a < M.length → sp.getD a 0 < xs.length) : Good (callX M sp xs) (callX M sp ys) ∧ (callX M sp xs).length = xs.length ∧ (callX M sp ys).length = xs.length := by
  have ixl : ∀ a, a < M.length → M.idxOf (M.getD a 0) < M.length ∧ M.getD (M.idxOf (M.getD a 0)) 0 = M.getD a 0 := fun a ha => idx_getD (nD_mem ha)
  -- the merges
  have hJ : ∀ (l : List Nat) (xs ys : List Int) (n : Nat), (∀ a ∈ l, a < M.length) → xs.length = n → ys.length = n → (∀ a, a < M.length → sp.getD a 0 < n) → Good xs ys → CallOk M sp ys →
      Good (l.foldl (jstep M sp) xs) (l.foldl (jstep M sp) ys) ∧ CallOk M sp (l.foldl (jstep M sp) ys) ∧ (l.foldl (jstep M sp) xs).length = n ∧ (l.foldl (jstep M sp) ys).length = n := by
    intro l
    induction l with
    | nil => exact fun xs ys n _ lx ly _ g c => ⟨g, c, lx, ly⟩
    | cons a l ih =>
      intro xs ys n hl lx ly hp g c
      have ha := hl a (by simp)
      obtain ⟨i1, i2⟩ := ixl a ha
      have pa := hp a ha
      have pi := hp _ i1
      have key : Good (jstep M sp xs a) (jstep M sp ys a) ∧ CallOk M sp (jstep M sp ys a) ∧ (jstep M sp xs a).length = n ∧ (jstep M sp ys a).length = n := by
        unfold jstep
        by_cases q : isLet (M.getD a 0) = true
        · rw [if_pos q, if_pos q]
          have ca := c.1 a ha
          have ci := c.1 _ i1
          have ev := canon_eqv (mergeP ys (sp.getD (M.idxOf (M.getD a 0)) 0) (sp.getD a 0))
          have el : (mergedP ys (sp.getD (M.idxOf (M.getD a 0)) 0) (sp.getD a 0)).length = n := by rw [merged_len, ly]
          refine ⟨g.merged (by omega) (by omega) (by omega) ci ca, ⟨fun b hb z => ?_, fun k o hk ho m ne z => ?_⟩, by rw [merged_len, lx], el⟩
          · have z := (ev.zero (i := sp.getD b 0) (by rw [← mergedP, el]; exact hp b hb)).mp z
            rw [merge_getD (by rw [ly]; exact hp b hb), if_neg ca] at z
            have cb := c.1 b hb
            split at z
            · exact ci z
            · exact cb z
          · have z := (ev.tie (i := sp.getD o 0) (j := sp.getD k 0) (by rw [← mergedP, el]; exact hp o ho) (by rw [← mergedP, el]; exact hp k hk)).mp z
            rw [merge_getD (by rw [ly]; exact hp o ho), merge_getD (by rw [ly]; exact hp k hk), if_neg ca, if_neg ca] at z
            have nk : ¬ M.getD a 0 = 33 := fun e => by
              rw [e] at q
              exact absurd q (by decide)
            have d1 := c.2 k o hk ho m ne
            have d2 := c.2 k a hk ha m (fun e => nk (by rw [e]; exact m))
            have d3 := c.2 k _ hk i1 m (fun e => nk (by rw [← i2, e]; exact m))
            rw [if_neg (Ne.symm d2)] at z
            split at z
            · exact d3 z
            · exact d1 z
        · rw [if_neg q, if_neg q]
          exact ⟨g, c, lx, ly⟩
      exact ih _ _ n (fun b hb => hl b (by simp [hb])) key.2.2.1 key.2.2.2 hp key.1 key.2.1
  obtain ⟨g1, c1, l1, l2⟩ := hJ (List.range M.length) xs ys xs.length (fun a ha => List.mem_range.mp ha) rfl l hp h c
  have hS : ∀ (hs : List Nat) (xs ys : List Int) (n : Nat), hs.Nodup → (∀ a ∈ hs, a < M.length ∧ ys.getD (sp.getD a 0) 0 ≠ 0) → (∀ a ∈ hs, ∀ b ∈ hs, a ≠ b → ys.getD (sp.getD a 0) 0 ≠ ys.getD (sp.getD b 0) 0) → xs.length = n → ys.length = n → (∀ a, a < M.length → sp.getD a 0 < n) → Good xs ys →
      Good (hs.foldl (fun cs a => struckP cs (sp.getD a 0)) xs) (hs.foldl (fun cs a => struckP cs (sp.getD a 0)) ys) ∧ (hs.foldl (fun cs a => struckP cs (sp.getD a 0)) xs).length = n ∧ (hs.foldl (fun cs a => struckP cs (sp.getD a 0)) ys).length = n := by
    intro hs
    induction hs with
    | nil => exact fun xs ys n _ _ _ lx ly _ g => ⟨g, lx, ly⟩
    | cons a hs ih =>
      intro xs ys n nd h0 hd lx ly hp g
      obtain ⟨ha, za⟩ := h0 a (by simp)
      have ev := canon_eqv (goneP ys (sp.getD a 0))
      have el : (struckP ys (sp.getD a 0)).length = n := by rw [struck_len, ly]
      have out : ∀ b ∈ hs, ys.getD (sp.getD b 0) 0 ≠ ys.getD (sp.getD a 0) 0 := fun b hb => hd b (by simp [hb]) a (by simp) (fun e => (List.nodup_cons.mp nd).1 (e ▸ hb))
      refine ih _ _ n (List.nodup_cons.mp nd).2 (fun b hb => ⟨(h0 b (by simp [hb])).1, fun z => ?_⟩) (fun b hb c hc ne z => ?_) (by rw [struck_len, lx]) el hp (g.struck (by omega) (by rw [lx]; exact hp a ha) za)
      · have pb := hp b (h0 b (by simp [hb])).1
        have z := (ev.zero (i := sp.getD b 0) (by rw [← struckP, el]; exact pb)).mp z
        rw [gone_getD (by rw [ly]; exact pb), if_neg (out b hb)] at z
        exact (h0 b (by simp [hb])).2 z
      · have pb := hp b (h0 b (by simp [hb])).1
        have pc := hp c (h0 c (by simp [hc])).1
        have z := (ev.tie (i := sp.getD b 0) (j := sp.getD c 0) (by rw [← struckP, el]; exact pb) (by rw [← struckP, el]; exact pc)).mp z
        rw [gone_getD (by rw [ly]; exact pb), gone_getD (by rw [ly]; exact pc), if_neg (out b hb), if_neg (out c hc)] at z
        exact hd b (by simp [hb]) c (by simp [hc]) ne z
  have hh : ∀ a ∈ handP M, a < M.length ∧ M.getD a 0 = 33 := fun a ha => ⟨List.mem_range.mp (List.mem_filter.mp ha).1, of_decide_eq_true (List.mem_filter.mp ha).2⟩
  exact hS (handP M) _ _ xs.length ((List.nodup_range).filter _) (fun a ha => ⟨(hh a ha).1, c1.1 a (hh a ha).1⟩) (fun a ha b hb ne => c1.2 b a (hh b hb).1 (hh a ha).1 (hh b hb).2 ne) l1 l2 hp g1
theorem Good.set0 (h : Good xs ys) (l : ys.length = xs.length) (i : Nat) : Good (xs.set i 0) (ys.set i 0) := fun a ha e => by
  rw [List.length_set] at ha
  rw [getD_set _ _ _ _ (by omega)] at e
  rw [getD_set _ _ _ _ ha, getD_set _ _ _ _ (by omega)]
  by_cases c : i = a
  · rw [if_pos c] at e
    exact absurd rfl e
  · rw [if_neg c] at e
    rw [if_neg c, if_neg c]
    refine ⟨(h a ha e).1, fun b hb eb q => ?_⟩
    rw [List.length_set] at hb
    rw [getD_set _ _ _ _ (by omega)] at eb
    rw [getD_set _ _ _ _ hb] at q
    rw [getD_set _ _ _ _ (by omega)]
    by_cases d : i = b
    · rw [if_pos d] at eb
      exact absurd rfl eb
    · rw [if_neg d] at eb q
      rw [if_neg d]
      exact (h a ha e).2 b hb eb q
theorem callT_good {M : List Nat} {o : Option (Nat × Nat)} (h : Good xs ys) (l : ys.length = xs.length) (hb : ∀ c ∈ xs, c ≤ xs.length) (hp : ∀ a, a < M.length → sp.getD a 0 < xs.length) : Good (callT M sp o xs) (callT M sp o ys) := by
  unfold callT
  cases o with
  | none => exact h
  | some p =>
    obtain ⟨r, t⟩ := p
    show Good (tgtP M sp r t xs) (tgtP M sp r t ys)
    unfold tgtP
    split
    · exact (h.set0 l t).eqv (by simp [l]) (canon_eqv _).symm (canon_eqv _).symm
    · split
      · rename_i c
        exact (h.set_at l t (sp.getD (M.idxOf r) 0) (hp _ (idx_getD c.2).1)).eqv (by simp [l]) (canon_eqv _).symm (canon_eqv _).symm
      · rw [l]
        exact (h.set_new l t (fun x hx => by have := hb x hx; omega) (by omega)).eqv (by simp [l]) (canon_eqv _).symm (canon_eqv _).symm
/-! ### the order is kept -/
theorem Finer.canon2 {zs ws : List Int} (h : Finer zs ws) (l : ws.length = zs.length) : Finer (canonP zs) (canonP ws) := h.eqv l (canon_eqv _).symm (canon_eqv _).symm
theorem Finer.merged (h : Finer xs ys) (l : ys.length = xs.length) {i j : Nat} (hi : i < xs.length) (hj : j < xs.length) : Finer (mergedP xs i j) (mergedP ys i j) :=
  (merged_to hi hj).m _ (by rw [merged_len, l]) (h.trans (merged_to (by omega) (by omega)).f l) (merged_to (by omega) (by omega)).r
theorem Finer.struck (h : Finer xs ys) (l : ys.length = xs.length) {i : Nat} (hi : i < xs.length) : Finer (struckP xs i) (struckP ys i) :=
  (struck_to hi).m _ (by rw [struck_len, l]) (h.trans (struck_to (by omega)).f l) (struck_to (by omega)).r
theorem Finer.set_to (h : Finer xs ys) (l : ys.length = xs.length) (t : Nat) {v w : Int} (z : v = 0 → w = 0) (k : ∀ a, a < xs.length → a ≠ t → xs.getD a 0 = v → ys.getD a 0 = w) : Finer (xs.set t v) (ys.set t w) := by
  refine Finer.of (fun a ha e => ?_) fun a b ha hb e => ?_
  · rw [List.length_set] at ha
    rw [getD_set _ _ _ _ ha] at e
    rw [getD_set _ _ _ _ (by omega)]
    by_cases c : t = a
    · rw [if_pos c] at e ⊢
      exact z e
    · rw [if_neg c] at e ⊢
      exact (h a ha).1 e
  · rw [List.length_set] at ha hb
    rw [getD_set _ _ _ _ ha, getD_set _ _ _ _ hb] at e
    rw [getD_set _ _ _ _ (by omega), getD_set _ _ _ _ (by omega)]
    by_cases c : t = a
    · by_cases d : t = b
      · rw [if_pos c, if_pos d]
      · rw [if_pos c, if_neg d] at e
        rw [if_pos c, if_neg d]
        exact (k b hb (Ne.symm d) e.symm).symm
    · by_cases d : t = b
      · rw [if_neg c, if_pos d] at e
        rw [if_neg c, if_pos d]
        exact k a ha (Ne.symm c) e
      · rw [if_neg c, if_neg d] at e
        rw [if_neg c, if_neg d]
        exact h.tie ha hb e
theorem Finer.set_new (h : Finer xs ys) (l : ys.length = xs.length) (t : Nat) {v : Int} (w : Int) (hv : ∀ c ∈ xs, c < v) (z : v ≠ 0) : Finer (xs.set t v) (ys.set t w) :=
  h.set_to l t (fun e => absurd e z) fun a ha _ e => absurd e (by have := hv _ (getD_mem ha); omega)
theorem Finer.set_at (h : Finer xs ys) (l : ys.length = xs.length) (t : Nat) {j : Nat} (hj : j < xs.length) : Finer (xs.set t (xs.getD j 0)) (ys.set t (ys.getD j 0)) :=
  h.set_to l t (h j hj).1 fun a ha _ e => h.tie ha hj e
theorem Finer.set0 (h : Finer xs ys) (l : ys.length = xs.length) (t : Nat) : Finer (xs.set t 0) (ys.set t 0) := h.set_to l t (fun _ => rfl) fun a ha _ e => (h a ha).1 e
theorem SigReq.up {ls' : List Int} {z : List Int} (f : Finer ls ls') (hs : size ≤ ls.length) (h : SigReq ls' size sp z) : SigReq ls size sp z :=
  ⟨fun a b ha hb e => h.1 a b ha hb (f.tie (by omega) (by omega) e), fun a ha e => h.2 a ha ((f a (by omega)).1 e)⟩
theorem callX_mono {ms' : List Nat} {ls' : List Int} (h : MK ms ls) (h' : MK ms' ls') (hs : size ≤ ls.length) (ll : ls'.length = ls.length) (hl : sp.length = size) (hp : ∀ a ∈ sp, a < xs.length) (l : ys.length = xs.length) (f : Finer ls ls') (g : Finer xs ys) :
    Finer (callX (ms.take size) sp xs) (callX (ms'.take size) sp ys) := by
  have u := callX_up h hs hl hp
  have u' := callX_up (cs := ys) h' (by omega) hl (fun a ha => by rw [l]; exact hp a ha)
  exact u.m _ (by rw [u'.l, l]) (g.trans u'.f l) (u'.r.up f hs)
theorem tgt_mono {ms' : List Nat} {ls' : List Int} {t : Nat} (h : MK ms ls) (h' : MK ms' ls') (hs : size < ls.length) (ll : ls'.length = ls.length) (hl : sp.length = size) (hp : ∀ a ∈ sp, a < xs.length) (l : ys.length = xs.length) (f : Finer ls ls') (g : Finer xs ys) (r : SigReq ls' size sp ys) (hb : ∀ c ∈ xs, c ≤ xs.length) :
    Finer (tgtP (ms.take size) sp (ms.getD size 0) t xs) (tgtP (ms'.take size) sp (ms'.getD size 0) t ys) := by
  have ml : (ms.take size).length = size := by rw [List.length_take, h.l]; omega
  have ml' : (ms'.take size).length = size := by rw [List.length_take, h'.l]; omega
  have new : ∀ w : Int, Finer (canonP (xs.set t ((xs.length : Int) + 1))) (canonP (ys.set t w)) := fun w => (g.set_new l t w (fun c hc => by have := hb c hc; omega) (by omega)).canon2 (by simp [l])
  unfold tgtP
  by_cases c1 : ms.getD size 0 = 33
  · have z := (f size hs).1 ((h.z size hs).mp c1)
    rw [if_pos c1, if_pos ((h'.z size (by omega)).mpr z)]
    exact (g.set0 l t).canon2 (by simp [l])
  rw [if_neg c1]
  by_cases c2 : ms.getD size 0 ≠ 45 ∧ ms.getD size 0 ∈ ms.take size
  · rw [if_pos c2]
    obtain ⟨p1, p2⟩ := idx_getD c2.2
    generalize (ms.take size).idxOf (ms.getD size 0) = p at p1 p2
    rw [ml] at p1
    rw [take_getD p1] at p2
    have l1 : 97 ≤ ms.getD size 0 := by
      rcases h.ok size hs with q | q | q
      · exact absurd q c1
      · exact absurd q c2.1
      · exact q.1
    have e1 : ls.getD p 0 = ls.getD size 0 := (h.tie p size (by omega) hs (by omega) l1).mp p2
    have e2 : ls'.getD p 0 = ls'.getD size 0 := f.tie (by omega) hs e1
    have at_ := (g.set_at l t (sp_lt hp (a := p) (by omega))).canon2 (by simp [l])
    by_cases d1 : ms'.getD size 0 = 33
    · rw [if_pos d1]
      rw [r.2 p p1 (by rw [e2]; exact (h'.z size (by omega)).mp d1)] at at_
      exact at_
    · rw [if_neg d1]
      have n0 : ls'.getD size 0 ≠ 0 := fun z => d1 ((h'.z size (by omega)).mpr z)
      have d2 : 97 ≤ ms'.getD size 0 := by
        rcases h'.ok size (by omega) with q | q | q
        · exact absurd q d1
        · exact absurd (h'.one size (by omega) q p (by omega) e2) (by omega)
        · exact q.1
      have d3 : 97 ≤ ms'.getD p 0 := by
        rcases h'.ok p (by omega) with q | q | q
        · exact absurd ((h'.z p (by omega)).mp q) (by rw [e2]; exact n0)
        · exact absurd (h'.one p (by omega) q size (by omega) e2.symm) (by omega)
        · exact q.1
      have e3 : ms'.getD p 0 = ms'.getD size 0 := (h'.tie p size (by omega) (by omega) d3 d2).mpr e2
      have m3 : ms'.getD size 0 ∈ ms'.take size := by
        rw [← e3, ← take_getD (ms := ms') p1]
        exact nD_mem (by omega)
      rw [if_pos ⟨by omega, m3⟩]
      obtain ⟨q1, q2⟩ := idx_getD m3
      generalize (ms'.take size).idxOf (ms'.getD size 0) = q at q1 q2
      rw [ml'] at q1
      rw [take_getD q1] at q2
      have e4 : ls'.getD q 0 = ls'.getD size 0 := (h'.tie q size (by omega) (by omega) (by omega) d2).mp q2
      rw [r.1 q p q1 p1 (by rw [e4, e2])]
      exact at_
  · rw [if_neg c2]
    split
    · exact new _
    · split <;> exact new _
end
end Pu
namespace NS
open Pu Mi L2 PySem
/-! ### what the helpers of the laws come to -/
theorem p_at (row : List Int) (k : Nat) : m__law_at [.list (iL row), .int (k : Nat)] = .ok (.int (row.getD k 0)) := by
  show (o__law_at _ _).res = _
  unfold o__law_at
  simp -implicitDefEqProofs only [Res.bind_ok, Res.bindF_ok, lenD_l, ofO_some, ltB_int, List.length_map]
  by_cases h : k < row.length
  · have e : row[k]? = some (row.getD k 0) := by simp [List.getD_eq_getElem?_getD, h]
    have h1 : ((k : Int) < (row.length : Int)) := by omega
    simp -implicitDefEqProofs only [h1, decide_true, if_true, item_lI e, ofO_some, Res.bind_ok, Res.bindF_ok, Fl.up_rt, Fl.res_rt]
  · have h1 : ¬ ((k : Int) < (row.length : Int)) := by omega
    have e : row.getD k 0 = 0 := by simp [List.getD_eq_getElem?_getD, Nat.le_of_not_lt h]
    simp -implicitDefEqProofs only [h1, decide_false, Bool.false_eq_true, if_false, Fl.res_rt, e]
/-- a row of draws -/
structure Row (row : List Int) : Prop where
  rng : ∀ x ∈ row, 0 ≤ x ∧ x < 1000000
  len : row.length ≤ 5000
theorem Row.at_ {row : List Int} (r : Row row) (k : Nat) : 0 ≤ row.getD k 0 ∧ row.getD k 0 < 1000000 := by
  rw [List.getD_eq_getElem?_getD]
  cases h : row[k]? with
  | none => simp
  | some x => exact r.rng x (List.mem_of_getElem? h)
theorem intD_int (i : Int) : intD (.int i) = some (.int i) := rfl
theorem p_draws (ns : List Int) (hl : ns.length ≤ 63) : ∃ row, m__law_draws [scrD ns] = .ok (.list (iL row)) ∧ Row row := by
  have main : Rt (o__law_draws (scrD ns)) fun d => ∃ row, d = .list (iL row) ∧ (∀ x ∈ row, 0 ≤ x ∧ x < 1000000) ∧ row.length ≤ 60 * ns.length := by
    unfold o__law_draws
    have hln : ofO (lenD (scrD ns)) = Res.ok (.int (ns.length : Nat)) := by simp [scrD, lenD]
    have hmin : ofO (minD (.int 63) (.int (ns.length : Nat))) = Res.ok (.int (ns.length : Nat)) := by
      have : (if (ns.length : Int) < 63 then (ns.length : Int) else 63) = (ns.length : Int) := by split <;> omega
      simp -implicitDefEqProofs only [minD, ofO_some, this]
    simp -implicitDefEqProofs only [Res.bind_ok, Res.bindF_ok, mkL_nil, ofO_some, hln, hmin, rng1_nat ns.length (by omega)]
    refine Rt.bind (Nx.loop (fun j t => ∃ row, t = iL row ∧ (∀ x ∈ row, 0 ≤ x ∧ x < 1000000) ∧ row.length ≤ 60 * j) ⟨[], rfl, by simp, by simp⟩ ?_) ?_
    rotate_left
    · rintro t ⟨row, rfl, h2, h3⟩
      exact Rt.mk ⟨row, rfl, h2, by rw [rngL_len] at h3; exact h3⟩
    · rintro j x t hx ⟨row, rfl, h2, h3⟩
      obtain ⟨hj, rfl⟩ := rng_at hx
      rw [Int.zero_add]
      have hn : ns[j]? = some ns[j] := List.getElem?_eq_getElem hj
      have hit : itemD (scrD ns) (.int (j : Nat)) = some (.int ns[j]) := at_nat (by rw [List.getElem?_map, hn]; rfl)
      generalize ns[j] = c at hit
      simp -implicitDefEqProofs only [Res.bind_ok, Res.bindF_ok, hit, ofO_some, intD, ltB_int, subD_int]
      -- the cell without its sign
      refine Nx.bind (P := fun t => ∃ c2 lo : Int, 0 ≤ c2 ∧ 0 ≤ lo ∧ lo ≤ 1 ∧ t = (.int c2, .int lo)) ?_ ?_
      · by_cases q : c < 0
        · simp -implicitDefEqProofs only [q, decide_true, if_true]
          exact Nx.mk ⟨0 - c, 1, by omega, by omega, by omega, rfl⟩
        · simp -implicitDefEqProofs only [q, decide_false, Bool.false_eq_true, if_false]
          exact Nx.mk ⟨c, 0, by omega, by omega, by omega, rfl⟩
      rintro _ ⟨c2, lo, hc2, hlo, hlo2, rfl⟩
      have hp : (10 : Int) ^ (18 : Int).toNat = 1000000000000000000 := by decide
      have hp2 : (0 ≤ (18 : Int) ∧ (18 : Int) ≤ 1000 ∧ (10 : Int).natAbs < 2 ^ 64) := by decide
      simp -implicitDefEqProofs only [Fl.bind_nx, powD_int, ofO_some, Res.bind_ok, geB_int, hp2, hp, if_true, and_self, Res.bindF_ok]
      refine Nx.bind (P := fun t => ∃ row, t.1 = iL row ∧ (∀ x ∈ row, 0 ≤ x ∧ x < 1000000) ∧ row.length ≤ 60 * (j + 1)) ?_ fun t h => Nx.mk h
      by_cases big : (1000000000000000000 : Int) ≤ c2
      · have r60 : rng1 (.int 60) = some (rngL 0 60) := rng1_nat 60 (by decide)
        simp -implicitDefEqProofs only [big, decide_true, if_true, r60, ofO_some, Res.bindF_ok]
        refine Nx.bind (Nx.loop (fun i (t : List D × D) => ∃ row c, t = (iL row, .int c) ∧ (∀ x ∈ row, 0 ≤ x ∧ x < 1000000) ∧ row.length ≤ 60 * j + i) ⟨row, c2, rfl, h2, h3⟩ ?_) ?_
        rotate_left
        · rintro t ⟨row, c, rfl, h2, h3⟩
          exact Nx.mk ⟨row, rfl, h2, by rw [rngL_len] at h3; omega⟩
        · rintro i x t hi ⟨row, c, rfl, h2, h3⟩
          have hi60 := (rng_at hi).1
          simp -implicitDefEqProofs only [gtB_int, ofO_some, Res.bindF_ok, Res.bind_ok, intD]
          refine Nx.bind (P := fun (t : List D × D) => ∃ row c, t = (iL row, .int c) ∧ (∀ x ∈ row, 0 ≤ x ∧ x < 1000000) ∧ row.length ≤ 60 * j + (i + 1)) ?_ fun t h => Nx.mk h
          by_cases q : 0 < c
          · simp -implicitDefEqProofs (disch := omega) only [q, decide_true, if_true, modD_ok, fdivD_ok, ofO_some, Res.bindF_ok, Res.bind_ok, intD]
            have hz : (iL row).length < cap := by
              rw [List.length_map]
              unfold cap
              omega
            rw [if_pos hz]
            refine Nx.mk ⟨row ++ [c % 1000000], c / 1000000, by simp, fun x hx => ?_, by simp; omega⟩
            rcases List.mem_append.mp hx with z | z
            · exact h2 x z
            · rw [List.mem_singleton.mp z]
              omega
          · simp -implicitDefEqProofs only [q, decide_false, Bool.false_eq_true, if_false]
            exact Nx.mk ⟨row, c, rfl, h2, by omega⟩
      · simp -implicitDefEqProofs only [big, decide_false, Bool.false_eq_true, if_false]
        have hk : (((j : Int) + 1) * ((j : Int) + 7)) ≤ 4480 ∧ 0 ≤ (((j : Int) + 1) * ((j : Int) + 7)) := by
          have h5 : (j + 1) * (j + 7) ≤ 64 * 70 := Nat.mul_le_mul (by omega) (by omega)
          have h6 : (((j + 1) * (j + 7) : Nat) : Int) = ((j : Int) + 1) * ((j : Int) + 7) := by push_cast; rfl
          rw [← h6]
          omega
        obtain ⟨hk1, hk2⟩ := hk
        generalize hkk : (((j : Int) + 1) * ((j : Int) + 7)) = kk at hk1 hk2
        have s1 : addD (.int (j : Nat)) (.int 1) = some (.int ((j : Int) + 1)) := rfl
        have s2 : addD (.int (j : Nat)) (.int 7) = some (.int ((j : Int) + 7)) := rfl
        have s3 : mulD (.int ((j : Int) + 1)) (.int ((j : Int) + 7)) = some (.int kk) := by
          rw [mulD_ok (by omega) (by omega) (by omega) (by omega), hkk]
        simp -implicitDefEqProofs only [s1, s2, s3, ofO_some, Res.bind_ok]
        simp -implicitDefEqProofs (disch := omega) only [addD_int, mulD_ok, modD_ok, ofO_some, Res.bind_ok, Res.bindF_ok, intD]
        have hz : (iL row).length < cap := by
          rw [List.length_map]
          unfold cap
          omega
        rw [if_pos hz]
        generalize hm : (_ % 1000000 : Int) = m
        have hm2 : 0 ≤ m ∧ m < 1000000 := by
          rw [← hm]
          omega
        refine Nx.mk ⟨row ++ [m], by simp, fun x hx => ?_, by simp; omega⟩
        rcases List.mem_append.mp hx with z | z
        · exact h2 x z
        · rw [List.mem_singleton.mp z]
          exact hm2
  obtain ⟨d, e, row, rfl, h2, h3⟩ := main.res
  exact ⟨row, e, h2, by omega⟩
/-! the names -/
abbrev alpha : Str := "abcdefghijklmnopqrstuvwxyz"
def nmP (t s low a b p q k : Nat) : Str := match t with
  | 0 => ⟨#[97 + (s + k * 5) % 26]⟩
  | 1 => cutS "queuelist" (some (low : Nat)) (some ((low + a : Nat) : Int)) ++ (⟨#[97 + (s + k * 7) % 26]⟩ : Str) ++ cutS "lettercall" (some (low : Nat)) (some ((low + b : Nat) : Int))
  | _ => cutS (cutS (alpha ++ alpha) (some (s : Nat)) (some ((s + 8 : Nat) : Int))) none (some (((k * 5 + p) % 6 + 1 + q : Nat) : Int))
def okC (c : Nat) : Bool := decide (97 ≤ c) && decide (c ≤ 122)
def okName (n : Str) : Bool := decide (1 ≤ n.length) && decide (n.length ≤ 8) && n.cps.toList.all okC
theorem chkA : ((List.range 4).all fun low => (List.range 4).all fun a => (cutS "queuelist" (some ((low : Nat) : Int)) (some ((low + a : Nat) : Int))).cps.toList.all okC && decide ((cutS "queuelist" (some ((low : Nat) : Int)) (some ((low + a : Nat) : Int))).length ≤ 3)) = true := by decide +kernel
theorem chkB : ((List.range 4).all fun low => (List.range 4).all fun a => (cutS "lettercall" (some ((low : Nat) : Int)) (some ((low + a : Nat) : Int))).cps.toList.all okC && decide ((cutS "lettercall" (some ((low : Nat) : Int)) (some ((low + a : Nat) : Int))).length ≤ 3)) = true := by decide +kernel
theorem chkW : ((List.range 26).all fun s => (cutS (alpha ++ alpha) (some ((s : Nat) : Int)) (some ((s + 8 : Nat) : Int))).cps.toList.all okC && decide ((cutS (alpha ++ alpha) (some ((s : Nat) : Int)) (some ((s + 8 : Nat) : Int))).length = 8)) = true := by decide +kernel
theorem str_len (z : Str) : z.length = z.cps.toList.length := by simp [Str.length]
theorem str_app (x y : Str) : (x ++ y).cps.toList = x.cps.toList ++ y.cps.toList := by
  show (x.cps ++ y.cps).toList = _
  simp
theorem all_lt {n : Nat} {p : Nat → Bool} (h : (List.range n).all p = true) {i : Nat} (hi : i < n) : p i = true := List.all_eq_true.mp h i (List.mem_range.mpr hi)
theorem okC_mod (x : Nat) : okC (97 + x % 26) = true := by
  unfold okC
  simp
  omega
structure GoodN (names : List Str) : Prop where
  nd : names.Nodup
  ok : ∀ n ∈ names, okName n = true
theorem nm_ok {t s low a b p q k : Nat} (hs : s < 26) (hl : low < 4) (ha : a < 4) (hb : b < 4) (hp : p < 6) (hq : q < 3) (hk : k < 6) : okName (nmP t s low a b p q k) = true := by
  match t with
  | 0 =>
    show okName (⟨#[97 + (s + k * 5) % 26]⟩ : Str) = true
    have h := okC_mod (s + k * 5)
    simp [okName, str_len, h]
  | 1 =>
    have h1 := Bool.and_eq_true_iff.mp (all_lt (all_lt chkA hl) ha)
    have h2 := Bool.and_eq_true_iff.mp (all_lt (all_lt chkB hl) hb)
    have h3 := okC_mod (s + k * 7)
    obtain ⟨a1, a2⟩ := h1
    obtain ⟨b1, b2⟩ := h2
    have a2 := of_decide_eq_true a2
    have b2 := of_decide_eq_true b2
    rw [str_len] at a2 b2
    show okName (cutS "queuelist" (some ((low : Nat) : Int)) (some ((low + a : Nat) : Int)) ++ (⟨#[97 + (s + k * 7) % 26]⟩ : Str) ++ cutS "lettercall" (some ((low : Nat) : Int)) (some ((low + b : Nat) : Int))) = true
    generalize cutS "queuelist" (some ((low : Nat) : Int)) (some ((low + a : Nat) : Int)) = x at a1 a2
    generalize cutS "lettercall" (some ((low : Nat) : Int)) (some ((low + b : Nat) : Int)) = y at b1 b2
    unfold okName
    rw [str_len, str_app, str_app, List.all_append, List.all_append, a1, b1]
    have e1 : (⟨#[97 + (s + k * 7) % 26]⟩ : Str).cps.toList = [97 + (s + k * 7) % 26] := rfl
    rw [e1, List.length_append, List.length_append]
    simp only [List.all_cons, List.all_nil, h3, Bool.and_true, List.length_singleton, Bool.and_eq_true, decide_eq_true_eq]
    omega
  | t + 2 =>
    have h1 := Bool.and_eq_true_iff.mp (all_lt chkW hs)
    obtain ⟨a1, a2⟩ := h1
    have a2 := of_decide_eq_true a2
    show okName (cutS (cutS (alpha ++ alpha) (some ((s : Nat) : Int)) (some ((s + 8 : Nat) : Int))) none (some (((k * 5 + p) % 6 + 1 + q : Nat) : Int))) = true
    generalize cutS (alpha ++ alpha) (some ((s : Nat) : Int)) (some ((s + 8 : Nat) : Int)) = w at a1 a2
    rw [str_len] at a2
    have e : (cutS w none (some (((k * 5 + p) % 6 + 1 + q : Nat) : Int))).cps.toList = w.cps.toList.take ((k * 5 + p) % 6 + 1 + q) := by
      unfold cutS
      rw [HT.sIx_none, HT.sIx_nat, str_len, a2]
      simp
      omega
    unfold okName
    rw [str_len, e, List.length_take, a2]
    have h3 : (w.cps.toList.take ((k * 5 + p) % 6 + 1 + q)).all okC = true := List.all_eq_true.mpr fun c hc => List.all_eq_true.mp a1 c (List.mem_of_mem_take hc)
    rw [h3]
    simp
    omega
theorem nm_inj {t s low a b p q k l : Nat} (hs : s < 26) (hp : p < 6) (hq : q < 3) (hk : k < 6) (hl : l < 6) (h : nmP t s low a b p q k = nmP t s low a b p q l) : k = l := by
  have h := congrArg (fun z : Str => z.cps.toList) h
  match t with
  | 0 =>
    have h : [97 + (s + k * 5) % 26] = [97 + (s + l * 5) % 26] := h
    simp at h
    omega
  | 1 =>
    have h : (_ ++ (⟨#[97 + (s + k * 7) % 26]⟩ : Str) ++ _ : Str).cps.toList = (_ ++ (⟨#[97 + (s + l * 7) % 26]⟩ : Str) ++ _ : Str).cps.toList := h
    rw [str_app, str_app, str_app, str_app] at h
    have h := List.append_cancel_left (List.append_cancel_right h)
    simp at h
    omega
  | t + 2 =>
    obtain ⟨a1, a2⟩ := Bool.and_eq_true_iff.mp (all_lt chkW hs)
    have a2 := of_decide_eq_true a2
    have h : (cutS (cutS (alpha ++ alpha) (some ((s : Nat) : Int)) (some ((s + 8 : Nat) : Int))) none (some (((k * 5 + p) % 6 + 1 + q : Nat) : Int))).cps.toList = (cutS (cutS (alpha ++ alpha) (some ((s : Nat) : Int)) (some ((s + 8 : Nat) : Int))) none (some (((l * 5 + p) % 6 + 1 + q : Nat) : Int))).cps.toList := h
    generalize cutS (alpha ++ alpha) (some ((s : Nat) : Int)) (some ((s + 8 : Nat) : Int)) = w at a1 a2 h
    rw [str_len] at a2
    have e : ∀ m : Nat, m ≤ 8 → (cutS w none (some ((m : Nat) : Int))).cps.toList = w.cps.toList.take m := fun m hm => by
      unfold cutS
      rw [HT.sIx_none, HT.sIx_nat, str_len, a2]
      simp
      omega
    rw [e _ (by omega), e _ (by omega)] at h
    have h := congrArg List.length h
    rw [List.length_take, List.length_take, a2] at h
    omega
theorem names_good {t s low a b p q n : Nat} (hs : s < 26) (hl : low < 4) (ha : a < 4) (hb : b < 4) (hp : p < 6) (hq : q < 3) (hn : n ≤ 6) : GoodN ((List.range n).map (nmP t s low a b p q)) := by
  refine ⟨?_, fun x hx => ?_⟩
  · rw [List.nodup_iff_pairwise_ne, List.pairwise_map]
    refine List.Pairwise.imp_of_mem ?_ (List.nodup_range (n := n))
    intro i j hi hj ne e
    exact ne (nm_inj hs hp hq (by have := List.mem_range.mp hi; omega) (by have := List.mem_range.mp hj; omega) e)
  · obtain ⟨i, hi, rfl⟩ := List.mem_map.mp hx
    exact nm_ok hs hl ha hb hp hq (by have := List.mem_range.mp hi; omega)
/-! .. as the helper makes them -/
theorem at_alpha (j : Nat) (h : j < 26) : itemD (.str alpha) (.int (j : Nat)) = some (.str ⟨#[97 + j]⟩) := by
  have e : alpha.cps.toList[j]? = some (97 + j) := by
    have z : alpha.cps.toList = List.range' 97 26 := by decide +kernel
    rw [z, List.getElem?_range' h]
    simp
  have l : alpha.length ≤ cap := by decide +kernel
  show (if alpha.length ≤ cap then (atI alpha.cps.toList (j : Int)).map fun c => PyData.str ⟨#[c]⟩ else none) = _
  rw [if_pos l, L2.atI_nat e]
  rfl
theorem cut_le (z : Str) (lo hi : Option Int) : (cutS z lo hi).length ≤ z.length := by
  rw [str_len, str_len]
  unfold cutS
  simp
  omega
theorem slice_ok {z : Str} (lo hi : Option Int) (h : z.length ≤ cap) : sliceD (.str z) lo hi = some (.str (cutS z lo hi)) := if_pos h
theorem addS_ok {x y : Str} (h : x.length + y.length ≤ cap) : addD (.str x) (.str y) = some (.str (x ++ y)) := if_pos h
theorem asI_ok (i : Int) : asI (.int i) = some (some i) := rfl
theorem p_names (draw many : Nat) (hm : many ≤ 6) : ∃ names : List Str, m__law_names [.int (draw : Nat), .int (many : Nat)] = .ok (.list (sL names)) ∧ names.length = many ∧ GoodN names := by
  have l1 : (alpha : Str).length = 26 := by decide +kernel
  have l2 : ("queuelist" : Str).length = 9 := by decide +kernel
  have l3 : ("lettercall" : Str).length = 10 := by decide +kernel
  have l4 : (alpha ++ alpha : Str).length = 52 := by decide +kernel
  have c1 : cap = 100000 := rfl
  have e1 : (draw : Int) / 3 = ((draw / 3 : Nat) : Int) := by omega
  have e2 : (((draw / 3 : Nat) : Int) / 26) % 4 = ((draw / 3 / 26 % 4 : Nat) : Int) := by omega
  have e3 : (((draw / 3 : Nat) : Int) / 104) % 4 = ((draw / 3 / 104 % 4 : Nat) : Int) := by omega
  have e4 : (((draw / 3 : Nat) : Int) / 416) % 4 = ((draw / 3 / 416 % 4 : Nat) : Int) := by omega
  have e5 : (((draw / 3 : Nat) : Int) / 156) % 3 = ((draw / 3 / 156 % 3 : Nat) : Int) := by omega
  have e6 : ((draw / 3 : Nat) : Int) % 26 = ((draw / 3 % 26 : Nat) : Int) := by omega
  have main : Rt (o__law_names (.int (draw : Nat)) (.int (many : Nat))) fun d => ∃ names, d = .list (sL names) ∧ names = (List.range many).map (nmP (draw % 3) (draw / 3 % 26) (draw / 3 / 26 % 4) (draw / 3 / 104 % 4) (draw / 3 / 416 % 4) (draw / 3 / 26 % 6) (draw / 3 / 156 % 3)) := by
    unfold o__law_names
    simp -implicitDefEqProofs (disch := omega) only [Res.bind_ok, Res.bindF_ok, mkL_nil, ofO_some, intD_int, fdivD_ok, modD_ok, e1, e2, rng1_nat]
    refine Rt.bind (Nx.loop (fun j t => t = sL ((List.range j).map (nmP (draw % 3) (draw / 3 % 26) (draw / 3 / 26 % 4) (draw / 3 / 104 % 4) (draw / 3 / 416 % 4) (draw / 3 / 26 % 6) (draw / 3 / 156 % 3)))) rfl ?_) ?_
    rotate_left
    · rintro t rfl
      exact Rt.mk ⟨_, rfl, by rw [rngL_len]⟩
    · rintro k x t hx rfl
      obtain ⟨hk, rfl⟩ := rng_at hx
      rw [Int.zero_add]
      have hz : (sL ((List.range k).map (nmP (draw % 3) (draw / 3 % 26) (draw / 3 / 26 % 4) (draw / 3 / 104 % 4) (draw / 3 / 416 % 4) (draw / 3 / 26 % 6) (draw / 3 / 156 % 3)))).length < cap := by
        simp
        omega
      generalize hL : sL ((List.range k).map (nmP (draw % 3) (draw / 3 % 26) (draw / 3 / 26 % 4) (draw / 3 / 104 % 4) (draw / 3 / 416 % 4) (draw / 3 / 26 % 6) (draw / 3 / 156 % 3))) = L at hz
      have goal : ∀ s : Str, s = nmP (draw % 3) (draw / 3 % 26) (draw / 3 / 26 % 4) (draw / 3 / 104 % 4) (draw / 3 / 416 % 4) (draw / 3 / 26 % 6) (draw / 3 / 156 % 3) k → L ++ [PyData.str s] = sL ((List.range (k + 1)).map (nmP (draw % 3) (draw / 3 % 26) (draw / 3 / 26 % 4) (draw / 3 / 104 % 4) (draw / 3 / 416 % 4) (draw / 3 / 26 % 6) (draw / 3 / 156 % 3))) := fun s h => by
        unfold sL
        rw [List.range_succ, List.map_append, List.map_append, ← hL, h]
        rfl
      have q3 : draw % 3 = 0 ∨ draw % 3 = 1 ∨ draw % 3 = 2 := by omega
      rcases q3 with q | q | q
      · have t0 : ((draw : Int) % 3 = 0) := by omega
        have i1 : (((draw / 3 : Nat) : Int) + (k : Int) * 5) % 26 = (((draw / 3 % 26 + k * 5) % 26 : Nat) : Int) := by omega
        simp -implicitDefEqProofs (disch := omega) only [Res.bind_ok, Res.bindF_ok, ofO_some, intD_int, modD_ok, mulD_ok, addD_int, eqB_int, t0, decide_true, if_true, i1, at_alpha _ (Nat.mod_lt _ (by decide : 0 < 26)), hz, Fl.bind_nx]
        exact Nx.mk (goal _ (by rw [q]; rfl))
      · have t0 : ¬ ((draw : Int) % 3 = 0) := by omega
        have t1 : ((draw : Int) % 3 = 1) := by omega
        have i1 : (((draw / 3 : Nat) : Int) + (k : Int) * 7) % 26 = (((draw / 3 % 26 + k * 7) % 26 : Nat) : Int) := by omega
        have a1 := cut_le "queuelist" (some ((draw / 3 / 26 % 4 : Nat) : Int)) (some (((draw / 3 / 26 % 4 : Nat) : Int) + ((draw / 3 / 104 % 4 : Nat) : Int)))
        have a2 := cut_le "lettercall" (some ((draw / 3 / 26 % 4 : Nat) : Int)) (some (((draw / 3 / 26 % 4 : Nat) : Int) + ((draw / 3 / 416 % 4 : Nat) : Int)))
        have a3 : (cutS "queuelist" (some ((draw / 3 / 26 % 4 : Nat) : Int)) (some (((draw / 3 / 26 % 4 : Nat) : Int) + ((draw / 3 / 104 % 4 : Nat) : Int))) ++ (⟨#[97 + (draw / 3 % 26 + k * 7) % 26]⟩ : Str)).length = (cutS "queuelist" (some ((draw / 3 / 26 % 4 : Nat) : Int)) (some (((draw / 3 / 26 % 4 : Nat) : Int) + ((draw / 3 / 104 % 4 : Nat) : Int)))).length + 1 := by
          rw [str_len, str_app, List.length_append, ← str_len]
          rfl
        have a4 : (⟨#[97 + (draw / 3 % 26 + k * 7) % 26]⟩ : Str).length = 1 := rfl
        simp -implicitDefEqProofs (disch := omega) only [Res.bind_ok, Res.bindF_ok, ofO_some, intD_int, modD_ok, mulD_ok, fdivD_ok, addD_int, eqB_int, t0, t1, decide_true, decide_false, Bool.false_eq_true, if_false, if_true, i1, e3, e4, asI_ok, slice_ok, addS_ok, at_alpha _ (Nat.mod_lt _ (by decide : 0 < 26)), hz, Fl.bind_nx]
        exact Nx.mk (goal _ (by rw [q]; show _ = (cutS _ _ _ ++ _ ++ cutS _ _ _ : Str); push_cast; rfl))
      · have t0 : ¬ ((draw : Int) % 3 = 0) := by omega
        have t1 : ¬ ((draw : Int) % 3 = 1) := by omega
        have i1 : ((k : Int) * 5 + ((draw / 3 : Nat) : Int) / 26) % 6 = (((k * 5 + draw / 3 / 26 % 6) % 6 : Nat) : Int) := by omega
        have a1 := cut_le (alpha ++ alpha) (some ((draw / 3 % 26 : Nat) : Int)) (some (((draw / 3 % 26 : Nat) : Int) + 8))
        have al : addD (.str alpha) (.str alpha) = some (.str (alpha ++ alpha)) := addS_ok (by omega)
        have sl := fun lo hi => slice_ok (z := alpha ++ alpha) lo hi (by omega)
        have sw := fun lo hi => slice_ok (z := cutS (alpha ++ alpha) (some ((draw / 3 % 26 : Nat) : Int)) (some (((draw / 3 % 26 : Nat) : Int) + 8))) lo hi (by omega)
        simp -implicitDefEqProofs (disch := omega) only [Res.bind_ok, Res.bindF_ok, ofO_some, intD_int, modD_ok, mulD_ok, fdivD_ok, addD_int, eqB_int, t0, t1, decide_true, decide_false, Bool.false_eq_true, if_false, if_true, i1, e5, e6, asI_ok, al, sl, sw, hz, Fl.bind_nx]
        exact Nx.mk (goal _ (by rw [q]; show _ = cutS (cutS _ _ _) _ _; push_cast; rfl))
  obtain ⟨d, e, names, rfl, h2⟩ := main.res
  refine ⟨names, e, by rw [h2]; simp, ?_⟩
  rw [h2]
  exact names_good (by omega) (by omega) (by omega) (by omega) (by omega) (by omega) hm
theorem p_atI (row : List Int) (i : Int) (h : 0 ≤ i) : m__law_at [.list (iL row), .int i] = .ok (.int (row.getD i.toNat 0)) := by
  have e : i = ((i.toNat : Nat) : Int) := by omega
  have z := p_at row i.toNat
  rw [← e] at z
  exact z
theorem p_labels (row : List Int) (r : Row row) (first many : Nat) (hm : many ≤ 10) : ∃ ls : List Int, m__law_labels [.list (iL row), .int (first : Nat), .int (many : Nat)] = .ok (.list (iL ls)) ∧ ls.length = many ∧ ∀ l ∈ ls, 0 ≤ l ∧ l ≤ many := by
  have main : Rt (o__law_labels (.list (iL row)) (.int (first : Nat)) (.int (many : Nat))) fun d => ∃ ls, d = .list (iL ls) ∧ ls.length = many ∧ ∀ l ∈ ls, 0 ≤ l ∧ l ≤ many := by
    unfold o__law_labels
    simp -implicitDefEqProofs (disch := omega) only [Res.bind_ok, Res.bindF_ok, mkL_nil, ofO_some, intD_int, p_atI, modD_ok, rng1_nat]
    generalize (row.getD (first : Int).toNat 0 % 6 : Int) = shape
    refine Rt.bind (Nx.loop (fun j t => ∃ ls, t = iL ls ∧ ls.length = j ∧ ∀ l ∈ ls, 0 ≤ l ∧ l ≤ many) ⟨[], rfl, rfl, by simp⟩ ?_) ?_
    rotate_left
    · rintro t ⟨ls, rfl, h1, h2⟩
      exact Rt.mk ⟨ls, rfl, by rw [h1, rngL_len], h2⟩
    · rintro k x t hx ⟨ls, rfl, h1, h2⟩
      obtain ⟨hk, rfl⟩ := rng_at hx
      rw [Int.zero_add]
      have rr := r.at_ ((first : Int) + 1 + (k : Int)).toNat
      have hz : (iL ls).length < cap := by
        rw [List.length_map, h1]
        unfold cap
        omega
      simp -implicitDefEqProofs (disch := omega) only [Res.bind_ok, Res.bindF_ok, ofO_some, intD_int, addD_int, p_atI, modD_ok, eqB_int]
      generalize hl0 : (row.getD ((first : Int) + 1 + (k : Int)).toNat 0 % ((many : Int) + 1) : Int) = l0
      have b0 : 0 ≤ l0 ∧ l0 ≤ many := by
        rw [← hl0]
        have h3 := Int.emod_nonneg (row.getD ((first : Int) + 1 + (k : Int)).toNat 0) (b := (many : Int) + 1) (by omega)
        have h4 := Int.emod_lt_of_pos (row.getD ((first : Int) + 1 + (k : Int)).toNat 0) (b := (many : Int) + 1) (by omega)
        omega
      refine Nx.bind (P := fun t => ∃ l : Int, t = .int l ∧ 0 ≤ l ∧ l ≤ many) ?_ ?_
      · by_cases q1 : shape = 1
        · simp only [q1, decide_true, if_true]
          exact Nx.mk ⟨1, rfl, by omega, by omega⟩
        · simp only [q1, decide_false, Bool.false_eq_true, if_false]
          refine Nx.bind (P := fun t => ∃ l : Int, t = .int l ∧ 0 ≤ l ∧ l ≤ many) ?_ fun t h => Nx.mk h
          by_cases q2 : shape = 2
          · simp only [q2, decide_true, if_true]
            exact Nx.mk ⟨0, rfl, by omega, by omega⟩
          · simp only [q2, decide_false, Bool.false_eq_true, if_false]
            refine Nx.bind (P := fun t => ∃ l : Int, t = .int l ∧ 0 ≤ l ∧ l ≤ many) ?_ fun t h => Nx.mk h
            by_cases q3 : shape = 3
            · simp only [q3, decide_true, if_true]
              exact Nx.mk ⟨(k : Int) + 1, rfl, by omega, by omega⟩
            · simp only [q3, decide_false, Bool.false_eq_true, if_false]
              exact Nx.mk ⟨l0, rfl, b0⟩
      · rintro _ ⟨l, rfl, b1, b2⟩
        simp only [hz, if_true]
        refine Nx.mk ⟨ls ++ [l], by simp, by simp [h1], fun z hz => ?_⟩
        rcases List.mem_append.mp hz with w | w
        · exact h2 z w
        · rw [List.mem_singleton.mp w]
          exact ⟨b1, b2⟩
  obtain ⟨d, e, ls, rfl, h1, h2⟩ := main.res
  exact ⟨ls, e, h1, h2⟩
theorem p_formD (d : D) (ls : List Int) (hd : itemsD d = some (iL ls)) (h : ls.length ≤ 1000) : m__law_form [d] = .ok (.tuple (iL (canonP ls))) := by
  have main : Rt (o__law_form d) fun d => d = .tuple (iL (canonP ls)) := by
    unfold o__law_form
    simp -implicitDefEqProofs only [Res.bind_ok, Res.bindF_ok, mkL_nil, ofO_some, hd]
    refine Rt.bind (Nx.loop (fun j (t : List D × List D) => t = (iL ((ls.take j).foldl cstep ([], [])).1, iL ((ls.take j).foldl cstep ([], [])).2)) rfl ?_) ?_
    rotate_left
    · rintro t rfl
      simp -implicitDefEqProofs only [Res.bind_ok, Res.bindF_ok, ofO_some, tupleD]
      refine Rt.mk ?_
      rw [List.length_map, List.take_length]
      rfl
    · rintro j x t hx rfl
      obtain ⟨l, hl, rfl⟩ := iL_at hx
      rw [foldl_take cstep ([], []) ls j l hl]
      have hj := (List.getElem?_eq_some_iff.mp hl).1
      obtain ⟨b1, b2⟩ := cstep_len (ls.take j) ([], []) (Nat.le_refl _)
      rw [List.length_take] at b2
      generalize (ls.take j).foldl cstep ([], []) = s at b1 b2
      obtain ⟨seen, out⟩ := s
      simp only [List.length_nil, Nat.zero_add] at b1 b2
      have z1 : (iL seen).length < cap := by
        rw [List.length_map]
        unfold cap
        omega
      have z2 : (iL out).length < cap := by
        rw [List.length_map]
        unfold cap
        omega
      simp -implicitDefEqProofs only [Res.bind_ok, Res.bindF_ok, ofO_some, eqB_int, ninB_lI]
      refine Nx.bind (P := fun (t : List D × List D) => t = (iL (cstep (seen, out) l).1, iL (cstep (seen, out) l).2)) ?_ fun t h => by
        subst h
        exact Nx.mk rfl
      unfold cstep
      by_cases q : l = 0
      · simp only [q, decide_true, if_true, z2]
        exact Nx.mk (by simp)
      · simp only [q, decide_false, Bool.false_eq_true, if_false, Res.bindF_ok]
        by_cases m : l ∈ seen
        · simp -implicitDefEqProofs only [m, decide_true, Bool.not_true, Bool.false_eq_true, if_false, if_true, Fl.bind_nx, Mi.tyB, Res.bind_ok, index_lI l seen m (by have : cap = 100000 := rfl; omega), ofO_some, addD_int, Res.bindF_ok, z2]
          exact Nx.mk (by simp)
        · have m2 : l ∈ seen ++ [l] := by simp
          have e : (iL seen ++ [PyData.int l]) = iL (seen ++ [l]) := by simp
          simp -implicitDefEqProofs only [m, decide_false, Bool.not_false, if_true, if_false, z1, Fl.bind_nx, Mi.tyB, Res.bind_ok, e, index_lI l (seen ++ [l]) m2 (by have : cap = 100000 := rfl; simp; omega), ofO_some, addD_int, Res.bindF_ok, z2]
          exact Nx.mk (by simp)
  obtain ⟨d, e, rfl⟩ := main.res
  exact e
theorem p_form (ls : List Int) (h : ls.length ≤ 1000) : m__law_form [.list (iL ls)] = .ok (.tuple (iL (canonP ls))) := p_formD _ ls rfl h
theorem p_form' (ls : List Int) (h : ls.length ≤ 1000) : m__law_form [.tuple (iL ls)] = .ok (.tuple (iL (canonP ls))) := p_formD _ ls rfl h
theorem p_canon (d : D) (ls : List Int) (hd : d = .list (iL ls) ∨ d = .tuple (iL ls)) (h : ls.length ≤ 1000) : m_canonical [d] = .ok (.tuple (iL (canonP ls))) := by
  have hi : itemsD d = some (iL ls) := by rcases hd with rfl | rfl <;> rfl
  have main : Rt (o_canonical d) fun d => d = .tuple (iL (canonP ls)) := by
    unfold o_canonical
    simp -implicitDefEqProofs only [Res.bind_ok, Res.bindF_ok, mkL_nil, ofO_some, hi]
    refine Rt.bind (Nx.loop (fun j (t : List D × List D) => t = (iL ((ls.take j).foldl cstep ([], [])).1, iL ((ls.take j).foldl cstep ([], [])).2)) rfl ?_) ?_
    rotate_left
    · rintro t rfl
      simp -implicitDefEqProofs only [Res.bind_ok, Res.bindF_ok, ofO_some, tupleD]
      refine Rt.mk ?_
      rw [List.length_map, List.take_length]
      rfl
    · rintro j x t hx rfl
      obtain ⟨l, hl, rfl⟩ := iL_at hx
      rw [foldl_take cstep ([], []) ls j l hl]
      have hj := (List.getElem?_eq_some_iff.mp hl).1
      obtain ⟨b1, b2⟩ := cstep_len (ls.take j) ([], []) (Nat.le_refl _)
      rw [List.length_take] at b2
      generalize (ls.take j).foldl cstep ([], []) = s at b1 b2
      obtain ⟨seen, out⟩ := s
      simp only [List.length_nil, Nat.zero_add] at b1 b2
      have z1 : (iL seen).length < cap := by
        rw [List.length_map]
        unfold cap
        omega
      have z2 : (iL out).length < cap := by
        rw [List.length_map]
        unfold cap
        omega
      unfold cstep
      by_cases q : l = 0
      · simp -implicitDefEqProofs only [Res.bind_ok, Res.bindF_ok, ofO_some, eqB_int, neB_int, ninB_lI, q, decide_true, Bool.not_true, Bool.false_eq_true, if_true, if_false, z2, Fl.bind_nx]
        exact Nx.mk (by simp)
      · by_cases m : l ∈ seen
        · simp -implicitDefEqProofs only [Res.bind_ok, Res.bindF_ok, ofO_some, eqB_int, neB_int, ninB_lI, q, m, decide_false, decide_true, Bool.not_true, Bool.not_false, Bool.false_eq_true, if_true, if_false, Fl.bind_nx, Mi.tyB, index_lI l seen m (by have : cap = 100000 := rfl; omega), addD_int, z2]
          exact Nx.mk (by simp)
        · have m2 : l ∈ seen ++ [l] := by simp
          have e : (iL seen ++ [PyData.int l]) = iL (seen ++ [l]) := by simp
          simp -implicitDefEqProofs only [Res.bind_ok, Res.bindF_ok, ofO_some, eqB_int, neB_int, ninB_lI, q, m, decide_false, Bool.not_false, Bool.false_eq_true, if_true, if_false, z1, Fl.bind_nx, Mi.tyB, e, index_lI l (seen ++ [l]) m2 (by have : cap = 100000 := rfl; simp; omega), addD_int, z2]
          exact Nx.mk (by simp)
  obtain ⟨d, e, rfl⟩ := main.res
  exact e
theorem in_alpha (c : Nat) (h : okC c = true) : ninB (.str ⟨#[c]⟩) (.str alpha) = some false := by
  have l : (⟨#[c]⟩ : Str).length = 1 := rfl
  show (if (⟨#[c]⟩ : Str).length = 1 then some (!decide ((⟨#[c]⟩ : Str).cps.toList.getD 0 0 ∈ alpha.cps.toList)) else none) = _
  rw [if_pos l]
  have z : alpha.cps.toList = List.range' 97 26 := by decide +kernel
  have m : (⟨#[c]⟩ : Str).cps.toList.getD 0 0 ∈ alpha.cps.toList := by
    rw [z]
    show c ∈ _
    rw [List.mem_range'_1]
    unfold okC at h
    simp at h
    omega
  rw [decide_eq_true m]
  rfl
theorem p_isname (n : Str) (h : okName n = true) : m_is_name [.str n] = .ok (.bool true) := by
  have main : Rt (o_is_name (.str n)) fun d => d = .bool true := by
    unfold okName at h
    rw [Bool.and_eq_true, Bool.and_eq_true, decide_eq_true_eq, decide_eq_true_eq] at h
    obtain ⟨⟨h1, h2⟩, h3⟩ := h
    have hc : n.length ≤ cap := by
      unfold cap
      omega
    have d1 : ((1 : Int) ≤ ((n.length : Nat) : Int)) := by omega
    have d2 : (((n.length : Nat) : Int) ≤ 8) := by omega
    unfold o_is_name
    simp -implicitDefEqProofs only [Res.bind_ok, Res.bindF_ok, ofO_some, lenD_s n hc, leB_int, d1, d2, decide_true, if_true, Bool.not_true, Bool.false_eq_true, if_false, itemsD]
    refine Rt.bind (Nx.loop (fun j t => True) trivial ?_) fun t _ => Rt.mk rfl
    intro j x t hx _
    unfold chars at hx
    rw [List.getElem?_map] at hx
    obtain ⟨c, h4, rfl⟩ := Option.map_eq_some_iff.mp hx
    have h5 := in_alpha c (List.all_eq_true.mp h3 c (List.mem_of_getElem? h4))
    simp -implicitDefEqProofs only [Res.bind_ok, h5, ofO_some, Res.bindF_ok, Bool.false_eq_true, if_false]
    exact Nx.mk trivial
  obtain ⟨d, e, rfl⟩ := main.res
  exact e
theorem p_arenames (d : D) (names : List Str) (hd : d = .list (sL names) ∨ d = .tuple (sL names)) (g : GoodN names) (hl : names.length ≤ 1000) : m_are_names [d] = .ok (.bool true) := by
  have hi : itemsD d = some (sL names) := by rcases hd with rfl | rfl <;> rfl
  have main : Rt (o_are_names d) fun d => d = .bool true := by
    unfold o_are_names
    simp -implicitDefEqProofs only [Res.bind_ok, Res.bindF_ok, ofO_some, mkL_nil, hi]
    refine Rt.bind (Nx.loop (fun j t => t = sL (names.take j)) rfl ?_) fun t _ => Rt.mk rfl
    rintro j x t hx rfl
    obtain ⟨n, hn, rfl⟩ := sL_at hx
    have hj := (List.getElem?_eq_some_iff.mp hn).1
    have nin : ¬ n ∈ names.take j := fun hm => by
      obtain ⟨i, hi, e⟩ := List.mem_iff_getElem.mp hm
      rw [List.length_take] at hi
      rw [List.getElem_take] at e
      have e2 : names[i]? = names[j]? := by
        rw [hn, List.getElem?_eq_getElem (by omega), e]
      have := (List.getElem?_inj (by omega) g.nd).mp e2
      omega
    have hz : (sL (names.take j)).length < cap := by
      rw [List.length_map, List.length_take]
      unfold cap
      omega
    simp -implicitDefEqProofs only [Res.bind_ok, Res.bindF_ok, ofO_some, p_isname n (g.ok n (List.mem_of_getElem? hn)), asB, Bool.not_true, Bool.false_eq_true, if_false, inB_lS, nin, decide_false, hz, if_true]
    refine Nx.mk ?_
    rw [List.take_succ, hn]
    simp
  obtain ⟨d, e, rfl⟩ := main.res
  exact e
def isNum (codes : List Int) (num : Int) : D → Bool
  | .int k => decide (codes.getD k.toNat 0 = num)
  | _ => false
def nameD (names : List Str) : D → D
  | .int k => (sL names).getD k.toNat .none
  | _ => .none
def pickD (names : List Str) (codes : List Int) (num : Int) : List D := ((rngL 0 codes.length).filter (isNum codes num)).map (nameD names)
def groupsD (names : List Str) (codes : List Int) : Nat → List D
  | 0 => []
  | j + 1 => if 0 < (pickD names codes ((j : Int) + 1)).length then groupsD names codes j ++ [.tuple (pickD names codes ((j : Int) + 1))] else groupsD names codes j
theorem pick_noL (names : List Str) (codes : List Int) (num : Int) : noLs (pickD names codes num) = true := by
  unfold pickD
  have h : ∀ l : List D, noLs (l.map (nameD names)) = true := by
    intro l
    induction l with
    | nil => rfl
    | cons x l ih =>
      show (noL (nameD names x) && noLs (l.map (nameD names))) = true
      rw [ih, Bool.and_true]
      unfold nameD
      split
      · rename_i k
        rw [List.getD_eq_getElem?_getD, List.getElem?_map]
        cases names[k.toNat]? <;> rfl
      · rfl
  exact h _
theorem noLs_app : ∀ xs ys : List D, noLs (xs ++ ys) = (noLs xs && noLs ys)
  | [], ys => by simp [noLs]
  | x :: xs, ys => by
    show (noL x && noLs (xs ++ ys)) = ((noL x && noLs xs) && noLs ys)
    rw [noLs_app xs ys, Bool.and_assoc]
theorem groups_noL (names : List Str) (codes : List Int) : ∀ j, noLs (groupsD names codes j) = true
  | 0 => rfl
  | j + 1 => by
    unfold groupsD
    split
    · rw [noLs_app, groups_noL names codes j]
      show (true && (noLs (pickD names codes ((j : Int) + 1)) && true)) = true
      rw [pick_noL]
      rfl
    · exact groups_noL names codes j
theorem groups_len (names : List Str) (codes : List Int) : ∀ j, (groupsD names codes j).length ≤ j
  | 0 => Nat.le_refl _
  | j + 1 => by
    unfold groupsD
    have := groups_len names codes j
    split
    · simp
      omega
    · omega
theorem p_grouped (names : List Str) (codes : List Int) (hl : codes.length = names.length) (hz : names.length ≤ 1000) : m_grouped [.tuple (sL names), .tuple (iL codes)] = .ok (.tuple (groupsD names codes codes.length)) := by
  have main : Rt (o_grouped (.tuple (sL names)) (.tuple (iL codes))) fun d => d = .tuple (groupsD names codes codes.length) := by
    unfold o_grouped
    have r2 : rng2 (.int 1) (.int ((codes.length : Nat) + 1)) = some (rngL 1 codes.length) := by
      have z := rng2_nat 1 (codes.length + 1) (by omega) (by omega)
      rw [show codes.length + 1 - 1 = codes.length by omega] at z
      push_cast at z
      exact z
    simp -implicitDefEqProofs only [Res.bind_ok, Res.bindF_ok, ofO_some, mkL_nil, lenD_t, List.length_map, addD_int, r2]
    refine Rt.bind (Nx.loop (fun j t => t = groupsD names codes j) rfl ?_) ?_
    rotate_left
    · rintro t rfl
      simp -implicitDefEqProofs only [Res.bind_ok, Res.bindF_ok, ofO_some, tupleD, rngL_len]
      exact Rt.mk rfl
    · rintro j x t hx rfl
      obtain ⟨hj, rfl⟩ := rng_at hx
      have r1 : rng1 (.int (codes.length : Nat)) = some (rngL 0 codes.length) := rng1_nat _ (by omega)
      have lc := lc_some (xs := rngL 0 codes.length) (c := fun v => (ofO (itemD (.tuple (iL codes)) v)).bind fun x => ofO (eqB x (.int (1 + (j : Int))))) (f := fun v => ofO (itemD (.tuple (sL names)) v)) (p := isNum codes ((j : Int) + 1)) (g := nameD names) (by rw [rngL_len]; unfold cap; omega) ?_ ?_
      · simp -implicitDefEqProofs only [Res.bind_ok, Res.bindF_ok, ofO_some, lenD_t, List.length_map, r1, lc, lenD_l]
        refine Nx.bind (P := fun t => t = groupsD names codes (j + 1)) ?_ fun t h => by
          subst h
          exact Nx.mk rfl
        have e : (List.filter (isNum codes ((j : Int) + 1)) (rngL 0 codes.length)).map (nameD names) = pickD names codes ((j : Int) + 1) := rfl
        have e2 : ((List.filter (isNum codes ((j : Int) + 1)) (rngL 0 codes.length)).length : Nat) = (pickD names codes ((j : Int) + 1)).length := by rw [← e, List.length_map]
        have gl := groups_len names codes j
        have hz2 : (groupsD names codes j).length < cap := by
          unfold cap
          omega
        have ge : groupsD names codes (j + 1) = if 0 < (pickD names codes ((j : Int) + 1)).length then groupsD names codes j ++ [.tuple (pickD names codes ((j : Int) + 1))] else groupsD names codes j := rfl
        rw [e, e2, ge]
        by_cases q : 0 < (pickD names codes ((j : Int) + 1)).length
        · have q2 : (0 : Int) < ((pickD names codes ((j : Int) + 1)).length : Nat) := by omega
          simp -implicitDefEqProofs only [gtB_int, ofO_some, Res.bindF_ok, q2, q, decide_true, if_true, tupleD, hz2]
          exact Nx.mk rfl
        · have q2 : ¬ (0 : Int) < ((pickD names codes ((j : Int) + 1)).length : Nat) := by omega
          simp -implicitDefEqProofs only [gtB_int, ofO_some, Res.bindF_ok, q2, q, decide_false, Bool.false_eq_true, if_false]
          exact Nx.mk rfl
      · intro y hy
        obtain ⟨i, hi⟩ := List.mem_iff_getElem?.mp hy
        obtain ⟨h1, rfl⟩ := rng_at hi
        rw [Int.zero_add]
        have h2 : codes[i]? = some (codes.getD i 0) := by rw [List.getD_eq_getElem?_getD, List.getElem?_eq_getElem h1]; rfl
        simp -implicitDefEqProofs only [item_tI h2, ofO_some, Res.bind_ok, eqB_int]
        show Res.ok (decide (codes.getD i 0 = 1 + (j : Int))) = Res.ok (decide (codes.getD (i : Int).toNat 0 = (j : Int) + 1))
        rw [Int.add_comm 1 (j : Int)]
        rfl
      · intro y hy _
        obtain ⟨i, hi⟩ := List.mem_iff_getElem?.mp hy
        obtain ⟨h1, rfl⟩ := rng_at hi
        rw [Int.zero_add]
        have h2 : names[i]? = some names[i] := List.getElem?_eq_getElem (by omega)
        rw [item_tS h2]
        show Res.ok (PyData.str names[i]) = Res.ok ((sL names).getD (i : Int).toNat .none)
        rw [List.getD_eq_getElem?_getD, List.getElem?_map, Int.toNat_natCast, h2]
        rfl
  obtain ⟨d, e, rfl⟩ := main.res
  exact e
/-- a state of the program -/
def regD (names : List Str) (codes : List Int) : D := .dict ((.none, .str "Regions") :: [(.str "names", .tuple (sL names)), (.str "codes", .tuple (iL codes)), (.str "groups", .tuple (groupsD names codes codes.length))])
theorem reg_noL (names : List Str) (codes : List Int) : noL (regD names codes) = true := by
  have h1 : noLs (sL names) = true := by
    induction names with
    | nil => rfl
    | cons n ns ih => exact ih
  have h2 : noLs (iL codes) = true := by
    clear h1
    generalize hn : names = ns
    clear hn
    induction codes with
    | nil => rfl
    | cons n ns ih => exact ih
  have h3 := groups_noL names codes codes.length
  simp only [regD, noL, noLp, h1, h2, h3, Bool.and_self]
/-- n ints that are not below 0, on a list or a tuple -/
structure SeqI (d : D) (ls : List Int) : Prop where
  sq : d = .list (iL ls) ∨ d = .tuple (iL ls)
  nn : ∀ l ∈ ls, 0 ≤ l
theorem SeqI.len {d : D} {ls : List Int} (h : SeqI d ls) : lenD d = some (.int (ls.length : Nat)) := by
  rcases h.sq with rfl | rfl <;> simp [lenD]
theorem SeqI.items {d : D} {ls : List Int} (h : SeqI d ls) : itemsD d = some (iL ls) := by
  rcases h.sq with rfl | rfl <;> rfl
theorem SeqI.no {d : D} {ls : List Int} (h : SeqI d ls) : isNone d = false := by
  rcases h.sq with rfl | rfl <;> rfl
/-- names on a list or a tuple -/
structure SeqS (d : D) (names : List Str) : Prop where
  sq : d = .list (sL names) ∨ d = .tuple (sL names)
  gd : GoodN names
  le : names.length ≤ 6
theorem SeqS.len {d : D} {ls : List Str} (h : SeqS d ls) : lenD d = some (.int (ls.length : Nat)) := by
  rcases h.sq with rfl | rfl <;> simp [lenD]
theorem SeqS.tup {d : D} {ls : List Str} (h : SeqS d ls) : tupleD d = some (.tuple (sL ls)) := by
  rcases h.sq with rfl | rfl <;> rfl
/-- 1, 2, .. n -/
def upto (n : Nat) : List Int := (List.range n).map fun k => ((k : Nat) : Int) + 1
theorem upto_len (n : Nat) : (upto n).length = n := by simp [upto]
theorem reg_go (dn dc : D) (names : List Str) (codes : List Int) (hn : SeqS dn names) (h : SeqI dc codes ∧ codes.length = names.length ∨ dc = .none ∧ codes = upto names.length) : m_Regions [dn, dc] = .ok (regD names (canonP codes)) := by
  have hz := hn.le
  have hg : ¬ (6 : Int) < ((names.length : Nat) : Int) := by omega
  have an := p_arenames dn names hn.sq hn.gd (by omega)
  have main : Nx (o_Regions___init__ dn dc) fun kvs => .dict ((.none, .str "Regions") :: kvs) = regD names (canonP codes) := by
    unfold o_Regions___init__
    simp -implicitDefEqProofs only [Res.bind_ok, hn.len, ofO_some, gtB_int, hg, decide_false, Bool.false_eq_true, if_false, an, asB, Bool.not_true, Res.bindF_ok]
    refine Nx.bind (P := fun d => SeqI d codes ∧ codes.length = names.length) ?_ fun d hd => ?_
    · rcases h with h | ⟨rfl, rfl⟩
      · simp only [h.1.no, Bool.false_eq_true, if_false]
        exact Nx.mk h
      · have r1 : rng1 (.int (names.length : Nat)) = some (rngL 0 names.length) := rng1_nat _ (by omega)
        have lc := lc_all (xs := rngL 0 names.length) (c := fun _ => Res.ok true) (f := fun v => ofO (addD v (.int 1))) (g := fun v => match v with | .int k => .int (k + 1) | _ => .none) (by rw [rngL_len]; unfold cap; omega) (fun _ _ => rfl) fun y hy => by
          obtain ⟨i, hi⟩ := List.mem_iff_getElem?.mp hy
          obtain ⟨h1, rfl⟩ := rng_at hi
          rfl
        simp -implicitDefEqProofs only [isNone, if_true, hn.len, ofO_some, Res.bind_ok, r1, lc, Res.bindF_ok]
        refine Nx.mk ⟨⟨.inl (congrArg PyData.list ?_), fun l hl => ?_⟩, upto_len _⟩
        · unfold rngL upto iL
          rw [List.map_map, List.map_map]
          refine List.map_congr_left fun k _ => ?_
          simp
        · unfold upto at hl
          obtain ⟨k, _, rfl⟩ := List.mem_map.mp hl
          omega
    · obtain ⟨hc, hl⟩ := hd
      have cl := canon_len codes
      have hz := hn.le
      have g1 : getF (([] ++ [(PyData.str "names", .tuple (sL names))]) ++ [(PyData.str "codes", .tuple (iL (canonP codes)))]) "names" = some (.tuple (sL names)) := by
        show (if ("names" : Str) = "names" then _ else _) = _
        rw [if_pos rfl]
      have g2 : getF (([] ++ [(PyData.str "names", .tuple (sL names))]) ++ [(PyData.str "codes", .tuple (iL (canonP codes)))]) "codes" = some (.tuple (iL (canonP codes))) := by
        show (if ("names" : Str) = "codes" then _ else (if ("codes" : Str) = "codes" then _ else _)) = _
        rw [if_neg (by decide), if_pos rfl]
      have le : ((codes.length : Nat) : Int) = ((names.length : Nat) : Int) := by rw [hl]
      simp -implicitDefEqProofs only [Res.bind_ok, hc.len, hn.len, ofO_some, neB_int, le, decide_true, Bool.not_true, Res.bindF_ok, Bool.false_eq_true, if_false, hc.items, hn.tup, p_canon d codes hc.sq (by omega)]
      refine Nx.bind (Nx.loop (fun j (t : Unit) => True) trivial ?_) fun t _ => ?_
      · intro j x t hx _
        obtain ⟨l, h1, rfl⟩ := iL_at hx
        have h2 := hc.nn l (List.mem_of_getElem? h1)
        have h3 : ¬ l < 0 := by omega
        simp -implicitDefEqProofs only [Res.bind_ok, ofO_some, ltB_int, h3, decide_false, Res.bindF_ok, Bool.false_eq_true, if_false]
        exact Nx.mk trivial
      · simp -implicitDefEqProofs only [g1, g2, ofO_some, Res.bind_ok, p_grouped names (canonP codes) (by rw [cl, hl]) (by omega), Res.bindF_ok]
        exact Nx.mk rfl
  obtain ⟨kvs, e, h2⟩ := main
  show ansI (o_Regions___init__ dn dc) "Regions" = _
  rw [e, ← h2]
  rfl
theorem k_tt (xs : List D) : isiT "tuple" (.tuple xs) = some true := by
  show kitB "tuple" "tuple" = _
  decide +kernel
theorem k_ib (i : Int) : isiT "bool" (.int i) = some false := by
  show kitB "int" "bool" = _
  decide +kernel
theorem k_ii (i : Int) : isiT "int" (.int i) = some true := by
  show kitB "int" "int" = _
  decide +kernel
theorem k_is (i : Int) : isiT "str" (.int i) = some false := by
  show kitB "int" "str" = _
  decide +kernel
theorem k_sb (i : Str) : isiT "bool" (.str i) = some false := by
  show kitB "str" "bool" = _
  decide +kernel
theorem k_si (i : Str) : isiT "int" (.str i) = some false := by
  show kitB "str" "int" = _
  decide +kernel
theorem k_ss (i : Str) : isiT "str" (.str i) = some true := by
  show kitB "str" "str" = _
  decide +kernel
theorem k2_i (i : Int) : isiT2 "int" "str" (.int i) = some true := by
  unfold isiT2
  rw [k_ii]
theorem k2_s (i : Str) : isiT2 "int" "str" (.str i) = some true := by
  unfold isiT2
  rw [k_si, k_ss]
theorem p_sameI (d : D) (xs : List Int) (hd : d = .list (iL xs) ∨ d = .tuple (iL xs)) (hz : xs.length ≤ 1000) : m__law_same [.tuple (iL xs), d] = .ok (.bool true) := by
  have hl : lenD d = some (.int (xs.length : Nat)) := by rcases hd with rfl | rfl <;> simp [lenD]
  have hi : ∀ (j : Nat) (x : Int), xs[j]? = some x → itemD d (.int (j : Nat)) = some (.int x) := fun j x h => by
    rcases hd with rfl | rfl
    · exact item_lI h
    · exact item_tI h
  have main : Rt (o__law_same (.tuple (iL xs)) d) fun d => d = .bool true := by
    unfold o__law_same
    simp -implicitDefEqProofs (disch := omega) only [Res.bind_ok, ofO_some, k_tt, Bool.not_true, Bool.false_eq_true, if_false, lenD_t, List.length_map, hl, neB_int, decide_true, Res.bindF_ok, rng1_nat]
    refine Rt.bind (Nx.loop (fun j (t : Unit) => True) trivial ?_) fun t _ => Rt.mk rfl
    intro j x t hx _
    obtain ⟨hj, rfl⟩ := rng_at hx
    rw [Int.zero_add]
    have h1 : xs[j]? = some xs[j] := List.getElem?_eq_getElem hj
    simp -implicitDefEqProofs only [Res.bind_ok, item_tI h1, hi j _ h1, ofO_some, k_ib, k_ii, k_is, k2_i, eqB_bool, neB_int, decide_true, Bool.not_true, Bool.false_eq_true, if_false, Res.bindF_ok]
    exact Nx.mk trivial
  obtain ⟨d, e, rfl⟩ := main.res
  exact e
theorem p_sameS (d : D) (xs : List Str) (hd : d = .list (sL xs) ∨ d = .tuple (sL xs)) (hz : xs.length ≤ 1000) : m__law_same [.tuple (sL xs), d] = .ok (.bool true) := by
  have hl : lenD d = some (.int (xs.length : Nat)) := by rcases hd with rfl | rfl <;> simp [lenD]
  have hi : ∀ (j : Nat) (x : Str), xs[j]? = some x → itemD d (.int (j : Nat)) = some (.str x) := fun j x h => by
    rcases hd with rfl | rfl
    · exact item_lS h
    · exact item_tS h
  have main : Rt (o__law_same (.tuple (sL xs)) d) fun d => d = .bool true := by
    unfold o__law_same
    simp -implicitDefEqProofs (disch := omega) only [Res.bind_ok, ofO_some, k_tt, Bool.not_true, Bool.false_eq_true, if_false, lenD_t, List.length_map, hl, neB_int, decide_true, Res.bindF_ok, rng1_nat]
    refine Rt.bind (Nx.loop (fun j (t : Unit) => True) trivial ?_) fun t _ => Rt.mk rfl
    intro j x t hx _
    obtain ⟨hj, rfl⟩ := rng_at hx
    rw [Int.zero_add]
    have h1 : xs[j]? = some xs[j] := List.getElem?_eq_getElem hj
    have tf : (false == true) = false := rfl
    simp -implicitDefEqProofs only [Res.bind_ok, item_tS h1, hi j _ h1, ofO_some, k_sb, k_si, k_ss, k2_s, eqB_bool, tf, neB_str, decide_true, Bool.not_true, Bool.false_eq_true, if_false, Res.bindF_ok]
    exact Nx.mk trivial
  obtain ⟨d, e, rfl⟩ := main.res
  exact e
theorem attr_names (names : List Str) (codes : List Int) : attrD (regD names codes) "names" = some (.tuple (sL names)) := by
  unfold regD attrD
  simp only [getF, if_true]
theorem attr_codes (names : List Str) (codes : List Int) : attrD (regD names codes) "codes" = some (.tuple (iL codes)) := by
  have h : ¬ ("names" : Str) = "codes" := by decide
  unfold regD attrD
  simp only [getF, h, if_true, if_false]
theorem outL_reg (names : List Str) (codes : List Int) : outL (.ok (regD names codes)) = .ok (regD names codes) := by
  unfold outL
  rw [Res.bind_ok, if_pos (reg_noL names codes)]
theorem canon_upto : ∀ n, n ≤ 6 → canonP (upto n) = upto n := by decide

theorem itemsD_l (xs : List D) : itemsD (.list xs) = some xs := rfl
theorem itemsD_t (xs : List D) : itemsD (.tuple xs) = some xs := rfl
def strAt (names : List Str) (k : Nat) : Str := names.getD k ⟨#[]⟩
theorem strAt_at {names : List Str} {k : Nat} (h : k < names.length) : names[k]? = some (strAt names k) := by
  unfold strAt
  rw [List.getD_eq_getElem?_getD, List.getElem?_eq_getElem h]
  rfl
theorem it_lI {xs : List Int} {i : Int} (h0 : 0 ≤ i) (h : i.toNat < xs.length) : itemD (.list (iL xs)) (.int i) = some (.int (xs.getD i.toNat 0)) := by
  have e : i = ((i.toNat : Nat) : Int) := by omega
  have := item_lI (getD_at h)
  rw [← e] at this
  exact this
theorem it_tI {xs : List Int} {i : Int} (h0 : 0 ≤ i) (h : i.toNat < xs.length) : itemD (.tuple (iL xs)) (.int i) = some (.int (xs.getD i.toNat 0)) := by
  have e : i = ((i.toNat : Nat) : Int) := by omega
  have := item_tI (getD_at h)
  rw [← e] at this
  exact this
theorem it_lS {xs : List Str} {i : Int} (h0 : 0 ≤ i) (h : i.toNat < xs.length) : itemD (.list (sL xs)) (.int i) = some (.str (strAt xs i.toNat)) := by
  have e : i = ((i.toNat : Nat) : Int) := by omega
  have := item_lS (strAt_at h)
  rw [← e] at this
  exact this
theorem it_tS {xs : List Str} {i : Int} (h0 : 0 ≤ i) (h : i.toNat < xs.length) : itemD (.tuple (sL xs)) (.int i) = some (.str (strAt xs i.toNat)) := by
  have e : i = ((i.toNat : Nat) : Int) := by omega
  have := item_tS (strAt_at h)
  rw [← e] at this
  exact this
theorem lc_map {α β : Type} {A : α → D} {B : β → D} {xs : List α} {f : D → Res D} {h : α → β} (hz : xs.length ≤ cap) (hf : ∀ x ∈ xs, f (A x) = .ok (B (h x))) : lcC (xs.map A) (fun _ => .ok true) f = .ok ((xs.map h).map B) := by
  unfold lcC
  rw [if_pos (by rw [List.length_map]; exact hz)]
  clear hz
  induction xs with
  | nil => rfl
  | cons x xs ih =>
    rw [List.map_cons, lcF]
    show (match f (A x) with
      | .ok y => (lcF (xs.map A) _ f).bind fun ys => .ok (y :: ys)
      | _ => .no) = _
    rw [hf x (by simp)]
    show (lcF (xs.map A) _ f).bind _ = _
    rw [ih fun y hy => hf y (by simp [hy])]
    rfl
theorem ite_dec {c : Prop} [Decidable c] (a b : Int) : (if decide c = true then Res.ok (PyData.int a) else Res.ok (PyData.int b)) = Res.ok (PyData.int (if c then a else b)) := by
  by_cases q : c
  · rw [decide_eq_true q, if_pos rfl, if_pos q]
  · rw [decide_eq_false q, if_neg (by decide), if_neg q]
theorem asB_bool (b : Bool) : asB (.bool b) = some b := rfl
theorem intD_bool (b : Bool) : intD (.bool b) = some (.int (if b = true then 1 else 0)) := rfl
theorem blO_bool (b : Bool) : blO (.bool b) = some b := rfl
/-- a comprehension, without a look at its text -/
theorem lc_ok {α β : Type} {A : α → D} {B : β → D} {xs : List α} {c : D → Res Bool} {f : D → Res D} (h : α → β) (hz : xs.length ≤ cap) (hc : ∀ x ∈ xs, c (A x) = .ok true) (hf : ∀ x ∈ xs, f (A x) = .ok (B (h x))) : Ok (lcC (xs.map A) c f) fun ys => ys = (xs.map h).map B := by
  refine ⟨_, ?_, rfl⟩
  have e := lc_all (xs := xs.map A) (c := c) (f := f) (g := fun d => match f d with
    | .ok y => y
    | _ => .none) (by rw [List.length_map]; exact hz) (fun y hy => by
      obtain ⟨x, hx, rfl⟩ := List.mem_map.mp hy
      exact hc x hx) fun y hy => by
      obtain ⟨x, hx, rfl⟩ := List.mem_map.mp hy
      rw [hf x hx]
  rw [e, List.map_map, List.map_map]
  congr 1
  refine List.map_congr_left fun x hx => ?_
  show (match f (A x) with
    | .ok y => y
    | _ => PyData.none) = _
  rw [hf x hx]
  rfl
theorem lc_rng {β : Type} {B : β → D} {n : Nat} {c : D → Res Bool} {f : D → Res D} (h : Nat → β) (hz : n ≤ cap) (hc : ∀ k, k < n → c (.int (k : Nat)) = .ok true) (hf : ∀ k, k < n → f (.int (k : Nat)) = .ok (B (h k))) : Ok (lcC (rngL 0 n) c f) fun ys => ys = ((List.range n).map h).map B := by
  have e : rngL 0 n = (List.range n).map fun k => PyData.int ((k : Nat) : Int) := by
    unfold rngL
    simp
  rw [e]
  exact lc_ok h (by rw [List.length_range]; exact hz) (fun k hk => hc k (List.mem_range.mp hk)) fun k hk => hf k (List.mem_range.mp hk)
theorem rngL_nat (n : Nat) : rngL 0 n = (List.range n).map fun k => PyData.int ((k : Nat) : Int) := by
  unfold rngL
  simp
theorem listR_l (xs : List D) : listR (.list xs) = .ok xs := rfl
theorem listR_t (xs : List D) : listR (.tuple xs) = .ok xs := rfl
theorem setK_some {β τ : Type} (ys : List D) (k : List D → Fl β τ) : setK (some ys) k = k ys := rfl
theorem setI_nat {xs : List D} {j : Int} {d : D} (h0 : 0 ≤ j) (h : j.toNat < xs.length) : setI xs (.int j) d = some (xs.set j.toNat d) := by
  show ((ixN xs.length j).map fun m => xs.set m d) = _
  have e : ixN xs.length j = some j.toNat := by
    unfold ixN
    rw [if_pos (by omega), if_pos (by omega)]
  rw [e]
  rfl
theorem set_iL (xs : List Int) (i : Nat) (v : Int) : (iL xs).set i (.int v) = iL (xs.set i v) := by
  show (xs.map PyData.int).set i (PyData.int v) = (xs.set i v).map PyData.int
  rw [List.map_set]
theorem setI_iL {xs : List Int} {j v : Int} (h0 : 0 ≤ j) (h : j.toNat < xs.length) : setI (iL xs) (.int j) (.int v) = some (iL (xs.set j.toNat v)) := by
  rw [setI_nat h0 (by rw [List.length_map]; exact h), set_iL]
theorem outL_bool (b : Bool) : outL (.ok (.bool b)) = .ok (.bool b) := rfl
theorem isC_reg (names : List Str) (codes : List Int) : isC "Regions" (regD names codes) = true := by
  show decide (("Regions" : Str) = "Regions") = true
  exact decide_eq_true rfl
/-- what a state of names wants -/
structure GN (names : List Str) (codes : List Int) : Prop where
  g : GoodN names
  z : names.length ≤ 6
  l : codes.length = names.length
theorem GN.with {names : List Str} {codes cs : List Int} (h : GN names codes) (l : cs.length = codes.length) : GN names cs := ⟨h.g, h.z, l.trans h.l⟩
theorem GN.canon {names : List Str} {codes : List Int} (h : GN names codes) : GN names (canonP codes) := h.with (canon_len _)
theorem idx_at {names : List Str} (g : GoodN names) {j : Nat} (h : j < names.length) : names.idxOf (strAt names j) = j := by
  have h2 := strAt_at h
  have hm := List.mem_of_getElem? h2
  have hl := List.idxOf_lt_length_of_mem hm
  have e := List.getElem_idxOf hl
  have e2 : names[names.idxOf (strAt names j)]? = names[j]? := by rw [h2, List.getElem?_eq_getElem hl, e]
  exact (List.getElem?_inj hl g.nd).mp e2
theorem strAt_mem {names : List Str} {j : Nat} (h : j < names.length) : strAt names j ∈ names := List.mem_of_getElem? (strAt_at h)
/-- a state made of what it told -/
theorem reg_mk {names : List Str} {codes : List Int} (h : GN names codes) : m_Regions [.tuple (sL names), .tuple (iL codes)] = .ok (regD names (canonP codes)) ∨ ∃ c ∈ codes, c < 0 := by
  by_cases q : ∃ c ∈ codes, c < 0
  · exact .inr q
  · refine .inl (reg_go _ _ names codes ⟨.inr rfl, h.g, by have := h.z; omega⟩ (.inl ⟨⟨.inr rfl, fun l hl => ?_⟩, h.l⟩))
    exact Int.not_lt.mp fun z => q ⟨l, hl, z⟩
theorem reg_canon {names : List Str} {codes : List Int} (h : GN names codes) : m_Regions [.tuple (sL names), .tuple (iL (canonP codes))] = .ok (regD names (canonP codes)) := by
  have := reg_go (.tuple (sL names)) (.tuple (iL (canonP codes))) names (canonP codes) ⟨.inr rfl, h.g, by have := h.z; omega⟩ (.inl ⟨⟨.inr rfl, fun l hl => (canon_bound codes l hl).1⟩, h.canon.l⟩)
  rw [canon_idem] at this
  exact this
theorem p_alone (codes : List Int) (i : Nat) (hi : i < codes.length) (hz : codes.length ≤ 1000) : m_alone [.tuple (iL codes), .int (i : Nat)] = .ok (.tuple (iL (canonP (codes.set i (codes.length + 1))))) := by
  have main : Rt (o_alone (.tuple (iL codes)) (.int (i : Nat))) fun d => d = .tuple (iL (canonP (codes.set i (codes.length + 1)))) := by
    unfold o_alone
    simp -implicitDefEqProofs (maxSteps := 100000000) (disch := omega) only [Res.bind_ok, Res.bindF_ok, Fl.bind_nx, Fl.up_rt, ofO_some, if_true, if_false, Bool.false_eq_true, Bool.not_true, Bool.not_false, decide_true, decide_false, asB_bool, intD_int, intD_bool, blO_bool, eqB_int, neB_int, eqB_bool, neB_bool, eqB_str, neB_str, ltB_int, leB_int, gtB_int, geB_int, addD_int, subD_int, lenD_l, lenD_t, List.length_map, mkL_nil, Int.toNat_natCast, Int.toNat_zero, Int.toNat_one, Int.reduceToNat, isNone, eq_self, and_self, itemsD_l, itemsD_t, listR_t, setI_iL, setK_some, p_canon _ (codes.set i (codes.length + 1)) (.inl rfl) (by rw [List.length_set]; exact hz)]
    exact Rt.mk rfl
  obtain ⟨d, e, rfl⟩ := main.res
  exact e
theorem p_placed (codes : List Int) (i j : Nat) (hi : i < codes.length) (hj : j < codes.length) (hz : codes.length ≤ 1000) : m_placed [.tuple (iL codes), .int (i : Nat), .int (j : Nat)] = .ok (.tuple (iL (canonP (codes.set i (codes.getD j 0))))) := by
  have main : Rt (o_placed (.tuple (iL codes)) (.int (i : Nat)) (.int (j : Nat))) fun d => d = .tuple (iL (canonP (codes.set i (codes.getD j 0)))) := by
    unfold o_placed
    simp -implicitDefEqProofs (maxSteps := 100000000) (disch := omega) only [Res.bind_ok, Res.bindF_ok, Fl.bind_nx, Fl.up_rt, ofO_some, if_true, if_false, Bool.false_eq_true, Bool.not_true, Bool.not_false, decide_true, decide_false, asB_bool, intD_int, intD_bool, blO_bool, eqB_int, neB_int, eqB_bool, neB_bool, eqB_str, neB_str, ltB_int, leB_int, gtB_int, geB_int, addD_int, subD_int, lenD_l, lenD_t, List.length_map, mkL_nil, Int.toNat_natCast, Int.toNat_zero, Int.toNat_one, Int.reduceToNat, isNone, eq_self, and_self, itemsD_l, itemsD_t, listR_t, it_tI, setI_iL, setK_some, p_canon _ (codes.set i (codes.getD j 0)) (.inl rfl) (by rw [List.length_set]; exact hz)]
    exact Rt.mk rfl
  obtain ⟨d, e, rfl⟩ := main.res
  exact e
theorem p_struck (codes : List Int) (i : Nat) (hi : i < codes.length) (hz : codes.length ≤ 1000) : m_struck [.tuple (iL codes), .int (i : Nat)] = .ok (.tuple (iL (struckP codes i))) := by
  have main : Rt (o_struck (.tuple (iL codes)) (.int (i : Nat))) fun d => d = .tuple (iL (struckP codes i)) := by
    unfold o_struck
    have lc := lc_map (A := PyData.int) (B := PyData.int) (xs := codes) (f := fun v => ((ofO (eqB v (.int (codes.getD i 0)))).bind fun k => if k = true then Res.ok (.int 0) else Res.ok v)) (h := fun l => if l = codes.getD i 0 then 0 else l) (by unfold cap; omega) (fun x _ => by
      simp -implicitDefEqProofs (maxSteps := 100000000) only [Res.bind_ok, Res.bindF_ok, Fl.bind_nx, Fl.up_rt, ofO_some, if_true, if_false, Bool.false_eq_true, Bool.not_true, Bool.not_false, decide_true, decide_false, asB_bool, intD_int, intD_bool, blO_bool, eqB_int, neB_int, eqB_bool, neB_bool, eqB_str, neB_str, ltB_int, leB_int, gtB_int, geB_int, addD_int, subD_int, lenD_l, lenD_t, List.length_map, mkL_nil, Int.toNat_natCast, Int.toNat_zero, Int.toNat_one, Int.reduceToNat, isNone, eq_self, and_self, itemsD_l, itemsD_t, ite_dec])
    simp -implicitDefEqProofs (maxSteps := 100000000) (disch := omega) only [Res.bind_ok, Res.bindF_ok, Fl.bind_nx, Fl.up_rt, ofO_some, if_true, if_false, Bool.false_eq_true, Bool.not_true, Bool.not_false, decide_true, decide_false, asB_bool, intD_int, intD_bool, blO_bool, eqB_int, neB_int, eqB_bool, neB_bool, eqB_str, neB_str, ltB_int, leB_int, gtB_int, geB_int, addD_int, subD_int, lenD_l, lenD_t, List.length_map, mkL_nil, Int.toNat_natCast, Int.toNat_zero, Int.toNat_one, Int.reduceToNat, isNone, eq_self, and_self, itemsD_l, itemsD_t, it_tI, lc]
    have e : List.map PyData.int (List.map (fun l => if l = codes.getD i 0 then 0 else l) codes) = iL (goneP codes i) := rfl
    rw [e]
    simp -implicitDefEqProofs (maxSteps := 100000000) only [Res.bind_ok, Res.bindF_ok, Fl.bind_nx, Fl.up_rt, ofO_some, if_true, if_false, Bool.false_eq_true, Bool.not_true, Bool.not_false, decide_true, decide_false, asB_bool, intD_int, intD_bool, blO_bool, eqB_int, neB_int, eqB_bool, neB_bool, eqB_str, neB_str, ltB_int, leB_int, gtB_int, geB_int, addD_int, subD_int, lenD_l, lenD_t, List.length_map, mkL_nil, Int.toNat_natCast, Int.toNat_zero, Int.toNat_one, Int.reduceToNat, isNone, eq_self, and_self, itemsD_l, itemsD_t, p_canon _ (goneP codes i) (.inl rfl) (by unfold goneP; rw [List.length_map]; exact hz)]
    exact Rt.mk rfl
  obtain ⟨d, e, rfl⟩ := main.res
  exact e
theorem p_merged (codes : List Int) (i j : Nat) (hi : i < codes.length) (hj : j < codes.length) (hz : codes.length ≤ 1000) : m_merged [.tuple (iL codes), .int (i : Nat), .int (j : Nat)] = .ok (.tuple (iL (mergedP codes i j))) := by
  have main : Rt (o_merged (.tuple (iL codes)) (.int (i : Nat)) (.int (j : Nat))) fun d => d = .tuple (iL (mergedP codes i j)) := by
    unfold o_merged
    simp -implicitDefEqProofs (maxSteps := 100000000) (disch := omega) only [Res.bind_ok, Res.bindF_ok, Fl.bind_nx, Fl.up_rt, ofO_some, if_true, if_false, Bool.false_eq_true, Bool.not_true, Bool.not_false, decide_true, decide_false, asB_bool, intD_int, intD_bool, blO_bool, eqB_int, neB_int, eqB_bool, neB_bool, eqB_str, neB_str, ltB_int, leB_int, gtB_int, geB_int, addD_int, subD_int, lenD_l, lenD_t, List.length_map, mkL_nil, Int.toNat_natCast, Int.toNat_zero, Int.toNat_one, Int.reduceToNat, isNone, eq_self, and_self, itemsD_l, itemsD_t, it_tI]
    refine Rt.bind (P := fun t : D × D => ∃ a b, t = (.int a, .int b) ∧ joinP codes a b = mergeP codes i j) ?_ ?_
    · unfold mergeP
      by_cases q : codes.getD j 0 = 0
      · rw [if_pos q, decide_eq_true q, if_pos rfl]
        exact Nx.mk ⟨_, _, rfl, rfl⟩
      · rw [if_neg q, decide_eq_false q, if_neg (by decide)]
        exact Nx.mk ⟨_, _, rfl, rfl⟩
    · rintro _ ⟨a, b, rfl, e⟩
      have lc := lc_map (A := PyData.int) (B := PyData.int) (xs := codes) (f := fun v => ((ofO (eqB v (.int b))).bind fun k => if k = true then Res.ok (.int a) else Res.ok v)) (h := fun l => if l = b then a else l) (by unfold cap; omega) (fun x _ => by
        simp -implicitDefEqProofs (maxSteps := 100000000) only [Res.bind_ok, Res.bindF_ok, Fl.bind_nx, Fl.up_rt, ofO_some, if_true, if_false, Bool.false_eq_true, Bool.not_true, Bool.not_false, decide_true, decide_false, asB_bool, intD_int, intD_bool, blO_bool, eqB_int, neB_int, eqB_bool, neB_bool, eqB_str, neB_str, ltB_int, leB_int, gtB_int, geB_int, addD_int, subD_int, lenD_l, lenD_t, List.length_map, mkL_nil, Int.toNat_natCast, Int.toNat_zero, Int.toNat_one, Int.reduceToNat, isNone, eq_self, and_self, itemsD_l, itemsD_t, ite_dec])
      have e2 : List.map PyData.int (List.map (fun l => if l = b then a else l) codes) = iL (mergeP codes i j) := by rw [← e]; rfl
      simp -implicitDefEqProofs (maxSteps := 100000000) only [Res.bind_ok, Res.bindF_ok, Fl.bind_nx, Fl.up_rt, ofO_some, if_true, if_false, Bool.false_eq_true, Bool.not_true, Bool.not_false, decide_true, decide_false, asB_bool, intD_int, intD_bool, blO_bool, eqB_int, neB_int, eqB_bool, neB_bool, eqB_str, neB_str, ltB_int, leB_int, gtB_int, geB_int, addD_int, subD_int, lenD_l, lenD_t, List.length_map, mkL_nil, Int.toNat_natCast, Int.toNat_zero, Int.toNat_one, Int.reduceToNat, isNone, eq_self, and_self, itemsD_l, itemsD_t, lc, e2, p_canon _ (mergeP codes i j) (.inl rfl) (by rw [merge_len]; exact hz)]
      exact Rt.mk rfl
  obtain ⟨d, e, rfl⟩ := main.res
  exact e
theorem p_gone (ls : List Int) (i : Nat) (hi : i < ls.length) (hz : ls.length ≤ 1000) : m__law_gone [.list (iL ls), .int (i : Nat)] = .ok (.list (iL (goneP ls i))) := by
  have main : Rt (o__law_gone (.list (iL ls)) (.int (i : Nat))) fun d => d = .list (iL (goneP ls i)) := by
    unfold o__law_gone
    have lc := lc_map (A := PyData.int) (B := PyData.int) (xs := ls) (f := fun v => ((ofO (eqB v (.int (ls.getD i 0)))).bind fun k => if k = true then Res.ok (.int 0) else Res.ok v)) (h := fun l => if l = ls.getD i 0 then 0 else l) (by unfold cap; omega) (fun x _ => by
      simp -implicitDefEqProofs (maxSteps := 100000000) only [Res.bind_ok, Res.bindF_ok, Fl.bind_nx, Fl.up_rt, ofO_some, if_true, if_false, Bool.false_eq_true, Bool.not_true, Bool.not_false, decide_true, decide_false, asB_bool, intD_int, intD_bool, blO_bool, eqB_int, neB_int, eqB_bool, neB_bool, eqB_str, neB_str, ltB_int, leB_int, gtB_int, geB_int, addD_int, subD_int, lenD_l, lenD_t, List.length_map, mkL_nil, Int.toNat_natCast, Int.toNat_zero, Int.toNat_one, Int.reduceToNat, isNone, eq_self, and_self, itemsD_l, itemsD_t, ite_dec])
    simp -implicitDefEqProofs (maxSteps := 100000000) (disch := omega) only [Res.bind_ok, Res.bindF_ok, Fl.bind_nx, Fl.up_rt, ofO_some, if_true, if_false, Bool.false_eq_true, Bool.not_true, Bool.not_false, decide_true, decide_false, asB_bool, intD_int, intD_bool, blO_bool, eqB_int, neB_int, eqB_bool, neB_bool, eqB_str, neB_str, ltB_int, leB_int, gtB_int, geB_int, addD_int, subD_int, lenD_l, lenD_t, List.length_map, mkL_nil, Int.toNat_natCast, Int.toNat_zero, Int.toNat_one, Int.reduceToNat, isNone, eq_self, and_self, itemsD_l, itemsD_t, it_lI, lc]
    exact Rt.mk rfl
  obtain ⟨d, e, rfl⟩ := main.res
  exact e
theorem p_tie (ls : List Int) (i j : Nat) (hi : i < ls.length) (hj : j < ls.length) (hz : ls.length ≤ 1000) : m__law_tie [.list (iL ls), .int (i : Nat), .int (j : Nat)] = .ok (.list (iL (tieP ls i j))) := by
  have main : Rt (o__law_tie (.list (iL ls)) (.int (i : Nat)) (.int (j : Nat))) fun d => d = .list (iL (tieP ls i j)) := by
    unfold o__law_tie
    simp -implicitDefEqProofs (maxSteps := 100000000) (disch := omega) only [Res.bind_ok, Res.bindF_ok, Fl.bind_nx, Fl.up_rt, ofO_some, if_true, if_false, Bool.false_eq_true, Bool.not_true, Bool.not_false, decide_true, decide_false, asB_bool, intD_int, intD_bool, blO_bool, eqB_int, neB_int, eqB_bool, neB_bool, eqB_str, neB_str, ltB_int, leB_int, gtB_int, geB_int, addD_int, subD_int, lenD_l, lenD_t, List.length_map, mkL_nil, Int.toNat_natCast, Int.toNat_zero, Int.toNat_one, Int.reduceToNat, isNone, eq_self, and_self, itemsD_l, itemsD_t, it_lI]
    refine Rt.bind (P := fun t : D × D => ∃ a b, t = (.int a, .int b) ∧ joinP ls a b = tieP ls i j) ?_ ?_
    · unfold tieP
      by_cases q : ls.getD j 0 < ls.getD i 0
      · rw [if_pos q, decide_eq_true q, if_pos rfl]
        exact Nx.mk ⟨_, _, rfl, rfl⟩
      · rw [if_neg q, decide_eq_false q, if_neg (by decide)]
        exact Nx.mk ⟨_, _, rfl, rfl⟩
    · rintro _ ⟨a, b, rfl, e⟩
      have lc := lc_map (A := PyData.int) (B := PyData.int) (xs := ls) (f := fun v => ((ofO (eqB v (.int b))).bind fun k => if k = true then Res.ok (.int a) else Res.ok v)) (h := fun l => if l = b then a else l) (by unfold cap; omega) (fun x _ => by
        simp -implicitDefEqProofs (maxSteps := 100000000) only [Res.bind_ok, Res.bindF_ok, Fl.bind_nx, Fl.up_rt, ofO_some, if_true, if_false, Bool.false_eq_true, Bool.not_true, Bool.not_false, decide_true, decide_false, asB_bool, intD_int, intD_bool, blO_bool, eqB_int, neB_int, eqB_bool, neB_bool, eqB_str, neB_str, ltB_int, leB_int, gtB_int, geB_int, addD_int, subD_int, lenD_l, lenD_t, List.length_map, mkL_nil, Int.toNat_natCast, Int.toNat_zero, Int.toNat_one, Int.reduceToNat, isNone, eq_self, and_self, itemsD_l, itemsD_t, ite_dec])
      have e2 : List.map PyData.int (List.map (fun l => if l = b then a else l) ls) = iL (tieP ls i j) := by rw [← e]; rfl
      simp -implicitDefEqProofs (maxSteps := 100000000) only [Res.bind_ok, Res.bindF_ok, Fl.bind_nx, Fl.up_rt, ofO_some, if_true, if_false, Bool.false_eq_true, Bool.not_true, Bool.not_false, decide_true, decide_false, asB_bool, intD_int, intD_bool, blO_bool, eqB_int, neB_int, eqB_bool, neB_bool, eqB_str, neB_str, ltB_int, leB_int, gtB_int, geB_int, addD_int, subD_int, lenD_l, lenD_t, List.length_map, mkL_nil, Int.toNat_natCast, Int.toNat_zero, Int.toNat_one, Int.reduceToNat, isNone, eq_self, and_self, itemsD_l, itemsD_t, lc, e2]
      exact Rt.mk rfl
  obtain ⟨d, e, rfl⟩ := main.res
  exact e
theorem it_0 (a : D) (l : List D) : itemD (.list (a :: l)) (.int 0) = some a := at_nat (j := 0) rfl
theorem it_1 (a b : D) (l : List D) : itemD (.list (a :: b :: l)) (.int 1) = some b := at_nat (j := 1) rfl
theorem it_2 (a b c : D) (l : List D) : itemD (.list (a :: b :: c :: l)) (.int 2) = some c := at_nat (j := 2) rfl
theorem it_3 (a b c d : D) (l : List D) : itemD (.list (a :: b :: c :: d :: l)) (.int 3) = some d := at_nat (j := 3) rfl
theorem iso_reg (names : List Str) (codes : List Int) (b : Bool) (ks : List (Str × Bool)) : isiO (("Regions", b) :: ks) (regD names codes) = some b := by
  show List.lookup ("Regions" : Str) (("Regions", b) :: ks) = some b
  simp
theorem p_is {names : List Str} {codes : List Int} (h : GN names codes) (d e : D) (ls : List Int) (hd : d = .list (sL names) ∨ d = .tuple (sL names)) (hl : ls.length ≤ 1000) (hc : canonP ls = codes) : m__law_is [regD names codes, d, .list (iL ls)] = .ok (.bool true) := by
  have z := h.z
  have l := h.l
  have main : Rt (o__law_is (regD names codes) d (.list (iL ls))) fun d => d = .bool true := by
    unfold o__law_is
    simp -implicitDefEqProofs (maxSteps := 100000000) only [Res.bind_ok, Res.bindF_ok, Fl.bind_nx, Fl.up_rt, ofO_some, if_true, if_false, Bool.false_eq_true, Bool.not_true, Bool.not_false, decide_true, decide_false, asB_bool, intD_int, intD_bool, blO_bool, eqB_int, neB_int, eqB_bool, neB_bool, eqB_str, neB_str, ltB_int, leB_int, gtB_int, geB_int, addD_int, subD_int, lenD_l, lenD_t, List.length_map, mkL_nil, Int.toNat_natCast, Int.toNat_zero, Int.toNat_one, Int.reduceToNat, isNone, eq_self, and_self, itemsD_l, itemsD_t, iso_reg, attr_names, attr_codes, p_sameS d names hd (by omega), p_form ls hl, hc, p_sameI (.tuple (iL codes)) codes (.inr rfl) (by omega)]
    exact Rt.mk rfl
  obtain ⟨d, e, rfl⟩ := main.res
  exact e
/-- a row of ints, as a list or as a tuple -/
def IsI (d : D) (xs : List Int) : Prop := d = .list (iL xs) ∨ d = .tuple (iL xs)
theorem IsI.len {d : D} {xs : List Int} (h : IsI d xs) : lenD d = some (.int (xs.length : Nat)) := by
  rcases h with rfl | rfl <;> simp [lenD]
theorem IsI.it {d : D} {xs : List Int} (h : IsI d xs) {i : Nat} (hi : i < xs.length) : itemD d (.int (i : Nat)) = some (.int (xs.getD i 0)) := by
  rcases h with rfl | rfl
  · exact item_lI (getD_at hi)
  · exact item_tI (getD_at hi)
noncomputable def finB (xs ys : List Int) : Bool := @decide (Finer xs ys) (Classical.propDecidable _)
theorem finB_yes {xs ys : List Int} (h : Finer xs ys) : finB xs ys = true := @decide_eq_true _ (Classical.propDecidable _) h
theorem finB_no {xs ys : List Int} (h : ¬ Finer xs ys) : finB xs ys = false := @decide_eq_false _ (Classical.propDecidable _) h
theorem finB_eq {xs ys zs ws : List Int} (h : Finer xs ys ↔ Finer zs ws) : finB xs ys = finB zs ws := by
  by_cases q : Finer xs ys
  · rw [finB_yes q, finB_yes (h.mp q)]
  · rw [finB_no q, finB_no fun z => q (h.mpr z)]
def rowOk (xs ys : List Int) (i : Nat) : Prop := (xs.getD i 0 = 0 → ys.getD i 0 = 0) ∧ ∀ j, j < i → xs.getD j 0 = xs.getD i 0 → ys.getD j 0 = ys.getD i 0
theorem eqB_tI (xs ys : List Int) : eqB (.tuple (iL xs)) (.tuple (iL ys)) = some (decide (xs = ys)) := by
  have h : eqOk (.tuple (iL xs)) (.tuple (iL ys)) = true := by
    have d := depth_iL xs
    have e : PyData.depth (.tuple (iL xs)) = PyData.depthAll (iL xs) + 1 := rfl
    simp [eqOk, PyData.plain, plain_iL, e]
    omega
  unfold eqB
  rw [if_pos h, PyData.eqv, eqvAll_iL]
theorem neB_tI (xs ys : List Int) : neB (.tuple (iL xs)) (.tuple (iL ys)) = some (!decide (xs = ys)) := by
  have h : eqOk (.tuple (iL xs)) (.tuple (iL ys)) = true := by
    have d := depth_iL xs
    have e : PyData.depth (.tuple (iL xs)) = PyData.depthAll (iL xs) + 1 := rfl
    simp [eqOk, PyData.plain, plain_iL, e]
    omega
  unfold neB
  rw [if_pos h, PyData.eqv, eqvAll_iL]
theorem eqB_tS (xs ys : List Str) : eqB (.tuple (sL xs)) (.tuple (sL ys)) = some (decide (xs = ys)) := by
  have h : eqOk (.tuple (sL xs)) (.tuple (sL ys)) = true := by
    have d := depth_sL xs
    have e : PyData.depth (.tuple (sL xs)) = PyData.depthAll (sL xs) + 1 := rfl
    simp [eqOk, PyData.plain, plain_sL, e]
    omega
  unfold eqB
  rw [if_pos h, PyData.eqv, eqvAll_sL]
theorem neB_tS (xs ys : List Str) : neB (.tuple (sL xs)) (.tuple (sL ys)) = some (!decide (xs = ys)) := by
  have h : eqOk (.tuple (sL xs)) (.tuple (sL ys)) = true := by
    have d := depth_sL xs
    have e : PyData.depth (.tuple (sL xs)) = PyData.depthAll (sL xs) + 1 := rfl
    simp [eqOk, PyData.plain, plain_sL, e]
    omega
  unfold neB
  rw [if_pos h, PyData.eqv, eqvAll_sL]
theorem iso_reg' (names : List Str) (codes : List Int) (b : Bool) (ks : List (Str × Bool)) : isiO (("Regions", b) :: ks) (regD names codes) = some b := by
  show List.lookup ("Regions" : Str) (("Regions", b) :: ks) = some b
  simp
theorem cmpOk_reg (names : List Str) (codes : List Int) : cmpOk "Regions" (regD names codes) = true := isC_reg names codes
noncomputable def goodB (xs ys : List Int) : Bool := @decide (Good xs ys) (Classical.propDecidable _)
theorem goodB_yes {xs ys : List Int} (h : Good xs ys) : goodB xs ys = true := @decide_eq_true _ (Classical.propDecidable _) h
theorem goodB_no {xs ys : List Int} (h : ¬ Good xs ys) : goodB xs ys = false := @decide_eq_false _ (Classical.propDecidable _) h
theorem goodB_eq {xs ys zs ws : List Int} (h : Good xs ys ↔ Good zs ws) : goodB xs ys = goodB zs ws := by
  by_cases q : Good xs ys
  · rw [goodB_yes q, goodB_yes (h.mp q)]
  · rw [goodB_no q, goodB_no fun z => q (h.mpr z)]
theorem notB_bool (k j : Bool) : notB k (.bool j) = some (!decide (j = k)) := rfl
theorem isB_bool (k j : Bool) : isB k (.bool j) = some (decide (j = k)) := rfl
theorem k_bb (b : Bool) : isiT "bool" (.bool b) = some true := by
  show kitB "bool" "bool" = _
  decide +kernel
theorem Ok.out {α β : Type} {r : Res α} {k : α → Res β} {x : α} {y : β} (h : Ok r fun z => z = x) (hk : k x = .ok y) : r.bind k = .ok y := by
  obtain ⟨z, e, rfl⟩ := h
  rw [e]
  exact hk
theorem canon_bound2 (ls : List Int) : ∀ c ∈ canonP ls, 0 ≤ c ∧ c ≤ (canonP ls).length := fun c hc => by
  rw [canon_len]
  exact canon_bound ls c hc
theorem cut_map {α : Type} (f : α → D) (xs : List α) (lo hi : Option Int) : cutL (xs.map f) lo hi = (cutL xs lo hi).map f := by
  unfold cutL
  rw [List.length_map, List.map_take, List.map_drop]
theorem cut_1 {α : Type} (xs : List α) : cutL xs (some 1) none = xs.drop 1 := by
  unfold cutL
  rw [HT.sIx_none, show (1 : Int) = ((1 : Nat) : Int) from rfl, HT.sIx_nat]
  cases xs with
  | nil => rfl
  | cons x xs => simp
theorem slice1S (xs : List Str) : sliceR (.list (sL xs)) (some 1) none = .ok (sL (xs.drop 1)) := by
  show Res.ok (cutL (sL xs) (some 1) none) = _
  rw [cut_map, cut_1]
theorem slice1I (xs : List Int) : sliceR (.list (iL xs)) (some 1) none = .ok (iL (xs.drop 1)) := by
  show Res.ok (cutL (iL xs) (some 1) none) = _
  rw [cut_map, cut_1]
theorem GoodN.drop {names : List Str} (g : GoodN names) (k : Nat) : GoodN (names.drop k) := ⟨g.nd.sublist (List.drop_sublist k names), fun n h => g.ok n (List.mem_of_mem_drop h)⟩
theorem GoodN.rev {names : List Str} (g : GoodN names) : GoodN names.reverse := ⟨by rw [List.nodup_iff_pairwise_ne] at *; exact (List.pairwise_reverse.mpr (g.nd.imp fun h => h.symm)), fun n h => g.ok n (List.mem_reverse.mp h)⟩
theorem rev_map (names : List Str) : ((List.range names.length).map fun k => strAt names (names.length - 1 - k)) = names.reverse := by
  refine List.ext_getElem (by simp) fun i h1 h2 => ?_
  rw [List.length_map, List.length_range] at h1
  rw [List.getElem_map, List.getElem_range, List.getElem_reverse]
  have := strAt_at (names := names) (k := names.length - 1 - i) (by omega)
  rw [List.getElem?_eq_getElem (by omega)] at this
  exact (Option.some.inj this).symm
theorem rev_ne {names : List Str} (g : GoodN names) (h : 1 < names.length) : ¬ names = names.reverse := fun e => by
  have a : names[0]? = names.reverse[0]? := congrArg (fun z : List Str => z[0]?) e
  rw [List.getElem?_reverse (by omega)] at a
  have := (List.getElem?_inj (by omega) g.nd).mp a
  omega
theorem drop_ne {names : List Str} (h : 0 < names.length) : ¬ names = names.drop 1 := fun e => by
  have := congrArg List.length e
  rw [List.length_drop] at this
  omega
theorem rowOk_up {other cs cs' : List Int} (h : Finer cs cs') {k : Nat} (hk : k < cs.length) (r : rowOk other cs k) : rowOk other cs' k := ⟨fun e => (h k hk).1 (r.1 e), fun j hj e => (h k hk).2 j hj (r.2 j hj e)⟩
/-- on the way to the least state above both -/
structure Cof (codes other : List Int) (i : Nat) (cs : List Int) : Prop where
  l : cs.length = codes.length
  nn : ∀ c ∈ cs, 0 ≤ c
  up : Finer codes cs
  lo : ∀ ab : List Int, ab.length = codes.length → Finer codes ab → Finer other ab → Finer cs ab
  rw_ : ∀ k, k < i → rowOk other cs k
theorem Cof.go {codes other cs cs' : List Int} {i : Nat} (h : Cof codes other i cs) (l : cs'.length = cs.length) (nn : ∀ c ∈ cs', 0 ≤ c) (up : Finer cs cs') (lo : ∀ ab : List Int, ab.length = cs.length → Finer cs ab → Finer other ab → Finer cs' ab) (hi : i ≤ cs.length) : Cof codes other i cs' :=
  ⟨l.trans h.l, nn, h.up.trans up h.l, fun ab la a b => lo ab (la.trans h.l.symm) (h.lo ab la a b) b, fun k hk => rowOk_up up (by omega) (h.rw_ k hk)⟩
def rowG (xs ys : List Int) (i : Nat) : Prop := ys.getD i 0 ≠ 0 → xs.getD i 0 ≠ 0 ∧ ∀ j, j < i → ys.getD j 0 ≠ 0 → xs.getD i 0 = xs.getD j 0 → ys.getD i 0 = ys.getD j 0
theorem rowG_good {xs ys : List Int} (h : ∀ i, i < xs.length → rowG xs ys i) : Good xs ys := fun i hi e => ⟨(h i hi e).1, fun j hj f q => by
  rcases Nat.lt_trichotomy i j with c | c | c
  · exact ((h j hj f).2 i c e q.symm).symm
  · subst c
    rfl
  · exact (h i hi e).2 j c f q⟩
theorem pick_mod {many : Nat} (h : 0 < many) (v : Int) : ∃ i : Nat, i < many ∧ modD (.int v) (.int (many : Nat)) = some (.int (i : Nat)) := by
  have p1 := Int.emod_nonneg v (b := (many : Int)) (by omega)
  have p2 := Int.emod_lt_of_pos v (b := (many : Int)) (by omega)
  exact ⟨(v % (many : Int)).toNat, by omega, by rw [modD_ok (by omega), Int.toNat_of_nonneg p1]⟩
theorem beq_rfl' (b : Bool) : (b == b) = true := by cases b <;> rfl
theorem popK_nat {β τ : Type} {ys : List D} {i : Nat} {d : D} (k : D → List D → Fl β τ) (h : ys[i]? = some d) (hz : i < 1000000) : popK ys (.int (i : Nat)) k = k d (ys.eraseIdx i) := by
  have c : 0 ≤ ((i : Nat) : Int) ∧ ((i : Nat) : Int) < 2 ^ 62 := ⟨Int.natCast_nonneg i, Int.lt_trans (by omega : ((i : Nat) : Int) < 1000000) (by decide)⟩
  delta popK
  dsimp only
  rw [if_pos c, Int.toNat_natCast, h]
theorem strsD_sL (xs : List Str) : strsD (sL xs) = some xs := by
  induction xs with
  | nil => rfl
  | cons x xs ih =>
    show (strsD (sL xs)).map _ = _
    rw [ih]
    rfl
theorem sum_mk1 (ms : List Nat) : ((ms.map mk1).map (·.length)).sum = ms.length := by
  induction ms with
  | nil => rfl
  | cons m r ih =>
    rw [List.map_cons, List.map_cons, List.sum_cons, ih, show (mk1 m).length = 1 from rfl, List.length_cons]
    omega
theorem joinK_mk (ms : List Nat) (h : ms.length ≤ 1000) : joinK "," (ms.map mk1) = some (.str (tx (joinC ms))) := by
  rw [lit_comma, ← join_mk]
  unfold joinK
  rw [if_pos (by rw [sum_mk1, List.length_map, show (tx [44]).length = 1 from rfl]; omega)]
theorem joinD_l (ms : List Nat) (h : ms.length ≤ 1000) : joinD "," (.list (mL ms)) = some (.str (tx (joinC ms))) := by
  show (strsD (sL (ms.map mk1))).bind (joinK ",") = _
  rw [strsD_sL, Option.bind_some, joinK_mk ms h]
theorem joinD_t (ms : List Nat) (h : ms.length ≤ 1000) : joinD "," (.tuple (mL ms)) = some (.str (tx (joinC ms))) := by
  show (strsD (sL (ms.map mk1))).bind (joinK ",") = _
  rw [strsD_sL, Option.bind_some, joinK_mk ms h]
theorem add_tx (a b : List Nat) (h : a.length + b.length ≤ cap) : addD (.str (tx a)) (.str (tx b)) = some (.str (tx (a ++ b))) := by
  rw [addS_ok (by rw [tx_len, tx_len]; exact h), tx_app]
theorem lc_rngF {n : Nat} {c : D → Res Bool} {f : D → Res D} (p : Nat → Bool) (hz : n ≤ cap) (hc : ∀ k, k < n → c (.int (k : Nat)) = .ok (p k)) (hf : ∀ k, k < n → f (.int (k : Nat)) = .ok (.int (k : Nat))) : lcC (rngL 0 n) c f = .ok (iL (((List.range n).filter p).map fun k => ((k : Nat) : Int))) := by
  have e : rngL 0 n = (List.range n).map fun k => PyData.int ((k : Nat) : Int) := by
    unfold rngL
    simp
  have lc := lc_some (xs := rngL 0 n) (c := c) (f := f) (p := fun d => match d with
    | .int k => p k.toNat
    | _ => false) (g := fun d => d) (by rw [rngL_len]; exact hz) (fun x hx => by
      obtain ⟨i, hi⟩ := List.mem_iff_getElem?.mp hx
      obtain ⟨h1, rfl⟩ := rng_at hi
      rw [Int.zero_add, hc i h1]
      rfl) fun x hx _ => by
      obtain ⟨i, hi⟩ := List.mem_iff_getElem?.mp hx
      obtain ⟨h1, rfl⟩ := rng_at hi
      rw [Int.zero_add, hf i h1]
  rw [lc, e, List.filter_map, List.map_map]
  exact congrArg Res.ok (List.map_map (g := PyData.int) (f := fun k : Nat => ((k : Nat) : Int)) (l := (List.range n).filter p)).symm
theorem cut_last {α : Type} (xs : List α) (h : 0 < xs.length) : cutL xs none (some (-1)) = xs.take (xs.length - 1) := by
  unfold cutL
  have e : HT.sIx xs.length xs.length (some (-1)) = xs.length - 1 := by
    show (if (-1 : Int) < 0 then ((-1 : Int) + (xs.length : Int)).toNat else min (Int.toNat (-1)) xs.length) = _
    rw [if_pos (by decide)]
    omega
  rw [e, HT.sIx_none, List.drop_zero, Nat.sub_zero]
theorem take_last {ms : List Nat} {size : Nat} (h : ms.length = size + 1) : ms.take size ++ [ms.getD size 0] = ms := by
  have := List.take_append_getElem (l := ms) (i := size) (by omega)
  rw [List.getD_eq_getElem?_getD, List.getElem?_eq_getElem (by omega)]
  show ms.take size ++ [ms[size]] = ms
  rw [this, List.take_of_length_le (by omega)]
theorem lab0 {ms : List Nat} (ok : ∀ m ∈ ms, okM m) {k : Nat} (h : k < ms.length) : (labs ms).getD k 0 = 0 ↔ ms.getD k 0 = 33 := by
  have o := ok _ (nD_mem h)
  rw [labs_at h]
  generalize ms.getD k 0 = a at *
  unfold labM
  constructor
  · intro e
    split at e
    · assumption
    · split at e
      · omega
      · unfold okM at o
        omega
  · exact fun e => if_pos e
theorem lab_eq {ms : List Nat} (ok : ∀ m ∈ ms, okM m) {j k : Nat} (hj : j < ms.length) (hk : k < ms.length) (n : j ≠ k) : (labs ms).getD j 0 = (labs ms).getD k 0 ↔ ms.getD j 0 = ms.getD k 0 ∧ ms.getD j 0 ≠ 45 := by
  have oj := ok _ (nD_mem hj)
  have ok := ok _ (nD_mem hk)
  rw [labs_at hj, labs_at hk]
  generalize ms.getD j 0 = a at *
  generalize ms.getD k 0 = b at *
  unfold labM
  have ra : a = 33 ∨ a = 45 ∨ (97 ≤ a ∧ a ≤ 122) := oj
  have rb : b = 33 ∨ b = 45 ∨ (97 ≤ b ∧ b ≤ 122) := ok
  clear oj ok
  rcases ra with ra | ra | ra <;> rcases rb with rb | rb | rb
  · rw [if_pos ra, if_pos rb]
    omega
  · rw [if_pos ra, if_neg (by omega), if_pos rb]
    omega
  · rw [if_pos ra, if_neg (by omega), if_neg (by omega)]
    omega
  · rw [if_neg (by omega), if_pos ra, if_pos rb]
    omega
  · rw [if_neg (by omega), if_pos ra, if_neg (by omega), if_pos rb]
    omega
  · rw [if_neg (by omega), if_pos ra, if_neg (by omega), if_neg (by omega)]
    omega
  · rw [if_neg (by omega), if_neg (by omega), if_pos rb]
    omega
  · rw [if_neg (by omega), if_neg (by omega), if_neg (by omega), if_pos rb]
    omega
  · rw [if_neg (by omega), if_neg (by omega), if_neg (by omega), if_neg (by omega)]
    omega
theorem eqB_mk (a b : Nat) : eqB (.str (mk1 a)) (.str (mk1 b)) = some (decide (a = b)) := by rw [eqB_str, mk1_dec]
theorem neB_mk (a b : Nat) : neB (.str (mk1 a)) (.str (mk1 b)) = some (!decide (a = b)) := by rw [neB_str, mk1_dec]
theorem nin_dash (m : Nat) : ninB (.str (mk1 m)) (.list [.str "-", .str "!"]) = some (!(decide (m = 45) || decide (m = 33))) := by
  refine (ninB_lS (mk1 m) ["-", "!"]).trans (congrArg (fun b => some (!b)) ?_)
  rw [← dec_dash, ← dec_bang]
  simp
theorem mkl_2 (a b : D) : mkL [a, b] = some [a, b] := rfl
theorem set_mL {ms : List Nat} {j : Nat} (m : Nat) (h : j < ms.length) : setI (mL ms) (.int (j : Nat)) (.str (mk1 m)) = some (mL (ms.set j m)) := by
  rw [setI_nat (by omega) (by rw [List.length_map, List.length_map]; omega), Int.toNat_natCast, ← List.map_set, ← List.map_set]
theorem gone_up {cs : List Int} {i : Nat} (hi : i < cs.length) : Finer cs (goneP cs i) ∧ (goneP cs i).getD i 0 = 0 ∧ ∀ ab : List Int, ab.length = cs.length → Finer cs ab → ab.getD i 0 = 0 → Finer (goneP cs i) ab := by
  obtain ⟨a, b, c⟩ := struck_up hi
  have e : Eqv (struckP cs i) (goneP cs i) := canon_eqv _
  have l1 := struck_len cs i
  have l2 := gone_len cs i
  exact ⟨a.eqv (by omega) (Eqv.refl _) e, (e.zero (by omega)).mp b, fun ab l f z => (c ab l f z).eqv (by omega) e (Eqv.refl _)⟩
theorem tie_up {cs : List Int} (hn : ∀ c ∈ cs, 0 ≤ c) {i j : Nat} (hi : i < cs.length) (hj : j < cs.length) : Finer cs (tieP cs i j) ∧ (tieP cs i j).getD i 0 = (tieP cs i j).getD j 0 ∧ ∀ ab : List Int, ab.length = cs.length → Finer cs ab → ab.getD i 0 = ab.getD j 0 → Finer (tieP cs i j) ab := by
  obtain ⟨a, b, c⟩ := merged_up hi hj
  have e : Eqv (mergedP cs i j) (tieP cs i j) := (canon_eqv _).trans ((Eqv.refl cs).tieP hn hi hj)
  have l1 := merged_len cs i j
  have l2 := tie_len cs i j
  exact ⟨a.eqv (by omega) (Eqv.refl _) e, (e.tie (by omega) (by omega)).mp b, fun ab l f z => (c ab l f z).eqv (by omega) e (Eqv.refl _)⟩
theorem gone_nonneg {ls : List Int} (h : ∀ l ∈ ls, 0 ≤ l) (i : Nat) : ∀ l ∈ goneP ls i, 0 ≤ l := fun l hl => by
  unfold goneP at hl
  obtain ⟨m, hm, rfl⟩ := List.mem_map.mp hl
  have := h m hm
  split <;> omega
theorem gone_le {ls : List Int} {M : Int} (h0 : 0 ≤ M) (h : ∀ l ∈ ls, l ≤ M) (i : Nat) : ∀ l ∈ goneP ls i, l ≤ M := fun l hl => by
  unfold goneP at hl
  obtain ⟨m, hm, rfl⟩ := List.mem_map.mp hl
  have := h m hm
  split <;> omega
theorem tie_le {ls : List Int} {M : Int} (h : ∀ l ∈ ls, l ≤ M) {i j : Nat} (hi : i < ls.length) (hj : j < ls.length) : ∀ l ∈ tieP ls i j, l ≤ M := fun l hl => by
  obtain ⟨k, hk, rfl⟩ := Pu.mem_getD hl
  rw [tie_len] at hk
  rw [tie_getD hk]
  have a := h _ (Pu.getD_mem hi)
  have b := h _ (Pu.getD_mem hj)
  have c := h _ (Pu.getD_mem hk)
  split <;> split <;> assumption
def BdP (codes cs : List Int) : Prop := ∀ M : Int, 0 ≤ M → (∀ c ∈ codes, c ≤ M) → ∀ c ∈ cs, c ≤ M
theorem Finer.anti {xs ys : List Int} (h : Finer xs ys) (k : Finer ys xs) (l : ys.length = xs.length) : Eqv xs ys := h.good.anti k.good l
theorem noX_ok (d : D) : noX (.ok d) = .ok d := rfl
def natL (js : List Nat) : List D := js.map fun j => PyData.int ((j : Nat) : Int)
theorem it_0t (a : D) (l : List D) : itemD (.tuple (a :: l)) (.int 0) = some a := at_nat (j := 0) rfl
theorem it_1t (a b : D) (l : List D) : itemD (.tuple (a :: b :: l)) (.int 1) = some b := at_nat (j := 1) rfl
theorem it_2t (a b c : D) (l : List D) : itemD (.tuple (a :: b :: c :: l)) (.int 2) = some c := at_nat (j := 2) rfl
theorem it_3t (a b c d : D) (l : List D) : itemD (.tuple (a :: b :: c :: d :: l)) (.int 3) = some d := at_nat (j := 3) rfl
theorem nat_at {js : List Nat} {i : Nat} (h : i < js.length) : (natL js)[i]? = some (.int (js.getD i 0 : Nat)) := by
  unfold natL
  rw [List.getElem?_map, List.getElem?_eq_getElem h]
  simp [List.getD_eq_getElem?_getD, List.getElem?_eq_getElem h]
theorem it_lN {js : List Nat} {i : Nat} (h : i < js.length) : itemD (.list (natL js)) (.int (i : Nat)) = some (.int (js.getD i 0 : Nat)) := at_nat (nat_at h)
theorem it_lN' {js : List Nat} {i : Nat} (h : i < js.length) : (Res.ok (.list (natL js))).bind (fun x => (Res.ok (.int (i : Nat))).bind fun y => ofO (itemD x y)) = .ok (.int (js.getD i 0 : Nat)) := by
  show ofO (itemD (.list (natL js)) (.int (i : Nat))) = _
  rw [it_lN h]
  rfl
theorem it_lN0 {js : List Nat} (h : 0 < js.length) : itemD (.list (natL js)) (.int 0) = some (.int (js.getD 0 0 : Nat)) := it_lN (i := 0) h
theorem it_lN1 {js : List Nat} (h : 1 < js.length) : itemD (.list (natL js)) (.int 1) = some (.int (js.getD 1 0 : Nat)) := it_lN (i := 1) h
/-- a loop that returns at the first of its kind -/
def firstR {β : Type} (o : Option D) : Fl β Unit := match o with
  | some d => .rt d
  | none => .nx ()
theorem find_loop {α β : Type} {A : α → D} {p : α → Bool} {ret : α → D} {f : D → Unit → Fl Unit Unit} : ∀ {l : List α}, (∀ x ∈ l, f (A x) () = if p x = true then .rt (ret x) else .nx ()) → (loopF (l.map A) () f : Fl β Unit) = firstR ((l.find? p).map ret)
  | [], _ => rfl
  | x :: l, h => by
    have h1 := h x (by simp)
    rw [List.map_cons, loopF, h1]
    by_cases c : p x = true
    · rw [if_pos c, List.find?_cons_of_pos (by simpa using c)]
      rfl
    · rw [if_neg c, List.find?_cons_of_neg (by simpa using c)]
      exact find_loop fun y hy => h y (by simp [hy])
theorem p_ment {w : Str} {ds : List D} (h1 : ¬ w = "if") (h2 : ¬ w = "loop") (h3 : ¬ w = "call") (h4 : ¬ w = "get") : m_mentioned [.tuple (.str w :: ds)] = .ok (.tuple ds) := by
  have main : Rt (o_mentioned (.tuple (.str w :: ds))) fun d => d = .tuple ds := by
    unfold o_mentioned
    have i2 : inB (.str w) (.tuple [.str "if", .str "loop"]) = some false := (inB_tS w ["if", "loop"]).trans (congrArg some (by simp [h1, h2]))
    have sl : sliceD (.tuple (.str w :: ds)) (some 1) none = some (.tuple ds) := by
      show some (PyData.tuple (cutL _ _ _)) = _
      rw [cut_1]
      rfl
    simp -implicitDefEqProofs (maxSteps := 100000000) only [Res.bind_ok, Res.bindF_ok, Fl.bind_nx, Fl.up_rt, ofO_some, if_true, if_false, Bool.false_eq_true, Bool.not_true, Bool.not_false, decide_true, decide_false, asB_bool, intD_int, intD_bool, blO_bool, eqB_int, neB_int, eqB_bool, neB_bool, eqB_str, neB_str, ltB_int, leB_int, gtB_int, geB_int, addD_int, subD_int, lenD_l, lenD_t, List.length_map, mkL_nil, Int.toNat_natCast, Int.toNat_zero, Int.toNat_one, Int.reduceToNat, isNone, eq_self, and_self, itemsD_l, itemsD_t, it_0t, mkl_2, i2, h3, h4, asI_ok, sl]
    exact Rt.mk rfl
  obtain ⟨d, e, rfl⟩ := main.res
  exact e
theorem p_ment_get (x y k : D) : m_mentioned [.tuple [.str "get", x, y, k]] = .ok (.tuple [x, y]) := by
  have main : Rt (o_mentioned (.tuple [.str "get", x, y, k])) fun d => d = .tuple [x, y] := by
    unfold o_mentioned
    have i2 : inB (.str "get") (.tuple [.str "if", .str "loop"]) = some false := by decide +kernel
    have h3 : ¬ ("get" : Str) = "call" := by decide
    have sl : sliceD (.tuple [.str "get", x, y, k]) (some 1) (some 3) = some (.tuple [x, y]) := rfl
    simp -implicitDefEqProofs (maxSteps := 100000000) only [Res.bind_ok, Res.bindF_ok, Fl.bind_nx, Fl.up_rt, ofO_some, if_true, if_false, Bool.false_eq_true, Bool.not_true, Bool.not_false, decide_true, decide_false, asB_bool, intD_int, intD_bool, blO_bool, eqB_int, neB_int, eqB_bool, neB_bool, eqB_str, neB_str, ltB_int, leB_int, gtB_int, geB_int, addD_int, subD_int, lenD_l, lenD_t, List.length_map, mkL_nil, Int.toNat_natCast, Int.toNat_zero, Int.toNat_one, Int.reduceToNat, isNone, eq_self, and_self, itemsD_l, itemsD_t, it_0t, mkl_2, i2, h3, asI_ok, sl]
    exact Rt.mk rfl
  obtain ⟨d, e, rfl⟩ := main.res
  exact e
theorem p_ment_call (f t : D) (as : List D) : m_mentioned [.tuple [.str "call", f, .tuple as, t]] = .ok (.tuple as) := by
  have main : Rt (o_mentioned (.tuple [.str "call", f, .tuple as, t])) fun d => d = .tuple as := by
    unfold o_mentioned
    have i2 : inB (.str "call") (.tuple [.str "if", .str "loop"]) = some false := by decide +kernel
    have tt : tupleD (.tuple as) = some (.tuple as) := rfl
    simp -implicitDefEqProofs (maxSteps := 100000000) only [Res.bind_ok, Res.bindF_ok, Fl.bind_nx, Fl.up_rt, ofO_some, if_true, if_false, Bool.false_eq_true, Bool.not_true, Bool.not_false, decide_true, decide_false, asB_bool, intD_int, intD_bool, blO_bool, eqB_int, neB_int, eqB_bool, neB_bool, eqB_str, neB_str, ltB_int, leB_int, gtB_int, geB_int, addD_int, subD_int, lenD_l, lenD_t, List.length_map, mkL_nil, Int.toNat_natCast, Int.toNat_zero, Int.toNat_one, Int.reduceToNat, isNone, eq_self, and_self, itemsD_l, itemsD_t, it_0t, it_2t, mkl_2, i2, tt]
    exact Rt.mk rfl
  obtain ⟨d, e, rfl⟩ := main.res
  exact e
theorem p_ment_if {w : Str} (h : w = "if" ∨ w = "loop") (ds : List D) : m_mentioned [.tuple (.str w :: ds)] = .ok (.tuple []) := by
  have main : Rt (o_mentioned (.tuple (.str w :: ds))) fun d => d = .tuple [] := by
    unfold o_mentioned
    have i2 : inB (.str w) (.tuple [.str "if", .str "loop"]) = some true := (inB_tS w ["if", "loop"]).trans (congrArg some (by simpa using h))
    simp -implicitDefEqProofs (maxSteps := 100000000) only [Res.bind_ok, Res.bindF_ok, Fl.bind_nx, Fl.up_rt, ofO_some, if_true, if_false, Bool.false_eq_true, Bool.not_true, Bool.not_false, decide_true, decide_false, asB_bool, intD_int, intD_bool, blO_bool, eqB_int, neB_int, eqB_bool, neB_bool, eqB_str, neB_str, ltB_int, leB_int, gtB_int, geB_int, addD_int, subD_int, lenD_l, lenD_t, List.length_map, mkL_nil, Int.toNat_natCast, Int.toNat_zero, Int.toNat_one, Int.reduceToNat, isNone, eq_self, and_self, itemsD_l, itemsD_t, it_0t, mkl_2, i2]
    exact Rt.mk rfl
  obtain ⟨d, e, rfl⟩ := main.res
  exact e
def stepD (names : List Str) (sig : D) (w : Str) (sp nd : List Nat) (tg : D) : D := .dict ((.none, .str "Step") :: [(.str "names", .tuple (sL names)), (.str "signature", sig), (.str "word", .str w), (.str "spots", .list (natL sp)), (.str "needs", .list (natL nd)), (.str "target", tg)])
section
variable (names : List Str) (sig : D) (w : Str) (sp nd : List Nat) (tg : D)
theorem st_names : attrD (stepD names sig w sp nd tg) "names" = some (.tuple (sL names)) := rfl
theorem st_sig : attrD (stepD names sig w sp nd tg) "signature" = some sig := rfl
theorem st_word : attrD (stepD names sig w sp nd tg) "word" = some (.str w) := rfl
theorem st_spots : attrD (stepD names sig w sp nd tg) "spots" = some (.list (natL sp)) := rfl
theorem st_needs : attrD (stepD names sig w sp nd tg) "needs" = some (.list (natL nd)) := rfl
theorem st_target : attrD (stepD names sig w sp nd tg) "target" = some tg := rfl
theorem isC_st : isC "Step" (stepD names sig w sp nd tg) = true := rfl
end
/-- which places a word demands -/
def demP (w : Str) : List Nat := if w = "use" then [0] else if w = "send" then [0] else if w = "post" then [0] else if w = "put" then [0, 1] else if w = "cut" then [0] else if w = "get" then [1] else []
def wordP (w : Str) (cp : Bool) : Str := if cp = true ∧ w = "send" then "post" else w
theorem tget_dem (w : Str) : tgetD tb_DEMANDED (.str w) (.tuple []) = some (.tuple (natL (demP w))) := by
  have key : (tb_DEMANDED.lookup w).getD (.tuple []) = .tuple (natL (demP w)) := by
    unfold tb_DEMANDED demP
    simp only [List.lookup_cons, List.lookup_nil]
    by_cases h1 : w = "use"
    · subst h1; rfl
    by_cases h2 : w = "send"
    · subst h2; rfl
    by_cases h3 : w = "post"
    · subst h3; rfl
    by_cases h4 : w = "put"
    · subst h4; rfl
    by_cases h5 : w = "cut"
    · subst h5; rfl
    by_cases h6 : w = "get"
    · subst h6; rfl
    simp only [beq_eq_false_iff_ne.mpr h1, beq_eq_false_iff_ne.mpr h2, beq_eq_false_iff_ne.mpr h3, beq_eq_false_iff_ne.mpr h4, beq_eq_false_iff_ne.mpr h5, beq_eq_false_iff_ne.mpr h6, if_neg h1, if_neg h2, if_neg h3, if_neg h4, if_neg h5, if_neg h6]
    rfl
  show some _ = _
  rw [key]
theorem gf_word (a b c : D) : getF [(.str "names", a), (.str "signature", b), (.str "word", c)] "word" = some c := rfl
theorem gf_names (a b c : D) : getF [(.str "names", a), (.str "signature", b), (.str "word", c)] "names" = some a := rfl
theorem gf_word4 (a b c d : D) : getF [(.str "names", a), (.str "signature", b), (.str "word", c), (.str "spots", d)] "word" = some c := rfl
theorem gf_spots4 (a b c d : D) : getF [(.str "names", a), (.str "signature", b), (.str "word", c), (.str "spots", d)] "spots" = some d := rfl
theorem gf_word6 (a b c d e f : D) : getF [(.str "names", a), (.str "signature", b), (.str "word", c), (.str "spots", d), (.str "needs", e), (.str "target", f)] "word" = some c := rfl
theorem gf_spots6 (a b c d e f : D) : getF [(.str "names", a), (.str "signature", b), (.str "word", c), (.str "spots", d), (.str "needs", e), (.str "target", f)] "spots" = some d := rfl
theorem gf_names6 (a b c d e f : D) : getF [(.str "names", a), (.str "signature", b), (.str "word", c), (.str "spots", d), (.str "needs", e), (.str "target", f)] "names" = some a := rfl
theorem p_Step (dn : D) (names : List Str) (hn : SeqS dn names) (w : Str) (ds : List D) (sig : D) (cp : Bool) (js : List Nat) (hj : ∀ j ∈ js, j < names.length) (hm : m_mentioned [.tuple (.str w :: ds)] = .ok (.tuple (js.map fun j => .str (strAt names j)))) (hw : ¬ w = "call")
    (hd : ∀ a ∈ demP (wordP w cp), a < js.length) (hl : js.length ≤ 1000) : m_Step [dn, .tuple (.str w :: ds), sig, .bool cp] = .ok (stepD names sig (wordP w cp) js ((demP (wordP w cp)).map fun a => js.getD a 0) .none) := by
  have hz := hn.le
  have cl : cap = 100000 := rfl
  have hw2 : ¬ wordP w cp = "call" := by
    unfold wordP
    split
    · decide
    · exact hw
  have dl : (demP (wordP w cp)).length ≤ 2 := by
    unfold demP
    repeat' split
    all_goals decide
  have e1 : (js.map fun j => PyData.int ((id j : Nat) : Int)) = natL js := rfl
  have main : Nx (o_Step___init__ dn (.tuple (.str w :: ds)) sig (.bool cp)) fun kvs => .dict ((.none, .str "Step") :: kvs) = stepD names sig (wordP w cp) js ((demP (wordP w cp)).map fun a => js.getD a 0) .none := by
    unfold o_Step___init__
    simp -implicitDefEqProofs (maxSteps := 100000000) only [Res.bind_ok, Res.bindF_ok, Fl.bind_nx, Fl.up_rt, ofO_some, if_true, if_false, Bool.false_eq_true, Bool.not_true, Bool.not_false, decide_true, decide_false, asB_bool, intD_int, intD_bool, blO_bool, eqB_int, neB_int, eqB_bool, neB_bool, eqB_str, neB_str, ltB_int, leB_int, gtB_int, geB_int, addD_int, subD_int, lenD_l, lenD_t, List.length_map, mkL_nil, Int.toNat_natCast, Int.toNat_zero, Int.toNat_one, Int.reduceToNat, isNone, eq_self, and_self, itemsD_l, itemsD_t, hn.tup, it_0t, gf_word]
    refine Nx.bind (P := fun d => d = .str (wordP w cp)) ?_ fun d hd => ?_
    · cases cp
      · simp -implicitDefEqProofs (maxSteps := 100000000) only [Res.bind_ok, Res.bindF_ok, Fl.bind_nx, Fl.up_rt, ofO_some, if_true, if_false, Bool.false_eq_true, Bool.not_true, Bool.not_false, decide_true, decide_false, asB_bool, intD_int, intD_bool, blO_bool, eqB_int, neB_int, eqB_bool, neB_bool, eqB_str, neB_str, ltB_int, leB_int, gtB_int, geB_int, addD_int, subD_int, lenD_l, lenD_t, List.length_map, mkL_nil, Int.toNat_natCast, Int.toNat_zero, Int.toNat_one, Int.reduceToNat, isNone, eq_self, and_self, itemsD_l, itemsD_t]
        exact Nx.mk rfl
      · simp -implicitDefEqProofs (maxSteps := 100000000) only [Res.bind_ok, Res.bindF_ok, Fl.bind_nx, Fl.up_rt, ofO_some, if_true, if_false, Bool.false_eq_true, Bool.not_true, Bool.not_false, decide_true, decide_false, asB_bool, intD_int, intD_bool, blO_bool, eqB_int, neB_int, eqB_bool, neB_bool, eqB_str, neB_str, ltB_int, leB_int, gtB_int, geB_int, addD_int, subD_int, lenD_l, lenD_t, List.length_map, mkL_nil, Int.toNat_natCast, Int.toNat_zero, Int.toNat_one, Int.reduceToNat, isNone, eq_self, and_self, itemsD_l, itemsD_t]
        by_cases c : w = "send"
        · subst c
          simp -implicitDefEqProofs (maxSteps := 100000000) only [Res.bind_ok, Res.bindF_ok, Fl.bind_nx, Fl.up_rt, ofO_some, if_true, if_false, Bool.false_eq_true, Bool.not_true, Bool.not_false, decide_true, decide_false, asB_bool, intD_int, intD_bool, blO_bool, eqB_int, neB_int, eqB_bool, neB_bool, eqB_str, neB_str, ltB_int, leB_int, gtB_int, geB_int, addD_int, subD_int, lenD_l, lenD_t, List.length_map, mkL_nil, Int.toNat_natCast, Int.toNat_zero, Int.toNat_one, Int.reduceToNat, isNone, eq_self, and_self, itemsD_l, itemsD_t]
          exact Nx.mk rfl
        · simp -implicitDefEqProofs (maxSteps := 100000000) only [Res.bind_ok, Res.bindF_ok, Fl.bind_nx, Fl.up_rt, ofO_some, if_true, if_false, Bool.false_eq_true, Bool.not_true, Bool.not_false, decide_true, decide_false, asB_bool, intD_int, intD_bool, blO_bool, eqB_int, neB_int, eqB_bool, neB_bool, eqB_str, neB_str, ltB_int, leB_int, gtB_int, geB_int, addD_int, subD_int, lenD_l, lenD_t, List.length_map, mkL_nil, Int.toNat_natCast, Int.toNat_zero, Int.toNat_one, Int.reduceToNat, isNone, eq_self, and_self, itemsD_l, itemsD_t, c]
          refine Nx.mk ?_
          unfold wordP
          rw [if_neg (by simp [c])]
    · subst hd
      simp -implicitDefEqProofs (maxSteps := 100000000) only [Res.bind_ok, Res.bindF_ok, Fl.bind_nx, Fl.up_rt, ofO_some, if_true, if_false, Bool.false_eq_true, Bool.not_true, Bool.not_false, decide_true, decide_false, asB_bool, intD_int, intD_bool, blO_bool, eqB_int, neB_int, eqB_bool, neB_bool, eqB_str, neB_str, ltB_int, leB_int, gtB_int, geB_int, addD_int, subD_int, lenD_l, lenD_t, List.length_map, mkL_nil, Int.toNat_natCast, Int.toNat_zero, Int.toNat_one, Int.reduceToNat, isNone, eq_self, and_self, itemsD_l, itemsD_t, hm, gf_names]
      rw [lc_map (xs := js) (A := fun j => .str (strAt names j)) (B := fun j => .int ((j : Nat) : Int)) (h := fun j => j) (by omega) ?hf]
      case hf =>
        intro j hx
        have h1 := hj j hx
        simp -implicitDefEqProofs (maxSteps := 100000000) only [Res.bind_ok, Res.bindF_ok, Fl.bind_nx, Fl.up_rt, ofO_some, if_true, if_false, Bool.false_eq_true, Bool.not_true, Bool.not_false, decide_true, decide_false, asB_bool, intD_int, intD_bool, blO_bool, eqB_int, neB_int, eqB_bool, neB_bool, eqB_str, neB_str, ltB_int, leB_int, gtB_int, geB_int, addD_int, subD_int, lenD_l, lenD_t, List.length_map, mkL_nil, Int.toNat_natCast, Int.toNat_zero, Int.toNat_one, Int.reduceToNat, isNone, eq_self, and_self, itemsD_l, itemsD_t, Mi.tyB, index_tS _ names (strAt_mem h1) (by omega), idx_at hn.gd h1]
      rw [List.map_id']
      simp only [Res.bind_ok, Res.bindF_ok, gf_word4, ofO_some, mkL_nil, tget_dem, itemsD_t, gf_spots4]
      unfold natL
      rw [lc_map (xs := demP (wordP w cp)) (A := fun j => .int ((j : Nat) : Int)) (B := fun j => .int ((j : Nat) : Int)) (h := fun a => js.getD a 0) (by omega) ?hg]
      case hg =>
        intro j hx
        exact it_lN' (hd j hx)
      simp -implicitDefEqProofs (maxSteps := 100000000) only [Res.bind_ok, Res.bindF_ok, Fl.bind_nx, Fl.up_rt, ofO_some, if_true, if_false, Bool.false_eq_true, Bool.not_true, Bool.not_false, decide_true, decide_false, asB_bool, intD_int, intD_bool, blO_bool, eqB_int, neB_int, eqB_bool, neB_bool, eqB_str, neB_str, ltB_int, leB_int, gtB_int, geB_int, addD_int, subD_int, lenD_l, lenD_t, List.length_map, mkL_nil, Int.toNat_natCast, Int.toNat_zero, Int.toNat_one, Int.reduceToNat, isNone, eq_self, and_self, itemsD_l, itemsD_t, gf_word6, hw2]
      exact Nx.mk rfl
  obtain ⟨kvs, e, h2⟩ := main
  show ansI (o_Step___init__ dn (.tuple (.str w :: ds)) sig (.bool cp)) "Step" = _
  rw [e, ← h2]
  rfl
def awayP (codes : List Int) (a : Nat) : Bool := decide (codes.getD a 0 = 0)
def stopD (o : Option (Str × Nat)) : D := match o with
  | none => .none
  | some (w, j) => .tuple [.str w, .int ((j : Nat) : Int)]
theorem it_tN {codes : List Int} {i : Nat} (h : i < codes.length) : itemD (.tuple (iL codes)) (.int (i : Nat)) = some (.int (codes.getD i 0)) := it_tI (i := (i : Int)) (by omega) (by simpa using h)
theorem p_stop {names : List Str} {sig tg : D} {w : Str} {sp nd : List Nat} {codes : List Int} (hd : ∀ a ∈ nd, a < codes.length) (hw : ¬ w = "call") : m_Step_stop_at [stepD names sig w sp nd tg, .tuple (iL codes)] = .ok (stopD ((nd.find? (awayP codes)).map fun a => ("away", a))) := by
  have main : Rt (o_Step_stop_at (stepD names sig w sp nd tg) (.tuple (iL codes))) fun d => d = stopD ((nd.find? (awayP codes)).map fun a => ("away", a)) := by
    unfold o_Step_stop_at
    simp -implicitDefEqProofs (maxSteps := 100000000) only [Res.bind_ok, Res.bindF_ok, Fl.bind_nx, Fl.up_rt, ofO_some, if_true, if_false, Bool.false_eq_true, Bool.not_true, Bool.not_false, decide_true, decide_false, asB_bool, intD_int, intD_bool, blO_bool, eqB_int, neB_int, eqB_bool, neB_bool, eqB_str, neB_str, ltB_int, leB_int, gtB_int, geB_int, addD_int, subD_int, lenD_l, lenD_t, List.length_map, mkL_nil, Int.toNat_natCast, Int.toNat_zero, Int.toNat_one, Int.reduceToNat, isNone, eq_self, and_self, itemsD_l, itemsD_t, st_needs, itemsD_l]
    unfold natL
    rw [find_loop (A := fun j => PyData.int ((j : Nat) : Int)) (p := awayP codes) (ret := fun j => .tuple [.str "away", .int ((j : Nat) : Int)]) ?hf]
    case hf =>
      intro a ha
      simp -implicitDefEqProofs (maxSteps := 100000000) only [Res.bind_ok, Res.bindF_ok, Fl.bind_nx, Fl.up_rt, ofO_some, if_true, if_false, Bool.false_eq_true, Bool.not_true, Bool.not_false, decide_true, decide_false, asB_bool, intD_int, intD_bool, blO_bool, eqB_int, neB_int, eqB_bool, neB_bool, eqB_str, neB_str, ltB_int, leB_int, gtB_int, geB_int, addD_int, subD_int, lenD_l, lenD_t, List.length_map, mkL_nil, Int.toNat_natCast, Int.toNat_zero, Int.toNat_one, Int.reduceToNat, isNone, eq_self, and_self, itemsD_l, itemsD_t, it_tN (hd a ha), mkl_2]
      unfold awayP
      by_cases c : codes.getD a 0 = 0
      · simp -implicitDefEqProofs (maxSteps := 100000000) only [Res.bind_ok, Res.bindF_ok, Fl.bind_nx, Fl.up_rt, ofO_some, if_true, if_false, Bool.false_eq_true, Bool.not_true, Bool.not_false, decide_true, decide_false, asB_bool, intD_int, intD_bool, blO_bool, eqB_int, neB_int, eqB_bool, neB_bool, eqB_str, neB_str, ltB_int, leB_int, gtB_int, geB_int, addD_int, subD_int, lenD_l, lenD_t, List.length_map, mkL_nil, Int.toNat_natCast, Int.toNat_zero, Int.toNat_one, Int.reduceToNat, isNone, eq_self, and_self, itemsD_l, itemsD_t, c, Fl.up_rt]
      · simp -implicitDefEqProofs (maxSteps := 100000000) only [Res.bind_ok, Res.bindF_ok, Fl.bind_nx, Fl.up_rt, ofO_some, if_true, if_false, Bool.false_eq_true, Bool.not_true, Bool.not_false, decide_true, decide_false, asB_bool, intD_int, intD_bool, blO_bool, eqB_int, neB_int, eqB_bool, neB_bool, eqB_str, neB_str, ltB_int, leB_int, gtB_int, geB_int, addD_int, subD_int, lenD_l, lenD_t, List.length_map, mkL_nil, Int.toNat_natCast, Int.toNat_zero, Int.toNat_one, Int.reduceToNat, isNone, eq_self, and_self, itemsD_l, itemsD_t, c]
    cases h : nd.find? (awayP codes) with
    | some a => exact Rt.mk rfl
    | none =>
      simp -implicitDefEqProofs (maxSteps := 100000000) only [Res.bind_ok, Res.bindF_ok, Fl.bind_nx, Fl.up_rt, ofO_some, if_true, if_false, Bool.false_eq_true, Bool.not_true, Bool.not_false, decide_true, decide_false, asB_bool, intD_int, intD_bool, blO_bool, eqB_int, neB_int, eqB_bool, neB_bool, eqB_str, neB_str, ltB_int, leB_int, gtB_int, geB_int, addD_int, subD_int, lenD_l, lenD_t, List.length_map, mkL_nil, Int.toNat_natCast, Int.toNat_zero, Int.toNat_one, Int.reduceToNat, isNone, eq_self, and_self, itemsD_l, itemsD_t, Option.map_none, firstR, Fl.bind_nx, st_word, hw]
      exact Rt.mk rfl
  obtain ⟨d, e, rfl⟩ := main.res
  exact e
theorem p_codes {names : List Str} {sig tg : D} {w : Str} {sp nd : List Nat} (codes : List Int) : m_Step__codes [stepD names sig w sp nd tg, regD names codes] = .ok (.tuple (iL codes)) := by
  have main : Rt (o_Step__codes (stepD names sig w sp nd tg) (regD names codes)) fun d => d = .tuple (iL codes) := by
    unfold o_Step__codes
    simp -implicitDefEqProofs (maxSteps := 100000000) only [Res.bind_ok, Res.bindF_ok, Fl.bind_nx, Fl.up_rt, ofO_some, if_true, if_false, Bool.false_eq_true, Bool.not_true, Bool.not_false, decide_true, decide_false, asB_bool, intD_int, intD_bool, blO_bool, eqB_int, neB_int, eqB_bool, neB_bool, eqB_str, neB_str, ltB_int, leB_int, gtB_int, geB_int, addD_int, subD_int, lenD_l, lenD_t, List.length_map, mkL_nil, Int.toNat_natCast, Int.toNat_zero, Int.toNat_one, Int.reduceToNat, isNone, eq_self, and_self, itemsD_l, itemsD_t, attr_names, attr_codes, st_names, neB_tS]
    exact Rt.mk rfl
  obtain ⟨d, e, rfl⟩ := main.res
  exact e
def demandD (names : List Str) (o : Option (Str × Nat)) : D := match o with
  | none => .none
  | some (w, j) => .tuple [.str w, .str (strAt names j)]
theorem p_demand {names : List Str} {sig tg : D} {w : Str} {sp nd : List Nat} {codes : List Int} {o : Option (Str × Nat)} (h : m_Step_stop_at [stepD names sig w sp nd tg, .tuple (iL codes)] = .ok (stopD o)) (ho : ∀ p ∈ o, p.2 < names.length) : m_Step_demand [stepD names sig w sp nd tg, regD names codes] = .ok (demandD names o) := by
  have main : Rt (o_Step_demand (stepD names sig w sp nd tg) (regD names codes)) fun d => d = demandD names o := by
    unfold o_Step_demand
    simp -implicitDefEqProofs (maxSteps := 100000000) only [Res.bind_ok, Res.bindF_ok, Fl.bind_nx, Fl.up_rt, ofO_some, if_true, if_false, Bool.false_eq_true, Bool.not_true, Bool.not_false, decide_true, decide_false, asB_bool, intD_int, intD_bool, blO_bool, eqB_int, neB_int, eqB_bool, neB_bool, eqB_str, neB_str, ltB_int, leB_int, gtB_int, geB_int, addD_int, subD_int, lenD_l, lenD_t, List.length_map, mkL_nil, Int.toNat_natCast, Int.toNat_zero, Int.toNat_one, Int.reduceToNat, isNone, eq_self, and_self, itemsD_l, itemsD_t, isC_st, p_codes, h]
    cases o with
    | none => exact Rt.mk rfl
    | some p =>
      obtain ⟨r, j⟩ := p
      have hj : j < names.length := ho _ rfl
      have n1 : isNone (stopD (some (r, j))) = false := rfl
      have i0 : itemD (stopD (some (r, j))) (.int 0) = some (.str r) := it_0t _ _
      have i1 : itemD (stopD (some (r, j))) (.int 1) = some (.int ((j : Nat) : Int)) := it_1t _ _ _
      have is : itemD (.tuple (sL names)) (.int (j : Nat)) = some (.str (strAt names j)) := it_tS (i := (j : Int)) (by omega) (by simpa using hj)
      simp -implicitDefEqProofs (maxSteps := 100000000) only [Res.bind_ok, Res.bindF_ok, Fl.bind_nx, Fl.up_rt, ofO_some, if_true, if_false, Bool.false_eq_true, Bool.not_true, Bool.not_false, decide_true, decide_false, asB_bool, intD_int, intD_bool, blO_bool, eqB_int, neB_int, eqB_bool, neB_bool, eqB_str, neB_str, ltB_int, leB_int, gtB_int, geB_int, addD_int, subD_int, lenD_l, lenD_t, List.length_map, mkL_nil, Int.toNat_natCast, Int.toNat_zero, Int.toNat_one, Int.reduceToNat, isNone, eq_self, and_self, itemsD_l, itemsD_t, n1, i0, i1, st_names, is, mkl_2]
      exact Rt.mk rfl
  obtain ⟨d, e, rfl⟩ := main.res
  exact e
def moveP (w : Str) (sp : List Nat) (codes : List Int) : List Int := if w = "new" then canonP (codes.set (sp.getD 0 0) (codes.length + 1)) else if w = "let" ∨ w = "get" then canonP (codes.set (sp.getD 0 0) (codes.getD (sp.getD 1 0) 0)) else if w = "send" then struckP codes (sp.getD 0 0) else if w = "put" then mergedP codes (sp.getD 0 0) (sp.getD 1 0) else codes
/-- how many spots a word needs -/
def manyP (w : Str) : Nat := if w = "new" then 1 else if w = "let" ∨ w = "get" then 2 else if w = "send" then 1 else if w = "put" then 2 else 0
theorem p_move {names : List Str} {sig tg : D} {w : Str} {sp nd : List Nat} {codes : List Int} (hs : ∀ a ∈ sp, a < codes.length) (hz : codes.length ≤ 1000) (hw : ¬ w = "call") (hm : manyP w ≤ sp.length) : m_Step_move [stepD names sig w sp nd tg, .tuple (iL codes)] = .ok (.tuple (iL (moveP w sp codes))) := by
  have at_ : ∀ i, i < sp.length → sp.getD i 0 < codes.length := fun i h => by
    rw [List.getD_eq_getElem?_getD, List.getElem?_eq_getElem h]
    exact hs _ (List.getElem_mem h)
  have main : Rt (o_Step_move (stepD names sig w sp nd tg) (.tuple (iL codes))) fun d => d = .tuple (iL (moveP w sp codes)) := by
    unfold o_Step_move
    have i2 : inB (.str w) (.tuple [.str "let", .str "get"]) = some (decide (w = "let" ∨ w = "get")) := (inB_tS w ["let", "get"]).trans (congrArg some (by simp))
    by_cases c1 : w = "new"
    · have h0 : 0 < sp.length := by
        rw [c1] at hm
        exact hm
      subst c1
      have pa := p_alone codes _ (at_ 0 h0) hz
      simp -implicitDefEqProofs (maxSteps := 100000000) only [Res.bind_ok, Res.bindF_ok, Fl.bind_nx, Fl.up_rt, ofO_some, if_true, if_false, Bool.false_eq_true, Bool.not_true, Bool.not_false, decide_true, decide_false, asB_bool, intD_int, intD_bool, blO_bool, eqB_int, neB_int, eqB_bool, neB_bool, eqB_str, neB_str, ltB_int, leB_int, gtB_int, geB_int, addD_int, subD_int, lenD_l, lenD_t, List.length_map, mkL_nil, Int.toNat_natCast, Int.toNat_zero, Int.toNat_one, Int.reduceToNat, isNone, eq_self, and_self, itemsD_l, itemsD_t, st_word, st_spots, it_lN0 h0, pa]
      exact Rt.mk rfl
    by_cases c2 : w = "let" ∨ w = "get"
    · have h1 : 1 < sp.length := by
        unfold manyP at hm
        rw [if_neg c1, if_pos c2] at hm
        exact hm
      have h0 : 0 < sp.length := by omega
      have pa := p_placed codes _ _ (at_ 0 h0) (at_ 1 h1) hz
      simp -implicitDefEqProofs (maxSteps := 100000000) only [Res.bind_ok, Res.bindF_ok, Fl.bind_nx, Fl.up_rt, ofO_some, if_true, if_false, Bool.false_eq_true, Bool.not_true, Bool.not_false, decide_true, decide_false, asB_bool, intD_int, intD_bool, blO_bool, eqB_int, neB_int, eqB_bool, neB_bool, eqB_str, neB_str, ltB_int, leB_int, gtB_int, geB_int, addD_int, subD_int, lenD_l, lenD_t, List.length_map, mkL_nil, Int.toNat_natCast, Int.toNat_zero, Int.toNat_one, Int.reduceToNat, isNone, eq_self, and_self, itemsD_l, itemsD_t, st_word, c1, mkl_2, i2, c2, st_spots, it_lN0 h0, it_lN1 h1, pa]
      refine Rt.mk ?_
      unfold moveP
      rw [if_neg c1, if_pos c2]
    by_cases c3 : w = "send"
    · have h0 : 0 < sp.length := by
        unfold manyP at hm
        rw [if_neg c1, if_neg c2, if_pos c3] at hm
        exact hm
      have pa := p_struck codes _ (at_ 0 h0) hz
      simp -implicitDefEqProofs (maxSteps := 100000000) only [Res.bind_ok, Res.bindF_ok, Fl.bind_nx, Fl.up_rt, ofO_some, if_true, if_false, Bool.false_eq_true, Bool.not_true, Bool.not_false, decide_true, decide_false, asB_bool, intD_int, intD_bool, blO_bool, eqB_int, neB_int, eqB_bool, neB_bool, eqB_str, neB_str, ltB_int, leB_int, gtB_int, geB_int, addD_int, subD_int, lenD_l, lenD_t, List.length_map, mkL_nil, Int.toNat_natCast, Int.toNat_zero, Int.toNat_one, Int.reduceToNat, isNone, eq_self, and_self, itemsD_l, itemsD_t, st_word, c1, mkl_2, i2, c2]
      subst c3
      simp -implicitDefEqProofs (maxSteps := 100000000) only [Res.bind_ok, Res.bindF_ok, Fl.bind_nx, Fl.up_rt, ofO_some, if_true, if_false, Bool.false_eq_true, Bool.not_true, Bool.not_false, decide_true, decide_false, asB_bool, intD_int, intD_bool, blO_bool, eqB_int, neB_int, eqB_bool, neB_bool, eqB_str, neB_str, ltB_int, leB_int, gtB_int, geB_int, addD_int, subD_int, lenD_l, lenD_t, List.length_map, mkL_nil, Int.toNat_natCast, Int.toNat_zero, Int.toNat_one, Int.reduceToNat, isNone, eq_self, and_self, itemsD_l, itemsD_t, st_spots, it_lN0 h0, pa]
      exact Rt.mk rfl
    by_cases c4 : w = "put"
    · have h1 : 1 < sp.length := by
        unfold manyP at hm
        rw [if_neg c1, if_neg c2, if_neg c3, if_pos c4] at hm
        exact hm
      have h0 : 0 < sp.length := by omega
      have pa := p_merged codes _ _ (at_ 0 h0) (at_ 1 h1) hz
      simp -implicitDefEqProofs (maxSteps := 100000000) only [Res.bind_ok, Res.bindF_ok, Fl.bind_nx, Fl.up_rt, ofO_some, if_true, if_false, Bool.false_eq_true, Bool.not_true, Bool.not_false, decide_true, decide_false, asB_bool, intD_int, intD_bool, blO_bool, eqB_int, neB_int, eqB_bool, neB_bool, eqB_str, neB_str, ltB_int, leB_int, gtB_int, geB_int, addD_int, subD_int, lenD_l, lenD_t, List.length_map, mkL_nil, Int.toNat_natCast, Int.toNat_zero, Int.toNat_one, Int.reduceToNat, isNone, eq_self, and_self, itemsD_l, itemsD_t, st_word, c1, mkl_2, i2, c2, c3]
      subst c4
      simp -implicitDefEqProofs (maxSteps := 100000000) only [Res.bind_ok, Res.bindF_ok, Fl.bind_nx, Fl.up_rt, ofO_some, if_true, if_false, Bool.false_eq_true, Bool.not_true, Bool.not_false, decide_true, decide_false, asB_bool, intD_int, intD_bool, blO_bool, eqB_int, neB_int, eqB_bool, neB_bool, eqB_str, neB_str, ltB_int, leB_int, gtB_int, geB_int, addD_int, subD_int, lenD_l, lenD_t, List.length_map, mkL_nil, Int.toNat_natCast, Int.toNat_zero, Int.toNat_one, Int.reduceToNat, isNone, eq_self, and_self, itemsD_l, itemsD_t, st_spots, it_lN0 h0, it_lN1 h1, pa]
      exact Rt.mk rfl
    · simp -implicitDefEqProofs (maxSteps := 100000000) only [Res.bind_ok, Res.bindF_ok, Fl.bind_nx, Fl.up_rt, ofO_some, if_true, if_false, Bool.false_eq_true, Bool.not_true, Bool.not_false, decide_true, decide_false, asB_bool, intD_int, intD_bool, blO_bool, eqB_int, neB_int, eqB_bool, neB_bool, eqB_str, neB_str, ltB_int, leB_int, gtB_int, geB_int, addD_int, subD_int, lenD_l, lenD_t, List.length_map, mkL_nil, Int.toNat_natCast, Int.toNat_zero, Int.toNat_one, Int.reduceToNat, isNone, eq_self, and_self, itemsD_l, itemsD_t, st_word, c1, mkl_2, i2, c2, c3, c4, hw]
      refine Rt.mk ?_
      unfold moveP
      rw [if_neg c1, if_neg c2, if_neg c3, if_neg c4]
  obtain ⟨d, e, rfl⟩ := main.res
  exact e
theorem moveP_len {w : Str} {sp : List Nat} {codes : List Int} : (moveP w sp codes).length = codes.length := by
  unfold moveP
  repeat' split
  all_goals simp [canon_len, struck_len, merged_len]
theorem moveP_canon {w : Str} {sp : List Nat} {codes : List Int} (h : canonP codes = codes) : canonP (moveP w sp codes) = moveP w sp codes := by
  unfold moveP
  repeat' split
  all_goals first | exact canon_idem _ | exact h
theorem p_total {names : List Str} {sig tg : D} {w : Str} {sp nd : List Nat} {codes cs : List Int} (g : GN names codes) (h : m_Step_move [stepD names sig w sp nd tg, .tuple (iL codes)] = .ok (.tuple (iL cs))) (l : cs.length = codes.length) (hc : canonP cs = cs) : m_Step_total [stepD names sig w sp nd tg, regD names codes] = .ok (regD names cs) := by
  have main : Rt (o_Step_total (stepD names sig w sp nd tg) (regD names codes)) fun d => d = regD names cs := by
    unfold o_Step_total
    have r := reg_canon (g.with l)
    rw [hc] at r
    simp -implicitDefEqProofs (maxSteps := 100000000) only [Res.bind_ok, Res.bindF_ok, Fl.bind_nx, Fl.up_rt, ofO_some, if_true, if_false, Bool.false_eq_true, Bool.not_true, Bool.not_false, decide_true, decide_false, asB_bool, intD_int, intD_bool, blO_bool, eqB_int, neB_int, eqB_bool, neB_bool, eqB_str, neB_str, ltB_int, leB_int, gtB_int, geB_int, addD_int, subD_int, lenD_l, lenD_t, List.length_map, mkL_nil, Int.toNat_natCast, Int.toNat_zero, Int.toNat_one, Int.reduceToNat, isNone, eq_self, and_self, itemsD_l, itemsD_t, isC_st, st_names, p_codes, h, gD_Regions_1_codes, r]
    exact Rt.mk rfl
  obtain ⟨d, e, rfl⟩ := main.res
  exact e
theorem p_go {names : List Str} {sig tg : D} {w : Str} {sp nd : List Nat} {codes cs : List Int} (h1 : m_Step_demand [stepD names sig w sp nd tg, regD names codes] = .ok .none) (h2 : m_Step_total [stepD names sig w sp nd tg, regD names codes] = .ok (regD names cs)) : m_Step___call__ [stepD names sig w sp nd tg, regD names codes] = .ok (regD names cs) := by
  have main : Rt (o_Step___call__ (stepD names sig w sp nd tg) (regD names codes)) fun d => d = regD names cs := by
    unfold o_Step___call__
    simp -implicitDefEqProofs (maxSteps := 100000000) only [Res.bind_ok, Res.bindF_ok, Fl.bind_nx, Fl.up_rt, ofO_some, if_true, if_false, Bool.false_eq_true, Bool.not_true, Bool.not_false, decide_true, decide_false, asB_bool, intD_int, intD_bool, blO_bool, eqB_int, neB_int, eqB_bool, neB_bool, eqB_str, neB_str, ltB_int, leB_int, gtB_int, geB_int, addD_int, subD_int, lenD_l, lenD_t, List.length_map, mkL_nil, Int.toNat_natCast, Int.toNat_zero, Int.toNat_one, Int.reduceToNat, isNone, eq_self, and_self, itemsD_l, itemsD_t, isC_st, h1, h2]
    exact Rt.mk rfl
  obtain ⟨d, e, rfl⟩ := main.res
  exact e
def goD (names : List Str) (o : Option (Str × Nat)) (cs : List Int) : Res D := match o with
  | none => .ok (regD names cs)
  | some (w, a) => .ex "Refused" [.str (strAt names a), .str w]
theorem p_go2 {names : List Str} {sig tg : D} {w : Str} {sp nd : List Nat} {codes cs : List Int} {o : Option (Str × Nat)} (h1 : m_Step_demand [stepD names sig w sp nd tg, regD names codes] = .ok (demandD names o)) (h2 : m_Step_total [stepD names sig w sp nd tg, regD names codes] = .ok (regD names cs)) : m_Step___call__ [stepD names sig w sp nd tg, regD names codes] = goD names o cs := by
  cases o with
  | none => exact p_go h1 h2
  | some p =>
    obtain ⟨u, a⟩ := p
    have h1 : m_Step_demand [stepD names sig w sp nd tg, regD names codes] = .ok (.tuple [.str u, .str (strAt names a)]) := h1
    have i0 : itemD (.tuple [.str u, .str (strAt names a)]) (.int 0) = some (.str u) := it_0t _ _
    have i1 : itemD (.tuple [.str u, .str (strAt names a)]) (.int 1) = some (.str (strAt names a)) := it_1t _ _ _
    have ex : (errX "Refused" 2 [.str u, .str (strAt names a)] : Fl Empty Empty) = .ex "Refused" [.str (strAt names a), .str u] := rfl
    have up : (Fl.ex "Refused" [.str (strAt names a), .str u] : Fl Empty Empty).up = (Fl.ex "Refused" [.str (strAt names a), .str u] : Fl Empty Unit) := rfl
    have nn : isNone (.tuple [.str u, .str (strAt names a)]) = false := rfl
    show (o_Step___call__ (stepD names sig w sp nd tg) (regD names codes)).res = .ex "Refused" [.str (strAt names a), .str u]
    unfold o_Step___call__
    simp -implicitDefEqProofs (maxSteps := 100000000) only [Res.bind_ok, Res.bindF_ok, Fl.bind_nx, Fl.up_rt, ofO_some, if_true, if_false, Bool.false_eq_true, Bool.not_true, Bool.not_false, decide_true, decide_false, asB_bool, intD_int, intD_bool, blO_bool, eqB_int, neB_int, eqB_bool, neB_bool, eqB_str, neB_str, ltB_int, leB_int, gtB_int, geB_int, addD_int, subD_int, lenD_l, lenD_t, List.length_map, mkL_nil, Int.toNat_natCast, Int.toNat_zero, Int.toNat_one, Int.reduceToNat, isNone, eq_self, and_self, itemsD_l, itemsD_t, isC_st, h1, nn, i0, i1, ex, up]
    rfl
theorem fold_loop {α σ β τ : Type} {A : α → D} {B : σ → τ} {step : σ → α → σ} {f : D → τ → Fl τ τ} {I : σ → Prop} : ∀ {l : List α}, (∀ a ∈ l, ∀ s, I s → I (step s a) ∧ f (A a) (B s) = .nx (B (step s a))) → ∀ s, I s → (loopF (l.map A) (B s) f : Fl β τ) = .nx (B (l.foldl step s)) ∧ I (l.foldl step s)
  | [], _, s, i => ⟨rfl, i⟩
  | a :: l, h, s, i => by
    obtain ⟨h1, h2⟩ := h a (by simp) s i
    rw [List.map_cons, loopF, h2]
    exact fold_loop (fun b hb => h b (by simp [hb])) (step s a) h1
theorem nx_fold {α σ β τ : Type} {A : α → D} {B : σ → τ} {step : σ → α → σ} {f : D → τ → Fl τ τ} {I : σ → Prop} (l : List α) (s : σ) (i : I s) (h : ∀ a ∈ l, ∀ s, I s → I (step s a) ∧ f (A a) (B s) = .nx (B (step s a))) : Nx (loopF (l.map A) (B s) f : Fl β τ) fun t => t = B (l.foldl step s) := ⟨_, (fold_loop h s i).1, rfl⟩
theorem idx_mk (M : List Nat) (m : Nat) : (M.map mk1).idxOf (mk1 m) = M.idxOf m := by
  induction M with
  | nil => rfl
  | cons a M ih =>
    have e : (mk1 a == mk1 m) = (a == m) := by
      by_cases c : a = m
      · subst c; simp
      · have c2 : ¬ mk1 a = mk1 m := fun z => c (mk1_inj z)
        rw [beq_eq_false_iff_ne.mpr c, beq_eq_false_iff_ne.mpr c2]
    rw [List.map_cons, List.idxOf_cons, List.idxOf_cons, e, ih]
theorem index_mT {M : List Nat} {m : Nat} (h : m ∈ M) (z : M.length ≤ cap) : indexD (.tuple (mL M)) (.str (mk1 m)) = some (.int (M.idxOf m : Nat)) := by
  rw [← idx_mk]
  exact index_tS _ _ (List.mem_map_of_mem h) (by simpa using z)
theorem in_mT (M : List Nat) (m : Nat) : inB (.str (mk1 m)) (.tuple (mL M)) = some (decide (m ∈ M)) := by
  rw [inB_tS]
  congr 1
  by_cases c : m ∈ M
  · rw [decide_eq_true c, decide_eq_true (List.mem_map_of_mem c)]
  · rw [decide_eq_false c]
    refine decide_eq_false fun z => c ?_
    obtain ⟨a, ha, e⟩ := List.mem_map.mp z
    rw [← mk1_inj e]
    exact ha
theorem nin_dashT (m : Nat) : ninB (.str (mk1 m)) (.tuple [.str "-", .str "!"]) = some (isLet m) := by
  refine (ninB_tS (mk1 m) ["-", "!"]).trans (congrArg some ?_)
  have h1 := dec_dash m
  have h2 := dec_bang m
  unfold isLet
  rw [← h1, ← h2]
  simp
theorem neB_mkD (m : Nat) : neB (.str (mk1 m)) (.str "-") = some (!decide (m = 45)) := by rw [neB_str, dec_dash]
theorem eqB_mkB (m : Nat) : eqB (.str (mk1 m)) (.str "!") = some (decide (m = 33)) := by rw [eqB_str, dec_bang]
def optS (names : List Str) (o : Option Nat) : D := match o with
  | none => .none
  | some t => .str (strAt names t)
def optI (o : Option Nat) : D := match o with
  | none => .none
  | some t => .int ((t : Nat) : Int)
theorem p_Step_call (dn : D) (names : List Str) (hn : SeqS dn names) (f : D) (sig : D) (cp : Bool) (js : List Nat) (o : Option Nat) (hj : ∀ j ∈ js, j < names.length) (ho : ∀ t ∈ o, t < names.length) (hl : js.length ≤ 1000) :
    m_Step [dn, .tuple [.str "call", f, .tuple (js.map fun j => .str (strAt names j)), optS names o], sig, .bool cp] = .ok (stepD names sig "call" js js (optI o)) := by
  have hz := hn.le
  have cl : cap = 100000 := rfl
  have dw : demP "call" = [] := by decide
  have main : Nx (o_Step___init__ dn (.tuple [.str "call", f, .tuple (js.map fun j => .str (strAt names j)), optS names o]) sig (.bool cp)) fun kvs => .dict ((.none, .str "Step") :: kvs) = stepD names sig "call" js js (optI o) := by
    unfold o_Step___init__
    have ne : ¬ ("call" : Str) = "send" := by decide
    simp -implicitDefEqProofs (maxSteps := 100000000) only [Res.bind_ok, Res.bindF_ok, Fl.bind_nx, Fl.up_rt, ofO_some, if_true, if_false, Bool.false_eq_true, Bool.not_true, Bool.not_false, decide_true, decide_false, asB_bool, intD_int, intD_bool, blO_bool, eqB_int, neB_int, eqB_bool, neB_bool, eqB_str, neB_str, ltB_int, leB_int, gtB_int, geB_int, addD_int, subD_int, lenD_l, lenD_t, List.length_map, mkL_nil, Int.toNat_natCast, Int.toNat_zero, Int.toNat_one, Int.reduceToNat, isNone, eq_self, and_self, itemsD_l, itemsD_t, hn.tup, it_0t, gf_word]
    refine Nx.bind (P := fun d => d = .str "call") ?_ fun d hd => ?_
    · cases cp
      · simp -implicitDefEqProofs (maxSteps := 100000000) only [Res.bind_ok, Res.bindF_ok, Fl.bind_nx, Fl.up_rt, ofO_some, if_true, if_false, Bool.false_eq_true, Bool.not_true, Bool.not_false, decide_true, decide_false, asB_bool, intD_int, intD_bool, blO_bool, eqB_int, neB_int, eqB_bool, neB_bool, eqB_str, neB_str, ltB_int, leB_int, gtB_int, geB_int, addD_int, subD_int, lenD_l, lenD_t, List.length_map, mkL_nil, Int.toNat_natCast, Int.toNat_zero, Int.toNat_one, Int.reduceToNat, isNone, eq_self, and_self, itemsD_l, itemsD_t]
        exact Nx.mk rfl
      · simp -implicitDefEqProofs (maxSteps := 100000000) only [Res.bind_ok, Res.bindF_ok, Fl.bind_nx, Fl.up_rt, ofO_some, if_true, if_false, Bool.false_eq_true, Bool.not_true, Bool.not_false, decide_true, decide_false, asB_bool, intD_int, intD_bool, blO_bool, eqB_int, neB_int, eqB_bool, neB_bool, eqB_str, neB_str, ltB_int, leB_int, gtB_int, geB_int, addD_int, subD_int, lenD_l, lenD_t, List.length_map, mkL_nil, Int.toNat_natCast, Int.toNat_zero, Int.toNat_one, Int.reduceToNat, isNone, eq_self, and_self, itemsD_l, itemsD_t, ne]
        exact Nx.mk rfl
    · subst hd
      simp -implicitDefEqProofs (maxSteps := 100000000) only [Res.bind_ok, Res.bindF_ok, Fl.bind_nx, Fl.up_rt, ofO_some, if_true, if_false, Bool.false_eq_true, Bool.not_true, Bool.not_false, decide_true, decide_false, asB_bool, intD_int, intD_bool, blO_bool, eqB_int, neB_int, eqB_bool, neB_bool, eqB_str, neB_str, ltB_int, leB_int, gtB_int, geB_int, addD_int, subD_int, lenD_l, lenD_t, List.length_map, mkL_nil, Int.toNat_natCast, Int.toNat_zero, Int.toNat_one, Int.reduceToNat, isNone, eq_self, and_self, itemsD_l, itemsD_t, p_ment_call, gf_names]
      rw [lc_map (xs := js) (A := fun j => .str (strAt names j)) (B := fun j => .int ((j : Nat) : Int)) (h := fun j => j) (by omega) ?hf]
      case hf =>
        intro j hx
        have h1 := hj j hx
        simp -implicitDefEqProofs (maxSteps := 100000000) only [Res.bind_ok, Res.bindF_ok, Fl.bind_nx, Fl.up_rt, ofO_some, if_true, if_false, Bool.false_eq_true, Bool.not_true, Bool.not_false, decide_true, decide_false, asB_bool, intD_int, intD_bool, blO_bool, eqB_int, neB_int, eqB_bool, neB_bool, eqB_str, neB_str, ltB_int, leB_int, gtB_int, geB_int, addD_int, subD_int, lenD_l, lenD_t, List.length_map, mkL_nil, Int.toNat_natCast, Int.toNat_zero, Int.toNat_one, Int.reduceToNat, isNone, eq_self, and_self, itemsD_l, itemsD_t, Mi.tyB, index_tS _ names (strAt_mem h1) (by omega), idx_at hn.gd h1]
      rw [List.map_id']
      simp only [Res.bind_ok, Res.bindF_ok, gf_word4, ofO_some, mkL_nil, tget_dem, itemsD_t, gf_spots4, dw]
      have l0 : ∀ (c : D → Res Bool) (g : D → Res D), lcC (natL []) c g = .ok [] := fun c g => rfl
      simp -implicitDefEqProofs (maxSteps := 100000000) only [Res.bind_ok, Res.bindF_ok, Fl.bind_nx, Fl.up_rt, ofO_some, if_true, if_false, Bool.false_eq_true, Bool.not_true, Bool.not_false, decide_true, decide_false, asB_bool, intD_int, intD_bool, blO_bool, eqB_int, neB_int, eqB_bool, neB_bool, eqB_str, neB_str, ltB_int, leB_int, gtB_int, geB_int, addD_int, subD_int, lenD_l, lenD_t, List.length_map, mkL_nil, Int.toNat_natCast, Int.toNat_zero, Int.toNat_one, Int.reduceToNat, isNone, eq_self, and_self, itemsD_l, itemsD_t, l0, gf_word6, gf_spots6, listR_l, it_3t]
      cases o with
      | none =>
        have n1 : optS names none = .none := rfl
        simp -implicitDefEqProofs (maxSteps := 100000000) only [Res.bind_ok, Res.bindF_ok, Fl.bind_nx, Fl.up_rt, ofO_some, if_true, if_false, Bool.false_eq_true, Bool.not_true, Bool.not_false, decide_true, decide_false, asB_bool, intD_int, intD_bool, blO_bool, eqB_int, neB_int, eqB_bool, neB_bool, eqB_str, neB_str, ltB_int, leB_int, gtB_int, geB_int, addD_int, subD_int, lenD_l, lenD_t, List.length_map, mkL_nil, Int.toNat_natCast, Int.toNat_zero, Int.toNat_one, Int.reduceToNat, isNone, eq_self, and_self, itemsD_l, itemsD_t, n1]
        exact Nx.mk rfl
      | some t =>
        have ht := ho t rfl
        have n1 : optS names (some t) = .str (strAt names t) := rfl
        simp -implicitDefEqProofs (maxSteps := 100000000) only [Res.bind_ok, Res.bindF_ok, Fl.bind_nx, Fl.up_rt, ofO_some, if_true, if_false, Bool.false_eq_true, Bool.not_true, Bool.not_false, decide_true, decide_false, asB_bool, intD_int, intD_bool, blO_bool, eqB_int, neB_int, eqB_bool, neB_bool, eqB_str, neB_str, ltB_int, leB_int, gtB_int, geB_int, addD_int, subD_int, lenD_l, lenD_t, List.length_map, mkL_nil, Int.toNat_natCast, Int.toNat_zero, Int.toNat_one, Int.reduceToNat, isNone, eq_self, and_self, itemsD_l, itemsD_t, n1, gf_names6, Mi.tyB, index_tS _ names (strAt_mem ht) (by omega), idx_at hn.gd ht]
        exact Nx.mk rfl
  obtain ⟨kvs, e, h2⟩ := main
  show ansI (o_Step___init__ dn (.tuple [.str "call", f, .tuple (js.map fun j => .str (strAt names j)), optS names o]) sig (.bool cp)) "Step" = _
  rw [e, ← h2]
  rfl
theorem tryX_nx {β τ : Type} (t : τ) (ks : List (Str × Bool)) (oh : Str → List D → Fl β τ) : tryX (.nx t) ks oh = .nx t := rfl
theorem tryX_ref {β τ : Type} (fs : List D) (oh : Str → List D → Fl β τ) : tryX (.ex "Refused" fs) [("BadRegions", false), ("Refused", true)] oh = (oh "Refused" fs).noEx := rfl
theorem noEx_nx {β τ : Type} (t : τ) : (Fl.nx t : Fl β τ).noEx = .nx t := rfl
theorem xf_why (a b : D) : xfR xtab "Refused" [a, b] "why" = .ok b := rfl
theorem xf_name (a b : D) : xfR xtab "Refused" [a, b] "name" = .ok a := rfl
theorem mkl_2' (a b : D) : mkL [a, b] = some [a, b] := rfl
/-- a statement that is no call -/
structure StOk (n : Nat) (w : Str) (sp : List Nat) : Prop where
  nc : ¬ w = "call"
  lt : ∀ a ∈ sp, a < n
  many : manyP w ≤ sp.length
  dem : ∀ a ∈ demP w, a < sp.length
abbrev ndP (w : Str) (sp : List Nat) : List Nat := (demP w).map fun a => sp.getD a 0
theorem StOk.nd {n : Nat} {w : Str} {sp : List Nat} (h : StOk n w sp) : ∀ a ∈ ndP w sp, a < n := fun a ha => by
  obtain ⟨b, hb, rfl⟩ := List.mem_map.mp ha
  exact sp_lt h.lt (h.dem b hb)
abbrev stoP (w : Str) (sp : List Nat) (codes : List Int) : Option (Str × Nat) := ((ndP w sp).find? (awayP codes)).map fun a => ("away", a)
theorem p_law_right {names : List Str} {w : Str} {sp : List Nat} {codes due : List Int} {o : Option Nat} (hg : GN names codes) (hc : canonP codes = codes) (h : StOk names.length w sp) (hd : canonP due = moveP w sp codes) (hl : due.length ≤ 1000) (hs : (ndP w sp).find? (awayP codes) = o) :
    m__law_right [stepD names .none w sp (ndP w sp) .none, regD names codes, .list (sL names), optS names o, .list (iL due)] = .ok (.bool true) := by
  have lz := hg.l
  have zz := hg.z
  have q0 := p_stop (names := names) (sig := .none) (tg := .none) (w := w) (sp := sp) (nd := ndP w sp) (codes := codes) (by rw [lz]; exact h.nd) h.nc
  have q1 := p_total (sig := .none) (tg := .none) (nd := ndP w sp) hg (p_move (names := names) (sig := .none) (tg := .none) (nd := ndP w sp) (by rw [lz]; exact h.lt) (by omega) h.nc h.many) moveP_len (moveP_canon hc)
  have q2 := p_demand q0 (fun p hp => by
    obtain ⟨a, ha, rfl⟩ := Option.map_eq_some_iff.mp hp
    exact h.nd a (List.mem_of_find?_eq_some ha))
  have q3 := p_go2 q2 q1
  have q4 := p_is (hg.with (cs := moveP w sp codes) moveP_len) (.list (sL names)) .none due (.inl rfl) hl hd
  have main : Rt (o__law_right (stepD names .none w sp (ndP w sp) .none) (regD names codes) (.list (sL names)) (optS names o) (.list (iL due))) fun d => d = .bool true := by
    unfold o__law_right
    rw [hs] at q2 q3
    cases o with
    | none =>
      have q2 : m_Step_demand [stepD names .none w sp (ndP w sp) .none, regD names codes] = .ok .none := q2
      have q3 : m_Step___call__ [stepD names .none w sp (ndP w sp) .none, regD names codes] = .ok (regD names (moveP w sp codes)) := q3
      have n0 : optS names none = .none := rfl
      have n1 : isNone .none = true := rfl
      simp -implicitDefEqProofs (maxSteps := 100000000) only [Res.bind_ok, Res.bindF_ok, Fl.bind_nx, Fl.up_rt, ofO_some, if_true, if_false, Bool.false_eq_true, Bool.not_true, Bool.not_false, decide_true, decide_false, asB_bool, intD_int, intD_bool, blO_bool, eqB_int, neB_int, eqB_bool, neB_bool, eqB_str, neB_str, ltB_int, leB_int, gtB_int, geB_int, addD_int, subD_int, lenD_l, lenD_t, List.length_map, mkL_nil, Int.toNat_natCast, Int.toNat_zero, Int.toNat_one, Int.reduceToNat, isNone, eq_self, and_self, itemsD_l, itemsD_t, isC_st, q1, q2, q3, q4, notB_bool, tryX_nx, n0, n1]
      exact Rt.mk rfl
    | some a =>
      have q2 : m_Step_demand [stepD names .none w sp (ndP w sp) .none, regD names codes] = .ok (.tuple [.str "away", .str (strAt names a)]) := q2
      have q3 : m_Step___call__ [stepD names .none w sp (ndP w sp) .none, regD names codes] = .ex "Refused" [.str (strAt names a), .str "away"] := q3
      have n0 : optS names (some a) = .str (strAt names a) := rfl
      have n1 : isNone (.str (strAt names a)) = false := rfl
      have sm : m__law_same [.tuple [.str "away", .str (strAt names a)], .tuple [.str "away", .str (strAt names a)]] = .ok (.bool true) := p_sameS (.tuple (sL ["away", strAt names a])) ["away", strAt names a] (.inr rfl) (by simp)
      simp -implicitDefEqProofs (maxSteps := 100000000) only [Res.bind_ok, Res.bindF_ok, Fl.bind_nx, Fl.up_rt, ofO_some, if_true, if_false, Bool.false_eq_true, Bool.not_true, Bool.not_false, decide_true, decide_false, asB_bool, intD_int, intD_bool, blO_bool, eqB_int, neB_int, eqB_bool, neB_bool, eqB_str, neB_str, ltB_int, leB_int, gtB_int, geB_int, addD_int, subD_int, lenD_l, lenD_t, List.length_map, mkL_nil, Int.toNat_natCast, Int.toNat_zero, Int.toNat_one, Int.reduceToNat, isNone, eq_self, and_self, itemsD_l, itemsD_t, Res.bindF_ex, isC_st, q1, q2, q3, q4, notB_bool, tryX_ref, xf_why, xf_name, mkl_2', noEx_nx, n0, n1, sm]
      exact Rt.mk rfl
  obtain ⟨d, e, rfl⟩ := main.res
  exact e
theorem fi_1 {p : Nat → Bool} {a : Nat} : [a].find? p = if p a = true then some a else none := by
  rw [List.find?_cons]
  cases p a <;> rfl
theorem fi_2 {p : Nat → Bool} {a b : Nat} : [a, b].find? p = if p a = true then some a else if p b = true then some b else none := by
  rw [List.find?_cons, fi_1]
  cases p a <;> rfl
theorem optS_if (names : List Str) (c : Prop) [Decidable c] (a : Nat) : optS names (if c then some a else none) = if c then .str (strAt names a) else .none := by
  split <;> rfl
theorem moveP_same {w : Str} {sp : List Nat} {codes : List Int} (h : w = "use" ∨ w = "post" ∨ w = "cut") : moveP w sp codes = codes := by
  unfold moveP
  rcases h with rfl | rfl | rfl <;> rw [if_neg (by decide), if_neg (by decide), if_neg (by decide), if_neg (by decide)]
theorem moveP_send {sp : List Nat} {codes : List Int} : moveP "send" sp codes = struckP codes (sp.getD 0 0) := by
  unfold moveP
  rw [if_neg (by decide), if_neg (by decide), if_pos rfl]
theorem moveP_put {sp : List Nat} {codes : List Int} : moveP "put" sp codes = mergedP codes (sp.getD 0 0) (sp.getD 1 0) := by
  unfold moveP
  rw [if_neg (by decide), if_neg (by decide), if_neg (by decide), if_pos rfl]
theorem moveP_get {sp : List Nat} {codes : List Int} : moveP "get" sp codes = canonP (codes.set (sp.getD 0 0) (codes.getD (sp.getD 1 0) 0)) := by
  unfold moveP
  rw [if_neg (by decide), if_pos (by decide)]
theorem away_c (ls : List Int) (hi : i < ls.length) : awayP (canonP ls) i = decide (ls.getD i 0 = 0) := by
  unfold awayP
  exact decide_eq_decide.mpr ((canon_eqv ls).zero (by rw [canon_len]; exact hi))
/-- a row of the law -/
structure RowOk (names : List Str) (ls : List Int) (x : D) : Prop where
  ex : ∃ d w sp o due, x = .list [d, optS names o, .list (iL due)] ∧ StOk names.length w sp ∧ m_Step [.list (sL names), d, .none, .bool false] = .ok (stepD names .none w sp (ndP w sp) .none) ∧ canonP due = moveP w sp (canonP ls) ∧ due.length ≤ 1000 ∧ (ndP w sp).find? (awayP (canonP ls)) = o
def o1P (ls : List Int) (i : Nat) : Option Nat := if ls.getD i 0 = 0 then some i else none
section
variable {names : List Str} {ls : List Int} {i j : Nat} (sl : SeqS (.list (sL names)) names) (hz : names.length ≤ 6) (ll : ls.length = names.length) (hi : i < names.length) (hj : j < names.length)
include sl hz ll hi
theorem step_1 {w : Str} (cp : Bool) (h : w = "use" ∨ w = "post" ∨ w = "send") : StOk names.length (wordP w cp) [i] ∧ ndP (wordP w cp) [i] = [i] ∧ ∀ dn, SeqS dn names → m_Step [dn, .tuple [.str w, .str (strAt names i)], .none, .bool cp] = .ok (stepD names .none (wordP w cp) [i] (ndP (wordP w cp) [i]) .none) := by
  have q : ¬ w = "if" ∧ ¬ w = "loop" ∧ ¬ w = "call" ∧ ¬ w = "get" := by rcases h with rfl | rfl | rfl <;> decide
  have q2 : demP (wordP w cp) = [0] := by rcases h with rfl | rfl | rfl <;> cases cp <;> decide
  have q3 : ¬ wordP w cp = "call" ∧ manyP (wordP w cp) ≤ 1 := by rcases h with rfl | rfl | rfl <;> cases cp <;> decide
  have lt : ∀ a ∈ [i], a < names.length := fun a ha => by
    rw [List.mem_singleton.mp ha]
    exact hi
  have dm : ∀ a ∈ demP (wordP w cp), a < [i].length := fun a ha => by
    rw [q2] at ha
    rw [List.mem_singleton.mp ha]
    exact Nat.zero_lt_one
  refine ⟨⟨q3.1, lt, q3.2, dm⟩, ?_, fun dn hn => ?_⟩
  · show (demP (wordP w cp)).map (fun a => [i].getD a 0) = [i]
    rw [q2]
    rfl
  · exact p_Step dn names hn w [.str (strAt names i)] .none cp [i] lt (p_ment q.1 q.2.1 q.2.2.1 q.2.2.2) q.2.2.1 dm (by simp)
theorem row_1 {w : Str} (h : w = "use" ∨ w = "post" ∨ w = "send") {due : List Int} (hd : canonP due = moveP w [i] (canonP ls)) (hl : due.length ≤ 1000) : RowOk names ls (.list [.tuple [.str w, .str (strAt names i)], optS names (o1P ls i), .list (iL due)]) := by
  obtain ⟨h1, h2, h3⟩ := step_1 sl hz ll hi false h
  have e : wordP w false = w := by unfold wordP; rw [if_neg (by simp)]
  rw [e] at h1 h2 h3
  refine ⟨⟨_, w, [i], _, due, rfl, h1, h3 _ sl, hd, hl, ?_⟩⟩
  rw [h2, fi_1, away_c ls (by omega)]
  unfold o1P
  by_cases c : ls.getD i 0 = 0 <;> simp [c]
include hj
theorem row_2 {w : Str} {ds : List D} (hw : ¬ w = "call") (hm : m_mentioned [.tuple (.str w :: ds)] = .ok (.tuple ([i, j].map fun j => .str (strAt names j)))) (hn : manyP w ≤ 2) (hd2 : ∀ a ∈ demP w, a < 2) {o : Option Nat} (ho : (ndP w [i, j]).find? (awayP (canonP ls)) = o) {due : List Int} (hd : canonP due = moveP w [i, j] (canonP ls)) (hl : due.length ≤ 1000) : RowOk names ls (.list [.tuple (.str w :: ds), optS names o, .list (iL due)]) := by
  have lt : ∀ a ∈ [i, j], a < names.length := fun a ha => by
    simp only [List.mem_cons, List.not_mem_nil, or_false] at ha
    rcases ha with rfl | rfl
    · exact hi
    · exact hj
  have e : wordP w false = w := by unfold wordP; rw [if_neg (by simp)]
  have p := p_Step _ names sl w ds .none false [i, j] lt hm hw (by rw [e]; exact hd2) (by simp)
  rw [e] at p
  exact ⟨⟨_, w, [i, j], o, due, rfl, ⟨hw, lt, hn, hd2⟩, p, hd, hl, ho⟩⟩
end
theorem law_true (ns : List Int) (hl : ns.length ≤ 63) : m_law [scrD ns] = .ok (.bool true) := by
  obtain ⟨row, hrow, R⟩ := p_draws ns hl
  have main : Rt (o_law (scrD ns)) fun d => d = .bool true := by
    unfold o_law
    simp -implicitDefEqProofs (maxSteps := 100000000) only [Res.bind_ok, Res.bindF_ok, Fl.bind_nx, Fl.up_rt, ofO_some, if_true, if_false, Bool.false_eq_true, Bool.not_true, Bool.not_false, decide_true, decide_false, asB_bool, intD_int, intD_bool, blO_bool, eqB_int, neB_int, eqB_bool, neB_bool, eqB_str, neB_str, ltB_int, leB_int, gtB_int, geB_int, addD_int, subD_int, lenD_l, lenD_t, List.length_map, mkL_nil, Int.toNat_natCast, Int.toNat_zero, Int.toNat_one, Int.reduceToNat, isNone, eq_self, and_self, itemsD_l, itemsD_t, hrow]
    have m0 : ∃ many : Nat, many ≤ 6 ∧ row.getD 0 0 % 7 = (many : Int) := ⟨(row.getD 0 0 % 7).toNat, by omega, by omega⟩
    obtain ⟨many, hm, em⟩ := m0
    obtain ⟨n1, n2⟩ := R.at_ 1
    obtain ⟨draw, ed⟩ : ∃ draw : Nat, row.getD 1 0 = (draw : Int) := ⟨(row.getD 1 0).toNat, by omega⟩
    obtain ⟨names, hnames, ln, G⟩ := p_names draw many hm
    obtain ⟨ls, hls, ll, lb⟩ := p_labels row R 2 many (by omega)
    have a0 := p_atI row 0 (by omega)
    have a1 := p_atI row 1 (by omega)
    have a11 := p_atI row 11 (by omega)
    have a12 := p_atI row 12 (by omega)
    have t0 : (0 : Int).toNat = 0 := rfl
    have t1 : (1 : Int).toNat = 1 := rfl
    have t11 : (11 : Int).toNat = 11 := rfl
    have t12 : (12 : Int).toNat = 12 := rfl
    rw [t0] at a0
    rw [t1, ed] at a1
    rw [t11] at a11
    rw [t12] at a12
    have e2 : ((2 : Nat) : Int) = 2 := rfl
    rw [e2] at hls
    have sl : SeqS (.list (sL names)) names := ⟨.inl rfl, G, by omega⟩
    have r1 := reg_go _ _ names ls sl (.inl ⟨⟨.inl rfl, fun l h => (lb l h).1⟩, by omega⟩)
    have cl := canon_len ls
    have g1 : GN names (canonP ls) := ⟨G, by omega, by rw [canon_len]; omega⟩
    have r3 := rng1_nat many (by omega)
    simp -implicitDefEqProofs (maxSteps := 100000000) (disch := omega) only [Res.bind_ok, Res.bindF_ok, Fl.bind_nx, Fl.up_rt, ofO_some, if_true, if_false, Bool.false_eq_true, Bool.not_true, Bool.not_false, decide_true, decide_false, asB_bool, intD_int, intD_bool, blO_bool, eqB_int, neB_int, eqB_bool, neB_bool, eqB_str, neB_str, ltB_int, leB_int, gtB_int, geB_int, addD_int, subD_int, lenD_l, lenD_t, List.length_map, mkL_nil, Int.toNat_natCast, Int.toNat_zero, Int.toNat_one, Int.reduceToNat, isNone, eq_self, and_self, itemsD_l, itemsD_t, a0, a1, a11, modD_ok, em, hnames, hls, gD_Regions_1_codes, r1, r3]
    refine Rt.bind (Nx.loop (fun j (t : Unit) => True) trivial ?_) fun t _ => ?_
    · intro i x t hx _
      obtain ⟨hi, rfl⟩ := rng_at hx
      rw [Int.zero_add]
      obtain ⟨j, hj, ej⟩ : ∃ j : Nat, j < many ∧ ((i : Int) + row.getD 11 0) % (many : Int) = (j : Int) := ⟨(((i : Int) + row.getD 11 0) % (many : Int)).toNat, by
        have := Int.emod_nonneg ((i : Int) + row.getD 11 0) (b := (many : Int)) (by omega)
        have := Int.emod_lt_of_pos ((i : Int) + row.getD 11 0) (b := (many : Int)) (by omega)
        omega, by
        have := Int.emod_nonneg ((i : Int) + row.getD 11 0) (b := (many : Int)) (by omega)
        omega⟩
      have hq : ∀ {β : Type} (k : Nat), (if decide (ls.getD k 0 = 0) = true then (Fl.nx (PyData.str (strAt names k)) : Fl β D) else Fl.nx .none) = Fl.nx (optS names (o1P ls k)) := fun k => by
        unfold o1P
        by_cases c : ls.getD k 0 = 0
        · rw [decide_eq_true c, if_pos rfl, if_pos c]
          rfl
        · rw [decide_eq_false c, if_neg (by decide), if_neg c]
          rfl
      have pg := p_gone ls i (by omega) (by omega)
      have pt := p_tie ls i j (by omega) (by omega) (by omega)
      have mm : modD (.int ((i : Int) + row.getD 11 0)) (.int many) = some (.int j) := by
        rw [← ej]
        exact modD_ok (by omega)
      have cs : (optS names (o1P ls i) = .none ∧ o1P ls i = none ∧ awayP (canonP ls) i = false) ∨ (optS names (o1P ls i) = .str (strAt names i) ∧ o1P ls i = some i ∧ awayP (canonP ls) i = true) := by
        rw [away_c ls (by omega)]
        unfold o1P
        by_cases c : ls.getD i 0 = 0
        · rw [if_pos c, decide_eq_true c]
          exact .inr ⟨rfl, rfl, rfl⟩
        · rw [if_neg c, decide_eq_false c]
          exact .inl ⟨rfl, rfl, rfl⟩
      have lo : o1P ls j = if awayP (canonP ls) j = true then some j else none := by
        rw [away_c ls (by omega)]
        unfold o1P
        by_cases c : ls.getD j 0 = 0
        · rw [if_pos c, decide_eq_true c, if_pos rfl]
        · rw [if_neg c, decide_eq_false c, if_neg (by decide)]
      have hnn : ∀ l ∈ ls, 0 ≤ l := fun l h => (lb l h).1
      have hi' : i < names.length := by omega
      have hj' : j < names.length := by omega
      have ll' : ls.length = names.length := by omega
      have z6 : names.length ≤ 6 := by omega
      have ru := row_1 sl z6 ll' hi' (w := "use") (.inl rfl) (due := ls) (moveP_same (.inl rfl)).symm (by omega)
      have rp := row_1 sl z6 ll' hi' (w := "post") (.inr (.inl rfl)) (due := ls) (moveP_same (.inr (.inl rfl))).symm (by omega)
      have rs := row_1 sl z6 ll' hi' (w := "send") (.inr (.inr rfl)) (due := goneP ls i) (by rw [moveP_send]; exact canon_of (Eqv.gone (canon_eqv ls).symm (by omega))) (by rw [gone_len]; omega)
      have rput := row_2 sl z6 ll' hi' hj' (w := "put") (by decide) (p_ment (by decide) (by decide) (by decide) (by decide)) (by decide) (by decide) (ds := [.str (strAt names i), .str (strAt names j)]) (show _ = (if awayP (canonP ls) i = true then some i else o1P ls j) by rw [show ndP "put" [i, j] = [i, j] by unfold ndP; rw [show demP "put" = [0, 1] by decide]; rfl, fi_2, lo]) (due := tieP ls i j) (by rw [moveP_put]; exact (canon_of (Eqv.tieP (canon_eqv ls) hnn (by rw [canon_len]; omega) (by rw [canon_len]; omega))).symm) (by rw [tie_len]; omega)
      have rcut := row_2 sl z6 ll' hi' hj' (w := "cut") (by decide) (p_ment (by decide) (by decide) (by decide) (by decide)) (by decide) (by decide) (ds := [.str (strAt names i), .str (strAt names j)]) (show _ = (if awayP (canonP ls) i = true then some i else none) by rw [show ndP "cut" [i, j] = [i] by unfold ndP; rw [show demP "cut" = [0] by decide]; rfl, fi_1]) (due := ls) (moveP_same (.inr (.inr rfl))).symm (by omega)
      have rget := row_2 sl z6 ll' hi' hj' (w := "get") (by decide) (p_ment_get _ _ (.int (row.getD 12 0))) (by decide) (by decide) (show _ = o1P ls j by rw [show ndP "get" [i, j] = [j] by unfold ndP; rw [show demP "get" = [1] by decide]; rfl, fi_1, lo]) (due := ls.set i (ls.getD j 0)) (by rw [moveP_get]; exact canon_of (Eqv.set_at (canon_eqv ls).symm i j (by omega))) (by rw [List.length_set]; omega)
      obtain ⟨c1, c2, c3⟩ := step_1 sl z6 ll' hi' true (w := "send") (.inr (.inr rfl))
      have c3 := c3 (.tuple (sL names)) ⟨.inr rfl, G, by omega⟩
      have wp : wordP "send" true = "post" := by decide
      rw [wp] at c1 c2 c3
      have cr := p_law_right g1 (canon_idem ls) (w := "post") (sp := [i]) (due := ls) (o := o1P ls i) c1 (moveP_same (.inr (.inl rfl))).symm (by omega) (by rw [c2, fi_1, away_c ls (by omega)]; unfold o1P; by_cases c : ls.getD i 0 = 0 <;> simp [c])
      have m3 : ∀ a b c : D, mkL [a, b, c] = some [a, b, c] := fun _ _ _ => rfl
      have m4 : ∀ a b c d : D, mkL [a, b, c, d] = some [a, b, c, d] := fun _ _ _ _ => rfl
      have ad : ∀ a b c d e : D, addR (.list [a, b, c]) (.list [d, e]) = .ok [a, b, c, d, e] := fun a b c d e => by
        unfold addR
        exact if_pos (show 3 + 2 ≤ cap by unfold cap; omega)
      have lc5 : ∀ a b c d e : D, ([a, b, c, d, e].length < cap) = True := fun a b c d e => eq_true (show 5 < cap by unfold cap; omega)
      rcases cs with ⟨hv, ho, ha⟩ | ⟨hv, ho, ha⟩
      · rw [hv] at ru rp rs cr
        rw [ha] at rput rcut
        simp -implicitDefEqProofs (maxSteps := 100000000) (disch := omega) only [Res.bind_ok, Res.bindF_ok, Fl.bind_nx, Fl.up_rt, ofO_some, if_true, if_false, Bool.false_eq_true, Bool.not_true, Bool.not_false, decide_true, decide_false, asB_bool, intD_int, intD_bool, blO_bool, eqB_int, neB_int, eqB_bool, neB_bool, eqB_str, neB_str, ltB_int, leB_int, gtB_int, geB_int, addD_int, subD_int, lenD_l, lenD_t, List.length_map, mkL_nil, Int.toNat_natCast, Int.toNat_zero, Int.toNat_one, Int.reduceToNat, isNone, eq_self, and_self, itemsD_l, itemsD_t, mm, it_lS, it_lI, hq, pg, pt, listR_l, setI_iL, setK_some, mkl_2', m3, m4, a12, hv, ad, lc5, List.cons_append, List.nil_append]
        refine Nx.bind (Nx.loop (fun j (t : Unit) => True) trivial ?_) fun t _ => ?_
        · rintro k x t hx _
          have Rx : RowOk names ls x := by
            have h := List.mem_of_getElem? hx
            simp only [List.mem_cons, List.not_mem_nil, or_false] at h
            rcases h with rfl | rfl | rfl | rfl | rfl | rfl
            · exact ru
            · exact rp
            · exact rs
            · exact rput
            · exact rcut
            · exact rget
          obtain ⟨d, w, sp, o, due, rfl, s1, s2, s3, s4, s5⟩ := Rx.ex
          have i0 : itemD (.list [d, optS names o, .list (iL due)]) (.int 0) = some d := rfl
          have i1 : itemD (.list [d, optS names o, .list (iL due)]) (.int 1) = some (optS names o) := rfl
          have i2 : itemD (.list [d, optS names o, .list (iL due)]) (.int 2) = some (.list (iL due)) := rfl
          have pr := p_law_right g1 (canon_idem ls) s1 s3 s4 s5
          have s2 : m_Step (gD_Step_2 [.list (sL names), d] []) = .ok (stepD names .none w sp (ndP w sp) .none) := s2
          simp -implicitDefEqProofs (maxSteps := 100000000) only [Res.bind_ok, Res.bindF_ok, Fl.bind_nx, Fl.up_rt, ofO_some, if_true, if_false, Bool.false_eq_true, Bool.not_true, Bool.not_false, decide_true, decide_false, asB_bool, intD_int, intD_bool, blO_bool, eqB_int, neB_int, eqB_bool, neB_bool, eqB_str, neB_str, ltB_int, leB_int, gtB_int, geB_int, addD_int, subD_int, lenD_l, lenD_t, List.length_map, mkL_nil, Int.toNat_natCast, Int.toNat_zero, Int.toNat_one, Int.reduceToNat, isNone, eq_self, and_self, itemsD_l, itemsD_t, i0, i1, i2, s2, pr]
          exact Nx.mk trivial
        · have s2 : m_Step (gD_Step_2_copied [.tuple (sL names), .tuple [.str "send", .str (strAt names i)]] [.bool true]) = .ok (stepD names .none "post" [i] (ndP "post" [i]) .none) := c3
          have tl : tupleD (.list (sL names)) = some (.tuple (sL names)) := rfl
          simp -implicitDefEqProofs (maxSteps := 100000000) only [Res.bind_ok, Res.bindF_ok, Fl.bind_nx, Fl.up_rt, ofO_some, if_true, if_false, Bool.false_eq_true, Bool.not_true, Bool.not_false, decide_true, decide_false, asB_bool, intD_int, intD_bool, blO_bool, eqB_int, neB_int, eqB_bool, neB_bool, eqB_str, neB_str, ltB_int, leB_int, gtB_int, geB_int, addD_int, subD_int, lenD_l, lenD_t, List.length_map, mkL_nil, Int.toNat_natCast, Int.toNat_zero, Int.toNat_one, Int.reduceToNat, isNone, eq_self, and_self, itemsD_l, itemsD_t, tl, s2, cr]
          exact Nx.mk trivial
      · rw [hv] at ru rp rs cr
        rw [ha] at rput rcut
        simp -implicitDefEqProofs (maxSteps := 100000000) (disch := omega) only [Res.bind_ok, Res.bindF_ok, Fl.bind_nx, Fl.up_rt, ofO_some, if_true, if_false, Bool.false_eq_true, Bool.not_true, Bool.not_false, decide_true, decide_false, asB_bool, intD_int, intD_bool, blO_bool, eqB_int, neB_int, eqB_bool, neB_bool, eqB_str, neB_str, ltB_int, leB_int, gtB_int, geB_int, addD_int, subD_int, lenD_l, lenD_t, List.length_map, mkL_nil, Int.toNat_natCast, Int.toNat_zero, Int.toNat_one, Int.reduceToNat, isNone, eq_self, and_self, itemsD_l, itemsD_t, mm, it_lS, it_lI, hq, pg, pt, listR_l, setI_iL, setK_some, mkl_2', m3, m4, a12, hv, ad, lc5, List.cons_append, List.nil_append]
        refine Nx.bind (Nx.loop (fun j (t : Unit) => True) trivial ?_) fun t _ => ?_
        · rintro k x t hx _
          have Rx : RowOk names ls x := by
            have h := List.mem_of_getElem? hx
            simp only [List.mem_cons, List.not_mem_nil, or_false] at h
            rcases h with rfl | rfl | rfl | rfl | rfl | rfl
            · exact ru
            · exact rp
            · exact rs
            · exact rput
            · exact rcut
            · exact rget
          obtain ⟨d, w, sp, o, due, rfl, s1, s2, s3, s4, s5⟩ := Rx.ex
          have i0 : itemD (.list [d, optS names o, .list (iL due)]) (.int 0) = some d := rfl
          have i1 : itemD (.list [d, optS names o, .list (iL due)]) (.int 1) = some (optS names o) := rfl
          have i2 : itemD (.list [d, optS names o, .list (iL due)]) (.int 2) = some (.list (iL due)) := rfl
          have pr := p_law_right g1 (canon_idem ls) s1 s3 s4 s5
          have s2 : m_Step (gD_Step_2 [.list (sL names), d] []) = .ok (stepD names .none w sp (ndP w sp) .none) := s2
          simp -implicitDefEqProofs (maxSteps := 100000000) only [Res.bind_ok, Res.bindF_ok, Fl.bind_nx, Fl.up_rt, ofO_some, if_true, if_false, Bool.false_eq_true, Bool.not_true, Bool.not_false, decide_true, decide_false, asB_bool, intD_int, intD_bool, blO_bool, eqB_int, neB_int, eqB_bool, neB_bool, eqB_str, neB_str, ltB_int, leB_int, gtB_int, geB_int, addD_int, subD_int, lenD_l, lenD_t, List.length_map, mkL_nil, Int.toNat_natCast, Int.toNat_zero, Int.toNat_one, Int.reduceToNat, isNone, eq_self, and_self, itemsD_l, itemsD_t, i0, i1, i2, s2, pr]
          exact Nx.mk trivial
        · have s2 : m_Step (gD_Step_2_copied [.tuple (sL names), .tuple [.str "send", .str (strAt names i)]] [.bool true]) = .ok (stepD names .none "post" [i] (ndP "post" [i]) .none) := c3
          have tl : tupleD (.list (sL names)) = some (.tuple (sL names)) := rfl
          simp -implicitDefEqProofs (maxSteps := 100000000) only [Res.bind_ok, Res.bindF_ok, Fl.bind_nx, Fl.up_rt, ofO_some, if_true, if_false, Bool.false_eq_true, Bool.not_true, Bool.not_false, decide_true, decide_false, asB_bool, intD_int, intD_bool, blO_bool, eqB_int, neB_int, eqB_bool, neB_bool, eqB_str, neB_str, ltB_int, leB_int, gtB_int, geB_int, addD_int, subD_int, lenD_l, lenD_t, List.length_map, mkL_nil, Int.toNat_natCast, Int.toNat_zero, Int.toNat_one, Int.reduceToNat, isNone, eq_self, and_self, itemsD_l, itemsD_t, tl, s2, cr]
          exact Nx.mk trivial
    · have i3 := p_is g1 (.list (sL names)) .none ls (.inl rfl) (by omega) rfl
      simp -implicitDefEqProofs (maxSteps := 100000000) only [Res.bind_ok, Res.bindF_ok, Fl.bind_nx, Fl.up_rt, ofO_some, if_true, if_false, Bool.false_eq_true, Bool.not_true, Bool.not_false, decide_true, decide_false, asB_bool, intD_int, intD_bool, blO_bool, eqB_int, neB_int, eqB_bool, neB_bool, eqB_str, neB_str, ltB_int, leB_int, gtB_int, geB_int, addD_int, subD_int, lenD_l, lenD_t, List.length_map, mkL_nil, Int.toNat_natCast, Int.toNat_zero, Int.toNat_one, Int.reduceToNat, isNone, eq_self, and_self, itemsD_l, itemsD_t, i3]
      exact Rt.mk rfl
  obtain ⟨d, e, rfl⟩ := main.res
  exact e

end NS
namespace NS
open L2 Mi PySem PySem.Spec PyProof.Rows
/-! the head -/
def fns : List He5.DefA := [
  ⟨fun K => (He.ga K "canonical"), "canonical", "canonical", defArgs (topS 2), defBody (topS 2), defScope (topS 2), [], []⟩,
  ⟨fun K => (He.ga K "grouped"), "grouped", "grouped", defArgs (topS 20), defBody (topS 20), defScope (topS 20), [], []⟩,
  ⟨fun K => (He.ga K "is_name"), "is_name", "is_name", defArgs (topS 17), defBody (topS 17), defScope (topS 17), [], []⟩,
  ⟨fun K => (He.ga K "are_names"), "are_names", "are_names", defArgs (topS 18), defBody (topS 18), defScope (topS 18), [], []⟩,
  ⟨fun K => (He.ma K (He.ga K "Regions") "__init__"), "__init__", "Regions.__init__", defArgs (inCls (topS 21) 2), defBody (inCls (topS 21) 2), defScope (inCls (topS 21) 2), [], [("codes", .non)]⟩,
  ⟨fun K => (He.ga K "_law_draws"), "_law_draws", "_law_draws", defArgs (topS 28), defBody (topS 28), defScope (topS 28), [], []⟩,
  ⟨fun K => (He.ga K "_law_names"), "_law_names", "_law_names", defArgs (topS 30), defBody (topS 30), defScope (topS 30), [], []⟩,
  ⟨fun K => (He.ga K "_law_at"), "_law_at", "_law_at", defArgs (topS 29), defBody (topS 29), defScope (topS 29), [], []⟩,
  ⟨fun K => (He.ga K "_law_labels"), "_law_labels", "_law_labels", defArgs (topS 31), defBody (topS 31), defScope (topS 31), [], []⟩,
  ⟨fun K => (He.ga K "_law_same"), "_law_same", "_law_same", defArgs (topS 33), defBody (topS 33), defScope (topS 33), [], []⟩,
  ⟨fun K => (He.ga K "_law_form"), "_law_form", "_law_form", defArgs (topS 32), defBody (topS 32), defScope (topS 32), [], []⟩,
  ⟨fun K => (He.ga K "_law_is"), "_law_is", "_law_is", defArgs (topS 34), defBody (topS 34), defScope (topS 34), [], []⟩,
  ⟨fun K => (He.ma K (He.ga K "Step") "stop_at"), "stop_at", "Step.stop_at", defArgs (inCls (topS 26) 1), defBody (inCls (topS 26) 1), defScope (inCls (topS 26) 1), [], []⟩,
  ⟨fun K => (He.ma K (He.ga K "Step") "_codes"), "_codes", "Step._codes", defArgs (inCls (topS 26) 4), defBody (inCls (topS 26) 4), defScope (inCls (topS 26) 4), [], []⟩,
  ⟨fun K => (He.ma K (He.ga K "Step") "demand"), "demand", "Step.demand", defArgs (inCls (topS 26) 5), defBody (inCls (topS 26) 5), defScope (inCls (topS 26) 5), [], []⟩,
  ⟨fun K => (He.ga K "alone"), "alone", "alone", defArgs (topS 5), defBody (topS 5), defScope (topS 5), [], []⟩,
  ⟨fun K => (He.ga K "placed"), "placed", "placed", defArgs (topS 7), defBody (topS 7), defScope (topS 7), [], []⟩,
  ⟨fun K => (He.ga K "struck"), "struck", "struck", defArgs (topS 4), defBody (topS 4), defScope (topS 4), [], []⟩,
  ⟨fun K => (He.ga K "merged"), "merged", "merged", defArgs (topS 3), defBody (topS 3), defScope (topS 3), [], []⟩,
  ⟨fun K => (He.ga K "lost"), "lost", "lost", defArgs (topS 6), defBody (topS 6), defScope (topS 6), [], []⟩,
  ⟨fun K => (He.ma K (He.ga K "Step") "_call"), "_call", "Step._call", defArgs (inCls (topS 26) 3), defBody (inCls (topS 26) 3), defScope (inCls (topS 26) 3), [], []⟩,
  ⟨fun K => (He.ma K (He.ga K "Step") "move"), "move", "Step.move", defArgs (inCls (topS 26) 2), defBody (inCls (topS 26) 2), defScope (inCls (topS 26) 2), [], []⟩,
  ⟨fun K => (He.ma K (He.ga K "Step") "total"), "total", "Step.total", defArgs (inCls (topS 26) 6), defBody (inCls (topS 26) 6), defScope (inCls (topS 26) 6), [], []⟩,
  ⟨fun K => (He.ma K (He.ga K "Step") "__call__"), "__call__", "Step.__call__", defArgs (inCls (topS 26) 7), defBody (inCls (topS 26) 7), defScope (inCls (topS 26) 7), [], []⟩,
  ⟨fun K => (He.ga K "_law_right"), "_law_right", "_law_right", defArgs (topS 37), defBody (topS 37), defScope (topS 37), [], []⟩,
  ⟨fun K => (He.ga K "mentioned"), "mentioned", "mentioned", defArgs (topS 23), defBody (topS 23), defScope (topS 23), [], []⟩,
  ⟨fun K => (He.ma K (He.ga K "Step") "__init__"), "__init__", "Step.__init__", defArgs (inCls (topS 26) 0), defBody (inCls (topS 26) 0), defScope (inCls (topS 26) 0), [], [("signature", .non), ("copied", .bl false)]⟩,
  ⟨fun K => (He.ga K "_law_gone"), "_law_gone", "_law_gone", defArgs (topS 36), defBody (topS 36), defScope (topS 36), [], []⟩,
  ⟨fun K => (He.ga K "_law_tie"), "_law_tie", "_law_tie", defArgs (topS 35), defBody (topS 35), defScope (topS 35), [], []⟩,
  ⟨fun K => (He.ga K "law"), "law", "law", defArgs (topS 38), defBody (topS 38), defScope (topS 38), [], []⟩]
def fa : List He.Fa := [.free "bool", .free "int", .free "isinstance", .free "len", .free "list", .free "min", .free "range", .free "str", .free "super", .free "tuple", .str "LETTERS" "abcdefghijklmnopqrstuvwxyz", .int "LONGEST" 8, .glo "canonical", .glo "grouped", .glo "is_name", .glo "are_names", .glo "_law_draws", .glo "_law_names", .glo "_law_at", .glo "_law_labels", .glo "_law_same", .glo "_law_form", .glo "_law_is", .glo "alone", .glo "placed", .glo "struck", .glo "merged", .glo "lost", .glo "_law_right", .glo "mentioned", .glo "_law_gone", .glo "_law_tie", .glo "law", .glo "Regions", .mkr "Regions", .glo "Step", .mkr "Step", .meth "Step" "stop_at", .meth "Step" "_codes", .meth "Step" "demand", .meth "Step" "_call", .meth "Step" "move", .meth "Step" "total", .meth "Step" "__call__", .exc "BadRegions", .glo "BadRegions", .glo "Refused", .glo "DEMANDED"]
def exB (K : PySem.W.Frag) : Bool := (fa.all fun f => f.ok K) && ((tab.all fun q => ciOk K q.1 q.2.1 q.2.2.1 q.2.2.2) && (cintB K "Regions" "MOST" 6 && subB K "Regions" [("Regions", true), ("Step", false)] && catchB K "Refused" none [("BadRegions", false), ("Refused", true)] && tabB K (He.ga K "DEMANDED") tb_DEMANDED && xtab.all fun q => errB K q.1 file q.2.reverse && fsB q.1 q.2 tab))
def tab_DEMANDED : He.Tab := (fun K => He.ga K "DEMANDED", ["use", "send", "post", "put", "cut", "get"])
def fxs : List DefS := [⟨fun K => (He.ma K (He.ga K "Refused") "__init__"), "__init__", "Refused.__init__", defArgs (inCls (topS 13) 0), defBody (inCls (topS 13) 0), defScope (inCls (topS 13) 0)⟩]
def tabs : List He.Tab := [tab_DEMANDED]
theorem tx_of {w : World} {K : PySem.W.Frag} {h : Heap} {mg : Str → Option Value} (X : K.In h) (G : h.Ns mainGlobals mg) (c : SaysMX exB fns fxs tabs w K) : TX (PySem.Challenge.rw_onehandparts_k29_statements_with_demands).prog w K mg := by
  have c0 := c.more
  obtain ⟨c1, c2⟩ := He.ba c0
  obtain ⟨c2, c3⟩ := He.ba c2
  have at_ : ∀ f ∈ fa, f.ok K = true := fun f hf => List.all_eq_true.mp c1 f hf
  exact ⟨He.free_ok X G (at_ (.free "bool") (List.mem_of_getElem? (i := 0) rfl)),
    He.free_ok X G (at_ (.free "int") (List.mem_of_getElem? (i := 1) rfl)),
    He.free_ok X G (at_ (.free "isinstance") (List.mem_of_getElem? (i := 2) rfl)),
    He.free_ok X G (at_ (.free "len") (List.mem_of_getElem? (i := 3) rfl)),
    He.free_ok X G (at_ (.free "list") (List.mem_of_getElem? (i := 4) rfl)),
    He.free_ok X G (at_ (.free "min") (List.mem_of_getElem? (i := 5) rfl)),
    He.free_ok X G (at_ (.free "range") (List.mem_of_getElem? (i := 6) rfl)),
    He.free_ok X G (at_ (.free "str") (List.mem_of_getElem? (i := 7) rfl)),
    He.free_ok X G (at_ (.free "super") (List.mem_of_getElem? (i := 8) rfl)),
    He.free_ok X G (at_ (.free "tuple") (List.mem_of_getElem? (i := 9) rfl)),
    He.str_ok X G (at_ (.str "LETTERS" "abcdefghijklmnopqrstuvwxyz") (List.mem_of_getElem? (i := 10) rfl)),
    He.int_ok X G (at_ (.int "LONGEST" 8) (List.mem_of_getElem? (i := 11) rfl)),
    err_ok (g := gm K) X G ci_BadRegions (at_ (.exc "BadRegions") (List.mem_of_getElem? (i := 44) rfl)) (at_ (.glo "BadRegions") (List.mem_of_getElem? (i := 45) rfl)),
    cint_ok (g := gm K) X G (He.ba (He.ba (He.ba (He.ba c3).1).1).1).1 (at_ (.glo "Regions") (List.mem_of_getElem? (i := 33) rfl)),
    sub_ok (g := gm K) X G (He.ba (He.ba (He.ba (He.ba c3).1).1).1).2 (at_ (.glo "Regions") (List.mem_of_getElem? (i := 33) rfl)) (by intro q hq; simp only [List.mem_cons, List.not_mem_nil, or_false] at hq; rcases hq with rfl | rfl <;> exact ⟨_, rfl, rfl⟩),
    catch_ok (bt := none) (He.ba (He.ba (He.ba c3).1).1).2 (He.glo_ok X G (at_ (.glo "Refused") (List.mem_of_getElem? (i := 46) rfl))),
    tab_ok (g := gm K) X G (show ∃ es n, L2.KDict K w (He.ga K "DEMANDED") es n from c.tab 0 (t := tab_DEMANDED) rfl) (He.ba (He.ba c3).1).2 (at_ (.glo "DEMANDED") (List.mem_of_getElem? (i := 47) rfl)),
    He.glo_ok X G (at_ (.glo "Refused") (List.mem_of_getElem? (i := 46) rfl)),
    c.defS 0,
    xe_ok (He.ba c3).2 (List.mem_of_getElem? (i := 0) rfl),
    ⟨by kernel_rfl, by kernel_rfl⟩,
    xf_ok (He.ba c3).2,
    cis_ok c2,
    He.glo_ok X G (at_ (.glo "canonical") (List.mem_of_getElem? (i := 12) rfl)),
    c.def_ 0,
    He.glo_ok X G (at_ (.glo "grouped") (List.mem_of_getElem? (i := 13) rfl)),
    c.def_ 1,
    He.glo_ok X G (at_ (.glo "is_name") (List.mem_of_getElem? (i := 14) rfl)),
    c.def_ 2,
    He.glo_ok X G (at_ (.glo "are_names") (List.mem_of_getElem? (i := 15) rfl)),
    c.def_ 3,
    ⟨He.glo_ok X G (at_ (.glo "Regions") (List.mem_of_getElem? (i := 33) rfl)), He.mkr_ok (at_ (.mkr "Regions") (List.mem_of_getElem? (i := 34) rfl))⟩,
    c.def_ 4,
    He.glo_ok X G (at_ (.glo "_law_draws") (List.mem_of_getElem? (i := 16) rfl)),
    c.def_ 5,
    He.glo_ok X G (at_ (.glo "_law_names") (List.mem_of_getElem? (i := 17) rfl)),
    c.def_ 6,
    He.glo_ok X G (at_ (.glo "_law_at") (List.mem_of_getElem? (i := 18) rfl)),
    c.def_ 7,
    He.glo_ok X G (at_ (.glo "_law_labels") (List.mem_of_getElem? (i := 19) rfl)),
    c.def_ 8,
    He.glo_ok X G (at_ (.glo "_law_same") (List.mem_of_getElem? (i := 20) rfl)),
    c.def_ 9,
    He.glo_ok X G (at_ (.glo "_law_form") (List.mem_of_getElem? (i := 21) rfl)),
    c.def_ 10,
    He.glo_ok X G (at_ (.glo "_law_is") (List.mem_of_getElem? (i := 22) rfl)),
    c.def_ 11,
    He.meth_ok (at_ (.meth "Step" "stop_at") (List.mem_of_getElem? (i := 37) rfl)),
    c.def_ 12,
    He.meth_ok (at_ (.meth "Step" "_codes") (List.mem_of_getElem? (i := 38) rfl)),
    c.def_ 13,
    He.meth_ok (at_ (.meth "Step" "demand") (List.mem_of_getElem? (i := 39) rfl)),
    c.def_ 14,
    He.glo_ok X G (at_ (.glo "alone") (List.mem_of_getElem? (i := 23) rfl)),
    c.def_ 15,
    He.glo_ok X G (at_ (.glo "placed") (List.mem_of_getElem? (i := 24) rfl)),
    c.def_ 16,
    He.glo_ok X G (at_ (.glo "struck") (List.mem_of_getElem? (i := 25) rfl)),
    c.def_ 17,
    He.glo_ok X G (at_ (.glo "merged") (List.mem_of_getElem? (i := 26) rfl)),
    c.def_ 18,
    He.glo_ok X G (at_ (.glo "lost") (List.mem_of_getElem? (i := 27) rfl)),
    c.def_ 19,
    He.meth_ok (at_ (.meth "Step" "_call") (List.mem_of_getElem? (i := 40) rfl)),
    c.def_ 20,
    He.meth_ok (at_ (.meth "Step" "move") (List.mem_of_getElem? (i := 41) rfl)),
    c.def_ 21,
    He.meth_ok (at_ (.meth "Step" "total") (List.mem_of_getElem? (i := 42) rfl)),
    c.def_ 22,
    He.meth_ok (at_ (.meth "Step" "__call__") (List.mem_of_getElem? (i := 43) rfl)),
    c.def_ 23,
    He.glo_ok X G (at_ (.glo "_law_right") (List.mem_of_getElem? (i := 28) rfl)),
    c.def_ 24,
    He.glo_ok X G (at_ (.glo "mentioned") (List.mem_of_getElem? (i := 29) rfl)),
    c.def_ 25,
    ⟨He.glo_ok X G (at_ (.glo "Step") (List.mem_of_getElem? (i := 35) rfl)), He.mkr_ok (at_ (.mkr "Step") (List.mem_of_getElem? (i := 36) rfl))⟩,
    c.def_ 26,
    He.glo_ok X G (at_ (.glo "_law_gone") (List.mem_of_getElem? (i := 30) rfl)),
    c.def_ 27,
    He.glo_ok X G (at_ (.glo "_law_tie") (List.mem_of_getElem? (i := 31) rfl)),
    c.def_ 28,
    He.glo_ok X G (at_ (.glo "law") (List.mem_of_getElem? (i := 32) rfl)),
    c.def_ 29⟩
/-! the run of the top -/
abbrev RR : PySem.W.OpenRow := PySem.W.OpenLaw.row PySem.Challenge.rw_onehandparts_k29_statements_with_demands
abbrev hk : PySem.W.Hook := hookMX 6 exB fns fxs tabs
def ob (s : PySem.W.SharedT) : AlX := obsMXG 6 exB fns fxs tabs (HandSHeadRun.getT s)
theorem ob_eq (s : PySem.W.SharedT) : ob s = hk.obs s.abs := obsMXG_eq (HandSHeadRun.getT_eq s)
def loose : List PySem.Str := (["_wall", "canonical", "merged", "struck", "alone", "lost", "placed", "is_finer", "coarsened", "HandError", "BadRegions", "Refused", "LETTERS", "LONGEST", "is_name", "are_names", "grouped", "Regions", "mentioned", "DEMANDED", "Step", "_law_draws", "_law_at", "_law_names", "_law_labels"] : List PySem.Str) ++ (["_law_form", "_law_same", "_law_is", "_law_tie", "_law_gone", "_law_right"] : List PySem.Str)
theorem run_true (w : World) : HandSHeadRun.RunEq RR (PySem.W.view RR.prog [38]) hk ob 20000 loose (w.withFollow "special-get-raises" true) := by
  intro os
  kernel_rfl
theorem run_false (w : World) : HandSHeadRun.RunEq RR (PySem.W.view RR.prog [38]) hk ob 20000 loose (w.withFollow "special-get-raises" false) := by
  intro os
  kernel_rfl
theorem run1 (b : Bool) (w : World) : HandSHeadRun.RunEq RR (PySem.W.view RR.prog [38]) hk ob 20000 loose (w.withFollow "special-get-raises" b) := by
  cases b
  · exact run_false w
  · exact run_true w
theorem run (w : World) : HandSHeadRun.RunEq RR (PySem.W.view RR.prog [38]) hk ob 20000 loose w := by
  have h := run1 (w.params.followText "special-get-raises") w
  rwa [World.withFollow_self] at h

end NS
open PyProof.Rows PySem.Calls PySem.W PySem
theorem PySem.Challenge.cw_onehandparts_k29_statements_with_demands_holds : PySem.Challenge.rw_onehandparts_k29_statements_with_demands.Holds := by
  w_on; o_law
  refine HandSHeadRun.head_any (r := PySem.W.OpenLaw.row PySem.Challenge.rw_onehandparts_k29_statements_with_demands) (q := PySem.W.view (PySem.W.OpenLaw.row PySem.Challenge.rw_onehandparts_k29_statements_with_demands).prog [38]) (H := NS.hk) (ob := NS.ob) (M := 20000) (loose := NS.loose) (d := HandSHeadRun.topDef (PySem.W.OpenLaw.row PySem.Challenge.rw_onehandparts_k29_statements_with_demands).prog 38) (kwd := []) NS.ob_eq
    (by kernel_rfl) (fun s => by kernel_rfl) NS.run (by kernel_rfl) (by kernel_rfl) (by kernel_rfl) (by rfl) (by first | assumption | decide +kernel) (by decide +kernel) ⟨rfl, rfl, rfl, rfl, rfl, by decide +kernel⟩ ?hw ?hc
  case hw => w_witness2
  case hc =>
    refine L2.walk_ofE (l := PySem.Challenge.rw_onehandparts_k29_statements_with_demands) (n := 63) (k := 8) (x := "_law_script") (CX := L2.CX0) rfl (by decide) (by kernel_rfl) ⟨rfl, by decide, by decide⟩ ?F (fun _ _ _ _ z => z)
    intro w mg fa h Y G hmg0
    obtain ⟨K, KX, c⟩ := Y
    have hmg : mg ("law" : PySem.Str) = some (.ref fa) := by
      have e : (HandSHeadRun.topDef (PySem.W.OpenLaw.row PySem.Challenge.rw_onehandparts_k29_statements_with_demands).prog 38).name = ("law" : PySem.Str) := by kernel_rfl
      rw [← e]
      exact hmg0
    have T := NS.tx_of KX G c
    have e1 := hmg.symm.trans T.g_law
    cases e1
    obtain ⟨fd, F⟩ := T.f_law
    have hF : ∀ base : PySem.Heap, L2.FnOk (PySem.Challenge.rw_onehandparts_k29_statements_with_demands).prog w K mg base L2.CX0 8 (He.ga K "law") fd ["_law_script"] (fun vs H Q _ => Mi.spD (NS.gm K) NS.m_law vs H Q fun _ _ _ => False) := fun base => Mi.calm_of (NS.okf_law (w := w) (P := (PySem.Challenge.rw_onehandparts_k29_statements_with_demands).prog) (base := base) T F)
    exact ⟨K, fd, fun vs H Q _ => Mi.spD (NS.gm K) NS.m_law vs H Q fun _ _ _ => False, KX, fun s u => (L2.FunD.bindsA (ps := ["_law_script"]) F fun _ _ _ _ _ _ us hl => match us, hl with | [_], _ => rfl) s [u] rfl, fun H a ns hl _ hS => Mi.law_sp hS (NS.law_true ns hl), fun base _ _ => hF base⟩

