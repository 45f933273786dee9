import PyProof.Rows.All
import Wide.All
import OpenK.AllK
import Wide.FinOn
import HandS.ForMost
import HandS.ForExc
import HandS.HeadHook1
import HandS.Defaults
import HandS.CallSlots
import HandS.Property
import HandS.Wide
import HandS.IsInst
import HandS.Style
import KE.KOpsOwn
import KE.KCallOwn
import HandS.FStr
import HandS.OwnEq
import HandS.Ends
import HandS.Head0
import HandS.Head1
import HandS.Head2
import HandS.HeadEnd
import HandS.HeadHook2
import PyProof.InstNe
import PyProof.EqKinds
import PyProof.NeKinds
import PyProof.FactsAll.dict
import PySem.Challenge.RW_surelyends_k01_fractions_as_values
set_option Elab.async false
set_option linter.all false
set_option maxRecDepth 100000
set_option maxHeartbeats 2000000
namespace L3
open PySem L2

/-! ### own classes and built-in exceptions, by number -/
def clsName : Nat → Str
  | 0 => "Fraction" | 1 => "Program" | 2 => "Tosser" | 3 => "Book" | 4 => "Shell" | 5 => "Reader" | 6 => "Bodies" | 7 => "Tableau" | 8 => "Dial"
  | 10 => "EndError" | 11 => "InvalidFraction" | 12 => "InvalidRows" | 13 => "InvalidProgram" | 14 => "InvalidValues" | 15 => "InvalidOperation" | 16 => "InvalidEdit" | 17 => "ParseError" | 18 => "InvalidCommand"
  | 19 => "InvalidNumber" | 20 => "UnknownName" | 21 => "TooMany" | 22 => "NothingToUndo"
  | 30 => "Content" | 31 => "Trial" | 32 => "StatementLine" | 33 => "BodyLine" | 34 => "Frame" | 35 => "Moment" | 36 => "TosserTrial"
  | _ => ""
def cA (K : PySem.W.Frag) (c : Nat) : Addr := He.ga K (clsName c)
def bltX : Nat → Option String
  | 100 => some "TypeError" | 101 => some "ValueError" | 102 => some "KeyError" | 103 => some "IndexError" | 104 => some "AttributeError" | 105 => some "StopIteration"
  | _ => none
def xV (K : PySem.W.Frag) (c : Nat) : Value := match bltX c with
  | some n => .type n
  | none => .ref (cA K c)

/-! ### data -/
inductive D where
  | non | bl (b : Bool) | int (i : Int) | str (x : Str) | ty (n : String) | obj (a : Addr)
  | tup (ds : List D) | lst (ds : List D) | rdl (ds : List D) | dct (kvs : List (Key × D)) | ins (C : Nat) (fs : List (Str × D))
inductive OB where
  | lst (ds : List D) | ins (C : Nat) (fs : List (Str × D)) | dct (kvs : List (Key × D))
inductive S where
  | dead | dat (d : D) | own (o : OB) | par (o : OB)
@[reducible] def OB.toD : OB → D
  | .lst ds => .lst ds
  | .ins C fs => .ins C fs
  | .dct kvs => .dct kvs

mutual
inductive Rep (K : PySem.W.Frag) (F : Hp) : V → D → Prop
  | non : Rep K F .non .non
  | bl (b : Bool) : Rep K F (.bl b) (.bl b)
  | int (i : Int) : Rep K F (.int i) (.int i)
  | str (x : Str) : Rep K F (.str x) (.str x)
  | ty (n : String) : Rep K F (.ty n) (.ty n)
  | obj (a : Addr) : Rep K F (.ref a) (.obj a)
  | tup {a : Addr} {xs : List V} {ds : List D} : SqT K F a xs → RepL K F xs ds → Rep K F (.ref a) (.tup ds)
  | lst {a : Addr} {xs : List V} {ds : List D} : F a = some (.lst xs) → RepL K F xs ds → Rep K F (.ref a) (.lst ds)
  | rdl {a : Addr} {xs : List V} {ds : List D} : SqL K F a xs → RepL K F xs ds → Rep K F (.ref a) (.rdl ds)
  | dct {a : Addr} {kvs : List (Key × V)} {ds : List (Key × D)} : F a = some (.dK kvs) → RepK K F kvs ds → Rep K F (.ref a) (.dct ds)
  | ins {a dx : Addr} {C : Nat} {fs : List (Str × V)} {ds : List (Str × D)} : F a = some (.ins (cA K C) dx fs) → RepF K F fs ds → Rep K F (.ref a) (.ins C ds)
inductive RepL (K : PySem.W.Frag) (F : Hp) : List V → List D → Prop
  | nil : RepL K F [] []
  | cons {v : V} {d : D} {vs : List V} {ds : List D} : Rep K F v d → RepL K F vs ds → RepL K F (v :: vs) (d :: ds)
inductive RepF (K : PySem.W.Frag) (F : Hp) : List (Str × V) → List (Str × D) → Prop
  | nil : RepF K F [] []
  | cons {f : Str} {v : V} {d : D} {vs : List (Str × V)} {ds : List (Str × D)} : Rep K F v d → RepF K F vs ds → RepF K F ((f, v) :: vs) ((f, d) :: ds)
inductive RepK (K : PySem.W.Frag) (F : Hp) : List (Key × V) → List (Key × D) → Prop
  | nil : RepK K F [] []
  | cons {f : Key} {v : V} {d : D} {vs : List (Key × V)} {ds : List (Key × D)} : Rep K F v d → RepK K F vs ds → RepK K F ((f, v) :: vs) ((f, d) :: ds)
end
theorem same_sqT {K : PySem.W.Frag} {H H' : Hp} {a : Addr} {xs : List V} (e : Same H H') (h : SqT K H a xs) : SqT K H' a xs := by
  rcases h with (h | ⟨o, h⟩) | h
  · exact .inl (.inl (e _ _ h))
  · exact .inl (.inr ⟨o, e _ _ h⟩)
  · exact .inr h
section
variable {K : PySem.W.Frag} {F F' : Hp}
mutual
theorem Rep.mono (e : Same F F') : ∀ {v : V} {d : D}, Rep K F v d → Rep K F' v d
  | _, _, .non => .non
  | _, _, .bl b => .bl b
  | _, _, .int i => .int i
  | _, _, .str x => .str x
  | _, _, .ty n => .ty n
  | _, _, .obj a => .obj a
  | _, _, .tup h r => .tup (same_sqT e h) (RepL.mono e r)
  | _, _, .lst h r => .lst (e _ _ h) (RepL.mono e r)
  | _, _, .rdl h r => .rdl (e.seq h) (RepL.mono e r)
  | _, _, .dct h r => .dct (e _ _ h) (RepK.mono e r)
  | _, _, .ins h r => .ins (e _ _ h) (RepF.mono e r)
theorem RepL.mono (e : Same F F') : ∀ {v : List V} {d : List D}, RepL K F v d → RepL K F' v d
  | _, _, .nil => .nil
  | _, _, .cons h r => .cons (Rep.mono e h) (RepL.mono e r)
theorem RepF.mono (e : Same F F') : ∀ {v : List (Str × V)} {d : List (Str × D)}, RepF K F v d → RepF K F' v d
  | _, _, .nil => .nil
  | _, _, .cons h r => .cons (Rep.mono e h) (RepF.mono e r)
theorem RepK.mono (e : Same F F') : ∀ {v : List (Key × V)} {d : List (Key × D)}, RepK K F v d → RepK K F' v d
  | _, _, .nil => .nil
  | _, _, .cons h r => .cons (Rep.mono e h) (RepK.mono e r)
end
end

/-- an owned object's content -/
inductive RepO (K : PySem.W.Frag) (F : Hp) : HO → OB → Prop
  | lst {xs : List V} {ds : List D} : RepL K F xs ds → RepO K F (.lst xs) (.lst ds)
  | ins {C : Nat} {dx : Addr} {fs : List (Str × V)} {ds : List (Str × D)} : RepF K F fs ds → RepO K F (.ins (cA K C) dx fs) (.ins C ds)
  | dct {kvs : List (Key × V)} {ds : List (Key × D)} : RepK K F kvs ds → RepO K F (.dK kvs) (.dct ds)
theorem RepO.mono {K : PySem.W.Frag} {F F' : Hp} (e : Same F F') {u : HO} {o : OB} : RepO K F u o → RepO K F' u o
  | .lst r => .lst (r.mono e)
  | .ins r => .ins (r.mono e)
  | .dct r => .dct (r.mono e)
theorem RepO.rep {K : PySem.W.Frag} {F : Hp} {u : HO} {o : OB} {a : Addr} (h : F a = some u) : RepO K F u o → Rep K F (.ref a) o.toD
  | .lst r => .lst h r
  | .ins r => .ins h r
  | .dct r => .dct h r

/-! ### the state -/
structure Ctx where
  F : Hp
  H : Hp
  pa : Nat → Option Addr
  hd : Addr → Option HO
def Ctx.io (c : Ctx) (a : Addr) : Prop := ∃ i, c.pa i = some a
def OwnAt (ρ : List S) (σ : St) (i : Nat) (a : Addr) : Prop := (∃ o, ρ[i]? = some (S.own o) ∨ ρ[i]? = some (S.par o)) ∧ σ[i]? = some (some (V.ref a))
def SlotOk (K : PySem.W.Frag) (c : Ctx) (F H : Hp) (i : Nat) (s : S) (x : Option V) : Prop := match s with
  | .dead => True
  | .dat d => ∃ v, x = some v ∧ Rep K F v d
  | .own o => ∃ a u, x = some (V.ref a) ∧ F a = none ∧ H a = some u ∧ RepO K F u o ∧ c.H a = none
  | .par o => ∃ a u, x = some (V.ref a) ∧ F a = none ∧ H a = some u ∧ RepO K F u o ∧ c.pa i = some a
structure W (K : PySem.W.Frag) (c : Ctx) (F : Hp) (ρ : List S) (σ : St) (H : Hp) : Prop where
  sub : Same F H
  ext : Same c.F F
  frm : ∀ b o, c.H b = some o → ¬ c.io b → H b = some o
  new : ∀ b o, F b = some o → c.F b = none → c.H b = none
  dom : ∀ b, H b = none → c.H b = none
  slot : ∀ (i : Nat) (s : S), ρ[i]? = some s → ∃ x, σ[i]? = some x ∧ SlotOk K c F H i s x
  dj : ∀ (i j : Nat) (a : Addr), OwnAt ρ σ i a → OwnAt ρ σ j a → i = j
  held : ∀ a u, c.hd a = some u → H a = some u ∧ F a = none ∧ ∀ j, ¬ OwnAt ρ σ j a

/-- an exception: its class, its fields -/
structure Xc where
  C : Nat
  fs : Option (List (Str × D))
inductive R (α : Type) where
  | ok (a : α) | ex (x : Xc)
abbrev M (α : Type) := List S → Option (R α × List S)
@[inline] def M.pure {α : Type} (a : α) : M α := fun ρ => some (.ok a, ρ)
@[inline] def M.bind {α β : Type} (m : M α) (f : α → M β) : M β := fun ρ => match m ρ with
  | some (.ok a, ρ1) => f a ρ1
  | some (.ex x, ρ1) => some (.ex x, ρ1)
  | none => none
@[inline] def M.lift {α : Type} (o : Option α) : M α := fun ρ => match o with
  | some a => some (.ok a, ρ)
  | none => none
def RepX (K : PySem.W.Frag) (F H : Hp) (d : Option Addr) (x : Xc) : Prop := match x.fs with
  | none => d = none
  | some ds => ∃ a fs, d = some a ∧ H a = some (.xd fs) ∧ RepF K F fs ds

/-! ### readings by semantics -/
def PostX (K : PySem.W.Frag) (Wx : WX) (c : Ctx) (F : Hp) (ρ' : List S) (σ : St) (x : Xc) : Prop :=
  ∀ F' d H', Same F F' → W K c F' ρ' σ H' → RepX K F' H' d x → Wx (xV K x.C) d σ H'
def PostR {α : Type} (K : PySem.W.Frag) (Wx : WX) (c : Ctx) (F : Hp) (ρ' : List S) (σ : St) (P : α → Hp → Hp → Prop) (r : R α) : Prop := match r with
  | .ok a => ∀ F' H', Same F F' → W K c F' ρ' σ H' → P a F' H'
  | .ex x => PostX K Wx c F ρ' σ x
/-- there is a state of data here, the semantics m has a result from it, and what follows holds behind -/
def tM {α : Type} (K : PySem.W.Frag) (Wx : WX) (m : M α) (σ : St) (H : Hp) (P : Ctx → List S → α → Hp → Hp → Prop) : Prop :=
  ∃ (c : Ctx) (F : Hp) (ρ : List S) (r : R α) (ρ' : List S), W K c F ρ σ H ∧ m ρ = some (r, ρ') ∧ PostR K Wx c F ρ' σ (P c ρ') r
def tE (K : PySem.W.Frag) (Wx : WX) (m : M D) : TE := fun σ H Q => tM K Wx m σ H fun _ _ d F' H' => ∀ v, Rep K F' v d → Q v H'
def tO (K : PySem.W.Frag) (Wx : WX) (m : M OB) : TE := fun σ H Q => tM K Wx m σ H fun c ρ' o F' H' => ∀ a u, F' a = none → H' a = some u → RepO K F' u o → c.H a = none → c.hd a = none → (∀ i, ¬ OwnAt ρ' σ i a) → Q (V.ref a) H'
def tT (K : PySem.W.Frag) (Wx : WX) (m : M Bool) : TT := fun σ H Q => tM K Wx m σ H fun _ _ b _ H' => Q b H'
def tA (K : PySem.W.Frag) (Wx : WX) (m : M (List D)) : TA := fun σ H Q => tM K Wx m σ H fun _ _ ds F' H' => ∀ vs, RepL K F' vs ds → Q vs H'
/-- an argument: data, or an owned object by its slot -/
inductive Ag where
  | d (d : D) | s (i : Nat)
inductive RepG (K : PySem.W.Frag) (F : Hp) (σ : St) : List V → List Ag → Prop
  | nil : RepG K F σ [] []
  | d {v : V} {d : D} {vs : List V} {gs : List Ag} : Rep K F v d → RepG K F σ vs gs → RepG K F σ (v :: vs) (.d d :: gs)
  | s {a : Addr} {i : Nat} {vs : List V} {gs : List Ag} : σ[i]? = some (some (V.ref a)) → RepG K F σ vs gs → RepG K F σ (V.ref a :: vs) (.s i :: gs)
theorem RepG.mono {K : PySem.W.Frag} {F F' : Hp} {σ : St} (e : Same F F') : ∀ {vs : List V} {gs : List Ag}, RepG K F σ vs gs → RepG K F' σ vs gs
  | _, _, .nil => .nil
  | _, _, .d h r => .d (h.mono e) (r.mono e)
  | _, _, .s h r => .s h (r.mono e)
def tG (K : PySem.W.Frag) (Wx : WX) (m : M (List Ag)) : TA := fun σ H Q => tM K Wx m σ H fun _ _ gs F' H' => ∀ vs, RepG K F' σ vs gs → Q vs H'
inductive Fl where
  | nx | bk | ct | rt (s : S)
/-- what a def hands back -/
def RepR (K : PySem.W.Frag) (c : Ctx) (F H : Hp) (v : V) (r : S) : Prop := match r with
  | .dat d => Rep K F v d
  | .own o => ∃ a u, v = V.ref a ∧ F a = none ∧ H a = some u ∧ RepO K F u o ∧ c.H a = none
  | _ => False
def PostS (K : PySem.W.Frag) (c : Ctx) (F : Hp) (ρ' : List S) (De : Ends) (f : Fl) : Prop := match f with
  | .nx => ∀ F' σ' H', Same F F' → W K c F' ρ' σ' H' → De.nx σ' H'
  | .bk => ∀ F' σ' H', Same F F' → W K c F' ρ' σ' H' → De.bk σ' H'
  | .ct => ∀ F' σ' H', Same F F' → W K c F' ρ' σ' H' → De.ct σ' H'
  | .rt s => ∀ F' σ' v H', Same F F' → W K c F' ρ' σ' H' → RepR K c F' H' v s → De.rt v H'
def PostF (K : PySem.W.Frag) (Wx : WX) (c : Ctx) (F : Hp) (ρ' : List S) (De : Ends) (r : R Fl) : Prop := match r with
  | .ok f => PostS K c F ρ' De f
  | .ex x => ∀ F' σ' d H', Same F F' → W K c F' ρ' σ' H' → RepX K F' H' d x → Wx (xV K x.C) d σ' H'
def tS (K : PySem.W.Frag) (Wx : WX) (m : M Fl) : TS := fun De σ H => ∃ (c : Ctx) (F : Hp) (ρ : List S) (r : R Fl) (ρ' : List S), W K c F ρ σ H ∧ m ρ = some (r, ρ') ∧ PostF K Wx c F ρ' De r

/-! ### the judgements -/
def PEM (X : Cx) (Wx : WX) (e : Expr) (m : M D) : Prop := PE X e (tE X.K Wx m)
def POM (X : Cx) (Wx : WX) (e : Expr) (m : M OB) : Prop := PE X e (tO X.K Wx m)
def PTM (X : Cx) (Wx : WX) (e : Expr) (m : M Bool) : Prop := PT X e (tT X.K Wx m)
def PAM (X : Cx) (Wx : WX) (es : List Expr) (m : M (List D)) : Prop := PA X es (tA X.K Wx m)
def PGM (X : Cx) (Wx : WX) (es : List Expr) (m : M (List Ag)) : Prop := PA X es (tG X.K Wx m)
def PSM (X : Cx) (Wx : WX) (st : Stmt) (m : M Fl) : Prop := PS X st (tS X.K Wx m)
def PSsM (X : Cx) (Wx : WX) (st : List Stmt) (m : M Fl) : Prop := PSs X st (tS X.K Wx m)
theorem pe_imp {X : Cx} {e : Expr} {t t' : TE} (h : PE X e t) (i : ∀ σ H Q, t' σ H Q → t σ H Q) : PE X e t' := ⟨fun pins s σ H Q I q => h.run pins s σ H Q I (i σ H Q q)⟩
theorem pt_imp {X : Cx} {e : Expr} {t t' : TT} (h : PT X e t) (i : ∀ σ H Q, t' σ H Q → t σ H Q) : PT X e t' := by
  constructor
  intro pins s σ H Q I q
  exact h.run pins s σ H Q I (i σ H Q q)
theorem pa_imp {X : Cx} {e : List Expr} {t t' : TA} (h : PA X e t) (i : ∀ σ H Q, t' σ H Q → t σ H Q) : PA X e t' := ⟨fun pos pins s σ H Q I q => h.run pos pins s σ H Q I (i σ H Q q)⟩
theorem ps_imp {X : Cx} {e : Stmt} {t t' : TS} (h : PS X e t) (i : ∀ De σ H, t' De σ H → t De σ H) : PS X e t' := ⟨fun pins s σ H De I q => h.run pins s σ H De I (i De σ H q)⟩
theorem pss_imp {X : Cx} {e : List Stmt} {t t' : TS} (h : PSs X e t) (i : ∀ De σ H, t' De σ H → t De σ H) : PSs X e t' := ⟨fun pins s σ H De I q => h.run pins s σ H De I (i De σ H q)⟩

section
variable {K : PySem.W.Frag} {Wx : WX} {c : Ctx} {F F' : Hp} {ρ ρ' : List S} {σ : St} {H : Hp}
theorem PostX.mono {x : Xc} (e : Same F F') (h : PostX K Wx c F ρ' σ x) : PostX K Wx c F' ρ' σ x := fun F2 d H2 e2 w r => h F2 d H2 (e.trans e2) w r
theorem bind_ok {α β : Type} {m : M α} {f : α → M β} {a : α} {ρ ρ1 : List S} (h : m ρ = some (.ok a, ρ1)) : M.bind m f ρ = f a ρ1 := by
  unfold M.bind
  rw [h]
theorem bind_ex {α β : Type} {m : M α} {f : α → M β} {x : Xc} {ρ ρ1 : List S} (h : m ρ = some (.ex x, ρ1)) : M.bind m f ρ = some (.ex x, ρ1) := by
  unfold M.bind
  rw [h]
theorem bind_inv {α β : Type} {m : M α} {f : α → M β} {r : R β} {ρ ρ' : List S} (h : M.bind m f ρ = some (r, ρ')) :
    (∃ a ρ1, m ρ = some (.ok a, ρ1) ∧ f a ρ1 = some (r, ρ')) ∨ ∃ x, m ρ = some (.ex x, ρ') ∧ r = .ex x := by
  unfold M.bind at h
  cases e : m ρ with
  | none => rw [e] at h; cases h
  | some p =>
    obtain ⟨ra, ρ1⟩ := p
    rw [e] at h
    cases ra with
    | ok a => exact .inl ⟨a, ρ1, rfl, h⟩
    | ex x => cases h; exact .inr ⟨x, rfl, rfl⟩
theorem lift_inv {α : Type} {o : Option α} {r : R α} {ρ ρ' : List S} (h : M.lift o ρ = some (r, ρ')) : ∃ a, o = some a ∧ r = .ok a ∧ ρ' = ρ := by
  unfold M.lift at h
  cases o with
  | none => cases h
  | some a => cases h; exact ⟨a, rfl, rfl, rfl⟩
end
/-! ### the state's lemmas -/
section
variable {K : PySem.W.Frag} {c : Ctx} {F F' : Hp} {ρ ρ' : List S} {σ : St} {H : Hp} {i : Nat} {v : V} {d : D} {a : Addr} {u : HO} {o : OB}
theorem get_set_some {α : Type} {l : List α} {i j : Nat} {x y : α} (h : (l.set i x)[j]? = some y) : (i = j ∧ y = x ∧ i < l.length) ∨ (i ≠ j ∧ l[j]? = some y) := by
  by_cases e : i = j
  · subst e
    by_cases hi : i < l.length
    · rw [List.getElem?_set_self hi] at h
      exact .inl ⟨rfl, (Option.some.inj h).symm, hi⟩
    · have : (l.set i x)[i]? = none := List.getElem?_eq_none_iff.mpr (by rw [List.length_set]; omega)
      rw [this] at h
      cases h
  · rw [List.getElem?_set_ne e] at h
    exact .inr ⟨e, h⟩
theorem W.len (w : W K c F ρ σ H) (hi : i < ρ.length) : i < σ.length := by
  obtain ⟨x, hx, _⟩ := w.slot i ρ[i] (List.getElem?_eq_getElem hi)
  exact (List.getElem?_eq_some_iff.mp hx).1
theorem own_set_ne {s : S} {x : Option V} {j : Nat} {b : Addr} (e : i ≠ j) (h : OwnAt (ρ.set i s) (σ.set i x) j b) : OwnAt ρ σ j b := by
  obtain ⟨⟨o, h1⟩, h2⟩ := h
  rw [List.getElem?_set_ne e] at h1 h2
  exact ⟨⟨o, h1⟩, h2⟩
/-- no new owner -/
theorem own_set_plain {s : S} {x : Option V} {j : Nat} {b : Addr} (hs : ∀ o, s ≠ .own o ∧ s ≠ .par o) (h : OwnAt (ρ.set i s) (σ.set i x) j b) : OwnAt ρ σ j b := by
  by_cases e : i = j
  · subst e
    obtain ⟨⟨o, h1⟩, _⟩ := h
    rcases h1 with h1 | h1
    · rcases get_set_some h1 with ⟨_, z, _⟩ | ⟨z, _⟩
      · exact absurd z.symm (hs o).1
      · exact absurd rfl z
    · rcases get_set_some h1 with ⟨_, z, _⟩ | ⟨z, _⟩
      · exact absurd z.symm (hs o).2
      · exact absurd rfl z
  · exact own_set_ne e h
theorem W.setP {s : S} {x : Option V} (w : W K c F ρ σ H) (hs : ∀ o, s ≠ .own o ∧ s ≠ .par o) (ok : SlotOk K c F H i s x) : W K c F (ρ.set i s) (σ.set i x) H := by
  refine ⟨w.sub, w.ext, w.frm, w.new, w.dom, fun j t hj => ?_, fun j k b h1 h2 => w.dj j k b (own_set_plain hs h1) (own_set_plain hs h2), fun b u hb => ?_⟩
  · rcases get_set_some hj with ⟨rfl, rfl, hi⟩ | ⟨e, hj⟩
    · exact ⟨_, List.getElem?_set_self (w.len hi), ok⟩
    · obtain ⟨y, hy, q⟩ := w.slot j t hj
      exact ⟨y, by rw [List.getElem?_set_ne e]; exact hy, q⟩
  · obtain ⟨h1, h2, h3⟩ := w.held b u hb
    exact ⟨h1, h2, fun j q => h3 j (own_set_plain hs q)⟩
/-- a slot gets data -/
theorem W.setD (w : W K c F ρ σ H) (r : Rep K F v d) : W K c F (ρ.set i (.dat d)) (σ.set i (some v)) H :=
  w.setP (fun o => ⟨(fun z => nomatch z), (fun z => nomatch z)⟩) ⟨v, rfl, r⟩
theorem W.setX (w : W K c F ρ σ H) (x : Option V) : W K c F (ρ.set i .dead) (σ.set i x) H :=
  w.setP (fun o => ⟨(fun z => nomatch z), (fun z => nomatch z)⟩) trivial
/-- a slot gets an object of its own -/
theorem W.setO (w : W K c F ρ σ H) (hF : F a = none) (hH : H a = some u) (r : RepO K F u o) (h0 : c.H a = none) (hh : c.hd a = none) (no : ∀ j, ¬ OwnAt ρ σ j a) :
    W K c F (ρ.set i (.own o)) (σ.set i (some (V.ref a))) H := by
  have at_ : ∀ {j : Nat} {b : Addr}, OwnAt (ρ.set i (.own o)) (σ.set i (some (V.ref a))) j b → (i = j ∧ b = a) ∨ (i ≠ j ∧ OwnAt ρ σ j b) := fun {j b} h => by
    by_cases e : i = j
    · subst e
      obtain ⟨_, h2⟩ := h
      rcases get_set_some h2 with ⟨_, z, _⟩ | ⟨z, _⟩
      · cases z; exact .inl ⟨rfl, rfl⟩
      · exact absurd rfl z
    · exact .inr ⟨e, own_set_ne e h⟩
  refine ⟨w.sub, w.ext, w.frm, w.new, w.dom, fun j s hj => ?_, fun j k b h1 h2 => ?_, fun b x hb => ?_⟩
  · rcases get_set_some hj with ⟨rfl, rfl, hi⟩ | ⟨e, hj⟩
    · exact ⟨_, List.getElem?_set_self (w.len hi), a, u, rfl, hF, hH, r, h0⟩
    · obtain ⟨x, hx, ok⟩ := w.slot j s hj
      exact ⟨x, by rw [List.getElem?_set_ne e]; exact hx, ok⟩
  · rcases at_ h1 with ⟨rfl, rfl⟩ | ⟨_, q1⟩
    · rcases at_ h2 with ⟨rfl, _⟩ | ⟨_, q2⟩
      · rfl
      · exact absurd q2 (no k)
    · rcases at_ h2 with ⟨rfl, rfl⟩ | ⟨_, q2⟩
      · exact absurd q1 (no j)
      · exact w.dj j k b q1 q2
  · obtain ⟨h1, h2, h3⟩ := w.held b x hb
    refine ⟨h1, h2, fun j q => ?_⟩
    rcases at_ q with ⟨_, rfl⟩ | ⟨_, q⟩
    · rw [hh] at hb; cases hb
    · exact h3 j q
theorem same_upd (h : F a = none) : Same F (upd F a u) := fun b o e => by
  rw [upd_ne (ne_of_none e h)]
  exact e
/-- an object of its own, in no slot, is frozen -/
theorem W.frz (w : W K c F ρ σ H) (hF : F a = none) (hH : H a = some u) (h0 : c.H a = none) (hh : c.hd a = none) (no : ∀ j, ¬ OwnAt ρ σ j a) : W K c (upd F a u) ρ σ H := by
  refine ⟨fun b x e => ?_, w.ext.trans (same_upd hF), w.frm, fun b x e n => ?_, w.dom, fun j s hj => ?_, w.dj, fun b x hb => ?_⟩
  · by_cases hb : b = a
    · subst hb
      rw [upd_same] at e
      cases e
      exact hH
    · rw [upd_ne hb] at e
      exact w.sub _ _ e
  · by_cases hb : b = a
    · rw [hb]; exact h0
    · rw [upd_ne hb] at e
      exact w.new _ _ e n
  · obtain ⟨x, hx, ok⟩ := w.slot j s hj
    refine ⟨x, hx, ?_⟩
    cases s with
    | dead => trivial
    | dat d => obtain ⟨v, e, r⟩ := ok; exact ⟨v, e, r.mono (same_upd hF)⟩
    | own o =>
      obtain ⟨b, u', e, f, g, r, h⟩ := ok
      have ne : b ≠ a := fun z => no j ⟨⟨o, .inl hj⟩, by rw [hx, e, z]⟩
      exact ⟨b, u', e, by rw [upd_ne ne]; exact f, g, r.mono (same_upd hF), h⟩
    | par o =>
      obtain ⟨b, u', e, f, g, r, h⟩ := ok
      have ne : b ≠ a := fun z => no j ⟨⟨o, .inr hj⟩, by rw [hx, e, z]⟩
      exact ⟨b, u', e, by rw [upd_ne ne]; exact f, g, r.mono (same_upd hF), h⟩
  · obtain ⟨h1, h2, h3⟩ := w.held b x hb
    refine ⟨h1, ?_, h3⟩
    rw [upd_ne (fun z => by rw [z, hh] at hb; cases hb)]
    exact h2
/-- an owned object is in the heap -/
theorem W.own_in (w : W K c F ρ σ H) {j : Nat} (h : OwnAt ρ σ j a) : ∃ u, H a = some u := by
  obtain ⟨⟨o, h1⟩, h2⟩ := h
  rcases h1 with h1 | h1
  · obtain ⟨x, hx, b, u', e, _, g, _⟩ := w.slot j _ h1
    rw [h2] at hx
    cases hx
    cases e
    exact ⟨_, g⟩
  · obtain ⟨x, hx, b, u', e, _, g, _⟩ := w.slot j _ h1
    rw [h2] at hx
    cases hx
    cases e
    exact ⟨_, g⟩
/-- a new object, not frozen, in no slot -/
theorem W.alloc (w : W K c F ρ σ H) (hp : H a = none) : W K c F ρ σ (upd H a u) ∧ F a = none ∧ c.H a = none ∧ c.hd a = none ∧ ∀ j, ¬ OwnAt ρ σ j a := by
  have hF : F a = none := w.sub.free hp
  have hh : c.hd a = none := by
    cases e : c.hd a with
    | none => rfl
    | some x =>
      have q := (w.held a x e).1
      rw [hp] at q
      cases q
  have no : ∀ j, ¬ OwnAt ρ σ j a := fun j h => by
    obtain ⟨u, hu⟩ := w.own_in h
    rw [hp] at hu
    cases hu
  refine ⟨⟨fun b x e => ?_, w.ext, fun b x e n => ?_, w.new, fun b e => ?_, fun j s hj => ?_, w.dj, fun b x hb => ?_⟩, hF, w.dom _ hp, hh, no⟩
  · rw [upd_ne (ne_of_none (w.sub _ _ e) hp)]
    exact w.sub _ _ e
  · rw [upd_ne (ne_of_none (w.frm _ _ e n) hp)]
    exact w.frm _ _ e n
  · by_cases hb : b = a
    · rw [hb, upd_same] at e
      cases e
    · rw [upd_ne hb] at e
      exact w.dom _ e
  · obtain ⟨x, hx, ok⟩ := w.slot j s hj
    refine ⟨x, hx, ?_⟩
    cases s with
    | dead => trivial
    | dat d => exact ok
    | own o =>
      obtain ⟨b, u', e, f, g, r, h⟩ := ok
      exact ⟨b, u', e, f, by rw [upd_ne (ne_of_none g hp)]; exact g, r, h⟩
    | par o =>
      obtain ⟨b, u', e, f, g, r, h⟩ := ok
      exact ⟨b, u', e, f, by rw [upd_ne (ne_of_none g hp)]; exact g, r, h⟩
  · obtain ⟨h1, h2, h3⟩ := w.held b x hb
    exact ⟨by rw [upd_ne (ne_of_none h1 hp)]; exact h1, h2, h3⟩
/-- a new object, frozen at once -/
theorem W.allocF (w : W K c F ρ σ H) (hp : H a = none) : W K c (upd F a u) ρ σ (upd H a u) ∧ Same F (upd F a u) := by
  obtain ⟨w1, hF, h0, hh, no⟩ := w.alloc (u := u) hp
  exact ⟨w1.frz hF upd_same h0 hh no, same_upd hF⟩
/-- the kind of slot stays, its object is another -/
def S.put (s : S) (o : OB) : S := match s with
  | .par _ => .par o
  | _ => .own o
/-- the object of slot i changes -/
theorem W.chg {s : S} (w : W K c F ρ σ H) (hs : ρ[i]? = some s) (h : OwnAt ρ σ i a) (r : RepO K F u o) : W K c F (ρ.set i (s.put o)) σ (upd H a u) := by
  have h' := h
  obtain ⟨⟨o0, h1⟩, h2⟩ := h'
  have key : F a = none ∧ (∀ b x, c.H b = some x → ¬ c.io b → b ≠ a) ∧ SlotOk K c F (upd H a u) i (s.put o) (some (V.ref a)) := by
    rcases h1 with h1 | h1
    · obtain ⟨x, hx, b, u', e, f, g, _, h0⟩ := w.slot i _ h1
      rw [h2] at hx
      cases hx
      cases e
      rw [hs] at h1
      cases h1
      refine ⟨f, fun b x e n z => ?_, a, u, rfl, f, upd_same, r, h0⟩
      rw [z, h0] at e; cases e
    · obtain ⟨x, hx, b, u', e, f, g, _, h0⟩ := w.slot i _ h1
      rw [h2] at hx
      cases hx
      cases e
      rw [hs] at h1
      cases h1
      exact ⟨f, fun b x e n z => n ⟨i, by rw [z]; exact h0⟩, a, u, rfl, f, upd_same, r, h0⟩
  obtain ⟨fa, hne, hok⟩ := key
  have own' : ∀ {j : Nat} {b : Addr}, OwnAt (ρ.set i (s.put o)) σ j b → OwnAt ρ σ j b := fun {j b} q => by
    by_cases e : i = j
    · subst e
      exact ⟨⟨o0, h1⟩, q.2⟩
    · obtain ⟨⟨o', q1⟩, q2⟩ := q
      rw [List.getElem?_set_ne e] at q1
      exact ⟨⟨o', q1⟩, q2⟩
  refine ⟨fun b x e => ?_, w.ext, fun b x e n => ?_, w.new, fun b e => ?_, fun j t hj => ?_, fun j k b q1 q2 => w.dj j k b (own' q1) (own' q2), fun b x hb => ?_⟩
  · rw [upd_ne (ne_of_none e fa)]
    exact w.sub _ _ e
  · rw [upd_ne (hne b x e n)]
    exact w.frm _ _ e n
  · by_cases hb : b = a
    · rw [hb, upd_same] at e
      cases e
    · rw [upd_ne hb] at e
      exact w.dom _ e
  · rcases get_set_some hj with ⟨rfl, rfl, hi⟩ | ⟨e, hj⟩
    · exact ⟨_, h2, hok⟩
    · obtain ⟨x, hx, ok⟩ := w.slot j t hj
      refine ⟨x, hx, ?_⟩
      cases t with
      | dead => trivial
      | dat d => exact ok
      | own o' =>
        obtain ⟨b, u', e', f, g, r', h0⟩ := ok
        have ne : b ≠ a := fun z => e (w.dj i j a h ⟨⟨o', .inl hj⟩, by rw [hx, e', z]⟩)
        exact ⟨b, u', e', f, by rw [upd_ne ne]; exact g, r', h0⟩
      | par o' =>
        obtain ⟨b, u', e', f, g, r', h0⟩ := ok
        have ne : b ≠ a := fun z => e (w.dj i j a h ⟨⟨o', .inr hj⟩, by rw [hx, e', z]⟩)
        exact ⟨b, u', e', f, by rw [upd_ne ne]; exact g, r', h0⟩
  · obtain ⟨q1, q2, q3⟩ := w.held b x hb
    exact ⟨by rw [upd_ne (fun z => q3 i (by rw [z]; exact h))]; exact q1, q2, fun j q => q3 j (own' q)⟩
/-- an object that no slot owns is held -/
theorem W.hold (w : W K c F ρ σ H) (hF : F a = none) (hH : H a = some u) (no : ∀ j, ¬ OwnAt ρ σ j a) : W K { c with hd := fun b => if b = a then some u else c.hd b } F ρ σ H := by
  refine ⟨w.sub, w.ext, w.frm, w.new, w.dom, fun j s hj => ?_, w.dj, fun b x hb => ?_⟩
  · obtain ⟨x, hx, ok⟩ := w.slot j s hj
    refine ⟨x, hx, ?_⟩
    cases s <;> exact ok
  · have hb' : (if b = a then some u else c.hd b) = some x := hb
    by_cases e : b = a
    · subst e
      rw [if_pos rfl] at hb'
      cases hb'
      exact ⟨hH, hF, no⟩
    · rw [if_neg e] at hb'
      exact w.held b x hb'
/-- .. and let go -/
theorem W.unhold (w : W K { c with hd := fun b => if b = a then some u else c.hd b } F ρ σ H) (n : c.hd a = none) : W K c F ρ σ H ∧ H a = some u ∧ F a = none ∧ ∀ j, ¬ OwnAt ρ σ j a := by
  have q := w.held a u (by show (if a = a then some u else c.hd a) = some u; rw [if_pos rfl])
  refine ⟨⟨w.sub, w.ext, w.frm, w.new, w.dom, fun j s hj => ?_, w.dj, fun b x hb => ?_⟩, q.1, q.2.1, q.2.2⟩
  · obtain ⟨x, hx, ok⟩ := w.slot j s hj
    refine ⟨x, hx, ?_⟩
    cases s <;> exact ok
  · refine w.held b x ?_
    show (if b = a then some u else c.hd b) = some x
    rw [if_neg (fun z => by rw [z, n] at hb; cases hb)]
    exact hb
end
end L3
set_option Elab.async false
set_option linter.all false
set_option maxRecDepth 100000
set_option maxHeartbeats 2000000
namespace L3
open PySem PySem.Spec PyProof.Rows L2

/-! ### defs: semantics of a whole def -/
abbrev G := List S → Option (R S × List S)
def parsOk : List S → List S → Bool
  | [], _ => true
  | .par _ :: ss, .par _ :: ρ => parsOk ss ρ
  | .par _ :: _, _ => false
  | _ :: ss, _ :: ρ => parsOk ss ρ
  | _ :: _, [] => false
def fin (ss ρ' : List S) (r : R S) : Option (R S × List S) := if parsOk ss ρ' then some (r, ρ'.take ss.length) else none
def fnSem (n : Nat) (m : M Fl) : G := fun ss => match m (ss ++ List.replicate (n - ss.length) .dead) with
  | some (.ok .nx, ρ') => fin ss ρ' (.ok (.dat .non))
  | some (.ok (.rt s), ρ') => fin ss ρ' (.ok s)
  | some (.ex x, ρ') => fin ss ρ' (.ex x)
  | _ => none

structure ArgS (K : PySem.W.Frag) (F H : Hp) (vs : List V) (ss : List S) : Prop where
  len : ss.length = vs.length
  at_ : ∀ (i : Nat) (s : S), ss[i]? = some s → ∃ v, vs[i]? = some v ∧ match s with
    | .dat d => Rep K F v d
    | .par o => ∃ a u, v = V.ref a ∧ F a = none ∧ H a = some u ∧ RepO K F u o
    | _ => False
  dj : ∀ (i j : Nat) (o o' : OB) (a : Addr), ss[i]? = some (.par o) → ss[j]? = some (.par o') → vs[i]? = some (V.ref a) → vs[j]? = some (V.ref a) → i = j
def ioAt (vs : List V) (ss : List S) (b : Addr) : Prop := ∃ (i : Nat) (o : OB), ss[i]? = some (.par o) ∧ vs[i]? = some (V.ref b)
structure Ret (K : PySem.W.Frag) (F H : Hp) (vs : List V) (ss : List S) (F' H' : Hp) (ss' : List S) : Prop where
  sub : Same F' H'
  ext : Same F F'
  frm : ∀ b o, H b = some o → ¬ ioAt vs ss b → H' b = some o
  new : ∀ b o, F' b = some o → F b = none → H b = none
  dom : ∀ b, H' b = none → H b = none
  par : ∀ (i : Nat) (o : OB), ss[i]? = some (.par o) → ∃ a u o', vs[i]? = some (V.ref a) ∧ ss'[i]? = some (.par o') ∧ F' a = none ∧ H' a = some u ∧ RepO K F' u o'
def RetV (K : PySem.W.Frag) (F H H' : Hp) (v : V) (r : S) : Prop := match r with
  | .dat d => Rep K F v d
  | .own o => ∃ a u, v = V.ref a ∧ F a = none ∧ H' a = some u ∧ RepO K F u o ∧ H a = none
  | _ => False
/-- a def's promise by its semantics -/
def spG (K : PySem.W.Frag) (n : Nat) (g : G) : Sp := fun vs H Q E => vs.length = n ∧ ∃ F ss r ss', Same F H ∧ ArgS K F H vs ss ∧ g ss = some (r, ss') ∧ match r with
  | .ok s => ∀ F' v H', Ret K F H vs ss F' H' ss' → RetV K F' H H' v s → Q v H'
  | .ex x => ∀ F' d H', Ret K F H vs ss F' H' ss' → RepX K F' H' d x → E (xV K x.C) d H'

def paOf (vs : List V) (ss : List S) (i : Nat) : Option Addr := match ss[i]?, vs[i]? with
  | some (.par _), some (.ref a) => some a
  | _, _ => none
theorem paOf_some {vs : List V} {ss : List S} {i : Nat} {a : Addr} (h : paOf vs ss i = some a) : ∃ o, ss[i]? = some (.par o) ∧ vs[i]? = some (V.ref a) := by
  unfold paOf at h
  cases e1 : ss[i]? with
  | none => rw [e1] at h; cases h
  | some s =>
    cases e2 : vs[i]? with
    | none => rw [e1, e2] at h; cases s <;> cases h
    | some v =>
      rw [e1, e2] at h
      cases s <;> cases v <;> first | (cases h; done) | (cases h; exact ⟨_, rfl, rfl⟩)
theorem paOf_of {vs : List V} {ss : List S} {i : Nat} {a : Addr} {o : OB} (h1 : ss[i]? = some (.par o)) (h2 : vs[i]? = some (V.ref a)) : paOf vs ss i = some a := by
  unfold paOf
  rw [h1, h2]

theorem w_start {K : PySem.W.Frag} {F H : Hp} {vs : List V} {ss : List S} {N : List Str} (sub : Same F H) (A : ArgS K F H vs ss) (hN : vs.length ≤ N.length) :
    W K ⟨F, H, paOf vs ss, fun _ => none⟩ F (ss ++ List.replicate (N.length - ss.length) .dead) (L2.start N vs) H := by
  have hl := A.len
  have look : ∀ (i : Nat) (s : S), (ss ++ List.replicate (N.length - ss.length) S.dead)[i]? = some s → (ss[i]? = some s ∧ i < ss.length) ∨ (s = .dead ∧ ss.length ≤ i ∧ i < N.length) := fun i s h => by
    by_cases hi : i < ss.length
    · rw [List.getElem?_append_left hi] at h
      exact .inl ⟨h, hi⟩
    · rw [List.getElem?_append_right (by omega), List.getElem?_replicate] at h
      split at h
      · cases h
        exact .inr ⟨rfl, by omega, by omega⟩
      · cases h
  have st : ∀ (i : Nat) (v : V), vs[i]? = some v → (L2.start N vs)[i]? = some (some v) := fun i v h => by
    unfold L2.start
    have hi := (List.getElem?_eq_some_iff.mp h).1
    rw [List.getElem?_append_left (by rw [List.length_map]; exact hi), List.getElem?_map, h]
    rfl
  have own : ∀ {i : Nat} {a : Addr}, OwnAt (ss ++ List.replicate (N.length - ss.length) S.dead) (L2.start N vs) i a → ∃ o, ss[i]? = some (.par o) ∧ vs[i]? = some (V.ref a) := fun {i a} h => by
    obtain ⟨⟨o, h1⟩, h2⟩ := h
    rcases h1 with h1 | h1
    · rcases look _ _ h1 with ⟨q, _⟩ | ⟨q, _⟩
      · obtain ⟨v, _, z⟩ := A.at_ _ _ q
        exact z.elim
      · cases q
    · rcases look _ _ h1 with ⟨q, _⟩ | ⟨q, _⟩
      · obtain ⟨v, hv, _⟩ := A.at_ _ _ q
        rw [st _ _ hv] at h2
        cases h2
        exact ⟨o, q, hv⟩
      · cases q
  refine ⟨sub, Same.refl _, fun b o e _ => e, fun b o e n => ?_, fun b e => e, fun i s h => ?_, fun i j a h1 h2 => ?_, fun b u hb => nomatch hb⟩
  · have n' : F b = none := n
    rw [n'] at e
    cases e
  · rcases look _ _ h with ⟨q, _⟩ | ⟨rfl, h1, h2⟩
    · obtain ⟨v, hv, ok⟩ := A.at_ _ _ q
      refine ⟨some v, st _ _ hv, ?_⟩
      cases s with
      | dead => trivial
      | dat d => exact ⟨v, rfl, ok⟩
      | own o => exact ok.elim
      | par o =>
        obtain ⟨a, u, rfl, f, g, r⟩ := ok
        exact ⟨a, u, rfl, f, g, r, paOf_of q hv⟩
    · have hlt : i < (L2.start N vs).length := by
        unfold L2.start
        rw [List.length_append, List.length_map, List.length_replicate]
        omega
      exact ⟨_, List.getElem?_eq_getElem hlt, trivial⟩
  · obtain ⟨o1, a1, b1⟩ := own h1
    obtain ⟨o2, a2, b2⟩ := own h2
    exact A.dj i j o1 o2 a a1 a2 b1 b2

theorem parsOk_get : ∀ {ss ρ : List S} {i : Nat} {o : OB}, parsOk ss ρ = true → ss[i]? = some (.par o) → ∃ o', ρ[i]? = some (.par o')
  | [], _, _, _, _, h => by simp at h
  | .par o :: ss, .par o' :: ρ, 0, _, _, _ => ⟨o', rfl⟩
  | .par o :: ss, .par o' :: ρ, i + 1, _, h, e => parsOk_get (ss := ss) (ρ := ρ) (i := i) (by simpa [parsOk] using h) (by simpa using e)
  | .par _ :: _, [], _, _, h, _ => by simp [parsOk] at h
  | .par _ :: _, .dead :: _, _, _, h, _ => by simp [parsOk] at h
  | .par _ :: _, .dat _ :: _, _, _, h, _ => by simp [parsOk] at h
  | .par _ :: _, .own _ :: _, _, _, h, _ => by simp [parsOk] at h
  | .dead :: _, _ :: _, 0, _, _, e => by simp at e
  | .dat _ :: _, _ :: _, 0, _, _, e => by simp at e
  | .own _ :: _, _ :: _, 0, _, _, e => by simp at e
  | .dead :: ss, x :: ρ, i + 1, _, h, e => parsOk_get (ss := ss) (ρ := ρ) (i := i) (by simpa [parsOk] using h) (by simpa using e)
  | .dat _ :: ss, x :: ρ, i + 1, _, h, e => parsOk_get (ss := ss) (ρ := ρ) (i := i) (by simpa [parsOk] using h) (by simpa using e)
  | .own _ :: ss, x :: ρ, i + 1, _, h, e => parsOk_get (ss := ss) (ρ := ρ) (i := i) (by simpa [parsOk] using h) (by simpa using e)
  | .dead :: _, [], _, _, h, _ => by simp [parsOk] at h
  | .dat _ :: _, [], _, _, h, _ => by simp [parsOk] at h
  | .own _ :: _, [], _, _, h, _ => by simp [parsOk] at h

theorem w_end {K : PySem.W.Frag} {F H F' H' : Hp} {vs : List V} {ss ρ' : List S} {σ' : L2.St} (w : W K ⟨F, H, paOf vs ss, fun _ => none⟩ F' ρ' σ' H') (hp : parsOk ss ρ' = true) :
    Ret K F H vs ss F' H' (ρ'.take ss.length) := by
  refine ⟨w.sub, w.ext, fun b o e n => w.frm b o e fun ⟨i, hi⟩ => ?_, w.new, w.dom, fun i o h => ?_⟩
  · obtain ⟨o', h1, h2⟩ := paOf_some hi
    exact n ⟨i, o', h1, h2⟩
  · obtain ⟨o', ho⟩ := parsOk_get hp h
    obtain ⟨x, hx, a, u, e, f, g, r, q⟩ := w.slot i _ ho
    obtain ⟨_, _, hv⟩ := paOf_some q
    refine ⟨a, u, o', hv, ?_, f, g, r⟩
    rw [List.getElem?_take_of_lt (List.getElem?_eq_some_iff.mp h).1]
    exact ho

/-! ### FnG: as FnOk, where no repr runs around -/
structure FnG (P : Program) (w : World) (K : PySem.W.Frag) (mg : Str → Option Value) (base : Heap) (k : Nat) (f : Addr) (fd : FuncData) (ps : List Str) (sp : Sp) : Prop where
  len : ∀ vs H Q E, sp vs H Q E → vs.length = ps.length
  run : ∀ (A : Around) (outer : List Env) (s : Shared) (H : Hp) (args : Args) (us : List Value) (vs : List V) (Q : VK) (E : XK), A.guards = some [] → Room k A → Env0 P w K mg base A outer s H →
    BindsTo s fd args (ps.zip us) → Vals vs us → sp vs H Q E → codeAny (model P w) A (.call (.ref f) args) (CR (CX P w) outer P w H s Q E) s
theorem FnG.mono {P : Program} {w : World} {K : PySem.W.Frag} {mg : Str → Option Value} {base : Heap} {j k : Nat} {f : Addr} {fd : FuncData} {ps : List Str} {sp : Sp} (h : FnG P w K mg base j f fd ps sp) (hk : j ≤ k) : FnG P w K mg base k f fd ps sp :=
  ⟨h.len, fun A o s H a us vs Q E hg hr => h.run A o s H a us vs Q E hg (hr.mono hk)⟩

section
variable {P : Program} {w : World} {K : PySem.W.Frag} {mg : Str → Option Value} {base : Heap} {x qual : Str} {params : Arguments} {body : List Stmt} {scope : Scope} {dvs : List V} {kws : List (Str × V)} {f : Addr} {fd : FuncData} {N ps : List Str} {k : Nat}
/-- a def by its body, the guards known -/
theorem fng_of {sp : Sp} (Fd : FunD K x qual params body scope dvs kws f fd) (Sc : FnScope N ps scope) (len : ∀ vs H Q E, sp vs H Q E → vs.length = ps.length)
    (hbody : ∀ (cdv : Value) (A : Around) (outer : List Env) (s : Shared) (H : Hp) (vs : List V) (Q : VK) (E : XK), (A.deeper (envOfC qual scope s.heap.objs.size f cdv)).guards = some [] →
      Room k (A.deeper (envOfC qual scope s.heap.objs.size f cdv)) → sp vs H Q E →
      ∃ t, PSs (cxOf (CX P w) P w K mg base N qual scope f cdv A outer s H E) body t ∧ t { nx := fun _ H' => Q .non H', rt := Q } (L2.start N vs) H) :
    FnG P w K mg base (k + 1) f fd ps sp := by
  obtain ⟨oc, od, dV, kV, doc, pm, an, cdv, ct, osl, rfl, lk, hcd, _, _⟩ := Fd.ex
  refine ⟨len, fun A outer s H args us vs Q E hg hr e0 hb rv hsp => ?_⟩
  have KX : K.In s.heap := e0.mod.kin.keeps fun b o e => (e0.bs b o e).1
  have lim := e0.mod.nolimit.keeps fun b o e => (e0.bs b o e).1
  have hkind : ∀ y ∈ ps.zip us, scope.names.lookup y.1 = some .local ∨
      (scope.names.lookup y.1 = some .cell ∧ ((cellsFrom (s.heap.objs.size + 1) scope.names []).lookup y.1).isSome = true) := by
    intro y hy
    obtain ⟨n, v⟩ := y
    cases Sc.par n (List.of_mem_zip hy).1 with
    | inl q => exact Or.inl q
    | inr q => exact Or.inr ⟨q, PySem.W.cellsFrom_some _ _ _ (Or.inl q)⟩
  apply codeAny_call_function hr.depth (KX _ _ lk) rfl Sc.co Sc.gen rfl (PySem.W.codeRec_of KX hcd)
  apply hb
  apply wpAny_newFunctionEnv_cells Sc.kind hkind
  intro env he s1 ic
  subst he
  refine ⟨lim.keeps ic.toInCall.keep, codeAny_func ?_⟩
  obtain ⟨t, ht, hq⟩ := hbody cdv A outer s H vs Q E (by first | exact hg | simpa using hg) (hr.deeper _) hsp
  have I0 := inv_start (CX := CX P w) (E := E) Sc hr.hd e0 (len _ _ _ _ hsp) rv ic
  apply wpAny_mono (ht.run [] s1 (L2.start N vs) H _ I0 hq)
  · intro fl s' hs
    have done : ∀ {σ' : L2.St} {H' : Hp} {v : V} {u : Value}, Inv (cxOf (CX P w) P w K mg base N qual scope f cdv A outer s H E) [] σ' H' s' → RelV v u → Q v H' → CE outer P w H s Q u s' := by
      intro σ' H' v u J r q
      exact ⟨v, H', J.os, J.bare, J.base, J.hok, r, q⟩
    cases fl with
    | ret u =>
      obtain ⟨v, σ', H', J, r, q⟩ := hs
      exact done J r q
    | next =>
      obtain ⟨σ', H', J, q⟩ := hs
      exact done (v := V.non) (u := Value.none) J rfl q
    | brk => exact hs.choose_spec.choose_spec.2.elim
    | cont => exact hs.choose_spec.choose_spec.2.elim
  · exact fun _ _ h => h
/-- the body's wish -/
abbrev WE_ (E : XK) : WX := fun cls d _ H => E cls d H
/-- THE RULE: a def by its body's joined judgement -/
theorem fng_sem {m : M Fl} (Fd : FunD K x qual params body scope dvs kws f fd) (Sc : FnScope N ps scope)
    (hbody : ∀ (cdv : Value) (A : Around) (outer : List Env) (s : Shared) (H : Hp) (E : XK), (A.deeper (envOfC qual scope s.heap.objs.size f cdv)).guards = some [] →
      Room k (A.deeper (envOfC qual scope s.heap.objs.size f cdv)) → PSsM (cxOf (CX P w) P w K mg base N qual scope f cdv A outer s H E) (WE_ E) body m) :
    FnG P w K mg base (k + 1) f fd ps (spG K ps.length (fnSem N.length m)) := by
  refine fng_of Fd Sc (fun vs H Q E h => h.1) fun cdv A outer s H vs Q E hg hr h => ?_
  refine ⟨_, hbody cdv A outer s H E hg hr, ?_⟩
  obtain ⟨hl, F, ss, r, ss', sub, ar, hg', post⟩ := h
  have hN : vs.length ≤ N.length := by
    have := congrArg List.length Sc.pre
    rw [List.length_take] at this
    omega
  have w0 := w_start (N := N) sub ar hN
  unfold fnSem at hg'
  cases e : m (ss ++ List.replicate (N.length - ss.length) .dead) with
  | none => rw [e] at hg'; cases hg'
  | some p =>
    obtain ⟨rm, ρ'⟩ := p
    rw [e] at hg'
    refine ⟨_, F, _, rm, ρ', w0, e, ?_⟩
    cases rm with
    | ok fl =>
      cases fl with
      | bk => cases hg'
      | ct => cases hg'
      | nx =>
        have hg2 : fin ss ρ' (.ok (.dat .non)) = some (r, ss') := hg'
        unfold fin at hg2
        split at hg2
        · rename_i hp
          cases hg2
          intro F' σ' H' _ w
          exact post F' .non H' (w_end w hp) .non
        · cases hg2
      | rt s =>
        have hg2 : fin ss ρ' (.ok s) = some (r, ss') := hg'
        unfold fin at hg2
        split at hg2
        · rename_i hp
          cases hg2
          intro F' σ' v H' _ w rr
          refine post F' v H' (w_end w hp) ?_
          cases s with
          | dead => exact rr
          | par o => exact rr
          | dat d => exact rr
          | own o => exact rr
        · cases hg2
    | ex x =>
      have hg2 : fin ss ρ' (.ex x) = some (r, ss') := hg'
      unfold fin at hg2
      split at hg2
      · rename_i hp
        cases hg2
        intro F' σ' d H' _ w rx
        exact post F' d H' (w_end w hp) rx
      · cases hg2
end
end L3
set_option Elab.async false
set_option linter.all false
set_option maxRecDepth 100000
set_option maxHeartbeats 2000000
namespace L3
open PySem PySem.Spec PyProof.Rows L2

section
variable {K : PySem.W.Frag} {Wx : WX} {c : Ctx} {F F' : Hp} {ρ ρ' : List S} {σ : L2.St} {H : Hp}
theorem PostR.mono {α : Type} {P : α → Hp → Hp → Prop} {r : R α} (e : Same F F') (h : PostR K Wx c F ρ' σ P r) : PostR K Wx c F' ρ' σ P r := by
  cases r with
  | ok a => exact fun F2 H2 e2 w => h F2 H2 (e.trans e2) w
  | ex x => exact PostX.mono e h
theorem PostR.imp {α : Type} {P P' : α → Hp → Hp → Prop} {r : R α} (h : PostR K Wx c F ρ' σ P r) (i : ∀ a F' H', Same F F' → W K c F' ρ' σ H' → P a F' H' → P' a F' H') : PostR K Wx c F ρ' σ P' r := by
  cases r with
  | ok a => exact fun F2 H2 e2 w => i a F2 H2 e2 w (h F2 H2 e2 w)
  | ex x => exact h
theorem PostF.mono {De : Ends} {r : R Fl} (e : Same F F') (h : PostF K Wx c F ρ' De r) : PostF K Wx c F' ρ' De r := by
  cases r with
  | ok f =>
    cases f with
    | nx => exact fun F2 σ2 H2 e2 w => h F2 σ2 H2 (e.trans e2) w
    | bk => exact fun F2 σ2 H2 e2 w => h F2 σ2 H2 (e.trans e2) w
    | ct => exact fun F2 σ2 H2 e2 w => h F2 σ2 H2 (e.trans e2) w
    | rt s => exact fun F2 σ2 v H2 e2 w r => h F2 σ2 v H2 (e.trans e2) w r
  | ex x => exact fun F2 σ2 d H2 e2 w r => h F2 σ2 d H2 (e.trans e2) w r
/-- m, then what follows -/
theorem tM_bind {α β : Type} {m : M α} {f : α → M β} {P : Ctx → List S → β → Hp → Hp → Prop} (h : tM K Wx (m.bind f) σ H P) : tM K Wx m σ H (fun _ _ a _ H1 => tM K Wx (f a) σ H1 P) := by
  obtain ⟨c, F, ρ, r, ρ', w, hm, post⟩ := h
  rcases bind_inv hm with ⟨a, ρ1, h1, h2⟩ | ⟨x, h1, rfl⟩
  · exact ⟨c, F, ρ, .ok a, ρ1, w, h1, fun F1 H1 e1 w1 => ⟨c, F1, ρ1, r, ρ', w1, h2, post.mono e1⟩⟩
  · exact ⟨c, F, ρ, .ex x, ρ', w, h1, post⟩
theorem tM_imp {α : Type} {m : M α} {P P' : Ctx → List S → α → Hp → Hp → Prop} (h : tM K Wx m σ H P) (i : ∀ c ρ' a F' H', W K c F' ρ' σ H' → P c ρ' a F' H' → P' c ρ' a F' H') : tM K Wx m σ H P' := by
  obtain ⟨c, F, ρ, r, ρ', w, hm, post⟩ := h
  exact ⟨c, F, ρ, r, ρ', w, hm, post.imp fun a F' H' _ w p => i c ρ' a F' H' w p⟩
end

/-! ### the semantics' words -/
def mVar (i : Nat) : M D := fun ρ => match ρ[i]? with
  | some (.dat d) => some (.ok d, ρ)
  | _ => none
def mC (d : D) : M D := M.pure d
def mOp (f : D → D → Option D) (a b : M D) : M D := a.bind fun x => b.bind fun y => M.lift (f x y)
def mUn (f : D → Option D) (a : M D) : M D := a.bind fun x => M.lift (f x)
def mArgs : List (M D) → M (List D)
  | [] => M.pure []
  | a :: as => a.bind fun x => (mArgs as).bind fun xs => M.pure (x :: xs)
def mCB (f : List D → Option D) (as : List (M D)) : M D := (mArgs as).bind fun xs => M.lift (f xs)
def asB : D → Option Bool
  | .bl b => some b
  | _ => none
def mTest (a : M D) : M Bool := a.bind fun x => M.lift (asB x)
def mNot (a : M Bool) : M Bool := a.bind fun b => M.pure (!b)
def mAnd (a b : M Bool) : M Bool := a.bind fun x => if x = true then b else M.pure false
def mOr (a b : M Bool) : M Bool := a.bind fun x => if x = true then M.pure true else b
def mAndV (a b : M D) : M D := a.bind fun x => (M.lift (asB x)).bind fun t => if t = true then b else M.pure (.bl false)
def mOrV (a b : M D) : M D := a.bind fun x => (M.lift (asB x)).bind fun t => if t = true then M.pure (.bl true) else b
def mNotV (a : M D) : M D := a.bind fun x => (M.lift (asB x)).bind fun t => M.pure (.bl (!t))
def mIf (t : M Bool) (a b : M D) : M D := t.bind fun x => if x = true then a else b
def mBoth (f g : D → D → Option D) (a b c : M D) : M D := a.bind fun x => b.bind fun y => (M.lift (f x y)).bind fun z => (M.lift (asB z)).bind fun t => if t = true then c.bind fun u => M.lift (g y u) else M.pure (.bl false)
def mFrz (m : M OB) : M D := m.bind fun o => M.pure o.toD
def mLst (as : List (M D)) : M OB := (mArgs as).bind fun xs => M.lift (if xs.length ≤ 1000000 then some (.lst xs) else none)
def mTup (as : List (M D)) : M D := (mArgs as).bind fun xs => M.lift (if xs.length ≤ 1000000 then some (.tup xs) else none)

/-! ### operations on data -/
/-- a heap that grew: every state over the one is a state over the other -/
def Grow (K : PySem.W.Frag) (F H F' H' : Hp) : Prop := Same F F' ∧ ∀ c ρ σ, W K c F ρ σ H → W K c F' ρ σ H'
theorem Grow.refl {K : PySem.W.Frag} {F H : Hp} : Grow K F H F H := ⟨Same.refl _, fun _ _ _ w => w⟩
theorem Grow.new {K : PySem.W.Frag} {F H : Hp} {a : Addr} {u : HO} (sub : Same F H) (h : H a = none) : Grow K F H (upd F a u) (upd H a u) := ⟨same_upd (sub.free h), fun _ _ _ w => (w.allocF h).1⟩
def Op2 (K : PySem.W.Frag) (r : R2) (f : D → D → Option D) : Prop := ∀ F H x y d e z (Q : VK), Rep K F x d → Rep K F y e → Same F H → f d e = some z → (∀ F' v H', Grow K F H F' H' → Rep K F' v z → Q v H') → r x y H Q
def Op1 (K : PySem.W.Frag) (r : V → Hp → VK → Prop) (f : D → Option D) : Prop := ∀ F H x d z (Q : VK), Rep K F x d → Same F H → f d = some z → (∀ F' v H', Grow K F H F' H' → Rep K F' v z → Q v H') → r x H Q
def OpN (K : PySem.W.Frag) (r : List V → Hp → VK → Prop) (f : List D → Option D) : Prop := ∀ F H xs ds z (Q : VK), RepL K F xs ds → Same F H → f ds = some z → (∀ F' v H', Grow K F H F' H' → Rep K F' v z → Q v H') → r xs H Q

section
variable {X : Cx} {Wx : WX} {a b e : Expr} {es : List Expr} {ma mb mc me : M D} {pos : Pos}
theorem pem_var (i : Nat) {x : Str} {pos : Pos} (hN : X.N[i]? = some x := by rfl) (hv : Vis X.env.scope x := by first | exact Or.inl rfl | exact Or.inr (Or.inl rfl) | exact Or.inr (Or.inr rfl)) (hd : (x == ("__debug__" : Str)) = false := by decide)
    (hcd : (x == ("__classdict__" : Str)) = false := by decide) : PEM X Wx (.Name x pos) (mVar i) := by
  refine pe_imp (pe_var hN hv hd hcd) fun σ H Q h => ?_
  obtain ⟨c, F, ρ, r, ρ', w, hm, post⟩ := h
  unfold mVar at hm
  split at hm
  · rename_i d hs
    cases hm
    obtain ⟨x, hx, v, rfl, rv⟩ := w.slot i _ hs
    exact ⟨v, hx, post F H (Same.refl _) w v rv⟩
  · cases hm
theorem pem_c {v : V} {d : D} (h : PE X e (tC v)) (r : ∀ F, Rep X.K F v d) : PEM X Wx e (mC d) := by
  refine pe_imp h fun σ H Q h => ?_
  obtain ⟨c, F, ρ, rr, ρ', w, hm, post⟩ := h
  cases hm
  exact post F H (Same.refl _) w v (r F)
theorem op_imp {K : PySem.W.Frag} {r : R2} {g : D → D → Option D} (hs : Op2 K r g) (σ : L2.St) (H : Hp) (Q : VK) (h : tE K Wx (mOp g ma mb) σ H Q) : tOp r (tE K Wx ma) (tE K Wx mb) σ H Q := by
  obtain ⟨c, F, ρ, rr, ρ', w, hm, post⟩ := h
  rcases bind_inv hm with ⟨x, ρ1, h1, h2⟩ | ⟨x, h1, rfl⟩
  · refine ⟨c, F, ρ, .ok x, ρ1, w, h1, fun F1 H1 e1 w1 v1 r1 => ?_⟩
    rcases bind_inv h2 with ⟨y, ρ2, h3, h4⟩ | ⟨x, h3, rfl⟩
    · refine ⟨c, F1, ρ1, .ok y, ρ2, w1, h3, fun F2 H2 e2 w2 v2 r2 => ?_⟩
      obtain ⟨z, hz, rfl, rfl⟩ := lift_inv h4
      exact hs F2 H2 v1 v2 x y z Q (r1.mono e2) r2 w2.sub hz fun F3 v H3 g r3 => post F3 H3 ((e1.trans e2).trans g.1) (g.2 _ _ _ w2) v r3
    · exact ⟨c, F1, ρ1, .ex x, ρ', w1, h3, PostX.mono e1 post⟩
  · exact ⟨c, F, ρ, .ex x, ρ', w, h1, post⟩
theorem pem_op {r : R2} {g : D → D → Option D} {ea eb : Expr} (hp : ∀ {ta tb : TE}, PE X ea ta → PE X eb tb → PE X e (tOp r ta tb)) (hs : Op2 X.K r g) (ha : PEM X Wx ea ma) (hb : PEM X Wx eb mb) : PEM X Wx e (mOp g ma mb) :=
  pe_imp (hp ha hb) (op_imp hs)
theorem pem_un {r : V → Hp → VK → Prop} {g : D → Option D} {ea : Expr} (hp : ∀ {ta : TE}, PE X ea ta → PE X e (tUn r ta)) (hs : Op1 X.K r g) (ha : PEM X Wx ea ma) : PEM X Wx e (mUn g ma) := by
  refine pe_imp (hp ha) fun σ H Q h => ?_
  obtain ⟨c, F, ρ, rr, ρ', w, hm, post⟩ := h
  rcases bind_inv hm with ⟨x, ρ1, h1, h2⟩ | ⟨x, h1, rfl⟩
  · refine ⟨c, F, ρ, .ok x, ρ1, w, h1, fun F1 H1 e1 w1 v1 r1 => ?_⟩
    obtain ⟨z, hz, rfl, rfl⟩ := lift_inv h2
    exact hs F1 H1 v1 x z Q r1 w1.sub hz fun F3 v H3 g r3 => post F3 H3 (e1.trans g.1) (g.2 _ _ _ w1) v r3
  · exact ⟨c, F, ρ, .ex x, ρ', w, h1, post⟩
theorem pam_nil : PAM X Wx [] (mArgs []) := by
  refine pa_imp pa_nil fun σ H Q h => ?_
  obtain ⟨c, F, ρ, rr, ρ', w, hm, post⟩ := h
  cases hm
  exact post F H (Same.refl _) w [] .nil
theorem pam_cons {ms : List (M D)} (ha : PEM X Wx e me) (hr : PAM X Wx es (mArgs ms)) (hs : starEach (e :: es) X.env = (false, eval e X.env) :: starEach es X.env := by rfl) : PAM X Wx (e :: es) (mArgs (me :: ms)) := by
  refine pa_imp (pa_cons ha hr hs) fun σ H Q h => ?_
  obtain ⟨c, F, ρ, rr, ρ', w, hm, post⟩ := h
  rcases bind_inv hm with ⟨x, ρ1, h1, h2⟩ | ⟨x, h1, rfl⟩
  · refine ⟨c, F, ρ, .ok x, ρ1, w, h1, fun F1 H1 e1 w1 v1 r1 => ?_⟩
    rcases bind_inv h2 with ⟨y, ρ2, h3, h4⟩ | ⟨x, h3, rfl⟩
    · refine ⟨c, F1, ρ1, .ok y, ρ2, w1, h3, fun F2 H2 e2 w2 vs r2 => ?_⟩
      cases h4
      exact post F2 H2 (e1.trans e2) w2 (v1 :: vs) (.cons (r1.mono e2) r2)
    · exact ⟨c, F1, ρ1, .ex x, ρ', w1, h3, PostX.mono e1 post⟩
  · exact ⟨c, F, ρ, .ex x, ρ', w, h1, post⟩
/-- a call of a built-in by values -/
theorem pem_cb {r : List V → Hp → VK → Prop} {g : List D → Option D} {ms : List (M D)} (hp : ∀ {ta : TA}, PA X es ta → PE X e (tCB r ta)) (hs : OpN X.K r g) (ha : PAM X Wx es (mArgs ms)) : PEM X Wx e (mCB g ms) := by
  refine pe_imp (hp ha) fun σ H Q h => ?_
  obtain ⟨c, F, ρ, rr, ρ', w, hm, post⟩ := h
  rcases bind_inv hm with ⟨x, ρ1, h1, h2⟩ | ⟨x, h1, rfl⟩
  · refine ⟨c, F, ρ, .ok x, ρ1, w, h1, fun F1 H1 e1 w1 v1 r1 => ?_⟩
    obtain ⟨z, hz, rfl, rfl⟩ := lift_inv h2
    exact hs F1 H1 v1 x z Q r1 w1.sub hz fun F3 v H3 g r3 => post F3 H3 (e1.trans g.1) (g.2 _ _ _ w1) v r3
  · exact ⟨c, F, ρ, .ex x, ρ', w, h1, post⟩
theorem RepL.len {K : PySem.W.Frag} {F : Hp} : ∀ {vs : List V} {ds : List D}, RepL K F vs ds → vs.length = ds.length
  | _, _, .nil => rfl
  | _, _, .cons _ r => congrArg Nat.succ (RepL.len r)
theorem mil {n : Nat} (h : n ≤ 1000000) : n ≤ sizeLine := Nat.le_trans h (by decide)
theorem pem_tup {ms : List (M D)} {x1} (ha : PAM X Wx es (mArgs ms)) : PEM X Wx (.Tuple es x1 pos) (mTup ms) := by
  refine pe_imp (pe_tup ha) fun σ H Q h => ?_
  obtain ⟨c, F, ρ, rr, ρ', w, hm, post⟩ := h
  rcases bind_inv hm with ⟨xs, ρ1, h1, h2⟩ | ⟨x, h1, rfl⟩
  · refine ⟨c, F, ρ, .ok xs, ρ1, w, h1, fun F1 H1 e1 w1 vs r1 => ?_⟩
    obtain ⟨z, hz, rfl, rfl⟩ := lift_inv h2
    split at hz
    · rename_i hl
      cases hz
      refine ⟨by rw [r1.len]; exact mil hl, fun p hp => ?_⟩
      obtain ⟨w2, e2⟩ := w1.allocF (u := .tup vs) hp
      exact post _ _ (e1.trans e2) w2 (.ref p) (.tup (.inl (.inl upd_same)) (r1.mono e2))
    · cases hz
  · exact ⟨c, F, ρ, .ex x, ρ', w, h1, post⟩
theorem pom_lst {ms : List (M D)} (ha : PAM X Wx es (mArgs ms)) : POM X Wx (.List es pos) (mLst ms) := by
  refine pe_imp (pe_lst ha) fun σ H Q h => ?_
  obtain ⟨c, F, ρ, rr, ρ', w, hm, post⟩ := h
  rcases bind_inv hm with ⟨xs, ρ1, h1, h2⟩ | ⟨x, h1, rfl⟩
  · refine ⟨c, F, ρ, .ok xs, ρ1, w, h1, fun F1 H1 e1 w1 vs r1 => ?_⟩
    obtain ⟨z, hz, rfl, rfl⟩ := lift_inv h2
    split at hz
    · rename_i hl
      cases hz
      refine ⟨by rw [r1.len]; exact mil hl, fun p hp => ?_⟩
      obtain ⟨w2, q1, q2, q3, q4⟩ := w1.alloc (u := .lst vs) hp
      exact post _ _ e1 w2 p (.lst vs) q1 upd_same (.lst r1) q2 q3 q4
    · cases hz
  · exact ⟨c, F, ρ, .ex x, ρ', w, h1, post⟩
/-- an object of its own, used as data from now on -/
theorem pem_frz {mo : M OB} (h : POM X Wx e mo) : PEM X Wx e (mFrz mo) := by
  refine pe_imp h fun σ H Q h => ?_
  obtain ⟨c, F, ρ, rr, ρ', w, hm, post⟩ := h
  rcases bind_inv hm with ⟨o, ρ1, h1, h2⟩ | ⟨x, h1, rfl⟩
  · refine ⟨c, F, ρ, .ok o, ρ1, w, h1, fun F1 H1 e1 w1 a u q1 q2 q3 q4 q5 q6 => ?_⟩
    cases h2
    have s1 : Same F1 (upd F1 a u) := same_upd q1
    exact post (upd F1 a u) H1 (e1.trans s1) (w1.frz q1 q2 q4 q5 q6) (.ref a) ((q3.mono s1).rep upd_same)
  · exact ⟨c, F, ρ, .ex x, ρ', w, h1, post⟩

/-! ### tests -/
theorem test_imp {K : PySem.W.Frag} (σ : L2.St) (H : Hp) (Q : Bool → Hp → Prop) (h : tT K Wx (mTest me) σ H Q) : tE K Wx me σ H (fun x H' => ∃ k, x = V.bl k ∧ Q k H') := by
  obtain ⟨c, F, ρ, rr, ρ', w, hm, post⟩ := h
  rcases bind_inv hm with ⟨x, ρ1, h1, h2⟩ | ⟨x, h1, rfl⟩
  · refine ⟨c, F, ρ, .ok x, ρ1, w, h1, fun F1 H1 e1 w1 v1 r1 => ?_⟩
    obtain ⟨z, hz, rfl, rfl⟩ := lift_inv h2
    cases x <;> cases hz
    cases r1
    exact ⟨_, rfl, post F1 H1 e1 w1⟩
  · exact ⟨c, F, ρ, .ex x, ρ', w, h1, post⟩
theorem ptm_val (h : PEM X Wx e me) (he : ∀ whole, PySem.isTrue e X.env whole = (do let v ← whole; standAt e.pos; holding [v] (truthy v)) := by intro _; rfl) : PTM X Wx e (mTest me) :=
  pt_imp (pt_val h he) test_imp
theorem ptm_cmp {r : R2} {g : D → D → Option D} {ea eb : Expr} (hp : ∀ {ta tb : TE}, PE X ea ta → PE X eb tb → PT X e (tTest (tOp r ta tb))) (hs : Op2 X.K r g) (ha : PEM X Wx ea ma) (hb : PEM X Wx eb mb) : PTM X Wx e (mTest (mOp g ma mb)) :=
  pt_imp (hp ha hb) fun σ H Q h => op_imp hs σ H _ (test_imp σ H Q h)
theorem ptm_not {mt : M Bool} (h : PTM X Wx e mt) : PTM X Wx (.UnaryOp .Not e pos) (mNot mt) := by
  refine pt_imp (pt_not h) fun σ H Q h => ?_
  refine tM_imp (tM_bind h) fun c ρ' b F' H' w p => ?_
  obtain ⟨c, F, ρ, rr, ρ', w, hm, post⟩ := p
  cases hm
  exact post F H' (Same.refl _) w
/-- a row of and, of or -/
def PWM (X : Cx) (Wx : WX) (e : Expr) (m : M Bool) : Prop := PW X e (tT X.K Wx m)
theorem pw_imp {X : Cx} {e : Expr} {t t' : TT} (h : PW X e t) (i : ∀ σ H Q, t' σ H Q → t σ H Q) : PW X e t' := by
  constructor
  intro wh pins s σ H Q I q
  exact h.run wh pins s σ H Q I (i σ H Q q)
theorem pwm_pt {mt : M Bool} (h : PWM X Wx e mt) : PTM X Wx e mt := PW.pt h
theorem pwm_and1 {mt : M Bool} (h : PTM X Wx e mt) : PWM X Wx (.BoolOp .And [e] pos) mt := pw_and1 h
theorem pwm_or1 {mt : M Bool} (h : PTM X Wx e mt) : PWM X Wx (.BoolOp .Or [e] pos) mt := pw_or1 h
theorem pwm_and {mt mu : M Bool} {rest : List Expr} (h : PTM X Wx a mt) (hr : PWM X Wx (.BoolOp .And (b :: rest) pos) mu) : PWM X Wx (.BoolOp .And (a :: b :: rest) pos) (mAnd mt mu) := by
  refine pw_imp (pw_and h hr) fun σ H Q h => ?_
  refine tM_imp (tM_bind h) fun c ρ' t F' H' w p => ?_
  cases t with
  | true => exact p
  | false =>
    obtain ⟨c, F, ρ, rr, ρ', w, hm, post⟩ := p
    cases hm
    exact post F H' (Same.refl _) w
theorem pwm_or {mt mu : M Bool} {rest : List Expr} (h : PTM X Wx a mt) (hr : PWM X Wx (.BoolOp .Or (b :: rest) pos) mu) : PWM X Wx (.BoolOp .Or (a :: b :: rest) pos) (mOr mt mu) := by
  refine pw_imp (pw_or h hr) fun σ H Q h => ?_
  refine tM_imp (tM_bind h) fun c ρ' t F' H' w p => ?_
  cases t with
  | false => exact p
  | true =>
    obtain ⟨c, F, ρ, rr, ρ', w, hm, post⟩ := p
    cases hm
    exact post F H' (Same.refl _) w
/-! ### and, or, not, if as values -/
theorem pem_one {op} (h : PEM X Wx a ma) : PEM X Wx (.BoolOp op [a] pos) ma := pe_one h
theorem pem_and {rest : List Expr} (ha : PEM X Wx a ma) (hb : PEM X Wx (.BoolOp .And (b :: rest) pos) mb) : PEM X Wx (.BoolOp .And (a :: b :: rest) pos) (mAndV ma mb) := by
  refine pe_imp (pe_and ha hb) fun σ H Q h => ?_
  obtain ⟨c, F, ρ, rr, ρ', w, hm, post⟩ := h
  rcases bind_inv hm with ⟨x, ρ1, h1, h2⟩ | ⟨x, h1, rfl⟩
  · refine ⟨c, F, ρ, .ok x, ρ1, w, h1, fun F1 H1 e1 w1 v1 r1 => ?_⟩
    rcases bind_inv h2 with ⟨t, ρ2, h3, h4⟩ | ⟨y, h3, rfl⟩
    · obtain ⟨z, hz, q, rfl⟩ := lift_inv h3
      cases q
      cases x <;> cases hz
      cases r1
      refine ⟨_, rfl, ?_⟩
      cases t with
      | true => exact ⟨c, F1, ρ2, rr, ρ', w1, h4, post.mono e1⟩
      | false => cases h4; exact post F1 H1 e1 w1 _ (.bl false)
    · obtain ⟨_, _, q, _⟩ := lift_inv h3
      cases q
  · exact ⟨c, F, ρ, .ex x, ρ', w, h1, post⟩
theorem pem_or {rest : List Expr} (ha : PEM X Wx a ma) (hb : PEM X Wx (.BoolOp .Or (b :: rest) pos) mb) : PEM X Wx (.BoolOp .Or (a :: b :: rest) pos) (mOrV ma mb) := by
  refine pe_imp (pe_or ha hb) fun σ H Q h => ?_
  obtain ⟨c, F, ρ, rr, ρ', w, hm, post⟩ := h
  rcases bind_inv hm with ⟨x, ρ1, h1, h2⟩ | ⟨x, h1, rfl⟩
  · refine ⟨c, F, ρ, .ok x, ρ1, w, h1, fun F1 H1 e1 w1 v1 r1 => ?_⟩
    rcases bind_inv h2 with ⟨t, ρ2, h3, h4⟩ | ⟨y, h3, rfl⟩
    · obtain ⟨z, hz, q, rfl⟩ := lift_inv h3
      cases q
      cases x <;> cases hz
      cases r1
      refine ⟨_, rfl, ?_⟩
      cases t with
      | false => exact ⟨c, F1, ρ2, rr, ρ', w1, h4, post.mono e1⟩
      | true => cases h4; exact post F1 H1 e1 w1 _ (.bl true)
    · obtain ⟨_, _, q, _⟩ := lift_inv h3
      cases q
  · exact ⟨c, F, ρ, .ex x, ρ', w, h1, post⟩
theorem pem_not (ha : PEM X Wx a ma) : PEM X Wx (.UnaryOp .Not a pos) (mNotV ma) := by
  refine pe_imp (pe_not ha) fun σ H Q h => ?_
  obtain ⟨c, F, ρ, rr, ρ', w, hm, post⟩ := h
  rcases bind_inv hm with ⟨x, ρ1, h1, h2⟩ | ⟨x, h1, rfl⟩
  · refine ⟨c, F, ρ, .ok x, ρ1, w, h1, fun F1 H1 e1 w1 v1 r1 => ?_⟩
    rcases bind_inv h2 with ⟨t, ρ2, h3, h4⟩ | ⟨y, h3, rfl⟩
    · obtain ⟨z, hz, q, rfl⟩ := lift_inv h3
      cases q
      cases x <;> cases hz
      cases r1
      cases h4
      exact ⟨_, rfl, post F1 H1 e1 w1 _ (.bl _)⟩
    · obtain ⟨_, _, q, _⟩ := lift_inv h3
      cases q
  · exact ⟨c, F, ρ, .ex x, ρ', w, h1, post⟩
theorem pem_if {t : Expr} {mt : M Bool} (ht : PTM X Wx t mt) (ha : PEM X Wx a ma) (hb : PEM X Wx b mb) : PEM X Wx (.IfExp t a b pos) (mIf mt ma mb) := by
  refine pe_imp (pe_ifExp ht ha hb) fun σ H Q h => ?_
  refine tM_imp (tM_bind h) fun c ρ' t F' H' w p => ?_
  cases t with
  | true => exact p
  | false => exact p
/-- a < b < c -/
theorem both_imp {K : PySem.W.Frag} {r r' : R2} {g g' : D → D → Option D} (s1 : Op2 K r g) (s2 : Op2 K r' g') (σ : L2.St) (H : Hp) (Q : VK) (h : tE K Wx (mBoth g g' ma mb mc) σ H Q) : tChain r r' (tE K Wx ma) (tE K Wx mb) (tE K Wx mc) σ H Q := by
  obtain ⟨c, F, ρ, rr, ρ', w, hm, post⟩ := h
  rcases bind_inv hm with ⟨x, ρ1, q1, q2⟩ | ⟨x, q1, rfl⟩
  · refine ⟨c, F, ρ, .ok x, ρ1, w, q1, fun F1 H1 e1 w1 v1 r1 => ?_⟩
    rcases bind_inv q2 with ⟨y, ρ2, q3, q4⟩ | ⟨x, q3, rfl⟩
    · refine ⟨c, F1, ρ1, .ok y, ρ2, w1, q3, fun F2 H2 e2 w2 v2 r2 => ?_⟩
      rcases bind_inv q4 with ⟨z, ρ3, q5, q6⟩ | ⟨x, q5, rfl⟩
      · obtain ⟨_, hz, q, rfl⟩ := lift_inv q5
        cases q
        rcases bind_inv q6 with ⟨t, ρ4, q7, q8⟩ | ⟨x, q7, rfl⟩
        · obtain ⟨_, ht, q, rfl⟩ := lift_inv q7
          cases q
          refine s1 F2 H2 v1 v2 x y z _ (r1.mono e2) r2 w2.sub hz fun F3 v H3 g3 r3 => ?_
          cases z <;> cases ht
          cases r3
          refine ⟨_, rfl, ?_⟩
          have w3 := g3.2 _ _ _ w2
          cases t with
          | false => cases q8; exact post F3 H3 ((e1.trans e2).trans g3.1) w3 _ (.bl false)
          | true =>
            rcases bind_inv q8 with ⟨u, ρ5, q9, qa⟩ | ⟨x, q9, rfl⟩
            · refine ⟨c, F3, _, .ok u, ρ5, w3, q9, fun F4 H4 e4 w4 v4 r4 => ?_⟩
              obtain ⟨z', hz', q, rfl⟩ := lift_inv qa
              cases q
              exact s2 F4 H4 v2 v4 y u z' Q (r2.mono (g3.1.trans e4)) r4 w4.sub hz' fun F5 v H5 g5 r5 => post F5 H5 ((((e1.trans e2).trans g3.1).trans e4).trans g5.1) (g5.2 _ _ _ w4) v r5
            · exact ⟨c, F3, _, .ex x, ρ', w3, q9, PostX.mono ((e1.trans e2).trans g3.1) post⟩
        · obtain ⟨_, _, q, _⟩ := lift_inv q7
          cases q
      · obtain ⟨_, _, q, _⟩ := lift_inv q5
        cases q
    · exact ⟨c, F1, ρ1, .ex x, ρ', w1, q3, PostX.mono e1 post⟩
  · exact ⟨c, F, ρ, .ex x, ρ', w, q1, post⟩
theorem pem_both {r r' : R2} {g g' : D → D → Option D} {ec : Expr} (hp : ∀ {ta tb tc : TE}, PE X a ta → PE X b tb → PE X ec tc → PE X e (tChain r r' ta tb tc)) (s1 : Op2 X.K r g) (s2 : Op2 X.K r' g') (ha : PEM X Wx a ma) (hb : PEM X Wx b mb) (hc : PEM X Wx ec mc) : PEM X Wx e (mBoth g g' ma mb mc) :=
  pe_imp (hp ha hb hc) (both_imp s1 s2)
theorem ptm_both {r r' : R2} {g g' : D → D → Option D} {ec : Expr} (hp : ∀ {ta tb tc : TE}, PE X a ta → PE X b tb → PE X ec tc → PT X e (tTest (tChain r r' ta tb tc))) (s1 : Op2 X.K r g) (s2 : Op2 X.K r' g') (ha : PEM X Wx a ma) (hb : PEM X Wx b mb) (hc : PEM X Wx ec mc) : PTM X Wx e (mTest (mBoth g g' ma mb mc)) :=
  pt_imp (hp ha hb hc) fun σ H Q h => both_imp s1 s2 σ H _ (test_imp σ H Q h)
end
end L3
set_option Elab.async false
set_option linter.all false
set_option maxRecDepth 100000
set_option maxHeartbeats 2000000
namespace L3
open PySem PySem.Spec PyProof.Rows L2

/-! ### statements -/
def mSeq (a b : M Fl) : M Fl := fun ρ => match a ρ with
  | some (.ok .nx, ρ1) => b ρ1
  | some (.ok .bk, ρ1) => some (.ok .bk, ρ1)
  | some (.ok .ct, ρ1) => some (.ok .ct, ρ1)
  | some (.ok (.rt s), ρ1) => some (.ok (.rt s), ρ1)
  | some (.ex x, ρ1) => some (.ex x, ρ1)
  | none => none
def mSkip : M Fl := M.pure .nx
def mBrk : M Fl := M.pure .bk
def mCnt : M Fl := M.pure .ct
def mNever : M Fl := fun _ => none
def mRet (a : M D) : M Fl := a.bind fun d => M.pure (.rt (.dat d))
def mRetO (a : M OB) : M Fl := a.bind fun o => M.pure (.rt (.own o))
def mDrop (a : M D) : M Fl := a.bind fun _ => M.pure .nx
def mIfS (t : M Bool) (a b : M Fl) : M Fl := t.bind fun x => if x = true then a else b
/-- where a value is put -/
abbrev Put := D → List S → Option (List S)
def pName (i : Nat) : Put := fun d ρ => some (ρ.set i (.dat d))
def pTup (is : List Nat) : Put := fun d ρ => match d with
  | .tup ds => if ds.length = is.length then some ((is.zip ds).foldl (fun r p => r.set p.1 (.dat p.2)) ρ) else none
  | _ => none
def mSet (a : M D) (p : Put) : M Fl := a.bind fun d ρ => match p d ρ with
  | some ρ1 => some (.ok .nx, ρ1)
  | none => none
def mSetO (i : Nat) (a : M OB) : M Fl := a.bind fun o ρ => some (.ok .nx, ρ.set i (.own o))
def mPar (i j : Nat) (a b : M D) : M Fl := a.bind fun x => b.bind fun y ρ => some (.ok .nx, (ρ.set i (.dat x)).set j (.dat y))

section
variable {X : Cx} {Wx : WX} {a b e : Expr} {es : List Expr} {ma mb mc me : M D} {pos : Pos} {st : Stmt} {rest : List Stmt} {m1 m2 : M Fl}
theorem psm_nil : PSsM X Wx [] mSkip := by
  refine pss_imp pss_nil fun De σ H h => ?_
  obtain ⟨c, F, ρ, r, ρ', w, hm, post⟩ := h
  cases hm
  exact post F σ H (Same.refl _) w
theorem psm_one (h : PSM X Wx st m1) : PSsM X Wx [st] m1 := pss_one h
theorem psm_cons (h1 : PSM X Wx st m1) (h2 : PSsM X Wx rest m2) : PSsM X Wx (st :: rest) (mSeq m1 m2) := by
  refine pss_imp (pss_cons h1 h2) fun De σ H h => ?_
  obtain ⟨c, F, ρ, r, ρ', w, hm, post⟩ := h
  unfold mSeq at hm
  cases e : m1 ρ with
  | none => rw [e] at hm; cases hm
  | some p =>
    obtain ⟨r1, ρ1⟩ := p
    rw [e] at hm
    refine ⟨c, F, ρ, r1, ρ1, w, e, ?_⟩
    cases r1 with
    | ex x => cases hm; exact post
    | ok f =>
      cases f with
      | nx => exact fun F1 σ1 H1 e1 w1 => ⟨c, F1, ρ1, r, ρ', w1, hm, post.mono e1⟩
      | bk => cases hm; exact post
      | ct => cases hm; exact post
      | rt s => cases hm; exact post
theorem psm_pass : PSM X Wx (.Pass pos) mSkip := by
  refine ps_imp ps_pass fun De σ H h => ?_
  obtain ⟨c, F, ρ, r, ρ', w, hm, post⟩ := h
  cases hm
  exact post F σ H (Same.refl _) w
theorem psm_brk : PSM X Wx (.Break pos) mBrk := by
  refine ps_imp ps_break fun De σ H h => ?_
  obtain ⟨c, F, ρ, r, ρ', w, hm, post⟩ := h
  cases hm
  exact post F σ H (Same.refl _) w
theorem psm_cnt : PSM X Wx (.Continue pos) mCnt := by
  refine ps_imp ps_continue fun De σ H h => ?_
  obtain ⟨c, F, ρ, r, ρ', w, hm, post⟩ := h
  cases hm
  exact post F σ H (Same.refl _) w
theorem psm_never : PSM X Wx st mNever := by
  refine ps_imp ps_never fun De σ H h => ?_
  obtain ⟨c, F, ρ, r, ρ', w, hm, post⟩ := h
  cases hm
theorem psm_ret (h : PEM X Wx e me) : PSM X Wx (.Return (some e) pos) (mRet me) := by
  refine ps_imp (ps_ret h) fun De σ H h => ?_
  obtain ⟨c, F, ρ, r, ρ', w, hm, post⟩ := h
  rcases bind_inv hm with ⟨x, ρ1, h1, h2⟩ | ⟨x, h1, rfl⟩
  · cases h2
    exact ⟨c, F, ρ, .ok x, ρ', w, h1, fun F1 H1 e1 w1 v r1 => post F1 σ v H1 e1 w1 r1⟩
  · exact ⟨c, F, ρ, .ex x, ρ', w, h1, fun F' d H' e' w' r' => post F' σ d H' e' w' r'⟩
theorem psm_retO {mo : M OB} (h : POM X Wx e mo) : PSM X Wx (.Return (some e) pos) (mRetO mo) := by
  refine ps_imp (ps_ret h) fun De σ H h => ?_
  obtain ⟨c, F, ρ, r, ρ', w, hm, post⟩ := h
  rcases bind_inv hm with ⟨x, ρ1, h1, h2⟩ | ⟨x, h1, rfl⟩
  · cases h2
    exact ⟨c, F, ρ, .ok x, ρ', w, h1, fun F1 H1 e1 w1 a u q1 q2 q3 q4 q5 q6 => post F1 σ _ H1 e1 w1 ⟨a, u, rfl, q1, q2, q3, q4⟩⟩
  · exact ⟨c, F, ρ, .ex x, ρ', w, h1, fun F' d H' e' w' r' => post F' σ d H' e' w' r'⟩
theorem psm_retN : PSM X Wx (.Return none pos) (mRet (mC .non)) := by
  refine ps_imp ps_retN fun De σ H h => ?_
  obtain ⟨c, F, ρ, r, ρ', w, hm, post⟩ := h
  cases hm
  exact post F σ _ H (Same.refl _) w .non
theorem psm_expr (h : PEM X Wx e me) (hs : swapsWith e none pos.line X.env = pure false := by rfl) : PSM X Wx (.Expr e pos) (mDrop me) := by
  refine ps_imp (ps_expr h hs) fun De σ H h => ?_
  obtain ⟨c, F, ρ, r, ρ', w, hm, post⟩ := h
  rcases bind_inv hm with ⟨x, ρ1, h1, h2⟩ | ⟨x, h1, rfl⟩
  · cases h2
    exact ⟨c, F, ρ, .ok x, ρ', w, h1, fun F1 H1 e1 w1 v r1 => post F1 σ H1 e1 w1⟩
  · exact ⟨c, F, ρ, .ex x, ρ', w, h1, fun F' d H' e' w' r' => post F' σ d H' e' w' r'⟩
theorem psm_if {t : Expr} {mt : M Bool} {sa sb : List Stmt} (ht : PTM X Wx t mt) (ha : PSsM X Wx sa m1) (hb : PSsM X Wx sb m2) : PSM X Wx (.If t sa sb pos) (mIfS mt m1 m2) := by
  refine ps_imp (ps_if ht ha hb) fun De σ H h => ?_
  obtain ⟨c, F, ρ, r, ρ', w, hm, post⟩ := h
  rcases bind_inv hm with ⟨x, ρ1, h1, h2⟩ | ⟨x, h1, rfl⟩
  · refine ⟨c, F, ρ, .ok x, ρ1, w, h1, fun F1 H1 e1 w1 => ?_⟩
    cases x with
    | true => exact ⟨c, F1, ρ1, r, ρ', w1, h2, post.mono e1⟩
    | false => exact ⟨c, F1, ρ1, r, ρ', w1, h2, post.mono e1⟩
  · exact ⟨c, F, ρ, .ex x, ρ', w, h1, fun F' d H' e' w' r' => post F' σ d H' e' w' r'⟩

/-! ### targets -/
/-- a target's reading by where it puts; js: the slots that it may change -/
def tPut (K : PySem.W.Frag) (js : List Nat) (p : Put) : TG := fun v σ H Q => ∃ c F ρ d ρ', W K c F ρ σ H ∧ Rep K F v d ∧ p d ρ = some ρ' ∧ ∀ σ', σ'.length = σ.length → (∀ i, i ∉ js → σ'[i]? = σ[i]?) → W K c F ρ' σ' H → Q σ' H
def PGt (X : Cx) (e : Expr) (js : List Nat) (p : Put) : Prop := PG X e (tPut X.K js p)
theorem pg_imp {X : Cx} {e : Expr} {t t' : TG} (h : PG X e t) (i : ∀ v σ H Q, t' v σ H Q → t v σ H Q) : PG X e t' := ⟨fun pins s σ H v u Q I r q => h.run pins s σ H v u Q I r (i v σ H Q q)⟩
theorem set_other {α : Type} {l : List α} {i j : Nat} {x : α} (h : j ∉ [i]) : (l.set i x)[j]? = l[j]? := List.getElem?_set_ne (fun z => h (by simp [z]))
theorem pgt_name (i : Nat) {x : Str} (hN : X.N.Nodup) (hi : X.N[i]? = some x := by rfl) (hx : Loc X.env.scope x := by first | exact Or.inl rfl | exact Or.inr rfl)
    (hf : X.fn x = true ∨ X.env.scope.names.lookup x = some .local := by first | exact .inl rfl | exact .inr rfl) : PGt X (.Name x pos) [i] (pName i) := by
  refine pg_imp (pg_name (i := i) hN hi hx hf) fun v σ H Q h => ?_
  obtain ⟨c, F, ρ, d, ρ', w, r, hp, q⟩ := h
  cases hp
  exact q _ (List.length_set ..) (fun j hj => set_other hj) (w.setD r)
/-- several names -/
def tPuts (K : PySem.W.Frag) (is : List Nat) : TGs := fun vs σ H Q => ∃ c F ρ ds, W K c F ρ σ H ∧ RepL K F vs ds ∧ ds.length = is.length ∧
  ∀ σ', σ'.length = σ.length → (∀ i, i ∉ is → σ'[i]? = σ[i]?) → W K c F ((is.zip ds).foldl (fun r p => r.set p.1 (.dat p.2)) ρ) σ' H → Q σ' H
theorem pgs_imp {X : Cx} {e : List Expr} {t t' : TGs} (h : PGs X e t) (i : ∀ v σ H Q, t' v σ H Q → t v σ H Q) : PGs X e t' := ⟨fun pins s σ H v u Q I r q => h.run pins s σ H v u Q I r (i v σ H Q q)⟩
theorem pgts_nil : PGs X [] (tPuts X.K []) := by
  refine pgs_imp pgs_nil fun v σ H Q h => ?_
  obtain ⟨c, F, ρ, ds, w, r, hl, q⟩ := h
  cases r with
  | nil => exact ⟨rfl, q σ rfl (fun _ _ => rfl) w⟩
  | cons _ _ => cases hl
theorem pgts_cons {i : Nat} {is : List Nat} (h1 : PGt X e [i] (pName i)) (h2 : PGs X es (tPuts X.K is)) (hs : (assignEach (e :: es) X.env).map (·.2) = assign e X.env :: (assignEach es X.env).map (·.2) := by rfl) : PGs X (e :: es) (tPuts X.K (i :: is)) := by
  refine pgs_imp (pgs_cons h1 h2 hs) fun vs σ H Q h => ?_
  obtain ⟨c, F, ρ, ds, w, r, hl, q⟩ := h
  cases r with
  | nil => cases hl
  | cons r1 r2 =>
    rename_i v d vs ds
    refine ⟨v, vs, rfl, c, F, ρ, d, _, w, r1, rfl, fun σ1 l1 o1 w1 => ?_⟩
    refine ⟨c, F, _, ds, w1, r2, Nat.succ.inj hl, fun σ2 l2 o2 w2 => q σ2 (l2.trans l1) (fun j hj => ?_) w2⟩
    rw [o2 j (fun z => hj (List.mem_cons_of_mem _ z)), o1 j (fun z => hj (by simp at z; simp [z]))]
theorem pgt_tup {is : List Nat} {k : Nat} (hc : X.calm = true) (h : PGs X es (tPuts X.K is)) (hn : (assignEach es X.env).length = is.length := by rfl) (hst : (assignEach es X.env).findIdx? (·.1) = none := by rfl) : PGt X (.Tuple es k pos) is (pTup is) := by
  refine pg_imp (pg_tup hc h hn hst) fun v σ H Q h => ?_
  obtain ⟨c, F, ρ, d, ρ', w, r, hp, q⟩ := h
  unfold pTup at hp
  cases d with
  | tup ds =>
    have hp' : (if ds.length = is.length then some ((is.zip ds).foldl (fun r p => r.set p.1 (.dat p.2)) ρ) else none) = some ρ' := hp
    split at hp'
    · rename_i hl
      cases hp'
      cases r with
      | tup hs hr =>
        rename_i a xs
        refine ⟨a, xs, rfl, same_sqT w.sub hs, by rw [hr.len]; exact hl, c, F, ρ, ds, w, hr, hl, q⟩
    · cases hp'
  | _ => cases hp
theorem psm_set {tg : Expr} {js : List Nat} {p : Put} (he : PEM X Wx e me) (hg : PGt X tg js p) (hs : swapsWithSole [tg] e pos.line X.env = pure false := by rfl) (hw : swappedStores [tg] e X.env = pure none := by rfl)
    (h1 : (assignEach [tg] X.env).map (·.2) = [assign tg X.env] := by rfl) : PSM X Wx (.Assign [tg] e pos) (mSet me p) := by
  refine ps_imp (ps_asg he hg hs hw h1) fun De σ H h => ?_
  obtain ⟨c, F, ρ, r, ρ', w, hm, post⟩ := h
  rcases bind_inv hm with ⟨x, ρ1, q1, q2⟩ | ⟨x, q1, rfl⟩
  · refine ⟨c, F, ρ, .ok x, ρ1, w, q1, fun F1 H1 e1 w1 v r1 => ?_⟩
    cases hp : p x ρ1 with
    | none =>
      have q3 : (match p x ρ1 with | some ρ1 => some (R.ok Fl.nx, ρ1) | none => none) = some (r, ρ') := q2
      rw [hp] at q3; cases q3
    | some ρ2 =>
      have q3 : (match p x ρ1 with | some ρ1 => some (R.ok Fl.nx, ρ1) | none => none) = some (r, ρ') := q2
      rw [hp] at q3
      cases q3
      exact ⟨c, F1, ρ1, x, _, w1, r1, hp, fun σ' _ _ w' => post F1 σ' H1 e1 w'⟩
  · exact ⟨c, F, ρ, .ex x, ρ', w, q1, fun F' d H' e' w' r' => post F' σ d H' e' w' r'⟩
theorem psm_setO (i : Nat) {x : Str} {mo : M OB} {p : Pos} (he : POM X Wx e mo) (hN : X.N.Nodup) (hi : X.N[i]? = some x := by rfl) (hx : Loc X.env.scope x := by first | exact Or.inl rfl | exact Or.inr rfl)
    (hf : X.fn x = true ∨ X.env.scope.names.lookup x = some .local := by first | exact .inl rfl | exact .inr rfl) (hs : swapsWithSole [.Name x p] e pos.line X.env = pure false := by rfl) (hw : swappedStores [.Name x p] e X.env = pure none := by rfl)
    (h1 : (assignEach [.Name x p] X.env).map (·.2) = [assign (.Name x p) X.env] := by rfl) : PSM X Wx (.Assign [.Name x p] e pos) (mSetO i mo) := by
  refine ps_imp (ps_asg he (pg_name (i := i) hN hi hx hf) hs hw h1) fun De σ H h => ?_
  obtain ⟨c, F, ρ, r, ρ', w, hm, post⟩ := h
  rcases bind_inv hm with ⟨o, ρ1, q1, q2⟩ | ⟨x, q1, rfl⟩
  · cases q2
    refine ⟨c, F, ρ, .ok o, ρ1, w, q1, fun F1 H1 e1 w1 a u g1 g2 g3 g4 g5 g6 => ?_⟩
    exact post F1 _ H1 e1 (w1.setO g1 g2 g3 g4 g5 g6)
  · exact ⟨c, F, ρ, .ex x, ρ', w, q1, fun F' d H' e' w' r' => post F' σ d H' e' w' r'⟩
/-- a, b = e1, e2 -/
theorem psm_par (i j : Nat) {x y : Str} {px py pt : Pos} {kt k2 pt2} (hc : X.calm = true) (hN : X.N.Nodup) (hij : i ≠ j) (ha : PEM X Wx a ma) (hb : PEM X Wx b mb) (hi : X.N[i]? = some x := by rfl) (hj : X.N[j]? = some y := by rfl)
    (hx : X.env.scope.names.lookup x = some .local := by rfl) (hy : X.env.scope.names.lookup y = some .local := by rfl)
    (hsa : starEach [a, b] X.env = (false, eval a X.env) :: starEach [b] X.env := by rfl) (hsb : starEach [b] X.env = (false, eval b X.env) :: starEach [] X.env := by rfl)
    (hw : swappedStores [.Tuple [.Name x px, .Name y py] kt pt] (.Tuple [a, b] k2 pt2) X.env = pure (some [x, y]) := by rfl)
    (hs : swapsWithSole [.Tuple [.Name x px, .Name y py] kt pt] (.Tuple [a, b] k2 pt2) pos.line X.env = pure false := by rfl) :
    PSM X Wx (.Assign [.Tuple [.Name x px, .Name y py] kt pt] (.Tuple [a, b] k2 pt2) pos) (mPar i j ma mb) := by
  refine ps_imp (ps_par hc hN hi hj hij hx hy (pa_cons ha (pa_cons hb pa_nil hsb) hsa) hw hs) fun De σ H h => ?_
  obtain ⟨c, F, ρ, r, ρ', w, hm, post⟩ := h
  rcases bind_inv hm with ⟨u, ρ1, q1, q2⟩ | ⟨u, q1, rfl⟩
  · refine ⟨c, F, ρ, .ok u, ρ1, w, q1, fun F1 H1 e1 w1 v1 r1 => ?_⟩
    rcases bind_inv q2 with ⟨t, ρ2, q3, q4⟩ | ⟨t, q3, rfl⟩
    · cases q4
      refine ⟨c, F1, ρ1, .ok t, ρ2, w1, q3, fun F2 H2 e2 w2 v2 r2 => ?_⟩
      exact ⟨v1, v2, rfl, post F2 _ H2 (e1.trans e2) ((w2.setD (r1.mono e2)).setD r2)⟩
    · exact ⟨c, F1, ρ1, .ex t, ρ', w1, q3, fun F' d H' e' w' r' => post F' σ d H' (e1.trans e') w' r'⟩
  · exact ⟨c, F, ρ, .ex u, ρ', w, q1, fun F' d H' e' w' r' => post F' σ d H' e' w' r'⟩
end

/-! ### while, with a number of turns that is enough -/
def whl (t : M Bool) (b : M Fl) : Nat → M Fl
  | 0 => fun _ => none
  | n + 1 => t.bind fun x => if x = true then (fun ρ => match b ρ with
      | some (.ok .nx, ρ1) => whl t b n ρ1
      | some (.ok .ct, ρ1) => whl t b n ρ1
      | some (.ok .bk, ρ1) => some (.ok .nx, ρ1)
      | some (.ok (.rt s), ρ1) => some (.ok (.rt s), ρ1)
      | some (.ex x, ρ1) => some (.ex x, ρ1)
      | none => none) else M.pure .nx
def mWhl (fuel : List S → Nat) (t : M Bool) (b : M Fl) : M Fl := fun ρ => whl t b (fuel ρ) ρ
section
variable {X : Cx} {Wx : WX} {pos : Pos} {t : Expr} {mt : M Bool} {body : List Stmt} {mb : M Fl}
theorem psm_while (fuel : List S → Nat) (hp : PassesOwn (model X.prog X.w) X.A X.env X.xe) (ht : PTM X Wx t mt) (hb : PSsM X Wx body mb) : PSM X Wx (.While t body [] pos) (mWhl fuel mt mb) := by
  refine ps_imp (ps_while hp ht hb) fun De σ H h => ?_
  obtain ⟨c, F, ρ, r, ρ', w, hm, post⟩ := h
  refine ⟨fun n σ H => ∃ F1 ρ1, Same F F1 ∧ W X.K c F1 ρ1 σ H ∧ whl mt mb n ρ1 = some (r, ρ'), ⟨_, F, ρ, Same.refl _, w, hm⟩, ?_⟩
  rintro n σ1 H1 ⟨F1, ρ1, e1, w1, hn⟩
  cases n with
  | zero => cases hn
  | succ n =>
    rcases bind_inv hn with ⟨x, ρ2, q1, q2⟩ | ⟨x, q1, rfl⟩
    · refine ⟨c, F1, ρ1, .ok x, ρ2, w1, q1, fun F2 H2 e2 w2 => ?_⟩
      cases x with
      | false =>
        cases q2
        exact post F2 σ1 H2 (e1.trans e2) w2
      | true =>
        refine ⟨fun σ H => ∃ F1 ρ1, Same F F1 ∧ W X.K c F1 ρ1 σ H ∧ whl mt mb n ρ1 = some (r, ρ'), fun σ' H' h' => ⟨n, Nat.lt_succ_self n, h'⟩, ?_⟩
        have q3 : (match mb ρ2 with
          | some (.ok .nx, ρ1) => whl mt mb n ρ1
          | some (.ok .ct, ρ1) => whl mt mb n ρ1
          | some (.ok .bk, ρ1) => some (.ok .nx, ρ1)
          | some (.ok (.rt s), ρ1) => some (.ok (.rt s), ρ1)
          | some (.ex x, ρ1) => some (.ex x, ρ1)
          | none => none) = some (r, ρ') := q2
        cases e : mb ρ2 with
        | none => rw [e] at q3; cases q3
        | some p =>
          obtain ⟨rb, ρ3⟩ := p
          rw [e] at q3
          refine ⟨c, F2, ρ2, rb, ρ3, w2, e, ?_⟩
          cases rb with
          | ex x => cases q3; exact fun F' σ' d H' e' w' r' => post F' σ' d H' ((e1.trans e2).trans e') w' r'
          | ok f =>
            cases f with
            | nx => exact fun F3 σ3 H3 e3 w3 => ⟨F3, ρ3, (e1.trans e2).trans e3, w3, q3⟩
            | ct => exact fun F3 σ3 H3 e3 w3 => ⟨F3, ρ3, (e1.trans e2).trans e3, w3, q3⟩
            | bk => cases q3; exact fun F3 σ3 H3 e3 w3 => post F3 σ3 H3 ((e1.trans e2).trans e3) w3
            | rt s => cases q3; exact fun F3 σ3 v H3 e3 w3 r3 => post F3 σ3 v H3 ((e1.trans e2).trans e3) w3 r3
    · exact ⟨c, F1, ρ1, .ex x, ρ', w1, q1, fun F' d H' e' w' r' => post F' σ1 d H' (e1.trans e') w' r'⟩
end
end L3
set_option Elab.async false
set_option linter.all false
set_option maxRecDepth 100000
set_option maxHeartbeats 2000000
namespace L3
open PySem PySem.Spec PyProof.Rows L2

/-! ### what is walked -/
def Yields (K : PySem.W.Frag) (J : It) (ds : List D) (F : Hp) : Prop := ∀ F' H' (i : Nat), Same F F' → Same F' H' →
  (∀ d, ds[i]? = some d → J.go i H' ∧ ∀ x H'', J.yld i H' x H'' → ∃ F'', Grow K F' H' F'' H'' ∧ Rep K F'' x d) ∧ (ds.length ≤ i → J.stop i H')
def tIt (K : PySem.W.Frag) (Wx : WX) (m : M (List D)) : TI := fun σ H R => tM K Wx m σ H fun _ _ ds F' H' => ∀ J, Yields K J ds F' → R J H'
def PIM (X : Cx) (Wx : WX) (tg iter : Expr) (m : M (List D)) : Prop := PI X tg iter (tIt X.K Wx m)
theorem pi_imp {X : Cx} {tg e : Expr} {t t' : TI} (h : PI X tg e t) (i : ∀ σ H R, t' σ H R → t σ H R) : PI X tg e t' := ⟨fun pins s σ H R I q => h.run pins s σ H R I (i σ H R q)⟩
theorem RepL.get {K : PySem.W.Frag} {F : Hp} : ∀ {vs : List V} {ds : List D} {i : Nat} {v : V}, RepL K F vs ds → vs[i]? = some v → ∃ d, ds[i]? = some d ∧ Rep K F v d
  | _, _, _, _, .nil, e => by simp at e
  | _, _, 0, _, .cons r _, e => by simp at e; subst e; exact ⟨_, rfl, r⟩
  | _, _, i + 1, _, .cons _ t, e => by
    obtain ⟨d, h1, h2⟩ := RepL.get (i := i) t (by simpa using e)
    exact ⟨d, by simpa using h1, h2⟩
theorem RepL.get' {K : PySem.W.Frag} {F : Hp} : ∀ {vs : List V} {ds : List D} {i : Nat} {d : D}, RepL K F vs ds → ds[i]? = some d → ∃ v, vs[i]? = some v ∧ Rep K F v d
  | _, _, _, _, .nil, e => by simp at e
  | _, _, 0, _, .cons r _, e => by simp at e; subst e; exact ⟨_, rfl, r⟩
  | _, _, i + 1, _, .cons _ t, e => by
    obtain ⟨d, h1, h2⟩ := RepL.get' (i := i) t (by simpa using e)
    exact ⟨d, by simpa using h1, h2⟩
theorem yields_list {K : PySem.W.Frag} {F : Hp} {a : Addr} {xs : List V} {ds : List D} (h : SqL K F a xs) (r : RepL K F xs ds) : Yields K (Itl K a) ds F := by
  intro F' H' i e1 e2
  have hq : SqL K H' a xs := (e1.trans e2).seq h
  refine ⟨fun d hd => ?_, fun hl => ⟨xs, hq, by rw [r.len]; exact hl⟩⟩
  obtain ⟨v, hv, rv⟩ := r.get' hd
  refine ⟨⟨xs, v, hq, hv⟩, fun x H'' y => ?_⟩
  obtain ⟨rfl, y⟩ := y
  have := y xs hq
  rw [hv] at this
  cases this
  exact ⟨F', Grow.refl, rv.mono e1⟩
theorem yields_tup {K : PySem.W.Frag} {F : Hp} {a : Addr} {xs : List V} {ds : List D} (h : SqT K F a xs) (r : RepL K F xs ds) : Yields K (Itt K a) ds F := by
  intro F' H' i e1 e2
  have hq : SqT K H' a xs := same_sqT (e1.trans e2) h
  refine ⟨fun d hd => ?_, fun hl => ⟨xs, hq, by rw [r.len]; exact hl⟩⟩
  obtain ⟨v, hv, rv⟩ := r.get' hd
  refine ⟨⟨xs, v, hq, hv⟩, fun x H'' y => ?_⟩
  obtain ⟨rfl, y⟩ := y
  have := y xs hq
  rw [hv] at this
  cases this
  exact ⟨F', Grow.refl, rv.mono e1⟩
/-- the items of a list, of a tuple -/
def lstD : D → Option (List D)
  | .lst ds => some ds
  | .rdl ds => some ds
  | _ => none
def tupD : D → Option (List D)
  | .tup ds => some ds
  | _ => none
def mItems (f : D → Option (List D)) (a : M D) : M (List D) := a.bind fun d => M.lift (f d)
def rangeD (lo : Int) : Nat → List D
  | 0 => []
  | n + 1 => .int lo :: rangeD (lo + 1) n
def rng1 : List D → Option (List D)
  | [.int n] => if n ≤ 1000000000 ∧ -1000000000 ≤ n then some (rangeD 0 n.toNat) else none
  | _ => none
def rng2 : List D → Option (List D)
  | [.int m, .int n] => if n ≤ 1000000000 ∧ -1000000000 ≤ n ∧ m ≤ 1000000000 ∧ -1000000000 ≤ m then some (rangeD m (n - m).toNat) else none
  | _ => none
def mItemsN (f : List D → Option (List D)) (as : List (M D)) : M (List D) := (mArgs as).bind fun ds => M.lift (f ds)
def enumD (i : Int) : List D → List D
  | [] => []
  | d :: ds => .tup [.int i, d] :: enumD (i + 1) ds
def enu1 : List D → Option (List D)
  | [.lst ds] => some (enumD 0 ds)
  | _ => none
def zipD : List D → List D → List D
  | a :: as, b :: bs => .tup [a, b] :: zipD as bs
  | _, _ => []
def zip2 : List D → Option (List D)
  | [.lst as, .lst bs] => some (zipD as bs)
  | _ => none
theorem range_len (lo : Int) : ∀ n, (rangeD lo n).length = n
  | 0 => rfl
  | n + 1 => congrArg Nat.succ (range_len (lo + 1) n)
theorem range_get : ∀ (n : Nat) (lo : Int) (i : Nat) (d : D), (rangeD lo n)[i]? = some d → d = .int (lo + i) ∧ i < n
  | 0, _, _, _, h => by simp [rangeD] at h
  | n + 1, lo, 0, d, h => by simp [rangeD] at h; subst h; simp
  | n + 1, lo, i + 1, d, h => by
    obtain ⟨h1, h2⟩ := range_get n (lo + 1) i d (by simpa [rangeD] using h)
    refine ⟨?_, by omega⟩
    rw [h1]
    congr 1
    omega
theorem yields_range {K : PySem.W.Frag} {F : Hp} {lo : Int} {n : Nat} : Yields K (Itr lo n) (rangeD lo n) F := by
  intro F' H' i e1 e2
  refine ⟨fun d hd => ?_, fun hl => by rw [range_len] at hl; exact hl⟩
  obtain ⟨rfl, hi⟩ := range_get _ _ _ _ hd
  refine ⟨hi, fun x H'' y => ?_⟩
  obtain ⟨rfl, rfl⟩ := y
  exact ⟨F', Grow.refl, .int _⟩
theorem enum_get : ∀ (ds : List D) (k : Int) (i : Nat) (d : D), (enumD k ds)[i]? = some d → ∃ x, ds[i]? = some x ∧ d = .tup [.int (k + i), x]
  | [], _, _, _, h => by simp [enumD] at h
  | x :: ds, k, 0, d, h => by simp [enumD] at h; subst h; exact ⟨x, rfl, by simp⟩
  | x :: ds, k, i + 1, d, h => by
    obtain ⟨y, h1, h2⟩ := enum_get ds (k + 1) i d (by simpa [enumD] using h)
    refine ⟨y, by simpa using h1, ?_⟩
    rw [h2]
    have : k + 1 + (i : Int) = k + ((i + 1 : Nat) : Int) := by omega
    rw [this]
theorem enum_len : ∀ (ds : List D) (k : Int), (enumD k ds).length = ds.length
  | [], _ => rfl
  | _ :: ds, k => congrArg Nat.succ (enum_len ds (k + 1))
theorem yields_enum {K : PySem.W.Frag} {F : Hp} {a : Addr} {xs : List V} {ds : List D} (h : SqL K F a xs) (r : RepL K F xs ds) : Yields K (Ite K a) (enumD 0 ds) F := by
  intro F' H' i e1 e2
  have hq : SqL K H' a xs := (e1.trans e2).seq h
  refine ⟨fun d hd => ?_, fun hl => ⟨xs, hq, by rw [r.len]; rw [enum_len] at hl; exact hl⟩⟩
  obtain ⟨z, hz, rfl⟩ := enum_get _ _ _ _ hd
  obtain ⟨v, hv, rv⟩ := r.get' hz
  refine ⟨⟨xs, v, hq, hv⟩, fun x H'' y => ?_⟩
  obtain ⟨T, x', rfl, hT, rfl, hx⟩ := y
  have := hx xs hq
  rw [hv] at this
  cases this
  have s1 := same_upd (u := .tup [.int (i : Nat), v]) (e2.free hT)
  refine ⟨_, Grow.new e2 hT, .tup (.inl (.inl upd_same)) (.cons ?_ (.cons ((rv.mono e1).mono s1) .nil))⟩
  have : (0 : Int) + (i : Int) = (i : Int) := Int.zero_add _
  rw [this]
  exact .int _
theorem zip_get : ∀ (as bs : List D) (i : Nat) (d : D), (zipD as bs)[i]? = some d → ∃ x y, as[i]? = some x ∧ bs[i]? = some y ∧ d = .tup [x, y]
  | [], _, _, _, h => by simp [zipD] at h
  | _ :: _, [], _, _, h => by simp [zipD] at h
  | a :: as, b :: bs, 0, d, h => by simp [zipD] at h; subst h; exact ⟨a, b, rfl, rfl, rfl⟩
  | a :: as, b :: bs, i + 1, d, h => by
    obtain ⟨x, y, h1, h2, h3⟩ := zip_get as bs i d (by simpa [zipD] using h)
    exact ⟨x, y, by simpa using h1, by simpa using h2, h3⟩
theorem zip_len : ∀ (as bs : List D), (zipD as bs).length = min as.length bs.length
  | [], _ => by simp [zipD]
  | _ :: _, [] => by simp [zipD]
  | _ :: as, _ :: bs => by simp [zipD, zip_len as bs]

section
variable {X : Cx} {Wx : WX} {tg e : Expr} {es : List Expr} {me : M D} {pos p : Pos}
theorem pim_list (h : PEM X Wx e me) : PIM X Wx tg e (mItems lstD me) := by
  refine pi_imp (pi_list h) fun σ H R h => ?_
  obtain ⟨c, F, ρ, rr, ρ', w, hm, post⟩ := h
  rcases bind_inv hm with ⟨x, ρ1, h1, h2⟩ | ⟨x, h1, rfl⟩
  · refine ⟨c, F, ρ, .ok x, ρ1, w, h1, fun F1 H1 e1 w1 v r1 => ?_⟩
    obtain ⟨z, hz, rfl, rfl⟩ := lift_inv h2
    cases x <;> cases hz
    · cases r1 with
      | lst hs hr =>
        have hq : SqL X.K F1 _ _ := .inl (.inl hs)
        exact ⟨_, rfl, ⟨_, w1.sub.seq hq⟩, post F1 H1 e1 w1 _ (yields_list hq hr)⟩
    · cases r1 with
      | rdl hs hr => exact ⟨_, rfl, ⟨_, w1.sub.seq hs⟩, post F1 H1 e1 w1 _ (yields_list hs hr)⟩
  · exact ⟨c, F, ρ, .ex x, ρ', w, h1, post⟩
theorem pim_tup (h : PEM X Wx e me) : PIM X Wx tg e (mItems tupD me) := by
  refine pi_imp (pi_tup h) fun σ H R h => ?_
  obtain ⟨c, F, ρ, rr, ρ', w, hm, post⟩ := h
  rcases bind_inv hm with ⟨x, ρ1, h1, h2⟩ | ⟨x, h1, rfl⟩
  · refine ⟨c, F, ρ, .ok x, ρ1, w, h1, fun F1 H1 e1 w1 v r1 => ?_⟩
    obtain ⟨z, hz, rfl, rfl⟩ := lift_inv h2
    cases x <;> cases hz
    cases r1 with
    | tup hs hr => exact ⟨_, rfl, ⟨_, same_sqT w1.sub hs⟩, post F1 H1 e1 w1 _ (yields_tup hs hr)⟩
  · exact ⟨c, F, ρ, .ex x, ρ', w, h1, post⟩
theorem pim_range1 {ms : List (M D)} (hp : ∀ {ta : TA}, PA X es ta → PI X tg e (iRng1 ta)) (h : PAM X Wx es (mArgs ms)) : PIM X Wx tg e (mItemsN rng1 ms) := by
  refine pi_imp (hp h) fun σ H R h => ?_
  obtain ⟨c, F, ρ, rr, ρ', w, hm, post⟩ := h
  rcases bind_inv hm with ⟨xs, ρ1, h1, h2⟩ | ⟨x, h1, rfl⟩
  · refine ⟨c, F, ρ, .ok xs, ρ1, w, h1, fun F1 H1 e1 w1 v r1 => ?_⟩
    obtain ⟨z, hz, rfl, rfl⟩ := lift_inv h2
    unfold rng1 at hz
    split at hz
    · rename_i n
      split at hz
      · rename_i hn
        cases hz
        cases r1 with
        | cons q1 q2 =>
          cases q1
          cases q2
          exact ⟨n, rfl, by omega, by omega, post F1 H1 e1 w1 _ yields_range⟩
      · cases hz
    · cases hz
  · exact ⟨c, F, ρ, .ex x, ρ', w, h1, post⟩
theorem pim_range2 {ms : List (M D)} (hp : ∀ {ta : TA}, PA X es ta → PI X tg e (iRng2 ta)) (h : PAM X Wx es (mArgs ms)) : PIM X Wx tg e (mItemsN rng2 ms) := by
  refine pi_imp (hp h) fun σ H R h => ?_
  obtain ⟨c, F, ρ, rr, ρ', w, hm, post⟩ := h
  rcases bind_inv hm with ⟨xs, ρ1, h1, h2⟩ | ⟨x, h1, rfl⟩
  · refine ⟨c, F, ρ, .ok xs, ρ1, w, h1, fun F1 H1 e1 w1 v r1 => ?_⟩
    obtain ⟨z, hz, rfl, rfl⟩ := lift_inv h2
    unfold rng2 at hz
    split at hz
    · rename_i m n
      split at hz
      · rename_i hn
        cases hz
        cases r1 with
        | cons q1 q2 =>
          cases q1
          cases q2 with
          | cons q2 q3 =>
            cases q2
            cases q3
            exact ⟨m, n, rfl, ⟨by omega, by omega, by omega, by omega⟩, post F1 H1 e1 w1 _ yields_range⟩
      · cases hz
    · cases hz
  · exact ⟨c, F, ρ, .ex x, ρ', w, h1, post⟩
theorem pim_enum {ms : List (M D)} (hp : ∀ {ta : TA}, PA X es ta → PI X tg e (iEnum X.K ta)) (h : PAM X Wx es (mArgs ms)) : PIM X Wx tg e (mItemsN enu1 ms) := by
  refine pi_imp (hp h) fun σ H R h => ?_
  obtain ⟨c, F, ρ, rr, ρ', w, hm, post⟩ := h
  rcases bind_inv hm with ⟨xs, ρ1, h1, h2⟩ | ⟨x, h1, rfl⟩
  · refine ⟨c, F, ρ, .ok xs, ρ1, w, h1, fun F1 H1 e1 w1 v r1 => ?_⟩
    obtain ⟨z, hz, rfl, rfl⟩ := lift_inv h2
    unfold enu1 at hz
    split at hz
    · cases hz
      cases r1 with
      | cons q1 q2 =>
        cases q2
        cases q1 with
        | lst hs hr =>
          have hq : SqL X.K F1 _ _ := .inl (.inl hs)
          exact ⟨_, _, rfl, w1.sub.seq hq, post F1 H1 e1 w1 _ (yields_enum hq hr)⟩
    · cases hz
  · exact ⟨c, F, ρ, .ex x, ρ', w, h1, post⟩
theorem yields_zip {K : PySem.W.Frag} {F : Hp} {a b : Addr} {xs ys : List V} {ds es : List D} (h : SqL K F a xs) (r : RepL K F xs ds) (h2 : SqL K F b ys) (r2 : RepL K F ys es) : Yields K (Itz K a b) (zipD ds es) F := by
  intro F' H' i e1 e2
  have hq : SqL K H' a xs := (e1.trans e2).seq h
  have hq2 : SqL K H' b ys := (e1.trans e2).seq h2
  refine ⟨fun d hd => ?_, fun hl => ?_⟩
  · obtain ⟨z, z', hz, hz', rfl⟩ := zip_get _ _ _ _ hd
    obtain ⟨v, hv, rv⟩ := r.get' hz
    obtain ⟨v', hv', rv'⟩ := r2.get' hz'
    refine ⟨⟨xs, ys, v, v', hq, hq2, hv, hv'⟩, fun x H'' y => ?_⟩
    obtain ⟨T, x', y', rfl, hT, rfl, hx, hy⟩ := y
    have t1 := hx xs hq
    have t2 := hy ys hq2
    rw [hv] at t1
    rw [hv'] at t2
    cases t1
    cases t2
    have s1 := same_upd (u := .tup [v, v']) (e2.free hT)
    exact ⟨_, Grow.new e2 hT, .tup (.inl (.inl upd_same)) (.cons ((rv.mono e1).mono s1) (.cons ((rv'.mono e1).mono s1) .nil))⟩
  · rw [zip_len] at hl
    have l1 := r.len
    have l2 := r2.len
    exact ⟨xs, ys, hq, hq2, by omega⟩
theorem pim_zip {ms : List (M D)} (hp : ∀ {ta : TA}, PA X es ta → PI X tg e (iZip X.K ta)) (h : PAM X Wx es (mArgs ms)) : PIM X Wx tg e (mItemsN zip2 ms) := by
  refine pi_imp (hp h) fun σ H R h => ?_
  obtain ⟨c, F, ρ, rr, ρ', w, hm, post⟩ := h
  rcases bind_inv hm with ⟨xs, ρ1, h1, h2⟩ | ⟨x, h1, rfl⟩
  · refine ⟨c, F, ρ, .ok xs, ρ1, w, h1, fun F1 H1 e1 w1 v r1 => ?_⟩
    obtain ⟨z, hz, rfl, rfl⟩ := lift_inv h2
    unfold zip2 at hz
    split at hz
    · cases hz
      cases r1 with
      | cons q1 q2 =>
        cases q2 with
        | cons q2 q3 =>
          cases q3
          cases q1 with
          | lst hs hr =>
            cases q2 with
            | lst hs2 hr2 =>
              have hq : SqL X.K F1 _ _ := .inl (.inl hs)
              have hq2 : SqL X.K F1 _ _ := .inl (.inl hs2)
              exact ⟨_, _, _, _, rfl, w1.sub.seq hq, w1.sub.seq hq2, post F1 H1 e1 w1 _ (yields_zip hq hr hq2 hr2)⟩
    · cases hz
  · exact ⟨c, F, ρ, .ex x, ρ', w, h1, post⟩
end

/-! ### for -/
def loopD (p : Put) (b : M Fl) : List D → M Fl
  | [] => M.pure .nx
  | d :: ds => fun ρ => match p d ρ with
    | none => none
    | some ρ1 => match b ρ1 with
      | some (.ok .nx, ρ2) => loopD p b ds ρ2
      | some (.ok .ct, ρ2) => loopD p b ds ρ2
      | some (.ok .bk, ρ2) => some (.ok .nx, ρ2)
      | some (.ok (.rt s), ρ2) => some (.ok (.rt s), ρ2)
      | some (.ex x, ρ2) => some (.ex x, ρ2)
      | none => none
def mFor (it : M (List D)) (p : Put) (b : M Fl) : M Fl := it.bind fun ds => loopD p b ds
section
variable {X : Cx} {Wx : WX} {pos : Pos} {tg iter : Expr} {mi : M (List D)} {body : List Stmt} {mb : M Fl} {p : Put} {js : List Nat}
theorem psm_for (hfor : ∀ {wi : TI} {g : TG} {tb : TS}, PI X tg iter wi → PG X tg g → PSs X body tb → PS X (.For tg iter body [] pos) (tFor wi g tb)) (hi : PIM X Wx tg iter mi) (hg : PGt X tg js p) (hb : PSsM X Wx body mb) : PSM X Wx (.For tg iter body [] pos) (mFor mi p mb) := by
  refine ps_imp (hfor hi hg hb) fun De σ H h => ?_
  obtain ⟨c, F, ρ, r, ρ', w, hm, post⟩ := h
  rcases bind_inv hm with ⟨ds, ρ1, q1, q2⟩ | ⟨x, q1, rfl⟩
  · refine ⟨c, F, ρ, .ok ds, ρ1, w, q1, fun F1 H1 e1 w1 J hJ => ?_⟩
    refine ⟨fun i m σ H => m = ds.length - i ∧ i ≤ ds.length ∧ ∃ F2 ρ2, Same F1 F2 ∧ W X.K c F2 ρ2 σ H ∧ loopD p mb (ds.drop i) ρ2 = some (r, ρ'), ⟨ds.length, by simp, Nat.zero_le _, F1, ρ1, Same.refl _, w1, q2⟩, ?_⟩
    rintro i m σ2 H2 ⟨rfl, hil, F2, ρ2, e2, w2, hl⟩
    obtain ⟨y1, y2⟩ := hJ F2 H2 i e2 w2.sub
    by_cases hlt : i < ds.length
    · right
      obtain ⟨hgo, hy⟩ := y1 ds[i] (List.getElem?_eq_getElem hlt)
      refine ⟨hgo, fun σ H => ∃ F3 ρ3, Same F1 F3 ∧ W X.K c F3 ρ3 σ H ∧ loopD p mb (ds.drop (i + 1)) ρ3 = some (r, ρ'), fun σ' H' ⟨F3, ρ3, a1, a2, a3⟩ => ⟨ds.length - (i + 1), by omega, rfl, hlt, F3, ρ3, a1, a2, a3⟩, fun x H3 yy => ?_⟩
      obtain ⟨F3, g3, r3⟩ := hy x H3 yy
      have w3 := g3.2 _ _ _ w2
      rw [List.drop_eq_getElem_cons hlt] at hl
      have hl' : (match p ds[i] ρ2 with
        | none => none
        | some ρ1 => match mb ρ1 with
          | some (.ok .nx, ρ2) => loopD p mb (ds.drop (i + 1)) ρ2
          | some (.ok .ct, ρ2) => loopD p mb (ds.drop (i + 1)) ρ2
          | some (.ok .bk, ρ2) => some (.ok .nx, ρ2)
          | some (.ok (.rt s), ρ2) => some (.ok (.rt s), ρ2)
          | some (.ex x, ρ2) => some (.ex x, ρ2)
          | none => none) = some (r, ρ') := hl
      cases hpp : p ds[i] ρ2 with
      | none => rw [hpp] at hl'; cases hl'
      | some ρ3 =>
        rw [hpp] at hl'
        refine ⟨c, F3, ρ2, ds[i], ρ3, w3, r3, hpp, fun σ4 _ _ w4 => ?_⟩
        have hl2 : (match mb ρ3 with
          | some (.ok .nx, ρ2) => loopD p mb (ds.drop (i + 1)) ρ2
          | some (.ok .ct, ρ2) => loopD p mb (ds.drop (i + 1)) ρ2
          | some (.ok .bk, ρ2) => some (.ok .nx, ρ2)
          | some (.ok (.rt s), ρ2) => some (.ok (.rt s), ρ2)
          | some (.ex x, ρ2) => some (.ex x, ρ2)
          | none => none) = some (r, ρ') := hl'
        cases eb : mb ρ3 with
        | none => rw [eb] at hl2; cases hl2
        | some pr =>
          obtain ⟨rb, ρ5⟩ := pr
          rw [eb] at hl2
          refine ⟨c, F3, ρ3, rb, ρ5, w4, eb, ?_⟩
          have e3 : Same F1 F3 := e2.trans g3.1
          cases rb with
          | ex x => cases hl2; exact fun F' σ' d H' e' w' r' => post F' σ' d H' ((e1.trans e3).trans e') w' r'
          | ok f =>
            cases f with
            | nx => exact fun F6 σ6 H6 e6 w6 => ⟨F6, ρ5, e3.trans e6, w6, hl2⟩
            | ct => exact fun F6 σ6 H6 e6 w6 => ⟨F6, ρ5, e3.trans e6, w6, hl2⟩
            | bk => cases hl2; exact fun F6 σ6 H6 e6 w6 => post F6 σ6 H6 ((e1.trans e3).trans e6) w6
            | rt s => cases hl2; exact fun F6 σ6 v H6 e6 w6 r6 => post F6 σ6 v H6 ((e1.trans e3).trans e6) w6 r6
    · left
      have he : ds.drop i = [] := List.drop_eq_nil_of_le (by omega)
      rw [he] at hl
      cases hl
      exact ⟨y2 (by omega), post F2 σ2 H2 (e1.trans e2) w2⟩
  · exact ⟨c, F, ρ, .ex x, ρ', w, q1, fun F' d H' e' w' r' => post F' σ d H' e' w' r'⟩
end
end L3
set_option Elab.async false
set_option linter.all false
set_option maxRecDepth 100000
set_option maxHeartbeats 2000000
namespace L3
open PySem PySem.Spec PyProof.Rows L2

/-! ### calls of defs -/
def content (ρ : List S) : Ag → Option S
  | .d d => some (.dat d)
  | .s i => match ρ[i]? with
    | some (.own o) => some (.par o)
    | some (.par o) => some (.par o)
    | _ => none
def contents (ρ : List S) : List Ag → Option (List S)
  | [] => some []
  | g :: gs => match content ρ g, contents ρ gs with
    | some s, some ss => some (s :: ss)
    | _, _ => none
def slotsOf : List Ag → List Nat
  | [] => []
  | .d _ :: gs => slotsOf gs
  | .s i :: gs => i :: slotsOf gs
def putAt (ρ : List S) (i : Nat) (o : OB) : List S := match ρ[i]? with
  | some s => ρ.set i (s.put o)
  | none => ρ
def wback : List Ag → List S → List S → Option (List S)
  | [], _, ρ => some ρ
  | .d _ :: gs, _ :: ss, ρ => wback gs ss ρ
  | .s i :: gs, .par o :: ss, ρ => wback gs ss (putAt ρ i o)
  | _, _, _ => none
def mCallS (n : Nat) (g : G) (dds : List D) (as : M (List Ag)) : M S := as.bind fun gs ρ => if (slotsOf gs).Nodup ∧ gs.length + dds.length = n then match contents ρ gs with
  | none => none
  | some ss => match g (ss ++ dds.map .dat) with
    | none => none
    | some (r, ss') => match wback gs ss' ρ with
      | none => none
      | some ρ' => some (r, ρ') else none
def asD : S → Option D
  | .dat d => some d
  | _ => none
def asO : S → Option OB
  | .own o => some o
  | _ => none
def mCall (n : Nat) (g : G) (dds : List D) (as : M (List Ag)) : M D := (mCallS n g dds as).bind fun s => M.lift (asD s)
def mCallO (n : Nat) (g : G) (dds : List D) (as : M (List Ag)) : M OB := (mCallS n g dds as).bind fun s => M.lift (asO s)
inductive AgM where
  | d (m : M D) | s (i : Nat)
def mAgs : List AgM → M (List Ag)
  | [] => M.pure []
  | .d m :: as => m.bind fun x => (mAgs as).bind fun xs => M.pure (.d x :: xs)
  | .s i :: as => fun ρ => match ρ[i]? with
    | some (.own _) => (mAgs as).bind (fun xs => M.pure (.s i :: xs)) ρ
    | some (.par _) => (mAgs as).bind (fun xs => M.pure (.s i :: xs)) ρ
    | _ => none

theorem content_s {ρ : List S} {k : Nat} {o : OB} (h : content ρ (.s k) = some (.par o)) : ρ[k]? = some (.own o) ∨ ρ[k]? = some (.par o) := by
  have h' : (match ρ[k]? with
    | some (.own o) => some (S.par o)
    | some (.par o) => some (.par o)
    | _ => none) = some (.par o) := h
  split at h' <;> rename_i e
  · cases h'; exact .inl e
  · cases h'; exact .inr e
  · cases h'
theorem content_s' {ρ : List S} {k : Nat} {s : S} (h : content ρ (.s k) = some s) : ∃ o, s = .par o := by
  have h' : (match ρ[k]? with
    | some (.own o) => some (S.par o)
    | some (.par o) => some (.par o)
    | _ => none) = some s := h
  split at h'
  · cases h'; exact ⟨_, rfl⟩
  · cases h'; exact ⟨_, rfl⟩
  · cases h'
theorem content_par {ρ : List S} {g : Ag} {o : OB} (h : content ρ g = some (.par o)) : ∃ k, g = .s k ∧ (ρ[k]? = some (.own o) ∨ ρ[k]? = some (.par o)) := by
  cases g with
  | d d => cases h
  | s k =>
    exact ⟨k, rfl, content_s h⟩
theorem contents_get {ρ : List S} : ∀ {gs : List Ag} {ss : List S} {i : Nat} {s : S}, contents ρ gs = some ss → ss[i]? = some s → ∃ g, gs[i]? = some g ∧ content ρ g = some s
  | [], ss, i, s, h, e => by cases h; simp at e
  | g :: gs, ss, i, s, h, e => by
    unfold contents at h
    split at h
    · rename_i s0 ss0 h1 h2
      cases h
      cases i with
      | zero => simp at e; subst e; exact ⟨g, rfl, h1⟩
      | succ i =>
        obtain ⟨g', a, b⟩ := contents_get (i := i) h2 (by simpa using e)
        exact ⟨g', by simpa using a, b⟩
    · cases h
theorem contents_len {ρ : List S} : ∀ {gs : List Ag} {ss : List S}, contents ρ gs = some ss → ss.length = gs.length
  | [], ss, h => by cases h; rfl
  | g :: gs, ss, h => by
    unfold contents at h
    split at h
    · rename_i s0 ss0 h1 h2
      cases h
      exact congrArg Nat.succ (contents_len h2)
    · cases h
theorem RepG.get {K : PySem.W.Frag} {F : Hp} {σ : L2.St} : ∀ {vs : List V} {gs : List Ag} {i : Nat} {g : Ag}, RepG K F σ vs gs → gs[i]? = some g → ∃ v, vs[i]? = some v ∧ match g with
    | Ag.d dd => Rep K F v dd
    | Ag.s k => ∃ a, v = V.ref a ∧ σ[k]? = some (some (V.ref a))
  | _, _, _, _, .nil, e => by simp at e
  | _, _, 0, _, .d r _, e => by simp at e; subst e; exact ⟨_, rfl, r⟩
  | _, _, 0, _, .s h _, e => by simp at e; subst e; exact ⟨_, rfl, _, rfl, h⟩
  | _, _, i + 1, _, .d _ t, e => by
    obtain ⟨v, h1, h2⟩ := RepG.get (i := i) t (by simpa using e)
    exact ⟨v, by simpa using h1, h2⟩
  | _, _, i + 1, _, .s _ t, e => by
    obtain ⟨v, h1, h2⟩ := RepG.get (i := i) t (by simpa using e)
    exact ⟨v, by simpa using h1, h2⟩
theorem RepG.len {K : PySem.W.Frag} {F : Hp} {σ : L2.St} : ∀ {vs : List V} {gs : List Ag}, RepG K F σ vs gs → vs.length = gs.length
  | _, _, .nil => rfl
  | _, _, .d _ t => congrArg Nat.succ (RepG.len t)
  | _, _, .s _ t => congrArg Nat.succ (RepG.len t)
theorem slotsOf_mem : ∀ {gs : List Ag} {i k : Nat}, gs[i]? = some (Ag.s k) → k ∈ slotsOf gs
  | [], _, _, h => by simp at h
  | .d _ :: gs, 0, k, h => by simp at h
  | .d _ :: gs, i + 1, k, h => slotsOf_mem (gs := gs) (i := i) (by simpa using h)
  | .s j :: gs, 0, k, h => by simp at h; subst h; exact List.mem_cons_self
  | .s j :: gs, i + 1, k, h => List.mem_cons_of_mem _ (slotsOf_mem (gs := gs) (i := i) (by simpa using h))
theorem slotsOf_get : ∀ {gs : List Ag} {k : Nat}, k ∈ slotsOf gs → ∃ (i : Nat), gs[i]? = some (Ag.s k)
  | [], _, h => by cases h
  | .d _ :: gs, k, h => by
    obtain ⟨i, hi⟩ := slotsOf_get (gs := gs) h
    exact ⟨i + 1, by simpa using hi⟩
  | .s j :: gs, k, h => by
    rcases List.mem_cons.mp h with e | h
    · exact ⟨0, by rw [e]; rfl⟩
    · obtain ⟨i, hi⟩ := slotsOf_get (gs := gs) h
      exact ⟨i + 1, by simpa using hi⟩
theorem slots_one : ∀ {gs : List Ag} {i j k : Nat}, (slotsOf gs).Nodup → gs[i]? = some (Ag.s k) → gs[j]? = some (Ag.s k) → i = j
  | [], _, _, _, _, h, _ => by simp at h
  | .d _ :: gs, 0, _, _, _, h, _ => by simp at h
  | .d _ :: gs, _ + 1, 0, _, _, _, h => by simp at h
  | .d _ :: gs, i + 1, j + 1, k, nd, h1, h2 => congrArg Nat.succ (slots_one (gs := gs) nd (by simpa using h1) (by simpa using h2))
  | .s m :: gs, 0, 0, _, _, _, _ => rfl
  | .s m :: gs, 0, j + 1, k, nd, h1, h2 => by
    simp at h1
    subst h1
    exact absurd (slotsOf_mem (gs := gs) (i := j) (by simpa using h2)) (List.nodup_cons.mp nd).1
  | .s m :: gs, i + 1, 0, k, nd, h1, h2 => by
    simp at h2
    subst h2
    exact absurd (slotsOf_mem (gs := gs) (i := i) (by simpa using h1)) (List.nodup_cons.mp nd).1
  | .s m :: gs, i + 1, j + 1, k, nd, h1, h2 => congrArg Nat.succ (slots_one (gs := gs) (List.nodup_cons.mp nd).2 (by simpa using h1) (by simpa using h2))
theorem putAt_ne {ρ : List S} {i j : Nat} {o : OB} (h : j ≠ i) : (putAt ρ i o)[j]? = ρ[j]? := by
  unfold putAt
  split
  · exact List.getElem?_set_ne (fun z => h z.symm)
  · rfl
theorem putAt_eq {ρ : List S} {i : Nat} {o : OB} {s : S} (h : ρ[i]? = some s) : (putAt ρ i o)[i]? = some (s.put o) := by
  unfold putAt
  rw [h]
  exact List.getElem?_set_self (List.getElem?_eq_some_iff.mp h).1
theorem wback_out : ∀ {gs : List Ag} {ss ρ ρ' : List S} {j : Nat}, wback gs ss ρ = some ρ' → j ∉ slotsOf gs → ρ'[j]? = ρ[j]?
  | [], _, _, _, _, h, _ => by cases h; rfl
  | .d _ :: gs, [], _, _, _, h, _ => by cases h
  | .d _ :: gs, _ :: ss, ρ, ρ', j, h, n => wback_out (gs := gs) (ss := ss) h n
  | .s i :: gs, [], _, _, _, h, _ => by cases h
  | .s i :: gs, .dead :: ss, _, _, _, h, _ => by cases h
  | .s i :: gs, .dat _ :: ss, _, _, _, h, _ => by cases h
  | .s i :: gs, .own _ :: ss, _, _, _, h, _ => by cases h
  | .s i :: gs, .par o :: ss, ρ, ρ', j, h, n => by
    have h' : wback gs ss (putAt ρ i o) = some ρ' := h
    rw [wback_out (gs := gs) h' (fun z => n (List.mem_cons_of_mem _ z)), putAt_ne (fun z => n (by rw [z]; exact List.mem_cons_self))]
theorem wback_in : ∀ {gs : List Ag} {ss ρ ρ' : List S} {i k : Nat} {s : S}, wback gs ss ρ = some ρ' → (slotsOf gs).Nodup → gs[i]? = some (Ag.s k) → ρ[k]? = some s → ∃ o, ss[i]? = some (.par o) ∧ ρ'[k]? = some (s.put o)
  | [], _, _, _, _, _, _, _, _, h, _ => by simp at h
  | .d _ :: gs, [], _, _, _, _, _, h, _, _, _ => by cases h
  | .d _ :: gs, _ :: ss, ρ, ρ', 0, k, s, h, nd, hg, hk => by simp at hg
  | .d _ :: gs, _ :: ss, ρ, ρ', i + 1, k, s, h, nd, hg, hk => by
    obtain ⟨o, h1, h2⟩ := wback_in (gs := gs) (ss := ss) (i := i) h nd (by simpa using hg) hk
    exact ⟨o, by simpa using h1, h2⟩
  | .s _ :: gs, [], _, _, _, _, _, h, _, _, _ => by cases h
  | .s _ :: gs, .dead :: ss, _, _, _, _, _, h, _, _, _ => by cases h
  | .s _ :: gs, .dat _ :: ss, _, _, _, _, _, h, _, _, _ => by cases h
  | .s _ :: gs, .own _ :: ss, _, _, _, _, _, h, _, _, _ => by cases h
  | .s m :: gs, .par o :: ss, ρ, ρ', 0, k, s, h, nd, hg, hk => by
    simp at hg
    subst hg
    have h' : wback gs ss (putAt ρ m o) = some ρ' := h
    exact ⟨o, rfl, by rw [wback_out (gs := gs) h' (List.nodup_cons.mp nd).1]; exact putAt_eq hk⟩
  | .s m :: gs, .par o :: ss, ρ, ρ', i + 1, k, s, h, nd, hg, hk => by
    have h' : wback gs ss (putAt ρ m o) = some ρ' := h
    have hm : k ≠ m := fun z => (List.nodup_cons.mp nd).1 (by rw [← z]; exact slotsOf_mem (gs := gs) (i := i) (by simpa using hg))
    obtain ⟨o', h1, h2⟩ := wback_in (gs := gs) (ss := ss) (i := i) h' (List.nodup_cons.mp nd).2 (by simpa using hg) (by rw [putAt_ne hm]; exact hk)
    exact ⟨o', by simpa using h1, h2⟩

section
variable {K : PySem.W.Frag} {c : Ctx} {F F' : Hp} {ρ ρ' : List S} {σ : L2.St} {H H' : Hp} {vs dvs : List V} {gs : List Ag} {ss ss' : List S} {dds : List D}
theorem put_own {s : S} {o : OB} : (∃ o', s.put o = .own o') ∨ ∃ o', s.put o = .par o' := by
  cases s
  · exact .inl ⟨_, rfl⟩
  · exact .inl ⟨_, rfl⟩
  · exact .inl ⟨_, rfl⟩
  · exact .inr ⟨_, rfl⟩
/-- what is passed by slot is owned by that slot -/
theorem pass_own (rg : RepG K F σ vs gs) (hc : contents ρ gs = some ss) {i : Nat} {o : OB} {b : Addr} (h1 : (ss ++ dds.map S.dat)[i]? = some (.par o)) (h2 : (vs ++ dvs)[i]? = some (V.ref b)) :
    ∃ (k : Nat), gs[i]? = some (Ag.s k) ∧ (ρ[k]? = some (.own o) ∨ ρ[k]? = some (.par o)) ∧ σ[k]? = some (some (V.ref b)) := by
  have hi : i < ss.length := by
    by_cases hi : i < ss.length
    · exact hi
    · rw [List.getElem?_append_right (by omega), List.getElem?_map] at h1
      cases e : dds[i - ss.length]? with
      | none => rw [e] at h1; cases h1
      | some d => rw [e] at h1; cases h1
  rw [List.getElem?_append_left hi] at h1
  obtain ⟨g, hg, hcg⟩ := contents_get hc h1
  obtain ⟨k, rfl, hk⟩ := content_par hcg
  obtain ⟨v, hv, a, rfl, ha⟩ := rg.get hg
  have hiv : i < vs.length := by rw [rg.len, ← contents_len hc]; exact hi
  rw [List.getElem?_append_left hiv] at h2
  rw [hv] at h2
  cases h2
  exact ⟨k, hg, hk, ha⟩
theorem W.args (w : W K c F ρ σ H) (rg : RepG K F σ vs gs) (nd : (slotsOf gs).Nodup) (hc : contents ρ gs = some ss) (hd : RepL K F dvs dds) : ArgS K F H (vs ++ dvs) (ss ++ dds.map S.dat) := by
  have l1 := contents_len hc
  have l2 := rg.len
  refine ⟨by rw [List.length_append, List.length_append, List.length_map, hd.len]; omega, fun i s h => ?_, fun i j o o' a h1 h2 h3 h4 => ?_⟩
  · by_cases hi : i < ss.length
    · rw [List.getElem?_append_left hi] at h
      obtain ⟨g, hg, hcg⟩ := contents_get hc h
      obtain ⟨v, hv, q⟩ := rg.get hg
      refine ⟨v, by rw [List.getElem?_append_left (by omega)]; exact hv, ?_⟩
      cases g with
      | d d => cases hcg; exact q
      | s k =>
        obtain ⟨a, rfl, ha⟩ := q
        obtain ⟨o0, rfl⟩ := content_s' hcg
        rcases content_s hcg with e | e
        · obtain ⟨x, hx, b, u, ex, f, g, r, _⟩ := w.slot k _ e
          rw [ha] at hx
          cases hx
          cases ex
          exact ⟨a, u, rfl, f, g, r⟩
        · obtain ⟨x, hx, b, u, ex, f, g, r, _⟩ := w.slot k _ e
          rw [ha] at hx
          cases hx
          cases ex
          exact ⟨a, u, rfl, f, g, r⟩
    · rw [List.getElem?_append_right (by omega), List.getElem?_map] at h
      cases e : dds[i - ss.length]? with
      | none => rw [e] at h; cases h
      | some d =>
        rw [e] at h
        cases h
        obtain ⟨v, hv, r⟩ := hd.get' e
        exact ⟨v, by rw [List.getElem?_append_right (by omega)]; rw [show i - vs.length = i - ss.length by omega]; exact hv, r⟩
  · obtain ⟨k, g1, k1, s1⟩ := pass_own (dds := dds) (dvs := dvs) rg hc h1 h3
    obtain ⟨k', g2, k2, s2⟩ := pass_own (dds := dds) (dvs := dvs) rg hc h2 h4
    have : k = k' := w.dj k k' a ⟨⟨o, k1⟩, s1⟩ ⟨⟨o', k2⟩, s2⟩
    subst this
    exact slots_one nd g1 g2
/-- behind a call -/
theorem W.call (w : W K c F ρ σ H) (rg : RepG K F σ vs gs) (nd : (slotsOf gs).Nodup) (hc : contents ρ gs = some ss) (ret : Ret K F H (vs ++ dvs) (ss ++ dds.map S.dat) F' H' ss') (hb : wback gs ss' ρ = some ρ') : W K c F' ρ' σ H' := by
  have noio : ∀ b, (∀ k, ¬ OwnAt ρ σ k b) → ¬ ioAt (vs ++ dvs) (ss ++ dds.map S.dat) b := fun b no ⟨i, o, h1, h2⟩ => by
    obtain ⟨k, _, k1, s1⟩ := pass_own (dds := dds) (dvs := dvs) rg hc h1 h2
    exact no k ⟨⟨o, k1⟩, s1⟩
  have fF : ∀ a u, F a = none → H a = some u → F' a = none := fun a u f h => by
    cases e : F' a with
    | none => rfl
    | some x =>
      have := ret.new a x e f
      rw [h] at this
      cases this
  -- the slots behind the call
  have look : ∀ (j : Nat) (s' : S), ρ'[j]? = some s' → (j ∉ slotsOf gs ∧ ρ[j]? = some s') ∨ ∃ (i : Nat) (s : S) (o : OB) (a : Addr) (u : HO), gs[i]? = some (Ag.s j) ∧ ρ[j]? = some s ∧ (∃ o0, s = .own o0 ∨ s = .par o0) ∧ s' = s.put o ∧ σ[j]? = some (some (V.ref a)) ∧ F' a = none ∧ H' a = some u ∧ RepO K F' u o := fun j s' hj => by
    by_cases hm : j ∈ slotsOf gs
    · right
      obtain ⟨i, hi⟩ := slotsOf_get hm
      have hil : i < ss.length := by rw [contents_len hc]; exact (List.getElem?_eq_some_iff.mp hi).1
      obtain ⟨g, hg, hcg⟩ := contents_get hc (List.getElem?_eq_getElem hil)
      rw [hi] at hg
      cases hg
      have hss : ∃ o0, ss[i] = .par o0 ∧ ∃ s, ρ[j]? = some s ∧ (∃ o0, s = .own o0 ∨ s = .par o0) := by
        obtain ⟨o0, ho0⟩ := content_s' hcg
        rw [ho0] at hcg
        rcases content_s hcg with e | e
        · exact ⟨o0, ho0, _, e, o0, .inl rfl⟩
        · exact ⟨o0, ho0, _, e, o0, .inr rfl⟩
      obtain ⟨o0, hso, s, hs, hso2⟩ := hss
      have hget : (ss ++ dds.map S.dat)[i]? = some (.par o0) := by rw [List.getElem?_append_left hil, List.getElem?_eq_getElem hil, hso]
      obtain ⟨a, u, o', hv, hs', f', g', r'⟩ := ret.par i o0 hget
      obtain ⟨k, gk, _, sk⟩ := pass_own (dds := dds) (dvs := dvs) rg hc hget hv
      rw [hi] at gk
      cases gk
      obtain ⟨o2, hs2, hp2⟩ := wback_in hb nd hi hs
      rw [hs'] at hs2
      cases hs2
      rw [hj] at hp2
      cases hp2
      exact ⟨i, s, o', a, u, hi, hs, hso2, rfl, sk, f', g', r'⟩
    · left
      exact ⟨hm, by rw [← wback_out hb hm]; exact hj⟩
  have own' : ∀ {j : Nat} {b : Addr}, OwnAt ρ' σ j b → OwnAt ρ σ j b := fun {j b} ⟨⟨o, h1⟩, h2⟩ => by
    have fin : ∀ s', ρ'[j]? = some s' → (∃ o, s' = S.own o ∨ s' = .par o) → OwnAt ρ σ j b := fun s' hs' ⟨o, ho⟩ => by
      rcases look j s' hs' with ⟨_, h⟩ | ⟨i, s, o', a, u, _, h, ⟨o0, h0⟩, _⟩
      · refine ⟨⟨o, ?_⟩, h2⟩
        rcases ho with rfl | rfl
        · exact .inl h
        · exact .inr h
      · refine ⟨⟨o0, ?_⟩, h2⟩
        rcases h0 with rfl | rfl
        · exact .inl h
        · exact .inr h
    rcases h1 with h1 | h1
    · exact fin _ h1 ⟨o, .inl rfl⟩
    · exact fin _ h1 ⟨o, .inr rfl⟩
  refine ⟨ret.sub, w.ext.trans ret.ext, fun b o e n => ?_, fun b o e n => ?_, fun b e => w.dom b (ret.dom b e), fun j s' hj => ?_, fun i j a h1 h2 => w.dj i j a (own' h1) (own' h2), fun a u ha => ?_⟩
  · refine ret.frm b o (w.frm b o e n) (noio b fun k ⟨⟨o', h1⟩, h2⟩ => ?_)
    rcases h1 with h1 | h1
    · obtain ⟨x, hx, a, u, ex, f, g, r, h0⟩ := w.slot k _ h1
      rw [h2] at hx
      cases hx
      cases ex
      rw [h0] at e
      cases e
    · obtain ⟨x, hx, a, u, ex, f, g, r, h0⟩ := w.slot k _ h1
      rw [h2] at hx
      cases hx
      cases ex
      exact n ⟨k, h0⟩
  · cases q : F b with
    | none => exact w.dom b (ret.new b o e q)
    | some x => exact w.new b x q n
  · rcases look j s' hj with ⟨hm, h⟩ | ⟨i, s, o, a, u, _, h, ⟨o0, h0⟩, rfl, sa, f', g', r'⟩
    · obtain ⟨x, hx, ok⟩ := w.slot j s' h
      refine ⟨x, hx, ?_⟩
      have out : ∀ a, x = some (V.ref a) → (∃ o, s' = S.own o ∨ s' = .par o) → ¬ ioAt (vs ++ dvs) (ss ++ dds.map S.dat) a := fun a ex ⟨o, ho⟩ ⟨i, o2, h1, h2⟩ => by
        obtain ⟨k, gk, k1, s1⟩ := pass_own (dds := dds) (dvs := dvs) rg hc h1 h2
        have hOwn : OwnAt ρ σ j a := by
          refine ⟨⟨o, ?_⟩, by rw [hx, ex]⟩
          rcases ho with rfl | rfl
          · exact .inl h
          · exact .inr h
        have := w.dj j k a hOwn ⟨⟨o2, k1⟩, s1⟩
        subst this
        exact hm (slotsOf_mem gk)
      cases s' with
      | dead => trivial
      | dat d => obtain ⟨v, e, r⟩ := ok; exact ⟨v, e, r.mono ret.ext⟩
      | own o =>
        obtain ⟨a, u, e, f, g, r, h0⟩ := ok
        exact ⟨a, u, e, fF a u f g, ret.frm a u g (out a e ⟨o, .inl rfl⟩), r.mono ret.ext, h0⟩
      | par o =>
        obtain ⟨a, u, e, f, g, r, h0⟩ := ok
        exact ⟨a, u, e, fF a u f g, ret.frm a u g (out a e ⟨o, .inr rfl⟩), r.mono ret.ext, h0⟩
    · refine ⟨_, sa, ?_⟩
      obtain ⟨x, hx, ok⟩ := w.slot j s h
      rw [sa] at hx
      cases hx
      rcases h0 with rfl | rfl
      · obtain ⟨b, u2, e, f, g, r, h0⟩ := ok
        cases e
        exact ⟨a, u, rfl, f', g', r', h0⟩
      · obtain ⟨b, u2, e, f, g, r, h0⟩ := ok
        cases e
        exact ⟨a, u, rfl, f', g', r', h0⟩
  · obtain ⟨h1, h2, h3⟩ := w.held a u ha
    exact ⟨ret.frm a u h1 (noio a h3), fF a u h2 h1, fun j q => h3 j (own' q)⟩
end
end L3
set_option Elab.async false
set_option linter.all false
set_option maxRecDepth 100000
set_option maxHeartbeats 2000000
namespace L3
open PySem PySem.Spec PyProof.Rows L2

section
variable {X : Cx} {Wx : WX} {k : Nat} {f C : Addr} {fd : FuncData} {ps : List Str} {sp : Sp} {dvs : List V} {ds : List Value} {x m : Str} {p pos apos : Pos} {e o : Expr} {es : List Expr} {t : TA} {ta : TE}
/-- a def that is called, the guards known -/
theorem run_fng {pins : List (Addr × Obj)} {σ : L2.St} {H : Hp} {s : Shared} {Q : VK} {us : List Value} {vs : List V} (Fn : FnG X.prog X.w X.K X.mg X.base k f fd ps sp) (hG : X.A.guards = some []) (hr : Room k X.A)
    (hb : Binds X.K fd ps ds) (hd : Vals dvs ds) (tk : Takes X Wx) (I : Inv X pins σ H s) (rv : Vals vs us) (h : sp (vs ++ dvs) H Q (fun cls d H' => Wx cls d σ H')) :
    wpAny (model X.prog X.w) X.A (PySem.call (.ref f) us) (EP X pins σ Q) X.xe s := by
  have rv2 : Vals (vs ++ dvs) (us ++ ds) := rv.append hd
  have hl : (us ++ ds).length = ps.length := rv2.length.symm.trans (Fn.len _ _ _ _ h)
  apply wpAny_call
  apply codeAny_mono (Fn.run X.A X.stack s H ⟨us, []⟩ (us ++ ds) (vs ++ dvs) Q _ hG hr I.env0 (hb s us I.kIn hl) rv2 h)
  intro r s' hq
  match r, hq with
  | .error e, hq => exact passAt tk σ pins H s e s' I hq
  | .ok (.ret u), hq => exact I.after hq
  | .ok .next, hq => exact False.elim hq
  | .ok .brk, hq => exact False.elim hq
  | .ok .cont, hq => exact False.elim hq
/-- the reading of a call -/
def tFn (sp : Sp) (dvs : List V) (Wx : WX) (t : TA) : TE := fun σ H Q => t σ H fun vs H1 => sp (vs ++ dvs) H1 Q (fun cls d H' => Wx cls d σ H')
theorem pe_fn (Fn : FnG X.prog X.w X.K X.mg X.base k f fd ps sp) (hG : X.A.guards = some []) (hr : Room k X.A) (hg : Gl X x) (hm : X.mg x = some (.ref f)) (hk : PySem.W.keepIn X.K (.ref f) = true) (hb : Binds X.K fd ps ds) (hd : Vals dvs ds) (tk : Takes X Wx)
    (ha : PA X (e :: es) t) (hdb : (x == ("__debug__" : Str)) = false := by decide) (he : starEach (e :: es) X.env = (false, eval e X.env) :: starEach es X.env := by rfl) (hpl : (backTo pos (starEach es X.env)).any (·.1) = false := by rfl) :
    PE X (.Call (.Name x p) (e :: es) [] pos) (tFn sp dvs Wx t) := by
  constructor
  intro pins s σ H Q I h
  apply wpAny_Call_Name_kw
  apply ld_glob I hg hm (hd := hdb)
  refine PySem.W.callWith_K (h₀ := X.base) I.ok.mod.kin hk (thn (ha.run pos pins s σ H _ I h) ?_) he hpl
  intro us s1 hh
  obtain ⟨vs, H1, I1, r, q⟩ := hh
  exact ⟨I1.kIn, run_fng Fn hG hr hb hd tk I1 r q⟩
theorem pe_fn0 (Fn : FnG X.prog X.w X.K X.mg X.base k f fd ps sp) (hG : X.A.guards = some []) (hr : Room k X.A) (hg : Gl X x) (hm : X.mg x = some (.ref f)) (hk : PySem.W.keepIn X.K (.ref f) = true) (hb : Binds X.K fd ps ds) (hd : Vals dvs ds) (tk : Takes X Wx)
    (hdb : (x == ("__debug__" : Str)) = false := by decide) : PE X (.Call (.Name x p) [] [] pos) (tFn sp dvs Wx tNil) := by
  constructor
  intro pins s σ H Q I h
  apply wpAny_Call_Name_kw
  apply ld_glob I hg hm (hd := hdb)
  exact PySem.W.callWith_K0 I.kIn hk (run_fng (us := []) Fn hG hr hb hd tk I .nil h)
/-- the reading of a method's call -/
def tMth (C : Addr) (m : Str) (sp : Sp) (dvs : List V) (Wx : WX) (ta : TE) (t : TA) : TE := fun σ H Q => ta σ H fun x H1 => ∃ a dx fs, x = V.ref a ∧ H1 a = some (.ins C dx fs) ∧ fs.lookup m = none ∧
  t σ H1 fun vs H2 => sp (x :: (vs ++ dvs)) H2 Q (fun cls d H' => Wx cls d σ H')
theorem pe_mth {pl : Sem Bool} (he : PE X o ta) (cl : Cls X.K C) (hm : Meth X.K C m f) (Fn : FnG X.prog X.w X.K X.mg X.base k f fd ps sp) (hG : X.A.guards = some []) (hr : Room k X.A) (hb : Binds X.K fd ps ds) (hd : Vals dvs ds) (tk : Takes X Wx) (ha : PA X (e :: es) t)
    (hst : starEach (e :: es) X.env = (false, eval e X.env) :: starEach es X.env := by rfl) (hpl : (backTo pos (starEach es X.env)).any (·.1) = false := by rfl)
    (ht : eval (.Call (.Attribute o m apos) (e :: es) [] pos) X.env = (do
      let ov ← eval o X.env
      standAt apos.atName
      let (f, first) ← holding [ov] (getMethod ov m pl)
      callWith pos f first (backTo pos (starEach (e :: es) X.env)) (backToKw pos (keywordEach [] X.env))) := by rfl) :
    PE X (.Call (.Attribute o m apos) (e :: es) [] pos) (tMth C m sp dvs Wx ta t) := by
  constructor
  intro pins s σ H Q I h
  refine PySem.W.methodCall_KW (pl := pl) (thn (he.run pins s σ H _ I h) ?_) ht
  intro u s1 hh
  obtain ⟨x, H1, I1, rx, a, dx, fs, rfl, ea, l, q⟩ := hh
  obtain rfl : u = Value.ref a := rx
  apply getmeth_ok I1 ea cl hm l
  refine PySem.W.callWith_K (first := [.ref a]) (h₀ := X.base) I.ok.mod.kin hm.kp (thn (ha.run pos pins s1 σ H1 _ I1 q) ?_) hst hpl
  intro us s2 hh2
  obtain ⟨vs, H2, I2, r, q2⟩ := hh2
  exact ⟨I2.kIn, run_fng (us := .ref a :: us) (vs := .ref a :: vs) Fn hG hr hb hd tk I2 (.cons rfl r) q2⟩
theorem pe_mth0 {pl : Sem Bool} (he : PE X o ta) (cl : Cls X.K C) (hm : Meth X.K C m f) (Fn : FnG X.prog X.w X.K X.mg X.base k f fd ps sp) (hG : X.A.guards = some []) (hr : Room k X.A) (hb : Binds X.K fd ps ds) (hd : Vals dvs ds) (tk : Takes X Wx)
    (ht : eval (.Call (.Attribute o m apos) [] [] pos) X.env = (do
      let ov ← eval o X.env
      standAt apos.atName
      let (f, first) ← holding [ov] (getMethod ov m pl)
      callWith pos f first (backTo pos (starEach [] X.env)) (backToKw pos (keywordEach [] X.env))) := by rfl) :
    PE X (.Call (.Attribute o m apos) [] [] pos) (tMth C m sp dvs Wx ta tNil) := by
  constructor
  intro pins s σ H Q I h
  refine PySem.W.methodCall_KW (pl := pl) (thn (he.run pins s σ H _ I h) ?_) ht
  intro u s1 hh
  obtain ⟨x, H1, I1, rx, a, dx, fs, rfl, ea, l, q⟩ := hh
  obtain rfl : u = Value.ref a := rx
  apply getmeth_ok I1 ea cl hm l
  exact PySem.W.callWith_K0 (first := [.ref a]) I1.kIn hm.kp (run_fng (us := [.ref a]) (vs := [.ref a]) Fn hG hr hb hd tk I1 (.cons rfl .nil) q)
/-- an instance is made -/
def tMk (C : Addr) (sp : Sp) (dvs : List V) (Wx : WX) (t : TA) : TE := fun σ H Q => t σ H fun vs H1 => ∀ x dx, H1 x = none → H1 dx = none → dx ≠ x →
  sp (.ref x :: (vs ++ dvs)) (upd (upd H1 dx (.own x)) x (.ins C dx [])) (fun v H2 => v = .non ∧ Q (.ref x) H2) (fun cls d H' => Wx cls d σ H')
theorem guards_make {A : Around} {C : Addr} {us : List Value} {kw : List (Str × Value)} (h : A.guards = some []) : (A.under (.builtin "type.__call__" ⟨.ref C :: us, kw⟩)).guards = some [] := by
  first
    | exact h
    | (simp [Around.under, Code.guards, Code.isGuard, guardIds, h])
theorem run_mkg {pins : List (Addr × Obj)} {σ : L2.St} {H : Hp} {s : Shared} {Q : VK} {us : List Value} {vs : List V} (Mk : Mk X.K C f) (Fn : FnG X.prog X.w X.K X.mg X.base k f fd ps sp) (hG : X.A.guards = some []) (hr : Room (k + 1) X.A) (hb : Binds X.K fd ps ds) (hd : Vals dvs ds)
    (tk : Takes X Wx) (I : Inv X pins σ H s) (rv : Vals vs us)
    (h : ∀ x dx, H x = none → H dx = none → dx ≠ x → sp (.ref x :: (vs ++ dvs)) (upd (upd H dx (.own x)) x (.ins C dx [])) (fun v H2 => v = .non ∧ Q (.ref x) H2) (fun cls d H' => Wx cls d σ H')) :
    wpAny (model X.prog X.w) X.A (PySem.call (.ref C) us) (EP X pins σ Q) X.xe s := by
  have hq := h (s.heap.objs.size + 1) s.heap.objs.size (I.hok.fresh (Nat.le_succ _)) (I.hok.fresh (Nat.le_refl _)) (Nat.ne_of_lt (Nat.lt_succ_self _))
  have I2 := Inv.made (C := C) I
  have rv2 : Vals (V.ref (s.heap.objs.size + 1) :: (vs ++ dvs)) (Value.ref (s.heap.objs.size + 1) :: (us ++ ds)) := .cons rfl (rv.append hd)
  have hl : (Value.ref (s.heap.objs.size + 1) :: us ++ ds).length = ps.length := rv2.length.symm.trans (Fn.len _ _ _ _ hq)
  apply wpAny_call
  apply make_map (f := f) I.kIn Mk.makes Mk.init (beq_iff_eq.mp Mk.fn)
  apply codeAny_mono (Fn.run _ X.stack _ _ ⟨Value.ref (s.heap.objs.size + 1) :: us, []⟩ (Value.ref (s.heap.objs.size + 1) :: (us ++ ds)) _ _ _ (guards_make hG) (hr.make C us []) (I2.env0.make C us []) (hb _ (Value.ref (s.heap.objs.size + 1) :: us) I2.kIn hl) rv2 hq)
  intro r s' hq'
  match r, hq' with
  | .error e, hq' => exact passAt tk σ pins _ _ e s' I2 hq'
  | .ok (.ret u), hq' =>
    obtain ⟨v, H', I3, r3, ev, q3⟩ := I2.after hq'
    subst ev
    exact ⟨r3, ⟨V.ref (s.heap.objs.size + 1), H', I3, rfl, q3⟩⟩
  | .ok .next, hq' => exact False.elim hq'
  | .ok .brk, hq' => exact False.elim hq'
  | .ok .cont, hq' => exact False.elim hq'
theorem pe_mk (Mk : Mk X.K C f) (Fn : FnG X.prog X.w X.K X.mg X.base k f fd ps sp) (hG : X.A.guards = some []) (hr : Room (k + 1) X.A) (hg : Gl X x) (hm : X.mg x = some (.ref C)) (hb : Binds X.K fd ps ds) (hd : Vals dvs ds) (tk : Takes X Wx)
    (ha : PA X (e :: es) t) (hdb : (x == ("__debug__" : Str)) = false := by decide) (he : starEach (e :: es) X.env = (false, eval e X.env) :: starEach es X.env := by rfl) (hpl : (backTo pos (starEach es X.env)).any (·.1) = false := by rfl) :
    PE X (.Call (.Name x p) (e :: es) [] pos) (tMk C sp dvs Wx t) := by
  constructor
  intro pins s σ H Q I h
  apply wpAny_Call_Name_kw
  apply ld_glob I hg hm (hd := hdb)
  refine PySem.W.callWith_K (h₀ := X.base) I.ok.mod.kin Mk.kp (thn (ha.run pos pins s σ H _ I h) ?_) he hpl
  intro us s1 hh
  obtain ⟨vs, H1, I1, r, q⟩ := hh
  exact ⟨I1.kIn, run_mkg Mk Fn hG hr hb hd tk I1 r q⟩
end

/-! ### arguments -/
section
variable {X : Cx} {Wx : WX} {e : Expr} {es : List Expr} {me : M D} {as : List AgM}
theorem pgm_nil : PGM X Wx [] (mAgs []) := by
  refine pa_imp pa_nil fun σ H Q h => ?_
  obtain ⟨c, F, ρ, rr, ρ', w, hm, post⟩ := h
  cases hm
  exact post F H (Same.refl _) w [] .nil
theorem pgm_d (ha : PEM X Wx e me) (hr : PGM X Wx es (mAgs as)) (hs : starEach (e :: es) X.env = (false, eval e X.env) :: starEach es X.env := by rfl) : PGM X Wx (e :: es) (mAgs (.d me :: as)) := by
  refine pa_imp (pa_cons ha hr hs) fun σ H Q h => ?_
  obtain ⟨c, F, ρ, rr, ρ', w, hm, post⟩ := h
  rcases bind_inv hm with ⟨x, ρ1, h1, h2⟩ | ⟨x, h1, rfl⟩
  · refine ⟨c, F, ρ, .ok x, ρ1, w, h1, fun F1 H1 e1 w1 v1 r1 => ?_⟩
    rcases bind_inv h2 with ⟨y, ρ2, h3, h4⟩ | ⟨x, h3, rfl⟩
    · refine ⟨c, F1, ρ1, .ok y, ρ2, w1, h3, fun F2 H2 e2 w2 vs r2 => ?_⟩
      cases h4
      exact post F2 H2 (e1.trans e2) w2 (v1 :: vs) (.d (r1.mono e2) r2)
    · exact ⟨c, F1, ρ1, .ex x, ρ', w1, h3, PostX.mono e1 post⟩
  · exact ⟨c, F, ρ, .ex x, ρ', w, h1, post⟩
theorem own_slot {K : PySem.W.Frag} {c : Ctx} {F : Hp} {ρ : List S} {σ : L2.St} {H : Hp} {i : Nat} {o : OB} (w : W K c F ρ σ H) (h : ρ[i]? = some (.own o) ∨ ρ[i]? = some (.par o)) :
    ∃ a u, σ[i]? = some (some (V.ref a)) ∧ OwnAt ρ σ i a ∧ F a = none ∧ H a = some u ∧ RepO K F u o := by
  rcases h with h | h
  · obtain ⟨x, hx, a, u, rfl, f, g, r, _⟩ := w.slot i _ h
    exact ⟨a, u, hx, ⟨⟨o, .inl h⟩, hx⟩, f, g, r⟩
  · obtain ⟨x, hx, a, u, rfl, f, g, r, _⟩ := w.slot i _ h
    exact ⟨a, u, hx, ⟨⟨o, .inr h⟩, hx⟩, f, g, r⟩
theorem mAgs_s {i : Nat} {ρ ρ' : List S} {r : R (List Ag)} (h : mAgs (.s i :: as) ρ = some (r, ρ')) : (∃ o, ρ[i]? = some (.own o) ∨ ρ[i]? = some (.par o)) ∧ (mAgs as).bind (fun xs => M.pure (.s i :: xs)) ρ = some (r, ρ') := by
  have h' : (match ρ[i]? with
    | some (.own _) => (mAgs as).bind (fun xs => M.pure (Ag.s i :: xs)) ρ
    | some (.par _) => (mAgs as).bind (fun xs => M.pure (.s i :: xs)) ρ
    | _ => none) = some (r, ρ') := h
  split at h' <;> rename_i e
  · exact ⟨⟨_, .inl e⟩, h'⟩
  · exact ⟨⟨_, .inr e⟩, h'⟩
  · cases h'
theorem pgm_s (i : Nat) {x : Str} {pos : Pos} (hr : PGM X Wx es (mAgs as)) (hN : X.N[i]? = some x := by rfl) (hv : Vis X.env.scope x := by first | exact Or.inl rfl | exact Or.inr (Or.inl rfl) | exact Or.inr (Or.inr rfl)) (hd : (x == ("__debug__" : Str)) = false := by decide)
    (hcd : (x == ("__classdict__" : Str)) = false := by decide) (hs : starEach (.Name x pos :: es) X.env = (false, eval (.Name x pos) X.env) :: starEach es X.env := by rfl) : PGM X Wx (.Name x pos :: es) (mAgs (.s i :: as)) := by
  refine pa_imp (pa_cons (pe_var hN hv hd hcd) hr hs) fun σ H Q h => ?_
  obtain ⟨c, F, ρ, rr, ρ', w, hm, post⟩ := h
  obtain ⟨⟨o, ho⟩, hm⟩ := mAgs_s hm
  obtain ⟨a, u, ha, _⟩ := own_slot w ho
  refine ⟨_, ha, ?_⟩
  rcases bind_inv hm with ⟨y, ρ2, h3, h4⟩ | ⟨x, h3, rfl⟩
  · refine ⟨c, F, ρ, .ok y, ρ2, w, h3, fun F2 H2 e2 w2 vs r2 => ?_⟩
    cases h4
    exact post F2 H2 e2 w2 (_ :: vs) (.s ha r2)
  · exact ⟨c, F, ρ, .ex x, ρ', w, h3, post⟩
end

/-! ### calls by semantics -/
def RetW (K : PySem.W.Frag) (c : Ctx) (ρ' : List S) (σ : L2.St) (F' H' : Hp) (v : V) (s : S) : Prop := match s with
  | .dat d => Rep K F' v d
  | .own o => ∃ a u, v = V.ref a ∧ F' a = none ∧ H' a = some u ∧ RepO K F' u o ∧ c.H a = none ∧ c.hd a = none ∧ ∀ i, ¬ OwnAt ρ' σ i a
  | _ => False
section
variable {K : PySem.W.Frag} {Wx : WX} {σ : L2.St} {H : Hp}
theorem callS_inv {n : Nat} {g : G} {dds : List D} {gs : List Ag} {ρ ρ' : List S} {r : R S} (h : (if (slotsOf gs).Nodup ∧ gs.length + dds.length = n then match contents ρ gs with
  | none => none
  | some ss => match g (ss ++ dds.map .dat) with
    | none => none
    | some (r, ss') => match wback gs ss' ρ with
      | none => none
      | some ρ' => some (r, ρ') else none) = some (r, ρ')) : (slotsOf gs).Nodup ∧ gs.length + dds.length = n ∧ ∃ ss ss', contents ρ gs = some ss ∧ g (ss ++ dds.map S.dat) = some (r, ss') ∧ wback gs ss' ρ = some ρ' := by
  split at h
  · rename_i hc
    refine ⟨hc.1, hc.2, ?_⟩
    cases e1 : contents ρ gs with
    | none => rw [e1] at h; cases h
    | some ss =>
      rw [e1] at h
      cases e2 : g (ss ++ dds.map S.dat) with
      | none => simp only [e2] at h; cases h
      | some pr =>
        obtain ⟨r2, ss'⟩ := pr
        simp only [e2] at h
        cases e3 : wback gs ss' ρ with
        | none => simp only [e3] at h; cases h
        | some ρ2 =>
          simp only [e3] at h
          cases h
          exact ⟨ss, ss', rfl, e2, e3⟩
  · cases h
theorem new_own {c : Ctx} {F : Hp} {ρ : List S} {a : Addr} (w : W K c F ρ σ H) (h : H a = none) : c.H a = none ∧ c.hd a = none ∧ ∀ i, ¬ OwnAt ρ σ i a := by
  obtain ⟨_, _, q2, q3, q4⟩ := w.alloc (u := .lst []) h
  exact ⟨q2, q3, q4⟩
/-- the callee's semantics, at these arguments -/
def callAt (n : Nat) (g : G) (dds : List D) (gs : List Ag) : M S := fun ρ => if (slotsOf gs).Nodup ∧ gs.length + dds.length = n then match contents ρ gs with
  | none => none
  | some ss => match g (ss ++ dds.map .dat) with
    | none => none
    | some (r, ss') => match wback gs ss' ρ with
      | none => none
      | some ρ' => some (r, ρ') else none
theorem callS_eq (n : Nat) (g : G) (dds : List D) (as : M (List Ag)) : mCallS n g dds as = as.bind (callAt n g dds) := rfl
theorem call_core {c : Ctx} {F1 H1 : Hp} {ρ1 ρ' : List S} {n : Nat} {g : G} {dds : List D} {dvs vs : List V} {gs : List Ag} {rr : R S} {P : S → Hp → Hp → Prop} {Q : VK} (w1 : W K c F1 ρ1 σ H1) (rg : RepG K F1 σ vs gs) (h2 : callAt n g dds gs ρ1 = some (rr, ρ')) (hd : ∀ F, RepL K F dvs dds)
    (post : PostR K Wx c F1 ρ' σ P rr) (hQ : ∀ s F' H' v, W K c F' ρ' σ H' → RetW K c ρ' σ F' H' v s → P s F' H' → Q v H') : spG K n g (vs ++ dvs) H1 Q (fun cls d H' => Wx cls d σ H') := by
  obtain ⟨nd, hn, ss, ss', hc, hg, hb⟩ := callS_inv h2
  refine ⟨by rw [List.length_append, rg.len, (hd F1).len]; exact hn, F1, ss ++ dds.map S.dat, rr, ss', w1.sub, w1.args rg nd hc (hd F1), hg, ?_⟩
  cases rr with
  | ex x => exact fun F' d H' ret rx => post F' d H' ret.ext (w1.call rg nd hc ret hb) rx
  | ok s =>
    intro F' v H' ret rv
    have w' := w1.call rg nd hc ret hb
    refine hQ s F' H' v w' ?_ (post F' H' ret.ext w')
    cases s with
    | dead => exact rv
    | par o => exact rv
    | dat d => exact rv
    | own o =>
      obtain ⟨a, u, ev, q1, q2, q3, q4⟩ := rv
      obtain ⟨z1, z2, z3⟩ := new_own w1 q4
      refine ⟨a, u, ev, q1, q2, q3, z1, z2, fun i hi => ?_⟩
      -- the slots' owners are those of before
      have : ∃ k, OwnAt ρ1 σ k a := by
        obtain ⟨⟨o', h1⟩, h2⟩ := hi
        have key : ∀ s', ρ'[i]? = some s' → (∃ o, s' = S.own o ∨ s' = .par o) → ∃ k, OwnAt ρ1 σ k a := fun s' hs' ho => by
          by_cases hmem : i ∈ slotsOf gs
          · obtain ⟨j, hj⟩ := slotsOf_get hmem
            have hjl : j < ss.length := by rw [contents_len hc]; exact (List.getElem?_eq_some_iff.mp hj).1
            obtain ⟨g2, hg2, hcg⟩ := contents_get hc (List.getElem?_eq_getElem hjl)
            rw [hj] at hg2
            cases hg2
            obtain ⟨o0, ho0⟩ := content_s' hcg
            rw [ho0] at hcg
            exact ⟨i, ⟨o0, content_s hcg⟩, h2⟩
          · rw [wback_out hb hmem] at hs'
            obtain ⟨o, ho⟩ := ho
            refine ⟨i, ⟨o, ?_⟩, h2⟩
            rcases ho with rfl | rfl
            · exact .inl hs'
            · exact .inr hs'
        rcases h1 with h1 | h1
        · exact key _ h1 ⟨_, .inl rfl⟩
        · exact key _ h1 ⟨_, .inr rfl⟩
      obtain ⟨k, hk⟩ := this
      exact z3 k hk
/-- the args are there; the call -/
theorem call_sim {n : Nat} {g : G} {dds : List D} {dvs : List V} {ma : M (List Ag)} {P : Ctx → List S → S → Hp → Hp → Prop} {Q : VK} (h : tM K Wx (mCallS n g dds ma) σ H P) (hd : ∀ F, RepL K F dvs dds)
    (hQ : ∀ c ρ' s F' H' v, W K c F' ρ' σ H' → RetW K c ρ' σ F' H' v s → P c ρ' s F' H' → Q v H') : tG K Wx ma σ H (fun vs H1 => spG K n g (vs ++ dvs) H1 Q (fun cls d H' => Wx cls d σ H')) := by
  obtain ⟨c, F, ρ, rr, ρ', w, hm, post⟩ := h
  rcases bind_inv hm with ⟨gs, ρ1, h1, h2⟩ | ⟨x, h1, rfl⟩
  · exact ⟨c, F, ρ, .ok gs, ρ1, w, h1, fun F1 H1 e1 w1 vs rg => call_core w1 rg h2 hd (post.mono e1) (hQ c ρ')⟩
  · exact ⟨c, F, ρ, .ex x, ρ', w, h1, post⟩
theorem tM_D {m : M S} {P : Ctx → List S → D → Hp → Hp → Prop} (h : tM K Wx (m.bind fun s => M.lift (asD s)) σ H P) : tM K Wx m σ H (fun c ρ' s F' H' => ∃ d, s = .dat d ∧ P c ρ' d F' H') := by
  obtain ⟨c, F, ρ, rr, ρ', w, hm, post⟩ := h
  rcases bind_inv hm with ⟨s, ρ1, h1, h2⟩ | ⟨x, h1, rfl⟩
  · obtain ⟨d, hd, rfl, rfl⟩ := lift_inv h2
    refine ⟨c, F, ρ, .ok s, _, w, h1, fun F1 H1 e1 w1 => ?_⟩
    cases s <;> cases hd
    exact ⟨_, rfl, post F1 H1 e1 w1⟩
  · exact ⟨c, F, ρ, .ex x, ρ', w, h1, post⟩
theorem tM_O {m : M S} {P : Ctx → List S → OB → Hp → Hp → Prop} (h : tM K Wx (m.bind fun s => M.lift (asO s)) σ H P) : tM K Wx m σ H (fun c ρ' s F' H' => ∃ d, s = .own d ∧ P c ρ' d F' H') := by
  obtain ⟨c, F, ρ, rr, ρ', w, hm, post⟩ := h
  rcases bind_inv hm with ⟨s, ρ1, h1, h2⟩ | ⟨x, h1, rfl⟩
  · obtain ⟨d, hd, rfl, rfl⟩ := lift_inv h2
    refine ⟨c, F, ρ, .ok s, _, w, h1, fun F1 H1 e1 w1 => ?_⟩
    cases s <;> cases hd
    exact ⟨_, rfl, post F1 H1 e1 w1⟩
  · exact ⟨c, F, ρ, .ex x, ρ', w, h1, post⟩
end
section
variable {X : Cx} {Wx : WX} {k : Nat} {f : Addr} {fd : FuncData} {ps : List Str} {dvs : List V} {dds : List D} {ds : List Value} {x : Str} {p pos : Pos} {e : Expr} {es : List Expr} {g : G} {as : List AgM}
/-- f(..), f gives data -/
theorem pem_call (Fn : FnG X.prog X.w X.K X.mg X.base k f fd ps (spG X.K ps.length g)) (hG : X.A.guards = some []) (hr : Room k X.A) (hg : Gl X x) (hm : X.mg x = some (.ref f)) (hk : PySem.W.keepIn X.K (.ref f) = true) (hb : Binds X.K fd ps ds) (hd : Vals dvs ds) (hdd : ∀ F, RepL X.K F dvs dds) (tk : Takes X Wx)
    (ha : PGM X Wx (e :: es) (mAgs as)) (hdb : (x == ("__debug__" : Str)) = false := by decide) (he : starEach (e :: es) X.env = (false, eval e X.env) :: starEach es X.env := by rfl) (hpl : (backTo pos (starEach es X.env)).any (·.1) = false := by rfl) :
    PEM X Wx (.Call (.Name x p) (e :: es) [] pos) (mCall ps.length g dds (mAgs as)) := by
  refine pe_imp (pe_fn Fn hG hr hg hm hk hb hd tk ha hdb he hpl) fun σ H Q h => ?_
  exact call_sim (tM_D h) hdd fun c ρ' s F' H' v w rv ⟨d, ed, q⟩ => by
    subst ed
    exact q v rv
theorem pom_call (Fn : FnG X.prog X.w X.K X.mg X.base k f fd ps (spG X.K ps.length g)) (hG : X.A.guards = some []) (hr : Room k X.A) (hg : Gl X x) (hm : X.mg x = some (.ref f)) (hk : PySem.W.keepIn X.K (.ref f) = true) (hb : Binds X.K fd ps ds) (hd : Vals dvs ds) (hdd : ∀ F, RepL X.K F dvs dds) (tk : Takes X Wx)
    (ha : PGM X Wx (e :: es) (mAgs as)) (hdb : (x == ("__debug__" : Str)) = false := by decide) (he : starEach (e :: es) X.env = (false, eval e X.env) :: starEach es X.env := by rfl) (hpl : (backTo pos (starEach es X.env)).any (·.1) = false := by rfl) :
    POM X Wx (.Call (.Name x p) (e :: es) [] pos) (mCallO ps.length g dds (mAgs as)) := by
  refine pe_imp (pe_fn Fn hG hr hg hm hk hb hd tk ha hdb he hpl) fun σ H Q h => ?_
  exact call_sim (tM_O h) hdd fun c ρ' s F' H' v w rv ⟨d, ed, q⟩ => by
    subst ed
    obtain ⟨a, u, ev, q1, q2, q3, q4, q5, q6⟩ := rv
    subst ev
    exact q a u q1 q2 q3 q4 q5 q6
end
end L3
set_option Elab.async false
set_option linter.all false
set_option maxRecDepth 100000
set_option maxHeartbeats 2000000
namespace L3
open PySem PySem.Spec PyProof.Rows L2

/-! ### fields of instances -/
theorem RepF.look {K : PySem.W.Frag} {F : Hp} {f : Str} : ∀ {fs : List (Str × V)} {ds : List (Str × D)}, RepF K F fs ds → (∀ d, ds.lookup f = some d → ∃ v, fs.lookup f = some v ∧ Rep K F v d) ∧ (ds.lookup f = none → fs.lookup f = none)
  | _, _, .nil => ⟨fun d h => by simp [List.lookup] at h, fun _ => rfl⟩
  | _, _, .cons (f := g) (v := v) (d := d) r t => by
    obtain ⟨h1, h2⟩ := RepF.look (f := f) t
    refine ⟨fun d' h => ?_, fun h => ?_⟩
    · rw [List.lookup_cons] at h ⊢
      cases e : f == g with
      | true => rw [e] at h; cases h; exact ⟨v, rfl, r⟩
      | false => rw [e] at h; exact h1 d' h
    · rw [List.lookup_cons] at h ⊢
      cases e : f == g with
      | true => rw [e] at h; cases h
      | false => rw [e] at h; exact h2 h
theorem RepF.len {K : PySem.W.Frag} {F : Hp} : ∀ {fs : List (Str × V)} {ds : List (Str × D)}, RepF K F fs ds → fs.length = ds.length
  | _, _, .nil => rfl
  | _, _, .cons _ t => congrArg Nat.succ (RepF.len t)
def putD (f : Str) (v : D) : List (Str × D) → List (Str × D)
  | [] => [(f, v)]
  | (g, x) :: r => if g = f then (g, v) :: r else (g, x) :: putD f v r
theorem RepF.put {K : PySem.W.Frag} {F : Hp} {f : Str} {v : V} {d : D} (r : Rep K F v d) : ∀ {fs : List (Str × V)} {ds : List (Str × D)}, RepF K F fs ds → RepF K F (putF f v fs) (putD f d ds)
  | _, _, .nil => .cons r .nil
  | _, _, .cons (f := g) (v := w) (d := e) r1 t => by
    show RepF K F (if g = f then (g, v) :: _ else (g, w) :: putF f v _) (if g = f then (g, d) :: _ else (g, e) :: putD f d _)
    by_cases h : g = f
    · rw [if_pos h, if_pos h]
      exact .cons r t
    · rw [if_neg h, if_neg h]
      exact .cons r1 (RepF.put r t)
def fldD (C : Addr) (f : Str) : D → Option D
  | .ins C' fs => if C' = C then fs.lookup f else none
  | _ => none
def fldO (C : Addr) (f : Str) : OB → Option D
  | .ins C' fs => if C' = C then fs.lookup f else none
  | _ => none
def mSlot (i : Nat) : M OB := fun ρ => match ρ[i]? with
  | some (.own o) => some (.ok o, ρ)
  | some (.par o) => some (.ok o, ρ)
  | _ => none
/-- a field of the object that slot i owns -/
def mFldS (i : Nat) (C : Addr) (f : Str) : M D := (mSlot i).bind fun o => M.lift (fldO C f o)
def mSetF (i : Nat) (C : Addr) (f : Str) (a : M D) : M Fl := a.bind fun d => (mSlot i).bind fun o ρ => match o with
  | .ins C' fs => if C' = C ∧ fs.length < 900 then some (.ok .nx, putAt ρ i (.ins C' (putD f d fs))) else none
  | _ => none
theorem slot_inv {i : Nat} {ρ ρ' : List S} {r : R OB} (h : mSlot i ρ = some (r, ρ')) : ∃ o, r = .ok o ∧ ρ' = ρ ∧ (ρ[i]? = some (.own o) ∨ ρ[i]? = some (.par o)) := by
  unfold mSlot at h
  split at h <;> rename_i e
  · cases h; exact ⟨_, rfl, rfl, .inl e⟩
  · cases h; exact ⟨_, rfl, rfl, .inr e⟩
  · cases h
section
variable {X : Cx} {Wx : WX} {e : Expr} {me : M D} {pos pos' p : Pos} {C : Addr} {f : Str}
theorem pem_fld (cl : Cls X.K (cA X.K C)) (na : NoAttr X.K (cA X.K C) f) (h : PEM X Wx e me) (hb : attributeBase e f X.env (eval e X.env) = eval e X.env := by rfl) : PEM X Wx (.Attribute e f pos) (mUn (fldD C f) me) := by
  refine pe_imp (pe_fld h hb) fun σ H Q h => ?_
  obtain ⟨c, F, ρ, rr, ρ', w, hm, post⟩ := h
  rcases bind_inv hm with ⟨x, ρ1, h1, h2⟩ | ⟨x, h1, rfl⟩
  · refine ⟨c, F, ρ, .ok x, ρ1, w, h1, fun F1 H1 e1 w1 v1 r1 => ?_⟩
    obtain ⟨z, hz, rfl, rfl⟩ := lift_inv h2
    cases r1 <;> try (cases hz; done)
    rename_i a dx C' fs ds ha hr
    have hz' : (if C' = C then ds.lookup f else none) = some z := hz
    split at hz'
    · rename_i hC
      subst hC
      obtain ⟨v, hv, rv⟩ := hr.look.1 z hz'
      exact ⟨_, _, _, _, v, rfl, w1.sub _ _ ha, cl, na, hv, post F1 H1 e1 w1 v rv⟩
    · cases hz'
  · exact ⟨c, F, ρ, .ex x, ρ', w, h1, post⟩
theorem pem_fldS (i : Nat) {x : Str} (cl : Cls X.K (cA X.K C)) (na : NoAttr X.K (cA X.K C) f) (hN : X.N[i]? = some x := by rfl) (hv : Vis X.env.scope x := by first | exact Or.inl rfl | exact Or.inr (Or.inl rfl) | exact Or.inr (Or.inr rfl)) (hd : (x == ("__debug__" : Str)) = false := by decide)
    (hcd : (x == ("__classdict__" : Str)) = false := by decide) (hb : attributeBase (.Name x p) f X.env (eval (.Name x p) X.env) = eval (.Name x p) X.env := by rfl) : PEM X Wx (.Attribute (.Name x p) f pos) (mFldS i C f) := by
  refine pe_imp (pe_fld (pe_var hN hv hd hcd) hb) fun σ H Q h => ?_
  obtain ⟨c, F, ρ, rr, ρ', w, hm, post⟩ := h
  rcases bind_inv hm with ⟨o, ρ1, h1, h2⟩ | ⟨x, h1, rfl⟩
  · obtain ⟨_, ez, rfl, ho⟩ := slot_inv h1
    cases ez
    obtain ⟨z, hz, rfl, rfl⟩ := lift_inv h2
    obtain ⟨a, u, ha, _, fa, ga, ro⟩ := own_slot w ho
    cases ro <;> try (cases hz; done)
    rename_i C' dx fs ds hr
    have hz' : (if C' = C then ds.lookup f else none) = some z := hz
    split at hz'
    · rename_i hC
      subst hC
      obtain ⟨v, hv, rv⟩ := hr.look.1 z hz'
      exact ⟨_, ha, _, _, _, _, v, rfl, ga, cl, na, hv, post F H (Same.refl _) w v rv⟩
    · cases hz'
  · obtain ⟨_, ez, _⟩ := slot_inv h1
    cases ez
theorem psm_fld (i : Nat) {x : Str} (cl : Cls X.K (cA X.K C)) (na : NoAttr X.K (cA X.K C) f) (h : PEM X Wx e me) (hN : X.N[i]? = some x := by rfl) (hv : Vis X.env.scope x := by first | exact Or.inl rfl | exact Or.inr (Or.inl rfl) | exact Or.inr (Or.inr rfl)) (hd : (x == ("__debug__" : Str)) = false := by decide)
    (hcd : (x == ("__classdict__" : Str)) = false := by decide) (hs : swapsWith e (some (.Attribute (.Name x p) f pos')) pos.line X.env = pure false := by rfl) : PSM X Wx (.Assign [.Attribute (.Name x p) f pos'] e pos) (mSetF i C f me) := by
  refine ps_imp (ps_fld (pe_var hN hv hd hcd) h hs) fun De σ H h => ?_
  obtain ⟨c, F, ρ, rr, ρ', w, hm, post⟩ := h
  rcases bind_inv hm with ⟨d, ρ1, h1, h2⟩ | ⟨x, h1, rfl⟩
  · refine ⟨c, F, ρ, .ok d, ρ1, w, h1, fun F1 H1 e1 w1 v1 r1 => ?_⟩
    rcases bind_inv h2 with ⟨o, ρ2, h3, h4⟩ | ⟨x, h3, rfl⟩
    · obtain ⟨_, ez, rfl, ho⟩ := slot_inv h3
      cases ez
      obtain ⟨a, u, ha, hown, fa, ga, ro⟩ := own_slot w1 ho
      cases ro <;> try (cases h4; done)
      rename_i C' dx fs ds hr
      have h5 : (if C' = C ∧ ds.length < 900 then some (R.ok Fl.nx, putAt ρ2 i (.ins C' (putD f d ds))) else none) = some (rr, ρ') := h4
      split at h5
      · rename_i hC
        obtain ⟨rfl, hl⟩ := hC
        cases h5
        refine ⟨_, ha, a, cA X.K C', dx, fs, rfl, ga, cl, na, by rw [hr.len]; omega, ?_⟩
        obtain ⟨s, hs⟩ : ∃ s, ρ2[i]? = some s := by rcases ho with ho | ho <;> exact ⟨_, ho⟩
        refine post F1 σ _ e1 ?_
        unfold putAt
        rw [hs]
        exact w1.chg hs hown (.ins (hr.put r1))
      · cases h5
    · obtain ⟨_, ez, _⟩ := slot_inv h3
      cases ez
  · exact ⟨c, F, ρ, .ex x, ρ', w, h1, fun F' d H' e' w' r' => post F' σ d H' e' w' r'⟩
end

/-! ### lists that a slot owns -/
def ixD (ds : List D) (k : D) : Option D := match k with
  | .int i => atI ds i
  | _ => none
def mIxS (i : Nat) (k : M D) : M D := (mSlot i).bind fun _ => k.bind fun kd => (mSlot i).bind fun o => M.lift (match o with | .lst ds => ixD ds kd | _ => none)
def mSlotL (i : Nat) : M (List D) := fun ρ => match ρ[i]? with
  | some (.own (.lst ds)) => some (.ok ds, ρ)
  | some (.par (.lst ds)) => some (.ok ds, ρ)
  | _ => none
def ixOf (ds : List D) : D → Option Nat
  | .int j => ixN ds.length j
  | _ => none
def mSetIx (i : Nat) (k a : M D) : M Fl := a.bind fun d => (mSlot i).bind fun _ => k.bind fun kd => (mSlotL i).bind fun ds => (M.lift (ixOf ds kd)).bind fun n ρ => some (.ok .nx, putAt ρ i (.lst (ds.set n d)))
def mApp (i : Nat) (a : M D) : M Fl := (mSlotL i).bind fun _ => a.bind fun d => (mSlotL i).bind fun ds ρ => if ds.length < 1000000 then some (.ok .nx, putAt ρ i (.lst (ds ++ [d]))) else none
def mLenS (i : Nat) : M D := (mSlotL i).bind fun ds => M.pure (.int ds.length)
/-- the object of slot i is data from now on -/
def mFrzS (i : Nat) : M D := fun ρ => match ρ[i]? with
  | some (.own o) => some (.ok o.toD, ρ.set i (.dat o.toD))
  | _ => none
theorem RepL.atI {K : PySem.W.Frag} {F : Hp} {vs : List V} {ds : List D} (r : RepL K F vs ds) {i : Int} {d : D} (h : L2.atI ds i = some d) : ∃ v, L2.atI vs i = some v ∧ Rep K F v d := by
  unfold L2.atI at h ⊢
  rw [r.len]
  cases e : ixN ds.length i with
  | none => rw [e] at h; cases h
  | some j =>
    rw [e] at h
    obtain ⟨v, hv, rv⟩ := r.get' (show ds[j]? = some d from h)
    exact ⟨v, hv, rv⟩
theorem RepL.set {K : PySem.W.Frag} {F : Hp} {v : V} {d : D} (q : Rep K F v d) : ∀ {vs : List V} {ds : List D} (n : Nat), RepL K F vs ds → RepL K F (vs.set n v) (ds.set n d)
  | _, _, _, .nil => .nil
  | _, _, 0, .cons _ t => .cons q t
  | _, _, n + 1, .cons r t => .cons r (RepL.set q n t)
theorem RepL.append {K : PySem.W.Frag} {F : Hp} : ∀ {vs ws : List V} {ds es : List D}, RepL K F vs ds → RepL K F ws es → RepL K F (vs ++ ws) (ds ++ es)
  | _, _, _, _, .nil, s => s
  | _, _, _, _, .cons r t, s => .cons r (RepL.append t s)
section
variable {X : Cx} {Wx : WX} {e k : Expr} {me mk : M D} {pos pos' p apos : Pos} {x : Str}
theorem pem_frzS (i : Nat) (hN : X.N[i]? = some x := by rfl) (hv : Vis X.env.scope x := by first | exact Or.inl rfl | exact Or.inr (Or.inl rfl) | exact Or.inr (Or.inr rfl)) (hd : (x == ("__debug__" : Str)) = false := by decide)
    (hcd : (x == ("__classdict__" : Str)) = false := by decide) : PEM X Wx (.Name x pos) (mFrzS i) := by
  refine pe_imp (pe_var hN hv hd hcd) fun σ H Q h => ?_
  obtain ⟨c, F, ρ, r, ρ', w, hm, post⟩ := h
  unfold mFrzS at hm
  split at hm
  · rename_i o hs
    cases hm
    obtain ⟨y, hx, a, u, rfl, fa, ga, ro, h0⟩ := w.slot i _ hs
    have hown : OwnAt ρ σ i a := ⟨⟨o, .inl hs⟩, hx⟩
    have hh : c.hd a = none := by
      cases e : c.hd a with
      | none => rfl
      | some z => exact absurd hown ((w.held a z e).2.2 i)
    have w1 : W X.K c F (ρ.set i .dead) (σ.set i (some (V.ref a))) H := w.setX (some (V.ref a))
    have es : σ.set i (some (V.ref a)) = σ := by
      have hl := (List.getElem?_eq_some_iff.mp hx)
      obtain ⟨h1, h2⟩ := hl
      rw [← h2]
      exact List.set_getElem_self h1
    have no : ∀ j, ¬ OwnAt (ρ.set i .dead) (σ.set i (some (V.ref a))) j a := fun j hj => by
      by_cases ej : i = j
      · subst ej
        obtain ⟨⟨o', h1⟩, _⟩ := hj
        rcases h1 with h1 | h1 <;> rcases get_set_some h1 with ⟨_, z, _⟩ | ⟨z, _⟩ <;> first | (cases z; done) | exact z rfl
      · exact ej (w.dj i j a hown (own_set_ne ej hj))
    have w2 := w1.frz fa ga h0 hh no
    have s1 : Same F (upd F a u) := same_upd fa
    have rr : Rep X.K (upd F a u) (V.ref a) o.toD := (ro.mono s1).rep upd_same
    have w3 := w2.setD (i := i) rr
    rw [List.set_set, List.set_set, es] at w3
    exact ⟨_, hx, post (upd F a u) H s1 w3 _ rr⟩
  · cases hm
theorem pem_ixS (i : Nat) (hk : PEM X Wx k mk) (hp : PlainIx k := by exact fun _ _ => rfl) (hN : X.N[i]? = some x := by rfl) (hv : Vis X.env.scope x := by first | exact Or.inl rfl | exact Or.inr (Or.inl rfl) | exact Or.inr (Or.inr rfl)) (hd : (x == ("__debug__" : Str)) = false := by decide)
    (hcd : (x == ("__classdict__" : Str)) = false := by decide) : PEM X Wx (.Subscript (.Name x p) k pos) (mIxS i mk) := by
  refine pe_imp (pe_ix ix_list (pe_var hN hv hd hcd) hk hp) fun σ H Q h => ?_
  obtain ⟨c, F, ρ, rr, ρ', w, hm, post⟩ := h
  rcases bind_inv hm with ⟨o0, ρ0, g1, g2⟩ | ⟨x, g1, rfl⟩
  · obtain ⟨_, ez, rfl, ho0⟩ := slot_inv g1
    cases ez
    obtain ⟨a, u, ha, _⟩ := own_slot w ho0
    refine ⟨_, ha, ?_⟩
    rcases bind_inv g2 with ⟨kd, ρ1, h1, h2⟩ | ⟨x, h1, rfl⟩
    · refine ⟨c, F, _, .ok kd, ρ1, w, h1, fun F1 H1 e1 w1 v1 r1 => ?_⟩
      rcases bind_inv h2 with ⟨o, ρ2, h3, h4⟩ | ⟨x, h3, rfl⟩
      · obtain ⟨_, ez, rfl, ho⟩ := slot_inv h3
        cases ez
        obtain ⟨z, hz, rfl, rfl⟩ := lift_inv h4
        obtain ⟨a', u', ha', _, fa, ga, ro⟩ := own_slot w1 ho
        rw [ha] at ha'
        cases ha'
        cases ro <;> try (cases hz; done)
        rename_i xs ds hr
        cases r1 <;> try (cases hz; done)
        rename_i j
        obtain ⟨v, hv, rv⟩ := hr.atI (show L2.atI ds j = some z from hz)
        exact ⟨a, xs, j, v, rfl, rfl, .inl (.inl ga), hv, post F1 H1 e1 w1 v rv⟩
      · obtain ⟨_, ez, _⟩ := slot_inv h3
        cases ez
    · exact ⟨c, F, _, .ex x, ρ', w, h1, post⟩
  · obtain ⟨_, ez, _⟩ := slot_inv g1
    cases ez
theorem slotL_inv {i : Nat} {ρ ρ' : List S} {r : R (List D)} (h : mSlotL i ρ = some (r, ρ')) : ∃ ds, r = .ok ds ∧ ρ' = ρ ∧ (ρ[i]? = some (.own (.lst ds)) ∨ ρ[i]? = some (.par (.lst ds))) := by
  unfold mSlotL at h
  split at h <;> rename_i e
  · cases h; exact ⟨_, rfl, rfl, .inl e⟩
  · cases h; exact ⟨_, rfl, rfl, .inr e⟩
  · cases h
theorem own_list {K : PySem.W.Frag} {c : Ctx} {F : Hp} {ρ : List S} {σ : L2.St} {H : Hp} {i : Nat} {ds : List D} (w : W K c F ρ σ H) (h : ρ[i]? = some (.own (.lst ds)) ∨ ρ[i]? = some (.par (.lst ds))) :
    ∃ a xs, σ[i]? = some (some (V.ref a)) ∧ OwnAt ρ σ i a ∧ F a = none ∧ H a = some (.lst xs) ∧ RepL K F xs ds := by
  obtain ⟨a, u, h1, h2, h3, h4, h5⟩ := own_slot w h
  cases h5 with
  | lst r => exact ⟨a, _, h1, h2, h3, h4, r⟩
theorem W.put {K : PySem.W.Frag} {c : Ctx} {F : Hp} {ρ : List S} {σ : L2.St} {H : Hp} {i : Nat} {a : Addr} {u : HO} {o : OB} (w : W K c F ρ σ H) (h : OwnAt ρ σ i a) (r : RepO K F u o) : W K c F (putAt ρ i o) σ (upd H a u) := by
  obtain ⟨s, hs⟩ : ∃ s, ρ[i]? = some s := by
    obtain ⟨⟨o', h1⟩, _⟩ := h
    rcases h1 with h1 | h1 <;> exact ⟨_, h1⟩
  unfold putAt
  rw [hs]
  exact w.chg hs h r
theorem psm_app (i : Nat) (he : PEM X Wx e me)
    (hp : ∀ {to : TE} {t : TA}, PE X (.Name x p) to → PA X [e] t → PS X (.Expr (.Call (.Attribute (.Name x p) "append" apos) [e] [] pos) pos') (tDrop (tBM X.K "list" rAppend to t)))
    (hN : X.N[i]? = some x := by rfl) (hv : Vis X.env.scope x := by first | exact Or.inl rfl | exact Or.inr (Or.inl rfl) | exact Or.inr (Or.inr rfl)) (hd : (x == ("__debug__" : Str)) = false := by decide)
    (hcd : (x == ("__classdict__" : Str)) = false := by decide)
    (hs : starEach [e] X.env = (false, eval e X.env) :: starEach [] X.env := by rfl) : PSM X Wx (.Expr (.Call (.Attribute (.Name x p) "append" apos) [e] [] pos) pos') (mApp i me) := by
  refine ps_imp (hp (pe_var hN hv hd hcd) (pa_cons he pa_nil hs)) fun De σ H h => ?_
  obtain ⟨c, F, ρ, rr, ρ', w, hm, post⟩ := h
  rcases bind_inv hm with ⟨o0, ρ0, g1, g2⟩ | ⟨x, g1, rfl⟩
  · obtain ⟨_, ez, rfl, ho0⟩ := slotL_inv g1
    cases ez
    obtain ⟨a, xs0, ha, _, fa0, ga0, ro0⟩ := own_list w ho0
    refine ⟨_, ha, .inl ⟨rfl, xs0, .inl (.inl ga0)⟩, ?_⟩
    rcases bind_inv g2 with ⟨d, ρ1, h1, h2⟩ | ⟨x, h1, rfl⟩
    · refine ⟨c, F, _, .ok d, ρ1, w, h1, fun F1 H1 e1 w1 v1 r1 => ?_⟩
      rcases bind_inv h2 with ⟨ds, ρ2, h3, h4⟩ | ⟨x, h3, rfl⟩
      · obtain ⟨_, ez, rfl, ho⟩ := slotL_inv h3
        cases ez
        obtain ⟨a', xs, ha', hown, fa, ga, ro⟩ := own_list w1 ho
        rw [ha] at ha'
        cases ha'
        have h5 : (if ds.length < 1000000 then some (R.ok Fl.nx, putAt ρ2 i (.lst (ds ++ [d]))) else none) = some (rr, ρ') := h4
        split at h5
        · rename_i hl
          cases h5
          refine ⟨a, xs, v1, rfl, rfl, ga, ?_, ?_⟩
          · rw [ro.len]
            exact Nat.lt_of_lt_of_le hl (by decide)
          · exact post F1 σ _ e1 (w1.put hown (.lst (ro.append (.cons r1 .nil))))
        · cases h5
      · obtain ⟨_, ez, _⟩ := slotL_inv h3
        cases ez
    · exact ⟨c, F, _, .ex x, ρ', w, h1, fun F' d H' e' w' r' => post F' σ d H' e' w' r'⟩
  · obtain ⟨_, ez, _⟩ := slotL_inv g1
    cases ez
theorem psm_setIx (i : Nat) {q : Pos} (hk : PEM X Wx k mk) (he : PEM X Wx e me)
    (hp : ∀ {te to ti : TE}, PE X e te → PE X (.Name x p) to → PE X k ti → PS X (.Assign [.Subscript (.Name x p) k q] e pos) (tAsg te (gSub to ti rSetL)))
    (hN : X.N[i]? = some x := by rfl) (hv : Vis X.env.scope x := by first | exact Or.inl rfl | exact Or.inr (Or.inl rfl) | exact Or.inr (Or.inr rfl)) (hd : (x == ("__debug__" : Str)) = false := by decide)
    (hcd : (x == ("__classdict__" : Str)) = false := by decide) : PSM X Wx (.Assign [.Subscript (.Name x p) k q] e pos) (mSetIx i mk me) := by
  refine ps_imp (hp he (pe_var hN hv hd hcd) hk) fun De σ H h => ?_
  obtain ⟨c, F, ρ, rr, ρ', w, hm, post⟩ := h
  rcases bind_inv hm with ⟨d, ρ1, h1, h2⟩ | ⟨x, h1, rfl⟩
  · refine ⟨c, F, _, .ok d, ρ1, w, h1, fun F1 H1 e1 w1 v1 r1 => ?_⟩
    rcases bind_inv h2 with ⟨o0, ρ0, g1, g2⟩ | ⟨x, g1, rfl⟩
    · obtain ⟨_, ez, rfl, ho0⟩ := slot_inv g1
      cases ez
      obtain ⟨a, u, ha, _⟩ := own_slot w1 ho0
      refine ⟨_, ha, ?_⟩
      rcases bind_inv g2 with ⟨kd, ρ2, h3, h4⟩ | ⟨x, h3, rfl⟩
      · refine ⟨c, F1, _, .ok kd, ρ2, w1, h3, fun F2 H2 e2 w2 v2 r2 => ?_⟩
        rcases bind_inv h4 with ⟨ds, ρ3, h5, h6⟩ | ⟨x, h5, rfl⟩
        · obtain ⟨_, ez, rfl, ho⟩ := slotL_inv h5
          cases ez
          obtain ⟨a', xs, ha', hown, fa, ga, ro⟩ := own_list w2 ho
          rw [ha] at ha'
          cases ha'
          rcases bind_inv h6 with ⟨n, ρ4, h7, h8⟩ | ⟨x, h7, rfl⟩
          · obtain ⟨_, hn, ez, rfl⟩ := lift_inv h7
            cases ez
            cases h8
            cases r2 <;> try (cases hn; done)
            rename_i j
            refine ⟨a, xs, j, n, rfl, rfl, ga, ?_, ?_⟩
            · rw [ro.len]
              exact hn
            · exact post F2 σ _ (e1.trans e2) (w2.put hown (.lst (ro.set (r1.mono e2) n)))
          · obtain ⟨_, _, ez, _⟩ := lift_inv h7
            cases ez
        · obtain ⟨_, ez, _⟩ := slotL_inv h5
          cases ez
      · exact ⟨c, F1, _, .ex x, ρ', w1, h3, fun F' d H' e' w' r' => post F' σ d H' (e1.trans e') w' r'⟩
    · obtain ⟨_, ez, _⟩ := slot_inv g1
      cases ez
  · exact ⟨c, F, _, .ex x, ρ', w, h1, fun F' d H' e' w' r' => post F' σ d H' e' w' r'⟩
theorem pem_lenS (i : Nat) (hp : ∀ {t : TA}, PA X [.Name x p] t → PE X e (tCB (fun xs H Q => ∃ p ys, xs = [V.ref p] ∧ (SqL X.K H p ys ∨ SqT X.K H p ys) ∧ Q (.int ys.length) H) t))
    (hN : X.N[i]? = some x := by rfl) (hv : Vis X.env.scope x := by first | exact Or.inl rfl | exact Or.inr (Or.inl rfl) | exact Or.inr (Or.inr rfl)) (hd : (x == ("__debug__" : Str)) = false := by decide)
    (hcd : (x == ("__classdict__" : Str)) = false := by decide) (hs : starEach [.Name x p] X.env = (false, eval (.Name x p) X.env) :: starEach [] X.env := by rfl) : PEM X Wx e (mLenS i) := by
  refine pe_imp (hp (pa_cons (pe_var hN hv hd hcd) pa_nil hs)) fun σ H Q h => ?_
  obtain ⟨c, F, ρ, rr, ρ', w, hm, post⟩ := h
  rcases bind_inv hm with ⟨ds, ρ1, h1, h2⟩ | ⟨x, h1, rfl⟩
  · obtain ⟨_, ez, rfl, ho⟩ := slotL_inv h1
    cases ez
    cases h2
    obtain ⟨a, xs, ha, hown, fa, ga, ro⟩ := own_list w ho
    refine ⟨_, ha, a, xs, rfl, .inl (.inl (.inl ga)), post F H (Same.refl _) w _ ?_⟩
    rw [ro.len]
    exact .int _
  · obtain ⟨_, ez, _⟩ := slotL_inv h1
    cases ez
end

/-! ### list comprehensions -/
def wipeR (ρ : List S) : List Nat → List S
  | [] => ρ
  | v :: vs => (wipeR ρ vs).set v .dead
def plainAt (ρ : List S) (v : Nat) : Bool := match ρ[v]? with
  | some (.own _) => false
  | some (.par _) => false
  | _ => true
def restore (ρ ρ' : List S) : List Nat → List S
  | [] => ρ'
  | v :: vs => match ρ[v]? with
    | some s => (restore ρ ρ' vs).set v s
    | none => restore ρ ρ' vs
def compD (vs : List Nat) (p : Put) (t : M Bool) (e : M D) : List D → List D → List S → Option (List D × List S)
  | [], acc, ρ => some (acc, ρ)
  | d :: ds, acc, ρ => match p d ρ with
    | none => none
    | some ρ1 => match t ρ1 with
      | some (.ok true, ρ2) => match e ρ2 with
        | some (.ok y, ρ3) => compD vs p t e ds (acc ++ [y]) (wipeR ρ3 vs)
        | _ => none
      | some (.ok false, ρ2) => compD vs p t e ds acc (wipeR ρ2 vs)
      | _ => none
def mComp (vs : List Nat) (it : M (List D)) (p : Put) (t : M Bool) (e : M D) : M OB := it.bind fun ds ρ => if (vs.all (plainAt ρ)) = true ∧ ds.length < 900000 then match compD vs p t e ds [] (wipeR ρ vs) with
  | some (out, ρ') => some (.ok (.lst out), restore ρ ρ' vs)
  | none => none else none
def mYes : M Bool := M.pure true
section
variable {K : PySem.W.Frag} {c : Ctx} {F : Hp} {ρ : List S} {σ : L2.St} {H : Hp}
theorem W.wipe (w : W K c F ρ σ H) : ∀ vs : List Nat, W K c F (wipeR ρ vs) (L2.wipe σ vs) H
  | [] => w
  | v :: vs => (W.wipe w vs).setX none
theorem wipe_get {σ : L2.St} {i : Nat} : ∀ {vs : List Nat}, (L2.wipe σ vs)[i]? = if i < σ.length then (if i ∈ vs then some none else σ[i]?) else none
  | [] => by
    by_cases h : i < σ.length
    · simp [L2.wipe, h]
    · rw [if_neg h]; exact List.getElem?_eq_none_iff.mpr (by show σ.length ≤ i; omega)
  | v :: vs => by
    show ((L2.wipe σ vs).set v none)[i]? = _
    by_cases e : v = i
    · subst e
      by_cases h : v < σ.length
      · rw [List.getElem?_set_self (by rw [wipe_length]; exact h), if_pos h, if_pos List.mem_cons_self]
      · rw [if_neg h]
        exact List.getElem?_eq_none_iff.mpr (by rw [List.length_set, wipe_length]; omega)
    · rw [List.getElem?_set_ne e, wipe_get (vs := vs)]
      have : (i ∈ v :: vs) ↔ i ∈ vs := by
        constructor
        · intro h; rcases List.mem_cons.mp h with h | h
          · exact absurd h.symm e
          · exact h
        · exact fun h => List.mem_cons_of_mem _ h
      simp only [this]
theorem wipe_same {σ σ' : L2.St} {js vs : List Nat} (hl : σ'.length = σ.length) (ho : ∀ i, i ∉ js → σ'[i]? = σ[i]?) (hj : ∀ j ∈ js, j ∈ vs) : L2.wipe σ' vs = L2.wipe σ vs := by
  apply List.ext_getElem?
  intro i
  rw [wipe_get, wipe_get, hl]
  by_cases hi : i ∈ vs
  · rw [if_pos hi, if_pos hi]
  · rw [if_neg hi, if_neg hi, ho i (fun z => hi (hj i z))]
theorem wipe_wipe {σ : L2.St} {vs : List Nat} : L2.wipe (L2.wipe σ vs) vs = L2.wipe σ vs := by
  apply List.ext_getElem?
  intro i
  rw [wipe_get, wipe_get, wipe_length]
  by_cases h : i < σ.length
  · rw [if_pos h, if_pos h]
    by_cases hi : i ∈ vs
    · rw [if_pos hi, if_pos hi]
    · rw [if_neg hi, if_neg hi]
  · rw [if_neg h, if_neg h]
theorem wipe_in {σ : L2.St} {i : Nat} {vs : List Nat} {x : Option V} (hi : i ∈ vs) (h : (L2.wipe σ vs)[i]? = some x) : x = none ∧ i < σ.length := by
  rw [wipe_get] at h
  by_cases hl : i < σ.length
  · rw [if_pos hl, if_pos hi] at h
    cases h
    exact ⟨rfl, hl⟩
  · rw [if_neg hl] at h
    cases h
theorem wipe_lt {σ : L2.St} {i : Nat} {vs : List Nat} {x : Option V} (h : (L2.wipe σ vs)[i]? = some x) : i < σ.length := by
  have := (List.getElem?_eq_some_iff.mp h).1
  rw [wipe_length] at this
  exact this
theorem restore_get {ρ ρ' : List S} {i : Nat} : ∀ {vs : List Nat} {s : S}, (restore ρ ρ' vs)[i]? = some s → (i ∈ vs ∧ ρ[i]? = some s) ∨ (i ∉ vs ∧ ρ'[i]? = some s) ∨ (ρ[i]? = none ∧ ρ'[i]? = some s)
  | [], s, h => .inr (.inl ⟨by simp, h⟩)
  | v :: vs, s, h => by
    unfold restore at h
    cases e : ρ[v]? with
    | none =>
      rw [e] at h
      rcases restore_get (vs := vs) h with ⟨a, b⟩ | ⟨a, b⟩ | ⟨a, b⟩
      · exact .inl ⟨List.mem_cons_of_mem _ a, b⟩
      · by_cases ev : i = v
        · subst ev; exact .inr (.inr ⟨e, b⟩)
        · exact .inr (.inl ⟨fun z => (List.mem_cons.mp z).elim ev a, b⟩)
      · exact .inr (.inr ⟨a, b⟩)
    | some t =>
      rw [e] at h
      rcases get_set_some h with ⟨rfl, rfl, _⟩ | ⟨ne, h⟩
      · exact .inl ⟨List.mem_cons_self, e⟩
      · rcases restore_get (vs := vs) h with ⟨a, b⟩ | ⟨a, b⟩ | ⟨a, b⟩
        · exact .inl ⟨List.mem_cons_of_mem _ a, b⟩
        · exact .inr (.inl ⟨fun z => (List.mem_cons.mp z).elim (fun q => ne q.symm) a, b⟩)
        · exact .inr (.inr ⟨a, b⟩)
/-- behind the comprehension its own names are as before -/
theorem W.restore {F0 H0 : Hp} {vs : List Nat} {ρ' : List S} (w0 : W K c F0 ρ σ H0) (e0 : Same F0 F) (hp : (vs.all (plainAt ρ)) = true) (w : W K c F ρ' (L2.wipe σ vs) H) : W K c F (L3.restore ρ ρ' vs) σ H := by
  have look : ∀ (i : Nat) (s : S), (L3.restore ρ ρ' vs)[i]? = some s → (ρ[i]? = some s ∧ ∀ o, s ≠ .own o ∧ s ≠ .par o) ∨ (i ∉ vs ∧ ρ'[i]? = some s ∧ i < σ.length) ∨ s = .dead ∨ (∃ x, σ[i]? = some x ∧ (L2.wipe σ vs)[i]? = some x ∧ ρ'[i]? = some s) := fun i s h => by
    rcases restore_get h with ⟨a, b⟩ | ⟨a, b⟩ | ⟨a, b⟩
    · refine .inl ⟨b, fun o => ?_⟩
      have := List.all_eq_true.mp hp i a
      unfold plainAt at this
      rw [b] at this
      cases s
      · exact ⟨(fun z => nomatch z), (fun z => nomatch z)⟩
      · exact ⟨(fun z => nomatch z), (fun z => nomatch z)⟩
      · cases this
      · cases this
    · obtain ⟨x, hx, _⟩ := w.slot i s b
      exact .inr (.inl ⟨a, b, wipe_lt hx⟩)
    · by_cases hv : i ∈ vs
      · obtain ⟨x, hx, ok⟩ := w.slot i s b
        obtain ⟨rfl, _⟩ := wipe_in hv hx
        cases s with
        | dead => exact .inr (.inr (.inl rfl))
        | dat d => obtain ⟨v, z, _⟩ := ok; cases z
        | own o => obtain ⟨v, _, z, _⟩ := ok; cases z
        | par o => obtain ⟨v, _, z, _⟩ := ok; cases z
      · obtain ⟨x, hx, _⟩ := w.slot i s b
        exact .inr (.inl ⟨hv, b, wipe_lt hx⟩)
  have own' : ∀ {i : Nat} {a : Addr}, OwnAt (L3.restore ρ ρ' vs) σ i a → OwnAt ρ' (L2.wipe σ vs) i a := fun {i a} ⟨⟨o, h1⟩, h2⟩ => by
    have key : ∀ s, (L3.restore ρ ρ' vs)[i]? = some s → (∃ o, s = S.own o ∨ s = .par o) → OwnAt ρ' (L2.wipe σ vs) i a := fun s hs ⟨o, ho⟩ => by
      have fin : ρ'[i]? = some s → (L2.wipe σ vs)[i]? = some (some (V.ref a)) → OwnAt ρ' (L2.wipe σ vs) i a := fun q1 q2 => by
        refine ⟨⟨o, ?_⟩, q2⟩
        rcases ho with rfl | rfl
        · exact .inl q1
        · exact .inr q1
      rcases look i s hs with ⟨_, z⟩ | ⟨hv, q, hi⟩ | z | ⟨x, q1, q2, q3⟩
      · rcases ho with rfl | rfl
        · exact absurd rfl (z o).1
        · exact absurd rfl (z o).2
      · exact fin q (by rw [wipe_get, if_pos hi, if_neg hv]; exact h2)
      · rcases ho with rfl | rfl <;> cases z
      · rw [h2] at q1; cases q1; exact fin q3 q2
    rcases h1 with h1 | h1
    · exact key _ h1 ⟨o, .inl rfl⟩
    · exact key _ h1 ⟨o, .inr rfl⟩
  refine ⟨w.sub, w.ext, w.frm, w.new, w.dom, fun i s hs => ?_, fun i j a h1 h2 => w.dj i j a (own' h1) (own' h2), fun a u ha => ?_⟩
  · rcases look i s hs with ⟨q, hno⟩ | ⟨hv, q, hi⟩ | rfl | ⟨x, q1, q2, q3⟩
    · obtain ⟨x, hx, ok⟩ := w0.slot i s q
      refine ⟨x, hx, ?_⟩
      cases s with
      | dead => trivial
      | dat d => obtain ⟨v, e, r⟩ := ok; exact ⟨v, e, r.mono e0⟩
      | own o => exact absurd rfl (hno o).1
      | par o => exact absurd rfl (hno o).2
    · obtain ⟨x, hx, ok⟩ := w.slot i s q
      rw [wipe_get, if_pos hi, if_neg hv] at hx
      exact ⟨x, hx, ok⟩
    · rcases restore_get hs with ⟨a, b⟩ | ⟨a, b⟩ | ⟨a, b⟩
      · obtain ⟨x, hx, ok⟩ := w0.slot i _ b
        exact ⟨x, hx, trivial⟩
      · obtain ⟨x, hx, _⟩ := w.slot i _ b
        exact ⟨_, List.getElem?_eq_getElem (wipe_lt hx), trivial⟩
      · obtain ⟨x, hx, _⟩ := w.slot i _ b
        exact ⟨_, List.getElem?_eq_getElem (wipe_lt hx), trivial⟩
    · obtain ⟨y, hy, ok⟩ := w.slot i s q3
      rw [q2] at hy
      cases hy
      exact ⟨x, q1, ok⟩
  · obtain ⟨h1, h2, h3⟩ := w.held a u ha
    exact ⟨h1, h2, fun j q => h3 j (own' q)⟩
end

section
variable {X : Cx} {Wx : WX} {elt tg iter : Expr} {ifs : List Expr} {scope : Scope} {own : List (Str × Nat)} {pos : Pos} {mi : M (List D)} {p : Put} {js : List Nat} {mt : M Bool} {me : M D}
def PTsM (X : Cx) (Wx : WX) (ifs : List Expr) (m : M Bool) : Prop := PTs X ifs (tT X.K Wx m)
theorem pts_imp {X : Cx} {e : List Expr} {t t' : TT} (h : PTs X e t) (i : ∀ σ H Q, t' σ H Q → t σ H Q) : PTs X e t' := ⟨fun pins s σ H Q I q => h.run pins s σ H Q I (i σ H Q q)⟩
theorem ptsm_nil : PTsM X Wx [] mYes := by
  refine pts_imp pts_nil fun σ H Q h => ?_
  obtain ⟨c, F, ρ, rr, ρ', w, hm, post⟩ := h
  cases hm
  exact post F H (Same.refl _) w
theorem ptsm_one {e : Expr} (h : PTM X Wx e mt) : PTsM X Wx [e] mt := pts_one h
theorem compD_len {vs : List Nat} : ∀ {ds acc : List D} {ρ ρ' : List S} {out : List D}, compD vs p mt me ds acc ρ = some (out, ρ') → acc.length ≤ out.length ∧ out.length ≤ acc.length + ds.length
  | [], acc, ρ, ρ', out, h => by cases h; simp
  | d :: ds, acc, ρ, ρ', out, h => by
    unfold compD at h
    split at h
    · cases h
    · split at h
      · split at h
        · have := compD_len h
          rw [List.length_append] at this
          simp at this ⊢
          omega
        · cases h
      · have := compD_len h
        simp
        omega
      · cases h
/-- nothing is raised here -/
abbrev W0 : WX := fun _ _ _ _ => False
theorem comp_sim {K : PySem.W.Frag} {c : Ctx} {F0 H0 : Hp} {ρ0 : List S} {σ : L2.St} {vs : List Nat} {J : It} {ds : List D} {out : List D} {ρE : List S} {Qd : Addr → Hp → Prop} {Dl : Addr}
    (hj : ∀ j ∈ js, j ∈ vs) (w0 : W K c F0 ρ0 σ H0) (hJ : Yields K J ds F0) (hD : H0 Dl = none) (hlen : ds.length < 900000)
    (hrun : compD vs p mt me ds [] (wipeR ρ0 vs) = some (out, ρE))
    (hQ : ∀ F' H', Same F0 F' → W K c F' ρE (L2.wipe σ vs) H' → F' Dl = none → (∃ xs, H' Dl = some (.lst xs) ∧ RepL K F' xs out) → c.H Dl = none → c.hd Dl = none → (∀ j, ¬ OwnAt ρE (L2.wipe σ vs) j Dl) → Qd Dl H') :
    ∃ Wv : Nat → Nat → Hp → Prop, (∃ m, Wv 0 m (upd H0 Dl (.lst []))) ∧ ∀ i m H, Wv i m H →
      (J.stop i H ∧ Qd Dl H) ∨ (J.go i H ∧ ∃ Nx : Hp → Prop, (∀ H', Nx H' → ∃ m', m' < m ∧ Wv (i + 1) m' H') ∧ ∀ x H', J.yld i H x H' → (tPut K js p) x (L2.wipe σ vs) H' fun σ2 H2 => L2.wipe σ2 vs = L2.wipe σ vs ∧ (tT K W0 mt) σ2 H2 fun b H3 =>
        if b = true then (tE K W0 me) σ2 H3 fun y H4 => ∃ acc, H4 Dl = some (.lst acc) ∧ acc.length < sizeLine ∧ Nx (upd H4 Dl (.lst (acc ++ [y]))) else Nx H3) := by
  obtain ⟨wA, fD, cD, hhD, noD⟩ := w0.alloc (u := .lst []) hD
  -- the invariant
  let Inv_ : Nat → Hp → Prop := fun i H => ∃ F ρ xs acc, Same F0 F ∧ W K c F ρ (L2.wipe σ vs) H ∧ F Dl = none ∧ H Dl = some (.lst xs) ∧ RepL K F xs acc ∧ acc.length ≤ i ∧ (∀ j, ¬ OwnAt ρ (L2.wipe σ vs) j Dl) ∧ compD vs p mt me (ds.drop i) acc ρ = some (out, ρE)
  refine ⟨fun i m H => m = ds.length - i ∧ i ≤ ds.length ∧ Inv_ i H, ⟨ds.length, by simp, Nat.zero_le _, F0, wipeR ρ0 vs, [], [], Same.refl _, wA.wipe vs, fD, upd_same, .nil, Nat.le_refl _, fun j hj => ?_, hrun⟩, ?_⟩
  · -- nobody owns it
    have wW := (w0.wipe vs)
    obtain ⟨u, hu⟩ := wW.own_in hj
    rw [hD] at hu
    cases hu
  rintro i m H ⟨rfl, hil, F, ρ, xs, acc, e1, w, hF, hH, hr, hal, hno, hc⟩
  obtain ⟨y1, y2⟩ := hJ F H i e1 w.sub
  by_cases hlt : i < ds.length
  · right
    obtain ⟨hgo, hy⟩ := y1 ds[i] (List.getElem?_eq_getElem hlt)
    refine ⟨hgo, Inv_ (i + 1), fun H' h' => ⟨ds.length - (i + 1), by omega, rfl, hlt, h'⟩, fun x H1 yy => ?_⟩
    obtain ⟨F1, g1, r1⟩ := hy x H1 yy
    -- hold the list while the turn runs
    have wh := g1.2 _ _ _ (w.hold hF hH hno)
    rw [List.drop_eq_getElem_cons hlt] at hc
    have hc' : (match p ds[i] ρ with
      | none => none
      | some ρ1 => match mt ρ1 with
        | some (.ok true, ρ2) => match me ρ2 with
          | some (.ok y, ρ3) => compD vs p mt me (ds.drop (i + 1)) (acc ++ [y]) (wipeR ρ3 vs)
          | _ => none
        | some (.ok false, ρ2) => compD vs p mt me (ds.drop (i + 1)) acc (wipeR ρ2 vs)
        | _ => none) = some (out, ρE) := hc
    cases hp : p ds[i] ρ with
    | none => rw [hp] at hc'; cases hc'
    | some ρ1 =>
      rw [hp] at hc'
      refine ⟨_, F1, ρ, ds[i], ρ1, wh, r1, hp, fun σ2 l2 o2 w2 => ?_⟩
      have hw2 : L2.wipe σ2 vs = L2.wipe σ vs := by
        rw [wipe_same (σ := L2.wipe σ vs) l2 o2 hj]
        exact wipe_wipe
      refine ⟨hw2, ?_⟩
      have hc2 : (match mt ρ1 with
        | some (.ok true, ρ2) => match me ρ2 with
          | some (.ok y, ρ3) => compD vs p mt me (ds.drop (i + 1)) (acc ++ [y]) (wipeR ρ3 vs)
          | _ => none
        | some (.ok false, ρ2) => compD vs p mt me (ds.drop (i + 1)) acc (wipeR ρ2 vs)
        | _ => none) = some (out, ρE) := hc'
      cases et : mt ρ1 with
      | none => rw [et] at hc2; cases hc2
      | some pr =>
        obtain ⟨rt, ρ2⟩ := pr
        rw [et] at hc2
        cases rt with
        | ex x => cases hc2
        | ok b =>
          refine ⟨_, F1, ρ1, .ok b, ρ2, w2, et, fun F3 H3 e3 w3 => ?_⟩
          cases b with
          | false =>
            show Inv_ (i + 1) H3
            obtain ⟨w4, q1, q2, q3⟩ := w3.unhold hhD
            refine ⟨F3, wipeR ρ2 vs, xs, acc, (e1.trans g1.1).trans e3, ?_, q2, q1, hr.mono (g1.1.trans e3), by omega, fun j hj => ?_, hc2⟩
            · rw [← hw2]; exact w4.wipe vs
            · rw [← hw2] at hj
              have : ∀ vs', (∀ j, ¬ OwnAt (wipeR ρ2 vs') (L2.wipe σ2 vs') j Dl) := fun vs' => by
                induction vs' with
                | nil => exact q3
                | cons v vs' ih => exact fun j hj => ih j (own_set_plain (s := S.dead) (fun o => ⟨(fun z => nomatch z), (fun z => nomatch z)⟩) hj)
              exact this vs j hj
          | true =>
            show (tE K W0 me) σ2 H3 _
            have hc3 : (match me ρ2 with
              | some (.ok y, ρ3) => compD vs p mt me (ds.drop (i + 1)) (acc ++ [y]) (wipeR ρ3 vs)
              | _ => none) = some (out, ρE) := hc2
            cases ee : me ρ2 with
            | none => rw [ee] at hc3; cases hc3
            | some pr =>
              obtain ⟨re, ρ3⟩ := pr
              rw [ee] at hc3
              cases re with
              | ex x => cases hc3
              | ok y =>
                refine ⟨_, F3, ρ2, .ok y, ρ3, w3, ee, fun F4 H4 e4 w4 v rv => ?_⟩
                obtain ⟨w5, q1, q2, q3⟩ := w4.unhold hhD
                have hx4 : RepL K F4 xs acc := hr.mono ((g1.1.trans e3).trans e4)
                refine ⟨xs, q1, ?_, ?_⟩
                · rw [hx4.len]
                  exact Nat.lt_of_le_of_lt hal (Nat.lt_trans hlt (Nat.lt_of_lt_of_le hlen (by decide)))
                have no3 : ∀ vs', (∀ j, ¬ OwnAt (wipeR ρ3 vs') (L2.wipe σ2 vs') j Dl) := fun vs' => by
                  induction vs' with
                  | nil => exact q3
                  | cons v vs' ih => exact fun j hj => ih j (own_set_plain (s := S.dead) (fun o => ⟨(fun z => nomatch z), (fun z => nomatch z)⟩) hj)
                -- the list grows: an object that nobody owns
                have w6 : W K c F4 (wipeR ρ3 vs) (L2.wipe σ vs) (upd H4 Dl (.lst (xs ++ [v]))) := by
                  have w7 := w5.wipe vs
                  rw [hw2] at w7
                  have no7 := no3 vs
                  rw [hw2] at no7
                  refine ⟨fun b o e => ?_, w7.ext, fun b o e n => ?_, w7.new, fun b e => ?_, fun j s hs => ?_, w7.dj, fun b u hb => ?_⟩
                  · rw [upd_ne (ne_of_none e q2)]
                    exact w7.sub _ _ e
                  · rw [upd_ne (fun z => by rw [z, cD] at e; cases e)]
                    exact w7.frm _ _ e n
                  · by_cases hb : b = Dl
                    · rw [hb, upd_same] at e; cases e
                    · rw [upd_ne hb] at e; exact w7.dom _ e
                  · obtain ⟨x, hx, ok⟩ := w7.slot j s hs
                    refine ⟨x, hx, ?_⟩
                    cases s with
                    | dead => trivial
                    | dat d => exact ok
                    | own o =>
                      obtain ⟨b, u', e', f, g, r', h0⟩ := ok
                      have ne : b ≠ Dl := fun z => no7 j ⟨⟨o, .inl hs⟩, by rw [hx, e', z]⟩
                      exact ⟨b, u', e', f, by rw [upd_ne ne]; exact g, r', h0⟩
                    | par o =>
                      obtain ⟨b, u', e', f, g, r', h0⟩ := ok
                      have ne : b ≠ Dl := fun z => no7 j ⟨⟨o, .inr hs⟩, by rw [hx, e', z]⟩
                      exact ⟨b, u', e', f, by rw [upd_ne ne]; exact g, r', h0⟩
                  · obtain ⟨z1, z2, z3⟩ := w7.held b u hb
                    exact ⟨by rw [upd_ne (fun z => by rw [z, hhD] at hb; cases hb)]; exact z1, z2, z3⟩
                refine ⟨F4, wipeR ρ3 vs, xs ++ [v], acc ++ [y], ((e1.trans g1.1).trans e3).trans e4, w6, q2, upd_same, hx4.append (.cons rv .nil), ?_, ?_, hc3⟩
                · rw [List.length_append]
                  show acc.length + 1 ≤ i + 1
                  omega
                · have := no3 vs
                  rw [hw2] at this
                  exact this
  · left
    have he : ds.drop i = [] := List.drop_eq_nil_of_le (by omega)
    rw [he] at hc
    cases hc
    exact ⟨y2 (by omega), hQ F H e1 w hF ⟨xs, hH, hr⟩ cD hhD hno⟩
theorem lc_imp (hj : ∀ j ∈ js, j ∈ own.map (·.2)) (σ : L2.St) (H : Hp) (Q : VK) (h : tO X.K Wx (mComp (own.map (·.2)) mi p mt me) σ H Q) : tLc (tIt X.K Wx mi) (tPut X.K js p) (tT X.K W0 mt) (tE X.K W0 me) (own.map (·.2)) σ H Q := by
  obtain ⟨c, F, ρ, rr, ρ', w, hm, post⟩ := h
  rcases bind_inv hm with ⟨ds, ρ1, h1, h2⟩ | ⟨x, h1, rfl⟩
  · refine ⟨c, F, ρ, .ok ds, ρ1, w, h1, fun F1 H1 e1 w1 J hJ Dl hD => ?_⟩
    have h3 : (if ((own.map (·.2)).all (plainAt ρ1)) = true ∧ ds.length < 900000 then match compD (own.map (·.2)) p mt me ds [] (wipeR ρ1 (own.map (·.2))) with
      | some (out, ρ') => some (R.ok (OB.lst out), L3.restore ρ1 ρ' (own.map (·.2)))
      | none => none else none) = some (rr, ρ') := h2
    split at h3
    · rename_i hcond
      cases hrun : compD (own.map (·.2)) p mt me ds [] (wipeR ρ1 (own.map (·.2))) with
      | none => rw [hrun] at h3; cases h3
      | some pr =>
        obtain ⟨out, ρE⟩ := pr
        rw [hrun] at h3
        cases h3
        refine comp_sim (js := js) (c := c) hj w1 hJ hD hcond.2 hrun (Qd := fun a H' => Q (V.ref a) H') fun F' H' e' w' f' hx cD hd no => ?_
        obtain ⟨xs, hxs, rx⟩ := hx
        have w2 := w1.restore e' hcond.1 w'
        refine post F' H' (e1.trans e') w2 Dl (.lst xs) f' hxs (.lst rx) cD hd fun j hjo => ?_
        obtain ⟨⟨o, g1⟩, g2⟩ := hjo
        -- an owner behind the comprehension owned it within
        have : ∃ u, H1 Dl = some u := by
          have key : ∀ s, (L3.restore ρ1 ρE (own.map (·.2)))[j]? = some s → (∃ o, s = S.own o ∨ s = .par o) → ∃ u, H1 Dl = some u := fun s hs ⟨o, ho⟩ => by
            exfalso
            rcases restore_get hs with ⟨a, b⟩ | ⟨a, b⟩ | ⟨a, b⟩
            · have := List.all_eq_true.mp hcond.1 j a
              unfold plainAt at this
              rw [b] at this
              rcases ho with rfl | rfl <;> cases this
            · refine no j ⟨⟨o, ?_⟩, ?_⟩
              · rcases ho with rfl | rfl
                · exact .inl b
                · exact .inr b
              · rw [wipe_get, if_pos (List.getElem?_eq_some_iff.mp g2).1, if_neg a]
                exact g2
            · by_cases hv : j ∈ own.map (·.2)
              · obtain ⟨x, hx, ok⟩ := w'.slot j s b
                obtain ⟨rfl, _⟩ := wipe_in hv hx
                rcases ho with rfl | rfl
                · obtain ⟨_, _, z, _⟩ := ok; cases z
                · obtain ⟨_, _, z, _⟩ := ok; cases z
              · refine no j ⟨⟨o, ?_⟩, ?_⟩
                · rcases ho with rfl | rfl
                  · exact .inl b
                  · exact .inr b
                · rw [wipe_get, if_pos (List.getElem?_eq_some_iff.mp g2).1, if_neg hv]
                  exact g2
          rcases g1 with g1 | g1
          · exact key _ g1 ⟨o, .inl rfl⟩
          · exact key _ g1 ⟨o, .inr rfl⟩
        obtain ⟨u, hu⟩ := this
        rw [hD] at hu
        cases hu
    · cases h3
  · exact ⟨c, F, ρ, .ex x, ρ', w, h1, post⟩
theorem pom_lc (hc : X.calm = true) (hN : X.N.Nodup) (hi : PIM X Wx tg iter mi) (ok : BlkOk X.N X.env.scope scope own)
    (hg : ∀ (s : Shared) (H : Hp) (C : Addr) (cl : List (Str × Addr)) (fp : List Addr), PGt (X.blk s H scope (compEnvC scope cl C X.env) fp) tg js p)
    (ht : ∀ (s : Shared) (H : Hp) (C : Addr) (cl : List (Str × Addr)) (fp : List Addr), PTsM (X.blk s H scope (compEnvC scope cl C X.env) fp) W0 ifs mt)
    (he : ∀ (s : Shared) (H : Hp) (C : Addr) (cl : List (Str × Addr)) (fp : List Addr), PEM (X.blk s H scope (compEnvC scope cl C X.env) fp) W0 elt me) (hj : ∀ j ∈ js, j ∈ own.map (·.2))
    (hs : ∀ x, foldedSetIterable iter X.env x = pure x := by intro _; rfl) : POM X Wx (.ListComp elt [⟨tg, iter, ifs, 0⟩] scope pos) (mComp (own.map (·.2)) mi p mt me) :=
  pe_imp (pe_lc (g := tPut X.K js p) (tt := tT X.K W0 mt) (te := tE X.K W0 me) hc hN hi ok hg ht he hs) (lc_imp hj)
/-- y = [..], the name's slot owns the list -/
theorem psm_setLc (i : Nat) {y : Str} {py spos : Pos} (hc : X.calm = true) (hN : X.N.Nodup) (hsw : swapsWith (.ListComp elt [⟨tg, iter, ifs, 0⟩] scope pos) (some (.Name y py)) spos.line X.env = pure true)
    (hi : PIM X Wx tg iter mi) (ok : BlkOk X.N X.env.scope scope own)
    (hg : ∀ (s : Shared) (H : Hp) (C : Addr) (cl : List (Str × Addr)) (fp : List Addr), PGt (X.blk s H scope (compEnvC scope cl C X.env) fp) tg js p)
    (ht : ∀ (s : Shared) (H : Hp) (C : Addr) (cl : List (Str × Addr)) (fp : List Addr), PTsM (X.blk s H scope (compEnvC scope cl C X.env) fp) W0 ifs mt)
    (he : ∀ (s : Shared) (H : Hp) (C : Addr) (cl : List (Str × Addr)) (fp : List Addr), PEM (X.blk s H scope (compEnvC scope cl C X.env) fp) W0 elt me) (hj : ∀ j ∈ js, j ∈ own.map (·.2))
    (hy : X.N[i]? = some y := by rfl) (hyl : X.env.scope.names.lookup y = some .local := by rfl) (hs : ∀ x, foldedSetIterable iter X.env x = pure x := by intro _; rfl) :
    PSM X Wx (.Assign [.Name y py] (.ListComp elt [⟨tg, iter, ifs, 0⟩] scope pos) spos) (mSetO i (mComp (own.map (·.2)) mi p mt me)) := by
  refine ps_imp (ps_setLc (i := i) (g := tPut X.K js p) (tt := tT X.K W0 mt) (te := tE X.K W0 me) hc hN hy hyl hsw hi ok hg ht he hs) fun De σ H h => ?_
  refine lc_imp hj σ H _ ?_
  obtain ⟨c, F, ρ, r, ρ', w, hm, post⟩ := h
  rcases bind_inv hm with ⟨o, ρ1, q1, q2⟩ | ⟨x, q1, rfl⟩
  · cases q2
    exact ⟨c, F, ρ, .ok o, ρ1, w, q1, fun F1 H1 e1 w1 a u g1 g2 g3 g4 g5 g6 => post F1 _ H1 e1 (w1.setO g1 g2 g3 g4 g5 g6)⟩
  · exact ⟨c, F, ρ, .ex x, ρ', w, q1, fun F' d H' e' w' r' => post F' σ d H' e' w' r'⟩
/-- .. is data -/
theorem psm_setLcD (i : Nat) {y : Str} {py spos : Pos} (hc : X.calm = true) (hN : X.N.Nodup) (hsw : swapsWith (.ListComp elt [⟨tg, iter, ifs, 0⟩] scope pos) (some (.Name y py)) spos.line X.env = pure true)
    (hi : PIM X Wx tg iter mi) (ok : BlkOk X.N X.env.scope scope own)
    (hg : ∀ (s : Shared) (H : Hp) (C : Addr) (cl : List (Str × Addr)) (fp : List Addr), PGt (X.blk s H scope (compEnvC scope cl C X.env) fp) tg js p)
    (ht : ∀ (s : Shared) (H : Hp) (C : Addr) (cl : List (Str × Addr)) (fp : List Addr), PTsM (X.blk s H scope (compEnvC scope cl C X.env) fp) W0 ifs mt)
    (he : ∀ (s : Shared) (H : Hp) (C : Addr) (cl : List (Str × Addr)) (fp : List Addr), PEM (X.blk s H scope (compEnvC scope cl C X.env) fp) W0 elt me) (hj : ∀ j ∈ js, j ∈ own.map (·.2))
    (hy : X.N[i]? = some y := by rfl) (hyl : X.env.scope.names.lookup y = some .local := by rfl) (hs : ∀ x, foldedSetIterable iter X.env x = pure x := by intro _; rfl) :
    PSM X Wx (.Assign [.Name y py] (.ListComp elt [⟨tg, iter, ifs, 0⟩] scope pos) spos) (mSet (mFrz (mComp (own.map (·.2)) mi p mt me)) (pName i)) := by
  refine ps_imp (ps_setLc (i := i) (g := tPut X.K js p) (tt := tT X.K W0 mt) (te := tE X.K W0 me) hc hN hy hyl hsw hi ok hg ht he hs) fun De σ H h => ?_
  refine lc_imp hj σ H _ ?_
  obtain ⟨c, F, ρ, r, ρ', w, hm, post⟩ := h
  rcases bind_inv hm with ⟨d, ρ1, q1, q2⟩ | ⟨x, q1, rfl⟩
  · rcases bind_inv q1 with ⟨o, ρ2, q3, q4⟩ | ⟨x, q3, z⟩
    · cases q4
      cases q2
      refine ⟨c, F, ρ, .ok o, _, w, q3, fun F1 H1 e1 w1 a u g1 g2 g3 g4 g5 g6 => ?_⟩
      have s1 : Same F1 (upd F1 a u) := same_upd g1
      exact post (upd F1 a u) _ H1 (e1.trans s1) ((w1.frz g1 g2 g4 g5 g6).setD ((g3.mono s1).rep upd_same))
    · cases z
  · rcases bind_inv q1 with ⟨o, ρ2, q3, q4⟩ | ⟨y, q3, z⟩
    · cases q4
    · cases z
      exact ⟨c, F, ρ, .ex x, ρ', w, q3, fun F' d H' e' w' r' => post F' σ d H' e' w' r'⟩
end
end L3
set_option Elab.async false
set_option linter.all false
set_option maxRecDepth 100000
set_option maxHeartbeats 2000000
namespace L3
open PySem PySem.Spec PyProof.Rows L2

/-! ### a slot more, behind the others -/
theorem get_append_some {α : Type} {l t : List α} {i : Nat} {x : α} (h : (l ++ t)[i]? = some x) : (l[i]? = some x ∧ i < l.length) ∨ (l.length ≤ i ∧ t[i - l.length]? = some x) := by
  by_cases hi : i < l.length
  · rw [List.getElem?_append_left hi] at h
    exact .inl ⟨h, hi⟩
  · rw [List.getElem?_append_right (by omega)] at h
    exact .inr ⟨by omega, h⟩
def pad (ρ : List S) (n : Nat) : List S := ρ ++ List.replicate (n - ρ.length) .dead
theorem pad_get {ρ : List S} {n i : Nat} {s : S} (h : (pad ρ n)[i]? = some s) : (ρ[i]? = some s) ∨ (s = .dead ∧ i < n) := by
  rcases get_append_some h with ⟨a, _⟩ | ⟨a, b⟩
  · exact .inl a
  · rw [List.getElem?_replicate] at b
    split at b
    · cases b; exact .inr ⟨rfl, by omega⟩
    · cases b
section
variable {K : PySem.W.Frag} {c : Ctx} {F : Hp} {ρ : List S} {σ : L2.St} {H : Hp} {a : Addr} {u : HO} {o : OB}
theorem W.le (w : W K c F ρ σ H) : ρ.length ≤ σ.length := by
  by_cases h : ρ.length ≤ σ.length
  · exact h
  · have := w.len (i := σ.length) (by omega)
    omega
theorem pad_len (w : W K c F ρ σ H) : (pad ρ σ.length).length = σ.length := by
  have := w.le
  unfold pad
  rw [List.length_append, List.length_replicate]
  omega
theorem own_pad {i : Nat} {x : List (Option V)} {t : List S} (h : OwnAt (pad ρ σ.length) σ i a) : OwnAt ρ σ i a := by
  obtain ⟨⟨o, h1⟩, h2⟩ := h
  rcases h1 with h1 | h1
  · rcases pad_get h1 with q | ⟨q, _⟩
    · exact ⟨⟨o, .inl q⟩, h2⟩
    · cases q
  · rcases pad_get h1 with q | ⟨q, _⟩
    · exact ⟨⟨o, .inr q⟩, h2⟩
    · cases q
theorem W.push (w : W K c F ρ σ H) (hF : F a = none) (hH : H a = some u) (r : RepO K F u o) (h0 : c.H a = none) (hh : c.hd a = none) (no : ∀ j, ¬ OwnAt ρ σ j a) :
    W K c F (pad ρ σ.length ++ [.own o]) (σ ++ [some (V.ref a)]) H := by
  have lp := pad_len w
  have at_ : ∀ {i : Nat} {b : Addr}, OwnAt (pad ρ σ.length ++ [.own o]) (σ ++ [some (V.ref a)]) i b → (i = σ.length ∧ b = a) ∨ (i < σ.length ∧ OwnAt ρ σ i b) := fun {i b} h => by
    obtain ⟨⟨o', h1⟩, h2⟩ := h
    rcases get_append_some h2 with ⟨g, hi⟩ | ⟨g, g2⟩
    · right
      refine ⟨hi, ?_⟩
      have key : ∀ s, (pad ρ σ.length ++ [S.own o])[i]? = some s → s ≠ .dead → ρ[i]? = some s := fun s hs hd => by
        rcases get_append_some hs with ⟨q, _⟩ | ⟨q, _⟩
        · rcases pad_get q with q | ⟨q, _⟩
          · exact q
          · exact absurd q hd
        · omega
      rcases h1 with h1 | h1
      · exact ⟨⟨o', .inl (key _ h1 (fun z => nomatch z))⟩, g⟩
      · exact ⟨⟨o', .inr (key _ h1 (fun z => nomatch z))⟩, g⟩
    · left
      have hz : i - σ.length = 0 := by
        have := (List.getElem?_eq_some_iff.mp g2).1
        simp at this
        omega
      rw [hz] at g2
      cases g2
      exact ⟨by omega, rfl⟩
  refine ⟨w.sub, w.ext, w.frm, w.new, w.dom, fun i s hs => ?_, fun i j b h1 h2 => ?_, fun b x hb => ?_⟩
  · rcases get_append_some hs with ⟨q, hi⟩ | ⟨q, q2⟩
    · rcases pad_get q with q | ⟨rfl, hi2⟩
      · obtain ⟨x, hx, ok⟩ := w.slot i s q
        refine ⟨x, ?_, ok⟩
        rw [List.getElem?_append_left (List.getElem?_eq_some_iff.mp hx).1]
        exact hx
      · exact ⟨σ[i], by rw [List.getElem?_append_left hi2]; exact List.getElem?_eq_getElem hi2, trivial⟩
    · have hz : i - (pad ρ σ.length).length = 0 := by
        have := (List.getElem?_eq_some_iff.mp q2).1
        simp at this
        omega
      rw [hz] at q2
      cases q2
      have hi : i = σ.length := by omega
      subst hi
      exact ⟨some (V.ref a), by simp, a, u, rfl, hF, hH, r, h0⟩
  · rcases at_ h1 with ⟨rfl, rfl⟩ | ⟨_, q1⟩
    · rcases at_ h2 with ⟨rfl, _⟩ | ⟨_, q2⟩
      · rfl
      · exact absurd q2 (no j)
    · rcases at_ h2 with ⟨rfl, rfl⟩ | ⟨_, q2⟩
      · exact absurd q1 (no i)
      · exact w.dj i j b q1 q2
  · obtain ⟨h1, h2, h3⟩ := w.held b x hb
    refine ⟨h1, h2, fun j q => ?_⟩
    rcases at_ q with ⟨_, rfl⟩ | ⟨_, q⟩
    · rw [hh] at hb; cases hb
    · exact h3 j q
/-- .. and taken off -/
theorem W.pop {ρ1 : List S} {x : Option V} {t : S} (w : W K c F (ρ1 ++ [t]) (σ ++ [x]) H) (hl : ρ1.length = σ.length) : W K c F ρ1 σ H ∧ SlotOk K c F H σ.length t x ∧ ∀ b, x = some (V.ref b) → (∃ o, t = .own o) → ∀ j, ¬ OwnAt ρ1 σ j b := by
  have up : ∀ {i : Nat} {b : Addr}, OwnAt ρ1 σ i b → OwnAt (ρ1 ++ [t]) (σ ++ [x]) i b := fun {i b} ⟨⟨o, h1⟩, h2⟩ => by
    refine ⟨⟨o, ?_⟩, by rw [List.getElem?_append_left (List.getElem?_eq_some_iff.mp h2).1]; exact h2⟩
    rcases h1 with h1 | h1
    · exact .inl (by rw [List.getElem?_append_left (List.getElem?_eq_some_iff.mp h1).1]; exact h1)
    · exact .inr (by rw [List.getElem?_append_left (List.getElem?_eq_some_iff.mp h1).1]; exact h1)
  refine ⟨⟨w.sub, w.ext, w.frm, w.new, w.dom, fun i s hs => ?_, fun i j b h1 h2 => w.dj i j b (up h1) (up h2), fun b u hb => ?_⟩, ?_, fun b hx ⟨o, ht⟩ j hj => ?_⟩
  · have hi := (List.getElem?_eq_some_iff.mp hs).1
    obtain ⟨y, hy, ok⟩ := w.slot i s (by rw [List.getElem?_append_left hi]; exact hs)
    rw [List.getElem?_append_left (by omega)] at hy
    exact ⟨y, hy, ok⟩
  · obtain ⟨h1, h2, h3⟩ := w.held b u hb
    exact ⟨h1, h2, fun j q => h3 j (up q)⟩
  · obtain ⟨y, hy, ok⟩ := w.slot σ.length t (by rw [List.getElem?_append_right (by omega)]; simp [hl])
    rw [List.getElem?_append_right (by omega)] at hy
    simp at hy
    subst hy
    exact ok
  · have e := w.dj j σ.length b (up hj) ⟨⟨o, .inl (by rw [List.getElem?_append_right (by omega)]; simp [hl, ht])⟩, by rw [List.getElem?_append_right (by omega)]; simp [hx]⟩
    have := (List.getElem?_eq_some_iff.mp hj.2).1
    omega
theorem W.take (w : W K c F ρ σ H) (n : Nat) : W K c F (ρ.take n) σ H := by
  have get : ∀ {i : Nat} {s : S}, (ρ.take n)[i]? = some s → ρ[i]? = some s := fun {i s} h => by
    rw [List.getElem?_take] at h
    split at h
    · exact h
    · cases h
  have up : ∀ {i : Nat} {b : Addr}, OwnAt (ρ.take n) σ i b → OwnAt ρ σ i b := fun {i b} ⟨⟨o, h1⟩, h2⟩ => by
    refine ⟨⟨o, ?_⟩, h2⟩
    rcases h1 with h1 | h1
    · exact .inl (get h1)
    · exact .inr (get h1)
  refine ⟨w.sub, w.ext, w.frm, w.new, w.dom, fun i s hs => w.slot i s (get hs), fun i j b h1 h2 => w.dj i j b (up h1) (up h2), fun b u hb => ?_⟩
  obtain ⟨h1, h2, h3⟩ := w.held b u hb
  exact ⟨h1, h2, fun j q => h3 j (up q)⟩
end
theorem putAt_app {ρ t : List S} {i : Nat} {o : OB} {s : S} (h : ρ[i]? = some s) : putAt (ρ ++ t) i o = putAt ρ i o ++ t := by
  have hi := (List.getElem?_eq_some_iff.mp h).1
  unfold putAt
  rw [List.getElem?_append_left hi, h]
  show (ρ ++ t).set i (s.put o) = ρ.set i (s.put o) ++ t
  rw [List.set_append, if_pos hi]
theorem putAt_len {ρ : List S} {i : Nat} {o : OB} : (putAt ρ i o).length = ρ.length := by
  unfold putAt
  split
  · exact List.length_set ..
  · rfl
theorem content_app {ρ t : List S} {g : Ag} {s : S} (h : content ρ g = some s) : content (ρ ++ t) g = some s := by
  cases g with
  | d d => exact h
  | s k =>
    obtain ⟨o, rfl⟩ := content_s' h
    show (match (ρ ++ t)[k]? with
      | some (.own o) => some (S.par o)
      | some (.par o) => some (.par o)
      | _ => none) = some (.par o)
    rcases content_s h with e | e
    · rw [List.getElem?_append_left (List.getElem?_eq_some_iff.mp e).1, e]
    · rw [List.getElem?_append_left (List.getElem?_eq_some_iff.mp e).1, e]
theorem contents_app {ρ t : List S} : ∀ {gs : List Ag} {ss : List S}, contents ρ gs = some ss → contents (ρ ++ t) gs = some ss
  | [], ss, h => h
  | g :: gs, ss, h => by
    unfold contents at h ⊢
    split at h
    · rename_i s0 ss0 h1 h2
      rw [content_app h1, contents_app h2]
      exact h
    · cases h
theorem contents_slot {ρ : List S} {gs : List Ag} {ss : List S} {k : Nat} (h : contents ρ gs = some ss) (hk : k ∈ slotsOf gs) : ∃ s, ρ[k]? = some s := by
  obtain ⟨i, hi⟩ := slotsOf_get hk
  have hil : i < ss.length := by rw [contents_len h]; exact (List.getElem?_eq_some_iff.mp hi).1
  obtain ⟨g, hg, hcg⟩ := contents_get h (List.getElem?_eq_getElem hil)
  rw [hi] at hg
  cases hg
  obtain ⟨o, ho⟩ := content_s' hcg
  rw [ho] at hcg
  rcases content_s hcg with e | e <;> exact ⟨_, e⟩
theorem wback_app {t : List S} : ∀ {gs : List Ag} {ss ρ ρ' : List S}, (∀ k ∈ slotsOf gs, ∃ s, ρ[k]? = some s) → wback gs ss ρ = some ρ' → wback gs ss (ρ ++ t) = some (ρ' ++ t)
  | [], _, _, _, _, h => by cases h; rfl
  | .d _ :: gs, [], _, _, _, h => by cases h
  | .d _ :: gs, _ :: ss, ρ, ρ', hk, h => wback_app (gs := gs) (ss := ss) hk h
  | .s i :: gs, [], _, _, _, h => by cases h
  | .s i :: gs, .dead :: ss, _, _, _, h => by cases h
  | .s i :: gs, .dat _ :: ss, _, _, _, h => by cases h
  | .s i :: gs, .own _ :: ss, _, _, _, h => by cases h
  | .s i :: gs, .par o :: ss, ρ, ρ', hk, h => by
    have h' : wback gs ss (putAt ρ i o) = some ρ' := h
    obtain ⟨s, hs⟩ := hk i List.mem_cons_self
    show wback gs ss (putAt (ρ ++ t) i o) = some (ρ' ++ t)
    rw [putAt_app hs]
    refine wback_app (gs := gs) (fun k hk2 => ?_) h'
    obtain ⟨s', hs'⟩ := hk k (List.mem_cons_of_mem _ hk2)
    by_cases e : k = i
    · subst e; exact ⟨_, putAt_eq hs'⟩
    · exact ⟨s', by rw [putAt_ne e]; exact hs'⟩
theorem wback_len : ∀ {gs : List Ag} {ss ρ ρ' : List S}, wback gs ss ρ = some ρ' → ρ'.length = ρ.length
  | [], _, _, _, h => by cases h; rfl
  | .d _ :: gs, [], _, _, h => by cases h
  | .d _ :: gs, _ :: ss, ρ, ρ', h => wback_len (gs := gs) (ss := ss) h
  | .s i :: gs, [], _, _, h => by cases h
  | .s i :: gs, .dead :: ss, _, _, h => by cases h
  | .s i :: gs, .dat _ :: ss, _, _, h => by cases h
  | .s i :: gs, .own _ :: ss, _, _, h => by cases h
  | .s i :: gs, .par o :: ss, ρ, ρ', h => by
    have h' : wback gs ss (putAt ρ i o) = some ρ' := h
    rw [wback_len (gs := gs) h', putAt_len]

/-! ### an instance is made -/
def mMk (C : Addr) (n : Nat) (g : G) (dds : List D) (as : M (List Ag)) : M OB := as.bind fun gs ρ => if (slotsOf gs).Nodup ∧ gs.length + dds.length + 1 = n then match contents ρ gs with
  | none => none
  | some ss => match g (.par (.ins C []) :: (ss ++ dds.map .dat)) with
    | some (.ok (.dat .non), .par o :: ss') => match wback gs ss' ρ with
      | none => none
      | some ρ' => some (.ok o, ρ')
    | some (.ex x, .par _ :: ss') => match wback gs ss' ρ with
      | none => none
      | some ρ' => some (.ex x, ρ')
    | _ => none else none
theorem mk_inv {C : Addr} {n : Nat} {g : G} {dds : List D} {gs : List Ag} {ρ ρ' : List S} {r : R OB} (h : (if (slotsOf gs).Nodup ∧ gs.length + dds.length + 1 = n then match contents ρ gs with
  | none => none
  | some ss => match g (.par (.ins C []) :: (ss ++ dds.map .dat)) with
    | some (.ok (.dat .non), .par o :: ss') => match wback gs ss' ρ with
      | none => none
      | some ρ' => some (.ok o, ρ')
    | some (.ex x, .par _ :: ss') => match wback gs ss' ρ with
      | none => none
      | some ρ' => some (.ex x, ρ')
    | _ => none else none) = some (r, ρ')) : (slotsOf gs).Nodup ∧ gs.length + dds.length + 1 = n ∧ ∃ ss ss' rr o, contents ρ gs = some ss ∧ g (.par (.ins C []) :: (ss ++ dds.map S.dat)) = some (rr, .par o :: ss') ∧ wback gs ss' ρ = some ρ' ∧ ((rr = .ok (.dat .non) ∧ r = .ok o) ∨ ∃ x, rr = .ex x ∧ r = .ex x) := by
  split at h
  · rename_i hc
    refine ⟨hc.1, hc.2, ?_⟩
    cases e1 : contents ρ gs with
    | none => rw [e1] at h; cases h
    | some ss =>
      rw [e1] at h
      simp only at h
      split at h
      · rename_i o ss' e2
        cases e3 : wback gs ss' ρ with
        | none => rw [e3] at h; cases h
        | some ρ2 => rw [e3] at h; cases h; exact ⟨ss, ss', _, o, rfl, e2, e3, .inl ⟨rfl, rfl⟩⟩
      · rename_i x o ss' e2
        cases e3 : wback gs ss' ρ with
        | none => rw [e3] at h; cases h
        | some ρ2 => rw [e3] at h; cases h; exact ⟨ss, ss', _, o, rfl, e2, e3, .inr ⟨_, rfl, rfl⟩⟩
      · cases h
  · cases h
section
variable {X : Cx} {Wx : WX} {k : Nat} {f C : Addr} {fd : FuncData} {ps : List Str} {dvs : List V} {dds : List D} {ds : List Value} {x : Str} {p pos : Pos} {e : Expr} {es : List Expr} {g : G} {as : List AgM}
theorem pom_mk (Mk : Mk X.K (cA X.K C) f) (Fn : FnG X.prog X.w X.K X.mg X.base k f fd ps (spG X.K ps.length g)) (hG : X.A.guards = some []) (hr : Room (k + 1) X.A) (hg : Gl X x) (hm : X.mg x = some (.ref (cA X.K C))) (hb : Binds X.K fd ps ds) (hd : Vals dvs ds) (hdd : ∀ F, RepL X.K F dvs dds) (tk : Takes X Wx)
    (ha : PGM X Wx (e :: es) (mAgs as)) (hdb : (x == ("__debug__" : Str)) = false := by decide) (he : starEach (e :: es) X.env = (false, eval e X.env) :: starEach es X.env := by rfl) (hpl : (backTo pos (starEach es X.env)).any (·.1) = false := by rfl) :
    POM X Wx (.Call (.Name x p) (e :: es) [] pos) (mMk C ps.length g dds (mAgs as)) := by
  refine pe_imp (pe_mk Mk Fn hG hr hg hm hb hd tk ha hdb he hpl) fun σ H Q h => ?_
  obtain ⟨c, F, ρ, rr, ρ', w, hm, post⟩ := h
  rcases bind_inv hm with ⟨gs, ρ1, h1, h2⟩ | ⟨x, h1, rfl⟩
  · refine ⟨c, F, ρ, .ok gs, ρ1, w, h1, fun F1 H1 e1 w1 vs rg a dx ha hdx ne => ?_⟩
    obtain ⟨nd, hn, ss, ss', rr2, o, hc, hg2, hb2, hres⟩ := mk_inv h2
    -- the new instance and its dict
    obtain ⟨wa, fdx, _, _, _⟩ := w1.alloc (u := .own a) hdx
    have ha' : upd H1 dx (.own a) a = none := by rw [upd_ne (Ne.symm ne)]; exact ha
    obtain ⟨wb, fa, ca, hha, noa⟩ := wa.alloc (u := .ins (cA X.K C) dx []) ha'
    have wp := wb.push fa upd_same (RepO.ins (ds := []) .nil) ca hha noa
    -- its slot
    have lp := pad_len wb
    have hL : ∀ k ∈ slotsOf gs, k < σ.length := fun k hk => by
      obtain ⟨s, hs⟩ := contents_slot hc hk
      exact Nat.lt_of_lt_of_le (List.getElem?_eq_some_iff.mp hs).1 w1.le
    have rg2 : RepG X.K F1 (σ ++ [some (V.ref a)]) (V.ref a :: vs) (.s σ.length :: gs) := by
      have lift : ∀ {vs : List V} {gs : List Ag}, RepG X.K F1 σ vs gs → RepG X.K F1 (σ ++ [some (V.ref a)]) vs gs := fun {vs gs} h => by
        induction h with
        | nil => exact .nil
        | d r _ ih => exact .d r ih
        | s h _ ih => exact .s (by rw [List.getElem?_append_left (List.getElem?_eq_some_iff.mp h).1]; exact h) ih
      exact .s (by simp) (lift rg)
    have nd2 : (slotsOf (.s σ.length :: gs)).Nodup := List.nodup_cons.mpr ⟨fun z => Nat.lt_irrefl _ (hL _ z), nd⟩
    have hc2 : contents (pad ρ1 σ.length ++ [.own (.ins C [])]) (.s σ.length :: gs) = some (.par (.ins C []) :: ss) := by
      have q1 : content (pad ρ1 σ.length ++ [S.own (.ins C [])]) (.s σ.length) = some (.par (.ins C [])) := by
        show (match (pad ρ1 σ.length ++ [S.own (.ins C [])])[σ.length]? with
          | some (.own o) => some (S.par o)
          | some (.par o) => some (.par o)
          | _ => none) = _
        rw [List.getElem?_append_right (by omega)]
        simp [lp]
      have q2 : contents (pad ρ1 σ.length ++ [S.own (.ins C [])]) gs = some ss := by
        unfold pad
        rw [List.append_assoc]
        exact contents_app hc
      show (match content _ _, contents _ gs with
        | some s, some ss => some (s :: ss)
        | _, _ => none) = _
      rw [q1, q2]
    refine ⟨by
      show (vs ++ dvs).length + 1 = ps.length
      rw [List.length_append, rg.len, (hdd F1).len]; exact hn, F1, .par (.ins C []) :: (ss ++ dds.map S.dat), rr2, .par o :: ss', wb.sub, wp.args (dvs := dvs) (dds := dds) rg2 nd2 hc2 (hdd F1), hg2, ?_⟩
    have hb3 : wback (.s σ.length :: gs) (.par o :: ss') (pad ρ1 σ.length ++ [.own (.ins C [])]) = some ((pad ρ' σ.length) ++ [.own o]) := by
      show wback gs ss' (putAt (pad ρ1 σ.length ++ [S.own (.ins C [])]) σ.length o) = _
      have q : putAt (pad ρ1 σ.length ++ [S.own (.ins C [])]) σ.length o = ρ1 ++ (List.replicate (σ.length - ρ1.length) .dead ++ [.own o]) := by
        unfold putAt
        rw [List.getElem?_append_right (by omega)]
        simp only [lp, Nat.sub_self]
        show (pad ρ1 σ.length ++ [S.own (.ins C [])]).set σ.length (.own o) = _
        rw [List.set_append, if_neg (by omega), lp, Nat.sub_self]
        show pad ρ1 σ.length ++ [S.own o] = _
        unfold pad
        rw [List.append_assoc]
      rw [q, wback_app (fun k hk => contents_slot hc hk) hb2]
      unfold pad
      rw [wback_len hb2, List.append_assoc]
    have after : ∀ {F' H' : Hp}, Ret X.K F1 (upd (upd H1 dx (.own a)) a (.ins (cA X.K C) dx [])) (V.ref a :: (vs ++ dvs)) (.par (.ins C []) :: (ss ++ dds.map S.dat)) F' H' (.par o :: ss') → W X.K c F' ρ' σ H' ∧ ∃ u, F' a = none ∧ H' a = some u ∧ RepO X.K F' u o ∧ ∀ j, ¬ OwnAt ρ' σ j a := fun {F' H'} ret => by
      have w3 := wp.call (dvs := dvs) (dds := dds) rg2 nd2 hc2 ret hb3
      have lp' : (pad ρ' σ.length).length = σ.length := by
        have l1 := w1.le
        have l2 := wback_len hb2
        unfold pad
        rw [List.length_append, List.length_replicate]
        omega
      obtain ⟨w4, ok, no4⟩ := w3.pop lp'
      have w5 := w4.take ρ'.length
      have e5 : (pad ρ' σ.length).take ρ'.length = ρ' := by unfold pad; simp
      rw [e5] at w5
      obtain ⟨b, u, hb, f', h', r', _⟩ := ok
      cases hb
      refine ⟨w5, u, f', h', r', fun j hj => no4 a rfl ⟨o, rfl⟩ j ?_⟩
      obtain ⟨⟨o', g1⟩, g2⟩ := hj
      refine ⟨⟨o', ?_⟩, g2⟩
      have up : ∀ s, ρ'[j]? = some s → (pad ρ' σ.length)[j]? = some s := fun s hs => by
        unfold pad
        rw [List.getElem?_append_left (List.getElem?_eq_some_iff.mp hs).1]
        exact hs
      rcases g1 with g1 | g1
      · exact .inl (up _ g1)
      · exact .inr (up _ g1)
    rcases hres with ⟨rfl, rfl⟩ | ⟨x, rfl, rfl⟩
    · intro F' v H' ret rv
      have : v = .non := by cases rv; rfl
      refine ⟨this, ?_⟩
      obtain ⟨w5, u, f', h', r', no5⟩ := after ret
      exact post F' H' (e1.trans ret.ext) w5 a u f' h' r' ca hha no5
    · intro F' d H' ret rx
      obtain ⟨w5, _⟩ := after ret
      exact post F' d H' (e1.trans ret.ext) w5 rx
  · exact ⟨c, F, ρ, .ex x, ρ', w, h1, post⟩
end
end L3
set_option Elab.async false
set_option linter.all false
set_option maxRecDepth 100000
set_option maxHeartbeats 2000000
namespace L3
open PySem PySem.Spec PyProof.Rows L2

/-! ### methods -/
def recvD (C : Addr) (m : Str) : D → Option Ag
  | .ins C' fs => if C' = C ∧ (fs.lookup m).isNone = true then some (.d (.ins C' fs)) else none
  | _ => none
def recvO (C : Addr) (m : Str) (i : Nat) : OB → Option Ag
  | .ins C' fs => if C' = C ∧ (fs.lookup m).isNone = true then some (.s i) else none
  | _ => none
def mRecv (C : Addr) (m : Str) : AgM → M Ag
  | .d me => me.bind fun d => M.lift (recvD C m d)
  | .s i => (mSlot i).bind fun o => M.lift (recvO C m i o)
def mMthS (C : Addr) (m : Str) (n : Nat) (g : G) (dds : List D) (r : AgM) (as : M (List Ag)) : M S := (mRecv C m r).bind fun gr => as.bind fun gs => callAt n g dds (gr :: gs)
def mMth (C : Addr) (m : Str) (n : Nat) (g : G) (dds : List D) (r : AgM) (as : M (List Ag)) : M D := (mMthS C m n g dds r as).bind fun s => M.lift (asD s)
def mMthO (C : Addr) (m : Str) (n : Nat) (g : G) (dds : List D) (r : AgM) (as : M (List Ag)) : M OB := (mMthS C m n g dds r as).bind fun s => M.lift (asO s)
/-- the receiver, as an expression -/
inductive PRM (X : Cx) (Wx : WX) : Expr → AgM → Prop
  | d {e : Expr} {me : M D} (h : PEM X Wx e me) : PRM X Wx e (.d me)
  | s (i : Nat) {x : Str} {pos : Pos} (hN : X.N[i]? = some x := by rfl) (hv : Vis X.env.scope x := by first | exact Or.inl rfl | exact Or.inr (Or.inl rfl) | exact Or.inr (Or.inr rfl)) (hd : (x == ("__debug__" : Str)) = false := by decide)
    (hcd : (x == ("__classdict__" : Str)) = false := by decide) : PRM X Wx (.Name x pos) (.s i)
/-- its reading: where the instance stands, kept while the heap grows -/
def tRecv (K : PySem.W.Frag) (Wx : WX) (C : Addr) (m : Str) (r : AgM) (σ : L2.St) (H : Hp) (P : Ctx → List S → Ag → V → Hp → Hp → Prop) : Prop :=
  tM K Wx (mRecv C m r) σ H fun c ρ' g F' H' => ∀ a, (∃ dx fs, H' a = some (.ins (cA K C) dx fs) ∧ fs.lookup m = none) → (∀ F2, Same F' F2 → RepG K F2 σ [V.ref a] [g]) → P c ρ' g (V.ref a) F' H'
theorem recv_pe {X : Cx} {Wx : WX} {o : Expr} {r : AgM} {C : Addr} {m : Str} (h : PRM X Wx o r) : PE X o (fun σ H Q => tRecv X.K Wx C m r σ H fun c ρ' g v F' H' => Q v H') := by
  cases h with
  | d h =>
    refine pe_imp h fun σ H Q h => ?_
    obtain ⟨c, F, ρ, rr, ρ', w, hm, post⟩ := h
    rcases bind_inv hm with ⟨d, ρ1, h1, h2⟩ | ⟨x, h1, rfl⟩
    · refine ⟨c, F, ρ, .ok d, ρ1, w, h1, fun F1 H1 e1 w1 v rv => ?_⟩
      obtain ⟨g, hg, rfl, rfl⟩ := lift_inv h2
      cases rv <;> try (cases hg; done)
      rename_i a dx C' fs ds ha hr
      have hg' : (if C' = C ∧ (ds.lookup m).isNone = true then some (Ag.d (.ins C' ds)) else none) = some g := hg
      split at hg'
      · rename_i hc
        obtain ⟨rfl, hl⟩ := hc
        cases hg'
        exact post F1 H1 e1 w1 a ⟨dx, fs, w1.sub _ _ ha, hr.look.2 (Option.isNone_iff_eq_none.mp hl)⟩ fun F2 e2 => .d (.ins (e2 _ _ ha) (hr.mono e2)) .nil
      · cases hg'
    · exact ⟨c, F, ρ, .ex x, ρ', w, h1, post⟩
  | s i hN hv hd hcd =>
    refine pe_imp (pe_var hN hv hd hcd) fun σ H Q h => ?_
    obtain ⟨c, F, ρ, rr, ρ', w, hm, post⟩ := h
    rcases bind_inv hm with ⟨o, ρ1, h1, h2⟩ | ⟨x, h1, rfl⟩
    · obtain ⟨_, ez, rfl, ho⟩ := slot_inv h1
      cases ez
      obtain ⟨g, hg, rfl, rfl⟩ := lift_inv h2
      obtain ⟨a, u, ha, _, fa, ga, ro⟩ := own_slot w ho
      cases ro <;> try (cases hg; done)
      rename_i C' dx fs ds hr
      have hg' : (if C' = C ∧ (ds.lookup m).isNone = true then some (Ag.s i) else none) = some g := hg
      split at hg'
      · rename_i hc
        obtain ⟨rfl, hl⟩ := hc
        cases hg'
        exact ⟨_, ha, post F H (Same.refl _) w a ⟨dx, fs, ga, hr.look.2 (Option.isNone_iff_eq_none.mp hl)⟩ fun F2 e2 => .s ha .nil⟩
      · cases hg'
    · obtain ⟨_, ez, _⟩ := slot_inv h1
      cases ez
section
variable {X : Cx} {Wx : WX} {k : Nat} {f C : Addr} {fd : FuncData} {ps : List Str} {dvs : List V} {dds : List D} {ds : List Value} {m : Str} {pos apos : Pos} {e o : Expr} {es : List Expr} {g : G} {r : AgM} {as : List AgM}
theorem mth_imp {P : Ctx → List S → S → Hp → Hp → Prop} {Q : VK} {σ : L2.St} {H : Hp} (hdd : ∀ F, RepL X.K F dvs dds) (h : tM X.K Wx (mMthS C m ps.length g dds r (mAgs as)) σ H P) (hQ : ∀ c ρ' s F' H' v, W X.K c F' ρ' σ H' → RetW X.K c ρ' σ F' H' v s → P c ρ' s F' H' → Q v H') :
    tMth (cA X.K C) m (spG X.K ps.length g) dvs Wx (fun σ H Q => tRecv X.K Wx C m r σ H fun c ρ' g v F' H' => Q v H') (tG X.K Wx (mAgs as)) σ H Q := by
  obtain ⟨c, F, ρ, rr, ρ', w, hm, post⟩ := h
  rcases bind_inv hm with ⟨gr, ρ1, h1, h2⟩ | ⟨x, h1, rfl⟩
  · refine ⟨c, F, ρ, .ok gr, ρ1, w, h1, fun F1 H1 e1 w1 a hi hrep => ?_⟩
    obtain ⟨dx, fs, ha, hl⟩ := hi
    refine ⟨a, dx, fs, rfl, ha, hl, ?_⟩
    rcases bind_inv h2 with ⟨gs, ρ2, h3, h4⟩ | ⟨x, h3, rfl⟩
    · refine ⟨c, F1, ρ1, .ok gs, ρ2, w1, h3, fun F2 H2 e2 w2 vs rg => ?_⟩
      have rg2 : RepG X.K F2 σ (V.ref a :: vs) (gr :: gs) := by
        have := hrep F2 e2
        cases this with
        | d r _ => exact .d r rg
        | s h _ => exact .s h rg
      exact call_core (vs := V.ref a :: vs) w2 rg2 h4 hdd (post.mono (e1.trans e2)) (hQ c ρ')
    · exact ⟨c, F1, ρ1, .ex x, ρ', w1, h3, PostX.mono e1 post⟩
  · exact ⟨c, F, ρ, .ex x, ρ', w, h1, post⟩
theorem pem_mth (ho : PRM X Wx o r) (cl : Cls X.K (cA X.K C)) (hm : Meth X.K (cA X.K C) m f) (Fn : FnG X.prog X.w X.K X.mg X.base k f fd ps (spG X.K ps.length g)) (hG : X.A.guards = some []) (hr : Room k X.A) (hb : Binds X.K fd ps ds) (hd : Vals dvs ds) (hdd : ∀ F, RepL X.K F dvs dds) (tk : Takes X Wx) (ha : PGM X Wx (e :: es) (mAgs as))
    (hp : ∀ {ta : TE} {t : TA}, PE X o ta → PA X (e :: es) t → PE X (.Call (.Attribute o m apos) (e :: es) [] pos) (tMth (cA X.K C) m (spG X.K ps.length g) dvs Wx ta t)) : PEM X Wx (.Call (.Attribute o m apos) (e :: es) [] pos) (mMth C m ps.length g dds r (mAgs as)) :=
  pe_imp (hp (recv_pe (C := C) (m := m) ho) ha) fun σ H Q h => mth_imp hdd (tM_D h) fun c ρ' s F' H' v w rv ⟨d, ed, q⟩ => by
    subst ed
    exact q v rv
theorem pem_mth0 (ho : PRM X Wx o r) (hdd : ∀ F, RepL X.K F dvs dds)
    (hp : ∀ {ta : TE}, PE X o ta → PE X (.Call (.Attribute o m apos) [] [] pos) (tMth (cA X.K C) m (spG X.K ps.length g) dvs Wx ta tNil)) : PEM X Wx (.Call (.Attribute o m apos) [] [] pos) (mMth C m ps.length g dds r (mAgs [])) := by
  refine pe_imp (hp (recv_pe (C := C) (m := m) ho)) fun σ H Q h => ?_
  have q := mth_imp (as := []) (Q := Q) hdd (tM_D h) fun c ρ' s F' H' v w rv ⟨d, ed, q⟩ => by
    subst ed
    exact q v rv
  obtain ⟨c, F, ρ, rr, ρ', w, hm, post⟩ := q
  refine ⟨c, F, ρ, rr, ρ', w, hm, post.imp fun gr F' H' _ w' p' a hi hrep => ?_⟩
  obtain ⟨a', dx, fs, z, ha, hl, q2⟩ := p' a hi hrep
  refine ⟨a', dx, fs, z, ha, hl, ?_⟩
  obtain ⟨c2, F2, ρ2, rr2, ρ2', w2, hm2, post2⟩ := q2
  cases hm2
  exact post2 F2 H' (Same.refl _) w2 [] .nil

/-! ### properties -/
/-- e.f, a property: the getter's promise -/
def tPrp (C : Addr) (sp : Sp) (ta : TE) : TE := fun σ H Q => ta σ H fun x H1 => ∃ a dx fs, x = V.ref a ∧ H1 a = some (.ins C dx fs) ∧ sp [V.ref a] H1 Q (fun _ _ _ => False)
theorem pe_prp {sp : Sp} {ta : TE} {p gf : Addr} (he : PE X o ta) (cl : Cls X.K C) (hp : PropOf X.K C m p gf) (Fn : FnG X.prog X.w X.K X.mg X.base k gf fd ps sp) (hG : X.A.guards = some []) (hr : Room (k + 1) X.A) (hb : Binds X.K fd ps [])
    (hab : attributeBase o m X.env (eval o X.env) = eval o X.env := by rfl) : PE X (.Attribute o m pos) (tPrp C sp ta) := by
  constructor
  intro pins s σ H Q I h
  refine attr_of hab (thn (he.run pins s σ H _ I h) ?_)
  intro u s1 hh
  obtain ⟨x, H1, I1, rx, a, dx, fs, rfl, ea, q⟩ := hh
  obtain rfl : u = Value.ref a := rx
  obtain ⟨mA, O, _, _, _, _⟩ := ins_get I1.hok ea
  obtain ⟨od, J, _⟩ := O.look
  obtain ⟨rest, hrec⟩ := hp.rec_
  have I2 := I1.tok (s1.toks + 1)
  have hl : ([Value.ref a] ++ []).length = ps.length := (Fn.len _ _ _ _ q)
  have hc : (PySem.W.clsIn X.K C).isSome = true := by
    obtain ⟨cd, hc, _⟩ := PySem.W.any_some cl.hd
    rw [hc]
    rfl
  refine PySem.W.get_bind I1.kIn J (PySem.W.plainGet_of (cl.get m)).1 (PySem.W.findObj_data hc hp.at_ hp.get hp.tak) (PySem.W.plainGet_of (cl.get m)).2 ?_
  apply wpAny_call
  refine PySem.W.prop_get (s := { s1 with toks := s1.toks + 1 }) I1.kIn hrec ?_
  apply codeAny_mono (Fn.run X.A.in1 X.stack { s1 with toks := s1.toks + 1 } H1 ⟨[.ref a], []⟩ [.ref a] [.ref a] Q _ hG hr.in1 I2.env0.in1 (hb _ [.ref a] I2.kIn hl) (.cons rfl .nil) q)
  intro r s' hq
  match r, hq with
  | .error er, hq =>
    obtain ⟨_, _, _, _, _, _, _, _, _, _, _, _, z⟩ := hq
    exact z.elim
  | .ok (.ret u), hq =>
    obtain ⟨v, H', I3, rv, q3⟩ := I2.after hq
    show wpAny _ _ (handedOut u) _ _ _
    rw [PySem.W.handedOut_of (handed_of rv)]
    exact wpAny_pure ⟨v, H', I3, rv, q3⟩
  | .ok .next, hq => exact False.elim hq
  | .ok .brk, hq => exact False.elim hq
  | .ok .cont, hq => exact False.elim hq
def recvP (C : Addr) : D → Option Ag
  | .ins C' fs => if C' = C then some (.d (.ins C' fs)) else none
  | _ => none
/-- (a getter that raises nothing) -/
def mProp (C : Addr) (g : G) (me : M D) : M D := me.bind fun d => (M.lift (recvP C d)).bind fun gr ρ => match g [.dat d] with
  | some (.ok (.dat z), _) => some (.ok z, ρ)
  | _ => none
theorem pem_prop {me : M D} {p gf : Addr} (he : PEM X Wx o me) (cl : Cls X.K (cA X.K C)) (hp : PropOf X.K (cA X.K C) m p gf) (Fn : FnG X.prog X.w X.K X.mg X.base k gf fd ps (spG X.K ps.length g)) (hG : X.A.guards = some []) (hr : Room (k + 1) X.A) (hb : Binds X.K fd ps []) (h1 : ps.length = 1)
    (hab : attributeBase o m X.env (eval o X.env) = eval o X.env := by rfl) : PEM X Wx (.Attribute o m pos) (mProp C g me) := by
  refine pe_imp (pe_prp he cl hp Fn hG hr hb hab) fun σ H Q h => ?_
  obtain ⟨c, F, ρ, rr, ρ', w, hm, post⟩ := h
  rcases bind_inv hm with ⟨d, ρ1, h1', h2⟩ | ⟨x, h1', rfl⟩
  · refine ⟨c, F, ρ, .ok d, ρ1, w, h1', fun F1 H1 e1 w1 v rv => ?_⟩
    rcases bind_inv h2 with ⟨gr, ρ2, h3, h4⟩ | ⟨x, h3, rfl⟩
    · obtain ⟨_, hgr, ez, rfl⟩ := lift_inv h3
      cases ez
      cases rv <;> try (cases hgr; done)
      rename_i a dx C' fs ds ha hr'
      have hg' : (if C' = C then some (Ag.d (.ins C' ds)) else none) = some gr := hgr
      split at hg'
      · rename_i hC
        subst hC
        refine ⟨a, dx, fs, rfl, w1.sub _ _ ha, ?_⟩
        have h5 : (match g [.dat (.ins C' ds)] with
          | some (.ok (.dat z), _) => some (R.ok z, ρ2)
          | _ => none) = some (rr, ρ') := h4
        split at h5
        · rename_i z ss' hgz
          cases h5
          refine ⟨h1.symm, F1, [.dat (.ins C' ds)], .ok (.dat z), ss', w1.sub, ⟨rfl, fun i s hs => ?_, fun i j o o' b q1 _ _ _ => ?_⟩, hgz, fun F' v' H' ret rv' => ?_⟩
          · cases i with
            | zero => simp at hs; subst hs; exact ⟨_, rfl, .ins ha hr'⟩
            | succ i => simp at hs
          · cases i with
            | zero => simp at q1
            | succ i => simp at q1
          · have w' : W X.K c F' ρ' σ H' := by
              have rg : RepG X.K F1 σ [V.ref a] [.d (.ins C' ds)] := .d (.ins ha hr') .nil
              exact w1.call (dvs := []) (dds := []) (gs := [.d (.ins C' ds)]) (ss := [.dat (.ins C' ds)]) (ss' := [.dead]) rg List.nodup_nil rfl ⟨ret.sub, ret.ext, ret.frm, ret.new, ret.dom, fun i o hi => by
                cases i with
                | zero => simp at hi
                | succ i => simp at hi⟩ rfl
            exact post F' H' (e1.trans ret.ext) w' v' rv'
        · cases h5
      · cases hg'
    · obtain ⟨_, _, ez, _⟩ := lift_inv h3
      cases ez
  · exact ⟨c, F, ρ, .ex x, ρ', w, h1', post⟩
end
end L3
set_option Elab.async false
set_option linter.all false
set_option maxRecDepth 100000
set_option maxHeartbeats 2000000
namespace L3
open PySem PySem.Spec PyProof.Rows L2

/-! ### operations on data, by their kinds -/
def rOr (r s : R2) : R2 := fun x y H Q => r x y H Q ∨ s x y H Q
theorem opr_or {X : Cx} {f : Value → Value → Sem Value} {r s : R2} (h1 : OpR X f r) (h2 : OpR X f s) : OpR X f (rOr r s) := by
  intro pins sh σ H x y v u Q I rx ry h
  rcases h with h | h
  · exact h1 pins sh σ H x y v u Q I rx ry h
  · exact h2 pins sh σ H x y v u Q I rx ry h
def dAdd : D → D → Option D
  | .int i, .int j => some (.int (i + j))
  | .str x, .str y => if x.length + y.length ≤ 1000000 then some (.str (x ++ y)) else none
  | .lst xs, .lst ys => if xs.length + ys.length ≤ 1000000 then some (.lst (xs ++ ys)) else none
  | _, _ => none
def dSub : D → D → Option D
  | .int i, .int j => some (.int (i - j))
  | _, _ => none
def mulOk (i j : Int) : Bool := decide (i.natAbs.log2 + j.natAbs.log2 < 1000000)
def dMul : D → D → Option D
  | .int i, .int j => if mulOk i j = true then some (.int (i * j)) else none
  | .lst xs, .int k => if k ≤ 1000000 ∧ -1000000 ≤ k ∧ xs.length * k.toNat ≤ 1000000 then some (.lst (List.replicate k.toNat xs).flatten) else none
  | _, _ => none
def divOk (j : Int) : Bool := decide (j ≠ 0 ∧ j.natAbs.log2 < 9000)
def dFdiv : D → D → Option D
  | .int i, .int j => if divOk j = true then some (.int (i.fdiv j)) else none
  | _, _ => none
def dMod : D → D → Option D
  | .int i, .int j => if j ≠ 0 then some (.int (i.fmod j)) else none
  | _, _ => none
def powOk (i j : Int) : Bool := decide (0 ≤ j ∧ (i.natAbs.log2 + 1) * j.toNat ≤ 1000000)
def dPow : D → D → Option D
  | .int i, .int j => if powOk i j = true then some (.int (i ^ j.toNat)) else none
  | _, _ => none
def dLt : D → D → Option D
  | .int i, .int j => some (.bl (decide (i < j)))
  | _, _ => none
def dLe : D → D → Option D
  | .int i, .int j => some (.bl (decide (i ≤ j)))
  | _, _ => none
def dGt : D → D → Option D
  | .int i, .int j => some (.bl (decide (j < i)))
  | _, _ => none
def dGe : D → D → Option D
  | .int i, .int j => some (.bl (decide (j ≤ i)))
  | _, _ => none
def dNeg : D → Option D
  | .int i => some (.int (-i))
  | _ => none
/-- data without instances -/
def D.py : D → Option PyData
  | .non => some .none
  | .bl b => some (.bool b)
  | .int i => some (.int i)
  | .str x => some (.str x)
  | .tup ds => (pyL ds).map .tuple
  | .lst ds => (pyL ds).map .list
  | .rdl ds => (pyL ds).map .list
  | _ => none
where pyL : List D → Option (List PyData)
  | [] => some []
  | d :: ds => match d.py, pyL ds with
    | some p, some ps => some (p :: ps)
    | _, _ => none
def dEqD (d e : D) : Option D := match d.py, e.py with
  | some p, some q => if (SeqAt.shaped p && SeqAt.shaped q) = true then some (.bl (PyData.eqv p q)) else none
  | _, _ => none
def dNeD (d e : D) : Option D := match d.py, e.py with
  | some p, some q => if (SeqAt.shaped p && SeqAt.shaped q) = true then some (.bl (!PyData.eqv p q)) else none
  | _, _ => none
def dEq (d e : D) : Option D := match d, e with
  | .int i, .int j => some (.bl (decide (i = j)))
  | .str x, .str y => some (.bl (decide (x = y)))
  | d, e => dEqD d e
def dNe (d e : D) : Option D := match d, e with
  | .int i, .int j => some (.bl (!decide (i = j)))
  | .str x, .str y => some (.bl (!decide (x = y)))
  | d, e => dNeD d e
section
variable {K : PySem.W.Frag} {F H : Hp}
mutual
theorem py_dp (sub : Same F H) : ∀ {d : D} {v : V} {p : PyData}, Rep K F v d → d.py = some p → Dp K H v p
  | .non, _, _, .non, h => by cases h; exact .non
  | .bl b, _, _, .bl _, h => by cases h; exact .bl b
  | .int i, _, _, .int _, h => by cases h; exact .int i
  | .str x, _, _, .str _, h => by cases h; exact .str x
  | .ty _, _, _, _, h => by cases h
  | .obj _, _, _, _, h => by cases h
  | .dct _, _, _, _, h => by cases h
  | .ins _ _, _, _, _, h => by cases h
  | .tup ds, _, p, .tup hs hr, h => by
    have h' : (D.py.pyL ds).map PyData.tuple = some p := h
    cases e : D.py.pyL ds with
    | none => rw [e] at h'; cases h'
    | some ps => rw [e] at h'; cases h'; exact .tup (same_sqT sub hs) (py_dps sub hr e)
  | .lst ds, _, p, .lst hs hr, h => by
    have h' : (D.py.pyL ds).map PyData.list = some p := h
    cases e : D.py.pyL ds with
    | none => rw [e] at h'; cases h'
    | some ps => rw [e] at h'; cases h'; exact .lst (.inl (.inl (sub _ _ hs))) (py_dps sub hr e)
  | .rdl ds, _, p, .rdl hs hr, h => by
    have h' : (D.py.pyL ds).map PyData.list = some p := h
    cases e : D.py.pyL ds with
    | none => rw [e] at h'; cases h'
    | some ps => rw [e] at h'; cases h'; exact .lst (sub.seq hs) (py_dps sub hr e)
theorem py_dps (sub : Same F H) : ∀ {ds : List D} {vs : List V} {ps : List PyData}, RepL K F vs ds → D.py.pyL ds = some ps → DpAll K H vs ps
  | [], _, _, .nil, h => by cases h; exact .nil
  | d :: ds, _, ps, .cons r rs, h => by
    have h' : (match d.py, D.py.pyL ds with
      | some p, some ps => some (p :: ps)
      | _, _ => none) = some ps := h
    cases e1 : d.py with
    | none => rw [e1] at h'; cases h'
    | some p =>
      cases e2 : D.py.pyL ds with
      | none => rw [e1, e2] at h'; cases h'
      | some qs => rw [e1, e2] at h'; cases h'; exact .cons (py_dp sub r e1) (py_dps sub rs e2)
end
end
section
variable {X : Cx}
theorem op_powW : OpR X (binaryOp .Pow) (rI (fun i j => powOk i j = true) fun i j => .int (i ^ j.toNat)) := opI fun i j _ _ _ _ _ hc q => by
  obtain ⟨h0, h1⟩ := of_decide_eq_true (show decide (0 ≤ j ∧ (i.natAbs.log2 + 1) * j.toNat ≤ 1000000) = true from hc)
  refine pow_int h0 ?_ q
  have b : Builtin.Int.intBits i ≤ i.natAbs.log2 + 1 := by
    unfold Builtin.Int.intBits
    split <;> omega
  have e : (Builtin.Int.intBits i : Int) * j = ((Builtin.Int.intBits i * j.toNat : Nat) : Int) := by
    rw [Int.natCast_mul, Int.toNat_of_nonneg h0]
  rw [e]
  have : Builtin.Int.intBits i * j.toNat ≤ 1000000 := Nat.le_trans (Nat.mul_le_mul_right _ b) h1
  generalize Builtin.Int.intBits i * j.toNat = n at this
  have h2 : (n : Int) ≤ 1000000 := by omega
  exact Int.le_trans h2 (by decide)
theorem op_divW : OpR X (binaryOp .FloorDiv) (rI (fun _ j => divOk j = true) fun i j => .int (i.fdiv j)) := opI fun i j _ _ _ _ _ hc q => by
  obtain ⟨h0, h1⟩ := of_decide_eq_true (show decide (j ≠ 0 ∧ j.natAbs.log2 < 9000) = true from hc)
  exact floordiv_int h0 q (.inl (PyProof.noPylong_of_log2 h1))
abbrev rAddI : R2 := rI0 fun i j => .int (i + j)
abbrev rAddS : R2 := fun x y H Q => ∃ i j, x = V.str i ∧ y = V.str j ∧ i.length + j.length ≤ sizeLine ∧ Q (.str (i ++ j)) H
theorem op_addP : OpR X (binaryOp .Add) (rOr rAddI (rOr rAddS rCat)) := opr_or op_add (opr_or op_add_str op_cat)
theorem s_add : Op2 X.K (rOr rAddI (rOr rAddS rCat)) dAdd := by
  intro F H x y d e z Q rx ry sub h q
  unfold dAdd at h
  split at h
  · cases h; cases rx; cases ry
    exact .inl ⟨_, _, rfl, rfl, q F _ H Grow.refl (.int _)⟩
  · split at h
    · rename_i hl
      cases h; cases rx; cases ry
      exact .inr (.inl ⟨_, _, rfl, rfl, mil hl, q F _ H Grow.refl (.str _)⟩)
    · cases h
  · split at h
    · rename_i hl
      cases h
      cases rx with
      | lst h1 r1 =>
        cases ry with
        | lst h2 r2 =>
          refine .inr (.inr ⟨_, _, _, _, rfl, rfl, sub _ _ h1, sub _ _ h2, by rw [r1.len, r2.len]; exact mil hl, fun p hp => ?_⟩)
          exact q _ _ _ (Grow.new sub hp) (.lst upd_same ((r1.append r2).mono (same_upd (sub.free hp))))
    · cases h
  · cases h
theorem s_sub : Op2 X.K (rI0 fun i j => .int (i - j)) dSub := by
  intro F H x y d e z Q rx ry sub h q
  unfold dSub at h
  split at h
  · cases h; cases rx; cases ry
    exact ⟨_, _, rfl, rfl, q F _ H Grow.refl (.int _)⟩
  · cases h
theorem RepL.rep {K : PySem.W.Frag} {F : Hp} {vs : List V} {ds : List D} (r : RepL K F vs ds) : ∀ n : Nat, RepL K F (List.replicate n vs).flatten (List.replicate n ds).flatten
  | 0 => .nil
  | n + 1 => by
    rw [List.replicate_succ, List.replicate_succ, List.flatten_cons, List.flatten_cons]
    exact r.append (RepL.rep r n)
theorem op_mulP : OpR X (binaryOp .Mult) (rOr (rI CMulW fun i j => .int (i * j)) rRep) := opr_or op_mulW op_rep
theorem mulOk_of {i j : Int} (h : mulOk i j = true) : CMulW i j := of_decide_eq_true (p := i.natAbs.log2 + j.natAbs.log2 < 1000000) h
theorem s_mul : Op2 X.K (rOr (rI CMulW fun i j => .int (i * j)) rRep) dMul := by
  intro F H x y d e z Q rx ry sub h q
  unfold dMul at h
  split at h
  · split at h
    · rename_i hm
      cases h; cases rx; cases ry
      exact .inl ⟨_, _, rfl, rfl, mulOk_of hm, q F _ H Grow.refl (.int _)⟩
    · cases h
  · split at h
    · rename_i hm
      cases h
      cases ry
      cases rx with
      | lst h1 r1 =>
        refine .inr ⟨_, _, _, rfl, rfl, sub _ _ h1, by omega, by omega, by rw [r1.len]; exact mil hm.2.2, fun p hp => ?_⟩
        exact q _ _ _ (Grow.new sub hp) (.lst upd_same ((r1.rep _).mono (same_upd (sub.free hp))))
    · cases h
  · cases h
theorem s_fdiv : Op2 X.K (rI (fun _ j => divOk j = true) fun i j => .int (i.fdiv j)) dFdiv := by
  intro F H x y d e z Q rx ry sub h q
  unfold dFdiv at h
  split at h
  · split at h
    · rename_i hm
      cases h; cases rx; cases ry
      exact ⟨_, _, rfl, rfl, hm, q F _ H Grow.refl (.int _)⟩
    · cases h
  · cases h
theorem s_mod : Op2 X.K (rI (fun _ j => j ≠ 0) fun i j => .int (i.fmod j)) dMod := by
  intro F H x y d e z Q rx ry sub h q
  unfold dMod at h
  split at h
  · split at h
    · rename_i hm
      cases h; cases rx; cases ry
      exact ⟨_, _, rfl, rfl, hm, q F _ H Grow.refl (.int _)⟩
    · cases h
  · cases h
theorem s_pow : Op2 X.K (rI (fun i j => powOk i j = true) fun i j => .int (i ^ j.toNat)) dPow := by
  intro F H x y d e z Q rx ry sub h q
  unfold dPow at h
  split at h
  · split at h
    · rename_i hm
      cases h; cases rx; cases ry
      exact ⟨_, _, rfl, rfl, hm, q F _ H Grow.refl (.int _)⟩
    · cases h
  · cases h
theorem s_lt : Op2 X.K (rI0 fun i j => .bl (decide (i < j))) dLt := by
  intro F H x y d e z Q rx ry sub h q
  unfold dLt at h
  split at h
  · cases h; cases rx; cases ry
    exact ⟨_, _, rfl, rfl, q F _ H Grow.refl (.bl _)⟩
  · cases h
theorem s_le : Op2 X.K (rI0 fun i j => .bl (decide (i ≤ j))) dLe := by
  intro F H x y d e z Q rx ry sub h q
  unfold dLe at h
  split at h
  · cases h; cases rx; cases ry
    exact ⟨_, _, rfl, rfl, q F _ H Grow.refl (.bl _)⟩
  · cases h
theorem s_gt : Op2 X.K (rI0 fun i j => .bl (decide (j < i))) dGt := by
  intro F H x y d e z Q rx ry sub h q
  unfold dGt at h
  split at h
  · cases h; cases rx; cases ry
    exact ⟨_, _, rfl, rfl, q F _ H Grow.refl (.bl _)⟩
  · cases h
theorem s_ge : Op2 X.K (rI0 fun i j => .bl (decide (j ≤ i))) dGe := by
  intro F H x y d e z Q rx ry sub h q
  unfold dGe at h
  split at h
  · cases h; cases rx; cases ry
    exact ⟨_, _, rfl, rfl, q F _ H Grow.refl (.bl _)⟩
  · cases h
theorem s_eqD : Op2 X.K (rEqD X.K) dEqD := by
  intro F H x y d e z Q rx ry sub h q
  unfold dEqD at h
  split at h
  · rename_i p p' e1 e2
    split at h
    · rename_i hs
      cases h
      rw [Bool.and_eq_true] at hs
      exact ⟨p, p', py_dp sub rx e1, py_dp sub ry e2, hs.1, hs.2, q F _ H Grow.refl (.bl _)⟩
    · cases h
  · cases h
theorem s_neD : Op2 X.K (rNeD X.K) dNeD := by
  intro F H x y d e z Q rx ry sub h q
  unfold dNeD at h
  split at h
  · rename_i p p' e1 e2
    split at h
    · rename_i hs
      cases h
      rw [Bool.and_eq_true] at hs
      exact ⟨p, p', py_dp sub rx e1, py_dp sub ry e2, hs.1, hs.2, q F _ H Grow.refl (.bl _)⟩
    · cases h
  · cases h
theorem op_eqP (hu : X.A.units + 64 < cLine) : OpR X (compareOp .Eq) (rOr rEq (rEqD X.K)) := opr_or op_eq (op_eqD hu)
theorem op_neP (hu : X.A.units + 64 < cLine) : OpR X (compareOp .NotEq) (rOr rNe (rNeD X.K)) := opr_or op_ne (op_neD hu)
theorem decI {i j : Int} : decide (V.int i = V.int j) = decide (i = j) := by rw [Bool.eq_iff_iff]; simp
theorem decS {i j : Str} : decide (V.str i = V.str j) = decide (i = j) := by rw [Bool.eq_iff_iff]; simp
theorem s_eq : Op2 X.K (rOr rEq (rEqD X.K)) dEq := by
  intro F H x y d e z Q rx ry sub h q
  unfold dEq at h
  split at h
  · cases h; cases rx; cases ry
    exact .inl ⟨rfl, by rw [decI]; exact q F _ H Grow.refl (.bl _)⟩
  · cases h; cases rx; cases ry
    exact .inl ⟨rfl, by rw [decS]; exact q F _ H Grow.refl (.bl _)⟩
  · exact .inr (s_eqD (X := X) F H x y _ _ z Q rx ry sub h q)
theorem s_ne : Op2 X.K (rOr rNe (rNeD X.K)) dNe := by
  intro F H x y d e z Q rx ry sub h q
  unfold dNe at h
  split at h
  · cases h; cases rx; cases ry
    exact .inl ⟨rfl, by rw [decI]; exact q F _ H Grow.refl (.bl _)⟩
  · cases h; cases rx; cases ry
    exact .inl ⟨rfl, by rw [decS]; exact q F _ H Grow.refl (.bl _)⟩
  · exact .inr (s_neD (X := X) F H x y _ _ z Q rx ry sub h q)
theorem s_neg : Op1 X.K (rU fun i => .int (-i)) dNeg := by
  intro F H x d z Q rx sub h q
  unfold dNeg at h
  split at h
  · cases h; cases rx
    exact ⟨_, rfl, q F _ H Grow.refl (.int _)⟩
  · cases h
/-- xs[i], t[i] -/
def dIx : D → D → Option D
  | .lst ds, .int i => L2.atI ds i
  | .rdl ds, .int i => L2.atI ds i
  | .tup ds, .int i => L2.atI ds i
  | _, _ => none
theorem s_ix : Op2 X.K (rIx X.K) dIx := by
  intro F H x y d e z Q rx ry sub h q
  unfold dIx at h
  split at h
  · cases ry
    cases rx with
    | lst hs hr =>
      obtain ⟨v, hv, rv⟩ := hr.atI h
      exact .inl ⟨_, _, _, v, rfl, rfl, .inl (.inl (sub _ _ hs)), hv, q F v H Grow.refl rv⟩
  · cases ry
    cases rx with
    | rdl hs hr =>
      obtain ⟨v, hv, rv⟩ := hr.atI h
      exact .inl ⟨_, _, _, v, rfl, rfl, sub.seq hs, hv, q F v H Grow.refl rv⟩
  · cases ry
    cases rx with
    | tup hs hr =>
      obtain ⟨v, hv, rv⟩ := hr.atI h
      exact .inr (.inl ⟨_, _, _, v, rfl, rfl, same_sqT sub hs, hv, q F v H Grow.refl rv⟩)
  · cases h

/-! ### built-ins by values -/
def dAbs : List D → Option D
  | [.int i] => some (.int (if i < 0 then -i else i))
  | _ => none
def dInt : List D → Option D
  | [.int i] => some (.int i)
  | [.bl k] => some (.int (if k then 1 else 0))
  | _ => none
def dMax2 : List D → Option D
  | [.int i, .int j] => some (.int (if j > i then j else i))
  | _ => none
def dMin2 : List D → Option D
  | [.int i, .int j] => some (.int (if j < i then j else i))
  | _ => none
def dLen : List D → Option D
  | [.lst ds] => some (.int ds.length)
  | [.rdl ds] => some (.int ds.length)
  | [.tup ds] => some (.int ds.length)
  | [.str x] => if x.length ≤ 1000000 then some (.int x.length) else none
  | _ => none
def dStr : List D → Option D
  | [.int i] => if i.natAbs.log2 < 1920 then some (.str (toString i)) else none
  | _ => none
def dTuple : List D → Option D
  | [.lst ds] => some (.tup ds)
  | [.tup ds] => some (.tup ds)
  | _ => none
theorem one {K : PySem.W.Frag} {F : Hp} {xs : List V} {d : D} (h : RepL K F xs [d]) : ∃ x, xs = [x] ∧ Rep K F x d := by
  cases h with
  | cons r t => cases t; exact ⟨_, rfl, r⟩
theorem two {K : PySem.W.Frag} {F : Hp} {xs : List V} {d e : D} (h : RepL K F xs [d, e]) : ∃ x y, xs = [x, y] ∧ Rep K F x d ∧ Rep K F y e := by
  cases h with
  | cons r t =>
    obtain ⟨y, rfl, r2⟩ := one t
    exact ⟨_, _, rfl, r, r2⟩
theorem s_abs : OpN X.K (fun xs H Q => ∃ i, xs = [V.int i] ∧ Q (.int (if i < 0 then -i else i)) H) dAbs := by
  intro F H xs ds z Q rx sub h q
  unfold dAbs at h
  split at h
  · cases h
    obtain ⟨x, rfl, r⟩ := one rx
    cases r
    exact ⟨_, rfl, q F _ H Grow.refl (.int _)⟩
  · cases h
theorem s_int : OpN X.K (fun xs H Q => (∃ i, xs = [V.int i] ∧ Q (.int i) H) ∨ ∃ k, xs = [V.bl k] ∧ Q (.int (if k then 1 else 0)) H) dInt := by
  intro F H xs ds z Q rx sub h q
  unfold dInt at h
  split at h
  · cases h
    obtain ⟨x, rfl, r⟩ := one rx
    cases r
    exact .inl ⟨_, rfl, q F _ H Grow.refl (.int _)⟩
  · cases h
    obtain ⟨x, rfl, r⟩ := one rx
    cases r
    exact .inr ⟨_, rfl, q F _ H Grow.refl (.int _)⟩
  · cases h
theorem s_max2 : OpN X.K (fun xs H Q => ∃ i j, xs = [V.int i, V.int j] ∧ Q (.int (if j > i then j else i)) H) dMax2 := by
  intro F H xs ds z Q rx sub h q
  unfold dMax2 at h
  split at h
  · cases h
    obtain ⟨x, y, rfl, r, r2⟩ := two rx
    cases r
    cases r2
    exact ⟨_, _, rfl, q F _ H Grow.refl (.int _)⟩
  · cases h
theorem s_min2 : OpN X.K (fun xs H Q => ∃ i j, xs = [V.int i, V.int j] ∧ Q (.int (if j < i then j else i)) H) dMin2 := by
  intro F H xs ds z Q rx sub h q
  unfold dMin2 at h
  split at h
  · cases h
    obtain ⟨x, y, rfl, r, r2⟩ := two rx
    cases r
    cases r2
    exact ⟨_, _, rfl, q F _ H Grow.refl (.int _)⟩
  · cases h
theorem s_len : OpN X.K (fun xs H Q => ∃ x n, xs = [x] ∧ LenV X.K x H n ∧ Q (.int n) H) dLen := by
  intro F H xs ds z Q rx sub h q
  unfold dLen at h
  split at h
  · cases h
    obtain ⟨x, rfl, r⟩ := one rx
    cases r with
    | lst hs hr => exact ⟨_, _, rfl, .inl ⟨_, .inl (.inl (sub _ _ hs)), rfl⟩, q F _ H Grow.refl (by rw [hr.len]; exact .int _)⟩
  · cases h
    obtain ⟨x, rfl, r⟩ := one rx
    cases r with
    | rdl hs hr => exact ⟨_, _, rfl, .inl ⟨_, sub.seq hs, rfl⟩, q F _ H Grow.refl (by rw [hr.len]; exact .int _)⟩
  · cases h
    obtain ⟨x, rfl, r⟩ := one rx
    cases r with
    | tup hs hr => exact ⟨_, _, rfl, .inr ⟨_, same_sqT sub hs, rfl⟩, q F _ H Grow.refl (by rw [hr.len]; exact .int _)⟩
  · split at h
    · rename_i hl
      cases h
      obtain ⟨x, rfl, r⟩ := one rx
      cases r
      exact ⟨_, _, rfl, ⟨mil hl, rfl⟩, q F _ H Grow.refl (.int _)⟩
    · cases h
  · cases h
theorem s_str : OpN X.K (fun xs H Q => ∃ i : Int, xs = [V.int i] ∧ i.natAbs.log2 < 1920 ∧ Q (.str (toString i)) H) dStr := by
  intro F H xs ds z Q rx sub h q
  unfold dStr at h
  split at h
  · split at h
    · rename_i hl
      cases h
      obtain ⟨x, rfl, r⟩ := one rx
      cases r
      exact ⟨_, rfl, hl, q F _ H Grow.refl (.str _)⟩
    · cases h
  · cases h
theorem s_tuple : OpN X.K (fun xs H Q => ∃ p ys, xs = [V.ref p] ∧ ((SqL X.K H p ys ∧ ∀ l, H l = none → Q (.ref l) (upd H l (.tup ys))) ∨ (SqT X.K H p ys ∧ Q (.ref p) H))) dTuple := by
  intro F H xs ds z Q rx sub h q
  unfold dTuple at h
  split at h
  · cases h
    obtain ⟨x, rfl, r⟩ := one rx
    cases r with
    | lst hs hr =>
      refine ⟨_, _, rfl, .inl ⟨.inl (.inl (sub _ _ hs)), fun l hl => ?_⟩⟩
      exact q _ _ _ (Grow.new sub hl) (.tup (.inl (.inl upd_same)) (hr.mono (same_upd (sub.free hl))))
  · cases h
    obtain ⟨x, rfl, r⟩ := one rx
    cases r with
    | tup hs hr => exact ⟨_, _, rfl, .inr ⟨same_sqT sub hs, q F _ H Grow.refl (.tup hs hr)⟩⟩
  · cases h
end
end L3
set_option Elab.async false
set_option linter.all false
set_option maxRecDepth 100000
set_option maxHeartbeats 2000000
namespace L3
open PySem PySem.Spec PyProof.Rows L2

/-! ### isinstance -/
/-- what isinstance asks of an own class -/
structure KCls (K : PySem.W.Frag) (C : Addr) : Prop where
  cl : Cls K C
  ha : PySem.W.findIn K (.ref C) "__class__" = some (some (.builtin "object.__class__"))
  hn : PySem.W.specialIn K (.builtin "object.__class__") "__get__" = some (some (.builtin "getset_descriptor.__get__"))
  htk : PySem.W.takesIn K (.builtin "object.__class__") = some true
  hm : PySem.W.mroIn K C (.type "object") = some true
inductive BT where
  | non | bool | int | str | tup | lst | dct
  deriving DecidableEq
def BT.nm : BT → String
  | .non => "NoneType" | .bool => "bool" | .int => "int" | .str => "str" | .tup => "tuple" | .lst => "list" | .dct => "dict"
def BT.sub : BT → BT → Bool
  | .bool, .int => true
  | a, b => decide (a = b)
/-- the class of a datum: a built-in one, or an own one -/
inductive DT where
  | b (t : BT) | c (C : Addr)
def D.dt : D → Option DT
  | .non => some (.b .non)
  | .bl _ => some (.b .bool)
  | .int _ => some (.b .int)
  | .str _ => some (.b .str)
  | .tup _ => some (.b .tup)
  | .lst _ => some (.b .lst)
  | .rdl _ => some (.b .lst)
  | .dct _ => some (.b .dct)
  | .ins C _ => some (.c C)
  | _ => none
def dIsB (T : BT) (Cs : List Addr) (d : D) : Option D := match d.dt with
  | some (.b t) => some (.bl (t.sub T))
  | some (.c C) => if C ∈ Cs then some (.bl false) else none
  | none => none
def dIsC (C0 : Addr) (Cs : List Addr) (d : D) : Option D := match d.dt with
  | some (.b _) => some (.bl false)
  | some (.c C) => if C = C0 then some (.bl true) else if C ∈ Cs then some (.bl false) else none
  | none => none
theorem kit_bt {K : PySem.W.Frag} (a b : BT) : PySem.W.kitOne K (.type a.nm) (.type b.nm) = some (a.sub b) := kit_ty (by cases a <;> cases b <;> decide +kernel)
section
variable {K : PySem.W.Frag} {F H : Hp} {x : V} {d : D}
theorem sqL_ty {a : Addr} {xs : List V} (h : SqL K H a xs) : TyX K H (.ref a) (.type "list") := by
  rcases h with (h | ⟨o, h⟩) | ⟨o, _, _, h, hc, _⟩
  · exact .base (.lst h)
  · exact .base (.frz h)
  · exact .kList h hc
theorem sqT_ty {a : Addr} {xs : List V} (h : SqT K H a xs) : TyX K H (.ref a) (.type "tuple") := by
  rcases h with (h | ⟨o, h⟩) | ⟨o, _, _, h, hc, _⟩
  · exact .base (.tup h)
  · exact .fTuple h
  · exact .kTuple h hc
theorem dt_b {t : BT} (r : Rep K F x d) (sub : Same F H) (h : d.dt = some (.b t)) : TyX K H x (.type t.nm) := by
  cases r with
  | non => cases h; exact .base .non
  | bl b => cases h; exact .base (.bl b)
  | int i => cases h; exact .base (.int i)
  | str x => cases h; exact .base (.str x)
  | ty n => cases h
  | obj a => cases h
  | tup hs _ => cases h; exact sqT_ty (same_sqT sub hs)
  | lst hs _ => cases h; exact .base (.lst (sub _ _ hs))
  | rdl hs _ => cases h; exact sqL_ty (sub.seq hs)
  | dct hs _ => cases h; exact .base (.dK (sub _ _ hs))
  | ins hs _ => cases h
theorem dt_c {C : Addr} (r : Rep K F x d) (sub : Same F H) (h : d.dt = some (.c C)) (k : KCls K (cA K C)) : TyX K H x (.ref (cA K C)) := by
  cases r with
  | ins hs _ => cases h; exact .base (.ins (sub _ _ hs) k.cl k.ha k.hn k.htk k.hm)
  | non => cases h
  | bl b => cases h
  | int i => cases h
  | str x => cases h
  | ty n => cases h
  | obj a => cases h
  | tup hs _ => cases h
  | lst hs _ => cases h
  | rdl hs _ => cases h
  | dct hs _ => cases h
end
section
variable {X : Cx} {Wx : WX} {e ce : Expr} {me : M D} {p pos : Pos}
theorem isi_imp {K : PySem.W.Frag} {f : D → Option D} {cv : V} {u : Value} (hu : ClsV cv u) (hf : ∀ F H x d z, Rep K F x d → Same F H → f d = some z → ∃ t b, TyX K H x t ∧ PySem.W.kitOne K t u = some b ∧ z = .bl b) (σ : L2.St) (H : Hp) (Q : VK) (h : tE K Wx (mUn f me) σ H Q) :
    tCB (rIsi K) (tCons (tE K Wx me) (tCons (tC cv) tNil)) σ H Q := by
  obtain ⟨c, F, ρ, rr, ρ', w, hm, post⟩ := h
  rcases bind_inv hm with ⟨x, ρ1, h1, h2⟩ | ⟨x, h1, rfl⟩
  · refine ⟨c, F, ρ, .ok x, ρ1, w, h1, fun F1 H1 e1 w1 v1 r1 => ?_⟩
    obtain ⟨z, hz, rfl, rfl⟩ := lift_inv h2
    obtain ⟨t, b, ty, hk, rfl⟩ := hf F1 H1 v1 x z r1 w1.sub hz
    exact ⟨v1, cv, t, u, b, rfl, hu, ty, hk, post F1 H1 e1 w1 _ (.bl b)⟩
  · exact ⟨c, F, ρ, .ex x, ρ', w, h1, post⟩
theorem pem_isB (T : BT) (Cs : List Addr) (hC : ∀ C ∈ Cs, KCls X.K (cA X.K C) ∧ PySem.W.kitOne X.K (.ref (cA X.K C)) (.type T.nm) = some false) (hpe : PE X ce (tC (.ty T.nm))) (h : PEM X Wx e me)
    (hp : ∀ {ta : TA}, PA X [e, ce] ta → PE X (.Call (.Name "isinstance" p) [e, ce] [] pos) (tCB (rIsi X.K) ta)) (hs : starEach [e, ce] X.env = (false, eval e X.env) :: starEach [ce] X.env := by rfl) (hs2 : starEach [ce] X.env = (false, eval ce X.env) :: starEach [] X.env := by rfl) :
    PEM X Wx (.Call (.Name "isinstance" p) [e, ce] [] pos) (mUn (dIsB T Cs) me) := by
  refine pe_imp (hp (pa_cons h (pa_cons hpe pa_nil hs2) hs)) (isi_imp (.ty T.nm) fun F H x d z r sub hz => ?_)
  unfold dIsB at hz
  split at hz
  · rename_i t ht
    cases hz
    exact ⟨_, _, dt_b r sub ht, kit_bt t T, rfl⟩
  · rename_i C hC'
    split at hz
    · rename_i hm
      cases hz
      obtain ⟨k, q⟩ := hC C hm
      exact ⟨_, _, dt_c r sub hC' k, q, rfl⟩
    · cases hz
  · cases hz
theorem pem_isC (C0 : Addr) (Cs : List Addr) (k0 : KCls X.K (cA X.K C0)) (hb : ∀ t : BT, PySem.W.kitOne X.K (.type t.nm) (.ref (cA X.K C0)) = some false) (hC : ∀ C ∈ Cs, KCls X.K (cA X.K C) ∧ PySem.W.kitOne X.K (.ref (cA X.K C)) (.ref (cA X.K C0)) = some false) (hpe : PE X ce (tC (.ref (cA X.K C0)))) (h : PEM X Wx e me)
    (hp : ∀ {ta : TA}, PA X [e, ce] ta → PE X (.Call (.Name "isinstance" p) [e, ce] [] pos) (tCB (rIsi X.K) ta)) (hs : starEach [e, ce] X.env = (false, eval e X.env) :: starEach [ce] X.env := by rfl) (hs2 : starEach [ce] X.env = (false, eval ce X.env) :: starEach [] X.env := by rfl) :
    PEM X Wx (.Call (.Name "isinstance" p) [e, ce] [] pos) (mUn (dIsC C0 Cs) me) := by
  refine pe_imp (hp (pa_cons h (pa_cons hpe pa_nil hs2) hs)) (isi_imp (.own (cA X.K C0)) fun F H x d z r sub hz => ?_)
  unfold dIsC at hz
  split at hz
  · rename_i t ht
    cases hz
    exact ⟨_, _, dt_b r sub ht, hb t, rfl⟩
  · rename_i C hC'
    split at hz
    · rename_i hm
      subst hm
      cases hz
      refine ⟨_, true, dt_c r sub hC' k0, ?_, rfl⟩
      unfold PySem.W.kitOne
      rw [if_pos (by simp)]
    · split at hz
      · rename_i hm
        cases hz
        obtain ⟨k, q⟩ := hC C hm
        exact ⟨_, _, dt_c r sub hC' k, q, rfl⟩
      · cases hz
  · cases hz
end
/-! ### how many turns are enough -/
def intAt (ρ : List S) (i : Nat) : Nat := match ρ[i]? with
  | some (.dat (.int j)) => j.natAbs
  | _ => 0
def gcdFuel (ρ : List S) (i : Nat) : Nat := intAt ρ i + 2
end L3
set_option Elab.async false
set_option linter.all false
set_option maxRecDepth 100000
set_option maxHeartbeats 4000000
namespace L3
open PySem PySem.Spec PyProof.Rows L2 PySem.W

section
variable {prog : Program} {w : World} {A : Around} {E : Value → Shared → Prop} {s : Shared} {K : Frag} {x C f fr : Addr} {ox : Obj} {od : Option Obj} {op : Operator} {sym nm : String}
theorem slotPy {M : Model} {h : Heap} (X : K.In h) (hs : findIn K (.ref C) (PySem.dunder nm) = some (some (.ref f))) (hr : findIn K (.ref C) (dunderR nm) = some (some (.ref fr))) : Looks M h (numberSlotInPython (.ref C) nm) true := by
  intro A Q E s k q
  unfold numberSlotInPython
  refine wpAny_bind (looks_findIn X hs A _ E s k ?_)
  refine wpAny_bind (wpAny_pure ?_)
  refine wpAny_bind (looks_findIn X hr A _ E s k ?_)
  refine wpAny_bind (wpAny_pure ?_)
  exact wpAny_pure q
/-- what comes back from an own method is no NotImplemented -/
def Back (Q : Value → Shared → Prop) : Value → Shared → Prop := fun v s' => v ≠ .notImplemented ∧ Q v s'
theorem try_fn {name : Str} {b : Value} {Q : Option Value → Shared → Prop} (X : K.In s.heap) (I : InstAt s.heap x ox C od) (hs : findIn K (.ref C) name = some (some (.ref f))) (hf : isFn K (.ref f) = true)
    (h : wpAny (model prog w) A (PySem.call (.ref f) [.ref x, b]) (fun v s' => v ≠ .notImplemented ∧ Q (some v) s') E s) : wpAny (model prog w) A (tryMethod (.ref x) name b) Q E s := by
  unfold tryMethod
  refine wpAny_bind (special_fn X I hs (beq_iff_eq.mp hf) (wpAny_mono h (fun v s' hv => ?_) fun _ _ e => e))
  obtain ⟨hn, hq⟩ := hv
  cases v <;> first | exact absurd rfl hn | exact wpAny_pure hq
/-- a op b, a an instance, b of a built-in type -/
theorem bin_left {b : Value} {T : String} {rb : Bool} {tk : Option Value} {Q : Value → Shared → Prop} (hi : op.info = (sym, nm)) (X : K.In s.heap) (I : InstAt s.heap x ox C od) (hc : selfFirst K C = true)
    (hs : findIn K (.ref C) (PySem.dunder nm) = some (some (.ref f))) (hr : findIn K (.ref C) (dunderR nm) = some (some (.ref fr))) (hf : isFn K (.ref f) = true)
    (hb : Looks (model prog w) s.heap (typeOf b) (.type T)) (hfill : fillsNumberSlot (.type T) nm = pure rb) (hsub : Looks (model prog w) s.heap (isSubtype (.type T) (.ref C)) false) (hl : typeLookup (.type T) (dunderR nm) = pure tk)
    (h : wpAny (model prog w) A (PySem.call (.ref f) [.ref x, b]) (Back Q) E s) : wpAny (model prog w) A (binaryOp op (.ref x) b) Q E s := by
  obtain ⟨cd, hcd, hm⟩ := any_some hc
  obtain ⟨rest, hm⟩ : ∃ rest, cd.mro = .ref C :: rest := by
    cases q : cd.mro with
    | nil => rw [q] at hm; cases hm
    | cons a r => rw [q] at hm; exact ⟨r, by rw [List.head?_cons] at hm; cases (beq_iff_eq.mp hm); rfl⟩
  unfold binaryOp
  refine wpAny_holding ?_
  rw [hi]
  refine wpAny_bind ?_
  unfold binaryOp1
  refine wpAny_bind (I.type.here (wpAny_bind (hb.here (wpAny_bind ((fills_K X hcd hm hs).here ?_)))))
  have e1 : ((Value.ref C) == (Value.type T)) = false := rfl
  simp only [e1, Bool.false_eq_true, if_false, hfill]
  refine wpAny_bind (wpAny_pure ?_)
  cases rb with
  | false =>
    simp only [Bool.and_false, Bool.false_eq_true, if_false, Bool.false_and]
    refine wpAny_bind (wpAny_pure ?_)
    simp only [Bool.false_eq_true, if_false]
    refine wpAny_bind (try_fn X I hs hf (wpAny_mono h (fun v s' hv => ⟨hv.1, ?_⟩) fun _ _ e => e))
    exact wpAny_pure (wpAny_pure hv.2)
  | true =>
    simp only [Bool.and_true, if_true]
    refine wpAny_bind (hsub.here ?_)
    simp only [Bool.false_eq_true, if_false, Bool.not_false, Bool.and_true, if_true]
    refine wpAny_bind ((slotPy X hs hr).here ?_)
    simp only [if_true]
    refine wpAny_bind (wpAny_pure ?_)
    simp only [Bool.not_false, if_true, hl]
    refine wpAny_bind (wpAny_pure ?_)
    refine wpAny_bind (try_fn X I hs hf (wpAny_mono h (fun v s' hv => ⟨hv.1, ?_⟩) fun _ _ e => e))
    exact wpAny_pure (wpAny_pure hv.2)
/-- a op b, b an instance, a of a built-in type that declines -/
theorem bin_right {a : Value} {T : String} {lb : Bool} {Q : Value → Shared → Prop} (hi : op.info = (sym, nm)) (X : K.In s.heap) (I : InstAt s.heap x ox C od) (hc : selfFirst K C = true)
    (hs : findIn K (.ref C) (PySem.dunder nm) = some (some (.ref f))) (hr : findIn K (.ref C) (dunderR nm) = some (some (.ref fr))) (hf : isFn K (.ref fr) = true)
    (ha : Looks (model prog w) s.heap (typeOf a) (.type T)) (hfill : fillsNumberSlot (.type T) nm = pure lb) (hsub : Looks (model prog w) s.heap (isSubtype (.ref C) (.type T)) false)
    (htry : lb = true → ∀ Q' : Option Value → Shared → Prop, Q' none s → wpAny (model prog w) A (tryMethod a (PySem.dunder nm) (.ref x)) Q' E s)
    (h : wpAny (model prog w) A (PySem.call (.ref fr) [.ref x, a]) (Back Q) E s) : wpAny (model prog w) A (binaryOp op a (.ref x)) Q E s := by
  obtain ⟨cd, hcd, hm⟩ := any_some hc
  obtain ⟨rest, hm⟩ : ∃ rest, cd.mro = .ref C :: rest := by
    cases q : cd.mro with
    | nil => rw [q] at hm; cases hm
    | cons a r => rw [q] at hm; exact ⟨r, by rw [List.head?_cons] at hm; cases (beq_iff_eq.mp hm); rfl⟩
  unfold binaryOp
  refine wpAny_holding ?_
  rw [hi]
  refine wpAny_bind ?_
  unfold binaryOp1
  refine wpAny_bind (ha.here (wpAny_bind (I.type.here ?_)))
  rw [hfill]
  refine wpAny_bind (wpAny_pure ?_)
  have e1 : ((Value.type T) == (Value.ref C)) = false := rfl
  simp only [e1, Bool.false_eq_true, if_false]
  refine wpAny_bind ((fills_K X hcd hm hs).here ?_)
  have fin : wpAny (model prog w) A (tryMethod (.ref x) (dunderR nm) a) (fun o s' => ∃ v, o = some v ∧ Q v s') E s :=
    try_fn X I hr hf (wpAny_mono h (fun v s' hv => ⟨hv.1, v, rfl, hv.2⟩) fun _ _ e => e)
  cases lb with
  | false =>
    simp only [Bool.false_and, Bool.false_eq_true, if_false, Bool.and_true]
    refine wpAny_bind (wpAny_pure ?_)
    simp only [Bool.false_eq_true, if_false, Bool.not_false, Bool.and_true, if_true]
    refine wpAny_bind (wpAny_mono fin (fun o s' ho => ?_) fun _ _ e => e)
    obtain ⟨v, rfl, hq⟩ := ho
    exact wpAny_bind (wpAny_rule (wpAny_pure (wpAny_pure hq)))
  | true =>
    simp only [Bool.and_true, if_true]
    refine wpAny_bind (hsub.here ?_)
    simp only [Bool.false_eq_true, if_false, Bool.not_false, Bool.and_true, if_true]
    refine wpAny_bind (wpAny_pure ?_)
    simp only [Bool.false_eq_true, if_false]
    refine wpAny_bind (htry rfl _ ?_)
    dsimp only
    refine wpAny_bind (wpAny_mono fin (fun o s' ho => ?_) fun _ _ e => e)
    obtain ⟨v, rfl, hq⟩ := ho
    exact wpAny_bind (wpAny_rule (wpAny_pure (wpAny_pure hq)))
/-- an int's own method declines an instance -/
theorem intBin_try {M : Model} {name : String} {g : Int → Int → Sem Fin} {i : Int} {t : Tok} {dx : Addr} {Q' : Option Value → Shared → Prop} (hx : s.heap.get? x = some (instObj C dx)) (h : Q' none s) :
    wpAny M A (Builtin.Int.intBinary name g false ⟨[.int i t, .ref x], []⟩) (fun fin s' => ∃ v, fin = .done (.ret v) ∧ v = Value.notImplemented ∧ Q' none s') E s := by
  unfold Builtin.Int.intBinary
  refine wpAny_bind (wpAny_of_eq (show slotArgs name 1 ⟨[.int i t, .ref x], []⟩ = pure (.int i t, [.ref x]) from rfl) ?_)
  refine wpAny_bind (wpAny_of_eq (show Builtin.Int.intOfSelf (.int i t) = pure i from rfl) ?_)
  refine wpAny_bind (wpAny_bind (wpAny_load hx ?_))
  refine wpAny_pure ?_
  exact wpAny_bind (wpAny_rule (wpAny_pure ⟨_, rfl, rfl, h⟩))
theorem int_add_call {i : Int} {t : Tok} {dx : Addr} {Q' : Option Value → Shared → Prop} (hx : s.heap.get? x = some (instObj C dx)) (h : Q' none s) : wpAny (model prog w) A (PySem.call (.builtin "int.__add__") [.int i t, .ref x]) (fun v s' => v = .notImplemented ∧ Q' none s') E s := by
  have q : wpAny (model prog w) A.in1 (Builtin.«int.__add__» ⟨[.int i t, .ref x], []⟩) (fun fin s' => ∃ v, fin = .done (.ret v) ∧ v = Value.notImplemented ∧ Q' none s') E s := intBin_try hx h
  exact wpAny_call_entry PySem.F.slot_int_add (typeIs_int s i t) PySem.F.entry_int_add q (PySem.F.args_int_add_2 _ _)
theorem int_add_try {i : Int} {t : Tok} {dx : Addr} (hx : s.heap.get? x = some (instObj C dx)) (Q' : Option Value → Shared → Prop) (h : Q' none s) : wpAny (model prog w) A (tryMethod (.int i t) (PySem.dunder "add") (.ref x)) Q' E s := by
  have q := int_add_call (prog := prog) (w := w) (A := A) (E := E) (i := i) (t := t) (Q' := Q') hx h
  exact wpAny_tryMethod_declines (name := PySem.dunder "add") (id := "int.__add__") (typeIs_int s i t) PySem.F.slot_int_add q
theorem int_sub_call {i : Int} {t : Tok} {dx : Addr} {Q' : Option Value → Shared → Prop} (hx : s.heap.get? x = some (instObj C dx)) (h : Q' none s) : wpAny (model prog w) A (PySem.call (.builtin "int.__sub__") [.int i t, .ref x]) (fun v s' => v = .notImplemented ∧ Q' none s') E s := by
  have q : wpAny (model prog w) A.in1 (Builtin.«int.__sub__» ⟨[.int i t, .ref x], []⟩) (fun fin s' => ∃ v, fin = .done (.ret v) ∧ v = Value.notImplemented ∧ Q' none s') E s := intBin_try hx h
  exact wpAny_call_entry PySem.F.slot_int_sub (typeIs_int s i t) PySem.F.entry_int_sub q (PySem.F.args_int_sub_2 _ _)
theorem int_sub_try {i : Int} {t : Tok} {dx : Addr} (hx : s.heap.get? x = some (instObj C dx)) (Q' : Option Value → Shared → Prop) (h : Q' none s) : wpAny (model prog w) A (tryMethod (.int i t) (PySem.dunder "sub") (.ref x)) Q' E s := by
  have q := int_sub_call (prog := prog) (w := w) (A := A) (E := E) (i := i) (t := t) (Q' := Q') hx h
  exact wpAny_tryMethod_declines (name := PySem.dunder "sub") (id := "int.__sub__") (typeIs_int s i t) PySem.F.slot_int_sub q
theorem int_mul_call {i : Int} {t : Tok} {dx : Addr} {Q' : Option Value → Shared → Prop} (hx : s.heap.get? x = some (instObj C dx)) (h : Q' none s) : wpAny (model prog w) A (PySem.call (.builtin "int.__mul__") [.int i t, .ref x]) (fun v s' => v = .notImplemented ∧ Q' none s') E s := by
  have q : wpAny (model prog w) A.in1 (Builtin.«int.__mul__» ⟨[.int i t, .ref x], []⟩) (fun fin s' => ∃ v, fin = .done (.ret v) ∧ v = Value.notImplemented ∧ Q' none s') E s := intBin_try hx h
  exact wpAny_call_entry PySem.F.slot_int_mul (typeIs_int s i t) PySem.F.entry_int_mul q (PySem.F.args_int_mul_2 _ _)
theorem int_mul_try {i : Int} {t : Tok} {dx : Addr} (hx : s.heap.get? x = some (instObj C dx)) (Q' : Option Value → Shared → Prop) (h : Q' none s) : wpAny (model prog w) A (tryMethod (.int i t) (PySem.dunder "mul") (.ref x)) Q' E s := by
  have q := int_mul_call (prog := prog) (w := w) (A := A) (E := E) (i := i) (t := t) (Q' := Q') hx h
  exact wpAny_tryMethod_declines (name := PySem.dunder "mul") (id := "int.__mul__") (typeIs_int s i t) PySem.F.slot_int_mul q
end
end L3
set_option Elab.async false
set_option linter.all false
set_option maxRecDepth 100000
set_option maxHeartbeats 4000000
namespace L3
open PySem PySem.Spec PyProof.Rows L2

/-! ### operators of own classes -/
section
variable {K : PySem.W.Frag} {c : Ctx} {F F' : Hp} {ρ : List S} {σ : L2.St} {H H' : Hp}
theorem repG_of {vs : List V} {ds : List D} (r : RepL K F vs ds) : RepG K F σ vs (ds.map Ag.d) := by
  induction ds generalizing vs with
  | nil => cases r; exact .nil
  | cons d ds ih => cases r with | cons r1 r2 => exact .d r1 (ih r2)
theorem slots_d : ∀ ds : List D, slotsOf (ds.map Ag.d) = []
  | [] => rfl
  | _ :: ds => slots_d ds
theorem conts_d (ρ : List S) : ∀ ds : List D, contents ρ (ds.map Ag.d) = some (ds.map S.dat)
  | [] => rfl
  | d :: ds => by
    show (match content ρ (.d d), contents ρ (ds.map Ag.d) with
      | some s, some ss => some (s :: ss)
      | _, _ => none) = _
    rw [conts_d ρ ds]
    rfl
theorem wback_d (ρ : List S) : ∀ ds : List D, wback (ds.map Ag.d) (ds.map fun _ => S.dead) ρ = some ρ
  | [] => rfl
  | _ :: ds => wback_d ρ ds
/-- behind a call with data alone -/
theorem W.callD {vs : List V} {ds : List D} {ss' : List S} (w : W K c F ρ σ H) (r : RepL K F vs ds) (ret : Ret K F H vs (ds.map S.dat) F' H' ss') : W K c F' ρ σ H' := by
  refine w.call (dvs := []) (dds := []) (gs := ds.map Ag.d) (ss := ds.map S.dat) (ss' := ds.map fun _ => S.dead) (vs := vs) (repG_of r) (by rw [slots_d]; exact List.nodup_nil) (conts_d ρ ds) ?_ (wback_d ρ ds)
  rw [List.append_nil, List.map_nil, List.append_nil]
  refine ⟨ret.sub, ret.ext, ret.frm, ret.new, ret.dom, fun i o hi => ?_⟩
  rw [List.getElem?_map] at hi
  cases e : ds[i]? with
  | none => rw [e] at hi; cases hi
  | some d => rw [e] at hi; cases hi
theorem argS_d {vs : List V} {ds : List D} (r : RepL K F vs ds) : ArgS K F H vs (ds.map S.dat) := by
  refine ⟨by rw [List.length_map, r.len], fun i s hs => ?_, fun i j o o' a h1 _ _ _ => ?_⟩
  · rw [List.getElem?_map] at hs
    cases e : ds[i]? with
    | none => rw [e] at hs; cases hs
    | some d =>
      rw [e] at hs
      cases hs
      exact r.get' e
  · rw [List.getElem?_map] at h1
    cases e : ds[i]? with
    | none => rw [e] at h1; cases h1
    | some d => rw [e] at h1; cases h1
end
/-- a def called with data that gives data, or raises -/
def callD (g : G) (ds : List D) : M D := fun ρ => match g (ds.map S.dat) with
  | some (.ok (.dat z), _) => some (.ok z, ρ)
  | some (.ex x, _) => some (.ex x, ρ)
  | _ => none
theorem callD_sim {K : PySem.W.Frag} {Wx : WX} {c : Ctx} {F : Hp} {ρ ρ' : List S} {σ : L2.St} {H : Hp} {g : G} {ds : List D} {vs : List V} {r : R D} {P : D → Hp → Hp → Prop} {Q : VK} {n : Nat} (w : W K c F ρ σ H) (rl : RepL K F vs ds) (hn : ds.length = n) (h : callD g ds ρ = some (r, ρ'))
    (post : PostR K Wx c F ρ' σ P r) (hQ : ∀ d F' H' v, Rep K F' v d → P d F' H' → Q v H') : spG K n g vs H Q (fun cls d H' => Wx cls d σ H') := by
  unfold callD at h
  split at h
  · rename_i z ss' hg
    cases h
    exact ⟨by rw [rl.len]; exact hn, F, ds.map S.dat, _, ss', w.sub, argS_d rl, hg, fun F' v H' ret rv => hQ z F' H' v rv (post F' H' ret.ext (w.callD rl ret))⟩
  · rename_i x ss' hg
    cases h
    exact ⟨by rw [rl.len]; exact hn, F, ds.map S.dat, _, ss', w.sub, argS_d rl, hg, fun F' d H' ret rx => post F' d H' ret.ext (w.callD rl ret) rx⟩
  · cases h

/-! binary -/
def opI (C : Addr) (prim : D → D → Option D) (gf gr : G) (x y : D) : M D := match x, y with
  | .ins C' fs, .ins C'' fs' => if C' = C ∧ C'' = C then callD gf [.ins C' fs, .ins C'' fs'] else fun _ => none
  | .ins C' fs, .int j => if C' = C then callD gf [.ins C' fs, .int j] else fun _ => none
  | .int i, .ins C' fs => if C' = C then callD gr [.ins C' fs, .int i] else fun _ => none
  | x, y => M.lift (prim x y)
def mOpI (C : Addr) (prim : D → D → Option D) (gf gr : G) (a b : M D) : M D := a.bind fun x => b.bind fun y => opI C prim gf gr x y
structure BinC (K : PySem.W.Frag) (C : Addr) (nm : String) (f fr : Addr) : Prop where
  first : PySem.W.selfFirst K C = true
  at_ : PySem.W.findIn K (.ref C) (PySem.dunder nm) = some (some (.ref f))
  ref_ : PySem.W.findIn K (.ref C) (dunderR nm) = some (some (.ref fr))
  fn : PySem.W.isFn K (.ref f) = true
  fnr : PySem.W.isFn K (.ref fr) = true
  sub : PySem.W.subIn K (.ref C) (.type "int") = some false
  kit : PySem.W.kitOne K (.type "int") (.ref C) = some false
theorem kit_sub {K : PySem.W.Frag} {M : Model} {h : Heap} {T : String} {C : Addr} (X : K.In h) (e : PySem.W.kitOne K (.type T) (.ref C) = some false) : PySem.W.Looks M h (isSubtype (.type T) (.ref C)) false := by
  unfold PySem.W.kitOne at e
  have e0 : (Value.type T == Value.ref C) = false := rfl
  rw [e0, if_neg Bool.false_ne_true] at e
  exact (PySem.W.kit_cls X e).2.2
def tOpS (r : L2.St → R2) (ta tb : TE) : TE := fun σ H Q => ta σ H fun x H1 => tb σ H1 fun y H2 => r σ x y H2 Q
/-- what an operator with own instances asks: the callee's promise, by the kinds -/
def rOpI (C : Addr) (r0 : R2) (sf sr : Sp) (Wx : WX) : L2.St → R2 := fun σ x y H Q =>
  (∃ a dx fs, x = V.ref a ∧ H a = some (.ins C dx fs) ∧ ((∃ b dx' fs', y = V.ref b ∧ H b = some (.ins C dx' fs')) ∨ ∃ j, y = V.int j) ∧ sf [x, y] H Q (fun cls d H' => Wx cls d σ H')) ∨
  (∃ i b dx fs, x = V.int i ∧ y = V.ref b ∧ H b = some (.ins C dx fs) ∧ sr [y, x] H Q (fun cls d H' => Wx cls d σ H')) ∨ r0 x y H Q
section
variable {X : Cx} {Wx : WX} {C f fr : Addr} {fd fdr : FuncData} {ps psr : List Str} {k k' : Nat} {a b : Expr} {ma mb : M D} {pos : Pos} {nm sym : String} {op : Operator} {r0 : R2} {sf sr : Sp}
theorem ep_back {pins : List (Addr × Obj)} {σ : L2.St} {Q : VK} {v : Value} {s : Shared} (h : EP X pins σ Q v s) : v ≠ .notImplemented ∧ EP X pins σ Q v s := by
  refine ⟨fun z => ?_, h⟩
  obtain ⟨x, _, _, r, _⟩ := h
  subst z
  cases x with
  | non => cases r
  | bl b => cases r
  | int i => obtain ⟨_, r⟩ := r; cases r
  | str i => obtain ⟨_, r⟩ := r; cases r
  | byt i => obtain ⟨_, r⟩ := r; cases r
  | flt i => obtain ⟨_, r⟩ := r; cases r
  | ref a => cases r
  | ty n => cases r
theorem op_own (hi : op.info = (sym, nm)) (B : BinC X.K C nm f fr) (Fn : FnG X.prog X.w X.K X.mg X.base k f fd ps sf) (Fr_ : FnG X.prog X.w X.K X.mg X.base k' fr fdr psr sr) (hG : X.A.guards = some []) (hr : Room k X.A) (hr' : Room k' X.A) (hb : Binds X.K fd ps []) (hb' : Binds X.K fdr psr []) (tk : Takes X Wx)
    (htry : ∀ (A : Around) (E : Value → Shared → Prop) (s : Shared) (x dx : Addr) (i : Int) (t : Tok), s.heap.get? x = some (PySem.W.instObj C dx) → ∀ Q' : Option Value → Shared → Prop, Q' none s → wpAny (model X.prog X.w) A (tryMethod (.int i t) (PySem.dunder nm) (.ref x)) Q' E s)
    (hfi : fillsNumberSlot (.type "int") nm = pure true) {tkk : Option Value} (hli : typeLookup (.type "int") (dunderR nm) = pure tkk) (h0 : OpR X (binaryOp op) r0) {ta tb : TE} (ha : PE X a ta) (hb2 : PE X b tb) : PE X (.BinOp a op b pos) (tOpS (rOpI C r0 sf sr Wx) ta tb) := by
  constructor
  intro pins s σ H Q I h
  apply wpAny_BinOp
  refine binT ha hb2 I h fun v u s2 x y H2 I2 rx ry q => ?_
  have KX := I2.kIn
  rcases q with ⟨p, dx, fs, rfl, hp, hy, q⟩ | ⟨i, p, dx, fs, rfl, rfl, hp, q⟩ | q
  · obtain rfl : v = Value.ref p := rx
    obtain ⟨mA, O, _, _, _, _⟩ := ins_get I2.hok hp
    obtain ⟨od, J, _⟩ := O.look
    have cl := run_fng (vs := [V.ref p, y]) (us := [.ref p, u]) (dvs := []) (ds := []) Fn hG hr hb .nil tk I2 (.cons rfl (.cons ry .nil)) q
    have cl2 := wpAny_mono cl (fun v s' hv => ep_back hv) fun _ _ e => e
    rcases hy with ⟨p', dx', fs', rfl, hp'⟩ | ⟨j, rfl⟩
    · obtain rfl : u = Value.ref p' := ry
      obtain ⟨mA', O', _, _, _, _⟩ := ins_get I2.hok hp'
      obtain ⟨od', J', _⟩ := O'.look
      obtain ⟨m, F⟩ := I2.fr
      refine PySem.W.binop_K F I2.ok.mod.kin J J'.type B.first (by rw [hi]; exact B.at_) B.fn (wpAny_mono cl2 (fun v s' hv => ?_) fun _ _ e => e)
      obtain ⟨hn, hv⟩ := hv
      cases v <;> first | exact absurd rfl hn | exact hv
    · obtain ⟨t, rfl⟩ := ry
      exact bin_left hi KX J B.first B.at_ B.ref_ B.fn (PySem.W.Looks.of_pure rfl) hfi (kit_sub KX B.kit) hli cl2
  · obtain ⟨t, rfl⟩ := rx
    obtain rfl : u = Value.ref p := ry
    obtain ⟨mA, O, _, _, _, _⟩ := ins_get I2.hok hp
    obtain ⟨od, J, _⟩ := O.look
    have cl := run_fng (vs := [V.ref p, V.int i]) (us := [.ref p, .int i t]) (dvs := []) (ds := []) Fr_ hG hr' hb' .nil tk I2 (.cons rfl (.cons ⟨t, rfl⟩ .nil)) q
    have cl2 := wpAny_mono cl (fun v s' hv => ep_back hv) fun _ _ e => e
    obtain ⟨_, _, _, hget, _⟩ := (show ObjOk X.prog X.w H2 s2.heap p (.ins C dx fs) from I2.hok p _ hp)
    exact bin_right hi KX J B.first B.at_ B.ref_ B.fnr (PySem.W.Looks.of_pure rfl) hfi (PySem.W.looks_subIn KX B.sub) (fun _ Q' hq => htry _ _ _ p dx i t hget Q' hq) cl2
  · exact h0 pins s2 σ H2 x y v u Q I2 rx ry q
theorem opI_imp {K : PySem.W.Frag} {g : D → D → Option D} {gf gr : G} (hs : Op2 K r0 g) (σ : L2.St) (H : Hp) (Q : VK) (h : tE K Wx (mOpI C g gf gr ma mb) σ H Q) : tOpS (rOpI (cA K C) r0 (spG K 2 gf) (spG K 2 gr) Wx) (tE K Wx ma) (tE K Wx mb) σ H Q := by
  obtain ⟨c, F, ρ, rr, ρ', w, hm, post⟩ := h
  rcases bind_inv hm with ⟨x, ρ1, h1, h2⟩ | ⟨x, h1, rfl⟩
  · refine ⟨c, F, ρ, .ok x, ρ1, w, h1, fun F1 H1 e1 w1 v1 r1 => ?_⟩
    rcases bind_inv h2 with ⟨y, ρ2, h3, h4⟩ | ⟨x, h3, rfl⟩
    · refine ⟨c, F1, ρ1, .ok y, ρ2, w1, h3, fun F2 H2 e2 w2 v2 r2 => ?_⟩
      have r1' := r1.mono e2
      have post2 := post.mono (e1.trans e2)
      have prim : M.lift (g x y) ρ2 = some (rr, ρ') → rOpI (cA K C) r0 (spG K 2 gf) (spG K 2 gr) Wx σ v1 v2 H2 Q := fun h5 => by
        obtain ⟨z, hz, rfl, rfl⟩ := lift_inv h5
        exact .inr (.inr (hs F2 H2 v1 v2 x y z Q r1' r2 w2.sub hz fun F3 v H3 g r3 => post2 F3 H3 g.1 (g.2 _ _ _ w2) v r3))
      unfold opI at h4
      split at h4
      · rename_i C' fs C'' fs'
        split at h4
        · rename_i hc
          obtain ⟨rfl, rfl⟩ := hc
          have q := callD_sim (n := 2) (Q := Q) w2 (.cons r1' (.cons r2 .nil)) rfl h4 post2 fun d F' H' v rv p => p v rv
          cases r1' with
          | ins ha hra =>
            cases r2 with
            | ins hb hrb => exact .inl ⟨_, _, _, rfl, w2.sub _ _ ha, .inl ⟨_, _, _, rfl, w2.sub _ _ hb⟩, q⟩
        · cases h4
      · rename_i C' fs j
        split at h4
        · rename_i hc
          subst hc
          have q := callD_sim (n := 2) (Q := Q) w2 (.cons r1' (.cons r2 .nil)) rfl h4 post2 fun d F' H' v rv p => p v rv
          cases r1' with
          | ins ha hra =>
            cases r2
            exact .inl ⟨_, _, _, rfl, w2.sub _ _ ha, .inr ⟨_, rfl⟩, q⟩
        · cases h4
      · rename_i i C' fs
        split at h4
        · rename_i hc
          subst hc
          have q := callD_sim (n := 2) (Q := Q) w2 (.cons r2 (.cons r1' .nil)) rfl h4 post2 fun d F' H' v rv p => p v rv
          cases r2 with
          | ins ha hra =>
            cases r1'
            exact .inr (.inl ⟨_, _, _, _, rfl, rfl, w2.sub _ _ ha, q⟩)
        · cases h4
      · exact prim h4
    · exact ⟨c, F1, ρ1, .ex x, ρ', w1, h3, PostX.mono e1 post⟩
  · exact ⟨c, F, ρ, .ex x, ρ', w, h1, post⟩
theorem pem_opI {g : D → D → Option D} {gf gr : G} (hp : ∀ {ta tb : TE}, PE X a ta → PE X b tb → PE X (.BinOp a op b pos) (tOpS (rOpI (cA X.K C) r0 (spG X.K 2 gf) (spG X.K 2 gr) Wx) ta tb)) (hs : Op2 X.K r0 g) (ha : PEM X Wx a ma) (hb : PEM X Wx b mb) : PEM X Wx (.BinOp a op b pos) (mOpI C g gf gr ma mb) :=
  pe_imp (hp ha hb) (opI_imp hs)
end
theorem info_add : (Operator.Add).info = ("+", "add") := rfl
theorem info_sub : (Operator.Sub).info = ("-", "sub") := rfl
theorem info_mul : (Operator.Mult).info = ("*", "mul") := rfl
theorem look_radd : typeLookup (.type "int") (dunderR "add") = pure (some (.builtin "int.__radd__")) := by rw [typeLookup_type, builtinLookup_eq_fast]; kernel_rfl
theorem look_rsub : typeLookup (.type "int") (dunderR "sub") = pure (some (.builtin "int.__rsub__")) := by rw [typeLookup_type, builtinLookup_eq_fast]; kernel_rfl
theorem look_rmul : typeLookup (.type "int") (dunderR "mul") = pure (some (.builtin "int.__rmul__")) := by rw [typeLookup_type, builtinLookup_eq_fast]; kernel_rfl
end L3
set_option Elab.async false
set_option linter.all false
set_option maxRecDepth 100000
set_option maxHeartbeats 4000000
namespace L3
open PySem PySem.Spec PyProof.Rows L2

section
variable {X : Cx} {Wx : WX} {k : Nat} {f C : Addr} {fd : FuncData} {ps : List Str} {sp : Sp}
/-- a def that runs within built-ins -/
theorem run_at {A' : Around} {pins : List (Addr × Obj)} {σ : L2.St} {H : Hp} {s : Shared} {Q : VK} {us : List Value} {vs : List V} (Fn : FnG X.prog X.w X.K X.mg X.base k f fd ps sp) (hG : A'.guards = some []) (hr : Room k A') (e0 : Env0 X.prog X.w X.K X.mg X.base A' X.stack s H)
    (hb : Binds X.K fd ps []) (tk : Takes X Wx) (I : Inv X pins σ H s) (rv : Vals vs us) (h : sp vs H Q (fun cls d H' => Wx cls d σ H')) :
    wpAny (model X.prog X.w) A' (PySem.call (.ref f) us) (EP X pins σ Q) X.xe s := by
  have hl : (us ++ []).length = ps.length := by rw [List.append_nil]; exact rv.length.symm.trans (Fn.len _ _ _ _ h)
  apply wpAny_call
  have b := hb s us I.kIn hl
  rw [List.append_nil] at b
  apply codeAny_mono (Fn.run A' X.stack s H ⟨us, []⟩ us vs Q _ hG hr e0 b rv h)
  intro r s' hq
  match r, hq with
  | .error e, hq => exact passAt tk σ pins H s e s' I hq
  | .ok (.ret u), hq => exact I.after hq
  | .ok .next, hq => exact False.elim hq
  | .ok .brk, hq => exact False.elim hq
  | .ok .cont, hq => exact False.elim hq
end
def tUnS (r : L2.St → V → Hp → VK → Prop) (ta : TE) : TE := fun σ H Q => ta σ H fun x H1 => r σ x H1 Q
def rUnI (C : Addr) (r0 : V → Hp → VK → Prop) (sf : Sp) (Wx : WX) : L2.St → V → Hp → VK → Prop := fun σ x H Q =>
  (∃ a dx fs, x = V.ref a ∧ H a = some (.ins C dx fs) ∧ sf [x] H Q (fun cls d H' => Wx cls d σ H')) ∨ r0 x H Q
def unI (C : Addr) (prim : D → Option D) (g : G) (x : D) : M D := match x with
  | .ins C' fs => if C' = C then callD g [.ins C' fs] else fun _ => none
  | x => M.lift (prim x)
def mUnI (C : Addr) (prim : D → Option D) (g : G) (a : M D) : M D := a.bind fun x => unI C prim g x
section
variable {X : Cx} {Wx : WX} {C f : Addr} {fd : FuncData} {ps : List Str} {k : Nat} {a e : Expr} {ma : M D} {pos p : Pos} {sf : Sp}
theorem unI_imp {K : PySem.W.Frag} {r0 : V → Hp → VK → Prop} {g0 : D → Option D} {g : G} (hs : Op1 K r0 g0) (σ : L2.St) (H : Hp) (Q : VK) (h : tE K Wx (mUnI C g0 g ma) σ H Q) : tUnS (rUnI (cA K C) r0 (spG K 1 g) Wx) (tE K Wx ma) σ H Q := by
  obtain ⟨c, F, ρ, rr, ρ', w, hm, post⟩ := h
  rcases bind_inv hm with ⟨x, ρ1, h1, h2⟩ | ⟨x, h1, rfl⟩
  · refine ⟨c, F, ρ, .ok x, ρ1, w, h1, fun F1 H1 e1 w1 v1 r1 => ?_⟩
    have post2 := post.mono e1
    unfold unI at h2
    split at h2
    · rename_i C' fs
      split at h2
      · rename_i hc
        subst hc
        have q := callD_sim (n := 1) (Q := Q) w1 (.cons r1 .nil) rfl h2 post2 fun d F' H' v rv p => p v rv
        cases r1 with
        | ins ha hra => exact .inl ⟨_, _, _, rfl, w1.sub _ _ ha, q⟩
      · cases h2
    · obtain ⟨z, hz, rfl, rfl⟩ := lift_inv h2
      exact .inr (hs F1 H1 v1 _ z Q r1 w1.sub hz fun F3 v H3 g r3 => post2 F3 H3 g.1 (g.2 _ _ _ w1) v r3)
  · exact ⟨c, F, ρ, .ex x, ρ', w, h1, post⟩
/-- -x -/
theorem pe_negI {r0 : V → Hp → VK → Prop} (h0 : UnR X (unaryOp .USub) r0) (hs : PySem.W.findIn X.K (.ref C) "__neg__" = some (some (.ref f))) (hf : PySem.W.isFn X.K (.ref f) = true) (Fn : FnG X.prog X.w X.K X.mg X.base k f fd ps sf) (hG : X.A.guards = some []) (hr : Room k X.A) (hb : Binds X.K fd ps []) (tk : Takes X Wx)
    {ta : TE} (ha : PE X a ta) : PE X (.UnaryOp .USub a pos) (tUnS (rUnI C r0 sf Wx) ta) := by
  constructor
  intro pins s σ H Q I h
  apply UnaryOp_
  refine thn (ha.run pins s σ H _ I h) ?_
  intro v s1 hh
  obtain ⟨x, H1, I1, r1, q1⟩ := hh
  rcases q1 with ⟨p, dx, fs, rfl, hp, q⟩ | q
  · obtain rfl : v = Value.ref p := r1
    obtain ⟨mA, O, _, _, _, _⟩ := ins_get I1.hok hp
    obtain ⟨od, J, _⟩ := O.look
    obtain ⟨m, F⟩ := I1.fr
    exact PySem.W.ksp_neg F I1.ok.mod.kin J hs hf (run_at (vs := [V.ref p]) Fn hG hr I1.env0 hb tk I1 (.cons rfl .nil) q)
  · exact h0 pins s1 σ H1 x v Q I1 r1 q
theorem pem_negI {g0 : D → Option D} {g : G} {r0 : V → Hp → VK → Prop} (hp : ∀ {ta : TE}, PE X a ta → PE X e (tUnS (rUnI (cA X.K C) r0 (spG X.K 1 g) Wx) ta)) (hs : Op1 X.K r0 g0) (ha : PEM X Wx a ma) : PEM X Wx e (mUnI C g0 g ma) :=
  pe_imp (hp ha) (unI_imp hs)
/-- abs(x), str(x): a call of a built-in with one argument -/
def rCallI (C : Addr) (r0 : List V → Hp → VK → Prop) (sf : Sp) (Wx : WX) : L2.St → List V → Hp → VK → Prop := fun σ xs H Q =>
  (∃ a dx fs, xs = [V.ref a] ∧ H a = some (.ins C dx fs) ∧ sf xs H Q (fun cls d H' => Wx cls d σ H')) ∨ r0 xs H Q
def tCBS (r : L2.St → List V → Hp → VK → Prop) (t : TA) : TE := fun σ H Q => t σ H fun vs H1 => r σ vs H1 Q
theorem abs_K {prog : Program} {w : World} {A : Around} {E : Value → Shared → Prop} {s : Shared} {K : PySem.W.Frag} {x : Addr} {ox : Obj} {od : Option Obj} {Q : Value → Shared → Prop} (KX : K.In s.heap) (I : PySem.W.InstAt s.heap x ox C od) (hs : PySem.W.findIn K (.ref C) "__abs__" = some (some (.ref f))) (hf : PySem.W.isFn K (.ref f) = true)
    (h : wpAny (model prog w) A.in1 (PySem.call (.ref f) [.ref x]) Q E s) : wpAny (model prog w) A (PySem.call (.builtin "abs") [.ref x]) Q E s := by
  refine PySem.Calls.call_function_entry kind_abs plain_abs entry_abs (args_abs _) ?_
  unfold Builtin.«abs»
  refine wpAny_bind (m := oneArg "abs" _) (wpAny_pure ?_)
  refine wpAny_bind (m := callSpecial? (.ref x) (Str.ofString "__abs__")) (PySem.W.special_fn KX I hs (beq_iff_eq.mp hf) (wpAny_mono h (fun v s' z => ?_) fun _ _ z => z))
  exact wpAny_pure ⟨_, rfl, z⟩
def CallS (X : Cx) (f : Value) (r : L2.St → List V → Hp → VK → Prop) : Prop :=
  ∀ (pins : List (Addr × Obj)) (s : Shared) (σ : L2.St) (H : Hp) (xs : List V) (us : List Value) (Q : VK), Inv X pins σ H s → Vals xs us → r σ xs H Q → wpAny (model X.prog X.w) X.A (PySem.call f us) (EP X pins σ Q) X.xe s
theorem pe_cbS {id : String} {es : List Expr} {x : Str} {r : L2.St → List V → Hp → VK → Prop} {t : TA} (hc : CallS X (.builtin id) r) (hg : Gl X x) (hm : X.mg x = none) (hv : bootBuiltins x = some (.builtin id)) (ha : PA X (a :: es) t) (hn : x ≠ "__name__" := by decide) (hdb : (x == ("__debug__" : Str)) = false := by decide)
    (he : starEach (a :: es) X.env = (false, eval a X.env) :: starEach es X.env := by rfl) (hpl : (backTo pos (starEach es X.env)).any (·.1) = false := by rfl) : PE X (.Call (.Name x p) (a :: es) [] pos) (tCBS r t) := by
  constructor
  intro pins s σ H Q I h
  apply wpAny_Call_Name_kw
  apply ld_blt I hg hm hv (hn := hn) (hd := hdb)
  refine PyProof.Rows.callWith_builtin1 (thn (ha.run pos pins s σ H _ I h) ?_) he hpl
  intro us s1 hh
  obtain ⟨vs, H1, I1, r1, q1⟩ := hh
  exact hc pins s1 σ H1 vs us Q I1 r1 q1
theorem pe_ctS {T : String} {es : List Expr} {x : Str} {r : L2.St → List V → Hp → VK → Prop} {t : TA} (hc : CallS X (.type T) r) (hg : Gl X x) (hm : X.mg x = none) (hv : bootBuiltins x = some (.type T)) (ha : PA X (a :: es) t) (hn : x ≠ "__name__" := by decide) (hdb : (x == ("__debug__" : Str)) = false := by decide)
    (he : starEach (a :: es) X.env = (false, eval a X.env) :: starEach es X.env := by rfl) (hpl : (backTo pos (starEach es X.env)).any (·.1) = false := by rfl) : PE X (.Call (.Name x p) (a :: es) [] pos) (tCBS r t) := by
  constructor
  intro pins s σ H Q I h
  apply wpAny_Call_Name_kw
  apply ld_blt I hg hm hv (hn := hn) (hd := hdb)
  refine PyProof.Rows.callWith_type1 (thn (ha.run pos pins s σ H _ I h) ?_) he hpl
  intro us s1 hh
  obtain ⟨vs, H1, I1, r1, q1⟩ := hh
  exact hc pins s1 σ H1 vs us Q I1 r1 q1
theorem call_absI {r0 : List V → Hp → VK → Prop} (h0 : CallR X (.builtin "abs") r0) (hs : PySem.W.findIn X.K (.ref C) "__abs__" = some (some (.ref f))) (hf : PySem.W.isFn X.K (.ref f) = true) (Fn : FnG X.prog X.w X.K X.mg X.base k f fd ps sf) (hG : X.A.guards = some []) (hr : Room (k + 1) X.A) (hb : Binds X.K fd ps []) (tk : Takes X Wx) :
    CallS X (.builtin "abs") (rCallI C r0 sf Wx) := by
  intro pins s σ H xs us Q I r h
  rcases h with ⟨p, dx, fs, rfl, hp, q⟩ | q
  · obtain ⟨u, rfl, rx⟩ := vals1 r
    obtain rfl : u = Value.ref p := rx
    obtain ⟨mA, O, _, _, _, _⟩ := ins_get I.hok hp
    obtain ⟨od, J, _⟩ := O.look
    exact abs_K I.kIn J hs hf (run_at (vs := [V.ref p]) Fn hG hr.in1 I.env0.in1 hb tk I (.cons rfl .nil) q)
  · exact h0 pins s σ H xs us Q I r q
/-- (what comes back from __str__ is a text) -/
def rCallT (C : Addr) (r0 : List V → Hp → VK → Prop) (sf : Sp) (Wx : WX) : L2.St → List V → Hp → VK → Prop := fun σ xs H Q =>
  (∃ a dx fs, xs = [V.ref a] ∧ H a = some (.ins C dx fs) ∧ sf xs H (fun v H' => (∃ x, v = V.str x) ∧ Q v H') (fun cls d H' => Wx cls d σ H')) ∨ r0 xs H Q
theorem call_strI {r0 : List V → Hp → VK → Prop} (h0 : CallR X (.type "str") r0) (hs : PySem.W.findIn X.K (.ref C) "__str__" = some (some (.ref f))) (hf : PySem.W.isFn X.K (.ref f) = true) (Fn : FnG X.prog X.w X.K X.mg X.base k f fd ps sf) (hG : X.A.guards = some []) (hr : Room (k + 2) X.A) (hb : Binds X.K fd ps []) (tk : Takes X Wx) :
    CallS X (.type "str") (rCallT C r0 sf Wx) := by
  intro pins s σ H xs us Q I r h
  rcases h with ⟨p, dx, fs, rfl, hp, q⟩ | q
  · obtain ⟨u, rfl, rx⟩ := vals1 r
    obtain rfl : u = Value.ref p := rx
    obtain ⟨mA, O, _, _, _, _⟩ := ins_get I.hok hp
    obtain ⟨od, J, _⟩ := O.look
    refine PySem.W.kso_call hr.in1.in1.units0 I.kIn J hs hf (wpAny_mono (run_at (vs := [V.ref p]) Fn hG hr.in1.in1 I.env0.in1.in1 hb tk I (.cons rfl .nil) q) (fun v s' hv => ?_) fun _ _ e => e)
    obtain ⟨z, H', I', rz, ⟨x, rfl⟩, hq⟩ := hv
    obtain ⟨t, rfl⟩ := rz
    exact ⟨.str x, H', I', ⟨t, rfl⟩, hq⟩
  · exact h0 pins s σ H xs us Q I r q
def unL (C : Addr) (prim : List D → Option D) (g : G) (xs : List D) : M D := match xs with
  | [.ins C' fs] => if C' = C then callD g [.ins C' fs] else fun _ => none
  | xs => M.lift (prim xs)
def mCBI (C : Addr) (prim : List D → Option D) (g : G) (as : List (M D)) : M D := (mArgs as).bind fun xs => unL C prim g xs
theorem absI_imp {K : PySem.W.Frag} {r0 : List V → Hp → VK → Prop} {g0 : List D → Option D} {g : G} {ms : List (M D)} (hs : OpN K r0 g0) (σ : L2.St) (H : Hp) (Q : VK) (h : tE K Wx (mCBI C g0 g ms) σ H Q) : tCBS (rCallI (cA K C) r0 (spG K 1 g) Wx) (tA K Wx (mArgs ms)) σ H Q := by
  obtain ⟨c, F, ρ, rr, ρ', w, hm, post⟩ := h
  rcases bind_inv hm with ⟨xs, ρ1, h1, h2⟩ | ⟨x, h1, rfl⟩
  · refine ⟨c, F, ρ, .ok xs, ρ1, w, h1, fun F1 H1 e1 w1 vs r1 => ?_⟩
    have post2 := post.mono e1
    unfold unL at h2
    split at h2
    · rename_i C' fs
      split at h2
      · rename_i hc
        subst hc
        have q := callD_sim (n := 1) (Q := Q) w1 r1 rfl h2 post2 fun d F' H' v rv p => p v rv
        obtain ⟨v, rfl, rv⟩ := one r1
        cases rv with
        | ins ha hra => exact .inl ⟨_, _, _, rfl, w1.sub _ _ ha, q⟩
      · cases h2
    · obtain ⟨z, hz, rfl, rfl⟩ := lift_inv h2
      exact .inr (hs F1 H1 vs _ z Q r1 w1.sub hz fun F3 v H3 g r3 => post2 F3 H3 g.1 (g.2 _ _ _ w1) v r3)
  · exact ⟨c, F, ρ, .ex x, ρ', w, h1, post⟩
def callT (g : G) (ds : List D) : M D := (callD g ds).bind fun z => match z with
  | .str x => M.pure (.str x)
  | _ => fun _ => none
def unT (C : Addr) (prim : List D → Option D) (g : G) (xs : List D) : M D := match xs with
  | [.ins C' fs] => if C' = C then callT g [.ins C' fs] else fun _ => none
  | xs => M.lift (prim xs)
def mStrI (C : Addr) (prim : List D → Option D) (g : G) (as : List (M D)) : M D := (mArgs as).bind fun xs => unT C prim g xs
theorem strI_imp {K : PySem.W.Frag} {r0 : List V → Hp → VK → Prop} {g0 : List D → Option D} {g : G} {ms : List (M D)} (hs : OpN K r0 g0) (σ : L2.St) (H : Hp) (Q : VK) (h : tE K Wx (mStrI C g0 g ms) σ H Q) : tCBS (rCallT (cA K C) r0 (spG K 1 g) Wx) (tA K Wx (mArgs ms)) σ H Q := by
  obtain ⟨c, F, ρ, rr, ρ', w, hm, post⟩ := h
  rcases bind_inv hm with ⟨xs, ρ1, h1, h2⟩ | ⟨x, h1, rfl⟩
  · refine ⟨c, F, ρ, .ok xs, ρ1, w, h1, fun F1 H1 e1 w1 vs r1 => ?_⟩
    have post2 := post.mono e1
    unfold unT at h2
    split at h2
    · rename_i C' fs
      split at h2
      · rename_i hc
        subst hc
        have q : spG K 1 g vs H1 (fun v H' => (∃ x, v = V.str x) ∧ Q v H') (fun cls d H' => Wx cls d σ H') := by
          rcases bind_inv h2 with ⟨z, ρ2, h3, h4⟩ | ⟨x, h3, rfl⟩
          · cases z <;> try (cases h4; done)
            cases h4
            rename_i x
            exact callD_sim (n := 1) (P := fun d F' H' => d = .str x ∧ ∀ v, Rep K F' v (.str x) → Q v H') w1 r1 rfl h3 (fun F' H' e' w' => ⟨rfl, post2 F' H' e' w'⟩) fun d F' H' v rv p => by
              obtain ⟨rfl, p⟩ := p
              have p2 := p v rv
              cases rv
              exact ⟨⟨_, rfl⟩, p2⟩
          · exact callD_sim (n := 1) (P := fun _ _ _ => False) w1 r1 rfl h3 post2 fun d F' H' v rv p => p.elim
        obtain ⟨v, rfl, rv⟩ := one r1
        cases rv with
        | ins ha hra => exact .inl ⟨_, _, _, rfl, w1.sub _ _ ha, q⟩
      · cases h2
    · obtain ⟨z, hz, rfl, rfl⟩ := lift_inv h2
      exact .inr (hs F1 H1 vs _ z Q r1 w1.sub hz fun F3 v H3 g r3 => post2 F3 H3 g.1 (g.2 _ _ _ w1) v r3)
  · exact ⟨c, F, ρ, .ex x, ρ', w, h1, post⟩
theorem pem_absI {es : List Expr} {g0 : List D → Option D} {g : G} {r0 : List V → Hp → VK → Prop} {ms : List (M D)} (hp : ∀ {t : TA}, PA X es t → PE X e (tCBS (rCallI (cA X.K C) r0 (spG X.K 1 g) Wx) t)) (hs : OpN X.K r0 g0) (ha : PAM X Wx es (mArgs ms)) : PEM X Wx e (mCBI C g0 g ms) :=
  pe_imp (hp ha) (absI_imp hs)
theorem pem_strI {es : List Expr} {g0 : List D → Option D} {g : G} {r0 : List V → Hp → VK → Prop} {ms : List (M D)} (hp : ∀ {t : TA}, PA X es t → PE X e (tCBS (rCallT (cA X.K C) r0 (spG X.K 1 g) Wx) t)) (hs : OpN X.K r0 g0) (ha : PAM X Wx es (mArgs ms)) : PEM X Wx e (mStrI C g0 g ms) :=
  pe_imp (hp ha) (strI_imp hs)

/-! ### repr of data -/
def reprOk (p : PyData) : Bool := p.showable && !p.hasDict && decide (p.depth ≤ 60) && decide (p.shown.length ≤ 1000000)
def dRepr : List D → Option D
  | [d] => match d.py with
    | some p => if reprOk p = true then some (.str p.shown) else none
    | none => none
  | _ => none
def rRepr (K : PySem.W.Frag) : List V → Hp → VK → Prop := fun xs H Q => ∃ v p, xs = [v] ∧ Dp K H v p ∧ reprOk p = true ∧ Q (.str p.shown) H
theorem call_reprD (hG : X.A.guards = some []) (hu : X.A.units + 64 < cLine) : CallR X (.builtin "repr") (rRepr X.K) := by
  intro pins s σ H xs us Q I r h
  obtain ⟨v, p, rfl, hd, hok, q⟩ := h
  obtain ⟨u, rfl, rx⟩ := vals1 r
  unfold reprOk at hok
  simp only [Bool.and_eq_true, decide_eq_true_eq, Bool.not_eq_true'] at hok
  obtain ⟨⟨⟨h1, h2⟩, h3⟩, h4⟩ := hok
  have hz : p.shown.length ≤ sizeLine := mil h4
  obtain ⟨as, hr⟩ := Dp.reads I p v u hd rx
  have fin : ∀ {h' : Heap} {t : Tok} {tk : Nat}, (∀ b o, s.heap.get? b = some o → h'.get? b = some o) → EP X pins σ Q (.str p.shown t) { s with heap := h', toks := tk } := fun k => ⟨.str p.shown, H, I.kept k, ⟨_, rfl⟩, q⟩
  have refs : ∀ {a : Addr}, u = .ref a → wpAny (model X.prog X.w) X.A (PySem.call (.builtin "repr") [u]) (EP X pins σ Q) X.xe s := fun {a} e => by
    subst e
    exact repr_of_reads' hr h1 (PySem.PyData.noDict_hsm h2) hG (by omega) (fun _ _ e => e) (fun h' t tk k => fin k) hz
  cases hd with
  | non => cases rx; exact PySem.P.repr_of_none (fin fun _ _ e => e)
  | bl b =>
    cases rx
    exact PySem.P.repr_of_bool (fin fun _ _ e => e)
  | int i =>
    obtain ⟨t, rfl⟩ := rx
    exact PySem.P.repr_of_int (of_decide_eq_true h1) (fin fun _ _ e => e)
  | str x =>
    obtain ⟨t, rfl⟩ := rx
    exact PySem.P.repr_of_str (fin fun _ _ e => e) hz
  | lst _ _ => exact refs rx
  | tup _ _ => exact refs rx
theorem s_repr : OpN X.K (rRepr X.K) dRepr := by
  intro F H xs ds z Q rx sub h q
  unfold dRepr at h
  split at h
  · split at h
    · rename_i p hp
      split at h
      · rename_i hok
        cases h
        obtain ⟨x, rfl, r⟩ := one rx
        exact ⟨x, p, rfl, py_dp sub r hp, hok, q F _ H Grow.refl (.str _)⟩
      · cases h
    · cases h
  · cases h
end
end L3
set_option Elab.async false
set_option linter.all false
set_option maxRecDepth 100000
set_option maxHeartbeats 4000000
namespace L3
open PySem PySem.Spec PyProof.Rows L2

/-! ### f-strings -/
def dFmt : D → Option D
  | .str x => if x.length ≤ 1000000 then some (.str x) else none
  | .int i => if i.natAbs.log2 < 1920 then some (.str (toString i)) else none
  | _ => none
def addS (acc : Str) : D → Option Str
  | .str y => if (acc ++ y).length ≤ 1000000 then some (acc ++ y) else none
  | _ => none
def mJs : List (M D) → Str → M Str
  | [], acc => M.pure acc
  | m :: ms, acc => m.bind fun d => (M.lift (addS acc d)).bind fun a => mJs ms a
def mFs (ms : List (M D)) : M D := (mJs ms Str.empty).bind fun x => M.pure (.str x)
section
variable {X : Cx} {Wx : WX} {e : Expr} {es : List Expr} {me : M D} {pos : Pos}
theorem pem_fmt (h : PEM X Wx e me) : PEM X Wx (.FormattedValue e (-1) none pos) (mUn dFmt me) := by
  refine pe_imp (pe_fmt h) fun σ H Q h => ?_
  obtain ⟨c, F, ρ, rr, ρ', w, hm, post⟩ := h
  rcases bind_inv hm with ⟨x, ρ1, h1, h2⟩ | ⟨x, h1, rfl⟩
  · refine ⟨c, F, ρ, .ok x, ρ1, w, h1, fun F1 H1 e1 w1 v1 r1 => ?_⟩
    obtain ⟨z, hz, rfl, rfl⟩ := lift_inv h2
    unfold dFmt at hz
    split at hz
    · split at hz
      · rename_i hl
        cases hz
        cases r1
        exact .inl ⟨_, rfl, mil hl, post F1 H1 e1 w1 _ (.str _)⟩
      · cases hz
    · split at hz
      · rename_i hl
        cases hz
        cases r1
        exact .inr ⟨_, rfl, hl, post F1 H1 e1 w1 _ (.str _)⟩
      · cases hz
    · cases hz
  · exact ⟨c, F, ρ, .ex x, ρ', w, h1, post⟩
inductive PJM (X : Cx) (Wx : WX) : List Expr → List (M D) → Prop
  | nil : PJM X Wx [] []
  | cons {e : Expr} {m : M D} {es : List Expr} {ms : List (M D)} (h : PEM X Wx e m) (r : PJM X Wx es ms) : PJM X Wx (e :: es) (m :: ms)
theorem PJM.pj {ms : List (M D)} (h : PJM X Wx es ms) : PJ X es (ms.map (tE X.K Wx)) := by
  induction h with
  | nil => exact .nil
  | cons h _ ih => exact .cons h ih
theorem js_imp {K : PySem.W.Frag} : ∀ (ms : List (M D)) (acc : Str) (σ : L2.St) (H : Hp) (Q : Str → Hp → Prop), tM K Wx (mJs ms acc) σ H (fun _ _ x _ H' => Q x H') → tJs (ms.map (tE K Wx)) acc σ H Q
  | [], acc, σ, H, Q, h => by
    obtain ⟨c, F, ρ, rr, ρ', w, hm, post⟩ := h
    cases hm
    exact post F H (Same.refl _) w
  | m :: ms, acc, σ, H, Q, h => by
    obtain ⟨c, F, ρ, rr, ρ', w, hm, post⟩ := h
    rcases bind_inv hm with ⟨d, ρ1, h1, h2⟩ | ⟨x, h1, rfl⟩
    · refine ⟨c, F, ρ, .ok d, ρ1, w, h1, fun F1 H1 e1 w1 v1 r1 => ?_⟩
      rcases bind_inv h2 with ⟨a, ρ2, h3, h4⟩ | ⟨x, h3, rfl⟩
      · obtain ⟨_, hz, ez, rfl⟩ := lift_inv h3
        cases ez
        unfold addS at hz
        split at hz
        · split at hz
          · rename_i y hl
            cases hz
            cases r1
            exact ⟨y, rfl, mil hl, js_imp ms _ σ H1 Q ⟨c, F1, _, rr, ρ', w1, h4, post.mono e1⟩⟩
          · cases hz
        · cases hz
      · obtain ⟨_, _, ez, _⟩ := lift_inv h3
        cases ez
    · exact ⟨c, F, ρ, .ex x, ρ', w, h1, post⟩
theorem pem_fs {v1 v2 : Expr} {ms : List (M D)} (h : PJM X Wx (v1 :: v2 :: es) ms) : PEM X Wx (.JoinedStr (v1 :: v2 :: es) pos) (mFs ms) := by
  refine pe_imp (pe_joined h.pj) fun σ H Q h => ?_
  refine js_imp ms _ σ H _ ?_
  obtain ⟨c, F, ρ, rr, ρ', w, hm, post⟩ := h
  rcases bind_inv hm with ⟨x, ρ1, h1, h2⟩ | ⟨x, h1, rfl⟩
  · cases h2
    exact ⟨c, F, ρ, .ok x, _, w, h1, fun F1 H1 e1 w1 => post F1 H1 e1 w1 _ (.str _)⟩
  · exact ⟨c, F, ρ, .ex x, ρ', w, h1, post⟩
end

/-! ### further words -/
def mPar3 (i j l : Nat) (a b c : M D) : M Fl := a.bind fun x => b.bind fun y => c.bind fun z ρ => some (.ok .nx, ((ρ.set i (.dat x)).set j (.dat y)).set l (.dat z))
def dIsBl : D → D → Option D
  | .bl a, .bl b => some (.bl (decide (a = b)))
  | _, _ => none
def boolsD : List D → Option (List Bool)
  | [] => some []
  | .bl b :: ds => (boolsD ds).map (b :: ·)
  | _ :: _ => none
def dAll : List D → Option D
  | [.lst ds] => (boolsD ds).map fun bs => .bl (bs.all id)
  | _ => none
def dAny : List D → Option D
  | [.lst ds] => (boolsD ds).map fun bs => .bl (bs.any id)
  | _ => none
def intsD : List D → Option (List Int)
  | [] => some []
  | .int b :: ds => (intsD ds).map (b :: ·)
  | _ :: _ => none
def dSum : List D → Option D
  | [.lst ds] => (intsD ds).map fun bs => .int bs.sum
  | _ => none
/-- data in slot i, whatever it was (an own object is data from now on) -/
def mDat (i : Nat) : M D := fun ρ => match ρ[i]? with
  | some (.dat d) => some (.ok d, ρ)
  | some (.own o) => some (.ok o.toD, ρ.set i (.dat o.toD))
  | _ => none
section
variable {X : Cx} {Wx : WX} {a b c e : Expr} {ma mb mc : M D} {pos : Pos}
theorem psm_par3 (i j l : Nat) {x y z : Str} {px py pz pt : Pos} {kt k2 pt2} (hc : X.calm = true) (hN : X.N.Nodup) (hij : i ≠ j) (hil : i ≠ l) (hjl : j ≠ l) (ha : PEM X Wx a ma) (hb : PEM X Wx b mb) (hcc : PEM X Wx c mc)
    (hi : X.N[i]? = some x := by rfl) (hj : X.N[j]? = some y := by rfl) (hl : X.N[l]? = some z := by rfl)
    (hx : X.env.scope.names.lookup x = some .local := by rfl) (hy : X.env.scope.names.lookup y = some .local := by rfl) (hz : X.env.scope.names.lookup z = some .local := by rfl)
    (h1 : starEach [a, b, c] X.env = (false, eval a X.env) :: starEach [b, c] X.env := by rfl) (h2 : starEach [b, c] X.env = (false, eval b X.env) :: starEach [c] X.env := by rfl) (h3 : starEach [c] X.env = (false, eval c X.env) :: starEach [] X.env := by rfl)
    (hw : swappedStores [.Tuple [.Name x px, .Name y py, .Name z pz] kt pt] (.Tuple [a, b, c] k2 pt2) X.env = pure (some [x, y, z]) := by rfl)
    (hs : swapsWithSole [.Tuple [.Name x px, .Name y py, .Name z pz] kt pt] (.Tuple [a, b, c] k2 pt2) pos.line X.env = pure false := by rfl) :
    PSM X Wx (.Assign [.Tuple [.Name x px, .Name y py, .Name z pz] kt pt] (.Tuple [a, b, c] k2 pt2) pos) (mPar3 i j l ma mb mc) := by
  refine ps_imp (ps_par3 hc hN hi hj hl hij hil hjl hx hy hz (pa_cons ha (pa_cons hb (pa_cons hcc pa_nil h3) h2) h1) hw hs) fun De σ H h => ?_
  obtain ⟨cx, F, ρ, r, ρ', w, hm, post⟩ := h
  rcases bind_inv hm with ⟨u, ρ1, q1, q2⟩ | ⟨u, q1, rfl⟩
  · refine ⟨cx, F, ρ, .ok u, ρ1, w, q1, fun F1 H1 e1 w1 v1 r1 => ?_⟩
    rcases bind_inv q2 with ⟨t, ρ2, q3, q4⟩ | ⟨t, q3, rfl⟩
    · refine ⟨cx, F1, ρ1, .ok t, ρ2, w1, q3, fun F2 H2 e2 w2 v2 r2 => ?_⟩
      rcases bind_inv q4 with ⟨g, ρ3, q5, q6⟩ | ⟨g, q5, rfl⟩
      · cases q6
        refine ⟨cx, F2, ρ2, .ok g, ρ3, w2, q5, fun F3 H3 e3 w3 v3 r3 => ?_⟩
        exact ⟨v1, v2, v3, rfl, post F3 _ H3 ((e1.trans e2).trans e3) (((w3.setD (r1.mono (e2.trans e3))).setD (r2.mono e3)).setD r3)⟩
      · exact ⟨cx, F2, ρ2, .ex g, ρ', w2, q5, fun F' d H' e' w' r' => post F' σ d H' ((e1.trans e2).trans e') w' r'⟩
    · exact ⟨cx, F1, ρ1, .ex t, ρ', w1, q3, fun F' d H' e' w' r' => post F' σ d H' (e1.trans e') w' r'⟩
  · exact ⟨cx, F, ρ, .ex u, ρ', w, q1, fun F' d H' e' w' r' => post F' σ d H' e' w' r'⟩
theorem s_isBl : Op2 X.K rIsB dIsBl := by
  intro F H x y d e z Q rx ry sub h q
  unfold dIsBl at h
  split at h
  · cases h; cases rx; cases ry
    exact ⟨_, _, rfl, rfl, q F _ H Grow.refl (.bl _)⟩
  · cases h
theorem bools_rep {K : PySem.W.Frag} {F : Hp} : ∀ {ds : List D} {vs : List V} {bs : List Bool}, RepL K F vs ds → boolsD ds = some bs → vs = bs.map V.bl
  | [], _, _, .nil, h => by cases h; rfl
  | .bl b :: ds, _, bs, .cons (.bl _) t, h => by
    have h' : (boolsD ds).map (b :: ·) = some bs := h
    cases e : boolsD ds with
    | none => rw [e] at h'; cases h'
    | some cs => rw [e] at h'; cases h'; rw [bools_rep t e]; rfl
  | .non :: _, _, _, _, h => by cases h
  | .int _ :: _, _, _, _, h => by cases h
  | .str _ :: _, _, _, _, h => by cases h
  | .ty _ :: _, _, _, _, h => by cases h
  | .obj _ :: _, _, _, _, h => by cases h
  | .tup _ :: _, _, _, _, h => by cases h
  | .lst _ :: _, _, _, _, h => by cases h
  | .rdl _ :: _, _, _, _, h => by cases h
  | .dct _ :: _, _, _, _, h => by cases h
  | .ins _ _ :: _, _, _, _, h => by cases h
theorem ints_rep {K : PySem.W.Frag} {F : Hp} : ∀ {ds : List D} {vs : List V} {bs : List Int}, RepL K F vs ds → intsD ds = some bs → vs = bs.map V.int
  | [], _, _, .nil, h => by cases h; rfl
  | .int b :: ds, _, bs, .cons (.int _) t, h => by
    have h' : (intsD ds).map (b :: ·) = some bs := h
    cases e : intsD ds with
    | none => rw [e] at h'; cases h'
    | some cs => rw [e] at h'; cases h'; rw [ints_rep t e]; rfl
  | .non :: _, _, _, _, h => by cases h
  | .bl _ :: _, _, _, _, h => by cases h
  | .str _ :: _, _, _, _, h => by cases h
  | .ty _ :: _, _, _, _, h => by cases h
  | .obj _ :: _, _, _, _, h => by cases h
  | .tup _ :: _, _, _, _, h => by cases h
  | .lst _ :: _, _, _, _, h => by cases h
  | .rdl _ :: _, _, _, _, h => by cases h
  | .dct _ :: _, _, _, _, h => by cases h
  | .ins _ _ :: _, _, _, _, h => by cases h
theorem s_all : OpN X.K (rAll X.K) dAll := by
  intro F H xs ds z Q rx sub h q
  unfold dAll at h
  split at h
  · rename_i ds
    cases e : boolsD ds with
    | none => rw [e] at h; cases h
    | some bs =>
      rw [e] at h
      cases h
      obtain ⟨x, rfl, r⟩ := one rx
      cases r with
      | lst hs hr =>
        rw [bools_rep hr e] at hs
        exact ⟨_, bs, rfl, .inl (.inl (sub _ _ hs)), q F _ H Grow.refl (.bl _)⟩
  · cases h
theorem s_any : OpN X.K (rAny X.K) dAny := by
  intro F H xs ds z Q rx sub h q
  unfold dAny at h
  split at h
  · rename_i ds
    cases e : boolsD ds with
    | none => rw [e] at h; cases h
    | some bs =>
      rw [e] at h
      cases h
      obtain ⟨x, rfl, r⟩ := one rx
      cases r with
      | lst hs hr =>
        rw [bools_rep hr e] at hs
        exact ⟨_, bs, rfl, .inl (.inl (sub _ _ hs)), q F _ H Grow.refl (.bl _)⟩
  · cases h
theorem s_sum : OpN X.K (rSum X.K) dSum := by
  intro F H xs ds z Q rx sub h q
  unfold dSum at h
  split at h
  · rename_i ds
    cases e : intsD ds with
    | none => rw [e] at h; cases h
    | some bs =>
      rw [e] at h
      cases h
      obtain ⟨x, rfl, r⟩ := one rx
      cases r with
      | lst hs hr =>
        rw [ints_rep hr e] at hs
        exact ⟨_, bs, rfl, .inl (.inl (sub _ _ hs)), q F _ H Grow.refl (.int _)⟩
  · cases h
theorem pem_dat (i : Nat) {x : Str} (hN : X.N[i]? = some x := by rfl) (hv : Vis X.env.scope x := by first | exact Or.inl rfl | exact Or.inr (Or.inl rfl) | exact Or.inr (Or.inr rfl)) (hd : (x == ("__debug__" : Str)) = false := by decide)
    (hcd : (x == ("__classdict__" : Str)) = false := by decide) : PEM X Wx (.Name x pos) (mDat i) := by
  have h1 : PEM X Wx (.Name x pos) (mVar i) := pem_var i hN hv hd hcd
  have h2 : PEM X Wx (.Name x pos) (mFrzS i) := pem_frzS i hN hv hd hcd
  constructor
  intro pins s σ H Q I h
  obtain ⟨c, F, ρ, r, ρ', w, hm, post⟩ := h
  unfold mDat at hm
  split at hm
  · rename_i d hs
    refine h1.run pins s σ H Q I ⟨c, F, ρ, r, ρ', w, ?_, post⟩
    unfold mVar
    rw [hs]
    exact hm
  · rename_i o hs
    refine h2.run pins s σ H Q I ⟨c, F, ρ, r, ρ', w, ?_, post⟩
    unfold mFrzS
    rw [hs]
    exact hm
  · cases hm
end
end L3
set_option Elab.async false
set_option linter.all false
set_option maxRecDepth 100000
set_option maxHeartbeats 4000000
namespace L3
open PySem PySem.Spec PyProof.Rows L2
open AutoSeq1 (wpAny_loadPart')
/-! ### t == () -/
theorem tuple_eq0 {prog : Program} {w : World} {A : Around} {R : Result → Shared → Prop} (l b : Addr) (items : Array Value) (n n2 : Nat) (dd dd2 : Option Addr) (sl sl2 : Array (Option Value)) {s : Shared}
    (hl1 : s.heap.get? l = some { cls := .type "tuple", dict := dd, data := .seq items n, slots := sl }) (hb1 : s.heap.get? b = some { cls := .type "tuple", dict := dd2, data := .seq #[] n2, slots := sl2 }) (h : R (.ok (.ret (.bool (items.size == 0)))) s) :
    wpAny (model prog w) A.in1 (Builtin.«tuple.__eq__» ⟨[.ref l, .ref b], []⟩) (GQ.FinOf prog w A R) (fun e s' => R (.error e) s') s := by
  have f2 := AutoSeq1.sub_tuple_tuple
  obtain ⟨hp, g, d, tk, os⟩ := s
  wp_walk using wpAny_loadPart' hl1, wpAny_loadPart' hb1, wpAny_forIn_list _ (fun rest b s' => b.1 = none ∧ s' = ⟨hp, g, d, tk, os⟩ ∧ rest = []) _
  case turn =>
    rintro ⟨y, x⟩ rest b s' ⟨_, _, hz⟩
    cases hz
  case fin =>
    rintro ⟨b1, b2⟩ s' ⟨hb', hs, _⟩
    simp only at hb'
    subst hb' hs
    wp_walk
    simpa [Builtin.Tuple.tupleCompareSizes] using h
  case h =>
    exact ⟨rfl, rfl, by simp⟩
section
variable {X : Cx}
def rEq0 (K : PySem.W.Frag) : R2 := fun x y H Q => ∃ a b xs, x = V.ref a ∧ y = V.ref b ∧ SqT K H a xs ∧ SqT K H b [] ∧ Q (.bl (xs.length == 0)) H
theorem op_eq0 (hu : X.A.units + 64 < cLine) : OpR X (compareOp .Eq) (rEq0 X.K) := by
  intro pins s σ H x y v u Q I rx ry h
  obtain ⟨a, b, xs, rfl, rfl, h1, h2, q⟩ := h
  obtain rfl : v = Value.ref a := rx
  obtain rfl : u = Value.ref b := ry
  obtain ⟨its, r, e, z⟩ := I.tuple h1
  obtain ⟨its2, r2, e2, z2⟩ := I.tuple h2
  cases r2
  obtain ⟨⟨cls, dd, data, sl⟩, ho, hc, n, hd⟩ := id e
  obtain ⟨⟨cls2, dd2, data2, sl2⟩, ho2, hc2, n2, hd2⟩ := id e2
  simp only at hc hd hc2 hd2
  subst hc hd hc2 hd2
  show wpAny (model X.prog X.w) X.A (richCompare .Eq (.ref a) (.ref b)) (EP X pins σ Q) X.xe s
  refine wpAny_richCompare_same_room (op := .Eq) ⟨_, ho, rfl⟩ ⟨_, ho2, rfl⟩ F.slot_tuple_eq (GQ.call_here F.slot_tuple_eq ⟨_, ho, rfl⟩ F.entry_tuple_eq (F.args_tuple_eq_2 _ _) ?_) (by omega)
  refine tuple_eq0 (R := wants (fun v s' => v ≠ .notImplemented ∧ EP X pins σ Q v s') X.xe) a b its.toArray n n2 dd dd2 sl sl2 ho ho2 ⟨(fun x => nomatch x), .bl _, H, I, rfl, ?_⟩
  rw [List.size_toArray, ← r.length]
  exact q
def dEq0 : D → D → Option D
  | .tup ds, .tup [] => some (.bl (ds.length == 0))
  | _, _ => none
theorem s_eq0 : Op2 X.K (rEq0 X.K) dEq0 := by
  intro F H x y d e z Q rx ry sub h q
  unfold dEq0 at h
  split at h
  · cases h
    cases rx with
    | tup h1 r1 =>
      cases ry with
      | tup h2 r2 =>
        cases r2
        refine ⟨_, _, _, rfl, rfl, same_sqT sub h1, same_sqT sub h2, ?_⟩
        rw [r1.len]
        exact q F _ H Grow.refl (.bl _)
  · cases h
theorem fng_none {P : Program} {w : World} {K : PySem.W.Frag} {mg : Str → Option Value} {base : Heap} {f : Addr} {fd : FuncData} {ps : List Str} {n : Nat} : FnG P w K mg base 0 f fd ps (spG K n fun _ => none) := by
  refine ⟨fun vs H Q E h => ?_, fun A outer s H args us vs Q E _ _ _ _ _ h => ?_⟩
  · obtain ⟨_, F, ss, r, ss', _, _, hg, _⟩ := h
    cases hg
  · obtain ⟨_, F, ss, r, ss', _, _, hg, _⟩ := h
    cases hg
end
end L3
set_option Elab.async false
set_option linter.all false
set_option maxRecDepth 100000
set_option maxHeartbeats 4000000
namespace L3
open PySem PySem.Spec PyProof.Rows L2
/-! ### the law's own call, from what its def computes -/
theorem repL_ints {K : PySem.W.Frag} {F : Hp} : ∀ ns : List Int, RepL K F (ns.map V.int) (ns.map D.int)
  | [] => .nil
  | _ :: ns => .cons (.int _) (repL_ints ns)
theorem spG_law {K : PySem.W.Frag} {g : G} {H : Hp} {a : Addr} {ns : List Int} (hS : SqL K H a (ns.map V.int)) (hg : ∃ ss', g [.dat (.rdl (ns.map D.int))] = some (.ok (.dat (.bl true)), ss')) : spG K 1 g [.ref a] H (fun v _ => v = .bl true) fun _ _ _ => False := by
  obtain ⟨ss', hg⟩ := hg
  have rd : Rep K H (.ref a) (.rdl (ns.map D.int)) := .rdl hS (repL_ints ns)
  refine ⟨rfl, H, _, _, ss', Same.refl _, argS_d (vs := [.ref a]) (ds := [.rdl (ns.map D.int)]) (.cons rd .nil), hg, fun F' v H' _ rv => ?_⟩
  have rv' : Rep K F' v (.bl true) := rv
  cases rv'
  rfl
section
variable {P : Program} {w : World} {K : PySem.W.Frag} {mg mb : Str → Option Value} {k : Nat} {fa a : Addr} {fd : FuncData} {x : Str} {g : G} {s1 : Shared} {vs : List Value} {ns : List Int}
abbrev Ending (s1 : Shared) : Result → Shared → Prop := fun r s' => r = .ok (.ret (.bool true)) ∧ OldK s1.heap s'.heap ∧ s'.os = s1.os ∧ AllBare s'.gens
def scrO (vs : List Value) : Obj := { cls := .type "list", data := .seq vs.toArray }
/-- the script alone is seen, or nothing -/
def scrH (a : Addr) (u : Option HO) : Hp := fun b => if b = a then u else none
theorem scrH_at {u : Option HO} : scrH a u a = u := if_pos rfl
theorem scrH_off {u : Option HO} {b : Addr} (h : b ≠ a) : scrH a u b = none := if_neg h
theorem lawG_core {u : Option HO} (hu : u = none ∨ ∃ xs, u = some (.frz (scrO vs) (.lst xs))) (KX : K.In s1.heap) (n1 : s1.heap.Ns mainGlobals mg) (n2 : s1.heap.Ns builtinsNs mb) (n3 : ∀ y : Str, y ≠ "__name__" → mb y = bootBuiltins y) (n4 : s1.heap.NoLimit)
    (n5 : s1.gens = #[]) (sc : s1.heap.get? a = some (scrO vs)) (hr : Room k callerA) (hk : u ≠ none → K.lookup a = none) (ok : HOk P w (scrH a u) s1.heap)
    (hF : ∀ base : Heap, K.In base → base.Ns mainGlobals mg → FnG P w K mg base k fa fd [x] (spG K 1 g)) (hb : ∀ (s : Shared) (v : Value), BindsTo s fd ⟨[v], []⟩ [(x, v)])
    (hsp : spG K 1 g [.ref a] (scrH a u) (fun v _ => v = .bl true) fun _ _ _ => False) :
    codeAny (model P w) callerA (.call (.ref fa) ⟨[.ref a], []⟩) (Ending s1) s1 := by
  have seen : ∀ {b : Addr} {o : Obj}, s1.heap.get? b = some o → (b = a → u = none) → (hidT s1.heap (scrH a u)).get? b = some o := fun {b o} e h => by
    refine hidT_get e ?_
    by_cases q : b = a
    · rw [q, scrH_at]; exact h q
    · exact scrH_off q
  have spaces : ∀ {b : Addr} {m : Str → Option Value}, s1.heap.Ns b m → (hidT s1.heap (scrH a u)).Ns b m := fun {b m} h => by
    obtain ⟨o, es, ep, e, d, r⟩ := h
    refine ⟨o, es, ep, seen e fun q => ?_, d, r⟩
    rw [q, sc] at e
    cases e
    cases d
  have KB : K.In (hidT s1.heap (scrH a u)) := fun b o e => seen (KX b o e) fun q => by
    cases hu with
    | inl h => exact h
    | inr h =>
      obtain ⟨xs, h⟩ := h
      have z := hk (by rw [h]; exact fun z => nomatch z)
      rw [q, z] at e
      cases e
  have hM : Mod K mg (hidT s1.heap (scrH a u)) := by
    obtain ⟨mc, c1, c2⟩ := n4
    exact ⟨KB, spaces n1, ⟨mb, spaces n2, n3⟩, mc, spaces c1, c2⟩
  have none_in : ∀ b : Addr, ¬ b ∈ ([] : List Addr) := fun b z => nomatch z
  have e0 : Env0 P w K mg (hidT s1.heap (scrH a u)) callerA [] s1 (scrH a u) := by
    refine ⟨rfl, hM, fun b o e => of_hidT e, Nat.le_of_eq (hidT_size _ _), trivial, fun b z => (none_in b z).elim, ok, .of_eq n5⟩
  have run := (hF _ KB (spaces n1)).run callerA [] s1 (scrH a u) ⟨[.ref a], []⟩ [.ref a] [.ref a] _ _ rfl hr e0 (hb s1 (.ref a)) (.cons rfl .nil) hsp
  refine codeAny_mono run fun r s' h => ?_
  match r, h with
  | .error e, h =>
    obtain ⟨_, _, _, _, _, _, _, _, _, _, _, _, z⟩ := h
    exact z.elim
  | .ok .next, h => exact False.elim h
  | .ok .brk, h => exact False.elim h
  | .ok .cont, h => exact False.elim h
  | .ok (.ret z), h =>
    obtain ⟨v, H', os, bare, un, ok', rz, q⟩ := h
    obtain rfl : v = V.bl true := q
    obtain rfl : z = Value.bool true := rz
    refine ⟨rfl, OldK.of_keep fun b o e => ?_, os, bare⟩
    cases q : scrH a u b with
    | none => exact un.keep b o e q (none_in b) (none_in b)
    | some y =>
      have ba : b = a := by
        by_cases ba : b = a
        · exact ba
        · rw [scrH_off ba] at q; cases q
      subst ba
      rw [scrH_at] at q
      rcases hu with h | ⟨xs, h⟩
      · rw [h] at q; cases q
      · have at1 : scrH b u b = some (.frz (scrO vs) (.lst xs)) := by rw [scrH_at]; exact h
        have w1 := (ok b _ at1).1
        have w2 := (ok' b _ (un.frzs b _ _ at1)).1
        exact w2.trans (w1.symm.trans e)
theorem lawG (KX : K.In s1.heap) (n1 : s1.heap.Ns mainGlobals mg) (n2 : s1.heap.Ns builtinsNs mb) (n3 : ∀ y : Str, y ≠ "__name__" → mb y = bootBuiltins y) (n4 : s1.heap.NoLimit) (n5 : s1.gens = #[]) (sc : s1.heap.get? a = some (scrO vs)) (hi : IntsAre vs ns)
    (hl : ns.length ≤ sizeLine) (hr : Room k callerA) (hF : ∀ base : Heap, K.In base → base.Ns mainGlobals mg → FnG P w K mg base k fa fd [x] (spG K 1 g)) (hb : ∀ (s : Shared) (v : Value), BindsTo s fd ⟨[v], []⟩ [(x, v)])
    (hg : ∃ ss', g [.dat (.rdl (ns.map D.int))] = some (.ok (.dat (.bl true)), ss')) : codeAny (model P w) callerA (.call (.ref fa) ⟨[.ref a], []⟩) (Ending s1) s1 := by
  have rv := vals_ints hi
  have long : vs.length ≤ sizeLine := by rw [hi.length]; exact hl
  cases hk : K.lookup a with
  | some o =>
    obtain rfl : o = scrO vs := Option.some.inj ((KX a o hk).symm.trans sc)
    refine lawG_core (u := none) (.inl rfl) KX n1 n2 n3 n4 n5 sc hr (fun z => (z rfl).elim) (fun b y z => ?_) hF hb (spG_law ?_ hg)
    · have z' : (if b = a then (none : Option HO) else none) = some y := z
      by_cases q : b = a <;> simp [q] at z'
    · exact .inr ⟨_, vs.toArray, _, hk, rfl, rfl, rfl, by rw [List.size_toArray]; exact long, by rw [List.toList_toArray]; exact rv⟩
  | none =>
    refine lawG_core (u := some (.frz (scrO vs) (.lst (ns.map V.int)))) (.inr ⟨_, rfl⟩) KX n1 n2 n3 n4 n5 sc hr (fun _ => hk) (fun b y z => ?_) hF hb (spG_law (.inl (.inr ⟨_, scrH_at⟩)) hg)
    by_cases q : b = a
    · subst q
      rw [scrH_at] at z
      cases z
      exact ⟨sc, by rw [List.length_map]; exact hl, vs, _, rv, sc⟩
    · rw [scrH_off q] at z
      cases z
end
/-- what the head wants, from what the law's def computes -/
theorem walkG {l : PySem.W.OpenLaw} {n k : Nat} {q : Program} {loose : List Str} {XP : (Str → Option Value) → Heap → Prop} {YP : World → Heap → Prop} {d : DefRec} {x : Str} (hn : l.most = some n) (hn2 : n ≤ sizeLine) (hdf : d.params.defaults = []) (hr : Room k callerA)
    (hW : ∀ (w : World) (mg : Str → Option Value) (fa : Addr) (h : Heap), YP w h → h.Ns mainGlobals mg → mg d.name = some (.ref fa) → ∃ (K : PySem.W.Frag) (fd : FuncData) (g : G), K.In h ∧ (∀ (s : Shared) (v : Value), BindsTo s fd ⟨[v], []⟩ [(x, v)]) ∧
      (∀ ns : List Int, ns.length ≤ n → ∃ ss', g [.dat (.rdl (ns.map D.int))] = some (.ok (.dat (.bl true)), ss')) ∧ ∀ base : Heap, K.In base → base.Ns mainGlobals mg → FnG l.prog w K mg base k fa fd [x] (spG K 1 g)) :
    PySem.W.WalkO q loose XP YP l.row.toRowW d [] (fun f vs => PySem.call f vs) := by
  refine Att.attach_call hn hdf fun w s0 s1 mg mb fa o pm cd doc a vs ns gr y ho hd hcd hmg hobj hints hlen hg => ?_
  obtain ⟨K, fd, g, KX, hb, hgg, hF⟩ := hW w mg fa _ y gr.T.g hmg
  exact lawG KX gr.T.g gr.T.b gr.T.builtins gr.T.nolimit hg hobj hints (Nat.le_trans hlen hn2) hr hF hb (hgg ns hlen)

/-! ### the head's facts -/
open He in
/-- the getter behind a property -/
def gAd (K : PySem.W.Frag) (C m : Str) : Addr := match PySem.W.recIn K (ma K (ga K C) m) "property" with
  | some (.ref b :: _) => b
  | _ => 0
abbrev FnX : Type := Option ((Str × Str × Arguments × FuncBody × Scope) × Addr × List (Str × Addr) × Addr)
def fnX (K : PySem.W.Frag) (b : Addr) : FnX := match K.lookup b with
  | some ⟨_, _, .func z, _⟩ => some ((z.name, z.qualname, z.params, z.body, z.scope), z.globals, z.closure, z.builtins)
  | _ => none
/-- one def: the way to it, what is written, its defaults -/
structure DX where
  way : PySem.W.Frag → Addr
  name : Str
  qual : Str
  st : Stmt
  dfl : List He.Dv := []
def DX.val (d : DX) : FnX := some ((d.name, d.qual, defArgs d.st, .stmts (defBody d.st), defScope d.st), mainGlobals, [], builtinsNs)
def DX.ok (K : PySem.W.Frag) (d : DX) : Bool := PySem.W.keepIn K (.ref (d.way K)) && match K.lookup (d.way K) with
  | some ⟨_, _, .func z, _⟩ => He.dflB K z.defaults (d.dfl.map (He.Dv.v K)) && PySem.W.codeIn K z.code d.qual
  | _ => false
theorem DX.fun_ {K : PySem.W.Frag} {d : DX} (e : fnX K (d.way K) = d.val) (c : d.ok K = true) : ∃ fd, FunD K d.name d.qual (defArgs d.st) (defBody d.st) (defScope d.st) (d.dfl.map (He.Dv.v K)) [] (d.way K) fd := by
  obtain ⟨kp, c2⟩ := He.ba c
  unfold fnX at e
  cases q : K.lookup (d.way K) with
  | none => rw [q] at c2; cases c2
  | some o =>
    rw [q] at c2 e
    match o, c2, e, q with
    | ⟨oc, od, .func ⟨z1, z2, z3, z4, z5, z6, z7, z8, z9, z10, z11, z12, z13, z14, z15⟩, osl⟩, c2, e, q =>
      obtain ⟨k1, k2⟩ := He.ba (show (He.dflB K z8 (d.dfl.map (He.Dv.v K)) && PySem.W.codeIn K z13 d.qual) = true from c2)
      have e2 : (some ((z1, z2, z3, z4, z5), z6, z7, z15) : FnX) = some ((d.name, d.qual, defArgs d.st, .stmts (defBody d.st), defScope d.st), mainGlobals, [], builtinsNs) := e
      simp only [Option.some.injEq, Prod.mk.injEq] at e2
      obtain ⟨⟨h1, h2, h3, h4, h5⟩, h6, h7, h8⟩ := e2
      subst h1 h2 h3 h4 h5 h6 h7 h8
      exact ⟨_, ⟨oc, od, z8, z9, z10, z11, z12, z13, z14, osl, rfl, q, k2, He.dflB_ok k1, .inl rfl⟩, kp⟩
/-- what is looked at behind the top: facts of the kit, facts of one's own, the defs -/
abbrev AlX : Type := Bool × List FnX
def obsX (fa : List He.Fa) (ex : List (PySem.W.Frag → Bool)) (fn : List DX) (K : PySem.W.Frag) : AlX := (((fa.all fun f => f.ok K) && ex.all fun f => f K) && fn.all fun d => d.ok K, fn.map fun d => fnX K (d.way K))
def valX (fn : List DX) : AlX := (true, fn.map DX.val)
def SaysX (fa : List He.Fa) (ex : List (PySem.W.Frag → Bool)) (fn : List DX) (K : PySem.W.Frag) : Prop := obsX fa ex fn K = valX fn
def obsXG (n : Nat) (fa : List He.Fa) (ex : List (PySem.W.Frag → Bool)) (fn : List DX) (g : Addr → Option Obj) : AlX := obsX fa ex fn (He.frG g (He.asD g n))
def hookX (n : Nat) (fa : List He.Fa) (ex : List (PySem.W.Frag → Bool)) (fn : List DX) : PySem.W.Hook where
  α := AlX
  obs s := obsXG n fa ex fn s.heap.get?
  val _ := valX fn
  says _ h := ∃ K : PySem.W.Frag, K.In h ∧ SaysX fa ex fn K
  of _ _ e := ⟨_, He.frG_in, e⟩
  keeps _ _ _ y k := let ⟨K, hK, c⟩ := y; ⟨K, PySem.W.Frag.In.keeps hK k, c⟩
theorem obsXG_eq {n : Nat} {fa : List He.Fa} {ex : List (PySem.W.Frag → Bool)} {fn : List DX} {g : Addr → Option Obj} {s : Shared} (h : ∀ a, g a = s.heap.get? a) : obsXG n fa ex fn g = (hookX n fa ex fn).obs s := by
  obtain rfl : g = s.heap.get? := funext h
  rfl
section
variable {fa : List He.Fa} {ex : List (PySem.W.Frag → Bool)} {fn : List DX} {K : PySem.W.Frag}
theorem SaysX.yes (c : SaysX fa ex fn K) : (((fa.all fun f => f.ok K) && ex.all fun f => f K) && fn.all fun d => d.ok K) = true := congrArg Prod.fst (show obsX fa ex fn K = valX fn from c)
theorem SaysX.fact (c : SaysX fa ex fn K) (i : Nat) {f : He.Fa} (h : fa[i]? = some f := by rfl) : f.ok K = true :=
  List.all_eq_true.mp (He.ba (He.ba c.yes).1).1 f (List.mem_of_getElem? h)
theorem SaysX.own (c : SaysX fa ex fn K) (i : Nat) {f : PySem.W.Frag → Bool} (h : ex[i]? = some f := by rfl) : f K = true :=
  List.all_eq_true.mp (He.ba (He.ba c.yes).1).2 f (List.mem_of_getElem? h)
theorem SaysX.def_ (c : SaysX fa ex fn K) (i : Nat) {d : DX} (h : fn[i]? = some d := by rfl) : ∃ fd, FunD K d.name d.qual (defArgs d.st) (defBody d.st) (defScope d.st) (d.dfl.map (He.Dv.v K)) [] (d.way K) fd := by
  refine DX.fun_ ?_ (List.all_eq_true.mp (He.ba c.yes).2 d (List.mem_of_getElem? h))
  have e : fn.map (fun d => fnX K (d.way K)) = fn.map DX.val := congrArg Prod.snd (show obsX fa ex fn K = valX fn from c)
  have e2 := congrArg (fun l => l[i]?) e
  simp only [List.getElem?_map, h] at e2
  exact Option.some.inj e2
end
/-! own facts, as tests -/
def kclsB (x : Str) (K : PySem.W.Frag) : Bool := (He.Fa.cls x).ok K && (He.eqO (PySem.W.findIn K (.ref (He.ga K x)) "__class__") (some (some (.builtin "object.__class__"))) && (He.eqO (PySem.W.specialIn K (.builtin "object.__class__") "__get__") (some (some (.builtin "getset_descriptor.__get__"))) &&
  (decide (PySem.W.takesIn K (.builtin "object.__class__") = some true) && decide (PySem.W.mroIn K (He.ga K x) (.type "object") = some true))))
theorem kclsB_ok {x : Str} {K : PySem.W.Frag} (h : kclsB x K = true) : KCls K (He.ga K x) := by
  obtain ⟨h1, h⟩ := He.ba h
  obtain ⟨h2, h⟩ := He.ba h
  obtain ⟨h3, h⟩ := He.ba h
  obtain ⟨h4, h5⟩ := He.ba h
  exact ⟨He.cls_ok h1, He.eqO_ok h2, He.eqO_ok h3, of_decide_eq_true h4, of_decide_eq_true h5⟩
def propB (x m : Str) (K : PySem.W.Frag) : Bool := He.eqO (PySem.W.findIn K (.ref (He.ga K x)) m) (some (some (.ref (He.ma K (He.ga K x) m)))) && (He.eqO (PySem.W.specialIn K (.ref (He.ma K (He.ga K x) m)) "__get__") (some (some (.builtin "property.__get__"))) &&
  (decide (PySem.W.takesIn K (.ref (He.ma K (He.ga K x) m)) = some true) && match PySem.W.recIn K (He.ma K (He.ga K x) m) "property" with
    | some (.ref _ :: _) => true
    | _ => false))
theorem propB_ok {x m : Str} {K : PySem.W.Frag} (h : propB x m K = true) : PropOf K (He.ga K x) m (He.ma K (He.ga K x) m) (gAd K x m) := by
  obtain ⟨h1, h⟩ := He.ba h
  obtain ⟨h2, h⟩ := He.ba h
  obtain ⟨h3, h4⟩ := He.ba h
  refine ⟨He.eqO_ok h1, He.eqO_ok h2, of_decide_eq_true h3, ?_⟩
  unfold gAd
  split at h4
  · rename_i b r e
    exact ⟨r, by rw [e]⟩
  · cases h4
def kitB (t c : PySem.W.Frag → Value) (K : PySem.W.Frag) : Bool := decide (PySem.W.kitOne K (t K) (c K) = some false)
theorem kitB_ok {t c : PySem.W.Frag → Value} {K : PySem.W.Frag} (h : kitB t c K = true) : PySem.W.kitOne K (t K) (c K) = some false := of_decide_eq_true h
/-- a built-in's class is not the own class -/
def isCB (x : Str) (K : PySem.W.Frag) : Bool := [BT.non, .bool, .int, .str, .tup, .lst, .dct].all fun t => decide (PySem.W.kitOne K (.type t.nm) (.ref (He.ga K x)) = some false)
theorem isCB_ok {x : Str} {K : PySem.W.Frag} (h : isCB x K = true) (t : BT) : PySem.W.kitOne K (.type t.nm) (.ref (He.ga K x)) = some false :=
  of_decide_eq_true (List.all_eq_true.mp h t (by cases t <;> decide))
def binB (x : Str) (nm : String) (m mr : Str) (K : PySem.W.Frag) : Bool := PySem.W.selfFirst K (He.ga K x) && (He.eqO (PySem.W.findIn K (.ref (He.ga K x)) (PySem.dunder nm)) (some (some (.ref (He.ma K (He.ga K x) m)))) &&
  (He.eqO (PySem.W.findIn K (.ref (He.ga K x)) (dunderR nm)) (some (some (.ref (He.ma K (He.ga K x) mr)))) && (PySem.W.isFn K (.ref (He.ma K (He.ga K x) m)) && (PySem.W.isFn K (.ref (He.ma K (He.ga K x) mr)) &&
  (decide (PySem.W.subIn K (.ref (He.ga K x)) (.type "int") = some false) && decide (PySem.W.kitOne K (.type "int") (.ref (He.ga K x)) = some false))))))
theorem binB_ok {x : Str} {nm : String} {m mr : Str} {K : PySem.W.Frag} (h : binB x nm m mr K = true) : BinC K (He.ga K x) nm (He.ma K (He.ga K x) m) (He.ma K (He.ga K x) mr) := by
  obtain ⟨h1, h⟩ := He.ba h
  obtain ⟨h2, h⟩ := He.ba h
  obtain ⟨h3, h⟩ := He.ba h
  obtain ⟨h4, h⟩ := He.ba h
  obtain ⟨h5, h⟩ := He.ba h
  obtain ⟨h6, h7⟩ := He.ba h
  exact ⟨h1, He.eqO_ok h2, He.eqO_ok h3, h4, h5, of_decide_eq_true h6, of_decide_eq_true h7⟩
end L3
set_option Elab.async false
set_option linter.all false
set_option maxRecDepth 100000
set_option maxHeartbeats 4000000
namespace L3
open PySem PySem.Spec PyProof.Rows L2
/-! ### what a reading computes: plain rules -/
def T {α : Type} (m : M α) (ρ : List S) (Q : α → List S → Prop) : Prop := ∃ x ρ', m ρ = some (.ok x, ρ') ∧ Q x ρ'
def Lf {α : Type} (o : Option α) (P : α → Prop) : Prop := ∃ z, o = some z ∧ P z
/-- data in, data out -/
def GD (g : G) (ds : List D) (d : D) : Prop := ∃ ss', g (ds.map .dat) = some (.ok (.dat d), ss') ∧ ds.length ≤ ss'.length
/-- the first argument is changed in place -/
def GS (g : G) (o : OB) (ds : List D) (P : S → OB → Prop) : Prop := ∃ r o' tl, g (.par o :: ds.map .dat) = some (.ok r, .par o' :: tl) ∧ ds.length ≤ tl.length ∧ P r o'
/-- data in, an object of its own out -/
def GO (g : G) (ds : List D) (o : OB) : Prop := ∃ ss', g (ds.map .dat) = some (.ok (.own o), ss') ∧ ds.length ≤ ss'.length
section
variable {α β : Type} {ρ : List S} {d : D}
theorem Lf.some {z : α} {P : α → Prop} (h : P z) : Lf (some z) P := ⟨z, rfl, h⟩
theorem T.imp {m : M α} {Q Q' : α → List S → Prop} (h : T m ρ Q) (k : ∀ x ρ', Q x ρ' → Q' x ρ') : T m ρ Q' := by
  obtain ⟨x, ρ', e, q⟩ := h
  exact ⟨x, ρ', e, k _ _ q⟩
theorem T_bind {m : M α} {f : α → M β} {Q : β → List S → Prop} (h : T m ρ fun x ρ1 => T (f x) ρ1 Q) : T (m.bind f) ρ Q := by
  obtain ⟨x, ρ1, e, y, ρ2, e2, q⟩ := h
  refine ⟨y, ρ2, ?_, q⟩
  unfold M.bind
  rw [e]
  exact e2
theorem T_pure {a : α} {Q : α → List S → Prop} (h : Q a ρ) : T (M.pure a) ρ Q := ⟨a, ρ, rfl, h⟩
theorem T_lift {o : Option α} {Q : α → List S → Prop} (h : Lf o fun z => Q z ρ) : T (M.lift o) ρ Q := by
  obtain ⟨z, rfl, q⟩ := h
  exact ⟨z, ρ, rfl, q⟩
theorem T_var {i : Nat} {Q : D → List S → Prop} (h : ρ[i]? = some (.dat d)) (q : Q d ρ) : T (mVar i) ρ Q := by
  refine ⟨d, ρ, ?_, q⟩
  unfold mVar
  rw [h]
theorem T_dat {i : Nat} {Q : D → List S → Prop} (h : ρ[i]? = some (.dat d)) (q : Q d ρ) : T (mDat i) ρ Q := by
  refine ⟨d, ρ, ?_, q⟩
  unfold mDat
  rw [h]
theorem T_dato {i : Nat} {o : OB} {Q : D → List S → Prop} (h : ρ[i]? = some (.own o)) (q : Q o.toD (ρ.set i (.dat o.toD))) : T (mDat i) ρ Q := by
  refine ⟨o.toD, _, ?_, q⟩
  unfold mDat
  rw [h]
theorem T_c {Q : D → List S → Prop} (q : Q d ρ) : T (mC d) ρ Q := ⟨d, ρ, rfl, q⟩
theorem T_op {f : D → D → Option D} {a b : M D} {Q : D → List S → Prop} (h : T a ρ fun x ρ1 => T b ρ1 fun y ρ2 => Lf (f x y) fun z => Q z ρ2) : T (mOp f a b) ρ Q :=
  T_bind (h.imp fun _ _ h => T_bind (h.imp fun _ _ h => T_lift h))
theorem T_un {f : D → Option D} {a : M D} {Q : D → List S → Prop} (h : T a ρ fun x ρ1 => Lf (f x) fun z => Q z ρ1) : T (mUn f a) ρ Q := T_bind (h.imp fun _ _ h => T_lift h)
theorem T_args0 {Q : List D → List S → Prop} (q : Q [] ρ) : T (mArgs []) ρ Q := ⟨[], ρ, rfl, q⟩
theorem T_args1 {m : M D} {ms : List (M D)} {Q : List D → List S → Prop} (h : T m ρ fun x ρ1 => T (mArgs ms) ρ1 fun xs ρ2 => Q (x :: xs) ρ2) : T (mArgs (m :: ms)) ρ Q :=
  T_bind (h.imp fun _ _ h => T_bind (h.imp fun _ _ h => T_pure h))
theorem T_cb {f : List D → Option D} {as : List (M D)} {Q : D → List S → Prop} (h : T (mArgs as) ρ fun xs ρ1 => Lf (f xs) fun z => Q z ρ1) : T (mCB f as) ρ Q := T_bind (h.imp fun _ _ h => T_lift h)
theorem T_test {a : M D} {Q : Bool → List S → Prop} (h : T a ρ fun x ρ1 => Lf (asB x) fun z => Q z ρ1) : T (mTest a) ρ Q := T_bind (h.imp fun _ _ h => T_lift h)
theorem T_not {a : M Bool} {Q : Bool → List S → Prop} (h : T a ρ fun x ρ1 => bif x then Q false ρ1 else Q true ρ1) : T (mNot a) ρ Q := T_bind (h.imp fun x _ h => T_pure (by cases x <;> exact h))
theorem T_and {a b : M Bool} {Q : Bool → List S → Prop} (h : T a ρ fun x ρ1 => bif x then T b ρ1 Q else Q false ρ1) : T (mAnd a b) ρ Q :=
  T_bind (h.imp fun x _ h => by cases x <;> first | exact T_pure h | exact h)
theorem T_or {a b : M Bool} {Q : Bool → List S → Prop} (h : T a ρ fun x ρ1 => bif x then Q true ρ1 else T b ρ1 Q) : T (mOr a b) ρ Q :=
  T_bind (h.imp fun x _ h => by cases x <;> first | exact h | exact T_pure h)
theorem T_andV {a b : M D} {Q : D → List S → Prop} (h : T a ρ fun x ρ1 => Lf (asB x) fun t => bif t then T b ρ1 Q else Q (.bl false) ρ1) : T (mAndV a b) ρ Q :=
  T_bind (h.imp fun x _ h => T_bind (T_lift (by obtain ⟨z, e, h⟩ := h; exact ⟨z, e, by cases z <;> first | exact T_pure h | exact h⟩)))
theorem T_orV {a b : M D} {Q : D → List S → Prop} (h : T a ρ fun x ρ1 => Lf (asB x) fun t => bif t then Q (.bl true) ρ1 else T b ρ1 Q) : T (mOrV a b) ρ Q :=
  T_bind (h.imp fun x _ h => T_bind (T_lift (by obtain ⟨z, e, h⟩ := h; exact ⟨z, e, by cases z <;> first | exact h | exact T_pure h⟩)))
theorem T_notV {a : M D} {Q : D → List S → Prop} (h : T a ρ fun x ρ1 => Lf (asB x) fun t => bif t then Q (.bl false) ρ1 else Q (.bl true) ρ1) : T (mNotV a) ρ Q :=
  T_bind (h.imp fun x _ h => T_bind (T_lift (by obtain ⟨z, e, h⟩ := h; exact ⟨z, e, T_pure (by cases z <;> exact h)⟩)))
theorem T_if {t : M Bool} {a b : M D} {Q : D → List S → Prop} (h : T t ρ fun x ρ1 => bif x then T a ρ1 Q else T b ρ1 Q) : T (mIf t a b) ρ Q :=
  T_bind (h.imp fun x _ h => by cases x <;> exact h)
theorem T_ifS {t : M Bool} {a b : M Fl} {Q : Fl → List S → Prop} (h : T t ρ fun x ρ1 => bif x then T a ρ1 Q else T b ρ1 Q) : T (mIfS t a b) ρ Q :=
  T_bind (h.imp fun x _ h => by cases x <;> exact h)
theorem T_both {f g : D → D → Option D} {a b c : M D} {Q : D → List S → Prop} (h : T a ρ fun x ρ1 => T b ρ1 fun y ρ2 => Lf (f x y) fun z => Lf (asB z) fun t => bif t then T c ρ2 fun u ρ3 => Lf (g y u) fun z => Q z ρ3 else Q (.bl false) ρ2) : T (mBoth f g a b c) ρ Q :=
  T_bind (h.imp fun x _ h => T_bind (h.imp fun y _ h => T_bind (T_lift (by
    obtain ⟨z, e, t, e2, h⟩ := h
    refine ⟨z, e, T_bind (T_lift ⟨t, e2, ?_⟩)⟩
    cases t with
    | true => exact T_bind (T.imp h fun _ _ h => T_lift h)
    | false => exact T_pure h))))
theorem T_frz {m : M OB} {Q : D → List S → Prop} (h : T m ρ fun o ρ1 => Q o.toD ρ1) : T (mFrz m) ρ Q := T_bind (h.imp fun _ _ h => T_pure h)
theorem T_lst {as : List (M D)} {Q : OB → List S → Prop} (h : T (mArgs as) ρ fun xs ρ1 => xs.length ≤ 1000000 ∧ Q (.lst xs) ρ1) : T (mLst as) ρ Q :=
  T_bind (h.imp fun xs _ h => T_lift (by rw [if_pos h.1]; exact .some h.2))
theorem T_tup {as : List (M D)} {Q : D → List S → Prop} (h : T (mArgs as) ρ fun xs ρ1 => xs.length ≤ 1000000 ∧ Q (.tup xs) ρ1) : T (mTup as) ρ Q :=
  T_bind (h.imp fun xs _ h => T_lift (by rw [if_pos h.1]; exact .some h.2))
/-! statements -/
theorem T_seq {a b : M Fl} {Q : Fl → List S → Prop} (h : T a ρ fun f ρ1 => match f with
    | .nx => T b ρ1 Q
    | f => Q f ρ1) : T (mSeq a b) ρ Q := by
  obtain ⟨f, ρ1, e, h⟩ := h
  cases f with
  | nx =>
    obtain ⟨x, ρ2, e2, q⟩ := h
    exact ⟨x, ρ2, by unfold mSeq; rw [e]; exact e2, q⟩
  | bk => exact ⟨_, _, by unfold mSeq; rw [e], h⟩
  | ct => exact ⟨_, _, by unfold mSeq; rw [e], h⟩
  | rt s => exact ⟨_, _, by unfold mSeq; rw [e], h⟩
theorem T_skip {Q : Fl → List S → Prop} (h : Q .nx ρ) : T mSkip ρ Q := T_pure h
theorem T_brk {Q : Fl → List S → Prop} (h : Q .bk ρ) : T mBrk ρ Q := T_pure h
theorem T_cnt {Q : Fl → List S → Prop} (h : Q .ct ρ) : T mCnt ρ Q := T_pure h
theorem T_ret {a : M D} {Q : Fl → List S → Prop} (h : T a ρ fun d ρ1 => Q (.rt (.dat d)) ρ1) : T (mRet a) ρ Q := T_bind (h.imp fun _ _ h => T_pure h)
theorem T_retO {a : M OB} {Q : Fl → List S → Prop} (h : T a ρ fun d ρ1 => Q (.rt (.own d)) ρ1) : T (mRetO a) ρ Q := T_bind (h.imp fun _ _ h => T_pure h)
theorem T_drop {a : M D} {Q : Fl → List S → Prop} (h : T a ρ fun d ρ1 => Q .nx ρ1) : T (mDrop a) ρ Q := T_bind (h.imp fun _ _ h => T_pure h)
theorem T_set {a : M D} {p : Put} {Q : Fl → List S → Prop} (h : T a ρ fun d ρ1 => Lf (p d ρ1) fun ρ2 => Q .nx ρ2) : T (mSet a p) ρ Q := by
  refine T_bind (h.imp fun d ρ1 h => ?_)
  obtain ⟨ρ2, e, q⟩ := h
  exact ⟨.nx, ρ2, by dsimp only; rw [e], q⟩
theorem T_setN {a : M D} {i : Nat} {Q : Fl → List S → Prop} (h : T a ρ fun d ρ1 => Q .nx (ρ1.set i (.dat d))) : T (mSet a (pName i)) ρ Q := T_set (h.imp fun _ _ h => .some h)
theorem T_setO {a : M OB} {i : Nat} {Q : Fl → List S → Prop} (h : T a ρ fun d ρ1 => Q .nx (ρ1.set i (.own d))) : T (mSetO i a) ρ Q := T_bind (h.imp fun _ _ h => ⟨_, _, rfl, h⟩)
theorem T_par {a b : M D} {i j : Nat} {Q : Fl → List S → Prop} (h : T a ρ fun x ρ1 => T b ρ1 fun y ρ2 => Q .nx ((ρ2.set i (.dat x)).set j (.dat y))) : T (mPar i j a b) ρ Q :=
  T_bind (h.imp fun _ _ h => T_bind (h.imp fun _ _ h => ⟨_, _, rfl, h⟩))
theorem T_par3 {a b c : M D} {i j l : Nat} {Q : Fl → List S → Prop} (h : T a ρ fun x ρ1 => T b ρ1 fun y ρ2 => T c ρ2 fun z ρ3 => Q .nx (((ρ3.set i (.dat x)).set j (.dat y)).set l (.dat z))) : T (mPar3 i j l a b c) ρ Q :=
  T_bind (h.imp fun _ _ h => T_bind (h.imp fun _ _ h => T_bind (h.imp fun _ _ h => ⟨_, _, rfl, h⟩)))
/-! loops -/
theorem T_items {f : D → Option (List D)} {a : M D} {Q : List D → List S → Prop} (h : T a ρ fun x ρ1 => Lf (f x) fun z => Q z ρ1) : T (mItems f a) ρ Q := T_bind (h.imp fun _ _ h => T_lift h)
theorem T_itemsN {f : List D → Option (List D)} {as : List (M D)} {Q : List D → List S → Prop} (h : T (mArgs as) ρ fun x ρ1 => Lf (f x) fun z => Q z ρ1) : T (mItemsN f as) ρ Q := T_bind (h.imp fun _ _ h => T_lift h)
theorem T_for {it : M (List D)} {p : Put} {b : M Fl} {Q : Fl → List S → Prop} (h : T it ρ fun ds ρ1 => T (loopD p b ds) ρ1 Q) : T (mFor it p b) ρ Q := T_bind h
theorem T_loop0 {p : Put} {b : M Fl} {Q : Fl → List S → Prop} (h : Q .nx ρ) : T (loopD p b []) ρ Q := T_pure h
theorem T_loop1 {p : Put} {b : M Fl} {ds : List D} {Q : Fl → List S → Prop} (h : Lf (p d ρ) fun ρ1 => T b ρ1 fun f ρ2 => (f = .nx ∨ f = .ct) ∧ T (loopD p b ds) ρ2 Q) : T (loopD p b (d :: ds)) ρ Q := by
  obtain ⟨ρ1, e1, f, ρ2, e2, hf, x, ρ3, e3, q⟩ := h
  refine ⟨x, ρ3, ?_, q⟩
  show (match p d ρ with
    | none => none
    | some ρ1 => match b ρ1 with
      | some (.ok .nx, ρ2) => loopD p b ds ρ2
      | some (.ok .ct, ρ2) => loopD p b ds ρ2
      | some (.ok .bk, ρ2) => some (.ok .nx, ρ2)
      | some (.ok (.rt s), ρ2) => some (.ok (.rt s), ρ2)
      | some (.ex x, ρ2) => some (.ex x, ρ2)
      | none => none) = _
  rw [e1]
  show (match b ρ1 with
      | some (.ok .nx, ρ2) => loopD p b ds ρ2
      | some (.ok .ct, ρ2) => loopD p b ds ρ2
      | some (.ok .bk, ρ2) => some (.ok .nx, ρ2)
      | some (.ok (.rt s), ρ2) => some (.ok (.rt s), ρ2)
      | some (.ex x, ρ2) => some (.ex x, ρ2)
      | none => none) = _
  rw [e2]
  rcases hf with rfl | rfl <;> exact e3
/-- by an invariant of what is left -/
theorem T_loop {p : Put} {b : M Fl} {Q : Fl → List S → Prop} (I : List D → List S → Prop) (turn : ∀ d ds ρ, I (d :: ds) ρ → Lf (p d ρ) fun ρ1 => T b ρ1 fun f ρ2 => (f = .nx ∨ f = .ct) ∧ I ds ρ2) (fin : ∀ ρ, I [] ρ → Q .nx ρ) :
    ∀ (ds : List D) (ρ : List S), I ds ρ → T (loopD p b ds) ρ Q
  | [], ρ, h => T_loop0 (fin ρ h)
  | d :: ds, ρ, h => by
    obtain ⟨ρ1, e1, k⟩ := turn d ds ρ h
    exact T_loop1 ⟨ρ1, e1, k.imp fun f ρ2 h => ⟨h.1, T_loop I turn fin ds ρ2 h.2⟩⟩
theorem T_whl {fuel : List S → Nat} {t : M Bool} {b : M Fl} {Q : Fl → List S → Prop} {n : Nat} (hn : fuel ρ = n) (h : T (whl t b n) ρ Q) : T (mWhl fuel t b) ρ Q := by
  subst hn
  exact h
theorem T_whl1 {t : M Bool} {b : M Fl} {n : Nat} {Q : Fl → List S → Prop} (h : T t ρ fun x ρ1 => bif x then T b ρ1 fun f ρ2 => (f = .nx ∨ f = .ct) ∧ T (whl t b n) ρ2 Q else Q .nx ρ1) : T (whl t b (n + 1)) ρ Q := by
  refine T_bind (h.imp fun x ρ1 h => ?_)
  cases x with
  | false => exact T_pure h
  | true =>
    obtain ⟨f, ρ2, e2, hf, y, ρ3, e3, q⟩ := h
    refine ⟨y, ρ3, ?_, q⟩
    rw [if_pos rfl]
    show (match b ρ1 with
      | some (.ok .nx, ρ1) => whl t b n ρ1
      | some (.ok .ct, ρ1) => whl t b n ρ1
      | some (.ok .bk, ρ1) => some (.ok .nx, ρ1)
      | some (.ok (.rt s), ρ1) => some (.ok (.rt s), ρ1)
      | some (.ex x, ρ1) => some (.ex x, ρ1)
      | none => none) = _
    rw [e2]
    rcases hf with rfl | rfl <;> exact e3
/-! calls -/
def agD : List Ag → Option (List D)
  | [] => some []
  | .d x :: gs => (agD gs).map (x :: ·)
  | .s _ :: _ => none
theorem agD_some : ∀ {gs : List Ag} {ds : List D}, agD gs = some ds → gs = ds.map Ag.d
  | [], ds, h => by cases h; rfl
  | .d x :: gs, ds, h => by
    have h' : (agD gs).map (x :: ·) = some ds := h
    cases e : agD gs with
    | none => rw [e] at h'; cases h'
    | some es => rw [e] at h'; cases h'; rw [agD_some e]; rfl
  | .s _ :: _, _, h => by cases h
theorem wback_d' (ρ : List S) : ∀ (ds : List D) (ss : List S), ds.length ≤ ss.length → wback (ds.map Ag.d) ss ρ = some ρ
  | [], _, _ => rfl
  | _ :: ds, [], h => by simp at h
  | _ :: ds, _ :: ss, h => wback_d' ρ ds ss (by simpa using h)
theorem T_ags0 {Q : List Ag → List S → Prop} (h : Q [] ρ) : T (mAgs []) ρ Q := T_pure h
theorem T_ags1 {m : M D} {as : List AgM} {Q : List Ag → List S → Prop} (h : T m ρ fun x ρ1 => T (mAgs as) ρ1 fun gs ρ2 => Q (.d x :: gs) ρ2) : T (mAgs (.d m :: as)) ρ Q :=
  T_bind (h.imp fun _ _ h => T_bind (h.imp fun _ _ h => T_pure h))
def isOb : Option S → Option OB
  | some (.own o) => some o
  | some (.par o) => some o
  | _ => none
theorem isOb_some {x : Option S} {o : OB} (h : isOb x = some o) : x = some (.own o) ∨ x = some (.par o) := by
  match x, h with
  | some (.own _), h => cases h; exact .inl rfl
  | some (.par _), h => cases h; exact .inr rfl
theorem T_agsS {i : Nat} {o : OB} {as : List AgM} {Q : List Ag → List S → Prop} (ho : isOb ρ[i]? = some o) (h : T (mAgs as) ρ fun gs ρ2 => Q (.s i :: gs) ρ2) : T (mAgs (.s i :: as)) ρ Q := by
  have k : T ((mAgs as).bind fun xs => M.pure (.s i :: xs)) ρ Q := T_bind (h.imp fun _ _ h => T_pure h)
  obtain ⟨x, ρ', e, q⟩ := k
  refine ⟨x, ρ', ?_, q⟩
  rcases isOb_some ho with z | z
  · show (match ρ[i]? with
      | some (.own _) => (mAgs as).bind (fun xs => M.pure (Ag.s i :: xs)) ρ
      | some (.par _) => (mAgs as).bind (fun xs => M.pure (Ag.s i :: xs)) ρ
      | _ => none) = _
    rw [z]
    exact e
  · show (match ρ[i]? with
      | some (.own _) => (mAgs as).bind (fun xs => M.pure (Ag.s i :: xs)) ρ
      | some (.par _) => (mAgs as).bind (fun xs => M.pure (Ag.s i :: xs)) ρ
      | _ => none) = _
    rw [z]
    exact e
theorem T_call {n : Nat} {g : G} {dds : List D} {as : M (List Ag)} {Q : D → List S → Prop} (h : T as ρ fun gs ρ1 => T (callAt n g dds gs) ρ1 fun r ρ2 => Lf (asD r) fun d => Q d ρ2) : T (mCall n g dds as) ρ Q :=
  T_bind (T_bind (h.imp fun _ _ h => h.imp fun _ _ h => T_lift h))
theorem T_callO {n : Nat} {g : G} {dds : List D} {as : M (List Ag)} {Q : OB → List S → Prop} (h : T as ρ fun gs ρ1 => T (callAt n g dds gs) ρ1 fun r ρ2 => Lf (asO r) fun d => Q d ρ2) : T (mCallO n g dds as) ρ Q :=
  T_bind (T_bind (h.imp fun _ _ h => h.imp fun _ _ h => T_lift h))
theorem callAt_d {n : Nat} {g : G} {dds ds : List D} {r : S} {ss' : List S} (hn : ds.length + dds.length = n) (h : g ((ds ++ dds).map .dat) = some (.ok r, ss')) (hl : (ds ++ dds).length ≤ ss'.length) : callAt n g dds (ds.map Ag.d) ρ = some (.ok r, ρ) := by
  unfold callAt
  rw [if_pos ⟨by rw [slots_d]; exact List.nodup_nil, by rw [List.length_map]; exact hn⟩, conts_d]
  show (match g (ds.map S.dat ++ dds.map S.dat) with
    | none => none
    | some (r, ss') => match wback (ds.map Ag.d) ss' ρ with
      | none => none
      | some ρ' => some (r, ρ')) = _
  rw [← List.map_append, h]
  show (match wback (ds.map Ag.d) ss' ρ with
      | none => none
      | some ρ' => some (R.ok r, ρ')) = _
  rw [wback_d' ρ ds ss' (by rw [List.length_append] at hl; omega)]
theorem T_cal {n : Nat} {g : G} {dds ds : List D} {gs : List Ag} {Q : S → List S → Prop} (hs : agD gs = some ds) (hn : ds.length + dds.length = n) (h : GD g (ds ++ dds) d) (q : Q (.dat d) ρ) : T (callAt n g dds gs) ρ Q := by
  rw [agD_some hs]
  obtain ⟨ss', e, hl⟩ := h
  exact ⟨_, _, callAt_d hn e hl, q⟩
theorem T_calO {n : Nat} {g : G} {o : OB} {dds ds : List D} {gs : List Ag} {Q : S → List S → Prop} (hs : agD gs = some ds) (hn : ds.length + dds.length = n) (h : GO g (ds ++ dds) o) (q : Q (.own o) ρ) : T (callAt n g dds gs) ρ Q := by
  rw [agD_some hs]
  obtain ⟨ss', e, hl⟩ := h
  exact ⟨_, _, callAt_d hn e hl, q⟩
theorem T_calS {n i : Nat} {g : G} {o : OB} {dds ds : List D} {gs : List Ag} {Q : S → List S → Prop} (ho : isOb ρ[i]? = some o) (hs : agD gs = some ds) (hn : ds.length + dds.length + 1 = n) (h : GS g o (ds ++ dds) fun r o' => Q r (putAt ρ i o')) : T (callAt n g dds (.s i :: gs)) ρ Q := by
  rw [agD_some hs]
  obtain ⟨r, o', tl, e, hl, q⟩ := h
  refine ⟨_, _, ?_, q⟩
  unfold callAt
  have sl : slotsOf (.s i :: ds.map Ag.d) = [i] := by
    show i :: slotsOf (ds.map Ag.d) = [i]
    rw [slots_d]
  have ct : contents ρ (.s i :: ds.map Ag.d) = some (.par o :: ds.map S.dat) := by
    have c1 : content ρ (.s i) = some (.par o) := by
      show (match ρ[i]? with
        | some (.own o) => some (S.par o)
        | some (.par o) => some (S.par o)
        | _ => none) = _
      rcases isOb_some ho with z | z <;> rw [z]
    show (match content ρ (.s i), contents ρ (ds.map Ag.d) with
      | some s, some ss => some (s :: ss)
      | _, _ => none) = _
    rw [c1, conts_d]
  rw [if_pos ⟨by rw [sl]; simp, by rw [List.length_cons, List.length_map]; omega⟩, ct]
  show (match g (.par o :: (ds.map S.dat ++ dds.map S.dat)) with
    | none => none
    | some (r, ss') => match wback (.s i :: ds.map Ag.d) ss' ρ with
      | none => none
      | some ρ' => some (r, ρ')) = _
  rw [← List.map_append, e]
  show (match wback (ds.map Ag.d) tl (putAt ρ i o') with
      | none => none
      | some ρ' => some (R.ok r, ρ')) = _
  rw [wback_d' _ ds tl (by rw [List.length_append] at hl; omega)]
/-! objects -/
theorem T_slot {i : Nat} {o : OB} {Q : OB → List S → Prop} (ho : isOb ρ[i]? = some o) (q : Q o ρ) : T (mSlot i) ρ Q := by
  refine ⟨o, ρ, ?_, q⟩
  unfold mSlot
  rcases isOb_some ho with z | z <;> rw [z]
theorem T_slotL {i : Nat} {ds : List D} {Q : List D → List S → Prop} (ho : isOb ρ[i]? = some (.lst ds)) (q : Q ds ρ) : T (mSlotL i) ρ Q := by
  refine ⟨ds, ρ, ?_, q⟩
  unfold mSlotL
  rcases isOb_some ho with z | z <;> rw [z]
theorem T_fldS {i : Nat} {C : Addr} {f : Str} {o : OB} {Q : D → List S → Prop} (ho : isOb ρ[i]? = some o) (q : Lf (fldO C f o) fun z => Q z ρ) : T (mFldS i C f) ρ Q := T_bind (T_slot ho (T_lift q))
theorem T_setF {i : Nat} {C : Addr} {f : Str} {a : M D} {Q : Fl → List S → Prop} (h : T a ρ fun d ρ1 => ∃ fs, isOb ρ1[i]? = some (.ins C fs) ∧ fs.length < 900 ∧ Q .nx (putAt ρ1 i (.ins C (putD f d fs)))) : T (mSetF i C f a) ρ Q := by
  refine T_bind (h.imp fun d ρ1 h => ?_)
  obtain ⟨fs, h1, h2, q⟩ := h
  exact T_bind (T_slot h1 ⟨_, _, if_pos ⟨rfl, h2⟩, q⟩)
theorem T_ixS {i : Nat} {k : M D} {ds : List D} {Q : D → List S → Prop} (ho : isOb ρ[i]? = some (.lst ds)) (h : T k ρ fun kd ρ1 => isOb ρ1[i]? = some (.lst ds) ∧ Lf (ixD ds kd) fun z => Q z ρ1) : T (mIxS i k) ρ Q :=
  T_bind (T_slot ho (T_bind (h.imp fun kd ρ1 h => T_bind (T_slot h.1 (T_lift h.2)))))
theorem T_setIx {i : Nat} {k a : M D} {Q : Fl → List S → Prop} (h : T a ρ fun d ρ1 => ∃ ds, isOb ρ1[i]? = some (.lst ds) ∧ T k ρ1 fun kd ρ2 => isOb ρ2[i]? = some (.lst ds) ∧ Lf (ixOf ds kd) fun n => Q .nx (putAt ρ2 i (.lst (ds.set n d)))) : T (mSetIx i k a) ρ Q := by
  refine T_bind (h.imp fun d ρ1 h => ?_)
  obtain ⟨ds, h1, h⟩ := h
  refine T_bind (T_slot h1 (T_bind (h.imp fun kd ρ2 h => T_bind (T_slotL h.1 (T_bind (T_lift ?_))))))
  obtain ⟨n, e, q⟩ := h.2
  exact ⟨n, e, _, _, rfl, q⟩
theorem T_app {i : Nat} {a : M D} {ds : List D} {Q : Fl → List S → Prop} (ho : isOb ρ[i]? = some (.lst ds)) (h : T a ρ fun d ρ1 => isOb ρ1[i]? = some (.lst ds) ∧ ds.length < 1000000 ∧ Q .nx (putAt ρ1 i (.lst (ds ++ [d])))) : T (mApp i a) ρ Q :=
  T_bind (T_slotL ho (T_bind (h.imp fun d ρ1 h => T_bind (T_slotL h.1 ⟨_, _, if_pos h.2.1, h.2.2⟩))))
theorem T_lenS {i : Nat} {ds : List D} {Q : D → List S → Prop} (ho : isOb ρ[i]? = some (.lst ds)) (q : Q (.int ds.length) ρ) : T (mLenS i) ρ Q := T_bind (T_slotL ho (T_pure q))
theorem T_mk {C : Addr} {n : Nat} {g : G} {dds : List D} {as : M (List Ag)} {Q : OB → List S → Prop} (h : T as ρ fun gs ρ1 => ∃ ds, agD gs = some ds ∧ ds.length + dds.length + 1 = n ∧ GS g (.ins C []) (ds ++ dds) fun r o => r = .dat .non ∧ Q o ρ1) : T (mMk C n g dds as) ρ Q := by
  refine T_bind (h.imp fun gs ρ1 h => ?_)
  obtain ⟨ds, hs, hn, r, o', tl, e, hl, rfl, q⟩ := h
  rw [agD_some hs]
  refine ⟨o', ρ1, ?_, q⟩
  dsimp only
  rw [if_pos ⟨by rw [slots_d]; exact List.nodup_nil, by rw [List.length_map]; exact hn⟩, conts_d]
  show (match g (.par (.ins C []) :: (ds.map S.dat ++ dds.map S.dat)) with
    | some (.ok (.dat .non), .par o :: ss') => match wback (ds.map Ag.d) ss' ρ1 with
      | none => none
      | some ρ' => some (R.ok o, ρ')
    | some (.ex x, .par _ :: ss') => match wback (ds.map Ag.d) ss' ρ1 with
      | none => none
      | some ρ' => some (.ex x, ρ')
    | _ => none) = _
  rw [← List.map_append, e]
  show (match wback (ds.map Ag.d) tl ρ1 with
      | none => none
      | some ρ' => some (R.ok o', ρ')) = _
  rw [wback_d' _ ds tl (by rw [List.length_append] at hl; omega)]
theorem T_mthD {C : Addr} {m : Str} {n : Nat} {g : G} {dds : List D} {r : M D} {as : M (List Ag)} {Q : D → List S → Prop} (h : T r ρ fun d ρ1 => Lf (recvD C m d) fun gr => T as ρ1 fun gs ρ2 => T (callAt n g dds (gr :: gs)) ρ2 fun r ρ3 => Lf (asD r) fun d => Q d ρ3) :
    T (mMth C m n g dds (.d r) as) ρ Q := by
  refine T_bind (T_bind (T_bind (h.imp fun d ρ1 h => T_lift ?_)))
  obtain ⟨gr, e, h⟩ := h
  exact ⟨gr, e, T_bind (h.imp fun gs ρ2 h => h.imp fun r ρ3 h => T_lift h)⟩
def GDx (g : G) (ds : List D) (P : D → Prop) : Prop := ∃ z, GD g ds z ∧ P z
theorem gdx {g : G} {ds : List D} {z : D} {P : D → Prop} (h : GD g ds z) (q : P z) : GDx g ds P := ⟨z, h, q⟩
theorem T_prop {C : Addr} {g : G} {me : M D} {Q : D → List S → Prop} (h : T me ρ fun d ρ1 => Lf (recvP C d) fun _ => GDx g [d] fun z => Q z ρ1) : T (mProp C g me) ρ Q := by
  refine T_bind (h.imp fun d ρ1 h => ?_)
  obtain ⟨gr, e, z, ⟨ss', e2, _⟩, q⟩ := h
  refine T_bind (T_lift ⟨gr, e, z, ρ1, ?_, q⟩)
  dsimp only
  rw [show g [S.dat d] = _ from e2]
theorem T_callD {g : G} {ds : List D} {z : D} {Q : D → List S → Prop} (h : GD g ds z) (q : Q z ρ) : T (callD g ds) ρ Q := by
  obtain ⟨ss', e, _⟩ := h
  refine ⟨z, ρ, ?_, q⟩
  unfold callD
  rw [e]
theorem T_opI {C : Addr} {prim : D → D → Option D} {gf gr : G} {a b : M D} {Q : D → List S → Prop} (h : T a ρ fun x ρ1 => T b ρ1 fun y ρ2 => T (opI C prim gf gr x y) ρ2 Q) : T (mOpI C prim gf gr a b) ρ Q :=
  T_bind (h.imp fun _ _ h => T_bind h)
theorem T_opII {C : Addr} {prim : D → D → Option D} {gf gr : G} {fs fs' : List (Str × D)} {z : D} {Q : D → List S → Prop} (h : GD gf [.ins C fs, .ins C fs'] z) (q : Q z ρ) : T (opI C prim gf gr (.ins C fs) (.ins C fs')) ρ Q := by
  show T (if C = C ∧ C = C then callD gf [.ins C fs, .ins C fs'] else fun _ => none) ρ Q
  rw [if_pos ⟨rfl, rfl⟩]
  exact T_callD h q
theorem T_opIi {C : Addr} {prim : D → D → Option D} {gf gr : G} {fs : List (Str × D)} {j : Int} {z : D} {Q : D → List S → Prop} (h : GD gf [.ins C fs, .int j] z) (q : Q z ρ) : T (opI C prim gf gr (.ins C fs) (.int j)) ρ Q := by
  show T (if C = C then callD gf [.ins C fs, .int j] else fun _ => none) ρ Q
  rw [if_pos rfl]
  exact T_callD h q
theorem T_opiI {C : Addr} {prim : D → D → Option D} {gf gr : G} {fs : List (Str × D)} {j : Int} {z : D} {Q : D → List S → Prop} (h : GD gr [.ins C fs, .int j] z) (q : Q z ρ) : T (opI C prim gf gr (.int j) (.ins C fs)) ρ Q := by
  show T (if C = C then callD gr [.ins C fs, .int j] else fun _ => none) ρ Q
  rw [if_pos rfl]
  exact T_callD h q
theorem T_unI {C : Addr} {prim : D → Option D} {g : G} {a : M D} {Q : D → List S → Prop} (h : T a ρ fun x ρ1 => T (unI C prim g x) ρ1 Q) : T (mUnI C prim g a) ρ Q := T_bind h
theorem T_unI1 {C : Addr} {prim : D → Option D} {g : G} {fs : List (Str × D)} {z : D} {Q : D → List S → Prop} (h : GD g [.ins C fs] z) (q : Q z ρ) : T (unI C prim g (.ins C fs)) ρ Q := by
  show T (if C = C then callD g [.ins C fs] else fun _ => none) ρ Q
  rw [if_pos rfl]
  exact T_callD h q
theorem T_cbI {C : Addr} {prim : List D → Option D} {g : G} {as : List (M D)} {Q : D → List S → Prop} (h : T (mArgs as) ρ fun x ρ1 => T (unL C prim g x) ρ1 Q) : T (mCBI C prim g as) ρ Q := T_bind h
theorem T_cbI1 {C : Addr} {prim : List D → Option D} {g : G} {fs : List (Str × D)} {z : D} {Q : D → List S → Prop} (h : GD g [.ins C fs] z) (q : Q z ρ) : T (unL C prim g [.ins C fs]) ρ Q := by
  show T (if C = C then callD g [.ins C fs] else fun _ => none) ρ Q
  rw [if_pos rfl]
  exact T_callD h q
theorem T_strI {C : Addr} {prim : List D → Option D} {g : G} {as : List (M D)} {Q : D → List S → Prop} (h : T (mArgs as) ρ fun x ρ1 => T (unT C prim g x) ρ1 Q) : T (mStrI C prim g as) ρ Q := T_bind h
theorem T_strI1 {C : Addr} {prim : List D → Option D} {g : G} {fs : List (Str × D)} {z : Str} {Q : D → List S → Prop} (h : GD g [.ins C fs] (.str z)) (q : Q (.str z) ρ) : T (unT C prim g [.ins C fs]) ρ Q := by
  show T (if C = C then callT g [.ins C fs] else fun _ => none) ρ Q
  rw [if_pos rfl]
  exact T_bind (T_callD h (T_pure q))
/-! texts -/
theorem T_js0 {acc : Str} {Q : Str → List S → Prop} (q : Q acc ρ) : T (mJs [] acc) ρ Q := T_pure q
theorem T_js1 {acc : Str} {m : M D} {ms : List (M D)} {Q : Str → List S → Prop} (h : T m ρ fun d ρ1 => Lf (addS acc d) fun a => T (mJs ms a) ρ1 Q) : T (mJs (m :: ms) acc) ρ Q := by
  refine T_bind (h.imp fun d ρ1 h => T_bind (T_lift h))
theorem T_fs {ms : List (M D)} {Q : D → List S → Prop} (h : T (mJs ms Str.empty) ρ fun x ρ1 => Q (.str x) ρ1) : T (mFs ms) ρ Q := T_bind (h.imp fun _ _ h => T_pure h)
/-! comprehensions -/
def TC (vs : List Nat) (p : Put) (t : M Bool) (e : M D) (ds acc : List D) (ρ : List S) (P : List D → List S → Prop) : Prop := ∃ out ρ', compD vs p t e ds acc ρ = some (out, ρ') ∧ P out ρ'
theorem T_comp {vs : List Nat} {it : M (List D)} {p : Put} {t : M Bool} {e : M D} {Q : OB → List S → Prop} (h : T it ρ fun ds ρ1 => vs.all (plainAt ρ1) = true ∧ ds.length < 900000 ∧ TC vs p t e ds [] (wipeR ρ1 vs) fun out ρ2 => Q (.lst out) (restore ρ1 ρ2 vs)) : T (mComp vs it p t e) ρ Q := by
  refine T_bind (h.imp fun ds ρ1 h => ?_)
  obtain ⟨h1, h2, out, ρ2, e, q⟩ := h
  refine ⟨_, _, ?_, q⟩
  dsimp only
  rw [if_pos ⟨h1, h2⟩, e]
theorem TC0 {vs : List Nat} {p : Put} {t : M Bool} {e : M D} {acc : List D} {P : List D → List S → Prop} (h : P acc ρ) : TC vs p t e [] acc ρ P := ⟨acc, ρ, rfl, h⟩
theorem TC1 {vs : List Nat} {p : Put} {e : M D} {ds acc : List D} {P : List D → List S → Prop} (h : Lf (p d ρ) fun ρ1 => T e ρ1 fun y ρ3 => TC vs p mYes e ds (acc ++ [y]) (wipeR ρ3 vs) P) : TC vs p mYes e (d :: ds) acc ρ P := by
  obtain ⟨ρ1, e1, y, ρ3, e3, out, ρ4, e4, q⟩ := h
  refine ⟨out, ρ4, ?_, q⟩
  show (match p d ρ with
    | none => none
    | some ρ1 => match mYes ρ1 with
      | some (.ok true, ρ2) => match e ρ2 with
        | some (.ok y, ρ3) => compD vs p mYes e ds (acc ++ [y]) (wipeR ρ3 vs)
        | _ => none
      | some (.ok false, ρ2) => compD vs p mYes e ds acc (wipeR ρ2 vs)
      | _ => none) = _
  rw [e1]
  show (match e ρ1 with
        | some (.ok y, ρ3) => compD vs p mYes e ds (acc ++ [y]) (wipeR ρ3 vs)
        | _ => none) = _
  rw [e3]
  exact e4
/-- item by item, the slots left as they were -/
theorem TC_map {vs : List Nat} {p : Put} {e : M D} {P : List D → List S → Prop} (f : D → D) : ∀ (ds acc : List D), (∀ d ∈ ds, Lf (p d ρ) fun ρ1 => T e ρ1 fun y ρ3 => y = f d ∧ wipeR ρ3 vs = ρ) → P (acc ++ ds.map f) ρ → TC vs p mYes e ds acc ρ P
  | [], acc, _, q => TC0 (by simpa using q)
  | d :: ds, acc, h, q => by
    obtain ⟨ρ1, e1, k⟩ := h d List.mem_cons_self
    refine TC1 ⟨ρ1, e1, k.imp fun y ρ3 h2 => ?_⟩
    rw [h2.1, h2.2]
    exact TC_map f ds _ (fun d' hd => h d' (List.mem_cons_of_mem _ hd)) (by simpa using q)
/-! whole defs -/
def FinD (n : Nat) (d : D) (f : Fl) (ρ : List S) : Prop := (f = .rt (.dat d) ∨ (f = .nx ∧ d = .non)) ∧ n ≤ ρ.length
theorem parsOk_d : ∀ (ds : List D) (ρ : List S), ds.length ≤ ρ.length → parsOk (ds.map .dat) ρ = true
  | [], _, _ => rfl
  | _ :: ds, [], h => by simp at h
  | _ :: ds, _ :: ρ, h => parsOk_d ds ρ (by simpa using h)
theorem GD_of {n : Nat} {m : M Fl} {ds : List D} (h : T m (ds.map .dat ++ List.replicate (n - ds.length) .dead) (FinD ds.length d)) : GD (fnSem n m) ds d := by
  obtain ⟨f, ρ', e, hf, hl⟩ := h
  have hp := parsOk_d ds ρ' hl
  refine ⟨ρ'.take ds.length, ?_, by rw [List.length_take]; omega⟩
  unfold fnSem
  rw [List.length_map, e]
  rcases hf with rfl | ⟨rfl, rfl⟩
  · show fin _ _ _ = _
    unfold fin
    rw [if_pos hp, List.length_map]
  · show fin _ _ _ = _
    unfold fin
    rw [if_pos hp, List.length_map]
theorem GO_of {n : Nat} {m : M Fl} {ds : List D} {o : OB} (h : T m (ds.map .dat ++ List.replicate (n - ds.length) .dead) fun f ρ => f = .rt (.own o) ∧ ds.length ≤ ρ.length) : GO (fnSem n m) ds o := by
  obtain ⟨f, ρ', e, hf, hl⟩ := h
  have hp := parsOk_d ds ρ' hl
  refine ⟨ρ'.take ds.length, ?_, by rw [List.length_take]; omega⟩
  unfold fnSem
  rw [List.length_map, e]
  subst hf
  show fin _ _ _ = _
  unfold fin
  rw [if_pos hp, List.length_map]
def FinS (n : Nat) (P : S → OB → Prop) (f : Fl) (ρ : List S) : Prop := ∃ r o tl, (f = .rt r ∨ (f = .nx ∧ r = .dat .non)) ∧ ρ = .par o :: tl ∧ n ≤ tl.length ∧ P r o
theorem GS_of {n : Nat} {m : M Fl} {ds : List D} {o : OB} {P : S → OB → Prop} (h : T m (.par o :: (ds.map .dat ++ List.replicate (n - (ds.length + 1)) .dead)) (FinS ds.length P)) : GS (fnSem n m) o ds P := by
  obtain ⟨f, ρ', e, r, o', tl, hf, rfl, hl, q⟩ := h
  have hp := parsOk_d ds tl hl
  refine ⟨r, o', tl.take ds.length, ?_, by rw [List.length_take]; omega, q⟩
  unfold fnSem
  rw [List.length_cons, List.length_map]
  show (match m (.par o :: (ds.map .dat ++ List.replicate (n - (ds.length + 1)) .dead)) with
    | some (.ok .nx, ρ') => fin _ ρ' (.ok (.dat .non))
    | some (.ok (.rt s), ρ') => fin _ ρ' (.ok s)
    | some (.ex x, ρ') => fin _ ρ' (.ex x)
    | _ => none) = _
  rw [e]
  have pk : parsOk (.par o :: ds.map .dat) (.par o' :: tl) = true := hp
  rcases hf with rfl | ⟨rfl, rfl⟩
  · show fin _ _ _ = _
    unfold fin
    rw [if_pos pk, List.length_cons, List.length_map, List.take_succ_cons]
  · show fin _ _ _ = _
    unfold fin
    rw [if_pos pk, List.length_cons, List.length_map, List.take_succ_cons]
theorem gd_id {g : G} {ds : List D} (h : GD g ds d) : GD g ds d := h
theorem gs_id {g : G} {o : OB} {ds : List D} {P : S → OB → Prop} (h : GS g o ds P) : GS g o ds P := h
theorem GS.imp {g : G} {o : OB} {ds : List D} {P P' : S → OB → Prop} (h : GS g o ds P) (k : ∀ r o', P r o' → P' r o') : GS g o ds P' := by
  obtain ⟨r, o', tl, e, hl, q⟩ := h
  exact ⟨r, o', tl, e, hl, k _ _ q⟩
end
end L3
set_option Elab.async false
set_option linter.all false
set_option maxRecDepth 100000
set_option maxHeartbeats 4000000
namespace L3
open PySem PySem.Spec PyProof.Rows L2
/-! ### operations, plainly -/
section
variable {P : D → Prop} {i j : Int}
theorem L_asB {b : Bool} {P : Bool → Prop} (h : P b) : Lf (asB (.bl b)) P := ⟨_, rfl, h⟩
theorem L_asD {d : D} {P : D → Prop} (h : P d) : Lf (asD (.dat d)) P := ⟨_, rfl, h⟩
theorem L_asO {d : OB} {P : OB → Prop} (h : P d) : Lf (asO (.own d)) P := ⟨_, rfl, h⟩
theorem L_add (h : P (.int (i + j))) : Lf (dAdd (.int i) (.int j)) P := ⟨_, rfl, h⟩
theorem L_cat {xs ys : List D} (h : P (.lst (xs ++ ys))) (hl : xs.length + ys.length ≤ 1000000) : Lf (dAdd (.lst xs) (.lst ys)) P := ⟨_, if_pos hl, h⟩
theorem L_sub (h : P (.int (i - j))) : Lf (dSub (.int i) (.int j)) P := ⟨_, rfl, h⟩
theorem L_mul (h : P (.int (i * j))) (hm : mulOk i j = true) : Lf (dMul (.int i) (.int j)) P := ⟨_, if_pos hm, h⟩
theorem L_fdiv (h : P (.int (i.fdiv j))) (hm : divOk j = true) : Lf (dFdiv (.int i) (.int j)) P := ⟨_, if_pos hm, h⟩
theorem L_mod (h : P (.int (i.fmod j))) (hm : j ≠ 0) : Lf (dMod (.int i) (.int j)) P := ⟨_, if_pos hm, h⟩
theorem L_pow (h : P (.int (i ^ j.toNat))) (hm : powOk i j = true) : Lf (dPow (.int i) (.int j)) P := ⟨_, if_pos hm, h⟩
theorem L_lt (h : P (.bl (decide (i < j)))) : Lf (dLt (.int i) (.int j)) P := ⟨_, rfl, h⟩
theorem L_le (h : P (.bl (decide (i ≤ j)))) : Lf (dLe (.int i) (.int j)) P := ⟨_, rfl, h⟩
theorem L_gt (h : P (.bl (decide (j < i)))) : Lf (dGt (.int i) (.int j)) P := ⟨_, rfl, h⟩
theorem L_ge (h : P (.bl (decide (j ≤ i)))) : Lf (dGe (.int i) (.int j)) P := ⟨_, rfl, h⟩
theorem L_eq (h : P (.bl (decide (i = j)))) : Lf (dEq (.int i) (.int j)) P := ⟨_, rfl, h⟩
theorem L_ne (h : P (.bl (!decide (i = j)))) : Lf (dNe (.int i) (.int j)) P := ⟨_, rfl, h⟩
theorem L_eqS {x y : Str} (h : P (.bl (decide (x = y)))) : Lf (dEq (.str x) (.str y)) P := ⟨_, rfl, h⟩
theorem L_neS {x y : Str} (h : P (.bl (!decide (x = y)))) : Lf (dNe (.str x) (.str y)) P := ⟨_, rfl, h⟩
theorem L_neg (h : P (.int (-i))) : Lf (dNeg (.int i)) P := ⟨_, rfl, h⟩
theorem L_abs (h : P (.int i.natAbs)) : Lf (dAbs [.int i]) P := by
  refine ⟨_, rfl, ?_⟩
  have e : (if i < 0 then -i else i) = (i.natAbs : Int) := by split <;> omega
  rw [e]
  exact h
theorem L_int (h : P (.int i)) : Lf (dInt [.int i]) P := ⟨_, rfl, h⟩
theorem L_intB {b : Bool} (h : P (.int (if b then 1 else 0))) : Lf (dInt [.bl b]) P := ⟨_, rfl, h⟩
theorem L_max (h : P (.int (if j > i then j else i))) : Lf (dMax2 [.int i, .int j]) P := ⟨_, rfl, h⟩
theorem L_min (h : P (.int (if j < i then j else i))) : Lf (dMin2 [.int i, .int j]) P := ⟨_, rfl, h⟩
theorem L_lenL {ds : List D} (h : P (.int ds.length)) : Lf (dLen [.lst ds]) P := ⟨_, rfl, h⟩
theorem L_lenR {ds : List D} (h : P (.int ds.length)) : Lf (dLen [.rdl ds]) P := ⟨_, rfl, h⟩
theorem L_lenT {ds : List D} (h : P (.int ds.length)) : Lf (dLen [.tup ds]) P := ⟨_, rfl, h⟩
theorem L_tupL {ds : List D} (h : P (.tup ds)) : Lf (dTuple [.lst ds]) P := ⟨_, rfl, h⟩
theorem L_tupT {ds : List D} (h : P (.tup ds)) : Lf (dTuple [.tup ds]) P := ⟨_, rfl, h⟩
theorem L_isI_i {Cs : List Addr} (h : P (.bl true)) : Lf (dIsB .int Cs (.int i)) P := ⟨_, rfl, h⟩
theorem L_isB_i {Cs : List Addr} (h : P (.bl false)) : Lf (dIsB .bool Cs (.int i)) P := ⟨_, rfl, h⟩
theorem L_isT_i {Cs : List Addr} (h : P (.bl false)) : Lf (dIsB .tup Cs (.int i)) P := ⟨_, rfl, h⟩
theorem L_isI_b {Cs : List Addr} {b : Bool} (h : P (.bl true)) : Lf (dIsB .int Cs (.bl b)) P := ⟨_, rfl, h⟩
theorem L_isB_b {Cs : List Addr} {b : Bool} (h : P (.bl true)) : Lf (dIsB .bool Cs (.bl b)) P := ⟨_, rfl, h⟩
theorem L_isT_t {Cs : List Addr} {ds : List D} (h : P (.bl true)) : Lf (dIsB .tup Cs (.tup ds)) P := ⟨_, rfl, h⟩
theorem L_isI_t {Cs : List Addr} {ds : List D} (h : P (.bl false)) : Lf (dIsB .int Cs (.tup ds)) P := ⟨_, rfl, h⟩
theorem L_isBC {T : BT} {Cs : List Addr} {C : Addr} {fs : List (Str × D)} (h : P (.bl false)) : Lf (dIsB T (C :: Cs) (.ins C fs)) P := ⟨_, if_pos List.mem_cons_self, h⟩
theorem L_isCI {C0 : Addr} {Cs : List Addr} (h : P (.bl false)) : Lf (dIsC C0 Cs (.int i)) P := ⟨_, rfl, h⟩
theorem L_isCC {C0 : Addr} {Cs : List Addr} {fs : List (Str × D)} (h : P (.bl true)) : Lf (dIsC C0 Cs (.ins C0 fs)) P := ⟨_, if_pos rfl, h⟩
theorem L_fld {C : Addr} {f : Str} {d : D} {fs : List (Str × D)} (hl : fs.lookup f = some d) (h : P d) : Lf (fldD C f (.ins C fs)) P := ⟨_, (if_pos rfl).trans hl, h⟩
theorem L_fldO {C : Addr} {f : Str} {d : D} {fs : List (Str × D)} (hl : fs.lookup f = some d) (h : P d) : Lf (fldO C f (.ins C fs)) P := ⟨_, (if_pos rfl).trans hl, h⟩
theorem L_recv {C : Addr} {m : Str} {fs : List (Str × D)} {P : Ag → Prop} (hl : (fs.lookup m).isNone = true) (h : P (.d (.ins C fs))) : Lf (recvD C m (.ins C fs)) P := ⟨_, if_pos ⟨rfl, hl⟩, h⟩
theorem L_recvP {C : Addr} {fs : List (Str × D)} {P : Ag → Prop} (h : P (.d (.ins C fs))) : Lf (recvP C (.ins C fs)) P := ⟨_, if_pos rfl, h⟩
theorem recvP_ins {C : Addr} {fs : List (Str × D)} : recvP C (.ins C fs) = some (.d (.ins C fs)) := if_pos rfl
theorem L_ixL {ds : List D} {d : D} (hl : atI ds i = some d) (h : P d) : Lf (dIx (.lst ds) (.int i)) P := ⟨_, hl, h⟩
theorem L_ixR {ds : List D} {d : D} (hl : atI ds i = some d) (h : P d) : Lf (dIx (.rdl ds) (.int i)) P := ⟨_, hl, h⟩
theorem L_ixT {ds : List D} {d : D} (hl : atI ds i = some d) (h : P d) : Lf (dIx (.tup ds) (.int i)) P := ⟨_, hl, h⟩
theorem L_ixD {ds : List D} {d : D} (hl : atI ds i = some d) (h : P d) : Lf (ixD ds (.int i)) P := ⟨_, hl, h⟩
theorem L_ixOf {ds : List D} {n : Nat} {P : Nat → Prop} (hl : ixN ds.length i = some n) (h : P n) : Lf (ixOf ds (.int i)) P := ⟨_, hl, h⟩
theorem L_lstD {ds : List D} {P : List D → Prop} (h : P ds) : Lf (lstD (.lst ds)) P := ⟨_, rfl, h⟩
theorem L_lstR {ds : List D} {P : List D → Prop} (h : P ds) : Lf (lstD (.rdl ds)) P := ⟨_, rfl, h⟩
theorem L_tupD {ds : List D} {P : List D → Prop} (h : P ds) : Lf (tupD (.tup ds)) P := ⟨_, rfl, h⟩
theorem L_rng1 {P : List D → Prop} (h : P (rangeD 0 i.toNat)) (h1 : i ≤ 1000000000 ∧ -1000000000 ≤ i) : Lf (rng1 [.int i]) P := ⟨_, if_pos h1, h⟩
theorem L_name {k : Nat} {d : D} {ρ : List S} {P : List S → Prop} (h : P (ρ.set k (.dat d))) : Lf (pName k d ρ) P := ⟨_, rfl, h⟩
theorem L_pTup {is : List Nat} {ds : List D} {ρ : List S} {P : List S → Prop} (hl : ds.length = is.length) (h : P ((is.zip ds).foldl (fun r p => r.set p.1 (.dat p.2)) ρ)) : Lf (pTup is (.tup ds) ρ) P := ⟨_, if_pos hl, h⟩
theorem c_tt {a b : Prop} (h : a) : bif true then a else b := h
theorem c_ff {a b : Prop} (h : b) : bif false then a else b := h
theorem c_t {x : Bool} {a b : Prop} (e : x = true) (h : a) : bif x then a else b := by subst e; exact h
theorem c_f {x : Bool} {a b : Prop} (e : x = false) (h : b) : bif x then a else b := by subst e; exact h
theorem le_lit {n m : Nat} (h : Nat.ble n m = true) : n ≤ m := Nat.le_of_ble_eq_true h
theorem f_d {n : Nat} {d : D} {ρ : List S} (h : n ≤ ρ.length) : FinD n d (.rt (.dat d)) ρ := ⟨.inl rfl, h⟩
theorem f_e {n : Nat} {d d' : D} {ρ : List S} (e : d' = d) (h : n ≤ ρ.length) : FinD n d (.rt (.dat d')) ρ := ⟨.inl (by rw [e]), h⟩
theorem f_n {n : Nat} {ρ : List S} (h : n ≤ ρ.length) : FinD n .non .nx ρ := ⟨.inr ⟨rfl, rfl⟩, h⟩
theorem ex_and {α : Type} {p q : α → Prop} {w : α} (h1 : p w) (h2 : q w) : ∃ w, p w ∧ q w := ⟨w, h1, h2⟩
theorem fs_d {n : Nat} {P : S → OB → Prop} {r : S} {o : OB} {ρ tl : List S} (e : ρ = .par o :: tl) (hl : n ≤ tl.length) (h : P r o) : FinS n P (.rt r) ρ := ⟨r, o, tl, .inl rfl, e, hl, h⟩
theorem fs_n {n : Nat} {P : S → OB → Prop} {o : OB} {ρ tl : List S} (e : ρ = .par o :: tl) (hl : n ≤ tl.length) (h : P (.dat .non) o) : FinS n P .nx ρ := ⟨_, o, tl, .inr ⟨rfl, rfl⟩, e, hl, h⟩
end
end L3
set_option Elab.async false
set_option linter.all false
set_option maxRecDepth 100000
set_option maxHeartbeats 4000000
namespace L3
open PySem PySem.Spec PyProof.Rows L2
local macro_rules
  | `(tactic| infer_instance) => `(tactic| first
    | with_reducible apply T_seq | with_reducible apply T_setN | with_reducible apply T_set | with_reducible apply T_setO | with_reducible apply T_ret | with_reducible apply T_retO | with_reducible apply T_ifS | with_reducible apply T_par | with_reducible apply T_par3 | with_reducible apply T_drop | with_reducible apply T_skip | with_reducible apply T_for
    | ((with_reducible apply T_var); exact rfl) | ((with_reducible apply T_dat); exact rfl) | ((with_reducible apply T_dato); exact rfl) | with_reducible apply T_c | with_reducible apply T_op | with_reducible apply T_un | with_reducible apply T_cb | with_reducible apply T_args1 | with_reducible apply T_args0 | with_reducible apply T_test | with_reducible apply T_not | with_reducible apply T_and | with_reducible apply T_or | with_reducible apply T_andV | with_reducible apply T_orV | with_reducible apply T_notV | with_reducible apply T_if | with_reducible apply T_both | with_reducible apply T_frz
    | with_reducible apply T_lst | ((with_reducible apply T_tup)) | with_reducible apply T_items | with_reducible apply T_itemsN
    | with_reducible apply T_call | with_reducible apply T_callO | with_reducible apply T_mk | with_reducible apply T_mthD | with_reducible apply T_prop | with_reducible apply T_opI | with_reducible apply T_unI | with_reducible apply T_cbI | with_reducible apply T_strI | with_reducible apply T_fs | with_reducible apply T_js1 | with_reducible apply T_js0
    | with_reducible apply T_ags1 | with_reducible apply T_ags0 | ((with_reducible apply T_agsS); exact rfl)
    | ((with_reducible apply T_fldS); exact rfl) | with_reducible apply T_setF | ((with_reducible apply T_ixS); exact rfl) | with_reducible apply T_setIx | ((with_reducible apply T_app); exact rfl) | ((with_reducible apply T_lenS); exact rfl)
    | ((with_reducible apply T_calS); exact rfl; exact rfl; exact rfl) | ((with_reducible apply T_cal); exact rfl; exact rfl) | with_reducible apply L_recvP | with_reducible apply gdx
    | with_reducible apply T_callD | with_reducible apply T_opII | with_reducible apply T_opIi | with_reducible apply T_opiI | with_reducible apply T_unI1 | with_reducible apply T_cbI1 | with_reducible apply T_strI1
    | with_reducible apply c_tt | with_reducible apply c_ff
    | with_reducible apply L_asB | with_reducible apply L_asD | with_reducible apply L_asO | with_reducible apply L_add | with_reducible apply L_sub | with_reducible apply L_mul | with_reducible apply L_fdiv | with_reducible apply L_mod | with_reducible apply L_pow | with_reducible apply L_lt | with_reducible apply L_le | with_reducible apply L_gt | with_reducible apply L_ge | with_reducible apply L_eq | with_reducible apply L_ne | with_reducible apply L_eqS | with_reducible apply L_neS
    | with_reducible apply L_neg | with_reducible apply L_abs | with_reducible apply L_int | with_reducible apply L_intB | with_reducible apply L_max | with_reducible apply L_min | with_reducible apply L_lenL | with_reducible apply L_lenR | with_reducible apply L_lenT | with_reducible apply L_tupL | with_reducible apply L_tupT | with_reducible apply L_cat
    | with_reducible apply L_isI_i | with_reducible apply L_isB_i | with_reducible apply L_isT_i | with_reducible apply L_isI_b | with_reducible apply L_isB_b | with_reducible apply L_isT_t | with_reducible apply L_isI_t | with_reducible apply L_isBC | with_reducible apply L_isCI | with_reducible apply L_isCC | ((with_reducible apply L_fld); exact rfl) | ((with_reducible apply L_fldO); exact rfl) | ((with_reducible apply L_recv); exact rfl)
    | ((with_reducible apply L_ixL); exact rfl) | ((with_reducible apply L_ixR); exact rfl) | ((with_reducible apply L_ixT); exact rfl) | ((with_reducible apply L_ixD); exact rfl) | ((with_reducible apply L_ixOf); exact rfl) | with_reducible apply L_lstD | with_reducible apply L_lstR | with_reducible apply L_tupD | with_reducible apply L_name | ((with_reducible apply L_pTup); exact rfl)
    | ((with_reducible apply f_d); exact le_lit rfl) | ((with_reducible apply f_n); exact le_lit rfl) | ((with_reducible apply fs_d); exact rfl; exact le_lit rfl) | ((with_reducible apply fs_n); exact rfl; exact le_lit rfl)
    | ((with_reducible refine And.intro ?_ ?_); (first | exact rfl | exact le_lit rfl)) | ((with_reducible apply ex_and); exact rfl))
/-! ### sizes -/
def Sz (n : Nat) (i : Int) : Prop := i.natAbs < 2 ^ n
instance {n : Nat} {i : Int} : Decidable (Sz n i) := inferInstanceAs (Decidable (i.natAbs < 2 ^ n))
theorem Sz.log {n : Nat} {i : Int} (h : Sz n i) : i.natAbs.log2 ≤ n := by
  by_cases h0 : i.natAbs = 0
  · rw [h0]; exact Nat.zero_le _
  · exact Nat.le_of_lt ((Nat.log2_lt h0).mpr h)
theorem Sz.mono {n m : Nat} {i : Int} (h : Sz n i) (k : n ≤ m) : Sz m i := Nat.lt_of_lt_of_le h (Nat.pow_le_pow_right (by decide) k)
theorem Sz.mul {n m : Nat} {i j : Int} (h : Sz n i) (k : Sz m j) : Sz (n + m) (i * j) := by
  unfold Sz at *
  rw [Int.natAbs_mul, Nat.pow_add]
  exact Nat.mul_lt_mul'' h k
theorem Sz.add {n : Nat} {i j : Int} (h : Sz n i) (k : Sz n j) : Sz (n + 1) (i + j) := by
  unfold Sz at *
  rw [Nat.pow_succ]
  omega
theorem Sz.sub {n : Nat} {i j : Int} (h : Sz n i) (k : Sz n j) : Sz (n + 1) (i - j) := by
  unfold Sz at *
  rw [Nat.pow_succ]
  omega
theorem Sz.neg {n : Nat} {i : Int} (h : Sz n i) : Sz n (-i) := by
  unfold Sz at *
  omega
theorem Sz.le {n : Nat} {i j : Int} (h : Sz n j) (k : i.natAbs ≤ j.natAbs) : Sz n i := Nat.lt_of_le_of_lt k h
theorem Sz.mulOk {n m : Nat} {i j : Int} (h : Sz n i) (k : Sz m j) (l : n + m < 1000000) : mulOk i j = true := by
  have h1 := h.log
  have k1 := k.log
  exact decide_eq_true (by omega)
theorem Sz.divOk {n : Nat} {j : Int} (h : Sz n j) (h0 : j ≠ 0) (l : n < 9000) : divOk j = true := by
  have h1 := h.log
  exact decide_eq_true ⟨h0, by omega⟩
/-! ### the greatest common divisor -/
theorem gcd_step {a b : Int} (ha : 0 ≤ a) (hb : 0 < b) : b.gcd (a.fmod b) = a.gcd b := by
  rw [Int.fmod_eq_emod_of_nonneg _ (Int.le_of_lt hb)]
  unfold Int.gcd
  rw [Int.natAbs_emod_of_nonneg ha, Nat.gcd_comm, ← Nat.gcd_rec, Nat.gcd_comm]
def tGcd1 : M Bool := mTest (mOp dNe (mVar 1) (mC (.int 0)))
def bGcd1 : M Fl := mPar 0 1 (mVar 1) (mOp dMod (mVar 0) (mVar 1))
theorem w_gcd1 : ∀ (n : Nat) (a b : Int), 0 ≤ a → 0 ≤ b → b.toNat < n → T (whl tGcd1 bGcd1 n) [.dat (.int a), .dat (.int b)] fun f ρ => f = .nx ∧ ρ = [.dat (.int (a.gcd b)), .dat (.int 0)]
  | 0, _, _, _, _, h => absurd h (Nat.not_lt_zero _)
  | n + 1, a, b, ha, hb, h => by
    refine T_whl1 ?_
    unfold tGcd1
    repeat infer_instance
    by_cases h0 : b = 0
    · subst h0
      refine c_f (by simp) ⟨rfl, ?_⟩
      rw [Int.gcd_zero_right]
      have : (a.natAbs : Int) = a := by omega
      rw [this]
    · refine c_t (by simp [h0]) ?_
      unfold bGcd1
      have hb' : 0 < b := by omega
      have e := gcd_step ha hb'
      have k := w_gcd1 n b (a.fmod b) hb (Int.fmod_nonneg_of_pos _ hb') (by have := Int.fmod_lt_of_pos a hb'; omega)
      rw [e] at k
      repeat infer_instance
      · exact ⟨.inl rfl, k⟩
      · exact h0
theorem gd_gcd1 {a b : Int} (ha : 0 ≤ a) (hb : 0 ≤ b) : GD (fnSem 2 (mSeq (mWhl (fun ρ => gcdFuel ρ 1) (mTest (mOp dNe (mVar 1) (mC (.int 0)))) (mPar 0 1 (mVar 1) (mOp dMod (mVar 0) (mVar 1)))) (mRet (mVar 0)))) [.int a, .int b] (.int (a.gcd b)) := by
  refine GD_of (T_seq (T_whl rfl ((w_gcd1 _ a b ha hb ?_).imp fun f ρ h => ?_)))
  · show b.toNat < b.natAbs + 2
    omega
  · obtain ⟨rfl, rfl⟩ := h
    repeat infer_instance
def tGcd2 : M Bool := mTest (mOp dGt (mVar 1) (mC (.int 0)))
def bGcd2 : M Fl := mPar 0 1 (mVar 1) (mOp dMod (mCB dInt [(mVar 0)]) (mVar 1))
theorem w_gcd2 : ∀ (n : Nat) (a b : Int), 0 ≤ a → 0 ≤ b → b.toNat < n → T (whl tGcd2 bGcd2 n) [.dat (.int a), .dat (.int b)] fun f ρ => f = .nx ∧ ρ = [.dat (.int (a.gcd b)), .dat (.int 0)]
  | 0, _, _, _, _, h => absurd h (Nat.not_lt_zero _)
  | n + 1, a, b, ha, hb, h => by
    refine T_whl1 ?_
    unfold tGcd2
    repeat infer_instance
    by_cases h0 : b = 0
    · subst h0
      refine c_f (by simp) ⟨rfl, ?_⟩
      rw [Int.gcd_zero_right]
      have : (a.natAbs : Int) = a := by omega
      rw [this]
    · have hb' : 0 < b := by omega
      refine c_t (by simp [hb']) ?_
      unfold bGcd2
      have e := gcd_step ha hb'
      have k := w_gcd2 n b (a.fmod b) hb (Int.fmod_nonneg_of_pos _ hb') (by have := Int.fmod_lt_of_pos a hb'; omega)
      rw [e] at k
      repeat infer_instance
      · exact ⟨.inl rfl, k⟩
      · exact h0
theorem gd_gcd2 {a b : Int} (ha : 0 ≤ a) (hb : 0 ≤ b) : GD (fnSem 2 (mSeq (mWhl (fun ρ => gcdFuel ρ 1) (mTest (mOp dGt (mVar 1) (mC (.int 0)))) (mPar 0 1 (mVar 1) (mOp dMod (mCB dInt [(mVar 0)]) (mVar 1)))) (mRet (mVar 0)))) [.int a, .int b] (.int (a.gcd b)) := by
  refine GD_of (T_seq (T_whl rfl ((w_gcd2 _ a b ha hb ?_).imp fun f ρ h => ?_)))
  · show b.toNat < b.natAbs + 2
    omega
  · obtain ⟨rfl, rfl⟩ := h
    repeat infer_instance
/-! ### dice -/
def Dice (L : Nat) (o : OB) : Prop := ∃ a b c : Int, o = .lst [.int a, .int b, .int c] ∧ 0 ≤ b ∧ b < 2 ^ 64 ∧ 0 ≤ c ∧ c ≤ L
theorem Dice.mono {L L' : Nat} {o : OB} (h : Dice L o) (k : L ≤ L') : Dice L' o := by
  obtain ⟨a, b, c, e, h1, h2, h3, h4⟩ := h
  exact ⟨a, b, c, e, h1, h2, h3, by omega⟩
def mRoll : M Fl :=
  (mSeq (mIfS (mTest (mOp dGt (mIxS 0 (mC (.int 0))) (mC (.int 0))))
  (mSeq (mSet (mOp dMod (mCB dInt [(mIxS 0 (mC (.int 0)))]) (mVar 1)) (pName 2))
  (mSeq (mSetIx 0 (mC (.int 0)) (mOp dFdiv (mIxS 0 (mC (.int 0))) (mVar 1)))
  (mRet (mVar 2))))
  mSkip)
  (mSeq (mSetIx 0 (mC (.int 2)) (mOp dAdd (mIxS 0 (mC (.int 2))) (mC (.int 1))))
  (mSeq (mSet (mOp dMod (mCB dInt [(mOp dAdd (mIxS 0 (mC (.int 1))) (mOp dMul (mC (.int 1000193)) (mIxS 0 (mC (.int 2)))))]) (mC (.int 2305843009213693951))) (pName 3))
  (mSeq (mSet (mOp dAdd (mOp dMul (mOp dMod (mCB dInt [(mOp dMul (mVar 3) (mVar 3))]) (mC (.int 2305843009213693921))) (mVar 3)) (mOp dMul (mC (.int 8221)) (mIxS 0 (mC (.int 2))))) (pName 4))
  (mSeq (mSet (mOp dMod (mCB dInt [(mVar 4)]) (mC (.int 2305843009213693907))) (pName 4))
  (mRet (mOp dMod (mCB dInt [(mOp dFdiv (mVar 4) (mC (.int 8192)))]) (mVar 1))))))))
/-- what a roll gives -/
def Rolled (L : Nat) (n : Int) (r : S) (o : OB) : Prop := ∃ k : Int, r = .dat (.int k) ∧ 0 ≤ k ∧ k < n ∧ Dice (L + 1) o
theorem sz_fmod {n : Nat} {a m : Int} (h0 : 0 < m) (h : Sz n m) : Sz n (a.fmod m) := by
  have h1 := Int.fmod_nonneg_of_pos a h0
  have h2 := Int.fmod_lt_of_pos a h0
  exact h.le (by omega)
theorem sz_nat {n m : Nat} (h : m ≤ n) : Sz n (m : Int) := by
  unfold Sz
  rw [Int.natAbs_natCast]
  exact Nat.lt_of_le_of_lt h Nat.lt_two_pow_self
theorem gs_roll {L : Nat} {o : OB} {n : Int} (hd : Dice L o) (hL : L ≤ 1000000) (hn : 0 < n) (hn2 : divOk n = true) : GS (fnSem 5 mRoll) o [.int n] (Rolled L n) := by
  obtain ⟨a, b, c, rfl, hb, hb2, hc, hc2⟩ := hd
  have hc1 : Sz 40 (c + 1) := by
    unfold Sz
    omega
  refine GS_of ?_
  unfold mRoll
  repeat infer_instance
  by_cases ha : 0 < a
  · refine c_t (by simp [ha]) ?_
    repeat infer_instance
    · exact ⟨_, rfl, Int.fmod_nonneg_of_pos _ hn, Int.fmod_lt_of_pos _ hn, _, _, _, rfl, hb, hb2, hc, by omega⟩
    all_goals first | exact hn2 | omega
  · refine c_f (by simp [ha]) ?_
    repeat infer_instance
    · exact ⟨_, rfl, Int.fmod_nonneg_of_pos _ hn, Int.fmod_lt_of_pos _ hn, _, _, _, rfl, hb, hb2, by omega, by omega⟩
    · omega
    · decide +kernel
    · decide
    · exact Sz.mulOk (n := 20) (m := 40) (by decide +kernel) hc1 (by decide)
    · exact Sz.mulOk (sz_fmod (n := 62) (by decide) (by decide +kernel)) (sz_fmod (n := 62) (by decide) (by decide +kernel)) (by decide)
    · decide
    · exact Sz.mulOk (sz_fmod (n := 62) (by decide) (by decide +kernel)) (sz_fmod (n := 62) (by decide) (by decide +kernel)) (by decide)
    · decide
    · exact Sz.mulOk (n := 20) (m := 40) (by decide +kernel) hc1 (by decide)
/-- one of these -/
theorem atI_some {ds : List D} {k : Int} (h0 : 0 ≤ k) (h1 : k < ds.length) : ∃ d, atI ds k = some d ∧ d ∈ ds := by
  have hk : k.toNat < ds.length := by omega
  refine ⟨ds[k.toNat], ?_, List.getElem_mem hk⟩
  unfold atI ixN
  rw [if_pos h0, if_pos h1]
  simp [hk]
def Chosen (L : Nat) (ds : List D) (r : S) (o : OB) : Prop := ∃ d, r = .dat d ∧ d ∈ ds ∧ Dice (L + 1) o
theorem gs_one_of {L : Nat} {o : OB} {ds : List D} {g : G} (hg : ∀ n : Int, 0 < n → divOk n = true → GS g o [.int n] (Rolled L n)) (h0 : ds ≠ []) (h1 : ds.length < 1000) :
    GS (fnSem 2 (mRet (mOp dIx (mVar 1) (mCall 2 g [] (mAgs [.s 0, .d (mCB dLen [(mVar 1)])]))))) o [.lst ds] (Chosen L ds) := by
  have hl : 0 < ds.length := List.length_pos_iff.mpr h0
  refine GS_of ?_
  repeat infer_instance
  refine (hg (ds.length : Int) (by omega) (Sz.divOk (n := 1000) (sz_nat (by omega)) (by omega) (by decide))).imp fun r o' h => ?_
  obtain ⟨k, rfl, k0, k1, hd⟩ := h
  obtain ⟨d, e, hm⟩ := atI_some k0 k1
  repeat infer_instance
  refine L_ixL e ?_
  repeat infer_instance
  exact ⟨d, rfl, hm, hd⟩
def mDice : M Fl :=
  (mSeq (mSet (mOp dAdd (mOp dMul (mC (.int 29)) (mVar 1)) (mC (.int 7))) (pName 2))
  (mSeq (mIfS (mTest (mOp dLt (mVar 1) (mCB dLen [(mVar 0)])))
  (mSet (mOp dIx (mVar 0) (mVar 1)) (pName 2))
  mSkip)
  (mSeq (mSet (mOp dMod (mCB dInt [(mCB dAbs [(mVar 2)])]) (mOp dPow (mOp dPow (mC (.int 10)) (mC (.int 60))) (mC (.int 10)))) (pName 3))
  (mSeq (mSet (mOp dAdd (mOp dAdd (mOp dAdd (mOp dMul (mOp dMod (mCB dInt [(mVar 3)]) (mC (.int 2147483549))) (mC (.int 51001))) (mOp dMul (mC (.int 4099)) (mVar 1))) (mOp dMul (mC (.int 17)) (mCB dInt [(mOp dLt (mVar 2) (mC (.int 0)))]))) (mC (.int 41))) (pName 4))
  (mRetO (mLst [(mCB dMax2 [(mC (.int 0)), (mOp dSub (mVar 3) (mOp dPow (mC (.int 10)) (mC (.int 18))))]), (mOp dMod (mCB dInt [(mVar 4)]) (mC (.int 2147483543))), (mC (.int 0))]))))))
theorem go_dice {ns : List Int} {k : Int} (k0 : 0 ≤ k) (k1 : k < 1000) : ∃ o, GO (fnSem 5 mDice) [.rdl (ns.map D.int), .int k] o ∧ Dice 0 o := by
  have key : ∀ cell : Int, T (mSeq (mSet (mOp dMod (mCB dInt [(mCB dAbs [(mVar 2)])]) (mOp dPow (mOp dPow (mC (.int 10)) (mC (.int 60))) (mC (.int 10)))) (pName 3))
      (mSeq (mSet (mOp dAdd (mOp dAdd (mOp dAdd (mOp dMul (mOp dMod (mCB dInt [(mVar 3)]) (mC (.int 2147483549))) (mC (.int 51001))) (mOp dMul (mC (.int 4099)) (mVar 1))) (mOp dMul (mC (.int 17)) (mCB dInt [(mOp dLt (mVar 2) (mC (.int 0)))]))) (mC (.int 41))) (pName 4))
      (mRetO (mLst [(mCB dMax2 [(mC (.int 0)), (mOp dSub (mVar 3) (mOp dPow (mC (.int 10)) (mC (.int 18))))]), (mOp dMod (mCB dInt [(mVar 4)]) (mC (.int 2147483543))), (mC (.int 0))]))))
      [.dat (.rdl (ns.map D.int)), .dat (.int k), .dat (.int cell), .dead, .dead] fun f ρ => ∃ o, f = .rt (.own o) ∧ 2 ≤ ρ.length ∧ Dice 0 o := fun cell => by
    repeat infer_instance
    · exact ⟨_, _, _, rfl, Int.fmod_nonneg_of_pos _ (by decide), Int.lt_trans (Int.fmod_lt_of_pos _ (by decide)) (by decide), by decide, by decide⟩
    · decide
    · decide +kernel
    · exact Sz.mulOk (n := 20) (m := 40) (by decide +kernel) (by split <;> decide +kernel) (by decide)
    · exact Sz.mulOk (n := 20) (m := 40) (by decide +kernel) (by unfold Sz; omega) (by decide)
    · exact Sz.mulOk (m := 20) (sz_fmod (n := 62) (by decide) (by decide +kernel)) (by decide +kernel) (by decide)
    · decide
    · decide +kernel
    · decide +kernel
    · decide +kernel
  have whole : ∃ o, T mDice [.dat (.rdl (ns.map D.int)), .dat (.int k), .dead, .dead, .dead] (fun f ρ => f = .rt (.own o) ∧ 2 ≤ ρ.length) ∧ Dice 0 o := by
    have w : T mDice [.dat (.rdl (ns.map D.int)), .dat (.int k), .dead, .dead, .dead] fun f ρ => ∃ o, f = .rt (.own o) ∧ 2 ≤ ρ.length ∧ Dice 0 o := by
      unfold mDice
      repeat infer_instance
      · by_cases hk : k < (ns.map D.int).length
        · refine c_t (by simp only [hk, decide_true]) ?_
          obtain ⟨d, e, hm⟩ := atI_some k0 hk
          obtain ⟨cell, _, rfl⟩ := List.mem_map.mp hm
          repeat infer_instance
          refine L_ixR e ?_
          exact key cell
        · refine c_f (by simp only [hk, decide_false]) ?_
          refine T_skip ?_
          exact key (29 * k + 7)
      · exact Sz.mulOk (n := 20) (m := 40) (by decide +kernel) (by unfold Sz; omega) (by decide)
    obtain ⟨f, ρ, e, o, h1, h2, h3⟩ := w
    exact ⟨o, ⟨f, ρ, e, h1, h2⟩, h3⟩
  obtain ⟨o, h, hd⟩ := whole
  exact ⟨o, GO_of h, hd⟩
end L3
set_option Elab.async false
set_option linter.all false
set_option maxRecDepth 100000
set_option maxHeartbeats 4000000
namespace L3
open PySem PySem.Spec PyProof.Rows L2
/-! ### repr, plainly -/
mutual
inductive Rp : D → Nat → Nat → Prop
  | bl (b : Bool) : Rp (.bl b) 600 0
  | int {i : Int} (h : Sz 1900 i) : Rp (.int i) 600 0
  | tup {ds : List D} {n k : Nat} (h : RpL ds n k) : Rp (.tup ds) (n + 3) (k + 1)
  | lst {ds : List D} {n k : Nat} (h : RpL ds n k) : Rp (.lst ds) (n + 3) (k + 1)
inductive RpL : List D → Nat → Nat → Prop
  | nil : RpL [] 0 0
  | cons {d : D} {ds : List D} {n k m l : Nat} (h : Rp d n k) (t : RpL ds m l) : RpL (d :: ds) (n + 2 + m) (max k l)
end
theorem two10 : (2 : Nat) ^ 1900 < 10 ^ 590 := by decide +kernel
theorem int_len {i : Int} (h : Sz 1900 i) : (PyData.shown (.int i)).length ≤ 600 := by
  have e := int_text_length_le10 (k := 590) (by decide) (Nat.lt_trans h two10)
  show (Str.ofString (toString i)).length ≤ 600
  rw [PySem.ofString_length]
  exact Nat.le_trans e (by decide)
theorem int_show {i : Int} (h : Sz 1900 i) : PyData.showable (.int i) = true := by
  have := h.log
  exact decide_eq_true (show i.natAbs.log2 < 1920 by omega)
mutual
theorem Rp.py : ∀ {d : D} {n k : Nat}, Rp d n k → ∃ p, d.py = some p ∧ p.showable = true ∧ p.hasDict = false ∧ p.depth = k ∧ p.shown.length ≤ n
  | _, _, _, .bl b => ⟨_, rfl, rfl, rfl, rfl, by cases b <;> decide⟩
  | _, _, _, .int h => ⟨_, rfl, int_show h, rfl, rfl, int_len h⟩
  | _, _, _, .tup h => by
    obtain ⟨ps, e, h1, h2, h3, h4⟩ := RpL.py h
    refine ⟨.tuple ps, ?_, h1, h2, ?_, ?_⟩
    · show (D.py.pyL _).map PyData.tuple = _
      rw [e]; rfl
    · show PyData.depthAll ps + 1 = _
      rw [h3]
    · have := tupleText_len_le (PyData.shownAll ps)
      rw [PyData.shownAll_length] at this
      show (tupleText (PyData.shownAll ps)).length ≤ _
      omega
  | _, _, _, .lst h => by
    obtain ⟨ps, e, h1, h2, h3, h4⟩ := RpL.py h
    refine ⟨.list ps, ?_, h1, h2, ?_, ?_⟩
    · show (D.py.pyL _).map PyData.list = _
      rw [e]; rfl
    · show PyData.depthAll ps + 1 = _
      rw [h3]
    · have := listText_len_le (PyData.shownAll ps)
      rw [PyData.shownAll_length] at this
      show (listText (PyData.shownAll ps)).length ≤ _
      omega
theorem RpL.py : ∀ {ds : List D} {n k : Nat}, RpL ds n k → ∃ ps, D.py.pyL ds = some ps ∧ PyData.showableAll ps = true ∧ PyData.hasDictAll ps = false ∧ PyData.depthAll ps = k ∧ ((PyData.shownAll ps).map (·.length)).sum + 2 * ps.length ≤ n
  | _, _, _, .nil => ⟨[], rfl, rfl, rfl, rfl, by decide⟩
  | _, _, _, .cons (d := d) (ds := ds) h t => by
    obtain ⟨p, e, h1, h2, h3, h4⟩ := Rp.py h
    obtain ⟨ps, e', h1', h2', h3', h4'⟩ := RpL.py t
    refine ⟨p :: ps, ?_, ?_, ?_, ?_, ?_⟩
    · show (match d.py, D.py.pyL ds with
        | some p, some ps => some (p :: ps)
        | _, _ => none) = _
      rw [e, e']
    · show (p.showable && PyData.showableAll ps) = true
      rw [h1, h1']; rfl
    · show (p.hasDict || PyData.hasDictAll ps) = false
      rw [h2, h2']; rfl
    · show max p.depth (PyData.depthAll ps) = _
      rw [h3, h3']
    · simp only [PyData.shownAll, List.map_cons, List.sum_cons, List.length_cons]
      omega
end
def shD (d : D) : Str := match d.py with
  | some p => p.shown
  | none => Str.empty
theorem L_repr {d : D} {n k : Nat} {P : D → Prop} (h : P (.str (shD d))) (r : Rp d n k) (hn : n ≤ 1000000) (hk : k ≤ 60) : Lf (dRepr [d]) P := by
  obtain ⟨p, e, h1, h2, h3, h4⟩ := r.py
  refine ⟨.str (shD d), ?_, h⟩
  unfold dRepr shD
  simp only [e]
  rw [if_pos]
  unfold reprOk
  rw [h1, h2, h3]
  simp only [Bool.not_false, Bool.and_true, Bool.true_and, Bool.and_eq_true, decide_eq_true_eq]
  exact ⟨hk, by omega⟩
theorem L_rep {xs : List D} {k : Int} {P : D → Prop} (h : P (.lst (List.replicate k.toNat xs).flatten)) (hm : k ≤ 1000000 ∧ -1000000 ≤ k ∧ xs.length * k.toNat ≤ 1000000) : Lf (dMul (.lst xs) (.int k)) P := ⟨_, if_pos hm, h⟩
/-- the same data, on both sides -/
theorem L_eqD {d : D} {p : PyData} {P : D → Prop} (e : d.py = some p) (hs : SeqAt.shaped p = true) (hd : dEq d d = dEqD d d) (h : P (.bl true)) : Lf (dEq d d) P := by
  refine ⟨.bl true, ?_, h⟩
  rw [hd]
  unfold dEqD
  rw [e]
  show (if (SeqAt.shaped p && SeqAt.shaped p) = true then some (D.bl (PyData.eqv p p)) else none) = _
  rw [if_pos (by rw [hs]; rfl), SeqAt.eqv_refl p (SeqAt.canLay_of_shaped hs)]
theorem L_neD {d : D} {p : PyData} {P : D → Prop} (e : d.py = some p) (hs : SeqAt.shaped p = true) (hd : dNe d d = dNeD d d) (h : P (.bl false)) : Lf (dNe d d) P := by
  refine ⟨.bl false, ?_, h⟩
  rw [hd]
  unfold dNeD
  rw [e]
  show (if (SeqAt.shaped p && SeqAt.shaped p) = true then some (D.bl (!PyData.eqv p p)) else none) = _
  rw [if_pos (by rw [hs]; rfl), SeqAt.eqv_refl p (SeqAt.canLay_of_shaped hs)]
  rfl
/-- comprehensions, the slots left as they were -/
theorem TC2 {vs : List Nat} {p : Put} {e : M D} {d : D} {ds acc : List D} {ρ : List S} {P : List D → List S → Prop} (h : Lf (p d ρ) fun ρ1 => T e ρ1 fun y ρ3 => wipeR ρ3 vs = ρ ∧ TC vs p mYes e ds (acc ++ [y]) ρ P) : TC vs p mYes e (d :: ds) acc ρ P := by
  obtain ⟨ρ1, e1, k⟩ := h
  refine TC1 ⟨ρ1, e1, k.imp fun y ρ3 h => ?_⟩
  rw [h.1]
  exact h.2
theorem T_comp2 {vs : List Nat} {it : M (List D)} {p : Put} {t : M Bool} {e : M D} {ρ : List S} {Q : OB → List S → Prop} (h : T it ρ fun ds ρ1 => vs.all (plainAt ρ1) = true ∧ ds.length < 900000 ∧ TC vs p t e ds [] (wipeR ρ1 vs) fun out ρ2 => restore ρ1 ρ2 vs = ρ1 ∧ Q (.lst out) ρ1) : T (mComp vs it p t e) ρ Q := by
  refine T_comp (h.imp fun ds ρ1 h => ⟨h.1, h.2.1, ?_⟩)
  obtain ⟨out, ρ2, e, h1, h2⟩ := h.2.2
  refine ⟨out, ρ2, e, ?_⟩
  show Q (.lst out) (restore ρ1 ρ2 vs)
  rw [h1]
  exact h2
/-- what holds between two statements -/
theorem T_cut {a b : M Fl} {ρ : List S} {Q : Fl → List S → Prop} (I : List S → Prop) (h : T a ρ fun f ρ1 => f = .nx ∧ I ρ1) (k : ∀ ρ1, I ρ1 → T b ρ1 Q) : T (mSeq a b) ρ Q :=
  T_seq (h.imp fun f ρ1 h => by
    obtain ⟨rfl, h⟩ := h
    exact k ρ1 h)
/-! ### loops over a range -/
theorem T_rng {p : Put} {b : M Fl} {Q : Fl → List S → Prop} (I : Nat → List S → Prop) (N : Nat) (lo : Int) (turn : ∀ j ρ, j < N → I j ρ → Lf (p (.int (lo + j)) ρ) fun ρ1 => T b ρ1 fun f ρ2 => (f = .nx ∨ f = .ct) ∧ I (j + 1) ρ2) (fin : ∀ ρ, I N ρ → Q .nx ρ) {ρ : List S} (h : I 0 ρ) :
    T (loopD p b (rangeD lo N)) ρ Q := by
  have go : ∀ (m j : Nat) (ρ : List S), j + m = N → I j ρ → T (loopD p b (rangeD (lo + j) m)) ρ Q := by
    intro m
    induction m with
    | zero =>
      intro j ρ e h
      have : j = N := by omega
      subst this
      exact T_loop0 (fin ρ h)
    | succ m ih =>
      intro j ρ e h
      obtain ⟨ρ1, e1, k⟩ := turn j ρ (by omega) h
      refine T_loop1 ⟨ρ1, e1, k.imp fun f ρ2 h2 => ⟨h2.1, ?_⟩⟩
      have z := ih (j + 1) ρ2 (by omega) h2.2
      have e3 : lo + ((j + 1 : Nat) : Int) = lo + (j : Int) + 1 := by omega
      rw [e3] at z
      exact z
  have z := go N 0 ρ (by omega) h
  have e3 : lo + ((0 : Nat) : Int) = lo := by omega
  rw [e3] at z
  exact z
theorem Sz.pow {n : Nat} {t : Int} (h : Sz n t) : ∀ m : Nat, Sz (n * m + 1) (t ^ m)
  | 0 => by unfold Sz; rw [Int.pow_zero]; simp
  | m + 1 => by
    have := (Sz.pow h m).mul h
    rw [Int.pow_succ]
    exact this.mono (by rw [Nat.mul_succ]; omega)
end L3
set_option Elab.async false
set_option linter.all false
set_option maxRecDepth 100000
set_option maxHeartbeats 4000000
namespace L3
open PySem PySem.Spec PyProof.Rows L2
/-! ### two rows side by side -/
inductive F2 {α β : Type} (R : α → β → Prop) : List α → List β → Prop
  | nil : F2 R [] []
  | cons {a : α} {b : β} {as : List α} {bs : List β} (h : R a b) (t : F2 R as bs) : F2 R (a :: as) (b :: bs)
theorem F2.len {α β : Type} {R : α → β → Prop} {as : List α} {bs : List β} (h : F2 R as bs) : as.length = bs.length := by
  induction h with
  | nil => rfl
  | cons h t ih => simp only [List.length_cons, ih]
theorem F2.snoc {α β : Type} {R : α → β → Prop} {a : α} {b : β} {as : List α} {bs : List β} (h : F2 R as bs) (k : R a b) : F2 R (as ++ [a]) (bs ++ [b]) := by
  induction h with
  | nil => exact .cons k .nil
  | cons h t ih => exact .cons h ih
theorem F2.imp {α β : Type} {R R' : α → β → Prop} {as : List α} {bs : List β} (h : F2 R as bs) (k : ∀ a b, R a b → R' a b) : F2 R' as bs := by
  induction h with
  | nil => exact .nil
  | cons h t ih => exact .cons (k _ _ h) ih
theorem F2.map {α β γ : Type} {R : α → β → Prop} {R' : β → γ → Prop} {as : List α} {bs : List β} (f : α → γ) (h : F2 R as bs) (k : ∀ a b, R a b → R' b (f a)) : F2 R' bs (as.map f) := by
  induction h with
  | nil => exact .nil
  | cons h t ih => exact .cons (k _ _ h) ih
theorem TC_two {vs : List Nat} {p : Put} {e : M D} {ρ : List S} {P : List D → List S → Prop} {R : D → D → Prop} (h : ∀ d y, R d y → Lf (p d ρ) fun ρ1 => T e ρ1 fun y' ρ3 => y' = y ∧ wipeR ρ3 vs = ρ) :
    ∀ {ds out : List D} (acc : List D), F2 R ds out → P (acc ++ out) ρ → TC vs p mYes e ds acc ρ P
  | _, _, acc, .nil, q => TC0 (by simpa using q)
  | _, _, acc, .cons (a := d) (b := y) hd t, q => by
    obtain ⟨ρ1, e1, k⟩ := h d y hd
    refine TC1 ⟨ρ1, e1, k.imp fun y' ρ3 h2 => ?_⟩
    rw [h2.1, h2.2]
    exact TC_two h _ t (by simpa using q)
theorem boolsD_true : ∀ {ds : List D}, (∀ d ∈ ds, d = .bl true) → boolsD ds = some (List.replicate ds.length true)
  | [], _ => rfl
  | d :: ds, h => by
    have e : d = .bl true := h d List.mem_cons_self
    subst e
    show (boolsD ds).map (true :: ·) = _
    rw [boolsD_true fun d' hd => h d' (List.mem_cons_of_mem _ hd)]
    rfl
theorem L_allT {ds : List D} {P : D → Prop} (h : P (.bl true)) (k : ∀ d ∈ ds, d = .bl true) : Lf (dAll [.lst ds]) P := by
  refine ⟨.bl true, ?_, h⟩
  show (boolsD ds).map (fun bs => D.bl (bs.all id)) = _
  rw [boolsD_true k]
  simp
theorem L_eq0 {ds : List D} {P : D → Prop} (h : P (.bl (ds.length == 0))) : Lf (dEq0 (.tup ds) (.tup [])) P := ⟨_, rfl, h⟩
theorem atI_0 {d : D} {ds : List D} : atI (d :: ds) 0 = some d := by
  unfold atI ixN
  rw [if_pos (by decide), if_pos (by rw [List.length_cons]; omega)]
  rfl
theorem atI_1 {d d' : D} {ds : List D} : atI (d :: d' :: ds) 1 = some d' := by
  unfold atI ixN
  rw [if_pos (by decide), if_pos (by rw [List.length_cons, List.length_cons]; omega)]
  rfl
/-! ### whole quotients -/
theorem ediv_abs {x b : Int} (hb : 0 < b) : (x / b).natAbs ≤ x.natAbs := by
  have h1 : (-(x.natAbs : Int)) ≤ x / b := by
    rw [Int.le_ediv_iff_mul_le hb]
    have : (x.natAbs : Int) * 1 ≤ (x.natAbs : Int) * b := Int.mul_le_mul_of_nonneg_left (by omega) (by omega)
    rw [Int.neg_mul]
    omega
  have h2 : x / b < (x.natAbs : Int) + 1 := by
    refine Int.ediv_lt_of_lt_mul hb ?_
    have : (x.natAbs : Int) * 1 ≤ (x.natAbs : Int) * b := Int.mul_le_mul_of_nonneg_left (by omega) (by omega)
    rw [Int.add_mul]
    omega
  omega
theorem ceil_same {x b : Int} (hb : 0 < b) (h : x / b * b = x) : -(-x / b) = x / b := by
  have e : -x = -(x / b) * b := by rw [Int.neg_mul, h]
  rw [e, Int.mul_ediv_cancel _ (by omega), Int.neg_neg]
theorem ceil_more {x b : Int} (hb : 0 < b) (h : x / b * b ≠ x) : -(-x / b) = x / b + 1 := by
  have h1 := Int.emod_nonneg x (b := b) (by omega)
  have h2 := Int.emod_lt_of_pos x hb
  have h3 := Int.mul_ediv_add_emod x b
  rw [Int.mul_comm] at h3
  have e : -x / b = -(x / b) - 1 := by
    have : -x = (b - x % b) + b * (-(x / b) - 1) := by
      rw [Int.mul_sub, Int.mul_neg, Int.mul_comm b (x / b)]
      omega
    rw [this, Int.add_mul_ediv_left _ _ (by omega), Int.ediv_eq_zero_of_lt (by omega) (by omega)]
    omega
  rw [e]
  omega
end L3
set_option Elab.async false
set_option linter.all false
set_option maxRecDepth 100000
set_option maxHeartbeats 4000000
namespace L3
open PySem PySem.Spec PyProof.Rows L2 PySem.W
/-! ### own == and !=, on both sides -/
section
variable {prog : Program} {w : World} {A : Around} {E : Value → Shared → Prop} {s : Shared} {K : Frag} {x C f : Addr} {ox : Obj} {od : Option Obj}
theorem special_fnB {name : Str} {args : List Value} {Q : Option Value → Shared → Prop} (X : K.In s.heap) (I : InstAt s.heap x ox C od) (hs : findIn K (.ref C) name = some (some (.ref f))) (hf : typeIn K (.ref f) = some (.type "function"))
    (h : wpAny (model prog w) A (PySem.call (.ref f) (.ref x :: args)) (fun v => Q (some v)) E s) : wpAny (model prog w) A (callSpecialIfBound? (.ref x) name args) Q E s := by
  simp only [callSpecialIfBound?, bindSpecialIfBound?, specialOf]
  refine wpAny_holding (wpAny_bind (wpAny_bind (wpAny_bind (I.type.here ((looks_findIn X hs).here ?_)))))
  refine wpAny_bind (wpAny_askSetting (wpAny_ite ?_))
  have fin : wpAny (model prog w) A (PySem.call (.ref f) ([.ref x] ++ args) >>= fun v => pure (some v)) Q E s :=
    wpAny_bind (wpAny_mono h (fun v s' h' => wpAny_pure h') fun _ _ h' => h')
  split
  · exact wpAny_bind ((bind_fn X _ hf).here (wpAny_pure (by exact fin)))
  · exact wpAny_tryCatch (wpAny_bind ((bind_fn X _ hf).here (wpAny_pure (by exact fin))))
theorem special_blB {name : Str} {id : String} {args : List Value} {Q : Option Value → Shared → Prop} (X : K.In s.heap) (I : InstAt s.heap x ox C od) (hs : findIn K (.ref C) name = some (some (.builtin id))) (hb : ∀ self, bindSpecial (.builtin id) self = pure (.builtin id, [self]))
    (h : wpAny (model prog w) A (PySem.call (.builtin id) (.ref x :: args)) (fun v => Q (some v)) E s) : wpAny (model prog w) A (callSpecialIfBound? (.ref x) name args) Q E s := by
  simp only [callSpecialIfBound?, bindSpecialIfBound?, specialOf]
  refine wpAny_holding (wpAny_bind (wpAny_bind (wpAny_bind (I.type.here ((looks_findIn X hs).here ?_)))))
  simp only [hb]
  refine wpAny_bind (wpAny_askSetting (wpAny_ite ?_))
  have fin : wpAny (model prog w) A (PySem.call (.builtin id) ([.ref x] ++ args) >>= fun v => pure (some v)) Q E s :=
    wpAny_bind (wpAny_mono h (fun v s' h' => wpAny_pure h') fun _ _ h' => h')
  split
  · exact wpAny_bind (wpAny_pure (wpAny_pure fin))
  · exact wpAny_tryCatch (wpAny_bind (wpAny_pure (wpAny_pure fin)))
structure EqC (K : Frag) (C f : Addr) : Prop where
  at_ : findIn K (.ref C) "__eq__" = some (some (.ref f))
  ne_ : findIn K (.ref C) "__ne__" = some (some (.builtin "object.__ne__"))
  fn : isFn K (.ref f) = true
  top : subIn K (.ref C) (.type "object") = some true
  sub : ∀ t : BT, subIn K (.ref C) (.type t.nm) = some false
  kit : ∀ t : BT, kitOne K (.type t.nm) (.ref C) = some false
/-- the truth that comes back, or its not -/
abbrev Bk (ng : Bool) (Q : Value → Shared → Prop) : Value → Shared → Prop := fun v s' => ∃ b, v = .bool b ∧ Q (.bool (bif ng then !b else b)) s'
theorem tryc_eq {b : Value} {Q : Option Value → Shared → Prop} (X : K.In s.heap) (I : InstAt s.heap x ox C od) (B : EqC K C f) (h : wpAny (model prog w) A (PySem.call (.ref f) [.ref x, b]) (fun v s' => ∃ k, v = .bool k ∧ Q (some (.bool k)) s') E s) :
    wpAny (model prog w) A (tryCompare (.ref x) "__eq__" b) Q E s := by
  unfold tryCompare
  refine wpAny_bind (special_fnB X I B.at_ (beq_iff_eq.mp B.fn) (wpAny_mono h (fun v s' hv => ?_) fun _ _ e => e))
  obtain ⟨k, rfl, hq⟩ := hv
  exact wpAny_pure hq
theorem tryc_ne {b : Value} {Q : Option Value → Shared → Prop} (X : K.In s.heap) (I : InstAt s.heap x ox C od) (B : EqC K C f) (hu : A.units + 1 < cLine) (h : wpAny (model prog w) A.in1 (PySem.call (.ref f) [.ref x, b]) (fun v s' => ∃ k, v = .bool k ∧ Q (some (.bool (!k))) s') E s) :
    wpAny (model prog w) A (tryCompare (.ref x) "__ne__" b) Q E s := by
  have sl : Slot "object" "__ne__" "object.__ne__" := .of (owner := "object") (n := "__ne__") (by rw [typeLookup_type, builtinLookup_eq_fast]; kernel_rfl) (by decide +kernel) (by decide +kernel) (by decide +kernel) (.inl (by decide +kernel)) (by rw [isSubtype_type]; kernel_rfl)
  unfold tryCompare
  refine wpAny_bind (special_blB X I B.ne_ sl.bind ?_)
  refine wpAny_call (codeAny_call_builtin sl.plain F.cmpEntry_ne (check_slot F.cmpKind_ne F.cmpSplit_ne (I.type.andThen (looks_subIn X B.top)) (F.cmpArgs_ne _ _) ?_))
  unfold Builtin.«object.__ne__»
  refine wpAny_bind (wpAny_of_eq (show slotArgs "__ne__" 1 ⟨[.ref x, b], []⟩ = pure (.ref x, [b]) from rfl) ?_)
  refine wpAny_bind (wpAny_cRoomFor hu ?_)
  refine wpAny_bind (m := callSpecialIfBound? (.ref x) (Str.ofString "__eq__") [b]) (special_fnB X I B.at_ (beq_iff_eq.mp B.fn) (wpAny_mono h (fun v s' hv => ?_) fun _ _ e => e))
  obtain ⟨k, rfl, hq⟩ := hv
  refine wpAny_bind (m := truthy (.bool k)) (wpAny_truthy_bool ?_)
  exact wpAny_pure (wpAny_pure hq)
theorem boolBin_try {M : Model} {name : String} {g : Int → Int → Sem Fin} {b : Bool} {dx : Addr} {Q' : Option Value → Shared → Prop} (hx : s.heap.get? x = some (instObj C dx)) (h : Q' none s) :
    wpAny M A (Builtin.Int.intBinary name g false ⟨[.bool b, .ref x], []⟩) (fun fin s' => ∃ v, fin = .done (.ret v) ∧ v = Value.notImplemented ∧ Q' none s') E s := by
  unfold Builtin.Int.intBinary
  refine wpAny_bind (wpAny_of_eq (show slotArgs name 1 ⟨[.bool b, .ref x], []⟩ = pure (.bool b, [.ref x]) from rfl) ?_)
  refine wpAny_bind (wpAny_of_eq (show Builtin.Int.intOfSelf (.bool b) = pure (if b then 1 else 0) from rfl) ?_)
  refine wpAny_bind (wpAny_bind (wpAny_load hx ?_))
  refine wpAny_pure ?_
  exact wpAny_bind (wpAny_rule (wpAny_pure ⟨_, rfl, rfl, h⟩))
theorem strCmp_try {M : Model} {name : String} {g : List Nat → List Nat → Bool} {z : Str} {t : Tok} {dx : Addr} {Q' : Option Value → Shared → Prop} (hx : s.heap.get? x = some (instObj C dx)) (h : Q' none s) :
    wpAny M A (Builtin.Str.strCompare name g ⟨[.str z t, .ref x], []⟩) (fun fin s' => ∃ v, fin = .done (.ret v) ∧ v = Value.notImplemented ∧ Q' none s') E s := by
  unfold Builtin.Str.strCompare
  refine wpAny_bind (wpAny_of_eq (show Builtin.Str.strSlot name 1 ⟨[.str z t, .ref x], []⟩ = pure (.str z t, z, [.ref x]) from rfl) ?_)
  refine wpAny_bind (wpAny_bind (wpAny_load hx ?_))
  refine wpAny_pure ?_
  exact wpAny_bind (wpAny_rule (wpAny_pure ⟨_, rfl, rfl, h⟩))
theorem deq_none {Q' : Option Value → Shared → Prop} (h : Q' none s) : wpAny (model prog w) A (tryCompare .none (cmpInfo .Eq).2.1 (.ref x)) Q' E s := by
  refine wpAny_tryCompare_declines (T := "NoneType") rfl PySem.F.slot_NoneType_eq (wpAny_call_entry PySem.F.slot_NoneType_eq rfl PySem.F.entry_NoneType_eq ?_ (PySem.F.args_NoneType_eq_2 _ _))
  exact wpAny_pure ⟨_, rfl, rfl, h⟩
theorem deq_int {i : Int} {t : Tok} {dx : Addr} {Q' : Option Value → Shared → Prop} (hx : s.heap.get? x = some (instObj C dx)) (h : Q' none s) : wpAny (model prog w) A (tryCompare (.int i t) (cmpInfo .Eq).2.1 (.ref x)) Q' E s :=
  wpAny_tryCompare_declines (typeIs_int s i t) PySem.F.slot_int_eq (wpAny_call_entry PySem.F.slot_int_eq (typeIs_int s i t) PySem.F.entry_int_eq (intBin_try hx h) (PySem.F.args_int_eq_2 _ _))
theorem deq_bool {b : Bool} {dx : Addr} {Q' : Option Value → Shared → Prop} (hx : s.heap.get? x = some (instObj C dx)) (h : Q' none s) : wpAny (model prog w) A (tryCompare (.bool b) (cmpInfo .Eq).2.1 (.ref x)) Q' E s :=
  wpAny_tryCompare_declines (T := "bool") rfl PySem.F.slot_bool_eq (wpAny_call_entry PySem.F.slot_bool_eq rfl PySem.F.entry_int_eq (boolBin_try hx h) (PySem.F.args_int_eq_2 _ _))
theorem deq_str {z : Str} {t : Tok} {dx : Addr} {Q' : Option Value → Shared → Prop} (hx : s.heap.get? x = some (instObj C dx)) (h : Q' none s) : wpAny (model prog w) A (tryCompare (.str z t) (cmpInfo .Eq).2.1 (.ref x)) Q' E s := by
  refine wpAny_tryCompare_declines (typeIs_str s z t) PySem.F.slot_str_eq (wpAny_call_entry PySem.F.slot_str_eq (typeIs_str s z t) PySem.F.entry_str_eq ?_ (PySem.F.args_str_eq_2 _ _))
  exact strCmp_try hx h
theorem deq_list {l : Addr} {Q' : Option Value → Shared → Prop} (hT : s.TypeIs (.ref l) "list") (hn : Looks (model prog w) s.heap (isInstance (.ref x) (.type "list")) false) (h : Q' none s) : wpAny (model prog w) A (tryCompare (.ref l) (cmpInfo .Eq).2.1 (.ref x)) Q' E s := by
  refine wpAny_tryCompare_declines hT PySem.F.slot_list_eq (wpAny_call_entry PySem.F.slot_list_eq hT PySem.F.entry_list_eq ?_ (PySem.F.args_list_eq_2 _ _))
  exact wpAny_bind (wpAny_of_eq (show slotArgs "__eq__" 1 ⟨[.ref l, .ref x], []⟩ = pure (.ref l, [.ref x]) from rfl) (wpAny_bind (hn.here (wpAny_bind (wpAny_pure (wpAny_pure ⟨_, rfl, rfl, h⟩))))))
theorem deq_tuple {l : Addr} {Q' : Option Value → Shared → Prop} (hT : s.TypeIs (.ref l) "tuple") (hn : Looks (model prog w) s.heap (isInstance (.ref x) (.type "tuple")) false) (h : Q' none s) : wpAny (model prog w) A (tryCompare (.ref l) (cmpInfo .Eq).2.1 (.ref x)) Q' E s := by
  refine wpAny_tryCompare_declines hT PySem.F.slot_tuple_eq (wpAny_call_entry PySem.F.slot_tuple_eq hT PySem.F.entry_tuple_eq ?_ (PySem.F.args_tuple_eq_2 _ _))
  exact wpAny_bind (wpAny_of_eq (show slotArgs "__eq__" 1 ⟨[.ref l, .ref x], []⟩ = pure (.ref l, [.ref x]) from rfl) (wpAny_bind (hn.here (wpAny_bind (wpAny_pure (wpAny_pure ⟨_, rfl, rfl, h⟩))))))
theorem deq_dict {l : Addr} {Q' : Option Value → Shared → Prop} (hT : s.TypeIs (.ref l) "dict") (hn : Looks (model prog w) s.heap (isInstance (.ref x) (.type "dict")) false) (h : Q' none s) : wpAny (model prog w) A (tryCompare (.ref l) (cmpInfo .Eq).2.1 (.ref x)) Q' E s := by
  refine wpAny_tryCompare_declines hT PySem.F.slot_dict_eq (wpAny_call_entry PySem.F.slot_dict_eq hT PySem.F.entry_dict_eq ?_ (PySem.F.args_dict_eq_2 _ _))
  exact wpAny_bind (wpAny_of_eq (show Builtin.Dict.dictSlotArgs "__eq__" ⟨[.ref l, .ref x], []⟩ = pure (.ref l, .ref x) from by kernel_rfl) (wpAny_bind (hn.here (wpAny_bind (wpAny_rule (wpAny_bind (wpAny_pure (wpAny_pure ⟨_, rfl, rfl, h⟩))))))))
theorem dne_none {Q' : Option Value → Shared → Prop} (h : Q' none s) : wpAny (model prog w) A (tryCompare .none (cmpInfo .NotEq).2.1 (.ref x)) Q' E s := by
  refine wpAny_tryCompare_declines (T := "NoneType") rfl PySem.F.slot_NoneType_ne (wpAny_call_entry PySem.F.slot_NoneType_ne rfl PySem.F.entry_NoneType_ne ?_ (PySem.F.args_NoneType_ne_2 _ _))
  exact wpAny_pure ⟨_, rfl, rfl, h⟩
theorem dne_int {i : Int} {t : Tok} {dx : Addr} {Q' : Option Value → Shared → Prop} (hx : s.heap.get? x = some (instObj C dx)) (h : Q' none s) : wpAny (model prog w) A (tryCompare (.int i t) (cmpInfo .NotEq).2.1 (.ref x)) Q' E s :=
  wpAny_tryCompare_declines (typeIs_int s i t) PySem.F.slot_int_ne (wpAny_call_entry PySem.F.slot_int_ne (typeIs_int s i t) PySem.F.entry_int_ne (intBin_try hx h) (PySem.F.args_int_ne_2 _ _))
theorem dne_bool {b : Bool} {dx : Addr} {Q' : Option Value → Shared → Prop} (hx : s.heap.get? x = some (instObj C dx)) (h : Q' none s) : wpAny (model prog w) A (tryCompare (.bool b) (cmpInfo .NotEq).2.1 (.ref x)) Q' E s :=
  wpAny_tryCompare_declines (T := "bool") rfl PySem.F.slot_bool_ne (wpAny_call_entry PySem.F.slot_bool_ne rfl PySem.F.entry_int_ne (boolBin_try hx h) (PySem.F.args_int_ne_2 _ _))
theorem dne_str {z : Str} {t : Tok} {dx : Addr} {Q' : Option Value → Shared → Prop} (hx : s.heap.get? x = some (instObj C dx)) (h : Q' none s) : wpAny (model prog w) A (tryCompare (.str z t) (cmpInfo .NotEq).2.1 (.ref x)) Q' E s := by
  refine wpAny_tryCompare_declines (typeIs_str s z t) PySem.F.slot_str_ne (wpAny_call_entry PySem.F.slot_str_ne (typeIs_str s z t) PySem.F.entry_str_ne ?_ (PySem.F.args_str_ne_2 _ _))
  exact strCmp_try hx h
theorem dne_list {l : Addr} {Q' : Option Value → Shared → Prop} (hT : s.TypeIs (.ref l) "list") (hn : Looks (model prog w) s.heap (isInstance (.ref x) (.type "list")) false) (h : Q' none s) : wpAny (model prog w) A (tryCompare (.ref l) (cmpInfo .NotEq).2.1 (.ref x)) Q' E s := by
  refine wpAny_tryCompare_declines hT PySem.F.slot_list_ne (wpAny_call_entry PySem.F.slot_list_ne hT PySem.F.entry_list_ne ?_ (PySem.F.args_list_ne_2 _ _))
  exact wpAny_bind (wpAny_of_eq (show slotArgs "__ne__" 1 ⟨[.ref l, .ref x], []⟩ = pure (.ref l, [.ref x]) from rfl) (wpAny_bind (hn.here (wpAny_bind (wpAny_pure (wpAny_pure ⟨_, rfl, rfl, h⟩))))))
theorem dne_tuple {l : Addr} {Q' : Option Value → Shared → Prop} (hT : s.TypeIs (.ref l) "tuple") (hn : Looks (model prog w) s.heap (isInstance (.ref x) (.type "tuple")) false) (h : Q' none s) : wpAny (model prog w) A (tryCompare (.ref l) (cmpInfo .NotEq).2.1 (.ref x)) Q' E s := by
  refine wpAny_tryCompare_declines hT PySem.F.slot_tuple_ne (wpAny_call_entry PySem.F.slot_tuple_ne hT PySem.F.entry_tuple_ne ?_ (PySem.F.args_tuple_ne_2 _ _))
  exact wpAny_bind (wpAny_of_eq (show slotArgs "__ne__" 1 ⟨[.ref l, .ref x], []⟩ = pure (.ref l, [.ref x]) from rfl) (wpAny_bind (hn.here (wpAny_bind (wpAny_pure (wpAny_pure ⟨_, rfl, rfl, h⟩))))))
theorem dne_dict {l : Addr} {Q' : Option Value → Shared → Prop} (hT : s.TypeIs (.ref l) "dict") (hn : Looks (model prog w) s.heap (isInstance (.ref x) (.type "dict")) false) (h : Q' none s) : wpAny (model prog w) A (tryCompare (.ref l) (cmpInfo .NotEq).2.1 (.ref x)) Q' E s := by
  refine wpAny_tryCompare_declines hT PySem.F.slot_dict_ne (wpAny_call_entry PySem.F.slot_dict_ne hT PySem.F.entry_dict_ne ?_ (PySem.F.args_dict_ne_2 _ _))
  exact wpAny_bind (wpAny_of_eq (show Builtin.Dict.dictSlotArgs "__ne__" ⟨[.ref l, .ref x], []⟩ = pure (.ref l, .ref x) from by kernel_rfl) (wpAny_bind (hn.here (wpAny_bind (wpAny_rule (wpAny_bind (wpAny_pure (wpAny_pure ⟨_, rfl, rfl, h⟩))))))))
end
end L3
set_option Elab.async false
set_option linter.all false
set_option maxRecDepth 100000
set_option maxHeartbeats 4000000
namespace L3
open PySem PySem.Spec PyProof.Rows L2 PySem.W
section
variable {prog : Program} {w : World} {A : Around} {E : Value → Shared → Prop} {s : Shared} {K : Frag} {x C f : Addr} {ox : Obj} {od : Option Obj} {op : CmpOp} {sym T : String} {fn rn : Str} {Q : Value → Shared → Prop}
theorem rcI_l {b : Value} (hop : cmpInfo op = (sym, fn, rn)) (X : K.In s.heap) (I : InstAt s.heap x ox C od) (hu : A.units < cLine) (hb : s.TypeIs b T) (hk : kitOne K (.type T) (.ref C) = some false)
    (h : wpAny (model prog w) A (tryCompare (.ref x) fn b) (fun o s' => ∃ v, o = some v ∧ Q v s') E s) : wpAny (model prog w) A (richCompare op (.ref x) b) Q E s := by
  unfold richCompare
  simp only [oneThing_ref]
  refine wpAny_holding ?_
  refine wpAny_bind (wpAny_cRoomFor hu ?_)
  rw [hop]
  dsimp only
  refine wpAny_bind (I.type.here (wpAny_bind (wpAny_typeOf hb ?_)))
  rw [show (Value.ref C != Value.type T) = true from rfl]
  simp only [if_true]
  refine wpAny_bind ((kit_sub X hk).here ?_)
  simp only [Bool.false_eq_true, if_false]
  refine wpAny_bind (wpAny_mono h (fun o s' ho => ?_) fun _ _ e => e)
  obtain ⟨v, rfl, hq⟩ := ho
  exact wpAny_pure hq
theorem rcI_s {y : Addr} {oy : Obj} {oe : Option Obj} (hop : cmpInfo op = (sym, fn, rn)) (I : InstAt s.heap x ox C od) (J : InstAt s.heap y oy C oe) (hu : A.units < cLine)
    (h : wpAny (model prog w) A (tryCompare (.ref x) fn (.ref y)) (fun o s' => ∃ v, o = some v ∧ Q v s') E s) : wpAny (model prog w) A (richCompare op (.ref x) (.ref y)) Q E s := by
  unfold richCompare
  simp only [oneThing_ref]
  refine wpAny_holding ?_
  refine wpAny_bind (wpAny_cRoomFor hu ?_)
  rw [hop]
  dsimp only
  refine wpAny_bind (I.type.here (wpAny_bind (J.type.here ?_)))
  rw [show (Value.ref C != Value.ref C) = false from by simp]
  simp only [Bool.false_eq_true, if_false]
  refine wpAny_bind (wpAny_pure ?_)
  simp only [Bool.false_eq_true, if_false]
  refine wpAny_bind (wpAny_mono h (fun o s' ho => ?_) fun _ _ e => e)
  obtain ⟨v, rfl, hq⟩ := ho
  exact wpAny_pure hq
theorem rcI_r {a : Value} (hop : cmpInfo op = (sym, fn, rn)) (X : K.In s.heap) (I : InstAt s.heap x ox C od) (hu : A.units < cLine) (ha : s.TypeIs a T) (hk : subIn K (.ref C) (.type T) = some false)
    (hd : ∀ Q' : Option Value → Shared → Prop, Q' none s → wpAny (model prog w) A (tryCompare a fn (.ref x)) Q' E s)
    (h : wpAny (model prog w) A (tryCompare (.ref x) rn a) (fun o s' => ∃ v, o = some v ∧ Q v s') E s) : wpAny (model prog w) A (richCompare op a (.ref x)) Q E s := by
  unfold richCompare
  simp only [ha.oneThing_none]
  refine wpAny_holding ?_
  refine wpAny_bind (wpAny_cRoomFor hu ?_)
  rw [hop]
  dsimp only
  refine wpAny_bind (wpAny_typeOf ha (wpAny_bind (I.type.here ?_)))
  rw [show (Value.type T != Value.ref C) = true from rfl]
  simp only [if_true]
  refine wpAny_bind ((looks_subIn X hk).here ?_)
  simp only [Bool.false_eq_true, if_false]
  refine wpAny_bind (m := tryCompare a fn (.ref x)) (hd _ ?_)
  dsimp only
  simp only [Bool.not_false, if_true]
  refine wpAny_bind (wpAny_mono h (fun o s' ho => ?_) fun _ _ e => e)
  obtain ⟨v, rfl, hq⟩ := ho
  exact wpAny_pure hq
end
/-- a value of a built-in kind -/
inductive BV (K : Frag) (H : Hp) : V → BT → Prop where
  | non : BV K H .non .non
  | bl (b : Bool) : BV K H (.bl b) .bool
  | int (i : Int) : BV K H (.int i) .int
  | str (z : Str) : BV K H (.str z) .str
  | lst {a : Addr} {xs : List V} (h : SqL K H a xs) : BV K H (.ref a) .lst
  | tup {a : Addr} {xs : List V} (h : SqT K H a xs) : BV K H (.ref a) .tup
  | dct {a : Addr} {kvs : List (Key × V)} (h : H a = some (.dK kvs)) : BV K H (.ref a) .dct
def isBt (d : D) : Bool := match d.dt with
  | some (.b _) => true
  | _ => false
theorem bv_of {K : Frag} {F H : Hp} {x : V} {d : D} (r : Rep K F x d) (sub : Same F H) (h : isBt d = true) : ∃ t, BV K H x t := by
  cases r with
  | non => exact ⟨_, .non⟩
  | bl b => exact ⟨_, .bl b⟩
  | int i => exact ⟨_, .int i⟩
  | str z => exact ⟨_, .str z⟩
  | ty n => cases h
  | obj a => cases h
  | tup q _ => exact ⟨_, .tup (same_sqT sub q)⟩
  | lst q _ => exact ⟨_, .lst (.inl (.inl (sub _ _ q)))⟩
  | rdl q _ => exact ⟨_, .lst (sub.seq q)⟩
  | dct q _ => exact ⟨_, .dct (sub _ _ q)⟩
  | ins q _ => cases h
section
variable {X : Cx} {pins : List (Addr × Obj)} {σ : L2.St} {H : Hp} {s : Shared} {x : V} {u : Value} {t : BT}
theorem BV.is (I : Inv X pins σ H s) (b : BV X.K H x t) (r : RelV x u) : s.TypeIs u t.nm := by
  cases b with
  | non => cases (show u = Value.none from r); rfl
  | bl y => cases (show u = Value.bool y from r); rfl
  | int i => obtain ⟨k, q⟩ := (show ∃ k, u = Value.int i k from r); cases q; rfl
  | str z => obtain ⟨k, q⟩ := (show ∃ k, u = Value.str z k from r); cases q; rfl
  | @lst a xs h =>
    cases (show u = Value.ref a from r)
    obtain ⟨its, rv, ⟨o, n, ho, hc, _, _⟩, _⟩ := I.list h
    exact ⟨o, ho, hc⟩
  | @tup a xs h =>
    cases (show u = Value.ref a from r)
    obtain ⟨its, rv, ⟨o, ho, hc, _, _⟩, _⟩ := I.tuple h
    exact ⟨o, ho, hc⟩
  | @dct a kvs h =>
    cases (show u = Value.ref a from r)
    obtain ⟨_, _, vs, _, o, es, ep, h1, h2, _⟩ := (show ObjOk X.prog X.w H s.heap a (.dK kvs) from I.hok a _ h)
    exact ⟨o, h1, h2.1⟩
def opOf (ng : Bool) : CmpOp := bif ng then .NotEq else .Eq
theorem BV.decl {A : Around} {E : Value → Shared → Prop} {p C f dx : Addr} {ox : Obj} {od : Option Obj} (ng : Bool) (I : Inv X pins σ H s) (b : BV X.K H x t) (r : RelV x u) (J : InstAt s.heap p ox C od) (hg : s.heap.get? p = some (instObj C dx)) (B : EqC X.K C f) (Q' : Option Value → Shared → Prop) (h : Q' none s) :
    wpAny (model X.prog X.w) A (tryCompare u (cmpInfo (opOf ng)).2.1 (.ref p)) Q' E s := by
  have lk : ∀ t : BT, Looks (model X.prog X.w) s.heap (isInstance (.ref p) (.type t.nm)) false := fun t => J.type.andThen (looks_subIn I.kIn (B.sub t))
  have ty := b.is I r
  cases b with
  | non => cases (show u = Value.none from r); cases ng; exact deq_none h; exact dne_none h
  | bl y => cases (show u = Value.bool y from r); cases ng; exact deq_bool hg h; exact dne_bool hg h
  | int i => obtain ⟨k, q⟩ := (show ∃ k, u = Value.int i k from r); cases q; cases ng; exact deq_int hg h; exact dne_int hg h
  | str z => obtain ⟨k, q⟩ := (show ∃ k, u = Value.str z k from r); cases q; cases ng; exact deq_str hg h; exact dne_str hg h
  | @lst a xs _ => cases (show u = Value.ref a from r); cases ng; exact deq_list ty (lk .lst) h; exact dne_list ty (lk .lst) h
  | @tup a xs _ => cases (show u = Value.ref a from r); cases ng; exact deq_tuple ty (lk .tup) h; exact dne_tuple ty (lk .tup) h
  | @dct a kvs _ => cases (show u = Value.ref a from r); cases ng; exact deq_dict ty (lk .dct) h; exact dne_dict ty (lk .dct) h
end
/-- what == (!=, by ng) asks where one side is an instance of C: the promise of __eq__ -/
def rEqI (K : Frag) (C : Addr) (ng : Bool) (r0 : R2) (sf : Sp) (Wx : WX) : L2.St → R2 := fun σ x y H Q =>
  (∃ a dx fs, x = V.ref a ∧ H a = some (.ins C dx fs) ∧ ((∃ b dx' fs', y = V.ref b ∧ H b = some (.ins C dx' fs')) ∨ ∃ t, BV K H y t) ∧ sf [x, y] H (fun v H' => ∃ b, v = V.bl b ∧ Q (.bl (bif ng then !b else b)) H') (fun cls d H' => Wx cls d σ H')) ∨
  (∃ t b dx fs, BV K H x t ∧ y = V.ref b ∧ H b = some (.ins C dx fs) ∧ sf [y, x] H (fun v H' => ∃ b, v = V.bl b ∧ Q (.bl (bif ng then !b else b)) H') (fun cls d H' => Wx cls d σ H')) ∨ r0 x y H Q
def OpS (X : Cx) (f : Value → Value → Sem Value) (r : L2.St → R2) : Prop :=
  ∀ (pins : List (Addr × Obj)) (s : Shared) (σ : L2.St) (H : Hp) (x y : V) (v u : Value) (Q : VK), Inv X pins σ H s → RelV x v → RelV y u → r σ x y H Q → wpAny (model X.prog X.w) X.A (f v u) (EP X pins σ Q) X.xe s
section
variable {X : Cx} {Wx : WX} {C f : Addr} {fd : FuncData} {ps : List Str} {k : Nat} {a b : Expr} {ta tb : TE} {ma mb : M D} {pos : Pos} {r0 : R2} {sf : Sp}
theorem pe_cmpS {op : CmpOp} {r : L2.St → R2} (ho : OpS X (compareOp op) r) (ha : PE X a ta) (hb : PE X b tb) (hm : behindInMarks op b = false) : PE X (.Compare a [op] [b] pos) (tOpS r ta tb) := by
  refine ⟨fun pins s σ H Q I h => ?_⟩
  exact wpAny_Compare1 (binT ha hb I h fun v u s2 x y H2 I2 rx ry q => ho pins s2 σ H2 x y v u Q I2 rx ry q) hm
theorem pt_cmpS {op : CmpOp} {r : L2.St → R2} (ho : OpS X (compareOp op) r) (ha : PE X a ta) (hb : PE X b tb) (hm : behindInMarks op b = false) : PT X (.Compare a [op] [b] pos) (tTest (tOpS r ta tb)) := by
  refine ⟨fun pins s σ H Q I h => ?_⟩
  refine wpAny_isTrue_Compare1 (thn (ha.run pins s σ H _ I h) fun v s1 ⟨x, H1, I1, r1, q1⟩ => thn (hb.run pins s1 σ H1 _ I1 q1) fun u s2 ⟨y, H2, I2, r2, q2⟩ =>
    thn (ho pins s2 σ H2 x y v u _ I2 r1 r2 q2) fun c s3 ⟨z, H3, I3, r3, k, e, q3⟩ => ?_) hm
  subst e
  cases r3
  exact wpAny_truthy_bool ⟨H3, I3, q3⟩
theorem op_eqI (ng : Bool) (B : EqC X.K C f) (Fn : FnG X.prog X.w X.K X.mg X.base k f fd ps sf) (hG : X.A.guards = some []) (hr : Room (k + 1) X.A) (hb : Binds X.K fd ps []) (tk : Takes X Wx) (h0 : OpR X (compareOp (opOf ng)) r0) :
    OpS X (compareOp (opOf ng)) (rEqI X.K C ng r0 sf Wx) := by
  intro pins s σ H x y v u Q I rx ry h
  have KX := I.kIn
  -- the try of __eq__ (__ne__) by the own method
  have own : ∀ {p dx : Addr} {fs : List (Str × V)} {z : V} {uz : Value}, H p = some (.ins C dx fs) → RelV z uz → sf [V.ref p, z] H (fun v H' => ∃ b, v = V.bl b ∧ Q (.bl (bif ng then !b else b)) H') (fun cls d H' => Wx cls d σ H') →
      wpAny (model X.prog X.w) X.A (tryCompare (.ref p) (cmpInfo (opOf ng)).2.1 uz) (fun o s' => ∃ v, o = some v ∧ EP X pins σ Q v s') X.xe s := fun {p dx fs z uz} hp rz q => by
    obtain ⟨mA, O, _, _, _, _⟩ := ins_get I.hok hp
    obtain ⟨od, J, _⟩ := O.look
    cases ng with
    | false =>
      refine tryc_eq KX J B (wpAny_mono (run_at (A' := X.A) (vs := [V.ref p, z]) Fn hG (hr.mono (Nat.le_succ _)) I.env0 hb tk I (.cons rfl (.cons rz .nil)) q) (fun v s' hv => ?_) fun _ _ e => e)
      obtain ⟨z', H', I', rz', b, rfl, hq⟩ := hv
      cases (show v = Value.bool b from rz')
      exact ⟨b, rfl, _, rfl, .bl b, H', I', rfl, hq⟩
    | true =>
      refine tryc_ne KX J B hr.in1.units0 (wpAny_mono (run_at (A' := X.A.in1) (vs := [V.ref p, z]) Fn hG hr.in1 I.env0.in1 hb tk I (.cons rfl (.cons rz .nil)) q) (fun v s' hv => ?_) fun _ _ e => e)
      obtain ⟨z', H', I', rz', b, rfl, hq⟩ := hv
      cases (show v = Value.bool b from rz')
      exact ⟨b, rfl, _, rfl, .bl (!b), H', I', rfl, hq⟩
  have two : (cmpInfo (opOf ng)).2.2 = (cmpInfo (opOf ng)).2.1 := by cases ng <;> rfl
  have cmp : ∀ v u, compareOp (opOf ng) v u = richCompare (opOf ng) v u := by cases ng <;> (intro v u; rfl)
  rcases h with ⟨p, dx, fs, rfl, hp, hy, q⟩ | ⟨t, p, dx, fs, bv, rfl, hp, q⟩ | q
  · cases (show v = Value.ref p from rx)
    obtain ⟨mA, O, _, _, _, _⟩ := ins_get I.hok hp
    obtain ⟨od, J, _⟩ := O.look
    rw [cmp]
    rcases hy with ⟨p', dx', fs', rfl, hp'⟩ | ⟨t, bv⟩
    · cases (show u = Value.ref p' from ry)
      obtain ⟨mA', O', _, _, _, _⟩ := ins_get I.hok hp'
      obtain ⟨od', J', _⟩ := O'.look
      exact rcI_s (sym := (cmpInfo (opOf ng)).1) (fn := (cmpInfo (opOf ng)).2.1) (rn := (cmpInfo (opOf ng)).2.2) rfl J J' hr.units0 (own hp ry q)
    · exact rcI_l (sym := (cmpInfo (opOf ng)).1) (fn := (cmpInfo (opOf ng)).2.1) (rn := (cmpInfo (opOf ng)).2.2) rfl KX J hr.units0 (bv.is I ry) (B.kit t) (own hp ry q)
  · cases (show u = Value.ref p from ry)
    obtain ⟨mA, O, _, _, _, _⟩ := ins_get I.hok hp
    obtain ⟨od, J, _⟩ := O.look
    obtain ⟨_, _, _, hget, _⟩ := (show ObjOk X.prog X.w H s.heap p (.ins C dx fs) from I.hok p _ hp)
    rw [cmp]
    exact rcI_r (sym := (cmpInfo (opOf ng)).1) (fn := (cmpInfo (opOf ng)).2.1) (rn := (cmpInfo (opOf ng)).2.2) rfl KX J hr.units0 (bv.is I rx) (B.sub t) (fun Q' hq => bv.decl ng I rx J hget B Q' hq) (by rw [two]; exact own hp rx q)
  · exact h0 pins s σ H x y v u Q I rx ry q
end
/-! by semantics -/
def negB (ng : Bool) : D → Option D
  | .bl b => some (.bl (bif ng then !b else b))
  | _ => none
def eqR (C : Addr) (y : D) : Bool := match y with
  | .ins C' _ => decide (C' = C)
  | y => isBt y
def eqI (C : Addr) (ng : Bool) (prim : D → D → Option D) (g : G) (x y : D) : M D := match x with
  | .ins C' fs => if C' = C ∧ eqR C y = true then (callD g [.ins C' fs, y]).bind fun z => M.lift (negB ng z) else fun _ => none
  | x => match y with
    | .ins C' fs => if C' = C ∧ isBt x = true then (callD g [.ins C' fs, x]).bind fun z => M.lift (negB ng z) else fun _ => none
    | y => M.lift (prim x y)
def mEqI (C : Addr) (ng : Bool) (prim : D → D → Option D) (g : G) (a b : M D) : M D := a.bind fun x => b.bind fun y => eqI C ng prim g x y
section
variable {X : Cx} {Wx : WX} {C : Addr} {a b e : Expr} {ma mb : M D} {r0 : R2}
theorem callB_sim {K : Frag} {c : Ctx} {F : Hp} {ρ ρ' : List S} {σ : L2.St} {H : Hp} {ng : Bool} {g : G} {ds : List D} {vs : List V} {r : R D} {Q : VK} (w : W K c F ρ σ H) (rl : RepL K F vs ds) (hn : ds.length = 2) (h : (callD g ds).bind (fun z => M.lift (negB ng z)) ρ = some (r, ρ'))
    (post : PostR K Wx c F ρ' σ (fun d F' H' => ∀ v, Rep K F' v d → Q v H') r) : spG K 2 g vs H (fun v H' => ∃ b, v = V.bl b ∧ Q (.bl (bif ng then !b else b)) H') (fun cls d H' => Wx cls d σ H') := by
  rcases bind_inv h with ⟨z, ρ1, h1, h2⟩ | ⟨z, h1, rfl⟩
  · obtain ⟨z', hz, rfl, rfl⟩ := lift_inv h2
    refine callD_sim (P := fun d F' H' => d = z ∧ ∀ v, Rep K F' v z' → Q v H') w rl hn h1 (fun F' H' e w' => ⟨rfl, post F' H' e w'⟩) ?_
    rintro d F' H' v rv ⟨rfl, p⟩
    cases d <;> cases hz
    cases rv
    exact ⟨_, rfl, p _ (.bl _)⟩
  · exact callD_sim (P := fun _ _ _ => False) w rl hn h1 post fun _ _ _ _ _ q => q.elim
theorem eqI_imp {K : Frag} {ng : Bool} {g0 : D → D → Option D} {g : G} (hs : Op2 K r0 g0) (σ : L2.St) (H : Hp) (Q : VK) (h : tE K Wx (mEqI C ng g0 g ma mb) σ H Q) : tOpS (rEqI K (cA K C) ng r0 (spG K 2 g) Wx) (tE K Wx ma) (tE K Wx mb) σ H Q := by
  obtain ⟨c, F, ρ, rr, ρ', w, hm, post⟩ := h
  rcases bind_inv hm with ⟨x, ρ1, h1, h2⟩ | ⟨x, h1, rfl⟩
  · refine ⟨c, F, ρ, .ok x, ρ1, w, h1, fun F1 H1 e1 w1 v1 r1 => ?_⟩
    rcases bind_inv h2 with ⟨y, ρ2, h3, h4⟩ | ⟨x, h3, rfl⟩
    · refine ⟨c, F1, ρ1, .ok y, ρ2, w1, h3, fun F2 H2 e2 w2 v2 r2 => ?_⟩
      have r1' := r1.mono e2
      have post2 := post.mono (e1.trans e2)
      unfold eqI at h4
      split at h4
      · rename_i C' fs
        split at h4
        · rename_i hc
          obtain ⟨rfl, hy⟩ := hc
          have q := callB_sim (Q := Q) w2 (.cons r1' (.cons r2 .nil)) rfl h4 post2
          cases r1' with
          | ins ha hra =>
            refine .inl ⟨_, _, _, rfl, w2.sub _ _ ha, ?_, q⟩
            unfold eqR at hy
            split at hy
            · cases r2 with
              | ins hb hrb => cases of_decide_eq_true hy; exact .inl ⟨_, _, _, rfl, w2.sub _ _ hb⟩
            · exact .inr (bv_of r2 w2.sub hy)
        · cases h4
      · split at h4
        · rename_i C' fs
          split at h4
          · rename_i hc
            obtain ⟨rfl, hx⟩ := hc
            have q := callB_sim (Q := Q) w2 (.cons r2 (.cons r1' .nil)) rfl h4 post2
            obtain ⟨t, bv⟩ := bv_of r1' w2.sub hx
            cases r2 with
            | ins hb hrb => exact .inr (.inl ⟨t, _, _, _, bv, rfl, w2.sub _ _ hb, q⟩)
          · cases h4
        · obtain ⟨z, hz, rfl, rfl⟩ := lift_inv h4
          exact .inr (.inr (hs F2 H2 v1 v2 _ _ z Q r1' r2 w2.sub hz fun F3 v H3 g r3 => post2 F3 H3 g.1 (g.2 _ _ _ w2) v r3))
    · exact ⟨c, F1, ρ1, .ex x, ρ', w1, h3, PostX.mono e1 post⟩
  · exact ⟨c, F, ρ, .ex x, ρ', w, h1, post⟩
theorem pem_eqI {ng : Bool} {g0 : D → D → Option D} {g : G} {ea eb : Expr} (hp : ∀ {ta tb : TE}, PE X ea ta → PE X eb tb → PE X e (tOpS (rEqI X.K (cA X.K C) ng r0 (spG X.K 2 g) Wx) ta tb)) (hs : Op2 X.K r0 g0) (ha : PEM X Wx ea ma) (hb : PEM X Wx eb mb) : PEM X Wx e (mEqI C ng g0 g ma mb) :=
  pe_imp (hp ha hb) (eqI_imp hs)
theorem ptm_eqI {ng : Bool} {g0 : D → D → Option D} {g : G} {ea eb : Expr} (hp : ∀ {ta tb : TE}, PE X ea ta → PE X eb tb → PT X e (tTest (tOpS (rEqI X.K (cA X.K C) ng r0 (spG X.K 2 g) Wx) ta tb))) (hs : Op2 X.K r0 g0) (ha : PEM X Wx ea ma) (hb : PEM X Wx eb mb) : PTM X Wx e (mTest (mEqI C ng g0 g ma mb)) :=
  pt_imp (hp ha hb) fun σ H Q h => eqI_imp hs σ H _ (test_imp σ H Q h)
end
/-! the head's facts -/
def eqB (x : Str) (K : Frag) : Bool := He.eqO (findIn K (.ref (He.ga K x)) "__eq__") (some (some (.ref (He.ma K (He.ga K x) "__eq__")))) && (He.eqO (findIn K (.ref (He.ga K x)) "__ne__") (some (some (.builtin "object.__ne__"))) && (isFn K (.ref (He.ma K (He.ga K x) "__eq__")) &&
  (decide (subIn K (.ref (He.ga K x)) (.type "object") = some true) && ([BT.non, .bool, .int, .str, .tup, .lst, .dct].all fun t => decide (subIn K (.ref (He.ga K x)) (.type t.nm) = some false) && decide (kitOne K (.type t.nm) (.ref (He.ga K x)) = some false)))))
theorem eqB_ok {x : Str} {K : Frag} (h : eqB x K = true) : EqC K (He.ga K x) (He.ma K (He.ga K x) "__eq__") := by
  obtain ⟨h1, h⟩ := He.ba h
  obtain ⟨h2, h⟩ := He.ba h
  obtain ⟨h3, h⟩ := He.ba h
  obtain ⟨h4, h5⟩ := He.ba h
  have k := fun t : BT => He.ba (List.all_eq_true.mp h5 t (by cases t <;> decide))
  exact ⟨He.eqO_ok h1, He.eqO_ok h2, h3, of_decide_eq_true h4, fun t => of_decide_eq_true (k t).1, fun t => of_decide_eq_true (k t).2⟩
/-! {} -/
def mDct0 : M OB := M.pure (.dct [])
theorem pom_dct0 {X : Cx} {Wx : WX} {pos : Pos} : POM X Wx (.Dict [] [] pos) mDct0 := by
  refine pe_imp pe_dnewK fun σ H Q h => ?_
  obtain ⟨c, F, ρ, rr, ρ', w, hm, post⟩ := h
  cases hm
  intro p hp
  obtain ⟨w2, q1, q2, q3, q4⟩ := w.alloc (u := .dK []) hp
  exact post F _ (Same.refl _) w2 p (.dK []) q1 upd_same (.dct .nil) q2 q3 q4
theorem T_dct0 {ρ : List S} {Q : OB → List S → Prop} (h : Q (.dct []) ρ) : T mDct0 ρ Q := T_pure h
/-! plain rules for own == -/
theorem T_eqI {C : Addr} {ng : Bool} {prim : D → D → Option D} {g : G} {a b : M D} {ρ : List S} {Q : D → List S → Prop} (h : T a ρ fun x ρ1 => T b ρ1 fun y ρ2 => T (eqI C ng prim g x y) ρ2 Q) : T (mEqI C ng prim g a b) ρ Q := T_bind (h.imp fun _ _ h => T_bind h)
theorem T_eqL {C : Addr} {ng k : Bool} {prim : D → D → Option D} {g : G} {fs : List (Str × D)} {y : D} {ρ : List S} {Q : D → List S → Prop} (h : GD g [.ins C fs, y] (.bl k)) (hy : eqR C y = true) (q : Q (.bl (bif ng then !k else k)) ρ) : T (eqI C ng prim g (.ins C fs) y) ρ Q := by
  show T (if C = C ∧ eqR C y = true then (callD g [.ins C fs, y]).bind fun z => M.lift (negB ng z) else fun _ => none) ρ Q
  rw [if_pos ⟨rfl, hy⟩]
  exact T_bind (T_callD h (T_lift (.some q)))
theorem T_eqRt {C : Addr} {ng k : Bool} {prim : D → D → Option D} {g : G} {fs : List (Str × D)} {x : D} {ρ : List S} {Q : D → List S → Prop} (h : GD g [.ins C fs, x] (.bl k)) (hx : isBt x = true) (q : Q (.bl (bif ng then !k else k)) ρ) : T (eqI C ng prim g x (.ins C fs)) ρ Q := by
  have e : eqI C ng prim g x (.ins C fs) = (if C = C ∧ isBt x = true then (callD g [.ins C fs, x]).bind fun z => M.lift (negB ng z) else fun _ => none) := by
    cases x <;> first | rfl | cases hx
  rw [e, if_pos ⟨rfl, hx⟩]
  exact T_bind (T_callD h (T_lift (.some q)))
theorem T_eqP {C : Addr} {ng : Bool} {prim : D → D → Option D} {g : G} {x y : D} {ρ : List S} {Q : D → List S → Prop} (hx : isBt x = true) (hy : isBt y = true) (q : Lf (prim x y) fun z => Q z ρ) : T (eqI C ng prim g x y) ρ Q := by
  have e : eqI C ng prim g x y = M.lift (prim x y) := by
    cases x <;> first | (cases hx; done) | (cases y <;> first | (cases hy; done) | rfl)
  rw [e]
  exact T_lift q
end L3
set_option Elab.async false
set_option linter.all false
set_option maxRecDepth 100000
set_option maxHeartbeats 4000000
namespace L3
open PySem PySem.Spec PyProof.Rows L2
/-! ### by computation in the kernel -/
/-- a body's end: True is handed back -/
def kT (n : Nat) (r : Option (R Fl × List S)) : Bool := match r with
  | some (.ok (.rt (.dat (.bl true))), ρ') => Nat.ble n ρ'.length
  | _ => false
theorem T_ker {m : M Fl} {ρ : List S} {n : Nat} (h : kT n (m ρ) = true) : T m ρ (FinD n (.bl true)) := by
  unfold kT at h
  split at h
  · rename_i ρ' e
    exact ⟨_, ρ', e, .inl rfl, Nat.le_of_ble_eq_true h⟩
  · cases h
/-- .. with the first parameter changed in place, as it was -/
def kS (n : Nat) (r : Option (R Fl × List S)) : Option (List S) := match r with
  | some (.ok (.rt (.dat (.bl true))), ρ') => if Nat.ble n ρ'.length then some ρ' else none
  | _ => none
theorem T_kerS {m : M Fl} {ρ : List S} {n : Nat} {o : OB} {P : S → OB → Prop} (h : (kS (n + 1) (m ρ)).map (·.head?) = some (some (.par o))) (hp : P (.dat (.bl true)) o) : T m ρ (FinS n P) := by
  unfold kS at h
  split at h
  · rename_i ρ' e
    split at h
    · rename_i hl
      cases ρ' with
      | nil => cases h
      | cons s tl =>
        have h' : s = .par o := Option.some.inj (Option.some.inj h)
        subst h'
        exact ⟨_, _, e, .dat (.bl true), o, tl, .inl rfl, rfl, by have := Nat.le_of_ble_eq_true hl; simp at this; omega, hp⟩
    · cases h
  · cases h
end L3
set_option Elab.async false
set_option linter.all false
set_option maxRecDepth 100000
set_option maxHeartbeats 4000000
namespace K01
open PySem PySem.Spec PyProof.Rows L2 L3
def top (i : Nat) : Stmt := PySem.Challenge.pw_surelyends_k01_fractions_as_values.main.body.getD i (.Pass ⟨0, 0, 0, 0⟩)
abbrev s_is_integer : Stmt := top 7
abbrev s_common_divisor : Stmt := top 8
abbrev s_power_in : Stmt := top 9
abbrev s_Fraction_init : Stmt := inClass (top 10) 0
abbrev s_Fraction_top : Stmt := inClass (top 10) 1
abbrev s_Fraction_bottom : Stmt := inClass (top 10) 2
abbrev s_is_fraction : Stmt := top 11
abbrev s_require_fraction : Stmt := top 12
abbrev s_fraction_of : Stmt := top 13
abbrev s_required : Stmt := top 14
abbrev s_Fraction_power : Stmt := inClass (top 10) 5
abbrev s_Fraction_add : Stmt := inClass (top 10) 6
abbrev s_Fraction_radd : Stmt := inClass (top 10) 7
abbrev s_Fraction_sub : Stmt := inClass (top 10) 8
abbrev s_Fraction_rsub : Stmt := inClass (top 10) 9
abbrev s_Fraction_mul : Stmt := inClass (top 10) 10
abbrev s_Fraction_rmul : Stmt := inClass (top 10) 11
abbrev s_Fraction_neg : Stmt := inClass (top 10) 12
abbrev s_Fraction_abs : Stmt := inClass (top 10) 13
abbrev s_Fraction_eq : Stmt := inClass (top 10) 14
abbrev s_Fraction_str : Stmt := inClass (top 10) 15
abbrev s__law_dice : Stmt := top 16
abbrev s__law_roll : Stmt := top 17
abbrev s__law_one_of : Stmt := top 18
abbrev s__law_gcd : Stmt := top 19
abbrev s__law_ratio : Stmt := top 20
abbrev s__law_integer : Stmt := top 21
abbrev s__law_couple : Stmt := top 22
abbrev s__law_pair : Stmt := top 23
abbrev s__law_told : Stmt := top 24
abbrev s__law_made_right : Stmt := top 25
abbrev s__law_equal_right : Stmt := top 26
abbrev s_law : Stmt := top 27
/-- where the things of the top stand -/
structure Ad where
  f_is_integer : Addr
  d_is_integer : FuncData
  f_common_divisor : Addr
  d_common_divisor : FuncData
  f_power_in : Addr
  d_power_in : FuncData
  f_Fraction_init : Addr
  d_Fraction_init : FuncData
  v_Fraction_init_2 : List Value
  f_Fraction_top : Addr
  d_Fraction_top : FuncData
  p_Fraction_top : Addr
  f_Fraction_bottom : Addr
  d_Fraction_bottom : FuncData
  p_Fraction_bottom : Addr
  f_is_fraction : Addr
  d_is_fraction : FuncData
  f_require_fraction : Addr
  d_require_fraction : FuncData
  f_fraction_of : Addr
  d_fraction_of : FuncData
  f_required : Addr
  d_required : FuncData
  f_Fraction_power : Addr
  d_Fraction_power : FuncData
  f_Fraction_add : Addr
  d_Fraction_add : FuncData
  f_Fraction_radd : Addr
  d_Fraction_radd : FuncData
  f_Fraction_sub : Addr
  d_Fraction_sub : FuncData
  f_Fraction_rsub : Addr
  d_Fraction_rsub : FuncData
  f_Fraction_mul : Addr
  d_Fraction_mul : FuncData
  f_Fraction_rmul : Addr
  d_Fraction_rmul : FuncData
  f_Fraction_neg : Addr
  d_Fraction_neg : FuncData
  f_Fraction_abs : Addr
  d_Fraction_abs : FuncData
  f_Fraction_eq : Addr
  d_Fraction_eq : FuncData
  f_Fraction_str : Addr
  d_Fraction_str : FuncData
  f__law_dice : Addr
  d__law_dice : FuncData
  f__law_roll : Addr
  d__law_roll : FuncData
  f__law_one_of : Addr
  d__law_one_of : FuncData
  f__law_gcd : Addr
  d__law_gcd : FuncData
  f__law_ratio : Addr
  d__law_ratio : FuncData
  f__law_integer : Addr
  d__law_integer : FuncData
  f__law_couple : Addr
  d__law_couple : FuncData
  f__law_pair : Addr
  d__law_pair : FuncData
  f__law_told : Addr
  d__law_told : FuncData
  f__law_made_right : Addr
  d__law_made_right : FuncData
  f__law_equal_right : Addr
  d__law_equal_right : FuncData
  f_law : Addr
  d_law : FuncData
  u_MAX_POWER : Nat
/-- what the top has left -/
structure Txt (K : PySem.W.Frag) (mg : Str → Option Value) (A : Ad) : Prop where
  g_Fraction : mg "Fraction" = some (.ref (cA K 0))
  cl_Fraction : KCls K (cA K 0)
  na_Fraction_own_bottom : NoAttr K (cA K 0) "own_bottom"
  na_Fraction_own_top : NoAttr K (cA K 0) "own_top"
  f_is_integer : FunD K "is_integer" "is_integer" (defArgs s_is_integer) (defBody s_is_integer) (defScope s_is_integer) [] [] A.f_is_integer A.d_is_integer
  g_is_integer : mg "is_integer" = some (.ref A.f_is_integer)
  b_is_integer : Binds K A.d_is_integer ["value"] []
  f_common_divisor : FunD K "common_divisor" "common_divisor" (defArgs s_common_divisor) (defBody s_common_divisor) (defScope s_common_divisor) [] [] A.f_common_divisor A.d_common_divisor
  g_common_divisor : mg "common_divisor" = some (.ref A.f_common_divisor)
  b_common_divisor : Binds K A.d_common_divisor ["number", "other"] []
  f_power_in : FunD K "power_in" "power_in" (defArgs s_power_in) (defBody s_power_in) (defScope s_power_in) [] [] A.f_power_in A.d_power_in
  g_power_in : mg "power_in" = some (.ref A.f_power_in)
  b_power_in : Binds K A.d_power_in ["number", "many"] []
  f_Fraction_init : FunD K "__init__" "Fraction.__init__" (defArgs s_Fraction_init) (defBody s_Fraction_init) (defScope s_Fraction_init) [.int 1] [] A.f_Fraction_init A.d_Fraction_init
  b_Fraction_init : Binds K A.d_Fraction_init ["self", "top", "bottom"] []
  dv_Fraction_init_2 : Vals [.int 1] A.v_Fraction_init_2
  b_Fraction_init_2 : Binds K A.d_Fraction_init ["self", "top", "bottom"] A.v_Fraction_init_2
  mk_Fraction : Mk K (cA K 0) A.f_Fraction_init
  f_Fraction_top : FunD K "top" "Fraction.top" (defArgs s_Fraction_top) (defBody s_Fraction_top) (defScope s_Fraction_top) [] [] A.f_Fraction_top A.d_Fraction_top
  b_Fraction_top : Binds K A.d_Fraction_top ["self"] []
  pr_Fraction_top : PropOf K (cA K 0) "top" A.p_Fraction_top A.f_Fraction_top
  f_Fraction_bottom : FunD K "bottom" "Fraction.bottom" (defArgs s_Fraction_bottom) (defBody s_Fraction_bottom) (defScope s_Fraction_bottom) [] [] A.f_Fraction_bottom A.d_Fraction_bottom
  b_Fraction_bottom : Binds K A.d_Fraction_bottom ["self"] []
  pr_Fraction_bottom : PropOf K (cA K 0) "bottom" A.p_Fraction_bottom A.f_Fraction_bottom
  f_is_fraction : FunD K "is_fraction" "is_fraction" (defArgs s_is_fraction) (defBody s_is_fraction) (defScope s_is_fraction) [] [] A.f_is_fraction A.d_is_fraction
  g_is_fraction : mg "is_fraction" = some (.ref A.f_is_fraction)
  b_is_fraction : Binds K A.d_is_fraction ["value"] []
  f_require_fraction : FunD K "require_fraction" "require_fraction" (defArgs s_require_fraction) (defBody s_require_fraction) (defScope s_require_fraction) [] [] A.f_require_fraction A.d_require_fraction
  g_require_fraction : mg "require_fraction" = some (.ref A.f_require_fraction)
  b_require_fraction : Binds K A.d_require_fraction ["value"] []
  f_fraction_of : FunD K "fraction_of" "fraction_of" (defArgs s_fraction_of) (defBody s_fraction_of) (defScope s_fraction_of) [] [] A.f_fraction_of A.d_fraction_of
  g_fraction_of : mg "fraction_of" = some (.ref A.f_fraction_of)
  b_fraction_of : Binds K A.d_fraction_of ["value"] []
  f_required : FunD K "required" "required" (defArgs s_required) (defBody s_required) (defScope s_required) [] [] A.f_required A.d_required
  g_required : mg "required" = some (.ref A.f_required)
  b_required : Binds K A.d_required ["value"] []
  f_Fraction_power : FunD K "power" "Fraction.power" (defArgs s_Fraction_power) (defBody s_Fraction_power) (defScope s_Fraction_power) [] [] A.f_Fraction_power A.d_Fraction_power
  b_Fraction_power : Binds K A.d_Fraction_power ["self", "many"] []
  me_Fraction_power : Meth K (cA K 0) "power" A.f_Fraction_power
  f_Fraction_add : FunD K "__add__" "Fraction.__add__" (defArgs s_Fraction_add) (defBody s_Fraction_add) (defScope s_Fraction_add) [] [] A.f_Fraction_add A.d_Fraction_add
  b_Fraction_add : Binds K A.d_Fraction_add ["self", "other"] []
  me_Fraction_add : Meth K (cA K 0) "__add__" A.f_Fraction_add
  f_Fraction_radd : FunD K "__radd__" "Fraction.__radd__" (defArgs s_Fraction_radd) (defBody s_Fraction_radd) (defScope s_Fraction_radd) [] [] A.f_Fraction_radd A.d_Fraction_radd
  b_Fraction_radd : Binds K A.d_Fraction_radd ["self", "other"] []
  me_Fraction_radd : Meth K (cA K 0) "__radd__" A.f_Fraction_radd
  f_Fraction_sub : FunD K "__sub__" "Fraction.__sub__" (defArgs s_Fraction_sub) (defBody s_Fraction_sub) (defScope s_Fraction_sub) [] [] A.f_Fraction_sub A.d_Fraction_sub
  b_Fraction_sub : Binds K A.d_Fraction_sub ["self", "other"] []
  me_Fraction_sub : Meth K (cA K 0) "__sub__" A.f_Fraction_sub
  f_Fraction_rsub : FunD K "__rsub__" "Fraction.__rsub__" (defArgs s_Fraction_rsub) (defBody s_Fraction_rsub) (defScope s_Fraction_rsub) [] [] A.f_Fraction_rsub A.d_Fraction_rsub
  b_Fraction_rsub : Binds K A.d_Fraction_rsub ["self", "other"] []
  me_Fraction_rsub : Meth K (cA K 0) "__rsub__" A.f_Fraction_rsub
  f_Fraction_mul : FunD K "__mul__" "Fraction.__mul__" (defArgs s_Fraction_mul) (defBody s_Fraction_mul) (defScope s_Fraction_mul) [] [] A.f_Fraction_mul A.d_Fraction_mul
  b_Fraction_mul : Binds K A.d_Fraction_mul ["self", "other"] []
  me_Fraction_mul : Meth K (cA K 0) "__mul__" A.f_Fraction_mul
  f_Fraction_rmul : FunD K "__rmul__" "Fraction.__rmul__" (defArgs s_Fraction_rmul) (defBody s_Fraction_rmul) (defScope s_Fraction_rmul) [] [] A.f_Fraction_rmul A.d_Fraction_rmul
  b_Fraction_rmul : Binds K A.d_Fraction_rmul ["self", "other"] []
  me_Fraction_rmul : Meth K (cA K 0) "__rmul__" A.f_Fraction_rmul
  f_Fraction_neg : FunD K "__neg__" "Fraction.__neg__" (defArgs s_Fraction_neg) (defBody s_Fraction_neg) (defScope s_Fraction_neg) [] [] A.f_Fraction_neg A.d_Fraction_neg
  b_Fraction_neg : Binds K A.d_Fraction_neg ["self"] []
  me_Fraction_neg : Meth K (cA K 0) "__neg__" A.f_Fraction_neg
  f_Fraction_abs : FunD K "__abs__" "Fraction.__abs__" (defArgs s_Fraction_abs) (defBody s_Fraction_abs) (defScope s_Fraction_abs) [] [] A.f_Fraction_abs A.d_Fraction_abs
  b_Fraction_abs : Binds K A.d_Fraction_abs ["self"] []
  me_Fraction_abs : Meth K (cA K 0) "__abs__" A.f_Fraction_abs
  f_Fraction_eq : FunD K "__eq__" "Fraction.__eq__" (defArgs s_Fraction_eq) (defBody s_Fraction_eq) (defScope s_Fraction_eq) [] [] A.f_Fraction_eq A.d_Fraction_eq
  b_Fraction_eq : Binds K A.d_Fraction_eq ["self", "other"] []
  me_Fraction_eq : Meth K (cA K 0) "__eq__" A.f_Fraction_eq
  f_Fraction_str : FunD K "__str__" "Fraction.__str__" (defArgs s_Fraction_str) (defBody s_Fraction_str) (defScope s_Fraction_str) [] [] A.f_Fraction_str A.d_Fraction_str
  b_Fraction_str : Binds K A.d_Fraction_str ["self"] []
  me_Fraction_str : Meth K (cA K 0) "__str__" A.f_Fraction_str
  f__law_dice : FunD K "_law_dice" "_law_dice" (defArgs s__law_dice) (defBody s__law_dice) (defScope s__law_dice) [] [] A.f__law_dice A.d__law_dice
  g__law_dice : mg "_law_dice" = some (.ref A.f__law_dice)
  b__law_dice : Binds K A.d__law_dice ["_law_script", "_law_at"] []
  f__law_roll : FunD K "_law_roll" "_law_roll" (defArgs s__law_roll) (defBody s__law_roll) (defScope s__law_roll) [] [] A.f__law_roll A.d__law_roll
  g__law_roll : mg "_law_roll" = some (.ref A.f__law_roll)
  b__law_roll : Binds K A.d__law_roll ["_law_dice_here", "_law_total"] []
  f__law_one_of : FunD K "_law_one_of" "_law_one_of" (defArgs s__law_one_of) (defBody s__law_one_of) (defScope s__law_one_of) [] [] A.f__law_one_of A.d__law_one_of
  g__law_one_of : mg "_law_one_of" = some (.ref A.f__law_one_of)
  b__law_one_of : Binds K A.d__law_one_of ["_law_dice_here", "_law_items"] []
  f__law_gcd : FunD K "_law_gcd" "_law_gcd" (defArgs s__law_gcd) (defBody s__law_gcd) (defScope s__law_gcd) [] [] A.f__law_gcd A.d__law_gcd
  g__law_gcd : mg "_law_gcd" = some (.ref A.f__law_gcd)
  b__law_gcd : Binds K A.d__law_gcd ["_law_one", "_law_two"] []
  f__law_ratio : FunD K "_law_ratio" "_law_ratio" (defArgs s__law_ratio) (defBody s__law_ratio) (defScope s__law_ratio) [] [] A.f__law_ratio A.d__law_ratio
  g__law_ratio : mg "_law_ratio" = some (.ref A.f__law_ratio)
  b__law_ratio : Binds K A.d__law_ratio ["_law_top", "_law_bottom"] []
  f__law_integer : FunD K "_law_integer" "_law_integer" (defArgs s__law_integer) (defBody s__law_integer) (defScope s__law_integer) [] [] A.f__law_integer A.d__law_integer
  g__law_integer : mg "_law_integer" = some (.ref A.f__law_integer)
  b__law_integer : Binds K A.d__law_integer ["_law_dice_here"] []
  f__law_couple : FunD K "_law_couple" "_law_couple" (defArgs s__law_couple) (defBody s__law_couple) (defScope s__law_couple) [] [] A.f__law_couple A.d__law_couple
  g__law_couple : mg "_law_couple" = some (.ref A.f__law_couple)
  b__law_couple : Binds K A.d__law_couple ["_law_dice_here"] []
  f__law_pair : FunD K "_law_pair" "_law_pair" (defArgs s__law_pair) (defBody s__law_pair) (defScope s__law_pair) [] [] A.f__law_pair A.d__law_pair
  g__law_pair : mg "_law_pair" = some (.ref A.f__law_pair)
  b__law_pair : Binds K A.d__law_pair ["_law_top", "_law_bottom"] []
  f__law_told : FunD K "_law_told" "_law_told" (defArgs s__law_told) (defBody s__law_told) (defScope s__law_told) [] [] A.f__law_told A.d__law_told
  g__law_told : mg "_law_told" = some (.ref A.f__law_told)
  b__law_told : Binds K A.d__law_told ["_law_thing"] []
  f__law_made_right : FunD K "_law_made_right" "_law_made_right" (defArgs s__law_made_right) (defBody s__law_made_right) (defScope s__law_made_right) [] [] A.f__law_made_right A.d__law_made_right
  g__law_made_right : mg "_law_made_right" = some (.ref A.f__law_made_right)
  b__law_made_right : Binds K A.d__law_made_right ["_law_dice_here"] []
  f__law_equal_right : FunD K "_law_equal_right" "_law_equal_right" (defArgs s__law_equal_right) (defBody s__law_equal_right) (defScope s__law_equal_right) [] [] A.f__law_equal_right A.d__law_equal_right
  g__law_equal_right : mg "_law_equal_right" = some (.ref A.f__law_equal_right)
  b__law_equal_right : Binds K A.d__law_equal_right ["_law_dice_here"] []
  f_law : FunD K "law" "law" (defArgs s_law) (defBody s_law) (defScope s_law) [] [] A.f_law A.d_law
  g_law : mg "law" = some (.ref A.f_law)
  b_law : Binds K A.d_law ["_law_script"] []
  bn_Fraction_add : BinC K (cA K 0) "add" A.f_Fraction_add A.f_Fraction_radd
  bn_Fraction_sub : BinC K (cA K 0) "sub" A.f_Fraction_sub A.f_Fraction_rsub
  bn_Fraction_mul : BinC K (cA K 0) "mul" A.f_Fraction_mul A.f_Fraction_rmul
  eq_Fraction : EqC K (cA K 0) A.f_Fraction_eq
  n_isinstance : mg "isinstance" = none
  n_int : mg "int" = none
  n_bool : mg "bool" = none
  n_abs : mg "abs" = none
  n_max : mg "max" = none
  n_min : mg "min" = none
  n_len : mg "len" = none
  n_range : mg "range" = none
  n_str : mg "str" = none
  n_repr : mg "repr" = none
  g_MAX_POWER : mg "MAX_POWER" = some (.int 64 A.u_MAX_POWER)
  isB_int : ∀ C ∈ ([0] : List Nat), KCls K (cA K C) ∧ PySem.W.kitOne K (.ref (cA K C)) (.type (BT.int).nm) = some false
  isB_bool : ∀ C ∈ ([0] : List Nat), KCls K (cA K C) ∧ PySem.W.kitOne K (.ref (cA K C)) (.type (BT.bool).nm) = some false
  isC_Fraction : ∀ t : BT, PySem.W.kitOne K (.type t.nm) (.ref (cA K 0)) = some false
  isO_Fraction : ∀ C ∈ (([] : List Nat)), KCls K (cA K C) ∧ PySem.W.kitOne K (.ref (cA K C)) (.ref (cA K 0)) = some false
end K01
set_option Elab.async false
set_option linter.all false
set_option maxRecDepth 100000
set_option maxHeartbeats 4000000
namespace K01
open PySem PySem.Spec PyProof.Rows L2 L3
def m_is_integer : M Fl :=
  (mRet (mAndV (mUn (dIsB .int [0]) (mVar 0)) (mNotV (mUn (dIsB .bool [0]) (mVar 0)))))
def g_is_integer : G := fnSem 1 m_is_integer
def m_common_divisor : M Fl :=
  (mSeq (mWhl (fun ρ => gcdFuel ρ 1) (mTest (mOp dNe (mVar 1) (mC (.int 0))))
  (mPar 0 1 (mVar 1) (mOp dMod (mVar 0) (mVar 1))))
  (mRet (mVar 0)))
def g_common_divisor : G := fnSem 2 m_common_divisor
def m_power_in : M Fl :=
  (mSeq (mSet (mC (.int 1)) (pName 2))
  (mSeq (mFor (mItemsN rng1 [(mVar 1)]) (pName 3)
  (mSet (mOp dMul (mVar 2) (mVar 0)) (pName 2)))
  (mRet (mVar 2))))
def g_power_in : G := fnSem 4 m_power_in
def m_Fraction_init : M Fl :=
  (mSeq (mIfS (mOr (mNot (mTest (mCall 1 g_is_integer [] (mAgs [.d (mVar 1)])))) (mOr (mNot (mTest (mCall 1 g_is_integer [] (mAgs [.d (mVar 2)])))) (mTest (mOp dEq (mVar 2) (mC (.int 0))))))
  mNever
  mSkip)
  (mSeq (mSet (mCall 2 g_common_divisor [] (mAgs [.d (mCB dAbs [(mVar 1)]), .d (mCB dAbs [(mVar 2)])])) (pName 3))
  (mSeq (mSetF 0 0 "own_top" (mOp dFdiv (mIf (mTest (mOp dGt (mVar 2) (mC (.int 0)))) (mVar 1) (mUn dNeg (mVar 1))) (mVar 3)))
  (mSetF 0 0 "own_bottom" (mOp dFdiv (mCB dAbs [(mVar 2)]) (mVar 3))))))
def g_Fraction_init : G := fnSem 4 m_Fraction_init
def m_Fraction_top : M Fl :=
  (mRet (mUn (fldD 0 "own_top") (mVar 0)))
def g_Fraction_top : G := fnSem 1 m_Fraction_top
def m_Fraction_bottom : M Fl :=
  (mRet (mUn (fldD 0 "own_bottom") (mVar 0)))
def g_Fraction_bottom : G := fnSem 1 m_Fraction_bottom
def m_is_fraction : M Fl :=
  (mRet (mOrV (mUn (dIsC 0 []) (mVar 0)) (mCall 1 g_is_integer [] (mAgs [.d (mVar 0)]))))
def g_is_fraction : G := fnSem 1 m_is_fraction
def m_require_fraction : M Fl :=
  (mIfS (mNot (mTest (mCall 1 g_is_fraction [] (mAgs [.d (mVar 0)]))))
  mNever
  mSkip)
def g_require_fraction : G := fnSem 1 m_require_fraction
def m_fraction_of : M Fl :=
  (mRet (mIf (mTest (mUn (dIsC 0 []) (mVar 0))) (mVar 0) (mFrz (mMk 0 3 g_Fraction_init [.int 1] (mAgs [.d (mVar 0)])))))
def g_fraction_of : G := fnSem 1 m_fraction_of
def m_required : M Fl :=
  (mSeq (mDrop (mCall 1 g_require_fraction [] (mAgs [.d (mVar 0)])))
  (mRet (mCall 1 g_fraction_of [] (mAgs [.d (mVar 0)]))))
def g_required : G := fnSem 1 m_required
def m_Fraction_power : M Fl :=
  (mSeq (mIfS (mOr (mNot (mTest (mCall 1 g_is_integer [] (mAgs [.d (mVar 1)])))) (mNot (mTest (mBoth dLe dLe (mC (.int 0)) (mVar 1) (mC (.int 64))))))
  mNever
  mSkip)
  (mRet (mFrz (mMk 0 3 g_Fraction_init [] (mAgs [.d (mCall 2 g_power_in [] (mAgs [.d (mUn (fldD 0 "own_top") (mVar 0)), .d (mVar 1)])), .d (mCall 2 g_power_in [] (mAgs [.d (mUn (fldD 0 "own_bottom") (mVar 0)), .d (mVar 1)]))])))))
def g_Fraction_power : G := fnSem 2 m_Fraction_power
def m_Fraction_add : M Fl :=
  (mSeq (mSet (mCall 1 g_required [] (mAgs [.d (mVar 1)])) (pName 2))
  (mSeq (mSet (mOp dAdd (mOp dMul (mUn (fldD 0 "own_top") (mVar 0)) (mUn (fldD 0 "own_bottom") (mVar 2))) (mOp dMul (mUn (fldD 0 "own_top") (mVar 2)) (mUn (fldD 0 "own_bottom") (mVar 0)))) (pName 3))
  (mRet (mFrz (mMk 0 3 g_Fraction_init [] (mAgs [.d (mVar 3), .d (mOp dMul (mUn (fldD 0 "own_bottom") (mVar 0)) (mUn (fldD 0 "own_bottom") (mVar 2)))]))))))
def g_Fraction_add : G := fnSem 4 m_Fraction_add
def m_Fraction_radd : M Fl :=
  (mRet (mOpI 0 dAdd g_Fraction_add (fun _ => none) (mVar 0) (mVar 1)))
def g_Fraction_radd : G := fnSem 2 m_Fraction_radd
def m_Fraction_sub : M Fl :=
  (mSeq (mSet (mCall 1 g_required [] (mAgs [.d (mVar 1)])) (pName 2))
  (mSeq (mSet (mOp dSub (mOp dMul (mUn (fldD 0 "own_top") (mVar 0)) (mUn (fldD 0 "own_bottom") (mVar 2))) (mOp dMul (mUn (fldD 0 "own_top") (mVar 2)) (mUn (fldD 0 "own_bottom") (mVar 0)))) (pName 3))
  (mRet (mFrz (mMk 0 3 g_Fraction_init [] (mAgs [.d (mVar 3), .d (mOp dMul (mUn (fldD 0 "own_bottom") (mVar 0)) (mUn (fldD 0 "own_bottom") (mVar 2)))]))))))
def g_Fraction_sub : G := fnSem 4 m_Fraction_sub
def m_Fraction_rsub : M Fl :=
  (mRet (mOpI 0 dSub g_Fraction_sub (fun _ => none) (mCall 1 g_required [] (mAgs [.d (mVar 1)])) (mVar 0)))
def g_Fraction_rsub : G := fnSem 2 m_Fraction_rsub
def m_Fraction_mul : M Fl :=
  (mSeq (mSet (mCall 1 g_required [] (mAgs [.d (mVar 1)])) (pName 2))
  (mRet (mFrz (mMk 0 3 g_Fraction_init [] (mAgs [.d (mOp dMul (mUn (fldD 0 "own_top") (mVar 0)) (mUn (fldD 0 "own_top") (mVar 2))), .d (mOp dMul (mUn (fldD 0 "own_bottom") (mVar 0)) (mUn (fldD 0 "own_bottom") (mVar 2)))])))))
def g_Fraction_mul : G := fnSem 3 m_Fraction_mul
def m_Fraction_rmul : M Fl :=
  (mRet (mOpI 0 dMul g_Fraction_mul (fun _ => none) (mVar 0) (mVar 1)))
def g_Fraction_rmul : G := fnSem 2 m_Fraction_rmul
def m_Fraction_neg : M Fl :=
  (mRet (mFrz (mMk 0 3 g_Fraction_init [] (mAgs [.d (mUn dNeg (mUn (fldD 0 "own_top") (mVar 0))), .d (mUn (fldD 0 "own_bottom") (mVar 0))]))))
def g_Fraction_neg : G := fnSem 1 m_Fraction_neg
def m_Fraction_abs : M Fl :=
  (mRet (mFrz (mMk 0 3 g_Fraction_init [] (mAgs [.d (mCB dAbs [(mUn (fldD 0 "own_top") (mVar 0))]), .d (mUn (fldD 0 "own_bottom") (mVar 0))]))))
def g_Fraction_abs : G := fnSem 1 m_Fraction_abs
def m_Fraction_eq : M Fl :=
  (mSeq (mIfS (mTest (mCall 1 g_is_integer [] (mAgs [.d (mVar 1)])))
  (mRet (mAndV (mOp dEq (mUn (fldD 0 "own_bottom") (mVar 0)) (mC (.int 1))) (mOp dEq (mUn (fldD 0 "own_top") (mVar 0)) (mVar 1))))
  mSkip)
  (mRet (mAndV (mUn (dIsC 0 []) (mVar 1)) (mAndV (mOp dEq (mUn (fldD 0 "own_top") (mVar 0)) (mUn (fldD 0 "own_top") (mVar 1))) (mOp dEq (mUn (fldD 0 "own_bottom") (mVar 0)) (mUn (fldD 0 "own_bottom") (mVar 1)))))))
def g_Fraction_eq : G := fnSem 2 m_Fraction_eq
def m_Fraction_str : M Fl :=
  (mSeq (mIfS (mTest (mOp dEq (mUn (fldD 0 "own_bottom") (mVar 0)) (mC (.int 1))))
  (mRet (mCB dStr [(mUn (fldD 0 "own_top") (mVar 0))]))
  mSkip)
  (mRet (mFs [(mUn dFmt (mUn (fldD 0 "own_top") (mVar 0))), (mC (.str "/")), (mUn dFmt (mUn (fldD 0 "own_bottom") (mVar 0)))])))
def g_Fraction_str : G := fnSem 1 m_Fraction_str
def m__law_dice : M Fl :=
  (mSeq (mSet (mOp dAdd (mOp dMul (mC (.int 29)) (mVar 1)) (mC (.int 7))) (pName 2))
  (mSeq (mIfS (mTest (mOp dLt (mVar 1) (mCB dLen [(mVar 0)])))
  (mSet (mOp dIx (mVar 0) (mVar 1)) (pName 2))
  mSkip)
  (mSeq (mSet (mOp dMod (mCB dInt [(mCB dAbs [(mVar 2)])]) (mOp dPow (mOp dPow (mC (.int 10)) (mC (.int 60))) (mC (.int 10)))) (pName 3))
  (mSeq (mSet (mOp dAdd (mOp dAdd (mOp dAdd (mOp dMul (mOp dMod (mCB dInt [(mVar 3)]) (mC (.int 2147483549))) (mC (.int 51001))) (mOp dMul (mC (.int 4099)) (mVar 1))) (mOp dMul (mC (.int 17)) (mCB dInt [(mOp dLt (mVar 2) (mC (.int 0)))]))) (mC (.int 41))) (pName 4))
  (mRetO (mLst [(mCB dMax2 [(mC (.int 0)), (mOp dSub (mVar 3) (mOp dPow (mC (.int 10)) (mC (.int 18))))]), (mOp dMod (mCB dInt [(mVar 4)]) (mC (.int 2147483543))), (mC (.int 0))]))))))
def g__law_dice : G := fnSem 5 m__law_dice
def m__law_roll : M Fl :=
  (mSeq (mIfS (mTest (mOp dGt (mIxS 0 (mC (.int 0))) (mC (.int 0))))
  (mSeq (mSet (mOp dMod (mCB dInt [(mIxS 0 (mC (.int 0)))]) (mVar 1)) (pName 2))
  (mSeq (mSetIx 0 (mC (.int 0)) (mOp dFdiv (mIxS 0 (mC (.int 0))) (mVar 1)))
  (mRet (mVar 2))))
  mSkip)
  (mSeq (mSetIx 0 (mC (.int 2)) (mOp dAdd (mIxS 0 (mC (.int 2))) (mC (.int 1))))
  (mSeq (mSet (mOp dMod (mCB dInt [(mOp dAdd (mIxS 0 (mC (.int 1))) (mOp dMul (mC (.int 1000193)) (mIxS 0 (mC (.int 2)))))]) (mC (.int 2305843009213693951))) (pName 3))
  (mSeq (mSet (mOp dAdd (mOp dMul (mOp dMod (mCB dInt [(mOp dMul (mVar 3) (mVar 3))]) (mC (.int 2305843009213693921))) (mVar 3)) (mOp dMul (mC (.int 8221)) (mIxS 0 (mC (.int 2))))) (pName 4))
  (mSeq (mSet (mOp dMod (mCB dInt [(mVar 4)]) (mC (.int 2305843009213693907))) (pName 4))
  (mRet (mOp dMod (mCB dInt [(mOp dFdiv (mVar 4) (mC (.int 8192)))]) (mVar 1))))))))
def g__law_roll : G := fnSem 5 m__law_roll
def m__law_one_of : M Fl :=
  (mRet (mOp dIx (mVar 1) (mCall 2 g__law_roll [] (mAgs [.s 0, .d (mCB dLen [(mVar 1)])]))))
def g__law_one_of : G := fnSem 2 m__law_one_of
def m__law_gcd : M Fl :=
  (mSeq (mWhl (fun ρ => gcdFuel ρ 1) (mTest (mOp dGt (mVar 1) (mC (.int 0))))
  (mPar 0 1 (mVar 1) (mOp dMod (mCB dInt [(mVar 0)]) (mVar 1))))
  (mRet (mVar 0)))
def g__law_gcd : G := fnSem 2 m__law_gcd
def m__law_ratio : M Fl :=
  (mSeq (mSet (mCall 2 g__law_gcd [] (mAgs [.d (mCB dAbs [(mVar 0)]), .d (mVar 1)])) (pName 2))
  (mRet (mTup [(mOp dFdiv (mVar 0) (mVar 2)), (mOp dFdiv (mVar 1) (mVar 2))])))
def g__law_ratio : G := fnSem 3 m__law_ratio
def m__law_integer : M Fl :=
  (mSeq (mSet (mCall 2 g__law_one_of [] (mAgs [.s 0, .d (mFrz (mLst [(mC (.int 0)), (mC (.int 1)), (mC (.int 1)), (mC (.int 2)), (mC (.int 3)), (mC (.int 4)), (mC (.int 6)), (mC (.int 9)), (mC (.int 12)), (mC (.int 35)), (mC (.int 60)), (mC (.int 210)), (mC (.int 997))]))])) (pName 1))
  (mSeq (mIfS (mTest (mOp dEq (mCall 2 g__law_roll [] (mAgs [.s 0, .d (mC (.int 4))])) (mC (.int 0))))
  (mSet (mOp dMul (mOp dMul (mVar 1) (mOp dAdd (mC (.int 1)) (mCall 2 g__law_roll [] (mAgs [.s 0, .d (mOp dPow (mC (.int 10)) (mC (.int 6)))])))) (mCall 2 g__law_one_of [] (mAgs [.s 0, .d (mFrz (mLst [(mC (.int 1)), (mC (.int 7)), (mOp dPow (mC (.int 10)) (mC (.int 20))), (mOp dMul (mC (.int 6)) (mOp dPow (mC (.int 10)) (mC (.int 60))))]))]))) (pName 1))
  mSkip)
  (mRet (mIf (mTest (mOp dEq (mCall 2 g__law_roll [] (mAgs [.s 0, .d (mC (.int 3))])) (mC (.int 0)))) (mOp dSub (mC (.int 0)) (mVar 1)) (mVar 1)))))
def g__law_integer : G := fnSem 2 m__law_integer
def m__law_couple : M Fl :=
  (mSeq (mPar 1 2 (mCall 1 g__law_integer [] (mAgs [.s 0])) (mCall 1 g__law_integer [] (mAgs [.s 0])))
  (mRet (mTup [(mVar 1), (mIf (mTest (mOp dNe (mVar 2) (mC (.int 0)))) (mVar 2) (mCall 2 g__law_one_of [] (mAgs [.s 0, .d (mFrz (mLst [(mC (.int 1)), (mUn dNeg (mC (.int 1))), (mC (.int 5))]))])))])))
def g__law_couple : G := fnSem 3 m__law_couple
def m__law_pair : M Fl :=
  (mRet (mIf (mTest (mOp dGt (mVar 1) (mC (.int 0)))) (mCall 2 g__law_ratio [] (mAgs [.d (mVar 0), .d (mVar 1)])) (mCall 2 g__law_ratio [] (mAgs [.d (mOp dSub (mC (.int 0)) (mVar 0)), .d (mOp dSub (mC (.int 0)) (mVar 1))]))))
def g__law_pair : G := fnSem 2 m__law_pair
def m__law_told : M Fl :=
  (mRet (mTup [(mProp 0 g_Fraction_top (mVar 0)), (mProp 0 g_Fraction_bottom (mVar 0))]))
def g__law_told : G := fnSem 1 m__law_told
def m__law_made_right : M Fl :=
  (mSeq (mSet (mCall 1 g__law_couple [] (mAgs [.s 0])) (pTup [1, 2]))
  (mSeq (mSet (mTup [(mCall 2 g__law_pair [] (mAgs [.d (mVar 1), .d (mVar 2)])), (mFrz (mMk 0 3 g_Fraction_init [] (mAgs [.d (mVar 1), .d (mVar 2)])))]) (pTup [3, 4]))
  (mSeq (mIfS (mTest (mOp dNe (mCB dRepr [(mCall 1 g__law_told [] (mAgs [.d (mVar 4)]))]) (mCB dRepr [(mVar 3)])))
  (mRet (mC (.bl false)))
  mSkip)
  (mSeq (mSet (mIf (mTest (mOp dEq (mOp dIx (mVar 3) (mC (.int 1))) (mC (.int 1)))) (mCB dStr [(mOp dIx (mVar 3) (mC (.int 0)))]) (mOp dAdd (mOp dAdd (mCB dStr [(mOp dIx (mVar 3) (mC (.int 0)))]) (mC (.str "/"))) (mCB dStr [(mOp dIx (mVar 3) (mC (.int 1)))]))) (pName 5))
  (mSeq (mSet (mOp dAdd (mC (.int 1)) (mCall 2 g__law_roll [] (mAgs [.s 0, .d (mC (.int 99))]))) (pName 6))
  (mSeq (mSet (mFrz (mLst [(mFrz (mMk 0 3 g_Fraction_init [] (mAgs [.d (mOp dMul (mVar 6) (mVar 1)), .d (mOp dMul (mVar 6) (mVar 2))]))), (mFrz (mMk 0 3 g_Fraction_init [] (mAgs [.d (mOp dSub (mC (.int 0)) (mVar 1)), .d (mOp dSub (mC (.int 0)) (mVar 2))]))), (mFrz (mMk 0 3 g_Fraction_init [] (mAgs [.d (mOp dIx (mVar 3) (mC (.int 0))), .d (mOp dIx (mVar 3) (mC (.int 1)))])))])) (pName 7))
  (mSeq (mIfS (mOr (mTest (mOp dNe (mStrI 0 dStr g_Fraction_str [(mVar 4)]) (mVar 5))) (mTest (mOp dNe (mFrz (mComp [9] (mItems lstD (mVar 7)) (pName 9) mYes (mEqI 0 false dEq g_Fraction_eq (mVar 9) (mVar 4)))) (mOp dMul (mFrz (mLst [(mC (.bl true))])) (mC (.int 3))))))
  (mRet (mC (.bl false)))
  mSkip)
  (mSeq (mIfS (mTest (mOp dNe (mFrz (mComp [9] (mItems lstD (mVar 7)) (pName 9) mYes (mEqI 0 true dNe g_Fraction_eq (mVar 9) (mVar 4)))) (mOp dMul (mFrz (mLst [(mC (.bl false))])) (mC (.int 3)))))
  (mRet (mC (.bl false)))
  mSkip)
  (mSeq (mSet (mFrz (mLst [(mOpI 0 dAdd g_Fraction_add (fun _ => none) (mVar 4) (mC (.int 1))), (mOpI 0 dSub g_Fraction_sub g_Fraction_rsub (mC (.int 2)) (mVar 4)), (mOpI 0 dMul g_Fraction_mul (fun _ => none) (mVar 4) (mVar 4)), (mOpI 0 dSub g_Fraction_sub g_Fraction_rsub (mC (.int 0)) (mVar 4)), (mCBI 0 dAbs g_Fraction_abs [(mVar 4)]), (mMth 0 "power" 2 g_Fraction_power [] (.d (mVar 4)) (mAgs [.d (mC (.int 2))]))])) (pName 8))
  (mRet (mAndV (mOp dEq (mCB dLen [(mVar 8)]) (mC (.int 6))) (mAndV (mOp dEq (mCall 1 g__law_told [] (mAgs [.d (mVar 4)])) (mVar 3)) (mOp dIsBl (mCall 1 g_is_fraction [] (mAgs [.d (mVar 4)])) (mC (.bl true)))))))))))))))
def g__law_made_right : G := fnSem 10 m__law_made_right
def m__law_equal_right : M Fl :=
  (mSeq (mPar 1 2 (mCall 1 g__law_couple [] (mAgs [.s 0])) (mCall 1 g__law_couple [] (mAgs [.s 0])))
  (mSeq (mSet (mTup [(mFrz (mMk 0 3 g_Fraction_init [] (mAgs [.d (mOp dIx (mVar 1) (mC (.int 0))), .d (mOp dIx (mVar 1) (mC (.int 1)))]))), (mFrz (mMk 0 3 g_Fraction_init [] (mAgs [.d (mOp dIx (mVar 2) (mC (.int 0))), .d (mOp dIx (mVar 2) (mC (.int 1)))])))]) (pTup [3, 4]))
  (mSeq (mSet (mOp dEq (mCall 2 g__law_pair [] (mAgs [.d (mOp dIx (mVar 1) (mC (.int 0))), .d (mOp dIx (mVar 1) (mC (.int 1)))])) (mCall 2 g__law_pair [] (mAgs [.d (mOp dIx (mVar 2) (mC (.int 0))), .d (mOp dIx (mVar 2) (mC (.int 1)))]))) (pName 5))
  (mSeq (mIfS (mTest (mOp dNe (mFrz (mLst [(mEqI 0 false dEq g_Fraction_eq (mVar 3) (mVar 4)), (mEqI 0 false dEq g_Fraction_eq (mVar 4) (mVar 3)), (mEqI 0 true dNe g_Fraction_eq (mVar 3) (mVar 4))])) (mFrz (mLst [(mVar 5), (mVar 5), (mNotV (mVar 5))]))))
  (mRet (mC (.bl false)))
  mSkip)
  (mSeq (mSet (mCall 2 g__law_one_of [] (mAgs [.s 0, .d (mFrz (mLst [(mOp dIx (mVar 1) (mC (.int 0))), (mOp dFdiv (mOp dIx (mVar 1) (mC (.int 0))) (mOp dIx (mVar 1) (mC (.int 1)))), (mC (.int 0)), (mC (.int 1)), (mC (.int 2))]))])) (pName 6))
  (mSeq (mSet (mOp dEq (mOp dMul (mVar 6) (mOp dIx (mVar 1) (mC (.int 1)))) (mOp dIx (mVar 1) (mC (.int 0)))) (pName 5))
  (mSeq (mIfS (mTest (mOp dNe (mFrz (mLst [(mEqI 0 false dEq g_Fraction_eq (mVar 3) (mVar 6)), (mEqI 0 false dEq g_Fraction_eq (mVar 6) (mVar 3)), (mEqI 0 true dNe g_Fraction_eq (mVar 3) (mVar 6)), (mEqI 0 true dNe g_Fraction_eq (mVar 6) (mVar 3))])) (mOp dAdd (mOp dMul (mFrz (mLst [(mVar 5)])) (mC (.int 2))) (mOp dMul (mFrz (mLst [(mNotV (mVar 5))])) (mC (.int 2))))))
  (mRet (mC (.bl false)))
  mSkip)
  (mSeq (mSet (mFrz (mLst [(mC .non), (mC (.str "1")), (mStrI 0 dStr g_Fraction_str [(mVar 3)]), (mTup [(mProp 0 g_Fraction_top (mVar 3)), (mProp 0 g_Fraction_bottom (mVar 3))]), (mFrz (mLst [])), (mFrz mDct0), (mC (.bl true)), (mC (.bl false)), (mTup [(mC (.str "a")), (mC (.int 1))]), (mFrz (mLst [(mVar 3)]))])) (pName 7))
  (mRet (mOp dEq (mFrz (mComp [8] (mItems lstD (mVar 7)) (pName 8) (mOr (mTest (mEqI 0 false dEq g_Fraction_eq (mVar 3) (mVar 8))) (mOr (mTest (mEqI 0 false dEq g_Fraction_eq (mVar 8) (mVar 3))) (mNot (mTest (mEqI 0 true dNe g_Fraction_eq (mVar 3) (mVar 8)))))) (mVar 8))) (mFrz (mLst []))))))))))))
def g__law_equal_right : G := fnSem 9 m__law_equal_right
def m_law : M Fl :=
  (mSeq (mFor (mItemsN rng1 [(mCB dMax2 [(mC (.int 1)), (mCB dMin2 [(mC (.int 6)), (mCB dLen [(mVar 0)])])])]) (pName 1)
  (mSeq (mSetO 2 (mCallO 2 g__law_dice [] (mAgs [.d (mVar 0), .d (mVar 1)])))
  (mFor (mItemsN rng1 [(mC (.int 4))]) (pName 3)
  (mIfS (mOr (mNot (mTest (mCall 1 g__law_made_right [] (mAgs [.s 2])))) (mNot (mTest (mCall 1 g__law_equal_right [] (mAgs [.s 2])))))
  (mRet (mC (.bl false)))
  mSkip))))
  (mSeq (mSet (mFrz (mLst [(mFrz (mMk 0 3 g_Fraction_init [] (mAgs [.d (mUn dNeg (mC (.int 2))), .d (mUn dNeg (mC (.int 6)))]))), (mFrz (mMk 0 3 g_Fraction_init [] (mAgs [.d (mC (.int 1)), .d (mUn dNeg (mC (.int 2)))]))), (mFrz (mMk 0 3 g_Fraction_init [] (mAgs [.d (mC (.int 0)), .d (mUn dNeg (mC (.int 7)))]))), (mFrz (mMk 0 3 g_Fraction_init [] (mAgs [.d (mC (.int 6)), .d (mC (.int 3))]))), (mFrz (mMk 0 3 g_Fraction_init [.int 1] (mAgs [.d (mC (.int 3))])))])) (pName 4))
  (mSeq (mIfS (mTest (mOp dNe (mFrz (mComp [7] (mItems lstD (mVar 4)) (pName 7) mYes (mCall 1 g__law_told [] (mAgs [.d (mVar 7)])))) (mFrz (mLst [(mTup [(mC (.int 1)), (mC (.int 3))]), (mTup [(mUn dNeg (mC (.int 1))), (mC (.int 2))]), (mTup [(mC (.int 0)), (mC (.int 1))]), (mTup [(mC (.int 2)), (mC (.int 1))]), (mTup [(mC (.int 3)), (mC (.int 1))])]))))
  (mRet (mC (.bl false)))
  mSkip)
  (mSeq (mIfS (mTest (mOp dNe (mFrz (mComp [7] (mItems lstD (mVar 4)) (pName 7) mYes (mStrI 0 dStr g_Fraction_str [(mVar 7)]))) (mFrz (mLst [(mC (.str "1/3")), (mC (.str "-1/2")), (mC (.str "0")), (mC (.str "2")), (mC (.str "3"))]))))
  (mRet (mC (.bl false)))
  mSkip)
  (mSeq (mSet (mFrz (mLst [(mEqI 0 false dEq g_Fraction_eq (mFrz (mMk 0 3 g_Fraction_init [] (mAgs [.d (mC (.int 3)), .d (mC (.int 2))]))) (mC (.int 3))), (mEqI 0 false dEq g_Fraction_eq (mFrz (mMk 0 3 g_Fraction_init [] (mAgs [.d (mC (.int 3)), .d (mC (.int 1))]))) (mC (.int 3))), (mEqI 0 false dEq g_Fraction_eq (mC (.int 3)) (mFrz (mMk 0 3 g_Fraction_init [] (mAgs [.d (mC (.int 6)), .d (mC (.int 2))])))), (mEqI 0 false dEq g_Fraction_eq (mFrz (mMk 0 3 g_Fraction_init [.int 1] (mAgs [.d (mC (.int 1))]))) (mC (.bl true))), (mEqI 0 true dNe g_Fraction_eq (mFrz (mMk 0 3 g_Fraction_init [.int 1] (mAgs [.d (mC (.int 0))]))) (mC (.bl false)))])) (pName 5))
  (mSeq (mIfS (mTest (mOp dNe (mVar 5) (mFrz (mLst [(mC (.bl false)), (mC (.bl true)), (mC (.bl true)), (mC (.bl false)), (mC (.bl true))]))))
  (mRet (mC (.bl false)))
  mSkip)
  (mSeq (mSet (mFrz (mLst [(mOp dIx (mVar 4) (mC (.int 0))), (mC (.int 0)), (mUn dNeg (mC (.int 7))), (mOp dPow (mOp dPow (mC (.int 10)) (mC (.int 60))) (mC (.int 16))), (mC (.bl true)), (mC .non), (mC (.str "1/2")), (mTup [(mC (.int 1)), (mC (.int 2))]), (mFrz (mLst [])), (mFrz mDct0), (mFrz (mLst [(mOp dIx (mVar 4) (mC (.int 0)))])), (mTup [(mOp dIx (mVar 4) (mC (.int 0)))])])) (pName 6))
  (mRet (mOp dEq (mFrz (mComp [8] (mItems lstD (mVar 6)) (pName 8) mYes (mCall 1 g_is_fraction [] (mAgs [.d (mVar 8)])))) (mOp dAdd (mOp dMul (mFrz (mLst [(mC (.bl true))])) (mC (.int 4))) (mOp dMul (mFrz (mLst [(mC (.bl false))])) (mC (.int 8)))))))))))))
def g_law : G := fnSem 9 m_law
end K01
set_option Elab.async false
set_option linter.all false
set_option maxRecDepth 100000
set_option maxHeartbeats 4000000
namespace K01
open PySem PySem.Spec PyProof.Rows L2 L3
theorem sc_is_integer : FnScope ["value"] ["value"] (defScope s_is_integer) := ⟨rfl, rfl, rfl, by decide +kernel, rfl, by decide +kernel, by decide +kernel⟩
theorem ok_is_integer {P : Program} {w : World} {K : PySem.W.Frag} {mg : Str → Option Value} {base : Heap} {A : Ad} (T : Txt K mg A) : FnG P w K mg base 1 A.f_is_integer A.d_is_integer ["value"] (spG K 1 g_is_integer) := by
  refine fng_sem (k := 0) T.f_is_integer sc_is_integer fun cdv Ar outer s H E hG hr => ?_
  unfold m_is_integer
  exact (psm_one (psm_ret (pem_and (pem_isB .int [0] T.isB_int (pe_bltn (by rfl) T.n_int (by decide +kernel) rfl) (pem_var 0) (fun a => pe_callB call_isi (by rfl) T.n_isinstance (by decide +kernel) a)) (pem_one (pem_not (pem_isB .bool [0] T.isB_bool (pe_bltn (by rfl) T.n_bool (by decide +kernel) rfl) (pem_var 0) (fun a => pe_callB call_isi (by rfl) T.n_isinstance (by decide +kernel) a)))))))

theorem sc_common_divisor : FnScope ["number", "other"] ["number", "other"] (defScope s_common_divisor) := ⟨rfl, rfl, rfl, by decide +kernel, rfl, by decide +kernel, by decide +kernel⟩
theorem ok_common_divisor {P : Program} {w : World} {K : PySem.W.Frag} {mg : Str → Option Value} {base : Heap} {A : Ad} (T : Txt K mg A) : FnG P w K mg base 1 A.f_common_divisor A.d_common_divisor ["number", "other"] (spG K 2 g_common_divisor) := by
  refine fng_sem (k := 0) T.f_common_divisor sc_common_divisor fun cdv Ar outer s H E hG hr => ?_
  unfold m_common_divisor
  exact (psm_cons (psm_while (fun ρ => gcdFuel ρ 1) (passes_of rfl) (ptm_cmp (fun a b => pt_cmpR (op_neP hr.units) a b (nomark _)) s_ne (pem_var 1) (pem_c pe_int fun _ => .int _))
  (psm_one (psm_par 0 1 rfl sc_common_divisor.nd (by decide) (pem_var 1) (pem_op (fun a b => pe_op op_modN a b) s_mod (pem_var 0) (pem_var 1)))))
  (psm_one (psm_ret (pem_var 0))))

theorem sc_power_in : FnScope ["number", "many", "found", "turn"] ["number", "many"] (defScope s_power_in) := ⟨rfl, rfl, rfl, by decide +kernel, rfl, by decide +kernel, by decide +kernel⟩
theorem ok_power_in {P : Program} {w : World} {K : PySem.W.Frag} {mg : Str → Option Value} {base : Heap} {A : Ad} (T : Txt K mg A) : FnG P w K mg base 1 A.f_power_in A.d_power_in ["number", "many"] (spG K 2 g_power_in) := by
  refine fng_sem (k := 0) T.f_power_in sc_power_in fun cdv Ar outer s H E hG hr => ?_
  unfold m_power_in
  exact (psm_cons (psm_set (pem_c pe_int fun _ => .int _) (pgt_name 2 sc_power_in.nd))
  (psm_cons (psm_for (fun a b c => ps_for (passes_of rfl) rfl a b c) (pim_range1 (fun a => pi_range1 (by rfl) T.n_range a) (pam_cons (pem_var 1) pam_nil)) (pgt_name 3 sc_power_in.nd)
  (psm_one (psm_set (pem_op (fun a b => pe_op op_mulP a b) s_mul (pem_var 2) (pem_var 0)) (pgt_name 2 sc_power_in.nd))))
  (psm_one (psm_ret (pem_var 2)))))

theorem sc_Fraction_init : FnScope ["self", "top", "bottom", "common"] ["self", "top", "bottom"] (defScope s_Fraction_init) := ⟨rfl, rfl, rfl, by decide +kernel, rfl, by decide +kernel, by decide +kernel⟩
theorem ok_Fraction_init {P : Program} {w : World} {K : PySem.W.Frag} {mg : Str → Option Value} {base : Heap} {A : Ad} (T : Txt K mg A) : FnG P w K mg base 2 A.f_Fraction_init A.d_Fraction_init ["self", "top", "bottom"] (spG K 3 g_Fraction_init) := by
  refine fng_sem (k := 1) T.f_Fraction_init sc_Fraction_init fun cdv Ar outer s H E hG hr => ?_
  unfold m_Fraction_init
  exact (psm_cons (psm_if (pwm_pt (pwm_or (ptm_not (ptm_val (pem_call (ok_is_integer T) hG (hr.mono (by decide)) (by rfl) T.g_is_integer T.f_is_integer.kp T.b_is_integer .nil (fun _ => .nil) (takes_of rfl rfl rfl rfl) (pgm_d (pem_var 1) pgm_nil)))) (pwm_or (ptm_not (ptm_val (pem_call (ok_is_integer T) hG (hr.mono (by decide)) (by rfl) T.g_is_integer T.f_is_integer.kp T.b_is_integer .nil (fun _ => .nil) (takes_of rfl rfl rfl rfl) (pgm_d (pem_var 2) pgm_nil)))) (pwm_or1 (ptm_cmp (fun a b => pt_cmpR (op_eqP hr.units) a b (nomark _)) s_eq (pem_var 2) (pem_c pe_int fun _ => .int _))))))
  (psm_one psm_never)
  psm_nil)
  (psm_cons (psm_set (pem_call (ok_common_divisor T) hG (hr.mono (by decide)) (by rfl) T.g_common_divisor T.f_common_divisor.kp T.b_common_divisor .nil (fun _ => .nil) (takes_of rfl rfl rfl rfl) (pgm_d (pem_cb (fun a => pe_callB call_abs (by rfl) T.n_abs (by decide +kernel) a) s_abs (pam_cons (pem_var 1) pam_nil)) (pgm_d (pem_cb (fun a => pe_callB call_abs (by rfl) T.n_abs (by decide +kernel) a) s_abs (pam_cons (pem_var 2) pam_nil)) pgm_nil))) (pgt_name 3 sc_Fraction_init.nd))
  (psm_cons (psm_fld 0 T.cl_Fraction.cl T.na_Fraction_own_top (pem_op (fun a b => pe_op op_divW a b) s_fdiv (pem_if (ptm_cmp (fun a b => pt_cmpR op_gt a b (nomark _)) s_gt (pem_var 2) (pem_c pe_int fun _ => .int _)) (pem_var 1) (pem_un (fun a => pe_un un_neg a) s_neg (pem_var 1))) (pem_var 3)))
  (psm_one (psm_fld 0 T.cl_Fraction.cl T.na_Fraction_own_bottom (pem_op (fun a b => pe_op op_divW a b) s_fdiv (pem_cb (fun a => pe_callB call_abs (by rfl) T.n_abs (by decide +kernel) a) s_abs (pam_cons (pem_var 2) pam_nil)) (pem_var 3)))))))

theorem sc_Fraction_top : FnScope ["self"] ["self"] (defScope s_Fraction_top) := ⟨rfl, rfl, rfl, by decide +kernel, rfl, by decide +kernel, by decide +kernel⟩
theorem ok_Fraction_top {P : Program} {w : World} {K : PySem.W.Frag} {mg : Str → Option Value} {base : Heap} {A : Ad} (T : Txt K mg A) : FnG P w K mg base 1 A.f_Fraction_top A.d_Fraction_top ["self"] (spG K 1 g_Fraction_top) := by
  refine fng_sem (k := 0) T.f_Fraction_top sc_Fraction_top fun cdv Ar outer s H E hG hr => ?_
  unfold m_Fraction_top
  exact (psm_one (psm_ret (pem_fld T.cl_Fraction.cl T.na_Fraction_own_top (pem_var 0))))

theorem sc_Fraction_bottom : FnScope ["self"] ["self"] (defScope s_Fraction_bottom) := ⟨rfl, rfl, rfl, by decide +kernel, rfl, by decide +kernel, by decide +kernel⟩
theorem ok_Fraction_bottom {P : Program} {w : World} {K : PySem.W.Frag} {mg : Str → Option Value} {base : Heap} {A : Ad} (T : Txt K mg A) : FnG P w K mg base 1 A.f_Fraction_bottom A.d_Fraction_bottom ["self"] (spG K 1 g_Fraction_bottom) := by
  refine fng_sem (k := 0) T.f_Fraction_bottom sc_Fraction_bottom fun cdv Ar outer s H E hG hr => ?_
  unfold m_Fraction_bottom
  exact (psm_one (psm_ret (pem_fld T.cl_Fraction.cl T.na_Fraction_own_bottom (pem_var 0))))

theorem sc_is_fraction : FnScope ["value"] ["value"] (defScope s_is_fraction) := ⟨rfl, rfl, rfl, by decide +kernel, rfl, by decide +kernel, by decide +kernel⟩
theorem ok_is_fraction {P : Program} {w : World} {K : PySem.W.Frag} {mg : Str → Option Value} {base : Heap} {A : Ad} (T : Txt K mg A) : FnG P w K mg base 2 A.f_is_fraction A.d_is_fraction ["value"] (spG K 1 g_is_fraction) := by
  refine fng_sem (k := 1) T.f_is_fraction sc_is_fraction fun cdv Ar outer s H E hG hr => ?_
  unfold m_is_fraction
  exact (psm_one (psm_ret (pem_or (pem_isC 0 [] T.cl_Fraction T.isC_Fraction T.isO_Fraction (pe_glob rfl T.g_Fraction rfl) (pem_var 0) (fun a => pe_callB call_isi (by rfl) T.n_isinstance (by decide +kernel) a)) (pem_one (pem_call (ok_is_integer T) hG (hr.mono (by decide)) (by rfl) T.g_is_integer T.f_is_integer.kp T.b_is_integer .nil (fun _ => .nil) (takes_of rfl rfl rfl rfl) (pgm_d (pem_var 0) pgm_nil))))))

theorem sc_require_fraction : FnScope ["value"] ["value"] (defScope s_require_fraction) := ⟨rfl, rfl, rfl, by decide +kernel, rfl, by decide +kernel, by decide +kernel⟩
theorem ok_require_fraction {P : Program} {w : World} {K : PySem.W.Frag} {mg : Str → Option Value} {base : Heap} {A : Ad} (T : Txt K mg A) : FnG P w K mg base 3 A.f_require_fraction A.d_require_fraction ["value"] (spG K 1 g_require_fraction) := by
  refine fng_sem (k := 2) T.f_require_fraction sc_require_fraction fun cdv Ar outer s H E hG hr => ?_
  unfold m_require_fraction
  exact (psm_one (psm_if (ptm_not (ptm_val (pem_call (ok_is_fraction T) hG (hr.mono (by decide)) (by rfl) T.g_is_fraction T.f_is_fraction.kp T.b_is_fraction .nil (fun _ => .nil) (takes_of rfl rfl rfl rfl) (pgm_d (pem_var 0) pgm_nil))))
  (psm_one psm_never)
  psm_nil))

theorem sc_fraction_of : FnScope ["value"] ["value"] (defScope s_fraction_of) := ⟨rfl, rfl, rfl, by decide +kernel, rfl, by decide +kernel, by decide +kernel⟩
theorem ok_fraction_of {P : Program} {w : World} {K : PySem.W.Frag} {mg : Str → Option Value} {base : Heap} {A : Ad} (T : Txt K mg A) : FnG P w K mg base 4 A.f_fraction_of A.d_fraction_of ["value"] (spG K 1 g_fraction_of) := by
  refine fng_sem (k := 3) T.f_fraction_of sc_fraction_of fun cdv Ar outer s H E hG hr => ?_
  unfold m_fraction_of
  exact (psm_one (psm_ret (pem_if (ptm_val (pem_isC 0 [] T.cl_Fraction T.isC_Fraction T.isO_Fraction (pe_glob rfl T.g_Fraction rfl) (pem_var 0) (fun a => pe_callB call_isi (by rfl) T.n_isinstance (by decide +kernel) a))) (pem_var 0) (pem_frz (pom_mk T.mk_Fraction (ok_Fraction_init T) hG (hr.mono (by decide)) (by rfl) T.g_Fraction T.b_Fraction_init_2 T.dv_Fraction_init_2 (fun _ => (.cons (.int _) .nil)) (takes_of rfl rfl rfl rfl) (pgm_d (pem_var 0) pgm_nil))))))

theorem sc_required : FnScope ["value"] ["value"] (defScope s_required) := ⟨rfl, rfl, rfl, by decide +kernel, rfl, by decide +kernel, by decide +kernel⟩
theorem ok_required {P : Program} {w : World} {K : PySem.W.Frag} {mg : Str → Option Value} {base : Heap} {A : Ad} (T : Txt K mg A) : FnG P w K mg base 5 A.f_required A.d_required ["value"] (spG K 1 g_required) := by
  refine fng_sem (k := 4) T.f_required sc_required fun cdv Ar outer s H E hG hr => ?_
  unfold m_required
  exact (psm_cons (psm_expr (pem_call (ok_require_fraction T) hG (hr.mono (by decide)) (by rfl) T.g_require_fraction T.f_require_fraction.kp T.b_require_fraction .nil (fun _ => .nil) (takes_of rfl rfl rfl rfl) (pgm_d (pem_var 0) pgm_nil)))
  (psm_one (psm_ret (pem_call (ok_fraction_of T) hG (hr.mono (by decide)) (by rfl) T.g_fraction_of T.f_fraction_of.kp T.b_fraction_of .nil (fun _ => .nil) (takes_of rfl rfl rfl rfl) (pgm_d (pem_var 0) pgm_nil)))))

theorem sc_Fraction_power : FnScope ["self", "many"] ["self", "many"] (defScope s_Fraction_power) := ⟨rfl, rfl, rfl, by decide +kernel, rfl, by decide +kernel, by decide +kernel⟩
theorem ok_Fraction_power {P : Program} {w : World} {K : PySem.W.Frag} {mg : Str → Option Value} {base : Heap} {A : Ad} (T : Txt K mg A) : FnG P w K mg base 4 A.f_Fraction_power A.d_Fraction_power ["self", "many"] (spG K 2 g_Fraction_power) := by
  refine fng_sem (k := 3) T.f_Fraction_power sc_Fraction_power fun cdv Ar outer s H E hG hr => ?_
  unfold m_Fraction_power
  exact (psm_cons (psm_if (pwm_pt (pwm_or (ptm_not (ptm_val (pem_call (ok_is_integer T) hG (hr.mono (by decide)) (by rfl) T.g_is_integer T.f_is_integer.kp T.b_is_integer .nil (fun _ => .nil) (takes_of rfl rfl rfl rfl) (pgm_d (pem_var 1) pgm_nil)))) (pwm_or1 (ptm_not (ptm_both (fun a b c => pt_chain op_le op_le a b c) s_le s_le (pem_c pe_int fun _ => .int _) (pem_var 1) (pem_c (pe_glob (v := V.int 64) rfl T.g_MAX_POWER ⟨_, rfl⟩) fun _ => (.int _)))))))
  (psm_one psm_never)
  psm_nil)
  (psm_one (psm_ret (pem_frz (pom_mk T.mk_Fraction (ok_Fraction_init T) hG (hr.mono (by decide)) (by rfl) T.g_Fraction T.b_Fraction_init .nil (fun _ => .nil) (takes_of rfl rfl rfl rfl) (pgm_d (pem_call (ok_power_in T) hG (hr.mono (by decide)) (by rfl) T.g_power_in T.f_power_in.kp T.b_power_in .nil (fun _ => .nil) (takes_of rfl rfl rfl rfl) (pgm_d (pem_fld T.cl_Fraction.cl T.na_Fraction_own_top (pem_var 0)) (pgm_d (pem_var 1) pgm_nil))) (pgm_d (pem_call (ok_power_in T) hG (hr.mono (by decide)) (by rfl) T.g_power_in T.f_power_in.kp T.b_power_in .nil (fun _ => .nil) (takes_of rfl rfl rfl rfl) (pgm_d (pem_fld T.cl_Fraction.cl T.na_Fraction_own_bottom (pem_var 0)) (pgm_d (pem_var 1) pgm_nil))) pgm_nil)))))))

theorem sc_Fraction_add : FnScope ["self", "other", "more", "top"] ["self", "other"] (defScope s_Fraction_add) := ⟨rfl, rfl, rfl, by decide +kernel, rfl, by decide +kernel, by decide +kernel⟩
theorem ok_Fraction_add {P : Program} {w : World} {K : PySem.W.Frag} {mg : Str → Option Value} {base : Heap} {A : Ad} (T : Txt K mg A) : FnG P w K mg base 6 A.f_Fraction_add A.d_Fraction_add ["self", "other"] (spG K 2 g_Fraction_add) := by
  refine fng_sem (k := 5) T.f_Fraction_add sc_Fraction_add fun cdv Ar outer s H E hG hr => ?_
  unfold m_Fraction_add
  exact (psm_cons (psm_set (pem_call (ok_required T) hG (hr.mono (by decide)) (by rfl) T.g_required T.f_required.kp T.b_required .nil (fun _ => .nil) (takes_of rfl rfl rfl rfl) (pgm_d (pem_var 1) pgm_nil)) (pgt_name 2 sc_Fraction_add.nd))
  (psm_cons (psm_set (pem_op (fun a b => pe_op op_addP a b) s_add (pem_op (fun a b => pe_op op_mulP a b) s_mul (pem_fld T.cl_Fraction.cl T.na_Fraction_own_top (pem_var 0)) (pem_fld T.cl_Fraction.cl T.na_Fraction_own_bottom (pem_var 2))) (pem_op (fun a b => pe_op op_mulP a b) s_mul (pem_fld T.cl_Fraction.cl T.na_Fraction_own_top (pem_var 2)) (pem_fld T.cl_Fraction.cl T.na_Fraction_own_bottom (pem_var 0)))) (pgt_name 3 sc_Fraction_add.nd))
  (psm_one (psm_ret (pem_frz (pom_mk T.mk_Fraction (ok_Fraction_init T) hG (hr.mono (by decide)) (by rfl) T.g_Fraction T.b_Fraction_init .nil (fun _ => .nil) (takes_of rfl rfl rfl rfl) (pgm_d (pem_var 3) (pgm_d (pem_op (fun a b => pe_op op_mulP a b) s_mul (pem_fld T.cl_Fraction.cl T.na_Fraction_own_bottom (pem_var 0)) (pem_fld T.cl_Fraction.cl T.na_Fraction_own_bottom (pem_var 2))) pgm_nil))))))))

theorem sc_Fraction_radd : FnScope ["self", "other"] ["self", "other"] (defScope s_Fraction_radd) := ⟨rfl, rfl, rfl, by decide +kernel, rfl, by decide +kernel, by decide +kernel⟩
theorem ok_Fraction_radd {P : Program} {w : World} {K : PySem.W.Frag} {mg : Str → Option Value} {base : Heap} {A : Ad} (T : Txt K mg A) : FnG P w K mg base 7 A.f_Fraction_radd A.d_Fraction_radd ["self", "other"] (spG K 2 g_Fraction_radd) := by
  refine fng_sem (k := 6) T.f_Fraction_radd sc_Fraction_radd fun cdv Ar outer s H E hG hr => ?_
  unfold m_Fraction_radd
  exact (psm_one (psm_ret (pem_opI (fun a b => op_own info_add T.bn_Fraction_add (ok_Fraction_add T) (fng_none (fd := A.d_Fraction_radd) (ps := [_, _])) hG (hr.mono (by decide)) (hr.mono (by decide)) T.b_Fraction_add T.b_Fraction_radd (takes_of rfl rfl rfl rfl) (fun _ _ _ _ _ _ _ h Q q => int_add_try h Q q) PySem.F.fills_int_add look_radd op_addP a b) s_add (pem_var 0) (pem_var 1))))

theorem sc_Fraction_sub : FnScope ["self", "other", "less", "top"] ["self", "other"] (defScope s_Fraction_sub) := ⟨rfl, rfl, rfl, by decide +kernel, rfl, by decide +kernel, by decide +kernel⟩
theorem ok_Fraction_sub {P : Program} {w : World} {K : PySem.W.Frag} {mg : Str → Option Value} {base : Heap} {A : Ad} (T : Txt K mg A) : FnG P w K mg base 6 A.f_Fraction_sub A.d_Fraction_sub ["self", "other"] (spG K 2 g_Fraction_sub) := by
  refine fng_sem (k := 5) T.f_Fraction_sub sc_Fraction_sub fun cdv Ar outer s H E hG hr => ?_
  unfold m_Fraction_sub
  exact (psm_cons (psm_set (pem_call (ok_required T) hG (hr.mono (by decide)) (by rfl) T.g_required T.f_required.kp T.b_required .nil (fun _ => .nil) (takes_of rfl rfl rfl rfl) (pgm_d (pem_var 1) pgm_nil)) (pgt_name 2 sc_Fraction_sub.nd))
  (psm_cons (psm_set (pem_op (fun a b => pe_op op_sub a b) s_sub (pem_op (fun a b => pe_op op_mulP a b) s_mul (pem_fld T.cl_Fraction.cl T.na_Fraction_own_top (pem_var 0)) (pem_fld T.cl_Fraction.cl T.na_Fraction_own_bottom (pem_var 2))) (pem_op (fun a b => pe_op op_mulP a b) s_mul (pem_fld T.cl_Fraction.cl T.na_Fraction_own_top (pem_var 2)) (pem_fld T.cl_Fraction.cl T.na_Fraction_own_bottom (pem_var 0)))) (pgt_name 3 sc_Fraction_sub.nd))
  (psm_one (psm_ret (pem_frz (pom_mk T.mk_Fraction (ok_Fraction_init T) hG (hr.mono (by decide)) (by rfl) T.g_Fraction T.b_Fraction_init .nil (fun _ => .nil) (takes_of rfl rfl rfl rfl) (pgm_d (pem_var 3) (pgm_d (pem_op (fun a b => pe_op op_mulP a b) s_mul (pem_fld T.cl_Fraction.cl T.na_Fraction_own_bottom (pem_var 0)) (pem_fld T.cl_Fraction.cl T.na_Fraction_own_bottom (pem_var 2))) pgm_nil))))))))

theorem sc_Fraction_rsub : FnScope ["self", "other"] ["self", "other"] (defScope s_Fraction_rsub) := ⟨rfl, rfl, rfl, by decide +kernel, rfl, by decide +kernel, by decide +kernel⟩
theorem ok_Fraction_rsub {P : Program} {w : World} {K : PySem.W.Frag} {mg : Str → Option Value} {base : Heap} {A : Ad} (T : Txt K mg A) : FnG P w K mg base 7 A.f_Fraction_rsub A.d_Fraction_rsub ["self", "other"] (spG K 2 g_Fraction_rsub) := by
  refine fng_sem (k := 6) T.f_Fraction_rsub sc_Fraction_rsub fun cdv Ar outer s H E hG hr => ?_
  unfold m_Fraction_rsub
  exact (psm_one (psm_ret (pem_opI (fun a b => op_own info_sub T.bn_Fraction_sub (ok_Fraction_sub T) (fng_none (fd := A.d_Fraction_rsub) (ps := [_, _])) hG (hr.mono (by decide)) (hr.mono (by decide)) T.b_Fraction_sub T.b_Fraction_rsub (takes_of rfl rfl rfl rfl) (fun _ _ _ _ _ _ _ h Q q => int_sub_try h Q q) PySem.F.fills_int_sub look_rsub op_sub a b) s_sub (pem_call (ok_required T) hG (hr.mono (by decide)) (by rfl) T.g_required T.f_required.kp T.b_required .nil (fun _ => .nil) (takes_of rfl rfl rfl rfl) (pgm_d (pem_var 1) pgm_nil)) (pem_var 0))))

theorem sc_Fraction_mul : FnScope ["self", "other", "factor"] ["self", "other"] (defScope s_Fraction_mul) := ⟨rfl, rfl, rfl, by decide +kernel, rfl, by decide +kernel, by decide +kernel⟩
theorem ok_Fraction_mul {P : Program} {w : World} {K : PySem.W.Frag} {mg : Str → Option Value} {base : Heap} {A : Ad} (T : Txt K mg A) : FnG P w K mg base 6 A.f_Fraction_mul A.d_Fraction_mul ["self", "other"] (spG K 2 g_Fraction_mul) := by
  refine fng_sem (k := 5) T.f_Fraction_mul sc_Fraction_mul fun cdv Ar outer s H E hG hr => ?_
  unfold m_Fraction_mul
  exact (psm_cons (psm_set (pem_call (ok_required T) hG (hr.mono (by decide)) (by rfl) T.g_required T.f_required.kp T.b_required .nil (fun _ => .nil) (takes_of rfl rfl rfl rfl) (pgm_d (pem_var 1) pgm_nil)) (pgt_name 2 sc_Fraction_mul.nd))
  (psm_one (psm_ret (pem_frz (pom_mk T.mk_Fraction (ok_Fraction_init T) hG (hr.mono (by decide)) (by rfl) T.g_Fraction T.b_Fraction_init .nil (fun _ => .nil) (takes_of rfl rfl rfl rfl) (pgm_d (pem_op (fun a b => pe_op op_mulP a b) s_mul (pem_fld T.cl_Fraction.cl T.na_Fraction_own_top (pem_var 0)) (pem_fld T.cl_Fraction.cl T.na_Fraction_own_top (pem_var 2))) (pgm_d (pem_op (fun a b => pe_op op_mulP a b) s_mul (pem_fld T.cl_Fraction.cl T.na_Fraction_own_bottom (pem_var 0)) (pem_fld T.cl_Fraction.cl T.na_Fraction_own_bottom (pem_var 2))) pgm_nil)))))))

theorem sc_Fraction_rmul : FnScope ["self", "other"] ["self", "other"] (defScope s_Fraction_rmul) := ⟨rfl, rfl, rfl, by decide +kernel, rfl, by decide +kernel, by decide +kernel⟩
theorem ok_Fraction_rmul {P : Program} {w : World} {K : PySem.W.Frag} {mg : Str → Option Value} {base : Heap} {A : Ad} (T : Txt K mg A) : FnG P w K mg base 7 A.f_Fraction_rmul A.d_Fraction_rmul ["self", "other"] (spG K 2 g_Fraction_rmul) := by
  refine fng_sem (k := 6) T.f_Fraction_rmul sc_Fraction_rmul fun cdv Ar outer s H E hG hr => ?_
  unfold m_Fraction_rmul
  exact (psm_one (psm_ret (pem_opI (fun a b => op_own info_mul T.bn_Fraction_mul (ok_Fraction_mul T) (fng_none (fd := A.d_Fraction_rmul) (ps := [_, _])) hG (hr.mono (by decide)) (hr.mono (by decide)) T.b_Fraction_mul T.b_Fraction_rmul (takes_of rfl rfl rfl rfl) (fun _ _ _ _ _ _ _ h Q q => int_mul_try h Q q) PySem.F.fills_int_mul look_rmul op_mulP a b) s_mul (pem_var 0) (pem_var 1))))

theorem sc_Fraction_neg : FnScope ["self"] ["self"] (defScope s_Fraction_neg) := ⟨rfl, rfl, rfl, by decide +kernel, rfl, by decide +kernel, by decide +kernel⟩
theorem ok_Fraction_neg {P : Program} {w : World} {K : PySem.W.Frag} {mg : Str → Option Value} {base : Heap} {A : Ad} (T : Txt K mg A) : FnG P w K mg base 4 A.f_Fraction_neg A.d_Fraction_neg ["self"] (spG K 1 g_Fraction_neg) := by
  refine fng_sem (k := 3) T.f_Fraction_neg sc_Fraction_neg fun cdv Ar outer s H E hG hr => ?_
  unfold m_Fraction_neg
  exact (psm_one (psm_ret (pem_frz (pom_mk T.mk_Fraction (ok_Fraction_init T) hG (hr.mono (by decide)) (by rfl) T.g_Fraction T.b_Fraction_init .nil (fun _ => .nil) (takes_of rfl rfl rfl rfl) (pgm_d (pem_un (fun a => pe_un un_neg a) s_neg (pem_fld T.cl_Fraction.cl T.na_Fraction_own_top (pem_var 0))) (pgm_d (pem_fld T.cl_Fraction.cl T.na_Fraction_own_bottom (pem_var 0)) pgm_nil))))))

theorem sc_Fraction_abs : FnScope ["self"] ["self"] (defScope s_Fraction_abs) := ⟨rfl, rfl, rfl, by decide +kernel, rfl, by decide +kernel, by decide +kernel⟩
theorem ok_Fraction_abs {P : Program} {w : World} {K : PySem.W.Frag} {mg : Str → Option Value} {base : Heap} {A : Ad} (T : Txt K mg A) : FnG P w K mg base 4 A.f_Fraction_abs A.d_Fraction_abs ["self"] (spG K 1 g_Fraction_abs) := by
  refine fng_sem (k := 3) T.f_Fraction_abs sc_Fraction_abs fun cdv Ar outer s H E hG hr => ?_
  unfold m_Fraction_abs
  exact (psm_one (psm_ret (pem_frz (pom_mk T.mk_Fraction (ok_Fraction_init T) hG (hr.mono (by decide)) (by rfl) T.g_Fraction T.b_Fraction_init .nil (fun _ => .nil) (takes_of rfl rfl rfl rfl) (pgm_d (pem_cb (fun a => pe_callB call_abs (by rfl) T.n_abs (by decide +kernel) a) s_abs (pam_cons (pem_fld T.cl_Fraction.cl T.na_Fraction_own_top (pem_var 0)) pam_nil)) (pgm_d (pem_fld T.cl_Fraction.cl T.na_Fraction_own_bottom (pem_var 0)) pgm_nil))))))

theorem sc_Fraction_eq : FnScope ["self", "other"] ["self", "other"] (defScope s_Fraction_eq) := ⟨rfl, rfl, rfl, by decide +kernel, rfl, by decide +kernel, by decide +kernel⟩
theorem ok_Fraction_eq {P : Program} {w : World} {K : PySem.W.Frag} {mg : Str → Option Value} {base : Heap} {A : Ad} (T : Txt K mg A) : FnG P w K mg base 2 A.f_Fraction_eq A.d_Fraction_eq ["self", "other"] (spG K 2 g_Fraction_eq) := by
  refine fng_sem (k := 1) T.f_Fraction_eq sc_Fraction_eq fun cdv Ar outer s H E hG hr => ?_
  unfold m_Fraction_eq
  exact (psm_cons (psm_if (ptm_val (pem_call (ok_is_integer T) hG (hr.mono (by decide)) (by rfl) T.g_is_integer T.f_is_integer.kp T.b_is_integer .nil (fun _ => .nil) (takes_of rfl rfl rfl rfl) (pgm_d (pem_var 1) pgm_nil)))
  (psm_one (psm_ret (pem_and (pem_op (fun a b => pe_cmpR (op_eqP hr.units) a b (nomark _)) s_eq (pem_fld T.cl_Fraction.cl T.na_Fraction_own_bottom (pem_var 0)) (pem_c pe_int fun _ => .int _)) (pem_one (pem_op (fun a b => pe_cmpR (op_eqP hr.units) a b (nomark _)) s_eq (pem_fld T.cl_Fraction.cl T.na_Fraction_own_top (pem_var 0)) (pem_var 1))))))
  psm_nil)
  (psm_one (psm_ret (pem_and (pem_isC 0 [] T.cl_Fraction T.isC_Fraction T.isO_Fraction (pe_glob rfl T.g_Fraction rfl) (pem_var 1) (fun a => pe_callB call_isi (by rfl) T.n_isinstance (by decide +kernel) a)) (pem_and (pem_op (fun a b => pe_cmpR (op_eqP hr.units) a b (nomark _)) s_eq (pem_fld T.cl_Fraction.cl T.na_Fraction_own_top (pem_var 0)) (pem_fld T.cl_Fraction.cl T.na_Fraction_own_top (pem_var 1))) (pem_one (pem_op (fun a b => pe_cmpR (op_eqP hr.units) a b (nomark _)) s_eq (pem_fld T.cl_Fraction.cl T.na_Fraction_own_bottom (pem_var 0)) (pem_fld T.cl_Fraction.cl T.na_Fraction_own_bottom (pem_var 1)))))))))

theorem sc_Fraction_str : FnScope ["self"] ["self"] (defScope s_Fraction_str) := ⟨rfl, rfl, rfl, by decide +kernel, rfl, by decide +kernel, by decide +kernel⟩
theorem ok_Fraction_str {P : Program} {w : World} {K : PySem.W.Frag} {mg : Str → Option Value} {base : Heap} {A : Ad} (T : Txt K mg A) : FnG P w K mg base 1 A.f_Fraction_str A.d_Fraction_str ["self"] (spG K 1 g_Fraction_str) := by
  refine fng_sem (k := 0) T.f_Fraction_str sc_Fraction_str fun cdv Ar outer s H E hG hr => ?_
  unfold m_Fraction_str
  exact (psm_cons (psm_if (ptm_cmp (fun a b => pt_cmpR (op_eqP hr.units) a b (nomark _)) s_eq (pem_fld T.cl_Fraction.cl T.na_Fraction_own_bottom (pem_var 0)) (pem_c pe_int fun _ => .int _))
  (psm_one (psm_ret (pem_cb (fun a => pe_callTy call_str_int (by rfl) T.n_str (by decide +kernel) a) s_str (pam_cons (pem_fld T.cl_Fraction.cl T.na_Fraction_own_top (pem_var 0)) pam_nil))))
  psm_nil)
  (psm_one (psm_ret (pem_fs (.cons (pem_fmt (pem_fld T.cl_Fraction.cl T.na_Fraction_own_top (pem_var 0))) (.cons (pem_c pe_str fun _ => .str _) (.cons (pem_fmt (pem_fld T.cl_Fraction.cl T.na_Fraction_own_bottom (pem_var 0))) .nil)))))))
end K01
set_option Elab.async false
set_option linter.all false
set_option maxRecDepth 100000
set_option maxHeartbeats 4000000
namespace K01
open PySem PySem.Spec PyProof.Rows L2 L3
theorem sc__law_dice : FnScope ["_law_script", "_law_at", "_law_cell", "_law_great", "_law_mixed"] ["_law_script", "_law_at"] (defScope s__law_dice) := ⟨rfl, rfl, rfl, by decide +kernel, rfl, by decide +kernel, by decide +kernel⟩
theorem ok__law_dice {P : Program} {w : World} {K : PySem.W.Frag} {mg : Str → Option Value} {base : Heap} {A : Ad} (T : Txt K mg A) : FnG P w K mg base 1 A.f__law_dice A.d__law_dice ["_law_script", "_law_at"] (spG K 2 g__law_dice) := by
  refine fng_sem (k := 0) T.f__law_dice sc__law_dice fun cdv Ar outer s H E hG hr => ?_
  unfold m__law_dice
  exact (psm_cons (psm_set (pem_op (fun a b => pe_op op_addP a b) s_add (pem_op (fun a b => pe_op op_mulP a b) s_mul (pem_c pe_int fun _ => .int _) (pem_var 1)) (pem_c pe_int fun _ => .int _)) (pgt_name 2 sc__law_dice.nd))
  (psm_cons (psm_if (ptm_cmp (fun a b => pt_cmpR op_lt a b (nomark _)) s_lt (pem_var 1) (pem_cb (fun a => pe_callB call_len (by rfl) T.n_len (by decide +kernel) a) s_len (pam_cons (pem_var 0) pam_nil)))
  (psm_one (psm_set (pem_op (fun a b => pe_ix ix_seq a b (fun _ _ => rfl)) s_ix (pem_var 0) (pem_var 1)) (pgt_name 2 sc__law_dice.nd)))
  psm_nil)
  (psm_cons (psm_set (pem_op (fun a b => pe_op op_modN a b) s_mod (pem_cb (fun a => pe_callTy call_int1 (by rfl) T.n_int (by decide +kernel) a) s_int (pam_cons (pem_cb (fun a => pe_callB call_abs (by rfl) T.n_abs (by decide +kernel) a) s_abs (pam_cons (pem_var 2) pam_nil)) pam_nil)) (pem_op (fun a b => pe_op op_powW a b) s_pow (pem_op (fun a b => pe_op op_powW a b) s_pow (pem_c pe_int fun _ => .int _) (pem_c pe_int fun _ => .int _)) (pem_c pe_int fun _ => .int _))) (pgt_name 3 sc__law_dice.nd))
  (psm_cons (psm_set (pem_op (fun a b => pe_op op_addP a b) s_add (pem_op (fun a b => pe_op op_addP a b) s_add (pem_op (fun a b => pe_op op_addP a b) s_add (pem_op (fun a b => pe_op op_mulP a b) s_mul (pem_op (fun a b => pe_op op_modN a b) s_mod (pem_cb (fun a => pe_callTy call_int1 (by rfl) T.n_int (by decide +kernel) a) s_int (pam_cons (pem_var 3) pam_nil)) (pem_c pe_int fun _ => .int _)) (pem_c pe_int fun _ => .int _)) (pem_op (fun a b => pe_op op_mulP a b) s_mul (pem_c pe_int fun _ => .int _) (pem_var 1))) (pem_op (fun a b => pe_op op_mulP a b) s_mul (pem_c pe_int fun _ => .int _) (pem_cb (fun a => pe_callTy call_int1 (by rfl) T.n_int (by decide +kernel) a) s_int (pam_cons (pem_op (fun a b => pe_cmpR op_lt a b (nomark _)) s_lt (pem_var 2) (pem_c pe_int fun _ => .int _)) pam_nil)))) (pem_c pe_int fun _ => .int _)) (pgt_name 4 sc__law_dice.nd))
  (psm_one (psm_retO (pom_lst (pam_cons (pem_cb (fun a => pe_callB (call_max2 rfl) (by rfl) T.n_max (by decide +kernel) a) s_max2 (pam_cons (pem_c pe_int fun _ => .int _) (pam_cons (pem_op (fun a b => pe_op op_sub a b) s_sub (pem_var 3) (pem_op (fun a b => pe_op op_powW a b) s_pow (pem_c pe_int fun _ => .int _) (pem_c pe_int fun _ => .int _))) pam_nil))) (pam_cons (pem_op (fun a b => pe_op op_modN a b) s_mod (pem_cb (fun a => pe_callTy call_int1 (by rfl) T.n_int (by decide +kernel) a) s_int (pam_cons (pem_var 4) pam_nil)) (pem_c pe_int fun _ => .int _)) (pam_cons (pem_c pe_int fun _ => .int _) pam_nil))))))))))

theorem sc__law_roll : FnScope ["_law_dice_here", "_law_total", "_law_found", "_law_one", "_law_two"] ["_law_dice_here", "_law_total"] (defScope s__law_roll) := ⟨rfl, rfl, rfl, by decide +kernel, rfl, by decide +kernel, by decide +kernel⟩
theorem ok__law_roll {P : Program} {w : World} {K : PySem.W.Frag} {mg : Str → Option Value} {base : Heap} {A : Ad} (T : Txt K mg A) : FnG P w K mg base 1 A.f__law_roll A.d__law_roll ["_law_dice_here", "_law_total"] (spG K 2 g__law_roll) := by
  refine fng_sem (k := 0) T.f__law_roll sc__law_roll fun cdv Ar outer s H E hG hr => ?_
  unfold m__law_roll
  exact (psm_cons (psm_if (ptm_cmp (fun a b => pt_cmpR op_gt a b (nomark _)) s_gt (pem_ixS 0 (pem_c pe_int fun _ => .int _)) (pem_c pe_int fun _ => .int _))
  (psm_cons (psm_set (pem_op (fun a b => pe_op op_modN a b) s_mod (pem_cb (fun a => pe_callTy call_int1 (by rfl) T.n_int (by decide +kernel) a) s_int (pam_cons (pem_ixS 0 (pem_c pe_int fun _ => .int _)) pam_nil)) (pem_var 1)) (pgt_name 2 sc__law_roll.nd))
  (psm_cons (psm_setIx 0 (pem_c pe_int fun _ => .int _) (pem_op (fun a b => pe_op op_divW a b) s_fdiv (pem_ixS 0 (pem_c pe_int fun _ => .int _)) (pem_var 1)) (fun a b c => ps_asg a (pg_sub b c set_list)))
  (psm_one (psm_ret (pem_var 2)))))
  psm_nil)
  (psm_cons (psm_setIx 0 (pem_c pe_int fun _ => .int _) (pem_op (fun a b => pe_op op_addP a b) s_add (pem_ixS 0 (pem_c pe_int fun _ => .int _)) (pem_c pe_int fun _ => .int _)) (fun a b c => ps_asg a (pg_sub b c set_list)))
  (psm_cons (psm_set (pem_op (fun a b => pe_op op_modN a b) s_mod (pem_cb (fun a => pe_callTy call_int1 (by rfl) T.n_int (by decide +kernel) a) s_int (pam_cons (pem_op (fun a b => pe_op op_addP a b) s_add (pem_ixS 0 (pem_c pe_int fun _ => .int _)) (pem_op (fun a b => pe_op op_mulP a b) s_mul (pem_c pe_int fun _ => .int _) (pem_ixS 0 (pem_c pe_int fun _ => .int _)))) pam_nil)) (pem_c pe_int fun _ => .int _)) (pgt_name 3 sc__law_roll.nd))
  (psm_cons (psm_set (pem_op (fun a b => pe_op op_addP a b) s_add (pem_op (fun a b => pe_op op_mulP a b) s_mul (pem_op (fun a b => pe_op op_modN a b) s_mod (pem_cb (fun a => pe_callTy call_int1 (by rfl) T.n_int (by decide +kernel) a) s_int (pam_cons (pem_op (fun a b => pe_op op_mulP a b) s_mul (pem_var 3) (pem_var 3)) pam_nil)) (pem_c pe_int fun _ => .int _)) (pem_var 3)) (pem_op (fun a b => pe_op op_mulP a b) s_mul (pem_c pe_int fun _ => .int _) (pem_ixS 0 (pem_c pe_int fun _ => .int _)))) (pgt_name 4 sc__law_roll.nd))
  (psm_cons (psm_set (pem_op (fun a b => pe_op op_modN a b) s_mod (pem_cb (fun a => pe_callTy call_int1 (by rfl) T.n_int (by decide +kernel) a) s_int (pam_cons (pem_var 4) pam_nil)) (pem_c pe_int fun _ => .int _)) (pgt_name 4 sc__law_roll.nd))
  (psm_one (psm_ret (pem_op (fun a b => pe_op op_modN a b) s_mod (pem_cb (fun a => pe_callTy call_int1 (by rfl) T.n_int (by decide +kernel) a) s_int (pam_cons (pem_op (fun a b => pe_op op_divW a b) s_fdiv (pem_var 4) (pem_c pe_int fun _ => .int _)) pam_nil)) (pem_var 1)))))))))

theorem sc__law_one_of : FnScope ["_law_dice_here", "_law_items"] ["_law_dice_here", "_law_items"] (defScope s__law_one_of) := ⟨rfl, rfl, rfl, by decide +kernel, rfl, by decide +kernel, by decide +kernel⟩
theorem ok__law_one_of {P : Program} {w : World} {K : PySem.W.Frag} {mg : Str → Option Value} {base : Heap} {A : Ad} (T : Txt K mg A) : FnG P w K mg base 2 A.f__law_one_of A.d__law_one_of ["_law_dice_here", "_law_items"] (spG K 2 g__law_one_of) := by
  refine fng_sem (k := 1) T.f__law_one_of sc__law_one_of fun cdv Ar outer s H E hG hr => ?_
  unfold m__law_one_of
  exact (psm_one (psm_ret (pem_op (fun a b => pe_ix ix_seq a b (fun _ _ => rfl)) s_ix (pem_var 1) (pem_call (ok__law_roll T) hG (hr.mono (by decide)) (by rfl) T.g__law_roll T.f__law_roll.kp T.b__law_roll .nil (fun _ => .nil) (takes_of rfl rfl rfl rfl) (pgm_s 0 (pgm_d (pem_cb (fun a => pe_callB call_len (by rfl) T.n_len (by decide +kernel) a) s_len (pam_cons (pem_var 1) pam_nil)) pgm_nil))))))

theorem sc__law_gcd : FnScope ["_law_one", "_law_two"] ["_law_one", "_law_two"] (defScope s__law_gcd) := ⟨rfl, rfl, rfl, by decide +kernel, rfl, by decide +kernel, by decide +kernel⟩
theorem ok__law_gcd {P : Program} {w : World} {K : PySem.W.Frag} {mg : Str → Option Value} {base : Heap} {A : Ad} (T : Txt K mg A) : FnG P w K mg base 1 A.f__law_gcd A.d__law_gcd ["_law_one", "_law_two"] (spG K 2 g__law_gcd) := by
  refine fng_sem (k := 0) T.f__law_gcd sc__law_gcd fun cdv Ar outer s H E hG hr => ?_
  unfold m__law_gcd
  exact (psm_cons (psm_while (fun ρ => gcdFuel ρ 1) (passes_of rfl) (ptm_cmp (fun a b => pt_cmpR op_gt a b (nomark _)) s_gt (pem_var 1) (pem_c pe_int fun _ => .int _))
  (psm_one (psm_par 0 1 rfl sc__law_gcd.nd (by decide) (pem_var 1) (pem_op (fun a b => pe_op op_modN a b) s_mod (pem_cb (fun a => pe_callTy call_int1 (by rfl) T.n_int (by decide +kernel) a) s_int (pam_cons (pem_var 0) pam_nil)) (pem_var 1)))))
  (psm_one (psm_ret (pem_var 0))))

theorem sc__law_ratio : FnScope ["_law_top", "_law_bottom", "_law_part"] ["_law_top", "_law_bottom"] (defScope s__law_ratio) := ⟨rfl, rfl, rfl, by decide +kernel, rfl, by decide +kernel, by decide +kernel⟩
theorem ok__law_ratio {P : Program} {w : World} {K : PySem.W.Frag} {mg : Str → Option Value} {base : Heap} {A : Ad} (T : Txt K mg A) : FnG P w K mg base 2 A.f__law_ratio A.d__law_ratio ["_law_top", "_law_bottom"] (spG K 2 g__law_ratio) := by
  refine fng_sem (k := 1) T.f__law_ratio sc__law_ratio fun cdv Ar outer s H E hG hr => ?_
  unfold m__law_ratio
  exact (psm_cons (psm_set (pem_call (ok__law_gcd T) hG (hr.mono (by decide)) (by rfl) T.g__law_gcd T.f__law_gcd.kp T.b__law_gcd .nil (fun _ => .nil) (takes_of rfl rfl rfl rfl) (pgm_d (pem_cb (fun a => pe_callB call_abs (by rfl) T.n_abs (by decide +kernel) a) s_abs (pam_cons (pem_var 0) pam_nil)) (pgm_d (pem_var 1) pgm_nil))) (pgt_name 2 sc__law_ratio.nd))
  (psm_one (psm_ret (pem_tup (pam_cons (pem_op (fun a b => pe_op op_divW a b) s_fdiv (pem_var 0) (pem_var 2)) (pam_cons (pem_op (fun a b => pe_op op_divW a b) s_fdiv (pem_var 1) (pem_var 2)) pam_nil))))))

theorem sc__law_integer : FnScope ["_law_dice_here", "_law_found"] ["_law_dice_here"] (defScope s__law_integer) := ⟨rfl, rfl, rfl, by decide +kernel, rfl, by decide +kernel, by decide +kernel⟩
theorem ok__law_integer {P : Program} {w : World} {K : PySem.W.Frag} {mg : Str → Option Value} {base : Heap} {A : Ad} (T : Txt K mg A) : FnG P w K mg base 3 A.f__law_integer A.d__law_integer ["_law_dice_here"] (spG K 1 g__law_integer) := by
  refine fng_sem (k := 2) T.f__law_integer sc__law_integer fun cdv Ar outer s H E hG hr => ?_
  unfold m__law_integer
  exact (psm_cons (psm_set (pem_call (ok__law_one_of T) hG (hr.mono (by decide)) (by rfl) T.g__law_one_of T.f__law_one_of.kp T.b__law_one_of .nil (fun _ => .nil) (takes_of rfl rfl rfl rfl) (pgm_s 0 (pgm_d (pem_frz (pom_lst (pam_cons (pem_c pe_int fun _ => .int _) (pam_cons (pem_c pe_int fun _ => .int _) (pam_cons (pem_c pe_int fun _ => .int _) (pam_cons (pem_c pe_int fun _ => .int _) (pam_cons (pem_c pe_int fun _ => .int _) (pam_cons (pem_c pe_int fun _ => .int _) (pam_cons (pem_c pe_int fun _ => .int _) (pam_cons (pem_c pe_int fun _ => .int _) (pam_cons (pem_c pe_int fun _ => .int _) (pam_cons (pem_c pe_int fun _ => .int _) (pam_cons (pem_c pe_int fun _ => .int _) (pam_cons (pem_c pe_int fun _ => .int _) (pam_cons (pem_c pe_int fun _ => .int _) pam_nil))))))))))))))) pgm_nil))) (pgt_name 1 sc__law_integer.nd))
  (psm_cons (psm_if (ptm_cmp (fun a b => pt_cmpR (op_eqP hr.units) a b (nomark _)) s_eq (pem_call (ok__law_roll T) hG (hr.mono (by decide)) (by rfl) T.g__law_roll T.f__law_roll.kp T.b__law_roll .nil (fun _ => .nil) (takes_of rfl rfl rfl rfl) (pgm_s 0 (pgm_d (pem_c pe_int fun _ => .int _) pgm_nil))) (pem_c pe_int fun _ => .int _))
  (psm_one (psm_set (pem_op (fun a b => pe_op op_mulP a b) s_mul (pem_op (fun a b => pe_op op_mulP a b) s_mul (pem_var 1) (pem_op (fun a b => pe_op op_addP a b) s_add (pem_c pe_int fun _ => .int _) (pem_call (ok__law_roll T) hG (hr.mono (by decide)) (by rfl) T.g__law_roll T.f__law_roll.kp T.b__law_roll .nil (fun _ => .nil) (takes_of rfl rfl rfl rfl) (pgm_s 0 (pgm_d (pem_op (fun a b => pe_op op_powW a b) s_pow (pem_c pe_int fun _ => .int _) (pem_c pe_int fun _ => .int _)) pgm_nil))))) (pem_call (ok__law_one_of T) hG (hr.mono (by decide)) (by rfl) T.g__law_one_of T.f__law_one_of.kp T.b__law_one_of .nil (fun _ => .nil) (takes_of rfl rfl rfl rfl) (pgm_s 0 (pgm_d (pem_frz (pom_lst (pam_cons (pem_c pe_int fun _ => .int _) (pam_cons (pem_c pe_int fun _ => .int _) (pam_cons (pem_op (fun a b => pe_op op_powW a b) s_pow (pem_c pe_int fun _ => .int _) (pem_c pe_int fun _ => .int _)) (pam_cons (pem_op (fun a b => pe_op op_mulP a b) s_mul (pem_c pe_int fun _ => .int _) (pem_op (fun a b => pe_op op_powW a b) s_pow (pem_c pe_int fun _ => .int _) (pem_c pe_int fun _ => .int _))) pam_nil)))))) pgm_nil)))) (pgt_name 1 sc__law_integer.nd)))
  psm_nil)
  (psm_one (psm_ret (pem_if (ptm_cmp (fun a b => pt_cmpR (op_eqP hr.units) a b (nomark _)) s_eq (pem_call (ok__law_roll T) hG (hr.mono (by decide)) (by rfl) T.g__law_roll T.f__law_roll.kp T.b__law_roll .nil (fun _ => .nil) (takes_of rfl rfl rfl rfl) (pgm_s 0 (pgm_d (pem_c pe_int fun _ => .int _) pgm_nil))) (pem_c pe_int fun _ => .int _)) (pem_op (fun a b => pe_op op_sub a b) s_sub (pem_c pe_int fun _ => .int _) (pem_var 1)) (pem_var 1))))))

theorem sc__law_couple : FnScope ["_law_dice_here", "_law_top", "_law_bottom"] ["_law_dice_here"] (defScope s__law_couple) := ⟨rfl, rfl, rfl, by decide +kernel, rfl, by decide +kernel, by decide +kernel⟩
theorem ok__law_couple {P : Program} {w : World} {K : PySem.W.Frag} {mg : Str → Option Value} {base : Heap} {A : Ad} (T : Txt K mg A) : FnG P w K mg base 4 A.f__law_couple A.d__law_couple ["_law_dice_here"] (spG K 1 g__law_couple) := by
  refine fng_sem (k := 3) T.f__law_couple sc__law_couple fun cdv Ar outer s H E hG hr => ?_
  unfold m__law_couple
  exact (psm_cons (psm_par 1 2 rfl sc__law_couple.nd (by decide) (pem_call (ok__law_integer T) hG (hr.mono (by decide)) (by rfl) T.g__law_integer T.f__law_integer.kp T.b__law_integer .nil (fun _ => .nil) (takes_of rfl rfl rfl rfl) (pgm_s 0 pgm_nil)) (pem_call (ok__law_integer T) hG (hr.mono (by decide)) (by rfl) T.g__law_integer T.f__law_integer.kp T.b__law_integer .nil (fun _ => .nil) (takes_of rfl rfl rfl rfl) (pgm_s 0 pgm_nil)))
  (psm_one (psm_ret (pem_tup (pam_cons (pem_var 1) (pam_cons (pem_if (ptm_cmp (fun a b => pt_cmpR (op_neP hr.units) a b (nomark _)) s_ne (pem_var 2) (pem_c pe_int fun _ => .int _)) (pem_var 2) (pem_call (ok__law_one_of T) hG (hr.mono (by decide)) (by rfl) T.g__law_one_of T.f__law_one_of.kp T.b__law_one_of .nil (fun _ => .nil) (takes_of rfl rfl rfl rfl) (pgm_s 0 (pgm_d (pem_frz (pom_lst (pam_cons (pem_c pe_int fun _ => .int _) (pam_cons (pem_un (fun a => pe_un un_neg a) s_neg (pem_c pe_int fun _ => .int _)) (pam_cons (pem_c pe_int fun _ => .int _) pam_nil))))) pgm_nil)))) pam_nil))))))

theorem sc__law_pair : FnScope ["_law_top", "_law_bottom"] ["_law_top", "_law_bottom"] (defScope s__law_pair) := ⟨rfl, rfl, rfl, by decide +kernel, rfl, by decide +kernel, by decide +kernel⟩
theorem ok__law_pair {P : Program} {w : World} {K : PySem.W.Frag} {mg : Str → Option Value} {base : Heap} {A : Ad} (T : Txt K mg A) : FnG P w K mg base 3 A.f__law_pair A.d__law_pair ["_law_top", "_law_bottom"] (spG K 2 g__law_pair) := by
  refine fng_sem (k := 2) T.f__law_pair sc__law_pair fun cdv Ar outer s H E hG hr => ?_
  unfold m__law_pair
  exact (psm_one (psm_ret (pem_if (ptm_cmp (fun a b => pt_cmpR op_gt a b (nomark _)) s_gt (pem_var 1) (pem_c pe_int fun _ => .int _)) (pem_call (ok__law_ratio T) hG (hr.mono (by decide)) (by rfl) T.g__law_ratio T.f__law_ratio.kp T.b__law_ratio .nil (fun _ => .nil) (takes_of rfl rfl rfl rfl) (pgm_d (pem_var 0) (pgm_d (pem_var 1) pgm_nil))) (pem_call (ok__law_ratio T) hG (hr.mono (by decide)) (by rfl) T.g__law_ratio T.f__law_ratio.kp T.b__law_ratio .nil (fun _ => .nil) (takes_of rfl rfl rfl rfl) (pgm_d (pem_op (fun a b => pe_op op_sub a b) s_sub (pem_c pe_int fun _ => .int _) (pem_var 0)) (pgm_d (pem_op (fun a b => pe_op op_sub a b) s_sub (pem_c pe_int fun _ => .int _) (pem_var 1)) pgm_nil))))))

theorem sc__law_told : FnScope ["_law_thing"] ["_law_thing"] (defScope s__law_told) := ⟨rfl, rfl, rfl, by decide +kernel, rfl, by decide +kernel, by decide +kernel⟩
theorem ok__law_told {P : Program} {w : World} {K : PySem.W.Frag} {mg : Str → Option Value} {base : Heap} {A : Ad} (T : Txt K mg A) : FnG P w K mg base 3 A.f__law_told A.d__law_told ["_law_thing"] (spG K 1 g__law_told) := by
  refine fng_sem (k := 2) T.f__law_told sc__law_told fun cdv Ar outer s H E hG hr => ?_
  unfold m__law_told
  exact (psm_one (psm_ret (pem_tup (pam_cons (pem_prop (pem_var 0) T.cl_Fraction.cl T.pr_Fraction_top (ok_Fraction_top T) hG (hr.mono (by decide)) T.b_Fraction_top rfl) (pam_cons (pem_prop (pem_var 0) T.cl_Fraction.cl T.pr_Fraction_bottom (ok_Fraction_bottom T) hG (hr.mono (by decide)) T.b_Fraction_bottom rfl) pam_nil)))))

theorem sc__law_made_right : FnScope ["_law_dice_here", "_law_top", "_law_bottom", "_law_due", "_law_thing", "_law_text", "_law_many", "_law_same", "_law_told_here", "_law_one"] ["_law_dice_here"] (defScope s__law_made_right) := ⟨rfl, rfl, rfl, by decide +kernel, rfl, by decide +kernel, by decide +kernel⟩
theorem ok__law_made_right {P : Program} {w : World} {K : PySem.W.Frag} {mg : Str → Option Value} {base : Heap} {A : Ad} (T : Txt K mg A) : FnG P w K mg base 8 A.f__law_made_right A.d__law_made_right ["_law_dice_here"] (spG K 1 g__law_made_right) := by
  refine fng_sem (k := 7) T.f__law_made_right sc__law_made_right fun cdv Ar outer s H E hG hr => ?_
  unfold m__law_made_right
  exact (psm_cons (psm_set (pem_call (ok__law_couple T) hG (hr.mono (by decide)) (by rfl) T.g__law_couple T.f__law_couple.kp T.b__law_couple .nil (fun _ => .nil) (takes_of rfl rfl rfl rfl) (pgm_s 0 pgm_nil)) (pgt_tup rfl (pgts_cons (pgt_name 1 sc__law_made_right.nd) (pgts_cons (pgt_name 2 sc__law_made_right.nd) pgts_nil))))
  (psm_cons (psm_set (pem_tup (pam_cons (pem_call (ok__law_pair T) hG (hr.mono (by decide)) (by rfl) T.g__law_pair T.f__law_pair.kp T.b__law_pair .nil (fun _ => .nil) (takes_of rfl rfl rfl rfl) (pgm_d (pem_var 1) (pgm_d (pem_var 2) pgm_nil))) (pam_cons (pem_frz (pom_mk T.mk_Fraction (ok_Fraction_init T) hG (hr.mono (by decide)) (by rfl) T.g_Fraction T.b_Fraction_init .nil (fun _ => .nil) (takes_of rfl rfl rfl rfl) (pgm_d (pem_var 1) (pgm_d (pem_var 2) pgm_nil)))) pam_nil))) (pgt_tup rfl (pgts_cons (pgt_name 3 sc__law_made_right.nd) (pgts_cons (pgt_name 4 sc__law_made_right.nd) pgts_nil))))
  (psm_cons (psm_if (ptm_cmp (fun a b => pt_cmpR (op_neP hr.units) a b (nomark _)) s_ne (pem_cb (fun a => pe_callB (call_reprD hG hr.units) (by rfl) T.n_repr (by decide +kernel) a) s_repr (pam_cons (pem_call (ok__law_told T) hG (hr.mono (by decide)) (by rfl) T.g__law_told T.f__law_told.kp T.b__law_told .nil (fun _ => .nil) (takes_of rfl rfl rfl rfl) (pgm_d (pem_var 4) pgm_nil)) pam_nil)) (pem_cb (fun a => pe_callB (call_reprD hG hr.units) (by rfl) T.n_repr (by decide +kernel) a) s_repr (pam_cons (pem_var 3) pam_nil)))
  (psm_one (psm_ret (pem_c pe_bl fun _ => .bl _)))
  psm_nil)
  (psm_cons (psm_set (pem_if (ptm_cmp (fun a b => pt_cmpR (op_eqP hr.units) a b (nomark _)) s_eq (pem_op (fun a b => pe_ix ix_seq a b (fun _ _ => rfl)) s_ix (pem_var 3) (pem_c pe_int fun _ => .int _)) (pem_c pe_int fun _ => .int _)) (pem_cb (fun a => pe_callTy call_str_int (by rfl) T.n_str (by decide +kernel) a) s_str (pam_cons (pem_op (fun a b => pe_ix ix_seq a b (fun _ _ => rfl)) s_ix (pem_var 3) (pem_c pe_int fun _ => .int _)) pam_nil)) (pem_op (fun a b => pe_op op_addP a b) s_add (pem_op (fun a b => pe_op op_addP a b) s_add (pem_cb (fun a => pe_callTy call_str_int (by rfl) T.n_str (by decide +kernel) a) s_str (pam_cons (pem_op (fun a b => pe_ix ix_seq a b (fun _ _ => rfl)) s_ix (pem_var 3) (pem_c pe_int fun _ => .int _)) pam_nil)) (pem_c pe_str fun _ => .str _)) (pem_cb (fun a => pe_callTy call_str_int (by rfl) T.n_str (by decide +kernel) a) s_str (pam_cons (pem_op (fun a b => pe_ix ix_seq a b (fun _ _ => rfl)) s_ix (pem_var 3) (pem_c pe_int fun _ => .int _)) pam_nil)))) (pgt_name 5 sc__law_made_right.nd))
  (psm_cons (psm_set (pem_op (fun a b => pe_op op_addP a b) s_add (pem_c pe_int fun _ => .int _) (pem_call (ok__law_roll T) hG (hr.mono (by decide)) (by rfl) T.g__law_roll T.f__law_roll.kp T.b__law_roll .nil (fun _ => .nil) (takes_of rfl rfl rfl rfl) (pgm_s 0 (pgm_d (pem_c pe_int fun _ => .int _) pgm_nil)))) (pgt_name 6 sc__law_made_right.nd))
  (psm_cons (psm_set (pem_frz (pom_lst (pam_cons (pem_frz (pom_mk T.mk_Fraction (ok_Fraction_init T) hG (hr.mono (by decide)) (by rfl) T.g_Fraction T.b_Fraction_init .nil (fun _ => .nil) (takes_of rfl rfl rfl rfl) (pgm_d (pem_op (fun a b => pe_op op_mulP a b) s_mul (pem_var 6) (pem_var 1)) (pgm_d (pem_op (fun a b => pe_op op_mulP a b) s_mul (pem_var 6) (pem_var 2)) pgm_nil)))) (pam_cons (pem_frz (pom_mk T.mk_Fraction (ok_Fraction_init T) hG (hr.mono (by decide)) (by rfl) T.g_Fraction T.b_Fraction_init .nil (fun _ => .nil) (takes_of rfl rfl rfl rfl) (pgm_d (pem_op (fun a b => pe_op op_sub a b) s_sub (pem_c pe_int fun _ => .int _) (pem_var 1)) (pgm_d (pem_op (fun a b => pe_op op_sub a b) s_sub (pem_c pe_int fun _ => .int _) (pem_var 2)) pgm_nil)))) (pam_cons (pem_frz (pom_mk T.mk_Fraction (ok_Fraction_init T) hG (hr.mono (by decide)) (by rfl) T.g_Fraction T.b_Fraction_init .nil (fun _ => .nil) (takes_of rfl rfl rfl rfl) (pgm_d (pem_op (fun a b => pe_ix ix_seq a b (fun _ _ => rfl)) s_ix (pem_var 3) (pem_c pe_int fun _ => .int _)) (pgm_d (pem_op (fun a b => pe_ix ix_seq a b (fun _ _ => rfl)) s_ix (pem_var 3) (pem_c pe_int fun _ => .int _)) pgm_nil)))) pam_nil))))) (pgt_name 7 sc__law_made_right.nd))
  (psm_cons (psm_if (pwm_pt (pwm_or (ptm_cmp (fun a b => pt_cmpR (op_neP hr.units) a b (nomark _)) s_ne (pem_strI (fun a => pe_ctS (call_strI call_str_int T.me_Fraction_str.at_ T.me_Fraction_str.fn (ok_Fraction_str T) hG (hr.mono (by decide)) T.b_Fraction_str (takes_of rfl rfl rfl rfl)) (by rfl) T.n_str (by decide +kernel) a) s_str (pam_cons (pem_var 4) pam_nil)) (pem_var 5)) (pwm_or1 (ptm_cmp (fun a b => pt_cmpR (op_neP hr.units) a b (nomark _)) s_ne (pem_frz (pom_lc rfl sc__law_made_right.nd (own := [("_law_one", 9)]) (pim_list (pem_var 7)) (blkOk_by (N := ["_law_dice_here", "_law_top", "_law_bottom", "_law_due", "_law_thing", "_law_text", "_law_many", "_law_same", "_law_told_here", "_law_one"]) (sc := defScope s__law_made_right) (own := [("_law_one", 9)]) (by decide +kernel)) (fun _ _ _ _ _ => (pgt_name 9 sc__law_made_right.nd)) (fun _ _ _ _ _ => ptsm_nil) (fun _ _ _ _ _ => (pem_eqI (fun a b => pe_cmpS (op_eqI false T.eq_Fraction (ok_Fraction_eq T) hG (hr.mono (by decide)) T.b_Fraction_eq takes0 (op_eqP hr.units)) a b (nomark _)) s_eq (pem_var 9) (pem_var 4))) (by decide))) (pem_op (fun a b => pe_op op_mulP a b) s_mul (pem_frz (pom_lst (pam_cons (pem_c pe_bl fun _ => .bl _) pam_nil))) (pem_c pe_int fun _ => .int _))))))
  (psm_one (psm_ret (pem_c pe_bl fun _ => .bl _)))
  psm_nil)
  (psm_cons (psm_if (ptm_cmp (fun a b => pt_cmpR (op_neP hr.units) a b (nomark _)) s_ne (pem_frz (pom_lc rfl sc__law_made_right.nd (own := [("_law_one", 9)]) (pim_list (pem_var 7)) (blkOk_by (N := ["_law_dice_here", "_law_top", "_law_bottom", "_law_due", "_law_thing", "_law_text", "_law_many", "_law_same", "_law_told_here", "_law_one"]) (sc := defScope s__law_made_right) (own := [("_law_one", 9)]) (by decide +kernel)) (fun _ _ _ _ _ => (pgt_name 9 sc__law_made_right.nd)) (fun _ _ _ _ _ => ptsm_nil) (fun _ _ _ _ _ => (pem_eqI (fun a b => pe_cmpS (op_eqI true T.eq_Fraction (ok_Fraction_eq T) hG (hr.mono (by decide)) T.b_Fraction_eq takes0 (op_neP hr.units)) a b (nomark _)) s_ne (pem_var 9) (pem_var 4))) (by decide))) (pem_op (fun a b => pe_op op_mulP a b) s_mul (pem_frz (pom_lst (pam_cons (pem_c pe_bl fun _ => .bl _) pam_nil))) (pem_c pe_int fun _ => .int _)))
  (psm_one (psm_ret (pem_c pe_bl fun _ => .bl _)))
  psm_nil)
  (psm_cons (psm_set (pem_frz (pom_lst (pam_cons (pem_opI (fun a b => op_own info_add T.bn_Fraction_add (ok_Fraction_add T) (fng_none (fd := A.d_Fraction_radd) (ps := [_, _])) hG (hr.mono (by decide)) (hr.mono (by decide)) T.b_Fraction_add T.b_Fraction_radd (takes_of rfl rfl rfl rfl) (fun _ _ _ _ _ _ _ h Q q => int_add_try h Q q) PySem.F.fills_int_add look_radd op_addP a b) s_add (pem_var 4) (pem_c pe_int fun _ => .int _)) (pam_cons (pem_opI (fun a b => op_own info_sub T.bn_Fraction_sub (ok_Fraction_sub T) (ok_Fraction_rsub T) hG (hr.mono (by decide)) (hr.mono (by decide)) T.b_Fraction_sub T.b_Fraction_rsub (takes_of rfl rfl rfl rfl) (fun _ _ _ _ _ _ _ h Q q => int_sub_try h Q q) PySem.F.fills_int_sub look_rsub op_sub a b) s_sub (pem_c pe_int fun _ => .int _) (pem_var 4)) (pam_cons (pem_opI (fun a b => op_own info_mul T.bn_Fraction_mul (ok_Fraction_mul T) (fng_none (fd := A.d_Fraction_rmul) (ps := [_, _])) hG (hr.mono (by decide)) (hr.mono (by decide)) T.b_Fraction_mul T.b_Fraction_rmul (takes_of rfl rfl rfl rfl) (fun _ _ _ _ _ _ _ h Q q => int_mul_try h Q q) PySem.F.fills_int_mul look_rmul op_mulP a b) s_mul (pem_var 4) (pem_var 4)) (pam_cons (pem_opI (fun a b => op_own info_sub T.bn_Fraction_sub (ok_Fraction_sub T) (ok_Fraction_rsub T) hG (hr.mono (by decide)) (hr.mono (by decide)) T.b_Fraction_sub T.b_Fraction_rsub (takes_of rfl rfl rfl rfl) (fun _ _ _ _ _ _ _ h Q q => int_sub_try h Q q) PySem.F.fills_int_sub look_rsub op_sub a b) s_sub (pem_c pe_int fun _ => .int _) (pem_var 4)) (pam_cons (pem_absI (fun a => pe_cbS (call_absI call_abs T.me_Fraction_abs.at_ T.me_Fraction_abs.fn (ok_Fraction_abs T) hG (hr.mono (by decide)) T.b_Fraction_abs (takes_of rfl rfl rfl rfl)) (by rfl) T.n_abs (by decide +kernel) a) s_abs (pam_cons (pem_var 4) pam_nil)) (pam_cons (pem_mth (.d (pem_var 4)) T.cl_Fraction.cl T.me_Fraction_power (ok_Fraction_power T) hG (hr.mono (by decide)) T.b_Fraction_power .nil (fun _ => .nil) (takes_of rfl rfl rfl rfl) (pgm_d (pem_c pe_int fun _ => .int _) pgm_nil) (fun a b => pe_mth a T.cl_Fraction.cl T.me_Fraction_power (ok_Fraction_power T) hG (hr.mono (by decide)) T.b_Fraction_power .nil (takes_of rfl rfl rfl rfl) b)) pam_nil)))))))) (pgt_name 8 sc__law_made_right.nd))
  (psm_one (psm_ret (pem_and (pem_op (fun a b => pe_cmpR (op_eqP hr.units) a b (nomark _)) s_eq (pem_cb (fun a => pe_callB call_len (by rfl) T.n_len (by decide +kernel) a) s_len (pam_cons (pem_var 8) pam_nil)) (pem_c pe_int fun _ => .int _)) (pem_and (pem_op (fun a b => pe_cmpR (op_eqP hr.units) a b (nomark _)) s_eq (pem_call (ok__law_told T) hG (hr.mono (by decide)) (by rfl) T.g__law_told T.f__law_told.kp T.b__law_told .nil (fun _ => .nil) (takes_of rfl rfl rfl rfl) (pgm_d (pem_var 4) pgm_nil)) (pem_var 3)) (pem_one (pem_op (fun a b => pe_cmpR op_isBl a b (nomark _)) s_isBl (pem_call (ok_is_fraction T) hG (hr.mono (by decide)) (by rfl) T.g_is_fraction T.f_is_fraction.kp T.b_is_fraction .nil (fun _ => .nil) (takes_of rfl rfl rfl rfl) (pgm_d (pem_var 4) pgm_nil)) (pem_c pe_bl fun _ => .bl _))))))))))))))))

theorem sc__law_equal_right : FnScope ["_law_dice_here", "_law_one", "_law_two", "_law_first", "_law_second", "_law_is_same", "_law_number", "_law_odd", "_law_value"] ["_law_dice_here"] (defScope s__law_equal_right) := ⟨rfl, rfl, rfl, by decide +kernel, rfl, by decide +kernel, by decide +kernel⟩
theorem ok__law_equal_right {P : Program} {w : World} {K : PySem.W.Frag} {mg : Str → Option Value} {base : Heap} {A : Ad} (T : Txt K mg A) : FnG P w K mg base 5 A.f__law_equal_right A.d__law_equal_right ["_law_dice_here"] (spG K 1 g__law_equal_right) := by
  refine fng_sem (k := 4) T.f__law_equal_right sc__law_equal_right fun cdv Ar outer s H E hG hr => ?_
  unfold m__law_equal_right
  exact (psm_cons (psm_par 1 2 rfl sc__law_equal_right.nd (by decide) (pem_call (ok__law_couple T) hG (hr.mono (by decide)) (by rfl) T.g__law_couple T.f__law_couple.kp T.b__law_couple .nil (fun _ => .nil) (takes_of rfl rfl rfl rfl) (pgm_s 0 pgm_nil)) (pem_call (ok__law_couple T) hG (hr.mono (by decide)) (by rfl) T.g__law_couple T.f__law_couple.kp T.b__law_couple .nil (fun _ => .nil) (takes_of rfl rfl rfl rfl) (pgm_s 0 pgm_nil)))
  (psm_cons (psm_set (pem_tup (pam_cons (pem_frz (pom_mk T.mk_Fraction (ok_Fraction_init T) hG (hr.mono (by decide)) (by rfl) T.g_Fraction T.b_Fraction_init .nil (fun _ => .nil) (takes_of rfl rfl rfl rfl) (pgm_d (pem_op (fun a b => pe_ix ix_seq a b (fun _ _ => rfl)) s_ix (pem_var 1) (pem_c pe_int fun _ => .int _)) (pgm_d (pem_op (fun a b => pe_ix ix_seq a b (fun _ _ => rfl)) s_ix (pem_var 1) (pem_c pe_int fun _ => .int _)) pgm_nil)))) (pam_cons (pem_frz (pom_mk T.mk_Fraction (ok_Fraction_init T) hG (hr.mono (by decide)) (by rfl) T.g_Fraction T.b_Fraction_init .nil (fun _ => .nil) (takes_of rfl rfl rfl rfl) (pgm_d (pem_op (fun a b => pe_ix ix_seq a b (fun _ _ => rfl)) s_ix (pem_var 2) (pem_c pe_int fun _ => .int _)) (pgm_d (pem_op (fun a b => pe_ix ix_seq a b (fun _ _ => rfl)) s_ix (pem_var 2) (pem_c pe_int fun _ => .int _)) pgm_nil)))) pam_nil))) (pgt_tup rfl (pgts_cons (pgt_name 3 sc__law_equal_right.nd) (pgts_cons (pgt_name 4 sc__law_equal_right.nd) pgts_nil))))
  (psm_cons (psm_set (pem_op (fun a b => pe_cmpR (op_eqP hr.units) a b (nomark _)) s_eq (pem_call (ok__law_pair T) hG (hr.mono (by decide)) (by rfl) T.g__law_pair T.f__law_pair.kp T.b__law_pair .nil (fun _ => .nil) (takes_of rfl rfl rfl rfl) (pgm_d (pem_op (fun a b => pe_ix ix_seq a b (fun _ _ => rfl)) s_ix (pem_var 1) (pem_c pe_int fun _ => .int _)) (pgm_d (pem_op (fun a b => pe_ix ix_seq a b (fun _ _ => rfl)) s_ix (pem_var 1) (pem_c pe_int fun _ => .int _)) pgm_nil))) (pem_call (ok__law_pair T) hG (hr.mono (by decide)) (by rfl) T.g__law_pair T.f__law_pair.kp T.b__law_pair .nil (fun _ => .nil) (takes_of rfl rfl rfl rfl) (pgm_d (pem_op (fun a b => pe_ix ix_seq a b (fun _ _ => rfl)) s_ix (pem_var 2) (pem_c pe_int fun _ => .int _)) (pgm_d (pem_op (fun a b => pe_ix ix_seq a b (fun _ _ => rfl)) s_ix (pem_var 2) (pem_c pe_int fun _ => .int _)) pgm_nil)))) (pgt_name 5 sc__law_equal_right.nd))
  (psm_cons (psm_if (ptm_cmp (fun a b => pt_cmpR (op_neP hr.units) a b (nomark _)) s_ne (pem_frz (pom_lst (pam_cons (pem_eqI (fun a b => pe_cmpS (op_eqI false T.eq_Fraction (ok_Fraction_eq T) hG (hr.mono (by decide)) T.b_Fraction_eq (takes_of rfl rfl rfl rfl) (op_eqP hr.units)) a b (nomark _)) s_eq (pem_var 3) (pem_var 4)) (pam_cons (pem_eqI (fun a b => pe_cmpS (op_eqI false T.eq_Fraction (ok_Fraction_eq T) hG (hr.mono (by decide)) T.b_Fraction_eq (takes_of rfl rfl rfl rfl) (op_eqP hr.units)) a b (nomark _)) s_eq (pem_var 4) (pem_var 3)) (pam_cons (pem_eqI (fun a b => pe_cmpS (op_eqI true T.eq_Fraction (ok_Fraction_eq T) hG (hr.mono (by decide)) T.b_Fraction_eq (takes_of rfl rfl rfl rfl) (op_neP hr.units)) a b (nomark _)) s_ne (pem_var 3) (pem_var 4)) pam_nil))))) (pem_frz (pom_lst (pam_cons (pem_var 5) (pam_cons (pem_var 5) (pam_cons (pem_not (pem_var 5)) pam_nil))))))
  (psm_one (psm_ret (pem_c pe_bl fun _ => .bl _)))
  psm_nil)
  (psm_cons (psm_set (pem_call (ok__law_one_of T) hG (hr.mono (by decide)) (by rfl) T.g__law_one_of T.f__law_one_of.kp T.b__law_one_of .nil (fun _ => .nil) (takes_of rfl rfl rfl rfl) (pgm_s 0 (pgm_d (pem_frz (pom_lst (pam_cons (pem_op (fun a b => pe_ix ix_seq a b (fun _ _ => rfl)) s_ix (pem_var 1) (pem_c pe_int fun _ => .int _)) (pam_cons (pem_op (fun a b => pe_op op_divW a b) s_fdiv (pem_op (fun a b => pe_ix ix_seq a b (fun _ _ => rfl)) s_ix (pem_var 1) (pem_c pe_int fun _ => .int _)) (pem_op (fun a b => pe_ix ix_seq a b (fun _ _ => rfl)) s_ix (pem_var 1) (pem_c pe_int fun _ => .int _))) (pam_cons (pem_c pe_int fun _ => .int _) (pam_cons (pem_c pe_int fun _ => .int _) (pam_cons (pem_c pe_int fun _ => .int _) pam_nil))))))) pgm_nil))) (pgt_name 6 sc__law_equal_right.nd))
  (psm_cons (psm_set (pem_op (fun a b => pe_cmpR (op_eqP hr.units) a b (nomark _)) s_eq (pem_op (fun a b => pe_op op_mulP a b) s_mul (pem_var 6) (pem_op (fun a b => pe_ix ix_seq a b (fun _ _ => rfl)) s_ix (pem_var 1) (pem_c pe_int fun _ => .int _))) (pem_op (fun a b => pe_ix ix_seq a b (fun _ _ => rfl)) s_ix (pem_var 1) (pem_c pe_int fun _ => .int _))) (pgt_name 5 sc__law_equal_right.nd))
  (psm_cons (psm_if (ptm_cmp (fun a b => pt_cmpR (op_neP hr.units) a b (nomark _)) s_ne (pem_frz (pom_lst (pam_cons (pem_eqI (fun a b => pe_cmpS (op_eqI false T.eq_Fraction (ok_Fraction_eq T) hG (hr.mono (by decide)) T.b_Fraction_eq (takes_of rfl rfl rfl rfl) (op_eqP hr.units)) a b (nomark _)) s_eq (pem_var 3) (pem_var 6)) (pam_cons (pem_eqI (fun a b => pe_cmpS (op_eqI false T.eq_Fraction (ok_Fraction_eq T) hG (hr.mono (by decide)) T.b_Fraction_eq (takes_of rfl rfl rfl rfl) (op_eqP hr.units)) a b (nomark _)) s_eq (pem_var 6) (pem_var 3)) (pam_cons (pem_eqI (fun a b => pe_cmpS (op_eqI true T.eq_Fraction (ok_Fraction_eq T) hG (hr.mono (by decide)) T.b_Fraction_eq (takes_of rfl rfl rfl rfl) (op_neP hr.units)) a b (nomark _)) s_ne (pem_var 3) (pem_var 6)) (pam_cons (pem_eqI (fun a b => pe_cmpS (op_eqI true T.eq_Fraction (ok_Fraction_eq T) hG (hr.mono (by decide)) T.b_Fraction_eq (takes_of rfl rfl rfl rfl) (op_neP hr.units)) a b (nomark _)) s_ne (pem_var 6) (pem_var 3)) pam_nil)))))) (pem_op (fun a b => pe_op op_addP a b) s_add (pem_op (fun a b => pe_op op_mulP a b) s_mul (pem_frz (pom_lst (pam_cons (pem_var 5) pam_nil))) (pem_c pe_int fun _ => .int _)) (pem_op (fun a b => pe_op op_mulP a b) s_mul (pem_frz (pom_lst (pam_cons (pem_not (pem_var 5)) pam_nil))) (pem_c pe_int fun _ => .int _))))
  (psm_one (psm_ret (pem_c pe_bl fun _ => .bl _)))
  psm_nil)
  (psm_cons (psm_set (pem_frz (pom_lst (pam_cons (pem_c pe_non fun _ => .non) (pam_cons (pem_c pe_str fun _ => .str _) (pam_cons (pem_strI (fun a => pe_ctS (call_strI call_str_int T.me_Fraction_str.at_ T.me_Fraction_str.fn (ok_Fraction_str T) hG (hr.mono (by decide)) T.b_Fraction_str (takes_of rfl rfl rfl rfl)) (by rfl) T.n_str (by decide +kernel) a) s_str (pam_cons (pem_var 3) pam_nil)) (pam_cons (pem_tup (pam_cons (pem_prop (pem_var 3) T.cl_Fraction.cl T.pr_Fraction_top (ok_Fraction_top T) hG (hr.mono (by decide)) T.b_Fraction_top rfl) (pam_cons (pem_prop (pem_var 3) T.cl_Fraction.cl T.pr_Fraction_bottom (ok_Fraction_bottom T) hG (hr.mono (by decide)) T.b_Fraction_bottom rfl) pam_nil))) (pam_cons (pem_frz (pom_lst pam_nil)) (pam_cons (pem_frz pom_dct0) (pam_cons (pem_c pe_bl fun _ => .bl _) (pam_cons (pem_c pe_bl fun _ => .bl _) (pam_cons (pem_tup (pam_cons (pem_c pe_str fun _ => .str _) (pam_cons (pem_c pe_int fun _ => .int _) pam_nil))) (pam_cons (pem_frz (pom_lst (pam_cons (pem_var 3) pam_nil))) pam_nil)))))))))))) (pgt_name 7 sc__law_equal_right.nd))
  (psm_one (psm_ret (pem_op (fun a b => pe_cmpR (op_eqP hr.units) a b (nomark _)) s_eq (pem_frz (pom_lc rfl sc__law_equal_right.nd (own := [("_law_value", 8)]) (pim_list (pem_var 7)) (blkOk_by (N := ["_law_dice_here", "_law_one", "_law_two", "_law_first", "_law_second", "_law_is_same", "_law_number", "_law_odd", "_law_value"]) (sc := defScope s__law_equal_right) (own := [("_law_value", 8)]) (by decide +kernel)) (fun _ _ _ _ _ => (pgt_name 8 sc__law_equal_right.nd)) (fun _ _ _ _ _ => (ptsm_one (pwm_pt (pwm_or (ptm_eqI (fun a b => pt_cmpS (op_eqI false T.eq_Fraction (ok_Fraction_eq T) hG (hr.mono (by decide)) T.b_Fraction_eq takes0 (op_eqP hr.units)) a b (nomark _)) s_eq (pem_var 3) (pem_var 8)) (pwm_or (ptm_eqI (fun a b => pt_cmpS (op_eqI false T.eq_Fraction (ok_Fraction_eq T) hG (hr.mono (by decide)) T.b_Fraction_eq takes0 (op_eqP hr.units)) a b (nomark _)) s_eq (pem_var 8) (pem_var 3)) (pwm_or1 (ptm_not (ptm_eqI (fun a b => pt_cmpS (op_eqI true T.eq_Fraction (ok_Fraction_eq T) hG (hr.mono (by decide)) T.b_Fraction_eq takes0 (op_neP hr.units)) a b (nomark _)) s_ne (pem_var 3) (pem_var 8))))))))) (fun _ _ _ _ _ => (pem_var 8)) (by decide))) (pem_frz (pom_lst pam_nil)))))))))))))

theorem sc_law : FnScope ["_law_script", "_law_at", "_law_dice_here", "_law_turn", "_law_some", "_law_told_here", "_law_values", "_law_one", "_law_value"] ["_law_script"] (defScope s_law) := ⟨rfl, rfl, rfl, by decide +kernel, rfl, by decide +kernel, by decide +kernel⟩
theorem ok_law {P : Program} {w : World} {K : PySem.W.Frag} {mg : Str → Option Value} {base : Heap} {A : Ad} (T : Txt K mg A) : FnG P w K mg base 9 A.f_law A.d_law ["_law_script"] (spG K 1 g_law) := by
  refine fng_sem (k := 8) T.f_law sc_law fun cdv Ar outer s H E hG hr => ?_
  unfold m_law
  exact (psm_cons (psm_for (fun a b c => ps_for (passes_of rfl) rfl a b c) (pim_range1 (fun a => pi_range1 (by rfl) T.n_range a) (pam_cons (pem_cb (fun a => pe_callB (call_max2 rfl) (by rfl) T.n_max (by decide +kernel) a) s_max2 (pam_cons (pem_c pe_int fun _ => .int _) (pam_cons (pem_cb (fun a => pe_callB (call_min2 rfl) (by rfl) T.n_min (by decide +kernel) a) s_min2 (pam_cons (pem_c pe_int fun _ => .int _) (pam_cons (pem_cb (fun a => pe_callB call_len (by rfl) T.n_len (by decide +kernel) a) s_len (pam_cons (pem_var 0) pam_nil)) pam_nil))) pam_nil))) pam_nil)) (pgt_name 1 sc_law.nd)
  (psm_cons (psm_setO 2 (pom_call (ok__law_dice T) hG (hr.mono (by decide)) (by rfl) T.g__law_dice T.f__law_dice.kp T.b__law_dice .nil (fun _ => .nil) (takes_of rfl rfl rfl rfl) (pgm_d (pem_var 0) (pgm_d (pem_var 1) pgm_nil))) sc_law.nd)
  (psm_one (psm_for (fun a b c => ps_for (passes_of rfl) rfl a b c) (pim_range1 (fun a => pi_range1 (by rfl) T.n_range a) (pam_cons (pem_c pe_int fun _ => .int _) pam_nil)) (pgt_name 3 sc_law.nd)
  (psm_one (psm_if (pwm_pt (pwm_or (ptm_not (ptm_val (pem_call (ok__law_made_right T) hG (hr.mono (by decide)) (by rfl) T.g__law_made_right T.f__law_made_right.kp T.b__law_made_right .nil (fun _ => .nil) (takes_of rfl rfl rfl rfl) (pgm_s 2 pgm_nil)))) (pwm_or1 (ptm_not (ptm_val (pem_call (ok__law_equal_right T) hG (hr.mono (by decide)) (by rfl) T.g__law_equal_right T.f__law_equal_right.kp T.b__law_equal_right .nil (fun _ => .nil) (takes_of rfl rfl rfl rfl) (pgm_s 2 pgm_nil)))))))
  (psm_one (psm_ret (pem_c pe_bl fun _ => .bl _)))
  psm_nil))))))
  (psm_cons (psm_set (pem_frz (pom_lst (pam_cons (pem_frz (pom_mk T.mk_Fraction (ok_Fraction_init T) hG (hr.mono (by decide)) (by rfl) T.g_Fraction T.b_Fraction_init .nil (fun _ => .nil) (takes_of rfl rfl rfl rfl) (pgm_d (pem_un (fun a => pe_un un_neg a) s_neg (pem_c pe_int fun _ => .int _)) (pgm_d (pem_un (fun a => pe_un un_neg a) s_neg (pem_c pe_int fun _ => .int _)) pgm_nil)))) (pam_cons (pem_frz (pom_mk T.mk_Fraction (ok_Fraction_init T) hG (hr.mono (by decide)) (by rfl) T.g_Fraction T.b_Fraction_init .nil (fun _ => .nil) (takes_of rfl rfl rfl rfl) (pgm_d (pem_c pe_int fun _ => .int _) (pgm_d (pem_un (fun a => pe_un un_neg a) s_neg (pem_c pe_int fun _ => .int _)) pgm_nil)))) (pam_cons (pem_frz (pom_mk T.mk_Fraction (ok_Fraction_init T) hG (hr.mono (by decide)) (by rfl) T.g_Fraction T.b_Fraction_init .nil (fun _ => .nil) (takes_of rfl rfl rfl rfl) (pgm_d (pem_c pe_int fun _ => .int _) (pgm_d (pem_un (fun a => pe_un un_neg a) s_neg (pem_c pe_int fun _ => .int _)) pgm_nil)))) (pam_cons (pem_frz (pom_mk T.mk_Fraction (ok_Fraction_init T) hG (hr.mono (by decide)) (by rfl) T.g_Fraction T.b_Fraction_init .nil (fun _ => .nil) (takes_of rfl rfl rfl rfl) (pgm_d (pem_c pe_int fun _ => .int _) (pgm_d (pem_c pe_int fun _ => .int _) pgm_nil)))) (pam_cons (pem_frz (pom_mk T.mk_Fraction (ok_Fraction_init T) hG (hr.mono (by decide)) (by rfl) T.g_Fraction T.b_Fraction_init_2 T.dv_Fraction_init_2 (fun _ => (.cons (.int _) .nil)) (takes_of rfl rfl rfl rfl) (pgm_d (pem_c pe_int fun _ => .int _) pgm_nil))) pam_nil))))))) (pgt_name 4 sc_law.nd))
  (psm_cons (psm_if (ptm_cmp (fun a b => pt_cmpR (op_neP hr.units) a b (nomark _)) s_ne (pem_frz (pom_lc rfl sc_law.nd (own := [("_law_one", 7)]) (pim_list (pem_var 4)) (blkOk_by (N := ["_law_script", "_law_at", "_law_dice_here", "_law_turn", "_law_some", "_law_told_here", "_law_values", "_law_one", "_law_value"]) (sc := defScope s_law) (own := [("_law_one", 7)]) (by decide +kernel)) (fun _ _ _ _ _ => (pgt_name 7 sc_law.nd)) (fun _ _ _ _ _ => ptsm_nil) (fun _ _ _ _ _ => (pem_call (ok__law_told T) hG (hr.mono (by decide)) (by rfl) T.g__law_told T.f__law_told.kp T.b__law_told .nil (fun _ => .nil) takes0 (pgm_d (pem_var 7) pgm_nil))) (by decide))) (pem_frz (pom_lst (pam_cons (pem_tup (pam_cons (pem_c pe_int fun _ => .int _) (pam_cons (pem_c pe_int fun _ => .int _) pam_nil))) (pam_cons (pem_tup (pam_cons (pem_un (fun a => pe_un un_neg a) s_neg (pem_c pe_int fun _ => .int _)) (pam_cons (pem_c pe_int fun _ => .int _) pam_nil))) (pam_cons (pem_tup (pam_cons (pem_c pe_int fun _ => .int _) (pam_cons (pem_c pe_int fun _ => .int _) pam_nil))) (pam_cons (pem_tup (pam_cons (pem_c pe_int fun _ => .int _) (pam_cons (pem_c pe_int fun _ => .int _) pam_nil))) (pam_cons (pem_tup (pam_cons (pem_c pe_int fun _ => .int _) (pam_cons (pem_c pe_int fun _ => .int _) pam_nil))) pam_nil))))))))
  (psm_one (psm_ret (pem_c pe_bl fun _ => .bl _)))
  psm_nil)
  (psm_cons (psm_if (ptm_cmp (fun a b => pt_cmpR (op_neP hr.units) a b (nomark _)) s_ne (pem_frz (pom_lc rfl sc_law.nd (own := [("_law_one", 7)]) (pim_list (pem_var 4)) (blkOk_by (N := ["_law_script", "_law_at", "_law_dice_here", "_law_turn", "_law_some", "_law_told_here", "_law_values", "_law_one", "_law_value"]) (sc := defScope s_law) (own := [("_law_one", 7)]) (by decide +kernel)) (fun _ _ _ _ _ => (pgt_name 7 sc_law.nd)) (fun _ _ _ _ _ => ptsm_nil) (fun _ _ _ _ _ => (pem_strI (fun a => pe_ctS (call_strI call_str_int T.me_Fraction_str.at_ T.me_Fraction_str.fn (ok_Fraction_str T) hG (hr.mono (by decide)) T.b_Fraction_str takes0) (by rfl) T.n_str (by decide +kernel) a) s_str (pam_cons (pem_var 7) pam_nil))) (by decide))) (pem_frz (pom_lst (pam_cons (pem_c pe_str fun _ => .str _) (pam_cons (pem_c pe_str fun _ => .str _) (pam_cons (pem_c pe_str fun _ => .str _) (pam_cons (pem_c pe_str fun _ => .str _) (pam_cons (pem_c pe_str fun _ => .str _) pam_nil))))))))
  (psm_one (psm_ret (pem_c pe_bl fun _ => .bl _)))
  psm_nil)
  (psm_cons (psm_set (pem_frz (pom_lst (pam_cons (pem_eqI (fun a b => pe_cmpS (op_eqI false T.eq_Fraction (ok_Fraction_eq T) hG (hr.mono (by decide)) T.b_Fraction_eq (takes_of rfl rfl rfl rfl) (op_eqP hr.units)) a b (nomark _)) s_eq (pem_frz (pom_mk T.mk_Fraction (ok_Fraction_init T) hG (hr.mono (by decide)) (by rfl) T.g_Fraction T.b_Fraction_init .nil (fun _ => .nil) (takes_of rfl rfl rfl rfl) (pgm_d (pem_c pe_int fun _ => .int _) (pgm_d (pem_c pe_int fun _ => .int _) pgm_nil)))) (pem_c pe_int fun _ => .int _)) (pam_cons (pem_eqI (fun a b => pe_cmpS (op_eqI false T.eq_Fraction (ok_Fraction_eq T) hG (hr.mono (by decide)) T.b_Fraction_eq (takes_of rfl rfl rfl rfl) (op_eqP hr.units)) a b (nomark _)) s_eq (pem_frz (pom_mk T.mk_Fraction (ok_Fraction_init T) hG (hr.mono (by decide)) (by rfl) T.g_Fraction T.b_Fraction_init .nil (fun _ => .nil) (takes_of rfl rfl rfl rfl) (pgm_d (pem_c pe_int fun _ => .int _) (pgm_d (pem_c pe_int fun _ => .int _) pgm_nil)))) (pem_c pe_int fun _ => .int _)) (pam_cons (pem_eqI (fun a b => pe_cmpS (op_eqI false T.eq_Fraction (ok_Fraction_eq T) hG (hr.mono (by decide)) T.b_Fraction_eq (takes_of rfl rfl rfl rfl) (op_eqP hr.units)) a b (nomark _)) s_eq (pem_c pe_int fun _ => .int _) (pem_frz (pom_mk T.mk_Fraction (ok_Fraction_init T) hG (hr.mono (by decide)) (by rfl) T.g_Fraction T.b_Fraction_init .nil (fun _ => .nil) (takes_of rfl rfl rfl rfl) (pgm_d (pem_c pe_int fun _ => .int _) (pgm_d (pem_c pe_int fun _ => .int _) pgm_nil))))) (pam_cons (pem_eqI (fun a b => pe_cmpS (op_eqI false T.eq_Fraction (ok_Fraction_eq T) hG (hr.mono (by decide)) T.b_Fraction_eq (takes_of rfl rfl rfl rfl) (op_eqP hr.units)) a b (nomark _)) s_eq (pem_frz (pom_mk T.mk_Fraction (ok_Fraction_init T) hG (hr.mono (by decide)) (by rfl) T.g_Fraction T.b_Fraction_init_2 T.dv_Fraction_init_2 (fun _ => (.cons (.int _) .nil)) (takes_of rfl rfl rfl rfl) (pgm_d (pem_c pe_int fun _ => .int _) pgm_nil))) (pem_c pe_bl fun _ => .bl _)) (pam_cons (pem_eqI (fun a b => pe_cmpS (op_eqI true T.eq_Fraction (ok_Fraction_eq T) hG (hr.mono (by decide)) T.b_Fraction_eq (takes_of rfl rfl rfl rfl) (op_neP hr.units)) a b (nomark _)) s_ne (pem_frz (pom_mk T.mk_Fraction (ok_Fraction_init T) hG (hr.mono (by decide)) (by rfl) T.g_Fraction T.b_Fraction_init_2 T.dv_Fraction_init_2 (fun _ => (.cons (.int _) .nil)) (takes_of rfl rfl rfl rfl) (pgm_d (pem_c pe_int fun _ => .int _) pgm_nil))) (pem_c pe_bl fun _ => .bl _)) pam_nil))))))) (pgt_name 5 sc_law.nd))
  (psm_cons (psm_if (ptm_cmp (fun a b => pt_cmpR (op_neP hr.units) a b (nomark _)) s_ne (pem_var 5) (pem_frz (pom_lst (pam_cons (pem_c pe_bl fun _ => .bl _) (pam_cons (pem_c pe_bl fun _ => .bl _) (pam_cons (pem_c pe_bl fun _ => .bl _) (pam_cons (pem_c pe_bl fun _ => .bl _) (pam_cons (pem_c pe_bl fun _ => .bl _) pam_nil))))))))
  (psm_one (psm_ret (pem_c pe_bl fun _ => .bl _)))
  psm_nil)
  (psm_cons (psm_set (pem_frz (pom_lst (pam_cons (pem_op (fun a b => pe_ix ix_seq a b (fun _ _ => rfl)) s_ix (pem_var 4) (pem_c pe_int fun _ => .int _)) (pam_cons (pem_c pe_int fun _ => .int _) (pam_cons (pem_un (fun a => pe_un un_neg a) s_neg (pem_c pe_int fun _ => .int _)) (pam_cons (pem_op (fun a b => pe_op op_powW a b) s_pow (pem_op (fun a b => pe_op op_powW a b) s_pow (pem_c pe_int fun _ => .int _) (pem_c pe_int fun _ => .int _)) (pem_c pe_int fun _ => .int _)) (pam_cons (pem_c pe_bl fun _ => .bl _) (pam_cons (pem_c pe_non fun _ => .non) (pam_cons (pem_c pe_str fun _ => .str _) (pam_cons (pem_tup (pam_cons (pem_c pe_int fun _ => .int _) (pam_cons (pem_c pe_int fun _ => .int _) pam_nil))) (pam_cons (pem_frz (pom_lst pam_nil)) (pam_cons (pem_frz pom_dct0) (pam_cons (pem_frz (pom_lst (pam_cons (pem_op (fun a b => pe_ix ix_seq a b (fun _ _ => rfl)) s_ix (pem_var 4) (pem_c pe_int fun _ => .int _)) pam_nil))) (pam_cons (pem_tup (pam_cons (pem_op (fun a b => pe_ix ix_seq a b (fun _ _ => rfl)) s_ix (pem_var 4) (pem_c pe_int fun _ => .int _)) pam_nil)) pam_nil)))))))))))))) (pgt_name 6 sc_law.nd))
  (psm_one (psm_ret (pem_op (fun a b => pe_cmpR (op_eqP hr.units) a b (nomark _)) s_eq (pem_frz (pom_lc rfl sc_law.nd (own := [("_law_value", 8)]) (pim_list (pem_var 6)) (blkOk_by (N := ["_law_script", "_law_at", "_law_dice_here", "_law_turn", "_law_some", "_law_told_here", "_law_values", "_law_one", "_law_value"]) (sc := defScope s_law) (own := [("_law_value", 8)]) (by decide +kernel)) (fun _ _ _ _ _ => (pgt_name 8 sc_law.nd)) (fun _ _ _ _ _ => ptsm_nil) (fun _ _ _ _ _ => (pem_call (ok_is_fraction T) hG (hr.mono (by decide)) (by rfl) T.g_is_fraction T.f_is_fraction.kp T.b_is_fraction .nil (fun _ => .nil) takes0 (pgm_d (pem_var 8) pgm_nil))) (by decide))) (pem_op (fun a b => pe_op op_addP a b) s_add (pem_op (fun a b => pe_op op_mulP a b) s_mul (pem_frz (pom_lst (pam_cons (pem_c pe_bl fun _ => .bl _) pam_nil))) (pem_c pe_int fun _ => .int _)) (pem_op (fun a b => pe_op op_mulP a b) s_mul (pem_frz (pom_lst (pam_cons (pem_c pe_bl fun _ => .bl _) pam_nil))) (pem_c pe_int fun _ => .int _)))))))))))))
end K01
set_option Elab.async false
set_option linter.all false
set_option maxRecDepth 100000
set_option maxHeartbeats 4000000
namespace K01
open PySem PySem.Spec PyProof.Rows L2 L3
def dx_is_integer : DX := ⟨fun K => He.ga K "is_integer", "is_integer", "is_integer", s_is_integer, []⟩
def dx_common_divisor : DX := ⟨fun K => He.ga K "common_divisor", "common_divisor", "common_divisor", s_common_divisor, []⟩
def dx_power_in : DX := ⟨fun K => He.ga K "power_in", "power_in", "power_in", s_power_in, []⟩
def dx_Fraction_init : DX := ⟨fun K => He.ma K (He.ga K "Fraction") "__init__", "__init__", "Fraction.__init__", s_Fraction_init, [.int 1]⟩
def dx_Fraction_top : DX := ⟨fun K => gAd K "Fraction" "top", "top", "Fraction.top", s_Fraction_top, []⟩
def dx_Fraction_bottom : DX := ⟨fun K => gAd K "Fraction" "bottom", "bottom", "Fraction.bottom", s_Fraction_bottom, []⟩
def dx_is_fraction : DX := ⟨fun K => He.ga K "is_fraction", "is_fraction", "is_fraction", s_is_fraction, []⟩
def dx_require_fraction : DX := ⟨fun K => He.ga K "require_fraction", "require_fraction", "require_fraction", s_require_fraction, []⟩
def dx_fraction_of : DX := ⟨fun K => He.ga K "fraction_of", "fraction_of", "fraction_of", s_fraction_of, []⟩
def dx_required : DX := ⟨fun K => He.ga K "required", "required", "required", s_required, []⟩
def dx_Fraction_power : DX := ⟨fun K => He.ma K (He.ga K "Fraction") "power", "power", "Fraction.power", s_Fraction_power, []⟩
def dx_Fraction_add : DX := ⟨fun K => He.ma K (He.ga K "Fraction") "__add__", "__add__", "Fraction.__add__", s_Fraction_add, []⟩
def dx_Fraction_radd : DX := ⟨fun K => He.ma K (He.ga K "Fraction") "__radd__", "__radd__", "Fraction.__radd__", s_Fraction_radd, []⟩
def dx_Fraction_sub : DX := ⟨fun K => He.ma K (He.ga K "Fraction") "__sub__", "__sub__", "Fraction.__sub__", s_Fraction_sub, []⟩
def dx_Fraction_rsub : DX := ⟨fun K => He.ma K (He.ga K "Fraction") "__rsub__", "__rsub__", "Fraction.__rsub__", s_Fraction_rsub, []⟩
def dx_Fraction_mul : DX := ⟨fun K => He.ma K (He.ga K "Fraction") "__mul__", "__mul__", "Fraction.__mul__", s_Fraction_mul, []⟩
def dx_Fraction_rmul : DX := ⟨fun K => He.ma K (He.ga K "Fraction") "__rmul__", "__rmul__", "Fraction.__rmul__", s_Fraction_rmul, []⟩
def dx_Fraction_neg : DX := ⟨fun K => He.ma K (He.ga K "Fraction") "__neg__", "__neg__", "Fraction.__neg__", s_Fraction_neg, []⟩
def dx_Fraction_abs : DX := ⟨fun K => He.ma K (He.ga K "Fraction") "__abs__", "__abs__", "Fraction.__abs__", s_Fraction_abs, []⟩
def dx_Fraction_eq : DX := ⟨fun K => He.ma K (He.ga K "Fraction") "__eq__", "__eq__", "Fraction.__eq__", s_Fraction_eq, []⟩
def dx_Fraction_str : DX := ⟨fun K => He.ma K (He.ga K "Fraction") "__str__", "__str__", "Fraction.__str__", s_Fraction_str, []⟩
def dx__law_dice : DX := ⟨fun K => He.ga K "_law_dice", "_law_dice", "_law_dice", s__law_dice, []⟩
def dx__law_roll : DX := ⟨fun K => He.ga K "_law_roll", "_law_roll", "_law_roll", s__law_roll, []⟩
def dx__law_one_of : DX := ⟨fun K => He.ga K "_law_one_of", "_law_one_of", "_law_one_of", s__law_one_of, []⟩
def dx__law_gcd : DX := ⟨fun K => He.ga K "_law_gcd", "_law_gcd", "_law_gcd", s__law_gcd, []⟩
def dx__law_ratio : DX := ⟨fun K => He.ga K "_law_ratio", "_law_ratio", "_law_ratio", s__law_ratio, []⟩
def dx__law_integer : DX := ⟨fun K => He.ga K "_law_integer", "_law_integer", "_law_integer", s__law_integer, []⟩
def dx__law_couple : DX := ⟨fun K => He.ga K "_law_couple", "_law_couple", "_law_couple", s__law_couple, []⟩
def dx__law_pair : DX := ⟨fun K => He.ga K "_law_pair", "_law_pair", "_law_pair", s__law_pair, []⟩
def dx__law_told : DX := ⟨fun K => He.ga K "_law_told", "_law_told", "_law_told", s__law_told, []⟩
def dx__law_made_right : DX := ⟨fun K => He.ga K "_law_made_right", "_law_made_right", "_law_made_right", s__law_made_right, []⟩
def dx__law_equal_right : DX := ⟨fun K => He.ga K "_law_equal_right", "_law_equal_right", "_law_equal_right", s__law_equal_right, []⟩
def dx_law : DX := ⟨fun K => He.ga K "law", "law", "law", s_law, []⟩
def fa0 : List He.Fa := [.glo "Fraction", .noat "Fraction" "own_bottom", .noat "Fraction" "own_top", .glo "is_integer", .glo "common_divisor", .glo "power_in", .mkr "Fraction", .glo "is_fraction", .glo "require_fraction", .glo "fraction_of", .glo "required", .meth "Fraction" "power", .meth "Fraction" "__add__", .meth "Fraction" "__radd__", .meth "Fraction" "__sub__", .meth "Fraction" "__rsub__", .meth "Fraction" "__mul__", .meth "Fraction" "__rmul__", .meth "Fraction" "__neg__", .meth "Fraction" "__abs__", .meth "Fraction" "__eq__", .meth "Fraction" "__str__", .glo "_law_dice", .glo "_law_roll", .glo "_law_one_of", .glo "_law_gcd", .glo "_law_ratio", .glo "_law_integer", .glo "_law_couple", .glo "_law_pair"]
def fa1 : List He.Fa := [.glo "_law_told", .glo "_law_made_right", .glo "_law_equal_right", .glo "law", .free "isinstance", .free "int", .free "bool", .free "abs", .free "max", .free "min", .free "len", .free "range", .free "str", .free "repr", .int "MAX_POWER" 64]
def fa : List He.Fa := fa0 ++ fa1
def ex0 : List (PySem.W.Frag → Bool) := [kclsB "Fraction", propB "Fraction" "top", propB "Fraction" "bottom", binB "Fraction" "add" "__add__" "__radd__", binB "Fraction" "sub" "__sub__" "__rsub__", binB "Fraction" "mul" "__mul__" "__rmul__", eqB "Fraction", kitB (fun K => .ref (He.ga K "Fraction")) (fun _ => .type (BT.int).nm), kitB (fun K => .ref (He.ga K "Fraction")) (fun _ => .type (BT.bool).nm), isCB "Fraction"]
def ex : List (PySem.W.Frag → Bool) := ex0
def fn0 : List DX := [dx_is_integer, dx_common_divisor, dx_power_in, dx_Fraction_init, dx_Fraction_top, dx_Fraction_bottom, dx_is_fraction, dx_require_fraction, dx_fraction_of, dx_required, dx_Fraction_power, dx_Fraction_add, dx_Fraction_radd, dx_Fraction_sub, dx_Fraction_rsub, dx_Fraction_mul, dx_Fraction_rmul, dx_Fraction_neg, dx_Fraction_abs, dx_Fraction_eq, dx_Fraction_str, dx__law_dice, dx__law_roll, dx__law_one_of, dx__law_gcd, dx__law_ratio, dx__law_integer, dx__law_couple, dx__law_pair, dx__law_told]
def fn1 : List DX := [dx__law_made_right, dx__law_equal_right, dx_law]
def fn : List DX := fn0 ++ fn1
def lo0 : List Str := ["_wall", "EndError", "InvalidFraction", "InvalidNumber", "MAX_POWER", "is_integer", "common_divisor", "power_in", "Fraction", "is_fraction", "require_fraction", "fraction_of", "required", "_law_dice", "_law_roll", "_law_one_of", "_law_gcd", "_law_ratio", "_law_integer", "_law_couple", "_law_pair", "_law_told", "_law_made_right", "_law_equal_right"]
def lo : List Str := lo0
abbrev R : PySem.W.OpenRow := PySem.W.OpenLaw.row PySem.Challenge.rw_surelyends_k01_fractions_as_values
abbrev hk : PySem.W.Hook := hookX 6 fa ex fn
def ob (s : PySem.W.SharedT) : AlX := obsXG 6 fa ex fn (HandSHeadRun.getT s)
theorem ob_eq (s : PySem.W.SharedT) : ob s = hk.obs s.abs := obsXG_eq (HandSHeadRun.getT_eq s)
theorem run (w : World) : HandSHeadRun.RunEq R (PySem.W.view R.prog [27]) hk ob 4000 lo w := by
  intro os
  kernel_rfl
theorem facts {K : PySem.W.Frag} {h : Heap} {mg : Str → Option Value} (X : K.In h) (G : h.Ns mainGlobals mg) (c : SaysX fa ex fn K) : ∃ A : Ad, Txt K mg A ∧ A.f_law = He.ga K "law" := by
  obtain ⟨d_is_integer, F_is_integer⟩ := c.def_ 0 (d := dx_is_integer) rfl
  obtain ⟨d_common_divisor, F_common_divisor⟩ := c.def_ 1 (d := dx_common_divisor) rfl
  obtain ⟨d_power_in, F_power_in⟩ := c.def_ 2 (d := dx_power_in) rfl
  obtain ⟨d_Fraction_init, F_Fraction_init⟩ := c.def_ 3 (d := dx_Fraction_init) rfl
  obtain ⟨w_Fraction_init, y_Fraction_init, z_Fraction_init⟩ := FunD.binds1 (ps := ["self", "top", "bottom"]) F_Fraction_init 3 1 (List.cons_ne_nil _ _) rfl fun _ _ _ _ _ _ _ us its h1 h2 => match us, its, h1, h2 with | [_, _, _], [_], _, _ => ⟨_, rfl, rfl⟩
  cases y_Fraction_init
  obtain ⟨w_Fraction_init_2, y_Fraction_init_2, z_Fraction_init_2⟩ := FunD.binds1 (ps := ["self", "top", "bottom"]) F_Fraction_init 2 0 (List.cons_ne_nil _ _) rfl fun _ _ _ _ _ _ _ us its h1 h2 => match us, its, h1, h2 with | [_, _], [_], _, _ => ⟨_, rfl, rfl⟩
  obtain ⟨d_Fraction_top, F_Fraction_top⟩ := c.def_ 4 (d := dx_Fraction_top) rfl
  obtain ⟨d_Fraction_bottom, F_Fraction_bottom⟩ := c.def_ 5 (d := dx_Fraction_bottom) rfl
  obtain ⟨d_is_fraction, F_is_fraction⟩ := c.def_ 6 (d := dx_is_fraction) rfl
  obtain ⟨d_require_fraction, F_require_fraction⟩ := c.def_ 7 (d := dx_require_fraction) rfl
  obtain ⟨d_fraction_of, F_fraction_of⟩ := c.def_ 8 (d := dx_fraction_of) rfl
  obtain ⟨d_required, F_required⟩ := c.def_ 9 (d := dx_required) rfl
  obtain ⟨d_Fraction_power, F_Fraction_power⟩ := c.def_ 10 (d := dx_Fraction_power) rfl
  obtain ⟨d_Fraction_add, F_Fraction_add⟩ := c.def_ 11 (d := dx_Fraction_add) rfl
  obtain ⟨d_Fraction_radd, F_Fraction_radd⟩ := c.def_ 12 (d := dx_Fraction_radd) rfl
  obtain ⟨d_Fraction_sub, F_Fraction_sub⟩ := c.def_ 13 (d := dx_Fraction_sub) rfl
  obtain ⟨d_Fraction_rsub, F_Fraction_rsub⟩ := c.def_ 14 (d := dx_Fraction_rsub) rfl
  obtain ⟨d_Fraction_mul, F_Fraction_mul⟩ := c.def_ 15 (d := dx_Fraction_mul) rfl
  obtain ⟨d_Fraction_rmul, F_Fraction_rmul⟩ := c.def_ 16 (d := dx_Fraction_rmul) rfl
  obtain ⟨d_Fraction_neg, F_Fraction_neg⟩ := c.def_ 17 (d := dx_Fraction_neg) rfl
  obtain ⟨d_Fraction_abs, F_Fraction_abs⟩ := c.def_ 18 (d := dx_Fraction_abs) rfl
  obtain ⟨d_Fraction_eq, F_Fraction_eq⟩ := c.def_ 19 (d := dx_Fraction_eq) rfl
  obtain ⟨d_Fraction_str, F_Fraction_str⟩ := c.def_ 20 (d := dx_Fraction_str) rfl
  obtain ⟨d__law_dice, F__law_dice⟩ := c.def_ 21 (d := dx__law_dice) rfl
  obtain ⟨d__law_roll, F__law_roll⟩ := c.def_ 22 (d := dx__law_roll) rfl
  obtain ⟨d__law_one_of, F__law_one_of⟩ := c.def_ 23 (d := dx__law_one_of) rfl
  obtain ⟨d__law_gcd, F__law_gcd⟩ := c.def_ 24 (d := dx__law_gcd) rfl
  obtain ⟨d__law_ratio, F__law_ratio⟩ := c.def_ 25 (d := dx__law_ratio) rfl
  obtain ⟨d__law_integer, F__law_integer⟩ := c.def_ 26 (d := dx__law_integer) rfl
  obtain ⟨d__law_couple, F__law_couple⟩ := c.def_ 27 (d := dx__law_couple) rfl
  obtain ⟨d__law_pair, F__law_pair⟩ := c.def_ 28 (d := dx__law_pair) rfl
  obtain ⟨d__law_told, F__law_told⟩ := c.def_ 29 (d := dx__law_told) rfl
  obtain ⟨d__law_made_right, F__law_made_right⟩ := c.def_ 30 (d := dx__law_made_right) rfl
  obtain ⟨d__law_equal_right, F__law_equal_right⟩ := c.def_ 31 (d := dx__law_equal_right) rfl
  obtain ⟨d_law, F_law⟩ := c.def_ 32 (d := dx_law) rfl
  obtain ⟨u_MAX_POWER, h_MAX_POWER⟩ := He.int_ok X G (c.fact 44 (f := .int "MAX_POWER" 64) rfl)
  exact ⟨{
    f_is_integer := He.ga K "is_integer",
    d_is_integer := d_is_integer,
    f_common_divisor := He.ga K "common_divisor",
    d_common_divisor := d_common_divisor,
    f_power_in := He.ga K "power_in",
    d_power_in := d_power_in,
    f_Fraction_init := He.ma K (He.ga K "Fraction") "__init__",
    d_Fraction_init := d_Fraction_init,
    v_Fraction_init_2 := w_Fraction_init_2,
    f_Fraction_top := gAd K "Fraction" "top",
    d_Fraction_top := d_Fraction_top,
    p_Fraction_top := He.ma K (He.ga K "Fraction") "top",
    f_Fraction_bottom := gAd K "Fraction" "bottom",
    d_Fraction_bottom := d_Fraction_bottom,
    p_Fraction_bottom := He.ma K (He.ga K "Fraction") "bottom",
    f_is_fraction := He.ga K "is_fraction",
    d_is_fraction := d_is_fraction,
    f_require_fraction := He.ga K "require_fraction",
    d_require_fraction := d_require_fraction,
    f_fraction_of := He.ga K "fraction_of",
    d_fraction_of := d_fraction_of,
    f_required := He.ga K "required",
    d_required := d_required,
    f_Fraction_power := He.ma K (He.ga K "Fraction") "power",
    d_Fraction_power := d_Fraction_power,
    f_Fraction_add := He.ma K (He.ga K "Fraction") "__add__",
    d_Fraction_add := d_Fraction_add,
    f_Fraction_radd := He.ma K (He.ga K "Fraction") "__radd__",
    d_Fraction_radd := d_Fraction_radd,
    f_Fraction_sub := He.ma K (He.ga K "Fraction") "__sub__",
    d_Fraction_sub := d_Fraction_sub,
    f_Fraction_rsub := He.ma K (He.ga K "Fraction") "__rsub__",
    d_Fraction_rsub := d_Fraction_rsub,
    f_Fraction_mul := He.ma K (He.ga K "Fraction") "__mul__",
    d_Fraction_mul := d_Fraction_mul,
    f_Fraction_rmul := He.ma K (He.ga K "Fraction") "__rmul__",
    d_Fraction_rmul := d_Fraction_rmul,
    f_Fraction_neg := He.ma K (He.ga K "Fraction") "__neg__",
    d_Fraction_neg := d_Fraction_neg,
    f_Fraction_abs := He.ma K (He.ga K "Fraction") "__abs__",
    d_Fraction_abs := d_Fraction_abs,
    f_Fraction_eq := He.ma K (He.ga K "Fraction") "__eq__",
    d_Fraction_eq := d_Fraction_eq,
    f_Fraction_str := He.ma K (He.ga K "Fraction") "__str__",
    d_Fraction_str := d_Fraction_str,
    f__law_dice := He.ga K "_law_dice",
    d__law_dice := d__law_dice,
    f__law_roll := He.ga K "_law_roll",
    d__law_roll := d__law_roll,
    f__law_one_of := He.ga K "_law_one_of",
    d__law_one_of := d__law_one_of,
    f__law_gcd := He.ga K "_law_gcd",
    d__law_gcd := d__law_gcd,
    f__law_ratio := He.ga K "_law_ratio",
    d__law_ratio := d__law_ratio,
    f__law_integer := He.ga K "_law_integer",
    d__law_integer := d__law_integer,
    f__law_couple := He.ga K "_law_couple",
    d__law_couple := d__law_couple,
    f__law_pair := He.ga K "_law_pair",
    d__law_pair := d__law_pair,
    f__law_told := He.ga K "_law_told",
    d__law_told := d__law_told,
    f__law_made_right := He.ga K "_law_made_right",
    d__law_made_right := d__law_made_right,
    f__law_equal_right := He.ga K "_law_equal_right",
    d__law_equal_right := d__law_equal_right,
    f_law := He.ga K "law",
    d_law := d_law,
    u_MAX_POWER := u_MAX_POWER }, {
    g_Fraction := He.glo_ok X G (c.fact 0 (f := .glo "Fraction") rfl),
    cl_Fraction := kclsB_ok (c.own 0 (f := kclsB "Fraction") rfl),
    na_Fraction_own_bottom := He.noat_ok (c.fact 1 (f := .noat "Fraction" "own_bottom") rfl),
    na_Fraction_own_top := He.noat_ok (c.fact 2 (f := .noat "Fraction" "own_top") rfl),
    f_is_integer := F_is_integer,
    b_is_integer := FunD.bindsN (ps := ["value"]) F_is_integer fun _ _ _ _ _ _ us hl => match us, hl with | [_], _ => rfl,
    g_is_integer := He.glo_ok X G (c.fact 3 (f := .glo "is_integer") rfl),
    f_common_divisor := F_common_divisor,
    b_common_divisor := FunD.bindsN (ps := ["number", "other"]) F_common_divisor fun _ _ _ _ _ _ us hl => match us, hl with | [_, _], _ => rfl,
    g_common_divisor := He.glo_ok X G (c.fact 4 (f := .glo "common_divisor") rfl),
    f_power_in := F_power_in,
    b_power_in := FunD.bindsN (ps := ["number", "many"]) F_power_in fun _ _ _ _ _ _ us hl => match us, hl with | [_, _], _ => rfl,
    g_power_in := He.glo_ok X G (c.fact 5 (f := .glo "power_in") rfl),
    f_Fraction_init := F_Fraction_init,
    b_Fraction_init := z_Fraction_init,
    dv_Fraction_init_2 := y_Fraction_init_2,
    b_Fraction_init_2 := z_Fraction_init_2,
    mk_Fraction := He.mkr_ok (c.fact 6 (f := .mkr "Fraction") rfl),
    f_Fraction_top := F_Fraction_top,
    b_Fraction_top := FunD.bindsN (ps := ["self"]) F_Fraction_top fun _ _ _ _ _ _ us hl => match us, hl with | [_], _ => rfl,
    pr_Fraction_top := propB_ok (c.own 1 (f := propB "Fraction" "top") rfl),
    f_Fraction_bottom := F_Fraction_bottom,
    b_Fraction_bottom := FunD.bindsN (ps := ["self"]) F_Fraction_bottom fun _ _ _ _ _ _ us hl => match us, hl with | [_], _ => rfl,
    pr_Fraction_bottom := propB_ok (c.own 2 (f := propB "Fraction" "bottom") rfl),
    f_is_fraction := F_is_fraction,
    b_is_fraction := FunD.bindsN (ps := ["value"]) F_is_fraction fun _ _ _ _ _ _ us hl => match us, hl with | [_], _ => rfl,
    g_is_fraction := He.glo_ok X G (c.fact 7 (f := .glo "is_fraction") rfl),
    f_require_fraction := F_require_fraction,
    b_require_fraction := FunD.bindsN (ps := ["value"]) F_require_fraction fun _ _ _ _ _ _ us hl => match us, hl with | [_], _ => rfl,
    g_require_fraction := He.glo_ok X G (c.fact 8 (f := .glo "require_fraction") rfl),
    f_fraction_of := F_fraction_of,
    b_fraction_of := FunD.bindsN (ps := ["value"]) F_fraction_of fun _ _ _ _ _ _ us hl => match us, hl with | [_], _ => rfl,
    g_fraction_of := He.glo_ok X G (c.fact 9 (f := .glo "fraction_of") rfl),
    f_required := F_required,
    b_required := FunD.bindsN (ps := ["value"]) F_required fun _ _ _ _ _ _ us hl => match us, hl with | [_], _ => rfl,
    g_required := He.glo_ok X G (c.fact 10 (f := .glo "required") rfl),
    f_Fraction_power := F_Fraction_power,
    b_Fraction_power := FunD.bindsN (ps := ["self", "many"]) F_Fraction_power fun _ _ _ _ _ _ us hl => match us, hl with | [_, _], _ => rfl,
    me_Fraction_power := He.meth_ok (c.fact 11 (f := .meth "Fraction" "power") rfl),
    f_Fraction_add := F_Fraction_add,
    b_Fraction_add := FunD.bindsN (ps := ["self", "other"]) F_Fraction_add fun _ _ _ _ _ _ us hl => match us, hl with | [_, _], _ => rfl,
    me_Fraction_add := He.meth_ok (c.fact 12 (f := .meth "Fraction" "__add__") rfl),
    f_Fraction_radd := F_Fraction_radd,
    b_Fraction_radd := FunD.bindsN (ps := ["self", "other"]) F_Fraction_radd fun _ _ _ _ _ _ us hl => match us, hl with | [_, _], _ => rfl,
    me_Fraction_radd := He.meth_ok (c.fact 13 (f := .meth "Fraction" "__radd__") rfl),
    f_Fraction_sub := F_Fraction_sub,
    b_Fraction_sub := FunD.bindsN (ps := ["self", "other"]) F_Fraction_sub fun _ _ _ _ _ _ us hl => match us, hl with | [_, _], _ => rfl,
    me_Fraction_sub := He.meth_ok (c.fact 14 (f := .meth "Fraction" "__sub__") rfl),
    f_Fraction_rsub := F_Fraction_rsub,
    b_Fraction_rsub := FunD.bindsN (ps := ["self", "other"]) F_Fraction_rsub fun _ _ _ _ _ _ us hl => match us, hl with | [_, _], _ => rfl,
    me_Fraction_rsub := He.meth_ok (c.fact 15 (f := .meth "Fraction" "__rsub__") rfl),
    f_Fraction_mul := F_Fraction_mul,
    b_Fraction_mul := FunD.bindsN (ps := ["self", "other"]) F_Fraction_mul fun _ _ _ _ _ _ us hl => match us, hl with | [_, _], _ => rfl,
    me_Fraction_mul := He.meth_ok (c.fact 16 (f := .meth "Fraction" "__mul__") rfl),
    f_Fraction_rmul := F_Fraction_rmul,
    b_Fraction_rmul := FunD.bindsN (ps := ["self", "other"]) F_Fraction_rmul fun _ _ _ _ _ _ us hl => match us, hl with | [_, _], _ => rfl,
    me_Fraction_rmul := He.meth_ok (c.fact 17 (f := .meth "Fraction" "__rmul__") rfl),
    f_Fraction_neg := F_Fraction_neg,
    b_Fraction_neg := FunD.bindsN (ps := ["self"]) F_Fraction_neg fun _ _ _ _ _ _ us hl => match us, hl with | [_], _ => rfl,
    me_Fraction_neg := He.meth_ok (c.fact 18 (f := .meth "Fraction" "__neg__") rfl),
    f_Fraction_abs := F_Fraction_abs,
    b_Fraction_abs := FunD.bindsN (ps := ["self"]) F_Fraction_abs fun _ _ _ _ _ _ us hl => match us, hl with | [_], _ => rfl,
    me_Fraction_abs := He.meth_ok (c.fact 19 (f := .meth "Fraction" "__abs__") rfl),
    f_Fraction_eq := F_Fraction_eq,
    b_Fraction_eq := FunD.bindsN (ps := ["self", "other"]) F_Fraction_eq fun _ _ _ _ _ _ us hl => match us, hl with | [_, _], _ => rfl,
    me_Fraction_eq := He.meth_ok (c.fact 20 (f := .meth "Fraction" "__eq__") rfl),
    f_Fraction_str := F_Fraction_str,
    b_Fraction_str := FunD.bindsN (ps := ["self"]) F_Fraction_str fun _ _ _ _ _ _ us hl => match us, hl with | [_], _ => rfl,
    me_Fraction_str := He.meth_ok (c.fact 21 (f := .meth "Fraction" "__str__") rfl),
    f__law_dice := F__law_dice,
    b__law_dice := FunD.bindsN (ps := ["_law_script", "_law_at"]) F__law_dice fun _ _ _ _ _ _ us hl => match us, hl with | [_, _], _ => rfl,
    g__law_dice := He.glo_ok X G (c.fact 22 (f := .glo "_law_dice") rfl),
    f__law_roll := F__law_roll,
    b__law_roll := FunD.bindsN (ps := ["_law_dice_here", "_law_total"]) F__law_roll fun _ _ _ _ _ _ us hl => match us, hl with | [_, _], _ => rfl,
    g__law_roll := He.glo_ok X G (c.fact 23 (f := .glo "_law_roll") rfl),
    f__law_one_of := F__law_one_of,
    b__law_one_of := FunD.bindsN (ps := ["_law_dice_here", "_law_items"]) F__law_one_of fun _ _ _ _ _ _ us hl => match us, hl with | [_, _], _ => rfl,
    g__law_one_of := He.glo_ok X G (c.fact 24 (f := .glo "_law_one_of") rfl),
    f__law_gcd := F__law_gcd,
    b__law_gcd := FunD.bindsN (ps := ["_law_one", "_law_two"]) F__law_gcd fun _ _ _ _ _ _ us hl => match us, hl with | [_, _], _ => rfl,
    g__law_gcd := He.glo_ok X G (c.fact 25 (f := .glo "_law_gcd") rfl),
    f__law_ratio := F__law_ratio,
    b__law_ratio := FunD.bindsN (ps := ["_law_top", "_law_bottom"]) F__law_ratio fun _ _ _ _ _ _ us hl => match us, hl with | [_, _], _ => rfl,
    g__law_ratio := He.glo_ok X G (c.fact 26 (f := .glo "_law_ratio") rfl),
    f__law_integer := F__law_integer,
    b__law_integer := FunD.bindsN (ps := ["_law_dice_here"]) F__law_integer fun _ _ _ _ _ _ us hl => match us, hl with | [_], _ => rfl,
    g__law_integer := He.glo_ok X G (c.fact 27 (f := .glo "_law_integer") rfl),
    f__law_couple := F__law_couple,
    b__law_couple := FunD.bindsN (ps := ["_law_dice_here"]) F__law_couple fun _ _ _ _ _ _ us hl => match us, hl with | [_], _ => rfl,
    g__law_couple := He.glo_ok X G (c.fact 28 (f := .glo "_law_couple") rfl),
    f__law_pair := F__law_pair,
    b__law_pair := FunD.bindsN (ps := ["_law_top", "_law_bottom"]) F__law_pair fun _ _ _ _ _ _ us hl => match us, hl with | [_, _], _ => rfl,
    g__law_pair := He.glo_ok X G (c.fact 29 (f := .glo "_law_pair") rfl),
    f__law_told := F__law_told,
    b__law_told := FunD.bindsN (ps := ["_law_thing"]) F__law_told fun _ _ _ _ _ _ us hl => match us, hl with | [_], _ => rfl,
    g__law_told := He.glo_ok X G (c.fact 30 (f := .glo "_law_told") rfl),
    f__law_made_right := F__law_made_right,
    b__law_made_right := FunD.bindsN (ps := ["_law_dice_here"]) F__law_made_right fun _ _ _ _ _ _ us hl => match us, hl with | [_], _ => rfl,
    g__law_made_right := He.glo_ok X G (c.fact 31 (f := .glo "_law_made_right") rfl),
    f__law_equal_right := F__law_equal_right,
    b__law_equal_right := FunD.bindsN (ps := ["_law_dice_here"]) F__law_equal_right fun _ _ _ _ _ _ us hl => match us, hl with | [_], _ => rfl,
    g__law_equal_right := He.glo_ok X G (c.fact 32 (f := .glo "_law_equal_right") rfl),
    f_law := F_law,
    b_law := FunD.bindsN (ps := ["_law_script"]) F_law fun _ _ _ _ _ _ us hl => match us, hl with | [_], _ => rfl,
    g_law := He.glo_ok X G (c.fact 33 (f := .glo "law") rfl),
    bn_Fraction_add := binB_ok (c.own 3 (f := binB "Fraction" "add" "__add__" "__radd__") rfl),
    bn_Fraction_sub := binB_ok (c.own 4 (f := binB "Fraction" "sub" "__sub__" "__rsub__") rfl),
    bn_Fraction_mul := binB_ok (c.own 5 (f := binB "Fraction" "mul" "__mul__" "__rmul__") rfl),
    eq_Fraction := eqB_ok (c.own 6 (f := eqB "Fraction") rfl),
    n_isinstance := He.free_ok X G (c.fact 34 (f := .free "isinstance") rfl),
    n_int := He.free_ok X G (c.fact 35 (f := .free "int") rfl),
    n_bool := He.free_ok X G (c.fact 36 (f := .free "bool") rfl),
    n_abs := He.free_ok X G (c.fact 37 (f := .free "abs") rfl),
    n_max := He.free_ok X G (c.fact 38 (f := .free "max") rfl),
    n_min := He.free_ok X G (c.fact 39 (f := .free "min") rfl),
    n_len := He.free_ok X G (c.fact 40 (f := .free "len") rfl),
    n_range := He.free_ok X G (c.fact 41 (f := .free "range") rfl),
    n_str := He.free_ok X G (c.fact 42 (f := .free "str") rfl),
    n_repr := He.free_ok X G (c.fact 43 (f := .free "repr") rfl),
    g_MAX_POWER := h_MAX_POWER,
    isB_int := (List.forall_mem_cons.mpr ⟨⟨kclsB_ok (c.own 0 (f := kclsB "Fraction") rfl), kitB_ok (c.own 7 (f := kitB (fun K => .ref (He.ga K "Fraction")) (fun _ => .type (BT.int).nm)) rfl)⟩, (fun _ h => by cases h)⟩),
    isB_bool := (List.forall_mem_cons.mpr ⟨⟨kclsB_ok (c.own 0 (f := kclsB "Fraction") rfl), kitB_ok (c.own 8 (f := kitB (fun K => .ref (He.ga K "Fraction")) (fun _ => .type (BT.bool).nm)) rfl)⟩, (fun _ h => by cases h)⟩),
    isC_Fraction := isCB_ok (c.own 9 (f := isCB "Fraction") rfl),
    isO_Fraction := (fun _ h => by cases h) }, rfl⟩
end K01
set_option Elab.async false
set_option linter.all false
set_option maxRecDepth 100000
set_option maxHeartbeats 4000000
namespace K01
open PySem PySem.Spec PyProof.Rows L2 L3
local macro_rules
  | `(tactic| infer_instance) => `(tactic| first
    | with_reducible apply T_seq | with_reducible apply T_setN | with_reducible apply T_set | with_reducible apply T_setO | with_reducible apply T_ret | with_reducible apply T_retO | with_reducible apply T_ifS | with_reducible apply T_par | with_reducible apply T_par3 | with_reducible apply T_drop | with_reducible apply T_skip | with_reducible apply T_for
    | ((with_reducible apply T_var); exact rfl) | ((with_reducible apply T_dat); exact rfl) | ((with_reducible apply T_dato); exact rfl) | with_reducible apply T_c | with_reducible apply T_op | with_reducible apply T_un | with_reducible apply T_cb | with_reducible apply T_args1 | with_reducible apply T_args0 | with_reducible apply T_test | with_reducible apply T_not | with_reducible apply T_and | with_reducible apply T_or | with_reducible apply T_andV | with_reducible apply T_orV | with_reducible apply T_notV | with_reducible apply T_if | with_reducible apply T_both | with_reducible apply T_frz
    | with_reducible apply T_lst | ((with_reducible apply T_tup)) | with_reducible apply T_items | with_reducible apply T_itemsN
    | with_reducible apply T_call | with_reducible apply T_callO | with_reducible apply T_mk | with_reducible apply T_mthD | with_reducible apply T_prop | with_reducible apply T_opI | with_reducible apply T_unI | with_reducible apply T_cbI | with_reducible apply T_strI | with_reducible apply T_fs | with_reducible apply T_js1 | with_reducible apply T_js0
    | with_reducible apply T_ags1 | with_reducible apply T_ags0 | ((with_reducible apply T_agsS); exact rfl)
    | ((with_reducible apply T_fldS); exact rfl) | with_reducible apply T_setF | ((with_reducible apply T_ixS); exact rfl) | with_reducible apply T_setIx | ((with_reducible apply T_app); exact rfl) | ((with_reducible apply T_lenS); exact rfl)
    | ((with_reducible apply T_calS); exact rfl; exact rfl; exact rfl) | ((with_reducible apply T_cal); exact rfl; exact rfl) | with_reducible apply L_recvP | with_reducible apply gdx
    | with_reducible apply T_callD | with_reducible apply T_opII | with_reducible apply T_opIi | with_reducible apply T_opiI | with_reducible apply T_unI1 | with_reducible apply T_cbI1 | with_reducible apply T_strI1
    | with_reducible apply T_eqI | with_reducible apply T_dct0 | with_reducible apply T_comp2 | with_reducible apply TC2 | with_reducible apply TC0 | with_reducible apply L_repr | with_reducible apply L_rep
    | with_reducible apply c_tt | with_reducible apply c_ff
    | with_reducible apply L_asB | with_reducible apply L_asD | with_reducible apply L_asO | with_reducible apply L_add | with_reducible apply L_sub | with_reducible apply L_mul | with_reducible apply L_fdiv | with_reducible apply L_mod | with_reducible apply L_pow | with_reducible apply L_lt | with_reducible apply L_le | with_reducible apply L_gt | with_reducible apply L_ge | with_reducible apply L_eq | with_reducible apply L_ne | with_reducible apply L_eqS | with_reducible apply L_neS
    | with_reducible apply L_neg | with_reducible apply L_abs | with_reducible apply L_int | with_reducible apply L_intB | with_reducible apply L_max | with_reducible apply L_min | with_reducible apply L_lenL | with_reducible apply L_lenR | with_reducible apply L_lenT | with_reducible apply L_tupL | with_reducible apply L_tupT | with_reducible apply L_cat
    | with_reducible apply L_isI_i | with_reducible apply L_isB_i | with_reducible apply L_isT_i | with_reducible apply L_isI_b | with_reducible apply L_isB_b | with_reducible apply L_isT_t | with_reducible apply L_isI_t | with_reducible apply L_isBC | with_reducible apply L_isCI | with_reducible apply L_isCC | ((with_reducible apply L_fld); exact rfl) | ((with_reducible apply L_fldO); exact rfl) | ((with_reducible apply L_recv); exact rfl)
    | ((with_reducible apply L_ixL); exact rfl) | ((with_reducible apply L_ixR); exact rfl) | ((with_reducible apply L_ixT); exact rfl) | ((with_reducible apply L_ixD); exact rfl) | ((with_reducible apply L_ixOf); exact rfl) | with_reducible apply L_lstD | with_reducible apply L_lstR | with_reducible apply L_tupD | with_reducible apply L_name | ((with_reducible apply L_pTup); exact rfl)
    | ((with_reducible apply f_d); exact le_lit rfl) | ((with_reducible apply f_n); exact le_lit rfl) | ((with_reducible apply fs_d); exact rfl; exact le_lit rfl) | ((with_reducible apply fs_n); exact rfl; exact le_lit rfl)
    | ((with_reducible refine And.intro ?_ ?_); (first | exact rfl | exact le_lit rfl)) | ((with_reducible apply ex_and); exact rfl))
abbrev frF (t b : Int) : List (Str × D) := [("own_top", .int t), ("own_bottom", .int b)]
abbrev fr (t b : Int) : D := .ins 0 (frF t b)
abbrev pr (t b : Int) : D := .tup [.int t, .int b]
def nt (t b : Int) : Int := (if 0 < b then t else -t) / (t.gcd b)
def nb (t b : Int) : Int := b.natAbs / t.gcd b
section
variable {i t b : Int}
theorem sp_is_integer_i : GD g_is_integer [.int i] (.bl true) := by
  refine GD_of ?_
  unfold m_is_integer
  repeat infer_instance
theorem sp_is_integer_f : GD g_is_integer [fr t b] (.bl false) := by
  refine GD_of ?_
  unfold m_is_integer
  repeat infer_instance
theorem sp_gcd (ha : 0 ≤ t) (hb : 0 ≤ b) : GD g_common_divisor [.int t, .int b] (.int (t.gcd b)) := gd_gcd1 ha hb
theorem sp_lgcd (ha : 0 ≤ t) (hb : 0 ≤ b) : GD g__law_gcd [.int t, .int b] (.int (t.gcd b)) := gd_gcd2 ha hb
theorem gcd_abs : (t.natAbs : Int).gcd (b.natAbs : Int) = t.gcd b := rfl
theorem gcd_abs1 : (t.natAbs : Int).gcd b = t.gcd b := rfl
theorem gcd_nn : (0 : Int) ≤ (t.gcd b : Int) := Int.natCast_nonneg _
theorem mk_fr {Q : OB → Prop} (q : Q (.ins 0 (frF (nt t b) (nb t b)))) (hb : b ≠ 0) (hg : divOk (t.gcd b) = true) : GS g_Fraction_init (.ins 0 []) [.int t, .int b] fun r o => r = .dat .non ∧ Q o := by
  refine GS_of ?_
  unfold m_Fraction_init
  repeat infer_instance
  · exact sp_is_integer_i
  repeat infer_instance
  · exact sp_is_integer_i
  repeat infer_instance
  refine c_f (by simp [hb]) ?_
  repeat infer_instance
  · exact sp_gcd (Int.natCast_nonneg _) (Int.natCast_nonneg _)
  repeat infer_instance
  by_cases h0 : 0 < b
  · refine c_t (by simp only [h0, decide_true]) ?_
    repeat infer_instance
    · show Q (.ins 0 [("own_top", .int (t.fdiv (t.gcd b))), ("own_bottom", .int ((b.natAbs : Int).fdiv (t.gcd b)))])
      unfold nt nb at q
      rw [if_pos h0] at q
      rw [Int.fdiv_eq_ediv_of_nonneg _ gcd_nn, Int.fdiv_eq_ediv_of_nonneg _ gcd_nn]
      exact q
    all_goals exact hg
  · refine c_f (by simp only [h0, decide_false]) ?_
    repeat infer_instance
    · show Q (.ins 0 [("own_top", .int ((-t).fdiv (t.gcd b))), ("own_bottom", .int ((b.natAbs : Int).fdiv (t.gcd b)))])
      unfold nt nb at q
      rw [if_neg h0] at q
      rw [Int.fdiv_eq_ediv_of_nonneg _ gcd_nn, Int.fdiv_eq_ediv_of_nonneg _ gcd_nn]
      exact q
    all_goals exact hg
theorem nt_one : nt i 1 = i := by
  unfold nt
  rw [if_pos (by decide), Int.gcd_one_right]
  simp
theorem nb_one : nb i 1 = 1 := by
  unfold nb
  rw [Int.gcd_one_right]
  rfl
theorem one_ok : divOk ((i.gcd 1 : Nat) : Int) = true := by
  rw [Int.gcd_one_right]
  decide
theorem mk_int {Q : OB → Prop} (q : Q (.ins 0 (frF i 1))) : GS g_Fraction_init (.ins 0 []) [.int i, .int 1] fun r o => r = .dat .non ∧ Q o :=
  mk_fr (by rw [nt_one, nb_one]; exact q) (by decide) one_ok
theorem sp_top : GD g_Fraction_top [fr t b] (.int t) := by
  refine GD_of ?_
  unfold m_Fraction_top
  repeat infer_instance
theorem sp_bottom : GD g_Fraction_bottom [fr t b] (.int b) := by
  refine GD_of ?_
  unfold m_Fraction_bottom
  repeat infer_instance
theorem sp_told : GD g__law_told [fr t b] (pr t b) := by
  refine GD_of ?_
  unfold m__law_told
  repeat infer_instance
  · exact sp_top
  repeat infer_instance
  · exact sp_bottom
  repeat infer_instance
theorem sp_is_fraction_i : GD g_is_fraction [.int i] (.bl true) := by
  refine GD_of ?_
  unfold m_is_fraction
  repeat infer_instance
  · exact sp_is_integer_i
  repeat infer_instance
theorem sp_is_fraction_f : GD g_is_fraction [fr t b] (.bl true) := by
  refine GD_of ?_
  unfold m_is_fraction
  repeat infer_instance
theorem sp_require_i : GD g_require_fraction [.int i] .non := by
  refine GD_of ?_
  unfold m_require_fraction
  repeat infer_instance
  · exact sp_is_fraction_i
  repeat infer_instance
theorem sp_require_f : GD g_require_fraction [fr t b] .non := by
  refine GD_of ?_
  unfold m_require_fraction
  repeat infer_instance
  · exact sp_is_fraction_f
  repeat infer_instance
theorem sp_of_i : GD g_fraction_of [.int i] (fr i 1) := by
  refine GD_of ?_
  unfold m_fraction_of
  repeat infer_instance
  apply mk_int
  repeat infer_instance
theorem sp_of_f : GD g_fraction_of [fr t b] (fr t b) := by
  refine GD_of ?_
  unfold m_fraction_of
  repeat infer_instance
theorem sp_required_i : GD g_required [.int i] (fr i 1) := by
  refine GD_of ?_
  unfold m_required
  repeat infer_instance
  · exact sp_require_i
  repeat infer_instance
  · exact sp_of_i
  repeat infer_instance
theorem sp_required_f : GD g_required [fr t b] (fr t b) := by
  refine GD_of ?_
  unfold m_required
  repeat infer_instance
  · exact sp_require_f
  repeat infer_instance
  · exact sp_of_f
  repeat infer_instance
end
/-- a fraction in its least terms' form: bottom above 0, of so many bits -/
structure Q (n : Nat) (t b : Int) : Prop where
  st : Sz n t
  sb : Sz n b
  p : 0 < b
theorem Q.mono {n m : Nat} {t b : Int} (h : Q n t b) (k : n ≤ m) : Q m t b := ⟨h.st.mono k, h.sb.mono k, h.p⟩
theorem gcd_ok {n : Nat} {t b : Int} (h : Sz n b) (h0 : b ≠ 0) (l : n < 9000) : divOk (t.gcd b) = true := by
  have h1 : t.gcd b ≠ 0 := fun z => h0 (Int.gcd_eq_zero_iff.mp z).2
  have h2 : t.gcd b ≤ b.natAbs := Nat.le_of_dvd (by omega) (Int.natAbs_dvd_natAbs.mpr (Int.gcd_dvd_right t b))
  exact Sz.divOk (n := n) (h.le (by omega)) (by omega) l
theorem abs_ediv_le {t : Int} {g : Nat} (h : (g : Int) ∣ t) : (t / (g : Int)).natAbs ≤ t.natAbs := by
  obtain ⟨c, rfl⟩ := h
  by_cases hg : (g : Int) = 0
  · rw [hg]; simp
  · rw [Int.mul_ediv_cancel_left _ hg, Int.natAbs_mul]
    have : 1 ≤ (g : Int).natAbs := by omega
    exact Nat.le_mul_of_pos_left _ this
theorem nt_sz {n : Nat} {t b : Int} (h : Sz n t) : Sz n (nt t b) := by
  unfold nt
  split
  · exact h.le (abs_ediv_le (Int.gcd_dvd_left t b))
  · refine h.le ?_
    have := abs_ediv_le (t := -t) (Int.dvd_neg.mpr (Int.gcd_dvd_left t b))
    omega
theorem nb_sz {n : Nat} {t b : Int} (h : Sz n b) : Sz n (nb t b) := by
  unfold nb
  refine h.le ?_
  have := abs_ediv_le (t := (b.natAbs : Int)) (g := t.gcd b) (Int.dvd_natAbs.mpr (Int.gcd_dvd_right t b))
  omega
theorem nb_pos {t b : Int} (h : b ≠ 0) : 0 < nb t b := by
  unfold nb
  have hd : ((t.gcd b : Nat) : Int) ∣ (b.natAbs : Int) := Int.dvd_natAbs.mpr (Int.gcd_dvd_right t b)
  obtain ⟨c, e⟩ := hd
  have hg : ((t.gcd b : Nat) : Int) ≠ 0 := by
    have h1 : t.gcd b ≠ 0 := fun z => h (Int.gcd_eq_zero_iff.mp z).2
    omega
  rw [e, Int.mul_ediv_cancel_left _ hg]
  have hb : 0 < (b.natAbs : Int) := by omega
  have hg0 : 0 < ((t.gcd b : Nat) : Int) := by omega
  rcases Int.lt_trichotomy 0 c with h | h | h
  · exact h
  · rw [← h] at e; simp at e; omega
  · have := Int.mul_neg_of_pos_of_neg hg0 h
    omega
theorem nrm_Q {n : Nat} {t b : Int} (ht : Sz n t) (hb : Sz n b) (h0 : b ≠ 0) : Q n (nt t b) (nb t b) := ⟨nt_sz ht, nb_sz hb, nb_pos h0⟩
section
variable {n : Nat} {t b t1 b1 t2 b2 : Int} {d : D}
theorem mul_ne {x y : Int} (hx : 0 < x) (hy : 0 < y) : x * y ≠ 0 := Int.ne_of_gt (Int.mul_pos hx hy)
theorem sp_add (hd : GD g_required [d] (fr t2 b2)) (h1 : Q n t1 b1) (h2 : Q n t2 b2) (hn : n < 4000) : GD g_Fraction_add [fr t1 b1, d] (fr (nt (t1 * b2 + t2 * b1) (b1 * b2)) (nb (t1 * b2 + t2 * b1) (b1 * b2))) := by
  refine GD_of ?_
  unfold m_Fraction_add
  repeat infer_instance
  · exact hd
  repeat infer_instance
  apply mk_fr
  · repeat infer_instance
  · exact mul_ne h1.p h2.p
  · exact gcd_ok (h1.sb.mul h2.sb) (mul_ne h1.p h2.p) (by omega)
  · exact h1.sb.mulOk h2.sb (by omega)
  · exact h2.st.mulOk h1.sb (by omega)
  · exact h1.st.mulOk h2.sb (by omega)
theorem sp_sub (hd : GD g_required [d] (fr t2 b2)) (h1 : Q n t1 b1) (h2 : Q n t2 b2) (hn : n < 4000) : GD g_Fraction_sub [fr t1 b1, d] (fr (nt (t1 * b2 - t2 * b1) (b1 * b2)) (nb (t1 * b2 - t2 * b1) (b1 * b2))) := by
  refine GD_of ?_
  unfold m_Fraction_sub
  repeat infer_instance
  · exact hd
  repeat infer_instance
  apply mk_fr
  · repeat infer_instance
  · exact mul_ne h1.p h2.p
  · exact gcd_ok (h1.sb.mul h2.sb) (mul_ne h1.p h2.p) (by omega)
  · exact h1.sb.mulOk h2.sb (by omega)
  · exact h2.st.mulOk h1.sb (by omega)
  · exact h1.st.mulOk h2.sb (by omega)
theorem sp_mul (hd : GD g_required [d] (fr t2 b2)) (h1 : Q n t1 b1) (h2 : Q n t2 b2) (hn : n < 4000) : GD g_Fraction_mul [fr t1 b1, d] (fr (nt (t1 * t2) (b1 * b2)) (nb (t1 * t2) (b1 * b2))) := by
  refine GD_of ?_
  unfold m_Fraction_mul
  repeat infer_instance
  · exact hd
  repeat infer_instance
  apply mk_fr
  · repeat infer_instance
  · exact mul_ne h1.p h2.p
  · exact gcd_ok (h1.sb.mul h2.sb) (mul_ne h1.p h2.p) (by omega)
  · exact h1.sb.mulOk h2.sb (by omega)
  · exact h1.st.mulOk h2.st (by omega)
theorem sp_neg (h1 : Q n t b) (hn : n < 4000) : GD g_Fraction_neg [fr t b] (fr (nt (-t) b) (nb (-t) b)) := by
  refine GD_of ?_
  unfold m_Fraction_neg
  repeat infer_instance
  apply mk_fr
  · repeat infer_instance
  · exact Int.ne_of_gt h1.p
  · exact gcd_ok h1.sb (Int.ne_of_gt h1.p) (by omega)
theorem sp_abs (h1 : Q n t b) (hn : n < 4000) : GD g_Fraction_abs [fr t b] (fr (nt t.natAbs b) (nb t.natAbs b)) := by
  refine GD_of ?_
  unfold m_Fraction_abs
  repeat infer_instance
  apply mk_fr
  · repeat infer_instance
  · exact Int.ne_of_gt h1.p
  · exact gcd_ok h1.sb (Int.ne_of_gt h1.p) (by omega)
theorem Q.int {j : Int} (h : Sz n j) (hn : 1 ≤ n) : Q n j 1 := ⟨h, Sz.mono (n := 1) (by decide) hn, by decide⟩
theorem sp_radd {j : Int} (h1 : Q n t1 b1) (hj : Sz n j) (h0 : 1 ≤ n) (hn : n < 4000) : GD g_Fraction_radd [fr t1 b1, .int j] (fr (nt (t1 * 1 + j * b1) (b1 * 1)) (nb (t1 * 1 + j * b1) (b1 * 1))) := by
  refine GD_of ?_
  unfold m_Fraction_radd
  repeat infer_instance
  · exact sp_add sp_required_i h1 (.int hj h0) hn
  repeat infer_instance
theorem sp_rmul {j : Int} (h1 : Q n t1 b1) (hj : Sz n j) (h0 : 1 ≤ n) (hn : n < 4000) : GD g_Fraction_rmul [fr t1 b1, .int j] (fr (nt (t1 * j) (b1 * 1)) (nb (t1 * j) (b1 * 1))) := by
  refine GD_of ?_
  unfold m_Fraction_rmul
  repeat infer_instance
  · exact sp_mul sp_required_i h1 (.int hj h0) hn
  repeat infer_instance
theorem sp_rsub {j : Int} (h1 : Q n t1 b1) (hj : Sz n j) (h0 : 1 ≤ n) (hn : n < 4000) : GD g_Fraction_rsub [fr t1 b1, .int j] (fr (nt (j * b1 - t1 * 1) (1 * b1)) (nb (j * b1 - t1 * 1) (1 * b1))) := by
  refine GD_of ?_
  unfold m_Fraction_rsub
  repeat infer_instance
  · exact sp_required_i
  repeat infer_instance
  · exact sp_sub sp_required_f (.int hj h0) h1 hn
  repeat infer_instance
/-! the law's own -/
theorem sp_ratio (ht : Sz n t) (hb : Sz n b) (h0 : 0 < b) (hn : n < 9000) : GD g__law_ratio [.int t, .int b] (pr (nt t b) (nb t b)) := by
  have hg := gcd_ok (t := t) hb (Int.ne_of_gt h0) hn
  refine GD_of ?_
  unfold m__law_ratio
  repeat infer_instance
  · exact sp_lgcd (Int.natCast_nonneg _) (Int.le_of_lt h0)
  repeat infer_instance
  · refine f_e ?_ (le_lit rfl)
    rw [gcd_abs1, Int.fdiv_eq_ediv_of_nonneg _ gcd_nn, Int.fdiv_eq_ediv_of_nonneg _ gcd_nn]
    unfold nt nb
    rw [if_pos h0]
    have e : (b.natAbs : Int) = b := by omega
    rw [e]
  · exact hg
  · exact hg
theorem nt_neg : nt (0 - t) (0 - b) = nt t b ∨ b = 0 := by
  by_cases h : b = 0
  · exact .inr h
  · left
    unfold nt
    have e : (0 - t).gcd (0 - b) = t.gcd b := by
      rw [Int.zero_sub, Int.zero_sub, Int.neg_gcd, Int.gcd_neg]
    rw [e]
    by_cases h0 : 0 < b
    · rw [if_pos h0, if_neg (by omega)]
      have : -(0 - t) = t := by omega
      rw [this]
    · rw [if_neg h0, if_pos (by omega)]
      have : 0 - t = -t := by omega
      rw [this]
theorem nb_neg : nb (0 - t) (0 - b) = nb t b := by
  unfold nb
  have e : (0 - t).gcd (0 - b) = t.gcd b := by
    rw [Int.zero_sub, Int.zero_sub, Int.neg_gcd, Int.gcd_neg]
  have e2 : (0 - b).natAbs = b.natAbs := by omega
  rw [e, e2]
theorem sp_pair (ht : Sz n t) (hb : Sz n b) (h0 : b ≠ 0) (hn : n < 9000) : GD g__law_pair [.int t, .int b] (pr (nt t b) (nb t b)) := by
  refine GD_of ?_
  unfold m__law_pair
  repeat infer_instance
  by_cases hp : 0 < b
  · refine c_t (by simp only [hp, decide_true]) ?_
    repeat infer_instance
    · exact sp_ratio ht hb hp hn
    repeat infer_instance
  · refine c_f (by simp only [hp, decide_false]) ?_
    repeat infer_instance
    · exact sp_ratio (n := n) (by rw [Int.zero_sub]; exact ht.neg) (by rw [Int.zero_sub]; exact hb.neg) (by omega) hn
    repeat infer_instance
    refine f_e ?_ (le_lit rfl)
    rcases nt_neg (t := t) (b := b) with e | e
    · rw [e, nb_neg]
    · exact absurd e h0
end
section
variable {n L : Nat} {t b : Int} {o : OB}
theorem sp_power_in {m : Int} (ht : Sz n t) (h0 : 0 ≤ m) (h1 : m ≤ 64) (hn : n < 4000) : GD g_power_in [.int t, .int m] (.int (t ^ m.toNat)) := by
  have sz : ∀ j : Nat, j < 64 → mulOk (t ^ j) t = true := fun j hj => (ht.pow j).mulOk ht (by
    have : n * j ≤ 4000 * 64 := Nat.mul_le_mul (by omega) (by omega)
    omega)
  refine GD_of ?_
  unfold m_power_in
  repeat infer_instance
  refine L_rng1 ?_ ⟨by omega, by omega⟩
  refine T_rng (fun j ρ => ∃ x, ρ = [.dat (.int t), .dat (.int m), .dat (.int (t ^ j)), x]) m.toNat 0 ?_ ?_ ⟨.dead, by rw [Int.pow_zero]; rfl⟩
  · intro j ρ hj h
    obtain ⟨x, rfl⟩ := h
    repeat infer_instance
    · exact ⟨.inl rfl, _, by rw [Int.pow_succ]; rfl⟩
    · exact sz j (by omega)
  · intro ρ h
    obtain ⟨x, rfl⟩ := h
    repeat infer_instance
/-! coprime -/
theorem nt_cop (h : t.gcd b = 1) (hb : 0 < b) : nt t b = t := by
  unfold nt
  rw [h, if_pos hb]
  simp
theorem nb_cop (h : t.gcd b = 1) (hb : 0 < b) : nb t b = b := by
  unfold nb
  rw [h]
  simp
  omega
theorem nrm_cop (h : b ≠ 0) : (nt t b).gcd (nb t b) = 1 := by
  have hg : 0 < t.natAbs.gcd b.natAbs := Nat.gcd_pos_of_pos_right _ (by omega)
  have k := Nat.coprime_div_gcd_div_gcd hg
  have e1 : (nt t b).natAbs = t.natAbs / t.natAbs.gcd b.natAbs := by
    unfold nt
    have hd : ((t.gcd b : Nat) : Int) ∣ t := Int.gcd_dvd_left t b
    obtain ⟨c, hc⟩ := hd
    have g0 : ((t.gcd b : Nat) : Int) ≠ 0 := by
      have : t.gcd b ≠ 0 := fun z => h (Int.gcd_eq_zero_iff.mp z).2
      omega
    have e : (t / ((t.gcd b : Nat) : Int)) = c := by
      conv => lhs; lhs; rw [hc]
      exact Int.mul_ediv_cancel_left _ g0
    have e' : (-t / ((t.gcd b : Nat) : Int)) = -c := by
      have : -t = ((t.gcd b : Nat) : Int) * (-c) := by rw [Int.mul_neg, ← hc]
      rw [this]
      exact Int.mul_ediv_cancel_left _ g0
    have ht : t.natAbs = t.natAbs.gcd b.natAbs * c.natAbs := by
      have := congrArg Int.natAbs hc
      rw [Int.natAbs_mul, Int.natAbs_natCast] at this
      exact this
    have r : t.natAbs / t.natAbs.gcd b.natAbs = c.natAbs := by
      conv => lhs; lhs; rw [ht]
      exact Nat.mul_div_cancel_left _ hg
    rw [r]
    split
    · rw [e]
    · rw [e', Int.natAbs_neg]
  have e2 : (nb t b).natAbs = b.natAbs / t.natAbs.gcd b.natAbs := by
    unfold nb
    rw [← Int.natCast_ediv, Int.natAbs_natCast]
    rfl
  unfold Int.gcd
  rw [e1, e2]
  exact k
theorem pow_cop (h : t.gcd b = 1) (m : Nat) : (t ^ m).gcd (b ^ m) = 1 := by
  unfold Int.gcd at *
  rw [Int.natAbs_pow, Int.natAbs_pow]
  exact Nat.Coprime.pow m m h
theorem neg_cop (h : t.gcd b = 1) : (-t).gcd b = 1 := by rw [Int.neg_gcd]; exact h
theorem abs_cop (h : t.gcd b = 1) : ((t.natAbs : Int)).gcd b = 1 := h
theorem sp_power {m : Int} (h : Q n t b) (hc : t.gcd b = 1) (h0 : 0 ≤ m) (h1 : m ≤ 64) (hn : n < 4000) : GD g_Fraction_power [fr t b, .int m] (fr (t ^ m.toNat) (b ^ m.toNat)) := by
  have hp : 0 < b ^ m.toNat := Int.pow_pos h.p
  have hcp := pow_cop hc m.toNat
  refine GD_of ?_
  unfold m_Fraction_power
  repeat infer_instance
  · exact sp_is_integer_i
  repeat infer_instance
  refine c_t (by simp only [h0, decide_true]) ?_
  repeat infer_instance
  refine c_t (by simp only [h1, decide_true]) ?_
  repeat infer_instance
  · exact sp_power_in h.st h0 h1 hn
  repeat infer_instance
  · exact sp_power_in h.sb h0 h1 hn
  repeat infer_instance
  apply mk_fr
  · rw [nt_cop hcp hp, nb_cop hcp hp]
    repeat infer_instance
  · exact Int.ne_of_gt hp
  · rw [hcp]; decide
/-! the law's draws -/
theorem sp_roll {m : Int} (hd : Dice L o) (hL : L ≤ 1000000) (hn : 0 < m) (hn2 : divOk m = true) : GS g__law_roll o [.int m] (Rolled L m) := gs_roll hd hL hn hn2
theorem sp_one_of {ds : List D} (hd : Dice L o) (hL : L ≤ 1000000) (h0 : ds ≠ []) (h1 : ds.length < 1000) : GS g__law_one_of o [.lst ds] (Chosen L ds) := gs_one_of (fun m k0 k1 => sp_roll hd hL k0 k1) h0 h1
def Drawn (L : Nat) (r : S) (o : OB) : Prop := ∃ z : Int, r = .dat (.int z) ∧ Sz 240 z ∧ Dice (L + 5) o
theorem sp_integer (hd : Dice L o) (hL : L ≤ 900000) : GS g__law_integer o [] (Drawn L) := by
  refine GS_of ?_
  unfold m__law_integer
  refine T_cut (fun ρ => ∃ z o1, ρ = [.par o1, .dat (.int z)] ∧ Sz 10 z ∧ Dice (L + 1) o1) ?_ fun ρ h => ?_
  · repeat infer_instance
    refine (sp_one_of hd (by omega) (by simp) (le_lit rfl)).imp fun r o1 h => ?_
    obtain ⟨d, rfl, hm, hd1⟩ := h
    obtain ⟨z, rfl, hz⟩ : ∃ z : Int, d = .int z ∧ Sz 10 z := by
      simp only [List.mem_cons, List.not_mem_nil, or_false] at hm
      rcases hm with h | h | h | h | h | h | h | h | h | h | h | h | h <;> exact ⟨_, h, by decide +kernel⟩
    repeat infer_instance
    exact ⟨z, o1, rfl, hz, hd1⟩
  obtain ⟨z, o1, rfl, hz, hd1⟩ := h
  refine T_cut (fun ρ => ∃ w o3, ρ = [.par o3, .dat (.int w)] ∧ Sz 240 w ∧ Dice (L + 4) o3) ?_ fun ρ h => ?_
  · repeat infer_instance
    refine (sp_roll hd1 (by omega) (by decide) (by decide +kernel)).imp fun r o2 h => ?_
    obtain ⟨k, rfl, _, _, hd2⟩ := h
    repeat infer_instance
    by_cases hk : k = 0
    · refine c_t (by simp only [hk, decide_true]) ?_
      repeat infer_instance
      · refine (sp_roll hd2 (by omega) (by decide +kernel) (by decide +kernel)).imp fun r o3 h => ?_
        obtain ⟨u, rfl, u0, u1, hd3⟩ := h
        have hu : Sz 21 (1 + u) := by
          have u2 : u < 1000000 := u1
          unfold Sz
          omega
        repeat infer_instance
        · refine (sp_one_of hd3 (by omega) (by simp) (le_lit rfl)).imp fun r o4 h => ?_
          obtain ⟨d, rfl, hm, hd4⟩ := h
          obtain ⟨y, rfl, hy⟩ : ∃ y : Int, d = .int y ∧ Sz 205 y := by
            simp only [List.mem_cons, List.not_mem_nil, or_false] at hm
            rcases hm with h | h | h | h <;> exact ⟨_, h, by decide +kernel⟩
          repeat infer_instance
          · exact ⟨_, _, rfl, ((hz.mul hu).mul hy).mono (by decide), hd4⟩
          · exact (hz.mul hu).mulOk hy (by decide)
        all_goals first | exact hz.mulOk hu (by decide) | decide +kernel
      all_goals decide +kernel
    · refine c_f (by simp only [hk, decide_false]) ?_
      repeat infer_instance
      exact ⟨_, _, rfl, hz.mono (by decide), hd2.mono (by omega)⟩
  obtain ⟨w, o3, rfl, hw, h3⟩ := h
  repeat infer_instance
  refine (sp_roll h3 (by omega) (by decide) (by decide +kernel)).imp fun r o4 h => ?_
  obtain ⟨j, rfl, _, _, hd4⟩ := h
  repeat infer_instance
  by_cases hj : j = 0
  · refine c_t (by simp only [hj, decide_true]) ?_
    repeat infer_instance
    exact ⟨_, rfl, by rw [Int.zero_sub]; exact hw.neg, hd4⟩
  · refine c_f (by simp only [hj, decide_false]) ?_
    repeat infer_instance
    exact ⟨_, rfl, hw, hd4⟩
def Coupled (L : Nat) (r : S) (o : OB) : Prop := ∃ x y : Int, r = .dat (pr x y) ∧ Sz 240 x ∧ Sz 240 y ∧ y ≠ 0 ∧ Dice (L + 11) o
theorem sp_couple (hd : Dice L o) (hL : L ≤ 800000) : GS g__law_couple o [] (Coupled L) := by
  refine GS_of ?_
  unfold m__law_couple
  repeat infer_instance
  refine (sp_integer hd (by omega)).imp fun r o1 h => ?_
  obtain ⟨x, rfl, hx, hd1⟩ := h
  repeat infer_instance
  refine (sp_integer hd1 (by omega)).imp fun r o2 h => ?_
  obtain ⟨y, rfl, hy, hd2⟩ := h
  repeat infer_instance
  by_cases h0 : y = 0
  · refine c_f (by simp only [h0, decide_true, Bool.not_true]) ?_
    repeat infer_instance
    refine (sp_one_of hd2 (by omega) (by simp) (le_lit rfl)).imp fun r o3 h => ?_
    obtain ⟨d, rfl, hm, hd3⟩ := h
    obtain ⟨z, rfl, hz, hz0⟩ : ∃ z : Int, d = .int z ∧ Sz 240 z ∧ z ≠ 0 := by
      simp only [List.mem_cons, List.not_mem_nil, or_false] at hm
      rcases hm with h | h | h <;> exact ⟨_, h, by decide +kernel, by decide⟩
    repeat infer_instance
    exact ⟨x, z, rfl, hx, hz, hz0, hd3⟩
  · refine c_t (by simp only [h0, decide_false, Bool.not_false]) ?_
    repeat infer_instance
    exact ⟨x, y, rfl, hx, hy, h0, hd2.mono (by omega)⟩
end
def Said (L : Nat) (r : S) (o : OB) : Prop := r = .dat (.bl true) ∧ Dice L o
section
variable {n L : Nat} {t b t1 b1 t2 b2 i m z : Int} {o : OB} {d : D}
theorem sp_eq_i : GD g_Fraction_eq [fr t b, .int i] (.bl (decide (b = 1) && decide (t = i))) := by
  refine GD_of ?_
  unfold m_Fraction_eq
  repeat infer_instance
  · exact sp_is_integer_i
  repeat infer_instance
  by_cases h : b = 1
  · refine c_t (decide_eq_true h) ?_
    repeat infer_instance
    exact f_e (by rw [decide_eq_true h]; rfl) (le_lit rfl)
  · refine c_f (decide_eq_false h) ?_
    repeat infer_instance
    exact f_e (by rw [decide_eq_false h]; rfl) (le_lit rfl)
theorem sp_eq_f : GD g_Fraction_eq [fr t1 b1, fr t2 b2] (.bl (decide (t1 = t2) && decide (b1 = b2))) := by
  refine GD_of ?_
  unfold m_Fraction_eq
  repeat infer_instance
  · exact sp_is_integer_f
  repeat infer_instance
  by_cases h : t1 = t2
  · refine c_t (decide_eq_true h) ?_
    repeat infer_instance
    exact f_e (by rw [decide_eq_true h]; rfl) (le_lit rfl)
  · refine c_f (decide_eq_false h) ?_
    repeat infer_instance
    exact f_e (by rw [decide_eq_false h]; rfl) (le_lit rfl)
theorem gd_bl {g : G} {ds : List D} {k k' : Bool} (h : GD g ds (.bl k)) (e : k = k') : GD g ds (.bl k') := by
  subst e
  exact h
theorem sp_eq_same : GD g_Fraction_eq [fr t b, fr t b] (.bl true) := gd_bl sp_eq_f (by simp)
/-! the least form -/
theorem gcd_pos (h : b ≠ 0) : 0 < t.gcd b := Nat.pos_of_ne_zero fun z => h (Int.gcd_eq_zero_iff.mp z).2
theorem nt_mul (hm : 0 < m) (h : b ≠ 0) : nt (m * t) (m * b) = nt t b := by
  have hg := gcd_pos (t := t) h
  have e : (m * t).gcd (m * b) = m.natAbs * t.gcd b := Int.gcd_mul_left m t b
  have em : ((m.natAbs * t.gcd b : Nat) : Int) = m * (t.gcd b : Int) := by
    rw [Int.natCast_mul]
    congr 1
    omega
  unfold nt
  rw [e, em]
  by_cases h0 : 0 < b
  · rw [if_pos h0, if_pos (Int.mul_pos hm h0), Int.mul_ediv_mul_of_pos _ _ hm]
  · have h1 : ¬ 0 < m * b := by
      have := Int.mul_neg_of_pos_of_neg hm (show b < 0 by omega)
      omega
    rw [if_neg h0, if_neg h1, ← Int.mul_neg, Int.mul_ediv_mul_of_pos _ _ hm]
theorem nb_mul (hm : 0 < m) (h : b ≠ 0) : nb (m * t) (m * b) = nb t b := by
  have e : (m * t).gcd (m * b) = m.natAbs * t.gcd b := Int.gcd_mul_left m t b
  unfold nb
  rw [e, Int.natAbs_mul, ← Int.natCast_ediv, ← Int.natCast_ediv, Nat.mul_div_mul_left _ _ (by omega)]
theorem nt_neg' (h : b ≠ 0) : nt (0 - t) (0 - b) = nt t b := (nt_neg (t := t) (b := b)).resolve_right h
theorem nt_mul' (hm : m ≠ 0) (h : b ≠ 0) : nt (m * t) (m * b) = nt t b := by
  by_cases h0 : 0 < m
  · exact nt_mul h0 h
  · have e1 : m * t = 0 - (-m) * t := by rw [Int.neg_mul]; omega
    have e2 : m * b = 0 - (-m) * b := by rw [Int.neg_mul]; omega
    have h2 : (-m) * b ≠ 0 := Int.mul_ne_zero (by omega) h
    rw [e1, e2, nt_neg' h2, nt_mul (by omega) h]
theorem nb_mul' (hm : m ≠ 0) (h : b ≠ 0) : nb (m * t) (m * b) = nb t b := by
  by_cases h0 : 0 < m
  · exact nb_mul h0 h
  · have e1 : m * t = 0 - (-m) * t := by rw [Int.neg_mul]; omega
    have e2 : m * b = 0 - (-m) * b := by rw [Int.neg_mul]; omega
    rw [e1, e2, nb_neg, nb_mul (by omega) h]
theorem nt_cross (h : b ≠ 0) : nt t b * b = t * nb t b := by
  have hg := gcd_pos (t := t) h
  obtain ⟨c, hc⟩ : ((t.gcd b : Nat) : Int) ∣ t := Int.gcd_dvd_left t b
  obtain ⟨e, he⟩ : ((t.gcd b : Nat) : Int) ∣ b := Int.gcd_dvd_right t b
  generalize hgg : ((t.gcd b : Nat) : Int) = g at hc he
  have g0 : g ≠ 0 := by omega
  unfold nt nb
  rw [hgg]
  by_cases h0 : 0 < b
  · have eb : (b.natAbs : Int) = b := by omega
    rw [if_pos h0, eb]
    have r1 : t / g = c := by conv => lhs; rw [hc]
                              exact Int.mul_ediv_cancel_left _ g0
    have r2 : b / g = e := by conv => lhs; rw [he]
                              exact Int.mul_ediv_cancel_left _ g0
    rw [r1, r2, hc, he]
    rw [← Int.mul_assoc, Int.mul_comm c g]
  · have eb : (b.natAbs : Int) = -b := by omega
    rw [if_neg h0, eb]
    have r1 : -t / g = -c := by conv => lhs; rw [hc, ← Int.mul_neg]
                                exact Int.mul_ediv_cancel_left _ g0
    have r2 : -b / g = -e := by conv => lhs; rw [he, ← Int.mul_neg]
                                exact Int.mul_ediv_cancel_left _ g0
    rw [r1, r2, hc, he]
    rw [Int.neg_mul, Int.mul_neg, ← Int.mul_assoc, Int.mul_comm c g]
theorem whole_iff (h : b ≠ 0) : (decide (nb t b = 1) && decide (nt t b = z)) = decide (z * b = t) := by
  rw [Bool.eq_iff_iff]
  simp only [Bool.and_eq_true, decide_eq_true_eq]
  constructor
  · rintro ⟨h1, h2⟩
    have := nt_cross (t := t) h
    rw [h1, h2] at this
    omega
  · intro e
    have e1 : t = b * z := by rw [← e, Int.mul_comm]
    have e2 : nt t b = nt (b * z) (b * 1) := by rw [e1, Int.mul_one]
    have e3 : nb t b = nb (b * z) (b * 1) := by rw [e1, Int.mul_one]
    rw [e2, e3, nt_mul' h (by decide), nb_mul' h (by decide), nt_one, nb_one]
    exact ⟨rfl, rfl⟩
theorem fdiv_le (h : b ≠ 0) : (t.fdiv b).natAbs ≤ t.natAbs := by
  by_cases h0 : 0 ≤ b
  · rw [Int.fdiv_eq_ediv_of_nonneg _ h0]
    exact Int.natAbs_ediv_le_natAbs t b
  · have : t.fdiv b = (-t).fdiv (-b) := (Int.neg_fdiv_neg t b).symm
    rw [this, Int.fdiv_eq_ediv_of_nonneg _ (by omega)]
    have := Int.natAbs_ediv_le_natAbs (-t) (-b)
    omega
/-! texts -/
def txt (x y : Int) : Str := if y = 1 then (toString x : Str) else ((toString x : Str) ++ ("/" : Str)) ++ (toString y : Str)
theorem log_ok (h : Sz 1900 i) : i.natAbs.log2 < 1920 := by
  have := h.log
  omega
theorem len_ok (h : Sz 1900 i) : (toString i : Str).length ≤ 600 := int_len h
theorem len_cat (x y : Str) : (x ++ y).length = x.length + y.length := PySem.Str.length_append x y
theorem sp_str (ht : Sz 1900 t) (hb : Sz 1900 b) : GD g_Fraction_str [fr t b] (.str (txt t b)) := by
  have l1 := len_ok ht
  have l2 := len_ok hb
  have l3 : ("/" : Str).length = 1 := rfl
  refine GD_of ?_
  unfold m_Fraction_str
  repeat infer_instance
  by_cases h1 : b = 1
  · refine c_t (decide_eq_true h1) ?_
    repeat infer_instance
    refine ⟨_, if_pos (log_ok ht), ?_⟩
    repeat infer_instance
    exact f_e (by unfold txt; rw [if_pos h1]) (le_lit rfl)
  · refine c_f (decide_eq_false h1) ?_
    repeat infer_instance
    refine ⟨_, if_pos (log_ok ht), ?_⟩
    refine ⟨_, if_pos (by rw [PySem.Str.empty_append]; omega), ?_⟩
    repeat infer_instance
    refine ⟨_, if_pos (by rw [PySem.Str.empty_append, len_cat]; omega), ?_⟩
    repeat infer_instance
    refine ⟨_, if_pos (log_ok hb), ?_⟩
    refine ⟨_, if_pos (by rw [PySem.Str.empty_append, len_cat, len_cat]; omega), ?_⟩
    repeat infer_instance
    exact f_e (by unfold txt; rw [if_neg h1, PySem.Str.empty_append]) (le_lit rfl)
theorem same_text {d e : D} (h : d = e) : (!decide (shD d = shD e)) = false := by rw [h]; simp
theorem rp_pr {n : Nat} {x y : Int} (hx : Sz n x) (hy : Sz n y) (hn : n ≤ 1900) : Rp (pr x y) 1207 1 := by
  have h := Rp.tup (.cons (.int (hx.mono hn)) (.cons (.int (hy.mono hn)) .nil))
  exact h
theorem L_eqPr {a c e f : Int} {P : D → Prop} (h : P (.bl (decide (a = c) && decide (e = f)))) : Lf (dEq (pr a e) (pr c f)) P := by
  refine ⟨_, rfl, ?_⟩
  have q : PyData.eqv (.tuple [.int a, .int e]) (.tuple [.int c, .int f]) = (decide (a = c) && decide (e = f)) := by
    show ((a == c) && ((e == f) && true)) = _
    rw [Bool.and_true]
    rfl
  exact q ▸ h
end
section
variable {L : Nat} {o : OB}
theorem sp_made_right (hd : Dice L o) (hL : L ≤ 700000) : GS g__law_made_right o [] (Said (L + 40)) := by
  refine GS_of ?_
  unfold m__law_made_right
  refine T_cut (fun ρ => ∃ (t b : Int) (o1 : OB), ρ = [.par o1, .dat (.int t), .dat (.int b), .dead, .dead, .dead, .dead, .dead, .dead, .dead] ∧ Sz 240 t ∧ Sz 240 b ∧ b ≠ 0 ∧ Dice (L + 11) o1) ?_ fun ρ e => ?_
  · repeat infer_instance
    refine (sp_couple hd (by omega)).imp fun r o1 h => ?_
    obtain ⟨t, b, rfl, ht, hb, h0, hd1⟩ := h
    repeat infer_instance
    exact ⟨t, b, o1, rfl, ht, hb, h0, hd1⟩
  obtain ⟨t, b, o1, rfl, ht, hb, h0, hd1⟩ := e
  have q : Q 240 (nt t b) (nb t b) := nrm_Q ht hb h0
  have cp : (nt t b).gcd (nb t b) = 1 := nrm_cop h0
  have sx : Sz 1900 (nt t b) := q.st.mono (by decide)
  have sy : Sz 1900 (nb t b) := q.sb.mono (by decide)
  refine T_cut (fun ρ => ρ = [.par o1, .dat (.int t), .dat (.int b), .dat (pr (nt t b) (nb t b)), .dat (fr (nt t b) (nb t b)), .dead, .dead, .dead, .dead, .dead]) ?_ fun ρ e => ?_
  · repeat infer_instance
    · exact sp_pair ht hb h0 (by decide)
    repeat infer_instance
    refine mk_fr ?_ h0 (gcd_ok hb h0 (by decide))
    repeat infer_instance
    rfl
  subst e
  refine T_cut (fun ρ => ρ = [.par o1, .dat (.int t), .dat (.int b), .dat (pr (nt t b) (nb t b)), .dat (fr (nt t b) (nb t b)), .dead, .dead, .dead, .dead, .dead]) ?_ fun ρ e => ?_
  · repeat infer_instance
    · exact sp_told
    repeat infer_instance
    · refine c_f (same_text rfl) ?_
      repeat infer_instance
      rfl
    all_goals first | exact rp_pr q.st q.sb (by decide) | exact le_lit rfl
  subst e
  refine T_cut (fun ρ => ρ = [.par o1, .dat (.int t), .dat (.int b), .dat (pr (nt t b) (nb t b)), .dat (fr (nt t b) (nb t b)), .dat (.str (txt (nt t b) (nb t b))), .dead, .dead, .dead, .dead]) ?_ fun ρ e => ?_
  · have l1 := len_ok sx
    have l2 := len_ok sy
    have l3 : ("/" : Str).length = 1 := rfl
    repeat infer_instance
    by_cases h1 : nb t b = 1
    · refine c_t (decide_eq_true h1) ?_
      repeat infer_instance
      refine ⟨_, if_pos (log_ok sx), ?_⟩
      repeat infer_instance
      unfold txt
      rw [if_pos h1]
      rfl
    · refine c_f (decide_eq_false h1) ?_
      repeat infer_instance
      refine ⟨_, if_pos (log_ok sx), ?_⟩
      repeat infer_instance
      refine ⟨_, if_pos (by omega), ?_⟩
      repeat infer_instance
      refine ⟨_, if_pos (log_ok sy), ?_⟩
      refine ⟨_, if_pos (by rw [len_cat]; omega), ?_⟩
      repeat infer_instance
      unfold txt
      rw [if_neg h1]
      rfl
  subst e
  refine T_cut (fun ρ => ∃ (m : Int) (o2 : OB), ρ = [.par o2, .dat (.int t), .dat (.int b), .dat (pr (nt t b) (nb t b)), .dat (fr (nt t b) (nb t b)), .dat (.str (txt (nt t b) (nb t b))), .dat (.int m), .dead, .dead, .dead] ∧ 0 < m ∧ Sz 7 m ∧ Dice (L + 12) o2) ?_ fun ρ e => ?_
  · repeat infer_instance
    refine (sp_roll hd1 (by omega) (by decide) (by decide +kernel)).imp fun r o2 h => ?_
    obtain ⟨k, rfl, k0, k1, hd2⟩ := h
    repeat infer_instance
    exact ⟨1 + k, o2, rfl, by omega, by unfold Sz; omega, hd2⟩
  obtain ⟨m, o2, rfl, m0, sm, hd2⟩ := e
  have hmb : m * b ≠ 0 := Int.mul_ne_zero (Int.ne_of_gt m0) h0
  refine T_cut (fun ρ => ρ = [.par o2, .dat (.int t), .dat (.int b), .dat (pr (nt t b) (nb t b)), .dat (fr (nt t b) (nb t b)), .dat (.str (txt (nt t b) (nb t b))), .dat (.int m), .dat (.lst [fr (nt t b) (nb t b), fr (nt t b) (nb t b), fr (nt t b) (nb t b)]), .dead, .dead]) ?_ fun ρ e => ?_
  · repeat infer_instance
    · refine mk_fr ?_ hmb (gcd_ok (sm.mul hb) hmb (by decide))
      repeat infer_instance
      refine mk_fr ?_ (by omega) (gcd_ok (n := 240) (by rw [Int.zero_sub]; exact hb.neg) (by omega) (by decide))
      repeat infer_instance
      refine mk_fr ?_ (Int.ne_of_gt q.p) (gcd_ok q.sb (Int.ne_of_gt q.p) (by decide))
      repeat infer_instance
      rw [nt_mul m0 h0, nb_mul m0 h0, nt_neg' h0, nb_neg, nt_cop cp q.p, nb_cop cp q.p]
      rfl
    · exact sm.mulOk hb (by decide)
    · exact sm.mulOk ht (by decide)
  subst e
  refine T_cut (fun ρ => ρ = [.par o2, .dat (.int t), .dat (.int b), .dat (pr (nt t b) (nb t b)), .dat (fr (nt t b) (nb t b)), .dat (.str (txt (nt t b) (nb t b))), .dat (.int m), .dat (.lst [fr (nt t b) (nb t b), fr (nt t b) (nb t b), fr (nt t b) (nb t b)]), .dead, .dead]) ?_ fun ρ e => ?_
  · repeat infer_instance
    · exact sp_str sx sy
    repeat infer_instance
    refine c_f (by simp) ?_
    repeat infer_instance
    refine T_eqL sp_eq_same rfl ?_
    repeat infer_instance
    refine T_eqL sp_eq_same rfl ?_
    repeat infer_instance
    refine T_eqL sp_eq_same rfl ?_
    repeat infer_instance
    · refine L_neD (d := .lst [.bl true, .bl true, .bl true]) rfl rfl rfl ?_
      repeat infer_instance
      rfl
    all_goals decide
  subst e
  refine T_cut (fun ρ => ρ = [.par o2, .dat (.int t), .dat (.int b), .dat (pr (nt t b) (nb t b)), .dat (fr (nt t b) (nb t b)), .dat (.str (txt (nt t b) (nb t b))), .dat (.int m), .dat (.lst [fr (nt t b) (nb t b), fr (nt t b) (nb t b), fr (nt t b) (nb t b)]), .dead, .dead]) ?_ fun ρ e => ?_
  · repeat infer_instance
    refine T_eqL sp_eq_same rfl ?_
    repeat infer_instance
    refine T_eqL sp_eq_same rfl ?_
    repeat infer_instance
    refine T_eqL sp_eq_same rfl ?_
    repeat infer_instance
    · refine L_neD (d := .lst [.bl false, .bl false, .bl false]) rfl rfl rfl ?_
      repeat infer_instance
      rfl
    all_goals decide
  subst e
  refine T_cut (fun ρ => ∃ d1 d2 d3 d4 d5 d6, ρ = [.par o2, .dat (.int t), .dat (.int b), .dat (pr (nt t b) (nb t b)), .dat (fr (nt t b) (nb t b)), .dat (.str (txt (nt t b) (nb t b))), .dat (.int m), .dat (.lst [fr (nt t b) (nb t b), fr (nt t b) (nb t b), fr (nt t b) (nb t b)]), .dat (.lst [d1, d2, d3, d4, d5, d6]), .dead]) ?_ fun ρ e => ?_
  · have one : Sz 240 1 := by decide +kernel
    have two : Sz 240 2 := by decide +kernel
    have zero : Sz 240 0 := by decide +kernel
    repeat infer_instance
    · exact sp_add sp_required_i q (.int one (by decide)) (by decide)
    repeat infer_instance
    · exact sp_rsub q two (by decide) (by decide)
    repeat infer_instance
    · exact sp_mul sp_required_f q q (by decide)
    repeat infer_instance
    · exact sp_rsub q zero (by decide) (by decide)
    repeat infer_instance
    · exact sp_abs q (by decide)
    repeat infer_instance
    · exact sp_power q cp (m := 2) (by decide) (by decide) (by decide)
    repeat infer_instance
    exact ⟨_, _, _, _, _, _, rfl⟩
  obtain ⟨d1, d2, d3, d4, d5, d6, rfl⟩ := e
  repeat infer_instance
  refine c_t rfl ?_
  repeat infer_instance
  · exact sp_told
  repeat infer_instance
  refine L_eqD rfl rfl rfl ?_
  repeat infer_instance
  · exact sp_is_fraction_f
  repeat infer_instance
  refine ⟨_, rfl, ?_⟩
  repeat infer_instance
  exact ⟨rfl, hd2.mono (by omega)⟩
theorem sp_equal_right (hd : Dice L o) (hL : L ≤ 700000) : GS g__law_equal_right o [] (Said (L + 40)) := by
  refine GS_of ?_
  unfold m__law_equal_right
  refine T_cut (fun ρ => ∃ (t b t2 b2 : Int) (o1 : OB), ρ = [.par o1, .dat (pr t b), .dat (pr t2 b2), .dead, .dead, .dead, .dead, .dead, .dead] ∧ Sz 240 t ∧ Sz 240 b ∧ b ≠ 0 ∧ Sz 240 t2 ∧ Sz 240 b2 ∧ b2 ≠ 0 ∧ Dice (L + 22) o1) ?_ fun ρ e => ?_
  · repeat infer_instance
    refine (sp_couple hd (by omega)).imp fun r o1 h => ?_
    obtain ⟨t, b, rfl, ht, hb, h0, hd1⟩ := h
    repeat infer_instance
    refine (sp_couple hd1 (by omega)).imp fun r o2 h => ?_
    obtain ⟨t2, b2, rfl, ht2, hb2, h2, hd2⟩ := h
    repeat infer_instance
    exact ⟨t, b, t2, b2, o2, rfl, ht, hb, h0, ht2, hb2, h2, hd2.mono (by omega)⟩
  obtain ⟨t, b, t2, b2, o1, rfl, ht, hb, h0, ht2, hb2, h2, hd1⟩ := e
  have q : Q 240 (nt t b) (nb t b) := nrm_Q ht hb h0
  have sx : Sz 1900 (nt t b) := q.st.mono (by decide)
  have sy : Sz 1900 (nb t b) := q.sb.mono (by decide)
  refine T_cut (fun ρ => ρ = [.par o1, .dat (pr t b), .dat (pr t2 b2), .dat (fr (nt t b) (nb t b)), .dat (fr (nt t2 b2) (nb t2 b2)), .dead, .dead, .dead, .dead]) ?_ fun ρ e => ?_
  · repeat infer_instance
    refine mk_fr ?_ h0 (gcd_ok hb h0 (by decide))
    repeat infer_instance
    refine mk_fr ?_ h2 (gcd_ok hb2 h2 (by decide))
    repeat infer_instance
    rfl
  subst e
  have w1 : GD g_Fraction_eq [fr (nt t b) (nb t b), fr (nt t2 b2) (nb t2 b2)] (.bl (decide (nt t b = nt t2 b2) && decide (nb t b = nb t2 b2))) := sp_eq_f
  have w2 : GD g_Fraction_eq [fr (nt t2 b2) (nb t2 b2), fr (nt t b) (nb t b)] (.bl (decide (nt t b = nt t2 b2) && decide (nb t b = nb t2 b2))) := gd_bl sp_eq_f (by rw [Bool.eq_iff_iff]; simp only [Bool.and_eq_true, decide_eq_true_eq]; exact ⟨fun h => ⟨h.1.symm, h.2.symm⟩, fun h => ⟨h.1.symm, h.2.symm⟩⟩)
  refine T_cut (fun ρ => ρ = [.par o1, .dat (pr t b), .dat (pr t2 b2), .dat (fr (nt t b) (nb t b)), .dat (fr (nt t2 b2) (nb t2 b2)), .dat (.bl (decide (nt t b = nt t2 b2) && decide (nb t b = nb t2 b2))), .dead, .dead, .dead]) ?_ fun ρ e => ?_
  · repeat infer_instance
    · exact sp_pair ht hb h0 (by decide)
    repeat infer_instance
    · exact sp_pair ht2 hb2 h2 (by decide)
    repeat infer_instance
    refine L_eqPr ?_
    repeat infer_instance
    rfl
  subst e
  generalize (decide (nt t b = nt t2 b2) && decide (nb t b = nb t2 b2)) = k at w1 w2
  refine T_cut (fun ρ => ρ = [.par o1, .dat (pr t b), .dat (pr t2 b2), .dat (fr (nt t b) (nb t b)), .dat (fr (nt t2 b2) (nb t2 b2)), .dat (.bl k), .dead, .dead, .dead]) ?_ fun ρ e => ?_
  · repeat infer_instance
    refine T_eqL w1 rfl ?_
    repeat infer_instance
    refine T_eqL w2 rfl ?_
    repeat infer_instance
    refine T_eqL w1 rfl ?_
    repeat infer_instance
    cases k
    · refine c_ff ?_
      repeat infer_instance
      refine L_neD (d := .lst [.bl false, .bl false, .bl true]) rfl rfl rfl ?_
      repeat infer_instance
      rfl
    · refine c_tt ?_
      repeat infer_instance
      refine L_neD (d := .lst [.bl true, .bl true, .bl false]) rfl rfl rfl ?_
      repeat infer_instance
      rfl
  subst e
  refine T_cut (fun ρ => ∃ (z : Int) (o2 : OB), ρ = [.par o2, .dat (pr t b), .dat (pr t2 b2), .dat (fr (nt t b) (nb t b)), .dat (fr (nt t2 b2) (nb t2 b2)), .dat (.bl k), .dat (.int z), .dead, .dead] ∧ Sz 240 z ∧ Dice (L + 23) o2) ?_ fun ρ e => ?_
  · repeat infer_instance
    · refine (sp_one_of hd1 (by omega) (by simp) (le_lit rfl)).imp fun r o2 h => ?_
      obtain ⟨d, rfl, hm, hd2⟩ := h
      obtain ⟨z, rfl, hz⟩ : ∃ z : Int, d = .int z ∧ Sz 240 z := by
        simp only [List.mem_cons, List.not_mem_nil, or_false] at hm
        rcases hm with h | h | h | h | h
        · exact ⟨_, h, ht⟩
        · exact ⟨_, h, ht.le (fdiv_le h0)⟩
        all_goals exact ⟨_, h, by decide +kernel⟩
      repeat infer_instance
      exact ⟨z, o2, rfl, hz, hd2⟩
    · exact hb.divOk h0 (by decide)
  obtain ⟨z, o2, rfl, hz, hd2⟩ := e
  have w3 : GD g_Fraction_eq [fr (nt t b) (nb t b), .int z] (.bl (decide (z * b = t))) := gd_bl sp_eq_i (whole_iff h0)
  refine T_cut (fun ρ => ρ = [.par o2, .dat (pr t b), .dat (pr t2 b2), .dat (fr (nt t b) (nb t b)), .dat (fr (nt t2 b2) (nb t2 b2)), .dat (.bl (decide (z * b = t))), .dat (.int z), .dead, .dead]) ?_ fun ρ e => ?_
  · repeat infer_instance
    · rfl
    · exact hz.mulOk hb (by decide)
  subst e
  generalize decide (z * b = t) = k2 at w3
  refine T_cut (fun ρ => ρ = [.par o2, .dat (pr t b), .dat (pr t2 b2), .dat (fr (nt t b) (nb t b)), .dat (fr (nt t2 b2) (nb t2 b2)), .dat (.bl k2), .dat (.int z), .dead, .dead]) ?_ fun ρ e => ?_
  · repeat infer_instance
    refine T_eqL w3 rfl ?_
    repeat infer_instance
    refine T_eqRt w3 rfl ?_
    repeat infer_instance
    refine T_eqL w3 rfl ?_
    repeat infer_instance
    refine T_eqRt w3 rfl ?_
    repeat infer_instance
    · cases k2
      · refine c_ff ?_
        repeat infer_instance
        · refine L_neD (d := .lst [.bl false, .bl false, .bl true, .bl true]) rfl rfl rfl ?_
          repeat infer_instance
          rfl
        all_goals first | exact ⟨by decide, by decide, le_lit rfl⟩ | exact le_lit rfl
      · refine c_tt ?_
        repeat infer_instance
        · refine L_neD (d := .lst [.bl true, .bl true, .bl false, .bl false]) rfl rfl rfl ?_
          repeat infer_instance
          rfl
        all_goals first | exact ⟨by decide, by decide, le_lit rfl⟩ | exact le_lit rfl
    all_goals first | exact ⟨by decide, by decide, le_lit rfl⟩ | exact le_lit rfl
  subst e
  refine T_cut (fun ρ => ∃ (s : Str), ρ = [.par o2, .dat (pr t b), .dat (pr t2 b2), .dat (fr (nt t b) (nb t b)), .dat (fr (nt t2 b2) (nb t2 b2)), .dat (.bl k2), .dat (.int z), .dat (.lst [.non, .str "1", .str s, pr (nt t b) (nb t b), .lst [], .dct [], .bl true, .bl false, .tup [.str "a", .int 1], .lst [fr (nt t b) (nb t b)]]), .dead]) ?_ fun ρ e => ?_
  · repeat infer_instance
    · exact sp_str sx sy
    repeat infer_instance
    · exact sp_top
    repeat infer_instance
    · exact sp_bottom
    repeat infer_instance
    exact ⟨_, rfl⟩
  obtain ⟨s, rfl⟩ := e
  exact T_kerS (o := o2) (by kernel_rfl) ⟨rfl, hd2.mono (by omega)⟩
end
theorem sp_dice {ns : List Int} {k : Int} (k0 : 0 ≤ k) (k1 : k < 1000) : ∃ o, GO g__law_dice [.rdl (ns.map D.int), .int k] o ∧ Dice 0 o := go_dice k0 k1
theorem plain (ns : List Int) : ∃ ss', g_law [.dat (.rdl (ns.map D.int))] = some (.ok (.dat (.bl true)), ss') := by
  suffices h : GD g_law [.rdl (ns.map D.int)] (.bl true) by
    obtain ⟨ss', e, _⟩ := h
    exact ⟨ss', e⟩
  refine GD_of ?_
  unfold m_law
  refine T_cut (fun ρ => ∃ x y z, ρ = [.dat (.rdl (ns.map D.int)), x, y, z, .dead, .dead, .dead, .dead, .dead]) ?_ fun ρ e => ?_
  · repeat infer_instance
    generalize hN : (if (if ((ns.map D.int).length : Int) < 6 then ((ns.map D.int).length : Int) else 6) > 1 then (if ((ns.map D.int).length : Int) < 6 then ((ns.map D.int).length : Int) else 6) else 1) = N
    have hN6 : N ≤ 6 ∧ 1 ≤ N := by
      subst hN
      constructor
      · split
        · split <;> omega
        · omega
      · split
        · omega
        · omega
    refine L_rng1 ?_ ⟨by omega, by omega⟩
    refine T_rng (fun j ρ => ∃ x y z, ρ = [.dat (.rdl (ns.map D.int)), x, y, z, .dead, .dead, .dead, .dead, .dead]) N.toNat 0 ?_ ?_ ⟨_, _, _, rfl⟩
    · intro j ρ hj hI
      obtain ⟨x, y, z, rfl⟩ := hI
      refine L_name ?_
      obtain ⟨o, ho, hd⟩ := sp_dice (ns := ns) (k := 0 + (j : Int)) (by omega) (by omega)
      refine T_seq (T_setO (T_callO (T_ags1 (T_var rfl (T_ags1 (T_var rfl (T_ags0 (T_calO rfl rfl ho ?_))))))))
      repeat infer_instance
      refine L_rng1 ?_ ⟨by decide, by decide⟩
      refine T_rng (fun i ρ => ∃ o' z, Dice (100 * i) o' ∧ ρ = [.dat (.rdl (ns.map D.int)), .dat (.int (0 + (j : Int))), .own o', z, .dead, .dead, .dead, .dead, .dead]) 4 0 ?_ ?_ ⟨o, z, hd, rfl⟩
      · intro i ρ hi hI
        obtain ⟨o', z, hd', rfl⟩ := hI
        repeat infer_instance
        refine (sp_made_right hd' (by omega)).imp fun r o2 hr => ?_
        obtain ⟨rfl, hd2⟩ := hr
        repeat infer_instance
        refine (sp_equal_right hd2 (by omega)).imp fun r o3 hr => ?_
        obtain ⟨rfl, hd3⟩ := hr
        repeat infer_instance
        exact ⟨.inl rfl, o3, _, hd3.mono (by omega), rfl⟩
      · intro ρ hI
        obtain ⟨o', z, hd', rfl⟩ := hI
        exact ⟨.inl rfl, _, _, _, rfl⟩
    · intro ρ hI
      exact ⟨rfl, hI⟩
  obtain ⟨x, y, z, rfl⟩ := e
  exact T_ker (by kernel_rfl)
end K01
set_option Elab.async false
set_option linter.all false
set_option maxRecDepth 100000
set_option maxHeartbeats 4000000
open PySem PySem.W PySem.Calls PyProof.Rows
theorem PySem.Challenge.cw_surelyends_k01_fractions_as_values_holds : PySem.Challenge.rw_surelyends_k01_fractions_as_values.Holds := by
  w_on; o_law
  refine HandSHeadRun.head_any (r := OpenLaw.row PySem.Challenge.rw_surelyends_k01_fractions_as_values) (q := view (OpenLaw.row PySem.Challenge.rw_surelyends_k01_fractions_as_values).prog [27]) (H := K01.hk) (ob := K01.ob) (M := 4000) (loose := K01.lo) (d := HandSHeadRun.topDef (OpenLaw.row PySem.Challenge.rw_surelyends_k01_fractions_as_values).prog 27) (kwd := []) K01.ob_eq
    (by kernel_rfl) (fun s => by kernel_rfl) K01.run (by kernel_rfl) (by kernel_rfl) (by kernel_rfl) (by rfl) (by first | assumption | decide +kernel) (by decide +kernel) ⟨rfl, rfl, rfl, rfl, rfl, by decide +kernel⟩ ?hw ?hc
  case hw => w_witness2
  case hc =>
    refine L3.walkG (l := PySem.Challenge.rw_surelyends_k01_fractions_as_values) (n := 63) (k := 9) (x := "_law_script") rfl (by decide) (by kernel_rfl) ⟨rfl, by decide, by decide⟩ fun w mg fa h Y G hm0 => ?_
    obtain ⟨K, KX, c⟩ := Y
    have hm : mg ("law" : PySem.Str) = some (.ref fa) := by
      have e : (HandSHeadRun.topDef (OpenLaw.row PySem.Challenge.rw_surelyends_k01_fractions_as_values).prog 27).name = ("law" : PySem.Str) := by kernel_rfl
      rw [← e]
      exact hm0
    obtain ⟨A, T, hA⟩ := K01.facts KX G c
    obtain rfl : fa = A.f_law := by
      have e := hm.symm.trans T.g_law
      cases e
      rfl
    have hb := fun s v => L2.FunD.bindsA (ps := ["_law_script"]) T.f_law (fun _ _ _ _ _ _ us hl => match us, hl with | [_], _ => rfl) s [v] rfl
    exact ⟨K, A.d_law, K01.g_law, KX, hb, fun ns _ => K01.plain ns, fun base _ _ => K01.ok_law T⟩
