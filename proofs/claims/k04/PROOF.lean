import PyProof.Rows.All
import Wide.All
import OpenK.AllK
import Wide.FinOn
import HandS.ForMost
import HandS.ForExc
import HandS.HeadHook1
import HandS.ExcValue
import HandS.Defaults
import HandS.CallSlots
import HandS.Property
import HandS.Wide
import HandS.IsInst
import HandS.Style
import KE.KOpsOwn
import KE.KCallOwn
import HandS.FStr
import HandS.OwnEq
import HandS.Ends
import HandS.Head0
import HandS.Head1
import HandS.Head2
import HandS.HeadEnd
import HandS.HeadHook2
import PyProof.InstNe
import PyProof.EqKinds
import PyProof.NeKinds
import PyProof.FactsAll.dict
import HandS.ExcIs
import HandS.ExcField
import KE.KExcInit
import KE.KExcIs
import PyProof.ExcBaseAll.IndexError
import PyProof.ExcBaseAll.LookupError
import PyProof.ExcBaseAll.OverflowError
import PyProof.ExcBaseAll.ValueError
import HandS.RaiseMore
import HandS.Text
import HandS.Zip
import HandS.SortKw
import KE.GoesMore
import KE.GoesEnumKw
import HandS.Conv
import HandS.TupMul
import PySem.Challenge.RW_surelyends_k04_rows_times_mixes_cleared
set_option Elab.async false
set_option linter.all false
set_option maxRecDepth 100000
set_option maxHeartbeats 2000000
namespace L3
open PySem L2

/-! ### own classes and built-in exceptions, by number -/
def clsName : Nat → Str
  | 0 => "Fraction" | 1 => "Program" | 2 => "Tosser" | 3 => "Book" | 4 => "Shell" | 5 => "Reader" | 6 => "Bodies" | 7 => "Tableau" | 8 => "Dial"
  | 10 => "EndError" | 11 => "InvalidFraction" | 12 => "InvalidRows" | 13 => "InvalidProgram" | 14 => "InvalidValues" | 15 => "InvalidOperation" | 16 => "InvalidEdit" | 17 => "ParseError" | 18 => "InvalidCommand"
  | 19 => "InvalidNumber" | 20 => "UnknownName" | 21 => "TooMany" | 22 => "NothingToUndo"
  | 30 => "Content" | 31 => "Trial" | 32 => "StatementLine" | 33 => "BodyLine" | 34 => "Frame" | 35 => "Moment" | 36 => "TosserTrial"
  | _ => ""
def cA (K : PySem.W.Frag) (c : Nat) : Addr := He.ga K (clsName c)
def bltX : Nat → Option String
  | 100 => some "TypeError" | 101 => some "ValueError" | 102 => some "KeyError" | 103 => some "IndexError" | 104 => some "AttributeError" | 105 => some "StopIteration"
  | _ => none
def xV (K : PySem.W.Frag) (c : Nat) : Value := match bltX c with
  | some n => .type n
  | none => .ref (cA K c)

/-! ### data -/
inductive D where
  | non | bl (b : Bool) | int (i : Int) | str (x : Str) | ty (n : String) | obj (a : Addr)
  | tup (ds : List D) | lst (ds : List D) | rdl (ds : List D) | dct (kvs : List (Key × D)) | ins (C : Nat) (fs : List (Str × D))
  | exc (C : Nat) | exf (C : Nat) (fs : List (Str × D))
inductive OB where
  | lst (ds : List D) | ins (C : Nat) (fs : List (Str × D)) | dct (kvs : List (Key × D))
inductive S where
  | dead | dat (d : D) | own (o : OB) | par (o : OB)
@[reducible] def OB.toD : OB → D
  | .lst ds => .lst ds
  | .ins C fs => .ins C fs
  | .dct kvs => .dct kvs

/-- an exception object at a, of the class cls, its dict at d -/
def XO (cls : Value) (d a : Addr) : HO := .ext fun h => ∃ (oe : Obj) (vs : Array Value), h.get? a = some oe ∧ Zc cls (some d) oe ∧ oe.data = .fields vs

mutual
inductive Rep (K : PySem.W.Frag) (F : Hp) : V → D → Prop
  | non : Rep K F .non .non
  | bl (b : Bool) : Rep K F (.bl b) (.bl b)
  | int (i : Int) : Rep K F (.int i) (.int i)
  | str (x : Str) : Rep K F (.str x) (.str x)
  | ty (n : String) : Rep K F (.ty n) (.ty n)
  | obj (a : Addr) : Rep K F (.ref a) (.obj a)
  | tup {a : Addr} {xs : List V} {ds : List D} : SqT K F a xs → RepL K F xs ds → Rep K F (.ref a) (.tup ds)
  | lst {a : Addr} {xs : List V} {ds : List D} : F a = some (.lst xs) → RepL K F xs ds → Rep K F (.ref a) (.lst ds)
  | rdl {a : Addr} {xs : List V} {ds : List D} : SqL K F a xs → RepL K F xs ds → Rep K F (.ref a) (.rdl ds)
  | dct {a : Addr} {kvs : List (Key × V)} {ds : List (Key × D)} : F a = some (.dK kvs) → RepK K F kvs ds → Rep K F (.ref a) (.dct ds)
  | ins {a dx : Addr} {C : Nat} {fs : List (Str × V)} {ds : List (Str × D)} : F a = some (.ins (cA K C) dx fs) → RepF K F fs ds → Rep K F (.ref a) (.ins C ds)
  | exc {a : Addr} {C : Nat} : F a = some (ExO (.ref (cA K C)) a) → Rep K F (.ref a) (.exc C)
  | exf {a d : Addr} {C : Nat} {fs : List (Str × V)} {ds : List (Str × D)} : F a = some (XO (.ref (cA K C)) d a) → F d = some (.xd fs) → RepF K F fs ds → Rep K F (.ref a) (.exf C ds)
inductive RepL (K : PySem.W.Frag) (F : Hp) : List V → List D → Prop
  | nil : RepL K F [] []
  | cons {v : V} {d : D} {vs : List V} {ds : List D} : Rep K F v d → RepL K F vs ds → RepL K F (v :: vs) (d :: ds)
inductive RepF (K : PySem.W.Frag) (F : Hp) : List (Str × V) → List (Str × D) → Prop
  | nil : RepF K F [] []
  | cons {f : Str} {v : V} {d : D} {vs : List (Str × V)} {ds : List (Str × D)} : Rep K F v d → RepF K F vs ds → RepF K F ((f, v) :: vs) ((f, d) :: ds)
inductive RepK (K : PySem.W.Frag) (F : Hp) : List (Key × V) → List (Key × D) → Prop
  | nil : RepK K F [] []
  | cons {f : Key} {v : V} {d : D} {vs : List (Key × V)} {ds : List (Key × D)} : Rep K F v d → RepK K F vs ds → RepK K F ((f, v) :: vs) ((f, d) :: ds)
end
theorem same_sqT {K : PySem.W.Frag} {H H' : Hp} {a : Addr} {xs : List V} (e : Same H H') (h : SqT K H a xs) : SqT K H' a xs := by
  rcases h with (h | ⟨o, h⟩) | h
  · exact .inl (.inl (e _ _ h))
  · exact .inl (.inr ⟨o, e _ _ h⟩)
  · exact .inr h
section
variable {K : PySem.W.Frag} {F F' : Hp}
mutual
theorem Rep.mono (e : Same F F') : ∀ {v : V} {d : D}, Rep K F v d → Rep K F' v d
  | _, _, .non => .non
  | _, _, .bl b => .bl b
  | _, _, .int i => .int i
  | _, _, .str x => .str x
  | _, _, .ty n => .ty n
  | _, _, .obj a => .obj a
  | _, _, .tup h r => .tup (same_sqT e h) (RepL.mono e r)
  | _, _, .lst h r => .lst (e _ _ h) (RepL.mono e r)
  | _, _, .rdl h r => .rdl (e.seq h) (RepL.mono e r)
  | _, _, .dct h r => .dct (e _ _ h) (RepK.mono e r)
  | _, _, .ins h r => .ins (e _ _ h) (RepF.mono e r)
  | _, _, .exc h => .exc (e _ _ h)
  | _, _, .exf h h2 r => .exf (e _ _ h) (e _ _ h2) (RepF.mono e r)
theorem RepL.mono (e : Same F F') : ∀ {v : List V} {d : List D}, RepL K F v d → RepL K F' v d
  | _, _, .nil => .nil
  | _, _, .cons h r => .cons (Rep.mono e h) (RepL.mono e r)
theorem RepF.mono (e : Same F F') : ∀ {v : List (Str × V)} {d : List (Str × D)}, RepF K F v d → RepF K F' v d
  | _, _, .nil => .nil
  | _, _, .cons h r => .cons (Rep.mono e h) (RepF.mono e r)
theorem RepK.mono (e : Same F F') : ∀ {v : List (Key × V)} {d : List (Key × D)}, RepK K F v d → RepK K F' v d
  | _, _, .nil => .nil
  | _, _, .cons h r => .cons (Rep.mono e h) (RepK.mono e r)
end
end

/-- an owned object's content -/
inductive RepO (K : PySem.W.Frag) (F : Hp) : HO → OB → Prop
  | lst {xs : List V} {ds : List D} : RepL K F xs ds → RepO K F (.lst xs) (.lst ds)
  | ins {C : Nat} {dx : Addr} {fs : List (Str × V)} {ds : List (Str × D)} : RepF K F fs ds → RepO K F (.ins (cA K C) dx fs) (.ins C ds)
  | dct {kvs : List (Key × V)} {ds : List (Key × D)} : RepK K F kvs ds → RepO K F (.dK kvs) (.dct ds)
theorem RepO.mono {K : PySem.W.Frag} {F F' : Hp} (e : Same F F') {u : HO} {o : OB} : RepO K F u o → RepO K F' u o
  | .lst r => .lst (r.mono e)
  | .ins r => .ins (r.mono e)
  | .dct r => .dct (r.mono e)
theorem RepO.rep {K : PySem.W.Frag} {F : Hp} {u : HO} {o : OB} {a : Addr} (h : F a = some u) : RepO K F u o → Rep K F (.ref a) o.toD
  | .lst r => .lst h r
  | .ins r => .ins h r
  | .dct r => .dct h r

/-! ### the state -/
structure Ctx where
  F : Hp
  H : Hp
  pa : Nat → Option Addr
  hd : Addr → Option HO
def Ctx.io (c : Ctx) (a : Addr) : Prop := ∃ i, c.pa i = some a
def OwnAt (ρ : List S) (σ : St) (i : Nat) (a : Addr) : Prop := (∃ o, ρ[i]? = some (S.own o) ∨ ρ[i]? = some (S.par o)) ∧ σ[i]? = some (some (V.ref a))
def SlotOk (K : PySem.W.Frag) (c : Ctx) (F H : Hp) (i : Nat) (s : S) (x : Option V) : Prop := match s with
  | .dead => True
  | .dat d => ∃ v, x = some v ∧ Rep K F v d
  | .own o => ∃ a u, x = some (V.ref a) ∧ F a = none ∧ H a = some u ∧ RepO K F u o ∧ c.H a = none
  | .par o => ∃ a u, x = some (V.ref a) ∧ F a = none ∧ H a = some u ∧ RepO K F u o ∧ c.pa i = some a
structure W (K : PySem.W.Frag) (c : Ctx) (F : Hp) (ρ : List S) (σ : St) (H : Hp) : Prop where
  sub : Same F H
  ext : Same c.F F
  frm : ∀ b o, c.H b = some o → ¬ c.io b → H b = some o
  new : ∀ b o, F b = some o → c.F b = none → c.H b = none
  dom : ∀ b, H b = none → c.H b = none
  slot : ∀ (i : Nat) (s : S), ρ[i]? = some s → ∃ x, σ[i]? = some x ∧ SlotOk K c F H i s x
  dj : ∀ (i j : Nat) (a : Addr), OwnAt ρ σ i a → OwnAt ρ σ j a → i = j
  held : ∀ a u, c.hd a = some u → H a = some u ∧ F a = none ∧ ∀ j, ¬ OwnAt ρ σ j a

/-- an exception: its class, its fields -/
structure Xc where
  C : Nat
  fs : Option (List (Str × D))
inductive R (α : Type) where
  | ok (a : α) | ex (x : Xc)
abbrev M (α : Type) := List S → Option (R α × List S)
@[inline] def M.pure {α : Type} (a : α) : M α := fun ρ => some (.ok a, ρ)
@[inline] def M.bind {α β : Type} (m : M α) (f : α → M β) : M β := fun ρ => match m ρ with
  | some (.ok a, ρ1) => f a ρ1
  | some (.ex x, ρ1) => some (.ex x, ρ1)
  | none => none
@[inline] def M.lift {α : Type} (o : Option α) : M α := fun ρ => match o with
  | some a => some (.ok a, ρ)
  | none => none
def RepX (K : PySem.W.Frag) (F H : Hp) (d : Option Addr) (x : Xc) : Prop := match x.fs with
  | none => d = none
  | some ds => ∃ a fs, d = some a ∧ H a = some (.xd fs) ∧ RepF K F fs ds

/-! ### readings by semantics -/
def PostX (K : PySem.W.Frag) (Wx : WX) (c : Ctx) (F : Hp) (ρ' : List S) (σ : St) (x : Xc) : Prop :=
  ∀ F' d H', Same F F' → W K c F' ρ' σ H' → RepX K F' H' d x → Wx (xV K x.C) d σ H'
def PostR {α : Type} (K : PySem.W.Frag) (Wx : WX) (c : Ctx) (F : Hp) (ρ' : List S) (σ : St) (P : α → Hp → Hp → Prop) (r : R α) : Prop := match r with
  | .ok a => ∀ F' H', Same F F' → W K c F' ρ' σ H' → P a F' H'
  | .ex x => PostX K Wx c F ρ' σ x
/-- there is a state of data here, the semantics m has a result from it, and what follows holds behind -/
def tM {α : Type} (K : PySem.W.Frag) (Wx : WX) (m : M α) (σ : St) (H : Hp) (P : Ctx → List S → α → Hp → Hp → Prop) : Prop :=
  ∃ (c : Ctx) (F : Hp) (ρ : List S) (r : R α) (ρ' : List S), W K c F ρ σ H ∧ m ρ = some (r, ρ') ∧ PostR K Wx c F ρ' σ (P c ρ') r
def tE (K : PySem.W.Frag) (Wx : WX) (m : M D) : TE := fun σ H Q => tM K Wx m σ H fun _ _ d F' H' => ∀ v, Rep K F' v d → Q v H'
def tO (K : PySem.W.Frag) (Wx : WX) (m : M OB) : TE := fun σ H Q => tM K Wx m σ H fun c ρ' o F' H' => ∀ a u, F' a = none → H' a = some u → RepO K F' u o → c.H a = none → c.hd a = none → (∀ i, ¬ OwnAt ρ' σ i a) → Q (V.ref a) H'
def tT (K : PySem.W.Frag) (Wx : WX) (m : M Bool) : TT := fun σ H Q => tM K Wx m σ H fun _ _ b _ H' => Q b H'
def tA (K : PySem.W.Frag) (Wx : WX) (m : M (List D)) : TA := fun σ H Q => tM K Wx m σ H fun _ _ ds F' H' => ∀ vs, RepL K F' vs ds → Q vs H'
/-- an argument: data, or an owned object by its slot -/
inductive Ag where
  | d (d : D) | s (i : Nat)
inductive RepG (K : PySem.W.Frag) (F : Hp) (σ : St) : List V → List Ag → Prop
  | nil : RepG K F σ [] []
  | d {v : V} {d : D} {vs : List V} {gs : List Ag} : Rep K F v d → RepG K F σ vs gs → RepG K F σ (v :: vs) (.d d :: gs)
  | s {a : Addr} {i : Nat} {vs : List V} {gs : List Ag} : σ[i]? = some (some (V.ref a)) → RepG K F σ vs gs → RepG K F σ (V.ref a :: vs) (.s i :: gs)
theorem RepG.mono {K : PySem.W.Frag} {F F' : Hp} {σ : St} (e : Same F F') : ∀ {vs : List V} {gs : List Ag}, RepG K F σ vs gs → RepG K F' σ vs gs
  | _, _, .nil => .nil
  | _, _, .d h r => .d (h.mono e) (r.mono e)
  | _, _, .s h r => .s h (r.mono e)
def tG (K : PySem.W.Frag) (Wx : WX) (m : M (List Ag)) : TA := fun σ H Q => tM K Wx m σ H fun _ _ gs F' H' => ∀ vs, RepG K F' σ vs gs → Q vs H'
inductive Fl where
  | nx | bk | ct | rt (s : S)
/-- what a def hands back -/
def RepR (K : PySem.W.Frag) (c : Ctx) (F H : Hp) (v : V) (r : S) : Prop := match r with
  | .dat d => Rep K F v d
  | .own o => ∃ a u, v = V.ref a ∧ F a = none ∧ H a = some u ∧ RepO K F u o ∧ c.H a = none
  | _ => False
def PostS (K : PySem.W.Frag) (c : Ctx) (F : Hp) (ρ' : List S) (De : Ends) (f : Fl) : Prop := match f with
  | .nx => ∀ F' σ' H', Same F F' → W K c F' ρ' σ' H' → De.nx σ' H'
  | .bk => ∀ F' σ' H', Same F F' → W K c F' ρ' σ' H' → De.bk σ' H'
  | .ct => ∀ F' σ' H', Same F F' → W K c F' ρ' σ' H' → De.ct σ' H'
  | .rt s => ∀ F' σ' v H', Same F F' → W K c F' ρ' σ' H' → RepR K c F' H' v s → De.rt v H'
def PostF (K : PySem.W.Frag) (Wx : WX) (c : Ctx) (F : Hp) (ρ' : List S) (De : Ends) (r : R Fl) : Prop := match r with
  | .ok f => PostS K c F ρ' De f
  | .ex x => ∀ F' σ' d H', Same F F' → W K c F' ρ' σ' H' → RepX K F' H' d x → Wx (xV K x.C) d σ' H'
def tS (K : PySem.W.Frag) (Wx : WX) (m : M Fl) : TS := fun De σ H => ∃ (c : Ctx) (F : Hp) (ρ : List S) (r : R Fl) (ρ' : List S), W K c F ρ σ H ∧ m ρ = some (r, ρ') ∧ PostF K Wx c F ρ' De r

/-! ### the judgements -/
def PEM (X : Cx) (Wx : WX) (e : Expr) (m : M D) : Prop := PE X e (tE X.K Wx m)
def POM (X : Cx) (Wx : WX) (e : Expr) (m : M OB) : Prop := PE X e (tO X.K Wx m)
def PTM (X : Cx) (Wx : WX) (e : Expr) (m : M Bool) : Prop := PT X e (tT X.K Wx m)
def PAM (X : Cx) (Wx : WX) (es : List Expr) (m : M (List D)) : Prop := PA X es (tA X.K Wx m)
def PGM (X : Cx) (Wx : WX) (es : List Expr) (m : M (List Ag)) : Prop := PA X es (tG X.K Wx m)
def PSM (X : Cx) (Wx : WX) (st : Stmt) (m : M Fl) : Prop := PS X st (tS X.K Wx m)
def PSsM (X : Cx) (Wx : WX) (st : List Stmt) (m : M Fl) : Prop := PSs X st (tS X.K Wx m)
theorem pe_imp {X : Cx} {e : Expr} {t t' : TE} (h : PE X e t) (i : ∀ σ H Q, t' σ H Q → t σ H Q) : PE X e t' := ⟨fun pins s σ H Q I q => h.run pins s σ H Q I (i σ H Q q)⟩
theorem pt_imp {X : Cx} {e : Expr} {t t' : TT} (h : PT X e t) (i : ∀ σ H Q, t' σ H Q → t σ H Q) : PT X e t' := by
  constructor
  intro pins s σ H Q I q
  exact h.run pins s σ H Q I (i σ H Q q)
theorem pa_imp {X : Cx} {e : List Expr} {t t' : TA} (h : PA X e t) (i : ∀ σ H Q, t' σ H Q → t σ H Q) : PA X e t' := ⟨fun pos pins s σ H Q I q => h.run pos pins s σ H Q I (i σ H Q q)⟩
theorem ps_imp {X : Cx} {e : Stmt} {t t' : TS} (h : PS X e t) (i : ∀ De σ H, t' De σ H → t De σ H) : PS X e t' := ⟨fun pins s σ H De I q => h.run pins s σ H De I (i De σ H q)⟩
theorem pss_imp {X : Cx} {e : List Stmt} {t t' : TS} (h : PSs X e t) (i : ∀ De σ H, t' De σ H → t De σ H) : PSs X e t' := ⟨fun pins s σ H De I q => h.run pins s σ H De I (i De σ H q)⟩

section
variable {K : PySem.W.Frag} {Wx : WX} {c : Ctx} {F F' : Hp} {ρ ρ' : List S} {σ : St} {H : Hp}
theorem PostX.mono {x : Xc} (e : Same F F') (h : PostX K Wx c F ρ' σ x) : PostX K Wx c F' ρ' σ x := fun F2 d H2 e2 w r => h F2 d H2 (e.trans e2) w r
theorem bind_ok {α β : Type} {m : M α} {f : α → M β} {a : α} {ρ ρ1 : List S} (h : m ρ = some (.ok a, ρ1)) : M.bind m f ρ = f a ρ1 := by
  unfold M.bind
  rw [h]
theorem bind_ex {α β : Type} {m : M α} {f : α → M β} {x : Xc} {ρ ρ1 : List S} (h : m ρ = some (.ex x, ρ1)) : M.bind m f ρ = some (.ex x, ρ1) := by
  unfold M.bind
  rw [h]
theorem bind_inv {α β : Type} {m : M α} {f : α → M β} {r : R β} {ρ ρ' : List S} (h : M.bind m f ρ = some (r, ρ')) :
    (∃ a ρ1, m ρ = some (.ok a, ρ1) ∧ f a ρ1 = some (r, ρ')) ∨ ∃ x, m ρ = some (.ex x, ρ') ∧ r = .ex x := by
  unfold M.bind at h
  cases e : m ρ with
  | none => rw [e] at h; cases h
  | some p =>
    obtain ⟨ra, ρ1⟩ := p
    rw [e] at h
    cases ra with
    | ok a => exact .inl ⟨a, ρ1, rfl, h⟩
    | ex x => cases h; exact .inr ⟨x, rfl, rfl⟩
theorem lift_inv {α : Type} {o : Option α} {r : R α} {ρ ρ' : List S} (h : M.lift o ρ = some (r, ρ')) : ∃ a, o = some a ∧ r = .ok a ∧ ρ' = ρ := by
  unfold M.lift at h
  cases o with
  | none => cases h
  | some a => cases h; exact ⟨a, rfl, rfl, rfl⟩
end
/-! ### the state's lemmas -/
section
variable {K : PySem.W.Frag} {c : Ctx} {F F' : Hp} {ρ ρ' : List S} {σ : St} {H : Hp} {i : Nat} {v : V} {d : D} {a : Addr} {u : HO} {o : OB}
theorem get_set_some {α : Type} {l : List α} {i j : Nat} {x y : α} (h : (l.set i x)[j]? = some y) : (i = j ∧ y = x ∧ i < l.length) ∨ (i ≠ j ∧ l[j]? = some y) := by
  by_cases e : i = j
  · subst e
    by_cases hi : i < l.length
    · rw [List.getElem?_set_self hi] at h
      exact .inl ⟨rfl, (Option.some.inj h).symm, hi⟩
    · have : (l.set i x)[i]? = none := List.getElem?_eq_none_iff.mpr (by rw [List.length_set]; omega)
      rw [this] at h
      cases h
  · rw [List.getElem?_set_ne e] at h
    exact .inr ⟨e, h⟩
theorem W.len (w : W K c F ρ σ H) (hi : i < ρ.length) : i < σ.length := by
  obtain ⟨x, hx, _⟩ := w.slot i ρ[i] (List.getElem?_eq_getElem hi)
  exact (List.getElem?_eq_some_iff.mp hx).1
theorem own_set_ne {s : S} {x : Option V} {j : Nat} {b : Addr} (e : i ≠ j) (h : OwnAt (ρ.set i s) (σ.set i x) j b) : OwnAt ρ σ j b := by
  obtain ⟨⟨o, h1⟩, h2⟩ := h
  rw [List.getElem?_set_ne e] at h1 h2
  exact ⟨⟨o, h1⟩, h2⟩
/-- no new owner -/
theorem own_set_plain {s : S} {x : Option V} {j : Nat} {b : Addr} (hs : ∀ o, s ≠ .own o ∧ s ≠ .par o) (h : OwnAt (ρ.set i s) (σ.set i x) j b) : OwnAt ρ σ j b := by
  by_cases e : i = j
  · subst e
    obtain ⟨⟨o, h1⟩, _⟩ := h
    rcases h1 with h1 | h1
    · rcases get_set_some h1 with ⟨_, z, _⟩ | ⟨z, _⟩
      · exact absurd z.symm (hs o).1
      · exact absurd rfl z
    · rcases get_set_some h1 with ⟨_, z, _⟩ | ⟨z, _⟩
      · exact absurd z.symm (hs o).2
      · exact absurd rfl z
  · exact own_set_ne e h
theorem W.setP {s : S} {x : Option V} (w : W K c F ρ σ H) (hs : ∀ o, s ≠ .own o ∧ s ≠ .par o) (ok : SlotOk K c F H i s x) : W K c F (ρ.set i s) (σ.set i x) H := by
  refine ⟨w.sub, w.ext, w.frm, w.new, w.dom, fun j t hj => ?_, fun j k b h1 h2 => w.dj j k b (own_set_plain hs h1) (own_set_plain hs h2), fun b u hb => ?_⟩
  · rcases get_set_some hj with ⟨rfl, rfl, hi⟩ | ⟨e, hj⟩
    · exact ⟨_, List.getElem?_set_self (w.len hi), ok⟩
    · obtain ⟨y, hy, q⟩ := w.slot j t hj
      exact ⟨y, by rw [List.getElem?_set_ne e]; exact hy, q⟩
  · obtain ⟨h1, h2, h3⟩ := w.held b u hb
    exact ⟨h1, h2, fun j q => h3 j (own_set_plain hs q)⟩
/-- a slot gets data -/
theorem W.setD (w : W K c F ρ σ H) (r : Rep K F v d) : W K c F (ρ.set i (.dat d)) (σ.set i (some v)) H :=
  w.setP (fun o => ⟨(fun z => nomatch z), (fun z => nomatch z)⟩) ⟨v, rfl, r⟩
theorem W.setX (w : W K c F ρ σ H) (x : Option V) : W K c F (ρ.set i .dead) (σ.set i x) H :=
  w.setP (fun o => ⟨(fun z => nomatch z), (fun z => nomatch z)⟩) trivial
/-- a slot gets an object of its own -/
theorem W.setO (w : W K c F ρ σ H) (hF : F a = none) (hH : H a = some u) (r : RepO K F u o) (h0 : c.H a = none) (hh : c.hd a = none) (no : ∀ j, ¬ OwnAt ρ σ j a) :
    W K c F (ρ.set i (.own o)) (σ.set i (some (V.ref a))) H := by
  have at_ : ∀ {j : Nat} {b : Addr}, OwnAt (ρ.set i (.own o)) (σ.set i (some (V.ref a))) j b → (i = j ∧ b = a) ∨ (i ≠ j ∧ OwnAt ρ σ j b) := fun {j b} h => by
    by_cases e : i = j
    · subst e
      obtain ⟨_, h2⟩ := h
      rcases get_set_some h2 with ⟨_, z, _⟩ | ⟨z, _⟩
      · cases z; exact .inl ⟨rfl, rfl⟩
      · exact absurd rfl z
    · exact .inr ⟨e, own_set_ne e h⟩
  refine ⟨w.sub, w.ext, w.frm, w.new, w.dom, fun j s hj => ?_, fun j k b h1 h2 => ?_, fun b x hb => ?_⟩
  · rcases get_set_some hj with ⟨rfl, rfl, hi⟩ | ⟨e, hj⟩
    · exact ⟨_, List.getElem?_set_self (w.len hi), a, u, rfl, hF, hH, r, h0⟩
    · obtain ⟨x, hx, ok⟩ := w.slot j s hj
      exact ⟨x, by rw [List.getElem?_set_ne e]; exact hx, ok⟩
  · rcases at_ h1 with ⟨rfl, rfl⟩ | ⟨_, q1⟩
    · rcases at_ h2 with ⟨rfl, _⟩ | ⟨_, q2⟩
      · rfl
      · exact absurd q2 (no k)
    · rcases at_ h2 with ⟨rfl, rfl⟩ | ⟨_, q2⟩
      · exact absurd q1 (no j)
      · exact w.dj j k b q1 q2
  · obtain ⟨h1, h2, h3⟩ := w.held b x hb
    refine ⟨h1, h2, fun j q => ?_⟩
    rcases at_ q with ⟨_, rfl⟩ | ⟨_, q⟩
    · rw [hh] at hb; cases hb
    · exact h3 j q
theorem same_upd (h : F a = none) : Same F (upd F a u) := fun b o e => by
  rw [upd_ne (ne_of_none e h)]
  exact e
/-- an object of its own, in no slot, is frozen -/
theorem W.frz (w : W K c F ρ σ H) (hF : F a = none) (hH : H a = some u) (h0 : c.H a = none) (hh : c.hd a = none) (no : ∀ j, ¬ OwnAt ρ σ j a) : W K c (upd F a u) ρ σ H := by
  refine ⟨fun b x e => ?_, w.ext.trans (same_upd hF), w.frm, fun b x e n => ?_, w.dom, fun j s hj => ?_, w.dj, fun b x hb => ?_⟩
  · by_cases hb : b = a
    · subst hb
      rw [upd_same] at e
      cases e
      exact hH
    · rw [upd_ne hb] at e
      exact w.sub _ _ e
  · by_cases hb : b = a
    · rw [hb]; exact h0
    · rw [upd_ne hb] at e
      exact w.new _ _ e n
  · obtain ⟨x, hx, ok⟩ := w.slot j s hj
    refine ⟨x, hx, ?_⟩
    cases s with
    | dead => trivial
    | dat d => obtain ⟨v, e, r⟩ := ok; exact ⟨v, e, r.mono (same_upd hF)⟩
    | own o =>
      obtain ⟨b, u', e, f, g, r, h⟩ := ok
      have ne : b ≠ a := fun z => no j ⟨⟨o, .inl hj⟩, by rw [hx, e, z]⟩
      exact ⟨b, u', e, by rw [upd_ne ne]; exact f, g, r.mono (same_upd hF), h⟩
    | par o =>
      obtain ⟨b, u', e, f, g, r, h⟩ := ok
      have ne : b ≠ a := fun z => no j ⟨⟨o, .inr hj⟩, by rw [hx, e, z]⟩
      exact ⟨b, u', e, by rw [upd_ne ne]; exact f, g, r.mono (same_upd hF), h⟩
  · obtain ⟨h1, h2, h3⟩ := w.held b x hb
    refine ⟨h1, ?_, h3⟩
    rw [upd_ne (fun z => by rw [z, hh] at hb; cases hb)]
    exact h2
/-- an owned object is in the heap -/
theorem W.own_in (w : W K c F ρ σ H) {j : Nat} (h : OwnAt ρ σ j a) : ∃ u, H a = some u := by
  obtain ⟨⟨o, h1⟩, h2⟩ := h
  rcases h1 with h1 | h1
  · obtain ⟨x, hx, b, u', e, _, g, _⟩ := w.slot j _ h1
    rw [h2] at hx
    cases hx
    cases e
    exact ⟨_, g⟩
  · obtain ⟨x, hx, b, u', e, _, g, _⟩ := w.slot j _ h1
    rw [h2] at hx
    cases hx
    cases e
    exact ⟨_, g⟩
/-- a new object, not frozen, in no slot -/
theorem W.alloc (w : W K c F ρ σ H) (hp : H a = none) : W K c F ρ σ (upd H a u) ∧ F a = none ∧ c.H a = none ∧ c.hd a = none ∧ ∀ j, ¬ OwnAt ρ σ j a := by
  have hF : F a = none := w.sub.free hp
  have hh : c.hd a = none := by
    cases e : c.hd a with
    | none => rfl
    | some x =>
      have q := (w.held a x e).1
      rw [hp] at q
      cases q
  have no : ∀ j, ¬ OwnAt ρ σ j a := fun j h => by
    obtain ⟨u, hu⟩ := w.own_in h
    rw [hp] at hu
    cases hu
  refine ⟨⟨fun b x e => ?_, w.ext, fun b x e n => ?_, w.new, fun b e => ?_, fun j s hj => ?_, w.dj, fun b x hb => ?_⟩, hF, w.dom _ hp, hh, no⟩
  · rw [upd_ne (ne_of_none (w.sub _ _ e) hp)]
    exact w.sub _ _ e
  · rw [upd_ne (ne_of_none (w.frm _ _ e n) hp)]
    exact w.frm _ _ e n
  · by_cases hb : b = a
    · rw [hb, upd_same] at e
      cases e
    · rw [upd_ne hb] at e
      exact w.dom _ e
  · obtain ⟨x, hx, ok⟩ := w.slot j s hj
    refine ⟨x, hx, ?_⟩
    cases s with
    | dead => trivial
    | dat d => exact ok
    | own o =>
      obtain ⟨b, u', e, f, g, r, h⟩ := ok
      exact ⟨b, u', e, f, by rw [upd_ne (ne_of_none g hp)]; exact g, r, h⟩
    | par o =>
      obtain ⟨b, u', e, f, g, r, h⟩ := ok
      exact ⟨b, u', e, f, by rw [upd_ne (ne_of_none g hp)]; exact g, r, h⟩
  · obtain ⟨h1, h2, h3⟩ := w.held b x hb
    exact ⟨by rw [upd_ne (ne_of_none h1 hp)]; exact h1, h2, h3⟩
/-- a new object, frozen at once -/
theorem W.allocF (w : W K c F ρ σ H) (hp : H a = none) : W K c (upd F a u) ρ σ (upd H a u) ∧ Same F (upd F a u) := by
  obtain ⟨w1, hF, h0, hh, no⟩ := w.alloc (u := u) hp
  exact ⟨w1.frz hF upd_same h0 hh no, same_upd hF⟩
/-- the kind of slot stays, its object is another -/
def S.put (s : S) (o : OB) : S := match s with
  | .par _ => .par o
  | _ => .own o
/-- the object of slot i changes -/
theorem W.chg {s : S} (w : W K c F ρ σ H) (hs : ρ[i]? = some s) (h : OwnAt ρ σ i a) (r : RepO K F u o) : W K c F (ρ.set i (s.put o)) σ (upd H a u) := by
  have h' := h
  obtain ⟨⟨o0, h1⟩, h2⟩ := h'
  have key : F a = none ∧ (∀ b x, c.H b = some x → ¬ c.io b → b ≠ a) ∧ SlotOk K c F (upd H a u) i (s.put o) (some (V.ref a)) := by
    rcases h1 with h1 | h1
    · obtain ⟨x, hx, b, u', e, f, g, _, h0⟩ := w.slot i _ h1
      rw [h2] at hx
      cases hx
      cases e
      rw [hs] at h1
      cases h1
      refine ⟨f, fun b x e n z => ?_, a, u, rfl, f, upd_same, r, h0⟩
      rw [z, h0] at e; cases e
    · obtain ⟨x, hx, b, u', e, f, g, _, h0⟩ := w.slot i _ h1
      rw [h2] at hx
      cases hx
      cases e
      rw [hs] at h1
      cases h1
      exact ⟨f, fun b x e n z => n ⟨i, by rw [z]; exact h0⟩, a, u, rfl, f, upd_same, r, h0⟩
  obtain ⟨fa, hne, hok⟩ := key
  have own' : ∀ {j : Nat} {b : Addr}, OwnAt (ρ.set i (s.put o)) σ j b → OwnAt ρ σ j b := fun {j b} q => by
    by_cases e : i = j
    · subst e
      exact ⟨⟨o0, h1⟩, q.2⟩
    · obtain ⟨⟨o', q1⟩, q2⟩ := q
      rw [List.getElem?_set_ne e] at q1
      exact ⟨⟨o', q1⟩, q2⟩
  refine ⟨fun b x e => ?_, w.ext, fun b x e n => ?_, w.new, fun b e => ?_, fun j t hj => ?_, fun j k b q1 q2 => w.dj j k b (own' q1) (own' q2), fun b x hb => ?_⟩
  · rw [upd_ne (ne_of_none e fa)]
    exact w.sub _ _ e
  · rw [upd_ne (hne b x e n)]
    exact w.frm _ _ e n
  · by_cases hb : b = a
    · rw [hb, upd_same] at e
      cases e
    · rw [upd_ne hb] at e
      exact w.dom _ e
  · rcases get_set_some hj with ⟨rfl, rfl, hi⟩ | ⟨e, hj⟩
    · exact ⟨_, h2, hok⟩
    · obtain ⟨x, hx, ok⟩ := w.slot j t hj
      refine ⟨x, hx, ?_⟩
      cases t with
      | dead => trivial
      | dat d => exact ok
      | own o' =>
        obtain ⟨b, u', e', f, g, r', h0⟩ := ok
        have ne : b ≠ a := fun z => e (w.dj i j a h ⟨⟨o', .inl hj⟩, by rw [hx, e', z]⟩)
        exact ⟨b, u', e', f, by rw [upd_ne ne]; exact g, r', h0⟩
      | par o' =>
        obtain ⟨b, u', e', f, g, r', h0⟩ := ok
        have ne : b ≠ a := fun z => e (w.dj i j a h ⟨⟨o', .inr hj⟩, by rw [hx, e', z]⟩)
        exact ⟨b, u', e', f, by rw [upd_ne ne]; exact g, r', h0⟩
  · obtain ⟨q1, q2, q3⟩ := w.held b x hb
    exact ⟨by rw [upd_ne (fun z => q3 i (by rw [z]; exact h))]; exact q1, q2, fun j q => q3 j (own' q)⟩
/-- an object that no slot owns is held -/
theorem W.hold (w : W K c F ρ σ H) (hF : F a = none) (hH : H a = some u) (no : ∀ j, ¬ OwnAt ρ σ j a) : W K { c with hd := fun b => if b = a then some u else c.hd b } F ρ σ H := by
  refine ⟨w.sub, w.ext, w.frm, w.new, w.dom, fun j s hj => ?_, w.dj, fun b x hb => ?_⟩
  · obtain ⟨x, hx, ok⟩ := w.slot j s hj
    refine ⟨x, hx, ?_⟩
    cases s <;> exact ok
  · have hb' : (if b = a then some u else c.hd b) = some x := hb
    by_cases e : b = a
    · subst e
      rw [if_pos rfl] at hb'
      cases hb'
      exact ⟨hH, hF, no⟩
    · rw [if_neg e] at hb'
      exact w.held b x hb'
/-- .. and let go -/
theorem W.unhold (w : W K { c with hd := fun b => if b = a then some u else c.hd b } F ρ σ H) (n : c.hd a = none) : W K c F ρ σ H ∧ H a = some u ∧ F a = none ∧ ∀ j, ¬ OwnAt ρ σ j a := by
  have q := w.held a u (by show (if a = a then some u else c.hd a) = some u; rw [if_pos rfl])
  refine ⟨⟨w.sub, w.ext, w.frm, w.new, w.dom, fun j s hj => ?_, w.dj, fun b x hb => ?_⟩, q.1, q.2.1, q.2.2⟩
  · obtain ⟨x, hx, ok⟩ := w.slot j s hj
    refine ⟨x, hx, ?_⟩
    cases s <;> exact ok
  · refine w.held b x ?_
    show (if b = a then some u else c.hd b) = some x
    rw [if_neg (fun z => by rw [z, n] at hb; cases hb)]
    exact hb
end
end L3
set_option Elab.async false
set_option linter.all false
set_option maxRecDepth 100000
set_option maxHeartbeats 2000000
namespace L3
open PySem PySem.Spec PyProof.Rows L2

/-! ### defs: semantics of a whole def -/
abbrev G := List S → Option (R S × List S)
def parsOk : List S → List S → Bool
  | [], _ => true
  | .par _ :: ss, .par _ :: ρ => parsOk ss ρ
  | .par _ :: _, _ => false
  | _ :: ss, _ :: ρ => parsOk ss ρ
  | _ :: _, [] => false
def fin (ss ρ' : List S) (r : R S) : Option (R S × List S) := if parsOk ss ρ' then some (r, ρ'.take ss.length) else none
def fnSem (n : Nat) (m : M Fl) : G := fun ss => match m (ss ++ List.replicate (n - ss.length) .dead) with
  | some (.ok .nx, ρ') => fin ss ρ' (.ok (.dat .non))
  | some (.ok (.rt s), ρ') => fin ss ρ' (.ok s)
  | some (.ex x, ρ') => fin ss ρ' (.ex x)
  | _ => none

structure ArgS (K : PySem.W.Frag) (F H : Hp) (vs : List V) (ss : List S) : Prop where
  len : ss.length = vs.length
  at_ : ∀ (i : Nat) (s : S), ss[i]? = some s → ∃ v, vs[i]? = some v ∧ match s with
    | .dat d => Rep K F v d
    | .par o => ∃ a u, v = V.ref a ∧ F a = none ∧ H a = some u ∧ RepO K F u o
    | _ => False
  dj : ∀ (i j : Nat) (o o' : OB) (a : Addr), ss[i]? = some (.par o) → ss[j]? = some (.par o') → vs[i]? = some (V.ref a) → vs[j]? = some (V.ref a) → i = j
def ioAt (vs : List V) (ss : List S) (b : Addr) : Prop := ∃ (i : Nat) (o : OB), ss[i]? = some (.par o) ∧ vs[i]? = some (V.ref b)
structure Ret (K : PySem.W.Frag) (F H : Hp) (vs : List V) (ss : List S) (F' H' : Hp) (ss' : List S) : Prop where
  sub : Same F' H'
  ext : Same F F'
  frm : ∀ b o, H b = some o → ¬ ioAt vs ss b → H' b = some o
  new : ∀ b o, F' b = some o → F b = none → H b = none
  dom : ∀ b, H' b = none → H b = none
  par : ∀ (i : Nat) (o : OB), ss[i]? = some (.par o) → ∃ a u o', vs[i]? = some (V.ref a) ∧ ss'[i]? = some (.par o') ∧ F' a = none ∧ H' a = some u ∧ RepO K F' u o'
def RetV (K : PySem.W.Frag) (F H H' : Hp) (v : V) (r : S) : Prop := match r with
  | .dat d => Rep K F v d
  | .own o => ∃ a u, v = V.ref a ∧ F a = none ∧ H' a = some u ∧ RepO K F u o ∧ H a = none
  | _ => False
/-- a def's promise by its semantics -/
def spG (K : PySem.W.Frag) (n : Nat) (g : G) : Sp := fun vs H Q E => vs.length = n ∧ ∃ F ss r ss', Same F H ∧ ArgS K F H vs ss ∧ g ss = some (r, ss') ∧ match r with
  | .ok s => ∀ F' v H', Ret K F H vs ss F' H' ss' → RetV K F' H H' v s → Q v H'
  | .ex x => ∀ F' d H', Ret K F H vs ss F' H' ss' → RepX K F' H' d x → E (xV K x.C) d H'

def paOf (vs : List V) (ss : List S) (i : Nat) : Option Addr := match ss[i]?, vs[i]? with
  | some (.par _), some (.ref a) => some a
  | _, _ => none
theorem paOf_some {vs : List V} {ss : List S} {i : Nat} {a : Addr} (h : paOf vs ss i = some a) : ∃ o, ss[i]? = some (.par o) ∧ vs[i]? = some (V.ref a) := by
  unfold paOf at h
  cases e1 : ss[i]? with
  | none => rw [e1] at h; cases h
  | some s =>
    cases e2 : vs[i]? with
    | none => rw [e1, e2] at h; cases s <;> cases h
    | some v =>
      rw [e1, e2] at h
      cases s <;> cases v <;> first | (cases h; done) | (cases h; exact ⟨_, rfl, rfl⟩)
theorem paOf_of {vs : List V} {ss : List S} {i : Nat} {a : Addr} {o : OB} (h1 : ss[i]? = some (.par o)) (h2 : vs[i]? = some (V.ref a)) : paOf vs ss i = some a := by
  unfold paOf
  rw [h1, h2]

theorem w_start {K : PySem.W.Frag} {F H : Hp} {vs : List V} {ss : List S} {N : List Str} (sub : Same F H) (A : ArgS K F H vs ss) (hN : vs.length ≤ N.length) :
    W K ⟨F, H, paOf vs ss, fun _ => none⟩ F (ss ++ List.replicate (N.length - ss.length) .dead) (L2.start N vs) H := by
  have hl := A.len
  have look : ∀ (i : Nat) (s : S), (ss ++ List.replicate (N.length - ss.length) S.dead)[i]? = some s → (ss[i]? = some s ∧ i < ss.length) ∨ (s = .dead ∧ ss.length ≤ i ∧ i < N.length) := fun i s h => by
    by_cases hi : i < ss.length
    · rw [List.getElem?_append_left hi] at h
      exact .inl ⟨h, hi⟩
    · rw [List.getElem?_append_right (by omega), List.getElem?_replicate] at h
      split at h
      · cases h
        exact .inr ⟨rfl, by omega, by omega⟩
      · cases h
  have st : ∀ (i : Nat) (v : V), vs[i]? = some v → (L2.start N vs)[i]? = some (some v) := fun i v h => by
    unfold L2.start
    have hi := (List.getElem?_eq_some_iff.mp h).1
    rw [List.getElem?_append_left (by rw [List.length_map]; exact hi), List.getElem?_map, h]
    rfl
  have own : ∀ {i : Nat} {a : Addr}, OwnAt (ss ++ List.replicate (N.length - ss.length) S.dead) (L2.start N vs) i a → ∃ o, ss[i]? = some (.par o) ∧ vs[i]? = some (V.ref a) := fun {i a} h => by
    obtain ⟨⟨o, h1⟩, h2⟩ := h
    rcases h1 with h1 | h1
    · rcases look _ _ h1 with ⟨q, _⟩ | ⟨q, _⟩
      · obtain ⟨v, _, z⟩ := A.at_ _ _ q
        exact z.elim
      · cases q
    · rcases look _ _ h1 with ⟨q, _⟩ | ⟨q, _⟩
      · obtain ⟨v, hv, _⟩ := A.at_ _ _ q
        rw [st _ _ hv] at h2
        cases h2
        exact ⟨o, q, hv⟩
      · cases q
  refine ⟨sub, Same.refl _, fun b o e _ => e, fun b o e n => ?_, fun b e => e, fun i s h => ?_, fun i j a h1 h2 => ?_, fun b u hb => nomatch hb⟩
  · have n' : F b = none := n
    rw [n'] at e
    cases e
  · rcases look _ _ h with ⟨q, _⟩ | ⟨rfl, h1, h2⟩
    · obtain ⟨v, hv, ok⟩ := A.at_ _ _ q
      refine ⟨some v, st _ _ hv, ?_⟩
      cases s with
      | dead => trivial
      | dat d => exact ⟨v, rfl, ok⟩
      | own o => exact ok.elim
      | par o =>
        obtain ⟨a, u, rfl, f, g, r⟩ := ok
        exact ⟨a, u, rfl, f, g, r, paOf_of q hv⟩
    · have hlt : i < (L2.start N vs).length := by
        unfold L2.start
        rw [List.length_append, List.length_map, List.length_replicate]
        omega
      exact ⟨_, List.getElem?_eq_getElem hlt, trivial⟩
  · obtain ⟨o1, a1, b1⟩ := own h1
    obtain ⟨o2, a2, b2⟩ := own h2
    exact A.dj i j o1 o2 a a1 a2 b1 b2

theorem parsOk_get : ∀ {ss ρ : List S} {i : Nat} {o : OB}, parsOk ss ρ = true → ss[i]? = some (.par o) → ∃ o', ρ[i]? = some (.par o')
  | [], _, _, _, _, h => by simp at h
  | .par o :: ss, .par o' :: ρ, 0, _, _, _ => ⟨o', rfl⟩
  | .par o :: ss, .par o' :: ρ, i + 1, _, h, e => parsOk_get (ss := ss) (ρ := ρ) (i := i) (by simpa [parsOk] using h) (by simpa using e)
  | .par _ :: _, [], _, _, h, _ => by simp [parsOk] at h
  | .par _ :: _, .dead :: _, _, _, h, _ => by simp [parsOk] at h
  | .par _ :: _, .dat _ :: _, _, _, h, _ => by simp [parsOk] at h
  | .par _ :: _, .own _ :: _, _, _, h, _ => by simp [parsOk] at h
  | .dead :: _, _ :: _, 0, _, _, e => by simp at e
  | .dat _ :: _, _ :: _, 0, _, _, e => by simp at e
  | .own _ :: _, _ :: _, 0, _, _, e => by simp at e
  | .dead :: ss, x :: ρ, i + 1, _, h, e => parsOk_get (ss := ss) (ρ := ρ) (i := i) (by simpa [parsOk] using h) (by simpa using e)
  | .dat _ :: ss, x :: ρ, i + 1, _, h, e => parsOk_get (ss := ss) (ρ := ρ) (i := i) (by simpa [parsOk] using h) (by simpa using e)
  | .own _ :: ss, x :: ρ, i + 1, _, h, e => parsOk_get (ss := ss) (ρ := ρ) (i := i) (by simpa [parsOk] using h) (by simpa using e)
  | .dead :: _, [], _, _, h, _ => by simp [parsOk] at h
  | .dat _ :: _, [], _, _, h, _ => by simp [parsOk] at h
  | .own _ :: _, [], _, _, h, _ => by simp [parsOk] at h

theorem w_end {K : PySem.W.Frag} {F H F' H' : Hp} {vs : List V} {ss ρ' : List S} {σ' : L2.St} (w : W K ⟨F, H, paOf vs ss, fun _ => none⟩ F' ρ' σ' H') (hp : parsOk ss ρ' = true) :
    Ret K F H vs ss F' H' (ρ'.take ss.length) := by
  refine ⟨w.sub, w.ext, fun b o e n => w.frm b o e fun ⟨i, hi⟩ => ?_, w.new, w.dom, fun i o h => ?_⟩
  · obtain ⟨o', h1, h2⟩ := paOf_some hi
    exact n ⟨i, o', h1, h2⟩
  · obtain ⟨o', ho⟩ := parsOk_get hp h
    obtain ⟨x, hx, a, u, e, f, g, r, q⟩ := w.slot i _ ho
    obtain ⟨_, _, hv⟩ := paOf_some q
    refine ⟨a, u, o', hv, ?_, f, g, r⟩
    rw [List.getElem?_take_of_lt (List.getElem?_eq_some_iff.mp h).1]
    exact ho

/-! ### FnG: as FnOk, where no repr runs around -/
structure FnG (P : Program) (w : World) (K : PySem.W.Frag) (mg : Str → Option Value) (base : Heap) (k : Nat) (f : Addr) (fd : FuncData) (ps : List Str) (sp : Sp) : Prop where
  len : ∀ vs H Q E, sp vs H Q E → vs.length = ps.length
  run : ∀ (A : Around) (outer : List Env) (s : Shared) (H : Hp) (args : Args) (us : List Value) (vs : List V) (Q : VK) (E : XK), A.guards = some [] → Room k A → Env0 P w K mg base A outer s H →
    BindsTo s fd args (ps.zip us) → Vals vs us → sp vs H Q E → codeAny (model P w) A (.call (.ref f) args) (CR (CX P w) outer P w H s Q E) s
theorem FnG.mono {P : Program} {w : World} {K : PySem.W.Frag} {mg : Str → Option Value} {base : Heap} {j k : Nat} {f : Addr} {fd : FuncData} {ps : List Str} {sp : Sp} (h : FnG P w K mg base j f fd ps sp) (hk : j ≤ k) : FnG P w K mg base k f fd ps sp :=
  ⟨h.len, fun A o s H a us vs Q E hg hr => h.run A o s H a us vs Q E hg (hr.mono hk)⟩

section
variable {P : Program} {w : World} {K : PySem.W.Frag} {mg : Str → Option Value} {base : Heap} {x qual : Str} {params : Arguments} {body : List Stmt} {scope : Scope} {dvs : List V} {kws : List (Str × V)} {f : Addr} {fd : FuncData} {N ps : List Str} {k : Nat}
/-- a def by its body, the guards known -/
theorem fng_of {sp : Sp} (Fd : FunD K x qual params body scope dvs kws f fd) (Sc : FnScope N ps scope) (len : ∀ vs H Q E, sp vs H Q E → vs.length = ps.length)
    (hbody : ∀ (cdv : Value) (A : Around) (outer : List Env) (s : Shared) (H : Hp) (vs : List V) (Q : VK) (E : XK), (A.deeper (envOfC qual scope s.heap.objs.size f cdv)).guards = some [] →
      Room k (A.deeper (envOfC qual scope s.heap.objs.size f cdv)) → sp vs H Q E →
      ∃ t, PSs (cxOf (CX P w) P w K mg base N qual scope f cdv A outer s H E) body t ∧ t { nx := fun _ H' => Q .non H', rt := Q } (L2.start N vs) H) :
    FnG P w K mg base (k + 1) f fd ps sp := by
  obtain ⟨oc, od, dV, kV, doc, pm, an, cdv, ct, osl, rfl, lk, hcd, _, _⟩ := Fd.ex
  refine ⟨len, fun A outer s H args us vs Q E hg hr e0 hb rv hsp => ?_⟩
  have KX : K.In s.heap := e0.mod.kin.keeps fun b o e => (e0.bs b o e).1
  have lim := e0.mod.nolimit.keeps fun b o e => (e0.bs b o e).1
  have hkind : ∀ y ∈ ps.zip us, scope.names.lookup y.1 = some .local ∨
      (scope.names.lookup y.1 = some .cell ∧ ((cellsFrom (s.heap.objs.size + 1) scope.names []).lookup y.1).isSome = true) := by
    intro y hy
    obtain ⟨n, v⟩ := y
    cases Sc.par n (List.of_mem_zip hy).1 with
    | inl q => exact Or.inl q
    | inr q => exact Or.inr ⟨q, PySem.W.cellsFrom_some _ _ _ (Or.inl q)⟩
  apply codeAny_call_function hr.depth (KX _ _ lk) rfl Sc.co Sc.gen rfl (PySem.W.codeRec_of KX hcd)
  apply hb
  apply wpAny_newFunctionEnv_cells Sc.kind hkind
  intro env he s1 ic
  subst he
  refine ⟨lim.keeps ic.toInCall.keep, codeAny_func ?_⟩
  obtain ⟨t, ht, hq⟩ := hbody cdv A outer s H vs Q E (by first | exact hg | simpa using hg) (hr.deeper _) hsp
  have I0 := inv_start (CX := CX P w) (E := E) Sc hr.hd e0 (len _ _ _ _ hsp) rv ic
  apply wpAny_mono (ht.run [] s1 (L2.start N vs) H _ I0 hq)
  · intro fl s' hs
    have done : ∀ {σ' : L2.St} {H' : Hp} {v : V} {u : Value}, Inv (cxOf (CX P w) P w K mg base N qual scope f cdv A outer s H E) [] σ' H' s' → RelV v u → Q v H' → CE outer P w H s Q u s' := by
      intro σ' H' v u J r q
      exact ⟨v, H', J.os, J.bare, J.base, J.hok, r, q⟩
    cases fl with
    | ret u =>
      obtain ⟨v, σ', H', J, r, q⟩ := hs
      exact done J r q
    | next =>
      obtain ⟨σ', H', J, q⟩ := hs
      exact done (v := V.non) (u := Value.none) J rfl q
    | brk => exact hs.choose_spec.choose_spec.2.elim
    | cont => exact hs.choose_spec.choose_spec.2.elim
  · exact fun _ _ h => h
/-- the body's wish -/
abbrev WE_ (E : XK) : WX := fun cls d _ H => E cls d H
/-- THE RULE: a def by its body's joined judgement -/
theorem fng_sem {m : M Fl} (Fd : FunD K x qual params body scope dvs kws f fd) (Sc : FnScope N ps scope)
    (hbody : ∀ (cdv : Value) (A : Around) (outer : List Env) (s : Shared) (H : Hp) (E : XK), (A.deeper (envOfC qual scope s.heap.objs.size f cdv)).guards = some [] →
      Room k (A.deeper (envOfC qual scope s.heap.objs.size f cdv)) → PSsM (cxOf (CX P w) P w K mg base N qual scope f cdv A outer s H E) (WE_ E) body m) :
    FnG P w K mg base (k + 1) f fd ps (spG K ps.length (fnSem N.length m)) := by
  refine fng_of Fd Sc (fun vs H Q E h => h.1) fun cdv A outer s H vs Q E hg hr h => ?_
  refine ⟨_, hbody cdv A outer s H E hg hr, ?_⟩
  obtain ⟨hl, F, ss, r, ss', sub, ar, hg', post⟩ := h
  have hN : vs.length ≤ N.length := by
    have := congrArg List.length Sc.pre
    rw [List.length_take] at this
    omega
  have w0 := w_start (N := N) sub ar hN
  unfold fnSem at hg'
  cases e : m (ss ++ List.replicate (N.length - ss.length) .dead) with
  | none => rw [e] at hg'; cases hg'
  | some p =>
    obtain ⟨rm, ρ'⟩ := p
    rw [e] at hg'
    refine ⟨_, F, _, rm, ρ', w0, e, ?_⟩
    cases rm with
    | ok fl =>
      cases fl with
      | bk => cases hg'
      | ct => cases hg'
      | nx =>
        have hg2 : fin ss ρ' (.ok (.dat .non)) = some (r, ss') := hg'
        unfold fin at hg2
        split at hg2
        · rename_i hp
          cases hg2
          intro F' σ' H' _ w
          exact post F' .non H' (w_end w hp) .non
        · cases hg2
      | rt s =>
        have hg2 : fin ss ρ' (.ok s) = some (r, ss') := hg'
        unfold fin at hg2
        split at hg2
        · rename_i hp
          cases hg2
          intro F' σ' v H' _ w rr
          refine post F' v H' (w_end w hp) ?_
          cases s with
          | dead => exact rr
          | par o => exact rr
          | dat d => exact rr
          | own o => exact rr
        · cases hg2
    | ex x =>
      have hg2 : fin ss ρ' (.ex x) = some (r, ss') := hg'
      unfold fin at hg2
      split at hg2
      · rename_i hp
        cases hg2
        intro F' σ' d H' _ w rx
        exact post F' d H' (w_end w hp) rx
      · cases hg2
end
end L3
set_option Elab.async false
set_option linter.all false
set_option maxRecDepth 100000
set_option maxHeartbeats 2000000
namespace L3
open PySem PySem.Spec PyProof.Rows L2

section
variable {K : PySem.W.Frag} {Wx : WX} {c : Ctx} {F F' : Hp} {ρ ρ' : List S} {σ : L2.St} {H : Hp}
theorem PostR.mono {α : Type} {P : α → Hp → Hp → Prop} {r : R α} (e : Same F F') (h : PostR K Wx c F ρ' σ P r) : PostR K Wx c F' ρ' σ P r := by
  cases r with
  | ok a => exact fun F2 H2 e2 w => h F2 H2 (e.trans e2) w
  | ex x => exact PostX.mono e h
theorem PostR.imp {α : Type} {P P' : α → Hp → Hp → Prop} {r : R α} (h : PostR K Wx c F ρ' σ P r) (i : ∀ a F' H', Same F F' → W K c F' ρ' σ H' → P a F' H' → P' a F' H') : PostR K Wx c F ρ' σ P' r := by
  cases r with
  | ok a => exact fun F2 H2 e2 w => i a F2 H2 e2 w (h F2 H2 e2 w)
  | ex x => exact h
theorem PostF.mono {De : Ends} {r : R Fl} (e : Same F F') (h : PostF K Wx c F ρ' De r) : PostF K Wx c F' ρ' De r := by
  cases r with
  | ok f =>
    cases f with
    | nx => exact fun F2 σ2 H2 e2 w => h F2 σ2 H2 (e.trans e2) w
    | bk => exact fun F2 σ2 H2 e2 w => h F2 σ2 H2 (e.trans e2) w
    | ct => exact fun F2 σ2 H2 e2 w => h F2 σ2 H2 (e.trans e2) w
    | rt s => exact fun F2 σ2 v H2 e2 w r => h F2 σ2 v H2 (e.trans e2) w r
  | ex x => exact fun F2 σ2 d H2 e2 w r => h F2 σ2 d H2 (e.trans e2) w r
/-- m, then what follows -/
theorem tM_bind {α β : Type} {m : M α} {f : α → M β} {P : Ctx → List S → β → Hp → Hp → Prop} (h : tM K Wx (m.bind f) σ H P) : tM K Wx m σ H (fun _ _ a _ H1 => tM K Wx (f a) σ H1 P) := by
  obtain ⟨c, F, ρ, r, ρ', w, hm, post⟩ := h
  rcases bind_inv hm with ⟨a, ρ1, h1, h2⟩ | ⟨x, h1, rfl⟩
  · exact ⟨c, F, ρ, .ok a, ρ1, w, h1, fun F1 H1 e1 w1 => ⟨c, F1, ρ1, r, ρ', w1, h2, post.mono e1⟩⟩
  · exact ⟨c, F, ρ, .ex x, ρ', w, h1, post⟩
theorem tM_imp {α : Type} {m : M α} {P P' : Ctx → List S → α → Hp → Hp → Prop} (h : tM K Wx m σ H P) (i : ∀ c ρ' a F' H', W K c F' ρ' σ H' → P c ρ' a F' H' → P' c ρ' a F' H') : tM K Wx m σ H P' := by
  obtain ⟨c, F, ρ, r, ρ', w, hm, post⟩ := h
  exact ⟨c, F, ρ, r, ρ', w, hm, post.imp fun a F' H' _ w p => i c ρ' a F' H' w p⟩
end

/-! ### the semantics' words -/
def mVar (i : Nat) : M D := fun ρ => match ρ[i]? with
  | some (.dat d) => some (.ok d, ρ)
  | _ => none
def mC (d : D) : M D := M.pure d
def mOp (f : D → D → Option D) (a b : M D) : M D := a.bind fun x => b.bind fun y => M.lift (f x y)
def mUn (f : D → Option D) (a : M D) : M D := a.bind fun x => M.lift (f x)
def mArgs : List (M D) → M (List D)
  | [] => M.pure []
  | a :: as => a.bind fun x => (mArgs as).bind fun xs => M.pure (x :: xs)
def mCB (f : List D → Option D) (as : List (M D)) : M D := (mArgs as).bind fun xs => M.lift (f xs)
def asB : D → Option Bool
  | .bl b => some b
  | _ => none
def mTest (a : M D) : M Bool := a.bind fun x => M.lift (asB x)
def mNot (a : M Bool) : M Bool := a.bind fun b => M.pure (!b)
def mAnd (a b : M Bool) : M Bool := a.bind fun x => if x = true then b else M.pure false
def mOr (a b : M Bool) : M Bool := a.bind fun x => if x = true then M.pure true else b
def mAndV (a b : M D) : M D := a.bind fun x => (M.lift (asB x)).bind fun t => if t = true then b else M.pure (.bl false)
def mOrV (a b : M D) : M D := a.bind fun x => (M.lift (asB x)).bind fun t => if t = true then M.pure (.bl true) else b
def mNotV (a : M D) : M D := a.bind fun x => (M.lift (asB x)).bind fun t => M.pure (.bl (!t))
def mIf (t : M Bool) (a b : M D) : M D := t.bind fun x => if x = true then a else b
def mBoth (f g : D → D → Option D) (a b c : M D) : M D := a.bind fun x => b.bind fun y => (M.lift (f x y)).bind fun z => (M.lift (asB z)).bind fun t => if t = true then c.bind fun u => M.lift (g y u) else M.pure (.bl false)
def mFrz (m : M OB) : M D := m.bind fun o => M.pure o.toD
def mLst (as : List (M D)) : M OB := (mArgs as).bind fun xs => M.lift (if xs.length ≤ 1000000 then some (.lst xs) else none)
def mTup (as : List (M D)) : M D := (mArgs as).bind fun xs => M.lift (if xs.length ≤ 1000000 then some (.tup xs) else none)

/-! ### operations on data -/
/-- a heap that grew: every state over the one is a state over the other -/
def Grow (K : PySem.W.Frag) (F H F' H' : Hp) : Prop := Same F F' ∧ ∀ c ρ σ, W K c F ρ σ H → W K c F' ρ σ H'
theorem Grow.refl {K : PySem.W.Frag} {F H : Hp} : Grow K F H F H := ⟨Same.refl _, fun _ _ _ w => w⟩
theorem Grow.new {K : PySem.W.Frag} {F H : Hp} {a : Addr} {u : HO} (sub : Same F H) (h : H a = none) : Grow K F H (upd F a u) (upd H a u) := ⟨same_upd (sub.free h), fun _ _ _ w => (w.allocF h).1⟩
def Op2 (K : PySem.W.Frag) (r : R2) (f : D → D → Option D) : Prop := ∀ F H x y d e z (Q : VK), Rep K F x d → Rep K F y e → Same F H → f d e = some z → (∀ F' v H', Grow K F H F' H' → Rep K F' v z → Q v H') → r x y H Q
def Op1 (K : PySem.W.Frag) (r : V → Hp → VK → Prop) (f : D → Option D) : Prop := ∀ F H x d z (Q : VK), Rep K F x d → Same F H → f d = some z → (∀ F' v H', Grow K F H F' H' → Rep K F' v z → Q v H') → r x H Q
def OpN (K : PySem.W.Frag) (r : List V → Hp → VK → Prop) (f : List D → Option D) : Prop := ∀ F H xs ds z (Q : VK), RepL K F xs ds → Same F H → f ds = some z → (∀ F' v H', Grow K F H F' H' → Rep K F' v z → Q v H') → r xs H Q

section
variable {X : Cx} {Wx : WX} {a b e : Expr} {es : List Expr} {ma mb mc me : M D} {pos : Pos}
theorem pem_var (i : Nat) {x : Str} {pos : Pos} (hN : X.N[i]? = some x := by rfl) (hv : Vis X.env.scope x := by first | exact Or.inl rfl | exact Or.inr (Or.inl rfl) | exact Or.inr (Or.inr rfl)) (hd : (x == ("__debug__" : Str)) = false := by decide)
    (hcd : (x == ("__classdict__" : Str)) = false := by decide) : PEM X Wx (.Name x pos) (mVar i) := by
  refine pe_imp (pe_var hN hv hd hcd) fun σ H Q h => ?_
  obtain ⟨c, F, ρ, r, ρ', w, hm, post⟩ := h
  unfold mVar at hm
  split at hm
  · rename_i d hs
    cases hm
    obtain ⟨x, hx, v, rfl, rv⟩ := w.slot i _ hs
    exact ⟨v, hx, post F H (Same.refl _) w v rv⟩
  · cases hm
theorem pem_c {v : V} {d : D} (h : PE X e (tC v)) (r : ∀ F, Rep X.K F v d) : PEM X Wx e (mC d) := by
  refine pe_imp h fun σ H Q h => ?_
  obtain ⟨c, F, ρ, rr, ρ', w, hm, post⟩ := h
  cases hm
  exact post F H (Same.refl _) w v (r F)
theorem op_imp {K : PySem.W.Frag} {r : R2} {g : D → D → Option D} (hs : Op2 K r g) (σ : L2.St) (H : Hp) (Q : VK) (h : tE K Wx (mOp g ma mb) σ H Q) : tOp r (tE K Wx ma) (tE K Wx mb) σ H Q := by
  obtain ⟨c, F, ρ, rr, ρ', w, hm, post⟩ := h
  rcases bind_inv hm with ⟨x, ρ1, h1, h2⟩ | ⟨x, h1, rfl⟩
  · refine ⟨c, F, ρ, .ok x, ρ1, w, h1, fun F1 H1 e1 w1 v1 r1 => ?_⟩
    rcases bind_inv h2 with ⟨y, ρ2, h3, h4⟩ | ⟨x, h3, rfl⟩
    · refine ⟨c, F1, ρ1, .ok y, ρ2, w1, h3, fun F2 H2 e2 w2 v2 r2 => ?_⟩
      obtain ⟨z, hz, rfl, rfl⟩ := lift_inv h4
      exact hs F2 H2 v1 v2 x y z Q (r1.mono e2) r2 w2.sub hz fun F3 v H3 g r3 => post F3 H3 ((e1.trans e2).trans g.1) (g.2 _ _ _ w2) v r3
    · exact ⟨c, F1, ρ1, .ex x, ρ', w1, h3, PostX.mono e1 post⟩
  · exact ⟨c, F, ρ, .ex x, ρ', w, h1, post⟩
theorem pem_op {r : R2} {g : D → D → Option D} {ea eb : Expr} (hp : ∀ {ta tb : TE}, PE X ea ta → PE X eb tb → PE X e (tOp r ta tb)) (hs : Op2 X.K r g) (ha : PEM X Wx ea ma) (hb : PEM X Wx eb mb) : PEM X Wx e (mOp g ma mb) :=
  pe_imp (hp ha hb) (op_imp hs)
theorem pem_un {r : V → Hp → VK → Prop} {g : D → Option D} {ea : Expr} (hp : ∀ {ta : TE}, PE X ea ta → PE X e (tUn r ta)) (hs : Op1 X.K r g) (ha : PEM X Wx ea ma) : PEM X Wx e (mUn g ma) := by
  refine pe_imp (hp ha) fun σ H Q h => ?_
  obtain ⟨c, F, ρ, rr, ρ', w, hm, post⟩ := h
  rcases bind_inv hm with ⟨x, ρ1, h1, h2⟩ | ⟨x, h1, rfl⟩
  · refine ⟨c, F, ρ, .ok x, ρ1, w, h1, fun F1 H1 e1 w1 v1 r1 => ?_⟩
    obtain ⟨z, hz, rfl, rfl⟩ := lift_inv h2
    exact hs F1 H1 v1 x z Q r1 w1.sub hz fun F3 v H3 g r3 => post F3 H3 (e1.trans g.1) (g.2 _ _ _ w1) v r3
  · exact ⟨c, F, ρ, .ex x, ρ', w, h1, post⟩
theorem pam_nil : PAM X Wx [] (mArgs []) := by
  refine pa_imp pa_nil fun σ H Q h => ?_
  obtain ⟨c, F, ρ, rr, ρ', w, hm, post⟩ := h
  cases hm
  exact post F H (Same.refl _) w [] .nil
theorem pam_cons {ms : List (M D)} (ha : PEM X Wx e me) (hr : PAM X Wx es (mArgs ms)) (hs : starEach (e :: es) X.env = (false, eval e X.env) :: starEach es X.env := by rfl) : PAM X Wx (e :: es) (mArgs (me :: ms)) := by
  refine pa_imp (pa_cons ha hr hs) fun σ H Q h => ?_
  obtain ⟨c, F, ρ, rr, ρ', w, hm, post⟩ := h
  rcases bind_inv hm with ⟨x, ρ1, h1, h2⟩ | ⟨x, h1, rfl⟩
  · refine ⟨c, F, ρ, .ok x, ρ1, w, h1, fun F1 H1 e1 w1 v1 r1 => ?_⟩
    rcases bind_inv h2 with ⟨y, ρ2, h3, h4⟩ | ⟨x, h3, rfl⟩
    · refine ⟨c, F1, ρ1, .ok y, ρ2, w1, h3, fun F2 H2 e2 w2 vs r2 => ?_⟩
      cases h4
      exact post F2 H2 (e1.trans e2) w2 (v1 :: vs) (.cons (r1.mono e2) r2)
    · exact ⟨c, F1, ρ1, .ex x, ρ', w1, h3, PostX.mono e1 post⟩
  · exact ⟨c, F, ρ, .ex x, ρ', w, h1, post⟩
/-- a call of a built-in by values -/
theorem pem_cb {r : List V → Hp → VK → Prop} {g : List D → Option D} {ms : List (M D)} (hp : ∀ {ta : TA}, PA X es ta → PE X e (tCB r ta)) (hs : OpN X.K r g) (ha : PAM X Wx es (mArgs ms)) : PEM X Wx e (mCB g ms) := by
  refine pe_imp (hp ha) fun σ H Q h => ?_
  obtain ⟨c, F, ρ, rr, ρ', w, hm, post⟩ := h
  rcases bind_inv hm with ⟨x, ρ1, h1, h2⟩ | ⟨x, h1, rfl⟩
  · refine ⟨c, F, ρ, .ok x, ρ1, w, h1, fun F1 H1 e1 w1 v1 r1 => ?_⟩
    obtain ⟨z, hz, rfl, rfl⟩ := lift_inv h2
    exact hs F1 H1 v1 x z Q r1 w1.sub hz fun F3 v H3 g r3 => post F3 H3 (e1.trans g.1) (g.2 _ _ _ w1) v r3
  · exact ⟨c, F, ρ, .ex x, ρ', w, h1, post⟩
theorem RepL.len {K : PySem.W.Frag} {F : Hp} : ∀ {vs : List V} {ds : List D}, RepL K F vs ds → vs.length = ds.length
  | _, _, .nil => rfl
  | _, _, .cons _ r => congrArg Nat.succ (RepL.len r)
theorem mil {n : Nat} (h : n ≤ 1000000) : n ≤ sizeLine := Nat.le_trans h (by decide)
theorem pem_tup {ms : List (M D)} {x1} (ha : PAM X Wx es (mArgs ms)) : PEM X Wx (.Tuple es x1 pos) (mTup ms) := by
  refine pe_imp (pe_tup ha) fun σ H Q h => ?_
  obtain ⟨c, F, ρ, rr, ρ', w, hm, post⟩ := h
  rcases bind_inv hm with ⟨xs, ρ1, h1, h2⟩ | ⟨x, h1, rfl⟩
  · refine ⟨c, F, ρ, .ok xs, ρ1, w, h1, fun F1 H1 e1 w1 vs r1 => ?_⟩
    obtain ⟨z, hz, rfl, rfl⟩ := lift_inv h2
    split at hz
    · rename_i hl
      cases hz
      refine ⟨by rw [r1.len]; exact mil hl, fun p hp => ?_⟩
      obtain ⟨w2, e2⟩ := w1.allocF (u := .tup vs) hp
      exact post _ _ (e1.trans e2) w2 (.ref p) (.tup (.inl (.inl upd_same)) (r1.mono e2))
    · cases hz
  · exact ⟨c, F, ρ, .ex x, ρ', w, h1, post⟩
theorem pom_lst {ms : List (M D)} (ha : PAM X Wx es (mArgs ms)) : POM X Wx (.List es pos) (mLst ms) := by
  refine pe_imp (pe_lst ha) fun σ H Q h => ?_
  obtain ⟨c, F, ρ, rr, ρ', w, hm, post⟩ := h
  rcases bind_inv hm with ⟨xs, ρ1, h1, h2⟩ | ⟨x, h1, rfl⟩
  · refine ⟨c, F, ρ, .ok xs, ρ1, w, h1, fun F1 H1 e1 w1 vs r1 => ?_⟩
    obtain ⟨z, hz, rfl, rfl⟩ := lift_inv h2
    split at hz
    · rename_i hl
      cases hz
      refine ⟨by rw [r1.len]; exact mil hl, fun p hp => ?_⟩
      obtain ⟨w2, q1, q2, q3, q4⟩ := w1.alloc (u := .lst vs) hp
      exact post _ _ e1 w2 p (.lst vs) q1 upd_same (.lst r1) q2 q3 q4
    · cases hz
  · exact ⟨c, F, ρ, .ex x, ρ', w, h1, post⟩
/-- an object of its own, used as data from now on -/
theorem pem_frz {mo : M OB} (h : POM X Wx e mo) : PEM X Wx e (mFrz mo) := by
  refine pe_imp h fun σ H Q h => ?_
  obtain ⟨c, F, ρ, rr, ρ', w, hm, post⟩ := h
  rcases bind_inv hm with ⟨o, ρ1, h1, h2⟩ | ⟨x, h1, rfl⟩
  · refine ⟨c, F, ρ, .ok o, ρ1, w, h1, fun F1 H1 e1 w1 a u q1 q2 q3 q4 q5 q6 => ?_⟩
    cases h2
    have s1 : Same F1 (upd F1 a u) := same_upd q1
    exact post (upd F1 a u) H1 (e1.trans s1) (w1.frz q1 q2 q4 q5 q6) (.ref a) ((q3.mono s1).rep upd_same)
  · exact ⟨c, F, ρ, .ex x, ρ', w, h1, post⟩

/-! ### tests -/
theorem test_imp {K : PySem.W.Frag} (σ : L2.St) (H : Hp) (Q : Bool → Hp → Prop) (h : tT K Wx (mTest me) σ H Q) : tE K Wx me σ H (fun x H' => ∃ k, x = V.bl k ∧ Q k H') := by
  obtain ⟨c, F, ρ, rr, ρ', w, hm, post⟩ := h
  rcases bind_inv hm with ⟨x, ρ1, h1, h2⟩ | ⟨x, h1, rfl⟩
  · refine ⟨c, F, ρ, .ok x, ρ1, w, h1, fun F1 H1 e1 w1 v1 r1 => ?_⟩
    obtain ⟨z, hz, rfl, rfl⟩ := lift_inv h2
    cases x <;> cases hz
    cases r1
    exact ⟨_, rfl, post F1 H1 e1 w1⟩
  · exact ⟨c, F, ρ, .ex x, ρ', w, h1, post⟩
theorem ptm_val (h : PEM X Wx e me) (he : ∀ whole, PySem.isTrue e X.env whole = (do let v ← whole; standAt e.pos; holding [v] (truthy v)) := by intro _; rfl) : PTM X Wx e (mTest me) :=
  pt_imp (pt_val h he) test_imp
theorem ptm_cmp {r : R2} {g : D → D → Option D} {ea eb : Expr} (hp : ∀ {ta tb : TE}, PE X ea ta → PE X eb tb → PT X e (tTest (tOp r ta tb))) (hs : Op2 X.K r g) (ha : PEM X Wx ea ma) (hb : PEM X Wx eb mb) : PTM X Wx e (mTest (mOp g ma mb)) :=
  pt_imp (hp ha hb) fun σ H Q h => op_imp hs σ H _ (test_imp σ H Q h)
theorem ptm_not {mt : M Bool} (h : PTM X Wx e mt) : PTM X Wx (.UnaryOp .Not e pos) (mNot mt) := by
  refine pt_imp (pt_not h) fun σ H Q h => ?_
  refine tM_imp (tM_bind h) fun c ρ' b F' H' w p => ?_
  obtain ⟨c, F, ρ, rr, ρ', w, hm, post⟩ := p
  cases hm
  exact post F H' (Same.refl _) w
/-- a row of and, of or -/
def PWM (X : Cx) (Wx : WX) (e : Expr) (m : M Bool) : Prop := PW X e (tT X.K Wx m)
theorem pw_imp {X : Cx} {e : Expr} {t t' : TT} (h : PW X e t) (i : ∀ σ H Q, t' σ H Q → t σ H Q) : PW X e t' := by
  constructor
  intro wh pins s σ H Q I q
  exact h.run wh pins s σ H Q I (i σ H Q q)
theorem pwm_pt {mt : M Bool} (h : PWM X Wx e mt) : PTM X Wx e mt := PW.pt h
theorem pwm_and1 {mt : M Bool} (h : PTM X Wx e mt) : PWM X Wx (.BoolOp .And [e] pos) mt := pw_and1 h
theorem pwm_or1 {mt : M Bool} (h : PTM X Wx e mt) : PWM X Wx (.BoolOp .Or [e] pos) mt := pw_or1 h
theorem pwm_and {mt mu : M Bool} {rest : List Expr} (h : PTM X Wx a mt) (hr : PWM X Wx (.BoolOp .And (b :: rest) pos) mu) : PWM X Wx (.BoolOp .And (a :: b :: rest) pos) (mAnd mt mu) := by
  refine pw_imp (pw_and h hr) fun σ H Q h => ?_
  refine tM_imp (tM_bind h) fun c ρ' t F' H' w p => ?_
  cases t with
  | true => exact p
  | false =>
    obtain ⟨c, F, ρ, rr, ρ', w, hm, post⟩ := p
    cases hm
    exact post F H' (Same.refl _) w
theorem pwm_or {mt mu : M Bool} {rest : List Expr} (h : PTM X Wx a mt) (hr : PWM X Wx (.BoolOp .Or (b :: rest) pos) mu) : PWM X Wx (.BoolOp .Or (a :: b :: rest) pos) (mOr mt mu) := by
  refine pw_imp (pw_or h hr) fun σ H Q h => ?_
  refine tM_imp (tM_bind h) fun c ρ' t F' H' w p => ?_
  cases t with
  | false => exact p
  | true =>
    obtain ⟨c, F, ρ, rr, ρ', w, hm, post⟩ := p
    cases hm
    exact post F H' (Same.refl _) w
/-! ### and, or, not, if as values -/
theorem pem_one {op} (h : PEM X Wx a ma) : PEM X Wx (.BoolOp op [a] pos) ma := pe_one h
theorem pem_and {rest : List Expr} (ha : PEM X Wx a ma) (hb : PEM X Wx (.BoolOp .And (b :: rest) pos) mb) : PEM X Wx (.BoolOp .And (a :: b :: rest) pos) (mAndV ma mb) := by
  refine pe_imp (pe_and ha hb) fun σ H Q h => ?_
  obtain ⟨c, F, ρ, rr, ρ', w, hm, post⟩ := h
  rcases bind_inv hm with ⟨x, ρ1, h1, h2⟩ | ⟨x, h1, rfl⟩
  · refine ⟨c, F, ρ, .ok x, ρ1, w, h1, fun F1 H1 e1 w1 v1 r1 => ?_⟩
    rcases bind_inv h2 with ⟨t, ρ2, h3, h4⟩ | ⟨y, h3, rfl⟩
    · obtain ⟨z, hz, q, rfl⟩ := lift_inv h3
      cases q
      cases x <;> cases hz
      cases r1
      refine ⟨_, rfl, ?_⟩
      cases t with
      | true => exact ⟨c, F1, ρ2, rr, ρ', w1, h4, post.mono e1⟩
      | false => cases h4; exact post F1 H1 e1 w1 _ (.bl false)
    · obtain ⟨_, _, q, _⟩ := lift_inv h3
      cases q
  · exact ⟨c, F, ρ, .ex x, ρ', w, h1, post⟩
theorem pem_or {rest : List Expr} (ha : PEM X Wx a ma) (hb : PEM X Wx (.BoolOp .Or (b :: rest) pos) mb) : PEM X Wx (.BoolOp .Or (a :: b :: rest) pos) (mOrV ma mb) := by
  refine pe_imp (pe_or ha hb) fun σ H Q h => ?_
  obtain ⟨c, F, ρ, rr, ρ', w, hm, post⟩ := h
  rcases bind_inv hm with ⟨x, ρ1, h1, h2⟩ | ⟨x, h1, rfl⟩
  · refine ⟨c, F, ρ, .ok x, ρ1, w, h1, fun F1 H1 e1 w1 v1 r1 => ?_⟩
    rcases bind_inv h2 with ⟨t, ρ2, h3, h4⟩ | ⟨y, h3, rfl⟩
    · obtain ⟨z, hz, q, rfl⟩ := lift_inv h3
      cases q
      cases x <;> cases hz
      cases r1
      refine ⟨_, rfl, ?_⟩
      cases t with
      | false => exact ⟨c, F1, ρ2, rr, ρ', w1, h4, post.mono e1⟩
      | true => cases h4; exact post F1 H1 e1 w1 _ (.bl true)
    · obtain ⟨_, _, q, _⟩ := lift_inv h3
      cases q
  · exact ⟨c, F, ρ, .ex x, ρ', w, h1, post⟩
theorem pem_not (ha : PEM X Wx a ma) : PEM X Wx (.UnaryOp .Not a pos) (mNotV ma) := by
  refine pe_imp (pe_not ha) fun σ H Q h => ?_
  obtain ⟨c, F, ρ, rr, ρ', w, hm, post⟩ := h
  rcases bind_inv hm with ⟨x, ρ1, h1, h2⟩ | ⟨x, h1, rfl⟩
  · refine ⟨c, F, ρ, .ok x, ρ1, w, h1, fun F1 H1 e1 w1 v1 r1 => ?_⟩
    rcases bind_inv h2 with ⟨t, ρ2, h3, h4⟩ | ⟨y, h3, rfl⟩
    · obtain ⟨z, hz, q, rfl⟩ := lift_inv h3
      cases q
      cases x <;> cases hz
      cases r1
      cases h4
      exact ⟨_, rfl, post F1 H1 e1 w1 _ (.bl _)⟩
    · obtain ⟨_, _, q, _⟩ := lift_inv h3
      cases q
  · exact ⟨c, F, ρ, .ex x, ρ', w, h1, post⟩
theorem pem_if {t : Expr} {mt : M Bool} (ht : PTM X Wx t mt) (ha : PEM X Wx a ma) (hb : PEM X Wx b mb) : PEM X Wx (.IfExp t a b pos) (mIf mt ma mb) := by
  refine pe_imp (pe_ifExp ht ha hb) fun σ H Q h => ?_
  refine tM_imp (tM_bind h) fun c ρ' t F' H' w p => ?_
  cases t with
  | true => exact p
  | false => exact p
/-- a < b < c -/
theorem both_imp {K : PySem.W.Frag} {r r' : R2} {g g' : D → D → Option D} (s1 : Op2 K r g) (s2 : Op2 K r' g') (σ : L2.St) (H : Hp) (Q : VK) (h : tE K Wx (mBoth g g' ma mb mc) σ H Q) : tChain r r' (tE K Wx ma) (tE K Wx mb) (tE K Wx mc) σ H Q := by
  obtain ⟨c, F, ρ, rr, ρ', w, hm, post⟩ := h
  rcases bind_inv hm with ⟨x, ρ1, q1, q2⟩ | ⟨x, q1, rfl⟩
  · refine ⟨c, F, ρ, .ok x, ρ1, w, q1, fun F1 H1 e1 w1 v1 r1 => ?_⟩
    rcases bind_inv q2 with ⟨y, ρ2, q3, q4⟩ | ⟨x, q3, rfl⟩
    · refine ⟨c, F1, ρ1, .ok y, ρ2, w1, q3, fun F2 H2 e2 w2 v2 r2 => ?_⟩
      rcases bind_inv q4 with ⟨z, ρ3, q5, q6⟩ | ⟨x, q5, rfl⟩
      · obtain ⟨_, hz, q, rfl⟩ := lift_inv q5
        cases q
        rcases bind_inv q6 with ⟨t, ρ4, q7, q8⟩ | ⟨x, q7, rfl⟩
        · obtain ⟨_, ht, q, rfl⟩ := lift_inv q7
          cases q
          refine s1 F2 H2 v1 v2 x y z _ (r1.mono e2) r2 w2.sub hz fun F3 v H3 g3 r3 => ?_
          cases z <;> cases ht
          cases r3
          refine ⟨_, rfl, ?_⟩
          have w3 := g3.2 _ _ _ w2
          cases t with
          | false => cases q8; exact post F3 H3 ((e1.trans e2).trans g3.1) w3 _ (.bl false)
          | true =>
            rcases bind_inv q8 with ⟨u, ρ5, q9, qa⟩ | ⟨x, q9, rfl⟩
            · refine ⟨c, F3, _, .ok u, ρ5, w3, q9, fun F4 H4 e4 w4 v4 r4 => ?_⟩
              obtain ⟨z', hz', q, rfl⟩ := lift_inv qa
              cases q
              exact s2 F4 H4 v2 v4 y u z' Q (r2.mono (g3.1.trans e4)) r4 w4.sub hz' fun F5 v H5 g5 r5 => post F5 H5 ((((e1.trans e2).trans g3.1).trans e4).trans g5.1) (g5.2 _ _ _ w4) v r5
            · exact ⟨c, F3, _, .ex x, ρ', w3, q9, PostX.mono ((e1.trans e2).trans g3.1) post⟩
        · obtain ⟨_, _, q, _⟩ := lift_inv q7
          cases q
      · obtain ⟨_, _, q, _⟩ := lift_inv q5
        cases q
    · exact ⟨c, F1, ρ1, .ex x, ρ', w1, q3, PostX.mono e1 post⟩
  · exact ⟨c, F, ρ, .ex x, ρ', w, q1, post⟩
theorem pem_both {r r' : R2} {g g' : D → D → Option D} {ec : Expr} (hp : ∀ {ta tb tc : TE}, PE X a ta → PE X b tb → PE X ec tc → PE X e (tChain r r' ta tb tc)) (s1 : Op2 X.K r g) (s2 : Op2 X.K r' g') (ha : PEM X Wx a ma) (hb : PEM X Wx b mb) (hc : PEM X Wx ec mc) : PEM X Wx e (mBoth g g' ma mb mc) :=
  pe_imp (hp ha hb hc) (both_imp s1 s2)
theorem ptm_both {r r' : R2} {g g' : D → D → Option D} {ec : Expr} (hp : ∀ {ta tb tc : TE}, PE X a ta → PE X b tb → PE X ec tc → PT X e (tTest (tChain r r' ta tb tc))) (s1 : Op2 X.K r g) (s2 : Op2 X.K r' g') (ha : PEM X Wx a ma) (hb : PEM X Wx b mb) (hc : PEM X Wx ec mc) : PTM X Wx e (mTest (mBoth g g' ma mb mc)) :=
  pt_imp (hp ha hb hc) fun σ H Q h => both_imp s1 s2 σ H _ (test_imp σ H Q h)
end
end L3
set_option Elab.async false
set_option linter.all false
set_option maxRecDepth 100000
set_option maxHeartbeats 2000000
namespace L3
open PySem PySem.Spec PyProof.Rows L2

/-! ### statements -/
def mSeq (a b : M Fl) : M Fl := fun ρ => match a ρ with
  | some (.ok .nx, ρ1) => b ρ1
  | some (.ok .bk, ρ1) => some (.ok .bk, ρ1)
  | some (.ok .ct, ρ1) => some (.ok .ct, ρ1)
  | some (.ok (.rt s), ρ1) => some (.ok (.rt s), ρ1)
  | some (.ex x, ρ1) => some (.ex x, ρ1)
  | none => none
def mSkip : M Fl := M.pure .nx
def mBrk : M Fl := M.pure .bk
def mCnt : M Fl := M.pure .ct
def mNever : M Fl := fun _ => none
def mRet (a : M D) : M Fl := a.bind fun d => M.pure (.rt (.dat d))
def mRetO (a : M OB) : M Fl := a.bind fun o => M.pure (.rt (.own o))
def mDrop (a : M D) : M Fl := a.bind fun _ => M.pure .nx
def mIfS (t : M Bool) (a b : M Fl) : M Fl := t.bind fun x => if x = true then a else b
/-- where a value is put -/
abbrev Put := D → List S → Option (List S)
def pName (i : Nat) : Put := fun d ρ => some (ρ.set i (.dat d))
def pTup (is : List Nat) : Put := fun d ρ => match d with
  | .tup ds => if ds.length = is.length then some ((is.zip ds).foldl (fun r p => r.set p.1 (.dat p.2)) ρ) else none
  | _ => none
def mSet (a : M D) (p : Put) : M Fl := a.bind fun d ρ => match p d ρ with
  | some ρ1 => some (.ok .nx, ρ1)
  | none => none
def mSetO (i : Nat) (a : M OB) : M Fl := a.bind fun o ρ => some (.ok .nx, ρ.set i (.own o))
def mPar (i j : Nat) (a b : M D) : M Fl := a.bind fun x => b.bind fun y ρ => some (.ok .nx, (ρ.set i (.dat x)).set j (.dat y))

section
variable {X : Cx} {Wx : WX} {a b e : Expr} {es : List Expr} {ma mb mc me : M D} {pos : Pos} {st : Stmt} {rest : List Stmt} {m1 m2 : M Fl}
theorem psm_nil : PSsM X Wx [] mSkip := by
  refine pss_imp pss_nil fun De σ H h => ?_
  obtain ⟨c, F, ρ, r, ρ', w, hm, post⟩ := h
  cases hm
  exact post F σ H (Same.refl _) w
theorem psm_one (h : PSM X Wx st m1) : PSsM X Wx [st] m1 := pss_one h
theorem psm_cons (h1 : PSM X Wx st m1) (h2 : PSsM X Wx rest m2) : PSsM X Wx (st :: rest) (mSeq m1 m2) := by
  refine pss_imp (pss_cons h1 h2) fun De σ H h => ?_
  obtain ⟨c, F, ρ, r, ρ', w, hm, post⟩ := h
  unfold mSeq at hm
  cases e : m1 ρ with
  | none => rw [e] at hm; cases hm
  | some p =>
    obtain ⟨r1, ρ1⟩ := p
    rw [e] at hm
    refine ⟨c, F, ρ, r1, ρ1, w, e, ?_⟩
    cases r1 with
    | ex x => cases hm; exact post
    | ok f =>
      cases f with
      | nx => exact fun F1 σ1 H1 e1 w1 => ⟨c, F1, ρ1, r, ρ', w1, hm, post.mono e1⟩
      | bk => cases hm; exact post
      | ct => cases hm; exact post
      | rt s => cases hm; exact post
theorem psm_pass : PSM X Wx (.Pass pos) mSkip := by
  refine ps_imp ps_pass fun De σ H h => ?_
  obtain ⟨c, F, ρ, r, ρ', w, hm, post⟩ := h
  cases hm
  exact post F σ H (Same.refl _) w
theorem psm_brk : PSM X Wx (.Break pos) mBrk := by
  refine ps_imp ps_break fun De σ H h => ?_
  obtain ⟨c, F, ρ, r, ρ', w, hm, post⟩ := h
  cases hm
  exact post F σ H (Same.refl _) w
theorem psm_cnt : PSM X Wx (.Continue pos) mCnt := by
  refine ps_imp ps_continue fun De σ H h => ?_
  obtain ⟨c, F, ρ, r, ρ', w, hm, post⟩ := h
  cases hm
  exact post F σ H (Same.refl _) w
theorem psm_never : PSM X Wx st mNever := by
  refine ps_imp ps_never fun De σ H h => ?_
  obtain ⟨c, F, ρ, r, ρ', w, hm, post⟩ := h
  cases hm
theorem psm_ret (h : PEM X Wx e me) : PSM X Wx (.Return (some e) pos) (mRet me) := by
  refine ps_imp (ps_ret h) fun De σ H h => ?_
  obtain ⟨c, F, ρ, r, ρ', w, hm, post⟩ := h
  rcases bind_inv hm with ⟨x, ρ1, h1, h2⟩ | ⟨x, h1, rfl⟩
  · cases h2
    exact ⟨c, F, ρ, .ok x, ρ', w, h1, fun F1 H1 e1 w1 v r1 => post F1 σ v H1 e1 w1 r1⟩
  · exact ⟨c, F, ρ, .ex x, ρ', w, h1, fun F' d H' e' w' r' => post F' σ d H' e' w' r'⟩
theorem psm_retO {mo : M OB} (h : POM X Wx e mo) : PSM X Wx (.Return (some e) pos) (mRetO mo) := by
  refine ps_imp (ps_ret h) fun De σ H h => ?_
  obtain ⟨c, F, ρ, r, ρ', w, hm, post⟩ := h
  rcases bind_inv hm with ⟨x, ρ1, h1, h2⟩ | ⟨x, h1, rfl⟩
  · cases h2
    exact ⟨c, F, ρ, .ok x, ρ', w, h1, fun F1 H1 e1 w1 a u q1 q2 q3 q4 q5 q6 => post F1 σ _ H1 e1 w1 ⟨a, u, rfl, q1, q2, q3, q4⟩⟩
  · exact ⟨c, F, ρ, .ex x, ρ', w, h1, fun F' d H' e' w' r' => post F' σ d H' e' w' r'⟩
theorem psm_retN : PSM X Wx (.Return none pos) (mRet (mC .non)) := by
  refine ps_imp ps_retN fun De σ H h => ?_
  obtain ⟨c, F, ρ, r, ρ', w, hm, post⟩ := h
  cases hm
  exact post F σ _ H (Same.refl _) w .non
theorem psm_expr (h : PEM X Wx e me) (hs : swapsWith e none pos.line X.env = pure false := by rfl) : PSM X Wx (.Expr e pos) (mDrop me) := by
  refine ps_imp (ps_expr h hs) fun De σ H h => ?_
  obtain ⟨c, F, ρ, r, ρ', w, hm, post⟩ := h
  rcases bind_inv hm with ⟨x, ρ1, h1, h2⟩ | ⟨x, h1, rfl⟩
  · cases h2
    exact ⟨c, F, ρ, .ok x, ρ', w, h1, fun F1 H1 e1 w1 v r1 => post F1 σ H1 e1 w1⟩
  · exact ⟨c, F, ρ, .ex x, ρ', w, h1, fun F' d H' e' w' r' => post F' σ d H' e' w' r'⟩
theorem psm_if {t : Expr} {mt : M Bool} {sa sb : List Stmt} (ht : PTM X Wx t mt) (ha : PSsM X Wx sa m1) (hb : PSsM X Wx sb m2) : PSM X Wx (.If t sa sb pos) (mIfS mt m1 m2) := by
  refine ps_imp (ps_if ht ha hb) fun De σ H h => ?_
  obtain ⟨c, F, ρ, r, ρ', w, hm, post⟩ := h
  rcases bind_inv hm with ⟨x, ρ1, h1, h2⟩ | ⟨x, h1, rfl⟩
  · refine ⟨c, F, ρ, .ok x, ρ1, w, h1, fun F1 H1 e1 w1 => ?_⟩
    cases x with
    | true => exact ⟨c, F1, ρ1, r, ρ', w1, h2, post.mono e1⟩
    | false => exact ⟨c, F1, ρ1, r, ρ', w1, h2, post.mono e1⟩
  · exact ⟨c, F, ρ, .ex x, ρ', w, h1, fun F' d H' e' w' r' => post F' σ d H' e' w' r'⟩

/-! ### targets -/
/-- a target's reading by where it puts; js: the slots that it may change -/
def tPut (K : PySem.W.Frag) (js : List Nat) (p : Put) : TG := fun v σ H Q => ∃ c F ρ d ρ', W K c F ρ σ H ∧ Rep K F v d ∧ p d ρ = some ρ' ∧ ∀ σ', σ'.length = σ.length → (∀ i, i ∉ js → σ'[i]? = σ[i]?) → W K c F ρ' σ' H → Q σ' H
def PGt (X : Cx) (e : Expr) (js : List Nat) (p : Put) : Prop := PG X e (tPut X.K js p)
theorem pg_imp {X : Cx} {e : Expr} {t t' : TG} (h : PG X e t) (i : ∀ v σ H Q, t' v σ H Q → t v σ H Q) : PG X e t' := ⟨fun pins s σ H v u Q I r q => h.run pins s σ H v u Q I r (i v σ H Q q)⟩
theorem set_other {α : Type} {l : List α} {i j : Nat} {x : α} (h : j ∉ [i]) : (l.set i x)[j]? = l[j]? := List.getElem?_set_ne (fun z => h (by simp [z]))
theorem pgt_name (i : Nat) {x : Str} (hN : X.N.Nodup) (hi : X.N[i]? = some x := by rfl) (hx : Loc X.env.scope x := by first | exact Or.inl rfl | exact Or.inr rfl)
    (hf : X.fn x = true ∨ X.env.scope.names.lookup x = some .local := by first | exact .inl rfl | exact .inr rfl) : PGt X (.Name x pos) [i] (pName i) := by
  refine pg_imp (pg_name (i := i) hN hi hx hf) fun v σ H Q h => ?_
  obtain ⟨c, F, ρ, d, ρ', w, r, hp, q⟩ := h
  cases hp
  exact q _ (List.length_set ..) (fun j hj => set_other hj) (w.setD r)
/-- several names -/
def tPuts (K : PySem.W.Frag) (is : List Nat) : TGs := fun vs σ H Q => ∃ c F ρ ds, W K c F ρ σ H ∧ RepL K F vs ds ∧ ds.length = is.length ∧
  ∀ σ', σ'.length = σ.length → (∀ i, i ∉ is → σ'[i]? = σ[i]?) → W K c F ((is.zip ds).foldl (fun r p => r.set p.1 (.dat p.2)) ρ) σ' H → Q σ' H
theorem pgs_imp {X : Cx} {e : List Expr} {t t' : TGs} (h : PGs X e t) (i : ∀ v σ H Q, t' v σ H Q → t v σ H Q) : PGs X e t' := ⟨fun pins s σ H v u Q I r q => h.run pins s σ H v u Q I r (i v σ H Q q)⟩
theorem pgts_nil : PGs X [] (tPuts X.K []) := by
  refine pgs_imp pgs_nil fun v σ H Q h => ?_
  obtain ⟨c, F, ρ, ds, w, r, hl, q⟩ := h
  cases r with
  | nil => exact ⟨rfl, q σ rfl (fun _ _ => rfl) w⟩
  | cons _ _ => cases hl
theorem pgts_cons {i : Nat} {is : List Nat} (h1 : PGt X e [i] (pName i)) (h2 : PGs X es (tPuts X.K is)) (hs : (assignEach (e :: es) X.env).map (·.2) = assign e X.env :: (assignEach es X.env).map (·.2) := by rfl) : PGs X (e :: es) (tPuts X.K (i :: is)) := by
  refine pgs_imp (pgs_cons h1 h2 hs) fun vs σ H Q h => ?_
  obtain ⟨c, F, ρ, ds, w, r, hl, q⟩ := h
  cases r with
  | nil => cases hl
  | cons r1 r2 =>
    rename_i v d vs ds
    refine ⟨v, vs, rfl, c, F, ρ, d, _, w, r1, rfl, fun σ1 l1 o1 w1 => ?_⟩
    refine ⟨c, F, _, ds, w1, r2, Nat.succ.inj hl, fun σ2 l2 o2 w2 => q σ2 (l2.trans l1) (fun j hj => ?_) w2⟩
    rw [o2 j (fun z => hj (List.mem_cons_of_mem _ z)), o1 j (fun z => hj (by simp at z; simp [z]))]
theorem pgt_tup {is : List Nat} {k : Nat} (hc : X.calm = true) (h : PGs X es (tPuts X.K is)) (hn : (assignEach es X.env).length = is.length := by rfl) (hst : (assignEach es X.env).findIdx? (·.1) = none := by rfl) : PGt X (.Tuple es k pos) is (pTup is) := by
  refine pg_imp (pg_tup hc h hn hst) fun v σ H Q h => ?_
  obtain ⟨c, F, ρ, d, ρ', w, r, hp, q⟩ := h
  unfold pTup at hp
  cases d with
  | tup ds =>
    have hp' : (if ds.length = is.length then some ((is.zip ds).foldl (fun r p => r.set p.1 (.dat p.2)) ρ) else none) = some ρ' := hp
    split at hp'
    · rename_i hl
      cases hp'
      cases r with
      | tup hs hr =>
        rename_i a xs
        refine ⟨a, xs, rfl, same_sqT w.sub hs, by rw [hr.len]; exact hl, c, F, ρ, ds, w, hr, hl, q⟩
    · cases hp'
  | _ => cases hp
theorem psm_set {tg : Expr} {js : List Nat} {p : Put} (he : PEM X Wx e me) (hg : PGt X tg js p) (hs : swapsWithSole [tg] e pos.line X.env = pure false := by rfl) (hw : swappedStores [tg] e X.env = pure none := by rfl)
    (h1 : (assignEach [tg] X.env).map (·.2) = [assign tg X.env] := by rfl) : PSM X Wx (.Assign [tg] e pos) (mSet me p) := by
  refine ps_imp (ps_asg he hg hs hw h1) fun De σ H h => ?_
  obtain ⟨c, F, ρ, r, ρ', w, hm, post⟩ := h
  rcases bind_inv hm with ⟨x, ρ1, q1, q2⟩ | ⟨x, q1, rfl⟩
  · refine ⟨c, F, ρ, .ok x, ρ1, w, q1, fun F1 H1 e1 w1 v r1 => ?_⟩
    cases hp : p x ρ1 with
    | none =>
      have q3 : (match p x ρ1 with | some ρ1 => some (R.ok Fl.nx, ρ1) | none => none) = some (r, ρ') := q2
      rw [hp] at q3; cases q3
    | some ρ2 =>
      have q3 : (match p x ρ1 with | some ρ1 => some (R.ok Fl.nx, ρ1) | none => none) = some (r, ρ') := q2
      rw [hp] at q3
      cases q3
      exact ⟨c, F1, ρ1, x, _, w1, r1, hp, fun σ' _ _ w' => post F1 σ' H1 e1 w'⟩
  · exact ⟨c, F, ρ, .ex x, ρ', w, q1, fun F' d H' e' w' r' => post F' σ d H' e' w' r'⟩
theorem psm_setO (i : Nat) {x : Str} {mo : M OB} {p : Pos} (he : POM X Wx e mo) (hN : X.N.Nodup) (hi : X.N[i]? = some x := by rfl) (hx : Loc X.env.scope x := by first | exact Or.inl rfl | exact Or.inr rfl)
    (hf : X.fn x = true ∨ X.env.scope.names.lookup x = some .local := by first | exact .inl rfl | exact .inr rfl) (hs : swapsWithSole [.Name x p] e pos.line X.env = pure false := by rfl) (hw : swappedStores [.Name x p] e X.env = pure none := by rfl)
    (h1 : (assignEach [.Name x p] X.env).map (·.2) = [assign (.Name x p) X.env] := by rfl) : PSM X Wx (.Assign [.Name x p] e pos) (mSetO i mo) := by
  refine ps_imp (ps_asg he (pg_name (i := i) hN hi hx hf) hs hw h1) fun De σ H h => ?_
  obtain ⟨c, F, ρ, r, ρ', w, hm, post⟩ := h
  rcases bind_inv hm with ⟨o, ρ1, q1, q2⟩ | ⟨x, q1, rfl⟩
  · cases q2
    refine ⟨c, F, ρ, .ok o, ρ1, w, q1, fun F1 H1 e1 w1 a u g1 g2 g3 g4 g5 g6 => ?_⟩
    exact post F1 _ H1 e1 (w1.setO g1 g2 g3 g4 g5 g6)
  · exact ⟨c, F, ρ, .ex x, ρ', w, q1, fun F' d H' e' w' r' => post F' σ d H' e' w' r'⟩
/-- a, b = e1, e2 -/
theorem psm_par (i j : Nat) {x y : Str} {px py pt : Pos} {kt k2 pt2} (hc : X.calm = true) (hN : X.N.Nodup) (hij : i ≠ j) (ha : PEM X Wx a ma) (hb : PEM X Wx b mb) (hi : X.N[i]? = some x := by rfl) (hj : X.N[j]? = some y := by rfl)
    (hx : X.env.scope.names.lookup x = some .local := by rfl) (hy : X.env.scope.names.lookup y = some .local := by rfl)
    (hsa : starEach [a, b] X.env = (false, eval a X.env) :: starEach [b] X.env := by rfl) (hsb : starEach [b] X.env = (false, eval b X.env) :: starEach [] X.env := by rfl)
    (hw : swappedStores [.Tuple [.Name x px, .Name y py] kt pt] (.Tuple [a, b] k2 pt2) X.env = pure (some [x, y]) := by rfl)
    (hs : swapsWithSole [.Tuple [.Name x px, .Name y py] kt pt] (.Tuple [a, b] k2 pt2) pos.line X.env = pure false := by rfl) :
    PSM X Wx (.Assign [.Tuple [.Name x px, .Name y py] kt pt] (.Tuple [a, b] k2 pt2) pos) (mPar i j ma mb) := by
  refine ps_imp (ps_par hc hN hi hj hij hx hy (pa_cons ha (pa_cons hb pa_nil hsb) hsa) hw hs) fun De σ H h => ?_
  obtain ⟨c, F, ρ, r, ρ', w, hm, post⟩ := h
  rcases bind_inv hm with ⟨u, ρ1, q1, q2⟩ | ⟨u, q1, rfl⟩
  · refine ⟨c, F, ρ, .ok u, ρ1, w, q1, fun F1 H1 e1 w1 v1 r1 => ?_⟩
    rcases bind_inv q2 with ⟨t, ρ2, q3, q4⟩ | ⟨t, q3, rfl⟩
    · cases q4
      refine ⟨c, F1, ρ1, .ok t, ρ2, w1, q3, fun F2 H2 e2 w2 v2 r2 => ?_⟩
      exact ⟨v1, v2, rfl, post F2 _ H2 (e1.trans e2) ((w2.setD (r1.mono e2)).setD r2)⟩
    · exact ⟨c, F1, ρ1, .ex t, ρ', w1, q3, fun F' d H' e' w' r' => post F' σ d H' (e1.trans e') w' r'⟩
  · exact ⟨c, F, ρ, .ex u, ρ', w, q1, fun F' d H' e' w' r' => post F' σ d H' e' w' r'⟩
end

/-! ### while, with a number of turns that is enough -/
def whl (t : M Bool) (b : M Fl) : Nat → M Fl
  | 0 => fun _ => none
  | n + 1 => t.bind fun x => if x = true then (fun ρ => match b ρ with
      | some (.ok .nx, ρ1) => whl t b n ρ1
      | some (.ok .ct, ρ1) => whl t b n ρ1
      | some (.ok .bk, ρ1) => some (.ok .nx, ρ1)
      | some (.ok (.rt s), ρ1) => some (.ok (.rt s), ρ1)
      | some (.ex x, ρ1) => some (.ex x, ρ1)
      | none => none) else M.pure .nx
def mWhl (fuel : List S → Nat) (t : M Bool) (b : M Fl) : M Fl := fun ρ => whl t b (fuel ρ) ρ
section
variable {X : Cx} {Wx : WX} {pos : Pos} {t : Expr} {mt : M Bool} {body : List Stmt} {mb : M Fl}
theorem psm_while (fuel : List S → Nat) (hp : PassesOwn (model X.prog X.w) X.A X.env X.xe) (ht : PTM X Wx t mt) (hb : PSsM X Wx body mb) : PSM X Wx (.While t body [] pos) (mWhl fuel mt mb) := by
  refine ps_imp (ps_while hp ht hb) fun De σ H h => ?_
  obtain ⟨c, F, ρ, r, ρ', w, hm, post⟩ := h
  refine ⟨fun n σ H => ∃ F1 ρ1, Same F F1 ∧ W X.K c F1 ρ1 σ H ∧ whl mt mb n ρ1 = some (r, ρ'), ⟨_, F, ρ, Same.refl _, w, hm⟩, ?_⟩
  rintro n σ1 H1 ⟨F1, ρ1, e1, w1, hn⟩
  cases n with
  | zero => cases hn
  | succ n =>
    rcases bind_inv hn with ⟨x, ρ2, q1, q2⟩ | ⟨x, q1, rfl⟩
    · refine ⟨c, F1, ρ1, .ok x, ρ2, w1, q1, fun F2 H2 e2 w2 => ?_⟩
      cases x with
      | false =>
        cases q2
        exact post F2 σ1 H2 (e1.trans e2) w2
      | true =>
        refine ⟨fun σ H => ∃ F1 ρ1, Same F F1 ∧ W X.K c F1 ρ1 σ H ∧ whl mt mb n ρ1 = some (r, ρ'), fun σ' H' h' => ⟨n, Nat.lt_succ_self n, h'⟩, ?_⟩
        have q3 : (match mb ρ2 with
          | some (.ok .nx, ρ1) => whl mt mb n ρ1
          | some (.ok .ct, ρ1) => whl mt mb n ρ1
          | some (.ok .bk, ρ1) => some (.ok .nx, ρ1)
          | some (.ok (.rt s), ρ1) => some (.ok (.rt s), ρ1)
          | some (.ex x, ρ1) => some (.ex x, ρ1)
          | none => none) = some (r, ρ') := q2
        cases e : mb ρ2 with
        | none => rw [e] at q3; cases q3
        | some p =>
          obtain ⟨rb, ρ3⟩ := p
          rw [e] at q3
          refine ⟨c, F2, ρ2, rb, ρ3, w2, e, ?_⟩
          cases rb with
          | ex x => cases q3; exact fun F' σ' d H' e' w' r' => post F' σ' d H' ((e1.trans e2).trans e') w' r'
          | ok f =>
            cases f with
            | nx => exact fun F3 σ3 H3 e3 w3 => ⟨F3, ρ3, (e1.trans e2).trans e3, w3, q3⟩
            | ct => exact fun F3 σ3 H3 e3 w3 => ⟨F3, ρ3, (e1.trans e2).trans e3, w3, q3⟩
            | bk => cases q3; exact fun F3 σ3 H3 e3 w3 => post F3 σ3 H3 ((e1.trans e2).trans e3) w3
            | rt s => cases q3; exact fun F3 σ3 v H3 e3 w3 r3 => post F3 σ3 v H3 ((e1.trans e2).trans e3) w3 r3
    · exact ⟨c, F1, ρ1, .ex x, ρ', w1, q1, fun F' d H' e' w' r' => post F' σ1 d H' (e1.trans e') w' r'⟩
end
end L3
set_option Elab.async false
set_option linter.all false
set_option maxRecDepth 100000
set_option maxHeartbeats 2000000
namespace L3
open PySem PySem.Spec PyProof.Rows L2

/-! ### what is walked -/
def Yields (K : PySem.W.Frag) (J : It) (ds : List D) (F : Hp) : Prop := ∀ F' H' (i : Nat), Same F F' → Same F' H' →
  (∀ d, ds[i]? = some d → J.go i H' ∧ ∀ x H'', J.yld i H' x H'' → ∃ F'', Grow K F' H' F'' H'' ∧ Rep K F'' x d) ∧ (ds.length ≤ i → J.stop i H')
/-- .. where the objects that are held stand as they are -/
def YieldsC (K : PySem.W.Frag) (c : Ctx) (J : It) (ds : List D) (F : Hp) : Prop := ∀ F' H' (i : Nat), Same F F' → Same F' H' → (∀ b u, c.hd b = some u → H' b = some u) →
  (∀ d, ds[i]? = some d → J.go i H' ∧ ∀ x H'', J.yld i H' x H'' → ∃ F'', Grow K F' H' F'' H'' ∧ Rep K F'' x d) ∧ (ds.length ≤ i → J.stop i H')
theorem Yields.toC {K : PySem.W.Frag} {c : Ctx} {J : It} {ds : List D} {F : Hp} (h : Yields K J ds F) : YieldsC K c J ds F := fun F' H' i a b _ => h F' H' i a b
def tIt (K : PySem.W.Frag) (Wx : WX) (m : M (List D)) : TI := fun σ H R => tM K Wx m σ H fun _ _ ds F' H' => ∀ J, Yields K J ds F' → R J H'
def PIM (X : Cx) (Wx : WX) (tg iter : Expr) (m : M (List D)) : Prop := PI X tg iter (tIt X.K Wx m)
theorem pi_imp {X : Cx} {tg e : Expr} {t t' : TI} (h : PI X tg e t) (i : ∀ σ H R, t' σ H R → t σ H R) : PI X tg e t' := ⟨fun pins s σ H R I q => h.run pins s σ H R I (i σ H R q)⟩
theorem RepL.get {K : PySem.W.Frag} {F : Hp} : ∀ {vs : List V} {ds : List D} {i : Nat} {v : V}, RepL K F vs ds → vs[i]? = some v → ∃ d, ds[i]? = some d ∧ Rep K F v d
  | _, _, _, _, .nil, e => by simp at e
  | _, _, 0, _, .cons r _, e => by simp at e; subst e; exact ⟨_, rfl, r⟩
  | _, _, i + 1, _, .cons _ t, e => by
    obtain ⟨d, h1, h2⟩ := RepL.get (i := i) t (by simpa using e)
    exact ⟨d, by simpa using h1, h2⟩
theorem RepL.get' {K : PySem.W.Frag} {F : Hp} : ∀ {vs : List V} {ds : List D} {i : Nat} {d : D}, RepL K F vs ds → ds[i]? = some d → ∃ v, vs[i]? = some v ∧ Rep K F v d
  | _, _, _, _, .nil, e => by simp at e
  | _, _, 0, _, .cons r _, e => by simp at e; subst e; exact ⟨_, rfl, r⟩
  | _, _, i + 1, _, .cons _ t, e => by
    obtain ⟨d, h1, h2⟩ := RepL.get' (i := i) t (by simpa using e)
    exact ⟨d, by simpa using h1, h2⟩
theorem yields_list {K : PySem.W.Frag} {F : Hp} {a : Addr} {xs : List V} {ds : List D} (h : SqL K F a xs) (r : RepL K F xs ds) : Yields K (Itl K a) ds F := by
  intro F' H' i e1 e2
  have hq : SqL K H' a xs := (e1.trans e2).seq h
  refine ⟨fun d hd => ?_, fun hl => ⟨xs, hq, by rw [r.len]; exact hl⟩⟩
  obtain ⟨v, hv, rv⟩ := r.get' hd
  refine ⟨⟨xs, v, hq, hv⟩, fun x H'' y => ?_⟩
  obtain ⟨rfl, y⟩ := y
  have := y xs hq
  rw [hv] at this
  cases this
  exact ⟨F', Grow.refl, rv.mono e1⟩
theorem yields_tup {K : PySem.W.Frag} {F : Hp} {a : Addr} {xs : List V} {ds : List D} (h : SqT K F a xs) (r : RepL K F xs ds) : Yields K (Itt K a) ds F := by
  intro F' H' i e1 e2
  have hq : SqT K H' a xs := same_sqT (e1.trans e2) h
  refine ⟨fun d hd => ?_, fun hl => ⟨xs, hq, by rw [r.len]; exact hl⟩⟩
  obtain ⟨v, hv, rv⟩ := r.get' hd
  refine ⟨⟨xs, v, hq, hv⟩, fun x H'' y => ?_⟩
  obtain ⟨rfl, y⟩ := y
  have := y xs hq
  rw [hv] at this
  cases this
  exact ⟨F', Grow.refl, rv.mono e1⟩
/-- the items of a list, of a tuple -/
def lstD : D → Option (List D)
  | .lst ds => some ds
  | .rdl ds => some ds
  | _ => none
def tupD : D → Option (List D)
  | .tup ds => some ds
  | _ => none
def mItems (f : D → Option (List D)) (a : M D) : M (List D) := a.bind fun d => M.lift (f d)
def rangeD (lo : Int) : Nat → List D
  | 0 => []
  | n + 1 => .int lo :: rangeD (lo + 1) n
def rng1 : List D → Option (List D)
  | [.int n] => if n ≤ 1000000000 ∧ -1000000000 ≤ n then some (rangeD 0 n.toNat) else none
  | _ => none
def rng2 : List D → Option (List D)
  | [.int m, .int n] => if n ≤ 1000000000 ∧ -1000000000 ≤ n ∧ m ≤ 1000000000 ∧ -1000000000 ≤ m then some (rangeD m (n - m).toNat) else none
  | _ => none
def mItemsN (f : List D → Option (List D)) (as : List (M D)) : M (List D) := (mArgs as).bind fun ds => M.lift (f ds)
def enumD (i : Int) : List D → List D
  | [] => []
  | d :: ds => .tup [.int i, d] :: enumD (i + 1) ds
def enu1 : List D → Option (List D)
  | [.lst ds] => some (enumD 0 ds)
  | _ => none
def zipD : List D → List D → List D
  | a :: as, b :: bs => .tup [a, b] :: zipD as bs
  | _, _ => []
def zip2 : List D → Option (List D)
  | [.lst as, .lst bs] => some (zipD as bs)
  | _ => none
theorem range_len (lo : Int) : ∀ n, (rangeD lo n).length = n
  | 0 => rfl
  | n + 1 => congrArg Nat.succ (range_len (lo + 1) n)
theorem range_get : ∀ (n : Nat) (lo : Int) (i : Nat) (d : D), (rangeD lo n)[i]? = some d → d = .int (lo + i) ∧ i < n
  | 0, _, _, _, h => by simp [rangeD] at h
  | n + 1, lo, 0, d, h => by simp [rangeD] at h; subst h; simp
  | n + 1, lo, i + 1, d, h => by
    obtain ⟨h1, h2⟩ := range_get n (lo + 1) i d (by simpa [rangeD] using h)
    refine ⟨?_, by omega⟩
    rw [h1]
    congr 1
    omega
theorem yields_range {K : PySem.W.Frag} {F : Hp} {lo : Int} {n : Nat} : Yields K (Itr lo n) (rangeD lo n) F := by
  intro F' H' i e1 e2
  refine ⟨fun d hd => ?_, fun hl => by rw [range_len] at hl; exact hl⟩
  obtain ⟨rfl, hi⟩ := range_get _ _ _ _ hd
  refine ⟨hi, fun x H'' y => ?_⟩
  obtain ⟨rfl, rfl⟩ := y
  exact ⟨F', Grow.refl, .int _⟩
theorem enum_get : ∀ (ds : List D) (k : Int) (i : Nat) (d : D), (enumD k ds)[i]? = some d → ∃ x, ds[i]? = some x ∧ d = .tup [.int (k + i), x]
  | [], _, _, _, h => by simp [enumD] at h
  | x :: ds, k, 0, d, h => by simp [enumD] at h; subst h; exact ⟨x, rfl, by simp⟩
  | x :: ds, k, i + 1, d, h => by
    obtain ⟨y, h1, h2⟩ := enum_get ds (k + 1) i d (by simpa [enumD] using h)
    refine ⟨y, by simpa using h1, ?_⟩
    rw [h2]
    have : k + 1 + (i : Int) = k + ((i + 1 : Nat) : Int) := by omega
    rw [this]
theorem enum_len : ∀ (ds : List D) (k : Int), (enumD k ds).length = ds.length
  | [], _ => rfl
  | _ :: ds, k => congrArg Nat.succ (enum_len ds (k + 1))
theorem yields_enum {K : PySem.W.Frag} {F : Hp} {a : Addr} {xs : List V} {ds : List D} (h : SqL K F a xs) (r : RepL K F xs ds) : Yields K (Ite K a) (enumD 0 ds) F := by
  intro F' H' i e1 e2
  have hq : SqL K H' a xs := (e1.trans e2).seq h
  refine ⟨fun d hd => ?_, fun hl => ⟨xs, hq, by rw [r.len]; rw [enum_len] at hl; exact hl⟩⟩
  obtain ⟨z, hz, rfl⟩ := enum_get _ _ _ _ hd
  obtain ⟨v, hv, rv⟩ := r.get' hz
  refine ⟨⟨xs, v, hq, hv⟩, fun x H'' y => ?_⟩
  obtain ⟨T, x', rfl, hT, rfl, hx⟩ := y
  have := hx xs hq
  rw [hv] at this
  cases this
  have s1 := same_upd (u := .tup [.int (i : Nat), v]) (e2.free hT)
  refine ⟨_, Grow.new e2 hT, .tup (.inl (.inl upd_same)) (.cons ?_ (.cons ((rv.mono e1).mono s1) .nil))⟩
  have : (0 : Int) + (i : Int) = (i : Int) := Int.zero_add _
  rw [this]
  exact .int _
theorem zip_get : ∀ (as bs : List D) (i : Nat) (d : D), (zipD as bs)[i]? = some d → ∃ x y, as[i]? = some x ∧ bs[i]? = some y ∧ d = .tup [x, y]
  | [], _, _, _, h => by simp [zipD] at h
  | _ :: _, [], _, _, h => by simp [zipD] at h
  | a :: as, b :: bs, 0, d, h => by simp [zipD] at h; subst h; exact ⟨a, b, rfl, rfl, rfl⟩
  | a :: as, b :: bs, i + 1, d, h => by
    obtain ⟨x, y, h1, h2, h3⟩ := zip_get as bs i d (by simpa [zipD] using h)
    exact ⟨x, y, by simpa using h1, by simpa using h2, h3⟩
theorem zip_len : ∀ (as bs : List D), (zipD as bs).length = min as.length bs.length
  | [], _ => by simp [zipD]
  | _ :: _, [] => by simp [zipD]
  | _ :: as, _ :: bs => by simp [zipD, zip_len as bs]

section
variable {X : Cx} {Wx : WX} {tg e : Expr} {es : List Expr} {me : M D} {pos p : Pos}
theorem pim_list (h : PEM X Wx e me) : PIM X Wx tg e (mItems lstD me) := by
  refine pi_imp (pi_list h) fun σ H R h => ?_
  obtain ⟨c, F, ρ, rr, ρ', w, hm, post⟩ := h
  rcases bind_inv hm with ⟨x, ρ1, h1, h2⟩ | ⟨x, h1, rfl⟩
  · refine ⟨c, F, ρ, .ok x, ρ1, w, h1, fun F1 H1 e1 w1 v r1 => ?_⟩
    obtain ⟨z, hz, rfl, rfl⟩ := lift_inv h2
    cases x <;> cases hz
    · cases r1 with
      | lst hs hr =>
        have hq : SqL X.K F1 _ _ := .inl (.inl hs)
        exact ⟨_, rfl, ⟨_, w1.sub.seq hq⟩, post F1 H1 e1 w1 _ (yields_list hq hr)⟩
    · cases r1 with
      | rdl hs hr => exact ⟨_, rfl, ⟨_, w1.sub.seq hs⟩, post F1 H1 e1 w1 _ (yields_list hs hr)⟩
  · exact ⟨c, F, ρ, .ex x, ρ', w, h1, post⟩
theorem pim_tup (h : PEM X Wx e me) : PIM X Wx tg e (mItems tupD me) := by
  refine pi_imp (pi_tup h) fun σ H R h => ?_
  obtain ⟨c, F, ρ, rr, ρ', w, hm, post⟩ := h
  rcases bind_inv hm with ⟨x, ρ1, h1, h2⟩ | ⟨x, h1, rfl⟩
  · refine ⟨c, F, ρ, .ok x, ρ1, w, h1, fun F1 H1 e1 w1 v r1 => ?_⟩
    obtain ⟨z, hz, rfl, rfl⟩ := lift_inv h2
    cases x <;> cases hz
    cases r1 with
    | tup hs hr => exact ⟨_, rfl, ⟨_, same_sqT w1.sub hs⟩, post F1 H1 e1 w1 _ (yields_tup hs hr)⟩
  · exact ⟨c, F, ρ, .ex x, ρ', w, h1, post⟩
theorem pim_range1 {ms : List (M D)} (hp : ∀ {ta : TA}, PA X es ta → PI X tg e (iRng1 ta)) (h : PAM X Wx es (mArgs ms)) : PIM X Wx tg e (mItemsN rng1 ms) := by
  refine pi_imp (hp h) fun σ H R h => ?_
  obtain ⟨c, F, ρ, rr, ρ', w, hm, post⟩ := h
  rcases bind_inv hm with ⟨xs, ρ1, h1, h2⟩ | ⟨x, h1, rfl⟩
  · refine ⟨c, F, ρ, .ok xs, ρ1, w, h1, fun F1 H1 e1 w1 v r1 => ?_⟩
    obtain ⟨z, hz, rfl, rfl⟩ := lift_inv h2
    unfold rng1 at hz
    split at hz
    · rename_i n
      split at hz
      · rename_i hn
        cases hz
        cases r1 with
        | cons q1 q2 =>
          cases q1
          cases q2
          exact ⟨n, rfl, by omega, by omega, post F1 H1 e1 w1 _ yields_range⟩
      · cases hz
    · cases hz
  · exact ⟨c, F, ρ, .ex x, ρ', w, h1, post⟩
theorem pim_range2 {ms : List (M D)} (hp : ∀ {ta : TA}, PA X es ta → PI X tg e (iRng2 ta)) (h : PAM X Wx es (mArgs ms)) : PIM X Wx tg e (mItemsN rng2 ms) := by
  refine pi_imp (hp h) fun σ H R h => ?_
  obtain ⟨c, F, ρ, rr, ρ', w, hm, post⟩ := h
  rcases bind_inv hm with ⟨xs, ρ1, h1, h2⟩ | ⟨x, h1, rfl⟩
  · refine ⟨c, F, ρ, .ok xs, ρ1, w, h1, fun F1 H1 e1 w1 v r1 => ?_⟩
    obtain ⟨z, hz, rfl, rfl⟩ := lift_inv h2
    unfold rng2 at hz
    split at hz
    · rename_i m n
      split at hz
      · rename_i hn
        cases hz
        cases r1 with
        | cons q1 q2 =>
          cases q1
          cases q2 with
          | cons q2 q3 =>
            cases q2
            cases q3
            exact ⟨m, n, rfl, ⟨by omega, by omega, by omega, by omega⟩, post F1 H1 e1 w1 _ yields_range⟩
      · cases hz
    · cases hz
  · exact ⟨c, F, ρ, .ex x, ρ', w, h1, post⟩
theorem pim_enum {ms : List (M D)} (hp : ∀ {ta : TA}, PA X es ta → PI X tg e (iEnum X.K ta)) (h : PAM X Wx es (mArgs ms)) : PIM X Wx tg e (mItemsN enu1 ms) := by
  refine pi_imp (hp h) fun σ H R h => ?_
  obtain ⟨c, F, ρ, rr, ρ', w, hm, post⟩ := h
  rcases bind_inv hm with ⟨xs, ρ1, h1, h2⟩ | ⟨x, h1, rfl⟩
  · refine ⟨c, F, ρ, .ok xs, ρ1, w, h1, fun F1 H1 e1 w1 v r1 => ?_⟩
    obtain ⟨z, hz, rfl, rfl⟩ := lift_inv h2
    unfold enu1 at hz
    split at hz
    · cases hz
      cases r1 with
      | cons q1 q2 =>
        cases q2
        cases q1 with
        | lst hs hr =>
          have hq : SqL X.K F1 _ _ := .inl (.inl hs)
          exact ⟨_, _, rfl, w1.sub.seq hq, post F1 H1 e1 w1 _ (yields_enum hq hr)⟩
    · cases hz
  · exact ⟨c, F, ρ, .ex x, ρ', w, h1, post⟩
theorem yields_zip {K : PySem.W.Frag} {F : Hp} {a b : Addr} {xs ys : List V} {ds es : List D} (h : SqL K F a xs) (r : RepL K F xs ds) (h2 : SqL K F b ys) (r2 : RepL K F ys es) : Yields K (Itz K a b) (zipD ds es) F := by
  intro F' H' i e1 e2
  have hq : SqL K H' a xs := (e1.trans e2).seq h
  have hq2 : SqL K H' b ys := (e1.trans e2).seq h2
  refine ⟨fun d hd => ?_, fun hl => ?_⟩
  · obtain ⟨z, z', hz, hz', rfl⟩ := zip_get _ _ _ _ hd
    obtain ⟨v, hv, rv⟩ := r.get' hz
    obtain ⟨v', hv', rv'⟩ := r2.get' hz'
    refine ⟨⟨xs, ys, v, v', hq, hq2, hv, hv'⟩, fun x H'' y => ?_⟩
    obtain ⟨T, x', y', rfl, hT, rfl, hx, hy⟩ := y
    have t1 := hx xs hq
    have t2 := hy ys hq2
    rw [hv] at t1
    rw [hv'] at t2
    cases t1
    cases t2
    have s1 := same_upd (u := .tup [v, v']) (e2.free hT)
    exact ⟨_, Grow.new e2 hT, .tup (.inl (.inl upd_same)) (.cons ((rv.mono e1).mono s1) (.cons ((rv'.mono e1).mono s1) .nil))⟩
  · rw [zip_len] at hl
    have l1 := r.len
    have l2 := r2.len
    exact ⟨xs, ys, hq, hq2, by omega⟩
theorem pim_zip {ms : List (M D)} (hp : ∀ {ta : TA}, PA X es ta → PI X tg e (iZip X.K ta)) (h : PAM X Wx es (mArgs ms)) : PIM X Wx tg e (mItemsN zip2 ms) := by
  refine pi_imp (hp h) fun σ H R h => ?_
  obtain ⟨c, F, ρ, rr, ρ', w, hm, post⟩ := h
  rcases bind_inv hm with ⟨xs, ρ1, h1, h2⟩ | ⟨x, h1, rfl⟩
  · refine ⟨c, F, ρ, .ok xs, ρ1, w, h1, fun F1 H1 e1 w1 v r1 => ?_⟩
    obtain ⟨z, hz, rfl, rfl⟩ := lift_inv h2
    unfold zip2 at hz
    split at hz
    · cases hz
      cases r1 with
      | cons q1 q2 =>
        cases q2 with
        | cons q2 q3 =>
          cases q3
          cases q1 with
          | lst hs hr =>
            cases q2 with
            | lst hs2 hr2 =>
              have hq : SqL X.K F1 _ _ := .inl (.inl hs)
              have hq2 : SqL X.K F1 _ _ := .inl (.inl hs2)
              exact ⟨_, _, _, _, rfl, w1.sub.seq hq, w1.sub.seq hq2, post F1 H1 e1 w1 _ (yields_zip hq hr hq2 hr2)⟩
    · cases hz
  · exact ⟨c, F, ρ, .ex x, ρ', w, h1, post⟩
end

/-! ### for -/
def loopD (p : Put) (b : M Fl) : List D → M Fl
  | [] => M.pure .nx
  | d :: ds => fun ρ => match p d ρ with
    | none => none
    | some ρ1 => match b ρ1 with
      | some (.ok .nx, ρ2) => loopD p b ds ρ2
      | some (.ok .ct, ρ2) => loopD p b ds ρ2
      | some (.ok .bk, ρ2) => some (.ok .nx, ρ2)
      | some (.ok (.rt s), ρ2) => some (.ok (.rt s), ρ2)
      | some (.ex x, ρ2) => some (.ex x, ρ2)
      | none => none
def mFor (it : M (List D)) (p : Put) (b : M Fl) : M Fl := it.bind fun ds => loopD p b ds
section
variable {X : Cx} {Wx : WX} {pos : Pos} {tg iter : Expr} {mi : M (List D)} {body : List Stmt} {mb : M Fl} {p : Put} {js : List Nat}
theorem psm_for (hfor : ∀ {wi : TI} {g : TG} {tb : TS}, PI X tg iter wi → PG X tg g → PSs X body tb → PS X (.For tg iter body [] pos) (tFor wi g tb)) (hi : PIM X Wx tg iter mi) (hg : PGt X tg js p) (hb : PSsM X Wx body mb) : PSM X Wx (.For tg iter body [] pos) (mFor mi p mb) := by
  refine ps_imp (hfor hi hg hb) fun De σ H h => ?_
  obtain ⟨c, F, ρ, r, ρ', w, hm, post⟩ := h
  rcases bind_inv hm with ⟨ds, ρ1, q1, q2⟩ | ⟨x, q1, rfl⟩
  · refine ⟨c, F, ρ, .ok ds, ρ1, w, q1, fun F1 H1 e1 w1 J hJ => ?_⟩
    refine ⟨fun i m σ H => m = ds.length - i ∧ i ≤ ds.length ∧ ∃ F2 ρ2, Same F1 F2 ∧ W X.K c F2 ρ2 σ H ∧ loopD p mb (ds.drop i) ρ2 = some (r, ρ'), ⟨ds.length, by simp, Nat.zero_le _, F1, ρ1, Same.refl _, w1, q2⟩, ?_⟩
    rintro i m σ2 H2 ⟨rfl, hil, F2, ρ2, e2, w2, hl⟩
    obtain ⟨y1, y2⟩ := hJ F2 H2 i e2 w2.sub
    by_cases hlt : i < ds.length
    · right
      obtain ⟨hgo, hy⟩ := y1 ds[i] (List.getElem?_eq_getElem hlt)
      refine ⟨hgo, fun σ H => ∃ F3 ρ3, Same F1 F3 ∧ W X.K c F3 ρ3 σ H ∧ loopD p mb (ds.drop (i + 1)) ρ3 = some (r, ρ'), fun σ' H' ⟨F3, ρ3, a1, a2, a3⟩ => ⟨ds.length - (i + 1), by omega, rfl, hlt, F3, ρ3, a1, a2, a3⟩, fun x H3 yy => ?_⟩
      obtain ⟨F3, g3, r3⟩ := hy x H3 yy
      have w3 := g3.2 _ _ _ w2
      rw [List.drop_eq_getElem_cons hlt] at hl
      have hl' : (match p ds[i] ρ2 with
        | none => none
        | some ρ1 => match mb ρ1 with
          | some (.ok .nx, ρ2) => loopD p mb (ds.drop (i + 1)) ρ2
          | some (.ok .ct, ρ2) => loopD p mb (ds.drop (i + 1)) ρ2
          | some (.ok .bk, ρ2) => some (.ok .nx, ρ2)
          | some (.ok (.rt s), ρ2) => some (.ok (.rt s), ρ2)
          | some (.ex x, ρ2) => some (.ex x, ρ2)
          | none => none) = some (r, ρ') := hl
      cases hpp : p ds[i] ρ2 with
      | none => rw [hpp] at hl'; cases hl'
      | some ρ3 =>
        rw [hpp] at hl'
        refine ⟨c, F3, ρ2, ds[i], ρ3, w3, r3, hpp, fun σ4 _ _ w4 => ?_⟩
        have hl2 : (match mb ρ3 with
          | some (.ok .nx, ρ2) => loopD p mb (ds.drop (i + 1)) ρ2
          | some (.ok .ct, ρ2) => loopD p mb (ds.drop (i + 1)) ρ2
          | some (.ok .bk, ρ2) => some (.ok .nx, ρ2)
          | some (.ok (.rt s), ρ2) => some (.ok (.rt s), ρ2)
          | some (.ex x, ρ2) => some (.ex x, ρ2)
          | none => none) = some (r, ρ') := hl'
        cases eb : mb ρ3 with
        | none => rw [eb] at hl2; cases hl2
        | some pr =>
          obtain ⟨rb, ρ5⟩ := pr
          rw [eb] at hl2
          refine ⟨c, F3, ρ3, rb, ρ5, w4, eb, ?_⟩
          have e3 : Same F1 F3 := e2.trans g3.1
          cases rb with
          | ex x => cases hl2; exact fun F' σ' d H' e' w' r' => post F' σ' d H' ((e1.trans e3).trans e') w' r'
          | ok f =>
            cases f with
            | nx => exact fun F6 σ6 H6 e6 w6 => ⟨F6, ρ5, e3.trans e6, w6, hl2⟩
            | ct => exact fun F6 σ6 H6 e6 w6 => ⟨F6, ρ5, e3.trans e6, w6, hl2⟩
            | bk => cases hl2; exact fun F6 σ6 H6 e6 w6 => post F6 σ6 H6 ((e1.trans e3).trans e6) w6
            | rt s => cases hl2; exact fun F6 σ6 v H6 e6 w6 r6 => post F6 σ6 v H6 ((e1.trans e3).trans e6) w6 r6
    · left
      have he : ds.drop i = [] := List.drop_eq_nil_of_le (by omega)
      rw [he] at hl
      cases hl
      exact ⟨y2 (by omega), post F2 σ2 H2 (e1.trans e2) w2⟩
  · exact ⟨c, F, ρ, .ex x, ρ', w, q1, fun F' d H' e' w' r' => post F' σ d H' e' w' r'⟩
end
end L3
set_option Elab.async false
set_option linter.all false
set_option maxRecDepth 100000
set_option maxHeartbeats 2000000
namespace L3
open PySem PySem.Spec PyProof.Rows L2

/-! ### calls of defs -/
def content (ρ : List S) : Ag → Option S
  | .d d => some (.dat d)
  | .s i => match ρ[i]? with
    | some (.own o) => some (.par o)
    | some (.par o) => some (.par o)
    | _ => none
def contents (ρ : List S) : List Ag → Option (List S)
  | [] => some []
  | g :: gs => match content ρ g, contents ρ gs with
    | some s, some ss => some (s :: ss)
    | _, _ => none
def slotsOf : List Ag → List Nat
  | [] => []
  | .d _ :: gs => slotsOf gs
  | .s i :: gs => i :: slotsOf gs
def putAt (ρ : List S) (i : Nat) (o : OB) : List S := match ρ[i]? with
  | some s => ρ.set i (s.put o)
  | none => ρ
def wback : List Ag → List S → List S → Option (List S)
  | [], _, ρ => some ρ
  | .d _ :: gs, _ :: ss, ρ => wback gs ss ρ
  | .s i :: gs, .par o :: ss, ρ => wback gs ss (putAt ρ i o)
  | _, _, _ => none
def mCallS (n : Nat) (g : G) (dds : List D) (as : M (List Ag)) : M S := as.bind fun gs ρ => if (slotsOf gs).Nodup ∧ gs.length + dds.length = n then match contents ρ gs with
  | none => none
  | some ss => match g (ss ++ dds.map .dat) with
    | none => none
    | some (r, ss') => match wback gs ss' ρ with
      | none => none
      | some ρ' => some (r, ρ') else none
def asD : S → Option D
  | .dat d => some d
  | _ => none
def asO : S → Option OB
  | .own o => some o
  | _ => none
def mCall (n : Nat) (g : G) (dds : List D) (as : M (List Ag)) : M D := (mCallS n g dds as).bind fun s => M.lift (asD s)
def mCallO (n : Nat) (g : G) (dds : List D) (as : M (List Ag)) : M OB := (mCallS n g dds as).bind fun s => M.lift (asO s)
inductive AgM where
  | d (m : M D) | s (i : Nat)
def mAgs : List AgM → M (List Ag)
  | [] => M.pure []
  | .d m :: as => m.bind fun x => (mAgs as).bind fun xs => M.pure (.d x :: xs)
  | .s i :: as => fun ρ => match ρ[i]? with
    | some (.own _) => (mAgs as).bind (fun xs => M.pure (.s i :: xs)) ρ
    | some (.par _) => (mAgs as).bind (fun xs => M.pure (.s i :: xs)) ρ
    | _ => none

theorem content_s {ρ : List S} {k : Nat} {o : OB} (h : content ρ (.s k) = some (.par o)) : ρ[k]? = some (.own o) ∨ ρ[k]? = some (.par o) := by
  have h' : (match ρ[k]? with
    | some (.own o) => some (S.par o)
    | some (.par o) => some (.par o)
    | _ => none) = some (.par o) := h
  split at h' <;> rename_i e
  · cases h'; exact .inl e
  · cases h'; exact .inr e
  · cases h'
theorem content_s' {ρ : List S} {k : Nat} {s : S} (h : content ρ (.s k) = some s) : ∃ o, s = .par o := by
  have h' : (match ρ[k]? with
    | some (.own o) => some (S.par o)
    | some (.par o) => some (.par o)
    | _ => none) = some s := h
  split at h'
  · cases h'; exact ⟨_, rfl⟩
  · cases h'; exact ⟨_, rfl⟩
  · cases h'
theorem content_par {ρ : List S} {g : Ag} {o : OB} (h : content ρ g = some (.par o)) : ∃ k, g = .s k ∧ (ρ[k]? = some (.own o) ∨ ρ[k]? = some (.par o)) := by
  cases g with
  | d d => cases h
  | s k =>
    exact ⟨k, rfl, content_s h⟩
theorem contents_get {ρ : List S} : ∀ {gs : List Ag} {ss : List S} {i : Nat} {s : S}, contents ρ gs = some ss → ss[i]? = some s → ∃ g, gs[i]? = some g ∧ content ρ g = some s
  | [], ss, i, s, h, e => by cases h; simp at e
  | g :: gs, ss, i, s, h, e => by
    unfold contents at h
    split at h
    · rename_i s0 ss0 h1 h2
      cases h
      cases i with
      | zero => simp at e; subst e; exact ⟨g, rfl, h1⟩
      | succ i =>
        obtain ⟨g', a, b⟩ := contents_get (i := i) h2 (by simpa using e)
        exact ⟨g', by simpa using a, b⟩
    · cases h
theorem contents_len {ρ : List S} : ∀ {gs : List Ag} {ss : List S}, contents ρ gs = some ss → ss.length = gs.length
  | [], ss, h => by cases h; rfl
  | g :: gs, ss, h => by
    unfold contents at h
    split at h
    · rename_i s0 ss0 h1 h2
      cases h
      exact congrArg Nat.succ (contents_len h2)
    · cases h
theorem RepG.get {K : PySem.W.Frag} {F : Hp} {σ : L2.St} : ∀ {vs : List V} {gs : List Ag} {i : Nat} {g : Ag}, RepG K F σ vs gs → gs[i]? = some g → ∃ v, vs[i]? = some v ∧ match g with
    | Ag.d dd => Rep K F v dd
    | Ag.s k => ∃ a, v = V.ref a ∧ σ[k]? = some (some (V.ref a))
  | _, _, _, _, .nil, e => by simp at e
  | _, _, 0, _, .d r _, e => by simp at e; subst e; exact ⟨_, rfl, r⟩
  | _, _, 0, _, .s h _, e => by simp at e; subst e; exact ⟨_, rfl, _, rfl, h⟩
  | _, _, i + 1, _, .d _ t, e => by
    obtain ⟨v, h1, h2⟩ := RepG.get (i := i) t (by simpa using e)
    exact ⟨v, by simpa using h1, h2⟩
  | _, _, i + 1, _, .s _ t, e => by
    obtain ⟨v, h1, h2⟩ := RepG.get (i := i) t (by simpa using e)
    exact ⟨v, by simpa using h1, h2⟩
theorem RepG.len {K : PySem.W.Frag} {F : Hp} {σ : L2.St} : ∀ {vs : List V} {gs : List Ag}, RepG K F σ vs gs → vs.length = gs.length
  | _, _, .nil => rfl
  | _, _, .d _ t => congrArg Nat.succ (RepG.len t)
  | _, _, .s _ t => congrArg Nat.succ (RepG.len t)
theorem slotsOf_mem : ∀ {gs : List Ag} {i k : Nat}, gs[i]? = some (Ag.s k) → k ∈ slotsOf gs
  | [], _, _, h => by simp at h
  | .d _ :: gs, 0, k, h => by simp at h
  | .d _ :: gs, i + 1, k, h => slotsOf_mem (gs := gs) (i := i) (by simpa using h)
  | .s j :: gs, 0, k, h => by simp at h; subst h; exact List.mem_cons_self
  | .s j :: gs, i + 1, k, h => List.mem_cons_of_mem _ (slotsOf_mem (gs := gs) (i := i) (by simpa using h))
theorem slotsOf_get : ∀ {gs : List Ag} {k : Nat}, k ∈ slotsOf gs → ∃ (i : Nat), gs[i]? = some (Ag.s k)
  | [], _, h => by cases h
  | .d _ :: gs, k, h => by
    obtain ⟨i, hi⟩ := slotsOf_get (gs := gs) h
    exact ⟨i + 1, by simpa using hi⟩
  | .s j :: gs, k, h => by
    rcases List.mem_cons.mp h with e | h
    · exact ⟨0, by rw [e]; rfl⟩
    · obtain ⟨i, hi⟩ := slotsOf_get (gs := gs) h
      exact ⟨i + 1, by simpa using hi⟩
theorem slots_one : ∀ {gs : List Ag} {i j k : Nat}, (slotsOf gs).Nodup → gs[i]? = some (Ag.s k) → gs[j]? = some (Ag.s k) → i = j
  | [], _, _, _, _, h, _ => by simp at h
  | .d _ :: gs, 0, _, _, _, h, _ => by simp at h
  | .d _ :: gs, _ + 1, 0, _, _, _, h => by simp at h
  | .d _ :: gs, i + 1, j + 1, k, nd, h1, h2 => congrArg Nat.succ (slots_one (gs := gs) nd (by simpa using h1) (by simpa using h2))
  | .s m :: gs, 0, 0, _, _, _, _ => rfl
  | .s m :: gs, 0, j + 1, k, nd, h1, h2 => by
    simp at h1
    subst h1
    exact absurd (slotsOf_mem (gs := gs) (i := j) (by simpa using h2)) (List.nodup_cons.mp nd).1
  | .s m :: gs, i + 1, 0, k, nd, h1, h2 => by
    simp at h2
    subst h2
    exact absurd (slotsOf_mem (gs := gs) (i := i) (by simpa using h1)) (List.nodup_cons.mp nd).1
  | .s m :: gs, i + 1, j + 1, k, nd, h1, h2 => congrArg Nat.succ (slots_one (gs := gs) (List.nodup_cons.mp nd).2 (by simpa using h1) (by simpa using h2))
theorem putAt_ne {ρ : List S} {i j : Nat} {o : OB} (h : j ≠ i) : (putAt ρ i o)[j]? = ρ[j]? := by
  unfold putAt
  split
  · exact List.getElem?_set_ne (fun z => h z.symm)
  · rfl
theorem putAt_eq {ρ : List S} {i : Nat} {o : OB} {s : S} (h : ρ[i]? = some s) : (putAt ρ i o)[i]? = some (s.put o) := by
  unfold putAt
  rw [h]
  exact List.getElem?_set_self (List.getElem?_eq_some_iff.mp h).1
theorem wback_out : ∀ {gs : List Ag} {ss ρ ρ' : List S} {j : Nat}, wback gs ss ρ = some ρ' → j ∉ slotsOf gs → ρ'[j]? = ρ[j]?
  | [], _, _, _, _, h, _ => by cases h; rfl
  | .d _ :: gs, [], _, _, _, h, _ => by cases h
  | .d _ :: gs, _ :: ss, ρ, ρ', j, h, n => wback_out (gs := gs) (ss := ss) h n
  | .s i :: gs, [], _, _, _, h, _ => by cases h
  | .s i :: gs, .dead :: ss, _, _, _, h, _ => by cases h
  | .s i :: gs, .dat _ :: ss, _, _, _, h, _ => by cases h
  | .s i :: gs, .own _ :: ss, _, _, _, h, _ => by cases h
  | .s i :: gs, .par o :: ss, ρ, ρ', j, h, n => by
    have h' : wback gs ss (putAt ρ i o) = some ρ' := h
    rw [wback_out (gs := gs) h' (fun z => n (List.mem_cons_of_mem _ z)), putAt_ne (fun z => n (by rw [z]; exact List.mem_cons_self))]
theorem wback_in : ∀ {gs : List Ag} {ss ρ ρ' : List S} {i k : Nat} {s : S}, wback gs ss ρ = some ρ' → (slotsOf gs).Nodup → gs[i]? = some (Ag.s k) → ρ[k]? = some s → ∃ o, ss[i]? = some (.par o) ∧ ρ'[k]? = some (s.put o)
  | [], _, _, _, _, _, _, _, _, h, _ => by simp at h
  | .d _ :: gs, [], _, _, _, _, _, h, _, _, _ => by cases h
  | .d _ :: gs, _ :: ss, ρ, ρ', 0, k, s, h, nd, hg, hk => by simp at hg
  | .d _ :: gs, _ :: ss, ρ, ρ', i + 1, k, s, h, nd, hg, hk => by
    obtain ⟨o, h1, h2⟩ := wback_in (gs := gs) (ss := ss) (i := i) h nd (by simpa using hg) hk
    exact ⟨o, by simpa using h1, h2⟩
  | .s _ :: gs, [], _, _, _, _, _, h, _, _, _ => by cases h
  | .s _ :: gs, .dead :: ss, _, _, _, _, _, h, _, _, _ => by cases h
  | .s _ :: gs, .dat _ :: ss, _, _, _, _, _, h, _, _, _ => by cases h
  | .s _ :: gs, .own _ :: ss, _, _, _, _, _, h, _, _, _ => by cases h
  | .s m :: gs, .par o :: ss, ρ, ρ', 0, k, s, h, nd, hg, hk => by
    simp at hg
    subst hg
    have h' : wback gs ss (putAt ρ m o) = some ρ' := h
    exact ⟨o, rfl, by rw [wback_out (gs := gs) h' (List.nodup_cons.mp nd).1]; exact putAt_eq hk⟩
  | .s m :: gs, .par o :: ss, ρ, ρ', i + 1, k, s, h, nd, hg, hk => by
    have h' : wback gs ss (putAt ρ m o) = some ρ' := h
    have hm : k ≠ m := fun z => (List.nodup_cons.mp nd).1 (by rw [← z]; exact slotsOf_mem (gs := gs) (i := i) (by simpa using hg))
    obtain ⟨o', h1, h2⟩ := wback_in (gs := gs) (ss := ss) (i := i) h' (List.nodup_cons.mp nd).2 (by simpa using hg) (by rw [putAt_ne hm]; exact hk)
    exact ⟨o', by simpa using h1, h2⟩

section
variable {K : PySem.W.Frag} {c : Ctx} {F F' : Hp} {ρ ρ' : List S} {σ : L2.St} {H H' : Hp} {vs dvs : List V} {gs : List Ag} {ss ss' : List S} {dds : List D}
theorem put_own {s : S} {o : OB} : (∃ o', s.put o = .own o') ∨ ∃ o', s.put o = .par o' := by
  cases s
  · exact .inl ⟨_, rfl⟩
  · exact .inl ⟨_, rfl⟩
  · exact .inl ⟨_, rfl⟩
  · exact .inr ⟨_, rfl⟩
/-- what is passed by slot is owned by that slot -/
theorem pass_own (rg : RepG K F σ vs gs) (hc : contents ρ gs = some ss) {i : Nat} {o : OB} {b : Addr} (h1 : (ss ++ dds.map S.dat)[i]? = some (.par o)) (h2 : (vs ++ dvs)[i]? = some (V.ref b)) :
    ∃ (k : Nat), gs[i]? = some (Ag.s k) ∧ (ρ[k]? = some (.own o) ∨ ρ[k]? = some (.par o)) ∧ σ[k]? = some (some (V.ref b)) := by
  have hi : i < ss.length := by
    by_cases hi : i < ss.length
    · exact hi
    · rw [List.getElem?_append_right (by omega), List.getElem?_map] at h1
      cases e : dds[i - ss.length]? with
      | none => rw [e] at h1; cases h1
      | some d => rw [e] at h1; cases h1
  rw [List.getElem?_append_left hi] at h1
  obtain ⟨g, hg, hcg⟩ := contents_get hc h1
  obtain ⟨k, rfl, hk⟩ := content_par hcg
  obtain ⟨v, hv, a, rfl, ha⟩ := rg.get hg
  have hiv : i < vs.length := by rw [rg.len, ← contents_len hc]; exact hi
  rw [List.getElem?_append_left hiv] at h2
  rw [hv] at h2
  cases h2
  exact ⟨k, hg, hk, ha⟩
theorem W.args (w : W K c F ρ σ H) (rg : RepG K F σ vs gs) (nd : (slotsOf gs).Nodup) (hc : contents ρ gs = some ss) (hd : RepL K F dvs dds) : ArgS K F H (vs ++ dvs) (ss ++ dds.map S.dat) := by
  have l1 := contents_len hc
  have l2 := rg.len
  refine ⟨by rw [List.length_append, List.length_append, List.length_map, hd.len]; omega, fun i s h => ?_, fun i j o o' a h1 h2 h3 h4 => ?_⟩
  · by_cases hi : i < ss.length
    · rw [List.getElem?_append_left hi] at h
      obtain ⟨g, hg, hcg⟩ := contents_get hc h
      obtain ⟨v, hv, q⟩ := rg.get hg
      refine ⟨v, by rw [List.getElem?_append_left (by omega)]; exact hv, ?_⟩
      cases g with
      | d d => cases hcg; exact q
      | s k =>
        obtain ⟨a, rfl, ha⟩ := q
        obtain ⟨o0, rfl⟩ := content_s' hcg
        rcases content_s hcg with e | e
        · obtain ⟨x, hx, b, u, ex, f, g, r, _⟩ := w.slot k _ e
          rw [ha] at hx
          cases hx
          cases ex
          exact ⟨a, u, rfl, f, g, r⟩
        · obtain ⟨x, hx, b, u, ex, f, g, r, _⟩ := w.slot k _ e
          rw [ha] at hx
          cases hx
          cases ex
          exact ⟨a, u, rfl, f, g, r⟩
    · rw [List.getElem?_append_right (by omega), List.getElem?_map] at h
      cases e : dds[i - ss.length]? with
      | none => rw [e] at h; cases h
      | some d =>
        rw [e] at h
        cases h
        obtain ⟨v, hv, r⟩ := hd.get' e
        exact ⟨v, by rw [List.getElem?_append_right (by omega)]; rw [show i - vs.length = i - ss.length by omega]; exact hv, r⟩
  · obtain ⟨k, g1, k1, s1⟩ := pass_own (dds := dds) (dvs := dvs) rg hc h1 h3
    obtain ⟨k', g2, k2, s2⟩ := pass_own (dds := dds) (dvs := dvs) rg hc h2 h4
    have : k = k' := w.dj k k' a ⟨⟨o, k1⟩, s1⟩ ⟨⟨o', k2⟩, s2⟩
    subst this
    exact slots_one nd g1 g2
/-- behind a call -/
theorem W.call (w : W K c F ρ σ H) (rg : RepG K F σ vs gs) (nd : (slotsOf gs).Nodup) (hc : contents ρ gs = some ss) (ret : Ret K F H (vs ++ dvs) (ss ++ dds.map S.dat) F' H' ss') (hb : wback gs ss' ρ = some ρ') : W K c F' ρ' σ H' := by
  have noio : ∀ b, (∀ k, ¬ OwnAt ρ σ k b) → ¬ ioAt (vs ++ dvs) (ss ++ dds.map S.dat) b := fun b no ⟨i, o, h1, h2⟩ => by
    obtain ⟨k, _, k1, s1⟩ := pass_own (dds := dds) (dvs := dvs) rg hc h1 h2
    exact no k ⟨⟨o, k1⟩, s1⟩
  have fF : ∀ a u, F a = none → H a = some u → F' a = none := fun a u f h => by
    cases e : F' a with
    | none => rfl
    | some x =>
      have := ret.new a x e f
      rw [h] at this
      cases this
  -- the slots behind the call
  have look : ∀ (j : Nat) (s' : S), ρ'[j]? = some s' → (j ∉ slotsOf gs ∧ ρ[j]? = some s') ∨ ∃ (i : Nat) (s : S) (o : OB) (a : Addr) (u : HO), gs[i]? = some (Ag.s j) ∧ ρ[j]? = some s ∧ (∃ o0, s = .own o0 ∨ s = .par o0) ∧ s' = s.put o ∧ σ[j]? = some (some (V.ref a)) ∧ F' a = none ∧ H' a = some u ∧ RepO K F' u o := fun j s' hj => by
    by_cases hm : j ∈ slotsOf gs
    · right
      obtain ⟨i, hi⟩ := slotsOf_get hm
      have hil : i < ss.length := by rw [contents_len hc]; exact (List.getElem?_eq_some_iff.mp hi).1
      obtain ⟨g, hg, hcg⟩ := contents_get hc (List.getElem?_eq_getElem hil)
      rw [hi] at hg
      cases hg
      have hss : ∃ o0, ss[i] = .par o0 ∧ ∃ s, ρ[j]? = some s ∧ (∃ o0, s = .own o0 ∨ s = .par o0) := by
        obtain ⟨o0, ho0⟩ := content_s' hcg
        rw [ho0] at hcg
        rcases content_s hcg with e | e
        · exact ⟨o0, ho0, _, e, o0, .inl rfl⟩
        · exact ⟨o0, ho0, _, e, o0, .inr rfl⟩
      obtain ⟨o0, hso, s, hs, hso2⟩ := hss
      have hget : (ss ++ dds.map S.dat)[i]? = some (.par o0) := by rw [List.getElem?_append_left hil, List.getElem?_eq_getElem hil, hso]
      obtain ⟨a, u, o', hv, hs', f', g', r'⟩ := ret.par i o0 hget
      obtain ⟨k, gk, _, sk⟩ := pass_own (dds := dds) (dvs := dvs) rg hc hget hv
      rw [hi] at gk
      cases gk
      obtain ⟨o2, hs2, hp2⟩ := wback_in hb nd hi hs
      rw [hs'] at hs2
      cases hs2
      rw [hj] at hp2
      cases hp2
      exact ⟨i, s, o', a, u, hi, hs, hso2, rfl, sk, f', g', r'⟩
    · left
      exact ⟨hm, by rw [← wback_out hb hm]; exact hj⟩
  have own' : ∀ {j : Nat} {b : Addr}, OwnAt ρ' σ j b → OwnAt ρ σ j b := fun {j b} ⟨⟨o, h1⟩, h2⟩ => by
    have fin : ∀ s', ρ'[j]? = some s' → (∃ o, s' = S.own o ∨ s' = .par o) → OwnAt ρ σ j b := fun s' hs' ⟨o, ho⟩ => by
      rcases look j s' hs' with ⟨_, h⟩ | ⟨i, s, o', a, u, _, h, ⟨o0, h0⟩, _⟩
      · refine ⟨⟨o, ?_⟩, h2⟩
        rcases ho with rfl | rfl
        · exact .inl h
        · exact .inr h
      · refine ⟨⟨o0, ?_⟩, h2⟩
        rcases h0 with rfl | rfl
        · exact .inl h
        · exact .inr h
    rcases h1 with h1 | h1
    · exact fin _ h1 ⟨o, .inl rfl⟩
    · exact fin _ h1 ⟨o, .inr rfl⟩
  refine ⟨ret.sub, w.ext.trans ret.ext, fun b o e n => ?_, fun b o e n => ?_, fun b e => w.dom b (ret.dom b e), fun j s' hj => ?_, fun i j a h1 h2 => w.dj i j a (own' h1) (own' h2), fun a u ha => ?_⟩
  · refine ret.frm b o (w.frm b o e n) (noio b fun k ⟨⟨o', h1⟩, h2⟩ => ?_)
    rcases h1 with h1 | h1
    · obtain ⟨x, hx, a, u, ex, f, g, r, h0⟩ := w.slot k _ h1
      rw [h2] at hx
      cases hx
      cases ex
      rw [h0] at e
      cases e
    · obtain ⟨x, hx, a, u, ex, f, g, r, h0⟩ := w.slot k _ h1
      rw [h2] at hx
      cases hx
      cases ex
      exact n ⟨k, h0⟩
  · cases q : F b with
    | none => exact w.dom b (ret.new b o e q)
    | some x => exact w.new b x q n
  · rcases look j s' hj with ⟨hm, h⟩ | ⟨i, s, o, a, u, _, h, ⟨o0, h0⟩, rfl, sa, f', g', r'⟩
    · obtain ⟨x, hx, ok⟩ := w.slot j s' h
      refine ⟨x, hx, ?_⟩
      have out : ∀ a, x = some (V.ref a) → (∃ o, s' = S.own o ∨ s' = .par o) → ¬ ioAt (vs ++ dvs) (ss ++ dds.map S.dat) a := fun a ex ⟨o, ho⟩ ⟨i, o2, h1, h2⟩ => by
        obtain ⟨k, gk, k1, s1⟩ := pass_own (dds := dds) (dvs := dvs) rg hc h1 h2
        have hOwn : OwnAt ρ σ j a := by
          refine ⟨⟨o, ?_⟩, by rw [hx, ex]⟩
          rcases ho with rfl | rfl
          · exact .inl h
          · exact .inr h
        have := w.dj j k a hOwn ⟨⟨o2, k1⟩, s1⟩
        subst this
        exact hm (slotsOf_mem gk)
      cases s' with
      | dead => trivial
      | dat d => obtain ⟨v, e, r⟩ := ok; exact ⟨v, e, r.mono ret.ext⟩
      | own o =>
        obtain ⟨a, u, e, f, g, r, h0⟩ := ok
        exact ⟨a, u, e, fF a u f g, ret.frm a u g (out a e ⟨o, .inl rfl⟩), r.mono ret.ext, h0⟩
      | par o =>
        obtain ⟨a, u, e, f, g, r, h0⟩ := ok
        exact ⟨a, u, e, fF a u f g, ret.frm a u g (out a e ⟨o, .inr rfl⟩), r.mono ret.ext, h0⟩
    · refine ⟨_, sa, ?_⟩
      obtain ⟨x, hx, ok⟩ := w.slot j s h
      rw [sa] at hx
      cases hx
      rcases h0 with rfl | rfl
      · obtain ⟨b, u2, e, f, g, r, h0⟩ := ok
        cases e
        exact ⟨a, u, rfl, f', g', r', h0⟩
      · obtain ⟨b, u2, e, f, g, r, h0⟩ := ok
        cases e
        exact ⟨a, u, rfl, f', g', r', h0⟩
  · obtain ⟨h1, h2, h3⟩ := w.held a u ha
    exact ⟨ret.frm a u h1 (noio a h3), fF a u h2 h1, fun j q => h3 j (own' q)⟩
end
end L3
set_option Elab.async false
set_option linter.all false
set_option maxRecDepth 100000
set_option maxHeartbeats 2000000
namespace L3
open PySem PySem.Spec PyProof.Rows L2

section
variable {X : Cx} {Wx : WX} {k : Nat} {f C : Addr} {fd : FuncData} {ps : List Str} {sp : Sp} {dvs : List V} {ds : List Value} {x m : Str} {p pos apos : Pos} {e o : Expr} {es : List Expr} {t : TA} {ta : TE}
/-- a def that is called, the guards known -/
theorem run_fng {pins : List (Addr × Obj)} {σ : L2.St} {H : Hp} {s : Shared} {Q : VK} {us : List Value} {vs : List V} (Fn : FnG X.prog X.w X.K X.mg X.base k f fd ps sp) (hG : X.A.guards = some []) (hr : Room k X.A)
    (hb : Binds X.K fd ps ds) (hd : Vals dvs ds) (tk : Takes X Wx) (I : Inv X pins σ H s) (rv : Vals vs us) (h : sp (vs ++ dvs) H Q (fun cls d H' => Wx cls d σ H')) :
    wpAny (model X.prog X.w) X.A (PySem.call (.ref f) us) (EP X pins σ Q) X.xe s := by
  have rv2 : Vals (vs ++ dvs) (us ++ ds) := rv.append hd
  have hl : (us ++ ds).length = ps.length := rv2.length.symm.trans (Fn.len _ _ _ _ h)
  apply wpAny_call
  apply codeAny_mono (Fn.run X.A X.stack s H ⟨us, []⟩ (us ++ ds) (vs ++ dvs) Q _ hG hr I.env0 (hb s us I.kIn hl) rv2 h)
  intro r s' hq
  match r, hq with
  | .error e, hq => exact passAt tk σ pins H s e s' I hq
  | .ok (.ret u), hq => exact I.after hq
  | .ok .next, hq => exact False.elim hq
  | .ok .brk, hq => exact False.elim hq
  | .ok .cont, hq => exact False.elim hq
/-- the reading of a call -/
def tFn (sp : Sp) (dvs : List V) (Wx : WX) (t : TA) : TE := fun σ H Q => t σ H fun vs H1 => sp (vs ++ dvs) H1 Q (fun cls d H' => Wx cls d σ H')
theorem pe_fn (Fn : FnG X.prog X.w X.K X.mg X.base k f fd ps sp) (hG : X.A.guards = some []) (hr : Room k X.A) (hg : Gl X x) (hm : X.mg x = some (.ref f)) (hk : PySem.W.keepIn X.K (.ref f) = true) (hb : Binds X.K fd ps ds) (hd : Vals dvs ds) (tk : Takes X Wx)
    (ha : PA X (e :: es) t) (hdb : (x == ("__debug__" : Str)) = false := by decide) (he : starEach (e :: es) X.env = (false, eval e X.env) :: starEach es X.env := by rfl) (hpl : (backTo pos (starEach es X.env)).any (·.1) = false := by rfl) :
    PE X (.Call (.Name x p) (e :: es) [] pos) (tFn sp dvs Wx t) := by
  constructor
  intro pins s σ H Q I h
  apply wpAny_Call_Name_kw
  apply ld_glob I hg hm (hd := hdb)
  refine PySem.W.callWith_K (h₀ := X.base) I.ok.mod.kin hk (thn (ha.run pos pins s σ H _ I h) ?_) he hpl
  intro us s1 hh
  obtain ⟨vs, H1, I1, r, q⟩ := hh
  exact ⟨I1.kIn, run_fng Fn hG hr hb hd tk I1 r q⟩
theorem pe_fn0 (Fn : FnG X.prog X.w X.K X.mg X.base k f fd ps sp) (hG : X.A.guards = some []) (hr : Room k X.A) (hg : Gl X x) (hm : X.mg x = some (.ref f)) (hk : PySem.W.keepIn X.K (.ref f) = true) (hb : Binds X.K fd ps ds) (hd : Vals dvs ds) (tk : Takes X Wx)
    (hdb : (x == ("__debug__" : Str)) = false := by decide) : PE X (.Call (.Name x p) [] [] pos) (tFn sp dvs Wx tNil) := by
  constructor
  intro pins s σ H Q I h
  apply wpAny_Call_Name_kw
  apply ld_glob I hg hm (hd := hdb)
  exact PySem.W.callWith_K0 I.kIn hk (run_fng (us := []) Fn hG hr hb hd tk I .nil h)
/-- the reading of a method's call -/
def tMth (C : Addr) (m : Str) (sp : Sp) (dvs : List V) (Wx : WX) (ta : TE) (t : TA) : TE := fun σ H Q => ta σ H fun x H1 => ∃ a dx fs, x = V.ref a ∧ H1 a = some (.ins C dx fs) ∧ fs.lookup m = none ∧
  t σ H1 fun vs H2 => sp (x :: (vs ++ dvs)) H2 Q (fun cls d H' => Wx cls d σ H')
theorem pe_mth {pl : Sem Bool} (he : PE X o ta) (cl : Cls X.K C) (hm : Meth X.K C m f) (Fn : FnG X.prog X.w X.K X.mg X.base k f fd ps sp) (hG : X.A.guards = some []) (hr : Room k X.A) (hb : Binds X.K fd ps ds) (hd : Vals dvs ds) (tk : Takes X Wx) (ha : PA X (e :: es) t)
    (hst : starEach (e :: es) X.env = (false, eval e X.env) :: starEach es X.env := by rfl) (hpl : (backTo pos (starEach es X.env)).any (·.1) = false := by rfl)
    (ht : eval (.Call (.Attribute o m apos) (e :: es) [] pos) X.env = (do
      let ov ← eval o X.env
      standAt apos.atName
      let (f, first) ← holding [ov] (getMethod ov m pl)
      callWith pos f first (backTo pos (starEach (e :: es) X.env)) (backToKw pos (keywordEach [] X.env))) := by rfl) :
    PE X (.Call (.Attribute o m apos) (e :: es) [] pos) (tMth C m sp dvs Wx ta t) := by
  constructor
  intro pins s σ H Q I h
  refine PySem.W.methodCall_KW (pl := pl) (thn (he.run pins s σ H _ I h) ?_) ht
  intro u s1 hh
  obtain ⟨x, H1, I1, rx, a, dx, fs, rfl, ea, l, q⟩ := hh
  obtain rfl : u = Value.ref a := rx
  apply getmeth_ok I1 ea cl hm l
  refine PySem.W.callWith_K (first := [.ref a]) (h₀ := X.base) I.ok.mod.kin hm.kp (thn (ha.run pos pins s1 σ H1 _ I1 q) ?_) hst hpl
  intro us s2 hh2
  obtain ⟨vs, H2, I2, r, q2⟩ := hh2
  exact ⟨I2.kIn, run_fng (us := .ref a :: us) (vs := .ref a :: vs) Fn hG hr hb hd tk I2 (.cons rfl r) q2⟩
theorem pe_mth0 {pl : Sem Bool} (he : PE X o ta) (cl : Cls X.K C) (hm : Meth X.K C m f) (Fn : FnG X.prog X.w X.K X.mg X.base k f fd ps sp) (hG : X.A.guards = some []) (hr : Room k X.A) (hb : Binds X.K fd ps ds) (hd : Vals dvs ds) (tk : Takes X Wx)
    (ht : eval (.Call (.Attribute o m apos) [] [] pos) X.env = (do
      let ov ← eval o X.env
      standAt apos.atName
      let (f, first) ← holding [ov] (getMethod ov m pl)
      callWith pos f first (backTo pos (starEach [] X.env)) (backToKw pos (keywordEach [] X.env))) := by rfl) :
    PE X (.Call (.Attribute o m apos) [] [] pos) (tMth C m sp dvs Wx ta tNil) := by
  constructor
  intro pins s σ H Q I h
  refine PySem.W.methodCall_KW (pl := pl) (thn (he.run pins s σ H _ I h) ?_) ht
  intro u s1 hh
  obtain ⟨x, H1, I1, rx, a, dx, fs, rfl, ea, l, q⟩ := hh
  obtain rfl : u = Value.ref a := rx
  apply getmeth_ok I1 ea cl hm l
  exact PySem.W.callWith_K0 (first := [.ref a]) I1.kIn hm.kp (run_fng (us := [.ref a]) (vs := [.ref a]) Fn hG hr hb hd tk I1 (.cons rfl .nil) q)
/-- an instance is made -/
def tMk (C : Addr) (sp : Sp) (dvs : List V) (Wx : WX) (t : TA) : TE := fun σ H Q => t σ H fun vs H1 => ∀ x dx, H1 x = none → H1 dx = none → dx ≠ x →
  sp (.ref x :: (vs ++ dvs)) (upd (upd H1 dx (.own x)) x (.ins C dx [])) (fun v H2 => v = .non ∧ Q (.ref x) H2) (fun cls d H' => Wx cls d σ H')
theorem guards_make {A : Around} {C : Addr} {us : List Value} {kw : List (Str × Value)} (h : A.guards = some []) : (A.under (.builtin "type.__call__" ⟨.ref C :: us, kw⟩)).guards = some [] := by
  first
    | exact h
    | (simp [Around.under, Code.guards, Code.isGuard, guardIds, h])
theorem run_mkg {pins : List (Addr × Obj)} {σ : L2.St} {H : Hp} {s : Shared} {Q : VK} {us : List Value} {vs : List V} (Mk : Mk X.K C f) (Fn : FnG X.prog X.w X.K X.mg X.base k f fd ps sp) (hG : X.A.guards = some []) (hr : Room (k + 1) X.A) (hb : Binds X.K fd ps ds) (hd : Vals dvs ds)
    (tk : Takes X Wx) (I : Inv X pins σ H s) (rv : Vals vs us)
    (h : ∀ x dx, H x = none → H dx = none → dx ≠ x → sp (.ref x :: (vs ++ dvs)) (upd (upd H dx (.own x)) x (.ins C dx [])) (fun v H2 => v = .non ∧ Q (.ref x) H2) (fun cls d H' => Wx cls d σ H')) :
    wpAny (model X.prog X.w) X.A (PySem.call (.ref C) us) (EP X pins σ Q) X.xe s := by
  have hq := h (s.heap.objs.size + 1) s.heap.objs.size (I.hok.fresh (Nat.le_succ _)) (I.hok.fresh (Nat.le_refl _)) (Nat.ne_of_lt (Nat.lt_succ_self _))
  have I2 := Inv.made (C := C) I
  have rv2 : Vals (V.ref (s.heap.objs.size + 1) :: (vs ++ dvs)) (Value.ref (s.heap.objs.size + 1) :: (us ++ ds)) := .cons rfl (rv.append hd)
  have hl : (Value.ref (s.heap.objs.size + 1) :: us ++ ds).length = ps.length := rv2.length.symm.trans (Fn.len _ _ _ _ hq)
  apply wpAny_call
  apply make_map (f := f) I.kIn Mk.makes Mk.init (beq_iff_eq.mp Mk.fn)
  apply codeAny_mono (Fn.run _ X.stack _ _ ⟨Value.ref (s.heap.objs.size + 1) :: us, []⟩ (Value.ref (s.heap.objs.size + 1) :: (us ++ ds)) _ _ _ (guards_make hG) (hr.make C us []) (I2.env0.make C us []) (hb _ (Value.ref (s.heap.objs.size + 1) :: us) I2.kIn hl) rv2 hq)
  intro r s' hq'
  match r, hq' with
  | .error e, hq' => exact passAt tk σ pins _ _ e s' I2 hq'
  | .ok (.ret u), hq' =>
    obtain ⟨v, H', I3, r3, ev, q3⟩ := I2.after hq'
    subst ev
    exact ⟨r3, ⟨V.ref (s.heap.objs.size + 1), H', I3, rfl, q3⟩⟩
  | .ok .next, hq' => exact False.elim hq'
  | .ok .brk, hq' => exact False.elim hq'
  | .ok .cont, hq' => exact False.elim hq'
theorem pe_mk (Mk : Mk X.K C f) (Fn : FnG X.prog X.w X.K X.mg X.base k f fd ps sp) (hG : X.A.guards = some []) (hr : Room (k + 1) X.A) (hg : Gl X x) (hm : X.mg x = some (.ref C)) (hb : Binds X.K fd ps ds) (hd : Vals dvs ds) (tk : Takes X Wx)
    (ha : PA X (e :: es) t) (hdb : (x == ("__debug__" : Str)) = false := by decide) (he : starEach (e :: es) X.env = (false, eval e X.env) :: starEach es X.env := by rfl) (hpl : (backTo pos (starEach es X.env)).any (·.1) = false := by rfl) :
    PE X (.Call (.Name x p) (e :: es) [] pos) (tMk C sp dvs Wx t) := by
  constructor
  intro pins s σ H Q I h
  apply wpAny_Call_Name_kw
  apply ld_glob I hg hm (hd := hdb)
  refine PySem.W.callWith_K (h₀ := X.base) I.ok.mod.kin Mk.kp (thn (ha.run pos pins s σ H _ I h) ?_) he hpl
  intro us s1 hh
  obtain ⟨vs, H1, I1, r, q⟩ := hh
  exact ⟨I1.kIn, run_mkg Mk Fn hG hr hb hd tk I1 r q⟩
end

/-! ### arguments -/
section
variable {X : Cx} {Wx : WX} {e : Expr} {es : List Expr} {me : M D} {as : List AgM}
theorem pgm_nil : PGM X Wx [] (mAgs []) := by
  refine pa_imp pa_nil fun σ H Q h => ?_
  obtain ⟨c, F, ρ, rr, ρ', w, hm, post⟩ := h
  cases hm
  exact post F H (Same.refl _) w [] .nil
theorem pgm_d (ha : PEM X Wx e me) (hr : PGM X Wx es (mAgs as)) (hs : starEach (e :: es) X.env = (false, eval e X.env) :: starEach es X.env := by rfl) : PGM X Wx (e :: es) (mAgs (.d me :: as)) := by
  refine pa_imp (pa_cons ha hr hs) fun σ H Q h => ?_
  obtain ⟨c, F, ρ, rr, ρ', w, hm, post⟩ := h
  rcases bind_inv hm with ⟨x, ρ1, h1, h2⟩ | ⟨x, h1, rfl⟩
  · refine ⟨c, F, ρ, .ok x, ρ1, w, h1, fun F1 H1 e1 w1 v1 r1 => ?_⟩
    rcases bind_inv h2 with ⟨y, ρ2, h3, h4⟩ | ⟨x, h3, rfl⟩
    · refine ⟨c, F1, ρ1, .ok y, ρ2, w1, h3, fun F2 H2 e2 w2 vs r2 => ?_⟩
      cases h4
      exact post F2 H2 (e1.trans e2) w2 (v1 :: vs) (.d (r1.mono e2) r2)
    · exact ⟨c, F1, ρ1, .ex x, ρ', w1, h3, PostX.mono e1 post⟩
  · exact ⟨c, F, ρ, .ex x, ρ', w, h1, post⟩
theorem own_slot {K : PySem.W.Frag} {c : Ctx} {F : Hp} {ρ : List S} {σ : L2.St} {H : Hp} {i : Nat} {o : OB} (w : W K c F ρ σ H) (h : ρ[i]? = some (.own o) ∨ ρ[i]? = some (.par o)) :
    ∃ a u, σ[i]? = some (some (V.ref a)) ∧ OwnAt ρ σ i a ∧ F a = none ∧ H a = some u ∧ RepO K F u o := by
  rcases h with h | h
  · obtain ⟨x, hx, a, u, rfl, f, g, r, _⟩ := w.slot i _ h
    exact ⟨a, u, hx, ⟨⟨o, .inl h⟩, hx⟩, f, g, r⟩
  · obtain ⟨x, hx, a, u, rfl, f, g, r, _⟩ := w.slot i _ h
    exact ⟨a, u, hx, ⟨⟨o, .inr h⟩, hx⟩, f, g, r⟩
theorem mAgs_s {i : Nat} {ρ ρ' : List S} {r : R (List Ag)} (h : mAgs (.s i :: as) ρ = some (r, ρ')) : (∃ o, ρ[i]? = some (.own o) ∨ ρ[i]? = some (.par o)) ∧ (mAgs as).bind (fun xs => M.pure (.s i :: xs)) ρ = some (r, ρ') := by
  have h' : (match ρ[i]? with
    | some (.own _) => (mAgs as).bind (fun xs => M.pure (Ag.s i :: xs)) ρ
    | some (.par _) => (mAgs as).bind (fun xs => M.pure (.s i :: xs)) ρ
    | _ => none) = some (r, ρ') := h
  split at h' <;> rename_i e
  · exact ⟨⟨_, .inl e⟩, h'⟩
  · exact ⟨⟨_, .inr e⟩, h'⟩
  · cases h'
theorem pgm_s (i : Nat) {x : Str} {pos : Pos} (hr : PGM X Wx es (mAgs as)) (hN : X.N[i]? = some x := by rfl) (hv : Vis X.env.scope x := by first | exact Or.inl rfl | exact Or.inr (Or.inl rfl) | exact Or.inr (Or.inr rfl)) (hd : (x == ("__debug__" : Str)) = false := by decide)
    (hcd : (x == ("__classdict__" : Str)) = false := by decide) (hs : starEach (.Name x pos :: es) X.env = (false, eval (.Name x pos) X.env) :: starEach es X.env := by rfl) : PGM X Wx (.Name x pos :: es) (mAgs (.s i :: as)) := by
  refine pa_imp (pa_cons (pe_var hN hv hd hcd) hr hs) fun σ H Q h => ?_
  obtain ⟨c, F, ρ, rr, ρ', w, hm, post⟩ := h
  obtain ⟨⟨o, ho⟩, hm⟩ := mAgs_s hm
  obtain ⟨a, u, ha, _⟩ := own_slot w ho
  refine ⟨_, ha, ?_⟩
  rcases bind_inv hm with ⟨y, ρ2, h3, h4⟩ | ⟨x, h3, rfl⟩
  · refine ⟨c, F, ρ, .ok y, ρ2, w, h3, fun F2 H2 e2 w2 vs r2 => ?_⟩
    cases h4
    exact post F2 H2 e2 w2 (_ :: vs) (.s ha r2)
  · exact ⟨c, F, ρ, .ex x, ρ', w, h3, post⟩
end

/-! ### calls by semantics -/
def RetW (K : PySem.W.Frag) (c : Ctx) (ρ' : List S) (σ : L2.St) (F' H' : Hp) (v : V) (s : S) : Prop := match s with
  | .dat d => Rep K F' v d
  | .own o => ∃ a u, v = V.ref a ∧ F' a = none ∧ H' a = some u ∧ RepO K F' u o ∧ c.H a = none ∧ c.hd a = none ∧ ∀ i, ¬ OwnAt ρ' σ i a
  | _ => False
section
variable {K : PySem.W.Frag} {Wx : WX} {σ : L2.St} {H : Hp}
theorem callS_inv {n : Nat} {g : G} {dds : List D} {gs : List Ag} {ρ ρ' : List S} {r : R S} (h : (if (slotsOf gs).Nodup ∧ gs.length + dds.length = n then match contents ρ gs with
  | none => none
  | some ss => match g (ss ++ dds.map .dat) with
    | none => none
    | some (r, ss') => match wback gs ss' ρ with
      | none => none
      | some ρ' => some (r, ρ') else none) = some (r, ρ')) : (slotsOf gs).Nodup ∧ gs.length + dds.length = n ∧ ∃ ss ss', contents ρ gs = some ss ∧ g (ss ++ dds.map S.dat) = some (r, ss') ∧ wback gs ss' ρ = some ρ' := by
  split at h
  · rename_i hc
    refine ⟨hc.1, hc.2, ?_⟩
    cases e1 : contents ρ gs with
    | none => rw [e1] at h; cases h
    | some ss =>
      rw [e1] at h
      cases e2 : g (ss ++ dds.map S.dat) with
      | none => simp only [e2] at h; cases h
      | some pr =>
        obtain ⟨r2, ss'⟩ := pr
        simp only [e2] at h
        cases e3 : wback gs ss' ρ with
        | none => simp only [e3] at h; cases h
        | some ρ2 =>
          simp only [e3] at h
          cases h
          exact ⟨ss, ss', rfl, e2, e3⟩
  · cases h
theorem new_own {c : Ctx} {F : Hp} {ρ : List S} {a : Addr} (w : W K c F ρ σ H) (h : H a = none) : c.H a = none ∧ c.hd a = none ∧ ∀ i, ¬ OwnAt ρ σ i a := by
  obtain ⟨_, _, q2, q3, q4⟩ := w.alloc (u := .lst []) h
  exact ⟨q2, q3, q4⟩
/-- the callee's semantics, at these arguments -/
def callAt (n : Nat) (g : G) (dds : List D) (gs : List Ag) : M S := fun ρ => if (slotsOf gs).Nodup ∧ gs.length + dds.length = n then match contents ρ gs with
  | none => none
  | some ss => match g (ss ++ dds.map .dat) with
    | none => none
    | some (r, ss') => match wback gs ss' ρ with
      | none => none
      | some ρ' => some (r, ρ') else none
theorem callS_eq (n : Nat) (g : G) (dds : List D) (as : M (List Ag)) : mCallS n g dds as = as.bind (callAt n g dds) := rfl
theorem call_core {c : Ctx} {F1 H1 : Hp} {ρ1 ρ' : List S} {n : Nat} {g : G} {dds : List D} {dvs vs : List V} {gs : List Ag} {rr : R S} {P : S → Hp → Hp → Prop} {Q : VK} (w1 : W K c F1 ρ1 σ H1) (rg : RepG K F1 σ vs gs) (h2 : callAt n g dds gs ρ1 = some (rr, ρ')) (hd : ∀ F, RepL K F dvs dds)
    (post : PostR K Wx c F1 ρ' σ P rr) (hQ : ∀ s F' H' v, W K c F' ρ' σ H' → RetW K c ρ' σ F' H' v s → P s F' H' → Q v H') : spG K n g (vs ++ dvs) H1 Q (fun cls d H' => Wx cls d σ H') := by
  obtain ⟨nd, hn, ss, ss', hc, hg, hb⟩ := callS_inv h2
  refine ⟨by rw [List.length_append, rg.len, (hd F1).len]; exact hn, F1, ss ++ dds.map S.dat, rr, ss', w1.sub, w1.args rg nd hc (hd F1), hg, ?_⟩
  cases rr with
  | ex x => exact fun F' d H' ret rx => post F' d H' ret.ext (w1.call rg nd hc ret hb) rx
  | ok s =>
    intro F' v H' ret rv
    have w' := w1.call rg nd hc ret hb
    refine hQ s F' H' v w' ?_ (post F' H' ret.ext w')
    cases s with
    | dead => exact rv
    | par o => exact rv
    | dat d => exact rv
    | own o =>
      obtain ⟨a, u, ev, q1, q2, q3, q4⟩ := rv
      obtain ⟨z1, z2, z3⟩ := new_own w1 q4
      refine ⟨a, u, ev, q1, q2, q3, z1, z2, fun i hi => ?_⟩
      -- the slots' owners are those of before
      have : ∃ k, OwnAt ρ1 σ k a := by
        obtain ⟨⟨o', h1⟩, h2⟩ := hi
        have key : ∀ s', ρ'[i]? = some s' → (∃ o, s' = S.own o ∨ s' = .par o) → ∃ k, OwnAt ρ1 σ k a := fun s' hs' ho => by
          by_cases hmem : i ∈ slotsOf gs
          · obtain ⟨j, hj⟩ := slotsOf_get hmem
            have hjl : j < ss.length := by rw [contents_len hc]; exact (List.getElem?_eq_some_iff.mp hj).1
            obtain ⟨g2, hg2, hcg⟩ := contents_get hc (List.getElem?_eq_getElem hjl)
            rw [hj] at hg2
            cases hg2
            obtain ⟨o0, ho0⟩ := content_s' hcg
            rw [ho0] at hcg
            exact ⟨i, ⟨o0, content_s hcg⟩, h2⟩
          · rw [wback_out hb hmem] at hs'
            obtain ⟨o, ho⟩ := ho
            refine ⟨i, ⟨o, ?_⟩, h2⟩
            rcases ho with rfl | rfl
            · exact .inl hs'
            · exact .inr hs'
        rcases h1 with h1 | h1
        · exact key _ h1 ⟨_, .inl rfl⟩
        · exact key _ h1 ⟨_, .inr rfl⟩
      obtain ⟨k, hk⟩ := this
      exact z3 k hk
/-- the args are there; the call -/
theorem call_sim {n : Nat} {g : G} {dds : List D} {dvs : List V} {ma : M (List Ag)} {P : Ctx → List S → S → Hp → Hp → Prop} {Q : VK} (h : tM K Wx (mCallS n g dds ma) σ H P) (hd : ∀ F, RepL K F dvs dds)
    (hQ : ∀ c ρ' s F' H' v, W K c F' ρ' σ H' → RetW K c ρ' σ F' H' v s → P c ρ' s F' H' → Q v H') : tG K Wx ma σ H (fun vs H1 => spG K n g (vs ++ dvs) H1 Q (fun cls d H' => Wx cls d σ H')) := by
  obtain ⟨c, F, ρ, rr, ρ', w, hm, post⟩ := h
  rcases bind_inv hm with ⟨gs, ρ1, h1, h2⟩ | ⟨x, h1, rfl⟩
  · exact ⟨c, F, ρ, .ok gs, ρ1, w, h1, fun F1 H1 e1 w1 vs rg => call_core w1 rg h2 hd (post.mono e1) (hQ c ρ')⟩
  · exact ⟨c, F, ρ, .ex x, ρ', w, h1, post⟩
theorem tM_D {m : M S} {P : Ctx → List S → D → Hp → Hp → Prop} (h : tM K Wx (m.bind fun s => M.lift (asD s)) σ H P) : tM K Wx m σ H (fun c ρ' s F' H' => ∃ d, s = .dat d ∧ P c ρ' d F' H') := by
  obtain ⟨c, F, ρ, rr, ρ', w, hm, post⟩ := h
  rcases bind_inv hm with ⟨s, ρ1, h1, h2⟩ | ⟨x, h1, rfl⟩
  · obtain ⟨d, hd, rfl, rfl⟩ := lift_inv h2
    refine ⟨c, F, ρ, .ok s, _, w, h1, fun F1 H1 e1 w1 => ?_⟩
    cases s <;> cases hd
    exact ⟨_, rfl, post F1 H1 e1 w1⟩
  · exact ⟨c, F, ρ, .ex x, ρ', w, h1, post⟩
theorem tM_O {m : M S} {P : Ctx → List S → OB → Hp → Hp → Prop} (h : tM K Wx (m.bind fun s => M.lift (asO s)) σ H P) : tM K Wx m σ H (fun c ρ' s F' H' => ∃ d, s = .own d ∧ P c ρ' d F' H') := by
  obtain ⟨c, F, ρ, rr, ρ', w, hm, post⟩ := h
  rcases bind_inv hm with ⟨s, ρ1, h1, h2⟩ | ⟨x, h1, rfl⟩
  · obtain ⟨d, hd, rfl, rfl⟩ := lift_inv h2
    refine ⟨c, F, ρ, .ok s, _, w, h1, fun F1 H1 e1 w1 => ?_⟩
    cases s <;> cases hd
    exact ⟨_, rfl, post F1 H1 e1 w1⟩
  · exact ⟨c, F, ρ, .ex x, ρ', w, h1, post⟩
end
section
variable {X : Cx} {Wx : WX} {k : Nat} {f : Addr} {fd : FuncData} {ps : List Str} {dvs : List V} {dds : List D} {ds : List Value} {x : Str} {p pos : Pos} {e : Expr} {es : List Expr} {g : G} {as : List AgM}
/-- f(..), f gives data -/
theorem pem_call (Fn : FnG X.prog X.w X.K X.mg X.base k f fd ps (spG X.K ps.length g)) (hG : X.A.guards = some []) (hr : Room k X.A) (hg : Gl X x) (hm : X.mg x = some (.ref f)) (hk : PySem.W.keepIn X.K (.ref f) = true) (hb : Binds X.K fd ps ds) (hd : Vals dvs ds) (hdd : ∀ F, RepL X.K F dvs dds) (tk : Takes X Wx)
    (ha : PGM X Wx (e :: es) (mAgs as)) (hdb : (x == ("__debug__" : Str)) = false := by decide) (he : starEach (e :: es) X.env = (false, eval e X.env) :: starEach es X.env := by rfl) (hpl : (backTo pos (starEach es X.env)).any (·.1) = false := by rfl) :
    PEM X Wx (.Call (.Name x p) (e :: es) [] pos) (mCall ps.length g dds (mAgs as)) := by
  refine pe_imp (pe_fn Fn hG hr hg hm hk hb hd tk ha hdb he hpl) fun σ H Q h => ?_
  exact call_sim (tM_D h) hdd fun c ρ' s F' H' v w rv ⟨d, ed, q⟩ => by
    subst ed
    exact q v rv
theorem pom_call (Fn : FnG X.prog X.w X.K X.mg X.base k f fd ps (spG X.K ps.length g)) (hG : X.A.guards = some []) (hr : Room k X.A) (hg : Gl X x) (hm : X.mg x = some (.ref f)) (hk : PySem.W.keepIn X.K (.ref f) = true) (hb : Binds X.K fd ps ds) (hd : Vals dvs ds) (hdd : ∀ F, RepL X.K F dvs dds) (tk : Takes X Wx)
    (ha : PGM X Wx (e :: es) (mAgs as)) (hdb : (x == ("__debug__" : Str)) = false := by decide) (he : starEach (e :: es) X.env = (false, eval e X.env) :: starEach es X.env := by rfl) (hpl : (backTo pos (starEach es X.env)).any (·.1) = false := by rfl) :
    POM X Wx (.Call (.Name x p) (e :: es) [] pos) (mCallO ps.length g dds (mAgs as)) := by
  refine pe_imp (pe_fn Fn hG hr hg hm hk hb hd tk ha hdb he hpl) fun σ H Q h => ?_
  exact call_sim (tM_O h) hdd fun c ρ' s F' H' v w rv ⟨d, ed, q⟩ => by
    subst ed
    obtain ⟨a, u, ev, q1, q2, q3, q4, q5, q6⟩ := rv
    subst ev
    exact q a u q1 q2 q3 q4 q5 q6
end
end L3
set_option Elab.async false
set_option linter.all false
set_option maxRecDepth 100000
set_option maxHeartbeats 2000000
namespace L3
open PySem PySem.Spec PyProof.Rows L2

/-! ### fields of instances -/
theorem RepF.look {K : PySem.W.Frag} {F : Hp} {f : Str} : ∀ {fs : List (Str × V)} {ds : List (Str × D)}, RepF K F fs ds → (∀ d, ds.lookup f = some d → ∃ v, fs.lookup f = some v ∧ Rep K F v d) ∧ (ds.lookup f = none → fs.lookup f = none)
  | _, _, .nil => ⟨fun d h => by simp [List.lookup] at h, fun _ => rfl⟩
  | _, _, .cons (f := g) (v := v) (d := d) r t => by
    obtain ⟨h1, h2⟩ := RepF.look (f := f) t
    refine ⟨fun d' h => ?_, fun h => ?_⟩
    · rw [List.lookup_cons] at h ⊢
      cases e : f == g with
      | true => rw [e] at h; cases h; exact ⟨v, rfl, r⟩
      | false => rw [e] at h; exact h1 d' h
    · rw [List.lookup_cons] at h ⊢
      cases e : f == g with
      | true => rw [e] at h; cases h
      | false => rw [e] at h; exact h2 h
theorem RepF.len {K : PySem.W.Frag} {F : Hp} : ∀ {fs : List (Str × V)} {ds : List (Str × D)}, RepF K F fs ds → fs.length = ds.length
  | _, _, .nil => rfl
  | _, _, .cons _ t => congrArg Nat.succ (RepF.len t)
def putD (f : Str) (v : D) : List (Str × D) → List (Str × D)
  | [] => [(f, v)]
  | (g, x) :: r => if g = f then (g, v) :: r else (g, x) :: putD f v r
theorem RepF.put {K : PySem.W.Frag} {F : Hp} {f : Str} {v : V} {d : D} (r : Rep K F v d) : ∀ {fs : List (Str × V)} {ds : List (Str × D)}, RepF K F fs ds → RepF K F (putF f v fs) (putD f d ds)
  | _, _, .nil => .cons r .nil
  | _, _, .cons (f := g) (v := w) (d := e) r1 t => by
    show RepF K F (if g = f then (g, v) :: _ else (g, w) :: putF f v _) (if g = f then (g, d) :: _ else (g, e) :: putD f d _)
    by_cases h : g = f
    · rw [if_pos h, if_pos h]
      exact .cons r t
    · rw [if_neg h, if_neg h]
      exact .cons r1 (RepF.put r t)
def fldD (C : Addr) (f : Str) : D → Option D
  | .ins C' fs => if C' = C then fs.lookup f else none
  | _ => none
def fldO (C : Addr) (f : Str) : OB → Option D
  | .ins C' fs => if C' = C then fs.lookup f else none
  | _ => none
def mSlot (i : Nat) : M OB := fun ρ => match ρ[i]? with
  | some (.own o) => some (.ok o, ρ)
  | some (.par o) => some (.ok o, ρ)
  | _ => none
/-- a field of the object that slot i owns -/
def mFldS (i : Nat) (C : Addr) (f : Str) : M D := (mSlot i).bind fun o => M.lift (fldO C f o)
def mSetF (i : Nat) (C : Addr) (f : Str) (a : M D) : M Fl := a.bind fun d => (mSlot i).bind fun o ρ => match o with
  | .ins C' fs => if C' = C ∧ fs.length < 900 then some (.ok .nx, putAt ρ i (.ins C' (putD f d fs))) else none
  | _ => none
theorem slot_inv {i : Nat} {ρ ρ' : List S} {r : R OB} (h : mSlot i ρ = some (r, ρ')) : ∃ o, r = .ok o ∧ ρ' = ρ ∧ (ρ[i]? = some (.own o) ∨ ρ[i]? = some (.par o)) := by
  unfold mSlot at h
  split at h <;> rename_i e
  · cases h; exact ⟨_, rfl, rfl, .inl e⟩
  · cases h; exact ⟨_, rfl, rfl, .inr e⟩
  · cases h
section
variable {X : Cx} {Wx : WX} {e : Expr} {me : M D} {pos pos' p : Pos} {C : Addr} {f : Str}
theorem pem_fld (cl : Cls X.K (cA X.K C)) (na : NoAttr X.K (cA X.K C) f) (h : PEM X Wx e me) (hb : attributeBase e f X.env (eval e X.env) = eval e X.env := by rfl) : PEM X Wx (.Attribute e f pos) (mUn (fldD C f) me) := by
  refine pe_imp (pe_fld h hb) fun σ H Q h => ?_
  obtain ⟨c, F, ρ, rr, ρ', w, hm, post⟩ := h
  rcases bind_inv hm with ⟨x, ρ1, h1, h2⟩ | ⟨x, h1, rfl⟩
  · refine ⟨c, F, ρ, .ok x, ρ1, w, h1, fun F1 H1 e1 w1 v1 r1 => ?_⟩
    obtain ⟨z, hz, rfl, rfl⟩ := lift_inv h2
    cases r1 <;> try (cases hz; done)
    rename_i a dx C' fs ds ha hr
    have hz' : (if C' = C then ds.lookup f else none) = some z := hz
    split at hz'
    · rename_i hC
      subst hC
      obtain ⟨v, hv, rv⟩ := hr.look.1 z hz'
      exact ⟨_, _, _, _, v, rfl, w1.sub _ _ ha, cl, na, hv, post F1 H1 e1 w1 v rv⟩
    · cases hz'
  · exact ⟨c, F, ρ, .ex x, ρ', w, h1, post⟩
theorem pem_fldS (i : Nat) {x : Str} (cl : Cls X.K (cA X.K C)) (na : NoAttr X.K (cA X.K C) f) (hN : X.N[i]? = some x := by rfl) (hv : Vis X.env.scope x := by first | exact Or.inl rfl | exact Or.inr (Or.inl rfl) | exact Or.inr (Or.inr rfl)) (hd : (x == ("__debug__" : Str)) = false := by decide)
    (hcd : (x == ("__classdict__" : Str)) = false := by decide) (hb : attributeBase (.Name x p) f X.env (eval (.Name x p) X.env) = eval (.Name x p) X.env := by rfl) : PEM X Wx (.Attribute (.Name x p) f pos) (mFldS i C f) := by
  refine pe_imp (pe_fld (pe_var hN hv hd hcd) hb) fun σ H Q h => ?_
  obtain ⟨c, F, ρ, rr, ρ', w, hm, post⟩ := h
  rcases bind_inv hm with ⟨o, ρ1, h1, h2⟩ | ⟨x, h1, rfl⟩
  · obtain ⟨_, ez, rfl, ho⟩ := slot_inv h1
    cases ez
    obtain ⟨z, hz, rfl, rfl⟩ := lift_inv h2
    obtain ⟨a, u, ha, _, fa, ga, ro⟩ := own_slot w ho
    cases ro <;> try (cases hz; done)
    rename_i C' dx fs ds hr
    have hz' : (if C' = C then ds.lookup f else none) = some z := hz
    split at hz'
    · rename_i hC
      subst hC
      obtain ⟨v, hv, rv⟩ := hr.look.1 z hz'
      exact ⟨_, ha, _, _, _, _, v, rfl, ga, cl, na, hv, post F H (Same.refl _) w v rv⟩
    · cases hz'
  · obtain ⟨_, ez, _⟩ := slot_inv h1
    cases ez
theorem psm_fld (i : Nat) {x : Str} (cl : Cls X.K (cA X.K C)) (na : NoAttr X.K (cA X.K C) f) (h : PEM X Wx e me) (hN : X.N[i]? = some x := by rfl) (hv : Vis X.env.scope x := by first | exact Or.inl rfl | exact Or.inr (Or.inl rfl) | exact Or.inr (Or.inr rfl)) (hd : (x == ("__debug__" : Str)) = false := by decide)
    (hcd : (x == ("__classdict__" : Str)) = false := by decide) (hs : swapsWith e (some (.Attribute (.Name x p) f pos')) pos.line X.env = pure false := by rfl) : PSM X Wx (.Assign [.Attribute (.Name x p) f pos'] e pos) (mSetF i C f me) := by
  refine ps_imp (ps_fld (pe_var hN hv hd hcd) h hs) fun De σ H h => ?_
  obtain ⟨c, F, ρ, rr, ρ', w, hm, post⟩ := h
  rcases bind_inv hm with ⟨d, ρ1, h1, h2⟩ | ⟨x, h1, rfl⟩
  · refine ⟨c, F, ρ, .ok d, ρ1, w, h1, fun F1 H1 e1 w1 v1 r1 => ?_⟩
    rcases bind_inv h2 with ⟨o, ρ2, h3, h4⟩ | ⟨x, h3, rfl⟩
    · obtain ⟨_, ez, rfl, ho⟩ := slot_inv h3
      cases ez
      obtain ⟨a, u, ha, hown, fa, ga, ro⟩ := own_slot w1 ho
      cases ro <;> try (cases h4; done)
      rename_i C' dx fs ds hr
      have h5 : (if C' = C ∧ ds.length < 900 then some (R.ok Fl.nx, putAt ρ2 i (.ins C' (putD f d ds))) else none) = some (rr, ρ') := h4
      split at h5
      · rename_i hC
        obtain ⟨rfl, hl⟩ := hC
        cases h5
        refine ⟨_, ha, a, cA X.K C', dx, fs, rfl, ga, cl, na, by rw [hr.len]; omega, ?_⟩
        obtain ⟨s, hs⟩ : ∃ s, ρ2[i]? = some s := by rcases ho with ho | ho <;> exact ⟨_, ho⟩
        refine post F1 σ _ e1 ?_
        unfold putAt
        rw [hs]
        exact w1.chg hs hown (.ins (hr.put r1))
      · cases h5
    · obtain ⟨_, ez, _⟩ := slot_inv h3
      cases ez
  · exact ⟨c, F, ρ, .ex x, ρ', w, h1, fun F' d H' e' w' r' => post F' σ d H' e' w' r'⟩
end

/-! ### lists that a slot owns -/
def ixD (ds : List D) (k : D) : Option D := match k with
  | .int i => atI ds i
  | _ => none
def mIxS (i : Nat) (k : M D) : M D := (mSlot i).bind fun _ => k.bind fun kd => (mSlot i).bind fun o => M.lift (match o with | .lst ds => ixD ds kd | _ => none)
def mSlotL (i : Nat) : M (List D) := fun ρ => match ρ[i]? with
  | some (.own (.lst ds)) => some (.ok ds, ρ)
  | some (.par (.lst ds)) => some (.ok ds, ρ)
  | _ => none
def ixOf (ds : List D) : D → Option Nat
  | .int j => ixN ds.length j
  | _ => none
def mSetIx (i : Nat) (k a : M D) : M Fl := a.bind fun d => (mSlot i).bind fun _ => k.bind fun kd => (mSlotL i).bind fun ds => (M.lift (ixOf ds kd)).bind fun n ρ => some (.ok .nx, putAt ρ i (.lst (ds.set n d)))
def mApp (i : Nat) (a : M D) : M Fl := (mSlotL i).bind fun _ => a.bind fun d => (mSlotL i).bind fun ds ρ => if ds.length < 1000000 then some (.ok .nx, putAt ρ i (.lst (ds ++ [d]))) else none
def mLenS (i : Nat) : M D := (mSlotL i).bind fun ds => M.pure (.int ds.length)
/-- the object of slot i is data from now on -/
def mFrzS (i : Nat) : M D := fun ρ => match ρ[i]? with
  | some (.own o) => some (.ok o.toD, ρ.set i (.dat o.toD))
  | _ => none
theorem RepL.atI {K : PySem.W.Frag} {F : Hp} {vs : List V} {ds : List D} (r : RepL K F vs ds) {i : Int} {d : D} (h : L2.atI ds i = some d) : ∃ v, L2.atI vs i = some v ∧ Rep K F v d := by
  unfold L2.atI at h ⊢
  rw [r.len]
  cases e : ixN ds.length i with
  | none => rw [e] at h; cases h
  | some j =>
    rw [e] at h
    obtain ⟨v, hv, rv⟩ := r.get' (show ds[j]? = some d from h)
    exact ⟨v, hv, rv⟩
theorem RepL.set {K : PySem.W.Frag} {F : Hp} {v : V} {d : D} (q : Rep K F v d) : ∀ {vs : List V} {ds : List D} (n : Nat), RepL K F vs ds → RepL K F (vs.set n v) (ds.set n d)
  | _, _, _, .nil => .nil
  | _, _, 0, .cons _ t => .cons q t
  | _, _, n + 1, .cons r t => .cons r (RepL.set q n t)
theorem RepL.append {K : PySem.W.Frag} {F : Hp} : ∀ {vs ws : List V} {ds es : List D}, RepL K F vs ds → RepL K F ws es → RepL K F (vs ++ ws) (ds ++ es)
  | _, _, _, _, .nil, s => s
  | _, _, _, _, .cons r t, s => .cons r (RepL.append t s)
section
variable {X : Cx} {Wx : WX} {e k : Expr} {me mk : M D} {pos pos' p apos : Pos} {x : Str}
theorem pem_frzS (i : Nat) (hN : X.N[i]? = some x := by rfl) (hv : Vis X.env.scope x := by first | exact Or.inl rfl | exact Or.inr (Or.inl rfl) | exact Or.inr (Or.inr rfl)) (hd : (x == ("__debug__" : Str)) = false := by decide)
    (hcd : (x == ("__classdict__" : Str)) = false := by decide) : PEM X Wx (.Name x pos) (mFrzS i) := by
  refine pe_imp (pe_var hN hv hd hcd) fun σ H Q h => ?_
  obtain ⟨c, F, ρ, r, ρ', w, hm, post⟩ := h
  unfold mFrzS at hm
  split at hm
  · rename_i o hs
    cases hm
    obtain ⟨y, hx, a, u, rfl, fa, ga, ro, h0⟩ := w.slot i _ hs
    have hown : OwnAt ρ σ i a := ⟨⟨o, .inl hs⟩, hx⟩
    have hh : c.hd a = none := by
      cases e : c.hd a with
      | none => rfl
      | some z => exact absurd hown ((w.held a z e).2.2 i)
    have w1 : W X.K c F (ρ.set i .dead) (σ.set i (some (V.ref a))) H := w.setX (some (V.ref a))
    have es : σ.set i (some (V.ref a)) = σ := by
      have hl := (List.getElem?_eq_some_iff.mp hx)
      obtain ⟨h1, h2⟩ := hl
      rw [← h2]
      exact List.set_getElem_self h1
    have no : ∀ j, ¬ OwnAt (ρ.set i .dead) (σ.set i (some (V.ref a))) j a := fun j hj => by
      by_cases ej : i = j
      · subst ej
        obtain ⟨⟨o', h1⟩, _⟩ := hj
        rcases h1 with h1 | h1 <;> rcases get_set_some h1 with ⟨_, z, _⟩ | ⟨z, _⟩ <;> first | (cases z; done) | exact z rfl
      · exact ej (w.dj i j a hown (own_set_ne ej hj))
    have w2 := w1.frz fa ga h0 hh no
    have s1 : Same F (upd F a u) := same_upd fa
    have rr : Rep X.K (upd F a u) (V.ref a) o.toD := (ro.mono s1).rep upd_same
    have w3 := w2.setD (i := i) rr
    rw [List.set_set, List.set_set, es] at w3
    exact ⟨_, hx, post (upd F a u) H s1 w3 _ rr⟩
  · cases hm
theorem pem_ixS (i : Nat) (hk : PEM X Wx k mk) (hp : PlainIx k := by exact fun _ _ => rfl) (hN : X.N[i]? = some x := by rfl) (hv : Vis X.env.scope x := by first | exact Or.inl rfl | exact Or.inr (Or.inl rfl) | exact Or.inr (Or.inr rfl)) (hd : (x == ("__debug__" : Str)) = false := by decide)
    (hcd : (x == ("__classdict__" : Str)) = false := by decide) : PEM X Wx (.Subscript (.Name x p) k pos) (mIxS i mk) := by
  refine pe_imp (pe_ix ix_list (pe_var hN hv hd hcd) hk hp) fun σ H Q h => ?_
  obtain ⟨c, F, ρ, rr, ρ', w, hm, post⟩ := h
  rcases bind_inv hm with ⟨o0, ρ0, g1, g2⟩ | ⟨x, g1, rfl⟩
  · obtain ⟨_, ez, rfl, ho0⟩ := slot_inv g1
    cases ez
    obtain ⟨a, u, ha, _⟩ := own_slot w ho0
    refine ⟨_, ha, ?_⟩
    rcases bind_inv g2 with ⟨kd, ρ1, h1, h2⟩ | ⟨x, h1, rfl⟩
    · refine ⟨c, F, _, .ok kd, ρ1, w, h1, fun F1 H1 e1 w1 v1 r1 => ?_⟩
      rcases bind_inv h2 with ⟨o, ρ2, h3, h4⟩ | ⟨x, h3, rfl⟩
      · obtain ⟨_, ez, rfl, ho⟩ := slot_inv h3
        cases ez
        obtain ⟨z, hz, rfl, rfl⟩ := lift_inv h4
        obtain ⟨a', u', ha', _, fa, ga, ro⟩ := own_slot w1 ho
        rw [ha] at ha'
        cases ha'
        cases ro <;> try (cases hz; done)
        rename_i xs ds hr
        cases r1 <;> try (cases hz; done)
        rename_i j
        obtain ⟨v, hv, rv⟩ := hr.atI (show L2.atI ds j = some z from hz)
        exact ⟨a, xs, j, v, rfl, rfl, .inl (.inl ga), hv, post F1 H1 e1 w1 v rv⟩
      · obtain ⟨_, ez, _⟩ := slot_inv h3
        cases ez
    · exact ⟨c, F, _, .ex x, ρ', w, h1, post⟩
  · obtain ⟨_, ez, _⟩ := slot_inv g1
    cases ez
theorem slotL_inv {i : Nat} {ρ ρ' : List S} {r : R (List D)} (h : mSlotL i ρ = some (r, ρ')) : ∃ ds, r = .ok ds ∧ ρ' = ρ ∧ (ρ[i]? = some (.own (.lst ds)) ∨ ρ[i]? = some (.par (.lst ds))) := by
  unfold mSlotL at h
  split at h <;> rename_i e
  · cases h; exact ⟨_, rfl, rfl, .inl e⟩
  · cases h; exact ⟨_, rfl, rfl, .inr e⟩
  · cases h
theorem own_list {K : PySem.W.Frag} {c : Ctx} {F : Hp} {ρ : List S} {σ : L2.St} {H : Hp} {i : Nat} {ds : List D} (w : W K c F ρ σ H) (h : ρ[i]? = some (.own (.lst ds)) ∨ ρ[i]? = some (.par (.lst ds))) :
    ∃ a xs, σ[i]? = some (some (V.ref a)) ∧ OwnAt ρ σ i a ∧ F a = none ∧ H a = some (.lst xs) ∧ RepL K F xs ds := by
  obtain ⟨a, u, h1, h2, h3, h4, h5⟩ := own_slot w h
  cases h5 with
  | lst r => exact ⟨a, _, h1, h2, h3, h4, r⟩
theorem W.put {K : PySem.W.Frag} {c : Ctx} {F : Hp} {ρ : List S} {σ : L2.St} {H : Hp} {i : Nat} {a : Addr} {u : HO} {o : OB} (w : W K c F ρ σ H) (h : OwnAt ρ σ i a) (r : RepO K F u o) : W K c F (putAt ρ i o) σ (upd H a u) := by
  obtain ⟨s, hs⟩ : ∃ s, ρ[i]? = some s := by
    obtain ⟨⟨o', h1⟩, _⟩ := h
    rcases h1 with h1 | h1 <;> exact ⟨_, h1⟩
  unfold putAt
  rw [hs]
  exact w.chg hs h r
theorem psm_app (i : Nat) (he : PEM X Wx e me)
    (hp : ∀ {to : TE} {t : TA}, PE X (.Name x p) to → PA X [e] t → PS X (.Expr (.Call (.Attribute (.Name x p) "append" apos) [e] [] pos) pos') (tDrop (tBM X.K "list" rAppend to t)))
    (hN : X.N[i]? = some x := by rfl) (hv : Vis X.env.scope x := by first | exact Or.inl rfl | exact Or.inr (Or.inl rfl) | exact Or.inr (Or.inr rfl)) (hd : (x == ("__debug__" : Str)) = false := by decide)
    (hcd : (x == ("__classdict__" : Str)) = false := by decide)
    (hs : starEach [e] X.env = (false, eval e X.env) :: starEach [] X.env := by rfl) : PSM X Wx (.Expr (.Call (.Attribute (.Name x p) "append" apos) [e] [] pos) pos') (mApp i me) := by
  refine ps_imp (hp (pe_var hN hv hd hcd) (pa_cons he pa_nil hs)) fun De σ H h => ?_
  obtain ⟨c, F, ρ, rr, ρ', w, hm, post⟩ := h
  rcases bind_inv hm with ⟨o0, ρ0, g1, g2⟩ | ⟨x, g1, rfl⟩
  · obtain ⟨_, ez, rfl, ho0⟩ := slotL_inv g1
    cases ez
    obtain ⟨a, xs0, ha, _, fa0, ga0, ro0⟩ := own_list w ho0
    refine ⟨_, ha, .inl ⟨rfl, xs0, .inl (.inl ga0)⟩, ?_⟩
    rcases bind_inv g2 with ⟨d, ρ1, h1, h2⟩ | ⟨x, h1, rfl⟩
    · refine ⟨c, F, _, .ok d, ρ1, w, h1, fun F1 H1 e1 w1 v1 r1 => ?_⟩
      rcases bind_inv h2 with ⟨ds, ρ2, h3, h4⟩ | ⟨x, h3, rfl⟩
      · obtain ⟨_, ez, rfl, ho⟩ := slotL_inv h3
        cases ez
        obtain ⟨a', xs, ha', hown, fa, ga, ro⟩ := own_list w1 ho
        rw [ha] at ha'
        cases ha'
        have h5 : (if ds.length < 1000000 then some (R.ok Fl.nx, putAt ρ2 i (.lst (ds ++ [d]))) else none) = some (rr, ρ') := h4
        split at h5
        · rename_i hl
          cases h5
          refine ⟨a, xs, v1, rfl, rfl, ga, ?_, ?_⟩
          · rw [ro.len]
            exact Nat.lt_of_lt_of_le hl (by decide)
          · exact post F1 σ _ e1 (w1.put hown (.lst (ro.append (.cons r1 .nil))))
        · cases h5
      · obtain ⟨_, ez, _⟩ := slotL_inv h3
        cases ez
    · exact ⟨c, F, _, .ex x, ρ', w, h1, fun F' d H' e' w' r' => post F' σ d H' e' w' r'⟩
  · obtain ⟨_, ez, _⟩ := slotL_inv g1
    cases ez
theorem psm_setIx (i : Nat) {q : Pos} (hk : PEM X Wx k mk) (he : PEM X Wx e me)
    (hp : ∀ {te to ti : TE}, PE X e te → PE X (.Name x p) to → PE X k ti → PS X (.Assign [.Subscript (.Name x p) k q] e pos) (tAsg te (gSub to ti rSetL)))
    (hN : X.N[i]? = some x := by rfl) (hv : Vis X.env.scope x := by first | exact Or.inl rfl | exact Or.inr (Or.inl rfl) | exact Or.inr (Or.inr rfl)) (hd : (x == ("__debug__" : Str)) = false := by decide)
    (hcd : (x == ("__classdict__" : Str)) = false := by decide) : PSM X Wx (.Assign [.Subscript (.Name x p) k q] e pos) (mSetIx i mk me) := by
  refine ps_imp (hp he (pe_var hN hv hd hcd) hk) fun De σ H h => ?_
  obtain ⟨c, F, ρ, rr, ρ', w, hm, post⟩ := h
  rcases bind_inv hm with ⟨d, ρ1, h1, h2⟩ | ⟨x, h1, rfl⟩
  · refine ⟨c, F, _, .ok d, ρ1, w, h1, fun F1 H1 e1 w1 v1 r1 => ?_⟩
    rcases bind_inv h2 with ⟨o0, ρ0, g1, g2⟩ | ⟨x, g1, rfl⟩
    · obtain ⟨_, ez, rfl, ho0⟩ := slot_inv g1
      cases ez
      obtain ⟨a, u, ha, _⟩ := own_slot w1 ho0
      refine ⟨_, ha, ?_⟩
      rcases bind_inv g2 with ⟨kd, ρ2, h3, h4⟩ | ⟨x, h3, rfl⟩
      · refine ⟨c, F1, _, .ok kd, ρ2, w1, h3, fun F2 H2 e2 w2 v2 r2 => ?_⟩
        rcases bind_inv h4 with ⟨ds, ρ3, h5, h6⟩ | ⟨x, h5, rfl⟩
        · obtain ⟨_, ez, rfl, ho⟩ := slotL_inv h5
          cases ez
          obtain ⟨a', xs, ha', hown, fa, ga, ro⟩ := own_list w2 ho
          rw [ha] at ha'
          cases ha'
          rcases bind_inv h6 with ⟨n, ρ4, h7, h8⟩ | ⟨x, h7, rfl⟩
          · obtain ⟨_, hn, ez, rfl⟩ := lift_inv h7
            cases ez
            cases h8
            cases r2 <;> try (cases hn; done)
            rename_i j
            refine ⟨a, xs, j, n, rfl, rfl, ga, ?_, ?_⟩
            · rw [ro.len]
              exact hn
            · exact post F2 σ _ (e1.trans e2) (w2.put hown (.lst (ro.set (r1.mono e2) n)))
          · obtain ⟨_, _, ez, _⟩ := lift_inv h7
            cases ez
        · obtain ⟨_, ez, _⟩ := slotL_inv h5
          cases ez
      · exact ⟨c, F1, _, .ex x, ρ', w1, h3, fun F' d H' e' w' r' => post F' σ d H' (e1.trans e') w' r'⟩
    · obtain ⟨_, ez, _⟩ := slot_inv g1
      cases ez
  · exact ⟨c, F, _, .ex x, ρ', w, h1, fun F' d H' e' w' r' => post F' σ d H' e' w' r'⟩
theorem pem_lenS (i : Nat) (hp : ∀ {t : TA}, PA X [.Name x p] t → PE X e (tCB (fun xs H Q => ∃ p ys, xs = [V.ref p] ∧ (SqL X.K H p ys ∨ SqT X.K H p ys) ∧ Q (.int ys.length) H) t))
    (hN : X.N[i]? = some x := by rfl) (hv : Vis X.env.scope x := by first | exact Or.inl rfl | exact Or.inr (Or.inl rfl) | exact Or.inr (Or.inr rfl)) (hd : (x == ("__debug__" : Str)) = false := by decide)
    (hcd : (x == ("__classdict__" : Str)) = false := by decide) (hs : starEach [.Name x p] X.env = (false, eval (.Name x p) X.env) :: starEach [] X.env := by rfl) : PEM X Wx e (mLenS i) := by
  refine pe_imp (hp (pa_cons (pe_var hN hv hd hcd) pa_nil hs)) fun σ H Q h => ?_
  obtain ⟨c, F, ρ, rr, ρ', w, hm, post⟩ := h
  rcases bind_inv hm with ⟨ds, ρ1, h1, h2⟩ | ⟨x, h1, rfl⟩
  · obtain ⟨_, ez, rfl, ho⟩ := slotL_inv h1
    cases ez
    cases h2
    obtain ⟨a, xs, ha, hown, fa, ga, ro⟩ := own_list w ho
    refine ⟨_, ha, a, xs, rfl, .inl (.inl (.inl ga)), post F H (Same.refl _) w _ ?_⟩
    rw [ro.len]
    exact .int _
  · obtain ⟨_, ez, _⟩ := slotL_inv h1
    cases ez
end

/-! ### list comprehensions -/
def wipeR (ρ : List S) : List Nat → List S
  | [] => ρ
  | v :: vs => (wipeR ρ vs).set v .dead
def plainAt (ρ : List S) (v : Nat) : Bool := match ρ[v]? with
  | some (.own _) => false
  | some (.par _) => false
  | _ => true
def restore (ρ ρ' : List S) : List Nat → List S
  | [] => ρ'
  | v :: vs => match ρ[v]? with
    | some s => (restore ρ ρ' vs).set v s
    | none => restore ρ ρ' vs
def compD (vs : List Nat) (p : Put) (t : M Bool) (e : M D) : List D → List D → List S → Option (List D × List S)
  | [], acc, ρ => some (acc, ρ)
  | d :: ds, acc, ρ => match p d ρ with
    | none => none
    | some ρ1 => match t ρ1 with
      | some (.ok true, ρ2) => match e ρ2 with
        | some (.ok y, ρ3) => compD vs p t e ds (acc ++ [y]) (wipeR ρ3 vs)
        | _ => none
      | some (.ok false, ρ2) => compD vs p t e ds acc (wipeR ρ2 vs)
      | _ => none
def mComp (vs : List Nat) (it : M (List D)) (p : Put) (t : M Bool) (e : M D) : M OB := it.bind fun ds ρ => if (vs.all (plainAt ρ)) = true ∧ ds.length < 900000 then match compD vs p t e ds [] (wipeR ρ vs) with
  | some (out, ρ') => some (.ok (.lst out), restore ρ ρ' vs)
  | none => none else none
def mYes : M Bool := M.pure true
section
variable {K : PySem.W.Frag} {c : Ctx} {F : Hp} {ρ : List S} {σ : L2.St} {H : Hp}
theorem W.wipe (w : W K c F ρ σ H) : ∀ vs : List Nat, W K c F (wipeR ρ vs) (L2.wipe σ vs) H
  | [] => w
  | v :: vs => (W.wipe w vs).setX none
theorem wipe_get {σ : L2.St} {i : Nat} : ∀ {vs : List Nat}, (L2.wipe σ vs)[i]? = if i < σ.length then (if i ∈ vs then some none else σ[i]?) else none
  | [] => by
    by_cases h : i < σ.length
    · simp [L2.wipe, h]
    · rw [if_neg h]; exact List.getElem?_eq_none_iff.mpr (by show σ.length ≤ i; omega)
  | v :: vs => by
    show ((L2.wipe σ vs).set v none)[i]? = _
    by_cases e : v = i
    · subst e
      by_cases h : v < σ.length
      · rw [List.getElem?_set_self (by rw [wipe_length]; exact h), if_pos h, if_pos List.mem_cons_self]
      · rw [if_neg h]
        exact List.getElem?_eq_none_iff.mpr (by rw [List.length_set, wipe_length]; omega)
    · rw [List.getElem?_set_ne e, wipe_get (vs := vs)]
      have : (i ∈ v :: vs) ↔ i ∈ vs := by
        constructor
        · intro h; rcases List.mem_cons.mp h with h | h
          · exact absurd h.symm e
          · exact h
        · exact fun h => List.mem_cons_of_mem _ h
      simp only [this]
theorem wipe_same {σ σ' : L2.St} {js vs : List Nat} (hl : σ'.length = σ.length) (ho : ∀ i, i ∉ js → σ'[i]? = σ[i]?) (hj : ∀ j ∈ js, j ∈ vs) : L2.wipe σ' vs = L2.wipe σ vs := by
  apply List.ext_getElem?
  intro i
  rw [wipe_get, wipe_get, hl]
  by_cases hi : i ∈ vs
  · rw [if_pos hi, if_pos hi]
  · rw [if_neg hi, if_neg hi, ho i (fun z => hi (hj i z))]
theorem wipe_wipe {σ : L2.St} {vs : List Nat} : L2.wipe (L2.wipe σ vs) vs = L2.wipe σ vs := by
  apply List.ext_getElem?
  intro i
  rw [wipe_get, wipe_get, wipe_length]
  by_cases h : i < σ.length
  · rw [if_pos h, if_pos h]
    by_cases hi : i ∈ vs
    · rw [if_pos hi, if_pos hi]
    · rw [if_neg hi, if_neg hi]
  · rw [if_neg h, if_neg h]
theorem wipe_in {σ : L2.St} {i : Nat} {vs : List Nat} {x : Option V} (hi : i ∈ vs) (h : (L2.wipe σ vs)[i]? = some x) : x = none ∧ i < σ.length := by
  rw [wipe_get] at h
  by_cases hl : i < σ.length
  · rw [if_pos hl, if_pos hi] at h
    cases h
    exact ⟨rfl, hl⟩
  · rw [if_neg hl] at h
    cases h
theorem wipe_lt {σ : L2.St} {i : Nat} {vs : List Nat} {x : Option V} (h : (L2.wipe σ vs)[i]? = some x) : i < σ.length := by
  have := (List.getElem?_eq_some_iff.mp h).1
  rw [wipe_length] at this
  exact this
theorem restore_get {ρ ρ' : List S} {i : Nat} : ∀ {vs : List Nat} {s : S}, (restore ρ ρ' vs)[i]? = some s → (i ∈ vs ∧ ρ[i]? = some s) ∨ (i ∉ vs ∧ ρ'[i]? = some s) ∨ (ρ[i]? = none ∧ ρ'[i]? = some s)
  | [], s, h => .inr (.inl ⟨by simp, h⟩)
  | v :: vs, s, h => by
    unfold restore at h
    cases e : ρ[v]? with
    | none =>
      rw [e] at h
      rcases restore_get (vs := vs) h with ⟨a, b⟩ | ⟨a, b⟩ | ⟨a, b⟩
      · exact .inl ⟨List.mem_cons_of_mem _ a, b⟩
      · by_cases ev : i = v
        · subst ev; exact .inr (.inr ⟨e, b⟩)
        · exact .inr (.inl ⟨fun z => (List.mem_cons.mp z).elim ev a, b⟩)
      · exact .inr (.inr ⟨a, b⟩)
    | some t =>
      rw [e] at h
      rcases get_set_some h with ⟨rfl, rfl, _⟩ | ⟨ne, h⟩
      · exact .inl ⟨List.mem_cons_self, e⟩
      · rcases restore_get (vs := vs) h with ⟨a, b⟩ | ⟨a, b⟩ | ⟨a, b⟩
        · exact .inl ⟨List.mem_cons_of_mem _ a, b⟩
        · exact .inr (.inl ⟨fun z => (List.mem_cons.mp z).elim (fun q => ne q.symm) a, b⟩)
        · exact .inr (.inr ⟨a, b⟩)
/-- behind the comprehension its own names are as before -/
theorem W.restore {F0 H0 : Hp} {vs : List Nat} {ρ' : List S} (w0 : W K c F0 ρ σ H0) (e0 : Same F0 F) (hp : (vs.all (plainAt ρ)) = true) (w : W K c F ρ' (L2.wipe σ vs) H) : W K c F (L3.restore ρ ρ' vs) σ H := by
  have look : ∀ (i : Nat) (s : S), (L3.restore ρ ρ' vs)[i]? = some s → (ρ[i]? = some s ∧ ∀ o, s ≠ .own o ∧ s ≠ .par o) ∨ (i ∉ vs ∧ ρ'[i]? = some s ∧ i < σ.length) ∨ s = .dead ∨ (∃ x, σ[i]? = some x ∧ (L2.wipe σ vs)[i]? = some x ∧ ρ'[i]? = some s) := fun i s h => by
    rcases restore_get h with ⟨a, b⟩ | ⟨a, b⟩ | ⟨a, b⟩
    · refine .inl ⟨b, fun o => ?_⟩
      have := List.all_eq_true.mp hp i a
      unfold plainAt at this
      rw [b] at this
      cases s
      · exact ⟨(fun z => nomatch z), (fun z => nomatch z)⟩
      · exact ⟨(fun z => nomatch z), (fun z => nomatch z)⟩
      · cases this
      · cases this
    · obtain ⟨x, hx, _⟩ := w.slot i s b
      exact .inr (.inl ⟨a, b, wipe_lt hx⟩)
    · by_cases hv : i ∈ vs
      · obtain ⟨x, hx, ok⟩ := w.slot i s b
        obtain ⟨rfl, _⟩ := wipe_in hv hx
        cases s with
        | dead => exact .inr (.inr (.inl rfl))
        | dat d => obtain ⟨v, z, _⟩ := ok; cases z
        | own o => obtain ⟨v, _, z, _⟩ := ok; cases z
        | par o => obtain ⟨v, _, z, _⟩ := ok; cases z
      · obtain ⟨x, hx, _⟩ := w.slot i s b
        exact .inr (.inl ⟨hv, b, wipe_lt hx⟩)
  have own' : ∀ {i : Nat} {a : Addr}, OwnAt (L3.restore ρ ρ' vs) σ i a → OwnAt ρ' (L2.wipe σ vs) i a := fun {i a} ⟨⟨o, h1⟩, h2⟩ => by
    have key : ∀ s, (L3.restore ρ ρ' vs)[i]? = some s → (∃ o, s = S.own o ∨ s = .par o) → OwnAt ρ' (L2.wipe σ vs) i a := fun s hs ⟨o, ho⟩ => by
      have fin : ρ'[i]? = some s → (L2.wipe σ vs)[i]? = some (some (V.ref a)) → OwnAt ρ' (L2.wipe σ vs) i a := fun q1 q2 => by
        refine ⟨⟨o, ?_⟩, q2⟩
        rcases ho with rfl | rfl
        · exact .inl q1
        · exact .inr q1
      rcases look i s hs with ⟨_, z⟩ | ⟨hv, q, hi⟩ | z | ⟨x, q1, q2, q3⟩
      · rcases ho with rfl | rfl
        · exact absurd rfl (z o).1
        · exact absurd rfl (z o).2
      · exact fin q (by rw [wipe_get, if_pos hi, if_neg hv]; exact h2)
      · rcases ho with rfl | rfl <;> cases z
      · rw [h2] at q1; cases q1; exact fin q3 q2
    rcases h1 with h1 | h1
    · exact key _ h1 ⟨o, .inl rfl⟩
    · exact key _ h1 ⟨o, .inr rfl⟩
  refine ⟨w.sub, w.ext, w.frm, w.new, w.dom, fun i s hs => ?_, fun i j a h1 h2 => w.dj i j a (own' h1) (own' h2), fun a u ha => ?_⟩
  · rcases look i s hs with ⟨q, hno⟩ | ⟨hv, q, hi⟩ | rfl | ⟨x, q1, q2, q3⟩
    · obtain ⟨x, hx, ok⟩ := w0.slot i s q
      refine ⟨x, hx, ?_⟩
      cases s with
      | dead => trivial
      | dat d => obtain ⟨v, e, r⟩ := ok; exact ⟨v, e, r.mono e0⟩
      | own o => exact absurd rfl (hno o).1
      | par o => exact absurd rfl (hno o).2
    · obtain ⟨x, hx, ok⟩ := w.slot i s q
      rw [wipe_get, if_pos hi, if_neg hv] at hx
      exact ⟨x, hx, ok⟩
    · rcases restore_get hs with ⟨a, b⟩ | ⟨a, b⟩ | ⟨a, b⟩
      · obtain ⟨x, hx, ok⟩ := w0.slot i _ b
        exact ⟨x, hx, trivial⟩
      · obtain ⟨x, hx, _⟩ := w.slot i _ b
        exact ⟨_, List.getElem?_eq_getElem (wipe_lt hx), trivial⟩
      · obtain ⟨x, hx, _⟩ := w.slot i _ b
        exact ⟨_, List.getElem?_eq_getElem (wipe_lt hx), trivial⟩
    · obtain ⟨y, hy, ok⟩ := w.slot i s q3
      rw [q2] at hy
      cases hy
      exact ⟨x, q1, ok⟩
  · obtain ⟨h1, h2, h3⟩ := w.held a u ha
    exact ⟨h1, h2, fun j q => h3 j (own' q)⟩
end

section
variable {X : Cx} {Wx : WX} {elt tg iter : Expr} {ifs : List Expr} {scope : Scope} {own : List (Str × Nat)} {pos : Pos} {mi : M (List D)} {p : Put} {js : List Nat} {mt : M Bool} {me : M D}
def PTsM (X : Cx) (Wx : WX) (ifs : List Expr) (m : M Bool) : Prop := PTs X ifs (tT X.K Wx m)
theorem pts_imp {X : Cx} {e : List Expr} {t t' : TT} (h : PTs X e t) (i : ∀ σ H Q, t' σ H Q → t σ H Q) : PTs X e t' := ⟨fun pins s σ H Q I q => h.run pins s σ H Q I (i σ H Q q)⟩
theorem ptsm_nil : PTsM X Wx [] mYes := by
  refine pts_imp pts_nil fun σ H Q h => ?_
  obtain ⟨c, F, ρ, rr, ρ', w, hm, post⟩ := h
  cases hm
  exact post F H (Same.refl _) w
theorem ptsm_one {e : Expr} (h : PTM X Wx e mt) : PTsM X Wx [e] mt := pts_one h
theorem compD_len {vs : List Nat} : ∀ {ds acc : List D} {ρ ρ' : List S} {out : List D}, compD vs p mt me ds acc ρ = some (out, ρ') → acc.length ≤ out.length ∧ out.length ≤ acc.length + ds.length
  | [], acc, ρ, ρ', out, h => by cases h; simp
  | d :: ds, acc, ρ, ρ', out, h => by
    unfold compD at h
    split at h
    · cases h
    · split at h
      · split at h
        · have := compD_len h
          rw [List.length_append] at this
          simp at this ⊢
          omega
        · cases h
      · have := compD_len h
        simp
        omega
      · cases h
/-- nothing is raised here -/
abbrev W0 : WX := fun _ _ _ _ => False
theorem comp_sim {K : PySem.W.Frag} {c : Ctx} {F0 H0 : Hp} {ρ0 : List S} {σ : L2.St} {vs : List Nat} {J : It} {ds : List D} {out : List D} {ρE : List S} {Qd : Addr → Hp → Prop} {Dl : Addr}
    (hj : ∀ j ∈ js, j ∈ vs) (w0 : W K c F0 ρ0 σ H0) (hJ : YieldsC K c J ds F0) (hD : H0 Dl = none) (hlen : ds.length < 900000)
    (hrun : compD vs p mt me ds [] (wipeR ρ0 vs) = some (out, ρE))
    (hQ : ∀ F' H', Same F0 F' → W K c F' ρE (L2.wipe σ vs) H' → F' Dl = none → (∃ xs, H' Dl = some (.lst xs) ∧ RepL K F' xs out) → c.H Dl = none → c.hd Dl = none → (∀ j, ¬ OwnAt ρE (L2.wipe σ vs) j Dl) → Qd Dl H') :
    ∃ Wv : Nat → Nat → Hp → Prop, (∃ m, Wv 0 m (upd H0 Dl (.lst []))) ∧ ∀ i m H, Wv i m H →
      (J.stop i H ∧ Qd Dl H) ∨ (J.go i H ∧ ∃ Nx : Hp → Prop, (∀ H', Nx H' → ∃ m', m' < m ∧ Wv (i + 1) m' H') ∧ ∀ x H', J.yld i H x H' → (tPut K js p) x (L2.wipe σ vs) H' fun σ2 H2 => L2.wipe σ2 vs = L2.wipe σ vs ∧ (tT K W0 mt) σ2 H2 fun b H3 =>
        if b = true then (tE K W0 me) σ2 H3 fun y H4 => ∃ acc, H4 Dl = some (.lst acc) ∧ acc.length < sizeLine ∧ Nx (upd H4 Dl (.lst (acc ++ [y]))) else Nx H3) := by
  obtain ⟨wA, fD, cD, hhD, noD⟩ := w0.alloc (u := .lst []) hD
  -- the invariant
  let Inv_ : Nat → Hp → Prop := fun i H => ∃ F ρ xs acc, Same F0 F ∧ W K c F ρ (L2.wipe σ vs) H ∧ F Dl = none ∧ H Dl = some (.lst xs) ∧ RepL K F xs acc ∧ acc.length ≤ i ∧ (∀ j, ¬ OwnAt ρ (L2.wipe σ vs) j Dl) ∧ compD vs p mt me (ds.drop i) acc ρ = some (out, ρE)
  refine ⟨fun i m H => m = ds.length - i ∧ i ≤ ds.length ∧ Inv_ i H, ⟨ds.length, by simp, Nat.zero_le _, F0, wipeR ρ0 vs, [], [], Same.refl _, wA.wipe vs, fD, upd_same, .nil, Nat.le_refl _, fun j hj => ?_, hrun⟩, ?_⟩
  · -- nobody owns it
    have wW := (w0.wipe vs)
    obtain ⟨u, hu⟩ := wW.own_in hj
    rw [hD] at hu
    cases hu
  rintro i m H ⟨rfl, hil, F, ρ, xs, acc, e1, w, hF, hH, hr, hal, hno, hc⟩
  obtain ⟨y1, y2⟩ := hJ F H i e1 w.sub fun b u hb => (w.held b u hb).1
  by_cases hlt : i < ds.length
  · right
    obtain ⟨hgo, hy⟩ := y1 ds[i] (List.getElem?_eq_getElem hlt)
    refine ⟨hgo, Inv_ (i + 1), fun H' h' => ⟨ds.length - (i + 1), by omega, rfl, hlt, h'⟩, fun x H1 yy => ?_⟩
    obtain ⟨F1, g1, r1⟩ := hy x H1 yy
    -- hold the list while the turn runs
    have wh := g1.2 _ _ _ (w.hold hF hH hno)
    rw [List.drop_eq_getElem_cons hlt] at hc
    have hc' : (match p ds[i] ρ with
      | none => none
      | some ρ1 => match mt ρ1 with
        | some (.ok true, ρ2) => match me ρ2 with
          | some (.ok y, ρ3) => compD vs p mt me (ds.drop (i + 1)) (acc ++ [y]) (wipeR ρ3 vs)
          | _ => none
        | some (.ok false, ρ2) => compD vs p mt me (ds.drop (i + 1)) acc (wipeR ρ2 vs)
        | _ => none) = some (out, ρE) := hc
    cases hp : p ds[i] ρ with
    | none => rw [hp] at hc'; cases hc'
    | some ρ1 =>
      rw [hp] at hc'
      refine ⟨_, F1, ρ, ds[i], ρ1, wh, r1, hp, fun σ2 l2 o2 w2 => ?_⟩
      have hw2 : L2.wipe σ2 vs = L2.wipe σ vs := by
        rw [wipe_same (σ := L2.wipe σ vs) l2 o2 hj]
        exact wipe_wipe
      refine ⟨hw2, ?_⟩
      have hc2 : (match mt ρ1 with
        | some (.ok true, ρ2) => match me ρ2 with
          | some (.ok y, ρ3) => compD vs p mt me (ds.drop (i + 1)) (acc ++ [y]) (wipeR ρ3 vs)
          | _ => none
        | some (.ok false, ρ2) => compD vs p mt me (ds.drop (i + 1)) acc (wipeR ρ2 vs)
        | _ => none) = some (out, ρE) := hc'
      cases et : mt ρ1 with
      | none => rw [et] at hc2; cases hc2
      | some pr =>
        obtain ⟨rt, ρ2⟩ := pr
        rw [et] at hc2
        cases rt with
        | ex x => cases hc2
        | ok b =>
          refine ⟨_, F1, ρ1, .ok b, ρ2, w2, et, fun F3 H3 e3 w3 => ?_⟩
          cases b with
          | false =>
            show Inv_ (i + 1) H3
            obtain ⟨w4, q1, q2, q3⟩ := w3.unhold hhD
            refine ⟨F3, wipeR ρ2 vs, xs, acc, (e1.trans g1.1).trans e3, ?_, q2, q1, hr.mono (g1.1.trans e3), by omega, fun j hj => ?_, hc2⟩
            · rw [← hw2]; exact w4.wipe vs
            · rw [← hw2] at hj
              have : ∀ vs', (∀ j, ¬ OwnAt (wipeR ρ2 vs') (L2.wipe σ2 vs') j Dl) := fun vs' => by
                induction vs' with
                | nil => exact q3
                | cons v vs' ih => exact fun j hj => ih j (own_set_plain (s := S.dead) (fun o => ⟨(fun z => nomatch z), (fun z => nomatch z)⟩) hj)
              exact this vs j hj
          | true =>
            show (tE K W0 me) σ2 H3 _
            have hc3 : (match me ρ2 with
              | some (.ok y, ρ3) => compD vs p mt me (ds.drop (i + 1)) (acc ++ [y]) (wipeR ρ3 vs)
              | _ => none) = some (out, ρE) := hc2
            cases ee : me ρ2 with
            | none => rw [ee] at hc3; cases hc3
            | some pr =>
              obtain ⟨re, ρ3⟩ := pr
              rw [ee] at hc3
              cases re with
              | ex x => cases hc3
              | ok y =>
                refine ⟨_, F3, ρ2, .ok y, ρ3, w3, ee, fun F4 H4 e4 w4 v rv => ?_⟩
                obtain ⟨w5, q1, q2, q3⟩ := w4.unhold hhD
                have hx4 : RepL K F4 xs acc := hr.mono ((g1.1.trans e3).trans e4)
                refine ⟨xs, q1, ?_, ?_⟩
                · rw [hx4.len]
                  exact Nat.lt_of_le_of_lt hal (Nat.lt_trans hlt (Nat.lt_of_lt_of_le hlen (by decide)))
                have no3 : ∀ vs', (∀ j, ¬ OwnAt (wipeR ρ3 vs') (L2.wipe σ2 vs') j Dl) := fun vs' => by
                  induction vs' with
                  | nil => exact q3
                  | cons v vs' ih => exact fun j hj => ih j (own_set_plain (s := S.dead) (fun o => ⟨(fun z => nomatch z), (fun z => nomatch z)⟩) hj)
                -- the list grows: an object that nobody owns
                have w6 : W K c F4 (wipeR ρ3 vs) (L2.wipe σ vs) (upd H4 Dl (.lst (xs ++ [v]))) := by
                  have w7 := w5.wipe vs
                  rw [hw2] at w7
                  have no7 := no3 vs
                  rw [hw2] at no7
                  refine ⟨fun b o e => ?_, w7.ext, fun b o e n => ?_, w7.new, fun b e => ?_, fun j s hs => ?_, w7.dj, fun b u hb => ?_⟩
                  · rw [upd_ne (ne_of_none e q2)]
                    exact w7.sub _ _ e
                  · rw [upd_ne (fun z => by rw [z, cD] at e; cases e)]
                    exact w7.frm _ _ e n
                  · by_cases hb : b = Dl
                    · rw [hb, upd_same] at e; cases e
                    · rw [upd_ne hb] at e; exact w7.dom _ e
                  · obtain ⟨x, hx, ok⟩ := w7.slot j s hs
                    refine ⟨x, hx, ?_⟩
                    cases s with
                    | dead => trivial
                    | dat d => exact ok
                    | own o =>
                      obtain ⟨b, u', e', f, g, r', h0⟩ := ok
                      have ne : b ≠ Dl := fun z => no7 j ⟨⟨o, .inl hs⟩, by rw [hx, e', z]⟩
                      exact ⟨b, u', e', f, by rw [upd_ne ne]; exact g, r', h0⟩
                    | par o =>
                      obtain ⟨b, u', e', f, g, r', h0⟩ := ok
                      have ne : b ≠ Dl := fun z => no7 j ⟨⟨o, .inr hs⟩, by rw [hx, e', z]⟩
                      exact ⟨b, u', e', f, by rw [upd_ne ne]; exact g, r', h0⟩
                  · obtain ⟨z1, z2, z3⟩ := w7.held b u hb
                    exact ⟨by rw [upd_ne (fun z => by rw [z, hhD] at hb; cases hb)]; exact z1, z2, z3⟩
                refine ⟨F4, wipeR ρ3 vs, xs ++ [v], acc ++ [y], ((e1.trans g1.1).trans e3).trans e4, w6, q2, upd_same, hx4.append (.cons rv .nil), ?_, ?_, hc3⟩
                · rw [List.length_append]
                  show acc.length + 1 ≤ i + 1
                  omega
                · have := no3 vs
                  rw [hw2] at this
                  exact this
  · left
    have he : ds.drop i = [] := List.drop_eq_nil_of_le (by omega)
    rw [he] at hc
    cases hc
    exact ⟨y2 (by omega), hQ F H e1 w hF ⟨xs, hH, hr⟩ cD hhD hno⟩
theorem lc_imp (hj : ∀ j ∈ js, j ∈ own.map (·.2)) (σ : L2.St) (H : Hp) (Q : VK) (h : tO X.K Wx (mComp (own.map (·.2)) mi p mt me) σ H Q) : tLc (tIt X.K Wx mi) (tPut X.K js p) (tT X.K W0 mt) (tE X.K W0 me) (own.map (·.2)) σ H Q := by
  obtain ⟨c, F, ρ, rr, ρ', w, hm, post⟩ := h
  rcases bind_inv hm with ⟨ds, ρ1, h1, h2⟩ | ⟨x, h1, rfl⟩
  · refine ⟨c, F, ρ, .ok ds, ρ1, w, h1, fun F1 H1 e1 w1 J hJ Dl hD => ?_⟩
    have h3 : (if ((own.map (·.2)).all (plainAt ρ1)) = true ∧ ds.length < 900000 then match compD (own.map (·.2)) p mt me ds [] (wipeR ρ1 (own.map (·.2))) with
      | some (out, ρ') => some (R.ok (OB.lst out), L3.restore ρ1 ρ' (own.map (·.2)))
      | none => none else none) = some (rr, ρ') := h2
    split at h3
    · rename_i hcond
      cases hrun : compD (own.map (·.2)) p mt me ds [] (wipeR ρ1 (own.map (·.2))) with
      | none => rw [hrun] at h3; cases h3
      | some pr =>
        obtain ⟨out, ρE⟩ := pr
        rw [hrun] at h3
        cases h3
        refine comp_sim (js := js) (c := c) hj w1 hJ.toC hD hcond.2 hrun (Qd := fun a H' => Q (V.ref a) H') fun F' H' e' w' f' hx cD hd no => ?_
        obtain ⟨xs, hxs, rx⟩ := hx
        have w2 := w1.restore e' hcond.1 w'
        refine post F' H' (e1.trans e') w2 Dl (.lst xs) f' hxs (.lst rx) cD hd fun j hjo => ?_
        obtain ⟨⟨o, g1⟩, g2⟩ := hjo
        -- an owner behind the comprehension owned it within
        have : ∃ u, H1 Dl = some u := by
          have key : ∀ s, (L3.restore ρ1 ρE (own.map (·.2)))[j]? = some s → (∃ o, s = S.own o ∨ s = .par o) → ∃ u, H1 Dl = some u := fun s hs ⟨o, ho⟩ => by
            exfalso
            rcases restore_get hs with ⟨a, b⟩ | ⟨a, b⟩ | ⟨a, b⟩
            · have := List.all_eq_true.mp hcond.1 j a
              unfold plainAt at this
              rw [b] at this
              rcases ho with rfl | rfl <;> cases this
            · refine no j ⟨⟨o, ?_⟩, ?_⟩
              · rcases ho with rfl | rfl
                · exact .inl b
                · exact .inr b
              · rw [wipe_get, if_pos (List.getElem?_eq_some_iff.mp g2).1, if_neg a]
                exact g2
            · by_cases hv : j ∈ own.map (·.2)
              · obtain ⟨x, hx, ok⟩ := w'.slot j s b
                obtain ⟨rfl, _⟩ := wipe_in hv hx
                rcases ho with rfl | rfl
                · obtain ⟨_, _, z, _⟩ := ok; cases z
                · obtain ⟨_, _, z, _⟩ := ok; cases z
              · refine no j ⟨⟨o, ?_⟩, ?_⟩
                · rcases ho with rfl | rfl
                  · exact .inl b
                  · exact .inr b
                · rw [wipe_get, if_pos (List.getElem?_eq_some_iff.mp g2).1, if_neg hv]
                  exact g2
          rcases g1 with g1 | g1
          · exact key _ g1 ⟨o, .inl rfl⟩
          · exact key _ g1 ⟨o, .inr rfl⟩
        obtain ⟨u, hu⟩ := this
        rw [hD] at hu
        cases hu
    · cases h3
  · exact ⟨c, F, ρ, .ex x, ρ', w, h1, post⟩
theorem pom_lc (hc : X.calm = true) (hN : X.N.Nodup) (hi : PIM X Wx tg iter mi) (ok : BlkOk X.N X.env.scope scope own)
    (hg : ∀ (s : Shared) (H : Hp) (C : Addr) (cl : List (Str × Addr)) (fp : List Addr), PGt (X.blk s H scope (compEnvC scope cl C X.env) fp) tg js p)
    (ht : ∀ (s : Shared) (H : Hp) (C : Addr) (cl : List (Str × Addr)) (fp : List Addr), PTsM (X.blk s H scope (compEnvC scope cl C X.env) fp) W0 ifs mt)
    (he : ∀ (s : Shared) (H : Hp) (C : Addr) (cl : List (Str × Addr)) (fp : List Addr), PEM (X.blk s H scope (compEnvC scope cl C X.env) fp) W0 elt me) (hj : ∀ j ∈ js, j ∈ own.map (·.2))
    (hs : ∀ x, foldedSetIterable iter X.env x = pure x := by intro _; rfl) : POM X Wx (.ListComp elt [⟨tg, iter, ifs, 0⟩] scope pos) (mComp (own.map (·.2)) mi p mt me) :=
  pe_imp (pe_lc (g := tPut X.K js p) (tt := tT X.K W0 mt) (te := tE X.K W0 me) hc hN hi ok hg ht he hs) (lc_imp hj)
/-- y = [..], the name's slot owns the list -/
theorem psm_setLc (i : Nat) {y : Str} {py spos : Pos} (hc : X.calm = true) (hN : X.N.Nodup) (hsw : swapsWith (.ListComp elt [⟨tg, iter, ifs, 0⟩] scope pos) (some (.Name y py)) spos.line X.env = pure true)
    (hi : PIM X Wx tg iter mi) (ok : BlkOk X.N X.env.scope scope own)
    (hg : ∀ (s : Shared) (H : Hp) (C : Addr) (cl : List (Str × Addr)) (fp : List Addr), PGt (X.blk s H scope (compEnvC scope cl C X.env) fp) tg js p)
    (ht : ∀ (s : Shared) (H : Hp) (C : Addr) (cl : List (Str × Addr)) (fp : List Addr), PTsM (X.blk s H scope (compEnvC scope cl C X.env) fp) W0 ifs mt)
    (he : ∀ (s : Shared) (H : Hp) (C : Addr) (cl : List (Str × Addr)) (fp : List Addr), PEM (X.blk s H scope (compEnvC scope cl C X.env) fp) W0 elt me) (hj : ∀ j ∈ js, j ∈ own.map (·.2))
    (hy : X.N[i]? = some y := by rfl) (hyl : X.env.scope.names.lookup y = some .local := by rfl) (hs : ∀ x, foldedSetIterable iter X.env x = pure x := by intro _; rfl) :
    PSM X Wx (.Assign [.Name y py] (.ListComp elt [⟨tg, iter, ifs, 0⟩] scope pos) spos) (mSetO i (mComp (own.map (·.2)) mi p mt me)) := by
  refine ps_imp (ps_setLc (i := i) (g := tPut X.K js p) (tt := tT X.K W0 mt) (te := tE X.K W0 me) hc hN hy hyl hsw hi ok hg ht he hs) fun De σ H h => ?_
  refine lc_imp hj σ H _ ?_
  obtain ⟨c, F, ρ, r, ρ', w, hm, post⟩ := h
  rcases bind_inv hm with ⟨o, ρ1, q1, q2⟩ | ⟨x, q1, rfl⟩
  · cases q2
    exact ⟨c, F, ρ, .ok o, ρ1, w, q1, fun F1 H1 e1 w1 a u g1 g2 g3 g4 g5 g6 => post F1 _ H1 e1 (w1.setO g1 g2 g3 g4 g5 g6)⟩
  · exact ⟨c, F, ρ, .ex x, ρ', w, q1, fun F' d H' e' w' r' => post F' σ d H' e' w' r'⟩
/-- .. is data -/
theorem psm_setLcD (i : Nat) {y : Str} {py spos : Pos} (hc : X.calm = true) (hN : X.N.Nodup) (hsw : swapsWith (.ListComp elt [⟨tg, iter, ifs, 0⟩] scope pos) (some (.Name y py)) spos.line X.env = pure true)
    (hi : PIM X Wx tg iter mi) (ok : BlkOk X.N X.env.scope scope own)
    (hg : ∀ (s : Shared) (H : Hp) (C : Addr) (cl : List (Str × Addr)) (fp : List Addr), PGt (X.blk s H scope (compEnvC scope cl C X.env) fp) tg js p)
    (ht : ∀ (s : Shared) (H : Hp) (C : Addr) (cl : List (Str × Addr)) (fp : List Addr), PTsM (X.blk s H scope (compEnvC scope cl C X.env) fp) W0 ifs mt)
    (he : ∀ (s : Shared) (H : Hp) (C : Addr) (cl : List (Str × Addr)) (fp : List Addr), PEM (X.blk s H scope (compEnvC scope cl C X.env) fp) W0 elt me) (hj : ∀ j ∈ js, j ∈ own.map (·.2))
    (hy : X.N[i]? = some y := by rfl) (hyl : X.env.scope.names.lookup y = some .local := by rfl) (hs : ∀ x, foldedSetIterable iter X.env x = pure x := by intro _; rfl) :
    PSM X Wx (.Assign [.Name y py] (.ListComp elt [⟨tg, iter, ifs, 0⟩] scope pos) spos) (mSet (mFrz (mComp (own.map (·.2)) mi p mt me)) (pName i)) := by
  refine ps_imp (ps_setLc (i := i) (g := tPut X.K js p) (tt := tT X.K W0 mt) (te := tE X.K W0 me) hc hN hy hyl hsw hi ok hg ht he hs) fun De σ H h => ?_
  refine lc_imp hj σ H _ ?_
  obtain ⟨c, F, ρ, r, ρ', w, hm, post⟩ := h
  rcases bind_inv hm with ⟨d, ρ1, q1, q2⟩ | ⟨x, q1, rfl⟩
  · rcases bind_inv q1 with ⟨o, ρ2, q3, q4⟩ | ⟨x, q3, z⟩
    · cases q4
      cases q2
      refine ⟨c, F, ρ, .ok o, _, w, q3, fun F1 H1 e1 w1 a u g1 g2 g3 g4 g5 g6 => ?_⟩
      have s1 : Same F1 (upd F1 a u) := same_upd g1
      exact post (upd F1 a u) _ H1 (e1.trans s1) ((w1.frz g1 g2 g4 g5 g6).setD ((g3.mono s1).rep upd_same))
    · cases z
  · rcases bind_inv q1 with ⟨o, ρ2, q3, q4⟩ | ⟨y, q3, z⟩
    · cases q4
    · cases z
      exact ⟨c, F, ρ, .ex x, ρ', w, q3, fun F' d H' e' w' r' => post F' σ d H' e' w' r'⟩
end
end L3
set_option Elab.async false
set_option linter.all false
set_option maxRecDepth 100000
set_option maxHeartbeats 2000000
namespace L3
open PySem PySem.Spec PyProof.Rows L2

/-! ### a slot more, behind the others -/
theorem get_append_some {α : Type} {l t : List α} {i : Nat} {x : α} (h : (l ++ t)[i]? = some x) : (l[i]? = some x ∧ i < l.length) ∨ (l.length ≤ i ∧ t[i - l.length]? = some x) := by
  by_cases hi : i < l.length
  · rw [List.getElem?_append_left hi] at h
    exact .inl ⟨h, hi⟩
  · rw [List.getElem?_append_right (by omega)] at h
    exact .inr ⟨by omega, h⟩
def pad (ρ : List S) (n : Nat) : List S := ρ ++ List.replicate (n - ρ.length) .dead
theorem pad_get {ρ : List S} {n i : Nat} {s : S} (h : (pad ρ n)[i]? = some s) : (ρ[i]? = some s) ∨ (s = .dead ∧ i < n) := by
  rcases get_append_some h with ⟨a, _⟩ | ⟨a, b⟩
  · exact .inl a
  · rw [List.getElem?_replicate] at b
    split at b
    · cases b; exact .inr ⟨rfl, by omega⟩
    · cases b
section
variable {K : PySem.W.Frag} {c : Ctx} {F : Hp} {ρ : List S} {σ : L2.St} {H : Hp} {a : Addr} {u : HO} {o : OB}
theorem W.le (w : W K c F ρ σ H) : ρ.length ≤ σ.length := by
  by_cases h : ρ.length ≤ σ.length
  · exact h
  · have := w.len (i := σ.length) (by omega)
    omega
theorem pad_len (w : W K c F ρ σ H) : (pad ρ σ.length).length = σ.length := by
  have := w.le
  unfold pad
  rw [List.length_append, List.length_replicate]
  omega
theorem own_pad {i : Nat} {x : List (Option V)} {t : List S} (h : OwnAt (pad ρ σ.length) σ i a) : OwnAt ρ σ i a := by
  obtain ⟨⟨o, h1⟩, h2⟩ := h
  rcases h1 with h1 | h1
  · rcases pad_get h1 with q | ⟨q, _⟩
    · exact ⟨⟨o, .inl q⟩, h2⟩
    · cases q
  · rcases pad_get h1 with q | ⟨q, _⟩
    · exact ⟨⟨o, .inr q⟩, h2⟩
    · cases q
theorem W.push (w : W K c F ρ σ H) (hF : F a = none) (hH : H a = some u) (r : RepO K F u o) (h0 : c.H a = none) (hh : c.hd a = none) (no : ∀ j, ¬ OwnAt ρ σ j a) :
    W K c F (pad ρ σ.length ++ [.own o]) (σ ++ [some (V.ref a)]) H := by
  have lp := pad_len w
  have at_ : ∀ {i : Nat} {b : Addr}, OwnAt (pad ρ σ.length ++ [.own o]) (σ ++ [some (V.ref a)]) i b → (i = σ.length ∧ b = a) ∨ (i < σ.length ∧ OwnAt ρ σ i b) := fun {i b} h => by
    obtain ⟨⟨o', h1⟩, h2⟩ := h
    rcases get_append_some h2 with ⟨g, hi⟩ | ⟨g, g2⟩
    · right
      refine ⟨hi, ?_⟩
      have key : ∀ s, (pad ρ σ.length ++ [S.own o])[i]? = some s → s ≠ .dead → ρ[i]? = some s := fun s hs hd => by
        rcases get_append_some hs with ⟨q, _⟩ | ⟨q, _⟩
        · rcases pad_get q with q | ⟨q, _⟩
          · exact q
          · exact absurd q hd
        · omega
      rcases h1 with h1 | h1
      · exact ⟨⟨o', .inl (key _ h1 (fun z => nomatch z))⟩, g⟩
      · exact ⟨⟨o', .inr (key _ h1 (fun z => nomatch z))⟩, g⟩
    · left
      have hz : i - σ.length = 0 := by
        have := (List.getElem?_eq_some_iff.mp g2).1
        simp at this
        omega
      rw [hz] at g2
      cases g2
      exact ⟨by omega, rfl⟩
  refine ⟨w.sub, w.ext, w.frm, w.new, w.dom, fun i s hs => ?_, fun i j b h1 h2 => ?_, fun b x hb => ?_⟩
  · rcases get_append_some hs with ⟨q, hi⟩ | ⟨q, q2⟩
    · rcases pad_get q with q | ⟨rfl, hi2⟩
      · obtain ⟨x, hx, ok⟩ := w.slot i s q
        refine ⟨x, ?_, ok⟩
        rw [List.getElem?_append_left (List.getElem?_eq_some_iff.mp hx).1]
        exact hx
      · exact ⟨σ[i], by rw [List.getElem?_append_left hi2]; exact List.getElem?_eq_getElem hi2, trivial⟩
    · have hz : i - (pad ρ σ.length).length = 0 := by
        have := (List.getElem?_eq_some_iff.mp q2).1
        simp at this
        omega
      rw [hz] at q2
      cases q2
      have hi : i = σ.length := by omega
      subst hi
      exact ⟨some (V.ref a), by simp, a, u, rfl, hF, hH, r, h0⟩
  · rcases at_ h1 with ⟨rfl, rfl⟩ | ⟨_, q1⟩
    · rcases at_ h2 with ⟨rfl, _⟩ | ⟨_, q2⟩
      · rfl
      · exact absurd q2 (no j)
    · rcases at_ h2 with ⟨rfl, rfl⟩ | ⟨_, q2⟩
      · exact absurd q1 (no i)
      · exact w.dj i j b q1 q2
  · obtain ⟨h1, h2, h3⟩ := w.held b x hb
    refine ⟨h1, h2, fun j q => ?_⟩
    rcases at_ q with ⟨_, rfl⟩ | ⟨_, q⟩
    · rw [hh] at hb; cases hb
    · exact h3 j q
/-- .. and taken off -/
theorem W.pop {ρ1 : List S} {x : Option V} {t : S} (w : W K c F (ρ1 ++ [t]) (σ ++ [x]) H) (hl : ρ1.length = σ.length) : W K c F ρ1 σ H ∧ SlotOk K c F H σ.length t x ∧ ∀ b, x = some (V.ref b) → (∃ o, t = .own o) → ∀ j, ¬ OwnAt ρ1 σ j b := by
  have up : ∀ {i : Nat} {b : Addr}, OwnAt ρ1 σ i b → OwnAt (ρ1 ++ [t]) (σ ++ [x]) i b := fun {i b} ⟨⟨o, h1⟩, h2⟩ => by
    refine ⟨⟨o, ?_⟩, by rw [List.getElem?_append_left (List.getElem?_eq_some_iff.mp h2).1]; exact h2⟩
    rcases h1 with h1 | h1
    · exact .inl (by rw [List.getElem?_append_left (List.getElem?_eq_some_iff.mp h1).1]; exact h1)
    · exact .inr (by rw [List.getElem?_append_left (List.getElem?_eq_some_iff.mp h1).1]; exact h1)
  refine ⟨⟨w.sub, w.ext, w.frm, w.new, w.dom, fun i s hs => ?_, fun i j b h1 h2 => w.dj i j b (up h1) (up h2), fun b u hb => ?_⟩, ?_, fun b hx ⟨o, ht⟩ j hj => ?_⟩
  · have hi := (List.getElem?_eq_some_iff.mp hs).1
    obtain ⟨y, hy, ok⟩ := w.slot i s (by rw [List.getElem?_append_left hi]; exact hs)
    rw [List.getElem?_append_left (by omega)] at hy
    exact ⟨y, hy, ok⟩
  · obtain ⟨h1, h2, h3⟩ := w.held b u hb
    exact ⟨h1, h2, fun j q => h3 j (up q)⟩
  · obtain ⟨y, hy, ok⟩ := w.slot σ.length t (by rw [List.getElem?_append_right (by omega)]; simp [hl])
    rw [List.getElem?_append_right (by omega)] at hy
    simp at hy
    subst hy
    exact ok
  · have e := w.dj j σ.length b (up hj) ⟨⟨o, .inl (by rw [List.getElem?_append_right (by omega)]; simp [hl, ht])⟩, by rw [List.getElem?_append_right (by omega)]; simp [hx]⟩
    have := (List.getElem?_eq_some_iff.mp hj.2).1
    omega
theorem W.take (w : W K c F ρ σ H) (n : Nat) : W K c F (ρ.take n) σ H := by
  have get : ∀ {i : Nat} {s : S}, (ρ.take n)[i]? = some s → ρ[i]? = some s := fun {i s} h => by
    rw [List.getElem?_take] at h
    split at h
    · exact h
    · cases h
  have up : ∀ {i : Nat} {b : Addr}, OwnAt (ρ.take n) σ i b → OwnAt ρ σ i b := fun {i b} ⟨⟨o, h1⟩, h2⟩ => by
    refine ⟨⟨o, ?_⟩, h2⟩
    rcases h1 with h1 | h1
    · exact .inl (get h1)
    · exact .inr (get h1)
  refine ⟨w.sub, w.ext, w.frm, w.new, w.dom, fun i s hs => w.slot i s (get hs), fun i j b h1 h2 => w.dj i j b (up h1) (up h2), fun b u hb => ?_⟩
  obtain ⟨h1, h2, h3⟩ := w.held b u hb
  exact ⟨h1, h2, fun j q => h3 j (up q)⟩
end
theorem putAt_app {ρ t : List S} {i : Nat} {o : OB} {s : S} (h : ρ[i]? = some s) : putAt (ρ ++ t) i o = putAt ρ i o ++ t := by
  have hi := (List.getElem?_eq_some_iff.mp h).1
  unfold putAt
  rw [List.getElem?_append_left hi, h]
  show (ρ ++ t).set i (s.put o) = ρ.set i (s.put o) ++ t
  rw [List.set_append, if_pos hi]
theorem putAt_len {ρ : List S} {i : Nat} {o : OB} : (putAt ρ i o).length = ρ.length := by
  unfold putAt
  split
  · exact List.length_set ..
  · rfl
theorem content_app {ρ t : List S} {g : Ag} {s : S} (h : content ρ g = some s) : content (ρ ++ t) g = some s := by
  cases g with
  | d d => exact h
  | s k =>
    obtain ⟨o, rfl⟩ := content_s' h
    show (match (ρ ++ t)[k]? with
      | some (.own o) => some (S.par o)
      | some (.par o) => some (.par o)
      | _ => none) = some (.par o)
    rcases content_s h with e | e
    · rw [List.getElem?_append_left (List.getElem?_eq_some_iff.mp e).1, e]
    · rw [List.getElem?_append_left (List.getElem?_eq_some_iff.mp e).1, e]
theorem contents_app {ρ t : List S} : ∀ {gs : List Ag} {ss : List S}, contents ρ gs = some ss → contents (ρ ++ t) gs = some ss
  | [], ss, h => h
  | g :: gs, ss, h => by
    unfold contents at h ⊢
    split at h
    · rename_i s0 ss0 h1 h2
      rw [content_app h1, contents_app h2]
      exact h
    · cases h
theorem contents_slot {ρ : List S} {gs : List Ag} {ss : List S} {k : Nat} (h : contents ρ gs = some ss) (hk : k ∈ slotsOf gs) : ∃ s, ρ[k]? = some s := by
  obtain ⟨i, hi⟩ := slotsOf_get hk
  have hil : i < ss.length := by rw [contents_len h]; exact (List.getElem?_eq_some_iff.mp hi).1
  obtain ⟨g, hg, hcg⟩ := contents_get h (List.getElem?_eq_getElem hil)
  rw [hi] at hg
  cases hg
  obtain ⟨o, ho⟩ := content_s' hcg
  rw [ho] at hcg
  rcases content_s hcg with e | e <;> exact ⟨_, e⟩
theorem wback_app {t : List S} : ∀ {gs : List Ag} {ss ρ ρ' : List S}, (∀ k ∈ slotsOf gs, ∃ s, ρ[k]? = some s) → wback gs ss ρ = some ρ' → wback gs ss (ρ ++ t) = some (ρ' ++ t)
  | [], _, _, _, _, h => by cases h; rfl
  | .d _ :: gs, [], _, _, _, h => by cases h
  | .d _ :: gs, _ :: ss, ρ, ρ', hk, h => wback_app (gs := gs) (ss := ss) hk h
  | .s i :: gs, [], _, _, _, h => by cases h
  | .s i :: gs, .dead :: ss, _, _, _, h => by cases h
  | .s i :: gs, .dat _ :: ss, _, _, _, h => by cases h
  | .s i :: gs, .own _ :: ss, _, _, _, h => by cases h
  | .s i :: gs, .par o :: ss, ρ, ρ', hk, h => by
    have h' : wback gs ss (putAt ρ i o) = some ρ' := h
    obtain ⟨s, hs⟩ := hk i List.mem_cons_self
    show wback gs ss (putAt (ρ ++ t) i o) = some (ρ' ++ t)
    rw [putAt_app hs]
    refine wback_app (gs := gs) (fun k hk2 => ?_) h'
    obtain ⟨s', hs'⟩ := hk k (List.mem_cons_of_mem _ hk2)
    by_cases e : k = i
    · subst e; exact ⟨_, putAt_eq hs'⟩
    · exact ⟨s', by rw [putAt_ne e]; exact hs'⟩
theorem wback_len : ∀ {gs : List Ag} {ss ρ ρ' : List S}, wback gs ss ρ = some ρ' → ρ'.length = ρ.length
  | [], _, _, _, h => by cases h; rfl
  | .d _ :: gs, [], _, _, h => by cases h
  | .d _ :: gs, _ :: ss, ρ, ρ', h => wback_len (gs := gs) (ss := ss) h
  | .s i :: gs, [], _, _, h => by cases h
  | .s i :: gs, .dead :: ss, _, _, h => by cases h
  | .s i :: gs, .dat _ :: ss, _, _, h => by cases h
  | .s i :: gs, .own _ :: ss, _, _, h => by cases h
  | .s i :: gs, .par o :: ss, ρ, ρ', h => by
    have h' : wback gs ss (putAt ρ i o) = some ρ' := h
    rw [wback_len (gs := gs) h', putAt_len]

/-! ### an instance is made -/
def mMk (C : Addr) (n : Nat) (g : G) (dds : List D) (as : M (List Ag)) : M OB := as.bind fun gs ρ => if (slotsOf gs).Nodup ∧ gs.length + dds.length + 1 = n then match contents ρ gs with
  | none => none
  | some ss => match g (.par (.ins C []) :: (ss ++ dds.map .dat)) with
    | some (.ok (.dat .non), .par o :: ss') => match wback gs ss' ρ with
      | none => none
      | some ρ' => some (.ok o, ρ')
    | some (.ex x, .par _ :: ss') => match wback gs ss' ρ with
      | none => none
      | some ρ' => some (.ex x, ρ')
    | _ => none else none
theorem mk_inv {C : Addr} {n : Nat} {g : G} {dds : List D} {gs : List Ag} {ρ ρ' : List S} {r : R OB} (h : (if (slotsOf gs).Nodup ∧ gs.length + dds.length + 1 = n then match contents ρ gs with
  | none => none
  | some ss => match g (.par (.ins C []) :: (ss ++ dds.map .dat)) with
    | some (.ok (.dat .non), .par o :: ss') => match wback gs ss' ρ with
      | none => none
      | some ρ' => some (.ok o, ρ')
    | some (.ex x, .par _ :: ss') => match wback gs ss' ρ with
      | none => none
      | some ρ' => some (.ex x, ρ')
    | _ => none else none) = some (r, ρ')) : (slotsOf gs).Nodup ∧ gs.length + dds.length + 1 = n ∧ ∃ ss ss' rr o, contents ρ gs = some ss ∧ g (.par (.ins C []) :: (ss ++ dds.map S.dat)) = some (rr, .par o :: ss') ∧ wback gs ss' ρ = some ρ' ∧ ((rr = .ok (.dat .non) ∧ r = .ok o) ∨ ∃ x, rr = .ex x ∧ r = .ex x) := by
  split at h
  · rename_i hc
    refine ⟨hc.1, hc.2, ?_⟩
    cases e1 : contents ρ gs with
    | none => rw [e1] at h; cases h
    | some ss =>
      rw [e1] at h
      simp only at h
      split at h
      · rename_i o ss' e2
        cases e3 : wback gs ss' ρ with
        | none => rw [e3] at h; cases h
        | some ρ2 => rw [e3] at h; cases h; exact ⟨ss, ss', _, o, rfl, e2, e3, .inl ⟨rfl, rfl⟩⟩
      · rename_i x o ss' e2
        cases e3 : wback gs ss' ρ with
        | none => rw [e3] at h; cases h
        | some ρ2 => rw [e3] at h; cases h; exact ⟨ss, ss', _, o, rfl, e2, e3, .inr ⟨_, rfl, rfl⟩⟩
      · cases h
  · cases h
section
variable {X : Cx} {Wx : WX} {k : Nat} {f C : Addr} {fd : FuncData} {ps : List Str} {dvs : List V} {dds : List D} {ds : List Value} {x : Str} {p pos : Pos} {e : Expr} {es : List Expr} {g : G} {as : List AgM}
theorem pom_mk (Mk : Mk X.K (cA X.K C) f) (Fn : FnG X.prog X.w X.K X.mg X.base k f fd ps (spG X.K ps.length g)) (hG : X.A.guards = some []) (hr : Room (k + 1) X.A) (hg : Gl X x) (hm : X.mg x = some (.ref (cA X.K C))) (hb : Binds X.K fd ps ds) (hd : Vals dvs ds) (hdd : ∀ F, RepL X.K F dvs dds) (tk : Takes X Wx)
    (ha : PGM X Wx (e :: es) (mAgs as)) (hdb : (x == ("__debug__" : Str)) = false := by decide) (he : starEach (e :: es) X.env = (false, eval e X.env) :: starEach es X.env := by rfl) (hpl : (backTo pos (starEach es X.env)).any (·.1) = false := by rfl) :
    POM X Wx (.Call (.Name x p) (e :: es) [] pos) (mMk C ps.length g dds (mAgs as)) := by
  refine pe_imp (pe_mk Mk Fn hG hr hg hm hb hd tk ha hdb he hpl) fun σ H Q h => ?_
  obtain ⟨c, F, ρ, rr, ρ', w, hm, post⟩ := h
  rcases bind_inv hm with ⟨gs, ρ1, h1, h2⟩ | ⟨x, h1, rfl⟩
  · refine ⟨c, F, ρ, .ok gs, ρ1, w, h1, fun F1 H1 e1 w1 vs rg a dx ha hdx ne => ?_⟩
    obtain ⟨nd, hn, ss, ss', rr2, o, hc, hg2, hb2, hres⟩ := mk_inv h2
    -- the new instance and its dict
    obtain ⟨wa, fdx, _, _, _⟩ := w1.alloc (u := .own a) hdx
    have ha' : upd H1 dx (.own a) a = none := by rw [upd_ne (Ne.symm ne)]; exact ha
    obtain ⟨wb, fa, ca, hha, noa⟩ := wa.alloc (u := .ins (cA X.K C) dx []) ha'
    have wp := wb.push fa upd_same (RepO.ins (ds := []) .nil) ca hha noa
    -- its slot
    have lp := pad_len wb
    have hL : ∀ k ∈ slotsOf gs, k < σ.length := fun k hk => by
      obtain ⟨s, hs⟩ := contents_slot hc hk
      exact Nat.lt_of_lt_of_le (List.getElem?_eq_some_iff.mp hs).1 w1.le
    have rg2 : RepG X.K F1 (σ ++ [some (V.ref a)]) (V.ref a :: vs) (.s σ.length :: gs) := by
      have lift : ∀ {vs : List V} {gs : List Ag}, RepG X.K F1 σ vs gs → RepG X.K F1 (σ ++ [some (V.ref a)]) vs gs := fun {vs gs} h => by
        induction h with
        | nil => exact .nil
        | d r _ ih => exact .d r ih
        | s h _ ih => exact .s (by rw [List.getElem?_append_left (List.getElem?_eq_some_iff.mp h).1]; exact h) ih
      exact .s (by simp) (lift rg)
    have nd2 : (slotsOf (.s σ.length :: gs)).Nodup := List.nodup_cons.mpr ⟨fun z => Nat.lt_irrefl _ (hL _ z), nd⟩
    have hc2 : contents (pad ρ1 σ.length ++ [.own (.ins C [])]) (.s σ.length :: gs) = some (.par (.ins C []) :: ss) := by
      have q1 : content (pad ρ1 σ.length ++ [S.own (.ins C [])]) (.s σ.length) = some (.par (.ins C [])) := by
        show (match (pad ρ1 σ.length ++ [S.own (.ins C [])])[σ.length]? with
          | some (.own o) => some (S.par o)
          | some (.par o) => some (.par o)
          | _ => none) = _
        rw [List.getElem?_append_right (by omega)]
        simp [lp]
      have q2 : contents (pad ρ1 σ.length ++ [S.own (.ins C [])]) gs = some ss := by
        unfold pad
        rw [List.append_assoc]
        exact contents_app hc
      show (match content _ _, contents _ gs with
        | some s, some ss => some (s :: ss)
        | _, _ => none) = _
      rw [q1, q2]
    refine ⟨by
      show (vs ++ dvs).length + 1 = ps.length
      rw [List.length_append, rg.len, (hdd F1).len]; exact hn, F1, .par (.ins C []) :: (ss ++ dds.map S.dat), rr2, .par o :: ss', wb.sub, wp.args (dvs := dvs) (dds := dds) rg2 nd2 hc2 (hdd F1), hg2, ?_⟩
    have hb3 : wback (.s σ.length :: gs) (.par o :: ss') (pad ρ1 σ.length ++ [.own (.ins C [])]) = some ((pad ρ' σ.length) ++ [.own o]) := by
      show wback gs ss' (putAt (pad ρ1 σ.length ++ [S.own (.ins C [])]) σ.length o) = _
      have q : putAt (pad ρ1 σ.length ++ [S.own (.ins C [])]) σ.length o = ρ1 ++ (List.replicate (σ.length - ρ1.length) .dead ++ [.own o]) := by
        unfold putAt
        rw [List.getElem?_append_right (by omega)]
        simp only [lp, Nat.sub_self]
        show (pad ρ1 σ.length ++ [S.own (.ins C [])]).set σ.length (.own o) = _
        rw [List.set_append, if_neg (by omega), lp, Nat.sub_self]
        show pad ρ1 σ.length ++ [S.own o] = _
        unfold pad
        rw [List.append_assoc]
      rw [q, wback_app (fun k hk => contents_slot hc hk) hb2]
      unfold pad
      rw [wback_len hb2, List.append_assoc]
    have after : ∀ {F' H' : Hp}, Ret X.K F1 (upd (upd H1 dx (.own a)) a (.ins (cA X.K C) dx [])) (V.ref a :: (vs ++ dvs)) (.par (.ins C []) :: (ss ++ dds.map S.dat)) F' H' (.par o :: ss') → W X.K c F' ρ' σ H' ∧ ∃ u, F' a = none ∧ H' a = some u ∧ RepO X.K F' u o ∧ ∀ j, ¬ OwnAt ρ' σ j a := fun {F' H'} ret => by
      have w3 := wp.call (dvs := dvs) (dds := dds) rg2 nd2 hc2 ret hb3
      have lp' : (pad ρ' σ.length).length = σ.length := by
        have l1 := w1.le
        have l2 := wback_len hb2
        unfold pad
        rw [List.length_append, List.length_replicate]
        omega
      obtain ⟨w4, ok, no4⟩ := w3.pop lp'
      have w5 := w4.take ρ'.length
      have e5 : (pad ρ' σ.length).take ρ'.length = ρ' := by unfold pad; simp
      rw [e5] at w5
      obtain ⟨b, u, hb, f', h', r', _⟩ := ok
      cases hb
      refine ⟨w5, u, f', h', r', fun j hj => no4 a rfl ⟨o, rfl⟩ j ?_⟩
      obtain ⟨⟨o', g1⟩, g2⟩ := hj
      refine ⟨⟨o', ?_⟩, g2⟩
      have up : ∀ s, ρ'[j]? = some s → (pad ρ' σ.length)[j]? = some s := fun s hs => by
        unfold pad
        rw [List.getElem?_append_left (List.getElem?_eq_some_iff.mp hs).1]
        exact hs
      rcases g1 with g1 | g1
      · exact .inl (up _ g1)
      · exact .inr (up _ g1)
    rcases hres with ⟨rfl, rfl⟩ | ⟨x, rfl, rfl⟩
    · intro F' v H' ret rv
      have : v = .non := by cases rv; rfl
      refine ⟨this, ?_⟩
      obtain ⟨w5, u, f', h', r', no5⟩ := after ret
      exact post F' H' (e1.trans ret.ext) w5 a u f' h' r' ca hha no5
    · intro F' d H' ret rx
      obtain ⟨w5, _⟩ := after ret
      exact post F' d H' (e1.trans ret.ext) w5 rx
  · exact ⟨c, F, ρ, .ex x, ρ', w, h1, post⟩
end
end L3
set_option Elab.async false
set_option linter.all false
set_option maxRecDepth 100000
set_option maxHeartbeats 2000000
namespace L3
open PySem PySem.Spec PyProof.Rows L2

/-! ### methods -/
def recvD (C : Addr) (m : Str) : D → Option Ag
  | .ins C' fs => if C' = C ∧ (fs.lookup m).isNone = true then some (.d (.ins C' fs)) else none
  | _ => none
def recvO (C : Addr) (m : Str) (i : Nat) : OB → Option Ag
  | .ins C' fs => if C' = C ∧ (fs.lookup m).isNone = true then some (.s i) else none
  | _ => none
def mRecv (C : Addr) (m : Str) : AgM → M Ag
  | .d me => me.bind fun d => M.lift (recvD C m d)
  | .s i => (mSlot i).bind fun o => M.lift (recvO C m i o)
def mMthS (C : Addr) (m : Str) (n : Nat) (g : G) (dds : List D) (r : AgM) (as : M (List Ag)) : M S := (mRecv C m r).bind fun gr => as.bind fun gs => callAt n g dds (gr :: gs)
def mMth (C : Addr) (m : Str) (n : Nat) (g : G) (dds : List D) (r : AgM) (as : M (List Ag)) : M D := (mMthS C m n g dds r as).bind fun s => M.lift (asD s)
def mMthO (C : Addr) (m : Str) (n : Nat) (g : G) (dds : List D) (r : AgM) (as : M (List Ag)) : M OB := (mMthS C m n g dds r as).bind fun s => M.lift (asO s)
/-- the receiver, as an expression -/
inductive PRM (X : Cx) (Wx : WX) : Expr → AgM → Prop
  | d {e : Expr} {me : M D} (h : PEM X Wx e me) : PRM X Wx e (.d me)
  | s (i : Nat) {x : Str} {pos : Pos} (hN : X.N[i]? = some x := by rfl) (hv : Vis X.env.scope x := by first | exact Or.inl rfl | exact Or.inr (Or.inl rfl) | exact Or.inr (Or.inr rfl)) (hd : (x == ("__debug__" : Str)) = false := by decide)
    (hcd : (x == ("__classdict__" : Str)) = false := by decide) : PRM X Wx (.Name x pos) (.s i)
/-- its reading: where the instance stands, kept while the heap grows -/
def tRecv (K : PySem.W.Frag) (Wx : WX) (C : Addr) (m : Str) (r : AgM) (σ : L2.St) (H : Hp) (P : Ctx → List S → Ag → V → Hp → Hp → Prop) : Prop :=
  tM K Wx (mRecv C m r) σ H fun c ρ' g F' H' => ∀ a, (∃ dx fs, H' a = some (.ins (cA K C) dx fs) ∧ fs.lookup m = none) → (∀ F2, Same F' F2 → RepG K F2 σ [V.ref a] [g]) → P c ρ' g (V.ref a) F' H'
theorem recv_pe {X : Cx} {Wx : WX} {o : Expr} {r : AgM} {C : Addr} {m : Str} (h : PRM X Wx o r) : PE X o (fun σ H Q => tRecv X.K Wx C m r σ H fun c ρ' g v F' H' => Q v H') := by
  cases h with
  | d h =>
    refine pe_imp h fun σ H Q h => ?_
    obtain ⟨c, F, ρ, rr, ρ', w, hm, post⟩ := h
    rcases bind_inv hm with ⟨d, ρ1, h1, h2⟩ | ⟨x, h1, rfl⟩
    · refine ⟨c, F, ρ, .ok d, ρ1, w, h1, fun F1 H1 e1 w1 v rv => ?_⟩
      obtain ⟨g, hg, rfl, rfl⟩ := lift_inv h2
      cases rv <;> try (cases hg; done)
      rename_i a dx C' fs ds ha hr
      have hg' : (if C' = C ∧ (ds.lookup m).isNone = true then some (Ag.d (.ins C' ds)) else none) = some g := hg
      split at hg'
      · rename_i hc
        obtain ⟨rfl, hl⟩ := hc
        cases hg'
        exact post F1 H1 e1 w1 a ⟨dx, fs, w1.sub _ _ ha, hr.look.2 (Option.isNone_iff_eq_none.mp hl)⟩ fun F2 e2 => .d (.ins (e2 _ _ ha) (hr.mono e2)) .nil
      · cases hg'
    · exact ⟨c, F, ρ, .ex x, ρ', w, h1, post⟩
  | s i hN hv hd hcd =>
    refine pe_imp (pe_var hN hv hd hcd) fun σ H Q h => ?_
    obtain ⟨c, F, ρ, rr, ρ', w, hm, post⟩ := h
    rcases bind_inv hm with ⟨o, ρ1, h1, h2⟩ | ⟨x, h1, rfl⟩
    · obtain ⟨_, ez, rfl, ho⟩ := slot_inv h1
      cases ez
      obtain ⟨g, hg, rfl, rfl⟩ := lift_inv h2
      obtain ⟨a, u, ha, _, fa, ga, ro⟩ := own_slot w ho
      cases ro <;> try (cases hg; done)
      rename_i C' dx fs ds hr
      have hg' : (if C' = C ∧ (ds.lookup m).isNone = true then some (Ag.s i) else none) = some g := hg
      split at hg'
      · rename_i hc
        obtain ⟨rfl, hl⟩ := hc
        cases hg'
        exact ⟨_, ha, post F H (Same.refl _) w a ⟨dx, fs, ga, hr.look.2 (Option.isNone_iff_eq_none.mp hl)⟩ fun F2 e2 => .s ha .nil⟩
      · cases hg'
    · obtain ⟨_, ez, _⟩ := slot_inv h1
      cases ez
section
variable {X : Cx} {Wx : WX} {k : Nat} {f C : Addr} {fd : FuncData} {ps : List Str} {dvs : List V} {dds : List D} {ds : List Value} {m : Str} {pos apos : Pos} {e o : Expr} {es : List Expr} {g : G} {r : AgM} {as : List AgM}
theorem mth_imp {P : Ctx → List S → S → Hp → Hp → Prop} {Q : VK} {σ : L2.St} {H : Hp} (hdd : ∀ F, RepL X.K F dvs dds) (h : tM X.K Wx (mMthS C m ps.length g dds r (mAgs as)) σ H P) (hQ : ∀ c ρ' s F' H' v, W X.K c F' ρ' σ H' → RetW X.K c ρ' σ F' H' v s → P c ρ' s F' H' → Q v H') :
    tMth (cA X.K C) m (spG X.K ps.length g) dvs Wx (fun σ H Q => tRecv X.K Wx C m r σ H fun c ρ' g v F' H' => Q v H') (tG X.K Wx (mAgs as)) σ H Q := by
  obtain ⟨c, F, ρ, rr, ρ', w, hm, post⟩ := h
  rcases bind_inv hm with ⟨gr, ρ1, h1, h2⟩ | ⟨x, h1, rfl⟩
  · refine ⟨c, F, ρ, .ok gr, ρ1, w, h1, fun F1 H1 e1 w1 a hi hrep => ?_⟩
    obtain ⟨dx, fs, ha, hl⟩ := hi
    refine ⟨a, dx, fs, rfl, ha, hl, ?_⟩
    rcases bind_inv h2 with ⟨gs, ρ2, h3, h4⟩ | ⟨x, h3, rfl⟩
    · refine ⟨c, F1, ρ1, .ok gs, ρ2, w1, h3, fun F2 H2 e2 w2 vs rg => ?_⟩
      have rg2 : RepG X.K F2 σ (V.ref a :: vs) (gr :: gs) := by
        have := hrep F2 e2
        cases this with
        | d r _ => exact .d r rg
        | s h _ => exact .s h rg
      exact call_core (vs := V.ref a :: vs) w2 rg2 h4 hdd (post.mono (e1.trans e2)) (hQ c ρ')
    · exact ⟨c, F1, ρ1, .ex x, ρ', w1, h3, PostX.mono e1 post⟩
  · exact ⟨c, F, ρ, .ex x, ρ', w, h1, post⟩
theorem pem_mth (ho : PRM X Wx o r) (cl : Cls X.K (cA X.K C)) (hm : Meth X.K (cA X.K C) m f) (Fn : FnG X.prog X.w X.K X.mg X.base k f fd ps (spG X.K ps.length g)) (hG : X.A.guards = some []) (hr : Room k X.A) (hb : Binds X.K fd ps ds) (hd : Vals dvs ds) (hdd : ∀ F, RepL X.K F dvs dds) (tk : Takes X Wx) (ha : PGM X Wx (e :: es) (mAgs as))
    (hp : ∀ {ta : TE} {t : TA}, PE X o ta → PA X (e :: es) t → PE X (.Call (.Attribute o m apos) (e :: es) [] pos) (tMth (cA X.K C) m (spG X.K ps.length g) dvs Wx ta t)) : PEM X Wx (.Call (.Attribute o m apos) (e :: es) [] pos) (mMth C m ps.length g dds r (mAgs as)) :=
  pe_imp (hp (recv_pe (C := C) (m := m) ho) ha) fun σ H Q h => mth_imp hdd (tM_D h) fun c ρ' s F' H' v w rv ⟨d, ed, q⟩ => by
    subst ed
    exact q v rv
theorem pem_mth0 (ho : PRM X Wx o r) (hdd : ∀ F, RepL X.K F dvs dds)
    (hp : ∀ {ta : TE}, PE X o ta → PE X (.Call (.Attribute o m apos) [] [] pos) (tMth (cA X.K C) m (spG X.K ps.length g) dvs Wx ta tNil)) : PEM X Wx (.Call (.Attribute o m apos) [] [] pos) (mMth C m ps.length g dds r (mAgs [])) := by
  refine pe_imp (hp (recv_pe (C := C) (m := m) ho)) fun σ H Q h => ?_
  have q := mth_imp (as := []) (Q := Q) hdd (tM_D h) fun c ρ' s F' H' v w rv ⟨d, ed, q⟩ => by
    subst ed
    exact q v rv
  obtain ⟨c, F, ρ, rr, ρ', w, hm, post⟩ := q
  refine ⟨c, F, ρ, rr, ρ', w, hm, post.imp fun gr F' H' _ w' p' a hi hrep => ?_⟩
  obtain ⟨a', dx, fs, z, ha, hl, q2⟩ := p' a hi hrep
  refine ⟨a', dx, fs, z, ha, hl, ?_⟩
  obtain ⟨c2, F2, ρ2, rr2, ρ2', w2, hm2, post2⟩ := q2
  cases hm2
  exact post2 F2 H' (Same.refl _) w2 [] .nil

/-! ### properties -/
/-- e.f, a property: the getter's promise -/
def tPrp (C : Addr) (sp : Sp) (ta : TE) : TE := fun σ H Q => ta σ H fun x H1 => ∃ a dx fs, x = V.ref a ∧ H1 a = some (.ins C dx fs) ∧ sp [V.ref a] H1 Q (fun _ _ _ => False)
theorem pe_prp {sp : Sp} {ta : TE} {p gf : Addr} (he : PE X o ta) (cl : Cls X.K C) (hp : PropOf X.K C m p gf) (Fn : FnG X.prog X.w X.K X.mg X.base k gf fd ps sp) (hG : X.A.guards = some []) (hr : Room (k + 1) X.A) (hb : Binds X.K fd ps [])
    (hab : attributeBase o m X.env (eval o X.env) = eval o X.env := by rfl) : PE X (.Attribute o m pos) (tPrp C sp ta) := by
  constructor
  intro pins s σ H Q I h
  refine attr_of hab (thn (he.run pins s σ H _ I h) ?_)
  intro u s1 hh
  obtain ⟨x, H1, I1, rx, a, dx, fs, rfl, ea, q⟩ := hh
  obtain rfl : u = Value.ref a := rx
  obtain ⟨mA, O, _, _, _, _⟩ := ins_get I1.hok ea
  obtain ⟨od, J, _⟩ := O.look
  obtain ⟨rest, hrec⟩ := hp.rec_
  have I2 := I1.tok (s1.toks + 1)
  have hl : ([Value.ref a] ++ []).length = ps.length := (Fn.len _ _ _ _ q)
  have hc : (PySem.W.clsIn X.K C).isSome = true := by
    obtain ⟨cd, hc, _⟩ := PySem.W.any_some cl.hd
    rw [hc]
    rfl
  refine PySem.W.get_bind I1.kIn J (PySem.W.plainGet_of (cl.get m)).1 (PySem.W.findObj_data hc hp.at_ hp.get hp.tak) (PySem.W.plainGet_of (cl.get m)).2 ?_
  apply wpAny_call
  refine PySem.W.prop_get (s := { s1 with toks := s1.toks + 1 }) I1.kIn hrec ?_
  apply codeAny_mono (Fn.run X.A.in1 X.stack { s1 with toks := s1.toks + 1 } H1 ⟨[.ref a], []⟩ [.ref a] [.ref a] Q _ hG hr.in1 I2.env0.in1 (hb _ [.ref a] I2.kIn hl) (.cons rfl .nil) q)
  intro r s' hq
  match r, hq with
  | .error er, hq =>
    obtain ⟨_, _, _, _, _, _, _, _, _, _, _, _, z⟩ := hq
    exact z.elim
  | .ok (.ret u), hq =>
    obtain ⟨v, H', I3, rv, q3⟩ := I2.after hq
    show wpAny _ _ (handedOut u) _ _ _
    rw [PySem.W.handedOut_of (handed_of rv)]
    exact wpAny_pure ⟨v, H', I3, rv, q3⟩
  | .ok .next, hq => exact False.elim hq
  | .ok .brk, hq => exact False.elim hq
  | .ok .cont, hq => exact False.elim hq
def recvP (C : Addr) : D → Option Ag
  | .ins C' fs => if C' = C then some (.d (.ins C' fs)) else none
  | _ => none
/-- (a getter that raises nothing) -/
def mProp (C : Addr) (g : G) (me : M D) : M D := me.bind fun d => (M.lift (recvP C d)).bind fun gr ρ => match g [.dat d] with
  | some (.ok (.dat z), _) => some (.ok z, ρ)
  | _ => none
theorem pem_prop {me : M D} {p gf : Addr} (he : PEM X Wx o me) (cl : Cls X.K (cA X.K C)) (hp : PropOf X.K (cA X.K C) m p gf) (Fn : FnG X.prog X.w X.K X.mg X.base k gf fd ps (spG X.K ps.length g)) (hG : X.A.guards = some []) (hr : Room (k + 1) X.A) (hb : Binds X.K fd ps []) (h1 : ps.length = 1)
    (hab : attributeBase o m X.env (eval o X.env) = eval o X.env := by rfl) : PEM X Wx (.Attribute o m pos) (mProp C g me) := by
  refine pe_imp (pe_prp he cl hp Fn hG hr hb hab) fun σ H Q h => ?_
  obtain ⟨c, F, ρ, rr, ρ', w, hm, post⟩ := h
  rcases bind_inv hm with ⟨d, ρ1, h1', h2⟩ | ⟨x, h1', rfl⟩
  · refine ⟨c, F, ρ, .ok d, ρ1, w, h1', fun F1 H1 e1 w1 v rv => ?_⟩
    rcases bind_inv h2 with ⟨gr, ρ2, h3, h4⟩ | ⟨x, h3, rfl⟩
    · obtain ⟨_, hgr, ez, rfl⟩ := lift_inv h3
      cases ez
      cases rv <;> try (cases hgr; done)
      rename_i a dx C' fs ds ha hr'
      have hg' : (if C' = C then some (Ag.d (.ins C' ds)) else none) = some gr := hgr
      split at hg'
      · rename_i hC
        subst hC
        refine ⟨a, dx, fs, rfl, w1.sub _ _ ha, ?_⟩
        have h5 : (match g [.dat (.ins C' ds)] with
          | some (.ok (.dat z), _) => some (R.ok z, ρ2)
          | _ => none) = some (rr, ρ') := h4
        split at h5
        · rename_i z ss' hgz
          cases h5
          refine ⟨h1.symm, F1, [.dat (.ins C' ds)], .ok (.dat z), ss', w1.sub, ⟨rfl, fun i s hs => ?_, fun i j o o' b q1 _ _ _ => ?_⟩, hgz, fun F' v' H' ret rv' => ?_⟩
          · cases i with
            | zero => simp at hs; subst hs; exact ⟨_, rfl, .ins ha hr'⟩
            | succ i => simp at hs
          · cases i with
            | zero => simp at q1
            | succ i => simp at q1
          · have w' : W X.K c F' ρ' σ H' := by
              have rg : RepG X.K F1 σ [V.ref a] [.d (.ins C' ds)] := .d (.ins ha hr') .nil
              exact w1.call (dvs := []) (dds := []) (gs := [.d (.ins C' ds)]) (ss := [.dat (.ins C' ds)]) (ss' := [.dead]) rg List.nodup_nil rfl ⟨ret.sub, ret.ext, ret.frm, ret.new, ret.dom, fun i o hi => by
                cases i with
                | zero => simp at hi
                | succ i => simp at hi⟩ rfl
            exact post F' H' (e1.trans ret.ext) w' v' rv'
        · cases h5
      · cases hg'
    · obtain ⟨_, _, ez, _⟩ := lift_inv h3
      cases ez
  · exact ⟨c, F, ρ, .ex x, ρ', w, h1', post⟩
end
end L3
set_option Elab.async false
set_option linter.all false
set_option maxRecDepth 100000
set_option maxHeartbeats 2000000
namespace L3
open PySem PySem.Spec PyProof.Rows L2

/-! ### operations on data, by their kinds -/
def rOr (r s : R2) : R2 := fun x y H Q => r x y H Q ∨ s x y H Q
theorem opr_or {X : Cx} {f : Value → Value → Sem Value} {r s : R2} (h1 : OpR X f r) (h2 : OpR X f s) : OpR X f (rOr r s) := by
  intro pins sh σ H x y v u Q I rx ry h
  rcases h with h | h
  · exact h1 pins sh σ H x y v u Q I rx ry h
  · exact h2 pins sh σ H x y v u Q I rx ry h
def dAdd : D → D → Option D
  | .int i, .int j => some (.int (i + j))
  | .str x, .str y => if x.length + y.length ≤ 1000000 then some (.str (x ++ y)) else none
  | .lst xs, .lst ys => if xs.length + ys.length ≤ 1000000 then some (.lst (xs ++ ys)) else none
  | _, _ => none
def dSub : D → D → Option D
  | .int i, .int j => some (.int (i - j))
  | _, _ => none
def mulOk (i j : Int) : Bool := decide (i.natAbs.log2 + j.natAbs.log2 < 1000000)
def dMul : D → D → Option D
  | .int i, .int j => if mulOk i j = true then some (.int (i * j)) else none
  | .lst xs, .int k => if k ≤ 1000000 ∧ -1000000 ≤ k ∧ xs.length * k.toNat ≤ 1000000 then some (.lst (List.replicate k.toNat xs).flatten) else none
  | _, _ => none
def divOk (j : Int) : Bool := decide (j ≠ 0 ∧ j.natAbs.log2 < 9000)
def dFdiv : D → D → Option D
  | .int i, .int j => if divOk j = true then some (.int (i.fdiv j)) else none
  | _, _ => none
def dMod : D → D → Option D
  | .int i, .int j => if j ≠ 0 then some (.int (i.fmod j)) else none
  | _, _ => none
def powOk (i j : Int) : Bool := decide (0 ≤ j ∧ (i.natAbs.log2 + 1) * j.toNat ≤ 1000000)
def dPow : D → D → Option D
  | .int i, .int j => if powOk i j = true then some (.int (i ^ j.toNat)) else none
  | _, _ => none
def dLt : D → D → Option D
  | .int i, .int j => some (.bl (decide (i < j)))
  | _, _ => none
def dLe : D → D → Option D
  | .int i, .int j => some (.bl (decide (i ≤ j)))
  | _, _ => none
def dGt : D → D → Option D
  | .int i, .int j => some (.bl (decide (j < i)))
  | _, _ => none
def dGe : D → D → Option D
  | .int i, .int j => some (.bl (decide (j ≤ i)))
  | _, _ => none
def dNeg : D → Option D
  | .int i => some (.int (-i))
  | _ => none
/-- data without instances -/
def D.py : D → Option PyData
  | .non => some .none
  | .bl b => some (.bool b)
  | .int i => some (.int i)
  | .str x => some (.str x)
  | .tup ds => (pyL ds).map .tuple
  | .lst ds => (pyL ds).map .list
  | .rdl ds => (pyL ds).map .list
  | _ => none
where pyL : List D → Option (List PyData)
  | [] => some []
  | d :: ds => match d.py, pyL ds with
    | some p, some ps => some (p :: ps)
    | _, _ => none
def dEqD (d e : D) : Option D := match d.py, e.py with
  | some p, some q => if (SeqAt.shaped p && SeqAt.shaped q) = true then some (.bl (PyData.eqv p q)) else none
  | _, _ => none
def dNeD (d e : D) : Option D := match d.py, e.py with
  | some p, some q => if (SeqAt.shaped p && SeqAt.shaped q) = true then some (.bl (!PyData.eqv p q)) else none
  | _, _ => none
def dEq (d e : D) : Option D := match d, e with
  | .int i, .int j => some (.bl (decide (i = j)))
  | .str x, .str y => some (.bl (decide (x = y)))
  | d, e => dEqD d e
def dNe (d e : D) : Option D := match d, e with
  | .int i, .int j => some (.bl (!decide (i = j)))
  | .str x, .str y => some (.bl (!decide (x = y)))
  | d, e => dNeD d e
section
variable {K : PySem.W.Frag} {F H : Hp}
mutual
theorem py_dp (sub : Same F H) : ∀ {d : D} {v : V} {p : PyData}, Rep K F v d → d.py = some p → Dp K H v p
  | .non, _, _, .non, h => by cases h; exact .non
  | .bl b, _, _, .bl _, h => by cases h; exact .bl b
  | .int i, _, _, .int _, h => by cases h; exact .int i
  | .str x, _, _, .str _, h => by cases h; exact .str x
  | .ty _, _, _, _, h => by cases h
  | .obj _, _, _, _, h => by cases h
  | .dct _, _, _, _, h => by cases h
  | .ins _ _, _, _, _, h => by cases h
  | .exc _, _, _, _, h => by cases h
  | .exf _ _, _, _, _, h => by cases h
  | .tup ds, _, p, .tup hs hr, h => by
    have h' : (D.py.pyL ds).map PyData.tuple = some p := h
    cases e : D.py.pyL ds with
    | none => rw [e] at h'; cases h'
    | some ps => rw [e] at h'; cases h'; exact .tup (same_sqT sub hs) (py_dps sub hr e)
  | .lst ds, _, p, .lst hs hr, h => by
    have h' : (D.py.pyL ds).map PyData.list = some p := h
    cases e : D.py.pyL ds with
    | none => rw [e] at h'; cases h'
    | some ps => rw [e] at h'; cases h'; exact .lst (.inl (.inl (sub _ _ hs))) (py_dps sub hr e)
  | .rdl ds, _, p, .rdl hs hr, h => by
    have h' : (D.py.pyL ds).map PyData.list = some p := h
    cases e : D.py.pyL ds with
    | none => rw [e] at h'; cases h'
    | some ps => rw [e] at h'; cases h'; exact .lst (sub.seq hs) (py_dps sub hr e)
theorem py_dps (sub : Same F H) : ∀ {ds : List D} {vs : List V} {ps : List PyData}, RepL K F vs ds → D.py.pyL ds = some ps → DpAll K H vs ps
  | [], _, _, .nil, h => by cases h; exact .nil
  | d :: ds, _, ps, .cons r rs, h => by
    have h' : (match d.py, D.py.pyL ds with
      | some p, some ps => some (p :: ps)
      | _, _ => none) = some ps := h
    cases e1 : d.py with
    | none => rw [e1] at h'; cases h'
    | some p =>
      cases e2 : D.py.pyL ds with
      | none => rw [e1, e2] at h'; cases h'
      | some qs => rw [e1, e2] at h'; cases h'; exact .cons (py_dp sub r e1) (py_dps sub rs e2)
end
end
section
variable {X : Cx}
theorem op_powW : OpR X (binaryOp .Pow) (rI (fun i j => powOk i j = true) fun i j => .int (i ^ j.toNat)) := opI fun i j _ _ _ _ _ hc q => by
  obtain ⟨h0, h1⟩ := of_decide_eq_true (show decide (0 ≤ j ∧ (i.natAbs.log2 + 1) * j.toNat ≤ 1000000) = true from hc)
  refine pow_int h0 ?_ q
  have b : Builtin.Int.intBits i ≤ i.natAbs.log2 + 1 := by
    unfold Builtin.Int.intBits
    split <;> omega
  have e : (Builtin.Int.intBits i : Int) * j = ((Builtin.Int.intBits i * j.toNat : Nat) : Int) := by
    rw [Int.natCast_mul, Int.toNat_of_nonneg h0]
  rw [e]
  have : Builtin.Int.intBits i * j.toNat ≤ 1000000 := Nat.le_trans (Nat.mul_le_mul_right _ b) h1
  generalize Builtin.Int.intBits i * j.toNat = n at this
  have h2 : (n : Int) ≤ 1000000 := by omega
  exact Int.le_trans h2 (by decide)
theorem op_divW : OpR X (binaryOp .FloorDiv) (rI (fun _ j => divOk j = true) fun i j => .int (i.fdiv j)) := opI fun i j _ _ _ _ _ hc q => by
  obtain ⟨h0, h1⟩ := of_decide_eq_true (show decide (j ≠ 0 ∧ j.natAbs.log2 < 9000) = true from hc)
  exact floordiv_int h0 q (.inl (PyProof.noPylong_of_log2 h1))
abbrev rAddI : R2 := rI0 fun i j => .int (i + j)
abbrev rAddS : R2 := fun x y H Q => ∃ i j, x = V.str i ∧ y = V.str j ∧ i.length + j.length ≤ sizeLine ∧ Q (.str (i ++ j)) H
theorem op_addP : OpR X (binaryOp .Add) (rOr rAddI (rOr rAddS rCat)) := opr_or op_add (opr_or op_add_str op_cat)
theorem s_add : Op2 X.K (rOr rAddI (rOr rAddS rCat)) dAdd := by
  intro F H x y d e z Q rx ry sub h q
  unfold dAdd at h
  split at h
  · cases h; cases rx; cases ry
    exact .inl ⟨_, _, rfl, rfl, q F _ H Grow.refl (.int _)⟩
  · split at h
    · rename_i hl
      cases h; cases rx; cases ry
      exact .inr (.inl ⟨_, _, rfl, rfl, mil hl, q F _ H Grow.refl (.str _)⟩)
    · cases h
  · split at h
    · rename_i hl
      cases h
      cases rx with
      | lst h1 r1 =>
        cases ry with
        | lst h2 r2 =>
          refine .inr (.inr ⟨_, _, _, _, rfl, rfl, sub _ _ h1, sub _ _ h2, by rw [r1.len, r2.len]; exact mil hl, fun p hp => ?_⟩)
          exact q _ _ _ (Grow.new sub hp) (.lst upd_same ((r1.append r2).mono (same_upd (sub.free hp))))
    · cases h
  · cases h
theorem s_sub : Op2 X.K (rI0 fun i j => .int (i - j)) dSub := by
  intro F H x y d e z Q rx ry sub h q
  unfold dSub at h
  split at h
  · cases h; cases rx; cases ry
    exact ⟨_, _, rfl, rfl, q F _ H Grow.refl (.int _)⟩
  · cases h
theorem RepL.rep {K : PySem.W.Frag} {F : Hp} {vs : List V} {ds : List D} (r : RepL K F vs ds) : ∀ n : Nat, RepL K F (List.replicate n vs).flatten (List.replicate n ds).flatten
  | 0 => .nil
  | n + 1 => by
    rw [List.replicate_succ, List.replicate_succ, List.flatten_cons, List.flatten_cons]
    exact r.append (RepL.rep r n)
theorem op_mulP : OpR X (binaryOp .Mult) (rOr (rI CMulW fun i j => .int (i * j)) rRep) := opr_or op_mulW op_rep
theorem mulOk_of {i j : Int} (h : mulOk i j = true) : CMulW i j := of_decide_eq_true (p := i.natAbs.log2 + j.natAbs.log2 < 1000000) h
theorem s_mul : Op2 X.K (rOr (rI CMulW fun i j => .int (i * j)) rRep) dMul := by
  intro F H x y d e z Q rx ry sub h q
  unfold dMul at h
  split at h
  · split at h
    · rename_i hm
      cases h; cases rx; cases ry
      exact .inl ⟨_, _, rfl, rfl, mulOk_of hm, q F _ H Grow.refl (.int _)⟩
    · cases h
  · split at h
    · rename_i hm
      cases h
      cases ry
      cases rx with
      | lst h1 r1 =>
        refine .inr ⟨_, _, _, rfl, rfl, sub _ _ h1, by omega, by omega, by rw [r1.len]; exact mil hm.2.2, fun p hp => ?_⟩
        exact q _ _ _ (Grow.new sub hp) (.lst upd_same ((r1.rep _).mono (same_upd (sub.free hp))))
    · cases h
  · cases h
theorem s_fdiv : Op2 X.K (rI (fun _ j => divOk j = true) fun i j => .int (i.fdiv j)) dFdiv := by
  intro F H x y d e z Q rx ry sub h q
  unfold dFdiv at h
  split at h
  · split at h
    · rename_i hm
      cases h; cases rx; cases ry
      exact ⟨_, _, rfl, rfl, hm, q F _ H Grow.refl (.int _)⟩
    · cases h
  · cases h
theorem s_mod : Op2 X.K (rI (fun _ j => j ≠ 0) fun i j => .int (i.fmod j)) dMod := by
  intro F H x y d e z Q rx ry sub h q
  unfold dMod at h
  split at h
  · split at h
    · rename_i hm
      cases h; cases rx; cases ry
      exact ⟨_, _, rfl, rfl, hm, q F _ H Grow.refl (.int _)⟩
    · cases h
  · cases h
theorem s_pow : Op2 X.K (rI (fun i j => powOk i j = true) fun i j => .int (i ^ j.toNat)) dPow := by
  intro F H x y d e z Q rx ry sub h q
  unfold dPow at h
  split at h
  · split at h
    · rename_i hm
      cases h; cases rx; cases ry
      exact ⟨_, _, rfl, rfl, hm, q F _ H Grow.refl (.int _)⟩
    · cases h
  · cases h
theorem s_lt : Op2 X.K (rI0 fun i j => .bl (decide (i < j))) dLt := by
  intro F H x y d e z Q rx ry sub h q
  unfold dLt at h
  split at h
  · cases h; cases rx; cases ry
    exact ⟨_, _, rfl, rfl, q F _ H Grow.refl (.bl _)⟩
  · cases h
theorem s_le : Op2 X.K (rI0 fun i j => .bl (decide (i ≤ j))) dLe := by
  intro F H x y d e z Q rx ry sub h q
  unfold dLe at h
  split at h
  · cases h; cases rx; cases ry
    exact ⟨_, _, rfl, rfl, q F _ H Grow.refl (.bl _)⟩
  · cases h
theorem s_gt : Op2 X.K (rI0 fun i j => .bl (decide (j < i))) dGt := by
  intro F H x y d e z Q rx ry sub h q
  unfold dGt at h
  split at h
  · cases h; cases rx; cases ry
    exact ⟨_, _, rfl, rfl, q F _ H Grow.refl (.bl _)⟩
  · cases h
theorem s_ge : Op2 X.K (rI0 fun i j => .bl (decide (j ≤ i))) dGe := by
  intro F H x y d e z Q rx ry sub h q
  unfold dGe at h
  split at h
  · cases h; cases rx; cases ry
    exact ⟨_, _, rfl, rfl, q F _ H Grow.refl (.bl _)⟩
  · cases h
theorem s_eqD : Op2 X.K (rEqD X.K) dEqD := by
  intro F H x y d e z Q rx ry sub h q
  unfold dEqD at h
  split at h
  · rename_i p p' e1 e2
    split at h
    · rename_i hs
      cases h
      rw [Bool.and_eq_true] at hs
      exact ⟨p, p', py_dp sub rx e1, py_dp sub ry e2, hs.1, hs.2, q F _ H Grow.refl (.bl _)⟩
    · cases h
  · cases h
theorem s_neD : Op2 X.K (rNeD X.K) dNeD := by
  intro F H x y d e z Q rx ry sub h q
  unfold dNeD at h
  split at h
  · rename_i p p' e1 e2
    split at h
    · rename_i hs
      cases h
      rw [Bool.and_eq_true] at hs
      exact ⟨p, p', py_dp sub rx e1, py_dp sub ry e2, hs.1, hs.2, q F _ H Grow.refl (.bl _)⟩
    · cases h
  · cases h
theorem op_eqP (hu : X.A.units + 64 < cLine) : OpR X (compareOp .Eq) (rOr rEq (rEqD X.K)) := opr_or op_eq (op_eqD hu)
theorem op_neP (hu : X.A.units + 64 < cLine) : OpR X (compareOp .NotEq) (rOr rNe (rNeD X.K)) := opr_or op_ne (op_neD hu)
theorem decI {i j : Int} : decide (V.int i = V.int j) = decide (i = j) := by rw [Bool.eq_iff_iff]; simp
theorem decS {i j : Str} : decide (V.str i = V.str j) = decide (i = j) := by rw [Bool.eq_iff_iff]; simp
theorem s_eq : Op2 X.K (rOr rEq (rEqD X.K)) dEq := by
  intro F H x y d e z Q rx ry sub h q
  unfold dEq at h
  split at h
  · cases h; cases rx; cases ry
    exact .inl ⟨rfl, by rw [decI]; exact q F _ H Grow.refl (.bl _)⟩
  · cases h; cases rx; cases ry
    exact .inl ⟨rfl, by rw [decS]; exact q F _ H Grow.refl (.bl _)⟩
  · exact .inr (s_eqD (X := X) F H x y _ _ z Q rx ry sub h q)
theorem s_ne : Op2 X.K (rOr rNe (rNeD X.K)) dNe := by
  intro F H x y d e z Q rx ry sub h q
  unfold dNe at h
  split at h
  · cases h; cases rx; cases ry
    exact .inl ⟨rfl, by rw [decI]; exact q F _ H Grow.refl (.bl _)⟩
  · cases h; cases rx; cases ry
    exact .inl ⟨rfl, by rw [decS]; exact q F _ H Grow.refl (.bl _)⟩
  · exact .inr (s_neD (X := X) F H x y _ _ z Q rx ry sub h q)
theorem s_neg : Op1 X.K (rU fun i => .int (-i)) dNeg := by
  intro F H x d z Q rx sub h q
  unfold dNeg at h
  split at h
  · cases h; cases rx
    exact ⟨_, rfl, q F _ H Grow.refl (.int _)⟩
  · cases h
/-- xs[i], t[i] -/
def dIx : D → D → Option D
  | .lst ds, .int i => L2.atI ds i
  | .rdl ds, .int i => L2.atI ds i
  | .tup ds, .int i => L2.atI ds i
  | _, _ => none
theorem s_ix : Op2 X.K (rIx X.K) dIx := by
  intro F H x y d e z Q rx ry sub h q
  unfold dIx at h
  split at h
  · cases ry
    cases rx with
    | lst hs hr =>
      obtain ⟨v, hv, rv⟩ := hr.atI h
      exact .inl ⟨_, _, _, v, rfl, rfl, .inl (.inl (sub _ _ hs)), hv, q F v H Grow.refl rv⟩
  · cases ry
    cases rx with
    | rdl hs hr =>
      obtain ⟨v, hv, rv⟩ := hr.atI h
      exact .inl ⟨_, _, _, v, rfl, rfl, sub.seq hs, hv, q F v H Grow.refl rv⟩
  · cases ry
    cases rx with
    | tup hs hr =>
      obtain ⟨v, hv, rv⟩ := hr.atI h
      exact .inr (.inl ⟨_, _, _, v, rfl, rfl, same_sqT sub hs, hv, q F v H Grow.refl rv⟩)
  · cases h

/-! ### built-ins by values -/
def dAbs : List D → Option D
  | [.int i] => some (.int (if i < 0 then -i else i))
  | _ => none
def dInt : List D → Option D
  | [.int i] => some (.int i)
  | [.bl k] => some (.int (if k then 1 else 0))
  | _ => none
def dMax2 : List D → Option D
  | [.int i, .int j] => some (.int (if j > i then j else i))
  | _ => none
def dMin2 : List D → Option D
  | [.int i, .int j] => some (.int (if j < i then j else i))
  | _ => none
def dLen : List D → Option D
  | [.lst ds] => some (.int ds.length)
  | [.rdl ds] => some (.int ds.length)
  | [.tup ds] => some (.int ds.length)
  | [.str x] => if x.length ≤ 1000000 then some (.int x.length) else none
  | _ => none
def dStr : List D → Option D
  | [.int i] => if i.natAbs.log2 < 1920 then some (.str (toString i)) else none
  | _ => none
def dTuple : List D → Option D
  | [.lst ds] => some (.tup ds)
  | [.tup ds] => some (.tup ds)
  | _ => none
theorem one {K : PySem.W.Frag} {F : Hp} {xs : List V} {d : D} (h : RepL K F xs [d]) : ∃ x, xs = [x] ∧ Rep K F x d := by
  cases h with
  | cons r t => cases t; exact ⟨_, rfl, r⟩
theorem two {K : PySem.W.Frag} {F : Hp} {xs : List V} {d e : D} (h : RepL K F xs [d, e]) : ∃ x y, xs = [x, y] ∧ Rep K F x d ∧ Rep K F y e := by
  cases h with
  | cons r t =>
    obtain ⟨y, rfl, r2⟩ := one t
    exact ⟨_, _, rfl, r, r2⟩
theorem s_abs : OpN X.K (fun xs H Q => ∃ i, xs = [V.int i] ∧ Q (.int (if i < 0 then -i else i)) H) dAbs := by
  intro F H xs ds z Q rx sub h q
  unfold dAbs at h
  split at h
  · cases h
    obtain ⟨x, rfl, r⟩ := one rx
    cases r
    exact ⟨_, rfl, q F _ H Grow.refl (.int _)⟩
  · cases h
theorem s_int : OpN X.K (fun xs H Q => (∃ i, xs = [V.int i] ∧ Q (.int i) H) ∨ ∃ k, xs = [V.bl k] ∧ Q (.int (if k then 1 else 0)) H) dInt := by
  intro F H xs ds z Q rx sub h q
  unfold dInt at h
  split at h
  · cases h
    obtain ⟨x, rfl, r⟩ := one rx
    cases r
    exact .inl ⟨_, rfl, q F _ H Grow.refl (.int _)⟩
  · cases h
    obtain ⟨x, rfl, r⟩ := one rx
    cases r
    exact .inr ⟨_, rfl, q F _ H Grow.refl (.int _)⟩
  · cases h
theorem s_max2 : OpN X.K (fun xs H Q => ∃ i j, xs = [V.int i, V.int j] ∧ Q (.int (if j > i then j else i)) H) dMax2 := by
  intro F H xs ds z Q rx sub h q
  unfold dMax2 at h
  split at h
  · cases h
    obtain ⟨x, y, rfl, r, r2⟩ := two rx
    cases r
    cases r2
    exact ⟨_, _, rfl, q F _ H Grow.refl (.int _)⟩
  · cases h
theorem s_min2 : OpN X.K (fun xs H Q => ∃ i j, xs = [V.int i, V.int j] ∧ Q (.int (if j < i then j else i)) H) dMin2 := by
  intro F H xs ds z Q rx sub h q
  unfold dMin2 at h
  split at h
  · cases h
    obtain ⟨x, y, rfl, r, r2⟩ := two rx
    cases r
    cases r2
    exact ⟨_, _, rfl, q F _ H Grow.refl (.int _)⟩
  · cases h
theorem s_len : OpN X.K (fun xs H Q => ∃ x n, xs = [x] ∧ LenV X.K x H n ∧ Q (.int n) H) dLen := by
  intro F H xs ds z Q rx sub h q
  unfold dLen at h
  split at h
  · cases h
    obtain ⟨x, rfl, r⟩ := one rx
    cases r with
    | lst hs hr => exact ⟨_, _, rfl, .inl ⟨_, .inl (.inl (sub _ _ hs)), rfl⟩, q F _ H Grow.refl (by rw [hr.len]; exact .int _)⟩
  · cases h
    obtain ⟨x, rfl, r⟩ := one rx
    cases r with
    | rdl hs hr => exact ⟨_, _, rfl, .inl ⟨_, sub.seq hs, rfl⟩, q F _ H Grow.refl (by rw [hr.len]; exact .int _)⟩
  · cases h
    obtain ⟨x, rfl, r⟩ := one rx
    cases r with
    | tup hs hr => exact ⟨_, _, rfl, .inr ⟨_, same_sqT sub hs, rfl⟩, q F _ H Grow.refl (by rw [hr.len]; exact .int _)⟩
  · split at h
    · rename_i hl
      cases h
      obtain ⟨x, rfl, r⟩ := one rx
      cases r
      exact ⟨_, _, rfl, ⟨mil hl, rfl⟩, q F _ H Grow.refl (.int _)⟩
    · cases h
  · cases h
theorem s_str : OpN X.K (fun xs H Q => ∃ i : Int, xs = [V.int i] ∧ i.natAbs.log2 < 1920 ∧ Q (.str (toString i)) H) dStr := by
  intro F H xs ds z Q rx sub h q
  unfold dStr at h
  split at h
  · split at h
    · rename_i hl
      cases h
      obtain ⟨x, rfl, r⟩ := one rx
      cases r
      exact ⟨_, rfl, hl, q F _ H Grow.refl (.str _)⟩
    · cases h
  · cases h
theorem s_tuple : OpN X.K (fun xs H Q => ∃ p ys, xs = [V.ref p] ∧ ((SqL X.K H p ys ∧ ∀ l, H l = none → Q (.ref l) (upd H l (.tup ys))) ∨ (SqT X.K H p ys ∧ Q (.ref p) H))) dTuple := by
  intro F H xs ds z Q rx sub h q
  unfold dTuple at h
  split at h
  · cases h
    obtain ⟨x, rfl, r⟩ := one rx
    cases r with
    | lst hs hr =>
      refine ⟨_, _, rfl, .inl ⟨.inl (.inl (sub _ _ hs)), fun l hl => ?_⟩⟩
      exact q _ _ _ (Grow.new sub hl) (.tup (.inl (.inl upd_same)) (hr.mono (same_upd (sub.free hl))))
  · cases h
    obtain ⟨x, rfl, r⟩ := one rx
    cases r with
    | tup hs hr => exact ⟨_, _, rfl, .inr ⟨same_sqT sub hs, q F _ H Grow.refl (.tup hs hr)⟩⟩
  · cases h
end
end L3
set_option Elab.async false
set_option linter.all false
set_option maxRecDepth 100000
set_option maxHeartbeats 2000000
namespace L3
open PySem PySem.Spec PyProof.Rows L2

/-! ### isinstance -/
/-- what isinstance asks of an own class -/
structure KCls (K : PySem.W.Frag) (C : Addr) : Prop where
  cl : Cls K C
  ha : PySem.W.findIn K (.ref C) "__class__" = some (some (.builtin "object.__class__"))
  hn : PySem.W.specialIn K (.builtin "object.__class__") "__get__" = some (some (.builtin "getset_descriptor.__get__"))
  htk : PySem.W.takesIn K (.builtin "object.__class__") = some true
  hm : PySem.W.mroIn K C (.type "object") = some true
inductive BT where
  | non | bool | int | str | tup | lst | dct
  deriving DecidableEq
def BT.nm : BT → String
  | .non => "NoneType" | .bool => "bool" | .int => "int" | .str => "str" | .tup => "tuple" | .lst => "list" | .dct => "dict"
def BT.sub : BT → BT → Bool
  | .bool, .int => true
  | a, b => decide (a = b)
/-- the class of a datum: a built-in one, or an own one -/
inductive DT where
  | b (t : BT) | c (C : Addr)
def D.dt : D → Option DT
  | .non => some (.b .non)
  | .bl _ => some (.b .bool)
  | .int _ => some (.b .int)
  | .str _ => some (.b .str)
  | .tup _ => some (.b .tup)
  | .lst _ => some (.b .lst)
  | .rdl _ => some (.b .lst)
  | .dct _ => some (.b .dct)
  | .ins C _ => some (.c C)
  | _ => none
def dIsB (T : BT) (Cs : List Addr) (d : D) : Option D := match d.dt with
  | some (.b t) => some (.bl (t.sub T))
  | some (.c C) => if C ∈ Cs then some (.bl false) else none
  | none => none
def dIsC (C0 : Addr) (Cs : List Addr) (d : D) : Option D := match d.dt with
  | some (.b _) => some (.bl false)
  | some (.c C) => if C = C0 then some (.bl true) else if C ∈ Cs then some (.bl false) else none
  | none => none
theorem kit_bt {K : PySem.W.Frag} (a b : BT) : PySem.W.kitOne K (.type a.nm) (.type b.nm) = some (a.sub b) := kit_ty (by cases a <;> cases b <;> decide +kernel)
section
variable {K : PySem.W.Frag} {F H : Hp} {x : V} {d : D}
theorem sqL_ty {a : Addr} {xs : List V} (h : SqL K H a xs) : TyX K H (.ref a) (.type "list") := by
  rcases h with (h | ⟨o, h⟩) | ⟨o, _, _, h, hc, _⟩
  · exact .base (.lst h)
  · exact .base (.frz h)
  · exact .kList h hc
theorem sqT_ty {a : Addr} {xs : List V} (h : SqT K H a xs) : TyX K H (.ref a) (.type "tuple") := by
  rcases h with (h | ⟨o, h⟩) | ⟨o, _, _, h, hc, _⟩
  · exact .base (.tup h)
  · exact .fTuple h
  · exact .kTuple h hc
theorem dt_b {t : BT} (r : Rep K F x d) (sub : Same F H) (h : d.dt = some (.b t)) : TyX K H x (.type t.nm) := by
  cases r with
  | non => cases h; exact .base .non
  | bl b => cases h; exact .base (.bl b)
  | int i => cases h; exact .base (.int i)
  | str x => cases h; exact .base (.str x)
  | ty n => cases h
  | obj a => cases h
  | tup hs _ => cases h; exact sqT_ty (same_sqT sub hs)
  | lst hs _ => cases h; exact .base (.lst (sub _ _ hs))
  | rdl hs _ => cases h; exact sqL_ty (sub.seq hs)
  | dct hs _ => cases h; exact .base (.dK (sub _ _ hs))
  | ins hs _ => cases h
  | exc _ => cases h
  | exf _ _ _ => cases h
theorem dt_c {C : Addr} (r : Rep K F x d) (sub : Same F H) (h : d.dt = some (.c C)) (k : KCls K (cA K C)) : TyX K H x (.ref (cA K C)) := by
  cases r with
  | ins hs _ => cases h; exact .base (.ins (sub _ _ hs) k.cl k.ha k.hn k.htk k.hm)
  | non => cases h
  | bl b => cases h
  | int i => cases h
  | str x => cases h
  | ty n => cases h
  | obj a => cases h
  | tup hs _ => cases h
  | lst hs _ => cases h
  | rdl hs _ => cases h
  | dct hs _ => cases h
  | exc _ => cases h
  | exf _ _ _ => cases h
end
section
variable {X : Cx} {Wx : WX} {e ce : Expr} {me : M D} {p pos : Pos}
theorem isi_imp {K : PySem.W.Frag} {f : D → Option D} {cv : V} {u : Value} (hu : ClsV cv u) (hf : ∀ F H x d z, Rep K F x d → Same F H → f d = some z → ∃ t b, TyX K H x t ∧ PySem.W.kitOne K t u = some b ∧ z = .bl b) (σ : L2.St) (H : Hp) (Q : VK) (h : tE K Wx (mUn f me) σ H Q) :
    tCB (rIsi K) (tCons (tE K Wx me) (tCons (tC cv) tNil)) σ H Q := by
  obtain ⟨c, F, ρ, rr, ρ', w, hm, post⟩ := h
  rcases bind_inv hm with ⟨x, ρ1, h1, h2⟩ | ⟨x, h1, rfl⟩
  · refine ⟨c, F, ρ, .ok x, ρ1, w, h1, fun F1 H1 e1 w1 v1 r1 => ?_⟩
    obtain ⟨z, hz, rfl, rfl⟩ := lift_inv h2
    obtain ⟨t, b, ty, hk, rfl⟩ := hf F1 H1 v1 x z r1 w1.sub hz
    exact ⟨v1, cv, t, u, b, rfl, hu, ty, hk, post F1 H1 e1 w1 _ (.bl b)⟩
  · exact ⟨c, F, ρ, .ex x, ρ', w, h1, post⟩
theorem pem_isB (T : BT) (Cs : List Addr) (hC : ∀ C ∈ Cs, KCls X.K (cA X.K C) ∧ PySem.W.kitOne X.K (.ref (cA X.K C)) (.type T.nm) = some false) (hpe : PE X ce (tC (.ty T.nm))) (h : PEM X Wx e me)
    (hp : ∀ {ta : TA}, PA X [e, ce] ta → PE X (.Call (.Name "isinstance" p) [e, ce] [] pos) (tCB (rIsi X.K) ta)) (hs : starEach [e, ce] X.env = (false, eval e X.env) :: starEach [ce] X.env := by rfl) (hs2 : starEach [ce] X.env = (false, eval ce X.env) :: starEach [] X.env := by rfl) :
    PEM X Wx (.Call (.Name "isinstance" p) [e, ce] [] pos) (mUn (dIsB T Cs) me) := by
  refine pe_imp (hp (pa_cons h (pa_cons hpe pa_nil hs2) hs)) (isi_imp (.ty T.nm) fun F H x d z r sub hz => ?_)
  unfold dIsB at hz
  split at hz
  · rename_i t ht
    cases hz
    exact ⟨_, _, dt_b r sub ht, kit_bt t T, rfl⟩
  · rename_i C hC'
    split at hz
    · rename_i hm
      cases hz
      obtain ⟨k, q⟩ := hC C hm
      exact ⟨_, _, dt_c r sub hC' k, q, rfl⟩
    · cases hz
  · cases hz
theorem pem_isC (C0 : Addr) (Cs : List Addr) (k0 : KCls X.K (cA X.K C0)) (hb : ∀ t : BT, PySem.W.kitOne X.K (.type t.nm) (.ref (cA X.K C0)) = some false) (hC : ∀ C ∈ Cs, KCls X.K (cA X.K C) ∧ PySem.W.kitOne X.K (.ref (cA X.K C)) (.ref (cA X.K C0)) = some false) (hpe : PE X ce (tC (.ref (cA X.K C0)))) (h : PEM X Wx e me)
    (hp : ∀ {ta : TA}, PA X [e, ce] ta → PE X (.Call (.Name "isinstance" p) [e, ce] [] pos) (tCB (rIsi X.K) ta)) (hs : starEach [e, ce] X.env = (false, eval e X.env) :: starEach [ce] X.env := by rfl) (hs2 : starEach [ce] X.env = (false, eval ce X.env) :: starEach [] X.env := by rfl) :
    PEM X Wx (.Call (.Name "isinstance" p) [e, ce] [] pos) (mUn (dIsC C0 Cs) me) := by
  refine pe_imp (hp (pa_cons h (pa_cons hpe pa_nil hs2) hs)) (isi_imp (.own (cA X.K C0)) fun F H x d z r sub hz => ?_)
  unfold dIsC at hz
  split at hz
  · rename_i t ht
    cases hz
    exact ⟨_, _, dt_b r sub ht, hb t, rfl⟩
  · rename_i C hC'
    split at hz
    · rename_i hm
      subst hm
      cases hz
      refine ⟨_, true, dt_c r sub hC' k0, ?_, rfl⟩
      unfold PySem.W.kitOne
      rw [if_pos (by simp)]
    · split at hz
      · rename_i hm
        cases hz
        obtain ⟨k, q⟩ := hC C hm
        exact ⟨_, _, dt_c r sub hC' k, q, rfl⟩
      · cases hz
  · cases hz
end
/-! ### how many turns are enough -/
def intAt (ρ : List S) (i : Nat) : Nat := match ρ[i]? with
  | some (.dat (.int j)) => j.natAbs
  | _ => 0
def gcdFuel (ρ : List S) (i : Nat) : Nat := intAt ρ i + 2
end L3
set_option Elab.async false
set_option linter.all false
set_option maxRecDepth 100000
set_option maxHeartbeats 4000000
namespace L3
open PySem PySem.Spec PyProof.Rows L2 PySem.W

section
variable {prog : Program} {w : World} {A : Around} {E : Value → Shared → Prop} {s : Shared} {K : Frag} {x C f fr : Addr} {ox : Obj} {od : Option Obj} {op : Operator} {sym nm : String}
theorem slotPy {M : Model} {h : Heap} (X : K.In h) (hs : findIn K (.ref C) (PySem.dunder nm) = some (some (.ref f))) (hr : findIn K (.ref C) (dunderR nm) = some (some (.ref fr))) : Looks M h (numberSlotInPython (.ref C) nm) true := by
  intro A Q E s k q
  unfold numberSlotInPython
  refine wpAny_bind (looks_findIn X hs A _ E s k ?_)
  refine wpAny_bind (wpAny_pure ?_)
  refine wpAny_bind (looks_findIn X hr A _ E s k ?_)
  refine wpAny_bind (wpAny_pure ?_)
  exact wpAny_pure q
/-- what comes back from an own method is no NotImplemented -/
def Back (Q : Value → Shared → Prop) : Value → Shared → Prop := fun v s' => v ≠ .notImplemented ∧ Q v s'
theorem try_fn {name : Str} {b : Value} {Q : Option Value → Shared → Prop} (X : K.In s.heap) (I : InstAt s.heap x ox C od) (hs : findIn K (.ref C) name = some (some (.ref f))) (hf : isFn K (.ref f) = true)
    (h : wpAny (model prog w) A (PySem.call (.ref f) [.ref x, b]) (fun v s' => v ≠ .notImplemented ∧ Q (some v) s') E s) : wpAny (model prog w) A (tryMethod (.ref x) name b) Q E s := by
  unfold tryMethod
  refine wpAny_bind (special_fn X I hs (beq_iff_eq.mp hf) (wpAny_mono h (fun v s' hv => ?_) fun _ _ e => e))
  obtain ⟨hn, hq⟩ := hv
  cases v <;> first | exact absurd rfl hn | exact wpAny_pure hq
/-- a op b, a an instance, b of a built-in type -/
theorem bin_left {b : Value} {T : String} {rb : Bool} {tk : Option Value} {Q : Value → Shared → Prop} (hi : op.info = (sym, nm)) (X : K.In s.heap) (I : InstAt s.heap x ox C od) (hc : selfFirst K C = true)
    (hs : findIn K (.ref C) (PySem.dunder nm) = some (some (.ref f))) (hr : findIn K (.ref C) (dunderR nm) = some (some (.ref fr))) (hf : isFn K (.ref f) = true)
    (hb : Looks (model prog w) s.heap (typeOf b) (.type T)) (hfill : fillsNumberSlot (.type T) nm = pure rb) (hsub : Looks (model prog w) s.heap (isSubtype (.type T) (.ref C)) false) (hl : typeLookup (.type T) (dunderR nm) = pure tk)
    (h : wpAny (model prog w) A (PySem.call (.ref f) [.ref x, b]) (Back Q) E s) : wpAny (model prog w) A (binaryOp op (.ref x) b) Q E s := by
  obtain ⟨cd, hcd, hm⟩ := any_some hc
  obtain ⟨rest, hm⟩ : ∃ rest, cd.mro = .ref C :: rest := by
    cases q : cd.mro with
    | nil => rw [q] at hm; cases hm
    | cons a r => rw [q] at hm; exact ⟨r, by rw [List.head?_cons] at hm; cases (beq_iff_eq.mp hm); rfl⟩
  unfold binaryOp
  refine wpAny_holding ?_
  rw [hi]
  refine wpAny_bind ?_
  unfold binaryOp1
  refine wpAny_bind (I.type.here (wpAny_bind (hb.here (wpAny_bind ((fills_K X hcd hm hs).here ?_)))))
  have e1 : ((Value.ref C) == (Value.type T)) = false := rfl
  simp only [e1, Bool.false_eq_true, if_false, hfill]
  refine wpAny_bind (wpAny_pure ?_)
  cases rb with
  | false =>
    simp only [Bool.and_false, Bool.false_eq_true, if_false, Bool.false_and]
    refine wpAny_bind (wpAny_pure ?_)
    simp only [Bool.false_eq_true, if_false]
    refine wpAny_bind (try_fn X I hs hf (wpAny_mono h (fun v s' hv => ⟨hv.1, ?_⟩) fun _ _ e => e))
    exact wpAny_pure (wpAny_pure hv.2)
  | true =>
    simp only [Bool.and_true, if_true]
    refine wpAny_bind (hsub.here ?_)
    simp only [Bool.false_eq_true, if_false, Bool.not_false, Bool.and_true, if_true]
    refine wpAny_bind ((slotPy X hs hr).here ?_)
    simp only [if_true]
    refine wpAny_bind (wpAny_pure ?_)
    simp only [Bool.not_false, if_true, hl]
    refine wpAny_bind (wpAny_pure ?_)
    refine wpAny_bind (try_fn X I hs hf (wpAny_mono h (fun v s' hv => ⟨hv.1, ?_⟩) fun _ _ e => e))
    exact wpAny_pure (wpAny_pure hv.2)
/-- a op b, b an instance, a of a built-in type that declines -/
theorem bin_right {a : Value} {T : String} {lb : Bool} {Q : Value → Shared → Prop} (hi : op.info = (sym, nm)) (X : K.In s.heap) (I : InstAt s.heap x ox C od) (hc : selfFirst K C = true)
    (hs : findIn K (.ref C) (PySem.dunder nm) = some (some (.ref f))) (hr : findIn K (.ref C) (dunderR nm) = some (some (.ref fr))) (hf : isFn K (.ref fr) = true)
    (ha : Looks (model prog w) s.heap (typeOf a) (.type T)) (hfill : fillsNumberSlot (.type T) nm = pure lb) (hsub : Looks (model prog w) s.heap (isSubtype (.ref C) (.type T)) false)
    (htry : lb = true → ∀ Q' : Option Value → Shared → Prop, Q' none s → wpAny (model prog w) A (tryMethod a (PySem.dunder nm) (.ref x)) Q' E s)
    (h : wpAny (model prog w) A (PySem.call (.ref fr) [.ref x, a]) (Back Q) E s) : wpAny (model prog w) A (binaryOp op a (.ref x)) Q E s := by
  obtain ⟨cd, hcd, hm⟩ := any_some hc
  obtain ⟨rest, hm⟩ : ∃ rest, cd.mro = .ref C :: rest := by
    cases q : cd.mro with
    | nil => rw [q] at hm; cases hm
    | cons a r => rw [q] at hm; exact ⟨r, by rw [List.head?_cons] at hm; cases (beq_iff_eq.mp hm); rfl⟩
  unfold binaryOp
  refine wpAny_holding ?_
  rw [hi]
  refine wpAny_bind ?_
  unfold binaryOp1
  refine wpAny_bind (ha.here (wpAny_bind (I.type.here ?_)))
  rw [hfill]
  refine wpAny_bind (wpAny_pure ?_)
  have e1 : ((Value.type T) == (Value.ref C)) = false := rfl
  simp only [e1, Bool.false_eq_true, if_false]
  refine wpAny_bind ((fills_K X hcd hm hs).here ?_)
  have fin : wpAny (model prog w) A (tryMethod (.ref x) (dunderR nm) a) (fun o s' => ∃ v, o = some v ∧ Q v s') E s :=
    try_fn X I hr hf (wpAny_mono h (fun v s' hv => ⟨hv.1, v, rfl, hv.2⟩) fun _ _ e => e)
  cases lb with
  | false =>
    simp only [Bool.false_and, Bool.false_eq_true, if_false, Bool.and_true]
    refine wpAny_bind (wpAny_pure ?_)
    simp only [Bool.false_eq_true, if_false, Bool.not_false, Bool.and_true, if_true]
    refine wpAny_bind (wpAny_mono fin (fun o s' ho => ?_) fun _ _ e => e)
    obtain ⟨v, rfl, hq⟩ := ho
    exact wpAny_bind (wpAny_rule (wpAny_pure (wpAny_pure hq)))
  | true =>
    simp only [Bool.and_true, if_true]
    refine wpAny_bind (hsub.here ?_)
    simp only [Bool.false_eq_true, if_false, Bool.not_false, Bool.and_true, if_true]
    refine wpAny_bind (wpAny_pure ?_)
    simp only [Bool.false_eq_true, if_false]
    refine wpAny_bind (htry rfl _ ?_)
    dsimp only
    refine wpAny_bind (wpAny_mono fin (fun o s' ho => ?_) fun _ _ e => e)
    obtain ⟨v, rfl, hq⟩ := ho
    exact wpAny_bind (wpAny_rule (wpAny_pure (wpAny_pure hq)))
/-- an int's own method declines an instance -/
theorem intBin_try {M : Model} {name : String} {g : Int → Int → Sem Fin} {i : Int} {t : Tok} {dx : Addr} {Q' : Option Value → Shared → Prop} (hx : s.heap.get? x = some (instObj C dx)) (h : Q' none s) :
    wpAny M A (Builtin.Int.intBinary name g false ⟨[.int i t, .ref x], []⟩) (fun fin s' => ∃ v, fin = .done (.ret v) ∧ v = Value.notImplemented ∧ Q' none s') E s := by
  unfold Builtin.Int.intBinary
  refine wpAny_bind (wpAny_of_eq (show slotArgs name 1 ⟨[.int i t, .ref x], []⟩ = pure (.int i t, [.ref x]) from rfl) ?_)
  refine wpAny_bind (wpAny_of_eq (show Builtin.Int.intOfSelf (.int i t) = pure i from rfl) ?_)
  refine wpAny_bind (wpAny_bind (wpAny_load hx ?_))
  refine wpAny_pure ?_
  exact wpAny_bind (wpAny_rule (wpAny_pure ⟨_, rfl, rfl, h⟩))
theorem int_add_call {i : Int} {t : Tok} {dx : Addr} {Q' : Option Value → Shared → Prop} (hx : s.heap.get? x = some (instObj C dx)) (h : Q' none s) : wpAny (model prog w) A (PySem.call (.builtin "int.__add__") [.int i t, .ref x]) (fun v s' => v = .notImplemented ∧ Q' none s') E s := by
  have q : wpAny (model prog w) A.in1 (Builtin.«int.__add__» ⟨[.int i t, .ref x], []⟩) (fun fin s' => ∃ v, fin = .done (.ret v) ∧ v = Value.notImplemented ∧ Q' none s') E s := intBin_try hx h
  exact wpAny_call_entry PySem.F.slot_int_add (typeIs_int s i t) PySem.F.entry_int_add q (PySem.F.args_int_add_2 _ _)
theorem int_add_try {i : Int} {t : Tok} {dx : Addr} (hx : s.heap.get? x = some (instObj C dx)) (Q' : Option Value → Shared → Prop) (h : Q' none s) : wpAny (model prog w) A (tryMethod (.int i t) (PySem.dunder "add") (.ref x)) Q' E s := by
  have q := int_add_call (prog := prog) (w := w) (A := A) (E := E) (i := i) (t := t) (Q' := Q') hx h
  exact wpAny_tryMethod_declines (name := PySem.dunder "add") (id := "int.__add__") (typeIs_int s i t) PySem.F.slot_int_add q
theorem int_sub_call {i : Int} {t : Tok} {dx : Addr} {Q' : Option Value → Shared → Prop} (hx : s.heap.get? x = some (instObj C dx)) (h : Q' none s) : wpAny (model prog w) A (PySem.call (.builtin "int.__sub__") [.int i t, .ref x]) (fun v s' => v = .notImplemented ∧ Q' none s') E s := by
  have q : wpAny (model prog w) A.in1 (Builtin.«int.__sub__» ⟨[.int i t, .ref x], []⟩) (fun fin s' => ∃ v, fin = .done (.ret v) ∧ v = Value.notImplemented ∧ Q' none s') E s := intBin_try hx h
  exact wpAny_call_entry PySem.F.slot_int_sub (typeIs_int s i t) PySem.F.entry_int_sub q (PySem.F.args_int_sub_2 _ _)
theorem int_sub_try {i : Int} {t : Tok} {dx : Addr} (hx : s.heap.get? x = some (instObj C dx)) (Q' : Option Value → Shared → Prop) (h : Q' none s) : wpAny (model prog w) A (tryMethod (.int i t) (PySem.dunder "sub") (.ref x)) Q' E s := by
  have q := int_sub_call (prog := prog) (w := w) (A := A) (E := E) (i := i) (t := t) (Q' := Q') hx h
  exact wpAny_tryMethod_declines (name := PySem.dunder "sub") (id := "int.__sub__") (typeIs_int s i t) PySem.F.slot_int_sub q
theorem int_mul_call {i : Int} {t : Tok} {dx : Addr} {Q' : Option Value → Shared → Prop} (hx : s.heap.get? x = some (instObj C dx)) (h : Q' none s) : wpAny (model prog w) A (PySem.call (.builtin "int.__mul__") [.int i t, .ref x]) (fun v s' => v = .notImplemented ∧ Q' none s') E s := by
  have q : wpAny (model prog w) A.in1 (Builtin.«int.__mul__» ⟨[.int i t, .ref x], []⟩) (fun fin s' => ∃ v, fin = .done (.ret v) ∧ v = Value.notImplemented ∧ Q' none s') E s := intBin_try hx h
  exact wpAny_call_entry PySem.F.slot_int_mul (typeIs_int s i t) PySem.F.entry_int_mul q (PySem.F.args_int_mul_2 _ _)
theorem int_mul_try {i : Int} {t : Tok} {dx : Addr} (hx : s.heap.get? x = some (instObj C dx)) (Q' : Option Value → Shared → Prop) (h : Q' none s) : wpAny (model prog w) A (tryMethod (.int i t) (PySem.dunder "mul") (.ref x)) Q' E s := by
  have q := int_mul_call (prog := prog) (w := w) (A := A) (E := E) (i := i) (t := t) (Q' := Q') hx h
  exact wpAny_tryMethod_declines (name := PySem.dunder "mul") (id := "int.__mul__") (typeIs_int s i t) PySem.F.slot_int_mul q
end
end L3
set_option Elab.async false
set_option linter.all false
set_option maxRecDepth 100000
set_option maxHeartbeats 4000000
namespace L3
open PySem PySem.Spec PyProof.Rows L2

/-! ### operators of own classes -/
section
variable {K : PySem.W.Frag} {c : Ctx} {F F' : Hp} {ρ : List S} {σ : L2.St} {H H' : Hp}
theorem repG_of {vs : List V} {ds : List D} (r : RepL K F vs ds) : RepG K F σ vs (ds.map Ag.d) := by
  induction ds generalizing vs with
  | nil => cases r; exact .nil
  | cons d ds ih => cases r with | cons r1 r2 => exact .d r1 (ih r2)
theorem slots_d : ∀ ds : List D, slotsOf (ds.map Ag.d) = []
  | [] => rfl
  | _ :: ds => slots_d ds
theorem conts_d (ρ : List S) : ∀ ds : List D, contents ρ (ds.map Ag.d) = some (ds.map S.dat)
  | [] => rfl
  | d :: ds => by
    show (match content ρ (.d d), contents ρ (ds.map Ag.d) with
      | some s, some ss => some (s :: ss)
      | _, _ => none) = _
    rw [conts_d ρ ds]
    rfl
theorem wback_d (ρ : List S) : ∀ ds : List D, wback (ds.map Ag.d) (ds.map fun _ => S.dead) ρ = some ρ
  | [] => rfl
  | _ :: ds => wback_d ρ ds
/-- behind a call with data alone -/
theorem W.callD {vs : List V} {ds : List D} {ss' : List S} (w : W K c F ρ σ H) (r : RepL K F vs ds) (ret : Ret K F H vs (ds.map S.dat) F' H' ss') : W K c F' ρ σ H' := by
  refine w.call (dvs := []) (dds := []) (gs := ds.map Ag.d) (ss := ds.map S.dat) (ss' := ds.map fun _ => S.dead) (vs := vs) (repG_of r) (by rw [slots_d]; exact List.nodup_nil) (conts_d ρ ds) ?_ (wback_d ρ ds)
  rw [List.append_nil, List.map_nil, List.append_nil]
  refine ⟨ret.sub, ret.ext, ret.frm, ret.new, ret.dom, fun i o hi => ?_⟩
  rw [List.getElem?_map] at hi
  cases e : ds[i]? with
  | none => rw [e] at hi; cases hi
  | some d => rw [e] at hi; cases hi
theorem argS_d {vs : List V} {ds : List D} (r : RepL K F vs ds) : ArgS K F H vs (ds.map S.dat) := by
  refine ⟨by rw [List.length_map, r.len], fun i s hs => ?_, fun i j o o' a h1 _ _ _ => ?_⟩
  · rw [List.getElem?_map] at hs
    cases e : ds[i]? with
    | none => rw [e] at hs; cases hs
    | some d =>
      rw [e] at hs
      cases hs
      exact r.get' e
  · rw [List.getElem?_map] at h1
    cases e : ds[i]? with
    | none => rw [e] at h1; cases h1
    | some d => rw [e] at h1; cases h1
end
/-- a def called with data that gives data, or raises -/
def callD (g : G) (ds : List D) : M D := fun ρ => match g (ds.map S.dat) with
  | some (.ok (.dat z), _) => some (.ok z, ρ)
  | some (.ex x, _) => some (.ex x, ρ)
  | _ => none
theorem callD_sim {K : PySem.W.Frag} {Wx : WX} {c : Ctx} {F : Hp} {ρ ρ' : List S} {σ : L2.St} {H : Hp} {g : G} {ds : List D} {vs : List V} {r : R D} {P : D → Hp → Hp → Prop} {Q : VK} {n : Nat} (w : W K c F ρ σ H) (rl : RepL K F vs ds) (hn : ds.length = n) (h : callD g ds ρ = some (r, ρ'))
    (post : PostR K Wx c F ρ' σ P r) (hQ : ∀ d F' H' v, Rep K F' v d → P d F' H' → Q v H') : spG K n g vs H Q (fun cls d H' => Wx cls d σ H') := by
  unfold callD at h
  split at h
  · rename_i z ss' hg
    cases h
    exact ⟨by rw [rl.len]; exact hn, F, ds.map S.dat, _, ss', w.sub, argS_d rl, hg, fun F' v H' ret rv => hQ z F' H' v rv (post F' H' ret.ext (w.callD rl ret))⟩
  · rename_i x ss' hg
    cases h
    exact ⟨by rw [rl.len]; exact hn, F, ds.map S.dat, _, ss', w.sub, argS_d rl, hg, fun F' d H' ret rx => post F' d H' ret.ext (w.callD rl ret) rx⟩
  · cases h

/-! binary -/
def opI (C : Addr) (prim : D → D → Option D) (gf gr : G) (x y : D) : M D := match x, y with
  | .ins C' fs, .ins C'' fs' => if C' = C ∧ C'' = C then callD gf [.ins C' fs, .ins C'' fs'] else fun _ => none
  | .ins C' fs, .int j => if C' = C then callD gf [.ins C' fs, .int j] else fun _ => none
  | .int i, .ins C' fs => if C' = C then callD gr [.ins C' fs, .int i] else fun _ => none
  | x, y => M.lift (prim x y)
def mOpI (C : Addr) (prim : D → D → Option D) (gf gr : G) (a b : M D) : M D := a.bind fun x => b.bind fun y => opI C prim gf gr x y
structure BinC (K : PySem.W.Frag) (C : Addr) (nm : String) (f fr : Addr) : Prop where
  first : PySem.W.selfFirst K C = true
  at_ : PySem.W.findIn K (.ref C) (PySem.dunder nm) = some (some (.ref f))
  ref_ : PySem.W.findIn K (.ref C) (dunderR nm) = some (some (.ref fr))
  fn : PySem.W.isFn K (.ref f) = true
  fnr : PySem.W.isFn K (.ref fr) = true
  sub : PySem.W.subIn K (.ref C) (.type "int") = some false
  kit : PySem.W.kitOne K (.type "int") (.ref C) = some false
theorem kit_sub {K : PySem.W.Frag} {M : Model} {h : Heap} {T : String} {C : Addr} (X : K.In h) (e : PySem.W.kitOne K (.type T) (.ref C) = some false) : PySem.W.Looks M h (isSubtype (.type T) (.ref C)) false := by
  unfold PySem.W.kitOne at e
  have e0 : (Value.type T == Value.ref C) = false := rfl
  rw [e0, if_neg Bool.false_ne_true] at e
  exact (PySem.W.kit_cls X e).2.2
def tOpS (r : L2.St → R2) (ta tb : TE) : TE := fun σ H Q => ta σ H fun x H1 => tb σ H1 fun y H2 => r σ x y H2 Q
/-- what an operator with own instances asks: the callee's promise, by the kinds -/
def rOpI (C : Addr) (r0 : R2) (sf sr : Sp) (Wx : WX) : L2.St → R2 := fun σ x y H Q =>
  (∃ a dx fs, x = V.ref a ∧ H a = some (.ins C dx fs) ∧ ((∃ b dx' fs', y = V.ref b ∧ H b = some (.ins C dx' fs')) ∨ ∃ j, y = V.int j) ∧ sf [x, y] H Q (fun cls d H' => Wx cls d σ H')) ∨
  (∃ i b dx fs, x = V.int i ∧ y = V.ref b ∧ H b = some (.ins C dx fs) ∧ sr [y, x] H Q (fun cls d H' => Wx cls d σ H')) ∨ r0 x y H Q
section
variable {X : Cx} {Wx : WX} {C f fr : Addr} {fd fdr : FuncData} {ps psr : List Str} {k k' : Nat} {a b : Expr} {ma mb : M D} {pos : Pos} {nm sym : String} {op : Operator} {r0 : R2} {sf sr : Sp}
theorem ep_back {pins : List (Addr × Obj)} {σ : L2.St} {Q : VK} {v : Value} {s : Shared} (h : EP X pins σ Q v s) : v ≠ .notImplemented ∧ EP X pins σ Q v s := by
  refine ⟨fun z => ?_, h⟩
  obtain ⟨x, _, _, r, _⟩ := h
  subst z
  cases x with
  | non => cases r
  | bl b => cases r
  | int i => obtain ⟨_, r⟩ := r; cases r
  | str i => obtain ⟨_, r⟩ := r; cases r
  | byt i => obtain ⟨_, r⟩ := r; cases r
  | flt i => obtain ⟨_, r⟩ := r; cases r
  | ref a => cases r
  | ty n => cases r
theorem op_own (hi : op.info = (sym, nm)) (B : BinC X.K C nm f fr) (Fn : FnG X.prog X.w X.K X.mg X.base k f fd ps sf) (Fr_ : FnG X.prog X.w X.K X.mg X.base k' fr fdr psr sr) (hG : X.A.guards = some []) (hr : Room k X.A) (hr' : Room k' X.A) (hb : Binds X.K fd ps []) (hb' : Binds X.K fdr psr []) (tk : Takes X Wx)
    (htry : ∀ (A : Around) (E : Value → Shared → Prop) (s : Shared) (x dx : Addr) (i : Int) (t : Tok), s.heap.get? x = some (PySem.W.instObj C dx) → ∀ Q' : Option Value → Shared → Prop, Q' none s → wpAny (model X.prog X.w) A (tryMethod (.int i t) (PySem.dunder nm) (.ref x)) Q' E s)
    (hfi : fillsNumberSlot (.type "int") nm = pure true) {tkk : Option Value} (hli : typeLookup (.type "int") (dunderR nm) = pure tkk) (h0 : OpR X (binaryOp op) r0) {ta tb : TE} (ha : PE X a ta) (hb2 : PE X b tb) : PE X (.BinOp a op b pos) (tOpS (rOpI C r0 sf sr Wx) ta tb) := by
  constructor
  intro pins s σ H Q I h
  apply wpAny_BinOp
  refine binT ha hb2 I h fun v u s2 x y H2 I2 rx ry q => ?_
  have KX := I2.kIn
  rcases q with ⟨p, dx, fs, rfl, hp, hy, q⟩ | ⟨i, p, dx, fs, rfl, rfl, hp, q⟩ | q
  · obtain rfl : v = Value.ref p := rx
    obtain ⟨mA, O, _, _, _, _⟩ := ins_get I2.hok hp
    obtain ⟨od, J, _⟩ := O.look
    have cl := run_fng (vs := [V.ref p, y]) (us := [.ref p, u]) (dvs := []) (ds := []) Fn hG hr hb .nil tk I2 (.cons rfl (.cons ry .nil)) q
    have cl2 := wpAny_mono cl (fun v s' hv => ep_back hv) fun _ _ e => e
    rcases hy with ⟨p', dx', fs', rfl, hp'⟩ | ⟨j, rfl⟩
    · obtain rfl : u = Value.ref p' := ry
      obtain ⟨mA', O', _, _, _, _⟩ := ins_get I2.hok hp'
      obtain ⟨od', J', _⟩ := O'.look
      obtain ⟨m, F⟩ := I2.fr
      refine PySem.W.binop_K F I2.ok.mod.kin J J'.type B.first (by rw [hi]; exact B.at_) B.fn (wpAny_mono cl2 (fun v s' hv => ?_) fun _ _ e => e)
      obtain ⟨hn, hv⟩ := hv
      cases v <;> first | exact absurd rfl hn | exact hv
    · obtain ⟨t, rfl⟩ := ry
      exact bin_left hi KX J B.first B.at_ B.ref_ B.fn (PySem.W.Looks.of_pure rfl) hfi (kit_sub KX B.kit) hli cl2
  · obtain ⟨t, rfl⟩ := rx
    obtain rfl : u = Value.ref p := ry
    obtain ⟨mA, O, _, _, _, _⟩ := ins_get I2.hok hp
    obtain ⟨od, J, _⟩ := O.look
    have cl := run_fng (vs := [V.ref p, V.int i]) (us := [.ref p, .int i t]) (dvs := []) (ds := []) Fr_ hG hr' hb' .nil tk I2 (.cons rfl (.cons ⟨t, rfl⟩ .nil)) q
    have cl2 := wpAny_mono cl (fun v s' hv => ep_back hv) fun _ _ e => e
    obtain ⟨_, _, _, hget, _⟩ := (show ObjOk X.prog X.w H2 s2.heap p (.ins C dx fs) from I2.hok p _ hp)
    exact bin_right hi KX J B.first B.at_ B.ref_ B.fnr (PySem.W.Looks.of_pure rfl) hfi (PySem.W.looks_subIn KX B.sub) (fun _ Q' hq => htry _ _ _ p dx i t hget Q' hq) cl2
  · exact h0 pins s2 σ H2 x y v u Q I2 rx ry q
theorem opI_imp {K : PySem.W.Frag} {g : D → D → Option D} {gf gr : G} (hs : Op2 K r0 g) (σ : L2.St) (H : Hp) (Q : VK) (h : tE K Wx (mOpI C g gf gr ma mb) σ H Q) : tOpS (rOpI (cA K C) r0 (spG K 2 gf) (spG K 2 gr) Wx) (tE K Wx ma) (tE K Wx mb) σ H Q := by
  obtain ⟨c, F, ρ, rr, ρ', w, hm, post⟩ := h
  rcases bind_inv hm with ⟨x, ρ1, h1, h2⟩ | ⟨x, h1, rfl⟩
  · refine ⟨c, F, ρ, .ok x, ρ1, w, h1, fun F1 H1 e1 w1 v1 r1 => ?_⟩
    rcases bind_inv h2 with ⟨y, ρ2, h3, h4⟩ | ⟨x, h3, rfl⟩
    · refine ⟨c, F1, ρ1, .ok y, ρ2, w1, h3, fun F2 H2 e2 w2 v2 r2 => ?_⟩
      have r1' := r1.mono e2
      have post2 := post.mono (e1.trans e2)
      have prim : M.lift (g x y) ρ2 = some (rr, ρ') → rOpI (cA K C) r0 (spG K 2 gf) (spG K 2 gr) Wx σ v1 v2 H2 Q := fun h5 => by
        obtain ⟨z, hz, rfl, rfl⟩ := lift_inv h5
        exact .inr (.inr (hs F2 H2 v1 v2 x y z Q r1' r2 w2.sub hz fun F3 v H3 g r3 => post2 F3 H3 g.1 (g.2 _ _ _ w2) v r3))
      unfold opI at h4
      split at h4
      · rename_i C' fs C'' fs'
        split at h4
        · rename_i hc
          obtain ⟨rfl, rfl⟩ := hc
          have q := callD_sim (n := 2) (Q := Q) w2 (.cons r1' (.cons r2 .nil)) rfl h4 post2 fun d F' H' v rv p => p v rv
          cases r1' with
          | ins ha hra =>
            cases r2 with
            | ins hb hrb => exact .inl ⟨_, _, _, rfl, w2.sub _ _ ha, .inl ⟨_, _, _, rfl, w2.sub _ _ hb⟩, q⟩
        · cases h4
      · rename_i C' fs j
        split at h4
        · rename_i hc
          subst hc
          have q := callD_sim (n := 2) (Q := Q) w2 (.cons r1' (.cons r2 .nil)) rfl h4 post2 fun d F' H' v rv p => p v rv
          cases r1' with
          | ins ha hra =>
            cases r2
            exact .inl ⟨_, _, _, rfl, w2.sub _ _ ha, .inr ⟨_, rfl⟩, q⟩
        · cases h4
      · rename_i i C' fs
        split at h4
        · rename_i hc
          subst hc
          have q := callD_sim (n := 2) (Q := Q) w2 (.cons r2 (.cons r1' .nil)) rfl h4 post2 fun d F' H' v rv p => p v rv
          cases r2 with
          | ins ha hra =>
            cases r1'
            exact .inr (.inl ⟨_, _, _, _, rfl, rfl, w2.sub _ _ ha, q⟩)
        · cases h4
      · exact prim h4
    · exact ⟨c, F1, ρ1, .ex x, ρ', w1, h3, PostX.mono e1 post⟩
  · exact ⟨c, F, ρ, .ex x, ρ', w, h1, post⟩
theorem pem_opI {g : D → D → Option D} {gf gr : G} (hp : ∀ {ta tb : TE}, PE X a ta → PE X b tb → PE X (.BinOp a op b pos) (tOpS (rOpI (cA X.K C) r0 (spG X.K 2 gf) (spG X.K 2 gr) Wx) ta tb)) (hs : Op2 X.K r0 g) (ha : PEM X Wx a ma) (hb : PEM X Wx b mb) : PEM X Wx (.BinOp a op b pos) (mOpI C g gf gr ma mb) :=
  pe_imp (hp ha hb) (opI_imp hs)
end
theorem info_add : (Operator.Add).info = ("+", "add") := rfl
theorem info_sub : (Operator.Sub).info = ("-", "sub") := rfl
theorem info_mul : (Operator.Mult).info = ("*", "mul") := rfl
theorem look_radd : typeLookup (.type "int") (dunderR "add") = pure (some (.builtin "int.__radd__")) := by rw [typeLookup_type, builtinLookup_eq_fast]; kernel_rfl
theorem look_rsub : typeLookup (.type "int") (dunderR "sub") = pure (some (.builtin "int.__rsub__")) := by rw [typeLookup_type, builtinLookup_eq_fast]; kernel_rfl
theorem look_rmul : typeLookup (.type "int") (dunderR "mul") = pure (some (.builtin "int.__rmul__")) := by rw [typeLookup_type, builtinLookup_eq_fast]; kernel_rfl
end L3
set_option Elab.async false
set_option linter.all false
set_option maxRecDepth 100000
set_option maxHeartbeats 4000000
namespace L3
open PySem PySem.Spec PyProof.Rows L2

section
variable {X : Cx} {Wx : WX} {k : Nat} {f C : Addr} {fd : FuncData} {ps : List Str} {sp : Sp}
/-- a def that runs within built-ins -/
theorem run_at {A' : Around} {pins : List (Addr × Obj)} {σ : L2.St} {H : Hp} {s : Shared} {Q : VK} {us : List Value} {vs : List V} (Fn : FnG X.prog X.w X.K X.mg X.base k f fd ps sp) (hG : A'.guards = some []) (hr : Room k A') (e0 : Env0 X.prog X.w X.K X.mg X.base A' X.stack s H)
    (hb : Binds X.K fd ps []) (tk : Takes X Wx) (I : Inv X pins σ H s) (rv : Vals vs us) (h : sp vs H Q (fun cls d H' => Wx cls d σ H')) :
    wpAny (model X.prog X.w) A' (PySem.call (.ref f) us) (EP X pins σ Q) X.xe s := by
  have hl : (us ++ []).length = ps.length := by rw [List.append_nil]; exact rv.length.symm.trans (Fn.len _ _ _ _ h)
  apply wpAny_call
  have b := hb s us I.kIn hl
  rw [List.append_nil] at b
  apply codeAny_mono (Fn.run A' X.stack s H ⟨us, []⟩ us vs Q _ hG hr e0 b rv h)
  intro r s' hq
  match r, hq with
  | .error e, hq => exact passAt tk σ pins H s e s' I hq
  | .ok (.ret u), hq => exact I.after hq
  | .ok .next, hq => exact False.elim hq
  | .ok .brk, hq => exact False.elim hq
  | .ok .cont, hq => exact False.elim hq
end
def tUnS (r : L2.St → V → Hp → VK → Prop) (ta : TE) : TE := fun σ H Q => ta σ H fun x H1 => r σ x H1 Q
def rUnI (C : Addr) (r0 : V → Hp → VK → Prop) (sf : Sp) (Wx : WX) : L2.St → V → Hp → VK → Prop := fun σ x H Q =>
  (∃ a dx fs, x = V.ref a ∧ H a = some (.ins C dx fs) ∧ sf [x] H Q (fun cls d H' => Wx cls d σ H')) ∨ r0 x H Q
def unI (C : Addr) (prim : D → Option D) (g : G) (x : D) : M D := match x with
  | .ins C' fs => if C' = C then callD g [.ins C' fs] else fun _ => none
  | x => M.lift (prim x)
def mUnI (C : Addr) (prim : D → Option D) (g : G) (a : M D) : M D := a.bind fun x => unI C prim g x
section
variable {X : Cx} {Wx : WX} {C f : Addr} {fd : FuncData} {ps : List Str} {k : Nat} {a e : Expr} {ma : M D} {pos p : Pos} {sf : Sp}
theorem unI_imp {K : PySem.W.Frag} {r0 : V → Hp → VK → Prop} {g0 : D → Option D} {g : G} (hs : Op1 K r0 g0) (σ : L2.St) (H : Hp) (Q : VK) (h : tE K Wx (mUnI C g0 g ma) σ H Q) : tUnS (rUnI (cA K C) r0 (spG K 1 g) Wx) (tE K Wx ma) σ H Q := by
  obtain ⟨c, F, ρ, rr, ρ', w, hm, post⟩ := h
  rcases bind_inv hm with ⟨x, ρ1, h1, h2⟩ | ⟨x, h1, rfl⟩
  · refine ⟨c, F, ρ, .ok x, ρ1, w, h1, fun F1 H1 e1 w1 v1 r1 => ?_⟩
    have post2 := post.mono e1
    unfold unI at h2
    split at h2
    · rename_i C' fs
      split at h2
      · rename_i hc
        subst hc
        have q := callD_sim (n := 1) (Q := Q) w1 (.cons r1 .nil) rfl h2 post2 fun d F' H' v rv p => p v rv
        cases r1 with
        | ins ha hra => exact .inl ⟨_, _, _, rfl, w1.sub _ _ ha, q⟩
      · cases h2
    · obtain ⟨z, hz, rfl, rfl⟩ := lift_inv h2
      exact .inr (hs F1 H1 v1 _ z Q r1 w1.sub hz fun F3 v H3 g r3 => post2 F3 H3 g.1 (g.2 _ _ _ w1) v r3)
  · exact ⟨c, F, ρ, .ex x, ρ', w, h1, post⟩
/-- -x -/
theorem pe_negI {r0 : V → Hp → VK → Prop} (h0 : UnR X (unaryOp .USub) r0) (hs : PySem.W.findIn X.K (.ref C) "__neg__" = some (some (.ref f))) (hf : PySem.W.isFn X.K (.ref f) = true) (Fn : FnG X.prog X.w X.K X.mg X.base k f fd ps sf) (hG : X.A.guards = some []) (hr : Room k X.A) (hb : Binds X.K fd ps []) (tk : Takes X Wx)
    {ta : TE} (ha : PE X a ta) : PE X (.UnaryOp .USub a pos) (tUnS (rUnI C r0 sf Wx) ta) := by
  constructor
  intro pins s σ H Q I h
  apply UnaryOp_
  refine thn (ha.run pins s σ H _ I h) ?_
  intro v s1 hh
  obtain ⟨x, H1, I1, r1, q1⟩ := hh
  rcases q1 with ⟨p, dx, fs, rfl, hp, q⟩ | q
  · obtain rfl : v = Value.ref p := r1
    obtain ⟨mA, O, _, _, _, _⟩ := ins_get I1.hok hp
    obtain ⟨od, J, _⟩ := O.look
    obtain ⟨m, F⟩ := I1.fr
    exact PySem.W.ksp_neg F I1.ok.mod.kin J hs hf (run_at (vs := [V.ref p]) Fn hG hr I1.env0 hb tk I1 (.cons rfl .nil) q)
  · exact h0 pins s1 σ H1 x v Q I1 r1 q
theorem pem_negI {g0 : D → Option D} {g : G} {r0 : V → Hp → VK → Prop} (hp : ∀ {ta : TE}, PE X a ta → PE X e (tUnS (rUnI (cA X.K C) r0 (spG X.K 1 g) Wx) ta)) (hs : Op1 X.K r0 g0) (ha : PEM X Wx a ma) : PEM X Wx e (mUnI C g0 g ma) :=
  pe_imp (hp ha) (unI_imp hs)
/-- abs(x), str(x): a call of a built-in with one argument -/
def rCallI (C : Addr) (r0 : List V → Hp → VK → Prop) (sf : Sp) (Wx : WX) : L2.St → List V → Hp → VK → Prop := fun σ xs H Q =>
  (∃ a dx fs, xs = [V.ref a] ∧ H a = some (.ins C dx fs) ∧ sf xs H Q (fun cls d H' => Wx cls d σ H')) ∨ r0 xs H Q
def tCBS (r : L2.St → List V → Hp → VK → Prop) (t : TA) : TE := fun σ H Q => t σ H fun vs H1 => r σ vs H1 Q
theorem abs_K {prog : Program} {w : World} {A : Around} {E : Value → Shared → Prop} {s : Shared} {K : PySem.W.Frag} {x : Addr} {ox : Obj} {od : Option Obj} {Q : Value → Shared → Prop} (KX : K.In s.heap) (I : PySem.W.InstAt s.heap x ox C od) (hs : PySem.W.findIn K (.ref C) "__abs__" = some (some (.ref f))) (hf : PySem.W.isFn K (.ref f) = true)
    (h : wpAny (model prog w) A.in1 (PySem.call (.ref f) [.ref x]) Q E s) : wpAny (model prog w) A (PySem.call (.builtin "abs") [.ref x]) Q E s := by
  refine PySem.Calls.call_function_entry kind_abs plain_abs entry_abs (args_abs _) ?_
  unfold Builtin.«abs»
  refine wpAny_bind (m := oneArg "abs" _) (wpAny_pure ?_)
  refine wpAny_bind (m := callSpecial? (.ref x) (Str.ofString "__abs__")) (PySem.W.special_fn KX I hs (beq_iff_eq.mp hf) (wpAny_mono h (fun v s' z => ?_) fun _ _ z => z))
  exact wpAny_pure ⟨_, rfl, z⟩
def CallS (X : Cx) (f : Value) (r : L2.St → List V → Hp → VK → Prop) : Prop :=
  ∀ (pins : List (Addr × Obj)) (s : Shared) (σ : L2.St) (H : Hp) (xs : List V) (us : List Value) (Q : VK), Inv X pins σ H s → Vals xs us → r σ xs H Q → wpAny (model X.prog X.w) X.A (PySem.call f us) (EP X pins σ Q) X.xe s
theorem pe_cbS {id : String} {es : List Expr} {x : Str} {r : L2.St → List V → Hp → VK → Prop} {t : TA} (hc : CallS X (.builtin id) r) (hg : Gl X x) (hm : X.mg x = none) (hv : bootBuiltins x = some (.builtin id)) (ha : PA X (a :: es) t) (hn : x ≠ "__name__" := by decide) (hdb : (x == ("__debug__" : Str)) = false := by decide)
    (he : starEach (a :: es) X.env = (false, eval a X.env) :: starEach es X.env := by rfl) (hpl : (backTo pos (starEach es X.env)).any (·.1) = false := by rfl) : PE X (.Call (.Name x p) (a :: es) [] pos) (tCBS r t) := by
  constructor
  intro pins s σ H Q I h
  apply wpAny_Call_Name_kw
  apply ld_blt I hg hm hv (hn := hn) (hd := hdb)
  refine PyProof.Rows.callWith_builtin1 (thn (ha.run pos pins s σ H _ I h) ?_) he hpl
  intro us s1 hh
  obtain ⟨vs, H1, I1, r1, q1⟩ := hh
  exact hc pins s1 σ H1 vs us Q I1 r1 q1
theorem pe_ctS {T : String} {es : List Expr} {x : Str} {r : L2.St → List V → Hp → VK → Prop} {t : TA} (hc : CallS X (.type T) r) (hg : Gl X x) (hm : X.mg x = none) (hv : bootBuiltins x = some (.type T)) (ha : PA X (a :: es) t) (hn : x ≠ "__name__" := by decide) (hdb : (x == ("__debug__" : Str)) = false := by decide)
    (he : starEach (a :: es) X.env = (false, eval a X.env) :: starEach es X.env := by rfl) (hpl : (backTo pos (starEach es X.env)).any (·.1) = false := by rfl) : PE X (.Call (.Name x p) (a :: es) [] pos) (tCBS r t) := by
  constructor
  intro pins s σ H Q I h
  apply wpAny_Call_Name_kw
  apply ld_blt I hg hm hv (hn := hn) (hd := hdb)
  refine PyProof.Rows.callWith_type1 (thn (ha.run pos pins s σ H _ I h) ?_) he hpl
  intro us s1 hh
  obtain ⟨vs, H1, I1, r1, q1⟩ := hh
  exact hc pins s1 σ H1 vs us Q I1 r1 q1
theorem call_absI {r0 : List V → Hp → VK → Prop} (h0 : CallR X (.builtin "abs") r0) (hs : PySem.W.findIn X.K (.ref C) "__abs__" = some (some (.ref f))) (hf : PySem.W.isFn X.K (.ref f) = true) (Fn : FnG X.prog X.w X.K X.mg X.base k f fd ps sf) (hG : X.A.guards = some []) (hr : Room (k + 1) X.A) (hb : Binds X.K fd ps []) (tk : Takes X Wx) :
    CallS X (.builtin "abs") (rCallI C r0 sf Wx) := by
  intro pins s σ H xs us Q I r h
  rcases h with ⟨p, dx, fs, rfl, hp, q⟩ | q
  · obtain ⟨u, rfl, rx⟩ := vals1 r
    obtain rfl : u = Value.ref p := rx
    obtain ⟨mA, O, _, _, _, _⟩ := ins_get I.hok hp
    obtain ⟨od, J, _⟩ := O.look
    exact abs_K I.kIn J hs hf (run_at (vs := [V.ref p]) Fn hG hr.in1 I.env0.in1 hb tk I (.cons rfl .nil) q)
  · exact h0 pins s σ H xs us Q I r q
/-- (what comes back from __str__ is a text) -/
def rCallT (C : Addr) (r0 : List V → Hp → VK → Prop) (sf : Sp) (Wx : WX) : L2.St → List V → Hp → VK → Prop := fun σ xs H Q =>
  (∃ a dx fs, xs = [V.ref a] ∧ H a = some (.ins C dx fs) ∧ sf xs H (fun v H' => (∃ x, v = V.str x) ∧ Q v H') (fun cls d H' => Wx cls d σ H')) ∨ r0 xs H Q
theorem call_strI {r0 : List V → Hp → VK → Prop} (h0 : CallR X (.type "str") r0) (hs : PySem.W.findIn X.K (.ref C) "__str__" = some (some (.ref f))) (hf : PySem.W.isFn X.K (.ref f) = true) (Fn : FnG X.prog X.w X.K X.mg X.base k f fd ps sf) (hG : X.A.guards = some []) (hr : Room (k + 2) X.A) (hb : Binds X.K fd ps []) (tk : Takes X Wx) :
    CallS X (.type "str") (rCallT C r0 sf Wx) := by
  intro pins s σ H xs us Q I r h
  rcases h with ⟨p, dx, fs, rfl, hp, q⟩ | q
  · obtain ⟨u, rfl, rx⟩ := vals1 r
    obtain rfl : u = Value.ref p := rx
    obtain ⟨mA, O, _, _, _, _⟩ := ins_get I.hok hp
    obtain ⟨od, J, _⟩ := O.look
    refine PySem.W.kso_call hr.in1.in1.units0 I.kIn J hs hf (wpAny_mono (run_at (vs := [V.ref p]) Fn hG hr.in1.in1 I.env0.in1.in1 hb tk I (.cons rfl .nil) q) (fun v s' hv => ?_) fun _ _ e => e)
    obtain ⟨z, H', I', rz, ⟨x, rfl⟩, hq⟩ := hv
    obtain ⟨t, rfl⟩ := rz
    exact ⟨.str x, H', I', ⟨t, rfl⟩, hq⟩
  · exact h0 pins s σ H xs us Q I r q
def unL (C : Addr) (prim : List D → Option D) (g : G) (xs : List D) : M D := match xs with
  | [.ins C' fs] => if C' = C then callD g [.ins C' fs] else fun _ => none
  | xs => M.lift (prim xs)
def mCBI (C : Addr) (prim : List D → Option D) (g : G) (as : List (M D)) : M D := (mArgs as).bind fun xs => unL C prim g xs
theorem absI_imp {K : PySem.W.Frag} {r0 : List V → Hp → VK → Prop} {g0 : List D → Option D} {g : G} {ms : List (M D)} (hs : OpN K r0 g0) (σ : L2.St) (H : Hp) (Q : VK) (h : tE K Wx (mCBI C g0 g ms) σ H Q) : tCBS (rCallI (cA K C) r0 (spG K 1 g) Wx) (tA K Wx (mArgs ms)) σ H Q := by
  obtain ⟨c, F, ρ, rr, ρ', w, hm, post⟩ := h
  rcases bind_inv hm with ⟨xs, ρ1, h1, h2⟩ | ⟨x, h1, rfl⟩
  · refine ⟨c, F, ρ, .ok xs, ρ1, w, h1, fun F1 H1 e1 w1 vs r1 => ?_⟩
    have post2 := post.mono e1
    unfold unL at h2
    split at h2
    · rename_i C' fs
      split at h2
      · rename_i hc
        subst hc
        have q := callD_sim (n := 1) (Q := Q) w1 r1 rfl h2 post2 fun d F' H' v rv p => p v rv
        obtain ⟨v, rfl, rv⟩ := one r1
        cases rv with
        | ins ha hra => exact .inl ⟨_, _, _, rfl, w1.sub _ _ ha, q⟩
      · cases h2
    · obtain ⟨z, hz, rfl, rfl⟩ := lift_inv h2
      exact .inr (hs F1 H1 vs _ z Q r1 w1.sub hz fun F3 v H3 g r3 => post2 F3 H3 g.1 (g.2 _ _ _ w1) v r3)
  · exact ⟨c, F, ρ, .ex x, ρ', w, h1, post⟩
def callT (g : G) (ds : List D) : M D := (callD g ds).bind fun z => match z with
  | .str x => M.pure (.str x)
  | _ => fun _ => none
def unT (C : Addr) (prim : List D → Option D) (g : G) (xs : List D) : M D := match xs with
  | [.ins C' fs] => if C' = C then callT g [.ins C' fs] else fun _ => none
  | xs => M.lift (prim xs)
def mStrI (C : Addr) (prim : List D → Option D) (g : G) (as : List (M D)) : M D := (mArgs as).bind fun xs => unT C prim g xs
theorem strI_imp {K : PySem.W.Frag} {r0 : List V → Hp → VK → Prop} {g0 : List D → Option D} {g : G} {ms : List (M D)} (hs : OpN K r0 g0) (σ : L2.St) (H : Hp) (Q : VK) (h : tE K Wx (mStrI C g0 g ms) σ H Q) : tCBS (rCallT (cA K C) r0 (spG K 1 g) Wx) (tA K Wx (mArgs ms)) σ H Q := by
  obtain ⟨c, F, ρ, rr, ρ', w, hm, post⟩ := h
  rcases bind_inv hm with ⟨xs, ρ1, h1, h2⟩ | ⟨x, h1, rfl⟩
  · refine ⟨c, F, ρ, .ok xs, ρ1, w, h1, fun F1 H1 e1 w1 vs r1 => ?_⟩
    have post2 := post.mono e1
    unfold unT at h2
    split at h2
    · rename_i C' fs
      split at h2
      · rename_i hc
        subst hc
        have q : spG K 1 g vs H1 (fun v H' => (∃ x, v = V.str x) ∧ Q v H') (fun cls d H' => Wx cls d σ H') := by
          rcases bind_inv h2 with ⟨z, ρ2, h3, h4⟩ | ⟨x, h3, rfl⟩
          · cases z <;> try (cases h4; done)
            cases h4
            rename_i x
            exact callD_sim (n := 1) (P := fun d F' H' => d = .str x ∧ ∀ v, Rep K F' v (.str x) → Q v H') w1 r1 rfl h3 (fun F' H' e' w' => ⟨rfl, post2 F' H' e' w'⟩) fun d F' H' v rv p => by
              obtain ⟨rfl, p⟩ := p
              have p2 := p v rv
              cases rv
              exact ⟨⟨_, rfl⟩, p2⟩
          · exact callD_sim (n := 1) (P := fun _ _ _ => False) w1 r1 rfl h3 post2 fun d F' H' v rv p => p.elim
        obtain ⟨v, rfl, rv⟩ := one r1
        cases rv with
        | ins ha hra => exact .inl ⟨_, _, _, rfl, w1.sub _ _ ha, q⟩
      · cases h2
    · obtain ⟨z, hz, rfl, rfl⟩ := lift_inv h2
      exact .inr (hs F1 H1 vs _ z Q r1 w1.sub hz fun F3 v H3 g r3 => post2 F3 H3 g.1 (g.2 _ _ _ w1) v r3)
  · exact ⟨c, F, ρ, .ex x, ρ', w, h1, post⟩
theorem pem_absI {es : List Expr} {g0 : List D → Option D} {g : G} {r0 : List V → Hp → VK → Prop} {ms : List (M D)} (hp : ∀ {t : TA}, PA X es t → PE X e (tCBS (rCallI (cA X.K C) r0 (spG X.K 1 g) Wx) t)) (hs : OpN X.K r0 g0) (ha : PAM X Wx es (mArgs ms)) : PEM X Wx e (mCBI C g0 g ms) :=
  pe_imp (hp ha) (absI_imp hs)
theorem pem_strI {es : List Expr} {g0 : List D → Option D} {g : G} {r0 : List V → Hp → VK → Prop} {ms : List (M D)} (hp : ∀ {t : TA}, PA X es t → PE X e (tCBS (rCallT (cA X.K C) r0 (spG X.K 1 g) Wx) t)) (hs : OpN X.K r0 g0) (ha : PAM X Wx es (mArgs ms)) : PEM X Wx e (mStrI C g0 g ms) :=
  pe_imp (hp ha) (strI_imp hs)

/-! ### repr of data -/
def reprOk (p : PyData) : Bool := p.showable && !p.hasDict && decide (p.depth ≤ 60) && decide (p.shown.length ≤ 1000000)
def dRepr : List D → Option D
  | [d] => match d.py with
    | some p => if reprOk p = true then some (.str p.shown) else none
    | none => none
  | _ => none
def rRepr (K : PySem.W.Frag) : List V → Hp → VK → Prop := fun xs H Q => ∃ v p, xs = [v] ∧ Dp K H v p ∧ reprOk p = true ∧ Q (.str p.shown) H
theorem call_reprD (hG : X.A.guards = some []) (hu : X.A.units + 64 < cLine) : CallR X (.builtin "repr") (rRepr X.K) := by
  intro pins s σ H xs us Q I r h
  obtain ⟨v, p, rfl, hd, hok, q⟩ := h
  obtain ⟨u, rfl, rx⟩ := vals1 r
  unfold reprOk at hok
  simp only [Bool.and_eq_true, decide_eq_true_eq, Bool.not_eq_true'] at hok
  obtain ⟨⟨⟨h1, h2⟩, h3⟩, h4⟩ := hok
  have hz : p.shown.length ≤ sizeLine := mil h4
  obtain ⟨as, hr⟩ := Dp.reads I p v u hd rx
  have fin : ∀ {h' : Heap} {t : Tok} {tk : Nat}, (∀ b o, s.heap.get? b = some o → h'.get? b = some o) → EP X pins σ Q (.str p.shown t) { s with heap := h', toks := tk } := fun k => ⟨.str p.shown, H, I.kept k, ⟨_, rfl⟩, q⟩
  have refs : ∀ {a : Addr}, u = .ref a → wpAny (model X.prog X.w) X.A (PySem.call (.builtin "repr") [u]) (EP X pins σ Q) X.xe s := fun {a} e => by
    subst e
    exact repr_of_reads' hr h1 (PySem.PyData.noDict_hsm h2) hG (by omega) (fun _ _ e => e) (fun h' t tk k => fin k) hz
  cases hd with
  | non => cases rx; exact PySem.P.repr_of_none (fin fun _ _ e => e)
  | bl b =>
    cases rx
    exact PySem.P.repr_of_bool (fin fun _ _ e => e)
  | int i =>
    obtain ⟨t, rfl⟩ := rx
    exact PySem.P.repr_of_int (of_decide_eq_true h1) (fin fun _ _ e => e)
  | str x =>
    obtain ⟨t, rfl⟩ := rx
    exact PySem.P.repr_of_str (fin fun _ _ e => e) hz
  | lst _ _ => exact refs rx
  | tup _ _ => exact refs rx
theorem s_repr : OpN X.K (rRepr X.K) dRepr := by
  intro F H xs ds z Q rx sub h q
  unfold dRepr at h
  split at h
  · split at h
    · rename_i p hp
      split at h
      · rename_i hok
        cases h
        obtain ⟨x, rfl, r⟩ := one rx
        exact ⟨x, p, rfl, py_dp sub r hp, hok, q F _ H Grow.refl (.str _)⟩
      · cases h
    · cases h
  · cases h
end
end L3
set_option Elab.async false
set_option linter.all false
set_option maxRecDepth 100000
set_option maxHeartbeats 4000000
namespace L3
open PySem PySem.Spec PyProof.Rows L2

/-! ### f-strings -/
def dFmt : D → Option D
  | .str x => if x.length ≤ 1000000 then some (.str x) else none
  | .int i => if i.natAbs.log2 < 1920 then some (.str (toString i)) else none
  | _ => none
def addS (acc : Str) : D → Option Str
  | .str y => if (acc ++ y).length ≤ 1000000 then some (acc ++ y) else none
  | _ => none
def mJs : List (M D) → Str → M Str
  | [], acc => M.pure acc
  | m :: ms, acc => m.bind fun d => (M.lift (addS acc d)).bind fun a => mJs ms a
def mFs (ms : List (M D)) : M D := (mJs ms Str.empty).bind fun x => M.pure (.str x)
section
variable {X : Cx} {Wx : WX} {e : Expr} {es : List Expr} {me : M D} {pos : Pos}
theorem pem_fmt (h : PEM X Wx e me) : PEM X Wx (.FormattedValue e (-1) none pos) (mUn dFmt me) := by
  refine pe_imp (pe_fmt h) fun σ H Q h => ?_
  obtain ⟨c, F, ρ, rr, ρ', w, hm, post⟩ := h
  rcases bind_inv hm with ⟨x, ρ1, h1, h2⟩ | ⟨x, h1, rfl⟩
  · refine ⟨c, F, ρ, .ok x, ρ1, w, h1, fun F1 H1 e1 w1 v1 r1 => ?_⟩
    obtain ⟨z, hz, rfl, rfl⟩ := lift_inv h2
    unfold dFmt at hz
    split at hz
    · split at hz
      · rename_i hl
        cases hz
        cases r1
        exact .inl ⟨_, rfl, mil hl, post F1 H1 e1 w1 _ (.str _)⟩
      · cases hz
    · split at hz
      · rename_i hl
        cases hz
        cases r1
        exact .inr ⟨_, rfl, hl, post F1 H1 e1 w1 _ (.str _)⟩
      · cases hz
    · cases hz
  · exact ⟨c, F, ρ, .ex x, ρ', w, h1, post⟩
inductive PJM (X : Cx) (Wx : WX) : List Expr → List (M D) → Prop
  | nil : PJM X Wx [] []
  | cons {e : Expr} {m : M D} {es : List Expr} {ms : List (M D)} (h : PEM X Wx e m) (r : PJM X Wx es ms) : PJM X Wx (e :: es) (m :: ms)
theorem PJM.pj {ms : List (M D)} (h : PJM X Wx es ms) : PJ X es (ms.map (tE X.K Wx)) := by
  induction h with
  | nil => exact .nil
  | cons h _ ih => exact .cons h ih
theorem js_imp {K : PySem.W.Frag} : ∀ (ms : List (M D)) (acc : Str) (σ : L2.St) (H : Hp) (Q : Str → Hp → Prop), tM K Wx (mJs ms acc) σ H (fun _ _ x _ H' => Q x H') → tJs (ms.map (tE K Wx)) acc σ H Q
  | [], acc, σ, H, Q, h => by
    obtain ⟨c, F, ρ, rr, ρ', w, hm, post⟩ := h
    cases hm
    exact post F H (Same.refl _) w
  | m :: ms, acc, σ, H, Q, h => by
    obtain ⟨c, F, ρ, rr, ρ', w, hm, post⟩ := h
    rcases bind_inv hm with ⟨d, ρ1, h1, h2⟩ | ⟨x, h1, rfl⟩
    · refine ⟨c, F, ρ, .ok d, ρ1, w, h1, fun F1 H1 e1 w1 v1 r1 => ?_⟩
      rcases bind_inv h2 with ⟨a, ρ2, h3, h4⟩ | ⟨x, h3, rfl⟩
      · obtain ⟨_, hz, ez, rfl⟩ := lift_inv h3
        cases ez
        unfold addS at hz
        split at hz
        · split at hz
          · rename_i y hl
            cases hz
            cases r1
            exact ⟨y, rfl, mil hl, js_imp ms _ σ H1 Q ⟨c, F1, _, rr, ρ', w1, h4, post.mono e1⟩⟩
          · cases hz
        · cases hz
      · obtain ⟨_, _, ez, _⟩ := lift_inv h3
        cases ez
    · exact ⟨c, F, ρ, .ex x, ρ', w, h1, post⟩
theorem pem_fs {v1 v2 : Expr} {ms : List (M D)} (h : PJM X Wx (v1 :: v2 :: es) ms) : PEM X Wx (.JoinedStr (v1 :: v2 :: es) pos) (mFs ms) := by
  refine pe_imp (pe_joined h.pj) fun σ H Q h => ?_
  refine js_imp ms _ σ H _ ?_
  obtain ⟨c, F, ρ, rr, ρ', w, hm, post⟩ := h
  rcases bind_inv hm with ⟨x, ρ1, h1, h2⟩ | ⟨x, h1, rfl⟩
  · cases h2
    exact ⟨c, F, ρ, .ok x, _, w, h1, fun F1 H1 e1 w1 => post F1 H1 e1 w1 _ (.str _)⟩
  · exact ⟨c, F, ρ, .ex x, ρ', w, h1, post⟩
end

/-! ### further words -/
def mPar3 (i j l : Nat) (a b c : M D) : M Fl := a.bind fun x => b.bind fun y => c.bind fun z ρ => some (.ok .nx, ((ρ.set i (.dat x)).set j (.dat y)).set l (.dat z))
def dIsBl : D → D → Option D
  | .bl a, .bl b => some (.bl (decide (a = b)))
  | _, _ => none
def boolsD : List D → Option (List Bool)
  | [] => some []
  | .bl b :: ds => (boolsD ds).map (b :: ·)
  | _ :: _ => none
def dAll : List D → Option D
  | [.lst ds] => (boolsD ds).map fun bs => .bl (bs.all id)
  | _ => none
def dAny : List D → Option D
  | [.lst ds] => (boolsD ds).map fun bs => .bl (bs.any id)
  | _ => none
def intsD : List D → Option (List Int)
  | [] => some []
  | .int b :: ds => (intsD ds).map (b :: ·)
  | _ :: _ => none
def dSum : List D → Option D
  | [.lst ds] => (intsD ds).map fun bs => .int bs.sum
  | _ => none
/-- data in slot i, whatever it was (an own object is data from now on) -/
def mDat (i : Nat) : M D := fun ρ => match ρ[i]? with
  | some (.dat d) => some (.ok d, ρ)
  | some (.own o) => some (.ok o.toD, ρ.set i (.dat o.toD))
  | _ => none
section
variable {X : Cx} {Wx : WX} {a b c e : Expr} {ma mb mc : M D} {pos : Pos}
theorem psm_par3 (i j l : Nat) {x y z : Str} {px py pz pt : Pos} {kt k2 pt2} (hc : X.calm = true) (hN : X.N.Nodup) (hij : i ≠ j) (hil : i ≠ l) (hjl : j ≠ l) (ha : PEM X Wx a ma) (hb : PEM X Wx b mb) (hcc : PEM X Wx c mc)
    (hi : X.N[i]? = some x := by rfl) (hj : X.N[j]? = some y := by rfl) (hl : X.N[l]? = some z := by rfl)
    (hx : X.env.scope.names.lookup x = some .local := by rfl) (hy : X.env.scope.names.lookup y = some .local := by rfl) (hz : X.env.scope.names.lookup z = some .local := by rfl)
    (h1 : starEach [a, b, c] X.env = (false, eval a X.env) :: starEach [b, c] X.env := by rfl) (h2 : starEach [b, c] X.env = (false, eval b X.env) :: starEach [c] X.env := by rfl) (h3 : starEach [c] X.env = (false, eval c X.env) :: starEach [] X.env := by rfl)
    (hw : swappedStores [.Tuple [.Name x px, .Name y py, .Name z pz] kt pt] (.Tuple [a, b, c] k2 pt2) X.env = pure (some [x, y, z]) := by rfl)
    (hs : swapsWithSole [.Tuple [.Name x px, .Name y py, .Name z pz] kt pt] (.Tuple [a, b, c] k2 pt2) pos.line X.env = pure false := by rfl) :
    PSM X Wx (.Assign [.Tuple [.Name x px, .Name y py, .Name z pz] kt pt] (.Tuple [a, b, c] k2 pt2) pos) (mPar3 i j l ma mb mc) := by
  refine ps_imp (ps_par3 hc hN hi hj hl hij hil hjl hx hy hz (pa_cons ha (pa_cons hb (pa_cons hcc pa_nil h3) h2) h1) hw hs) fun De σ H h => ?_
  obtain ⟨cx, F, ρ, r, ρ', w, hm, post⟩ := h
  rcases bind_inv hm with ⟨u, ρ1, q1, q2⟩ | ⟨u, q1, rfl⟩
  · refine ⟨cx, F, ρ, .ok u, ρ1, w, q1, fun F1 H1 e1 w1 v1 r1 => ?_⟩
    rcases bind_inv q2 with ⟨t, ρ2, q3, q4⟩ | ⟨t, q3, rfl⟩
    · refine ⟨cx, F1, ρ1, .ok t, ρ2, w1, q3, fun F2 H2 e2 w2 v2 r2 => ?_⟩
      rcases bind_inv q4 with ⟨g, ρ3, q5, q6⟩ | ⟨g, q5, rfl⟩
      · cases q6
        refine ⟨cx, F2, ρ2, .ok g, ρ3, w2, q5, fun F3 H3 e3 w3 v3 r3 => ?_⟩
        exact ⟨v1, v2, v3, rfl, post F3 _ H3 ((e1.trans e2).trans e3) (((w3.setD (r1.mono (e2.trans e3))).setD (r2.mono e3)).setD r3)⟩
      · exact ⟨cx, F2, ρ2, .ex g, ρ', w2, q5, fun F' d H' e' w' r' => post F' σ d H' ((e1.trans e2).trans e') w' r'⟩
    · exact ⟨cx, F1, ρ1, .ex t, ρ', w1, q3, fun F' d H' e' w' r' => post F' σ d H' (e1.trans e') w' r'⟩
  · exact ⟨cx, F, ρ, .ex u, ρ', w, q1, fun F' d H' e' w' r' => post F' σ d H' e' w' r'⟩
theorem s_isBl : Op2 X.K rIsB dIsBl := by
  intro F H x y d e z Q rx ry sub h q
  unfold dIsBl at h
  split at h
  · cases h; cases rx; cases ry
    exact ⟨_, _, rfl, rfl, q F _ H Grow.refl (.bl _)⟩
  · cases h
theorem bools_rep {K : PySem.W.Frag} {F : Hp} : ∀ {ds : List D} {vs : List V} {bs : List Bool}, RepL K F vs ds → boolsD ds = some bs → vs = bs.map V.bl
  | [], _, _, .nil, h => by cases h; rfl
  | .bl b :: ds, _, bs, .cons (.bl _) t, h => by
    have h' : (boolsD ds).map (b :: ·) = some bs := h
    cases e : boolsD ds with
    | none => rw [e] at h'; cases h'
    | some cs => rw [e] at h'; cases h'; rw [bools_rep t e]; rfl
  | .non :: _, _, _, _, h => by cases h
  | .int _ :: _, _, _, _, h => by cases h
  | .str _ :: _, _, _, _, h => by cases h
  | .ty _ :: _, _, _, _, h => by cases h
  | .obj _ :: _, _, _, _, h => by cases h
  | .tup _ :: _, _, _, _, h => by cases h
  | .lst _ :: _, _, _, _, h => by cases h
  | .rdl _ :: _, _, _, _, h => by cases h
  | .dct _ :: _, _, _, _, h => by cases h
  | .ins _ _ :: _, _, _, _, h => by cases h
  | .exc _ :: _, _, _, _, h => by cases h
  | .exf _ _ :: _, _, _, _, h => by cases h
theorem ints_rep {K : PySem.W.Frag} {F : Hp} : ∀ {ds : List D} {vs : List V} {bs : List Int}, RepL K F vs ds → intsD ds = some bs → vs = bs.map V.int
  | [], _, _, .nil, h => by cases h; rfl
  | .int b :: ds, _, bs, .cons (.int _) t, h => by
    have h' : (intsD ds).map (b :: ·) = some bs := h
    cases e : intsD ds with
    | none => rw [e] at h'; cases h'
    | some cs => rw [e] at h'; cases h'; rw [ints_rep t e]; rfl
  | .non :: _, _, _, _, h => by cases h
  | .bl _ :: _, _, _, _, h => by cases h
  | .str _ :: _, _, _, _, h => by cases h
  | .ty _ :: _, _, _, _, h => by cases h
  | .obj _ :: _, _, _, _, h => by cases h
  | .tup _ :: _, _, _, _, h => by cases h
  | .lst _ :: _, _, _, _, h => by cases h
  | .rdl _ :: _, _, _, _, h => by cases h
  | .dct _ :: _, _, _, _, h => by cases h
  | .ins _ _ :: _, _, _, _, h => by cases h
  | .exc _ :: _, _, _, _, h => by cases h
  | .exf _ _ :: _, _, _, _, h => by cases h
theorem s_all : OpN X.K (rAll X.K) dAll := by
  intro F H xs ds z Q rx sub h q
  unfold dAll at h
  split at h
  · rename_i ds
    cases e : boolsD ds with
    | none => rw [e] at h; cases h
    | some bs =>
      rw [e] at h
      cases h
      obtain ⟨x, rfl, r⟩ := one rx
      cases r with
      | lst hs hr =>
        rw [bools_rep hr e] at hs
        exact ⟨_, bs, rfl, .inl (.inl (sub _ _ hs)), q F _ H Grow.refl (.bl _)⟩
  · cases h
theorem s_any : OpN X.K (rAny X.K) dAny := by
  intro F H xs ds z Q rx sub h q
  unfold dAny at h
  split at h
  · rename_i ds
    cases e : boolsD ds with
    | none => rw [e] at h; cases h
    | some bs =>
      rw [e] at h
      cases h
      obtain ⟨x, rfl, r⟩ := one rx
      cases r with
      | lst hs hr =>
        rw [bools_rep hr e] at hs
        exact ⟨_, bs, rfl, .inl (.inl (sub _ _ hs)), q F _ H Grow.refl (.bl _)⟩
  · cases h
theorem s_sum : OpN X.K (rSum X.K) dSum := by
  intro F H xs ds z Q rx sub h q
  unfold dSum at h
  split at h
  · rename_i ds
    cases e : intsD ds with
    | none => rw [e] at h; cases h
    | some bs =>
      rw [e] at h
      cases h
      obtain ⟨x, rfl, r⟩ := one rx
      cases r with
      | lst hs hr =>
        rw [ints_rep hr e] at hs
        exact ⟨_, bs, rfl, .inl (.inl (sub _ _ hs)), q F _ H Grow.refl (.int _)⟩
  · cases h
theorem pem_dat (i : Nat) {x : Str} (hN : X.N[i]? = some x := by rfl) (hv : Vis X.env.scope x := by first | exact Or.inl rfl | exact Or.inr (Or.inl rfl) | exact Or.inr (Or.inr rfl)) (hd : (x == ("__debug__" : Str)) = false := by decide)
    (hcd : (x == ("__classdict__" : Str)) = false := by decide) : PEM X Wx (.Name x pos) (mDat i) := by
  have h1 : PEM X Wx (.Name x pos) (mVar i) := pem_var i hN hv hd hcd
  have h2 : PEM X Wx (.Name x pos) (mFrzS i) := pem_frzS i hN hv hd hcd
  constructor
  intro pins s σ H Q I h
  obtain ⟨c, F, ρ, r, ρ', w, hm, post⟩ := h
  unfold mDat at hm
  split at hm
  · rename_i d hs
    refine h1.run pins s σ H Q I ⟨c, F, ρ, r, ρ', w, ?_, post⟩
    unfold mVar
    rw [hs]
    exact hm
  · rename_i o hs
    refine h2.run pins s σ H Q I ⟨c, F, ρ, r, ρ', w, ?_, post⟩
    unfold mFrzS
    rw [hs]
    exact hm
  · cases hm
end
end L3
set_option Elab.async false
set_option linter.all false
set_option maxRecDepth 100000
set_option maxHeartbeats 4000000
namespace L3
open PySem PySem.Spec PyProof.Rows L2
open AutoSeq1 (wpAny_loadPart')
/-! ### t == () -/
theorem tuple_eq0 {prog : Program} {w : World} {A : Around} {R : Result → Shared → Prop} (l b : Addr) (items : Array Value) (n n2 : Nat) (dd dd2 : Option Addr) (sl sl2 : Array (Option Value)) {s : Shared}
    (hl1 : s.heap.get? l = some { cls := .type "tuple", dict := dd, data := .seq items n, slots := sl }) (hb1 : s.heap.get? b = some { cls := .type "tuple", dict := dd2, data := .seq #[] n2, slots := sl2 }) (h : R (.ok (.ret (.bool (items.size == 0)))) s) :
    wpAny (model prog w) A.in1 (Builtin.«tuple.__eq__» ⟨[.ref l, .ref b], []⟩) (GQ.FinOf prog w A R) (fun e s' => R (.error e) s') s := by
  have f2 := AutoSeq1.sub_tuple_tuple
  obtain ⟨hp, g, d, tk, os⟩ := s
  wp_walk using wpAny_loadPart' hl1, wpAny_loadPart' hb1, wpAny_forIn_list _ (fun rest b s' => b.1 = none ∧ s' = ⟨hp, g, d, tk, os⟩ ∧ rest = []) _
  case turn =>
    rintro ⟨y, x⟩ rest b s' ⟨_, _, hz⟩
    cases hz
  case fin =>
    rintro ⟨b1, b2⟩ s' ⟨hb', hs, _⟩
    simp only at hb'
    subst hb' hs
    wp_walk
    simpa [Builtin.Tuple.tupleCompareSizes] using h
  case h =>
    exact ⟨rfl, rfl, by simp⟩
section
variable {X : Cx}
def rEq0 (K : PySem.W.Frag) : R2 := fun x y H Q => ∃ a b xs, x = V.ref a ∧ y = V.ref b ∧ SqT K H a xs ∧ SqT K H b [] ∧ Q (.bl (xs.length == 0)) H
theorem op_eq0 (hu : X.A.units + 64 < cLine) : OpR X (compareOp .Eq) (rEq0 X.K) := by
  intro pins s σ H x y v u Q I rx ry h
  obtain ⟨a, b, xs, rfl, rfl, h1, h2, q⟩ := h
  obtain rfl : v = Value.ref a := rx
  obtain rfl : u = Value.ref b := ry
  obtain ⟨its, r, e, z⟩ := I.tuple h1
  obtain ⟨its2, r2, e2, z2⟩ := I.tuple h2
  cases r2
  obtain ⟨⟨cls, dd, data, sl⟩, ho, hc, n, hd⟩ := id e
  obtain ⟨⟨cls2, dd2, data2, sl2⟩, ho2, hc2, n2, hd2⟩ := id e2
  simp only at hc hd hc2 hd2
  subst hc hd hc2 hd2
  show wpAny (model X.prog X.w) X.A (richCompare .Eq (.ref a) (.ref b)) (EP X pins σ Q) X.xe s
  refine wpAny_richCompare_same_room (op := .Eq) ⟨_, ho, rfl⟩ ⟨_, ho2, rfl⟩ F.slot_tuple_eq (GQ.call_here F.slot_tuple_eq ⟨_, ho, rfl⟩ F.entry_tuple_eq (F.args_tuple_eq_2 _ _) ?_) (by omega)
  refine tuple_eq0 (R := wants (fun v s' => v ≠ .notImplemented ∧ EP X pins σ Q v s') X.xe) a b its.toArray n n2 dd dd2 sl sl2 ho ho2 ⟨(fun x => nomatch x), .bl _, H, I, rfl, ?_⟩
  rw [List.size_toArray, ← r.length]
  exact q
def dEq0 : D → D → Option D
  | .tup ds, .tup [] => some (.bl (ds.length == 0))
  | _, _ => none
theorem s_eq0 : Op2 X.K (rEq0 X.K) dEq0 := by
  intro F H x y d e z Q rx ry sub h q
  unfold dEq0 at h
  split at h
  · cases h
    cases rx with
    | tup h1 r1 =>
      cases ry with
      | tup h2 r2 =>
        cases r2
        refine ⟨_, _, _, rfl, rfl, same_sqT sub h1, same_sqT sub h2, ?_⟩
        rw [r1.len]
        exact q F _ H Grow.refl (.bl _)
  · cases h
theorem fng_none {P : Program} {w : World} {K : PySem.W.Frag} {mg : Str → Option Value} {base : Heap} {f : Addr} {fd : FuncData} {ps : List Str} {n : Nat} : FnG P w K mg base 0 f fd ps (spG K n fun _ => none) := by
  refine ⟨fun vs H Q E h => ?_, fun A outer s H args us vs Q E _ _ _ _ _ h => ?_⟩
  · obtain ⟨_, F, ss, r, ss', _, _, hg, _⟩ := h
    cases hg
  · obtain ⟨_, F, ss, r, ss', _, _, hg, _⟩ := h
    cases hg
end
end L3
set_option Elab.async false
set_option linter.all false
set_option maxRecDepth 100000
set_option maxHeartbeats 4000000
namespace L3
open PySem PySem.Spec PyProof.Rows L2
/-! ### the law's own call, from what its def computes -/
theorem repL_ints {K : PySem.W.Frag} {F : Hp} : ∀ ns : List Int, RepL K F (ns.map V.int) (ns.map D.int)
  | [] => .nil
  | _ :: ns => .cons (.int _) (repL_ints ns)
theorem spG_law {K : PySem.W.Frag} {g : G} {H : Hp} {a : Addr} {ns : List Int} (hS : SqL K H a (ns.map V.int)) (hg : ∃ ss', g [.dat (.rdl (ns.map D.int))] = some (.ok (.dat (.bl true)), ss')) : spG K 1 g [.ref a] H (fun v _ => v = .bl true) fun _ _ _ => False := by
  obtain ⟨ss', hg⟩ := hg
  have rd : Rep K H (.ref a) (.rdl (ns.map D.int)) := .rdl hS (repL_ints ns)
  refine ⟨rfl, H, _, _, ss', Same.refl _, argS_d (vs := [.ref a]) (ds := [.rdl (ns.map D.int)]) (.cons rd .nil), hg, fun F' v H' _ rv => ?_⟩
  have rv' : Rep K F' v (.bl true) := rv
  cases rv'
  rfl
section
variable {P : Program} {w : World} {K : PySem.W.Frag} {mg mb : Str → Option Value} {k : Nat} {fa a : Addr} {fd : FuncData} {x : Str} {g : G} {s1 : Shared} {vs : List Value} {ns : List Int}
abbrev Ending (s1 : Shared) : Result → Shared → Prop := fun r s' => r = .ok (.ret (.bool true)) ∧ OldK s1.heap s'.heap ∧ s'.os = s1.os ∧ AllBare s'.gens
def scrO (vs : List Value) : Obj := { cls := .type "list", data := .seq vs.toArray }
/-- the script alone is seen, or nothing -/
def scrH (a : Addr) (u : Option HO) : Hp := fun b => if b = a then u else none
theorem scrH_at {u : Option HO} : scrH a u a = u := if_pos rfl
theorem scrH_off {u : Option HO} {b : Addr} (h : b ≠ a) : scrH a u b = none := if_neg h
theorem lawG_core {u : Option HO} (hu : u = none ∨ ∃ xs, u = some (.frz (scrO vs) (.lst xs))) (KX : K.In s1.heap) (n1 : s1.heap.Ns mainGlobals mg) (n2 : s1.heap.Ns builtinsNs mb) (n3 : ∀ y : Str, y ≠ "__name__" → mb y = bootBuiltins y) (n4 : s1.heap.NoLimit)
    (n5 : s1.gens = #[]) (sc : s1.heap.get? a = some (scrO vs)) (hr : Room k callerA) (hk : u ≠ none → K.lookup a = none) (ok : HOk P w (scrH a u) s1.heap)
    (hF : ∀ base : Heap, K.In base → base.Ns mainGlobals mg → FnG P w K mg base k fa fd [x] (spG K 1 g)) (hb : ∀ (s : Shared) (v : Value), BindsTo s fd ⟨[v], []⟩ [(x, v)])
    (hsp : spG K 1 g [.ref a] (scrH a u) (fun v _ => v = .bl true) fun _ _ _ => False) :
    codeAny (model P w) callerA (.call (.ref fa) ⟨[.ref a], []⟩) (Ending s1) s1 := by
  have seen : ∀ {b : Addr} {o : Obj}, s1.heap.get? b = some o → (b = a → u = none) → (hidT s1.heap (scrH a u)).get? b = some o := fun {b o} e h => by
    refine hidT_get e ?_
    by_cases q : b = a
    · rw [q, scrH_at]; exact h q
    · exact scrH_off q
  have spaces : ∀ {b : Addr} {m : Str → Option Value}, s1.heap.Ns b m → (hidT s1.heap (scrH a u)).Ns b m := fun {b m} h => by
    obtain ⟨o, es, ep, e, d, r⟩ := h
    refine ⟨o, es, ep, seen e fun q => ?_, d, r⟩
    rw [q, sc] at e
    cases e
    cases d
  have KB : K.In (hidT s1.heap (scrH a u)) := fun b o e => seen (KX b o e) fun q => by
    cases hu with
    | inl h => exact h
    | inr h =>
      obtain ⟨xs, h⟩ := h
      have z := hk (by rw [h]; exact fun z => nomatch z)
      rw [q, z] at e
      cases e
  have hM : Mod K mg (hidT s1.heap (scrH a u)) := by
    obtain ⟨mc, c1, c2⟩ := n4
    exact ⟨KB, spaces n1, ⟨mb, spaces n2, n3⟩, mc, spaces c1, c2⟩
  have none_in : ∀ b : Addr, ¬ b ∈ ([] : List Addr) := fun b z => nomatch z
  have e0 : Env0 P w K mg (hidT s1.heap (scrH a u)) callerA [] s1 (scrH a u) := by
    refine ⟨rfl, hM, fun b o e => of_hidT e, Nat.le_of_eq (hidT_size _ _), trivial, fun b z => (none_in b z).elim, ok, .of_eq n5⟩
  have run := (hF _ KB (spaces n1)).run callerA [] s1 (scrH a u) ⟨[.ref a], []⟩ [.ref a] [.ref a] _ _ rfl hr e0 (hb s1 (.ref a)) (.cons rfl .nil) hsp
  refine codeAny_mono run fun r s' h => ?_
  match r, h with
  | .error e, h =>
    obtain ⟨_, _, _, _, _, _, _, _, _, _, _, _, z⟩ := h
    exact z.elim
  | .ok .next, h => exact False.elim h
  | .ok .brk, h => exact False.elim h
  | .ok .cont, h => exact False.elim h
  | .ok (.ret z), h =>
    obtain ⟨v, H', os, bare, un, ok', rz, q⟩ := h
    obtain rfl : v = V.bl true := q
    obtain rfl : z = Value.bool true := rz
    refine ⟨rfl, OldK.of_keep fun b o e => ?_, os, bare⟩
    cases q : scrH a u b with
    | none => exact un.keep b o e q (none_in b) (none_in b)
    | some y =>
      have ba : b = a := by
        by_cases ba : b = a
        · exact ba
        · rw [scrH_off ba] at q; cases q
      subst ba
      rw [scrH_at] at q
      rcases hu with h | ⟨xs, h⟩
      · rw [h] at q; cases q
      · have at1 : scrH b u b = some (.frz (scrO vs) (.lst xs)) := by rw [scrH_at]; exact h
        have w1 := (ok b _ at1).1
        have w2 := (ok' b _ (un.frzs b _ _ at1)).1
        exact w2.trans (w1.symm.trans e)
theorem lawG (KX : K.In s1.heap) (n1 : s1.heap.Ns mainGlobals mg) (n2 : s1.heap.Ns builtinsNs mb) (n3 : ∀ y : Str, y ≠ "__name__" → mb y = bootBuiltins y) (n4 : s1.heap.NoLimit) (n5 : s1.gens = #[]) (sc : s1.heap.get? a = some (scrO vs)) (hi : IntsAre vs ns)
    (hl : ns.length ≤ sizeLine) (hr : Room k callerA) (hF : ∀ base : Heap, K.In base → base.Ns mainGlobals mg → FnG P w K mg base k fa fd [x] (spG K 1 g)) (hb : ∀ (s : Shared) (v : Value), BindsTo s fd ⟨[v], []⟩ [(x, v)])
    (hg : ∃ ss', g [.dat (.rdl (ns.map D.int))] = some (.ok (.dat (.bl true)), ss')) : codeAny (model P w) callerA (.call (.ref fa) ⟨[.ref a], []⟩) (Ending s1) s1 := by
  have rv := vals_ints hi
  have long : vs.length ≤ sizeLine := by rw [hi.length]; exact hl
  cases hk : K.lookup a with
  | some o =>
    obtain rfl : o = scrO vs := Option.some.inj ((KX a o hk).symm.trans sc)
    refine lawG_core (u := none) (.inl rfl) KX n1 n2 n3 n4 n5 sc hr (fun z => (z rfl).elim) (fun b y z => ?_) hF hb (spG_law ?_ hg)
    · have z' : (if b = a then (none : Option HO) else none) = some y := z
      by_cases q : b = a <;> simp [q] at z'
    · exact .inr ⟨_, vs.toArray, _, hk, rfl, rfl, rfl, by rw [List.size_toArray]; exact long, by rw [List.toList_toArray]; exact rv⟩
  | none =>
    refine lawG_core (u := some (.frz (scrO vs) (.lst (ns.map V.int)))) (.inr ⟨_, rfl⟩) KX n1 n2 n3 n4 n5 sc hr (fun _ => hk) (fun b y z => ?_) hF hb (spG_law (.inl (.inr ⟨_, scrH_at⟩)) hg)
    by_cases q : b = a
    · subst q
      rw [scrH_at] at z
      cases z
      exact ⟨sc, by rw [List.length_map]; exact hl, vs, _, rv, sc⟩
    · rw [scrH_off q] at z
      cases z
end
/-- what the head wants, from what the law's def computes -/
theorem walkG {l : PySem.W.OpenLaw} {n k : Nat} {q : Program} {loose : List Str} {XP : (Str → Option Value) → Heap → Prop} {YP : World → Heap → Prop} {d : DefRec} {x : Str} (hn : l.most = some n) (hn2 : n ≤ sizeLine) (hdf : d.params.defaults = []) (hr : Room k callerA)
    (hW : ∀ (w : World) (mg : Str → Option Value) (fa : Addr) (h : Heap), YP w h → h.Ns mainGlobals mg → mg d.name = some (.ref fa) → ∃ (K : PySem.W.Frag) (fd : FuncData) (g : G), K.In h ∧ (∀ (s : Shared) (v : Value), BindsTo s fd ⟨[v], []⟩ [(x, v)]) ∧
      (∀ ns : List Int, ns.length ≤ n → ∃ ss', g [.dat (.rdl (ns.map D.int))] = some (.ok (.dat (.bl true)), ss')) ∧ ∀ base : Heap, K.In base → base.Ns mainGlobals mg → FnG l.prog w K mg base k fa fd [x] (spG K 1 g)) :
    PySem.W.WalkO q loose XP YP l.row.toRowW d [] (fun f vs => PySem.call f vs) := by
  refine Att.attach_call hn hdf fun w s0 s1 mg mb fa o pm cd doc a vs ns gr y ho hd hcd hmg hobj hints hlen hg => ?_
  obtain ⟨K, fd, g, KX, hb, hgg, hF⟩ := hW w mg fa _ y gr.T.g hmg
  exact lawG KX gr.T.g gr.T.b gr.T.builtins gr.T.nolimit hg hobj hints (Nat.le_trans hlen hn2) hr hF hb (hgg ns hlen)

/-! ### the head's facts -/
open He in
/-- the getter behind a property -/
def gAd (K : PySem.W.Frag) (C m : Str) : Addr := match PySem.W.recIn K (ma K (ga K C) m) "property" with
  | some (.ref b :: _) => b
  | _ => 0
abbrev FnX : Type := Option ((Str × Str × Arguments × FuncBody × Scope) × Addr × List (Str × Addr) × Addr)
def fnX (K : PySem.W.Frag) (b : Addr) : FnX := match K.lookup b with
  | some ⟨_, _, .func z, _⟩ => some ((z.name, z.qualname, z.params, z.body, z.scope), z.globals, z.closure, z.builtins)
  | _ => none
/-- one def: the way to it, what is written, its defaults -/
structure DX where
  way : PySem.W.Frag → Addr
  name : Str
  qual : Str
  st : Stmt
  dfl : List He.Dv := []
def DX.val (d : DX) : FnX := some ((d.name, d.qual, defArgs d.st, .stmts (defBody d.st), defScope d.st), mainGlobals, [], builtinsNs)
def DX.ok (K : PySem.W.Frag) (d : DX) : Bool := PySem.W.keepIn K (.ref (d.way K)) && match K.lookup (d.way K) with
  | some ⟨_, _, .func z, _⟩ => He.dflB K z.defaults (d.dfl.map (He.Dv.v K)) && PySem.W.codeIn K z.code d.qual
  | _ => false
theorem DX.fun_ {K : PySem.W.Frag} {d : DX} (e : fnX K (d.way K) = d.val) (c : d.ok K = true) : ∃ fd, FunD K d.name d.qual (defArgs d.st) (defBody d.st) (defScope d.st) (d.dfl.map (He.Dv.v K)) [] (d.way K) fd := by
  obtain ⟨kp, c2⟩ := He.ba c
  unfold fnX at e
  cases q : K.lookup (d.way K) with
  | none => rw [q] at c2; cases c2
  | some o =>
    rw [q] at c2 e
    match o, c2, e, q with
    | ⟨oc, od, .func ⟨z1, z2, z3, z4, z5, z6, z7, z8, z9, z10, z11, z12, z13, z14, z15⟩, osl⟩, c2, e, q =>
      obtain ⟨k1, k2⟩ := He.ba (show (He.dflB K z8 (d.dfl.map (He.Dv.v K)) && PySem.W.codeIn K z13 d.qual) = true from c2)
      have e2 : (some ((z1, z2, z3, z4, z5), z6, z7, z15) : FnX) = some ((d.name, d.qual, defArgs d.st, .stmts (defBody d.st), defScope d.st), mainGlobals, [], builtinsNs) := e
      simp only [Option.some.injEq, Prod.mk.injEq] at e2
      obtain ⟨⟨h1, h2, h3, h4, h5⟩, h6, h7, h8⟩ := e2
      subst h1 h2 h3 h4 h5 h6 h7 h8
      exact ⟨_, ⟨oc, od, z8, z9, z10, z11, z12, z13, z14, osl, rfl, q, k2, He.dflB_ok k1, .inl rfl⟩, kp⟩
/-- what is looked at behind the top: facts of the kit, facts of one's own, the defs -/
abbrev AlX : Type := Bool × List FnX
def obsX (fa : List He.Fa) (ex : List (PySem.W.Frag → Bool)) (fn : List DX) (K : PySem.W.Frag) : AlX := (((fa.all fun f => f.ok K) && ex.all fun f => f K) && fn.all fun d => d.ok K, fn.map fun d => fnX K (d.way K))
def valX (fn : List DX) : AlX := (true, fn.map DX.val)
def SaysX (fa : List He.Fa) (ex : List (PySem.W.Frag → Bool)) (fn : List DX) (K : PySem.W.Frag) : Prop := obsX fa ex fn K = valX fn
def obsXG (n : Nat) (fa : List He.Fa) (ex : List (PySem.W.Frag → Bool)) (fn : List DX) (g : Addr → Option Obj) : AlX := obsX fa ex fn (He.frG g (He.asD g n))
def hookX (n : Nat) (fa : List He.Fa) (ex : List (PySem.W.Frag → Bool)) (fn : List DX) : PySem.W.Hook where
  α := AlX
  obs s := obsXG n fa ex fn s.heap.get?
  val _ := valX fn
  says _ h := ∃ K : PySem.W.Frag, K.In h ∧ SaysX fa ex fn K
  of _ _ e := ⟨_, He.frG_in, e⟩
  keeps _ _ _ y k := let ⟨K, hK, c⟩ := y; ⟨K, PySem.W.Frag.In.keeps hK k, c⟩
theorem obsXG_eq {n : Nat} {fa : List He.Fa} {ex : List (PySem.W.Frag → Bool)} {fn : List DX} {g : Addr → Option Obj} {s : Shared} (h : ∀ a, g a = s.heap.get? a) : obsXG n fa ex fn g = (hookX n fa ex fn).obs s := by
  obtain rfl : g = s.heap.get? := funext h
  rfl
section
variable {fa : List He.Fa} {ex : List (PySem.W.Frag → Bool)} {fn : List DX} {K : PySem.W.Frag}
theorem SaysX.yes (c : SaysX fa ex fn K) : (((fa.all fun f => f.ok K) && ex.all fun f => f K) && fn.all fun d => d.ok K) = true := congrArg Prod.fst (show obsX fa ex fn K = valX fn from c)
theorem SaysX.fact (c : SaysX fa ex fn K) (i : Nat) {f : He.Fa} (h : fa[i]? = some f := by rfl) : f.ok K = true :=
  List.all_eq_true.mp (He.ba (He.ba c.yes).1).1 f (List.mem_of_getElem? h)
theorem SaysX.own (c : SaysX fa ex fn K) (i : Nat) {f : PySem.W.Frag → Bool} (h : ex[i]? = some f := by rfl) : f K = true :=
  List.all_eq_true.mp (He.ba (He.ba c.yes).1).2 f (List.mem_of_getElem? h)
theorem SaysX.def_ (c : SaysX fa ex fn K) (i : Nat) {d : DX} (h : fn[i]? = some d := by rfl) : ∃ fd, FunD K d.name d.qual (defArgs d.st) (defBody d.st) (defScope d.st) (d.dfl.map (He.Dv.v K)) [] (d.way K) fd := by
  refine DX.fun_ ?_ (List.all_eq_true.mp (He.ba c.yes).2 d (List.mem_of_getElem? h))
  have e : fn.map (fun d => fnX K (d.way K)) = fn.map DX.val := congrArg Prod.snd (show obsX fa ex fn K = valX fn from c)
  have e2 := congrArg (fun l => l[i]?) e
  simp only [List.getElem?_map, h] at e2
  exact Option.some.inj e2
end
/-! own facts, as tests -/
def kclsB (x : Str) (K : PySem.W.Frag) : Bool := (He.Fa.cls x).ok K && (He.eqO (PySem.W.findIn K (.ref (He.ga K x)) "__class__") (some (some (.builtin "object.__class__"))) && (He.eqO (PySem.W.specialIn K (.builtin "object.__class__") "__get__") (some (some (.builtin "getset_descriptor.__get__"))) &&
  (decide (PySem.W.takesIn K (.builtin "object.__class__") = some true) && decide (PySem.W.mroIn K (He.ga K x) (.type "object") = some true))))
theorem kclsB_ok {x : Str} {K : PySem.W.Frag} (h : kclsB x K = true) : KCls K (He.ga K x) := by
  obtain ⟨h1, h⟩ := He.ba h
  obtain ⟨h2, h⟩ := He.ba h
  obtain ⟨h3, h⟩ := He.ba h
  obtain ⟨h4, h5⟩ := He.ba h
  exact ⟨He.cls_ok h1, He.eqO_ok h2, He.eqO_ok h3, of_decide_eq_true h4, of_decide_eq_true h5⟩
def propB (x m : Str) (K : PySem.W.Frag) : Bool := He.eqO (PySem.W.findIn K (.ref (He.ga K x)) m) (some (some (.ref (He.ma K (He.ga K x) m)))) && (He.eqO (PySem.W.specialIn K (.ref (He.ma K (He.ga K x) m)) "__get__") (some (some (.builtin "property.__get__"))) &&
  (decide (PySem.W.takesIn K (.ref (He.ma K (He.ga K x) m)) = some true) && match PySem.W.recIn K (He.ma K (He.ga K x) m) "property" with
    | some (.ref _ :: _) => true
    | _ => false))
theorem propB_ok {x m : Str} {K : PySem.W.Frag} (h : propB x m K = true) : PropOf K (He.ga K x) m (He.ma K (He.ga K x) m) (gAd K x m) := by
  obtain ⟨h1, h⟩ := He.ba h
  obtain ⟨h2, h⟩ := He.ba h
  obtain ⟨h3, h4⟩ := He.ba h
  refine ⟨He.eqO_ok h1, He.eqO_ok h2, of_decide_eq_true h3, ?_⟩
  unfold gAd
  split at h4
  · rename_i b r e
    exact ⟨r, by rw [e]⟩
  · cases h4
def kitB (t c : PySem.W.Frag → Value) (K : PySem.W.Frag) : Bool := decide (PySem.W.kitOne K (t K) (c K) = some false)
theorem kitB_ok {t c : PySem.W.Frag → Value} {K : PySem.W.Frag} (h : kitB t c K = true) : PySem.W.kitOne K (t K) (c K) = some false := of_decide_eq_true h
/-- a built-in's class is not the own class -/
def isCB (x : Str) (K : PySem.W.Frag) : Bool := [BT.non, .bool, .int, .str, .tup, .lst, .dct].all fun t => decide (PySem.W.kitOne K (.type t.nm) (.ref (He.ga K x)) = some false)
theorem isCB_ok {x : Str} {K : PySem.W.Frag} (h : isCB x K = true) (t : BT) : PySem.W.kitOne K (.type t.nm) (.ref (He.ga K x)) = some false :=
  of_decide_eq_true (List.all_eq_true.mp h t (by cases t <;> decide))
def binB (x : Str) (nm : String) (m mr : Str) (K : PySem.W.Frag) : Bool := PySem.W.selfFirst K (He.ga K x) && (He.eqO (PySem.W.findIn K (.ref (He.ga K x)) (PySem.dunder nm)) (some (some (.ref (He.ma K (He.ga K x) m)))) &&
  (He.eqO (PySem.W.findIn K (.ref (He.ga K x)) (dunderR nm)) (some (some (.ref (He.ma K (He.ga K x) mr)))) && (PySem.W.isFn K (.ref (He.ma K (He.ga K x) m)) && (PySem.W.isFn K (.ref (He.ma K (He.ga K x) mr)) &&
  (decide (PySem.W.subIn K (.ref (He.ga K x)) (.type "int") = some false) && decide (PySem.W.kitOne K (.type "int") (.ref (He.ga K x)) = some false))))))
theorem binB_ok {x : Str} {nm : String} {m mr : Str} {K : PySem.W.Frag} (h : binB x nm m mr K = true) : BinC K (He.ga K x) nm (He.ma K (He.ga K x) m) (He.ma K (He.ga K x) mr) := by
  obtain ⟨h1, h⟩ := He.ba h
  obtain ⟨h2, h⟩ := He.ba h
  obtain ⟨h3, h⟩ := He.ba h
  obtain ⟨h4, h⟩ := He.ba h
  obtain ⟨h5, h⟩ := He.ba h
  obtain ⟨h6, h7⟩ := He.ba h
  exact ⟨h1, He.eqO_ok h2, He.eqO_ok h3, h4, h5, of_decide_eq_true h6, of_decide_eq_true h7⟩
end L3
set_option Elab.async false
set_option linter.all false
set_option maxRecDepth 100000
set_option maxHeartbeats 4000000
namespace L3
open PySem PySem.Spec PyProof.Rows L2
/-! ### what a reading computes: plain rules -/
def T {α : Type} (m : M α) (ρ : List S) (Q : α → List S → Prop) : Prop := ∃ x ρ', m ρ = some (.ok x, ρ') ∧ Q x ρ'
def Lf {α : Type} (o : Option α) (P : α → Prop) : Prop := ∃ z, o = some z ∧ P z
/-- data in, data out -/
def GD (g : G) (ds : List D) (d : D) : Prop := ∃ ss', g (ds.map .dat) = some (.ok (.dat d), ss') ∧ ds.length ≤ ss'.length
/-- the first argument is changed in place -/
def GS (g : G) (o : OB) (ds : List D) (P : S → OB → Prop) : Prop := ∃ r o' tl, g (.par o :: ds.map .dat) = some (.ok r, .par o' :: tl) ∧ ds.length ≤ tl.length ∧ P r o'
/-- data in, an object of its own out -/
def GO (g : G) (ds : List D) (o : OB) : Prop := ∃ ss', g (ds.map .dat) = some (.ok (.own o), ss') ∧ ds.length ≤ ss'.length
section
variable {α β : Type} {ρ : List S} {d : D}
theorem Lf.some {z : α} {P : α → Prop} (h : P z) : Lf (some z) P := ⟨z, rfl, h⟩
theorem T.imp {m : M α} {Q Q' : α → List S → Prop} (h : T m ρ Q) (k : ∀ x ρ', Q x ρ' → Q' x ρ') : T m ρ Q' := by
  obtain ⟨x, ρ', e, q⟩ := h
  exact ⟨x, ρ', e, k _ _ q⟩
theorem T_bind {m : M α} {f : α → M β} {Q : β → List S → Prop} (h : T m ρ fun x ρ1 => T (f x) ρ1 Q) : T (m.bind f) ρ Q := by
  obtain ⟨x, ρ1, e, y, ρ2, e2, q⟩ := h
  refine ⟨y, ρ2, ?_, q⟩
  unfold M.bind
  rw [e]
  exact e2
theorem T_pure {a : α} {Q : α → List S → Prop} (h : Q a ρ) : T (M.pure a) ρ Q := ⟨a, ρ, rfl, h⟩
theorem T_lift {o : Option α} {Q : α → List S → Prop} (h : Lf o fun z => Q z ρ) : T (M.lift o) ρ Q := by
  obtain ⟨z, rfl, q⟩ := h
  exact ⟨z, ρ, rfl, q⟩
theorem T_var {i : Nat} {Q : D → List S → Prop} (h : ρ[i]? = some (.dat d)) (q : Q d ρ) : T (mVar i) ρ Q := by
  refine ⟨d, ρ, ?_, q⟩
  unfold mVar
  rw [h]
theorem T_dat {i : Nat} {Q : D → List S → Prop} (h : ρ[i]? = some (.dat d)) (q : Q d ρ) : T (mDat i) ρ Q := by
  refine ⟨d, ρ, ?_, q⟩
  unfold mDat
  rw [h]
theorem T_dato {i : Nat} {o : OB} {Q : D → List S → Prop} (h : ρ[i]? = some (.own o)) (q : Q o.toD (ρ.set i (.dat o.toD))) : T (mDat i) ρ Q := by
  refine ⟨o.toD, _, ?_, q⟩
  unfold mDat
  rw [h]
theorem T_c {Q : D → List S → Prop} (q : Q d ρ) : T (mC d) ρ Q := ⟨d, ρ, rfl, q⟩
theorem T_op {f : D → D → Option D} {a b : M D} {Q : D → List S → Prop} (h : T a ρ fun x ρ1 => T b ρ1 fun y ρ2 => Lf (f x y) fun z => Q z ρ2) : T (mOp f a b) ρ Q :=
  T_bind (h.imp fun _ _ h => T_bind (h.imp fun _ _ h => T_lift h))
theorem T_un {f : D → Option D} {a : M D} {Q : D → List S → Prop} (h : T a ρ fun x ρ1 => Lf (f x) fun z => Q z ρ1) : T (mUn f a) ρ Q := T_bind (h.imp fun _ _ h => T_lift h)
theorem T_args0 {Q : List D → List S → Prop} (q : Q [] ρ) : T (mArgs []) ρ Q := ⟨[], ρ, rfl, q⟩
theorem T_args1 {m : M D} {ms : List (M D)} {Q : List D → List S → Prop} (h : T m ρ fun x ρ1 => T (mArgs ms) ρ1 fun xs ρ2 => Q (x :: xs) ρ2) : T (mArgs (m :: ms)) ρ Q :=
  T_bind (h.imp fun _ _ h => T_bind (h.imp fun _ _ h => T_pure h))
theorem T_cb {f : List D → Option D} {as : List (M D)} {Q : D → List S → Prop} (h : T (mArgs as) ρ fun xs ρ1 => Lf (f xs) fun z => Q z ρ1) : T (mCB f as) ρ Q := T_bind (h.imp fun _ _ h => T_lift h)
theorem T_test {a : M D} {Q : Bool → List S → Prop} (h : T a ρ fun x ρ1 => Lf (asB x) fun z => Q z ρ1) : T (mTest a) ρ Q := T_bind (h.imp fun _ _ h => T_lift h)
theorem T_not {a : M Bool} {Q : Bool → List S → Prop} (h : T a ρ fun x ρ1 => bif x then Q false ρ1 else Q true ρ1) : T (mNot a) ρ Q := T_bind (h.imp fun x _ h => T_pure (by cases x <;> exact h))
theorem T_and {a b : M Bool} {Q : Bool → List S → Prop} (h : T a ρ fun x ρ1 => bif x then T b ρ1 Q else Q false ρ1) : T (mAnd a b) ρ Q :=
  T_bind (h.imp fun x _ h => by cases x <;> first | exact T_pure h | exact h)
theorem T_or {a b : M Bool} {Q : Bool → List S → Prop} (h : T a ρ fun x ρ1 => bif x then Q true ρ1 else T b ρ1 Q) : T (mOr a b) ρ Q :=
  T_bind (h.imp fun x _ h => by cases x <;> first | exact h | exact T_pure h)
theorem T_andV {a b : M D} {Q : D → List S → Prop} (h : T a ρ fun x ρ1 => Lf (asB x) fun t => bif t then T b ρ1 Q else Q (.bl false) ρ1) : T (mAndV a b) ρ Q :=
  T_bind (h.imp fun x _ h => T_bind (T_lift (by obtain ⟨z, e, h⟩ := h; exact ⟨z, e, by cases z <;> first | exact T_pure h | exact h⟩)))
theorem T_orV {a b : M D} {Q : D → List S → Prop} (h : T a ρ fun x ρ1 => Lf (asB x) fun t => bif t then Q (.bl true) ρ1 else T b ρ1 Q) : T (mOrV a b) ρ Q :=
  T_bind (h.imp fun x _ h => T_bind (T_lift (by obtain ⟨z, e, h⟩ := h; exact ⟨z, e, by cases z <;> first | exact h | exact T_pure h⟩)))
theorem T_notV {a : M D} {Q : D → List S → Prop} (h : T a ρ fun x ρ1 => Lf (asB x) fun t => bif t then Q (.bl false) ρ1 else Q (.bl true) ρ1) : T (mNotV a) ρ Q :=
  T_bind (h.imp fun x _ h => T_bind (T_lift (by obtain ⟨z, e, h⟩ := h; exact ⟨z, e, T_pure (by cases z <;> exact h)⟩)))
theorem T_if {t : M Bool} {a b : M D} {Q : D → List S → Prop} (h : T t ρ fun x ρ1 => bif x then T a ρ1 Q else T b ρ1 Q) : T (mIf t a b) ρ Q :=
  T_bind (h.imp fun x _ h => by cases x <;> exact h)
theorem T_ifS {t : M Bool} {a b : M Fl} {Q : Fl → List S → Prop} (h : T t ρ fun x ρ1 => bif x then T a ρ1 Q else T b ρ1 Q) : T (mIfS t a b) ρ Q :=
  T_bind (h.imp fun x _ h => by cases x <;> exact h)
theorem T_both {f g : D → D → Option D} {a b c : M D} {Q : D → List S → Prop} (h : T a ρ fun x ρ1 => T b ρ1 fun y ρ2 => Lf (f x y) fun z => Lf (asB z) fun t => bif t then T c ρ2 fun u ρ3 => Lf (g y u) fun z => Q z ρ3 else Q (.bl false) ρ2) : T (mBoth f g a b c) ρ Q :=
  T_bind (h.imp fun x _ h => T_bind (h.imp fun y _ h => T_bind (T_lift (by
    obtain ⟨z, e, t, e2, h⟩ := h
    refine ⟨z, e, T_bind (T_lift ⟨t, e2, ?_⟩)⟩
    cases t with
    | true => exact T_bind (T.imp h fun _ _ h => T_lift h)
    | false => exact T_pure h))))
theorem T_frz {m : M OB} {Q : D → List S → Prop} (h : T m ρ fun o ρ1 => Q o.toD ρ1) : T (mFrz m) ρ Q := T_bind (h.imp fun _ _ h => T_pure h)
theorem T_lst {as : List (M D)} {Q : OB → List S → Prop} (h : T (mArgs as) ρ fun xs ρ1 => xs.length ≤ 1000000 ∧ Q (.lst xs) ρ1) : T (mLst as) ρ Q :=
  T_bind (h.imp fun xs _ h => T_lift (by rw [if_pos h.1]; exact .some h.2))
theorem T_tup {as : List (M D)} {Q : D → List S → Prop} (h : T (mArgs as) ρ fun xs ρ1 => xs.length ≤ 1000000 ∧ Q (.tup xs) ρ1) : T (mTup as) ρ Q :=
  T_bind (h.imp fun xs _ h => T_lift (by rw [if_pos h.1]; exact .some h.2))
/-! statements -/
theorem T_seq {a b : M Fl} {Q : Fl → List S → Prop} (h : T a ρ fun f ρ1 => match f with
    | .nx => T b ρ1 Q
    | f => Q f ρ1) : T (mSeq a b) ρ Q := by
  obtain ⟨f, ρ1, e, h⟩ := h
  cases f with
  | nx =>
    obtain ⟨x, ρ2, e2, q⟩ := h
    exact ⟨x, ρ2, by unfold mSeq; rw [e]; exact e2, q⟩
  | bk => exact ⟨_, _, by unfold mSeq; rw [e], h⟩
  | ct => exact ⟨_, _, by unfold mSeq; rw [e], h⟩
  | rt s => exact ⟨_, _, by unfold mSeq; rw [e], h⟩
theorem T_skip {Q : Fl → List S → Prop} (h : Q .nx ρ) : T mSkip ρ Q := T_pure h
theorem T_brk {Q : Fl → List S → Prop} (h : Q .bk ρ) : T mBrk ρ Q := T_pure h
theorem T_cnt {Q : Fl → List S → Prop} (h : Q .ct ρ) : T mCnt ρ Q := T_pure h
theorem T_ret {a : M D} {Q : Fl → List S → Prop} (h : T a ρ fun d ρ1 => Q (.rt (.dat d)) ρ1) : T (mRet a) ρ Q := T_bind (h.imp fun _ _ h => T_pure h)
theorem T_retO {a : M OB} {Q : Fl → List S → Prop} (h : T a ρ fun d ρ1 => Q (.rt (.own d)) ρ1) : T (mRetO a) ρ Q := T_bind (h.imp fun _ _ h => T_pure h)
theorem T_drop {a : M D} {Q : Fl → List S → Prop} (h : T a ρ fun d ρ1 => Q .nx ρ1) : T (mDrop a) ρ Q := T_bind (h.imp fun _ _ h => T_pure h)
theorem T_set {a : M D} {p : Put} {Q : Fl → List S → Prop} (h : T a ρ fun d ρ1 => Lf (p d ρ1) fun ρ2 => Q .nx ρ2) : T (mSet a p) ρ Q := by
  refine T_bind (h.imp fun d ρ1 h => ?_)
  obtain ⟨ρ2, e, q⟩ := h
  exact ⟨.nx, ρ2, by dsimp only; rw [e], q⟩
theorem T_setN {a : M D} {i : Nat} {Q : Fl → List S → Prop} (h : T a ρ fun d ρ1 => Q .nx (ρ1.set i (.dat d))) : T (mSet a (pName i)) ρ Q := T_set (h.imp fun _ _ h => .some h)
theorem T_setO {a : M OB} {i : Nat} {Q : Fl → List S → Prop} (h : T a ρ fun d ρ1 => Q .nx (ρ1.set i (.own d))) : T (mSetO i a) ρ Q := T_bind (h.imp fun _ _ h => ⟨_, _, rfl, h⟩)
theorem T_par {a b : M D} {i j : Nat} {Q : Fl → List S → Prop} (h : T a ρ fun x ρ1 => T b ρ1 fun y ρ2 => Q .nx ((ρ2.set i (.dat x)).set j (.dat y))) : T (mPar i j a b) ρ Q :=
  T_bind (h.imp fun _ _ h => T_bind (h.imp fun _ _ h => ⟨_, _, rfl, h⟩))
theorem T_par3 {a b c : M D} {i j l : Nat} {Q : Fl → List S → Prop} (h : T a ρ fun x ρ1 => T b ρ1 fun y ρ2 => T c ρ2 fun z ρ3 => Q .nx (((ρ3.set i (.dat x)).set j (.dat y)).set l (.dat z))) : T (mPar3 i j l a b c) ρ Q :=
  T_bind (h.imp fun _ _ h => T_bind (h.imp fun _ _ h => T_bind (h.imp fun _ _ h => ⟨_, _, rfl, h⟩)))
/-! loops -/
theorem T_items {f : D → Option (List D)} {a : M D} {Q : List D → List S → Prop} (h : T a ρ fun x ρ1 => Lf (f x) fun z => Q z ρ1) : T (mItems f a) ρ Q := T_bind (h.imp fun _ _ h => T_lift h)
theorem T_itemsN {f : List D → Option (List D)} {as : List (M D)} {Q : List D → List S → Prop} (h : T (mArgs as) ρ fun x ρ1 => Lf (f x) fun z => Q z ρ1) : T (mItemsN f as) ρ Q := T_bind (h.imp fun _ _ h => T_lift h)
theorem T_for {it : M (List D)} {p : Put} {b : M Fl} {Q : Fl → List S → Prop} (h : T it ρ fun ds ρ1 => T (loopD p b ds) ρ1 Q) : T (mFor it p b) ρ Q := T_bind h
theorem T_loop0 {p : Put} {b : M Fl} {Q : Fl → List S → Prop} (h : Q .nx ρ) : T (loopD p b []) ρ Q := T_pure h
theorem T_loop1 {p : Put} {b : M Fl} {ds : List D} {Q : Fl → List S → Prop} (h : Lf (p d ρ) fun ρ1 => T b ρ1 fun f ρ2 => (f = .nx ∨ f = .ct) ∧ T (loopD p b ds) ρ2 Q) : T (loopD p b (d :: ds)) ρ Q := by
  obtain ⟨ρ1, e1, f, ρ2, e2, hf, x, ρ3, e3, q⟩ := h
  refine ⟨x, ρ3, ?_, q⟩
  show (match p d ρ with
    | none => none
    | some ρ1 => match b ρ1 with
      | some (.ok .nx, ρ2) => loopD p b ds ρ2
      | some (.ok .ct, ρ2) => loopD p b ds ρ2
      | some (.ok .bk, ρ2) => some (.ok .nx, ρ2)
      | some (.ok (.rt s), ρ2) => some (.ok (.rt s), ρ2)
      | some (.ex x, ρ2) => some (.ex x, ρ2)
      | none => none) = _
  rw [e1]
  show (match b ρ1 with
      | some (.ok .nx, ρ2) => loopD p b ds ρ2
      | some (.ok .ct, ρ2) => loopD p b ds ρ2
      | some (.ok .bk, ρ2) => some (.ok .nx, ρ2)
      | some (.ok (.rt s), ρ2) => some (.ok (.rt s), ρ2)
      | some (.ex x, ρ2) => some (.ex x, ρ2)
      | none => none) = _
  rw [e2]
  rcases hf with rfl | rfl <;> exact e3
/-- by an invariant of what is left -/
theorem T_loop {p : Put} {b : M Fl} {Q : Fl → List S → Prop} (I : List D → List S → Prop) (turn : ∀ d ds ρ, I (d :: ds) ρ → Lf (p d ρ) fun ρ1 => T b ρ1 fun f ρ2 => (f = .nx ∨ f = .ct) ∧ I ds ρ2) (fin : ∀ ρ, I [] ρ → Q .nx ρ) :
    ∀ (ds : List D) (ρ : List S), I ds ρ → T (loopD p b ds) ρ Q
  | [], ρ, h => T_loop0 (fin ρ h)
  | d :: ds, ρ, h => by
    obtain ⟨ρ1, e1, k⟩ := turn d ds ρ h
    exact T_loop1 ⟨ρ1, e1, k.imp fun f ρ2 h => ⟨h.1, T_loop I turn fin ds ρ2 h.2⟩⟩
theorem T_whl {fuel : List S → Nat} {t : M Bool} {b : M Fl} {Q : Fl → List S → Prop} {n : Nat} (hn : fuel ρ = n) (h : T (whl t b n) ρ Q) : T (mWhl fuel t b) ρ Q := by
  subst hn
  exact h
theorem T_whl1 {t : M Bool} {b : M Fl} {n : Nat} {Q : Fl → List S → Prop} (h : T t ρ fun x ρ1 => bif x then T b ρ1 fun f ρ2 => (f = .nx ∨ f = .ct) ∧ T (whl t b n) ρ2 Q else Q .nx ρ1) : T (whl t b (n + 1)) ρ Q := by
  refine T_bind (h.imp fun x ρ1 h => ?_)
  cases x with
  | false => exact T_pure h
  | true =>
    obtain ⟨f, ρ2, e2, hf, y, ρ3, e3, q⟩ := h
    refine ⟨y, ρ3, ?_, q⟩
    rw [if_pos rfl]
    show (match b ρ1 with
      | some (.ok .nx, ρ1) => whl t b n ρ1
      | some (.ok .ct, ρ1) => whl t b n ρ1
      | some (.ok .bk, ρ1) => some (.ok .nx, ρ1)
      | some (.ok (.rt s), ρ1) => some (.ok (.rt s), ρ1)
      | some (.ex x, ρ1) => some (.ex x, ρ1)
      | none => none) = _
    rw [e2]
    rcases hf with rfl | rfl <;> exact e3
/-! calls -/
def agD : List Ag → Option (List D)
  | [] => some []
  | .d x :: gs => (agD gs).map (x :: ·)
  | .s _ :: _ => none
theorem agD_some : ∀ {gs : List Ag} {ds : List D}, agD gs = some ds → gs = ds.map Ag.d
  | [], ds, h => by cases h; rfl
  | .d x :: gs, ds, h => by
    have h' : (agD gs).map (x :: ·) = some ds := h
    cases e : agD gs with
    | none => rw [e] at h'; cases h'
    | some es => rw [e] at h'; cases h'; rw [agD_some e]; rfl
  | .s _ :: _, _, h => by cases h
theorem wback_d' (ρ : List S) : ∀ (ds : List D) (ss : List S), ds.length ≤ ss.length → wback (ds.map Ag.d) ss ρ = some ρ
  | [], _, _ => rfl
  | _ :: ds, [], h => by simp at h
  | _ :: ds, _ :: ss, h => wback_d' ρ ds ss (by simpa using h)
theorem T_ags0 {Q : List Ag → List S → Prop} (h : Q [] ρ) : T (mAgs []) ρ Q := T_pure h
theorem T_ags1 {m : M D} {as : List AgM} {Q : List Ag → List S → Prop} (h : T m ρ fun x ρ1 => T (mAgs as) ρ1 fun gs ρ2 => Q (.d x :: gs) ρ2) : T (mAgs (.d m :: as)) ρ Q :=
  T_bind (h.imp fun _ _ h => T_bind (h.imp fun _ _ h => T_pure h))
def isOb : Option S → Option OB
  | some (.own o) => some o
  | some (.par o) => some o
  | _ => none
theorem isOb_some {x : Option S} {o : OB} (h : isOb x = some o) : x = some (.own o) ∨ x = some (.par o) := by
  match x, h with
  | some (.own _), h => cases h; exact .inl rfl
  | some (.par _), h => cases h; exact .inr rfl
theorem T_agsS {i : Nat} {o : OB} {as : List AgM} {Q : List Ag → List S → Prop} (ho : isOb ρ[i]? = some o) (h : T (mAgs as) ρ fun gs ρ2 => Q (.s i :: gs) ρ2) : T (mAgs (.s i :: as)) ρ Q := by
  have k : T ((mAgs as).bind fun xs => M.pure (.s i :: xs)) ρ Q := T_bind (h.imp fun _ _ h => T_pure h)
  obtain ⟨x, ρ', e, q⟩ := k
  refine ⟨x, ρ', ?_, q⟩
  rcases isOb_some ho with z | z
  · show (match ρ[i]? with
      | some (.own _) => (mAgs as).bind (fun xs => M.pure (Ag.s i :: xs)) ρ
      | some (.par _) => (mAgs as).bind (fun xs => M.pure (Ag.s i :: xs)) ρ
      | _ => none) = _
    rw [z]
    exact e
  · show (match ρ[i]? with
      | some (.own _) => (mAgs as).bind (fun xs => M.pure (Ag.s i :: xs)) ρ
      | some (.par _) => (mAgs as).bind (fun xs => M.pure (Ag.s i :: xs)) ρ
      | _ => none) = _
    rw [z]
    exact e
theorem T_call {n : Nat} {g : G} {dds : List D} {as : M (List Ag)} {Q : D → List S → Prop} (h : T as ρ fun gs ρ1 => T (callAt n g dds gs) ρ1 fun r ρ2 => Lf (asD r) fun d => Q d ρ2) : T (mCall n g dds as) ρ Q :=
  T_bind (T_bind (h.imp fun _ _ h => h.imp fun _ _ h => T_lift h))
theorem T_callO {n : Nat} {g : G} {dds : List D} {as : M (List Ag)} {Q : OB → List S → Prop} (h : T as ρ fun gs ρ1 => T (callAt n g dds gs) ρ1 fun r ρ2 => Lf (asO r) fun d => Q d ρ2) : T (mCallO n g dds as) ρ Q :=
  T_bind (T_bind (h.imp fun _ _ h => h.imp fun _ _ h => T_lift h))
theorem callAt_d {n : Nat} {g : G} {dds ds : List D} {r : S} {ss' : List S} (hn : ds.length + dds.length = n) (h : g ((ds ++ dds).map .dat) = some (.ok r, ss')) (hl : (ds ++ dds).length ≤ ss'.length) : callAt n g dds (ds.map Ag.d) ρ = some (.ok r, ρ) := by
  unfold callAt
  rw [if_pos ⟨by rw [slots_d]; exact List.nodup_nil, by rw [List.length_map]; exact hn⟩, conts_d]
  show (match g (ds.map S.dat ++ dds.map S.dat) with
    | none => none
    | some (r, ss') => match wback (ds.map Ag.d) ss' ρ with
      | none => none
      | some ρ' => some (r, ρ')) = _
  rw [← List.map_append, h]
  show (match wback (ds.map Ag.d) ss' ρ with
      | none => none
      | some ρ' => some (R.ok r, ρ')) = _
  rw [wback_d' ρ ds ss' (by rw [List.length_append] at hl; omega)]
theorem T_cal {n : Nat} {g : G} {dds ds : List D} {gs : List Ag} {Q : S → List S → Prop} (hs : agD gs = some ds) (hn : ds.length + dds.length = n) (h : GD g (ds ++ dds) d) (q : Q (.dat d) ρ) : T (callAt n g dds gs) ρ Q := by
  rw [agD_some hs]
  obtain ⟨ss', e, hl⟩ := h
  exact ⟨_, _, callAt_d hn e hl, q⟩
theorem T_calO {n : Nat} {g : G} {o : OB} {dds ds : List D} {gs : List Ag} {Q : S → List S → Prop} (hs : agD gs = some ds) (hn : ds.length + dds.length = n) (h : GO g (ds ++ dds) o) (q : Q (.own o) ρ) : T (callAt n g dds gs) ρ Q := by
  rw [agD_some hs]
  obtain ⟨ss', e, hl⟩ := h
  exact ⟨_, _, callAt_d hn e hl, q⟩
theorem T_calS {n i : Nat} {g : G} {o : OB} {dds ds : List D} {gs : List Ag} {Q : S → List S → Prop} (ho : isOb ρ[i]? = some o) (hs : agD gs = some ds) (hn : ds.length + dds.length + 1 = n) (h : GS g o (ds ++ dds) fun r o' => Q r (putAt ρ i o')) : T (callAt n g dds (.s i :: gs)) ρ Q := by
  rw [agD_some hs]
  obtain ⟨r, o', tl, e, hl, q⟩ := h
  refine ⟨_, _, ?_, q⟩
  unfold callAt
  have sl : slotsOf (.s i :: ds.map Ag.d) = [i] := by
    show i :: slotsOf (ds.map Ag.d) = [i]
    rw [slots_d]
  have ct : contents ρ (.s i :: ds.map Ag.d) = some (.par o :: ds.map S.dat) := by
    have c1 : content ρ (.s i) = some (.par o) := by
      show (match ρ[i]? with
        | some (.own o) => some (S.par o)
        | some (.par o) => some (S.par o)
        | _ => none) = _
      rcases isOb_some ho with z | z <;> rw [z]
    show (match content ρ (.s i), contents ρ (ds.map Ag.d) with
      | some s, some ss => some (s :: ss)
      | _, _ => none) = _
    rw [c1, conts_d]
  rw [if_pos ⟨by rw [sl]; simp, by rw [List.length_cons, List.length_map]; omega⟩, ct]
  show (match g (.par o :: (ds.map S.dat ++ dds.map S.dat)) with
    | none => none
    | some (r, ss') => match wback (.s i :: ds.map Ag.d) ss' ρ with
      | none => none
      | some ρ' => some (r, ρ')) = _
  rw [← List.map_append, e]
  show (match wback (ds.map Ag.d) tl (putAt ρ i o') with
      | none => none
      | some ρ' => some (R.ok r, ρ')) = _
  rw [wback_d' _ ds tl (by rw [List.length_append] at hl; omega)]
/-! objects -/
theorem T_slot {i : Nat} {o : OB} {Q : OB → List S → Prop} (ho : isOb ρ[i]? = some o) (q : Q o ρ) : T (mSlot i) ρ Q := by
  refine ⟨o, ρ, ?_, q⟩
  unfold mSlot
  rcases isOb_some ho with z | z <;> rw [z]
theorem T_slotL {i : Nat} {ds : List D} {Q : List D → List S → Prop} (ho : isOb ρ[i]? = some (.lst ds)) (q : Q ds ρ) : T (mSlotL i) ρ Q := by
  refine ⟨ds, ρ, ?_, q⟩
  unfold mSlotL
  rcases isOb_some ho with z | z <;> rw [z]
theorem T_fldS {i : Nat} {C : Addr} {f : Str} {o : OB} {Q : D → List S → Prop} (ho : isOb ρ[i]? = some o) (q : Lf (fldO C f o) fun z => Q z ρ) : T (mFldS i C f) ρ Q := T_bind (T_slot ho (T_lift q))
theorem T_setF {i : Nat} {C : Addr} {f : Str} {a : M D} {Q : Fl → List S → Prop} (h : T a ρ fun d ρ1 => ∃ fs, isOb ρ1[i]? = some (.ins C fs) ∧ fs.length < 900 ∧ Q .nx (putAt ρ1 i (.ins C (putD f d fs)))) : T (mSetF i C f a) ρ Q := by
  refine T_bind (h.imp fun d ρ1 h => ?_)
  obtain ⟨fs, h1, h2, q⟩ := h
  exact T_bind (T_slot h1 ⟨_, _, if_pos ⟨rfl, h2⟩, q⟩)
theorem T_ixS {i : Nat} {k : M D} {ds : List D} {Q : D → List S → Prop} (ho : isOb ρ[i]? = some (.lst ds)) (h : T k ρ fun kd ρ1 => isOb ρ1[i]? = some (.lst ds) ∧ Lf (ixD ds kd) fun z => Q z ρ1) : T (mIxS i k) ρ Q :=
  T_bind (T_slot ho (T_bind (h.imp fun kd ρ1 h => T_bind (T_slot h.1 (T_lift h.2)))))
theorem T_setIx {i : Nat} {k a : M D} {Q : Fl → List S → Prop} (h : T a ρ fun d ρ1 => ∃ ds, isOb ρ1[i]? = some (.lst ds) ∧ T k ρ1 fun kd ρ2 => isOb ρ2[i]? = some (.lst ds) ∧ Lf (ixOf ds kd) fun n => Q .nx (putAt ρ2 i (.lst (ds.set n d)))) : T (mSetIx i k a) ρ Q := by
  refine T_bind (h.imp fun d ρ1 h => ?_)
  obtain ⟨ds, h1, h⟩ := h
  refine T_bind (T_slot h1 (T_bind (h.imp fun kd ρ2 h => T_bind (T_slotL h.1 (T_bind (T_lift ?_))))))
  obtain ⟨n, e, q⟩ := h.2
  exact ⟨n, e, _, _, rfl, q⟩
theorem T_app {i : Nat} {a : M D} {ds : List D} {Q : Fl → List S → Prop} (ho : isOb ρ[i]? = some (.lst ds)) (h : T a ρ fun d ρ1 => isOb ρ1[i]? = some (.lst ds) ∧ ds.length < 1000000 ∧ Q .nx (putAt ρ1 i (.lst (ds ++ [d])))) : T (mApp i a) ρ Q :=
  T_bind (T_slotL ho (T_bind (h.imp fun d ρ1 h => T_bind (T_slotL h.1 ⟨_, _, if_pos h.2.1, h.2.2⟩))))
theorem T_lenS {i : Nat} {ds : List D} {Q : D → List S → Prop} (ho : isOb ρ[i]? = some (.lst ds)) (q : Q (.int ds.length) ρ) : T (mLenS i) ρ Q := T_bind (T_slotL ho (T_pure q))
theorem T_mk {C : Addr} {n : Nat} {g : G} {dds : List D} {as : M (List Ag)} {Q : OB → List S → Prop} (h : T as ρ fun gs ρ1 => ∃ ds, agD gs = some ds ∧ ds.length + dds.length + 1 = n ∧ GS g (.ins C []) (ds ++ dds) fun r o => r = .dat .non ∧ Q o ρ1) : T (mMk C n g dds as) ρ Q := by
  refine T_bind (h.imp fun gs ρ1 h => ?_)
  obtain ⟨ds, hs, hn, r, o', tl, e, hl, rfl, q⟩ := h
  rw [agD_some hs]
  refine ⟨o', ρ1, ?_, q⟩
  dsimp only
  rw [if_pos ⟨by rw [slots_d]; exact List.nodup_nil, by rw [List.length_map]; exact hn⟩, conts_d]
  show (match g (.par (.ins C []) :: (ds.map S.dat ++ dds.map S.dat)) with
    | some (.ok (.dat .non), .par o :: ss') => match wback (ds.map Ag.d) ss' ρ1 with
      | none => none
      | some ρ' => some (R.ok o, ρ')
    | some (.ex x, .par _ :: ss') => match wback (ds.map Ag.d) ss' ρ1 with
      | none => none
      | some ρ' => some (.ex x, ρ')
    | _ => none) = _
  rw [← List.map_append, e]
  show (match wback (ds.map Ag.d) tl ρ1 with
      | none => none
      | some ρ' => some (R.ok o', ρ')) = _
  rw [wback_d' _ ds tl (by rw [List.length_append] at hl; omega)]
theorem T_mthD {C : Addr} {m : Str} {n : Nat} {g : G} {dds : List D} {r : M D} {as : M (List Ag)} {Q : D → List S → Prop} (h : T r ρ fun d ρ1 => Lf (recvD C m d) fun gr => T as ρ1 fun gs ρ2 => T (callAt n g dds (gr :: gs)) ρ2 fun r ρ3 => Lf (asD r) fun d => Q d ρ3) :
    T (mMth C m n g dds (.d r) as) ρ Q := by
  refine T_bind (T_bind (T_bind (h.imp fun d ρ1 h => T_lift ?_)))
  obtain ⟨gr, e, h⟩ := h
  exact ⟨gr, e, T_bind (h.imp fun gs ρ2 h => h.imp fun r ρ3 h => T_lift h)⟩
def GDx (g : G) (ds : List D) (P : D → Prop) : Prop := ∃ z, GD g ds z ∧ P z
theorem gdx {g : G} {ds : List D} {z : D} {P : D → Prop} (h : GD g ds z) (q : P z) : GDx g ds P := ⟨z, h, q⟩
theorem T_prop {C : Addr} {g : G} {me : M D} {Q : D → List S → Prop} (h : T me ρ fun d ρ1 => Lf (recvP C d) fun _ => GDx g [d] fun z => Q z ρ1) : T (mProp C g me) ρ Q := by
  refine T_bind (h.imp fun d ρ1 h => ?_)
  obtain ⟨gr, e, z, ⟨ss', e2, _⟩, q⟩ := h
  refine T_bind (T_lift ⟨gr, e, z, ρ1, ?_, q⟩)
  dsimp only
  rw [show g [S.dat d] = _ from e2]
theorem T_callD {g : G} {ds : List D} {z : D} {Q : D → List S → Prop} (h : GD g ds z) (q : Q z ρ) : T (callD g ds) ρ Q := by
  obtain ⟨ss', e, _⟩ := h
  refine ⟨z, ρ, ?_, q⟩
  unfold callD
  rw [e]
theorem T_opI {C : Addr} {prim : D → D → Option D} {gf gr : G} {a b : M D} {Q : D → List S → Prop} (h : T a ρ fun x ρ1 => T b ρ1 fun y ρ2 => T (opI C prim gf gr x y) ρ2 Q) : T (mOpI C prim gf gr a b) ρ Q :=
  T_bind (h.imp fun _ _ h => T_bind h)
theorem T_opII {C : Addr} {prim : D → D → Option D} {gf gr : G} {fs fs' : List (Str × D)} {z : D} {Q : D → List S → Prop} (h : GD gf [.ins C fs, .ins C fs'] z) (q : Q z ρ) : T (opI C prim gf gr (.ins C fs) (.ins C fs')) ρ Q := by
  show T (if C = C ∧ C = C then callD gf [.ins C fs, .ins C fs'] else fun _ => none) ρ Q
  rw [if_pos ⟨rfl, rfl⟩]
  exact T_callD h q
theorem T_opIi {C : Addr} {prim : D → D → Option D} {gf gr : G} {fs : List (Str × D)} {j : Int} {z : D} {Q : D → List S → Prop} (h : GD gf [.ins C fs, .int j] z) (q : Q z ρ) : T (opI C prim gf gr (.ins C fs) (.int j)) ρ Q := by
  show T (if C = C then callD gf [.ins C fs, .int j] else fun _ => none) ρ Q
  rw [if_pos rfl]
  exact T_callD h q
theorem T_opiI {C : Addr} {prim : D → D → Option D} {gf gr : G} {fs : List (Str × D)} {j : Int} {z : D} {Q : D → List S → Prop} (h : GD gr [.ins C fs, .int j] z) (q : Q z ρ) : T (opI C prim gf gr (.int j) (.ins C fs)) ρ Q := by
  show T (if C = C then callD gr [.ins C fs, .int j] else fun _ => none) ρ Q
  rw [if_pos rfl]
  exact T_callD h q
theorem T_unI {C : Addr} {prim : D → Option D} {g : G} {a : M D} {Q : D → List S → Prop} (h : T a ρ fun x ρ1 => T (unI C prim g x) ρ1 Q) : T (mUnI C prim g a) ρ Q := T_bind h
theorem T_unI1 {C : Addr} {prim : D → Option D} {g : G} {fs : List (Str × D)} {z : D} {Q : D → List S → Prop} (h : GD g [.ins C fs] z) (q : Q z ρ) : T (unI C prim g (.ins C fs)) ρ Q := by
  show T (if C = C then callD g [.ins C fs] else fun _ => none) ρ Q
  rw [if_pos rfl]
  exact T_callD h q
theorem T_cbI {C : Addr} {prim : List D → Option D} {g : G} {as : List (M D)} {Q : D → List S → Prop} (h : T (mArgs as) ρ fun x ρ1 => T (unL C prim g x) ρ1 Q) : T (mCBI C prim g as) ρ Q := T_bind h
theorem T_cbI1 {C : Addr} {prim : List D → Option D} {g : G} {fs : List (Str × D)} {z : D} {Q : D → List S → Prop} (h : GD g [.ins C fs] z) (q : Q z ρ) : T (unL C prim g [.ins C fs]) ρ Q := by
  show T (if C = C then callD g [.ins C fs] else fun _ => none) ρ Q
  rw [if_pos rfl]
  exact T_callD h q
theorem T_strI {C : Addr} {prim : List D → Option D} {g : G} {as : List (M D)} {Q : D → List S → Prop} (h : T (mArgs as) ρ fun x ρ1 => T (unT C prim g x) ρ1 Q) : T (mStrI C prim g as) ρ Q := T_bind h
theorem T_strI1 {C : Addr} {prim : List D → Option D} {g : G} {fs : List (Str × D)} {z : Str} {Q : D → List S → Prop} (h : GD g [.ins C fs] (.str z)) (q : Q (.str z) ρ) : T (unT C prim g [.ins C fs]) ρ Q := by
  show T (if C = C then callT g [.ins C fs] else fun _ => none) ρ Q
  rw [if_pos rfl]
  exact T_bind (T_callD h (T_pure q))
/-! texts -/
theorem T_js0 {acc : Str} {Q : Str → List S → Prop} (q : Q acc ρ) : T (mJs [] acc) ρ Q := T_pure q
theorem T_js1 {acc : Str} {m : M D} {ms : List (M D)} {Q : Str → List S → Prop} (h : T m ρ fun d ρ1 => Lf (addS acc d) fun a => T (mJs ms a) ρ1 Q) : T (mJs (m :: ms) acc) ρ Q := by
  refine T_bind (h.imp fun d ρ1 h => T_bind (T_lift h))
theorem T_fs {ms : List (M D)} {Q : D → List S → Prop} (h : T (mJs ms Str.empty) ρ fun x ρ1 => Q (.str x) ρ1) : T (mFs ms) ρ Q := T_bind (h.imp fun _ _ h => T_pure h)
/-! comprehensions -/
def TC (vs : List Nat) (p : Put) (t : M Bool) (e : M D) (ds acc : List D) (ρ : List S) (P : List D → List S → Prop) : Prop := ∃ out ρ', compD vs p t e ds acc ρ = some (out, ρ') ∧ P out ρ'
theorem T_comp {vs : List Nat} {it : M (List D)} {p : Put} {t : M Bool} {e : M D} {Q : OB → List S → Prop} (h : T it ρ fun ds ρ1 => vs.all (plainAt ρ1) = true ∧ ds.length < 900000 ∧ TC vs p t e ds [] (wipeR ρ1 vs) fun out ρ2 => Q (.lst out) (restore ρ1 ρ2 vs)) : T (mComp vs it p t e) ρ Q := by
  refine T_bind (h.imp fun ds ρ1 h => ?_)
  obtain ⟨h1, h2, out, ρ2, e, q⟩ := h
  refine ⟨_, _, ?_, q⟩
  dsimp only
  rw [if_pos ⟨h1, h2⟩, e]
theorem TC0 {vs : List Nat} {p : Put} {t : M Bool} {e : M D} {acc : List D} {P : List D → List S → Prop} (h : P acc ρ) : TC vs p t e [] acc ρ P := ⟨acc, ρ, rfl, h⟩
theorem TC1 {vs : List Nat} {p : Put} {e : M D} {ds acc : List D} {P : List D → List S → Prop} (h : Lf (p d ρ) fun ρ1 => T e ρ1 fun y ρ3 => TC vs p mYes e ds (acc ++ [y]) (wipeR ρ3 vs) P) : TC vs p mYes e (d :: ds) acc ρ P := by
  obtain ⟨ρ1, e1, y, ρ3, e3, out, ρ4, e4, q⟩ := h
  refine ⟨out, ρ4, ?_, q⟩
  show (match p d ρ with
    | none => none
    | some ρ1 => match mYes ρ1 with
      | some (.ok true, ρ2) => match e ρ2 with
        | some (.ok y, ρ3) => compD vs p mYes e ds (acc ++ [y]) (wipeR ρ3 vs)
        | _ => none
      | some (.ok false, ρ2) => compD vs p mYes e ds acc (wipeR ρ2 vs)
      | _ => none) = _
  rw [e1]
  show (match e ρ1 with
        | some (.ok y, ρ3) => compD vs p mYes e ds (acc ++ [y]) (wipeR ρ3 vs)
        | _ => none) = _
  rw [e3]
  exact e4
/-- item by item, the slots left as they were -/
theorem TC_map {vs : List Nat} {p : Put} {e : M D} {P : List D → List S → Prop} (f : D → D) : ∀ (ds acc : List D), (∀ d ∈ ds, Lf (p d ρ) fun ρ1 => T e ρ1 fun y ρ3 => y = f d ∧ wipeR ρ3 vs = ρ) → P (acc ++ ds.map f) ρ → TC vs p mYes e ds acc ρ P
  | [], acc, _, q => TC0 (by simpa using q)
  | d :: ds, acc, h, q => by
    obtain ⟨ρ1, e1, k⟩ := h d List.mem_cons_self
    refine TC1 ⟨ρ1, e1, k.imp fun y ρ3 h2 => ?_⟩
    rw [h2.1, h2.2]
    exact TC_map f ds _ (fun d' hd => h d' (List.mem_cons_of_mem _ hd)) (by simpa using q)
/-! whole defs -/
def FinD (n : Nat) (d : D) (f : Fl) (ρ : List S) : Prop := (f = .rt (.dat d) ∨ (f = .nx ∧ d = .non)) ∧ n ≤ ρ.length
theorem parsOk_d : ∀ (ds : List D) (ρ : List S), ds.length ≤ ρ.length → parsOk (ds.map .dat) ρ = true
  | [], _, _ => rfl
  | _ :: ds, [], h => by simp at h
  | _ :: ds, _ :: ρ, h => parsOk_d ds ρ (by simpa using h)
theorem GD_of {n : Nat} {m : M Fl} {ds : List D} (h : T m (ds.map .dat ++ List.replicate (n - ds.length) .dead) (FinD ds.length d)) : GD (fnSem n m) ds d := by
  obtain ⟨f, ρ', e, hf, hl⟩ := h
  have hp := parsOk_d ds ρ' hl
  refine ⟨ρ'.take ds.length, ?_, by rw [List.length_take]; omega⟩
  unfold fnSem
  rw [List.length_map, e]
  rcases hf with rfl | ⟨rfl, rfl⟩
  · show fin _ _ _ = _
    unfold fin
    rw [if_pos hp, List.length_map]
  · show fin _ _ _ = _
    unfold fin
    rw [if_pos hp, List.length_map]
theorem GO_of {n : Nat} {m : M Fl} {ds : List D} {o : OB} (h : T m (ds.map .dat ++ List.replicate (n - ds.length) .dead) fun f ρ => f = .rt (.own o) ∧ ds.length ≤ ρ.length) : GO (fnSem n m) ds o := by
  obtain ⟨f, ρ', e, hf, hl⟩ := h
  have hp := parsOk_d ds ρ' hl
  refine ⟨ρ'.take ds.length, ?_, by rw [List.length_take]; omega⟩
  unfold fnSem
  rw [List.length_map, e]
  subst hf
  show fin _ _ _ = _
  unfold fin
  rw [if_pos hp, List.length_map]
def FinS (n : Nat) (P : S → OB → Prop) (f : Fl) (ρ : List S) : Prop := ∃ r o tl, (f = .rt r ∨ (f = .nx ∧ r = .dat .non)) ∧ ρ = .par o :: tl ∧ n ≤ tl.length ∧ P r o
theorem GS_of {n : Nat} {m : M Fl} {ds : List D} {o : OB} {P : S → OB → Prop} (h : T m (.par o :: (ds.map .dat ++ List.replicate (n - (ds.length + 1)) .dead)) (FinS ds.length P)) : GS (fnSem n m) o ds P := by
  obtain ⟨f, ρ', e, r, o', tl, hf, rfl, hl, q⟩ := h
  have hp := parsOk_d ds tl hl
  refine ⟨r, o', tl.take ds.length, ?_, by rw [List.length_take]; omega, q⟩
  unfold fnSem
  rw [List.length_cons, List.length_map]
  show (match m (.par o :: (ds.map .dat ++ List.replicate (n - (ds.length + 1)) .dead)) with
    | some (.ok .nx, ρ') => fin _ ρ' (.ok (.dat .non))
    | some (.ok (.rt s), ρ') => fin _ ρ' (.ok s)
    | some (.ex x, ρ') => fin _ ρ' (.ex x)
    | _ => none) = _
  rw [e]
  have pk : parsOk (.par o :: ds.map .dat) (.par o' :: tl) = true := hp
  rcases hf with rfl | ⟨rfl, rfl⟩
  · show fin _ _ _ = _
    unfold fin
    rw [if_pos pk, List.length_cons, List.length_map, List.take_succ_cons]
  · show fin _ _ _ = _
    unfold fin
    rw [if_pos pk, List.length_cons, List.length_map, List.take_succ_cons]
theorem gd_id {g : G} {ds : List D} (h : GD g ds d) : GD g ds d := h
theorem gs_id {g : G} {o : OB} {ds : List D} {P : S → OB → Prop} (h : GS g o ds P) : GS g o ds P := h
theorem GS.imp {g : G} {o : OB} {ds : List D} {P P' : S → OB → Prop} (h : GS g o ds P) (k : ∀ r o', P r o' → P' r o') : GS g o ds P' := by
  obtain ⟨r, o', tl, e, hl, q⟩ := h
  exact ⟨r, o', tl, e, hl, k _ _ q⟩
end
end L3
set_option Elab.async false
set_option linter.all false
set_option maxRecDepth 100000
set_option maxHeartbeats 4000000
namespace L3
open PySem PySem.Spec PyProof.Rows L2
/-! ### operations, plainly -/
section
variable {P : D → Prop} {i j : Int}
theorem L_asB {b : Bool} {P : Bool → Prop} (h : P b) : Lf (asB (.bl b)) P := ⟨_, rfl, h⟩
theorem L_asD {d : D} {P : D → Prop} (h : P d) : Lf (asD (.dat d)) P := ⟨_, rfl, h⟩
theorem L_asO {d : OB} {P : OB → Prop} (h : P d) : Lf (asO (.own d)) P := ⟨_, rfl, h⟩
theorem L_add (h : P (.int (i + j))) : Lf (dAdd (.int i) (.int j)) P := ⟨_, rfl, h⟩
theorem L_cat {xs ys : List D} (h : P (.lst (xs ++ ys))) (hl : xs.length + ys.length ≤ 1000000) : Lf (dAdd (.lst xs) (.lst ys)) P := ⟨_, if_pos hl, h⟩
theorem L_sub (h : P (.int (i - j))) : Lf (dSub (.int i) (.int j)) P := ⟨_, rfl, h⟩
theorem L_mul (h : P (.int (i * j))) (hm : mulOk i j = true) : Lf (dMul (.int i) (.int j)) P := ⟨_, if_pos hm, h⟩
theorem L_fdiv (h : P (.int (i.fdiv j))) (hm : divOk j = true) : Lf (dFdiv (.int i) (.int j)) P := ⟨_, if_pos hm, h⟩
theorem L_mod (h : P (.int (i.fmod j))) (hm : j ≠ 0) : Lf (dMod (.int i) (.int j)) P := ⟨_, if_pos hm, h⟩
theorem L_pow (h : P (.int (i ^ j.toNat))) (hm : powOk i j = true) : Lf (dPow (.int i) (.int j)) P := ⟨_, if_pos hm, h⟩
theorem L_lt (h : P (.bl (decide (i < j)))) : Lf (dLt (.int i) (.int j)) P := ⟨_, rfl, h⟩
theorem L_le (h : P (.bl (decide (i ≤ j)))) : Lf (dLe (.int i) (.int j)) P := ⟨_, rfl, h⟩
theorem L_gt (h : P (.bl (decide (j < i)))) : Lf (dGt (.int i) (.int j)) P := ⟨_, rfl, h⟩
theorem L_ge (h : P (.bl (decide (j ≤ i)))) : Lf (dGe (.int i) (.int j)) P := ⟨_, rfl, h⟩
theorem L_eq (h : P (.bl (decide (i = j)))) : Lf (dEq (.int i) (.int j)) P := ⟨_, rfl, h⟩
theorem L_ne (h : P (.bl (!decide (i = j)))) : Lf (dNe (.int i) (.int j)) P := ⟨_, rfl, h⟩
theorem L_eqS {x y : Str} (h : P (.bl (decide (x = y)))) : Lf (dEq (.str x) (.str y)) P := ⟨_, rfl, h⟩
theorem L_neS {x y : Str} (h : P (.bl (!decide (x = y)))) : Lf (dNe (.str x) (.str y)) P := ⟨_, rfl, h⟩
theorem L_neg (h : P (.int (-i))) : Lf (dNeg (.int i)) P := ⟨_, rfl, h⟩
theorem L_abs (h : P (.int i.natAbs)) : Lf (dAbs [.int i]) P := by
  refine ⟨_, rfl, ?_⟩
  have e : (if i < 0 then -i else i) = (i.natAbs : Int) := by split <;> omega
  rw [e]
  exact h
theorem L_int (h : P (.int i)) : Lf (dInt [.int i]) P := ⟨_, rfl, h⟩
theorem L_intB {b : Bool} (h : P (.int (if b then 1 else 0))) : Lf (dInt [.bl b]) P := ⟨_, rfl, h⟩
theorem L_max (h : P (.int (if j > i then j else i))) : Lf (dMax2 [.int i, .int j]) P := ⟨_, rfl, h⟩
theorem L_min (h : P (.int (if j < i then j else i))) : Lf (dMin2 [.int i, .int j]) P := ⟨_, rfl, h⟩
theorem L_lenL {ds : List D} (h : P (.int ds.length)) : Lf (dLen [.lst ds]) P := ⟨_, rfl, h⟩
theorem L_lenR {ds : List D} (h : P (.int ds.length)) : Lf (dLen [.rdl ds]) P := ⟨_, rfl, h⟩
theorem L_lenT {ds : List D} (h : P (.int ds.length)) : Lf (dLen [.tup ds]) P := ⟨_, rfl, h⟩
theorem L_tupL {ds : List D} (h : P (.tup ds)) : Lf (dTuple [.lst ds]) P := ⟨_, rfl, h⟩
theorem L_tupT {ds : List D} (h : P (.tup ds)) : Lf (dTuple [.tup ds]) P := ⟨_, rfl, h⟩
theorem L_isI_i {Cs : List Addr} (h : P (.bl true)) : Lf (dIsB .int Cs (.int i)) P := ⟨_, rfl, h⟩
theorem L_isB_i {Cs : List Addr} (h : P (.bl false)) : Lf (dIsB .bool Cs (.int i)) P := ⟨_, rfl, h⟩
theorem L_isT_i {Cs : List Addr} (h : P (.bl false)) : Lf (dIsB .tup Cs (.int i)) P := ⟨_, rfl, h⟩
theorem L_isI_b {Cs : List Addr} {b : Bool} (h : P (.bl true)) : Lf (dIsB .int Cs (.bl b)) P := ⟨_, rfl, h⟩
theorem L_isB_b {Cs : List Addr} {b : Bool} (h : P (.bl true)) : Lf (dIsB .bool Cs (.bl b)) P := ⟨_, rfl, h⟩
theorem L_isT_t {Cs : List Addr} {ds : List D} (h : P (.bl true)) : Lf (dIsB .tup Cs (.tup ds)) P := ⟨_, rfl, h⟩
theorem L_isI_t {Cs : List Addr} {ds : List D} (h : P (.bl false)) : Lf (dIsB .int Cs (.tup ds)) P := ⟨_, rfl, h⟩
theorem L_isBC {T : BT} {Cs : List Addr} {C : Addr} {fs : List (Str × D)} (h : P (.bl false)) : Lf (dIsB T (C :: Cs) (.ins C fs)) P := ⟨_, if_pos List.mem_cons_self, h⟩
theorem L_isCI {C0 : Addr} {Cs : List Addr} (h : P (.bl false)) : Lf (dIsC C0 Cs (.int i)) P := ⟨_, rfl, h⟩
theorem L_isCC {C0 : Addr} {Cs : List Addr} {fs : List (Str × D)} (h : P (.bl true)) : Lf (dIsC C0 Cs (.ins C0 fs)) P := ⟨_, if_pos rfl, h⟩
theorem L_fld {C : Addr} {f : Str} {d : D} {fs : List (Str × D)} (hl : fs.lookup f = some d) (h : P d) : Lf (fldD C f (.ins C fs)) P := ⟨_, (if_pos rfl).trans hl, h⟩
theorem L_fldO {C : Addr} {f : Str} {d : D} {fs : List (Str × D)} (hl : fs.lookup f = some d) (h : P d) : Lf (fldO C f (.ins C fs)) P := ⟨_, (if_pos rfl).trans hl, h⟩
theorem L_recv {C : Addr} {m : Str} {fs : List (Str × D)} {P : Ag → Prop} (hl : (fs.lookup m).isNone = true) (h : P (.d (.ins C fs))) : Lf (recvD C m (.ins C fs)) P := ⟨_, if_pos ⟨rfl, hl⟩, h⟩
theorem L_recvP {C : Addr} {fs : List (Str × D)} {P : Ag → Prop} (h : P (.d (.ins C fs))) : Lf (recvP C (.ins C fs)) P := ⟨_, if_pos rfl, h⟩
theorem recvP_ins {C : Addr} {fs : List (Str × D)} : recvP C (.ins C fs) = some (.d (.ins C fs)) := if_pos rfl
theorem L_ixL {ds : List D} {d : D} (hl : atI ds i = some d) (h : P d) : Lf (dIx (.lst ds) (.int i)) P := ⟨_, hl, h⟩
theorem L_ixR {ds : List D} {d : D} (hl : atI ds i = some d) (h : P d) : Lf (dIx (.rdl ds) (.int i)) P := ⟨_, hl, h⟩
theorem L_ixT {ds : List D} {d : D} (hl : atI ds i = some d) (h : P d) : Lf (dIx (.tup ds) (.int i)) P := ⟨_, hl, h⟩
theorem L_ixD {ds : List D} {d : D} (hl : atI ds i = some d) (h : P d) : Lf (ixD ds (.int i)) P := ⟨_, hl, h⟩
theorem L_ixOf {ds : List D} {n : Nat} {P : Nat → Prop} (hl : ixN ds.length i = some n) (h : P n) : Lf (ixOf ds (.int i)) P := ⟨_, hl, h⟩
theorem L_lstD {ds : List D} {P : List D → Prop} (h : P ds) : Lf (lstD (.lst ds)) P := ⟨_, rfl, h⟩
theorem L_lstR {ds : List D} {P : List D → Prop} (h : P ds) : Lf (lstD (.rdl ds)) P := ⟨_, rfl, h⟩
theorem L_tupD {ds : List D} {P : List D → Prop} (h : P ds) : Lf (tupD (.tup ds)) P := ⟨_, rfl, h⟩
theorem L_rng1 {P : List D → Prop} (h : P (rangeD 0 i.toNat)) (h1 : i ≤ 1000000000 ∧ -1000000000 ≤ i) : Lf (rng1 [.int i]) P := ⟨_, if_pos h1, h⟩
theorem L_name {k : Nat} {d : D} {ρ : List S} {P : List S → Prop} (h : P (ρ.set k (.dat d))) : Lf (pName k d ρ) P := ⟨_, rfl, h⟩
theorem L_pTup {is : List Nat} {ds : List D} {ρ : List S} {P : List S → Prop} (hl : ds.length = is.length) (h : P ((is.zip ds).foldl (fun r p => r.set p.1 (.dat p.2)) ρ)) : Lf (pTup is (.tup ds) ρ) P := ⟨_, if_pos hl, h⟩
theorem c_tt {a b : Prop} (h : a) : bif true then a else b := h
theorem c_ff {a b : Prop} (h : b) : bif false then a else b := h
theorem c_t {x : Bool} {a b : Prop} (e : x = true) (h : a) : bif x then a else b := by subst e; exact h
theorem c_f {x : Bool} {a b : Prop} (e : x = false) (h : b) : bif x then a else b := by subst e; exact h
theorem le_lit {n m : Nat} (h : Nat.ble n m = true) : n ≤ m := Nat.le_of_ble_eq_true h
theorem f_d {n : Nat} {d : D} {ρ : List S} (h : n ≤ ρ.length) : FinD n d (.rt (.dat d)) ρ := ⟨.inl rfl, h⟩
theorem f_e {n : Nat} {d d' : D} {ρ : List S} (e : d' = d) (h : n ≤ ρ.length) : FinD n d (.rt (.dat d')) ρ := ⟨.inl (by rw [e]), h⟩
theorem f_n {n : Nat} {ρ : List S} (h : n ≤ ρ.length) : FinD n .non .nx ρ := ⟨.inr ⟨rfl, rfl⟩, h⟩
theorem ex_and {α : Type} {p q : α → Prop} {w : α} (h1 : p w) (h2 : q w) : ∃ w, p w ∧ q w := ⟨w, h1, h2⟩
theorem fs_d {n : Nat} {P : S → OB → Prop} {r : S} {o : OB} {ρ tl : List S} (e : ρ = .par o :: tl) (hl : n ≤ tl.length) (h : P r o) : FinS n P (.rt r) ρ := ⟨r, o, tl, .inl rfl, e, hl, h⟩
theorem fs_n {n : Nat} {P : S → OB → Prop} {o : OB} {ρ tl : List S} (e : ρ = .par o :: tl) (hl : n ≤ tl.length) (h : P (.dat .non) o) : FinS n P .nx ρ := ⟨_, o, tl, .inr ⟨rfl, rfl⟩, e, hl, h⟩
end
end L3
set_option Elab.async false
set_option linter.all false
set_option maxRecDepth 100000
set_option maxHeartbeats 4000000
namespace L3
open PySem PySem.Spec PyProof.Rows L2
local macro_rules
  | `(tactic| infer_instance) => `(tactic| first
    | with_reducible apply T_seq | with_reducible apply T_setN | with_reducible apply T_set | with_reducible apply T_setO | with_reducible apply T_ret | with_reducible apply T_retO | with_reducible apply T_ifS | with_reducible apply T_par | with_reducible apply T_par3 | with_reducible apply T_drop | with_reducible apply T_skip | with_reducible apply T_for
    | ((with_reducible apply T_var); exact rfl) | ((with_reducible apply T_dat); exact rfl) | ((with_reducible apply T_dato); exact rfl) | with_reducible apply T_c | with_reducible apply T_op | with_reducible apply T_un | with_reducible apply T_cb | with_reducible apply T_args1 | with_reducible apply T_args0 | with_reducible apply T_test | with_reducible apply T_not | with_reducible apply T_and | with_reducible apply T_or | with_reducible apply T_andV | with_reducible apply T_orV | with_reducible apply T_notV | with_reducible apply T_if | with_reducible apply T_both | with_reducible apply T_frz
    | with_reducible apply T_lst | ((with_reducible apply T_tup)) | with_reducible apply T_items | with_reducible apply T_itemsN
    | with_reducible apply T_call | with_reducible apply T_callO | with_reducible apply T_mk | with_reducible apply T_mthD | with_reducible apply T_prop | with_reducible apply T_opI | with_reducible apply T_unI | with_reducible apply T_cbI | with_reducible apply T_strI | with_reducible apply T_fs | with_reducible apply T_js1 | with_reducible apply T_js0
    | with_reducible apply T_ags1 | with_reducible apply T_ags0 | ((with_reducible apply T_agsS); exact rfl)
    | ((with_reducible apply T_fldS); exact rfl) | with_reducible apply T_setF | ((with_reducible apply T_ixS); exact rfl) | with_reducible apply T_setIx | ((with_reducible apply T_app); exact rfl) | ((with_reducible apply T_lenS); exact rfl)
    | ((with_reducible apply T_calS); exact rfl; exact rfl; exact rfl) | ((with_reducible apply T_cal); exact rfl; exact rfl) | with_reducible apply L_recvP | with_reducible apply gdx
    | with_reducible apply T_callD | with_reducible apply T_opII | with_reducible apply T_opIi | with_reducible apply T_opiI | with_reducible apply T_unI1 | with_reducible apply T_cbI1 | with_reducible apply T_strI1
    | with_reducible apply c_tt | with_reducible apply c_ff
    | with_reducible apply L_asB | with_reducible apply L_asD | with_reducible apply L_asO | with_reducible apply L_add | with_reducible apply L_sub | with_reducible apply L_mul | with_reducible apply L_fdiv | with_reducible apply L_mod | with_reducible apply L_pow | with_reducible apply L_lt | with_reducible apply L_le | with_reducible apply L_gt | with_reducible apply L_ge | with_reducible apply L_eq | with_reducible apply L_ne | with_reducible apply L_eqS | with_reducible apply L_neS
    | with_reducible apply L_neg | with_reducible apply L_abs | with_reducible apply L_int | with_reducible apply L_intB | with_reducible apply L_max | with_reducible apply L_min | with_reducible apply L_lenL | with_reducible apply L_lenR | with_reducible apply L_lenT | with_reducible apply L_tupL | with_reducible apply L_tupT | with_reducible apply L_cat
    | with_reducible apply L_isI_i | with_reducible apply L_isB_i | with_reducible apply L_isT_i | with_reducible apply L_isI_b | with_reducible apply L_isB_b | with_reducible apply L_isT_t | with_reducible apply L_isI_t | with_reducible apply L_isBC | with_reducible apply L_isCI | with_reducible apply L_isCC | ((with_reducible apply L_fld); exact rfl) | ((with_reducible apply L_fldO); exact rfl) | ((with_reducible apply L_recv); exact rfl)
    | ((with_reducible apply L_ixL); exact rfl) | ((with_reducible apply L_ixR); exact rfl) | ((with_reducible apply L_ixT); exact rfl) | ((with_reducible apply L_ixD); exact rfl) | ((with_reducible apply L_ixOf); exact rfl) | with_reducible apply L_lstD | with_reducible apply L_lstR | with_reducible apply L_tupD | with_reducible apply L_name | ((with_reducible apply L_pTup); exact rfl)
    | ((with_reducible apply f_d); exact le_lit rfl) | ((with_reducible apply f_n); exact le_lit rfl) | ((with_reducible apply fs_d); exact rfl; exact le_lit rfl) | ((with_reducible apply fs_n); exact rfl; exact le_lit rfl)
    | ((with_reducible refine And.intro ?_ ?_); (first | exact rfl | exact le_lit rfl)) | ((with_reducible apply ex_and); exact rfl))
/-! ### sizes -/
def Sz (n : Nat) (i : Int) : Prop := i.natAbs < 2 ^ n
instance {n : Nat} {i : Int} : Decidable (Sz n i) := inferInstanceAs (Decidable (i.natAbs < 2 ^ n))
theorem Sz.log {n : Nat} {i : Int} (h : Sz n i) : i.natAbs.log2 ≤ n := by
  by_cases h0 : i.natAbs = 0
  · rw [h0]; exact Nat.zero_le _
  · exact Nat.le_of_lt ((Nat.log2_lt h0).mpr h)
theorem Sz.mono {n m : Nat} {i : Int} (h : Sz n i) (k : n ≤ m) : Sz m i := Nat.lt_of_lt_of_le h (Nat.pow_le_pow_right (by decide) k)
theorem Sz.mul {n m : Nat} {i j : Int} (h : Sz n i) (k : Sz m j) : Sz (n + m) (i * j) := by
  unfold Sz at *
  rw [Int.natAbs_mul, Nat.pow_add]
  exact Nat.mul_lt_mul'' h k
theorem Sz.add {n : Nat} {i j : Int} (h : Sz n i) (k : Sz n j) : Sz (n + 1) (i + j) := by
  unfold Sz at *
  rw [Nat.pow_succ]
  omega
theorem Sz.sub {n : Nat} {i j : Int} (h : Sz n i) (k : Sz n j) : Sz (n + 1) (i - j) := by
  unfold Sz at *
  rw [Nat.pow_succ]
  omega
theorem Sz.neg {n : Nat} {i : Int} (h : Sz n i) : Sz n (-i) := by
  unfold Sz at *
  omega
theorem Sz.le {n : Nat} {i j : Int} (h : Sz n j) (k : i.natAbs ≤ j.natAbs) : Sz n i := Nat.lt_of_le_of_lt k h
theorem Sz.mulOk {n m : Nat} {i j : Int} (h : Sz n i) (k : Sz m j) (l : n + m < 1000000) : mulOk i j = true := by
  have h1 := h.log
  have k1 := k.log
  exact decide_eq_true (by omega)
theorem Sz.divOk {n : Nat} {j : Int} (h : Sz n j) (h0 : j ≠ 0) (l : n < 9000) : divOk j = true := by
  have h1 := h.log
  exact decide_eq_true ⟨h0, by omega⟩
/-! ### the greatest common divisor -/
theorem gcd_step {a b : Int} (ha : 0 ≤ a) (hb : 0 < b) : b.gcd (a.fmod b) = a.gcd b := by
  rw [Int.fmod_eq_emod_of_nonneg _ (Int.le_of_lt hb)]
  unfold Int.gcd
  rw [Int.natAbs_emod_of_nonneg ha, Nat.gcd_comm, ← Nat.gcd_rec, Nat.gcd_comm]
def tGcd1 : M Bool := mTest (mOp dNe (mVar 1) (mC (.int 0)))
def bGcd1 : M Fl := mPar 0 1 (mVar 1) (mOp dMod (mVar 0) (mVar 1))
theorem w_gcd1 : ∀ (n : Nat) (a b : Int), 0 ≤ a → 0 ≤ b → b.toNat < n → T (whl tGcd1 bGcd1 n) [.dat (.int a), .dat (.int b)] fun f ρ => f = .nx ∧ ρ = [.dat (.int (a.gcd b)), .dat (.int 0)]
  | 0, _, _, _, _, h => absurd h (Nat.not_lt_zero _)
  | n + 1, a, b, ha, hb, h => by
    refine T_whl1 ?_
    unfold tGcd1
    repeat infer_instance
    by_cases h0 : b = 0
    · subst h0
      refine c_f (by simp) ⟨rfl, ?_⟩
      rw [Int.gcd_zero_right]
      have : (a.natAbs : Int) = a := by omega
      rw [this]
    · refine c_t (by simp [h0]) ?_
      unfold bGcd1
      have hb' : 0 < b := by omega
      have e := gcd_step ha hb'
      have k := w_gcd1 n b (a.fmod b) hb (Int.fmod_nonneg_of_pos _ hb') (by have := Int.fmod_lt_of_pos a hb'; omega)
      rw [e] at k
      repeat infer_instance
      · exact ⟨.inl rfl, k⟩
      · exact h0
theorem gd_gcd1 {a b : Int} (ha : 0 ≤ a) (hb : 0 ≤ b) : GD (fnSem 2 (mSeq (mWhl (fun ρ => gcdFuel ρ 1) (mTest (mOp dNe (mVar 1) (mC (.int 0)))) (mPar 0 1 (mVar 1) (mOp dMod (mVar 0) (mVar 1)))) (mRet (mVar 0)))) [.int a, .int b] (.int (a.gcd b)) := by
  refine GD_of (T_seq (T_whl rfl ((w_gcd1 _ a b ha hb ?_).imp fun f ρ h => ?_)))
  · show b.toNat < b.natAbs + 2
    omega
  · obtain ⟨rfl, rfl⟩ := h
    repeat infer_instance
def tGcd2 : M Bool := mTest (mOp dGt (mVar 1) (mC (.int 0)))
def bGcd2 : M Fl := mPar 0 1 (mVar 1) (mOp dMod (mCB dInt [(mVar 0)]) (mVar 1))
theorem w_gcd2 : ∀ (n : Nat) (a b : Int), 0 ≤ a → 0 ≤ b → b.toNat < n → T (whl tGcd2 bGcd2 n) [.dat (.int a), .dat (.int b)] fun f ρ => f = .nx ∧ ρ = [.dat (.int (a.gcd b)), .dat (.int 0)]
  | 0, _, _, _, _, h => absurd h (Nat.not_lt_zero _)
  | n + 1, a, b, ha, hb, h => by
    refine T_whl1 ?_
    unfold tGcd2
    repeat infer_instance
    by_cases h0 : b = 0
    · subst h0
      refine c_f (by simp) ⟨rfl, ?_⟩
      rw [Int.gcd_zero_right]
      have : (a.natAbs : Int) = a := by omega
      rw [this]
    · have hb' : 0 < b := by omega
      refine c_t (by simp [hb']) ?_
      unfold bGcd2
      have e := gcd_step ha hb'
      have k := w_gcd2 n b (a.fmod b) hb (Int.fmod_nonneg_of_pos _ hb') (by have := Int.fmod_lt_of_pos a hb'; omega)
      rw [e] at k
      repeat infer_instance
      · exact ⟨.inl rfl, k⟩
      · exact h0
theorem gd_gcd2 {a b : Int} (ha : 0 ≤ a) (hb : 0 ≤ b) : GD (fnSem 2 (mSeq (mWhl (fun ρ => gcdFuel ρ 1) (mTest (mOp dGt (mVar 1) (mC (.int 0)))) (mPar 0 1 (mVar 1) (mOp dMod (mCB dInt [(mVar 0)]) (mVar 1)))) (mRet (mVar 0)))) [.int a, .int b] (.int (a.gcd b)) := by
  refine GD_of (T_seq (T_whl rfl ((w_gcd2 _ a b ha hb ?_).imp fun f ρ h => ?_)))
  · show b.toNat < b.natAbs + 2
    omega
  · obtain ⟨rfl, rfl⟩ := h
    repeat infer_instance
/-! ### dice -/
def Dice (L : Nat) (o : OB) : Prop := ∃ a b c : Int, o = .lst [.int a, .int b, .int c] ∧ 0 ≤ b ∧ b < 2 ^ 64 ∧ 0 ≤ c ∧ c ≤ L
theorem Dice.mono {L L' : Nat} {o : OB} (h : Dice L o) (k : L ≤ L') : Dice L' o := by
  obtain ⟨a, b, c, e, h1, h2, h3, h4⟩ := h
  exact ⟨a, b, c, e, h1, h2, h3, by omega⟩
def mRoll : M Fl :=
  (mSeq (mIfS (mTest (mOp dGt (mIxS 0 (mC (.int 0))) (mC (.int 0))))
  (mSeq (mSet (mOp dMod (mCB dInt [(mIxS 0 (mC (.int 0)))]) (mVar 1)) (pName 2))
  (mSeq (mSetIx 0 (mC (.int 0)) (mOp dFdiv (mIxS 0 (mC (.int 0))) (mVar 1)))
  (mRet (mVar 2))))
  mSkip)
  (mSeq (mSetIx 0 (mC (.int 2)) (mOp dAdd (mIxS 0 (mC (.int 2))) (mC (.int 1))))
  (mSeq (mSet (mOp dMod (mCB dInt [(mOp dAdd (mIxS 0 (mC (.int 1))) (mOp dMul (mC (.int 1000193)) (mIxS 0 (mC (.int 2)))))]) (mC (.int 2305843009213693951))) (pName 3))
  (mSeq (mSet (mOp dAdd (mOp dMul (mOp dMod (mCB dInt [(mOp dMul (mVar 3) (mVar 3))]) (mC (.int 2305843009213693921))) (mVar 3)) (mOp dMul (mC (.int 8221)) (mIxS 0 (mC (.int 2))))) (pName 4))
  (mSeq (mSet (mOp dMod (mCB dInt [(mVar 4)]) (mC (.int 2305843009213693907))) (pName 4))
  (mRet (mOp dMod (mCB dInt [(mOp dFdiv (mVar 4) (mC (.int 8192)))]) (mVar 1))))))))
/-- what a roll gives -/
def Rolled (L : Nat) (n : Int) (r : S) (o : OB) : Prop := ∃ k : Int, r = .dat (.int k) ∧ 0 ≤ k ∧ k < n ∧ Dice (L + 1) o
theorem sz_fmod {n : Nat} {a m : Int} (h0 : 0 < m) (h : Sz n m) : Sz n (a.fmod m) := by
  have h1 := Int.fmod_nonneg_of_pos a h0
  have h2 := Int.fmod_lt_of_pos a h0
  exact h.le (by omega)
theorem sz_nat {n m : Nat} (h : m ≤ n) : Sz n (m : Int) := by
  unfold Sz
  rw [Int.natAbs_natCast]
  exact Nat.lt_of_le_of_lt h Nat.lt_two_pow_self
theorem gs_roll {L : Nat} {o : OB} {n : Int} (hd : Dice L o) (hL : L ≤ 1000000) (hn : 0 < n) (hn2 : divOk n = true) : GS (fnSem 5 mRoll) o [.int n] (Rolled L n) := by
  obtain ⟨a, b, c, rfl, hb, hb2, hc, hc2⟩ := hd
  have hc1 : Sz 40 (c + 1) := by
    unfold Sz
    omega
  refine GS_of ?_
  unfold mRoll
  repeat infer_instance
  by_cases ha : 0 < a
  · refine c_t (by simp [ha]) ?_
    repeat infer_instance
    · exact ⟨_, rfl, Int.fmod_nonneg_of_pos _ hn, Int.fmod_lt_of_pos _ hn, _, _, _, rfl, hb, hb2, hc, by omega⟩
    all_goals first | exact hn2 | omega
  · refine c_f (by simp [ha]) ?_
    repeat infer_instance
    · exact ⟨_, rfl, Int.fmod_nonneg_of_pos _ hn, Int.fmod_lt_of_pos _ hn, _, _, _, rfl, hb, hb2, by omega, by omega⟩
    · omega
    · decide +kernel
    · decide
    · exact Sz.mulOk (n := 20) (m := 40) (by decide +kernel) hc1 (by decide)
    · exact Sz.mulOk (sz_fmod (n := 62) (by decide) (by decide +kernel)) (sz_fmod (n := 62) (by decide) (by decide +kernel)) (by decide)
    · decide
    · exact Sz.mulOk (sz_fmod (n := 62) (by decide) (by decide +kernel)) (sz_fmod (n := 62) (by decide) (by decide +kernel)) (by decide)
    · decide
    · exact Sz.mulOk (n := 20) (m := 40) (by decide +kernel) hc1 (by decide)
/-- one of these -/
theorem atI_some {ds : List D} {k : Int} (h0 : 0 ≤ k) (h1 : k < ds.length) : ∃ d, atI ds k = some d ∧ d ∈ ds := by
  have hk : k.toNat < ds.length := by omega
  refine ⟨ds[k.toNat], ?_, List.getElem_mem hk⟩
  unfold atI ixN
  rw [if_pos h0, if_pos h1]
  simp [hk]
def Chosen (L : Nat) (ds : List D) (r : S) (o : OB) : Prop := ∃ d, r = .dat d ∧ d ∈ ds ∧ Dice (L + 1) o
theorem gs_one_of {L : Nat} {o : OB} {ds : List D} {g : G} (hg : ∀ n : Int, 0 < n → divOk n = true → GS g o [.int n] (Rolled L n)) (h0 : ds ≠ []) (h1 : ds.length < 1000) :
    GS (fnSem 2 (mRet (mOp dIx (mVar 1) (mCall 2 g [] (mAgs [.s 0, .d (mCB dLen [(mVar 1)])]))))) o [.lst ds] (Chosen L ds) := by
  have hl : 0 < ds.length := List.length_pos_iff.mpr h0
  refine GS_of ?_
  repeat infer_instance
  refine (hg (ds.length : Int) (by omega) (Sz.divOk (n := 1000) (sz_nat (by omega)) (by omega) (by decide))).imp fun r o' h => ?_
  obtain ⟨k, rfl, k0, k1, hd⟩ := h
  obtain ⟨d, e, hm⟩ := atI_some k0 k1
  repeat infer_instance
  refine L_ixL e ?_
  repeat infer_instance
  exact ⟨d, rfl, hm, hd⟩
def mDice : M Fl :=
  (mSeq (mSet (mOp dAdd (mOp dMul (mC (.int 29)) (mVar 1)) (mC (.int 7))) (pName 2))
  (mSeq (mIfS (mTest (mOp dLt (mVar 1) (mCB dLen [(mVar 0)])))
  (mSet (mOp dIx (mVar 0) (mVar 1)) (pName 2))
  mSkip)
  (mSeq (mSet (mOp dMod (mCB dInt [(mCB dAbs [(mVar 2)])]) (mOp dPow (mOp dPow (mC (.int 10)) (mC (.int 60))) (mC (.int 10)))) (pName 3))
  (mSeq (mSet (mOp dAdd (mOp dAdd (mOp dAdd (mOp dMul (mOp dMod (mCB dInt [(mVar 3)]) (mC (.int 2147483549))) (mC (.int 51001))) (mOp dMul (mC (.int 4099)) (mVar 1))) (mOp dMul (mC (.int 17)) (mCB dInt [(mOp dLt (mVar 2) (mC (.int 0)))]))) (mC (.int 41))) (pName 4))
  (mRetO (mLst [(mCB dMax2 [(mC (.int 0)), (mOp dSub (mVar 3) (mOp dPow (mC (.int 10)) (mC (.int 18))))]), (mOp dMod (mCB dInt [(mVar 4)]) (mC (.int 2147483543))), (mC (.int 0))]))))))
theorem go_dice {ns : List Int} {k : Int} (k0 : 0 ≤ k) (k1 : k < 1000) : ∃ o, GO (fnSem 5 mDice) [.rdl (ns.map D.int), .int k] o ∧ Dice 0 o := by
  have key : ∀ cell : Int, T (mSeq (mSet (mOp dMod (mCB dInt [(mCB dAbs [(mVar 2)])]) (mOp dPow (mOp dPow (mC (.int 10)) (mC (.int 60))) (mC (.int 10)))) (pName 3))
      (mSeq (mSet (mOp dAdd (mOp dAdd (mOp dAdd (mOp dMul (mOp dMod (mCB dInt [(mVar 3)]) (mC (.int 2147483549))) (mC (.int 51001))) (mOp dMul (mC (.int 4099)) (mVar 1))) (mOp dMul (mC (.int 17)) (mCB dInt [(mOp dLt (mVar 2) (mC (.int 0)))]))) (mC (.int 41))) (pName 4))
      (mRetO (mLst [(mCB dMax2 [(mC (.int 0)), (mOp dSub (mVar 3) (mOp dPow (mC (.int 10)) (mC (.int 18))))]), (mOp dMod (mCB dInt [(mVar 4)]) (mC (.int 2147483543))), (mC (.int 0))]))))
      [.dat (.rdl (ns.map D.int)), .dat (.int k), .dat (.int cell), .dead, .dead] fun f ρ => ∃ o, f = .rt (.own o) ∧ 2 ≤ ρ.length ∧ Dice 0 o := fun cell => by
    repeat infer_instance
    · exact ⟨_, _, _, rfl, Int.fmod_nonneg_of_pos _ (by decide), Int.lt_trans (Int.fmod_lt_of_pos _ (by decide)) (by decide), by decide, by decide⟩
    · decide
    · decide +kernel
    · exact Sz.mulOk (n := 20) (m := 40) (by decide +kernel) (by split <;> decide +kernel) (by decide)
    · exact Sz.mulOk (n := 20) (m := 40) (by decide +kernel) (by unfold Sz; omega) (by decide)
    · exact Sz.mulOk (m := 20) (sz_fmod (n := 62) (by decide) (by decide +kernel)) (by decide +kernel) (by decide)
    · decide
    · decide +kernel
    · decide +kernel
    · decide +kernel
  have whole : ∃ o, T mDice [.dat (.rdl (ns.map D.int)), .dat (.int k), .dead, .dead, .dead] (fun f ρ => f = .rt (.own o) ∧ 2 ≤ ρ.length) ∧ Dice 0 o := by
    have w : T mDice [.dat (.rdl (ns.map D.int)), .dat (.int k), .dead, .dead, .dead] fun f ρ => ∃ o, f = .rt (.own o) ∧ 2 ≤ ρ.length ∧ Dice 0 o := by
      unfold mDice
      repeat infer_instance
      · by_cases hk : k < (ns.map D.int).length
        · refine c_t (by simp only [hk, decide_true]) ?_
          obtain ⟨d, e, hm⟩ := atI_some k0 hk
          obtain ⟨cell, _, rfl⟩ := List.mem_map.mp hm
          repeat infer_instance
          refine L_ixR e ?_
          exact key cell
        · refine c_f (by simp only [hk, decide_false]) ?_
          refine T_skip ?_
          exact key (29 * k + 7)
      · exact Sz.mulOk (n := 20) (m := 40) (by decide +kernel) (by unfold Sz; omega) (by decide)
    obtain ⟨f, ρ, e, o, h1, h2, h3⟩ := w
    exact ⟨o, ⟨f, ρ, e, h1, h2⟩, h3⟩
  obtain ⟨o, h, hd⟩ := whole
  exact ⟨o, GO_of h, hd⟩
end L3
set_option Elab.async false
set_option linter.all false
set_option maxRecDepth 100000
set_option maxHeartbeats 4000000
namespace L3
open PySem PySem.Spec PyProof.Rows L2
/-! ### repr, plainly -/
mutual
inductive Rp : D → Nat → Nat → Prop
  | bl (b : Bool) : Rp (.bl b) 600 0
  | lit {d : D} {p : PyData} {n k : Nat} (e : d.py = some p) (h1 : p.showable = true) (h2 : p.hasDict = false) (h3 : p.depth = k) (h4 : p.shown.length ≤ n) : Rp d n k
  | int {i : Int} (h : Sz 1900 i) : Rp (.int i) 600 0
  | tup {ds : List D} {n k : Nat} (h : RpL ds n k) : Rp (.tup ds) (n + 3) (k + 1)
  | lst {ds : List D} {n k : Nat} (h : RpL ds n k) : Rp (.lst ds) (n + 3) (k + 1)
inductive RpL : List D → Nat → Nat → Prop
  | nil : RpL [] 0 0
  | cons {d : D} {ds : List D} {n k m l : Nat} (h : Rp d n k) (t : RpL ds m l) : RpL (d :: ds) (n + 2 + m) (max k l)
end
theorem two10 : (2 : Nat) ^ 1900 < 10 ^ 590 := by decide +kernel
theorem int_len {i : Int} (h : Sz 1900 i) : (PyData.shown (.int i)).length ≤ 600 := by
  have e := int_text_length_le10 (k := 590) (by decide) (Nat.lt_trans h two10)
  show (Str.ofString (toString i)).length ≤ 600
  rw [PySem.ofString_length]
  exact Nat.le_trans e (by decide)
theorem int_show {i : Int} (h : Sz 1900 i) : PyData.showable (.int i) = true := by
  have := h.log
  exact decide_eq_true (show i.natAbs.log2 < 1920 by omega)
mutual
theorem Rp.py : ∀ {d : D} {n k : Nat}, Rp d n k → ∃ p, d.py = some p ∧ p.showable = true ∧ p.hasDict = false ∧ p.depth = k ∧ p.shown.length ≤ n
  | _, _, _, .lit e h1 h2 h3 h4 => ⟨_, e, h1, h2, h3, h4⟩
  | _, _, _, .bl b => ⟨_, rfl, rfl, rfl, rfl, by cases b <;> decide⟩
  | _, _, _, .int h => ⟨_, rfl, int_show h, rfl, rfl, int_len h⟩
  | _, _, _, .tup h => by
    obtain ⟨ps, e, h1, h2, h3, h4⟩ := RpL.py h
    refine ⟨.tuple ps, ?_, h1, h2, ?_, ?_⟩
    · show (D.py.pyL _).map PyData.tuple = _
      rw [e]; rfl
    · show PyData.depthAll ps + 1 = _
      rw [h3]
    · have := tupleText_len_le (PyData.shownAll ps)
      rw [PyData.shownAll_length] at this
      show (tupleText (PyData.shownAll ps)).length ≤ _
      omega
  | _, _, _, .lst h => by
    obtain ⟨ps, e, h1, h2, h3, h4⟩ := RpL.py h
    refine ⟨.list ps, ?_, h1, h2, ?_, ?_⟩
    · show (D.py.pyL _).map PyData.list = _
      rw [e]; rfl
    · show PyData.depthAll ps + 1 = _
      rw [h3]
    · have := listText_len_le (PyData.shownAll ps)
      rw [PyData.shownAll_length] at this
      show (listText (PyData.shownAll ps)).length ≤ _
      omega
theorem RpL.py : ∀ {ds : List D} {n k : Nat}, RpL ds n k → ∃ ps, D.py.pyL ds = some ps ∧ PyData.showableAll ps = true ∧ PyData.hasDictAll ps = false ∧ PyData.depthAll ps = k ∧ ((PyData.shownAll ps).map (·.length)).sum + 2 * ps.length ≤ n
  | _, _, _, .nil => ⟨[], rfl, rfl, rfl, rfl, by decide⟩
  | _, _, _, .cons (d := d) (ds := ds) h t => by
    obtain ⟨p, e, h1, h2, h3, h4⟩ := Rp.py h
    obtain ⟨ps, e', h1', h2', h3', h4'⟩ := RpL.py t
    refine ⟨p :: ps, ?_, ?_, ?_, ?_, ?_⟩
    · show (match d.py, D.py.pyL ds with
        | some p, some ps => some (p :: ps)
        | _, _ => none) = _
      rw [e, e']
    · show (p.showable && PyData.showableAll ps) = true
      rw [h1, h1']; rfl
    · show (p.hasDict || PyData.hasDictAll ps) = false
      rw [h2, h2']; rfl
    · show max p.depth (PyData.depthAll ps) = _
      rw [h3, h3']
    · simp only [PyData.shownAll, List.map_cons, List.sum_cons, List.length_cons]
      omega
end
def shD (d : D) : Str := match d.py with
  | some p => p.shown
  | none => Str.empty
theorem L_repr {d : D} {n k : Nat} {P : D → Prop} (h : P (.str (shD d))) (r : Rp d n k) (hn : n ≤ 1000000) (hk : k ≤ 60) : Lf (dRepr [d]) P := by
  obtain ⟨p, e, h1, h2, h3, h4⟩ := r.py
  refine ⟨.str (shD d), ?_, h⟩
  unfold dRepr shD
  simp only [e]
  rw [if_pos]
  unfold reprOk
  rw [h1, h2, h3]
  simp only [Bool.not_false, Bool.and_true, Bool.true_and, Bool.and_eq_true, decide_eq_true_eq]
  exact ⟨hk, by omega⟩
theorem L_rep {xs : List D} {k : Int} {P : D → Prop} (h : P (.lst (List.replicate k.toNat xs).flatten)) (hm : k ≤ 1000000 ∧ -1000000 ≤ k ∧ xs.length * k.toNat ≤ 1000000) : Lf (dMul (.lst xs) (.int k)) P := ⟨_, if_pos hm, h⟩
/-- the same data, on both sides -/
theorem L_eqD {d : D} {p : PyData} {P : D → Prop} (e : d.py = some p) (hs : SeqAt.shaped p = true) (hd : dEq d d = dEqD d d) (h : P (.bl true)) : Lf (dEq d d) P := by
  refine ⟨.bl true, ?_, h⟩
  rw [hd]
  unfold dEqD
  rw [e]
  show (if (SeqAt.shaped p && SeqAt.shaped p) = true then some (D.bl (PyData.eqv p p)) else none) = _
  rw [if_pos (by rw [hs]; rfl), SeqAt.eqv_refl p (SeqAt.canLay_of_shaped hs)]
theorem L_neD {d : D} {p : PyData} {P : D → Prop} (e : d.py = some p) (hs : SeqAt.shaped p = true) (hd : dNe d d = dNeD d d) (h : P (.bl false)) : Lf (dNe d d) P := by
  refine ⟨.bl false, ?_, h⟩
  rw [hd]
  unfold dNeD
  rw [e]
  show (if (SeqAt.shaped p && SeqAt.shaped p) = true then some (D.bl (!PyData.eqv p p)) else none) = _
  rw [if_pos (by rw [hs]; rfl), SeqAt.eqv_refl p (SeqAt.canLay_of_shaped hs)]
  rfl
/-- comprehensions, the slots left as they were -/
theorem TC2 {vs : List Nat} {p : Put} {e : M D} {d : D} {ds acc : List D} {ρ : List S} {P : List D → List S → Prop} (h : Lf (p d ρ) fun ρ1 => T e ρ1 fun y ρ3 => wipeR ρ3 vs = ρ ∧ TC vs p mYes e ds (acc ++ [y]) ρ P) : TC vs p mYes e (d :: ds) acc ρ P := by
  obtain ⟨ρ1, e1, k⟩ := h
  refine TC1 ⟨ρ1, e1, k.imp fun y ρ3 h => ?_⟩
  rw [h.1]
  exact h.2
theorem T_comp2 {vs : List Nat} {it : M (List D)} {p : Put} {t : M Bool} {e : M D} {ρ : List S} {Q : OB → List S → Prop} (h : T it ρ fun ds ρ1 => vs.all (plainAt ρ1) = true ∧ ds.length < 900000 ∧ TC vs p t e ds [] (wipeR ρ1 vs) fun out ρ2 => restore ρ1 ρ2 vs = ρ1 ∧ Q (.lst out) ρ1) : T (mComp vs it p t e) ρ Q := by
  refine T_comp (h.imp fun ds ρ1 h => ⟨h.1, h.2.1, ?_⟩)
  obtain ⟨out, ρ2, e, h1, h2⟩ := h.2.2
  refine ⟨out, ρ2, e, ?_⟩
  show Q (.lst out) (restore ρ1 ρ2 vs)
  rw [h1]
  exact h2
/-- what holds between two statements -/
theorem T_cut {a b : M Fl} {ρ : List S} {Q : Fl → List S → Prop} (I : List S → Prop) (h : T a ρ fun f ρ1 => f = .nx ∧ I ρ1) (k : ∀ ρ1, I ρ1 → T b ρ1 Q) : T (mSeq a b) ρ Q :=
  T_seq (h.imp fun f ρ1 h => by
    obtain ⟨rfl, h⟩ := h
    exact k ρ1 h)
/-! ### loops over a range -/
theorem T_rng {p : Put} {b : M Fl} {Q : Fl → List S → Prop} (I : Nat → List S → Prop) (N : Nat) (lo : Int) (turn : ∀ j ρ, j < N → I j ρ → Lf (p (.int (lo + j)) ρ) fun ρ1 => T b ρ1 fun f ρ2 => (f = .nx ∨ f = .ct) ∧ I (j + 1) ρ2) (fin : ∀ ρ, I N ρ → Q .nx ρ) {ρ : List S} (h : I 0 ρ) :
    T (loopD p b (rangeD lo N)) ρ Q := by
  have go : ∀ (m j : Nat) (ρ : List S), j + m = N → I j ρ → T (loopD p b (rangeD (lo + j) m)) ρ Q := by
    intro m
    induction m with
    | zero =>
      intro j ρ e h
      have : j = N := by omega
      subst this
      exact T_loop0 (fin ρ h)
    | succ m ih =>
      intro j ρ e h
      obtain ⟨ρ1, e1, k⟩ := turn j ρ (by omega) h
      refine T_loop1 ⟨ρ1, e1, k.imp fun f ρ2 h2 => ⟨h2.1, ?_⟩⟩
      have z := ih (j + 1) ρ2 (by omega) h2.2
      have e3 : lo + ((j + 1 : Nat) : Int) = lo + (j : Int) + 1 := by omega
      rw [e3] at z
      exact z
  have z := go N 0 ρ (by omega) h
  have e3 : lo + ((0 : Nat) : Int) = lo := by omega
  rw [e3] at z
  exact z
theorem Sz.pow {n : Nat} {t : Int} (h : Sz n t) : ∀ m : Nat, Sz (n * m + 1) (t ^ m)
  | 0 => by unfold Sz; rw [Int.pow_zero]; simp
  | m + 1 => by
    have := (Sz.pow h m).mul h
    rw [Int.pow_succ]
    exact this.mono (by rw [Nat.mul_succ]; omega)
end L3
set_option Elab.async false
set_option linter.all false
set_option maxRecDepth 100000
set_option maxHeartbeats 4000000
namespace L3
open PySem PySem.Spec PyProof.Rows L2
/-! ### two rows side by side -/
inductive F2 {α β : Type} (R : α → β → Prop) : List α → List β → Prop
  | nil : F2 R [] []
  | cons {a : α} {b : β} {as : List α} {bs : List β} (h : R a b) (t : F2 R as bs) : F2 R (a :: as) (b :: bs)
theorem F2.len {α β : Type} {R : α → β → Prop} {as : List α} {bs : List β} (h : F2 R as bs) : as.length = bs.length := by
  induction h with
  | nil => rfl
  | cons h t ih => simp only [List.length_cons, ih]
theorem F2.snoc {α β : Type} {R : α → β → Prop} {a : α} {b : β} {as : List α} {bs : List β} (h : F2 R as bs) (k : R a b) : F2 R (as ++ [a]) (bs ++ [b]) := by
  induction h with
  | nil => exact .cons k .nil
  | cons h t ih => exact .cons h ih
theorem F2.imp {α β : Type} {R R' : α → β → Prop} {as : List α} {bs : List β} (h : F2 R as bs) (k : ∀ a b, R a b → R' a b) : F2 R' as bs := by
  induction h with
  | nil => exact .nil
  | cons h t ih => exact .cons (k _ _ h) ih
theorem F2.map {α β γ : Type} {R : α → β → Prop} {R' : β → γ → Prop} {as : List α} {bs : List β} (f : α → γ) (h : F2 R as bs) (k : ∀ a b, R a b → R' b (f a)) : F2 R' bs (as.map f) := by
  induction h with
  | nil => exact .nil
  | cons h t ih => exact .cons (k _ _ h) ih
theorem TC_two {vs : List Nat} {p : Put} {e : M D} {ρ : List S} {P : List D → List S → Prop} {R : D → D → Prop} (h : ∀ d y, R d y → Lf (p d ρ) fun ρ1 => T e ρ1 fun y' ρ3 => y' = y ∧ wipeR ρ3 vs = ρ) :
    ∀ {ds out : List D} (acc : List D), F2 R ds out → P (acc ++ out) ρ → TC vs p mYes e ds acc ρ P
  | _, _, acc, .nil, q => TC0 (by simpa using q)
  | _, _, acc, .cons (a := d) (b := y) hd t, q => by
    obtain ⟨ρ1, e1, k⟩ := h d y hd
    refine TC1 ⟨ρ1, e1, k.imp fun y' ρ3 h2 => ?_⟩
    rw [h2.1, h2.2]
    exact TC_two h _ t (by simpa using q)
theorem boolsD_true : ∀ {ds : List D}, (∀ d ∈ ds, d = .bl true) → boolsD ds = some (List.replicate ds.length true)
  | [], _ => rfl
  | d :: ds, h => by
    have e : d = .bl true := h d List.mem_cons_self
    subst e
    show (boolsD ds).map (true :: ·) = _
    rw [boolsD_true fun d' hd => h d' (List.mem_cons_of_mem _ hd)]
    rfl
theorem L_allT {ds : List D} {P : D → Prop} (h : P (.bl true)) (k : ∀ d ∈ ds, d = .bl true) : Lf (dAll [.lst ds]) P := by
  refine ⟨.bl true, ?_, h⟩
  show (boolsD ds).map (fun bs => D.bl (bs.all id)) = _
  rw [boolsD_true k]
  simp
theorem L_eq0 {ds : List D} {P : D → Prop} (h : P (.bl (ds.length == 0))) : Lf (dEq0 (.tup ds) (.tup [])) P := ⟨_, rfl, h⟩
theorem atI_0 {d : D} {ds : List D} : atI (d :: ds) 0 = some d := by
  unfold atI ixN
  rw [if_pos (by decide), if_pos (by rw [List.length_cons]; omega)]
  rfl
theorem atI_1 {d d' : D} {ds : List D} : atI (d :: d' :: ds) 1 = some d' := by
  unfold atI ixN
  rw [if_pos (by decide), if_pos (by rw [List.length_cons, List.length_cons]; omega)]
  rfl
/-! ### whole quotients -/
theorem ediv_abs {x b : Int} (hb : 0 < b) : (x / b).natAbs ≤ x.natAbs := by
  have h1 : (-(x.natAbs : Int)) ≤ x / b := by
    rw [Int.le_ediv_iff_mul_le hb]
    have : (x.natAbs : Int) * 1 ≤ (x.natAbs : Int) * b := Int.mul_le_mul_of_nonneg_left (by omega) (by omega)
    rw [Int.neg_mul]
    omega
  have h2 : x / b < (x.natAbs : Int) + 1 := by
    refine Int.ediv_lt_of_lt_mul hb ?_
    have : (x.natAbs : Int) * 1 ≤ (x.natAbs : Int) * b := Int.mul_le_mul_of_nonneg_left (by omega) (by omega)
    rw [Int.add_mul]
    omega
  omega
theorem ceil_same {x b : Int} (hb : 0 < b) (h : x / b * b = x) : -(-x / b) = x / b := by
  have e : -x = -(x / b) * b := by rw [Int.neg_mul, h]
  rw [e, Int.mul_ediv_cancel _ (by omega), Int.neg_neg]
theorem ceil_more {x b : Int} (hb : 0 < b) (h : x / b * b ≠ x) : -(-x / b) = x / b + 1 := by
  have h1 := Int.emod_nonneg x (b := b) (by omega)
  have h2 := Int.emod_lt_of_pos x hb
  have h3 := Int.mul_ediv_add_emod x b
  rw [Int.mul_comm] at h3
  have e : -x / b = -(x / b) - 1 := by
    have : -x = (b - x % b) + b * (-(x / b) - 1) := by
      rw [Int.mul_sub, Int.mul_neg, Int.mul_comm b (x / b)]
      omega
    rw [this, Int.add_mul_ediv_left _ _ (by omega), Int.ediv_eq_zero_of_lt (by omega) (by omega)]
    omega
  rw [e]
  omega
end L3
set_option Elab.async false
set_option linter.all false
set_option maxRecDepth 100000
set_option maxHeartbeats 4000000
namespace L3
open PySem PySem.Spec PyProof.Rows L2 PySem.W
/-! ### own == and !=, on both sides -/
section
variable {prog : Program} {w : World} {A : Around} {E : Value → Shared → Prop} {s : Shared} {K : Frag} {x C f : Addr} {ox : Obj} {od : Option Obj}
theorem special_fnB {name : Str} {args : List Value} {Q : Option Value → Shared → Prop} (X : K.In s.heap) (I : InstAt s.heap x ox C od) (hs : findIn K (.ref C) name = some (some (.ref f))) (hf : typeIn K (.ref f) = some (.type "function"))
    (h : wpAny (model prog w) A (PySem.call (.ref f) (.ref x :: args)) (fun v => Q (some v)) E s) : wpAny (model prog w) A (callSpecialIfBound? (.ref x) name args) Q E s := by
  simp only [callSpecialIfBound?, bindSpecialIfBound?, specialOf]
  refine wpAny_holding (wpAny_bind (wpAny_bind (wpAny_bind (I.type.here ((looks_findIn X hs).here ?_)))))
  refine wpAny_bind (wpAny_askSetting (wpAny_ite ?_))
  have fin : wpAny (model prog w) A (PySem.call (.ref f) ([.ref x] ++ args) >>= fun v => pure (some v)) Q E s :=
    wpAny_bind (wpAny_mono h (fun v s' h' => wpAny_pure h') fun _ _ h' => h')
  split
  · exact wpAny_bind ((bind_fn X _ hf).here (wpAny_pure (by exact fin)))
  · exact wpAny_tryCatch (wpAny_bind ((bind_fn X _ hf).here (wpAny_pure (by exact fin))))
theorem special_blB {name : Str} {id : String} {args : List Value} {Q : Option Value → Shared → Prop} (X : K.In s.heap) (I : InstAt s.heap x ox C od) (hs : findIn K (.ref C) name = some (some (.builtin id))) (hb : ∀ self, bindSpecial (.builtin id) self = pure (.builtin id, [self]))
    (h : wpAny (model prog w) A (PySem.call (.builtin id) (.ref x :: args)) (fun v => Q (some v)) E s) : wpAny (model prog w) A (callSpecialIfBound? (.ref x) name args) Q E s := by
  simp only [callSpecialIfBound?, bindSpecialIfBound?, specialOf]
  refine wpAny_holding (wpAny_bind (wpAny_bind (wpAny_bind (I.type.here ((looks_findIn X hs).here ?_)))))
  simp only [hb]
  refine wpAny_bind (wpAny_askSetting (wpAny_ite ?_))
  have fin : wpAny (model prog w) A (PySem.call (.builtin id) ([.ref x] ++ args) >>= fun v => pure (some v)) Q E s :=
    wpAny_bind (wpAny_mono h (fun v s' h' => wpAny_pure h') fun _ _ h' => h')
  split
  · exact wpAny_bind (wpAny_pure (wpAny_pure fin))
  · exact wpAny_tryCatch (wpAny_bind (wpAny_pure (wpAny_pure fin)))
structure EqC (K : Frag) (C f : Addr) : Prop where
  at_ : findIn K (.ref C) "__eq__" = some (some (.ref f))
  ne_ : findIn K (.ref C) "__ne__" = some (some (.builtin "object.__ne__"))
  fn : isFn K (.ref f) = true
  top : subIn K (.ref C) (.type "object") = some true
  sub : ∀ t : BT, subIn K (.ref C) (.type t.nm) = some false
  kit : ∀ t : BT, kitOne K (.type t.nm) (.ref C) = some false
/-- the truth that comes back, or its not -/
abbrev Bk (ng : Bool) (Q : Value → Shared → Prop) : Value → Shared → Prop := fun v s' => ∃ b, v = .bool b ∧ Q (.bool (bif ng then !b else b)) s'
theorem tryc_eq {b : Value} {Q : Option Value → Shared → Prop} (X : K.In s.heap) (I : InstAt s.heap x ox C od) (B : EqC K C f) (h : wpAny (model prog w) A (PySem.call (.ref f) [.ref x, b]) (fun v s' => ∃ k, v = .bool k ∧ Q (some (.bool k)) s') E s) :
    wpAny (model prog w) A (tryCompare (.ref x) "__eq__" b) Q E s := by
  unfold tryCompare
  refine wpAny_bind (special_fnB X I B.at_ (beq_iff_eq.mp B.fn) (wpAny_mono h (fun v s' hv => ?_) fun _ _ e => e))
  obtain ⟨k, rfl, hq⟩ := hv
  exact wpAny_pure hq
theorem tryc_ne {b : Value} {Q : Option Value → Shared → Prop} (X : K.In s.heap) (I : InstAt s.heap x ox C od) (B : EqC K C f) (hu : A.units + 1 < cLine) (h : wpAny (model prog w) A.in1 (PySem.call (.ref f) [.ref x, b]) (fun v s' => ∃ k, v = .bool k ∧ Q (some (.bool (!k))) s') E s) :
    wpAny (model prog w) A (tryCompare (.ref x) "__ne__" b) Q E s := by
  have sl : Slot "object" "__ne__" "object.__ne__" := .of (owner := "object") (n := "__ne__") (by rw [typeLookup_type, builtinLookup_eq_fast]; kernel_rfl) (by decide +kernel) (by decide +kernel) (by decide +kernel) (.inl (by decide +kernel)) (by rw [isSubtype_type]; kernel_rfl)
  unfold tryCompare
  refine wpAny_bind (special_blB X I B.ne_ sl.bind ?_)
  refine wpAny_call (codeAny_call_builtin sl.plain F.cmpEntry_ne (check_slot F.cmpKind_ne F.cmpSplit_ne (I.type.andThen (looks_subIn X B.top)) (F.cmpArgs_ne _ _) ?_))
  unfold Builtin.«object.__ne__»
  refine wpAny_bind (wpAny_of_eq (show slotArgs "__ne__" 1 ⟨[.ref x, b], []⟩ = pure (.ref x, [b]) from rfl) ?_)
  refine wpAny_bind (wpAny_cRoomFor hu ?_)
  refine wpAny_bind (m := callSpecialIfBound? (.ref x) (Str.ofString "__eq__") [b]) (special_fnB X I B.at_ (beq_iff_eq.mp B.fn) (wpAny_mono h (fun v s' hv => ?_) fun _ _ e => e))
  obtain ⟨k, rfl, hq⟩ := hv
  refine wpAny_bind (m := truthy (.bool k)) (wpAny_truthy_bool ?_)
  exact wpAny_pure (wpAny_pure hq)
theorem boolBin_try {M : Model} {name : String} {g : Int → Int → Sem Fin} {b : Bool} {dx : Addr} {Q' : Option Value → Shared → Prop} (hx : s.heap.get? x = some (instObj C dx)) (h : Q' none s) :
    wpAny M A (Builtin.Int.intBinary name g false ⟨[.bool b, .ref x], []⟩) (fun fin s' => ∃ v, fin = .done (.ret v) ∧ v = Value.notImplemented ∧ Q' none s') E s := by
  unfold Builtin.Int.intBinary
  refine wpAny_bind (wpAny_of_eq (show slotArgs name 1 ⟨[.bool b, .ref x], []⟩ = pure (.bool b, [.ref x]) from rfl) ?_)
  refine wpAny_bind (wpAny_of_eq (show Builtin.Int.intOfSelf (.bool b) = pure (if b then 1 else 0) from rfl) ?_)
  refine wpAny_bind (wpAny_bind (wpAny_load hx ?_))
  refine wpAny_pure ?_
  exact wpAny_bind (wpAny_rule (wpAny_pure ⟨_, rfl, rfl, h⟩))
theorem strCmp_try {M : Model} {name : String} {g : List Nat → List Nat → Bool} {z : Str} {t : Tok} {dx : Addr} {Q' : Option Value → Shared → Prop} (hx : s.heap.get? x = some (instObj C dx)) (h : Q' none s) :
    wpAny M A (Builtin.Str.strCompare name g ⟨[.str z t, .ref x], []⟩) (fun fin s' => ∃ v, fin = .done (.ret v) ∧ v = Value.notImplemented ∧ Q' none s') E s := by
  unfold Builtin.Str.strCompare
  refine wpAny_bind (wpAny_of_eq (show Builtin.Str.strSlot name 1 ⟨[.str z t, .ref x], []⟩ = pure (.str z t, z, [.ref x]) from rfl) ?_)
  refine wpAny_bind (wpAny_bind (wpAny_load hx ?_))
  refine wpAny_pure ?_
  exact wpAny_bind (wpAny_rule (wpAny_pure ⟨_, rfl, rfl, h⟩))
theorem deq_none {Q' : Option Value → Shared → Prop} (h : Q' none s) : wpAny (model prog w) A (tryCompare .none (cmpInfo .Eq).2.1 (.ref x)) Q' E s := by
  refine wpAny_tryCompare_declines (T := "NoneType") rfl PySem.F.slot_NoneType_eq (wpAny_call_entry PySem.F.slot_NoneType_eq rfl PySem.F.entry_NoneType_eq ?_ (PySem.F.args_NoneType_eq_2 _ _))
  exact wpAny_pure ⟨_, rfl, rfl, h⟩
theorem deq_int {i : Int} {t : Tok} {dx : Addr} {Q' : Option Value → Shared → Prop} (hx : s.heap.get? x = some (instObj C dx)) (h : Q' none s) : wpAny (model prog w) A (tryCompare (.int i t) (cmpInfo .Eq).2.1 (.ref x)) Q' E s :=
  wpAny_tryCompare_declines (typeIs_int s i t) PySem.F.slot_int_eq (wpAny_call_entry PySem.F.slot_int_eq (typeIs_int s i t) PySem.F.entry_int_eq (intBin_try hx h) (PySem.F.args_int_eq_2 _ _))
theorem deq_bool {b : Bool} {dx : Addr} {Q' : Option Value → Shared → Prop} (hx : s.heap.get? x = some (instObj C dx)) (h : Q' none s) : wpAny (model prog w) A (tryCompare (.bool b) (cmpInfo .Eq).2.1 (.ref x)) Q' E s :=
  wpAny_tryCompare_declines (T := "bool") rfl PySem.F.slot_bool_eq (wpAny_call_entry PySem.F.slot_bool_eq rfl PySem.F.entry_int_eq (boolBin_try hx h) (PySem.F.args_int_eq_2 _ _))
theorem deq_str {z : Str} {t : Tok} {dx : Addr} {Q' : Option Value → Shared → Prop} (hx : s.heap.get? x = some (instObj C dx)) (h : Q' none s) : wpAny (model prog w) A (tryCompare (.str z t) (cmpInfo .Eq).2.1 (.ref x)) Q' E s := by
  refine wpAny_tryCompare_declines (typeIs_str s z t) PySem.F.slot_str_eq (wpAny_call_entry PySem.F.slot_str_eq (typeIs_str s z t) PySem.F.entry_str_eq ?_ (PySem.F.args_str_eq_2 _ _))
  exact strCmp_try hx h
theorem deq_list {l : Addr} {Q' : Option Value → Shared → Prop} (hT : s.TypeIs (.ref l) "list") (hn : Looks (model prog w) s.heap (isInstance (.ref x) (.type "list")) false) (h : Q' none s) : wpAny (model prog w) A (tryCompare (.ref l) (cmpInfo .Eq).2.1 (.ref x)) Q' E s := by
  refine wpAny_tryCompare_declines hT PySem.F.slot_list_eq (wpAny_call_entry PySem.F.slot_list_eq hT PySem.F.entry_list_eq ?_ (PySem.F.args_list_eq_2 _ _))
  exact wpAny_bind (wpAny_of_eq (show slotArgs "__eq__" 1 ⟨[.ref l, .ref x], []⟩ = pure (.ref l, [.ref x]) from rfl) (wpAny_bind (hn.here (wpAny_bind (wpAny_pure (wpAny_pure ⟨_, rfl, rfl, h⟩))))))
theorem deq_tuple {l : Addr} {Q' : Option Value → Shared → Prop} (hT : s.TypeIs (.ref l) "tuple") (hn : Looks (model prog w) s.heap (isInstance (.ref x) (.type "tuple")) false) (h : Q' none s) : wpAny (model prog w) A (tryCompare (.ref l) (cmpInfo .Eq).2.1 (.ref x)) Q' E s := by
  refine wpAny_tryCompare_declines hT PySem.F.slot_tuple_eq (wpAny_call_entry PySem.F.slot_tuple_eq hT PySem.F.entry_tuple_eq ?_ (PySem.F.args_tuple_eq_2 _ _))
  exact wpAny_bind (wpAny_of_eq (show slotArgs "__eq__" 1 ⟨[.ref l, .ref x], []⟩ = pure (.ref l, [.ref x]) from rfl) (wpAny_bind (hn.here (wpAny_bind (wpAny_pure (wpAny_pure ⟨_, rfl, rfl, h⟩))))))
theorem deq_dict {l : Addr} {Q' : Option Value → Shared → Prop} (hT : s.TypeIs (.ref l) "dict") (hn : Looks (model prog w) s.heap (isInstance (.ref x) (.type "dict")) false) (h : Q' none s) : wpAny (model prog w) A (tryCompare (.ref l) (cmpInfo .Eq).2.1 (.ref x)) Q' E s := by
  refine wpAny_tryCompare_declines hT PySem.F.slot_dict_eq (wpAny_call_entry PySem.F.slot_dict_eq hT PySem.F.entry_dict_eq ?_ (PySem.F.args_dict_eq_2 _ _))
  exact wpAny_bind (wpAny_of_eq (show Builtin.Dict.dictSlotArgs "__eq__" ⟨[.ref l, .ref x], []⟩ = pure (.ref l, .ref x) from by kernel_rfl) (wpAny_bind (hn.here (wpAny_bind (wpAny_rule (wpAny_bind (wpAny_pure (wpAny_pure ⟨_, rfl, rfl, h⟩))))))))
theorem dne_none {Q' : Option Value → Shared → Prop} (h : Q' none s) : wpAny (model prog w) A (tryCompare .none (cmpInfo .NotEq).2.1 (.ref x)) Q' E s := by
  refine wpAny_tryCompare_declines (T := "NoneType") rfl PySem.F.slot_NoneType_ne (wpAny_call_entry PySem.F.slot_NoneType_ne rfl PySem.F.entry_NoneType_ne ?_ (PySem.F.args_NoneType_ne_2 _ _))
  exact wpAny_pure ⟨_, rfl, rfl, h⟩
theorem dne_int {i : Int} {t : Tok} {dx : Addr} {Q' : Option Value → Shared → Prop} (hx : s.heap.get? x = some (instObj C dx)) (h : Q' none s) : wpAny (model prog w) A (tryCompare (.int i t) (cmpInfo .NotEq).2.1 (.ref x)) Q' E s :=
  wpAny_tryCompare_declines (typeIs_int s i t) PySem.F.slot_int_ne (wpAny_call_entry PySem.F.slot_int_ne (typeIs_int s i t) PySem.F.entry_int_ne (intBin_try hx h) (PySem.F.args_int_ne_2 _ _))
theorem dne_bool {b : Bool} {dx : Addr} {Q' : Option Value → Shared → Prop} (hx : s.heap.get? x = some (instObj C dx)) (h : Q' none s) : wpAny (model prog w) A (tryCompare (.bool b) (cmpInfo .NotEq).2.1 (.ref x)) Q' E s :=
  wpAny_tryCompare_declines (T := "bool") rfl PySem.F.slot_bool_ne (wpAny_call_entry PySem.F.slot_bool_ne rfl PySem.F.entry_int_ne (boolBin_try hx h) (PySem.F.args_int_ne_2 _ _))
theorem dne_str {z : Str} {t : Tok} {dx : Addr} {Q' : Option Value → Shared → Prop} (hx : s.heap.get? x = some (instObj C dx)) (h : Q' none s) : wpAny (model prog w) A (tryCompare (.str z t) (cmpInfo .NotEq).2.1 (.ref x)) Q' E s := by
  refine wpAny_tryCompare_declines (typeIs_str s z t) PySem.F.slot_str_ne (wpAny_call_entry PySem.F.slot_str_ne (typeIs_str s z t) PySem.F.entry_str_ne ?_ (PySem.F.args_str_ne_2 _ _))
  exact strCmp_try hx h
theorem dne_list {l : Addr} {Q' : Option Value → Shared → Prop} (hT : s.TypeIs (.ref l) "list") (hn : Looks (model prog w) s.heap (isInstance (.ref x) (.type "list")) false) (h : Q' none s) : wpAny (model prog w) A (tryCompare (.ref l) (cmpInfo .NotEq).2.1 (.ref x)) Q' E s := by
  refine wpAny_tryCompare_declines hT PySem.F.slot_list_ne (wpAny_call_entry PySem.F.slot_list_ne hT PySem.F.entry_list_ne ?_ (PySem.F.args_list_ne_2 _ _))
  exact wpAny_bind (wpAny_of_eq (show slotArgs "__ne__" 1 ⟨[.ref l, .ref x], []⟩ = pure (.ref l, [.ref x]) from rfl) (wpAny_bind (hn.here (wpAny_bind (wpAny_pure (wpAny_pure ⟨_, rfl, rfl, h⟩))))))
theorem dne_tuple {l : Addr} {Q' : Option Value → Shared → Prop} (hT : s.TypeIs (.ref l) "tuple") (hn : Looks (model prog w) s.heap (isInstance (.ref x) (.type "tuple")) false) (h : Q' none s) : wpAny (model prog w) A (tryCompare (.ref l) (cmpInfo .NotEq).2.1 (.ref x)) Q' E s := by
  refine wpAny_tryCompare_declines hT PySem.F.slot_tuple_ne (wpAny_call_entry PySem.F.slot_tuple_ne hT PySem.F.entry_tuple_ne ?_ (PySem.F.args_tuple_ne_2 _ _))
  exact wpAny_bind (wpAny_of_eq (show slotArgs "__ne__" 1 ⟨[.ref l, .ref x], []⟩ = pure (.ref l, [.ref x]) from rfl) (wpAny_bind (hn.here (wpAny_bind (wpAny_pure (wpAny_pure ⟨_, rfl, rfl, h⟩))))))
theorem dne_dict {l : Addr} {Q' : Option Value → Shared → Prop} (hT : s.TypeIs (.ref l) "dict") (hn : Looks (model prog w) s.heap (isInstance (.ref x) (.type "dict")) false) (h : Q' none s) : wpAny (model prog w) A (tryCompare (.ref l) (cmpInfo .NotEq).2.1 (.ref x)) Q' E s := by
  refine wpAny_tryCompare_declines hT PySem.F.slot_dict_ne (wpAny_call_entry PySem.F.slot_dict_ne hT PySem.F.entry_dict_ne ?_ (PySem.F.args_dict_ne_2 _ _))
  exact wpAny_bind (wpAny_of_eq (show Builtin.Dict.dictSlotArgs "__ne__" ⟨[.ref l, .ref x], []⟩ = pure (.ref l, .ref x) from by kernel_rfl) (wpAny_bind (hn.here (wpAny_bind (wpAny_rule (wpAny_bind (wpAny_pure (wpAny_pure ⟨_, rfl, rfl, h⟩))))))))
end
end L3
set_option Elab.async false
set_option linter.all false
set_option maxRecDepth 100000
set_option maxHeartbeats 4000000
namespace L3
open PySem PySem.Spec PyProof.Rows L2 PySem.W
section
variable {prog : Program} {w : World} {A : Around} {E : Value → Shared → Prop} {s : Shared} {K : Frag} {x C f : Addr} {ox : Obj} {od : Option Obj} {op : CmpOp} {sym T : String} {fn rn : Str} {Q : Value → Shared → Prop}
theorem rcI_l {b : Value} (hop : cmpInfo op = (sym, fn, rn)) (X : K.In s.heap) (I : InstAt s.heap x ox C od) (hu : A.units < cLine) (hb : s.TypeIs b T) (hk : kitOne K (.type T) (.ref C) = some false)
    (h : wpAny (model prog w) A (tryCompare (.ref x) fn b) (fun o s' => ∃ v, o = some v ∧ Q v s') E s) : wpAny (model prog w) A (richCompare op (.ref x) b) Q E s := by
  unfold richCompare
  simp only [oneThing_ref]
  refine wpAny_holding ?_
  refine wpAny_bind (wpAny_cRoomFor hu ?_)
  rw [hop]
  dsimp only
  refine wpAny_bind (I.type.here (wpAny_bind (wpAny_typeOf hb ?_)))
  rw [show (Value.ref C != Value.type T) = true from rfl]
  simp only [if_true]
  refine wpAny_bind ((kit_sub X hk).here ?_)
  simp only [Bool.false_eq_true, if_false]
  refine wpAny_bind (wpAny_mono h (fun o s' ho => ?_) fun _ _ e => e)
  obtain ⟨v, rfl, hq⟩ := ho
  exact wpAny_pure hq
theorem rcI_s {y : Addr} {oy : Obj} {oe : Option Obj} (hop : cmpInfo op = (sym, fn, rn)) (I : InstAt s.heap x ox C od) (J : InstAt s.heap y oy C oe) (hu : A.units < cLine)
    (h : wpAny (model prog w) A (tryCompare (.ref x) fn (.ref y)) (fun o s' => ∃ v, o = some v ∧ Q v s') E s) : wpAny (model prog w) A (richCompare op (.ref x) (.ref y)) Q E s := by
  unfold richCompare
  simp only [oneThing_ref]
  refine wpAny_holding ?_
  refine wpAny_bind (wpAny_cRoomFor hu ?_)
  rw [hop]
  dsimp only
  refine wpAny_bind (I.type.here (wpAny_bind (J.type.here ?_)))
  rw [show (Value.ref C != Value.ref C) = false from by simp]
  simp only [Bool.false_eq_true, if_false]
  refine wpAny_bind (wpAny_pure ?_)
  simp only [Bool.false_eq_true, if_false]
  refine wpAny_bind (wpAny_mono h (fun o s' ho => ?_) fun _ _ e => e)
  obtain ⟨v, rfl, hq⟩ := ho
  exact wpAny_pure hq
theorem rcI_r {a : Value} (hop : cmpInfo op = (sym, fn, rn)) (X : K.In s.heap) (I : InstAt s.heap x ox C od) (hu : A.units < cLine) (ha : s.TypeIs a T) (hk : subIn K (.ref C) (.type T) = some false)
    (hd : ∀ Q' : Option Value → Shared → Prop, Q' none s → wpAny (model prog w) A (tryCompare a fn (.ref x)) Q' E s)
    (h : wpAny (model prog w) A (tryCompare (.ref x) rn a) (fun o s' => ∃ v, o = some v ∧ Q v s') E s) : wpAny (model prog w) A (richCompare op a (.ref x)) Q E s := by
  unfold richCompare
  simp only [ha.oneThing_none]
  refine wpAny_holding ?_
  refine wpAny_bind (wpAny_cRoomFor hu ?_)
  rw [hop]
  dsimp only
  refine wpAny_bind (wpAny_typeOf ha (wpAny_bind (I.type.here ?_)))
  rw [show (Value.type T != Value.ref C) = true from rfl]
  simp only [if_true]
  refine wpAny_bind ((looks_subIn X hk).here ?_)
  simp only [Bool.false_eq_true, if_false]
  refine wpAny_bind (m := tryCompare a fn (.ref x)) (hd _ ?_)
  dsimp only
  simp only [Bool.not_false, if_true]
  refine wpAny_bind (wpAny_mono h (fun o s' ho => ?_) fun _ _ e => e)
  obtain ⟨v, rfl, hq⟩ := ho
  exact wpAny_pure hq
end
/-- a value of a built-in kind -/
inductive BV (K : Frag) (H : Hp) : V → BT → Prop where
  | non : BV K H .non .non
  | bl (b : Bool) : BV K H (.bl b) .bool
  | int (i : Int) : BV K H (.int i) .int
  | str (z : Str) : BV K H (.str z) .str
  | lst {a : Addr} {xs : List V} (h : SqL K H a xs) : BV K H (.ref a) .lst
  | tup {a : Addr} {xs : List V} (h : SqT K H a xs) : BV K H (.ref a) .tup
  | dct {a : Addr} {kvs : List (Key × V)} (h : H a = some (.dK kvs)) : BV K H (.ref a) .dct
def isBt (d : D) : Bool := match d.dt with
  | some (.b _) => true
  | _ => false
theorem bv_of {K : Frag} {F H : Hp} {x : V} {d : D} (r : Rep K F x d) (sub : Same F H) (h : isBt d = true) : ∃ t, BV K H x t := by
  cases r with
  | non => exact ⟨_, .non⟩
  | bl b => exact ⟨_, .bl b⟩
  | int i => exact ⟨_, .int i⟩
  | str z => exact ⟨_, .str z⟩
  | ty n => cases h
  | obj a => cases h
  | tup q _ => exact ⟨_, .tup (same_sqT sub q)⟩
  | lst q _ => exact ⟨_, .lst (.inl (.inl (sub _ _ q)))⟩
  | rdl q _ => exact ⟨_, .lst (sub.seq q)⟩
  | dct q _ => exact ⟨_, .dct (sub _ _ q)⟩
  | ins q _ => cases h
  | exc _ => cases h
  | exf _ _ _ => cases h
section
variable {X : Cx} {pins : List (Addr × Obj)} {σ : L2.St} {H : Hp} {s : Shared} {x : V} {u : Value} {t : BT}
theorem BV.is (I : Inv X pins σ H s) (b : BV X.K H x t) (r : RelV x u) : s.TypeIs u t.nm := by
  cases b with
  | non => cases (show u = Value.none from r); rfl
  | bl y => cases (show u = Value.bool y from r); rfl
  | int i => obtain ⟨k, q⟩ := (show ∃ k, u = Value.int i k from r); cases q; rfl
  | str z => obtain ⟨k, q⟩ := (show ∃ k, u = Value.str z k from r); cases q; rfl
  | @lst a xs h =>
    cases (show u = Value.ref a from r)
    obtain ⟨its, rv, ⟨o, n, ho, hc, _, _⟩, _⟩ := I.list h
    exact ⟨o, ho, hc⟩
  | @tup a xs h =>
    cases (show u = Value.ref a from r)
    obtain ⟨its, rv, ⟨o, ho, hc, _, _⟩, _⟩ := I.tuple h
    exact ⟨o, ho, hc⟩
  | @dct a kvs h =>
    cases (show u = Value.ref a from r)
    obtain ⟨_, _, vs, _, o, es, ep, h1, h2, _⟩ := (show ObjOk X.prog X.w H s.heap a (.dK kvs) from I.hok a _ h)
    exact ⟨o, h1, h2.1⟩
def opOf (ng : Bool) : CmpOp := bif ng then .NotEq else .Eq
theorem BV.decl {A : Around} {E : Value → Shared → Prop} {p C f dx : Addr} {ox : Obj} {od : Option Obj} (ng : Bool) (I : Inv X pins σ H s) (b : BV X.K H x t) (r : RelV x u) (J : InstAt s.heap p ox C od) (hg : s.heap.get? p = some (instObj C dx)) (B : EqC X.K C f) (Q' : Option Value → Shared → Prop) (h : Q' none s) :
    wpAny (model X.prog X.w) A (tryCompare u (cmpInfo (opOf ng)).2.1 (.ref p)) Q' E s := by
  have lk : ∀ t : BT, Looks (model X.prog X.w) s.heap (isInstance (.ref p) (.type t.nm)) false := fun t => J.type.andThen (looks_subIn I.kIn (B.sub t))
  have ty := b.is I r
  cases b with
  | non => cases (show u = Value.none from r); cases ng; exact deq_none h; exact dne_none h
  | bl y => cases (show u = Value.bool y from r); cases ng; exact deq_bool hg h; exact dne_bool hg h
  | int i => obtain ⟨k, q⟩ := (show ∃ k, u = Value.int i k from r); cases q; cases ng; exact deq_int hg h; exact dne_int hg h
  | str z => obtain ⟨k, q⟩ := (show ∃ k, u = Value.str z k from r); cases q; cases ng; exact deq_str hg h; exact dne_str hg h
  | @lst a xs _ => cases (show u = Value.ref a from r); cases ng; exact deq_list ty (lk .lst) h; exact dne_list ty (lk .lst) h
  | @tup a xs _ => cases (show u = Value.ref a from r); cases ng; exact deq_tuple ty (lk .tup) h; exact dne_tuple ty (lk .tup) h
  | @dct a kvs _ => cases (show u = Value.ref a from r); cases ng; exact deq_dict ty (lk .dct) h; exact dne_dict ty (lk .dct) h
end
/-- what == (!=, by ng) asks where one side is an instance of C: the promise of __eq__ -/
def rEqI (K : Frag) (C : Addr) (ng : Bool) (r0 : R2) (sf : Sp) (Wx : WX) : L2.St → R2 := fun σ x y H Q =>
  (∃ a dx fs, x = V.ref a ∧ H a = some (.ins C dx fs) ∧ ((∃ b dx' fs', y = V.ref b ∧ H b = some (.ins C dx' fs')) ∨ ∃ t, BV K H y t) ∧ sf [x, y] H (fun v H' => ∃ b, v = V.bl b ∧ Q (.bl (bif ng then !b else b)) H') (fun cls d H' => Wx cls d σ H')) ∨
  (∃ t b dx fs, BV K H x t ∧ y = V.ref b ∧ H b = some (.ins C dx fs) ∧ sf [y, x] H (fun v H' => ∃ b, v = V.bl b ∧ Q (.bl (bif ng then !b else b)) H') (fun cls d H' => Wx cls d σ H')) ∨ r0 x y H Q
def OpS (X : Cx) (f : Value → Value → Sem Value) (r : L2.St → R2) : Prop :=
  ∀ (pins : List (Addr × Obj)) (s : Shared) (σ : L2.St) (H : Hp) (x y : V) (v u : Value) (Q : VK), Inv X pins σ H s → RelV x v → RelV y u → r σ x y H Q → wpAny (model X.prog X.w) X.A (f v u) (EP X pins σ Q) X.xe s
section
variable {X : Cx} {Wx : WX} {C f : Addr} {fd : FuncData} {ps : List Str} {k : Nat} {a b : Expr} {ta tb : TE} {ma mb : M D} {pos : Pos} {r0 : R2} {sf : Sp}
theorem pe_cmpS {op : CmpOp} {r : L2.St → R2} (ho : OpS X (compareOp op) r) (ha : PE X a ta) (hb : PE X b tb) (hm : behindInMarks op b = false) : PE X (.Compare a [op] [b] pos) (tOpS r ta tb) := by
  refine ⟨fun pins s σ H Q I h => ?_⟩
  exact wpAny_Compare1 (binT ha hb I h fun v u s2 x y H2 I2 rx ry q => ho pins s2 σ H2 x y v u Q I2 rx ry q) hm
theorem pt_cmpS {op : CmpOp} {r : L2.St → R2} (ho : OpS X (compareOp op) r) (ha : PE X a ta) (hb : PE X b tb) (hm : behindInMarks op b = false) : PT X (.Compare a [op] [b] pos) (tTest (tOpS r ta tb)) := by
  refine ⟨fun pins s σ H Q I h => ?_⟩
  refine wpAny_isTrue_Compare1 (thn (ha.run pins s σ H _ I h) fun v s1 ⟨x, H1, I1, r1, q1⟩ => thn (hb.run pins s1 σ H1 _ I1 q1) fun u s2 ⟨y, H2, I2, r2, q2⟩ =>
    thn (ho pins s2 σ H2 x y v u _ I2 r1 r2 q2) fun c s3 ⟨z, H3, I3, r3, k, e, q3⟩ => ?_) hm
  subst e
  cases r3
  exact wpAny_truthy_bool ⟨H3, I3, q3⟩
theorem op_eqI (ng : Bool) (B : EqC X.K C f) (Fn : FnG X.prog X.w X.K X.mg X.base k f fd ps sf) (hG : X.A.guards = some []) (hr : Room (k + 1) X.A) (hb : Binds X.K fd ps []) (tk : Takes X Wx) (h0 : OpR X (compareOp (opOf ng)) r0) :
    OpS X (compareOp (opOf ng)) (rEqI X.K C ng r0 sf Wx) := by
  intro pins s σ H x y v u Q I rx ry h
  have KX := I.kIn
  -- the try of __eq__ (__ne__) by the own method
  have own : ∀ {p dx : Addr} {fs : List (Str × V)} {z : V} {uz : Value}, H p = some (.ins C dx fs) → RelV z uz → sf [V.ref p, z] H (fun v H' => ∃ b, v = V.bl b ∧ Q (.bl (bif ng then !b else b)) H') (fun cls d H' => Wx cls d σ H') →
      wpAny (model X.prog X.w) X.A (tryCompare (.ref p) (cmpInfo (opOf ng)).2.1 uz) (fun o s' => ∃ v, o = some v ∧ EP X pins σ Q v s') X.xe s := fun {p dx fs z uz} hp rz q => by
    obtain ⟨mA, O, _, _, _, _⟩ := ins_get I.hok hp
    obtain ⟨od, J, _⟩ := O.look
    cases ng with
    | false =>
      refine tryc_eq KX J B (wpAny_mono (run_at (A' := X.A) (vs := [V.ref p, z]) Fn hG (hr.mono (Nat.le_succ _)) I.env0 hb tk I (.cons rfl (.cons rz .nil)) q) (fun v s' hv => ?_) fun _ _ e => e)
      obtain ⟨z', H', I', rz', b, rfl, hq⟩ := hv
      cases (show v = Value.bool b from rz')
      exact ⟨b, rfl, _, rfl, .bl b, H', I', rfl, hq⟩
    | true =>
      refine tryc_ne KX J B hr.in1.units0 (wpAny_mono (run_at (A' := X.A.in1) (vs := [V.ref p, z]) Fn hG hr.in1 I.env0.in1 hb tk I (.cons rfl (.cons rz .nil)) q) (fun v s' hv => ?_) fun _ _ e => e)
      obtain ⟨z', H', I', rz', b, rfl, hq⟩ := hv
      cases (show v = Value.bool b from rz')
      exact ⟨b, rfl, _, rfl, .bl (!b), H', I', rfl, hq⟩
  have two : (cmpInfo (opOf ng)).2.2 = (cmpInfo (opOf ng)).2.1 := by cases ng <;> rfl
  have cmp : ∀ v u, compareOp (opOf ng) v u = richCompare (opOf ng) v u := by cases ng <;> (intro v u; rfl)
  rcases h with ⟨p, dx, fs, rfl, hp, hy, q⟩ | ⟨t, p, dx, fs, bv, rfl, hp, q⟩ | q
  · cases (show v = Value.ref p from rx)
    obtain ⟨mA, O, _, _, _, _⟩ := ins_get I.hok hp
    obtain ⟨od, J, _⟩ := O.look
    rw [cmp]
    rcases hy with ⟨p', dx', fs', rfl, hp'⟩ | ⟨t, bv⟩
    · cases (show u = Value.ref p' from ry)
      obtain ⟨mA', O', _, _, _, _⟩ := ins_get I.hok hp'
      obtain ⟨od', J', _⟩ := O'.look
      exact rcI_s (sym := (cmpInfo (opOf ng)).1) (fn := (cmpInfo (opOf ng)).2.1) (rn := (cmpInfo (opOf ng)).2.2) rfl J J' hr.units0 (own hp ry q)
    · exact rcI_l (sym := (cmpInfo (opOf ng)).1) (fn := (cmpInfo (opOf ng)).2.1) (rn := (cmpInfo (opOf ng)).2.2) rfl KX J hr.units0 (bv.is I ry) (B.kit t) (own hp ry q)
  · cases (show u = Value.ref p from ry)
    obtain ⟨mA, O, _, _, _, _⟩ := ins_get I.hok hp
    obtain ⟨od, J, _⟩ := O.look
    obtain ⟨_, _, _, hget, _⟩ := (show ObjOk X.prog X.w H s.heap p (.ins C dx fs) from I.hok p _ hp)
    rw [cmp]
    exact rcI_r (sym := (cmpInfo (opOf ng)).1) (fn := (cmpInfo (opOf ng)).2.1) (rn := (cmpInfo (opOf ng)).2.2) rfl KX J hr.units0 (bv.is I rx) (B.sub t) (fun Q' hq => bv.decl ng I rx J hget B Q' hq) (by rw [two]; exact own hp rx q)
  · exact h0 pins s σ H x y v u Q I rx ry q
end
/-! by semantics -/
def negB (ng : Bool) : D → Option D
  | .bl b => some (.bl (bif ng then !b else b))
  | _ => none
def eqR (C : Addr) (y : D) : Bool := match y with
  | .ins C' _ => decide (C' = C)
  | y => isBt y
def eqI (C : Addr) (ng : Bool) (prim : D → D → Option D) (g : G) (x y : D) : M D := match x with
  | .ins C' fs => if C' = C ∧ eqR C y = true then (callD g [.ins C' fs, y]).bind fun z => M.lift (negB ng z) else fun _ => none
  | x => match y with
    | .ins C' fs => if C' = C ∧ isBt x = true then (callD g [.ins C' fs, x]).bind fun z => M.lift (negB ng z) else fun _ => none
    | y => M.lift (prim x y)
def mEqI (C : Addr) (ng : Bool) (prim : D → D → Option D) (g : G) (a b : M D) : M D := a.bind fun x => b.bind fun y => eqI C ng prim g x y
section
variable {X : Cx} {Wx : WX} {C : Addr} {a b e : Expr} {ma mb : M D} {r0 : R2}
theorem callB_sim {K : Frag} {c : Ctx} {F : Hp} {ρ ρ' : List S} {σ : L2.St} {H : Hp} {ng : Bool} {g : G} {ds : List D} {vs : List V} {r : R D} {Q : VK} (w : W K c F ρ σ H) (rl : RepL K F vs ds) (hn : ds.length = 2) (h : (callD g ds).bind (fun z => M.lift (negB ng z)) ρ = some (r, ρ'))
    (post : PostR K Wx c F ρ' σ (fun d F' H' => ∀ v, Rep K F' v d → Q v H') r) : spG K 2 g vs H (fun v H' => ∃ b, v = V.bl b ∧ Q (.bl (bif ng then !b else b)) H') (fun cls d H' => Wx cls d σ H') := by
  rcases bind_inv h with ⟨z, ρ1, h1, h2⟩ | ⟨z, h1, rfl⟩
  · obtain ⟨z', hz, rfl, rfl⟩ := lift_inv h2
    refine callD_sim (P := fun d F' H' => d = z ∧ ∀ v, Rep K F' v z' → Q v H') w rl hn h1 (fun F' H' e w' => ⟨rfl, post F' H' e w'⟩) ?_
    rintro d F' H' v rv ⟨rfl, p⟩
    cases d <;> cases hz
    cases rv
    exact ⟨_, rfl, p _ (.bl _)⟩
  · exact callD_sim (P := fun _ _ _ => False) w rl hn h1 post fun _ _ _ _ _ q => q.elim
theorem eqI_imp {K : Frag} {ng : Bool} {g0 : D → D → Option D} {g : G} (hs : Op2 K r0 g0) (σ : L2.St) (H : Hp) (Q : VK) (h : tE K Wx (mEqI C ng g0 g ma mb) σ H Q) : tOpS (rEqI K (cA K C) ng r0 (spG K 2 g) Wx) (tE K Wx ma) (tE K Wx mb) σ H Q := by
  obtain ⟨c, F, ρ, rr, ρ', w, hm, post⟩ := h
  rcases bind_inv hm with ⟨x, ρ1, h1, h2⟩ | ⟨x, h1, rfl⟩
  · refine ⟨c, F, ρ, .ok x, ρ1, w, h1, fun F1 H1 e1 w1 v1 r1 => ?_⟩
    rcases bind_inv h2 with ⟨y, ρ2, h3, h4⟩ | ⟨x, h3, rfl⟩
    · refine ⟨c, F1, ρ1, .ok y, ρ2, w1, h3, fun F2 H2 e2 w2 v2 r2 => ?_⟩
      have r1' := r1.mono e2
      have post2 := post.mono (e1.trans e2)
      unfold eqI at h4
      split at h4
      · rename_i C' fs
        split at h4
        · rename_i hc
          obtain ⟨rfl, hy⟩ := hc
          have q := callB_sim (Q := Q) w2 (.cons r1' (.cons r2 .nil)) rfl h4 post2
          cases r1' with
          | ins ha hra =>
            refine .inl ⟨_, _, _, rfl, w2.sub _ _ ha, ?_, q⟩
            unfold eqR at hy
            split at hy
            · cases r2 with
              | ins hb hrb => cases of_decide_eq_true hy; exact .inl ⟨_, _, _, rfl, w2.sub _ _ hb⟩
            · exact .inr (bv_of r2 w2.sub hy)
        · cases h4
      · split at h4
        · rename_i C' fs
          split at h4
          · rename_i hc
            obtain ⟨rfl, hx⟩ := hc
            have q := callB_sim (Q := Q) w2 (.cons r2 (.cons r1' .nil)) rfl h4 post2
            obtain ⟨t, bv⟩ := bv_of r1' w2.sub hx
            cases r2 with
            | ins hb hrb => exact .inr (.inl ⟨t, _, _, _, bv, rfl, w2.sub _ _ hb, q⟩)
          · cases h4
        · obtain ⟨z, hz, rfl, rfl⟩ := lift_inv h4
          exact .inr (.inr (hs F2 H2 v1 v2 _ _ z Q r1' r2 w2.sub hz fun F3 v H3 g r3 => post2 F3 H3 g.1 (g.2 _ _ _ w2) v r3))
    · exact ⟨c, F1, ρ1, .ex x, ρ', w1, h3, PostX.mono e1 post⟩
  · exact ⟨c, F, ρ, .ex x, ρ', w, h1, post⟩
theorem pem_eqI {ng : Bool} {g0 : D → D → Option D} {g : G} {ea eb : Expr} (hp : ∀ {ta tb : TE}, PE X ea ta → PE X eb tb → PE X e (tOpS (rEqI X.K (cA X.K C) ng r0 (spG X.K 2 g) Wx) ta tb)) (hs : Op2 X.K r0 g0) (ha : PEM X Wx ea ma) (hb : PEM X Wx eb mb) : PEM X Wx e (mEqI C ng g0 g ma mb) :=
  pe_imp (hp ha hb) (eqI_imp hs)
theorem ptm_eqI {ng : Bool} {g0 : D → D → Option D} {g : G} {ea eb : Expr} (hp : ∀ {ta tb : TE}, PE X ea ta → PE X eb tb → PT X e (tTest (tOpS (rEqI X.K (cA X.K C) ng r0 (spG X.K 2 g) Wx) ta tb))) (hs : Op2 X.K r0 g0) (ha : PEM X Wx ea ma) (hb : PEM X Wx eb mb) : PTM X Wx e (mTest (mEqI C ng g0 g ma mb)) :=
  pt_imp (hp ha hb) fun σ H Q h => eqI_imp hs σ H _ (test_imp σ H Q h)
end
/-! the head's facts -/
def eqB (x : Str) (K : Frag) : Bool := He.eqO (findIn K (.ref (He.ga K x)) "__eq__") (some (some (.ref (He.ma K (He.ga K x) "__eq__")))) && (He.eqO (findIn K (.ref (He.ga K x)) "__ne__") (some (some (.builtin "object.__ne__"))) && (isFn K (.ref (He.ma K (He.ga K x) "__eq__")) &&
  (decide (subIn K (.ref (He.ga K x)) (.type "object") = some true) && ([BT.non, .bool, .int, .str, .tup, .lst, .dct].all fun t => decide (subIn K (.ref (He.ga K x)) (.type t.nm) = some false) && decide (kitOne K (.type t.nm) (.ref (He.ga K x)) = some false)))))
theorem eqB_ok {x : Str} {K : Frag} (h : eqB x K = true) : EqC K (He.ga K x) (He.ma K (He.ga K x) "__eq__") := by
  obtain ⟨h1, h⟩ := He.ba h
  obtain ⟨h2, h⟩ := He.ba h
  obtain ⟨h3, h⟩ := He.ba h
  obtain ⟨h4, h5⟩ := He.ba h
  have k := fun t : BT => He.ba (List.all_eq_true.mp h5 t (by cases t <;> decide))
  exact ⟨He.eqO_ok h1, He.eqO_ok h2, h3, of_decide_eq_true h4, fun t => of_decide_eq_true (k t).1, fun t => of_decide_eq_true (k t).2⟩
/-! {} -/
def mDct0 : M OB := M.pure (.dct [])
theorem pom_dct0 {X : Cx} {Wx : WX} {pos : Pos} : POM X Wx (.Dict [] [] pos) mDct0 := by
  refine pe_imp pe_dnewK fun σ H Q h => ?_
  obtain ⟨c, F, ρ, rr, ρ', w, hm, post⟩ := h
  cases hm
  intro p hp
  obtain ⟨w2, q1, q2, q3, q4⟩ := w.alloc (u := .dK []) hp
  exact post F _ (Same.refl _) w2 p (.dK []) q1 upd_same (.dct .nil) q2 q3 q4
theorem T_dct0 {ρ : List S} {Q : OB → List S → Prop} (h : Q (.dct []) ρ) : T mDct0 ρ Q := T_pure h
/-! plain rules for own == -/
theorem T_eqI {C : Addr} {ng : Bool} {prim : D → D → Option D} {g : G} {a b : M D} {ρ : List S} {Q : D → List S → Prop} (h : T a ρ fun x ρ1 => T b ρ1 fun y ρ2 => T (eqI C ng prim g x y) ρ2 Q) : T (mEqI C ng prim g a b) ρ Q := T_bind (h.imp fun _ _ h => T_bind h)
theorem T_eqL {C : Addr} {ng k : Bool} {prim : D → D → Option D} {g : G} {fs : List (Str × D)} {y : D} {ρ : List S} {Q : D → List S → Prop} (h : GD g [.ins C fs, y] (.bl k)) (hy : eqR C y = true) (q : Q (.bl (bif ng then !k else k)) ρ) : T (eqI C ng prim g (.ins C fs) y) ρ Q := by
  show T (if C = C ∧ eqR C y = true then (callD g [.ins C fs, y]).bind fun z => M.lift (negB ng z) else fun _ => none) ρ Q
  rw [if_pos ⟨rfl, hy⟩]
  exact T_bind (T_callD h (T_lift (.some q)))
theorem T_eqRt {C : Addr} {ng k : Bool} {prim : D → D → Option D} {g : G} {fs : List (Str × D)} {x : D} {ρ : List S} {Q : D → List S → Prop} (h : GD g [.ins C fs, x] (.bl k)) (hx : isBt x = true) (q : Q (.bl (bif ng then !k else k)) ρ) : T (eqI C ng prim g x (.ins C fs)) ρ Q := by
  have e : eqI C ng prim g x (.ins C fs) = (if C = C ∧ isBt x = true then (callD g [.ins C fs, x]).bind fun z => M.lift (negB ng z) else fun _ => none) := by
    cases x <;> first | rfl | cases hx
  rw [e, if_pos ⟨rfl, hx⟩]
  exact T_bind (T_callD h (T_lift (.some q)))
theorem T_eqP {C : Addr} {ng : Bool} {prim : D → D → Option D} {g : G} {x y : D} {ρ : List S} {Q : D → List S → Prop} (hx : isBt x = true) (hy : isBt y = true) (q : Lf (prim x y) fun z => Q z ρ) : T (eqI C ng prim g x y) ρ Q := by
  have e : eqI C ng prim g x y = M.lift (prim x y) := by
    cases x <;> first | (cases hx; done) | (cases y <;> first | (cases hy; done) | rfl)
  rw [e]
  exact T_lift q
end L3
set_option Elab.async false
set_option linter.all false
set_option maxRecDepth 100000
set_option maxHeartbeats 4000000
namespace L3
open PySem PySem.Spec PyProof.Rows L2
/-! ### by computation in the kernel -/
/-- a body's end: True is handed back -/
def kT (n : Nat) (r : Option (R Fl × List S)) : Bool := match r with
  | some (.ok (.rt (.dat (.bl true))), ρ') => Nat.ble n ρ'.length
  | _ => false
theorem T_ker {m : M Fl} {ρ : List S} {n : Nat} (h : kT n (m ρ) = true) : T m ρ (FinD n (.bl true)) := by
  unfold kT at h
  split at h
  · rename_i ρ' e
    exact ⟨_, ρ', e, .inl rfl, Nat.le_of_ble_eq_true h⟩
  · cases h
/-- .. with the first parameter changed in place, as it was -/
def kS (n : Nat) (r : Option (R Fl × List S)) : Option (List S) := match r with
  | some (.ok (.rt (.dat (.bl true))), ρ') => if Nat.ble n ρ'.length then some ρ' else none
  | _ => none
theorem T_kerS {m : M Fl} {ρ : List S} {n : Nat} {o : OB} {P : S → OB → Prop} (h : (kS (n + 1) (m ρ)).map (·.head?) = some (some (.par o))) (hp : P (.dat (.bl true)) o) : T m ρ (FinS n P) := by
  unfold kS at h
  split at h
  · rename_i ρ' e
    split at h
    · rename_i hl
      cases ρ' with
      | nil => cases h
      | cons s tl =>
        have h' : s = .par o := Option.some.inj (Option.some.inj h)
        subst h'
        exact ⟨_, _, e, .dat (.bl true), o, tl, .inl rfl, rfl, by have := Nat.le_of_ble_eq_true hl; simp at this; omega, hp⟩
    · cases h
  · cases h
end L3
set_option Elab.async false
set_option linter.all false
set_option maxRecDepth 100000
set_option maxHeartbeats 4000000
namespace L3
open PySem PySem.Spec PyProof.Rows L2 PySem.W
/-! ### exceptions with a field of their own, over any built-in base -/
/-- what the making asks: B is where __new__ stands, bm the built-in part of the mro -/
structure XBase (B nI iI : String) (bB bm : List Value) : Prop where
  fa : ExcBaseFacts B nI iI bB
  own : bm.contains (.type B) = true
  noA : bm.contains (.type "AttributeError") = false
  noN : bm.contains (.type "NameError") = false
  pass : ∀ self, refuseLoop self "__setattr__" bm = pure ()
  top : bm.contains (.type "object") = true
theorem xbKey : XBase "LookupError" "LookupError.__new__" "LookupError.__init__" [.type "LookupError", .type "Exception", .type "BaseException", .type "object"] [.type "KeyError", .type "LookupError", .type "Exception", .type "BaseException", .type "object"] := ⟨PySem.F.excBase_LookupError, by decide +kernel, by decide +kernel, by decide +kernel, fun self => by kernel_rfl, by decide +kernel⟩
theorem xbIndex : XBase "IndexError" "IndexError.__new__" "IndexError.__init__" [.type "IndexError", .type "LookupError", .type "Exception", .type "BaseException", .type "object"] [.type "IndexError", .type "LookupError", .type "Exception", .type "BaseException", .type "object"] := ⟨PySem.F.excBase_IndexError, by decide +kernel, by decide +kernel, by decide +kernel, PySem.F.store_IndexError.passes, by decide +kernel⟩
theorem xbLookup : XBase "LookupError" "LookupError.__new__" "LookupError.__init__" [.type "LookupError", .type "Exception", .type "BaseException", .type "object"] [.type "LookupError", .type "Exception", .type "BaseException", .type "object"] := ⟨PySem.F.excBase_LookupError, by decide +kernel, by decide +kernel, by decide +kernel, PySem.F.store_LookupError.passes, by decide +kernel⟩
theorem xbOver : XBase "OverflowError" "OverflowError.__new__" "OverflowError.__init__" [.type "OverflowError", .type "ArithmeticError", .type "Exception", .type "BaseException", .type "object"] [.type "OverflowError", .type "ArithmeticError", .type "Exception", .type "BaseException", .type "object"] := ⟨PySem.F.excBase_OverflowError, by decide +kernel, by decide +kernel, by decide +kernel, PySem.F.store_OverflowError.passes, by decide +kernel⟩
section
variable {prog : Program} {w : World} {A : Around} {E : Value → Shared → Prop} {R : Result → Shared → Prop} {h : Heap} {g : Array GenState} {d : Drawn} {t : Nat} {os : OsState} {nm q : Str} {C N : Addr} {bs cm bB bm : List Value} {hdct : Bool} {sn : List Str} {sub : List Value} {ab : Bool} {col : Option Bool} {dd : Option Addr} {k0 k1 k2 k3 k5 : Option Value} {B nI iI : String}
theorem xcheck {M : Model} {rest : List Value} {Q : Unit → Shared → Prop} (F : XBase B nI iI bB bm) (ht : excTail bm cm = true) (hC : h.get? C = some (excClassObj nm q C N bs cm hdct sn sub ab col dd k0 k1 k2 k3 k5 nI)) (hq : Q () ⟨h, g, d, t, os⟩) : wpAny M A (checkBuiltinCall nI ⟨.ref C :: rest, []⟩) Q E ⟨h, g, d, t, os⟩ := by
  have z1 : (Value.ref C :: cm).contains (.type B) = true := by rw [List.contains_cons, excTail_contains B cm ht, F.own, Bool.or_true]
  have z2 := F.fa.noStar
  simp only [checkBuiltinCall, F.fa.newKind, F.fa.newSplit, F.fa.newRow]
  repeat (first | wp_step | refine wpAny_loadPart_at hC ?_ | refine wpAny_staticBase_exc hC ?_ | refine wpAny_madeBy_exc hC ?_ | (refine wpAny_isSubtype_exc hC ?_; rw [z1]) | simp only [bne_self_eq_false, Bool.false_eq_true, if_false])
  exact hq
theorem xnew {rest : List Value} (F : XBase B nI iI bB bm) (ht : excTail bm cm = true) (hC : h.get? C = some (excClassObj nm q C N bs cm hdct sn sub ab col dd k0 k1 k2 k3 k5 nI)) (hl : rest.length ≤ sizeLine)
    (hq : R (.ok (.ret (.ref (h.objs.size + 1)))) ⟨(h.push (kdv_tup rest)).push (PySem.HandSPX.excO C h.objs.size), g, d, t, os⟩) : codeAny (model prog w) A (.builtin nI ⟨.ref C :: rest, []⟩) R ⟨h, g, d, t, os⟩ := by
  have z0 := F.fa.ends
  have z1 : (Value.ref C :: cm).contains (.type B) = true := by rw [List.contains_cons, excTail_contains B cm ht, F.own, Bool.or_true]
  have z2 : (Value.ref C :: cm).contains (.type "AttributeError") = false := by rw [List.contains_cons, excTail_contains "AttributeError" cm ht, F.noA]; rfl
  have z3 : (Value.ref C :: cm).contains (.type "NameError") = false := by rw [List.contains_cons, excTail_contains "NameError" cm ht, F.noN]; rfl
  have hrest := hl
  refine codeAny_builtinAt F.fa.entry ?_
  unfold Builtin.«BaseException.__new__»
  refine PySem.wpAt_bind ?_
  change PySem.wpAt _ _ _ (stack >>= _) _ _ _
  refine PySem.wpAt_bind (PySem.wpAt_stack fun p below => PySem.wpAt_of_wpAny ?_)
  wp_walk
  rw [F.fa.owner]
  refine PySem.wpAt_of_wpAny ?_
  repeat (first | with_reducible refine wpAny_madeHere_exc F.fa.canon hC ?_ | (with_reducible refine wpAny_isSubtype_exc hC ?_; first | rw [z1] | rw [z2] | rw [z3]) | with_reducible refine wpAny_loadPart_at hC ?_ | wp_step)
  change R _ _
  rw [Heap.size_push]
  exact hq
theorem xtcall {rest : List Value} {fI : Addr} {Q : Fin → Shared → Prop} (F : XBase B nI iI bB bm) (ht : excTail bm cm = true) (hC : h.get? C = some (excClassObj nm q C N bs cm hdct sn sub ab col dd k0 k1 k2 k3 k5 nI)) (hl : rest.length ≤ sizeLine)
    (li : Looks (model prog w) h (typeLookup (.ref C) "__init__") (some (.ref fI))) (lb : ∀ self, Looks (model prog w) h (bindSpecial (.ref fI) self) (.ref fI, [self]))
    (hq : codeAny (model prog w) A (.call (.ref fI) ⟨.ref (h.objs.size + 1) :: rest, []⟩) (fun r s' => match r with | .ok (.ret v) => v = .none ∧ Q (.done (.ret (.ref (h.objs.size + 1)))) s' | .ok _ => False | .error e => E e s') ⟨(h.push (kdv_tup rest)).push (PySem.HandSPX.excO C h.objs.size), g, d, t, os⟩) :
    wpAny (model prog w) A (Builtin.«type.__call__» ⟨.ref C :: rest, []⟩) Q E ⟨h, g, d, t, os⟩ := by
  repeat (first | wp_step | with_reducible refine wpAny_madeBy_exc hC ?_ | with_reducible refine wpAny_loadPart_at hC ?_)
  refine codeAny_call_builtin_code (Code.quiet_builtin _ F.fa.quiet) (xcheck F ht hC (xnew F ht hC hl ?_))
  have up : ∀ b o, h.get? b = some o → ((h.push (kdv_tup rest)).push (PySem.HandSPX.excO C h.objs.size)).get? b = some o := fun b o e => Heap.get?_push_of_some _ (Heap.get?_push_of_some _ e)
  have at1 := up _ _ hC
  have new1 : ((h.push (kdv_tup rest)).push (PySem.HandSPX.excO C h.objs.size)).get? (h.objs.size + 1) = some (PySem.HandSPX.excO C h.objs.size) := by heap_get
  have z4 : (Value.ref C :: cm).contains (.ref C) = true := by simp
  have li1 := li.keeps up
  have lb1 := (lb (.ref (h.objs.size + 1))).keeps up
  change wpAny _ _ _ _ _ _
  unfold isInstance
  repeat (first | wp_step | with_reducible refine wpAny_loadPart_at new1 ?_ | (with_reducible refine wpAny_isSubtype_exc at1 ?_; rw [z4]))
  change wpAny _ _ (typeLookup (.ref C) _) _ _ _
  refine li1.at (wpAny_holding (wpAny_bind (lb1.at (wpAny_bind (wpAny_call (codeAny_mono hq fun r s' z => ?_))))))
  rcases r with e | (v | _ | _ | _) <;> first | exact z | exact z.elim | skip
  obtain ⟨rfl, z⟩ := z
  first
    | (wp_walk; exact z)
    | exact wpAny_pure (wpAny_pure z)
theorem xcall {rest : List Value} {fI : Addr} (F : XBase B nI iI bB bm) (ht : excTail bm cm = true) (hC : h.get? C = some (excClassObj nm q C N bs cm hdct sn sub ab col dd k0 k1 k2 k3 k5 nI)) (hl : rest.length ≤ sizeLine)
    (li : Looks (model prog w) h (typeLookup (.ref C) "__init__") (some (.ref fI))) (lb : ∀ self, Looks (model prog w) h (bindSpecial (.ref fI) self) (.ref fI, [self]))
    (hq : codeAny (model prog w) (A.under (.builtin "type.__call__" ⟨.ref C :: rest, []⟩)) (.call (.ref fI) ⟨.ref (h.objs.size + 1) :: rest, []⟩) (InitBack (h.objs.size + 1) R) ⟨(h.push (kdv_tup rest)).push (PySem.HandSPX.excO C h.objs.size), g, d, t, os⟩) :
    codeAny (model prog w) A (.call (.ref C) ⟨rest, []⟩) R ⟨h, g, d, t, os⟩ := by
  have y1 := tc_lookup
  have y2 := tc_bind (.ref C)
  have y3 : (⟨h, g, d, t, os⟩ : Shared).TypeIs (.ref C) "type" := ⟨_, hC, rfl⟩
  refine codeAny_of_tree (show wpAny _ _ (callAny (.ref C) _) _ _ _ from ?_)
  repeat (any_goals (first | assumption | wp_step | with_reducible refine wpAny_loadPart_at hC ?_))
  refine ⟨rfl, codeAny_call_builtin_at (Code.quiet_builtin _ (by decide +kernel)) entry_typeCall (wpAny_check_type_call_sub hC (xtcall F ht hC hl li lb (codeAny_mono hq fun r s' z => ?_)))⟩
  rcases r with e | (v | _ | _ | _) <;> exact z
end
/-- e.f = v, the first field of a fresh exception -/
theorem osa_gen {prog : Program} {w : World} {A : Around} {R : Result → Shared → Prop} {hp : Heap} {g : Array GenState} {d : Drawn} {t : Nat} {os : OsState} {K : Frag} {name : Str} {tk : Tok} {v : Value} {x C : Addr} {fv : Array Value} {cd : ClassData} (X : K.In hp) (hx : hp.get? x = some { cls := .ref C, data := .fields fv }) (hcd : clsIn K C = some cd)
    (hne : cd.mro.isEmpty = false) (hob : cd.mro.contains (.type "object") = true) (hps : ∀ self, refuseLoop self "__setattr__" cd.mro = pure ()) (hh : cd.hasDict = true) (hno : findIn K (.ref C) name = some none)
    (hq : ∀ h' tk' dx, (∀ b o, b ≠ x → hp.get? b = some o → h'.get? b = some o) → hp.objs.size ≤ dx → dx ≠ x → h'.get? x = some { cls := .ref C, dict := some dx, data := .fields fv } → h'.Ns1 dx (fun y => if y = name then some v else none) → R (.ok (.ret .none)) ⟨h', g, d, tk', os⟩) :
    codeAny (model prog w) A (.call (.builtin "object.__setattr__") ⟨[.ref x, .str name tk, v], []⟩) R ⟨hp, g, d, t, os⟩ := by
  have J : InstAt hp x { cls := .ref C, data := .fields fv } C none := ⟨hx, rfl, rfl, trivial⟩
  have xne : x ≠ hp.objs.size := Nat.ne_of_lt (Heap.lt_size hx)
  have isObj : Looks (model prog w) hp (isInstance (.ref x) (.type "object")) true := J.type.andThen (looks_mroIn X (by unfold mroIn; rw [hcd, Option.bind_some, if_neg (by rw [hne]; decide), hob]))
  have lc : Looks (model prog w) hp (classData C) cd := looks_clsIn X hcd
  have lm : Looks (model prog w) hp (mroOf (.ref C)) cd.mro := lc.andThen .now
  have ln : Looks (model prog w) hp (Builtin.ObjectAttr.storeTaker? none) none := .now
  refine codeAny_call_builtin PySem.F.store_object.slot.plain PySem.F.store_object.entry (@check_slot (model prog w) _ _ ⟨hp, g, d, t, os⟩ "object.__setattr__" "object" "__setattr__" (.ref x) [.str name tk, v] [] _ PySem.F.store_object.kind PySem.F.store_object.split isObj (PySem.F.store_object.args (.ref x) (.str name tk) v) ?_)
  rw [osa_eq, refuse_eq]
  refine wpAny_bind (wpAny_bind (J.type.at (wpAny_bind (lm.at ?_))))
  rw [hps]
  refine wpAny_pure (wpAny_bind (J.type.at (wpAny_bind ((looks_findIn X hno).at (wpAny_bind (ln.at ?_))))))
  change wpAny _ _ (Builtin.ObjectAttr.storeInOwnDict (.ref x) (.ref C) (.str name tk) name v false) _ _ _
  obtain ⟨c1, c2, c3, c4, c5, c6, c7, c8, c9, ca, cb⟩ := cd
  dsimp only at hh
  subst hh
  unfold Builtin.ObjectAttr.storeInOwnDict Builtin.ObjectAttr.ownDictForStores
  repeat (first | with_reducible refine PySem.HandSPX.store_in_new ?_ ?_ | with_reducible refine wpAny_loadPart_at hx ?_ | with_reducible refine lc.at ?_ | wp_step)
  · exact ⟨_, #[], _, (Heap.get?_update_ne _ _ _ _ xne.symm).trans (Heap.get?_push_at rfl rfl), rfl, fun e he => absurd he (by simp), fun _ => rfl⟩
  · intro h' tk' ns same
    refine hq h' tk' hp.objs.size (fun b o hb ho => (same.2 b (Nat.ne_of_lt (Heap.lt_size ho))).trans ((Heap.get?_update_ne _ _ _ _ hb).trans (Heap.get?_push_of_some _ ho))) (Nat.le_refl _) xne.symm ((same.2 x xne).trans (Heap.get?_update_self _ (Heap.get?_push_of_some _ hx) rfl)) ns
end L3
set_option Elab.async false
set_option linter.all false
set_option maxRecDepth 100000
set_option maxHeartbeats 4000000
namespace L3
open PySem PySem.Spec PyProof.Rows L2 PySem.W
/-- what the written part says of an own exception class x at C, whose __init__ at fI keeps its one argument as f -/
structure XCls (K : Frag) (mg : Str → Option Value) (x : Str) (C fI : Addr) (f : Str) (bm : List Value) (nI : String) : Prop where
  gC : mg x = some (.ref C)
  cls : ∃ nm q N bs cm sn sub ab col dd k0 k1 k2 k3 k5, K.lookup C = some (excClassObj nm q C N bs cm true sn sub ab col dd k0 k1 k2 k3 k5 nI) ∧ excTail bm cm = true
  sa : findIn K (.ref C) "__setattr__" = some (some (.builtin "object.__setattr__"))
  noN : findIn K (.ref C) f = some none
  iC : findIn K (.ref C) "__init__" = some (some (.ref fI))
  tC : typeIn K (.ref fI) = some (.type "function")
  kC : keepIn K (.ref C) = true
  exC : subIn K (.ref C) (.type "BaseException") = some true
  tyC : typeIn K (.ref C) = some (.type "type")
  xc : ExcC K C
/-- __init__'s end: h before, h' behind -/
structure InitX (f : Str) (h h' : Heap) (x C dx t1 : Addr) (v : Value) : Prop where
  keep : ∀ b o, b ≠ x → h.get? b = some o → h'.get? b = some o
  obj : h'.get? x = some { cls := .ref C, dict := some dx, data := .fields #[.ref t1, .none, .none, .none, .bool false, .none] }
  dbig : h.objs.size ≤ dx
  dne : dx ≠ x
  ns : h'.Ns1 dx (fun y => if y = f then some v else none)
/-- such an exception, made -/
structure MadeX (f : Str) (h h' : Heap) (e C d : Addr) (v : Value) : Prop where
  keep : ∀ b o, h.get? b = some o → h'.get? b = some o
  new : h.objs.size ≤ e
  obj : ∃ oe vs, h'.get? e = some oe ∧ oe.cls = .ref C ∧ oe.dict = some d ∧ oe.data = .fields vs ∧ vs[1]? = some .none
  dbig : h.objs.size ≤ d
  dne : d ≠ e
  ns : h'.Ns1 d (fun y => if y = f then some v else none)
theorem len1 (v : Value) : [v].length ≤ sizeLine := by
  rw [sizeLine_eq]
  show 1 ≤ _
  decide
theorem ldL {M : Model} {s : Shared} {name : Str} {scope : Scope} {L a : Addr} {cd : Value} {m : Str → Option Value} {x : Str} {pos : Pos} {v : Value} {Q : Value → Shared → Prop} {A : Around} {E : Value → Shared → Prop} (hn : s.heap.Ns L m) (hv : m x = some v) (hk : scope.kind = .function) (hl : (envOfC name scope L a cd).kindOf x = some .local) (hd : (x == ("__debug__" : Str)) = false) (h : Q v s) :
    wpAny M A (eval (.Name x pos) (envOfC name scope L a cd)) Q E s := wpAny_Name (wpAny_loadName_local hk hl hn hv h) hd
theorem relO_f (f0 : Str) {v : V} {u : Value} (r : RelV v u) (f : Str) : RelO (List.lookup f [(f0, v)]) (if f = f0 then some u else none) := by
  by_cases e : f = f0
  · subst e
    rw [if_pos rfl, show List.lookup f [(f, v)] = some v by simp [List.lookup]]
    exact r
  · have e' : (f == f0) = false := by simpa using e
    rw [if_neg e, show List.lookup f [(f0, v)] = none by simp [List.lookup, e']]
    trivial
namespace Xvalue
def bd (q1 q2 q3 q4 : Pos) : List Stmt := [.Assign [.Attribute (.Name "self" q1) "value" q2] (.Name "value" q3) q4]
def sc : Scope := { kind := .function, names := [(PySem.Str.ofString "self", .local), (PySem.Str.ofString "value", .local)], isGenerator := false, isCoroutine := false, more := [] }
theorem made {prog : Program} {w : World} {A : Around} {R : Result → Shared → Prop} {s : Shared} {K : Frag} {mg : Str → Option Value} {xn qual : Str} {C fI : Addr} {B nI iI : String} {bB bm : List Value} {params : Arguments} {q1 q2 q3 q4 : Pos} {fd : FuncData} {v : Value} (F : XBase B nI iI bB bm) (T : XCls K mg xn C fI "value" bm nI)
    (Fd : FunD K "__init__" qual params (bd q1 q2 q3 q4) sc [] [] fI fd) (hb : L2.Binds K fd ["self", "value"] []) (X : K.In s.heap) (hlim : s.heap.NoLimit) (hroom : A.depth + 1 < recursionLimit) (hq : ∀ h' tk e d, MadeX "value" s.heap h' e C d v → R (.ok (.ret (.ref e))) { s with heap := h', toks := tk }) :
    codeAny (model prog w) A (.call (.ref C) ⟨[v], []⟩) R s := by
  obtain ⟨nm, q, N, bs, cm, sn, sub, ab, col, dd, k0, k1, k2, k3, k5, hC, ht⟩ := T.cls
  obtain ⟨oc, od, dV, kV, doc, pm, an, cdv, ct, osl, rfl, ho, hcd, _, _⟩ := Fd.ex
  obtain ⟨hp, g, dr, tk, os⟩ := s
  have up : ∀ b o, hp.get? b = some o → ((hp.push (kdv_tup [v])).push (PySem.HandSPX.excO C hp.objs.size)).get? b = some o := fun b o e => Heap.get?_push_of_some _ (Heap.get?_push_of_some _ e)
  have hx : ((hp.push (kdv_tup [v])).push (PySem.HandSPX.excO C hp.objs.size)).get? (hp.objs.size + 1) = some (PySem.HandSPX.excO C hp.objs.size) := by heap_get
  have hcl : clsIn K C = some { name := nm, bases := bs, mro := .ref C :: cm, ns := N, qualname := q, hasDict := true, slotNames := sn, subclasses := sub, abstract := ab, collection := col, hasDel := false } := by unfold clsIn; rw [hC] <;> rfl
  have init : ∀ (A' : Around), A'.depth < recursionLimit → ∀ (R' : Result → Shared → Prop), (∀ h' tk' dx, InitX "value" ((hp.push (kdv_tup [v])).push (PySem.HandSPX.excO C hp.objs.size)) h' (hp.objs.size + 1) C dx hp.objs.size v → R' (.ok (.ret .none)) ⟨h', g, dr, tk', os⟩) →
      codeAny (model prog w) A' (.call (.ref fI) ⟨[.ref (hp.objs.size + 1), v], []⟩) R' ⟨(hp.push (kdv_tup [v])).push (PySem.HandSPX.excO C hp.objs.size), g, dr, tk, os⟩ := by
    intro A' hroom' R' hq'
    refine Att.call_fn (binds := [("self", .ref (hp.objs.size + 1)), ("value", v)]) (X.keeps up) (hlim.keeps up) ho hcd hroom' (hb ⟨(hp.push (kdv_tup [v])).push (PySem.HandSPX.excO C hp.objs.size), g, dr, tk, os⟩ [.ref (hp.objs.size + 1), v] (X.keeps up) rfl) (by rfl) (fun s₁ IC => ?_) rfl rfl rfl
    obtain ⟨h₁, tk₁, rfl⟩ := IC.toInCall.same
    have k := IC.toInCall.keep
    have ns := IC.toInCall.ns
    have X₁ : K.In h₁ := (X.keeps up).keeps k
    have hx₁ := k _ _ hx
    change wpAny _ _ (execs _ _) _ _ _
    refine wpAny_execs_cons (plainObj_wpAny_Assign_Attribute ?_)
    refine ldL (v := v) ns (by first | rfl | with_unfolding_all rfl | kernel_rfl) rfl (by first | rfl | kernel_rfl) (by decide) (ldL (v := .ref (hp.objs.size + 1)) ns (by first | rfl | with_unfolding_all rfl | kernel_rfl) rfl (by first | rfl | kernel_rfl) (by decide) ?_)
    refine set_plain X₁ (ox := PySem.HandSPX.excO C hp.objs.size) (od := none) ⟨hx₁, rfl, rfl, trivial⟩ T.sa ?_
    refine osa_gen X₁ hx₁ hcl rfl (by rw [List.contains_cons, excTail_contains "object" cm ht, F.top, Bool.or_true]) (fun self => by rw [refuseLoop_ref]; exact excTail_pass self (F.pass self) cm ht) rfl T.noN (fun h₃ tk₃ dx k₃ dn dne hx₃ hn₃ => ?_)
    change wpAny _ _ (execs _ _) _ _ _
    exact wpAny_execs_nil (hq' h₃ tk₃ dx ⟨fun b o hb e => k₃ b o hb (k b o e), hx₃, Nat.le_of_lt (Nat.lt_of_lt_of_le ns.lt dn), dne, hn₃⟩)
  refine xcall F ht (X _ _ hC) (len1 v) (looks_findIn X T.iC) (fun self => bind_fn X self T.tC) (init _ hroom _ fun h' tk' dx M => ?_)
  have old : ∀ b o, hp.get? b = some o → h'.get? b = some o := fun b o e => M.keep b o (Nat.ne_of_lt (Nat.lt_succ_of_lt (Heap.lt_size e))) (up b o e)
  have z : hp.objs.size + 1 + 1 ≤ dx := by
    have q := M.dbig
    rw [Heap.size_push, Heap.size_push] at q
    exact q
  exact ⟨rfl, hq h' tk' (hp.objs.size + 1) dx ⟨old, Nat.le_succ _, ⟨_, _, M.obj, rfl, rfl, rfl, rfl⟩, (show hp.objs.size ≤ dx by omega), M.dne, M.ns⟩⟩
end Xvalue
namespace Xname
def bd (q1 q2 q3 q4 : Pos) : List Stmt := [.Assign [.Attribute (.Name "self" q1) "name" q2] (.Name "name" q3) q4]
def sc : Scope := { kind := .function, names := [(PySem.Str.ofString "self", .local), (PySem.Str.ofString "name", .local)], isGenerator := false, isCoroutine := false, more := [] }
theorem made {prog : Program} {w : World} {A : Around} {R : Result → Shared → Prop} {s : Shared} {K : Frag} {mg : Str → Option Value} {xn qual : Str} {C fI : Addr} {B nI iI : String} {bB bm : List Value} {params : Arguments} {q1 q2 q3 q4 : Pos} {fd : FuncData} {v : Value} (F : XBase B nI iI bB bm) (T : XCls K mg xn C fI "name" bm nI)
    (Fd : FunD K "__init__" qual params (bd q1 q2 q3 q4) sc [] [] fI fd) (hb : L2.Binds K fd ["self", "name"] []) (X : K.In s.heap) (hlim : s.heap.NoLimit) (hroom : A.depth + 1 < recursionLimit) (hq : ∀ h' tk e d, MadeX "name" s.heap h' e C d v → R (.ok (.ret (.ref e))) { s with heap := h', toks := tk }) :
    codeAny (model prog w) A (.call (.ref C) ⟨[v], []⟩) R s := by
  obtain ⟨nm, q, N, bs, cm, sn, sub, ab, col, dd, k0, k1, k2, k3, k5, hC, ht⟩ := T.cls
  obtain ⟨oc, od, dV, kV, doc, pm, an, cdv, ct, osl, rfl, ho, hcd, _, _⟩ := Fd.ex
  obtain ⟨hp, g, dr, tk, os⟩ := s
  have up : ∀ b o, hp.get? b = some o → ((hp.push (kdv_tup [v])).push (PySem.HandSPX.excO C hp.objs.size)).get? b = some o := fun b o e => Heap.get?_push_of_some _ (Heap.get?_push_of_some _ e)
  have hx : ((hp.push (kdv_tup [v])).push (PySem.HandSPX.excO C hp.objs.size)).get? (hp.objs.size + 1) = some (PySem.HandSPX.excO C hp.objs.size) := by heap_get
  have hcl : clsIn K C = some { name := nm, bases := bs, mro := .ref C :: cm, ns := N, qualname := q, hasDict := true, slotNames := sn, subclasses := sub, abstract := ab, collection := col, hasDel := false } := by unfold clsIn; rw [hC] <;> rfl
  have init : ∀ (A' : Around), A'.depth < recursionLimit → ∀ (R' : Result → Shared → Prop), (∀ h' tk' dx, InitX "name" ((hp.push (kdv_tup [v])).push (PySem.HandSPX.excO C hp.objs.size)) h' (hp.objs.size + 1) C dx hp.objs.size v → R' (.ok (.ret .none)) ⟨h', g, dr, tk', os⟩) →
      codeAny (model prog w) A' (.call (.ref fI) ⟨[.ref (hp.objs.size + 1), v], []⟩) R' ⟨(hp.push (kdv_tup [v])).push (PySem.HandSPX.excO C hp.objs.size), g, dr, tk, os⟩ := by
    intro A' hroom' R' hq'
    refine Att.call_fn (binds := [("self", .ref (hp.objs.size + 1)), ("name", v)]) (X.keeps up) (hlim.keeps up) ho hcd hroom' (hb ⟨(hp.push (kdv_tup [v])).push (PySem.HandSPX.excO C hp.objs.size), g, dr, tk, os⟩ [.ref (hp.objs.size + 1), v] (X.keeps up) rfl) (by rfl) (fun s₁ IC => ?_) rfl rfl rfl
    obtain ⟨h₁, tk₁, rfl⟩ := IC.toInCall.same
    have k := IC.toInCall.keep
    have ns := IC.toInCall.ns
    have X₁ : K.In h₁ := (X.keeps up).keeps k
    have hx₁ := k _ _ hx
    change wpAny _ _ (execs _ _) _ _ _
    refine wpAny_execs_cons (plainObj_wpAny_Assign_Attribute ?_)
    refine ldL (v := v) ns (by first | rfl | with_unfolding_all rfl | kernel_rfl) rfl (by first | rfl | kernel_rfl) (by decide) (ldL (v := .ref (hp.objs.size + 1)) ns (by first | rfl | with_unfolding_all rfl | kernel_rfl) rfl (by first | rfl | kernel_rfl) (by decide) ?_)
    refine set_plain X₁ (ox := PySem.HandSPX.excO C hp.objs.size) (od := none) ⟨hx₁, rfl, rfl, trivial⟩ T.sa ?_
    refine osa_gen X₁ hx₁ hcl rfl (by rw [List.contains_cons, excTail_contains "object" cm ht, F.top, Bool.or_true]) (fun self => by rw [refuseLoop_ref]; exact excTail_pass self (F.pass self) cm ht) rfl T.noN (fun h₃ tk₃ dx k₃ dn dne hx₃ hn₃ => ?_)
    change wpAny _ _ (execs _ _) _ _ _
    exact wpAny_execs_nil (hq' h₃ tk₃ dx ⟨fun b o hb e => k₃ b o hb (k b o e), hx₃, Nat.le_of_lt (Nat.lt_of_lt_of_le ns.lt dn), dne, hn₃⟩)
  refine xcall F ht (X _ _ hC) (len1 v) (looks_findIn X T.iC) (fun self => bind_fn X self T.tC) (init _ hroom _ fun h' tk' dx M => ?_)
  have old : ∀ b o, hp.get? b = some o → h'.get? b = some o := fun b o e => M.keep b o (Nat.ne_of_lt (Nat.lt_succ_of_lt (Heap.lt_size e))) (up b o e)
  have z : hp.objs.size + 1 + 1 ≤ dx := by
    have q := M.dbig
    rw [Heap.size_push, Heap.size_push] at q
    exact q
  exact ⟨rfl, hq h' tk' (hp.objs.size + 1) dx ⟨old, Nat.le_succ _, ⟨_, _, M.obj, rfl, rfl, rfl, rfl⟩, (show hp.objs.size ≤ dx by omega), M.dne, M.ns⟩⟩
end Xname
namespace Xlimit
def bd (q1 q2 q3 q4 : Pos) : List Stmt := [.Assign [.Attribute (.Name "self" q1) "limit" q2] (.Name "limit" q3) q4]
def sc : Scope := { kind := .function, names := [(PySem.Str.ofString "self", .local), (PySem.Str.ofString "limit", .local)], isGenerator := false, isCoroutine := false, more := [] }
theorem made {prog : Program} {w : World} {A : Around} {R : Result → Shared → Prop} {s : Shared} {K : Frag} {mg : Str → Option Value} {xn qual : Str} {C fI : Addr} {B nI iI : String} {bB bm : List Value} {params : Arguments} {q1 q2 q3 q4 : Pos} {fd : FuncData} {v : Value} (F : XBase B nI iI bB bm) (T : XCls K mg xn C fI "limit" bm nI)
    (Fd : FunD K "__init__" qual params (bd q1 q2 q3 q4) sc [] [] fI fd) (hb : L2.Binds K fd ["self", "limit"] []) (X : K.In s.heap) (hlim : s.heap.NoLimit) (hroom : A.depth + 1 < recursionLimit) (hq : ∀ h' tk e d, MadeX "limit" s.heap h' e C d v → R (.ok (.ret (.ref e))) { s with heap := h', toks := tk }) :
    codeAny (model prog w) A (.call (.ref C) ⟨[v], []⟩) R s := by
  obtain ⟨nm, q, N, bs, cm, sn, sub, ab, col, dd, k0, k1, k2, k3, k5, hC, ht⟩ := T.cls
  obtain ⟨oc, od, dV, kV, doc, pm, an, cdv, ct, osl, rfl, ho, hcd, _, _⟩ := Fd.ex
  obtain ⟨hp, g, dr, tk, os⟩ := s
  have up : ∀ b o, hp.get? b = some o → ((hp.push (kdv_tup [v])).push (PySem.HandSPX.excO C hp.objs.size)).get? b = some o := fun b o e => Heap.get?_push_of_some _ (Heap.get?_push_of_some _ e)
  have hx : ((hp.push (kdv_tup [v])).push (PySem.HandSPX.excO C hp.objs.size)).get? (hp.objs.size + 1) = some (PySem.HandSPX.excO C hp.objs.size) := by heap_get
  have hcl : clsIn K C = some { name := nm, bases := bs, mro := .ref C :: cm, ns := N, qualname := q, hasDict := true, slotNames := sn, subclasses := sub, abstract := ab, collection := col, hasDel := false } := by unfold clsIn; rw [hC] <;> rfl
  have init : ∀ (A' : Around), A'.depth < recursionLimit → ∀ (R' : Result → Shared → Prop), (∀ h' tk' dx, InitX "limit" ((hp.push (kdv_tup [v])).push (PySem.HandSPX.excO C hp.objs.size)) h' (hp.objs.size + 1) C dx hp.objs.size v → R' (.ok (.ret .none)) ⟨h', g, dr, tk', os⟩) →
      codeAny (model prog w) A' (.call (.ref fI) ⟨[.ref (hp.objs.size + 1), v], []⟩) R' ⟨(hp.push (kdv_tup [v])).push (PySem.HandSPX.excO C hp.objs.size), g, dr, tk, os⟩ := by
    intro A' hroom' R' hq'
    refine Att.call_fn (binds := [("self", .ref (hp.objs.size + 1)), ("limit", v)]) (X.keeps up) (hlim.keeps up) ho hcd hroom' (hb ⟨(hp.push (kdv_tup [v])).push (PySem.HandSPX.excO C hp.objs.size), g, dr, tk, os⟩ [.ref (hp.objs.size + 1), v] (X.keeps up) rfl) (by rfl) (fun s₁ IC => ?_) rfl rfl rfl
    obtain ⟨h₁, tk₁, rfl⟩ := IC.toInCall.same
    have k := IC.toInCall.keep
    have ns := IC.toInCall.ns
    have X₁ : K.In h₁ := (X.keeps up).keeps k
    have hx₁ := k _ _ hx
    change wpAny _ _ (execs _ _) _ _ _
    refine wpAny_execs_cons (plainObj_wpAny_Assign_Attribute ?_)
    refine ldL (v := v) ns (by first | rfl | with_unfolding_all rfl | kernel_rfl) rfl (by first | rfl | kernel_rfl) (by decide) (ldL (v := .ref (hp.objs.size + 1)) ns (by first | rfl | with_unfolding_all rfl | kernel_rfl) rfl (by first | rfl | kernel_rfl) (by decide) ?_)
    refine set_plain X₁ (ox := PySem.HandSPX.excO C hp.objs.size) (od := none) ⟨hx₁, rfl, rfl, trivial⟩ T.sa ?_
    refine osa_gen X₁ hx₁ hcl rfl (by rw [List.contains_cons, excTail_contains "object" cm ht, F.top, Bool.or_true]) (fun self => by rw [refuseLoop_ref]; exact excTail_pass self (F.pass self) cm ht) rfl T.noN (fun h₃ tk₃ dx k₃ dn dne hx₃ hn₃ => ?_)
    change wpAny _ _ (execs _ _) _ _ _
    exact wpAny_execs_nil (hq' h₃ tk₃ dx ⟨fun b o hb e => k₃ b o hb (k b o e), hx₃, Nat.le_of_lt (Nat.lt_of_lt_of_le ns.lt dn), dne, hn₃⟩)
  refine xcall F ht (X _ _ hC) (len1 v) (looks_findIn X T.iC) (fun self => bind_fn X self T.tC) (init _ hroom _ fun h' tk' dx M => ?_)
  have old : ∀ b o, hp.get? b = some o → h'.get? b = some o := fun b o e => M.keep b o (Nat.ne_of_lt (Nat.lt_succ_of_lt (Heap.lt_size e))) (up b o e)
  have z : hp.objs.size + 1 + 1 ≤ dx := by
    have q := M.dbig
    rw [Heap.size_push, Heap.size_push] at q
    exact q
  exact ⟨rfl, hq h' tk' (hp.objs.size + 1) dx ⟨old, Nat.le_succ _, ⟨_, _, M.obj, rfl, rfl, rfl, rfl⟩, (show hp.objs.size ≤ dx by omega), M.dne, M.ns⟩⟩
end Xlimit
namespace Xmany
def bd (q1 q2 q3 q4 : Pos) : List Stmt := [.Assign [.Attribute (.Name "self" q1) "many" q2] (.Name "many" q3) q4]
def sc : Scope := { kind := .function, names := [(PySem.Str.ofString "self", .local), (PySem.Str.ofString "many", .local)], isGenerator := false, isCoroutine := false, more := [] }
theorem made {prog : Program} {w : World} {A : Around} {R : Result → Shared → Prop} {s : Shared} {K : Frag} {mg : Str → Option Value} {xn qual : Str} {C fI : Addr} {B nI iI : String} {bB bm : List Value} {params : Arguments} {q1 q2 q3 q4 : Pos} {fd : FuncData} {v : Value} (F : XBase B nI iI bB bm) (T : XCls K mg xn C fI "many" bm nI)
    (Fd : FunD K "__init__" qual params (bd q1 q2 q3 q4) sc [] [] fI fd) (hb : L2.Binds K fd ["self", "many"] []) (X : K.In s.heap) (hlim : s.heap.NoLimit) (hroom : A.depth + 1 < recursionLimit) (hq : ∀ h' tk e d, MadeX "many" s.heap h' e C d v → R (.ok (.ret (.ref e))) { s with heap := h', toks := tk }) :
    codeAny (model prog w) A (.call (.ref C) ⟨[v], []⟩) R s := by
  obtain ⟨nm, q, N, bs, cm, sn, sub, ab, col, dd, k0, k1, k2, k3, k5, hC, ht⟩ := T.cls
  obtain ⟨oc, od, dV, kV, doc, pm, an, cdv, ct, osl, rfl, ho, hcd, _, _⟩ := Fd.ex
  obtain ⟨hp, g, dr, tk, os⟩ := s
  have up : ∀ b o, hp.get? b = some o → ((hp.push (kdv_tup [v])).push (PySem.HandSPX.excO C hp.objs.size)).get? b = some o := fun b o e => Heap.get?_push_of_some _ (Heap.get?_push_of_some _ e)
  have hx : ((hp.push (kdv_tup [v])).push (PySem.HandSPX.excO C hp.objs.size)).get? (hp.objs.size + 1) = some (PySem.HandSPX.excO C hp.objs.size) := by heap_get
  have hcl : clsIn K C = some { name := nm, bases := bs, mro := .ref C :: cm, ns := N, qualname := q, hasDict := true, slotNames := sn, subclasses := sub, abstract := ab, collection := col, hasDel := false } := by unfold clsIn; rw [hC] <;> rfl
  have init : ∀ (A' : Around), A'.depth < recursionLimit → ∀ (R' : Result → Shared → Prop), (∀ h' tk' dx, InitX "many" ((hp.push (kdv_tup [v])).push (PySem.HandSPX.excO C hp.objs.size)) h' (hp.objs.size + 1) C dx hp.objs.size v → R' (.ok (.ret .none)) ⟨h', g, dr, tk', os⟩) →
      codeAny (model prog w) A' (.call (.ref fI) ⟨[.ref (hp.objs.size + 1), v], []⟩) R' ⟨(hp.push (kdv_tup [v])).push (PySem.HandSPX.excO C hp.objs.size), g, dr, tk, os⟩ := by
    intro A' hroom' R' hq'
    refine Att.call_fn (binds := [("self", .ref (hp.objs.size + 1)), ("many", v)]) (X.keeps up) (hlim.keeps up) ho hcd hroom' (hb ⟨(hp.push (kdv_tup [v])).push (PySem.HandSPX.excO C hp.objs.size), g, dr, tk, os⟩ [.ref (hp.objs.size + 1), v] (X.keeps up) rfl) (by rfl) (fun s₁ IC => ?_) rfl rfl rfl
    obtain ⟨h₁, tk₁, rfl⟩ := IC.toInCall.same
    have k := IC.toInCall.keep
    have ns := IC.toInCall.ns
    have X₁ : K.In h₁ := (X.keeps up).keeps k
    have hx₁ := k _ _ hx
    change wpAny _ _ (execs _ _) _ _ _
    refine wpAny_execs_cons (plainObj_wpAny_Assign_Attribute ?_)
    refine ldL (v := v) ns (by first | rfl | with_unfolding_all rfl | kernel_rfl) rfl (by first | rfl | kernel_rfl) (by decide) (ldL (v := .ref (hp.objs.size + 1)) ns (by first | rfl | with_unfolding_all rfl | kernel_rfl) rfl (by first | rfl | kernel_rfl) (by decide) ?_)
    refine set_plain X₁ (ox := PySem.HandSPX.excO C hp.objs.size) (od := none) ⟨hx₁, rfl, rfl, trivial⟩ T.sa ?_
    refine osa_gen X₁ hx₁ hcl rfl (by rw [List.contains_cons, excTail_contains "object" cm ht, F.top, Bool.or_true]) (fun self => by rw [refuseLoop_ref]; exact excTail_pass self (F.pass self) cm ht) rfl T.noN (fun h₃ tk₃ dx k₃ dn dne hx₃ hn₃ => ?_)
    change wpAny _ _ (execs _ _) _ _ _
    exact wpAny_execs_nil (hq' h₃ tk₃ dx ⟨fun b o hb e => k₃ b o hb (k b o e), hx₃, Nat.le_of_lt (Nat.lt_of_lt_of_le ns.lt dn), dne, hn₃⟩)
  refine xcall F ht (X _ _ hC) (len1 v) (looks_findIn X T.iC) (fun self => bind_fn X self T.tC) (init _ hroom _ fun h' tk' dx M => ?_)
  have old : ∀ b o, hp.get? b = some o → h'.get? b = some o := fun b o e => M.keep b o (Nat.ne_of_lt (Nat.lt_succ_of_lt (Heap.lt_size e))) (up b o e)
  have z : hp.objs.size + 1 + 1 ≤ dx := by
    have q := M.dbig
    rw [Heap.size_push, Heap.size_push] at q
    exact q
  exact ⟨rfl, hq h' tk' (hp.objs.size + 1) dx ⟨old, Nat.le_succ _, ⟨_, _, M.obj, rfl, rfl, rfl, rfl⟩, (show hp.objs.size ≤ dx by omega), M.dne, M.ns⟩⟩
end Xmany
theorem xo_ok {P : Program} {w : World} {H : Hp} {h : Heap} {a d : Addr} {cls : Value} {oe : Obj} {vs : Array Value} (e : h.get? a = some oe) (z : Zc cls (some d) oe) (q : oe.data = .fields vs) : ObjOk P w H h a (XO cls d a) := ⟨⟨oe, vs, e, z, q⟩, ⟨oe, e⟩, fun _ _ y k => let ⟨o, v, q1, q2⟩ := y; ⟨o, v, k o q1, q2⟩⟩
/-- x(e): what the making leaves; made at any state -/
def MakesX (X : Cx) (C : Addr) (f : Str) : Prop := ∀ (A : Around) (R : Result → Shared → Prop) (s : Shared) (v : Value), X.K.In s.heap → s.heap.NoLimit → A.depth + 1 < recursionLimit → (∀ h' tk e d, MadeX f s.heap h' e C d v → R (.ok (.ret (.ref e))) { s with heap := h', toks := tk }) → codeAny (model X.prog X.w) A (.call (.ref C) ⟨[v], []⟩) R s
section
variable {X : Cx} {Wx : WX} {C : Addr} {f x : Str} {a : Expr} {ta : TE} {p pos : Pos} {k : Nat}
/-- the exception at e is read, its dict at d is told; J: without the exception -/
theorem made_inv {pins : List (Addr × Obj)} {σ : L2.St} {H1 : Hp} {hp h' : Heap} {g : Array GenState} {dr : Drawn} {tk tk' : Nat} {os : OsState} {e d : Addr} {v : V} {u : Value} (I1 : Inv X pins σ H1 ⟨hp, g, dr, tk, os⟩) (M : MadeX f hp h' e C d u) (rv : RelV v u) :
    ∃ G oe vs, Inv X pins σ (upd H1 d (.xd [(f, v)])) ⟨G, g, dr, tk', os⟩ ∧ (∀ b o, G.get? b = some o → h'.get? b = some o) ∧ G.get? e = none ∧ h'.get? e = some oe ∧ Zc (.ref C) (some d) oe ∧ oe.data = .fields vs ∧ vs[1]? = some .none ∧ upd H1 d (.xd [(f, v)]) e = none ∧ H1 d = none ∧ H1 e = none := by
  obtain ⟨oe, vs, hoe, hc, hd, hdat, h1⟩ := M.obj
  obtain ⟨G, g1, g2⟩ := restrict h' fun b => decide (b ≠ e)
  have gk : ∀ b, b ≠ e → G.get? b = h'.get? b := fun b hb => g1 b (decide_eq_true hb)
  have ge : G.get? e = none := g2 e (by simp)
  have old : ∀ b o, hp.get? b = some o → G.get? b = some o := fun b o q => (gk b (Nat.ne_of_lt (Nat.lt_of_lt_of_le (Heap.lt_size q) M.new))).trans (M.keep b o q)
  have ob : ObjOk X.prog X.w (upd H1 d (.xd [(f, v)])) G d (.xd [(f, v)]) := ⟨_, M.ns.at (fun o q => (gk d M.dne).trans q), fun f' => relO_f f rv f'⟩
  refine ⟨G, oe, vs, I1.laid (t' := tk') old M.dbig ob, fun b o q => ?_, ge, hoe, ⟨hc, hd⟩, hdat, h1, ?_, I1.hok.fresh M.dbig, I1.hok.fresh M.new⟩
  · by_cases hb : b = e
    · rw [hb, ge] at q; cases q
    · exact (gk b hb).symm.trans q
  · rw [upd_ne (Ne.symm M.dne)]
    exact I1.hok.fresh M.new
/-- x(e) as a value -/
def tXv (C : Addr) (f : Str) (ta : TE) : TE := fun σ H Q => ta σ H fun v H1 => ∀ e d, H1 e = none → H1 d = none → d ≠ e → Q (.ref e) (upd (upd H1 d (.xd [(f, v)])) e (XO (.ref C) d e))
theorem pe_xv (mk : MakesX X C f) (gC : X.mg x = some (.ref C)) (kC : keepIn X.K (.ref C) = true) (hr : Room k X.A) (hg : Gl X x) (ha : PE X a ta) (hdb : (x == ("__debug__" : Str)) = false := by decide) (hs : starEach [a] X.env = (false, eval a X.env) :: starEach [] X.env := by rfl) :
    PE X (.Call (.Name x p) [a] [] pos) (tXv C f ta) := by
  refine ⟨fun pins s σ H Q I h => wpAny_Call_Name_kw (ld_glob I hg gC ?_ hdb)⟩
  refine callWith_K (h₀ := X.base) I.ok.mod.kin kC ?_ hs (by rfl)
  rw [hs]
  change wpAny _ _ (spliced ((false, eval a X.env) :: backTo pos (starEach [] X.env))) _ _ s
  refine Calls.spliced_cons (thn (ha.run pins s σ H _ I h) fun u s1 ⟨v, H1, I1, r1, q1⟩ => Calls.spliced_nil ⟨I1.kIn, ?_⟩)
  change wpAny _ _ (PySem.call (.ref C) [u]) _ _ _
  obtain ⟨hp, g, dr, tk, os⟩ := s1
  refine wpAny_call (mk X.A _ ⟨hp, g, dr, tk, os⟩ u I1.kIn I1.nolimit (by have := hr.dp; omega) fun h' tk' e d M => ?_)
  obtain ⟨G, oe, vs, J, gs, ge, hoe, hz, hdat, h1, ne, nd, ne1⟩ := made_inv (tk' := tk') I1 M r1
  exact ⟨.ref e, _, J.laidN (t' := tk') gs ge ne (xo_ok hoe hz hdat), rfl, q1 e d ne1 nd M.dne⟩
/-- x(e), to be raised -/
def tXr (C : Addr) (f : Str) (ta : TE) : L2.St → Hp → XK → Prop := fun σ H Q => ta σ H fun v H1 => ∀ d, H1 d = none → Q (.ref C) (some d) (upd H1 d (.xd [(f, v)]))
theorem pmk_xr (mk : MakesX X C f) (gC : X.mg x = some (.ref C)) (kC : keepIn X.K (.ref C) = true) (hr : Room k X.A) (ra : Raises X (.ref C)) (hg : Gl X x) (ha : PE X a ta) (hdb : (x == ("__debug__" : Str)) = false := by decide) (hs : starEach [a] X.env = (false, eval a X.env) :: starEach [] X.env := by rfl) :
    PMk X (.Call (.Name x p) [a] [] pos) (tXr C f ta) := by
  intro pins s σ H Q I h
  refine wpAny_Call_Name_kw (ld_glob I hg gC ?_ hdb)
  refine callWith_K (h₀ := X.base) I.ok.mod.kin kC ?_ hs (by rfl)
  rw [hs]
  change wpAny _ _ (spliced ((false, eval a X.env) :: backTo pos (starEach [] X.env))) _ _ s
  refine Calls.spliced_cons (thn (ha.run pins s σ H _ I h) fun u s1 ⟨v, H1, I1, r1, q1⟩ => Calls.spliced_nil ⟨I1.kIn, ?_⟩)
  change wpAny _ _ (PySem.call (.ref C) [u]) _ _ _
  obtain ⟨hp, g, dr, tk, os⟩ := s1
  refine wpAny_call (mk X.A _ ⟨hp, g, dr, tk, os⟩ u I1.kIn I1.nolimit (by have := hr.dp; omega) fun h' tk' e d M => ?_)
  obtain ⟨G, oe, vs, J, gs, ge, hoe, hz, hdat, h1, ne, nd, ne1⟩ := made_inv (tk' := tk') I1 M r1
  exact ⟨e, oe, vs, ⟨G, g, dr, tk', os⟩, _, .ref C, some d, rfl, J, gs, ge, hoe, hz, hdat, h1, ne, rfl, I1.bare, ra, q1 d nd⟩
end
end L3
set_option Elab.async false
set_option linter.all false
set_option maxRecDepth 100000
set_option maxHeartbeats 4000000
namespace L3
open PySem PySem.Spec PyProof.Rows L2 PySem.W
/-! ### exceptions as values -/
def mXv (c : Nat) (f : Str) (a : M D) : M D := a.bind fun d => M.pure (.exf c [(f, d)])
def mXc (c : Nat) (a : M D) : M D := a.bind fun _ => M.pure (.exc c)
section
variable {X : Cx} {Wx : WX} {a : Expr} {ma : M D} {p pos : Pos} {k c : Nat} {f x : Str}
theorem pem_xv (mk : MakesX X (cA X.K c) f) (gC : X.mg x = some (.ref (cA X.K c))) (kC : keepIn X.K (.ref (cA X.K c)) = true) (hr : Room k X.A) (hg : Gl X x) (ha : PEM X Wx a ma) (hdb : (x == ("__debug__" : Str)) = false := by decide) (hs : starEach [a] X.env = (false, eval a X.env) :: starEach [] X.env := by rfl) :
    PEM X Wx (.Call (.Name x p) [a] [] pos) (mXv c f ma) := by
  refine pe_imp (pe_xv mk gC kC hr hg ha hdb hs) fun σ H Q h => ?_
  obtain ⟨cc, F, ρ, rr, ρ', w, hm, post⟩ := h
  rcases bind_inv hm with ⟨d, ρ1, h1, h2⟩ | ⟨y, h1, rfl⟩
  · refine ⟨cc, F, ρ, .ok d, ρ1, w, h1, fun F1 H1 e1 w1 v rv e dd he hd hne => ?_⟩
    cases h2
    obtain ⟨w2, s2⟩ := w1.allocF (u := .xd [(f, v)]) hd
    have he2 : upd H1 dd (.xd [(f, v)]) e = none := by rw [upd_ne (Ne.symm hne)]; exact he
    obtain ⟨w3, s3⟩ := w2.allocF (u := XO (.ref (cA X.K c)) dd e) he2
    exact post _ _ ((e1.trans s2).trans s3) w3 (.ref e) (.exf upd_same (s3 _ _ upd_same) (.cons ((rv.mono s2).mono s3) .nil))
  · exact ⟨cc, F, ρ, .ex y, ρ', w, h1, post⟩
theorem pem_xc {B nI iI : String} {bm : List Value} (Fb : ExcBaseFacts B nI iI bm) (q : excIn X.K (cA X.K c) bm nI = true) (gC : X.mg x = some (.ref (cA X.K c))) (kC : keepIn X.K (.ref (cA X.K c)) = true) (hg : Gl X x) (ha : PEM X Wx a ma) (hs : starEach [a] X.env = (false, eval a X.env) :: starEach [] X.env := by rfl) (hdb : (x == ("__debug__" : Str)) = false := by decide) :
    PEM X Wx (.Call (.Name x p) [a] [] pos) (mXc c ma) := by
  refine pe_imp (pe_exc1 Fb q gC kC hg ha hs hdb) fun σ H Q h => ?_
  obtain ⟨cc, F, ρ, rr, ρ', w, hm, post⟩ := h
  rcases bind_inv hm with ⟨d, ρ1, h1, h2⟩ | ⟨y, h1, rfl⟩
  · refine ⟨cc, F, ρ, .ok d, ρ1, w, h1, fun F1 H1 e1 w1 v rv e he => ?_⟩
    cases h2
    obtain ⟨w2, s2⟩ := w1.allocF (u := ExO (.ref (cA X.K c)) e) he
    exact post _ _ (e1.trans s2) w2 (.ref e) (.exc upd_same)
  · exact ⟨cc, F, ρ, .ex y, ρ', w, h1, post⟩
end
/-! isinstance of an exception; its field -/
def excOf : D → Option Nat
  | .exc c => some c
  | .exf c _ => some c
  | _ => none
def dIsE (tb : List (Nat × Bool)) (d : D) : Option D := match excOf d with
  | some c => (tb.lookup c).map .bl
  | none => none
/-- where the exception of d stands -/
def ExAt (K : Frag) (H : Hp) (a C : Addr) : Prop := H a = some (ExO (.ref C) a) ∨ ∃ d fs, H a = some (XO (.ref C) d a) ∧ H d = some (.xd fs)
theorem look_mem {β : Type} : ∀ {l : List (Nat × β)} {c : Nat} {b : β}, l.lookup c = some b → (c, b) ∈ l
  | [], _, _, h => by cases h
  | (x, y) :: l, c, b, h => by
    rw [List.lookup_cons] at h
    split at h
    · rename_i e; cases h; rw [beq_iff_eq.mp e]; exact List.mem_cons_self
    · exact List.mem_cons_of_mem _ (look_mem h)
theorem exAt_of {K : Frag} {F H : Hp} {x : V} {d : D} {c : Nat} (r : Rep K F x d) (sub : Same F H) (h : excOf d = some c) : ∃ a, x = .ref a ∧ ExAt K H a (cA K c) := by
  cases r <;> try (cases h; done)
  · rename_i a C q; cases h; exact ⟨a, rfl, .inl (sub _ _ q)⟩
  · rename_i a dd C fs ds q q2 _; cases h; exact ⟨a, rfl, .inr ⟨dd, fs, sub _ _ q, sub _ _ q2⟩⟩
theorem exAt_inst {X : Cx} {pins : List (Addr × Obj)} {σ : L2.St} {H : Hp} {s : Shared} {a C : Addr} (I : Inv X pins σ H s) (h : ExAt X.K H a C) : ∃ oe od, InstAt s.heap a oe C od := by
  rcases h with h | ⟨d, fs, h, h2⟩
  · obtain ⟨⟨oe, vs, ho, hz, hd, _⟩, _, _⟩ := I.hok a _ h
    refine ⟨oe, none, ho, hz.1, by unfold notCls; rw [hd] <;> rfl, ?_⟩
    rw [hz.2]; trivial
  · obtain ⟨⟨oe, vs, ho, hz, hd⟩, _, _⟩ := I.hok a _ h
    obtain ⟨mA, hns, _⟩ := (show ObjOk X.prog X.w H s.heap d (.xd fs) from I.hok d _ h2)
    obtain ⟨od, hod, _⟩ := lookIn_ns hns
    refine ⟨oe, some od, ho, hz.1, by unfold notCls; rw [hd] <;> rfl, ?_⟩
    rw [hz.2]; exact hod
def rIsX (K : Frag) : List V → Hp → VK → Prop := fun xs H Q => ∃ (a C : Addr) (cv : V) (u : Value) (b : Bool), xs = [.ref a, cv] ∧ ClsV cv u ∧ ExAt K H a C ∧ ExcC K C ∧ kitOne K (.ref C) u = some b ∧ Q (.bl b) H
theorem call_isX {X : Cx} : CallR X (.builtin "isinstance") (rIsX X.K) := by
  intro pins s σ H xs us Q I r h
  obtain ⟨a, C, cv, u, b, rfl, hc, hx, xc, e, q⟩ := h
  obtain ⟨u1, u2, rfl, r1, r2⟩ := vals2 r
  cases hc.eq r2
  cases (show u1 = Value.ref a from r1)
  obtain ⟨oe, od, J⟩ := exAt_inst I hx
  obtain ⟨cd, hcd, _⟩ := any_some xc.hd
  exact kia_one (kitx_exc (by rw [hcd]; rfl) xc.hg xc.hk xc.hs xc.ha xc.hn xc.ht xc.hm) I.kIn J e (fun z => nomatch z) fun tk => ⟨.bl b, H, I.tok tk, rfl, q⟩
section
variable {X : Cx} {Wx : WX} {e ce : Expr} {me : M D} {p pos : Pos} {c : Nat} {f : Str}
theorem pem_isX {cv : V} {u : Value} (tb : List (Nat × Bool)) (hu : ClsV cv u) (ht : ∀ q ∈ tb, ExcC X.K (cA X.K q.1) ∧ kitOne X.K (.ref (cA X.K q.1)) u = some q.2) (hpe : PE X ce (tC cv)) (h : PEM X Wx e me)
    (hp : ∀ {ta : TA}, PA X [e, ce] ta → PE X (.Call (.Name "isinstance" p) [e, ce] [] pos) (tCB (rIsX X.K) ta)) (hs : starEach [e, ce] X.env = (false, eval e X.env) :: starEach [ce] X.env := by rfl) (hs2 : starEach [ce] X.env = (false, eval ce X.env) :: starEach [] X.env := by rfl) :
    PEM X Wx (.Call (.Name "isinstance" p) [e, ce] [] pos) (mUn (dIsE tb) me) := by
  refine pe_imp (hp (pa_cons h (pa_cons hpe pa_nil hs2) hs)) fun σ H Q h => ?_
  obtain ⟨cc, F, ρ, rr, ρ', w, hm, post⟩ := h
  rcases bind_inv hm with ⟨x, ρ1, h1, h2⟩ | ⟨x, h1, rfl⟩
  · refine ⟨cc, F, ρ, .ok x, ρ1, w, h1, fun F1 H1 e1 w1 v1 r1 => ?_⟩
    obtain ⟨z, hz, rfl, rfl⟩ := lift_inv h2
    unfold dIsE at hz
    split at hz
    · rename_i c' hc'
      cases hl : tb.lookup c' with
      | none => rw [hl] at hz; cases hz
      | some b =>
        rw [hl] at hz
        cases hz
        obtain ⟨a, rfl, hx⟩ := exAt_of r1 w1.sub hc'
        obtain ⟨xc, kt⟩ := ht (c', b) (look_mem hl)
        exact ⟨a, _, cv, u, b, rfl, hu, hx, xc, kt, post F1 H1 e1 w1 _ (.bl b)⟩
    · cases hz
  · exact ⟨cc, F, ρ, .ex x, ρ', w, h1, post⟩
def fldX (c : Nat) (f : Str) : D → Option D
  | .exf c' fs => if c' = c then fs.lookup f else none
  | _ => none
theorem pe_xfv {C : Addr} {o : Expr} {to : TE} (xc : ExcC X.K C) (hno : findIn X.K (.ref C) f = some none) (ho : PE X o to) (hb : attributeBase o f X.env (eval o X.env) = eval o X.env := by rfl) :
    PE X (.Attribute o f pos) (fun σ H Q => to σ H fun x H1 => ∃ a d fs v, x = V.ref a ∧ H1 a = some (XO (.ref C) d a) ∧ H1 d = some (.xd fs) ∧ fs.lookup f = some v ∧ Q v H1) := by
  refine ⟨fun pins s σ H Q I h => attr_of hb (thn (ho.run pins s σ H _ I h) fun u s1 hh => ?_)⟩
  obtain ⟨x, H1, I1, rx, a, d, fs, v, rfl, ha, hd, hl, q⟩ := hh
  cases (show u = Value.ref a from rx)
  obtain ⟨⟨oe, vs, hoe, hz, hdat⟩, _, _⟩ := I1.hok a _ ha
  obtain ⟨mA, hns, hr⟩ := (show ObjOk X.prog X.w H1 s1.heap d (.xd fs) from I1.hok d _ hd)
  obtain ⟨od, hod, hlk⟩ := lookIn_ns hns
  obtain ⟨u', hu, ru⟩ := RelO.some_of (v := v) (o := mA f) (by rw [← hl]; exact hr f)
  have J : InstAt s1.heap a oe C (some od) := ⟨hoe, hz.1, by unfold notCls; rw [hdat] <;> rfl, by rw [hz.2]; exact hod⟩
  exact PySem.HandSPX.exc_get I1.kIn J xc.hg xc.hk xc.hs (findObj_own xc.hd hno rfl (by rw [hlk, hu])) (handed_of ru) ⟨v, H1, I1.tok _, ru, q⟩
theorem pem_fldX {o : Expr} {mo : M D} (xc : ExcC X.K (cA X.K c)) (hno : findIn X.K (.ref (cA X.K c)) f = some none) (ho : PEM X Wx o mo) (hb : attributeBase o f X.env (eval o X.env) = eval o X.env := by rfl) : PEM X Wx (.Attribute o f pos) (mUn (fldX c f) mo) := by
  refine pe_imp (pe_xfv xc hno ho hb) fun σ H Q h => ?_
  obtain ⟨cc, F, ρ, rr, ρ', w, hm, post⟩ := h
  rcases bind_inv hm with ⟨x, ρ1, h1, h2⟩ | ⟨x, h1, rfl⟩
  · refine ⟨cc, F, ρ, .ok x, ρ1, w, h1, fun F1 H1 e1 w1 v1 r1 => ?_⟩
    obtain ⟨z, hz, rfl, rfl⟩ := lift_inv h2
    cases r1 <;> try (cases hz; done)
    rename_i a d C' fs ds ha hd hr
    have hz' : (if C' = c then ds.lookup f else none) = some z := hz
    split at hz'
    · rename_i hC
      subst hC
      obtain ⟨v, hv, rv⟩ := hr.look.1 z hz'
      exact ⟨a, d, fs, v, rfl, w1.sub _ _ ha, w1.sub _ _ hd, hv, post F1 H1 e1 w1 v rv⟩
    · cases hz'
  · exact ⟨cc, F, ρ, .ex x, ρ', w, h1, post⟩
end
end L3
set_option Elab.async false
set_option linter.all false
set_option maxRecDepth 100000
set_option maxHeartbeats 4000000
namespace L3
open PySem PySem.Spec PyProof.Rows L2 PySem.W
/-! ### x in xs, flat things -/
def flatD : D → Option V
  | .non => some .non
  | .bl b => some (.bl b)
  | .int i => some (.int i)
  | .str x => some (.str x)
  | _ => none
def flatsD : List D → Option (List V)
  | [] => some []
  | d :: ds => match flatD d, flatsD ds with
    | some v, some vs => some (v :: vs)
    | _, _ => none
theorem flat_rep {K : Frag} {F : Hp} {x v : V} {d : D} (r : Rep K F x d) (h : flatD d = some v) : x = v ∧ flatV v = true := by
  cases r <;> cases h <;> exact ⟨rfl, rfl⟩
theorem flats_rep {K : Frag} {F : Hp} : ∀ {ds : List D} {xs vs : List V}, RepL K F xs ds → flatsD ds = some vs → xs = vs ∧ vs.all flatV = true
  | [], _, _, .nil, h => by cases h; exact ⟨rfl, rfl⟩
  | d :: ds, _, vs, .cons r t, h => by
    have h' : (match flatD d, flatsD ds with
      | some v, some vs => some (v :: vs)
      | _, _ => none) = some vs := h
    cases e1 : flatD d with
    | none => rw [e1] at h'; cases h'
    | some v =>
      cases e2 : flatsD ds with
      | none => rw [e1, e2] at h'; cases h'
      | some ws =>
        rw [e1, e2] at h'
        cases h'
        obtain ⟨rfl, f1⟩ := flat_rep r e1
        obtain ⟨rfl, f2⟩ := flats_rep t e2
        exact ⟨rfl, by rw [List.all_cons, f1, f2]; rfl⟩
def seqD : D → Option (List D)
  | .lst ds => some ds
  | .rdl ds => some ds
  | .tup ds => some ds
  | _ => none
def dInF (neg : Bool) (d e : D) : Option D := match flatD d, (seqD e).bind flatsD with
  | some v, some vs => some (.bl (if neg then !inV v vs else inV v vs))
  | _, _ => none
theorem s_inF {X : Cx} {neg : Bool} : Op2 X.K (rIn X.K neg) (dInF neg) := by
  intro F H x y d e z Q rx ry sub hz q
  unfold dInF at hz
  split at hz
  · rename_i v vs h1 h2
    cases hz
    obtain ⟨rfl, fx⟩ := flat_rep rx h1
    cases hs : seqD e with
    | none => rw [hs] at h2; cases h2
    | some ds =>
      rw [hs, Option.bind_some] at h2
      cases ry <;> cases hs
      · rename_i hq hr
        obtain ⟨rfl, fs⟩ := flats_rep hr h2
        exact ⟨_, _, rfl, .inr (same_sqT sub hq), fx, fs, q F _ H Grow.refl (.bl _)⟩
      · rename_i hq hr
        obtain ⟨rfl, fs⟩ := flats_rep hr h2
        exact ⟨_, _, rfl, .inl (.inl (.inl (sub _ _ hq))), fx, fs, q F _ H Grow.refl (.bl _)⟩
      · rename_i hq hr
        obtain ⟨rfl, fs⟩ := flats_rep hr h2
        exact ⟨_, _, rfl, .inl (sub.seq hq), fx, fs, q F _ H Grow.refl (.bl _)⟩
  · cases hz
/-! ### sep.join(xs) -/
def strsD : List D → Option (List Str)
  | [] => some []
  | .str x :: ds => (strsD ds).map (x :: ·)
  | _ => none
theorem strs_rep {K : Frag} {F : Hp} : ∀ {ds : List D} {xs : List V} {ys : List Str}, RepL K F xs ds → strsD ds = some ys → xs = ys.map V.str
  | [], _, _, .nil, h => by cases h; rfl
  | .str x :: ds, _, ys, .cons (.str _) t, h => by
    have h' : (strsD ds).map (x :: ·) = some ys := h
    cases e : strsD ds with
    | none => rw [e] at h'; cases h'
    | some zs => rw [e] at h'; cases h'; rw [strs_rep t e]; rfl
  | .bl _ :: _, _, _, _, h => by cases h
  | .non :: _, _, _, _, h => by cases h
  | .int _ :: _, _, _, _, h => by cases h
  | .ty _ :: _, _, _, _, h => by cases h
  | .obj _ :: _, _, _, _, h => by cases h
  | .tup _ :: _, _, _, _, h => by cases h
  | .lst _ :: _, _, _, _, h => by cases h
  | .rdl _ :: _, _, _, _, h => by cases h
  | .dct _ :: _, _, _, _, h => by cases h
  | .ins _ _ :: _, _, _, _, h => by cases h
  | .exc _ :: _, _, _, _, h => by cases h
  | .exf _ _ :: _, _, _, _, h => by cases h
def dJoin (d e : D) : Option D := match d, (seqD e).bind strsD with
  | .str a, some ys => if (ys.map (·.length)).sum + ys.length * a.length ≤ 1000000 then some (.str (Txt.join a ys)) else none
  | _, _ => none
section
variable {X : Cx} {Wx : WX} {o e : Expr} {mo me : M D} {apos pos : Pos}
def mJoin (a b : M D) : M D := a.bind fun x => match x with
  | .str s => b.bind fun y => M.lift (dJoin (.str s) y)
  | _ => fun _ => none
theorem pem_join (ho : PEM X Wx o mo) (he : PEM X Wx e me) (hs : starEach [e] X.env = [(false, eval e X.env)] := by rfl) (hbase : attributeBase o "join" X.env (eval o X.env) = eval o X.env := by rfl) (hline : (apos.endLine == pos.line) = true := by rfl) : PEM X Wx (.Call (.Attribute o "join" apos) [e] [] pos) (mJoin mo me) := by
  refine pe_imp (pe_join ho he hs hbase hline) fun σ H Q h => ?_
  obtain ⟨c, F, ρ, rr, ρ', w, hm, post⟩ := h
  rcases bind_inv hm with ⟨x, ρ1, h1, h2⟩ | ⟨x, h1, rfl⟩
  · refine ⟨c, F, ρ, .ok x, ρ1, w, h1, fun F1 H1 e1 w1 v1 r1 => ?_⟩
    cases x <;> try (cases h2; done)
    rename_i s
    cases r1
    refine ⟨⟨_, rfl⟩, ?_⟩
    rcases bind_inv h2 with ⟨y, ρ2, h3, h4⟩ | ⟨y, h3, rfl⟩
    · refine ⟨c, F1, ρ1, .ok y, ρ2, w1, h3, fun F2 H2 e2 w2 v2 r2 => ?_⟩
      obtain ⟨z, hz, rfl, rfl⟩ := lift_inv h4
      unfold dJoin at hz
      split at hz
      · rename_i a ys ea h5
        cases ea
        split at hz
        · rename_i hl
          cases hz
          cases hs : seqD y with
          | none => rw [hs] at h5; cases h5
          | some ds =>
            rw [hs, Option.bind_some] at h5
            have fin := post F2 H2 (e1.trans e2) w2 _ (.str (Txt.join s ys))
            cases r2 <;> cases hs
            · rename_i hq hr
              rw [strs_rep hr h5] at hq
              exact ⟨s, _, ys, rfl, rfl, .inr (same_sqT w2.sub hq), by omega, fin⟩
            · rename_i hq hr
              rw [strs_rep hr h5] at hq
              exact ⟨s, _, ys, rfl, rfl, .inl (.inl (.inl (w2.sub _ _ hq))), by omega, fin⟩
            · rename_i hq hr
              rw [strs_rep hr h5] at hq
              exact ⟨s, _, ys, rfl, rfl, .inl (w2.sub.seq hq), by omega, fin⟩
        · cases hz
      · cases hz
    · exact ⟨c, F1, ρ1, .ex y, ρ', w1, h3, PostX.mono e1 post⟩
  · exact ⟨c, F, ρ, .ex x, ρ', w, h1, post⟩
end
/-! ### the head's facts -/
theorem xcls_cls {K : Frag} {C : Addr} {bm : List Value} {nI : String} (q : excInitIn K C bm nI = true) (hd : hasDictIn K C = true) : ∃ nm q N bs cm sn sub ab col dd k0 k1 k2 k3 k5, K.lookup C = some (excClassObj nm q C N bs cm true sn sub ab col dd k0 k1 k2 k3 k5 nI) ∧ excTail bm cm = true := by
  obtain ⟨cd0, hc0, hh⟩ := any_some hd
  unfold clsIn at hc0
  unfold excInitIn at q
  split at q
  · rename_i dd cd sl ho
    rw [ho] at hc0
    cases hc0
    split at q
    · rename_i C' cm k0 k1 k2 k3 n k5 hm hs
      simp only [Bool.and_eq_true, beq_iff_eq, Bool.not_eq_true'] at q
      obtain ⟨⟨⟨rfl, rfl⟩, hdel⟩, ht⟩ := q
      cases cd0
      dsimp only at hm hdel hh
      subst hm hdel hh
      obtain ⟨l⟩ := sl
      simp only at hs
      subst hs
      exact ⟨_, _, _, _, cm, _, _, _, _, dd, k0, k1, k2, k3, k5, ho, ht⟩
    · cases q
  · cases q
def excB (x : Str) (K : Frag) : Bool := decide (findIn K (.ref (He.ga K x)) "__getattribute__" = some (some (.builtin "BaseException.__getattribute__"))) && (decide (findIn K (.ref (He.ga K x)) "__getattr__" = some none) && (decide (subIn K (.ref (He.ga K x)) (.type "BaseException") = some true) && (hasDictIn K (He.ga K x) &&
  (He.eqO (findIn K (.ref (He.ga K x)) "__class__") (some (some (.builtin "object.__class__"))) && (He.eqO (specialIn K (.builtin "object.__class__") "__get__") (some (some (.builtin "getset_descriptor.__get__"))) && (decide (takesIn K (.builtin "object.__class__") = some true) && decide (mroIn K (He.ga K x) (.type "object") = some true)))))))
theorem excB_ok {x : Str} {K : Frag} (h : excB x K = true) : ExcC K (He.ga K x) := by
  obtain ⟨h1, h⟩ := He.ba h
  obtain ⟨h2, h⟩ := He.ba h
  obtain ⟨h3, h⟩ := He.ba h
  obtain ⟨h4, h⟩ := He.ba h
  obtain ⟨h5, h⟩ := He.ba h
  obtain ⟨h6, h⟩ := He.ba h
  obtain ⟨h7, h8⟩ := He.ba h
  exact ⟨of_decide_eq_true h1, of_decide_eq_true h2, of_decide_eq_true h3, h4, He.eqO_ok h5, He.eqO_ok h6, of_decide_eq_true h7, of_decide_eq_true h8⟩
/-- a class without own __init__, over bm -/
def excInB (x : Str) (bm : List Value) (nI : String) (K : Frag) : Bool := excIn K (He.ga K x) bm nI && (keepIn K (.ref (He.ga K x)) && (decide (subIn K (.ref (He.ga K x)) (.type "BaseException") = some true) && decide (typeIn K (.ref (He.ga K x)) = some (.type "type"))))
structure ExcIn (K : Frag) (C : Addr) (bm : List Value) (nI : String) : Prop where
  q : excIn K C bm nI = true
  k : keepIn K (.ref C) = true
  s : subIn K (.ref C) (.type "BaseException") = some true
  t : typeIn K (.ref C) = some (.type "type")
theorem excInB_ok {x : Str} {bm : List Value} {nI : String} {K : Frag} (h : excInB x bm nI K = true) : ExcIn K (He.ga K x) bm nI := by
  obtain ⟨h1, h⟩ := He.ba h
  obtain ⟨h2, h⟩ := He.ba h
  obtain ⟨h3, h4⟩ := He.ba h
  exact ⟨h1, h2, of_decide_eq_true h3, of_decide_eq_true h4⟩
/-- .. with an own __init__ that keeps f -/
def xclsB (x f : Str) (bm : List Value) (nI : String) (K : Frag) : Bool := excInitIn K (He.ga K x) bm nI && (excB x K && (decide (findIn K (.ref (He.ga K x)) "__setattr__" = some (some (.builtin "object.__setattr__"))) && (decide (findIn K (.ref (He.ga K x)) f = some none) && (He.eqO (findIn K (.ref (He.ga K x)) "__init__") (some (some (.ref (He.ma K (He.ga K x) "__init__")))) &&
  (decide (typeIn K (.ref (He.ma K (He.ga K x) "__init__")) = some (.type "function")) && (keepIn K (.ref (He.ga K x)) && (decide (typeIn K (.ref (He.ga K x)) = some (.type "type")))))))))
theorem xclsB_ok {x f : Str} {bm : List Value} {nI : String} {K : Frag} {mg : Str → Option Value} (g : mg x = some (.ref (He.ga K x))) (h : xclsB x f bm nI K = true) : XCls K mg x (He.ga K x) (He.ma K (He.ga K x) "__init__") f bm nI := by
  obtain ⟨h1, h⟩ := He.ba h
  obtain ⟨h2, h⟩ := He.ba h
  obtain ⟨h3, h⟩ := He.ba h
  obtain ⟨h4, h⟩ := He.ba h
  obtain ⟨h5, h⟩ := He.ba h
  obtain ⟨h6, h⟩ := He.ba h
  obtain ⟨h7, h8⟩ := He.ba h
  have xc := excB_ok h2
  exact ⟨g, xcls_cls h1 xc.hd, of_decide_eq_true h3, of_decide_eq_true h4, He.eqO_ok h5, of_decide_eq_true h6, h7, xc.hs, of_decide_eq_true h8, xc⟩
/-- isinstance by a table -/
def isEB (tb : List (Nat × Bool)) (u : Frag → Value) (K : Frag) : Bool := tb.all fun q => decide (kitOne K (.ref (cA K q.1)) (u K) = some q.2)
theorem isEB_ok {tb : List (Nat × Bool)} {u : Frag → Value} {K : Frag} (h : isEB tb u K = true) : ∀ q ∈ tb, kitOne K (.ref (cA K q.1)) (u K) = some q.2 := fun q hq => of_decide_eq_true (List.all_eq_true.mp h q hq)
/-! ### plain rules -/
theorem T_xv {c : Nat} {f : Str} {a : M D} {ρ : List S} {Q : D → List S → Prop} (h : T a ρ fun d ρ1 => Q (.exf c [(f, d)]) ρ1) : T (mXv c f a) ρ Q := T_bind (h.imp fun _ _ h => T_pure h)
theorem T_xc {c : Nat} {a : M D} {ρ : List S} {Q : D → List S → Prop} (h : T a ρ fun d ρ1 => Q (.exc c) ρ1) : T (mXc c a) ρ Q := T_bind (h.imp fun _ _ h => T_pure h)
theorem T_join {s : Str} {b : M D} {ρ : List S} {Q : D → List S → Prop} (h : T b ρ fun y ρ1 => Lf (dJoin (.str s) y) fun z => Q z ρ1) : T (mJoin (mC (.str s)) b) ρ Q := by
  refine T_bind (T_c ?_)
  exact T_bind (h.imp fun _ _ h => T_lift h)
/-- a statement that goes on, computed -/
theorem T_kerN {m : M Fl} {ρ ρ' : List S} {I : List S → Prop} (e : m ρ = some (.ok .nx, ρ')) (h : I ρ') : T m ρ fun f ρ1 => f = .nx ∧ I ρ1 := ⟨_, _, e, rfl, h⟩
/-- texts, all short -/
def Txts (n : Nat) (ds : List D) : Prop := ds.length ≤ n ∧ ∀ d ∈ ds, ∃ x : Str, d = .str x ∧ x.length ≤ 1
theorem txts_strs : ∀ {ds : List D}, (∀ d ∈ ds, ∃ x : Str, d = .str x ∧ x.length ≤ 1) → ∃ ys, strsD ds = some ys ∧ ys.length = ds.length ∧ (ys.map fun y : Str => y.length).sum ≤ ds.length
  | [], _ => ⟨[], rfl, rfl, Nat.le_refl _⟩
  | d :: ds, h => by
    obtain ⟨x, rfl, hx⟩ := h d List.mem_cons_self
    obtain ⟨ys, e, l, q⟩ := txts_strs (ds := ds) fun d' hd => h d' (List.mem_cons_of_mem _ hd)
    refine ⟨x :: ys, ?_, by rw [List.length_cons, List.length_cons, l], ?_⟩
    · show (strsD ds).map (x :: ·) = _
      rw [e]; rfl
    · rw [List.map_cons, List.sum_cons, List.length_cons]; omega
theorem L_join {n : Nat} {ds : List D} {P : D → Prop} (h : Txts n ds) (hn : n ≤ 1000) (k : ∀ z, P (.str z)) : Lf (dJoin (.str "") (.lst ds)) P := by
  obtain ⟨hl, hd⟩ := h
  obtain ⟨ys, e, l, q⟩ := txts_strs hd
  refine ⟨.str (Txt.join "" ys), ?_, k _⟩
  have e2 : (seqD (.lst ds)).bind strsD = some ys := e
  have z : ("" : Str).length = 0 := rfl
  unfold dJoin
  rw [e2]
  exact if_pos (by rw [z]; omega)
end L3
set_option Elab.async false
set_option linter.all false
set_option maxRecDepth 100000
set_option maxHeartbeats 4000000
namespace L3
open PySem PySem.Spec PyProof.Rows L2 PySem.W
/-! ### zip(a, b, strict=True), over lists and tuples -/
/-- an iterator of a list (false) or of a tuple (true) -/
def SIt (q : Bool) (h : Heap) (it l : Addr) (i : Nat) : Prop := ∃ o, h.get? it = some o ∧ o.cls = .type (bif q then "tuple_iterator" else "list_iterator") ∧ o.data = .fields #[.ref l, .int i 0]
def SSq (q : Bool) (h : Heap) (l : Addr) (xs : Array Value) : Prop := ∃ o, h.get? l = some o ∧ o.cls = .type (bif q then "tuple" else "list") ∧ ∃ n, o.data = .seq xs n
theorem SIt.at' {q : Bool} {h h' : Heap} {it l : Addr} {i : Nat} (t : SIt q h it l i) (k : ∀ o, h.get? it = some o → h'.get? it = some o) : SIt q h' it l i := let ⟨o, e, r⟩ := t; ⟨o, k o e, r⟩
theorem SSq.at' {q : Bool} {h h' : Heap} {l : Addr} {xs : Array Value} (t : SSq q h l xs) (k : ∀ o, h.get? l = some o → h'.get? l = some o) : SSq q h' l xs := let ⟨o, e, r⟩ := t; ⟨o, k o e, r⟩
abbrev ZS (h : Heap) (z TI TO : Addr) (f : Value) : Prop := h.get? z = some { cls := .type "zip", dict := none, data := .fields #[f, .bool false, .bool true, .ref TI, .ref TO], slots := #[] }
section
variable {prog : Program} {w : World} {A : Around} {E : Value → Shared → Prop} {s : Shared}
theorem noe_item {q : Bool} {it l : Addr} {i : Nat} {xs : Array Value} {x : Value} {Q : Option Value → Shared → Prop} (hi : SIt q s.heap it l i) (hs : SSq q s.heap l xs) (hx : xs[i]? = some x)
    (hQ : ∀ h', SIt q h' it l (i + 1) → Heap.SameBut it s.heap h' → Q (some x) { s with heap := h' }) : wpAny (model prog w) A (Builtin.SmallTypes.nextOrEnd (.ref it)) Q E s := by
  unfold Builtin.SmallTypes.nextOrEnd
  refine wpAny_bind (wpAny_attempt ?_)
  cases q with
  | false => exact wpAny_nextOf_list_item (show s.heap.IsListIter it l i from hi) (show s.heap.IsList l xs from hs) hx fun h' a b => wpAny_pure (hQ h' a b)
  | true => exact RZ.nextOf_tuple_item (show s.heap.IsTupleIter it l i from hi) (show s.heap.IsTuple l xs from hs) hx fun h' a b => wpAny_pure (hQ h' a b)
theorem noe_end {q : Bool} {it l : Addr} {i : Nat} {xs : Array Value} {Q : Option Value → Shared → Prop} (hh : A.handled = none) (hi : SIt q s.heap it l i) (hs : SSq q s.heap l xs) (hx : xs[i]? = none)
    (hQ : ∀ h', Heap.ExtBut it s.heap h' → Q none { s with heap := h' }) : wpAny (model prog w) A (Builtin.SmallTypes.nextOrEnd (.ref it)) Q E s := by
  unfold Builtin.SmallTypes.nextOrEnd
  refine wpAny_bind (wpAny_attempt ?_)
  have fin : ∀ (h' : Heap) (e : Addr), Heap.ExtBut it s.heap h' → (∃ o, h'.get? e = some o ∧ o.cls = .type "StopIteration") → wpAny (model prog w) A (do if ← isInstance (.ref e) (.type "StopIteration") then pure none else throw (.ref e)) Q E { s with heap := h' } := by
    rintro h' e x ⟨o, ho, hc⟩
    refine wpAny_bind (wpAny_isInstance (T := "StopIteration") (b := true) ⟨o, ho, hc⟩ isSubtype_stop ?_)
    exact wpAny_pure (hQ h' x)
  cases q with
  | false => exact wpAny_nextOf_list_end hh (show s.heap.IsListIter it l i from hi) (show s.heap.IsList l xs from hs) hx fin
  | true => exact RZ.nextOf_tuple_end hh (show s.heap.IsTupleIter it l i from hi) (show s.heap.IsTuple l xs from hs) hx fin
theorem zs_item {z TI TO i1 i2 l1 l2 : Addr} {q1 q2 : Bool} {k : Nat} {xs ys : Array Value} {x y a b : Value} {Q : Value → Shared → Prop} (D : ZipApart z TI TO i1 i2 l1 l2)
    (Z : ZS s.heap z TI TO .none) (PI : IsPair s.heap TI (.ref i1) (.ref i2)) (PO : IsPair s.heap TO a b) (J1 : SIt q1 s.heap i1 l1 k) (J2 : SIt q2 s.heap i2 l2 k) (S1 : SSq q1 s.heap l1 xs) (S2 : SSq q2 s.heap l2 ys) (hx : xs[k]? = some x) (hy : ys[k]? = some y)
    (hQ : ∀ h', ZS h' z TI TO (rawInt s.heap.objs.size) → IsPair h' TO x y → SIt q1 h' i1 l1 (k + 1) → SIt q2 h' i2 l2 (k + 1) → IsPair h' s.heap.objs.size x y →
      (∀ c o, c ≠ z → c ≠ TO → c ≠ i1 → c ≠ i2 → s.heap.get? c = some o → h'.get? c = some o) → Q (.ref s.heap.objs.size) { s with heap := h' }) :
    wpAny (model prog w) A (Builtin.«zip.__next__» ⟨[.ref z], []⟩) (fun fin s' => ∃ v, fin = .done (.ret v) ∧ Q v s') E s := by
  show wpAny (model prog w) A (field (.ref z) 2 >>= _) _ E s
  refine wpAny_bind (wpAny_field Z rfl (x := .bool true) rfl ?_)
  show wpAny (model prog w) A (field (.ref z) 3 >>= _) _ E s
  refine wpAny_bind (wpAny_field Z rfl (x := .ref TI) rfl (wpAny_bind (wpAny_seqItems PI rfl ?_)))
  show wpAny (model prog w) A (Builtin.SmallTypes.ownedTupleIsFree (.ref z) >>= _) _ E s
  unfold Builtin.SmallTypes.ownedTupleIsFree
  refine wpAny_bind (wpAny_bind (wpAny_field Z rfl (x := .none) rfl (wpAny_pure ?_)))
  simp only [if_true]
  refine wpAny_bind (wpAny_rule (wpAny_bind (wpAny_field Z rfl (x := .ref TO) rfl ?_)))
  refine wpAny_bind (wpAny_setField_rec Z (by simp) fun g1 Z1 e1 => ?_)
  replace Z1 : ZS g1 z TI TO .ellipsis := Z1
  simp only [List.zipIdx_cons, List.zipIdx_nil, List.forIn_cons, List.forIn_nil]
  refine wpAny_bind (wpAny_bind (wpAny_bind (wpAny_onRaise ?_)))
  show wpAny (model prog w) A (Builtin.SmallTypes.nextOrEnd (.ref i1)) _ _ _
  refine noe_item (J1.at' fun o e => e1.extBut _ _ D.i1z e) (S1.at' fun o e => e1.extBut _ _ D.l1z e) hx fun g2 J1' e2 => ?_
  have PO2 : IsPair g2 TO a b := e2.extBut _ _ D.TOi1 (e1.extBut _ _ D.TOz PO)
  refine wpAny_bind (wpAny_seqItems PO2 rfl (wpAny_bind (wpAny_updateSeq_pair PO2 fun g3 PO3 e3 => ?_)))
  replace PO3 : IsPair g3 TO x b := PO3
  refine wpAny_bind (wpAny_letGo (wpAny_pure (wpAny_bind (wpAny_bind (wpAny_onRaise ?_)))))
  show wpAny (model prog w) A (Builtin.SmallTypes.nextOrEnd (.ref i2)) _ _ _
  refine noe_item (J2.at' fun o e => e3.extBut _ _ D.TOi2.symm (e2.extBut _ _ D.i12.symm (e1.extBut _ _ D.i2z e))) (S2.at' fun o e => e3.extBut _ _ D.l2TO (e2.extBut _ _ D.l2i1 (e1.extBut _ _ D.l2z e))) hy fun g4 J2' e4 => ?_
  have PO4 : IsPair g4 TO x b := e4.extBut _ _ D.TOi2 PO3
  refine wpAny_bind (wpAny_seqItems PO4 rfl (wpAny_bind (wpAny_updateSeq_pair PO4 fun g5 PO5 e5 => ?_)))
  replace PO5 : IsPair g5 TO x y := PO5
  refine wpAny_bind (wpAny_letGo (wpAny_pure (wpAny_pure (wpAny_bind (wpAny_seqItems PO5 rfl (wpAny_bind (wpAny_newTuple ?_)))))))
  have n5 : g5.objs.size = s.heap.objs.size := by rw [e5.1, e4.1, e3.1, e2.1, e1.1]
  have Z5 : ZS g5 z TI TO .ellipsis := e5.extBut _ _ D.TOz.symm (e4.extBut _ _ D.i2z.symm (e3.extBut _ _ D.TOz.symm (e2.extBut _ _ D.i1z.symm Z1)))
  have k5 : ∀ c o, c ≠ z → c ≠ TO → c ≠ i1 → c ≠ i2 → s.heap.get? c = some o → g5.get? c = some o := fun c o c1 c2 c3 c4 e => e5.extBut _ _ c2 (e4.extBut _ _ c4 (e3.extBut _ _ c2 (e2.extBut _ _ c3 (e1.extBut _ _ c1 e))))
  have J15 : SIt q1 g5 i1 l1 (k + 1) := J1'.at' fun o e => e5.extBut _ _ D.TOi1.symm (e4.extBut _ _ D.i12 (e3.extBut _ _ D.TOi1.symm e))
  have J25 : SIt q2 g5 i2 l2 (k + 1) := J2'.at' fun o e => e5.extBut _ _ D.TOi2.symm e
  have lz : z < g5.objs.size := Heap.lt_size Z5
  show wpAny (model prog w) A (Builtin.SmallTypes.ownedTupleHandOut (.ref z) (.ref g5.objs.size) >>= _) _ _ _
  unfold Builtin.SmallTypes.ownedTupleHandOut
  have Z6 : ZS (g5.push { cls := .type "tuple", data := .seq #[x, y] }) z TI TO .ellipsis := Heap.get?_push_of_some _ Z5
  refine wpAny_bind (wpAny_bind (wpAny_setField_rec Z6 (by simp) fun g7 Z7 e7 => ?_))
  replace Z7 : ZS g7 z TI TO (rawInt g5.objs.size) := Z7
  refine wpAny_setField_rec Z7 (by simp) fun g8 Z8 e8 => ?_
  replace Z8 : ZS g8 z TI TO (rawInt g5.objs.size) := Z8
  have up : ∀ c o, c ≠ z → g5.get? c = some o → g8.get? c = some o := fun c o c1 e => e8.extBut _ _ c1 (e7.extBut _ _ c1 (Heap.get?_push_of_some _ e))
  have T8 : IsPair g8 g5.objs.size x y := e8.extBut _ _ (Nat.ne_of_gt lz) (e7.extBut _ _ (Nat.ne_of_gt lz) (Heap.get?_push_size _ rfl))
  rw [n5] at Z8 T8
  refine wpAny_pure ⟨_, rfl, ?_⟩
  show Q (.ref g5.objs.size) _
  rw [n5]
  exact hQ g8 Z8 (up _ _ D.TOz PO5) (J15.at' fun o e => up _ o D.i1z e) (J25.at' fun o e => up _ o D.i2z e) T8 fun c o c1 c2 c3 c4 e => up c o c1 (k5 c o c1 c2 c3 c4 e)
theorem zs_end {z TI TO i1 i2 l1 l2 : Addr} {q1 q2 : Bool} {k : Nat} {xs ys : Array Value} {a b : Value} {Q : PySem.Fin → Shared → Prop} (hh : A.handled = none) (D : ZipApart z TI TO i1 i2 l1 l2)
    (Z : ZS s.heap z TI TO .none) (PI : IsPair s.heap TI (.ref i1) (.ref i2)) (PO : IsPair s.heap TO a b) (J1 : SIt q1 s.heap i1 l1 k) (J2 : SIt q2 s.heap i2 l2 k) (S1 : SSq q1 s.heap l1 xs) (S2 : SSq q2 s.heap l2 ys) (hx : xs[k]? = none) (hy : ys[k]? = none)
    (hE : ∀ h' e, (∀ c o, c ≠ z → c ≠ TO → c ≠ i1 → c ≠ i2 → s.heap.get? c = some o → h'.get? c = some o) → (∃ o, h'.get? e = some o ∧ o.cls = .type "StopIteration") → E (.ref e) { s with heap := h' }) :
    wpAny (model prog w) A (Builtin.«zip.__next__» ⟨[.ref z], []⟩) Q E s := by
  show wpAny (model prog w) A (field (.ref z) 2 >>= _) _ E s
  refine wpAny_bind (wpAny_field Z rfl (x := .bool true) rfl ?_)
  show wpAny (model prog w) A (field (.ref z) 3 >>= _) _ E s
  refine wpAny_bind (wpAny_field Z rfl (x := .ref TI) rfl (wpAny_bind (wpAny_seqItems PI rfl ?_)))
  show wpAny (model prog w) A (Builtin.SmallTypes.ownedTupleIsFree (.ref z) >>= _) _ E s
  unfold Builtin.SmallTypes.ownedTupleIsFree
  refine wpAny_bind (wpAny_bind (wpAny_field Z rfl (x := .none) rfl (wpAny_pure ?_)))
  simp only [if_true]
  refine wpAny_bind (wpAny_rule (wpAny_bind (wpAny_field Z rfl (x := .ref TO) rfl ?_)))
  refine wpAny_bind (wpAny_setField_rec Z (by simp) fun g1 Z1 e1 => ?_)
  replace Z1 : ZS g1 z TI TO .ellipsis := Z1
  simp only [List.zipIdx_cons, List.zipIdx_nil, List.forIn_cons, List.forIn_nil]
  refine wpAny_bind (wpAny_bind (wpAny_bind (wpAny_onRaise ?_)))
  show wpAny (model prog w) A (Builtin.SmallTypes.nextOrEnd (.ref i1)) _ _ _
  refine noe_end hh (J1.at' fun o e => e1.extBut _ _ D.i1z e) (S1.at' fun o e => e1.extBut _ _ D.l1z e) hx fun g2 e2 => ?_
  have Z2 : ZS g2 z TI TO .ellipsis := e2 _ _ D.i1z.symm Z1
  refine wpAny_bind (wpAny_setField_rec Z2 (by simp) fun g3 Z3 e3 => ?_)
  have J23 : SIt q2 g3 i2 l2 k := J2.at' fun o e => e3.extBut _ _ D.i2z (e2 _ _ D.i12.symm (e1.extBut _ _ D.i2z e))
  have S23 : SSq q2 g3 l2 ys := S2.at' fun o e => e3.extBut _ _ D.l2z (e2 _ _ D.l2i1 (e1.extBut _ _ D.l2z e))
  refine wpAny_bind (wpAny_bind ?_)
  simp only [List.drop_succ_cons, List.drop_zero, List.zipIdx_cons, List.zipIdx_nil, List.forIn_cons, List.forIn_nil]
  refine wpAny_bind (wpAny_bind (noe_end hh J23 S23 hy fun g4 e4 => ?_))
  have kp : ∀ c o, c ≠ z → c ≠ i1 → c ≠ i2 → s.heap.get? c = some o → g4.get? c = some o := fun c o c1 c3 c4 q => e4 _ _ c4 (e3.extBut _ _ c1 (e2 _ _ c3 (e1.extBut _ _ c1 q)))
  refine wpAny_pure (wpAny_pure (wpAny_bind (wpAny_rule ?_)))
  unfold Builtin.SmallTypes.stopIteration
  refine wpAny_bind ?_
  simp only [newExc, newTuple]
  refine wpAny_bind (wpAny_newObj_type ?_ (by size_fits))
  refine wpAny_bind (m := firstArgMember _ _) (wpAny_of_eq (a := Value.none) rfl (wpAny_newObj_type ?_ (by size_fits)))
  simp only [raiseNew]
  refine wpAny_bind (wpAny_handled ?_)
  rw [hh]
  refine wpAny_bind (wpAny_pure (wpAny_throw (hE _ _ (fun c o c1 _ c3 c4 q => Heap.get?_push_of_some _ (Heap.get?_push_of_some _ (kp c o c1 c3 c4 q))) ⟨_, Heap.get?_push_size _ rfl, rfl⟩)))
theorem zs_next {z TI TO i1 i2 l1 l2 : Addr} {q1 q2 : Bool} {k : Nat} {xs ys : Array Value} {x y a b : Value} {Q : Option Value → Shared → Prop} (D : ZipApart z TI TO i1 i2 l1 l2)
    (Z : ZS s.heap z TI TO .none) (PI : IsPair s.heap TI (.ref i1) (.ref i2)) (PO : IsPair s.heap TO a b) (J1 : SIt q1 s.heap i1 l1 k) (J2 : SIt q2 s.heap i2 l2 k) (S1 : SSq q1 s.heap l1 xs) (S2 : SSq q2 s.heap l2 ys) (hx : xs[k]? = some x) (hy : ys[k]? = some y)
    (hQ : ∀ h', ZS h' z TI TO (rawInt s.heap.objs.size) → IsPair h' TO x y → SIt q1 h' i1 l1 (k + 1) → SIt q2 h' i2 l2 (k + 1) → IsPair h' s.heap.objs.size x y →
      (∀ c o, c ≠ z → c ≠ TO → c ≠ i1 → c ≠ i2 → s.heap.get? c = some o → h'.get? c = some o) → Q (some (.ref s.heap.objs.size)) { s with heap := h' }) : wpAny (model prog w) A (pyNext (.ref z)) Q E s := by
  have ty : s.TypeIs (.ref z) "zip" := ⟨_, Z, rfl⟩
  unfold pyNext
  exact wpAny_bind (wpAny_attempt (wpAny_callSpecial?_slot (name := Str.ofString "__next__") ty F.slot_zip_next (wpAny_call_entry F.slot_zip_next ty F.entry_zip_next
      (zs_item D Z PI PO J1 J2 S1 S2 hx hy fun h' a1 a2 a3 a4 a5 a6 => wpAny_pure (hQ h' a1 a2 a3 a4 a5 a6)) (F.args_zip_next_1 _))))
theorem zs_stop {z TI TO i1 i2 l1 l2 : Addr} {q1 q2 : Bool} {k : Nat} {xs ys : Array Value} {a b : Value} {Q : Option Value → Shared → Prop} (hh : A.handled = none) (D : ZipApart z TI TO i1 i2 l1 l2)
    (Z : ZS s.heap z TI TO .none) (PI : IsPair s.heap TI (.ref i1) (.ref i2)) (PO : IsPair s.heap TO a b) (J1 : SIt q1 s.heap i1 l1 k) (J2 : SIt q2 s.heap i2 l2 k) (S1 : SSq q1 s.heap l1 xs) (S2 : SSq q2 s.heap l2 ys) (hx : xs[k]? = none) (hy : ys[k]? = none)
    (hQ : ∀ h', (∀ c o, c ≠ z → c ≠ TO → c ≠ i1 → c ≠ i2 → s.heap.get? c = some o → h'.get? c = some o) → Q none { s with heap := h' }) : wpAny (model prog w) A (pyNext (.ref z)) Q E s := by
  have ty : s.TypeIs (.ref z) "zip" := ⟨_, Z, rfl⟩
  unfold pyNext
  refine wpAny_bind (wpAny_attempt (wpAny_callSpecial?_slot (name := Str.ofString "__next__") ty F.slot_zip_next (wpAny_call_entry F.slot_zip_next ty F.entry_zip_next
    (zs_end hh D Z PI PO J1 J2 S1 S2 hx hy fun h' e hk he => ?_) (F.args_zip_next_1 _))))
  obtain ⟨o, ho, hc⟩ := he
  exact wpAny_bind (wpAny_isInstance (T := "StopIteration") (b := true) ⟨o, ho, hc⟩ isSubtype_stop (wpAny_pure (hQ _ hk)))
theorem zs_go {elts : List Expr} {x1} {pos : Pos} {z TI TO T : Addr} {Q : Unit → Shared → Prop} (Z : ZS s.heap z TI TO (rawInt T)) (hQ : ∀ h', ZS h' z TI TO .none → Heap.SameBut z s.heap h' → Q () { s with heap := h' }) :
    wpAny (model prog w) A (letOwnedTupleGo (.Tuple elts x1 pos) (.ref z) (.ref T)) Q E s := by
  unfold letOwnedTupleGo
  refine wpAny_bind (wpAny_load Z ?_)
  show wpAny _ _ (if (["enumerate", "zip", "dict_itemiterator", "dict_reverseitemiterator", "odict_iterator", "itertools.zip_longest", "itertools.pairwise"].contains "zip" && (#[rawInt T, .bool false, .bool true, .ref TI, .ref TO] : Array Value)[0]? == some (rawInt T)) = true then _ else _) Q E s
  rw [if_pos (by simp)]
  refine wpAny_bind (wpAny_rule ?_)
  show wpAny _ A (setField (.ref z) 0 .none) Q E s
  exact wpAny_setField_rec Z (by simp) fun h' Z' e' => hQ h' Z' e'
theorem zs_iter {z TI TO : Addr} {f0 : Value} {Q : Value → Shared → Prop} (Z : ZS s.heap z TI TO f0) (h : Q (.ref z) s) : wpAny (model prog w) A (pyIter (.ref z)) Q E s := by
  have ty : s.TypeIs (.ref z) "zip" := ⟨_, Z, rfl⟩
  refine wpAny_pyIter_slot ty F.slot_zip_iter (wpAny_call_entry F.slot_zip_iter ty F.entry_zip_iter ?_ (F.args_zip_iter_1 _))
  show wpAny _ _ (ret (.ref z)) _ _ s
  exact wpAny_pure ⟨_, rfl, "zip", _, ty, F.slot_zip_next.lookup, h⟩
abbrev itO (q : Bool) (l : Addr) : Obj := { cls := .type (bif q then "tuple_iterator" else "list_iterator"), data := .fields #[.ref l, .int 0 0] }
theorem sq_iter {q : Bool} {l : Addr} {xs : Array Value} {Q : Value → Shared → Prop} (S1 : SSq q s.heap l xs) (hQ : Q (.ref s.heap.objs.size) { s with heap := s.heap.push (itO q l) }) : wpAny (model prog w) A (pyIter (.ref l)) Q E s := by
  cases q with
  | false => exact wpAny_pyIter_list (show s.heap.IsList l xs from S1) hQ
  | true => exact wpAny_pyIter_tuple (show s.heap.IsTuple l xs from S1) hQ
end
abbrev zsH1 (q1 : Bool) (h : Heap) (l1 : Addr) : Heap := h.push (itO q1 l1)
abbrev zsH2 (q1 q2 : Bool) (h : Heap) (l1 l2 : Addr) : Heap := (zsH1 q1 h l1).push (itO q2 l2)
abbrev zsH3 (q1 q2 : Bool) (h : Heap) (l1 l2 : Addr) : Heap := (zsH2 q1 q2 h l1 l2).push { cls := .type "tuple", data := .seq #[.ref h.objs.size, .ref (zsH1 q1 h l1).objs.size] }
abbrev zsH4 (q1 q2 : Bool) (h : Heap) (l1 l2 : Addr) : Heap := (zsH3 q1 q2 h l1 l2).push { cls := .type "tuple", data := .seq #[.none, .none] }
abbrev zsH5 (q1 q2 : Bool) (h : Heap) (l1 l2 : Addr) : Heap := (zsH4 q1 q2 h l1 l2).push { cls := .type "zip", data := .fields #[.none, .bool false, .bool true, .ref (zsH2 q1 q2 h l1 l2).objs.size, .ref (zsH3 q1 q2 h l1 l2).objs.size] }
theorem meets_zsnew (q1 q2 : Bool) (l1 l2 : Addr) (xs ys : Array Value) :
    Meets (Builtin.«zip.__new__» ⟨[.type "zip", .ref l1, .ref l2], [(Str.ofString "strict", .bool true)]⟩) (fun _ R s => SSq q1 s.heap l1 xs ∧ SSq q2 s.heap l2 ys ∧ R (.ok (.ret (.ref (zsH4 q1 q2 s.heap l1 l2).objs.size))) { s with heap := zsH5 q1 q2 s.heap l1 l2 }) :=
  .of_wp fun prog w A R s h => by
    obtain ⟨hp, g, d, tk, os⟩ := s
    obtain ⟨S1, S2, h⟩ := h
    have sz := sub_zip
    have R1 : SSq q1 (Shared.heap ⟨hp, g, d, tk, os⟩) l1 xs := S1
    have R2 : SSq q2 (Shared.heap ⟨hp.push (itO q1 l1), g, d, tk, os⟩) l2 ys := S2.at' fun o e => Heap.get?_push_of_some _ e
    have e2 : (Str.ofString "strict" != ("strict" : Str)) = false := by decide +kernel
    wp_walk using sq_iter R1, sq_iter R2
    exact ⟨_, rfl, h⟩
theorem zs_typeCall (a b : Value) : checkTypeCall "zip" ⟨[a, b], [(Str.ofString "strict", .bool true)]⟩ = pure () := by kernel_rfl
theorem zs_newCall (a b : Value) : checkBuiltinCall "zip.__new__" ⟨[.type "zip", a, b], [(Str.ofString "strict", .bool true)]⟩ = pure () := by kernel_rfl
theorem zs_init (obj a b : Value) : argsOk "object.__init__" ⟨[obj, a, b], [(Str.ofString "strict", .bool true)]⟩ := by unfold argsOk; kernel_rfl
section
variable {prog : Program} {w : World} {A : Around} {E : Value → Shared → Prop} {s : Shared}
theorem call_zs {q1 q2 : Bool} {l1 l2 : Addr} {xs ys : Array Value} {Q : Value → Shared → Prop} (S1 : SSq q1 s.heap l1 xs) (S2 : SSq q2 s.heap l2 ys)
    (h : ∀ h', ZS h' (s.heap.objs.size + 4) (s.heap.objs.size + 2) (s.heap.objs.size + 3) .none → IsPair h' (s.heap.objs.size + 2) (.ref s.heap.objs.size) (.ref (s.heap.objs.size + 1)) → IsPair h' (s.heap.objs.size + 3) .none .none →
      SIt q1 h' s.heap.objs.size l1 0 → SIt q2 h' (s.heap.objs.size + 1) l2 0 → (∀ c o, s.heap.get? c = some o → h'.get? c = some o) → Q (.ref (s.heap.objs.size + 4)) { s with heap := h' }) :
    wpAny (model prog w) A (call (.type "zip") [.ref l1, .ref l2] [(Str.ofString "strict", .bool true)]) Q E s := by
  refine callType_newKw F.called_zip (by decide) (zs_typeCall _ _) (zs_newCall _ _) (fun obj => zs_init obj _ _) F.entry_zip_new (meets_zsnew q1 q2 l1 l2 xs ys) ⟨S1, S2, ?_⟩
  have n1 : (zsH1 q1 s.heap l1).objs.size = s.heap.objs.size + 1 := Heap.size_push ..
  have n2 : (zsH2 q1 q2 s.heap l1 l2).objs.size = s.heap.objs.size + 2 := by rw [Heap.size_push, n1]
  have n3 : (zsH3 q1 q2 s.heap l1 l2).objs.size = s.heap.objs.size + 3 := by rw [Heap.size_push, n2]
  have n4 : (zsH4 q1 q2 s.heap l1 l2).objs.size = s.heap.objs.size + 4 := by rw [Heap.size_push, n3]
  have p1 : ∀ {c : Addr} {o : Obj}, (zsH4 q1 q2 s.heap l1 l2).get? c = some o → (zsH5 q1 q2 s.heap l1 l2).get? c = some o := fun e => Heap.get?_push_of_some _ e
  have p2 : ∀ {c : Addr} {o : Obj}, (zsH3 q1 q2 s.heap l1 l2).get? c = some o → (zsH5 q1 q2 s.heap l1 l2).get? c = some o := fun e => p1 (Heap.get?_push_of_some _ e)
  have p3 : ∀ {c : Addr} {o : Obj}, (zsH2 q1 q2 s.heap l1 l2).get? c = some o → (zsH5 q1 q2 s.heap l1 l2).get? c = some o := fun e => p2 (Heap.get?_push_of_some _ e)
  have p4 : ∀ {c : Addr} {o : Obj}, (zsH1 q1 s.heap l1).get? c = some o → (zsH5 q1 q2 s.heap l1 l2).get? c = some o := fun e => p3 (Heap.get?_push_of_some _ e)
  have m5 : (zsH5 q1 q2 s.heap l1 l2).get? (zsH4 q1 q2 s.heap l1 l2).objs.size = some _ := Heap.get?_push_size _ rfl
  have m4 := p1 (Heap.get?_push_size (zsH3 q1 q2 s.heap l1 l2) (o := { cls := .type "tuple", data := .seq #[.none, .none] }) rfl)
  have m3 := p2 (Heap.get?_push_size (zsH2 q1 q2 s.heap l1 l2) (o := { cls := .type "tuple", data := .seq #[.ref s.heap.objs.size, .ref (zsH1 q1 s.heap l1).objs.size] }) rfl)
  have m2 := p3 (Heap.get?_push_size (zsH1 q1 s.heap l1) (o := itO q2 l2) rfl)
  have m1 := p4 (Heap.get?_push_size s.heap (o := itO q1 l1) rfl)
  show _ ∧ _
  rw [n2, n3, n4] at m5
  rw [n1, n2] at m3
  rw [n3] at m4
  rw [n1] at m2
  rw [n4]
  exact ⟨⟨_, m5, rfl⟩, h _ m5 m3 m4 ⟨_, m1, rfl, rfl⟩ ⟨_, m2, rfl, rfl⟩ fun c o e => p4 (Heap.get?_push_of_some _ e)⟩
end
/-- a list (false) or tuple (true) in the abstract heap -/
def SqB (q : Bool) (K : Frag) (H : Hp) (a : Addr) (xs : List V) : Prop := bif q then SqT K H a xs else SqL K H a xs
theorem SqB.get {X : Cx} {pins : List (Addr × Obj)} {σ : L2.St} {H : Hp} {s : Shared} {q : Bool} {a : Addr} {xs : List V} (I : Inv X pins σ H s) (h : SqB q X.K H a xs) : ∃ its : List Value, Vals xs its ∧ SSq q s.heap a its.toArray := by
  cases q with
  | false => obtain ⟨its, rv, p, _⟩ := I.list h; exact ⟨its, rv, p.isList⟩
  | true => obtain ⟨its, rv, p, _⟩ := I.tuple h; exact ⟨its, rv, p⟩
theorem SqB.inj {X : Cx} {pins : List (Addr × Obj)} {σ : L2.St} {H : Hp} {s : Shared} {q : Bool} {a : Addr} {xs ys : List V} (I : Inv X pins σ H s) (h : SqB q X.K H a xs) (h' : SqB q X.K H a ys) : xs = ys := by
  cases q with
  | false => exact I.list_inj h h'
  | true => exact I.tuple_inj h h'
/-- a and b of one length, the items in new pairs -/
def ItzS (q1 q2 : Bool) (K : Frag) (a b : Addr) : It :=
  ⟨fun i H => ∃ (xs ys : List V) (x y : V), SqB q1 K H a xs ∧ SqB q2 K H b ys ∧ xs[i]? = some x ∧ ys[i]? = some y,
    fun i H v H' => ∃ T x y, v = .ref T ∧ H T = none ∧ H' = upd H T (.tup [x, y]) ∧ (∀ xs, SqB q1 K H a xs → xs[i]? = some x) ∧ ∀ ys, SqB q2 K H b ys → ys[i]? = some y,
    fun i H => ∃ xs ys : List V, SqB q1 K H a xs ∧ SqB q2 K H b ys ∧ xs.length ≤ i ∧ ys.length ≤ i⟩
theorem turn_zs {P : Program} {w : World} {K : Frag} {q1 q2 : Bool} {elts : List Expr} {kk : Nat} {tpos : Pos} {a b z TI TO i1 i2 : Addr} (D : ZipApart z TI TO i1 i2 a b) :
    Turn P w K (.Tuple elts kk tpos) (ItzS q1 q2 K a b) [z, TI, TO, i1, i2] z (fun i h => ZS h z TI TO .none ∧ IsPair h TI (.ref i1) (.ref i2) ∧ (∃ x y, IsPair h TO x y) ∧ SIt q1 h i1 a i ∧ SIt q2 h i2 b i) where
  mem := by simp
  obj := fun i h st c hc => by
    obtain ⟨Z, PI, ⟨x, y, PO⟩, ⟨o1, e1, _, d1⟩, ⟨o2, e2, _, d2⟩⟩ := st
    have cc : c = z ∨ c = TI ∨ c = TO ∨ c = i1 ∨ c = i2 := by simpa using hc
    rcases cc with rfl | rfl | rfl | rfl | rfl
    · exact ⟨_, Z, fun v e => nomatch e⟩
    · exact ⟨_, PI, fun v e => nomatch e⟩
    · exact ⟨_, PO, fun v e => nomatch e⟩
    · exact ⟨o1, e1, fun v e => by rw [d1] at e; cases e⟩
    · exact ⟨o2, e2, fun v e => by rw [d2] at e; cases e⟩
  keep := fun i h h' st k => by
    obtain ⟨Z, PI, ⟨x, y, PO⟩, J1, J2⟩ := st
    exact ⟨k z (by simp) _ Z, k TI (by simp) _ PI, ⟨x, y, k TO (by simp) _ PO⟩, J1.at' fun o e => k i1 (by simp) o e, J2.at' fun o e => k i2 (by simp) o e⟩
  item := by
    intro X hP hw hK hc i pins s σ H E I hf st hg
    subst hP hw hK
    obtain ⟨Z, PI, ⟨x0, y0, PO⟩, J1, J2⟩ := st
    obtain ⟨xs, ys, x, y, gx, gy, hx, hy⟩ := hg
    obtain ⟨its, rv, S1⟩ := gx.get I
    obtain ⟨its2, rv2, S2⟩ := gy.get I
    obtain ⟨u, hu, ru⟩ := rv.get hx
    obtain ⟨u2, hu2, ru2⟩ := rv2.get hy
    have lz : z < s.heap.objs.size := Heap.lt_size Z
    refine zs_next D Z PI PO J1 J2 S1 S2 (x := u) (y := u2) (by simpa using hu) (by simpa using hu2) fun h' Z' PO' J1' J2' T' hk => ?_
    refine ⟨_, rfl, zs_go (s := { s with heap := h' }) Z' fun h'' Z'' sb => ?_⟩
    have T2 : h''.get? s.heap.objs.size = some { cls := .type "tuple", data := .seq #[u, u2] } := (sb.2 _ (Nat.ne_of_gt lz)).trans T'
    have new : ObjOk X.prog X.w (upd H s.heap.objs.size (.tup [x, y])) h'' s.heap.objs.size (.tup [x, y]) := ⟨by show 2 ≤ sizeLine; decide, [u, u2], .cons ru (.cons ru2 .nil), ⟨_, T2, rfl, _, rfl⟩⟩
    have ch : ∀ c o, c ∉ [z, TI, TO, i1, i2] → s.heap.get? c = some o → h''.get? c = some o := fun c o hb q => by
      simp at hb
      exact (sb.2 c hb.1).trans (hk c o hb.1 hb.2.2.1 hb.2.2.2.1 hb.2.2.2.2 q)
    have I1 : Inv X pins σ (upd H s.heap.objs.size (.tup [x, y])) { s with heap := h'' } := I.turnedNew (t' := s.toks) (ch := [z, TI, TO, i1, i2]) ch hf (Nat.le_refl _) new
    refine ⟨.ref s.heap.objs.size, _, I1, rfl, ⟨_, x, y, rfl, I.hok.fresh (Nat.le_refl _), rfl, fun l hl => by rw [hl.inj I gx]; exact hx, fun l hl => by rw [hl.inj I gy]; exact hy⟩, ⟨Z'', ?_, ⟨u, u2, ?_⟩, ?_, ?_⟩, fun c hcm => ?_⟩
    · exact (sb.2 _ D.TIz).trans (hk _ _ D.TIz D.TITO D.TIi1 D.TIi2 PI)
    · exact (sb.2 _ D.TOz).trans PO'
    · exact J1'.at' fun o q => (sb.2 _ D.i1z).trans q
    · exact J2'.at' fun o q => (sb.2 _ D.i2z).trans q
    · have lt : c < s.heap.objs.size := by
        have cc : c = z ∨ c = TI ∨ c = TO ∨ c = i1 ∨ c = i2 := by simpa using hcm
        rcases cc with rfl | rfl | rfl | rfl | rfl
        · exact lz
        · exact Heap.lt_size PI
        · exact Heap.lt_size PO
        · obtain ⟨_, e1, _⟩ := J1; exact Heap.lt_size e1
        · obtain ⟨_, e2, _⟩ := J2; exact Heap.lt_size e2
      rw [upd_ne (Nat.ne_of_lt lt)]
      exact (hf c hcm).1
  done := by
    intro X hP hw hK hc i pins s σ H E I hf st hg
    subst hP hw hK
    obtain ⟨Z, PI, ⟨x0, y0, PO⟩, J1, J2⟩ := st
    obtain ⟨xs, ys, gx, gy, hx, hy⟩ := hg
    obtain ⟨its, rv, S1⟩ := gx.get I
    obtain ⟨its2, rv2, S2⟩ := gy.get I
    have l1 := rv.length
    have l2 := rv2.length
    exact zs_stop (I.ok.hd hc) D Z PI PO J1 J2 S1 S2 (by simp; omega) (by simp; omega) fun h' hk => ⟨rfl, I.turnedL (t' := s.toks) (ch := [z, TI, TO, i1, i2]) (fun c o hb q => by
      simp at hb
      exact hk c o hb.1 hb.2.2.1 hb.2.2.2.1 hb.2.2.2.2 q) hf⟩
  self := fun A i s Q E st h => zs_iter st.1 h
end L3
set_option Elab.async false
set_option linter.all false
set_option maxRecDepth 100000
set_option maxHeartbeats 4000000
namespace L3
open PySem PySem.Spec PyProof.Rows L2 PySem.W
section
variable {M : Model} {A : Around} {E : Value → Shared → Prop} {s : Shared} {env : Env}
theorem callWith_tykw {pos : Pos} {T : String} {e : Expr} {rest : List Expr} {kws : List Keyword} {Q : Value → Shared → Prop}
    (h : wpAny M A (spliced (backTo pos (starEach (e :: rest) env))) (fun vs s1 => wpAny M A (evalAll ((backToKw pos (keywordEach kws env)).map (·.2))) (fun ws s2 => wpAny M A (call (.type T) vs (((backToKw pos (keywordEach kws env)).filterMap (·.1)).zip ws)) Q E s2) E s1) E s)
    (he : backTo pos (starEach (e :: rest) env) = (false, eval e env) :: backTo pos (starEach rest env)) (hpl : (backTo pos (starEach (e :: rest) env)).any (·.1) = false) (hall : (backToKw pos (keywordEach kws env)).all (·.1.isSome) = true) (hno : (backToKw pos (keywordEach kws env)).any (·.1.isNone) = false) :
    wpAny M A (callWith pos (.type T) [] (backTo pos (starEach (e :: rest) env)) (backToKw pos (keywordEach kws env))) Q E s := by
  have h2 : wpAny M A (evalArgs (.type T) true (backTo pos (starEach (e :: rest) env)) (backToKw pos (keywordEach kws env))) (fun a s1 => wpAny M A (call (.type T) ([] ++ a.pos) a.kw) Q E s1) E s := by
    rw [he] at h ⊢
    exact evalArgs_kwB hall h
  unfold callWith
  refine wpAny_bind (wpAny_holding (wpAny_mono h2 (fun a s1 h1 => wpAny_bind (wpAny_standAt ?_)) fun _ _ z => z))
  simp only [hpl, hno, Bool.or_false]
  exact wpAny_bind (wpAny_pure (wpAny_bind (wpAny_mono h1 (fun r s2 hr => wpAny_bind (wpAny_holding (wpAny_point (wpAny_pure hr)))) fun _ _ z => z)))
end
def iZipS (K : Frag) (ta : TA) : TI := fun σ H R => ta σ H fun vs H1 => ∃ q1 q2 a b xs ys, vs = [.ref a, .ref b] ∧ SqB q1 K H1 a xs ∧ SqB q2 K H1 b ys ∧ R (ItzS q1 q2 K a b) H1
theorem pi_zs {X : Cx} {e e2 : Expr} {ta : TA} {p pos tpos kp kv : Pos} {j} {elts : List Expr} {kk : Nat} (hg : Gl X "zip") (hm : X.mg "zip" = none) (ha : PA X [e, e2] ta)
    (he : backTo pos (starEach [e, e2] X.env) = (false, eval e X.env) :: backTo pos (starEach [e2] X.env) := by rfl) (hpl : (backTo pos (starEach [e, e2] X.env)).any (·.1) = false := by rfl) :
    PI X (.Tuple elts kk tpos) (.Call (.Name "zip" p) [e, e2] [⟨some "strict", .Constant (.bool true) j kv, kp⟩] pos) (iZipS X.K ta) := by
  refine ⟨fun pins s σ H R I h => ?_⟩
  refine wpAny_Call_Name_kw (ld_blt I hg hm PyProof.Rows.boot_zip ?_)
  have hk : PK X [⟨some "strict", .Constant (.bool true) j kv, kp⟩] (tCons (tC (.bl true)) tNil) := pk_cons pe_bl pk_nil
  refine callWith_tykw (thn (ha.run pos pins s σ H _ I h) fun us s1 ⟨vs, H1, I1, r1, q1⟩ => thn (hk.run pos pins s1 σ H1 (fun zs H' => zs = [V.bl true] ∧ H' = H1) I1 ⟨rfl, rfl⟩) fun ws s2 ⟨zs, H2, I2, r2, q2⟩ => ?_) he hpl rfl rfl
  obtain ⟨rfl, rfl⟩ := q2
  obtain ⟨w0, rfl, rw0⟩ := vals1 r2
  cases (show w0 = Value.bool true from rw0)
  obtain ⟨t1, t2, a, b, xs, ys, rfl, gx, gy, q⟩ := q1
  cases r1 with
  | cons r rr =>
    cases rr with
    | cons r' rr =>
      cases rr
      cases r
      cases r'
      obtain ⟨its, rv, S1⟩ := gx.get I2
      obtain ⟨its2, rv2, S2⟩ := gy.get I2
      have la : a < s2.heap.objs.size := by obtain ⟨_, e1, _⟩ := S1; exact Heap.lt_size e1
      have lb : b < s2.heap.objs.size := by obtain ⟨_, e1, _⟩ := S2; exact Heap.lt_size e1
      refine call_zs S1 S2 fun h' Z PI PO J1 J2 hk => zs_iter Z ?_
      have I3 : Inv X pins σ H2 { s2 with heap := h' } := I2.kept (t' := s2.toks) hk
      refine ⟨s2.heap.objs.size + 4, [s2.heap.objs.size + 4, s2.heap.objs.size + 2, s2.heap.objs.size + 3, s2.heap.objs.size, s2.heap.objs.size + 1], _, _, H2, rfl, I3, turn_zs (ktu_apart s2.heap.objs.size a b la lb), ⟨Z, PI, ⟨_, _, PO⟩, J1, J2⟩, fun c hc => ?_, q⟩
      have le : s2.heap.objs.size ≤ c := by
        have cc : c = s2.heap.objs.size + 4 ∨ c = s2.heap.objs.size + 2 ∨ c = s2.heap.objs.size + 3 ∨ c = s2.heap.objs.size ∨ c = s2.heap.objs.size + 1 := by simpa using hc
        rcases cc with k | k | k | k | k <;> rw [k] <;> first | exact Nat.le_add_right _ _ | exact Nat.le_refl _
      exact I2.fpOk le (I2.hok.fresh le)
/-- the items of a list or tuple, by data -/
def sqD : D → Option (List D)
  | .lst ds => some ds
  | .rdl ds => some ds
  | .tup ds => some ds
  | _ => none
def zipS2 : List D → Option (List D)
  | [x, y] => match sqD x, sqD y with
    | some as, some bs => if as.length = bs.length then some (zipD as bs) else none
    | _, _ => none
  | _ => none
theorem sqB_of {K : Frag} {F : Hp} {x : V} {d : D} {ds : List D} (r : Rep K F x d) (h : sqD d = some ds) : ∃ q a xs, x = .ref a ∧ SqB q K F a xs ∧ RepL K F xs ds := by
  cases r with
  | tup q rl => cases h; exact ⟨true, _, _, rfl, q, rl⟩
  | lst q rl => cases h; exact ⟨false, _, _, rfl, .inl (.inl q), rl⟩
  | rdl q rl => cases h; exact ⟨false, _, _, rfl, q, rl⟩
  | _ => cases h
theorem SqB.same {K : Frag} {F H : Hp} {q : Bool} {a : Addr} {xs : List V} (e : Same F H) (h : SqB q K F a xs) : SqB q K H a xs := by
  cases q with
  | false => exact e.seq h
  | true => exact same_sqT e h
theorem yields_zs {K : Frag} {F : Hp} {q1 q2 : Bool} {a b : Addr} {xs ys : List V} {ds es : List D} (h : SqB q1 K F a xs) (r : RepL K F xs ds) (h2 : SqB q2 K F b ys) (r2 : RepL K F ys es) (hl : ds.length = es.length) : Yields K (ItzS q1 q2 K a b) (zipD ds es) F := by
  intro F' H' i e1 e2
  have g1 : SqB q1 K H' a xs := h.same (e1.trans e2)
  have g2 : SqB q2 K H' b ys := h2.same (e1.trans e2)
  refine ⟨fun d hd => ?_, fun hn => ?_⟩
  · obtain ⟨z, z', hz, hz', rfl⟩ := zip_get _ _ _ _ hd
    obtain ⟨v, hv, rv⟩ := r.get' hz
    obtain ⟨v', hv', rv'⟩ := r2.get' hz'
    refine ⟨⟨xs, ys, v, v', g1, g2, hv, hv'⟩, fun x H'' y => ?_⟩
    obtain ⟨T, x', y', rfl, hT, rfl, hx, hy⟩ := y
    have t1 := hx xs g1
    have t2 := hy ys g2
    rw [hv] at t1
    rw [hv'] at t2
    cases t1
    cases t2
    have s1 := same_upd (u := .tup [v, v']) (e2.free hT)
    exact ⟨_, Grow.new e2 hT, .tup (.inl (.inl upd_same)) (.cons ((rv.mono e1).mono s1) (.cons ((rv'.mono e1).mono s1) .nil))⟩
  · rw [zip_len] at hn
    have l1 := r.len
    have l2 := r2.len
    exact ⟨xs, ys, g1, g2, by omega, by omega⟩
theorem pim_zs {X : Cx} {Wx : WX} {tg e : Expr} {es : List Expr} {ms : List (M D)} (hp : ∀ {ta : TA}, PA X es ta → PI X tg e (iZipS X.K ta)) (h : PAM X Wx es (mArgs ms)) : PIM X Wx tg e (mItemsN zipS2 ms) := by
  refine pi_imp (hp h) fun σ H R h => ?_
  obtain ⟨c, F, ρ, rr, ρ', w, hm, post⟩ := h
  rcases bind_inv hm with ⟨xs, ρ1, h1, h2⟩ | ⟨x, h1, rfl⟩
  · refine ⟨c, F, ρ, .ok xs, ρ1, w, h1, fun F1 H1 e1 w1 v r1 => ?_⟩
    obtain ⟨z, hz, rfl, rfl⟩ := lift_inv h2
    unfold zipS2 at hz
    split at hz
    · rename_i x y
      split at hz
      · rename_i as bs hx hy
        split at hz
        · rename_i hl
          cases hz
          cases r1 with
          | cons k1 k2 =>
            cases k2 with
            | cons k2 k3 =>
              cases k3
              obtain ⟨q1, a, us, rfl, g1, s1⟩ := sqB_of k1 hx
              obtain ⟨q2, b, vs, rfl, g2, s2⟩ := sqB_of k2 hy
              exact ⟨q1, q2, a, b, us, vs, rfl, g1.same w1.sub, g2.same w1.sub, post F1 H1 e1 w1 _ (yields_zs g1 s1 g2 s2 hl)⟩
        · cases hz
      · cases hz
    · cases hz
  · exact ⟨c, F, ρ, .ex x, ρ', w, h1, post⟩
end L3
set_option Elab.async false
set_option linter.all false
set_option maxRecDepth 100000
set_option maxHeartbeats 4000000
namespace L3
open PySem PySem.Spec PyProof.Rows L2 PySem.W
/-! ### a comprehension over a list that a slot owns, which it keeps -/
def mCompS (s : Nat) (f : List D → List D) (vs : List Nat) (p : Put) (t : M Bool) (e : M D) : M OB := fun ρ => match ρ[s]? with
  | some (.own (.lst ds)) => if (vs.all (plainAt (ρ.set s .dead))) = true ∧ (f ds).length < 900000 then match compD vs p t e (f ds) [] (wipeR (ρ.set s .dead) vs) with
    | some (out, ρ') => some (.ok (.lst out), (restore (ρ.set s .dead) ρ' vs).set s (.own (.lst ds)))
    | none => none else none
  | _ => none
def tItS (K : Frag) (s : Nat) (mk : Addr → It) : TI := fun σ H R => ∃ a xs, σ[s]? = some (some (V.ref a)) ∧ SqL K H a xs ∧ R (mk a) H
theorem own_restore {K : Frag} {c : Ctx} {F : Hp} {ρ ρ' : List S} {σ : L2.St} {H : Hp} {vs : List Nat} {a : Addr} (hp : (vs.all (plainAt ρ)) = true) (w : W K c F ρ' (L2.wipe σ vs) H) (no : ∀ j, ¬ OwnAt ρ' (L2.wipe σ vs) j a) : ∀ j, ¬ OwnAt (restore ρ ρ' vs) σ j a := by
  rintro j ⟨⟨o, g1⟩, g2⟩
  have key : ∀ s, (L3.restore ρ ρ' vs)[j]? = some s → (s = S.own o ∨ s = .par o) → False := fun s hs ho => by
    have out : ρ'[j]? = some s → j ∉ vs → False := fun b a' => no j ⟨⟨o, by rcases ho with rfl | rfl; exact .inl b; exact .inr b⟩, by
      rw [wipe_get, if_pos (List.getElem?_eq_some_iff.mp g2).1, if_neg a']
      exact g2⟩
    rcases restore_get hs with ⟨a', b⟩ | ⟨a', b⟩ | ⟨a', b⟩
    · have := List.all_eq_true.mp hp j a'
      unfold plainAt at this
      rw [b] at this
      rcases ho with rfl | rfl <;> cases this
    · exact out b a'
    · by_cases hv : j ∈ vs
      · obtain ⟨x, hx, ok⟩ := w.slot j s b
        obtain ⟨rfl, _⟩ := wipe_in hv hx
        rcases ho with rfl | rfl
        · obtain ⟨_, _, z, _⟩ := ok; cases z
        · obtain ⟨_, _, z, _⟩ := ok; cases z
      · exact out b hv
  rcases g1 with g1 | g1
  · exact key _ g1 (.inl rfl)
  · exact key _ g1 (.inr rfl)
theorem set_self {σ : L2.St} {s : Nat} {x : Option V} (h : σ[s]? = some x) : σ.set s x = σ := by
  obtain ⟨h1, h2⟩ := List.getElem?_eq_some_iff.mp h
  rw [← h2]
  exact List.set_getElem_self h1
/-- the slot's list is held: the slot is dead meanwhile -/
theorem W.lend {K : Frag} {c : Ctx} {F : Hp} {ρ : List S} {σ : L2.St} {H : Hp} {s : Nat} {ds : List D} (w : W K c F ρ σ H) (hs : ρ[s]? = some (.own (.lst ds))) :
    ∃ a xs, σ[s]? = some (some (V.ref a)) ∧ H a = some (.lst xs) ∧ RepL K F xs ds ∧ c.H a = none ∧ c.hd a = none ∧ W K { c with hd := fun b => if b = a then some (.lst xs) else c.hd b } F (ρ.set s .dead) σ H := by
  obtain ⟨y, hx, a, u, rfl, fa, ga, ro, h0⟩ := w.slot s _ hs
  cases ro with
  | @lst xs _ r =>
    have own : OwnAt ρ σ s a := ⟨⟨_, .inl hs⟩, hx⟩
    have hh : c.hd a = none := by
      cases e : c.hd a with
      | none => rfl
      | some z => exact absurd own ((w.held a z e).2.2 s)
    have w1 : W K c F (ρ.set s .dead) (σ.set s (some (V.ref a))) H := w.setX (some (V.ref a))
    have no : ∀ j, ¬ OwnAt (ρ.set s .dead) (σ.set s (some (V.ref a))) j a := fun j hj => by
      by_cases ej : s = j
      · subst ej
        obtain ⟨⟨o', h1⟩, _⟩ := hj
        rcases h1 with h1 | h1 <;> rcases get_set_some h1 with ⟨_, z, _⟩ | ⟨z, _⟩ <;> first | (cases z; done) | exact z rfl
      · exact ej (w.dj s j a own (own_set_ne ej hj))
    rw [set_self hx] at w1 no
    exact ⟨a, xs, hx, ga, r, h0, hh, w1.hold fa ga no⟩
theorem lcS_imp {K : Frag} {Wx : WX} {s : Nat} {f : List D → List D} {mk : Addr → It} {js : List Nat} {own : List (Str × Nat)} {p : Put} {mt : M Bool} {me : M D} (hj : ∀ j ∈ js, j ∈ own.map (·.2))
    (hy : ∀ (c : Ctx) (F : Hp) (a : Addr) (xs : List V) (ds : List D), c.hd a = some (.lst xs) → RepL K F xs ds → YieldsC K c (mk a) (f ds) F)
    (σ : L2.St) (H : Hp) (Q : VK) (h : tO K Wx (mCompS s f (own.map (·.2)) p mt me) σ H Q) : tLc (tItS K s mk) (tPut K js p) (tT K W0 mt) (tE K W0 me) (own.map (·.2)) σ H Q := by
  obtain ⟨c, F, ρ, rr, ρ', w, hm, post⟩ := h
  unfold mCompS at hm
  split at hm
  · rename_i ds hs
    split at hm
    · rename_i hcond
      obtain ⟨a, xs, hx, ga, r, h0, hh, wH⟩ := w.lend hs
      refine ⟨a, xs, hx, .inl (.inl ga), fun Dl hD => ?_⟩
      cases hrun : compD (own.map (·.2)) p mt me (f ds) [] (wipeR (ρ.set s .dead) (own.map (·.2))) with
      | none => rw [hrun] at hm; cases hm
      | some pr =>
        obtain ⟨out, ρE⟩ := pr
        rw [hrun] at hm
        cases hm
        refine comp_sim (js := js) hj wH (hy _ F a xs ds (if_pos rfl) r) hD hcond.2 hrun (Qd := fun a H' => Q (V.ref a) H') fun F' H' e' w' f' hx' cD hd no => ?_
        obtain ⟨ys, hys, ry⟩ := hx'
        have w2 := wH.restore e' hcond.1 w'
        have no2 := own_restore hcond.1 w' no
        obtain ⟨w3, q1, q2, q3⟩ := w2.unhold hh
        have w4 := w3.setO (i := s) q2 q1 (.lst (r.mono e')) h0 hh q3
        rw [set_self hx] at w4
        have ne : Dl ≠ a := fun z => by rw [z, ga] at hD; cases hD
        refine post F' H' e' w4 Dl (.lst ys) f' hys (.lst ry) cD ?_ fun j hjo => ?_
        · have hd' : (if Dl = a then some (HO.lst xs) else c.hd Dl) = none := hd
          rw [if_neg ne] at hd'
          exact hd'
        · by_cases ej : s = j
          · subst ej
            have z : some (some (V.ref a)) = some (some (V.ref Dl)) := hx.symm.trans hjo.2
            cases z
            exact ne rfl
          · have hjo' : OwnAt ((restore (ρ.set s .dead) ρE (own.map (·.2))).set s (.own (.lst ds))) (σ.set s (some (V.ref a))) j Dl := by rw [set_self hx]; exact hjo
            exact no2 j (own_set_ne ej hjo')
    · cases hm
  · cases hm
theorem yieldsC_list {K : Frag} {c : Ctx} {F : Hp} {a : Addr} {xs : List V} {ds : List D} (h : c.hd a = some (.lst xs)) (r : RepL K F xs ds) : YieldsC K c (Itl K a) ds F := by
  intro F' H' i e1 e2 hd
  have hq : SqL K H' a xs := .inl (.inl (hd a _ h))
  refine ⟨fun d hd => ?_, fun hl => ⟨xs, hq, by rw [r.len]; exact hl⟩⟩
  obtain ⟨v, hv, rv⟩ := r.get' hd
  refine ⟨⟨xs, v, hq, hv⟩, fun x H'' y => ?_⟩
  obtain ⟨rfl, y⟩ := y
  have := y xs hq
  rw [hv] at this
  cases this
  exact ⟨F', Grow.refl, rv.mono e1⟩
theorem yieldsC_enum {K : Frag} {c : Ctx} {F : Hp} {a : Addr} {xs : List V} {ds : List D} (h : c.hd a = some (.lst xs)) (r : RepL K F xs ds) : YieldsC K c (Ite K a) (enumD 0 ds) F := by
  intro F' H' i e1 e2 hd
  have hq : SqL K H' a xs := .inl (.inl (hd a _ h))
  refine ⟨fun d hd => ?_, fun hl => ⟨xs, hq, by rw [r.len]; rw [enum_len] at hl; exact hl⟩⟩
  obtain ⟨z, hz, rfl⟩ := enum_get _ _ _ _ hd
  obtain ⟨v, hv, rv⟩ := r.get' hz
  refine ⟨⟨xs, v, hq, hv⟩, fun x H'' y => ?_⟩
  obtain ⟨T, x', rfl, hT, rfl, hx⟩ := y
  have := hx xs hq
  rw [hv] at this
  cases this
  have s1 := same_upd (u := .tup [.int (i : Nat), v]) (e2.free hT)
  refine ⟨_, Grow.new e2 hT, .tup (.inl (.inl upd_same)) (.cons ?_ (.cons ((rv.mono e1).mono s1) .nil))⟩
  have : (0 : Int) + (i : Int) = (i : Int) := Int.zero_add _
  rw [this]
  exact .int _
section
variable {X : Cx} {Wx : WX} {x : Str} {p pos : Pos} {elt tg iter : Expr} {ifs : List Expr} {scope : Scope} {own : List (Str × Nat)} {pt : Put} {js : List Nat} {mt : M Bool} {me : M D} {f : List D → List D} {mk : Addr → It}
theorem pi_slot (i : Nat) (hN : X.N[i]? = some x := by rfl) (hv : Vis X.env.scope x := by first | exact Or.inl rfl | exact Or.inr (Or.inl rfl) | exact Or.inr (Or.inr rfl)) (hd : (x == ("__debug__" : Str)) = false := by decide)
    (hcd : (x == ("__classdict__" : Str)) = false := by decide) : PI X tg (.Name x p) (tItS X.K i (Itl X.K)) :=
  pi_imp (pi_list (pe_var hN hv hd hcd)) fun σ H R ⟨a, xs, h1, h2, h3⟩ => ⟨_, h1, a, rfl, ⟨xs, h2⟩, h3⟩
theorem pi_slotE (i : Nat) {e : Expr} (hp : ∀ {ta : TA}, PA X [.Name x p] ta → PI X tg e (iEnum X.K ta)) (hN : X.N[i]? = some x := by rfl) (hv : Vis X.env.scope x := by first | exact Or.inl rfl | exact Or.inr (Or.inl rfl) | exact Or.inr (Or.inr rfl)) (hd : (x == ("__debug__" : Str)) = false := by decide)
    (hcd : (x == ("__classdict__" : Str)) = false := by decide) (hs : starEach [.Name x p] X.env = (false, eval (.Name x p) X.env) :: starEach [] X.env := by rfl) : PI X tg e (tItS X.K i (Ite X.K)) :=
  pi_imp (hp (pa_cons (pe_var hN hv hd hcd) pa_nil hs)) fun σ H R ⟨a, xs, h1, h2, h3⟩ => ⟨_, h1, a, xs, rfl, h2, h3⟩
/-- y = [.. for .. in x ..], x's list stays x's own -/
theorem psm_setLcS (i s : Nat) {y : Str} {py spos : Pos} (hy' : ∀ (c : Ctx) (F : Hp) (a : Addr) (xs : List V) (ds : List D), c.hd a = some (.lst xs) → RepL X.K F xs ds → YieldsC X.K c (mk a) (f ds) F) (hc : X.calm = true) (hN : X.N.Nodup) (hsw : swapsWith (.ListComp elt [⟨tg, iter, ifs, 0⟩] scope pos) (some (.Name y py)) spos.line X.env = pure true)
    (hi : PI X tg iter (tItS X.K s mk)) (ok : BlkOk X.N X.env.scope scope own)
    (hg : ∀ (s : Shared) (H : Hp) (C : Addr) (cl : List (Str × Addr)) (fp : List Addr), PGt (X.blk s H scope (compEnvC scope cl C X.env) fp) tg js pt)
    (ht : ∀ (s : Shared) (H : Hp) (C : Addr) (cl : List (Str × Addr)) (fp : List Addr), PTsM (X.blk s H scope (compEnvC scope cl C X.env) fp) W0 ifs mt)
    (he : ∀ (s : Shared) (H : Hp) (C : Addr) (cl : List (Str × Addr)) (fp : List Addr), PEM (X.blk s H scope (compEnvC scope cl C X.env) fp) W0 elt me) (hj : ∀ j ∈ js, j ∈ own.map (·.2))
    (hy : X.N[i]? = some y := by rfl) (hyl : X.env.scope.names.lookup y = some .local := by rfl) (hs : ∀ x, foldedSetIterable iter X.env x = pure x := by intro _; rfl) :
    PSM X Wx (.Assign [.Name y py] (.ListComp elt [⟨tg, iter, ifs, 0⟩] scope pos) spos) (mSetO i (mCompS s f (own.map (·.2)) pt mt me)) := by
  refine ps_imp (ps_setLc (i := i) (g := tPut X.K js pt) (tt := tT X.K W0 mt) (te := tE X.K W0 me) hc hN hy hyl hsw hi ok hg ht he hs) fun De σ H h => ?_
  refine lcS_imp (Wx := Wx) hj hy' σ H _ ?_
  obtain ⟨c, F, ρ, r, ρ', w, hm, post⟩ := h
  rcases bind_inv hm with ⟨o, ρ1, q1, q2⟩ | ⟨x, q1, rfl⟩
  · cases q2
    exact ⟨c, F, ρ, .ok o, ρ1, w, q1, fun F1 H1 e1 w1 a u g1 g2 g3 g4 g5 g6 => post F1 _ H1 e1 (w1.setO g1 g2 g3 g4 g5 g6)⟩
  · exact ⟨c, F, ρ, .ex x, ρ', w, q1, fun F' d H' e' w' r' => post F' σ d H' e' w' r'⟩
theorem psm_setLcSD (i s : Nat) {y : Str} {py spos : Pos} (hy' : ∀ (c : Ctx) (F : Hp) (a : Addr) (xs : List V) (ds : List D), c.hd a = some (.lst xs) → RepL X.K F xs ds → YieldsC X.K c (mk a) (f ds) F) (hc : X.calm = true) (hN : X.N.Nodup) (hsw : swapsWith (.ListComp elt [⟨tg, iter, ifs, 0⟩] scope pos) (some (.Name y py)) spos.line X.env = pure true)
    (hi : PI X tg iter (tItS X.K s mk)) (ok : BlkOk X.N X.env.scope scope own)
    (hg : ∀ (s : Shared) (H : Hp) (C : Addr) (cl : List (Str × Addr)) (fp : List Addr), PGt (X.blk s H scope (compEnvC scope cl C X.env) fp) tg js pt)
    (ht : ∀ (s : Shared) (H : Hp) (C : Addr) (cl : List (Str × Addr)) (fp : List Addr), PTsM (X.blk s H scope (compEnvC scope cl C X.env) fp) W0 ifs mt)
    (he : ∀ (s : Shared) (H : Hp) (C : Addr) (cl : List (Str × Addr)) (fp : List Addr), PEM (X.blk s H scope (compEnvC scope cl C X.env) fp) W0 elt me) (hj : ∀ j ∈ js, j ∈ own.map (·.2))
    (hy : X.N[i]? = some y := by rfl) (hyl : X.env.scope.names.lookup y = some .local := by rfl) (hs : ∀ x, foldedSetIterable iter X.env x = pure x := by intro _; rfl) :
    PSM X Wx (.Assign [.Name y py] (.ListComp elt [⟨tg, iter, ifs, 0⟩] scope pos) spos) (mSet (mFrz (mCompS s f (own.map (·.2)) pt mt me)) (pName i)) := by
  refine ps_imp (ps_setLc (i := i) (g := tPut X.K js pt) (tt := tT X.K W0 mt) (te := tE X.K W0 me) hc hN hy hyl hsw hi ok hg ht he hs) fun De σ H h => ?_
  refine lcS_imp (Wx := Wx) hj hy' σ H _ ?_
  obtain ⟨c, F, ρ, r, ρ', w, hm, post⟩ := h
  rcases bind_inv hm with ⟨d, ρ1, q1, q2⟩ | ⟨x, q1, rfl⟩
  · rcases bind_inv q1 with ⟨o, ρ2, q3, q4⟩ | ⟨x, q3, z⟩
    · cases q4
      cases q2
      refine ⟨c, F, ρ, .ok o, _, w, q3, fun F1 H1 e1 w1 a u g1 g2 g3 g4 g5 g6 => ?_⟩
      have s1 : Same F1 (upd F1 a u) := same_upd g1
      exact post (upd F1 a u) _ H1 (e1.trans s1) ((w1.frz g1 g2 g4 g5 g6).setD ((g3.mono s1).rep upd_same))
    · cases z
  · rcases bind_inv q1 with ⟨o, ρ2, q3, q4⟩ | ⟨y, q3, z⟩
    · cases q4
    · cases z
      exact ⟨c, F, ρ, .ex x, ρ', w, q3, fun F' d H' e' w' r' => post F' σ d H' e' w' r'⟩
end
end L3
set_option Elab.async false
set_option linter.all false
set_option maxRecDepth 100000
set_option maxHeartbeats 4000000
namespace L3
open PySem PySem.Spec PyProof.Rows L2 PySem.W
/-! ### list(x) -/
def mLstOf (a : M D) : M OB := a.bind fun d => M.lift ((sqD d).map OB.lst)
/-! ### x.pop(k), the slot's own list -/
def mPopAt (s : Nat) (k : M D) : M D := (mSlotL s).bind fun _ => k.bind fun kd => (mSlotL s).bind fun ds ρ => match kd with
  | .int i => if -(2 ^ 63) ≤ i ∧ i < 2 ^ 63 then match seqIndex? i ds.length with
    | some n => match ds[n]? with
      | some y => some (.ok y, putAt ρ s (.lst (ds.eraseIdx n)))
      | none => none
    | none => none else none
  | _ => none
/-! ### a, b = e1, e2 with objects of their own -/
def mParOO (i j : Nat) (a b : M OB) : M Fl := a.bind fun x => b.bind fun y ρ => some (.ok .nx, (ρ.set i (.own x)).set j (.own y))
def mParDO (i j : Nat) (a : M D) (b : M OB) : M Fl := a.bind fun x => b.bind fun y ρ => some (.ok .nx, (ρ.set i (.dat x)).set j (.own y))
def mParOD (i j : Nat) (a : M OB) (b : M D) : M Fl := a.bind fun x => b.bind fun y ρ => some (.ok .nx, (ρ.set i (.own x)).set j (.dat y))
/-! ### x != [], the slot's own list -/
def mNe0 (s : Nat) : M D := (mSlotL s).bind fun ds => M.lift (dNeD (.lst ds) (.lst []))
theorem RepL.erase {K : Frag} {F : Hp} : ∀ {vs : List V} {ds : List D} (n : Nat), RepL K F vs ds → RepL K F (vs.eraseIdx n) (ds.eraseIdx n)
  | _, _, _, .nil => .nil
  | _, _, 0, .cons _ t => t
  | _, _, n + 1, .cons r t => .cons r (RepL.erase n t)
section
variable {X : Cx} {Wx : WX} {e k a b : Expr} {me mk ma mb : M D} {oa ob : M OB} {pos pos' p apos cpos : Pos} {x y : Str}
theorem pom_listOf (hp : ∀ {t : TA}, PA X [a] t → PE X e (tCB (fun xs H Q => ∃ p ys, xs = [V.ref p] ∧ (SqL X.K H p ys ∨ SqT X.K H p ys) ∧ ∀ l, H l = none → Q (.ref l) (upd H l (.lst ys))) t)) (ha : PEM X Wx a ma)
    (hs : starEach [a] X.env = (false, eval a X.env) :: starEach [] X.env := by rfl) : POM X Wx e (mLstOf ma) := by
  refine pe_imp (hp (pa_cons ha pa_nil hs)) fun σ H Q h => ?_
  obtain ⟨c, F, ρ, rr, ρ', w, hm, post⟩ := h
  rcases bind_inv hm with ⟨d, ρ1, h1, h2⟩ | ⟨z, h1, rfl⟩
  · refine ⟨c, F, ρ, .ok d, ρ1, w, h1, fun F1 H1 e1 w1 v r1 => ?_⟩
    obtain ⟨z, hz, rfl, rfl⟩ := lift_inv h2
    cases hd : sqD d with
    | none => rw [hd] at hz; cases hz
    | some ds =>
      rw [hd] at hz
      cases hz
      obtain ⟨q, a', xs, rfl, g, rl⟩ := sqB_of r1 hd
      have g' := g.same w1.sub
      refine ⟨a', xs, rfl, ?_, fun l hl => ?_⟩
      · cases q
        · exact .inl g'
        · exact .inr g'
      · obtain ⟨w2, q1, q2, q3, q4⟩ := w1.alloc (u := .lst xs) hl
        exact post _ _ e1 w2 l (.lst xs) q1 upd_same (.lst rl) q2 q3 q4
  · exact ⟨c, F, ρ, .ex z, ρ', w, h1, post⟩
theorem pem_popAt (s : Nat) (hk : PEM X Wx k mk) (hp : ∀ {to : TE} {t : TA}, PE X (.Name x p) to → PA X [k] t → PE X (.Call (.Attribute (.Name x p) "pop" apos) [k] [] cpos) (tBM X.K "list" rPopAt to t))
    (hN : X.N[s]? = some x := by rfl) (hv : Vis X.env.scope x := by first | exact Or.inl rfl | exact Or.inr (Or.inl rfl) | exact Or.inr (Or.inr rfl)) (hd : (x == ("__debug__" : Str)) = false := by decide)
    (hcd : (x == ("__classdict__" : Str)) = false := by decide) (hs : starEach [k] X.env = (false, eval k X.env) :: starEach [] X.env := by rfl) : PEM X Wx (.Call (.Attribute (.Name x p) "pop" apos) [k] [] cpos) (mPopAt s mk) := by
  refine pe_imp (hp (pe_var hN hv hd hcd) (pa_cons hk pa_nil hs)) fun σ H Q h => ?_
  obtain ⟨c, F, ρ, rr, ρ', w, hm, post⟩ := h
  rcases bind_inv hm with ⟨o0, ρ0, g1, g2⟩ | ⟨z, g1, rfl⟩
  · obtain ⟨_, ez, rfl, ho0⟩ := slotL_inv g1
    cases ez
    obtain ⟨l, xs0, ha, _, fa0, ga0, ro0⟩ := own_list w ho0
    refine ⟨_, ha, .inl ⟨rfl, xs0, .inl (.inl ga0)⟩, ?_⟩
    rcases bind_inv g2 with ⟨d, ρ1, h1, h2⟩ | ⟨z, h1, rfl⟩
    · refine ⟨c, F, _, .ok d, ρ1, w, h1, fun F1 H1 e1 w1 v1 r1 => ?_⟩
      rcases bind_inv h2 with ⟨ds, ρ2, h3, h4⟩ | ⟨z, h3, rfl⟩
      · obtain ⟨_, ez, rfl, ho⟩ := slotL_inv h3
        cases ez
        obtain ⟨l', xs, ha', hown, fa, ga, ro⟩ := own_list w1 ho
        rw [ha] at ha'
        cases ha'
        split at h4
        · rename_i i
          split at h4
          · rename_i hi
            split at h4
            · rename_i n hn
              split at h4
              · rename_i y hy
                cases h4
                cases r1
                obtain ⟨v, hv', rv⟩ := ro.get' hy
                exact ⟨l, xs, i, n, v, rfl, rfl, ga, hi.1, hi.2, by rw [ro.len]; exact hn, hv', post F1 _ e1 (w1.put hown (.lst (ro.erase n))) v rv⟩
              · cases h4
            · cases h4
          · cases h4
        · cases h4
      · obtain ⟨_, ez, _⟩ := slotL_inv h3
        cases ez
    · exact ⟨c, F, _, .ex z, ρ', w, h1, post⟩
  · obtain ⟨_, ez, _⟩ := slotL_inv g1
    cases ez
theorem ne0_imp {K : Frag} (s : Nat) (σ : L2.St) (H : Hp) (Q : VK) (h : tE K Wx (mNe0 s) σ H Q) : tOp (rNeD K) (tVar s) (tLst tNil) σ H Q := by
  obtain ⟨c, F, ρ, rr, ρ', w, hm, post⟩ := h
  rcases bind_inv hm with ⟨ds, ρ0, g1, g2⟩ | ⟨z, g1, rfl⟩
  · obtain ⟨_, ez, rfl, ho⟩ := slotL_inv g1
    cases ez
    obtain ⟨z, hz, rfl, rfl⟩ := lift_inv g2
    obtain ⟨l, xs, ha, _, fa, ga, ro⟩ := own_list w ho
    refine ⟨_, ha, Nat.zero_le _, fun q hq => ?_⟩
    obtain ⟨w2, q1, q2, q3, q4⟩ := w.alloc (u := .lst []) hq
    have ne : l ≠ q := fun z => by rw [z, hq] at ga; cases ga
    have h' : (match (D.lst ds).py, (D.lst []).py with
      | some p, some q => if (SeqAt.shaped p && SeqAt.shaped q) = true then some (D.bl (!PyData.eqv p q)) else none
      | _, _ => none) = some z := hz
    cases ep : (D.lst ds).py with
    | none => rw [ep] at h'; cases h'
    | some pd =>
      rw [ep] at h'
      have h2 : (if (SeqAt.shaped pd && SeqAt.shaped (PyData.list [])) = true then some (D.bl (!PyData.eqv pd (.list []))) else none) = some z := h'
      split at h2
      · rename_i hsh
        cases h2
        rw [Bool.and_eq_true] at hsh
        have ed : (D.py.pyL ds).map PyData.list = some pd := ep
        cases ee : D.py.pyL ds with
        | none => rw [ee] at ed; cases ed
        | some ps =>
          rw [ee] at ed
          cases ed
          exact ⟨_, _, .lst (.inl (.inl (by rw [upd_ne ne]; exact ga))) (py_dps w2.sub ro ee), .lst (.inl (.inl upd_same)) .nil, hsh.1, hsh.2, post F _ (Same.refl _) w2 _ (.bl _)⟩
      · cases h2
  · obtain ⟨_, ez, _⟩ := slotL_inv g1
    cases ez
theorem pem_ne0 (s : Nat) (hp : ∀ {ta tb : TE}, PE X (.Name x p) ta → PE X (.List [] pos) tb → PE X e (tOp (rNeD X.K) ta tb)) (hN : X.N[s]? = some x := by rfl) (hv : Vis X.env.scope x := by first | exact Or.inl rfl | exact Or.inr (Or.inl rfl) | exact Or.inr (Or.inr rfl)) (hd : (x == ("__debug__" : Str)) = false := by decide)
    (hcd : (x == ("__classdict__" : Str)) = false := by decide) : PEM X Wx e (mNe0 s) := by
  exact pe_imp (hp (pe_var hN hv hd hcd) (pe_lst pa_nil)) fun σ H Q h => ne0_imp s σ H Q h
end
end L3
set_option Elab.async false
set_option linter.all false
set_option maxRecDepth 100000
set_option maxHeartbeats 4000000
namespace L3
open PySem PySem.Spec PyProof.Rows L2 PySem.W
section
variable {X : Cx} {Wx : WX} {a b : Expr} {ma mb : M D} {oa ob : M OB} {pos : Pos}
theorem W.setO2 {K : Frag} {c : Ctx} {F : Hp} {ρ : List S} {σ : L2.St} {H : Hp} {i j : Nat} {p q : Addr} {u v : HO} {o r : OB} (w : W K c F ρ σ H) (ne : p ≠ q) (hF : F p = none) (hH : H p = some u) (ro : RepO K F u o) (h0 : c.H p = none) (hh : c.hd p = none) (no : ∀ j, ¬ OwnAt ρ σ j p)
    (kF : F q = none) (kH : H q = some v) (kr : RepO K F v r) (k0 : c.H q = none) (kh : c.hd q = none) (kn : ∀ j, ¬ OwnAt ρ σ j q) : W K c F ((ρ.set i (.own o)).set j (.own r)) ((σ.set i (some (V.ref p))).set j (some (V.ref q))) H := by
  refine (w.setO (i := i) hF hH ro h0 hh no).setO kF kH kr k0 kh fun n hn => ?_
  by_cases e : i = n
  · subst e
    obtain ⟨_, h2⟩ := hn
    rcases get_set_some h2 with ⟨_, z, _⟩ | ⟨z, _⟩
    · cases z; exact ne rfl
    · exact z rfl
  · exact kn n (own_set_ne e hn)
theorem psm_parOO (i j : Nat) {x y : Str} {px py pt : Pos} {kt k2 pt2} (hc : X.calm = true) (hN : X.N.Nodup) (hij : i ≠ j) (ha : POM X Wx a oa) (hb : POM X Wx b ob) (hi : X.N[i]? = some x := by rfl) (hj : X.N[j]? = some y := by rfl)
    (hx : X.env.scope.names.lookup x = some .local := by rfl) (hy : X.env.scope.names.lookup y = some .local := by rfl)
    (hsa : starEach [a, b] X.env = (false, eval a X.env) :: starEach [b] X.env := by rfl) (hsb : starEach [b] X.env = (false, eval b X.env) :: starEach [] X.env := by rfl)
    (hw : swappedStores [.Tuple [.Name x px, .Name y py] kt pt] (.Tuple [a, b] k2 pt2) X.env = pure (some [x, y]) := by rfl)
    (hs : swapsWithSole [.Tuple [.Name x px, .Name y py] kt pt] (.Tuple [a, b] k2 pt2) pos.line X.env = pure false := by rfl) :
    PSM X Wx (.Assign [.Tuple [.Name x px, .Name y py] kt pt] (.Tuple [a, b] k2 pt2) pos) (mParOO i j oa ob) := by
  refine ps_imp (ps_par hc hN hi hj hij hx hy (pa_cons ha (pa_cons hb pa_nil hsb) hsa) hw hs) fun De σ H h => ?_
  obtain ⟨c, F, ρ, r, ρ', w, hm, post⟩ := h
  rcases bind_inv hm with ⟨u, ρ1, q1, q2⟩ | ⟨u, q1, rfl⟩
  · refine ⟨c, F, ρ, .ok u, ρ1, w, q1, fun F1 H1 e1 w1 p hu g1 g2 g3 g4 g5 g6 => ?_⟩
    rcases bind_inv q2 with ⟨t, ρ2, q3, q4⟩ | ⟨t, q3, rfl⟩
    · cases q4
      refine ⟨_, F1, ρ1, .ok t, ρ2, w1.hold g1 g2 g6, q3, fun F2 H2 e2 w2 p' hu' k1 k2 k3 k4 k5 k6 => ?_⟩
      obtain ⟨w3, h1, h2, h3⟩ := w2.unhold g5
      have ne : p' ≠ p := fun z => by
        have k5' : (if p' = p then some hu else c.hd p') = none := k5
        rw [if_pos z] at k5'; cases k5'
      have k5' : (if p' = p then some hu else c.hd p') = none := k5
      rw [if_neg ne] at k5'
      exact ⟨_, _, rfl, post F2 _ H2 (e1.trans e2) (w3.setO2 ne.symm h2 h1 (g3.mono e2) g4 g5 h3 k1 k2 k3 k4 k5' k6)⟩
    · exact ⟨_, F1, ρ1, .ex t, ρ', w1.hold g1 g2 g6, q3, fun F' d H' e' w' r' => post F' σ d H' (e1.trans e') (w'.unhold g5).1 r'⟩
  · exact ⟨c, F, ρ, .ex u, ρ', w, q1, fun F' d H' e' w' r' => post F' σ d H' e' w' r'⟩
theorem psm_parDO (i j : Nat) {x y : Str} {px py pt : Pos} {kt k2 pt2} (hc : X.calm = true) (hN : X.N.Nodup) (hij : i ≠ j) (ha : PEM X Wx a ma) (hb : POM X Wx b ob) (hi : X.N[i]? = some x := by rfl) (hj : X.N[j]? = some y := by rfl)
    (hx : X.env.scope.names.lookup x = some .local := by rfl) (hy : X.env.scope.names.lookup y = some .local := by rfl)
    (hsa : starEach [a, b] X.env = (false, eval a X.env) :: starEach [b] X.env := by rfl) (hsb : starEach [b] X.env = (false, eval b X.env) :: starEach [] X.env := by rfl)
    (hw : swappedStores [.Tuple [.Name x px, .Name y py] kt pt] (.Tuple [a, b] k2 pt2) X.env = pure (some [x, y]) := by rfl)
    (hs : swapsWithSole [.Tuple [.Name x px, .Name y py] kt pt] (.Tuple [a, b] k2 pt2) pos.line X.env = pure false := by rfl) :
    PSM X Wx (.Assign [.Tuple [.Name x px, .Name y py] kt pt] (.Tuple [a, b] k2 pt2) pos) (mParDO i j ma ob) := by
  refine ps_imp (ps_par hc hN hi hj hij hx hy (pa_cons ha (pa_cons hb pa_nil hsb) hsa) hw hs) fun De σ H h => ?_
  obtain ⟨c, F, ρ, r, ρ', w, hm, post⟩ := h
  rcases bind_inv hm with ⟨u, ρ1, q1, q2⟩ | ⟨u, q1, rfl⟩
  · refine ⟨c, F, ρ, .ok u, ρ1, w, q1, fun F1 H1 e1 w1 v1 r1 => ?_⟩
    rcases bind_inv q2 with ⟨t, ρ2, q3, q4⟩ | ⟨t, q3, rfl⟩
    · cases q4
      refine ⟨c, F1, ρ1, .ok t, ρ2, w1, q3, fun F2 H2 e2 w2 p' hu' k1 k2 k3 k4 k5 k6 => ?_⟩
      refine ⟨_, _, rfl, post F2 _ H2 (e1.trans e2) ((w2.setD (i := i) (r1.mono e2)).setO k1 k2 k3 k4 k5 fun n hn => ?_)⟩
      exact k6 n (own_set_plain (s := S.dat u) (fun o => ⟨(fun z => nomatch z), (fun z => nomatch z)⟩) hn)
    · exact ⟨c, F1, ρ1, .ex t, ρ', w1, q3, fun F' d H' e' w' r' => post F' σ d H' (e1.trans e') w' r'⟩
  · exact ⟨c, F, ρ, .ex u, ρ', w, q1, fun F' d H' e' w' r' => post F' σ d H' e' w' r'⟩
theorem psm_parOD (i j : Nat) {x y : Str} {px py pt : Pos} {kt k2 pt2} (hc : X.calm = true) (hN : X.N.Nodup) (hij : i ≠ j) (ha : POM X Wx a oa) (hb : PEM X Wx b mb) (hi : X.N[i]? = some x := by rfl) (hj : X.N[j]? = some y := by rfl)
    (hx : X.env.scope.names.lookup x = some .local := by rfl) (hy : X.env.scope.names.lookup y = some .local := by rfl)
    (hsa : starEach [a, b] X.env = (false, eval a X.env) :: starEach [b] X.env := by rfl) (hsb : starEach [b] X.env = (false, eval b X.env) :: starEach [] X.env := by rfl)
    (hw : swappedStores [.Tuple [.Name x px, .Name y py] kt pt] (.Tuple [a, b] k2 pt2) X.env = pure (some [x, y]) := by rfl)
    (hs : swapsWithSole [.Tuple [.Name x px, .Name y py] kt pt] (.Tuple [a, b] k2 pt2) pos.line X.env = pure false := by rfl) :
    PSM X Wx (.Assign [.Tuple [.Name x px, .Name y py] kt pt] (.Tuple [a, b] k2 pt2) pos) (mParOD i j oa mb) := by
  refine ps_imp (ps_par hc hN hi hj hij hx hy (pa_cons ha (pa_cons hb pa_nil hsb) hsa) hw hs) fun De σ H h => ?_
  obtain ⟨c, F, ρ, r, ρ', w, hm, post⟩ := h
  rcases bind_inv hm with ⟨u, ρ1, q1, q2⟩ | ⟨u, q1, rfl⟩
  · refine ⟨c, F, ρ, .ok u, ρ1, w, q1, fun F1 H1 e1 w1 p hu g1 g2 g3 g4 g5 g6 => ?_⟩
    rcases bind_inv q2 with ⟨t, ρ2, q3, q4⟩ | ⟨t, q3, rfl⟩
    · cases q4
      refine ⟨_, F1, ρ1, .ok t, ρ2, w1.hold g1 g2 g6, q3, fun F2 H2 e2 w2 v2 r2 => ?_⟩
      obtain ⟨w3, h1, h2, h3⟩ := w2.unhold g5
      exact ⟨_, _, rfl, post F2 _ H2 (e1.trans e2) ((w3.setO (i := i) h2 h1 (g3.mono e2) g4 g5 h3).setD r2)⟩
    · exact ⟨_, F1, ρ1, .ex t, ρ', w1.hold g1 g2 g6, q3, fun F' d H' e' w' r' => post F' σ d H' (e1.trans e') (w'.unhold g5).1 r'⟩
  · exact ⟨c, F, ρ, .ex u, ρ', w, q1, fun F' d H' e' w' r' => post F' σ d H' e' w' r'⟩
end
/-! ### tuples: + and * -/
def dCatT : D → D → Option D
  | .tup (x :: xs), .tup ys => if (x :: xs).length + ys.length ≤ 1000000 then some (.tup (x :: xs ++ ys)) else none
  | _, _ => none
def dRepT : D → D → Option D
  | .tup (x :: xs), .int k => if 2 ≤ k ∧ k ≤ 1000 ∧ (x :: xs).length ≤ 1000 then some (.tup (List.replicate k.toNat (x :: xs)).flatten) else none
  | _, _ => none
theorem RepL.flat {K : Frag} {F : Hp} {vs : List V} {ds : List D} (r : RepL K F vs ds) : ∀ n : Nat, RepL K F (List.replicate n vs).flatten (List.replicate n ds).flatten
  | 0 => .nil
  | n + 1 => by
    rw [List.replicate_succ, List.replicate_succ, List.flatten_cons, List.flatten_cons]
    exact r.append (RepL.flat r n)
section
variable {X : Cx}
theorem s_catT : Op2 X.K (rCatT X.K) dCatT := by
  intro F H x y d e z Q rx ry sub h q
  unfold dCatT at h
  split at h
  · rename_i d0 ds es
    split at h
    · rename_i hl
      cases h
      cases rx with
      | tup h1 r1 =>
        cases ry with
        | tup h2 r2 =>
          refine ⟨_, _, _, _, rfl, rfl, same_sqT sub h1, same_sqT sub h2, fun z => ?_, by rw [r1.len, r2.len]; exact mil hl, fun z => ?_, fun _ p hp => ?_⟩
          · have := r1.len; rw [z] at this; cases this
          · subst z
            cases r2
            refine q F _ H Grow.refl ?_
            rw [List.append_nil]
            exact .tup h1 r1
          · exact q _ _ _ (Grow.new sub hp) (.tup (.inl (.inl upd_same)) ((r1.append r2).mono (same_upd (sub.free hp))))
    · cases h
  · cases h
theorem s_repT : Op2 X.K (rRepT X.K) dRepT := by
  intro F H x y d e z Q rx ry sub h q
  unfold dRepT at h
  split at h
  · rename_i d0 ds k
    split at h
    · rename_i hl
      cases h
      cases rx with
      | tup h1 r1 =>
        cases ry
        refine ⟨_, _, _, rfl, rfl, same_sqT sub h1, fun z => ?_, hl.1, hl.2.1, by rw [r1.len]; exact hl.2.2, fun p hp => ?_⟩
        · have := r1.len; rw [z] at this; cases this
        · exact q _ _ _ (Grow.new sub hp) (.tup (.inl (.inl upd_same)) ((r1.flat _).mono (same_upd (sub.free hp))))
    · cases h
  · cases h
end
/-! ### tuple(range(n)) -/
def mTupRg (a : M D) : M D := a.bind fun d => M.lift (match d with
  | .int n => if 0 ≤ n ∧ n ≤ 1000000 then some (.tup (rangeD 0 n.toNat)) else none
  | _ => none)
theorem rep_rg {K : Frag} {F : Hp} : ∀ (n : Nat) (lo : Int), RepL K F ((List.range n).map fun i => V.int (lo + (i : Nat))) (rangeD lo n)
  | 0, _ => .nil
  | n + 1, lo => by
    rw [List.range_succ_eq_map, List.map_cons, List.map_map]
    have e : (fun i : Nat => V.int (lo + (i : Nat))) ∘ Nat.succ = fun i : Nat => V.int (lo + 1 + (i : Nat)) := by
      funext i
      show V.int (lo + ((i + 1 : Nat) : Int)) = _
      congr 1
      omega
    rw [e]
    refine .cons ?_ (rep_rg n (lo + 1))
    have : lo + ((0 : Nat) : Int) = lo := by omega
    rw [this]
    exact .int _
theorem pem_tupRg {X : Cx} {Wx : WX} {a e : Expr} {ma : M D} (hp : ∀ {ta : TE}, PE X a ta → PE X e (tTupRg (tRg1 ta))) (ha : PEM X Wx a ma) : PEM X Wx e (mTupRg ma) := by
  refine pe_imp (hp ha) fun σ H Q h => ?_
  obtain ⟨c, F, ρ, rr, ρ', w, hm, post⟩ := h
  rcases bind_inv hm with ⟨d, ρ1, h1, h2⟩ | ⟨z, h1, rfl⟩
  · refine ⟨c, F, ρ, .ok d, ρ1, w, h1, fun F1 H1 e1 w1 v r1 => ?_⟩
    obtain ⟨z, hz, rfl, rfl⟩ := lift_inv h2
    split at hz
    · rename_i n
      split at hz
      · rename_i hn
        cases hz
        cases r1
        refine ⟨n, rfl, RgOk.of_le (Int.le_refl _) (by omega) (by omega) hn.1, fun q hq => ?_⟩
        obtain ⟨w2, s2⟩ := w1.allocF (u := .tup (rgV 0 n)) hq
        refine post _ _ (e1.trans s2) w2 _ (.tup (.inl (.inl upd_same)) ?_)
        unfold rgV
        rw [Int.sub_zero]
        exact rep_rg _ _
      · cases hz
    · cases hz
  · exact ⟨c, F, ρ, .ex z, ρ', w, h1, post⟩
end L3
set_option Elab.async false
set_option linter.all false
set_option maxRecDepth 100000
set_option maxHeartbeats 4000000
namespace L3
open PySem PySem.Spec PyProof.Rows L2 PySem.W
open AutoSeq1 (wpAny_loadPart')
/-! ### == and != of tuples that hold instances: what is surely equal -/
section
variable {prog : Program} {w : World} {A : Around} {R : Result → Shared → Prop}
theorem tup_ne_same (l b : Addr) (xs ys : Array Value) (n n2 : Nat) (dd dd2 : Option Addr) (sl sl2 : Array (Option Value)) (hz : xs.size = ys.size) (I : Nat → Shared → Prop)
    (turn : ∀ i (h1 : i < xs.size) (h2 : i < ys.size) s, I i s → wpAny (model prog w) A.in1 (eqBool xs[i] ys[i]) (fun r s' => r = true ∧ I (i + 1) s') (fun e s' => R (.error e) s') s)
    (fin : ∀ s, I xs.size s → R (.ok (.ret (.bool false))) s) {s : Shared} (hl : s.heap.get? l = some { cls := .type "tuple", dict := dd, data := .seq xs n, slots := sl }) (hb : s.heap.get? b = some { cls := .type "tuple", dict := dd2, data := .seq ys n2, slots := sl2 }) (h : I 0 s) :
    wpAny (model prog w) A.in1 (Builtin.«tuple.__ne__» ⟨[.ref l, .ref b], []⟩) (GQ.FinOf prog w A R) (fun e s' => R (.error e) s') s := by
  have st := AutoSeq1.sub_tuple_tuple
  have nz : (xs.toList.zip ys.toList).length = xs.size := by simp [hz]
  have h0 := h
  obtain ⟨hp, g, d, tk, os⟩ := s
  wp_walk using wpAny_loadPart' hl, wpAny_loadPart' hb, wpAny_forIn_list _ (fun rest b s' => b.1 = none ∧ ∃ i, rest = (xs.toList.zip ys.toList).drop i ∧ i ≤ xs.size ∧ I i s') _
  case turn =>
    rintro ⟨y, x⟩ rest b s' ⟨hb', i, hr, hi, hI⟩
    have lt : i < (xs.toList.zip ys.toList).length := by
      rcases Nat.lt_or_ge i (xs.toList.zip ys.toList).length with q | q
      · exact q
      · rw [List.drop_of_length_le q] at hr; cases hr
    have l1 : i < xs.size := nz ▸ lt
    have l2 : i < ys.size := hz ▸ l1
    rw [List.drop_eq_getElem_cons lt] at hr
    injection hr with e1 e2
    have ey : y = xs[i] := by have := congrArg Prod.fst e1; simpa using this
    have ex : x = ys[i] := by have := congrArg Prod.snd e1; simpa using this
    subst ey ex
    refine wpAny_bind (wpAny_mono (turn i l1 l2 s' hI) (fun r s2 q => ?_) fun _ _ z => z)
    obtain ⟨k, q⟩ := q
    subst k
    wp_walk
    exact ⟨rfl, i + 1, e2, l1, q⟩
  case fin =>
    rintro ⟨b1, b2⟩ s' ⟨hb', i, hr, hi, hI⟩
    simp only at hb'
    subst hb'
    have ge : xs.size ≤ i := by
      rcases Nat.lt_or_ge i (xs.toList.zip ys.toList).length with q | q
      · rw [List.drop_eq_getElem_cons q] at hr; cases hr
      · exact nz ▸ q
    have ei : i = xs.size := Nat.le_antisymm hi ge
    have done : R (.ok (.ret (.bool false))) s' := fin s' (ei ▸ hI)
    wp_walk
    simpa [Builtin.Tuple.tupleCompareSizes, hz] using done
  case h => exact ⟨rfl, 0, rfl, Nat.zero_le _, h0⟩
end
section
variable {prog : Program} {w : World} {A : Around} {E : Value → Shared → Prop} {s : Shared}
theorem rc_tupN {ng : Bool} {l b : Addr} {xs ys : Array Value} {Q : Value → Shared → Prop} (hz : xs.size = ys.size) (hu : A.units < cLine) (I : Nat → Shared → Prop) (hl : s.heap.IsTuple l xs) (hb : s.heap.IsTuple b ys)
    (turn : ∀ i (h1 : i < xs.size) (h2 : i < ys.size) s, I i s → wpAny (model prog w) A.in1 (eqBool xs[i] ys[i]) (fun r s' => r = true ∧ I (i + 1) s') E s)
    (fin : ∀ s, I xs.size s → Q (.bool (!ng)) s) (h : I 0 s) : wpAny (model prog w) A (richCompare (opOf ng) (.ref l) (.ref b)) Q E s := by
  cases ng with
  | false => exact GQ.rc_tupG hz hu I hl hb turn fin h
  | true =>
    obtain ⟨⟨cls, dd, data, sl⟩, ho, hc, n, hd⟩ := id hl
    obtain ⟨⟨cls2, dd2, data2, sl2⟩, ho2, hc2, n2, hd2⟩ := id hb
    simp only at hc hd hc2 hd2
    subst hc hd hc2 hd2
    refine wpAny_richCompare_same_room (op := .NotEq) ⟨_, ho, rfl⟩ ⟨_, ho2, rfl⟩ F.slot_tuple_ne (GQ.call_here F.slot_tuple_ne ⟨_, ho, rfl⟩ F.entry_tuple_ne (F.args_tuple_ne_2 _ _) ?_) hu
    exact tup_ne_same (R := wants (fun v s' => v ≠ .notImplemented ∧ Q v s') E) l b xs ys n n2 dd dd2 sl sl2 hz I turn (fun s' q => ⟨(fun z => nomatch z), fin s' q⟩) ho ho2 h
theorem eqBool_T {u v : Value} {Q : Bool → Shared → Prop} (nf : ∀ a b c d, (u, v) ≠ (Value.float a b, Value.float c d)) (hq : Q true s) (h : wpAny (model prog w) A (richCompare .Eq u v) (fun r s' => r = .bool true ∧ Q true s') E s) : wpAny (model prog w) A (eqBool u v) Q E s := by
  unfold eqBool
  refine wpAny_holding (wpAny_ite_split (fun _ => wpAny_bind (wpAny_rule (wpAny_pure hq))) fun _ => ?_)
  have fin : wpAny (model prog w) A (do truthOfDropped (← richCompare .Eq u v)) Q E s := by
    refine wpAny_bind (wpAny_mono h (fun r s' hr => ?_) fun _ _ z => z)
    obtain ⟨rfl, q⟩ := hr
    exact wpAny_truthy_bool q
  split
  · rename_i e
    exact absurd e (nf _ _ _ _)
  · exact fin
end
end L3
set_option Elab.async false
set_option linter.all false
set_option maxRecDepth 100000
set_option maxHeartbeats 4000000
namespace L3
open PySem PySem.Spec PyProof.Rows L2 PySem.W
theorem W.ext' {K : Frag} {c : Ctx} {F : Hp} {ρ : List S} {σ : L2.St} {H H' : Hp} (w : W K c F ρ σ H) (e : Ext H H') : W K c F ρ σ H' := by
  refine ⟨fun b o h => e _ _ (w.sub _ _ h), w.ext, fun b o h n => e _ _ (w.frm b o h n), w.new, fun b h => ?_, fun i s hs => ?_, w.dj, fun a u h => ?_⟩
  · cases q : H b with
    | none => exact w.dom b q
    | some o => rw [e _ _ q] at h; cases h
  · obtain ⟨x, hx, ok⟩ := w.slot i s hs
    refine ⟨x, hx, ?_⟩
    cases s with
    | dead => trivial
    | dat d => exact ok
    | own o => obtain ⟨a, u, h1, h2, h3, h4, h5⟩ := ok; exact ⟨a, u, h1, h2, e _ _ h3, h4, h5⟩
    | par o => obtain ⟨a, u, h1, h2, h3, h4, h5⟩ := ok; exact ⟨a, u, h1, h2, e _ _ h3, h4, h5⟩
  · obtain ⟨h1, h2, h3⟩ := w.held a u h
    exact ⟨e _ _ h1, h2, h3⟩
structure SubG (X : Cx) (n : Nat) (A : Around) : Prop where
  room : Room n A
  fr : A.frames = X.A.frames
  gd : A.guards = some []
theorem SubG.in1 {X : Cx} {n : Nat} {A : Around} (s : SubG X (n + 1) A) : SubG X n A.in1 := ⟨s.room.in1, s.fr, s.gd⟩
theorem SubG.mono {X : Cx} {n m : Nat} {A : Around} (s : SubG X n A) (h : m ≤ n) : SubG X m A := ⟨s.room.mono h, s.fr, s.gd⟩
/-- what comes behind: the heap has grown, no more -/
abbrev Aft (X : Cx) (pins : List (Addr × Obj)) (σ : L2.St) (H : Hp) (s' : Shared) : Prop := ∃ H', Inv X pins σ H' s' ∧ Ext H H'
def EqS (X : Cx) (n : Nat) (D : Eqv) : Prop :=
  ∀ (A : Around) (pins : List (Addr × Obj)) (s : Shared) (σ : L2.St) (H : Hp) (x y : V) (u v : Value), SubG X n A → Inv X pins σ H s → RelV x u → RelV y v → D x y H →
    wpAny (model X.prog X.w) A (eqBool u v) (fun r s' => r = true ∧ Aft X pins σ H s') X.xe s
def RcS (X : Cx) (n : Nat) (ng : Bool) (D : Eqv) : Prop :=
  ∀ (A : Around) (pins : List (Addr × Obj)) (s : Shared) (σ : L2.St) (H : Hp) (x y : V) (u v : Value), SubG X n A → Inv X pins σ H s → RelV x u → RelV y v → D x y H →
    wpAny (model X.prog X.w) A (richCompare (opOf ng) u v) (fun r s' => r = .bool (!ng) ∧ Aft X pins σ H s') X.xe s
section
variable {X : Cx} {n : Nat} {D : Eqv}
theorem rcS_tup (ng : Bool) (hD : Mon D) (h : EqS X n D) : RcS X (n + 1) ng (DTup X.K D) := by
  intro A pins s σ H x y u v sb I rx ry d
  obtain ⟨a, b, xs, ys, rfl, rfl, ha, hb, p⟩ := d
  cases rx
  cases ry
  obtain ⟨its, r, e, z⟩ := I.tuple ha
  obtain ⟨its2, r2, e2, z2⟩ := I.tuple hb
  have hz : its.toArray.size = its2.toArray.size := by
    rw [List.size_toArray, List.size_toArray, ← r.length, ← r2.length]
    exact p.1
  refine rc_tupN hz sb.room.units0 (fun _ s' => Aft X pins σ H s') e e2 (fun i h1 h2 s' q => ?_) (fun s' q => ⟨rfl, q⟩) ⟨H, I, Ext.rfl'⟩
  obtain ⟨H1, I1, e1⟩ := q
  have m1 : i < its.length := by simpa using h1
  have m2 : i < its2.length := by simpa using h2
  have k1 : i < xs.length := by rw [r.length]; exact m1
  have k2 : i < ys.length := by rw [r2.length]; exact m2
  obtain ⟨u, hu, ru⟩ := r.get (List.getElem?_eq_getElem k1)
  obtain ⟨v, hv, rv⟩ := r2.get (List.getElem?_eq_getElem k2)
  have g1 : its.toArray[i] = u := by
    rw [List.getElem?_eq_getElem m1] at hu
    simpa using hu
  have g2 : its2.toArray[i] = v := by
    rw [List.getElem?_eq_getElem m2] at hv
    simpa using hv
  rw [g1, g2]
  refine wpAny_mono (h A.in1 pins s' σ H1 _ _ u v sb.in1 I1 ru rv (hD _ _ _ _ e1 (p.2 i _ _ (List.getElem?_eq_getElem k1) (List.getElem?_eq_getElem k2)))) (fun r s2 q => ?_) fun _ _ z => z
  obtain ⟨hr, H2, I2, e2⟩ := q
  exact ⟨hr, H2, I2, e1.trans e2⟩
theorem RcS.eqS (h : RcS X n false D) (hr : ∀ x y H, D x y H → ∃ a b, x = .ref a ∧ y = .ref b) : EqS X n D := by
  intro A pins s σ H x y u v sb I rx ry d
  obtain ⟨a, b, rfl, rfl⟩ := hr _ _ _ d
  cases rx
  cases ry
  exact eqBool_T (fun _ _ _ _ z => nomatch z) ⟨rfl, H, I, Ext.rfl'⟩ (wpAny_mono (h A pins s σ H (.ref a) (.ref b) _ _ sb I rfl rfl d) (fun r s' q => ⟨q.1, rfl, q.2⟩) fun _ _ z => z)
end
/-- g says True -/
def callsT (g : G) (ds : List D) : Bool := match g (ds.map S.dat) with
  | some (.ok (.dat (.bl true)), _) => true
  | _ => false
def flatEq : D → D → Bool
  | .non, .non => true
  | .bl a, .bl b => a == b
  | .int a, .int b => a == b
  | .str a, .str b => a == b
  | _, _ => false
def baseEq (C : Nat) (g : G) (x y : D) : Bool := match x with
  | .ins c fs => decide (c = C) && (eqR C y && callsT g [.ins c fs, y])
  | x => match y with
    | .ins c fs => decide (c = C) && (isBt x && callsT g [.ins c fs, x])
    | y => flatEq x y
def allEq (f : D → D → Bool) : List D → List D → Bool
  | [], [] => true
  | x :: xs, y :: ys => f x y && allEq f xs ys
  | _, _ => false
/-- surely equal, by n levels of tuples -/
def sureEq (C : Nat) (g : G) : Nat → D → D → Bool
  | 0, x, y => baseEq C g x y
  | n + 1, .tup xs, .tup ys => allEq (sureEq C g n) xs ys
  | _ + 1, x, y => baseEq C g x y
def DSure (K : Frag) (C : Nat) (g : G) (n : Nat) : Eqv := fun x y H => ∃ F d e, Same F H ∧ Rep K F x d ∧ Rep K F y e ∧ sureEq C g n d e = true
def DBase (K : Frag) (C : Nat) (g : G) : Eqv := fun x y H => ∃ F d e, Same F H ∧ Rep K F x d ∧ Rep K F y e ∧ baseEq C g d e = true
theorem mon_sure {K : Frag} {C : Nat} {g : G} {n : Nat} : Mon (DSure K C g n) := fun x y H H' e ⟨F, d, d', h, r⟩ => ⟨F, d, d', fun a o q => e _ _ (h a o q), r⟩
section
variable {X : Cx} {Wx : WX} {C : Nat} {f : Addr} {fd : FuncData} {ps : List Str} {k : Nat} {g : G}
theorem Inv.envG {A : Around} {pins : List (Addr × Obj)} {σ : L2.St} {H : Hp} {s : Shared} (I : L2.Inv X pins σ H s) (fr : A.frames = X.A.frames) : Env0 X.prog X.w X.K X.mg X.base A X.stack s H := by
  have e := I.env0
  exact ⟨by rw [fr]; exact e.frames, e.mod, e.bs, e.bsz, e.funs, e.frf, e.hok, e.bare⟩
theorem sp_T {K : Frag} {F H : Hp} {vs : List V} {ds : List D} {E : XK} (sub : Same F H) (r : RepL K F vs ds) (hn : vs.length = 2) (h : callsT g ds = true) : spG K 2 g vs H (fun v H' => v = .bl true ∧ Ext H H') E := by
  unfold callsT at h
  split at h
  · rename_i ss' hg
    refine ⟨hn, F, _, _, _, sub, argS_d r, hg, fun F' v H' ret rv => ?_⟩
    have rv' : Rep K F' v (.bl true) := rv
    cases rv'
    refine ⟨rfl, fun b o hb => ret.frm b o hb ?_⟩
    rintro ⟨i, o', h1, _⟩
    rw [List.getElem?_map] at h1
    cases e : ds[i]? with
    | none => rw [e] at h1; cases h1
    | some d => rw [e] at h1; cases h1
  · cases h
theorem rep_ins {K : Frag} {F : Hp} {x : V} {c : Nat} {ds : List (Str × D)} (r : Rep K F x (.ins c ds)) : ∃ p dx fs, x = V.ref p ∧ F p = some (.ins (cA K c) dx fs) := by
  cases r with
  | ins h _ => exact ⟨_, _, _, rfl, h⟩
theorem eqS_base (B : EqC X.K (cA X.K C) f) (Fn : FnG X.prog X.w X.K X.mg X.base k f fd ps (spG X.K 2 g)) (hb : Binds X.K fd ps []) (tk : Takes X Wx) : EqS X k (DBase X.K C g) := by
  intro A pins s σ H x y u v sb I rx ry d
  obtain ⟨F, d, e, sub, r1, r2, h⟩ := d
  have KX := I.kIn
  have own : ∀ {p dx : Addr} {fs : List (Str × V)} {z : V} {uz : Value} {ds : List D}, H p = some (.ins (cA X.K C) dx fs) → RelV z uz → RepL X.K F [V.ref p, z] ds → callsT g ds = true →
      wpAny (model X.prog X.w) A (tryCompare (.ref p) (cmpInfo .Eq).2.1 uz) (fun o s' => ∃ v, o = some v ∧ v = .bool true ∧ true = true ∧ Aft X pins σ H s') X.xe s := fun {p dx fs z uz ds} hp rz rl hc => by
    obtain ⟨mA, O, _, _, _, _⟩ := ins_get I.hok hp
    obtain ⟨od, J, _⟩ := O.look
    refine tryc_eq KX J B (wpAny_mono (run_at (A' := A) (vs := [V.ref p, z]) (Wx := Wx) Fn sb.gd sb.room (Inv.envG I sb.fr) hb tk I (.cons rfl (.cons rz .nil)) (sp_T sub rl rfl hc)) (fun v s' hv => ?_) fun _ _ e => e)
    obtain ⟨z', H', I', rz', rfl, hx⟩ := hv
    cases (show v = Value.bool true from rz')
    exact ⟨true, rfl, _, rfl, rfl, rfl, H', I', hx⟩
  unfold baseEq at h
  split at h
  · rename_i c fs
    rw [Bool.and_eq_true, Bool.and_eq_true] at h
    obtain ⟨h1, h2, h3⟩ := h
    cases of_decide_eq_true h1
    have r1' := r1
    obtain ⟨p, dx, fs', rfl, hp⟩ := rep_ins r1
    · cases (show u = Value.ref p from rx)
      have hp' := sub _ _ hp
      obtain ⟨mA, O, _, _, _, _⟩ := ins_get I.hok hp'
      obtain ⟨od, J, _⟩ := O.look
      have q := own hp' ry (.cons r1' (.cons r2 .nil)) h3
      refine eqBool_T (fun _ _ _ _ z => nomatch z) ⟨rfl, H, I, Ext.rfl'⟩ ?_
      unfold eqR at h2
      split at h2
      · cases of_decide_eq_true h2
        obtain ⟨p', dx', fs'', rfl, hp2⟩ := rep_ins r2
        · cases (show v = Value.ref p' from ry)
          obtain ⟨mA', O', _, _, _, _⟩ := ins_get I.hok (sub _ _ hp2)
          obtain ⟨od', J', _⟩ := O'.look
          exact rcI_s (op := .Eq) (sym := (cmpInfo .Eq).1) (fn := (cmpInfo .Eq).2.1) (rn := (cmpInfo .Eq).2.2) rfl J J' sb.room.units0 q
      · obtain ⟨t, bv⟩ := bv_of r2 sub h2
        exact rcI_l (op := .Eq) (sym := (cmpInfo .Eq).1) (fn := (cmpInfo .Eq).2.1) (rn := (cmpInfo .Eq).2.2) rfl KX J sb.room.units0 (bv.is I ry) (B.kit t) q
  · split at h
    · rename_i c fs
      rw [Bool.and_eq_true, Bool.and_eq_true] at h
      obtain ⟨h1, h2, h3⟩ := h
      cases of_decide_eq_true h1
      have r2' := r2
      obtain ⟨t, bv⟩ := bv_of r1 sub h2
      obtain ⟨p, dx, fs', rfl, hp⟩ := rep_ins r2
      · cases (show v = Value.ref p from ry)
        have hp' := sub _ _ hp
        obtain ⟨mA, O, _, _, _, _⟩ := ins_get I.hok hp'
        obtain ⟨od, J, _⟩ := O.look
        obtain ⟨_, _, _, hget, _⟩ := (show ObjOk X.prog X.w H s.heap p (.ins (cA X.K C) dx fs') from I.hok p _ hp')
        have q := own hp' rx (.cons r2' (.cons r1 .nil)) h3
        refine eqBool_T (fun _ _ _ _ z => nomatch (congrArg Prod.snd z)) ⟨rfl, H, I, Ext.rfl'⟩ ?_
        exact rcI_r (op := .Eq) (sym := (cmpInfo .Eq).1) (fn := (cmpInfo .Eq).2.1) (rn := (cmpInfo .Eq).2.2) rfl KX J sb.room.units0 (bv.is I rx) (B.sub t) (fun Q' hq => bv.decl false I rx J hget B Q' hq) q
    · have flat : flatV x = true ∧ flatV y = true ∧ eqV x y = true := by
        unfold flatEq at h
        split at h
        · cases r1; cases r2; exact ⟨rfl, rfl, rfl⟩
        · cases r1; cases r2; exact ⟨rfl, rfl, h⟩
        · cases r1; cases r2; exact ⟨rfl, rfl, h⟩
        · cases r1; cases r2; exact ⟨rfl, rfl, h⟩
        · cases h
      have q := eqAt_V (A := A) (s := s) rx ry flat.1 flat.2.1
      rw [flat.2.2] at q
      exact q X.prog X.w X.xe _ ⟨rfl, H, I, Ext.rfl'⟩
end
end L3
set_option Elab.async false
set_option linter.all false
set_option maxRecDepth 100000
set_option maxHeartbeats 4000000
namespace L3
open PySem PySem.Spec PyProof.Rows L2 PySem.W
theorem EqS.mono {X : Cx} {n m : Nat} {D : Eqv} (h : EqS X n D) (hn : n ≤ m) : EqS X m D := fun A pins s σ H x y u v sb => h A pins s σ H x y u v (sb.mono hn)
theorem allEq_prs {K : Frag} {F H : Hp} {C : Nat} {g : G} {n : Nat} (sub : Same F H) : ∀ {ds es : List D} {xs ys : List V}, RepL K F xs ds → RepL K F ys es → allEq (sureEq C g n) ds es = true → Prs (DSure K C g n) xs ys H
  | [], [], _, _, .nil, .nil, _ => Prs.nil
  | [], _ :: _, _, _, _, _, h => by cases h
  | _ :: _, [], _, _, _, _, h => by cases h
  | d :: ds, e :: es, _, _, .cons r1 t1, .cons r2 t2, h => by
    have h' : (sureEq C g n d e && allEq (sureEq C g n) ds es) = true := h
    rw [Bool.and_eq_true] at h'
    exact Prs.cons ⟨F, d, e, sub, r1, r2, h'.1⟩ (allEq_prs sub t1 t2 h'.2)
theorem tup_sure {K : Frag} {F H : Hp} {C : Nat} {g : G} {n : Nat} {x y : V} {ds es : List D} (sub : Same F H) (r1 : Rep K F x (.tup ds)) (r2 : Rep K F y (.tup es)) (h : allEq (sureEq C g n) ds es = true) : DTup K (DSure K C g n) x y H := by
  cases r1 with
  | tup q1 l1 =>
    cases r2 with
    | tup q2 l2 => exact ⟨_, _, _, _, rfl, rfl, same_sqT sub q1, same_sqT sub q2, allEq_prs sub l1 l2 h⟩
section
variable {X : Cx} {Wx : WX} {C : Nat} {f : Addr} {fd : FuncData} {ps : List Str} {k : Nat} {g : G}
theorem eqS_sure (B : EqC X.K (cA X.K C) f) (Fn : FnG X.prog X.w X.K X.mg X.base k f fd ps (spG X.K 2 g)) (hb : Binds X.K fd ps []) (tk : Takes X Wx) : ∀ n, EqS X (k + n) (DSure X.K C g n)
  | 0 => fun A pins s σ H x y u v sb I rx ry d => eqS_base B Fn hb tk A pins s σ H x y u v sb I rx ry d
  | n + 1 => fun A pins s σ H x y u v sb I rx ry d => by
    have ih := eqS_sure B Fn hb tk n
    have tp : EqS X (k + n + 1) (DTup X.K (DSure X.K C g n)) := (rcS_tup false mon_sure ih).eqS fun _ _ _ d => let ⟨a, b, _, _, hx, hy, _⟩ := d; ⟨a, b, hx, hy⟩
    obtain ⟨F, d, e, sub, r1, r2, h⟩ := d
    have base : baseEq C g d e = true → wpAny (model X.prog X.w) A (eqBool u v) (fun r s' => r = true ∧ Aft X pins σ H s') X.xe s := fun h =>
      (eqS_base B Fn hb tk).mono (Nat.le_add_right k (n + 1)) A pins s σ H x y u v sb I rx ry ⟨F, d, e, sub, r1, r2, h⟩
    unfold sureEq at h
    split at h
    · exact base h
    · rename_i m ds es z
      cases z
      exact tp A pins s σ H x y u v sb I rx ry (tup_sure sub r1 r2 h)
    · exact base h
/-- x == y, x != y: tuples -/
def rSure (K : Frag) (C : Nat) (g : G) (ng : Bool) (n : Nat) : R2 := fun x y H Q => DTup K (DSure K C g n) x y H ∧ ∀ H', Ext H H' → Q (.bl (!ng)) H'
theorem op_sure (ng : Bool) (n : Nat) (B : EqC X.K (cA X.K C) f) (Fn : FnG X.prog X.w X.K X.mg X.base k f fd ps (spG X.K 2 g)) (hG : X.A.guards = some []) (hr : Room (k + n + 1) X.A) (hb : Binds X.K fd ps []) (tk : Takes X Wx) : OpR X (compareOp (opOf ng)) (rSure X.K C g ng n) := by
  intro pins s σ H x y v u Q I rx ry h
  obtain ⟨d, q⟩ := h
  have cmp : ∀ v u, compareOp (opOf ng) v u = richCompare (opOf ng) v u := by cases ng <;> (intro v u; rfl)
  rw [cmp]
  refine wpAny_mono (rcS_tup ng mon_sure (eqS_sure B Fn hb tk n) X.A pins s σ H x y v u ⟨hr, rfl, hG⟩ I rx ry d) (fun r s' z => ?_) fun _ _ z => z
  obtain ⟨rfl, H', I', e⟩ := z
  exact ⟨.bl (!ng), H', I', rfl, q H' e⟩
def dSure (C : Nat) (g : G) (ng : Bool) (n : Nat) : D → D → Option D
  | .tup ds, .tup es => if allEq (sureEq C g n) ds es = true then some (.bl (!ng)) else none
  | _, _ => none
theorem s_sure {ng : Bool} {n : Nat} : Op2 X.K (rSure X.K C g ng n) (dSure C g ng n) := by
  intro F H x y d e z Q rx ry sub h q
  unfold dSure at h
  split at h
  · split at h
    · rename_i hs
      cases h
      exact ⟨tup_sure sub rx ry hs, fun H' e => q F _ H' ⟨Same.refl _, fun _ _ _ w => w.ext' e⟩ (.bl _)⟩
    · cases h
  · cases h
end
end L3
set_option Elab.async false
set_option linter.all false
set_option maxRecDepth 100000
set_option maxHeartbeats 4000000
namespace L3
open PySem PySem.Spec PyProof.Rows L2 PySem.W
open AutoSeq1 (wpAny_loadPart')
/-! ### t != () -/
theorem tup_ne0 {prog : Program} {w : World} {A : Around} {R : Result → Shared → Prop} (l b : Addr) (xs : Array Value) (n n2 : Nat) (dd dd2 : Option Addr) (sl sl2 : Array (Option Value)) {s : Shared}
    (hl : s.heap.get? l = some { cls := .type "tuple", dict := dd, data := .seq xs n, slots := sl }) (hb : s.heap.get? b = some { cls := .type "tuple", dict := dd2, data := .seq #[] n2, slots := sl2 }) (h : R (.ok (.ret (.bool (xs.size != 0)))) s) :
    wpAny (model prog w) A.in1 (Builtin.«tuple.__ne__» ⟨[.ref l, .ref b], []⟩) (GQ.FinOf prog w A R) (fun e s' => R (.error e) s') s := by
  have st := AutoSeq1.sub_tuple_tuple
  obtain ⟨hp, g, d, tk, os⟩ := s
  wp_walk using wpAny_loadPart' hl, wpAny_loadPart' hb, wpAny_forIn_list _ (fun rest b s' => b.1 = none ∧ s' = ⟨hp, g, d, tk, os⟩ ∧ rest = []) _
  case turn =>
    rintro ⟨y, x⟩ rest b s' ⟨_, _, z⟩
    cases z
  case fin =>
    rintro ⟨b1, b2⟩ s' ⟨k, hs, _⟩
    simp only at k
    subst k hs
    wp_walk
    simpa [Builtin.Tuple.tupleCompareSizes] using h
  case h => exact ⟨rfl, rfl, by simp⟩
section
variable {X : Cx} {Wx : WX}
def rNe0T (K : Frag) : R2 := fun x y H Q => ∃ a b xs, x = V.ref a ∧ y = V.ref b ∧ SqT K H a xs ∧ SqT K H b [] ∧ Q (.bl (xs.length != 0)) H
theorem op_ne0T (hu : X.A.units + 64 < cLine) : OpR X (compareOp .NotEq) (rNe0T X.K) := by
  intro pins s σ H x y v u Q I rx ry h
  obtain ⟨a, b, xs, rfl, rfl, h1, h2, q⟩ := h
  obtain rfl : v = Value.ref a := rx
  obtain rfl : u = Value.ref b := ry
  obtain ⟨its, r, e, z⟩ := I.tuple h1
  obtain ⟨its2, r2, e2, z2⟩ := I.tuple h2
  cases r2
  obtain ⟨⟨cls, dd, data, sl⟩, ho, hc, n, hd⟩ := id e
  obtain ⟨⟨cls2, dd2, data2, sl2⟩, ho2, hc2, n2, hd2⟩ := id e2
  simp only at hc hd hc2 hd2
  subst hc hd hc2 hd2
  show wpAny (model X.prog X.w) X.A (richCompare .NotEq (.ref a) (.ref b)) (EP X pins σ Q) X.xe s
  refine wpAny_richCompare_same_room (op := .NotEq) ⟨_, ho, rfl⟩ ⟨_, ho2, rfl⟩ F.slot_tuple_ne (GQ.call_here F.slot_tuple_ne ⟨_, ho, rfl⟩ F.entry_tuple_ne (F.args_tuple_ne_2 _ _) ?_) (by omega)
  refine tup_ne0 (R := wants (fun v s' => v ≠ .notImplemented ∧ EP X pins σ Q v s') X.xe) a b its.toArray n n2 dd dd2 sl sl2 ho ho2 ⟨(fun x => nomatch x), .bl _, H, I, rfl, ?_⟩
  rw [List.size_toArray, ← r.length]
  exact q
def dNe0T : D → D → Option D
  | .tup ds, .tup [] => some (.bl (ds.length != 0))
  | _, _ => none
theorem s_ne0T : Op2 X.K (rNe0T X.K) dNe0T := by
  intro F H x y d e z Q rx ry sub h q
  unfold dNe0T at h
  split at h
  · cases h
    cases rx with
    | tup h1 r1 =>
      cases ry with
      | tup h2 r2 =>
        cases r2
        refine ⟨_, _, _, rfl, rfl, same_sqT sub h1, same_sqT sub h2, ?_⟩
        rw [r1.len]
        exact q F _ H Grow.refl (.bl _)
  · cases h
/-! ### x is not True -/
def dIsNBl : D → D → Option D
  | .bl a, .bl b => some (.bl (!decide (a = b)))
  | _, _ => none
theorem s_isNBl : Op2 X.K rNotB dIsNBl := by
  intro F H x y d e z Q rx ry sub h q
  unfold dIsNBl at h
  split at h
  · cases h; cases rx; cases ry
    exact ⟨_, _, rfl, rfl, q F _ H Grow.refl (.bl _)⟩
  · cases h
/-! ### xs + ys, an object of its own -/
def mCatO (a b : M D) : M OB := a.bind fun x => b.bind fun y => M.lift (match x, y with
  | .lst xs, .lst ys => if xs.length + ys.length ≤ 1000000 then some (.lst (xs ++ ys)) else none
  | _, _ => none)
theorem pom_cat {a b e : Expr} {ma mb : M D} (hp : ∀ {ta tb : TE}, PE X a ta → PE X b tb → PE X e (tOp rCat ta tb)) (ha : PEM X Wx a ma) (hb : PEM X Wx b mb) : POM X Wx e (mCatO ma mb) := by
  refine pe_imp (hp ha hb) fun σ H Q h => ?_
  obtain ⟨c, F, ρ, rr, ρ', w, hm, post⟩ := h
  rcases bind_inv hm with ⟨d, ρ1, h1, h2⟩ | ⟨z, h1, rfl⟩
  · refine ⟨c, F, ρ, .ok d, ρ1, w, h1, fun F1 H1 e1 w1 v r1 => ?_⟩
    rcases bind_inv h2 with ⟨d', ρ2, h3, h4⟩ | ⟨z, h3, rfl⟩
    · refine ⟨c, F1, ρ1, .ok d', ρ2, w1, h3, fun F2 H2 e2 w2 v' r2 => ?_⟩
      obtain ⟨z, hz, rfl, rfl⟩ := lift_inv h4
      split at hz
      · split at hz
        · rename_i hl
          cases hz
          cases r1 with
          | lst g1 l1 =>
            cases r2 with
            | lst g2 l2 =>
              have l1' := l1.mono e2
              refine ⟨_, _, _, _, rfl, rfl, w2.sub _ _ (e2 _ _ g1), w2.sub _ _ g2, by rw [l1.len, l2.len]; exact mil hl, fun p hp => ?_⟩
              obtain ⟨w3, q1, q2, q3, q4⟩ := w2.alloc (u := .lst _) hp
              exact post _ _ (e1.trans e2) w3 p _ q1 upd_same (.lst (l1'.append l2)) q2 q3 q4
        · cases hz
      · cases hz
    · exact ⟨c, F1, ρ1, .ex z, ρ', w1, h3, PostX.mono e1 post⟩
  · exact ⟨c, F, ρ, .ex z, ρ', w, h1, post⟩
theorem ptm_ne0 (s : Nat) {e : Expr} {x : Str} {p pos : Pos} (hp : ∀ {ta tb : TE}, PE X (.Name x p) ta → PE X (.List [] pos) tb → PT X e (tTest (tOp (rNeD X.K) ta tb))) (hN : X.N[s]? = some x := by rfl) (hv : Vis X.env.scope x := by first | exact Or.inl rfl | exact Or.inr (Or.inl rfl) | exact Or.inr (Or.inr rfl)) (hd : (x == ("__debug__" : Str)) = false := by decide)
    (hcd : (x == ("__classdict__" : Str)) = false := by decide) : PTM X Wx e (mTest (mNe0 s)) :=
  pt_imp (hp (pe_var hN hv hd hcd) (pe_lst pa_nil)) fun σ H Q h => ne0_imp s σ H _ (test_imp σ H Q h)
end
/-- an argument that is a tuple -/
theorem st_tup {a : List Expr} {b : Nat} {c : Pos} {es : List Expr} {env : Env} : starEach (Expr.Tuple a b c :: es) env = (false, eval (.Tuple a b c) env) :: starEach es env := rfl
end L3
set_option Elab.async false
set_option linter.all false
set_option maxRecDepth 100000
set_option maxHeartbeats 4000000
namespace L3
open PySem PySem.Spec PyProof.Rows L2
/-! ### plain rules of the younger words -/
/-! data that can be compared -/
def Shp (k : Nat) (d : D) : Prop := ∃ p, d.py = some p ∧ p.canLay0 = true ∧ p.depth ≤ k
section
variable {k : Nat} {ds : List D} {P : D → Prop}
theorem Shp.int {i : Int} : Shp k (.int i) := ⟨.int i, rfl, rfl, Nat.zero_le _⟩
theorem Shp.bl {b : Bool} : Shp k (.bl b) := ⟨.bool b, rfl, rfl, Nat.zero_le _⟩
theorem Shp.non : Shp k .non := ⟨.none, rfl, rfl, Nat.zero_le _⟩
theorem shpL : ∀ {ds : List D}, (∀ d ∈ ds, Shp k d) → ∃ ps, D.py.pyL ds = some ps ∧ PyData.canLayAll0 ps = true ∧ PyData.depthAll ps ≤ k
  | [], _ => ⟨[], rfl, rfl, Nat.zero_le _⟩
  | d :: ds, h => by
    obtain ⟨p, e1, e2, e3⟩ := h d List.mem_cons_self
    obtain ⟨ps, f1, f2, f3⟩ := shpL fun d' hd => h d' (List.mem_cons_of_mem _ hd)
    refine ⟨p :: ps, ?_, ?_, ?_⟩
    · show (match d.py, D.py.pyL ds with
        | some p, some ps => some (p :: ps)
        | _, _ => none) = _
      rw [e1, f1]
    · show (p.canLay0 && PyData.canLayAll0 ps) = true
      rw [e2, f2]; rfl
    · show max p.depth (PyData.depthAll ps) ≤ k
      omega
theorem Shp.lst (h : ∀ d ∈ ds, Shp k d) : Shp (k + 1) (.lst ds) := by
  obtain ⟨ps, f1, f2, f3⟩ := shpL h
  refine ⟨.list ps, ?_, f2, Nat.succ_le_succ f3⟩
  show (D.py.pyL _).map PyData.list = _
  rw [f1]; rfl
theorem Shp.tup (h : ∀ d ∈ ds, Shp k d) : Shp (k + 1) (.tup ds) := by
  obtain ⟨ps, f1, f2, f3⟩ := shpL h
  refine ⟨.tuple ps, ?_, f2, Nat.succ_le_succ f3⟩
  show (D.py.pyL _).map PyData.tuple = _
  rw [f1]; rfl
theorem shaped_of {p : PyData} (h1 : p.canLay0 = true) (h2 : p.depth ≤ 60) : SeqAt.shaped p = true := by
  show (p.canLay0 && decide (p.depth ≤ 64)) = true
  rw [h1, decide_eq_true (by omega)]
  rfl
theorem L_neSame (h : Shp 60 (.lst ds)) (q : P (.bl false)) : Lf (dNe (.lst ds) (.lst ds)) P := by
  obtain ⟨p, e, h1, h2⟩ := h
  exact L_neD e (shaped_of h1 h2) rfl q
theorem L_eqSame (h : Shp 60 (.lst ds)) (q : P (.bl true)) : Lf (dEq (.lst ds) (.lst ds)) P := by
  obtain ⟨p, e, h1, h2⟩ := h
  exact L_eqD e (shaped_of h1 h2) rfl q
theorem ne0_dat (h : Shp 60 (.lst ds)) : dNeD (.lst ds) (.lst []) = some (.bl (ds.length != 0)) := by
  obtain ⟨p, e, h1, h2⟩ := h
  have e' : (D.py.pyL ds).map PyData.list = some p := e
  cases f : D.py.pyL ds with
  | none => rw [f] at e'; cases e'
  | some ps =>
    rw [f] at e'
    cases e'
    have hl : PyData.eqv (.list ps) (.list []) = (ds.length == 0) := by
      cases ds with
      | nil => cases f; rfl
      | cons d ds =>
        have f' : (match d.py, D.py.pyL ds with
          | some p, some ps => some (p :: ps)
          | _, _ => none) = some ps := f
        split at f'
        · cases f'; rfl
        · cases f'
    unfold dNeD
    rw [e]
    show (if (SeqAt.shaped (.list ps) && SeqAt.shaped (.list [])) = true then some (D.bl (!PyData.eqv (.list ps) (.list []))) else none) = _
    rw [if_pos (by rw [shaped_of h1 h2]; rfl), hl]
    rfl
theorem L_ne0L (h : Shp 60 (.lst ds)) (q : P (.bl (ds.length != 0))) : Lf (dNe (.lst ds) (.lst [])) P := ⟨_, ne0_dat h, q⟩
end
section
variable {ρ : List S}
theorem T_ne0 {i : Nat} {ds : List D} {Q : D → List S → Prop} (ho : isOb ρ[i]? = some (.lst ds)) (h : Shp 60 (.lst ds)) (q : Q (.bl (ds.length != 0)) ρ) : T (mNe0 i) ρ Q := T_bind (T_slotL ho (T_lift ⟨_, ne0_dat h, q⟩))
theorem T_compS {s : Nat} {f : List D → List D} {vs : List Nat} {p : Put} {t : M Bool} {e : M D} {ds : List D} {Q : OB → List S → Prop} (h : ρ[s]? = some (.own (.lst ds))) (h1 : (vs.all (plainAt (ρ.set s .dead))) = true) (h2 : (f ds).length < 900000)
    (h3 : TC vs p t e (f ds) [] (wipeR (ρ.set s .dead) vs) fun out ρ2 => Q (.lst out) ((restore (ρ.set s .dead) ρ2 vs).set s (.own (.lst ds)))) : T (mCompS s f vs p t e) ρ Q := by
  obtain ⟨out, ρ2, e1, q⟩ := h3
  refine ⟨_, _, ?_, q⟩
  unfold mCompS
  rw [h]
  dsimp only
  rw [if_pos ⟨h1, h2⟩, e1]
theorem TCt {vs : List Nat} {p : Put} {t : M Bool} {e : M D} {d : D} {ds acc : List D} {P : List D → List S → Prop} (h : Lf (p d ρ) fun ρ1 => T t ρ1 fun b ρ2 => bif b then T e ρ2 (fun y ρ3 => TC vs p t e ds (acc ++ [y]) (wipeR ρ3 vs) P) else TC vs p t e ds acc (wipeR ρ2 vs) P) :
    TC vs p t e (d :: ds) acc ρ P := by
  obtain ⟨ρ1, e1, b, ρ2, e2, h⟩ := h
  cases b with
  | true =>
    obtain ⟨y, ρ3, e3, out, ρ4, e4, q⟩ := h
    refine ⟨out, ρ4, ?_, q⟩
    show (match p d ρ with
      | none => none
      | some ρ1 => match t ρ1 with
        | some (.ok true, ρ2) => match e ρ2 with
          | some (.ok y, ρ3) => compD vs p t e ds (acc ++ [y]) (wipeR ρ3 vs)
          | _ => none
        | some (.ok false, ρ2) => compD vs p t e ds acc (wipeR ρ2 vs)
        | _ => none) = _
    rw [e1]
    dsimp only
    rw [e2]
    dsimp only
    rw [e3]
    exact e4
  | false =>
    obtain ⟨out, ρ4, e4, q⟩ := h
    refine ⟨out, ρ4, ?_, q⟩
    show (match p d ρ with
      | none => none
      | some ρ1 => match t ρ1 with
        | some (.ok true, ρ2) => match e ρ2 with
          | some (.ok y, ρ3) => compD vs p t e ds (acc ++ [y]) (wipeR ρ3 vs)
          | _ => none
        | some (.ok false, ρ2) => compD vs p t e ds acc (wipeR ρ2 vs)
        | _ => none) = _
    rw [e1]
    dsimp only
    rw [e2]
    exact e4
/-- by an invariant of what is left and what is there -/
theorem TC_inv {vs : List Nat} {p : Put} {t : M Bool} {e : M D} {P : List D → List S → Prop} (I : List D → List D → List S → Prop)
    (turn : ∀ d ds acc ρ, I (d :: ds) acc ρ → Lf (p d ρ) fun ρ1 => T t ρ1 fun b ρ2 => bif b then T e ρ2 (fun y ρ3 => I ds (acc ++ [y]) (wipeR ρ3 vs)) else I ds acc (wipeR ρ2 vs)) (fin : ∀ acc ρ, I [] acc ρ → P acc ρ) :
    ∀ (ds acc : List D) (ρ : List S), I ds acc ρ → TC vs p t e ds acc ρ P
  | [], acc, ρ, h => TC0 (fin acc ρ h)
  | d :: ds, acc, ρ, h => by
    obtain ⟨ρ1, e1, k⟩ := turn d ds acc ρ h
    refine TCt ⟨ρ1, e1, k.imp fun b ρ2 h => ?_⟩
    cases b with
    | true => exact T.imp h fun y ρ3 h => TC_inv I turn fin ds _ _ h
    | false => exact TC_inv I turn fin ds _ _ h
theorem T_yes {Q : Bool → List S → Prop} (h : Q true ρ) : T mYes ρ Q := T_pure h
/-- .. without a test -/
theorem TC_invY {vs : List Nat} {p : Put} {e : M D} {P : List D → List S → Prop} (I : List D → List D → List S → Prop)
    (turn : ∀ d ds acc ρ, I (d :: ds) acc ρ → Lf (p d ρ) fun ρ1 => T e ρ1 fun y ρ3 => I ds (acc ++ [y]) (wipeR ρ3 vs)) (fin : ∀ acc ρ, I [] acc ρ → P acc ρ) :
    ∀ (ds acc : List D) (ρ : List S), I ds acc ρ → TC vs p mYes e ds acc ρ P :=
  TC_inv I (fun d ds acc ρ h => by
    obtain ⟨ρ1, e1, k⟩ := turn d ds acc ρ h
    exact ⟨ρ1, e1, T_yes k⟩) fin
theorem T_lstOf {a : M D} {Q : OB → List S → Prop} (h : T a ρ fun d ρ1 => Lf (sqD d) fun ds => Q (.lst ds) ρ1) : T (mLstOf a) ρ Q := by
  refine T_bind (h.imp fun d ρ1 h => T_lift ?_)
  obtain ⟨ds, e, q⟩ := h
  exact ⟨.lst ds, by rw [e]; rfl, q⟩
theorem L_sqL {ds : List D} {P : List D → Prop} (h : P ds) : Lf (sqD (.lst ds)) P := ⟨_, rfl, h⟩
theorem L_sqT {ds : List D} {P : List D → Prop} (h : P ds) : Lf (sqD (.tup ds)) P := ⟨_, rfl, h⟩
theorem L_sqR {ds : List D} {P : List D → Prop} (h : P ds) : Lf (sqD (.rdl ds)) P := ⟨_, rfl, h⟩
theorem T_popAt {s : Nat} {k : M D} {ds : List D} {Q : D → List S → Prop} (ho : isOb ρ[s]? = some (.lst ds))
    (h : T k ρ fun kd ρ1 => isOb ρ1[s]? = some (.lst ds) ∧ ∃ (n : Nat) (y : D), kd = .int n ∧ n < 1000000 ∧ ds[n]? = some y ∧ Q y (putAt ρ1 s (.lst (ds.eraseIdx n)))) : T (mPopAt s k) ρ Q := by
  refine T_bind (T_slotL ho (T_bind (h.imp fun kd ρ1 h => T_bind ?_)))
  obtain ⟨h1, n, y, rfl, hn, hy, q⟩ := h
  refine T_slotL h1 ⟨y, _, ?_, q⟩
  have hl : n < ds.length := by
    by_cases h : n < ds.length
    · exact h
    · rw [List.getElem?_eq_none (by omega)] at hy; cases hy
  have e : seqIndex? (n : Int) ds.length = some n := by
    unfold seqIndex?
    have h1 : ¬ ((n : Int) < 0) := by omega
    simp only [h1, if_false]
    rw [if_pos (by simp; omega)]
    simp
  dsimp only
  rw [if_pos ⟨by omega, by omega⟩, e]
  dsimp only
  rw [hy]
theorem T_parOO {a b : M OB} {i j : Nat} {Q : Fl → List S → Prop} (h : T a ρ fun x ρ1 => T b ρ1 fun y ρ2 => Q .nx ((ρ2.set i (.own x)).set j (.own y))) : T (mParOO i j a b) ρ Q :=
  T_bind (h.imp fun _ _ h => T_bind (h.imp fun _ _ h => ⟨_, _, rfl, h⟩))
theorem T_parDO {a : M D} {b : M OB} {i j : Nat} {Q : Fl → List S → Prop} (h : T a ρ fun x ρ1 => T b ρ1 fun y ρ2 => Q .nx ((ρ2.set i (.dat x)).set j (.own y))) : T (mParDO i j a b) ρ Q :=
  T_bind (h.imp fun _ _ h => T_bind (h.imp fun _ _ h => ⟨_, _, rfl, h⟩))
theorem T_parOD {a : M OB} {b : M D} {i j : Nat} {Q : Fl → List S → Prop} (h : T a ρ fun x ρ1 => T b ρ1 fun y ρ2 => Q .nx ((ρ2.set i (.own x)).set j (.dat y))) : T (mParOD i j a b) ρ Q :=
  T_bind (h.imp fun _ _ h => T_bind (h.imp fun _ _ h => ⟨_, _, rfl, h⟩))
theorem L_catT {x : D} {xs ys : List D} {P : D → Prop} (h : P (.tup (x :: xs ++ ys))) (hl : (x :: xs).length + ys.length ≤ 1000000) : Lf (dCatT (.tup (x :: xs)) (.tup ys)) P := ⟨_, if_pos hl, h⟩
theorem L_ne0T {ds : List D} {P : D → Prop} (h : P (.bl (ds.length != 0))) : Lf (dNe0T (.tup ds) (.tup [])) P := ⟨_, rfl, h⟩
theorem L_isNBl {a b : Bool} {P : D → Prop} (h : P (.bl (!decide (a = b)))) : Lf (dIsNBl (.bl a) (.bl b)) P := ⟨_, rfl, h⟩
theorem L_sure {C : Nat} {g : G} {ng : Bool} {n : Nat} {ds es : List D} {P : D → Prop} (e : allEq (sureEq C g n) ds es = true) (h : P (.bl (!ng))) : Lf (dSure C g ng n (.tup ds) (.tup es)) P := ⟨_, if_pos e, h⟩
theorem L_zip2 {as bs : List D} {P : List D → Prop} (h : P (zipD as bs)) : Lf (zip2 [.lst as, .lst bs]) P := ⟨_, rfl, h⟩
theorem L_zipS {x y : D} {as bs : List D} {P : List D → Prop} (h1 : sqD x = some as) (h2 : sqD y = some bs) (hl : as.length = bs.length) (h : P (zipD as bs)) : Lf (zipS2 [x, y]) P := by
  refine ⟨zipD as bs, ?_, h⟩
  show (match sqD x, sqD y with
    | some as, some bs => if as.length = bs.length then some (zipD as bs) else none
    | _, _ => none) = _
  rw [h1, h2]
  exact if_pos hl
theorem L_enu1 {as : List D} {P : List D → Prop} (h : P (enumD 0 as)) : Lf (enu1 [.lst as]) P := ⟨_, rfl, h⟩
theorem zip_f2 {α β : Type} {f : α → D} {g : β → D} {R : D → D → Prop} {h : α → β → D} (k : ∀ a b, R (.tup [f a, g b]) (h a b)) : ∀ (as : List α) (bs : List β), F2 R (zipD (as.map f) (bs.map g)) (List.zipWith h as bs)
  | [], _ => by simp [zipD]; exact .nil
  | _ :: _, [] => by simp [zipD]; exact .nil
  | a :: as, b :: bs => by
    simp only [List.map_cons, zipD, List.zipWith_cons_cons]
    exact .cons (k a b) (zip_f2 k as bs)
/-! loops and comprehensions over what stands for something -/
theorem T_loop2 {α : Type} {R : D → α → Prop} {p : Put} {b : M Fl} {Q : Fl → List S → Prop} (I : List α → List S → Prop) (turn : ∀ d a as ρ, R d a → I (a :: as) ρ → Lf (p d ρ) fun ρ1 => T b ρ1 fun f ρ2 => (f = .nx ∨ f = .ct) ∧ I as ρ2) (fin : ∀ ρ, I [] ρ → Q .nx ρ) :
    ∀ {ds : List D} {as : List α} {ρ : List S}, F2 R ds as → I as ρ → T (loopD p b ds) ρ Q
  | _, _, ρ, .nil, h => T_loop0 (fin ρ h)
  | _, _, ρ, .cons hd t, h => by
    obtain ⟨ρ1, e1, k⟩ := turn _ _ _ ρ hd h
    exact T_loop1 ⟨ρ1, e1, k.imp fun f ρ2 h => ⟨h.1, T_loop2 I turn fin t h.2⟩⟩
theorem TC_f2 {α : Type} {R : D → α → Prop} {vs : List Nat} {p : Put} {e : M D} {P : List D → List S → Prop} (f : α → D) (h : ∀ d a, R d a → Lf (p d ρ) fun ρ1 => T e ρ1 fun y ρ3 => y = f a ∧ wipeR ρ3 vs = ρ) :
    ∀ {ds acc : List D} {as : List α}, F2 R ds as → P (acc ++ as.map f) ρ → TC vs p mYes e ds acc ρ P
  | _, acc, _, .nil, q => TC0 (by simpa using q)
  | _, acc, _, .cons hd t, q => by
    obtain ⟨ρ1, e1, k⟩ := h _ _ hd
    refine TC1 ⟨ρ1, e1, k.imp fun y ρ3 h2 => ?_⟩
    rw [h2.1, h2.2]
    exact TC_f2 f h t (by simpa using q)
theorem TC_f0 {α : Type} {R : D → α → Prop} {vs : List Nat} {p : Put} {e : M D} {P : List D → List S → Prop} (f : α → D) (h : ∀ d a, R d a → Lf (p d ρ) fun ρ1 => T e ρ1 fun y ρ3 => y = f a ∧ wipeR ρ3 vs = ρ) {ds : List D} {as : List α} (k : F2 R ds as) (q : P (as.map f) ρ) : TC vs p mYes e ds [] ρ P := TC_f2 f h k q
theorem TC_two0 {vs : List Nat} {p : Put} {e : M D} {P : List D → List S → Prop} {R : D → D → Prop} (h : ∀ d y, R d y → Lf (p d ρ) fun ρ1 => T e ρ1 fun y' ρ3 => y' = y ∧ wipeR ρ3 vs = ρ) {ds out : List D} (k : F2 R ds out) (q : P out ρ) : TC vs p mYes e ds [] ρ P := TC_two h [] k q
theorem wr_id {a b : List S} {vs : List Nat} (h : wipeR a vs = b) : wipeR a vs = b := h
theorem F2.of_map {α β γ : Type} {R : β → γ → Prop} {f : α → β} {g : α → γ} : ∀ {as : List α}, (∀ a ∈ as, R (f a) (g a)) → F2 R (as.map f) (as.map g)
  | [], _ => .nil
  | a :: as, h => .cons (h a List.mem_cons_self) (F2.of_map fun a' ha => h a' (List.mem_cons_of_mem _ ha))
theorem F2.of_mapL {α β : Type} {R : β → α → Prop} {f : α → β} : ∀ {as : List α}, (∀ a ∈ as, R (f a) a) → F2 R (as.map f) as
  | [], _ => .nil
  | a :: as, h => .cons (h a List.mem_cons_self) (F2.of_mapL fun a' ha => h a' (List.mem_cons_of_mem _ ha))
theorem F2.get {α β : Type} {R : α → β → Prop} : ∀ {as : List α} {bs : List β}, F2 R as bs → ∀ {i : Nat} {b : β}, bs[i]? = some b → ∃ a, as[i]? = some a ∧ R a b
  | _, _, .nil, i, b, h => by simp at h
  | _, _, .cons k t, 0, b, h => by cases h; exact ⟨_, rfl, k⟩
  | _, _, .cons k t, i + 1, b, h => by
    obtain ⟨a, e, r⟩ := F2.get t (i := i) (by simpa using h)
    exact ⟨a, by simpa using e, r⟩
theorem F2.zipD {α β : Type} {R : D → α → Prop} {R' : D → β → Prop} : ∀ {as : List D} {xs : List α} {bs : List D} {ys : List β}, F2 R as xs → F2 R' bs ys → F2 (fun d (p : α × β) => ∃ a b, d = .tup [a, b] ∧ R a p.1 ∧ R' b p.2) (L3.zipD as bs) (xs.zip ys)
  | _, _, _, _, .nil, _ => by simp only [List.zip_nil_left]; unfold L3.zipD; exact .nil
  | _, _, _, _, .cons h t, .nil => by simp only [List.zip_nil_right]; unfold L3.zipD; exact .nil
  | _, _, _, _, .cons h t, .cons h' t' => by
    simp only [List.zip_cons_cons]
    unfold L3.zipD
    exact .cons ⟨_, _, rfl, h, h'⟩ (F2.zipD t t')
theorem atI_n {ds : List D} {n : Nat} {d : D} (h : ds[n]? = some d) : atI ds (n : Int) = some d := by
  have hl : n < ds.length := by
    by_cases h' : n < ds.length
    · exact h'
    · rw [List.getElem?_eq_none (by omega)] at h; cases h
  unfold atI ixN
  rw [if_pos (by omega), if_pos (by omega)]
  simpa using h
/-! two objects changed in place -/
def GS2 (g : G) (o1 o2 : OB) (P : S → OB → OB → Prop) : Prop := ∃ r a b tl, g [.par o1, .par o2] = some (.ok r, .par a :: .par b :: tl) ∧ P r a b
theorem GS2_of {n : Nat} {m : M Fl} {o1 o2 : OB} {P : S → OB → OB → Prop} (h : T m (.par o1 :: .par o2 :: List.replicate (n - 2) .dead) fun f ρ => ∃ r a b tl, f = .rt r ∧ ρ = .par a :: .par b :: tl ∧ P r a b) : GS2 (fnSem n m) o1 o2 P := by
  obtain ⟨f, ρ', e, r, a, b, tl, rfl, rfl, q⟩ := h
  refine ⟨r, a, b, [], ?_, q⟩
  unfold fnSem
  show (match m (.par o1 :: .par o2 :: List.replicate (n - 2) .dead) with
    | some (.ok .nx, ρ') => fin _ ρ' (.ok (.dat .non))
    | some (.ok (.rt s), ρ') => fin _ ρ' (.ok s)
    | some (.ex x, ρ') => fin _ ρ' (.ex x)
    | _ => none) = _
  rw [e]
  show fin _ _ _ = _
  unfold fin
  rw [if_pos (by rfl)]
  rfl
theorem T_calSS {i j : Nat} {g : G} {o1 o2 : OB} {gs : List Ag} {Q : S → List S → Prop} (hij : i ≠ j) (h1 : isOb ρ[i]? = some o1) (h2 : isOb ρ[j]? = some o2) (h : GS2 g o1 o2 fun r a b => Q r (putAt (putAt ρ i a) j b)) : T (callAt 2 g [] [.s i, .s j]) ρ Q := by
  obtain ⟨r, a, b, tl, e, q⟩ := h
  refine ⟨r, _, ?_, q⟩
  have c1 : ∀ {i : Nat} {o : OB}, isOb ρ[i]? = some o → content ρ (.s i) = some (.par o) := fun {i o} h => by
    show (match ρ[i]? with
        | some (.own o) => some (S.par o)
        | some (.par o) => some (S.par o)
        | _ => none) = _
    rcases isOb_some h with z | z <;> rw [z]
  have ct : contents ρ [.s i, .s j] = some [.par o1, .par o2] := by
    show (match content ρ (.s i), contents ρ [.s j] with
      | some s, some ss => some (s :: ss)
      | _, _ => none) = _
    rw [c1 h1]
    show (match some (S.par o1), (match content ρ (.s j), contents ρ [] with
      | some s, some ss => some (s :: ss)
      | _, _ => none) with
      | some s, some ss => some (s :: ss)
      | _, _ => none) = _
    rw [c1 h2]
    rfl
  unfold callAt
  have nd : (slotsOf [Ag.s i, .s j]).Nodup := by
    show [i, j].Nodup
    simp [hij]
  rw [if_pos ⟨nd, rfl⟩, ct]
  show (match g [.par o1, .par o2] with
    | none => none
    | some (r, ss') => match wback [.s i, .s j] ss' ρ with
      | none => none
      | some ρ' => some (r, ρ')) = _
  rw [e]
  rfl
end
end L3
set_option Elab.async false
set_option linter.all false
set_option maxRecDepth 100000
set_option maxHeartbeats 4000000
namespace K04
open PySem PySem.Spec PyProof.Rows L2 L3
def top (i : Nat) : Stmt := PySem.Challenge.pw_surelyends_k04_rows_times_mixes_cleared.main.body.getD i (.Pass ⟨0, 0, 0, 0⟩)
abbrev s_is_integer : Stmt := top 7
abbrev s_common_divisor : Stmt := top 8
abbrev s_Fraction_init : Stmt := inClass (top 9) 0
abbrev s_Fraction_top : Stmt := inClass (top 9) 1
abbrev s_Fraction_bottom : Stmt := inClass (top 9) 2
abbrev s_is_fraction : Stmt := top 10
abbrev s_require_fraction : Stmt := top 11
abbrev s_fraction_of : Stmt := top 12
abbrev s_required : Stmt := top 13
abbrev s_Fraction_by : Stmt := inClass (top 9) 3
abbrev s_Fraction_add : Stmt := inClass (top 9) 6
abbrev s_Fraction_radd : Stmt := inClass (top 9) 7
abbrev s_Fraction_sub : Stmt := inClass (top 9) 8
abbrev s_Fraction_rsub : Stmt := inClass (top 9) 9
abbrev s_Fraction_mul : Stmt := inClass (top 9) 10
abbrev s_Fraction_rmul : Stmt := inClass (top 9) 11
abbrev s_Fraction_eq : Stmt := inClass (top 9) 14
abbrev s_are_fractions : Stmt := top 17
abbrev s_is_rows : Stmt := top 18
abbrev s_require_rows : Stmt := top 19
abbrev s_require_fractions : Stmt := top 20
abbrev s_as_fractions : Stmt := top 21
abbrev s_product_in : Stmt := top 22
abbrev s_times_in : Stmt := top 23
abbrev s_mix_in : Stmt := top 24
abbrev s_without_line : Stmt := top 26
abbrev s_cleared_in : Stmt := top 25
abbrev s_times_of : Stmt := top 27
abbrev s_mix_of : Stmt := top 28
abbrev s_cleared : Stmt := top 29
abbrev s__law_dice : Stmt := top 31
abbrev s__law_roll : Stmt := top 32
abbrev s__law_one_of : Stmt := top 33
abbrev s__law_gcd : Stmt := top 34
abbrev s__law_ratio : Stmt := top 35
abbrev s__law_plus : Stmt := top 36
abbrev s__law_by : Stmt := top 37
abbrev s__law_pair : Stmt := top 38
abbrev s__law_pairs : Stmt := top 39
abbrev s__law_shown : Stmt := top 40
abbrev s__law_shown_row : Stmt := top 41
abbrev s__law_number : Stmt := top 42
abbrev s__law_product : Stmt := top 43
abbrev s__law_mix : Stmt := top 44
abbrev s__law_lines : Stmt := top 45
abbrev s__law_shown_lines : Stmt := top 46
abbrev s__law_inverse : Stmt := top 47
abbrev s__law_without : Stmt := top 48
abbrev s__law_cleared : Stmt := top 49
abbrev s__law_are_told : Stmt := top 50
abbrev s__law_right : Stmt := top 51
abbrev s_law : Stmt := top 52
/-- where the things of the top stand -/
structure Ad where
  f_is_integer : Addr
  d_is_integer : FuncData
  f_common_divisor : Addr
  d_common_divisor : FuncData
  f_Fraction_init : Addr
  d_Fraction_init : FuncData
  v_Fraction_init_2 : List Value
  f_Fraction_top : Addr
  d_Fraction_top : FuncData
  p_Fraction_top : Addr
  f_Fraction_bottom : Addr
  d_Fraction_bottom : FuncData
  p_Fraction_bottom : Addr
  f_is_fraction : Addr
  d_is_fraction : FuncData
  f_require_fraction : Addr
  d_require_fraction : FuncData
  f_fraction_of : Addr
  d_fraction_of : FuncData
  f_required : Addr
  d_required : FuncData
  f_Fraction_by : Addr
  d_Fraction_by : FuncData
  f_Fraction_add : Addr
  d_Fraction_add : FuncData
  f_Fraction_radd : Addr
  d_Fraction_radd : FuncData
  f_Fraction_sub : Addr
  d_Fraction_sub : FuncData
  f_Fraction_rsub : Addr
  d_Fraction_rsub : FuncData
  f_Fraction_mul : Addr
  d_Fraction_mul : FuncData
  f_Fraction_rmul : Addr
  d_Fraction_rmul : FuncData
  f_Fraction_eq : Addr
  d_Fraction_eq : FuncData
  f_are_fractions : Addr
  d_are_fractions : FuncData
  f_is_rows : Addr
  d_is_rows : FuncData
  f_require_rows : Addr
  d_require_rows : FuncData
  f_require_fractions : Addr
  d_require_fractions : FuncData
  f_as_fractions : Addr
  d_as_fractions : FuncData
  f_product_in : Addr
  d_product_in : FuncData
  f_times_in : Addr
  d_times_in : FuncData
  f_mix_in : Addr
  d_mix_in : FuncData
  f_without_line : Addr
  d_without_line : FuncData
  f_cleared_in : Addr
  d_cleared_in : FuncData
  f_times_of : Addr
  d_times_of : FuncData
  f_mix_of : Addr
  d_mix_of : FuncData
  f_cleared : Addr
  d_cleared : FuncData
  f__law_dice : Addr
  d__law_dice : FuncData
  f__law_roll : Addr
  d__law_roll : FuncData
  f__law_one_of : Addr
  d__law_one_of : FuncData
  f__law_gcd : Addr
  d__law_gcd : FuncData
  f__law_ratio : Addr
  d__law_ratio : FuncData
  f__law_plus : Addr
  d__law_plus : FuncData
  f__law_by : Addr
  d__law_by : FuncData
  f__law_pair : Addr
  d__law_pair : FuncData
  f__law_pairs : Addr
  d__law_pairs : FuncData
  f__law_shown : Addr
  d__law_shown : FuncData
  f__law_shown_row : Addr
  d__law_shown_row : FuncData
  f__law_number : Addr
  d__law_number : FuncData
  f__law_product : Addr
  d__law_product : FuncData
  f__law_mix : Addr
  d__law_mix : FuncData
  f__law_lines : Addr
  d__law_lines : FuncData
  f__law_shown_lines : Addr
  d__law_shown_lines : FuncData
  f__law_inverse : Addr
  d__law_inverse : FuncData
  f__law_without : Addr
  d__law_without : FuncData
  f__law_cleared : Addr
  d__law_cleared : FuncData
  f__law_are_told : Addr
  d__law_are_told : FuncData
  f__law_right : Addr
  d__law_right : FuncData
  f_law : Addr
  d_law : FuncData
  u_MAX_ROWS : Nat
  u_MAX_WIDTH : Nat
/-- what the top has left -/
structure Txt (K : PySem.W.Frag) (mg : Str → Option Value) (A : Ad) : Prop where
  g_Fraction : mg "Fraction" = some (.ref (cA K 0))
  cl_Fraction : KCls K (cA K 0)
  na_Fraction_own_bottom : NoAttr K (cA K 0) "own_bottom"
  na_Fraction_own_top : NoAttr K (cA K 0) "own_top"
  f_is_integer : FunD K "is_integer" "is_integer" (defArgs s_is_integer) (defBody s_is_integer) (defScope s_is_integer) [] [] A.f_is_integer A.d_is_integer
  g_is_integer : mg "is_integer" = some (.ref A.f_is_integer)
  b_is_integer : Binds K A.d_is_integer ["value"] []
  f_common_divisor : FunD K "common_divisor" "common_divisor" (defArgs s_common_divisor) (defBody s_common_divisor) (defScope s_common_divisor) [] [] A.f_common_divisor A.d_common_divisor
  g_common_divisor : mg "common_divisor" = some (.ref A.f_common_divisor)
  b_common_divisor : Binds K A.d_common_divisor ["number", "other"] []
  f_Fraction_init : FunD K "__init__" "Fraction.__init__" (defArgs s_Fraction_init) (defBody s_Fraction_init) (defScope s_Fraction_init) [.int 1] [] A.f_Fraction_init A.d_Fraction_init
  b_Fraction_init : Binds K A.d_Fraction_init ["self", "top", "bottom"] []
  dv_Fraction_init_2 : Vals [.int 1] A.v_Fraction_init_2
  b_Fraction_init_2 : Binds K A.d_Fraction_init ["self", "top", "bottom"] A.v_Fraction_init_2
  mk_Fraction : Mk K (cA K 0) A.f_Fraction_init
  f_Fraction_top : FunD K "top" "Fraction.top" (defArgs s_Fraction_top) (defBody s_Fraction_top) (defScope s_Fraction_top) [] [] A.f_Fraction_top A.d_Fraction_top
  b_Fraction_top : Binds K A.d_Fraction_top ["self"] []
  pr_Fraction_top : PropOf K (cA K 0) "top" A.p_Fraction_top A.f_Fraction_top
  f_Fraction_bottom : FunD K "bottom" "Fraction.bottom" (defArgs s_Fraction_bottom) (defBody s_Fraction_bottom) (defScope s_Fraction_bottom) [] [] A.f_Fraction_bottom A.d_Fraction_bottom
  b_Fraction_bottom : Binds K A.d_Fraction_bottom ["self"] []
  pr_Fraction_bottom : PropOf K (cA K 0) "bottom" A.p_Fraction_bottom A.f_Fraction_bottom
  f_is_fraction : FunD K "is_fraction" "is_fraction" (defArgs s_is_fraction) (defBody s_is_fraction) (defScope s_is_fraction) [] [] A.f_is_fraction A.d_is_fraction
  g_is_fraction : mg "is_fraction" = some (.ref A.f_is_fraction)
  b_is_fraction : Binds K A.d_is_fraction ["value"] []
  f_require_fraction : FunD K "require_fraction" "require_fraction" (defArgs s_require_fraction) (defBody s_require_fraction) (defScope s_require_fraction) [] [] A.f_require_fraction A.d_require_fraction
  g_require_fraction : mg "require_fraction" = some (.ref A.f_require_fraction)
  b_require_fraction : Binds K A.d_require_fraction ["value"] []
  f_fraction_of : FunD K "fraction_of" "fraction_of" (defArgs s_fraction_of) (defBody s_fraction_of) (defScope s_fraction_of) [] [] A.f_fraction_of A.d_fraction_of
  g_fraction_of : mg "fraction_of" = some (.ref A.f_fraction_of)
  b_fraction_of : Binds K A.d_fraction_of ["value"] []
  f_required : FunD K "required" "required" (defArgs s_required) (defBody s_required) (defScope s_required) [] [] A.f_required A.d_required
  g_required : mg "required" = some (.ref A.f_required)
  b_required : Binds K A.d_required ["value"] []
  f_Fraction_by : FunD K "by" "Fraction.by" (defArgs s_Fraction_by) (defBody s_Fraction_by) (defScope s_Fraction_by) [] [] A.f_Fraction_by A.d_Fraction_by
  b_Fraction_by : Binds K A.d_Fraction_by ["self", "other"] []
  me_Fraction_by : Meth K (cA K 0) "by" A.f_Fraction_by
  f_Fraction_add : FunD K "__add__" "Fraction.__add__" (defArgs s_Fraction_add) (defBody s_Fraction_add) (defScope s_Fraction_add) [] [] A.f_Fraction_add A.d_Fraction_add
  b_Fraction_add : Binds K A.d_Fraction_add ["self", "other"] []
  me_Fraction_add : Meth K (cA K 0) "__add__" A.f_Fraction_add
  f_Fraction_radd : FunD K "__radd__" "Fraction.__radd__" (defArgs s_Fraction_radd) (defBody s_Fraction_radd) (defScope s_Fraction_radd) [] [] A.f_Fraction_radd A.d_Fraction_radd
  b_Fraction_radd : Binds K A.d_Fraction_radd ["self", "other"] []
  me_Fraction_radd : Meth K (cA K 0) "__radd__" A.f_Fraction_radd
  f_Fraction_sub : FunD K "__sub__" "Fraction.__sub__" (defArgs s_Fraction_sub) (defBody s_Fraction_sub) (defScope s_Fraction_sub) [] [] A.f_Fraction_sub A.d_Fraction_sub
  b_Fraction_sub : Binds K A.d_Fraction_sub ["self", "other"] []
  me_Fraction_sub : Meth K (cA K 0) "__sub__" A.f_Fraction_sub
  f_Fraction_rsub : FunD K "__rsub__" "Fraction.__rsub__" (defArgs s_Fraction_rsub) (defBody s_Fraction_rsub) (defScope s_Fraction_rsub) [] [] A.f_Fraction_rsub A.d_Fraction_rsub
  b_Fraction_rsub : Binds K A.d_Fraction_rsub ["self", "other"] []
  me_Fraction_rsub : Meth K (cA K 0) "__rsub__" A.f_Fraction_rsub
  f_Fraction_mul : FunD K "__mul__" "Fraction.__mul__" (defArgs s_Fraction_mul) (defBody s_Fraction_mul) (defScope s_Fraction_mul) [] [] A.f_Fraction_mul A.d_Fraction_mul
  b_Fraction_mul : Binds K A.d_Fraction_mul ["self", "other"] []
  me_Fraction_mul : Meth K (cA K 0) "__mul__" A.f_Fraction_mul
  f_Fraction_rmul : FunD K "__rmul__" "Fraction.__rmul__" (defArgs s_Fraction_rmul) (defBody s_Fraction_rmul) (defScope s_Fraction_rmul) [] [] A.f_Fraction_rmul A.d_Fraction_rmul
  b_Fraction_rmul : Binds K A.d_Fraction_rmul ["self", "other"] []
  me_Fraction_rmul : Meth K (cA K 0) "__rmul__" A.f_Fraction_rmul
  f_Fraction_eq : FunD K "__eq__" "Fraction.__eq__" (defArgs s_Fraction_eq) (defBody s_Fraction_eq) (defScope s_Fraction_eq) [] [] A.f_Fraction_eq A.d_Fraction_eq
  b_Fraction_eq : Binds K A.d_Fraction_eq ["self", "other"] []
  me_Fraction_eq : Meth K (cA K 0) "__eq__" A.f_Fraction_eq
  f_are_fractions : FunD K "are_fractions" "are_fractions" (defArgs s_are_fractions) (defBody s_are_fractions) (defScope s_are_fractions) [] [] A.f_are_fractions A.d_are_fractions
  g_are_fractions : mg "are_fractions" = some (.ref A.f_are_fractions)
  b_are_fractions : Binds K A.d_are_fractions ["value", "many"] []
  f_is_rows : FunD K "is_rows" "is_rows" (defArgs s_is_rows) (defBody s_is_rows) (defScope s_is_rows) [] [] A.f_is_rows A.d_is_rows
  g_is_rows : mg "is_rows" = some (.ref A.f_is_rows)
  b_is_rows : Binds K A.d_is_rows ["value"] []
  f_require_rows : FunD K "require_rows" "require_rows" (defArgs s_require_rows) (defBody s_require_rows) (defScope s_require_rows) [] [] A.f_require_rows A.d_require_rows
  g_require_rows : mg "require_rows" = some (.ref A.f_require_rows)
  b_require_rows : Binds K A.d_require_rows ["rows"] []
  f_require_fractions : FunD K "require_fractions" "require_fractions" (defArgs s_require_fractions) (defBody s_require_fractions) (defScope s_require_fractions) [] [] A.f_require_fractions A.d_require_fractions
  g_require_fractions : mg "require_fractions" = some (.ref A.f_require_fractions)
  b_require_fractions : Binds K A.d_require_fractions ["value", "many"] []
  f_as_fractions : FunD K "as_fractions" "as_fractions" (defArgs s_as_fractions) (defBody s_as_fractions) (defScope s_as_fractions) [] [] A.f_as_fractions A.d_as_fractions
  g_as_fractions : mg "as_fractions" = some (.ref A.f_as_fractions)
  b_as_fractions : Binds K A.d_as_fractions ["row"] []
  f_product_in : FunD K "product_in" "product_in" (defArgs s_product_in) (defBody s_product_in) (defScope s_product_in) [] [] A.f_product_in A.d_product_in
  g_product_in : mg "product_in" = some (.ref A.f_product_in)
  b_product_in : Binds K A.d_product_in ["row", "column"] []
  f_times_in : FunD K "times_in" "times_in" (defArgs s_times_in) (defBody s_times_in) (defScope s_times_in) [] [] A.f_times_in A.d_times_in
  g_times_in : mg "times_in" = some (.ref A.f_times_in)
  b_times_in : Binds K A.d_times_in ["rows", "column"] []
  f_mix_in : FunD K "mix_in" "mix_in" (defArgs s_mix_in) (defBody s_mix_in) (defScope s_mix_in) [] [] A.f_mix_in A.d_mix_in
  g_mix_in : mg "mix_in" = some (.ref A.f_mix_in)
  b_mix_in : Binds K A.d_mix_in ["rows", "factors"] []
  f_without_line : FunD K "without_line" "without_line" (defArgs s_without_line) (defBody s_without_line) (defScope s_without_line) [] [] A.f_without_line A.d_without_line
  g_without_line : mg "without_line" = some (.ref A.f_without_line)
  b_without_line : Binds K A.d_without_line ["row", "line", "place"] []
  f_cleared_in : FunD K "cleared_in" "cleared_in" (defArgs s_cleared_in) (defBody s_cleared_in) (defScope s_cleared_in) [] [] A.f_cleared_in A.d_cleared_in
  g_cleared_in : mg "cleared_in" = some (.ref A.f_cleared_in)
  b_cleared_in : Binds K A.d_cleared_in ["rows"] []
  f_times_of : FunD K "times_of" "times_of" (defArgs s_times_of) (defBody s_times_of) (defScope s_times_of) [] [] A.f_times_of A.d_times_of
  g_times_of : mg "times_of" = some (.ref A.f_times_of)
  b_times_of : Binds K A.d_times_of ["rows", "column"] []
  f_mix_of : FunD K "mix_of" "mix_of" (defArgs s_mix_of) (defBody s_mix_of) (defScope s_mix_of) [] [] A.f_mix_of A.d_mix_of
  g_mix_of : mg "mix_of" = some (.ref A.f_mix_of)
  b_mix_of : Binds K A.d_mix_of ["rows", "factors"] []
  f_cleared : FunD K "cleared" "cleared" (defArgs s_cleared) (defBody s_cleared) (defScope s_cleared) [] [] A.f_cleared A.d_cleared
  g_cleared : mg "cleared" = some (.ref A.f_cleared)
  b_cleared : Binds K A.d_cleared ["rows"] []
  f__law_dice : FunD K "_law_dice" "_law_dice" (defArgs s__law_dice) (defBody s__law_dice) (defScope s__law_dice) [] [] A.f__law_dice A.d__law_dice
  g__law_dice : mg "_law_dice" = some (.ref A.f__law_dice)
  b__law_dice : Binds K A.d__law_dice ["_law_script", "_law_at"] []
  f__law_roll : FunD K "_law_roll" "_law_roll" (defArgs s__law_roll) (defBody s__law_roll) (defScope s__law_roll) [] [] A.f__law_roll A.d__law_roll
  g__law_roll : mg "_law_roll" = some (.ref A.f__law_roll)
  b__law_roll : Binds K A.d__law_roll ["_law_dice_here", "_law_total"] []
  f__law_one_of : FunD K "_law_one_of" "_law_one_of" (defArgs s__law_one_of) (defBody s__law_one_of) (defScope s__law_one_of) [] [] A.f__law_one_of A.d__law_one_of
  g__law_one_of : mg "_law_one_of" = some (.ref A.f__law_one_of)
  b__law_one_of : Binds K A.d__law_one_of ["_law_dice_here", "_law_items"] []
  f__law_gcd : FunD K "_law_gcd" "_law_gcd" (defArgs s__law_gcd) (defBody s__law_gcd) (defScope s__law_gcd) [] [] A.f__law_gcd A.d__law_gcd
  g__law_gcd : mg "_law_gcd" = some (.ref A.f__law_gcd)
  b__law_gcd : Binds K A.d__law_gcd ["_law_one", "_law_two"] []
  f__law_ratio : FunD K "_law_ratio" "_law_ratio" (defArgs s__law_ratio) (defBody s__law_ratio) (defScope s__law_ratio) [] [] A.f__law_ratio A.d__law_ratio
  g__law_ratio : mg "_law_ratio" = some (.ref A.f__law_ratio)
  b__law_ratio : Binds K A.d__law_ratio ["_law_top", "_law_bottom"] []
  f__law_plus : FunD K "_law_plus" "_law_plus" (defArgs s__law_plus) (defBody s__law_plus) (defScope s__law_plus) [] [] A.f__law_plus A.d__law_plus
  g__law_plus : mg "_law_plus" = some (.ref A.f__law_plus)
  b__law_plus : Binds K A.d__law_plus ["_law_one", "_law_two"] []
  f__law_by : FunD K "_law_by" "_law_by" (defArgs s__law_by) (defBody s__law_by) (defScope s__law_by) [] [] A.f__law_by A.d__law_by
  g__law_by : mg "_law_by" = some (.ref A.f__law_by)
  b__law_by : Binds K A.d__law_by ["_law_one", "_law_two"] []
  f__law_pair : FunD K "_law_pair" "_law_pair" (defArgs s__law_pair) (defBody s__law_pair) (defScope s__law_pair) [] [] A.f__law_pair A.d__law_pair
  g__law_pair : mg "_law_pair" = some (.ref A.f__law_pair)
  b__law_pair : Binds K A.d__law_pair ["_law_number_here"] []
  f__law_pairs : FunD K "_law_pairs" "_law_pairs" (defArgs s__law_pairs) (defBody s__law_pairs) (defScope s__law_pairs) [] [] A.f__law_pairs A.d__law_pairs
  g__law_pairs : mg "_law_pairs" = some (.ref A.f__law_pairs)
  b__law_pairs : Binds K A.d__law_pairs ["_law_row"] []
  f__law_shown : FunD K "_law_shown" "_law_shown" (defArgs s__law_shown) (defBody s__law_shown) (defScope s__law_shown) [] [] A.f__law_shown A.d__law_shown
  g__law_shown : mg "_law_shown" = some (.ref A.f__law_shown)
  b__law_shown : Binds K A.d__law_shown ["_law_dice_here", "_law_pair_here"] []
  f__law_shown_row : FunD K "_law_shown_row" "_law_shown_row" (defArgs s__law_shown_row) (defBody s__law_shown_row) (defScope s__law_shown_row) [] [] A.f__law_shown_row A.d__law_shown_row
  g__law_shown_row : mg "_law_shown_row" = some (.ref A.f__law_shown_row)
  b__law_shown_row : Binds K A.d__law_shown_row ["_law_dice_here", "_law_pairs_here"] []
  f__law_number : FunD K "_law_number" "_law_number" (defArgs s__law_number) (defBody s__law_number) (defScope s__law_number) [] [] A.f__law_number A.d__law_number
  g__law_number : mg "_law_number" = some (.ref A.f__law_number)
  b__law_number : Binds K A.d__law_number ["_law_dice_here"] []
  f__law_product : FunD K "_law_product" "_law_product" (defArgs s__law_product) (defBody s__law_product) (defScope s__law_product) [] [] A.f__law_product A.d__law_product
  g__law_product : mg "_law_product" = some (.ref A.f__law_product)
  b__law_product : Binds K A.d__law_product ["_law_row", "_law_column"] []
  f__law_mix : FunD K "_law_mix" "_law_mix" (defArgs s__law_mix) (defBody s__law_mix) (defScope s__law_mix) [] [] A.f__law_mix A.d__law_mix
  g__law_mix : mg "_law_mix" = some (.ref A.f__law_mix)
  b__law_mix : Binds K A.d__law_mix ["_law_lines_here", "_law_factors"] []
  f__law_lines : FunD K "_law_lines" "_law_lines" (defArgs s__law_lines) (defBody s__law_lines) (defScope s__law_lines) [] [] A.f__law_lines A.d__law_lines
  g__law_lines : mg "_law_lines" = some (.ref A.f__law_lines)
  b__law_lines : Binds K A.d__law_lines ["_law_dice_here", "_law_most", "_law_wide"] []
  f__law_shown_lines : FunD K "_law_shown_lines" "_law_shown_lines" (defArgs s__law_shown_lines) (defBody s__law_shown_lines) (defScope s__law_shown_lines) [] [] A.f__law_shown_lines A.d__law_shown_lines
  g__law_shown_lines : mg "_law_shown_lines" = some (.ref A.f__law_shown_lines)
  b__law_shown_lines : Binds K A.d__law_shown_lines ["_law_dice_here", "_law_lines_here"] []
  f__law_inverse : FunD K "_law_inverse" "_law_inverse" (defArgs s__law_inverse) (defBody s__law_inverse) (defScope s__law_inverse) [] [] A.f__law_inverse A.d__law_inverse
  g__law_inverse : mg "_law_inverse" = some (.ref A.f__law_inverse)
  b__law_inverse : Binds K A.d__law_inverse ["_law_pair_here"] []
  f__law_without : FunD K "_law_without" "_law_without" (defArgs s__law_without) (defBody s__law_without) (defScope s__law_without) [] [] A.f__law_without A.d__law_without
  g__law_without : mg "_law_without" = some (.ref A.f__law_without)
  b__law_without : Binds K A.d__law_without ["_law_row", "_law_line", "_law_place"] []
  f__law_cleared : FunD K "_law_cleared" "_law_cleared" (defArgs s__law_cleared) (defBody s__law_cleared) (defScope s__law_cleared) [] [] A.f__law_cleared A.d__law_cleared
  g__law_cleared : mg "_law_cleared" = some (.ref A.f__law_cleared)
  b__law_cleared : Binds K A.d__law_cleared ["_law_lines_here"] []
  f__law_are_told : FunD K "_law_are_told" "_law_are_told" (defArgs s__law_are_told) (defBody s__law_are_told) (defScope s__law_are_told) [] [] A.f__law_are_told A.d__law_are_told
  g__law_are_told : mg "_law_are_told" = some (.ref A.f__law_are_told)
  b__law_are_told : Binds K A.d__law_are_told ["_law_numbers"] []
  f__law_right : FunD K "_law_right" "_law_right" (defArgs s__law_right) (defBody s__law_right) (defScope s__law_right) [] [] A.f__law_right A.d__law_right
  g__law_right : mg "_law_right" = some (.ref A.f__law_right)
  b__law_right : Binds K A.d__law_right ["_law_dice_here"] []
  f_law : FunD K "law" "law" (defArgs s_law) (defBody s_law) (defScope s_law) [] [] A.f_law A.d_law
  g_law : mg "law" = some (.ref A.f_law)
  b_law : Binds K A.d_law ["_law_script"] []
  bn_Fraction_add : BinC K (cA K 0) "add" A.f_Fraction_add A.f_Fraction_radd
  bn_Fraction_sub : BinC K (cA K 0) "sub" A.f_Fraction_sub A.f_Fraction_rsub
  bn_Fraction_mul : BinC K (cA K 0) "mul" A.f_Fraction_mul A.f_Fraction_rmul
  eq_Fraction : EqC K (cA K 0) A.f_Fraction_eq
  n_isinstance : mg "isinstance" = none
  n_int : mg "int" = none
  n_bool : mg "bool" = none
  n_abs : mg "abs" = none
  n_max : mg "max" = none
  n_min : mg "min" = none
  n_len : mg "len" = none
  n_range : mg "range" = none
  n_tuple : mg "tuple" = none
  n_list : mg "list" = none
  n_zip : mg "zip" = none
  n_enumerate : mg "enumerate" = none
  n_all : mg "all" = none
  g_MAX_ROWS : mg "MAX_ROWS" = some (.int 80 A.u_MAX_ROWS)
  g_MAX_WIDTH : mg "MAX_WIDTH" = some (.int 12 A.u_MAX_WIDTH)
  isB_int : ∀ C ∈ ([0] : List Nat), KCls K (cA K C) ∧ PySem.W.kitOne K (.ref (cA K C)) (.type (BT.int).nm) = some false
  isB_bool : ∀ C ∈ ([0] : List Nat), KCls K (cA K C) ∧ PySem.W.kitOne K (.ref (cA K C)) (.type (BT.bool).nm) = some false
  isB_tuple : ∀ C ∈ ([0] : List Nat), KCls K (cA K C) ∧ PySem.W.kitOne K (.ref (cA K C)) (.type (BT.tup).nm) = some false
  isC_Fraction : ∀ t : BT, PySem.W.kitOne K (.type t.nm) (.ref (cA K 0)) = some false
  isO_Fraction : ∀ C ∈ (([] : List Nat)), KCls K (cA K C) ∧ PySem.W.kitOne K (.ref (cA K C)) (.ref (cA K 0)) = some false
end K04
set_option Elab.async false
set_option linter.all false
set_option maxRecDepth 100000
set_option maxHeartbeats 4000000
namespace K04
open PySem PySem.Spec PyProof.Rows L2 L3
def m_is_integer : M Fl :=
  (mRet (mAndV (mUn (dIsB .int [0]) (mVar 0)) (mNotV (mUn (dIsB .bool [0]) (mVar 0)))))
def g_is_integer : G := fnSem 1 m_is_integer
def m_common_divisor : M Fl :=
  (mSeq (mWhl (fun ρ => gcdFuel ρ 1) (mTest (mOp dNe (mVar 1) (mC (.int 0))))
  (mPar 0 1 (mVar 1) (mOp dMod (mVar 0) (mVar 1))))
  (mRet (mVar 0)))
def g_common_divisor : G := fnSem 2 m_common_divisor
def m_Fraction_init : M Fl :=
  (mSeq (mIfS (mOr (mNot (mTest (mCall 1 g_is_integer [] (mAgs [.d (mVar 1)])))) (mOr (mNot (mTest (mCall 1 g_is_integer [] (mAgs [.d (mVar 2)])))) (mTest (mOp dEq (mVar 2) (mC (.int 0))))))
  mNever
  mSkip)
  (mSeq (mSet (mCall 2 g_common_divisor [] (mAgs [.d (mCB dAbs [(mVar 1)]), .d (mCB dAbs [(mVar 2)])])) (pName 3))
  (mSeq (mSetF 0 0 "own_top" (mOp dFdiv (mIf (mTest (mOp dGt (mVar 2) (mC (.int 0)))) (mVar 1) (mUn dNeg (mVar 1))) (mVar 3)))
  (mSetF 0 0 "own_bottom" (mOp dFdiv (mCB dAbs [(mVar 2)]) (mVar 3))))))
def g_Fraction_init : G := fnSem 4 m_Fraction_init
def m_Fraction_top : M Fl :=
  (mRet (mUn (fldD 0 "own_top") (mVar 0)))
def g_Fraction_top : G := fnSem 1 m_Fraction_top
def m_Fraction_bottom : M Fl :=
  (mRet (mUn (fldD 0 "own_bottom") (mVar 0)))
def g_Fraction_bottom : G := fnSem 1 m_Fraction_bottom
def m_is_fraction : M Fl :=
  (mRet (mOrV (mUn (dIsC 0 []) (mVar 0)) (mCall 1 g_is_integer [] (mAgs [.d (mVar 0)]))))
def g_is_fraction : G := fnSem 1 m_is_fraction
def m_require_fraction : M Fl :=
  (mIfS (mNot (mTest (mCall 1 g_is_fraction [] (mAgs [.d (mVar 0)]))))
  mNever
  mSkip)
def g_require_fraction : G := fnSem 1 m_require_fraction
def m_fraction_of : M Fl :=
  (mRet (mIf (mTest (mUn (dIsC 0 []) (mVar 0))) (mVar 0) (mFrz (mMk 0 3 g_Fraction_init [.int 1] (mAgs [.d (mVar 0)])))))
def g_fraction_of : G := fnSem 1 m_fraction_of
def m_required : M Fl :=
  (mSeq (mDrop (mCall 1 g_require_fraction [] (mAgs [.d (mVar 0)])))
  (mRet (mCall 1 g_fraction_of [] (mAgs [.d (mVar 0)]))))
def g_required : G := fnSem 1 m_required
def m_Fraction_by : M Fl :=
  (mSeq (mSet (mCall 1 g_required [] (mAgs [.d (mVar 1)])) (pName 2))
  (mSeq (mIfS (mTest (mOp dEq (mUn (fldD 0 "own_top") (mVar 2)) (mC (.int 0))))
  mNever
  mSkip)
  (mRet (mFrz (mMk 0 3 g_Fraction_init [] (mAgs [.d (mOp dMul (mUn (fldD 0 "own_top") (mVar 0)) (mUn (fldD 0 "own_bottom") (mVar 2))), .d (mOp dMul (mUn (fldD 0 "own_bottom") (mVar 0)) (mUn (fldD 0 "own_top") (mVar 2)))]))))))
def g_Fraction_by : G := fnSem 3 m_Fraction_by
def m_Fraction_add : M Fl :=
  (mSeq (mSet (mCall 1 g_required [] (mAgs [.d (mVar 1)])) (pName 2))
  (mSeq (mSet (mOp dAdd (mOp dMul (mUn (fldD 0 "own_top") (mVar 0)) (mUn (fldD 0 "own_bottom") (mVar 2))) (mOp dMul (mUn (fldD 0 "own_top") (mVar 2)) (mUn (fldD 0 "own_bottom") (mVar 0)))) (pName 3))
  (mRet (mFrz (mMk 0 3 g_Fraction_init [] (mAgs [.d (mVar 3), .d (mOp dMul (mUn (fldD 0 "own_bottom") (mVar 0)) (mUn (fldD 0 "own_bottom") (mVar 2)))]))))))
def g_Fraction_add : G := fnSem 4 m_Fraction_add
def m_Fraction_radd : M Fl :=
  (mRet (mOpI 0 dAdd g_Fraction_add (fun _ => none) (mVar 0) (mVar 1)))
def g_Fraction_radd : G := fnSem 2 m_Fraction_radd
def m_Fraction_sub : M Fl :=
  (mSeq (mSet (mCall 1 g_required [] (mAgs [.d (mVar 1)])) (pName 2))
  (mSeq (mSet (mOp dSub (mOp dMul (mUn (fldD 0 "own_top") (mVar 0)) (mUn (fldD 0 "own_bottom") (mVar 2))) (mOp dMul (mUn (fldD 0 "own_top") (mVar 2)) (mUn (fldD 0 "own_bottom") (mVar 0)))) (pName 3))
  (mRet (mFrz (mMk 0 3 g_Fraction_init [] (mAgs [.d (mVar 3), .d (mOp dMul (mUn (fldD 0 "own_bottom") (mVar 0)) (mUn (fldD 0 "own_bottom") (mVar 2)))]))))))
def g_Fraction_sub : G := fnSem 4 m_Fraction_sub
def m_Fraction_rsub : M Fl :=
  (mRet (mOpI 0 dSub g_Fraction_sub (fun _ => none) (mCall 1 g_required [] (mAgs [.d (mVar 1)])) (mVar 0)))
def g_Fraction_rsub : G := fnSem 2 m_Fraction_rsub
def m_Fraction_mul : M Fl :=
  (mSeq (mSet (mCall 1 g_required [] (mAgs [.d (mVar 1)])) (pName 2))
  (mRet (mFrz (mMk 0 3 g_Fraction_init [] (mAgs [.d (mOp dMul (mUn (fldD 0 "own_top") (mVar 0)) (mUn (fldD 0 "own_top") (mVar 2))), .d (mOp dMul (mUn (fldD 0 "own_bottom") (mVar 0)) (mUn (fldD 0 "own_bottom") (mVar 2)))])))))
def g_Fraction_mul : G := fnSem 3 m_Fraction_mul
def m_Fraction_rmul : M Fl :=
  (mRet (mOpI 0 dMul g_Fraction_mul (fun _ => none) (mVar 0) (mVar 1)))
def g_Fraction_rmul : G := fnSem 2 m_Fraction_rmul
def m_Fraction_eq : M Fl :=
  (mSeq (mIfS (mTest (mCall 1 g_is_integer [] (mAgs [.d (mVar 1)])))
  (mRet (mAndV (mOp dEq (mUn (fldD 0 "own_bottom") (mVar 0)) (mC (.int 1))) (mOp dEq (mUn (fldD 0 "own_top") (mVar 0)) (mVar 1))))
  mSkip)
  (mRet (mAndV (mUn (dIsC 0 []) (mVar 1)) (mAndV (mOp dEq (mUn (fldD 0 "own_top") (mVar 0)) (mUn (fldD 0 "own_top") (mVar 1))) (mOp dEq (mUn (fldD 0 "own_bottom") (mVar 0)) (mUn (fldD 0 "own_bottom") (mVar 1)))))))
def g_Fraction_eq : G := fnSem 2 m_Fraction_eq
def m_are_fractions : M Fl :=
  (mRet (mAndV (mUn (dIsB .tup [0]) (mVar 0)) (mAndV (mOp dEq (mCB dLen [(mVar 0)]) (mVar 1)) (mCB dAll [(mFrz (mComp [2] (mItems tupD (mVar 0)) (pName 2) mYes (mCall 1 g_is_fraction [] (mAgs [.d (mVar 2)]))))]))))
def g_are_fractions : G := fnSem 3 m_are_fractions
def m_is_rows : M Fl :=
  (mSeq (mIfS (mOr (mNot (mTest (mUn (dIsB .tup [0]) (mVar 0)))) (mNot (mTest (mBoth dLe dLe (mC (.int 1)) (mCB dLen [(mVar 0)]) (mC (.int 80))))))
  (mRet (mC (.bl false)))
  mSkip)
  (mSeq (mIfS (mOr (mNot (mTest (mUn (dIsB .tup [0]) (mOp dIx (mVar 0) (mC (.int 0)))))) (mNot (mTest (mBoth dLe dLe (mC (.int 1)) (mCB dLen [(mOp dIx (mVar 0) (mC (.int 0)))]) (mC (.int 12))))))
  (mRet (mC (.bl false)))
  mSkip)
  (mRet (mCB dAll [(mFrz (mComp [1] (mItems tupD (mVar 0)) (pName 1) mYes (mCall 2 g_are_fractions [] (mAgs [.d (mVar 1), .d (mCB dLen [(mOp dIx (mVar 0) (mC (.int 0)))])]))))]))))
def g_is_rows : G := fnSem 2 m_is_rows
def m_require_rows : M Fl :=
  (mIfS (mNot (mTest (mCall 1 g_is_rows [] (mAgs [.d (mVar 0)]))))
  mNever
  mSkip)
def g_require_rows : G := fnSem 1 m_require_rows
def m_require_fractions : M Fl :=
  (mIfS (mNot (mTest (mCall 2 g_are_fractions [] (mAgs [.d (mVar 0), .d (mVar 1)]))))
  mNever
  mSkip)
def g_require_fractions : G := fnSem 2 m_require_fractions
def m_as_fractions : M Fl :=
  (mRet (mCB dTuple [(mFrz (mComp [1] (mItems tupD (mVar 0)) (pName 1) mYes (mCall 1 g_fraction_of [] (mAgs [.d (mVar 1)]))))]))
def g_as_fractions : G := fnSem 2 m_as_fractions
def m_product_in : M Fl :=
  (mSeq (mSet (mFrz (mMk 0 3 g_Fraction_init [.int 1] (mAgs [.d (mC (.int 0))]))) (pName 2))
  (mSeq (mFor (mItemsN zipS2 [(mVar 0), (mVar 1)]) (pTup [3, 4])
  (mSet (mOpI 0 dAdd g_Fraction_add (fun _ => none) (mVar 2) (mOpI 0 dMul g_Fraction_mul (fun _ => none) (mCall 1 g_fraction_of [] (mAgs [.d (mVar 3)])) (mVar 4))) (pName 2)))
  (mRet (mVar 2))))
def g_product_in : G := fnSem 5 m_product_in
def m_times_in : M Fl :=
  (mRet (mCB dTuple [(mFrz (mComp [2] (mItems tupD (mVar 0)) (pName 2) mYes (mCall 2 g_product_in [] (mAgs [.d (mVar 2), .d (mVar 1)]))))]))
def g_times_in : G := fnSem 3 m_times_in
def m_mix_in : M Fl :=
  (mRet (mCB dTuple [(mFrz (mComp [2] (mItemsN rng1 [(mCB dLen [(mOp dIx (mVar 0) (mC (.int 0)))])]) (pName 2) mYes (mCall 2 g_product_in [] (mAgs [.d (mVar 1), .d (mFrz (mComp [3] (mItems tupD (mVar 0)) (pName 3) mYes (mOp dIx (mVar 3) (mVar 2))))]))))]))
def g_mix_in : G := fnSem 4 m_mix_in
def m_without_line : M Fl :=
  (mRet (mFrz (mComp [3, 4] (mItemsN zipS2 [(mVar 0), (mVar 1)]) (pTup [3, 4]) mYes (mOpI 0 dSub g_Fraction_sub (fun _ => none) (mVar 3) (mOpI 0 dMul g_Fraction_mul (fun _ => none) (mOp dIx (mVar 0) (mVar 2)) (mVar 4))))))
def g_without_line : G := fnSem 5 m_without_line
def m_cleared_in : M Fl :=
  (mSeq (mParOO 1 2 (mComp [6] (mItems tupD (mVar 0)) (pName 6) mYes (mFrz (mLstOf (mCall 1 g_as_fractions [] (mAgs [.d (mVar 6)]))))) (mLst []))
  (mSeq (mFor (mItemsN rng1 [(mCB dLen [(mOp dIx (mVar 0) (mC (.int 0)))])]) (pName 3)
  (mSeq (mSet (mFrz (mCompS 1 (enumD 0) [7, 6] (pTup [7, 6]) (mTest (mEqI 0 true dNe g_Fraction_eq (mOp dIx (mVar 6) (mVar 3)) (mC (.int 0)))) (mVar 7))) (pName 4))
  (mIfS (mTest (mOp dNe (mVar 4) (mFrz (mLst []))))
  (mSeq (mSet (mPopAt 1 (mOp dIx (mVar 4) (mC (.int 0)))) (pName 5))
  (mSeq (mSet (mFrz (mComp [8] (mItems lstD (mVar 5)) (pName 8) mYes (mMth 0 "by" 2 g_Fraction_by [] (.d (mVar 8)) (mAgs [.d (mOp dIx (mVar 5) (mVar 3))])))) (pName 5))
  (mSeq (mSetO 1 (mComp [6] (mItems lstD (mDat 1)) (pName 6) mYes (mCall 3 g_without_line [] (mAgs [.d (mVar 6), .d (mVar 5), .d (mVar 3)]))))
  (mSeq (mSetO 2 (mComp [6] (mItems lstD (mDat 2)) (pName 6) mYes (mCall 3 g_without_line [] (mAgs [.d (mVar 6), .d (mVar 5), .d (mVar 3)]))))
  (mApp 2 (mVar 5))))))
  mSkip)))
  (mRet (mCB dTuple [(mFrz (mComp [6] (mItems lstD (mDat 2)) (pName 6) mYes (mCB dTuple [(mVar 6)])))]))))
def g_cleared_in : G := fnSem 9 m_cleared_in
def m_times_of : M Fl :=
  (mSeq (mDrop (mCall 1 g_require_rows [] (mAgs [.d (mVar 0)])))
  (mSeq (mDrop (mCall 2 g_require_fractions [] (mAgs [.d (mVar 1), .d (mCB dLen [(mOp dIx (mVar 0) (mC (.int 0)))])])))
  (mRet (mCall 2 g_times_in [] (mAgs [.d (mVar 0), .d (mVar 1)])))))
def g_times_of : G := fnSem 2 m_times_of
def m_mix_of : M Fl :=
  (mSeq (mDrop (mCall 1 g_require_rows [] (mAgs [.d (mVar 0)])))
  (mSeq (mDrop (mCall 2 g_require_fractions [] (mAgs [.d (mVar 1), .d (mCB dLen [(mVar 0)])])))
  (mRet (mCall 2 g_mix_in [] (mAgs [.d (mVar 0), .d (mVar 1)])))))
def g_mix_of : G := fnSem 2 m_mix_of
def m_cleared : M Fl :=
  (mSeq (mDrop (mCall 1 g_require_rows [] (mAgs [.d (mVar 0)])))
  (mRet (mCall 1 g_cleared_in [] (mAgs [.d (mVar 0)]))))
def g_cleared : G := fnSem 1 m_cleared
def m__law_dice : M Fl :=
  (mSeq (mSet (mOp dAdd (mOp dMul (mC (.int 29)) (mVar 1)) (mC (.int 7))) (pName 2))
  (mSeq (mIfS (mTest (mOp dLt (mVar 1) (mCB dLen [(mVar 0)])))
  (mSet (mOp dIx (mVar 0) (mVar 1)) (pName 2))
  mSkip)
  (mSeq (mSet (mOp dMod (mCB dInt [(mCB dAbs [(mVar 2)])]) (mOp dPow (mOp dPow (mC (.int 10)) (mC (.int 60))) (mC (.int 10)))) (pName 3))
  (mSeq (mSet (mOp dAdd (mOp dAdd (mOp dAdd (mOp dMul (mOp dMod (mCB dInt [(mVar 3)]) (mC (.int 2147483549))) (mC (.int 51001))) (mOp dMul (mC (.int 4099)) (mVar 1))) (mOp dMul (mC (.int 17)) (mCB dInt [(mOp dLt (mVar 2) (mC (.int 0)))]))) (mC (.int 41))) (pName 4))
  (mRetO (mLst [(mCB dMax2 [(mC (.int 0)), (mOp dSub (mVar 3) (mOp dPow (mC (.int 10)) (mC (.int 18))))]), (mOp dMod (mCB dInt [(mVar 4)]) (mC (.int 2147483543))), (mC (.int 0))]))))))
def g__law_dice : G := fnSem 5 m__law_dice
def m__law_roll : M Fl :=
  (mSeq (mIfS (mTest (mOp dGt (mIxS 0 (mC (.int 0))) (mC (.int 0))))
  (mSeq (mSet (mOp dMod (mCB dInt [(mIxS 0 (mC (.int 0)))]) (mVar 1)) (pName 2))
  (mSeq (mSetIx 0 (mC (.int 0)) (mOp dFdiv (mIxS 0 (mC (.int 0))) (mVar 1)))
  (mRet (mVar 2))))
  mSkip)
  (mSeq (mSetIx 0 (mC (.int 2)) (mOp dAdd (mIxS 0 (mC (.int 2))) (mC (.int 1))))
  (mSeq (mSet (mOp dMod (mCB dInt [(mOp dAdd (mIxS 0 (mC (.int 1))) (mOp dMul (mC (.int 1000193)) (mIxS 0 (mC (.int 2)))))]) (mC (.int 2305843009213693951))) (pName 3))
  (mSeq (mSet (mOp dAdd (mOp dMul (mOp dMod (mCB dInt [(mOp dMul (mVar 3) (mVar 3))]) (mC (.int 2305843009213693921))) (mVar 3)) (mOp dMul (mC (.int 8221)) (mIxS 0 (mC (.int 2))))) (pName 4))
  (mSeq (mSet (mOp dMod (mCB dInt [(mVar 4)]) (mC (.int 2305843009213693907))) (pName 4))
  (mRet (mOp dMod (mCB dInt [(mOp dFdiv (mVar 4) (mC (.int 8192)))]) (mVar 1))))))))
def g__law_roll : G := fnSem 5 m__law_roll
def m__law_one_of : M Fl :=
  (mRet (mOp dIx (mVar 1) (mCall 2 g__law_roll [] (mAgs [.s 0, .d (mCB dLen [(mVar 1)])]))))
def g__law_one_of : G := fnSem 2 m__law_one_of
def m__law_one_of__io : M Fl :=
  (mRet (mIxS 1 (mCall 2 g__law_roll [] (mAgs [.s 0, .d (mLenS 1)]))))
def g__law_one_of__io : G := fnSem 2 m__law_one_of__io
def m__law_gcd : M Fl :=
  (mSeq (mWhl (fun ρ => gcdFuel ρ 1) (mTest (mOp dGt (mVar 1) (mC (.int 0))))
  (mPar 0 1 (mVar 1) (mOp dMod (mCB dInt [(mVar 0)]) (mVar 1))))
  (mRet (mVar 0)))
def g__law_gcd : G := fnSem 2 m__law_gcd
def m__law_ratio : M Fl :=
  (mSeq (mSet (mCall 2 g__law_gcd [] (mAgs [.d (mCB dAbs [(mVar 0)]), .d (mVar 1)])) (pName 2))
  (mRet (mTup [(mOp dFdiv (mVar 0) (mVar 2)), (mOp dFdiv (mVar 1) (mVar 2))])))
def g__law_ratio : G := fnSem 3 m__law_ratio
def m__law_plus : M Fl :=
  (mRet (mCall 2 g__law_ratio [] (mAgs [.d (mOp dAdd (mOp dMul (mOp dIx (mVar 0) (mC (.int 0))) (mOp dIx (mVar 1) (mC (.int 1)))) (mOp dMul (mOp dIx (mVar 1) (mC (.int 0))) (mOp dIx (mVar 0) (mC (.int 1))))), .d (mOp dMul (mOp dIx (mVar 0) (mC (.int 1))) (mOp dIx (mVar 1) (mC (.int 1))))])))
def g__law_plus : G := fnSem 2 m__law_plus
def m__law_by : M Fl :=
  (mRet (mCall 2 g__law_ratio [] (mAgs [.d (mOp dMul (mOp dIx (mVar 0) (mC (.int 0))) (mOp dIx (mVar 1) (mC (.int 0)))), .d (mOp dMul (mOp dIx (mVar 0) (mC (.int 1))) (mOp dIx (mVar 1) (mC (.int 1))))])))
def g__law_by : G := fnSem 2 m__law_by
def m__law_pair : M Fl :=
  (mRet (mIf (mTest (mUn (dIsB .int [0]) (mVar 0))) (mTup [(mVar 0), (mC (.int 1))]) (mTup [(mProp 0 g_Fraction_top (mVar 0)), (mProp 0 g_Fraction_bottom (mVar 0))])))
def g__law_pair : G := fnSem 1 m__law_pair
def m__law_pairs : M Fl :=
  (mRet (mFrz (mComp [1] (mItems tupD (mVar 0)) (pName 1) mYes (mCall 1 g__law_pair [] (mAgs [.d (mVar 1)])))))
def g__law_pairs : G := fnSem 2 m__law_pairs
def m__law_shown : M Fl :=
  (mSeq (mIfS (mAnd (mTest (mOp dEq (mOp dIx (mVar 1) (mC (.int 1))) (mC (.int 1)))) (mTest (mOp dEq (mCall 2 g__law_roll [] (mAgs [.s 0, .d (mC (.int 2))])) (mC (.int 0)))))
  (mRet (mOp dIx (mVar 1) (mC (.int 0))))
  mSkip)
  (mRet (mFrz (mMk 0 3 g_Fraction_init [] (mAgs [.d (mOp dIx (mVar 1) (mC (.int 0))), .d (mOp dIx (mVar 1) (mC (.int 1)))])))))
def g__law_shown : G := fnSem 2 m__law_shown
def m__law_shown_row : M Fl :=
  (mRet (mCB dTuple [(mFrz (mComp [2] (mItems lstD (mVar 1)) (pName 2) mYes (mCall 2 g__law_shown [] (mAgs [.s 0, .d (mVar 2)]))))]))
def g__law_shown_row : G := fnSem 3 m__law_shown_row
def m__law_number : M Fl :=
  (mRet (mCall 2 g__law_ratio [] (mAgs [.d (mCall 2 g__law_one_of [] (mAgs [.s 0, .d (mFrz (mLst [(mC (.int 0)), (mC (.int 0)), (mC (.int 1)), (mC (.int 1)), (mC (.int 2)), (mC (.int 3)), (mC (.int 5)), (mUn dNeg (mC (.int 1))), (mUn dNeg (mC (.int 1))), (mUn dNeg (mC (.int 2))), (mUn dNeg (mC (.int 7)))]))])), .d (mCall 2 g__law_one_of [] (mAgs [.s 0, .d (mFrz (mLst [(mC (.int 1)), (mC (.int 1)), (mC (.int 1)), (mC (.int 2)), (mC (.int 3)), (mC (.int 4))]))]))])))
def g__law_number : G := fnSem 1 m__law_number
def m__law_product : M Fl :=
  (mSeq (mSet (mTup [(mC (.int 0)), (mC (.int 1))]) (pName 2))
  (mSeq (mFor (mItemsN zip2 [(mVar 0), (mVar 1)]) (pTup [3, 4])
  (mSet (mCall 2 g__law_plus [] (mAgs [.d (mVar 2), .d (mCall 2 g__law_by [] (mAgs [.d (mVar 3), .d (mVar 4)]))])) (pName 2)))
  (mRet (mVar 2))))
def g__law_product : G := fnSem 5 m__law_product
def m__law_mix : M Fl :=
  (mRet (mFrz (mComp [2] (mItemsN rng1 [(mCB dLen [(mOp dIx (mVar 0) (mC (.int 0)))])]) (pName 2) mYes (mCall 2 g__law_product [] (mAgs [.d (mFrz (mComp [3] (mItems lstD (mVar 0)) (pName 3) mYes (mOp dIx (mVar 3) (mVar 2)))), .d (mVar 1)])))))
def g__law_mix : G := fnSem 4 m__law_mix
def m__law_lines : M Fl :=
  (mSeq (mParDO 3 4 (mOp dAdd (mC (.int 1)) (mCall 2 g__law_roll [] (mAgs [.s 0, .d (mVar 2)]))) (mLst []))
  (mSeq (mFor (mItemsN rng1 [(mOp dAdd (mC (.int 1)) (mCall 2 g__law_roll [] (mAgs [.s 0, .d (mVar 1)])))]) (pName 5)
  (mSeq (mPar 6 7 (mCall 2 g__law_roll [] (mAgs [.s 0, .d (mC (.int 6))])) (mFrz (mComp [8] (mItemsN rng1 [(mVar 3)]) (pName 8) mYes (mCall 1 g__law_number [] (mAgs [.s 0])))))
  (mSeq (mIfS (mAnd (mTest (mOp dEq (mVar 6) (mC (.int 0)))) (mTest (mNe0 4)))
  (mSet (mFrz (mComp [9] (mItems lstD (mCall 2 g__law_one_of__io [] (mAgs [.s 0, .s 4]))) (pName 9) mYes (mCall 2 g__law_by [] (mAgs [.d (mTup [(mC (.int 2)), (mC (.int 1))]), .d (mVar 9)])))) (pName 7))
  mSkip)
  (mSeq (mIfS (mAnd (mTest (mOp dEq (mVar 6) (mC (.int 1)))) (mTest (mOp dGt (mLenS 4) (mC (.int 1)))))
  (mSet (mFrz (mComp [9, 10] (mItemsN zip2 [(mIxS 4 (mC (.int 0))), (mIxS 4 (mUn dNeg (mC (.int 1))))]) (pTup [9, 10]) mYes (mCall 2 g__law_plus [] (mAgs [.d (mVar 9), .d (mVar 10)])))) (pName 7))
  mSkip)
  (mSeq (mIfS (mTest (mOp dEq (mVar 6) (mC (.int 2))))
  (mSet (mOp dMul (mFrz (mLst [(mTup [(mC (.int 0)), (mC (.int 1))])])) (mVar 3)) (pName 7))
  mSkip)
  (mApp 4 (mVar 7)))))))
  (mRet (mDat 4))))
def g__law_lines : G := fnSem 11 m__law_lines
def m__law_shown_lines : M Fl :=
  (mRet (mCB dTuple [(mFrz (mComp [2] (mItems lstD (mVar 1)) (pName 2) mYes (mCall 2 g__law_shown_row [] (mAgs [.s 0, .d (mVar 2)]))))]))
def g__law_shown_lines : G := fnSem 3 m__law_shown_lines
def m__law_inverse : M Fl :=
  (mRet (mIf (mTest (mOp dGt (mOp dIx (mVar 0) (mC (.int 0))) (mC (.int 0)))) (mTup [(mOp dIx (mVar 0) (mC (.int 1))), (mOp dIx (mVar 0) (mC (.int 0)))]) (mTup [(mOp dSub (mC (.int 0)) (mOp dIx (mVar 0) (mC (.int 1)))), (mOp dSub (mC (.int 0)) (mOp dIx (mVar 0) (mC (.int 0))))])))
def g__law_inverse : G := fnSem 1 m__law_inverse
def m__law_without : M Fl :=
  (mSeq (mSet (mTup [(mOp dSub (mC (.int 0)) (mOp dIx (mOp dIx (mVar 0) (mVar 2)) (mC (.int 0)))), (mOp dIx (mOp dIx (mVar 0) (mVar 2)) (mC (.int 1)))]) (pName 3))
  (mRet (mFrz (mComp [4, 5] (mItemsN zip2 [(mVar 0), (mVar 1)]) (pTup [4, 5]) mYes (mCall 2 g__law_plus [] (mAgs [.d (mVar 4), .d (mCall 2 g__law_by [] (mAgs [.d (mVar 3), .d (mVar 5)]))]))))))
def g__law_without : G := fnSem 6 m__law_without
def m__law_cleared : M Fl :=
  (mSeq (mParOD 1 2 (mComp [7] (mItems lstD (mVar 0)) (pName 7) mYes (mFrz (mLstOf (mVar 7)))) (mFrz (mLst [])))
  (mSeq (mFor (mItemsN rng1 [(mCB dLen [(mOp dIx (mVar 0) (mC (.int 0)))])]) (pName 3)
  (mSeq (mSet (mFrz (mCompS 1 (enumD 0) [8, 7] (pTup [8, 7]) (mTest (mOp dNe (mOp dIx (mOp dIx (mVar 7) (mVar 3)) (mC (.int 0))) (mC (.int 0)))) (mVar 8))) (pName 4))
  (mIfS (mTest (mOp dNe (mVar 4) (mFrz (mLst []))))
  (mSeq (mSet (mPopAt 1 (mOp dIx (mVar 4) (mC (.int 0)))) (pName 5))
  (mSeq (mSet (mCall 1 g__law_inverse [] (mAgs [.d (mOp dIx (mVar 5) (mVar 3))])) (pName 6))
  (mSeq (mSet (mFrz (mComp [9] (mItems lstD (mVar 5)) (pName 9) mYes (mCall 2 g__law_by [] (mAgs [.d (mVar 6), .d (mVar 9)])))) (pName 5))
  (mSeq (mSetO 1 (mComp [7] (mItems lstD (mDat 1)) (pName 7) mYes (mCall 3 g__law_without [] (mAgs [.d (mVar 7), .d (mVar 5), .d (mVar 3)]))))
  (mSet (mOp dAdd (mFrz (mComp [7] (mItems lstD (mVar 2)) (pName 7) mYes (mCall 3 g__law_without [] (mAgs [.d (mVar 7), .d (mVar 5), .d (mVar 3)])))) (mFrz (mLst [(mVar 5)]))) (pName 2))))))
  mSkip)))
  (mRet (mVar 2))))
def g__law_cleared : G := fnSem 10 m__law_cleared
def m__law_are_told : M Fl :=
  (mRet (mOp dEq (mFrz (mComp [1] (mItems tupD (mVar 0)) (pName 1) (mNot (mTest (mUn (dIsC 0 []) (mVar 1)))) (mC (.int 1)))) (mFrz (mLst []))))
def g__law_are_told : G := fnSem 2 m__law_are_told
def m__law_right : M Fl :=
  (mSeq (mSet (mCall 3 g__law_lines [] (mAgs [.s 0, .d (mC (.int 5)), .d (mC (.int 4))])) (pName 1))
  (mSeq (mPar 2 3 (mCall 2 g__law_shown_lines [] (mAgs [.s 0, .d (mVar 1)])) (mFrz (mComp [9] (mItems lstD (mVar 1)) (pName 9) mYes (mFrz (mLstOf (mVar 9))))))
  (mSeq (mSet (mTup [(mFrz (mComp [10] (mItems lstD (mOp dIx (mVar 1) (mC (.int 0)))) (pName 10) mYes (mCall 1 g__law_number [] (mAgs [.s 0])))), (mFrz (mComp [9] (mItems lstD (mVar 1)) (pName 9) mYes (mCall 1 g__law_number [] (mAgs [.s 0]))))]) (pTup [4, 5]))
  (mSeq (mSet (mCall 2 g_times_of [] (mAgs [.d (mVar 2), .d (mCall 2 g__law_shown_row [] (mAgs [.s 0, .d (mVar 4)]))])) (pName 6))
  (mSeq (mIfS (mOr (mTest (mOp dIsNBl (mCall 1 g_is_rows [] (mAgs [.d (mVar 2)])) (mC (.bl true)))) (mTest (mOp dNe (mCall 1 g__law_pairs [] (mAgs [.d (mVar 6)])) (mFrz (mComp [9] (mItems lstD (mVar 1)) (pName 9) mYes (mCall 2 g__law_product [] (mAgs [.d (mVar 9), .d (mVar 4)])))))))
  (mRet (mC (.bl false)))
  mSkip)
  (mSeq (mSet (mCall 2 g_mix_of [] (mAgs [.d (mVar 2), .d (mCall 2 g__law_shown_row [] (mAgs [.s 0, .d (mVar 5)]))])) (pName 7))
  (mSeq (mIfS (mOr (mTest (mOp dNe (mCall 1 g__law_pairs [] (mAgs [.d (mVar 7)])) (mCall 2 g__law_mix [] (mAgs [.d (mVar 1), .d (mVar 5)])))) (mNot (mTest (mCall 1 g__law_are_told [] (mAgs [.d (mOp dCatT (mVar 6) (mVar 7))])))))
  (mRet (mC (.bl false)))
  mSkip)
  (mSeq (mSet (mCall 1 g_cleared [] (mAgs [.d (mVar 2)])) (pName 8))
  (mSeq (mIfS (mTest (mOp dNe (mFrz (mComp [11] (mItems tupD (mVar 8)) (pName 11) mYes (mCall 1 g__law_pairs [] (mAgs [.d (mVar 11)])))) (mCall 1 g__law_cleared [] (mAgs [.d (mVar 1)]))))
  (mRet (mC (.bl false)))
  mSkip)
  (mSeq (mIfS (mOr (mTest (mOp dNe (mFrz (mComp [11] (mItems tupD (mVar 8)) (pName 11) (mNot (mTest (mCall 1 g__law_are_told [] (mAgs [.d (mVar 11)])))) (mC (.int 1)))) (mFrz (mLst [])))) (mAnd (mTest (mOp dNe0T (mVar 8) (mTup []))) (mTest (mOp (dSure 0 g_Fraction_eq true 1) (mCall 1 g_cleared [] (mAgs [.d (mVar 8)])) (mVar 8)))))
  (mRet (mC (.bl false)))
  mSkip)
  (mRet (mOp dEq (mFrz (mComp [11] (mItems tupD (mVar 2)) (pName 11) mYes (mCall 1 g__law_pairs [] (mAgs [.d (mVar 11)])))) (mVar 3)))))))))))))
def g__law_right : G := fnSem 12 m__law_right
def m_law : M Fl :=
  (mSeq (mFor (mItemsN rng1 [(mCB dMax2 [(mC (.int 1)), (mCB dMin2 [(mC (.int 6)), (mCB dLen [(mVar 0)])])])]) (pName 1)
  (mSeq (mSetO 2 (mCallO 2 g__law_dice [] (mAgs [.d (mVar 0), .d (mVar 1)])))
  (mFor (mItemsN rng1 [(mC (.int 8))]) (pName 3)
  (mIfS (mNot (mTest (mCall 1 g__law_right [] (mAgs [.s 2]))))
  (mRet (mC (.bl false)))
  mSkip))))
  (mSeq (mSet (mFrz (mMk 0 3 g_Fraction_init [] (mAgs [.d (mC (.int 1)), .d (mC (.int 2))]))) (pName 4))
  (mSeq (mSetO 5 (mLst [(mOp (dSure 0 g_Fraction_eq false 1) (mCall 2 g_times_of [] (mAgs [.d (mTup [(mTup [(mC (.int 1)), (mC (.int 2))]), (mTup [(mVar 4), (mC (.int 0))])]), .d (mTup [(mC (.int 4)), (mC (.int 1))])])) (mTup [(mC (.int 6)), (mC (.int 2))])), (mOp (dSure 0 g_Fraction_eq false 1) (mCall 2 g_mix_of [] (mAgs [.d (mTup [(mTup [(mC (.int 1)), (mC (.int 2))]), (mTup [(mVar 4), (mC (.int 0))])]), .d (mTup [(mC (.int 1)), (mC (.int 4))])])) (mTup [(mC (.int 3)), (mC (.int 2))]))]))
  (mSeq (mSetO 5 (mCatO (mDat 5) (mFrz (mLst [(mOp (dSure 0 g_Fraction_eq false 1) (mCall 1 g_cleared [] (mAgs [.d (mTup [(mTup [(mC (.int 2)), (mC (.int 4))]), (mTup [(mC (.int 0)), (mC (.int 0))])])])) (mTup [(mTup [(mC (.int 1)), (mC (.int 2))])])), (mOp dEq0 (mCall 1 g_cleared [] (mAgs [.d (mTup [(mTup [(mC (.int 0)), (mC (.int 0))])])])) (mTup []))]))))
  (mSeq (mApp 5 (mOp (dSure 0 g_Fraction_eq false 1) (mCall 1 g_cleared [] (mAgs [.d (mTup [(mTup [(mC (.int 0)), (mC (.int 3)), (mVar 4)])])])) (mTup [(mTup [(mC (.int 0)), (mC (.int 1)), (mFrz (mMk 0 3 g_Fraction_init [] (mAgs [.d (mC (.int 1)), .d (mC (.int 6))])))])])))
  (mSeq (mApp 5 (mOp (dSure 0 g_Fraction_eq false 1) (mCall 1 g_cleared [] (mAgs [.d (mTup [(mTup [(mC (.int 0)), (mC (.int 2))]), (mTup [(mC (.int 3)), (mC (.int 1))]), (mTup [(mC (.int 3)), (mC (.int 3))])])])) (mTup [(mTup [(mC (.int 1)), (mC (.int 0))]), (mTup [(mC (.int 0)), (mC (.int 1))])])))
  (mSeq (mPar 6 7 (mTup [(mOp dRepT (mTup [(mC (.int 1))]) (mC (.int 12)))]) (mCB dTuple [(mFrz (mComp [1] (mItemsN rng1 [(mC (.int 80))]) (pName 1) mYes (mTup [(mVar 1), (mOp dSub (mC (.int 0)) (mVar 1))])))]))
  (mSeq (mSetO 5 (mCatO (mDat 5) (mFrz (mLst [(mCall 1 g_is_rows [] (mAgs [.d (mVar 6)])), (mCall 1 g_is_rows [] (mAgs [.d (mVar 7)])), (mOp (dSure 0 g_Fraction_eq false 1) (mCall 2 g_times_of [] (mAgs [.d (mVar 6), .d (mTupRg (mC (.int 12)))])) (mTup [(mC (.int 66))]))]))))
  (mSeq (mSetO 5 (mCatO (mDat 5) (mFrz (mLst [(mOp (dSure 0 g_Fraction_eq false 1) (mCall 1 g_cleared [] (mAgs [.d (mVar 7)])) (mTup [(mTup [(mC (.int 1)), (mUn dNeg (mC (.int 1)))])])), (mOp (dSure 0 g_Fraction_eq false 1) (mCall 2 g_mix_of [] (mAgs [.d (mVar 7), .d (mOp dRepT (mTup [(mC (.int 1))]) (mC (.int 80)))])) (mTup [(mC (.int 3160)), (mUn dNeg (mC (.int 3160)))]))]))))
  (mRet (mAndV (mOp dEq (mDat 5) (mOp dMul (mFrz (mLst [(mC (.bl true))])) (mC (.int 11)))) (mOp dEq (mTup [(mC (.int 80)), (mC (.int 12))]) (mTup [(mC (.int 80)), (mC (.int 12))])))))))))))))
def g_law : G := fnSem 8 m_law
end K04
set_option Elab.async false
set_option linter.all false
set_option maxRecDepth 100000
set_option maxHeartbeats 4000000
namespace K04
open PySem PySem.Spec PyProof.Rows L2 L3
theorem sc_is_integer : FnScope ["value"] ["value"] (defScope s_is_integer) := ⟨rfl, rfl, rfl, by decide +kernel, rfl, by decide +kernel, by decide +kernel⟩
theorem ok_is_integer {P : Program} {w : World} {K : PySem.W.Frag} {mg : Str → Option Value} {base : Heap} {A : Ad} (T : Txt K mg A) : FnG P w K mg base 1 A.f_is_integer A.d_is_integer ["value"] (spG K 1 g_is_integer) := by
  refine fng_sem (k := 0) T.f_is_integer sc_is_integer fun cdv Ar outer s H E hG hr => ?_
  unfold m_is_integer
  exact (psm_one (psm_ret (pem_and (pem_isB .int [0] T.isB_int (pe_bltn (by rfl) T.n_int (by decide +kernel) rfl) (pem_var 0) (fun a => pe_callB call_isi (by rfl) T.n_isinstance (by decide +kernel) a)) (pem_one (pem_not (pem_isB .bool [0] T.isB_bool (pe_bltn (by rfl) T.n_bool (by decide +kernel) rfl) (pem_var 0) (fun a => pe_callB call_isi (by rfl) T.n_isinstance (by decide +kernel) a)))))))

theorem sc_common_divisor : FnScope ["number", "other"] ["number", "other"] (defScope s_common_divisor) := ⟨rfl, rfl, rfl, by decide +kernel, rfl, by decide +kernel, by decide +kernel⟩
theorem ok_common_divisor {P : Program} {w : World} {K : PySem.W.Frag} {mg : Str → Option Value} {base : Heap} {A : Ad} (T : Txt K mg A) : FnG P w K mg base 1 A.f_common_divisor A.d_common_divisor ["number", "other"] (spG K 2 g_common_divisor) := by
  refine fng_sem (k := 0) T.f_common_divisor sc_common_divisor fun cdv Ar outer s H E hG hr => ?_
  unfold m_common_divisor
  exact (psm_cons (psm_while (fun ρ => gcdFuel ρ 1) (passes_of rfl) (ptm_cmp (fun a b => pt_cmpR (op_neP hr.units) a b (nomark _)) s_ne (pem_var 1) (pem_c pe_int fun _ => .int _))
  (psm_one (psm_par 0 1 rfl sc_common_divisor.nd (by decide) (pem_var 1) (pem_op (fun a b => pe_op op_modN a b) s_mod (pem_var 0) (pem_var 1)))))
  (psm_one (psm_ret (pem_var 0))))

theorem sc_Fraction_init : FnScope ["self", "top", "bottom", "common"] ["self", "top", "bottom"] (defScope s_Fraction_init) := ⟨rfl, rfl, rfl, by decide +kernel, rfl, by decide +kernel, by decide +kernel⟩
theorem ok_Fraction_init {P : Program} {w : World} {K : PySem.W.Frag} {mg : Str → Option Value} {base : Heap} {A : Ad} (T : Txt K mg A) : FnG P w K mg base 2 A.f_Fraction_init A.d_Fraction_init ["self", "top", "bottom"] (spG K 3 g_Fraction_init) := by
  refine fng_sem (k := 1) T.f_Fraction_init sc_Fraction_init fun cdv Ar outer s H E hG hr => ?_
  unfold m_Fraction_init
  exact (psm_cons (psm_if (pwm_pt (pwm_or (ptm_not (ptm_val (pem_call (ps := ["value"]) (g := g_is_integer) (dds := []) (ok_is_integer T) hG (hr.mono (by decide)) (by rfl) T.g_is_integer T.f_is_integer.kp T.b_is_integer .nil (fun _ => .nil) (takes_of rfl rfl rfl rfl) (pgm_d (pem_var 1) pgm_nil)))) (pwm_or (ptm_not (ptm_val (pem_call (ps := ["value"]) (g := g_is_integer) (dds := []) (ok_is_integer T) hG (hr.mono (by decide)) (by rfl) T.g_is_integer T.f_is_integer.kp T.b_is_integer .nil (fun _ => .nil) (takes_of rfl rfl rfl rfl) (pgm_d (pem_var 2) pgm_nil)))) (pwm_or1 (ptm_cmp (fun a b => pt_cmpR (op_eqP hr.units) a b (nomark _)) s_eq (pem_var 2) (pem_c pe_int fun _ => .int _))))))
  (psm_one psm_never)
  psm_nil)
  (psm_cons (psm_set (pem_call (ps := ["number", "other"]) (g := g_common_divisor) (dds := []) (ok_common_divisor T) hG (hr.mono (by decide)) (by rfl) T.g_common_divisor T.f_common_divisor.kp T.b_common_divisor .nil (fun _ => .nil) (takes_of rfl rfl rfl rfl) (pgm_d (pem_cb (fun a => pe_callB call_abs (by rfl) T.n_abs (by decide +kernel) a) s_abs (pam_cons (pem_var 1) pam_nil)) (pgm_d (pem_cb (fun a => pe_callB call_abs (by rfl) T.n_abs (by decide +kernel) a) s_abs (pam_cons (pem_var 2) pam_nil)) pgm_nil))) (pgt_name 3 sc_Fraction_init.nd))
  (psm_cons (psm_fld 0 T.cl_Fraction.cl T.na_Fraction_own_top (pem_op (fun a b => pe_op op_divW a b) s_fdiv (pem_if (ptm_cmp (fun a b => pt_cmpR op_gt a b (nomark _)) s_gt (pem_var 2) (pem_c pe_int fun _ => .int _)) (pem_var 1) (pem_un (fun a => pe_un un_neg a) s_neg (pem_var 1))) (pem_var 3)))
  (psm_one (psm_fld 0 T.cl_Fraction.cl T.na_Fraction_own_bottom (pem_op (fun a b => pe_op op_divW a b) s_fdiv (pem_cb (fun a => pe_callB call_abs (by rfl) T.n_abs (by decide +kernel) a) s_abs (pam_cons (pem_var 2) pam_nil)) (pem_var 3)))))))

theorem sc_Fraction_top : FnScope ["self"] ["self"] (defScope s_Fraction_top) := ⟨rfl, rfl, rfl, by decide +kernel, rfl, by decide +kernel, by decide +kernel⟩
theorem ok_Fraction_top {P : Program} {w : World} {K : PySem.W.Frag} {mg : Str → Option Value} {base : Heap} {A : Ad} (T : Txt K mg A) : FnG P w K mg base 1 A.f_Fraction_top A.d_Fraction_top ["self"] (spG K 1 g_Fraction_top) := by
  refine fng_sem (k := 0) T.f_Fraction_top sc_Fraction_top fun cdv Ar outer s H E hG hr => ?_
  unfold m_Fraction_top
  exact (psm_one (psm_ret (pem_fld T.cl_Fraction.cl T.na_Fraction_own_top (pem_var 0))))

theorem sc_Fraction_bottom : FnScope ["self"] ["self"] (defScope s_Fraction_bottom) := ⟨rfl, rfl, rfl, by decide +kernel, rfl, by decide +kernel, by decide +kernel⟩
theorem ok_Fraction_bottom {P : Program} {w : World} {K : PySem.W.Frag} {mg : Str → Option Value} {base : Heap} {A : Ad} (T : Txt K mg A) : FnG P w K mg base 1 A.f_Fraction_bottom A.d_Fraction_bottom ["self"] (spG K 1 g_Fraction_bottom) := by
  refine fng_sem (k := 0) T.f_Fraction_bottom sc_Fraction_bottom fun cdv Ar outer s H E hG hr => ?_
  unfold m_Fraction_bottom
  exact (psm_one (psm_ret (pem_fld T.cl_Fraction.cl T.na_Fraction_own_bottom (pem_var 0))))

theorem sc_is_fraction : FnScope ["value"] ["value"] (defScope s_is_fraction) := ⟨rfl, rfl, rfl, by decide +kernel, rfl, by decide +kernel, by decide +kernel⟩
theorem ok_is_fraction {P : Program} {w : World} {K : PySem.W.Frag} {mg : Str → Option Value} {base : Heap} {A : Ad} (T : Txt K mg A) : FnG P w K mg base 2 A.f_is_fraction A.d_is_fraction ["value"] (spG K 1 g_is_fraction) := by
  refine fng_sem (k := 1) T.f_is_fraction sc_is_fraction fun cdv Ar outer s H E hG hr => ?_
  unfold m_is_fraction
  exact (psm_one (psm_ret (pem_or (pem_isC 0 [] T.cl_Fraction T.isC_Fraction T.isO_Fraction (pe_glob rfl T.g_Fraction rfl) (pem_var 0) (fun a => pe_callB call_isi (by rfl) T.n_isinstance (by decide +kernel) a)) (pem_one (pem_call (ps := ["value"]) (g := g_is_integer) (dds := []) (ok_is_integer T) hG (hr.mono (by decide)) (by rfl) T.g_is_integer T.f_is_integer.kp T.b_is_integer .nil (fun _ => .nil) (takes_of rfl rfl rfl rfl) (pgm_d (pem_var 0) pgm_nil))))))

theorem sc_require_fraction : FnScope ["value"] ["value"] (defScope s_require_fraction) := ⟨rfl, rfl, rfl, by decide +kernel, rfl, by decide +kernel, by decide +kernel⟩
theorem ok_require_fraction {P : Program} {w : World} {K : PySem.W.Frag} {mg : Str → Option Value} {base : Heap} {A : Ad} (T : Txt K mg A) : FnG P w K mg base 3 A.f_require_fraction A.d_require_fraction ["value"] (spG K 1 g_require_fraction) := by
  refine fng_sem (k := 2) T.f_require_fraction sc_require_fraction fun cdv Ar outer s H E hG hr => ?_
  unfold m_require_fraction
  exact (psm_one (psm_if (ptm_not (ptm_val (pem_call (ps := ["value"]) (g := g_is_fraction) (dds := []) (ok_is_fraction T) hG (hr.mono (by decide)) (by rfl) T.g_is_fraction T.f_is_fraction.kp T.b_is_fraction .nil (fun _ => .nil) (takes_of rfl rfl rfl rfl) (pgm_d (pem_var 0) pgm_nil))))
  (psm_one psm_never)
  psm_nil))

theorem sc_fraction_of : FnScope ["value"] ["value"] (defScope s_fraction_of) := ⟨rfl, rfl, rfl, by decide +kernel, rfl, by decide +kernel, by decide +kernel⟩
theorem ok_fraction_of {P : Program} {w : World} {K : PySem.W.Frag} {mg : Str → Option Value} {base : Heap} {A : Ad} (T : Txt K mg A) : FnG P w K mg base 4 A.f_fraction_of A.d_fraction_of ["value"] (spG K 1 g_fraction_of) := by
  refine fng_sem (k := 3) T.f_fraction_of sc_fraction_of fun cdv Ar outer s H E hG hr => ?_
  unfold m_fraction_of
  exact (psm_one (psm_ret (pem_if (ptm_val (pem_isC 0 [] T.cl_Fraction T.isC_Fraction T.isO_Fraction (pe_glob rfl T.g_Fraction rfl) (pem_var 0) (fun a => pe_callB call_isi (by rfl) T.n_isinstance (by decide +kernel) a))) (pem_var 0) (pem_frz (pom_mk T.mk_Fraction (ok_Fraction_init T) hG (hr.mono (by decide)) (by rfl) T.g_Fraction T.b_Fraction_init_2 T.dv_Fraction_init_2 (fun _ => (.cons (.int _) .nil)) (takes_of rfl rfl rfl rfl) (pgm_d (pem_var 0) pgm_nil))))))

theorem sc_required : FnScope ["value"] ["value"] (defScope s_required) := ⟨rfl, rfl, rfl, by decide +kernel, rfl, by decide +kernel, by decide +kernel⟩
theorem ok_required {P : Program} {w : World} {K : PySem.W.Frag} {mg : Str → Option Value} {base : Heap} {A : Ad} (T : Txt K mg A) : FnG P w K mg base 5 A.f_required A.d_required ["value"] (spG K 1 g_required) := by
  refine fng_sem (k := 4) T.f_required sc_required fun cdv Ar outer s H E hG hr => ?_
  unfold m_required
  exact (psm_cons (psm_expr (pem_call (ps := ["value"]) (g := g_require_fraction) (dds := []) (ok_require_fraction T) hG (hr.mono (by decide)) (by rfl) T.g_require_fraction T.f_require_fraction.kp T.b_require_fraction .nil (fun _ => .nil) (takes_of rfl rfl rfl rfl) (pgm_d (pem_var 0) pgm_nil)))
  (psm_one (psm_ret (pem_call (ps := ["value"]) (g := g_fraction_of) (dds := []) (ok_fraction_of T) hG (hr.mono (by decide)) (by rfl) T.g_fraction_of T.f_fraction_of.kp T.b_fraction_of .nil (fun _ => .nil) (takes_of rfl rfl rfl rfl) (pgm_d (pem_var 0) pgm_nil)))))

theorem sc_Fraction_by : FnScope ["self", "other", "divisor"] ["self", "other"] (defScope s_Fraction_by) := ⟨rfl, rfl, rfl, by decide +kernel, rfl, by decide +kernel, by decide +kernel⟩
theorem ok_Fraction_by {P : Program} {w : World} {K : PySem.W.Frag} {mg : Str → Option Value} {base : Heap} {A : Ad} (T : Txt K mg A) : FnG P w K mg base 6 A.f_Fraction_by A.d_Fraction_by ["self", "other"] (spG K 2 g_Fraction_by) := by
  refine fng_sem (k := 5) T.f_Fraction_by sc_Fraction_by fun cdv Ar outer s H E hG hr => ?_
  unfold m_Fraction_by
  exact (psm_cons (psm_set (pem_call (ps := ["value"]) (g := g_required) (dds := []) (ok_required T) hG (hr.mono (by decide)) (by rfl) T.g_required T.f_required.kp T.b_required .nil (fun _ => .nil) (takes_of rfl rfl rfl rfl) (pgm_d (pem_var 1) pgm_nil)) (pgt_name 2 sc_Fraction_by.nd))
  (psm_cons (psm_if (ptm_cmp (fun a b => pt_cmpR (op_eqP hr.units) a b (nomark _)) s_eq (pem_fld T.cl_Fraction.cl T.na_Fraction_own_top (pem_var 2)) (pem_c pe_int fun _ => .int _))
  (psm_one psm_never)
  psm_nil)
  (psm_one (psm_ret (pem_frz (pom_mk T.mk_Fraction (ok_Fraction_init T) hG (hr.mono (by decide)) (by rfl) T.g_Fraction T.b_Fraction_init .nil (fun _ => .nil) (takes_of rfl rfl rfl rfl) (pgm_d (pem_op (fun a b => pe_op op_mulP a b) s_mul (pem_fld T.cl_Fraction.cl T.na_Fraction_own_top (pem_var 0)) (pem_fld T.cl_Fraction.cl T.na_Fraction_own_bottom (pem_var 2))) (pgm_d (pem_op (fun a b => pe_op op_mulP a b) s_mul (pem_fld T.cl_Fraction.cl T.na_Fraction_own_bottom (pem_var 0)) (pem_fld T.cl_Fraction.cl T.na_Fraction_own_top (pem_var 2))) pgm_nil))))))))

theorem sc_Fraction_add : FnScope ["self", "other", "more", "top"] ["self", "other"] (defScope s_Fraction_add) := ⟨rfl, rfl, rfl, by decide +kernel, rfl, by decide +kernel, by decide +kernel⟩
theorem ok_Fraction_add {P : Program} {w : World} {K : PySem.W.Frag} {mg : Str → Option Value} {base : Heap} {A : Ad} (T : Txt K mg A) : FnG P w K mg base 6 A.f_Fraction_add A.d_Fraction_add ["self", "other"] (spG K 2 g_Fraction_add) := by
  refine fng_sem (k := 5) T.f_Fraction_add sc_Fraction_add fun cdv Ar outer s H E hG hr => ?_
  unfold m_Fraction_add
  exact (psm_cons (psm_set (pem_call (ps := ["value"]) (g := g_required) (dds := []) (ok_required T) hG (hr.mono (by decide)) (by rfl) T.g_required T.f_required.kp T.b_required .nil (fun _ => .nil) (takes_of rfl rfl rfl rfl) (pgm_d (pem_var 1) pgm_nil)) (pgt_name 2 sc_Fraction_add.nd))
  (psm_cons (psm_set (pem_op (fun a b => pe_op op_addP a b) s_add (pem_op (fun a b => pe_op op_mulP a b) s_mul (pem_fld T.cl_Fraction.cl T.na_Fraction_own_top (pem_var 0)) (pem_fld T.cl_Fraction.cl T.na_Fraction_own_bottom (pem_var 2))) (pem_op (fun a b => pe_op op_mulP a b) s_mul (pem_fld T.cl_Fraction.cl T.na_Fraction_own_top (pem_var 2)) (pem_fld T.cl_Fraction.cl T.na_Fraction_own_bottom (pem_var 0)))) (pgt_name 3 sc_Fraction_add.nd))
  (psm_one (psm_ret (pem_frz (pom_mk T.mk_Fraction (ok_Fraction_init T) hG (hr.mono (by decide)) (by rfl) T.g_Fraction T.b_Fraction_init .nil (fun _ => .nil) (takes_of rfl rfl rfl rfl) (pgm_d (pem_var 3) (pgm_d (pem_op (fun a b => pe_op op_mulP a b) s_mul (pem_fld T.cl_Fraction.cl T.na_Fraction_own_bottom (pem_var 0)) (pem_fld T.cl_Fraction.cl T.na_Fraction_own_bottom (pem_var 2))) pgm_nil))))))))

theorem sc_Fraction_radd : FnScope ["self", "other"] ["self", "other"] (defScope s_Fraction_radd) := ⟨rfl, rfl, rfl, by decide +kernel, rfl, by decide +kernel, by decide +kernel⟩
theorem ok_Fraction_radd {P : Program} {w : World} {K : PySem.W.Frag} {mg : Str → Option Value} {base : Heap} {A : Ad} (T : Txt K mg A) : FnG P w K mg base 7 A.f_Fraction_radd A.d_Fraction_radd ["self", "other"] (spG K 2 g_Fraction_radd) := by
  refine fng_sem (k := 6) T.f_Fraction_radd sc_Fraction_radd fun cdv Ar outer s H E hG hr => ?_
  unfold m_Fraction_radd
  exact (psm_one (psm_ret (pem_opI (fun a b => op_own info_add T.bn_Fraction_add (ok_Fraction_add T) (fng_none (fd := A.d_Fraction_radd) (ps := [_, _])) hG (hr.mono (by decide)) (hr.mono (by decide)) T.b_Fraction_add T.b_Fraction_radd (takes_of rfl rfl rfl rfl) (fun _ _ _ _ _ _ _ h Q q => int_add_try h Q q) PySem.F.fills_int_add look_radd op_addP a b) s_add (pem_var 0) (pem_var 1))))

theorem sc_Fraction_sub : FnScope ["self", "other", "less", "top"] ["self", "other"] (defScope s_Fraction_sub) := ⟨rfl, rfl, rfl, by decide +kernel, rfl, by decide +kernel, by decide +kernel⟩
theorem ok_Fraction_sub {P : Program} {w : World} {K : PySem.W.Frag} {mg : Str → Option Value} {base : Heap} {A : Ad} (T : Txt K mg A) : FnG P w K mg base 6 A.f_Fraction_sub A.d_Fraction_sub ["self", "other"] (spG K 2 g_Fraction_sub) := by
  refine fng_sem (k := 5) T.f_Fraction_sub sc_Fraction_sub fun cdv Ar outer s H E hG hr => ?_
  unfold m_Fraction_sub
  exact (psm_cons (psm_set (pem_call (ps := ["value"]) (g := g_required) (dds := []) (ok_required T) hG (hr.mono (by decide)) (by rfl) T.g_required T.f_required.kp T.b_required .nil (fun _ => .nil) (takes_of rfl rfl rfl rfl) (pgm_d (pem_var 1) pgm_nil)) (pgt_name 2 sc_Fraction_sub.nd))
  (psm_cons (psm_set (pem_op (fun a b => pe_op op_sub a b) s_sub (pem_op (fun a b => pe_op op_mulP a b) s_mul (pem_fld T.cl_Fraction.cl T.na_Fraction_own_top (pem_var 0)) (pem_fld T.cl_Fraction.cl T.na_Fraction_own_bottom (pem_var 2))) (pem_op (fun a b => pe_op op_mulP a b) s_mul (pem_fld T.cl_Fraction.cl T.na_Fraction_own_top (pem_var 2)) (pem_fld T.cl_Fraction.cl T.na_Fraction_own_bottom (pem_var 0)))) (pgt_name 3 sc_Fraction_sub.nd))
  (psm_one (psm_ret (pem_frz (pom_mk T.mk_Fraction (ok_Fraction_init T) hG (hr.mono (by decide)) (by rfl) T.g_Fraction T.b_Fraction_init .nil (fun _ => .nil) (takes_of rfl rfl rfl rfl) (pgm_d (pem_var 3) (pgm_d (pem_op (fun a b => pe_op op_mulP a b) s_mul (pem_fld T.cl_Fraction.cl T.na_Fraction_own_bottom (pem_var 0)) (pem_fld T.cl_Fraction.cl T.na_Fraction_own_bottom (pem_var 2))) pgm_nil))))))))

theorem sc_Fraction_rsub : FnScope ["self", "other"] ["self", "other"] (defScope s_Fraction_rsub) := ⟨rfl, rfl, rfl, by decide +kernel, rfl, by decide +kernel, by decide +kernel⟩
theorem ok_Fraction_rsub {P : Program} {w : World} {K : PySem.W.Frag} {mg : Str → Option Value} {base : Heap} {A : Ad} (T : Txt K mg A) : FnG P w K mg base 7 A.f_Fraction_rsub A.d_Fraction_rsub ["self", "other"] (spG K 2 g_Fraction_rsub) := by
  refine fng_sem (k := 6) T.f_Fraction_rsub sc_Fraction_rsub fun cdv Ar outer s H E hG hr => ?_
  unfold m_Fraction_rsub
  exact (psm_one (psm_ret (pem_opI (fun a b => op_own info_sub T.bn_Fraction_sub (ok_Fraction_sub T) (fng_none (fd := A.d_Fraction_rsub) (ps := [_, _])) hG (hr.mono (by decide)) (hr.mono (by decide)) T.b_Fraction_sub T.b_Fraction_rsub (takes_of rfl rfl rfl rfl) (fun _ _ _ _ _ _ _ h Q q => int_sub_try h Q q) PySem.F.fills_int_sub look_rsub op_sub a b) s_sub (pem_call (ps := ["value"]) (g := g_required) (dds := []) (ok_required T) hG (hr.mono (by decide)) (by rfl) T.g_required T.f_required.kp T.b_required .nil (fun _ => .nil) (takes_of rfl rfl rfl rfl) (pgm_d (pem_var 1) pgm_nil)) (pem_var 0))))

theorem sc_Fraction_mul : FnScope ["self", "other", "factor"] ["self", "other"] (defScope s_Fraction_mul) := ⟨rfl, rfl, rfl, by decide +kernel, rfl, by decide +kernel, by decide +kernel⟩
theorem ok_Fraction_mul {P : Program} {w : World} {K : PySem.W.Frag} {mg : Str → Option Value} {base : Heap} {A : Ad} (T : Txt K mg A) : FnG P w K mg base 6 A.f_Fraction_mul A.d_Fraction_mul ["self", "other"] (spG K 2 g_Fraction_mul) := by
  refine fng_sem (k := 5) T.f_Fraction_mul sc_Fraction_mul fun cdv Ar outer s H E hG hr => ?_
  unfold m_Fraction_mul
  exact (psm_cons (psm_set (pem_call (ps := ["value"]) (g := g_required) (dds := []) (ok_required T) hG (hr.mono (by decide)) (by rfl) T.g_required T.f_required.kp T.b_required .nil (fun _ => .nil) (takes_of rfl rfl rfl rfl) (pgm_d (pem_var 1) pgm_nil)) (pgt_name 2 sc_Fraction_mul.nd))
  (psm_one (psm_ret (pem_frz (pom_mk T.mk_Fraction (ok_Fraction_init T) hG (hr.mono (by decide)) (by rfl) T.g_Fraction T.b_Fraction_init .nil (fun _ => .nil) (takes_of rfl rfl rfl rfl) (pgm_d (pem_op (fun a b => pe_op op_mulP a b) s_mul (pem_fld T.cl_Fraction.cl T.na_Fraction_own_top (pem_var 0)) (pem_fld T.cl_Fraction.cl T.na_Fraction_own_top (pem_var 2))) (pgm_d (pem_op (fun a b => pe_op op_mulP a b) s_mul (pem_fld T.cl_Fraction.cl T.na_Fraction_own_bottom (pem_var 0)) (pem_fld T.cl_Fraction.cl T.na_Fraction_own_bottom (pem_var 2))) pgm_nil)))))))

theorem sc_Fraction_rmul : FnScope ["self", "other"] ["self", "other"] (defScope s_Fraction_rmul) := ⟨rfl, rfl, rfl, by decide +kernel, rfl, by decide +kernel, by decide +kernel⟩
theorem ok_Fraction_rmul {P : Program} {w : World} {K : PySem.W.Frag} {mg : Str → Option Value} {base : Heap} {A : Ad} (T : Txt K mg A) : FnG P w K mg base 7 A.f_Fraction_rmul A.d_Fraction_rmul ["self", "other"] (spG K 2 g_Fraction_rmul) := by
  refine fng_sem (k := 6) T.f_Fraction_rmul sc_Fraction_rmul fun cdv Ar outer s H E hG hr => ?_
  unfold m_Fraction_rmul
  exact (psm_one (psm_ret (pem_opI (fun a b => op_own info_mul T.bn_Fraction_mul (ok_Fraction_mul T) (fng_none (fd := A.d_Fraction_rmul) (ps := [_, _])) hG (hr.mono (by decide)) (hr.mono (by decide)) T.b_Fraction_mul T.b_Fraction_rmul (takes_of rfl rfl rfl rfl) (fun _ _ _ _ _ _ _ h Q q => int_mul_try h Q q) PySem.F.fills_int_mul look_rmul op_mulP a b) s_mul (pem_var 0) (pem_var 1))))

theorem sc_Fraction_eq : FnScope ["self", "other"] ["self", "other"] (defScope s_Fraction_eq) := ⟨rfl, rfl, rfl, by decide +kernel, rfl, by decide +kernel, by decide +kernel⟩
theorem ok_Fraction_eq {P : Program} {w : World} {K : PySem.W.Frag} {mg : Str → Option Value} {base : Heap} {A : Ad} (T : Txt K mg A) : FnG P w K mg base 2 A.f_Fraction_eq A.d_Fraction_eq ["self", "other"] (spG K 2 g_Fraction_eq) := by
  refine fng_sem (k := 1) T.f_Fraction_eq sc_Fraction_eq fun cdv Ar outer s H E hG hr => ?_
  unfold m_Fraction_eq
  exact (psm_cons (psm_if (ptm_val (pem_call (ps := ["value"]) (g := g_is_integer) (dds := []) (ok_is_integer T) hG (hr.mono (by decide)) (by rfl) T.g_is_integer T.f_is_integer.kp T.b_is_integer .nil (fun _ => .nil) (takes_of rfl rfl rfl rfl) (pgm_d (pem_var 1) pgm_nil)))
  (psm_one (psm_ret (pem_and (pem_op (fun a b => pe_cmpR (op_eqP hr.units) a b (nomark _)) s_eq (pem_fld T.cl_Fraction.cl T.na_Fraction_own_bottom (pem_var 0)) (pem_c pe_int fun _ => .int _)) (pem_one (pem_op (fun a b => pe_cmpR (op_eqP hr.units) a b (nomark _)) s_eq (pem_fld T.cl_Fraction.cl T.na_Fraction_own_top (pem_var 0)) (pem_var 1))))))
  psm_nil)
  (psm_one (psm_ret (pem_and (pem_isC 0 [] T.cl_Fraction T.isC_Fraction T.isO_Fraction (pe_glob rfl T.g_Fraction rfl) (pem_var 1) (fun a => pe_callB call_isi (by rfl) T.n_isinstance (by decide +kernel) a)) (pem_and (pem_op (fun a b => pe_cmpR (op_eqP hr.units) a b (nomark _)) s_eq (pem_fld T.cl_Fraction.cl T.na_Fraction_own_top (pem_var 0)) (pem_fld T.cl_Fraction.cl T.na_Fraction_own_top (pem_var 1))) (pem_one (pem_op (fun a b => pe_cmpR (op_eqP hr.units) a b (nomark _)) s_eq (pem_fld T.cl_Fraction.cl T.na_Fraction_own_bottom (pem_var 0)) (pem_fld T.cl_Fraction.cl T.na_Fraction_own_bottom (pem_var 1)))))))))

theorem sc_are_fractions : FnScope ["value", "many", "one"] ["value", "many"] (defScope s_are_fractions) := ⟨rfl, rfl, rfl, by decide +kernel, rfl, by decide +kernel, by decide +kernel⟩
theorem ok_are_fractions {P : Program} {w : World} {K : PySem.W.Frag} {mg : Str → Option Value} {base : Heap} {A : Ad} (T : Txt K mg A) : FnG P w K mg base 3 A.f_are_fractions A.d_are_fractions ["value", "many"] (spG K 2 g_are_fractions) := by
  refine fng_sem (k := 2) T.f_are_fractions sc_are_fractions fun cdv Ar outer s H E hG hr => ?_
  unfold m_are_fractions
  exact (psm_one (psm_ret (pem_and (pem_isB .tup [0] T.isB_tuple (pe_bltn (by rfl) T.n_tuple (by decide +kernel) rfl) (pem_var 0) (fun a => pe_callB call_isi (by rfl) T.n_isinstance (by decide +kernel) a)) (pem_and (pem_op (fun a b => pe_cmpR (op_eqP hr.units) a b (nomark _)) s_eq (pem_cb (fun a => pe_callB call_len (by rfl) T.n_len (by decide +kernel) a) s_len (pam_cons (pem_var 0) pam_nil)) (pem_var 1)) (pem_one (pem_cb (fun a => pe_callB (cr_all rfl) (by rfl) T.n_all (by decide +kernel) a) s_all (pam_cons (pem_frz (pom_lc rfl sc_are_fractions.nd (own := [("one", 2)]) (pim_tup (pem_var 0)) (blkOk_by (N := ["value", "many", "one"]) (sc := defScope s_are_fractions) (own := [("one", 2)]) (by decide +kernel)) (fun _ _ _ _ _ => (pgt_name 2 sc_are_fractions.nd)) (fun _ _ _ _ _ => ptsm_nil) (fun _ _ _ _ _ => (pem_call (ps := ["value"]) (g := g_is_fraction) (dds := []) (ok_is_fraction T) hG (hr.mono (by decide)) (by rfl) T.g_is_fraction T.f_is_fraction.kp T.b_is_fraction .nil (fun _ => .nil) takes0 (pgm_d (pem_var 2) pgm_nil))) (by decide))) pam_nil)))))))

theorem sc_is_rows : FnScope ["value", "row"] ["value"] (defScope s_is_rows) := ⟨rfl, rfl, rfl, by decide +kernel, rfl, by decide +kernel, by decide +kernel⟩
theorem ok_is_rows {P : Program} {w : World} {K : PySem.W.Frag} {mg : Str → Option Value} {base : Heap} {A : Ad} (T : Txt K mg A) : FnG P w K mg base 4 A.f_is_rows A.d_is_rows ["value"] (spG K 1 g_is_rows) := by
  refine fng_sem (k := 3) T.f_is_rows sc_is_rows fun cdv Ar outer s H E hG hr => ?_
  unfold m_is_rows
  exact (psm_cons (psm_if (pwm_pt (pwm_or (ptm_not (ptm_val (pem_isB .tup [0] T.isB_tuple (pe_bltn (by rfl) T.n_tuple (by decide +kernel) rfl) (pem_var 0) (fun a => pe_callB call_isi (by rfl) T.n_isinstance (by decide +kernel) a)))) (pwm_or1 (ptm_not (ptm_both (fun a b c => pt_chain op_le op_le a b c) s_le s_le (pem_c pe_int fun _ => .int _) (pem_cb (fun a => pe_callB call_len (by rfl) T.n_len (by decide +kernel) a) s_len (pam_cons (pem_var 0) pam_nil)) (pem_c (pe_glob (v := V.int 80) rfl T.g_MAX_ROWS ⟨_, rfl⟩) fun _ => (.int _)))))))
  (psm_one (psm_ret (pem_c pe_bl fun _ => .bl _)))
  psm_nil)
  (psm_cons (psm_if (pwm_pt (pwm_or (ptm_not (ptm_val (pem_isB .tup [0] T.isB_tuple (pe_bltn (by rfl) T.n_tuple (by decide +kernel) rfl) (pem_op (fun a b => pe_ix ix_seq a b (fun _ _ => rfl)) s_ix (pem_var 0) (pem_c pe_int fun _ => .int _)) (fun a => pe_callB call_isi (by rfl) T.n_isinstance (by decide +kernel) a)))) (pwm_or1 (ptm_not (ptm_both (fun a b c => pt_chain op_le op_le a b c) s_le s_le (pem_c pe_int fun _ => .int _) (pem_cb (fun a => pe_callB call_len (by rfl) T.n_len (by decide +kernel) a) s_len (pam_cons (pem_op (fun a b => pe_ix ix_seq a b (fun _ _ => rfl)) s_ix (pem_var 0) (pem_c pe_int fun _ => .int _)) pam_nil)) (pem_c (pe_glob (v := V.int 12) rfl T.g_MAX_WIDTH ⟨_, rfl⟩) fun _ => (.int _)))))))
  (psm_one (psm_ret (pem_c pe_bl fun _ => .bl _)))
  psm_nil)
  (psm_one (psm_ret (pem_cb (fun a => pe_callB (cr_all rfl) (by rfl) T.n_all (by decide +kernel) a) s_all (pam_cons (pem_frz (pom_lc rfl sc_is_rows.nd (own := [("row", 1)]) (pim_tup (pem_var 0)) (blkOk_by (N := ["value", "row"]) (sc := defScope s_is_rows) (own := [("row", 1)]) (by decide +kernel)) (fun _ _ _ _ _ => (pgt_name 1 sc_is_rows.nd)) (fun _ _ _ _ _ => ptsm_nil) (fun _ _ _ _ _ => (pem_call (ps := ["value", "many"]) (g := g_are_fractions) (dds := []) (ok_are_fractions T) hG (hr.mono (by decide)) (by rfl) T.g_are_fractions T.f_are_fractions.kp T.b_are_fractions .nil (fun _ => .nil) takes0 (pgm_d (pem_var 1) (pgm_d (pem_cb (fun a => pe_callB call_len (by rfl) T.n_len (by decide +kernel) a) s_len (pam_cons (pem_op (fun a b => pe_ix ix_seq a b (fun _ _ => rfl)) s_ix (pem_var 0) (pem_c pe_int fun _ => .int _)) pam_nil)) pgm_nil)))) (by decide))) pam_nil))))))

theorem sc_require_rows : FnScope ["rows"] ["rows"] (defScope s_require_rows) := ⟨rfl, rfl, rfl, by decide +kernel, rfl, by decide +kernel, by decide +kernel⟩
theorem ok_require_rows {P : Program} {w : World} {K : PySem.W.Frag} {mg : Str → Option Value} {base : Heap} {A : Ad} (T : Txt K mg A) : FnG P w K mg base 5 A.f_require_rows A.d_require_rows ["rows"] (spG K 1 g_require_rows) := by
  refine fng_sem (k := 4) T.f_require_rows sc_require_rows fun cdv Ar outer s H E hG hr => ?_
  unfold m_require_rows
  exact (psm_one (psm_if (ptm_not (ptm_val (pem_call (ps := ["value"]) (g := g_is_rows) (dds := []) (ok_is_rows T) hG (hr.mono (by decide)) (by rfl) T.g_is_rows T.f_is_rows.kp T.b_is_rows .nil (fun _ => .nil) (takes_of rfl rfl rfl rfl) (pgm_d (pem_var 0) pgm_nil))))
  (psm_one psm_never)
  psm_nil))

theorem sc_require_fractions : FnScope ["value", "many"] ["value", "many"] (defScope s_require_fractions) := ⟨rfl, rfl, rfl, by decide +kernel, rfl, by decide +kernel, by decide +kernel⟩
theorem ok_require_fractions {P : Program} {w : World} {K : PySem.W.Frag} {mg : Str → Option Value} {base : Heap} {A : Ad} (T : Txt K mg A) : FnG P w K mg base 4 A.f_require_fractions A.d_require_fractions ["value", "many"] (spG K 2 g_require_fractions) := by
  refine fng_sem (k := 3) T.f_require_fractions sc_require_fractions fun cdv Ar outer s H E hG hr => ?_
  unfold m_require_fractions
  exact (psm_one (psm_if (ptm_not (ptm_val (pem_call (ps := ["value", "many"]) (g := g_are_fractions) (dds := []) (ok_are_fractions T) hG (hr.mono (by decide)) (by rfl) T.g_are_fractions T.f_are_fractions.kp T.b_are_fractions .nil (fun _ => .nil) (takes_of rfl rfl rfl rfl) (pgm_d (pem_var 0) (pgm_d (pem_var 1) pgm_nil)))))
  (psm_one psm_never)
  psm_nil))

theorem sc_as_fractions : FnScope ["row", "one"] ["row"] (defScope s_as_fractions) := ⟨rfl, rfl, rfl, by decide +kernel, rfl, by decide +kernel, by decide +kernel⟩
theorem ok_as_fractions {P : Program} {w : World} {K : PySem.W.Frag} {mg : Str → Option Value} {base : Heap} {A : Ad} (T : Txt K mg A) : FnG P w K mg base 5 A.f_as_fractions A.d_as_fractions ["row"] (spG K 1 g_as_fractions) := by
  refine fng_sem (k := 4) T.f_as_fractions sc_as_fractions fun cdv Ar outer s H E hG hr => ?_
  unfold m_as_fractions
  exact (psm_one (psm_ret (pem_cb (fun a => pe_callTy call_tuple_of (by rfl) T.n_tuple (by decide +kernel) a) s_tuple (pam_cons (pem_frz (pom_lc rfl sc_as_fractions.nd (own := [("one", 1)]) (pim_tup (pem_var 0)) (blkOk_by (N := ["row", "one"]) (sc := defScope s_as_fractions) (own := [("one", 1)]) (by decide +kernel)) (fun _ _ _ _ _ => (pgt_name 1 sc_as_fractions.nd)) (fun _ _ _ _ _ => ptsm_nil) (fun _ _ _ _ _ => (pem_call (ps := ["value"]) (g := g_fraction_of) (dds := []) (ok_fraction_of T) hG (hr.mono (by decide)) (by rfl) T.g_fraction_of T.f_fraction_of.kp T.b_fraction_of .nil (fun _ => .nil) takes0 (pgm_d (pem_var 1) pgm_nil))) (by decide))) pam_nil))))

theorem sc_product_in : FnScope ["row", "column", "found", "one", "other"] ["row", "column"] (defScope s_product_in) := ⟨rfl, rfl, rfl, by decide +kernel, rfl, by decide +kernel, by decide +kernel⟩
theorem ok_product_in {P : Program} {w : World} {K : PySem.W.Frag} {mg : Str → Option Value} {base : Heap} {A : Ad} (T : Txt K mg A) : FnG P w K mg base 7 A.f_product_in A.d_product_in ["row", "column"] (spG K 2 g_product_in) := by
  refine fng_sem (k := 6) T.f_product_in sc_product_in fun cdv Ar outer s H E hG hr => ?_
  unfold m_product_in
  exact (psm_cons (psm_set (pem_frz (pom_mk T.mk_Fraction (ok_Fraction_init T) hG (hr.mono (by decide)) (by rfl) T.g_Fraction T.b_Fraction_init_2 T.dv_Fraction_init_2 (fun _ => (.cons (.int _) .nil)) (takes_of rfl rfl rfl rfl) (pgm_d (pem_c pe_int fun _ => .int _) pgm_nil))) (pgt_name 2 sc_product_in.nd))
  (psm_cons (psm_for (fun a b c => ps_for (passes_of rfl) rfl a b c) (pim_zs (fun a => pi_zs (by rfl) T.n_zip a) (pam_cons (pem_var 0) (pam_cons (pem_var 1) pam_nil))) (pgt_tup rfl (pgts_cons (pgt_name 3 sc_product_in.nd) (pgts_cons (pgt_name 4 sc_product_in.nd) pgts_nil)))
  (psm_one (psm_set (pem_opI (fun a b => op_own info_add T.bn_Fraction_add (ok_Fraction_add T) (fng_none (fd := A.d_Fraction_radd) (ps := [_, _])) hG (hr.mono (by decide)) (hr.mono (by decide)) T.b_Fraction_add T.b_Fraction_radd (takes_of rfl rfl rfl rfl) (fun _ _ _ _ _ _ _ h Q q => int_add_try h Q q) PySem.F.fills_int_add look_radd op_addP a b) s_add (pem_var 2) (pem_opI (fun a b => op_own info_mul T.bn_Fraction_mul (ok_Fraction_mul T) (fng_none (fd := A.d_Fraction_rmul) (ps := [_, _])) hG (hr.mono (by decide)) (hr.mono (by decide)) T.b_Fraction_mul T.b_Fraction_rmul (takes_of rfl rfl rfl rfl) (fun _ _ _ _ _ _ _ h Q q => int_mul_try h Q q) PySem.F.fills_int_mul look_rmul op_mulP a b) s_mul (pem_call (ps := ["value"]) (g := g_fraction_of) (dds := []) (ok_fraction_of T) hG (hr.mono (by decide)) (by rfl) T.g_fraction_of T.f_fraction_of.kp T.b_fraction_of .nil (fun _ => .nil) (takes_of rfl rfl rfl rfl) (pgm_d (pem_var 3) pgm_nil)) (pem_var 4))) (pgt_name 2 sc_product_in.nd))))
  (psm_one (psm_ret (pem_var 2)))))

theorem sc_times_in : FnScope ["rows", "column", "row"] ["rows", "column"] (defScope s_times_in) := ⟨rfl, rfl, rfl, by decide +kernel, rfl, by decide +kernel, by decide +kernel⟩
theorem ok_times_in {P : Program} {w : World} {K : PySem.W.Frag} {mg : Str → Option Value} {base : Heap} {A : Ad} (T : Txt K mg A) : FnG P w K mg base 8 A.f_times_in A.d_times_in ["rows", "column"] (spG K 2 g_times_in) := by
  refine fng_sem (k := 7) T.f_times_in sc_times_in fun cdv Ar outer s H E hG hr => ?_
  unfold m_times_in
  exact (psm_one (psm_ret (pem_cb (fun a => pe_callTy call_tuple_of (by rfl) T.n_tuple (by decide +kernel) a) s_tuple (pam_cons (pem_frz (pom_lc rfl sc_times_in.nd (own := [("row", 2)]) (pim_tup (pem_var 0)) (blkOk_by (N := ["rows", "column", "row"]) (sc := defScope s_times_in) (own := [("row", 2)]) (by decide +kernel)) (fun _ _ _ _ _ => (pgt_name 2 sc_times_in.nd)) (fun _ _ _ _ _ => ptsm_nil) (fun _ _ _ _ _ => (pem_call (ps := ["row", "column"]) (g := g_product_in) (dds := []) (ok_product_in T) hG (hr.mono (by decide)) (by rfl) T.g_product_in T.f_product_in.kp T.b_product_in .nil (fun _ => .nil) takes0 (pgm_d (pem_var 2) (pgm_d (pem_var 1) pgm_nil)))) (by decide))) pam_nil))))

theorem sc_mix_in : FnScope ["rows", "factors", "place", "row"] ["rows", "factors"] (defScope s_mix_in) := ⟨rfl, rfl, rfl, by decide +kernel, rfl, by decide +kernel, by decide +kernel⟩
theorem ok_mix_in {P : Program} {w : World} {K : PySem.W.Frag} {mg : Str → Option Value} {base : Heap} {A : Ad} (T : Txt K mg A) : FnG P w K mg base 8 A.f_mix_in A.d_mix_in ["rows", "factors"] (spG K 2 g_mix_in) := by
  refine fng_sem (k := 7) T.f_mix_in sc_mix_in fun cdv Ar outer s H E hG hr => ?_
  unfold m_mix_in
  exact (psm_one (psm_ret (pem_cb (fun a => pe_callTy call_tuple_of (by rfl) T.n_tuple (by decide +kernel) a) s_tuple (pam_cons (pem_frz (pom_lc rfl sc_mix_in.nd (own := [("place", 2)]) (pim_range1 (fun a => pi_range1 (by rfl) T.n_range a) (pam_cons (pem_cb (fun a => pe_callB call_len (by rfl) T.n_len (by decide +kernel) a) s_len (pam_cons (pem_op (fun a b => pe_ix ix_seq a b (fun _ _ => rfl)) s_ix (pem_var 0) (pem_c pe_int fun _ => .int _)) pam_nil)) pam_nil)) (blkOk_by (N := ["rows", "factors", "place", "row"]) (sc := defScope s_mix_in) (own := [("place", 2)]) (by decide +kernel)) (fun _ _ _ _ _ => (pgt_name 2 sc_mix_in.nd)) (fun _ _ _ _ _ => ptsm_nil) (fun _ _ _ _ _ => (pem_call (ps := ["row", "column"]) (g := g_product_in) (dds := []) (ok_product_in T) hG (hr.mono (by decide)) (by rfl) T.g_product_in T.f_product_in.kp T.b_product_in .nil (fun _ => .nil) takes0 (pgm_d (pem_var 1) (pgm_d (pem_frz (pom_lc rfl sc_mix_in.nd (own := [("row", 3)]) (pim_tup (pem_var 0)) (by exact blkOk_by (by kernel_rfl)) (fun _ _ _ _ _ => (pgt_name 3 sc_mix_in.nd)) (fun _ _ _ _ _ => ptsm_nil) (fun _ _ _ _ _ => (pem_op (fun a b => pe_ix ix_seq a b (fun _ _ => rfl)) s_ix (pem_var 3) (pem_var 2))) (by decide))) pgm_nil)))) (by decide))) pam_nil))))

theorem sc_without_line : FnScope ["row", "line", "place", "one", "other"] ["row", "line", "place"] (defScope s_without_line) := ⟨rfl, rfl, rfl, by decide +kernel, rfl, by decide +kernel, by decide +kernel⟩
theorem ok_without_line {P : Program} {w : World} {K : PySem.W.Frag} {mg : Str → Option Value} {base : Heap} {A : Ad} (T : Txt K mg A) : FnG P w K mg base 7 A.f_without_line A.d_without_line ["row", "line", "place"] (spG K 3 g_without_line) := by
  refine fng_sem (k := 6) T.f_without_line sc_without_line fun cdv Ar outer s H E hG hr => ?_
  unfold m_without_line
  exact (psm_one (psm_ret (pem_frz (pom_lc rfl sc_without_line.nd (own := [("one", 3), ("other", 4)]) (pim_zs (fun a => pi_zs (by rfl) T.n_zip a) (pam_cons (pem_var 0) (pam_cons (pem_var 1) pam_nil))) (blkOk_by (N := ["row", "line", "place", "one", "other"]) (sc := defScope s_without_line) (own := [("one", 3), ("other", 4)]) (by decide +kernel)) (fun _ _ _ _ _ => (pgt_tup rfl (pgts_cons (pgt_name 3 sc_without_line.nd) (pgts_cons (pgt_name 4 sc_without_line.nd) pgts_nil)))) (fun _ _ _ _ _ => ptsm_nil) (fun _ _ _ _ _ => (pem_opI (fun a b => op_own info_sub T.bn_Fraction_sub (ok_Fraction_sub T) (fng_none (fd := A.d_Fraction_rsub) (ps := [_, _])) hG (hr.mono (by decide)) (hr.mono (by decide)) T.b_Fraction_sub T.b_Fraction_rsub takes0 (fun _ _ _ _ _ _ _ h Q q => int_sub_try h Q q) PySem.F.fills_int_sub look_rsub op_sub a b) s_sub (pem_var 3) (pem_opI (fun a b => op_own info_mul T.bn_Fraction_mul (ok_Fraction_mul T) (fng_none (fd := A.d_Fraction_rmul) (ps := [_, _])) hG (hr.mono (by decide)) (hr.mono (by decide)) T.b_Fraction_mul T.b_Fraction_rmul takes0 (fun _ _ _ _ _ _ _ h Q q => int_mul_try h Q q) PySem.F.fills_int_mul look_rmul op_mulP a b) s_mul (pem_op (fun a b => pe_ix ix_seq a b (fun _ _ => rfl)) s_ix (pem_var 0) (pem_var 2)) (pem_var 4)))) (by decide)))))

theorem sc_cleared_in : FnScope ["rows", "left", "found", "place", "some", "line", "row", "at", "one"] ["rows"] (defScope s_cleared_in) := ⟨rfl, rfl, rfl, by decide +kernel, rfl, by decide +kernel, by decide +kernel⟩
theorem ok_cleared_in {P : Program} {w : World} {K : PySem.W.Frag} {mg : Str → Option Value} {base : Heap} {A : Ad} (T : Txt K mg A) : FnG P w K mg base 8 A.f_cleared_in A.d_cleared_in ["rows"] (spG K 1 g_cleared_in) := by
  refine fng_sem (k := 7) T.f_cleared_in sc_cleared_in fun cdv Ar outer s H E hG hr => ?_
  unfold m_cleared_in
  exact (psm_cons (psm_parOO 1 2 rfl sc_cleared_in.nd (by decide) (pom_lc rfl sc_cleared_in.nd (own := [("row", 6)]) (pim_tup (pem_var 0)) (blkOk_by (N := ["rows", "left", "found", "place", "some", "line", "row", "at", "one"]) (sc := defScope s_cleared_in) (own := [("row", 6)]) (by decide +kernel)) (fun _ _ _ _ _ => (pgt_name 6 sc_cleared_in.nd)) (fun _ _ _ _ _ => ptsm_nil) (fun _ _ _ _ _ => (pem_frz (pom_listOf (fun a => pe_callTy call_list_of (by rfl) T.n_list (by decide +kernel) a) (pem_call (ps := ["row"]) (g := g_as_fractions) (dds := []) (ok_as_fractions T) hG (hr.mono (by decide)) (by rfl) T.g_as_fractions T.f_as_fractions.kp T.b_as_fractions .nil (fun _ => .nil) takes0 (pgm_d (pem_var 6) pgm_nil))))) (by decide)) (pom_lst pam_nil))
  (psm_cons (psm_for (fun a b c => ps_for (passes_of rfl) rfl a b c) (pim_range1 (fun a => pi_range1 (by rfl) T.n_range a) (pam_cons (pem_cb (fun a => pe_callB call_len (by rfl) T.n_len (by decide +kernel) a) s_len (pam_cons (pem_op (fun a b => pe_ix ix_seq a b (fun _ _ => rfl)) s_ix (pem_var 0) (pem_c pe_int fun _ => .int _)) pam_nil)) pam_nil)) (pgt_name 3 sc_cleared_in.nd)
  (psm_cons (psm_setLcSD 4 1 (fun _ _ _ _ _ h r => yieldsC_enum h r) rfl sc_cleared_in.nd (sw_true rfl rfl rfl (by decide +kernel)) (own := [("at", 7), ("row", 6)]) (pi_slotE 1 (fun a => pi_enum (by rfl) T.n_enumerate a)) (blkOk_by (N := ["rows", "left", "found", "place", "some", "line", "row", "at", "one"]) (sc := defScope s_cleared_in) (own := [("at", 7), ("row", 6)]) (by decide +kernel)) (fun _ _ _ _ _ => (pgt_tup rfl (pgts_cons (pgt_name 7 sc_cleared_in.nd) (pgts_cons (pgt_name 6 sc_cleared_in.nd) pgts_nil)))) (fun _ _ _ _ _ => (ptsm_one (ptm_eqI (fun a b => pt_cmpS (op_eqI true T.eq_Fraction (ok_Fraction_eq T) hG (hr.mono (by decide)) T.b_Fraction_eq takes0 (op_neP hr.units)) a b (nomark _)) s_ne (pem_op (fun a b => pe_ix ix_seq a b (fun _ _ => rfl)) s_ix (pem_var 6) (pem_var 3)) (pem_c pe_int fun _ => .int _)))) (fun _ _ _ _ _ => (pem_var 7)) (by decide))
  (psm_one (psm_if (ptm_cmp (fun a b => pt_cmpR (op_neP hr.units) a b (nomark _)) s_ne (pem_var 4) (pem_frz (pom_lst pam_nil)))
  (psm_cons (psm_set (pem_popAt 1 (pem_op (fun a b => pe_ix ix_seq a b (fun _ _ => rfl)) s_ix (pem_var 4) (pem_c pe_int fun _ => .int _)) (fun a b => pe_bm PySem.F.plainAttrs_list PySem.F.slot_list_pop PySem.F.type_list_pop mt_popAt a b)) (pgt_name 5 sc_cleared_in.nd))
  (psm_cons (psm_set (pem_frz (pom_lc rfl sc_cleared_in.nd (own := [("one", 8)]) (pim_list (pem_var 5)) (blkOk_by (N := ["rows", "left", "found", "place", "some", "line", "row", "at", "one"]) (sc := defScope s_cleared_in) (own := [("one", 8)]) (by decide +kernel)) (fun _ _ _ _ _ => (pgt_name 8 sc_cleared_in.nd)) (fun _ _ _ _ _ => ptsm_nil) (fun _ _ _ _ _ => (pem_mth (.d (pem_var 8)) T.cl_Fraction.cl T.me_Fraction_by (ok_Fraction_by T) hG (hr.mono (by decide)) T.b_Fraction_by .nil (fun _ => .nil) takes0 (pgm_d (pem_op (fun a b => pe_ix ix_seq a b (fun _ _ => rfl)) s_ix (pem_var 5) (pem_var 3)) pgm_nil) (fun a b => pe_mth a T.cl_Fraction.cl T.me_Fraction_by (ok_Fraction_by T) hG (hr.mono (by decide)) T.b_Fraction_by .nil takes0 b))) (by decide))) (pgt_name 5 sc_cleared_in.nd))
  (psm_cons (psm_setLc 1 rfl sc_cleared_in.nd (sw_true rfl rfl rfl (by decide +kernel)) (own := [("row", 6)]) (pim_list (pem_dat 1)) (blkOk_by (N := ["rows", "left", "found", "place", "some", "line", "row", "at", "one"]) (sc := defScope s_cleared_in) (own := [("row", 6)]) (by decide +kernel)) (fun _ _ _ _ _ => (pgt_name 6 sc_cleared_in.nd)) (fun _ _ _ _ _ => ptsm_nil) (fun _ _ _ _ _ => (pem_call (ps := ["row", "line", "place"]) (g := g_without_line) (dds := []) (ok_without_line T) hG (hr.mono (by decide)) (by rfl) T.g_without_line T.f_without_line.kp T.b_without_line .nil (fun _ => .nil) takes0 (pgm_d (pem_var 6) (pgm_d (pem_var 5) (pgm_d (pem_var 3) pgm_nil))))) (by decide))
  (psm_cons (psm_setLc 2 rfl sc_cleared_in.nd (sw_true rfl rfl rfl (by decide +kernel)) (own := [("row", 6)]) (pim_list (pem_dat 2)) (blkOk_by (N := ["rows", "left", "found", "place", "some", "line", "row", "at", "one"]) (sc := defScope s_cleared_in) (own := [("row", 6)]) (by decide +kernel)) (fun _ _ _ _ _ => (pgt_name 6 sc_cleared_in.nd)) (fun _ _ _ _ _ => ptsm_nil) (fun _ _ _ _ _ => (pem_call (ps := ["row", "line", "place"]) (g := g_without_line) (dds := []) (ok_without_line T) hG (hr.mono (by decide)) (by rfl) T.g_without_line T.f_without_line.kp T.b_without_line .nil (fun _ => .nil) takes0 (pgm_d (pem_var 6) (pgm_d (pem_var 5) (pgm_d (pem_var 3) pgm_nil))))) (by decide))
  (psm_one (psm_app 2 (pem_var 5) (fun a b => ps_expr (pe_bm PySem.F.plainAttrs_list PySem.F.slot_list_append PySem.F.type_list_append mt_append a b))))))))
  psm_nil))))
  (psm_one (psm_ret (pem_cb (fun a => pe_callTy call_tuple_of (by rfl) T.n_tuple (by decide +kernel) a) s_tuple (pam_cons (pem_frz (pom_lc rfl sc_cleared_in.nd (own := [("row", 6)]) (pim_list (pem_dat 2)) (blkOk_by (N := ["rows", "left", "found", "place", "some", "line", "row", "at", "one"]) (sc := defScope s_cleared_in) (own := [("row", 6)]) (by decide +kernel)) (fun _ _ _ _ _ => (pgt_name 6 sc_cleared_in.nd)) (fun _ _ _ _ _ => ptsm_nil) (fun _ _ _ _ _ => (pem_cb (fun a => pe_callTy call_tuple_of (by rfl) T.n_tuple (by decide +kernel) a) s_tuple (pam_cons (pem_var 6) pam_nil))) (by decide))) pam_nil))))))

theorem sc_times_of : FnScope ["rows", "column"] ["rows", "column"] (defScope s_times_of) := ⟨rfl, rfl, rfl, by decide +kernel, rfl, by decide +kernel, by decide +kernel⟩
theorem ok_times_of {P : Program} {w : World} {K : PySem.W.Frag} {mg : Str → Option Value} {base : Heap} {A : Ad} (T : Txt K mg A) : FnG P w K mg base 9 A.f_times_of A.d_times_of ["rows", "column"] (spG K 2 g_times_of) := by
  refine fng_sem (k := 8) T.f_times_of sc_times_of fun cdv Ar outer s H E hG hr => ?_
  unfold m_times_of
  exact (psm_cons (psm_expr (pem_call (ps := ["rows"]) (g := g_require_rows) (dds := []) (ok_require_rows T) hG (hr.mono (by decide)) (by rfl) T.g_require_rows T.f_require_rows.kp T.b_require_rows .nil (fun _ => .nil) (takes_of rfl rfl rfl rfl) (pgm_d (pem_var 0) pgm_nil)))
  (psm_cons (psm_expr (pem_call (ps := ["value", "many"]) (g := g_require_fractions) (dds := []) (ok_require_fractions T) hG (hr.mono (by decide)) (by rfl) T.g_require_fractions T.f_require_fractions.kp T.b_require_fractions .nil (fun _ => .nil) (takes_of rfl rfl rfl rfl) (pgm_d (pem_var 1) (pgm_d (pem_cb (fun a => pe_callB call_len (by rfl) T.n_len (by decide +kernel) a) s_len (pam_cons (pem_op (fun a b => pe_ix ix_seq a b (fun _ _ => rfl)) s_ix (pem_var 0) (pem_c pe_int fun _ => .int _)) pam_nil)) pgm_nil))))
  (psm_one (psm_ret (pem_call (ps := ["rows", "column"]) (g := g_times_in) (dds := []) (ok_times_in T) hG (hr.mono (by decide)) (by rfl) T.g_times_in T.f_times_in.kp T.b_times_in .nil (fun _ => .nil) (takes_of rfl rfl rfl rfl) (pgm_d (pem_var 0) (pgm_d (pem_var 1) pgm_nil)))))))

theorem sc_mix_of : FnScope ["rows", "factors"] ["rows", "factors"] (defScope s_mix_of) := ⟨rfl, rfl, rfl, by decide +kernel, rfl, by decide +kernel, by decide +kernel⟩
theorem ok_mix_of {P : Program} {w : World} {K : PySem.W.Frag} {mg : Str → Option Value} {base : Heap} {A : Ad} (T : Txt K mg A) : FnG P w K mg base 9 A.f_mix_of A.d_mix_of ["rows", "factors"] (spG K 2 g_mix_of) := by
  refine fng_sem (k := 8) T.f_mix_of sc_mix_of fun cdv Ar outer s H E hG hr => ?_
  unfold m_mix_of
  exact (psm_cons (psm_expr (pem_call (ps := ["rows"]) (g := g_require_rows) (dds := []) (ok_require_rows T) hG (hr.mono (by decide)) (by rfl) T.g_require_rows T.f_require_rows.kp T.b_require_rows .nil (fun _ => .nil) (takes_of rfl rfl rfl rfl) (pgm_d (pem_var 0) pgm_nil)))
  (psm_cons (psm_expr (pem_call (ps := ["value", "many"]) (g := g_require_fractions) (dds := []) (ok_require_fractions T) hG (hr.mono (by decide)) (by rfl) T.g_require_fractions T.f_require_fractions.kp T.b_require_fractions .nil (fun _ => .nil) (takes_of rfl rfl rfl rfl) (pgm_d (pem_var 1) (pgm_d (pem_cb (fun a => pe_callB call_len (by rfl) T.n_len (by decide +kernel) a) s_len (pam_cons (pem_var 0) pam_nil)) pgm_nil))))
  (psm_one (psm_ret (pem_call (ps := ["rows", "factors"]) (g := g_mix_in) (dds := []) (ok_mix_in T) hG (hr.mono (by decide)) (by rfl) T.g_mix_in T.f_mix_in.kp T.b_mix_in .nil (fun _ => .nil) (takes_of rfl rfl rfl rfl) (pgm_d (pem_var 0) (pgm_d (pem_var 1) pgm_nil)))))))

theorem sc_cleared : FnScope ["rows"] ["rows"] (defScope s_cleared) := ⟨rfl, rfl, rfl, by decide +kernel, rfl, by decide +kernel, by decide +kernel⟩
theorem ok_cleared {P : Program} {w : World} {K : PySem.W.Frag} {mg : Str → Option Value} {base : Heap} {A : Ad} (T : Txt K mg A) : FnG P w K mg base 9 A.f_cleared A.d_cleared ["rows"] (spG K 1 g_cleared) := by
  refine fng_sem (k := 8) T.f_cleared sc_cleared fun cdv Ar outer s H E hG hr => ?_
  unfold m_cleared
  exact (psm_cons (psm_expr (pem_call (ps := ["rows"]) (g := g_require_rows) (dds := []) (ok_require_rows T) hG (hr.mono (by decide)) (by rfl) T.g_require_rows T.f_require_rows.kp T.b_require_rows .nil (fun _ => .nil) (takes_of rfl rfl rfl rfl) (pgm_d (pem_var 0) pgm_nil)))
  (psm_one (psm_ret (pem_call (ps := ["rows"]) (g := g_cleared_in) (dds := []) (ok_cleared_in T) hG (hr.mono (by decide)) (by rfl) T.g_cleared_in T.f_cleared_in.kp T.b_cleared_in .nil (fun _ => .nil) (takes_of rfl rfl rfl rfl) (pgm_d (pem_var 0) pgm_nil)))))
end K04
set_option Elab.async false
set_option linter.all false
set_option maxRecDepth 100000
set_option maxHeartbeats 4000000
namespace K04
open PySem PySem.Spec PyProof.Rows L2 L3
theorem sc__law_dice : FnScope ["_law_script", "_law_at", "_law_cell", "_law_great", "_law_mixed"] ["_law_script", "_law_at"] (defScope s__law_dice) := ⟨rfl, rfl, rfl, by decide +kernel, rfl, by decide +kernel, by decide +kernel⟩
theorem ok__law_dice {P : Program} {w : World} {K : PySem.W.Frag} {mg : Str → Option Value} {base : Heap} {A : Ad} (T : Txt K mg A) : FnG P w K mg base 1 A.f__law_dice A.d__law_dice ["_law_script", "_law_at"] (spG K 2 g__law_dice) := by
  refine fng_sem (k := 0) T.f__law_dice sc__law_dice fun cdv Ar outer s H E hG hr => ?_
  unfold m__law_dice
  exact (psm_cons (psm_set (pem_op (fun a b => pe_op op_addP a b) s_add (pem_op (fun a b => pe_op op_mulP a b) s_mul (pem_c pe_int fun _ => .int _) (pem_var 1)) (pem_c pe_int fun _ => .int _)) (pgt_name 2 sc__law_dice.nd))
  (psm_cons (psm_if (ptm_cmp (fun a b => pt_cmpR op_lt a b (nomark _)) s_lt (pem_var 1) (pem_cb (fun a => pe_callB call_len (by rfl) T.n_len (by decide +kernel) a) s_len (pam_cons (pem_var 0) pam_nil)))
  (psm_one (psm_set (pem_op (fun a b => pe_ix ix_seq a b (fun _ _ => rfl)) s_ix (pem_var 0) (pem_var 1)) (pgt_name 2 sc__law_dice.nd)))
  psm_nil)
  (psm_cons (psm_set (pem_op (fun a b => pe_op op_modN a b) s_mod (pem_cb (fun a => pe_callTy call_int1 (by rfl) T.n_int (by decide +kernel) a) s_int (pam_cons (pem_cb (fun a => pe_callB call_abs (by rfl) T.n_abs (by decide +kernel) a) s_abs (pam_cons (pem_var 2) pam_nil)) pam_nil)) (pem_op (fun a b => pe_op op_powW a b) s_pow (pem_op (fun a b => pe_op op_powW a b) s_pow (pem_c pe_int fun _ => .int _) (pem_c pe_int fun _ => .int _)) (pem_c pe_int fun _ => .int _))) (pgt_name 3 sc__law_dice.nd))
  (psm_cons (psm_set (pem_op (fun a b => pe_op op_addP a b) s_add (pem_op (fun a b => pe_op op_addP a b) s_add (pem_op (fun a b => pe_op op_addP a b) s_add (pem_op (fun a b => pe_op op_mulP a b) s_mul (pem_op (fun a b => pe_op op_modN a b) s_mod (pem_cb (fun a => pe_callTy call_int1 (by rfl) T.n_int (by decide +kernel) a) s_int (pam_cons (pem_var 3) pam_nil)) (pem_c pe_int fun _ => .int _)) (pem_c pe_int fun _ => .int _)) (pem_op (fun a b => pe_op op_mulP a b) s_mul (pem_c pe_int fun _ => .int _) (pem_var 1))) (pem_op (fun a b => pe_op op_mulP a b) s_mul (pem_c pe_int fun _ => .int _) (pem_cb (fun a => pe_callTy call_int1 (by rfl) T.n_int (by decide +kernel) a) s_int (pam_cons (pem_op (fun a b => pe_cmpR op_lt a b (nomark _)) s_lt (pem_var 2) (pem_c pe_int fun _ => .int _)) pam_nil)))) (pem_c pe_int fun _ => .int _)) (pgt_name 4 sc__law_dice.nd))
  (psm_one (psm_retO (pom_lst (pam_cons (pem_cb (fun a => pe_callB (call_max2 rfl) (by rfl) T.n_max (by decide +kernel) a) s_max2 (pam_cons (pem_c pe_int fun _ => .int _) (pam_cons (pem_op (fun a b => pe_op op_sub a b) s_sub (pem_var 3) (pem_op (fun a b => pe_op op_powW a b) s_pow (pem_c pe_int fun _ => .int _) (pem_c pe_int fun _ => .int _))) pam_nil))) (pam_cons (pem_op (fun a b => pe_op op_modN a b) s_mod (pem_cb (fun a => pe_callTy call_int1 (by rfl) T.n_int (by decide +kernel) a) s_int (pam_cons (pem_var 4) pam_nil)) (pem_c pe_int fun _ => .int _)) (pam_cons (pem_c pe_int fun _ => .int _) pam_nil))))))))))

theorem sc__law_roll : FnScope ["_law_dice_here", "_law_total", "_law_found", "_law_one", "_law_two"] ["_law_dice_here", "_law_total"] (defScope s__law_roll) := ⟨rfl, rfl, rfl, by decide +kernel, rfl, by decide +kernel, by decide +kernel⟩
theorem ok__law_roll {P : Program} {w : World} {K : PySem.W.Frag} {mg : Str → Option Value} {base : Heap} {A : Ad} (T : Txt K mg A) : FnG P w K mg base 1 A.f__law_roll A.d__law_roll ["_law_dice_here", "_law_total"] (spG K 2 g__law_roll) := by
  refine fng_sem (k := 0) T.f__law_roll sc__law_roll fun cdv Ar outer s H E hG hr => ?_
  unfold m__law_roll
  exact (psm_cons (psm_if (ptm_cmp (fun a b => pt_cmpR op_gt a b (nomark _)) s_gt (pem_ixS 0 (pem_c pe_int fun _ => .int _)) (pem_c pe_int fun _ => .int _))
  (psm_cons (psm_set (pem_op (fun a b => pe_op op_modN a b) s_mod (pem_cb (fun a => pe_callTy call_int1 (by rfl) T.n_int (by decide +kernel) a) s_int (pam_cons (pem_ixS 0 (pem_c pe_int fun _ => .int _)) pam_nil)) (pem_var 1)) (pgt_name 2 sc__law_roll.nd))
  (psm_cons (psm_setIx 0 (pem_c pe_int fun _ => .int _) (pem_op (fun a b => pe_op op_divW a b) s_fdiv (pem_ixS 0 (pem_c pe_int fun _ => .int _)) (pem_var 1)) (fun a b c => ps_asg a (pg_sub b c set_list)))
  (psm_one (psm_ret (pem_var 2)))))
  psm_nil)
  (psm_cons (psm_setIx 0 (pem_c pe_int fun _ => .int _) (pem_op (fun a b => pe_op op_addP a b) s_add (pem_ixS 0 (pem_c pe_int fun _ => .int _)) (pem_c pe_int fun _ => .int _)) (fun a b c => ps_asg a (pg_sub b c set_list)))
  (psm_cons (psm_set (pem_op (fun a b => pe_op op_modN a b) s_mod (pem_cb (fun a => pe_callTy call_int1 (by rfl) T.n_int (by decide +kernel) a) s_int (pam_cons (pem_op (fun a b => pe_op op_addP a b) s_add (pem_ixS 0 (pem_c pe_int fun _ => .int _)) (pem_op (fun a b => pe_op op_mulP a b) s_mul (pem_c pe_int fun _ => .int _) (pem_ixS 0 (pem_c pe_int fun _ => .int _)))) pam_nil)) (pem_c pe_int fun _ => .int _)) (pgt_name 3 sc__law_roll.nd))
  (psm_cons (psm_set (pem_op (fun a b => pe_op op_addP a b) s_add (pem_op (fun a b => pe_op op_mulP a b) s_mul (pem_op (fun a b => pe_op op_modN a b) s_mod (pem_cb (fun a => pe_callTy call_int1 (by rfl) T.n_int (by decide +kernel) a) s_int (pam_cons (pem_op (fun a b => pe_op op_mulP a b) s_mul (pem_var 3) (pem_var 3)) pam_nil)) (pem_c pe_int fun _ => .int _)) (pem_var 3)) (pem_op (fun a b => pe_op op_mulP a b) s_mul (pem_c pe_int fun _ => .int _) (pem_ixS 0 (pem_c pe_int fun _ => .int _)))) (pgt_name 4 sc__law_roll.nd))
  (psm_cons (psm_set (pem_op (fun a b => pe_op op_modN a b) s_mod (pem_cb (fun a => pe_callTy call_int1 (by rfl) T.n_int (by decide +kernel) a) s_int (pam_cons (pem_var 4) pam_nil)) (pem_c pe_int fun _ => .int _)) (pgt_name 4 sc__law_roll.nd))
  (psm_one (psm_ret (pem_op (fun a b => pe_op op_modN a b) s_mod (pem_cb (fun a => pe_callTy call_int1 (by rfl) T.n_int (by decide +kernel) a) s_int (pam_cons (pem_op (fun a b => pe_op op_divW a b) s_fdiv (pem_var 4) (pem_c pe_int fun _ => .int _)) pam_nil)) (pem_var 1)))))))))

theorem sc__law_one_of : FnScope ["_law_dice_here", "_law_items"] ["_law_dice_here", "_law_items"] (defScope s__law_one_of) := ⟨rfl, rfl, rfl, by decide +kernel, rfl, by decide +kernel, by decide +kernel⟩
theorem ok__law_one_of {P : Program} {w : World} {K : PySem.W.Frag} {mg : Str → Option Value} {base : Heap} {A : Ad} (T : Txt K mg A) : FnG P w K mg base 2 A.f__law_one_of A.d__law_one_of ["_law_dice_here", "_law_items"] (spG K 2 g__law_one_of) := by
  refine fng_sem (k := 1) T.f__law_one_of sc__law_one_of fun cdv Ar outer s H E hG hr => ?_
  unfold m__law_one_of
  exact (psm_one (psm_ret (pem_op (fun a b => pe_ix ix_seq a b (fun _ _ => rfl)) s_ix (pem_var 1) (pem_call (ps := ["_law_dice_here", "_law_total"]) (g := g__law_roll) (dds := []) (ok__law_roll T) hG (hr.mono (by decide)) (by rfl) T.g__law_roll T.f__law_roll.kp T.b__law_roll .nil (fun _ => .nil) (takes_of rfl rfl rfl rfl) (pgm_s 0 (pgm_d (pem_cb (fun a => pe_callB call_len (by rfl) T.n_len (by decide +kernel) a) s_len (pam_cons (pem_var 1) pam_nil)) pgm_nil))))))

theorem sc__law_one_of__io : FnScope ["_law_dice_here", "_law_items"] ["_law_dice_here", "_law_items"] (defScope s__law_one_of) := ⟨rfl, rfl, rfl, by decide +kernel, rfl, by decide +kernel, by decide +kernel⟩
theorem ok__law_one_of__io {P : Program} {w : World} {K : PySem.W.Frag} {mg : Str → Option Value} {base : Heap} {A : Ad} (T : Txt K mg A) : FnG P w K mg base 2 A.f__law_one_of A.d__law_one_of ["_law_dice_here", "_law_items"] (spG K 2 g__law_one_of__io) := by
  refine fng_sem (k := 1) T.f__law_one_of sc__law_one_of__io fun cdv Ar outer s H E hG hr => ?_
  unfold m__law_one_of__io
  exact (psm_one (psm_ret (pem_ixS 1 (pem_call (ps := ["_law_dice_here", "_law_total"]) (g := g__law_roll) (dds := []) (ok__law_roll T) hG (hr.mono (by decide)) (by rfl) T.g__law_roll T.f__law_roll.kp T.b__law_roll .nil (fun _ => .nil) (takes_of rfl rfl rfl rfl) (pgm_s 0 (pgm_d (pem_lenS 1 (fun a => pe_callB call_len_seq (by rfl) T.n_len (by decide +kernel) a)) pgm_nil))))))

theorem sc__law_gcd : FnScope ["_law_one", "_law_two"] ["_law_one", "_law_two"] (defScope s__law_gcd) := ⟨rfl, rfl, rfl, by decide +kernel, rfl, by decide +kernel, by decide +kernel⟩
theorem ok__law_gcd {P : Program} {w : World} {K : PySem.W.Frag} {mg : Str → Option Value} {base : Heap} {A : Ad} (T : Txt K mg A) : FnG P w K mg base 1 A.f__law_gcd A.d__law_gcd ["_law_one", "_law_two"] (spG K 2 g__law_gcd) := by
  refine fng_sem (k := 0) T.f__law_gcd sc__law_gcd fun cdv Ar outer s H E hG hr => ?_
  unfold m__law_gcd
  exact (psm_cons (psm_while (fun ρ => gcdFuel ρ 1) (passes_of rfl) (ptm_cmp (fun a b => pt_cmpR op_gt a b (nomark _)) s_gt (pem_var 1) (pem_c pe_int fun _ => .int _))
  (psm_one (psm_par 0 1 rfl sc__law_gcd.nd (by decide) (pem_var 1) (pem_op (fun a b => pe_op op_modN a b) s_mod (pem_cb (fun a => pe_callTy call_int1 (by rfl) T.n_int (by decide +kernel) a) s_int (pam_cons (pem_var 0) pam_nil)) (pem_var 1)))))
  (psm_one (psm_ret (pem_var 0))))

theorem sc__law_ratio : FnScope ["_law_top", "_law_bottom", "_law_part"] ["_law_top", "_law_bottom"] (defScope s__law_ratio) := ⟨rfl, rfl, rfl, by decide +kernel, rfl, by decide +kernel, by decide +kernel⟩
theorem ok__law_ratio {P : Program} {w : World} {K : PySem.W.Frag} {mg : Str → Option Value} {base : Heap} {A : Ad} (T : Txt K mg A) : FnG P w K mg base 2 A.f__law_ratio A.d__law_ratio ["_law_top", "_law_bottom"] (spG K 2 g__law_ratio) := by
  refine fng_sem (k := 1) T.f__law_ratio sc__law_ratio fun cdv Ar outer s H E hG hr => ?_
  unfold m__law_ratio
  exact (psm_cons (psm_set (pem_call (ps := ["_law_one", "_law_two"]) (g := g__law_gcd) (dds := []) (ok__law_gcd T) hG (hr.mono (by decide)) (by rfl) T.g__law_gcd T.f__law_gcd.kp T.b__law_gcd .nil (fun _ => .nil) (takes_of rfl rfl rfl rfl) (pgm_d (pem_cb (fun a => pe_callB call_abs (by rfl) T.n_abs (by decide +kernel) a) s_abs (pam_cons (pem_var 0) pam_nil)) (pgm_d (pem_var 1) pgm_nil))) (pgt_name 2 sc__law_ratio.nd))
  (psm_one (psm_ret (pem_tup (pam_cons (pem_op (fun a b => pe_op op_divW a b) s_fdiv (pem_var 0) (pem_var 2)) (pam_cons (pem_op (fun a b => pe_op op_divW a b) s_fdiv (pem_var 1) (pem_var 2)) pam_nil))))))

theorem sc__law_plus : FnScope ["_law_one", "_law_two"] ["_law_one", "_law_two"] (defScope s__law_plus) := ⟨rfl, rfl, rfl, by decide +kernel, rfl, by decide +kernel, by decide +kernel⟩
theorem ok__law_plus {P : Program} {w : World} {K : PySem.W.Frag} {mg : Str → Option Value} {base : Heap} {A : Ad} (T : Txt K mg A) : FnG P w K mg base 3 A.f__law_plus A.d__law_plus ["_law_one", "_law_two"] (spG K 2 g__law_plus) := by
  refine fng_sem (k := 2) T.f__law_plus sc__law_plus fun cdv Ar outer s H E hG hr => ?_
  unfold m__law_plus
  exact (psm_one (psm_ret (pem_call (ps := ["_law_top", "_law_bottom"]) (g := g__law_ratio) (dds := []) (ok__law_ratio T) hG (hr.mono (by decide)) (by rfl) T.g__law_ratio T.f__law_ratio.kp T.b__law_ratio .nil (fun _ => .nil) (takes_of rfl rfl rfl rfl) (pgm_d (pem_op (fun a b => pe_op op_addP a b) s_add (pem_op (fun a b => pe_op op_mulP a b) s_mul (pem_op (fun a b => pe_ix ix_seq a b (fun _ _ => rfl)) s_ix (pem_var 0) (pem_c pe_int fun _ => .int _)) (pem_op (fun a b => pe_ix ix_seq a b (fun _ _ => rfl)) s_ix (pem_var 1) (pem_c pe_int fun _ => .int _))) (pem_op (fun a b => pe_op op_mulP a b) s_mul (pem_op (fun a b => pe_ix ix_seq a b (fun _ _ => rfl)) s_ix (pem_var 1) (pem_c pe_int fun _ => .int _)) (pem_op (fun a b => pe_ix ix_seq a b (fun _ _ => rfl)) s_ix (pem_var 0) (pem_c pe_int fun _ => .int _)))) (pgm_d (pem_op (fun a b => pe_op op_mulP a b) s_mul (pem_op (fun a b => pe_ix ix_seq a b (fun _ _ => rfl)) s_ix (pem_var 0) (pem_c pe_int fun _ => .int _)) (pem_op (fun a b => pe_ix ix_seq a b (fun _ _ => rfl)) s_ix (pem_var 1) (pem_c pe_int fun _ => .int _))) pgm_nil)))))

theorem sc__law_by : FnScope ["_law_one", "_law_two"] ["_law_one", "_law_two"] (defScope s__law_by) := ⟨rfl, rfl, rfl, by decide +kernel, rfl, by decide +kernel, by decide +kernel⟩
theorem ok__law_by {P : Program} {w : World} {K : PySem.W.Frag} {mg : Str → Option Value} {base : Heap} {A : Ad} (T : Txt K mg A) : FnG P w K mg base 3 A.f__law_by A.d__law_by ["_law_one", "_law_two"] (spG K 2 g__law_by) := by
  refine fng_sem (k := 2) T.f__law_by sc__law_by fun cdv Ar outer s H E hG hr => ?_
  unfold m__law_by
  exact (psm_one (psm_ret (pem_call (ps := ["_law_top", "_law_bottom"]) (g := g__law_ratio) (dds := []) (ok__law_ratio T) hG (hr.mono (by decide)) (by rfl) T.g__law_ratio T.f__law_ratio.kp T.b__law_ratio .nil (fun _ => .nil) (takes_of rfl rfl rfl rfl) (pgm_d (pem_op (fun a b => pe_op op_mulP a b) s_mul (pem_op (fun a b => pe_ix ix_seq a b (fun _ _ => rfl)) s_ix (pem_var 0) (pem_c pe_int fun _ => .int _)) (pem_op (fun a b => pe_ix ix_seq a b (fun _ _ => rfl)) s_ix (pem_var 1) (pem_c pe_int fun _ => .int _))) (pgm_d (pem_op (fun a b => pe_op op_mulP a b) s_mul (pem_op (fun a b => pe_ix ix_seq a b (fun _ _ => rfl)) s_ix (pem_var 0) (pem_c pe_int fun _ => .int _)) (pem_op (fun a b => pe_ix ix_seq a b (fun _ _ => rfl)) s_ix (pem_var 1) (pem_c pe_int fun _ => .int _))) pgm_nil)))))

theorem sc__law_pair : FnScope ["_law_number_here"] ["_law_number_here"] (defScope s__law_pair) := ⟨rfl, rfl, rfl, by decide +kernel, rfl, by decide +kernel, by decide +kernel⟩
theorem ok__law_pair {P : Program} {w : World} {K : PySem.W.Frag} {mg : Str → Option Value} {base : Heap} {A : Ad} (T : Txt K mg A) : FnG P w K mg base 3 A.f__law_pair A.d__law_pair ["_law_number_here"] (spG K 1 g__law_pair) := by
  refine fng_sem (k := 2) T.f__law_pair sc__law_pair fun cdv Ar outer s H E hG hr => ?_
  unfold m__law_pair
  exact (psm_one (psm_ret (pem_if (ptm_val (pem_isB .int [0] T.isB_int (pe_bltn (by rfl) T.n_int (by decide +kernel) rfl) (pem_var 0) (fun a => pe_callB call_isi (by rfl) T.n_isinstance (by decide +kernel) a))) (pem_tup (pam_cons (pem_var 0) (pam_cons (pem_c pe_int fun _ => .int _) pam_nil))) (pem_tup (pam_cons (pem_prop (pem_var 0) T.cl_Fraction.cl T.pr_Fraction_top (ok_Fraction_top T) hG (hr.mono (by decide)) T.b_Fraction_top rfl) (pam_cons (pem_prop (pem_var 0) T.cl_Fraction.cl T.pr_Fraction_bottom (ok_Fraction_bottom T) hG (hr.mono (by decide)) T.b_Fraction_bottom rfl) pam_nil))))))

theorem sc__law_pairs : FnScope ["_law_row", "_law_number_here"] ["_law_row"] (defScope s__law_pairs) := ⟨rfl, rfl, rfl, by decide +kernel, rfl, by decide +kernel, by decide +kernel⟩
theorem ok__law_pairs {P : Program} {w : World} {K : PySem.W.Frag} {mg : Str → Option Value} {base : Heap} {A : Ad} (T : Txt K mg A) : FnG P w K mg base 4 A.f__law_pairs A.d__law_pairs ["_law_row"] (spG K 1 g__law_pairs) := by
  refine fng_sem (k := 3) T.f__law_pairs sc__law_pairs fun cdv Ar outer s H E hG hr => ?_
  unfold m__law_pairs
  exact (psm_one (psm_ret (pem_frz (pom_lc rfl sc__law_pairs.nd (own := [("_law_number_here", 1)]) (pim_tup (pem_var 0)) (blkOk_by (N := ["_law_row", "_law_number_here"]) (sc := defScope s__law_pairs) (own := [("_law_number_here", 1)]) (by decide +kernel)) (fun _ _ _ _ _ => (pgt_name 1 sc__law_pairs.nd)) (fun _ _ _ _ _ => ptsm_nil) (fun _ _ _ _ _ => (pem_call (ps := ["_law_number_here"]) (g := g__law_pair) (dds := []) (ok__law_pair T) hG (hr.mono (by decide)) (by rfl) T.g__law_pair T.f__law_pair.kp T.b__law_pair .nil (fun _ => .nil) takes0 (pgm_d (pem_var 1) pgm_nil))) (by decide)))))

theorem sc__law_shown : FnScope ["_law_dice_here", "_law_pair_here"] ["_law_dice_here", "_law_pair_here"] (defScope s__law_shown) := ⟨rfl, rfl, rfl, by decide +kernel, rfl, by decide +kernel, by decide +kernel⟩
theorem ok__law_shown {P : Program} {w : World} {K : PySem.W.Frag} {mg : Str → Option Value} {base : Heap} {A : Ad} (T : Txt K mg A) : FnG P w K mg base 4 A.f__law_shown A.d__law_shown ["_law_dice_here", "_law_pair_here"] (spG K 2 g__law_shown) := by
  refine fng_sem (k := 3) T.f__law_shown sc__law_shown fun cdv Ar outer s H E hG hr => ?_
  unfold m__law_shown
  exact (psm_cons (psm_if (pwm_pt (pwm_and (ptm_cmp (fun a b => pt_cmpR (op_eqP hr.units) a b (nomark _)) s_eq (pem_op (fun a b => pe_ix ix_seq a b (fun _ _ => rfl)) s_ix (pem_var 1) (pem_c pe_int fun _ => .int _)) (pem_c pe_int fun _ => .int _)) (pwm_and1 (ptm_cmp (fun a b => pt_cmpR (op_eqP hr.units) a b (nomark _)) s_eq (pem_call (ps := ["_law_dice_here", "_law_total"]) (g := g__law_roll) (dds := []) (ok__law_roll T) hG (hr.mono (by decide)) (by rfl) T.g__law_roll T.f__law_roll.kp T.b__law_roll .nil (fun _ => .nil) (takes_of rfl rfl rfl rfl) (pgm_s 0 (pgm_d (pem_c pe_int fun _ => .int _) pgm_nil))) (pem_c pe_int fun _ => .int _)))))
  (psm_one (psm_ret (pem_op (fun a b => pe_ix ix_seq a b (fun _ _ => rfl)) s_ix (pem_var 1) (pem_c pe_int fun _ => .int _))))
  psm_nil)
  (psm_one (psm_ret (pem_frz (pom_mk T.mk_Fraction (ok_Fraction_init T) hG (hr.mono (by decide)) (by rfl) T.g_Fraction T.b_Fraction_init .nil (fun _ => .nil) (takes_of rfl rfl rfl rfl) (pgm_d (pem_op (fun a b => pe_ix ix_seq a b (fun _ _ => rfl)) s_ix (pem_var 1) (pem_c pe_int fun _ => .int _)) (pgm_d (pem_op (fun a b => pe_ix ix_seq a b (fun _ _ => rfl)) s_ix (pem_var 1) (pem_c pe_int fun _ => .int _)) pgm_nil)))))))

theorem sc__law_shown_row : FnScope ["_law_dice_here", "_law_pairs_here", "_law_pair_here"] ["_law_dice_here", "_law_pairs_here"] (defScope s__law_shown_row) := ⟨rfl, rfl, rfl, by decide +kernel, rfl, by decide +kernel, by decide +kernel⟩
theorem ok__law_shown_row {P : Program} {w : World} {K : PySem.W.Frag} {mg : Str → Option Value} {base : Heap} {A : Ad} (T : Txt K mg A) : FnG P w K mg base 5 A.f__law_shown_row A.d__law_shown_row ["_law_dice_here", "_law_pairs_here"] (spG K 2 g__law_shown_row) := by
  refine fng_sem (k := 4) T.f__law_shown_row sc__law_shown_row fun cdv Ar outer s H E hG hr => ?_
  unfold m__law_shown_row
  exact (psm_one (psm_ret (pem_cb (fun a => pe_callTy call_tuple_of (by rfl) T.n_tuple (by decide +kernel) a) s_tuple (pam_cons (pem_frz (pom_lc rfl sc__law_shown_row.nd (own := [("_law_pair_here", 2)]) (pim_list (pem_var 1)) (blkOk_by (N := ["_law_dice_here", "_law_pairs_here", "_law_pair_here"]) (sc := defScope s__law_shown_row) (own := [("_law_pair_here", 2)]) (by decide +kernel)) (fun _ _ _ _ _ => (pgt_name 2 sc__law_shown_row.nd)) (fun _ _ _ _ _ => ptsm_nil) (fun _ _ _ _ _ => (pem_call (ps := ["_law_dice_here", "_law_pair_here"]) (g := g__law_shown) (dds := []) (ok__law_shown T) hG (hr.mono (by decide)) (by rfl) T.g__law_shown T.f__law_shown.kp T.b__law_shown .nil (fun _ => .nil) takes0 (pgm_s 0 (pgm_d (pem_var 2) pgm_nil)))) (by decide))) pam_nil))))

theorem sc__law_number : FnScope ["_law_dice_here"] ["_law_dice_here"] (defScope s__law_number) := ⟨rfl, rfl, rfl, by decide +kernel, rfl, by decide +kernel, by decide +kernel⟩
theorem ok__law_number {P : Program} {w : World} {K : PySem.W.Frag} {mg : Str → Option Value} {base : Heap} {A : Ad} (T : Txt K mg A) : FnG P w K mg base 3 A.f__law_number A.d__law_number ["_law_dice_here"] (spG K 1 g__law_number) := by
  refine fng_sem (k := 2) T.f__law_number sc__law_number fun cdv Ar outer s H E hG hr => ?_
  unfold m__law_number
  exact (psm_one (psm_ret (pem_call (ps := ["_law_top", "_law_bottom"]) (g := g__law_ratio) (dds := []) (ok__law_ratio T) hG (hr.mono (by decide)) (by rfl) T.g__law_ratio T.f__law_ratio.kp T.b__law_ratio .nil (fun _ => .nil) (takes_of rfl rfl rfl rfl) (pgm_d (pem_call (ps := ["_law_dice_here", "_law_items"]) (g := g__law_one_of) (dds := []) (ok__law_one_of T) hG (hr.mono (by decide)) (by rfl) T.g__law_one_of T.f__law_one_of.kp T.b__law_one_of .nil (fun _ => .nil) (takes_of rfl rfl rfl rfl) (pgm_s 0 (pgm_d (pem_frz (pom_lst (pam_cons (pem_c pe_int fun _ => .int _) (pam_cons (pem_c pe_int fun _ => .int _) (pam_cons (pem_c pe_int fun _ => .int _) (pam_cons (pem_c pe_int fun _ => .int _) (pam_cons (pem_c pe_int fun _ => .int _) (pam_cons (pem_c pe_int fun _ => .int _) (pam_cons (pem_c pe_int fun _ => .int _) (pam_cons (pem_un (fun a => pe_un un_neg a) s_neg (pem_c pe_int fun _ => .int _)) (pam_cons (pem_un (fun a => pe_un un_neg a) s_neg (pem_c pe_int fun _ => .int _)) (pam_cons (pem_un (fun a => pe_un un_neg a) s_neg (pem_c pe_int fun _ => .int _)) (pam_cons (pem_un (fun a => pe_un un_neg a) s_neg (pem_c pe_int fun _ => .int _)) pam_nil))))))))))))) pgm_nil))) (pgm_d (pem_call (ps := ["_law_dice_here", "_law_items"]) (g := g__law_one_of) (dds := []) (ok__law_one_of T) hG (hr.mono (by decide)) (by rfl) T.g__law_one_of T.f__law_one_of.kp T.b__law_one_of .nil (fun _ => .nil) (takes_of rfl rfl rfl rfl) (pgm_s 0 (pgm_d (pem_frz (pom_lst (pam_cons (pem_c pe_int fun _ => .int _) (pam_cons (pem_c pe_int fun _ => .int _) (pam_cons (pem_c pe_int fun _ => .int _) (pam_cons (pem_c pe_int fun _ => .int _) (pam_cons (pem_c pe_int fun _ => .int _) (pam_cons (pem_c pe_int fun _ => .int _) pam_nil)))))))) pgm_nil))) pgm_nil)))))

theorem sc__law_product : FnScope ["_law_row", "_law_column", "_law_found", "_law_one", "_law_other"] ["_law_row", "_law_column"] (defScope s__law_product) := ⟨rfl, rfl, rfl, by decide +kernel, rfl, by decide +kernel, by decide +kernel⟩
theorem ok__law_product {P : Program} {w : World} {K : PySem.W.Frag} {mg : Str → Option Value} {base : Heap} {A : Ad} (T : Txt K mg A) : FnG P w K mg base 4 A.f__law_product A.d__law_product ["_law_row", "_law_column"] (spG K 2 g__law_product) := by
  refine fng_sem (k := 3) T.f__law_product sc__law_product fun cdv Ar outer s H E hG hr => ?_
  unfold m__law_product
  exact (psm_cons (psm_set (pem_tup (pam_cons (pem_c pe_int fun _ => .int _) (pam_cons (pem_c pe_int fun _ => .int _) pam_nil))) (pgt_name 2 sc__law_product.nd))
  (psm_cons (psm_for (fun a b c => ps_for (passes_of rfl) rfl a b c) (pim_zip (fun a => pi_zip (by rfl) T.n_zip a) (pam_cons (pem_var 0) (pam_cons (pem_var 1) pam_nil))) (pgt_tup rfl (pgts_cons (pgt_name 3 sc__law_product.nd) (pgts_cons (pgt_name 4 sc__law_product.nd) pgts_nil)))
  (psm_one (psm_set (pem_call (ps := ["_law_one", "_law_two"]) (g := g__law_plus) (dds := []) (ok__law_plus T) hG (hr.mono (by decide)) (by rfl) T.g__law_plus T.f__law_plus.kp T.b__law_plus .nil (fun _ => .nil) (takes_of rfl rfl rfl rfl) (pgm_d (pem_var 2) (pgm_d (pem_call (ps := ["_law_one", "_law_two"]) (g := g__law_by) (dds := []) (ok__law_by T) hG (hr.mono (by decide)) (by rfl) T.g__law_by T.f__law_by.kp T.b__law_by .nil (fun _ => .nil) (takes_of rfl rfl rfl rfl) (pgm_d (pem_var 3) (pgm_d (pem_var 4) pgm_nil))) pgm_nil))) (pgt_name 2 sc__law_product.nd))))
  (psm_one (psm_ret (pem_var 2)))))

theorem sc__law_mix : FnScope ["_law_lines_here", "_law_factors", "_law_place", "_law_row"] ["_law_lines_here", "_law_factors"] (defScope s__law_mix) := ⟨rfl, rfl, rfl, by decide +kernel, rfl, by decide +kernel, by decide +kernel⟩
theorem ok__law_mix {P : Program} {w : World} {K : PySem.W.Frag} {mg : Str → Option Value} {base : Heap} {A : Ad} (T : Txt K mg A) : FnG P w K mg base 5 A.f__law_mix A.d__law_mix ["_law_lines_here", "_law_factors"] (spG K 2 g__law_mix) := by
  refine fng_sem (k := 4) T.f__law_mix sc__law_mix fun cdv Ar outer s H E hG hr => ?_
  unfold m__law_mix
  exact (psm_one (psm_ret (pem_frz (pom_lc rfl sc__law_mix.nd (own := [("_law_place", 2)]) (pim_range1 (fun a => pi_range1 (by rfl) T.n_range a) (pam_cons (pem_cb (fun a => pe_callB call_len (by rfl) T.n_len (by decide +kernel) a) s_len (pam_cons (pem_op (fun a b => pe_ix ix_seq a b (fun _ _ => rfl)) s_ix (pem_var 0) (pem_c pe_int fun _ => .int _)) pam_nil)) pam_nil)) (blkOk_by (N := ["_law_lines_here", "_law_factors", "_law_place", "_law_row"]) (sc := defScope s__law_mix) (own := [("_law_place", 2)]) (by decide +kernel)) (fun _ _ _ _ _ => (pgt_name 2 sc__law_mix.nd)) (fun _ _ _ _ _ => ptsm_nil) (fun _ _ _ _ _ => (pem_call (ps := ["_law_row", "_law_column"]) (g := g__law_product) (dds := []) (ok__law_product T) hG (hr.mono (by decide)) (by rfl) T.g__law_product T.f__law_product.kp T.b__law_product .nil (fun _ => .nil) takes0 (pgm_d (pem_frz (pom_lc rfl sc__law_mix.nd (own := [("_law_row", 3)]) (pim_list (pem_var 0)) (by exact blkOk_by (by kernel_rfl)) (fun _ _ _ _ _ => (pgt_name 3 sc__law_mix.nd)) (fun _ _ _ _ _ => ptsm_nil) (fun _ _ _ _ _ => (pem_op (fun a b => pe_ix ix_seq a b (fun _ _ => rfl)) s_ix (pem_var 3) (pem_var 2))) (by decide))) (pgm_d (pem_var 1) pgm_nil)))) (by decide)))))
end K04
set_option Elab.async false
set_option linter.all false
set_option maxRecDepth 100000
set_option maxHeartbeats 4000000
namespace K04
open PySem PySem.Spec PyProof.Rows L2 L3
theorem sc__law_lines : FnScope ["_law_dice_here", "_law_most", "_law_wide", "_law_size", "_law_found", "_law_turn", "_law_way", "_law_fresh", "_law_place", "_law_one", "_law_other"] ["_law_dice_here", "_law_most", "_law_wide"] (defScope s__law_lines) := ⟨rfl, rfl, rfl, by decide +kernel, rfl, by decide +kernel, by decide +kernel⟩
theorem ok__law_lines {P : Program} {w : World} {K : PySem.W.Frag} {mg : Str → Option Value} {base : Heap} {A : Ad} (T : Txt K mg A) : FnG P w K mg base 4 A.f__law_lines A.d__law_lines ["_law_dice_here", "_law_most", "_law_wide"] (spG K 3 g__law_lines) := by
  refine fng_sem (k := 3) T.f__law_lines sc__law_lines fun cdv Ar outer s H E hG hr => ?_
  unfold m__law_lines
  exact (psm_cons (psm_parDO 3 4 rfl sc__law_lines.nd (by decide) (pem_op (fun a b => pe_op op_addP a b) s_add (pem_c pe_int fun _ => .int _) (pem_call (ps := ["_law_dice_here", "_law_total"]) (g := g__law_roll) (dds := []) (ok__law_roll T) hG (hr.mono (by decide)) (by rfl) T.g__law_roll T.f__law_roll.kp T.b__law_roll .nil (fun _ => .nil) (takes_of rfl rfl rfl rfl) (pgm_s 0 (pgm_d (pem_var 2) pgm_nil)))) (pom_lst pam_nil))
  (psm_cons (psm_for (fun a b c => ps_for (passes_of rfl) rfl a b c) (pim_range1 (fun a => pi_range1 (by rfl) T.n_range a) (pam_cons (pem_op (fun a b => pe_op op_addP a b) s_add (pem_c pe_int fun _ => .int _) (pem_call (ps := ["_law_dice_here", "_law_total"]) (g := g__law_roll) (dds := []) (ok__law_roll T) hG (hr.mono (by decide)) (by rfl) T.g__law_roll T.f__law_roll.kp T.b__law_roll .nil (fun _ => .nil) (takes_of rfl rfl rfl rfl) (pgm_s 0 (pgm_d (pem_var 1) pgm_nil)))) pam_nil)) (pgt_name 5 sc__law_lines.nd)
  (psm_cons (psm_par 6 7 rfl sc__law_lines.nd (by decide) (pem_call (ps := ["_law_dice_here", "_law_total"]) (g := g__law_roll) (dds := []) (ok__law_roll T) hG (hr.mono (by decide)) (by rfl) T.g__law_roll T.f__law_roll.kp T.b__law_roll .nil (fun _ => .nil) (takes_of rfl rfl rfl rfl) (pgm_s 0 (pgm_d (pem_c pe_int fun _ => .int _) pgm_nil))) (pem_frz (pom_lc rfl sc__law_lines.nd (own := [("_law_place", 8)]) (pim_range1 (fun a => pi_range1 (by rfl) T.n_range a) (pam_cons (pem_var 3) pam_nil)) (blkOk_by (N := ["_law_dice_here", "_law_most", "_law_wide", "_law_size", "_law_found", "_law_turn", "_law_way", "_law_fresh", "_law_place", "_law_one", "_law_other"]) (sc := defScope s__law_lines) (own := [("_law_place", 8)]) (by decide +kernel)) (fun _ _ _ _ _ => (pgt_name 8 sc__law_lines.nd)) (fun _ _ _ _ _ => ptsm_nil) (fun _ _ _ _ _ => (pem_call (ps := ["_law_dice_here"]) (g := g__law_number) (dds := []) (ok__law_number T) hG (hr.mono (by decide)) (by rfl) T.g__law_number T.f__law_number.kp T.b__law_number .nil (fun _ => .nil) takes0 (pgm_s 0 pgm_nil))) (by decide))))
  (psm_cons (psm_if (pwm_pt (pwm_and (ptm_cmp (fun a b => pt_cmpR (op_eqP hr.units) a b (nomark _)) s_eq (pem_var 6) (pem_c pe_int fun _ => .int _)) (pwm_and1 (ptm_ne0 4 (fun a b => pt_cmpR (op_neD hr.units) a b (nomark _))))))
  (psm_one (psm_setLcD 7 rfl sc__law_lines.nd (sw_true rfl rfl rfl (by decide +kernel)) (own := [("_law_one", 9)]) (pim_list (pem_call (ps := ["_law_dice_here", "_law_items"]) (g := g__law_one_of__io) (dds := []) (ok__law_one_of__io T) hG (hr.mono (by decide)) (by rfl) T.g__law_one_of T.f__law_one_of.kp T.b__law_one_of .nil (fun _ => .nil) (takes_of rfl rfl rfl rfl) (pgm_s 0 (pgm_s 4 pgm_nil)))) (blkOk_by (N := ["_law_dice_here", "_law_most", "_law_wide", "_law_size", "_law_found", "_law_turn", "_law_way", "_law_fresh", "_law_place", "_law_one", "_law_other"]) (sc := defScope s__law_lines) (own := [("_law_one", 9)]) (by decide +kernel)) (fun _ _ _ _ _ => (pgt_name 9 sc__law_lines.nd)) (fun _ _ _ _ _ => ptsm_nil) (fun _ _ _ _ _ => (pem_call (ps := ["_law_one", "_law_two"]) (g := g__law_by) (dds := []) (he := st_tup) (ok__law_by T) hG (hr.mono (by decide)) (by rfl) T.g__law_by T.f__law_by.kp T.b__law_by .nil (fun _ => .nil) takes0 (pgm_d (hs := st_tup) (pem_tup (pam_cons (pem_c pe_int fun _ => .int _) (pam_cons (pem_c pe_int fun _ => .int _) pam_nil))) (pgm_d (pem_var 9) pgm_nil)))) (by decide)))
  psm_nil)
  (psm_cons (psm_if (pwm_pt (pwm_and (ptm_cmp (fun a b => pt_cmpR (op_eqP hr.units) a b (nomark _)) s_eq (pem_var 6) (pem_c pe_int fun _ => .int _)) (pwm_and1 (ptm_cmp (fun a b => pt_cmpR op_gt a b (nomark _)) s_gt (pem_lenS 4 (fun a => pe_callB call_len_seq (by rfl) T.n_len (by decide +kernel) a)) (pem_c pe_int fun _ => .int _)))))
  (psm_one (psm_setLcD 7 rfl sc__law_lines.nd (sw_true rfl rfl rfl (by decide +kernel)) (own := [("_law_one", 9), ("_law_other", 10)]) (pim_zip (fun a => pi_zip (by rfl) T.n_zip a) (pam_cons (pem_ixS 4 (pem_c pe_int fun _ => .int _)) (pam_cons (pem_ixS 4 (pem_un (fun a => pe_un un_neg a) s_neg (pem_c pe_int fun _ => .int _))) pam_nil))) (blkOk_by (N := ["_law_dice_here", "_law_most", "_law_wide", "_law_size", "_law_found", "_law_turn", "_law_way", "_law_fresh", "_law_place", "_law_one", "_law_other"]) (sc := defScope s__law_lines) (own := [("_law_one", 9), ("_law_other", 10)]) (by decide +kernel)) (fun _ _ _ _ _ => (pgt_tup rfl (pgts_cons (pgt_name 9 sc__law_lines.nd) (pgts_cons (pgt_name 10 sc__law_lines.nd) pgts_nil)))) (fun _ _ _ _ _ => ptsm_nil) (fun _ _ _ _ _ => (pem_call (ps := ["_law_one", "_law_two"]) (g := g__law_plus) (dds := []) (ok__law_plus T) hG (hr.mono (by decide)) (by rfl) T.g__law_plus T.f__law_plus.kp T.b__law_plus .nil (fun _ => .nil) takes0 (pgm_d (pem_var 9) (pgm_d (pem_var 10) pgm_nil)))) (by decide)))
  psm_nil)
  (psm_cons (psm_if (ptm_cmp (fun a b => pt_cmpR (op_eqP hr.units) a b (nomark _)) s_eq (pem_var 6) (pem_c pe_int fun _ => .int _))
  (psm_one (psm_set (pem_op (fun a b => pe_op op_mulP a b) s_mul (pem_frz (pom_lst (pam_cons (hs := st_tup) (pem_tup (pam_cons (pem_c pe_int fun _ => .int _) (pam_cons (pem_c pe_int fun _ => .int _) pam_nil))) pam_nil))) (pem_var 3)) (pgt_name 7 sc__law_lines.nd)))
  psm_nil)
  (psm_one (psm_app 4 (pem_var 7) (fun a b => ps_expr (pe_bm PySem.F.plainAttrs_list PySem.F.slot_list_append PySem.F.type_list_append mt_append a b)))))))))
  (psm_one (psm_ret (pem_dat 4)))))
end K04
set_option Elab.async false
set_option linter.all false
set_option maxRecDepth 100000
set_option maxHeartbeats 4000000
namespace K04
open PySem PySem.Spec PyProof.Rows L2 L3
theorem sc__law_shown_lines : FnScope ["_law_dice_here", "_law_lines_here", "_law_row"] ["_law_dice_here", "_law_lines_here"] (defScope s__law_shown_lines) := ⟨rfl, rfl, rfl, by decide +kernel, rfl, by decide +kernel, by decide +kernel⟩
theorem ok__law_shown_lines {P : Program} {w : World} {K : PySem.W.Frag} {mg : Str → Option Value} {base : Heap} {A : Ad} (T : Txt K mg A) : FnG P w K mg base 6 A.f__law_shown_lines A.d__law_shown_lines ["_law_dice_here", "_law_lines_here"] (spG K 2 g__law_shown_lines) := by
  refine fng_sem (k := 5) T.f__law_shown_lines sc__law_shown_lines fun cdv Ar outer s H E hG hr => ?_
  unfold m__law_shown_lines
  exact (psm_one (psm_ret (pem_cb (fun a => pe_callTy call_tuple_of (by rfl) T.n_tuple (by decide +kernel) a) s_tuple (pam_cons (pem_frz (pom_lc rfl sc__law_shown_lines.nd (own := [("_law_row", 2)]) (pim_list (pem_var 1)) (blkOk_by (N := ["_law_dice_here", "_law_lines_here", "_law_row"]) (sc := defScope s__law_shown_lines) (own := [("_law_row", 2)]) (by decide +kernel)) (fun _ _ _ _ _ => (pgt_name 2 sc__law_shown_lines.nd)) (fun _ _ _ _ _ => ptsm_nil) (fun _ _ _ _ _ => (pem_call (ps := ["_law_dice_here", "_law_pairs_here"]) (g := g__law_shown_row) (dds := []) (ok__law_shown_row T) hG (hr.mono (by decide)) (by rfl) T.g__law_shown_row T.f__law_shown_row.kp T.b__law_shown_row .nil (fun _ => .nil) takes0 (pgm_s 0 (pgm_d (pem_var 2) pgm_nil)))) (by decide))) pam_nil))))

theorem sc__law_inverse : FnScope ["_law_pair_here"] ["_law_pair_here"] (defScope s__law_inverse) := ⟨rfl, rfl, rfl, by decide +kernel, rfl, by decide +kernel, by decide +kernel⟩
theorem ok__law_inverse {P : Program} {w : World} {K : PySem.W.Frag} {mg : Str → Option Value} {base : Heap} {A : Ad} (T : Txt K mg A) : FnG P w K mg base 1 A.f__law_inverse A.d__law_inverse ["_law_pair_here"] (spG K 1 g__law_inverse) := by
  refine fng_sem (k := 0) T.f__law_inverse sc__law_inverse fun cdv Ar outer s H E hG hr => ?_
  unfold m__law_inverse
  exact (psm_one (psm_ret (pem_if (ptm_cmp (fun a b => pt_cmpR op_gt a b (nomark _)) s_gt (pem_op (fun a b => pe_ix ix_seq a b (fun _ _ => rfl)) s_ix (pem_var 0) (pem_c pe_int fun _ => .int _)) (pem_c pe_int fun _ => .int _)) (pem_tup (pam_cons (pem_op (fun a b => pe_ix ix_seq a b (fun _ _ => rfl)) s_ix (pem_var 0) (pem_c pe_int fun _ => .int _)) (pam_cons (pem_op (fun a b => pe_ix ix_seq a b (fun _ _ => rfl)) s_ix (pem_var 0) (pem_c pe_int fun _ => .int _)) pam_nil))) (pem_tup (pam_cons (pem_op (fun a b => pe_op op_sub a b) s_sub (pem_c pe_int fun _ => .int _) (pem_op (fun a b => pe_ix ix_seq a b (fun _ _ => rfl)) s_ix (pem_var 0) (pem_c pe_int fun _ => .int _))) (pam_cons (pem_op (fun a b => pe_op op_sub a b) s_sub (pem_c pe_int fun _ => .int _) (pem_op (fun a b => pe_ix ix_seq a b (fun _ _ => rfl)) s_ix (pem_var 0) (pem_c pe_int fun _ => .int _))) pam_nil))))))

theorem sc__law_without : FnScope ["_law_row", "_law_line", "_law_place", "_law_turn", "_law_one", "_law_other"] ["_law_row", "_law_line", "_law_place"] (defScope s__law_without) := ⟨rfl, rfl, rfl, by decide +kernel, rfl, by decide +kernel, by decide +kernel⟩
theorem ok__law_without {P : Program} {w : World} {K : PySem.W.Frag} {mg : Str → Option Value} {base : Heap} {A : Ad} (T : Txt K mg A) : FnG P w K mg base 4 A.f__law_without A.d__law_without ["_law_row", "_law_line", "_law_place"] (spG K 3 g__law_without) := by
  refine fng_sem (k := 3) T.f__law_without sc__law_without fun cdv Ar outer s H E hG hr => ?_
  unfold m__law_without
  exact (psm_cons (psm_set (pem_tup (pam_cons (pem_op (fun a b => pe_op op_sub a b) s_sub (pem_c pe_int fun _ => .int _) (pem_op (fun a b => pe_ix ix_seq a b (fun _ _ => rfl)) s_ix (pem_op (fun a b => pe_ix ix_seq a b (fun _ _ => rfl)) s_ix (pem_var 0) (pem_var 2)) (pem_c pe_int fun _ => .int _))) (pam_cons (pem_op (fun a b => pe_ix ix_seq a b (fun _ _ => rfl)) s_ix (pem_op (fun a b => pe_ix ix_seq a b (fun _ _ => rfl)) s_ix (pem_var 0) (pem_var 2)) (pem_c pe_int fun _ => .int _)) pam_nil))) (pgt_name 3 sc__law_without.nd))
  (psm_one (psm_ret (pem_frz (pom_lc rfl sc__law_without.nd (own := [("_law_one", 4), ("_law_other", 5)]) (pim_zip (fun a => pi_zip (by rfl) T.n_zip a) (pam_cons (pem_var 0) (pam_cons (pem_var 1) pam_nil))) (blkOk_by (N := ["_law_row", "_law_line", "_law_place", "_law_turn", "_law_one", "_law_other"]) (sc := defScope s__law_without) (own := [("_law_one", 4), ("_law_other", 5)]) (by decide +kernel)) (fun _ _ _ _ _ => (pgt_tup rfl (pgts_cons (pgt_name 4 sc__law_without.nd) (pgts_cons (pgt_name 5 sc__law_without.nd) pgts_nil)))) (fun _ _ _ _ _ => ptsm_nil) (fun _ _ _ _ _ => (pem_call (ps := ["_law_one", "_law_two"]) (g := g__law_plus) (dds := []) (ok__law_plus T) hG (hr.mono (by decide)) (by rfl) T.g__law_plus T.f__law_plus.kp T.b__law_plus .nil (fun _ => .nil) takes0 (pgm_d (pem_var 4) (pgm_d (pem_call (ps := ["_law_one", "_law_two"]) (g := g__law_by) (dds := []) (ok__law_by T) hG (hr.mono (by decide)) (by rfl) T.g__law_by T.f__law_by.kp T.b__law_by .nil (fun _ => .nil) takes0 (pgm_d (pem_var 3) (pgm_d (pem_var 5) pgm_nil))) pgm_nil)))) (by decide))))))

theorem sc__law_cleared : FnScope ["_law_lines_here", "_law_left", "_law_found", "_law_place", "_law_some", "_law_line", "_law_turn", "_law_row", "_law_at", "_law_one"] ["_law_lines_here"] (defScope s__law_cleared) := ⟨rfl, rfl, rfl, by decide +kernel, rfl, by decide +kernel, by decide +kernel⟩
theorem ok__law_cleared {P : Program} {w : World} {K : PySem.W.Frag} {mg : Str → Option Value} {base : Heap} {A : Ad} (T : Txt K mg A) : FnG P w K mg base 5 A.f__law_cleared A.d__law_cleared ["_law_lines_here"] (spG K 1 g__law_cleared) := by
  refine fng_sem (k := 4) T.f__law_cleared sc__law_cleared fun cdv Ar outer s H E hG hr => ?_
  unfold m__law_cleared
  exact (psm_cons (psm_parOD 1 2 rfl sc__law_cleared.nd (by decide) (pom_lc rfl sc__law_cleared.nd (own := [("_law_row", 7)]) (pim_list (pem_var 0)) (blkOk_by (N := ["_law_lines_here", "_law_left", "_law_found", "_law_place", "_law_some", "_law_line", "_law_turn", "_law_row", "_law_at", "_law_one"]) (sc := defScope s__law_cleared) (own := [("_law_row", 7)]) (by decide +kernel)) (fun _ _ _ _ _ => (pgt_name 7 sc__law_cleared.nd)) (fun _ _ _ _ _ => ptsm_nil) (fun _ _ _ _ _ => (pem_frz (pom_listOf (fun a => pe_callTy call_list_of (by rfl) T.n_list (by decide +kernel) a) (pem_var 7)))) (by decide)) (pem_frz (pom_lst pam_nil)))
  (psm_cons (psm_for (fun a b c => ps_for (passes_of rfl) rfl a b c) (pim_range1 (fun a => pi_range1 (by rfl) T.n_range a) (pam_cons (pem_cb (fun a => pe_callB call_len (by rfl) T.n_len (by decide +kernel) a) s_len (pam_cons (pem_op (fun a b => pe_ix ix_seq a b (fun _ _ => rfl)) s_ix (pem_var 0) (pem_c pe_int fun _ => .int _)) pam_nil)) pam_nil)) (pgt_name 3 sc__law_cleared.nd)
  (psm_cons (psm_setLcSD 4 1 (fun _ _ _ _ _ h r => yieldsC_enum h r) rfl sc__law_cleared.nd (sw_true rfl rfl rfl (by decide +kernel)) (own := [("_law_at", 8), ("_law_row", 7)]) (pi_slotE 1 (fun a => pi_enum (by rfl) T.n_enumerate a)) (blkOk_by (N := ["_law_lines_here", "_law_left", "_law_found", "_law_place", "_law_some", "_law_line", "_law_turn", "_law_row", "_law_at", "_law_one"]) (sc := defScope s__law_cleared) (own := [("_law_at", 8), ("_law_row", 7)]) (by decide +kernel)) (fun _ _ _ _ _ => (pgt_tup rfl (pgts_cons (pgt_name 8 sc__law_cleared.nd) (pgts_cons (pgt_name 7 sc__law_cleared.nd) pgts_nil)))) (fun _ _ _ _ _ => (ptsm_one (ptm_cmp (fun a b => pt_cmpR (op_neP hr.units) a b (nomark _)) s_ne (pem_op (fun a b => pe_ix ix_seq a b (fun _ _ => rfl)) s_ix (pem_op (fun a b => pe_ix ix_seq a b (fun _ _ => rfl)) s_ix (pem_var 7) (pem_var 3)) (pem_c pe_int fun _ => .int _)) (pem_c pe_int fun _ => .int _)))) (fun _ _ _ _ _ => (pem_var 8)) (by decide))
  (psm_one (psm_if (ptm_cmp (fun a b => pt_cmpR (op_neP hr.units) a b (nomark _)) s_ne (pem_var 4) (pem_frz (pom_lst pam_nil)))
  (psm_cons (psm_set (pem_popAt 1 (pem_op (fun a b => pe_ix ix_seq a b (fun _ _ => rfl)) s_ix (pem_var 4) (pem_c pe_int fun _ => .int _)) (fun a b => pe_bm PySem.F.plainAttrs_list PySem.F.slot_list_pop PySem.F.type_list_pop mt_popAt a b)) (pgt_name 5 sc__law_cleared.nd))
  (psm_cons (psm_set (pem_call (ps := ["_law_pair_here"]) (g := g__law_inverse) (dds := []) (ok__law_inverse T) hG (hr.mono (by decide)) (by rfl) T.g__law_inverse T.f__law_inverse.kp T.b__law_inverse .nil (fun _ => .nil) (takes_of rfl rfl rfl rfl) (pgm_d (pem_op (fun a b => pe_ix ix_seq a b (fun _ _ => rfl)) s_ix (pem_var 5) (pem_var 3)) pgm_nil)) (pgt_name 6 sc__law_cleared.nd))
  (psm_cons (psm_set (pem_frz (pom_lc rfl sc__law_cleared.nd (own := [("_law_one", 9)]) (pim_list (pem_var 5)) (blkOk_by (N := ["_law_lines_here", "_law_left", "_law_found", "_law_place", "_law_some", "_law_line", "_law_turn", "_law_row", "_law_at", "_law_one"]) (sc := defScope s__law_cleared) (own := [("_law_one", 9)]) (by decide +kernel)) (fun _ _ _ _ _ => (pgt_name 9 sc__law_cleared.nd)) (fun _ _ _ _ _ => ptsm_nil) (fun _ _ _ _ _ => (pem_call (ps := ["_law_one", "_law_two"]) (g := g__law_by) (dds := []) (ok__law_by T) hG (hr.mono (by decide)) (by rfl) T.g__law_by T.f__law_by.kp T.b__law_by .nil (fun _ => .nil) takes0 (pgm_d (pem_var 6) (pgm_d (pem_var 9) pgm_nil)))) (by decide))) (pgt_name 5 sc__law_cleared.nd))
  (psm_cons (psm_setLc 1 rfl sc__law_cleared.nd (sw_true rfl rfl rfl (by decide +kernel)) (own := [("_law_row", 7)]) (pim_list (pem_dat 1)) (blkOk_by (N := ["_law_lines_here", "_law_left", "_law_found", "_law_place", "_law_some", "_law_line", "_law_turn", "_law_row", "_law_at", "_law_one"]) (sc := defScope s__law_cleared) (own := [("_law_row", 7)]) (by decide +kernel)) (fun _ _ _ _ _ => (pgt_name 7 sc__law_cleared.nd)) (fun _ _ _ _ _ => ptsm_nil) (fun _ _ _ _ _ => (pem_call (ps := ["_law_row", "_law_line", "_law_place"]) (g := g__law_without) (dds := []) (ok__law_without T) hG (hr.mono (by decide)) (by rfl) T.g__law_without T.f__law_without.kp T.b__law_without .nil (fun _ => .nil) takes0 (pgm_d (pem_var 7) (pgm_d (pem_var 5) (pgm_d (pem_var 3) pgm_nil))))) (by decide))
  (psm_one (psm_set (pem_op (fun a b => pe_op op_addP a b) s_add (pem_frz (pom_lc rfl sc__law_cleared.nd (own := [("_law_row", 7)]) (pim_list (pem_var 2)) (blkOk_by (N := ["_law_lines_here", "_law_left", "_law_found", "_law_place", "_law_some", "_law_line", "_law_turn", "_law_row", "_law_at", "_law_one"]) (sc := defScope s__law_cleared) (own := [("_law_row", 7)]) (by decide +kernel)) (fun _ _ _ _ _ => (pgt_name 7 sc__law_cleared.nd)) (fun _ _ _ _ _ => ptsm_nil) (fun _ _ _ _ _ => (pem_call (ps := ["_law_row", "_law_line", "_law_place"]) (g := g__law_without) (dds := []) (ok__law_without T) hG (hr.mono (by decide)) (by rfl) T.g__law_without T.f__law_without.kp T.b__law_without .nil (fun _ => .nil) takes0 (pgm_d (pem_var 7) (pgm_d (pem_var 5) (pgm_d (pem_var 3) pgm_nil))))) (by decide))) (pem_frz (pom_lst (pam_cons (pem_var 5) pam_nil)))) (pgt_name 2 sc__law_cleared.nd)))))))
  psm_nil))))
  (psm_one (psm_ret (pem_var 2)))))

theorem sc__law_are_told : FnScope ["_law_numbers", "_law_one"] ["_law_numbers"] (defScope s__law_are_told) := ⟨rfl, rfl, rfl, by decide +kernel, rfl, by decide +kernel, by decide +kernel⟩
theorem ok__law_are_told {P : Program} {w : World} {K : PySem.W.Frag} {mg : Str → Option Value} {base : Heap} {A : Ad} (T : Txt K mg A) : FnG P w K mg base 1 A.f__law_are_told A.d__law_are_told ["_law_numbers"] (spG K 1 g__law_are_told) := by
  refine fng_sem (k := 0) T.f__law_are_told sc__law_are_told fun cdv Ar outer s H E hG hr => ?_
  unfold m__law_are_told
  exact (psm_one (psm_ret (pem_op (fun a b => pe_cmpR (op_eqP hr.units) a b (nomark _)) s_eq (pem_frz (pom_lc rfl sc__law_are_told.nd (own := [("_law_one", 1)]) (pim_tup (pem_var 0)) (blkOk_by (N := ["_law_numbers", "_law_one"]) (sc := defScope s__law_are_told) (own := [("_law_one", 1)]) (by decide +kernel)) (fun _ _ _ _ _ => (pgt_name 1 sc__law_are_told.nd)) (fun _ _ _ _ _ => (ptsm_one (ptm_not (ptm_val (pem_isC 0 [] T.cl_Fraction T.isC_Fraction T.isO_Fraction (pe_glob rfl T.g_Fraction rfl) (pem_var 1) (fun a => pe_callB call_isi (by rfl) T.n_isinstance (by decide +kernel) a)))))) (fun _ _ _ _ _ => (pem_c pe_int fun _ => .int _)) (by decide))) (pem_frz (pom_lst pam_nil)))))
end K04
set_option Elab.async false
set_option linter.all false
set_option maxRecDepth 100000
set_option maxHeartbeats 4000000
namespace K04
open PySem PySem.Spec PyProof.Rows L2 L3
theorem sc__law_right : FnScope ["_law_dice_here", "_law_lines_here", "_law_rows", "_law_before", "_law_column", "_law_factors", "_law_told", "_law_mixed", "_law_least", "_law_line", "_law_one", "_law_row"] ["_law_dice_here"] (defScope s__law_right) := ⟨rfl, rfl, rfl, by decide +kernel, rfl, by decide +kernel, by decide +kernel⟩
theorem ok__law_right {P : Program} {w : World} {K : PySem.W.Frag} {mg : Str → Option Value} {base : Heap} {A : Ad} (T : Txt K mg A) : FnG P w K mg base 10 A.f__law_right A.d__law_right ["_law_dice_here"] (spG K 1 g__law_right) := by
  refine fng_sem (k := 9) T.f__law_right sc__law_right fun cdv Ar outer s H E hG hr => ?_
  unfold m__law_right
  exact (psm_cons (psm_set (pem_call (ps := ["_law_dice_here", "_law_most", "_law_wide"]) (g := g__law_lines) (dds := []) (ok__law_lines T) hG (hr.mono (by decide)) (by rfl) T.g__law_lines T.f__law_lines.kp T.b__law_lines .nil (fun _ => .nil) (takes_of rfl rfl rfl rfl) (pgm_s 0 (pgm_d (pem_c pe_int fun _ => .int _) (pgm_d (pem_c pe_int fun _ => .int _) pgm_nil)))) (pgt_name 1 sc__law_right.nd))
  (psm_cons (psm_par 2 3 rfl sc__law_right.nd (by decide) (pem_call (ps := ["_law_dice_here", "_law_lines_here"]) (g := g__law_shown_lines) (dds := []) (ok__law_shown_lines T) hG (hr.mono (by decide)) (by rfl) T.g__law_shown_lines T.f__law_shown_lines.kp T.b__law_shown_lines .nil (fun _ => .nil) (takes_of rfl rfl rfl rfl) (pgm_s 0 (pgm_d (pem_var 1) pgm_nil))) (pem_frz (pom_lc rfl sc__law_right.nd (own := [("_law_line", 9)]) (pim_list (pem_var 1)) (blkOk_by (N := ["_law_dice_here", "_law_lines_here", "_law_rows", "_law_before", "_law_column", "_law_factors", "_law_told", "_law_mixed", "_law_least", "_law_line", "_law_one", "_law_row"]) (sc := defScope s__law_right) (own := [("_law_line", 9)]) (by decide +kernel)) (fun _ _ _ _ _ => (pgt_name 9 sc__law_right.nd)) (fun _ _ _ _ _ => ptsm_nil) (fun _ _ _ _ _ => (pem_frz (pom_listOf (fun a => pe_callTy call_list_of (by rfl) T.n_list (by decide +kernel) a) (pem_var 9)))) (by decide))))
  (psm_cons (psm_set (pem_tup (pam_cons (pem_frz (pom_lc rfl sc__law_right.nd (own := [("_law_one", 10)]) (pim_list (pem_op (fun a b => pe_ix ix_seq a b (fun _ _ => rfl)) s_ix (pem_var 1) (pem_c pe_int fun _ => .int _))) (blkOk_by (N := ["_law_dice_here", "_law_lines_here", "_law_rows", "_law_before", "_law_column", "_law_factors", "_law_told", "_law_mixed", "_law_least", "_law_line", "_law_one", "_law_row"]) (sc := defScope s__law_right) (own := [("_law_one", 10)]) (by decide +kernel)) (fun _ _ _ _ _ => (pgt_name 10 sc__law_right.nd)) (fun _ _ _ _ _ => ptsm_nil) (fun _ _ _ _ _ => (pem_call (ps := ["_law_dice_here"]) (g := g__law_number) (dds := []) (ok__law_number T) hG (hr.mono (by decide)) (by rfl) T.g__law_number T.f__law_number.kp T.b__law_number .nil (fun _ => .nil) takes0 (pgm_s 0 pgm_nil))) (by decide))) (pam_cons (pem_frz (pom_lc rfl sc__law_right.nd (own := [("_law_line", 9)]) (pim_list (pem_var 1)) (blkOk_by (N := ["_law_dice_here", "_law_lines_here", "_law_rows", "_law_before", "_law_column", "_law_factors", "_law_told", "_law_mixed", "_law_least", "_law_line", "_law_one", "_law_row"]) (sc := defScope s__law_right) (own := [("_law_line", 9)]) (by decide +kernel)) (fun _ _ _ _ _ => (pgt_name 9 sc__law_right.nd)) (fun _ _ _ _ _ => ptsm_nil) (fun _ _ _ _ _ => (pem_call (ps := ["_law_dice_here"]) (g := g__law_number) (dds := []) (ok__law_number T) hG (hr.mono (by decide)) (by rfl) T.g__law_number T.f__law_number.kp T.b__law_number .nil (fun _ => .nil) takes0 (pgm_s 0 pgm_nil))) (by decide))) pam_nil))) (pgt_tup rfl (pgts_cons (pgt_name 4 sc__law_right.nd) (pgts_cons (pgt_name 5 sc__law_right.nd) pgts_nil))))
  (psm_cons (psm_set (pem_call (ps := ["rows", "column"]) (g := g_times_of) (dds := []) (ok_times_of T) hG (hr.mono (by decide)) (by rfl) T.g_times_of T.f_times_of.kp T.b_times_of .nil (fun _ => .nil) (takes_of rfl rfl rfl rfl) (pgm_d (pem_var 2) (pgm_d (pem_call (ps := ["_law_dice_here", "_law_pairs_here"]) (g := g__law_shown_row) (dds := []) (ok__law_shown_row T) hG (hr.mono (by decide)) (by rfl) T.g__law_shown_row T.f__law_shown_row.kp T.b__law_shown_row .nil (fun _ => .nil) (takes_of rfl rfl rfl rfl) (pgm_s 0 (pgm_d (pem_var 4) pgm_nil))) pgm_nil))) (pgt_name 6 sc__law_right.nd))
  (psm_cons (psm_if (pwm_pt (pwm_or (ptm_cmp (fun a b => pt_cmpR op_notBl a b (nomark _)) s_isNBl (pem_call (ps := ["value"]) (g := g_is_rows) (dds := []) (ok_is_rows T) hG (hr.mono (by decide)) (by rfl) T.g_is_rows T.f_is_rows.kp T.b_is_rows .nil (fun _ => .nil) (takes_of rfl rfl rfl rfl) (pgm_d (pem_var 2) pgm_nil)) (pem_c pe_bl fun _ => .bl _)) (pwm_or1 (ptm_cmp (fun a b => pt_cmpR (op_neP hr.units) a b (nomark _)) s_ne (pem_call (ps := ["_law_row"]) (g := g__law_pairs) (dds := []) (ok__law_pairs T) hG (hr.mono (by decide)) (by rfl) T.g__law_pairs T.f__law_pairs.kp T.b__law_pairs .nil (fun _ => .nil) (takes_of rfl rfl rfl rfl) (pgm_d (pem_var 6) pgm_nil)) (pem_frz (pom_lc rfl sc__law_right.nd (own := [("_law_line", 9)]) (pim_list (pem_var 1)) (blkOk_by (N := ["_law_dice_here", "_law_lines_here", "_law_rows", "_law_before", "_law_column", "_law_factors", "_law_told", "_law_mixed", "_law_least", "_law_line", "_law_one", "_law_row"]) (sc := defScope s__law_right) (own := [("_law_line", 9)]) (by decide +kernel)) (fun _ _ _ _ _ => (pgt_name 9 sc__law_right.nd)) (fun _ _ _ _ _ => ptsm_nil) (fun _ _ _ _ _ => (pem_call (ps := ["_law_row", "_law_column"]) (g := g__law_product) (dds := []) (ok__law_product T) hG (hr.mono (by decide)) (by rfl) T.g__law_product T.f__law_product.kp T.b__law_product .nil (fun _ => .nil) takes0 (pgm_d (pem_var 9) (pgm_d (pem_var 4) pgm_nil)))) (by decide)))))))
  (psm_one (psm_ret (pem_c pe_bl fun _ => .bl _)))
  psm_nil)
  (psm_cons (psm_set (pem_call (ps := ["rows", "factors"]) (g := g_mix_of) (dds := []) (ok_mix_of T) hG (hr.mono (by decide)) (by rfl) T.g_mix_of T.f_mix_of.kp T.b_mix_of .nil (fun _ => .nil) (takes_of rfl rfl rfl rfl) (pgm_d (pem_var 2) (pgm_d (pem_call (ps := ["_law_dice_here", "_law_pairs_here"]) (g := g__law_shown_row) (dds := []) (ok__law_shown_row T) hG (hr.mono (by decide)) (by rfl) T.g__law_shown_row T.f__law_shown_row.kp T.b__law_shown_row .nil (fun _ => .nil) (takes_of rfl rfl rfl rfl) (pgm_s 0 (pgm_d (pem_var 5) pgm_nil))) pgm_nil))) (pgt_name 7 sc__law_right.nd))
  (psm_cons (psm_if (pwm_pt (pwm_or (ptm_cmp (fun a b => pt_cmpR (op_neP hr.units) a b (nomark _)) s_ne (pem_call (ps := ["_law_row"]) (g := g__law_pairs) (dds := []) (ok__law_pairs T) hG (hr.mono (by decide)) (by rfl) T.g__law_pairs T.f__law_pairs.kp T.b__law_pairs .nil (fun _ => .nil) (takes_of rfl rfl rfl rfl) (pgm_d (pem_var 7) pgm_nil)) (pem_call (ps := ["_law_lines_here", "_law_factors"]) (g := g__law_mix) (dds := []) (ok__law_mix T) hG (hr.mono (by decide)) (by rfl) T.g__law_mix T.f__law_mix.kp T.b__law_mix .nil (fun _ => .nil) (takes_of rfl rfl rfl rfl) (pgm_d (pem_var 1) (pgm_d (pem_var 5) pgm_nil)))) (pwm_or1 (ptm_not (ptm_val (pem_call (ps := ["_law_numbers"]) (g := g__law_are_told) (dds := []) (ok__law_are_told T) hG (hr.mono (by decide)) (by rfl) T.g__law_are_told T.f__law_are_told.kp T.b__law_are_told .nil (fun _ => .nil) (takes_of rfl rfl rfl rfl) (pgm_d (pem_op (fun a b => pe_op op_catT a b) s_catT (pem_var 6) (pem_var 7)) pgm_nil)))))))
  (psm_one (psm_ret (pem_c pe_bl fun _ => .bl _)))
  psm_nil)
  (psm_cons (psm_set (pem_call (ps := ["rows"]) (g := g_cleared) (dds := []) (ok_cleared T) hG (hr.mono (by decide)) (by rfl) T.g_cleared T.f_cleared.kp T.b_cleared .nil (fun _ => .nil) (takes_of rfl rfl rfl rfl) (pgm_d (pem_var 2) pgm_nil)) (pgt_name 8 sc__law_right.nd))
  (psm_cons (psm_if (ptm_cmp (fun a b => pt_cmpR (op_neP hr.units) a b (nomark _)) s_ne (pem_frz (pom_lc rfl sc__law_right.nd (own := [("_law_row", 11)]) (pim_tup (pem_var 8)) (blkOk_by (N := ["_law_dice_here", "_law_lines_here", "_law_rows", "_law_before", "_law_column", "_law_factors", "_law_told", "_law_mixed", "_law_least", "_law_line", "_law_one", "_law_row"]) (sc := defScope s__law_right) (own := [("_law_row", 11)]) (by decide +kernel)) (fun _ _ _ _ _ => (pgt_name 11 sc__law_right.nd)) (fun _ _ _ _ _ => ptsm_nil) (fun _ _ _ _ _ => (pem_call (ps := ["_law_row"]) (g := g__law_pairs) (dds := []) (ok__law_pairs T) hG (hr.mono (by decide)) (by rfl) T.g__law_pairs T.f__law_pairs.kp T.b__law_pairs .nil (fun _ => .nil) takes0 (pgm_d (pem_var 11) pgm_nil))) (by decide))) (pem_call (ps := ["_law_lines_here"]) (g := g__law_cleared) (dds := []) (ok__law_cleared T) hG (hr.mono (by decide)) (by rfl) T.g__law_cleared T.f__law_cleared.kp T.b__law_cleared .nil (fun _ => .nil) (takes_of rfl rfl rfl rfl) (pgm_d (pem_var 1) pgm_nil)))
  (psm_one (psm_ret (pem_c pe_bl fun _ => .bl _)))
  psm_nil)
  (psm_cons (psm_if (pwm_pt (pwm_or (ptm_cmp (fun a b => pt_cmpR (op_neP hr.units) a b (nomark _)) s_ne (pem_frz (pom_lc rfl sc__law_right.nd (own := [("_law_row", 11)]) (pim_tup (pem_var 8)) (blkOk_by (N := ["_law_dice_here", "_law_lines_here", "_law_rows", "_law_before", "_law_column", "_law_factors", "_law_told", "_law_mixed", "_law_least", "_law_line", "_law_one", "_law_row"]) (sc := defScope s__law_right) (own := [("_law_row", 11)]) (by decide +kernel)) (fun _ _ _ _ _ => (pgt_name 11 sc__law_right.nd)) (fun _ _ _ _ _ => (ptsm_one (ptm_not (ptm_val (pem_call (ps := ["_law_numbers"]) (g := g__law_are_told) (dds := []) (ok__law_are_told T) hG (hr.mono (by decide)) (by rfl) T.g__law_are_told T.f__law_are_told.kp T.b__law_are_told .nil (fun _ => .nil) takes0 (pgm_d (pem_var 11) pgm_nil)))))) (fun _ _ _ _ _ => (pem_c pe_int fun _ => .int _)) (by decide))) (pem_frz (pom_lst pam_nil))) (pwm_or1 (pwm_pt (pwm_and (ptm_cmp (fun a b => pt_cmpR (op_ne0T hr.units) a b (nomark _)) s_ne0T (pem_var 8) (pem_tup pam_nil)) (pwm_and1 (ptm_cmp (fun a b => pt_cmpR (op_sure true 1 T.eq_Fraction (ok_Fraction_eq T) hG (hr.mono (by decide)) T.b_Fraction_eq (takes_of rfl rfl rfl rfl)) a b (nomark _)) s_sure (pem_call (ps := ["rows"]) (g := g_cleared) (dds := []) (ok_cleared T) hG (hr.mono (by decide)) (by rfl) T.g_cleared T.f_cleared.kp T.b_cleared .nil (fun _ => .nil) (takes_of rfl rfl rfl rfl) (pgm_d (pem_var 8) pgm_nil)) (pem_var 8))))))))
  (psm_one (psm_ret (pem_c pe_bl fun _ => .bl _)))
  psm_nil)
  (psm_one (psm_ret (pem_op (fun a b => pe_cmpR (op_eqP hr.units) a b (nomark _)) s_eq (pem_frz (pom_lc rfl sc__law_right.nd (own := [("_law_row", 11)]) (pim_tup (pem_var 2)) (blkOk_by (N := ["_law_dice_here", "_law_lines_here", "_law_rows", "_law_before", "_law_column", "_law_factors", "_law_told", "_law_mixed", "_law_least", "_law_line", "_law_one", "_law_row"]) (sc := defScope s__law_right) (own := [("_law_row", 11)]) (by decide +kernel)) (fun _ _ _ _ _ => (pgt_name 11 sc__law_right.nd)) (fun _ _ _ _ _ => ptsm_nil) (fun _ _ _ _ _ => (pem_call (ps := ["_law_row"]) (g := g__law_pairs) (dds := []) (ok__law_pairs T) hG (hr.mono (by decide)) (by rfl) T.g__law_pairs T.f__law_pairs.kp T.b__law_pairs .nil (fun _ => .nil) takes0 (pgm_d (pem_var 11) pgm_nil))) (by decide))) (pem_var 3))))))))))))))
end K04
set_option Elab.async false
set_option linter.all false
set_option maxRecDepth 100000
set_option maxHeartbeats 4000000
namespace K04
open PySem PySem.Spec PyProof.Rows L2 L3
theorem sc_law : FnScope ["_law_script", "_law_at", "_law_dice_here", "_law_turn", "_law_half", "_law_told", "_law_wide", "_law_high"] ["_law_script"] (defScope s_law) := ⟨rfl, rfl, rfl, by decide +kernel, rfl, by decide +kernel, by decide +kernel⟩
theorem ok_law {P : Program} {w : World} {K : PySem.W.Frag} {mg : Str → Option Value} {base : Heap} {A : Ad} (T : Txt K mg A) : FnG P w K mg base 11 A.f_law A.d_law ["_law_script"] (spG K 1 g_law) := by
  refine fng_sem (k := 10) T.f_law sc_law fun cdv Ar outer s H E hG hr => ?_
  unfold m_law
  exact (psm_cons (psm_for (fun a b c => ps_for (passes_of rfl) rfl a b c) (pim_range1 (fun a => pi_range1 (by rfl) T.n_range a) (pam_cons (pem_cb (fun a => pe_callB (call_max2 rfl) (by rfl) T.n_max (by decide +kernel) a) s_max2 (pam_cons (pem_c pe_int fun _ => .int _) (pam_cons (pem_cb (fun a => pe_callB (call_min2 rfl) (by rfl) T.n_min (by decide +kernel) a) s_min2 (pam_cons (pem_c pe_int fun _ => .int _) (pam_cons (pem_cb (fun a => pe_callB call_len (by rfl) T.n_len (by decide +kernel) a) s_len (pam_cons (pem_var 0) pam_nil)) pam_nil))) pam_nil))) pam_nil)) (pgt_name 1 sc_law.nd)
  (psm_cons (psm_setO 2 (pom_call (ps := ["_law_script", "_law_at"]) (g := g__law_dice) (dds := []) (ok__law_dice T) hG (hr.mono (by decide)) (by rfl) T.g__law_dice T.f__law_dice.kp T.b__law_dice .nil (fun _ => .nil) (takes_of rfl rfl rfl rfl) (pgm_d (pem_var 0) (pgm_d (pem_var 1) pgm_nil))) sc_law.nd)
  (psm_one (psm_for (fun a b c => ps_for (passes_of rfl) rfl a b c) (pim_range1 (fun a => pi_range1 (by rfl) T.n_range a) (pam_cons (pem_c pe_int fun _ => .int _) pam_nil)) (pgt_name 3 sc_law.nd)
  (psm_one (psm_if (ptm_not (ptm_val (pem_call (ps := ["_law_dice_here"]) (g := g__law_right) (dds := []) (ok__law_right T) hG (hr.mono (by decide)) (by rfl) T.g__law_right T.f__law_right.kp T.b__law_right .nil (fun _ => .nil) (takes_of rfl rfl rfl rfl) (pgm_s 2 pgm_nil))))
  (psm_one (psm_ret (pem_c pe_bl fun _ => .bl _)))
  psm_nil))))))
  (psm_cons (psm_set (pem_frz (pom_mk T.mk_Fraction (ok_Fraction_init T) hG (hr.mono (by decide)) (by rfl) T.g_Fraction T.b_Fraction_init .nil (fun _ => .nil) (takes_of rfl rfl rfl rfl) (pgm_d (pem_c pe_int fun _ => .int _) (pgm_d (pem_c pe_int fun _ => .int _) pgm_nil)))) (pgt_name 4 sc_law.nd))
  (psm_cons (psm_setO 5 (pom_lst (pam_cons (pem_op (fun a b => pe_cmpR (op_sure false 1 T.eq_Fraction (ok_Fraction_eq T) hG (hr.mono (by decide)) T.b_Fraction_eq (takes_of rfl rfl rfl rfl)) a b (nomark _)) s_sure (pem_call (ps := ["rows", "column"]) (g := g_times_of) (dds := []) (he := st_tup) (ok_times_of T) hG (hr.mono (by decide)) (by rfl) T.g_times_of T.f_times_of.kp T.b_times_of .nil (fun _ => .nil) (takes_of rfl rfl rfl rfl) (pgm_d (hs := st_tup) (pem_tup (pam_cons (hs := st_tup) (pem_tup (pam_cons (pem_c pe_int fun _ => .int _) (pam_cons (pem_c pe_int fun _ => .int _) pam_nil))) (pam_cons (hs := st_tup) (pem_tup (pam_cons (pem_var 4) (pam_cons (pem_c pe_int fun _ => .int _) pam_nil))) pam_nil))) (pgm_d (hs := st_tup) (pem_tup (pam_cons (pem_c pe_int fun _ => .int _) (pam_cons (pem_c pe_int fun _ => .int _) pam_nil))) pgm_nil))) (pem_tup (pam_cons (pem_c pe_int fun _ => .int _) (pam_cons (pem_c pe_int fun _ => .int _) pam_nil)))) (pam_cons (pem_op (fun a b => pe_cmpR (op_sure false 1 T.eq_Fraction (ok_Fraction_eq T) hG (hr.mono (by decide)) T.b_Fraction_eq (takes_of rfl rfl rfl rfl)) a b (nomark _)) s_sure (pem_call (ps := ["rows", "factors"]) (g := g_mix_of) (dds := []) (he := st_tup) (ok_mix_of T) hG (hr.mono (by decide)) (by rfl) T.g_mix_of T.f_mix_of.kp T.b_mix_of .nil (fun _ => .nil) (takes_of rfl rfl rfl rfl) (pgm_d (hs := st_tup) (pem_tup (pam_cons (hs := st_tup) (pem_tup (pam_cons (pem_c pe_int fun _ => .int _) (pam_cons (pem_c pe_int fun _ => .int _) pam_nil))) (pam_cons (hs := st_tup) (pem_tup (pam_cons (pem_var 4) (pam_cons (pem_c pe_int fun _ => .int _) pam_nil))) pam_nil))) (pgm_d (hs := st_tup) (pem_tup (pam_cons (pem_c pe_int fun _ => .int _) (pam_cons (pem_c pe_int fun _ => .int _) pam_nil))) pgm_nil))) (pem_tup (pam_cons (pem_c pe_int fun _ => .int _) (pam_cons (pem_c pe_int fun _ => .int _) pam_nil)))) pam_nil))) sc_law.nd)
  (psm_cons (psm_setO 5 (pom_cat (fun a b => pe_op op_cat a b) (pem_dat 5) (pem_frz (pom_lst (pam_cons (pem_op (fun a b => pe_cmpR (op_sure false 1 T.eq_Fraction (ok_Fraction_eq T) hG (hr.mono (by decide)) T.b_Fraction_eq (takes_of rfl rfl rfl rfl)) a b (nomark _)) s_sure (pem_call (ps := ["rows"]) (g := g_cleared) (dds := []) (he := st_tup) (ok_cleared T) hG (hr.mono (by decide)) (by rfl) T.g_cleared T.f_cleared.kp T.b_cleared .nil (fun _ => .nil) (takes_of rfl rfl rfl rfl) (pgm_d (hs := st_tup) (pem_tup (pam_cons (hs := st_tup) (pem_tup (pam_cons (pem_c pe_int fun _ => .int _) (pam_cons (pem_c pe_int fun _ => .int _) pam_nil))) (pam_cons (hs := st_tup) (pem_tup (pam_cons (pem_c pe_int fun _ => .int _) (pam_cons (pem_c pe_int fun _ => .int _) pam_nil))) pam_nil))) pgm_nil)) (pem_tup (pam_cons (hs := st_tup) (pem_tup (pam_cons (pem_c pe_int fun _ => .int _) (pam_cons (pem_c pe_int fun _ => .int _) pam_nil))) pam_nil))) (pam_cons (pem_op (fun a b => pe_cmpR (op_eq0 hr.units) a b (nomark _)) s_eq0 (pem_call (ps := ["rows"]) (g := g_cleared) (dds := []) (he := st_tup) (ok_cleared T) hG (hr.mono (by decide)) (by rfl) T.g_cleared T.f_cleared.kp T.b_cleared .nil (fun _ => .nil) (takes_of rfl rfl rfl rfl) (pgm_d (hs := st_tup) (pem_tup (pam_cons (hs := st_tup) (pem_tup (pam_cons (pem_c pe_int fun _ => .int _) (pam_cons (pem_c pe_int fun _ => .int _) pam_nil))) pam_nil)) pgm_nil)) (pem_tup pam_nil)) pam_nil))))) sc_law.nd)
  (psm_cons (psm_app 5 (pem_op (fun a b => pe_cmpR (op_sure false 1 T.eq_Fraction (ok_Fraction_eq T) hG (hr.mono (by decide)) T.b_Fraction_eq (takes_of rfl rfl rfl rfl)) a b (nomark _)) s_sure (pem_call (ps := ["rows"]) (g := g_cleared) (dds := []) (he := st_tup) (ok_cleared T) hG (hr.mono (by decide)) (by rfl) T.g_cleared T.f_cleared.kp T.b_cleared .nil (fun _ => .nil) (takes_of rfl rfl rfl rfl) (pgm_d (hs := st_tup) (pem_tup (pam_cons (hs := st_tup) (pem_tup (pam_cons (pem_c pe_int fun _ => .int _) (pam_cons (pem_c pe_int fun _ => .int _) (pam_cons (pem_var 4) pam_nil)))) pam_nil)) pgm_nil)) (pem_tup (pam_cons (hs := st_tup) (pem_tup (pam_cons (pem_c pe_int fun _ => .int _) (pam_cons (pem_c pe_int fun _ => .int _) (pam_cons (pem_frz (pom_mk T.mk_Fraction (ok_Fraction_init T) hG (hr.mono (by decide)) (by rfl) T.g_Fraction T.b_Fraction_init .nil (fun _ => .nil) (takes_of rfl rfl rfl rfl) (pgm_d (pem_c pe_int fun _ => .int _) (pgm_d (pem_c pe_int fun _ => .int _) pgm_nil)))) pam_nil)))) pam_nil))) (fun a b => ps_expr (pe_bm PySem.F.plainAttrs_list PySem.F.slot_list_append PySem.F.type_list_append mt_append a b)))
  (psm_cons (psm_app 5 (pem_op (fun a b => pe_cmpR (op_sure false 1 T.eq_Fraction (ok_Fraction_eq T) hG (hr.mono (by decide)) T.b_Fraction_eq (takes_of rfl rfl rfl rfl)) a b (nomark _)) s_sure (pem_call (ps := ["rows"]) (g := g_cleared) (dds := []) (he := st_tup) (ok_cleared T) hG (hr.mono (by decide)) (by rfl) T.g_cleared T.f_cleared.kp T.b_cleared .nil (fun _ => .nil) (takes_of rfl rfl rfl rfl) (pgm_d (hs := st_tup) (pem_tup (pam_cons (hs := st_tup) (pem_tup (pam_cons (pem_c pe_int fun _ => .int _) (pam_cons (pem_c pe_int fun _ => .int _) pam_nil))) (pam_cons (hs := st_tup) (pem_tup (pam_cons (pem_c pe_int fun _ => .int _) (pam_cons (pem_c pe_int fun _ => .int _) pam_nil))) (pam_cons (hs := st_tup) (pem_tup (pam_cons (pem_c pe_int fun _ => .int _) (pam_cons (pem_c pe_int fun _ => .int _) pam_nil))) pam_nil)))) pgm_nil)) (pem_tup (pam_cons (hs := st_tup) (pem_tup (pam_cons (pem_c pe_int fun _ => .int _) (pam_cons (pem_c pe_int fun _ => .int _) pam_nil))) (pam_cons (hs := st_tup) (pem_tup (pam_cons (pem_c pe_int fun _ => .int _) (pam_cons (pem_c pe_int fun _ => .int _) pam_nil))) pam_nil)))) (fun a b => ps_expr (pe_bm PySem.F.plainAttrs_list PySem.F.slot_list_append PySem.F.type_list_append mt_append a b)))
  (psm_cons (psm_par 6 7 rfl sc_law.nd (by decide) (pem_tup (pam_cons (pem_op (fun a b => pe_op op_repT a b) s_repT (pem_tup (pam_cons (pem_c pe_int fun _ => .int _) pam_nil)) (pem_c pe_int fun _ => .int _)) pam_nil)) (pem_cb (fun a => pe_callTy call_tuple_of (by rfl) T.n_tuple (by decide +kernel) a) s_tuple (pam_cons (pem_frz (pom_lc rfl sc_law.nd (own := [("_law_at", 1)]) (pim_range1 (fun a => pi_range1 (by rfl) T.n_range a) (pam_cons (pem_c pe_int fun _ => .int _) pam_nil)) (blkOk_by (N := ["_law_script", "_law_at", "_law_dice_here", "_law_turn", "_law_half", "_law_told", "_law_wide", "_law_high"]) (sc := defScope s_law) (own := [("_law_at", 1)]) (by decide +kernel)) (fun _ _ _ _ _ => (pgt_name 1 sc_law.nd)) (fun _ _ _ _ _ => ptsm_nil) (fun _ _ _ _ _ => (pem_tup (pam_cons (pem_var 1) (pam_cons (pem_op (fun a b => pe_op op_sub a b) s_sub (pem_c pe_int fun _ => .int _) (pem_var 1)) pam_nil)))) (by decide))) pam_nil)))
  (psm_cons (psm_setO 5 (pom_cat (fun a b => pe_op op_cat a b) (pem_dat 5) (pem_frz (pom_lst (pam_cons (pem_call (ps := ["value"]) (g := g_is_rows) (dds := []) (ok_is_rows T) hG (hr.mono (by decide)) (by rfl) T.g_is_rows T.f_is_rows.kp T.b_is_rows .nil (fun _ => .nil) (takes_of rfl rfl rfl rfl) (pgm_d (pem_var 6) pgm_nil)) (pam_cons (pem_call (ps := ["value"]) (g := g_is_rows) (dds := []) (ok_is_rows T) hG (hr.mono (by decide)) (by rfl) T.g_is_rows T.f_is_rows.kp T.b_is_rows .nil (fun _ => .nil) (takes_of rfl rfl rfl rfl) (pgm_d (pem_var 7) pgm_nil)) (pam_cons (pem_op (fun a b => pe_cmpR (op_sure false 1 T.eq_Fraction (ok_Fraction_eq T) hG (hr.mono (by decide)) T.b_Fraction_eq (takes_of rfl rfl rfl rfl)) a b (nomark _)) s_sure (pem_call (ps := ["rows", "column"]) (g := g_times_of) (dds := []) (ok_times_of T) hG (hr.mono (by decide)) (by rfl) T.g_times_of T.f_times_of.kp T.b_times_of .nil (fun _ => .nil) (takes_of rfl rfl rfl rfl) (pgm_d (pem_var 6) (pgm_d (pem_tupRg (fun a => pe_tupRg rfl (by rfl) T.n_tuple (prg_1 (by rfl) T.n_range a)) (pem_c pe_int fun _ => .int _)) pgm_nil))) (pem_tup (pam_cons (pem_c pe_int fun _ => .int _) pam_nil))) pam_nil)))))) sc_law.nd)
  (psm_cons (psm_setO 5 (pom_cat (fun a b => pe_op op_cat a b) (pem_dat 5) (pem_frz (pom_lst (pam_cons (pem_op (fun a b => pe_cmpR (op_sure false 1 T.eq_Fraction (ok_Fraction_eq T) hG (hr.mono (by decide)) T.b_Fraction_eq (takes_of rfl rfl rfl rfl)) a b (nomark _)) s_sure (pem_call (ps := ["rows"]) (g := g_cleared) (dds := []) (ok_cleared T) hG (hr.mono (by decide)) (by rfl) T.g_cleared T.f_cleared.kp T.b_cleared .nil (fun _ => .nil) (takes_of rfl rfl rfl rfl) (pgm_d (pem_var 7) pgm_nil)) (pem_tup (pam_cons (hs := st_tup) (pem_tup (pam_cons (pem_c pe_int fun _ => .int _) (pam_cons (pem_un (fun a => pe_un un_neg a) s_neg (pem_c pe_int fun _ => .int _)) pam_nil))) pam_nil))) (pam_cons (pem_op (fun a b => pe_cmpR (op_sure false 1 T.eq_Fraction (ok_Fraction_eq T) hG (hr.mono (by decide)) T.b_Fraction_eq (takes_of rfl rfl rfl rfl)) a b (nomark _)) s_sure (pem_call (ps := ["rows", "factors"]) (g := g_mix_of) (dds := []) (ok_mix_of T) hG (hr.mono (by decide)) (by rfl) T.g_mix_of T.f_mix_of.kp T.b_mix_of .nil (fun _ => .nil) (takes_of rfl rfl rfl rfl) (pgm_d (pem_var 7) (pgm_d (pem_op (fun a b => pe_op op_repT a b) s_repT (pem_tup (pam_cons (pem_c pe_int fun _ => .int _) pam_nil)) (pem_c pe_int fun _ => .int _)) pgm_nil))) (pem_tup (pam_cons (pem_c pe_int fun _ => .int _) (pam_cons (pem_un (fun a => pe_un un_neg a) s_neg (pem_c pe_int fun _ => .int _)) pam_nil)))) pam_nil))))) sc_law.nd)
  (psm_one (psm_ret (pem_and (pem_op (fun a b => pe_cmpR (op_eqP hr.units) a b (nomark _)) s_eq (pem_dat 5) (pem_op (fun a b => pe_op op_mulP a b) s_mul (pem_frz (pom_lst (pam_cons (pem_c pe_bl fun _ => .bl _) pam_nil))) (pem_c pe_int fun _ => .int _))) (pem_one (pem_op (fun a b => pe_cmpR (op_eqP hr.units) a b (nomark _)) s_eq (pem_tup (pam_cons (pem_c (pe_glob (v := V.int 80) rfl T.g_MAX_ROWS ⟨_, rfl⟩) fun _ => (.int _)) (pam_cons (pem_c (pe_glob (v := V.int 12) rfl T.g_MAX_WIDTH ⟨_, rfl⟩) fun _ => (.int _)) pam_nil))) (pem_tup (pam_cons (pem_c pe_int fun _ => .int _) (pam_cons (pem_c pe_int fun _ => .int _) pam_nil)))))))))))))))))
end K04
set_option Elab.async false
set_option linter.all false
set_option maxRecDepth 100000
set_option maxHeartbeats 4000000
namespace K04
open PySem PySem.Spec PyProof.Rows L2 L3
def dx_is_integer : DX := ⟨fun K => He.ga K "is_integer", "is_integer", "is_integer", s_is_integer, []⟩
def dx_common_divisor : DX := ⟨fun K => He.ga K "common_divisor", "common_divisor", "common_divisor", s_common_divisor, []⟩
def dx_Fraction_init : DX := ⟨fun K => He.ma K (He.ga K "Fraction") "__init__", "__init__", "Fraction.__init__", s_Fraction_init, [.int 1]⟩
def dx_Fraction_top : DX := ⟨fun K => gAd K "Fraction" "top", "top", "Fraction.top", s_Fraction_top, []⟩
def dx_Fraction_bottom : DX := ⟨fun K => gAd K "Fraction" "bottom", "bottom", "Fraction.bottom", s_Fraction_bottom, []⟩
def dx_is_fraction : DX := ⟨fun K => He.ga K "is_fraction", "is_fraction", "is_fraction", s_is_fraction, []⟩
def dx_require_fraction : DX := ⟨fun K => He.ga K "require_fraction", "require_fraction", "require_fraction", s_require_fraction, []⟩
def dx_fraction_of : DX := ⟨fun K => He.ga K "fraction_of", "fraction_of", "fraction_of", s_fraction_of, []⟩
def dx_required : DX := ⟨fun K => He.ga K "required", "required", "required", s_required, []⟩
def dx_Fraction_by : DX := ⟨fun K => He.ma K (He.ga K "Fraction") "by", "by", "Fraction.by", s_Fraction_by, []⟩
def dx_Fraction_add : DX := ⟨fun K => He.ma K (He.ga K "Fraction") "__add__", "__add__", "Fraction.__add__", s_Fraction_add, []⟩
def dx_Fraction_radd : DX := ⟨fun K => He.ma K (He.ga K "Fraction") "__radd__", "__radd__", "Fraction.__radd__", s_Fraction_radd, []⟩
def dx_Fraction_sub : DX := ⟨fun K => He.ma K (He.ga K "Fraction") "__sub__", "__sub__", "Fraction.__sub__", s_Fraction_sub, []⟩
def dx_Fraction_rsub : DX := ⟨fun K => He.ma K (He.ga K "Fraction") "__rsub__", "__rsub__", "Fraction.__rsub__", s_Fraction_rsub, []⟩
def dx_Fraction_mul : DX := ⟨fun K => He.ma K (He.ga K "Fraction") "__mul__", "__mul__", "Fraction.__mul__", s_Fraction_mul, []⟩
def dx_Fraction_rmul : DX := ⟨fun K => He.ma K (He.ga K "Fraction") "__rmul__", "__rmul__", "Fraction.__rmul__", s_Fraction_rmul, []⟩
def dx_Fraction_eq : DX := ⟨fun K => He.ma K (He.ga K "Fraction") "__eq__", "__eq__", "Fraction.__eq__", s_Fraction_eq, []⟩
def dx_are_fractions : DX := ⟨fun K => He.ga K "are_fractions", "are_fractions", "are_fractions", s_are_fractions, []⟩
def dx_is_rows : DX := ⟨fun K => He.ga K "is_rows", "is_rows", "is_rows", s_is_rows, []⟩
def dx_require_rows : DX := ⟨fun K => He.ga K "require_rows", "require_rows", "require_rows", s_require_rows, []⟩
def dx_require_fractions : DX := ⟨fun K => He.ga K "require_fractions", "require_fractions", "require_fractions", s_require_fractions, []⟩
def dx_as_fractions : DX := ⟨fun K => He.ga K "as_fractions", "as_fractions", "as_fractions", s_as_fractions, []⟩
def dx_product_in : DX := ⟨fun K => He.ga K "product_in", "product_in", "product_in", s_product_in, []⟩
def dx_times_in : DX := ⟨fun K => He.ga K "times_in", "times_in", "times_in", s_times_in, []⟩
def dx_mix_in : DX := ⟨fun K => He.ga K "mix_in", "mix_in", "mix_in", s_mix_in, []⟩
def dx_without_line : DX := ⟨fun K => He.ga K "without_line", "without_line", "without_line", s_without_line, []⟩
def dx_cleared_in : DX := ⟨fun K => He.ga K "cleared_in", "cleared_in", "cleared_in", s_cleared_in, []⟩
def dx_times_of : DX := ⟨fun K => He.ga K "times_of", "times_of", "times_of", s_times_of, []⟩
def dx_mix_of : DX := ⟨fun K => He.ga K "mix_of", "mix_of", "mix_of", s_mix_of, []⟩
def dx_cleared : DX := ⟨fun K => He.ga K "cleared", "cleared", "cleared", s_cleared, []⟩
def dx__law_dice : DX := ⟨fun K => He.ga K "_law_dice", "_law_dice", "_law_dice", s__law_dice, []⟩
def dx__law_roll : DX := ⟨fun K => He.ga K "_law_roll", "_law_roll", "_law_roll", s__law_roll, []⟩
def dx__law_one_of : DX := ⟨fun K => He.ga K "_law_one_of", "_law_one_of", "_law_one_of", s__law_one_of, []⟩
def dx__law_gcd : DX := ⟨fun K => He.ga K "_law_gcd", "_law_gcd", "_law_gcd", s__law_gcd, []⟩
def dx__law_ratio : DX := ⟨fun K => He.ga K "_law_ratio", "_law_ratio", "_law_ratio", s__law_ratio, []⟩
def dx__law_plus : DX := ⟨fun K => He.ga K "_law_plus", "_law_plus", "_law_plus", s__law_plus, []⟩
def dx__law_by : DX := ⟨fun K => He.ga K "_law_by", "_law_by", "_law_by", s__law_by, []⟩
def dx__law_pair : DX := ⟨fun K => He.ga K "_law_pair", "_law_pair", "_law_pair", s__law_pair, []⟩
def dx__law_pairs : DX := ⟨fun K => He.ga K "_law_pairs", "_law_pairs", "_law_pairs", s__law_pairs, []⟩
def dx__law_shown : DX := ⟨fun K => He.ga K "_law_shown", "_law_shown", "_law_shown", s__law_shown, []⟩
def dx__law_shown_row : DX := ⟨fun K => He.ga K "_law_shown_row", "_law_shown_row", "_law_shown_row", s__law_shown_row, []⟩
def dx__law_number : DX := ⟨fun K => He.ga K "_law_number", "_law_number", "_law_number", s__law_number, []⟩
def dx__law_product : DX := ⟨fun K => He.ga K "_law_product", "_law_product", "_law_product", s__law_product, []⟩
def dx__law_mix : DX := ⟨fun K => He.ga K "_law_mix", "_law_mix", "_law_mix", s__law_mix, []⟩
def dx__law_lines : DX := ⟨fun K => He.ga K "_law_lines", "_law_lines", "_law_lines", s__law_lines, []⟩
def dx__law_shown_lines : DX := ⟨fun K => He.ga K "_law_shown_lines", "_law_shown_lines", "_law_shown_lines", s__law_shown_lines, []⟩
def dx__law_inverse : DX := ⟨fun K => He.ga K "_law_inverse", "_law_inverse", "_law_inverse", s__law_inverse, []⟩
def dx__law_without : DX := ⟨fun K => He.ga K "_law_without", "_law_without", "_law_without", s__law_without, []⟩
def dx__law_cleared : DX := ⟨fun K => He.ga K "_law_cleared", "_law_cleared", "_law_cleared", s__law_cleared, []⟩
def dx__law_are_told : DX := ⟨fun K => He.ga K "_law_are_told", "_law_are_told", "_law_are_told", s__law_are_told, []⟩
def dx__law_right : DX := ⟨fun K => He.ga K "_law_right", "_law_right", "_law_right", s__law_right, []⟩
def dx_law : DX := ⟨fun K => He.ga K "law", "law", "law", s_law, []⟩
def fa0 : List He.Fa := [.glo "Fraction", .noat "Fraction" "own_bottom", .noat "Fraction" "own_top", .glo "is_integer", .glo "common_divisor", .mkr "Fraction", .glo "is_fraction", .glo "require_fraction", .glo "fraction_of", .glo "required", .meth "Fraction" "by", .meth "Fraction" "__add__", .meth "Fraction" "__radd__", .meth "Fraction" "__sub__", .meth "Fraction" "__rsub__", .meth "Fraction" "__mul__", .meth "Fraction" "__rmul__", .meth "Fraction" "__eq__", .glo "are_fractions", .glo "is_rows", .glo "require_rows", .glo "require_fractions", .glo "as_fractions", .glo "product_in", .glo "times_in", .glo "mix_in", .glo "without_line", .glo "cleared_in", .glo "times_of", .glo "mix_of"]
def fa1 : List He.Fa := [.glo "cleared", .glo "_law_dice", .glo "_law_roll", .glo "_law_one_of", .glo "_law_gcd", .glo "_law_ratio", .glo "_law_plus", .glo "_law_by", .glo "_law_pair", .glo "_law_pairs", .glo "_law_shown", .glo "_law_shown_row", .glo "_law_number", .glo "_law_product", .glo "_law_mix", .glo "_law_lines", .glo "_law_shown_lines", .glo "_law_inverse", .glo "_law_without", .glo "_law_cleared", .glo "_law_are_told", .glo "_law_right", .glo "law", .free "isinstance", .free "int", .free "bool", .free "abs", .free "max", .free "min", .free "len"]
def fa2 : List He.Fa := [.free "range", .free "tuple", .free "list", .free "zip", .free "enumerate", .free "all", .int "MAX_ROWS" 80, .int "MAX_WIDTH" 12]
def fa : List He.Fa := fa0 ++ fa1 ++ fa2
def ex0 : List (PySem.W.Frag → Bool) := [kclsB "Fraction", propB "Fraction" "top", propB "Fraction" "bottom", binB "Fraction" "add" "__add__" "__radd__", binB "Fraction" "sub" "__sub__" "__rsub__", binB "Fraction" "mul" "__mul__" "__rmul__", eqB "Fraction", kitB (fun K => .ref (He.ga K "Fraction")) (fun _ => .type (BT.int).nm), kitB (fun K => .ref (He.ga K "Fraction")) (fun _ => .type (BT.bool).nm), kitB (fun K => .ref (He.ga K "Fraction")) (fun _ => .type (BT.tup).nm), isCB "Fraction"]
def ex : List (PySem.W.Frag → Bool) := ex0
def fn0 : List DX := [dx_is_integer, dx_common_divisor, dx_Fraction_init, dx_Fraction_top, dx_Fraction_bottom, dx_is_fraction, dx_require_fraction, dx_fraction_of, dx_required, dx_Fraction_by, dx_Fraction_add, dx_Fraction_radd, dx_Fraction_sub, dx_Fraction_rsub, dx_Fraction_mul, dx_Fraction_rmul, dx_Fraction_eq, dx_are_fractions, dx_is_rows, dx_require_rows, dx_require_fractions, dx_as_fractions, dx_product_in, dx_times_in, dx_mix_in, dx_without_line, dx_cleared_in, dx_times_of, dx_mix_of, dx_cleared]
def fn1 : List DX := [dx__law_dice, dx__law_roll, dx__law_one_of, dx__law_gcd, dx__law_ratio, dx__law_plus, dx__law_by, dx__law_pair, dx__law_pairs, dx__law_shown, dx__law_shown_row, dx__law_number, dx__law_product, dx__law_mix, dx__law_lines, dx__law_shown_lines, dx__law_inverse, dx__law_without, dx__law_cleared, dx__law_are_told, dx__law_right, dx_law]
def fn : List DX := fn0 ++ fn1
def lo0 : List Str := ["_wall", "EndError", "InvalidFraction", "InvalidRows", "InvalidOperation", "is_integer", "common_divisor", "Fraction", "is_fraction", "require_fraction", "fraction_of", "required", "MAX_ROWS", "MAX_WIDTH", "are_fractions", "is_rows", "require_rows", "require_fractions", "as_fractions", "product_in", "times_in", "mix_in", "cleared_in", "without_line", "times_of", "mix_of", "cleared", "_law_dice", "_law_roll", "_law_one_of"]
def lo1 : List Str := ["_law_gcd", "_law_ratio", "_law_plus", "_law_by", "_law_pair", "_law_pairs", "_law_shown", "_law_shown_row", "_law_number", "_law_product", "_law_mix", "_law_lines", "_law_shown_lines", "_law_inverse", "_law_without", "_law_cleared", "_law_are_told", "_law_right"]
def lo : List Str := lo0 ++ lo1
abbrev R : PySem.W.OpenRow := PySem.W.OpenLaw.row PySem.Challenge.rw_surelyends_k04_rows_times_mixes_cleared
abbrev hk : PySem.W.Hook := hookX 6 fa ex fn
def ob (s : PySem.W.SharedT) : AlX := obsXG 6 fa ex fn (HandSHeadRun.getT s)
theorem ob_eq (s : PySem.W.SharedT) : ob s = hk.obs s.abs := obsXG_eq (HandSHeadRun.getT_eq s)
theorem run (w : World) : HandSHeadRun.RunEq R (PySem.W.view R.prog [52]) hk ob 4000 lo w := by
  intro os
  kernel_rfl
theorem facts {K : PySem.W.Frag} {h : Heap} {mg : Str → Option Value} (X : K.In h) (G : h.Ns mainGlobals mg) (c : SaysX fa ex fn K) : ∃ A : Ad, Txt K mg A ∧ A.f_law = He.ga K "law" := by
  obtain ⟨d_is_integer, F_is_integer⟩ := c.def_ 0 (d := dx_is_integer) rfl
  obtain ⟨d_common_divisor, F_common_divisor⟩ := c.def_ 1 (d := dx_common_divisor) rfl
  obtain ⟨d_Fraction_init, F_Fraction_init⟩ := c.def_ 2 (d := dx_Fraction_init) rfl
  obtain ⟨w_Fraction_init, y_Fraction_init, z_Fraction_init⟩ := FunD.binds1 (ps := ["self", "top", "bottom"]) F_Fraction_init 3 1 (List.cons_ne_nil _ _) rfl fun _ _ _ _ _ _ _ us its h1 h2 => match us, its, h1, h2 with | [_, _, _], [_], _, _ => ⟨_, rfl, rfl⟩
  cases y_Fraction_init
  obtain ⟨w_Fraction_init_2, y_Fraction_init_2, z_Fraction_init_2⟩ := FunD.binds1 (ps := ["self", "top", "bottom"]) F_Fraction_init 2 0 (List.cons_ne_nil _ _) rfl fun _ _ _ _ _ _ _ us its h1 h2 => match us, its, h1, h2 with | [_, _], [_], _, _ => ⟨_, rfl, rfl⟩
  obtain ⟨d_Fraction_top, F_Fraction_top⟩ := c.def_ 3 (d := dx_Fraction_top) rfl
  obtain ⟨d_Fraction_bottom, F_Fraction_bottom⟩ := c.def_ 4 (d := dx_Fraction_bottom) rfl
  obtain ⟨d_is_fraction, F_is_fraction⟩ := c.def_ 5 (d := dx_is_fraction) rfl
  obtain ⟨d_require_fraction, F_require_fraction⟩ := c.def_ 6 (d := dx_require_fraction) rfl
  obtain ⟨d_fraction_of, F_fraction_of⟩ := c.def_ 7 (d := dx_fraction_of) rfl
  obtain ⟨d_required, F_required⟩ := c.def_ 8 (d := dx_required) rfl
  obtain ⟨d_Fraction_by, F_Fraction_by⟩ := c.def_ 9 (d := dx_Fraction_by) rfl
  obtain ⟨d_Fraction_add, F_Fraction_add⟩ := c.def_ 10 (d := dx_Fraction_add) rfl
  obtain ⟨d_Fraction_radd, F_Fraction_radd⟩ := c.def_ 11 (d := dx_Fraction_radd) rfl
  obtain ⟨d_Fraction_sub, F_Fraction_sub⟩ := c.def_ 12 (d := dx_Fraction_sub) rfl
  obtain ⟨d_Fraction_rsub, F_Fraction_rsub⟩ := c.def_ 13 (d := dx_Fraction_rsub) rfl
  obtain ⟨d_Fraction_mul, F_Fraction_mul⟩ := c.def_ 14 (d := dx_Fraction_mul) rfl
  obtain ⟨d_Fraction_rmul, F_Fraction_rmul⟩ := c.def_ 15 (d := dx_Fraction_rmul) rfl
  obtain ⟨d_Fraction_eq, F_Fraction_eq⟩ := c.def_ 16 (d := dx_Fraction_eq) rfl
  obtain ⟨d_are_fractions, F_are_fractions⟩ := c.def_ 17 (d := dx_are_fractions) rfl
  obtain ⟨d_is_rows, F_is_rows⟩ := c.def_ 18 (d := dx_is_rows) rfl
  obtain ⟨d_require_rows, F_require_rows⟩ := c.def_ 19 (d := dx_require_rows) rfl
  obtain ⟨d_require_fractions, F_require_fractions⟩ := c.def_ 20 (d := dx_require_fractions) rfl
  obtain ⟨d_as_fractions, F_as_fractions⟩ := c.def_ 21 (d := dx_as_fractions) rfl
  obtain ⟨d_product_in, F_product_in⟩ := c.def_ 22 (d := dx_product_in) rfl
  obtain ⟨d_times_in, F_times_in⟩ := c.def_ 23 (d := dx_times_in) rfl
  obtain ⟨d_mix_in, F_mix_in⟩ := c.def_ 24 (d := dx_mix_in) rfl
  obtain ⟨d_without_line, F_without_line⟩ := c.def_ 25 (d := dx_without_line) rfl
  obtain ⟨d_cleared_in, F_cleared_in⟩ := c.def_ 26 (d := dx_cleared_in) rfl
  obtain ⟨d_times_of, F_times_of⟩ := c.def_ 27 (d := dx_times_of) rfl
  obtain ⟨d_mix_of, F_mix_of⟩ := c.def_ 28 (d := dx_mix_of) rfl
  obtain ⟨d_cleared, F_cleared⟩ := c.def_ 29 (d := dx_cleared) rfl
  obtain ⟨d__law_dice, F__law_dice⟩ := c.def_ 30 (d := dx__law_dice) rfl
  obtain ⟨d__law_roll, F__law_roll⟩ := c.def_ 31 (d := dx__law_roll) rfl
  obtain ⟨d__law_one_of, F__law_one_of⟩ := c.def_ 32 (d := dx__law_one_of) rfl
  obtain ⟨d__law_gcd, F__law_gcd⟩ := c.def_ 33 (d := dx__law_gcd) rfl
  obtain ⟨d__law_ratio, F__law_ratio⟩ := c.def_ 34 (d := dx__law_ratio) rfl
  obtain ⟨d__law_plus, F__law_plus⟩ := c.def_ 35 (d := dx__law_plus) rfl
  obtain ⟨d__law_by, F__law_by⟩ := c.def_ 36 (d := dx__law_by) rfl
  obtain ⟨d__law_pair, F__law_pair⟩ := c.def_ 37 (d := dx__law_pair) rfl
  obtain ⟨d__law_pairs, F__law_pairs⟩ := c.def_ 38 (d := dx__law_pairs) rfl
  obtain ⟨d__law_shown, F__law_shown⟩ := c.def_ 39 (d := dx__law_shown) rfl
  obtain ⟨d__law_shown_row, F__law_shown_row⟩ := c.def_ 40 (d := dx__law_shown_row) rfl
  obtain ⟨d__law_number, F__law_number⟩ := c.def_ 41 (d := dx__law_number) rfl
  obtain ⟨d__law_product, F__law_product⟩ := c.def_ 42 (d := dx__law_product) rfl
  obtain ⟨d__law_mix, F__law_mix⟩ := c.def_ 43 (d := dx__law_mix) rfl
  obtain ⟨d__law_lines, F__law_lines⟩ := c.def_ 44 (d := dx__law_lines) rfl
  obtain ⟨d__law_shown_lines, F__law_shown_lines⟩ := c.def_ 45 (d := dx__law_shown_lines) rfl
  obtain ⟨d__law_inverse, F__law_inverse⟩ := c.def_ 46 (d := dx__law_inverse) rfl
  obtain ⟨d__law_without, F__law_without⟩ := c.def_ 47 (d := dx__law_without) rfl
  obtain ⟨d__law_cleared, F__law_cleared⟩ := c.def_ 48 (d := dx__law_cleared) rfl
  obtain ⟨d__law_are_told, F__law_are_told⟩ := c.def_ 49 (d := dx__law_are_told) rfl
  obtain ⟨d__law_right, F__law_right⟩ := c.def_ 50 (d := dx__law_right) rfl
  obtain ⟨d_law, F_law⟩ := c.def_ 51 (d := dx_law) rfl
  obtain ⟨u_MAX_ROWS, h_MAX_ROWS⟩ := He.int_ok X G (c.fact 66 (f := .int "MAX_ROWS" 80) rfl)
  obtain ⟨u_MAX_WIDTH, h_MAX_WIDTH⟩ := He.int_ok X G (c.fact 67 (f := .int "MAX_WIDTH" 12) rfl)
  exact ⟨{
    f_is_integer := He.ga K "is_integer",
    d_is_integer := d_is_integer,
    f_common_divisor := He.ga K "common_divisor",
    d_common_divisor := d_common_divisor,
    f_Fraction_init := He.ma K (He.ga K "Fraction") "__init__",
    d_Fraction_init := d_Fraction_init,
    v_Fraction_init_2 := w_Fraction_init_2,
    f_Fraction_top := gAd K "Fraction" "top",
    d_Fraction_top := d_Fraction_top,
    p_Fraction_top := He.ma K (He.ga K "Fraction") "top",
    f_Fraction_bottom := gAd K "Fraction" "bottom",
    d_Fraction_bottom := d_Fraction_bottom,
    p_Fraction_bottom := He.ma K (He.ga K "Fraction") "bottom",
    f_is_fraction := He.ga K "is_fraction",
    d_is_fraction := d_is_fraction,
    f_require_fraction := He.ga K "require_fraction",
    d_require_fraction := d_require_fraction,
    f_fraction_of := He.ga K "fraction_of",
    d_fraction_of := d_fraction_of,
    f_required := He.ga K "required",
    d_required := d_required,
    f_Fraction_by := He.ma K (He.ga K "Fraction") "by",
    d_Fraction_by := d_Fraction_by,
    f_Fraction_add := He.ma K (He.ga K "Fraction") "__add__",
    d_Fraction_add := d_Fraction_add,
    f_Fraction_radd := He.ma K (He.ga K "Fraction") "__radd__",
    d_Fraction_radd := d_Fraction_radd,
    f_Fraction_sub := He.ma K (He.ga K "Fraction") "__sub__",
    d_Fraction_sub := d_Fraction_sub,
    f_Fraction_rsub := He.ma K (He.ga K "Fraction") "__rsub__",
    d_Fraction_rsub := d_Fraction_rsub,
    f_Fraction_mul := He.ma K (He.ga K "Fraction") "__mul__",
    d_Fraction_mul := d_Fraction_mul,
    f_Fraction_rmul := He.ma K (He.ga K "Fraction") "__rmul__",
    d_Fraction_rmul := d_Fraction_rmul,
    f_Fraction_eq := He.ma K (He.ga K "Fraction") "__eq__",
    d_Fraction_eq := d_Fraction_eq,
    f_are_fractions := He.ga K "are_fractions",
    d_are_fractions := d_are_fractions,
    f_is_rows := He.ga K "is_rows",
    d_is_rows := d_is_rows,
    f_require_rows := He.ga K "require_rows",
    d_require_rows := d_require_rows,
    f_require_fractions := He.ga K "require_fractions",
    d_require_fractions := d_require_fractions,
    f_as_fractions := He.ga K "as_fractions",
    d_as_fractions := d_as_fractions,
    f_product_in := He.ga K "product_in",
    d_product_in := d_product_in,
    f_times_in := He.ga K "times_in",
    d_times_in := d_times_in,
    f_mix_in := He.ga K "mix_in",
    d_mix_in := d_mix_in,
    f_without_line := He.ga K "without_line",
    d_without_line := d_without_line,
    f_cleared_in := He.ga K "cleared_in",
    d_cleared_in := d_cleared_in,
    f_times_of := He.ga K "times_of",
    d_times_of := d_times_of,
    f_mix_of := He.ga K "mix_of",
    d_mix_of := d_mix_of,
    f_cleared := He.ga K "cleared",
    d_cleared := d_cleared,
    f__law_dice := He.ga K "_law_dice",
    d__law_dice := d__law_dice,
    f__law_roll := He.ga K "_law_roll",
    d__law_roll := d__law_roll,
    f__law_one_of := He.ga K "_law_one_of",
    d__law_one_of := d__law_one_of,
    f__law_gcd := He.ga K "_law_gcd",
    d__law_gcd := d__law_gcd,
    f__law_ratio := He.ga K "_law_ratio",
    d__law_ratio := d__law_ratio,
    f__law_plus := He.ga K "_law_plus",
    d__law_plus := d__law_plus,
    f__law_by := He.ga K "_law_by",
    d__law_by := d__law_by,
    f__law_pair := He.ga K "_law_pair",
    d__law_pair := d__law_pair,
    f__law_pairs := He.ga K "_law_pairs",
    d__law_pairs := d__law_pairs,
    f__law_shown := He.ga K "_law_shown",
    d__law_shown := d__law_shown,
    f__law_shown_row := He.ga K "_law_shown_row",
    d__law_shown_row := d__law_shown_row,
    f__law_number := He.ga K "_law_number",
    d__law_number := d__law_number,
    f__law_product := He.ga K "_law_product",
    d__law_product := d__law_product,
    f__law_mix := He.ga K "_law_mix",
    d__law_mix := d__law_mix,
    f__law_lines := He.ga K "_law_lines",
    d__law_lines := d__law_lines,
    f__law_shown_lines := He.ga K "_law_shown_lines",
    d__law_shown_lines := d__law_shown_lines,
    f__law_inverse := He.ga K "_law_inverse",
    d__law_inverse := d__law_inverse,
    f__law_without := He.ga K "_law_without",
    d__law_without := d__law_without,
    f__law_cleared := He.ga K "_law_cleared",
    d__law_cleared := d__law_cleared,
    f__law_are_told := He.ga K "_law_are_told",
    d__law_are_told := d__law_are_told,
    f__law_right := He.ga K "_law_right",
    d__law_right := d__law_right,
    f_law := He.ga K "law",
    d_law := d_law,
    u_MAX_ROWS := u_MAX_ROWS,
    u_MAX_WIDTH := u_MAX_WIDTH }, {
    g_Fraction := He.glo_ok X G (c.fact 0 (f := .glo "Fraction") rfl),
    cl_Fraction := kclsB_ok (c.own 0 (f := kclsB "Fraction") rfl),
    na_Fraction_own_bottom := He.noat_ok (c.fact 1 (f := .noat "Fraction" "own_bottom") rfl),
    na_Fraction_own_top := He.noat_ok (c.fact 2 (f := .noat "Fraction" "own_top") rfl),
    f_is_integer := F_is_integer,
    b_is_integer := FunD.bindsN (ps := ["value"]) F_is_integer fun _ _ _ _ _ _ us hl => match us, hl with | [_], _ => rfl,
    g_is_integer := He.glo_ok X G (c.fact 3 (f := .glo "is_integer") rfl),
    f_common_divisor := F_common_divisor,
    b_common_divisor := FunD.bindsN (ps := ["number", "other"]) F_common_divisor fun _ _ _ _ _ _ us hl => match us, hl with | [_, _], _ => rfl,
    g_common_divisor := He.glo_ok X G (c.fact 4 (f := .glo "common_divisor") rfl),
    f_Fraction_init := F_Fraction_init,
    b_Fraction_init := z_Fraction_init,
    dv_Fraction_init_2 := y_Fraction_init_2,
    b_Fraction_init_2 := z_Fraction_init_2,
    mk_Fraction := He.mkr_ok (c.fact 5 (f := .mkr "Fraction") rfl),
    f_Fraction_top := F_Fraction_top,
    b_Fraction_top := FunD.bindsN (ps := ["self"]) F_Fraction_top fun _ _ _ _ _ _ us hl => match us, hl with | [_], _ => rfl,
    pr_Fraction_top := propB_ok (c.own 1 (f := propB "Fraction" "top") rfl),
    f_Fraction_bottom := F_Fraction_bottom,
    b_Fraction_bottom := FunD.bindsN (ps := ["self"]) F_Fraction_bottom fun _ _ _ _ _ _ us hl => match us, hl with | [_], _ => rfl,
    pr_Fraction_bottom := propB_ok (c.own 2 (f := propB "Fraction" "bottom") rfl),
    f_is_fraction := F_is_fraction,
    b_is_fraction := FunD.bindsN (ps := ["value"]) F_is_fraction fun _ _ _ _ _ _ us hl => match us, hl with | [_], _ => rfl,
    g_is_fraction := He.glo_ok X G (c.fact 6 (f := .glo "is_fraction") rfl),
    f_require_fraction := F_require_fraction,
    b_require_fraction := FunD.bindsN (ps := ["value"]) F_require_fraction fun _ _ _ _ _ _ us hl => match us, hl with | [_], _ => rfl,
    g_require_fraction := He.glo_ok X G (c.fact 7 (f := .glo "require_fraction") rfl),
    f_fraction_of := F_fraction_of,
    b_fraction_of := FunD.bindsN (ps := ["value"]) F_fraction_of fun _ _ _ _ _ _ us hl => match us, hl with | [_], _ => rfl,
    g_fraction_of := He.glo_ok X G (c.fact 8 (f := .glo "fraction_of") rfl),
    f_required := F_required,
    b_required := FunD.bindsN (ps := ["value"]) F_required fun _ _ _ _ _ _ us hl => match us, hl with | [_], _ => rfl,
    g_required := He.glo_ok X G (c.fact 9 (f := .glo "required") rfl),
    f_Fraction_by := F_Fraction_by,
    b_Fraction_by := FunD.bindsN (ps := ["self", "other"]) F_Fraction_by fun _ _ _ _ _ _ us hl => match us, hl with | [_, _], _ => rfl,
    me_Fraction_by := He.meth_ok (c.fact 10 (f := .meth "Fraction" "by") rfl),
    f_Fraction_add := F_Fraction_add,
    b_Fraction_add := FunD.bindsN (ps := ["self", "other"]) F_Fraction_add fun _ _ _ _ _ _ us hl => match us, hl with | [_, _], _ => rfl,
    me_Fraction_add := He.meth_ok (c.fact 11 (f := .meth "Fraction" "__add__") rfl),
    f_Fraction_radd := F_Fraction_radd,
    b_Fraction_radd := FunD.bindsN (ps := ["self", "other"]) F_Fraction_radd fun _ _ _ _ _ _ us hl => match us, hl with | [_, _], _ => rfl,
    me_Fraction_radd := He.meth_ok (c.fact 12 (f := .meth "Fraction" "__radd__") rfl),
    f_Fraction_sub := F_Fraction_sub,
    b_Fraction_sub := FunD.bindsN (ps := ["self", "other"]) F_Fraction_sub fun _ _ _ _ _ _ us hl => match us, hl with | [_, _], _ => rfl,
    me_Fraction_sub := He.meth_ok (c.fact 13 (f := .meth "Fraction" "__sub__") rfl),
    f_Fraction_rsub := F_Fraction_rsub,
    b_Fraction_rsub := FunD.bindsN (ps := ["self", "other"]) F_Fraction_rsub fun _ _ _ _ _ _ us hl => match us, hl with | [_, _], _ => rfl,
    me_Fraction_rsub := He.meth_ok (c.fact 14 (f := .meth "Fraction" "__rsub__") rfl),
    f_Fraction_mul := F_Fraction_mul,
    b_Fraction_mul := FunD.bindsN (ps := ["self", "other"]) F_Fraction_mul fun _ _ _ _ _ _ us hl => match us, hl with | [_, _], _ => rfl,
    me_Fraction_mul := He.meth_ok (c.fact 15 (f := .meth "Fraction" "__mul__") rfl),
    f_Fraction_rmul := F_Fraction_rmul,
    b_Fraction_rmul := FunD.bindsN (ps := ["self", "other"]) F_Fraction_rmul fun _ _ _ _ _ _ us hl => match us, hl with | [_, _], _ => rfl,
    me_Fraction_rmul := He.meth_ok (c.fact 16 (f := .meth "Fraction" "__rmul__") rfl),
    f_Fraction_eq := F_Fraction_eq,
    b_Fraction_eq := FunD.bindsN (ps := ["self", "other"]) F_Fraction_eq fun _ _ _ _ _ _ us hl => match us, hl with | [_, _], _ => rfl,
    me_Fraction_eq := He.meth_ok (c.fact 17 (f := .meth "Fraction" "__eq__") rfl),
    f_are_fractions := F_are_fractions,
    b_are_fractions := FunD.bindsN (ps := ["value", "many"]) F_are_fractions fun _ _ _ _ _ _ us hl => match us, hl with | [_, _], _ => rfl,
    g_are_fractions := He.glo_ok X G (c.fact 18 (f := .glo "are_fractions") rfl),
    f_is_rows := F_is_rows,
    b_is_rows := FunD.bindsN (ps := ["value"]) F_is_rows fun _ _ _ _ _ _ us hl => match us, hl with | [_], _ => rfl,
    g_is_rows := He.glo_ok X G (c.fact 19 (f := .glo "is_rows") rfl),
    f_require_rows := F_require_rows,
    b_require_rows := FunD.bindsN (ps := ["rows"]) F_require_rows fun _ _ _ _ _ _ us hl => match us, hl with | [_], _ => rfl,
    g_require_rows := He.glo_ok X G (c.fact 20 (f := .glo "require_rows") rfl),
    f_require_fractions := F_require_fractions,
    b_require_fractions := FunD.bindsN (ps := ["value", "many"]) F_require_fractions fun _ _ _ _ _ _ us hl => match us, hl with | [_, _], _ => rfl,
    g_require_fractions := He.glo_ok X G (c.fact 21 (f := .glo "require_fractions") rfl),
    f_as_fractions := F_as_fractions,
    b_as_fractions := FunD.bindsN (ps := ["row"]) F_as_fractions fun _ _ _ _ _ _ us hl => match us, hl with | [_], _ => rfl,
    g_as_fractions := He.glo_ok X G (c.fact 22 (f := .glo "as_fractions") rfl),
    f_product_in := F_product_in,
    b_product_in := FunD.bindsN (ps := ["row", "column"]) F_product_in fun _ _ _ _ _ _ us hl => match us, hl with | [_, _], _ => rfl,
    g_product_in := He.glo_ok X G (c.fact 23 (f := .glo "product_in") rfl),
    f_times_in := F_times_in,
    b_times_in := FunD.bindsN (ps := ["rows", "column"]) F_times_in fun _ _ _ _ _ _ us hl => match us, hl with | [_, _], _ => rfl,
    g_times_in := He.glo_ok X G (c.fact 24 (f := .glo "times_in") rfl),
    f_mix_in := F_mix_in,
    b_mix_in := FunD.bindsN (ps := ["rows", "factors"]) F_mix_in fun _ _ _ _ _ _ us hl => match us, hl with | [_, _], _ => rfl,
    g_mix_in := He.glo_ok X G (c.fact 25 (f := .glo "mix_in") rfl),
    f_without_line := F_without_line,
    b_without_line := FunD.bindsN (ps := ["row", "line", "place"]) F_without_line fun _ _ _ _ _ _ us hl => match us, hl with | [_, _, _], _ => rfl,
    g_without_line := He.glo_ok X G (c.fact 26 (f := .glo "without_line") rfl),
    f_cleared_in := F_cleared_in,
    b_cleared_in := FunD.bindsN (ps := ["rows"]) F_cleared_in fun _ _ _ _ _ _ us hl => match us, hl with | [_], _ => rfl,
    g_cleared_in := He.glo_ok X G (c.fact 27 (f := .glo "cleared_in") rfl),
    f_times_of := F_times_of,
    b_times_of := FunD.bindsN (ps := ["rows", "column"]) F_times_of fun _ _ _ _ _ _ us hl => match us, hl with | [_, _], _ => rfl,
    g_times_of := He.glo_ok X G (c.fact 28 (f := .glo "times_of") rfl),
    f_mix_of := F_mix_of,
    b_mix_of := FunD.bindsN (ps := ["rows", "factors"]) F_mix_of fun _ _ _ _ _ _ us hl => match us, hl with | [_, _], _ => rfl,
    g_mix_of := He.glo_ok X G (c.fact 29 (f := .glo "mix_of") rfl),
    f_cleared := F_cleared,
    b_cleared := FunD.bindsN (ps := ["rows"]) F_cleared fun _ _ _ _ _ _ us hl => match us, hl with | [_], _ => rfl,
    g_cleared := He.glo_ok X G (c.fact 30 (f := .glo "cleared") rfl),
    f__law_dice := F__law_dice,
    b__law_dice := FunD.bindsN (ps := ["_law_script", "_law_at"]) F__law_dice fun _ _ _ _ _ _ us hl => match us, hl with | [_, _], _ => rfl,
    g__law_dice := He.glo_ok X G (c.fact 31 (f := .glo "_law_dice") rfl),
    f__law_roll := F__law_roll,
    b__law_roll := FunD.bindsN (ps := ["_law_dice_here", "_law_total"]) F__law_roll fun _ _ _ _ _ _ us hl => match us, hl with | [_, _], _ => rfl,
    g__law_roll := He.glo_ok X G (c.fact 32 (f := .glo "_law_roll") rfl),
    f__law_one_of := F__law_one_of,
    b__law_one_of := FunD.bindsN (ps := ["_law_dice_here", "_law_items"]) F__law_one_of fun _ _ _ _ _ _ us hl => match us, hl with | [_, _], _ => rfl,
    g__law_one_of := He.glo_ok X G (c.fact 33 (f := .glo "_law_one_of") rfl),
    f__law_gcd := F__law_gcd,
    b__law_gcd := FunD.bindsN (ps := ["_law_one", "_law_two"]) F__law_gcd fun _ _ _ _ _ _ us hl => match us, hl with | [_, _], _ => rfl,
    g__law_gcd := He.glo_ok X G (c.fact 34 (f := .glo "_law_gcd") rfl),
    f__law_ratio := F__law_ratio,
    b__law_ratio := FunD.bindsN (ps := ["_law_top", "_law_bottom"]) F__law_ratio fun _ _ _ _ _ _ us hl => match us, hl with | [_, _], _ => rfl,
    g__law_ratio := He.glo_ok X G (c.fact 35 (f := .glo "_law_ratio") rfl),
    f__law_plus := F__law_plus,
    b__law_plus := FunD.bindsN (ps := ["_law_one", "_law_two"]) F__law_plus fun _ _ _ _ _ _ us hl => match us, hl with | [_, _], _ => rfl,
    g__law_plus := He.glo_ok X G (c.fact 36 (f := .glo "_law_plus") rfl),
    f__law_by := F__law_by,
    b__law_by := FunD.bindsN (ps := ["_law_one", "_law_two"]) F__law_by fun _ _ _ _ _ _ us hl => match us, hl with | [_, _], _ => rfl,
    g__law_by := He.glo_ok X G (c.fact 37 (f := .glo "_law_by") rfl),
    f__law_pair := F__law_pair,
    b__law_pair := FunD.bindsN (ps := ["_law_number_here"]) F__law_pair fun _ _ _ _ _ _ us hl => match us, hl with | [_], _ => rfl,
    g__law_pair := He.glo_ok X G (c.fact 38 (f := .glo "_law_pair") rfl),
    f__law_pairs := F__law_pairs,
    b__law_pairs := FunD.bindsN (ps := ["_law_row"]) F__law_pairs fun _ _ _ _ _ _ us hl => match us, hl with | [_], _ => rfl,
    g__law_pairs := He.glo_ok X G (c.fact 39 (f := .glo "_law_pairs") rfl),
    f__law_shown := F__law_shown,
    b__law_shown := FunD.bindsN (ps := ["_law_dice_here", "_law_pair_here"]) F__law_shown fun _ _ _ _ _ _ us hl => match us, hl with | [_, _], _ => rfl,
    g__law_shown := He.glo_ok X G (c.fact 40 (f := .glo "_law_shown") rfl),
    f__law_shown_row := F__law_shown_row,
    b__law_shown_row := FunD.bindsN (ps := ["_law_dice_here", "_law_pairs_here"]) F__law_shown_row fun _ _ _ _ _ _ us hl => match us, hl with | [_, _], _ => rfl,
    g__law_shown_row := He.glo_ok X G (c.fact 41 (f := .glo "_law_shown_row") rfl),
    f__law_number := F__law_number,
    b__law_number := FunD.bindsN (ps := ["_law_dice_here"]) F__law_number fun _ _ _ _ _ _ us hl => match us, hl with | [_], _ => rfl,
    g__law_number := He.glo_ok X G (c.fact 42 (f := .glo "_law_number") rfl),
    f__law_product := F__law_product,
    b__law_product := FunD.bindsN (ps := ["_law_row", "_law_column"]) F__law_product fun _ _ _ _ _ _ us hl => match us, hl with | [_, _], _ => rfl,
    g__law_product := He.glo_ok X G (c.fact 43 (f := .glo "_law_product") rfl),
    f__law_mix := F__law_mix,
    b__law_mix := FunD.bindsN (ps := ["_law_lines_here", "_law_factors"]) F__law_mix fun _ _ _ _ _ _ us hl => match us, hl with | [_, _], _ => rfl,
    g__law_mix := He.glo_ok X G (c.fact 44 (f := .glo "_law_mix") rfl),
    f__law_lines := F__law_lines,
    b__law_lines := FunD.bindsN (ps := ["_law_dice_here", "_law_most", "_law_wide"]) F__law_lines fun _ _ _ _ _ _ us hl => match us, hl with | [_, _, _], _ => rfl,
    g__law_lines := He.glo_ok X G (c.fact 45 (f := .glo "_law_lines") rfl),
    f__law_shown_lines := F__law_shown_lines,
    b__law_shown_lines := FunD.bindsN (ps := ["_law_dice_here", "_law_lines_here"]) F__law_shown_lines fun _ _ _ _ _ _ us hl => match us, hl with | [_, _], _ => rfl,
    g__law_shown_lines := He.glo_ok X G (c.fact 46 (f := .glo "_law_shown_lines") rfl),
    f__law_inverse := F__law_inverse,
    b__law_inverse := FunD.bindsN (ps := ["_law_pair_here"]) F__law_inverse fun _ _ _ _ _ _ us hl => match us, hl with | [_], _ => rfl,
    g__law_inverse := He.glo_ok X G (c.fact 47 (f := .glo "_law_inverse") rfl),
    f__law_without := F__law_without,
    b__law_without := FunD.bindsN (ps := ["_law_row", "_law_line", "_law_place"]) F__law_without fun _ _ _ _ _ _ us hl => match us, hl with | [_, _, _], _ => rfl,
    g__law_without := He.glo_ok X G (c.fact 48 (f := .glo "_law_without") rfl),
    f__law_cleared := F__law_cleared,
    b__law_cleared := FunD.bindsN (ps := ["_law_lines_here"]) F__law_cleared fun _ _ _ _ _ _ us hl => match us, hl with | [_], _ => rfl,
    g__law_cleared := He.glo_ok X G (c.fact 49 (f := .glo "_law_cleared") rfl),
    f__law_are_told := F__law_are_told,
    b__law_are_told := FunD.bindsN (ps := ["_law_numbers"]) F__law_are_told fun _ _ _ _ _ _ us hl => match us, hl with | [_], _ => rfl,
    g__law_are_told := He.glo_ok X G (c.fact 50 (f := .glo "_law_are_told") rfl),
    f__law_right := F__law_right,
    b__law_right := FunD.bindsN (ps := ["_law_dice_here"]) F__law_right fun _ _ _ _ _ _ us hl => match us, hl with | [_], _ => rfl,
    g__law_right := He.glo_ok X G (c.fact 51 (f := .glo "_law_right") rfl),
    f_law := F_law,
    b_law := FunD.bindsN (ps := ["_law_script"]) F_law fun _ _ _ _ _ _ us hl => match us, hl with | [_], _ => rfl,
    g_law := He.glo_ok X G (c.fact 52 (f := .glo "law") rfl),
    bn_Fraction_add := binB_ok (c.own 3 (f := binB "Fraction" "add" "__add__" "__radd__") rfl),
    bn_Fraction_sub := binB_ok (c.own 4 (f := binB "Fraction" "sub" "__sub__" "__rsub__") rfl),
    bn_Fraction_mul := binB_ok (c.own 5 (f := binB "Fraction" "mul" "__mul__" "__rmul__") rfl),
    eq_Fraction := eqB_ok (c.own 6 (f := eqB "Fraction") rfl),
    n_isinstance := He.free_ok X G (c.fact 53 (f := .free "isinstance") rfl),
    n_int := He.free_ok X G (c.fact 54 (f := .free "int") rfl),
    n_bool := He.free_ok X G (c.fact 55 (f := .free "bool") rfl),
    n_abs := He.free_ok X G (c.fact 56 (f := .free "abs") rfl),
    n_max := He.free_ok X G (c.fact 57 (f := .free "max") rfl),
    n_min := He.free_ok X G (c.fact 58 (f := .free "min") rfl),
    n_len := He.free_ok X G (c.fact 59 (f := .free "len") rfl),
    n_range := He.free_ok X G (c.fact 60 (f := .free "range") rfl),
    n_tuple := He.free_ok X G (c.fact 61 (f := .free "tuple") rfl),
    n_list := He.free_ok X G (c.fact 62 (f := .free "list") rfl),
    n_zip := He.free_ok X G (c.fact 63 (f := .free "zip") rfl),
    n_enumerate := He.free_ok X G (c.fact 64 (f := .free "enumerate") rfl),
    n_all := He.free_ok X G (c.fact 65 (f := .free "all") rfl),
    g_MAX_ROWS := h_MAX_ROWS,
    g_MAX_WIDTH := h_MAX_WIDTH,
    isB_int := (List.forall_mem_cons.mpr ⟨⟨kclsB_ok (c.own 0 (f := kclsB "Fraction") rfl), kitB_ok (c.own 7 (f := kitB (fun K => .ref (He.ga K "Fraction")) (fun _ => .type (BT.int).nm)) rfl)⟩, (fun _ h => by cases h)⟩),
    isB_bool := (List.forall_mem_cons.mpr ⟨⟨kclsB_ok (c.own 0 (f := kclsB "Fraction") rfl), kitB_ok (c.own 8 (f := kitB (fun K => .ref (He.ga K "Fraction")) (fun _ => .type (BT.bool).nm)) rfl)⟩, (fun _ h => by cases h)⟩),
    isB_tuple := (List.forall_mem_cons.mpr ⟨⟨kclsB_ok (c.own 0 (f := kclsB "Fraction") rfl), kitB_ok (c.own 9 (f := kitB (fun K => .ref (He.ga K "Fraction")) (fun _ => .type (BT.tup).nm)) rfl)⟩, (fun _ h => by cases h)⟩),
    isC_Fraction := isCB_ok (c.own 10 (f := isCB "Fraction") rfl),
    isO_Fraction := (fun _ h => by cases h) }, rfl⟩
end K04
set_option Elab.async false
set_option linter.all false
set_option maxRecDepth 100000
set_option maxHeartbeats 4000000
namespace K04
open PySem PySem.Spec PyProof.Rows L2 L3
local macro_rules
  | `(tactic| infer_instance) => `(tactic| first
    | with_reducible apply T_seq | with_reducible apply T_setN | with_reducible apply T_set | with_reducible apply T_setO | with_reducible apply T_ret | with_reducible apply T_retO | with_reducible apply T_ifS | with_reducible apply T_par | with_reducible apply T_par3 | with_reducible apply T_drop | with_reducible apply T_skip | with_reducible apply T_for
    | ((with_reducible apply T_var); exact rfl) | ((with_reducible apply T_dat); exact rfl) | ((with_reducible apply T_dato); exact rfl) | with_reducible apply T_c | with_reducible apply T_op | with_reducible apply T_un | with_reducible apply T_cb | with_reducible apply T_args1 | with_reducible apply T_args0 | with_reducible apply T_test | with_reducible apply T_not | with_reducible apply T_and | with_reducible apply T_or | with_reducible apply T_andV | with_reducible apply T_orV | with_reducible apply T_notV | with_reducible apply T_if | with_reducible apply T_both | with_reducible apply T_frz
    | with_reducible apply T_lst | ((with_reducible apply T_tup)) | with_reducible apply T_items | with_reducible apply T_itemsN
    | with_reducible apply T_call | with_reducible apply T_callO | with_reducible apply T_mk | with_reducible apply T_mthD | with_reducible apply T_prop | with_reducible apply T_opI | with_reducible apply T_unI | with_reducible apply T_cbI | with_reducible apply T_strI | with_reducible apply T_fs | with_reducible apply T_js1 | with_reducible apply T_js0
    | with_reducible apply T_ags1 | with_reducible apply T_ags0 | ((with_reducible apply T_agsS); exact rfl)
    | ((with_reducible apply T_fldS); exact rfl) | with_reducible apply T_setF | ((with_reducible apply T_ixS); exact rfl) | with_reducible apply T_setIx | ((with_reducible apply T_app); exact rfl) | ((with_reducible apply T_lenS); exact rfl)
    | ((with_reducible apply T_calS); exact rfl; exact rfl; exact rfl) | ((with_reducible apply T_cal); exact rfl; exact rfl) | with_reducible apply L_recvP | with_reducible apply gdx
    | with_reducible apply T_callD | with_reducible apply T_opII | with_reducible apply T_opIi | with_reducible apply T_opiI | with_reducible apply T_unI1 | with_reducible apply T_cbI1 | with_reducible apply T_strI1
    | with_reducible apply T_eqI | with_reducible apply T_dct0 | with_reducible apply T_comp2 | with_reducible apply TC2 | with_reducible apply TC0 | with_reducible apply L_repr | with_reducible apply L_rep
    | ((with_reducible apply wr_id); exact rfl) | with_reducible apply T_parOO | with_reducible apply T_parDO | with_reducible apply T_parOD | with_reducible apply T_lstOf | with_reducible apply L_sqL | with_reducible apply L_sqT | with_reducible apply L_isNBl | with_reducible apply L_ne0T | with_reducible apply L_enu1 | with_reducible apply L_zip2 | with_reducible apply L_catT
    | with_reducible apply c_tt | with_reducible apply c_ff
    | with_reducible apply L_asB | with_reducible apply L_asD | with_reducible apply L_asO | with_reducible apply L_add | with_reducible apply L_sub | with_reducible apply L_mul | with_reducible apply L_fdiv | with_reducible apply L_mod | with_reducible apply L_pow | with_reducible apply L_lt | with_reducible apply L_le | with_reducible apply L_gt | with_reducible apply L_ge | with_reducible apply L_eq | with_reducible apply L_ne | with_reducible apply L_eqS | with_reducible apply L_neS
    | with_reducible apply L_neg | with_reducible apply L_abs | with_reducible apply L_int | with_reducible apply L_intB | with_reducible apply L_max | with_reducible apply L_min | with_reducible apply L_lenL | with_reducible apply L_lenR | with_reducible apply L_lenT | with_reducible apply L_tupL | with_reducible apply L_tupT | with_reducible apply L_cat
    | with_reducible apply L_isI_i | with_reducible apply L_isB_i | with_reducible apply L_isT_i | with_reducible apply L_isI_b | with_reducible apply L_isB_b | with_reducible apply L_isT_t | with_reducible apply L_isI_t | with_reducible apply L_isBC | with_reducible apply L_isCI | with_reducible apply L_isCC | ((with_reducible apply L_fld); exact rfl) | ((with_reducible apply L_fldO); exact rfl) | ((with_reducible apply L_recv); exact rfl)
    | ((with_reducible apply L_ixL); exact rfl) | ((with_reducible apply L_ixR); exact rfl) | ((with_reducible apply L_ixT); exact rfl) | ((with_reducible apply L_ixD); exact rfl) | ((with_reducible apply L_ixOf); exact rfl) | with_reducible apply L_lstD | with_reducible apply L_lstR | with_reducible apply L_tupD | with_reducible apply L_name | ((with_reducible apply L_pTup); exact rfl)
    | ((with_reducible apply f_d); exact le_lit rfl) | ((with_reducible apply f_n); exact le_lit rfl) | ((with_reducible apply fs_d); exact rfl; exact le_lit rfl) | ((with_reducible apply fs_n); exact rfl; exact le_lit rfl)
    | ((with_reducible refine And.intro ?_ ?_); (first | exact rfl | exact le_lit rfl)) | ((with_reducible apply ex_and); exact rfl))
abbrev frF (t b : Int) : List (Str × D) := [("own_top", .int t), ("own_bottom", .int b)]
abbrev fr (t b : Int) : D := .ins 0 (frF t b)
abbrev pr (t b : Int) : D := .tup [.int t, .int b]
abbrev fq (q : Rat) : D := .ins 0 [("own_top", .int q.num), ("own_bottom", .int (q.den : Int))]
abbrev pq (q : Rat) : D := .tup [.int q.num, .int (q.den : Int)]
def nt (t b : Int) : Int := (if 0 < b then t else -t) / (t.gcd b)
def nb (t b : Int) : Int := b.natAbs / t.gcd b
theorem nt_q {t b : Int} (h : b ≠ 0) : nt t b = (Rat.divInt t b).num := by
  rw [Rat.num_divInt, Int.gcd_comm b t]
  unfold nt
  by_cases h0 : 0 < b
  · rw [if_pos h0, Int.sign_eq_one_of_pos h0, Int.one_mul]
  · rw [if_neg h0, Int.sign_eq_neg_one_of_neg (by omega)]
    congr 1
    omega
theorem nb_q {t b : Int} (h : b ≠ 0) : nb t b = ((Rat.divInt t b).den : Int) := by
  rw [Rat.den_divInt, if_neg h, Int.gcd_comm b t]
  unfold nb
  omega
section
variable {i t b : Int} {q x y : Rat} {d : D}
theorem den_pos : (0 : Int) < (q.den : Int) := Int.natCast_pos.mpr (Nat.pos_of_ne_zero q.den_nz)
theorem den_ne : (q.den : Int) ≠ 0 := Int.ne_of_gt den_pos
theorem add_q (x y : Rat) : x + y = Rat.divInt (x.num * y.den + y.num * x.den) (x.den * y.den) := by rw [Rat.add_def', ← Rat.divInt_ofNat, Int.natCast_mul]
theorem sub_q (x y : Rat) : x - y = Rat.divInt (x.num * y.den - y.num * x.den) (x.den * y.den) := by rw [Rat.sub_def', ← Rat.divInt_ofNat, Int.natCast_mul]
theorem mul_q (x y : Rat) : x * y = Rat.divInt (x.num * y.num) (x.den * y.den) := by rw [Rat.mul_def', ← Rat.divInt_ofNat, Int.natCast_mul]
theorem div_q (x y : Rat) : x / y = Rat.divInt (x.num * y.den) (x.den * y.num) := by
  rw [Rat.div_def, Rat.inv_def]
  conv => lhs; lhs; rw [← Rat.num_divInt_den x]
  rw [Rat.divInt_mul_divInt]
theorem self_q (x : Rat) : x = Rat.divInt x.num x.den := (Rat.num_divInt_den x).symm
theorem sp_is_integer_i : GD g_is_integer [.int i] (.bl true) := by
  refine GD_of ?_
  unfold m_is_integer
  repeat infer_instance
theorem sp_is_integer_f : GD g_is_integer [fq q] (.bl false) := by
  refine GD_of ?_
  unfold m_is_integer
  repeat infer_instance
theorem sp_gcd (ha : 0 ≤ t) (hb : 0 ≤ b) : GD g_common_divisor [.int t, .int b] (.int (t.gcd b)) := gd_gcd1 ha hb
theorem sp_lgcd (ha : 0 ≤ t) (hb : 0 ≤ b) : GD g__law_gcd [.int t, .int b] (.int (t.gcd b)) := gd_gcd2 ha hb
theorem gcd_abs : (t.natAbs : Int).gcd (b.natAbs : Int) = t.gcd b := rfl
theorem gcd_abs1 : (t.natAbs : Int).gcd b = t.gcd b := rfl
theorem gcd_nn : (0 : Int) ≤ (t.gcd b : Int) := Int.natCast_nonneg _
theorem mk_fr {Q : OB → Prop} (q : Q (.ins 0 (frF (nt t b) (nb t b)))) (hb : b ≠ 0) (hg : divOk (t.gcd b) = true) : GS g_Fraction_init (.ins 0 []) [.int t, .int b] fun r o => r = .dat .non ∧ Q o := by
  refine GS_of ?_
  unfold m_Fraction_init
  repeat infer_instance
  · exact sp_is_integer_i
  repeat infer_instance
  · exact sp_is_integer_i
  repeat infer_instance
  refine c_f (by simp [hb]) ?_
  repeat infer_instance
  · exact sp_gcd (Int.natCast_nonneg _) (Int.natCast_nonneg _)
  repeat infer_instance
  by_cases h0 : 0 < b
  · refine c_t (by simp only [h0, decide_true]) ?_
    repeat infer_instance
    · show Q (.ins 0 [("own_top", .int (t.fdiv (t.gcd b))), ("own_bottom", .int ((b.natAbs : Int).fdiv (t.gcd b)))])
      unfold nt nb at q
      rw [if_pos h0] at q
      rw [Int.fdiv_eq_ediv_of_nonneg _ gcd_nn, Int.fdiv_eq_ediv_of_nonneg _ gcd_nn]
      exact q
    all_goals exact hg
  · refine c_f (by simp only [h0, decide_false]) ?_
    repeat infer_instance
    · show Q (.ins 0 [("own_top", .int ((-t).fdiv (t.gcd b))), ("own_bottom", .int ((b.natAbs : Int).fdiv (t.gcd b)))])
      unfold nt nb at q
      rw [if_neg h0] at q
      rw [Int.fdiv_eq_ediv_of_nonneg _ gcd_nn, Int.fdiv_eq_ediv_of_nonneg _ gcd_nn]
      exact q
    all_goals exact hg
/-! sizes -/
structure Sq (n : Nat) (q : Rat) : Prop where
  st : Sz n q.num
  sb : Sz n (q.den : Int)
theorem Sq.mono {n m : Nat} (h : Sq n q) (k : n ≤ m) : Sq m q := ⟨h.st.mono k, h.sb.mono k⟩
theorem gcd_ok {n : Nat} (h : Sz n b) (h0 : b ≠ 0) (l : n < 9000) : divOk (t.gcd b) = true := by
  have h1 : t.gcd b ≠ 0 := fun z => h0 (Int.gcd_eq_zero_iff.mp z).2
  have h2 : t.gcd b ≤ b.natAbs := Nat.le_of_dvd (by omega) (Int.natAbs_dvd_natAbs.mpr (Int.gcd_dvd_right t b))
  exact Sz.divOk (n := n) (h.le (by omega)) (by omega) l
theorem abs_ediv_le {t : Int} {g : Nat} (h : (g : Int) ∣ t) : (t / (g : Int)).natAbs ≤ t.natAbs := by
  obtain ⟨c, rfl⟩ := h
  by_cases hg : (g : Int) = 0
  · rw [hg]; simp
  · rw [Int.mul_ediv_cancel_left _ hg, Int.natAbs_mul]
    have : 1 ≤ (g : Int).natAbs := by omega
    exact Nat.le_mul_of_pos_left _ this
theorem nt_sz {n : Nat} (h : Sz n t) : Sz n (nt t b) := by
  unfold nt
  split
  · exact h.le (abs_ediv_le (Int.gcd_dvd_left t b))
  · refine h.le ?_
    have := abs_ediv_le (t := -t) (Int.dvd_neg.mpr (Int.gcd_dvd_left t b))
    omega
theorem nb_sz {n : Nat} (h : Sz n b) : Sz n (nb t b) := by
  unfold nb
  refine h.le ?_
  have := abs_ediv_le (t := (b.natAbs : Int)) (g := t.gcd b) (Int.dvd_natAbs.mpr (Int.gcd_dvd_right t b))
  omega
theorem sq_div {n : Nat} (ht : Sz n t) (hb : Sz n b) (h0 : b ≠ 0) : Sq n (Rat.divInt t b) := ⟨by rw [← nt_q h0]; exact nt_sz ht, by rw [← nb_q h0]; exact nb_sz hb⟩
theorem den_mul_ne : (x.den : Int) * (y.den : Int) ≠ 0 := Int.mul_ne_zero den_ne den_ne
theorem Sq.add {n m : Nat} (h : Sq n x) (k : Sq m y) : Sq (n + m + 1) (x + y) := by
  rw [add_q]
  exact sq_div ((h.st.mul k.sb).add ((k.st.mul h.sb).mono (by omega))) ((h.sb.mul k.sb).mono (by omega)) den_mul_ne
theorem Sq.sub {n m : Nat} (h : Sq n x) (k : Sq m y) : Sq (n + m + 1) (x - y) := by
  rw [sub_q]
  exact sq_div ((h.st.mul k.sb).sub ((k.st.mul h.sb).mono (by omega))) ((h.sb.mul k.sb).mono (by omega)) den_mul_ne
theorem Sq.mul {n m : Nat} (h : Sq n x) (k : Sq m y) : Sq (n + m) (x * y) := by
  rw [mul_q]
  exact sq_div (h.st.mul k.st) (h.sb.mul k.sb) den_mul_ne
theorem Sq.neg {n : Nat} (h : Sq n x) : Sq n (-x) := ⟨by rw [Rat.neg_num]; exact h.st.neg, by rw [Rat.neg_den]; exact h.sb⟩
theorem num_ne (h : y ≠ 0) : y.num ≠ 0 := fun e => h (Rat.num_eq_zero.mp e)
theorem Sq.div {n m : Nat} (h : Sq n x) (k : Sq m y) (h0 : y ≠ 0) : Sq (n + m) (x / y) := by
  rw [div_q]
  exact sq_div (h.st.mul k.sb) (h.sb.mul k.st) (Int.mul_ne_zero den_ne (num_ne h0))
theorem Sq.int {n : Nat} (h : Sz n i) (hn : 1 ≤ n) : Sq n (i : Rat) := ⟨h, Sz.mono (n := 1) (i := 1) (by decide) hn⟩
theorem Sq.zero : Sq 1 0 := ⟨by decide, by decide⟩
theorem Sq.one : Sq 1 1 := ⟨by decide, by decide⟩
theorem Sq.inv {n : Nat} (h : Sq n x) (h0 : x ≠ 0) : Sq n x⁻¹ := by
  rw [Rat.inv_def]
  exact sq_div h.sb h.st (num_ne h0)
/-! the class -/
theorem mk_q {Q : OB → Prop} (q : Q (.ins 0 (frF (Rat.divInt t b).num ((Rat.divInt t b).den : Int)))) (hb : b ≠ 0) (hg : divOk (t.gcd b) = true) : GS g_Fraction_init (.ins 0 []) [.int t, .int b] fun r o => r = .dat .non ∧ Q o := mk_fr (by rw [nt_q hb, nb_q hb]; exact q) hb hg
theorem one_ok : divOk ((i.gcd 1 : Nat) : Int) = true := by
  rw [Int.gcd_one_right]
  decide
theorem int_q : Rat.divInt i 1 = (i : Rat) := Rat.num_divInt_den (i : Rat)
theorem mk_int {Q : OB → Prop} (q : Q (.ins 0 (frF i 1))) : GS g_Fraction_init (.ins 0 []) [.int i, .int 1] fun r o => r = .dat .non ∧ Q o :=
  mk_q (by rw [int_q]; exact q) (by decide) one_ok
theorem sp_top : GD g_Fraction_top [fq q] (.int q.num) := by
  refine GD_of ?_
  unfold m_Fraction_top
  repeat infer_instance
theorem sp_bottom : GD g_Fraction_bottom [fq q] (.int (q.den : Int)) := by
  refine GD_of ?_
  unfold m_Fraction_bottom
  repeat infer_instance
/-- a value that shows a rational number -/
def Sh (d : D) (q : Rat) : Prop := d = fq q ∨ ∃ i : Int, d = .int i ∧ q = (i : Rat)
theorem Sh.f : Sh (fq q) q := .inl rfl
theorem Sh.n : Sh (.int i) (i : Rat) := .inr ⟨i, rfl, rfl⟩
theorem sp_is_fraction (h : Sh d q) : GD g_is_fraction [d] (.bl true) := by
  rcases h with rfl | ⟨i, rfl, rfl⟩
  · refine GD_of ?_
    unfold m_is_fraction
    repeat infer_instance
  · refine GD_of ?_
    unfold m_is_fraction
    repeat infer_instance
    · exact sp_is_integer_i
    repeat infer_instance
theorem sp_require (h : Sh d q) : GD g_require_fraction [d] .non := by
  refine GD_of ?_
  unfold m_require_fraction
  repeat infer_instance
  · exact sp_is_fraction h
  repeat infer_instance
theorem sp_of (h : Sh d q) : GD g_fraction_of [d] (fq q) := by
  rcases h with rfl | ⟨i, rfl, rfl⟩
  · refine GD_of ?_
    unfold m_fraction_of
    repeat infer_instance
  · refine GD_of ?_
    unfold m_fraction_of
    repeat infer_instance
    apply mk_int
    repeat infer_instance
    exact f_e rfl (le_lit rfl)
theorem sp_required (h : Sh d q) : GD g_required [d] (fq q) := by
  refine GD_of ?_
  unfold m_required
  repeat infer_instance
  · exact sp_require h
  repeat infer_instance
  · exact sp_of h
  repeat infer_instance
theorem sp_eq_i : GD g_Fraction_eq [fq q, .int i] (.bl (decide (q = (i : Rat)))) := by
  have e : decide (q = (i : Rat)) = (decide ((q.den : Int) = 1) && decide (q.num = i)) := by
    rw [Bool.eq_iff_iff]
    simp only [Bool.and_eq_true, decide_eq_true_eq]
    constructor
    · rintro rfl; exact ⟨rfl, rfl⟩
    · rintro ⟨h1, h2⟩
      exact Rat.ext h2 (by have : q.den = 1 := by omega
                           exact this)
  refine GD_of ?_
  unfold m_Fraction_eq
  repeat infer_instance
  · exact sp_is_integer_i
  repeat infer_instance
  by_cases h : (q.den : Int) = 1
  · refine c_t (decide_eq_true h) ?_
    repeat infer_instance
    exact f_e (by rw [e, decide_eq_true h]; rfl) (le_lit rfl)
  · refine c_f (decide_eq_false h) ?_
    repeat infer_instance
    exact f_e (by rw [e, decide_eq_false h]; rfl) (le_lit rfl)
theorem sp_eq_f : GD g_Fraction_eq [fq x, fq y] (.bl (decide (x = y))) := by
  have e : decide (x = y) = (decide (x.num = y.num) && decide ((x.den : Int) = (y.den : Int))) := by
    rw [Bool.eq_iff_iff]
    simp only [Bool.and_eq_true, decide_eq_true_eq]
    constructor
    · rintro rfl; exact ⟨rfl, rfl⟩
    · rintro ⟨h1, h2⟩
      exact Rat.ext h1 (by omega)
  refine GD_of ?_
  unfold m_Fraction_eq
  repeat infer_instance
  · exact sp_is_integer_f
  repeat infer_instance
  by_cases h : x.num = y.num
  · refine c_t (decide_eq_true h) ?_
    repeat infer_instance
    exact f_e (by rw [e, decide_eq_true h]; rfl) (le_lit rfl)
  · refine c_f (decide_eq_false h) ?_
    repeat infer_instance
    exact f_e (by rw [e, decide_eq_false h]; rfl) (le_lit rfl)
variable {n m : Nat}
theorem sp_add (hd : Sh d y) (h1 : Sq n x) (h2 : Sq m y) (hn : n + m < 9000) : GD g_Fraction_add [fq x, d] (fq (x + y)) := by
  refine GD_of ?_
  unfold m_Fraction_add
  repeat infer_instance
  · exact sp_required hd
  repeat infer_instance
  apply mk_q
  · rw [← add_q]
    repeat infer_instance
  · exact den_mul_ne
  · exact gcd_ok (h1.sb.mul h2.sb) den_mul_ne hn
  · exact h1.sb.mulOk h2.sb (by omega)
  · exact h2.st.mulOk h1.sb (by omega)
  · exact h1.st.mulOk h2.sb (by omega)
theorem sp_sub (hd : Sh d y) (h1 : Sq n x) (h2 : Sq m y) (hn : n + m < 9000) : GD g_Fraction_sub [fq x, d] (fq (x - y)) := by
  refine GD_of ?_
  unfold m_Fraction_sub
  repeat infer_instance
  · exact sp_required hd
  repeat infer_instance
  apply mk_q
  · rw [← sub_q]
    repeat infer_instance
  · exact den_mul_ne
  · exact gcd_ok (h1.sb.mul h2.sb) den_mul_ne hn
  · exact h1.sb.mulOk h2.sb (by omega)
  · exact h2.st.mulOk h1.sb (by omega)
  · exact h1.st.mulOk h2.sb (by omega)
theorem sp_mul (hd : Sh d y) (h1 : Sq n x) (h2 : Sq m y) (hn : n + m < 9000) : GD g_Fraction_mul [fq x, d] (fq (x * y)) := by
  refine GD_of ?_
  unfold m_Fraction_mul
  repeat infer_instance
  · exact sp_required hd
  repeat infer_instance
  apply mk_q
  · rw [← mul_q]
    repeat infer_instance
  · exact den_mul_ne
  · exact gcd_ok (h1.sb.mul h2.sb) den_mul_ne hn
  · exact h1.sb.mulOk h2.sb (by omega)
  · exact h1.st.mulOk h2.st (by omega)
theorem sp_by (hd : Sh d y) (h1 : Sq n x) (h2 : Sq m y) (h0 : y ≠ 0) (hn : n + m < 9000) : GD g_Fraction_by [fq x, d] (fq (x / y)) := by
  have hne : (x.den : Int) * y.num ≠ 0 := Int.mul_ne_zero den_ne (num_ne h0)
  refine GD_of ?_
  unfold m_Fraction_by
  repeat infer_instance
  · exact sp_required hd
  repeat infer_instance
  refine c_f (by simp only [num_ne h0, decide_false]) ?_
  repeat infer_instance
  apply mk_q
  · rw [← div_q]
    repeat infer_instance
  · exact hne
  · exact gcd_ok (h1.sb.mul h2.st) hne hn
  · exact h1.sb.mulOk h2.st (by omega)
  · exact h1.st.mulOk h2.sb (by omega)
theorem T_opq {prim : D → D → Option D} {gf gr : G} {z : D} {ρ : List S} {Q : D → List S → Prop} (hd : Sh d y) (h : GD gf [fq x, d] z) (q : Q z ρ) : T (opI 0 prim gf gr (fq x) d) ρ Q := by
  rcases hd with rfl | ⟨i, rfl, rfl⟩
  · exact T_opII h q
  · exact T_opIi h q
/-! the law's own pairs -/
theorem sp_ratio (ht : Sz n t) (hb : Sz n b) (h0 : 0 < b) (hn : n < 9000) : GD g__law_ratio [.int t, .int b] (pq (Rat.divInt t b)) := by
  have hg := gcd_ok (t := t) hb (Int.ne_of_gt h0) hn
  refine GD_of ?_
  unfold m__law_ratio
  repeat infer_instance
  · exact sp_lgcd (Int.natCast_nonneg _) (Int.le_of_lt h0)
  repeat infer_instance
  · refine f_e ?_ (le_lit rfl)
    rw [gcd_abs1, Int.fdiv_eq_ediv_of_nonneg _ gcd_nn, Int.fdiv_eq_ediv_of_nonneg _ gcd_nn]
    unfold pq
    rw [← nt_q (Int.ne_of_gt h0), ← nb_q (Int.ne_of_gt h0)]
    unfold nt nb
    rw [if_pos h0]
    have e : (b.natAbs : Int) = b := by omega
    rw [e]
  · exact hg
  · exact hg
theorem sp_plus (h1 : Sq n x) (h2 : Sq m y) (hn : n + m < 8999) : GD g__law_plus [pq x, pq y] (pq (x + y)) := by
  refine GD_of ?_
  unfold m__law_plus
  repeat infer_instance
  · exact sp_ratio (n := n + m + 1) ((h1.st.mul h2.sb).add ((h2.st.mul h1.sb).mono (by omega))) ((h1.sb.mul h2.sb).mono (by omega)) (Int.mul_pos den_pos den_pos) (by omega)
  rw [← add_q]
  repeat infer_instance
  · exact h1.sb.mulOk h2.sb (by omega)
  · exact h2.st.mulOk h1.sb (by omega)
  · exact h1.st.mulOk h2.sb (by omega)
theorem sp_lby (h1 : Sq n x) (h2 : Sq m y) (hn : n + m < 9000) : GD g__law_by [pq x, pq y] (pq (x * y)) := by
  refine GD_of ?_
  unfold m__law_by
  repeat infer_instance
  · exact sp_ratio (n := n + m) (h1.st.mul h2.st) (h1.sb.mul h2.sb) (Int.mul_pos den_pos den_pos) hn
  rw [← mul_q]
  repeat infer_instance
  · exact h1.sb.mulOk h2.sb (by omega)
  · exact h1.st.mulOk h2.st (by omega)
theorem sp_pair (h : Sh d q) : GD g__law_pair [d] (pq q) := by
  rcases h with rfl | ⟨i, rfl, rfl⟩
  · refine GD_of ?_
    unfold m__law_pair
    repeat infer_instance
    · exact sp_top
    repeat infer_instance
    · exact sp_bottom
    repeat infer_instance
  · refine GD_of ?_
    unfold m__law_pair
    repeat infer_instance
    exact f_e rfl (le_lit rfl)
theorem sp_inverse (h0 : q ≠ 0) : GD g__law_inverse [pq q] (pq q⁻¹) := by
  have hn := num_ne h0
  have e1 := Rat.num_inv q
  have e2 := Rat.den_inv q
  rw [if_neg hn] at e2
  refine GD_of ?_
  unfold m__law_inverse
  repeat infer_instance
  by_cases hp : 0 < q.num
  · refine c_t (by simp only [hp, decide_true]) ?_
    repeat infer_instance
    refine f_e ?_ (le_lit rfl)
    unfold pq
    rw [e1, e2, Int.sign_eq_one_of_pos hp, Int.one_mul]
    have : ((q.num.natAbs : Nat) : Int) = q.num := by omega
    rw [this]
  · refine c_f (by simp only [hp, decide_false]) ?_
    repeat infer_instance
    refine f_e ?_ (le_lit rfl)
    unfold pq
    rw [e1, e2, Int.sign_eq_neg_one_of_neg (by omega)]
    have e3 : ((q.num.natAbs : Nat) : Int) = 0 - q.num := by omega
    have e4 : -1 * (q.den : Int) = 0 - q.den := by omega
    rw [e3, e4]
end
/-! rows -/
def en (r : List Rat) (c : Nat) : Rat := r.getD c 0
theorem en_get {r : List Rat} {c : Nat} (h : c < r.length) : r[c]? = some (en r c) := by
  unfold en
  simp [List.getD_eq_getElem?_getD, h]
theorem en_mem {r : List Rat} {c : Nat} (h : c < r.length) : en r c ∈ r := List.mem_of_getElem? (en_get h)
def ShN (n : Nat) (d : D) (q : Rat) : Prop := Sh d q ∧ Sq n q
abbrev rF (r : List Rat) : D := .lst (r.map fq)
abbrev rP (r : List Rat) : D := .lst (r.map pq)
def SzR (n : Nat) (r : List Rat) : Prop := ∀ q ∈ r, Sq n q
theorem f2_fq {n : Nat} {r : List Rat} (h : SzR n r) : F2 (ShN n) (r.map fq) r := F2.of_mapL fun q hq => ⟨.f, h q hq⟩
theorem SzR.mono {n m : Nat} {r : List Rat} (h : SzR n r) (k : n ≤ m) : SzR m r := fun q hq => (h q hq).mono k
/-- a shown row -/
def ShR (n w : Nat) (d : D) (r : List Rat) : Prop := ∃ ds, d = .tup ds ∧ F2 (ShN n) ds r ∧ r.length = w
theorem ShR.sz {n w : Nat} {d : D} {r : List Rat} (h : ShR n w d r) : SzR n r := by
  obtain ⟨ds, _, h, _⟩ := h
  intro q hq
  obtain ⟨i, hi⟩ := List.getElem?_of_mem hq
  obtain ⟨a, _, r⟩ := h.get hi
  exact r.2
def dotC (xs ys : List Rat) : Rat := (xs.zip ys).foldl (fun s p => s + p.1 * p.2) 0
def subRow (row line : List Rat) (p : Nat) : List Rat := List.zipWith (fun one other => one - en row p * other) row line
section
variable {n m w k k' : Nat} {ds dss : List D} {r xs ys row line : List Rat} {rows : List (List Rat)} {d dx dy : D}
theorem sp_are_fractions {i : Int} (h : F2 (ShN n) ds r) (hi : (r.length : Int) = i) (hl : r.length < 900000) : GD g_are_fractions [.tup ds, .int i] (.bl true) := by
  have hlen := h.len
  refine GD_of ?_
  unfold m_are_fractions
  repeat infer_instance
  refine c_t (decide_eq_true (by omega)) ?_
  repeat infer_instance
  refine ⟨by omega, ?_⟩
  refine TC_f0 (R := ShN n) (fun _ => D.bl true) ?_ h ?_
  · intro d q hd
    repeat infer_instance
    · exact sp_is_fraction hd.1
    repeat infer_instance
  · refine ⟨rfl, ?_⟩
    repeat infer_instance
    refine L_allT ?_ ?_
    · repeat infer_instance
    · intro d hd
      obtain ⟨_, _, rfl⟩ := List.mem_map.mp hd
      rfl
theorem sp_is_rows (h : F2 (ShR n w) dss rows) (h0 : rows ≠ []) (h1 : rows.length ≤ 80) (w0 : 1 ≤ w) (w1 : w ≤ 12) : GD g_is_rows [.tup dss] (.bl true) := by
  obtain ⟨r0, rs, rfl⟩ := List.exists_cons_of_ne_nil h0
  have hlen := h.len
  obtain ⟨d0, ds0, rfl⟩ : ∃ d0 ds0, dss = d0 :: ds0 := by cases h; exact ⟨_, _, rfl⟩
  obtain ⟨es, rfl, he, hw⟩ : ShR n w d0 r0 := by cases h; assumption
  have hl0 := he.len
  refine GD_of ?_
  unfold m_is_rows
  repeat infer_instance
  refine c_t (decide_eq_true (by rw [hlen, List.length_cons]; omega)) ?_
  repeat infer_instance
  rw [decide_eq_true (show (((D.tup es :: ds0).length : Nat) : Int) ≤ 80 by rw [hlen]; omega)]
  repeat infer_instance
  refine L_ixT atI_0 ?_
  repeat infer_instance
  refine L_ixT atI_0 ?_
  repeat infer_instance
  refine c_t (decide_eq_true (by omega)) ?_
  repeat infer_instance
  rw [decide_eq_true (show ((es.length : Nat) : Int) ≤ 12 by omega)]
  repeat infer_instance
  refine ⟨by rw [hlen]; omega, ?_⟩
  refine TC_f0 (R := ShR n w) (fun _ => D.bl true) ?_ h ?_
  · intro d q hd
    obtain ⟨ds, rfl, k1, k2⟩ := hd
    repeat infer_instance
    refine L_ixT atI_0 ?_
    repeat infer_instance
    · exact sp_are_fractions k1 (by omega) (by omega)
    repeat infer_instance
  · refine ⟨rfl, ?_⟩
    repeat infer_instance
    refine L_allT ?_ ?_
    · repeat infer_instance
    · intro d hd
      obtain ⟨_, _, rfl⟩ := List.mem_map.mp hd
      rfl
theorem sp_require_rows (h : GD g_is_rows [d] (.bl true)) : GD g_require_rows [d] .non := by
  refine GD_of ?_
  unfold m_require_rows
  repeat infer_instance
  · exact h
  repeat infer_instance
theorem sp_require_fractions {i : Int} (h : F2 (ShN n) ds r) (hi : (r.length : Int) = i) (hl : r.length < 900000) : GD g_require_fractions [.tup ds, .int i] .non := by
  refine GD_of ?_
  unfold m_require_fractions
  repeat infer_instance
  · exact sp_are_fractions h hi hl
  repeat infer_instance
theorem sp_as_fractions (h : F2 (ShN n) ds r) (hl : r.length < 900000) : GD g_as_fractions [.tup ds] (.tup (r.map fq)) := by
  have hlen := h.len
  refine GD_of ?_
  unfold m_as_fractions
  repeat infer_instance
  refine ⟨by omega, ?_⟩
  refine TC_f0 (R := ShN n) fq ?_ h ?_
  · intro d q hd
    repeat infer_instance
    · exact sp_of hd.1
    repeat infer_instance
  · refine ⟨rfl, ?_⟩
    repeat infer_instance
theorem sp_product_in {as bs : List D} (hx : sqD dx = some as) (hy : sqD dy = some bs) (ha : F2 (ShN n) as xs) (hb : F2 (ShN m) bs ys) (hl : xs.length = ys.length) (hn : (xs.length + 1) * (n + m + 1) + 1 < 9000) : GD g_product_in [dx, dy] (fq (dotC xs ys)) := by
  have la := ha.len
  have lb := hb.len
  refine GD_of ?_
  unfold m_product_in
  repeat infer_instance
  apply mk_int
  repeat infer_instance
  refine L_zipS hx hy (by omega) ?_
  refine T_loop2 (fun (ps : List (Rat × Rat)) ρ => ∃ j s u v, j + ps.length = xs.length ∧ Sq (j * (n + m + 1) + 1) s ∧ ps.foldl (fun s p => s + p.1 * p.2) s = dotC xs ys ∧ ρ = [.dat dx, .dat dy, .dat (fq s), u, v]) ?_ ?_ (F2.zipD ha hb) ⟨0, 0, .dead, .dead, by simp [hl], .mono .zero (by omega), rfl, rfl⟩
  · intro d p ps ρ hd hI
    obtain ⟨a, b, rfl, h1, h2⟩ := hd
    obtain ⟨j, s, u, v, hj, hs, hf, rfl⟩ := hI
    rw [List.length_cons] at hj
    have h3 : (j + 1) * (n + m + 1) + (n + m + 1) ≤ (xs.length + 1) * (n + m + 1) := by
      rw [← Nat.succ_mul]
      exact Nat.mul_le_mul_right _ (by omega)
    have h4 : (j + 1) * (n + m + 1) = j * (n + m + 1) + (n + m + 1) := Nat.succ_mul _ _
    have hp := h1.2.mul h2.2
    repeat infer_instance
    · exact sp_of h1.1
    repeat infer_instance
    refine T_opq h2.1 (sp_mul h2.1 h1.2 h2.2 (by omega)) ?_
    refine T_opq .f (sp_add .f hs hp (by omega)) ?_
    repeat infer_instance
    refine ⟨.inl rfl, j + 1, _, _, _, by omega, (hs.add hp).mono (by omega), hf, rfl⟩
  · intro ρ hI
    obtain ⟨j, s, u, v, _, _, hf, rfl⟩ := hI
    rw [← hf, List.foldl_nil]
    repeat infer_instance
theorem sp_times_in (h : F2 (ShR n w) dss rows) (hc : F2 (ShN m) ds ys) (hw : ys.length = w) (hl : rows.length < 900000) (hn : (w + 1) * (n + m + 1) + 1 < 9000) : GD g_times_in [.tup dss, .tup ds] (.tup (rows.map fun row => fq (dotC row ys))) := by
  have hlen := h.len
  refine GD_of ?_
  unfold m_times_in
  repeat infer_instance
  refine ⟨by omega, ?_⟩
  refine TC_f0 (R := ShR n w) (fun row => fq (dotC row ys)) ?_ h ?_
  · intro d q hd
    obtain ⟨es, rfl, k1, k2⟩ := hd
    repeat infer_instance
    · exact sp_product_in rfl rfl k1 hc (by omega) (by rw [k2]; exact hn)
    repeat infer_instance
  · refine ⟨rfl, ?_⟩
    repeat infer_instance
theorem sp_times_of (h : F2 (ShR n w) dss rows) (h0 : rows ≠ []) (h1 : rows.length ≤ 80) (w0 : 1 ≤ w) (w1 : w ≤ 12) (hc : F2 (ShN m) ds ys) (hw : ys.length = w) (hn : (w + 1) * (n + m + 1) + 1 < 9000) : GD g_times_of [.tup dss, .tup ds] (.tup (rows.map fun row => fq (dotC row ys))) := by
  obtain ⟨r0, rs, rfl⟩ := List.exists_cons_of_ne_nil h0
  obtain ⟨d0, ds0, rfl⟩ : ∃ d0 ds0, dss = d0 :: ds0 := by cases h; exact ⟨_, _, rfl⟩
  obtain ⟨es, rfl, he, hw'⟩ : ShR n w d0 r0 := by cases h; assumption
  have hl0 := he.len
  refine GD_of ?_
  unfold m_times_of
  repeat infer_instance
  · exact sp_require_rows (sp_is_rows h h0 h1 w0 w1)
  repeat infer_instance
  refine L_ixT atI_0 ?_
  repeat infer_instance
  · exact sp_require_fractions hc (by omega) (by omega)
  repeat infer_instance
  · exact sp_times_in h hc hw (by omega) hn
  repeat infer_instance
def col (rows : List (List Rat)) (p : Nat) : List Rat := rows.map fun row => en row p
theorem rng_map (N : Nat) : rangeD 0 N = (List.range N).map fun i => D.int (i : Nat) := by
  have go : ∀ (N : Nat) (lo : Nat), rangeD (lo : Int) N = (List.range' lo N).map fun i => D.int (i : Nat) := by
    intro N
    induction N with
    | zero => intro lo; rfl
    | succ N ih =>
      intro lo
      show D.int (lo : Int) :: rangeD ((lo : Int) + 1) N = _
      have := ih (lo + 1)
      rw [List.range'_succ, List.map_cons, ← this]
      rfl
  rw [List.range_eq_range']
  exact go N 0
theorem f2_range (N : Nat) : F2 (fun d (i : Nat) => d = .int (i : Nat) ∧ i < N) (rangeD 0 N) (List.range N) := by
  rw [rng_map]
  exact F2.of_mapL fun i hi => ⟨rfl, List.mem_range.mp hi⟩
theorem sp_mix_in (h : F2 (ShR n w) dss rows) (h0 : rows ≠ []) (h1 : rows.length ≤ 80) (w1 : w ≤ 12) (hc : F2 (ShN m) ds ys) (hw : ys.length = rows.length) (hn : (rows.length + 1) * (m + n + 1) + 1 < 9000) : GD g_mix_in [.tup dss, .tup ds] (.tup ((List.range w).map fun p => fq (dotC ys (col rows p)))) := by
  have hlen := h.len
  have hd0 : ∃ es ds0, dss = .tup es :: ds0 ∧ es.length = w := by
    cases h with
    | nil => exact absurd rfl h0
    | cons hd t =>
      obtain ⟨es, rfl, he, hw'⟩ := hd
      exact ⟨es, _, rfl, by rw [he.len, hw']⟩
  obtain ⟨es, ds0, hd0, he⟩ := hd0
  have hat : atI dss 0 = some (.tup es) := by rw [hd0]; exact atI_0
  refine GD_of ?_
  unfold m_mix_in
  repeat infer_instance
  refine L_ixT hat ?_
  repeat infer_instance
  refine L_rng1 ?_ ⟨by omega, by omega⟩
  have et : ((es.length : Nat) : Int).toNat = w := by omega
  rw [et]
  refine ⟨rfl, by rw [range_len]; omega, ?_⟩
  refine TC_f0 (fun p => fq (dotC ys (col rows p))) ?_ (f2_range w) ?_
  · intro d p hp
    obtain ⟨rfl, hp⟩ := hp
    repeat infer_instance
    refine ⟨by omega, ?_⟩
    have cf : F2 (fun d (row : List Rat) => ∃ e, (∃ es, d = .tup es ∧ es[p]? = some e) ∧ ShN n e (en row p)) dss rows := h.imp fun d row hd => by
      obtain ⟨es, rfl, k1, k2⟩ := hd
      obtain ⟨e, he, hr⟩ := k1.get (en_get (show p < row.length by omega))
      exact ⟨e, ⟨es, rfl, he⟩, hr⟩
    obtain ⟨out, ho⟩ : ∃ out, F2 (fun d (y : D) => ∃ es, d = .tup es ∧ es[p]? = some y) dss out ∧ F2 (ShN n) out (col rows p) := by
      clear hat hlen hd0 hw hn h1 h0 h
      induction cf with
      | nil => exact ⟨[], .nil, .nil⟩
      | cons hd t ih =>
        obtain ⟨out, i1, i2⟩ := ih
        obtain ⟨e, he, hr⟩ := hd
        exact ⟨e :: out, .cons he i1, .cons hr i2⟩
    refine TC_two0 (R := fun d y => ∃ es, d = .tup es ∧ es[p]? = some y) ?_ ho.1 ?_
    · intro d y hy
      obtain ⟨es, rfl, hy⟩ := hy
      repeat infer_instance
      refine L_ixT (atI_n hy) ?_
      repeat infer_instance
    · refine ⟨rfl, ?_⟩
      repeat infer_instance
      · exact sp_product_in rfl rfl hc ho.2 (by unfold col; rw [List.length_map]; omega) (by rw [hw]; exact hn)
      repeat infer_instance
  · refine ⟨rfl, ?_⟩
    repeat infer_instance
theorem sp_mix_of (h : F2 (ShR n w) dss rows) (h0 : rows ≠ []) (h1 : rows.length ≤ 80) (w0 : 1 ≤ w) (w1 : w ≤ 12) (hc : F2 (ShN m) ds ys) (hw : ys.length = rows.length) (hn : (rows.length + 1) * (m + n + 1) + 1 < 9000) : GD g_mix_of [.tup dss, .tup ds] (.tup ((List.range w).map fun p => fq (dotC ys (col rows p)))) := by
  have hlen := h.len
  refine GD_of ?_
  unfold m_mix_of
  repeat infer_instance
  · exact sp_require_rows (sp_is_rows h h0 h1 w0 w1)
  repeat infer_instance
  · exact sp_require_fractions hc (by omega) (by omega)
  repeat infer_instance
  · exact sp_mix_in h h0 h1 w1 hc hw hn
  repeat infer_instance
/-! the law's own -/
theorem sp_product (hx : SzR n xs) (hy : SzR m ys) (hn : (xs.length + 1) * (n + m + 1) + 1 < 8990) : GD g__law_product [rP xs, rP ys] (pq (dotC xs ys)) := by
  refine GD_of ?_
  unfold m__law_product
  repeat infer_instance
  have hz : F2 (fun d (p : Rat × Rat) => ∃ a b, d = .tup [a, b] ∧ (a = pq p.1 ∧ Sq n p.1) ∧ (b = pq p.2 ∧ Sq m p.2)) (zipD (xs.map pq) (ys.map pq)) (xs.zip ys) :=
    F2.zipD (R := fun a q => a = pq q ∧ Sq n q) (R' := fun a q => a = pq q ∧ Sq m q) (F2.of_mapL fun q hq => ⟨rfl, hx q hq⟩) (F2.of_mapL fun q hq => ⟨rfl, hy q hq⟩)
  have lz : (xs.zip ys).length ≤ xs.length := by rw [List.length_zip]; omega
  refine T_loop2 (fun (ps : List (Rat × Rat)) ρ => ∃ j s u v, j + ps.length ≤ xs.length ∧ Sq (j * (n + m + 1) + 1) s ∧ ps.foldl (fun s p => s + p.1 * p.2) s = dotC xs ys ∧ ρ = [.dat (rP xs), .dat (rP ys), .dat (pq s), u, v]) ?_ ?_ hz ⟨0, 0, .dead, .dead, by omega, .mono .zero (by omega), rfl, rfl⟩
  · intro d p ps ρ hd hI
    obtain ⟨a, b, rfl, ⟨rfl, h1⟩, rfl, h2⟩ := hd
    obtain ⟨j, s, u, v, hj, hs, hf, rfl⟩ := hI
    rw [List.length_cons] at hj
    have h3 : (j + 1) * (n + m + 1) + (n + m + 1) ≤ (xs.length + 1) * (n + m + 1) := by
      rw [← Nat.succ_mul]
      exact Nat.mul_le_mul_right _ (by omega)
    have h4 : (j + 1) * (n + m + 1) = j * (n + m + 1) + (n + m + 1) := Nat.succ_mul _ _
    have hp := h1.mul h2
    repeat infer_instance
    · exact sp_lby h1 h2 (by omega)
    repeat infer_instance
    · exact sp_plus hs hp (by omega)
    repeat infer_instance
    refine ⟨.inl rfl, j + 1, _, _, _, by omega, (hs.add hp).mono (by omega), hf, rfl⟩
  · intro ρ hI
    obtain ⟨j, s, u, v, _, _, hf, rfl⟩ := hI
    rw [← hf, List.foldl_nil]
    repeat infer_instance
theorem sp_mix (h : ∀ row ∈ rows, SzR n row ∧ row.length = w) (h0 : rows ≠ []) (h1 : rows.length ≤ 80) (w1 : w ≤ 12) (hy : SzR m ys) (hn : (rows.length + 1) * (n + m + 1) + 1 < 8990) : GD g__law_mix [.lst (rows.map rP), rP ys] (.lst ((List.range w).map fun p => pq (dotC (col rows p) ys))) := by
  obtain ⟨r0, rs, rfl⟩ := List.exists_cons_of_ne_nil h0
  have hw0 := (h r0 List.mem_cons_self).2
  refine GD_of ?_
  unfold m__law_mix
  repeat infer_instance
  refine L_ixL (show atI ((r0 :: rs).map rP) 0 = some (rP r0) from atI_0) ?_
  repeat infer_instance
  refine L_rng1 ?_ ⟨by rw [List.length_map]; omega, by rw [List.length_map]; omega⟩
  have et : (((r0.map pq).length : Nat) : Int).toNat = w := by rw [List.length_map]; omega
  rw [et]
  refine ⟨rfl, by rw [range_len]; omega, ?_⟩
  refine TC_f0 (fun p => pq (dotC (col (r0 :: rs) p) ys)) ?_ (f2_range w) ?_
  · intro d p hp
    obtain ⟨rfl, hp⟩ := hp
    repeat infer_instance
    refine ⟨by rw [List.length_map]; omega, ?_⟩
    refine TC_f0 (R := fun d row => d = rP row ∧ p < row.length) (fun row => pq (en row p)) ?_ (F2.of_mapL fun row hr => ⟨rfl, by rw [(h row hr).2]; exact hp⟩) ?_
    · intro d row hd
      obtain ⟨rfl, hd⟩ := hd
      repeat infer_instance
      refine L_ixL (atI_n (d := pq (en row p)) (by rw [List.getElem?_map, en_get hd]; rfl)) ?_
      repeat infer_instance
    · refine ⟨rfl, ?_⟩
      have ec : (r0 :: rs).map (fun row => pq (en row p)) = (col (r0 :: rs) p).map pq := by unfold col; rw [List.map_map]; rfl
      rw [ec]
      repeat infer_instance
      · refine sp_product (n := n) (m := m) ?_ hy (by unfold col; rw [List.length_map]; exact hn)
        intro q hq
        obtain ⟨row, hr, rfl⟩ := List.mem_map.mp hq
        exact (h row hr).1 _ (en_mem (by rw [(h row hr).2]; exact hp))
      repeat infer_instance
  · refine ⟨rfl, ?_⟩
    repeat infer_instance
end
/-! rows of rational numbers, cleared -/
def stepC (p : Nat) (s : List (List Rat) × List (List Rat)) : List (List Rat) × List (List Rat) :=
  match s.1.findIdx? (fun row => en row p != 0) with
  | none => s
  | some i =>
    let l0 := s.1.getD i []
    let line := l0.map fun one => one / en l0 p
    ((s.1.eraseIdx i).map fun row => subRow row line p, (s.2.map fun row => subRow row line p) ++ [line])
def runC (w : Nat) (rows : List (List Rat)) : List (List Rat) × List (List Rat) := (List.range w).foldl (fun s p => stepC p s) (rows, [])
def clearC (w : Nat) (rows : List (List Rat)) : List (List Rat) := (runC w rows).2

theorem en_sub {r l : List Rat} {p c : Nat} (h : r.length = l.length) : en (subRow r l p) c = en r c - en r p * en l c := by
  unfold subRow en
  simp only [List.getD_eq_getElem?_getD, List.getElem?_zipWith]
  by_cases hc : c < r.length
  · have hc' : c < l.length := h ▸ hc
    simp [hc, hc']
  · have hc' : ¬ c < l.length := h ▸ hc
    have e1 : r[c]? = none := List.getElem?_eq_none (by omega)
    have e2 : l[c]? = none := List.getElem?_eq_none (by omega)
    simp [e1, e2]
    grind
theorem en_div {l : List Rat} {x : Rat} {c : Nat} : en (l.map fun one => one / x) c = en l c / x := by
  unfold en
  simp only [List.getD_eq_getElem?_getD, List.getElem?_map]
  cases l[c]? with
  | none => simp [Rat.div_def]
  | some y => simp
theorem len_sub {r l : List Rat} {p : Nat} (h : r.length = l.length) : (subRow r l p).length = r.length := by
  unfold subRow
  simp [h]
structure Inv (w p : Nat) (left found : List (List Rat)) (ps : List Nat) : Prop where
  ll : ∀ r ∈ left, r.length = w
  lf : ∀ r ∈ found, r.length = w
  lz : ∀ r ∈ left, ∀ c < p, en r c = 0
  pl : ps.length = found.length
  pp : ∀ j (h : j < ps.length), ps[j] < p
  so : ps.Pairwise (· < ·)
  fz : ∀ i (h : i < found.length) (h2 : i < ps.length), ∀ c < ps[i], en found[i] c = 0
  fd : ∀ i (h : i < found.length) j (h2 : j < ps.length), en found[i] ps[j] = if i = j then 1 else 0
theorem inv0 {w : Nat} {rows : List (List Rat)} (h : ∀ r ∈ rows, r.length = w) : Inv w 0 rows [] [] := ⟨h, by simp, by simp, rfl, by simp, .nil, by simp, by simp⟩
theorem inv_step {w p : Nat} {left found : List (List Rat)} {ps : List Nat} (h : Inv w p left found ps) : ∃ ps', Inv w (p + 1) (stepC p (left, found)).1 (stepC p (left, found)).2 ps' := by
  unfold stepC
  cases e : left.findIdx? (fun row => en row p != 0) with
  | none =>
    have hz := List.findIdx?_eq_none_iff.mp e
    refine ⟨ps, h.ll, h.lf, ?_, h.pl, fun j hj => Nat.lt_succ_of_lt (h.pp j hj), h.so, h.fz, h.fd⟩
    intro r hr c hc
    by_cases hcp : c = p
    · subst hcp
      have := hz r hr
      simpa using this
    · exact h.lz r hr c (by omega)
  | some i =>
    obtain ⟨hi, hne, _⟩ := List.findIdx?_eq_some_iff_getElem.mp e
    have g0 : left.getD i [] = left[i] := by simp [List.getD_eq_getElem?_getD, hi]
    have hne' : en left[i] p ≠ 0 := by simpa using hne
    simp only [g0]
    have hm : left[i] ∈ left := List.getElem_mem hi
    have hl0 : left[i].length = w := h.ll _ hm
    generalize hL : (left[i].map fun one => one / en left[i] p) = line
    have lineL : line.length = w := by rw [← hL, List.length_map, hl0]
    have lineZ : ∀ c < p, en line c = 0 := fun c hc => by
      rw [← hL, en_div, h.lz _ hm c hc, Rat.div_def, Rat.zero_mul]
    have line1 : en line p = 1 := by
      rw [← hL, en_div, Rat.div_def, Rat.mul_inv_cancel _ hne']
    have lsub : ∀ r, r.length = w → ∀ c, en (subRow r line p) c = en r c - en r p * en line c := fun r hr c => en_sub (hr.trans lineL.symm)
    have elen : (found.map fun row => subRow row line p).length = found.length := by simp
    refine ⟨ps ++ [p], ?_, ?_, ?_, ?_, ?_, ?_, ?_, ?_⟩
    · intro r hr
      obtain ⟨r0, h0, rfl⟩ := List.mem_map.mp hr
      have := h.ll _ (List.mem_of_mem_eraseIdx h0)
      rw [len_sub (this.trans lineL.symm), this]
    · intro r hr
      rcases List.mem_append.mp hr with hr | hr
      · obtain ⟨r0, h0, rfl⟩ := List.mem_map.mp hr
        have := h.lf _ h0
        rw [len_sub (this.trans lineL.symm), this]
      · rw [List.mem_singleton.mp hr, lineL]
    · intro r hr c hc
      obtain ⟨r0, h0, rfl⟩ := List.mem_map.mp hr
      have h0 := List.mem_of_mem_eraseIdx h0
      rw [lsub _ (h.ll _ h0)]
      by_cases hcp : c = p
      · subst hcp
        rw [line1]
        grind
      · have hc' : c < p := by omega
        rw [h.lz _ h0 c hc', lineZ c hc']
        grind
    · simp [h.pl]
    · intro j hj
      rw [List.getElem_append]
      split
      · exact Nat.lt_succ_of_lt (h.pp _ _)
      · simp
    · rw [List.pairwise_append]
      refine ⟨h.so, by simp, ?_⟩
      intro a ha b hb
      obtain ⟨j, hj, rfl⟩ := List.mem_iff_getElem.mp ha
      rw [List.mem_singleton.mp hb]
      exact h.pp j hj
    · intro i' h1 h2 c hc
      rw [List.getElem_append]
      split
      · rename_i hlt
        rw [elen] at hlt
        have hlt2 : i' < ps.length := by rw [h.pl]; exact hlt
        rw [List.getElem_append_left hlt2] at hc
        rw [List.getElem_map, lsub _ (h.lf _ (List.getElem_mem _)), h.fz i' hlt hlt2 c hc, lineZ c (Nat.lt_trans hc (h.pp _ _))]
        grind
      · rename_i hge
        rw [elen] at hge
        have hge2 : ps.length ≤ i' := by rw [h.pl]; omega
        rw [List.getElem_append_right hge2] at hc
        simp only [List.getElem_singleton] at hc ⊢
        exact lineZ c hc
    · intro i' h1 j h2
      have hlen : (ps ++ [p]).length = found.length + 1 := by simp [h.pl]
      have hlen2 : ((found.map fun row => subRow row line p) ++ [line]).length = found.length + 1 := by simp
      have pj : ∀ (hj : j < ps.length), (ps ++ [p])[j] = ps[j] := fun hj => List.getElem_append_left hj
      have pj2 : ∀ (hj : ¬ j < ps.length), (ps ++ [p])[j] = p := fun hj => by
        rw [List.getElem_append_right (by omega)]
        simp
      rw [List.getElem_append]
      split
      · rename_i hlt
        rw [elen] at hlt
        rw [List.getElem_map, lsub _ (h.lf _ (List.getElem_mem _))]
        by_cases hj : j < ps.length
        · rw [pj hj, h.fd i' hlt j hj, lineZ _ (h.pp _ _)]
          grind
        · rw [pj2 hj, line1, if_neg (by rw [h.pl] at hj; omega)]
          grind
      · rename_i hge
        rw [elen] at hge
        simp only [List.getElem_singleton]
        by_cases hj : j < ps.length
        · rw [pj hj, lineZ _ (h.pp _ _), if_neg (by rw [h.pl] at hj; omega)]
        · rw [pj2 hj, line1, if_pos (by rw [h.pl] at hj; omega)]
theorem inv_run {w : Nat} {rows : List (List Rat)} (h : ∀ r ∈ rows, r.length = w) : ∀ p, ∃ ps, Inv w p ((List.range p).foldl (fun s p => stepC p s) (rows, [])).1 ((List.range p).foldl (fun s p => stepC p s) (rows, [])).2 ps
  | 0 => ⟨[], inv0 h⟩
  | p + 1 => by
    obtain ⟨ps, hi⟩ := inv_run h p
    rw [List.range_succ, List.foldl_append]
    exact inv_step hi
/-- the second run -/
theorem sub0 {r l : List Rat} {p : Nat} (hl : r.length = l.length) (h : en r p = 0) : subRow r l p = r := by
  unfold subRow
  rw [h]
  apply List.ext_getElem (by simp [hl])
  intro i h1 h2
  simp only [List.getElem_zipWith]
  grind
theorem map_sub0 {rs : List (List Rat)} {l : List Rat} {p w : Nat} (hl : l.length = w) (h : ∀ r ∈ rs, r.length = w ∧ en r p = 0) : (rs.map fun row => subRow row l p) = rs := by
  conv => rhs; rw [← List.map_id rs]
  apply List.map_congr_left
  intro r hr
  exact sub0 ((h r hr).1.trans hl.symm) (h r hr).2
theorem step2 {w p q : Nat} {left F : List (List Rat)} {ps : List Nat} (h : Inv w q left F ps) (j : Nat) (hj : j ≤ F.length) (below : ∀ i (hi : i < ps.length), i < j ↔ ps[i] < p) :
    ∃ j', j' ≤ F.length ∧ (∀ i (hi : i < ps.length), i < j' ↔ ps[i] < p + 1) ∧ stepC p (F.drop j, F.take j) = (F.drop j', F.take j') ∧ ∀ i, (F.drop j).findIdx? (fun row => en row p != 0) = some i → i = 0 ∧ ∃ hk : j < F.length, en F[j] p = 1 ∧ (∀ r ∈ F.drop (j + 1), en r p = 0) ∧ ∀ r ∈ F.take j, en r p = 0 := by
  by_cases hp : ∃ (hk : j < ps.length), ps[j] = p
  · obtain ⟨hk, hp⟩ := hp
    have hkF : j < F.length := by rw [← h.pl]; exact hk
    have hF : F[j] ∈ F := List.getElem_mem _
    have at1 : en F[j] p = 1 := by
      have := h.fd j hkF j hk
      rw [hp] at this
      simpa using this
    have at0 : ∀ i (hi : i < F.length), i ≠ j → en F[i] p = 0 := fun i hi hne => by
      have := h.fd i hi j hk
      rw [hp, if_neg hne] at this
      exact this
    have ed : F.drop j = F[j] :: F.drop (j + 1) := List.drop_eq_getElem_cons hkF
    have ef : (F.drop j).findIdx? (fun row => en row p != 0) = some 0 := by
      rw [ed, List.findIdx?_cons]
      simp [at1]
    have z1 : ∀ r ∈ F.drop (j + 1), en r p = 0 := fun r hr => by
      obtain ⟨i, hi, rfl⟩ := List.mem_iff_getElem.mp hr
      rw [List.getElem_drop]
      exact at0 _ _ (by omega)
    have z2 : ∀ r ∈ F.take j, en r p = 0 := fun r hr => by
      obtain ⟨i, hi, rfl⟩ := List.mem_iff_getElem.mp hr
      have hi' : i < j := by rw [List.length_take] at hi; omega
      rw [List.getElem_take]
      exact at0 _ _ (by omega)
    refine ⟨j + 1, by omega, ?_, ?_, fun i hi => by rw [ef] at hi; cases hi; exact ⟨rfl, hkF, at1, z1, z2⟩⟩
    · intro i hi
      constructor
      · intro hlt
        by_cases hij : i = j
        · subst hij; rw [hp]; omega
        · have := (below i hi).mp (by omega)
          omega
      · intro hlt
        by_cases hgt : j < i
        · have := List.pairwise_iff_getElem.mp h.so j i hk hi hgt
          omega
        · omega
    · unfold stepC
      simp only [ef]
      have eL : ((F.drop j).getD 0 []) = F[j] := by rw [ed]; rfl
      simp only [eL, at1]
      have em : (F[j].map fun one => one / (1 : Rat)) = F[j] := by
        conv => rhs; rw [← List.map_id F[j]]
        apply List.map_congr_left
        intro x _
        show x / 1 = x
        grind
      rw [em, ed, List.eraseIdx_cons_zero]
      have e1 : ((F.drop (j + 1)).map fun row => subRow row F[j] p) = F.drop (j + 1) := by
        refine map_sub0 (h.lf _ hF) fun r hr => ?_
        obtain ⟨i, hi, rfl⟩ := List.mem_iff_getElem.mp hr
        rw [List.getElem_drop]
        exact ⟨h.lf _ (List.getElem_mem _), at0 _ _ (by omega)⟩
      have e2 : ((F.take j).map fun row => subRow row F[j] p) = F.take j := by
        refine map_sub0 (h.lf _ hF) fun r hr => ?_
        obtain ⟨i, hi, rfl⟩ := List.mem_iff_getElem.mp hr
        have hi' : i < j := by rw [List.length_take] at hi; omega
        rw [List.getElem_take]
        exact ⟨h.lf _ (List.getElem_mem _), at0 _ _ (by omega)⟩
      rw [e1, e2]
      congr 1
      rw [List.take_append_getElem]
  · have en0 : (F.drop j).findIdx? (fun row => en row p != 0) = none := by
      rw [List.findIdx?_eq_none_iff]
      intro r hr
      obtain ⟨i, hi, rfl⟩ := List.mem_iff_getElem.mp hr
      rw [List.length_drop] at hi
      have hF : j + i < F.length := by omega
      have hps : j + i < ps.length := by rw [h.pl]; exact hF
      rw [List.getElem_drop]
      have h2 := mt (below (j + i) hps).mpr (by omega)
      have h3 : ps[j + i] ≠ p := by
        intro he
        by_cases hi0 : i = 0
        · subst hi0; exact hp ⟨hps, he⟩
        · have h1 := List.pairwise_iff_getElem.mp h.so j (j + i) (by omega) hps (by omega)
          have h4 := mt (below j (by omega)).mpr (by omega)
          omega
      have := h.fz (j + i) hF hps p (by omega)
      simp [this]
    refine ⟨j, hj, ?_, ?_, fun i hi => by rw [en0] at hi; cases hi⟩
    · intro i hi
      rw [below i hi]
      constructor
      · omega
      · intro hlt
        by_cases hne : ps[i] = p
        · exfalso
          by_cases hij : i < j
          · have := (below i hi).mp hij
            omega
          · by_cases hij2 : i = j
            · subst hij2; exact hp ⟨hi, hne⟩
            · have hjl : j < ps.length := by omega
              have h1 := List.pairwise_iff_getElem.mp h.so j i hjl hi (by omega)
              have h2 := mt (below j hjl).mpr (by omega)
              omega
        · omega
    · unfold stepC
      simp only [en0]
theorem run2 {w q : Nat} {left F : List (List Rat)} {ps : List Nat} (h : Inv w q left F ps) : ∀ p, ∃ j, j ≤ F.length ∧ (∀ i (hi : i < ps.length), i < j ↔ ps[i] < p) ∧ (List.range p).foldl (fun s p => stepC p s) (F, []) = (F.drop j, F.take j)
  | 0 => ⟨0, by omega, by simp, by simp⟩
  | p + 1 => by
    obtain ⟨j, hj, hb, e⟩ := run2 h p
    obtain ⟨j', hj', hb', e', _⟩ := step2 h j hj hb
    refine ⟨j', hj', hb', ?_⟩
    rw [List.range_succ, List.foldl_append, e]
    exact e'
/-- what the second run meets -/
theorem run2_ok {w q : Nat} {left F : List (List Rat)} {ps : List Nat} (h : Inv w q left F ps) (p : Nat) : ∃ j, (List.range p).foldl (fun s p => stepC p s) (F, []) = (F.drop j, F.take j) ∧ ∀ i, (F.drop j).findIdx? (fun row => en row p != 0) = some i → i = 0 ∧ ∃ hk : j < F.length, en F[j] p = 1 ∧ (∀ r ∈ F.drop (j + 1), en r p = 0) ∧ ∀ r ∈ F.take j, en r p = 0 := by
  obtain ⟨j, hj, hb, e⟩ := run2 h p
  obtain ⟨_, _, _, _, k⟩ := step2 h j hj hb
  exact ⟨j, e, k⟩
theorem clear_clear {w : Nat} {rows : List (List Rat)} (h : ∀ r ∈ rows, r.length = w) : clearC w (clearC w rows) = clearC w rows := by
  obtain ⟨ps, hi⟩ := inv_run h w
  obtain ⟨j, hj, hb, e⟩ := run2 hi w
  unfold clearC runC at *
  rw [e]
  have : j = ps.length := by
    by_cases hlt : j < ps.length
    · have := (hb j hlt).mpr (hi.pp j hlt)
      omega
    · rw [hi.pl] at hlt ⊢; omega
  show List.take j _ = _
  rw [List.take_of_length_le (by rw [this, hi.pl]; omega)]
/-! what a step of clearing asks of the sizes -/
structure StepOk (w p : Nat) (L F : List (List Rat)) : Prop where
  ll : ∀ r ∈ L, r.length = w
  lf : ∀ r ∈ F, r.length = w
  cl : L.length ≤ 1000
  cf : F.length ≤ 1000
  sz : ∀ i l0, L.findIdx? (fun row => en row p != 0) = some i → L[i]? = some l0 → ∃ n a m k k', SzR n l0 ∧ Sq a (en l0 p) ∧ n + a < 9000 ∧ SzR m (l0.map fun one => one / en l0 p) ∧ k + m < 9000 ∧ n + k' < 8990 ∧
    ∀ r, r ∈ L.eraseIdx i ∨ r ∈ F → SzR n r ∧ Sq k (en r p) ∧ ∀ b ∈ l0.map (fun one => one / en l0 p), Sq k' (en r p * b)
theorem zip_f2m {α β : Type} {f : α → D} {g : β → D} {R : D → D → Prop} {h : α → β → D} : ∀ (as : List α) (bs : List β), (∀ a ∈ as, ∀ b ∈ bs, R (.tup [f a, g b]) (h a b)) → F2 R (zipD (as.map f) (bs.map g)) (List.zipWith h as bs)
  | [], _, _ => by simp only [List.map_nil, List.zipWith_nil_left]; unfold zipD; exact .nil
  | _ :: _, [], _ => by simp only [List.map_nil, List.zipWith_nil_right, List.map_cons]; unfold zipD; exact .nil
  | a :: as, b :: bs, k => by
    simp only [List.map_cons, List.zipWith_cons_cons]
    unfold zipD
    exact .cons (k a List.mem_cons_self b List.mem_cons_self) (zip_f2m as bs fun a' ha b' hb => k a' (List.mem_cons_of_mem _ ha) b' (List.mem_cons_of_mem _ hb))
theorem map_erase {α β : Type} (f : α → β) : ∀ (xs : List α) (i : Nat), (xs.map f).eraseIdx i = (xs.eraseIdx i).map f
  | [], _ => rfl
  | _ :: _, 0 => rfl
  | x :: xs, i + 1 => congrArg (f x :: ·) (map_erase f xs i)
/-- the places of the rows with an entry other than 0 -/
def nzs (p : Nat) : Nat → List (List Rat) → List Nat
  | _, [] => []
  | i, r :: rs => if en r p != 0 then i :: nzs p (i + 1) rs else nzs p (i + 1) rs
theorem nzs_head (p : Nat) : ∀ (i : Nat) (rs : List (List Rat)), (nzs p i rs).head? = (rs.findIdx? fun row => en row p != 0).map (· + i)
  | _, [] => rfl
  | i, r :: rs => by
    unfold nzs
    rw [List.findIdx?_cons]
    split
    · simp
    · rw [nzs_head p (i + 1) rs]
      cases rs.findIdx? (fun row => en row p != 0) with
      | none => rfl
      | some j =>
        show some (j + (i + 1)) = some (j + 1 + i)
        congr 1
        omega
theorem nzs_len (p : Nat) : ∀ (i : Nat) (rs : List (List Rat)), (nzs p i rs).length ≤ rs.length
  | _, [] => Nat.le_refl _
  | i, r :: rs => by
    unfold nzs
    have := nzs_len p (i + 1) rs
    split
    · simp only [List.length_cons]; omega
    · simp only [List.length_cons]; omega
abbrev inD (is : List Nat) : List D := is.map fun i => D.int (i : Nat)
theorem enum_len : ∀ (i : Int) (ds : List D), (enumD i ds).length = ds.length
  | _, [] => rfl
  | i, d :: ds => congrArg Nat.succ (enum_len (i + 1) ds)
theorem inD_shp (is : List Nat) : Shp 60 (.lst (inD is)) := Shp.lst (k := 59) fun d hd => by
  obtain ⟨i, _, rfl⟩ := List.mem_map.mp hd
  exact .int
section
variable {n m w k k' a : Nat} {ds dss : List D} {r xs ys row line l0 : List Rat} {rows L F : List (List Rat)} {d dx dy : D}
theorem sub_zip (row line : List Rat) (p : Nat) : (subRow row line p).map fq = List.zipWith (fun one other => fq (one - en row p * other)) row line := by
  unfold subRow
  rw [List.map_zipWith]
theorem sub_zipP (row line : List Rat) (p : Nat) : (subRow row line p).map pq = List.zipWith (fun one other => pq (one - en row p * other)) row line := by
  unfold subRow
  rw [List.map_zipWith]
theorem sp_without_line {p : Nat} (hp : p < row.length) (hl : row.length = line.length) (hb : row.length ≤ 1000) (sr : SzR n row) (sl : SzR m line) (se : Sq k (en row p)) (sp : ∀ b ∈ line, Sq k' (en row p * b)) (h1 : k + m < 9000) (h2 : n + k' < 9000) :
    GD g_without_line [rF row, rF line, .int p] (rF (subRow row line p)) := by
  have f2 := zip_f2m (f := fq) (g := fq) (R := fun d y => ∃ a b, d = .tup [fq a, fq b] ∧ y = fq (a - en row p * b) ∧ Sq n a ∧ b ∈ line) (h := fun a b => fq (a - en row p * b)) row line fun a ha b hb => ⟨a, b, rfl, rfl, sr a ha, hb⟩
  have hlen := f2.len
  refine GD_of ?_
  unfold m_without_line
  repeat infer_instance
  refine L_zipS rfl rfl (by rw [List.length_map, List.length_map]; exact hl) ?_
  refine ⟨rfl, by rw [hlen, List.length_zipWith]; omega, ?_⟩
  refine TC_two0 ?_ f2 ?_
  · intro d y hd
    obtain ⟨x, b, rfl, rfl, hx, hb⟩ := hd
    repeat infer_instance
    refine L_ixL (atI_n (d := fq (en row p)) (by rw [List.getElem?_map, en_get hp]; rfl)) ?_
    repeat infer_instance
    · exact sp_mul .f se (sl b hb) h1
    repeat infer_instance
    · exact sp_sub .f hx (sp b hb) h2
    repeat infer_instance
  · refine ⟨rfl, ?_⟩
    have e : List.zipWith (fun a b => fq (a - en row p * b)) row line = (subRow row line p).map fq := (sub_zip row line p).symm
    rw [e]
    repeat infer_instance
theorem sp_without {p : Nat} (hp : p < row.length) (hl : row.length = line.length) (hb : row.length ≤ 1000) (sr : SzR n row) (sl : SzR m line) (se : Sq k (en row p)) (sp : ∀ b ∈ line, Sq k' (en row p * b)) (h1 : k + m < 9000) (h2 : n + k' < 8990) :
    GD g__law_without [rP row, rP line, .int p] (rP (subRow row line p)) := by
  have f2 := zip_f2m (f := pq) (g := pq) (R := fun d y => ∃ a b, d = .tup [pq a, pq b] ∧ y = pq (a - en row p * b) ∧ Sq n a ∧ b ∈ line) (h := fun a b => pq (a - en row p * b)) row line fun a ha b hb => ⟨a, b, rfl, rfl, sr a ha, hb⟩
  have hlen := f2.len
  have hat : atI (row.map pq) (p : Int) = some (pq (en row p)) := atI_n (by rw [List.getElem?_map, en_get hp]; rfl)
  have et : D.tup [.int (0 - (en row p).num), .int ((en row p).den : Int)] = pq (-(en row p)) := by
    unfold pq
    rw [Rat.neg_num, Rat.neg_den, Int.zero_sub]
  refine GD_of ?_
  unfold m__law_without
  repeat infer_instance
  refine L_ixL hat ?_
  repeat infer_instance
  refine L_ixL hat ?_
  repeat infer_instance
  rw [et]
  repeat infer_instance
  refine ⟨by rw [hlen, List.length_zipWith]; omega, ?_⟩
  refine TC_two0 ?_ f2 ?_
  · intro d y hd
    obtain ⟨x, b, rfl, rfl, hx, hb⟩ := hd
    have e1 : -(en row p) * b = -(en row p * b) := Rat.neg_mul _ _
    repeat infer_instance
    · exact sp_lby se.neg (sl b hb) h1
    repeat infer_instance
    · refine sp_plus hx (m := k') ?_ (by omega)
      rw [e1]
      exact (sp b hb).neg
    repeat infer_instance
    refine ⟨?_, rfl⟩
    rw [e1, Rat.sub_eq_add_neg]
  · refine ⟨rfl, ?_⟩
    have e : List.zipWith (fun a b => pq (a - en row p * b)) row line = (subRow row line p).map pq := (sub_zipP row line p).symm
    rw [e]
    repeat infer_instance
/-! the loop of the package -/
def stF (dss : List D) (L F : List (List Rat)) (x3 x4 x5 : S) : List S := [.dat (.tup dss), .own (.lst (L.map rF)), .own (.lst (F.map rF)), x3, x4, x5, .dead, .dead, .dead]
theorem sp_eq0 {q : Rat} : GD g_Fraction_eq [fq q, .int 0] (.bl (decide (q = 0))) := sp_eq_i
theorem tc_nzsF {a0 a2 a4 a5 : S} {p : Nat} {P : List D → List S → Prop} : ∀ (rs : List (List Rat)) (i : Nat) (acc : List D), (∀ r ∈ rs, p < r.length) → P (acc ++ inD (nzs p i rs)) [a0, .dead, a2, .dat (.int p), a4, a5, .dead, .dead, .dead] →
    TC [7, 6] (pTup [7, 6]) (mTest (mEqI 0 true dNe g_Fraction_eq (mOp dIx (mVar 6) (mVar 3)) (mC (.int 0)))) (mVar 7) (enumD (i : Nat) (rs.map rF)) acc [a0, .dead, a2, .dat (.int p), a4, a5, .dead, .dead, .dead] P
  | [], i, acc, _, q => TC0 (by simpa [nzs, inD] using q)
  | r :: rs, i, acc, h, q => by
    have hr := h r List.mem_cons_self
    have go := fun acc' => tc_nzsF (a0 := a0) (a2 := a2) (a4 := a4) (a5 := a5) (p := p) (P := P) rs (i + 1) acc' fun r' hr' => h r' (List.mem_cons_of_mem _ hr')
    have ei : ((i : Nat) : Int) + 1 = ((i + 1 : Nat) : Int) := rfl
    show TC _ _ _ _ (D.tup [.int (i : Nat), rF r] :: enumD ((i : Int) + 1) (rs.map rF)) acc _ P
    refine TCt ?_
    repeat infer_instance
    refine L_ixL (atI_n (d := fq (en r p)) (by rw [List.getElem?_map, en_get hr]; rfl)) ?_
    repeat infer_instance
    refine T_eqL sp_eq0 rfl ?_
    repeat infer_instance
    unfold nzs at q
    by_cases hz : en r p = 0
    · have : (en r p != 0) = false := by simp [hz]
      rw [this] at q
      refine c_f (by simp [hz]) ?_
      rw [ei]
      exact go acc (by simpa using q)
    · have : (en r p != 0) = true := by simp [hz]
      rw [this] at q
      refine c_t (by simp [hz]) ?_
      repeat infer_instance
      rw [ei]
      exact go (acc ++ [D.int (i : Nat)]) (by simpa [inD] using q)
end
section
variable {n m w k k' a : Nat} {ds dss : List D} {r xs ys row line l0 : List Rat} {rows L F : List (List Rat)} {d dx dy : D}
theorem turnF {p : Nat} {x3 x4 x5 : S} (hp : p < w) (hw : w ≤ 1000) (ok : StepOk w p L F) :
    Lf (pName 3 (.int p) (stF dss L F x3 x4 x5)) fun ρ1 => T (mSeq (mSet (mFrz (mCompS 1 (enumD 0) [7, 6] (pTup [7, 6]) (mTest (mEqI 0 true dNe g_Fraction_eq (mOp dIx (mVar 6) (mVar 3)) (mC (.int 0)))) (mVar 7))) (pName 4))
  (mIfS (mTest (mOp dNe (mVar 4) (mFrz (mLst []))))
  (mSeq (mSet (mPopAt 1 (mOp dIx (mVar 4) (mC (.int 0)))) (pName 5))
  (mSeq (mSet (mFrz (mComp [8] (mItems lstD (mVar 5)) (pName 8) mYes (mMth 0 "by" 2 g_Fraction_by [] (.d (mVar 8)) (mAgs [.d (mOp dIx (mVar 5) (mVar 3))])))) (pName 5))
  (mSeq (mSetO 1 (mComp [6] (mItems lstD (mDat 1)) (pName 6) mYes (mCall 3 g_without_line [] (mAgs [.d (mVar 6), .d (mVar 5), .d (mVar 3)]))))
  (mSeq (mSetO 2 (mComp [6] (mItems lstD (mDat 2)) (pName 6) mYes (mCall 3 g_without_line [] (mAgs [.d (mVar 6), .d (mVar 5), .d (mVar 3)]))))
  (mApp 2 (mVar 5))))))
  mSkip)) ρ1 fun f ρ2 => (f = .nx ∨ f = .ct) ∧ ∃ x3 x4 x5, ρ2 = stF dss (stepC p (L, F)).1 (stepC p (L, F)).2 x3 x4 x5 := by
  have start : Lf (pName 3 (.int p) (stF dss L F x3 x4 x5)) fun ρ1 => ρ1 = stF dss L F (.dat (.int p)) x4 x5 := ⟨_, rfl, rfl⟩
  obtain ⟨ρ1, e1, rfl⟩ := start
  refine ⟨_, e1, ?_⟩
  clear e1
  refine T_cut (fun ρ => ρ = stF dss L F (.dat (.int p)) (.dat (.lst (inD (nzs p 0 L)))) x5) ?_ fun ρ h => ?_
  · unfold stF
    repeat infer_instance
    refine T_compS (ds := L.map rF) rfl rfl (by rw [enum_len, List.length_map]; have := ok.cl; omega) ?_
    refine tc_nzsF L 0 [] (fun r hr => by rw [ok.ll r hr]; exact hp) ?_
    exact ⟨rfl, rfl⟩
  subst h
  unfold stF
  repeat infer_instance
  refine L_ne0L (inD_shp _) ?_
  repeat infer_instance
  cases e : L.findIdx? (fun row => en row p != 0) with
  | none =>
    have en : nzs p 0 L = [] := by
      have := nzs_head p 0 L
      rw [e] at this
      exact List.head?_eq_none_iff.mp this
    refine c_f (by rw [en]; rfl) ?_
    repeat infer_instance
    have es : stepC p (L, F) = (L, F) := by unfold stepC; simp only [e]
    rw [es]
    exact ⟨.inl rfl, _, _, _, rfl⟩
  | some i =>
    obtain ⟨tl, en'⟩ : ∃ tl, nzs p 0 L = i :: tl := by
      have := nzs_head p 0 L
      rw [e] at this
      exact List.head?_eq_some_iff.mp this
    obtain ⟨hi, hne, _⟩ := List.findIdx?_eq_some_iff_getElem.mp e
    have gi : L[i]? = some L[i] := List.getElem?_eq_getElem hi
    have hm : L[i] ∈ L := List.getElem_mem hi
    have hne : en L[i] p ≠ 0 := by simpa using hne
    have hl0 : L[i].length = w := ok.ll _ hm
    obtain ⟨n, a, m, k, k', s1, s2, s3, s4, s5, s6, s7⟩ := ok.sz i L[i] e gi
    have es : stepC p (L, F) = ((L.eraseIdx i).map fun row => subRow row (L[i].map fun one => one / en L[i] p) p, (F.map fun row => subRow row (L[i].map fun one => one / en L[i] p) p) ++ [L[i].map fun one => one / en L[i] p]) := by
      have gd : L.getD i [] = L[i] := by rw [List.getD_eq_getElem?_getD, gi]; rfl
      unfold stepC
      simp only [e, gd]
    rw [es]
    clear es
    generalize L[i] = l0 at gi hm hne hl0 s1 s2 s4 s7 ⊢
    have cl := ok.cl
    have cf := ok.cf
    have ll := ok.ll
    have lf := ok.lf
    clear ok e
    rw [en']
    refine c_t rfl ?_
    refine T_cut (fun ρ => ρ = stF dss (L.eraseIdx i) F (.dat (.int p)) (.dat (.lst (inD (i :: tl)))) (.dat (rF l0))) ?_ fun ρ h => ?_
    · repeat infer_instance
      refine T_popAt rfl ?_
      repeat infer_instance
      refine L_ixL (show atI (inD (i :: tl)) 0 = some (D.int (i : Nat)) from atI_0) ?_
      refine ⟨rfl, i, rF l0, rfl, by omega, by rw [List.getElem?_map, gi]; rfl, ?_⟩
      rw [map_erase]
      repeat infer_instance
      try rfl
    subst h
    have hat : atI (l0.map fq) (p : Int) = some (fq (en l0 p)) := atI_n (by rw [List.getElem?_map, en_get (by omega)]; rfl)
    refine T_cut (fun ρ => ρ = stF dss (L.eraseIdx i) F (.dat (.int p)) (.dat (.lst (inD (i :: tl)))) (.dat (rF (l0.map fun one => one / en l0 p)))) ?_ fun ρ h => ?_
    · unfold stF
      repeat infer_instance
      refine ⟨by rw [List.length_map]; omega, ?_⟩
      refine TC_f0 (R := fun d q => d = fq q ∧ Sq n q) (fun one => fq (one / en l0 p)) ?_ (F2.of_mapL fun q hq => ⟨rfl, s1 q hq⟩) ?_
      · intro d q hd
        obtain ⟨rfl, hq⟩ := hd
        repeat infer_instance
        refine L_ixL hat ?_
        repeat infer_instance
        · exact sp_by .f hq s2 hne s3
        repeat infer_instance
      · refine ⟨rfl, ?_⟩
        have el : l0.map (fun one => fq (one / en l0 p)) = (l0.map fun one => one / en l0 p).map fq := by rw [List.map_map]; rfl
        rw [el]
        repeat infer_instance
        try rfl
    subst h
    have lline : (l0.map fun one => one / en l0 p).length = w := by rw [List.length_map, hl0]
    generalize (l0.map fun one => one / en l0 p) = line at s4 s7 lline ⊢
    refine T_cut (fun ρ => ρ = stF dss ((L.eraseIdx i).map fun row => subRow row line p) F (.dat (.int p)) (.dat (.lst (inD (i :: tl)))) (.dat (rF line))) ?_ fun ρ h => ?_
    · unfold stF
      repeat infer_instance
      refine ⟨by rw [List.length_map]; have := List.length_eraseIdx_le L i; omega, ?_⟩
      refine TC_f0 (R := fun d row => d = rF row ∧ row ∈ L.eraseIdx i) (fun row => rF (subRow row line p)) ?_ (F2.of_mapL fun r hr => ⟨rfl, hr⟩) ?_
      · intro d r hd
        obtain ⟨rfl, hr⟩ := hd
        have lr := ll r (List.mem_of_mem_eraseIdx hr)
        obtain ⟨t1, t2, t3⟩ := s7 r (.inl hr)
        repeat infer_instance
        · exact sp_without_line (by omega) (by omega) (by omega) t1 s4 t2 t3 s5 (by omega)
        repeat infer_instance
      · refine ⟨rfl, ?_⟩
        have el : (L.eraseIdx i).map (fun row => rF (subRow row line p)) = ((L.eraseIdx i).map fun row => subRow row line p).map rF := by rw [List.map_map]; rfl
        rw [el]
        repeat infer_instance
        try rfl
    subst h
    refine T_cut (fun ρ => ρ = stF dss ((L.eraseIdx i).map fun row => subRow row line p) (F.map fun row => subRow row line p) (.dat (.int p)) (.dat (.lst (inD (i :: tl)))) (.dat (rF line))) ?_ fun ρ h => ?_
    · unfold stF
      repeat infer_instance
      refine ⟨by rw [List.length_map]; omega, ?_⟩
      refine TC_f0 (R := fun d row => d = rF row ∧ row ∈ F) (fun row => rF (subRow row line p)) ?_ (F2.of_mapL fun r hr => ⟨rfl, hr⟩) ?_
      · intro d r hd
        obtain ⟨rfl, hr⟩ := hd
        have lr := lf r hr
        obtain ⟨t1, t2, t3⟩ := s7 r (.inr hr)
        repeat infer_instance
        · exact sp_without_line (by omega) (by omega) (by omega) t1 s4 t2 t3 s5 (by omega)
        repeat infer_instance
      · refine ⟨rfl, ?_⟩
        have el : F.map (fun row => rF (subRow row line p)) = (F.map fun row => subRow row line p).map rF := by rw [List.map_map]; rfl
        rw [el]
        repeat infer_instance
        try rfl
    subst h
    unfold stF
    repeat infer_instance
    refine ⟨by simp only [List.length_map]; omega, .inl rfl, .dat (.int p), .dat (.lst (inD (i :: tl))), .dat (rF line), ?_⟩
    rw [List.map_append]
    rfl
end
section
variable {n m w k k' a : Nat} {ds dss : List D} {r xs ys row line l0 : List Rat} {rows L F : List (List Rat)} {d dx dy : D}
theorem step_len {p : Nat} : (stepC p (L, F)).2.length ≤ F.length + 1 := by
  unfold stepC
  cases e : L.findIdx? (fun row => en row p != 0) with
  | none => simp only [e]; omega
  | some i => simp only [e, List.length_append, List.length_map, List.length_singleton]; omega
abbrev tF (r : List Rat) : D := .tup (r.map fq)
abbrev runP (p : Nat) (rows : List (List Rat)) : List (List Rat) × List (List Rat) := (List.range p).foldl (fun s p => stepC p s) (rows, [])
theorem run_succ (p : Nat) (rows : List (List Rat)) : runP (p + 1) rows = stepC p ((runP p rows).1, (runP p rows).2) := by
  unfold runP
  rw [List.range_succ, List.foldl_append]
  rfl
theorem sp_cleared_in (h : F2 (ShR n w) dss rows) (h0 : rows ≠ []) (hl : rows.length ≤ 1000) (hw : w ≤ 1000) (ok : ∀ p, p < w → StepOk w p (runP p rows).1 (runP p rows).2) (fin : (clearC w rows).length ≤ 1001) :
    GD g_cleared_in [.tup dss] (.tup ((clearC w rows).map tF)) := by
  have hlen := h.len
  have hd0 : ∃ es ds0, dss = .tup es :: ds0 ∧ es.length = w := by
    cases h with
    | nil => exact absurd rfl h0
    | cons hd t =>
      obtain ⟨es, rfl, he, hw'⟩ := hd
      exact ⟨es, _, rfl, by rw [he.len, hw']⟩
  obtain ⟨es, ds0, hd0, he⟩ := hd0
  have hat : atI dss 0 = some (.tup es) := by rw [hd0]; exact atI_0
  refine GD_of ?_
  unfold m_cleared_in
  repeat infer_instance
  refine ⟨by omega, ?_⟩
  refine TC_f0 (R := ShR n w) rF ?_ h ?_
  · intro d r hd
    obtain ⟨es, rfl, k1, k2⟩ := hd
    repeat infer_instance
    · exact sp_as_fractions k1 (by omega)
    repeat infer_instance
  · refine ⟨rfl, ?_⟩
    repeat infer_instance
    refine L_ixT hat ?_
    repeat infer_instance
    refine L_rng1 ?_ ⟨by omega, by omega⟩
    have et : ((es.length : Nat) : Int).toNat = w := by omega
    rw [et]
    refine T_rng (fun j ρ => ∃ x3 x4 x5, ρ = stF dss (runP j rows).1 (runP j rows).2 x3 x4 x5) w 0 ?_ ?_ ⟨.dead, .dead, .dead, rfl⟩
    · intro j ρ hj hI
      obtain ⟨x3, x4, x5, rfl⟩ := hI
      rw [run_succ, Int.zero_add]
      exact turnF hj hw (ok j hj)
    · intro ρ hI
      obtain ⟨x3, x4, x5, rfl⟩ := hI
      show T (mRet _) _ _
      have fin' : (runP w rows).2.length ≤ 1001 := fin
      unfold stF
      repeat infer_instance
      refine ⟨by rw [List.length_map]; omega, ?_⟩
      refine TC_f0 (R := fun d row => d = rF row) tF ?_ (F2.of_mapL fun r hr => rfl) ?_
      · intro d r hd
        subst hd
        repeat infer_instance
      · refine ⟨rfl, ?_⟩
        repeat infer_instance
        exact f_e rfl (le_lit rfl)
theorem sp_cleared (h : F2 (ShR n w) dss rows) (h0 : rows ≠ []) (hl : rows.length ≤ 80) (w0 : 1 ≤ w) (hw : w ≤ 12) (ok : ∀ p, p < w → StepOk w p (runP p rows).1 (runP p rows).2) (fin : (clearC w rows).length ≤ 1001) :
    GD g_cleared [.tup dss] (.tup ((clearC w rows).map tF)) := by
  refine GD_of ?_
  unfold m_cleared
  repeat infer_instance
  · exact sp_require_rows (sp_is_rows h h0 hl w0 hw)
  repeat infer_instance
  · exact sp_cleared_in h h0 (by omega) (by omega) ok fin
  repeat infer_instance
end
/-! the law's own clearing -/
def stP (lines : List D) (L F : List (List Rat)) (x3 x4 x5 x6 : S) : List S := [.dat (.lst lines), .own (.lst (L.map rP)), .dat (.lst (F.map rP)), x3, x4, x5, x6, .dead, .dead, .dead]
section
variable {n m w k k' a : Nat} {lines : List D} {r xs ys row line l0 : List Rat} {rows L F : List (List Rat)} {d dx dy : D}
theorem tc_nzsP {a0 a2 a4 a5 a6 : S} {p : Nat} {P : List D → List S → Prop} : ∀ (rs : List (List Rat)) (i : Nat) (acc : List D), (∀ r ∈ rs, p < r.length) → P (acc ++ inD (nzs p i rs)) [a0, .dead, a2, .dat (.int p), a4, a5, a6, .dead, .dead, .dead] →
    TC [8, 7] (pTup [8, 7]) (mTest (mOp dNe (mOp dIx (mOp dIx (mVar 7) (mVar 3)) (mC (.int 0))) (mC (.int 0)))) (mVar 8) (enumD (i : Nat) (rs.map rP)) acc [a0, .dead, a2, .dat (.int p), a4, a5, a6, .dead, .dead, .dead] P
  | [], i, acc, _, q => TC0 (by simpa [nzs, inD] using q)
  | r :: rs, i, acc, h, q => by
    have hr := h r List.mem_cons_self
    have go := fun acc' => tc_nzsP (a0 := a0) (a2 := a2) (a4 := a4) (a5 := a5) (a6 := a6) (p := p) (P := P) rs (i + 1) acc' fun r' hr' => h r' (List.mem_cons_of_mem _ hr')
    have ei : ((i : Nat) : Int) + 1 = ((i + 1 : Nat) : Int) := rfl
    show TC _ _ _ _ (D.tup [.int (i : Nat), rP r] :: enumD ((i : Int) + 1) (rs.map rP)) acc _ P
    refine TCt ?_
    repeat infer_instance
    refine L_ixL (atI_n (d := pq (en r p)) (by rw [List.getElem?_map, en_get hr]; rfl)) ?_
    repeat infer_instance
    unfold nzs at q
    by_cases hz : en r p = 0
    · have : (en r p != 0) = false := by simp [hz]
      rw [this] at q
      refine c_f (by rw [hz]; rfl) ?_
      rw [ei]
      exact go acc (by simpa using q)
    · have : (en r p != 0) = true := by simp [hz]
      rw [this] at q
      refine c_t (by simp [num_ne hz]) ?_
      repeat infer_instance
      rw [ei]
      exact go (acc ++ [D.int (i : Nat)]) (by simpa [inD] using q)
theorem turnP {p : Nat} {x3 x4 x5 x6 : S} (hp : p < w) (hw : w ≤ 1000) (ok : StepOk w p L F) :
    Lf (pName 3 (.int p) (stP lines L F x3 x4 x5 x6)) fun ρ1 => T (mSeq (mSet (mFrz (mCompS 1 (enumD 0) [8, 7] (pTup [8, 7]) (mTest (mOp dNe (mOp dIx (mOp dIx (mVar 7) (mVar 3)) (mC (.int 0))) (mC (.int 0)))) (mVar 8))) (pName 4))
  (mIfS (mTest (mOp dNe (mVar 4) (mFrz (mLst []))))
  (mSeq (mSet (mPopAt 1 (mOp dIx (mVar 4) (mC (.int 0)))) (pName 5))
  (mSeq (mSet (mCall 1 g__law_inverse [] (mAgs [.d (mOp dIx (mVar 5) (mVar 3))])) (pName 6))
  (mSeq (mSet (mFrz (mComp [9] (mItems lstD (mVar 5)) (pName 9) mYes (mCall 2 g__law_by [] (mAgs [.d (mVar 6), .d (mVar 9)])))) (pName 5))
  (mSeq (mSetO 1 (mComp [7] (mItems lstD (mDat 1)) (pName 7) mYes (mCall 3 g__law_without [] (mAgs [.d (mVar 7), .d (mVar 5), .d (mVar 3)]))))
  (mSet (mOp dAdd (mFrz (mComp [7] (mItems lstD (mVar 2)) (pName 7) mYes (mCall 3 g__law_without [] (mAgs [.d (mVar 7), .d (mVar 5), .d (mVar 3)])))) (mFrz (mLst [(mVar 5)]))) (pName 2))))))
  mSkip)) ρ1 fun f ρ2 => (f = .nx ∨ f = .ct) ∧ ∃ x3 x4 x5 x6, ρ2 = stP lines (stepC p (L, F)).1 (stepC p (L, F)).2 x3 x4 x5 x6 := by
  have start : Lf (pName 3 (.int p) (stP lines L F x3 x4 x5 x6)) fun ρ1 => ρ1 = stP lines L F (.dat (.int p)) x4 x5 x6 := ⟨_, rfl, rfl⟩
  obtain ⟨ρ1, e1, rfl⟩ := start
  refine ⟨_, e1, ?_⟩
  clear e1
  refine T_cut (fun ρ => ρ = stP lines L F (.dat (.int p)) (.dat (.lst (inD (nzs p 0 L)))) x5 x6) ?_ fun ρ h => ?_
  · unfold stP
    repeat infer_instance
    refine T_compS (ds := L.map rP) rfl rfl (by rw [enum_len, List.length_map]; have := ok.cl; omega) ?_
    refine tc_nzsP L 0 [] (fun r hr => by rw [ok.ll r hr]; exact hp) ?_
    exact ⟨rfl, rfl⟩
  subst h
  unfold stP
  repeat infer_instance
  refine L_ne0L (inD_shp _) ?_
  repeat infer_instance
  cases e : L.findIdx? (fun row => en row p != 0) with
  | none =>
    have en : nzs p 0 L = [] := by
      have := nzs_head p 0 L
      rw [e] at this
      exact List.head?_eq_none_iff.mp this
    refine c_f (by rw [en]; rfl) ?_
    repeat infer_instance
    have es : stepC p (L, F) = (L, F) := by unfold stepC; simp only [e]
    rw [es]
    exact ⟨.inl rfl, _, _, _, _, rfl⟩
  | some i =>
    obtain ⟨tl, en'⟩ : ∃ tl, nzs p 0 L = i :: tl := by
      have := nzs_head p 0 L
      rw [e] at this
      exact List.head?_eq_some_iff.mp this
    obtain ⟨hi, hne, _⟩ := List.findIdx?_eq_some_iff_getElem.mp e
    have gi : L[i]? = some L[i] := List.getElem?_eq_getElem hi
    have hm : L[i] ∈ L := List.getElem_mem hi
    have hne : en L[i] p ≠ 0 := by simpa using hne
    have hl0 : L[i].length = w := ok.ll _ hm
    obtain ⟨n, a, m, k, k', s1, s2, s3, s4, s5, s6, s7⟩ := ok.sz i L[i] e gi
    have es : stepC p (L, F) = ((L.eraseIdx i).map fun row => subRow row (L[i].map fun one => one / en L[i] p) p, (F.map fun row => subRow row (L[i].map fun one => one / en L[i] p) p) ++ [L[i].map fun one => one / en L[i] p]) := by
      have gd : L.getD i [] = L[i] := by rw [List.getD_eq_getElem?_getD, gi]; rfl
      unfold stepC
      simp only [e, gd]
    rw [es]
    clear es
    generalize L[i] = l0 at gi hm hne hl0 s1 s2 s4 s7 ⊢
    have cl := ok.cl
    have cf := ok.cf
    have ll := ok.ll
    have lf := ok.lf
    clear ok e
    rw [en']
    refine c_t rfl ?_
    refine T_cut (fun ρ => ρ = stP lines (L.eraseIdx i) F (.dat (.int p)) (.dat (.lst (inD (i :: tl)))) (.dat (rP l0)) x6) ?_ fun ρ h => ?_
    · repeat infer_instance
      refine T_popAt rfl ?_
      repeat infer_instance
      refine L_ixL (show atI (inD (i :: tl)) 0 = some (D.int (i : Nat)) from atI_0) ?_
      refine ⟨rfl, i, rP l0, rfl, by omega, by rw [List.getElem?_map, gi]; rfl, ?_⟩
      rw [map_erase]
      repeat infer_instance
      try rfl
    subst h
    have hat : atI (l0.map pq) (p : Int) = some (pq (en l0 p)) := atI_n (by rw [List.getElem?_map, en_get (by omega)]; rfl)
    refine T_cut (fun ρ => ρ = stP lines (L.eraseIdx i) F (.dat (.int p)) (.dat (.lst (inD (i :: tl)))) (.dat (rP l0)) (.dat (pq (en l0 p)⁻¹))) ?_ fun ρ h => ?_
    · unfold stP
      repeat infer_instance
      refine L_ixL hat ?_
      repeat infer_instance
      · exact sp_inverse hne
      repeat infer_instance
      try rfl
    subst h
    refine T_cut (fun ρ => ρ = stP lines (L.eraseIdx i) F (.dat (.int p)) (.dat (.lst (inD (i :: tl)))) (.dat (rP (l0.map fun one => one / en l0 p))) (.dat (pq (en l0 p)⁻¹))) ?_ fun ρ h => ?_
    · unfold stP
      repeat infer_instance
      refine ⟨by rw [List.length_map]; omega, ?_⟩
      refine TC_f0 (R := fun d q => d = pq q ∧ Sq n q) (fun one => pq (one / en l0 p)) ?_ (F2.of_mapL fun q hq => ⟨rfl, s1 q hq⟩) ?_
      · intro d q hd
        obtain ⟨rfl, hq⟩ := hd
        repeat infer_instance
        · exact sp_lby (s2.inv hne) hq (by omega)
        repeat infer_instance
        refine ⟨?_, rfl⟩
        rw [Rat.div_def, Rat.mul_comm]
      · refine ⟨rfl, ?_⟩
        have el : l0.map (fun one => pq (one / en l0 p)) = (l0.map fun one => one / en l0 p).map pq := by rw [List.map_map]; rfl
        rw [el]
        repeat infer_instance
        try rfl
    subst h
    have lline : (l0.map fun one => one / en l0 p).length = w := by rw [List.length_map, hl0]
    generalize (l0.map fun one => one / en l0 p) = line at s4 s7 lline ⊢
    refine T_cut (fun ρ => ρ = stP lines ((L.eraseIdx i).map fun row => subRow row line p) F (.dat (.int p)) (.dat (.lst (inD (i :: tl)))) (.dat (rP line)) (.dat (pq (en l0 p)⁻¹))) ?_ fun ρ h => ?_
    · unfold stP
      repeat infer_instance
      refine ⟨by rw [List.length_map]; have := List.length_eraseIdx_le L i; omega, ?_⟩
      refine TC_f0 (R := fun d row => d = rP row ∧ row ∈ L.eraseIdx i) (fun row => rP (subRow row line p)) ?_ (F2.of_mapL fun r hr => ⟨rfl, hr⟩) ?_
      · intro d r hd
        obtain ⟨rfl, hr⟩ := hd
        have lr := ll r (List.mem_of_mem_eraseIdx hr)
        obtain ⟨t1, t2, t3⟩ := s7 r (.inl hr)
        repeat infer_instance
        · exact sp_without (by omega) (by omega) (by omega) t1 s4 t2 t3 s5 (by omega)
        repeat infer_instance
      · refine ⟨rfl, ?_⟩
        have el : (L.eraseIdx i).map (fun row => rP (subRow row line p)) = ((L.eraseIdx i).map fun row => subRow row line p).map rP := by rw [List.map_map]; rfl
        rw [el]
        repeat infer_instance
        try rfl
    subst h
    unfold stP
    repeat infer_instance
    refine ⟨by rw [List.length_map]; omega, ?_⟩
    refine TC_f0 (R := fun d row => d = rP row ∧ row ∈ F) (fun row => rP (subRow row line p)) ?_ (F2.of_mapL fun r hr => ⟨rfl, hr⟩) ?_
    · intro d r hd
      obtain ⟨rfl, hr⟩ := hd
      have lr := lf r hr
      obtain ⟨t1, t2, t3⟩ := s7 r (.inr hr)
      repeat infer_instance
      · exact sp_without (by omega) (by omega) (by omega) t1 s4 t2 t3 s5 (by omega)
      repeat infer_instance
    · refine ⟨rfl, ?_⟩
      repeat infer_instance
      · refine ⟨.inl rfl, .dat (.int p), .dat (.lst (inD (i :: tl))), .dat (rP line), .dat (pq (en l0 p)⁻¹), ?_⟩
        have el : F.map (fun row => rP (subRow row line p)) ++ [rP line] = ((F.map fun row => subRow row line p) ++ [line]).map rP := by rw [List.map_append, List.map_map]; rfl
        rw [el]
        rfl
      · simp only [List.length_map, List.length_singleton]; omega
theorem sp_lcleared (hw' : ∀ row ∈ rows, row.length = w) (h0 : rows ≠ []) (hl : rows.length ≤ 1000) (hw : w ≤ 1000) (ok : ∀ p, p < w → StepOk w p (runP p rows).1 (runP p rows).2) :
    GD g__law_cleared [.lst (rows.map rP)] (.lst ((clearC w rows).map rP)) := by
  obtain ⟨r0, rs, rfl⟩ := List.exists_cons_of_ne_nil h0
  have hw0 := hw' r0 List.mem_cons_self
  have hat : atI ((r0 :: rs).map rP) 0 = some (rP r0) := atI_0
  refine GD_of ?_
  unfold m__law_cleared
  repeat infer_instance
  refine ⟨by rw [List.length_map]; omega, ?_⟩
  refine TC_f0 (R := fun d row => d = rP row) rP ?_ (F2.of_mapL fun r hr => rfl) ?_
  · intro d r hd
    subst hd
    repeat infer_instance
  · refine ⟨rfl, ?_⟩
    repeat infer_instance
    refine L_ixL hat ?_
    repeat infer_instance
    refine L_rng1 ?_ ⟨by rw [List.length_map]; omega, by rw [List.length_map]; omega⟩
    have et : (((r0.map pq).length : Nat) : Int).toNat = w := by rw [List.length_map]; omega
    rw [et]
    refine T_rng (fun j ρ => ∃ x3 x4 x5 x6, ρ = stP ((r0 :: rs).map rP) (runP j (r0 :: rs)).1 (runP j (r0 :: rs)).2 x3 x4 x5 x6) w 0 ?_ ?_ ⟨.dead, .dead, .dead, .dead, rfl⟩
    · intro j ρ hj hI
      obtain ⟨x3, x4, x5, x6, rfl⟩ := hI
      rw [run_succ, Int.zero_add]
      exact turnP hj hw (ok j hj)
    · intro ρ hI
      obtain ⟨x3, x4, x5, x6, rfl⟩ := hI
      show T (mRet _) _ _
      unfold stP
      repeat infer_instance
      exact f_e rfl (le_lit rfl)
end
/-! the sizes of both runs -/
def SzA (n : Nat) (rows : List (List Rat)) : Prop := ∀ r ∈ rows, SzR n r
theorem sz_sub {n m k k' p : Nat} {row line : List Rat} (sr : SzR n row) (sp : ∀ b ∈ line, Sq k' (en row p * b)) : SzR (n + k' + 1) (subRow row line p) := by
  unfold subRow
  intro q hq
  obtain ⟨i, hi⟩ := List.getElem?_of_mem hq
  rw [List.getElem?_zipWith] at hi
  cases e1 : row[i]? with
  | none => rw [e1] at hi; cases hi
  | some x =>
    cases e2 : line[i]? with
    | none => rw [e1, e2] at hi; cases hi
    | some y =>
      rw [e1, e2] at hi
      cases hi
      exact (sr x (List.mem_of_getElem? e1)).sub (sp y (List.mem_of_getElem? e2))
theorem sz_line {n p : Nat} {l0 : List Rat} (h : SzR n l0) (hp : p < l0.length) (hne : en l0 p ≠ 0) : SzR (2 * n) (l0.map fun one => one / en l0 p) := by
  intro q hq
  obtain ⟨x, hx, rfl⟩ := List.mem_map.mp hq
  exact ((h x hx).div (h _ (en_mem hp)) hne).mono (by omega)
theorem step_sz {n w p : Nat} {L F : List (List Rat)} (hL : ∀ r ∈ L, r.length = w) (hF : ∀ r ∈ F, r.length = w) (hp : p < w) (h1 : SzA n L) (h2 : SzA n F) (hn : 1 ≤ n) :
    SzA (4 * n + 1) (stepC p (L, F)).1 ∧ SzA (4 * n + 1) (stepC p (L, F)).2 := by
  unfold stepC
  cases e : L.findIdx? (fun row => en row p != 0) with
  | none => exact ⟨fun r hr => (h1 r hr).mono (by omega), fun r hr => (h2 r hr).mono (by omega)⟩
  | some i =>
    obtain ⟨hi, hne, _⟩ := List.findIdx?_eq_some_iff_getElem.mp e
    have gd : L.getD i [] = L[i] := by simp [List.getD_eq_getElem?_getD, hi]
    have hm : L[i] ∈ L := List.getElem_mem hi
    have hne : en L[i] p ≠ 0 := by simpa using hne
    simp only [gd]
    have sl := sz_line (h1 _ hm) (by rw [hL _ hm]; exact hp) hne
    have one : ∀ r, r.length = w → SzR n r → SzR (4 * n + 1) (subRow r (L[i].map fun one => one / en L[i] p) p) := fun r hr hs =>
      (sz_sub (m := 0) (k := 0) (k' := 3 * n) hs fun b hb => ((hs _ (en_mem (by rw [hr]; exact hp))).mul (sl b hb)).mono (by omega)).mono (by omega)
    constructor
    · intro r hr
      obtain ⟨r0, h0, rfl⟩ := List.mem_map.mp hr
      have h0 := List.mem_of_mem_eraseIdx h0
      exact one r0 (hL _ h0) (h1 _ h0)
    · intro r hr
      rcases List.mem_append.mp hr with hr | hr
      · obtain ⟨r0, h0, rfl⟩ := List.mem_map.mp hr
        exact one r0 (hF _ h0) (h2 _ h0)
      · rw [List.mem_singleton.mp hr]
        exact sl.mono (by omega)
def grow : Nat → Nat → Nat
  | n, 0 => n
  | n, p + 1 => 4 * grow n p + 1
theorem step_cnt {p : Nat} {L F : List (List Rat)} : (stepC p (L, F)).1.length + (stepC p (L, F)).2.length ≤ L.length + F.length := by
  unfold stepC
  cases e : L.findIdx? (fun row => en row p != 0) with
  | none => exact Nat.le_refl _
  | some i =>
    obtain ⟨hi, _, _⟩ := List.findIdx?_eq_some_iff_getElem.mp e
    simp only [List.length_map, List.length_append, List.length_singleton, List.length_eraseIdx, if_pos hi]
    omega
theorem run_inv {n w : Nat} {rows : List (List Rat)} (hw : ∀ r ∈ rows, r.length = w) (hs : SzA n rows) (hn : 1 ≤ n) : ∀ p, p ≤ w → SzA (grow n p) (runP p rows).1 ∧ SzA (grow n p) (runP p rows).2 ∧ (∀ r ∈ (runP p rows).1, r.length = w) ∧ (∀ r ∈ (runP p rows).2, r.length = w) ∧ (runP p rows).1.length + (runP p rows).2.length ≤ rows.length ∧ 1 ≤ grow n p
  | 0, _ => ⟨hs, fun r hr => by simp [runP] at hr, hw, fun r hr => by simp [runP] at hr, by simp [runP], hn⟩
  | p + 1, hp => by
    obtain ⟨i1, i2, i3, i4, i5, i6⟩ := run_inv hw hs hn p (by omega)
    obtain ⟨ps, hI⟩ := inv_run hw (p + 1)
    rw [run_succ]
    have hI' : Inv w (p + 1) (stepC p ((runP p rows).1, (runP p rows).2)).1 (stepC p ((runP p rows).1, (runP p rows).2)).2 ps := by
      have e := run_succ p rows
      unfold runP at e
      unfold runP
      rw [← e]
      exact hI
    obtain ⟨j1, j2⟩ := step_sz i3 i4 hp i1 i2 i6
    have := step_cnt (p := p) (L := (runP p rows).1) (F := (runP p rows).2)
    exact ⟨j1, j2, hI'.ll, hI'.lf, by omega, by unfold grow; omega⟩
theorem ok_first {n w : Nat} {rows : List (List Rat)} (hw : ∀ r ∈ rows, r.length = w) (hs : SzA n rows) (hn : 1 ≤ n) (hl : rows.length ≤ 1000) (p : Nat) (hp : p < w) (hb : 4 * grow n p < 8990) : StepOk w p (runP p rows).1 (runP p rows).2 := by
  obtain ⟨i1, i2, i3, i4, i5, i6⟩ := run_inv hw hs hn p (by omega)
  refine ⟨i3, i4, by omega, by omega, ?_⟩
  intro i l0 e g
  obtain ⟨hi, hne, _⟩ := List.findIdx?_eq_some_iff_getElem.mp e
  rw [List.getElem?_eq_getElem hi] at g
  cases g
  have hm := List.getElem_mem hi
  have hne : en (runP p rows).1[i] p ≠ 0 := by simpa using hne
  have lp : p < (runP p rows).1[i].length := by rw [i3 _ hm]; exact hp
  have sl := sz_line (i1 _ hm) lp hne
  refine ⟨grow n p, grow n p, 2 * grow n p, grow n p, 3 * grow n p, i1 _ hm, i1 _ hm _ (en_mem lp), by omega, sl, by omega, by omega, ?_⟩
  have one : ∀ r, r.length = w → SzR (grow n p) r → SzR (grow n p) r ∧ Sq (grow n p) (en r p) ∧ ∀ b ∈ (runP p rows).1[i].map (fun one => one / en (runP p rows).1[i] p), Sq (3 * grow n p) (en r p * b) := fun r hr h =>
    ⟨h, h _ (en_mem (by rw [hr]; exact hp)), fun b hb => ((h _ (en_mem (by rw [hr]; exact hp))).mul (sl b hb)).mono (by omega)⟩
  intro r hr
  rcases hr with hr | hr
  · have := List.mem_of_mem_eraseIdx hr
    exact one r (i3 _ this) (i1 _ this)
  · exact one r (i4 _ hr) (i2 _ hr)
theorem div_one_map (l : List Rat) : (l.map fun one => one / (1 : Rat)) = l := by
  conv => rhs; rw [← List.map_id l]
  apply List.map_congr_left
  intro x _
  show x / 1 = x
  grind
theorem ok_second {n w : Nat} {rows : List (List Rat)} (hw : ∀ r ∈ rows, r.length = w) (hs : SzA n rows) (hn : 1 ≤ n) (hl : rows.length ≤ 1000) (hb : grow n w < 8900) (p : Nat) (hp : p < w) : StepOk w p (runP p (clearC w rows)).1 (runP p (clearC w rows)).2 := by
  obtain ⟨i1, i2, i3, i4, i5, i6⟩ := run_inv hw hs hn w (by omega)
  obtain ⟨ps, hI⟩ := inv_run hw w
  obtain ⟨j, e, k⟩ := run2_ok hI p
  have e' : runP p (clearC w rows) = ((clearC w rows).drop j, (clearC w rows).take j) := e
  rw [e']
  have f2 : SzA (grow n w) (clearC w rows) := i2
  have f4 : ∀ r ∈ clearC w rows, r.length = w := i4
  have f5 : (clearC w rows).length ≤ 1000 := by
    have : (runP w rows).2.length ≤ 1000 := by omega
    exact this
  refine ⟨fun r hr => f4 r (List.mem_of_mem_drop hr), fun r hr => f4 r (List.mem_of_mem_take hr), by simp only [List.length_drop]; omega, by simp only [List.length_take]; omega, ?_⟩
  intro i l0 ei g
  obtain ⟨rfl, hk, at1, z1, z2⟩ := k i ei
  have hj : j < (clearC w rows).length := hk
  have eg : ((clearC w rows).drop j)[0]? = some (clearC w rows)[j] := by rw [List.getElem?_drop]; simp [hj]
  simp only [eg, Option.some.injEq] at g
  subst g
  have at1' : en (clearC w rows)[j] p = 1 := at1
  have hm : (clearC w rows)[j] ∈ clearC w rows := List.getElem_mem _
  rw [at1', div_one_map]
  refine ⟨grow n w, 1, grow n w, 1, 1, f2 _ hm, Sq.one, by omega, f2 _ hm, by omega, by omega, ?_⟩
  have one : ∀ r, SzR (grow n w) r → en r p = 0 → SzR (grow n w) r ∧ Sq 1 (en r p) ∧ ∀ b ∈ (clearC w rows)[j], Sq 1 (en r p * b) := fun r hr h0 => by
    rw [h0]
    exact ⟨hr, .zero, fun b _ => by rw [Rat.zero_mul]; exact .zero⟩
  intro r hr
  rcases hr with hr | hr
  · have ed : (clearC w rows).drop j = (clearC w rows)[j] :: (clearC w rows).drop (j + 1) := List.drop_eq_getElem_cons hj
    rw [ed, List.eraseIdx_cons_zero] at hr
    exact one r (f2 r (List.mem_of_mem_drop hr)) (z1 r hr)
  · exact one r (f2 r (List.mem_of_mem_take hr)) (z2 r hr)
/-! the law's draws -/
section
variable {n m w L : Nat} {o : OB} {q : Rat} {r : List Rat} {lines : List (List Rat)}
theorem sp_roll {m : Int} (hd : Dice L o) (hL : L ≤ 1000000) (hn : 0 < m) (hn2 : divOk m = true) : GS g__law_roll o [.int m] (Rolled L m) := gs_roll hd hL hn hn2
theorem sp_one_of {ds : List D} (hd : Dice L o) (hL : L ≤ 1000000) (h0 : ds ≠ []) (h1 : ds.length < 1000) : GS g__law_one_of o [.lst ds] (Chosen L ds) := gs_one_of (fun m k0 k1 => sp_roll hd hL k0 k1) h0 h1
theorem sp_one_io {ds : List D} (hd : Dice L o) (hL : L ≤ 1000000) (h0 : ds ≠ []) (h1 : ds.length < 1000) : GS2 g__law_one_of__io o (.lst ds) fun r a b => b = .lst ds ∧ ∃ d, r = .dat d ∧ d ∈ ds ∧ Dice (L + 1) a := by
  have hl : 0 < ds.length := List.length_pos_iff.mpr h0
  refine GS2_of ?_
  unfold m__law_one_of__io
  repeat infer_instance
  refine (sp_roll hd hL (show (0 : Int) < ds.length by omega) (Sz.divOk (n := 1000) (sz_nat (by omega)) (by omega) (by decide))).imp fun r o' h => ?_
  obtain ⟨k, rfl, k0, k1, hd⟩ := h
  obtain ⟨d, e, hm⟩ := atI_some k0 k1
  repeat infer_instance
  refine ⟨_, e, ?_⟩
  exact ⟨_, _, _, _, rfl, rfl, rfl, _, rfl, hm, hd⟩
def NumD (L : Nat) (r : S) (o : OB) : Prop := ∃ q : Rat, r = .dat (pq q) ∧ Sq 3 q ∧ Dice (L + 2) o
theorem sp_number (hd : Dice L o) (hL : L ≤ 900000) : GS g__law_number o [] (NumD L) := by
  refine GS_of ?_
  unfold m__law_number
  repeat infer_instance
  refine (sp_one_of hd (by omega) (by simp) (le_lit rfl)).imp fun r o1 h => ?_
  obtain ⟨d, rfl, hm, hd1⟩ := h
  obtain ⟨t, rfl, ht⟩ : ∃ t : Int, d = .int t ∧ Sz 3 t := by
    simp only [List.mem_cons, List.not_mem_nil, or_false] at hm
    rcases hm with h | h | h | h | h | h | h | h | h | h | h <;> exact ⟨_, h, by decide +kernel⟩
  repeat infer_instance
  refine (sp_one_of hd1 (by omega) (by simp) (le_lit rfl)).imp fun r o2 h => ?_
  obtain ⟨d, rfl, hm, hd2⟩ := h
  obtain ⟨b, rfl, hb, hp⟩ : ∃ b : Int, d = .int b ∧ Sz 3 b ∧ 0 < b := by
    simp only [List.mem_cons, List.not_mem_nil, or_false] at hm
    rcases hm with h | h | h | h | h | h <;> exact ⟨_, h, by decide +kernel, by decide⟩
  repeat infer_instance
  · exact sp_ratio ht hb hp (by decide)
  repeat infer_instance
  exact ⟨_, rfl, sq_div ht hb (Int.ne_of_gt hp), hd2⟩
theorem sp_shown (hd : Dice L o) (hL : L ≤ 900000) (hq : Sq n q) (hn : n < 9000) : GS g__law_shown o [pq q] fun r o => ∃ d, r = .dat d ∧ ShN n d q ∧ Dice (L + 1) o := by
  have rest : ∀ (P : OB → Prop), P (.ins 0 (frF q.num (q.den : Int))) → GS g_Fraction_init (.ins 0 []) [.int q.num, .int (q.den : Int)] fun r o => r = .dat .non ∧ P o := fun P hP => mk_q (by rw [← self_q]; exact hP) den_ne (gcd_ok hq.sb den_ne hn)
  refine GS_of ?_
  unfold m__law_shown
  repeat infer_instance
  by_cases h1 : (q.den : Int) = 1
  · refine c_t (decide_eq_true h1) ?_
    repeat infer_instance
    refine (sp_roll hd (by omega) (by decide) (by decide +kernel)).imp fun r o1 h => ?_
    obtain ⟨k, rfl, _, _, hd1⟩ := h
    repeat infer_instance
    by_cases hk : k = 0
    · refine c_t (decide_eq_true hk) ?_
      repeat infer_instance
      refine ⟨⟨.inr ⟨q.num, rfl, ?_⟩, hq⟩, hd1⟩
      exact Rat.ext rfl (by have : q.den = 1 := by omega
                            exact this)
    · refine c_f (decide_eq_false hk) ?_
      repeat infer_instance
      exact rest _ (fs_d rfl (le_lit rfl) ⟨fq q, rfl, ⟨.f, hq⟩, hd1⟩)
  · refine c_f (decide_eq_false h1) ?_
    repeat infer_instance
    exact rest _ (fs_d rfl (le_lit rfl) ⟨fq q, rfl, ⟨.f, hq⟩, hd.mono (by omega)⟩)
theorem sp_shown_row (hd : Dice L o) (hL : L + r.length ≤ 890000) (hq : SzR n r) (hn : n < 9000) : GS g__law_shown_row o [rP r] fun s o => ∃ ds, s = .dat (.tup ds) ∧ F2 (ShN n) ds r ∧ Dice (L + r.length) o := by
  refine GS_of ?_
  unfold m__law_shown_row
  refine T_ret (T_cb (T_args1 (T_frz (T_comp ?_))))
  repeat infer_instance
  refine ⟨by rw [List.length_map]; omega, ?_⟩
  have go : ∀ (rs : List Rat) (acc : List D) (l : Nat) (o : OB) (rs0 : List Rat), F2 (ShN n) acc rs0 → r = rs0 ++ rs → Dice (L + l) o → l = rs0.length → SzR n rs →
      TC [2] (pName 2) mYes (mCall 2 g__law_shown [] (mAgs [.s 0, .d (mVar 2)])) (rs.map pq) acc [.par o, .dat (rP r), .dead] fun out ρ => ∃ o', F2 (ShN n) out r ∧ Dice (L + r.length) o' ∧ ρ = [.par o', .dat (rP r), .dead] := by
    intro rs
    induction rs with
    | nil =>
      intro acc l o rs0 ha e hd hl _
      refine TC0 ⟨o, ?_, ?_, rfl⟩
      · rw [e, List.append_nil]; exact ha
      · rw [e, List.append_nil, ← hl]; exact hd
    | cons q rs ih =>
      intro acc l o rs0 ha e hd hl hs
      have len : r.length = rs0.length + (rs.length + 1) := by rw [e, List.length_append, List.length_cons]
      refine TC1 ?_
      repeat infer_instance
      refine (sp_shown hd (by omega) (hs q List.mem_cons_self) hn).imp fun s o1 h => ?_
      obtain ⟨d, rfl, h1, h2⟩ := h
      repeat infer_instance
      exact ih (acc ++ [d]) (l + 1) o1 (rs0 ++ [q]) (ha.snoc h1) (by rw [e]; simp) h2 (by simp [hl]) fun q' hq' => hs q' (List.mem_cons_of_mem _ hq')
  obtain ⟨out, ρ', e, o', h1, h2, rfl⟩ := go r [] 0 o [] .nil rfl hd rfl hq
  refine ⟨out, _, e, ?_⟩
  repeat infer_instance
  exact ⟨h1, h2⟩
theorem sp_shown_lines (hd : Dice L o) (hL : L + lines.length * w ≤ 890000) (hq : ∀ r ∈ lines, SzR n r ∧ r.length = w) (hc : lines.length ≤ 1000) (hn : n < 9000) : GS g__law_shown_lines o [.lst (lines.map rP)] fun s o => ∃ ds, s = .dat (.tup ds) ∧ F2 (ShR n w) ds lines ∧ Dice (L + lines.length * w) o := by
  refine GS_of ?_
  unfold m__law_shown_lines
  refine T_ret (T_cb (T_args1 (T_frz (T_comp ?_))))
  repeat infer_instance
  refine ⟨by rw [List.length_map]; omega, ?_⟩
  have go : ∀ (rs : List (List Rat)) (acc : List D) (l : Nat) (o : OB) (rs0 : List (List Rat)), F2 (ShR n w) acc rs0 → lines = rs0 ++ rs → Dice (L + l * w) o → l = rs0.length → (∀ r ∈ rs, SzR n r ∧ r.length = w) →
      TC [2] (pName 2) mYes (mCall 2 g__law_shown_row [] (mAgs [.s 0, .d (mVar 2)])) (rs.map rP) acc [.par o, .dat (.lst (lines.map rP)), .dead] fun out ρ => ∃ o', F2 (ShR n w) out lines ∧ Dice (L + lines.length * w) o' ∧ ρ = [.par o', .dat (.lst (lines.map rP)), .dead] := by
    intro rs
    induction rs with
    | nil =>
      intro acc l o rs0 ha e hd hl _
      refine TC0 ⟨o, ?_, ?_, rfl⟩
      · rw [e, List.append_nil]; exact ha
      · rw [e, List.append_nil, ← hl]; exact hd
    | cons q rs ih =>
      intro acc l o rs0 ha e hd hl hs
      have len : lines.length = rs0.length + (rs.length + 1) := by rw [e, List.length_append, List.length_cons]
      obtain ⟨s1, s2⟩ := hs q List.mem_cons_self
      have lw : (l + 1) * w ≤ lines.length * w := Nat.mul_le_mul_right _ (by omega)
      have lw2 : (l + 1) * w = l * w + w := Nat.succ_mul _ _
      refine TC1 ?_
      repeat infer_instance
      refine (sp_shown_row hd (by omega) s1 hn).imp fun s o1 h => ?_
      obtain ⟨d, rfl, h1, h2⟩ := h
      repeat infer_instance
      exact ih (acc ++ [.tup d]) (l + 1) o1 (rs0 ++ [q]) (ha.snoc ⟨d, rfl, h1, s2⟩) (by rw [e]; simp) (h2.mono (by omega)) (by simp [hl]) fun q' hq' => hs q' (List.mem_cons_of_mem _ hq')
  obtain ⟨out, ρ', e, o', h1, h2, rfl⟩ := go lines [] 0 o [] .nil rfl (by rw [Nat.zero_mul]; exact hd) rfl hq
  refine ⟨out, _, e, ?_⟩
  repeat infer_instance
  exact ⟨h1, h2⟩
/-- a row of drawn numbers, one for each item -/
theorem tc_numbers {st : OB → List S} {v : Nat} {P : List D → List S → Prop} (hs : ∀ o d, isOb ((st o).set v (.dat d))[0]? = some o) (hw : ∀ o o' d, wipeR (putAt ((st o).set v (.dat d)) 0 o') [v] = st o') :
    ∀ (ds : List D) (qs : List Rat) (L : Nat) (o : OB), SzR 3 qs → Dice L o → L + 2 * ds.length ≤ 900000 → (∀ qs' o', qs'.length = qs.length + ds.length → SzR 3 qs' → Dice (L + 2 * ds.length) o' → P (qs'.map pq) (st o')) →
      TC [v] (pName v) mYes (mCall 1 g__law_number [] (mAgs [.s 0])) ds (qs.map pq) (st o) P
  | [], qs, L, o, h1, h2, _, q => TC0 (q qs o rfl h1 h2)
  | d :: ds, qs, L, o, h1, h2, h3, q => by
    rw [List.length_cons] at h3
    refine TC1 (L_name (T_call (T_agsS (hs o d) (T_ags0 ?_))))
    refine T_calS (ds := []) (hs o d) rfl rfl ((sp_number h2 (by omega)).imp fun r o1 h => ?_)
    obtain ⟨x, rfl, hx, hd⟩ := h
    refine L_asD ?_
    rw [hw]
    have := tc_numbers hs hw ds (qs ++ [x]) (L + 2) o1 (fun q hq => by
      rcases List.mem_append.mp hq with hq | hq
      · exact h1 q hq
      · rw [List.mem_singleton.mp hq]; exact hx) hd (by omega) (fun qs' o' e1 e2 e3 => q qs' o' (by simp only [List.length_append, List.length_cons, List.length_nil] at *; omega) e2 (e3.mono (by rw [List.length_cons]; omega)))
    rw [List.map_append] at this
    exact this
end
theorem atI_last {ds : List D} {d : D} (h : ds.getLast? = some d) : atI ds (-1) = some d := by
  have h0 : ds ≠ [] := by rintro rfl; cases h
  have hl : 0 < ds.length := List.length_pos_iff.mpr h0
  unfold atI ixN
  rw [if_neg (by decide), if_pos (by omega)]
  rw [List.getLast?_eq_getElem?] at h
  have e : (-1 + (ds.length : Int)).toNat = ds.length - 1 := by omega
  show ds[(-1 + (ds.length : Int)).toNat]? = _
  rw [e]
  exact h
section
variable {n m w L : Nat} {o : OB} {q : Rat} {r : List Rat} {lines : List (List Rat)}
/-- drawn rows: row by row a little greater -/
structure Drn (w : Nat) (found : List (List Rat)) : Prop where
  len : ∀ r ∈ found, r.length = w
  sz : ∀ j (h : j < found.length), SzR (3 + 4 * j) found[j]
theorem Drn.nil : Drn w [] := ⟨by simp, by simp⟩
theorem Drn.snoc {found : List (List Rat)} (h : Drn w found) (h1 : r.length = w) (h2 : SzR (3 + 4 * found.length) r) : Drn w (found ++ [r]) := by
  refine ⟨fun r' hr => ?_, fun j hj => ?_⟩
  · rcases List.mem_append.mp hr with hr | hr
    · exact h.len r' hr
    · rw [List.mem_singleton.mp hr]; exact h1
  · rw [List.getElem_append]
    split
    · exact h.sz _ _
    · rename_i hge
      have hj' : j < found.length + 1 := by simpa using hj
      have e : j = found.length := by omega
      subst e
      simpa using h2
theorem Drn.all {found : List (List Rat)} (h : Drn w found) {k : Nat} (hk : found.length ≤ k + 1) : ∀ r ∈ found, SzR (3 + 4 * k) r := by
  intro r hr
  obtain ⟨j, hj, rfl⟩ := List.mem_iff_getElem.mp hr
  exact (h.sz j hj).mono (by omega)
theorem two_q : (2 : Rat).num = 2 ∧ (2 : Rat).den = 1 := ⟨rfl, rfl⟩
theorem pq_two : D.tup [.int 2, .int 1] = pq 2 := rfl
theorem pq_zero : D.tup [.int 0, .int 1] = pq 0 := rfl
theorem sq_two : Sq 2 2 := ⟨by decide, by decide⟩
def stL (o : OB) (w : Nat) (found : List (List Rat)) (x5 x6 x7 : S) : List S := [.par o, .dat (.int 5), .dat (.int 4), .dat (.int w), .own (.lst (found.map rP)), x5, x6, x7, .dead, .dead, .dead]
theorem zip_f2p {R : D → D → Prop} {h : Rat → Rat → D} (as bs : List Rat) (k : ∀ a ∈ as, ∀ b ∈ bs, R (.tup [pq a, pq b]) (h a b)) : F2 R (zipD (as.map pq) (bs.map pq)) (List.zipWith h as bs) := zip_f2m as bs k
theorem flat_one {x : D} : ∀ k : Nat, (List.replicate k [x]).flatten = List.replicate k x
  | 0 => rfl
  | k + 1 => by rw [List.replicate_succ, List.flatten_cons, flat_one k, List.replicate_succ]; rfl
def Lines (L : Nat) (s : S) (o : OB) : Prop := ∃ (w : Nat) (lines : List (List Rat)), s = .dat (.lst (lines.map rP)) ∧ 1 ≤ w ∧ w ≤ 4 ∧ lines ≠ [] ∧ lines.length ≤ 5 ∧ Drn w lines ∧ Dice (L + 62) o
theorem turn_lines {j : Nat} {found : List (List Rat)} {x5 x6 x7 : S} {d : D} (hd : Dice L o) (hL : L ≤ 800000) (hw : w ≤ 4) (hj : found.length = j) (hj5 : j ≤ 5) (hf : Drn w found) :
    Lf (pName 5 d (stL o w found x5 x6 x7)) fun ρ1 => T (mSeq (mPar 6 7 (mCall 2 g__law_roll [] (mAgs [.s 0, .d (mC (.int 6))])) (mFrz (mComp [8] (mItemsN rng1 [(mVar 3)]) (pName 8) mYes (mCall 1 g__law_number [] (mAgs [.s 0])))))
  (mSeq (mIfS (mAnd (mTest (mOp dEq (mVar 6) (mC (.int 0)))) (mTest (mNe0 4)))
  (mSet (mFrz (mComp [9] (mItems lstD (mCall 2 g__law_one_of__io [] (mAgs [.s 0, .s 4]))) (pName 9) mYes (mCall 2 g__law_by [] (mAgs [.d (mTup [(mC (.int 2)), (mC (.int 1))]), .d (mVar 9)])))) (pName 7))
  mSkip)
  (mSeq (mIfS (mAnd (mTest (mOp dEq (mVar 6) (mC (.int 1)))) (mTest (mOp dGt (mLenS 4) (mC (.int 1)))))
  (mSet (mFrz (mComp [9, 10] (mItemsN zip2 [(mIxS 4 (mC (.int 0))), (mIxS 4 (mUn dNeg (mC (.int 1))))]) (pTup [9, 10]) mYes (mCall 2 g__law_plus [] (mAgs [.d (mVar 9), .d (mVar 10)])))) (pName 7))
  mSkip)
  (mSeq (mIfS (mTest (mOp dEq (mVar 6) (mC (.int 2))))
  (mSet (mOp dMul (mFrz (mLst [(mTup [(mC (.int 0)), (mC (.int 1))])])) (mVar 3)) (pName 7))
  mSkip)
  (mApp 4 (mVar 7)))))) ρ1 fun f ρ2 => (f = .nx ∨ f = .ct) ∧ ∃ o' r x5 x6 x7, ρ2 = stL o' w (found ++ [r]) x5 x6 x7 ∧ Drn w (found ++ [r]) ∧ Dice (L + 12) o' := by
  have start : Lf (pName 5 d (stL o w found x5 x6 x7)) fun ρ1 => ρ1 = stL o w found (.dat d) x6 x7 := ⟨_, rfl, rfl⟩
  obtain ⟨ρ1, e1, rfl⟩ := start
  refine ⟨_, e1, ?_⟩
  clear e1
  have fsh : Shp 60 (.lst (found.map rP)) := by
    refine Shp.lst (k := 59) fun d hd => ?_
    obtain ⟨r, _, rfl⟩ := List.mem_map.mp hd
    refine Shp.lst (k := 58) fun d hd => ?_
    obtain ⟨q, _, rfl⟩ := List.mem_map.mp hd
    refine Shp.tup (k := 57) fun d hd => ?_
    simp only [List.mem_cons, List.not_mem_nil, or_false] at hd
    rcases hd with rfl | rfl <;> exact .int
  refine T_cut (fun ρ => ∃ o1 k r, ρ = stL o1 w found (.dat d) (.dat (.int k)) (.dat (rP r)) ∧ r.length = w ∧ SzR 3 r ∧ Dice (L + 9) o1) ?_ fun ρ h => ?_
  · unfold stL
    repeat infer_instance
    refine (sp_roll hd (by omega) (by decide) (by decide +kernel)).imp fun s o1 h => ?_
    obtain ⟨k, rfl, _, _, hd1⟩ := h
    refine L_asD ?_
    refine T_frz (T_comp ?_)
    repeat infer_instance
    refine L_rng1 ?_ ⟨by omega, by omega⟩
    refine ⟨rfl, by rw [range_len]; omega, ?_⟩
    refine tc_numbers (st := fun o => stL o w found (.dat d) x6 x7) (v := 8) (fun _ _ => rfl) (fun _ _ _ => rfl) _ [] (L + 1) o1 (by simp [SzR]) hd1 (by rw [range_len]; omega) ?_
    intro qs o2 h1 h2 h3
    rw [range_len] at h1 h3
    refine ⟨rfl, o2, k, qs, rfl, by simp at h1; omega, h2, h3.mono (by omega)⟩
  obtain ⟨o1, k, r, rfl, hr, hs, hd1⟩ := h
  refine T_cut (fun ρ => ∃ o1 r, ρ = stL o1 w found (.dat d) (.dat (.int k)) (.dat (rP r)) ∧ r.length = w ∧ SzR (3 + 4 * found.length) r ∧ Dice (L + 10) o1) ?_ fun ρ h => ?_
  · unfold stL
    repeat infer_instance
    by_cases hk : k = 0
    · refine c_t (decide_eq_true hk) ?_
      repeat infer_instance
      refine T_ne0 rfl fsh ?_
      repeat infer_instance
      by_cases hf0 : found = []
      · refine c_f (by rw [hf0]; rfl) ?_
        repeat infer_instance
        exact ⟨o1, r, rfl, hr, hs.mono (by omega), hd1.mono (by omega)⟩
      · have hpos : 0 < found.length := List.length_pos_iff.mpr hf0
        refine c_t (by rw [List.length_map]; simp; exact hf0) ?_
        repeat infer_instance
        refine T_calSS (gs := []) (by decide) rfl rfl ?_
        obtain ⟨s, a, b, tl, e, rfl, dd, rfl, hm, hda⟩ := sp_one_io (ds := found.map rP) hd1 (by omega) (by simp [hf0]) (by rw [List.length_map]; omega)
        refine ⟨_, a, _, tl, e, ?_⟩
        obtain ⟨r1, hr1, rfl⟩ := List.mem_map.mp hm
        repeat infer_instance
        have sr1 := hf.all (k := found.length - 1) (by omega) r1 hr1
        have lr1 := hf.len r1 hr1
        refine ⟨by rw [List.length_map]; omega, ?_⟩
        refine TC_f0 (R := fun d q => d = pq q ∧ Sq (3 + 4 * (found.length - 1)) q) (fun q => pq (2 * q)) ?_ (F2.of_mapL fun q hq => ⟨rfl, sr1 q hq⟩) ?_
        · intro d q hd
          obtain ⟨rfl, hq⟩ := hd
          repeat infer_instance
          · exact sp_lby (n := 2) sq_two hq (by omega)
          repeat infer_instance
        · refine ⟨rfl, ?_⟩
          have el : r1.map (fun q => pq (2 * q)) = (r1.map fun q => 2 * q).map pq := by rw [List.map_map]; rfl
          rw [el]
          repeat infer_instance
          refine ⟨a, r1.map fun q => 2 * q, rfl, by rw [List.length_map]; exact lr1, ?_, hda.mono (by omega)⟩
          intro q hq
          obtain ⟨x, hx, rfl⟩ := List.mem_map.mp hq
          exact (sq_two.mul (sr1 x hx)).mono (by omega)
    · refine c_f (decide_eq_false hk) ?_
      repeat infer_instance
      exact ⟨o1, r, rfl, hr, hs.mono (by omega), hd1.mono (by omega)⟩
  clear hs hd1 hr
  obtain ⟨o2, r2, rfl, hr, hs, hd1⟩ := h
  refine T_cut (fun ρ => ∃ o1 r, ρ = stL o1 w found (.dat d) (.dat (.int k)) (.dat (rP r)) ∧ r.length = w ∧ SzR (3 + 4 * found.length) r ∧ Dice (L + 10) o1) ?_ fun ρ h => ?_
  · unfold stL
    repeat infer_instance
    by_cases hk : k = 1
    · refine c_t (decide_eq_true hk) ?_
      repeat infer_instance
      by_cases hf0 : 1 < found.length
      · refine c_t (decide_eq_true (by rw [List.length_map]; omega)) ?_
        have g0 : atI (found.map rP) 0 = some (rP found[0]) := by
          have : (found.map rP)[0]? = some (rP found[0]) := by rw [List.getElem?_map, List.getElem?_eq_getElem (by omega)]; rfl
          exact atI_n this
        have gl : atI (found.map rP) (-1) = some (rP found[found.length - 1]) := by
          refine atI_last ?_
          rw [List.getLast?_eq_getElem?, List.length_map, List.getElem?_map, List.getElem?_eq_getElem (by omega)]
          rfl
        have l0 := hf.len found[0] (List.getElem_mem _)
        have ll := hf.len found[found.length - 1] (List.getElem_mem _)
        have s0 := hf.sz 0 (by omega)
        have sl := hf.sz (found.length - 1) (by omega)
        have f2 := zip_f2p (R := fun d y => ∃ a b, d = .tup [pq a, pq b] ∧ y = pq (a + b) ∧ Sq 3 a ∧ Sq (3 + 4 * (found.length - 1)) b) (h := fun a b => pq (a + b)) found[0] found[found.length - 1] fun a ha b hb => ⟨a, b, rfl, rfl, s0 a ha, sl b hb⟩
        have hlen := f2.len
        repeat infer_instance
        refine L_ixD g0 ?_
        repeat infer_instance
        refine L_ixD gl ?_
        repeat infer_instance
        refine ⟨by rw [hlen, List.length_zipWith]; omega, ?_⟩
        refine TC_two0 ?_ f2 ?_
        · intro d y hd
          obtain ⟨a, b, rfl, rfl, ha, hb⟩ := hd
          repeat infer_instance
          · exact sp_plus ha hb (by omega)
          repeat infer_instance
        · refine ⟨rfl, ?_⟩
          have el : List.zipWith (fun a b => pq (a + b)) found[0] found[found.length - 1] = (List.zipWith (fun a b => a + b) found[0] found[found.length - 1]).map pq := by rw [List.map_zipWith]
          rw [el]
          repeat infer_instance
          refine ⟨o2, List.zipWith (fun a b => a + b) found[0] found[found.length - 1], rfl, by rw [List.length_zipWith]; omega, ?_, hd1⟩
          intro q hq
          obtain ⟨i, hi⟩ := List.getElem?_of_mem hq
          rw [List.getElem?_zipWith] at hi
          cases e1 : found[0][i]? with
          | none => rw [e1] at hi; cases hi
          | some x =>
            cases e2 : found[found.length - 1][i]? with
            | none => rw [e1, e2] at hi; cases hi
            | some y =>
              rw [e1, e2] at hi
              cases hi
              exact ((s0 x (List.mem_of_getElem? e1)).add (sl y (List.mem_of_getElem? e2))).mono (by omega)
      · refine c_f (decide_eq_false (by rw [List.length_map]; omega)) ?_
        repeat infer_instance
        exact ⟨o2, r2, rfl, hr, hs, hd1⟩
    · refine c_f (decide_eq_false hk) ?_
      repeat infer_instance
      exact ⟨o2, r2, rfl, hr, hs, hd1⟩
  clear hs hd1 hr
  obtain ⟨o3, r3, rfl, hr, hs, hd1⟩ := h
  refine T_cut (fun ρ => ∃ o1 r, ρ = stL o1 w found (.dat d) (.dat (.int k)) (.dat (rP r)) ∧ r.length = w ∧ SzR (3 + 4 * found.length) r ∧ Dice (L + 10) o1) ?_ fun ρ h => ?_
  · unfold stL
    repeat infer_instance
    by_cases hk : k = 2
    · refine c_t (decide_eq_true hk) ?_
      repeat infer_instance
      · have ew : ((w : Nat) : Int).toNat = w := by omega
        have el : (List.replicate w [pq 0]).flatten = (List.replicate w (0 : Rat)).map pq := by rw [flat_one, List.map_replicate]
        rw [ew]
        refine ⟨o3, List.replicate w 0, ?_, by simp, ?_, hd1⟩
        · have e2 : rP (List.replicate w 0) = D.lst (List.replicate w [pq 0]).flatten := congrArg D.lst el.symm
          rw [e2]
          rfl
        · intro q hq
          rw [(List.mem_replicate.mp hq).2]
          exact Sq.zero.mono (by omega)
      · exact ⟨by omega, by omega, by simp; omega⟩
    · refine c_f (decide_eq_false hk) ?_
      repeat infer_instance
      exact ⟨o3, r3, rfl, hr, hs, hd1⟩
  clear hs hd1 hr
  obtain ⟨o4, r4, rfl, hr, hs, hd1⟩ := h
  unfold stL
  repeat infer_instance
  refine ⟨by rw [List.length_map]; omega, .inl rfl, o4, r4, .dat d, .dat (.int k), .dat (rP r4), ?_, hf.snoc hr hs, hd1.mono (by omega)⟩
  rw [List.map_append]
  rfl
theorem sp_lines (hd : Dice L o) (hL : L ≤ 700000) : GS g__law_lines o [.int 5, .int 4] (Lines L) := by
  refine GS_of ?_
  unfold m__law_lines
  refine T_cut (fun ρ => ∃ o1 w, ρ = stL o1 w [] .dead .dead .dead ∧ 1 ≤ w ∧ w ≤ 4 ∧ Dice (L + 1) o1) ?_ fun ρ h => ?_
  · repeat infer_instance
    refine (sp_roll hd (by omega) (by decide) (by decide +kernel)).imp fun s o1 h => ?_
    obtain ⟨k, rfl, k0, k1, hd1⟩ := h
    repeat infer_instance
    refine ⟨o1, (1 + k).toNat, ?_, by omega, by omega, hd1⟩
    have e : (((1 + k).toNat : Nat) : Int) = 1 + k := by omega
    unfold stL
    rw [e]
    rfl
  obtain ⟨o1, w, rfl, w0, w1, hd1⟩ := h
  refine T_cut (fun ρ => ∃ o1 found x5 x6 x7, ρ = stL o1 w found x5 x6 x7 ∧ found ≠ [] ∧ found.length ≤ 5 ∧ Drn w found ∧ Dice (L + 62) o1) ?_ fun ρ h => ?_
  · refine T_for ?_
    unfold stL
    repeat infer_instance
    refine (sp_roll hd1 (by omega) (by decide) (by decide +kernel)).imp fun s o2 h => ?_
    obtain ⟨k, rfl, k0, k1, hd2⟩ := h
    repeat infer_instance
    refine L_rng1 ?_ ⟨by omega, by omega⟩
    refine T_rng (fun j ρ => ∃ o1 found x5 x6 x7, ρ = stL o1 w found x5 x6 x7 ∧ found.length = j ∧ Drn w found ∧ Dice (L + 2 + 12 * j) o1) (1 + k).toNat 0 ?_ ?_ ⟨o2, [], .dead, .dead, .dead, rfl, rfl, .nil, hd2⟩
    · intro j ρ hj hI
      obtain ⟨o3, found, x5, x6, x7, rfl, h1, h2, h3⟩ := hI
      obtain ⟨ρ1, e1, k⟩ := turn_lines (d := .int (0 + (j : Nat))) (x5 := x5) (x6 := x6) (x7 := x7) h3 (by omega) w1 h1 (by omega) h2
      refine ⟨ρ1, e1, k.imp fun f ρ2 h => ⟨h.1, ?_⟩⟩
      obtain ⟨_, o', r, x5, x6, x7, rfl, h4, h5⟩ := h
      exact ⟨o', found ++ [r], x5, x6, x7, rfl, by simp [h1], h4, h5.mono (by omega)⟩
    · intro ρ hI
      obtain ⟨o3, found, x5, x6, x7, rfl, h1, h2, h3⟩ := hI
      refine ⟨rfl, o3, found, x5, x6, x7, rfl, ?_, by omega, h2, h3.mono (by omega)⟩
      rintro rfl
      simp at h1
      omega
  obtain ⟨o2, found, x5, x6, x7, rfl, h1, h2, h3, h4⟩ := h
  unfold stL
  repeat infer_instance
  exact ⟨w, found, rfl, w0, w1, h1, h2, h3, h4⟩
end
section
variable {n m w L : Nat} {o : OB} {q : Rat} {r xs ys : List Rat} {rows lines : List (List Rat)} {ds dss : List D}
theorem sp_pairs (h : F2 Sh ds r) (hl : r.length < 900000) : GD g__law_pairs [.tup ds] (rP r) := by
  have hlen := h.len
  refine GD_of ?_
  unfold m__law_pairs
  repeat infer_instance
  refine ⟨by omega, ?_⟩
  refine TC_f0 (R := Sh) pq ?_ h ?_
  · intro d q hd
    repeat infer_instance
    · exact sp_pair hd
    repeat infer_instance
  · refine ⟨rfl, ?_⟩
    repeat infer_instance
theorem shp_pq (q : Rat) : Shp 57 (pq q) := Shp.tup (k := 56) fun d hd => by
  simp only [List.mem_cons, List.not_mem_nil, or_false] at hd
  rcases hd with rfl | rfl <;> exact .int
theorem Shp.mono {k k' : Nat} {d : D} (h : Shp k d) (l : k ≤ k') : Shp k' d := by
  obtain ⟨p, h1, h2, h3⟩ := h
  exact ⟨p, h1, h2, by omega⟩
theorem shp_rP (r : List Rat) : Shp 58 (rP r) := Shp.lst (k := 57) fun d hd => by
  obtain ⟨q, _, rfl⟩ := List.mem_map.mp hd
  exact shp_pq q
theorem shp_rPs (rs : List (List Rat)) : Shp 60 (.lst (rs.map rP)) := Shp.mono (Shp.lst (k := 58) fun d hd => by
  obtain ⟨q, _, rfl⟩ := List.mem_map.mp hd
  exact shp_rP q) (by decide)
theorem dot_comm (xs ys : List Rat) : dotC xs ys = dotC ys xs := by
  have go : ∀ (xs ys : List Rat) (s : Rat), (xs.zip ys).foldl (fun s p => s + p.1 * p.2) s = (ys.zip xs).foldl (fun s p => s + p.1 * p.2) s := by
    intro xs
    induction xs with
    | nil => intro ys s; cases ys <;> rfl
    | cons x xs ih =>
      intro ys s
      cases ys with
      | nil => rfl
      | cons y ys =>
        simp only [List.zip_cons_cons, List.foldl_cons]
        rw [ih, Rat.mul_comm]
  exact go xs ys 0
/-- all are of the class -/
def isFr (d : D) : Prop := ∃ q : Rat, d = fq q
theorem tc_told {a : S} {P : List D → List S → Prop} : ∀ (ds : List D), (∀ d ∈ ds, isFr d) → P [] [a, .dead] → TC [1] (pName 1) (mNot (mTest (mUn (dIsC 0 []) (mVar 1)))) (mC (.int 1)) ds [] [a, .dead] P
  | [], _, q => TC0 q
  | d :: ds, h, q => by
    obtain ⟨x, rfl⟩ := h d List.mem_cons_self
    refine TCt ?_
    repeat infer_instance
    exact tc_told ds (fun d hd => h d (List.mem_cons_of_mem _ hd)) q
theorem eq_nil : dEq (.lst []) (.lst []) = some (.bl true) := by
  show dEqD (.lst []) (.lst []) = _
  unfold dEqD
  rfl
theorem ne_nil : dNe (.lst []) (.lst []) = some (.bl false) := by
  show dNeD (.lst []) (.lst []) = _
  unfold dNeD
  rfl
theorem sp_are_told (h : ∀ d ∈ ds, isFr d) (hl : ds.length < 900000) : GD g__law_are_told [.tup ds] (.bl true) := by
  refine GD_of ?_
  unfold m__law_are_told
  refine T_ret (T_op (T_frz (T_comp ?_)))
  repeat infer_instance
  refine ⟨hl, ?_⟩
  refine tc_told ds h ?_
  repeat infer_instance
  exact ⟨_, eq_nil, f_d (le_lit rfl)⟩
theorem drn_rows {w : Nat} (h : Drn w lines) (hl : lines.length ≤ 5) : ∀ r ∈ lines, SzR 19 r ∧ r.length = w := fun r hr => ⟨(h.all (k := 4) (by omega) r hr).mono (by decide), h.len r hr⟩
theorem grow_19 {p : Nat} (h : p < 4) : 4 * grow 19 p < 8990 := by
  have : p = 0 ∨ p = 1 ∨ p = 2 ∨ p = 3 := by omega
  rcases this with rfl | rfl | rfl | rfl <;> decide
theorem grow_le {w : Nat} (h : w ≤ 4) : grow 19 w < 8900 := by
  have : w = 0 ∨ w = 1 ∨ w = 2 ∨ w = 3 ∨ w = 4 := by omega
  rcases this with rfl | rfl | rfl | rfl | rfl <;> decide
theorem clear_props {w : Nat} (hw : ∀ r ∈ rows, r.length = w) (hs : SzA 19 rows) (h4 : w ≤ 4) (hl : rows.length ≤ 5) : (∀ r ∈ clearC w rows, r.length = w) ∧ SzA 8900 (clearC w rows) ∧ (clearC w rows).length ≤ 5 := by
  obtain ⟨i1, i2, i3, i4, i5, i6⟩ := run_inv hw hs (by decide) w (by omega)
  have g := grow_le h4
  have e : (runP w rows).2.length ≤ 5 := by omega
  exact ⟨i4, fun r hr => (i2 r hr).mono (by omega), e⟩
theorem sure_same : ∀ (rs : List (List Rat)), allEq (sureEq 0 g_Fraction_eq 1) (rs.map tF) (rs.map tF) = true
  | [] => rfl
  | r :: rs => by
    have e1 : ∀ r : List Rat, allEq (sureEq 0 g_Fraction_eq 0) (r.map fq) (r.map fq) = true := by
      intro r
      induction r with
      | nil => rfl
      | cons q r ih =>
        have e2 : sureEq 0 g_Fraction_eq 0 (fq q) (fq q) = true := by
          obtain ⟨ss', e, _⟩ := (show GD g_Fraction_eq [fq q, fq q] (.bl true) from by
            have := sp_eq_f (x := q) (y := q)
            simpa using this)
          have c : callsT g_Fraction_eq [fq q, fq q] = true := by
            unfold callsT
            rw [e]
          show baseEq 0 g_Fraction_eq (fq q) (fq q) = true
          unfold baseEq
          simp only [c]
          rfl
        show (sureEq 0 g_Fraction_eq 0 (fq q) (fq q) && allEq (sureEq 0 g_Fraction_eq 0) (r.map fq) (r.map fq)) = true
        rw [e2, ih]
        rfl
    show (sureEq 0 g_Fraction_eq 1 (tF r) (tF r) && allEq (sureEq 0 g_Fraction_eq 1) (rs.map tF) (rs.map tF)) = true
    have e3 : sureEq 0 g_Fraction_eq 1 (tF r) (tF r) = true := e1 r
    rw [e3, sure_same rs]
    rfl
theorem f2_sh (r : List Rat) : F2 Sh (r.map fq) r := F2.of_mapL fun q hq => .f
theorem fr_map (r : List Rat) : ∀ d ∈ r.map fq, isFr d := fun d hd => by
  obtain ⟨q, _, rfl⟩ := List.mem_map.mp hd
  exact ⟨q, rfl⟩
theorem tc_told2 {v : Nat} {ρ : List S} {P : List D → List S → Prop} (hv : ∀ d, (ρ.set v (.dat d))[v]? = some (.dat d)) (hw : ∀ d, wipeR (ρ.set v (.dat d)) [v] = ρ) : ∀ (rs : List (List Rat)), (∀ r ∈ rs, r.length < 900000) → P [] ρ → TC [v] (pName v) (mNot (mTest (mCall 1 g__law_are_told [] (mAgs [.d (mVar v)])))) (mC (.int 1)) (rs.map tF) [] ρ P
  | [], _, q => TC0 q
  | r :: rs, h, q => by
    refine TCt (L_name (T_not (T_test (T_call (T_ags1 (T_var (hv _) (T_ags0 (T_cal rfl rfl (sp_are_told (fr_map r) ?_) (L_asD (L_asB (c_tt (c_ff ?_))))))))))))
    · rw [List.length_map]; exact h r List.mem_cons_self
    · rw [hw]
      exact tc_told2 hv hw rs (fun r hr => h r (List.mem_cons_of_mem _ hr)) q
theorem T_numbers {st : OB → List S} {v : Nat} {it : M (List D)} {Q : OB → List S → Prop} (hs : ∀ o d, isOb ((st o).set v (.dat d))[0]? = some o) (hw : ∀ o o' d, wipeR (putAt ((st o).set v (.dat d)) 0 o') [v] = st o')
    (hr : ∀ o o', restore (st o) (st o') [v] = st o') (hp : ∀ o, [v].all (plainAt (st o)) = true) (hwp : ∀ o, wipeR (st o) [v] = st o) (hit : T it (st o) fun ds' ρ1 => ds' = ds ∧ ρ1 = st o) (hd : Dice L o) (hL : L + 2 * ds.length ≤ 890000)
    (q : ∀ qs o', qs.length = ds.length → SzR 3 qs → Dice (L + 2 * ds.length) o' → Q (.lst (qs.map pq)) (st o')) : T (mComp [v] it (pName v) mYes (mCall 1 g__law_number [] (mAgs [.s 0]))) (st o) Q := by
  refine T_comp (hit.imp fun ds' ρ1 h => ?_)
  obtain ⟨rfl, rfl⟩ := h
  refine ⟨hp o, by omega, ?_⟩
  rw [hwp]
  refine tc_numbers hs hw ds' [] L o (by simp [SzR]) hd (by omega) ?_
  intro qs o' h1 h2 h3
  rw [hr]
  exact q qs o' (by simpa using h1) h2 h3
theorem tF_sh {w : Nat} (hw : ∀ r ∈ rows, r.length = w) (hs : SzA n rows) : F2 (ShR n w) (rows.map tF) rows := F2.of_mapL fun r hr => ⟨r.map fq, rfl, f2_fq (hs r hr), hw r hr⟩
end
def Said (L : Nat) (r : S) (o : OB) : Prop := r = .dat (.bl true) ∧ Dice L o
section
variable {L : Nat} {o : OB}
def stR (o : OB) (a1 a2 a3 a4 a5 a6 a7 a8 : S) : List S := [.par o, a1, a2, a3, a4, a5, a6, a7, a8, .dead, .dead, .dead]
theorem sp_right (hd : Dice L o) (hL : L ≤ 600000) : GS g__law_right o [] (Said (L + 110)) := by
  refine GS_of ?_
  unfold m__law_right
  refine T_cut (fun ρ => ∃ (w : Nat) (lines : List (List Rat)) (o1 : OB), ρ = stR o1 (.dat (.lst (lines.map rP))) .dead .dead .dead .dead .dead .dead .dead ∧ 1 ≤ w ∧ w ≤ 4 ∧ lines ≠ [] ∧ lines.length ≤ 5 ∧ Drn w lines ∧ Dice (L + 62) o1) ?_ fun ρ e => ?_
  · repeat infer_instance
    refine (sp_lines hd (by omega)).imp fun r o1 h => ?_
    obtain ⟨w, lines, rfl, h1, h2, h3, h4, h5, h6⟩ := h
    repeat infer_instance
    exact ⟨w, lines, o1, rfl, h1, h2, h3, h4, h5, h6⟩
  obtain ⟨w, lines, o1, rfl, w0, w4, l0, l5, hdr, hd1⟩ := e
  have hrow := drn_rows hdr l5
  have hw : ∀ r ∈ lines, r.length = w := fun r hr => (hrow r hr).2
  have hs : SzA 19 lines := fun r hr => (hrow r hr).1
  have lpos : 0 < lines.length := List.length_pos_iff.mpr l0
  clear hdr
  have lw : lines.length * w ≤ 20 := Nat.le_trans (Nat.mul_le_mul l5 w4) (by decide)
  refine T_cut (fun ρ => ∃ (dss : List D) (o1 : OB), ρ = stR o1 (.dat (.lst (lines.map rP))) (.dat (.tup dss)) (.dat (.lst (lines.map rP))) .dead .dead .dead .dead .dead ∧ F2 (ShR 19 w) dss lines ∧ Dice (L + 82) o1) ?_ fun ρ e => ?_
  · unfold stR
    repeat infer_instance
    refine (sp_shown_lines (w := w) hd1 (by omega) hrow (by omega) (by decide)).imp fun r o2 h => ?_
    obtain ⟨dss, rfl, h1, h2⟩ := h
    repeat infer_instance
    refine ⟨by rw [List.length_map]; omega, ?_⟩
    refine TC_f0 (R := fun d r => d = rP r) rP ?_ (F2.of_mapL fun r hr => rfl) ?_
    · intro d r hd
      subst hd
      repeat infer_instance
    · refine ⟨rfl, ?_⟩
      refine ⟨rfl, dss, o2, rfl, h1, h2.mono (by omega)⟩
  obtain ⟨dss, o2, rfl, hsh, hd2⟩ := e
  clear hd1 hd
  have dlen := hsh.len
  obtain ⟨r0, rs, hl0⟩ := List.exists_cons_of_ne_nil l0
  have hr0 : r0.length = w := hw r0 (by rw [hl0]; exact List.mem_cons_self)
  have hat : atI (lines.map rP) 0 = some (rP r0) := by rw [hl0]; exact atI_0
  refine T_cut (fun ρ => ∃ (cs fs : List Rat) (o1 : OB), ρ = stR o1 (.dat (.lst (lines.map rP))) (.dat (.tup dss)) (.dat (.lst (lines.map rP))) (.dat (rP cs)) (.dat (rP fs)) .dead .dead .dead ∧ cs.length = w ∧ fs.length = lines.length ∧ SzR 3 cs ∧ SzR 3 fs ∧ Dice (L + 100) o1) ?_ fun ρ e => ?_
  · refine T_set (T_tup (T_args1 (T_frz ?_)))
    refine T_numbers (st := fun o => stR o (.dat (.lst (lines.map rP))) (.dat (.tup dss)) (.dat (.lst (lines.map rP))) .dead .dead .dead .dead .dead) (ds := r0.map pq) (fun _ _ => rfl) (fun _ _ _ => rfl) (fun _ _ => rfl) (fun _ => rfl) (fun _ => rfl) ?_ hd2 (by rw [List.length_map]; omega) ?_
    · unfold stR
      repeat infer_instance
      refine L_ixL hat ?_
      repeat infer_instance
      try rfl
    intro cs o3 c1 c2 c3
    rw [List.length_map] at c1 c3
    refine T_args1 (T_frz ?_)
    refine T_numbers (st := fun o => stR o (.dat (.lst (lines.map rP))) (.dat (.tup dss)) (.dat (.lst (lines.map rP))) .dead .dead .dead .dead .dead) (ds := lines.map rP) (fun _ _ => rfl) (fun _ _ _ => rfl) (fun _ _ => rfl) (fun _ => rfl) (fun _ => rfl) ?_ c3 (by rw [List.length_map]; omega) ?_
    · unfold stR
      repeat infer_instance
      try rfl
    intro fs o4 f1 f2 f3
    rw [List.length_map] at f1 f3
    unfold stR
    repeat infer_instance
    exact ⟨cs, fs, o4, rfl, by omega, f1, c2, f2, f3.mono (by omega)⟩
  obtain ⟨cs, fs, o3, rfl, c1, f1, c2, f2, hd3⟩ := e
  clear hd2
  refine T_cut (fun ρ => ∃ (o1 : OB), ρ = stR o1 (.dat (.lst (lines.map rP))) (.dat (.tup dss)) (.dat (.lst (lines.map rP))) (.dat (rP cs)) (.dat (rP fs)) (.dat (.tup (lines.map fun row => fq (dotC row cs)))) .dead .dead ∧ Dice (L + 104) o1) ?_ fun ρ e => ?_
  · unfold stR
    repeat infer_instance
    refine (sp_shown_row hd3 (by omega) c2 (by decide)).imp fun r o2 h => ?_
    obtain ⟨ds, rfl, h1, h2⟩ := h
    repeat infer_instance
    · refine sp_times_of hsh l0 (by omega) w0 (by omega) h1 c1 ?_
      have : (w + 1) * (19 + 3 + 1) ≤ 5 * 23 := Nat.mul_le_mul (by omega) (by decide)
      omega
    repeat infer_instance
    exact h2.mono (by omega)
  obtain ⟨o4, rfl, hd4⟩ := e
  clear hd3
  have isr : GD g_is_rows [.tup dss] (.bl true) := sp_is_rows hsh l0 (by omega) w0 (by omega)
  have et : (lines.map fun row => fq (dotC row cs)) = (lines.map fun row => dotC row cs).map fq := by rw [List.map_map]; rfl
  have etp : (lines.map fun row => pq (dotC row cs)) = (lines.map fun row => dotC row cs).map pq := by rw [List.map_map]; rfl
  rw [et]
  refine T_cut (fun ρ => ρ = stR o4 (.dat (.lst (lines.map rP))) (.dat (.tup dss)) (.dat (.lst (lines.map rP))) (.dat (rP cs)) (.dat (rP fs)) (.dat (.tup ((lines.map fun row => dotC row cs).map fq))) .dead .dead) ?_ fun ρ e => ?_
  · unfold stR
    repeat infer_instance
    · exact isr
    repeat infer_instance
    refine c_f rfl ?_
    repeat infer_instance
    · exact sp_pairs (f2_sh _) (by rw [List.length_map]; omega)
    repeat infer_instance
    refine ⟨by rw [List.length_map]; omega, ?_⟩
    refine TC_f0 (R := fun d r => d = rP r ∧ SzR 19 r ∧ r.length = w) (fun row => pq (dotC row cs)) ?_ (F2.of_mapL fun r hr => ⟨rfl, hrow r hr⟩) ?_
    · intro d r hd
      obtain ⟨rfl, h1, h2⟩ := hd
      repeat infer_instance
      · refine sp_product h1 c2 ?_
        have : (r.length + 1) * (19 + 3 + 1) ≤ 5 * 23 := Nat.mul_le_mul (by omega) (by decide)
        omega
      repeat infer_instance
    · refine ⟨rfl, ?_⟩
      rw [etp]
      refine L_neSame (Shp.mono (shp_rP _) (by decide)) ?_
      repeat infer_instance
      try rfl
  subst e
  refine T_cut (fun ρ => ∃ (o1 : OB), ρ = stR o1 (.dat (.lst (lines.map rP))) (.dat (.tup dss)) (.dat (.lst (lines.map rP))) (.dat (rP cs)) (.dat (rP fs)) (.dat (.tup ((lines.map fun row => dotC row cs).map fq))) (.dat (.tup ((List.range w).map fun p => fq (dotC fs (col lines p))))) .dead ∧ Dice (L + 110) o1) ?_ fun ρ e => ?_
  · unfold stR
    repeat infer_instance
    refine (sp_shown_row hd4 (by omega) f2 (by decide)).imp fun r o2 h => ?_
    obtain ⟨ds, rfl, h1, h2⟩ := h
    repeat infer_instance
    · refine sp_mix_of hsh l0 (by omega) w0 (by omega) h1 f1 ?_
      have : (lines.length + 1) * (3 + 19 + 1) ≤ 6 * 23 := Nat.mul_le_mul (by omega) (by decide)
      omega
    repeat infer_instance
    exact h2.mono (by omega)
  obtain ⟨o5, rfl, hd5⟩ := e
  clear hd4
  have em : ((List.range w).map fun p => fq (dotC fs (col lines p))) = ((List.range w).map fun p => dotC (col lines p) fs).map fq := by
    rw [List.map_map]
    apply List.map_congr_left
    intro p _
    show fq (dotC fs (col lines p)) = fq (dotC (col lines p) fs)
    rw [dot_comm]
  have emp : ((List.range w).map fun p => pq (dotC (col lines p) fs)) = ((List.range w).map fun p => dotC (col lines p) fs).map pq := by rw [List.map_map]; rfl
  rw [em]
  refine T_cut (fun ρ => ρ = stR o5 (.dat (.lst (lines.map rP))) (.dat (.tup dss)) (.dat (.lst (lines.map rP))) (.dat (rP cs)) (.dat (rP fs)) (.dat (.tup ((lines.map fun row => dotC row cs).map fq))) (.dat (.tup (((List.range w).map fun p => dotC (col lines p) fs).map fq))) .dead) ?_ fun ρ e => ?_
  · unfold stR
    repeat infer_instance
    · exact sp_pairs (f2_sh _) (by rw [List.length_map, List.length_range]; omega)
    repeat infer_instance
    · refine sp_mix (n := 19) (m := 3) hrow l0 (by omega) (by omega) f2 ?_
      have : (lines.length + 1) * (19 + 3 + 1) ≤ 6 * 23 := Nat.mul_le_mul (by omega) (by decide)
      omega
    repeat infer_instance
    rw [emp]
    refine L_neSame (Shp.mono (shp_rP _) (by decide)) ?_
    repeat infer_instance
    have ec : (lines.map fun row => dotC row cs).map fq = fq (dotC r0 cs) :: (rs.map fun row => dotC row cs).map fq := by rw [hl0]; rfl
    rw [ec]
    refine L_catT ?_ (by simp only [List.length_cons, List.length_map, List.length_range]; have : lines.length = rs.length + 1 := by rw [hl0]; rfl
                         omega)
    repeat infer_instance
    · rw [← ec, ← List.map_append]
      refine sp_are_told (fr_map _) (by simp only [List.length_append, List.length_map, List.length_range]; omega)
    repeat infer_instance
    try rfl
  subst e
  have ok1 := fun p hp => ok_first hw hs (by decide) (by omega) p hp (grow_19 (by omega))
  have ok2 := ok_second hw hs (by decide) (by omega) (grow_le w4)
  obtain ⟨k1, k2, k3⟩ := clear_props hw hs w4 l5
  refine T_cut (fun ρ => ρ = stR o5 (.dat (.lst (lines.map rP))) (.dat (.tup dss)) (.dat (.lst (lines.map rP))) (.dat (rP cs)) (.dat (rP fs)) (.dat (.tup ((lines.map fun row => dotC row cs).map fq))) (.dat (.tup (((List.range w).map fun p => dotC (col lines p) fs).map fq))) (.dat (.tup ((clearC w lines).map tF)))) ?_ fun ρ e => ?_
  · unfold stR
    repeat infer_instance
    · exact sp_cleared hsh l0 (by omega) w0 (by omega) ok1 (by omega)
    repeat infer_instance
    try rfl
  subst e
  refine T_cut (fun ρ => ρ = stR o5 (.dat (.lst (lines.map rP))) (.dat (.tup dss)) (.dat (.lst (lines.map rP))) (.dat (rP cs)) (.dat (rP fs)) (.dat (.tup ((lines.map fun row => dotC row cs).map fq))) (.dat (.tup (((List.range w).map fun p => dotC (col lines p) fs).map fq))) (.dat (.tup ((clearC w lines).map tF)))) ?_ fun ρ e => ?_
  · unfold stR
    repeat infer_instance
    refine ⟨by rw [List.length_map]; omega, ?_⟩
    refine TC_f0 (R := fun d r => d = tF r ∧ r.length = w) rP ?_ (F2.of_mapL fun r hr => ⟨rfl, k1 r hr⟩) ?_
    · intro d r hd
      obtain ⟨rfl, h1⟩ := hd
      repeat infer_instance
      · exact sp_pairs (f2_sh _) (by omega)
      repeat infer_instance
    · refine ⟨rfl, ?_⟩
      repeat infer_instance
      · exact sp_lcleared hw l0 (by omega) (by omega) ok1
      repeat infer_instance
      refine L_neSame (shp_rPs _) ?_
      repeat infer_instance
      try rfl
  subst e
  refine T_cut (fun ρ => ρ = stR o5 (.dat (.lst (lines.map rP))) (.dat (.tup dss)) (.dat (.lst (lines.map rP))) (.dat (rP cs)) (.dat (rP fs)) (.dat (.tup ((lines.map fun row => dotC row cs).map fq))) (.dat (.tup (((List.range w).map fun p => dotC (col lines p) fs).map fq))) (.dat (.tup ((clearC w lines).map tF)))) ?_ fun ρ e => ?_
  · unfold stR
    refine T_ifS (T_or (T_test (T_op (T_frz (T_comp ?_)))))
    repeat infer_instance
    refine ⟨by rw [List.length_map]; omega, ?_⟩
    refine tc_told2 (v := 11) (fun _ => rfl) (fun _ => rfl) (clearC w lines) (fun r hr => by rw [k1 r hr]; omega) ?_
    repeat infer_instance
    refine ⟨_, ne_nil, ?_⟩
    repeat infer_instance
    by_cases h0 : clearC w lines = []
    · refine c_f (by rw [h0]; rfl) ?_
      repeat infer_instance
      try rfl
    · refine c_t (by rw [List.length_map]; simp; exact h0) ?_
      have ec := clear_clear hw
      repeat infer_instance
      · exact sp_cleared (tF_sh k1 k2) h0 (by omega) w0 (by omega) ok2 (by rw [ec]; omega)
      rw [ec]
      repeat infer_instance
      refine L_sure (sure_same _) ?_
      repeat infer_instance
      refine c_f rfl ?_
      repeat infer_instance
      try rfl
  subst e
  unfold stR
  repeat infer_instance
  refine ⟨by omega, ?_⟩
  refine TC_f0 (R := ShR 19 w) rP ?_ hsh ?_
  · intro d r hd
    obtain ⟨ds, rfl, h1, h2⟩ := hd
    repeat infer_instance
    · exact sp_pairs (h1.imp fun _ _ h => h.1) (by omega)
    repeat infer_instance
  · refine ⟨rfl, ?_⟩
    repeat infer_instance
    refine L_eqSame (shp_rPs _) ?_
    repeat infer_instance
    exact ⟨rfl, hd5⟩
end
theorem sp_dice {ns : List Int} {k : Int} (k0 : 0 ≤ k) (k1 : k < 1000) : ∃ o, GO g__law_dice [.rdl (ns.map D.int), .int k] o ∧ Dice 0 o := go_dice k0 k1
theorem plain (ns : List Int) : ∃ ss', g_law [.dat (.rdl (ns.map D.int))] = some (.ok (.dat (.bl true)), ss') := by
  suffices h : GD g_law [.rdl (ns.map D.int)] (.bl true) by
    obtain ⟨ss', e, _⟩ := h
    exact ⟨ss', e⟩
  refine GD_of ?_
  unfold m_law
  refine T_cut (fun ρ => ∃ i y z, ρ = [.dat (.rdl (ns.map D.int)), .dat (.int i), y, z, .dead, .dead, .dead, .dead]) ?_ fun ρ e => ?_
  · repeat infer_instance
    generalize hN : (if (if ((ns.map D.int).length : Int) < 6 then ((ns.map D.int).length : Int) else 6) > 1 then (if ((ns.map D.int).length : Int) < 6 then ((ns.map D.int).length : Int) else 6) else 1) = N
    have hN6 : N ≤ 6 ∧ 1 ≤ N := by
      subst hN
      constructor
      · split
        · split <;> omega
        · omega
      · split
        · omega
        · omega
    refine L_rng1 ?_ ⟨by omega, by omega⟩
    refine T_rng (fun j ρ => ∃ x y z, (j = 0 ∨ ∃ i, x = .dat (.int i)) ∧ ρ = [.dat (.rdl (ns.map D.int)), x, y, z, .dead, .dead, .dead, .dead]) N.toNat 0 ?_ ?_ ⟨_, _, _, .inl rfl, rfl⟩
    · intro j ρ hj hI
      obtain ⟨x, y, z, _, rfl⟩ := hI
      refine L_name ?_
      obtain ⟨o, ho, hd⟩ := sp_dice (ns := ns) (k := 0 + (j : Int)) (by omega) (by omega)
      refine T_seq (T_setO (T_callO (T_ags1 (T_var rfl (T_ags1 (T_var rfl (T_ags0 (T_calO rfl rfl ho ?_))))))))
      repeat infer_instance
      refine L_rng1 ?_ ⟨by decide, by decide⟩
      refine T_rng (fun i ρ => ∃ o' z, Dice (110 * i) o' ∧ ρ = [.dat (.rdl (ns.map D.int)), .dat (.int (0 + (j : Int))), .own o', z, .dead, .dead, .dead, .dead]) 8 0 ?_ ?_ ⟨o, z, hd, rfl⟩
      · intro i ρ hi hI
        obtain ⟨o', z, hd', rfl⟩ := hI
        repeat infer_instance
        refine (sp_right hd' (by omega)).imp fun r o2 hr => ?_
        obtain ⟨rfl, hd2⟩ := hr
        repeat infer_instance
        exact ⟨.inl rfl, o2, _, hd2.mono (by omega), rfl⟩
      · intro ρ hI
        obtain ⟨o', z, hd', rfl⟩ := hI
        exact ⟨.inl rfl, _, _, _, .inr ⟨_, rfl⟩, rfl⟩
    · intro ρ hI
      obtain ⟨x, y, z, h, rfl⟩ := hI
      rcases h with h | ⟨i, rfl⟩
      · omega
      · exact ⟨rfl, i, y, z, rfl⟩
  obtain ⟨i, y, z, rfl⟩ := e
  exact T_ker (by kernel_rfl)
end K04
set_option Elab.async false
set_option linter.all false
set_option maxRecDepth 100000
set_option maxHeartbeats 4000000
open PySem PySem.W PySem.Calls PyProof.Rows
theorem PySem.Challenge.cw_surelyends_k04_rows_times_mixes_cleared_holds : PySem.Challenge.rw_surelyends_k04_rows_times_mixes_cleared.Holds := by
  w_on; o_law
  refine HandSHeadRun.head_any (r := OpenLaw.row PySem.Challenge.rw_surelyends_k04_rows_times_mixes_cleared) (q := view (OpenLaw.row PySem.Challenge.rw_surelyends_k04_rows_times_mixes_cleared).prog [52]) (H := K04.hk) (ob := K04.ob) (M := 4000) (loose := K04.lo) (d := HandSHeadRun.topDef (OpenLaw.row PySem.Challenge.rw_surelyends_k04_rows_times_mixes_cleared).prog 52) (kwd := []) K04.ob_eq
    (by kernel_rfl) (fun s => by kernel_rfl) K04.run (by kernel_rfl) (by kernel_rfl) (by kernel_rfl) (by rfl) (by first | assumption | decide +kernel) (by decide +kernel) ⟨rfl, rfl, rfl, rfl, rfl, by decide +kernel⟩ ?hw ?hc
  case hw => w_witness2
  case hc =>
    refine L3.walkG (l := PySem.Challenge.rw_surelyends_k04_rows_times_mixes_cleared) (n := 63) (k := 11) (x := "_law_script") rfl (by decide) (by kernel_rfl) ⟨rfl, by decide, by decide⟩ fun w mg fa h Y G hm0 => ?_
    obtain ⟨K, KX, c⟩ := Y
    have hm : mg ("law" : PySem.Str) = some (.ref fa) := by
      have e : (HandSHeadRun.topDef (OpenLaw.row PySem.Challenge.rw_surelyends_k04_rows_times_mixes_cleared).prog 52).name = ("law" : PySem.Str) := by kernel_rfl
      rw [← e]
      exact hm0
    obtain ⟨A, T, hA⟩ := K04.facts KX G c
    obtain rfl : fa = A.f_law := by
      have e := hm.symm.trans T.g_law
      cases e
      rfl
    have hb := fun s v => L2.FunD.bindsA (ps := ["_law_script"]) T.f_law (fun _ _ _ _ _ _ us hl => match us, hl with | [_], _ => rfl) s [v] rfl
    exact ⟨K, A.d_law, K04.g_law, KX, hb, fun ns _ => K04.plain ns, fun base _ _ => K04.ok_law T⟩
